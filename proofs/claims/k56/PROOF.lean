import PyProof.Rows.All
import Wide.All
import OpenK.AllK
import Wide.FinOn
import HandS.ForMost
import HandS.Strs
import HandS.ForExc
import HandS.TryMany
import KE.GoesEnum
import HandS.CallSlots
import HandS.Wide
import PyProof.EqAt
import PyProof.ReprReads
import HandS.Base
import HandS.Call
import HandS.List
import HandS.Ends
import HandS.More
import HandS.Defaults
import HandS.HeadEnd
import HandS.EndBits
import HandS.Deep
import PyProof.EqKinds
import PyProof.NeKinds
import HandS.Conv
import HandS.Text
import HandS.TupLen
import HandS.IsInst
import HandS.Codes
import HandS.Star
import HandS.FStr
import HandS.Style
import HandS.Comp
import HandS.Iter
import HandS.ExcInit
import HandS.ExcField
import HandS.Property
import PySem.Challenge.RW_cornerturn_k56_texts_refused
import HandS.DictComp
import KE.KStateDown
import Lean
import HandS.Head0
import HandS.Head1
import HandS.Head2
import HandS.HeadHook1
import HandS.HeadHook2
import HandS.HeadHook3
import HandS.HeadHook4
import HandS.HeadNt
set_option Elab.async false
set_option linter.all false
set_option maxRecDepth 100000
set_option maxHeartbeats 0
/-! ML a: len(set(xs)), xs any list or tuple of texts. -/
namespace ML
open PySem PySem.Spec PyProof.Rows L2

/-- the texts, each once, as they are met -/
def met1 (acc : List Str) (x : Str) : List Str := if acc.any (· == x) = true then acc else acc ++ [x]
def metS (xs : List Str) : List Str := xs.foldl met1 []
theorem metS_snoc (xs : List Str) (x : Str) : metS (xs ++ [x]) = met1 (metS xs) x := by
  unfold metS
  rw [List.foldl_append]
  rfl
theorem met1_len (acc : List Str) (x : Str) : (met1 acc x).length = if acc.any (· == x) = true then acc.length else acc.length + 1 := by
  unfold met1
  split <;> simp
theorem met1_any (acc : List Str) (x k : Str) : (met1 acc x).any (· == k) = (acc.any (· == k) || decide (k = x)) := by
  unfold met1
  by_cases e : k = x
  · subst e
    by_cases h : acc.any (· == k) = true
    · rw [if_pos h, h]; rfl
    · rw [if_neg h]; simp
  · have hb : (x == k) = false := beq_eq_false_iff_ne.mpr fun z => e z.symm
    by_cases h : acc.any (· == x) = true
    · rw [if_pos h]; simp [e]
    · rw [if_neg h]; simp [e, hb]
theorem take_snoc {α : Type} {xs : List α} {i : Nat} (h : i < xs.length) : xs.take (i + 1) = xs.take i ++ [xs[i]] := by
  rw [List.take_add_one, List.getElem?_eq_getElem h]
  rfl
theorem metS_le (xs : List Str) : (metS xs).length ≤ xs.length := by
  have q : ∀ (ys : List Str) (acc : List Str), (ys.foldl met1 acc).length ≤ acc.length + ys.length := by
    intro ys
    induction ys with
    | nil => intro acc; exact Nat.le_refl _
    | cons y ys ih =>
      intro acc
      refine Nat.le_trans (ih _) ?_
      rw [met1_len, List.length_cons]
      split <;> omega
  simpa [metS] using q xs []
/-- all met, when none stands twice -/
theorem metS_nodup {xs : List Str} (h : xs.Nodup) : metS xs = xs := by
  have q : ∀ (ys acc : List Str), (acc ++ ys).Nodup → ys.foldl met1 acc = acc ++ ys := by
    intro ys
    induction ys with
    | nil => intro acc _; simp
    | cons y ys ih =>
      intro acc hn
      have hy : ¬ acc.any (· == y) = true := by
        intro z
        obtain ⟨w, hw, e⟩ := List.any_eq_true.mp z
        have e := eq_of_beq e
        subst e
        exact (List.nodup_append.mp hn).2.2 w hw w List.mem_cons_self rfl
      have e1 : met1 acc y = acc ++ [y] := by unfold met1; rw [if_neg hy]
      rw [List.foldl_cons, e1, ih (acc ++ [y]) (by simpa using hn)]
      simp
  simpa [metS] using q xs [] (by simpa using h)
theorem metS_twice {xs : List Str} (h : ¬ xs.Nodup) : (metS xs).length < xs.length := by
  have q : ∀ (ys acc : List Str), acc.Nodup → ¬ (acc ++ ys).Nodup → (ys.foldl met1 acc).length < acc.length + ys.length := by
    intro ys
    induction ys with
    | nil => intro acc h1 h2; simp at h2; exact absurd h1 h2
    | cons y ys ih =>
      intro acc h1 h2
      rw [List.foldl_cons]
      by_cases hy : acc.any (· == y) = true
      · have e1 : met1 acc y = acc := by unfold met1; rw [if_pos hy]
        rw [e1]
        have r : ∀ (zs bcc : List Str), (zs.foldl met1 bcc).length ≤ bcc.length + zs.length := by
          intro zs
          induction zs with
          | nil => intro bcc; exact Nat.le_refl _
          | cons z zs iz =>
            intro bcc
            refine Nat.le_trans (iz _) ?_
            rw [met1_len, List.length_cons]
            split <;> omega
        have := r ys acc
        rw [List.length_cons]
        omega
      · have e1 : met1 acc y = acc ++ [y] := by unfold met1; rw [if_neg hy]
        rw [e1]
        have n1 : (acc ++ [y]).Nodup := by
          refine List.nodup_append.mpr ⟨h1, by simp, fun a ha b hb e => ?_⟩
          have e2 := List.mem_singleton.mp hb
          subst e2
          subst e
          exact hy (List.any_eq_true.mpr ⟨a, ha, beq_self_eq_true a⟩)
        have := ih (acc ++ [y]) n1 (by simpa using h2)
        rw [List.length_append, List.length_singleton] at this
        rw [List.length_cons]
        omega
  simpa [metS] using q xs [] List.nodup_nil (by simpa using h)

section
variable {P : Program} {w : World} {A : Around} {R : Result → Shared → Prop} {J : Addr} {fp wr : List Addr} {G : Array GenState → Array GenState → Prop} {n : Nat} {Pv : Nat → Value → Prop} {St : Nat → Shared → Prop}
abbrev HoldsS (P : Program) (w : World) (h : Heap) (a : Addr) (ys : List Str) : Prop := h.SetOf (PySem.strKind P w) a (fun k => ys.any (· == k)) ys.length
theorem holdsS_at {h h' : Heap} {a : Addr} {ys : List Str} (x : HoldsS P w h a ys) (k : ∀ o, h.get? a = some o → h'.get? a = some o) : HoldsS P w h' a ys := by
  obtain ⟨o, es, ep, t, ho, r⟩ := x
  exact ⟨o, es, ep, t, k o ho, r⟩
/-- the set's loop over texts -/
theorem fillS (W : WalksS P w A.in1 J fp wr G n Pv St) (S : Addr) (hSf : S ∉ fp) (xs : List Str) (hsz : xs.length = n) (hb : n + 1 < scanBound) (hval : ∀ i v, Pv i v → ∃ t, v = .str (xs.getD i Str.empty) t) :
    ∀ (k i : Nat) (s : Shared), n - i = k → i ≤ n → St i s → HoldsS P w s.heap S (metS (xs.take i)) →
      (∀ s', Moved (S :: wr) G s s' → HoldsS P w s'.heap S (metS xs) → R (.ok (.ret .none)) s') → codeAny (model P w) A (.builtin "set.update.loop" ⟨[.ref S, .ref J], []⟩) R s := by
  have notW : S ∉ wr := fun z => hSf (W.sub _ z)
  have up : ∀ b ∈ wr, b ∈ S :: wr := fun b z => List.mem_cons_of_mem _ z
  intro k
  induction k with
  | zero =>
    intro i s e0 hi st hS hR
    have e : i = xs.length := by omega
    refine codeAny_builtin PyProof.Rows.F.entry_set_update_loop ?_
    rw [Around.under_plainId PyProof.Rows.F.plain_set_update_loop _]
    show wpAny _ A.in1 (pyNext (.ref J) >>= _) _ _ s
    refine wpAny_bind (W.done s _ _ (by rw [← hsz, ← e]; exact st) fun s' mv => ?_)
    show wpAny _ A.in1 (ret Value.none) _ _ s'
    refine wpAny_pure (hR s' (mv.mono up) ?_)
    have q := holdsS_at hS fun o ho => mv.heap S o notW ho
    rw [e, List.take_length] at q
    exact q
  | succ k ih =>
    intro i s e0 hi st hS hR
    have lt : i < n := by omega
    have ltx : i < xs.length := by omega
    refine codeAny_builtin PyProof.Rows.F.entry_set_update_loop ?_
    rw [Around.under_plainId PyProof.Rows.F.plain_set_update_loop _]
    show wpAny _ A.in1 (pyNext (.ref J) >>= _) _ _ s
    refine wpAny_bind (W.item i s _ _ lt st fun v s' pv st' mv => ?_)
    obtain ⟨t, ev⟩ := hval i v pv
    have eg : xs.getD i Str.empty = xs[i] := by
      rw [List.getD_eq_getElem?_getD, List.getElem?_eq_getElem ltx]
      rfl
    rw [eg] at ev
    subst ev
    have hS' : HoldsS P w s'.heap S (metS (xs.take i)) := holdsS_at hS fun o ho => mv.heap S o notW ho
    have small : (metS (xs.take i)).length + 1 < scanBound := by
      have := metS_le (xs.take i)
      rw [List.length_take] at this
      omega
    show wpAny _ A.in1 (holding [Value.str xs[i] t] (setAdd S (.str xs[i] t)) >>= _) _ _ s'
    refine wpAny_bind (wpAny_holding ?_)
    unfold setAdd
    refine wpAny_holding (wpAny_bind ((PySem.strKind P w).pyHash (k := xs[i]) (strKind_is _ _ _ _) ?_))
    refine wpAny_setAddHashed_of (knd := PySem.strKind P w) (s := { s' with toks := s'.toks + 1 }) (strKind_is _ _ _ _) rfl hS' small fun h' sb hS2 => ?_
    have hS3 : HoldsS P w h' S (metS (xs.take (i + 1))) := by
      rw [take_snoc ltx, metS_snoc]
      exact SetOf_congr hS2 (fun k' => (met1_any _ _ _).symm) (met1_len _ _).symm
    refine wpAny_pure ⟨plainId_quiet PyProof.Rows.F.plain_set_update_loop _, ih (i + 1) _ (by omega) lt (W.frame _ s' _ _ st' (Nat.le_succ _) fun b hb' o eo => ?_) hS3 fun s2 mv2 z => ?_⟩
    · rw [sb.2 b (fun z : b = S => hSf (by rw [← z]; exact hb'))]
      exact eo
    · refine hR s2 (Moved.trans W.gtrans ((mv.mono up).then_heap (Nat.le_succ _) fun b o hb' eo => ?_) mv2) z
      rw [sb.2 b (fun z : b = S => hb' (by rw [z]; exact List.mem_cons_self))]
      exact eo
end
end ML


/-! ML b: set(xs) of texts, as a call. -/
namespace ML
open PySem PySem.Spec PyProof.Rows L2

section
variable {P : Program} {w : World} {A : Around} {E : Value → Shared → Prop} {s : Shared}
abbrev emptyS (led : Bool) : Obj := { cls := .type "set", dict := none, data := .set #[] 0 (.fresh 0 0 led) }
/-- a new set's fill by an iterator that was just laid -/
theorem fillNew {l : Addr} {items : Array Value} {xs : List Str} {led : Bool} {o : Obj} {Pv : Nat → Value → Prop} {St : Nat → Shared → Prop} {B : Around} {R : Result → Shared → Prop}
    (W : WalksS P w B.in1 (s.heap.push (emptyS led)).objs.size [(s.heap.push (emptyS led)).objs.size, l] [(s.heap.push (emptyS led)).objs.size] (fun a b => b = a) items.size Pv St)
    (hl : l < s.heap.objs.size) (hz : xs.length = items.size) (hb : items.size + 1 < scanBound) (hval : ∀ i v, Pv i v → ∃ t, v = .str (xs.getD i Str.empty) t)
    (st : St 0 { s with heap := (s.heap.push (emptyS led)).push o })
    (fin : ∀ (h' : Heap) (tk : Nat), HoldsS P w h' s.heap.objs.size (metS xs) → (∀ b o, b < s.heap.objs.size → s.heap.get? b = some o → h'.get? b = some o) → R (.ok (.ret .none)) { s with heap := h', toks := tk }) :
    codeAny (model P w) B (.builtin "set.update.loop" ⟨[.ref s.heap.objs.size, .ref (s.heap.push (emptyS led)).objs.size], []⟩) R { s with heap := (s.heap.push (emptyS led)).push o } := by
  have sz : (s.heap.push (emptyS led)).objs.size = s.heap.objs.size + 1 := Heap.size_push ..
  have at0 : (s.heap.push (emptyS led)).get? s.heap.objs.size = some (emptyS led) := Heap.get?_push_size _ rfl
  have at1 : ((s.heap.push (emptyS led)).push o).get? s.heap.objs.size = some (emptyS led) := Heap.get?_push_of_some _ at0
  have hf : s.heap.objs.size ∉ [(s.heap.push (emptyS led)).objs.size, l] := by
    rw [sz]
    intro z
    rcases List.mem_cons.mp z with z | z
    · exact absurd z (Nat.ne_of_lt (Nat.lt_succ_self _))
    · exact absurd (List.mem_singleton.mp z) (Nat.ne_of_gt hl)
  refine fillS W s.heap.objs.size hf xs hz hb hval (items.size - 0) 0 _ (by omega) (Nat.zero_le _) st ?_ fun s' mv hS => ?_
  · exact SetOf_congr ((PyProof.Rows.setObjOf_fresh (knd := PySem.strKind P w) led).setOf at1 (by unfold scanBound; omega)) (fun _ => rfl) rfl
  · obtain ⟨h', g2, d2, tk', os2⟩ := s'
    have e1 : g2 = s.gens := by first | exact mv.gens | exact mv.gens.symm
    have e2 : d2 = s.drawn := mv.drawn
    have e3 : os2 = s.os := mv.os
    subst e1 e2 e3
    refine fin h' tk' hS fun b ob hb2 e => mv.heap b ob (fun z => ?_) (Heap.get?_push_of_some _ (Heap.get?_push_of_some _ e))
    rcases List.mem_cons.mp z with z | z
    · exact absurd z (Nat.ne_of_lt hb2)
    · have z2 := List.mem_singleton.mp z
      rw [sz] at z2
      exact absurd z2 (Nat.ne_of_lt (Nat.lt_succ_of_lt hb2))
/-- what a call of set's __init__ leaves -/
abbrev SetPost (P : Program) (w : World) (s : Shared) (xs : List Str) (r : Value) (s2 : Shared) : Prop := r = .none ∧ ∃ h' tk, s2 = { s with heap := h', toks := tk } ∧ HoldsS P w h' s.heap.objs.size (metS xs) ∧ ∀ b o, b < s.heap.objs.size → s.heap.get? b = some o → h'.get? b = some o
theorem call_setS {l : Addr} {items : Array Value} {xs : List Str} {Q : Value → Shared → Prop} (hh : A.handled = none) (hl : s.heap.IsList l items ∨ s.heap.IsTuple l items) (hi : PyProof.Rows.StrsAre items.toList xs) (hb : xs.length + 1 < scanBound)
    (h : ∀ (h' : Heap) (tk : Nat), HoldsS P w h' s.heap.objs.size (metS xs) → (∀ b o, b < s.heap.objs.size → s.heap.get? b = some o → h'.get? b = some o) → Q (.ref s.heap.objs.size) { s with heap := h', toks := tk }) :
    wpAny (model P w) A (call (.type "set") [.ref l]) Q E s := by
  have hz : xs.length = items.size := by rw [← StrsAre.len_eq hi, Array.length_toList]
  have hval : ∀ (i : Nat) (v : Value), items[i]? = some v → ∃ t, v = .str (xs.getD i Str.empty) t := fun i v hv => SS.strs_at hi i v (by rw [Array.getElem?_toList]; exact hv)
  obtain ⟨m1, m2, mro⟩ := PySem.F.called_set.mro
  have g1 := PySem.F.called_set.made
  have g2 := PySem.F.called_set.sub
  refine wpAny_call (codeAny_of_tree ?_)
  show wpAny _ _ (callAny (.type "set") _) _ _ _
  refine wpAny_pure ⟨Code.quiet_builtin _ (by decide +kernel), codeAny_builtin PySem.F.entry_type_call ?_⟩
  rw [Around.under_plain (weight_type_call_type "set" [.ref l] []) rfl]
  have g3 := PySem.F.called_set.notType
  have g4 := PySem.F.called_set.canCreate
  have g5 := PySem.F.typeCall_set_1 (.ref l)
  repeat (any_goals (first | assumption | wp_step))
  refine codeAny_mono (code_set_new_1 (.ref l) (E := E) (Q₁ := fun obj s₁ => ∃ led : Bool, obj = .ref s.heap.objs.size ∧ s₁ = { s with heap := s.heap.push (emptyS led) }) fun led => ⟨led, rfl, rfl⟩) fun r s₁ hr => ?_
  cases r with
  | error e => exact hr
  | ok fl => cases fl with
    | ret obj =>
      obtain ⟨led, rfl, rfl⟩ := hr
      have at0 : (s.heap.push (emptyS led)).get? s.heap.objs.size = some (emptyS led) := Heap.get?_push_size _ rfl
      have isS : Shared.TypeIs { s with heap := s.heap.push (emptyS led) } (.ref s.heap.objs.size) "set" := ⟨_, at0, rfl⟩
      have g6 := PySem.F.called_set.init.lookup
      have g7 := PySem.F.called_set.init.bind (.ref s.heap.objs.size)
      repeat (any_goals (first | assumption | wp_step))
      refine codeAny_mono (codeAny_call_builtin (R := wants (SetPost P w s xs) E) PySem.F.called_set.init.plain PySem.F.entry_set_init (check_set_init_1 isS ?_)) fun r₂ s₂ hr₂ => ?_
      · have h3 : A.in1.in1.in1.handled = none := by simp [hh]
        rcases hl with ⟨⟨c1, c2, c3, c4⟩, ho, hc, nl, hd⟩ | ⟨⟨c1, c2, c3, c4⟩, ho, hc, nl, hd⟩
        · simp only at hc hd
          subst hc hd
          have lt := Heap.lt_size ho
          have ho2 : (s.heap.push (emptyS led)).get? l = some { cls := .type "list", dict := c2, data := .seq items nl, slots := c4 } := Heap.get?_push_of_some _ ho
          have k1 := PySem.F.sub_list_set
          have k2 := PySem.F.sub_list_frozenset
          have k3 : (Value.type "list" == Value.type "dict") = false := by decide
          have il : (s.heap.push (emptyS led)).IsList l items := ⟨_, ho2, rfl, nl, rfl⟩
          have ne : l ≠ (s.heap.push (emptyS led)).objs.size := by
            rw [Heap.size_push]
            exact Nat.ne_of_lt (Nat.lt_succ_of_lt lt)
          unfold Builtin.«set.__init__» noKeywords Builtin.Frozenset.updateFrom
          generalize hPI : pyIter = PI
          wp_walk
          subst hPI
          refine wpAny_pyIter_list il (wpAny_bind (wpAny_runValue ?_))
          refine fillNew ((Walks.list h3 _ l ne items).toS) lt hz (by omega) hval ⟨⟨_, Heap.get?_push_size _ rfl, rfl, rfl⟩, il.push _⟩ fun h' tk x y => ?_
          show wpAny _ _ _ _ _ _
          refine wpAny_pure ?_
          show wpAny _ _ (ret Value.none) _ _ _
          exact wpAny_pure ⟨rfl, h', tk, rfl, x, y⟩
        · simp only at hc hd
          subst hc hd
          have lt := Heap.lt_size ho
          have ho2 : (s.heap.push (emptyS led)).get? l = some { cls := .type "tuple", dict := c2, data := .seq items nl, slots := c4 } := Heap.get?_push_of_some _ ho
          have k1 := PySem.F.sub_tuple_set
          have k2 := PySem.F.sub_tuple_frozenset
          have k3 : (Value.type "tuple" == Value.type "dict") = false := by decide
          have il : (s.heap.push (emptyS led)).IsTuple l items := ⟨_, ho2, rfl, nl, rfl⟩
          have ne : l ≠ (s.heap.push (emptyS led)).objs.size := by
            rw [Heap.size_push]
            exact Nat.ne_of_lt (Nat.lt_succ_of_lt lt)
          unfold Builtin.«set.__init__» noKeywords Builtin.Frozenset.updateFrom
          generalize hPI : pyIter = PI
          wp_walk
          subst hPI
          refine wpAny_pyIter_tuple il (wpAny_bind (wpAny_runValue ?_))
          refine fillNew ((Walks.tuple h3 _ l ne items).toS) lt hz (by omega) hval ⟨⟨_, Heap.get?_push_size _ rfl, rfl, rfl⟩, il.push _⟩ fun h' tk x y => ?_
          show wpAny _ _ _ _ _ _
          refine wpAny_pure ?_
          show wpAny _ _ (ret Value.none) _ _ _
          exact wpAny_pure ⟨rfl, h', tk, rfl, x, y⟩
      · cases r₂ with
        | error e => exact hr₂
        | ok f2 => cases f2 with
          | ret r =>
            obtain ⟨rfl, h', tk, rfl, x, y⟩ := hr₂
            repeat (any_goals (first | assumption | wp_step))
            exact h _ _ x y
          | _ => exact hr₂.elim
    | _ => exact hr.elim
end
/-- len(set(xs)) -/
def tLenS (K : PySem.W.Frag) (ta : TE) : TE := fun σ H Q => ta σ H fun x H1 => ∃ l, ∃ xs : List Str, x = .ref l ∧ (SqL K H1 l (xs.map V.str) ∨ SqT K H1 l (xs.map V.str)) ∧ xs.length ≤ 1000 ∧ Q (.int ((metS xs).length : Nat)) H1
theorem pe_lenS {X : Cx} {a : Expr} {ta : TE} {p p2 q pos : Pos} (hc : X.calm = true) (hg : Gl X "len") (hm : X.mg "len" = none) (hg2 : Gl X "set") (hm2 : X.mg "set" = none) (ha : PE X a ta)
    (na : starEach [a] X.env = (false, eval a X.env) :: starEach [] X.env := by rfl) : PE X (.Call (.Name "len" p) [.Call (.Name "set" p2) [a] [] q] [] pos) (tLenS X.K ta) := by
  refine ⟨fun pins s σ H Q I h => Call_ (ld_blt I hg hm boot_len (PyProof.Rows.callWith_builtin1 (PyProof.Rows.args_cons ?_ rfl) rfl rfl))⟩
  refine Call_ (ld_blt I hg2 hm2 boot_set ?_)
  refine PyProof.Rows.callWith_type1 (PyProof.Rows.args_cons (thn (ha.run pins s σ H _ I h) fun v s1 ⟨x, H1, I1, r1, q1⟩ => PyProof.Rows.args_nil ?_) na) na rfl
  obtain ⟨l, xs, rfl, hq, hz, q1⟩ := q1
  cases r1
  obtain ⟨its, r, pl⟩ : ∃ its : List Value, Vals (xs.map V.str) its ∧ (s1.heap.IsList l its.toArray ∨ s1.heap.IsTuple l its.toArray) := by
    rcases hq with hq | hq
    · obtain ⟨its, r, pl, _⟩ := I1.list hq
      exact ⟨its, r, .inl pl.isList⟩
    · obtain ⟨its, r, pl, _⟩ := I1.tuple hq
      exact ⟨its, r, .inr pl⟩
  refine call_setS (I1.ok.hd hc) pl (by simpa using strsAre_of r) (by unfold scanBound; omega) fun h' tk x hk => PyProof.Rows.args_nil ?_
  obtain ⟨o, es, ep, t, ho, hex, hd, _, _, _, hf, hn⟩ := x
  have I2 : Inv X pins σ H1 { s1 with heap := h', toks := tk } := I1.kept fun b o e => hk b o (Heap.lt_size e) e
  have := metS_le xs
  exact call_len_set ho hex hd hf (by rw [hn]; omega) ⟨.int ((metS xs).length : Nat), H1, I2.tok _, ⟨_, by rw [hn]⟩, q1⟩
end ML


/-! ML c: try with any number of except clauses: one class or two in a tuple, with a name or without. -/
namespace ML
open PySem PySem.Spec PyProof.Rows L2

/-- what a clause with the name in slot i leaves -/
def endsG (D : Ends) : Option Nat → Ends
  | none => D
  | some i => { nx := fun σ H => D.nx (σ.set i none) H, rt := D.rt, bk := fun σ H => D.bk (σ.set i none) H, ct := fun σ H => D.ct (σ.set i none) H }
def slotG (σ : L2.St) (a : Addr) : Option Nat → L2.St
  | none => σ
  | some i => σ.set i (some (.ref a))
abbrev Cl := List Value × Option Nat × (Addr → Value → Option Addr → TS)
/-- what the clauses wish of an exception of the body -/
def wG (K : PySem.W.Frag) (Wout : WX) (D : Ends) : List Cl → WX
  | [] => Wout
  | (cs, nm, ts) :: r => fun cls d σ H => ∃ b, PySem.W.exmAny K cls cs = some b ∧ (b = true → ∀ a, H a = none → ts a cls d (endsG D nm) (slotG σ a nm) H) ∧ (b = false → wG K Wout D r cls d σ H)
/-- the classes that a clause's head names -/
inductive Heads (X : Cx) : Expr → List Value → Prop
  | one {x : Str} {c : Value} {p : Pos} : Names X x c → Heads X (.Name x p) [c]
  | two {x y : Str} {c d : Value} {p q t : Pos} {k : Nat} : Names X x c → Names X y d → Heads X (.Tuple [.Name x p, .Name y q] k t) [c, d]
inductive Named (X : Cx) : Option Str → Option Nat → Prop
  | no : Named X none none
  | yes {n : Str} {i : Nat} : X.N[i]? = some n → X.env.kindOf n = some .local → Named X (some n) (some i)
inductive Cls (X : Cx) : List ExceptHandler → List Cl → Prop
  | nil : Cls X [] []
  | cons {t : Expr} {cs : List Value} {nm : Option Str} {i : Option Nat} {ts : Addr → Value → Option Addr → TS} {b₀ : Stmt} {suite : List Stmt} {pos : Pos} {hds : List ExceptHandler} {l : List Cl} : Heads X t cs → Named X nm i →
      (∀ (a : Addr) (oe : Obj) (cls : Value) (d : Option Addr) (pn : List (Addr × Obj)), Zc cls d oe → (∃ vs, oe.data = .fields vs) → PSs (X.suite a ((a, oe) :: pn)) (b₀ :: suite) (ts a cls d)) → Cls X hds l →
      Cls X (.ExceptHandler (some t) nm (b₀ :: suite) pos :: hds) ((cs, i, ts) :: l)
theorem flying_push {B h : Heap} {l : List Env} {a : Addr} {Z : Obj → Prop} (f : HandSPX.FlyingZ B l a Z h) (o : Obj) : HandSPX.FlyingZ B l a Z (h.push o) := by
  obtain ⟨f1, f2, f3, oe, vs, T, oT, ts, e1, e2, e3, e4, e5, e6, e7, e8, e9⟩ := f
  exact ⟨fun b u z => Heap.get?_push_of_some _ (f1 b u z), f2, f3.of_keeps fun b u z _ => ⟨u, Heap.get?_push_of_some _ z, rfl⟩, oe, vs, T, oT, ts, Heap.get?_push_of_some _ e1, e2, e3, e4, e5, e6, Heap.get?_push_of_some _ e7, e8, e9⟩
theorem exm_get {K : PySem.W.Frag} {cls c : Value} {b : Bool} (h : PySem.W.exmAny K cls [c] = some b) : PySem.W.exmOne K cls c = some b := by
  obtain ⟨b1, d1, e1, e2, e3⟩ := PySem.W.exmAny_cons h
  have e2 : some false = some d1 := e2
  cases e2
  rw [e3, Bool.or_false]
  exact e1
section
variable {X : Cx} {body : List Stmt} {h₀ : ExceptHandler} {hds : List ExceptHandler} {l : List Cl} {pos : Pos} {tb : WX → TS} {Wout : WX}
theorem ps_tryG (hs : X.stack = X.env :: X.outer) (hf : X.env.frame = some X.env.locals) (hN : X.N.Nodup) (tk : Takes X Wout)
    (hb : ∀ (W : WX) (pn : List (Addr × Obj)) (xe : Value → Shared → Prop), Takes (X.tr pn xe) W → PassesOwn (model X.prog X.w) X.A X.env xe → PSs (X.tr pn xe) body (tb W)) (hh : Cls X (h₀ :: hds) l) :
    PS X (.Try body (h₀ :: hds) [] [] pos) (fun D σ H => tb (wG X.K Wout D l) D σ H) := by
  refine ⟨fun pins s σ H D I want => ?_⟩
  have ok := I.ok
  have hfr : X.A.frames = some (X.env :: X.outer) := by rw [ok.frames, hs]
  refine wpAny_Try_except (wpAny_mono ((hb (wG X.K Wout D l) (X.pn ++ pins) (fun e s1 => wpAny (model X.prog X.w) X.A (noteFrame e X.env) (fun _ s2 => wpAny (model X.prog X.w) X.A (setFlight e none) (fun _ s3 =>
    wpAny (model X.prog X.w) X.A (handleBy e X.env (h₀ :: hds)) (SP X pins D) X.xe s3) X.xe s2) X.xe s1) (fun u s' xx => ?_) PassesOwn.looking).run [] s σ H D (I.toTry _) want) (fun f s1 hsp => ?_) (fun e s1 he => he))
  · obtain ⟨a, B, sI, pins', σ', H', cls, d, rfl, J', nb, up, sky, na, os, ag, w⟩ := xx
    have J : Inv X pins σ' H' sI := J'.ofTry ok
    have sky' : Sky B (X.env :: X.outer) a (Zc cls d) X.env.locals s'.heap := by rw [← hs]; exact sky
    show wpAny (model X.prog X.w) X.A (noteFrame (.ref a) X.env) _ _ _
    refine Sky.land Zc.steady hfr hf sky' fun h3 fl3 up3 => ?_
    -- the clauses, from any heap on which it stands
    have go : ∀ {hs' : List ExceptHandler} {l' : List Cl}, Cls X hs' l' → ∀ {h5 : Heap}, HandSPX.FlyingZ B (X.env :: X.outer) a (Zc cls d) h5 → sI.heap.UpToSlots h5 → wG X.K Wout D l' cls d σ' H' →
        wpAny (model X.prog X.w) X.A (handleBy (.ref a) X.env hs') (SP X pins D) X.xe { s' with heap := h5 } := by
      intro hs' l' hk
      induction hk with
      | nil =>
        intro h5 fl5 up5 w
        refine wpAny_handleBy_nil ?_
        obtain ⟨k1, k2, k3, oe, vs, T, oT, ts', he, hz, hd, h1, hr⟩ := id fl5
        unfold PySem.passOn
        refine wpAny_bind (wpAny_field he hd h1 ?_)
        rw [if_neg (show ¬ ((Value.ref T == Value.none) = true) from by simp)]
        have J5 : Inv X pins σ' H' { s' with heap := h5 } := J.landed nb fl5.1 up5 os ag
        have fin : wpAny (model X.prog X.w) X.A (setFlight (.ref a) X.env.frame) (fun _ s4 => wpAny (model X.prog X.w) X.A (throw (.ref a) : Sem Flow) (SP X pins D) X.xe s4) X.xe { s' with heap := h5 } := by
          rw [hf]
          refine HandSPX.setFlight_upZ fl5 fun h4 hh4 up4 => wpAny_throw (tk _ _ ?_)
          exact ⟨a, B, sI, pins, σ', H', cls, d, rfl, J, nb, up5.trans up4, .inr (.inr (by rw [hs]; exact hh4)), na, os, ag, w⟩
        first
          | exact wpAny_bind (wpAny_pure (wpAny_bind fin))
          | exact wpAny_bind fin
      | @cons t cs nm i ts b₀ suite pos' hds2 l2 ht hn hsu r ih =>
        intro h5 fl5 up5 w
        obtain ⟨b, hb1, hyes, hno⟩ := w
        have frz : ∀ {h : Heap}, HandSPX.FlyingZ B (X.env :: X.outer) a (Zc cls d) h → (∃ oe vs, h.get? a = some oe ∧ Zc cls d oe ∧ oe.data = .fields vs) ∧ a ≠ X.env.locals ∧ a ∉ X.fs := fun {h} f => by
          obtain ⟨oe, vs, he, hz, hd⟩ := f.there
          have nfr : a ∉ frs (X.env :: X.outer) := fun hm => by
            obtain ⟨_, o', e', hnf⟩ := f.2.2.1.mem hm
            rw [he] at e'
            cases e'
            exact hnf _ hd
          refine ⟨⟨oe, vs, he, hz, hd⟩, fun z => nfr (List.mem_filterMap.mpr ⟨X.env, List.mem_cons_self, by rw [hf, z]⟩), fun hm => ?_⟩
          obtain ⟨e, he, q⟩ := List.mem_filterMap.mp hm
          exact nfr (List.mem_filterMap.mpr ⟨e, List.mem_cons_of_mem _ he, q⟩)
        have inS : ∀ {h : Heap} (f : HandSPX.FlyingZ B (X.env :: X.outer) a (Zc cls d) h), sI.heap.UpToSlots h → ∃ oe vs, h.get? a = some oe ∧ Zc cls d oe ∧ oe.data = .fields vs ∧ Inv (X.suite a ((a, oe) :: (X.pn ++ pins))) [] σ' H' { s' with heap := h } := fun {h} f u => by
          obtain ⟨⟨oe, vs, he, hz, hd⟩, n1, n2⟩ := frz f
          have J6 : Inv X pins σ' H' { s' with heap := h } := J.landed nb f.1 u os ag
          exact ⟨oe, vs, he, hz, hd, J6.suite he hd na n1 n2⟩
        obtain ⟨oe5, vs5, he5, hz5, hd5, S5⟩ := inS fl5 up5
        have name : ∀ {x : Str} {c : Value} {p : Pos} {Q E : Value → Shared → Prop}, Names X x c → Q c { s' with heap := h5 } → wpAny (model X.prog X.w) (X.A.mark (some (.ref a))) (eval (.Name x p) X.env) Q E { s' with heap := h5 } := fun {x c p Q E} hx q => by
          obtain ⟨hg, hdbg, hm | ⟨hm, hv, hnn⟩⟩ := hx
          · exact ld_glob (X := X.suite a ((a, oe5) :: (X.pn ++ pins))) S5 hg hm q hdbg
          · exact ld_blt (X := X.suite a ((a, oe5) :: (X.pn ++ pins))) S5 hg hm hv q hnn hdbg
        -- the test
        have test : ∀ {Q : Bool → Shared → Prop} {E1 E2 : Value → Shared → Prop}, (∀ h6, HandSPX.FlyingZ B (X.env :: X.outer) a (Zc cls d) h6 → sI.heap.UpToSlots h6 → Q b { s' with heap := h6 }) →
            wpAny (model X.prog X.w) (X.A.mark (some (.ref a))) (eval t X.env) (fun c s1 => wpAny (model X.prog X.w) (X.A.mark (some (.ref a))) (excMatches (.ref a) c) Q E2 s1) E1 { s' with heap := h5 } := fun {Q E1 E2} q => by
          cases ht with
          | @one x c p hx =>
            have LT : PySem.W.Looks (model X.prog X.w) h5 (typeOf (.ref a)) cls := fun A Q E s k q => wpAny_typeOf_ref (k _ _ he5) (by rw [hz5.1]; exact q)
            have LM := PySem.W.exm_one (M := model X.prog X.w) S5.kIn LT (exm_get hb1)
            exact name hx (LM.here (q h5 fl5 up5))
          | @two x y c c2 p q0 t0 k0 hx hy =>
            refine Tuple_ ?_
            refine PyProof.Rows.args_cons (name hx (PyProof.Rows.args_cons (name hy (PyProof.Rows.args_nil ?_)) rfl)) rfl
            refine wpAny_newObj_type ?_ (by show 2 ≤ sizeLine; decide)
            have fp := flying_push fl5 { cls := .type "tuple", data := .seq [c, c2].toArray }
            have upp : sI.heap.UpToSlots (h5.push { cls := .type "tuple", data := .seq [c, c2].toArray }) := up5.trans fun b o z _ => ⟨o.slots, Heap.get?_push_of_some _ z⟩
            obtain ⟨oe6, vs6, he6, hz6, hd6, S6⟩ := inS fp upp
            have LT : PySem.W.Looks (model X.prog X.w) (h5.push { cls := .type "tuple", data := .seq [c, c2].toArray }) (typeOf (.ref a)) cls := fun A Q E s k q => wpAny_typeOf_ref (k _ _ he6) (by rw [hz6.1]; exact q)
            have LM := PySem.W.exm_tup2 (M := model X.prog X.w) S6.kIn LT (Heap.get?_push_size _ rfl) hb1
            exact LM.here (q _ fp upp)
        refine wpAny_handleBy_cons (codeAny_handlers_test (test fun h6 f6 u6 => ?_)) (by intro q; cases q)
        cases b with
        | false =>
          show wpAny _ X.A (handleBy (.ref a) X.env hds2) _ _ _
          exact ih f6 u6 (hno rfl)
        | true =>
          cases hn with
          | no =>
            refine codeAny_handlers_suite ?_
            refine HandSPX.lands_againZ f6 fun h7 f7 up7 => ?_
            obtain ⟨oe7, vs7, he7, hz7, hd7, S7⟩ := inS f7 (u6.trans up7)
            refine wpAny_mono ((hsu a oe7 cls d (X.pn ++ pins) hz7 ⟨_, hd7⟩).run [] _ _ H' _ S7 (hyes rfl a na)) (fun f s6 hsp => ?_) (fun _ _ z => False.elim z)
            cases f with
            | next => obtain ⟨σ6, H6, S6, q6⟩ := hsp; exact ⟨_, _, S6.unsuite ok, q6⟩
            | brk => obtain ⟨σ6, H6, S6, q6⟩ := hsp; exact ⟨_, _, S6.unsuite ok, q6⟩
            | cont => obtain ⟨σ6, H6, S6, q6⟩ := hsp; exact ⟨_, _, S6.unsuite ok, q6⟩
            | ret u => obtain ⟨v6, σ6, H6, S6, r6, q6⟩ := hsp; exact ⟨_, _, _, S6.unsuite ok, r6, q6⟩
          | @yes n j hi hln =>
            refine codeAny_handlers_suite_as ?_
            refine HandSPX.lands_againZ f6 fun h7 f7 up7 => ?_
            obtain ⟨oe7, vs7, he7, hz7, hd7, S7⟩ := inS f7 (u6.trans up7)
            refine store_ok (X := X.suite a ((a, oe7) :: (X.pn ++ pins))) (v := .ref a) S7 hN hi (.inl hln) rfl (fun s5 S8 => ?_) (.inr hln)
            refine wpAny_mono ((hsu a oe7 cls d (X.pn ++ pins) hz7 ⟨_, hd7⟩).run [] s5 _ H' _ S8 (hyes rfl a na)) (fun f s6 hsp => ?_) (fun _ _ z => False.elim z)
            have end_ : ∀ {σ6 : L2.St} {H6 : Hp} {Q : Shared → Prop}, Inv (X.suite a ((a, oe7) :: (X.pn ++ pins))) [] σ6 H6 s6 → (∀ s7, Inv X pins (σ6.set j none) H6 s7 → Q s7) →
                wpAny (model X.prog X.w) X.A (do bindName X.env n .none; unbindBehindTheSuite X.env n pos') (fun _ s7 => Q s7) X.xe s6 := fun {σ6 H6 Q} S6 hq => gone_ok (S6.unsuite ok) hN hi hln hq
            cases f with
            | next => obtain ⟨σ6, H6, S6, q6⟩ := hsp; exact end_ S6 fun s7 J7 => ⟨_, _, J7, q6⟩
            | brk => obtain ⟨σ6, H6, S6, q6⟩ := hsp; exact end_ S6 fun s7 J7 => ⟨_, _, J7, q6⟩
            | cont => obtain ⟨σ6, H6, S6, q6⟩ := hsp; exact end_ S6 fun s7 J7 => ⟨_, _, J7, q6⟩
            | ret u => obtain ⟨v6, σ6, H6, S6, r6, q6⟩ := hsp; exact end_ S6 fun s7 J7 => ⟨_, _, _, J7, r6, q6⟩
    exact go hh fl3 (up.trans up3) w
  · cases f with
    | next => obtain ⟨σ', H', J', q⟩ := hsp; exact wpAny_execs_nil ⟨σ', H', J'.ofTry ok, q⟩
    | brk => obtain ⟨σ', H', J', q⟩ := hsp; exact ⟨σ', H', J'.ofTry ok, q⟩
    | cont => obtain ⟨σ', H', J', q⟩ := hsp; exact ⟨σ', H', J'.ofTry ok, q⟩
    | ret u => obtain ⟨v, σ', H', J', r, q⟩ := hsp; exact ⟨v, σ', H', J'.ofTry ok, r, q⟩
end
end ML


/-! ML d: enumerate of a tuple. -/
namespace ML
open PySem PySem.Spec PyProof.Rows L2
theorem enum_newT (l : Addr) (items : Array Value) :
    Meets (Builtin.«enumerate.__new__» ⟨[.type "enumerate", .ref l], []⟩) (fun _ R s => s.heap.IsTuple l items ∧
      R (.ok (.ret (.ref (s.heap.push { cls := .type "tuple_iterator", data := .fields #[.ref l, .int 0 0] }).objs.size)))
        { s with heap := (s.heap.push { cls := .type "tuple_iterator", data := .fields #[.ref l, .int 0 0] }).push { cls := .type "enumerate", data := .fields #[.none, .bool false, .ref s.heap.objs.size, rawInt 0, .none, .none] } }) :=
  .of_wp fun prog w A R s z => by
    obtain ⟨hp, g, d, tk, os⟩ := s
    obtain ⟨isT, z⟩ := z
    have hsub := sub_enumerate
    have it : ∀ {A' : Around} {E : Value → Shared → Prop} {Q : Value → Shared → Prop}, Q (.ref hp.objs.size) ⟨hp.push { cls := .type "tuple_iterator", data := .fields #[.ref l, .int 0 0] }, g, d, tk, os⟩ → wpAny (model prog w) A' (pyIter (.ref l)) Q E ⟨hp, g, d, tk, os⟩ := fun q => wpAny_pyIter_tuple isT q
    wp_walk using it
    refine wpAny_stack_any fun st => wpAny_pure ?_
    split
    · rename_i c _ _ _ _ _
      cases (c == Value.type "enumerate") <;> (wp_walk using it; exact ⟨_, rfl, z⟩)
    · wp_walk using it
      exact ⟨_, rfl, z⟩
section
variable {prog : Program} {w : World} {A : Around} {E : Value → Shared → Prop} {s : Shared}
theorem call_enumT {l : Addr} {items : Array Value} {Q : Value → Shared → Prop} (hL : s.heap.IsTuple l items)
    (h : ∀ h', IsEnum h' (s.heap.objs.size + 1) s.heap.objs.size 0 .none → h'.IsTupleIter s.heap.objs.size l 0 → (∀ b o, s.heap.get? b = some o → h'.get? b = some o) → Q (.ref (s.heap.objs.size + 1)) { s with heap := h' }) :
    wpAny (model prog w) A (call (.type "enumerate") [.ref l]) Q E s := by
  refine callType_new F.called_enumerate (by decide) (F.typeCall_enumerate_1 _) (F.newCall_enumerate_1 _) (fun obj => F.args_object_init_2 obj _) F.entry_enumerate_new (enum_newT l items) ⟨hL, ?_⟩
  have hz : (s.heap.push { cls := .type "tuple_iterator", data := .fields #[.ref l, .int 0 0] }).objs.size = s.heap.objs.size + 1 := Heap.size_push ..
  show _ ∧ _
  rw [hz]
  have he : IsEnum ((s.heap.push { cls := .type "tuple_iterator", data := .fields #[.ref l, .int 0 0] }).push { cls := .type "enumerate", data := .fields #[.none, .bool false, .ref s.heap.objs.size, rawInt 0, .none, .none] }) (s.heap.objs.size + 1) s.heap.objs.size 0 .none := by
    have z := Heap.get?_push_size (s.heap.push { cls := .type "tuple_iterator", data := .fields #[.ref l, .int 0 0] }) (o := { cls := .type "enumerate", data := .fields #[.none, .bool false, .ref s.heap.objs.size, rawInt 0, .none, .none] }) rfl
    rw [hz] at z
    exact z
  exact ⟨⟨_, he, rfl⟩, h _ he ⟨_, Heap.get?_push_of_some _ (Heap.get?_push_size _ rfl), rfl, rfl⟩ fun b o z => Heap.get?_push_of_some _ (Heap.get?_push_of_some _ z)⟩
end
/-- the tuple at a, each item in a new pair -/
def IteT (K : PySem.W.Frag) (a : Addr) : It :=
  ⟨fun i H => ∃ (xs : List V) (x : V), SqT K H a xs ∧ xs[i]? = some x, fun i H v H' => ∃ T x, v = .ref T ∧ H T = none ∧ H' = upd H T (.tup [.int (i : Nat), x]) ∧ ∀ xs, SqT K H a xs → xs[i]? = some x, fun i H => ∃ xs : List V, SqT K H a xs ∧ xs.length ≤ i⟩
theorem turn_enumT {P : Program} {w : World} {K : PySem.W.Frag} {elts : List Expr} {kk : Nat} {tpos : Pos} (a e it : Addr) (hia : a ≠ it) (hea : e ≠ a) :
    Turn P w K (.Tuple elts kk tpos) (IteT K a) [e, it] e (fun i h => (∃ old, IsEnum h e it ((i : Nat) : Int) old) ∧ h.IsTupleIter it a i ∧ e ≠ it) where
  mem := by simp
  obj := fun i h st b hb => by
    obtain ⟨⟨old, he⟩, ⟨o, ho, hc, hd⟩, _⟩ := st
    have e' : b = e ∨ b = it := by simpa using hb
    rcases e' with z | z
    · rw [z]; exact ⟨_, he, fun v q => nomatch q⟩
    · rw [z]; exact ⟨o, ho, fun v q => by rw [hd] at q; cases q⟩
  keep := fun i h h' st k => let ⟨⟨old, he⟩, hi, hne⟩ := st; ⟨⟨old, k e (by simp) _ he⟩, hi.at fun o q => k it (by simp) o q, hne⟩
  item := by
    intro X hP hw hK hc i pins s σ H E I hf st hg
    subst hP hw hK
    obtain ⟨⟨old, he⟩, hit, hne⟩ := st
    obtain ⟨xs, x, hq, hx⟩ := hg
    obtain ⟨its, rv, p, hz⟩ := I.tuple hq
    obtain ⟨u, hu, ru⟩ := rv.get hx
    have hel : e < s.heap.objs.size := Heap.lt_size he
    have hil : it < s.heap.objs.size := by obtain ⟨_, q, _⟩ := hit; exact Heap.lt_size q
    have hlt : i < its.toArray.size := by
      have := (List.getElem?_eq_some_iff.mp hu).1
      simpa using this
    have hh : X.A.in1.handled = none := I.ok.hd hc
    refine wpAny_pyNext_enum_itemD (Draws.tuple hh it a hia its.toArray) he ⟨hit, p⟩ hlt hne (by simp [hne, hea]) fun y h' tk py ho st' hT hsz hk => ?_
    have ey : y = u := by
      have z : its.toArray[i]? = some u := by simpa using hu
      have z2 : its.toArray[i]? = some y := py
      rw [z] at z2
      exact (Option.some.inj z2).symm
    subst ey
    refine ⟨_, rfl, wpAny_letOwnedTupleGo_enum (s := { s with heap := h', toks := tk + 1 }) ho fun h'' he' sb => ?_⟩
    have hT2 : h''.get? s.heap.objs.size = some { cls := .type "tuple", data := .seq #[.int i tk, y] } := (sb.2 _ (Nat.ne_of_gt hel)).trans hT
    have new : ObjOk X.prog X.w (upd H s.heap.objs.size (.tup [.int (i : Nat), x])) h'' s.heap.objs.size (.tup [.int (i : Nat), x]) :=
      ⟨by show 2 ≤ sizeLine; decide, [.int i tk, y], .cons ⟨_, rfl⟩ (.cons ru .nil), ⟨_, hT2, rfl, _, rfl⟩⟩
    have I1 : Inv X pins σ (upd H s.heap.objs.size (.tup [.int (i : Nat), x])) { s with heap := h'', toks := tk + 1 } :=
      I.turnedNew (ch := [e, it]) (fun b ob hb q => (sb.2 b (fun z => hb (by simp [z]))).trans (hk b ob (fun z => hb (by simp [z])) (fun z => hb (by simp [z])) q)) hf (Nat.le_refl _) new
    refine ⟨.ref s.heap.objs.size, _, I1, rfl, ⟨_, x, rfl, I.hok.fresh (Nat.le_refl _), rfl, fun ys hy => ?_⟩, ⟨⟨y, ?_⟩, st'.1.at fun o q => (sb.2 it (Ne.symm hne)).trans q, hne⟩, fun b hb => ?_⟩
    · rw [I.tuple_inj hy hq]; exact hx
    · have e1 : ((i + 1 : Nat) : Int) = (i : Int) + 1 := by omega
      rw [e1]; exact he'
    · have hb' : b < s.heap.objs.size := by
        have e' : b = e ∨ b = it := by simpa using hb
        rcases e' with z | z
        · rw [z]; exact hel
        · rw [z]; exact hil
      rw [upd_ne (Nat.ne_of_lt hb')]
      exact (hf b hb).1
  done := by
    intro X hP hw hK hc i pins s σ H E I hf st hg
    subst hP hw hK
    obtain ⟨⟨old, he⟩, hit, hne⟩ := st
    obtain ⟨xs, hq, hx⟩ := hg
    obtain ⟨its, rv, p, hz⟩ := I.tuple hq
    obtain ⟨f0, f1, f2, f3, f4, f5⟩ := hf it (by simp)
    have hl := rv.length
    have hT : s.TypeIs (.ref e) "enumerate" := ⟨_, he, rfl⟩
    have hh : X.A.in1.handled = none := I.ok.hd hc
    unfold pyNext
    refine wpAny_bind (wpAny_attempt (wpAny_callSpecial?_slot (name := Str.ofString "__next__") hT PySem.F.slot_enumerate_next (wpAny_call_entry PySem.F.slot_enumerate_next hT PySem.F.entry_enumerate_next ?_ (PySem.F.args_enumerate_next_1 _))))
    show wpAny _ _ (field (.ref e) 2 >>= _) _ _ _
    refine wpAny_bind (wpAny_field he rfl (x := .ref it) rfl ?_)
    refine wpAny_bind (wpAny_nextOf_tuple_end hh hit p (by simp; omega) fun h' x he' hx' => ?_)
    obtain ⟨o, ho, hc'⟩ := hx'
    refine wpAny_bind (wpAny_isInstance (T := "StopIteration") (b := true) ⟨o, ho, hc'⟩ isSubtype_stop ?_)
    exact wpAny_pure ⟨rfl, I.turned (t' := s.toks) (fun b o hb q => he' b o hb q) f0 f1 f3 f4 f5⟩
  self := fun A i s Q E st h => let ⟨⟨_, he⟩, _⟩ := st; wpAny_pyIter_enum he h
/-- enumerate(x), x a list or a tuple -/
def iEnumA (K : PySem.W.Frag) (ta : TA) : TI := fun σ H R => ta σ H fun vs H1 => ∃ a xs, vs = [.ref a] ∧ ((SqL K H1 a xs ∧ R (Ite K a) H1) ∨ (SqT K H1 a xs ∧ R (IteT K a) H1))
theorem pi_enumA {X : Cx} {e : Expr} {ta : TA} {p pos tpos : Pos} {elts : List Expr} {kk : Nat} (hg : Gl X "enumerate") (hm : X.mg "enumerate" = none) (ha : PA X [e] ta) (hs : starEach [e] X.env = [(false, eval e X.env)] := by rfl) :
    PI X (.Tuple elts kk tpos) (.Call (.Name "enumerate" p) [e] [] pos) (iEnumA X.K ta) := by
  refine ⟨fun pins s σ H R I h => Call_ (ld_blt I hg hm boot_enumerate (PyProof.Rows.callWith_type1 (thn (ha.run pos pins s σ H _ I h) fun us s1 ⟨vs, H1, I1, r1, q1⟩ => ?_) hs rfl))⟩
  obtain ⟨a, xs, ex, hq⟩ := q1
  subst ex
  cases r1 with
  | cons r rr =>
    cases rr
    cases r
    have inFp : ∀ b ∈ [s1.heap.objs.size + 1, s1.heap.objs.size], FpOk X pins H1 b := fun b hb => by
      have e' : b = s1.heap.objs.size + 1 ∨ b = s1.heap.objs.size := by simpa using hb
      have hle : s1.heap.objs.size ≤ b := by
        rcases e' with z | z
        · rw [z]; exact Nat.le_add_right _ _
        · rw [z]; exact Nat.le_refl _
      exact I1.fpOk hle (I1.hok.fresh hle)
    rcases hq with ⟨hq, q⟩ | ⟨hq, q⟩
    · obtain ⟨its, rv, p', hz⟩ := I1.list hq
      refine call_enumerate_list p'.isList fun h' he hit hsz hk => wpAny_pyIter_enum he ?_
      exact ⟨s1.heap.objs.size + 1, [s1.heap.objs.size + 1, s1.heap.objs.size], _, _, H1, rfl, I1.kept (t' := s1.toks) hk, turn_enum a (s1.heap.objs.size + 1) s1.heap.objs.size, ⟨⟨.none, he⟩, hit, Nat.succ_ne_self _⟩, inFp, q⟩
    · obtain ⟨its, rv, p', hz⟩ := I1.tuple hq
      have la : a < s1.heap.objs.size := by
        obtain ⟨o, ho, _⟩ := p'
        exact Heap.lt_size ho
      refine call_enumT p' fun h' he hit hk => wpAny_pyIter_enum he ?_
      exact ⟨s1.heap.objs.size + 1, [s1.heap.objs.size + 1, s1.heap.objs.size], _, _, H1, rfl, I1.kept (t' := s1.toks) hk, turn_enumT a (s1.heap.objs.size + 1) s1.heap.objs.size (Nat.ne_of_lt la) (Ne.symm (Nat.ne_of_lt (Nat.lt_succ_of_lt la))), ⟨⟨.none, he⟩, hit, Nat.succ_ne_self _⟩, inFp, q⟩
end ML


/-! DL a: data, what represents it, the state of slots. -/
namespace DL
open PySem PySem.Spec PyProof.Rows L2

/-- plain data -/
inductive D where
  | non | bl (b : Bool) | int (i : Int) | str (x : Str)
  | lst (xs : List D) | tup (xs : List D)
  | dk (kvs : List (Key × D)) | dt (kvs : List (List Key × D))
  | ins (C : Addr) (fs : List (Str × D))
  | fz (ns : List Int)

/-- all that stands in the first stands in the second -/
def Ex (H H' : Hp) : Prop := ∀ a o, H a = some o → H' a = some o
theorem Ex.refl (H : Hp) : Ex H H := fun _ _ h => h
theorem Ex.trans {H H1 H2 : Hp} (a : Ex H H1) (b : Ex H1 H2) : Ex H H2 := fun x o h => b x o (a x o h)
theorem Ex.new {H : Hp} {p : Addr} {o : HO} (h : H p = none) : Ex H (upd H p o) := fun a u e => by
  rw [upd_ne (ne_of_none e h)]
  exact e

/-! ### what represents data -/
mutual
inductive Rep (H : Hp) : V → D → Prop
  | non : Rep H .non .non
  | bl (b : Bool) : Rep H (.bl b) (.bl b)
  | int (i : Int) : Rep H (.int i) (.int i)
  | str (x : Str) : Rep H (.str x) (.str x)
  | lst {a : Addr} {vs : List V} {xs : List D} : H a = some (.lst vs) → Reps H vs xs → Rep H (.ref a) (.lst xs)
  | tup {a : Addr} {vs : List V} {xs : List D} : H a = some (.tup vs) → Reps H vs xs → Rep H (.ref a) (.tup xs)
  | dk {a : Addr} {kvs : List (Key × V)} {xs : List (Key × D)} : H a = some (.dK kvs) → RepK H kvs xs → Rep H (.ref a) (.dk xs)
  | dt {a : Addr} {kvs : List (List Key × V)} {xs : List (List Key × D)} : H a = some (.dT kvs) → RepT H kvs xs → Rep H (.ref a) (.dt xs)
  | ins {a C dx : Addr} {fs : List (Str × V)} {xs : List (Str × D)} : H a = some (.ins C dx fs) → RepF H fs xs → Rep H (.ref a) (.ins C xs)
inductive Reps (H : Hp) : List V → List D → Prop
  | nil : Reps H [] []
  | cons {v : V} {x : D} {vs : List V} {xs : List D} : Rep H v x → Reps H vs xs → Reps H (v :: vs) (x :: xs)
inductive RepK (H : Hp) : List (Key × V) → List (Key × D) → Prop
  | nil : RepK H [] []
  | cons {k : Key} {v : V} {x : D} {vs : List (Key × V)} {xs : List (Key × D)} : Rep H v x → RepK H vs xs → RepK H ((k, v) :: vs) ((k, x) :: xs)
inductive RepT (H : Hp) : List (List Key × V) → List (List Key × D) → Prop
  | nil : RepT H [] []
  | cons {k : List Key} {v : V} {x : D} {vs : List (List Key × V)} {xs : List (List Key × D)} : Rep H v x → RepT H vs xs → RepT H ((k, v) :: vs) ((k, x) :: xs)
inductive RepF (H : Hp) : List (Str × V) → List (Str × D) → Prop
  | nil : RepF H [] []
  | cons {k : Str} {v : V} {x : D} {vs : List (Str × V)} {xs : List (Str × D)} : Rep H v x → RepF H vs xs → RepF H ((k, v) :: vs) ((k, x) :: xs)
end
mutual
theorem Rep.mono {H H' : Hp} (e : Ex H H') : ∀ {v : V} {x : D}, Rep H v x → Rep H' v x
  | _, _, .non => .non
  | _, _, .bl b => .bl b
  | _, _, .int i => .int i
  | _, _, .str s => .str s
  | _, _, .lst h r => .lst (e _ _ h) (Reps.mono e r)
  | _, _, .tup h r => .tup (e _ _ h) (Reps.mono e r)
  | _, _, .dk h r => .dk (e _ _ h) (RepK.mono e r)
  | _, _, .dt h r => .dt (e _ _ h) (RepT.mono e r)
  | _, _, .ins h r => .ins (e _ _ h) (RepF.mono e r)
theorem Reps.mono {H H' : Hp} (e : Ex H H') : ∀ {v : List V} {x : List D}, Reps H v x → Reps H' v x
  | _, _, .nil => .nil
  | _, _, .cons h r => .cons (Rep.mono e h) (Reps.mono e r)
theorem RepK.mono {H H' : Hp} (e : Ex H H') : ∀ {v : List (Key × V)} {x : List (Key × D)}, RepK H v x → RepK H' v x
  | _, _, .nil => .nil
  | _, _, .cons h r => .cons (Rep.mono e h) (RepK.mono e r)
theorem RepT.mono {H H' : Hp} (e : Ex H H') : ∀ {v : List (List Key × V)} {x : List (List Key × D)}, RepT H v x → RepT H' v x
  | _, _, .nil => .nil
  | _, _, .cons h r => .cons (Rep.mono e h) (RepT.mono e r)
theorem RepF.mono {H H' : Hp} (e : Ex H H') : ∀ {v : List (Str × V)} {x : List (Str × D)}, RepF H v x → RepF H' v x
  | _, _, .nil => .nil
  | _, _, .cons h r => .cons (Rep.mono e h) (RepF.mono e r)
end

theorem Reps.length {H : Hp} : ∀ {vs : List V} {xs : List D}, Reps H vs xs → vs.length = xs.length
  | _, _, .nil => rfl
  | _, _, .cons _ r => congrArg (· + 1) r.length
theorem Reps.get {H : Hp} : ∀ {vs : List V} {xs : List D} {i : Nat} {x : D}, Reps H vs xs → xs[i]? = some x → ∃ v, vs[i]? = some v ∧ Rep H v x
  | _, _, _, _, .nil, e => by simp at e
  | _, _, 0, _, .cons h _, e => by
    simp at e
    subst e
    exact ⟨_, rfl, h⟩
  | _, _, i + 1, _, .cons _ r, e => by
    obtain ⟨v, h1, h2⟩ := Reps.get (i := i) r (by simpa using e)
    exact ⟨v, by simpa using h1, h2⟩
theorem Reps.getV {H : Hp} : ∀ {vs : List V} {xs : List D} {i : Nat} {v : V}, Reps H vs xs → vs[i]? = some v → ∃ x, xs[i]? = some x ∧ Rep H v x
  | _, _, _, _, .nil, e => by simp at e
  | _, _, 0, _, .cons h _, e => by
    simp at e
    subst e
    exact ⟨_, rfl, h⟩
  | _, _, i + 1, _, .cons _ r, e => by
    obtain ⟨v, h1, h2⟩ := Reps.getV (i := i) r (by simpa using e)
    exact ⟨v, by simpa using h1, h2⟩
theorem Reps.append {H : Hp} : ∀ {vs ws : List V} {xs ys : List D}, Reps H vs xs → Reps H ws ys → Reps H (vs ++ ws) (xs ++ ys)
  | _, _, _, _, .nil, s => s
  | _, _, _, _, .cons h r, s => .cons h (r.append s)
theorem Reps.take {H : Hp} : ∀ {vs : List V} {xs : List D} (n : Nat), Reps H vs xs → Reps H (vs.take n) (xs.take n)
  | _, _, 0, _ => .nil
  | _, _, _ + 1, .nil => .nil
  | _, _, n + 1, .cons h r => .cons h (r.take n)
theorem Reps.drop {H : Hp} : ∀ {vs : List V} {xs : List D} (n : Nat), Reps H vs xs → Reps H (vs.drop n) (xs.drop n)
  | _, _, 0, r => r
  | _, _, _ + 1, .nil => .nil
  | _, _, n + 1, .cons _ r => r.drop n
theorem Reps.set {H : Hp} {v : V} {x : D} (h : Rep H v x) : ∀ {vs : List V} {xs : List D} (i : Nat), Reps H vs xs → Reps H (vs.set i v) (xs.set i x)
  | _, _, _, .nil => .nil
  | _, _, 0, .cons _ r => .cons h r
  | _, _, i + 1, .cons g r => .cons g (Reps.set h i r)
theorem Reps.eraseIdx {H : Hp} : ∀ {vs : List V} {xs : List D} (i : Nat), Reps H vs xs → Reps H (vs.eraseIdx i) (xs.eraseIdx i)
  | _, _, _, .nil => .nil
  | _, _, 0, .cons _ r => r
  | _, _, i + 1, .cons g r => .cons g (r.eraseIdx i)
theorem Reps.dropLast {H : Hp} {vs : List V} {xs : List D} (r : Reps H vs xs) : Reps H vs.dropLast xs.dropLast := by
  rw [List.dropLast_eq_take, List.dropLast_eq_take, r.length]
  exact r.take _
theorem Reps.one {H : Hp} {vs : List V} {x : D} (r : Reps H vs [x]) : ∃ v, vs = [v] ∧ Rep H v x := by
  cases r with
  | cons h r =>
    cases r
    exact ⟨_, rfl, h⟩
theorem Reps.ints {H : Hp} : ∀ {vs : List V} {ns : List Int}, Reps H vs (ns.map D.int) → vs = ns.map V.int
  | _, [], .nil => rfl
  | _, n :: ns, .cons h r => by
    cases h
    rw [r.ints]
    rfl
theorem Reps.strs {H : Hp} : ∀ {vs : List V} {ns : List Str}, Reps H vs (ns.map D.str) → vs = ns.map V.str
  | _, [], .nil => rfl
  | _, n :: ns, .cons h r => by
    cases h
    rw [r.strs]
    rfl
theorem Reps.bls {H : Hp} : ∀ {vs : List V} {ns : List Bool}, Reps H vs (ns.map D.bl) → vs = ns.map V.bl
  | _, [], .nil => rfl
  | _, n :: ns, .cons h r => by
    cases h
    rw [r.bls]
    rfl

/-! ### dicts as data -/
section
variable {κ : Type} [DecidableEq κ]
def valD (kvs : List (κ × D)) (k : κ) : Option D := (kvs.find? fun kv => decide (kv.1 = k)).map (·.2)
def putD (kvs : List (κ × D)) (k : κ) (v : D) : List (κ × D) :=
  if (kvs.any fun kv => decide (kv.1 = k)) = true then kvs.map (fun kv => if kv.1 = k then (kv.1, v) else kv) else kvs ++ [(k, v)]
def dropD (kvs : List (κ × D)) (k : κ) : List (κ × D) := kvs.filter fun kv => decide (kv.1 ≠ k)
def mergeD (kvs more : List (κ × D)) : List (κ × D) := more.foldl (fun acc kv => putD acc kv.1 kv.2) kvs
end

end DL


/-! DL b: the state of slots, what holds of it, steps; expressions, tests, arguments. -/
namespace DL
open PySem PySem.Spec PyProof.Rows L2

/-- an object that is one's own: its items are data that never changes -/
inductive Cell where
  | lst (xs : List D) | dk (kvs : List (Key × D)) | dt (kvs : List (List Key × D))
def Cell.toD : Cell → D
  | .lst xs => .lst xs
  | .dk kvs => .dk kvs
  | .dt kvs => .dt kvs
/-- nothing known; data; data that may change behind the def (its items may not); one's own object; a parameter's object that the def may change -/
inductive Slot where
  | un | d (x : D) | b (x : D) | o (c : Cell) | p (c : Cell) | x (a dd : Addr) (f : Str) (y : D)
abbrev S := List Slot
/-- an expression's value: data; borrowed data; what stands in slot i; a new object -/
inductive RV where
  | d (x : D) | b (x : D) | sl (i : Nat) | n (c : Cell)

def CellO (Hf : Hp) (u : HO) : Cell → Prop
  | .lst xs => ∃ vs, u = .lst vs ∧ Reps Hf vs xs
  | .dk xs => ∃ vs, u = .dK vs ∧ RepK Hf vs xs
  | .dt xs => ∃ vs, u = .dT vs ∧ RepT Hf vs xs
def CellAt (Hf H : Hp) (a : Addr) (c : Cell) : Prop := ∃ u, H a = some u ∧ CellO Hf u c
theorem CellO.mono {Hf Hf' : Hp} (e : Ex Hf Hf') {u : HO} {c : Cell} (h : CellO Hf u c) : CellO Hf' u c := by
  cases c with
  | lst xs => obtain ⟨vs, h1, h2⟩ := h; exact ⟨vs, h1, h2.mono e⟩
  | dk xs => obtain ⟨vs, h1, h2⟩ := h; exact ⟨vs, h1, h2.mono e⟩
  | dt xs => obtain ⟨vs, h1, h2⟩ := h; exact ⟨vs, h1, h2.mono e⟩
theorem CellO.rep {Hf : Hp} {u : HO} {c : Cell} {a : Addr} (h : CellO Hf u c) (ha : Hf a = some u) : Rep Hf (.ref a) c.toD := by
  cases c with
  | lst xs => obtain ⟨vs, rfl, h2⟩ := h; exact .lst ha h2
  | dk xs => obtain ⟨vs, rfl, h2⟩ := h; exact .dk ha h2
  | dt xs => obtain ⟨vs, rfl, h2⟩ := h; exact .dt ha h2

theorem CellO.nofrz {Hf : Hp} {ob : Obj} {u : HO} {c : Cell} (h : CellO Hf (.frz ob u) c) : False := by
  cases c with
  | lst xs => obtain ⟨vs, e, _⟩ := h; cases e
  | dk xs => obtain ⟨vs, e, _⟩ := h; cases e
  | dt xs => obtain ⟨vs, e, _⟩ := h; cases e
/-- the dicts that may be locked -/
def IsDict (o : HO) : Prop := (∃ kvs, o = .dK kvs) ∨ ∃ kvs, o = .dT kvs
def Exl (L : List Addr) (H H' : Hp) : Prop := ∀ a o, H a = some o → H' a = some o ∨ (a ∈ L ∧ IsDict o ∧ ∃ ob, H' a = some (.frz ob o))
theorem Exl.ex {H H' : Hp} (h : Exl [] H H') : Ex H H' := fun a o e => (h a o e).elim id fun q => nomatch q.1
theorem Ex.exl {H H' : Hp} {L : List Addr} (h : Ex H H') : Exl L H H' := fun a o e => .inl (h a o e)

/-- shallow: the thing itself as it stands in H, its items data over Hf -/
inductive RepH (Hf H : Hp) : V → D → Prop
  | non : RepH Hf H .non .non
  | bl (b : Bool) : RepH Hf H (.bl b) (.bl b)
  | int (i : Int) : RepH Hf H (.int i) (.int i)
  | str (x : Str) : RepH Hf H (.str x) (.str x)
  | lst {a : Addr} {vs : List V} {xs : List D} : H a = some (.lst vs) → Reps Hf vs xs → RepH Hf H (.ref a) (.lst xs)
  | fz {a : Addr} {ns : List Int} : Rd H a (.lst (ns.map V.int)) → RepH Hf H (.ref a) (.fz ns)
  | tup {a : Addr} {vs : List V} {xs : List D} : H a = some (.tup vs) → Reps Hf vs xs → Hf a = some (.tup vs) → RepH Hf H (.ref a) (.tup xs)
  | dk {a : Addr} {kvs : List (Key × V)} {xs : List (Key × D)} : Rd H a (.dK kvs) → RepK Hf kvs xs → RepH Hf H (.ref a) (.dk xs)
  | dt {a : Addr} {kvs : List (List Key × V)} {xs : List (List Key × D)} : Rd H a (.dT kvs) → RepT Hf kvs xs → RepH Hf H (.ref a) (.dt xs)
  | ins {a C dx : Addr} {fs : List (Str × V)} {xs : List (Str × D)} : H a = some (.ins C dx fs) → RepF Hf fs xs → Hf a = some (.ins C dx fs) → RepH Hf H (.ref a) (.ins C xs)
/-- what is borrowed -/
inductive RepB (Hs Hf : Hp) : V → D → Prop
  | of {v : V} {x : D} : Rep Hf v x → RepB Hs Hf v x
  | lst {a : Addr} {vs : List V} {xs : List D} : Hs a = some (.lst vs) → Reps Hf vs xs → RepB Hs Hf (.ref a) (.lst xs)
  | fz {a : Addr} {ns : List Int} : Rd Hs a (.lst (ns.map V.int)) → RepB Hs Hf (.ref a) (.fz ns)
  | dk {a : Addr} {kvs : List (Key × V)} {xs : List (Key × D)} : Rd Hs a (.dK kvs) → RepK Hf kvs xs → RepB Hs Hf (.ref a) (.dk xs)
  | dt {a : Addr} {kvs : List (List Key × V)} {xs : List (List Key × D)} : Rd Hs a (.dT kvs) → RepT Hf kvs xs → RepB Hs Hf (.ref a) (.dt xs)
theorem RepB.mono {Hs Hf Hf' : Hp} (e : Ex Hf Hf') {v : V} {x : D} : RepB Hs Hf v x → RepB Hs Hf' v x
  | .of h => .of (h.mono e)
  | .lst h r => .lst h (r.mono e)
  | .fz h => .fz h
  | .dk h r => .dk h (r.mono e)
  | .dt h r => .dt h (r.mono e)
theorem exl_rd {L : List Addr} {H H' : Hp} (e : Exl L H H') {a : Addr} {u : HO} (h : Rd H a u) : Rd H' a u := by
  rcases h with h | ⟨o, h⟩
  · rcases e a _ h with q | ⟨_, _, ob, q⟩
    · exact .inl q
    · exact .inr ⟨ob, q⟩
  · rcases e a _ h with q | ⟨_, d, ob, q⟩
    · exact .inr ⟨o, q⟩
    · rcases d with ⟨_, d⟩ | ⟨_, d⟩ <;> cases d
theorem exl_at {L : List Addr} {H H' : Hp} (e : Exl L H H') {a : Addr} {u : HO} (h : H a = some u) (n : ¬ IsDict u) : H' a = some u := by
  rcases e a _ h with q | ⟨_, d, _⟩
  · exact q
  · exact absurd d n
theorem Rep.reph {L : List Addr} {Hf H : Hp} (e : Exl L Hf H) {v : V} {x : D} (h : Rep Hf v x) : RepH Hf H v x := by
  cases h with
  | non => exact .non
  | bl b => exact .bl b
  | int i => exact .int i
  | str s => exact .str s
  | lst h r => exact .lst (exl_at e h (by rintro (⟨_, q⟩ | ⟨_, q⟩) <;> cases q)) r
  | tup h r => exact .tup (exl_at e h (by rintro (⟨_, q⟩ | ⟨_, q⟩) <;> cases q)) r h
  | dk h r => exact .dk (exl_rd e (.inl h)) r
  | dt h r => exact .dt (exl_rd e (.inl h)) r
  | ins h r => exact .ins (exl_at e h (by rintro (⟨_, q⟩ | ⟨_, q⟩) <;> cases q)) r h
theorem RepB.reph {L : List Addr} {Hs Hf H : Hp} (e : Exl L Hf H) (es : Exl L Hs H) {v : V} {x : D} (h : RepB Hs Hf v x) : RepH Hf H v x := by
  cases h with
  | of h => exact h.reph e
  | lst h r => exact .lst (exl_at es h (by rintro (⟨_, q⟩ | ⟨_, q⟩) <;> cases q)) r
  | fz h => exact .fz (exl_rd es h)
  | dk h r => exact .dk (exl_rd es h) r
  | dt h r => exact .dt (exl_rd es h) r
theorem CellO.reph {Hf H : Hp} {u : HO} {c : Cell} {a : Addr} (h : CellO Hf u c) (ha : H a = some u) : RepH Hf H (.ref a) c.toD := by
  cases c with
  | lst xs => obtain ⟨vs, rfl, h2⟩ := h; exact .lst ha h2
  | dk xs => obtain ⟨vs, rfl, h2⟩ := h; exact .dk (.inl ha) h2
  | dt xs => obtain ⟨vs, rfl, h2⟩ := h; exact .dt (.inl ha) h2

/-- the entry: the heap there, what of it never changes, the parameters that the def may change -/
structure Gm where
  H0 : Hp
  Hf0 : Hp
  ms : List Addr
  pa : Nat → Addr
def Gm.Hs (Γ : Gm) : Hp := fun a => if a ∈ Γ.ms then none else Γ.H0 a

def Owns (st : S) (i : Nat) : Prop := (∃ c, st[i]? = some (.o c)) ∨ ∃ c, st[i]? = some (.p c)
def SlotOk (Γ : Gm) (Hf : Hp) (a : Addr) (v : Option (Option V)) : Slot → Prop
  | .un => True
  | .d x => ∃ u, v = some (some u) ∧ Rep Hf u x
  | .b x => ∃ u, v = some (some u) ∧ RepB Γ.Hs Hf u x
  | .o _ => v = some (some (.ref a))
  | .p _ => v = some (some (.ref a))
  | .x a' dd f y => v = some (some (.ref a')) ∧ ∃ u, Hf dd = some (.xd [(f, u)]) ∧ Rep Hf u y
structure Sat (Γ : Gm) (L : List Addr) (Hf : Hp) (ad : Nat → Addr) (st : S) (σ : L2.St) (H : Hp) : Prop where
  len : σ.length = st.length
  exf : Exl L Hf H
  exs : Exl L Γ.Hs H
  base : Ex Γ.Hf0 Hf
  new : ∀ a o, Hf a = some o → Γ.Hf0 a = some o ∨ Γ.H0 a = none
  live : ∀ a ∈ Γ.ms, ∃ o, H a = some o
  msf : ∀ a ∈ Γ.ms, Hf a = none
  ms0 : ∀ a ∈ Γ.ms, Γ.H0 a ≠ none
  own : ∀ i c, st[i]? = some (.o c) → Γ.H0 (ad i) = none ∧ Hf (ad i) = none ∧ CellAt Hf H (ad i) c
  par : ∀ i c, st[i]? = some (.p c) → (ad i = Γ.pa i ∧ ad i ∈ Γ.ms) ∧ CellAt Hf H (ad i) c
  lk : ∀ a ∈ L, ∃ ob u, H a = some (.frz ob u)
  inj : ∀ i j, Owns st i → Owns st j → ad i = ad j → i = j
  sl : ∀ i s, st[i]? = some s → SlotOk Γ Hf (ad i) σ[i]? s

def RepR (Γ : Gm) (Hf : Hp) (ad : Nat → Addr) (st : S) (σ : L2.St) (Hb H : Hp) (v : V) : RV → Prop
  | .d x => Rep Hf v x
  | .b x => RepB Γ.Hs Hf v x
  | .sl i => σ[i]? = some (some v)
  | .n c => ∃ p, v = .ref p ∧ Hb p = none ∧ Γ.H0 p = none ∧ Hf p = none ∧ (∀ i, Owns st i → ad i ≠ p) ∧ CellAt Hf H p c
/-- what an expression's value holds -/
def slotD : Option Slot → Option D
  | some (.o c) => some c.toD
  | some (.p c) => some c.toD
  | some (.d x) => some x
  | some (.b x) => some x
  | _ => none
def cont (st : S) : RV → Option D
  | .d x => some x
  | .b x => some x
  | .n c => some c.toD
  | .sl i => slotD st[i]?

/-- from one state to a later one, within an expression -/
structure Nxt (ad : Nat → Addr) (st : S) (Hf H : Hp) (st' : S) (Hf' H' : Hp) : Prop where
  ex : Ex Hf Hf'
  new : ∀ a o, Hf' a = some o → Hf a = some o ∨ H a = none ∨ ∃ i, Owns st i ∧ ad i = a
  keep : ∀ a o, H a = some o → (∀ i, Owns st i → ad i ≠ a) → H' a = some o
  there : ∀ a o, H a = some o → ∃ o', H' a = some o'
  sub : ∀ i, Owns st' i → Owns st i
section
variable {Γ : Gm} {L : List Addr} {Hf Hf' Hf1 Hf2 H H' H1 H2 Hb : Hp} {ad : Nat → Addr} {st st1 st2 st' : S} {σ : L2.St} {v : V} {x : D} {rv : RV}
theorem Nxt.refl : Nxt ad st Hf H st Hf H := ⟨Ex.refl _, fun _ _ h => .inl h, fun _ _ h _ => h, fun _ o h => ⟨o, h⟩, fun _ h => h⟩
theorem Nxt.none (n : Nxt ad st Hf H st1 Hf1 H1) {p : Addr} (h : H1 p = none) : H p = none := by
  cases q : H p with
  | none => rfl
  | some o =>
    obtain ⟨o', e⟩ := n.there p o q
    rw [e] at h
    cases h
theorem Nxt.trans (a : Nxt ad st Hf H st1 Hf1 H1) (b : Nxt ad st1 Hf1 H1 st2 Hf2 H2) : Nxt ad st Hf H st2 Hf2 H2 where
  ex := a.ex.trans b.ex
  new := fun x o h => by
    rcases b.new x o h with q | q | ⟨i, h1, h2⟩
    · exact a.new x o q
    · exact .inr (.inl (a.none q))
    · exact .inr (.inr ⟨i, a.sub i h1, h2⟩)
  keep := fun x o h n => b.keep x o (a.keep x o h n) fun i hi => n i (a.sub i hi)
  there := fun x o h => by
    obtain ⟨o', h1⟩ := a.there x o h
    exact b.there x o' h1
  sub := fun i h => a.sub i (b.sub i h)
theorem Sat.none0 (s : Sat Γ L Hf ad st σ H) {p : Addr} (h : H p = none) : Γ.H0 p = none := by
  by_cases hm : p ∈ Γ.ms
  · obtain ⟨o, e⟩ := s.live p hm
    rw [e] at h
    cases h
  · cases q : Γ.H0 p with
    | none => rfl
    | some o =>
      have e : Γ.Hs p = some o := by
        unfold Gm.Hs
        rw [if_neg hm, q]
      rcases s.exs p o e with r | ⟨_, _, _, r⟩ <;> rw [r] at h <;> cases h
theorem Sat.nonef (s : Sat Γ L Hf ad st σ H) {p : Addr} (h : H p = none) : Hf p = none := by
  cases q : Hf p with
  | none => rfl
  | some o => rcases s.exf p o q with r | ⟨_, _, _, r⟩ <;> rw [r] at h <;> cases h
theorem Sat.cell (s : Sat Γ L Hf ad st σ H) {i : Nat} (h : Owns st i) : ∃ c, CellAt Hf H (ad i) c := by
  rcases h with ⟨c, h⟩ | ⟨c, h⟩
  · exact ⟨c, (s.own i c h).2.2⟩
  · exact ⟨c, (s.par i c h).2⟩
theorem Sat.noneo (s : Sat Γ L Hf ad st σ H) {p : Addr} (h : H p = none) : ∀ i, Owns st i → ad i ≠ p := fun i hi e => by
  obtain ⟨c, u, q, _⟩ := s.cell hi
  rw [e, h] at q
  cases q
theorem RepR.later (a : Nxt ad st Hf H st1 Hf1 H1) (h : RepR Γ Hf ad st σ Hb H v rv) : RepR Γ Hf1 ad st1 σ Hb H1 v rv := by
  cases rv with
  | d x => exact Rep.mono a.ex h
  | b x => exact RepB.mono a.ex h
  | sl i => exact h
  | n c =>
    obtain ⟨p, e, h1, h2, h3, h4, u, h5, h6⟩ := h
    refine ⟨p, e, h1, h2, ?_, fun i hi => h4 i (a.sub i hi), u, a.keep p u h5 h4, h6.mono a.ex⟩
    cases q : Hf1 p with
    | none => rfl
    | some o =>
      rcases a.new p o q with r | r | ⟨i, hi, r⟩
      · rw [h3] at r; cases r
      · rw [h5] at r; cases r
      · exact absurd r (h4 i hi)
/-- from an earlier begin -/
theorem RepR.from (a : Nxt ad st Hf Hb st1 Hf1 H1) (h : RepR Γ Hf2 ad st2 σ H1 H2 v rv) : RepR Γ Hf2 ad st2 σ Hb H2 v rv := by
  cases rv with
  | d x => exact h
  | b x => exact h
  | sl i => exact h
  | n c =>
    obtain ⟨p, e, h1, r⟩ := h
    exact ⟨p, e, a.none h1, r⟩
/-- what it holds, as it stands -/
theorem RepR.reph (s : Sat Γ L Hf ad st σ H) (h : RepR Γ Hf ad st σ Hb H v rv) (c : cont st rv = some x) : RepH Hf H v x := by
  cases rv with
  | d y =>
    cases c
    exact Rep.reph s.exf h
  | b y =>
    cases c
    exact RepB.reph s.exf s.exs h
  | n c' =>
    cases c
    obtain ⟨p, rfl, _, _, _, _, u, h5, h6⟩ := h
    exact h6.reph h5
  | sl i =>
    have h : σ[i]? = some (some v) := h
    have c : slotD st[i]? = some x := c
    cases q : st[i]? with
    | none => rw [q] at c; cases c
    | some sl =>
      rw [q] at c
      have k := s.sl i sl q
      rw [h] at k
      cases sl with
      | un => cases c
      | x a' dd f y => cases c
      | d y =>
        cases c
        obtain ⟨u, e, r⟩ := k
        cases e
        exact r.reph s.exf
      | b y =>
        cases c
        obtain ⟨u, e, r⟩ := k
        cases e
        exact r.reph s.exf s.exs
      | o y =>
        cases c
        have k : some (some v) = some (some (V.ref (ad i))) := k
        cases k
        obtain ⟨_, _, u, h5, h6⟩ := s.own i y q
        exact h6.reph h5
      | p y =>
        cases c
        have k : some (some v) = some (some (V.ref (ad i))) := k
        cases k
        obtain ⟨_, u, h5, h6⟩ := s.par i y q
        exact h6.reph h5
end

/-! ### what an operation by values gives -/
/-- data as it stands; a new object, one's own; a new object that is never changed -/
inductive Res (Hf H : Hp) : RV → V → Hp → Hp → Prop
  | same {v : V} {x : D} : Rep Hf v x → Res Hf H (.d x) v Hf H
  | new {p : Addr} {u : HO} {c : Cell} : H p = none → CellO Hf u c → Res Hf H (.n c) (.ref p) Hf (upd H p u)
  | tup {p : Addr} {vs : List V} {xs : List D} : H p = none → Reps Hf vs xs → Res Hf H (.d (.tup xs)) (.ref p) (upd Hf p (.tup vs)) (upd H p (.tup vs))
section
variable {Γ : Gm} {L : List Addr} {Hf Hf' Hf1 Hf2 H H' H1 H2 Hb : Hp} {ad : Nat → Addr} {st st1 st2 st' : S} {σ : L2.St} {v : V} {x : D} {rv : RV}
theorem upd_some {H : Hp} {p a : Addr} {o u : HO} (h : H p = none) (e : H a = some o) : upd H p u a = some o := by
  rw [upd_ne (ne_of_none e h)]
  exact e
theorem CellAt.alloc {p a : Addr} {u : HO} {c : Cell} (h : H p = none) (x : CellAt Hf H a c) : CellAt Hf (upd H p u) a c := by
  obtain ⟨w, e, r⟩ := x
  exact ⟨w, upd_some h e, r⟩
theorem Exl.alloc {p : Addr} {u : HO} (h : H p = none) (x : Exl L Hf H) : Exl L Hf (upd H p u) := fun a o e => by
  rcases x a o e with q | ⟨q1, q2, ob, q3⟩
  · exact .inl (upd_some h q)
  · exact .inr ⟨q1, q2, ob, upd_some h q3⟩
theorem SlotOk.mono (e : Ex Hf Hf') {a : Addr} {o : Option (Option V)} {s : Slot} (h : SlotOk Γ Hf a o s) : SlotOk Γ Hf' a o s := by
  cases s with
  | un => trivial
  | d x => obtain ⟨u, h1, h2⟩ := h; exact ⟨u, h1, h2.mono e⟩
  | b x => obtain ⟨u, h1, h2⟩ := h; exact ⟨u, h1, h2.mono e⟩
  | o c => exact h
  | p c => exact h
  | x a' dd f y => obtain ⟨h1, u, h2, h3⟩ := h; exact ⟨h1, u, e _ _ h2, h3.mono e⟩
/-- a new object, not tracked by any slot -/
theorem Sat.alloc (s : Sat Γ L Hf ad st σ H) {p : Addr} {u : HO} (h : H p = none) : Sat Γ L Hf ad st σ (upd H p u) :=
  ⟨s.len, s.exf.alloc h, s.exs.alloc h, s.base, s.new, fun a ha => by
    obtain ⟨o, e⟩ := s.live a ha
    exact ⟨o, upd_some h e⟩, s.msf, s.ms0, fun i c e => by
    obtain ⟨h1, h2, h3⟩ := s.own i c e
    exact ⟨h1, h2, h3.alloc h⟩, fun i c e => by
    obtain ⟨h1, h3⟩ := s.par i c e
    exact ⟨h1, h3.alloc h⟩, fun a ha => by
    obtain ⟨ob, w, q⟩ := s.lk a ha
    exact ⟨ob, w, upd_some h q⟩, s.inj, s.sl⟩
/-- the ground grows by an object that stands and is nobody's -/
theorem Sat.ground (s : Sat Γ L Hf ad st σ H) {p : Addr} {u : HO} (h : H p = some u) (h0 : Γ.H0 p = none) (hf : Hf p = none) (hm : p ∉ Γ.ms) (ho : ∀ i, Owns st i → ad i ≠ p) : Sat Γ L (upd Hf p u) ad st σ H := by
  have e : Ex Hf (upd Hf p u) := Ex.new hf
  refine ⟨s.len, fun a o q => ?_, s.exs, s.base.trans e, fun a o q => ?_, s.live, fun a ha => ?_, s.ms0, fun i c q => ?_, fun i c q => ?_, s.lk, s.inj, fun i sl q => (s.sl i sl q).mono e⟩
  · by_cases ha : a = p
    · subst ha
      rw [upd_same] at q
      cases q
      exact .inl h
    · rw [upd_ne ha] at q
      exact s.exf a o q
  · by_cases ha : a = p
    · subst ha
      exact .inr h0
    · rw [upd_ne ha] at q
      exact s.new a o q
  · rw [upd_ne (fun z => hm (by rw [← z]; exact ha))]
    exact s.msf a ha
  · obtain ⟨h1, h2, w, h3, h4⟩ := s.own i c q
    exact ⟨h1, by rw [upd_ne (ho i (.inl ⟨c, q⟩))]; exact h2, w, h3, h4.mono e⟩
  · obtain ⟨h1, w, h3, h4⟩ := s.par i c q
    exact ⟨h1, w, h3, h4.mono e⟩
theorem Sat.nm (s : Sat Γ L Hf ad st σ H) {p : Addr} (h : H p = none) : p ∉ Γ.ms := fun hm => by
  obtain ⟨o, e⟩ := s.live p hm
  rw [e] at h
  cases h
theorem Res.go (s : Sat Γ L Hf ad st σ H) (r : Res Hf H rv v Hf' H') : Nxt ad st Hf H st Hf' H' ∧ Sat Γ L Hf' ad st σ H' ∧ RepR Γ Hf' ad st σ H H' v rv := by
  cases r with
  | same h => exact ⟨Nxt.refl, s, h⟩
  | @new p u c h hc =>
    refine ⟨⟨Ex.refl _, fun _ _ q => .inl q, fun a o q _ => upd_some h q, fun a o q => ⟨o, upd_some h q⟩, fun _ q => q⟩, s.alloc h, p, rfl, h, s.none0 h, s.nonef h, s.noneo h, u, upd_same, hc⟩
  | @tup p vs xs h hr =>
    have hf := s.nonef h
    refine ⟨⟨Ex.new hf, fun a o q => ?_, fun a o q _ => upd_some h q, fun a o q => ⟨o, upd_some h q⟩, fun _ q => q⟩, (s.alloc h).ground upd_same (s.none0 h) hf (s.nm h) (s.noneo h), .tup upd_same (hr.mono (Ex.new hf))⟩
    by_cases ha : a = p
    · subst ha
      exact .inr (.inl h)
    · rw [upd_ne ha] at q
      exact .inl q
end

/-! ### expressions, tests, arguments -/
/-- an exception's class, the field and value that it bears (if anything is known of them), the state -/
abbrev XC := Addr → Option (Str × D) → S → Prop
abbrev WE := S → (RV → S → Prop) → XC → Prop
abbrev WT := S → (Bool → S → Prop) → XC → Prop
abbrev WA := S → (List RV → S → Prop) → XC → Prop
def PayR (Hf H : Hp) (d : Option Addr) : Option (Str × D) → Prop
  | none => True
  | some (f, x) => ∃ a v, d = some a ∧ Hf a = some (.xd [(f, v)]) ∧ Rep Hf v x
def XOk (W : WX) (Γ : Gm) (L : List Addr) (Hf : Hp) (ad : Nat → Addr) (st : S) (σ : L2.St) (H : Hp) (E : XC) : Prop :=
  ∀ C x st', E C x st' → ∀ d Hf' H', Nxt ad st Hf H st' Hf' H' → Sat Γ L Hf' ad st' σ H' → PayR Hf' H' d x → W (.ref C) d σ H'
def LE (W : WX) (w : WE) : TE := fun σ H Q => ∃ Γ L Hf ad st P E, Sat Γ L Hf ad st σ H ∧ w st P E ∧
  (∀ rv st', P rv st' → ∀ v Hf' H', Nxt ad st Hf H st' Hf' H' → Sat Γ L Hf' ad st' σ H' → RepR Γ Hf' ad st' σ H H' v rv → Q v H') ∧ XOk W Γ L Hf ad st σ H E
def LT (W : WX) (w : WT) : TT := fun σ H Q => ∃ Γ L Hf ad st P E, Sat Γ L Hf ad st σ H ∧ w st P E ∧
  (∀ b st', P b st' → ∀ Hf' H', Nxt ad st Hf H st' Hf' H' → Sat Γ L Hf' ad st' σ H' → Q b H') ∧ XOk W Γ L Hf ad st σ H E
inductive RepRs (Γ : Gm) (Hf : Hp) (ad : Nat → Addr) (st : S) (σ : L2.St) (Hb H : Hp) : List V → List RV → Prop
  | nil : RepRs Γ Hf ad st σ Hb H [] []
  | cons {v : V} {r : RV} {vs : List V} {rs : List RV} : RepR Γ Hf ad st σ Hb H v r → RepRs Γ Hf ad st σ Hb H vs rs → RepRs Γ Hf ad st σ Hb H (v :: vs) (r :: rs)
def LA (W : WX) (w : WA) : TA := fun σ H Q => ∃ Γ L Hf ad st P E, Sat Γ L Hf ad st σ H ∧ w st P E ∧
  (∀ rvs st', P rvs st' → ∀ vs Hf' H', Nxt ad st Hf H st' Hf' H' → Sat Γ L Hf' ad st' σ H' → RepRs Γ Hf' ad st' σ H H' vs rvs → Q vs H') ∧ XOk W Γ L Hf ad st σ H E
theorem XOk.later {W : WX} {Γ : Gm} {L : List Addr} {Hf H Hf1 H1 : Hp} {ad : Nat → Addr} {st st1 : S} {σ : L2.St} {E : XC} (x : XOk W Γ L Hf ad st σ H E) (n : Nxt ad st Hf H st1 Hf1 H1) : XOk W Γ L Hf1 ad st1 σ H1 E :=
  fun C y st' h d Hf' H' n' s p => x C y st' h d Hf' H' (n.trans n') s p

/-- the judgements: the reading of w's is a reading of the expression -/
structure DE (X : Cx) (W : WX) (e : Expr) (w : WE) : Prop where
  pe : PE X e (LE W w)
structure DT (X : Cx) (W : WX) (e : Expr) (w : WT) : Prop where
  pt : PT X e (LT W w)
structure DW (X : Cx) (W : WX) (e : Expr) (w : WT) : Prop where
  pw : PW X e (LT W w)
structure DA (X : Cx) (W : WX) (es : List Expr) (w : WA) : Prop where
  pa : PA X es (LA W w)
theorem _root_.L2.PE.imp {X : Cx} {e : Expr} {t t' : TE} (h : PE X e t) (i : ∀ σ H Q, t' σ H Q → t σ H Q) : PE X e t' := ⟨fun pins s σ H Q I q => h.run pins s σ H Q I (i σ H Q q)⟩
theorem _root_.L2.PT.imp {X : Cx} {e : Expr} {t t' : TT} (h : PT X e t) (i : ∀ σ H Q, t' σ H Q → t σ H Q) : PT X e t' := ⟨fun pins s σ H Q I q => h.run pins s σ H Q I (i σ H Q q)⟩
theorem _root_.L2.PW.imp {X : Cx} {e : Expr} {t t' : TT} (h : PW X e t) (i : ∀ σ H Q, t' σ H Q → t σ H Q) : PW X e t' := ⟨fun wh pins s σ H Q I q => h.run wh pins s σ H Q I (i σ H Q q)⟩
theorem _root_.L2.PA.imp {X : Cx} {e : List Expr} {t t' : TA} (h : PA X e t) (i : ∀ σ H Q, t' σ H Q → t σ H Q) : PA X e t' := ⟨fun pos pins s σ H Q I q => h.run pos pins s σ H Q I (i σ H Q q)⟩
end DL


/-! DL c: expressions: names, constants, operators, tests, displays. -/
namespace DL
open PySem PySem.Spec PyProof.Rows L2

/-- what a value holds, then on -/
def opt {α : Type} (o : Option α) (k : α → Prop) : Prop := match o with
  | some x => k x
  | none => False
theorem opt_of {α : Type} {o : Option α} {k : α → Prop} (h : opt o k) : ∃ x, o = some x ∧ k x := by
  cases o with
  | none => exact h.elim
  | some x => exact ⟨x, rfl, h⟩
theorem opt_some {α : Type} {x : α} {k : α → Prop} : opt (some x) k = k x := rfl
theorem opt_none {α : Type} {k : α → Prop} : opt (none : Option α) k = False := rfl

variable {X : Cx} {W : WX}
section
variable {σ : L2.St} {H : Hp} {Q : VK}

/-! ### names and constants -/
def varK (st : S) (i : Nat) (P : RV → S → Prop) : Option Slot → Prop
  | some (.d x) => P (.d x) st
  | some (.b x) => P (.b x) st
  | some (.o _) => P (.sl i) st
  | some (.p _) => P (.sl i) st
  | _ => False
def wVar (i : Nat) : WE := fun st P _ => varK st i P st[i]?
theorem LE.var {i : Nat} (h : LE W (wVar i) σ H Q) : tVar i σ H Q := by
  obtain ⟨Γ, L, Hf, ad, st, P, E, s, hw, hP, hE⟩ := h
  have hw : varK st i P st[i]? := hw
  cases q : st[i]? with
  | none => rw [q] at hw; exact hw.elim
  | some sl =>
    rw [q] at hw
    have k := s.sl i sl q
    cases sl with
    | un => exact hw.elim
    | x _ _ _ _ => exact hw.elim
    | d x =>
      obtain ⟨u, e, r⟩ := k
      exact ⟨u, e, hP _ _ hw u Hf H Nxt.refl s r⟩
    | b x =>
      obtain ⟨u, e, r⟩ := k
      exact ⟨u, e, hP _ _ hw u Hf H Nxt.refl s r⟩
    | o c =>
      have k : σ[i]? = some (some (V.ref (ad i))) := k
      exact ⟨_, k, hP _ _ hw _ Hf H Nxt.refl s k⟩
    | p c =>
      have k : σ[i]? = some (some (V.ref (ad i))) := k
      exact ⟨_, k, hP _ _ hw _ Hf H Nxt.refl s k⟩
/-- a constant -/
def wC (x : D) : WE := fun st P _ => P (.d x) st
theorem LE.c {v : V} {x : D} (hr : ∀ Hf, Rep Hf v x) (h : LE W (wC x) σ H Q) : tC v σ H Q := by
  obtain ⟨Γ, L, Hf, ad, st, P, E, s, hw, hP, hE⟩ := h
  exact hP _ _ hw v Hf H Nxt.refl s (hr Hf)

/-! ### operations by values -/
abbrev Op1 := D → (RV → Prop) → Prop
abbrev Op2 := D → D → (RV → Prop) → Prop
def OpOk (r : R2) (op : Op2) : Prop := ∀ (L : List Addr) (Hf H : Hp) (v1 v2 : V) (x y : D) (P : RV → Prop) (Q : VK), Exl L Hf H → RepH Hf H v1 x → RepH Hf H v2 y → op x y P →
  (∀ rv v Hf' H', P rv → Res Hf H rv v Hf' H' → Q v H') → r v1 v2 H Q
def Op1Ok (r : V → Hp → VK → Prop) (op : Op1) : Prop := ∀ (L : List Addr) (Hf H : Hp) (v : V) (x : D) (P : RV → Prop) (Q : VK), Exl L Hf H → RepH Hf H v x → op x P →
  (∀ rv v Hf' H', P rv → Res Hf H rv v Hf' H' → Q v H') → r v H Q
def wBin (op : Op2) (w1 w2 : WE) : WE := fun st P E => w1 st (fun r1 st1 => w2 st1 (fun r2 st2 => opt (cont st2 r1) fun x => opt (cont st2 r2) fun y => op x y fun rv => P rv st2) E) E
def wUn (op : Op1) (w : WE) : WE := fun st P E => w st (fun r1 st1 => opt (cont st1 r1) fun x => op x fun rv => P rv st1) E
theorem LE.bin {r : R2} {op : Op2} {w1 w2 : WE} (ok : OpOk r op) (h : LE W (wBin op w1 w2) σ H Q) : tOp r (LE W w1) (LE W w2) σ H Q := by
  obtain ⟨Γ, L, Hf, ad, st, P, E, s, hw, hP, hE⟩ := h
  refine ⟨Γ, L, Hf, ad, st, _, E, s, hw, fun r1 st1 h1 v1 Hf1 H1 n1 s1 k1 => ?_, hE⟩
  refine ⟨Γ, L, Hf1, ad, st1, _, E, s1, h1, fun r2 st2 h2 v2 Hf2 H2 n2 s2 k2 => ?_, hE.later n1⟩
  obtain ⟨x, cx, h2⟩ := opt_of h2
  obtain ⟨y, cy, h2⟩ := opt_of h2
  refine ok L Hf2 H2 v1 v2 x y _ _ s2.exf ((k1.later n2).reph s2 cx) (k2.reph s2 cy) h2 fun rv v Hf' H' hp res => ?_
  obtain ⟨n3, s3, k3⟩ := res.go s2
  exact hP rv st2 hp v Hf' H' ((n1.trans n2).trans n3) s3 (k3.from (n1.trans n2))
theorem LE.un {r : V → Hp → VK → Prop} {op : Op1} {w1 : WE} (ok : Op1Ok r op) (h : LE W (wUn op w1) σ H Q) : tUn r (LE W w1) σ H Q := by
  obtain ⟨Γ, L, Hf, ad, st, P, E, s, hw, hP, hE⟩ := h
  refine ⟨Γ, L, Hf, ad, st, _, E, s, hw, fun r1 st1 h1 v1 Hf1 H1 n1 s1 k1 => ?_, hE⟩
  obtain ⟨x, cx, h1⟩ := opt_of h1
  refine ok L Hf1 H1 v1 x _ _ s1.exf (k1.reph s1 cx) h1 fun rv v Hf' H' hp res => ?_
  obtain ⟨n3, s3, k3⟩ := res.go s1
  exact hP rv st1 hp v Hf' H' (n1.trans n3) s3 (k3.from n1)
/-- a value's being kept: a new object, or one's own, becomes data that never changes -/
def freeze (st : S) (i : Nat) : Option Slot → Option (D × S)
  | some (.o c) => some (c.toD, st.set i (.d c.toD))
  | some (.d x) => some (x, st)
  | _ => none
def persK (st : S) (P : RV → S → Prop) : RV → Prop
  | .d x => P (.d x) st
  | .n c => P (.d c.toD) st
  | .sl i => opt (freeze st i st[i]?) fun z => P (.d z.1) z.2
  | .b _ => False
def wPers (w : WE) : WE := fun st P E => w st (fun r st1 => persK st1 P r) E
theorem Sat.freeze {Γ : Gm} {L : List Addr} {Hf : Hp} {ad : Nat → Addr} {st : S} (s : Sat Γ L Hf ad st σ H) {i : Nat} {c : Cell} (e : st[i]? = some (.o c)) :
    ∃ u, H (ad i) = some u ∧ CellO Hf u c ∧ Nxt ad st Hf H (st.set i (.d c.toD)) (upd Hf (ad i) u) H ∧ Sat Γ L (upd Hf (ad i) u) ad (st.set i (.d c.toD)) σ H := by
  obtain ⟨h0, hf, u, hu, hc⟩ := s.own i c e
  have ow : Owns st i := .inl ⟨c, e⟩
  have ex : Ex Hf (upd Hf (ad i) u) := Ex.new hf
  have li : i < st.length := (List.getElem?_eq_some_iff.mp e).1
  have back : ∀ j sl, (st.set i (Slot.d c.toD))[j]? = some sl → (j = i ∧ sl = .d c.toD) ∨ (j ≠ i ∧ st[j]? = some sl) := fun j sl q => by
    by_cases hj : j = i
    · subst hj
      rw [List.getElem?_set_self li] at q
      exact .inl ⟨rfl, (Option.some.inj q).symm⟩
    · rw [List.getElem?_set_ne (Ne.symm hj)] at q
      exact .inr ⟨hj, q⟩
  have sub : ∀ j, Owns (st.set i (Slot.d c.toD)) j → Owns st j ∧ j ≠ i := fun j hj => by
    rcases hj with ⟨c', q⟩ | ⟨c', q⟩
    · rcases back j _ q with ⟨_, z⟩ | ⟨z1, z2⟩
      · cases z
      · exact ⟨.inl ⟨c', z2⟩, z1⟩
    · rcases back j _ q with ⟨_, z⟩ | ⟨z1, z2⟩
      · cases z
      · exact ⟨.inr ⟨c', z2⟩, z1⟩
  have nep : ∀ j, Owns (st.set i (Slot.d c.toD)) j → ad j ≠ ad i := fun j hj q => (sub j hj).2 (s.inj j i (sub j hj).1 ow q)
  have nm : ad i ∉ Γ.ms := fun hm => s.ms0 _ hm h0
  refine ⟨u, hu, hc, ⟨ex, fun a o q => ?_, fun a o q _ => q, fun a o q => ⟨o, q⟩, fun j hj => (sub j hj).1⟩, ?_⟩
  · by_cases ha : a = ad i
    · exact .inr (.inr ⟨i, ow, ha.symm⟩)
    · rw [upd_ne ha] at q
      exact .inl q
  · refine ⟨by rw [List.length_set]; exact s.len, fun a o q => ?_, s.exs, s.base.trans ex, fun a o q => ?_, s.live, fun a ha => ?_, s.ms0, fun j c' q => ?_, fun j c' q => ?_, s.lk, fun j k hj hk z => s.inj j k (sub j hj).1 (sub k hk).1 z, fun j sl q => ?_⟩
    · by_cases ha : a = ad i
      · subst ha
        rw [upd_same] at q
        cases q
        exact .inl hu
      · rw [upd_ne ha] at q
        exact s.exf a o q
    · by_cases ha : a = ad i
      · subst ha
        exact .inr h0
      · rw [upd_ne ha] at q
        exact s.new a o q
    · rw [upd_ne (fun z => nm (by rw [← z]; exact ha))]
      exact s.msf a ha
    · have ho := nep j (.inl ⟨c', q⟩)
      rcases back j _ q with ⟨_, z⟩ | ⟨z1, z2⟩
      · cases z
      · obtain ⟨h1, h2, w, h3, h4⟩ := s.own j c' z2
        exact ⟨h1, by rw [upd_ne ho]; exact h2, w, h3, h4.mono ex⟩
    · rcases back j _ q with ⟨_, z⟩ | ⟨z1, z2⟩
      · cases z
      · obtain ⟨h1, w, h3, h4⟩ := s.par j c' z2
        exact ⟨h1, w, h3, h4.mono ex⟩
    · rcases back j _ q with ⟨z1, z⟩ | ⟨z1, z2⟩
      · subst z1
        subst z
        have k : σ[j]? = some (some (V.ref (ad j))) := s.sl j _ e
        exact ⟨_, k, (hc.mono ex).rep upd_same⟩
      · exact (s.sl j sl z2).mono ex

theorem LE.pers {w : WE} (h : LE W (wPers w) σ H Q) : LE W w σ H Q := by
  obtain ⟨Γ, L, Hf, ad, st, P, E, s, hw, hP, hE⟩ := h
  refine ⟨Γ, L, Hf, ad, st, _, E, s, hw, fun r1 st1 h1 v Hf1 H1 n1 s1 k1 => ?_, hE⟩
  have h1 : persK st1 P r1 := h1
  cases r1 with
  | d x => exact hP _ _ h1 v Hf1 H1 n1 s1 k1
  | b x => exact h1.elim
  | n c =>
    obtain ⟨p, rfl, e1, e2, e3, e4, u, e5, e6⟩ := k1
    have nm : p ∉ Γ.ms := fun hm => s1.ms0 _ hm e2
    refine hP _ _ h1 _ (upd Hf1 p u) H1 ⟨n1.ex.trans (Ex.new e3), fun a o q => ?_, n1.keep, n1.there, n1.sub⟩ (s1.ground e5 e2 e3 nm e4) ((e6.mono (Ex.new e3)).rep upd_same)
    by_cases ha : a = p
    · subst ha
      exact .inr (.inl e1)
    · rw [upd_ne ha] at q
      exact n1.new a o q
  | sl i =>
    have k1 : σ[i]? = some (some v) := k1
    obtain ⟨z, ez, h2⟩ := opt_of (show opt (freeze st1 i st1[i]?) fun z => P (.d z.1) z.2 from h1)
    cases q : st1[i]? with
    | none => rw [q] at ez; cases ez
    | some sl =>
      rw [q] at ez
      cases sl with
      | o c =>
        cases ez
        obtain ⟨u, hu, hc, n2, s2⟩ := s1.freeze q
        have k : σ[i]? = some (some (V.ref (ad i))) := s1.sl i _ q
        rw [k1] at k
        cases k
        have hf := (s1.own i c q).2.1
        exact hP _ _ h2 _ _ _ (n1.trans n2) s2 ((hc.mono (Ex.new hf)).rep upd_same)
      | d x =>
        cases ez
        obtain ⟨u, k, r⟩ := s1.sl i _ q
        rw [k1] at k
        cases k
        exact hP _ _ h2 _ _ _ n1 s1 r
      | un => cases ez
      | x _ _ _ _ => cases ez
      | b x => cases ez
      | p c => cases ez

/-! ### tests -/
def boolK (P : Bool → S → Prop) (st : S) : RV → Prop
  | .d (.bl b) => P b st
  | _ => False
theorem boolK_of {P : Bool → S → Prop} {st : S} {r : RV} (h : boolK P st r) : ∃ b, r = .d (.bl b) ∧ P b st := by
  cases r with
  | d x => cases x with
    | bl b => exact ⟨b, rfl, h⟩
    | _ => exact h.elim
  | _ => exact h.elim
def wTest (w : WE) : WT := fun st P E => w st (fun r st1 => boolK P st1 r) E
theorem rep_bl {Hf : Hp} {v : V} {b : Bool} (h : Rep Hf v (.bl b)) : v = .bl b := by
  cases h
  rfl
theorem LT.test {w : WE} {Q : Bool → Hp → Prop} (h : LT W (wTest w) σ H Q) : tTest (LE W w) σ H Q := by
  obtain ⟨Γ, L, Hf, ad, st, P, E, s, hw, hP, hE⟩ := h
  refine ⟨Γ, L, Hf, ad, st, _, E, s, hw, fun r1 st1 h1 v Hf1 H1 n1 s1 k1 => ?_, hE⟩
  obtain ⟨b, rfl, h1⟩ := boolK_of h1
  exact ⟨b, rep_bl k1, hP _ _ h1 Hf1 H1 n1 s1⟩
def wAnd (a b : WT) : WT := fun st P E => a st (fun k st1 => if k = true then b st1 P E else P false st1) E
def wOr (a b : WT) : WT := fun st P E => a st (fun k st1 => if k = true then P true st1 else b st1 P E) E
def wNot (a : WT) : WT := fun st P E => a st (fun k st1 => P (!k) st1) E
theorem LT.and {a b : WT} {Q : Bool → Hp → Prop} (h : LT W (wAnd a b) σ H Q) : tAnd (LT W a) (LT W b) σ H Q := by
  obtain ⟨Γ, L, Hf, ad, st, P, E, s, hw, hP, hE⟩ := h
  refine ⟨Γ, L, Hf, ad, st, _, E, s, hw, fun k st1 h1 Hf1 H1 n1 s1 => ?_, hE⟩
  cases k with
  | true =>
    show LT W b σ H1 Q
    exact ⟨Γ, L, Hf1, ad, st1, P, E, s1, h1, fun k2 st2 h2 Hf2 H2 n2 s2 => hP _ _ h2 Hf2 H2 (n1.trans n2) s2, hE.later n1⟩
  | false =>
    show Q false H1
    exact hP _ _ h1 Hf1 H1 n1 s1
theorem LT.or {a b : WT} {Q : Bool → Hp → Prop} (h : LT W (wOr a b) σ H Q) : tOr (LT W a) (LT W b) σ H Q := by
  obtain ⟨Γ, L, Hf, ad, st, P, E, s, hw, hP, hE⟩ := h
  refine ⟨Γ, L, Hf, ad, st, _, E, s, hw, fun k st1 h1 Hf1 H1 n1 s1 => ?_, hE⟩
  cases k with
  | false =>
    show LT W b σ H1 Q
    exact ⟨Γ, L, Hf1, ad, st1, P, E, s1, h1, fun k2 st2 h2 Hf2 H2 n2 s2 => hP _ _ h2 Hf2 H2 (n1.trans n2) s2, hE.later n1⟩
  | true =>
    show Q true H1
    exact hP _ _ h1 Hf1 H1 n1 s1
theorem LT.not {a : WT} {Q : Bool → Hp → Prop} (h : LT W (wNot a) σ H Q) : tNot (LT W a) σ H Q := by
  obtain ⟨Γ, L, Hf, ad, st, P, E, s, hw, hP, hE⟩ := h
  exact ⟨Γ, L, Hf, ad, st, _, E, s, hw, fun k st1 h1 Hf1 H1 n1 s1 => hP _ _ h1 Hf1 H1 n1 s1, hE⟩
/-- .. as values -/
def wAndV (a b : WE) : WE := fun st P E => a st (fun r st1 => boolK (fun k st1 => if k = true then b st1 P E else P (.d (.bl false)) st1) st1 r) E
def wOrV (a b : WE) : WE := fun st P E => a st (fun r st1 => boolK (fun k st1 => if k = true then P (.d (.bl true)) st1 else b st1 P E) st1 r) E
def wNotV (a : WE) : WE := fun st P E => a st (fun r st1 => boolK (fun k st1 => P (.d (.bl !k)) st1) st1 r) E
theorem LE.andV {a b : WE} (h : LE W (wAndV a b) σ H Q) : tAndV (LE W a) (LE W b) σ H Q := by
  obtain ⟨Γ, L, Hf, ad, st, P, E, s, hw, hP, hE⟩ := h
  refine ⟨Γ, L, Hf, ad, st, _, E, s, hw, fun r st1 h1 v Hf1 H1 n1 s1 k1 => ?_, hE⟩
  obtain ⟨k, rfl, h1⟩ := boolK_of h1
  refine ⟨k, rep_bl k1, ?_⟩
  cases k with
  | true =>
    show LE W b σ H1 Q
    exact ⟨Γ, L, Hf1, ad, st1, P, E, s1, h1, fun k2 st2 h2 v2 Hf2 H2 n2 s2 r2 => hP _ _ h2 v2 Hf2 H2 (n1.trans n2) s2 (r2.from n1), hE.later n1⟩
  | false =>
    show Q (.bl false) H1
    exact hP _ _ h1 _ Hf1 H1 n1 s1 (.bl false)
theorem LE.orV {a b : WE} (h : LE W (wOrV a b) σ H Q) : tOrV (LE W a) (LE W b) σ H Q := by
  obtain ⟨Γ, L, Hf, ad, st, P, E, s, hw, hP, hE⟩ := h
  refine ⟨Γ, L, Hf, ad, st, _, E, s, hw, fun r st1 h1 v Hf1 H1 n1 s1 k1 => ?_, hE⟩
  obtain ⟨k, rfl, h1⟩ := boolK_of h1
  refine ⟨k, rep_bl k1, ?_⟩
  cases k with
  | false =>
    show LE W b σ H1 Q
    exact ⟨Γ, L, Hf1, ad, st1, P, E, s1, h1, fun k2 st2 h2 v2 Hf2 H2 n2 s2 r2 => hP _ _ h2 v2 Hf2 H2 (n1.trans n2) s2 (r2.from n1), hE.later n1⟩
  | true =>
    show Q (.bl true) H1
    exact hP _ _ h1 _ Hf1 H1 n1 s1 (.bl true)
theorem LE.notV {a : WE} (h : LE W (wNotV a) σ H Q) : tNotV (LE W a) σ H Q := by
  obtain ⟨Γ, L, Hf, ad, st, P, E, s, hw, hP, hE⟩ := h
  refine ⟨Γ, L, Hf, ad, st, _, E, s, hw, fun r st1 h1 v Hf1 H1 n1 s1 k1 => ?_, hE⟩
  obtain ⟨k, rfl, h1⟩ := boolK_of h1
  exact ⟨k, rep_bl k1, hP _ _ h1 _ Hf1 H1 n1 s1 (.bl _)⟩
def wIf (t : WT) (a b : WE) : WE := fun st P E => t st (fun k st1 => if k = true then a st1 P E else b st1 P E) E
theorem LE.ifE {t : WT} {a b : WE} (h : LE W (wIf t a b) σ H Q) : tIf (LT W t) (LE W a) (LE W b) σ H Q := by
  obtain ⟨Γ, L, Hf, ad, st, P, E, s, hw, hP, hE⟩ := h
  refine ⟨Γ, L, Hf, ad, st, _, E, s, hw, fun k st1 h1 Hf1 H1 n1 s1 => ?_, hE⟩
  cases k with
  | true =>
    show LE W a σ H1 Q
    exact ⟨Γ, L, Hf1, ad, st1, P, E, s1, h1, fun k2 st2 h2 v2 Hf2 H2 n2 s2 r2 => hP _ _ h2 v2 Hf2 H2 (n1.trans n2) s2 (r2.from n1), hE.later n1⟩
  | false =>
    show LE W b σ H1 Q
    exact ⟨Γ, L, Hf1, ad, st1, P, E, s1, h1, fun k2 st2 h2 v2 Hf2 H2 n2 s2 r2 => hP _ _ h2 v2 Hf2 H2 (n1.trans n2) s2 (r2.from n1), hE.later n1⟩

/-! ### arguments, displays -/
def wNil : WA := fun st P _ => P [] st
def wCons (w : WE) (wr : WA) : WA := fun st P E => w st (fun r st1 => wr st1 (fun rs st2 => P (r :: rs) st2) E) E
theorem RepRs.later {Γ : Gm} {Hf Hf1 H1 Hb : Hp} {ad : Nat → Addr} {st st1 : S} (a : Nxt ad st Hf H st1 Hf1 H1) : ∀ {vs : List V} {rs : List RV}, RepRs Γ Hf ad st σ Hb H vs rs → RepRs Γ Hf1 ad st1 σ Hb H1 vs rs
  | _, _, .nil => .nil
  | _, _, .cons h r => .cons (h.later a) (r.later a)
theorem RepRs.from {Γ : Gm} {Hf Hf1 Hf2 H1 H2 Hb : Hp} {ad : Nat → Addr} {st st1 st2 : S} (a : Nxt ad st Hf Hb st1 Hf1 H1) : ∀ {vs : List V} {rs : List RV}, RepRs Γ Hf2 ad st2 σ H1 H2 vs rs → RepRs Γ Hf2 ad st2 σ Hb H2 vs rs
  | _, _, .nil => .nil
  | _, _, .cons h r => .cons (h.from a) (r.from a)
theorem LA.nil {Q : List V → Hp → Prop} (h : LA W wNil σ H Q) : tNil σ H Q := by
  obtain ⟨Γ, L, Hf, ad, st, P, E, s, hw, hP, hE⟩ := h
  exact hP _ _ hw [] Hf H Nxt.refl s .nil
theorem LA.cons {w : WE} {wr : WA} {Q : List V → Hp → Prop} (h : LA W (wCons w wr) σ H Q) : tCons (LE W w) (LA W wr) σ H Q := by
  obtain ⟨Γ, L, Hf, ad, st, P, E, s, hw, hP, hE⟩ := h
  refine ⟨Γ, L, Hf, ad, st, _, E, s, hw, fun r1 st1 h1 v Hf1 H1 n1 s1 k1 => ?_, hE⟩
  refine ⟨Γ, L, Hf1, ad, st1, _, E, s1, h1, fun rs st2 h2 vs Hf2 H2 n2 s2 k2 => ?_, hE.later n1⟩
  exact hP _ _ h2 _ Hf2 H2 (n1.trans n2) s2 (.cons (k1.later n2) (k2.from n1))
def dAll : List RV → Option (List D)
  | [] => some []
  | .d x :: r => (dAll r).map (x :: ·)
  | _ => none
theorem dAll_reps {Γ : Gm} {Hf Hb : Hp} {ad : Nat → Addr} {st : S} : ∀ {vs : List V} {rs : List RV} {xs : List D}, RepRs Γ Hf ad st σ Hb H vs rs → dAll rs = some xs → Reps Hf vs xs
  | _, _, _, .nil, e => by
    cases e
    exact .nil
  | _, _, _, @RepRs.cons _ _ _ _ _ _ _ v rv vs rs h r, e => by
    cases rv with
    | d x =>
      obtain ⟨ys, h1, rfl⟩ := Option.map_eq_some_iff.mp (show (dAll rs).map (x :: ·) = some _ from e)
      exact .cons h (dAll_reps r h1)
    | b x => cases e
    | sl i => cases e
    | n c => cases e
def conts (st : S) : List RV → Option (List D)
  | [] => some []
  | r :: rs => match cont st r, conts st rs with
    | some x, some xs => some (x :: xs)
    | _, _ => none
inductive RepHs (Hf H : Hp) : List V → List D → Prop
  | nil : RepHs Hf H [] []
  | cons {v : V} {x : D} {vs : List V} {xs : List D} : RepH Hf H v x → RepHs Hf H vs xs → RepHs Hf H (v :: vs) (x :: xs)
theorem conts_reps {Γ : Gm} {L : List Addr} {Hf Hb : Hp} {ad : Nat → Addr} {st : S} (s : Sat Γ L Hf ad st σ H) : ∀ {vs : List V} {rs : List RV} {xs : List D}, RepRs Γ Hf ad st σ Hb H vs rs → conts st rs = some xs → RepHs Hf H vs xs
  | _, _, _, .nil, e => by
    cases e
    exact .nil
  | _, _, _, @RepRs.cons _ _ _ _ _ _ _ v rv vs rs h r, e => by
    have e : (match cont st rv, conts st rs with
      | some x, some xs => some (x :: xs)
      | _, _ => none) = some _ := e
    cases e1 : cont st rv with
    | none => rw [e1] at e; cases e
    | some x =>
      cases e2 : conts st rs with
      | none => rw [e1, e2] at e; cases e
      | some ys =>
        rw [e1, e2] at e
        cases e
        exact .cons (h.reph s e1) (conts_reps s r e2)
def wTup (w : WA) : WE := fun st P E => w st (fun rs st1 => opt (dAll rs) fun xs => xs.length ≤ sizeLine ∧ P (.d (.tup xs)) st1) E
def wLst (w : WA) : WE := fun st P E => w st (fun rs st1 => opt (dAll rs) fun xs => xs.length ≤ sizeLine ∧ P (.n (.lst xs)) st1) E
theorem LE.tup {w : WA} (h : LE W (wTup w) σ H Q) : tTup (LA W w) σ H Q := by
  obtain ⟨Γ, L, Hf, ad, st, P, E, s, hw, hP, hE⟩ := h
  refine ⟨Γ, L, Hf, ad, st, _, E, s, hw, fun rs st1 h1 vs Hf1 H1 n1 s1 k1 => ?_, hE⟩
  obtain ⟨xs, e, hz, h1⟩ := opt_of h1
  have r := dAll_reps k1 e
  refine ⟨by rw [r.length]; exact hz, fun p hp => ?_⟩
  obtain ⟨n2, s2, k2⟩ := (Res.tup hp r).go s1
  exact hP _ _ h1 _ _ _ (n1.trans n2) s2 (k2.from n1)
theorem LE.lst {w : WA} (h : LE W (wLst w) σ H Q) : tLst (LA W w) σ H Q := by
  obtain ⟨Γ, L, Hf, ad, st, P, E, s, hw, hP, hE⟩ := h
  refine ⟨Γ, L, Hf, ad, st, _, E, s, hw, fun rs st1 h1 vs Hf1 H1 n1 s1 k1 => ?_, hE⟩
  obtain ⟨xs, e, hz, h1⟩ := opt_of h1
  have r := dAll_reps k1 e
  refine ⟨by rw [r.length]; exact hz, fun p hp => ?_⟩
  obtain ⟨n2, s2, k2⟩ := (Res.new (c := .lst xs) hp ⟨vs, rfl, r⟩).go s1
  exact hP _ _ h1 _ _ _ (n1.trans n2) s2 (k2.from n1)
/-- a call of a built-in by values -/
abbrev OpN := List D → (RV → Prop) → Prop
def CallOk (r : List V → Hp → VK → Prop) (op : OpN) : Prop := ∀ (L : List Addr) (Hf H : Hp) (vs : List V) (xs : List D) (P : RV → Prop) (Q : VK), Exl L Hf H → RepHs Hf H vs xs → op xs P →
  (∀ rv v Hf' H', P rv → Res Hf H rv v Hf' H' → Q v H') → r vs H Q
def wCB (op : OpN) (w : WA) : WE := fun st P E => w st (fun rs st1 => opt (conts st1 rs) fun xs => op xs fun rv => P rv st1) E
theorem LE.cb {r : List V → Hp → VK → Prop} {op : OpN} {w : WA} (ok : CallOk r op) (h : LE W (wCB op w) σ H Q) : tCB r (LA W w) σ H Q := by
  obtain ⟨Γ, L, Hf, ad, st, P, E, s, hw, hP, hE⟩ := h
  refine ⟨Γ, L, Hf, ad, st, _, E, s, hw, fun rs st1 h1 vs Hf1 H1 n1 s1 k1 => ?_, hE⟩
  obtain ⟨xs, cx, h1⟩ := opt_of h1
  refine ok L Hf1 H1 vs xs _ _ s1.exf (conts_reps s1 k1 cx) h1 fun rv v Hf' H' hp res => ?_
  obtain ⟨n3, s3, k3⟩ := res.go s1
  exact hP rv st1 hp v Hf' H' (n1.trans n3) s3 (k3.from n1)
end

/-! ### the judgements -/
section
variable {e a b c : Expr} {es : List Expr} {w w1 w2 : WE} {wa : WA} {wt wt1 wt2 : WT} {pos : Pos}
theorem de_var (i : Nat) {x : Str} {pos : Pos} (hN : X.N[i]? = some x := by rfl) (hv : Vis X.env.scope x := by first | exact Or.inl rfl | exact Or.inr (Or.inl rfl) | exact Or.inr (Or.inr rfl)) (hd : (x == ("__debug__" : Str)) = false := by decide)
    (hcd : (x == ("__classdict__" : Str)) = false := by decide) : DE X W (.Name x pos) (wVar i) := ⟨(pe_var hN hv hd hcd).imp fun _ _ _ h => h.var⟩
theorem de_int {i : Int} {j pos} : DE X W (.Constant (.int i) j pos) (wC (.int i)) := ⟨pe_int.imp fun _ _ _ h => h.c fun _ => .int i⟩
theorem de_bl {i : Bool} {j pos} : DE X W (.Constant (.bool i) j pos) (wC (.bl i)) := ⟨pe_bl.imp fun _ _ _ h => h.c fun _ => .bl i⟩
theorem de_non {j pos} : DE X W (.Constant .none j pos) (wC .non) := ⟨pe_non.imp fun _ _ _ h => h.c fun _ => .non⟩
theorem de_str {i : Str} {j pos} : DE X W (.Constant (.str i) j pos) (wC (.str i)) := ⟨pe_str.imp fun _ _ _ h => h.c fun _ => .str i⟩
theorem de_pers (h : DE X W e w) : DE X W e (wPers w) := ⟨h.pe.imp fun _ _ _ q => q.pers⟩
theorem de_op {op : Operator} {r : R2} {o : Op2} (ho : OpR X (binaryOp op) r) (ok : OpOk r o) (ha : DE X W a w1) (hb : DE X W b w2) : DE X W (.BinOp a op b pos) (wBin o w1 w2) := ⟨(pe_op ho ha.pe hb.pe).imp fun _ _ _ h => h.bin ok⟩
theorem de_un {op : UnaryOp} {r : V → Hp → VK → Prop} {o : Op1} (ho : UnR X (unaryOp op) r) (ok : Op1Ok r o) (ha : DE X W a w1) : DE X W (.UnaryOp op a pos) (wUn o w1) := ⟨(pe_un ho ha.pe).imp fun _ _ _ h => h.un ok⟩
theorem de_cmp {op : CmpOp} {r : R2} {o : Op2} (ho : OpR X (compareOp op) r) (ok : OpOk r o) (ha : DE X W a w1) (hb : DE X W b w2) (hm : behindInMarks op b = false) : DE X W (.Compare a [op] [b] pos) (wBin o w1 w2) := ⟨(pe_cmpR ho ha.pe hb.pe hm).imp fun _ _ _ h => h.bin ok⟩
theorem dt_cmp {op : CmpOp} {r : R2} {o : Op2} (ho : OpR X (compareOp op) r) (ok : OpOk r o) (ha : DE X W a w1) (hb : DE X W b w2) (hm : behindInMarks op b = false) : DT X W (.Compare a [op] [b] pos) (wTest (wBin o w1 w2)) := ⟨(pt_cmpR ho ha.pe hb.pe hm).imp fun _ _ _ h => by
  obtain ⟨Γ, L, Hf, ad, st, P, E, s, hw, hP, hE⟩ := h
  refine LE.bin (W := W) ok ⟨Γ, L, Hf, ad, st, _, E, s, hw, fun r1 st1 h1 v Hf1 H1 n1 s1 k1 => ?_, hE⟩
  obtain ⟨b, rfl, h1⟩ := boolK_of h1
  exact ⟨b, rep_bl k1, hP _ _ h1 Hf1 H1 n1 s1⟩⟩
theorem dt_val (h : DE X W e w) (he : ∀ whole, isTrue e X.env whole = (do let v ← whole; standAt e.pos; holding [v] (truthy v)) := by intro _; rfl) : DT X W e (wTest w) := ⟨(pt_val h.pe he).imp fun _ _ _ q => q.test⟩
theorem dw_and1 (h : DT X W a wt) : DW X W (.BoolOp .And [a] pos) wt := ⟨pw_and1 h.pt⟩
theorem dw_or1 (h : DT X W a wt) : DW X W (.BoolOp .Or [a] pos) wt := ⟨pw_or1 h.pt⟩
theorem dw_and {rest : List Expr} (ha : DT X W a wt1) (hb : DW X W (.BoolOp .And (b :: rest) pos) wt2) : DW X W (.BoolOp .And (a :: b :: rest) pos) (wAnd wt1 wt2) := ⟨(pw_and ha.pt hb.pw).imp fun _ _ _ h => h.and⟩
theorem dw_or {rest : List Expr} (ha : DT X W a wt1) (hb : DW X W (.BoolOp .Or (b :: rest) pos) wt2) : DW X W (.BoolOp .Or (a :: b :: rest) pos) (wOr wt1 wt2) := ⟨(pw_or ha.pt hb.pw).imp fun _ _ _ h => h.or⟩
theorem dt_bool (h : DW X W e wt) : DT X W e wt := ⟨h.pw.pt⟩
theorem dt_not (h : DT X W a wt) : DT X W (.UnaryOp .Not a pos) (wNot wt) := ⟨(pt_not h.pt).imp fun _ _ _ q => q.not⟩
theorem de_one {op} (h : DE X W a w) : DE X W (.BoolOp op [a] pos) w := ⟨pe_one h.pe⟩
theorem de_and {rest : List Expr} (ha : DE X W a w1) (hb : DE X W (.BoolOp .And (b :: rest) pos) w2) : DE X W (.BoolOp .And (a :: b :: rest) pos) (wAndV w1 w2) := ⟨(pe_and ha.pe hb.pe).imp fun _ _ _ h => h.andV⟩
theorem de_or {rest : List Expr} (ha : DE X W a w1) (hb : DE X W (.BoolOp .Or (b :: rest) pos) w2) : DE X W (.BoolOp .Or (a :: b :: rest) pos) (wOrV w1 w2) := ⟨(pe_or ha.pe hb.pe).imp fun _ _ _ h => h.orV⟩
theorem de_not (h : DE X W a w) : DE X W (.UnaryOp .Not a pos) (wNotV w) := ⟨(pe_not h.pe).imp fun _ _ _ q => q.notV⟩
theorem de_if (hc : DT X W c wt) (ha : DE X W a w1) (hb : DE X W b w2) : DE X W (.IfExp c a b pos) (wIf wt w1 w2) := ⟨(pe_ifExp hc.pt ha.pe hb.pe).imp fun _ _ _ h => h.ifE⟩
theorem da_nil : DA X W [] wNil := ⟨pa_nil.imp fun _ _ _ h => h.nil⟩
theorem da_cons (ha : DE X W e w) (hr : DA X W es wa) (hs : starEach (e :: es) X.env = (false, eval e X.env) :: starEach es X.env := by rfl) : DA X W (e :: es) (wCons w wa) := ⟨(pa_cons ha.pe hr.pa hs).imp fun _ _ _ h => h.cons⟩
theorem de_tup {k} (h : DA X W es wa) : DE X W (.Tuple es k pos) (wTup wa) := ⟨(pe_tup h.pa).imp fun _ _ _ q => q.tup⟩
theorem de_lst (h : DA X W es wa) : DE X W (.List es pos) (wLst wa) := ⟨(pe_lst h.pa).imp fun _ _ _ q => q.lst⟩
end
end DL


/-! DL d: statements. -/
namespace DL
open PySem PySem.Spec PyProof.Rows L2

/-- what is wanted behind a statement -/
structure DN where
  nx : S → Prop
  rt : RV → S → Prop
  bk : S → Prop
  ct : S → Prop
  ex : XC
abbrev WS := DN → S → Prop
/-- an assignment's target -/
abbrev WG := D → S → (S → Prop) → Prop
structure Conn (W : WX) (Γ : Gm) (L : List Addr) (N : DN) (D : Ends) : Prop where
  nx : ∀ st', N.nx st' → ∀ Hf' ad' σ' H', Sat Γ L Hf' ad' st' σ' H' → D.nx σ' H'
  rt : ∀ rv st', N.rt rv st' → ∀ v Hf' ad' σ' H', Sat Γ L Hf' ad' st' σ' H' → RepR Γ Hf' ad' st' σ' Γ.H0 H' v rv → D.rt v H'
  bk : ∀ st', N.bk st' → ∀ Hf' ad' σ' H', Sat Γ L Hf' ad' st' σ' H' → D.bk σ' H'
  ct : ∀ st', N.ct st' → ∀ Hf' ad' σ' H', Sat Γ L Hf' ad' st' σ' H' → D.ct σ' H'
  ex : ∀ C x st', N.ex C x st' → ∀ d Hf' ad' σ' H', Sat Γ L Hf' ad' st' σ' H' → PayR Hf' H' d x → W (.ref C) d σ' H'
def LS (W : WX) (w : WS) : TS := fun D σ H => ∃ Γ L Hf ad st N, Sat Γ L Hf ad st σ H ∧ w N st ∧ Conn W Γ L N D
theorem Conn.xok {W : WX} {Γ : Gm} {L : List Addr} {N : DN} {D : Ends} (c : Conn W Γ L N D) {Hf H : Hp} {ad : Nat → Addr} {st : S} {σ : L2.St} : XOk W Γ L Hf ad st σ H N.ex :=
  fun C x st' h d Hf' H' _ s p => c.ex C x st' h d Hf' ad σ H' s p
structure DS (X : Cx) (W : WX) (s : Stmt) (w : WS) : Prop where
  ps : PS X s (LS W w)
structure DSs (X : Cx) (W : WX) (s : List Stmt) (w : WS) : Prop where
  pss : PSs X s (LS W w)
/-- what a target's store leaves -/
structure GSub (vs : List Nat) (st : S) (σ : L2.St) (st' : S) (σ' : L2.St) : Prop where
  len : σ'.length = σ.length
  out : ∀ j, j ∉ vs → σ'[j]? = σ[j]?
  sub : ∀ i, Owns st' i → Owns st i
def NoP (st : S) (i : Nat) : Prop := match st[i]? with
  | some (.p _) => False
  | some _ => True
  | none => False
def gN (i : Nat) : WG := fun x st P => NoP st i ∧ P (st.set i (.d x))
def gsN : List WG → List D → S → (S → Prop) → Prop
  | [], [], st, P => P st
  | g :: gs, x :: xs, st, P => g x st fun st' => gsN gs xs st' P
  | _, _, _, _ => False
def gT (gs : List WG) : WG := fun x st P => match x with
  | .tup xs => xs.length = gs.length ∧ gsN gs xs st P
  | _ => False
/-- a target's reading by data -/
def GOk (t : TG) (vs : List Nat) (g : WG) : Prop := ∀ Γ L Hf ad st σ H v x P (Q : L2.St → Hp → Prop), Sat Γ L Hf ad st σ H → Rep Hf v x → g x st P → (∀ st', P st' → ∀ σ', Sat Γ L Hf ad st' σ' H → GSub vs st σ st' σ' → Q σ' H) → t v σ H Q
def GsOk (t : TGs) (vs : List Nat) (gs : List WG) : Prop := ∀ Γ L Hf ad st σ H us xs P (Q : L2.St → Hp → Prop), Sat Γ L Hf ad st σ H → Reps Hf us xs → gsN gs xs st P → (∀ st', P st' → ∀ σ', Sat Γ L Hf ad st' σ' H → GSub vs st σ st' σ' → Q σ' H) → t us σ H Q
theorem _root_.L2.PS.imp {X : Cx} {s : Stmt} {t t' : TS} (h : PS X s t) (i : ∀ D σ H, t' D σ H → t D σ H) : PS X s t' := ⟨fun pins s σ H D I q => h.run pins s σ H D I (i D σ H q)⟩
theorem _root_.L2.PSs.imp {X : Cx} {s : List Stmt} {t t' : TS} (h : PSs X s t) (i : ∀ D σ H, t' D σ H → t D σ H) : PSs X s t' := ⟨fun pins s σ H D I q => h.run pins s σ H D I (i D σ H q)⟩

section
variable {Γ : Gm} {L : List Addr} {Hf Hf' H H' : Hp} {ad : Nat → Addr} {st : S} {σ : L2.St} {v : V} {x : D} {i : Nat}
theorem NoP.lt (h : NoP st i) : i < st.length := by
  unfold NoP at h
  cases q : st[i]? with
  | none => rw [q] at h; exact h.elim
  | some s => exact (List.getElem?_eq_some_iff.mp q).1
theorem NoP.no (h : NoP st i) {c : Cell} (e : st[i]? = some (.p c)) : False := by
  unfold NoP at h
  rw [e] at h
  exact h
theorem set_back {s : Slot} {st : S} {i : Nat} (li : i < st.length) {j : Nat} {sl : Slot} (q : (st.set i s)[j]? = some sl) : (j = i ∧ sl = s) ∨ (j ≠ i ∧ st[j]? = some sl) := by
  by_cases hj : j = i
  · subst hj
    rw [List.getElem?_set_self li] at q
    exact .inl ⟨rfl, (Option.some.inj q).symm⟩
  · rw [List.getElem?_set_ne (Ne.symm hj)] at q
    exact .inr ⟨hj, q⟩
/-- a slot gets data (its own or a borrowed one) -/
theorem Sat.putV (s : Sat Γ L Hf ad st σ H) (li : i < st.length) {sl : Slot} (hs : (∃ x, sl = .d x) ∨ (∃ x, sl = .b x) ∨ sl = .un) (ok : SlotOk Γ Hf (ad i) (some (some v)) sl) : Sat Γ L Hf ad (st.set i sl) (σ.set i (some v)) H := by
  have no : ∀ c, sl ≠ .o c := fun c z => by rcases hs with ⟨x, h⟩ | ⟨x, h⟩ | h <;> rw [h] at z <;> cases z
  have np : ∀ c, sl ≠ .p c := fun c z => by rcases hs with ⟨x, h⟩ | ⟨x, h⟩ | h <;> rw [h] at z <;> cases z
  have ow : ∀ j, Owns (st.set i sl) j → Owns st j := fun j hj => by
    rcases hj with ⟨c, q⟩ | ⟨c, q⟩
    · rcases set_back li q with ⟨_, z⟩ | ⟨_, z⟩
      · exact absurd z.symm (no c)
      · exact .inl ⟨c, z⟩
    · rcases set_back li q with ⟨_, z⟩ | ⟨_, z⟩
      · exact absurd z.symm (np c)
      · exact .inr ⟨c, z⟩
  refine ⟨by rw [List.length_set, List.length_set]; exact s.len, s.exf, s.exs, s.base, s.new, s.live, s.msf, s.ms0, fun j c q => ?_, fun j c q => ?_, s.lk, fun j k hj hk => s.inj j k (ow j hj) (ow k hk), fun j t q => ?_⟩
  · rcases set_back li q with ⟨_, z⟩ | ⟨_, z⟩
    · exact absurd z.symm (no c)
    · exact s.own j c z
  · rcases set_back li q with ⟨_, z⟩ | ⟨_, z⟩
    · exact absurd z.symm (np c)
    · exact s.par j c z
  · rcases set_back li q with ⟨z1, z⟩ | ⟨z1, z⟩
    · subst z1
      subst z
      rw [List.getElem?_set_self (by rw [s.len]; exact li)]
      exact ok
    · rw [List.getElem?_set_ne (Ne.symm z1)]
      exact s.sl j t z
/-- a slot gets a new object -/
theorem Sat.putO (s : Sat Γ L Hf ad st σ H) (li : i < st.length) {p : Addr} {c : Cell} (h0 : Γ.H0 p = none) (hf : Hf p = none) (ho : ∀ j, Owns st j → ad j ≠ p) (hc : CellAt Hf H p c) :
    Sat Γ L Hf (fun j => if j = i then p else ad j) (st.set i (.o c)) (σ.set i (some (.ref p))) H := by
  have ow : ∀ j, Owns (st.set i (.o c)) j → j ≠ i → Owns st j := fun j hj ne => by
    rcases hj with ⟨c, q⟩ | ⟨c, q⟩
    · rcases set_back li q with ⟨z, _⟩ | ⟨_, z⟩
      · exact absurd z ne
      · exact .inl ⟨c, z⟩
    · rcases set_back li q with ⟨z, _⟩ | ⟨_, z⟩
      · exact absurd z ne
      · exact .inr ⟨c, z⟩
  refine ⟨by rw [List.length_set, List.length_set]; exact s.len, s.exf, s.exs, s.base, s.new, s.live, s.msf, s.ms0, fun j c' q => ?_, fun j c' q => ?_, s.lk, fun j k hj hk e => ?_, fun j t q => ?_⟩
  · rcases set_back li q with ⟨z1, z⟩ | ⟨z1, z⟩
    · cases z
      rw [if_pos z1]
      exact ⟨h0, hf, hc⟩
    · rw [if_neg z1]
      exact s.own j c' z
  · rcases set_back li q with ⟨z1, z⟩ | ⟨z1, z⟩
    · cases z
    · rw [if_neg z1]
      exact s.par j c' z
  · have e : (if j = i then p else ad j) = if k = i then p else ad k := e
    by_cases h1 : j = i <;> by_cases h2 : k = i
    · rw [h1, h2]
    · rw [if_pos h1, if_neg h2] at e
      exact absurd e.symm (ho k (ow k hk h2))
    · rw [if_neg h1, if_pos h2] at e
      exact absurd e (ho j (ow j hj h1))
    · rw [if_neg h1, if_neg h2] at e
      exact s.inj j k (ow j hj h1) (ow k hk h2) e
  · show SlotOk Γ Hf (if j = i then p else ad j) _ t
    rcases set_back li q with ⟨z1, z⟩ | ⟨z1, z⟩
    · subst z1
      subst z
      rw [List.getElem?_set_self (by rw [s.len]; exact li), if_pos rfl]
      rfl
    · rw [List.getElem?_set_ne (Ne.symm z1), if_neg z1]
      exact s.sl j t z
/-- the object of a slot changes -/
def setC (st : S) (i : Nat) (c : Cell) : S := match st[i]? with
  | some (.o _) => st.set i (.o c)
  | some (.p _) => st.set i (.p c)
  | _ => st
def cellOf (st : S) (i : Nat) : Option Cell := match st[i]? with
  | some (.o c) => some c
  | some (.p c) => some c
  | _ => none
theorem cellOf_cases {c : Cell} (h : cellOf st i = some c) : (st[i]? = some (.o c) ∧ ∀ c', setC st i c' = st.set i (.o c')) ∨ (st[i]? = some (.p c) ∧ ∀ c', setC st i c' = st.set i (.p c')) := by
  unfold cellOf at h
  cases q : st[i]? with
  | none => rw [q] at h; cases h
  | some s =>
    rw [q] at h
    cases s with
    | o c' =>
      cases h
      exact .inl ⟨rfl, fun c' => by unfold setC; rw [q]⟩
    | p c' =>
      cases h
      exact .inr ⟨rfl, fun c' => by unfold setC; rw [q]⟩
    | un => cases h
    | x _ _ _ _ => cases h
    | d x => cases h
    | b x => cases h
theorem Sat.setCell (s : Sat Γ L Hf ad st σ H) {c c' : Cell} (h : cellOf st i = some c) {u : HO} (hu : CellO Hf u c') : Sat Γ L Hf ad (setC st i c') σ (upd H (ad i) u) ∧ Nxt ad st Hf H (setC st i c') Hf (upd H (ad i) u) := by
  have ow : Owns st i := by
    rcases cellOf_cases h with ⟨q, _⟩ | ⟨q, _⟩
    · exact .inl ⟨c, q⟩
    · exact .inr ⟨c, q⟩
  have li : i < st.length := by
    rcases cellOf_cases h with ⟨q, _⟩ | ⟨q, _⟩ <;> exact (List.getElem?_eq_some_iff.mp q).1
  have nf : Hf (ad i) = none := by
    rcases cellOf_cases h with ⟨q, _⟩ | ⟨q, _⟩
    · exact (s.own i c q).2.1
    · exact s.msf _ (s.par i c q).1.2
  have ns : Γ.Hs (ad i) = none := by
    rcases cellOf_cases h with ⟨q, _⟩ | ⟨q, _⟩
    · unfold Gm.Hs
      rw [(s.own i c q).1]
      split <;> rfl
    · unfold Gm.Hs
      rw [if_pos (s.par i c q).1.2]
  have ha : ∃ o, H (ad i) = some o := by
    obtain ⟨c', o, h1, _⟩ := s.cell ow
    exact ⟨o, h1⟩
  have back : ∀ j sl, (setC st i c')[j]? = some sl → (j = i ∧ ((sl = .o c' ∧ st[i]? = some (.o c)) ∨ (sl = .p c' ∧ st[i]? = some (.p c)))) ∨ (j ≠ i ∧ st[j]? = some sl) := fun j sl q => by
    rcases cellOf_cases h with ⟨q1, e⟩ | ⟨q1, e⟩
    · rw [e] at q
      rcases set_back li q with ⟨z1, z2⟩ | z
      · exact .inl ⟨z1, .inl ⟨z2, q1⟩⟩
      · exact .inr z
    · rw [e] at q
      rcases set_back li q with ⟨z1, z2⟩ | z
      · exact .inl ⟨z1, .inr ⟨z2, q1⟩⟩
      · exact .inr z
  have sub : ∀ j, Owns (setC st i c') j → Owns st j := fun j hj => by
    by_cases z : j = i
    · rw [z]; exact ow
    · rcases hj with ⟨c2, q⟩ | ⟨c2, q⟩
      · rcases back j _ q with ⟨z1, _⟩ | ⟨_, z2⟩
        · exact absurd z1 z
        · exact .inl ⟨c2, z2⟩
      · rcases back j _ q with ⟨z1, _⟩ | ⟨_, z2⟩
        · exact absurd z1 z
        · exact .inr ⟨c2, z2⟩
  have exl : ∀ {G : Hp}, G (ad i) = none → Exl L G H → Exl L G (upd H (ad i) u) := fun {G} g e a o q => by
    have na : a ≠ ad i := ne_of_none q g
    rcases e a o q with z | ⟨z1, z2, ob, z3⟩
    · exact .inl (by rw [upd_ne na]; exact z)
    · exact .inr ⟨z1, z2, ob, by rw [upd_ne na]; exact z3⟩
  have there : ∀ a o, H a = some o → ∃ o', upd H (ad i) u a = some o' := fun a o q => by
    by_cases z : a = ad i
    · exact ⟨u, by rw [z]; exact upd_same⟩
    · exact ⟨o, by rw [upd_ne z]; exact q⟩
  refine ⟨⟨?_, exl nf s.exf, exl ns s.exs, s.base, s.new, fun a hm => ?_, s.msf, s.ms0, fun j c2 q => ?_, fun j c2 q => ?_, fun a hm => ?_, fun j k hj hk => s.inj j k (sub j hj) (sub k hk), fun j sl q => ?_⟩, ⟨Ex.refl _, fun a o q => .inl q, fun a o q n => by rw [upd_ne (fun z => n i ow z.symm)]; exact q, there, sub⟩⟩
  · rw [s.len]
    rcases cellOf_cases h with ⟨_, e⟩ | ⟨_, e⟩ <;> rw [e, List.length_set]
  · obtain ⟨o, q⟩ := s.live a hm
    exact there a o q
  · rcases back j _ q with ⟨z1, ⟨z2, z3⟩ | ⟨z2, z3⟩⟩ | ⟨z1, z2⟩
    · cases z2
      rw [z1]
      exact ⟨(s.own i c z3).1, nf, u, upd_same, hu⟩
    · cases z2
    · obtain ⟨h1, h2, o, h3, h4⟩ := s.own j c2 z2
      exact ⟨h1, h2, o, by rw [upd_ne (fun z => z1 (s.inj j i (.inl ⟨c2, z2⟩) ow z))]; exact h3, h4⟩
  · rcases back j _ q with ⟨z1, ⟨z2, z3⟩ | ⟨z2, z3⟩⟩ | ⟨z1, z2⟩
    · cases z2
    · cases z2
      rw [z1]
      exact ⟨(s.par i c z3).1, u, upd_same, hu⟩
    · obtain ⟨h1, o, h3, h4⟩ := s.par j c2 z2
      exact ⟨h1, o, by rw [upd_ne (fun z => z1 (s.inj j i (.inr ⟨c2, z2⟩) ow z))]; exact h3, h4⟩
  · obtain ⟨ob, w, q⟩ := s.lk a hm
    refine ⟨ob, w, ?_⟩
    rw [upd_ne (fun z => ?_)]
    · exact q
    · obtain ⟨c2, u2, q2, q3⟩ := s.cell ow
      rw [← z, q] at q2
      cases q2
      exact q3.nofrz
  · rcases back j _ q with ⟨z1, ⟨z2, z3⟩ | ⟨z2, z3⟩⟩ | ⟨z1, z2⟩
    · subst z1
      subst z2
      have k : σ[j]? = some (some (V.ref (ad j))) := s.sl j _ z3
      exact k
    · subst z1
      subst z2
      have k : σ[j]? = some (some (V.ref (ad j))) := s.sl j _ z3
      exact k
    · exact s.sl j sl z2
end

variable {X : Cx} {W : WX}
section
variable {D : Ends} {σ : L2.St} {H : Hp}
/-! ### blocks -/
def wNext : WS := fun N st => N.nx st
def wSeq (a b : WS) : WS := fun N st => a { N with nx := b N } st
theorem LS.next (h : LS W wNext D σ H) : tNext D σ H := by
  obtain ⟨Γ, L, Hf, ad, st, N, s, hw, c⟩ := h
  exact c.nx _ hw _ _ _ _ s
theorem LS.seq {a b : WS} (h : LS W (wSeq a b) D σ H) : tSeq (LS W a) (LS W b) D σ H := by
  obtain ⟨Γ, L, Hf, ad, st, N, s, hw, c⟩ := h
  exact ⟨Γ, L, Hf, ad, st, _, s, hw, fun st' h Hf' ad' σ' H' s' => ⟨Γ, L, Hf', ad', st', N, s', h, c⟩, c.rt, c.bk, c.ct, c.ex⟩
def wBreak : WS := fun N st => N.bk st
def wCont : WS := fun N st => N.ct st
theorem LS.brk (h : LS W wBreak D σ H) : tBreak D σ H := by
  obtain ⟨Γ, L, Hf, ad, st, N, s, hw, c⟩ := h
  exact c.bk _ hw _ _ _ _ s
theorem LS.cont (h : LS W wCont D σ H) : tCont D σ H := by
  obtain ⟨Γ, L, Hf, ad, st, N, s, hw, c⟩ := h
  exact c.ct _ hw _ _ _ _ s
/-! ### an assignment to a name -/
def asgK (i : Nat) (N : DN) (st : S) : RV → Prop
  | .d x => NoP st i ∧ N.nx (st.set i (.d x))
  | .b x => NoP st i ∧ N.nx (st.set i (.b x))
  | .n c => NoP st i ∧ N.nx (st.set i (.o c))
  | .sl _ => False
def wAsg (i : Nat) (w : WE) : WS := fun N st => w st (fun r st1 => asgK i N st1 r) N.ex
theorem LS.asg {i : Nat} {w : WE} (h : LS W (wAsg i w) D σ H) : tAsg (LE W w) (gName i) D σ H := by
  obtain ⟨Γ, L, Hf, ad, st, N, s, hw, c⟩ := h
  refine ⟨Γ, L, Hf, ad, st, _, _, s, hw, fun r st1 h1 v Hf1 H1 n1 s1 k1 => ?_, c.xok⟩
  show D.nx (σ.set i (some v)) H1
  cases r with
  | d x => exact c.nx _ h1.2 _ _ _ _ (s1.putV h1.1.lt (.inl ⟨x, rfl⟩) ⟨v, rfl, k1⟩)
  | b x => exact c.nx _ h1.2 _ _ _ _ (s1.putV h1.1.lt (.inr (.inl ⟨x, rfl⟩)) ⟨v, rfl, k1⟩)
  | n c' =>
    obtain ⟨p, rfl, _, e2, e3, e4, e5⟩ := k1
    exact c.nx _ h1.2 _ _ _ _ (s1.putO h1.1.lt e2 e3 e4 e5)
  | sl j => exact h1.elim
/-! ### return, an expression alone -/
def wRet (w : WE) : WS := fun N st => w st (fun r st1 => N.rt r st1) N.ex
def wRetN : WS := fun N st => N.rt (.d .non) st
def wDrop (w : WE) : WS := fun N st => w st (fun _ st1 => N.nx st1) N.ex
theorem RepR.home {Γ : Gm} {Hf Hb H : Hp} {ad : Nat → Addr} {st : S} {v : V} {rv : RV} (h : RepR Γ Hf ad st σ Hb H v rv) : RepR Γ Hf ad st σ Γ.H0 H v rv := by
  cases rv with
  | n c =>
    obtain ⟨p, e, _, h0, r⟩ := h
    exact ⟨p, e, h0, h0, r⟩
  | _ => exact h
theorem LS.ret {w : WE} (h : LS W (wRet w) D σ H) : tRet (LE W w) D σ H := by
  obtain ⟨Γ, L, Hf, ad, st, N, s, hw, c⟩ := h
  exact ⟨Γ, L, Hf, ad, st, _, _, s, hw, fun r st1 h1 v Hf1 H1 n1 s1 k1 => c.rt _ _ h1 v _ _ _ _ s1 k1.home, c.xok⟩
theorem LS.retN (h : LS W wRetN D σ H) : tRetN D σ H := by
  obtain ⟨Γ, L, Hf, ad, st, N, s, hw, c⟩ := h
  exact c.rt _ _ hw .non _ _ _ _ s .non
theorem LS.drop {w : WE} (h : LS W (wDrop w) D σ H) : tDrop (LE W w) D σ H := by
  obtain ⟨Γ, L, Hf, ad, st, N, s, hw, c⟩ := h
  exact ⟨Γ, L, Hf, ad, st, _, _, s, hw, fun r st1 h1 v Hf1 H1 n1 s1 k1 => c.nx _ h1 _ _ _ _ s1, c.xok⟩
/-! ### if, while -/
def wIfS (t : WT) (a b : WS) : WS := fun N st => t st (fun k st1 => if k = true then a N st1 else b N st1) N.ex
theorem LS.ifS {t : WT} {a b : WS} (h : LS W (wIfS t a b) D σ H) : tIfS (LT W t) (LS W a) (LS W b) D σ H := by
  obtain ⟨Γ, L, Hf, ad, st, N, s, hw, c⟩ := h
  refine ⟨Γ, L, Hf, ad, st, _, _, s, hw, fun k st1 h1 Hf1 H1 n1 s1 => ?_, c.xok⟩
  cases k with
  | true => exact ⟨Γ, L, Hf1, ad, st1, N, s1, h1, c⟩
  | false => exact ⟨Γ, L, Hf1, ad, st1, N, s1, h1, c⟩
def whileN (t : WT) (b : WS) (N : DN) : Nat → S → Prop
  | 0, _ => False
  | n + 1, st => t st (fun k st1 => if k = true then b { N with nx := whileN t b N n, ct := whileN t b N n, bk := N.nx } st1 else N.nx st1) N.ex
def wWhile (t : WT) (b : WS) : WS := fun N st => ∃ n, whileN t b N n st
theorem LS.whl {t : WT} {b : WS} (h : LS W (wWhile t b) D σ H) : tWhile (LT W t) (LS W b) D σ H := by
  obtain ⟨Γ, L, Hf, ad, st, N, s, ⟨n, hw⟩, c⟩ := h
  refine ⟨fun m σ H => ∃ Hf ad st, Sat Γ L Hf ad st σ H ∧ whileN t b N m st, ⟨n, Hf, ad, st, s, hw⟩, ?_⟩
  rintro m σ H ⟨Hf, ad, st, s, hw⟩
  cases m with
  | zero => exact hw.elim
  | succ m =>
    refine ⟨Γ, L, Hf, ad, st, _, _, s, hw, fun k st1 h1 Hf1 H1 n1 s1 => ?_, c.xok⟩
    cases k with
    | false => exact c.nx _ h1 _ _ _ _ s1
    | true =>
      show ∃ N' : L2.St → Hp → Prop, _
      refine ⟨fun σ' H' => ∃ Hf ad st, Sat Γ L Hf ad st σ' H' ∧ whileN t b N m st, fun σ' H' hN => ⟨m, Nat.lt_succ_self _, hN⟩, ?_⟩
      exact ⟨Γ, L, Hf1, ad, st1, _, s1, h1, ⟨fun st' h' Hf' ad' σ' H' s' => ⟨Hf', ad', st', s', h'⟩, c.rt, fun st' h' Hf' ad' σ' H' s' => c.nx _ h' _ _ _ _ s', fun st' h' Hf' ad' σ' H' s' => ⟨Hf', ad', st', s', h'⟩, c.ex⟩⟩
end
section
/-! ### targets -/
theorem gok_name {i : Nat} : GOk (gName i) [i] (gN i) := fun Γ L Hf ad st σ H v x P Q s r h k => k _ h.2 _ (s.putV h.1.lt (.inl ⟨x, rfl⟩) ⟨v, rfl, r⟩) ⟨List.length_set, fun j hj => List.getElem?_set_ne (fun z => hj (by rw [z]; exact List.mem_singleton.mpr rfl)), fun j hj => by
    rcases hj with ⟨c, q⟩ | ⟨c, q⟩
    · rcases set_back h.1.lt q with ⟨_, z⟩ | ⟨_, z⟩
      · cases z
      · exact .inl ⟨c, z⟩
    · rcases set_back h.1.lt q with ⟨_, z⟩ | ⟨_, z⟩
      · cases z
      · exact .inr ⟨c, z⟩⟩
theorem gsok_nil : GsOk gNil [] [] := fun Γ L Hf ad st σ H vs xs P Q s r h k => by
    cases r with
    | nil => exact ⟨rfl, k _ h _ s ⟨rfl, fun _ _ => rfl, fun _ q => q⟩⟩
    | cons a b => exact h.elim
theorem gsok_cons {t : TG} {u : TGs} {vs ws : List Nat} {g : WG} {gs : List WG} (h1 : GOk t vs g) (h2 : GsOk u ws gs) : GsOk (gCons t u) (vs ++ ws) (g :: gs) := fun Γ L Hf ad st σ H us xs P Q s r h k => by
    cases r with
    | nil => exact h.elim
    | cons a b =>
      exact ⟨_, _, rfl, h1 Γ L Hf ad st σ H _ _ _ _ s a h fun st' h' σ' s' e1 => h2 Γ L Hf ad st' σ' H _ _ _ _ s' b h' fun st2 h2 σ2 s2 e2 => k st2 h2 σ2 s2 ⟨e2.len.trans e1.len, fun j hj => (e2.out j fun z => hj (List.mem_append.mpr (.inr z))).trans (e1.out j fun z => hj (List.mem_append.mpr (.inl z))), fun j hj => e1.sub j (e2.sub j hj)⟩⟩
theorem gok_tup {K : PySem.W.Frag} {t : TGs} {vs : List Nat} {gs : List WG} (h : GsOk t vs gs) : GOk (gTup K gs.length t) vs (gT gs) := fun Γ L Hf ad st σ H v x P Q s r h' k => by
    cases r with
    | @tup a vs xs ha hr =>
      have h' : xs.length = gs.length ∧ gsN gs xs st P := h'
      have q : H a = some (.tup vs) := exl_at s.exf ha (by rintro (⟨_, q⟩ | ⟨_, q⟩) <;> cases q)
      exact ⟨a, vs, rfl, .inl (.inl q), by rw [hr.length]; exact h'.1, h Γ L Hf ad st σ H vs xs P Q s hr h'.2 k⟩
    | _ => exact h'.elim
/-- target = value -/
def wAsgG (w : WE) (g : WG) : WS := fun N st => w st (fun r st1 => match r with
  | .d x => g x st1 N.nx
  | _ => False) N.ex
theorem LS.asgG {t : TG} {vs : List Nat} {g : WG} {w : WE} {De : Ends} {σ : L2.St} {H : Hp} (hg : GOk t vs g) (h : LS W (wAsgG w g) De σ H) : tAsg (LE W w) t De σ H := by
  obtain ⟨Γ, L, Hf, ad, st, N, s, hw, c⟩ := h
  refine ⟨Γ, L, Hf, ad, st, _, _, s, hw, fun r st1 h1 v Hf1 H1 n1 s1 k1 => ?_, c.xok⟩
  cases r with
  | d x => exact hg Γ L Hf1 ad st1 σ H1 v x _ _ s1 k1 h1 fun st' h' σ' s' _ => c.nx _ h' _ _ _ _ s'
  | b x => exact h1.elim
  | n x => exact h1.elim
  | sl x => exact h1.elim
end

/-! ### the judgements -/
section
variable {e a b c : Expr} {es : List Expr} {ss : List Stmt} {s : Stmt} {w w1 w2 : WE} {wa : WA} {wt : WT} {u u1 u2 : WS} {pos : Pos}
theorem ds_nil : DSs X W [] wNext := ⟨pss_nil.imp fun _ _ _ h => h.next⟩
theorem ds_cons (h1 : DS X W s u1) (h2 : DSs X W ss u2) : DSs X W (s :: ss) (wSeq u1 u2) := ⟨(pss_cons h1.ps h2.pss).imp fun _ _ _ h => h.seq⟩
theorem ds_one (h1 : DS X W s u1) : DSs X W [s] u1 := ⟨pss_one h1.ps⟩
theorem ds_pass : DS X W (.Pass pos) wNext := ⟨ps_pass.imp fun _ _ _ h => h.next⟩
theorem ds_break : DS X W (.Break pos) wBreak := ⟨ps_break.imp fun _ _ _ h => h.brk⟩
theorem ds_continue : DS X W (.Continue pos) wCont := ⟨ps_continue.imp fun _ _ _ h => h.cont⟩
theorem ds_set (i : Nat) {x : Str} {pos' : Pos} (hN : X.N.Nodup) (he : DE X W e w) (hi : X.N[i]? = some x := by rfl) (hx : Loc X.env.scope x := by first | exact Or.inl rfl | exact Or.inr rfl) (hs : swapsWith e (some (.Name x pos')) pos.line X.env = pure false := by rfl)
    (hf : X.fn x = true ∨ X.env.scope.names.lookup x = some .local := by first | exact .inl rfl | exact .inr rfl) : DS X W (.Assign [.Name x pos'] e pos) (wAsg i w) := ⟨(ps_set hN hi hx he.pe hs hf).imp fun _ _ _ h => h.asg⟩
theorem ds_ret (he : DE X W e w) : DS X W (.Return (some e) pos) (wRet w) := ⟨(ps_ret he.pe).imp fun _ _ _ h => h.ret⟩
theorem ds_retN : DS X W (.Return none pos) wRetN := ⟨ps_retN.imp fun _ _ _ h => h.retN⟩
theorem ds_expr (he : DE X W e w) (hs : swapsWith e none pos.line X.env = pure false := by rfl) : DS X W (.Expr e pos) (wDrop w) := ⟨(ps_expr he.pe hs).imp fun _ _ _ h => h.drop⟩
theorem ds_if {a b : List Stmt} (hc : DT X W c wt) (ha : DSs X W a u1) (hb : DSs X W b u2) : DS X W (.If c a b pos) (wIfS wt u1 u2) := ⟨(ps_if hc.pt ha.pss hb.pss).imp fun _ _ _ h => h.ifS⟩
theorem ds_while {body : List Stmt} (hp : PassesOwn (model X.prog X.w) X.A X.env X.xe) (hc : DT X W c wt) (hb : DSs X W body u1) : DS X W (.While c body [] pos) (wWhile wt u1) := ⟨(ps_while hp hc.pt hb.pss).imp fun _ _ _ h => h.whl⟩
theorem ds_asg {tg : Expr} {t : TG} {vs : List Nat} {g : WG} (he : DE X W e w) (hg : PG X tg t) (hgo : GOk t vs g) (hs : swapsWithSole [tg] e pos.line X.env = pure false := by rfl) (hw : swappedStores [tg] e X.env = pure none := by rfl) (h1 : (assignEach [tg] X.env).map (·.2) = [assign tg X.env] := by rfl) : DS X W (.Assign [tg] e pos) (wAsgG w g) := ⟨(ps_asg he.pe hg hs hw h1).imp fun _ _ _ h => h.asgG hgo⟩
end
end DL


/-! DL e: loops, comprehensions. -/
namespace DL
open PySem PySem.Spec PyProof.Rows L2

/-- what is walked, as the list of its turns' data -/
abbrev WI := S → (List D → S → Prop) → XC → Prop
def Steps (Γ : Gm) (L : List Addr) (Hf : Hp) (J : It) (xs : List D) : Prop :=
  ∀ Hf' ad' st' σ' H', Sat Γ L Hf' ad' st' σ' H' → Ex Hf Hf' → ∀ i, (∀ x, xs[i]? = some x → J.go i H' ∧ ∀ v H'', J.yld i H' v H'' → ∃ Hf'', Res Hf' H' (.d x) v Hf'' H'') ∧ (xs.length ≤ i → J.stop i H')
def LI (W : WX) (w : WI) : TI := fun σ H R => ∃ Γ L Hf ad st P E, Sat Γ L Hf ad st σ H ∧ w st P E ∧
  (∀ xs st1, P xs st1 → ∀ Hf1 H1 J, Nxt ad st Hf H st1 Hf1 H1 → Sat Γ L Hf1 ad st1 σ H1 → Steps Γ L Hf1 J xs → R J H1) ∧ XOk W Γ L Hf ad st σ H E
structure DI (X : Cx) (W : WX) (tg e : Expr) (w : WI) : Prop where
  pi : PI X tg e (LI W w)
theorem _root_.L2.PI.imp {X : Cx} {tg e : Expr} {t t' : TI} (h : PI X tg e t) (i : ∀ σ H R, t' σ H R → t σ H R) : PI X tg e t' := ⟨fun pins s σ H R I q => h.run pins s σ H R I (i σ H R q)⟩

section
variable {Γ : Gm} {L : List Addr} {Hf Hf' Hf1 H H' H1 : Hp} {ad ad1 : Nat → Addr} {st st1 : S} {σ σ1 : L2.St}
/-- the ground as it stands now as the new base -/
theorem Sat.rebase (s : Sat Γ L Hf ad st σ H) : Sat { Γ with Hf0 := Hf } L Hf ad st σ H :=
  ⟨s.len, s.exf, s.exs, Ex.refl _, fun _ _ h => .inl h, s.live, s.msf, s.ms0, s.own, s.par, s.lk, s.inj, s.sl⟩
theorem Sat.unbase (s1 : Sat Γ L Hf1 ad1 st1 σ1 H1) (s : Sat { Γ with Hf0 := Hf1 } L Hf ad st σ H) : Sat Γ L Hf ad st σ H :=
  ⟨s.len, s.exf, s.exs, s1.base.trans s.base, fun a o h => (s.new a o h).elim (s1.new a o) .inr, s.live, s.msf, s.ms0, s.own, s.par, s.lk, s.inj, s.sl⟩
end

variable {X : Cx} {W : WX}
/-! ### for -/
def loopN (g : WG) (b : WS) (N : DN) : List D → S → Prop
  | [], st => N.nx st
  | x :: r, st => g x st fun st2 => b { N with nx := loopN g b N r, ct := loopN g b N r, bk := N.nx } st2
def wFor (w : WI) (g : WG) (b : WS) : WS := fun N st => w st (fun xs st1 => loopN g b N xs st1) N.ex
theorem LS.forL {t : TG} {vs : List Nat} {g : WG} {w : WI} {b : WS} {De : Ends} {σ : L2.St} {H : Hp} (hg : GOk t vs g) (h : LS W (wFor w g b) De σ H) : tFor (LI W w) t (LS W b) De σ H := by
  obtain ⟨Γ, L, Hf, ad, st, N, s, hw, c⟩ := h
  refine ⟨Γ, L, Hf, ad, st, _, _, s, hw, fun xs st1 h1 Hf1 H1 J n1 s1 steps => ?_, c.xok⟩
  refine ⟨fun i m σ H => m = xs.length - i ∧ i ≤ xs.length ∧ ∃ Hf ad st, Sat { Γ with Hf0 := Hf1 } L Hf ad st σ H ∧ loopN g b N (xs.drop i) st, ⟨xs.length, rfl, Nat.zero_le _, Hf1, ad, st1, s1.rebase, h1⟩, ?_⟩
  rintro i m σ H ⟨rfl, hi, Hf, ad, st, s, hl⟩
  have sΓ := s1.unbase s
  obtain ⟨go, stop⟩ := steps Hf ad st σ H sΓ s.base i
  cases hd : xs.drop i with
  | nil =>
    rw [hd] at hl
    have e : xs.length ≤ i := List.drop_eq_nil_iff.mp hd
    exact .inl ⟨stop e, c.nx _ hl _ _ _ _ sΓ⟩
  | cons x r =>
    rw [hd] at hl
    have li : i < xs.length := by
      have q := congrArg List.length hd
      rw [List.length_drop, List.length_cons] at q
      omega
    have ei : xs[i]? = some x ∧ xs.drop (i + 1) = r := by
      rw [List.drop_eq_getElem_cons li] at hd
      injection hd with a1 a2
      exact ⟨by rw [List.getElem?_eq_getElem li, a1], a2⟩
    obtain ⟨g1, g2⟩ := go x ei.1
    refine .inr ⟨g1, fun σ' H' => ∃ Hf ad st, Sat { Γ with Hf0 := Hf1 } L Hf ad st σ' H' ∧ loopN g b N r st, fun σ' H' ⟨Hf', ad', st', s', h'⟩ => ⟨xs.length - (i + 1), by omega, rfl, by omega, Hf', ad', st', s', by rw [ei.2]; exact h'⟩, fun v H' hy => ?_⟩
    obtain ⟨Hf'', res⟩ := g2 v H' hy
    obtain ⟨n2, s2, k2⟩ := res.go s
    refine hg _ L Hf'' ad st σ H' v x _ _ s2 k2 hl fun st' h' σ' s' _ => ?_
    exact ⟨_, L, Hf'', ad, st', _, s', h', ⟨fun st2 h2 Hf2 ad2 σ2 H2 s3 => ⟨Hf2, ad2, st2, s3, h2⟩, fun rv st2 h2 v2 Hf2 ad2 σ2 H2 s3 r3 => c.rt rv st2 h2 v2 Hf2 ad2 σ2 H2 (s1.unbase s3) r3,
      fun st2 h2 Hf2 ad2 σ2 H2 s3 => c.nx _ h2 _ _ _ _ (s1.unbase s3), fun st2 h2 Hf2 ad2 σ2 H2 s3 => ⟨Hf2, ad2, st2, s3, h2⟩, fun C y st2 h2 d Hf2 ad2 σ2 H2 s3 p => c.ex C y st2 h2 d Hf2 ad2 σ2 H2 (s1.unbase s3) p⟩⟩
theorem ds_for {tg e : Expr} {body : List Stmt} {t : TG} {vs : List Nat} {g : WG} {w : WI} {u : WS} {pos : Pos} (hp : PassesOwn (model X.prog X.w) X.A X.env X.xe) (hc : X.calm = true) (hi : DI X W tg e w) (hg : PG X tg t) (hgo : GOk t vs g) (hb : DSs X W body u)
    (hs : ∀ x, foldedSetIterable e X.env x = pure x := by intro _; rfl) : DS X W (.For tg e body [] pos) (wFor w g u) := ⟨(ps_for hp hc hi.pi hg hb.pss hs).imp fun _ _ _ h => h.forL hgo⟩

/-! ### what is walked -/
/-- a list or tuple that never changes; the items -/
def itemsK (st : S) (P : List D → S → Prop) : RV → Prop
  | .d (.lst xs) => P xs st
  | .d (.tup xs) => P xs st
  | .b (.lst xs) => P xs st
  | .b (.tup xs) => P xs st
  | _ => False
def wItL (w : WE) : WI := fun st P E => w st (fun r st1 => match r with
  | .d (.lst xs) => P xs st1
  | .b (.lst xs) => P xs st1
  | .b (.fz ns) => P (ns.map D.int) st1
  | _ => False) E
def wItT (w : WE) : WI := fun st P E => w st (fun r st1 => match r with
  | .d (.tup xs) => P xs st1
  | _ => False) E
theorem rd_list {K : PySem.W.Frag} {H : Hp} {a : Addr} {vs : List V} (h : Rd H a (.lst vs)) : SqL K H a vs := .inl h
section
variable {Γ : Gm} {L : List Addr} {Hf H : Hp} {xs : List D} {vs : List V} {a : Addr} {K : PySem.W.Frag}
theorem rd_inj {H : Hp} {a : Addr} {xs ys : List V} (h : Rd H a (.lst xs)) (h' : Rd H a (.lst ys)) : xs = ys := by
  rcases h with h | ⟨o, h⟩ <;> rcases h' with h' | ⟨o', h'⟩ <;> rw [h] at h' <;> cases h' <;> rfl
/-- a list as it is read at each turn -/
theorem steps_list (rd : ∀ Hf' ad' st' σ' H', Sat Γ L Hf' ad' st' σ' H' → Ex Hf Hf' → Rd H' a (.lst vs)) (r : Reps Hf vs xs) : Steps Γ L Hf (Itl K a) xs := fun Hf' ad' st' σ' H' s e i => by
  have h := rd Hf' ad' st' σ' H' s e
  refine ⟨fun x hx => ?_, fun hi => ⟨vs, rd_list h, by rw [r.length]; exact hi⟩⟩
  obtain ⟨v, hv, rv⟩ := r.get hx
  refine ⟨⟨vs, v, rd_list h, hv⟩, fun u H'' hy => ?_⟩
  obtain ⟨rfl, q⟩ := hy
  have e1 : u = v := Option.some.inj ((q vs (rd_list h)).symm.trans hv)
  subst e1
  exact ⟨Hf', .same (rv.mono e)⟩
theorem steps_tup (h0 : Hf a = some (.tup vs)) (r : Reps Hf vs xs) : Steps Γ L Hf (Itt K a) xs := fun Hf' ad' st' σ' H' s e i => by
  have h : SqT K H' a vs := .inl (.inl (exl_at s.exf (e _ _ h0) (by rintro (⟨_, q⟩ | ⟨_, q⟩) <;> cases q)))
  refine ⟨fun x hx => ?_, fun hi => ⟨vs, h, by rw [r.length]; exact hi⟩⟩
  obtain ⟨v, hv, rv⟩ := r.get hx
  refine ⟨⟨vs, v, h, hv⟩, fun u H'' hy => ?_⟩
  obtain ⟨rfl, q⟩ := hy
  have e1 : u = v := Option.some.inj ((q vs h).symm.trans hv)
  subst e1
  exact ⟨Hf', .same (rv.mono e)⟩
theorem steps_range {lo : Int} {n : Nat} : Steps Γ L Hf (Itr lo n) ((List.range n).map fun i => D.int (lo + (i : Nat))) := fun Hf' ad' st' σ' H' s e i => by
  refine ⟨fun x hx => ?_, fun hi => show n ≤ i by simpa using hi⟩
  rw [List.getElem?_map] at hx
  obtain ⟨j, hj, rfl⟩ := Option.map_eq_some_iff.mp hx
  have hi : i < n := by
    have := (List.getElem?_eq_some_iff.mp hj).1
    simpa using this
  have ej : j = i := by
    rw [List.getElem?_range hi] at hj
    exact (Option.some.inj hj).symm
  subst ej
  refine ⟨hi, fun u H'' hy => ?_⟩
  obtain ⟨rfl, rfl⟩ := hy
  exact ⟨Hf', .same (.int _)⟩
theorem steps_str {z : Str} : Steps Γ L Hf (Its z) (z.cps.toList.map fun c => D.str ⟨#[c]⟩) := fun Hf' ad' st' σ' H' s e i => by
  refine ⟨fun x hx => ?_, fun hi => show z.cps.size ≤ i by simpa using hi⟩
  rw [List.getElem?_map] at hx
  obtain ⟨j, hj, rfl⟩ := Option.map_eq_some_iff.mp hx
  have hj' : z.cps[i]? = some j := by simpa using hj
  refine ⟨show i < z.cps.size from (Array.getElem?_eq_some_iff.mp hj').1, fun u H'' hy => ?_⟩
  obtain ⟨rfl, c, hc, rfl⟩ := hy
  rw [hc] at hj'
  cases hj'
  exact ⟨Hf', .same (.str _)⟩
end
theorem reps_ints {Hf : Hp} : ∀ ns : List Int, Reps Hf (ns.map V.int) (ns.map D.int)
  | [] => .nil
  | n :: ns => .cons (.int n) (reps_ints ns)
section
variable {tg e e2 : Expr} {w w2 : WE} {wa : WA}
theorem di_list (h : DE X W e w) : DI X W tg e (wItL w) := ⟨(pi_list h.pe).imp fun σ H R ⟨Γ, L, Hf, ad, st, P, E, s, hw, hP, hE⟩ => by
  refine ⟨Γ, L, Hf, ad, st, _, E, s, hw, fun r1 st1 h1 v Hf1 H1 n1 s1 k1 => ?_, hE⟩
  cases r1 with
  | d x =>
    cases k1 with
    | @lst a vs xs ha hr =>
      have rd : ∀ Hf' ad' st' σ' H', Sat Γ L Hf' ad' st' σ' H' → Ex Hf1 Hf' → Rd H' a (.lst vs) := fun Hf' ad' st' σ' H' s e => exl_rd s.exf (.inl (e _ _ ha))
      exact ⟨a, rfl, ⟨vs, rd_list (rd _ _ _ _ _ s1 (Ex.refl _))⟩, hP _ _ h1 Hf1 H1 _ n1 s1 (steps_list rd hr)⟩
    | _ => exact h1.elim
  | b x =>
    have k1 : RepB Γ.Hs Hf1 v x := k1
    cases k1 with
    | of k1 =>
      cases k1 with
      | @lst a vs xs ha hr =>
        have rd : ∀ Hf' ad' st' σ' H', Sat Γ L Hf' ad' st' σ' H' → Ex Hf1 Hf' → Rd H' a (.lst vs) := fun Hf' ad' st' σ' H' s e => exl_rd s.exf (.inl (e _ _ ha))
        exact ⟨a, rfl, ⟨vs, rd_list (rd _ _ _ _ _ s1 (Ex.refl _))⟩, hP _ _ h1 Hf1 H1 _ n1 s1 (steps_list rd hr)⟩
      | _ => exact h1.elim
    | @lst a vs xs ha hr =>
      have rd : ∀ Hf' ad' st' σ' H', Sat Γ L Hf' ad' st' σ' H' → Ex Hf1 Hf' → Rd H' a (.lst vs) := fun Hf' ad' st' σ' H' s e => exl_rd s.exs (.inl ha)
      exact ⟨a, rfl, ⟨vs, rd_list (rd _ _ _ _ _ s1 (Ex.refl _))⟩, hP _ _ h1 Hf1 H1 _ n1 s1 (steps_list rd hr)⟩
    | @fz a ns ha =>
      have rd : ∀ Hf' ad' st' σ' H', Sat Γ L Hf' ad' st' σ' H' → Ex Hf1 Hf' → Rd H' a (.lst (ns.map V.int)) := fun Hf' ad' st' σ' H' s e => exl_rd s.exs ha
      exact ⟨a, rfl, ⟨_, rd_list (rd _ _ _ _ _ s1 (Ex.refl _))⟩, hP _ _ h1 Hf1 H1 _ n1 s1 (steps_list rd (reps_ints ns))⟩
    | _ => exact h1.elim
  | n x => exact h1.elim
  | sl x => exact h1.elim⟩
theorem di_tup (h : DE X W e w) : DI X W tg e (wItT w) := ⟨(pi_tup h.pe).imp fun σ H R ⟨Γ, L, Hf, ad, st, P, E, s, hw, hP, hE⟩ => by
  refine ⟨Γ, L, Hf, ad, st, _, E, s, hw, fun r1 st1 h1 v Hf1 H1 n1 s1 k1 => ?_, hE⟩
  cases r1 with
  | d x =>
    cases k1 with
    | @tup a vs xs ha hr => exact ⟨a, rfl, ⟨vs, .inl (.inl (exl_at s1.exf ha (by rintro (⟨_, q⟩ | ⟨_, q⟩) <;> cases q)))⟩, hP _ _ h1 Hf1 H1 _ n1 s1 (steps_tup ha hr)⟩
    | _ => exact h1.elim
  | b x => exact h1.elim
  | n x => exact h1.elim
  | sl x => exact h1.elim⟩
def intK (P : Int → S → Prop) (st : S) : List RV → Prop
  | [.d (.int n)] => P n st
  | _ => False
def intK2 (P : Int → Int → S → Prop) (st : S) : List RV → Prop
  | [.d (.int n), .d (.int m)] => P n m st
  | _ => False
def wItR1 (wa : WA) : WI := fun st P E => wa st (fun rs st1 => intK (fun n st1 => -1000000000 < n ∧ n < 1000000000 ∧ P ((List.range n.toNat).map fun i => D.int (0 + (i : Nat))) st1) st1 rs) E
def wItR2 (wa : WA) : WI := fun st P E => wa st (fun rs st1 => intK2 (fun n m st1 => -1000000000 < n ∧ n < 1000000000 ∧ -1000000000 < m ∧ m < 1000000000 ∧ P ((List.range (m - n).toNat).map fun i => D.int (n + (i : Nat))) st1) st1 rs) E
theorem di_range1 {p pos : Pos} (hm : X.mg "range" = none) (ha : DA X W [e] wa) (hg : Gl X "range" := by rfl) (hs : starEach [e] X.env = [(false, eval e X.env)] := by rfl) : DI X W tg (.Call (.Name "range" p) [e] [] pos) (wItR1 wa) := ⟨(pi_range1 hg hm ha.pa hs).imp fun σ H R ⟨Γ, L, Hf, ad, st, P, E, s, hw, hP, hE⟩ => by
  refine ⟨Γ, L, Hf, ad, st, _, E, s, hw, fun rs st1 h1 vs Hf1 H1 n1 s1 k1 => ?_, hE⟩
  match rs, h1, k1 with
  | [.d (.int n)], h1, .cons k .nil =>
    have k : Rep Hf1 _ (.int n) := k
    cases k
    obtain ⟨hb, hb2, h1⟩ := h1
    exact ⟨n, rfl, by omega, by omega, hP _ _ h1 Hf1 H1 _ n1 s1 steps_range⟩⟩
theorem di_range2 {p pos : Pos} (hm : X.mg "range" = none) (ha : DA X W [e, e2] wa) (hg : Gl X "range" := by rfl) (hs : starEach [e, e2] X.env = [(false, eval e X.env), (false, eval e2 X.env)] := by rfl) (hs2 : starEach [e2] X.env = [(false, eval e2 X.env)] := by rfl) : DI X W tg (.Call (.Name "range" p) [e, e2] [] pos) (wItR2 wa) := ⟨(pi_range2 hg hm ha.pa hs hs2).imp fun σ H R ⟨Γ, L, Hf, ad, st, P, E, s, hw, hP, hE⟩ => by
  refine ⟨Γ, L, Hf, ad, st, _, E, s, hw, fun rs st1 h1 vs Hf1 H1 n1 s1 k1 => ?_, hE⟩
  match rs, h1, k1 with
  | [.d (.int n), .d (.int m)], h1, .cons k (.cons k' .nil) =>
    have k : Rep Hf1 _ (.int n) := k
    have k' : Rep Hf1 _ (.int m) := k'
    cases k
    cases k'
    obtain ⟨hb, hb2, hb3, hb4, h1⟩ := h1
    exact ⟨n, m, rfl, ⟨by omega, by omega, by omega, by omega⟩, hP _ _ h1 Hf1 H1 _ n1 s1 steps_range⟩⟩
def wItS (w : WE) : WI := fun st P E => w st (fun r st1 => match r with
  | .d (.str z) => P (z.cps.toList.map fun c => D.str ⟨#[c]⟩) st1
  | _ => False) E
theorem di_str (h : DE X W e w) : DI X W tg e (wItS w) := ⟨(pi_str h.pe).imp fun σ H R ⟨Γ, L, Hf, ad, st, P, E, s, hw, hP, hE⟩ => by
  refine ⟨Γ, L, Hf, ad, st, _, E, s, hw, fun r1 st1 h1 v Hf1 H1 n1 s1 k1 => ?_, hE⟩
  cases r1 with
  | d x =>
    cases k1 with
    | str z => exact ⟨z, rfl, hP _ _ h1 Hf1 H1 _ n1 s1 steps_str⟩
    | _ => exact h1.elim
  | b x => exact h1.elim
  | n x => exact h1.elim
  | sl x => exact h1.elim⟩
end

/-! ### comprehensions -/
/-- the slots of the block's own names forgotten; brought back -/
def wipeS (st : S) : List Nat → S
  | [] => st
  | v :: vs => (wipeS st vs).set v .un
def restS (st st0 : S) : List Nat → S
  | [] => st
  | v :: vs => match st0[v]? with
    | some s => (restS st st0 vs).set v s
    | none => restS st st0 vs
/-- none of them holds one's own object -/
def Bare (st : S) : List Nat → Prop
  | [] => True
  | v :: vs => (match st[v]? with
    | some (.o _) => False
    | some (.p _) => False
    | _ => True) ∧ Bare st vs
section
variable {Γ : Gm} {L : List Addr} {Hf Hf' H H' : Hp} {ad : Nat → Addr} {st st' st0 : S} {σ σ' : L2.St}
theorem Bare.at {st : S} : ∀ {vs : List Nat} {v : Nat}, Bare st vs → v ∈ vs → ¬ Owns st v
  | w :: vs, v, h, hm, ho => by
    rcases List.mem_cons.mp hm with e | hm
    · subst e
      have h1 := h.1
      rcases ho with ⟨c, q⟩ | ⟨c, q⟩ <;> rw [q] at h1 <;> exact h1
    · exact Bare.at h.2 hm ho
theorem wipeS_length (st : S) : ∀ vs, (wipeS st vs).length = st.length
  | [] => rfl
  | v :: vs => by unfold wipeS; rw [List.length_set, wipeS_length st vs]
theorem restS_length (st st0 : S) : ∀ vs, (restS st st0 vs).length = st.length
  | [] => rfl
  | v :: vs => by
    unfold restS
    split
    · rw [List.length_set, restS_length st st0 vs]
    · exact restS_length st st0 vs
theorem wipeS_at {st : S} {j : Nat} {s : Slot} : ∀ {vs : List Nat}, (wipeS st vs)[j]? = some s → (j ∈ vs ∧ s = .un) ∨ (j ∉ vs ∧ st[j]? = some s)
  | [], h => .inr ⟨by simp, h⟩
  | v :: vs, h => by
    unfold wipeS at h
    by_cases hv : v < (wipeS st vs).length
    · rcases set_back hv h with ⟨z1, z2⟩ | ⟨z1, z2⟩
      · exact .inl ⟨by rw [z1]; exact List.mem_cons_self, z2⟩
      · rcases wipeS_at z2 with ⟨a, b⟩ | ⟨a, b⟩
        · exact .inl ⟨List.mem_cons_of_mem _ a, b⟩
        · exact .inr ⟨fun z => (List.mem_cons.mp z).elim z1 a, b⟩
    · rw [List.set_eq_of_length_le (by omega)] at h
      have hj : j ≠ v := fun z => by
        rw [z, List.getElem?_eq_none (by omega)] at h
        cases h
      rcases wipeS_at h with ⟨a, b⟩ | ⟨a, b⟩
      · exact .inl ⟨List.mem_cons_of_mem _ a, b⟩
      · exact .inr ⟨fun z => (List.mem_cons.mp z).elim hj a, b⟩
theorem restS_at {st st0 : S} {j : Nat} {s : Slot} : ∀ {vs : List Nat}, st.length = st0.length → (restS st st0 vs)[j]? = some s → (j ∈ vs ∧ st0[j]? = some s) ∨ (j ∉ vs ∧ st[j]? = some s)
  | [], _, h => .inr ⟨by simp, h⟩
  | v :: vs, hl, h => by
    unfold restS at h
    split at h
    · rename_i t ht
      have lv : v < (restS st st0 vs).length := by
        rw [restS_length, hl]
        exact (List.getElem?_eq_some_iff.mp ht).1
      rcases set_back lv h with ⟨z1, z2⟩ | ⟨z1, z2⟩
      · exact .inl ⟨by rw [z1]; exact List.mem_cons_self, by rw [z1, z2]; exact ht⟩
      · rcases restS_at hl z2 with ⟨a, b⟩ | ⟨a, b⟩
        · exact .inl ⟨List.mem_cons_of_mem _ a, b⟩
        · exact .inr ⟨fun z => (List.mem_cons.mp z).elim z1 a, b⟩
    · rename_i ht
      have hj : j ≠ v := fun z => by
        have q : j < (restS st st0 vs).length := (List.getElem?_eq_some_iff.mp h).1
        rw [restS_length, hl, z] at q
        rw [List.getElem?_eq_getElem q] at ht
        cases ht
      rcases restS_at hl h with ⟨a, b⟩ | ⟨a, b⟩
      · exact .inl ⟨List.mem_cons_of_mem _ a, b⟩
      · exact .inr ⟨fun z => (List.mem_cons.mp z).elim hj a, b⟩
theorem owns_wipe {vs : List Nat} {j : Nat} (h : Owns (wipeS st vs) j) : j ∉ vs ∧ Owns st j := by
  rcases h with ⟨c, q⟩ | ⟨c, q⟩
  · rcases wipeS_at q with ⟨_, z⟩ | ⟨a, b⟩
    · cases z
    · exact ⟨a, .inl ⟨c, b⟩⟩
  · rcases wipeS_at q with ⟨_, z⟩ | ⟨a, b⟩
    · cases z
    · exact ⟨a, .inr ⟨c, b⟩⟩
theorem Sat.wipe (s : Sat Γ L Hf ad st σ H) (vs : List Nat) : Sat Γ L Hf ad (wipeS st vs) (L2.wipe σ vs) H := by
  refine ⟨by rw [L2.wipe_length, wipeS_length]; exact s.len, s.exf, s.exs, s.base, s.new, s.live, s.msf, s.ms0, fun i c q => ?_, fun i c q => ?_, s.lk, fun i j hi hj => s.inj i j (owns_wipe hi).2 (owns_wipe hj).2, fun i sl q => ?_⟩
  · rcases wipeS_at q with ⟨_, z⟩ | ⟨_, z⟩
    · cases z
    · exact s.own i c z
  · rcases wipeS_at q with ⟨_, z⟩ | ⟨_, z⟩
    · cases z
    · exact s.par i c z
  · rcases wipeS_at q with ⟨_, z⟩ | ⟨a, z⟩
    · subst z
      trivial
    · rw [L2.wipe_out a]
      exact s.sl i sl z
/-- back in the outer frame -/
theorem Sat.back (s0 : Sat Γ L Hf ad st0 σ H) (s : Sat Γ L Hf' ad st' σ' H') (n : Ex Hf Hf') {vs : List Nat} (hb : Bare st0 vs) (hw : L2.wipe σ' vs = L2.wipe σ vs) (sub : ∀ i, Owns st' i → Owns st0 i) : Sat Γ L Hf' ad (restS st' st0 vs) σ H' ∧ ∀ i, Owns (restS st' st0 vs) i → Owns st' i ∧ i ∉ vs := by
  have hl : st'.length = st0.length := by
    have q := congrArg List.length hw
    rw [L2.wipe_length, L2.wipe_length, s.len, s0.len] at q
    exact q
  have ow : ∀ i, Owns (restS st' st0 vs) i → Owns st' i ∧ i ∉ vs := fun i hi => by
    rcases hi with ⟨c, q⟩ | ⟨c, q⟩
    · rcases restS_at hl q with ⟨a, b⟩ | ⟨a, b⟩
      · exact absurd (.inl ⟨c, b⟩) (hb.at a)
      · exact ⟨.inl ⟨c, b⟩, a⟩
    · rcases restS_at hl q with ⟨a, b⟩ | ⟨a, b⟩
      · exact absurd (.inr ⟨c, b⟩) (hb.at a)
      · exact ⟨.inr ⟨c, b⟩, a⟩
  refine ⟨⟨by rw [restS_length, hl]; exact s0.len, s.exf, s.exs, s.base, s.new, s.live, s.msf, s.ms0, fun i c q => ?_, fun i c q => ?_, s.lk, fun i j hi hj => s.inj i j (ow i hi).1 (ow j hj).1, fun i sl q => ?_⟩, ow⟩
  · rcases restS_at hl q with ⟨a, b⟩ | ⟨a, b⟩
    · exact absurd (.inl ⟨c, b⟩) (hb.at a)
    · exact s.own i c b
  · rcases restS_at hl q with ⟨a, b⟩ | ⟨a, b⟩
    · exact absurd (.inr ⟨c, b⟩) (hb.at a)
    · exact s.par i c b
  · rcases restS_at hl q with ⟨a, b⟩ | ⟨a, b⟩
    · exact (s0.sl i sl b).mono n
    · have e : σ'[i]? = σ[i]? := by
        rw [← L2.wipe_out (σ := σ') a, hw, L2.wipe_out a]
      rw [← e]
      exact s.sl i sl b
/-- an object that is nobody's changes -/
theorem Sat.other (s : Sat Γ L Hf ad st σ H) {p : Addr} {u o : HO} (h : H p = some o) (nf : ∀ ob w, o ≠ .frz ob w) (h0 : Γ.H0 p = none) (hf : Hf p = none) (ho : ∀ i, Owns st i → ad i ≠ p) : Sat Γ L Hf ad st σ (upd H p u) := by
  have ns : Γ.Hs p = none := by
    unfold Gm.Hs
    rw [h0]
    split <;> rfl
  have exl : ∀ {G : Hp}, G p = none → Exl L G H → Exl L G (upd H p u) := fun {G} g e a o q => by
    have na : a ≠ p := ne_of_none q g
    rcases e a o q with z | ⟨z1, z2, ob, z3⟩
    · exact .inl (by rw [upd_ne na]; exact z)
    · exact .inr ⟨z1, z2, ob, by rw [upd_ne na]; exact z3⟩
  refine ⟨s.len, exl hf s.exf, exl ns s.exs, s.base, s.new, fun a ha => ?_, s.msf, s.ms0, fun i c q => ?_, fun i c q => ?_, fun a ha => ?_, s.inj, s.sl⟩
  · obtain ⟨o, q⟩ := s.live a ha
    exact ⟨o, by rw [upd_ne (fun z => s.ms0 a ha (by rw [z]; exact h0))]; exact q⟩
  · obtain ⟨h1, h2, w, h3, h4⟩ := s.own i c q
    exact ⟨h1, h2, w, by rw [upd_ne (ho i (.inl ⟨c, q⟩))]; exact h3, h4⟩
  · obtain ⟨h1, w, h3, h4⟩ := s.par i c q
    exact ⟨h1, w, by rw [upd_ne (ho i (.inr ⟨c, q⟩))]; exact h3, h4⟩
  · obtain ⟨ob, w, q⟩ := s.lk a ha
    exact ⟨ob, w, by
      rw [upd_ne (fun z => by
        rw [z, h] at q
        exact nf ob w (Option.some.inj q))]
      exact q⟩
end
def ex0 : XC := fun _ _ _ => False
def lcN (g : WG) (wt : WT) (we : WE) (vs : List Nat) (k : List D → S → Prop) : List D → List D → S → Prop
  | [], acc, st => k acc st
  | x :: r, acc, st => Bare st vs ∧ g x (wipeS st vs) fun st2 => wt st2 (fun b st3 => if b = true then we st3 (fun rv st4 => match rv with
      | .d y => acc.length < sizeLine ∧ lcN g wt we vs k r (acc ++ [y]) (restS st4 st vs)
      | _ => False) ex0 else lcN g wt we vs k r acc (restS st3 st vs)) ex0
def wLc (w : WI) (g : WG) (wt : WT) (we : WE) (vs : List Nat) : WE := fun st P E => w st (fun xs st1 => lcN g wt we vs (fun acc st2 => P (.n (.lst acc)) st2) xs [] st1) E
def wYes : WT := fun st P _ => P true st
theorem LT.yes {σ : L2.St} {H : Hp} {Q : Bool → Hp → Prop} (h : LT W wYes σ H Q) : tYes σ H Q := by
  obtain ⟨Γ, L, Hf, ad, st, P, E, s, hw, hP, hE⟩ := h
  exact hP _ _ hw Hf H Nxt.refl s
theorem wipe_set {σ σ' : L2.St} {vs : List Nat} (hl : σ'.length = σ.length) (h : ∀ j, j ∉ vs → σ'[j]? = (L2.wipe σ vs)[j]?) : L2.wipe σ' vs = L2.wipe σ vs := by
  have key : ∀ (τ : L2.St) (ws : List Nat) (j : Nat), j ∈ ws → j < τ.length → (L2.wipe τ ws)[j]? = some none := by
    intro τ ws
    induction ws with
    | nil => intro j h; cases h
    | cons v ws ih =>
      intro j hj hl
      unfold L2.wipe
      by_cases e : v = j
      · subst e
        rw [List.getElem?_set_self (by rw [L2.wipe_length]; exact hl)]
      · rw [List.getElem?_set_ne e]
        rcases List.mem_cons.mp hj with z | z
        · exact absurd z.symm e
        · exact ih j z hl
  apply List.ext_getElem?
  intro j
  by_cases hj : j ∈ vs
  · by_cases hl' : j < σ.length
    · rw [key σ' vs j hj (by omega), key σ vs j hj hl']
    · rw [List.getElem?_eq_none (by rw [L2.wipe_length]; omega), List.getElem?_eq_none (by rw [L2.wipe_length]; omega)]
  · rw [L2.wipe_out hj, h j hj]
theorem LE.lc {t : TG} {vs0 vs : List Nat} {g : WG} {w : WI} {wt : WT} {we : WE} {σ : L2.St} {H : Hp} {Q : VK} {W0 : WX} (hg : GOk t vs0 g) (hv : ∀ j ∈ vs0, j ∈ vs) (h : LE W (wLc w g wt we vs) σ H Q) : tLc (LI W w) t (LT W0 wt) (LE W0 we) vs σ H Q := by
  obtain ⟨Γ, L, Hf, ad, st, P, E, s, hw, hP, hE⟩ := h
  refine ⟨Γ, L, Hf, ad, st, _, E, s, hw, fun xs st1 h1 Hf1 H1 J n1 s1 steps => fun Dl hD => ?_, hE⟩
  have hD0 := s1.none0 hD
  refine ⟨fun i m H' => m = xs.length - i ∧ i ≤ xs.length ∧ ∃ Hf' st' acc avs, Sat Γ L Hf' ad st' σ H' ∧ Nxt ad st1 Hf1 H1 st' Hf' H' ∧ H' Dl = some (.lst avs) ∧ Reps Hf' avs acc ∧ Hf' Dl = none ∧ lcN g wt we vs (fun acc st2 => P (.n (.lst acc)) st2) (xs.drop i) acc st',
    ⟨xs.length, rfl, Nat.zero_le _, Hf1, st1, [], [], s1.alloc hD, ⟨Ex.refl _, fun _ _ q => .inl q, fun a o q _ => upd_some hD q, fun a o q => ⟨o, upd_some hD q⟩, fun _ q => q⟩, upd_same, .nil, s1.nonef hD, h1⟩, ?_⟩
  rintro i m H' ⟨rfl, hi, Hf', st', acc, avs, s', n', eD, rD, fD, hl⟩
  have oD : ∀ j, Owns st' j → ad j ≠ Dl := fun j hj z => by
    obtain ⟨c, u, q, _⟩ := s1.cell (n'.sub j hj)
    rw [z, hD] at q
    cases q
  obtain ⟨go, stop⟩ := steps Hf' ad st' σ H' s' n'.ex i
  cases hd : xs.drop i with
  | nil =>
    rw [hd] at hl
    refine .inl ⟨stop (List.drop_eq_nil_iff.mp hd), hP _ _ hl _ Hf' H' (n1.trans n') s' ?_⟩
    exact ⟨Dl, rfl, n1.none hD, hD0, fD, oD, _, eD, avs, rfl, rD⟩
  | cons x r =>
    rw [hd] at hl
    have li : i < xs.length := by
      have q := congrArg List.length hd
      rw [List.length_drop, List.length_cons] at q
      omega
    have ei : xs[i]? = some x ∧ xs.drop (i + 1) = r := by
      rw [List.drop_eq_getElem_cons li] at hd
      injection hd with a1 a2
      exact ⟨by rw [List.getElem?_eq_getElem li, a1], a2⟩
    obtain ⟨g1, g2⟩ := go x ei.1
    obtain ⟨hbare, hl⟩ := hl
    refine .inr ⟨g1, fun H'' => ∃ Hf' st' acc avs, Sat Γ L Hf' ad st' σ H'' ∧ Nxt ad st1 Hf1 H1 st' Hf' H'' ∧ H'' Dl = some (.lst avs) ∧ Reps Hf' avs acc ∧ Hf' Dl = none ∧ lcN g wt we vs (fun acc st2 => P (.n (.lst acc)) st2) r acc st',
      fun H'' ⟨Hf2, st2, acc2, avs2, a1, a2, a3, a4, a5, a6⟩ => ⟨xs.length - (i + 1), by omega, rfl, by omega, Hf2, st2, acc2, avs2, a1, a2, a3, a4, a5, by rw [ei.2]; exact a6⟩, fun v H2 hy => ?_⟩
    obtain ⟨Hf2, res⟩ := g2 v H2 hy
    obtain ⟨n2, s2, k2⟩ := res.go s'
    refine hg _ L Hf2 ad _ _ H2 v x _ _ (s2.wipe vs) k2 hl fun st3 h3 σ3 s3 e3 => ?_
    have hw3 : L2.wipe σ3 vs = L2.wipe σ vs := wipe_set (by rw [e3.len, L2.wipe_length]) fun j hj => e3.out j fun z => hj (hv j z)
    have n3 : Nxt ad st' Hf' H' st3 Hf2 H2 := ⟨n2.ex, n2.new, n2.keep, n2.there, fun j hj => (owns_wipe (e3.sub j hj)).2⟩
    refine ⟨hw3, Γ, L, Hf2, ad, st3, _, _, s3, h3, fun b st4 h4 Hf4 H4 n4 s4 => ?_, fun _ _ _ z => z.elim⟩
    have n34 := n3.trans n4
    cases b with
    | true =>
      refine ⟨Γ, L, Hf4, ad, st4, _, _, s4, h4, fun rv st5 h5 y Hf5 H5 n5 s5 k5 => ?_, fun _ _ _ z => z.elim⟩
      cases rv with
      | b x => exact h5.elim
      | sl x => exact h5.elim
      | n x => exact h5.elim
      | d z =>
        obtain ⟨hz, h5⟩ := h5
        have n345 := n34.trans n5
        have e5 := n345.keep Dl _ eD oD
        have f5 : Hf5 Dl = none := by
          cases q : Hf5 Dl with
          | none => rfl
          | some o =>
            rcases n345.new Dl o q with z | z | ⟨j, hj, z⟩
            · rw [fD] at z; cases z
            · rw [eD] at z; cases z
            · exact absurd z (oD j hj)
        refine ⟨avs, e5, by rw [rD.length]; exact hz, ?_⟩
        obtain ⟨s6, ow6⟩ := s'.back s5 n345.ex hbare hw3 n345.sub
        have n6 := n'.trans n345
        exact ⟨Hf5, _, _, _, s6.other e5 (fun _ _ z => nomatch z) hD0 f5 fun j hj => oD j (n345.sub j (ow6 j hj).1), ⟨n6.ex, n6.new, fun a o q k => by rw [upd_ne (ne_of_none q hD)]; exact n6.keep a o q k, fun a o q => by
          rw [upd_ne (ne_of_none q hD)]
          exact n6.there a o q, fun j hj => n6.sub j (ow6 j hj).1⟩, upd_same, (rD.mono n345.ex).append (.cons k5 .nil), f5, h5⟩
    | false =>
      have e4 := n34.keep Dl _ eD oD
      have f4 : Hf4 Dl = none := by
        cases q : Hf4 Dl with
        | none => rfl
        | some o =>
          rcases n34.new Dl o q with z | z | ⟨j, hj, z⟩
          · rw [fD] at z; cases z
          · rw [eD] at z; cases z
          · exact absurd z (oD j hj)
      obtain ⟨s6, ow6⟩ := s'.back s4 n34.ex hbare hw3 n34.sub
      have n6 := n'.trans n34
      exact ⟨Hf4, _, _, _, s6, ⟨n6.ex, n6.new, n6.keep, n6.there, fun j hj => n6.sub j (ow6 j hj).1⟩, e4, rD.mono n34.ex, f4, h4⟩
structure DTs (X : Cx) (W : WX) (ifs : List Expr) (w : WT) : Prop where
  pts : PTs X ifs (LT W w)
theorem _root_.L2.PTs.imp {X : Cx} {e : List Expr} {t t' : TT} (h : PTs X e t) (i : ∀ σ H Q, t' σ H Q → t σ H Q) : PTs X e t' := ⟨fun pins s σ H Q I q => h.run pins s σ H Q I (i σ H Q q)⟩
theorem dts_nil : DTs X W [] wYes := ⟨pts_nil.imp fun _ _ _ h => h.yes⟩
theorem dts_one {c : Expr} {w : WT} (h : DT X W c w) : DTs X W [c] w := ⟨pts_one h.pt⟩
/-- within a block nothing is raised -/
abbrev W0 : WX := fun _ _ _ _ => False
theorem de_lc {elt tg iter : Expr} {ifs : List Expr} {scope : Scope} {own : List (Str × Nat)} {pos : Pos} {w : WI} {t : TG} {vs0 : List Nat} {g : WG} {wt : WT} {we : WE} (hc : X.calm = true) (hN : X.N.Nodup) (hi : DI X W tg iter w) (ok : BlkOk X.N X.env.scope scope own)
    (hv : ∀ j ∈ vs0, j ∈ own.map (·.2))
    (hg : ∀ (s : Shared) (H : Hp) (C : Addr) (cl : List (Str × Addr)) (fp : List Addr), PG (X.blk s H scope (compEnvC scope cl C X.env) fp) tg t) (hgo : GOk t vs0 g)
    (ht : ∀ (s : Shared) (H : Hp) (C : Addr) (cl : List (Str × Addr)) (fp : List Addr), DTs (X.blk s H scope (compEnvC scope cl C X.env) fp) W0 ifs wt)
    (he : ∀ (s : Shared) (H : Hp) (C : Addr) (cl : List (Str × Addr)) (fp : List Addr), DE (X.blk s H scope (compEnvC scope cl C X.env) fp) W0 elt we)
    (hs : ∀ x, foldedSetIterable iter X.env x = pure x := by intro _; rfl) : DE X W (.ListComp elt [⟨tg, iter, ifs, 0⟩] scope pos) (wLc w g wt we (own.map (·.2))) :=
  ⟨(pe_lc hc hN hi.pi ok hg (fun s H C cl fp => (ht s H C cl fp).pts) (fun s H C cl fp => (he s H C cl fp).pe) hs).imp fun _ _ _ h => h.lc hgo hv⟩
end DL


/-! A law whose body shows containers (repr): the caller's guards are none, and that is known. -/
namespace GW
open PySem PySem.Spec PyProof.Rows L2
/-- a def's promise where nothing is being shown further out -/
structure Ok (P : Program) (w : World) (K : PySem.W.Frag) (mg : Str → Option Value) (base : Heap) (CX : CXT) (k : Nat) (f : Addr) (fd : FuncData) (ps : List Str) (sp : Sp) : Prop where
  len : ∀ xs Hh q e, sp xs Hh q e → xs.length = ps.length
  run : ∀ (A : Around) (out : List Env) (st : Shared) (Hh : Hp) (args : Args) (us : List Value) (xs : List V) (q : VK) (e : XK), Room k A → A.guards = some [] → Env0 P w K mg base A out st Hh → BindsTo st fd args (ps.zip us) →
    Vals xs us → sp xs Hh q e → codeAny (model P w) A (.call (.ref f) args) (CR CX out P w Hh st q e) st
theorem Ok.of {P : Program} {w : World} {K : PySem.W.Frag} {mg : Str → Option Value} {base : Heap} {CX : CXT} {k : Nat} {f : Addr} {fd : FuncData} {ps : List Str} {sp : Sp} (F : FnOk P w K mg base CX k f fd ps sp) :
    Ok P w K mg base CX k f fd ps sp := ⟨F.len, fun A out st Hh args us xs q e hr _ => F.run A out st Hh args us xs q e hr⟩
/-- by its body -/
theorem ok_body {CX : CXT} {P : Program} {w : World} {K : PySem.W.Frag} {mg : Str → Option Value} {base : Heap} {x qual : Str} {params : Arguments} {body : List Stmt} {scope : Scope} {dvs : List V} {kws : List (Str × V)} {f : Addr} {fd : FuncData}
    {N ps : List Str} {k : Nat} {sp : Sp} (F : FunD K x qual params body scope dvs kws f fd) (S : FnScope N ps scope) (len : ∀ xs Hh q e, sp xs Hh q e → xs.length = ps.length)
    (hbody : ∀ (cdv : Value) (A : Around) (out : List Env) (st : Shared) (Hh : Hp) (xs : List V) (q : VK) (e : XK), Room k (A.deeper (envOfC qual scope st.heap.objs.size f cdv)) → A.guards = some [] → sp xs Hh q e →
      ∃ t, PSs (cxOf CX P w K mg base N qual scope f cdv A out st Hh e) body t ∧ t { nx := fun _ H' => q .non H', rt := q } (start N xs) Hh) : Ok P w K mg base CX (k + 1) f fd ps sp := by
  obtain ⟨oc, od, dV, kV, doc, pm, an, cdv, ct, osl, rfl, lk, hcd, _, _⟩ := F.ex
  refine ⟨len, fun A out st Hh args us xs q e room noG env bnd rel want => ?_⟩
  have inK : K.In st.heap := env.mod.kin.keeps fun b o z => (env.bs b o z).1
  have unl : st.heap.NoLimit := env.mod.nolimit.keeps fun b o z => (env.bs b o z).1
  have kinds : ∀ y ∈ ps.zip us, scope.names.lookup y.1 = some .local ∨ (scope.names.lookup y.1 = some .cell ∧ ((cellsFrom (st.heap.objs.size + 1) scope.names []).lookup y.1).isSome = true) := by
    rintro ⟨n, v⟩ hy
    rcases S.par n (List.of_mem_zip hy).1 with c | c
    · exact Or.inl c
    · exact Or.inr ⟨c, PySem.W.cellsFrom_some _ _ _ (Or.inl c)⟩
  refine codeAny_call_function room.depth (inK _ _ lk) rfl S.co S.gen rfl (PySem.W.codeRec_of inK hcd) (bnd _ _ _ _ ?_)
  refine wpAny_newFunctionEnv_cells S.kind kinds fun en hen st1 inC => ?_
  subst hen
  refine ⟨unl.keeps inC.toInCall.keep, codeAny_func ?_⟩
  obtain ⟨t, pt, ht⟩ := hbody cdv A out st Hh xs q e (room.deeper _) noG want
  have J := inv_start (CX := CX) (E := e) (qual := qual) (cd := cdv) S room.hd env (len _ _ _ _ want) rel inC
  refine wpAny_mono (pt.run [] st1 (start N xs) Hh _ J ht) (fun fin st' told => ?_) fun _ _ z => z
  cases fin with
  | brk =>
    obtain ⟨_, _, _, z⟩ := told
    exact z.elim
  | cont =>
    obtain ⟨_, _, _, z⟩ := told
    exact z.elim
  | next =>
    obtain ⟨σ', H', J', z⟩ := told
    exact ⟨.non, H', J'.os, J'.bare, J'.base, J'.hok, rfl, z⟩
  | ret u =>
    obtain ⟨v, σ', H', J', rv, z⟩ := told
    exact ⟨v, H', J'.os, J'.bare, J'.base, J'.hok, rv, z⟩
/-- what the call of the law must come to -/
abbrev Told (s₁ : Shared) (r : Result) (s' : Shared) : Prop := r = .ok (.ret (.bool true)) ∧ OldK s₁.heap s'.heap ∧ s'.os = s₁.os ∧ AllBare s'.gens
/-- the call, from an abstract heap that tracks at most the script -/
theorem call_from {P : Program} {w : World} {K : PySem.W.Frag} {mg mb : Str → Option Value} {CX : CXT} {k : Nat} {fa a : Addr} {fd : FuncData} {x : Str} {sp : Sp} {s₁ : Shared} {vs : List Value} {Hh : Hp}
    (KX : K.In s₁.heap) (gl : s₁.heap.Ns mainGlobals mg) (bl : s₁.heap.Ns builtinsNs mb) (bb : ∀ x : Str, x ≠ "__name__" → mb x = bootBuiltins x) (unl : s₁.heap.NoLimit) (gn : s₁.gens = #[])
    (at_a : s₁.heap.get? a = some { cls := .type "list", data := .seq vs.toArray }) (room : Room k callerA)
    (F : ∀ base : Heap, K.In base → base.Ns mainGlobals mg → Ok P w K mg base CX k fa fd [x] sp) (bnd : ∀ (s : Shared) (u : Value), BindsTo s fd ⟨[u], []⟩ [(x, u)])
    (want : sp [.ref a] Hh (fun v _ => v = .bl true) fun _ _ _ => False) (noX : ∀ H e s', CX [] H s₁ (fun _ _ _ => False) e s' → False)
    (only : Only Hh) (hok : HOk P w Hh s₁.heap) (just : ∀ b, Hh b ≠ none → b = a) (apart : Hh a ≠ none → K.lookup a = none) :
    codeAny (model P w) callerA (.call (.ref fa) ⟨[.ref a], []⟩) (Told s₁) s₁ := by
  have under : ∀ {b : Addr} {o : Obj}, s₁.heap.get? b = some o → Hh b = none → (hidT s₁.heap Hh).get? b = some o := fun z n => hidT_get z n
  have isA : ∀ {b : Addr} {u : HO}, Hh b = some u → b = a := fun {b u} z => just b (by rw [z]; simp)
  have ns : ∀ {b : Addr} {m : Str → Option Value}, s₁.heap.Ns b m → (hidT s₁.heap Hh).Ns b m := by
    rintro b m ⟨o, es, ep, z, d, r⟩
    refine ⟨o, es, ep, under z ?_, d, r⟩
    cases c : Hh b with
    | none => rfl
    | some u =>
      rw [isA c, at_a] at z
      cases z
      cases (d : Data.seq vs.toArray _ = Data.dict es ep)
  have kb : K.In (hidT s₁.heap Hh) := fun b o z => under (KX b o z) (by
    cases c : Hh b with
    | none => rfl
    | some u =>
      have e := isA c
      rw [e, apart (by rw [← e, c]; simp)] at z
      cases z)
  have md : Mod K mg (hidT s₁.heap Hh) := ⟨kb, ns gl, ⟨mb, ns bl, bb⟩, by
    obtain ⟨mc, z1, z2⟩ := unl
    exact ⟨mc, ns z1, z2⟩⟩
  have env : Env0 P w K mg (hidT s₁.heap Hh) callerA [] s₁ Hh := ⟨rfl, md, fun b o z => of_hidT z, Nat.le_of_eq (hidT_size _ _), trivial, fun b hb => (List.not_mem_nil hb).elim, hok, .of_eq gn⟩
  have go := (F _ kb (ns gl)).run callerA [] s₁ Hh ⟨[.ref a], []⟩ [.ref a] [.ref a] _ _ room rfl env (bnd s₁ (.ref a)) (.cons rfl .nil) want
  refine codeAny_mono go fun r s' told => ?_
  cases r with
  | error e => exact (noX Hh e s' told).elim
  | ok fin =>
    cases fin with
    | next => exact told.elim
    | brk => exact told.elim
    | cont => exact told.elim
    | ret u =>
      obtain ⟨v, H', z1, z2, un, hok', rv, isT⟩ := told
      obtain rfl : v = .bl true := isT
      obtain rfl : u = Value.bool true := rv
      refine ⟨rfl, OldK.of_keep fun b o z => ?_, z1, z2⟩
      cases c : Hh b with
      | none => exact un.keep b o z c (fun y => by cases y) (fun y => by cases y)
      | some u =>
        rcases only b with y | ⟨ob, xs, y⟩
        · rw [c] at y
          cases y
        · obtain ⟨e1, _⟩ := hok b _ y
          obtain ⟨e2, _⟩ := hok' b _ (un.frzs b ob _ y)
          rw [z] at e1
          cases e1
          exact e2
/-- the call -/
theorem call_law {P : Program} {w : World} {K : PySem.W.Frag} {mg mb : Str → Option Value} {CX : CXT} {k : Nat} {fa a : Addr} {fd : FuncData} {x : Str} {sp : Sp} {s₁ : Shared} {vs : List Value} {ns : List Int}
    (KX : K.In s₁.heap) (gl : s₁.heap.Ns mainGlobals mg) (bl : s₁.heap.Ns builtinsNs mb) (bb : ∀ x : Str, x ≠ "__name__" → mb x = bootBuiltins x) (unl : s₁.heap.NoLimit) (gn : s₁.gens = #[])
    (at_a : s₁.heap.get? a = some { cls := .type "list", data := .seq vs.toArray }) (isInts : IntsAre vs ns) (few : ns.length ≤ sizeLine) (room : Room k callerA)
    (F : ∀ base : Heap, K.In base → base.Ns mainGlobals mg → Ok P w K mg base CX k fa fd [x] sp) (bnd : ∀ (s : Shared) (u : Value), BindsTo s fd ⟨[u], []⟩ [(x, u)])
    (noL : ∀ b o, K.lookup b = some o → o.cls ≠ .type "list") (want : ∀ (Hh : Hp) (o : Obj), Hh a = some (.frz o (.lst (ns.map V.int))) → sp [.ref a] Hh (fun v _ => v = .bl true) fun _ _ _ => False) (noX : ∀ H e s', CX [] H s₁ (fun _ _ _ => False) e s' → False) :
    codeAny (model P w) callerA (.call (.ref fa) ⟨[.ref a], []⟩) (Told s₁) s₁ := by
  have rel := vals_ints isInts
  have many := isInts.length
  cases c : K.lookup a with
  | some o =>
    have z := KX a o c
    rw [at_a] at z
    cases z
    exact absurd rfl (noL a _ c)
  | none =>
    have hO : Only (fun b => if b = a then some (HO.frz { cls := .type "list", data := .seq vs.toArray } (.lst (ns.map V.int))) else none) := fun b => by
      by_cases y : b = a
      · exact Or.inr ⟨_, _, if_pos y⟩
      · exact Or.inl (if_neg y)
    refine call_from (Hh := fun b => if b = a then some (HO.frz { cls := .type "list", data := .seq vs.toArray } (.lst (ns.map V.int))) else none) KX gl bl bb unl gn at_a room F bnd (want _ _ (if_pos rfl)) noX hO ?_ ?_ fun _ => c
    · intro b u z
      by_cases y : b = a
      · cases (if_pos y).symm.trans z
        subst y
        exact ⟨at_a, by rw [List.length_map]; exact few, vs, _, rel, at_a⟩
      · cases (if_neg y).symm.trans z
    · intro b z
      by_cases y : b = a
      · exact y
      · exact absurd (if_neg y) z
/-- a law, its script's numbers of at most so many bits -/
theorem walk {l : PySem.W.OpenLaw} {n k : Nat} {q : Program} {loose : List Str} {XP : (Str → Option Value) → Heap → Prop} {YP : World → Heap → Prop} {d : DefRec} {CX : World → CXT} {x : Str}
    (hn : l.most = some n) (hn2 : n ≤ sizeLine) (hdf : d.params.defaults = []) (room : Room k callerA)
    (F : ∀ (w : World) (mg : Str → Option Value) (fa : Addr) (h : Heap), YP w h → h.Ns mainGlobals mg → mg d.name = some (.ref fa) →
      ∃ (K : PySem.W.Frag) (fd : FuncData) (sp : Sp), K.In h ∧ (∀ (s : Shared) (u : Value), BindsTo s fd ⟨[u], []⟩ [(x, u)]) ∧
        (∀ b o, K.lookup b = some o → o.cls ≠ .type "list") ∧ (∀ (Hh : Hp) (a : Addr) (ns : List Int) (o : Obj), ns.length ≤ n → (∀ n ∈ ns, Builtin.Int.intBits n ≤ 1048576) → Hh a = some (.frz o (.lst (ns.map V.int))) → sp [.ref a] Hh (fun v _ => v = .bl true) fun _ _ _ => False) ∧
        ∀ base : Heap, K.In base → base.Ns mainGlobals mg → Ok l.prog w K mg base (CX w) k fa fd [x] sp)
    (noX : ∀ (w : World) (Hh : Hp) (s : Shared) (e : Value) (s' : Shared), CX w [] Hh s (fun _ _ _ => False) e s' → False) :
    PySem.W.WalkO q loose XP YP l.row.toRowW d [] (fun f vs => PySem.call f vs) := by
  refine Att.attach_callB hn hdf fun w s₀ s₁ mg mb fa o pm cd doc a vs ns G Y ho hd hcd hmg at_a isInts few bits gn => ?_
  obtain ⟨K, fd, sp, KX, bnd, noL, want, ok⟩ := F w mg fa _ Y G.T.g hmg
  exact call_law KX G.T.g G.T.b G.T.builtins G.T.nolimit gn at_a isInts (Nat.le_trans few hn2) room ok bnd noL (fun Hh o hS => want Hh a ns o few bits hS) fun Hh e s' => noX w Hh s₁ e s'
end GW


/-! DL f: defs and their calls. -/
namespace DL
open PySem PySem.Spec PyProof.Rows L2

/-- an argument, as the def gets it: data; borrowed data; an object that it may change -/
inductive AV where
  | d (x : D) | b (x : D) | m (c : Cell)
/-- what an exception bears, and the parameters' objects behind it -/
abbrev XQ := Addr → Option (Str × D) → List Cell → Prop
/-- a def's promise by data: the arguments; what is returned, the parameters' objects behind it; the exceptions -/
abbrev DSp := List AV → (RV → List Cell → Prop) → XQ → Prop
inductive CellsAt (Hf H : Hp) : List Addr → List Cell → Prop
  | nil : CellsAt Hf H [] []
  | cons {a : Addr} {c : Cell} {as : List Addr} {cs : List Cell} : CellAt Hf H a c → CellsAt Hf H as cs → CellsAt Hf H (a :: as) (c :: cs)
/-- the arguments at the entry: Hs is the heap but the objects that may be changed (at ms) -/
inductive Args (Hs Hf H : Hp) : List V → List AV → List Addr → Prop
  | nil : Args Hs Hf H [] [] []
  | d {v : V} {x : D} {vs : List V} {as : List AV} {ms : List Addr} : Rep Hf v x → Args Hs Hf H vs as ms → Args Hs Hf H (v :: vs) (.d x :: as) ms
  | b {v : V} {x : D} {vs : List V} {as : List AV} {ms : List Addr} : RepB Hs Hf v x → Args Hs Hf H vs as ms → Args Hs Hf H (v :: vs) (.b x :: as) ms
  | m {a : Addr} {c : Cell} {vs : List V} {as : List AV} {ms : List Addr} : CellAt Hf H a c → Args Hs Hf H vs as ms → Args Hs Hf H (.ref a :: vs) (.m c :: as) (a :: ms)
def hsOf (H : Hp) (ms : List Addr) : Hp := fun a => if a ∈ ms then none else H a
/-- what stands behind the call -/
structure After (H Hf : Hp) (ms : List Addr) (Hf' H' : Hp) (cs : List Cell) : Prop where
  ex : Ex Hf Hf'
  new : ∀ a o, Hf' a = some o → Hf a = some o ∨ H a = none
  keep : ∀ a o, H a = some o → a ∉ ms → H' a = some o
  exf : ∀ L, (∀ a ∈ L, ∃ ob u, H a = some (.frz ob u)) → Exl L Hf H → Exl L Hf' H'
  cells : CellsAt Hf' H' ms cs
def RetR (H Hf' H' : Hp) (ms : List Addr) (v : V) : RV → Prop
  | .d x => Rep Hf' v x
  | .n c => ∃ p, v = .ref p ∧ H p = none ∧ Hf' p = none ∧ CellAt Hf' H' p c
  | _ => False
def toSp (sp : DSp) : Sp := fun vs H Q E => ∃ Hf L ms avs P XP, Exl L Hf H ∧ (∀ a ∈ L, ∃ ob u, H a = some (.frz ob u)) ∧ ms.Nodup ∧ (∀ a ∈ ms, Hf a = none ∧ H a ≠ none) ∧ Args (hsOf H ms) Hf H vs avs ms ∧ sp avs P XP ∧
  (∀ rv cs, P rv cs → ∀ v Hf' H', After H Hf ms Hf' H' cs → RetR H Hf' H' ms v rv → Q v H') ∧
  (∀ C x cs, XP C x cs → ∀ d Hf' H', After H Hf ms Hf' H' cs → PayR Hf' H' d x → E (.ref C) d H')

/-! ### the entry -/
def slotOf : AV → Slot
  | .d x => .d x
  | .b x => .b x
  | .m c => .p c
def stOf (n : Nat) (avs : List AV) : S := avs.map slotOf ++ List.replicate (n - avs.length) .un
/-- the places of the parameters that may be changed -/
def mPl : Nat → List AV → List Nat
  | _, [] => []
  | k, .m _ :: r => k :: mPl (k + 1) r
  | k, .d _ :: r => mPl (k + 1) r
  | k, .b _ :: r => mPl (k + 1) r
def pcs : List Nat → S → Option (List Cell)
  | [], _ => some []
  | i :: is, st => match st[i]?, pcs is st with
    | some (.p c), some cs => some (c :: cs)
    | _, _ => none
theorem Args.len {Hs Hf H : Hp} : ∀ {vs : List V} {avs : List AV} {ms : List Addr}, Args Hs Hf H vs avs ms → vs.length = avs.length
  | _, _, _, .nil => rfl
  | _, _, _, .d _ r => congrArg (· + 1) r.len
  | _, _, _, .b _ r => congrArg (· + 1) r.len
  | _, _, _, .m _ r => congrArg (· + 1) r.len
def paOf (vs : List V) (i : Nat) : Addr := match vs[i]? with
  | some (.ref a) => a
  | _ => 0
theorem Args.mem {Hs Hf H : Hp} : ∀ {vs : List V} {avs : List AV} {ms : List Addr} {i : Nat} {c : Cell}, Args Hs Hf H vs avs ms → avs[i]? = some (.m c) → ∃ a, vs[i]? = some (.ref a) ∧ a ∈ ms ∧ CellAt Hf H a c
  | _, _, _, i, c, .nil, e => by simp at e
  | _, _, _, 0, c, .d _ r, e => by simp at e
  | _, _, _, 0, c, .b _ r, e => by simp at e
  | _, _, _, 0, c, .m h r, e => by
    simp at e
    subst e
    exact ⟨_, rfl, List.mem_cons_self, h⟩
  | _, _, _, i + 1, c, .d _ r, e => by
    obtain ⟨a, h1, h2, h3⟩ := Args.mem (i := i) r (by simpa using e)
    exact ⟨a, by simpa using h1, h2, h3⟩
  | _, _, _, i + 1, c, .b _ r, e => by
    obtain ⟨a, h1, h2, h3⟩ := Args.mem (i := i) r (by simpa using e)
    exact ⟨a, by simpa using h1, h2, h3⟩
  | _, _, _, i + 1, c, .m _ r, e => by
    obtain ⟨a, h1, h2, h3⟩ := Args.mem (i := i) r (by simpa using e)
    exact ⟨a, by simpa using h1, List.mem_cons_of_mem _ h2, h3⟩
theorem Args.inj {Hs Hf H : Hp} : ∀ {vs : List V} {avs : List AV} {ms : List Addr} {i j : Nat} {c c' : Cell} {a : Addr}, Args Hs Hf H vs avs ms → ms.Nodup → avs[i]? = some (.m c) → avs[j]? = some (.m c') → vs[i]? = some (.ref a) → vs[j]? = some (.ref a) → i = j
  | _, _, _, i, j, c, c', a, .nil, _, e, _, _, _ => by simp at e
  | _, _, _, 0, 0, c, c', a, _, _, _, _, _, _ => rfl
  | _, _, _, 0, j + 1, c, c', a, .d _ r, _, e, _, _, _ => by simp at e
  | _, _, _, 0, j + 1, c, c', a, .b _ r, _, e, _, _, _ => by simp at e
  | _, _, _, 0, j + 1, c, c', a, @Args.m _ _ _ a0 _ vs0 _ _ h r, nd, e, e', f, f' => by
    simp at f
    subst f
    obtain ⟨b, h1, h2, _⟩ := Args.mem (i := j) r (by simpa using e')
    have q : vs0[j]? = some (V.ref a0) := by simpa using f'
    rw [q] at h1
    cases h1
    exact absurd h2 (List.nodup_cons.mp nd).1
  | _, _, _, i + 1, 0, c, c', a, .d _ r, _, _, e, _, _ => by simp at e
  | _, _, _, i + 1, 0, c, c', a, .b _ r, _, _, e, _, _ => by simp at e
  | _, _, _, i + 1, 0, c, c', a, @Args.m _ _ _ a0 _ vs0 _ _ h r, nd, e, e', f, f' => by
    simp at f'
    subst f'
    obtain ⟨b, h1, h2, _⟩ := Args.mem (i := i) r (by simpa using e)
    have q : vs0[i]? = some (V.ref a0) := by simpa using f
    rw [q] at h1
    cases h1
    exact absurd h2 (List.nodup_cons.mp nd).1
  | _, _, _, i + 1, j + 1, c, c', a, .d _ r, nd, e, e', f, f' => congrArg (· + 1) (Args.inj (i := i) (j := j) r nd (by simpa using e) (by simpa using e') (by simpa using f) (by simpa using f'))
  | _, _, _, i + 1, j + 1, c, c', a, .b _ r, nd, e, e', f, f' => congrArg (· + 1) (Args.inj (i := i) (j := j) r nd (by simpa using e) (by simpa using e') (by simpa using f) (by simpa using f'))
  | _, _, _, i + 1, j + 1, c, c', a, .m h r, nd, e, e', f, f' => congrArg (· + 1) (Args.inj (i := i) (j := j) r (List.nodup_cons.mp nd).2 (by simpa using e) (by simpa using e') (by simpa using f) (by simpa using f'))
theorem Args.sl {Γ : Gm} {Hf H : Hp} : ∀ {vs : List V} {avs : List AV} {ms : List Addr} {i : Nat} {av : AV} , Args Γ.Hs Hf H vs avs ms → avs[i]? = some av → ∃ v, vs[i]? = some v ∧ SlotOk Γ Hf (match v with | .ref a => a | _ => 0) (some (some v)) (slotOf av)
  | _, _, _, i, c, .nil, e => by simp at e
  | _, _, _, 0, c, .d h r, e => by
    simp at e
    subst e
    exact ⟨_, rfl, _, rfl, h⟩
  | _, _, _, 0, c, .b h r, e => by
    simp at e
    subst e
    exact ⟨_, rfl, _, rfl, h⟩
  | _, _, _, 0, c, .m h r, e => by
    simp at e
    subst e
    exact ⟨_, rfl, rfl⟩
  | _, _, _, i + 1, c, .d _ r, e => by
    obtain ⟨v, h1, h2⟩ := Args.sl (i := i) r (by simpa using e)
    exact ⟨v, by simpa using h1, h2⟩
  | _, _, _, i + 1, c, .b _ r, e => by
    obtain ⟨v, h1, h2⟩ := Args.sl (i := i) r (by simpa using e)
    exact ⟨v, by simpa using h1, h2⟩
  | _, _, _, i + 1, c, .m _ r, e => by
    obtain ⟨v, h1, h2⟩ := Args.sl (i := i) r (by simpa using e)
    exact ⟨v, by simpa using h1, h2⟩
theorem stOf_at {n : Nat} {avs : List AV} {i : Nat} {s : Slot} (h : (stOf n avs)[i]? = some s) : (∃ av, avs[i]? = some av ∧ s = slotOf av) ∨ (avs.length ≤ i ∧ s = .un) := by
  unfold stOf at h
  by_cases hi : i < avs.length
  · rw [List.getElem?_append_left (by simpa using hi), List.getElem?_map] at h
    obtain ⟨av, e, rfl⟩ := Option.map_eq_some_iff.mp h
    exact .inl ⟨av, e, rfl⟩
  · rw [List.getElem?_append_right (by simpa using hi)] at h
    refine .inr ⟨by omega, ?_⟩
    rw [List.getElem?_replicate] at h
    split at h
    · exact (Option.some.inj h).symm
    · cases h
theorem entry_sat {Hf H : Hp} {L ms : List Addr} {N : List Str} {vs : List V} {avs : List AV} (hl : avs.length ≤ N.length) (exf : Exl L Hf H) (lk : ∀ a ∈ L, ∃ ob u, H a = some (.frz ob u)) (nd : ms.Nodup) (hm : ∀ a ∈ ms, Hf a = none ∧ H a ≠ none) (ha : Args (hsOf H ms) Hf H vs avs ms) :
    Sat ⟨H, Hf, ms, paOf vs⟩ L Hf (paOf vs) (stOf N.length avs) (L2.start N vs) H := by
  have hlv := ha.len
  have mm : ∀ (i : Nat) (c : Cell), (stOf N.length avs)[i]? = some (Slot.p c) → avs[i]? = some (AV.m c) := fun i c e => by
    rcases stOf_at e with ⟨av, h1, h2⟩ | ⟨_, h2⟩
    · cases av with
      | m c' => cases h2; exact h1
      | d x => cases h2
      | b x => cases h2
    · cases h2
  have no : ∀ (i : Nat) (c : Cell), (stOf N.length avs)[i]? ≠ some (Slot.o c) := fun i c e => by
    rcases stOf_at e with ⟨av, h1, h2⟩ | ⟨_, h2⟩
    · cases av with
      | m c' => cases h2
      | d x => cases h2
      | b x => cases h2
    · cases h2
  have pat : ∀ {i a}, vs[i]? = some (V.ref a) → paOf vs i = a := fun {i a} e => by
    unfold paOf
    rw [e]
  have exs : Exl L (hsOf H ms) H := fun a o e => .inl (by
    unfold hsOf at e
    split at e
    · cases e
    · exact e)
  refine ⟨?_, exf, exs, Ex.refl _, fun _ _ h => .inl h, fun a h => ?_, fun a h => (hm a h).1, fun a h => (hm a h).2, fun i c e => absurd e (no i c), fun i c e => ?_, lk, fun i j hi hj e => ?_, fun i s e => ?_⟩
  · unfold L2.start stOf
    simp
    omega
  · cases q : H a with
    | none => exact absurd q (hm a h).2
    | some o => exact ⟨o, rfl⟩
  · obtain ⟨a, h1, h2, h3⟩ := ha.mem (mm i c e)
    rw [pat h1]
    exact ⟨⟨(pat h1).symm, h2⟩, h3⟩
  · rcases hi with ⟨c, q⟩ | ⟨c, q⟩
    · exact absurd q (no i c)
    rcases hj with ⟨c', q'⟩ | ⟨c', q'⟩
    · exact absurd q' (no j c')
    obtain ⟨a, h1, _, _⟩ := ha.mem (mm i c q)
    obtain ⟨a', h1', _, _⟩ := ha.mem (mm j c' q')
    rw [pat h1, pat h1'] at e
    subst e
    exact ha.inj nd (mm i c q) (mm j c' q') h1 h1'
  · rcases stOf_at e with ⟨av, h1, rfl⟩ | ⟨_, rfl⟩
    · obtain ⟨v, e1, e2⟩ := Args.sl (Γ := ⟨H, Hf, ms, paOf vs⟩) ha h1
      have e3 : (L2.start N vs)[i]? = some (some v) := by
        unfold L2.start
        rw [List.getElem?_append_left (by rw [List.length_map]; exact (List.getElem?_eq_some_iff.mp e1).1), List.getElem?_map, e1]
        rfl
      rw [e3]
      cases av with
      | d x => exact e2
      | b x => exact e2
      | m c =>
        have e2 : some (some v) = some (some (V.ref _)) := e2
        cases v with
        | ref a => rw [pat e1]; rfl
        | _ => cases e2
    · trivial
theorem Args.pl {Hs Hf H : Hp} {ws : List V} : ∀ {vs : List V} {avs : List AV} {ms : List Addr} {k : Nat}, Args Hs Hf H vs avs ms → (∀ i, vs[i]? = ws[k + i]?) → ms = (mPl k avs).map (paOf ws)
  | _, _, _, _, .nil, _ => rfl
  | _, _, _, k, .d _ r, h => by
    show _ = (mPl (k + 1) _).map _
    exact r.pl fun i => by
      have q := h (i + 1)
      rw [List.getElem?_cons_succ] at q
      rw [q]
      congr 1
      omega
  | _, _, _, k, .b _ r, h => by
    show _ = (mPl (k + 1) _).map _
    exact r.pl fun i => by
      have q := h (i + 1)
      rw [List.getElem?_cons_succ] at q
      rw [q]
      congr 1
      omega
  | _, _, _, k, @Args.m _ _ _ a0 _ vs0 _ _ _ r, h => by
    have q0 : some (V.ref a0) = ws[k]? := h 0
    show _ :: _ = (k :: mPl (k + 1) _).map _
    rw [List.map_cons]
    have e : paOf ws k = a0 := by
      unfold paOf
      rw [← q0]
    rw [e]
    congr 1
    exact r.pl fun i => by
      have q := h (i + 1)
      rw [List.getElem?_cons_succ] at q
      rw [q]
      congr 1
      omega
theorem pcs_at {Γ : Gm} {L : List Addr} {Hf H : Hp} {ad : Nat → Addr} {st : S} {σ : L2.St} (s : Sat Γ L Hf ad st σ H) : ∀ {is : List Nat} {cs : List Cell}, pcs is st = some cs → CellsAt Hf H (is.map Γ.pa) cs
  | [], _, e => by
    cases e
    exact .nil
  | i :: is, cs, e => by
    have e : (match st[i]?, pcs is st with
      | some (.p c), some cs => some (c :: cs)
      | _, _ => none) = some cs := e
    cases e1 : st[i]? with
    | none => rw [e1] at e; cases e
    | some sl =>
      cases sl with
      | p c =>
        cases e2 : pcs is st with
        | none => rw [e1, e2] at e; cases e
        | some cs' =>
          rw [e1, e2] at e
          cases e
          obtain ⟨⟨h1, _⟩, h2⟩ := s.par i c e1
          rw [h1] at h2
          exact .cons h2 (pcs_at s e2)
      | un => rw [e1] at e; cases e
      | x _ _ _ _ => rw [e1] at e; cases e
      | d x => rw [e1] at e; cases e
      | b x => rw [e1] at e; cases e
      | o x => rw [e1] at e; cases e
def retS (P : RV → List Cell → Prop) (cs : List Cell) : Option Slot → Prop
  | some (.o c) => P (.n c) cs
  | some (.d x) => P (.d x) cs
  | _ => False
def retK (P : RV → List Cell → Prop) (cs : List Cell) (st : S) : RV → Prop
  | .sl i => retS P cs st[i]?
  | .b _ => False
  | .d x => P (.d x) cs
  | .n c => P (.n c) cs
/-- what a body's reading must do -/
def bodyN (avs : List AV) (P : RV → List Cell → Prop) (XP : XQ) : DN where
  nx := fun st => opt (pcs (mPl 0 avs) st) fun cs => P (.d .non) cs
  rt := fun rv st => opt (pcs (mPl 0 avs) st) fun cs => retK P cs st rv
  bk := fun _ => False
  ct := fun _ => False
  ex := fun C x st => opt (pcs (mPl 0 avs) st) fun cs => XP C x cs
section
variable {P : Program} {w : World} {K : PySem.W.Frag} {mg : Str → Option Value} {base : Heap}
theorem after_of {H Hf : Hp} {L ms : List Addr} {vs : List V} {Hf' H' : Hp} {ad' : Nat → Addr} {st' : S} {σ' : L2.St} {cs : List Cell} {is : List Nat} (em : ms = is.map (paOf vs)) (exf : Exl L Hf H) (lk : ∀ a ∈ L, ∃ ob u, H a = some (.frz ob u))
    (s : Sat ⟨H, Hf, ms, paOf vs⟩ L Hf' ad' st' σ' H') (e : pcs is st' = some cs) : After H Hf ms Hf' H' cs := by
  have keep : ∀ a o, H a = some o → a ∉ ms → H' a = some o := fun a o q hm => by
    have q2 : Gm.Hs ⟨H, Hf, ms, paOf vs⟩ a = some o := by
      unfold Gm.Hs
      rw [if_neg hm]
      exact q
    rcases s.exs a o q2 with z | ⟨z1, z2, ob, z3⟩
    · exact z
    · obtain ⟨ob', u, z⟩ := lk a z1
      rw [q] at z
      cases z
      rcases z2 with ⟨_, z2⟩ | ⟨_, z2⟩ <;> cases z2
  refine ⟨s.base, s.new, keep, fun L' lk' e' a o q => ?_, by rw [em]; exact pcs_at s e⟩
  rcases s.new a o q with z | z
  · rcases e' a o z with z1 | ⟨z1, z2, ob, z3⟩
    · have nm : a ∉ ms := fun h => by
        have := s.msf a h
        rw [q] at this
        cases this
      exact .inl (keep a o z1 nm)
    · have nm : a ∉ ms := fun h => by
        have := s.msf a h
        rw [q] at this
        cases this
      exact .inr ⟨z1, z2, ob, keep a _ z3 nm⟩
  · rcases s.exf a o q with z1 | ⟨z1, z2, ob, z3⟩
    · exact .inl z1
    · obtain ⟨ob', u, z4⟩ := lk a z1
      have z : H a = none := z
      rw [z] at z4
      cases z4
/-- THE RULE for a def: its body's reading by data keeps the promise -/
theorem fn_data {x qual : Str} {st : Stmt} {f : Addr} {fd : FuncData} {N ps : List Str} {k : Nat} {sp : DSp} (F : FunD K x qual (defArgs st) (defBody st) (defScope st) [] [] f fd) (S : FnScope N ps (defScope st)) (wb : WS) (hn : ps.length ≤ N.length)
    (len : ∀ avs P XP, sp avs P XP → avs.length = ps.length)
    (hb : ∀ (cdv : Value) (A : Around) (outer : List Env) (s : Shared) (H : Hp) (E : XK), Room k (A.deeper (envOfC qual (defScope st) s.heap.objs.size f cdv)) → A.guards = some [] →
      DSs (cxOf (L2.CX P w) P w K mg base N qual (defScope st) f cdv A outer s H E) (fun cls d _ H => E cls d H) (defBody st) wb)
    (vc : ∀ avs Q XP, sp avs Q XP → wb (bodyN avs Q XP) (stOf N.length avs)) : GW.Ok P w K mg base (L2.CX P w) (k + 1) f fd ps (toSp sp) := by
  refine GW.ok_body F S (fun vs H Q E ⟨Hf, L, ms, avs, P, XP, _, _, _, _, ha, h, _⟩ => by rw [ha.len]; exact len _ _ _ h) fun cdv A outer s H vs Q E hr noG h => ?_
  obtain ⟨Hf, L, ms, avs, P, XP, exf, lk, nd, hm, ha, hs, hQ, hX⟩ := h
  refine ⟨_, (hb cdv A outer s H E hr noG).pss, ?_⟩
  have hl : avs.length ≤ N.length := by rw [len _ _ _ hs]; exact hn
  have em : ms = (mPl 0 avs).map (paOf vs) := ha.pl fun i => by rw [Nat.zero_add]
  refine ⟨⟨H, Hf, ms, paOf vs⟩, L, Hf, paOf vs, stOf N.length avs, bodyN avs P XP, entry_sat hl exf lk nd hm ha, vc avs P XP hs, ⟨?_, ?_, fun _ h => h.elim, fun _ h => h.elim, ?_⟩⟩
  · intro st' h Hf' ad' σ' H' s'
    obtain ⟨cs, e, h⟩ := opt_of h
    exact hQ _ cs h .non Hf' H' (after_of em exf lk s' e) .non
  · intro rv st' h v Hf' ad' σ' H' s' r
    obtain ⟨cs, e, h⟩ := opt_of h
    have af := after_of em exf lk s' e
    cases rv with
    | d y => exact hQ _ cs h v Hf' H' af r
    | b y => exact h.elim
    | n c =>
      obtain ⟨p, e1, e2, _, e3, _, e4⟩ := r
      exact hQ _ cs h v Hf' H' af ⟨p, e1, e2, e3, e4⟩
    | sl i =>
      have r : σ'[i]? = some (some v) := r
      have h : retS P cs st'[i]? := h
      cases q : st'[i]? with
      | none => rw [q] at h; exact h.elim
      | some sl =>
        rw [q] at h
        have k := s'.sl i sl q
        cases sl with
        | un => exact h.elim
        | x _ _ _ _ => exact h.elim
        | b y => exact h.elim
        | p y => exact h.elim
        | d y =>
          obtain ⟨u, k1, k2⟩ := k
          rw [r] at k1
          cases k1
          exact hQ _ cs h _ Hf' H' af k2
        | o c =>
          have k : σ'[i]? = some (some (V.ref (ad' i))) := k
          rw [r] at k
          cases k
          obtain ⟨h1, h2, h3⟩ := s'.own i c q
          exact hQ _ cs h _ Hf' H' af ⟨_, rfl, h1, h2, h3⟩
  · intro C y st' h d Hf' ad' σ' H' s' r
    obtain ⟨cs, e, h⟩ := opt_of h
    exact hX C y cs h d Hf' H' (after_of em exf lk s' e) r
end
end DL


/-! DL g: calls. -/
namespace DL
open PySem PySem.Spec PyProof.Rows L2

inductive Md where
  | d | b | m
def ownL (st : S) (i : Nat) : List Nat := match cellOf st i with
  | some _ => [i]
  | none => []
def bsl (st : S) : RV → List Nat
  | .sl i => ownL st i
  | _ => []
/-- an argument as the def gets it; the slots whose objects it may change; those whose objects it reads -/
def av1 (st : S) : Md → RV → Option (AV × List Nat × List Nat)
  | .d, .d x => some (.d x, [], [])
  | .b, r => (cont st r).map fun x => (.b x, [], bsl st r)
  | .m, .sl i => (cellOf st i).map fun c => (.m c, [i], [])
  | _, _ => none
def avs (st : S) : List Md → List RV → Option (List AV × List Nat × List Nat)
  | [], [] => some ([], [], [])
  | md :: mds, r :: rs => match av1 st md r, avs st mds rs with
    | some a, some z => some (a.1 :: z.1, a.2.1 ++ z.2.1, a.2.2 ++ z.2.2)
    | _, _ => none
  | _, _ => none
theorem avs_cons {st : S} {md : Md} {mds : List Md} {r : RV} {rs : List RV} {z : List AV × List Nat × List Nat} (e : avs st (md :: mds) (r :: rs) = some z) : ∃ a z', av1 st md r = some a ∧ avs st mds rs = some z' ∧ z = (a.1 :: z'.1, a.2.1 ++ z'.2.1, a.2.2 ++ z'.2.2) := by
  have e : (match av1 st md r, avs st mds rs with
    | some a, some z => some (a.1 :: z.1, a.2.1 ++ z.2.1, a.2.2 ++ z.2.2)
    | _, _ => none) = some z := e
  cases h1 : av1 st md r with
  | none => rw [h1] at e; cases e
  | some a =>
    cases h2 : avs st mds rs with
    | none => rw [h1, h2] at e; cases e
    | some z' =>
      rw [h1, h2] at e
      cases e
      exact ⟨a, z', rfl, rfl, rfl⟩
theorem ownL_mem {st : S} {i j : Nat} (h : j ∈ ownL st i) : j = i ∧ ∃ c, cellOf st i = some c := by
  unfold ownL at h
  cases q : cellOf st i with
  | none => rw [q] at h; cases h
  | some c =>
    rw [q] at h
    exact ⟨List.mem_singleton.mp h, c, rfl⟩
theorem av1_cells {st : S} {md : Md} {r : RV} {a : AV × List Nat × List Nat} (e : av1 st md r = some a) : (∀ i ∈ a.2.1, ∃ c, cellOf st i = some c) ∧ ∀ i ∈ a.2.2, ∃ c, cellOf st i = some c := by
  cases md with
  | d =>
    cases r with
    | d x => cases e; exact ⟨fun i h => (nomatch h), fun i h => (nomatch h)⟩
    | _ => cases e
  | b =>
    obtain ⟨x, h1, rfl⟩ := Option.map_eq_some_iff.mp (show (cont st r).map (fun x => (AV.b x, ([] : List Nat), bsl st r)) = some a from e)
    refine ⟨fun i h => (nomatch h), fun i h => ?_⟩
    cases r with
    | sl j =>
      obtain ⟨rfl, q⟩ := ownL_mem h
      exact q
    | _ => cases h
  | m =>
    cases r with
    | sl j =>
      obtain ⟨c, h1, rfl⟩ := Option.map_eq_some_iff.mp (show (cellOf st j).map (fun c => (AV.m c, [j], ([] : List Nat))) = some a from e)
      refine ⟨fun i h => ?_, fun i h => (nomatch h)⟩
      rw [List.mem_singleton.mp h]
      exact ⟨c, h1⟩
    | _ => cases e
theorem avs_cells {st : S} : ∀ {mds : List Md} {rs : List RV} {z : List AV × List Nat × List Nat}, avs st mds rs = some z → (∀ i ∈ z.2.1, ∃ c, cellOf st i = some c) ∧ ∀ i ∈ z.2.2, ∃ c, cellOf st i = some c
  | [], [], z, e => by
    cases e
    exact ⟨fun i h => (nomatch h), fun i h => (nomatch h)⟩
  | [], _ :: _, z, e => by cases e
  | _ :: _, [], z, e => by cases e
  | md :: mds, r :: rs, z, e => by
    obtain ⟨a, z', h1, h2, rfl⟩ := avs_cons e
    obtain ⟨a1, a2⟩ := av1_cells h1
    obtain ⟨b1, b2⟩ := avs_cells h2
    exact ⟨fun i h => (List.mem_append.mp h).elim (a1 i) (b1 i), fun i h => (List.mem_append.mp h).elim (a2 i) (b2 i)⟩
def setCs (st : S) : List Nat → List Cell → S
  | i :: is, c :: cs => setC (setCs st is cs) i c
  | _, _ => st
def djL (is bs : List Nat) : Bool := decide is.Nodup && bs.all fun i => !is.contains i
section
variable {Γ : Gm} {L : List Addr} {Hf H Hf' H' Hb : Hp} {ad : Nat → Addr} {st : S} {σ : L2.St}
theorem cellOf_owns {i : Nat} {c : Cell} (h : cellOf st i = some c) : Owns st i := by
  rcases cellOf_cases h with ⟨q, _⟩ | ⟨q, _⟩
  · exact .inl ⟨c, q⟩
  · exact .inr ⟨c, q⟩
theorem Sat.cellAt (s : Sat Γ L Hf ad st σ H) {i : Nat} {c : Cell} (h : cellOf st i = some c) : CellAt Hf H (ad i) c ∧ Hf (ad i) = none ∧ σ[i]? = some (some (.ref (ad i))) ∧ Γ.Hs (ad i) = none := by
  rcases cellOf_cases h with ⟨q, _⟩ | ⟨q, _⟩
  · obtain ⟨h1, h2, h3⟩ := s.own i c q
    refine ⟨h3, h2, s.sl i _ q, ?_⟩
    unfold Gm.Hs
    rw [h1]
    split <;> rfl
  · obtain ⟨h1, h3⟩ := s.par i c q
    refine ⟨h3, s.msf _ h1.2, s.sl i _ q, ?_⟩
    unfold Gm.Hs
    rw [if_pos h1.2]
theorem setC_at {i j : Nat} {c c0 : Cell} {s : Slot} (h0 : cellOf st i = some c0) (h : (setC st i c)[j]? = some s) : (j = i ∧ ((s = .o c ∧ st[j]? = some (.o c0)) ∨ (s = .p c ∧ st[j]? = some (.p c0)))) ∨ (j ≠ i ∧ st[j]? = some s) := by
  have li : i < st.length := by
    rcases cellOf_cases h0 with ⟨q, _⟩ | ⟨q, _⟩ <;> exact (List.getElem?_eq_some_iff.mp q).1
  rcases cellOf_cases h0 with ⟨q, e⟩ | ⟨q, e⟩
  · rw [e] at h
    rcases set_back li h with ⟨z1, z2⟩ | z
    · exact .inl ⟨z1, .inl ⟨z2, by rw [z1]; exact q⟩⟩
    · exact .inr z
  · rw [e] at h
    rcases set_back li h with ⟨z1, z2⟩ | z
    · exact .inl ⟨z1, .inr ⟨z2, by rw [z1]; exact q⟩⟩
    · exact .inr z
theorem setC_other {i j : Nat} {c : Cell} (h : j ≠ i) : (setC st i c)[j]? = st[j]? := by
  unfold setC
  split
  · rw [List.getElem?_set_ne (Ne.symm h)]
  · rw [List.getElem?_set_ne (Ne.symm h)]
  · rfl
theorem setCs_other {j : Nat} : ∀ {is : List Nat} {cs : List Cell}, j ∉ is → (setCs st is cs)[j]? = st[j]?
  | [], _, _ => rfl
  | _ :: _, [], _ => rfl
  | i :: is, c :: cs, h => by
    show (setC (setCs st is cs) i c)[j]? = _
    rw [setC_other fun z => h (by rw [z]; exact List.mem_cons_self)]
    exact setCs_other fun z => h (List.mem_cons_of_mem _ z)
theorem setCs_at {j : Nat} {s : Slot} : ∀ {is : List Nat} {cs : List Cell}, is.Nodup → is.length = cs.length → (∀ i ∈ is, ∃ c, cellOf st i = some c) → (setCs st is cs)[j]? = some s →
    (∃ (k : Nat) (c c0 : Cell), is[k]? = some j ∧ cs[k]? = some c ∧ ((s = .o c ∧ st[j]? = some (.o c0)) ∨ (s = .p c ∧ st[j]? = some (.p c0)))) ∨ (j ∉ is ∧ st[j]? = some s)
  | [], _, _, _, _, h => .inr ⟨by simp, h⟩
  | i :: is, [], _, hl, _, _ => by simp at hl
  | i :: is, c :: cs, nd, hl, ho, h => by
    obtain ⟨n1, n2⟩ := List.nodup_cons.mp nd
    obtain ⟨c0, hc0⟩ := ho i List.mem_cons_self
    have e : cellOf (setCs st is cs) i = some c0 := by
      unfold cellOf
      rw [setCs_other n1]
      exact hc0
    rcases setC_at e h with ⟨z1, z2⟩ | ⟨z1, z2⟩
    · subst z1
      rw [setCs_other n1] at z2
      exact .inl ⟨0, c, c0, rfl, rfl, z2⟩
    · rcases setCs_at n2 (by simpa using hl) (fun i hi => ho i (List.mem_cons_of_mem _ hi)) z2 with ⟨k, c', c1, a1, a2, a3⟩ | ⟨a1, a2⟩
      · exact .inl ⟨k + 1, c', c1, by simpa using a1, by simpa using a2, a3⟩
      · exact .inr ⟨fun z => (List.mem_cons.mp z).elim z1 a1, a2⟩
theorem setCs_length : ∀ {is : List Nat} {cs : List Cell}, (setCs st is cs).length = st.length
  | [], _ => rfl
  | _ :: _, [] => rfl
  | i :: is, c :: cs => by
    show (setC (setCs st is cs) i c).length = _
    have q := @setCs_length is cs
    unfold setC
    split
    · rw [List.length_set, q]
    · rw [List.length_set, q]
    · exact q
theorem CellsAt.length : ∀ {as : List Addr} {cs : List Cell}, CellsAt Hf H as cs → as.length = cs.length
  | _, _, .nil => rfl
  | _, _, .cons _ r => congrArg (· + 1) r.length
theorem CellsAt.get : ∀ {as : List Addr} {cs : List Cell} {k : Nat} {a : Addr} {c : Cell}, CellsAt Hf H as cs → as[k]? = some a → cs[k]? = some c → CellAt Hf H a c
  | _, _, k, a, c, .nil, e, _ => by simp at e
  | _, _, 0, a, c, .cons h _, e, e' => by
    simp at e e'
    subst e
    subst e'
    exact h
  | _, _, k + 1, a, c, .cons _ r, e, e' => CellsAt.get (k := k) r (by simpa using e) (by simpa using e')
theorem CellsAt.there : ∀ {as : List Addr} {cs : List Cell} {a : Addr}, CellsAt Hf H as cs → a ∈ as → ∃ o, H a = some o
  | _, _, a, .cons h r, m => by
    rcases List.mem_cons.mp m with e | m
    · subst e
      obtain ⟨u, h, _⟩ := h
      exact ⟨u, h⟩
    · exact r.there m
/-- behind a call -/
theorem Sat.called (s : Sat Γ L Hf ad st σ H) {is : List Nat} {cs : List Cell} (nd : is.Nodup) (ho : ∀ i ∈ is, ∃ c, cellOf st i = some c) (af : After H Hf (is.map ad) Hf' H' cs) :
    Sat Γ L Hf' ad (setCs st is cs) σ H' ∧ Nxt ad st Hf H (setCs st is cs) Hf' H' := by
  have hl : is.length = cs.length := by
    have q := af.cells.length
    rw [List.length_map] at q
    exact q
  have at_ := fun j sl h => setCs_at (j := j) (s := sl) nd hl ho h
  have sub : ∀ j, Owns (setCs st is cs) j → Owns st j := fun j hj => by
    rcases hj with ⟨c, q⟩ | ⟨c, q⟩
    · rcases at_ j _ q with ⟨k, c', c0, _, _, ⟨_, z⟩ | ⟨z, _⟩⟩ | ⟨_, z⟩
      · exact .inl ⟨c0, z⟩
      · cases z
      · exact .inl ⟨c, z⟩
    · rcases at_ j _ q with ⟨k, c', c0, _, _, ⟨z, _⟩ | ⟨_, z⟩⟩ | ⟨_, z⟩
      · cases z
      · exact .inr ⟨c0, z⟩
      · exact .inr ⟨c, z⟩
  have own_ms : ∀ a, a ∈ is.map ad → ∃ i, Owns st i ∧ ad i = a := fun a ha => by
    obtain ⟨i, hi, e⟩ := List.mem_map.mp ha
    obtain ⟨c, hc⟩ := ho i hi
    exact ⟨i, cellOf_owns hc, e⟩
  have ninms : ∀ j, j ∉ is → Owns st j → ad j ∉ is.map ad := fun j hj hjo h => by
    obtain ⟨i, hi, e⟩ := List.mem_map.mp h
    obtain ⟨c, hc⟩ := ho i hi
    exact hj (by rw [← s.inj i j (cellOf_owns hc) hjo e]; exact hi)
  have hsn : ∀ a, a ∈ is.map ad → Γ.Hs a = none := fun a ha => by
    obtain ⟨i, hi, e⟩ := List.mem_map.mp ha
    obtain ⟨c, hc⟩ := ho i hi
    rw [← e]
    exact (s.cellAt hc).2.2.2
  have nfz : ∀ a, a ∈ is.map ad → ∀ ob u, H a ≠ some (.frz ob u) := fun a ha ob u z => by
    obtain ⟨i, hi, e⟩ := List.mem_map.mp ha
    obtain ⟨c, hc⟩ := ho i hi
    obtain ⟨w, q1, q2⟩ := (s.cellAt hc).1
    rw [e, z] at q1
    cases q1
    exact q2.nofrz
  have kp : ∀ a o, H a = some o → (∀ i, Owns st i → ad i ≠ a) → H' a = some o := fun a o h n => af.keep a o h fun hm => by
    obtain ⟨i, hi, e⟩ := own_ms a hm
    exact n i hi e
  have th : ∀ a o, H a = some o → ∃ o', H' a = some o' := fun a o h => by
    by_cases hm : a ∈ is.map ad
    · exact af.cells.there hm
    · exact ⟨o, af.keep a o h hm⟩
  refine ⟨⟨by rw [setCs_length]; exact s.len, af.exf L s.lk s.exf, fun a o h => ?_, s.base.trans af.ex, fun a o h => ?_, fun a ha => ?_, fun a ha => ?_, s.ms0, fun j c q => ?_, fun j c q => ?_, fun a ha => ?_, fun i j hi hj => s.inj i j (sub i hi) (sub j hj), fun j sl q => ?_⟩,
    ⟨af.ex, fun a o h => (af.new a o h).elim .inl fun z => .inr (.inl z), kp, th, sub⟩⟩
  · have nm : a ∉ is.map ad := fun hm => by
      rw [hsn a hm] at h
      cases h
    rcases s.exs a o h with z | ⟨z1, z2, ob, z3⟩
    · exact .inl (af.keep a o z nm)
    · exact .inr ⟨z1, z2, ob, af.keep a _ z3 nm⟩
  · rcases af.new a o h with z | z
    · exact s.new a o z
    · exact .inr (s.none0 z)
  · obtain ⟨o, h⟩ := s.live a ha
    exact th a o h
  · cases q : Hf' a with
    | none => rfl
    | some o =>
      rcases af.new a o q with z | z
      · rw [s.msf a ha] at z; cases z
      · obtain ⟨o', h⟩ := s.live a ha
        rw [z] at h
        cases h
  · have hf' : ∀ a, H a ≠ none → Hf a = none → Hf' a = none := fun a h1 h2 => by
      cases q : Hf' a with
      | none => rfl
      | some o =>
        rcases af.new a o q with z | z
        · rw [h2] at z; cases z
        · exact absurd z h1
    rcases at_ j _ q with ⟨k, c', c0, a1, a2, ⟨z1, z2⟩ | ⟨z1, _⟩⟩ | ⟨a1, z⟩
    · cases z1
      obtain ⟨h1, h2, u, h3, _⟩ := s.own j c0 z2
      refine ⟨h1, hf' _ (by rw [h3]; exact fun z => nomatch z) h2, af.cells.get (k := k) ?_ a2⟩
      rw [List.getElem?_map, a1]
      rfl
    · cases z1
    · obtain ⟨h1, h2, u, h3, h4⟩ := s.own j c z
      exact ⟨h1, hf' _ (by rw [h3]; exact fun z => nomatch z) h2, u, af.keep _ _ h3 (ninms j a1 (.inl ⟨c, z⟩)), h4.mono af.ex⟩
  · rcases at_ j _ q with ⟨k, c', c0, a1, a2, ⟨z1, _⟩ | ⟨z1, z2⟩⟩ | ⟨a1, z⟩
    · cases z1
    · cases z1
      obtain ⟨h1, _⟩ := s.par j c0 z2
      refine ⟨h1, af.cells.get (k := k) ?_ a2⟩
      rw [List.getElem?_map, a1]
      rfl
    · obtain ⟨h1, u, h3, h4⟩ := s.par j c z
      exact ⟨h1, u, af.keep _ _ h3 (ninms j a1 (.inr ⟨c, z⟩)), h4.mono af.ex⟩
  · obtain ⟨ob, u, h⟩ := s.lk a ha
    exact ⟨ob, u, af.keep a _ h fun hm => nfz a hm ob u h⟩
  · rcases at_ j _ q with ⟨k, c', c0, a1, a2, ⟨z1, z2⟩ | ⟨z1, z2⟩⟩ | ⟨a1, z⟩
    · subst z1
      have k : σ[j]? = some (some (V.ref (ad j))) := s.sl j _ z2
      exact k
    · subst z1
      have k : σ[j]? = some (some (V.ref (ad j))) := s.sl j _ z2
      exact k
    · exact (s.sl j sl z).mono af.ex
theorem RetR.back (s : Sat Γ L Hf ad st σ H) {st' : S} {is : List Nat} {cs : List Cell} (n : Nxt ad st Hf H st' Hf' H') {v : V} {rv : RV} {ms : List Addr} (r : RetR H Hf' H' ms v rv) : RepR Γ Hf' ad st' σ H H' v rv := by
  cases rv with
  | d x => exact r
  | b x => exact r.elim
  | sl i => exact r.elim
  | n c =>
    obtain ⟨p, e1, e2, e3, e4⟩ := r
    exact ⟨p, e1, e2, s.none0 e2, e3, fun i hi => s.noneo e2 i (n.sub i hi), e4⟩
theorem repB_read {Hs1 : Hp} (s : Sat Γ L Hf ad st σ H) {v : V} {x : D} (h : RepB Γ.Hs Hf v x) (k : ∀ a o, Γ.Hs a = some o → H a = some o → Hs1 a = some o) (kl : ∀ a o ob, Γ.Hs a = some o → H a = some (.frz ob o) → Hs1 a = some (.frz ob o)) : RepB Hs1 Hf v x := by
  have rd : ∀ {a u}, Rd Γ.Hs a u → Rd Hs1 a u := fun {a u} h => by
    rcases h with h | ⟨o, h⟩
    · rcases s.exs a _ h with z | ⟨_, _, ob, z⟩
      · exact .inl (k a _ h z)
      · exact .inr ⟨ob, kl a _ ob h z⟩
    · rcases s.exs a _ h with z | ⟨_, z2, _⟩
      · exact .inr ⟨o, k a _ h z⟩
      · rcases z2 with ⟨_, z2⟩ | ⟨_, z2⟩ <;> cases z2
  cases h with
  | of h => exact .of h
  | @lst a vs xs h r =>
    rcases s.exs a _ h with z | ⟨_, z2, _⟩
    · exact .lst (k a _ h z) r
    · rcases z2 with ⟨_, z2⟩ | ⟨_, z2⟩ <;> cases z2
  | fz h => exact .fz (rd h)
  | dk h r => exact .dk (rd h) r
  | dt h r => exact .dt (rd h) r
theorem CellO.repB {Hs : Hp} {u : HO} {c : Cell} {a : Addr} (h : CellO Hf u c) (ha : Hs a = some u) : RepB Hs Hf (.ref a) c.toD := by
  cases c with
  | lst xs => obtain ⟨vs, rfl, h2⟩ := h; exact .lst ha h2
  | dk xs => obtain ⟨vs, rfl, h2⟩ := h; exact .dk (.inl ha) h2
  | dt xs => obtain ⟨vs, rfl, h2⟩ := h; exact .dt (.inl ha) h2
/-- a borrowed argument -/
theorem bor (s : Sat Γ L Hf ad st σ H) {ms : List Addr} (hms : ∀ a ∈ ms, ∃ i, Owns st i ∧ ad i = a) {v : V} {rv : RV} {x : D} (r : RepR Γ Hf ad st σ Hb H v rv) (c : cont st rv = some x) (nb : ∀ i, i ∈ bsl st rv → ad i ∉ ms) : RepB (hsOf H ms) Hf v x := by
  have hsn : ∀ a ∈ ms, Γ.Hs a = none := fun a ha => by
    obtain ⟨i, hi, e⟩ := hms a ha
    rw [← e]
    rcases hi with ⟨c, q⟩ | ⟨c, q⟩
    · exact (s.cellAt (c := c) (by unfold cellOf; rw [q])).2.2.2
    · exact (s.cellAt (c := c) (by unfold cellOf; rw [q])).2.2.2
  have up : ∀ {a o}, H a = some o → a ∉ ms → hsOf H ms a = some o := fun {a o} h n => by
    unfold hsOf
    rw [if_neg n]
    exact h
  have back : ∀ {y : D}, RepB Γ.Hs Hf v y → RepB (hsOf H ms) Hf v y := fun h => repB_read s h (fun a o h1 h2 => up h2 fun hm => by rw [hsn a hm] at h1; cases h1) (fun a o ob h1 h2 => up h2 fun hm => by rw [hsn a hm] at h1; cases h1)
  cases rv with
  | d y =>
    cases c
    exact .of r
  | b y =>
    cases c
    exact back r
  | n c' =>
    cases c
    obtain ⟨p, rfl, _, _, _, h4, u, h5, h6⟩ := r
    refine h6.repB (up h5 fun hm => ?_)
    obtain ⟨i, hi, e⟩ := hms p hm
    exact h4 i hi e
  | sl i =>
    have r : σ[i]? = some (some v) := r
    have c : slotD st[i]? = some x := c
    cases q : st[i]? with
    | none => rw [q] at c; cases c
    | some sl =>
      rw [q] at c
      have k := s.sl i sl q
      cases sl with
      | un => cases c
      | x _ _ _ _ => cases c
      | d y =>
        cases c
        obtain ⟨u, e, k⟩ := k
        rw [r] at e
        cases e
        exact .of k
      | b y =>
        cases c
        obtain ⟨u, e, k⟩ := k
        rw [r] at e
        cases e
        exact back k
      | o c' =>
        cases c
        have hc : cellOf st i = some c' := by unfold cellOf; rw [q]
        obtain ⟨⟨u, h5, h6⟩, _, h7, _⟩ := s.cellAt hc
        rw [r] at h7
        cases h7
        exact h6.repB (up h5 (nb i (by show i ∈ ownL st i; unfold ownL; rw [hc]; exact List.mem_singleton.mpr rfl)))
      | p c' =>
        cases c
        have hc : cellOf st i = some c' := by unfold cellOf; rw [q]
        obtain ⟨⟨u, h5, h6⟩, _, h7, _⟩ := s.cellAt hc
        rw [r] at h7
        cases h7
        exact h6.repB (up h5 (nb i (by show i ∈ ownL st i; unfold ownL; rw [hc]; exact List.mem_singleton.mpr rfl)))
theorem Args.app {Hs : Hp} : ∀ {vs ws : List V} {as bs : List AV} {ms ns : List Addr}, Args Hs Hf H vs as ms → Args Hs Hf H ws bs ns → Args Hs Hf H (vs ++ ws) (as ++ bs) (ms ++ ns)
  | _, _, _, _, _, _, .nil, s => s
  | _, _, _, _, _, _, .d h r, s => .d h (r.app s)
  | _, _, _, _, _, _, .b h r, s => .b h (r.app s)
  | _, _, _, _, _, _, .m h r, s => .m h (r.app s)
theorem av1_args (s : Sat Γ L Hf ad st σ H) {ms : List Addr} (hms : ∀ a ∈ ms, ∃ i, Owns st i ∧ ad i = a) {md : Md} {r : RV} {v : V} {a : AV × List Nat × List Nat} (h : RepR Γ Hf ad st σ Hb H v r) (e : av1 st md r = some a) (nb : ∀ i ∈ a.2.2, ad i ∉ ms) : Args (hsOf H ms) Hf H [v] [a.1] (a.2.1.map ad) := by
  cases md with
  | d =>
    cases r with
    | d x => cases e; exact .d h .nil
    | _ => cases e
  | b =>
    obtain ⟨x, h1, rfl⟩ := Option.map_eq_some_iff.mp (show (cont st r).map (fun x => (AV.b x, ([] : List Nat), bsl st r)) = some a from e)
    exact .b (bor s hms h h1 nb) .nil
  | m =>
    cases r with
    | sl j =>
      obtain ⟨c, h1, rfl⟩ := Option.map_eq_some_iff.mp (show (cellOf st j).map (fun c => (AV.m c, [j], ([] : List Nat))) = some a from e)
      have h : σ[j]? = some (some v) := h
      obtain ⟨h2, _, h3, _⟩ := s.cellAt h1
      rw [h] at h3
      cases h3
      exact .m h2 .nil
    | _ => cases e
theorem avs_args (s : Sat Γ L Hf ad st σ H) {ms : List Addr} (hms : ∀ a ∈ ms, ∃ i, Owns st i ∧ ad i = a) : ∀ {mds : List Md} {rs : List RV} {vs : List V} {z : List AV × List Nat × List Nat}, RepRs Γ Hf ad st σ Hb H vs rs → avs st mds rs = some z → (∀ i ∈ z.2.2, ad i ∉ ms) → Args (hsOf H ms) Hf H vs z.1 (z.2.1.map ad)
  | [], _, _, z, .nil, e, _ => by
    cases e
    exact .nil
  | _ :: _, _, _, z, .nil, e, _ => by cases e
  | [], _, _, z, .cons _ _, e, _ => by cases e
  | md :: mds, _, _, z, .cons h r, e, nb => by
    obtain ⟨a, z', h1, h2, rfl⟩ := avs_cons e
    have x1 := av1_args s hms h h1 fun i hi => nb i (List.mem_append.mpr (.inl hi))
    have x2 := avs_args s hms r h2 fun i hi => nb i (List.mem_append.mpr (.inr hi))
    show Args _ _ _ _ _ ((a.2.1 ++ z'.2.1).map ad)
    rw [List.map_append]
    exact x1.app x2
end
def callK (sp : DSp) (st1 : S) (P : RV → S → Prop) (E : XC) (z : List AV × List Nat × List Nat) : Prop :=
  djL z.2.1 z.2.2 = true ∧ sp z.1 (fun rv cs => P rv (setCs st1 z.2.1 cs)) fun C x cs => E C x (setCs st1 z.2.1 cs)
def wCall (mds : List Md) (sp : DSp) (wa : WA) : WE := fun st P E => wa st (fun rs st1 => opt (avs st1 mds rs) (callK sp st1 P E)) E
variable {X : Cx} {W : WX}
/-- a call's promise at a state -/
theorem call_sp {Γ : Gm} {L : List Addr} {Hf H Hb : Hp} {ad : Nat → Addr} {st : S} {σ : L2.St} {sp : DSp} {P : RV → S → Prop} {E : XC} {Q : VK} {mds : List Md} {rs : List RV} {vs : List V} (s : Sat Γ L Hf ad st σ H) (r : RepRs Γ Hf ad st σ Hb H vs rs) (h : opt (avs st mds rs) (callK sp st P E))
    (hP : ∀ rv st', P rv st' → ∀ v Hf' H', Nxt ad st Hf H st' Hf' H' → Sat Γ L Hf' ad st' σ H' → RepR Γ Hf' ad st' σ H H' v rv → Q v H') (hE : XOk W Γ L Hf ad st σ H E) : toSp sp vs H Q (L2.WE W σ) := by
  obtain ⟨z, e, dj, h⟩ := opt_of h
  have dj : (decide z.2.1.Nodup && z.2.2.all fun i => !z.2.1.contains i) = true := dj
  rw [Bool.and_eq_true] at dj
  have nd : z.2.1.Nodup := of_decide_eq_true dj.1
  have nb : ∀ i ∈ z.2.2, i ∉ z.2.1 := fun i hi hm => by
    have q := List.all_eq_true.mp dj.2 i hi
    have q2 : z.2.1.contains i = true := by simpa using hm
    rw [q2] at q
    cases q
  have ho := (avs_cells e).1
  have hms : ∀ a ∈ z.2.1.map ad, ∃ i, Owns st i ∧ ad i = a := fun a ha => by
    obtain ⟨i, hi, e⟩ := List.mem_map.mp ha
    obtain ⟨c, hc⟩ := ho i hi
    exact ⟨i, cellOf_owns hc, e⟩
  have bsown := (avs_cells e).2
  refine ⟨Hf, L, z.2.1.map ad, z.1, _, _, s.exf, s.lk, ?_, fun a ha => ?_, avs_args s hms r e fun i hi hm => ?_, h, fun rv cs hp v Hf' H' af ret => ?_, fun C x cs hp d Hf' H' af pay => ?_⟩
  · have key : ∀ l : List Nat, l.Nodup → (∀ i ∈ l, ∃ c, cellOf st i = some c) → (l.map ad).Nodup := by
      intro l
      induction l with
      | nil => intro _ _; exact List.nodup_nil
      | cons i l ih =>
        intro nd ho
        obtain ⟨n1, n2⟩ := List.nodup_cons.mp nd
        refine List.nodup_cons.mpr ⟨fun hm => ?_, ih n2 fun i hi => ho i (List.mem_cons_of_mem _ hi)⟩
        obtain ⟨j, hj, e⟩ := List.mem_map.mp hm
        obtain ⟨c, hc⟩ := ho i List.mem_cons_self
        obtain ⟨c', hc'⟩ := ho j (List.mem_cons_of_mem _ hj)
        exact n1 (by rw [← s.inj j i (cellOf_owns hc') (cellOf_owns hc) e]; exact hj)
    exact key _ nd ho
  · obtain ⟨i, hi, e⟩ := List.mem_map.mp ha
    obtain ⟨c, hc⟩ := ho i hi
    obtain ⟨⟨u, h1, _⟩, h2, _⟩ := s.cellAt hc
    rw [← e]
    exact ⟨h2, by rw [h1]; exact fun z => nomatch z⟩
  · obtain ⟨j, hj, ej⟩ := List.mem_map.mp hm
    obtain ⟨c, hc⟩ := ho j hj
    obtain ⟨c', hc'⟩ := bsown i hi
    exact nb i hi (by rw [← s.inj j i (cellOf_owns hc) (cellOf_owns hc') ej]; exact hj)
  · obtain ⟨s2, n2⟩ := s.called nd ho af
    exact hP rv _ hp v Hf' H' n2 s2 (ret.back (is := z.2.1) (cs := cs) s n2)
  · obtain ⟨s2, n2⟩ := s.called nd ho af
    exact hE C x _ hp d Hf' H' n2 s2 pay
theorem LE.call {mds : List Md} {sp : DSp} {wa : WA} {σ : L2.St} {H : Hp} {Q : VK} (h : LE W (wCall mds sp wa) σ H Q) : tCallSD (toSp sp) [] (L2.WE W) (LA W wa) σ H Q := by
  obtain ⟨Γ, L, Hf, ad, st, P, E, s, hw, hP, hE⟩ := h
  refine ⟨Γ, L, Hf, ad, st, _, E, s, hw, fun rs st1 h1 vs Hf1 H1 n1 s1 k1 => ?_, hE⟩
  show toSp sp (vs ++ []) H1 Q _
  rw [List.append_nil]
  exact call_sp s1 k1 h1 (fun rv st' hp v Hf' H' n s r => hP rv st' hp v Hf' H' (n1.trans n) s (r.from n1)) (hE.later n1)
/-- f(..), by a promise that knows that nothing is being shown -/
theorem pe_callG {k : Nat} {f : Addr} {fd : FuncData} {ps : List Str} {sp : Sp} {E : L2.St → XK} {x : Str} {p pos : Pos} {e : Expr} {es : List Expr} {t : TA} (F : GW.Ok X.prog X.w X.K X.mg X.base (L2.CX X.prog X.w) k f fd ps sp) (room : Room k X.A) (noG : X.A.guards = some []) (gx : Gl X x) (mx : X.mg x = some (.ref f)) (kf : PySem.W.keepIn X.K (.ref f) = true)
    (bnd : Binds X.K fd ps []) (hx : ∀ σ, PassesAt (L2.CX X.prog X.w) X σ (E σ)) (ha : PA X (e :: es) t) (hdb : (x == ("__debug__" : Str)) = false := by decide) (he : starEach (e :: es) X.env = (false, eval e X.env) :: starEach es X.env := by rfl) (hpl : (backTo pos (starEach es X.env)).any (·.1) = false := by rfl) :
    PE X (.Call (.Name x p) (e :: es) [] pos) (tCallSD sp [] E t) := by
  refine ⟨fun pins s σ Hh Q I want => ?_⟩
  refine wpAny_Call_Name_kw (ld_glob I gx mx ?_ hdb)
  refine PySem.W.callWith_K (h₀ := X.base) I.ok.mod.kin kf (thn (ha.run pos pins s σ Hh _ I want) fun us s1 ⟨xs, H1, I1, r, q⟩ => ⟨I1.kIn, ?_⟩) he hpl
  show wpAny _ _ (call (.ref f) us) _ _ _
  have q : sp (xs ++ []) H1 Q (E σ) := q
  have r2 : Vals (xs ++ []) (us ++ []) := r.append .nil
  have len : (us ++ []).length = ps.length := by
    rw [← r2.length]
    exact F.len _ _ _ _ q
  refine wpAny_call (codeAny_mono (F.run X.A X.stack s1 H1 ⟨us, []⟩ (us ++ []) (xs ++ []) Q (E σ) room noG I1.env0 (bnd s1 us I1.kIn len) r2 q) fun r' s' told => ?_)
  cases r' with
  | error er => exact hx σ pins H1 s1 er s' I1 told
  | ok fin =>
    cases fin with
    | ret u => exact I1.after told
    | next => exact told.elim
    | brk => exact told.elim
    | cont => exact told.elim
theorem de_call {k : Nat} {f : Addr} {fd : FuncData} {ps : List Str} {sp : DSp} {x : Str} {p pos : Pos} {e : Expr} {es : List Expr} {wa : WA} (mds : List Md) (tk : Takes X W) (F : GW.Ok X.prog X.w X.K X.mg X.base (L2.CX X.prog X.w) k f fd ps (toSp sp)) (hr : Room k X.A) (noG : X.A.guards = some []) (hm : X.mg x = some (.ref f)) (hk : PySem.W.keepIn X.K (.ref f) = true) (hb : Binds X.K fd ps [])
    (ha : DA X W (e :: es) wa) (hg : Gl X x := by rfl) (hdb : (x == ("__debug__" : Str)) = false := by decide) (he : starEach (e :: es) X.env = (false, eval e X.env) :: starEach es X.env := by rfl) (hpl : (backTo pos (starEach es X.env)).any (·.1) = false := by rfl) :
    DE X W (.Call (.Name x p) (e :: es) [] pos) (wCall mds sp wa) := ⟨(pe_callG F hr noG hg hm hk hb (fun σ => passAt tk σ) ha.pa hdb he hpl).imp fun _ _ _ h => h.call⟩
end DL


/-! DL h: equality of data; membership. -/
namespace DL
open PySem PySem.Spec PyProof.Rows L2

def eqL (f : D → D → Option Bool) : List D → List D → Option Bool
  | [], [] => some true
  | x :: xs, y :: ys => match f x y, eqL f xs ys with
    | some a, some b => some (a && b)
    | _, _ => none
  | [], _ :: _ => some false
  | _ :: _, [] => some false
/-- ==, of data that nests less than n deep; none: not told -/
def deqN : Nat → D → D → Option Bool
  | 0, _, _ => none
  | n + 1, x, y => match x, y with
    | .non, .non => some true
    | .non, .bl _ => some false
    | .non, .int _ => some false
    | .non, .str _ => some false
    | .non, .lst _ => some false
    | .non, .tup _ => some false
    | .bl _, .non => some false
    | .bl a, .bl b => some (a == b)
    | .bl a, .int b => some ((if a then 1 else 0) == b)
    | .bl _, .str _ => some false
    | .bl _, .lst _ => some false
    | .bl _, .tup _ => some false
    | .int _, .non => some false
    | .int a, .bl b => some (a == (if b then 1 else 0))
    | .int a, .int b => some (a == b)
    | .int _, .str _ => some false
    | .int _, .lst _ => some false
    | .int _, .tup _ => some false
    | .str _, .non => some false
    | .str _, .bl _ => some false
    | .str _, .int _ => some false
    | .str a, .str b => some (a == b)
    | .str _, .lst _ => some false
    | .str _, .tup _ => some false
    | .lst _, .non => some false
    | .lst _, .bl _ => some false
    | .lst _, .int _ => some false
    | .lst _, .str _ => some false
    | .lst xs, .lst ys => if xs.length = ys.length then eqL (deqN n) xs ys else some false
    | .lst _, .tup _ => some false
    | .tup _, .non => some false
    | .tup _, .bl _ => some false
    | .tup _, .int _ => some false
    | .tup _, .str _ => some false
    | .tup _, .lst _ => some false
    | .tup xs, .tup ys => eqL (deqN n) xs ys
    | _, _ => none
theorem eqL_of {f : D → D → Option Bool} : ∀ {xs ys : List D} {b : Bool}, eqL f xs ys = some b → ∃ e : Nat → Bool, (∀ j x y, xs[j]? = some x → ys[j]? = some y → f x y = some (e j)) ∧ ((List.range (min xs.length ys.length)).all e && xs.length == ys.length) = b
  | [], [], b, h => by
    cases h
    exact ⟨fun _ => true, fun j x y h => by simp at h, rfl⟩
  | [], _ :: _, b, h => by
    cases h
    exact ⟨fun _ => true, fun j x y h => by simp at h, by simp⟩
  | _ :: _, [], b, h => by
    cases h
    exact ⟨fun _ => true, fun j x y _ h => by simp at h, by simp⟩
  | x :: xs, y :: ys, b, h => by
    have h : (match f x y, eqL f xs ys with
      | some a, some b => some (a && b)
      | _, _ => none) = some b := h
    cases h1 : f x y with
    | none => rw [h1] at h; cases h
    | some a =>
      cases h2 : eqL f xs ys with
      | none => rw [h1, h2] at h; cases h
      | some c =>
        rw [h1, h2] at h
        obtain ⟨e, he, hc⟩ := eqL_of h2
        refine ⟨fun j => match j with
          | 0 => a
          | j + 1 => e j, fun j x' y' hx hy => ?_, ?_⟩
        · cases j with
          | zero =>
            simp at hx hy
            rw [← hx, ← hy]
            exact h1
          | succ j => exact he j x' y' (by simpa using hx) (by simpa using hy)
        · cases h
          have e1 : min (x :: xs).length (y :: ys).length = min xs.length ys.length + 1 := by simp only [List.length_cons]; omega
          rw [e1, List.range_succ_eq_map, List.all_cons, List.all_map, ← hc, Bool.and_assoc]
          congr 1
          have e2 : ((x :: xs).length == (y :: ys).length) = (xs.length == ys.length) := by simp
          rw [e2]
          rfl
section
variable {X : Cx} {pins : List (Addr × Obj)} {σ : L2.St} {H Hf : Hp} {s : Shared} {L : List Addr}
theorem sqT_of {K : PySem.W.Frag} {a : Addr} {vs : List V} (h : H a = some (.tup vs)) : SqT K H a vs := .inl (.inl h)
theorem sqL_of {K : PySem.W.Frag} {a : Addr} {vs : List V} (h : H a = some (.lst vs)) : SqL K H a vs := .inl (.inl h)
theorem Inv.isList (I : Inv X pins σ H s) {a : Addr} {vs : List V} (h : H a = some (.lst vs)) : ∃ its : List Value, Vals vs its ∧ s.heap.IsList a its.toArray := by
  obtain ⟨its, h1, h2, _⟩ := I.list (sqL_of h)
  exact ⟨its, h1, h2.isList⟩
theorem Inv.isTuple (I : Inv X pins σ H s) {a : Addr} {vs : List V} (h : H a = some (.tup vs)) : ∃ its : List Value, Vals vs its ∧ s.heap.IsTuple a its.toArray := by
  obtain ⟨its, h1, h2, _⟩ := I.tuple (sqT_of h)
  exact ⟨its, h1, h2⟩
theorem eqAll_items {A : Around} {n : Nat} (I : Inv X pins σ H s) (ex : Exl L Hf H) (ih : ∀ (d e : D) (v w : V) (u u' : Value) (b : Bool), RepH Hf H v d → RepH Hf H w e → RelV v u → RelV w u' → deqN n d e = some b → SeqAt.EqAt A s u u' b)
    {vs ws : List V} {xs ys : List D} {its its' : List Value} (rx : Reps Hf vs xs) (ry : Reps Hf ws ys) (hv : Vals vs its) (hw : Vals ws its') {e : Nat → Bool} (he : ∀ j x y, xs[j]? = some x → ys[j]? = some y → deqN n x y = some (e j)) :
    ∀ j (h1 : j < its.toArray.size) (h2 : j < its'.toArray.size), SeqAt.EqAt A s its.toArray[j] its'.toArray[j] (e j) := fun j h1 h2 => by
  have l1 : j < vs.length := by rw [hv.length]; simpa using h1
  have l2 : j < ws.length := by rw [hw.length]; simpa using h2
  obtain ⟨x, hx, r1⟩ := rx.getV (List.getElem?_eq_getElem l1)
  obtain ⟨y, hy, r2⟩ := ry.getV (List.getElem?_eq_getElem l2)
  obtain ⟨u, hu, r3⟩ := hv.get (List.getElem?_eq_getElem l1)
  obtain ⟨u', hu', r4⟩ := hw.get (List.getElem?_eq_getElem l2)
  have e1 : its.toArray[j] = u := by
    have q := hu
    rw [List.getElem?_eq_getElem (by simpa using h1)] at q
    simpa using q
  have e2 : its'.toArray[j] = u' := by
    have q := hu'
    rw [List.getElem?_eq_getElem (by simpa using h2)] at q
    simpa using q
  rw [e1, e2]
  exact ih x y _ _ u u' (e j) (r1.reph ex) (r2.reph ex) r3 r4 (he j x y hx hy)
mutual
theorem Rep.inj {H : Hp} : ∀ {v : V} {x y : D}, Rep H v x → Rep H v y → x = y
  | _, _, _, .non, h => by cases h; rfl
  | _, _, _, .bl _, h => by cases h; rfl
  | _, _, _, .int _, h => by cases h; rfl
  | _, _, _, .str _, h => by cases h; rfl
  | _, _, _, .lst h r, h' => by
    cases h' with
    | lst h2 r2 =>
      rw [h] at h2
      cases h2
      rw [Reps.inj r r2]
    | tup h2 r2 => rw [h] at h2; cases h2
    | dk h2 r2 => rw [h] at h2; cases h2
    | dt h2 r2 => rw [h] at h2; cases h2
    | ins h2 r2 => rw [h] at h2; cases h2
  | _, _, _, .tup h r, h' => by
    cases h' with
    | tup h2 r2 =>
      rw [h] at h2
      cases h2
      rw [Reps.inj r r2]
    | lst h2 r2 => rw [h] at h2; cases h2
    | dk h2 r2 => rw [h] at h2; cases h2
    | dt h2 r2 => rw [h] at h2; cases h2
    | ins h2 r2 => rw [h] at h2; cases h2
  | _, _, _, .dk h r, h' => by
    cases h' with
    | dk h2 r2 =>
      rw [h] at h2
      cases h2
      rw [RepK.inj r r2]
    | lst h2 r2 => rw [h] at h2; cases h2
    | tup h2 r2 => rw [h] at h2; cases h2
    | dt h2 r2 => rw [h] at h2; cases h2
    | ins h2 r2 => rw [h] at h2; cases h2
  | _, _, _, .dt h r, h' => by
    cases h' with
    | dt h2 r2 =>
      rw [h] at h2
      cases h2
      rw [RepT.inj r r2]
    | lst h2 r2 => rw [h] at h2; cases h2
    | tup h2 r2 => rw [h] at h2; cases h2
    | dk h2 r2 => rw [h] at h2; cases h2
    | ins h2 r2 => rw [h] at h2; cases h2
  | _, _, _, .ins h r, h' => by
    cases h' with
    | ins h2 r2 =>
      rw [h] at h2
      cases h2
      rw [RepF.inj r r2]
    | lst h2 r2 => rw [h] at h2; cases h2
    | tup h2 r2 => rw [h] at h2; cases h2
    | dk h2 r2 => rw [h] at h2; cases h2
    | dt h2 r2 => rw [h] at h2; cases h2
theorem Reps.inj {H : Hp} : ∀ {v : List V} {x y : List D}, Reps H v x → Reps H v y → x = y
  | _, _, _, .nil, h => by cases h; rfl
  | _, _, _, .cons h r, h' => by
    cases h' with
    | cons h2 r2 => rw [Rep.inj h h2, Reps.inj r r2]
theorem RepK.inj {H : Hp} : ∀ {v : List (Key × V)} {x y : List (Key × D)}, RepK H v x → RepK H v y → x = y
  | _, _, _, .nil, h => by cases h; rfl
  | _, _, _, .cons h r, h' => by
    cases h' with
    | cons h2 r2 => rw [Rep.inj h h2, RepK.inj r r2]
theorem RepT.inj {H : Hp} : ∀ {v : List (List Key × V)} {x y : List (List Key × D)}, RepT H v x → RepT H v y → x = y
  | _, _, _, .nil, h => by cases h; rfl
  | _, _, _, .cons h r, h' => by
    cases h' with
    | cons h2 r2 => rw [Rep.inj h h2, RepT.inj r r2]
theorem RepF.inj {H : Hp} : ∀ {v : List (Str × V)} {x y : List (Str × D)}, RepF H v x → RepF H v y → x = y
  | _, _, _, .nil, h => by cases h; rfl
  | _, _, _, .cons h r, h' => by
    cases h' with
    | cons h2 r2 => rw [Rep.inj h h2, RepF.inj r r2]
end
theorem eqL_same {f : D → D → Option Bool} (hf : ∀ x b, f x x = some b → b = true) : ∀ {xs : List D} {b : Bool}, eqL f xs xs = some b → b = true
  | [], b, h => by cases h; rfl
  | x :: xs, b, h => by
    have h : (match f x x, eqL f xs xs with
      | some a, some b => some (a && b)
      | _, _ => none) = some b := h
    cases h1 : f x x with
    | none => rw [h1] at h; cases h
    | some a =>
      cases h2 : eqL f xs xs with
      | none => rw [h1, h2] at h; cases h
      | some c =>
        rw [h1, h2] at h
        cases h
        rw [hf x a h1, eqL_same hf h2]
        rfl
theorem deqN_same : ∀ (n : Nat) (x : D) (b : Bool), deqN n x x = some b → b = true
  | 0, _, _, h => by cases h
  | n + 1, x, b, h => by
    cases x with
    | non => cases h; rfl
    | bl a => cases h; simp
    | int a => cases h; simp
    | str a => cases h; simp
    | lst xs =>
      have h : (if xs.length = xs.length then eqL (deqN n) xs xs else some false) = some b := h
      rw [if_pos rfl] at h
      exact eqL_same (deqN_same n) h
    | tup xs => exact eqL_same (deqN_same n) h
    | dk a => cases h
    | dt a => cases h
    | ins a b => cases h
    | fz a => cases h
theorem deq_ok (I : Inv X pins σ H s) (ex : Exl L Hf H) : ∀ (n : Nat) (A : Around) (d e : D) (v w : V) (u u' : Value) (b : Bool), A.units + n < cLine → RepH Hf H v d → RepH Hf H w e → RelV v u → RelV w u' → deqN n d e = some b → SeqAt.EqAt A s u u' b
  | 0, _, _, _, _, _, _, _, _, _, _, _, _, _, h => by cases h
  | n + 1, A, d, e, v, w, u, u', b, hu, r1, r2, q1, q2, h => by
    have hu0 : A.units < cLine := by omega
    have ih := deq_ok I ex n A.in1
    cases r1 with
    | non =>
      cases q1
      cases r2 with
      | non => cases q2; cases h; exact SeqAt.EqAt.same _
      | bl y => cases q2; cases h; exact SeqAt.EqAt.none_bool y
      | int y => obtain ⟨t, rfl⟩ := q2; cases h; exact SeqAt.EqAt.none_int y t
      | str y => obtain ⟨t, rfl⟩ := q2; cases h; exact SeqAt.EqAt.none_str y t
      | lst h2 _ => cases q2; cases h; obtain ⟨its, _, k⟩ := Inv.isList I h2; exact SeqAt.EqAt.none_list k hu0
      | tup h2 _ => cases q2; cases h; obtain ⟨its, _, k⟩ := Inv.isTuple I h2; exact SeqAt.EqAt.none_tuple k hu0
      | _ => cases h
    | bl x =>
      cases q1
      cases r2 with
      | non => cases q2; cases h; exact SeqAt.EqAt.bool_none x
      | bl y => cases q2; cases h; exact SeqAt.EqAt.bool_bool x y
      | int y => obtain ⟨t, rfl⟩ := q2; cases h; exact SeqAt.EqAt.bool_int x y t
      | str y => obtain ⟨t, rfl⟩ := q2; cases h; exact SeqAt.EqAt.bool_str x y t
      | lst h2 _ => cases q2; cases h; obtain ⟨its, _, k⟩ := Inv.isList I h2; exact SeqAt.EqAt.bool_list x k hu0
      | tup h2 _ => cases q2; cases h; obtain ⟨its, _, k⟩ := Inv.isTuple I h2; exact SeqAt.EqAt.bool_tuple x k hu0
      | _ => cases h
    | int x =>
      obtain ⟨t0, rfl⟩ := q1
      cases r2 with
      | non => cases q2; cases h; exact SeqAt.EqAt.int_none x t0
      | bl y => cases q2; cases h; exact SeqAt.EqAt.int_bool x t0 y
      | int y => obtain ⟨t, rfl⟩ := q2; cases h; exact SeqAt.EqAt.int_int x t0 y t
      | str y => obtain ⟨t, rfl⟩ := q2; cases h; exact SeqAt.EqAt.int_str x t0 y t
      | lst h2 _ => cases q2; cases h; obtain ⟨its, _, k⟩ := Inv.isList I h2; exact SeqAt.EqAt.int_list x t0 k hu0
      | tup h2 _ => cases q2; cases h; obtain ⟨its, _, k⟩ := Inv.isTuple I h2; exact SeqAt.EqAt.int_tuple x t0 k hu0
      | _ => cases h
    | str x =>
      obtain ⟨t0, rfl⟩ := q1
      cases r2 with
      | non => cases q2; cases h; exact SeqAt.EqAt.str_none x t0
      | bl y => cases q2; cases h; exact SeqAt.EqAt.str_bool x t0 y
      | int y => obtain ⟨t, rfl⟩ := q2; cases h; exact SeqAt.EqAt.str_int x t0 y t
      | str y => obtain ⟨t, rfl⟩ := q2; cases h; exact SeqAt.EqAt.str_str x t0 y t
      | lst h2 _ => cases q2; cases h; obtain ⟨its, _, k⟩ := Inv.isList I h2; exact SeqAt.EqAt.str_list x t0 k hu0
      | tup h2 _ => cases q2; cases h; obtain ⟨its, _, k⟩ := Inv.isTuple I h2; exact SeqAt.EqAt.str_tuple x t0 k hu0
      | _ => cases h
    | @lst a vs xs h1 rx =>
      cases q1
      obtain ⟨its, hv, k1⟩ := Inv.isList I h1
      cases r2 with
      | non => cases q2; cases h; exact SeqAt.EqAt.list_none k1 hu0
      | bl y => cases q2; cases h; exact SeqAt.EqAt.list_bool y k1 hu0
      | int y => obtain ⟨t, rfl⟩ := q2; cases h; exact SeqAt.EqAt.list_int y t k1 hu0
      | str y => obtain ⟨t, rfl⟩ := q2; cases h; exact SeqAt.EqAt.list_str y t k1 hu0
      | @lst a' ws ys h2 ry =>
        cases q2
        obtain ⟨its', hw, k2⟩ := Inv.isList I h2
        have h : (if xs.length = ys.length then eqL (deqN n) xs ys else some false) = some b := h
        by_cases ea : a = a'
        · subst ea
          rw [h1] at h2
          cases h2
          have exy := Reps.inj rx ry
          subst exy
          rw [if_pos rfl] at h
          rw [eqL_same (deqN_same n) h]
          exact SeqAt.EqAt.same _
        · have z1 : its.toArray.size = xs.length := by rw [← rx.length, hv.length]; simp
          have z2 : its'.toArray.size = ys.length := by rw [← ry.length, hw.length]; simp
          by_cases el : xs.length = ys.length
          · rw [if_pos el] at h
            obtain ⟨e, he, hb⟩ := eqL_of h
            have k := SeqAt.RcAt.lists k1 k2 (by rw [z1, z2]; exact el) hu0 (eqAll_items I ex (fun d e v w u u' b => ih d e v w u u' b (by show A.units + 1 + n < cLine; omega)) rx ry hv hw he)
            refine SeqAt.EqAt.of_refs ea ?_
            rw [z1] at k
            rw [← el, Nat.min_self] at hb
            rw [← hb]
            simpa using k
          · rw [if_neg el] at h
            cases h
            exact SeqAt.EqAt.of_refs ea (SeqAt.RcAt.lists_lengths k1 k2 (by rw [z1, z2]; simpa using el) hu0)
      | tup h2 _ => cases q2; cases h; obtain ⟨its', _, k⟩ := Inv.isTuple I h2; exact SeqAt.EqAt.list_tuple k1 k hu0
      | _ => cases h
    | @tup a vs xs h1 rx =>
      cases q1
      obtain ⟨its, hv, k1⟩ := Inv.isTuple I h1
      cases r2 with
      | non => cases q2; cases h; exact SeqAt.EqAt.tuple_none k1 hu0
      | bl y => cases q2; cases h; exact SeqAt.EqAt.tuple_bool y k1 hu0
      | int y => obtain ⟨t, rfl⟩ := q2; cases h; exact SeqAt.EqAt.tuple_int y t k1 hu0
      | str y => obtain ⟨t, rfl⟩ := q2; cases h; exact SeqAt.EqAt.tuple_str y t k1 hu0
      | lst h2 _ => cases q2; cases h; obtain ⟨its', _, k⟩ := Inv.isList I h2; exact SeqAt.EqAt.tuple_list k1 k hu0
      | @tup a' ws ys h2 ry =>
        cases q2
        obtain ⟨its', hw, k2⟩ := Inv.isTuple I h2
        have h : eqL (deqN n) xs ys = some b := h
        by_cases ea : a = a'
        · subst ea
          rw [h1] at h2
          cases h2
          have exy := Reps.inj rx ry
          subst exy
          rw [eqL_same (deqN_same n) h]
          exact SeqAt.EqAt.same _
        · have z1 : its.toArray.size = xs.length := by rw [← rx.length, hv.length]; simp
          have z2 : its'.toArray.size = ys.length := by rw [← ry.length, hw.length]; simp
          obtain ⟨e, he, hb⟩ := eqL_of h
          have k := SeqAt.RcAt.tuples k1 k2 hu0 (eqAll_items I ex (fun d e v w u u' b => ih d e v w u u' b (by show A.units + 1 + n < cLine; omega)) rx ry hv hw he)
          refine SeqAt.EqAt.of_refs ea ?_
          rw [z1, z2] at k
          rw [← hb]
          exact k
      | _ => cases h
    | _ => cases h
end
end DL


/-! DL i: == and != of data, membership. -/
namespace DL
open PySem PySem.Spec PyProof.Rows L2
section
variable {X : Cx} {pins : List (Addr × Obj)} {σ : L2.St} {H Hf : Hp} {s : Shared} {L : List Addr}
theorem rc_ok (I : Inv X pins σ H s) (ex : Exl L Hf H) {n : Nat} {A : Around} {d e : D} {v w : V} {u u' : Value} {b : Bool} (hu : A.units + (n + 1) < cLine) (r1 : RepH Hf H v d) (r2 : RepH Hf H w e) (q1 : RelV v u) (q2 : RelV w u') (h : deqN (n + 1) d e = some b) : SeqAt.RcAt A s u u' (b) := by
  have hu0 : A.units < cLine := by omega
  have ih := deq_ok I ex n A.in1
  cases r1 with
  | non =>
    cases q1
    cases r2 with
    | non => cases q2; cases h; exact SeqAt.RcAt.none_none
    | bl y => cases q2; cases h; exact SeqAt.RcAt.none_bool y
    | int y => obtain ⟨t, rfl⟩ := q2; cases h; exact SeqAt.RcAt.none_int y t
    | str y => obtain ⟨t, rfl⟩ := q2; cases h; exact SeqAt.RcAt.none_str y t
    | @lst a' ws ys h2 ry => cases q2; cases h; obtain ⟨its, _, k⟩ := Inv.isList I h2; exact SeqAt.RcAt.none_list k hu0
    | @tup a' ws ys h2 ry => cases q2; cases h; obtain ⟨its, _, k⟩ := Inv.isTuple I h2; exact SeqAt.RcAt.none_tuple k hu0
    | _ => cases h
  | bl x =>
    cases q1
    cases r2 with
    | non => cases q2; cases h; exact SeqAt.RcAt.bool_none x
    | bl y => cases q2; cases h; exact SeqAt.RcAt.bool_bool x y
    | int y => obtain ⟨t, rfl⟩ := q2; cases h; exact SeqAt.RcAt.bool_int x y t
    | str y => obtain ⟨t, rfl⟩ := q2; cases h; exact SeqAt.RcAt.bool_str x y t
    | @lst a' ws ys h2 ry => cases q2; cases h; obtain ⟨its, _, k⟩ := Inv.isList I h2; exact SeqAt.RcAt.bool_list x k hu0
    | @tup a' ws ys h2 ry => cases q2; cases h; obtain ⟨its, _, k⟩ := Inv.isTuple I h2; exact SeqAt.RcAt.bool_tuple x k hu0
    | _ => cases h
  | int x =>
    obtain ⟨t0, rfl⟩ := q1
    cases r2 with
    | non => cases q2; cases h; exact SeqAt.RcAt.int_none x t0
    | bl y => cases q2; cases h; exact SeqAt.RcAt.int_bool x t0 y
    | int y => obtain ⟨t, rfl⟩ := q2; cases h; exact SeqAt.RcAt.int_int x t0 y t
    | str y => obtain ⟨t, rfl⟩ := q2; cases h; exact SeqAt.RcAt.int_str x t0 y t
    | @lst a' ws ys h2 ry => cases q2; cases h; obtain ⟨its, _, k⟩ := Inv.isList I h2; exact SeqAt.RcAt.int_list x t0 k hu0
    | @tup a' ws ys h2 ry => cases q2; cases h; obtain ⟨its, _, k⟩ := Inv.isTuple I h2; exact SeqAt.RcAt.int_tuple x t0 k hu0
    | _ => cases h
  | str x =>
    obtain ⟨t0, rfl⟩ := q1
    cases r2 with
    | non => cases q2; cases h; exact SeqAt.RcAt.str_none x t0
    | bl y => cases q2; cases h; exact SeqAt.RcAt.str_bool x t0 y
    | int y => obtain ⟨t, rfl⟩ := q2; cases h; exact SeqAt.RcAt.str_int x t0 y t
    | str y => obtain ⟨t, rfl⟩ := q2; cases h; exact SeqAt.RcAt.str_str x t0 y t
    | @lst a' ws ys h2 ry => cases q2; cases h; obtain ⟨its, _, k⟩ := Inv.isList I h2; exact SeqAt.RcAt.str_list x t0 k hu0
    | @tup a' ws ys h2 ry => cases q2; cases h; obtain ⟨its, _, k⟩ := Inv.isTuple I h2; exact SeqAt.RcAt.str_tuple x t0 k hu0
    | _ => cases h
  | @lst a vs xs h1 rx =>
    cases q1
    obtain ⟨its, hv, k1⟩ := Inv.isList I h1
    cases r2 with
    | non => cases q2; cases h; exact SeqAt.RcAt.list_none k1 hu0
    | bl y => cases q2; cases h; exact SeqAt.RcAt.list_bool y k1 hu0
    | int y => obtain ⟨t, rfl⟩ := q2; cases h; exact SeqAt.RcAt.list_int y t k1 hu0
    | str y => obtain ⟨t, rfl⟩ := q2; cases h; exact SeqAt.RcAt.list_str y t k1 hu0
    | @lst a' ws ys h2 ry =>
      cases q2
      obtain ⟨its', hw, k2⟩ := Inv.isList I h2
      have h : (if xs.length = ys.length then eqL (deqN n) xs ys else some false) = some b := h
      have z1 : its.toArray.size = xs.length := by rw [← rx.length, hv.length]; simp
      have z2 : its'.toArray.size = ys.length := by rw [← ry.length, hw.length]; simp
      by_cases el : xs.length = ys.length
      · rw [if_pos el] at h
        obtain ⟨e, he, hb⟩ := eqL_of h
        have k := SeqAt.RcAt.lists k1 k2 (by rw [z1, z2]; exact el) hu0 (eqAll_items I ex (fun d e v w u u' b => ih d e v w u u' b (by show A.units + 1 + n < cLine; omega)) rx ry hv hw he)
        rw [z1] at k
        rw [← el, Nat.min_self] at hb
        rw [← hb]
        simpa using k
      · rw [if_neg el] at h
        cases h
        exact SeqAt.RcAt.lists_lengths k1 k2 (by rw [z1, z2]; simpa using el) hu0
    | @tup a' ws ys h2 ry => cases q2; cases h; obtain ⟨its', _, k⟩ := Inv.isTuple I h2; exact SeqAt.RcAt.list_tuple k1 k hu0
    | _ => cases h
  | @tup a vs xs h1 rx =>
    cases q1
    obtain ⟨its, hv, k1⟩ := Inv.isTuple I h1
    cases r2 with
    | non => cases q2; cases h; exact SeqAt.RcAt.tuple_none k1 hu0
    | bl y => cases q2; cases h; exact SeqAt.RcAt.tuple_bool y k1 hu0
    | int y => obtain ⟨t, rfl⟩ := q2; cases h; exact SeqAt.RcAt.tuple_int y t k1 hu0
    | str y => obtain ⟨t, rfl⟩ := q2; cases h; exact SeqAt.RcAt.tuple_str y t k1 hu0
    | @lst a' ws ys h2 ry => cases q2; cases h; obtain ⟨its', _, k⟩ := Inv.isList I h2; exact SeqAt.RcAt.tuple_list k1 k hu0
    | @tup a' ws ys h2 ry =>
      cases q2
      obtain ⟨its', hw, k2⟩ := Inv.isTuple I h2
      have h : eqL (deqN n) xs ys = some b := h
      have z1 : its.toArray.size = xs.length := by rw [← rx.length, hv.length]; simp
      have z2 : its'.toArray.size = ys.length := by rw [← ry.length, hw.length]; simp
      obtain ⟨e, he, hb⟩ := eqL_of h
      have k := SeqAt.RcAt.tuples k1 k2 hu0 (eqAll_items I ex (fun d e v w u u' b => ih d e v w u u' b (by show A.units + 1 + n < cLine; omega)) rx ry hv hw he)
      rw [z1, z2] at k
      rw [← hb]
      exact k
    | _ => cases h
  | _ => cases h
theorem rcne_ok (I : Inv X pins σ H s) (ex : Exl L Hf H) {n : Nat} {A : Around} {d e : D} {v w : V} {u u' : Value} {b : Bool} (hu : A.units + (n + 1) < cLine) (r1 : RepH Hf H v d) (r2 : RepH Hf H w e) (q1 : RelV v u) (q2 : RelV w u') (h : deqN (n + 1) d e = some b) : SeqAt.RcNeAt A s u u' (!b) := by
  have hu0 : A.units < cLine := by omega
  have ih := deq_ok I ex n A.in1
  cases r1 with
  | non =>
    cases q1
    cases r2 with
    | non => cases q2; cases h; exact SeqAt.RcNeAt.none_none
    | bl y => cases q2; cases h; exact SeqAt.RcNeAt.none_bool y
    | int y => obtain ⟨t, rfl⟩ := q2; cases h; exact SeqAt.RcNeAt.none_int y t
    | str y => obtain ⟨t, rfl⟩ := q2; cases h; exact SeqAt.RcNeAt.none_str y t
    | @lst a' ws ys h2 ry => cases q2; cases h; obtain ⟨its, _, k⟩ := Inv.isList I h2; exact SeqAt.RcNeAt.none_list k hu0
    | @tup a' ws ys h2 ry => cases q2; cases h; obtain ⟨its, _, k⟩ := Inv.isTuple I h2; exact SeqAt.RcNeAt.none_tuple k hu0
    | _ => cases h
  | bl x =>
    cases q1
    cases r2 with
    | non => cases q2; cases h; exact SeqAt.RcNeAt.bool_none x
    | bl y => cases q2; cases h; exact SeqAt.RcNeAt.bool_bool x y
    | int y => obtain ⟨t, rfl⟩ := q2; cases h; exact SeqAt.RcNeAt.bool_int x y t
    | str y => obtain ⟨t, rfl⟩ := q2; cases h; exact SeqAt.RcNeAt.bool_str x y t
    | @lst a' ws ys h2 ry => cases q2; cases h; obtain ⟨its, _, k⟩ := Inv.isList I h2; exact SeqAt.RcNeAt.bool_list x k hu0
    | @tup a' ws ys h2 ry => cases q2; cases h; obtain ⟨its, _, k⟩ := Inv.isTuple I h2; exact SeqAt.RcNeAt.bool_tuple x k hu0
    | _ => cases h
  | int x =>
    obtain ⟨t0, rfl⟩ := q1
    cases r2 with
    | non => cases q2; cases h; exact SeqAt.RcNeAt.int_none x t0
    | bl y => cases q2; cases h; exact SeqAt.RcNeAt.int_bool x t0 y
    | int y => obtain ⟨t, rfl⟩ := q2; cases h; exact SeqAt.RcNeAt.int_int x t0 y t
    | str y => obtain ⟨t, rfl⟩ := q2; cases h; exact SeqAt.RcNeAt.int_str x t0 y t
    | @lst a' ws ys h2 ry => cases q2; cases h; obtain ⟨its, _, k⟩ := Inv.isList I h2; exact SeqAt.RcNeAt.int_list x t0 k hu0
    | @tup a' ws ys h2 ry => cases q2; cases h; obtain ⟨its, _, k⟩ := Inv.isTuple I h2; exact SeqAt.RcNeAt.int_tuple x t0 k hu0
    | _ => cases h
  | str x =>
    obtain ⟨t0, rfl⟩ := q1
    cases r2 with
    | non => cases q2; cases h; exact SeqAt.RcNeAt.str_none x t0
    | bl y => cases q2; cases h; exact SeqAt.RcNeAt.str_bool x t0 y
    | int y => obtain ⟨t, rfl⟩ := q2; cases h; exact SeqAt.RcNeAt.str_int x t0 y t
    | str y => obtain ⟨t, rfl⟩ := q2; cases h; exact SeqAt.RcNeAt.str_str x t0 y t
    | @lst a' ws ys h2 ry => cases q2; cases h; obtain ⟨its, _, k⟩ := Inv.isList I h2; exact SeqAt.RcNeAt.str_list x t0 k hu0
    | @tup a' ws ys h2 ry => cases q2; cases h; obtain ⟨its, _, k⟩ := Inv.isTuple I h2; exact SeqAt.RcNeAt.str_tuple x t0 k hu0
    | _ => cases h
  | @lst a vs xs h1 rx =>
    cases q1
    obtain ⟨its, hv, k1⟩ := Inv.isList I h1
    cases r2 with
    | non => cases q2; cases h; exact SeqAt.RcNeAt.list_none k1 hu0
    | bl y => cases q2; cases h; exact SeqAt.RcNeAt.list_bool y k1 hu0
    | int y => obtain ⟨t, rfl⟩ := q2; cases h; exact SeqAt.RcNeAt.list_int y t k1 hu0
    | str y => obtain ⟨t, rfl⟩ := q2; cases h; exact SeqAt.RcNeAt.list_str y t k1 hu0
    | @lst a' ws ys h2 ry =>
      cases q2
      obtain ⟨its', hw, k2⟩ := Inv.isList I h2
      have h : (if xs.length = ys.length then eqL (deqN n) xs ys else some false) = some b := h
      have z1 : its.toArray.size = xs.length := by rw [← rx.length, hv.length]; simp
      have z2 : its'.toArray.size = ys.length := by rw [← ry.length, hw.length]; simp
      by_cases el : xs.length = ys.length
      · rw [if_pos el] at h
        obtain ⟨e, he, hb⟩ := eqL_of h
        have k := SeqAt.RcNeAt.lists k1 k2 (by rw [z1, z2]; exact el) hu0 (eqAll_items I ex (fun d e v w u u' b => ih d e v w u u' b (by show A.units + 1 + n < cLine; omega)) rx ry hv hw he)
        rw [z1] at k
        rw [← el, Nat.min_self] at hb
        rw [← hb]
        simpa using k
      · rw [if_neg el] at h
        cases h
        exact SeqAt.RcNeAt.lists_lengths k1 k2 (by rw [z1, z2]; simpa using el) hu0
    | @tup a' ws ys h2 ry => cases q2; cases h; obtain ⟨its', _, k⟩ := Inv.isTuple I h2; exact SeqAt.RcNeAt.list_tuple k1 k hu0
    | _ => cases h
  | @tup a vs xs h1 rx =>
    cases q1
    obtain ⟨its, hv, k1⟩ := Inv.isTuple I h1
    cases r2 with
    | non => cases q2; cases h; exact SeqAt.RcNeAt.tuple_none k1 hu0
    | bl y => cases q2; cases h; exact SeqAt.RcNeAt.tuple_bool y k1 hu0
    | int y => obtain ⟨t, rfl⟩ := q2; cases h; exact SeqAt.RcNeAt.tuple_int y t k1 hu0
    | str y => obtain ⟨t, rfl⟩ := q2; cases h; exact SeqAt.RcNeAt.tuple_str y t k1 hu0
    | @lst a' ws ys h2 ry => cases q2; cases h; obtain ⟨its', _, k⟩ := Inv.isList I h2; exact SeqAt.RcNeAt.tuple_list k1 k hu0
    | @tup a' ws ys h2 ry =>
      cases q2
      obtain ⟨its', hw, k2⟩ := Inv.isTuple I h2
      have h : eqL (deqN n) xs ys = some b := h
      have z1 : its.toArray.size = xs.length := by rw [← rx.length, hv.length]; simp
      have z2 : its'.toArray.size = ys.length := by rw [← ry.length, hw.length]; simp
      obtain ⟨e, he, hb⟩ := eqL_of h
      have k := SeqAt.RcNeAt.tuples k1 k2 hu0 (eqAll_items I ex (fun d e v w u u' b => ih d e v w u u' b (by show A.units + 1 + n < cLine; omega)) rx ry hv hw he)
      rw [z1, z2] at k
      rw [← hb]
      exact k
    | _ => cases h
  | _ => cases h
end
variable {X : Cx}
/-- data by values: what stands in H at the two -/
def rD2 (f : D → D → Option D) : R2 := fun x y H Q => ∃ (L : List Addr) (Hf : Hp) (dx dy z : D), Exl L Hf H ∧ RepH Hf H x dx ∧ RepH Hf H y dy ∧ f dx dy = some z ∧ ∀ v, (∀ Hf, Rep Hf v z) → Q v H
def rDeq : R2 := fun x y H Q => ∃ (L : List Addr) (Hf : Hp) (dx dy : D) (b : Bool), Exl L Hf H ∧ RepH Hf H x dx ∧ RepH Hf H y dy ∧ deqN 40 dx dy = some b ∧ Q (.bl b) H
def rDne : R2 := fun x y H Q => ∃ (L : List Addr) (Hf : Hp) (dx dy : D) (b : Bool), Exl L Hf H ∧ RepH Hf H x dx ∧ RepH Hf H y dy ∧ deqN 40 dx dy = some b ∧ Q (.bl (!b)) H
theorem op_deq (hu : X.A.units + 64 < cLine) : OpR X (compareOp .Eq) rDeq := by
  intro pins s σ H x y v u Q I rx ry h
  obtain ⟨L, Hf, dx, dy, b, ex, r1, r2, e, q⟩ := h
  exact rc_ok (n := 39) I ex (by omega) r1 r2 rx ry e X.prog X.w _ _ ⟨.bl b, H, I, rfl, q⟩
theorem op_dne (hu : X.A.units + 64 < cLine) : OpR X (compareOp .NotEq) rDne := by
  intro pins s σ H x y v u Q I rx ry h
  obtain ⟨L, Hf, dx, dy, b, ex, r1, r2, e, q⟩ := h
  exact rcne_ok (n := 39) I ex (by omega) r1 r2 rx ry e X.prog X.w _ _ ⟨.bl !b, H, I, rfl, q⟩
def oEq : Op2 := fun x y P => opt (deqN 40 x y) fun b => P (.d (.bl b))
def oNe : Op2 := fun x y P => opt (deqN 40 x y) fun b => P (.d (.bl !b))
theorem ok_eq : OpOk rDeq oEq := fun L Hf H v1 v2 x y P Q ex r1 r2 h k => by
  obtain ⟨b, e, h⟩ := opt_of h
  exact ⟨L, Hf, x, y, b, ex, r1, r2, e, k _ _ _ _ h (.same (.bl b))⟩
theorem ok_ne : OpOk rDne oNe := fun L Hf H v1 v2 x y P Q ex r1 r2 h k => by
  obtain ⟨b, e, h⟩ := opt_of h
  exact ⟨L, Hf, x, y, b, ex, r1, r2, e, k _ _ _ _ h (.same (.bl !b))⟩
/-! ### in a list or tuple -/
def inL (n : Nat) (x : D) : List D → Option Bool
  | [] => some false
  | y :: ys => match deqN n y x, inL n x ys with
    | some a, some b => some (a || b)
    | _, _ => none
/-- what is walked by in: the items -/
def itemsD : D → Option (List D)
  | .lst xs => some xs
  | .tup xs => some xs
  | .fz ns => some (ns.map D.int)
  | _ => none
theorem inL_mem {n : Nat} {x : D} : ∀ {ys : List D} {b : Bool}, inL n x ys = some b → ∃ e : Nat → Bool, (∀ (j : Nat) (y : D), ys[j]? = some y → deqN n y x = some (e j)) ∧ (List.range ys.length).any e = b
  | [], b, h => by
    cases h
    exact ⟨fun _ => true, fun j y h => by simp at h, rfl⟩
  | y :: ys, b, h => by
    have h : (match deqN n y x, inL n x ys with
      | some a, some b => some (a || b)
      | _, _ => none) = some b := h
    cases h1 : deqN n y x with
    | none => rw [h1] at h; cases h
    | some a =>
      cases h2 : inL n x ys with
      | none => rw [h1, h2] at h; cases h
      | some c =>
        rw [h1, h2] at h
        cases h
        obtain ⟨e, he, hc⟩ := inL_mem h2
        refine ⟨fun j => match j with
          | 0 => a
          | j + 1 => e j, fun j y' hy => ?_, ?_⟩
        · cases j with
          | zero =>
            simp at hy
            rw [← hy]
            exact h1
          | succ j => exact he j y' (by simpa using hy)
        · rw [List.length_cons, List.range_succ_eq_map, List.any_cons, List.any_map, ← hc]
          rfl
end DL


/-! DL j: operators. -/
namespace DL
open PySem PySem.Spec PyProof.Rows L2
variable {X : Cx} {W : WX}

/-! ### numbers -/
def rAddX : R2 := fun x y H Q => rI0 (fun i j => .int (i + j)) x y H Q ∨ (∃ i j, x = .str i ∧ y = .str j ∧ i.length + j.length ≤ sizeLine ∧ Q (.str (i ++ j)) H) ∨ rCat x y H Q
theorem op_addX : OpR X (binaryOp .Add) rAddX := OpR.or op_add (OpR.or op_add_str op_cat)
def oAdd : Op2 := fun x y P => match x, y with
  | .int i, .int j => P (.d (.int (i + j)))
  | .str i, .str j => i.length + j.length ≤ sizeLine ∧ P (.d (.str (i ++ j)))
  | .lst xs, .lst ys => xs.length + ys.length ≤ sizeLine ∧ P (.n (.lst (xs ++ ys)))
  | _, _ => False
theorem ok_add : OpOk rAddX oAdd := fun L Hf H v1 v2 x y P Q ex r1 r2 h k => by
  cases r1 with
  | int i =>
    cases r2 with
    | int j => exact .inl ⟨i, j, rfl, rfl, k _ _ _ _ h (.same (.int _))⟩
    | _ => exact h.elim
  | str i =>
    cases r2 with
    | str j => exact .inr (.inl ⟨i, j, rfl, rfl, h.1, k _ _ _ _ h.2 (.same (.str _))⟩)
    | _ => exact h.elim
  | @lst a vs xs h1 rx =>
    cases r2 with
    | @lst b ws ys h2 ry => exact .inr (.inr ⟨a, b, vs, ws, rfl, rfl, h1, h2, by rw [rx.length, ry.length]; exact h.1, fun p hp => k _ _ _ _ h.2 (.new hp ⟨_, rfl, rx.append ry⟩)⟩)
    | _ => exact h.elim
  | _ => exact h.elim
def oI (C : Int → Int → Prop) (g : Int → Int → D) : Op2 := fun x y P => match x, y with
  | .int i, .int j => C i j ∧ P (.d (g i j))
  | _, _ => False
theorem ok_I {C : Int → Int → Prop} {g : Int → Int → D} {gv : Int → Int → V} (hg : ∀ i j Hf, Rep Hf (gv i j) (g i j)) : OpOk (rI C gv) (oI C g) := fun L Hf H v1 v2 x y P Q ex r1 r2 h k => by
  cases r1 with
  | int i =>
    cases r2 with
    | int j => exact ⟨i, j, rfl, rfl, h.1, k _ _ _ _ h.2 (.same (hg i j Hf))⟩
    | _ => exact h.elim
  | _ => exact h.elim
def oI0 (g : Int → Int → D) : Op2 := fun x y P => match x, y with
  | .int i, .int j => P (.d (g i j))
  | _, _ => False
theorem ok_I0 {g : Int → Int → D} {gv : Int → Int → V} (hg : ∀ i j Hf, Rep Hf (gv i j) (g i j)) : OpOk (rI0 gv) (oI0 g) := fun L Hf H v1 v2 x y P Q ex r1 r2 h k => by
  cases r1 with
  | int i =>
    cases r2 with
    | int j => exact ⟨i, j, rfl, rfl, k _ _ _ _ h (.same (hg i j Hf))⟩
    | _ => exact h.elim
  | _ => exact h.elim
abbrev oSub : Op2 := oI0 fun i j => .int (i - j)
abbrev oFdiv : Op2 := oI CDivW fun i j => .int (i / j)
abbrev oMod : Op2 := oI (fun _ j => 0 < j) fun i j => .int (i % j)
theorem ok_sub : OpOk (rI0 fun i j => V.int (i - j)) oSub := ok_I0 fun _ _ _ => .int _
theorem ok_fdiv : OpOk (rI CDivW fun i j => V.int (i / j)) oFdiv := ok_I fun _ _ _ => .int _
theorem ok_mod : OpOk (rI (fun _ j => 0 < j) fun i j => V.int (i % j)) oMod := ok_I fun _ _ _ => .int _
/-- a power of great ints -/
def CPowW (i j : Int) : Prop := 0 ≤ j ∧ ((i.natAbs.log2 + 1 : Nat) : Int) * j ≤ 100000000
theorem op_powW : OpR X (binaryOp .Pow) (rI CPowW fun i j => .int (i ^ j.toNat)) := opI fun i j _ _ _ _ _ hc q => by
  obtain ⟨h0, h1⟩ := hc
  refine pow_int h0 ?_ q
  have b : Builtin.Int.intBits i ≤ i.natAbs.log2 + 1 := by
    unfold Builtin.Int.intBits
    split <;> omega
  have this : ((Builtin.Int.intBits i : Nat) : Int) * j ≤ ((i.natAbs.log2 + 1 : Nat) : Int) * j := Int.mul_le_mul_of_nonneg_right (by omega) h0
  have e2 : (2 : Int) ^ 27 = 134217728 := by decide
  omega
abbrev oPow : Op2 := oI CPowW fun i j => .int (i ^ j.toNat)
theorem ok_pow : OpOk (rI CPowW fun i j => V.int (i ^ j.toNat)) oPow := ok_I fun _ _ _ => .int _
def rMulX : R2 := fun x y H Q => rI CMulW (fun i j => .int (i * j)) x y H Q ∨ rRep x y H Q
theorem op_mulX : OpR X (binaryOp .Mult) rMulX := OpR.or op_mulW op_rep
def oMul : Op2 := fun x y P => match x, y with
  | .int i, .int j => CMulW i j ∧ P (.d (.int (i * j)))
  | .lst xs, .int k => 0 ≤ k ∧ k < 100000 ∧ xs.length * k.toNat ≤ sizeLine ∧ P (.n (.lst (List.replicate k.toNat xs).flatten))
  | _, _ => False
theorem Reps.rep {Hf : Hp} {vs : List V} {xs : List D} (h : Reps Hf vs xs) : ∀ k : Nat, Reps Hf (List.replicate k vs).flatten (List.replicate k xs).flatten
  | 0 => .nil
  | k + 1 => by
    rw [List.replicate_succ, List.replicate_succ, List.flatten_cons, List.flatten_cons]
    exact h.append (Reps.rep h k)
theorem ok_mul : OpOk rMulX oMul := fun L Hf H v1 v2 x y P Q ex r1 r2 h k => by
  cases r1 with
  | int i =>
    cases r2 with
    | int j => exact .inl ⟨i, j, rfl, rfl, h.1, k _ _ _ _ h.2 (.same (.int _))⟩
    | _ => exact h.elim
  | @lst a vs xs h1 rx =>
    cases r2 with
    | int j =>
      obtain ⟨b1, b2, b3, b4⟩ := h
      exact .inr ⟨a, j, vs, rfl, rfl, h1, by omega, by omega, by rw [rx.length]; exact b3, fun p hp => k _ _ _ _ b4 (.new hp ⟨_, rfl, rx.rep _⟩)⟩
    | _ => exact h.elim
  | _ => exact h.elim
def o1I (g : Int → D) : Op1 := fun x P => match x with
  | .int i => P (.d (g i))
  | _ => False
theorem ok_1I {g : Int → D} {gv : Int → V} (hg : ∀ i Hf, Rep Hf (gv i) (g i)) : Op1Ok (rU gv) (o1I g) := fun L Hf H v x P Q ex r h k => by
  cases r with
  | int i => exact ⟨i, rfl, k _ _ _ _ h (.same (hg i Hf))⟩
  | _ => exact h.elim
abbrev oNeg : Op1 := o1I fun i => .int (-i)
theorem ok_neg : Op1Ok (rU fun i => V.int (-i)) oNeg := ok_1I fun _ _ => .int _
abbrev oLt : Op2 := oI0 fun i j => .bl (decide (i < j))
abbrev oLe : Op2 := oI0 fun i j => .bl (decide (i ≤ j))
abbrev oGt : Op2 := oI0 fun i j => .bl (decide (j < i))
abbrev oGe : Op2 := oI0 fun i j => .bl (decide (j ≤ i))
theorem ok_lt : OpOk (rI0 fun i j => V.bl (decide (i < j))) oLt := ok_I0 fun _ _ _ => .bl _
theorem ok_le : OpOk (rI0 fun i j => V.bl (decide (i ≤ j))) oLe := ok_I0 fun _ _ _ => .bl _
theorem ok_gt : OpOk (rI0 fun i j => V.bl (decide (j < i))) oGt := ok_I0 fun _ _ _ => .bl _
theorem ok_ge : OpOk (rI0 fun i j => V.bl (decide (j ≤ i))) oGe := ok_I0 fun _ _ _ => .bl _

/-! ### None -/
abbrev rIsN' : R2 := fun x y H Q => y = .non ∧ Q (.bl (decide (x = .non))) H
abbrev rNotN' : R2 := fun x y H Q => y = .non ∧ Q (.bl (!decide (x = .non))) H
def isNon : D → Bool
  | .non => true
  | _ => false
def oIsN : Op2 := fun x y P => match y with
  | .non => P (.d (.bl (isNon x)))
  | _ => False
def oNotN : Op2 := fun x y P => match y with
  | .non => P (.d (.bl !isNon x))
  | _ => False
theorem non_of {Hf H : Hp} {v : V} {x : D} (r : RepH Hf H v x) : decide (v = .non) = isNon x := by
  cases r <;> simp [isNon]
theorem ok_isN : OpOk rIsN' oIsN := fun L Hf H v1 v2 x y P Q ex r1 r2 h k => by
  cases r2 with
  | non => exact ⟨rfl, by rw [non_of r1]; exact k _ _ _ _ h (.same (.bl _))⟩
  | _ => exact h.elim
theorem ok_notN : OpOk rNotN' oNotN := fun L Hf H v1 v2 x y P Q ex r1 r2 h k => by
  cases r2 with
  | non => exact ⟨rfl, by rw [non_of r1]; exact k _ _ _ _ h (.same (.bl _))⟩
  | _ => exact h.elim

/-! ### an item -/
def rIxX (K : PySem.W.Frag) : R2 := fun x y H Q => rIx K x y H Q ∨ ∃ a v, x = .ref a ∧ DGet H a y (some v) ∧ Q v H
theorem ix_dict (hu : X.A.units + 1 < cLine) : IxR X (fun x y H Q => ∃ a v, x = .ref a ∧ DGet H a y (some v) ∧ Q v H) := by
  intro value slice pins s σ H x y v u Q I rx ry h hs
  obtain ⟨a, w, rfl, g, q⟩ := h
  cases rx
  exact tail_any (L2.dict_typeIs I g) PySem.F.slot_dict_getitem.lookup (L2.d_getItem hu I g ry fun w' s' I' r => ⟨w, H, I', r, q⟩) hs
theorem ix_any (hu : X.A.units + 1 < cLine) : IxR X (rIxX X.K) := IxR.or ix_seq (ix_dict hu)
def keyD : D → Option Key
  | .int i => some (.inl i)
  | .str s => some (.inr s)
  | _ => none
def keysD : List D → Option (List Key)
  | [] => some []
  | x :: xs => match keyD x, keysD xs with
    | some k, some ks => some (k :: ks)
    | _, _ => none
theorem keyD_rep {Hf : Hp} {v : V} {x : D} {k : Key} (r : Rep Hf v x) (h : keyD x = some k) : v = kV k := by
  cases r with
  | int i => cases h; rfl
  | str i => cases h; rfl
  | _ => cases h
theorem keyD_reph {Hf H : Hp} {v : V} {x : D} {k : Key} (r : RepH Hf H v x) (h : keyD x = some k) : v = kV k := by
  cases r with
  | int i => cases h; rfl
  | str i => cases h; rfl
  | _ => cases h
theorem keysD_rep {Hf : Hp} : ∀ {vs : List V} {xs : List D} {ks : List Key}, Reps Hf vs xs → keysD xs = some ks → vs = ks.map kV
  | _, _, _, .nil, e => by
    cases e
    rfl
  | _, _, _, @Reps.cons _ v x vs xs h r, e => by
    have e : (match keyD x, keysD xs with
      | some k, some ks => some (k :: ks)
      | _, _ => none) = some _ := e
    cases e1 : keyD x with
    | none => rw [e1] at e; cases e
    | some k =>
      cases e2 : keysD xs with
      | none => rw [e1, e2] at e; cases e
      | some ks =>
        rw [e1, e2] at e
        cases e
        rw [keyD_rep h e1, keysD_rep r e2]
        rfl
theorem repK_val {Hf : Hp} {k : Key} : ∀ {vs : List (Key × V)} {xs : List (Key × D)}, RepK Hf vs xs → (valV vs k = none ∧ valD xs k = none) ∨ ∃ v x, valV vs k = some v ∧ valD xs k = some x ∧ Rep Hf v x
  | _, _, .nil => .inl ⟨rfl, rfl⟩
  | _, _, @RepK.cons _ k' v x vs xs h r => by
    unfold valV valD
    rw [List.find?_cons, List.find?_cons]
    by_cases e : k' = k
    · rw [decide_eq_true e]
      exact .inr ⟨v, x, rfl, rfl, h⟩
    · rw [decide_eq_false e]
      exact repK_val r
theorem repT_val {Hf : Hp} {k : List Key} : ∀ {vs : List (List Key × V)} {xs : List (List Key × D)}, RepT Hf vs xs → (valV vs k = none ∧ valD xs k = none) ∨ ∃ v x, valV vs k = some v ∧ valD xs k = some x ∧ Rep Hf v x
  | _, _, .nil => .inl ⟨rfl, rfl⟩
  | _, _, @RepT.cons _ k' v x vs xs h r => by
    unfold valV valD
    rw [List.find?_cons, List.find?_cons]
    by_cases e : k' = k
    · rw [decide_eq_true e]
      exact .inr ⟨v, x, rfl, rfl, h⟩
    · rw [decide_eq_false e]
      exact repT_val r
/-- what a dict holds at a key: none, the key is none of its kind -/
def getD (x y : D) : Option (Option D) := match x with
  | .dk kvs => (keyD y).map fun k => valD kvs k
  | .dt kvs => match y with
    | .tup ks => (keysD ks).map fun k => valD kvs k
    | _ => none
  | _ => none
def RepO (Hf : Hp) : Option V → Option D → Prop
  | none, none => True
  | some v, some z => Rep Hf v z
  | _, _ => False
theorem getD_rep {Hf H : Hp} {v1 v2 : V} {x y : D} {o : Option D} (r1 : RepH Hf H v1 x) (r2 : RepH Hf H v2 y) (h : getD x y = some o) : ∃ a ov, v1 = .ref a ∧ IsD H a ∧ DGet H a v2 ov ∧ RepO Hf ov o := by
  cases r1 with
  | @dk a kvs xs h1 rx =>
    obtain ⟨k, hk, rfl⟩ := Option.map_eq_some_iff.mp (show (keyD y).map (fun k => valD xs k) = some o from h)
    rcases repK_val (k := k) rx with ⟨e1, e2⟩ | ⟨v, z, e1, e2, r⟩
    · exact ⟨a, none, rfl, .inl ⟨kvs, h1⟩, .inl ⟨kvs, k, h1, keyD_reph r2 hk, e1.symm⟩, by rw [e2]; trivial⟩
    · exact ⟨a, some v, rfl, .inl ⟨kvs, h1⟩, .inl ⟨kvs, k, h1, keyD_reph r2 hk, e1.symm⟩, by rw [e2]; exact r⟩
  | @dt a kvs xs h1 rx =>
    cases r2 with
    | @tup b ws ys h2 ry =>
      obtain ⟨k, hk, rfl⟩ := Option.map_eq_some_iff.mp (show (keysD ys).map (fun k => valD xs k) = some o from h)
      have ew := keysD_rep ry hk
      subst ew
      rcases repT_val (k := k) rx with ⟨e1, e2⟩ | ⟨v, z, e1, e2, r⟩
      · exact ⟨a, none, rfl, .inr ⟨kvs, h1⟩, .inr ⟨kvs, k, b, h1, rfl, h2, e1.symm⟩, by rw [e2]; trivial⟩
      · exact ⟨a, some v, rfl, .inr ⟨kvs, h1⟩, .inr ⟨kvs, k, b, h1, rfl, h2, e1.symm⟩, by rw [e2]; exact r⟩
    | _ => cases h
  | _ => cases h
/-- x[y] -/
def oIx : Op2 := fun x y P => match x, y with
  | .lst xs, .int i => opt (atI xs i) fun z => P (.d z)
  | .tup xs, .int i => opt (atI xs i) fun z => P (.d z)
  | .fz ns, .int i => opt (atI ns i) fun z => P (.d (.int z))
  | .str z, .int i => z.length ≤ sizeLine ∧ opt (atI z.cps.toList i) fun c => P (.d (.str ⟨#[c]⟩))
  | x, y => opt (getD x y) fun o => opt o fun z => P (.d z)
theorem reps_atI {Hf : Hp} {vs : List V} {xs : List D} {i : Int} {z : D} (r : Reps Hf vs xs) (h : atI xs i = some z) : ∃ v, atI vs i = some v ∧ Rep Hf v z := by
  unfold atI at h ⊢
  rw [r.length]
  cases q : ixN xs.length i with
  | none => rw [q] at h; cases h
  | some j =>
    rw [q] at h
    exact r.get h
theorem ok_ix {K : PySem.W.Frag} : OpOk (rIxX K) oIx := fun L Hf H v1 v2 x y P Q ex r1 r2 h k => by
  have dic : opt (getD x y) (fun o => opt o fun z => P (.d z)) → rIxX K v1 v2 H Q := fun h => by
    obtain ⟨o, e, h⟩ := opt_of h
    obtain ⟨z, e2, h⟩ := opt_of h
    subst e2
    obtain ⟨a, ov, rfl, _, g, m⟩ := getD_rep r1 r2 e
    cases ov with
    | none => exact m.elim
    | some v => exact .inr ⟨a, v, rfl, g, k _ _ _ _ h (.same m)⟩
  cases r1 with
  | @lst a vs xs h1 rx =>
    cases r2 with
    | int i =>
      obtain ⟨z, e, h⟩ := opt_of (show opt (atI xs i) (fun z => P (.d z)) from h)
      obtain ⟨v, e2, r⟩ := reps_atI rx e
      exact .inl (.inl ⟨a, vs, i, v, rfl, rfl, sqL_of h1, e2, k _ _ _ _ h (.same r)⟩)
    | _ => exact dic h
  | @tup a vs xs h1 rx =>
    cases r2 with
    | int i =>
      obtain ⟨z, e, h⟩ := opt_of (show opt (atI xs i) (fun z => P (.d z)) from h)
      obtain ⟨v, e2, r⟩ := reps_atI rx e
      exact .inl (.inr (.inl ⟨a, vs, i, v, rfl, rfl, sqT_of h1, e2, k _ _ _ _ h (.same r)⟩))
    | _ => exact dic h
  | @fz a ns h1 =>
    cases r2 with
    | int i =>
      obtain ⟨z, e, h⟩ := opt_of (show opt (atI ns i) (fun z => P (.d (.int z))) from h)
      have e2 : atI (ns.map V.int) i = some (.int z) := by
        unfold atI at e ⊢
        rw [List.length_map]
        cases q : ixN ns.length i with
        | none => rw [q] at e; cases e
        | some j =>
          rw [q] at e
          show (ns.map V.int)[j]? = _
          have e : ns[j]? = some z := e
          rw [List.getElem?_map, e]
          rfl
      exact .inl (.inl ⟨a, _, i, _, rfl, rfl, .inl h1, e2, k _ _ _ _ h (.same (.int z))⟩)
    | _ => exact dic h
  | str z =>
    cases r2 with
    | int i =>
      obtain ⟨h0, h⟩ := h
      obtain ⟨c, e, h⟩ := opt_of h
      exact .inl (.inr (.inr ⟨z, i, c, rfl, rfl, h0, e, k _ _ _ _ h (.same (.str _))⟩))
    | _ => exact dic h
  | non => exact dic h
  | bl b => exact dic h
  | int i => exact dic h
  | dk h1 rx => exact dic (by cases r2 <;> exact h)
  | dt h1 rx => exact dic (by cases r2 <;> exact h)
  | ins h1 rx => exact dic h
theorem de_ix {a b : Expr} {w1 w2 : WE} {pos : Pos} (hu : X.A.units + 1 < cLine) (ha : DE X W a w1) (hb : DE X W b w2) (hs : PlainIx b := by intro _ _; rfl) : DE X W (.Subscript a b pos) (wBin oIx w1 w2) := ⟨(pe_ix (ix_any hu) ha.pe hb.pe hs).imp fun _ _ _ h => h.bin ok_ix⟩
end DL


/-! DL k: what changes one's own objects. -/
namespace DL
open PySem PySem.Spec PyProof.Rows L2
variable {X : Cx} {W : WX}

def Cell.ty : Cell → String
  | .lst _ => "list"
  | .dk _ => "dict"
  | .dt _ => "dict"
theorem cell_ty {K : PySem.W.Frag} {Hf H : Hp} {a : Addr} {c : Cell} (h : CellAt Hf H a c) : tyV K c.ty (.ref a) H := by
  obtain ⟨u, h1, h2⟩ := h
  cases c with
  | lst xs =>
    obtain ⟨vs, rfl, _⟩ := h2
    exact .inl ⟨rfl, vs, sqL_of h1⟩
  | dk xs =>
    obtain ⟨vs, rfl, _⟩ := h2
    exact .inr (.inr (.inl ⟨rfl, .inl ⟨vs, h1⟩⟩))
  | dt xs =>
    obtain ⟨vs, rfl, _⟩ := h2
    exact .inr (.inr (.inl ⟨rfl, .inr ⟨vs, h1⟩⟩))
/-- a method that changes its object: the object, the arguments; the value and the object behind it -/
abbrev MOp := Cell → List D → (D → Cell → Prop) → Prop
def MutOk (r : V → List V → Hp → VK → Prop) (op : MOp) : Prop := ∀ (L : List Addr) (Hf H : Hp) (a : Addr) (c : Cell) (vs : List V) (xs : List D) (P : D → Cell → Prop) (Q : VK), Exl L Hf H → CellAt Hf H a c → Hf a = none → Reps Hf vs xs → op c xs P →
  (∀ z v c' u, P z c' → Rep Hf v z → CellO Hf u c' → Q v (upd H a u)) → r (.ref a) vs H Q
def wMut (T : String) (j : Nat) (op : MOp) (wa : WA) : WE := fun st P E => opt (cellOf st j) fun c0 => c0.ty = T ∧ wa st (fun rs st1 => opt (dAll rs) fun xs => opt (cellOf st1 j) fun c => op c xs fun z c' => P (.d z) (setC st1 j c')) E
theorem LE.mut {T : String} {K : PySem.W.Frag} {r : V → List V → Hp → VK → Prop} {op : MOp} {j : Nat} {wa : WA} {σ : L2.St} {H : Hp} {Q : VK} (ok : MutOk r op) (h : LE W (wMut T j op wa) σ H Q) : tBM K T r (tVar j) (LA W wa) σ H Q := by
  obtain ⟨Γ, L, Hf, ad, st, P, E, s, hw, hP, hE⟩ := h
  obtain ⟨c0, e0, ht, hw⟩ := opt_of hw
  obtain ⟨q1, q2, q3, q4⟩ := s.cellAt e0
  refine ⟨_, q3, ?_, ?_⟩
  · rw [← ht]
    exact cell_ty q1
  · refine ⟨Γ, L, Hf, ad, st, _, E, s, hw, fun rs st1 h1 vs Hf1 H1 n1 s1 k1 => ?_, hE⟩
    obtain ⟨xs, e1, h1⟩ := opt_of h1
    obtain ⟨c, e2, h1⟩ := opt_of h1
    obtain ⟨p1, p2, p3, p4⟩ := s1.cellAt e2
    refine ok L Hf1 H1 (ad j) c vs xs _ _ s1.exf p1 p2 (dAll_reps k1 e1) h1 fun z v c' u hp hv hu => ?_
    obtain ⟨s2, n2⟩ := s1.setCell e2 hu
    exact hP _ _ hp v _ _ (n1.trans n2) s2 hv
theorem LE.mut0 {T : String} {K : PySem.W.Frag} {r : V → List V → Hp → VK → Prop} {op : MOp} {j : Nat} {σ : L2.St} {H : Hp} {Q : VK} (ok : MutOk r op) (h : LE W (wMut T j op wNil) σ H Q) : tBM0 K T r (tVar j) σ H Q := by
  obtain ⟨Γ, L, Hf, ad, st, P, E, s, hw, hP, hE⟩ := h
  obtain ⟨c0, e0, ht, hw⟩ := opt_of hw
  obtain ⟨q1, q2, q3, q4⟩ := s.cellAt e0
  refine ⟨_, q3, ?_, ?_⟩
  · rw [← ht]
    exact cell_ty q1
  · obtain ⟨xs, e1, h1⟩ := opt_of (show opt (dAll []) (fun xs => opt (cellOf st j) fun c => op c xs fun z c' => P (.d z) (setC st j c')) from hw)
    cases e1
    obtain ⟨c, e2, h1⟩ := opt_of h1
    obtain ⟨p1, p2, p3, p4⟩ := s.cellAt e2
    refine ok L Hf H (ad j) c [] [] _ _ s.exf p1 p2 .nil h1 fun z v c' u hp hv hu => ?_
    obtain ⟨s2, n2⟩ := s.setCell e2 hu
    exact hP _ _ hp v _ _ n2 s2 hv
section
variable {e : Expr} {es : List Expr} {wa : WA} {x name : Str} {T id : String} {op : MOp} {r : V → List V → Hp → VK → Prop} {pos npos apos : Pos}
theorem de_mut (j : Nat) (pa : PlainAttrs T) (slot : PySem.Slot T name id) (hty : typeOf (.builtin id) = pure (.type "method_descriptor")) (hm : MtR X id r) (ok : MutOk r op) (ha : DA X W (e :: es) wa) (hN : X.N[j]? = some x := by rfl)
    (hv : Vis X.env.scope x := by first | exact Or.inl rfl | exact Or.inr (Or.inl rfl) | exact Or.inr (Or.inr rfl)) (hd : (x == ("__debug__" : Str)) = false := by decide) (hcd : (x == ("__classdict__" : Str)) = false := by decide)
    (hbase : attributeBase (.Name x npos) name X.env (eval (.Name x npos) X.env) = eval (.Name x npos) X.env := by rfl)
    (hfew : ((backTo pos (starEach (e :: es) X.env)).all (fun x => !x.1) && (backToKw pos (keywordEach [] X.env)).all (fun x => x.1.isSome) && decide ((e :: es).length + ([] : List Keyword).length + (if ([] : List Keyword).isEmpty then 0 else 1) < 30)) = true := by rfl)
    (hline : (apos.endLine == pos.line) = true := by rfl) (hst : starEach (e :: es) X.env = (false, eval e X.env) :: starEach es X.env := by rfl) (hplain : (backTo pos (starEach es X.env)).any (·.1) = false := by rfl) : DE X W (.Call (.Attribute (.Name x npos) name apos) (e :: es) [] pos) (wMut T j op wa) :=
  have hw : PE X (.Call (.Attribute (.Name x npos) name apos) (e :: es) [] pos) (tBM X.K T r (tVar j) (LA W wa)) := pe_bm pa slot hty hm (pe_var hN hv hd hcd) ha.pa hbase hfew hline hst hplain
  ⟨hw.imp fun _ _ _ h => h.mut ok⟩
end
/-! ### lists -/
def mAppend : MOp := fun c xs P => match c, xs with
  | .lst ys, [x] => ys.length < sizeLine ∧ P .non (.lst (ys ++ [x]))
  | _, _ => False
theorem ok_append : MutOk rAppend mAppend := fun L Hf H a c vs xs P Q ex hc hf r h k => by
  obtain ⟨u, h1, h2⟩ := hc
  cases c with
  | lst ys =>
    obtain ⟨ws, rfl, ry⟩ := h2
    match xs, r, h with
    | [x], r, h =>
      obtain ⟨v, rfl, rv⟩ := r.one
      exact ⟨a, ws, v, rfl, rfl, h1, by rw [ry.length]; exact h.1, k _ _ _ _ h.2 .non ⟨_, rfl, ry.append (.cons rv .nil)⟩⟩
    | [], _, h => exact h.elim
    | _ :: _ :: _, _, h => exact h.elim
  | dk ys => exact h.elim
  | dt ys => exact h.elim
def mPop : MOp := fun c xs P => match c, xs with
  | .lst ys, [] => opt ys[ys.length - 1]? fun y => P y (.lst ys.dropLast)
  | _, _ => False
theorem ok_pop : MutOk rPop mPop := fun L Hf H a c vs xs P Q ex hc hf r h k => by
  obtain ⟨u, h1, h2⟩ := hc
  cases c with
  | lst ys =>
    obtain ⟨ws, rfl, ry⟩ := h2
    match xs, r, h with
    | [], r, h =>
      cases r
      obtain ⟨y, e, h⟩ := opt_of h
      obtain ⟨v, e2, rv⟩ := ry.get e
      exact ⟨a, ws, v, rfl, rfl, h1, by rw [ry.length]; exact e2, k _ _ _ _ h rv ⟨_, rfl, ry.dropLast⟩⟩
    | _ :: _, _, h => exact h.elim
  | dk ys => exact h.elim
  | dt ys => exact h.elim
def mPopAt : MOp := fun c xs P => match c, xs with
  | .lst ys, [.int i] => 0 ≤ i ∧ i < 1000000000 ∧ opt ys[i.toNat]? fun y => P y (.lst (ys.eraseIdx i.toNat))
  | _, _ => False
theorem seqIx {i : Int} {n : Nat} (h0 : 0 ≤ i) (h : i < n) : seqIndex? i n = some i.toNat := by
  have q : ixN n i = some i.toNat := by
    unfold ixN
    rw [if_pos h0, if_pos h]
  exact (ixN_seq q).1
theorem ok_popAt : MutOk rPopAt mPopAt := fun L Hf H a c vs xs P Q ex hc hf r h k => by
  obtain ⟨u, h1, h2⟩ := hc
  cases c with
  | lst ys =>
    obtain ⟨ws, rfl, ry⟩ := h2
    match xs, r, h with
    | [.int i], r, h =>
      obtain ⟨v, rfl, rv⟩ := r.one
      cases rv
      obtain ⟨h3, h4, h⟩ := h
      obtain ⟨y, e, h⟩ := opt_of h
      obtain ⟨v, e2, rv⟩ := ry.get e
      have hl : i < ws.length := by
        have := (List.getElem?_eq_some_iff.mp e2).1
        omega
      exact ⟨a, ws, i, i.toNat, v, rfl, rfl, h1, by omega, by omega, seqIx h3 hl, e2, k _ _ _ _ h rv ⟨_, rfl, ry.eraseIdx _⟩⟩
    | [], _, h => exact h.elim
    | x :: _ :: _, _, h => cases x <;> exact h.elim
    | [.non], _, h => exact h.elim
    | [.bl _], _, h => exact h.elim
    | [.str _], _, h => exact h.elim
    | [.lst _], _, h => exact h.elim
    | [.tup _], _, h => exact h.elim
    | [.dk _], _, h => exact h.elim
    | [.dt _], _, h => exact h.elim
    | [.ins _ _], _, h => exact h.elim
    | [.fz _], _, h => exact h.elim
  | dk ys => exact h.elim
  | dt ys => exact h.elim

/-! ### a store by place or key -/
def stK : Cell → D → D → (Cell → Prop) → Prop := fun c y x P => match c with
  | .lst xs => match y with
    | .int k => opt (ixN xs.length k) fun m => P (.lst (xs.set m x))
    | _ => False
  | .dk kvs => opt (keyD y) fun k => kvs.length < sizeLine ∧ P (.dk (putD kvs k x))
  | .dt kvs => match y with
    | .tup ks => opt (keysD ks) fun k => kvs.length < sizeLine ∧ P (.dt (putD kvs k x))
    | _ => False
theorem RepK.put {Hf : Hp} {k : Key} {v : V} {x : D} (r : Rep Hf v x) {vs : List (Key × V)} {xs : List (Key × D)} (h : RepK Hf vs xs) : RepK Hf (putK vs k v) (putD xs k x) := by
  have a : ∀ {vs : List (Key × V)} {xs : List (Key × D)}, RepK Hf vs xs → (vs.any fun kv => decide (kv.1 = k)) = (xs.any fun kv => decide (kv.1 = k)) := by
    intro vs xs h
    induction vs generalizing xs with
    | nil => cases h; rfl
    | cons p vs ih =>
      cases h with
      | cons h1 h2 =>
        rw [List.any_cons, List.any_cons, ih h2]
  have m : ∀ {vs : List (Key × V)} {xs : List (Key × D)}, RepK Hf vs xs → RepK Hf (vs.map fun kv => if kv.1 = k then (kv.1, v) else kv) (xs.map fun kv => if kv.1 = k then (kv.1, x) else kv) := by
    intro vs xs h
    induction vs generalizing xs with
    | nil => cases h; exact .nil
    | cons p vs ih =>
      cases h with
      | @cons k' v' x' _ _ h1 h2 =>
        rw [List.map_cons, List.map_cons]
        by_cases e : k' = k
        · rw [if_pos e, if_pos e]
          exact .cons r (ih h2)
        · rw [if_neg e, if_neg e]
          exact .cons h1 (ih h2)
  have ap : ∀ {vs : List (Key × V)} {xs : List (Key × D)}, RepK Hf vs xs → RepK Hf (vs ++ [(k, v)]) (xs ++ [(k, x)]) := by
    intro vs xs h
    induction vs generalizing xs with
    | nil => cases h; exact .cons r .nil
    | cons p vs ih =>
      cases h with
      | cons h1 h2 => exact .cons h1 (ih h2)
  unfold putK putD
  rw [a h]
  split
  · exact m h
  · exact ap h
theorem RepT.put {Hf : Hp} {k : List Key} {v : V} {x : D} (r : Rep Hf v x) {vs : List (List Key × V)} {xs : List (List Key × D)} (h : RepT Hf vs xs) : RepT Hf (putK vs k v) (putD xs k x) := by
  have a : ∀ {vs : List (List Key × V)} {xs : List (List Key × D)}, RepT Hf vs xs → (vs.any fun kv => decide (kv.1 = k)) = (xs.any fun kv => decide (kv.1 = k)) := by
    intro vs xs h
    induction vs generalizing xs with
    | nil => cases h; rfl
    | cons p vs ih =>
      cases h with
      | cons h1 h2 =>
        rw [List.any_cons, List.any_cons, ih h2]
  have m : ∀ {vs : List (List Key × V)} {xs : List (List Key × D)}, RepT Hf vs xs → RepT Hf (vs.map fun kv => if kv.1 = k then (kv.1, v) else kv) (xs.map fun kv => if kv.1 = k then (kv.1, x) else kv) := by
    intro vs xs h
    induction vs generalizing xs with
    | nil => cases h; exact .nil
    | cons p vs ih =>
      cases h with
      | @cons k' v' x' _ _ h1 h2 =>
        rw [List.map_cons, List.map_cons]
        by_cases e : k' = k
        · rw [if_pos e, if_pos e]
          exact .cons r (ih h2)
        · rw [if_neg e, if_neg e]
          exact .cons h1 (ih h2)
  have ap : ∀ {vs : List (List Key × V)} {xs : List (List Key × D)}, RepT Hf vs xs → RepT Hf (vs ++ [(k, v)]) (xs ++ [(k, x)]) := by
    intro vs xs h
    induction vs generalizing xs with
    | nil => cases h; exact .cons r .nil
    | cons p vs ih =>
      cases h with
      | cons h1 h2 => exact .cons h1 (ih h2)
  unfold putK putD
  rw [a h]
  split
  · exact m h
  · exact ap h
theorem RepK.len {Hf : Hp} : ∀ {vs : List (Key × V)} {xs : List (Key × D)}, RepK Hf vs xs → vs.length = xs.length
  | _, _, .nil => rfl
  | _, _, .cons _ r => congrArg (· + 1) r.len
theorem RepT.len {Hf : Hp} : ∀ {vs : List (List Key × V)} {xs : List (List Key × D)}, RepT Hf vs xs → vs.length = xs.length
  | _, _, .nil => rfl
  | _, _, .cons _ r => congrArg (· + 1) r.len
def wSt (j : Nat) (wi we : WE) : WS := fun N st => opt (cellOf st j) fun c0 => we st (fun r st1 => match r with
  | .d x => wi st1 (fun ri st2 => match ri with
    | .d y => opt (cellOf st2 j) fun c => c.ty = c0.ty ∧ stK c y x fun c' => N.nx (setC st2 j c')
    | _ => False) N.ex
  | _ => False) N.ex
theorem LS.stL {j : Nat} {wi we : WE} {De : Ends} {σ : L2.St} {H : Hp} (h : LS W (wSt j wi we) De σ H) : tAsg (LE W we) (gSub (tVar j) (LE W wi) rSetL) De σ H ∨ sDPut (tVar j) (LE W wi) (LE W we) De σ H := by
  obtain ⟨Γ, L, Hf, ad, st, N, s, hw, cn⟩ := h
  obtain ⟨c0, e0, hw⟩ := opt_of hw
  cases c0 with
  | lst zs =>
    refine .inl ⟨Γ, L, Hf, ad, st, _, _, s, hw, fun r st1 h1 v Hf1 H1 n1 s1 k1 => ?_, cn.xok⟩
    cases r with
    | b x => exact h1.elim
    | sl x => exact h1.elim
    | n x => exact h1.elim
    | d x =>
      have q3 := (s.cellAt e0).2.2.1
      refine ⟨_, q3, Γ, L, Hf1, ad, st1, _, _, s1, h1, fun ri st2 h2 y Hf2 H2 n2 s2 k2 => ?_, cn.xok⟩
      cases ri with
      | b x => exact h2.elim
      | sl x => exact h2.elim
      | n x => exact h2.elim
      | d y' =>
        obtain ⟨c, e2, ht, h2⟩ := opt_of h2
        obtain ⟨⟨u, p1, p1'⟩, p2, p3, p4⟩ := s2.cellAt e2
        cases c with
        | lst xs =>
          obtain ⟨vs, rfl, rx⟩ := p1'
          cases k2 with
          | int k =>
            obtain ⟨m, em, h2⟩ := opt_of (show opt (ixN xs.length k) (fun m => N.nx (setC st2 j (.lst (xs.set m x)))) from h2)
            refine ⟨ad j, vs, k, m, rfl, rfl, p1, by rw [rx.length]; exact em, ?_⟩
            obtain ⟨s3, n3⟩ := s2.setCell (c' := .lst (xs.set m x)) e2 ⟨_, rfl, rx.set (Rep.mono n2.ex k1) m⟩
            exact cn.nx _ h2 _ _ _ _ s3
          | _ => exact h2.elim
        | dk xs => exact absurd ht (by show ¬ ("dict" = "list"); decide)
        | dt xs => exact absurd ht (by show ¬ ("dict" = "list"); decide)
  | dk zs =>
    refine .inr ⟨Γ, L, Hf, ad, st, _, _, s, hw, fun r st1 h1 v Hf1 H1 n1 s1 k1 => ?_, cn.xok⟩
    cases r with
    | b x => exact h1.elim
    | sl x => exact h1.elim
    | n x => exact h1.elim
    | d x =>
      have q3 := (s.cellAt e0).2.2.1
      refine ⟨_, q3, Γ, L, Hf1, ad, st1, _, _, s1, h1, fun ri st2 h2 y Hf2 H2 n2 s2 k2 => ?_, cn.xok⟩
      cases ri with
      | b x => exact h2.elim
      | sl x => exact h2.elim
      | n x => exact h2.elim
      | d y' =>
        obtain ⟨c, e2, ht, h2⟩ := opt_of h2
        obtain ⟨⟨u, p1, p1'⟩, p2, p3, p4⟩ := s2.cellAt e2
        have k2 : Rep Hf2 y y' := k2
        cases c with
        | lst xs => exact absurd ht (by show ¬ ("list" = "dict"); decide)
        | dk xs =>
          obtain ⟨vs, rfl, rx⟩ := p1'
          obtain ⟨k, ek, hz, h2⟩ := opt_of (show opt (keyD y') (fun k => xs.length < sizeLine ∧ N.nx (setC st2 j (.dk (putD xs k x)))) from h2)
          obtain ⟨s3, n3⟩ := s2.setCell (c' := .dk (putD xs k x)) e2 ⟨_, rfl, rx.put (Rep.mono n2.ex k1)⟩
          exact ⟨ad j, _, rfl, .inl ⟨vs, k, p1, keyD_rep k2 ek, by rw [rx.len]; exact hz, rfl⟩, cn.nx _ h2 _ _ _ _ s3⟩
        | dt xs =>
          obtain ⟨vs, rfl, rx⟩ := p1'
          cases k2 with
          | @tup b ws ks hb hr =>
            obtain ⟨k, ek, hz, h2⟩ := opt_of (show opt (keysD ks) (fun k => xs.length < sizeLine ∧ N.nx (setC st2 j (.dt (putD xs k x)))) from h2)
            have ew := keysD_rep hr ek
            subst ew
            obtain ⟨s3, n3⟩ := s2.setCell (c' := .dt (putD xs k x)) e2 ⟨_, rfl, rx.put (Rep.mono n2.ex k1)⟩
            exact ⟨ad j, _, rfl, .inr ⟨vs, k, b, p1, rfl, exl_at s2.exf hb (by rintro (⟨_, q⟩ | ⟨_, q⟩) <;> cases q), by rw [rx.len]; exact hz, rfl⟩, cn.nx _ h2 _ _ _ _ s3⟩
          | _ => exact h2.elim
  | dt zs =>
    refine .inr ⟨Γ, L, Hf, ad, st, _, _, s, hw, fun r st1 h1 v Hf1 H1 n1 s1 k1 => ?_, cn.xok⟩
    cases r with
    | b x => exact h1.elim
    | sl x => exact h1.elim
    | n x => exact h1.elim
    | d x =>
      have q3 := (s.cellAt e0).2.2.1
      refine ⟨_, q3, Γ, L, Hf1, ad, st1, _, _, s1, h1, fun ri st2 h2 y Hf2 H2 n2 s2 k2 => ?_, cn.xok⟩
      cases ri with
      | b x => exact h2.elim
      | sl x => exact h2.elim
      | n x => exact h2.elim
      | d y' =>
        obtain ⟨c, e2, ht, h2⟩ := opt_of h2
        obtain ⟨⟨u, p1, p1'⟩, p2, p3, p4⟩ := s2.cellAt e2
        have k2 : Rep Hf2 y y' := k2
        cases c with
        | lst xs => exact absurd ht (by show ¬ ("list" = "dict"); decide)
        | dk xs =>
          obtain ⟨vs, rfl, rx⟩ := p1'
          obtain ⟨k, ek, hz, h2⟩ := opt_of (show opt (keyD y') (fun k => xs.length < sizeLine ∧ N.nx (setC st2 j (.dk (putD xs k x)))) from h2)
          obtain ⟨s3, n3⟩ := s2.setCell (c' := .dk (putD xs k x)) e2 ⟨_, rfl, rx.put (Rep.mono n2.ex k1)⟩
          exact ⟨ad j, _, rfl, .inl ⟨vs, k, p1, keyD_rep k2 ek, by rw [rx.len]; exact hz, rfl⟩, cn.nx _ h2 _ _ _ _ s3⟩
        | dt xs =>
          obtain ⟨vs, rfl, rx⟩ := p1'
          cases k2 with
          | @tup b ws ks hb hr =>
            obtain ⟨k, ek, hz, h2⟩ := opt_of (show opt (keysD ks) (fun k => xs.length < sizeLine ∧ N.nx (setC st2 j (.dt (putD xs k x)))) from h2)
            have ew := keysD_rep hr ek
            subst ew
            obtain ⟨s3, n3⟩ := s2.setCell (c' := .dt (putD xs k x)) e2 ⟨_, rfl, rx.put (Rep.mono n2.ex k1)⟩
            exact ⟨ad j, _, rfl, .inr ⟨vs, k, b, p1, rfl, exl_at s2.exf hb (by rintro (⟨_, q⟩ | ⟨_, q⟩) <;> cases q), by rw [rx.len]; exact hz, rfl⟩, cn.nx _ h2 _ _ _ _ s3⟩
          | _ => exact h2.elim
theorem _root_.L2.PS.or {X : Cx} {s : Stmt} {t t' : TS} (h : PS X s t) (h' : PS X s t') : PS X s (fun D σ H => t D σ H ∨ t' D σ H) := ⟨fun pins s σ H D I q => q.elim (h.run pins s σ H D I) (h'.run pins s σ H D I)⟩
theorem ds_st (j : Nat) {x : Str} {i e : Expr} {wi we : WE} {pos pos' npos : Pos} (hu : X.A.units + 1 < cLine) (hi : DE X W i wi) (he : DE X W e we) (hN : X.N[j]? = some x := by rfl)
    (hv : Vis X.env.scope x := by first | exact Or.inl rfl | exact Or.inr (Or.inl rfl) | exact Or.inr (Or.inr rfl)) (hd : (x == ("__debug__" : Str)) = false := by decide) (hcd : (x == ("__classdict__" : Str)) = false := by decide)
    (hs : swapsWithSole [.Subscript (.Name x npos) i pos'] e pos.line X.env = pure false := by rfl) (hw : swappedStores [.Subscript (.Name x npos) i pos'] e X.env = pure none := by rfl)
    (hh : (assignEach [.Subscript (.Name x npos) i pos'] X.env).map (·.2) = [assign (.Subscript (.Name x npos) i pos') X.env] := by rfl)
    (hs2 : swapsWith e (some (.Subscript (.Name x npos) i pos')) pos.line X.env = pure false := by rfl)
    (hp : PG X (.Subscript (.Name x npos) i pos') (gSub (tVar j) (LE W wi) rSetL)) : DS X W (.Assign [.Subscript (.Name x npos) i pos'] e pos) (wSt j wi we) :=
  have h1 := ps_asg he.pe hp hs hw hh
  have h2 := ps_dput hu (pe_var hN hv hd hcd) hi.pe he.pe hs2
  ⟨(h1.or h2).imp fun _ _ _ h => h.stL⟩
end DL


/-! DL l: built-in functions, membership. -/
namespace DL
open PySem PySem.Spec PyProof.Rows L2
variable {X : Cx} {W : WX}

/-! ### in -/
/-- data in a list or tuple -/
def rMem (neg : Bool) : R2 := fun x y H Q => ∃ (L : List Addr) (Hf : Hp) (dx dy : D) (ys : List D) (b : Bool), Exl L Hf H ∧ RepH Hf H x dx ∧ RepH Hf H y dy ∧ itemsD dy = some ys ∧ inL 40 dx ys = some b ∧ Q (.bl (if neg then !b else b)) H
theorem relV_vals {vs : List V} {its : List Value} (r : Vals vs its) {j : Nat} {u : Value} (h : its[j]? = some u) : ∃ v, vs[j]? = some v ∧ RelV v u := by
  have l : j < vs.length := by
    rw [r.length]
    exact (List.getElem?_eq_some_iff.mp h).1
  obtain ⟨w, h1, h2⟩ := r.get (List.getElem?_eq_getElem l)
  rw [h] at h1
  cases h1
  exact ⟨_, List.getElem?_eq_getElem l, h2⟩
open Classical in
theorem mem_fun {pins : List (Addr × Obj)} {σ : L2.St} {H Hf : Hp} {s : Shared} {L : List Addr} {A : Around} (I : Inv X pins σ H s) (ex : Exl L Hf H) (hu : A.units + 41 < cLine) {vs : List V} {ys : List D} {its : List Value} {x : D} {xv : V} {xu : Value} (rx : RepH Hf H xv x) (qx : RelV xv xu) (ry : Reps Hf vs ys) (hv : Vals vs its)
    {b : Bool} (h : inL 40 x ys = some b) : ∃ e : Value → Bool, (∀ y, y ∈ its.toArray → SeqAt.EqAt A s y xu (e y)) ∧ its.toArray.any e = b := by
  obtain ⟨f, hf, hb⟩ := inL_mem h
  let e : Value → Bool := fun u => if ∃ j : Nat, its[j]? = some u ∧ f j = true then true else false
  have det : ∀ (i j : Nat) (u : Value), its[i]? = some u → its[j]? = some u → f i = f j := fun i j u hi hj => by
    obtain ⟨v, h1, r1⟩ := relV_vals hv hi
    obtain ⟨v', h2, r2⟩ := relV_vals hv hj
    have ev := r1.inj r2
    subst ev
    obtain ⟨y, h3, q1⟩ := ry.getV h1
    obtain ⟨y', h4, q2⟩ := ry.getV h2
    have ey := q1.inj q2
    subst ey
    have a1 := hf i y h3
    rw [hf j y h4] at a1
    exact (Option.some.inj a1).symm
  have ej : ∀ (j : Nat) (u : Value), its[j]? = some u → e u = f j := fun j u hj => by
    show (if ∃ j : Nat, its[j]? = some u ∧ f j = true then true else false) = f j
    by_cases q : f j = true
    · rw [if_pos ⟨j, hj, q⟩, q]
    · rw [if_neg (fun ⟨i, h1, h2⟩ => q (by rw [det j i u hj h1]; exact h2))]
      cases z : f j with
      | true => exact absurd z q
      | false => rfl
  refine ⟨e, fun y hy => ?_, ?_⟩
  · obtain ⟨j, hj, ey⟩ := List.getElem_of_mem (show y ∈ its by simpa using hy)
    have e1 : its[j]? = some y := by rw [List.getElem?_eq_getElem hj, ey]
    obtain ⟨v, h1, r1⟩ := relV_vals hv e1
    obtain ⟨z, h3, q1⟩ := ry.getV h1
    rw [ej j y e1]
    exact deq_ok I ex 40 A z x v xv y xu (f j) (by omega) (q1.reph ex) rx r1 qx (hf j z h3)
  · rw [← hb]
    have hl : its.length = ys.length := by rw [← hv.length, ry.length]
    rw [← hl]
    have key : ∀ (l : List Value) (g : Nat → Bool), (∀ (j : Nat) (u : Value), l[j]? = some u → e u = g j) → l.any e = (List.range l.length).any g := by
      intro l
      induction l with
      | nil => intro g _; rfl
      | cons u l ih =>
        intro g hg
        rw [List.any_cons, List.length_cons, List.range_succ_eq_map, List.any_cons, List.any_map, hg 0 u rfl, ih (fun j => g (j + 1)) fun j u' h' => hg (j + 1) u' (by simpa using h')]
        rfl
    have := key its f ej
    simpa using this
theorem mem_list {pins : List (Addr × Obj)} {σ : L2.St} {H Hf : Hp} {s : Shared} {v : V} {u : Value} {d : D} {ys : List D} (I : Inv X pins σ H s) (r : RepH Hf H v d) (q : RelV v u) (h : itemsD d = some ys) : (∃ a vs its, u = .ref a ∧ Reps Hf vs ys ∧ Vals vs its ∧ s.heap.IsList a its.toArray) ∨ ∃ a vs its, u = .ref a ∧ Reps Hf vs ys ∧ Vals vs its ∧ s.heap.IsTuple a its.toArray := by
  cases r with
  | @lst a vs xs h1 rx =>
    cases q
    cases h
    obtain ⟨its, h2, h3⟩ := Inv.isList I h1
    exact .inl ⟨a, vs, its, rfl, rx, h2, h3⟩
  | @tup a vs xs h1 rx =>
    cases q
    cases h
    obtain ⟨its, h2, h3⟩ := Inv.isTuple I h1
    exact .inr ⟨a, vs, its, rfl, rx, h2, h3⟩
  | @fz a ns h1 =>
    cases q
    cases h
    obtain ⟨its, h2, h3, _⟩ := I.list (.inl h1)
    exact .inl ⟨a, _, its, rfl, reps_ints ns, h2, h3.isList⟩
  | _ => cases h
theorem op_mem (hu : X.A.units + 64 < cLine) : OpR X (compareOp .In) (rMem false) := by
  intro pins s σ H x y v u Q I rx ry h
  obtain ⟨L, Hf, dx, dy, ys, b, ex, r1, r2, e, hb, q⟩ := h
  have hu1 : X.A.in1.units + 41 < cLine := by show X.A.units + 1 + 41 < cLine; omega
  rcases mem_list I r2 ry e with ⟨a, vs, its, rfl, q1, q2, q3⟩ | ⟨a, vs, its, rfl, q1, q2, q3⟩
  · obtain ⟨f, f1, f2⟩ := mem_fun I ex hu1 r1 rx q1 q2 hb
    exact SeqAt.in_listAt f q3 f1 ⟨.bl b, H, I, by rw [f2]; rfl, q⟩
  · obtain ⟨f, f1, f2⟩ := mem_fun I ex hu1 r1 rx q1 q2 hb
    exact SeqAt.in_tupleAt f q3 f1 ⟨.bl b, H, I, by rw [f2]; rfl, q⟩
theorem op_nmem (hu : X.A.units + 64 < cLine) : OpR X (compareOp .NotIn) (rMem true) := by
  intro pins s σ H x y v u Q I rx ry h
  obtain ⟨L, Hf, dx, dy, ys, b, ex, r1, r2, e, hb, q⟩ := h
  have hu1 : X.A.in1.units + 41 < cLine := by show X.A.units + 1 + 41 < cLine; omega
  rcases mem_list I r2 ry e with ⟨a, vs, its, rfl, q1, q2, q3⟩ | ⟨a, vs, its, rfl, q1, q2, q3⟩
  · obtain ⟨f, f1, f2⟩ := mem_fun I ex hu1 r1 rx q1 q2 hb
    exact SeqAt.notIn_listAt f q3 f1 ⟨.bl !b, H, I, by rw [f2]; rfl, q⟩
  · obtain ⟨f, f1, f2⟩ := mem_fun I ex hu1 r1 rx q1 q2 hb
    exact SeqAt.notIn_tupleAt f q3 f1 ⟨.bl !b, H, I, by rw [f2]; rfl, q⟩
/-- in a dict -/
theorem op_indict (hu : X.A.units + 1 < cLine) : OpR X (compareOp .In) (fun x y H Q => ∃ a o, y = .ref a ∧ DGet H a x o ∧ Q (.bl o.isSome) H) := by
  intro pins s σ H x y v u Q I rx ry h
  obtain ⟨a, o, rfl, g, q⟩ := h
  cases ry
  exact L2.d_in hu I g rx fun s' I' => ⟨.bl o.isSome, H, I', rfl, q⟩
theorem op_nindict (hu : X.A.units + 1 < cLine) : OpR X (compareOp .NotIn) (fun x y H Q => ∃ a o, y = .ref a ∧ DGet H a x o ∧ Q (.bl !o.isSome) H) := by
  intro pins s σ H x y v u Q I rx ry h
  obtain ⟨a, o, rfl, g, q⟩ := h
  cases ry
  exact L2.d_notIn hu I g rx fun s' I' => ⟨.bl !o.isSome, H, I', rfl, q⟩
def rInX : R2 := fun x y H Q => rMem false x y H Q ∨ (∃ a o, y = .ref a ∧ DGet H a x o ∧ Q (.bl o.isSome) H) ∨ ∃ (c : Nat) (z : Str), x = .str ⟨#[c]⟩ ∧ y = .str z ∧ Q (.bl (decide (c ∈ z.cps.toList))) H
def rNinX : R2 := fun x y H Q => rMem true x y H Q ∨ (∃ a o, y = .ref a ∧ DGet H a x o ∧ Q (.bl !o.isSome) H) ∨ ∃ (c : Nat) (z : Str), x = .str ⟨#[c]⟩ ∧ y = .str z ∧ Q (.bl (!decide (c ∈ z.cps.toList))) H
theorem op_inX (hu : X.A.units + 64 < cLine) : OpR X (compareOp .In) rInX := OpR.or (op_mem hu) (OpR.or (op_indict (by omega)) op_in_sign)
theorem op_ninX (hu : X.A.units + 64 < cLine) : OpR X (compareOp .NotIn) rNinX := OpR.or (op_nmem hu) (OpR.or (op_nindict (by omega)) op_notIn_sign)
/-- whether x is in y; none: not told -/
def isIn (x y : D) : Option Bool := match y with
  | .lst ys => inL 40 x ys
  | .tup ys => inL 40 x ys
  | .fz ns => inL 40 x (ns.map D.int)
  | .str z => match x with
    | .str c => if c.cps.size = 1 then some (decide (c.cps.getD 0 0 ∈ z.cps.toList)) else none
    | _ => none
  | y => (getD y x).map Option.isSome
def oIn : Op2 := fun x y P => opt (isIn x y) fun b => P (.d (.bl b))
def oNin : Op2 := fun x y P => opt (isIn x y) fun b => P (.d (.bl !b))
theorem repO_some {Hf : Hp} {ov : Option V} {o : Option D} (h : RepO Hf ov o) : ov.isSome = o.isSome := by
  cases ov <;> cases o <;> first | rfl | exact h.elim
theorem one_sign {c : Str} (h : c.cps.size = 1) : c = ⟨#[c.cps.getD 0 0]⟩ := by
  obtain ⟨l⟩ := c
  obtain ⟨l⟩ := l
  match l, h with
  | [x], _ => rfl
theorem isIn_ok {L : List Addr} {Hf H : Hp} {v1 v2 : V} {x y : D} {b : Bool} (ex : Exl L Hf H) (r1 : RepH Hf H v1 x) (r2 : RepH Hf H v2 y) (h : isIn x y = some b) : (∃ ys, itemsD y = some ys ∧ inL 40 x ys = some b) ∨ (∃ a o, v2 = .ref a ∧ DGet H a v1 o ∧ o.isSome = b) ∨ ∃ (c : Nat) (z : Str), v1 = .str ⟨#[c]⟩ ∧ v2 = .str z ∧ decide (c ∈ z.cps.toList) = b := by
  have dic : (getD y x).map Option.isSome = some b → ∃ a o, v2 = .ref a ∧ DGet H a v1 o ∧ o.isSome = b := fun h => by
    obtain ⟨o, e, rfl⟩ := Option.map_eq_some_iff.mp h
    obtain ⟨a, ov, rfl, _, g, m⟩ := getD_rep r2 r1 e
    exact ⟨a, ov, rfl, g, repO_some m⟩
  cases r2 with
  | lst h1 rx => exact .inl ⟨_, rfl, h⟩
  | tup h1 rx => exact .inl ⟨_, rfl, h⟩
  | fz h1 => exact .inl ⟨_, rfl, h⟩
  | str z =>
    cases r1 with
    | str c =>
      have h : (if c.cps.size = 1 then some (decide (c.cps.getD 0 0 ∈ z.cps.toList)) else none) = some b := h
      by_cases e : c.cps.size = 1
      · rw [if_pos e] at h
        exact .inr (.inr ⟨_, z, by rw [← one_sign e], rfl, Option.some.inj h⟩)
      · rw [if_neg e] at h
        cases h
    | _ => cases h
  | dk h1 rx => exact .inr (.inl (dic h))
  | dt h1 rx => exact .inr (.inl (dic h))
  | non => cases h
  | bl _ => cases h
  | int _ => cases h
  | ins _ _ => cases h
theorem ok_in : OpOk rInX oIn := fun L Hf H v1 v2 x y P Q ex r1 r2 h k => by
  obtain ⟨b, e, h⟩ := opt_of h
  have q := k _ _ _ _ h (.same (.bl b))
  rcases isIn_ok ex r1 r2 e with ⟨ys, h1, h2⟩ | ⟨a, o, rfl, g, h2⟩ | ⟨c, z, rfl, rfl, h2⟩
  · exact .inl ⟨L, Hf, x, y, ys, b, ex, r1, r2, h1, h2, q⟩
  · exact .inr (.inl ⟨a, o, rfl, g, by rw [h2]; exact q⟩)
  · exact .inr (.inr ⟨c, z, rfl, rfl, by rw [h2]; exact q⟩)
theorem ok_nin : OpOk rNinX oNin := fun L Hf H v1 v2 x y P Q ex r1 r2 h k => by
  obtain ⟨b, e, h⟩ := opt_of h
  have q := k _ _ _ _ h (.same (.bl !b))
  rcases isIn_ok ex r1 r2 e with ⟨ys, h1, h2⟩ | ⟨a, o, rfl, g, h2⟩ | ⟨c, z, rfl, rfl, h2⟩
  · exact .inl ⟨L, Hf, x, y, ys, b, ex, r1, r2, h1, h2, q⟩
  · exact .inr (.inl ⟨a, o, rfl, g, by rw [h2]; exact q⟩)
  · exact .inr (.inr ⟨c, z, rfl, rfl, by rw [h2]; exact q⟩)

/-! ### calls -/
theorem RepHs.one {Hf H : Hp} {vs : List V} {x : D} (r : RepHs Hf H vs [x]) : ∃ v, vs = [v] ∧ RepH Hf H v x := by
  cases r with
  | cons h r =>
    cases r
    exact ⟨_, rfl, h⟩
theorem RepHs.two {Hf H : Hp} {vs : List V} {x y : D} (r : RepHs Hf H vs [x, y]) : ∃ v w, vs = [v, w] ∧ RepH Hf H v x ∧ RepH Hf H w y := by
  cases r with
  | cons h r =>
    obtain ⟨w, rfl, h2⟩ := r.one
    exact ⟨_, _, rfl, h, h2⟩
def on1 (op : Op1) : OpN := fun xs P => match xs with
  | [x] => op x P
  | _ => False
def on2 (op : Op2) : OpN := fun xs P => match xs with
  | [x, y] => op x y P
  | _ => False
def r1N (r : V → Hp → VK → Prop) : List V → Hp → VK → Prop := fun vs H Q => ∃ v, vs = [v] ∧ r v H Q
theorem ok_on1 {r : List V → Hp → VK → Prop} {op : Op1} (h : ∀ (L : List Addr) (Hf H : Hp) (v : V) (x : D) (P : RV → Prop) (Q : VK), Exl L Hf H → RepH Hf H v x → op x P → (∀ rv v Hf' H', P rv → Res Hf H rv v Hf' H' → Q v H') → r [v] H Q) : CallOk r (on1 op) := fun L Hf H vs xs P Q ex rs hp k => by
  match xs, rs, hp with
  | [x], rs, hp =>
    obtain ⟨v, rfl, r1⟩ := rs.one
    exact h L Hf H v x P Q ex r1 hp k
  | [], _, hp => exact hp.elim
  | x :: y :: _, _, hp => exact hp.elim
theorem ok_on2 {r : List V → Hp → VK → Prop} {op : Op2} (h : ∀ (L : List Addr) (Hf H : Hp) (v w : V) (x y : D) (P : RV → Prop) (Q : VK), Exl L Hf H → RepH Hf H v x → RepH Hf H w y → op x y P → (∀ rv v Hf' H', P rv → Res Hf H rv v Hf' H' → Q v H') → r [v, w] H Q) : CallOk r (on2 op) := fun L Hf H vs xs P Q ex rs hp k => by
  match xs, rs, hp with
  | [x, y], rs, hp =>
    obtain ⟨v, w, rfl, r1, r2⟩ := rs.two
    exact h L Hf H v w x y P Q ex r1 r2 hp k
  | [], _, hp => exact hp.elim
  | [_], _, hp => exact hp.elim
  | _ :: _ :: _ :: _, _, hp => exact hp.elim
def oInt : Op1 := fun x P => match x with
  | .int i => P (.d (.int i))
  | .bl b => P (.d (.int (if b then 1 else 0)))
  | _ => False
theorem ok_int : CallOk (fun xs H Q => (∃ i, xs = [.int i] ∧ Q (.int i) H) ∨ ∃ k, xs = [.bl k] ∧ Q (.int (if k then 1 else 0)) H) (on1 oInt) := ok_on1 fun L Hf H v x P Q ex r h k => by
  cases r with
  | int i => exact .inl ⟨i, rfl, k _ _ _ _ h (.same (.int _))⟩
  | bl b => exact .inr ⟨b, rfl, k _ _ _ _ h (.same (.int _))⟩
  | _ => exact h.elim
def lenD : D → Option Nat
  | .lst xs => some xs.length
  | .tup xs => some xs.length
  | .fz ns => some ns.length
  | .str z => if z.length ≤ sizeLine then some z.length else none
  | .dk kvs => some kvs.length
  | .dt kvs => some kvs.length
  | _ => none
def oLen : Op1 := fun x P => opt (lenD x) fun n => P (.d (.int (n : Nat)))
def rLenX (K : PySem.W.Frag) : List V → Hp → VK → Prop := fun xs H Q => (∃ x n, xs = [x] ∧ LenV K x H n ∧ Q (.int n) H) ∨ (∃ a kvs, xs = [V.ref a] ∧ Rd H a (.dK kvs) ∧ Q (.int kvs.length) H) ∨ ∃ a kvs, xs = [V.ref a] ∧ Rd H a (.dT kvs) ∧ Q (.int (kvs.length : Nat)) H
theorem call_lenX : CallR X (.builtin "len") (rLenX X.K) := CallR.or call_len (CallR.or (by
  intro pins s σ H xs us Q I r h
  obtain ⟨a, kvs, rfl, ha, q⟩ := h
  obtain ⟨u, rfl, ru⟩ := vals1 r
  cases ru
  exact L2.d_len I ha fun t s' I' => ⟨.int kvs.length, H, I', ⟨t, rfl⟩, q⟩) (by
  intro pins s σ H xs us Q I r h
  obtain ⟨a, kvs, rfl, ha, q⟩ := h
  obtain ⟨u, rfl, ru⟩ := vals1 r
  cases ru
  obtain ⟨hz, hd, ws, rel, dd⟩ := dt_rd I.hok ha
  have hl : kvs.length = ws.length := Paired.length rel
  refine call_len_dictH hd dd (by
    rw [← hl]
    have := sizeLine_eq
    omega) ⟨.int (kvs.length : Nat), H, I.tok _, ⟨_, by rw [hl]⟩, q⟩))
theorem ok_len {K : PySem.W.Frag} : CallOk (rLenX K) (on1 oLen) := ok_on1 fun L Hf H v x P Q ex r h k => by
  obtain ⟨n, e, h⟩ := opt_of h
  have q := k _ _ _ _ h (.same (.int _))
  cases r with
  | @lst a vs xs h1 rx =>
    cases e
    exact .inl ⟨_, xs.length, rfl, .inl ⟨vs, sqL_of h1, rx.length.symm⟩, q⟩
  | @tup a vs xs h1 rx =>
    cases e
    exact .inl ⟨_, xs.length, rfl, .inr ⟨vs, sqT_of h1, rx.length.symm⟩, q⟩
  | @fz a ns h1 =>
    cases e
    exact .inl ⟨_, ns.length, rfl, .inl ⟨_, .inl h1, by rw [List.length_map]⟩, q⟩
  | str z =>
    have e : (if z.length ≤ sizeLine then some z.length else none) = some n := e
    by_cases hz : z.length ≤ sizeLine
    · rw [if_pos hz] at e
      cases e
      exact .inl ⟨_, z.length, rfl, ⟨hz, rfl⟩, q⟩
    · rw [if_neg hz] at e
      cases e
  | @dk a kvs xs h1 rx =>
    cases e
    exact .inr (.inl ⟨a, kvs, rfl, h1, by rw [rx.len]; exact q⟩)
  | @dt a kvs xs h1 rx =>
    cases e
    exact .inr (.inr ⟨a, kvs, rfl, h1, by rw [rx.len]; exact q⟩)
  | _ => cases e
/-- list(x), tuple(x) -/
def oList : Op1 := fun x P => opt (itemsD x) fun xs => P (.n (.lst xs))
theorem ok_list {K : PySem.W.Frag} : CallOk (fun xs H Q => ∃ p ys, xs = [.ref p] ∧ (SqL K H p ys ∨ SqT K H p ys) ∧ ∀ l, H l = none → Q (.ref l) (upd H l (.lst ys))) (on1 oList) := ok_on1 fun L Hf H v x P Q ex r h k => by
  obtain ⟨ys, e, h⟩ := opt_of h
  cases r with
  | @lst a vs xs h1 rx =>
    cases e
    exact ⟨a, vs, rfl, .inl (sqL_of h1), fun l hl => k _ _ _ _ h (.new hl ⟨_, rfl, rx⟩)⟩
  | @tup a vs xs h1 rx =>
    cases e
    exact ⟨a, vs, rfl, .inr (sqT_of h1), fun l hl => k _ _ _ _ h (.new hl ⟨_, rfl, rx⟩)⟩
  | @fz a ns h1 =>
    cases e
    exact ⟨a, _, rfl, .inl (.inl h1), fun l hl => k _ _ _ _ h (.new hl ⟨_, rfl, reps_ints ns⟩)⟩
  | _ => cases e
def oTuple : Op1 := fun x P => opt (itemsD x) fun xs => P (.d (.tup xs))
def oMax2 : Op2 := fun x y P => match x, y with
  | .int i, .int j => P (.d (.int (if j > i then j else i)))
  | _, _ => False
def oMin2 : Op2 := fun x y P => match x, y with
  | .int i, .int j => P (.d (.int (if j < i then j else i)))
  | _, _ => False
theorem ok_max2 : CallOk (fun xs H Q => ∃ i j, xs = [.int i, .int j] ∧ Q (.int (if j > i then j else i)) H) (on2 oMax2) := ok_on2 fun L Hf H v w x y P Q ex r1 r2 h k => by
  cases r1 with
  | int i =>
    cases r2 with
    | int j => exact ⟨i, j, rfl, k _ _ _ _ h (.same (.int _))⟩
    | _ => exact h.elim
  | _ => exact h.elim
theorem ok_min2 : CallOk (fun xs H Q => ∃ i j, xs = [.int i, .int j] ∧ Q (.int (if j < i then j else i)) H) (on2 oMin2) := ok_on2 fun L Hf H v w x y P Q ex r1 r2 h k => by
  cases r1 with
  | int i =>
    cases r2 with
    | int j => exact ⟨i, j, rfl, k _ _ _ _ h (.same (.int _))⟩
    | _ => exact h.elim
  | _ => exact h.elim
section
variable {e : Expr} {es : List Expr} {x : Str} {p pos : Pos} {wa : WA} {id : String} {r : List V → Hp → VK → Prop} {op : OpN}
theorem de_callB (hc : CallR X (.builtin id) r) (ok : CallOk r op) (hm : X.mg x = none) (hv : bootBuiltins x = some (.builtin id)) (ha : DA X W (e :: es) wa) (hg : Gl X x := by rfl) (hn : x ≠ "__name__" := by decide) (hdb : (x == ("__debug__" : Str)) = false := by decide)
    (he : starEach (e :: es) X.env = (false, eval e X.env) :: starEach es X.env := by rfl) (hpl : (backTo pos (starEach es X.env)).any (·.1) = false := by rfl) : DE X W (.Call (.Name x p) (e :: es) [] pos) (wCB op wa) := ⟨(pe_callB hc hg hm hv ha.pa hn hdb he hpl).imp fun _ _ _ h => h.cb ok⟩
theorem de_callT {T : String} (hc : CallR X (.type T) r) (ok : CallOk r op) (hm : X.mg x = none) (hv : bootBuiltins x = some (.type T)) (ha : DA X W (e :: es) wa) (hg : Gl X x := by rfl) (hn : x ≠ "__name__" := by decide) (hdb : (x == ("__debug__" : Str)) = false := by decide)
    (he : starEach (e :: es) X.env = (false, eval e X.env) :: starEach es X.env := by rfl) (hpl : (backTo pos (starEach es X.env)).any (·.1) = false := by rfl) : DE X W (.Call (.Name x p) (e :: es) [] pos) (wCB op wa) := ⟨(pe_callTy hc hg hm hv ha.pa hn hdb he hpl).imp fun _ _ _ h => h.cb ok⟩
end
end DL


/-! DL m: defs by name. -/
namespace DL
open PySem PySem.Spec PyProof.Rows L2
/-- the def of the name x keeps the promise sp -/
structure DCal (P : Program) (w : World) (K : PySem.W.Frag) (mg : Str → Option Value) (base : Heap) (x : Str) (k : Nat) (sp : DSp) : Prop where
  ex : ∃ (f : Addr) (fd : FuncData) (ps : List Str), mg x = some (.ref f) ∧ PySem.W.keepIn K (.ref f) = true ∧ Binds K fd ps [] ∧ GW.Ok P w K mg base (L2.CX P w) k f fd ps (toSp sp)
theorem DCal.mono {P : Program} {w : World} {K : PySem.W.Frag} {mg : Str → Option Value} {base : Heap} {x : Str} {j k : Nat} {sp : DSp} (c : DCal P w K mg base x j sp) (h : j ≤ k) : DCal P w K mg base x k sp := by
  obtain ⟨f, fd, ps, h1, h2, h3, h4⟩ := c.ex
  exact ⟨f, fd, ps, h1, h2, h3, ⟨h4.len, fun A out st Hh args us xs q e hr => h4.run A out st Hh args us xs q e (hr.mono h)⟩⟩
theorem fun_of {K : PySem.W.Frag} {x qual : Str} {st : Stmt} {f : Addr} {fd : FuncData} (F : FunD K x qual (defArgs st) (defBody st) (defScope st) [] [] f fd) : Fun K x qual st f fd := by
  obtain ⟨oc, od, dV, kV, doc, pm, an, cdv, ct, osl, rfl, lk, hcd, hD, _⟩ := F.ex
  rcases hD with ⟨_, rfl⟩ | ⟨e, _⟩
  · exact ⟨⟨oc, od, kV, doc, pm, an, cdv, ct, osl, rfl, lk, hcd⟩, F.kp⟩
  · exact absurd rfl e
/-- what a body's context gives -/
theorem takes0 {P : Program} {w : World} {K : PySem.W.Frag} {mg : Str → Option Value} {base : Heap} {N : List Str} {qual : Str} {scope : Scope} {f : Addr} {cd : Value} {A : Around} {outer : List Env} {s : Shared} {H : Hp} {E : XK} :
    Takes (cxOf (L2.CX P w) P w K mg base N qual scope f cd A outer s H E) (fun cls d _ H => E cls d H) := L2.takes_of rfl rfl rfl rfl
theorem owns0 {P : Program} {w : World} {K : PySem.W.Frag} {mg : Str → Option Value} {base : Heap} {N : List Str} {qual : Str} {scope : Scope} {f : Addr} {cd : Value} {A : Around} {outer : List Env} {s : Shared} {H : Hp} {E : XK} :
    PassesOwn (model P w) (A.deeper (envOfC qual scope s.heap.objs.size f cd)) (envOfC qual scope s.heap.objs.size f cd) (cxOf (L2.CX P w) P w K mg base N qual scope f cd A outer s H E).xe := passes_of (X := cxOf (L2.CX P w) P w K mg base N qual scope f cd A outer s H E) rfl
/-- f(..), f a def of the text -/
theorem de_def {X : Cx} {W : WX} {k : Nat} {sp : DSp} {x : Str} {p pos : Pos} {e : Expr} {es : List Expr} {wa : WA} (mds : List Md) (tk : Takes X W) (c : DCal X.prog X.w X.K X.mg X.base x k sp) (hr : Room k X.A) (noG : X.A.guards = some [])
    (ha : DA X W (e :: es) wa) (hg : Gl X x := by rfl) (hdb : (x == ("__debug__" : Str)) = false := by decide) (he : starEach (e :: es) X.env = (false, eval e X.env) :: starEach es X.env := by rfl) (hpl : (backTo pos (starEach es X.env)).any (·.1) = false := by rfl) :
    DE X W (.Call (.Name x p) (e :: es) [] pos) (wCall mds sp wa) := by
  obtain ⟨f, fd, ps, h1, h2, h3, h4⟩ := c.ex
  exact de_call mds tk h4 hr noG h1 h2 h3 ha hg hdb he hpl
end DL


/-! DL n: tuple(..), chained comparison. -/
namespace DL
open PySem PySem.Spec PyProof.Rows L2
variable {X : Cx} {W : WX}
theorem ok_tuple {K : PySem.W.Frag} : CallOk (fun xs H Q => ∃ p ys, xs = [.ref p] ∧ ((SqL K H p ys ∧ ∀ l, H l = none → Q (.ref l) (upd H l (.tup ys))) ∨ (SqT K H p ys ∧ Q (.ref p) H))) (on1 oTuple) := ok_on1 fun L Hf H v x P Q ex r h k => by
  obtain ⟨ys, e, h⟩ := opt_of h
  cases r with
  | @lst a vs xs h1 rx =>
    cases e
    exact ⟨a, vs, rfl, .inl ⟨.inl (.inl h1), fun l hl => k _ _ _ _ h (.tup hl rx)⟩⟩
  | @tup a vs xs h1 rx h2 =>
    cases e
    exact ⟨a, vs, rfl, .inr ⟨.inl (.inl h1), k _ _ _ _ h (.same (.tup h2 rx))⟩⟩
  | @fz a ns h1 =>
    cases e
    exact ⟨a, _, rfl, .inl ⟨.inl h1, fun l hl => k _ _ _ _ h (.tup hl (reps_ints ns))⟩⟩
  | _ => cases e
/-! ### a op b op' c -/
def wChain (op op' : Op2) (w1 w2 w3 : WE) : WE := fun st P E => w1 st (fun r1 st1 => w2 st1 (fun r2 st2 => opt (cont st2 r1) fun x => opt (cont st2 r2) fun y => op x y fun rv =>
  boolK (fun k _ => if k = true then w3 st2 (fun r3 st3 => opt (cont st3 r2) fun y' => opt (cont st3 r3) fun z => op' y' z fun rv' => P rv' st3) E else P (.d (.bl false)) st2) st2 rv) E) E
theorem LE.chain {σ : L2.St} {H : Hp} {Q : VK} {r r' : R2} {op op' : Op2} {w1 w2 w3 : WE} (ok : OpOk r op) (ok' : OpOk r' op') (h : LE W (wChain op op' w1 w2 w3) σ H Q) : tChain r r' (LE W w1) (LE W w2) (LE W w3) σ H Q := by
  obtain ⟨Γ, L, Hf, ad, st, P, E, s, hw, hP, hE⟩ := h
  refine ⟨Γ, L, Hf, ad, st, _, E, s, hw, fun r1 st1 h1 v1 Hf1 H1 n1 s1 k1 => ?_, hE⟩
  refine ⟨Γ, L, Hf1, ad, st1, _, E, s1, h1, fun r2 st2 h2 v2 Hf2 H2 n2 s2 k2 => ?_, hE.later n1⟩
  obtain ⟨x, cx, h2⟩ := opt_of h2
  obtain ⟨y, cy, h2⟩ := opt_of h2
  refine ok L Hf2 H2 v1 v2 x y _ _ s2.exf ((k1.later n2).reph s2 cx) (k2.reph s2 cy) h2 fun rv v Hf3 H3 hp res => ?_
  obtain ⟨n3, s3, k3⟩ := res.go s2
  obtain ⟨b, rfl, hp⟩ := boolK_of hp
  refine ⟨b, rep_bl k3, ?_⟩
  have n123 := (n1.trans n2).trans n3
  cases b with
  | false =>
    show Q (.bl false) H3
    exact hP _ _ hp _ Hf3 H3 n123 s3 (.bl false)
  | true =>
    show LE W w3 σ H3 _
    refine ⟨Γ, L, Hf3, ad, st2, _, E, s3, hp, fun r4 st4 h4 v4 Hf4 H4 n4 s4 k4 => ?_, hE.later n123⟩
    obtain ⟨y', cy', h4⟩ := opt_of h4
    obtain ⟨z, cz, h4⟩ := opt_of h4
    refine ok' L Hf4 H4 v2 v4 y' z _ _ s4.exf ((k2.later (n3.trans n4)).reph s4 cy') (k4.reph s4 cz) h4 fun rv' v' Hf5 H5 hp5 res5 => ?_
    obtain ⟨n5, s5, k5⟩ := res5.go s4
    exact hP rv' st4 hp5 v' Hf5 H5 ((n123.trans n4).trans n5) s5 (k5.from (n123.trans n4))
theorem de_chain {a b c : Expr} {op op' : CmpOp} {r r' : R2} {o o' : Op2} {w1 w2 w3 : WE} {pos : Pos} (ho : OpR X (compareOp op) r) (ok : OpOk r o) (ho' : OpR X (compareOp op') r') (ok' : OpOk r' o') (ha : DE X W a w1) (hb : DE X W b w2) (hc : DE X W c w3)
    (hm : lastMarks [op, op'] [b, c] = false := by with_unfolding_all rfl) : DE X W (.Compare a [op, op'] [b, c] pos) (wChain o o' w1 w2 w3) := ⟨(pe_chain ho ho' ha.pe hb.pe hc.pe hm).imp fun _ _ _ h => h.chain ok ok'⟩
/-! ### slices -/
def cutL (xs : List D) (lo hi : Option Int) : List D := (xs.drop (HT.sIx xs.length 0 lo)).take (HT.sIx xs.length xs.length hi - HT.sIx xs.length 0 lo)
theorem reps_cut {Hf : Hp} {vs : List V} {xs : List D} {lo hi : Option Int} (h : Reps Hf vs xs) : Reps Hf (cutV vs lo hi) (cutL xs lo hi) := by
  unfold cutV cutL
  rw [h.length]
  exact (h.drop _).take _
/-- a slice's part: left out, or an int -/
abbrev WO := S → (Option Int → S → Prop) → XC → Prop
def wNoPart : WO := fun st P _ => P none st
def wPart (w : WE) : WO := fun st P E => w st (fun r st1 => match r with
  | .d (.int i) => P (some i) st1
  | _ => False) E
def LO (W : WX) (w : WO) : TO := fun σ H Q => ∃ Γ L Hf ad st P E, Sat Γ L Hf ad st σ H ∧ w st P E ∧
  (∀ b st', P b st' → ∀ Hf' H', Nxt ad st Hf H st' Hf' H' → Sat Γ L Hf' ad st' σ H' → Q b H') ∧ XOk W Γ L Hf ad st σ H E
structure DO (X : Cx) (W : WX) (e : Option Expr) (w : WO) : Prop where
  po : PO X e (LO W w)
theorem _root_.L2.PO.imp {X : Cx} {e : Option Expr} {t t' : TO} (h : PO X e t) (i : ∀ σ H Q, t' σ H Q → t σ H Q) : PO X e t' := ⟨fun pins s σ H Q I q => h.run pins s σ H Q I (i σ H Q q)⟩
theorem do_none : DO X W none wNoPart := ⟨po_none.imp fun σ H Q ⟨Γ, L, Hf, ad, st, P, E, s, hw, hP, hE⟩ => hP _ _ hw Hf H Nxt.refl s⟩
theorem do_some {e : Expr} {w : WE} (h : DE X W e w) : DO X W (some e) (wPart w) := ⟨(po_some h.pe).imp fun σ H Q ⟨Γ, L, Hf, ad, st, P, E, s, hw, hP, hE⟩ => by
  refine ⟨Γ, L, Hf, ad, st, _, E, s, hw, fun r st1 h1 v Hf1 H1 n1 s1 k1 => ?_, hE⟩
  cases r with
  | d x =>
    cases x with
    | int i =>
      have k1 : Rep Hf1 v (.int i) := k1
      cases k1
      exact ⟨i, rfl, hP _ _ h1 Hf1 H1 n1 s1⟩
    | _ => exact h1.elim
  | _ => exact h1.elim⟩
/-- what a slice gives -/
def cutD (x : D) (lo hi : Option Int) (P : RV → Prop) : Prop := match x with
  | .lst xs => P (.n (.lst (cutL xs lo hi)))
  | .fz ns => P (.n (.lst (cutL (ns.map D.int) lo hi)))
  | .tup xs => ¬ (HT.sIx xs.length 0 lo = 0 ∧ HT.sIx xs.length xs.length hi = xs.length) ∧ P (.d (.tup (cutL xs lo hi)))
  | .str z => z.length ≤ sizeLine ∧ P (.d (.str (cutS z lo hi)))
  | _ => False
def rSlX (K : PySem.W.Frag) : V → Option Int → Option Int → Hp → VK → Prop := fun x lo hi H Q => rSlL K x lo hi H Q ∨ rSlT K x lo hi H Q ∨ rSlS x lo hi H Q
theorem sl_any : SlR X (rSlX X.K) := SlR.or sl_list (SlR.or sl_tup sl_str)
def wSl (w : WE) (wl wh : WO) : WE := fun st P E => w st (fun r st1 => wl st1 (fun lo st2 => wh st2 (fun hi st3 => opt (cont st3 r) fun x => cutD x lo hi fun rv => P rv st3) E) E) E
theorem LE.sl {σ : L2.St} {H : Hp} {Q : VK} {K : PySem.W.Frag} {w : WE} {wl wh : WO} (h : LE W (wSl w wl wh) σ H Q) : tSl (rSlX K) (LE W w) (LO W wl) (LO W wh) σ H Q := by
  obtain ⟨Γ, L, Hf, ad, st, P, E, s, hw, hP, hE⟩ := h
  refine ⟨Γ, L, Hf, ad, st, _, E, s, hw, fun r1 st1 h1 v1 Hf1 H1 n1 s1 k1 => ?_, hE⟩
  refine ⟨Γ, L, Hf1, ad, st1, _, E, s1, h1, fun lo st2 h2 Hf2 H2 n2 s2 => ?_, hE.later n1⟩
  refine ⟨Γ, L, Hf2, ad, st2, _, E, s2, h2, fun hi st3 h3 Hf3 H3 n3 s3 => ?_, hE.later (n1.trans n2)⟩
  obtain ⟨x, cx, h3⟩ := opt_of h3
  have rh := (k1.later (n2.trans n3)).reph s3 cx
  have n123 := (n1.trans n2).trans n3
  have fin : ∀ {rv v Hf' H'}, P rv st3 → Res Hf3 H3 rv v Hf' H' → Q v H' := fun {rv v Hf' H'} hp res => by
    obtain ⟨n4, s4, k4⟩ := res.go s3
    exact hP rv st3 hp v Hf' H' (n123.trans n4) s4 (k4.from n123)
  cases rh with
  | lst h4 r => exact .inl ⟨_, _, rfl, .inl (.inl h4), fun p hp => fin h3 (.new hp ⟨_, rfl, reps_cut r⟩)⟩
  | fz h4 => exact .inl ⟨_, _, rfl, .inl h4, fun p hp => fin h3 (.new hp ⟨_, rfl, reps_cut (reps_ints _)⟩)⟩
  | tup h4 r h5 => exact .inr (.inl ⟨_, _, rfl, .inl (.inl h4), by rw [r.length]; exact h3.1, fun p hp => fin h3.2 (.tup hp (reps_cut r))⟩)
  | str z => exact .inr (.inr ⟨z, rfl, h3.1, fin h3.2 (.same (.str _))⟩)
  | _ => exact h3.elim
theorem de_sl {e : Expr} {lo hi : Option Expr} {w : WE} {wl wh : WO} {p2 pos : Pos} (he : DE X W e w) (hl : DO X W lo wl) (hh : DO X W hi wh) : DE X W (.Subscript e (.Slice lo hi none p2) pos) (wSl w wl wh) := ⟨(pe_slice sl_any he.pe hl.po hh.po).imp fun _ _ _ h => h.sl⟩
end DL


/-! DL o: texts, any and all, isinstance, names of the module, several targets, stars. -/
namespace DL
open PySem PySem.Spec PyProof.Rows L2 C8
variable {X : Cx} {W : WX}
/-! ### lists of texts, of truth values -/
def strsD : List D → Option (List Str)
  | [] => some []
  | .str z :: r => (strsD r).map (z :: ·)
  | _ => none
theorem strsD_reps {Hf : Hp} : ∀ {vs : List V} {xs : List D} {zs : List Str}, Reps Hf vs xs → strsD xs = some zs → vs = zs.map V.str
  | _, [], _, .nil, e => by
    cases e
    rfl
  | _, x :: xs, zs, .cons h r, e => by
    cases x with
    | str z =>
      obtain ⟨ys, h1, rfl⟩ := Option.map_eq_some_iff.mp (show (strsD xs).map (z :: ·) = some zs from e)
      cases h
      rw [strsD_reps r h1]
      rfl
    | _ => cases e
theorem strsD_map : ∀ zs : List Str, strsD (zs.map D.str) = some zs
  | [] => rfl
  | z :: zs => by
    show (strsD (zs.map D.str)).map (z :: ·) = _
    rw [strsD_map zs]
    rfl
theorem reps_strs {Hf : Hp} : ∀ zs : List Str, Reps Hf (zs.map V.str) (zs.map D.str)
  | [] => .nil
  | z :: zs => .cons (.str z) (reps_strs zs)
def blsD : List D → Option (List Bool)
  | [] => some []
  | .bl z :: r => (blsD r).map (z :: ·)
  | _ => none
theorem blsD_reps {Hf : Hp} : ∀ {vs : List V} {xs : List D} {zs : List Bool}, Reps Hf vs xs → blsD xs = some zs → vs = zs.map V.bl
  | _, [], _, .nil, e => by
    cases e
    rfl
  | _, x :: xs, zs, .cons h r, e => by
    cases x with
    | bl z =>
      obtain ⟨ys, h1, rfl⟩ := Option.map_eq_some_iff.mp (show (blsD xs).map (z :: ·) = some zs from e)
      cases h
      rw [blsD_reps r h1]
      rfl
    | _ => cases e
theorem blsD_map : ∀ zs : List Bool, blsD (zs.map D.bl) = some zs
  | [] => rfl
  | z :: zs => by
    show (blsD (zs.map D.bl)).map (z :: ·) = _
    rw [blsD_map zs]
    rfl
/-- len(set(x)) -/
def oLenS : Op1 := fun x P => opt (itemsD x) fun xs => opt (strsD xs) fun zs => zs.length ≤ 1000 ∧ P (.d (.int ((ML.metS zs).length : Nat)))
def rLenS (K : PySem.W.Frag) : V → Hp → VK → Prop := fun x H Q => ∃ l, ∃ xs : List Str, x = .ref l ∧ (SqL K H l (xs.map V.str) ∨ SqT K H l (xs.map V.str)) ∧ xs.length ≤ 1000 ∧ Q (.int ((ML.metS xs).length : Nat)) H
theorem ok_lenS {K : PySem.W.Frag} : Op1Ok (rLenS K) oLenS := fun L Hf H v x P Q ex r h k => by
  obtain ⟨xs, e, h⟩ := opt_of h
  obtain ⟨zs, e2, hz, h⟩ := opt_of h
  have q := k _ _ _ _ h (.same (.int _))
  cases r with
  | @lst a vs ys h1 rx =>
    cases e
    have ev := strsD_reps rx e2
    subst ev
    exact ⟨a, zs, rfl, .inl (sqL_of h1), hz, q⟩
  | @tup a vs ys h1 rx =>
    cases e
    have ev := strsD_reps rx e2
    subst ev
    exact ⟨a, zs, rfl, .inr (sqT_of h1), hz, q⟩
  | @fz a ns h1 =>
    cases e
    cases ns with
    | nil =>
      cases e2
      exact ⟨a, [], rfl, .inl (.inl h1), hz, q⟩
    | cons n ns => cases e2
  | _ => cases e
theorem de_lenS {a : Expr} {w : WE} {p p2 q pos : Pos} (hm : X.mg "len" = none) (hm2 : X.mg "set" = none) (ha : DE X W a w) (hc : X.calm = true := by rfl) (hg : Gl X "len" := by rfl) (hg2 : Gl X "set" := by rfl)
    (na : starEach [a] X.env = (false, eval a X.env) :: starEach [] X.env := by rfl) : DE X W (.Call (.Name "len" p) [.Call (.Name "set" p2) [a] [] q] [] pos) (wUn oLenS w) :=
  ⟨(ML.pe_lenS hc hg hm hg2 hm2 ha.pe na).imp fun σ H Q h => LE.un (r := rLenS X.K) ok_lenS h⟩
/-- any, all of a list -/
def oAny : Op1 := fun x P => match x with
  | .lst xs => opt (blsD xs) fun bs => P (.d (.bl (bs.any id)))
  | _ => False
def oAll : Op1 := fun x P => match x with
  | .lst xs => opt (blsD xs) fun bs => P (.d (.bl (bs.all id)))
  | _ => False
theorem ok_any {K : PySem.W.Frag} : CallOk (rAny K) (on1 oAny) := ok_on1 fun L Hf H v x P Q ex r h k => by
  cases r with
  | @lst a vs xs h1 rx =>
    obtain ⟨bs, e, h⟩ := opt_of (show opt (blsD xs) (fun bs => P (.d (.bl (bs.any id)))) from h)
    have ev := blsD_reps rx e
    subst ev
    exact ⟨a, bs, rfl, sqL_of h1, k _ _ _ _ h (.same (.bl _))⟩
  | _ => exact h.elim
theorem ok_all {K : PySem.W.Frag} : CallOk (rAll K) (on1 oAll) := ok_on1 fun L Hf H v x P Q ex r h k => by
  cases r with
  | @lst a vs xs h1 rx =>
    obtain ⟨bs, e, h⟩ := opt_of (show opt (blsD xs) (fun bs => P (.d (.bl (bs.all id)))) from h)
    have ev := blsD_reps rx e
    subst ev
    exact ⟨a, bs, rfl, sqL_of h1, k _ _ _ _ h (.same (.bl _))⟩
  | _ => exact h.elim
/-- sorted of texts -/
def oSorted : Op1 := fun x P => match x with
  | .lst xs => opt (strsD xs) fun zs => zs.length < 64 ∧ ∀ ys : List Str, ys.Perm zs → sortedS ys = true → P (.n (.lst (ys.map D.str)))
  | _ => False
theorem ok_sorted {K : PySem.W.Frag} : CallOk (rSortedS K) (on1 oSorted) := ok_on1 fun L Hf H v x P Q ex r h k => by
  cases r with
  | @lst a vs xs h1 rx =>
    obtain ⟨zs, e, hz, h⟩ := opt_of (show opt (strsD xs) (fun zs => zs.length < 64 ∧ ∀ ys : List Str, ys.Perm zs → sortedS ys = true → P (.n (.lst (ys.map D.str)))) from h)
    have ev := strsD_reps rx e
    subst ev
    exact ⟨a, zs, rfl, sqL_of h1, hz, fun ys p hp hs hn => k _ _ _ _ (h ys hp hs) (.new hn ⟨_, rfl, reps_strs ys⟩)⟩
  | _ => exact h.elim

/-! ### isinstance -/
def tyS : D → Option String
  | .non => some "NoneType"
  | .bl _ => some "bool"
  | .int _ => some "int"
  | .str _ => some "str"
  | .lst _ => some "list"
  | .fz _ => some "list"
  | .tup _ => some "tuple"
  | .dk _ => some "dict"
  | _ => none
def tyIn (a : String) (Ts : List String) : Bool := Ts.any fun T => a == T || (a == "bool" && T == "int")
def tyTs : List String := ["NoneType", "bool", "int", "str", "list", "tuple", "dict"]
theorem kit_tab : ∀ a ∈ tyTs, ∀ T ∈ ["bool", "int", "str", "list", "tuple", "dict"], kitB a T = some (a == T || (a == "bool" && T == "int")) := by decide +kernel
theorem tyS_mem {x : D} {a : String} (h : tyS x = some a) : a ∈ tyTs := by
  cases x <;> cases h <;> decide
theorem tyX_of {K : PySem.W.Frag} {Hf H : Hp} {v : V} {x : D} {a : String} (r : RepH Hf H v x) (h : tyS x = some a) : TyX K H v (.type a) := by
  cases r with
  | non => cases h; exact .base .non
  | bl b => cases h; exact .base (.bl b)
  | int i => cases h; exact .base (.int i)
  | str z => cases h; exact .base (.str z)
  | lst h1 _ => cases h; exact .base (.lst h1)
  | fz h1 =>
    cases h
    rcases h1 with h1 | ⟨o, h1⟩
    · exact .base (.lst h1)
    · exact .base (.frz h1)
  | tup h1 _ _ => cases h; exact .base (.tup h1)
  | dk h1 _ =>
    cases h
    rcases h1 with h1 | ⟨o, h1⟩
    · exact .base (.dK h1)
    · exact .fDict h1
  | _ => cases h
def wIsi (Ts : List String) (w : WE) : WE := fun st P E => w st (fun r st1 => opt (cont st1 r) fun x => opt (tyS x) fun a => P (.d (.bl (tyIn a Ts))) st1) E
theorem kit_any {K : PySem.W.Frag} {a : String} (ha : a ∈ tyTs) : ∀ {Ts : List String}, (∀ T ∈ Ts, T ∈ ["bool", "int", "str", "list", "tuple", "dict"]) → PySem.W.kitAny K (.type a) (Ts.map Value.type) = some (tyIn a Ts)
  | [], _ => rfl
  | T :: Ts, h => by
    have h1 := kit_ty (K := K) (kit_tab a ha T (h T List.mem_cons_self))
    have h2 := kit_any (K := K) ha (Ts := Ts) fun T' hT => h T' (List.mem_cons_of_mem _ hT)
    show PySem.W.kitAny K (.type a) (.type T :: Ts.map Value.type) = _
    unfold PySem.W.kitAny
    rw [h1]
    show _ = some (((a == T || (a == "bool" && T == "int")) || tyIn a Ts))
    cases (a == T || (a == "bool" && T == "int")) with
    | true => rfl
    | false => exact h2
section
variable {e : Expr} {w : WE} {p q pos tpos q2 : Pos} {T : Str}
theorem de_isi (T0 : String) (hm : X.mg "isinstance" = none) (he : DE X W e w) (hT : T0 ∈ ["bool", "int", "str", "list", "tuple", "dict"]) (hmT : X.mg T = none) (hvT : bootBuiltins T = some (.type T0)) (hgT : Gl X T := by rfl) (hg : Gl X "isinstance" := by rfl)
    (nT : T ≠ "__name__" := by decide) (dT : (T == ("__debug__" : Str)) = false := by decide)
    (hs : starEach [e, .Name T q] X.env = (false, eval e X.env) :: starEach [.Name T q] X.env := by rfl) (hpl : (backTo pos (starEach [.Name T q] X.env)).any (·.1) = false := by rfl)
    (hs2 : starEach [.Name T q] X.env = (false, eval (.Name T q) X.env) :: starEach [] X.env := by rfl) : DE X W (.Call (.Name "isinstance" p) [e, .Name T q] [] pos) (wIsi [T0] w) := by
  have h : PE X (.Call (.Name "isinstance" p) [e, .Name T q] [] pos) (tCB (rIsi X.K) (tCons (LE W w) (tCons (tC (.ty T0)) tNil))) :=
    pe_callB call_isi hg hm (by decide +kernel) (pa_cons he.pe (pa_cons (pe_bltn (v := .ty T0) hgT hmT hvT rfl nT dT) pa_nil hs2) hs) (by decide) (by decide) hs hpl
  refine ⟨h.imp fun σ H Q hw => ?_⟩
  obtain ⟨Γ, L, Hf, ad, st, P, E, s, hw, hP, hE⟩ := hw
  refine ⟨Γ, L, Hf, ad, st, _, E, s, hw, fun r1 st1 h1 v Hf1 H1 n1 s1 k1 => ?_, hE⟩
  obtain ⟨x, cx, h1⟩ := opt_of h1
  obtain ⟨a, ea, h1⟩ := opt_of h1
  have hk : PySem.W.kitOne X.K (.type a) (.type T0) = some (tyIn a [T0]) := by
    rw [kit_ty (K := X.K) (kit_tab a (tyS_mem ea) T0 hT)]
    simp [tyIn]
  exact ⟨v, .ty T0, .type a, .type T0, _, rfl, .ty T0, tyX_of (k1.reph s1 cx) ea, hk, hP _ _ h1 _ Hf1 H1 n1 s1 (.bl _)⟩
theorem de_isi2 (T0 U0 : String) {U : Str} {kt : Nat} (hm : X.mg "isinstance" = none) (he : DE X W e w) (hT : T0 ∈ ["bool", "int", "str", "list", "tuple", "dict"]) (hU : U0 ∈ ["bool", "int", "str", "list", "tuple", "dict"]) (hmT : X.mg T = none) (hvT : bootBuiltins T = some (.type T0))
    (hmU : X.mg U = none) (hvU : bootBuiltins U = some (.type U0)) (hgT : Gl X T := by rfl) (hgU : Gl X U := by rfl) (hg : Gl X "isinstance" := by rfl)
    (nT : T ≠ "__name__" := by decide) (dT : (T == ("__debug__" : Str)) = false := by decide) (nU : U ≠ "__name__" := by decide) (dU : (U == ("__debug__" : Str)) = false := by decide)
    (hs : starEach [e, .Tuple [.Name T q, .Name U q2] kt tpos] X.env = (false, eval e X.env) :: starEach [.Tuple [.Name T q, .Name U q2] kt tpos] X.env := by rfl) (hpl : (backTo pos (starEach [.Tuple [.Name T q, .Name U q2] kt tpos] X.env)).any (·.1) = false := by rfl)
    (hs2 : starEach [.Tuple [.Name T q, .Name U q2] kt tpos] X.env = (false, eval (.Tuple [.Name T q, .Name U q2] kt tpos) X.env) :: starEach [] X.env := by rfl)
    (hs3 : starEach [.Name T q, .Name U q2] X.env = (false, eval (.Name T q) X.env) :: starEach [.Name U q2] X.env := by rfl) (hs4 : starEach [.Name U q2] X.env = (false, eval (.Name U q2) X.env) :: starEach [] X.env := by rfl) :
    DE X W (.Call (.Name "isinstance" p) [e, .Tuple [.Name T q, .Name U q2] kt tpos] [] pos) (wIsi [T0, U0] w) := by
  have h : PE X (.Call (.Name "isinstance" p) [e, .Tuple [.Name T q, .Name U q2] kt tpos] [] pos) (tCB (rIsiT X.K) (tCons (LE W w) (tCons (tTup (tCons (tC (.ty T0)) (tCons (tC (.ty U0)) tNil))) tNil))) :=
    pe_callB call_isiT hg hm (by decide +kernel) (pa_cons he.pe (pa_cons (pe_tup (pa_cons (pe_bltn (v := .ty T0) hgT hmT hvT rfl nT dT) (pa_cons (pe_bltn (v := .ty U0) hgU hmU hvU rfl nU dU) pa_nil hs4) hs3)) pa_nil hs2) hs) (by decide) (by decide) hs hpl
  refine ⟨h.imp fun σ H Q hw => ?_⟩
  obtain ⟨Γ, L, Hf, ad, st, P, E, s, hw, hP, hE⟩ := hw
  refine ⟨Γ, L, Hf, ad, st, _, E, s, hw, fun r1 st1 h1 v Hf1 H1 n1 s1 k1 => ?_, hE⟩
  obtain ⟨x, cx, h1⟩ := opt_of h1
  obtain ⟨a, ea, h1⟩ := opt_of h1
  refine ⟨by rw [sizeLine_eq]; exact (by decide : 2 ≤ 16777216), fun t ht => ?_⟩
  have s2 : Sat Γ L Hf1 ad st1 σ (upd H1 t (.tup [.ty T0, .ty U0])) := s1.alloc ht
  have n2 : Nxt ad st1 Hf1 H1 st1 Hf1 (upd H1 t (.tup [.ty T0, .ty U0])) := ⟨Ex.refl _, fun _ _ q => .inl q, fun a o q _ => upd_some ht q, fun a o q => ⟨o, upd_some ht q⟩, fun _ q => q⟩
  have hk := kit_any (K := X.K) (tyS_mem ea) (Ts := [T0, U0]) fun T' hT' => by
    rcases List.mem_cons.mp hT' with z | z
    · rw [z]; exact hT
    · rw [List.mem_singleton.mp z]; exact hU
  exact ⟨v, t, [.ty T0, .ty U0], .type a, [.type T0, .type U0], _, rfl, upd_same, .cons (.ty T0) (.cons (.ty U0) .nil), tyX_of ((k1.later n2).reph s2 cx) ea, hk, hP _ _ h1 _ Hf1 _ (n1.trans n2) s2 (.bl _)⟩
end

/-! ### constants of the module -/
theorem de_gs {x : Str} {z : Str} {pos : Pos} (h : ∃ u, X.mg x = some u ∧ RelV (.str z) u) (hg : Gl X x := by rfl) (dx : (x == ("__debug__" : Str)) = false := by decide) : DE X W (.Name x pos) (wC (.str z)) := ⟨(pe_gc (v := .str z) hg h dx).imp fun _ _ _ h => h.c fun _ => .str z⟩
theorem de_gi {x : Str} {z : Int} {pos : Pos} (h : ∃ u, X.mg x = some u ∧ RelV (.int z) u) (hg : Gl X x := by rfl) (dx : (x == ("__debug__" : Str)) = false := by decide) : DE X W (.Name x pos) (wC (.int z)) := ⟨(pe_gc (v := .int z) hg h dx).imp fun _ _ _ h => h.c fun _ => .int z⟩

/-! ### several targets -/
def wPar (i j : Nat) (w1 w2 : WE) : WS := fun N st => w1 st (fun r1 st1 => w2 st1 (fun r2 st2 => asgK i { N with nx := fun st3 => asgK j N st3 r2 } st2 r1) N.ex) N.ex
/-- a value stored: the state behind -/
theorem Sat.store {Γ : Gm} {L : List Addr} {Hf Hb H : Hp} {ad : Nat → Addr} {st : S} {σ : L2.St} {i : Nat} {v : V} {r : RV} {N : DN} (s : Sat Γ L Hf ad st σ H) (k : RepR Γ Hf ad st σ Hb H v r) (h : asgK i N st r) :
    ∃ ad' st', N.nx st' ∧ Sat Γ L Hf ad' st' (σ.set i (some v)) H ∧ ∀ j, Owns st' j → (Owns st j ∧ ad' j = ad j) ∨ ((∃ c, r = .n c) ∧ v = .ref (ad' j)) := by
  have old : ∀ {sl : Slot} {j : Nat}, i < st.length → (∀ c, sl ≠ .o c) → (∀ c, sl ≠ .p c) → Owns (st.set i sl) j → Owns st j := fun {sl j} li n1 n2 hj => by
    rcases hj with ⟨c, q⟩ | ⟨c, q⟩
    · rcases set_back li q with ⟨_, z⟩ | ⟨_, z⟩
      · exact absurd z.symm (n1 c)
      · exact .inl ⟨c, z⟩
    · rcases set_back li q with ⟨_, z⟩ | ⟨_, z⟩
      · exact absurd z.symm (n2 c)
      · exact .inr ⟨c, z⟩
  cases r with
  | d x => exact ⟨ad, _, h.2, s.putV h.1.lt (.inl ⟨x, rfl⟩) ⟨v, rfl, k⟩, fun j hj => .inl ⟨old h.1.lt (fun _ => Slot.noConfusion) (fun _ => Slot.noConfusion) hj, rfl⟩⟩
  | b x => exact ⟨ad, _, h.2, s.putV h.1.lt (.inr (.inl ⟨x, rfl⟩)) ⟨v, rfl, k⟩, fun j hj => .inl ⟨old h.1.lt (fun _ => Slot.noConfusion) (fun _ => Slot.noConfusion) hj, rfl⟩⟩
  | n c =>
    obtain ⟨p', rfl, e1, e2, e3, e4, e5⟩ := k
    refine ⟨_, _, h.2, s.putO h.1.lt e2 e3 e4 e5, fun j hj => ?_⟩
    show (_ ∧ (if j = i then p' else ad j) = ad j) ∨ (_ ∧ V.ref p' = .ref (if j = i then p' else ad j))
    by_cases e : j = i
    · rw [if_pos e]
      exact .inr ⟨⟨c, rfl⟩, rfl⟩
    · rw [if_neg e]
      refine .inl ⟨?_, rfl⟩
      rcases hj with ⟨c, q⟩ | ⟨c, q⟩ <;> rw [List.getElem?_set_ne (Ne.symm e)] at q
      · exact .inl ⟨c, q⟩
      · exact .inr ⟨c, q⟩
  | sl j => exact h.elim
theorem asgK_sl {i j : Nat} {N : DN} {st : S} {r : RV} (h : asgK i N st r) : r ≠ .sl j := fun z => by
  rw [z] at h
  exact h
theorem RepR.lives {Γ : Gm} {Hf Hb H : Hp} {ad : Nat → Addr} {st : S} {σ : L2.St} {v : V} {c : Cell} (k : RepR Γ Hf ad st σ Hb H v (.n c)) : ∃ p o, v = .ref p ∧ H p = some o := by
  obtain ⟨p', e, _, _, _, _, u, h, _⟩ := k
  exact ⟨p', u, e, h⟩
/-- a value that was there before another was stored: what the second begins from stands behind the first -/
theorem RepR.kept {Γ : Gm} {Hf Hb H : Hp} {ad ad' : Nat → Addr} {st st' : S} {σ σ' : L2.St} {v v1 : V} {r r1 : RV} (k : RepR Γ Hf ad st σ Hb H v r) (h : ∀ i, r ≠ .sl i) (no : ∀ j, Owns st' j → (Owns st j ∧ ad' j = ad j) ∨ ((∃ c, r1 = .n c) ∧ v1 = .ref (ad' j)))
    (l1 : (∃ c, r1 = .n c) → ∃ p o, v1 = .ref p ∧ Hb p = some o) : RepR Γ Hf ad' st' σ' Hb H v r := by
  cases r with
  | d x => exact k
  | b x => exact k
  | sl i => exact absurd rfl (h i)
  | n c =>
    obtain ⟨p, e, h1, h2, h3, h4, h5⟩ := k
    refine ⟨p, e, h1, h2, h3, fun j hj z => ?_, h5⟩
    rcases no j hj with ⟨q1, q2⟩ | ⟨q1, q2⟩
    · rw [q2] at z
      exact h4 j q1 z
    · obtain ⟨p1, o1, e1, e2⟩ := l1 q1
      rw [e1] at q2
      cases q2
      rw [z, h1] at e2
      cases e2
theorem LS.par {i j : Nat} {w1 w2 : WE} {De : Ends} {σ : L2.St} {H : Hp} (h : LS W (wPar i j w1 w2) De σ H) : tPar i j (tCons (LE W w1) (tCons (LE W w2) tNil)) De σ H := by
  obtain ⟨Γ, L, Hf, ad, st, N, s, hw, c⟩ := h
  refine ⟨Γ, L, Hf, ad, st, _, _, s, hw, fun r1 st1 h1 v1 Hf1 H1 n1 s1 k1 => ?_, c.xok⟩
  refine ⟨Γ, L, Hf1, ad, st1, _, _, s1, h1, fun r2 st2 h2 v2 Hf2 H2 n2 s2 k2 => ?_, c.xok⟩
  refine ⟨v1, v2, rfl, ?_⟩
  obtain ⟨ad3, st3, h3, s3, no3⟩ := s2.store (k1.later n2) h2
  have k3 : RepR Γ Hf2 ad3 st3 (σ.set i (some v1)) H1 H2 v2 r2 := k2.kept (fun l => asgK_sl h3) no3 fun ⟨c1, er⟩ => by
    subst er
    exact k1.lives
  obtain ⟨ad4, st4, h4, s4, _⟩ := s3.store k3 h3
  exact c.nx _ h4 _ _ _ _ s4
def wPar3 (i j l : Nat) (w1 w2 w3 : WE) : WS := fun N st => w1 st (fun r1 st1 => w2 st1 (fun r2 st2 => w3 st2 (fun r3 st3 => asgK i { N with nx := fun st4 => asgK j { N with nx := fun st5 => asgK l N st5 r3 } st4 r2 } st3 r1) N.ex) N.ex) N.ex
theorem LS.par3 {i j l : Nat} {w1 w2 w3 : WE} {De : Ends} {σ : L2.St} {H : Hp} (h : LS W (wPar3 i j l w1 w2 w3) De σ H) : tPar3 i j l (tCons (LE W w1) (tCons (LE W w2) (tCons (LE W w3) tNil))) De σ H := by
  obtain ⟨Γ, L, Hf, ad, st, N, s, hw, c⟩ := h
  refine ⟨Γ, L, Hf, ad, st, _, _, s, hw, fun r1 st1 h1 v1 Hf1 H1 n1 s1 k1 => ?_, c.xok⟩
  refine ⟨Γ, L, Hf1, ad, st1, _, _, s1, h1, fun r2 st2 h2 v2 Hf2 H2 n2 s2 k2 => ?_, c.xok⟩
  refine ⟨Γ, L, Hf2, ad, st2, _, _, s2, h2, fun r3 st3 h3 v3 Hf3 H3 n3 s3 k3 => ?_, c.xok⟩
  refine ⟨v1, v2, v3, rfl, ?_⟩
  obtain ⟨ad4, st4, h4, s4, no4⟩ := s3.store ((k1.later n2).later n3) h3
  have k2' := k2.later n3
  have k4 : RepR Γ Hf3 ad4 st4 (σ.set i (some v1)) H1 H3 v2 r2 := k2'.kept (fun l => asgK_sl h4) no4 fun ⟨c1, er⟩ => by
    subst er
    exact k1.lives
  obtain ⟨ad5, st5, h5, s5, no5⟩ := s4.store k4 h4
  have k5 : RepR Γ Hf3 ad4 st4 (σ.set i (some v1)) H2 H3 v3 r3 := k3.kept (fun l => asgK_sl h5) no4 fun ⟨c1, er⟩ => by
    subst er
    exact (k1.later n2).lives
  have k6 : RepR Γ Hf3 ad5 st5 ((σ.set i (some v1)).set j (some v2)) H2 H3 v3 r3 := k5.kept (fun l => asgK_sl h5) no5 fun ⟨c1, er⟩ => by
    subst er
    exact k2.lives
  obtain ⟨ad6, st6, h6, s6, _⟩ := s5.store k6 h5
  exact c.nx _ h6 _ _ _ _ s6
section
variable {a b c : Expr} {w1 w2 w3 : WE} {px py pz pt pos : Pos} {x y z : Str} {kt : Nat} {pt2 : Pos} {k2 : Nat}
theorem ds_par (i j : Nat) (hN : X.N.Nodup) (h1 : DE X W a w1) (h2 : DE X W b w2) (hi : X.N[i]? = some x := by rfl) (hj : X.N[j]? = some y := by rfl) (hij : i ≠ j := by decide) (hx : X.env.scope.names.lookup x = some .local := by rfl) (hy : X.env.scope.names.lookup y = some .local := by rfl)
    (hc : X.calm = true := by rfl) (hw : swappedStores [.Tuple [.Name x px, .Name y py] kt pt] (.Tuple [a, b] k2 pt2) X.env = pure (some [x, y]) := by rfl) (hs : swapsWithSole [.Tuple [.Name x px, .Name y py] kt pt] (.Tuple [a, b] k2 pt2) pos.line X.env = pure false := by rfl)
    (hs1 : starEach [a, b] X.env = (false, eval a X.env) :: starEach [b] X.env := by rfl) (hs2 : starEach [b] X.env = (false, eval b X.env) :: starEach [] X.env := by rfl) : DS X W (.Assign [.Tuple [.Name x px, .Name y py] kt pt] (.Tuple [a, b] k2 pt2) pos) (wPar i j w1 w2) :=
  ⟨(ps_par hc hN hi hj hij hx hy (pa_cons h1.pe (pa_cons h2.pe pa_nil hs2) hs1) hw hs).imp fun _ _ _ h => h.par⟩
theorem ds_par3 (i j l : Nat) (hN : X.N.Nodup) (h1 : DE X W a w1) (h2 : DE X W b w2) (h3 : DE X W c w3) (hi : X.N[i]? = some x := by rfl) (hj : X.N[j]? = some y := by rfl) (hl : X.N[l]? = some z := by rfl) (hij : i ≠ j := by decide) (hil : i ≠ l := by decide) (hjl : j ≠ l := by decide)
    (hx : X.env.scope.names.lookup x = some .local := by rfl) (hy : X.env.scope.names.lookup y = some .local := by rfl) (hz : X.env.scope.names.lookup z = some .local := by rfl) (hc : X.calm = true := by rfl)
    (hw : swappedStores [.Tuple [.Name x px, .Name y py, .Name z pz] kt pt] (.Tuple [a, b, c] k2 pt2) X.env = pure (some [x, y, z]) := by rfl) (hs : swapsWithSole [.Tuple [.Name x px, .Name y py, .Name z pz] kt pt] (.Tuple [a, b, c] k2 pt2) pos.line X.env = pure false := by rfl)
    (hs1 : starEach [a, b, c] X.env = (false, eval a X.env) :: starEach [b, c] X.env := by rfl) (hs2 : starEach [b, c] X.env = (false, eval b X.env) :: starEach [c] X.env := by rfl) (hs3 : starEach [c] X.env = (false, eval c X.env) :: starEach [] X.env := by rfl) :
    DS X W (.Assign [.Tuple [.Name x px, .Name y py, .Name z pz] kt pt] (.Tuple [a, b, c] k2 pt2) pos) (wPar3 i j l w1 w2 w3) :=
  ⟨(ps_par3 hc hN hi hj hl hij hil hjl hx hy hz (pa_cons h1.pe (pa_cons h2.pe (pa_cons h3.pe pa_nil hs3) hs2) hs1) hw hs).imp fun _ _ _ h => h.par3⟩
end

/-! ### stars in displays -/
def wStar (w : WE) (wr : WA) : WA := fun st P E => w st (fun r st1 => opt (cont st1 r) fun x => opt (itemsD x) fun xs => wr st1 (fun rs st2 => P (xs.map RV.d ++ rs) st2) E) E
theorem reprs_ds {Γ : Gm} {Hf H Hb : Hp} {ad : Nat → Addr} {st : S} {σ : L2.St} : ∀ {vs : List V} {xs : List D}, Reps Hf vs xs → RepRs Γ Hf ad st σ Hb H vs (xs.map RV.d)
  | _, _, .nil => .nil
  | _, _, .cons h r => .cons h (reprs_ds r)
theorem RepRs.app {Γ : Gm} {Hf H Hb : Hp} {ad : Nat → Addr} {st : S} {σ : L2.St} : ∀ {vs ws : List V} {rs ss : List RV}, RepRs Γ Hf ad st σ Hb H vs rs → RepRs Γ Hf ad st σ Hb H ws ss → RepRs Γ Hf ad st σ Hb H (vs ++ ws) (rs ++ ss)
  | _, _, _, _, .nil, k => k
  | _, _, _, _, .cons h r, k => .cons h (r.app k)
theorem LA.star {w : WE} {wr : WA} {σ : L2.St} {H : Hp} {Q : List V → Hp → Prop} (h : LA W (wStar w wr) σ H Q) : StX.tStar X.K (LE W w) (LA W wr) σ H Q := by
  obtain ⟨Γ, L, Hf, ad, st, P, E, s, hw, hP, hE⟩ := h
  refine ⟨Γ, L, Hf, ad, st, _, E, s, hw, fun r1 st1 h1 v Hf1 H1 n1 s1 k1 => ?_, hE⟩
  obtain ⟨x, cx, h1⟩ := opt_of h1
  obtain ⟨xs, ex, h1⟩ := opt_of h1
  have fin : ∀ {vs : List V}, Reps Hf1 vs xs → LA W wr σ H1 fun ys H2 => Q (vs ++ ys) H2 := fun {vs} rv =>
    ⟨Γ, L, Hf1, ad, st1, _, E, s1, h1, fun rs st2 h2 ys Hf2 H2 n2 s2 k2 => hP _ _ h2 _ Hf2 H2 (n1.trans n2) s2 ((reprs_ds (rv.mono n2.ex)).app (k2.from n1)), hE.later n1⟩
  have kr := k1.reph s1 cx
  cases kr with
  | @lst a vs xs' h2 rx =>
    cases ex
    exact ⟨a, vs, rfl, .inr (sqL_of h2), fin rx⟩
  | @tup a vs xs' h2 rx =>
    cases ex
    exact ⟨a, vs, rfl, .inl (sqT_of h2), fin rx⟩
  | @fz a ns h2 =>
    cases ex
    exact ⟨a, _, rfl, .inr (.inl h2), fin (reps_ints ns)⟩
  | _ => cases ex
theorem da_star {e : Expr} {es : List Expr} {w : WE} {wr : WA} {p : Pos} (he : DE X W e w) (hr : DA X W es wr) (hs : starEach (.Starred e p :: es) X.env = (true, eval e X.env) :: starEach es X.env := by rfl) : DA X W (.Starred e p :: es) (wStar w wr) := ⟨(StX.pa_star he.pe hr.pa hs).imp fun _ _ _ h => h.star⟩

/-! ### methods of texts -/
def wM1 (op : Op2) (w1 w2 : WE) : WE := fun st P E => w1 st (fun r1 st1 => match r1 with
  | .d (.str a) => w2 st1 (fun r2 st2 => opt (cont st2 r2) fun y => op (.str a) y fun rv => P rv st2) E
  | _ => False) E
theorem LE.m1 {r : V → List V → Hp → VK → Prop} {op : Op2} {w1 w2 : WE} {σ : L2.St} {H : Hp} {Q : VK} (ok : OpOk (fun x y H Q => r x [y] H Q) op) (h : LE W (wM1 op w1 w2) σ H Q) : tM1 r (LE W w1) (LE W w2) σ H Q := by
  obtain ⟨Γ, L, Hf, ad, st, P, E, s, hw, hP, hE⟩ := h
  refine ⟨Γ, L, Hf, ad, st, _, E, s, hw, fun r1 st1 h1 v1 Hf1 H1 n1 s1 k1 => ?_, hE⟩
  cases r1 with
  | d x =>
    cases x with
    | str a =>
      cases k1 with
      | str z =>
        refine ⟨⟨a, rfl⟩, Γ, L, Hf1, ad, st1, _, E, s1, h1, fun r2 st2 h2 v2 Hf2 H2 n2 s2 k2 => ?_, hE.later n1⟩
        obtain ⟨y, cy, h2⟩ := opt_of h2
        refine ok L Hf2 H2 _ v2 _ y _ _ s2.exf (.str a) (k2.reph s2 cy) h2 fun rv v Hf' H' hp res => ?_
        obtain ⟨n3, s3, k3⟩ := res.go s2
        exact hP rv st2 hp v Hf' H' ((n1.trans n2).trans n3) s3 (k3.from (n1.trans n2))
    | _ => exact h1.elim
  | b x => exact h1.elim
  | n x => exact h1.elim
  | sl x => exact h1.elim
def oSplit : Op2 := fun x y P => match x, y with
  | .str a, .str b => (b.length == 0) = false ∧ a.length + 2 ≤ sizeLine ∧ P (.n (.lst ((Txt.split a b).map D.str)))
  | _, _ => False
def oJoin : Op2 := fun x y P => match x with
  | .str a => opt (itemsD y) fun xs => opt (strsD xs) fun zs => (zs.map (·.length)).sum + zs.length * a.length ≤ 16777216 ∧ P (.d (.str (Txt.join a zs)))
  | _ => False
abbrev rSplit : V → List V → Hp → VK → Prop := fun x xs H Q => ∃ a b, x = .str a ∧ xs = [.str b] ∧ (b.length == 0) = false ∧ a.length + 2 ≤ sizeLine ∧ rNewStrs (Txt.split a b) H Q
abbrev rJoin (K : PySem.W.Frag) : V → List V → Hp → VK → Prop := fun x xs H Q => ∃ a p, ∃ ys : List Str, x = .str a ∧ xs = [.ref p] ∧ (SqL K H p (ys.map V.str) ∨ SqT K H p (ys.map V.str)) ∧ (ys.map (·.length)).sum + ys.length * a.length ≤ 16777216 ∧ Q (.str (Txt.join a ys)) H
theorem ok_split : OpOk (fun x y H Q => rSplit x [y] H Q) oSplit := fun L Hf H v1 v2 x y P Q ex r1 r2 h k => by
  cases r1 with
  | str a =>
    cases r2 with
    | str b =>
      obtain ⟨h1, h2, h⟩ := h
      exact ⟨a, b, rfl, rfl, h1, h2, fun p hp => k _ _ _ _ h (.new hp ⟨_, rfl, reps_strs _⟩)⟩
    | _ => exact h.elim
  | _ => exact h.elim
theorem ok_join {K : PySem.W.Frag} : OpOk (fun x y H Q => rJoin K x [y] H Q) oJoin := fun L Hf H v1 v2 x y P Q ex r1 r2 h k => by
  cases r1 with
  | str a =>
    obtain ⟨xs, e1, h⟩ := opt_of (show opt (itemsD y) (fun xs => opt (strsD xs) fun zs => (zs.map (·.length)).sum + zs.length * a.length ≤ 16777216 ∧ P (.d (.str (Txt.join a zs)))) from h)
    obtain ⟨zs, e2, hz, h⟩ := opt_of h
    have q := k _ _ _ _ h (.same (.str _))
    cases r2 with
    | @lst p vs ys h1 rx =>
      cases e1
      have ev := strsD_reps rx e2
      subst ev
      exact ⟨a, p, zs, rfl, rfl, .inl (sqL_of h1), hz, q⟩
    | @tup p vs ys h1 rx =>
      cases e1
      have ev := strsD_reps rx e2
      subst ev
      exact ⟨a, p, zs, rfl, rfl, .inr (sqT_of h1), hz, q⟩
    | @fz p ns h1 =>
      cases e1
      cases ns with
      | nil =>
        cases e2
        exact ⟨a, p, [], rfl, rfl, .inl (.inl h1), hz, q⟩
      | cons n ns => cases e2
    | _ => cases e1
  | _ => exact h.elim
section
variable {o e : Expr} {w1 w2 : WE} {apos pos : Pos}
theorem de_split (ho : DE X W o w1) (he : DE X W e w2) (hs : starEach [e] X.env = [(false, eval e X.env)] := by rfl) (hbase : attributeBase o "split" X.env (eval o X.env) = eval o X.env := by rfl) (hline : (apos.endLine == pos.line) = true := by rfl) :
    DE X W (.Call (.Attribute o "split" apos) [e] [] pos) (wM1 oSplit w1 w2) := ⟨(pe_split ho.pe he.pe hs hbase hline).imp fun _ _ _ h => h.m1 (r := rSplit) ok_split⟩
theorem de_join (ho : DE X W o w1) (he : DE X W e w2) (hs : starEach [e] X.env = [(false, eval e X.env)] := by rfl) (hbase : attributeBase o "join" X.env (eval o X.env) = eval o X.env := by rfl) (hline : (apos.endLine == pos.line) = true := by rfl) :
    DE X W (.Call (.Attribute o "join" apos) [e] [] pos) (wM1 oJoin w1 w2) := ⟨(pe_join ho.pe he.pe hs hbase hline).imp fun _ _ _ h => h.m1 (r := rJoin X.K) ok_join⟩
end
/-! ### f-strings -/
def wFmt (w : WE) : WE := fun st P E => w st (fun r st1 => match r with
  | .d (.str y) => y.length ≤ sizeLine ∧ P (.d (.str y)) st1
  | .d (.int i) => i.natAbs.log2 < 1920 ∧ P (.d (.str (toString i))) st1
  | _ => False) E
theorem de_fmt {e : Expr} {w : WE} {pos : Pos} (he : DE X W e w) : DE X W (.FormattedValue e (-1) none pos) (wFmt w) := ⟨(pe_fmt he.pe).imp fun σ H Q ⟨Γ, L, Hf, ad, st, P, E, s, hw, hP, hE⟩ => by
  refine ⟨Γ, L, Hf, ad, st, _, E, s, hw, fun r1 st1 h1 v Hf1 H1 n1 s1 k1 => ?_, hE⟩
  cases r1 with
  | d x =>
    cases x with
    | str y =>
      cases k1
      exact .inl ⟨y, rfl, h1.1, hP _ _ h1.2 _ Hf1 H1 n1 s1 (.str y)⟩
    | int i =>
      cases k1
      exact .inr ⟨i, rfl, h1.1, hP _ _ h1.2 _ Hf1 H1 n1 s1 (.str _)⟩
    | _ => exact h1.elim
  | b x => exact h1.elim
  | n x => exact h1.elim
  | sl x => exact h1.elim⟩
inductive DJ (X : Cx) (W : WX) : List Expr → List WE → Prop where
  | nil : DJ X W [] []
  | cons {e : Expr} {w : WE} {es : List Expr} {ws : List WE} (h : DE X W e w) (r : DJ X W es ws) : DJ X W (e :: es) (w :: ws)
def jsN : List WE → Str → S → (Str → S → Prop) → XC → Prop
  | [], acc, st, P, _ => P acc st
  | w :: ws, acc, st, P, E => w st (fun r st1 => match r with
    | .d (.str y) => (acc ++ y).length ≤ sizeLine ∧ jsN ws (acc ++ y) st1 P E
    | _ => False) E
def wJs (ws : List WE) : WE := fun st P E => jsN ws Str.empty st (fun z st1 => P (.d (.str z)) st1) E
theorem jsN_ok {σ : L2.St} {Γ : Gm} {L : List Addr} {Q : Str → Hp → Prop} : ∀ {ws : List WE} {acc : Str} {Hf H : Hp} {ad : Nat → Addr} {st : S} {P : Str → S → Prop} {E : XC}, Sat Γ L Hf ad st σ H → jsN ws acc st P E →
    (∀ z st', P z st' → ∀ Hf' H', Nxt ad st Hf H st' Hf' H' → Sat Γ L Hf' ad st' σ H' → Q z H') → XOk W Γ L Hf ad st σ H E → tJs (ws.map (LE W)) acc σ H Q
  | [], acc, Hf, H, ad, st, P, E, s, hw, hP, hE => hP _ _ hw Hf H Nxt.refl s
  | w :: ws, acc, Hf, H, ad, st, P, E, s, hw, hP, hE => by
    refine ⟨Γ, L, Hf, ad, st, _, E, s, hw, fun r1 st1 h1 v Hf1 H1 n1 s1 k1 => ?_, hE⟩
    cases r1 with
    | d x =>
      cases x with
      | str y =>
        cases k1
        exact ⟨y, rfl, h1.1, jsN_ok s1 h1.2 (fun z st' hz Hf' H' n s' => hP z st' hz Hf' H' (n1.trans n) s') (hE.later n1)⟩
      | _ => exact h1.elim
    | b x => exact h1.elim
    | n x => exact h1.elim
    | sl x => exact h1.elim
theorem DJ.pj {es : List Expr} {ws : List WE} (h : DJ X W es ws) : PJ X es (ws.map (LE W)) := by
  induction h with
  | nil => exact .nil
  | cons h r ih => exact .cons h.pe ih
theorem de_joined {v1 v2 : Expr} {rest : List Expr} {ws : List WE} {pos : Pos} (h : DJ X W (v1 :: v2 :: rest) ws) : DE X W (.JoinedStr (v1 :: v2 :: rest) pos) (wJs ws) := ⟨(pe_joined h.pj).imp fun σ H Q ⟨Γ, L, Hf, ad, st, P, E, s, hw, hP, hE⟩ =>
  jsN_ok s hw (fun z st' hz Hf' H' n s' => hP _ st' hz _ Hf' H' n s' (.str z)) hE⟩
/-! ### xs[::-1] -/
def oRev : Op1 := fun x P => match x with
  | .lst xs => P (.n (.lst xs.reverse))
  | _ => False
theorem Reps.reverse {Hf : Hp} : ∀ {vs : List V} {xs : List D}, Reps Hf vs xs → Reps Hf vs.reverse xs.reverse
  | _, _, .nil => .nil
  | _, _, .cons h r => by
    rw [List.reverse_cons, List.reverse_cons]
    exact (Reps.reverse r).append (.cons h .nil)
theorem de_rev {e : Expr} {w : WE} {k : Nat} {p1 p2 p3 pos : Pos} (he : DE X W e w) : DE X W (.Subscript e (.Slice none none (some (.UnaryOp .USub (.Constant (.int 1) k p1) p2)) p3) pos) (wUn oRev w) :=
  ⟨(pe_revL he.pe).imp fun σ H Q h => LE.un (r := fun x H Q => ∃ a xs, x = .ref a ∧ SqL X.K H a xs ∧ ∀ p, H p = none → Q (.ref p) (upd H p (.lst xs.reverse))) (fun L Hf H v x P Q ex r h k => by
    cases r with
    | @lst a vs xs h1 rx => exact ⟨a, vs, rfl, sqL_of h1, fun p hp => k _ _ _ _ h (.new hp ⟨_, rfl, rx.reverse⟩)⟩
    | _ => exact h.elim) h⟩
end DL


/-! DL p: lists by comprehensions, enumerate, raise, try, instances made and read. -/
namespace DL
open PySem PySem.Spec PyProof.Rows L2
variable {X : Cx} {W : WX}
/-! ### x = [.. for ..] -/
theorem ds_setLc (i : Nat) {y : Str} {py : Pos} {elt tg iter : Expr} {ifs : List Expr} {scope : Scope} {own : List (Str × Nat)} {pos spos : Pos} {w : WI} {t : TG} {vs0 : List Nat} {g : WG} {wt : WT} {we : WE} (hc : X.calm = true) (hN : X.N.Nodup) (hi : DI X W tg iter w) (ok : BlkOk X.N X.env.scope scope own)
    (hv : ∀ j ∈ vs0, j ∈ own.map (·.2))
    (hg : ∀ (s : Shared) (H : Hp) (C : Addr) (cl : List (Str × Addr)) (fp : List Addr), PG (X.blk s H scope (compEnvC scope cl C X.env) fp) tg t) (hgo : GOk t vs0 g)
    (ht : ∀ (s : Shared) (H : Hp) (C : Addr) (cl : List (Str × Addr)) (fp : List Addr), DTs (X.blk s H scope (compEnvC scope cl C X.env) fp) W0 ifs wt)
    (he : ∀ (s : Shared) (H : Hp) (C : Addr) (cl : List (Str × Addr)) (fp : List Addr), DE (X.blk s H scope (compEnvC scope cl C X.env) fp) W0 elt we)
    (hy : X.N[i]? = some y := by rfl) (hyl : X.env.scope.names.lookup y = some .local := by rfl) (hsw : swapsWith (.ListComp elt [⟨tg, iter, ifs, 0⟩] scope pos) (some (.Name y py)) spos.line X.env = pure true := by rfl)
    (hs : ∀ x, foldedSetIterable iter X.env x = pure x := by intro _; rfl) : DS X W (.Assign [.Name y py] (.ListComp elt [⟨tg, iter, ifs, 0⟩] scope pos) spos) (wAsg i (wLc w g wt we (own.map (·.2)))) :=
  ⟨(ps_setLc hc hN hy hyl hsw hi.pi ok hg (fun s H C cl fp => (ht s H C cl fp).pts) (fun s H C cl fp => (he s H C cl fp).pe) hs).imp fun D σ H h => (LE.lc hgo hv (LS.asg h : LE W (wLc w g wt we (own.map (·.2))) σ H fun v H1 => gName i v σ H1 D.nx))⟩

/-! ### enumerate -/
def enumD : Nat → List D → List D
  | _, [] => []
  | i, x :: xs => .tup [.int (i : Nat), x] :: enumD (i + 1) xs
theorem enumD_length : ∀ (i : Nat) (xs : List D), (enumD i xs).length = xs.length
  | _, [] => rfl
  | i, x :: xs => congrArg (· + 1) (enumD_length (i + 1) xs)
theorem enumD_at : ∀ {xs : List D} {k i : Nat} {y : D}, (enumD k xs)[i]? = some y → ∃ x, xs[i]? = some x ∧ y = .tup [.int ((k + i : Nat) : Nat), x]
  | [], _, _, _, h => by cases h
  | x :: xs, k, 0, y, h => by
    have h : some (D.tup [.int (k : Nat), x]) = some y := h
    cases h
    exact ⟨x, rfl, rfl⟩
  | x :: xs, k, i + 1, y, h => by
    obtain ⟨z, h1, h2⟩ := enumD_at (xs := xs) (k := k + 1) (i := i) (by simpa [enumD] using h)
    refine ⟨z, by simpa using h1, ?_⟩
    rw [h2, show k + 1 + i = k + (i + 1) by omega]
theorem steps_enum {Γ : Gm} {L : List Addr} {Hf : Hp} {a : Addr} {vs : List V} {xs : List D} {K : PySem.W.Frag} (rd : ∀ Hf' ad' st' σ' H', Sat Γ L Hf' ad' st' σ' H' → Ex Hf Hf' → Rd H' a (.lst vs)) (r : Reps Hf vs xs) : Steps Γ L Hf (Ite K a) (enumD 0 xs) := fun Hf' ad' st' σ' H' s e i => by
  have h := rd Hf' ad' st' σ' H' s e
  refine ⟨fun y hy => ?_, fun hi => ⟨vs, rd_list h, by rw [r.length]; rw [enumD_length] at hi; exact hi⟩⟩
  obtain ⟨x, hx, rfl⟩ := enumD_at hy
  obtain ⟨v, hv, rv⟩ := r.get hx
  refine ⟨⟨vs, v, rd_list h, hv⟩, fun u H'' hy => ?_⟩
  obtain ⟨T, x2, rfl, hT, rfl, q⟩ := hy
  have e1 : x2 = v := Option.some.inj ((q vs (rd_list h)).symm.trans hv)
  subst e1
  refine ⟨_, .tup hT (.cons ?_ (.cons (rv.mono e) .nil))⟩
  rw [Nat.zero_add]
  exact .int _
def wEnum (w : WE) : WI := fun st P E => w st (fun r st1 => match r with
  | .d (.lst xs) => P (enumD 0 xs) st1
  | .b (.lst xs) => P (enumD 0 xs) st1
  | _ => False) E
theorem di_enum {elts : List Expr} {kk : Nat} {tpos p pos : Pos} {e : Expr} {w : WE} (hm : X.mg "enumerate" = none) (h : DE X W e w) (hg : Gl X "enumerate" := by rfl) (hs : starEach [e] X.env = [(false, eval e X.env)] := by rfl) (hs2 : starEach [e] X.env = (false, eval e X.env) :: starEach [] X.env := by rfl) :
    DI X W (.Tuple elts kk tpos) (.Call (.Name "enumerate" p) [e] [] pos) (wEnum w) := ⟨(pi_enum hg hm (pa_cons h.pe pa_nil hs2) hs).imp fun σ H R ⟨Γ, L, Hf, ad, st, P, E, s, hw, hP, hE⟩ => by
  refine ⟨Γ, L, Hf, ad, st, _, E, s, hw, fun r1 st1 h1 v Hf1 H1 n1 s1 k1 => ?_, hE⟩
  cases r1 with
  | d x =>
    cases k1 with
    | @lst a vs xs ha hr =>
      have rd : ∀ Hf' ad' st' σ' H', Sat Γ L Hf' ad' st' σ' H' → Ex Hf1 Hf' → Rd H' a (.lst vs) := fun Hf' ad' st' σ' H' s e => exl_rd s.exf (.inl (e _ _ ha))
      exact ⟨a, vs, rfl, rd_list (rd _ _ _ _ _ s1 (Ex.refl _)), hP _ _ h1 Hf1 H1 _ n1 s1 (steps_enum rd hr)⟩
    | _ => exact h1.elim
  | b x =>
    have k1 : RepB Γ.Hs Hf1 v x := k1
    cases k1 with
    | of k1 =>
      cases k1 with
      | @lst a vs xs ha hr =>
        have rd : ∀ Hf' ad' st' σ' H', Sat Γ L Hf' ad' st' σ' H' → Ex Hf1 Hf' → Rd H' a (.lst vs) := fun Hf' ad' st' σ' H' s e => exl_rd s.exf (.inl (e _ _ ha))
        exact ⟨a, vs, rfl, rd_list (rd _ _ _ _ _ s1 (Ex.refl _)), hP _ _ h1 Hf1 H1 _ n1 s1 (steps_enum rd hr)⟩
      | _ => exact h1.elim
    | @lst a vs xs ha hr =>
      have rd : ∀ Hf' ad' st' σ' H', Sat Γ L Hf' ad' st' σ' H' → Ex Hf1 Hf' → Rd H' a (.lst vs) := fun Hf' ad' st' σ' H' s e => exl_rd s.exs (.inl ha)
      exact ⟨a, vs, rfl, rd_list (rd _ _ _ _ _ s1 (Ex.refl _)), hP _ _ h1 Hf1 H1 _ n1 s1 (steps_enum rd hr)⟩
    | _ => exact h1.elim
  | n x => exact h1.elim
  | sl x => exact h1.elim⟩

/-! ### raise -/
/-- __init__ of an exception's class: self.f = the value -/
def spInit (K : PySem.W.Frag) (f : Str) : Sp := fun vs H Q _ => ∃ (a C : Addr) (v : V), vs = [.ref a, v] ∧ OexC K C ∧ PySem.W.findIn K (.ref C) f = some none ∧ H a = some (exo a C none) ∧ ∀ dx, H dx = none → dx ≠ a → Q .non (upd (upd H dx (exd dx [(f, v)])) a (exo a C (some dx)))
theorem pure_init {K : PySem.W.Frag} {f : Str} {N : List Str} (h2 : N.length = 2) (vs : List V) (H : Hp) (Q : VK) (E : XK) (h : spInit K f vs H Q E) : tOst K f (tVar 0) (tVar 1) { nx := fun _ H' => Q .non H', rt := Q } (start N vs) H := by
  obtain ⟨a, C, v, rfl, T, no, e, q⟩ := h
  match N, h2 with
  | [_, _], _ => exact ⟨v, rfl, _, rfl, a, C, rfl, T, no, .inl ⟨e, fun dx n ne => q dx n ne⟩⟩
/-- a class of one's own whose instances are raised: its name, its address, the field of its one argument -/
structure ErrC (P : Program) (w : World) (K : PySem.W.Frag) (mg : Str → Option Value) (base : Heap) (x : Str) (C : Addr) (f : Str) : Prop where
  cls : OexC K C
  at_ : mg x = some (.ref C)
  fld : PySem.W.findIn K (.ref C) f = some none
  ini : ∃ (fI : Addr) (fd : FuncData), PySem.W.findIn K (.ref C) "__init__" = some (some (.ref fI)) ∧ PySem.W.typeIn K (.ref fI) = some (.type "function") ∧ FnOk P w K mg base (L2.CX P w) 1 fI fd ["self", f] (spInit K f) ∧ Binds K fd ["self", f] []
def wRaise (C : Addr) (f : Str) (w : WE) : WS := fun N st => w st (fun r st1 => match r with
  | .d x => N.ex C (some (f, x)) st1
  | .b _ => N.ex C none st1
  | _ => False) N.ex
theorem no_pass {X : Cx} : Passes (L2.CX X.prog X.w) X (fun _ _ _ => False) := by
  rintro pins σ H s e s' I ⟨_, _, _, _, _, _, _, _, _, _, _, _, z⟩
  exact z.elim
theorem ds_raise {x f : Str} {C : Addr} {e : Expr} {w : WE} {p pos pos' : Pos} (tk : Takes X W) (c : ErrC X.prog X.w X.K X.mg X.base x C f) (hr : Room 2 X.A) (he : DE X W e w) (hc : X.calm = true := by rfl) (hg : Gl X x := by rfl)
    (hdb : (x == ("__debug__" : Str)) = false := by decide) (hs : starEach [e] X.env = (false, eval e X.env) :: starEach [] X.env := by rfl) (hpl : (backTo pos (starEach [] X.env)).any (·.1) = false := by rfl) :
    DS X W (.Raise (some (.Call (.Name x p) [e] [] pos)) none pos') (wRaise C f w) := by
  obtain ⟨fI, fd, i1, i2, i3, i4⟩ := c.ini
  refine ⟨(ps_raise hc tk (pmk_oex c.cls i1 i2 i3 hr i4 .nil no_pass hg c.at_ (pa_cons he.pe pa_nil hs) hdb hs hpl)).imp fun D σ H h => ?_⟩
  obtain ⟨Γ, L, Hf, ad, st, N, s, hw, cn⟩ := h
  refine ⟨Γ, L, Hf, ad, st, _, _, s, hw, fun r1 st1 h1 v Hf1 H1 n1 s1 k1 => ?_, cn.xok⟩
  have split : ∃ pd, N.ex C pd st1 ∧ ∀ dx : Addr, Hf1 dx = none → PayR (upd Hf1 dx (.xd [(f, v)])) (upd H1 dx (.xd [(f, v)])) (some dx) pd := by
    cases r1 with
    | d y => exact ⟨_, h1, fun dx hf1 => ⟨dx, v, rfl, upd_same, Rep.mono (Ex.new hf1) k1⟩⟩
    | b x => exact ⟨none, h1, fun _ _ => trivial⟩
    | n x => exact h1.elim
    | sl x => exact h1.elim
  obtain ⟨pd, h1, hp⟩ := split
  refine ⟨(by decide : 1 ≤ 1000), fun a ha => ⟨a, C, v, rfl, c.cls, c.fld, upd_same, fun dx hdx ne => ⟨rfl, dx, [(f, v)], upd_same, ?_, ?_, ?_⟩⟩⟩
  · rw [upd_ne ne, upd_same]
  · rw [upd_ne ne] at hdx
    exact hdx
  · have hd1 : H1 dx = none := by
      rw [upd_ne ne] at hdx
      exact hdx
    have eh : upd (del (upd (upd (upd H1 a (exo a C none)) dx (exd dx [(f, v)])) a (exo a C (some dx))) a) dx (.xd [(f, v)]) = upd H1 dx (.xd [(f, v)]) := by
      funext b
      by_cases h1 : b = dx
      · rw [h1, upd_same, upd_same]
      · rw [upd_ne h1, upd_ne h1]
        by_cases h2 : b = a
        · rw [h2, del_same, ha]
        · rw [del_ne h2, upd_ne h2, upd_ne h1, upd_ne h2]
    rw [eh]
    have hf1 := s1.nonef hd1
    have s2 : Sat Γ L (upd Hf1 dx (.xd [(f, v)])) ad st1 σ (upd H1 dx (.xd [(f, v)])) := (s1.alloc hd1).ground upd_same (s1.none0 hd1) hf1 (s1.nm hd1) (s1.noneo hd1)
    exact cn.ex C _ st1 h1 (some dx) _ ad σ _ s2 (hp dx hf1)

/-! ### try -/
/-- a clause: the classes' addresses with what is told of them; the name's slot; the suite, by the exception's address, its dict's, the field, the value -/
structure Hd where
  any : Addr → Option Bool
  nm : Option Nat
  su : Addr → Addr → Str → D → WS
  su0 : WS
def unS (st : S) : Option Nat → S
  | none => st
  | some i => st.set i .un
def xS (st : S) (a dd : Addr) (f : Str) (y : D) : Option Nat → S
  | none => st
  | some i => st.set i (.x a dd f y)
/-- the slot may be an except clause's name -/
def NmOk (st : S) : Option Nat → Prop
  | none => True
  | some i => NoP st i
def hdN (N : DN) : List Hd → XC
  | [] => N.ex
  | h :: r => fun C z st => opt (h.any C) fun b => if b = true then
      (match z with
        | some (f, y) => NmOk st h.nm ∧ ∀ a dd, h.su a dd f y { nx := fun st' => NmOk st' h.nm ∧ N.nx (unS st' h.nm), rt := N.rt, bk := fun st' => NmOk st' h.nm ∧ N.bk (unS st' h.nm), ct := fun st' => NmOk st' h.nm ∧ N.ct (unS st' h.nm), ex := ex0 } (xS st a dd f y h.nm)
        | none => h.nm = none ∧ h.su0 { N with ex := ex0 } st) else hdN N r C z st
def wTry (b : WS) (hs : List Hd) : WS := fun N st => b { N with ex := hdN N hs } st
structure HdOk (K : PySem.W.Frag) (h : Hd) (cs : List Value) (ts : Addr → Value → Option Addr → TS) : Prop where
  any : ∀ C b, h.any C = some b → PySem.W.exmAny K (.ref C) cs = some b
  su : ∀ (a C dd : Addr) (f : Str) (y : D) (D : Ends) (σ : L2.St) (H : Hp), h.any C = some true → LS W0 (h.su a dd f y) D σ H → ts a (.ref C) (some dd) D σ H
  su0 : h.nm = none → ∀ (a C : Addr) (d : Option Addr) (D : Ends) (σ : L2.St) (H : Hp), LS W0 h.su0 D σ H → ts a (.ref C) d D σ H
theorem Sat.un {Γ : Gm} {L : List Addr} {Hf H : Hp} {ad : Nat → Addr} {st : S} {σ : L2.St} {i : Nat} (s : Sat Γ L Hf ad st σ H) (n : NoP st i) : Sat Γ L Hf ad (st.set i .un) (σ.set i none) H := by
  have ow : ∀ j, Owns (st.set i .un) j → Owns st j := fun j hj => by
    rcases hj with ⟨c, q⟩ | ⟨c, q⟩
    · rcases set_back n.lt q with ⟨_, z⟩ | ⟨_, z⟩
      · cases z
      · exact .inl ⟨c, z⟩
    · rcases set_back n.lt q with ⟨_, z⟩ | ⟨_, z⟩
      · cases z
      · exact .inr ⟨c, z⟩
  refine ⟨by rw [List.length_set, List.length_set]; exact s.len, s.exf, s.exs, s.base, s.new, s.live, s.msf, s.ms0, fun j c q => ?_, fun j c q => ?_, s.lk, fun j k hj hk => s.inj j k (ow j hj) (ow k hk), fun j t q => ?_⟩
  · rcases set_back n.lt q with ⟨_, z⟩ | ⟨_, z⟩
    · cases z
    · exact s.own j c z
  · rcases set_back n.lt q with ⟨_, z⟩ | ⟨_, z⟩
    · cases z
    · exact s.par j c z
  · rcases set_back n.lt q with ⟨z1, z⟩ | ⟨z1, z⟩
    · subst z
      trivial
    · rw [List.getElem?_set_ne (Ne.symm z1)]
      exact s.sl j t z
theorem Sat.putX {Γ : Gm} {L : List Addr} {Hf H : Hp} {ad : Nat → Addr} {st : S} {σ : L2.St} {i : Nat} {a dd : Addr} {f : Str} {y : D} {v : V} (s : Sat Γ L Hf ad st σ H) (n : NoP st i) (h1 : Hf dd = some (.xd [(f, v)])) (h2 : Rep Hf v y) : Sat Γ L Hf ad (st.set i (.x a dd f y)) (σ.set i (some (.ref a))) H := by
  have ow : ∀ j, Owns (st.set i (.x a dd f y)) j → Owns st j := fun j hj => by
    rcases hj with ⟨c, q⟩ | ⟨c, q⟩
    · rcases set_back n.lt q with ⟨_, z⟩ | ⟨_, z⟩
      · cases z
      · exact .inl ⟨c, z⟩
    · rcases set_back n.lt q with ⟨_, z⟩ | ⟨_, z⟩
      · cases z
      · exact .inr ⟨c, z⟩
  refine ⟨by rw [List.length_set, List.length_set]; exact s.len, s.exf, s.exs, s.base, s.new, s.live, s.msf, s.ms0, fun j c q => ?_, fun j c q => ?_, s.lk, fun j k hj hk => s.inj j k (ow j hj) (ow k hk), fun j t q => ?_⟩
  · rcases set_back n.lt q with ⟨_, z⟩ | ⟨_, z⟩
    · cases z
    · exact s.own j c z
  · rcases set_back n.lt q with ⟨_, z⟩ | ⟨_, z⟩
    · cases z
    · exact s.par j c z
  · rcases set_back n.lt q with ⟨z1, z⟩ | ⟨z1, z⟩
    · subst z
      subst z1
      rw [List.getElem?_set_self (by rw [s.len]; exact n.lt)]
      exact ⟨rfl, v, h1, h2⟩
    · rw [List.getElem?_set_ne (Ne.symm z1)]
      exact s.sl j t z
inductive HdsD (K : PySem.W.Frag) : List Hd → List ML.Cl → Prop
  | nil : HdsD K [] []
  | cons {h : Hd} {cs : List Value} {ts : Addr → Value → Option Addr → TS} {hs : List Hd} {l : List ML.Cl} : HdOk K h cs ts → HdsD K hs l → HdsD K (h :: hs) ((cs, h.nm, ts) :: l)
theorem hds_ok {K : PySem.W.Frag} {Γ : Gm} {L : List Addr} {N : DN} {De : Ends} (cn : Conn W Γ L N De) : ∀ {hs : List Hd} {l : List ML.Cl}, HdsD K hs l → ∀ C z st', hdN N hs C z st' → ∀ d Hf' ad' σ' H', Sat Γ L Hf' ad' st' σ' H' → PayR Hf' H' d z → ML.wG K W De l (.ref C) d σ' H'
  | _, _, .nil, C, z, st', h, d, Hf', ad', σ', H', s, p => cn.ex C z st' h d Hf' ad' σ' H' s p
  | _, _, @HdsD.cons _ hd cs ts hs l ok r, C, z, st', h, d, Hf', ad', σ', H', s, p => by
    obtain ⟨b, eb, h⟩ := opt_of (show opt (hd.any C) _ from h)
    refine ⟨b, ok.any C b eb, fun hb a na => ?_, fun hb => ?_⟩
    · rw [if_pos hb] at h
      cases z with
      | none =>
        obtain ⟨nm, h⟩ := h
        refine ok.su0 nm a C d _ _ H' ⟨Γ, L, Hf', ad', st', _, ?_, h, ?_⟩
        · rw [nm]
          exact s
        · rw [nm]
          exact ⟨cn.nx, cn.rt, cn.bk, cn.ct, fun _ _ _ z => z.elim⟩
      | some fy =>
        obtain ⟨f, y⟩ := fy
        obtain ⟨nm, h⟩ := h
        obtain ⟨dd, v, rfl, p1, p2⟩ := p
        have back : ∀ {Nx : S → Prop} {Dx : L2.St → Hp → Prop}, (∀ st', Nx st' → ∀ Hf' ad' σ' H', Sat Γ L Hf' ad' st' σ' H' → Dx σ' H') → ∀ st', (NmOk st' hd.nm ∧ Nx (unS st' hd.nm)) → ∀ Hf' ad' σ' H', Sat Γ L Hf' ad' st' σ' H' →
            (match hd.nm with | none => Dx σ' H' | some i => Dx (σ'.set i none) H') := fun {Nx Dx} k st2 h2 Hf2 ad2 σ2 H2 s2 => by
          cases e : hd.nm with
          | none =>
            rw [e] at h2
            exact k _ h2.2 _ _ _ _ s2
          | some i =>
            rw [e] at h2
            exact k _ h2.2 _ _ _ _ (s2.un h2.1)
        refine ok.su a C dd f y _ _ H' (by rw [eb, hb]) ⟨Γ, L, Hf', ad', xS st' a dd f y hd.nm, _, ?_, h a dd, ?_⟩
        · cases e : hd.nm with
          | none => exact s
          | some i =>
            rw [e] at nm
            exact s.putX nm p1 p2
        · have b1 := back cn.nx
          have b2 := back cn.bk
          have b3 := back cn.ct
          cases e : hd.nm with
          | none =>
            rw [e] at b1 b2 b3
            exact ⟨b1, cn.rt, b2, b3, fun _ _ _ z => z.elim⟩
          | some i =>
            rw [e] at b1 b2 b3
            exact ⟨b1, cn.rt, b2, b3, fun _ _ _ z => z.elim⟩
    · rw [if_neg (by rw [hb]; exact Bool.false_ne_true)] at h
      exact hds_ok cn r C z st' h d Hf' ad' σ' H' s p
theorem ds_try {body : List Stmt} {h₀ : ExceptHandler} {hds : List ExceptHandler} {l : List ML.Cl} {hs : List Hd} {pos : Pos} {wb : WS} (hst : X.stack = X.env :: X.outer) (hf : X.env.frame = some X.env.locals) (hN : X.N.Nodup) (tk : Takes X W)
    (hb : ∀ (W : WX) (pn : List (Addr × Obj)) (xe : Value → Shared → Prop), Takes (X.tr pn xe) W → PassesOwn (model X.prog X.w) X.A X.env xe → DSs (X.tr pn xe) W body wb) (hh : ML.Cls X (h₀ :: hds) l) (hd : HdsD X.K hs l) : DS X W (.Try body (h₀ :: hds) [] [] pos) (wTry wb hs) :=
  ⟨(ML.ps_tryG hst hf hN tk (tb := fun W => LS W wb) (fun W pn xe t p => (hb W pn xe t p).pss) hh).imp fun D σ H ⟨Γ, L, Hf, ad, st, N, s, hw, cn⟩ => ⟨Γ, L, Hf, ad, st, _, s, hw, ⟨cn.nx, cn.rt, cn.bk, cn.ct, fun C z st' h d Hf' ad' σ' H' s' p => hds_ok cn hd C z st' h d Hf' ad' σ' H' s' p⟩⟩⟩
/-- error.f in a suite -/
def wXf (a dd : Addr) (f : Str) (i : Nat) : WE := fun st P _ => match st[i]? with
  | some (.x a' dd' f' y) => a' = a ∧ dd' = dd ∧ f' = f ∧ P (.d y) st
  | _ => False
theorem de_xf {a C dd : Addr} {oe : Obj} {pn : List (Addr × Obj)} {e : Str} {p pos : Pos} {f : Str} (i : Nat) (T : XfC X.K C) (hno : PySem.W.findIn X.K (.ref C) f = some none) (hz : Zc (.ref C) (some dd) oe) (hf : ∃ vs, oe.data = .fields vs)
    (hN : X.N[i]? = some e := by rfl) (hv : Vis X.env.scope e := by first | exact Or.inl rfl | exact Or.inr (Or.inl rfl) | exact Or.inr (Or.inr rfl)) (hd : (e == ("__debug__" : Str)) = false := by decide)
    (hcd : (e == ("__classdict__" : Str)) = false := by decide) (hb : attributeBase (.Name e p) f X.env (eval (.Name e p) X.env) = eval (.Name e p) X.env := by rfl) : DE (X.suite a ((a, oe) :: pn)) W (.Attribute (.Name e p) f pos) (wXf a dd f i) :=
  ⟨(pe_xf T hno hz hf (pe_var (X := X.suite a ((a, oe) :: pn)) hN hv hd hcd) hb).imp fun σ H Q ⟨Γ, L, Hf, ad, st, P, E, s, hw, hP, hE⟩ => by
    cases q : st[i]? with
    | none =>
      unfold wXf at hw
      rw [q] at hw
      exact hw.elim
    | some sl =>
      unfold wXf at hw
      rw [q] at hw
      cases sl with
      | x a' dd' f' y =>
        obtain ⟨rfl, rfl, rfl, hw⟩ := hw
        obtain ⟨k1, v, k2, k3⟩ := s.sl i _ q
        have k4 : H dd' = some (.xd [(f', v)]) := exl_at s.exf k2 (by rintro (⟨_, q⟩ | ⟨_, q⟩) <;> cases q)
        refine ⟨_, k1, rfl, rfl, dd', _, v, rfl, k4, ?_, hP _ _ hw v Hf H Nxt.refl s k3⟩
        show List.lookup f' [(f', v)] = some v
        rw [List.lookup_cons, beq_self_eq_true]
      | _ => exact hw.elim⟩

/-! ### instances -/
theorem repF_get {Hf : Hp} {f : Str} : ∀ {fs : List (Str × V)} {xs : List (Str × D)} {x : D}, RepF Hf fs xs → xs.lookup f = some x → ∃ v, fs.lookup f = some v ∧ Rep Hf v x
  | _, _, _, .nil, h => by cases h
  | _, _, x, @RepF.cons _ k v y vs xs h r, e => by
    rw [List.lookup_cons] at e
    rw [List.lookup_cons]
    cases q : f == k with
    | true =>
      rw [q] at e
      cases e
      exact ⟨v, rfl, h⟩
    | false =>
      rw [q] at e
      exact repF_get r e
def wFld (C : Addr) (f : Str) (w : WE) : WE := fun st P E => w st (fun r st1 => match r with
  | .d (.ins C' fs) => C' = C ∧ opt (fs.lookup f) fun x => P (.d x) st1
  | _ => False) E
section
variable {C : Addr} {f : Str} {e : Expr} {w : WE} {pos : Pos}
theorem de_fld (c : L2.Cls X.K C) (n : NoAttr X.K C f) (he : DE X W e w) (hb : attributeBase e f X.env (eval e X.env) = eval e X.env := by rfl) : DE X W (.Attribute e f pos) (wFld C f w) := ⟨(pe_fld he.pe hb).imp fun σ H Q ⟨Γ, L, Hf, ad, st, P, E, s, hw, hP, hE⟩ => by
  refine ⟨Γ, L, Hf, ad, st, _, E, s, hw, fun r1 st1 h1 v Hf1 H1 n1 s1 k1 => ?_, hE⟩
  cases r1 with
  | d y =>
    cases y with
    | ins C' fs =>
      obtain ⟨rfl, h1⟩ := h1
      obtain ⟨x, ex, h1⟩ := opt_of h1
      cases k1 with
      | @ins a C' dx fv _ ha hr =>
        obtain ⟨u, eu, ru⟩ := repF_get hr ex
        exact ⟨a, C', dx, fv, u, rfl, exl_at s1.exf ha (by rintro (⟨_, q⟩ | ⟨_, q⟩) <;> cases q), c, n, eu, hP _ _ h1 u Hf1 H1 n1 s1 ru⟩
    | _ => exact h1.elim
  | b x => exact h1.elim
  | n x => exact h1.elim
  | sl x => exact h1.elim⟩
/-- a property that tells a field -/
theorem de_prop {g : Str} {p : Addr} {ga : Addr} {fd : FuncData} {k : Nat} (c : L2.Cls X.K C) (hp : PropOf X.K C f p ga) (F : FnOk X.prog X.w X.K X.mg X.base (L2.CX X.prog X.w) k ga fd ["self"] (getSp C g)) (hr : Room (k + 1) X.A) (hb : Binds X.K fd ["self"] []) (he : DE X W e w)
    (hab : attributeBase e f X.env (eval e X.env) = eval e X.env := by rfl) : DE X W (.Attribute e f pos) (wFld C g w) := ⟨(pe_prop he.pe c hp F hr hb .nil (E := fun _ _ _ => False) no_pass hab).imp fun σ H Q ⟨Γ, L, Hf, ad, st, P, E, s, hw, hP, hE⟩ => by
  refine ⟨Γ, L, Hf, ad, st, _, E, s, hw, fun r1 st1 h1 v Hf1 H1 n1 s1 k1 => ?_, hE⟩
  cases r1 with
  | d y =>
    cases y with
    | ins C' fs =>
      obtain ⟨rfl, h1⟩ := h1
      obtain ⟨x, ex, h1⟩ := opt_of h1
      cases k1 with
      | @ins a C' dx fv _ ha hr' =>
        obtain ⟨u, eu, ru⟩ := repF_get hr' ex
        have hA : H1 a = some (.ins C' dx fv) := exl_at s1.exf ha (by rintro (⟨_, q⟩ | ⟨_, q⟩) <;> cases q)
        exact ⟨a, dx, fv, rfl, hA, a, dx, fv, u, rfl, hA, eu, hP _ _ h1 u Hf1 H1 n1 s1 ru⟩
    | _ => exact h1.elim
  | b x => exact h1.elim
  | n x => exact h1.elim
  | sl x => exact h1.elim⟩
end
/-- C(..): the promise by data of a class of one's own -/
structure MCal (P : Program) (w : World) (K : PySem.W.Frag) (mg : Str → Option Value) (base : Heap) (x : Str) (k : Nat) (sp : DSp) : Prop where
  ex : ∃ (C f : Addr) (fd : FuncData) (ps : List Str) (spI : Sp) (dvs : List V) (ds : List Value) (n : Nat), mg x = some (.ref C) ∧ Mk K C f ∧ Binds K fd ps ds ∧ Vals dvs ds ∧ GW.Ok P w K mg base (L2.CX P w) k f fd ps spI ∧
    ∀ vs H Q E, toSp sp vs H Q E → vs.length = n ∧ ∀ a dx, H a = none → H dx = none → dx ≠ a → spI (.ref a :: (vs ++ dvs)) (upd (upd H dx (.own a)) a (.ins C dx [])) (fun v H2 => v = .non ∧ Q (.ref a) H2) E
theorem pe_makeG {k : Nat} {C f : Addr} {fd : FuncData} {ps : List Str} {sp : Sp} {dvs : List V} {ds : List Value} {E : L2.St → XK} {x : Str} {p pos : Pos} {e : Expr} {es : List Expr} {t : TA} (M : Mk X.K C f) (F : GW.Ok X.prog X.w X.K X.mg X.base (L2.CX X.prog X.w) k f fd ps sp) (room : Room (k + 1) X.A) (noG : X.A.guards = some []) (gx : Gl X x) (mx : X.mg x = some (.ref C))
    (bnd : Binds X.K fd ps ds) (dv : Vals dvs ds) (hx : ∀ σ, PassesAt (L2.CX X.prog X.w) X σ (E σ)) (ha : PA X (e :: es) t) (hdb : (x == ("__debug__" : Str)) = false := by decide) (he : starEach (e :: es) X.env = (false, eval e X.env) :: starEach es X.env := by rfl) (hpl : (backTo pos (starEach es X.env)).any (·.1) = false := by rfl) :
    PE X (.Call (.Name x p) (e :: es) [] pos) (fun σ H Q => t σ H fun vs H1 => ∀ a dx, H1 a = none → H1 dx = none → dx ≠ a → sp (.ref a :: (vs ++ dvs)) (upd (upd H1 dx (.own a)) a (.ins C dx [])) (fun v H2 => v = .non ∧ Q (.ref a) H2) (E σ)) := by
  refine ⟨fun pins s σ H Q I want => ?_⟩
  refine wpAny_Call_Name_kw (ld_glob I gx mx ?_ hdb)
  refine PySem.W.callWith_K (h₀ := X.base) I.ok.mod.kin M.kp (thn (ha.run pos pins s σ H _ I want) fun us s1 ⟨vs, H1, I1, r, q⟩ => ⟨I1.kIn, ?_⟩) he hpl
  show wpAny _ _ (call (.ref C) us) _ _ _
  have go := q (s1.heap.objs.size + 1) s1.heap.objs.size (I1.hok.fresh (Nat.le_succ _)) (I1.hok.fresh (Nat.le_refl _)) (Nat.ne_of_lt (Nat.lt_succ_self _))
  have I2 := Inv.made (C := C) I1
  have r2 : Vals (V.ref (s1.heap.objs.size + 1) :: (vs ++ dvs)) (Value.ref (s1.heap.objs.size + 1) :: (us ++ ds)) := .cons rfl (r.append dv)
  have len : (Value.ref (s1.heap.objs.size + 1) :: us ++ ds).length = ps.length := by
    have z := r2.length
    rw [F.len _ _ _ _ go] at z
    exact z.symm
  refine wpAny_call (make_map (f := f) I1.kIn M.makes M.init (beq_iff_eq.mp M.fn) (codeAny_mono (F.run _ X.stack _ _ ⟨Value.ref (s1.heap.objs.size + 1) :: us, []⟩ (Value.ref (s1.heap.objs.size + 1) :: (us ++ ds)) _ _ (E σ) (room.make C us []) noG
    (I2.env0.make C us []) (bnd _ (Value.ref (s1.heap.objs.size + 1) :: us) I2.kIn len) r2 go) fun r s' told => ?_))
  cases r with
  | error er => exact hx σ pins _ _ er s' I2 told
  | ok fin =>
    cases fin with
    | ret u =>
      obtain ⟨v, H', I3, rv, ev, q3⟩ := I2.after told
      subst ev
      exact ⟨rv, ⟨V.ref (s1.heap.objs.size + 1), H', I3, rfl, q3⟩⟩
    | next => exact told.elim
    | brk => exact told.elim
    | cont => exact told.elim
theorem de_make {k : Nat} {sp : DSp} {x : Str} {p pos : Pos} {e : Expr} {es : List Expr} {wa : WA} (mds : List Md) (tk : Takes X W) (c : MCal X.prog X.w X.K X.mg X.base x k sp) (hr : Room (k + 1) X.A) (noG : X.A.guards = some []) (ha : DA X W (e :: es) wa) (hg : Gl X x := by rfl)
    (hd : (x == ("__debug__" : Str)) = false := by decide) (he : starEach (e :: es) X.env = (false, eval e X.env) :: starEach es X.env := by rfl) (hpl : (backTo pos (starEach es X.env)).any (·.1) = false := by rfl) : DE X W (.Call (.Name x p) (e :: es) [] pos) (wCall mds sp wa) := by
  obtain ⟨C, f, fd, ps, spI, dvs, ds, n, h1, h2, h3, h4, h5, h6⟩ := c.ex
  refine ⟨(pe_makeG h2 h5 hr noG hg h1 h3 h4 (E := L2.WE W) (fun σ => passAt tk σ) ha.pa hd he hpl).imp fun σ H Q ⟨Γ, L, Hf, ad, st, P, E, s, hw, hP, hE⟩ => ?_⟩
  refine ⟨Γ, L, Hf, ad, st, _, E, s, hw, fun rs st1 h1 vs Hf1 H1 n1 s1 k1 => ?_, hE⟩
  have q : toSp sp vs H1 Q (L2.WE W σ) := call_sp s1 k1 h1 (fun rv st' hp v Hf' H' n s r => hP rv st' hp v Hf' H' (n1.trans n) s (r.from n1)) (hE.later n1)
  exact (h6 vs H1 Q _ q).2
end DL


/-! DL q: walks over lists or tuples alike. -/
namespace DL
open PySem PySem.Spec PyProof.Rows L2
variable {X : Cx} {W : WX}
theorem PIor {tg e : Expr} {t t' : TI} (h : PI X tg e t) (h' : PI X tg e t') : PI X tg e (fun σ H R => t σ H R ∨ t' σ H R) := ⟨fun pins s σ H R I q => q.elim (h.run pins s σ H R I) (h'.run pins s σ H R I)⟩
/-- the items of what is data or borrowed, a list or a tuple -/
def itemsR : RV → Option (List D)
  | .d (.lst xs) => some xs
  | .d (.tup xs) => some xs
  | .b (.lst xs) => some xs
  | .b (.tup xs) => some xs
  | _ => none
/-- what of it can be read later on -/
theorem itemsR_rd {Γ : Gm} {L : List Addr} {Hf Hb H : Hp} {ad : Nat → Addr} {st : S} {σ : L2.St} {v : V} {r : RV} {xs : List D} (s : Sat Γ L Hf ad st σ H) (k : RepR Γ Hf ad st σ Hb H v r) (e : itemsR r = some xs) :
    ∃ (a : Addr) (vs : List V), v = .ref a ∧ Reps Hf vs xs ∧ ((∀ Hf' ad' st' σ' H', Sat Γ L Hf' ad' st' σ' H' → Ex Hf Hf' → Rd H' a (.lst vs)) ∨ Hf a = some (.tup vs)) := by
  have data : ∀ {x : D}, Rep Hf v x → (match x with | .lst xs' => xs' = xs | .tup xs' => xs' = xs | _ => False) → ∃ (a : Addr) (vs : List V), v = .ref a ∧ Reps Hf vs xs ∧ ((∀ Hf' ad' st' σ' H', Sat Γ L Hf' ad' st' σ' H' → Ex Hf Hf' → Rd H' a (.lst vs)) ∨ Hf a = some (.tup vs)) := fun {x} h q => by
    cases h with
    | @lst a vs ys ha hr =>
      have q : ys = xs := q
      subst q
      exact ⟨a, vs, rfl, hr, .inl fun Hf' ad' st' σ' H' s e => exl_rd s.exf (.inl (e _ _ ha))⟩
    | @tup a vs ys ha hr =>
      have q : ys = xs := q
      subst q
      exact ⟨a, vs, rfl, hr, .inr ha⟩
    | _ => exact q.elim
  cases r with
  | d x =>
    refine data k ?_
    cases x <;> first | (cases e; rfl) | cases e
  | b x =>
    have k : RepB Γ.Hs Hf v x := k
    cases k with
    | of k =>
      refine data k ?_
      cases x <;> first | (cases e; rfl) | cases e
    | @lst a vs ys ha hr =>
      cases e
      exact ⟨a, vs, rfl, hr, .inl fun Hf' ad' st' σ' H' s e => exl_rd s.exs (.inl ha)⟩
    | _ => cases e
  | n x => cases e
  | sl x => cases e
def wItA (w : WE) : WI := fun st P E => w st (fun r st1 => opt (itemsR r) fun xs => P xs st1) E
def wEnA (w : WE) : WI := fun st P E => w st (fun r st1 => opt (itemsR r) fun xs => P (enumD 0 xs) st1) E
section
variable {tg e : Expr} {w : WE}
theorem di_any (h : DE X W e w) : DI X W tg e (wItA w) := by
  have g : ∀ {σ H R}, LI W (wItA w) σ H R → LE W w σ H fun x H1 => (∃ a, x = .ref a ∧ (∃ xs, SqL X.K H1 a xs) ∧ R (Itl X.K a) H1) ∨ (∃ a, x = .ref a ∧ (∃ xs, SqT X.K H1 a xs) ∧ R (Itt X.K a) H1) := fun {σ H R} ⟨Γ, L, Hf, ad, st, P, E, s, hw, hP, hE⟩ => by
    refine ⟨Γ, L, Hf, ad, st, _, E, s, hw, fun r1 st1 h1 v Hf1 H1 n1 s1 k1 => ?_, hE⟩
    obtain ⟨xs, e, h1⟩ := opt_of h1
    obtain ⟨a, vs, rfl, hr, z⟩ := itemsR_rd s1 k1 e
    rcases z with z | z
    · exact .inl ⟨a, rfl, ⟨vs, rd_list (z _ _ _ _ _ s1 (Ex.refl _))⟩, hP _ _ h1 Hf1 H1 _ n1 s1 (steps_list z hr)⟩
    · exact .inr ⟨a, rfl, ⟨vs, .inl (.inl (exl_at s1.exf z (by rintro (⟨_, q⟩ | ⟨_, q⟩) <;> cases q)))⟩, hP _ _ h1 Hf1 H1 _ n1 s1 (steps_tup z hr)⟩
  refine ⟨⟨fun pins s σ H R I want => ?_⟩⟩
  have go := h.pe.run pins s σ H _ I (g want)
  refine thn go fun u s1 ⟨x, H1, I1, rx, q⟩ => ?_
  rcases q with ⟨a, rfl, hs, q⟩ | ⟨a, rfl, hs, q⟩
  · obtain ⟨ys, hq⟩ := hs
    cases rx
    obtain ⟨its, rv, p, hz⟩ := I1.list hq
    refine wpAny_pyIter_list p.isList ?_
    refine ⟨s1.heap.objs.size, [s1.heap.objs.size], _, _, H1, rfl, I1.kept (t' := s1.toks) fun b o e => Heap.get?_push_of_some _ e, turn_list a _, ⟨_, Heap.get?_push_size _ rfl, rfl, rfl⟩, fun b hb => ?_, q⟩
    have e : b = s1.heap.objs.size := by simpa using hb
    subst e
    exact I1.fpOk (Nat.le_refl _) (I1.hok.fresh (Nat.le_refl _))
  · obtain ⟨ys, hq⟩ := hs
    cases rx
    obtain ⟨its, rv, p, hz⟩ := I1.tuple hq
    refine wpAny_pyIter_tuple (show s1.heap.IsTuple a its.toArray from p) ?_
    refine ⟨s1.heap.objs.size, [s1.heap.objs.size], _, _, H1, rfl, I1.kept (t' := s1.toks) fun b o e => Heap.get?_push_of_some _ e, turn_tuple a _, ⟨_, Heap.get?_push_size _ rfl, rfl, rfl⟩, fun b hb => ?_, q⟩
    have e : b = s1.heap.objs.size := by simpa using hb
    subst e
    exact I1.fpOk (Nat.le_refl _) (I1.hok.fresh (Nat.le_refl _))
theorem steps_enumT {Γ : Gm} {L : List Addr} {Hf : Hp} {a : Addr} {vs : List V} {xs : List D} {K : PySem.W.Frag} (h0 : Hf a = some (.tup vs)) (r : Reps Hf vs xs) : Steps Γ L Hf (ML.IteT K a) (enumD 0 xs) := fun Hf' ad' st' σ' H' s e i => by
  have h : SqT K H' a vs := .inl (.inl (exl_at s.exf (e _ _ h0) (by rintro (⟨_, q⟩ | ⟨_, q⟩) <;> cases q)))
  refine ⟨fun y hy => ?_, fun hi => ⟨vs, h, by rw [r.length]; rw [enumD_length] at hi; exact hi⟩⟩
  obtain ⟨x, hx, rfl⟩ := enumD_at hy
  obtain ⟨v, hv, rv⟩ := r.get hx
  refine ⟨⟨vs, v, h, hv⟩, fun u H'' hy => ?_⟩
  obtain ⟨T, x2, rfl, hT, rfl, q⟩ := hy
  have e1 : x2 = v := Option.some.inj ((q vs h).symm.trans hv)
  subst e1
  refine ⟨_, .tup hT (.cons ?_ (.cons (rv.mono e) .nil))⟩
  rw [Nat.zero_add]
  exact .int _
theorem di_enumA {elts : List Expr} {kk : Nat} {tpos p pos : Pos} (hm : X.mg "enumerate" = none) (h : DE X W e w) (hg : Gl X "enumerate" := by rfl) (hs : starEach [e] X.env = [(false, eval e X.env)] := by rfl) (hs2 : starEach [e] X.env = (false, eval e X.env) :: starEach [] X.env := by rfl) :
    DI X W (.Tuple elts kk tpos) (.Call (.Name "enumerate" p) [e] [] pos) (wEnA w) := ⟨(ML.pi_enumA hg hm (pa_cons h.pe pa_nil hs2) hs).imp fun σ H R ⟨Γ, L, Hf, ad, st, P, E, s, hw, hP, hE⟩ => by
  refine ⟨Γ, L, Hf, ad, st, _, E, s, hw, fun r1 st1 h1 v Hf1 H1 n1 s1 k1 => ?_, hE⟩
  obtain ⟨xs, e, h1⟩ := opt_of h1
  obtain ⟨a, vs, rfl, hr, z⟩ := itemsR_rd s1 k1 e
  refine ⟨a, vs, rfl, ?_⟩
  rcases z with z | z
  · exact .inl ⟨rd_list (z _ _ _ _ _ s1 (Ex.refl _)), hP _ _ h1 Hf1 H1 _ n1 s1 (steps_enum z hr)⟩
  · exact .inr ⟨.inl (.inl (exl_at s1.exf z (by rintro (⟨_, q⟩ | ⟨_, q⟩) <;> cases q))), hP _ _ h1 Hf1 H1 _ n1 s1 (steps_enumT z hr)⟩⟩
end
end DL


namespace DL
open PySem PySem.Spec PyProof.Rows L2
def w_source_l1 : WS := (wAsg 2 (wBin oAdd (wBin oMod (wCB (on1 oInt) (wCons (wBin oPow (wCB (on1 oInt) (wCons (wBin oAdd (wBin oMul (wVar 2) (wC (.int 50021))) (wCB (on1 oInt) (wCons (wVar 3) wNil))) wNil)) (wC (.int 3))) wNil)) (wC (.int 2147483563))) (wC (.int 1))))
def w_source : WS := (wSeq (wAsg 2 (wBin oAdd (wC (.int 83)) (wVar 1)))
  (wSeq (wFor (wItL (wVar 0)) (gN 3) w_source_l1)
  (wSeq (wAsg 4 (wC (.int 0)))
  (wSeq (wIfS (wAnd (wTest (wBin oLt (wVar 1) (wCB (on1 oLen) (wCons (wVar 0) wNil)))) (wTest (wBin oGe (wBin oIx (wVar 0) (wVar 1)) (wBin oPow (wC (.int 10)) (wC (.int 18)))))) (wAsg 4 (wBin oSub (wBin oIx (wVar 0) (wVar 1)) (wBin oPow (wC (.int 10)) (wC (.int 18))))) wNext)
  (wRet (wLst (wCons (wPers (wVar 4)) (wCons (wPers (wVar 2)) wNil))))))))
def w_draw : WS := (wSeq (wIfS (wTest (wBin oGe (wBin oIx (wVar 0) (wC (.int 0))) (wVar 1))) (wSeq (wAsg 2 (wBin oMod (wCB (on1 oInt) (wCons (wBin oIx (wVar 0) (wC (.int 0))) wNil)) (wVar 1)))
  (wSeq (wSt 0 (wC (.int 0)) (wPers (wBin oFdiv (wBin oIx (wVar 0) (wC (.int 0))) (wVar 1))))
  (wRet (wVar 2)))) wNext)
  (wSeq (wSt 0 (wC (.int 1)) (wPers (wBin oMod (wCB (on1 oInt) (wCons (wBin oAdd (wBin oMul (wBin oIx (wVar 0) (wC (.int 1))) (wC (.int 69621))) (wC (.int 4241))) wNil)) (wC (.int 2147483647)))))
  (wRet (wBin oMod (wCB (on1 oInt) (wCons (wBin oFdiv (wBin oMod (wCB (on1 oInt) (wCons (wBin oPow (wCB (on1 oInt) (wCons (wBin oIx (wVar 0) (wC (.int 1))) wNil)) (wC (.int 5))) wNil)) (wC (.int 1000000007))) (wC (.int 19))) wNil)) (wVar 1)))))
def big : Nat := 2 ^ 1048576
theorem big_ge : 2 ^ 60 ≤ big := Nat.pow_le_pow_right (by decide) (by decide)
theorem log_of {n : Nat} (h : n < 4 * big) : n.log2 < 1048600 := by
  by_cases z : n = 0
  · subst z
    decide
  · refine (Nat.log2_lt z).mpr (Nat.lt_of_lt_of_le h ?_)
    have e : 4 * big = 2 ^ 1048578 := by
      unfold big
      rw [show (1048578 : Nat) = 2 + 1048576 from rfl, Nat.pow_add]
    rw [e]
    exact Nat.pow_le_pow_right (by decide) (by decide)
/-- what a source holds -/
structure Src (rest mixed : Int) : Prop where
  r0 : 0 ≤ rest
  rb : rest.natAbs < big
  m0 : 0 ≤ mixed
  mb : mixed < 2147483648
def spSource : DSp := fun avs P _ => ∃ (ns : List Int) (s : Int), avs = [.b (.fz ns), .d (.int s)] ∧ 0 ≤ s ∧ s < 1000 ∧ (∀ n ∈ ns, n.natAbs < big) ∧ ∀ rest mixed, Src rest mixed → P (.n (.lst [.int rest, .int mixed])) []
def spDraw : DSp := fun avs P _ => ∃ rest mixed span : Int, avs = [.m (.lst [.int rest, .int mixed]), .d (.int span)] ∧ Src rest mixed ∧ 0 < span ∧ span < 1000000 ∧
  ∀ r rest' mixed', 0 ≤ r → r < span → Src rest' mixed' → P (.d (.int r)) [.lst [.int rest', .int mixed']]
/-- a slot that may be set -/
def Sl (c : Slot) : Prop := c = .un ∨ ∃ x, c = .d x
theorem src_loop {N : DN} {ns : List Int} {s : Int} : ∀ (l : List Int) (m : Int) (c : Slot), Sl c → 0 ≤ m → m < 2147483648 → (∀ n ∈ l, n.natAbs < big) →
    (∀ m' c', 0 ≤ m' → m' < 2147483648 → Sl c' → N.nx [.b (.fz ns), .d (.int s), .d (.int m'), c', .un]) → loopN (gN 3) w_source_l1 N (l.map D.int) [.b (.fz ns), .d (.int s), .d (.int m), c, .un]
  | [], m, c, hc, h0, h1, _, k => k m c h0 h1 hc
  | n :: l, m, c, hc, h0, h1, hb, k => by
    have hn := hb n List.mem_cons_self
    have ih := src_loop (N := N) (ns := ns) (s := s) l
    have hg := big_ge
    have hs : NoP [Slot.b (.fz ns), .d (.int s), .d (.int m), c, .un] 3 := by
      rcases hc with rfl | ⟨x, rfl⟩ <;> trivial
    show NoP _ 3 ∧ _
    refine ⟨hs, ?_⟩
    simp only [w_source_l1, wAsg, wBin, wC, wVar, varK, opt, cont, slotD, asgK, NoP, oAdd, oMul, oMod, oPow, oI, oI0, oInt, on1, wCB, wCons, wNil, conts, List.getElem?_cons_zero, List.getElem?_cons_succ, List.set_cons_zero, List.set_cons_succ, true_and]
    have g1 : CMulW m 50021 := by
      refine wide_mul (a := 40) (b := 20) ?_ (by decide) (by decide) (by decide) (by decide)
      have : (2147483648 : Nat) < 2 ^ 40 := by decide
      omega
    have g2 : CPowW (m * 50021 + n) 3 := by
      have : (m * 50021 + n).natAbs.log2 < 1048600 := log_of ?_
      · refine ⟨by decide, ?_⟩
        omega
      have : (m * 50021 + n).natAbs ≤ m.natAbs * 50021 + n.natAbs := by
        refine Nat.le_trans (Int.natAbs_add_le _ _) ?_
        rw [Int.natAbs_mul]
        exact Nat.le_refl _
      have : (2 : Nat) ^ 60 = 1152921504606846976 := by decide
      omega
    refine ⟨g1, g2, by decide, ?_⟩
    have r0 : 0 ≤ (m * 50021 + n) ^ Int.toNat 3 % 2147483563 := Int.emod_nonneg _ (by decide)
    have r1 : (m * 50021 + n) ^ Int.toNat 3 % 2147483563 < 2147483563 := Int.emod_lt_of_pos _ (by decide)
    exact ih _ _ (.inr ⟨_, rfl⟩) (by omega) (by omega) (fun z hz => hb z (List.mem_cons_of_mem _ hz)) k
theorem vc_source : ∀ avs Q XP, spSource avs Q XP → w_source (bodyN avs Q XP) (stOf 5 avs) := by
  rintro _ Q XP ⟨ns, s, rfl, h0, h1, hb, k⟩
  have e : stOf 5 [AV.b (.fz ns), AV.d (.int s)] = [.b (.fz ns), .d (.int s), .un, .un, .un] := rfl
  rw [e]
  simp only [w_source, wSeq, wAsg, wBin, wC, wVar, varK, opt, cont, slotD, asgK, NoP, wFor, wItL, oAdd, List.getElem?_cons_zero, List.getElem?_cons_succ, List.set_cons_zero, List.set_cons_succ, true_and]
  refine src_loop ns _ _ (.inl rfl) (by omega) (by omega) hb fun m c m0 m1 hc => ?_
  have hs : NoP [Slot.b (.fz ns), .d (.int s), .d (.int m), c, .un] 4 := by
    rcases hc with rfl | ⟨x, rfl⟩ <;> trivial
  simp only [wSeq, wAsg, wBin, wC, wVar, varK, opt, cont, slotD, asgK, NoP, wIfS, wAnd, wTest, boolK, oLt, oGe, oLen, lenD, oIx, oPow, oSub, oI, oI0, wCB, wCons, wNil, conts, on1, wNext, wRet, wLst, wPers, persK, dAll, Option.map, List.getElem?_cons_zero, List.getElem?_cons_succ, List.set_cons_zero, List.set_cons_succ, true_and, freeze]
  have pw : CPowW 10 18 := ⟨by decide, by decide⟩
  have z2 : ∀ x y : D, [x, y].length ≤ sizeLine := fun x y => by
    rw [sizeLine_eq]
    exact (by decide : 2 ≤ 16777216)
  have hp : (10 : Int) ^ Int.toNat 18 = 1000000000000000000 := by decide
  have none0 : Src 0 m := ⟨by decide, by
    have := big_ge
    have : (0 : Nat) < 2 ^ 60 := by decide
    show 0 < big
    omega, m0, m1⟩
  by_cases hlt : s < (ns.length : Int)
  · rw [if_pos (decide_eq_true hlt)]
    obtain ⟨x, hx⟩ : ∃ x, ns[s.toNat]? = some x := ⟨_, List.getElem?_eq_getElem (by omega)⟩
    have hat : atI ns s = some x := by
      unfold atI
      have q : ixN ns.length s = some s.toNat := by
        unfold ixN
        rw [if_pos h0, if_pos hlt]
      rw [q]
      exact hx
    have hxb := hb x (List.mem_of_getElem? hx)
    rw [hat]
    refine ⟨pw, ?_⟩
    by_cases hge : (10 : Int) ^ Int.toNat 18 ≤ x
    · rw [if_pos (decide_eq_true hge)]
      rw [hp] at hge
      refine ⟨pw, z2 _ _, k _ _ ⟨by rw [hp]; omega, by rw [hp]; omega, m0, m1⟩⟩
    · rw [if_neg (by rw [decide_eq_true_eq]; exact hge)]
      exact ⟨z2 _ _, k _ _ none0⟩
  · rw [if_neg (by rw [decide_eq_true_eq]; exact hlt), if_neg (by decide)]
    exact ⟨z2 _ _, k _ _ none0⟩
theorem vc_draw : ∀ avs Q XP, spDraw avs Q XP → w_draw (bodyN avs Q XP) (stOf 3 avs) := by
  rintro _ Q XP ⟨rest, mixed, span, rfl, src, p0, p1, k⟩
  have e : stOf 3 [AV.m (.lst [.int rest, .int mixed]), AV.d (.int span)] = [.p (.lst [.int rest, .int mixed]), .d (.int span), .un] := rfl
  rw [e]
  have a0 : atI [D.int rest, D.int mixed] 0 = some (D.int rest) := rfl
  have a1 : atI [D.int rest, D.int mixed] 1 = some (D.int mixed) := rfl
  have x0 : ixN [D.int rest, D.int mixed].length 0 = some 0 := rfl
  have x1 : ixN [D.int rest, D.int mixed].length 1 = some 1 := rfl
  have b1 : ∀ z : Int, atI [D.int rest, D.int z] 1 = some (D.int z) := fun _ => rfl
  simp only [w_draw, wSeq, wAsg, wBin, wC, wVar, varK, opt, cont, slotD, asgK, NoP, wIfS, wTest, boolK, oGe, oIx, oMod, oFdiv, oAdd, oMul, oPow, oI, oI0, wCB, wCons, wNil, conts, on1, oInt, wNext, wRet, wSt, wPers, persK, cellOf, setC, stK, Cell.toD, Cell.ty, List.getElem?_cons_zero, List.getElem?_cons_succ, List.set_cons_zero, List.set_cons_succ, true_and, freeze, a0, a1, x0, x1, b1]
  obtain ⟨r0, rb, m0, mb⟩ := src
  have dsp : ∀ i : Int, CDivW i span := fun i => wide_div (b := 20) p0 (by
    have : (2 : Nat) ^ 20 = 1048576 := by decide
    omega) (by decide) (by decide)
  by_cases hge : span ≤ rest
  · rw [if_pos (decide_eq_true hge)]
    refine ⟨p0, dsp _, k _ _ _ (Int.emod_nonneg _ (by omega)) (Int.emod_lt_of_pos _ p0) ⟨Int.ediv_nonneg r0 (by omega), ?_, m0, mb⟩⟩
    have q0 : 0 ≤ rest / span := Int.ediv_nonneg r0 (by omega)
    have q1 : rest / span ≤ rest := Int.ediv_le_self _ r0
    omega
  · rw [if_neg (by rw [decide_eq_true_eq]; exact hge)]
    have n0 : 0 ≤ (mixed * 69621 + 4241) % 2147483647 := Int.emod_nonneg _ (by decide)
    have n1 : (mixed * 69621 + 4241) % 2147483647 < 2147483647 := Int.emod_lt_of_pos _ (by decide)
    have small : ∀ z : Int, 0 ≤ z → z < 2147483648 → z.natAbs.log2 < 40 := fun z h0 h1 => PySem.Flt.log2_lt_of (by decide) (by
      have : (2 : Nat) ^ 40 = 1099511627776 := by decide
      omega)
    refine ⟨wide_mul (a := 40) (b := 20) (by
      have : (2 : Nat) ^ 40 = 1099511627776 := by decide
      omega) (by decide) (by decide) (by decide) (by decide), by decide, ⟨by decide, ?_⟩, by decide, ⟨by decide, by decide⟩, p0, k _ _ _ (Int.emod_nonneg _ (by omega)) (Int.emod_lt_of_pos _ p0) ⟨r0, rb, n0, by omega⟩⟩
    have := small _ n0 (by omega)
    omega
end DL


/-! Gx: rules as gen2.py prints them. -/
namespace DL
open PySem PySem.Spec PyProof.Rows L2
variable {X : Cx} {W : WX}
theorem takesW0 {X : Cx} : Takes X W0 := by
  rintro u s' ⟨_, _, _, _, _, _, _, _, _, _, _, _, _, _, _, _, _, z⟩
theorem de_max2 {e e2 : Expr} {p pos : Pos} {wa : WA} (hm : X.mg "max" = none) (ha : DA X W [e, e2] wa) (hc : X.calm = true := by rfl) (hg : Gl X "max" := by rfl)
    (he : starEach [e, e2] X.env = (false, eval e X.env) :: starEach [e2] X.env := by rfl) (hpl : (backTo pos (starEach [e2] X.env)).any (·.1) = false := by rfl) : DE X W (.Call (.Name "max" p) [e, e2] [] pos) (wCB (on2 oMax2) wa) :=
  de_callB (call_max2 hc) ok_max2 hm (by decide +kernel) ha hg (by decide) (by decide) he hpl
theorem de_min2 {e e2 : Expr} {p pos : Pos} {wa : WA} (hm : X.mg "min" = none) (ha : DA X W [e, e2] wa) (hc : X.calm = true := by rfl) (hg : Gl X "min" := by rfl)
    (he : starEach [e, e2] X.env = (false, eval e X.env) :: starEach [e2] X.env := by rfl) (hpl : (backTo pos (starEach [e2] X.env)).any (·.1) = false := by rfl) : DE X W (.Call (.Name "min" p) [e, e2] [] pos) (wCB (on2 oMin2) wa) :=
  de_callB (call_min2 hc) ok_min2 hm (by decide +kernel) ha hg (by decide) (by decide) he hpl
theorem dt_chain {a b c : Expr} {op op' : CmpOp} {r r' : R2} {o o' : Op2} {w1 w2 w3 : WE} {pos : Pos} (ho : OpR X (compareOp op) r) (ok : OpOk r o) (ho' : OpR X (compareOp op') r') (ok' : OpOk r' o') (ha : DE X W a w1) (hb : DE X W b w2) (hc : DE X W c w3)
    (hm : lastMarks [op, op'] [b, c] = false := by with_unfolding_all rfl) : DT X W (.Compare a [op, op'] [b, c] pos) (wTest (wChain o o' w1 w2 w3)) := ⟨(pt_chain ho ho' ha.pe hb.pe hc.pe hm).imp fun _ _ _ h => by
  obtain ⟨Γ, L, Hf, ad, st, P, E, s, hw, hP, hE⟩ := h
  refine LE.chain (W := W) ok ok' ⟨Γ, L, Hf, ad, st, _, E, s, hw, fun r1 st1 h1 v Hf1 H1 n1 s1 k1 => ?_, hE⟩
  obtain ⟨b, rfl, h1⟩ := boolK_of h1
  exact ⟨b, rep_bl k1, hP _ _ h1 Hf1 H1 n1 s1⟩⟩
/-- a property that tells a field -/
structure PrD (P : Program) (w : World) (K : PySem.W.Frag) (mg : Str → Option Value) (base : Heap) (C : Addr) (f g : Str) (k : Nat) : Prop where
  cls : L2.Cls K C
  ex : ∃ (p ga : Addr) (fd : FuncData), PropOf K C f p ga ∧ FnOk P w K mg base (L2.CX P w) k ga fd ["self"] (getSp C g) ∧ Binds K fd ["self"] []
theorem de_propD {C : Addr} {f g : Str} {k : Nat} {e : Expr} {w : WE} {pos : Pos} (h : PrD X.prog X.w X.K X.mg X.base C f g k) (hr : Room (k + 1) X.A) (he : DE X W e w) (hab : attributeBase e f X.env (eval e X.env) = eval e X.env := by rfl) : DE X W (.Attribute e f pos) (wFld C g w) := by
  obtain ⟨p, ga, fd, h1, h2, h3⟩ := h.ex
  exact de_prop h.cls h1 h2 hr h3 he hab
/-- a list's pop(i), append(x) -/
theorem de_append (j : Nat) {x : Str} {e : Expr} {w : WE} {pos npos apos : Pos} (he : DE X W e w) (hN : X.N[j]? = some x := by rfl)
    (hv : Vis X.env.scope x := by first | exact Or.inl rfl | exact Or.inr (Or.inl rfl) | exact Or.inr (Or.inr rfl)) (hd : (x == ("__debug__" : Str)) = false := by decide) (hcd : (x == ("__classdict__" : Str)) = false := by decide)
    (hbase : attributeBase (.Name x npos) "append" X.env (eval (.Name x npos) X.env) = eval (.Name x npos) X.env := by rfl)
    (hfew : ((backTo pos (starEach [e] X.env)).all (fun x => !x.1) && (backToKw pos (keywordEach [] X.env)).all (fun x => x.1.isSome) && decide ([e].length + ([] : List Keyword).length + (if ([] : List Keyword).isEmpty then 0 else 1) < 30)) = true := by rfl)
    (hline : (apos.endLine == pos.line) = true := by rfl) (hst : starEach [e] X.env = (false, eval e X.env) :: starEach [] X.env := by rfl) (hplain : (backTo pos (starEach [] X.env)).any (·.1) = false := by rfl) : DE X W (.Call (.Attribute (.Name x npos) "append" apos) [e] [] pos) (wMut "list" j mAppend (wCons (wPers w) wNil)) :=
  de_mut j PySem.F.plainAttrs_list PySem.F.slot_list_append PySem.F.type_list_append mt_append ok_append (da_cons (de_pers he) da_nil hst) hN hv hd hcd hbase hfew hline hst hplain
theorem de_popAt (j : Nat) {x : Str} {e : Expr} {w : WE} {pos npos apos : Pos} (he : DE X W e w) (hN : X.N[j]? = some x := by rfl)
    (hv : Vis X.env.scope x := by first | exact Or.inl rfl | exact Or.inr (Or.inl rfl) | exact Or.inr (Or.inr rfl)) (hd : (x == ("__debug__" : Str)) = false := by decide) (hcd : (x == ("__classdict__" : Str)) = false := by decide)
    (hbase : attributeBase (.Name x npos) "pop" X.env (eval (.Name x npos) X.env) = eval (.Name x npos) X.env := by rfl)
    (hfew : ((backTo pos (starEach [e] X.env)).all (fun x => !x.1) && (backToKw pos (keywordEach [] X.env)).all (fun x => x.1.isSome) && decide ([e].length + ([] : List Keyword).length + (if ([] : List Keyword).isEmpty then 0 else 1) < 30)) = true := by rfl)
    (hline : (apos.endLine == pos.line) = true := by rfl) (hst : starEach [e] X.env = (false, eval e X.env) :: starEach [] X.env := by rfl) (hplain : (backTo pos (starEach [] X.env)).any (·.1) = false := by rfl) : DE X W (.Call (.Attribute (.Name x npos) "pop" apos) [e] [] pos) (wMut "list" j mPopAt (wCons (wPers w) wNil)) :=
  de_mut j PySem.F.plainAttrs_list PySem.F.slot_list_pop PySem.F.type_list_pop mt_popAt ok_popAt (da_cons (de_pers he) da_nil hst) hN hv hd hcd hbase hfew hline hst hplain
/-- {} -/
def wDict0 : WE := fun st P _ => P (.n (.dk [])) st
theorem de_dict0 {pos : Pos} : DE X W (.Dict [] [] pos) wDict0 := ⟨pe_dnewK.imp fun σ H Q ⟨Γ, L, Hf, ad, st, P, E, s, hw, hP, hE⟩ => fun p hp => by
  obtain ⟨n2, s2, k2⟩ := (Res.new (c := .dk []) hp ⟨[], rfl, .nil⟩).go s
  exact hP _ _ hw _ _ _ n2 s2 k2⟩
/-- an except clause without a name -/
def hdP (cs : List Addr) (ws : WS) : Hd := ⟨fun C => if C ∈ cs then some true else none, none, fun _ _ _ _ => ws, ws⟩
theorem hdP_ok {K : PySem.W.Frag} {cs : List Addr} {vs : List Value} {ws : WS} (h : ∀ c ∈ cs, PySem.W.exmAny K (.ref c) vs = some true) : HdOk K (hdP cs ws) vs (fun _ _ _ => LS W0 ws) := by
  refine ⟨fun C b e => ?_, fun a C dd f y D σ H _ q => q, fun _ a C d D σ H q => q⟩
  unfold hdP at e
  dsimp only at e
  split at e
  · rename_i hm
    cases e
    exact h C hm
  · cases e
theorem hdP_ok1 {K : PySem.W.Frag} {c : Addr} {vs : List Value} {ws : WS} (h : PySem.W.exmAny K (.ref c) vs = some true) : HdOk K (hdP [c] ws) vs (fun _ _ _ => LS W0 ws) := hdP_ok fun x hx => by
  rw [List.mem_singleton.mp hx]
  exact h
theorem hdP_ok2 {K : PySem.W.Frag} {c d : Addr} {vs : List Value} {ws : WS} (h : PySem.W.exmAny K (.ref c) vs = some true) (h' : PySem.W.exmAny K (.ref d) vs = some true) : HdOk K (hdP [c, d] ws) vs (fun _ _ _ => LS W0 ws) := hdP_ok fun x hx => by
  rcases List.mem_cons.mp hx with rfl | hx
  · exact h
  · rw [List.mem_singleton.mp hx]
    exact h'
/-- except c as .. -/
def hdX (c : Addr) (i : Nat) (ws : Addr → Addr → WS) : Hd := ⟨fun C => if C = c then some true else none, some i, fun a dd _ _ => ws a dd, wNext⟩
def tsX (c : Addr) (ws : Addr → Addr → WS) : Addr → Value → Option Addr → TS := fun a cls d D σ H => ∃ dd, d = some dd ∧ cls = .ref c ∧ LS W0 (ws a dd) D σ H
theorem hdX_ok {K : PySem.W.Frag} {c : Addr} {i : Nat} {ws : Addr → Addr → WS} (h : PySem.W.exmAny K (.ref c) [.ref c] = some true) : HdOk K (hdX c i ws) [.ref c] (tsX c ws) := by
  have e : ∀ {C : Addr} {b : Bool}, (hdX c i ws).any C = some b → C = c ∧ b = true := fun {C b} e => by
    unfold hdX at e
    dsimp only at e
    split at e
    · rename_i hm
      cases e
      exact ⟨hm, rfl⟩
    · cases e
  refine ⟨fun C b q => ?_, fun a C dd f y D σ H q z => ?_, fun q => nomatch q⟩
  · obtain ⟨rfl, rfl⟩ := e q
    exact h
  · obtain ⟨rfl, _⟩ := e q
    exact ⟨dd, rfl, rfl, z⟩
theorem hdX_pss {c : Addr} {ws : Addr → Addr → WS} {suite : List Stmt} (h : ∀ (a dd : Addr) (oe : Obj) (pn : List (Addr × Obj)), Zc (.ref c) (some dd) oe → (∃ vs, oe.data = .fields vs) → DSs (X.suite a ((a, oe) :: pn)) W0 suite (ws a dd)) :
    ∀ (a : Addr) (oe : Obj) (cls : Value) (d : Option Addr) (pn : List (Addr × Obj)), Zc cls d oe → (∃ vs, oe.data = .fields vs) → PSs (X.suite a ((a, oe) :: pn)) suite (tsX c ws a cls d) := fun a oe cls d pn hz hf => by
  refine ⟨fun pins s σ H D I q => ?_⟩
  obtain ⟨dd, rfl, rfl, q⟩ := q
  exact (h a dd oe pn hz hf).pss.run pins s σ H D I q
end DL


/-! Lc: comprehensions, walks that leave the state as it was. -/
namespace DL
open PySem PySem.Spec PyProof.Rows L2
/-- a slot that holds nobody's own object -/
def Fre (st : S) (i : Nat) : Prop := ∃ s, st[i]? = some s ∧ (∀ c, s ≠ .o c) ∧ ∀ c, s ≠ .p c
theorem Fre.lt {st : S} {i : Nat} (h : Fre st i) : i < st.length := by
  obtain ⟨s, e, _⟩ := h
  exact (List.getElem?_eq_some_iff.mp e).1
theorem fre_un {st : S} {i : Nat} (h : st[i]? = some .un) : Fre st i := ⟨_, h, fun _ => Slot.noConfusion, fun _ => Slot.noConfusion⟩
theorem fre_d {st : S} {i : Nat} {x : D} (h : st[i]? = some (.d x)) : Fre st i := ⟨_, h, fun _ => Slot.noConfusion, fun _ => Slot.noConfusion⟩
theorem fre_bare {st : S} {i : Nat} (h : Fre st i) : Bare st [i] := by
  obtain ⟨s, e, h1, h2⟩ := h
  refine ⟨?_, trivial⟩
  rw [e]
  cases s <;> first | trivial | exact h1 _ rfl | exact h2 _ rfl
theorem nop_set {st : S} {i : Nat} {x : D} (h : i < st.length) : NoP (st.set i .un) i := by
  unfold NoP
  rw [List.getElem?_set_self h]
  trivial
theorem rest1 {st : S} {i : Nat} {s : Slot} (h : i < st.length) : restS (st.set i s) st [i] = st := by
  unfold restS restS
  have e : st[i]? = some st[i] := List.getElem?_eq_getElem h
  rw [e]
  dsimp only
  rw [List.set_set, List.set_getElem_self]
theorem lcN1 {i : Nat} {wt : WT} {we : WE} {k : List D → S → Prop} {st : S} (b : D → Bool) (f : D → D) (fr : Fre st i) : ∀ (xs : List D) (acc : List D),
    (∀ x ∈ xs, ∀ P : Bool → S → Prop, P (b x) (st.set i (.d x)) → wt (st.set i (.d x)) P ex0) → (∀ x ∈ xs, b x = true → ∀ P : RV → S → Prop, P (.d (f x)) (st.set i (.d x)) → we (st.set i (.d x)) P ex0) →
    acc.length + xs.length < sizeLine → k (acc ++ (xs.filter b).map f) st → lcN (gN i) wt we [i] k xs acc st
  | [], acc, _, _, _, hk => by
    show k acc st
    simpa using hk
  | x :: xs, acc, ht, he, hz, hk => by
    unfold lcN
    refine ⟨fre_bare fr, ?_⟩
    show NoP (st.set i .un) i ∧ _
    refine ⟨nop_set (x := x) fr.lt, ?_⟩
    have e0 : List.set (wipeS st [i]) i (Slot.d x) = st.set i (.d x) := by
      show (st.set i .un).set i (.d x) = _
      rw [List.set_set]
    rw [e0]
    dsimp only
    rw [List.length_cons] at hz
    refine ht x List.mem_cons_self _ ?_
    cases e : b x with
    | true =>
      rw [if_pos rfl]
      refine he x List.mem_cons_self e _ ⟨by omega, ?_⟩
      rw [rest1 fr.lt]
      refine lcN1 b f fr xs _ (fun y hy => ht y (List.mem_cons_of_mem _ hy)) (fun y hy => he y (List.mem_cons_of_mem _ hy)) (by rw [List.length_append, List.length_singleton]; omega) ?_
      rw [List.filter_cons_of_pos e, List.map_cons] at hk
      rw [List.append_assoc]
      exact hk
    | false =>
      rw [if_neg Bool.false_ne_true, rest1 fr.lt]
      refine lcN1 b f fr xs _ (fun y hy => ht y (List.mem_cons_of_mem _ hy)) (fun y hy => he y (List.mem_cons_of_mem _ hy)) (by omega) ?_
      rw [List.filter_cons_of_neg (by rw [e]; exact Bool.false_ne_true)] at hk
      exact hk
/-- no test -/
theorem lcM1 {i : Nat} {we : WE} {k : List D → S → Prop} {st : S} (f : D → D) (fr : Fre st i) (xs : List D) (he : ∀ x ∈ xs, ∀ P : RV → S → Prop, P (.d (f x)) (st.set i (.d x)) → we (st.set i (.d x)) P ex0)
    (hz : xs.length < sizeLine) (hk : k (xs.map f) st) : lcN (gN i) wYes we [i] k xs [] st :=
  lcN1 (fun _ => true) f fr xs [] (fun x _ P h => h) (fun x hx _ => he x hx) (by simpa using hz) (by
    rw [List.filter_eq_self.mpr fun _ _ => rfl]
    exact hk)
theorem rest2 {st : S} {i j : Nat} {s s' : Slot} (h : i < st.length) (h' : j < st.length) (ij : i ≠ j) : restS ((st.set i s).set j s') st [i, j] = st := by
  unfold restS restS restS
  have e : st[i]? = some st[i] := List.getElem?_eq_getElem h
  have e' : st[j]? = some st[j] := List.getElem?_eq_getElem h'
  rw [e, e']
  dsimp only
  rw [List.set_set, List.set_comm _ _ ij, List.set_set, List.set_getElem_self, List.set_getElem_self]
/-- two names, no test -/
theorem lcM2 {i j : Nat} {we : WE} {k : List D → S → Prop} {st : S} (f : D → D → D) (fi : Fre st i) (fj : Fre st j) (ij : i ≠ j) : ∀ (xs : List (D × D)) (acc : List D),
    (∀ x ∈ xs, ∀ P : RV → S → Prop, P (.d (f x.1 x.2)) ((st.set i (.d x.1)).set j (.d x.2)) → we ((st.set i (.d x.1)).set j (.d x.2)) P ex0) →
    acc.length + xs.length < sizeLine → k (acc ++ xs.map fun x => f x.1 x.2) st → lcN (gT [gN i, gN j]) wYes we [i, j] k (xs.map fun x => .tup [x.1, x.2]) acc st
  | [], acc, _, _, hk => by
    show k acc st
    simpa using hk
  | x :: xs, acc, he, hz, hk => by
    rw [List.map_cons]
    unfold lcN
    refine ⟨⟨(fre_bare fi).1, (fre_bare fj).1, trivial⟩, ?_⟩
    rw [List.length_cons] at hz
    have li : i < (st.set j .un).length := by rw [List.length_set]; exact fi.lt
    have nj : NoP (((st.set j .un).set i .un).set i (.d x.1)) j := by
      unfold NoP
      rw [List.set_set, List.getElem?_set_ne ij, List.getElem?_set_self fj.lt]
      trivial
    refine ⟨rfl, nop_set (x := x.1) li, nj, ?_⟩
    have e : List.set (List.set (wipeS st [i, j]) i (.d x.1)) j (.d x.2) = (st.set i (.d x.1)).set j (.d x.2) := by
      show (((st.set j .un).set i .un).set i (.d x.1)).set j (.d x.2) = _
      rw [List.set_set, List.set_comm _ _ (Ne.symm ij), List.set_set]
    rw [e]
    dsimp only [gsN, wYes]
    rw [if_pos rfl]
    refine he x List.mem_cons_self _ ⟨by omega, ?_⟩
    rw [rest2 fi.lt fj.lt ij]
    refine lcM2 f fi fj ij xs _ (fun y hy => he y (List.mem_cons_of_mem _ hy)) (by rw [List.length_append, List.length_singleton]; omega) ?_
    rw [List.append_assoc]
    rw [List.map_cons] at hk
    exact hk
end DL


/-! D56: webs and their texts as data; the defs' promises. -/
namespace DL
open PySem PySem.Spec PyProof.Rows L2
def alphabet : Str := "abcdefghijklmnopqrstuvwxyz"
/-- a name -/
def isNameB (z : Str) : Bool := (decide (1 ≤ z.length) && decide (z.length ≤ 8)) && z.cps.toList.all fun c => decide (c ∈ alphabet.cps.toList)
def sDs (ss : List Str) : List D := ss.map D.str
def pairD (t : Str × Str) : D := .tup [.str t.1, .str t.2]
def tDs (ts : List (Str × Str)) : List D := ts.map pairD
/-- whom p stands next to, in the order of the ties -/
def nbs (ts : List (Str × Str)) (p : Str) : List Str := p :: ts.filterMap fun t => if t.1 = p then some t.2 else if t.2 = p then some t.1 else none
def nearD (ss : List Str) (ks : Str → List Str) : D := .dk (ss.map fun p => (.inr p, .dk ((ks p).map fun k => (.inr k, .bl true))))
def webD (C : Addr) (ss : List Str) (ts : List (Str × Str)) : D := .ins C [("spots", .tup (sDs ss)), ("near", nearD ss (nbs ts)), ("lines", .tup (tDs ts))]
def okP (ss : List Str) : Prop := 1 ≤ ss.length ∧ ss.length ≤ 12 ∧ (∀ z ∈ ss, isNameB z = true) ∧ ss.Nodup
def okPair (ss : List Str) (t : Str × Str) : Prop := t.1 ∈ ss ∧ t.2 ∈ ss ∧ t.1 ≠ t.2
/-- the tie may stand behind those -/
def okTie (ss : List Str) (ts : List (Str × Str)) (t : Str × Str) : Prop := okPair ss t ∧ (t.1, t.2) ∉ ts ∧ (t.2, t.1) ∉ ts
def okTs (ss : List Str) : List (Str × Str) → List (Str × Str) → Prop
  | _, [] => True
  | done, t :: r => okTie ss done t ∧ okTs ss (done ++ [t]) r
def okT (ss : List Str) (ts : List (Str × Str)) : Prop := okTs ss [] ts
instance (ss : List Str) : Decidable (okP ss) := by unfold okP; infer_instance
instance (ss : List Str) (t : Str × Str) : Decidable (okPair ss t) := by unfold okPair; infer_instance
instance (ss : List Str) (ts : List (Str × Str)) (t : Str × Str) : Decidable (okTie ss ts t) := by unfold okTie; infer_instance
/-! ### promises -/
def spIsName : DSp := fun avs P _ => ∃ z : Str, avs = [.d (.str z)] ∧ z.length ≤ 1000000 ∧ P (.d (.bl (isNameB z))) []
def spIsPlace : DSp := fun avs P _ => ∃ (z : Str) (ss : List Str), avs = [.d (.str z), .d (.tup (sDs ss))] ∧ P (.d (.bl (decide (z ∈ ss)))) []
def spIsPair : DSp := fun avs P _ => ∃ (t : Str × Str) (ss : List Str), avs = [.d (pairD t), .d (.tup (sDs ss))] ∧ P (.d (.bl (decide (okPair ss t)))) []
def spWeb (C cBP cBI : Addr) : DSp := fun avs P XP => ∃ (x y : D) (ss : List Str) (ts : List (Str × Str)), avs = [.b x, .b y] ∧ (x = .lst (sDs ss) ∨ x = .tup (sDs ss)) ∧ (y = .lst (tDs ts) ∨ y = .tup (tDs ts)) ∧ ss.length ≤ 1000 ∧ ts.length ≤ 100000 ∧ (∀ z ∈ ss, z.length ≤ 1000000) ∧
  (¬ okP ss → XP cBP none []) ∧ (okP ss → (okT ss ts → P (.d (webD C ss ts)) []) ∧ (¬ okT ss ts → ∀ i : Nat, XP cBI (some ("position", .int (i : Nat))) []))
/-! ### texts -/
def lineP (z : Str) : Str := Str.append "place " z
def lineT (t : Str × Str) : Str := Str.append (Str.append (Str.append "tie " t.1) " ") t.2
def linesOf (ss : List Str) (ts : List (Str × Str)) : List Str := ss.map lineP ++ ts.map lineT
def textOf (ss : List Str) (ts : List (Str × Str)) : Str := Txt.join "\n" (linesOf ss ts)
/-- a line read -/
def stepL (ss : List Str) (ts : List (Str × Str)) (line : Str) : Option (List Str × List (Str × Str)) := match Txt.split line " " with
  | [w, z] => if w = "place" ∧ ts = [] ∧ ss.length ≤ 11 ∧ z ∉ ss ∧ isNameB z = true then some (ss ++ [z], ts) else none
  | [w, a, b] => if w = "tie" ∧ okTie ss ts (a, b) then some (ss, ts ++ [(a, b)]) else none
  | _ => none
/-- the lines read: the number of the first that is refused, or what is told -/
def runL : Nat → List Str → List Str → List (Str × Str) → Nat ⊕ (List Str × List (Str × Str))
  | _, [], ss, ts => .inr (ss, ts)
  | n, l :: r, ss, ts => match stepL ss ts l with
    | some (ss', ts') => runL (n + 1) r ss' ts'
    | none => .inl (n + 1)
def runT (text : Str) : Nat ⊕ (List Str × List (Str × Str)) := runL 0 (Txt.split text "\n") [] []
def firstBad (text : Str) : Nat := match runT text with
  | .inl n => n
  | .inr _ => 0
def spWebText (C : Addr) : DSp := fun avs P _ => ∃ (ss : List Str) (ts : List (Str × Str)), avs = [.d (webD C ss ts)] ∧ ss.length ≤ 1000 ∧ ts.length ≤ 100000 ∧ ((linesOf ss ts).map (·.length)).sum ≤ 1000000 ∧ P (.d (.str (textOf ss ts))) []
def spReadLine : DSp := fun avs P _ => ∃ (ss : List Str) (ts : List (Str × Str)) (line : Str), avs = [.m (.lst (sDs ss)), .m (.lst (tDs ts)), .d (.str line)] ∧ line.length ≤ 100000 ∧ (ss = [] ∨ okP ss) ∧ okT ss ts ∧ (ss = [] → ts = []) ∧ ts.length ≤ 50000 ∧
  (∀ ss' ts', stepL ss ts line = some (ss', ts') → P (.d (.bl true)) [.lst (sDs ss'), .lst (tDs ts')]) ∧ (stepL ss ts line = none → ∀ xs ys, P (.d (.bl false)) [.lst xs, .lst ys])
def spReadWeb (C cTX : Addr) : DSp := fun avs P XP => (∃ text : Str, avs = [.d (.str text)] ∧ text.length ≤ 40000 ∧ (∀ n, runT text = .inl n → XP cTX (some ("line", .int (n : Nat))) []) ∧ ∀ ss ts, runT text = .inr (ss, ts) → okP ss → okT ss ts → P (.d (webD C ss ts)) []) ∨
  ∃ (x : D) (a : String), avs = [.d x] ∧ tyS x = some a ∧ a ≠ "str" ∧ XP cTX (some ("line", .int 1)) []
def spTold : DSp := fun avs P _ => (∃ text : Str, avs = [.d (.str text)] ∧ text.length ≤ 40000 ∧ P (.d (.int (firstBad text : Nat))) []) ∨ ∃ (x : D) (a : String), avs = [.d x] ∧ tyS x = some a ∧ a ≠ "str" ∧ P (.d (.int 1)) []
def spFirstBad : DSp := fun avs P _ => ∃ text : Str, avs = [.d (.str text)] ∧ text.length ≤ 40000 ∧ P (.d (.int (firstBad text : Nat))) []
/-! ### what is drawn -/
abbrev SrcD (r m : Int) : Cell := .lst [.int r, .int m]
/-- behind it the source stands at some place -/
def anyS (K : Cell → Prop) : Prop := ∀ r m, Src r m → K (SrcD r m)
/-- how many items -/
def spPick : DSp := fun avs P _ => ∃ (rest mixed : Int) (x : D) (n : Nat), avs = [.m (.lst [.int rest, .int mixed]), .b x] ∧ Src rest mixed ∧ lenD x = some n ∧ 0 < n ∧ n < 1000000 ∧
  ∀ (i : Nat) rest' mixed', i < n → Src rest' mixed' → oIx x (.int (i : Nat)) fun rv => P rv [.lst [.int rest', .int mixed']]
def spMixed : DSp := fun avs P _ => ∃ r m x xs, avs = [.m (SrcD r m), .b x] ∧ Src r m ∧ itemsD x = some xs ∧ xs.length < 100000 ∧ ∀ ys, ys.Perm xs → anyS fun c => P (.n (.lst ys)) [c]
def spWord : DSp := fun avs P _ => ∃ r m, avs = [.m (SrcD r m)] ∧ Src r m ∧ ∀ z, isNameB z = true → anyS fun c => P (.d (.str z)) [c]
def spNames : DSp := fun avs P _ => ∃ r m n, avs = [.m (SrcD r m), .d (.int (n : Nat))] ∧ Src r m ∧ 1 ≤ n ∧ n ≤ 12 ∧ ∀ ss : List Str, ss.length = n → okP ss → anyS fun c => P (.n (.lst (sDs ss))) [c]
def ijD (t : Nat × Nat) : D := .tup [.int (t.1 : Nat), .int (t.2 : Nat)]
def spPairs : DSp := fun avs P _ => ∃ (r m : Int) (n k : Nat), avs = [.m (SrcD r m), .d (.int (n : Nat)), .d (.int (k : Nat))] ∧ Src r m ∧ 1 ≤ n ∧ n ≤ 12 ∧ k < 7 ∧ ∀ ps : List (Nat × Nat), (∀ t ∈ ps, t.1 < t.2 ∧ t.2 < n) → ps.Nodup → ps.length ≤ 144 → anyS fun c => P (.n (.lst (ps.map ijD))) [c]
def planD (ss : List Str) (ts : List (Str × Str)) : D := .tup [.tup (sDs ss), .tup (tDs ts)]
def spPlan : DSp := fun avs P _ => ∃ (r m : Int) (n : Nat), avs = [.m (SrcD r m), .d (.int (n : Nat))] ∧ Src r m ∧ 1 ≤ n ∧ n ≤ 12 ∧ ∀ ss ts, okP ss → okT ss ts → ts.length ≤ 144 → anyS fun c => P (.d (planD ss ts)) [c]
def spLawWeb (C : Addr) : DSp := fun avs P _ => ∃ (ss : List Str) (ts : List (Str × Str)), avs = [.d (planD ss ts)] ∧ okP ss ∧ okT ss ts ∧ ts.length ≤ 1000 ∧ P (.d (webD C ss ts)) []
def spLawIsName : DSp := fun avs P _ => ∃ z : Str, avs = [.d (.str z)] ∧ z.length ≤ 1000000 ∧ P (.d (.bl (isNameB z))) []
/-- lines, so many, so long -/
def LinesOk (n k : Nat) (ls : List Str) : Prop := ls.length ≤ n ∧ ∀ l ∈ ls, l.length ≤ k
def spBent : DSp := fun avs P _ => ∃ (r m : Int) (ls : List Str) (n k : Nat), avs = [.m (SrcD r m), .b (.lst (sDs ls))] ∧ Src r m ∧ ls ≠ [] ∧ LinesOk n k ls ∧ n ≤ 1000 ∧ k ≤ 1000 ∧ ∀ ls', LinesOk (n + 1) (2 * k + 20) ls' → anyS fun c => P (.n (.lst (sDs ls'))) [c]
def spLaw : DSp := fun avs P _ => ∃ ns : List Int, avs = [.b (.fz ns)] ∧ (∀ n ∈ ns, n.natAbs < big) ∧ P (.d (.bl true)) []
end DL


namespace K56
open PySem PySem.Spec PyProof.Rows L2
def body : List Stmt := PySem.Challenge.pw_cornerturn_k56_texts_refused.main.body
def top (i : Nat) : Stmt := body.getD i (.Pass ⟨0, 0, 0, 0⟩)
def inCls : Stmt → Nat → Stmt
  | .ClassDef (body := b) .., i => b.getD i (.Pass ⟨0, 0, 0, 0⟩)
  | _, _ => .Pass ⟨0, 0, 0, 0⟩
abbrev sBadPlaces_init : Stmt := inCls (top 3) 0
abbrev sBadTies_init : Stmt := inCls (top 4) 0
abbrev sBadTie_init : Stmt := inCls (top 5) 0
abbrev sNoPlace_init : Stmt := inCls (top 6) 0
abbrev sBadText_init : Stmt := inCls (top 7) 0
abbrev sIsName : Stmt := top 11
abbrev sIsPlace : Stmt := top 12
abbrev sIsPair : Stmt := top 13
abbrev sWeb_init : Stmt := inCls (top 14) 0
abbrev sWeb_places : Stmt := inCls (top 14) 1
abbrev sWeb_ties : Stmt := inCls (top 14) 2
abbrev sWeb_eq : Stmt := inCls (top 14) 3
abbrev sWeb_need_place : Stmt := inCls (top 14) 4
abbrev sWeb_sees : Stmt := inCls (top 14) 5
abbrev sWeb_parts : Stmt := inCls (top 14) 6
abbrev sWeb_part_of : Stmt := inCls (top 14) 7
abbrev sWeb_only : Stmt := inCls (top 14) 8
abbrev sWeb_without : Stmt := inCls (top 14) 9
abbrev sWeb_tied : Stmt := inCls (top 14) 10
abbrev sWebText : Stmt := top 16
abbrev sReadLine : Stmt := top 17
abbrev sReadWeb : Stmt := top 18
abbrev sSource : Stmt := top 20
abbrev sDraw : Stmt := top 21
abbrev sPick : Stmt := top 22
abbrev sMixed : Stmt := top 23
abbrev sWord : Stmt := top 24
abbrev sNames : Stmt := top 25
abbrev sPairs : Stmt := top 26
abbrev sPlan : Stmt := top 27
abbrev sLawWeb : Stmt := top 28
abbrev sLawIsName : Stmt := top 29
abbrev sFirstBad : Stmt := top 30
abbrev sTold : Stmt := top 31
abbrev sBent : Stmt := top 32
abbrev sLaw : Stmt := top 33
end K56


/-! WBa: what stands through Web.__init__; near's plain laws. -/
namespace DL
open PySem PySem.Spec PyProof.Rows L2
/-- the ground and the heap at a point within a def, against those at its call -/
structure Bs (L : List Addr) (Hf0 H0 Hf H : Hp) : Prop where
  exl : Exl L Hf0 H0
  lk : ∀ a ∈ L, ∃ ob u, H0 a = some (.frz ob u)
  kp : Ex H0 H
  ex : Ex Hf0 Hf
  nw : ∀ b o, Hf b = some o → Hf0 b = some o ∨ H0 b = none
  st : ∀ b o, Hf b = some o → Hf0 b = some o ∨ H b = some o
section
variable {L : List Addr} {Hf0 H0 Hf H Hf' H' : Hp} {p : Addr} {u : HO}
theorem exl_none (e : Exl L Hf0 H0) (h : H0 p = none) : Hf0 p = none := by
  cases q : Hf0 p with
  | none => rfl
  | some o =>
    rcases e p o q with z | ⟨_, _, ob, z⟩ <;> rw [h] at z <;> cases z
theorem exl_kp {L' : List Addr} (e : Exl L' Hf0 H0) (k : Ex H0 H) (st : ∀ b o, Hf b = some o → Hf0 b = some o ∨ H b = some o) : Exl L' Hf H := fun b o h => by
  rcases st b o h with h | h
  · rcases e b o h with z | ⟨m, d, ob, z⟩
    · exact .inl (k _ _ z)
    · exact .inr ⟨m, d, ob, k _ _ z⟩
  · exact .inl h
theorem Bs.exf (b : Bs L Hf0 H0 Hf H) : Exl L Hf H := exl_kp b.exl b.kp b.st
theorem Bs.lkH (b : Bs L Hf0 H0 Hf H) : ∀ a ∈ L, ∃ ob u, H a = some (.frz ob u) := fun a h => by
  obtain ⟨ob, u, z⟩ := b.lk a h
  exact ⟨ob, u, b.kp _ _ z⟩
theorem Bs.nof (b : Bs L Hf0 H0 Hf H) (h : H p = none) : Hf p = none ∧ H0 p = none := by
  have h0 : H0 p = none := by
    cases q : H0 p with
    | none => rfl
    | some o => rw [b.kp _ _ q] at h; cases h
  refine ⟨?_, h0⟩
  cases q : Hf p with
  | none => rfl
  | some o =>
    rcases b.st p o q with z | z
    · rw [exl_none b.exl h0] at z; cases z
    · rw [h] at z; cases z
theorem Bs.upd (b : Bs L Hf0 H0 Hf H) (h0 : H0 p = none) (hf : Hf p = none) : Bs L Hf0 H0 Hf (upd H p u) :=
  ⟨b.exl, b.lk, fun a o h => by rw [upd_ne (ne_of_none h h0)]; exact b.kp _ _ h, b.ex, b.nw, fun a o h => (b.st a o h).imp id fun z => by rw [upd_ne (ne_of_none h hf)]; exact z⟩
theorem Bs.init (e : Exl L Hf0 H0) (lk : ∀ a ∈ L, ∃ ob u, H0 a = some (.frz ob u)) : Bs L Hf0 H0 Hf0 H0 := ⟨e, lk, Ex.refl _, Ex.refl _, fun _ _ h => .inl h, fun _ _ h => .inl h⟩
theorem Bs.after (b : Bs L Hf0 H0 Hf H) : After H0 Hf0 [] Hf H [] := ⟨b.ex, b.nw, fun a o h _ => b.kp a o h, fun L' _ e => exl_kp e b.kp b.st, .nil⟩
/-- all that is new becomes ground -/
def allNew (H0 Hf H : Hp) : Hp := fun b => if H0 b = none then H b else Hf b
theorem allNew_at {b : Addr} {o : HO} (h0 : H0 b = none) (h : H b = some o) : allNew H0 Hf H b = some o := by
  unfold allNew
  rw [if_pos h0]
  exact h
theorem Bs.exNew (b : Bs L Hf0 H0 Hf H) : Ex Hf (allNew H0 Hf H) := fun a o h => by
  unfold allNew
  split
  · rename_i h0
    rcases b.st a o h with z | z
    · rw [exl_none b.exl h0] at z; cases z
    · exact z
  · exact h
theorem Bs.all (b : Bs L Hf0 H0 Hf H) : Bs L Hf0 H0 (allNew H0 Hf H) H := by
  refine ⟨b.exl, b.lk, b.kp, b.ex.trans b.exNew, fun a o h => ?_, fun a o h => ?_⟩
  · unfold allNew at h
    split at h
    · rename_i h0; exact .inr h0
    · exact b.nw a o h
  · unfold allNew at h
    split at h
    · exact .inr h
    · exact b.st a o h
theorem Bs.enter (b : Bs L Hf0 H0 Hf H) {pa ad : Nat → Addr} {st : S} {σ : L2.St} (len : σ.length = st.length) (no : ∀ i, ¬ Owns st i) (sl : ∀ i s, st[i]? = some s → SlotOk ⟨H, Hf, [], pa⟩ Hf (ad i) σ[i]? s) : Sat ⟨H, Hf, [], pa⟩ L Hf ad st σ H :=
  ⟨len, b.exf, fun a o h => .inl h, Ex.refl _, fun _ _ h => .inl h, fun a h => (nomatch h), fun a h => (nomatch h), fun a h => (nomatch h), fun i c h => (no i (.inl ⟨c, h⟩)).elim, fun i c h => (no i (.inr ⟨c, h⟩)).elim, b.lkH, fun i j h => (no i h).elim, sl⟩
theorem Bs.sat (b : Bs L Hf0 H0 Hf H) {pa ad : Nat → Addr} {st : S} {σ : L2.St} (s : Sat ⟨H, Hf, [], pa⟩ L Hf' ad st σ H') : Bs L Hf0 H0 Hf' H' ∧ Ex H H' := by
  have kp : Ex H H' := fun a o h => by
    rcases s.exs a o h with z | ⟨m, d, _⟩
    · exact z
    · obtain ⟨ob, u, z⟩ := b.lkH a m
      rw [h] at z
      cases z
      rcases d with ⟨_, d⟩ | ⟨_, d⟩ <;> cases d
  refine ⟨⟨b.exl, b.lk, b.kp.trans kp, b.ex.trans s.base, fun a o h => ?_, fun a o h => ?_⟩, kp⟩
  · rcases s.new a o h with z | z
    · exact b.nw a o z
    · exact .inr (b.nof z).2
  · rcases s.new a o h with z | z
    · exact (b.st a o z).imp id (kp a o)
    · rcases s.exf a o h with q | ⟨m, _, _⟩
      · exact .inr q
      · obtain ⟨ob, u, q⟩ := b.lkH a m
        rw [show H a = none from z] at q
        cases q
theorem Bs.called (b : Bs L Hf0 H0 Hf H) (af : After H Hf [] Hf' H' []) : Bs L Hf0 H0 Hf' H' ∧ Ex H H' := by
  have kp : Ex H H' := fun a o h => af.keep a o h (fun z => nomatch z)
  refine ⟨⟨b.exl, b.lk, b.kp.trans kp, b.ex.trans af.ex, fun a o h => ?_, fun a o h => ?_⟩, kp⟩
  · rcases af.new a o h with z | z
    · exact b.nw a o z
    · exact .inr (b.nof z).2
  · rcases af.new a o h with z | z
    · exact (b.st a o z).imp id (kp a o)
    · rcases af.exf L b.lkH b.exf a o h with q | ⟨m, _, _⟩
      · exact .inr q
      · obtain ⟨ob, u, q⟩ := b.lkH a m
        rw [z] at q
        cases q
end
/-! ### dicts with keys of texts -/
theorem valV_map {f : Str → V} {x : Str} : ∀ {ss : List Str}, x ∈ ss → valV (ss.map fun p => ((.inr p : Key), f p)) (.inr x) = some (f x)
  | [], h => nomatch h
  | p :: ss, h => by
    unfold valV
    rw [List.map_cons, List.find?_cons]
    by_cases e : p = x
    · subst e
      simp
    · have e2 : decide ((Sum.inr p : Key) = .inr x) = false := decide_eq_false fun z => e (Sum.inr.inj z)
      simp only [e2]
      exact valV_map (List.mem_of_ne_of_mem (Ne.symm e) h)
theorem valV_mapn {f : Str → V} {x : Str} : ∀ {ss : List Str}, x ∉ ss → valV (ss.map fun p => ((.inr p : Key), f p)) (.inr x) = none
  | [], _ => rfl
  | p :: ss, h => by
    unfold valV
    rw [List.map_cons, List.find?_cons]
    have e2 : decide ((Sum.inr p : Key) = .inr x) = false := decide_eq_false fun z => h (by rw [Sum.inr.inj z]; exact List.mem_cons_self)
    simp only [e2]
    exact valV_mapn fun z => h (List.mem_cons_of_mem _ z)
theorem putK_new {f : Str → V} {x : Str} {v : V} {ss : List Str} (h : x ∉ ss) : putK (ss.map fun p => ((.inr p : Key), f p)) (.inr x) v = ss.map (fun p => ((.inr p : Key), f p)) ++ [(.inr x, v)] := by
  unfold putK
  rw [if_neg]
  intro z
  rw [List.any_map, List.any_eq_true] at z
  obtain ⟨p, hp, z⟩ := z
  have z := of_decide_eq_true z
  exact h (by rw [← Sum.inr.inj z]; exact hp)
/-! ### near -/
theorem nbs_nil (p : Str) : nbs [] p = [p] := rfl
theorem nbs_fst {ts : List (Str × Str)} {x y : Str} : nbs (ts ++ [(x, y)]) x = nbs ts x ++ [y] := by
  unfold nbs
  rw [List.filterMap_append]
  simp
theorem nbs_snd {ts : List (Str × Str)} {x y : Str} (h : x ≠ y) : nbs (ts ++ [(x, y)]) y = nbs ts y ++ [x] := by
  unfold nbs
  rw [List.filterMap_append]
  simp [h]
theorem nbs_other {ts : List (Str × Str)} {x y p : Str} (h1 : x ≠ p) (h2 : y ≠ p) : nbs (ts ++ [(x, y)]) p = nbs ts p := by
  unfold nbs
  rw [List.filterMap_append]
  simp [h1, h2]
theorem nbs_mem {ts : List (Str × Str)} {x y : Str} : y ∈ nbs ts x ↔ y = x ∨ (x, y) ∈ ts ∨ (y, x) ∈ ts := by
  unfold nbs
  rw [List.mem_cons, List.mem_filterMap]
  constructor
  · rintro (h | ⟨⟨a, b⟩, hm, h⟩)
    · exact .inl h
    · dsimp only at h
      split at h
      · rename_i e; cases h; subst e; exact .inr (.inl hm)
      · split at h
        · rename_i e; cases h; subst e; exact .inr (.inr hm)
        · cases h
  · rintro (h | h | h)
    · exact .inl h
    · exact .inr ⟨_, h, by simp⟩
    · refine .inr ⟨_, h, ?_⟩
      dsimp only
      split
      · rename_i e; rw [e]
      · simp
theorem nbs_len {ts : List (Str × Str)} {x : Str} : (nbs ts x).length ≤ ts.length + 1 := by
  unfold nbs
  rw [List.length_cons]
  exact Nat.succ_le_succ (List.length_filterMap_le _ _)
end DL


namespace DL
open PySem PySem.Spec PyProof.Rows L2 K56
def wt_w0 : WT := (wOr (wNot (wTest (wIsi ["list", "tuple"] (wVar 1)))) (wNot (wTest (wChain oLe oLe (wC (.int 1)) (wCB (on1 oLen) (wCons (wVar 1) wNil)) (wC (.int 12))))))
def wr_w0 (cBP cBT : Addr) : WS := (wRaise cBP "value" (wVar 1))
def wt_w1 : WT := (wOr (wNot (wTest (wCB (on1 oAll) (wCons (wLc (wItA (wVar 1)) (gN 5) wYes (wPers (wCall [.d] spIsName (wCons (wPers (wVar 5)) wNil))) [5]) wNil)))) (wTest (wBin oNe (wUn oLenS (wVar 1)) (wCB (on1 oLen) (wCons (wVar 1) wNil)))))
def wr_w1 (cBP cBT : Addr) : WS := (wRaise cBP "value" (wVar 1))
def wt_w2 : WT := (wNot (wTest (wIsi ["list", "tuple"] (wVar 2))))
def wr_w2 (cBP cBT : Addr) : WS := (wRaise cBT "value" (wVar 2))
def wr_w3 (cBI : Addr) : WS := (wRaise cBI "position" (wVar 3))
def we_tp : WE := (wCB (on1 oTuple) (wCons (wVar 1) wNil))
def we_tt : WE := (wCB (on1 oTuple) (wCons (wVar 2) wNil))
abbrev NW : List Str := ["self", "places", "ties", "position", "tie", "place"]
theorem sc_web : FnScope NW ["self", "places", "ties"] (defScope sWeb_init) := ⟨rfl, rfl, rfl, by decide +kernel, rfl, by decide +kernel, by decide +kernel⟩
/-- tie[i] -/
def rdT (K : PySem.W.Frag) (i : Int) : TE := tOp (rIx K) (tVar 4) (tC (.int i))
/-- self.near[tie[i]] -/
def rdN (K : PySem.W.Frag) (i : Int) : TE := tDGet (tFld K (tVar 0) "near") (rdT K i)
def rTest (K : PySem.W.Frag) (E : L2.St → XK) : TT := tOr (tNot (tTest (tCallSD (toSp spIsPair) [] E (tCons (tVar 4) (tCons (tFld K (tVar 0) "spots") tNil))))) (tTest (tOp (fun x y H Q => ∃ a o, y = .ref a ∧ DGet H a x o ∧ Q (.bl o.isSome) H) (rdT K 1) (rdN K 0)))
def rBody (K : PySem.W.Frag) (W : WX) (E : L2.St → XK) (cBI : Addr) : TS := tSeq (tIfS (rTest K E) (LS W (wr_w3 cBI)) tNext) (tSeq (sDPut (rdN K 0) (rdT K 1) (tC (.bl true))) (sDPut (rdN K 1) (rdT K 0) (tC (.bl true))))
def rDc (K : PySem.W.Frag) : TE := tDc (iTup K (tFld K (tVar 0) "spots")) (gName 5) tYes (tVar 5) (tDisp [(tVar 5, tC (.bl true))]) [5]
def rWeb (K : PySem.W.Frag) (W : WX) (E : L2.St → XK) (cBP cBT cBI : Addr) : TS :=
  tSeq (tIfS (LT W wt_w0) (LS W (wr_w0 cBP cBT)) tNext) (tSeq (tIfS (LT W wt_w1) (LS W (wr_w1 cBP cBT)) tNext) (tSeq (tIfS (LT W wt_w2) (LS W (wr_w2 cBP cBT)) tNext)
  (tSeq (sFld K (tVar 0) (LE W we_tp) "spots") (tSeq (sFld K (tVar 0) (rDc K) "near") (tSeq (tFor (ML.iEnumA K (tCons (tVar 2) tNil)) (gTup K 2 (gCons (gName 3) (gCons (gName 4) gNil))) (rBody K W E cBI)) (sFld K (tVar 0) (LE W we_tt) "lines"))))))
theorem pss_web {P : Program} {w : World} {K : PySem.W.Frag} {mg : Str → Option Value} {base : Heap} {f : Addr} {cBP cBT cBI : Addr} (g_all : mg "all" = none) (g_enumerate : mg "enumerate" = none) (g_isinstance : mg "isinstance" = none) (g_len : mg "len" = none) (g_list : mg "list" = none) (g_set : mg "set" = none) (g_tuple : mg "tuple" = none) (c_is_name : DCal P w K mg base "is_name" 1 spIsName) (c_is_pair : DCal P w K mg base "is_pair" 2 spIsPair) (h_MOST_PLACES : ∃ u, mg "MOST_PLACES" = some u ∧ RelV (.int 12) u) (e_BadPlaces : ErrC P w K mg base "BadPlaces" cBP "value") (e_BadTies : ErrC P w K mg base "BadTies" cBT "value") (e_BadTie : ErrC P w K mg base "BadTie" cBI "position")
    (cdv : Value) (A : Around) (outer : List Env) (s : Shared) (H : Hp) (E : XK) (hr : Room 2 (A.deeper (envOfC "Web.__init__" (defScope sWeb_init) s.heap.objs.size f cdv))) (noG : A.guards = some []) :
    PSs (cxOf (L2.CX P w) P w K mg base NW "Web.__init__" (defScope sWeb_init) f cdv A outer s H E) (defBody sWeb_init) (rWeb K (fun cls d x H => E cls d H) (L2.WE fun cls d x H => E cls d H) cBP cBT cBI) := by
  have nd := sc_web.nd
  have hu : (A.deeper (envOfC "Web.__init__" (defScope sWeb_init) s.heap.objs.size f cdv)).units + 1 < cLine := by have := hr.un; omega
  have hu64 : (A.deeper (envOfC "Web.__init__" (defScope sWeb_init) s.heap.objs.size f cdv)).units + 64 < cLine := by have := hr.un; omega
  let X : Cx := cxOf (L2.CX P w) P w K mg base NW "Web.__init__" (defScope sWeb_init) f cdv A outer s H E
  have v0 : ∀ {p}, PE X (.Name "self" p) (tVar 0) := fun {p} => pe_var (X := X) (i := 0) rfl (Or.inl rfl) (by decide) (by decide)
  have v2 : ∀ {p}, PE X (.Name "ties" p) (tVar 2) := fun {p} => pe_var (X := X) (i := 2) rfl (Or.inl rfl) (by decide) (by decide)
  have v4 : ∀ {p}, PE X (.Name "tie" p) (tVar 4) := fun {p} => pe_var (X := X) (i := 4) rfl (Or.inl rfl) (by decide) (by decide)
  have t0 : ∀ {p q r j}, PE X (.Subscript (.Name "tie" p) (.Constant (.int 0) j q) r) (rdT K 0) := fun {p q r j} => pe_ix (X := X) ix_seq v4 pe_int (by intro _ _; rfl)
  have t1 : ∀ {p q r j}, PE X (.Subscript (.Name "tie" p) (.Constant (.int 1) j q) r) (rdT K 1) := fun {p q r j} => pe_ix (X := X) ix_seq v4 pe_int (by intro _ _; rfl)
  have nr : ∀ {p q r j a b c}, PE X (.Subscript (.Attribute (.Name "self" a) "near" b) (.Subscript (.Name "tie" p) (.Constant (.int 0) j q) r) c) (rdN K 0) := fun {p q r j a b c} => pe_dget (X := X) hu (pe_fld v0 rfl) t0 (by intro _ _; rfl)
  have nr1 : ∀ {p q r j a b c}, PE X (.Subscript (.Attribute (.Name "self" a) "near" b) (.Subscript (.Name "tie" p) (.Constant (.int 1) j q) r) c) (rdN K 1) := fun {p q r j a b c} => pe_dget (X := X) hu (pe_fld v0 rfl) t1 (by intro _ _; rfl)
  obtain ⟨fp, fdp, psp, q1, q2, q3, q4⟩ := c_is_pair.ex
  have cIP : ∀ {e e2 p pos ta}, PA X [e, e2] ta → starEach [e, e2] X.env = (false, eval e X.env) :: starEach [e2] X.env → (backTo pos (starEach [e2] X.env)).any (·.1) = false → PE X (.Call (.Name "is_pair" p) [e, e2] [] pos) (tCallSD (toSp spIsPair) [] (L2.WE fun cls d x H => E cls d H) ta) := fun {e e2 p pos ta} ha he hpl =>
    pe_callG (X := X) q4 (hr.mono (by decide)) noG rfl q1 q2 q3 (fun σ => passAt takes0 σ) ha (by decide) he hpl
  exact (pss_cons (ps_if (show DT _ _ _ wt_w0 from (dt_bool (dw_or (dt_not (dt_val (de_isi2 "list" "tuple" g_isinstance (de_var 1) (by decide) (by decide) g_list (by decide +kernel) g_tuple (by decide +kernel)))) (dw_or1 (dt_not (dt_chain op_le ok_le op_le ok_le de_int (de_callB call_lenX ok_len g_len PySem.boot_len (da_cons (de_var 1) da_nil)) (de_gi h_MOST_PLACES))))))).pt (show DSs _ _ _ (wr_w0 cBP cBT) from (ds_one (ds_raise takes0 e_BadPlaces (hr.mono (by decide)) (de_var 1)))).pss pss_nil)
    (pss_cons (ps_if (show DT _ _ _ wt_w1 from (dt_bool (dw_or (dt_not (dt_val (de_callB (cr_all rfl) ok_all g_all (by decide +kernel) (da_cons (de_lc rfl nd (di_any (de_var 1)) (own := [("place", 5)]) (blkOk_by (N := ["self", "places", "ties", "position", "tie", "place"]) (sc := defScope sWeb_init) (by decide +kernel)) (by decide) (fun _ _ _ _ _ => (pg_name (i := 5) nd rfl (by first | exact Or.inl rfl | exact Or.inr rfl))) (gok_name (i := 5)) (fun _ _ _ _ _ => dts_nil) (fun _ _ _ _ _ => (de_pers (de_def [.d] takesW0 c_is_name (hr.mono (by decide)) noG (da_cons (de_pers (de_var 5)) da_nil))))) da_nil)))) (dw_or1 (dt_cmp (op_dne hu64) ok_ne (de_lenS g_len g_set (de_var 1)) (de_callB call_lenX ok_len g_len PySem.boot_len (da_cons (de_var 1) da_nil)) (by rfl)))))).pt (show DSs _ _ _ (wr_w1 cBP cBT) from (ds_one (ds_raise takes0 e_BadPlaces (hr.mono (by decide)) (de_var 1)))).pss pss_nil)
    (pss_cons (ps_if (show DT _ _ _ wt_w2 from (dt_not (dt_val (de_isi2 "list" "tuple" g_isinstance (de_var 2) (by decide) (by decide) g_list (by decide +kernel) g_tuple (by decide +kernel))))).pt (show DSs _ _ _ (wr_w2 cBP cBT) from (ds_one (ds_raise takes0 e_BadTies (hr.mono (by decide)) (de_var 2)))).pss pss_nil)
    (pss_cons (ps_fld v0 (show DE _ _ _ we_tp from (de_callT call_tuple_of ok_tuple g_tuple PyProof.Rows.boot_tuple (da_cons (de_var 1) da_nil))).pe rfl)
    (pss_cons (ps_fld v0 (pe_dc rfl nd (pi_tup (pe_fld v0 rfl)) (own := [("place", 5)]) (blkOk_by (N := ["self", "places", "ties", "position", "tie", "place"]) (sc := defScope sWeb_init) (by decide +kernel)) (fun _ _ _ _ _ => pg_name (i := 5) nd rfl (Or.inl rfl)) (fun _ _ _ _ _ => pts_nil) (fun _ _ _ _ _ => pe_var (i := 5) rfl (Or.inl rfl) (by decide) (by decide))
      (fun _ _ _ _ _ => pe_disp (pps_cons (pe_var (i := 5) rfl (Or.inl rfl) (by decide) (by decide)) pe_bl pps_nil) rfl rfl (by decide) (by decide))) rfl)
    (pss_cons (ps_for owns0 rfl (ML.pi_enumA rfl g_enumerate (pa_cons v2 pa_nil)) (pg_tup rfl (pgs_cons (pg_name (i := 3) nd rfl (Or.inl rfl)) (pgs_cons (pg_name (i := 4) nd rfl (Or.inl rfl)) pgs_nil)))
      (pss_cons (ps_if (PW.pt (pw_or (pt_not (pt_val (cIP (pa_cons v4 (pa_cons (pe_fld v0 rfl) pa_nil)) rfl rfl))) (pw_or1 (pt_cmpR (op_indict hu) t1 nr rfl)))) (show DSs _ _ _ (wr_w3 cBI) from (ds_one (ds_raise takes0 e_BadTie (hr.mono (by decide)) (de_var 3)))).pss pss_nil)
      (pss_cons (ps_dput hu nr t1 pe_bl rfl) (pss_one (ps_dput hu nr1 t0 pe_bl rfl)))))
    (pss_one (ps_fld v0 (show DE _ _ _ we_tt from (de_callT call_tuple_of ok_tuple g_tuple PyProof.Rows.boot_tuple (da_cons (de_var 2) da_nil))).pe rfl))))))))
end DL


/-! WBc: the three tests of Web.__init__. -/
namespace DL
open PySem PySem.Spec PyProof.Rows L2
def stW (x y : D) : S := [.un, .b x, .b y, .un, .un, .un]
theorem itemsD_of {x : D} {xs : List D} (h : x = .lst xs ∨ x = .tup xs) : itemsD x = some xs ∧ lenD x = some xs.length ∧ (tyS x = some "list" ∨ tyS x = some "tuple") ∧ itemsR (.b x) = some xs := by
  rcases h with rfl | rfl
  · exact ⟨rfl, rfl, .inl rfl, rfl⟩
  · exact ⟨rfl, rfl, .inr rfl, rfl⟩
theorem tyIn_lt {a : String} (h : some a = some "list" ∨ some a = some "tuple") : tyIn a ["list", "tuple"] = true := by
  rcases h with h | h <;> cases h <;> decide +kernel
theorem t0_ok {x y : D} {xs : List D} (hx : x = .lst xs ∨ x = .tup xs) {P : Bool → S → Prop} {E : XC} (h : P (decide ¬(1 ≤ xs.length ∧ xs.length ≤ 12)) (stW x y)) : wt_w0 (stW x y) P E := by
  obtain ⟨h1, h2, h3, h4⟩ := itemsD_of hx
  obtain ⟨a, ea⟩ : ∃ a, tyS x = some a := by rcases h3 with h3 | h3 <;> exact ⟨_, h3⟩
  rw [ea] at h3
  have et := tyIn_lt h3
  simp only [wt_w0, stW, wOr, wNot, wTest, wIsi, wVar, varK, cont, opt, List.getElem?_cons_succ, List.getElem?_cons_zero, ea, et, boolK, wChain, wC, wCB, wCons, wNil, conts, on1, oLen, h2, oI0, Bool.not_true, Bool.not_false, Bool.false_eq_true, if_false, if_true]
  by_cases q : 1 ≤ xs.length
  · have q1 : ((1 : Int) ≤ (xs.length : Int)) := by omega
    simp only [q1, decide_true, if_true]
    have e : (!decide ((xs.length : Int) ≤ 12)) = decide ¬(1 ≤ xs.length ∧ xs.length ≤ 12) := by
      by_cases q2 : xs.length ≤ 12
      · have : (xs.length : Int) ≤ 12 := by omega
        simp [this, q, q2]
      · have : ¬ (xs.length : Int) ≤ 12 := by omega
        simp [this, q2]
    rw [e]
    exact h
  · have q1 : ¬ ((1 : Int) ≤ (xs.length : Int)) := by omega
    simp only [q1, decide_false, Bool.false_eq_true, if_false, Bool.not_false]
    have e : (decide ¬(1 ≤ xs.length ∧ xs.length ≤ 12)) = true := by simp [q]
    rw [e] at h
    exact h
theorem t2_ok {x y : D} {ys : List D} (hy : y = .lst ys ∨ y = .tup ys) {P : Bool → S → Prop} {E : XC} (h : P false (stW x y)) : wt_w2 (stW x y) P E := by
  obtain ⟨h1, h2, h3, h4⟩ := itemsD_of hy
  obtain ⟨a, ea⟩ : ∃ a, tyS y = some a := by rcases h3 with h3 | h3 <;> exact ⟨_, h3⟩
  rw [ea] at h3
  have et := tyIn_lt h3
  simp only [wt_w2, stW, wNot, wTest, wIsi, wVar, varK, cont, opt, List.getElem?_cons_succ, List.getElem?_cons_zero, ea, et, boolK, Bool.not_true]
  exact h
theorem sDs_mem {x : D} {ss : List Str} (h : x ∈ sDs ss) : ∃ z, z ∈ ss ∧ x = .str z := by
  obtain ⟨z, h1, h2⟩ := List.mem_map.mp h
  exact ⟨z, h1, h2.symm⟩
/-- whether a text is a name, of data -/
def nmD : D → D
  | .str z => .bl (isNameB z)
  | _ => .non
theorem nmD_map (ss : List Str) : (sDs ss).map nmD = (ss.map isNameB).map D.bl := by
  unfold sDs
  rw [List.map_map, List.map_map]
  rfl
theorem un_fre {st : S} {i : Nat} (h : st[i]? = some .un) : Fre st i := ⟨_, h, fun _ => Slot.noConfusion, fun _ => Slot.noConfusion⟩
theorem t1_ok {x y : D} {ss : List Str} (hx : x = .lst (sDs ss) ∨ x = .tup (sDs ss)) (hl : ss.length ≤ 1000) (lz : ∀ z ∈ ss, z.length ≤ 1000000) {P : Bool → S → Prop} {E : XC}
    (h : P (decide ¬((∀ z ∈ ss, isNameB z = true) ∧ ss.Nodup)) (stW x y)) : wt_w1 (stW x y) P E := by
  obtain ⟨h1, h2, h3, h4⟩ := itemsD_of hx
  have el : (sDs ss).length = ss.length := List.length_map _
  have sz : ss.length < sizeLine := by rw [sizeLine_eq]; omega
  unfold wt_w1 wOr wNot wTest wCB wCons wNil wLc wItA wVar
  show opt (itemsR (.b x)) _
  rw [h4]
  refine lcM1 nmD (un_fre rfl) _ (fun z hz Q q => ?_) (by rw [el]; exact sz) ?_
  · obtain ⟨z, hz2, rfl⟩ := sDs_mem hz
    refine ⟨rfl, z, rfl, lz z hz2, ?_⟩
    exact q
  · rw [nmD_map]
    simp only [conts, cont, opt, on1, oAll, blsD_map, Cell.toD, boolK]
    have eall : (ss.map isNameB).all id = decide (∀ z ∈ ss, isNameB z = true) := by
      rw [Bool.eq_iff_iff]
      simp
    rw [eall]
    by_cases q : ∀ z ∈ ss, isNameB z = true
    · have e1 : (decide ¬((∀ z ∈ ss, isNameB z = true) ∧ ss.Nodup)) = decide ¬ ss.Nodup := by
        rw [decide_eq_decide]
        exact ⟨fun z w => z ⟨q, w⟩, fun z w => z w.2⟩
      rw [e1] at h
      rw [decide_eq_true q, Bool.not_true, if_neg Bool.false_ne_true]
      simp only [wBin, wUn, oLenS, varK, stW, List.getElem?_cons_succ, List.getElem?_cons_zero, cont, opt, h1, sDs, strsD_map, conts, on1, oLen, h2, oNe, boolK, List.length_map]
      refine ⟨hl, ?_⟩
      simp only [deqN]
      have e2 : (!(((ML.metS ss).length : Int) == (ss.length : Int))) = decide ¬ ss.Nodup := by
        by_cases n : ss.Nodup
        · rw [ML.metS_nodup n]
          simp [n]
        · have := ML.metS_twice n
          have e3 : (((ML.metS ss).length : Int) == (ss.length : Int)) = false := by
            rw [beq_eq_false_iff_ne]
            omega
          rw [e3]
          simp [n]
      rw [e2]
      exact h
    · have e1 : (decide ¬((∀ z ∈ ss, isNameB z = true) ∧ ss.Nodup)) = true := decide_eq_true fun z => q z.1
      rw [e1] at h
      rw [decide_eq_false q]
      exact h
end DL


/-! WBd: Web.__init__ walked. -/
namespace DL
open PySem PySem.Spec PyProof.Rows L2
def stWs (x y : D) : S := stW x y
theorem stW_no {x y : D} : ∀ i, ¬ Owns (stW x y) i := fun i h => by
  have q : ∀ s, (stW x y)[i]? = some s → s = .un ∨ (∃ z, s = .b z) := fun s e => by
    have m := List.mem_of_getElem? e
    simp only [stW, List.mem_cons, List.not_mem_nil, or_false] at m
    rcases m with m | m | m | m | m | m
    · exact .inl m
    · exact .inr ⟨_, m⟩
    · exact .inr ⟨_, m⟩
    · exact .inl m
    · exact .inl m
    · exact .inl m
  rcases h with ⟨c, h⟩ | ⟨c, h⟩ <;> rcases q _ h with z | ⟨_, z⟩ <;> cases z
theorem rep_up {L : List Addr} {Hf0 H0 Hf H : Hp} {pa : Nat → Addr} (b : Bs L Hf0 H0 Hf H) {v : V} {x : D} (r : RepB (hsOf H0 []) Hf0 v x) : RepB (Gm.Hs ⟨H, Hf, [], pa⟩) Hf v x := by
  have hs : ∀ {a o}, hsOf H0 [] a = some o → (Gm.Hs ⟨H, Hf, [], pa⟩) a = some o := fun {a o} e => by
    have e : H0 a = some o := e
    exact b.kp _ _ e
  have rd : ∀ {a u}, Rd (hsOf H0 []) a u → Rd (Gm.Hs ⟨H, Hf, [], pa⟩) a u := fun {a u} e => e.imp hs fun ⟨o, e⟩ => ⟨o, hs e⟩
  cases r with
  | of h => exact .of (h.mono b.ex)
  | lst h r => exact .lst (hs h) (r.mono b.ex)
  | fz h => exact .fz (rd h)
  | dk h r => exact .dk (rd h) (r.mono b.ex)
  | dt h r => exact .dt (rd h) (r.mono b.ex)
/-- a step in which the ground grows and what stood still stands -/
structure Stp (Hf H Hf' H' : Hp) : Prop where
  ex : Ex H H'
  exf : Ex Hf Hf'
  non : ∀ b u, H b = some u → Hf b = none → Hf' b = none
theorem Bs.stp {L : List Addr} {Hf0 H0 Hf H Hf' H' : Hp} {pa ad : Nat → Addr} {st : S} {σ : L2.St} (b : Bs L Hf0 H0 Hf H) (s : Sat ⟨H, Hf, [], pa⟩ L Hf' ad st σ H') : Stp Hf H Hf' H' := ⟨(b.sat s).2, s.base, fun c u h n => by
  cases q : Hf' c with
  | none => rfl
  | some o =>
    rcases s.new c o q with z | z
    · rw [show Hf c = some o from z] at n; cases n
    · rw [show H c = none from z] at h; cases h⟩
theorem Bs.stpc {L : List Addr} {Hf0 H0 Hf H Hf' H' : Hp} (b : Bs L Hf0 H0 Hf H) (af : After H Hf [] Hf' H' []) : Stp Hf H Hf' H' := ⟨(b.called af).2, af.ex, fun c u h n => by
  cases q : Hf' c with
  | none => rfl
  | some o =>
    rcases af.new c o q with z | z
    · rw [z] at n; cases n
    · rw [z] at h; cases h⟩
def sW (a : Addr) (v1 v2 : V) : L2.St := [some (.ref a), some v1, some v2, none, none, none]
section
variable {L : List Addr} {Hf0 H0 Hf H : Hp} {pa : Nat → Addr} {v1 v2 : V} {x y : D} {a : Addr}
structure SW (σ : L2.St) (a : Addr) (v1 v2 : V) : Prop where
  len : σ.length = 6
  s0 : σ[0]? = some (some (.ref a))
  s1 : σ[1]? = some (some v1)
  s2 : σ[2]? = some (some v2)
theorem enterW {σ : L2.St} (w : SW σ a v1 v2) (b : Bs L Hf0 H0 Hf H) (r1 : RepB (hsOf H0 []) Hf0 v1 x) (r2 : RepB (hsOf H0 []) Hf0 v2 y) : Sat ⟨H, Hf, [], pa⟩ L Hf pa (stW x y) σ H :=
  b.enter w.len stW_no fun i s e => by
    match i, e with
    | 0, e => cases e; trivial
    | 1, e => cases e; exact ⟨v1, w.s1, rep_up b r1⟩
    | 2, e => cases e; exact ⟨v2, w.s2, rep_up b r2⟩
    | 3, e => cases e; trivial
    | 4, e => cases e; trivial
    | 5, e => cases e; trivial
/-- a test that leaves all as it was -/
theorem testW {W : WX} {wt : WT} {kk : Bool} {R : Bool → Hp → Prop} {σ : L2.St} (w : SW σ a v1 v2) (b : Bs L Hf0 H0 Hf H) (r1 : RepB (hsOf H0 []) Hf0 v1 x) (r2 : RepB (hsOf H0 []) Hf0 v2 y) (hw : ∀ P : Bool → S → Prop, P kk (stW x y) → wt (stW x y) P ex0)
    (k : ∀ Hf' H', Bs L Hf0 H0 Hf' H' → Stp Hf H Hf' H' → R kk H') : LT W wt σ H R :=
  ⟨⟨H, Hf, [], fun _ => 0⟩, L, Hf, fun _ => 0, stW x y, fun k st => k = kk, ex0, enterW w b r1 r2, hw _ rfl, fun k2 st e Hf' H' n s => by
    rw [e]
    exact k _ _ (b.sat s).1 (b.stp s), fun _ _ _ z => z.elim⟩
/-- tuple(..) -/
theorem tupW {W : WX} {we : WE} {xs : List D} {Q : VK} {σ : L2.St} (w : SW σ a v1 v2) (b : Bs L Hf0 H0 Hf H) (r1 : RepB (hsOf H0 []) Hf0 v1 x) (r2 : RepB (hsOf H0 []) Hf0 v2 y) (hw : ∀ P : RV → S → Prop, P (.d (.tup xs)) (stW x y) → we (stW x y) P ex0)
    (k : ∀ v Hf' H', Bs L Hf0 H0 Hf' H' → Stp Hf H Hf' H' → Rep Hf' v (.tup xs) → Q v H') : LE W we σ H Q :=
  ⟨⟨H, Hf, [], fun _ => 0⟩, L, Hf, fun _ => 0, stW x y, fun r st => r = .d (.tup xs), ex0, enterW w b r1 r2, hw _ rfl, fun r st e v Hf' H' n s rr => by
    subst e
    exact k _ _ _ (b.sat s).1 (b.stp s) rr, fun _ _ _ z => z.elim⟩
/-- what is raised -/
theorem raiseW {W : WX} {ws : WS} {De : Ends} {C : Addr} {σ : L2.St} (w : SW σ a v1 v2) (b : Bs L Hf0 H0 Hf H) (r1 : RepB (hsOf H0 []) Hf0 v1 x) (r2 : RepB (hsOf H0 []) Hf0 v2 y) (hw : ∀ N : DN, N.ex C none (stW x y) → ws N (stW x y))
    (k : ∀ d σ' Hf' H', Bs L Hf0 H0 Hf' H' → W (.ref C) d σ' H') : LS W ws De σ H :=
  ⟨⟨H, Hf, [], fun _ => 0⟩, L, Hf, fun _ => 0, stW x y, ⟨fun _ => False, fun _ _ => False, fun _ => False, fun _ => False, fun C' _ _ => C' = C⟩, enterW w b r1 r2, hw _ rfl,
    ⟨fun _ z => z.elim, fun _ _ z => z.elim, fun _ z => z.elim, fun _ z => z.elim, fun C' z st e d Hf' ad' σ' H' s p => by
      rw [show C' = C from e]
      exact k _ _ _ _ (b.sat s).1⟩⟩
end
theorem sW_ok {a : Addr} {v1 v2 : V} : SW (sW a v1 v2) a v1 v2 := ⟨rfl, rfl, rfl, rfl⟩
theorem r0_ok {cBP cBT : Addr} {x y : D} (N : DN) (h : N.ex cBP none (stW x y)) : wr_w0 cBP cBT N (stW x y) := h
theorem r1_ok {cBP cBT : Addr} {x y : D} (N : DN) (h : N.ex cBP none (stW x y)) : wr_w1 cBP cBT N (stW x y) := h
theorem tp_ok {x y : D} {xs : List D} (hx : x = .lst xs ∨ x = .tup xs) (P : RV → S → Prop) (h : P (.d (.tup xs)) (stW x y)) : we_tp (stW x y) P ex0 := by
  obtain ⟨h1, _⟩ := itemsD_of hx
  show opt (itemsD x) _
  rw [h1]
  exact h
theorem tt_ok {x y : D} {xs : List D} (hy : y = .lst xs ∨ y = .tup xs) (P : RV → S → Prop) (h : P (.d (.tup xs)) (stW x y)) : we_tt (stW x y) P ex0 := by
  obtain ⟨h1, _⟩ := itemsD_of hy
  show opt (itemsD y) _
  rw [h1]
  exact h
/-- a tie's position, as it is borne -/
def posP (i : Nat) : Option (Str × D) := some ("position", .int (i : Nat))
/-- a tie's position raised -/
theorem raiseI {L : List Addr} {Hf0 H0 Hf H : Hp} {W : WX} {De : Ends} {cBI : Addr} {i : Nat} {σ : L2.St} (b : Bs L Hf0 H0 Hf H) (hl : σ.length = 6) (hi : σ[3]? = some (some (.int (i : Nat))))
    (k : ∀ d σ' Hf' H', Bs L Hf0 H0 Hf' H' → PayR Hf' H' d (posP i) → W (.ref cBI) d σ' H') : LS W (wr_w3 cBI) De σ H := by
  have no : ∀ j, ¬ Owns ([.un, .un, .un, .d (.int (i : Nat)), .un, .un] : S) j := fun j h => by
    have q : ∀ s, ([.un, .un, .un, .d (.int (i : Nat)), .un, .un] : S)[j]? = some s → s = .un ∨ (∃ z, s = .d z) := fun s e => by
      have m := List.mem_of_getElem? e
      simp only [List.mem_cons, List.not_mem_nil, or_false] at m
      rcases m with m | m | m | m | m | m <;> first | exact .inl m | exact .inr ⟨_, m⟩
    rcases h with ⟨c, h⟩ | ⟨c, h⟩ <;> rcases q _ h with z | ⟨_, z⟩ <;> cases z
  refine ⟨⟨H, Hf, [], fun _ => 0⟩, L, Hf, fun _ => 0, [.un, .un, .un, .d (.int (i : Nat)), .un, .un], ⟨fun _ => False, fun _ _ => False, fun _ => False, fun _ => False, fun C' p _ => C' = cBI ∧ p = posP i⟩, b.enter hl no fun j s e => ?_, ⟨rfl, rfl⟩,
    ⟨fun _ z => z.elim, fun _ _ z => z.elim, fun _ z => z.elim, fun _ z => z.elim, fun C' z st e d Hf' ad' σ' H' s p => ?_⟩⟩
  · match j, e with
    | 0, e => cases e; trivial
    | 1, e => cases e; trivial
    | 2, e => cases e; trivial
    | 3, e => cases e; exact ⟨_, hi, .int _⟩
    | 4, e => cases e; trivial
    | 5, e => cases e; trivial
  · obtain ⟨rfl, rfl⟩ := e
    exact k _ _ _ _ (b.sat s).1 p
end DL


/-! WBe: near, and the walk over the ties. -/
namespace DL
open PySem PySem.Spec PyProof.Rows L2
def inD (ks : List Str) : HO := .dK (ks.map fun k => (.inr k, .bl true))
/-- the dict of dicts -/
structure NI (H0 Hf H : Hp) (a D : Addr) (ss : List Str) (ks : Str → List Str) (ad : Str → Addr) : Prop where
  tab : H D = some (.dK (ss.map fun p => (.inr p, .ref (ad p))))
  inn : ∀ p ∈ ss, H (ad p) = some (inD (ks p))
  fr : ∀ p ∈ ss, H0 (ad p) = none ∧ Hf (ad p) = none
  ne : ∀ p ∈ ss, ad p ≠ a ∧ ad p ≠ D
  inj : ∀ p ∈ ss, ∀ q ∈ ss, ad p = ad q → p = q
theorem NI.step {H0 Hf H Hf' H' : Hp} {a D : Addr} {ss : List Str} {ks : Str → List Str} {ad : Str → Addr} (n : NI H0 Hf H a D ss ks ad) (s : Stp Hf H Hf' H') : NI H0 Hf' H' a D ss ks ad :=
  ⟨s.ex _ _ n.tab, fun p hp => s.ex _ _ (n.inn p hp), fun p hp => ⟨(n.fr p hp).1, s.non _ _ (n.inn p hp) (n.fr p hp).2⟩, n.ne, n.inj⟩
theorem NI.other {H0 Hf H : Hp} {a D : Addr} {ss : List Str} {ks : Str → List Str} {ad : Str → Addr} (n : NI H0 Hf H a D ss ks ad) {p : Addr} {u : HO} (h : H p = none ∨ p = a) (hD : D ≠ a) : NI H0 Hf (upd H p u) a D ss ks ad := by
  have e : ∀ b o, b ≠ a → H b = some o → upd H p u b = some o := fun b o hb hh => by
    rcases h with h | h
    · rw [upd_ne (ne_of_none hh h)]; exact hh
    · rw [upd_ne (by rw [h]; exact hb)]; exact hh
  exact ⟨e _ _ hD n.tab, fun q hq => e _ _ (n.ne q hq).1 (n.inn q hq), n.fr, n.ne, n.inj⟩
/-- near[x][y] = True -/
theorem NI.put {H0 Hf H : Hp} {a D : Addr} {ss : List Str} {ks : Str → List Str} {ad : Str → Addr} (n : NI H0 Hf H a D ss ks ad) {x y : Str} (hx : x ∈ ss) : NI H0 Hf (upd H (ad x) (inD (ks x ++ [y]))) a D ss (fun p => if p = x then ks x ++ [y] else ks p) ad := by
  refine ⟨by rw [upd_ne (Ne.symm (n.ne x hx).2)]; exact n.tab, fun p hp => ?_, n.fr, n.ne, n.inj⟩
  by_cases e : p = x
  · subst e
    rw [upd_same, if_pos rfl]
  · rw [upd_ne fun z => e (n.inj p hp x hx z), if_neg e]
    exact n.inn p hp
section
variable {K : PySem.W.Frag} {CW dx a D : Addr} {L : List Addr} {Hf0 H0 Hf H : Hp} {v1 v2 vS : V} {ss : List Str}
theorem spots_at (b : Bs L Hf0 H0 Hf H) (r : Rep Hf vS (.tup (sDs ss))) : ∃ t, vS = .ref t ∧ H t = some (.tup (ss.map V.str)) := by
  cases r with
  | @tup t vs _ h r =>
    rw [r.strs] at h
    exact ⟨t, rfl, exl_at b.exf h (by rintro (⟨_, q⟩ | ⟨_, q⟩) <;> cases q)⟩
theorem near_dc {σ : L2.St} {Q : VK} (w : SW σ a v1 v2) (b : Bs L Hf0 H0 Hf H) (cls : L2.Cls K CW) (nS : NoAttr K CW "spots") (hA : H a = some (.ins CW dx [("spots", vS)])) (r : Rep Hf vS (.tup (sDs ss))) (nd : ss.Nodup) (hl : ss.length ≤ 12)
    (k : ∀ (D : Addr) (H' : Hp) (ad : Str → Addr), Bs L Hf0 H0 Hf H' → H' a = some (.ins CW dx [("spots", vS)]) → H0 D = none → Hf D = none → D ≠ a → NI H0 Hf H' a D ss (fun p => [p]) ad → Q (.ref D) H') : rDc K σ H Q := by
  obtain ⟨t, rfl, ht⟩ := spots_at b r
  refine ⟨.ref a, w.s0, a, CW, dx, _, .ref t, rfl, hA, cls, nS, rfl, t, rfl, ⟨_, sqT_of ht⟩, fun D hD => ?_⟩
  have hDa : D ≠ a := fun e => by rw [e, hA] at hD; cases hD
  have lw : (L2.wipe σ [5]).length = 6 := by rw [wipe_length]; exact w.len
  refine dc_tup (xs := ss.map V.str) (fun i H' => ∃ ad : Str → Addr, Bs L Hf0 H0 Hf H' ∧ Ex H H' ∧ NI H0 Hf H' a D (ss.take i) (fun p => [p]) ad) ?_ (fun i H' _ ⟨ad, _, e, _⟩ => sqT_of (e _ _ ht)) (fun i x H' hx ⟨ad, b', e', n⟩ => ?_) fun H' ⟨ad, b', e', n⟩ => ?_
  · refine ⟨fun _ => 0, b.upd (b.nof hD).2 (b.nof hD).1, fun c o h => by rw [upd_ne (ne_of_none h hD)]; exact h, ?_, ?_, ?_, ?_, ?_⟩
    · rw [upd_same]; rfl
    · intro p hp; rw [List.take_zero] at hp; cases hp
    · intro p hp; rw [List.take_zero] at hp; cases hp
    · intro p hp; rw [List.take_zero] at hp; cases hp
    · intro p hp; rw [List.take_zero] at hp; cases hp
  · rw [List.getElem?_map] at hx
    obtain ⟨p, hp, rfl⟩ := Option.map_eq_some_iff.mp hx
    have hpn : p ∉ ss.take i := fun hm => by
      obtain ⟨j, hj⟩ := List.mem_iff_getElem?.mp hm
      rw [List.getElem?_take] at hj
      split at hj
      · rename_i hlt
        have h1 := (List.getElem?_eq_some_iff.mp hp)
        have h2 := (List.getElem?_eq_some_iff.mp hj)
        obtain ⟨l1, h1⟩ := h1
        obtain ⟨l2, h2⟩ := h2
        exact List.pairwise_iff_getElem.mp nd j i l2 l1 hlt (h2.trans h1.symm)
      · cases hj
    have htk : ss.take (i + 1) = ss.take i ++ [p] := by
      rw [List.take_add_one, hp]
      rfl
    show _ ∧ _
    have e5 : ((L2.wipe σ [5]).set 5 (some (.str p)))[5]? = some (some (.str p)) := by rw [List.getElem?_set_self (by omega)]
    refine ⟨by show ((((σ.set 5 none).set 5 (some (.str p))).set 5 none) : L2.St) = σ.set 5 none; rw [List.set_set, List.set_set], ?_⟩
    simp only [tYes, if_true]
    refine ⟨_, e5, fun q hq => ⟨_, e5, upd_same, [(.inr p, .bl true)], rfl, by simp, ?_⟩⟩
    have hqD : q ≠ D := fun e => by rw [e, n.tab] at hq; cases hq
    have hqa : q ≠ a := fun e => by rw [e, e' _ _ hA] at hq; cases hq
    have hH5 : upd (upd H' q (.dK [])) q (.dK (mergeK [] [(.inr p, .bl true)])) = upd H' q (inD [p]) := by
      funext c
      by_cases e : c = q
      · rw [e, upd_same, upd_same]; rfl
      · rw [upd_ne e, upd_ne e, upd_ne e]
    rw [hH5]
    refine ⟨_, .inr p, rfl, by rw [upd_ne (Ne.symm hqD)]; exact n.tab, ?_, ?_⟩
    · rw [List.length_map, sizeLine_eq]
      have h1 : (ss.take i).length ≤ ss.length := by rw [List.length_take]; exact Nat.min_le_right _ _
      exact Nat.lt_of_le_of_lt (Nat.le_trans h1 hl) (by decide)
    rw [putK_new hpn]
    have b2 : Bs L Hf0 H0 Hf (upd H' q (inD [p])) := b'.upd (b'.nof hq).2 (b'.nof hq).1
    have fq := b'.nof hq
    have fD := b.nof hD
    have nq : ∀ c ∈ ss.take i, ad c ≠ q := fun c hc e => by
      have := n.inn c hc
      rw [e, hq] at this
      cases this
    have np : ∀ c ∈ ss.take i, c ≠ p := fun c hc e => hpn (e ▸ hc)
    refine ⟨fun c => if c = p then q else ad c, b2.upd fD.2 fD.1, fun c o h => ?_, ?_⟩
    · rw [upd_ne (ne_of_none h hD), upd_ne (ne_of_none (e' _ _ h) hq)]
      exact e' _ _ h
    · rw [htk]
      have at_p : (if p = p then q else ad p) = q := if_pos rfl
      have at_c : ∀ c ∈ ss.take i, (if c = p then q else ad c) = ad c := fun c hc => if_neg (np c hc)
      refine ⟨?_, fun c hc => ?_, fun c hc => ?_, fun c hc => ?_, fun c hc c' hc' e => ?_⟩
      · rw [upd_same, List.map_append]
        have e1 : (ss.take i).map (fun c => ((.inr c : Key), V.ref (ad c))) = (ss.take i).map (fun c => ((.inr c : Key), V.ref (if c = p then q else ad c))) := List.map_congr_left fun c hc => by rw [at_c c hc]
        rw [e1, List.map_singleton, at_p]
      · rcases List.mem_append.mp hc with hc | hc
        · rw [at_c c hc, upd_ne (n.ne c hc).2, upd_ne (nq c hc)]
          exact n.inn c hc
        · rw [List.mem_singleton.mp hc]
          rw [at_p, upd_ne hqD, upd_same]
      · rcases List.mem_append.mp hc with hc | hc
        · rw [at_c c hc]
          exact n.fr c hc
        · rw [List.mem_singleton.mp hc]
          rw [at_p]
          exact ⟨fq.2, fq.1⟩
      · rcases List.mem_append.mp hc with hc | hc
        · rw [at_c c hc]
          exact n.ne c hc
        · rw [List.mem_singleton.mp hc]
          rw [at_p]
          exact ⟨hqa, hqD⟩
      · skip
        rcases List.mem_append.mp hc with hc | hc
        · rcases List.mem_append.mp hc' with hc' | hc'
          · rw [at_c c hc, at_c c' hc'] at e
            exact n.inj c hc c' hc' e
          · rw [List.mem_singleton.mp hc', at_p, at_c c hc] at e
            exact (nq c hc e).elim
        · rw [List.mem_singleton.mp hc, at_p] at e
          rcases List.mem_append.mp hc' with hc' | hc'
          · rw [at_c c' hc'] at e
            exact (nq c' hc' e.symm).elim
          · rw [List.mem_singleton.mp hc, List.mem_singleton.mp hc']
  · rw [List.length_map, List.take_length] at n
    exact k D H' ad b' (e' _ _ hA) (b.nof hD).2 (b.nof hD).1 hDa n
end
end DL


/-! WBf: the walk over the ties. -/
namespace DL
open PySem PySem.Spec PyProof.Rows L2
/-- a list or tuple walked in pairs with their places -/
structure Enm (J : It) (L : List Addr) (Hf0 H0 : Hp) (vs : List V) : Prop where
  go : ∀ i Hf H, Bs L Hf0 H0 Hf H → i < vs.length → J.go i H
  stop : ∀ i Hf H, Bs L Hf0 H0 Hf H → vs.length ≤ i → J.stop i H
  yld : ∀ i Hf H u H', Bs L Hf0 H0 Hf H → J.yld i H u H' → ∃ T x, u = .ref T ∧ H T = none ∧ vs[i]? = some x ∧ H' = upd H T (.tup [.int (i : Nat), x])
theorem read2 {L : List Addr} {Hf0 H0 : Hp} {v : V} {y : D} {ys : List D} (r : RepB (hsOf H0 []) Hf0 v y) (hy : y = .lst ys ∨ y = .tup ys) :
    ∃ (av : Addr) (vs : List V), v = .ref av ∧ Reps Hf0 vs ys ∧ ((∀ Hf H, Bs L Hf0 H0 Hf H → H av = some (.lst vs)) ∨ (∀ Hf H, Bs L Hf0 H0 Hf H → H av = some (.tup vs))) := by
  have nd1 : ∀ vs : List V, ¬ IsDict (.lst vs) := fun vs => by rintro (⟨_, q⟩ | ⟨_, q⟩) <;> cases q
  have nd2 : ∀ vs : List V, ¬ IsDict (.tup vs) := fun vs => by rintro (⟨_, q⟩ | ⟨_, q⟩) <;> cases q
  cases r with
  | of r =>
    cases r with
    | @lst av vs xs h hr =>
      have e : xs = ys := by rcases hy with hy | hy <;> cases hy; rfl
      subst e
      exact ⟨av, vs, rfl, hr, .inl fun Hf H b => exl_at b.exf (b.ex _ _ h) (nd1 _)⟩
    | @tup av vs xs h hr =>
      have e : xs = ys := by rcases hy with hy | hy <;> cases hy; rfl
      subst e
      exact ⟨av, vs, rfl, hr, .inr fun Hf H b => exl_at b.exf (b.ex _ _ h) (nd2 _)⟩
    | _ => rcases hy with hy | hy <;> cases hy
  | @lst av vs xs h hr =>
    have e : xs = ys := by rcases hy with hy | hy <;> cases hy; rfl
    subst e
    have h : H0 av = some (.lst vs) := h
    exact ⟨av, vs, rfl, hr, .inl fun Hf H b => b.kp _ _ h⟩
  | _ => rcases hy with hy | hy <;> cases hy
theorem enm_l {K : PySem.W.Frag} {L : List Addr} {Hf0 H0 : Hp} {vs : List V} {av : Addr} (h : ∀ Hf H, Bs L Hf0 H0 Hf H → H av = some (.lst vs)) : Enm (Ite K av) L Hf0 H0 vs :=
  ⟨fun i Hf H b hi => ⟨vs, vs[i], sqL_of (h _ _ b), List.getElem?_eq_getElem hi⟩, fun i Hf H b hi => ⟨vs, sqL_of (h _ _ b), hi⟩, fun i Hf H u H' b hy => by
    obtain ⟨T, x, rfl, hT, rfl, q⟩ := hy
    exact ⟨T, x, rfl, hT, q _ (sqL_of (h _ _ b)), rfl⟩⟩
theorem enm_t {K : PySem.W.Frag} {L : List Addr} {Hf0 H0 : Hp} {vs : List V} {av : Addr} (h : ∀ Hf H, Bs L Hf0 H0 Hf H → H av = some (.tup vs)) : Enm (ML.IteT K av) L Hf0 H0 vs :=
  ⟨fun i Hf H b hi => ⟨vs, vs[i], sqT_of (h _ _ b), List.getElem?_eq_getElem hi⟩, fun i Hf H b hi => ⟨vs, sqT_of (h _ _ b), hi⟩, fun i Hf H u H' b hy => by
    obtain ⟨T, x, rfl, hT, rfl, q⟩ := hy
    exact ⟨T, x, rfl, hT, q _ (sqT_of (h _ _ b)), rfl⟩⟩
section
variable {K : PySem.W.Frag} {CW dx a D : Addr} {L : List Addr} {Hf0 H0 Hf H : Hp} {v1 v2 vS : V} {ss : List Str} {σ : L2.St}
/-- tie[0], tie[1] -/
theorem rdT0 {T : Addr} {x y : Str} {Q : VK} (e : σ[4]? = some (some (.ref T))) (h : H T = some (.tup [.str x, .str y])) (q : Q (.str x) H) : rdT K 0 σ H Q := ⟨_, e, .inr (.inl ⟨T, _, 0, .str x, rfl, rfl, sqT_of h, rfl, q⟩)⟩
theorem rdT1 {T : Addr} {x y : Str} {Q : VK} (e : σ[4]? = some (some (.ref T))) (h : H T = some (.tup [.str x, .str y])) (q : Q (.str y) H) : rdT K 1 σ H Q := ⟨_, e, .inr (.inl ⟨T, _, 1, .str y, rfl, rfl, sqT_of h, rfl, q⟩)⟩
/-- what stands in the loop -/
structure LI2 (K : PySem.W.Frag) (CW dx a D : Addr) (L : List Addr) (Hf0 H0 Hf H : Hp) (vS : V) (ss : List Str) (ks : Str → List Str) (ad : Str → Addr) : Prop where
  b : Bs L Hf0 H0 Hf H
  hA : H a = some (.ins CW dx [("spots", vS), ("near", .ref D)])
  rS : Rep Hf vS (.tup (sDs ss))
  n : NI H0 Hf H a D ss ks ad
theorem rdN0 {T : Addr} {x y : Str} {Q : VK} {ks : Str → List Str} {ad : Str → Addr} (cls : L2.Cls K CW) (nN : NoAttr K CW "near") (e0 : σ[0]? = some (some (.ref a))) (e : σ[4]? = some (some (.ref T))) (l : LI2 K CW dx a D L Hf0 H0 Hf H vS ss ks ad) (h : H T = some (.tup [.str x, .str y]))
    (hx : x ∈ ss) (q : Q (.ref (ad x)) H) : rdN K 0 σ H Q :=
  ⟨.ref a, e0, a, CW, dx, _, .ref D, rfl, l.hA, cls, nN, rfl, rdT0 e h ⟨D, .ref (ad x), rfl, .inl ⟨_, .inr x, .inl l.n.tab, rfl, (valV_map (f := fun p => V.ref (ad p)) hx).symm⟩, q⟩⟩
theorem rdN1 {T : Addr} {x y : Str} {Q : VK} {ks : Str → List Str} {ad : Str → Addr} (cls : L2.Cls K CW) (nN : NoAttr K CW "near") (e0 : σ[0]? = some (some (.ref a))) (e : σ[4]? = some (some (.ref T))) (l : LI2 K CW dx a D L Hf0 H0 Hf H vS ss ks ad) (h : H T = some (.tup [.str x, .str y]))
    (hx : y ∈ ss) (q : Q (.ref (ad y)) H) : rdN K 1 σ H Q :=
  ⟨.ref a, e0, a, CW, dx, _, .ref D, rfl, l.hA, cls, nN, rfl, rdT1 e h ⟨D, .ref (ad y), rfl, .inl ⟨_, .inr y, .inl l.n.tab, rfl, (valV_map (f := fun p => V.ref (ad p)) hx).symm⟩, q⟩⟩
theorem dget_in {d : Addr} {ks : List Str} {y : Str} (h : H d = some (inD ks)) : ∃ o, DGet H d (.str y) o ∧ o.isSome = decide (y ∈ ks) := by
  by_cases m : y ∈ ks
  · exact ⟨some (.bl true), .inl ⟨_, .inr y, .inl h, rfl, (valV_map (f := fun _ => V.bl true) m).symm⟩, by rw [decide_eq_true m]; rfl⟩
  · exact ⟨none, .inl ⟨_, .inr y, .inl h, rfl, (valV_mapn (f := fun _ => V.bl true) m).symm⟩, by rw [decide_eq_false m]; rfl⟩
theorem dput_in {d : Addr} {ks : List Str} {y : Str} (h : H d = some (inD ks)) (n : y ∉ ks) (hz : ks.length < sizeLine) : DPut H d (.str y) (.bl true) (upd H d (inD (ks ++ [y]))) :=
  .inl ⟨_, .inr y, h, rfl, by rw [List.length_map]; exact hz, by
    rw [putK_new (f := fun _ => V.bl true) n]
    unfold inD
    rw [List.map_append]
    rfl⟩
/-- the test -/
theorem test_tie {E : L2.St → XK} {Q : Bool → Hp → Prop} {vt : V} {t : Str × Str} {ts : List (Str × Str)} {ad : Str → Addr} (cls : L2.Cls K CW) (nN : NoAttr K CW "near") (nS : NoAttr K CW "spots") (e0 : σ[0]? = some (some (.ref a))) (e4 : σ[4]? = some (some vt)) (rt : Rep Hf vt (pairD t))
    (l : LI2 K CW dx a D L Hf0 H0 Hf H vS ss (nbs ts) ad) (k : ∀ Hf' H', LI2 K CW dx a D L Hf0 H0 Hf' H' vS ss (nbs ts) ad → Stp Hf H Hf' H' → Q (decide ¬ okTie ss ts t) H') : rTest K E σ H Q := by
  refine ⟨vt, e4, .ref a, e0, a, CW, dx, _, vS, rfl, l.hA, cls, nS, rfl, ?_⟩
  refine ⟨Hf, L, [], [.d (pairD t), .d (.tup (sDs ss))], fun rv cs => rv = .d (.bl (decide (okPair ss t))) ∧ cs = [], fun _ _ _ => False, l.b.exf, l.b.lkH, List.nodup_nil, fun c hc => (nomatch hc), .d rt (.d l.rS .nil), ⟨t, ss, rfl, rfl, rfl⟩, fun rv cs h v Hf' H' af rr => ?_, fun _ _ _ z => z.elim⟩
  obtain ⟨rfl, rfl⟩ := h
  have rr : Rep Hf' v (.bl (decide (okPair ss t))) := rr
  rw [rep_bl rr]
  refine ⟨_, rfl, ?_⟩
  have st := l.b.stpc af
  have l' : LI2 K CW dx a D L Hf0 H0 Hf' H' vS ss (nbs ts) ad := ⟨(l.b.called af).1, st.ex _ _ l.hA, l.rS.mono st.exf, l.n.step st⟩
  by_cases p : okPair ss t
  · rw [decide_eq_true p]
    dsimp only
    rw [Bool.not_true, if_neg Bool.false_ne_true]
    obtain ⟨x, y⟩ := t
    have ht : ∃ T, vt = .ref T ∧ H' T = some (.tup [.str x, .str y]) := by
      cases rt with
      | @tup T vs _ h r =>
        cases r with
        | cons h1 r => cases r with
          | cons h2 r =>
            cases r
            cases h1
            cases h2
            exact ⟨T, rfl, exl_at l'.b.exf (st.exf _ _ h) (by rintro (⟨_, q⟩ | ⟨_, q⟩) <;> cases q)⟩
    obtain ⟨T, rfl, hT⟩ := ht
    obtain ⟨o, d1, d2⟩ := dget_in (y := y) (l'.n.inn x p.1)
    refine rdT1 e4 hT (rdN0 cls nN e0 e4 l' hT p.1 ⟨ad x, o, rfl, d1, _, rfl, ?_⟩)
    rw [d2]
    have e : decide (y ∈ nbs ts x) = decide ¬ okTie ss ts (x, y) := by
      rw [decide_eq_decide, nbs_mem]
      constructor
      · rintro (h | h | h) z
        · exact p.2.2 h.symm
        · exact z.2.1 h
        · exact z.2.2 h
      · intro z
        by_cases q1 : (x, y) ∈ ts
        · exact .inr (.inl q1)
        by_cases q2 : (y, x) ∈ ts
        · exact .inr (.inr q2)
        exact (z ⟨p, q1, q2⟩).elim
    rw [e]
    exact k _ _ l' st
  · have e : (decide ¬ okTie ss ts t) = true := decide_eq_true fun z => p z.1
    have q := k _ _ l' st
    rw [e] at q
    rw [decide_eq_false p]
    exact q
end
end DL


/-! WBg: Web.__init__ from end to end. -/
namespace DL
open PySem PySem.Spec PyProof.Rows L2
section
variable {K : PySem.W.Frag} {CW dx a D cBP cBT cBI : Addr} {L : List Addr} {Hf0 H0 Hf H : Hp} {v1 v2 vS : V} {ss : List Str} {σ : L2.St}
theorem tie_at {b : Bs L Hf0 H0 Hf H} {vt : V} {x y : Str} (rt : Rep Hf vt (pairD (x, y))) : ∃ T, vt = .ref T ∧ H T = some (.tup [.str x, .str y]) := by
  cases rt with
  | @tup T vs _ h r =>
    cases r with
    | cons h1 r => cases r with
      | cons h2 r =>
        cases r
        cases h1
        cases h2
        exact ⟨T, rfl, exl_at b.exf h (by rintro (⟨_, q⟩ | ⟨_, q⟩) <;> cases q)⟩
/-- the two stores -/
theorem put_tie {De : Ends} {T : Addr} {x y : Str} {ts : List (Str × Str)} {ad : Str → Addr} (cls : L2.Cls K CW) (nN : NoAttr K CW "near") (e0 : σ[0]? = some (some (.ref a))) (e4 : σ[4]? = some (some (.ref T))) (l : LI2 K CW dx a D L Hf0 H0 Hf H vS ss (nbs ts) ad)
    (hT : H T = some (.tup [.str x, .str y])) (ok : okTie ss ts (x, y)) (hz : ts.length ≤ 100000)
    (k : ∀ H', LI2 K CW dx a D L Hf0 H0 Hf H' vS ss (nbs (ts ++ [(x, y)])) ad → De.nx σ H') : tSeq (sDPut (rdN K 0) (rdT K 1) (tC (.bl true))) (sDPut (rdN K 1) (rdT K 0) (tC (.bl true))) De σ H := by
  obtain ⟨⟨hx, hy, hxy⟩, n1, n2⟩ := ok
  have hx : x ∈ ss := hx
  have hy : y ∈ ss := hy
  have hxy : x ≠ y := hxy
  have ny : y ∉ nbs ts x := fun m => by
    rcases nbs_mem.mp m with h | h | h
    · exact hxy h.symm
    · exact n1 h
    · exact n2 h
  have nx : x ∉ nbs ts y := fun m => by
    rcases nbs_mem.mp m with h | h | h
    · exact hxy h
    · exact n2 h
    · exact n1 h
  have sz : ∀ p, (nbs ts p).length < sizeLine := fun p => by
    have := nbs_len (ts := ts) (x := p)
    exact Nat.lt_of_le_of_lt (Nat.le_trans this (Nat.succ_le_succ hz)) (by decide)
  have l1 : LI2 K CW dx a D L Hf0 H0 Hf (upd H (ad x) (inD (nbs ts x ++ [y]))) vS ss (fun p => if p = x then nbs ts x ++ [y] else nbs ts p) ad :=
    ⟨l.b.upd (l.n.fr x hx).1 (l.n.fr x hx).2, by rw [upd_ne (Ne.symm (l.n.ne x hx).1)]; exact l.hA, l.rS, l.n.put hx⟩
  have hT1 : upd H (ad x) (inD (nbs ts x ++ [y])) T = some (.tup [.str x, .str y]) := by
    rw [upd_ne]
    · exact hT
    · intro e
      rw [e, l.n.inn x hx] at hT
      cases hT
  have iy : upd H (ad x) (inD (nbs ts x ++ [y])) (ad y) = some (inD (nbs ts y)) := by
    have := l1.n.inn y hy
    rwa [if_neg (Ne.symm hxy)] at this
  show rdN K 0 σ H _
  refine rdN0 cls nN e0 e4 l hT hx (rdT1 e4 hT ⟨ad x, _, rfl, dput_in (l.n.inn x hx) ny (sz x), ?_⟩)
  show rdN K 1 σ _ _
  refine rdN1 cls nN e0 e4 l1 hT1 hy (rdT0 e4 hT1 ⟨ad y, _, rfl, dput_in iy nx (sz y), k _ ?_⟩)
  have n3 := l1.n.put (y := x) hy
  rw [if_neg (Ne.symm hxy)] at n3
  have ek : (fun p => if p = y then nbs ts y ++ [x] else if p = x then nbs ts x ++ [y] else nbs ts p) = nbs (ts ++ [(x, y)]) := by
    funext p
    by_cases e : p = y
    · rw [if_pos e, e, nbs_snd hxy]
    · rw [if_neg e]
      by_cases e2 : p = x
      · rw [if_pos e2, e2, nbs_fst]
      · rw [if_neg e2, nbs_other (Ne.symm e2) (Ne.symm e)]
  rw [ek] at n3
  exact ⟨l1.b.upd (l1.n.fr y hy).1 (l1.n.fr y hy).2, by rw [upd_ne (Ne.symm (l1.n.ne y hy).1)]; exact l1.hA, l1.rS, n3⟩
theorem loop_ties {J : It} {vs : List V} {ts : List (Str × Str)} {De : Ends} {W : WX} {E : L2.St → XK} {ad : Str → Addr} (en : Enm J L Hf0 H0 vs) (hv : Reps Hf0 vs (tDs ts)) (cls : L2.Cls K CW) (nN : NoAttr K CW "near") (nS : NoAttr K CW "spots") (w : SW σ a v1 v2)
    (l : LI2 K CW dx a D L Hf0 H0 Hf H vS ss (nbs []) ad) (h0 : H0 a = none) (hDa : D ≠ a) (ha : Hf a = none) (hz : ts.length ≤ 100000)
    (bad : ¬ okT ss ts → ∀ (i : Nat) d σ' Hf' H', Bs L Hf0 H0 Hf' H' → PayR Hf' H' d (posP i) → W (.ref cBI) d σ' H')
    (good : okT ss ts → ∀ σ' Hf' H' ad, SW σ' a v1 v2 → LI2 K CW dx a D L Hf0 H0 Hf' H' vS ss (nbs ts) ad → Hf' a = none → De.nx σ' H') :
    ∃ Wv : Nat → Nat → L2.St → Hp → Prop, (∃ m, Wv 0 m σ H) ∧ ∀ i m σ H, Wv i m σ H → (J.stop i H ∧ De.nx σ H) ∨ (J.go i H ∧ ∃ N : L2.St → Hp → Prop, (∀ σ' H', N σ' H' → ∃ m', m' < m ∧ Wv (i + 1) m' σ' H') ∧
      ∀ x H', J.yld i H x H' → gTup K 2 (gCons (gName 3) (gCons (gName 4) gNil)) x σ H' fun σ2 H2 => rBody K W E cBI { De with nx := N, ct := N, bk := De.nx } σ2 H2) := by
  have hlen : vs.length = ts.length := by rw [hv.length]; exact List.length_map _
  refine ⟨fun i m σ H => m = ts.length - i ∧ i ≤ ts.length ∧ ∃ Hf ad, SW σ a v1 v2 ∧ LI2 K CW dx a D L Hf0 H0 Hf H vS ss (nbs (ts.take i)) ad ∧ Hf a = none ∧ (okT ss ts ↔ okTs ss (ts.take i) (ts.drop i)), ⟨ts.length, by simp, Nat.zero_le _, Hf, ad, w, l, ha, Iff.rfl⟩, ?_⟩
  rintro i m σ H ⟨rfl, hi, Hf, ad, w, l, ha, ok⟩
  by_cases hlt : i < ts.length
  · refine .inr ⟨en.go i Hf H l.b (by omega), fun σ' H' => ∃ Hf ad, SW σ' a v1 v2 ∧ LI2 K CW dx a D L Hf0 H0 Hf H' vS ss (nbs (ts.take (i + 1))) ad ∧ Hf a = none ∧ (okT ss ts ↔ okTs ss (ts.take (i + 1)) (ts.drop (i + 1))), fun σ' H' q => ⟨ts.length - (i + 1), by omega, rfl, hlt, q⟩, fun u H' hy => ?_⟩
    obtain ⟨T, x, rfl, hT, hx, rfl⟩ := en.yld i Hf H u H' l.b hy
    obtain ⟨d, hd, rx⟩ := hv.getV hx
    have hdt : d = pairD ts[i] := by
      have : (tDs ts)[i]? = some (pairD ts[i]) := by
        unfold tDs
        rw [List.getElem?_map, List.getElem?_eq_getElem hlt]
        rfl
      rw [this] at hd
      exact (Option.some.inj hd).symm
    subst hdt
    generalize et : ts[i] = t at rx
    have nT : ∀ {c o}, H c = some o → c ≠ T := fun h => ne_of_none h hT
    have l1 : LI2 K CW dx a D L Hf0 H0 Hf (upd H T (.tup [.int (i : Nat), x])) vS ss (nbs (ts.take i)) ad :=
      ⟨l.b.upd (l.b.nof hT).2 (l.b.nof hT).1, by rw [upd_ne (nT l.hA)]; exact l.hA, l.rS, l.n.other (.inl hT) hDa⟩
    refine ⟨T, _, rfl, sqT_of upd_same, rfl, _, _, rfl, _, _, rfl, rfl, ?_⟩
    have w2 : SW ((σ.set 3 (some (.int (i : Nat)))).set 4 (some x)) a v1 v2 := by
      refine ⟨by rw [List.length_set, List.length_set]; exact w.len, ?_, ?_, ?_⟩
      · rw [List.getElem?_set_ne (by decide), List.getElem?_set_ne (by decide)]; exact w.s0
      · rw [List.getElem?_set_ne (by decide), List.getElem?_set_ne (by decide)]; exact w.s1
      · rw [List.getElem?_set_ne (by decide), List.getElem?_set_ne (by decide)]; exact w.s2
    have l3 : σ.length = 6 := w.len
    have e3 : ((σ.set 3 (some (.int (i : Nat)))).set 4 (some x))[3]? = some (some (.int (i : Nat))) := by
      rw [List.getElem?_set_ne (by decide), List.getElem?_set_self (by omega)]
    have e4 : ((σ.set 3 (some (.int (i : Nat)))).set 4 (some x))[4]? = some (some x) := by
      rw [List.getElem?_set_self (by rw [List.length_set]; omega)]
    have htk : ts.take (i + 1) = ts.take i ++ [t] := by
      rw [List.take_add_one, List.getElem?_eq_getElem hlt, et]
      rfl
    have hdr : ts.drop i = t :: ts.drop (i + 1) := by rw [List.drop_eq_getElem_cons hlt, et]
    have ok2 : okT ss ts ↔ okTie ss (ts.take i) t ∧ okTs ss (ts.take (i + 1)) (ts.drop (i + 1)) := by
      rw [ok, hdr, htk]
      rfl
    show rTest K E _ _ _
    refine test_tie cls nN nS w2.s0 e4 (rx.mono l1.b.ex) l1 fun Hf' H' l' st => ?_
    dsimp only
    by_cases p : okTie ss (ts.take i) t
    · rw [if_neg (by simp [p])]
      have rx' : Rep Hf' x (pairD t) := (rx.mono l1.b.ex).mono st.exf
      obtain ⟨px, py⟩ := t
      obtain ⟨T2, rfl, hT2⟩ := tie_at (b := l'.b) rx'
      show tSeq (sDPut (rdN K 0) (rdT K 1) (tC (.bl true))) (sDPut (rdN K 1) (rdT K 0) (tC (.bl true))) _ _ _
      refine put_tie cls nN w2.s0 e4 l' hT2 p ?_ fun H4 l4 => ?_
      · rw [List.length_take]
        omega
      · refine ⟨Hf', ad, w2, ?_, st.non _ _ l1.hA ha, ?_⟩
        · rw [htk]
          exact l4
        · rw [ok2]
          exact ⟨fun z => z.2, fun z => ⟨p, z⟩⟩
    · rw [if_pos (by simp [p])]
      exact raiseI l'.b w2.len e3 fun d σ' Hf2 H2 b2 py => bad (fun z => p (ok2.mp z).1) i d σ' Hf2 H2 b2 py
  · have e : i = ts.length := by omega
    subst e
    rw [List.take_length] at l ok
    rw [List.drop_length] at ok
    exact .inl ⟨en.stop _ Hf H l.b (by omega), good (ok.mpr trivial) σ Hf H ad w l ha⟩
end
end DL


/-! WBh: Web(..). -/
namespace DL
open PySem PySem.Spec PyProof.Rows L2 K56
section
variable {K : PySem.W.Frag} {CW dx a cBP cBT cBI : Addr} {L : List Addr} {Hf0 H0 Hf H : Hp} {v1 v2 vS : V} {ss : List Str} {ts : List (Str × Str)}
theorem okP_iff {ss : List Str} : okP ss ↔ (1 ≤ (sDs ss).length ∧ (sDs ss).length ≤ 12) ∧ ((∀ z ∈ ss, isNameB z = true) ∧ ss.Nodup) := by
  have e : (sDs ss).length = ss.length := List.length_map _
  rw [e]
  exact ⟨fun ⟨h1, h2, h3, h4⟩ => ⟨⟨h1, h2⟩, h3, h4⟩, fun ⟨⟨h1, h2⟩, h3, h4⟩ => ⟨h1, h2, h3, h4⟩⟩
theorem repF_web {Hf : Hp} {vS vL : V} {D : Addr} (h1 : Rep Hf vS (.tup (sDs ss))) (h2 : Rep Hf (.ref D) (nearD ss (nbs ts))) (h3 : Rep Hf vL (.tup (tDs ts))) (ha : Hf a = some (.ins CW dx [("spots", vS), ("near", .ref D), ("lines", vL)])) : Rep Hf (.ref a) (webD CW ss ts) := .ins ha (.cons h1 (.cons h2 (.cons h3 .nil)))
theorem repK_in {Hf : Hp} : ∀ ks : List Str, RepK Hf (ks.map fun k => ((.inr k : Key), V.bl true)) (ks.map fun k => ((.inr k : Key), D.bl true))
  | [] => .nil
  | k :: ks => .cons (.bl true) (repK_in ks)
theorem repK_out {Hf : Hp} {ks : Str → List Str} {ad : Str → Addr} : ∀ ss : List Str, (∀ p ∈ ss, Hf (ad p) = some (inD (ks p))) → RepK Hf (ss.map fun p => ((.inr p : Key), V.ref (ad p))) (ss.map fun p => ((.inr p : Key), D.dk ((ks p).map fun k => (.inr k, .bl true))))
  | [], _ => .nil
  | p :: ss, h => .cons (.dk (h p List.mem_cons_self) (repK_in _)) (repK_out ss fun q hq => h q (List.mem_cons_of_mem _ hq))
theorem web_walk {vs : List V} {Q : VK} {E : XK} (cls : L2.Cls K CW) (nS : NoAttr K CW "spots") (nN : NoAttr K CW "near") (nL : NoAttr K CW "lines") (h : toSp (spWeb CW cBP cBI) vs H0 Q E) : vs.length = 2 ∧ ∀ a dx, H0 a = none → H0 dx = none → dx ≠ a →
    rWeb K (fun cls d x H => E cls d H) (L2.WE fun cls d x H => E cls d H) cBP cBT cBI { nx := fun _ H' => (V.non : V) = .non ∧ Q (.ref a) H', rt := fun v H' => v = .non ∧ Q (.ref a) H' } (L2.start NW (.ref a :: (vs ++ []))) (upd (upd H0 dx (.own a)) a (.ins CW dx [])) := by
  obtain ⟨Hf0, L, ms, avs, P, XP, exl, lk, ndm, hm, ar, ⟨x, y, ss, ts, rfl, hx, hy, hs, ht, lz, badP, okp⟩, hQ, hX⟩ := h
  cases ar with
  | @b v1 _ _ _ _ r1 ar =>
  cases ar with
  | @b v2 _ _ _ _ r2 ar =>
  cases ar
  refine ⟨rfl, fun a dx h0a h0d hda => ?_⟩
  have b1 : Bs L Hf0 H0 Hf0 (upd (upd H0 dx (.own a)) a (.ins CW dx [])) := ((Bs.init exl lk).upd h0d (exl_none exl h0d)).upd h0a (exl_none exl h0a)
  have hA : upd (upd H0 dx (.own a)) a (.ins CW dx []) a = some (.ins CW dx []) := upd_same
  have hfa : Hf0 a = none := exl_none exl h0a
  have ex : ∀ {C : Addr} {p : Option (Str × D)}, XP C p [] → ∀ d Hf' H', Bs L Hf0 H0 Hf' H' → PayR Hf' H' d p → E (.ref C) d H' := fun hx d Hf' H' b p => hX _ _ [] hx d Hf' H' b.after p
  show rWeb K _ _ cBP cBT cBI _ (sW a v1 v2) _
  generalize upd (upd H0 dx (.own a)) a (.ins CW dx []) = H1 at b1 hA
  have w0 : SW (sW a v1 v2) a v1 v2 := sW_ok
  -- the first test
  show LT _ wt_w0 (sW a v1 v2) H1 _
  refine testW w0 b1 r1 r2 (fun P h => t0_ok hx h) fun Hf2 H2 b2 st2 => ?_
  by_cases p1 : 1 ≤ (sDs ss).length ∧ (sDs ss).length ≤ 12
  rotate_left
  · rw [decide_eq_true p1, if_pos rfl]
    exact raiseW w0 b2 r1 r2 (fun N h => r0_ok N h) fun d σ' Hf' H' b => ex (badP fun z => p1 (okP_iff.mp z).1) d Hf' H' b trivial
  rw [decide_eq_false (fun z => z p1), if_neg Bool.false_ne_true]
  -- the second
  show LT _ wt_w1 (sW a v1 v2) H2 _
  refine testW w0 b2 r1 r2 (fun P h => t1_ok hx hs lz h) fun Hf3 H3 b3 st3 => ?_
  by_cases p2 : (∀ z ∈ ss, isNameB z = true) ∧ ss.Nodup
  rotate_left
  · rw [decide_eq_true p2, if_pos rfl]
    exact raiseW w0 b3 r1 r2 (fun N h => r1_ok N h) fun d σ' Hf' H' b => ex (badP fun z => p2 (okP_iff.mp z).2) d Hf' H' b trivial
  rw [decide_eq_false (fun z => z p2), if_neg Bool.false_ne_true]
  have okP1 : okP ss := okP_iff.mpr ⟨p1, p2⟩
  obtain ⟨good, bad⟩ := okp okP1
  -- the third
  show LT _ wt_w2 (sW a v1 v2) H3 _
  refine testW w0 b3 r1 r2 (fun P h => t2_ok hy h) fun Hf4 H4 b4 st4 => ?_
  rw [if_neg Bool.false_ne_true]
  -- self.spots
  show LE _ we_tp (sW a v1 v2) H4 _
  refine tupW w0 b4 r1 r2 (fun P h => tp_ok hx P h) fun vS Hf5 H5 b5 st5 rS => ?_
  have hA5 : H5 a = some (.ins CW dx []) := st5.ex _ _ (st4.ex _ _ (st3.ex _ _ (st2.ex _ _ hA)))
  have hf5 : Hf5 a = none := st5.non _ _ (st4.ex _ _ (st3.ex _ _ (st2.ex _ _ hA))) (st4.non _ _ (st3.ex _ _ (st2.ex _ _ hA)) (st3.non _ _ (st2.ex _ _ hA) (st2.non _ _ hA hfa)))
  refine ⟨.ref a, w0.s0, a, CW, dx, [], rfl, hA5, cls, nS, by decide, ?_⟩
  have b6 : Bs L Hf0 H0 Hf5 (upd H5 a (.ins CW dx [("spots", vS)])) := b5.upd h0a hf5
  have hA6 : upd H5 a (.ins CW dx [("spots", vS)]) a = some (.ins CW dx [("spots", vS)]) := upd_same
  show sFld K (tVar 0) (rDc K) "near" _ (sW a v1 v2) (upd H5 a (.ins CW dx [("spots", vS)]))
  generalize upd H5 a (.ins CW dx [("spots", vS)]) = H6 at b6 hA6
  -- self.near
  show rDc K (sW a v1 v2) H6 _
  refine near_dc w0 b6 cls nS hA6 rS p2.2 (by have := p1.2; rwa [show (sDs ss).length = ss.length from List.length_map _] at this) fun D H7 ad b7 hA7 h0D hfD hDa n7 => ?_
  refine ⟨.ref a, w0.s0, a, CW, dx, _, rfl, hA7, cls, nN, (by show 1 < 1000; decide), ?_⟩
  have b8 : Bs L Hf0 H0 Hf5 (upd H7 a (.ins CW dx [("spots", vS), ("near", .ref D)])) := b7.upd h0a hf5
  have l8 : LI2 K CW dx a D L Hf0 H0 Hf5 (upd H7 a (.ins CW dx [("spots", vS), ("near", .ref D)])) vS ss (nbs []) ad := ⟨b8, upd_same, rS, n7.other (.inr rfl) hDa⟩
  show tFor (ML.iEnumA K (tCons (tVar 2) tNil)) _ _ _ (sW a v1 v2) (upd H7 a (.ins CW dx [("spots", vS), ("near", .ref D)]))
  generalize upd H7 a (.ins CW dx [("spots", vS), ("near", .ref D)]) = H8 at b8 l8
  -- the loop
  obtain ⟨av, vs, rfl, hvs, rd⟩ := read2 (L := L) r2 hy
  have loop : ∀ {J : It}, Enm J L Hf0 H0 vs → _ := fun {J} en => loop_ties (K := K) (CW := CW) (dx := dx) (J := J) (W := fun cls d x H => E cls d H) (E := L2.WE fun cls d x H => E cls d H) (cBI := cBI)
    (De := { nx := fun σ H => sFld K (tVar 0) (LE (fun cls d x H => E cls d H) we_tt) "lines" { nx := fun _ H' => (V.non : V) = .non ∧ Q (.ref a) H', rt := fun v H' => v = .non ∧ Q (.ref a) H' } σ H, rt := fun v H' => v = .non ∧ Q (.ref a) H' })
    en hvs cls nN nS w0 l8 h0a hDa hf5 ht (fun nb i d σ' Hf' H' b p => ex (bad nb i) d Hf' H' b p) fun okt σ9 Hf9 H9 ad9 w9 l9 hf9 => by
      refine tupW w9 l9.b r1 r2 (fun P h => tt_ok hy P h) fun vL Hf10 H10 b10 st10 rL => ?_
      have hA10 := st10.ex _ _ l9.hA
      have hf10 := st10.non _ _ l9.hA hf9
      refine ⟨.ref a, w9.s0, a, CW, dx, _, rfl, hA10, cls, nL, (by show 2 < 1000; decide), rfl, ?_⟩
      have n10 := l9.n.step st10
      have b11 : Bs L Hf0 H0 Hf10 (upd H10 a (.ins CW dx [("spots", vS), ("near", .ref D), ("lines", vL)])) := b10.upd h0a hf10
      have n11 := n10.other (p := a) (u := .ins CW dx [("spots", vS), ("near", .ref D), ("lines", vL)]) (.inr rfl) hDa
      refine hQ _ [] (good okt) _ (allNew H0 Hf10 (upd H10 a (.ins CW dx [("spots", vS), ("near", .ref D), ("lines", vL)]))) _ b11.all.after ?_
      refine repF_web ((l9.rS.mono st10.exf).mono b11.exNew) ?_ (rL.mono b11.exNew) (allNew_at h0a upd_same)
      exact .dk (allNew_at h0D n11.tab) (repK_out ss fun p hp => allNew_at (n11.fr p hp).1 (n11.inn p hp))
  show ∃ v, _
  refine ⟨.ref av, w0.s2, av, vs, rfl, ?_⟩
  rcases rd with rd | rd
  · exact .inl ⟨sqL_of (rd _ _ b8), loop (enm_l rd)⟩
  · exact .inr ⟨sqT_of (rd _ _ b8), loop (enm_t rd)⟩
end
theorem mcal_web {P : Program} {w : World} {K : PySem.W.Frag} {mg : Str → Option Value} {base : Heap} {CW fI cBP cBT cBI T0 : Addr} {fd : FuncData} (F : FunD K "__init__" "Web.__init__" (defArgs sWeb_init) (defBody sWeb_init) (defScope sWeb_init) [.ref T0] [] fI fd) (M : Mk K CW fI) (gC : mg "Web" = some (.ref CW))
    (cls : L2.Cls K CW) (nS : NoAttr K CW "spots") (nN : NoAttr K CW "near") (nL : NoAttr K CW "lines") (g_all : mg "all" = none) (g_enumerate : mg "enumerate" = none) (g_isinstance : mg "isinstance" = none) (g_len : mg "len" = none) (g_list : mg "list" = none) (g_set : mg "set" = none) (g_tuple : mg "tuple" = none) (c_is_name : DCal P w K mg base "is_name" 1 spIsName) (c_is_pair : DCal P w K mg base "is_pair" 2 spIsPair) (h_MOST_PLACES : ∃ u, mg "MOST_PLACES" = some u ∧ RelV (.int 12) u) (e_BadPlaces : ErrC P w K mg base "BadPlaces" cBP "value") (e_BadTies : ErrC P w K mg base "BadTies" cBT "value") (e_BadTie : ErrC P w K mg base "BadTie" cBI "position") : MCal P w K mg base "Web" 3 (spWeb CW cBP cBI) := by
  obtain ⟨ds, hd, hb⟩ := F.binds1 (ps := ["self", "places", "ties"]) 3 1 (by simp) rfl (fun T kV doc pm an cdv ct us its h1 h2 => by
    match us, h1 with
    | [_, _, _], _ =>
      match its, h2 with
      | [_], _ => exact ⟨_, rfl, rfl⟩)
  cases hd
  refine ⟨CW, fI, fd, ["self", "places", "ties"], fun vs H Q E => vs.length = 3 ∧ rWeb K (fun cls d x H => E cls d H) (L2.WE fun cls d x H => E cls d H) cBP cBT cBI { nx := fun _ H' => Q .non H', rt := Q } (L2.start NW vs) H, [], [], 2, gC, M, hb, .nil, ?_, fun vs H Q E h => ?_⟩
  · exact GW.ok_body F sc_web (fun vs H Q E h => h.1) fun cdv A outer s H vs Q E hr noG h => ⟨_, pss_web g_all g_enumerate g_isinstance g_len g_list g_set g_tuple c_is_name c_is_pair h_MOST_PLACES e_BadPlaces e_BadTies e_BadTie cdv A outer s H E hr noG, h.2⟩
  · obtain ⟨h1, h2⟩ := web_walk (CW := CW) (cBP := cBP) (cBT := cBT) (cBI := cBI) cls nS nN nL h
    refine ⟨h1, fun a dx h0a h0d hda => ⟨?_, h2 a dx h0a h0d hda⟩⟩
    rw [List.length_cons, List.length_append, h1]
    rfl
end DL


/-! Pl56: texts cut and joined. -/
namespace DL
open PySem PySem.Spec PyProof.Rows L2 TL
theorem spl_ne (s : Nat) : ∀ (l acc : List Nat), spl [s] 0 acc l ≠ []
  | [], acc => by rw [spl_nil]; simp
  | c :: r, acc => by
    cases h : pre [s] (c :: r) with
    | true => rw [spl_hit h]; simp
    | false => rw [spl_miss h]; exact spl_ne s r _
theorem joinL_cons {S p : List Nat} {l : List (List Nat)} (h : l ≠ []) : joinL S (p :: l) = p ++ (S ++ joinL S l) := by
  cases l with
  | nil => exact absurd rfl h
  | cons q r => rfl
theorem join_spl (s : Nat) : ∀ (l acc : List Nat), joinL [s] (spl [s] 0 acc l) = acc ++ l
  | [], acc => by
    rw [spl_nil]
    show acc = acc ++ []
    rw [List.append_nil]
  | c :: r, acc => by
    cases h : pre [s] (c :: r) with
    | true =>
      have e : c = s := by
        have e : (c :: r).take 1 = [s] := eq_of_beq h
        simpa using e
      rw [spl_hit h]
      show joinL [s] (acc :: spl [s] 0 [] r) = _
      rw [joinL_cons (spl_ne s r []), join_spl s r [], e]
      simp
    | false =>
      rw [spl_miss h, join_spl s r (acc ++ [c]), List.append_assoc]
      rfl
theorem joinL_len (s : Nat) : ∀ l : List (List Nat), l ≠ [] → (joinL [s] l).length + 1 = (l.map List.length).sum + l.length
  | [], h => absurd rfl h
  | [p], _ => by
    show p.length + 1 = _
    simp
  | p :: q :: r, _ => by
    rw [joinL_cons (by simp)]
    have := joinL_len s (q :: r) (by simp)
    simp only [List.length_append, List.map_cons, List.sum_cons, List.length_cons, List.length_nil] at this ⊢
    omega
theorem split_tl {y : Str} {s : Nat} (ey : tl y = [s]) (hk : y.cps.all (· < 256) = true) (z : Str) : (Txt.split z y).map tl = spl [s] 0 [] (tl z) := by
  rw [split_spl z y (by rw [ey]; simp) (kind_ok hk), ey]
theorem join_split {y : Str} {s : Nat} (ey : tl y = [s]) (hk : y.cps.all (· < 256) = true) (z : Str) : Txt.join y (Txt.split z y) = z := by
  refine ext_tl ?_
  rw [join_eq, tl_join, split_tl ey hk, ey, join_spl, List.nil_append]
theorem split_ne {y : Str} {s : Nat} (ey : tl y = [s]) (hk : y.cps.all (· < 256) = true) (z : Str) : Txt.split z y ≠ [] := fun e => by
  have h := split_tl ey hk z
  rw [e] at h
  exact spl_ne s _ _ h.symm
/-- how long a joined text is -/
theorem join_len {y : Str} {s : Nat} (ey : tl y = [s]) {l : List Str} (h : l ≠ []) : (Txt.join y l).length + 1 = (l.map (·.length)).sum + l.length := by
  rw [len_tl, join_eq, tl_join, ey, joinL_len s _ (by simpa using h), List.map_map, List.length_map]
  congr 2
theorem tl_nl : tl ("\n" : Str) = [10] := by decide +kernel
theorem tl_sp : tl (" " : Str) = [32] := by decide +kernel
theorem ok_nl : ("\n" : Str).cps.all (· < 256) = true := by decide +kernel
theorem ok_sp : (" " : Str).cps.all (· < 256) = true := by decide +kernel
theorem lines_join (z : Str) : Txt.join "\n" (Txt.split z "\n") = z := join_split tl_nl ok_nl z
theorem words_join (z : Str) : Txt.join " " (Txt.split z " ") = z := join_split tl_sp ok_sp z
theorem lines_ne (z : Str) : Txt.split z "\n" ≠ [] := split_ne tl_nl ok_nl z
theorem words_ne (z : Str) : Txt.split z " " ≠ [] := split_ne tl_sp ok_sp z
theorem lines_sum (z : Str) : z.length + 1 = ((Txt.split z "\n").map (·.length)).sum + (Txt.split z "\n").length := by
  have h := join_len tl_nl (lines_ne z)
  rwa [lines_join] at h
theorem words_sum (z : Str) : z.length + 1 = ((Txt.split z " ").map (·.length)).sum + (Txt.split z " ").length := by
  have h := join_len tl_sp (words_ne z)
  rwa [words_join] at h
theorem le_sum {l : List Str} {z : Str} (h : z ∈ l) : z.length ≤ (l.map (·.length)).sum := by
  induction l with
  | nil => cases h
  | cons x l ih =>
    rw [List.map_cons, List.sum_cons]
    rcases List.mem_cons.mp h with e | h
    · rw [e]; omega
    · have := ih h; omega
theorem sum_le {l : List Str} {k : Nat} (h : ∀ z ∈ l, z.length ≤ k) : (l.map (·.length)).sum ≤ l.length * k := by
  induction l with
  | nil => simp
  | cons x l ih =>
    rw [List.map_cons, List.sum_cons, List.length_cons, Nat.succ_mul]
    have h1 := ih fun z hz => h z (List.mem_cons_of_mem _ hz)
    have h2 := h x List.mem_cons_self
    omega
theorem split_lines {l : List Str} (h : l ≠ []) (hl : ∀ z ∈ l, 10 ∉ tl z) : Txt.split (Txt.join "\n" l) "\n" = l := split_join tl_nl ok_nl h hl
/-! ### is a list of texts without repeats, and alike -/
theorem strL_len (l : List Str) : (sDs l).length = l.length := List.length_map _
theorem tD_len (l : List (Str × Str)) : (tDs l).length = l.length := List.length_map _
theorem inL_strs {z : Str} : ∀ ss : List Str, inL 40 (.str z) (sDs ss) = some (decide (z ∈ ss))
  | [] => rfl
  | p :: ss => by
    show (match deqN 40 (.str p) (.str z), inL 40 (.str z) (sDs ss) with
      | some a, some b => some (a || b)
      | _, _ => none) = _
    rw [inL_strs ss]
    simp only [deqN]
    congr 1
    by_cases e : p = z
    · simp [e]
    · by_cases m : z ∈ ss
      · simp [m]
      · have : (p == z) = false := beq_eq_false_iff_ne.mpr e
        simp [m, this, Ne.symm e]
theorem deq_str (a b : Str) : deqN 40 (.str a) (.str b) = some (a == b) := rfl
theorem deq_int (a b : Int) : deqN 40 (.int a) (.int b) = some (a == b) := rfl
end DL


/-! Ws: the readings opened. -/
namespace DL
open PySem PySem.Spec PyProof.Rows L2
theorem wv_d {st : S} {i : Nat} {x : D} {P : RV → S → Prop} {E : XC} (h : st[i]? = some (.d x)) (k : P (.d x) st) : wVar i st P E := by
  unfold wVar
  rw [h]
  exact k
theorem wv_b {st : S} {i : Nat} {x : D} {P : RV → S → Prop} {E : XC} (h : st[i]? = some (.b x)) (k : P (.b x) st) : wVar i st P E := by
  unfold wVar
  rw [h]
  exact k
theorem wv_o {st : S} {i : Nat} {c : Cell} {P : RV → S → Prop} {E : XC} (h : st[i]? = some (.o c)) (k : P (.sl i) st) : wVar i st P E := by
  unfold wVar
  rw [h]
  exact k
theorem wv_p {st : S} {i : Nat} {c : Cell} {P : RV → S → Prop} {E : XC} (h : st[i]? = some (.p c)) (k : P (.sl i) st) : wVar i st P E := by
  unfold wVar
  rw [h]
  exact k
theorem wc_i {st : S} {x : D} {P : RV → S → Prop} {E : XC} (k : P (.d x) st) : wC x st P E := k
theorem wbin_i {st : S} {o : Op2} {a b : WE} {P : RV → S → Prop} {E : XC} (k : a st (fun r1 st1 => b st1 (fun r2 st2 => opt (cont st2 r1) fun x => opt (cont st2 r2) fun y => o x y fun rv => P rv st2) E) E) : wBin o a b st P E := k
/-- a number drawn -/
theorem dr {r m : Int} {rest : S} {w : WE} {n : Nat} {Q : RV → S → Prop} {E : XC} (src : Src r m) (n0 : 0 < n) (n1 : n < 1000000) (hw : ∀ P : RV → S → Prop, P (.d (.int (n : Nat))) (.p (.lst [.int r, .int m]) :: rest) → w (.p (.lst [.int r, .int m]) :: rest) P E)
    (k : ∀ (i : Nat) r' m', i < n → Src r' m' → Q (.d (.int (i : Nat))) (.p (.lst [.int r', .int m']) :: rest)) : wCall [.m, .d] spDraw (wCons (wVar 0) (wCons w wNil)) (.p (.lst [.int r, .int m]) :: rest) Q E := by
  show w _ _ E
  refine hw _ ⟨rfl, r, m, (n : Nat), rfl, src, by omega, by omega, fun i r' m' h0 h1 s => ?_⟩
  have q := k i.toNat r' m' (by omega) s
  rw [show ((i.toNat : Nat) : Int) = i by omega] at q
  exact q
theorem oNe_nil {xs : List D} {P : RV → Prop} (h : P (.d (.bl (decide (xs ≠ []))))) : oNe (.lst xs) (.lst []) P := by
  cases xs with
  | nil => exact h
  | cons x xs =>
    have e : (decide (x :: xs ≠ [])) = true := decide_eq_true (by simp)
    rw [e] at h
    exact h
theorem oEq_nil {xs : List D} {P : RV → Prop} (h : P (.d (.bl (decide (xs = []))))) : oEq (.lst xs) (.lst []) P := by
  cases xs with
  | nil => exact h
  | cons x xs =>
    have e : (decide (x :: xs = [])) = false := decide_eq_false (by simp)
    rw [e] at h
    exact h
theorem erase_perm {α : Type} : ∀ (l : List α) (i : Nat) (h : i < l.length), (l[i] :: l.eraseIdx i).Perm l
  | x :: l, 0, h => List.Perm.refl _
  | x :: l, i + 1, h => by
    have h' : i < l.length := by simpa using h
    exact (List.Perm.swap x l[i] (l.eraseIdx i)).trans ((erase_perm l i h').cons x)
section
variable {st : S} {N : DN} {P : RV → S → Prop} {E : XC} {i : Nat} {a b c : WE} {u v : WS} {t t' : WT} {wa : WA} {B : Bool → S → Prop}
theorem wseq_i (k : u { N with nx := v N } st) : wSeq u v N st := k
theorem wasg_i (k : a st (fun r st1 => asgK i N st1 r) N.ex) : wAsg i a N st := k
theorem wret_i (k : a st (fun r st1 => N.rt r st1) N.ex) : wRet a N st := k
theorem wdrop_i (k : a st (fun _ st1 => N.nx st1) N.ex) : wDrop a N st := k
theorem wfor_i {w : WI} {g : WG} (k : w st (fun xs st1 => loopN g u N xs st1) N.ex) : wFor w g u N st := k
theorem wifs_i (k : t st (fun k st1 => if k = true then u N st1 else v N st1) N.ex) : wIfS t u v N st := k
theorem wtest_i (k : a st (fun r st1 => boolK B st1 r) E) : wTest a st B E := k
theorem wnot_i (k : t st (fun k st1 => B (!k) st1) E) : wNot t st B E := k
theorem wand_i (k : t st (fun k st1 => if k = true then t' st1 B E else B false st1) E) : wAnd t t' st B E := k
theorem wor_i (k : t st (fun k st1 => if k = true then B true st1 else t' st1 B E) E) : wOr t t' st B E := k
theorem wpers_i (k : a st (fun r st1 => persK st1 P r) E) : wPers a st P E := k
theorem wpar_i {j : Nat} (k : a st (fun r1 st1 => b st1 (fun r2 st2 => asgK i { N with nx := fun st3 => asgK j N st3 r2 } st2 r1) N.ex) N.ex) : wPar i j a b N st := k
theorem wif_i (k : t st (fun k st1 => if k = true then a st1 P E else b st1 P E) E) : wIf t a b st P E := k
theorem wlst_i (k : wa st (fun rs st1 => opt (dAll rs) fun xs => xs.length ≤ sizeLine ∧ P (.n (.lst xs)) st1) E) : wLst wa st P E := k
theorem wtup_i (k : wa st (fun rs st1 => opt (dAll rs) fun xs => xs.length ≤ sizeLine ∧ P (.d (.tup xs)) st1) E) : wTup wa st P E := k
theorem wcb_i {op : OpN} (k : wa st (fun rs st1 => opt (conts st1 rs) fun xs => op xs fun rv => P rv st1) E) : wCB op wa st P E := k
theorem wcall_i {mds : List Md} {sp : DSp} (k : wa st (fun rs st1 => opt (avs st1 mds rs) (callK sp st1 P E)) E) : wCall mds sp wa st P E := k
theorem wcons_i {wb : WA} {A : List RV → S → Prop} (k : a st (fun r st1 => wb st1 (fun rs st2 => A (r :: rs) st2) E) E) : wCons a wb st A E := k
theorem wnil_i {A : List RV → S → Prop} (k : A [] st) : wNil st A E := k
theorem wun_i {o : Op1} (k : a st (fun r1 st1 => opt (cont st1 r1) fun x => o x fun rv => P rv st1) E) : wUn o a st P E := k
theorem wm1_i {o : Op2} (k : a st (fun r1 st1 => match r1 with
  | .d (.str z) => b st1 (fun r2 st2 => opt (cont st2 r2) fun y => o (.str z) y fun rv => P rv st2) E
  | _ => False) E) : wM1 o a b st P E := k
theorem wlc_i {w : WI} {g : WG} {vs : List Nat} (k : w st (fun xs st1 => lcN g t a vs (fun acc st2 => P (.n (.lst acc)) st2) xs [] st1) E) : wLc w g t a vs st P E := k
theorem wita_i {A : List D → S → Prop} (k : a st (fun r st1 => opt (itemsR r) fun xs => A xs st1) E) : wItA a st A E := k
theorem wena_i {A : List D → S → Prop} (k : a st (fun r st1 => opt (itemsR r) fun xs => A (enumD 0 xs) st1) E) : wEnA a st A E := k
theorem wvs {x : D} (h : slotD st[i]? = some x) (k : ∀ r, cont st r = some x → P r st) : wVar i st P E := by
  cases e : st[i]? with
  | none => rw [e] at h; cases h
  | some s =>
    rw [e] at h
    cases s with
    | un => cases h
    | x _ _ _ _ => cases h
    | d y => exact wv_d e (k _ h)
    | b y => exact wv_b e (k _ h)
    | o c => exact wv_o e (k _ (by show slotD st[i]? = _; rw [e]; exact h))
    | p c => exact wv_p e (k _ (by show slotD st[i]? = _; rw [e]; exact h))
theorem wlenv {x : D} {n : Nat} (h : slotD st[i]? = some x) (hl : lenD x = some n) (k : P (.d (.int (n : Nat))) st) : wCB (on1 oLen) (wCons (wVar i) wNil) st P E := by
  refine wcb_i (wcons_i (wvs h fun r hr => ?_))
  show opt (match cont st r, conts st [] with | some x, some xs => some (x :: xs) | _, _ => none) _
  rw [hr]
  show opt (lenD x) _
  rw [hl]
  exact k
theorem wixl {xs : List D} {j : Int} {y : D} (h : slotD st[i]? = some (.lst xs)) (e : atI xs j = some y) (k : P (.d y) st) : wBin oIx (wVar i) (wC (.int j)) st P E := by
  refine wbin_i (wvs h fun r hr => ?_)
  show opt (cont st r) _
  rw [hr]
  show opt (atI xs j) _
  rw [e]
  exact k
theorem wixv {xs : List D} {i' : Nat} {j : Int} {y : D} (h : slotD st[i]? = some (.lst xs)) (h' : st[i']? = some (.d (.int j))) (e : atI xs j = some y) (k : P (.d y) st) : wBin oIx (wVar i) (wVar i') st P E := by
  refine wbin_i (wvs h fun r hr => wv_d h' ?_)
  show opt (cont st r) _
  rw [hr]
  show opt (atI xs j) _
  rw [e]
  exact k
theorem weqs {z y : Str} (ha : ∀ P : RV → S → Prop, P (.d (.str z)) st → a st P E) (k : B (z == y) st) : wTest (wBin oEq a (wC (.str y))) st B E := ha _ k
theorem weqi {n m : Int} (ha : ∀ P : RV → S → Prop, P (.d (.int n)) st → a st P E) (k : B (n == m) st) : wTest (wBin oEq a (wC (.int m))) st B E := ha _ k
theorem wnei {n m : Int} (ha : ∀ P : RV → S → Prop, P (.d (.int n)) st → a st P E) (k : B (!(n == m)) st) : wTest (wBin oNe a (wC (.int m))) st B E := ha _ k
theorem weqn {xs : List D} (h : slotD st[i]? = some (.lst xs)) (k : B (decide (xs = [])) st) : wTest (wBin oEq (wVar i) (wLst wNil)) st B E := by
  refine wtest_i (wbin_i (wvs h fun r hr => ?_))
  refine ⟨Nat.zero_le _, ?_⟩
  show opt (cont st r) _
  rw [hr]
  exact oEq_nil k
theorem wnen {xs : List D} (h : slotD st[i]? = some (.lst xs)) (k : B (decide (xs ≠ [])) st) : wTest (wBin oNe (wVar i) (wLst wNil)) st B E := by
  refine wtest_i (wbin_i (wvs h fun r hr => ?_))
  refine ⟨Nat.zero_le _, ?_⟩
  show opt (cont st r) _
  rw [hr]
  exact oNe_nil k
theorem wpd {x : D} (ha : ∀ P : RV → S → Prop, P (.d x) st → a st P E) (k : P (.d x) st) : wPers a st P E := ha _ k
theorem wpsl {c : Cell} {j : Nat} (ha : ∀ P : RV → S → Prop, P (.sl j) st → a st P E) (h : st[j]? = some (.o c)) (k : P (.d c.toD) (st.set j (.d c.toD))) : wPers a st P E := by
  refine ha _ ?_
  show opt (freeze st j st[j]?) _
  rw [h]
  exact k
theorem wpn {c : Cell} (ha : ∀ P : RV → S → Prop, P (.n c) st → a st P E) (k : P (.d c.toD) st) : wPers a st P E := ha _ k
/-- x.append(y) -/
theorem wapp {xs : List D} {y : D} (h : cellOf st i = some (.lst xs)) (ha : ∀ P : RV → S → Prop, P (.d y) st → a st P N.ex) (hz : xs.length < sizeLine) (k : N.nx (setC st i (.lst (xs ++ [y])))) : wDrop (wMut "list" i mAppend (wCons (wPers a) wNil)) N st := by
  refine wdrop_i ?_
  show opt (cellOf st i) _
  rw [h]
  refine ⟨rfl, ha _ ?_⟩
  show opt (cellOf st i) _
  rw [h]
  exact ⟨hz, k⟩
theorem wtup2 {x y : D} (ha : ∀ P : RV → S → Prop, P (.d x) st → a st P E) (hb : ∀ P : RV → S → Prop, P (.d y) st → b st P E) (k : P (.d (.tup [x, y])) st) : wTup (wCons (wPers a) (wCons (wPers b) wNil)) st P E := by
  refine ha _ (hb _ ⟨?_, k⟩)
  show 2 ≤ sizeLine
  rw [sizeLine_eq]
  decide
theorem wisi_i {Ts : List String} {x : D} {a : String} (h : slotD st[i]? = some x) (ha : tyS x = some a) (k : P (.d (.bl (tyIn a Ts))) st) : wIsi Ts (wVar i) st P E := by
  unfold wIsi
  refine wvs h fun r hr => ?_
  rw [hr]
  show opt (tyS x) _
  rw [ha]
  exact k
theorem win2 {x y : D} {b' : Bool} (ha : ∀ P : RV → S → Prop, P (.d x) st → a st P E) (h : slotD st[i]? = some y) (e : isIn x y = some b') (k : B b' st) : wTest (wBin oIn a (wVar i)) st B E := by
  refine wtest_i (wbin_i (ha _ (wvs h fun r hr => ?_)))
  show opt (cont st r) _
  rw [hr]
  show opt (isIn x y) _
  rw [e]
  exact k
theorem wnin2 {x y : D} {b' : Bool} (ha : ∀ P : RV → S → Prop, P (.d x) st → a st P E) (h : slotD st[i]? = some y) (e : isIn x y = some b') (k : B (!b') st) : wTest (wBin oNin a (wVar i)) st B E := by
  refine wtest_i (wbin_i (ha _ (wvs h fun r hr => ?_)))
  show opt (cont st r) _
  rw [hr]
  show opt (isIn x y) _
  rw [e]
  exact k
theorem winv {j : Nat} {x y : D} {b' : Bool} (hx : slotD st[j]? = some x) (h : slotD st[i]? = some y) (e : isIn x y = some b') (k : B b' st) : wTest (wBin oIn (wVar j) (wVar i)) st B E := by
  refine wtest_i (wbin_i (wvs hx fun r1 hr1 => wvs h fun r hr => ?_))
  show opt (cont st r1) _
  rw [hr1]
  show opt (cont st r) _
  rw [hr]
  show opt (isIn x y) _
  rw [e]
  exact k
theorem wgti {n m : Int} (ha : ∀ P : RV → S → Prop, P (.d (.int n)) st → a st P E) (k : B (decide (m < n)) st) : wTest (wBin oGt a (wC (.int m))) st B E := ha _ k
theorem weq2 {z y : Str} (ha : ∀ P : RV → S → Prop, P (.d (.str z)) st → a st P E) (hb : ∀ P : RV → S → Prop, P (.d (.str y)) st → b st P E) (k : B (z == y) st) : wTest (wBin oEq a b) st B E := ha _ (hb _ k)
theorem wnext_i (k : N.nx st) : wNext N st := k
theorem cutl_i {xs : List D} {lo hi : Option Int} {F : RV → Prop} (k : F (.n (.lst (cutL xs lo hi)))) : cutD (.lst xs) lo hi F := k
theorem wslv {xs : List D} {wl wh : WO} {lo hi : Option Int} (h : slotD st[i]? = some (.lst xs)) (hl : ∀ P : Option Int → S → Prop, P lo st → wl st P E) (hh : ∀ P : Option Int → S → Prop, P hi st → wh st P E) (k : P (.n (.lst (cutL xs lo hi))) st) : wSl (wVar i) wl wh st P E := by
  unfold wSl
  refine wvs h fun r hr => hl _ (hh _ ?_)
  rw [hr]
  exact k
theorem opt_i {α : Type} {o : Option α} {x : α} {k : α → Prop} (e : o = some x) (h : k x) : opt o k := by
  rw [e]
  exact h
end
end DL


/-! Pr56: what the lines tell. -/
namespace DL
open PySem PySem.Spec PyProof.Rows L2 TL
theorem okTs_snoc {ss : List Str} {t : Str × Str} : ∀ (r d : List (Str × Str)), okTs ss d (r ++ [t]) ↔ okTs ss d r ∧ okTie ss (d ++ r) t
  | [], d => by
    show okTie ss d t ∧ True ↔ True ∧ okTie ss (d ++ []) t
    rw [List.append_nil]
    exact ⟨fun h => ⟨trivial, h.1⟩, fun h => ⟨h.2, trivial⟩⟩
  | x :: r, d => by
    show okTie ss d x ∧ okTs ss (d ++ [x]) (r ++ [t]) ↔ (okTie ss d x ∧ okTs ss (d ++ [x]) r) ∧ okTie ss (d ++ x :: r) t
    rw [okTs_snoc r (d ++ [x]), List.append_assoc]
    exact and_assoc.symm
theorem okT_snoc {ss : List Str} {ts : List (Str × Str)} {t : Str × Str} : okT ss (ts ++ [t]) ↔ okT ss ts ∧ okTie ss ts t := okTs_snoc ts []
theorem okP_snoc {ss : List Str} {z : Str} (h : ss = [] ∨ okP ss) : okP (ss ++ [z]) ↔ ss.length ≤ 11 ∧ z ∉ ss ∧ isNameB z = true := by
  unfold okP
  rw [List.length_append, List.length_singleton, List.nodup_append]
  constructor
  · rintro ⟨_, h2, h3, h4, _, h6⟩
    exact ⟨by omega, fun m => h6 z m z (List.mem_singleton.mpr rfl) rfl, h3 z (by simp)⟩
  · rintro ⟨h1, h2, h3⟩
    have hn : (∀ y ∈ ss, isNameB y = true) ∧ ss.Nodup := by
      rcases h with rfl | h
      · exact ⟨fun y hy => (nomatch hy), List.nodup_nil⟩
      · exact ⟨h.2.2.1, h.2.2.2⟩
    refine ⟨by omega, by omega, fun y hy => ?_, hn.2, by simp, fun y hy z' hz e => ?_⟩
    · rcases List.mem_append.mp hy with hy | hy
      · exact hn.1 y hy
      · rw [List.mem_singleton.mp hy]; exact h3
    · rw [List.mem_singleton.mp hz] at e
      exact h2 (e ▸ hy)
/-- the state while lines are read -/
structure Gd (ss : List Str) (ts : List (Str × Str)) : Prop where
  p : ss = [] ∨ okP ss
  t : okT ss ts
  e : ss = [] → ts = []
theorem gd_nil : Gd [] [] := ⟨.inl rfl, trivial, fun _ => rfl⟩
theorem okT_mono {ss : List Str} {z : Str} : okT (ss ++ [z]) [] := trivial
theorem line_of {l : Str} {ws : List Str} (h : Txt.split l " " = ws) : l = Txt.join " " ws := by rw [← h, words_join]
theorem join2 (a b : Str) : Txt.join " " [a, b] = a ++ " " ++ b := by rw [join_eq]; rfl
theorem join3 (a b c : Str) : Txt.join " " [a, b, c] = a ++ " " ++ (b ++ " " ++ c) := by rw [join_eq]; rfl
theorem app_assoc (a b c : Str) : a ++ b ++ c = a ++ (b ++ c) := ext_tl (by rw [tl_append, tl_append, tl_append, tl_append, List.append_assoc])
/-- a line that is taken -/
theorem stepL_some {ss ss' : List Str} {ts ts' : List (Str × Str)} {l : Str} (g : Gd ss ts) (h : stepL ss ts l = some (ss', ts')) : Gd ss' ts' ∧ ss' ≠ [] ∧ linesOf ss' ts' = linesOf ss ts ++ [l] ∧ ts'.length ≤ ts.length + 1 := by
  unfold stepL at h
  split at h
  · rename_i w z e
    split at h
    · rename_i c
      obtain ⟨rfl, rfl, h1, h2, h3⟩ := c
      cases h
      refine ⟨⟨.inr ((okP_snoc g.p).mpr ⟨h1, h2, h3⟩), trivial, fun e => ?_⟩, by simp, ?_, Nat.le_succ _⟩
      · simp at e
      · have hl : l = lineP z := by
          rw [line_of e, join2]
          rfl
        rw [hl]
        unfold linesOf
        simp
    · cases h
  · rename_i w a b e
    split at h
    · rename_i c
      obtain ⟨rfl, h1⟩ := c
      cases h
      have hne : ss ≠ [] := fun e => by
        have := h1.1.1
        rw [e] at this
        cases this
      refine ⟨⟨g.p, okT_snoc.mpr ⟨g.t, h1⟩, fun e => absurd e hne⟩, hne, ?_, by simp⟩
      have hl : l = lineT (a, b) := by
        rw [line_of e, join3]
        show ("tie" : Str) ++ " " ++ (a ++ " " ++ b) = (("tie " : Str) ++ a) ++ " " ++ b
        have e4 : ("tie" : Str) ++ " " = "tie " := by decide +kernel
        rw [e4, app_assoc ("tie " : Str) a " ", app_assoc ("tie " : Str) (a ++ " ") b]
      rw [hl]
      unfold linesOf
      simp
    · cases h
  · cases h
theorem runL_some {n : Nat} {ls : List Str} {ss ss' : List Str} {ts ts' : List (Str × Str)} : runL n ls ss ts = .inr (ss', ts') → Gd ss ts → (ls ≠ [] ∨ ss ≠ []) → okP ss' ∧ okT ss' ts' ∧ linesOf ss' ts' = linesOf ss ts ++ ls ∧ ts'.length ≤ ts.length + ls.length := by
  induction ls generalizing n ss ts with
  | nil =>
    intro h g hn
    cases h
    refine ⟨g.p.resolve_left (hn.resolve_left fun z => z rfl), g.t, by rw [List.append_nil], by simp⟩
  | cons l ls ih =>
    intro h g hn
    unfold runL at h
    split at h
    · rename_i ss1 ts1 e
      obtain ⟨g1, n1, l1, z1⟩ := stepL_some g e
      obtain ⟨h1, h2, h3, h4⟩ := ih h g1 (.inr n1)
      refine ⟨h1, h2, ?_, ?_⟩
      · rw [h3, l1, List.append_assoc]
        rfl
      · rw [List.length_cons]
        omega
    · cases h
theorem runT_some {text : Str} {ss : List Str} {ts : List (Str × Str)} (h : runT text = .inr (ss, ts)) : okP ss ∧ okT ss ts ∧ linesOf ss ts = Txt.split text "\n" ∧ textOf ss ts = text ∧ ts.length ≤ text.length + 1 := by
  obtain ⟨h1, h2, h3, h4⟩ := runL_some h gd_nil (.inl (lines_ne text))
  have h3 : linesOf ss ts = Txt.split text "\n" := h3
  refine ⟨h1, h2, h3, ?_, ?_⟩
  · unfold textOf
    rw [h3, lines_join]
  · have := lines_sum text
    simp at h4
    omega
end DL


namespace DL
open PySem PySem.Spec PyProof.Rows L2 K56
def w_isname  : WS := (wRet (wAndV (wIsi ["str"] (wVar 0)) (wAndV (wChain oLe oLe (wC (.int 1)) (wCB (on1 oLen) (wCons (wVar 0) wNil)) (wC (.int 8))) (wCB (on1 oAll) (wCons (wLc (wItS (wVar 0)) (gN 1) wYes (wPers (wBin oIn (wVar 1) (wC (.str "abcdefghijklmnopqrstuvwxyz")))) [1]) wNil)))))
theorem sc_isname : FnScope ["value", "letter"] ["value"] (defScope sIsName) := ⟨rfl, rfl, rfl, by decide +kernel, rfl, by decide +kernel, by decide +kernel⟩
theorem cal_isname {P : Program} {w : World} {K : PySem.W.Frag} {mg : Str → Option Value} {base : Heap} {f : Addr} {fd : FuncData}  (F : FunD K "is_name" "is_name" (defArgs sIsName) (defBody sIsName) (defScope sIsName) [] [] f fd) (gf : mg "is_name" = some (.ref f)) (g_all : mg "all" = none) (g_isinstance : mg "isinstance" = none) (g_len : mg "len" = none) (g_str : mg "str" = none)  (h_LETTERS : ∃ u, mg "LETTERS" = some u ∧ RelV (.str "abcdefghijklmnopqrstuvwxyz") u)
    (vc : ∀ avs Q XP, spIsName avs Q XP → w_isname (bodyN avs Q XP) (stOf 2 avs)) (len : ∀ avs Q XP, spIsName avs Q XP → avs.length = 1) : DCal P w K mg base "is_name" 1 spIsName := by
  have nd := sc_isname.nd
  refine ⟨f, fd, ["value"], gf, F.kp, F.bindsN fun kV doc pm an cdv ct us hl => ?_, fn_data F sc_isname w_isname (by decide) len (fun cdv A outer s H E hr noG => ?_) vc⟩
  · match us, hl with
    | [_], _ => rfl
  have hu : (A.deeper (envOfC "is_name" (defScope sIsName) s.heap.objs.size f cdv)).units + 1 < cLine := by have := hr.un; omega
  have hu64 : (A.deeper (envOfC "is_name" (defScope sIsName) s.heap.objs.size f cdv)).units + 64 < cLine := by have := hr.un; omega
  exact (ds_one (ds_ret (de_and (de_isi "str" g_isinstance (de_var 0) (by decide) g_str (by decide +kernel)) (de_and (de_chain op_le ok_le op_le ok_le de_int (de_callB call_lenX ok_len g_len PySem.boot_len (da_cons (de_var 0) da_nil)) de_int) (de_one (de_callB (cr_all rfl) ok_all g_all (by decide +kernel) (da_cons (de_lc rfl nd (di_str (de_var 0)) (own := [("letter", 1)]) (blkOk_by (N := ["value", "letter"]) (sc := defScope sIsName) (by decide +kernel)) (by decide) (fun _ _ _ _ _ => (pg_name (i := 1) nd rfl (by first | exact Or.inl rfl | exact Or.inr rfl))) (gok_name (i := 1)) (fun _ _ _ _ _ => dts_nil) (fun _ _ _ _ _ => (de_pers (de_cmp (op_inX hu64) ok_in (de_var 1) (de_gs h_LETTERS) (by rfl))))) da_nil)))))))
end DL


namespace DL
open PySem PySem.Spec PyProof.Rows L2 K56
def w_isplace  : WS := (wRet (wAndV (wIsi ["str"] (wVar 0)) (wBin oIn (wVar 0) (wVar 1))))
theorem sc_isplace : FnScope ["value", "names"] ["value", "names"] (defScope sIsPlace) := ⟨rfl, rfl, rfl, by decide +kernel, rfl, by decide +kernel, by decide +kernel⟩
theorem cal_isplace {P : Program} {w : World} {K : PySem.W.Frag} {mg : Str → Option Value} {base : Heap} {f : Addr} {fd : FuncData}  (F : FunD K "is_place" "is_place" (defArgs sIsPlace) (defBody sIsPlace) (defScope sIsPlace) [] [] f fd) (gf : mg "is_place" = some (.ref f)) (g_isinstance : mg "isinstance" = none) (g_str : mg "str" = none)  
    (vc : ∀ avs Q XP, spIsPlace avs Q XP → w_isplace (bodyN avs Q XP) (stOf 2 avs)) (len : ∀ avs Q XP, spIsPlace avs Q XP → avs.length = 2) : DCal P w K mg base "is_place" 1 spIsPlace := by
  have nd := sc_isplace.nd
  refine ⟨f, fd, ["value", "names"], gf, F.kp, F.bindsN fun kV doc pm an cdv ct us hl => ?_, fn_data F sc_isplace w_isplace (by decide) len (fun cdv A outer s H E hr noG => ?_) vc⟩
  · match us, hl with
    | [_, _], _ => rfl
  have hu : (A.deeper (envOfC "is_place" (defScope sIsPlace) s.heap.objs.size f cdv)).units + 1 < cLine := by have := hr.un; omega
  have hu64 : (A.deeper (envOfC "is_place" (defScope sIsPlace) s.heap.objs.size f cdv)).units + 64 < cLine := by have := hr.un; omega
  exact (ds_one (ds_ret (de_and (de_isi "str" g_isinstance (de_var 0) (by decide) g_str (by decide +kernel)) (de_one (de_cmp (op_inX hu64) ok_in (de_var 0) (de_var 1) (by rfl))))))
end DL


namespace DL
open PySem PySem.Spec PyProof.Rows L2 K56
def w_ispair  : WS := (wSeq (wIfS (wOr (wNot (wTest (wIsi ["tuple"] (wVar 0)))) (wTest (wBin oNe (wCB (on1 oLen) (wCons (wVar 0) wNil)) (wC (.int 2))))) (wRet (wC (.bl false))) wNext)
  (wRet (wAndV (wCall [.d, .d] spIsPlace (wCons (wPers (wBin oIx (wVar 0) (wC (.int 0)))) (wCons (wPers (wVar 1)) wNil))) (wAndV (wCall [.d, .d] spIsPlace (wCons (wPers (wBin oIx (wVar 0) (wC (.int 1)))) (wCons (wPers (wVar 1)) wNil))) (wBin oNe (wBin oIx (wVar 0) (wC (.int 0))) (wBin oIx (wVar 0) (wC (.int 1))))))))
theorem sc_ispair : FnScope ["value", "names"] ["value", "names"] (defScope sIsPair) := ⟨rfl, rfl, rfl, by decide +kernel, rfl, by decide +kernel, by decide +kernel⟩
theorem cal_ispair {P : Program} {w : World} {K : PySem.W.Frag} {mg : Str → Option Value} {base : Heap} {f : Addr} {fd : FuncData}  (F : FunD K "is_pair" "is_pair" (defArgs sIsPair) (defBody sIsPair) (defScope sIsPair) [] [] f fd) (gf : mg "is_pair" = some (.ref f)) (g_isinstance : mg "isinstance" = none) (g_len : mg "len" = none) (g_tuple : mg "tuple" = none) (c_is_place : DCal P w K mg base "is_place" 1 spIsPlace) 
    (vc : ∀ avs Q XP, spIsPair avs Q XP → w_ispair (bodyN avs Q XP) (stOf 2 avs)) (len : ∀ avs Q XP, spIsPair avs Q XP → avs.length = 2) : DCal P w K mg base "is_pair" 2 spIsPair := by
  have nd := sc_ispair.nd
  refine ⟨f, fd, ["value", "names"], gf, F.kp, F.bindsN fun kV doc pm an cdv ct us hl => ?_, fn_data F sc_ispair w_ispair (by decide) len (fun cdv A outer s H E hr noG => ?_) vc⟩
  · match us, hl with
    | [_, _], _ => rfl
  have hu : (A.deeper (envOfC "is_pair" (defScope sIsPair) s.heap.objs.size f cdv)).units + 1 < cLine := by have := hr.un; omega
  have hu64 : (A.deeper (envOfC "is_pair" (defScope sIsPair) s.heap.objs.size f cdv)).units + 64 < cLine := by have := hr.un; omega
  exact (ds_cons (ds_if (dt_bool (dw_or (dt_not (dt_val (de_isi "tuple" g_isinstance (de_var 0) (by decide) g_tuple (by decide +kernel)))) (dw_or1 (dt_cmp (op_dne hu64) ok_ne (de_callB call_lenX ok_len g_len PySem.boot_len (da_cons (de_var 0) da_nil)) de_int (by rfl))))) (ds_one (ds_ret de_bl)) ds_nil)
    (ds_one (ds_ret (de_and (de_def [.d, .d] takes0 c_is_place (hr.mono (by decide)) noG (da_cons (de_pers (de_ix hu (de_var 0) de_int)) (da_cons (de_pers (de_var 1)) da_nil))) (de_and (de_def [.d, .d] takes0 c_is_place (hr.mono (by decide)) noG (da_cons (de_pers (de_ix hu (de_var 0) de_int)) (da_cons (de_pers (de_var 1)) da_nil))) (de_one (de_cmp (op_dne hu64) ok_ne (de_ix hu (de_var 0) de_int) (de_ix hu (de_var 0) de_int) (by rfl))))))))
end DL


namespace DL
open PySem PySem.Spec PyProof.Rows L2 K56
def w_webtext (CW : Addr) : WS := (wRet (wM1 oJoin (wC (.str "\n")) (wLst (wStar (wLc (wItA (wFld CW "spots" (wVar 0))) (gN 1) wYes (wPers (wBin oAdd (wC (.str "place ")) (wVar 1))) [1]) (wStar (wLc (wItA (wFld CW "lines" (wVar 0))) (gT [(gN 2), (gN 3)]) wYes (wPers (wJs [(wC (.str "tie ")), (wFmt (wVar 2)), (wC (.str " ")), (wFmt (wVar 3))])) [2, 3]) wNil)))))
theorem sc_webtext : FnScope ["web", "place", "one", "other"] ["web"] (defScope sWebText) := ⟨rfl, rfl, rfl, by decide +kernel, rfl, by decide +kernel, by decide +kernel⟩
theorem cal_webtext {P : Program} {w : World} {K : PySem.W.Frag} {mg : Str → Option Value} {base : Heap} {f : Addr} {fd : FuncData} {CW : Addr} (F : FunD K "web_text" "web_text" (defArgs sWebText) (defBody sWebText) (defScope sWebText) [] [] f fd) (gf : mg "web_text" = some (.ref f))   (p_ties : PrD P w K mg base CW "ties" "lines" 1) (p_places : PrD P w K mg base CW "places" "spots" 1)
    (vc : ∀ avs Q XP, (spWebText CW) avs Q XP → (w_webtext CW) (bodyN avs Q XP) (stOf 4 avs)) (len : ∀ avs Q XP, (spWebText CW) avs Q XP → avs.length = 1) : DCal P w K mg base "web_text" 3 (spWebText CW) := by
  have nd := sc_webtext.nd
  refine ⟨f, fd, ["web"], gf, F.kp, F.bindsN fun kV doc pm an cdv ct us hl => ?_, fn_data F sc_webtext (w_webtext CW) (by decide) len (fun cdv A outer s H E hr noG => ?_) vc⟩
  · match us, hl with
    | [_], _ => rfl
  have hu : (A.deeper (envOfC "web_text" (defScope sWebText) s.heap.objs.size f cdv)).units + 1 < cLine := by have := hr.un; omega
  have hu64 : (A.deeper (envOfC "web_text" (defScope sWebText) s.heap.objs.size f cdv)).units + 64 < cLine := by have := hr.un; omega
  exact (ds_one (ds_ret (de_join de_str (de_lst (da_star (de_lc rfl nd (di_any (de_propD p_places (hr.mono (by decide)) (de_var 0))) (own := [("place", 1)]) (blkOk_by (N := ["web", "place", "one", "other"]) (sc := defScope sWebText) (by decide +kernel)) (by decide) (fun _ _ _ _ _ => (pg_name (i := 1) nd rfl (by first | exact Or.inl rfl | exact Or.inr rfl))) (gok_name (i := 1)) (fun _ _ _ _ _ => dts_nil) (fun _ _ _ _ _ => (de_pers (de_op op_addX ok_add de_str (de_var 1))))) (da_star (de_lc rfl nd (di_any (de_propD p_ties (hr.mono (by decide)) (de_var 0))) (own := [("one", 2), ("other", 3)]) (blkOk_by (N := ["web", "place", "one", "other"]) (sc := defScope sWebText) (by decide +kernel)) (by decide) (fun _ _ _ _ _ => (pg_tup rfl (pgs_cons (pg_name (i := 2) nd rfl (by first | exact Or.inl rfl | exact Or.inr rfl)) (pgs_cons (pg_name (i := 3) nd rfl (by first | exact Or.inl rfl | exact Or.inr rfl)) pgs_nil)))) (gok_tup (gsok_cons (gok_name (i := 2)) (gsok_cons (gok_name (i := 3)) gsok_nil))) (fun _ _ _ _ _ => dts_nil) (fun _ _ _ _ _ => (de_pers (de_joined (.cons de_str (.cons (de_fmt (de_var 2)) (.cons de_str (.cons (de_fmt (de_var 3)) DJ.nil)))))))) da_nil))))))
end DL


namespace DL
open PySem PySem.Spec PyProof.Rows L2 K56
def w_readline (CW : Addr) (cBP : Addr) (cBI : Addr) : WS := (wSeq (wAsg 3 (wM1 oSplit (wVar 2) (wC (.str " "))))
  (wSeq (wIfS (wAnd (wTest (wBin oEq (wBin oIx (wVar 3) (wC (.int 0))) (wC (.str "place")))) (wAnd (wTest (wBin oEq (wCB (on1 oLen) (wCons (wVar 3) wNil)) (wC (.int 2)))) (wTest (wBin oEq (wVar 1) (wLst wNil))))) (wDrop (wMut "list" 0 mAppend (wCons (wPers (wBin oIx (wVar 3) (wC (.int 1)))) wNil))) (wIfS (wAnd (wTest (wBin oEq (wBin oIx (wVar 3) (wC (.int 0))) (wC (.str "tie")))) (wAnd (wTest (wBin oEq (wCB (on1 oLen) (wCons (wVar 3) wNil)) (wC (.int 3)))) (wTest (wBin oNe (wVar 0) (wLst wNil))))) (wDrop (wMut "list" 1 mAppend (wCons (wPers (wTup (wCons (wPers (wBin oIx (wVar 3) (wC (.int 1)))) (wCons (wPers (wBin oIx (wVar 3) (wC (.int 2)))) wNil)))) wNil))) (wRet (wC (.bl false)))))
  (wSeq (wTry (wDrop (wCall [.b, .b] (spWeb CW cBP cBI) (wCons (wVar 0) (wCons (wVar 1) wNil)))) [(hdP [cBP, cBI] (wRet (wC (.bl false))))])
  (wRet (wC (.bl true))))))
theorem sc_readline : FnScope ["places", "ties", "line", "words"] ["places", "ties", "line"] (defScope sReadLine) := ⟨rfl, rfl, rfl, by decide +kernel, rfl, by decide +kernel, by decide +kernel⟩
theorem cal_readline {P : Program} {w : World} {K : PySem.W.Frag} {mg : Str → Option Value} {base : Heap} {f : Addr} {fd : FuncData} {CW : Addr} {cBP : Addr} {cBI : Addr} (F : FunD K "read_line" "read_line" (defArgs sReadLine) (defBody sReadLine) (defScope sReadLine) [] [] f fd) (gf : mg "read_line" = some (.ref f)) (g_len : mg "len" = none)  (m_Web : MCal P w K mg base "Web" 3 (spWeb CW cBP cBI)) (at_BadPlaces : mg "BadPlaces" = some (.ref cBP)) (any_BadPlaces : PySem.W.exmAny K (.ref cBP) [.ref cBP, .ref cBI] = some true) (at_BadTie : mg "BadTie" = some (.ref cBI)) (any_BadTie : PySem.W.exmAny K (.ref cBI) [.ref cBP, .ref cBI] = some true)
    (vc : ∀ avs Q XP, spReadLine avs Q XP → (w_readline CW cBP cBI) (bodyN avs Q XP) (stOf 4 avs)) (len : ∀ avs Q XP, spReadLine avs Q XP → avs.length = 3) : DCal P w K mg base "read_line" 5 spReadLine := by
  have nd := sc_readline.nd
  refine ⟨f, fd, ["places", "ties", "line"], gf, F.kp, F.bindsN fun kV doc pm an cdv ct us hl => ?_, fn_data F sc_readline (w_readline CW cBP cBI) (by decide) len (fun cdv A outer s H E hr noG => ?_) vc⟩
  · match us, hl with
    | [_, _, _], _ => rfl
  have hu : (A.deeper (envOfC "read_line" (defScope sReadLine) s.heap.objs.size f cdv)).units + 1 < cLine := by have := hr.un; omega
  have hu64 : (A.deeper (envOfC "read_line" (defScope sReadLine) s.heap.objs.size f cdv)).units + 64 < cLine := by have := hr.un; omega
  exact (ds_cons (ds_set 3 nd (de_split (de_var 2) de_str))
    (ds_cons (ds_if (dt_bool (dw_and (dt_cmp (op_deq hu64) ok_eq (de_ix hu (de_var 3) de_int) de_str (by rfl)) (dw_and (dt_cmp (op_deq hu64) ok_eq (de_callB call_lenX ok_len g_len PySem.boot_len (da_cons (de_var 3) da_nil)) de_int (by rfl)) (dw_and1 (dt_cmp (op_deq hu64) ok_eq (de_var 1) (de_lst da_nil) (by rfl)))))) (ds_one (ds_expr (de_append 0 (de_ix hu (de_var 3) de_int)))) (ds_one (ds_if (dt_bool (dw_and (dt_cmp (op_deq hu64) ok_eq (de_ix hu (de_var 3) de_int) de_str (by rfl)) (dw_and (dt_cmp (op_deq hu64) ok_eq (de_callB call_lenX ok_len g_len PySem.boot_len (da_cons (de_var 3) da_nil)) de_int (by rfl)) (dw_and1 (dt_cmp (op_dne hu64) ok_ne (de_var 0) (de_lst da_nil) (by rfl)))))) (ds_one (ds_expr (de_append 1 (de_tup (da_cons (de_pers (de_ix hu (de_var 3) de_int)) (da_cons (de_pers (de_ix hu (de_var 3) de_int)) da_nil)))))) (ds_one (ds_ret de_bl)))))
    (ds_cons (ds_try rfl rfl nd takes0 (fun W pn xe takes1 po => (ds_one (ds_expr (de_make [.b, .b] takes1 m_Web (hr.mono (by decide)) noG (da_cons (de_var 0) (da_cons (de_var 1) da_nil)))))) (.cons (.two ⟨rfl, by decide, Or.inl at_BadPlaces⟩ ⟨rfl, by decide, Or.inl at_BadTie⟩) .no (fun a oe cls d pn hz hf => (show DSs _ W0 _ (wRet (wC (.bl false))) from (ds_one (ds_ret de_bl))).pss) .nil) (.cons (hdP_ok2 any_BadPlaces any_BadTie) .nil))
    (ds_one (ds_ret de_bl)))))
end DL


namespace DL
open PySem PySem.Spec PyProof.Rows L2 K56
def w_readweb_l1 (CW : Addr) (cBP : Addr) (cBI : Addr) (cTX : Addr) : WS := (wIfS (wNot (wTest (wCall [.m, .m, .d] spReadLine (wCons (wVar 1) (wCons (wVar 2) (wCons (wPers (wVar 4)) wNil)))))) (wRaise cTX "line" (wBin oAdd (wVar 3) (wC (.int 1)))) wNext)
def w_readweb (CW : Addr) (cBP : Addr) (cBI : Addr) (cTX : Addr) : WS := (wSeq (wIfS (wNot (wTest (wIsi ["str"] (wVar 0)))) (wRaise cTX "line" (wC (.int 1))) wNext)
  (wSeq (wPar 1 2 (wLst wNil) (wLst wNil))
  (wSeq (wFor (wEnA (wPers (wM1 oSplit (wVar 0) (wC (.str "\n"))))) (gT [(gN 3), (gN 4)]) (w_readweb_l1 CW cBP cBI cTX))
  (wRet (wCall [.b, .b] (spWeb CW cBP cBI) (wCons (wVar 1) (wCons (wVar 2) wNil)))))))
theorem sc_readweb : FnScope ["text", "places", "ties", "at", "line"] ["text"] (defScope sReadWeb) := ⟨rfl, rfl, rfl, by decide +kernel, rfl, by decide +kernel, by decide +kernel⟩
theorem cal_readweb {P : Program} {w : World} {K : PySem.W.Frag} {mg : Str → Option Value} {base : Heap} {f : Addr} {fd : FuncData} {CW : Addr} {cBP : Addr} {cBI : Addr} {cTX : Addr} (F : FunD K "read_web" "read_web" (defArgs sReadWeb) (defBody sReadWeb) (defScope sReadWeb) [] [] f fd) (gf : mg "read_web" = some (.ref f)) (g_enumerate : mg "enumerate" = none) (g_isinstance : mg "isinstance" = none) (g_str : mg "str" = none) (c_read_line : DCal P w K mg base "read_line" 5 spReadLine) (m_Web : MCal P w K mg base "Web" 3 (spWeb CW cBP cBI)) (e_BadText : ErrC P w K mg base "BadText" cTX "line")
    (vc : ∀ avs Q XP, (spReadWeb CW cTX) avs Q XP → (w_readweb CW cBP cBI cTX) (bodyN avs Q XP) (stOf 5 avs)) (len : ∀ avs Q XP, (spReadWeb CW cTX) avs Q XP → avs.length = 1) : DCal P w K mg base "read_web" 6 (spReadWeb CW cTX) := by
  have nd := sc_readweb.nd
  refine ⟨f, fd, ["text"], gf, F.kp, F.bindsN fun kV doc pm an cdv ct us hl => ?_, fn_data F sc_readweb (w_readweb CW cBP cBI cTX) (by decide) len (fun cdv A outer s H E hr noG => ?_) vc⟩
  · match us, hl with
    | [_], _ => rfl
  have hu : (A.deeper (envOfC "read_web" (defScope sReadWeb) s.heap.objs.size f cdv)).units + 1 < cLine := by have := hr.un; omega
  have hu64 : (A.deeper (envOfC "read_web" (defScope sReadWeb) s.heap.objs.size f cdv)).units + 64 < cLine := by have := hr.un; omega
  exact (ds_cons (ds_if (dt_not (dt_val (de_isi "str" g_isinstance (de_var 0) (by decide) g_str (by decide +kernel)))) (ds_one (ds_raise takes0 e_BadText (hr.mono (by decide)) de_int)) ds_nil)
    (ds_cons (ds_par 1 2 nd (de_lst da_nil) (de_lst da_nil))
    (ds_cons (ds_for owns0 rfl (di_enumA g_enumerate (de_pers (de_split (de_var 0) de_str))) (pg_tup rfl (pgs_cons (pg_name (i := 3) nd rfl (by first | exact Or.inl rfl | exact Or.inr rfl)) (pgs_cons (pg_name (i := 4) nd rfl (by first | exact Or.inl rfl | exact Or.inr rfl)) pgs_nil))) (gok_tup (gsok_cons (gok_name (i := 3)) (gsok_cons (gok_name (i := 4)) gsok_nil))) (ds_one (ds_if (dt_not (dt_val (de_def [.m, .m, .d] takes0 c_read_line (hr.mono (by decide)) noG (da_cons (de_var 1) (da_cons (de_var 2) (da_cons (de_pers (de_var 4)) da_nil)))))) (ds_one (ds_raise takes0 e_BadText (hr.mono (by decide)) (de_op op_addX ok_add (de_var 3) de_int))) ds_nil)))
    (ds_one (ds_ret (de_make [.b, .b] takes0 m_Web (hr.mono (by decide)) noG (da_cons (de_var 1) (da_cons (de_var 2) da_nil))))))))
end DL


namespace DL
open PySem PySem.Spec PyProof.Rows L2 K56
def w_pick  : WS := (wRet (wBin oIx (wVar 1) (wCall [.m, .d] spDraw (wCons (wVar 0) (wCons (wPers (wCB (on1 oLen) (wCons (wVar 1) wNil))) wNil)))))
theorem sc_pick : FnScope ["source", "things"] ["source", "things"] (defScope sPick) := ⟨rfl, rfl, rfl, by decide +kernel, rfl, by decide +kernel, by decide +kernel⟩
theorem cal_pick {P : Program} {w : World} {K : PySem.W.Frag} {mg : Str → Option Value} {base : Heap} {f : Addr} {fd : FuncData}  (F : FunD K "_law_pick" "_law_pick" (defArgs sPick) (defBody sPick) (defScope sPick) [] [] f fd) (gf : mg "_law_pick" = some (.ref f)) (g_len : mg "len" = none) (c__law_draw : DCal P w K mg base "_law_draw" 2 spDraw) 
    (vc : ∀ avs Q XP, spPick avs Q XP → w_pick (bodyN avs Q XP) (stOf 2 avs)) (len : ∀ avs Q XP, spPick avs Q XP → avs.length = 2) : DCal P w K mg base "_law_pick" 3 spPick := by
  have nd := sc_pick.nd
  refine ⟨f, fd, ["source", "things"], gf, F.kp, F.bindsN fun kV doc pm an cdv ct us hl => ?_, fn_data F sc_pick w_pick (by decide) len (fun cdv A outer s H E hr noG => ?_) vc⟩
  · match us, hl with
    | [_, _], _ => rfl
  have hu : (A.deeper (envOfC "_law_pick" (defScope sPick) s.heap.objs.size f cdv)).units + 1 < cLine := by have := hr.un; omega
  have hu64 : (A.deeper (envOfC "_law_pick" (defScope sPick) s.heap.objs.size f cdv)).units + 64 < cLine := by have := hr.un; omega
  exact (ds_one (ds_ret (de_ix hu (de_var 1) (de_def [.m, .d] takes0 c__law_draw (hr.mono (by decide)) noG (da_cons (de_var 0) (da_cons (de_pers (de_callB call_lenX ok_len g_len PySem.boot_len (da_cons (de_var 1) da_nil))) da_nil))))))
end DL


namespace DL
open PySem PySem.Spec PyProof.Rows L2 K56
def w_mixed_l1  : WS := (wDrop (wMut "list" 3 mAppend (wCons (wPers (wMut "list" 2 mPopAt (wCons (wPers (wCall [.m, .d] spDraw (wCons (wVar 0) (wCons (wPers (wCB (on1 oLen) (wCons (wVar 2) wNil))) wNil)))) wNil))) wNil)))
def w_mixed  : WS := (wSeq (wPar 2 3 (wCB (on1 oList) (wCons (wVar 1) wNil)) (wLst wNil))
  (wSeq (wWhile (wTest (wBin oNe (wVar 2) (wLst wNil))) w_mixed_l1)
  (wRet (wVar 3))))
theorem sc_mixed : FnScope ["source", "things", "lot", "found"] ["source", "things"] (defScope sMixed) := ⟨rfl, rfl, rfl, by decide +kernel, rfl, by decide +kernel, by decide +kernel⟩
theorem cal_mixed {P : Program} {w : World} {K : PySem.W.Frag} {mg : Str → Option Value} {base : Heap} {f : Addr} {fd : FuncData}  (F : FunD K "_law_mixed" "_law_mixed" (defArgs sMixed) (defBody sMixed) (defScope sMixed) [] [] f fd) (gf : mg "_law_mixed" = some (.ref f)) (g_len : mg "len" = none) (g_list : mg "list" = none) (c__law_draw : DCal P w K mg base "_law_draw" 2 spDraw) 
    (vc : ∀ avs Q XP, spMixed avs Q XP → w_mixed (bodyN avs Q XP) (stOf 4 avs)) (len : ∀ avs Q XP, spMixed avs Q XP → avs.length = 2) : DCal P w K mg base "_law_mixed" 3 spMixed := by
  have nd := sc_mixed.nd
  refine ⟨f, fd, ["source", "things"], gf, F.kp, F.bindsN fun kV doc pm an cdv ct us hl => ?_, fn_data F sc_mixed w_mixed (by decide) len (fun cdv A outer s H E hr noG => ?_) vc⟩
  · match us, hl with
    | [_, _], _ => rfl
  have hu : (A.deeper (envOfC "_law_mixed" (defScope sMixed) s.heap.objs.size f cdv)).units + 1 < cLine := by have := hr.un; omega
  have hu64 : (A.deeper (envOfC "_law_mixed" (defScope sMixed) s.heap.objs.size f cdv)).units + 64 < cLine := by have := hr.un; omega
  exact (ds_cons (ds_par 2 3 nd (de_callT call_list_of ok_list g_list PyProof.Rows.boot_list (da_cons (de_var 1) da_nil)) (de_lst da_nil))
    (ds_cons (ds_while owns0 (dt_cmp (op_dne hu64) ok_ne (de_var 2) (de_lst da_nil) (by rfl)) (ds_one (ds_expr (de_append 3 (de_popAt 2 (de_def [.m, .d] takes0 c__law_draw (hr.mono (by decide)) noG (da_cons (de_var 0) (da_cons (de_pers (de_callB call_lenX ok_len g_len PySem.boot_len (da_cons (de_var 2) da_nil))) da_nil))))))))
    (ds_one (ds_ret (de_var 3)))))
end DL


namespace DL
open PySem PySem.Spec PyProof.Rows L2 K56
def w_word_l1  : WS := (wAsg 1 (wBin oAdd (wVar 1) (wCall [.m, .b] spPick (wCons (wVar 0) (wCons (wC (.str "abcdefghijklmnopqrstuvwxyz")) wNil)))))
def w_word  : WS := (wSeq (wAsg 1 (wC (.str "")))
  (wSeq (wFor (wItR1 (wCons (wBin oAdd (wC (.int 1)) (wCall [.m, .d] spDraw (wCons (wVar 0) (wCons (wPers (wC (.int 8))) wNil)))) wNil)) (gN 2) w_word_l1)
  (wRet (wVar 1))))
theorem sc_word : FnScope ["source", "word", "turn"] ["source"] (defScope sWord) := ⟨rfl, rfl, rfl, by decide +kernel, rfl, by decide +kernel, by decide +kernel⟩
theorem cal_word {P : Program} {w : World} {K : PySem.W.Frag} {mg : Str → Option Value} {base : Heap} {f : Addr} {fd : FuncData}  (F : FunD K "_law_word" "_law_word" (defArgs sWord) (defBody sWord) (defScope sWord) [] [] f fd) (gf : mg "_law_word" = some (.ref f)) (g_range : mg "range" = none) (c__law_draw : DCal P w K mg base "_law_draw" 2 spDraw) (c__law_pick : DCal P w K mg base "_law_pick" 3 spPick) 
    (vc : ∀ avs Q XP, spWord avs Q XP → w_word (bodyN avs Q XP) (stOf 3 avs)) (len : ∀ avs Q XP, spWord avs Q XP → avs.length = 1) : DCal P w K mg base "_law_word" 4 spWord := by
  have nd := sc_word.nd
  refine ⟨f, fd, ["source"], gf, F.kp, F.bindsN fun kV doc pm an cdv ct us hl => ?_, fn_data F sc_word w_word (by decide) len (fun cdv A outer s H E hr noG => ?_) vc⟩
  · match us, hl with
    | [_], _ => rfl
  have hu : (A.deeper (envOfC "_law_word" (defScope sWord) s.heap.objs.size f cdv)).units + 1 < cLine := by have := hr.un; omega
  have hu64 : (A.deeper (envOfC "_law_word" (defScope sWord) s.heap.objs.size f cdv)).units + 64 < cLine := by have := hr.un; omega
  exact (ds_cons (ds_set 1 nd de_str)
    (ds_cons (ds_for owns0 rfl (di_range1 g_range (da_cons (de_op op_addX ok_add de_int (de_def [.m, .d] takes0 c__law_draw (hr.mono (by decide)) noG (da_cons (de_var 0) (da_cons (de_pers de_int) da_nil)))) da_nil)) (pg_name (i := 2) nd rfl (by first | exact Or.inl rfl | exact Or.inr rfl)) (gok_name (i := 2)) (ds_one (ds_set 1 nd (de_op op_addX ok_add (de_var 1) (de_def [.m, .b] takes0 c__law_pick (hr.mono (by decide)) noG (da_cons (de_var 0) (da_cons de_str da_nil)))))))
    (ds_one (ds_ret (de_var 1)))))
end DL


namespace DL
open PySem PySem.Spec PyProof.Rows L2 K56
def w_names  : WS := (wSeq (wAsg 2 (wLst (wCons (wPers (wC (.str "a"))) (wCons (wPers (wC (.str "b"))) (wCons (wPers (wC (.str "c"))) (wCons (wPers (wC (.str "d"))) (wCons (wPers (wC (.str "e"))) (wCons (wPers (wC (.str "f"))) (wCons (wPers (wC (.str "g"))) (wCons (wPers (wC (.str "h"))) (wCons (wPers (wC (.str "i"))) (wCons (wPers (wC (.str "place"))) (wCons (wPers (wC (.str "tie"))) (wCons (wPers (wC (.str "none"))) (wCons (wPers (wC (.str "guard"))) (wCons (wPers (wC (.str "abcdefgh"))) wNil))))))))))))))))
  (wSeq (wAsg 2 (wCall [.m, .b] spMixed (wCons (wVar 0) (wCons (wVar 2) wNil))))
  (wSeq (wAsg 3 (wCall [.m] spWord (wCons (wVar 0) wNil)))
  (wSeq (wIfS (wTest (wBin oNin (wVar 3) (wVar 2))) (wSt 2 (wCall [.m, .d] spDraw (wCons (wVar 0) (wCons (wPers (wVar 1)) wNil))) (wPers (wVar 3))) wNext)
  (wRet (wSl (wVar 2) wNoPart (wPart (wVar 1))))))))
theorem sc_names : FnScope ["source", "many", "some", "word"] ["source", "many"] (defScope sNames) := ⟨rfl, rfl, rfl, by decide +kernel, rfl, by decide +kernel, by decide +kernel⟩
theorem cal_names {P : Program} {w : World} {K : PySem.W.Frag} {mg : Str → Option Value} {base : Heap} {f : Addr} {fd : FuncData}  (F : FunD K "_law_names" "_law_names" (defArgs sNames) (defBody sNames) (defScope sNames) [] [] f fd) (gf : mg "_law_names" = some (.ref f))  (c__law_draw : DCal P w K mg base "_law_draw" 2 spDraw) (c__law_mixed : DCal P w K mg base "_law_mixed" 3 spMixed) (c__law_word : DCal P w K mg base "_law_word" 4 spWord) 
    (vc : ∀ avs Q XP, spNames avs Q XP → w_names (bodyN avs Q XP) (stOf 4 avs)) (len : ∀ avs Q XP, spNames avs Q XP → avs.length = 2) : DCal P w K mg base "_law_names" 5 spNames := by
  have nd := sc_names.nd
  refine ⟨f, fd, ["source", "many"], gf, F.kp, F.bindsN fun kV doc pm an cdv ct us hl => ?_, fn_data F sc_names w_names (by decide) len (fun cdv A outer s H E hr noG => ?_) vc⟩
  · match us, hl with
    | [_, _], _ => rfl
  have hu : (A.deeper (envOfC "_law_names" (defScope sNames) s.heap.objs.size f cdv)).units + 1 < cLine := by have := hr.un; omega
  have hu64 : (A.deeper (envOfC "_law_names" (defScope sNames) s.heap.objs.size f cdv)).units + 64 < cLine := by have := hr.un; omega
  exact (ds_cons (ds_set 2 nd (de_lst (da_cons (de_pers de_str) (da_cons (de_pers de_str) (da_cons (de_pers de_str) (da_cons (de_pers de_str) (da_cons (de_pers de_str) (da_cons (de_pers de_str) (da_cons (de_pers de_str) (da_cons (de_pers de_str) (da_cons (de_pers de_str) (da_cons (de_pers de_str) (da_cons (de_pers de_str) (da_cons (de_pers de_str) (da_cons (de_pers de_str) (da_cons (de_pers de_str) da_nil))))))))))))))))
    (ds_cons (ds_set 2 nd (de_def [.m, .b] takes0 c__law_mixed (hr.mono (by decide)) noG (da_cons (de_var 0) (da_cons (de_var 2) da_nil))))
    (ds_cons (ds_set 3 nd (de_def [.m] takes0 c__law_word (hr.mono (by decide)) noG (da_cons (de_var 0) da_nil)))
    (ds_cons (ds_if (dt_cmp (op_ninX hu64) ok_nin (de_var 3) (de_var 2) (by rfl)) (ds_one (ds_st 2 hu (de_def [.m, .d] takes0 c__law_draw (hr.mono (by decide)) noG (da_cons (de_var 0) (da_cons (de_pers (de_var 1)) da_nil))) (de_pers (de_var 3)) (hp := pg_sub (pe_var (i := 2) rfl (Or.inl rfl) (by decide) (by decide)) (DE.pe (de_def [.m, .d] takes0 c__law_draw (hr.mono (by decide)) noG (da_cons (de_var 0) (da_cons (de_pers (de_var 1)) da_nil)))) set_list))) ds_nil)
    (ds_one (ds_ret (de_sl (de_var 2) do_none (do_some (de_var 1)))))))))
end DL


namespace DL
open PySem PySem.Spec PyProof.Rows L2 K56
def w_pairs_l1  : WS := (wIfS (wTest (wBin oIn (wVar 2) (wTup (wCons (wPers (wC (.int 0))) (wCons (wPers (wC (.int 1))) wNil))))) (wAsg 3 (wBin oAdd (wVar 3) (wLc (wItR1 (wCons (wVar 4) wNil)) (gN 5) (wTest (wBin oGt (wCall [.m, .d] spDraw (wCons (wVar 0) (wCons (wPers (wC (.int 3))) wNil))) (wVar 2))) (wPers (wTup (wCons (wPers (wVar 5)) (wCons (wPers (wVar 4)) wNil)))) [5]))) (wIfS (wOr (wTest (wBin oEq (wVar 2) (wC (.int 2)))) (wAnd (wTest (wBin oEq (wVar 2) (wC (.int 3)))) (wTest (wBin oLt (wVar 4) (wC (.int 4)))))) (wSeq (wDrop (wMut "list" 3 mAppend (wCons (wPers (wTup (wCons (wPers (wBin oSub (wVar 4) (wC (.int 1)))) (wCons (wPers (wVar 4)) wNil)))) wNil)))
  (wIfS (wOr (wAnd (wTest (wBin oEq (wVar 4) (wBin oSub (wVar 1) (wC (.int 1))))) (wTest (wBin oGt (wVar 4) (wC (.int 1))))) (wAnd (wTest (wBin oEq (wVar 2) (wC (.int 3)))) (wTest (wBin oEq (wVar 4) (wC (.int 3)))))) (wDrop (wMut "list" 3 mAppend (wCons (wPers (wTup (wCons (wPers (wC (.int 0))) (wCons (wPers (wVar 4)) wNil)))) wNil))) wNext)) (wIfS (wTest (wBin oEq (wVar 2) (wC (.int 4)))) (wDrop (wMut "list" 3 mAppend (wCons (wPers (wTup (wCons (wPers (wCall [.m, .d] spDraw (wCons (wVar 0) (wCons (wPers (wVar 4)) wNil)))) (wCons (wPers (wVar 4)) wNil)))) wNil))) (wSeq (wAsg 5 (wCall [.m, .d] spDraw (wCons (wVar 0) (wCons (wPers (wVar 4)) wNil))))
  (wSeq (wAsg 6 (wLc (wItR1 (wCons (wVar 4) wNil)) (gN 7) (wTest (wBin oIn (wTup (wCons (wPers (wCB (on2 oMin2) (wCons (wVar 7) (wCons (wVar 5) wNil)))) (wCons (wPers (wCB (on2 oMax2) (wCons (wVar 7) (wCons (wVar 5) wNil)))) wNil))) (wVar 3))) (wPers (wVar 7)) [7]))
  (wAsg 3 (wBin oAdd (wBin oAdd (wVar 3) (wLst (wCons (wPers (wTup (wCons (wPers (wVar 5)) (wCons (wPers (wVar 4)) wNil)))) wNil))) (wLc (wItA (wPers (wVar 6))) (gN 7) (wTest (wBin oEq (wCall [.m, .d] spDraw (wCons (wVar 0) (wCons (wPers (wC (.int 2))) wNil))) (wC (.int 0)))) (wPers (wTup (wCons (wPers (wVar 7)) (wCons (wPers (wVar 4)) wNil)))) [7]))))))))
def w_pairs  : WS := (wSeq (wAsg 3 (wLst wNil))
  (wSeq (wFor (wItR2 (wCons (wC (.int 1)) (wCons (wVar 1) wNil))) (gN 4) w_pairs_l1)
  (wRet (wVar 3))))
theorem sc_pairs : FnScope ["source", "many", "kind", "found", "at", "to", "seen", "one"] ["source", "many", "kind"] (defScope sPairs) := ⟨rfl, rfl, rfl, by decide +kernel, rfl, by decide +kernel, by decide +kernel⟩
theorem cal_pairs {P : Program} {w : World} {K : PySem.W.Frag} {mg : Str → Option Value} {base : Heap} {f : Addr} {fd : FuncData}  (F : FunD K "_law_pairs" "_law_pairs" (defArgs sPairs) (defBody sPairs) (defScope sPairs) [] [] f fd) (gf : mg "_law_pairs" = some (.ref f)) (g_max : mg "max" = none) (g_min : mg "min" = none) (g_range : mg "range" = none) (c__law_draw : DCal P w K mg base "_law_draw" 2 spDraw) 
    (vc : ∀ avs Q XP, spPairs avs Q XP → w_pairs (bodyN avs Q XP) (stOf 8 avs)) (len : ∀ avs Q XP, spPairs avs Q XP → avs.length = 3) : DCal P w K mg base "_law_pairs" 3 spPairs := by
  have nd := sc_pairs.nd
  refine ⟨f, fd, ["source", "many", "kind"], gf, F.kp, F.bindsN fun kV doc pm an cdv ct us hl => ?_, fn_data F sc_pairs w_pairs (by decide) len (fun cdv A outer s H E hr noG => ?_) vc⟩
  · match us, hl with
    | [_, _, _], _ => rfl
  have hu : (A.deeper (envOfC "_law_pairs" (defScope sPairs) s.heap.objs.size f cdv)).units + 1 < cLine := by have := hr.un; omega
  have hu64 : (A.deeper (envOfC "_law_pairs" (defScope sPairs) s.heap.objs.size f cdv)).units + 64 < cLine := by have := hr.un; omega
  exact (ds_cons (ds_set 3 nd (de_lst da_nil))
    (ds_cons (ds_for owns0 rfl (di_range2 g_range (da_cons de_int (da_cons (de_var 1) da_nil))) (pg_name (i := 4) nd rfl (by first | exact Or.inl rfl | exact Or.inr rfl)) (gok_name (i := 4)) (ds_one (ds_if (dt_cmp (op_inX hu64) ok_in (de_var 2) (de_tup (da_cons (de_pers de_int) (da_cons (de_pers de_int) da_nil))) (by rfl)) (ds_one (ds_set 3 nd (de_op op_addX ok_add (de_var 3) (de_lc rfl nd (di_range1 g_range (da_cons (de_var 4) da_nil)) (own := [("to", 5)]) (blkOk_by (N := ["source", "many", "kind", "found", "at", "to", "seen", "one"]) (sc := defScope sPairs) (by decide +kernel)) (by decide) (fun _ _ _ _ _ => (pg_name (i := 5) nd rfl (by first | exact Or.inl rfl | exact Or.inr rfl))) (gok_name (i := 5)) (fun _ _ _ _ _ => (dts_one (dt_cmp op_gt ok_gt (de_def [.m, .d] takesW0 c__law_draw (hr.mono (by decide)) noG (da_cons (de_var 0) (da_cons (de_pers de_int) da_nil))) (de_var 2) (by rfl)))) (fun _ _ _ _ _ => (de_pers (de_tup (da_cons (de_pers (de_var 5)) (da_cons (de_pers (de_var 4)) da_nil))))))))) (ds_one (ds_if (dt_bool (dw_or (dt_cmp (op_deq hu64) ok_eq (de_var 2) de_int (by rfl)) (dw_or1 (dt_bool (dw_and (dt_cmp (op_deq hu64) ok_eq (de_var 2) de_int (by rfl)) (dw_and1 (dt_cmp op_lt ok_lt (de_var 4) de_int (by rfl)))))))) (ds_cons (ds_expr (de_append 3 (de_tup (da_cons (de_pers (de_op op_sub ok_sub (de_var 4) de_int)) (da_cons (de_pers (de_var 4)) da_nil)))))
    (ds_one (ds_if (dt_bool (dw_or (dt_bool (dw_and (dt_cmp (op_deq hu64) ok_eq (de_var 4) (de_op op_sub ok_sub (de_var 1) de_int) (by rfl)) (dw_and1 (dt_cmp op_gt ok_gt (de_var 4) de_int (by rfl))))) (dw_or1 (dt_bool (dw_and (dt_cmp (op_deq hu64) ok_eq (de_var 2) de_int (by rfl)) (dw_and1 (dt_cmp (op_deq hu64) ok_eq (de_var 4) de_int (by rfl)))))))) (ds_one (ds_expr (de_append 3 (de_tup (da_cons (de_pers de_int) (da_cons (de_pers (de_var 4)) da_nil)))))) ds_nil))) (ds_one (ds_if (dt_cmp (op_deq hu64) ok_eq (de_var 2) de_int (by rfl)) (ds_one (ds_expr (de_append 3 (de_tup (da_cons (de_pers (de_def [.m, .d] takes0 c__law_draw (hr.mono (by decide)) noG (da_cons (de_var 0) (da_cons (de_pers (de_var 4)) da_nil)))) (da_cons (de_pers (de_var 4)) da_nil)))))) (ds_cons (ds_set 5 nd (de_def [.m, .d] takes0 c__law_draw (hr.mono (by decide)) noG (da_cons (de_var 0) (da_cons (de_pers (de_var 4)) da_nil))))
    (ds_cons (ds_setLc 6 rfl nd (di_range1 g_range (da_cons (de_var 4) da_nil)) (own := [("one", 7)]) (blkOk_by (N := ["source", "many", "kind", "found", "at", "to", "seen", "one"]) (sc := defScope sPairs) (by decide +kernel)) (by decide) (fun _ _ _ _ _ => (pg_name (i := 7) nd rfl (by first | exact Or.inl rfl | exact Or.inr rfl))) (gok_name (i := 7)) (fun _ _ _ _ _ => (dts_one (dt_cmp (op_inX hu64) ok_in (de_tup (da_cons (de_pers (de_min2 g_min (da_cons (de_var 7) (da_cons (de_var 5) da_nil)))) (da_cons (de_pers (de_max2 g_max (da_cons (de_var 7) (da_cons (de_var 5) da_nil)))) da_nil))) (de_var 3) (by rfl)))) (fun _ _ _ _ _ => (de_pers (de_var 7))))
    (ds_one (ds_set 3 nd (de_op op_addX ok_add (de_op op_addX ok_add (de_var 3) (de_lst (da_cons (de_pers (de_tup (da_cons (de_pers (de_var 5)) (da_cons (de_pers (de_var 4)) da_nil)))) da_nil))) (de_lc rfl nd (di_any (de_pers (de_var 6))) (own := [("one", 7)]) (blkOk_by (N := ["source", "many", "kind", "found", "at", "to", "seen", "one"]) (sc := defScope sPairs) (by decide +kernel)) (by decide) (fun _ _ _ _ _ => (pg_name (i := 7) nd rfl (by first | exact Or.inl rfl | exact Or.inr rfl))) (gok_name (i := 7)) (fun _ _ _ _ _ => (dts_one (dt_cmp (op_deq hu64) ok_eq (de_def [.m, .d] takesW0 c__law_draw (hr.mono (by decide)) noG (da_cons (de_var 0) (da_cons (de_pers de_int) da_nil))) de_int (by rfl)))) (fun _ _ _ _ _ => (de_pers (de_tup (da_cons (de_pers (de_var 7)) (da_cons (de_pers (de_var 4)) da_nil))))))))))))))))))
    (ds_one (ds_ret (de_var 3)))))
end DL


namespace DL
open PySem PySem.Spec PyProof.Rows L2 K56
def w_plan_l1  : WS := (wDrop (wMut "list" 4 mAppend (wCons (wPers (wIf (wTest (wBin oEq (wCall [.m, .d] spDraw (wCons (wVar 0) (wCons (wPers (wC (.int 2))) wNil))) (wC (.int 0)))) (wTup (wCons (wPers (wBin oIx (wVar 3) (wVar 5))) (wCons (wPers (wBin oIx (wVar 3) (wVar 6))) wNil))) (wTup (wCons (wPers (wBin oIx (wVar 3) (wVar 6))) (wCons (wPers (wBin oIx (wVar 3) (wVar 5))) wNil))))) wNil)))
def w_plan  : WS := (wSeq (wAsg 2 (wBin oAdd (wC (.int 1)) (wCall [.m, .d] spDraw (wCons (wVar 0) (wCons (wPers (wVar 1)) wNil)))))
  (wSeq (wPar 3 4 (wCall [.m, .d] spNames (wCons (wVar 0) (wCons (wPers (wVar 2)) wNil))) (wLst wNil))
  (wSeq (wFor (wItA (wPers (wCall [.m, .d, .d] spPairs (wCons (wVar 0) (wCons (wPers (wVar 2)) (wCons (wPers (wCall [.m, .d] spDraw (wCons (wVar 0) (wCons (wPers (wC (.int 7))) wNil)))) wNil)))))) (gT [(gN 5), (gN 6)]) w_plan_l1)
  (wRet (wTup (wCons (wPers (wCB (on1 oTuple) (wCons (wCall [.m, .b] spMixed (wCons (wVar 0) (wCons (wVar 3) wNil))) wNil))) (wCons (wPers (wCB (on1 oTuple) (wCons (wCall [.m, .b] spMixed (wCons (wVar 0) (wCons (wVar 4) wNil))) wNil))) wNil)))))))
theorem sc_plan : FnScope ["source", "most", "many", "names", "ties", "at", "to"] ["source", "most"] (defScope sPlan) := ⟨rfl, rfl, rfl, by decide +kernel, rfl, by decide +kernel, by decide +kernel⟩
theorem cal_plan {P : Program} {w : World} {K : PySem.W.Frag} {mg : Str → Option Value} {base : Heap} {f : Addr} {fd : FuncData}  (F : FunD K "_law_plan" "_law_plan" (defArgs sPlan) (defBody sPlan) (defScope sPlan) [] [] f fd) (gf : mg "_law_plan" = some (.ref f)) (g_tuple : mg "tuple" = none) (c__law_draw : DCal P w K mg base "_law_draw" 2 spDraw) (c__law_mixed : DCal P w K mg base "_law_mixed" 3 spMixed) (c__law_names : DCal P w K mg base "_law_names" 5 spNames) (c__law_pairs : DCal P w K mg base "_law_pairs" 3 spPairs) 
    (vc : ∀ avs Q XP, spPlan avs Q XP → w_plan (bodyN avs Q XP) (stOf 7 avs)) (len : ∀ avs Q XP, spPlan avs Q XP → avs.length = 2) : DCal P w K mg base "_law_plan" 6 spPlan := by
  have nd := sc_plan.nd
  refine ⟨f, fd, ["source", "most"], gf, F.kp, F.bindsN fun kV doc pm an cdv ct us hl => ?_, fn_data F sc_plan w_plan (by decide) len (fun cdv A outer s H E hr noG => ?_) vc⟩
  · match us, hl with
    | [_, _], _ => rfl
  have hu : (A.deeper (envOfC "_law_plan" (defScope sPlan) s.heap.objs.size f cdv)).units + 1 < cLine := by have := hr.un; omega
  have hu64 : (A.deeper (envOfC "_law_plan" (defScope sPlan) s.heap.objs.size f cdv)).units + 64 < cLine := by have := hr.un; omega
  exact (ds_cons (ds_set 2 nd (de_op op_addX ok_add de_int (de_def [.m, .d] takes0 c__law_draw (hr.mono (by decide)) noG (da_cons (de_var 0) (da_cons (de_pers (de_var 1)) da_nil)))))
    (ds_cons (ds_par 3 4 nd (de_def [.m, .d] takes0 c__law_names (hr.mono (by decide)) noG (da_cons (de_var 0) (da_cons (de_pers (de_var 2)) da_nil))) (de_lst da_nil))
    (ds_cons (ds_for owns0 rfl (di_any (de_pers (de_def [.m, .d, .d] takes0 c__law_pairs (hr.mono (by decide)) noG (da_cons (de_var 0) (da_cons (de_pers (de_var 2)) (da_cons (de_pers (de_def [.m, .d] takes0 c__law_draw (hr.mono (by decide)) noG (da_cons (de_var 0) (da_cons (de_pers de_int) da_nil)))) da_nil)))))) (pg_tup rfl (pgs_cons (pg_name (i := 5) nd rfl (by first | exact Or.inl rfl | exact Or.inr rfl)) (pgs_cons (pg_name (i := 6) nd rfl (by first | exact Or.inl rfl | exact Or.inr rfl)) pgs_nil))) (gok_tup (gsok_cons (gok_name (i := 5)) (gsok_cons (gok_name (i := 6)) gsok_nil))) (ds_one (ds_expr (de_append 4 (de_if (dt_cmp (op_deq hu64) ok_eq (de_def [.m, .d] takes0 c__law_draw (hr.mono (by decide)) noG (da_cons (de_var 0) (da_cons (de_pers de_int) da_nil))) de_int (by rfl)) (de_tup (da_cons (de_pers (de_ix hu (de_var 3) (de_var 5))) (da_cons (de_pers (de_ix hu (de_var 3) (de_var 6))) da_nil))) (de_tup (da_cons (de_pers (de_ix hu (de_var 3) (de_var 6))) (da_cons (de_pers (de_ix hu (de_var 3) (de_var 5))) da_nil))))))))
    (ds_one (ds_ret (de_tup (da_cons (de_pers (de_callT call_tuple_of ok_tuple g_tuple PyProof.Rows.boot_tuple (da_cons (de_def [.m, .b] takes0 c__law_mixed (hr.mono (by decide)) noG (da_cons (de_var 0) (da_cons (de_var 3) da_nil))) da_nil))) (da_cons (de_pers (de_callT call_tuple_of ok_tuple g_tuple PyProof.Rows.boot_tuple (da_cons (de_def [.m, .b] takes0 c__law_mixed (hr.mono (by decide)) noG (da_cons (de_var 0) (da_cons (de_var 4) da_nil))) da_nil))) da_nil))))))))
end DL


namespace DL
open PySem PySem.Spec PyProof.Rows L2 K56
def w_lweb (CW : Addr) (cBP : Addr) (cBI : Addr) : WS := (wRet (wCall [.b, .b] (spWeb CW cBP cBI) (wCons (wBin oIx (wVar 0) (wC (.int 0))) (wCons (wBin oIx (wVar 0) (wC (.int 1))) wNil))))
theorem sc_lweb : FnScope ["plan"] ["plan"] (defScope sLawWeb) := ⟨rfl, rfl, rfl, by decide +kernel, rfl, by decide +kernel, by decide +kernel⟩
theorem cal_lweb {P : Program} {w : World} {K : PySem.W.Frag} {mg : Str → Option Value} {base : Heap} {f : Addr} {fd : FuncData} {CW : Addr} {cBP : Addr} {cBI : Addr} (F : FunD K "_law_web" "_law_web" (defArgs sLawWeb) (defBody sLawWeb) (defScope sLawWeb) [] [] f fd) (gf : mg "_law_web" = some (.ref f))   (m_Web : MCal P w K mg base "Web" 3 (spWeb CW cBP cBI))
    (vc : ∀ avs Q XP, (spLawWeb CW) avs Q XP → (w_lweb CW cBP cBI) (bodyN avs Q XP) (stOf 1 avs)) (len : ∀ avs Q XP, (spLawWeb CW) avs Q XP → avs.length = 1) : DCal P w K mg base "_law_web" 5 (spLawWeb CW) := by
  have nd := sc_lweb.nd
  refine ⟨f, fd, ["plan"], gf, F.kp, F.bindsN fun kV doc pm an cdv ct us hl => ?_, fn_data F sc_lweb (w_lweb CW cBP cBI) (by decide) len (fun cdv A outer s H E hr noG => ?_) vc⟩
  · match us, hl with
    | [_], _ => rfl
  have hu : (A.deeper (envOfC "_law_web" (defScope sLawWeb) s.heap.objs.size f cdv)).units + 1 < cLine := by have := hr.un; omega
  have hu64 : (A.deeper (envOfC "_law_web" (defScope sLawWeb) s.heap.objs.size f cdv)).units + 64 < cLine := by have := hr.un; omega
  exact (ds_one (ds_ret (de_make [.b, .b] takes0 m_Web (hr.mono (by decide)) noG (da_cons (de_ix hu (de_var 0) de_int) (da_cons (de_ix hu (de_var 0) de_int) da_nil)))))
end DL


namespace DL
open PySem PySem.Spec PyProof.Rows L2 K56
def w_lisname  : WS := (wRet (wAndV (wChain oLe oLe (wC (.int 1)) (wCB (on1 oLen) (wCons (wVar 0) wNil)) (wC (.int 8))) (wBin oEq (wLc (wItS (wVar 0)) (gN 1) (wTest (wBin oNin (wVar 1) (wC (.str "abcdefghijklmnopqrstuvwxyz")))) (wPers (wVar 1)) [1]) (wLst wNil))))
theorem sc_lisname : FnScope ["word", "sign"] ["word"] (defScope sLawIsName) := ⟨rfl, rfl, rfl, by decide +kernel, rfl, by decide +kernel, by decide +kernel⟩
theorem cal_lisname {P : Program} {w : World} {K : PySem.W.Frag} {mg : Str → Option Value} {base : Heap} {f : Addr} {fd : FuncData}  (F : FunD K "_law_is_name" "_law_is_name" (defArgs sLawIsName) (defBody sLawIsName) (defScope sLawIsName) [] [] f fd) (gf : mg "_law_is_name" = some (.ref f)) (g_len : mg "len" = none)  
    (vc : ∀ avs Q XP, spLawIsName avs Q XP → w_lisname (bodyN avs Q XP) (stOf 2 avs)) (len : ∀ avs Q XP, spLawIsName avs Q XP → avs.length = 1) : DCal P w K mg base "_law_is_name" 1 spLawIsName := by
  have nd := sc_lisname.nd
  refine ⟨f, fd, ["word"], gf, F.kp, F.bindsN fun kV doc pm an cdv ct us hl => ?_, fn_data F sc_lisname w_lisname (by decide) len (fun cdv A outer s H E hr noG => ?_) vc⟩
  · match us, hl with
    | [_], _ => rfl
  have hu : (A.deeper (envOfC "_law_is_name" (defScope sLawIsName) s.heap.objs.size f cdv)).units + 1 < cLine := by have := hr.un; omega
  have hu64 : (A.deeper (envOfC "_law_is_name" (defScope sLawIsName) s.heap.objs.size f cdv)).units + 64 < cLine := by have := hr.un; omega
  exact (ds_one (ds_ret (de_and (de_chain op_le ok_le op_le ok_le de_int (de_callB call_lenX ok_len g_len PySem.boot_len (da_cons (de_var 0) da_nil)) de_int) (de_one (de_cmp (op_deq hu64) ok_eq (de_lc rfl nd (di_str (de_var 0)) (own := [("sign", 1)]) (blkOk_by (N := ["word", "sign"]) (sc := defScope sLawIsName) (by decide +kernel)) (by decide) (fun _ _ _ _ _ => (pg_name (i := 1) nd rfl (by first | exact Or.inl rfl | exact Or.inr rfl))) (gok_name (i := 1)) (fun _ _ _ _ _ => (dts_one (dt_cmp (op_ninX hu64) ok_nin (de_var 1) de_str (by rfl)))) (fun _ _ _ _ _ => (de_pers (de_var 1)))) (de_lst da_nil) (by rfl))))))
end DL


namespace DL
open PySem PySem.Spec PyProof.Rows L2 K56
def w_firstbad_l1  : WS := (wSeq (wAsg 5 (wM1 oSplit (wVar 4) (wC (.str " "))))
  (wIfS (wAnd (wTest (wBin oEq (wBin oIx (wVar 5) (wC (.int 0))) (wC (.str "place")))) (wTest (wBin oEq (wCB (on1 oLen) (wCons (wVar 5) wNil)) (wC (.int 2))))) (wSeq (wIfS (wOr (wTest (wBin oNe (wVar 2) (wLst wNil))) (wOr (wTest (wBin oGt (wCB (on1 oLen) (wCons (wVar 1) wNil)) (wC (.int 11)))) (wOr (wTest (wBin oIn (wBin oIx (wVar 5) (wC (.int 1))) (wVar 1))) (wNot (wTest (wCall [.d] spLawIsName (wCons (wPers (wBin oIx (wVar 5) (wC (.int 1)))) wNil))))))) (wRet (wBin oAdd (wVar 3) (wC (.int 1)))) wNext)
  (wDrop (wMut "list" 1 mAppend (wCons (wPers (wBin oIx (wVar 5) (wC (.int 1)))) wNil)))) (wIfS (wAnd (wTest (wBin oEq (wBin oIx (wVar 5) (wC (.int 0))) (wC (.str "tie")))) (wTest (wBin oEq (wCB (on1 oLen) (wCons (wVar 5) wNil)) (wC (.int 3))))) (wSeq (wAsg 6 (wCB (on1 oSorted) (wCons (wSl (wVar 5) (wPart (wC (.int 1))) wNoPart) wNil)))
  (wSeq (wIfS (wOr (wTest (wBin oIn (wVar 6) (wVar 2))) (wOr (wTest (wBin oEq (wBin oIx (wVar 6) (wC (.int 0))) (wBin oIx (wVar 6) (wC (.int 1))))) (wOr (wTest (wBin oNin (wBin oIx (wVar 6) (wC (.int 0))) (wVar 1))) (wTest (wBin oNin (wBin oIx (wVar 6) (wC (.int 1))) (wVar 1)))))) (wRet (wBin oAdd (wVar 3) (wC (.int 1)))) wNext)
  (wDrop (wMut "list" 2 mAppend (wCons (wPers (wVar 6)) wNil))))) (wRet (wBin oAdd (wVar 3) (wC (.int 1)))))))
def w_firstbad  : WS := (wSeq (wPar 1 2 (wLst wNil) (wLst wNil))
  (wSeq (wFor (wEnA (wPers (wM1 oSplit (wVar 0) (wC (.str "\n"))))) (gT [(gN 3), (gN 4)]) w_firstbad_l1)
  (wRet (wC (.int 0)))))
theorem sc_firstbad : FnScope ["text", "places", "ties", "at", "line", "words", "pair"] ["text"] (defScope sFirstBad) := ⟨rfl, rfl, rfl, by decide +kernel, rfl, by decide +kernel, by decide +kernel⟩
theorem cal_firstbad {P : Program} {w : World} {K : PySem.W.Frag} {mg : Str → Option Value} {base : Heap} {f : Addr} {fd : FuncData}  (F : FunD K "_law_first_bad" "_law_first_bad" (defArgs sFirstBad) (defBody sFirstBad) (defScope sFirstBad) [] [] f fd) (gf : mg "_law_first_bad" = some (.ref f)) (g_enumerate : mg "enumerate" = none) (g_len : mg "len" = none) (g_sorted : mg "sorted" = none) (c__law_is_name : DCal P w K mg base "_law_is_name" 1 spLawIsName) 
    (vc : ∀ avs Q XP, spFirstBad avs Q XP → w_firstbad (bodyN avs Q XP) (stOf 7 avs)) (len : ∀ avs Q XP, spFirstBad avs Q XP → avs.length = 1) : DCal P w K mg base "_law_first_bad" 2 spFirstBad := by
  have nd := sc_firstbad.nd
  refine ⟨f, fd, ["text"], gf, F.kp, F.bindsN fun kV doc pm an cdv ct us hl => ?_, fn_data F sc_firstbad w_firstbad (by decide) len (fun cdv A outer s H E hr noG => ?_) vc⟩
  · match us, hl with
    | [_], _ => rfl
  have hu : (A.deeper (envOfC "_law_first_bad" (defScope sFirstBad) s.heap.objs.size f cdv)).units + 1 < cLine := by have := hr.un; omega
  have hu64 : (A.deeper (envOfC "_law_first_bad" (defScope sFirstBad) s.heap.objs.size f cdv)).units + 64 < cLine := by have := hr.un; omega
  exact (ds_cons (ds_par 1 2 nd (de_lst da_nil) (de_lst da_nil))
    (ds_cons (ds_for owns0 rfl (di_enumA g_enumerate (de_pers (de_split (de_var 0) de_str))) (pg_tup rfl (pgs_cons (pg_name (i := 3) nd rfl (by first | exact Or.inl rfl | exact Or.inr rfl)) (pgs_cons (pg_name (i := 4) nd rfl (by first | exact Or.inl rfl | exact Or.inr rfl)) pgs_nil))) (gok_tup (gsok_cons (gok_name (i := 3)) (gsok_cons (gok_name (i := 4)) gsok_nil))) (ds_cons (ds_set 5 nd (de_split (de_var 4) de_str))
    (ds_one (ds_if (dt_bool (dw_and (dt_cmp (op_deq hu64) ok_eq (de_ix hu (de_var 5) de_int) de_str (by rfl)) (dw_and1 (dt_cmp (op_deq hu64) ok_eq (de_callB call_lenX ok_len g_len PySem.boot_len (da_cons (de_var 5) da_nil)) de_int (by rfl))))) (ds_cons (ds_if (dt_bool (dw_or (dt_cmp (op_dne hu64) ok_ne (de_var 2) (de_lst da_nil) (by rfl)) (dw_or (dt_cmp op_gt ok_gt (de_callB call_lenX ok_len g_len PySem.boot_len (da_cons (de_var 1) da_nil)) de_int (by rfl)) (dw_or (dt_cmp (op_inX hu64) ok_in (de_ix hu (de_var 5) de_int) (de_var 1) (by rfl)) (dw_or1 (dt_not (dt_val (de_def [.d] takes0 c__law_is_name (hr.mono (by decide)) noG (da_cons (de_pers (de_ix hu (de_var 5) de_int)) da_nil))))))))) (ds_one (ds_ret (de_op op_addX ok_add (de_var 3) de_int))) ds_nil)
    (ds_one (ds_expr (de_append 1 (de_ix hu (de_var 5) de_int))))) (ds_one (ds_if (dt_bool (dw_and (dt_cmp (op_deq hu64) ok_eq (de_ix hu (de_var 5) de_int) de_str (by rfl)) (dw_and1 (dt_cmp (op_deq hu64) ok_eq (de_callB call_lenX ok_len g_len PySem.boot_len (da_cons (de_var 5) da_nil)) de_int (by rfl))))) (ds_cons (ds_set 6 nd (de_callB cr_sortedS ok_sorted g_sorted (by decide +kernel) (da_cons (de_sl (de_var 5) (do_some de_int) do_none) da_nil)))
    (ds_cons (ds_if (dt_bool (dw_or (dt_cmp (op_inX hu64) ok_in (de_var 6) (de_var 2) (by rfl)) (dw_or (dt_cmp (op_deq hu64) ok_eq (de_ix hu (de_var 6) de_int) (de_ix hu (de_var 6) de_int) (by rfl)) (dw_or (dt_cmp (op_ninX hu64) ok_nin (de_ix hu (de_var 6) de_int) (de_var 1) (by rfl)) (dw_or1 (dt_cmp (op_ninX hu64) ok_nin (de_ix hu (de_var 6) de_int) (de_var 1) (by rfl))))))) (ds_one (ds_ret (de_op op_addX ok_add (de_var 3) de_int))) ds_nil)
    (ds_one (ds_expr (de_append 2 (de_var 6)))))) (ds_one (ds_ret (de_op op_addX ok_add (de_var 3) de_int)))))))))
    (ds_one (ds_ret de_int))))
end DL


namespace DL
open PySem PySem.Spec PyProof.Rows L2 K56
def w_told (CW : Addr) (cTX : Addr) : WS := (wSeq (wTry (wAsg 1 (wCall [.d] (spReadWeb CW cTX) (wCons (wPers (wVar 0)) wNil))) [(hdX cTX 2 (fun a dd => (wRet (wXf a dd "line" 2))))])
  (wRet (wIf (wTest (wBin oEq (wCall [.d] (spWebText CW) (wCons (wPers (wVar 1)) wNil)) (wVar 0))) (wC (.int 0)) (wC .non))))
theorem sc_told : FnScope ["value", "told", "error"] ["value"] (defScope sTold) := ⟨rfl, rfl, rfl, by decide +kernel, rfl, by decide +kernel, by decide +kernel⟩
theorem cal_told {P : Program} {w : World} {K : PySem.W.Frag} {mg : Str → Option Value} {base : Heap} {f : Addr} {fd : FuncData} {CW : Addr} {cTX : Addr} (F : FunD K "_law_told" "_law_told" (defArgs sTold) (defBody sTold) (defScope sTold) [] [] f fd) (gf : mg "_law_told" = some (.ref f))  (c_read_web : DCal P w K mg base "read_web" 6 (spReadWeb CW cTX)) (c_web_text : DCal P w K mg base "web_text" 3 (spWebText CW)) (at_BadText : mg "BadText" = some (.ref cTX)) (any_BadText : PySem.W.exmAny K (.ref cTX) [.ref cTX] = some true) (x_BadText : XfC K cTX) (xf_BadText_line : PySem.W.findIn K (.ref cTX) "line" = some none)
    (vc : ∀ avs Q XP, spTold avs Q XP → (w_told CW cTX) (bodyN avs Q XP) (stOf 3 avs)) (len : ∀ avs Q XP, spTold avs Q XP → avs.length = 1) : DCal P w K mg base "_law_told" 7 spTold := by
  have nd := sc_told.nd
  refine ⟨f, fd, ["value"], gf, F.kp, F.bindsN fun kV doc pm an cdv ct us hl => ?_, fn_data F sc_told (w_told CW cTX) (by decide) len (fun cdv A outer s H E hr noG => ?_) vc⟩
  · match us, hl with
    | [_], _ => rfl
  have hu : (A.deeper (envOfC "_law_told" (defScope sTold) s.heap.objs.size f cdv)).units + 1 < cLine := by have := hr.un; omega
  have hu64 : (A.deeper (envOfC "_law_told" (defScope sTold) s.heap.objs.size f cdv)).units + 64 < cLine := by have := hr.un; omega
  exact (ds_cons (ds_try rfl rfl nd takes0 (fun W pn xe takes1 po => (ds_one (ds_set 1 nd (de_def [.d] takes1 c_read_web (hr.mono (by decide)) noG (da_cons (de_pers (de_var 0)) da_nil))))) (.cons (.one ⟨rfl, by decide, Or.inl at_BadText⟩) (.yes rfl rfl) (hdX_pss (fun a dd oe pn hz hf => (show DSs _ W0 _ (wRet (wXf a dd "line" 2)) from (ds_one (ds_ret (de_xf 2 x_BadText xf_BadText_line hz hf)))))) .nil) (.cons (hdX_ok any_BadText) .nil))
    (ds_one (ds_ret (de_if (dt_cmp (op_deq hu64) ok_eq (de_def [.d] takes0 c_web_text (hr.mono (by decide)) noG (da_cons (de_pers (de_var 1)) da_nil)) (de_var 0) (by rfl)) de_int de_non))))
end DL


namespace DL
open PySem PySem.Spec PyProof.Rows L2 K56
def w_bent  : WS := (wSeq (wPar3 2 3 4 (wCall [.m, .d] spDraw (wCons (wVar 0) (wCons (wPers (wCB (on1 oLen) (wCons (wVar 1) wNil))) wNil))) (wCall [.m, .d] spDraw (wCons (wVar 0) (wCons (wPers (wCB (on1 oLen) (wCons (wVar 1) wNil))) wNil))) (wCall [.m, .d] spDraw (wCons (wVar 0) (wCons (wPers (wC (.int 9))) wNil))))
  (wSeq (wPar 5 6 (wBin oIx (wVar 1) (wVar 2)) (wBin oAdd (wSl (wVar 1) wNoPart (wPart (wVar 2))) (wSl (wVar 1) (wPart (wBin oAdd (wVar 2) (wC (.int 1)))) wNoPart)))
  (wSeq (wAsg 7 (wM1 oSplit (wVar 5) (wC (.str " "))))
  (wSeq (wIfS (wTest (wBin oEq (wVar 4) (wC (.int 0)))) (wRet (wVar 6)) wNext)
  (wSeq (wIfS (wTest (wBin oEq (wVar 4) (wC (.int 1)))) (wRet (wBin oAdd (wBin oAdd (wSl (wVar 1) wNoPart (wPart (wVar 2))) (wLst (wCons (wPers (wVar 5)) wNil))) (wSl (wVar 1) (wPart (wVar 2)) wNoPart))) wNext)
  (wSeq (wIfS (wTest (wBin oEq (wVar 4) (wC (.int 2)))) (wRet (wBin oAdd (wBin oAdd (wSl (wVar 1) wNoPart (wPart (wVar 2))) (wLst (wCons (wPers (wSl (wVar 5) wNoPart (wPart (wCall [.m, .d] spDraw (wCons (wVar 0) (wCons (wPers (wBin oAdd (wCB (on1 oLen) (wCons (wVar 5) wNil)) (wC (.int 1)))) wNil)))))) wNil))) (wSl (wVar 1) (wPart (wBin oAdd (wVar 2) (wC (.int 1)))) wNoPart))) wNext)
  (wSeq (wIfS (wTest (wBin oEq (wVar 4) (wC (.int 3)))) (wRet (wBin oAdd (wBin oAdd (wSl (wVar 6) wNoPart (wPart (wVar 3))) (wLst (wCons (wPers (wVar 5)) wNil))) (wSl (wVar 6) (wPart (wVar 3)) wNoPart))) wNext)
  (wSeq (wIfS (wTest (wBin oEq (wVar 4) (wC (.int 4)))) (wRet (wBin oAdd (wBin oAdd (wSl (wVar 1) wNoPart (wPart (wVar 2))) (wLst (wCons (wPers (wM1 oJoin (wC (.str " ")) (wBin oAdd (wSl (wVar 7) wNoPart (wPart (wC (.int 1)))) (wUn oRev (wSl (wVar 7) (wPart (wC (.int 1))) wNoPart))))) wNil))) (wSl (wVar 1) (wPart (wBin oAdd (wVar 2) (wC (.int 1)))) wNoPart))) wNext)
  (wSeq (wAsg 8 (wBin oIx (wVar 7) (wUn oNeg (wC (.int 1)))))
  (wSeq (wIfS (wTest (wBin oEq (wVar 4) (wC (.int 5)))) (wSeq (wAsg 9 (wCall [.m, .d] spDraw (wCons (wVar 0) (wCons (wPers (wBin oAdd (wCB (on1 oLen) (wCons (wVar 5) wNil)) (wC (.int 1)))) wNil))))
  (wSeq (wAsg 10 (wCall [.m, .b] spPick (wCons (wVar 0) (wCons (wC (.str " !\"#$&'()*+,-./0123456789:;<=>?@ABCDEFGHIJKLMNOPQRSTUVWXYZ[\\]^_`{|}~")) wNil))))
  (wSeq (wAsg 5 (wBin oAdd (wBin oAdd (wSl (wVar 5) wNoPart (wPart (wVar 9))) (wVar 10)) (wSl (wVar 5) (wPart (wVar 9)) wNoPart)))
  (wRet (wBin oAdd (wBin oAdd (wSl (wVar 1) wNoPart (wPart (wVar 2))) (wLst (wCons (wPers (wVar 5)) wNil))) (wSl (wVar 1) (wPart (wBin oAdd (wVar 2) (wC (.int 1)))) wNoPart)))))) wNext)
  (wSeq (wAsg 11 (wLst (wCons (wPers (wBin oAdd (wC (.str "place ")) (wVar 8))) (wCons (wPers (wBin oAdd (wBin oAdd (wBin oAdd (wC (.str "tie ")) (wVar 8)) (wC (.str " "))) (wVar 8))) (wCons (wPers (wBin oAdd (wC (.str "tie ")) (wVar 8))) (wCons (wPers (wC (.str "place"))) (wCons (wPers (wC (.str "tie a b"))) (wCons (wPers (wC (.str "tie b a"))) (wCons (wPers (wC (.str "place q r"))) (wCons (wPers (wC (.str ""))) wNil))))))))))
  (wSeq (wAsg 11 (wBin oAdd (wVar 11) (wLst (wCons (wPers (wC (.str "Place q"))) (wCons (wPers (wC (.str "TIE a b"))) (wCons (wPers (wC (.str "place  q"))) (wCons (wPers (wC (.str " place q"))) (wCons (wPers (wC (.str "place q "))) (wCons (wPers (wC (.str "place abcdefghi"))) (wCons (wPers (wC (.str "place zzzz"))) wNil))))))))))
  (wSeq (wDrop (wMut "list" 11 mAppend (wCons (wPers (wC (.str "place tie"))) wNil)))
  (wRet (wBin oAdd (wBin oAdd (wSl (wVar 1) wNoPart (wPart (wVar 2))) (wLst (wCons (wPers (wCall [.m, .b] spPick (wCons (wVar 0) (wCons (wVar 11) wNil)))) wNil))) (wSl (wVar 1) (wPart (wBin oAdd (wVar 2) (wCall [.m, .d] spDraw (wCons (wVar 0) (wCons (wPers (wC (.int 2))) wNil))))) wNoPart))))))))))))))))
theorem sc_bent : FnScope ["source", "lines", "at", "to", "kind", "line", "rest", "words", "name", "spot", "sign", "some"] ["source", "lines"] (defScope sBent) := ⟨rfl, rfl, rfl, by decide +kernel, rfl, by decide +kernel, by decide +kernel⟩
theorem cal_bent {P : Program} {w : World} {K : PySem.W.Frag} {mg : Str → Option Value} {base : Heap} {f : Addr} {fd : FuncData}  (F : FunD K "_law_bent" "_law_bent" (defArgs sBent) (defBody sBent) (defScope sBent) [] [] f fd) (gf : mg "_law_bent" = some (.ref f)) (g_len : mg "len" = none) (c__law_draw : DCal P w K mg base "_law_draw" 2 spDraw) (c__law_pick : DCal P w K mg base "_law_pick" 3 spPick) 
    (vc : ∀ avs Q XP, spBent avs Q XP → w_bent (bodyN avs Q XP) (stOf 12 avs)) (len : ∀ avs Q XP, spBent avs Q XP → avs.length = 2) : DCal P w K mg base "_law_bent" 4 spBent := by
  have nd := sc_bent.nd
  refine ⟨f, fd, ["source", "lines"], gf, F.kp, F.bindsN fun kV doc pm an cdv ct us hl => ?_, fn_data F sc_bent w_bent (by decide) len (fun cdv A outer s H E hr noG => ?_) vc⟩
  · match us, hl with
    | [_, _], _ => rfl
  have hu : (A.deeper (envOfC "_law_bent" (defScope sBent) s.heap.objs.size f cdv)).units + 1 < cLine := by have := hr.un; omega
  have hu64 : (A.deeper (envOfC "_law_bent" (defScope sBent) s.heap.objs.size f cdv)).units + 64 < cLine := by have := hr.un; omega
  exact (ds_cons (ds_par3 2 3 4 nd (de_def [.m, .d] takes0 c__law_draw (hr.mono (by decide)) noG (da_cons (de_var 0) (da_cons (de_pers (de_callB call_lenX ok_len g_len PySem.boot_len (da_cons (de_var 1) da_nil))) da_nil))) (de_def [.m, .d] takes0 c__law_draw (hr.mono (by decide)) noG (da_cons (de_var 0) (da_cons (de_pers (de_callB call_lenX ok_len g_len PySem.boot_len (da_cons (de_var 1) da_nil))) da_nil))) (de_def [.m, .d] takes0 c__law_draw (hr.mono (by decide)) noG (da_cons (de_var 0) (da_cons (de_pers de_int) da_nil))))
    (ds_cons (ds_par 5 6 nd (de_ix hu (de_var 1) (de_var 2)) (de_op op_addX ok_add (de_sl (de_var 1) do_none (do_some (de_var 2))) (de_sl (de_var 1) (do_some (de_op op_addX ok_add (de_var 2) de_int)) do_none)))
    (ds_cons (ds_set 7 nd (de_split (de_var 5) de_str))
    (ds_cons (ds_if (dt_cmp (op_deq hu64) ok_eq (de_var 4) de_int (by rfl)) (ds_one (ds_ret (de_var 6))) ds_nil)
    (ds_cons (ds_if (dt_cmp (op_deq hu64) ok_eq (de_var 4) de_int (by rfl)) (ds_one (ds_ret (de_op op_addX ok_add (de_op op_addX ok_add (de_sl (de_var 1) do_none (do_some (de_var 2))) (de_lst (da_cons (de_pers (de_var 5)) da_nil))) (de_sl (de_var 1) (do_some (de_var 2)) do_none)))) ds_nil)
    (ds_cons (ds_if (dt_cmp (op_deq hu64) ok_eq (de_var 4) de_int (by rfl)) (ds_one (ds_ret (de_op op_addX ok_add (de_op op_addX ok_add (de_sl (de_var 1) do_none (do_some (de_var 2))) (de_lst (da_cons (de_pers (de_sl (de_var 5) do_none (do_some (de_def [.m, .d] takes0 c__law_draw (hr.mono (by decide)) noG (da_cons (de_var 0) (da_cons (de_pers (de_op op_addX ok_add (de_callB call_lenX ok_len g_len PySem.boot_len (da_cons (de_var 5) da_nil)) de_int)) da_nil)))))) da_nil))) (de_sl (de_var 1) (do_some (de_op op_addX ok_add (de_var 2) de_int)) do_none)))) ds_nil)
    (ds_cons (ds_if (dt_cmp (op_deq hu64) ok_eq (de_var 4) de_int (by rfl)) (ds_one (ds_ret (de_op op_addX ok_add (de_op op_addX ok_add (de_sl (de_var 6) do_none (do_some (de_var 3))) (de_lst (da_cons (de_pers (de_var 5)) da_nil))) (de_sl (de_var 6) (do_some (de_var 3)) do_none)))) ds_nil)
    (ds_cons (ds_if (dt_cmp (op_deq hu64) ok_eq (de_var 4) de_int (by rfl)) (ds_one (ds_ret (de_op op_addX ok_add (de_op op_addX ok_add (de_sl (de_var 1) do_none (do_some (de_var 2))) (de_lst (da_cons (de_pers (de_join de_str (de_op op_addX ok_add (de_sl (de_var 7) do_none (do_some de_int)) (de_rev (de_sl (de_var 7) (do_some de_int) do_none))))) da_nil))) (de_sl (de_var 1) (do_some (de_op op_addX ok_add (de_var 2) de_int)) do_none)))) ds_nil)
    (ds_cons (ds_set 8 nd (de_ix hu (de_var 7) (de_un un_neg ok_neg de_int)))
    (ds_cons (ds_if (dt_cmp (op_deq hu64) ok_eq (de_var 4) de_int (by rfl)) (ds_cons (ds_set 9 nd (de_def [.m, .d] takes0 c__law_draw (hr.mono (by decide)) noG (da_cons (de_var 0) (da_cons (de_pers (de_op op_addX ok_add (de_callB call_lenX ok_len g_len PySem.boot_len (da_cons (de_var 5) da_nil)) de_int)) da_nil))))
    (ds_cons (ds_set 10 nd (de_def [.m, .b] takes0 c__law_pick (hr.mono (by decide)) noG (da_cons (de_var 0) (da_cons de_str da_nil))))
    (ds_cons (ds_set 5 nd (de_op op_addX ok_add (de_op op_addX ok_add (de_sl (de_var 5) do_none (do_some (de_var 9))) (de_var 10)) (de_sl (de_var 5) (do_some (de_var 9)) do_none)))
    (ds_one (ds_ret (de_op op_addX ok_add (de_op op_addX ok_add (de_sl (de_var 1) do_none (do_some (de_var 2))) (de_lst (da_cons (de_pers (de_var 5)) da_nil))) (de_sl (de_var 1) (do_some (de_op op_addX ok_add (de_var 2) de_int)) do_none))))))) ds_nil)
    (ds_cons (ds_set 11 nd (de_lst (da_cons (de_pers (de_op op_addX ok_add de_str (de_var 8))) (da_cons (de_pers (de_op op_addX ok_add (de_op op_addX ok_add (de_op op_addX ok_add de_str (de_var 8)) de_str) (de_var 8))) (da_cons (de_pers (de_op op_addX ok_add de_str (de_var 8))) (da_cons (de_pers de_str) (da_cons (de_pers de_str) (da_cons (de_pers de_str) (da_cons (de_pers de_str) (da_cons (de_pers de_str) da_nil))))))))))
    (ds_cons (ds_set 11 nd (de_op op_addX ok_add (de_var 11) (de_lst (da_cons (de_pers de_str) (da_cons (de_pers de_str) (da_cons (de_pers de_str) (da_cons (de_pers de_str) (da_cons (de_pers de_str) (da_cons (de_pers de_str) (da_cons (de_pers de_str) da_nil))))))))))
    (ds_cons (ds_expr (de_append 11 de_str))
    (ds_one (ds_ret (de_op op_addX ok_add (de_op op_addX ok_add (de_sl (de_var 1) do_none (do_some (de_var 2))) (de_lst (da_cons (de_pers (de_def [.m, .b] takes0 c__law_pick (hr.mono (by decide)) noG (da_cons (de_var 0) (da_cons (de_var 11) da_nil)))) da_nil))) (de_sl (de_var 1) (do_some (de_op op_addX ok_add (de_var 2) (de_def [.m, .d] takes0 c__law_draw (hr.mono (by decide)) noG (da_cons (de_var 0) (da_cons (de_pers de_int) da_nil))))) do_none)))))))))))))))))
end DL


namespace DL
open PySem PySem.Spec PyProof.Rows L2 K56
def w_law_l1 (CW : Addr) : WS := (wIfS (wTest (wBin oNe (wCall [.d] spTold (wCons (wPers (wVar 9)) wNil)) (wC (.int 1)))) (wRet (wC (.bl false))) wNext)
def w_law_l2 (CW : Addr) : WS := (wIfS (wTest (wBin oNe (wCall [.d] spTold (wCons (wPers (wVar 8)) wNil)) (wCall [.d] spFirstBad (wCons (wPers (wVar 8)) wNil)))) (wRet (wC (.bl false))) wNext)
def w_law_l3 (CW : Addr) : WS := (wSeq (wAsg 6 (wM1 oSplit (wCall [.d] (spWebText CW) (wCons (wPers (wCall [.d] (spLawWeb CW) (wCons (wPers (wCall [.m, .d] spPlan (wCons (wVar 3) (wCons (wPers (wC (.int 7))) wNil)))) wNil))) wNil)) (wC (.str "\n"))))
  (wSeq (wAsg 7 (wCall [.m, .b] spBent (wCons (wVar 3) (wCons (wVar 6) wNil))))
  (wAsg 4 (wBin oAdd (wVar 4) (wLst (wCons (wPers (wM1 oJoin (wC (.str "\n")) (wVar 7))) (wCons (wPers (wM1 oJoin (wC (.str "\n")) (wIf (wTest (wBin oNe (wVar 7) (wLst wNil))) (wCall [.m, .b] spBent (wCons (wVar 3) (wCons (wVar 7) wNil))) (wVar 6)))) wNil)))))))
def w_law_l4 (CW : Addr) : WS := (wSeq (wAsg 3 (wCall [.b, .d] spSource (wCons (wVar 0) (wCons (wPers (wVar 2)) wNil))))
  (wSeq (wAsg 4 (wCB (on1 oList) (wCons (wVar 1) wNil)))
  (wSeq (wFor (wItR1 (wCons (wC (.int 12)) wNil)) (gN 5) (w_law_l3 CW))
  (wSeq (wFor (wItA (wPers (wVar 4))) (gN 8) (w_law_l2 CW))
  (wFor (wItA (wPers (wLst (wCons (wPers (wC .non)) (wCons (wPers (wC (.int 5))) (wCons (wPers (wC (.bl true))) (wCons (wPers (wLst wNil)) (wCons (wPers (wLst (wCons (wPers (wC (.str "place a"))) wNil))) (wCons (wPers (wTup (wCons (wPers (wC (.str "place a"))) wNil))) (wCons (wPers wDict0) wNil)))))))))) (gN 9) (w_law_l1 CW))))))
def w_law (CW : Addr) : WS := (wSeq (wAsg 1 (wLst (wCons (wPers (wC (.str ""))) (wCons (wPers (wC (.str "place"))) (wCons (wPers (wC (.str "place "))) (wCons (wPers (wC (.str "place a"))) (wCons (wPers (wC (.str "place a\n"))) (wCons (wPers (wC (.str "place a\nplace a"))) (wCons (wPers (wC (.str "tie a b"))) (wCons (wPers (wC (.str "place a\nplace b\ntie a b"))) wNil))))))))))
  (wSeq (wAsg 1 (wBin oAdd (wVar 1) (wLst (wCons (wPers (wC (.str "place a\nplace b\ntie b a\ntie a b"))) (wCons (wPers (wC (.str "place a\nplace b\ntie a b\nplace c"))) (wCons (wPers (wC (.str "place A"))) (wCons (wPers (wC (.str "place a b"))) wNil)))))))
  (wSeq (wDrop (wMut "list" 1 mAppend (wCons (wPers (wM1 oJoin (wC (.str "\n")) (wLc (wItS (wC (.str "abcdefghijklm"))) (gN 10) wYes (wPers (wBin oAdd (wC (.str "place ")) (wVar 10))) [10]))) wNil)))
  (wSeq (wDrop (wMut "list" 1 mAppend (wCons (wPers (wM1 oJoin (wC (.str "\n")) (wLc (wItS (wC (.str "abcdefghijkl"))) (gN 10) wYes (wPers (wBin oAdd (wC (.str "place ")) (wVar 10))) [10]))) wNil)))
  (wSeq (wDrop (wMut "list" 1 mAppend (wCons (wPers (wM1 oJoin (wC (.str "\n")) (wLc (wItS (wC (.str "abcdefghijklmno"))) (gN 10) wYes (wPers (wBin oAdd (wC (.str "place ")) (wVar 10))) [10]))) wNil)))
  (wSeq (wDrop (wMut "list" 1 mAppend (wCons (wPers (wM1 oJoin (wC (.str "\n")) (wBin oAdd (wLc (wItS (wC (.str "abcdefghijklm"))) (gN 10) wYes (wPers (wBin oAdd (wC (.str "place ")) (wVar 10))) [10]) (wLst (wCons (wPers (wC (.str "tie a b"))) (wCons (wPers (wC (.str "tie b c"))) wNil)))))) wNil)))
  (wSeq (wDrop (wMut "list" 1 mAppend (wCons (wPers (wM1 oJoin (wC (.str "\n")) (wBin oAdd (wLc (wItS (wC (.str "abcdefghijkl"))) (gN 10) wYes (wPers (wBin oAdd (wC (.str "place ")) (wVar 10))) [10]) (wLst (wCons (wPers (wC (.str "tie a b"))) (wCons (wPers (wC (.str "place m"))) wNil)))))) wNil)))
  (wSeq (wFor (wItR1 (wCons (wCB (on2 oMax2) (wCons (wC (.int 1)) (wCons (wCB (on2 oMin2) (wCons (wC (.int 3)) (wCons (wCB (on1 oLen) (wCons (wVar 0) wNil)) wNil))) wNil))) wNil)) (gN 2) (w_law_l4 CW))
  (wRet (wC (.bl true)))))))))))
theorem sc_law : FnScope ["script", "typed", "start", "source", "some", "turn", "lines", "bent", "text", "value", "sign"] ["script"] (defScope sLaw) := ⟨rfl, rfl, rfl, by decide +kernel, rfl, by decide +kernel, by decide +kernel⟩
theorem cal_law {P : Program} {w : World} {K : PySem.W.Frag} {mg : Str → Option Value} {base : Heap} {f : Addr} {fd : FuncData} {CW : Addr} (F : FunD K "law" "law" (defArgs sLaw) (defBody sLaw) (defScope sLaw) [] [] f fd) (gf : mg "law" = some (.ref f)) (g_len : mg "len" = none) (g_list : mg "list" = none) (g_max : mg "max" = none) (g_min : mg "min" = none) (g_range : mg "range" = none) (c__law_bent : DCal P w K mg base "_law_bent" 4 spBent) (c__law_first_bad : DCal P w K mg base "_law_first_bad" 2 spFirstBad) (c__law_plan : DCal P w K mg base "_law_plan" 6 spPlan) (c__law_source : DCal P w K mg base "_law_source" 2 spSource) (c__law_told : DCal P w K mg base "_law_told" 7 spTold) (c__law_web : DCal P w K mg base "_law_web" 5 (spLawWeb CW)) (c_web_text : DCal P w K mg base "web_text" 3 (spWebText CW)) 
    (vc : ∀ avs Q XP, spLaw avs Q XP → (w_law CW) (bodyN avs Q XP) (stOf 11 avs)) (len : ∀ avs Q XP, spLaw avs Q XP → avs.length = 1) : DCal P w K mg base "law" 9 spLaw := by
  have nd := sc_law.nd
  refine ⟨f, fd, ["script"], gf, F.kp, F.bindsN fun kV doc pm an cdv ct us hl => ?_, fn_data F sc_law (w_law CW) (by decide) len (fun cdv A outer s H E hr noG => ?_) vc⟩
  · match us, hl with
    | [_], _ => rfl
  have hu : (A.deeper (envOfC "law" (defScope sLaw) s.heap.objs.size f cdv)).units + 1 < cLine := by have := hr.un; omega
  have hu64 : (A.deeper (envOfC "law" (defScope sLaw) s.heap.objs.size f cdv)).units + 64 < cLine := by have := hr.un; omega
  exact (ds_cons (ds_set 1 nd (de_lst (da_cons (de_pers de_str) (da_cons (de_pers de_str) (da_cons (de_pers de_str) (da_cons (de_pers de_str) (da_cons (de_pers de_str) (da_cons (de_pers de_str) (da_cons (de_pers de_str) (da_cons (de_pers de_str) da_nil))))))))))
    (ds_cons (ds_set 1 nd (de_op op_addX ok_add (de_var 1) (de_lst (da_cons (de_pers de_str) (da_cons (de_pers de_str) (da_cons (de_pers de_str) (da_cons (de_pers de_str) da_nil)))))))
    (ds_cons (ds_expr (de_append 1 (de_join de_str (de_lc rfl nd (di_str de_str) (own := [("sign", 10)]) (blkOk_by (N := ["script", "typed", "start", "source", "some", "turn", "lines", "bent", "text", "value", "sign"]) (sc := defScope sLaw) (by decide +kernel)) (by decide) (fun _ _ _ _ _ => (pg_name (i := 10) nd rfl (by first | exact Or.inl rfl | exact Or.inr rfl))) (gok_name (i := 10)) (fun _ _ _ _ _ => dts_nil) (fun _ _ _ _ _ => (de_pers (de_op op_addX ok_add de_str (de_var 10))))))))
    (ds_cons (ds_expr (de_append 1 (de_join de_str (de_lc rfl nd (di_str de_str) (own := [("sign", 10)]) (blkOk_by (N := ["script", "typed", "start", "source", "some", "turn", "lines", "bent", "text", "value", "sign"]) (sc := defScope sLaw) (by decide +kernel)) (by decide) (fun _ _ _ _ _ => (pg_name (i := 10) nd rfl (by first | exact Or.inl rfl | exact Or.inr rfl))) (gok_name (i := 10)) (fun _ _ _ _ _ => dts_nil) (fun _ _ _ _ _ => (de_pers (de_op op_addX ok_add de_str (de_var 10))))))))
    (ds_cons (ds_expr (de_append 1 (de_join de_str (de_lc rfl nd (di_str de_str) (own := [("sign", 10)]) (blkOk_by (N := ["script", "typed", "start", "source", "some", "turn", "lines", "bent", "text", "value", "sign"]) (sc := defScope sLaw) (by decide +kernel)) (by decide) (fun _ _ _ _ _ => (pg_name (i := 10) nd rfl (by first | exact Or.inl rfl | exact Or.inr rfl))) (gok_name (i := 10)) (fun _ _ _ _ _ => dts_nil) (fun _ _ _ _ _ => (de_pers (de_op op_addX ok_add de_str (de_var 10))))))))
    (ds_cons (ds_expr (de_append 1 (de_join de_str (de_op op_addX ok_add (de_lc rfl nd (di_str de_str) (own := [("sign", 10)]) (blkOk_by (N := ["script", "typed", "start", "source", "some", "turn", "lines", "bent", "text", "value", "sign"]) (sc := defScope sLaw) (by decide +kernel)) (by decide) (fun _ _ _ _ _ => (pg_name (i := 10) nd rfl (by first | exact Or.inl rfl | exact Or.inr rfl))) (gok_name (i := 10)) (fun _ _ _ _ _ => dts_nil) (fun _ _ _ _ _ => (de_pers (de_op op_addX ok_add de_str (de_var 10))))) (de_lst (da_cons (de_pers de_str) (da_cons (de_pers de_str) da_nil)))))))
    (ds_cons (ds_expr (de_append 1 (de_join de_str (de_op op_addX ok_add (de_lc rfl nd (di_str de_str) (own := [("sign", 10)]) (blkOk_by (N := ["script", "typed", "start", "source", "some", "turn", "lines", "bent", "text", "value", "sign"]) (sc := defScope sLaw) (by decide +kernel)) (by decide) (fun _ _ _ _ _ => (pg_name (i := 10) nd rfl (by first | exact Or.inl rfl | exact Or.inr rfl))) (gok_name (i := 10)) (fun _ _ _ _ _ => dts_nil) (fun _ _ _ _ _ => (de_pers (de_op op_addX ok_add de_str (de_var 10))))) (de_lst (da_cons (de_pers de_str) (da_cons (de_pers de_str) da_nil)))))))
    (ds_cons (ds_for owns0 rfl (di_range1 g_range (da_cons (de_max2 g_max (da_cons de_int (da_cons (de_min2 g_min (da_cons de_int (da_cons (de_callB call_lenX ok_len g_len PySem.boot_len (da_cons (de_var 0) da_nil)) da_nil))) da_nil))) da_nil)) (pg_name (i := 2) nd rfl (by first | exact Or.inl rfl | exact Or.inr rfl)) (gok_name (i := 2)) (ds_cons (ds_set 3 nd (de_def [.b, .d] takes0 c__law_source (hr.mono (by decide)) noG (da_cons (de_var 0) (da_cons (de_pers (de_var 2)) da_nil))))
    (ds_cons (ds_set 4 nd (de_callT call_list_of ok_list g_list PyProof.Rows.boot_list (da_cons (de_var 1) da_nil)))
    (ds_cons (ds_for owns0 rfl (di_range1 g_range (da_cons de_int da_nil)) (pg_name (i := 5) nd rfl (by first | exact Or.inl rfl | exact Or.inr rfl)) (gok_name (i := 5)) (ds_cons (ds_set 6 nd (de_split (de_def [.d] takes0 c_web_text (hr.mono (by decide)) noG (da_cons (de_pers (de_def [.d] takes0 c__law_web (hr.mono (by decide)) noG (da_cons (de_pers (de_def [.m, .d] takes0 c__law_plan (hr.mono (by decide)) noG (da_cons (de_var 3) (da_cons (de_pers de_int) da_nil)))) da_nil))) da_nil)) de_str))
    (ds_cons (ds_set 7 nd (de_def [.m, .b] takes0 c__law_bent (hr.mono (by decide)) noG (da_cons (de_var 3) (da_cons (de_var 6) da_nil))))
    (ds_one (ds_set 4 nd (de_op op_addX ok_add (de_var 4) (de_lst (da_cons (de_pers (de_join de_str (de_var 7))) (da_cons (de_pers (de_join de_str (de_if (dt_cmp (op_dne hu64) ok_ne (de_var 7) (de_lst da_nil) (by rfl)) (de_def [.m, .b] takes0 c__law_bent (hr.mono (by decide)) noG (da_cons (de_var 3) (da_cons (de_var 7) da_nil))) (de_var 6)))) da_nil)))))))))
    (ds_cons (ds_for owns0 rfl (di_any (de_pers (de_var 4))) (pg_name (i := 8) nd rfl (by first | exact Or.inl rfl | exact Or.inr rfl)) (gok_name (i := 8)) (ds_one (ds_if (dt_cmp (op_dne hu64) ok_ne (de_def [.d] takes0 c__law_told (hr.mono (by decide)) noG (da_cons (de_pers (de_var 8)) da_nil)) (de_def [.d] takes0 c__law_first_bad (hr.mono (by decide)) noG (da_cons (de_pers (de_var 8)) da_nil)) (by rfl)) (ds_one (ds_ret de_bl)) ds_nil)))
    (ds_one (ds_for owns0 rfl (di_any (de_pers (de_lst (da_cons (de_pers de_non) (da_cons (de_pers de_int) (da_cons (de_pers de_bl) (da_cons (de_pers (de_lst da_nil)) (da_cons (de_pers (de_lst (da_cons (de_pers de_str) da_nil))) (da_cons (de_pers (de_tup (da_cons (de_pers de_str) da_nil))) (da_cons (de_pers de_dict0) da_nil)))))))))) (pg_name (i := 9) nd rfl (by first | exact Or.inl rfl | exact Or.inr rfl)) (gok_name (i := 9)) (ds_one (ds_if (dt_cmp (op_dne hu64) ok_ne (de_def [.d] takes0 c__law_told (hr.mono (by decide)) noG (da_cons (de_pers (de_var 9)) da_nil)) de_int (by rfl)) (ds_one (ds_ret de_bl)) ds_nil)))))))))
    (ds_one (ds_ret de_bl))))))))))
end DL


namespace DL
open PySem PySem.Spec PyProof.Rows L2 K56
theorem ok_law {P : Program} {w : World} {K : PySem.W.Frag} {mg : Str → Option Value} {base : Heap} {f : Addr} {fd : FuncData} {CW : Addr} (F : FunD K "law" "law" (defArgs sLaw) (defBody sLaw) (defScope sLaw) [] [] f fd) (gf : mg "law" = some (.ref f)) (g_len : mg "len" = none) (g_list : mg "list" = none) (g_max : mg "max" = none) (g_min : mg "min" = none) (g_range : mg "range" = none) (c__law_bent : DCal P w K mg base "_law_bent" 4 spBent) (c__law_first_bad : DCal P w K mg base "_law_first_bad" 2 spFirstBad) (c__law_plan : DCal P w K mg base "_law_plan" 6 spPlan) (c__law_source : DCal P w K mg base "_law_source" 2 spSource) (c__law_told : DCal P w K mg base "_law_told" 7 spTold) (c__law_web : DCal P w K mg base "_law_web" 5 (spLawWeb CW)) (c_web_text : DCal P w K mg base "web_text" 3 (spWebText CW)) 
    (vc : ∀ avs Q XP, spLaw avs Q XP → (w_law CW) (bodyN avs Q XP) (stOf 11 avs)) (len : ∀ avs Q XP, spLaw avs Q XP → avs.length = 1) : GW.Ok P w K mg base (L2.CX P w) 9 f fd ["script"] (toSp spLaw) := by
  have nd := sc_law.nd
  refine fn_data F sc_law (w_law CW) (by decide) len (fun cdv A outer s H E hr noG => ?_) vc
  have hu : (A.deeper (envOfC "law" (defScope sLaw) s.heap.objs.size f cdv)).units + 1 < cLine := by have := hr.un; omega
  have hu64 : (A.deeper (envOfC "law" (defScope sLaw) s.heap.objs.size f cdv)).units + 64 < cLine := by have := hr.un; omega
  exact (ds_cons (ds_set 1 nd (de_lst (da_cons (de_pers de_str) (da_cons (de_pers de_str) (da_cons (de_pers de_str) (da_cons (de_pers de_str) (da_cons (de_pers de_str) (da_cons (de_pers de_str) (da_cons (de_pers de_str) (da_cons (de_pers de_str) da_nil))))))))))
    (ds_cons (ds_set 1 nd (de_op op_addX ok_add (de_var 1) (de_lst (da_cons (de_pers de_str) (da_cons (de_pers de_str) (da_cons (de_pers de_str) (da_cons (de_pers de_str) da_nil)))))))
    (ds_cons (ds_expr (de_append 1 (de_join de_str (de_lc rfl nd (di_str de_str) (own := [("sign", 10)]) (blkOk_by (N := ["script", "typed", "start", "source", "some", "turn", "lines", "bent", "text", "value", "sign"]) (sc := defScope sLaw) (by decide +kernel)) (by decide) (fun _ _ _ _ _ => (pg_name (i := 10) nd rfl (by first | exact Or.inl rfl | exact Or.inr rfl))) (gok_name (i := 10)) (fun _ _ _ _ _ => dts_nil) (fun _ _ _ _ _ => (de_pers (de_op op_addX ok_add de_str (de_var 10))))))))
    (ds_cons (ds_expr (de_append 1 (de_join de_str (de_lc rfl nd (di_str de_str) (own := [("sign", 10)]) (blkOk_by (N := ["script", "typed", "start", "source", "some", "turn", "lines", "bent", "text", "value", "sign"]) (sc := defScope sLaw) (by decide +kernel)) (by decide) (fun _ _ _ _ _ => (pg_name (i := 10) nd rfl (by first | exact Or.inl rfl | exact Or.inr rfl))) (gok_name (i := 10)) (fun _ _ _ _ _ => dts_nil) (fun _ _ _ _ _ => (de_pers (de_op op_addX ok_add de_str (de_var 10))))))))
    (ds_cons (ds_expr (de_append 1 (de_join de_str (de_lc rfl nd (di_str de_str) (own := [("sign", 10)]) (blkOk_by (N := ["script", "typed", "start", "source", "some", "turn", "lines", "bent", "text", "value", "sign"]) (sc := defScope sLaw) (by decide +kernel)) (by decide) (fun _ _ _ _ _ => (pg_name (i := 10) nd rfl (by first | exact Or.inl rfl | exact Or.inr rfl))) (gok_name (i := 10)) (fun _ _ _ _ _ => dts_nil) (fun _ _ _ _ _ => (de_pers (de_op op_addX ok_add de_str (de_var 10))))))))
    (ds_cons (ds_expr (de_append 1 (de_join de_str (de_op op_addX ok_add (de_lc rfl nd (di_str de_str) (own := [("sign", 10)]) (blkOk_by (N := ["script", "typed", "start", "source", "some", "turn", "lines", "bent", "text", "value", "sign"]) (sc := defScope sLaw) (by decide +kernel)) (by decide) (fun _ _ _ _ _ => (pg_name (i := 10) nd rfl (by first | exact Or.inl rfl | exact Or.inr rfl))) (gok_name (i := 10)) (fun _ _ _ _ _ => dts_nil) (fun _ _ _ _ _ => (de_pers (de_op op_addX ok_add de_str (de_var 10))))) (de_lst (da_cons (de_pers de_str) (da_cons (de_pers de_str) da_nil)))))))
    (ds_cons (ds_expr (de_append 1 (de_join de_str (de_op op_addX ok_add (de_lc rfl nd (di_str de_str) (own := [("sign", 10)]) (blkOk_by (N := ["script", "typed", "start", "source", "some", "turn", "lines", "bent", "text", "value", "sign"]) (sc := defScope sLaw) (by decide +kernel)) (by decide) (fun _ _ _ _ _ => (pg_name (i := 10) nd rfl (by first | exact Or.inl rfl | exact Or.inr rfl))) (gok_name (i := 10)) (fun _ _ _ _ _ => dts_nil) (fun _ _ _ _ _ => (de_pers (de_op op_addX ok_add de_str (de_var 10))))) (de_lst (da_cons (de_pers de_str) (da_cons (de_pers de_str) da_nil)))))))
    (ds_cons (ds_for owns0 rfl (di_range1 g_range (da_cons (de_max2 g_max (da_cons de_int (da_cons (de_min2 g_min (da_cons de_int (da_cons (de_callB call_lenX ok_len g_len PySem.boot_len (da_cons (de_var 0) da_nil)) da_nil))) da_nil))) da_nil)) (pg_name (i := 2) nd rfl (by first | exact Or.inl rfl | exact Or.inr rfl)) (gok_name (i := 2)) (ds_cons (ds_set 3 nd (de_def [.b, .d] takes0 c__law_source (hr.mono (by decide)) noG (da_cons (de_var 0) (da_cons (de_pers (de_var 2)) da_nil))))
    (ds_cons (ds_set 4 nd (de_callT call_list_of ok_list g_list PyProof.Rows.boot_list (da_cons (de_var 1) da_nil)))
    (ds_cons (ds_for owns0 rfl (di_range1 g_range (da_cons de_int da_nil)) (pg_name (i := 5) nd rfl (by first | exact Or.inl rfl | exact Or.inr rfl)) (gok_name (i := 5)) (ds_cons (ds_set 6 nd (de_split (de_def [.d] takes0 c_web_text (hr.mono (by decide)) noG (da_cons (de_pers (de_def [.d] takes0 c__law_web (hr.mono (by decide)) noG (da_cons (de_pers (de_def [.m, .d] takes0 c__law_plan (hr.mono (by decide)) noG (da_cons (de_var 3) (da_cons (de_pers de_int) da_nil)))) da_nil))) da_nil)) de_str))
    (ds_cons (ds_set 7 nd (de_def [.m, .b] takes0 c__law_bent (hr.mono (by decide)) noG (da_cons (de_var 3) (da_cons (de_var 6) da_nil))))
    (ds_one (ds_set 4 nd (de_op op_addX ok_add (de_var 4) (de_lst (da_cons (de_pers (de_join de_str (de_var 7))) (da_cons (de_pers (de_join de_str (de_if (dt_cmp (op_dne hu64) ok_ne (de_var 7) (de_lst da_nil) (by rfl)) (de_def [.m, .b] takes0 c__law_bent (hr.mono (by decide)) noG (da_cons (de_var 3) (da_cons (de_var 7) da_nil))) (de_var 6)))) da_nil)))))))))
    (ds_cons (ds_for owns0 rfl (di_any (de_pers (de_var 4))) (pg_name (i := 8) nd rfl (by first | exact Or.inl rfl | exact Or.inr rfl)) (gok_name (i := 8)) (ds_one (ds_if (dt_cmp (op_dne hu64) ok_ne (de_def [.d] takes0 c__law_told (hr.mono (by decide)) noG (da_cons (de_pers (de_var 8)) da_nil)) (de_def [.d] takes0 c__law_first_bad (hr.mono (by decide)) noG (da_cons (de_pers (de_var 8)) da_nil)) (by rfl)) (ds_one (ds_ret de_bl)) ds_nil)))
    (ds_one (ds_for owns0 rfl (di_any (de_pers (de_lst (da_cons (de_pers de_non) (da_cons (de_pers de_int) (da_cons (de_pers de_bl) (da_cons (de_pers (de_lst da_nil)) (da_cons (de_pers (de_lst (da_cons (de_pers de_str) da_nil))) (da_cons (de_pers (de_tup (da_cons (de_pers de_str) da_nil))) (da_cons (de_pers de_dict0) da_nil)))))))))) (pg_name (i := 9) nd rfl (by first | exact Or.inl rfl | exact Or.inr rfl)) (gok_name (i := 9)) (ds_one (ds_if (dt_cmp (op_dne hu64) ok_ne (de_def [.d] takes0 c__law_told (hr.mono (by decide)) noG (da_cons (de_pers (de_var 9)) da_nil)) de_int (by rfl)) (ds_one (ds_ret de_bl)) ds_nil)))))))))
    (ds_one (ds_ret de_bl))))))))))
end DL


namespace DL
open PySem PySem.Spec PyProof.Rows L2 K56
theorem sc_source : FnScope ["script", "start", "mixed", "cell", "rest"] ["script", "start"] (defScope sSource) := ⟨rfl, rfl, rfl, by decide +kernel, rfl, by decide +kernel, by decide +kernel⟩
theorem cal_source {P : Program} {w : World} {K : PySem.W.Frag} {mg : Str → Option Value} {base : Heap} {f : Addr} {fd : FuncData} (F : FunD K "_law_source" "_law_source" (defArgs sSource) (defBody sSource) (defScope sSource) [] [] f fd) (gf : mg "_law_source" = some (.ref f)) (g_int : mg "int" = none) (g_len : mg "len" = none) 
    (vc : ∀ avs Q XP, spSource avs Q XP → w_source (bodyN avs Q XP) (stOf 5 avs)) (len : ∀ avs Q XP, spSource avs Q XP → avs.length = 2) : DCal P w K mg base "_law_source" 2 spSource := by
  have nd := sc_source.nd
  refine ⟨f, fd, ["script", "start"], gf, F.kp, F.bindsN fun kV doc pm an cdv ct us hl => ?_, fn_data F sc_source w_source (by decide) len (fun cdv A outer s H E hr noG => ?_) vc⟩
  · match us, hl with
    | [_, _], _ => rfl
  have hu : (A.deeper (envOfC "_law_source" (defScope sSource) s.heap.objs.size f cdv)).units + 1 < cLine := by have := hr.un; omega
  have hu64 : (A.deeper (envOfC "_law_source" (defScope sSource) s.heap.objs.size f cdv)).units + 64 < cLine := by have := hr.un; omega
  exact (ds_cons (ds_set 2 nd (de_op op_addX ok_add de_int (de_var 1)))
    (ds_cons (ds_for owns0 rfl (di_list (de_var 0)) (pg_name (i := 3) nd rfl (Or.inl rfl)) (gok_name (i := 3)) (ds_one (ds_set 2 nd (de_op op_addX ok_add (de_op op_mod ok_mod (de_callT call_int1 ok_int g_int PyProof.Rows.boot_int (da_cons (de_op op_powW ok_pow (de_callT call_int1 ok_int g_int PyProof.Rows.boot_int (da_cons (de_op op_addX ok_add (de_op op_mulX ok_mul (de_var 2) de_int) (de_callT call_int1 ok_int g_int PyProof.Rows.boot_int (da_cons (de_var 3) da_nil))) da_nil)) de_int) da_nil)) de_int) de_int))))
    (ds_cons (ds_set 4 nd de_int)
    (ds_cons (ds_if (dt_bool (dw_and (dt_cmp op_lt ok_lt (de_var 1) (de_callB call_lenX ok_len g_len PySem.boot_len (da_cons (de_var 0) da_nil)) (by rfl)) (dw_and1 (dt_cmp op_ge ok_ge (de_ix hu (de_var 0) (de_var 1)) (de_op op_powW ok_pow de_int de_int) (by rfl))))) (ds_one (ds_set 4 nd (de_op op_sub ok_sub (de_ix hu (de_var 0) (de_var 1)) (de_op op_powW ok_pow de_int de_int)))) ds_nil)
    (ds_one (ds_ret (de_lst (da_cons (de_pers (de_var 4)) (da_cons (de_pers (de_var 2)) da_nil)))))))))
theorem sc_draw : FnScope ["source", "span", "found"] ["source", "span"] (defScope sDraw) := ⟨rfl, rfl, rfl, by decide +kernel, rfl, by decide +kernel, by decide +kernel⟩
theorem cal_draw {P : Program} {w : World} {K : PySem.W.Frag} {mg : Str → Option Value} {base : Heap} {f : Addr} {fd : FuncData} (F : FunD K "_law_draw" "_law_draw" (defArgs sDraw) (defBody sDraw) (defScope sDraw) [] [] f fd) (gf : mg "_law_draw" = some (.ref f)) (g_int : mg "int" = none) 
    (vc : ∀ avs Q XP, spDraw avs Q XP → w_draw (bodyN avs Q XP) (stOf 3 avs)) (len : ∀ avs Q XP, spDraw avs Q XP → avs.length = 2) : DCal P w K mg base "_law_draw" 2 spDraw := by
  have nd := sc_draw.nd
  refine ⟨f, fd, ["source", "span"], gf, F.kp, F.bindsN fun kV doc pm an cdv ct us hl => ?_, fn_data F sc_draw w_draw (by decide) len (fun cdv A outer s H E hr noG => ?_) vc⟩
  · match us, hl with
    | [_, _], _ => rfl
  have hu : (A.deeper (envOfC "_law_draw" (defScope sDraw) s.heap.objs.size f cdv)).units + 1 < cLine := by have := hr.un; omega
  have hu64 : (A.deeper (envOfC "_law_draw" (defScope sDraw) s.heap.objs.size f cdv)).units + 64 < cLine := by have := hr.un; omega
  exact (ds_cons (ds_if (dt_cmp op_ge ok_ge (de_ix hu (de_var 0) de_int) (de_var 1) (by rfl)) (ds_cons (ds_set 2 nd (de_op op_mod ok_mod (de_callT call_int1 ok_int g_int PyProof.Rows.boot_int (da_cons (de_ix hu (de_var 0) de_int) da_nil)) (de_var 1)))
    (ds_cons (ds_st 0 hu de_int (de_pers (de_op op_fdivW ok_fdiv (de_ix hu (de_var 0) de_int) (de_var 1))) (hp := pg_sub (pe_var (i := 0) rfl (Or.inl rfl) (by decide) (by decide)) (DE.pe de_int) set_list))
    (ds_one (ds_ret (de_var 2))))) ds_nil)
    (ds_cons (ds_st 0 hu de_int (de_pers (de_op op_mod ok_mod (de_callT call_int1 ok_int g_int PyProof.Rows.boot_int (da_cons (de_op op_addX ok_add (de_op op_mulX ok_mul (de_ix hu (de_var 0) de_int) de_int) de_int) da_nil)) de_int)) (hp := pg_sub (pe_var (i := 0) rfl (Or.inl rfl) (by decide) (by decide)) (DE.pe de_int) set_list))
    (ds_one (ds_ret (de_op op_mod ok_mod (de_callT call_int1 ok_int g_int PyProof.Rows.boot_int (da_cons (de_op op_fdivW ok_fdiv (de_op op_mod ok_mod (de_callT call_int1 ok_int g_int PyProof.Rows.boot_int (da_cons (de_op op_powW ok_pow (de_callT call_int1 ok_int g_int PyProof.Rows.boot_int (da_cons (de_ix hu (de_var 0) de_int) da_nil)) de_int) da_nil)) de_int) de_int) da_nil)) (de_var 1))))))
end DL


namespace DL
open PySem PySem.Spec PyProof.Rows L2
def sgD : D → D
  | .str z => .bl (decide (z.cps.getD 0 0 ∈ alphabet.cps.toList))
  | _ => .non
theorem sgD_map (l : List Nat) : (l.map fun c => D.str ⟨#[c]⟩).map sgD = (l.map fun c => decide (c ∈ alphabet.cps.toList)).map D.bl := by
  rw [List.map_map, List.map_map]
  rfl
theorem isStr : tyIn "str" ["str"] = true := by decide +kernel
theorem vc_isname : ∀ avs Q XP, spIsName avs Q XP → w_isname (bodyN avs Q XP) (stOf 2 avs) := by
  rintro _ Q XP ⟨z, rfl, hz, h⟩
  show w_isname _ ([.d (.str z), .un] : S)
  have hz2 : z.length ≤ sizeLine := by rw [sizeLine_eq]; omega
  unfold w_isname
  simp only [wRet, wRetN, wBin, wUn, wVar, varK, wC, wCall, wCons, wNil, wCB, on1, on2, conts, cont, slotD, opt, wPers, persK, freeze, wTest, wAnd, wOr, wNot, wAndV, wOrV, wNotV, boolK, wIf, wIfS, wSeq, wNext, wAsg, wDrop, wLst, wTup, dAll, wIsi, tyS, wChain, oLen, lenD,
    List.getElem?_cons_zero, List.getElem?_cons_succ, Cell.toD, wM1, wStar, itemsD, List.set_cons_zero, List.set_cons_succ, asgK, NoP, Bool.not_true, Bool.not_false, Bool.false_eq_true, if_false, if_true, Option.map_some, Option.map_none]
  rw [isStr, if_pos rfl, if_pos hz2]
  simp only [oI0]
  by_cases h1 : 1 ≤ z.length
  · have q1 : (1 : Int) ≤ (z.length : Int) := by omega
    simp only [q1, decide_true, if_true]
    by_cases h2 : z.length ≤ 8
    · have q2 : (z.length : Int) ≤ 8 := by omega
      simp only [q2, decide_true, if_true]
      unfold wLc wItS
      refine lcM1 sgD (fre_un rfl) _ (fun x hx P q => ?_) ?_ ?_
      · obtain ⟨c, hc, rfl⟩ := List.mem_map.mp hx
        exact q
      · rw [List.length_map, sizeLine_eq]
        have : z.cps.toList.length = z.length := by simp [Str.length]
        omega
      · rw [sgD_map]
        simp only [oAll, blsD_map, opt, List.all_map]
        have e : isNameB z = z.cps.toList.all (id ∘ fun c => decide (c ∈ alphabet.cps.toList)) := by
          unfold isNameB
          rw [decide_eq_true h1, decide_eq_true h2]
          rfl
        rw [← e]
        exact h
    · have q2 : ¬ (z.length : Int) ≤ 8 := by omega
      have e : isNameB z = false := by unfold isNameB; simp [h2]
      rw [e] at h
      simp only [q2, decide_false, if_false]
      exact h
  · have q1 : ¬ (1 : Int) ≤ (z.length : Int) := by omega
    have e : isNameB z = false := by unfold isNameB; simp [h1]
    rw [e] at h
    simp only [q1, decide_false, if_false]
    exact h
theorem vc_isplace : ∀ avs Q XP, spIsPlace avs Q XP → w_isplace (bodyN avs Q XP) (stOf 2 avs) := by
  rintro _ Q XP ⟨z, ss, rfl, h⟩
  show w_isplace _ ([.d (.str z), .d (.tup (sDs ss))] : S)
  unfold w_isplace
  simp only [wRet, wRetN, wBin, wUn, wVar, varK, wC, wCall, wCons, wNil, wCB, on1, on2, conts, cont, slotD, opt, wPers, persK, freeze, wTest, wAnd, wOr, wNot, wAndV, wOrV, wNotV, boolK, wIf, wIfS, wSeq, wNext, wAsg, wDrop, wLst, wTup, dAll, wIsi, tyS, wChain, oLen, lenD,
    List.getElem?_cons_zero, List.getElem?_cons_succ, Cell.toD, wM1, wStar, itemsD, List.set_cons_zero, List.set_cons_succ, asgK, NoP, Bool.not_true, Bool.not_false, Bool.false_eq_true, if_false, if_true, Option.map_some, Option.map_none]
  rw [isStr, if_pos rfl]
  simp only [oIn, isIn, inL_strs, opt]
  exact h
theorem isTup : tyIn "tuple" ["tuple"] = true := by decide +kernel
theorem vc_ispair : ∀ avs Q XP, spIsPair avs Q XP → w_ispair (bodyN avs Q XP) (stOf 2 avs) := by
  rintro _ Q XP ⟨⟨x, y⟩, ss, rfl, h⟩
  show w_ispair _ ([.d (.tup [.str x, .str y]), .d (.tup (sDs ss))] : S)
  unfold w_ispair
  simp only [wRet, wRetN, wBin, wUn, wVar, varK, wC, wCall, wCons, wNil, wCB, on1, on2, conts, cont, slotD, opt, wPers, persK, freeze, wTest, wAnd, wOr, wNot, wAndV, wOrV, wNotV, boolK, wIf, wIfS, wSeq, wNext, wAsg, wDrop, wLst, wTup, dAll, wIsi, tyS, wChain, oLen, lenD,
    List.getElem?_cons_zero, List.getElem?_cons_succ, Cell.toD, wM1, wStar, itemsD, List.set_cons_zero, List.set_cons_succ, asgK, NoP, Bool.not_true, Bool.not_false, Bool.false_eq_true, if_false, if_true, Option.map_some, Option.map_none]
  rw [isTup]
  simp only [wRet, wRetN, wBin, wUn, wVar, varK, wC, wCall, wCons, wNil, wCB, on1, on2, conts, cont, slotD, opt, wPers, persK, freeze, wTest, wAnd, wOr, wNot, wAndV, wOrV, wNotV, boolK, wIf, wIfS, wSeq, wNext, wAsg, wDrop, wLst, wTup, dAll, wIsi, tyS, wChain, oLen, lenD,
    List.getElem?_cons_zero, List.getElem?_cons_succ, Cell.toD, wM1, wStar, itemsD, List.set_cons_zero, List.set_cons_succ, asgK, NoP, Bool.not_true, Bool.not_false, Bool.false_eq_true, if_false, if_true, Option.map_some, Option.map_none]
  refine ⟨rfl, x, ss, rfl, ?_⟩
  by_cases hx : x ∈ ss
  · rw [decide_eq_true hx]
    refine ⟨rfl, y, ss, rfl, ?_⟩
    by_cases hy : y ∈ ss
    · rw [decide_eq_true hy]
      show Q (.d (.bl (!(x == y)))) []
      have e : decide (okPair ss (x, y)) = !(x == y) := by
        by_cases e : x = y
        · subst e
          rw [beq_self_eq_true, Bool.not_true]
          exact decide_eq_false fun z => z.2.2 rfl
        · rw [beq_eq_false_iff_ne.mpr e, Bool.not_false]
          exact decide_eq_true ⟨hx, hy, e⟩
      rw [← e]
      exact h
    · rw [decide_eq_false hy]
      have e : decide (okPair ss (x, y)) = false := decide_eq_false fun z => hy z.2.1
      rw [e] at h
      exact h
  · rw [decide_eq_false hx]
    have e : decide (okPair ss (x, y)) = false := decide_eq_false fun z => hx z.1
    rw [e] at h
    exact h
def lgD : D → Bool
  | .str z => !decide (z.cps.getD 0 0 ∈ alphabet.cps.toList)
  | _ => false
theorem vc_lisname : ∀ avs Q XP, spLawIsName avs Q XP → w_lisname (bodyN avs Q XP) (stOf 2 avs) := by
  rintro _ Q XP ⟨z, rfl, hz, h⟩
  show w_lisname _ ([.d (.str z), .un] : S)
  have hz2 : z.length ≤ sizeLine := by rw [sizeLine_eq]; omega
  unfold w_lisname
  simp only [wRet, wRetN, wBin, wUn, wVar, varK, wC, wCall, wCons, wNil, wCB, on1, on2, conts, cont, slotD, opt, wPers, persK, freeze, wTest, wAnd, wOr, wNot, wAndV, wOrV, wNotV, boolK, wIf, wIfS, wSeq, wNext, wAsg, wDrop, wLst, wTup, dAll, wIsi, tyS, wChain, oLen, lenD,
    List.getElem?_cons_zero, List.getElem?_cons_succ, Cell.toD, wM1, wStar, itemsD, List.set_cons_zero, List.set_cons_succ, asgK, NoP, Bool.not_true, Bool.not_false, Bool.false_eq_true, if_false, if_true, Option.map_some, Option.map_none]
  rw [if_pos hz2]
  simp only [oI0]
  by_cases h1 : 1 ≤ z.length
  · have q1 : (1 : Int) ≤ (z.length : Int) := by omega
    simp only [q1, decide_true, if_true]
    by_cases h2 : z.length ≤ 8
    · have q2 : (z.length : Int) ≤ 8 := by omega
      simp only [q2, decide_true, if_true]
      unfold wLc wItS
      refine lcN1 lgD id (fre_un rfl) _ [] (fun x hx P q => ?_) (fun x hx _ P q => ?_) ?_ ?_
      · obtain ⟨c, hc, rfl⟩ := List.mem_map.mp hx
        exact q
      · obtain ⟨c, hc, rfl⟩ := List.mem_map.mp hx
        exact q
      · have e0 : z.cps.toList.length = z.length := by simp [Str.length]
        rw [List.length_map, List.length_nil, sizeLine_eq, e0]
        omega
      · rw [List.map_id, List.nil_append]
        have e : isNameB z = (((z.cps.toList.map fun c => D.str ⟨#[c]⟩).filter lgD).length == 0) := by
          unfold isNameB
          rw [decide_eq_true h1, decide_eq_true h2, Bool.eq_iff_iff]
          simp only [Bool.true_and, List.all_eq_true, decide_eq_true_eq, beq_iff_eq, List.length_eq_zero_iff, List.filter_eq_nil_iff, List.mem_map]
          constructor
          · rintro q _ ⟨c, hc, rfl⟩
            show ¬ (!decide (c ∈ alphabet.cps.toList)) = true
            rw [decide_eq_true (q c hc)]
            exact Bool.false_ne_true
          · intro q c hc
            have := q _ ⟨c, hc, rfl⟩
            by_cases m : c ∈ alphabet.cps.toList
            · exact m
            · exact (this (by show (!decide (c ∈ alphabet.cps.toList)) = true; rw [decide_eq_false m]; rfl)).elim
        rw [e] at h
        refine ⟨Nat.zero_le _, ?_⟩
        show opt (deqN 40 (.lst ((z.cps.toList.map fun c => D.str ⟨#[c]⟩).filter lgD)) (.lst [])) _
        generalize (z.cps.toList.map fun c => D.str ⟨#[c]⟩).filter lgD = l at h
        cases l with
        | nil => exact h
        | cons x l => exact h
    · have q2 : ¬ (z.length : Int) ≤ 8 := by omega
      have e : isNameB z = false := by unfold isNameB; simp [h2]
      rw [e] at h
      simp only [q2, decide_false, if_false]
      exact h
  · have q1 : ¬ (1 : Int) ≤ (z.length : Int) := by omega
    have e : isNameB z = false := by unfold isNameB; simp [h1]
    rw [e] at h
    simp only [q1, decide_false, if_false]
    exact h
end DL


namespace DL
open PySem PySem.Spec PyProof.Rows L2
def lpD : D → D
  | .str z => .str (lineP z)
  | _ => .non
def ltD : D → D → D
  | .str a, .str b => .str (lineT (a, b))
  | _, _ => .non
theorem lpD_map (ss : List Str) : (sDs ss).map lpD = sDs (ss.map lineP) := by
  unfold sDs
  rw [List.map_map, List.map_map]
  rfl
theorem tDs_eq (ts : List (Str × Str)) : tDs ts = (ts.map fun t => (D.str t.1, D.str t.2)).map fun x => D.tup [x.1, x.2] := by
  unfold tDs
  rw [List.map_map]
  rfl
theorem ltD_map (ts : List (Str × Str)) : (ts.map fun t => (D.str t.1, D.str t.2)).map (fun x => ltD x.1 x.2) = sDs (ts.map lineT) := by
  unfold sDs
  rw [List.map_map, List.map_map]
  rfl
theorem len_app (a b : Str) : (Str.append a b).length = a.length + b.length := by
  rw [TL.len_tl, TL.len_tl a, TL.len_tl b, ← List.length_append]
  exact congrArg List.length (TL.tl_append a b)
theorem len_empty : Str.empty.length = 0 := rfl
theorem lineT_eq (a b : Str) : Str.empty ++ ("tie " : Str) ++ a ++ (" " : Str) ++ b = lineT (a, b) := by
  have e : Str.empty ++ ("tie " : Str) = "tie " := by decide +kernel
  rw [e]
  rfl
theorem dAll_ds : ∀ xs : List D, dAll (xs.map RV.d) = some xs
  | [] => rfl
  | x :: xs => by
    show (dAll (xs.map RV.d)).map (x :: ·) = _
    rw [dAll_ds xs]
    rfl
theorem look_spots {a b c : D} : ([("spots", a), ("near", b), ("lines", c)] : List (Str × D)).lookup ("spots" : Str) = some a := by rw [List.lookup_cons, beq_self_eq_true]
theorem look_lines {a b c : D} : ([("spots", a), ("near", b), ("lines", c)] : List (Str × D)).lookup ("lines" : Str) = some c := by
  have e1 : (("lines" : Str) == "spots") = false := by decide +kernel
  have e2 : (("lines" : Str) == "near") = false := by decide +kernel
  rw [List.lookup_cons, e1, List.lookup_cons, e2, List.lookup_cons, beq_self_eq_true]
theorem vc_webtext {CW : Addr} : ∀ avs Q XP, spWebText CW avs Q XP → w_webtext CW (bodyN avs Q XP) (stOf 4 avs) := by
  rintro _ Q XP ⟨ss, ts, rfl, hs, ht, hsum, h⟩
  show w_webtext CW _ ([.d (webD CW ss ts), .un, .un, .un] : S)
  have hlp : ∀ z ∈ ss, z.length + 6 ≤ 1000000 := fun z hz => by
    have h1 : lineP z ∈ linesOf ss ts := List.mem_append_left _ (List.mem_map_of_mem hz)
    have h2 := le_sum h1
    have h3 : (lineP z).length = 6 + z.length := len_app _ _
    omega
  have hlt : ∀ t ∈ ts, t.1.length + t.2.length + 5 ≤ 1000000 := fun t hz => by
    have h1 : lineT t ∈ linesOf ss ts := List.mem_append_right _ (List.mem_map_of_mem hz)
    have h2 := le_sum h1
    have h3 : (lineT t).length = 4 + t.1.length + 1 + t.2.length := by
      unfold lineT
      rw [len_app, len_app, len_app]
      rfl
    omega
  unfold w_webtext wRet wM1 wC wLst wStar wLc wItA wFld wVar wNil
  refine ⟨rfl, ?_⟩
  rw [look_spots, opt_some]
  show opt (itemsR (.d (.tup (sDs ss)))) _
  refine lcM1 lpD (fre_un rfl) _ (fun x hx P q => ?_) ?_ ?_
  · obtain ⟨z, hz, rfl⟩ := List.mem_map.mp hx
    refine ⟨?_, q⟩
    rw [sizeLine_eq]
    have := hlp z hz
    have e : ("place " : Str).length = 6 := by decide +kernel
    omega
  · rw [strL_len, sizeLine_eq]
    omega
  rw [lpD_map]
  refine ⟨rfl, ?_⟩
  rw [look_lines, opt_some]
  show opt (itemsR (.d (.tup (tDs ts)))) _
  rw [tDs_eq]
  refine lcM2 ltD (fre_un rfl) (fre_un rfl) (by decide) _ [] (fun x hx P q => ?_) ?_ ?_
  · obtain ⟨⟨a, b⟩, hz, rfl⟩ := List.mem_map.mp hx
    have hl := hlt _ hz
    dsimp only at hl
    have e4 : (Str.empty ++ ("tie " : Str)).length = 4 := by decide +kernel
    have e1 : (" " : Str).length = 1 := by decide +kernel
    have la : (Str.empty ++ ("tie " : Str) ++ a).length = 4 + a.length := by rw [← e4]; exact len_app _ _
    have lb : (Str.empty ++ ("tie " : Str) ++ a ++ (" " : Str)).length = 4 + a.length + 1 := by rw [← la, ← e1]; exact len_app _ _
    have lc : (Str.empty ++ ("tie " : Str) ++ a ++ (" " : Str) ++ b).length = 4 + a.length + 1 + b.length := by rw [← lb]; exact len_app _ _
    have s1 : a.length ≤ sizeLine := by rw [sizeLine_eq]; omega
    have s2 : b.length ≤ sizeLine := by rw [sizeLine_eq]; omega
    refine ⟨by rw [e4, sizeLine_eq]; omega, s1, by rw [la, sizeLine_eq]; omega, by rw [lb, sizeLine_eq]; omega, s2, by rw [lc, sizeLine_eq]; omega, ?_⟩
    show persK _ _ (.d (.str (Str.empty ++ ("tie " : Str) ++ a ++ (" " : Str) ++ b)))
    rw [lineT_eq]
    exact q
  · rw [List.length_nil, List.length_map, sizeLine_eq]
    omega
  rw [ltD_map, List.nil_append]
  simp only [cont, opt_some, Cell.toD, itemsD]
  have e : (sDs (ss.map lineP)).map RV.d ++ ((sDs (ts.map lineT)).map RV.d ++ []) = (sDs (linesOf ss ts)).map RV.d := by
    unfold linesOf sDs
    rw [List.append_nil, List.map_append, List.map_append]
  rw [e, dAll_ds, opt_some]
  have ln : (linesOf ss ts).length = ss.length + ts.length := by
    unfold linesOf
    rw [List.length_append, List.length_map, List.length_map]
  refine ⟨by rw [strL_len, ln, sizeLine_eq]; omega, ?_⟩
  simp only [oJoin, itemsD, opt_some]
  unfold sDs
  rw [strsD_map, opt_some]
  refine ⟨?_, h⟩
  have e1 : ("\n" : Str).length = 1 := by decide +kernel
  rw [ln, e1]
  omega
end DL


namespace DL
open PySem PySem.Spec PyProof.Rows L2
theorem vc_pick : ∀ avs Q XP, spPick avs Q XP → w_pick (bodyN avs Q XP) (stOf 2 avs) := by
  rintro _ Q XP ⟨r, m, x, n, rfl, src, hl, n0, n1, k⟩
  show w_pick _ ([.p (SrcD r m), .b x] : S)
  unfold w_pick
  refine wret_i (wbin_i (wv_b rfl ?_))
  refine dr src n0 n1 (fun P h => ?_) fun i r' m' hi s => ?_
  · show opt (lenD x) _
    rw [hl]
    exact h
  · exact k i r' m' hi s
/-! ### mixed -/
def mixS (r m : Int) (x : D) (lot found : List D) : S := [.p (SrcD r m), .b x, .o (.lst lot), .o (.lst found)]
theorem mix_loop {N : DN} {x : D} {xs : List D} : ∀ (n : Nat) (lot found : List D) (r m : Int), lot.length = n → Src r m → (found ++ lot).Perm xs → xs.length < 100000 →
    (∀ ys r m, Src r m → ys.Perm xs → N.nx (mixS r m x [] ys)) → whileN (wTest (wBin oNe (wVar 2) (wLst wNil))) w_mixed_l1 N (n + 1) (mixS r m x lot found)
  | 0, lot, found, r, m, hn, src, hp, hx, k => by
    obtain rfl := List.length_eq_zero_iff.mp hn
    refine ⟨Nat.zero_le _, ?_⟩
    rw [List.append_nil] at hp
    exact k found r m src hp
  | n + 1, lot, found, r, m, hn, src, hp, hx, k => by
    have hsum : found.length + lot.length = xs.length := by
      rw [← List.length_append]
      exact hp.length_eq
    refine ⟨Nat.zero_le _, ?_⟩
    refine oNe_nil ?_
    have e : (decide (lot ≠ [])) = true := decide_eq_true (by rintro rfl; cases hn)
    rw [e]
    dsimp only [boolK]
    rw [if_pos rfl]
    refine ⟨rfl, rfl, ?_⟩
    refine wcons_i (wpers_i ?_)
    refine dr (rest := [.b x, .o (.lst lot), .o (.lst found)]) src (n := lot.length) (by omega) (by omega) (fun P h => h) fun i r' m' hi s => ?_
    refine ⟨by omega, by omega, ?_⟩
    show opt lot[((i : Nat) : Int).toNat]? _
    rw [show (((i : Nat) : Int)).toNat = i by omega, List.getElem?_eq_getElem hi, opt_some]
    refine ⟨by rw [sizeLine_eq]; omega, ?_⟩
    refine mix_loop n (lot.eraseIdx i) (found ++ [lot[i]]) r' m' (by rw [List.length_eraseIdx, if_pos hi]; omega) s ?_ hx k
    refine List.Perm.trans ?_ hp
    rw [List.append_assoc]
    exact List.Perm.append_left found (erase_perm lot i hi)
theorem vc_mixed : ∀ avs Q XP, spMixed avs Q XP → w_mixed (bodyN avs Q XP) (stOf 4 avs) := by
  rintro _ Q XP ⟨r, m, x, xs, rfl, src, hx, hl, h⟩
  show w_mixed _ ([.p (SrcD r m), .b x, .un, .un] : S)
  unfold w_mixed
  show opt (itemsD x) _
  rw [hx]
  refine ⟨Nat.zero_le _, trivial, trivial, ?_⟩
  refine ⟨xs.length + 1, mix_loop xs.length xs [] r m rfl src (List.Perm.refl _) hl fun ys r m s p => ?_⟩
  exact h ys p r m s
/-! ### a word -/
theorem word_loop {N : DN} : ∀ (n : Nat) (z : Str) (r m : Int) (l : List D) (s2 : Slot), l.length = n → z.length + n ≤ 8 → (∀ c ∈ z.cps.toList, c ∈ alphabet.cps.toList) → Src r m → (∀ c, s2 ≠ .p c) →
    (∀ z' r m s2, Src r m → z'.length = z.length + n → (∀ c ∈ z'.cps.toList, c ∈ alphabet.cps.toList) → N.nx ([.p (SrcD r m), .d (.str z'), s2] : S)) → loopN (gN 2) w_word_l1 N l ([.p (SrcD r m), .d (.str z), s2] : S)
  | 0, z, r, m, l, s2, hn, hz, ha, src, _, k => by
    obtain rfl := List.length_eq_zero_iff.mp hn
    exact k z r m s2 src rfl ha
  | n + 1, z, r, m, x :: l, s2, hn, hz, ha, src, h2, k => by
    refine ⟨?_, ?_⟩
    · show NoP ([.p (SrcD r m), .d (.str z), s2] : S) 2
      unfold NoP
      show match some s2 with | some (.p _) => False | some _ => True | none => False
      cases s2 <;> first | trivial | exact h2 _ rfl
    show w_word_l1 _ ([.p (SrcD r m), .d (.str z), .d x] : S)
    have hl : lenD (.str "abcdefghijklmnopqrstuvwxyz") = some 26 := by decide +kernel
    refine ⟨rfl, r, m, _, 26, rfl, src, hl, by decide, by decide, fun i r' m' hi s => ?_⟩
    have hat : alphabet.length = 26 := by decide +kernel
    have hcp : alphabet.cps.toList.length = 26 := by decide +kernel
    refine ⟨by rw [sizeLine_eq]; show alphabet.length ≤ _; omega, ?_⟩
    show opt (atI alphabet.cps.toList ((i : Nat) : Int)) _
    have hi2 : i < alphabet.cps.toList.length := by omega
    have e : atI alphabet.cps.toList ((i : Nat) : Int) = some alphabet.cps.toList[i] := by
      exact atI_nat (List.getElem?_eq_getElem hi2)
    rw [e, opt_some]
    have lc : (⟨#[alphabet.cps.toList[i]]⟩ : Str).length = 1 := rfl
    refine ⟨by rw [lc, sizeLine_eq]; omega, trivial, ?_⟩
    refine word_loop n (z ++ ⟨#[alphabet.cps.toList[i]]⟩) r' m' l (.d x) (by simpa using hn) ?_ ?_ s (fun _ => Slot.noConfusion) fun z' r m s2 s' hl' ha' => k z' r m s2 s' ?_ ha'
    · have : (z ++ (⟨#[alphabet.cps.toList[i]]⟩ : Str)).length = z.length + 1 := by
        rw [TL.len_tl, TL.tl_append, List.length_append, ← TL.len_tl]
        rfl
      omega
    · intro c hc
      have : (z ++ (⟨#[alphabet.cps.toList[i]]⟩ : Str)).cps.toList = z.cps.toList ++ [alphabet.cps.toList[i]] := TL.tl_append _ _
      rw [this] at hc
      rcases List.mem_append.mp hc with hc | hc
      · exact ha c hc
      · rw [List.mem_singleton.mp hc]
        exact List.getElem_mem _
    · have : (z ++ (⟨#[alphabet.cps.toList[i]]⟩ : Str)).length = z.length + 1 := by
        rw [TL.len_tl, TL.tl_append, List.length_append, ← TL.len_tl]
        rfl
      omega
theorem vc_word : ∀ avs Q XP, spWord avs Q XP → w_word (bodyN avs Q XP) (stOf 3 avs) := by
  rintro _ Q XP ⟨r, m, rfl, src, h⟩
  show w_word _ ([.p (SrcD r m), .un, .un] : S)
  unfold w_word
  refine wseq_i (wasg_i (wc_i ⟨trivial, ?_⟩))
  dsimp only
  refine wseq_i (wfor_i ?_)
  unfold wItR1
  refine wcons_i (wbin_i (wc_i ?_))
  refine dr src (n := 8) (by decide) (by decide) (fun P h => h) fun i r' m' hi s => ?_
  refine ⟨by omega, by omega, ?_⟩
  have en : (1 + ((i : Nat) : Int)).toNat = i + 1 := by omega
  show loopN _ _ _ ((List.range (1 + ((i : Nat) : Int)).toNat).map fun i => D.int (0 + (i : Nat))) _
  rw [en]
  refine word_loop (i + 1) "" r' m' _ .un (by simp) (by show 0 + (i + 1) ≤ 8; omega) (fun c hc => nomatch hc) s (fun _ => Slot.noConfusion) fun z' r m s2 s' hl ha => ?_
  have e0 : (("" : Str)).length = 0 := rfl
  refine h z' ?_ r m s'
  unfold isNameB
  rw [Bool.and_eq_true, Bool.and_eq_true, decide_eq_true_eq, decide_eq_true_eq, List.all_eq_true]
  exact ⟨⟨by omega, by omega⟩, fun c hc => decide_eq_true (ha c hc)⟩
end DL


namespace DL
open PySem PySem.Spec PyProof.Rows L2
def rlS (ss : List Str) (ts : List (Str × Str)) (line : Str) (ws : List Str) : S := [.p (.lst (sDs ss)), .p (.lst (tDs ts)), .d (.str line), .o (.lst (sDs ws))]
theorem at0 {w : Str} {r : List Str} : atI (sDs (w :: r)) 0 = some (.str w) := atI_nat (xs := sDs (w :: r)) (j := 0) rfl
theorem at1 {w a : Str} {r : List Str} : atI (sDs (w :: a :: r)) 1 = some (.str a) := atI_nat (xs := sDs (w :: a :: r)) (j := 1) rfl
theorem at2 {w a b : Str} {r : List Str} : atI (sDs (w :: a :: b :: r)) 2 = some (.str b) := atI_nat (xs := sDs (w :: a :: b :: r)) (j := 2) rfl
theorem tDs_nil {ts : List (Str × Str)} : decide (tDs ts = []) = decide (ts = []) := by
  cases ts <;> rfl
theorem sDs_nil {ss : List Str} : decide (sDs ss = []) = decide (ss = []) := by
  cases ss <;> rfl
theorem len_eq {r : List Str} {w : Str} (k : Nat) : (((sDs (w :: r)).length : Int) == ((k + 1 : Nat) : Int)) = decide (r.length = k) := by
  rw [strL_len, List.length_cons]
  by_cases e : r.length = k
  · rw [e, decide_eq_true rfl, beq_self_eq_true]
  · rw [decide_eq_false e, beq_eq_false_iff_ne]
    omega
theorem sDs_ne {ss : List Str} : decide (sDs ss ≠ []) = decide (ss ≠ []) := by
  cases ss <;> simp [sDs]
theorem rl_t1 {ss : List Str} {ts : List (Str × Str)} {line w : Str} {r : List Str} {P : Bool → S → Prop} {E : XC} (h : P (decide (w = "place" ∧ r.length = 1 ∧ ts = [])) (rlS ss ts line (w :: r))) :
    wAnd (wTest (wBin oEq (wBin oIx (wVar 3) (wC (.int 0))) (wC (.str "place")))) (wAnd (wTest (wBin oEq (wCB (on1 oLen) (wCons (wVar 3) wNil)) (wC (.int 2)))) (wTest (wBin oEq (wVar 1) (wLst wNil)))) (rlS ss ts line (w :: r)) P E := by
  refine wand_i (weqs (z := w) (fun P h => wixl rfl at0 h) ?_)
  by_cases e1 : w = "place"
  · rw [if_pos (by rw [e1]; exact beq_self_eq_true _)]
    refine wand_i (weqi (n := (((sDs (w :: r)).length : Nat) : Int)) (fun P h => wlenv rfl rfl h) ?_)
    rw [show (2 : Int) = ((1 + 1 : Nat) : Int) by decide, len_eq 1]
    by_cases e2 : r.length = 1
    · rw [decide_eq_true e2, if_pos rfl]
      refine weqn rfl ?_
      rw [tDs_nil]
      have e : decide (w = "place" ∧ r.length = 1 ∧ ts = []) = decide (ts = []) := by rw [decide_eq_decide]; exact ⟨fun z => z.2.2, fun z => ⟨e1, e2, z⟩⟩
      rw [e] at h
      exact h
    · rw [decide_eq_false e2, if_neg Bool.false_ne_true]
      rw [decide_eq_false fun z => e2 z.2.1] at h
      exact h
  · rw [if_neg (by rw [beq_eq_false_iff_ne.mpr e1]; exact Bool.false_ne_true)]
    rw [decide_eq_false fun z => e1 z.1] at h
    exact h
theorem rl_t2 {ss : List Str} {ts : List (Str × Str)} {line w : Str} {r : List Str} {P : Bool → S → Prop} {E : XC} (h : P (decide (w = "tie" ∧ r.length = 2 ∧ ss ≠ [])) (rlS ss ts line (w :: r))) :
    wAnd (wTest (wBin oEq (wBin oIx (wVar 3) (wC (.int 0))) (wC (.str "tie")))) (wAnd (wTest (wBin oEq (wCB (on1 oLen) (wCons (wVar 3) wNil)) (wC (.int 3)))) (wTest (wBin oNe (wVar 0) (wLst wNil)))) (rlS ss ts line (w :: r)) P E := by
  refine wand_i (weqs (z := w) (fun P h => wixl rfl at0 h) ?_)
  by_cases e1 : w = "tie"
  · rw [if_pos (by rw [e1]; exact beq_self_eq_true _)]
    refine wand_i (weqi (n := (((sDs (w :: r)).length : Nat) : Int)) (fun P h => wlenv rfl rfl h) ?_)
    rw [show (3 : Int) = ((2 + 1 : Nat) : Int) by decide, len_eq 2]
    by_cases e2 : r.length = 2
    · rw [decide_eq_true e2, if_pos rfl]
      refine wnen rfl ?_
      rw [sDs_ne]
      have e : decide (w = "tie" ∧ r.length = 2 ∧ ss ≠ []) = decide (ss ≠ []) := by rw [decide_eq_decide]; exact ⟨fun z => z.2.2, fun z => ⟨e1, e2, z⟩⟩
      rw [e] at h
      exact h
    · rw [decide_eq_false e2, if_neg Bool.false_ne_true]
      rw [decide_eq_false fun z => e2 z.2.1] at h
      exact h
  · rw [if_neg (by rw [beq_eq_false_iff_ne.mpr e1]; exact Bool.false_ne_true)]
    rw [decide_eq_false fun z => e1 z.1] at h
    exact h
/-- Web tried -/
theorem rl_try {CW cBP cBI : Addr} {N : DN} {ss : List Str} {ts : List (Str × Str)} {line : Str} {ws : List Str} (hs : ss.length ≤ 1000) (ht : ts.length ≤ 100000) (lz : ∀ z ∈ ss, z.length ≤ 1000000) (good : okP ss → okT ss ts → N.nx (rlS ss ts line ws))
    (bad : ¬ (okP ss ∧ okT ss ts) → N.rt (.d (.bl false)) (rlS ss ts line ws)) :
    wTry (wDrop (wCall [.b, .b] (spWeb CW cBP cBI) (wCons (wVar 0) (wCons (wVar 1) wNil)))) [hdP [cBP, cBI] (wRet (wC (.bl false)))] N (rlS ss ts line ws) := by
  show wDrop _ { N with ex := hdN N [hdP [cBP, cBI] (wRet (wC (.bl false)))] } _
  refine wdrop_i (wcall_i (wcons_i (wv_p rfl (wcons_i (wv_p rfl (wnil_i (opt_i rfl ⟨rfl, _, _, ss, ts, rfl, .inl rfl, .inl rfl, hs, ht, lz, ?_, fun p => ⟨fun t => good p t, fun t i => ?_⟩⟩)))))))
  · intro p
    refine opt_i (x := true) (if_pos (by simp)) ?_
    rw [if_pos rfl]
    exact ⟨rfl, bad fun z => p z.1⟩
  · refine opt_i (x := true) (if_pos (by simp)) ?_
    rw [if_pos rfl]
    exact ⟨trivial, fun a dd => bad fun z => t z.2⟩
theorem sDs_app {ss : List Str} {z : Str} : sDs (ss ++ [z]) = sDs ss ++ [.str z] := by
  unfold sDs
  rw [List.map_append]
  rfl
theorem tDs_app {ts : List (Str × Str)} {t : Str × Str} : tDs (ts ++ [t]) = tDs ts ++ [pairD t] := by
  unfold tDs
  rw [List.map_append]
  rfl
theorem name_len {z : Str} (h : isNameB z = true) : z.length ≤ 8 := by
  unfold isNameB at h
  rw [Bool.and_eq_true, Bool.and_eq_true, decide_eq_true_eq, decide_eq_true_eq] at h
  exact h.1.2
theorem vc_readline {CW cBP cBI : Addr} : ∀ avs Q XP, spReadLine avs Q XP → w_readline CW cBP cBI (bodyN avs Q XP) (stOf 4 avs) := by
  rintro _ Q XP ⟨ss, ts, line, rfl, hl, gp, gt, ge, htl, good, bad⟩
  show w_readline CW cBP cBI _ ([.p (.lst (sDs ss)), .p (.lst (tDs ts)), .d (.str line), .un] : S)
  have hss : ss.length ≤ 12 ∧ ∀ z ∈ ss, z.length ≤ 8 := by
    rcases gp with rfl | h
    · exact ⟨by simp, fun z hz => nomatch hz⟩
    · exact ⟨h.2.1, fun z hz => name_len (h.2.2.1 z hz)⟩
  have hsum := words_sum line
  have hwl : ∀ z ∈ Txt.split line " ", z.length ≤ 100000 := fun z hz => by
    have := le_sum hz
    have : 0 < (Txt.split line " ").length := List.length_pos_of_mem hz
    omega
  unfold w_readline
  refine wseq_i (wasg_i (wm1_i (wv_d rfl (wc_i ⟨by decide +kernel, by rw [sizeLine_eq]; omega, trivial, ?_⟩))))
  dsimp only
  show wSeq _ _ _ (rlS ss ts line (Txt.split line " "))
  have hstep : stepL ss ts line = stepL ss ts line := rfl
  unfold stepL at good bad
  cases hws : Txt.split line " " with
  | nil => exact absurd hws (words_ne line)
  | cons w r =>
  rw [hws] at good bad hwl
  refine wseq_i (wifs_i (rl_t1 ?_))
  by_cases c1 : w = "place" ∧ r.length = 1 ∧ ts = []
  · rw [decide_eq_true c1, if_pos rfl]
    obtain ⟨rfl, hr, rfl⟩ := c1
    match r, hr with
    | [z], _ =>
    dsimp only at good bad
    refine wapp rfl (fun P h => wixl rfl at1 h) (by rw [strL_len, sizeLine_eq]; omega) ?_
    rw [← sDs_app]
    dsimp only
    refine wseq_i ?_
    refine rl_try (ss := ss ++ [z]) (ts := []) (ws := ["place", z]) (by rw [List.length_append, List.length_singleton]; omega) (by simp) (fun y hy => ?_) (fun p t => ?_) fun nb => ?_
    · rcases List.mem_append.mp hy with hy | hy
      · have := hss.2 y hy
        omega
      · rw [List.mem_singleton.mp hy]
        have := hwl z (by simp)
        omega
    · have q := good (ss ++ [z]) [] (by rw [if_pos ⟨rfl, rfl, (okP_snoc gp).mp p⟩])
      exact q
    · have q := bad (by rw [if_neg fun z2 => nb ⟨(okP_snoc gp).mpr z2.2.2, trivial⟩]) (sDs (ss ++ [z])) []
      exact q
  · rw [decide_eq_false c1, if_neg Bool.false_ne_true]
    refine wifs_i (rl_t2 ?_)
    by_cases c2 : w = "tie" ∧ r.length = 2 ∧ ss ≠ []
    · rw [decide_eq_true c2, if_pos rfl]
      obtain ⟨rfl, hr, hne⟩ := c2
      have okp : okP ss := gp.resolve_left hne
      match r, hr with
      | [a, b], _ =>
      dsimp only at good bad
      refine wapp rfl (fun P h => wtup2 (fun P h => wixl rfl at1 h) (fun P h => wixl rfl at2 h) h) (by rw [tD_len, sizeLine_eq]; omega) ?_
      have e : (tDs ts ++ [D.tup [.str a, .str b]]) = tDs (ts ++ [(a, b)]) := (tDs_app (t := (a, b))).symm
      rw [e]
      dsimp only
      refine wseq_i ?_
      refine rl_try (ss := ss) (ts := ts ++ [(a, b)]) (ws := ["tie", a, b]) (by omega) (by rw [List.length_append, List.length_singleton]; omega) (fun y hy => by have := hss.2 y hy; omega) (fun p t => ?_) fun nb => ?_
      · have q := good ss (ts ++ [(a, b)]) (by rw [if_pos ⟨rfl, (okT_snoc.mp t).2⟩])
        exact q
      · have q := bad (by rw [if_neg fun z2 => nb ⟨okp, okT_snoc.mpr ⟨gt, z2.2⟩⟩]) (sDs ss) (tDs (ts ++ [(a, b)]))
        exact q
    · rw [decide_eq_false c2, if_neg Bool.false_ne_true]
      refine wret_i (wc_i ?_)
      refine bad ?_ (sDs ss) (tDs ts)
      split
      · rename_i w' z e
        cases e
        rw [if_neg]
        rintro ⟨h1, h2, _⟩
        exact c1 ⟨h1, rfl, h2⟩
      · rename_i w' a b e
        cases e
        rw [if_neg]
        rintro ⟨h1, h2⟩
        refine c2 ⟨h1, rfl, fun e => ?_⟩
        have := h2.1.1
        rw [e] at this
        cases this
      · rfl
end DL


namespace DL
open PySem PySem.Spec PyProof.Rows L2
def rwS (text : Str) (ss : List Str) (ts : List (Str × Str)) (s3 s4 : Slot) : S := [.d (.str text), .o (.lst (sDs ss)), .o (.lst (tDs ts)), s3, s4]
theorem sl_nop {c : Slot} (h : Sl c) : ∀ (st : S) (i : Nat), st[i]? = some c → NoP st i := fun st i e => by
  unfold NoP
  rw [e]
  rcases h with rfl | ⟨x, rfl⟩ <;> trivial
theorem rw_loop {CW cBP cBI cTX : Addr} {N : DN} {text : Str} : ∀ (ls : List Str) (n : Nat) (ss : List Str) (ts : List (Str × Str)) (s3 s4 : Slot), Sl s3 → Sl s4 → Gd ss ts → (∀ l ∈ ls, l.length ≤ 100000) → ts.length + ls.length ≤ 50000 →
    (∀ k, runL n ls ss ts = .inl k → ∀ st, N.ex cTX (some ("line", .int (k : Nat))) st) → (∀ ss' ts', runL n ls ss ts = .inr (ss', ts') → ∀ s3 s4, N.nx (rwS text ss' ts' s3 s4)) → loopN (gT [(gN 3), (gN 4)]) (w_readweb_l1 CW cBP cBI cTX) N (enumD n (sDs ls)) (rwS text ss ts s3 s4)
  | [], n, ss, ts, s3, s4, h3, h4, g, hl, hz, bad, good => good ss ts rfl s3 s4
  | l :: ls, n, ss, ts, s3, s4, h3, h4, g, hl, hz, bad, good => by
    refine ⟨rfl, ?_⟩
    refine ⟨sl_nop h3 _ _ rfl, ?_⟩
    refine ⟨sl_nop h4 _ _ rfl, ?_⟩
    show w_readweb_l1 CW cBP cBI cTX _ (rwS text ss ts (.d (.int (n : Nat))) (.d (.str l)))
    unfold w_readweb_l1
    rw [List.length_cons] at hz
    unfold runL at bad good
    refine wifs_i (wnot_i (wtest_i (wcall_i (wcons_i (wv_o rfl (wcons_i (wv_o rfl (wcons_i (wpd (fun P h => wv_d rfl h) (wnil_i ?_))))))))))
    refine opt_i rfl ⟨rfl, ss, ts, l, rfl, hl l List.mem_cons_self, g.p, g.t, g.e, by omega, fun ss' ts' e => ?_, fun e xs ys => ?_⟩
    · dsimp only [boolK]
      rw [Bool.not_true, if_neg Bool.false_ne_true]
      rw [e] at bad good
      obtain ⟨g', _, _, z'⟩ := stepL_some g e
      exact rw_loop (CW := CW) (cBP := cBP) (cBI := cBI) ls (n + 1) ss' ts' _ _ (.inr ⟨_, rfl⟩) (.inr ⟨_, rfl⟩) g' (fun y hy => hl y (List.mem_cons_of_mem _ hy)) (by omega) bad good
    · dsimp only [boolK]
      rw [Bool.not_false, if_pos rfl]
      rw [e] at bad
      exact bad (n + 1) rfl _
theorem isStrN {a : String} (h : a ≠ "str") (ht : ∃ x, tyS x = some a) : tyIn a ["str"] = false := by
  obtain ⟨x, hx⟩ := ht
  cases x <;> cases hx <;> first | rfl | exact absurd rfl h | decide +kernel
theorem vc_readweb {CW cBP cBI cTX : Addr} : ∀ avs Q XP, spReadWeb CW cTX avs Q XP → w_readweb CW cBP cBI cTX (bodyN avs Q XP) (stOf 5 avs) := by
  rintro _ Q XP (⟨text, rfl, hl, bad, good⟩ | ⟨x, a, rfl, ha, hn, h⟩)
  · show w_readweb CW cBP cBI cTX _ ([.d (.str text), .un, .un, .un, .un] : S)
    unfold w_readweb
    refine wseq_i (wifs_i (wnot_i (wtest_i (wisi_i (x := .str text) (a := "str") rfl rfl ?_))))
    rw [isStr]
    dsimp only [boolK]
    rw [Bool.not_true, if_neg Bool.false_ne_true]
    show wSeq _ _ _ _
    refine wseq_i (wpar_i (wlst_i (wnil_i (opt_i rfl ⟨Nat.zero_le _, wlst_i (wnil_i (opt_i rfl ⟨Nat.zero_le _, ?_⟩))⟩))))
    refine ⟨trivial, trivial, ?_⟩
    have hsum := lines_sum text
    have hll : ∀ l ∈ Txt.split text "\n", l.length ≤ 100000 := fun z hz => by
      have := le_sum hz
      have : 0 < (Txt.split text "\n").length := List.length_pos_of_mem hz
      omega
    dsimp only
    refine wseq_i (wfor_i (wena_i ?_))
    refine wpn (c := .lst (sDs (Txt.split text "\n"))) (fun P h => wm1_i (wv_d rfl (wc_i ⟨by decide +kernel, by rw [sizeLine_eq]; omega, h⟩))) ?_
    refine opt_i rfl ?_
    refine rw_loop (CW := CW) (cBP := cBP) (cBI := cBI) (text := text) (Txt.split text "\n") 0 [] [] .un .un (.inl rfl) (.inl rfl) gd_nil hll (by simp; omega) (fun k e st => ?_) fun ss' ts' e s3 s4 => ?_
    · exact bad k e
    · obtain ⟨h1, h2, h3, h4, h5⟩ := runT_some e
      dsimp only
      refine wret_i (wcall_i (wcons_i (wv_o rfl (wcons_i (wv_o rfl (wnil_i (opt_i rfl ⟨rfl, _, _, ss', ts', rfl, .inl rfl, .inl rfl, ?_, ?_, fun z hz => ?_, fun p => absurd h1 p, fun _ => ⟨fun _ => ?_, fun p => absurd h2 p⟩⟩)))))))
      · have := h1.2.1
        omega
      · omega
      · have := name_len (h1.2.2.1 z hz)
        omega
      · exact good ss' ts' e h1 h2
  · show w_readweb CW cBP cBI cTX _ ([.d x, .un, .un, .un, .un] : S)
    unfold w_readweb
    refine wseq_i (wifs_i (wnot_i (wtest_i (wisi_i (x := x) rfl ha ?_))))
    rw [isStrN hn ⟨x, ha⟩]
    dsimp only [boolK]
    rw [Bool.not_false, if_pos rfl]
    exact h
theorem vc_told {CW cTX : Addr} : ∀ avs Q XP, spTold avs Q XP → w_told CW cTX (bodyN avs Q XP) (stOf 3 avs) := by
  rintro _ Q XP (⟨text, rfl, hl, h⟩ | ⟨x, a, rfl, ha, hn, h⟩)
  · show w_told CW cTX _ ([.d (.str text), .un, .un] : S)
    unfold w_told
    refine wseq_i ?_
    show wAsg 1 _ { nx := _, rt := _, bk := _, ct := _, ex := hdN _ [hdX cTX 2 (fun a dd => (wRet (wXf a dd "line" 2)))] } _
    refine wasg_i (wcall_i (wcons_i (wpd (fun P h => wv_d rfl h) (wnil_i ?_))))
    refine opt_i rfl ?_
    refine ⟨rfl, Or.inl ⟨text, rfl, hl, fun n e => ?_, fun ss ts e p t => ?_⟩⟩
    · refine opt_i (x := true) (if_pos rfl) ?_
      rw [if_pos rfl]
      refine ⟨trivial, fun a dd => ?_⟩
      refine ⟨rfl, rfl, rfl, ?_⟩
      have e2 : firstBad text = n := by unfold firstBad; rw [e]
      rw [e2] at h
      exact h
    · obtain ⟨h1, h2, h3, h4, h5⟩ := runT_some e
      have e2 : firstBad text = 0 := by unfold firstBad; rw [e]
      rw [e2] at h
      have hsum := lines_sum text
      refine ⟨trivial, ?_⟩
      dsimp only
      refine wret_i (wif_i (wtest_i (wbin_i (wcall_i (wcons_i (wpd (fun P h => wv_d rfl h) (wnil_i (opt_i rfl ⟨rfl, ss, ts, rfl, ?_, by omega, ?_, ?_⟩))))))))
      · have := h1.2.1
        omega
      · rw [h3]
        omega
      · rw [h4]
        refine wv_d rfl (opt_i rfl (opt_i rfl (opt_i (x := (text == text)) rfl ?_)))
        rw [beq_self_eq_true]
        dsimp only [boolK]
        rw [if_pos rfl]
        exact h
  · show w_told CW cTX _ ([.d x, .un, .un] : S)
    unfold w_told
    refine wseq_i ?_
    show wAsg 1 _ { nx := _, rt := _, bk := _, ct := _, ex := hdN _ [hdX cTX 2 (fun a dd => (wRet (wXf a dd "line" 2)))] } _
    refine wasg_i (wcall_i (wcons_i (wpd (fun P h => wv_d rfl h) (wnil_i ?_))))
    refine opt_i rfl ?_
    refine ⟨rfl, Or.inr ⟨x, a, rfl, ha, hn, ?_⟩⟩
    refine opt_i (x := true) (if_pos rfl) ?_
    rw [if_pos rfl]
    refine ⟨trivial, fun a dd => ?_⟩
    refine ⟨rfl, rfl, rfl, ?_⟩
    exact h
end DL


namespace DL
open PySem PySem.Spec PyProof.Rows L2 TL
theorem inL_map {α : Type} [DecidableEq α] {f : α → D} (h : ∀ x y, deqN 40 (f x) (f y) = some (decide (x = y))) {z : α} : ∀ l : List α, inL 40 (f z) (l.map f) = some (decide (z ∈ l))
  | [] => rfl
  | p :: l => by
    show (match deqN 40 (f p) (f z), inL 40 (f z) (l.map f) with
      | some a, some b => some (a || b)
      | _, _ => none) = _
    rw [inL_map h l, h]
    dsimp only
    congr 1
    by_cases e : p = z
    · subst e
      simp
    · by_cases m : z ∈ l
      · simp [m]
      · simp [m, e, Ne.symm e]
def qD (q : Str × Str) : D := .lst [.str q.1, .str q.2]
theorem deq_q (x y : Str × Str) : deqN 40 (qD x) (qD y) = some (decide (x = y)) := by
  obtain ⟨a, b⟩ := x
  obtain ⟨c, d⟩ := y
  show some ((a == c) && ((b == d) && true)) = _
  congr 1
  by_cases e : a = c
  · by_cases e2 : b = d
    · subst e e2; simp
    · have : (b == d) = false := beq_eq_false_iff_ne.mpr e2
      simp [this, e2]
  · have : (a == c) = false := beq_eq_false_iff_ne.mpr e
    simp [this, e]
theorem lt_anti : ∀ a b : List Nat, ltCps a b = false → ltCps b a = false → a = b
  | [], [], _, _ => rfl
  | [], _ :: _, h, _ => by cases h
  | _ :: _, [], _, h => by cases h
  | a :: r, b :: t, h1, h2 => by
    unfold ltCps at h1 h2
    simp only [Bool.or_eq_false_iff, decide_eq_false_iff_not, Bool.and_eq_false_iff, beq_eq_false_iff_ne] at h1 h2
    have e : a = b := by omega
    subst e
    rw [lt_anti r t (h1.2.resolve_left fun z => z rfl) (h2.2.resolve_left fun z => z rfl)]
def srt (t : Str × Str) : Str × Str := if ltCps t.2.cps.toList t.1.cps.toList = true then (t.2, t.1) else t
theorem srt_cases (t : Str × Str) : srt t = t ∨ srt t = (t.2, t.1) := by
  unfold srt
  split
  · exact .inr rfl
  · exact .inl rfl
theorem srt_swap (a b : Str) : srt (b, a) = srt (a, b) := by
  unfold srt
  dsimp only
  cases h1 : ltCps a.cps.toList b.cps.toList with
  | true =>
    cases h2 : ltCps b.cps.toList a.cps.toList with
    | true =>
      exfalso
      have irr : ∀ x y : List Nat, ltCps x y = true → ltCps y x = true → False := by
        intro x
        induction x with
        | nil => intro y h1 h2; cases y <;> cases h2
        | cons p r ih =>
          intro y h1 h2
          cases y with
          | nil => cases h1
          | cons q t =>
            unfold ltCps at h1 h2
            simp only [Bool.or_eq_true, decide_eq_true_eq, Bool.and_eq_true, beq_iff_eq] at h1 h2
            rcases h1 with h1 | ⟨_, h1⟩ <;> rcases h2 with h2 | ⟨_, h2⟩ <;> first | omega | exact ih t h1 h2
      exact irr _ _ h1 h2
    | false => simp
  | false =>
    cases h2 : ltCps b.cps.toList a.cps.toList with
    | true => simp
    | false =>
      have e : a = b := ext_tl (lt_anti _ _ h1 h2)
      subst e
      simp
theorem srt_perm {a b : Str} {ys : List Str} (hp : ys.Perm [a, b]) (hs : sortedS ys = true) : ys = [(srt (a, b)).1, (srt (a, b)).2] := by
  have hl : ys.length = 2 := hp.length_eq
  match ys, hl with
  | [x, y], _ =>
  have hs : (!ltCps y.cps.toList x.cps.toList && true) = true := hs
  rw [Bool.and_true, Bool.not_eq_true'] at hs
  have key : srt (x, y) = (x, y) := by
    unfold srt
    rw [if_neg (by rw [hs]; exact Bool.false_ne_true)]
  have e : srt (a, b) = srt (x, y) := by
    have hx : x ∈ [a, b] := hp.mem_iff.mp (by simp)
    rcases List.mem_cons.mp hx with e1 | hx
    · subst e1
      have := hp.cons_inv
      have hy : [y].Perm [b] := this
      have : y = b := by
        have := hy.mem_iff.mp (List.mem_singleton.mpr rfl)
        exact List.mem_singleton.mp this
      subst this
      rfl
    · have e1 : x = b := List.mem_singleton.mp hx
      subst e1
      have h2 : [x, y].Perm [x, a] := hp.trans (List.Perm.swap x a [])
      have hy : [y].Perm [a] := h2.cons_inv
      have : y = a := List.mem_singleton.mp (hy.mem_iff.mp (List.mem_singleton.mpr rfl))
      subst this
      exact srt_swap x y
  rw [e, key]
theorem srt_mem {ts : List (Str × Str)} {a b : Str} : srt (a, b) ∈ ts.map srt ↔ (a, b) ∈ ts ∨ (b, a) ∈ ts := by
  rw [List.mem_map]
  constructor
  · rintro ⟨⟨c, d⟩, hm, e⟩
    rcases srt_cases (a, b) with h1 | h1 <;> rcases srt_cases (c, d) with h2 | h2 <;> rw [h1, h2] at e <;> cases e
    · exact .inl hm
    · exact .inr hm
    · exact .inr hm
    · exact .inl hm
  · rintro (h | h)
    · exact ⟨_, h, rfl⟩
    · exact ⟨_, h, srt_swap a b⟩
def Np (c : Slot) : Prop := ∀ x, c ≠ .p x
theorem np_nop {c : Slot} (h : Np c) (st : S) (i : Nat) (e : st[i]? = some c) : NoP st i := by
  unfold NoP
  rw [e]
  cases c <;> first | trivial | exact h _ rfl
def fbS (text : Str) (ss : List Str) (ts : List (Str × Str)) (s3 s4 s5 s6 : Slot) : S := [.d (.str text), .o (.lst (sDs ss)), .o (.lst ((ts.map srt).map qD)), s3, s4, s5, s6]
theorem wret1 {N : DN} {st : S} {n : Nat} (h : st[3]? = some (.d (.int (n : Nat)))) (k : N.rt (.d (.int ((n + 1 : Nat) : Int))) st) : wRet (wBin oAdd (wVar 3) (wC (.int 1))) N st := wret_i (wbin_i (wv_d h k))
theorem tst2 {st : S} {i : Nat} {w v : Str} {r : List Str} {k : Nat} {P : Bool → S → Prop} {E : XC} (hi : slotD st[i]? = some (.lst (sDs (w :: r)))) (h : P (decide (w = v ∧ r.length = k)) st) :
    wAnd (wTest (wBin oEq (wBin oIx (wVar i) (wC (.int 0))) (wC (.str v)))) (wTest (wBin oEq (wCB (on1 oLen) (wCons (wVar i) wNil)) (wC (.int ((k + 1 : Nat) : Int))))) st P E := by
  refine wand_i (weqs (z := w) (fun P h => wixl hi at0 h) ?_)
  by_cases e1 : w = v
  · rw [if_pos (by rw [e1]; exact beq_self_eq_true _)]
    refine weqi (n := (((sDs (w :: r)).length : Nat) : Int)) (fun P h => wlenv hi rfl h) ?_
    rw [len_eq k]
    have e : decide (w = v ∧ r.length = k) = decide (r.length = k) := by rw [decide_eq_decide]; exact ⟨fun z => z.2, fun z => ⟨e1, z⟩⟩
    rw [← e]
    exact h
  · rw [if_neg (by rw [beq_eq_false_iff_ne.mpr e1]; exact Bool.false_ne_true)]
    rw [decide_eq_false fun z => e1 z.1] at h
    exact h
theorem map_nil_ne {ts : List (Str × Str)} : decide ((ts.map srt).map qD ≠ []) = decide (ts ≠ []) := by
  cases ts <;> simp
theorem dnT {p : Prop} [Decidable p] (h : ¬ p) : (decide ¬ p) = true := decide_eq_true h
theorem fb_t1 {text l z w : Str} {ss : List Str} {ts : List (Str × Str)} {s3 s6 : Slot} {P : Bool → S → Prop} {E : XC} (hz : z.length ≤ 1000000) (h : P (decide ¬ (ts = [] ∧ ss.length ≤ 11 ∧ z ∉ ss ∧ isNameB z = true)) (fbS text ss ts s3 (.d (.str l)) (.o (.lst (sDs [w, z]))) s6)) :
    wOr (wTest (wBin oNe (wVar 2) (wLst wNil))) (wOr (wTest (wBin oGt (wCB (on1 oLen) (wCons (wVar 1) wNil)) (wC (.int 11)))) (wOr (wTest (wBin oIn (wBin oIx (wVar 5) (wC (.int 1))) (wVar 1))) (wNot (wTest (wCall [.d] spLawIsName (wCons (wPers (wBin oIx (wVar 5) (wC (.int 1)))) wNil))))))
      (fbS text ss ts s3 (.d (.str l)) (.o (.lst (sDs [w, z]))) s6) P E := by
  refine wor_i (wnen rfl ?_)
  rw [map_nil_ne]
  by_cases c1 : ts = []
  · rw [decide_eq_false (fun z => z c1), if_neg Bool.false_ne_true]
    refine wor_i (wgti (n := (((sDs ss).length : Nat) : Int)) (fun P h => wlenv rfl rfl h) ?_)
    by_cases c2 : ss.length ≤ 11
    · rw [decide_eq_false (by rw [strL_len]; omega), if_neg Bool.false_ne_true]
      refine wor_i (win2 (x := .str z) (b' := decide (z ∈ ss)) (fun P h => wixl rfl at1 h) rfl (inL_strs ss) ?_)
      by_cases c3 : z ∈ ss
      · rw [decide_eq_true c3, if_pos rfl]
        rw [dnT fun q => q.2.2.1 c3] at h
        exact h
      · rw [decide_eq_false c3, if_neg Bool.false_ne_true]
        refine wnot_i (wtest_i (wcall_i (wcons_i (wpd (fun P h => wixl rfl at1 h) (wnil_i (opt_i rfl ⟨rfl, z, rfl, hz, ?_⟩))))))
        dsimp only [boolK]
        have e : decide (¬ (ts = [] ∧ ss.length ≤ 11 ∧ z ∉ ss ∧ isNameB z = true)) = !isNameB z := by
          cases q : isNameB z with
          | true => exact decide_eq_false fun w => w ⟨c1, c2, c3, rfl⟩
          | false => exact decide_eq_true fun w => Bool.false_ne_true w.2.2.2
        rw [← e]
        exact h
    · rw [decide_eq_true (by rw [strL_len]; omega), if_pos rfl]
      rw [dnT fun q => c2 q.2.1] at h
      exact h
  · rw [decide_eq_true c1, if_pos rfl]
    rw [dnT fun q => c1 q.1] at h
    exact h
theorem fb_t2 {text l a b : Str} {ss : List Str} {ts : List (Str × Str)} {s3 s5 : Slot} {P : Bool → S → Prop} {E : XC} (h : P (decide ¬ okTie ss ts (a, b)) (fbS text ss ts s3 (.d (.str l)) s5 (.o (.lst (sDs [(srt (a, b)).1, (srt (a, b)).2]))))) :
    wOr (wTest (wBin oIn (wVar 6) (wVar 2))) (wOr (wTest (wBin oEq (wBin oIx (wVar 6) (wC (.int 0))) (wBin oIx (wVar 6) (wC (.int 1))))) (wOr (wTest (wBin oNin (wBin oIx (wVar 6) (wC (.int 0))) (wVar 1))) (wTest (wBin oNin (wBin oIx (wVar 6) (wC (.int 1))) (wVar 1)))))
      (fbS text ss ts s3 (.d (.str l)) s5 (.o (.lst (sDs [(srt (a, b)).1, (srt (a, b)).2])))) P E := by
  have hq : isIn (qD (srt (a, b))) (.lst ((ts.map srt).map qD)) = some (decide (srt (a, b) ∈ ts.map srt)) := by
    show inL 40 _ _ = _
    rw [inL_map deq_q]
    congr
  refine wor_i (winv (x := qD (srt (a, b))) (i := 2) (j := 6) rfl rfl hq ?_)
  have e1 : decide (srt (a, b) ∈ ts.map srt) = decide ((a, b) ∈ ts ∨ (b, a) ∈ ts) := by rw [decide_eq_decide]; exact srt_mem
  rw [e1]
  have e2 : ((srt (a, b)).1 == (srt (a, b)).2) = (a == b) := by
    rcases srt_cases (a, b) with e | e <;> rw [e]
    exact BEq.comm
  have e3 : ((srt (a, b)).1 ∉ ss ∨ (srt (a, b)).2 ∉ ss) ↔ (a ∉ ss ∨ b ∉ ss) := by
    rcases srt_cases (a, b) with e | e <;> rw [e]
    exact Or.comm
  by_cases c1 : (a, b) ∈ ts ∨ (b, a) ∈ ts
  · rw [decide_eq_true c1, if_pos rfl]
    rw [dnT fun q => c1.elim q.2.1 q.2.2] at h
    exact h
  rw [decide_eq_false c1, if_neg Bool.false_ne_true]
  refine wor_i (weq2 (z := (srt (a, b)).1) (y := (srt (a, b)).2) (fun P h => wixl rfl at0 h) (fun P h => wixl rfl at1 h) ?_)
  rw [e2]
  by_cases c2 : a = b
  · rw [if_pos (by rw [c2]; exact beq_self_eq_true _)]
    rw [dnT fun q => q.1.2.2 c2] at h
    exact h
  rw [if_neg (by rw [beq_eq_false_iff_ne.mpr c2]; exact Bool.false_ne_true)]
  refine wor_i (wnin2 (x := .str (srt (a, b)).1) (fun P h => wixl rfl at0 h) rfl (inL_strs ss) ?_)
  by_cases c3 : (srt (a, b)).1 ∈ ss
  · rw [decide_eq_true c3, Bool.not_true, if_neg Bool.false_ne_true]
    refine wnin2 (x := .str (srt (a, b)).2) (fun P h => wixl rfl at1 h) rfl (inL_strs ss) ?_
    have e : (!decide ((srt (a, b)).2 ∈ ss)) = decide ¬ okTie ss ts (a, b) := by
      by_cases c4 : (srt (a, b)).2 ∈ ss
      · rw [decide_eq_true c4]
        symm
        refine decide_eq_false fun q => q ⟨⟨?_, ?_, c2⟩, fun z => c1 (.inl z), fun z => c1 (.inr z)⟩
        · by_cases m : a ∈ ss
          · exact m
          · exact ((e3.mpr (.inl m)).elim (fun z => z c3) fun z => z c4).elim
        · by_cases m : b ∈ ss
          · exact m
          · exact ((e3.mpr (.inr m)).elim (fun z => z c3) fun z => z c4).elim
      · rw [decide_eq_false c4]
        symm
        refine decide_eq_true fun q => ?_
        rcases e3.mp (.inr c4) with z | z
        · exact z q.1.1
        · exact z q.1.2.1
    rw [e]
    exact h
  · rw [decide_eq_false c3, Bool.not_false, if_pos rfl]
    rw [dnT fun q => by
      rcases e3.mp (.inl c3) with z | z
      · exact z q.1.1
      · exact z q.1.2.1] at h
    exact h
end DL


namespace DL
open PySem PySem.Spec PyProof.Rows L2 TL
theorem fb_step {N : DN} {text l : Str} {ss : List Str} {ts : List (Str × Str)} {n : Nat} {s5 s6 : Slot} (h5 : Np s5) (h6 : Np s6) (hl : l.length ≤ 100000) (hss : ss.length ≤ 12) (hts : ts.length ≤ 100000)
    (good : ∀ ss' ts', stepL ss ts l = some (ss', ts') → ∀ s5 s6, Np s5 → Np s6 → N.nx (fbS text ss' ts' (.d (.int (n : Nat))) (.d (.str l)) s5 s6))
    (bad : stepL ss ts l = none → ∀ s5 s6, N.rt (.d (.int ((n + 1 : Nat) : Int))) (fbS text ss ts (.d (.int (n : Nat))) (.d (.str l)) s5 s6)) :
    w_firstbad_l1 N (fbS text ss ts (.d (.int (n : Nat))) (.d (.str l)) s5 s6) := by
  have hsum := words_sum l
  have hwl : ∀ z ∈ Txt.split l " ", z.length ≤ 100000 := fun z hz => by
    have := le_sum hz
    have : 0 < (Txt.split l " ").length := List.length_pos_of_mem hz
    omega
  unfold w_firstbad_l1
  refine wseq_i (wasg_i (wm1_i (wv_d rfl (wc_i ⟨by decide +kernel, by rw [sizeLine_eq]; omega, np_nop h5 _ _ rfl, ?_⟩))))
  dsimp only
  show wIfS _ _ _ _ (fbS text ss ts (.d (.int (n : Nat))) (.d (.str l)) (.o (.lst (sDs (Txt.split l " ")))) s6)
  unfold stepL at good bad
  cases hws : Txt.split l " " with
  | nil => exact absurd hws (words_ne l)
  | cons w r =>
  rw [hws] at good bad hwl
  refine wifs_i (tst2 (k := 1) (w := w) (r := r) rfl ?_)
  by_cases c1 : w = "place" ∧ r.length = 1
  · rw [decide_eq_true c1, if_pos rfl]
    obtain ⟨rfl, hr⟩ := c1
    match r, hr with
    | [z], _ =>
    dsimp only at good bad
    refine wseq_i (wifs_i (fb_t1 (by have := hwl z (by simp); omega) ?_))
    by_cases c : ts = [] ∧ ss.length ≤ 11 ∧ z ∉ ss ∧ isNameB z = true
    · rw [decide_eq_false fun q => q c, if_neg Bool.false_ne_true]
      refine wnext_i ?_
      dsimp only
      refine wapp rfl (fun P h => wixl rfl at1 h) (by rw [strL_len, sizeLine_eq]; omega) ?_
      rw [← sDs_app]
      obtain ⟨rfl, c⟩ := c
      exact good (ss ++ [z]) [] (by rw [if_pos ⟨rfl, rfl, c⟩]) _ _ (fun _ => Slot.noConfusion) h6
    · rw [dnT c, if_pos rfl]
      exact wret1 rfl (bad (by rw [if_neg fun q => c q.2]) _ _)
  · rw [decide_eq_false c1, if_neg Bool.false_ne_true]
    refine wifs_i (tst2 (k := 2) (w := w) (r := r) rfl ?_)
    by_cases c2 : w = "tie" ∧ r.length = 2
    · rw [decide_eq_true c2, if_pos rfl]
      obtain ⟨rfl, hr⟩ := c2
      match r, hr with
      | [a, b], _ =>
      dsimp only at good bad
      refine wseq_i (wasg_i (wcb_i (wcons_i ?_)))
      have ecut : cutL (sDs ["tie", a, b]) (some 1) none = sDs [a, b] := rfl
      refine wslv (xs := sDs ["tie", a, b]) (lo := some 1) (hi := none) rfl (fun P h => h) (fun P h => h) (wnil_i (opt_i rfl ?_))
      rw [ecut]
      dsimp only [on1, oSorted, Cell.toD]
      refine opt_i (strsD_map [a, b]) ⟨by show 2 < 64; decide, fun ys hp hs => ?_⟩
      rw [srt_perm hp hs]
      refine ⟨np_nop h6 _ _ rfl, ?_⟩
      dsimp only
      show wSeq _ _ _ (fbS text ss ts (.d (.int (n : Nat))) (.d (.str l)) (.o (.lst (sDs ["tie", a, b]))) (.o (.lst (sDs [(srt (a, b)).1, (srt (a, b)).2]))))
      refine wseq_i (wifs_i (fb_t2 ?_))
      by_cases c : okTie ss ts (a, b)
      · rw [decide_eq_false fun q => q c, if_neg Bool.false_ne_true]
        refine wnext_i ?_
        dsimp only
        refine wdrop_i ?_
        refine opt_i rfl ⟨rfl, ?_⟩
        refine wcons_i (wpsl (fun P h => wv_o rfl h) rfl (wnil_i (opt_i rfl (opt_i rfl ⟨by rw [List.length_map, List.length_map, sizeLine_eq]; omega, ?_⟩))))
        have q := good ss (ts ++ [(a, b)]) (by rw [if_pos ⟨rfl, c⟩]) (.o (.lst (sDs ["tie", a, b]))) (.d (qD (srt (a, b)))) (fun _ => Slot.noConfusion) (fun _ => Slot.noConfusion)
        have e : ((ts ++ [(a, b)]).map srt).map qD = (ts.map srt).map qD ++ [qD (srt (a, b))] := by
          rw [List.map_append, List.map_append]
          rfl
        unfold fbS at q
        rw [e] at q
        exact q
      · rw [dnT c, if_pos rfl]
        exact wret1 rfl (bad (by rw [if_neg fun q => c q.2]) _ _)
    · rw [decide_eq_false c2, if_neg Bool.false_ne_true]
      refine wret1 rfl (bad ?_ _ _)
      split
      · rename_i w' z e
        cases e
        rw [if_neg]
        rintro ⟨h1, _⟩
        exact c1 ⟨h1, rfl⟩
      · rename_i w' a b e
        cases e
        rw [if_neg]
        rintro ⟨h1, _⟩
        exact c2 ⟨h1, rfl⟩
      · rfl
theorem fb_loop {N : DN} {text : Str} : ∀ (ls : List Str) (n : Nat) (ss : List Str) (ts : List (Str × Str)) (s3 s4 s5 s6 : Slot), Np s3 → Np s4 → Np s5 → Np s6 → Gd ss ts → (∀ l ∈ ls, l.length ≤ 100000) → ts.length + ls.length ≤ 50000 →
    (∀ k, runL n ls ss ts = .inl k → ∀ ss ts s3 s4 s5 s6, N.rt (.d (.int (k : Nat))) (fbS text ss ts s3 s4 s5 s6)) → (∀ ss' ts', runL n ls ss ts = .inr (ss', ts') → ∀ s3 s4 s5 s6, N.nx (fbS text ss' ts' s3 s4 s5 s6)) → loopN (gT [(gN 3), (gN 4)]) w_firstbad_l1 N (enumD n (sDs ls)) (fbS text ss ts s3 s4 s5 s6)
  | [], n, ss, ts, s3, s4, s5, s6, h3, h4, h5, h6, g, hl, hz, bad, good => good ss ts rfl s3 s4 s5 s6
  | l :: ls, n, ss, ts, s3, s4, s5, s6, h3, h4, h5, h6, g, hl, hz, bad, good => by
    rw [List.length_cons] at hz
    unfold runL at bad good
    refine ⟨rfl, ?_⟩
    refine ⟨np_nop h3 _ _ rfl, ?_⟩
    refine ⟨np_nop h4 _ _ rfl, ?_⟩
    have hss : ss.length ≤ 12 := by
      rcases g.p with rfl | h
      · simp
      · exact h.2.1
    show w_firstbad_l1 _ (fbS text ss ts (.d (.int (n : Nat))) (.d (.str l)) s5 s6)
    refine fb_step h5 h6 (hl l List.mem_cons_self) hss (by omega) (fun ss' ts' e s5 s6 h5 h6 => ?_) fun e s5 s6 => ?_
    · rw [e] at bad good
      obtain ⟨g', _, _, z'⟩ := stepL_some g e
      exact fb_loop ls (n + 1) ss' ts' _ _ s5 s6 (fun _ => Slot.noConfusion) (fun _ => Slot.noConfusion) h5 h6 g' (fun y hy => hl y (List.mem_cons_of_mem _ hy)) (by omega) bad good
    · rw [e] at bad
      exact bad (n + 1) rfl ss ts _ _ s5 s6
theorem vc_firstbad : ∀ avs Q XP, spFirstBad avs Q XP → w_firstbad (bodyN avs Q XP) (stOf 7 avs) := by
  rintro _ Q XP ⟨text, rfl, hl, h⟩
  show w_firstbad _ ([.d (.str text), .un, .un, .un, .un, .un, .un] : S)
  have hsum := lines_sum text
  have hll : ∀ l ∈ Txt.split text "\n", l.length ≤ 100000 := fun z hz => by
    have := le_sum hz
    have : 0 < (Txt.split text "\n").length := List.length_pos_of_mem hz
    omega
  unfold w_firstbad
  refine wseq_i (wpar_i (wlst_i (wnil_i (opt_i rfl ⟨Nat.zero_le _, wlst_i (wnil_i (opt_i rfl ⟨Nat.zero_le _, ?_⟩))⟩))))
  refine ⟨trivial, trivial, ?_⟩
  dsimp only
  refine wseq_i (wfor_i (wena_i ?_))
  refine wpn (c := .lst (sDs (Txt.split text "\n"))) (fun P h => wm1_i (wv_d rfl (wc_i ⟨by decide +kernel, by rw [sizeLine_eq]; omega, h⟩))) ?_
  refine opt_i rfl ?_
  refine fb_loop (text := text) (Txt.split text "\n") 0 [] [] .un .un .un .un (fun _ => Slot.noConfusion) (fun _ => Slot.noConfusion) (fun _ => Slot.noConfusion) (fun _ => Slot.noConfusion) gd_nil hll (by simp; omega) (fun k e ss ts s3 s4 s5 s6 => ?_) fun ss' ts' e s3 s4 s5 s6 => ?_
  · have e2 : firstBad text = k := by unfold firstBad runT; rw [e]
    rw [e2] at h
    exact h
  · have e2 : firstBad text = 0 := by unfold firstBad runT; rw [e]
    rw [e2] at h
    exact h
end DL


namespace DL
open PySem PySem.Spec PyProof.Rows L2
theorem wixt {st : S} {i : Nat} {P : RV → S → Prop} {E : XC} {xs : List D} {j : Int} {y : D} (h : st[i]? = some (.d (.tup xs))) (e : atI xs j = some y) (k : P (.d y) st) : wBin oIx (wVar i) (wC (.int j)) st P E := by
  refine wbin_i (wv_d h ?_)
  show opt (atI xs j) _
  rw [e]
  exact k
theorem vc_lweb {CW cBP cBI : Addr} : ∀ avs Q XP, spLawWeb CW avs Q XP → w_lweb CW cBP cBI (bodyN avs Q XP) (stOf 1 avs) := by
  rintro _ Q XP ⟨ss, ts, rfl, hp, ht, hl, h⟩
  show w_lweb CW cBP cBI _ ([.d (planD ss ts)] : S)
  unfold w_lweb
  have e0 : atI [D.tup (sDs ss), .tup (tDs ts)] 0 = some (.tup (sDs ss)) := atI_nat (j := 0) rfl
  have e1 : atI [D.tup (sDs ss), .tup (tDs ts)] 1 = some (.tup (tDs ts)) := atI_nat (j := 1) rfl
  refine wret_i (wcall_i (wcons_i (wixt rfl e0 ?_)))
  refine wcons_i (wixt rfl e1 (wnil_i ?_))
  refine opt_i rfl ?_
  refine ⟨rfl, _, _, ss, ts, rfl, Or.inr rfl, Or.inr rfl, ?_, by omega, fun z hz => ?_, fun p => absurd hp p, fun _ => ⟨fun _ => ?_, fun p => absurd ht p⟩⟩
  · have := hp.2.1
    omega
  · have := name_len (hp.2.2.1 z hz)
    omega
  · exact h
/-! ### names -/
def unD : D → Str
  | .str z => z
  | _ => Str.empty
theorem unD_map (ss : List Str) : (sDs ss).map unD = ss := by
  unfold sDs
  rw [List.map_map]
  exact List.map_id _
theorem sDs_mem'' {x : D} {ss : List Str} (h : x ∈ sDs ss) : ∃ z, z ∈ ss ∧ x = .str z := by
  obtain ⟨z, h1, h2⟩ := List.mem_map.mp h
  exact ⟨z, h1, h2.symm⟩
theorem perm_strs {ys : List D} {ss : List Str} (h : ys.Perm (sDs ss)) : ∃ zs, ys = sDs zs ∧ zs.Perm ss := by
  refine ⟨ys.map unD, ?_, ?_⟩
  · unfold sDs
    rw [List.map_map]
    have : ∀ y ∈ ys, (D.str ∘ unD) y = y := fun y hy => by
      obtain ⟨z, _, rfl⟩ := sDs_mem'' (h.mem_iff.mp hy)
      rfl
    exact ((List.map_congr_left this).trans (List.map_id _)).symm
  · have := h.map unD
    rwa [unD_map] at this
def base14 : List Str := ["a", "b", "c", "d", "e", "f", "g", "h", "i", "place", "tie", "none", "guard", "abcdefgh"]
theorem base_ok : (∀ z ∈ base14, isNameB z = true) ∧ base14.Nodup ∧ base14.length = 14 := by decide +kernel
theorem nodup_set {α : Type} : ∀ {l : List α} {i : Nat} {z : α}, l.Nodup → z ∉ l → (l.set i z).Nodup
  | [], _, _, _, _ => List.nodup_nil
  | x :: l, 0, z, h, n => by
    rw [List.set_cons_zero]
    exact List.nodup_cons.mpr ⟨fun m => n (List.mem_cons_of_mem _ m), (List.nodup_cons.mp h).2⟩
  | x :: l, i + 1, z, h, n => by
    rw [List.set_cons_succ]
    refine List.nodup_cons.mpr ⟨fun m => ?_, nodup_set (List.nodup_cons.mp h).2 fun m => n (List.mem_cons_of_mem _ m)⟩
    rcases List.mem_or_eq_of_mem_set m with m | m
    · exact (List.nodup_cons.mp h).1 m
    · exact n (by rw [m]; exact List.mem_cons_self)
theorem take_okP {zs : List Str} {n : Nat} (h1 : 1 ≤ n) (h2 : n ≤ 12) (hl : zs.length = 14) (hn : ∀ z ∈ zs, isNameB z = true) (nd : zs.Nodup) : (zs.take n).length = n ∧ okP (zs.take n) := by
  have e : (zs.take n).length = n := by rw [List.length_take]; omega
  exact ⟨e, by omega, by omega, fun z hz => hn z (List.mem_of_mem_take hz), nd.sublist (List.take_sublist n zs)⟩
theorem cut_take {xs : List D} {n : Nat} (h : n ≤ xs.length) : cutL xs none (some (n : Nat)) = xs.take n := by
  unfold cutL
  rw [HT.sIx_none, HT.sIx_nat, List.drop_zero, Nat.min_eq_left h, Nat.sub_zero]
theorem set_sDs (zs : List Str) (i : Nat) (z : Str) : (sDs zs).set i (.str z) = sDs (zs.set i z) := by
  unfold sDs
  rw [List.map_set]
theorem take_sDs (zs : List Str) (n : Nat) : (sDs zs).take n = sDs (zs.take n) := by
  unfold sDs
  rw [List.map_take]
theorem vc_names : ∀ avs Q XP, spNames avs Q XP → w_names (bodyN avs Q XP) (stOf 4 avs) := by
  rintro _ Q XP ⟨r, m, n, rfl, src, h1, h2, h⟩
  show w_names _ ([.p (SrcD r m), .d (.int (n : Nat)), .un, .un] : S)
  unfold w_names
  obtain ⟨b1, b2, b3⟩ := base_ok
  have step1 : ∀ {N : DN}, N.nx ([.p (SrcD r m), .d (.int (n : Nat)), .o (.lst (sDs base14)), .un] : S) → wAsg 2 (wLst (wCons (wPers (wC (.str "a"))) (wCons (wPers (wC (.str "b"))) (wCons (wPers (wC (.str "c"))) (wCons (wPers (wC (.str "d"))) (wCons (wPers (wC (.str "e"))) (wCons (wPers (wC (.str "f"))) (wCons (wPers (wC (.str "g"))) (wCons (wPers (wC (.str "h"))) (wCons (wPers (wC (.str "i"))) (wCons (wPers (wC (.str "place"))) (wCons (wPers (wC (.str "tie"))) (wCons (wPers (wC (.str "none"))) (wCons (wPers (wC (.str "guard"))) (wCons (wPers (wC (.str "abcdefgh"))) wNil)))))))))))))))
      N ([.p (SrcD r m), .d (.int (n : Nat)), .un, .un] : S) := fun {N} k => ⟨by rw [sizeLine_eq]; show 14 ≤ _; decide, trivial, k⟩
  refine wseq_i (step1 ?_)
  dsimp only
  refine wseq_i (wasg_i (wcall_i (wcons_i (wv_p rfl (wcons_i (wv_o rfl (wnil_i ?_)))))))
  refine opt_i rfl ?_
  refine ⟨rfl, r, m, _, sDs base14, rfl, src, rfl, by rw [strL_len, b3]; decide, fun ys hp r' m' src' => ?_⟩
  obtain ⟨zs, rfl, hz⟩ := perm_strs hp
  refine ⟨trivial, ?_⟩
  dsimp only
  have zl : zs.length = 14 := hz.length_eq.trans b3
  have zn : ∀ z ∈ zs, isNameB z = true := fun z hz' => b1 z (hz.mem_iff.mp hz')
  have znd : zs.Nodup := hz.nodup_iff.mpr b2
  show wSeq _ _ _ ([.p (SrcD r' m'), .d (.int (n : Nat)), .o (.lst (sDs zs)), .un] : S)
  refine wseq_i (wasg_i (wcall_i (wcons_i (wv_p rfl (wnil_i ?_)))))
  refine opt_i rfl ?_
  refine ⟨rfl, r', m', rfl, src', fun z hzn r2 m2 src2 => ?_⟩
  refine ⟨trivial, ?_⟩
  dsimp only
  show wSeq _ _ _ ([.p (SrcD r2 m2), .d (.int (n : Nat)), .o (.lst (sDs zs)), .d (.str z)] : S)
  have fin : ∀ (xs : List Str) (r m : Int), Src r m → xs.length = 14 → (∀ z ∈ xs, isNameB z = true) → xs.Nodup → wRet (wSl (wVar 2) wNoPart (wPart (wVar 1))) (bodyN [.m (SrcD r m), .d (.int (n : Nat))] Q XP) ([.p (SrcD r m), .d (.int (n : Nat)), .o (.lst (sDs xs)), .d (.str z)] : S) := fun xs r m s xl xn xd => by
    refine wret_i (wslv (xs := sDs xs) (lo := none) (hi := some (n : Nat)) rfl (fun P h => h) (fun P h => h) ?_)
    rw [cut_take (by rw [strL_len]; omega), take_sDs]
    obtain ⟨h3, h4⟩ := take_okP h1 h2 xl xn xd
    exact h _ h3 h4 r m s
  refine wseq_i (wifs_i (wnin2 (x := .str z) (fun P h => wv_d rfl h) rfl (inL_strs zs) ?_))
  by_cases c : z ∈ zs
  · rw [decide_eq_true c, Bool.not_true, if_neg Bool.false_ne_true]
    refine wnext_i ?_
    exact fin zs r2 m2 src2 zl zn znd
  · rw [decide_eq_false c, Bool.not_false, if_pos rfl]
    unfold wSt
    refine opt_i rfl ?_
    refine wpd (fun P h => wv_d rfl h) ?_
    refine dr src2 (n := n) (by omega) (by omega) (fun P h => wpd (fun P h => wv_d rfl h) h) fun i r3 m3 hi src3 => ?_
    refine opt_i rfl ⟨rfl, ?_⟩
    have ei : ixN (sDs zs).length ((i : Nat) : Int) = some i := by
      unfold ixN
      rw [if_pos (by omega), if_pos (by rw [strL_len]; omega)]
      congr
    refine opt_i ei ?_
    rw [set_sDs]
    refine fin (zs.set i z) r3 m3 src3 (by rw [List.length_set]; exact zl) (fun y hy => ?_) (nodup_set znd c)
    rcases List.mem_or_eq_of_mem_set hy with hy | hy
    · exact zn y hy
    · rw [hy]; exact hzn
end DL


namespace DL
open PySem PySem.Spec PyProof.Rows L2
/-- a comprehension that draws at each turn -/
theorem lcS {i : Nat} {wt : WT} {we : WE} {k : List D → S → Prop} {rest : S} (f : D → D) (fr : Fre rest i) : ∀ (xs acc : List D) (r m : Int), Src r m →
    (∀ x ∈ xs, ∀ r m (P : Bool → S → Prop), Src r m → (∀ b r' m', Src r' m' → P b (.p (SrcD r' m') :: rest.set i (.d x))) → wt (.p (SrcD r m) :: rest.set i (.d x)) P ex0) →
    (∀ x ∈ xs, ∀ r m (P : RV → S → Prop), P (.d (f x)) (.p (SrcD r m) :: rest.set i (.d x)) → we (.p (SrcD r m) :: rest.set i (.d x)) P ex0) →
    acc.length + xs.length < sizeLine → (∀ ys r m, Src r m → List.Sublist ys (xs.map f) → k (acc ++ ys) (.p (SrcD r m) :: rest)) → lcN (gN (i + 1)) wt we [i + 1] k xs acc (.p (SrcD r m) :: rest)
  | [], acc, r, m, src, _, _, _, hk => by
    have := hk [] r m src (List.Sublist.refl _)
    rw [List.append_nil] at this
    exact this
  | x :: xs, acc, r, m, src, ht, he, hz, hk => by
    have fr' : Fre ((.p (SrcD r m) : Slot) :: rest) (i + 1) := by
      obtain ⟨s, e, h⟩ := fr
      exact ⟨s, e, h⟩
    have back : ∀ {c c' : Slot} {s : Slot}, restS (c' :: rest.set i s) (c :: rest) [i + 1] = c' :: rest := fun {c c' s} => by
      unfold restS restS
      have e : (c :: rest)[i + 1]? = rest[i]? := rfl
      rw [e, List.getElem?_eq_getElem fr.lt]
      dsimp only
      rw [List.set_cons_succ, List.set_set, List.set_getElem_self]
    unfold lcN
    refine ⟨fre_bare fr', ?_⟩
    show NoP (List.set _ (i + 1) .un) (i + 1) ∧ _
    refine ⟨nop_set (x := x) fr'.lt, ?_⟩
    have e0 : List.set (wipeS ((.p (SrcD r m) : Slot) :: rest) [i + 1]) (i + 1) (Slot.d x) = .p (SrcD r m) :: rest.set i (.d x) := by
      show ((((.p (SrcD r m) : Slot) :: rest).set (i + 1) .un).set (i + 1) (.d x)) = _
      rw [List.set_set]
      rfl
    rw [e0]
    dsimp only
    rw [List.length_cons] at hz
    refine ht x List.mem_cons_self r m _ src fun b r' m' src' => ?_
    cases b with
    | true =>
      rw [if_pos rfl]
      refine he x List.mem_cons_self r' m' _ ⟨by omega, ?_⟩
      rw [back]
      refine lcS f fr xs _ r' m' src' (fun y hy => ht y (List.mem_cons_of_mem _ hy)) (fun y hy => he y (List.mem_cons_of_mem _ hy)) (by rw [List.length_append, List.length_singleton]; omega) fun ys r2 m2 s2 hs => ?_
      have := hk (f x :: ys) r2 m2 s2 (by rw [List.map_cons]; exact hs.cons_cons _)
      rw [List.append_assoc]
      exact this
    | false =>
      rw [if_neg Bool.false_ne_true, back]
      exact lcS f fr xs _ r' m' src' (fun y hy => ht y (List.mem_cons_of_mem _ hy)) (fun y hy => he y (List.mem_cons_of_mem _ hy)) (by omega) fun ys r2 m2 s2 hs => hk ys r2 m2 s2 (by rw [List.map_cons]; exact hs.cons _)
theorem deq_ij (x y : Nat × Nat) : deqN 40 (ijD x) (ijD y) = some (decide (x = y)) := by
  obtain ⟨a, b⟩ := x
  obtain ⟨c, d⟩ := y
  show some (((a : Int) == (c : Int)) && (((b : Int) == (d : Int)) && true)) = _
  congr 1
  by_cases e : a = c
  · by_cases e2 : b = d
    · subst e e2; simp
    · have : ((b : Int) == (d : Int)) = false := beq_eq_false_iff_ne.mpr (by omega)
      simp [this, e2]
  · have : ((a : Int) == (c : Int)) = false := beq_eq_false_iff_ne.mpr (by omega)
    simp [this, e]
def prS (r m : Int) (n k : Nat) (ps : List (Nat × Nat)) (s4 s5 s6 : Slot) : S := [.p (SrcD r m), .d (.int (n : Nat)), .d (.int (k : Nat)), .o (.lst (ps.map ijD)), s4, s5, s6, .un]
/-- what stands while the pairs are drawn -/
structure PI3 (n a : Nat) (ps : List (Nat × Nat)) : Prop where
  lt : ∀ t ∈ ps, t.1 < t.2 ∧ t.2 < a
  nd : ps.Nodup
  len : ps.length ≤ 12 * a
structure New (a : Nat) (ns : List (Nat × Nat)) : Prop where
  at_ : ∀ t ∈ ns, t.1 < a ∧ t.2 = a
  nd : ns.Nodup
  len : ns.length ≤ 12
theorem PI3.add {n a : Nat} {ps ns : List (Nat × Nat)} (h : PI3 n a ps) (k : New a ns) : PI3 n (a + 1) (ps ++ ns) := by
  refine ⟨fun t ht => ?_, List.nodup_append.mpr ⟨h.nd, k.nd, fun x hx y hy e => ?_⟩, by rw [List.length_append]; have := h.len; have := k.len; omega⟩
  · rcases List.mem_append.mp ht with ht | ht
    · have := h.lt t ht
      exact ⟨this.1, by omega⟩
    · have := k.at_ t ht
      exact ⟨by omega, by omega⟩
  · have h1 := (h.lt x hx).2
    have h2 := (k.at_ y hy).2
    rw [e] at h1
    omega
theorem ij_app (ps ns : List (Nat × Nat)) : ps.map ijD ++ ns.map ijD = (ps ++ ns).map ijD := (List.map_append).symm
theorem range_map (a : Nat) : (List.range a).map (fun i => D.int (0 + ((i : Nat) : Int))) = (List.range a).map fun i => D.int ((i : Nat) : Int) := List.map_congr_left fun i _ => by rw [Int.zero_add]
def ijF (a : Nat) : D → D := fun x => .tup [x, .int (a : Nat)]
theorem ijF_map (a : Nat) (l : List Nat) : (l.map fun i => D.int ((i : Nat) : Int)).map (ijF a) = (l.map fun i => (i, a)).map ijD := by
  rw [List.map_map, List.map_map]
  rfl
theorem sub_new {a : Nat} {l : List Nat} {ys : List D} (h : List.Sublist ys ((l.map fun i => D.int ((i : Nat) : Int)).map (ijF a))) : ∃ js : List Nat, List.Sublist js l ∧ ys = (js.map fun i => (i, a)).map ijD := by
  rw [List.map_map] at h
  obtain ⟨js, hs, e⟩ := List.sublist_map_iff.mp h
  refine ⟨js, hs, ?_⟩
  rw [e, List.map_map]
  rfl
theorem new_of {a : Nat} (ha : a ≤ 12) {js : List Nat} (h : ∀ j ∈ js, j < a) (nd : js.Nodup) (hl : js.length ≤ 12) : New a (js.map fun i => (i, a)) := by
  refine ⟨fun t ht => ?_, ?_, by rw [List.length_map]; exact hl⟩
  · obtain ⟨j, hj, rfl⟩ := List.mem_map.mp ht
    exact ⟨h j hj, rfl⟩
  · exact List.Pairwise.map _ (fun x y hxy e => hxy (Prod.mk.inj e).1) nd
theorem itr {st : S} {i : Nat} {n : Nat} {A : List D → S → Prop} {E : XC} (h : st[i]? = some (.d (.int (n : Nat)))) (hn : n < 1000000) (k : A ((List.range n).map fun i => D.int ((i : Nat) : Int)) st) : wItR1 (wCons (wVar i) wNil) st A E := by
  unfold wItR1
  refine wcons_i (wv_d h (wnil_i ⟨by omega, by omega, ?_⟩))
  rw [Int.toNat_natCast, range_map]
  exact k
theorem weqv {st : S} {i : Nat} {n m : Nat} {B : Bool → S → Prop} {E : XC} (h : st[i]? = some (.d (.int (n : Nat)))) (k : B (decide (n = m)) st) : wTest (wBin oEq (wVar i) (wC (.int ((m : Nat) : Int)))) st B E := by
  refine weqi (n := ((n : Nat) : Int)) (fun P q => wv_d h q) ?_
  have e : (((n : Nat) : Int) == ((m : Nat) : Int)) = decide (n = m) := by
    by_cases e : n = m
    · subst e; simp
    · rw [decide_eq_false e, beq_eq_false_iff_ne]
      omega
  rw [e]
  exact k
end DL


namespace DL
open PySem PySem.Spec PyProof.Rows L2
theorem pers_d {st : S} {P : RV → S → Prop} {x : D} (k : P (.d x) st) : persK st P (.d x) := k
theorem tup_new {a : Nat} {x : Nat} (h : x < a) : New a [(x, a)] := ⟨fun t ht => by rw [List.mem_singleton.mp ht]; exact ⟨h, rfl⟩, by simp, by simp⟩
theorem lt12 (n : Nat) (h : n < 1000) : n < sizeLine := by rw [sizeLine_eq]; omega
section
variable {N : DN} {r m : Int} {n k a : Nat} {ps : List (Nat × Nat)} {s5 s6 : Slot}
/-- what a turn must come to -/
def Nxp (N : DN) (n k a : Nat) (ps : List (Nat × Nat)) : Prop := ∀ (ns : List (Nat × Nat)) (r m : Int) (s5 s6 : Slot), New a ns → Src r m → Sl s5 → Sl s6 → N.nx (prS r m n k (ps ++ ns) (.d (.int (a : Nat))) s5 s6)
theorem app_pair {E2 : WE} {x : Nat} (ha : ∀ P : RV → S → Prop, P (.d (.tup [.int (x : Nat), .int (a : Nat)])) (prS r m n k ps (.d (.int (a : Nat))) s5 s6) → E2 (prS r m n k ps (.d (.int (a : Nat))) s5 s6) P N.ex) (hl : ps.length ≤ 900)
    (kk : N.nx (prS r m n k (ps ++ [(x, a)]) (.d (.int (a : Nat))) s5 s6)) : wDrop (wMut "list" 3 mAppend (wCons (wPers E2) wNil)) N (prS r m n k ps (.d (.int (a : Nat))) s5 s6) := by
  refine wapp rfl ha (by rw [List.length_map]; exact lt12 _ (by omega)) ?_
  have e : ps.map ijD ++ [D.tup [.int (x : Nat), .int (a : Nat)]] = (ps ++ [(x, a)]).map ijD := by
    rw [List.map_append]
    rfl
  rw [e]
  exact kk
theorem pr_a (src : Src r m) (h5 : Sl s5) (h6 : Sl s6) (ha : a ≤ 12) (hl : ps.length ≤ 900) (nx : Nxp N n k a ps) :
    wAsg 3 (wBin oAdd (wVar 3) (wLc (wItR1 (wCons (wVar 4) wNil)) (gN 5) (wTest (wBin oGt (wCall [.m, .d] spDraw (wCons (wVar 0) (wCons (wPers (wC (.int 3))) wNil))) (wVar 2))) (wPers (wTup (wCons (wPers (wVar 5)) (wCons (wPers (wVar 4)) wNil)))) [5])) N (prS r m n k ps (.d (.int (a : Nat))) s5 s6) := by
  refine wasg_i (wbin_i (wv_o rfl (wlc_i (itr (n := a) rfl (by omega) ?_))))
  have fr : Fre ([.d (.int (n : Nat)), .d (.int (k : Nat)), .o (.lst (ps.map ijD)), .d (.int (a : Nat)), s5, s6, .un] : S) 4 := by
    rcases h5 with rfl | ⟨x, rfl⟩
    · exact fre_un rfl
    · exact fre_d rfl
  refine lcS (i := 4) (rest := [.d (.int (n : Nat)), .d (.int (k : Nat)), .o (.lst (ps.map ijD)), .d (.int (a : Nat)), s5, s6, .un]) (ijF a) fr _ [] r m src (fun x hx r m P src q => ?_) (fun x hx r m P q => ?_) (by simp; exact lt12 _ (by omega)) fun ys r m src hs => ?_
  · refine wtest_i (wbin_i (dr src (n := 3) (by decide) (by decide) (fun P h => h) fun i r' m' hi s => ?_))
    exact wv_d rfl (q _ r' m' s)
  · obtain ⟨i, hi, rfl⟩ := List.mem_map.mp hx
    exact wpd (fun P h => wtup2 (fun P h => wv_d rfl h) (fun P h => wv_d rfl h) h) q
  · obtain ⟨js, hj, rfl⟩ := sub_new hs
    have hjl : js.length ≤ a := by
      have := hj.length_le
      rwa [List.length_range] at this
    have nw : New a (js.map fun i => (i, a)) := new_of ha (fun j h => List.mem_range.mp (hj.subset h)) (List.nodup_range.sublist hj) (by omega)
    refine opt_i rfl (opt_i rfl ?_)
    refine ⟨?_, trivial, ?_⟩
    · rw [List.nil_append, List.length_map, List.length_map, List.length_map]
      exact Nat.le_of_lt (lt12 _ (by omega))
    · rw [List.nil_append, ij_app]
      exact nx _ r m s5 s6 nw src h5 h6
theorem pr_c (src : Src r m) (h5 : Sl s5) (h6 : Sl s6) (h1 : 1 ≤ a) (ha : a ≤ 12) (hl : ps.length ≤ 900) (nx : Nxp N n k a ps) :
    wDrop (wMut "list" 3 mAppend (wCons (wPers (wTup (wCons (wPers (wCall [.m, .d] spDraw (wCons (wVar 0) (wCons (wPers (wVar 4)) wNil)))) (wCons (wPers (wVar 4)) wNil)))) wNil)) N (prS r m n k ps (.d (.int (a : Nat))) s5 s6) := by
  refine wdrop_i ?_
  refine opt_i rfl ⟨rfl, wcons_i (wpers_i (wtup_i (wcons_i (wpers_i ?_))))⟩
  refine dr src (n := a) (by omega) (by omega) (fun P h => wpd (fun P h => wv_d rfl h) h) fun i r' m' hi s => ?_
  refine pers_d ?_
  refine wcons_i (wpd (x := .int ((a : Nat) : Int)) (fun P h => wv_d rfl h) (wnil_i ?_))
  refine opt_i rfl ?_
  refine ⟨by show 2 ≤ sizeLine; rw [sizeLine_eq]; decide, ?_⟩
  refine pers_d ?_
  refine wnil_i ?_
  refine opt_i rfl (opt_i rfl ?_)
  refine ⟨by rw [List.length_map]; exact lt12 _ (by omega), ?_⟩
  have e : ps.map ijD ++ [D.tup [.int (i : Nat), .int (a : Nat)]] = (ps ++ [(i, a)]).map ijD := by
    rw [List.map_append]
    rfl
  rw [e]
  exact nx _ r' m' s5 s6 (tup_new hi) s h5 h6
/-- the last kind -/
def seB (ps : List (Nat × Nat)) (to : Nat) (one : Nat) : Bool := decide ((min one to, max one to) ∈ ps)
def seD (ps : List (Nat × Nat)) (to : Nat) : D → Bool
  | .int i => seB ps to i.toNat
  | _ => false
theorem seD_filter (ps : List (Nat × Nat)) (to : Nat) (l : List Nat) : (l.map fun i => D.int ((i : Nat) : Int)).filter (seD ps to) = (l.filter (seB ps to)).map fun i => D.int ((i : Nat) : Int) := by
  rw [List.filter_map]
  congr 1
theorem pr_d (src : Src r m) (h5 : Sl s5) (h6 : Sl s6) (h1 : 1 ≤ a) (ha : a ≤ 11) (hl : ps.length ≤ 900) (hp : PI3 n a ps) (nx : Nxp N n k a ps) :
    wSeq (wAsg 5 (wCall [.m, .d] spDraw (wCons (wVar 0) (wCons (wPers (wVar 4)) wNil))))
  (wSeq (wAsg 6 (wLc (wItR1 (wCons (wVar 4) wNil)) (gN 7) (wTest (wBin oIn (wTup (wCons (wPers (wCB (on2 oMin2) (wCons (wVar 7) (wCons (wVar 5) wNil)))) (wCons (wPers (wCB (on2 oMax2) (wCons (wVar 7) (wCons (wVar 5) wNil)))) wNil))) (wVar 3))) (wPers (wVar 7)) [7]))
  (wAsg 3 (wBin oAdd (wBin oAdd (wVar 3) (wLst (wCons (wPers (wTup (wCons (wPers (wVar 5)) (wCons (wPers (wVar 4)) wNil)))) wNil))) (wLc (wItA (wPers (wVar 6))) (gN 7) (wTest (wBin oEq (wCall [.m, .d] spDraw (wCons (wVar 0) (wCons (wPers (wC (.int 2))) wNil))) (wC (.int 0)))) (wPers (wTup (wCons (wPers (wVar 7)) (wCons (wPers (wVar 4)) wNil)))) [7])))) N (prS r m n k ps (.d (.int (a : Nat))) s5 s6) := by
  refine wseq_i (wasg_i ?_)
  refine dr src (n := a) (by omega) (by omega) (fun P h => wpd (fun P h => wv_d rfl h) h) fun to r1 m1 hto src1 => ?_
  refine ⟨by rcases h5 with rfl | ⟨x, rfl⟩ <;> trivial, ?_⟩
  dsimp only
  show wSeq _ _ _ (prS r1 m1 n k ps (.d (.int (a : Nat))) (.d (.int (to : Nat))) s6)
  refine wseq_i (wasg_i (wlc_i (itr (n := a) rfl (by omega) ?_)))
  refine lcN1 (seD ps to) id (fre_un rfl) _ [] (fun x hx P q => ?_) (fun x hx _ P q => wpd (fun P h => wv_d rfl h) q) (by simp; exact lt12 _ (by omega)) ?_
  · obtain ⟨i, hi, rfl⟩ := List.mem_map.mp hx
    refine wtest_i (wbin_i ?_)
    refine wtup2 (x := .int ((min i to : Nat) : Int)) (y := .int ((max i to : Nat) : Int)) (fun P h => ?_) (fun P h => ?_) ?_
    · refine wcb_i (wcons_i (wv_d rfl (wcons_i (wv_d rfl (wnil_i (opt_i rfl ?_))))))
      show P (.d (.int (if ((to : Nat) : Int) < ((i : Nat) : Int) then ((to : Nat) : Int) else ((i : Nat) : Int)))) _
      have e : (if ((to : Nat) : Int) < ((i : Nat) : Int) then ((to : Nat) : Int) else ((i : Nat) : Int)) = ((min i to : Nat) : Int) := by
        split <;> omega
      rw [e]
      exact h
    · refine wcb_i (wcons_i (wv_d rfl (wcons_i (wv_d rfl (wnil_i (opt_i rfl ?_))))))
      show P (.d (.int (if ((to : Nat) : Int) > ((i : Nat) : Int) then ((to : Nat) : Int) else ((i : Nat) : Int)))) _
      have e : (if ((to : Nat) : Int) > ((i : Nat) : Int) then ((to : Nat) : Int) else ((i : Nat) : Int)) = ((max i to : Nat) : Int) := by
        split <;> omega
      rw [e]
      exact h
    · refine wv_o rfl (opt_i rfl (opt_i rfl ?_))
      have e : isIn (ijD (min i to, max i to)) (.lst (ps.map ijD)) = some (seB ps to i) := by
        show inL 40 _ _ = _
        rw [inL_map deq_ij]
        unfold seB
        congr
      exact opt_i e q
  rw [List.map_id, List.nil_append, seD_filter]
  have hself : ∀ j ∈ (List.range a).filter (seB ps to), j < a ∧ j ≠ to := fun j hj => by
    obtain ⟨h1, h2⟩ := List.mem_filter.mp hj
    refine ⟨List.mem_range.mp h1, fun e => ?_⟩
    unfold seB at h2
    have h3 := of_decide_eq_true h2
    rw [e, Nat.min_self, Nat.max_self] at h3
    have := (hp.lt _ h3).1
    exact Nat.lt_irrefl _ this
  have hnd : ((List.range a).filter (seB ps to)).Nodup := List.nodup_range.sublist List.filter_sublist
  have hlen : ((List.range a).filter (seB ps to)).length ≤ a := by
    have := List.length_filter_le (seB ps to) (List.range a)
    rwa [List.length_range] at this
  generalize (List.range a).filter (seB ps to) = se at hself hnd hlen
  refine ⟨by rcases h6 with rfl | ⟨x, rfl⟩ <;> trivial, ?_⟩
  dsimp only
  show wAsg _ _ _ ([.p (SrcD r1 m1), .d (.int (n : Nat)), .d (.int (k : Nat)), .o (.lst (ps.map ijD)), .d (.int (a : Nat)), .d (.int (to : Nat)), .o (.lst (se.map fun i => D.int ((i : Nat) : Int))), .un] : S)
  refine wasg_i (wbin_i (wbin_i (wv_o rfl (wlst_i (wcons_i (wpd (fun P h => wtup2 (fun P h => wv_d rfl h) (fun P h => wv_d rfl h) h) (wnil_i (opt_i rfl ⟨by show 1 ≤ sizeLine; rw [sizeLine_eq]; decide, opt_i rfl (opt_i rfl ⟨?_, ?_⟩)⟩))))))))
  · rw [List.length_map]
    exact Nat.le_of_lt (lt12 _ (by show ps.length + 1 < 1000; omega))
  refine wlc_i (wita_i (wpsl (fun P h => wv_o rfl h) rfl (opt_i rfl ?_)))
  refine lcS (i := 6) (rest := [.d (.int (n : Nat)), .d (.int (k : Nat)), .o (.lst (ps.map ijD)), .d (.int (a : Nat)), .d (.int (to : Nat)), .d (.lst (se.map fun i => D.int ((i : Nat) : Int))), .un]) (ijF a) (fre_un rfl) _ [] r1 m1 src1 (fun x hx r m P src q => ?_) (fun x hx r m P q => ?_) (by simp; exact lt12 _ (by omega)) fun ys r2 m2 src2 hs => ?_
  · refine wtest_i (wbin_i (dr src (n := 2) (by decide) (by decide) (fun P h => h) fun i r' m' hi s => ?_))
    exact q _ r' m' s
  · exact wpd (fun P h => wtup2 (fun P h => wv_d rfl h) (fun P h => wv_d rfl h) h) q
  · obtain ⟨js, hj, rfl⟩ := sub_new hs
    have hjl : js.length ≤ a := Nat.le_trans hj.length_le hlen
    have nw : New a ((to, a) :: js.map fun i => (i, a)) := by
      have q := new_of (a := a) (js := to :: js) (by omega) (fun j h => by
        rcases List.mem_cons.mp h with h | h
        · rw [h]; exact hto
        · exact (hself j (hj.subset h)).1) (List.nodup_cons.mpr ⟨fun h => (hself to (hj.subset h)).2 rfl, hnd.sublist hj⟩) (by rw [List.length_cons]; omega)
      rw [List.map_cons] at q
      exact q
    refine opt_i rfl (opt_i rfl ⟨?_, trivial, ?_⟩)
    · rw [List.nil_append, List.length_append, List.length_map, List.length_map, List.length_map]
      exact Nat.le_of_lt (lt12 _ (by show ps.length + 1 + js.length < 1000; omega))
    · have e : (ps.map ijD ++ [D.tup [.int (to : Nat), .int (a : Nat)]]) ++ ([] ++ (js.map fun i => (i, a)).map ijD) = (ps ++ ((to, a) :: js.map fun i => (i, a))).map ijD := by
        rw [List.nil_append, List.append_assoc, List.map_append, List.map_cons]
        rfl
      rw [e]
      exact nx _ r2 m2 _ _ nw src2 (.inr ⟨_, rfl⟩) (.inr ⟨_, rfl⟩)
end
end DL


namespace DL
open PySem PySem.Spec PyProof.Rows L2
section
variable {N : DN} {r m : Int} {n k a : Nat} {ps : List (Nat × Nat)} {s5 s6 : Slot}
theorem wlti {st : S} {i : Nat} {n m : Nat} {B : Bool → S → Prop} {E : XC} (h : st[i]? = some (.d (.int (n : Nat)))) (k : B (decide (n < m)) st) : wTest (wBin oLt (wVar i) (wC (.int ((m : Nat) : Int)))) st B E := by
  refine wtest_i (wbin_i (wv_d h ?_))
  show boolK B st (.d (.bl (decide (((n : Nat) : Int) < ((m : Nat) : Int)))))
  have e : decide (((n : Nat) : Int) < ((m : Nat) : Int)) = decide (n < m) := by
    rw [decide_eq_decide]
    exact Int.ofNat_lt
  rw [e]
  exact k
theorem wgtv {st : S} {i : Nat} {n m : Nat} {B : Bool → S → Prop} {E : XC} (h : st[i]? = some (.d (.int (n : Nat)))) (k : B (decide (m < n)) st) : wTest (wBin oGt (wVar i) (wC (.int ((m : Nat) : Int)))) st B E := by
  refine wtest_i (wbin_i (wv_d h ?_))
  show boolK B st (.d (.bl (decide (((m : Nat) : Int) < ((n : Nat) : Int)))))
  have e : decide (((m : Nat) : Int) < ((n : Nat) : Int)) = decide (m < n) := by
    rw [decide_eq_decide]
    exact Int.ofNat_lt
  rw [e]
  exact k
theorem pr_step (src : Src r m) (h5 : Sl s5) (h6 : Sl s6) (hk : k < 7) (h1 : 1 ≤ a) (hn : a < n) (hn2 : n ≤ 12) (hp : PI3 n a ps) (nx : Nxp N n k a ps) : w_pairs_l1 N (prS r m n k ps (.d (.int (a : Nat))) s5 s6) := by
  have hl : ps.length ≤ 900 := by
    have := hp.len
    omega
  unfold w_pairs_l1
  have hin : isIn (.int (k : Nat)) (.tup [.int 0, .int 1]) = some (decide (k = 0 ∨ k = 1)) := by
    show some (((0 : Int) == (k : Int)) || (((1 : Int) == (k : Int)) || false)) = _
    congr 1
    by_cases e0 : k = 0
    · subst e0; rfl
    · by_cases e1 : k = 1
      · subst e1; rfl
      · have q0 : ((0 : Int) == (k : Int)) = false := beq_eq_false_iff_ne.mpr (by omega)
        have q1 : ((1 : Int) == (k : Int)) = false := beq_eq_false_iff_ne.mpr (by omega)
        rw [q0, q1]
        simp [e0, e1]
  refine wifs_i (wtest_i (wbin_i (wv_d rfl ?_)))
  refine wtup2 (fun P h => h) (fun P h => h) (opt_i rfl (opt_i rfl (opt_i hin ?_)))
  dsimp only [boolK]
  by_cases c1 : k = 0 ∨ k = 1
  · rw [decide_eq_true c1, if_pos rfl]
    exact pr_a src h5 h6 (by omega) hl nx
  rw [decide_eq_false c1, if_neg Bool.false_ne_true]
  refine wifs_i (wor_i (weqv (n := k) (m := 2) rfl ?_))
  have second : ∀ (B : Bool → S → Prop) (E : XC), B (decide (k = 3 ∧ a < 4)) (prS r m n k ps (.d (.int (a : Nat))) s5 s6) → wAnd (wTest (wBin oEq (wVar 2) (wC (.int 3)))) (wTest (wBin oLt (wVar 4) (wC (.int 4)))) (prS r m n k ps (.d (.int (a : Nat))) s5 s6) B E := fun B E h => by
    refine wand_i (weqv (n := k) (m := 3) rfl ?_)
    by_cases c : k = 3
    · rw [decide_eq_true c, if_pos rfl]
      refine wlti (n := a) (m := 4) rfl ?_
      have e : decide (k = 3 ∧ a < 4) = decide (a < 4) := by rw [decide_eq_decide]; exact ⟨fun z => z.2, fun z => ⟨c, z⟩⟩
      rw [← e]
      exact h
    · rw [decide_eq_false c, if_neg Bool.false_ne_true]
      rw [decide_eq_false fun z => c z.1] at h
      exact h
  have chain : wSeq (wDrop (wMut "list" 3 mAppend (wCons (wPers (wTup (wCons (wPers (wBin oSub (wVar 4) (wC (.int 1)))) (wCons (wPers (wVar 4)) wNil)))) wNil)))
      (wIfS (wOr (wAnd (wTest (wBin oEq (wVar 4) (wBin oSub (wVar 1) (wC (.int 1))))) (wTest (wBin oGt (wVar 4) (wC (.int 1))))) (wAnd (wTest (wBin oEq (wVar 2) (wC (.int 3)))) (wTest (wBin oEq (wVar 4) (wC (.int 3)))))) (wDrop (wMut "list" 3 mAppend (wCons (wPers (wTup (wCons (wPers (wC (.int 0))) (wCons (wPers (wVar 4)) wNil)))) wNil))) wNext) N (prS r m n k ps (.d (.int (a : Nat))) s5 s6) := by
    refine wseq_i (app_pair (x := a - 1) (fun P h => wtup2 (x := .int ((a - 1 : Nat) : Int)) (fun P h => ?_) (fun P h => wv_d rfl h) h) hl ?_)
    · refine wbin_i (wv_d rfl ?_)
      have e : ((a - 1 : Nat) : Int) = (a : Int) - 1 := by omega
      rw [e] at h
      exact h
    dsimp only
    have one : N.nx (prS r m n k (ps ++ [(a - 1, a)]) (.d (.int (a : Nat))) s5 s6) := nx [(a - 1, a)] r m s5 s6 (tup_new (by omega)) src h5 h6
    have two : 1 < a → wDrop (wMut "list" 3 mAppend (wCons (wPers (wTup (wCons (wPers (wC (.int 0))) (wCons (wPers (wVar 4)) wNil)))) wNil)) N (prS r m n k (ps ++ [(a - 1, a)]) (.d (.int (a : Nat))) s5 s6) := fun ha => by
      refine app_pair (x := 0) (fun P h => wtup2 (fun P h => h) (fun P h => wv_d rfl h) h) (by rw [List.length_append, List.length_singleton]; have := hp.len; omega) ?_
      rw [List.append_assoc]
      refine nx [(a - 1, a), (0, a)] r m s5 s6 ⟨fun t ht => ?_, ?_, by simp⟩ src h5 h6
      · rcases List.mem_cons.mp ht with ht | ht
        · rw [ht]; exact ⟨by show a - 1 < a; omega, rfl⟩
        · rw [List.mem_singleton.mp ht]; exact ⟨by show 0 < a; omega, rfl⟩
      · refine List.nodup_cons.mpr ⟨fun h => ?_, by simp⟩
        have := (Prod.mk.inj (List.mem_singleton.mp h)).1
        omega
    refine wifs_i (wor_i (wand_i ?_))
    have e1 : ∀ (B : Bool → S → Prop) (E : XC), B (decide (a = n - 1)) (prS r m n k (ps ++ [(a - 1, a)]) (.d (.int (a : Nat))) s5 s6) → wTest (wBin oEq (wVar 4) (wBin oSub (wVar 1) (wC (.int 1)))) (prS r m n k (ps ++ [(a - 1, a)]) (.d (.int (a : Nat))) s5 s6) B E := fun B E h => by
      refine wtest_i (wbin_i (wv_d rfl (wbin_i (wv_d rfl ?_))))
      show boolK B _ (.d (.bl (((a : Nat) : Int) == ((n : Nat) : Int) - 1)))
      have e : ((((a : Nat) : Int) == ((n : Nat) : Int) - 1)) = decide (a = n - 1) := by
        by_cases e : a = n - 1
        · rw [decide_eq_true e, beq_iff_eq]
          omega
        · rw [decide_eq_false e, beq_eq_false_iff_ne]
          omega
      rw [e]
      exact h
    refine e1 _ _ ?_
    have last : ∀ (B : Bool → S → Prop) (E : XC), (∀ b : Bool, (b = true → 1 < a) → B b (prS r m n k (ps ++ [(a - 1, a)]) (.d (.int (a : Nat))) s5 s6)) → wAnd (wTest (wBin oEq (wVar 2) (wC (.int 3)))) (wTest (wBin oEq (wVar 4) (wC (.int 3)))) (prS r m n k (ps ++ [(a - 1, a)]) (.d (.int (a : Nat))) s5 s6) B E := fun B E h => by
      refine wand_i (weqv (n := k) (m := 3) rfl ?_)
      by_cases c : k = 3
      · rw [decide_eq_true c, if_pos rfl]
        refine weqv (n := a) (m := 3) rfl (h _ fun z => ?_)
        have := of_decide_eq_true z
        omega
      · rw [decide_eq_false c, if_neg Bool.false_ne_true]
        exact h false fun z => nomatch z
    have fin : ∀ b : Bool, (b = true → 1 < a) → (fun (k : Bool) st1 => if k = true then wDrop (wMut "list" 3 mAppend (wCons (wPers (wTup (wCons (wPers (wC (.int 0))) (wCons (wPers (wVar 4)) wNil)))) wNil)) N st1 else wNext N st1) b (prS r m n k (ps ++ [(a - 1, a)]) (.d (.int (a : Nat))) s5 s6) := fun b hb => by
      cases b with
      | true =>
        rw [if_pos rfl]
        exact two (hb rfl)
      | false =>
        rw [if_neg Bool.false_ne_true]
        exact one
    by_cases c : a = n - 1
    · rw [decide_eq_true c, if_pos rfl]
      refine wgtv (n := a) (m := 1) rfl ?_
      by_cases c' : 1 < a
      · rw [decide_eq_true c', if_pos rfl]
        exact fin true fun _ => c'
      · rw [decide_eq_false c', if_neg Bool.false_ne_true]
        exact last _ _ fin
    · rw [decide_eq_false c, if_neg Bool.false_ne_true, if_neg Bool.false_ne_true]
      exact last _ _ fin
  have rest : ∀ b : Bool, (fun (k2 : Bool) st1 => if k2 = true then wSeq (wDrop (wMut "list" 3 mAppend (wCons (wPers (wTup (wCons (wPers (wBin oSub (wVar 4) (wC (.int 1)))) (wCons (wPers (wVar 4)) wNil)))) wNil)))
      (wIfS (wOr (wAnd (wTest (wBin oEq (wVar 4) (wBin oSub (wVar 1) (wC (.int 1))))) (wTest (wBin oGt (wVar 4) (wC (.int 1))))) (wAnd (wTest (wBin oEq (wVar 2) (wC (.int 3)))) (wTest (wBin oEq (wVar 4) (wC (.int 3)))))) (wDrop (wMut "list" 3 mAppend (wCons (wPers (wTup (wCons (wPers (wC (.int 0))) (wCons (wPers (wVar 4)) wNil)))) wNil))) wNext) N st1
      else (wIfS (wTest (wBin oEq (wVar 2) (wC (.int 4)))) (wDrop (wMut "list" 3 mAppend (wCons (wPers (wTup (wCons (wPers (wCall [.m, .d] spDraw (wCons (wVar 0) (wCons (wPers (wVar 4)) wNil)))) (wCons (wPers (wVar 4)) wNil)))) wNil))) (wSeq (wAsg 5 (wCall [.m, .d] spDraw (wCons (wVar 0) (wCons (wPers (wVar 4)) wNil))))
  (wSeq (wAsg 6 (wLc (wItR1 (wCons (wVar 4) wNil)) (gN 7) (wTest (wBin oIn (wTup (wCons (wPers (wCB (on2 oMin2) (wCons (wVar 7) (wCons (wVar 5) wNil)))) (wCons (wPers (wCB (on2 oMax2) (wCons (wVar 7) (wCons (wVar 5) wNil)))) wNil))) (wVar 3))) (wPers (wVar 7)) [7]))
  (wAsg 3 (wBin oAdd (wBin oAdd (wVar 3) (wLst (wCons (wPers (wTup (wCons (wPers (wVar 5)) (wCons (wPers (wVar 4)) wNil)))) wNil))) (wLc (wItA (wPers (wVar 6))) (gN 7) (wTest (wBin oEq (wCall [.m, .d] spDraw (wCons (wVar 0) (wCons (wPers (wC (.int 2))) wNil))) (wC (.int 0)))) (wPers (wTup (wCons (wPers (wVar 7)) (wCons (wPers (wVar 4)) wNil)))) [7])))))) N st1) b (prS r m n k ps (.d (.int (a : Nat))) s5 s6) := fun b => by
    cases b with
    | true => exact chain
    | false =>
      rw [if_neg Bool.false_ne_true]
      refine wifs_i (weqv (n := k) (m := 4) rfl ?_)
      by_cases c : k = 4
      · rw [decide_eq_true c, if_pos rfl]
        exact pr_c src h5 h6 h1 (by omega) hl nx
      · rw [decide_eq_false c, if_neg Bool.false_ne_true]
        exact pr_d src h5 h6 h1 (by omega) hl hp nx
  by_cases c : k = 2
  · rw [decide_eq_true c, if_pos rfl]
    exact rest true
  · rw [decide_eq_false c, if_neg Bool.false_ne_true]
    exact second _ _ (rest _)
end
theorem pr_loop {N : DN} {n k : Nat} (hk : k < 7) (hn : n ≤ 12) : ∀ (j a : Nat) (r m : Int) (ps : List (Nat × Nat)) (s4 s5 s6 : Slot), a + j = n → 1 ≤ a → Src r m → Sl s4 → Sl s5 → Sl s6 → PI3 n a ps →
    (∀ r m ps s4 s5 s6, Src r m → PI3 n n ps → N.nx (prS r m n k ps s4 s5 s6)) → loopN (gN 4) w_pairs_l1 N ((List.range j).map fun i => D.int ((a : Nat) + ((i : Nat) : Int))) (prS r m n k ps s4 s5 s6)
  | 0, a, r, m, ps, s4, s5, s6, e, h1, src, h4, h5, h6, hp, kk => by
    obtain rfl : a = n := by omega
    exact kk r m ps s4 s5 s6 src hp
  | j + 1, a, r, m, ps, s4, s5, s6, e, h1, src, h4, h5, h6, hp, kk => by
    have er : (List.range (j + 1)).map (fun i => D.int ((a : Nat) + ((i : Nat) : Int))) = D.int (a : Nat) :: (List.range j).map fun i => D.int (((a + 1 : Nat) : Int) + ((i : Nat) : Int)) := by
      rw [List.range_succ_eq_map, List.map_cons, List.map_map]
      have e1 : D.int ((a : Nat) + (((0 : Nat) : Nat) : Int)) = D.int (a : Nat) := by simp
      have e2 : ((fun i : Nat => D.int ((a : Nat) + ((i : Nat) : Int))) ∘ Nat.succ) = fun i : Nat => D.int (((a + 1 : Nat) : Int) + ((i : Nat) : Int)) := by
        funext i
        show D.int _ = D.int _
        congr 1
        simp only [Nat.succ_eq_add_one]
        push_cast
        omega
      rw [e1, e2]
    rw [er]
    refine ⟨by rcases h4 with rfl | ⟨x, rfl⟩ <;> trivial, ?_⟩
    show w_pairs_l1 _ (prS r m n k ps (.d (.int (a : Nat))) s5 s6)
    refine pr_step src h5 h6 hk h1 (by omega) hn hp fun ns r m s5 s6 nw src h5 h6 => ?_
    exact pr_loop hk hn j (a + 1) r m (ps ++ ns) _ s5 s6 (by omega) (by omega) src (.inr ⟨_, rfl⟩) h5 h6 (hp.add nw) kk
theorem vc_pairs : ∀ avs Q XP, spPairs avs Q XP → w_pairs (bodyN avs Q XP) (stOf 8 avs) := by
  rintro _ Q XP ⟨r, m, n, k, rfl, src, h1, h2, hk, h⟩
  show w_pairs _ ([.p (SrcD r m), .d (.int (n : Nat)), .d (.int (k : Nat)), .un, .un, .un, .un, .un] : S)
  unfold w_pairs
  refine wseq_i (wasg_i (wlst_i (wnil_i (opt_i rfl ⟨Nat.zero_le _, trivial, ?_⟩))))
  dsimp only
  refine wseq_i (wfor_i ?_)
  unfold wItR2
  refine wcons_i (wc_i (wcons_i (wv_d rfl (wnil_i ⟨by decide, by decide, by omega, by omega, ?_⟩))))
  have e : (((n : Nat) : Int) - 1).toNat = n - 1 := by omega
  show loopN _ _ _ ((List.range (((n : Nat) : Int) - 1).toNat).map fun i => D.int (((1 : Nat) : Int) + ((i : Nat) : Int))) (prS r m n k [] .un .un .un)
  rw [e]
  refine pr_loop hk h2 (n - 1) 1 r m [] .un .un .un (by omega) (Nat.le_refl _) src (.inl rfl) (.inl rfl) (.inl rfl) ⟨fun t ht => (nomatch ht), List.nodup_nil, by simp⟩ fun r m ps s4 s5 s6 src hp => ?_
  dsimp only
  refine wret_i (wv_o rfl ?_)
  have := hp.len
  exact h ps (fun t ht => hp.lt t ht) hp.nd (by omega) r m src
end DL


namespace DL
open PySem PySem.Spec PyProof.Rows L2
def Rl (x t : Str × Str) : Prop := x ≠ t ∧ x ≠ (t.2, t.1)
theorem Rl.symm {x t : Str × Str} (h : Rl x t) : Rl t x := ⟨fun e => h.1 e.symm, fun e => h.2 (by rw [e])⟩
theorem okTs_iff {ss : List Str} : ∀ (r d : List (Str × Str)), okTs ss d r ↔ (∀ t ∈ r, okPair ss t) ∧ (∀ t ∈ r, ∀ x ∈ d, Rl x t) ∧ r.Pairwise Rl
  | [], d => ⟨fun _ => ⟨fun _ h => (nomatch h), fun _ h => (nomatch h), List.Pairwise.nil⟩, fun _ => trivial⟩
  | t :: r, d => by
    show okTie ss d t ∧ okTs ss (d ++ [t]) r ↔ _
    rw [okTs_iff r (d ++ [t]), List.pairwise_cons]
    constructor
    · rintro ⟨⟨h1, h2, h3⟩, h4, h5, h6⟩
      refine ⟨fun x hx => ?_, fun x hx y hy => ?_, fun x hx => h5 x hx t (by simp), h6⟩
      · rcases List.mem_cons.mp hx with hx | hx
        · rw [hx]; exact h1
        · exact h4 x hx
      · rcases List.mem_cons.mp hx with hx | hx
        · rw [hx]
          exact ⟨fun e => h2 (e ▸ hy), fun e => h3 (e ▸ hy)⟩
        · exact h5 x hx y (List.mem_append_left _ hy)
    · rintro ⟨h1, h2, h3, h4⟩
      refine ⟨⟨h1 t List.mem_cons_self, fun m => (h2 t List.mem_cons_self _ m).1 rfl, fun m => (h2 t List.mem_cons_self _ m).2 rfl⟩, fun x hx => h1 x (List.mem_cons_of_mem _ hx), fun x hx y hy => ?_, h4⟩
      rcases List.mem_append.mp hy with hy | hy
      · exact h2 x (List.mem_cons_of_mem _ hx) y hy
      · rw [List.mem_singleton.mp hy]
        exact h3 x hx
theorem okT_perm {ss ss' : List Str} {ts ts' : List (Str × Str)} (hs : ss'.Perm ss) (ht : ts'.Perm ts) (h : okT ss ts) : okT ss' ts' := by
  obtain ⟨h1, _, h3⟩ := (okTs_iff ts []).mp h
  refine (okTs_iff ts' []).mpr ⟨fun t hm => ?_, fun _ _ _ h => (nomatch h), (List.Perm.pairwise_iff (fun h => Rl.symm h) ht).mpr h3⟩
  obtain ⟨p1, p2, p3⟩ := h1 t (ht.mem_iff.mp hm)
  exact ⟨hs.mem_iff.mpr p1, hs.mem_iff.mpr p2, p3⟩
theorem okP_perm {ss ss' : List Str} (hs : ss'.Perm ss) (h : okP ss) : okP ss' := by
  obtain ⟨h1, h2, h3, h4⟩ := h
  exact ⟨by rw [hs.length_eq]; exact h1, by rw [hs.length_eq]; exact h2, fun z hz => h3 z (hs.mem_iff.mp hz), hs.nodup_iff.mpr h4⟩
def unP : D → Str × Str
  | .tup [.str a, .str b] => (a, b)
  | _ => (Str.empty, Str.empty)
theorem perm_ties {ys : List D} {ts : List (Str × Str)} (h : ys.Perm (tDs ts)) : ∃ zs, ys = tDs zs ∧ zs.Perm ts := by
  have e : (tDs ts).map unP = ts := by
    unfold tDs
    rw [List.map_map]
    exact List.map_id _
  refine ⟨ys.map unP, ?_, ?_⟩
  · unfold tDs
    rw [List.map_map]
    have : ∀ y ∈ ys, (pairD ∘ unP) y = y := fun y hy => by
      obtain ⟨z, _, rfl⟩ := List.mem_map.mp (show y ∈ ts.map pairD from h.mem_iff.mp hy)
      rfl
    exact ((List.map_congr_left this).trans (List.map_id _)).symm
  · have := h.map unP
    rwa [e] at this
/-- the ties of the pairs so far -/
structure TI3 (ss : List Str) (done : List (Nat × Nat)) (ts : List (Str × Str)) : Prop where
  ok : okT ss ts
  len : ts.length = done.length
  of : ∀ t ∈ ts, ∃ p ∈ done, ∃ a b, ss[p.1]? = some a ∧ ss[p.2]? = some b ∧ (t = (a, b) ∨ t = (b, a))
theorem nd_inj {ss : List Str} (nd : ss.Nodup) {i j : Nat} {a : Str} (h : ss[i]? = some a) (h' : ss[j]? = some a) : i = j := by
  obtain ⟨l1, e1⟩ := List.getElem?_eq_some_iff.mp h
  obtain ⟨l2, e2⟩ := List.getElem?_eq_some_iff.mp h'
  rcases Nat.lt_trichotomy i j with q | q | q
  · exact (List.pairwise_iff_getElem.mp nd i j l1 l2 q (e1.trans e2.symm)).elim
  · exact q
  · exact (List.pairwise_iff_getElem.mp nd j i l2 l1 q (e2.trans e1.symm)).elim
theorem TI3.add {ss : List Str} {done : List (Nat × Nat)} {ts : List (Str × Str)} {i j : Nat} {a b : Str} (h : TI3 ss done ts) (nd : ss.Nodup) (hd : ∀ p ∈ done, p.1 < p.2) (hij : i < j) (hn : (i, j) ∉ done) (ha : ss[i]? = some a) (hb : ss[j]? = some b) {t : Str × Str} (ht : t = (a, b) ∨ t = (b, a)) : TI3 ss (done ++ [(i, j)]) (ts ++ [t]) := by
  have hab : a ≠ b := fun e => by
    subst e
    have := nd_inj nd ha hb
    omega
  have no : (a, b) ∉ ts ∧ (b, a) ∉ ts := by
    have key : ∀ {c d : Str}, ((c = a ∧ d = b) ∨ (c = b ∧ d = a)) → (c, d) ∉ ts := fun {c d} hc hm => by
      obtain ⟨p, hp, a', b', e1, e2, e3⟩ := h.of _ hm
      have hpl := hd p hp
      have main : (a' = a ∧ b' = b) ∨ (a' = b ∧ b' = a) := by
        rcases hc with ⟨rfl, rfl⟩ | ⟨rfl, rfl⟩ <;> rcases e3 with e3 | e3 <;> cases e3 <;> simp
      rcases main with ⟨rfl, rfl⟩ | ⟨rfl, rfl⟩
      · have q1 := nd_inj nd e1 ha
        have q2 := nd_inj nd e2 hb
        exact hn (by rw [← q1, ← q2]; exact hp)
      · have q1 := nd_inj nd e1 hb
        have q2 := nd_inj nd e2 ha
        omega
    exact ⟨key (.inl ⟨rfl, rfl⟩), key (.inr ⟨rfl, rfl⟩)⟩
  have ma := List.mem_of_getElem? ha
  have mb := List.mem_of_getElem? hb
  refine ⟨okT_snoc.mpr ⟨h.ok, ?_⟩, by rw [List.length_append, List.length_append, h.len]; rfl, fun t' hm => ?_⟩
  · rcases ht with rfl | rfl
    · exact ⟨⟨ma, mb, hab⟩, no.1, no.2⟩
    · exact ⟨⟨mb, ma, Ne.symm hab⟩, no.2, no.1⟩
  · rcases List.mem_append.mp hm with hm | hm
    · obtain ⟨p, hp, q⟩ := h.of _ hm
      exact ⟨p, List.mem_append_left _ hp, q⟩
    · rw [List.mem_singleton.mp hm]
      exact ⟨(i, j), by simp, a, b, ha, hb, ht⟩
def plS (r m : Int) (mo n : Nat) (ss : List Str) (ts : List (Str × Str)) (s5 s6 : Slot) : S := [.p (SrcD r m), .d (.int (mo : Nat)), .d (.int (n : Nat)), .o (.lst (sDs ss)), .o (.lst (tDs ts)), s5, s6]
theorem ati_s {ss : List Str} {i : Nat} {a : Str} (h : ss[i]? = some a) : atI (sDs ss) ((i : Nat) : Int) = some (.str a) := atI_nat (by unfold sDs; rw [List.getElem?_map, h]; rfl)
theorem pl_loop {N : DN} {mo n : Nat} {ss : List Str} (nd : ss.Nodup) : ∀ (ps done : List (Nat × Nat)) (r m : Int) (ts : List (Str × Str)) (s5 s6 : Slot), Src r m → Sl s5 → Sl s6 → TI3 ss done ts → (∀ t ∈ done ++ ps, t.1 < t.2 ∧ t.2 < ss.length) → (done ++ ps).Nodup → (done ++ ps).length ≤ 144 →
    (∀ r m ts s5 s6, Src r m → okT ss ts → ts.length ≤ 144 → N.nx (plS r m mo n ss ts s5 s6)) → loopN (gT [(gN 5), (gN 6)]) w_plan_l1 N (ps.map ijD) (plS r m mo n ss ts s5 s6)
  | [], done, r, m, ts, s5, s6, src, h5, h6, ti, hl, hn, hz, kk => by
    rw [List.append_nil] at hz
    exact kk r m ts s5 s6 src ti.ok (by rw [ti.len]; exact hz)
  | (i, j) :: ps, done, r, m, ts, s5, s6, src, h5, h6, ti, hl, hn, hz, kk => by
    rw [List.map_cons]
    refine ⟨rfl, ?_⟩
    refine ⟨by rcases h5 with rfl | ⟨x, rfl⟩ <;> trivial, ?_⟩
    refine ⟨by rcases h6 with rfl | ⟨x, rfl⟩ <;> trivial, ?_⟩
    show w_plan_l1 _ (plS r m mo n ss ts (.d (.int (i : Nat))) (.d (.int (j : Nat))))
    unfold w_plan_l1
    have hij := hl (i, j) (by simp)
    have hij1 : i < j := hij.1
    have hij2 : j < ss.length := hij.2
    have ha : ss[i]? = some ss[i] := List.getElem?_eq_getElem (by omega)
    have hb : ss[j]? = some ss[j] := List.getElem?_eq_getElem hij2
    have hdn : (i, j) ∉ done := fun hm => by
      have := (List.nodup_append.mp hn).2.2 (i, j) hm (i, j) (by simp)
      exact this rfl
    have hlts : ts.length ≤ 144 := by
      rw [ti.len]
      rw [List.length_append] at hz
      omega
    have next : ∀ (t : Str × Str) (r m : Int), Src r m → (t = (ss[i], ss[j]) ∨ t = (ss[j], ss[i])) → loopN (gT [(gN 5), (gN 6)]) w_plan_l1 N (ps.map ijD) (plS r m mo n ss (ts ++ [t]) (.d (.int (i : Nat))) (.d (.int (j : Nat)))) := fun t r m src ht => by
      refine pl_loop nd ps (done ++ [(i, j)]) r m (ts ++ [t]) _ _ src (.inr ⟨_, rfl⟩) (.inr ⟨_, rfl⟩) (ti.add nd (fun p hp => (hl p (List.mem_append_left _ hp)).1) hij1 hdn ha hb ht) ?_ ?_ ?_ kk
      · rw [List.append_assoc]; exact hl
      · rw [List.append_assoc]; exact hn
      · rw [List.append_assoc]; exact hz
    refine wdrop_i ?_
    refine opt_i rfl ?_
    refine ⟨rfl, ?_⟩
    refine wcons_i (wpers_i (wif_i (wtest_i (wbin_i ?_))))
    refine dr src (n := 2) (by decide) (by decide) (fun P h => h) fun x r' m' hx s => ?_
    refine wc_i (opt_i rfl (opt_i rfl (opt_i (x := (((x : Nat) : Int) == (0 : Int))) rfl ?_)))
    dsimp only [boolK]
    have fin : ∀ t : Str × Str, (t = (ss[i], ss[j]) ∨ t = (ss[j], ss[i])) → mAppend (.lst (tDs ts)) [pairD t] (fun z c' => loopN (gT [(gN 5), (gN 6)]) w_plan_l1 N (ps.map ijD) (setC (plS r' m' mo n ss ts (.d (.int (i : Nat))) (.d (.int (j : Nat)))) 4 c')) := fun t ht => by
      refine ⟨by rw [tD_len]; exact lt12 _ (by omega), ?_⟩
      rw [← tDs_app]
      exact next t r' m' s ht
    split
    · refine wtup2 (fun P h => wixv rfl rfl (ati_s ha) h) (fun P h => wixv rfl rfl (ati_s hb) h) ?_
      refine pers_d (wnil_i (opt_i rfl (opt_i rfl ?_)))
      exact fin (ss[i], ss[j]) (.inl rfl)
    · refine wtup2 (fun P h => wixv rfl rfl (ati_s hb) h) (fun P h => wixv rfl rfl (ati_s ha) h) ?_
      refine pers_d (wnil_i (opt_i rfl (opt_i rfl ?_)))
      exact fin (ss[j], ss[i]) (.inr rfl)
theorem vc_plan : ∀ avs Q XP, spPlan avs Q XP → w_plan (bodyN avs Q XP) (stOf 7 avs) := by
  rintro _ Q XP ⟨r, m, mo, rfl, src, h1, h2, h⟩
  show w_plan _ ([.p (SrcD r m), .d (.int (mo : Nat)), .un, .un, .un, .un, .un] : S)
  unfold w_plan
  refine wseq_i (wasg_i (wbin_i (wc_i ?_)))
  refine dr src (n := mo) (by omega) (by omega) (fun P h => wpd (fun P h => wv_d rfl h) h) fun i r1 m1 hi src1 => ?_
  refine opt_i rfl (opt_i rfl ?_)
  refine ⟨trivial, ?_⟩
  have en : (1 : Int) + ((i : Nat) : Int) = ((i + 1 : Nat) : Int) := by omega
  rw [en]
  dsimp only
  show wSeq _ _ _ ([.p (SrcD r1 m1), .d (.int (mo : Nat)), .d (.int ((i + 1 : Nat) : Int)), .un, .un, .un, .un] : S)
  refine wseq_i (wpar_i (wcall_i (wcons_i (wv_p rfl (wcons_i (wpd (fun P h => wv_d rfl h) (wnil_i ?_)))))))
  refine opt_i rfl ?_
  refine ⟨rfl, r1, m1, i + 1, rfl, src1, by omega, by omega, fun ss hl okp r2 m2 src2 => ?_⟩
  refine wlst_i (wnil_i (opt_i rfl ⟨Nat.zero_le _, ?_⟩))
  refine ⟨trivial, trivial, ?_⟩
  dsimp only
  show wSeq _ _ _ (plS r2 m2 mo (i + 1) ss [] .un .un)
  refine wseq_i (wfor_i (wita_i ?_))
  have pr : ∀ P : RV → S → Prop, (∀ (ps : List (Nat × Nat)) r m, (∀ t ∈ ps, t.1 < t.2 ∧ t.2 < i + 1) → ps.Nodup → ps.length ≤ 144 → Src r m → P (.d (.lst (ps.map ijD))) (plS r m mo (i + 1) ss [] .un .un)) →
      wPers (wCall [.m, .d, .d] spPairs (wCons (wVar 0) (wCons (wPers (wVar 2)) (wCons (wPers (wCall [.m, .d] spDraw (wCons (wVar 0) (wCons (wPers (wC (.int 7))) wNil)))) wNil)))) (plS r2 m2 mo (i + 1) ss [] .un .un) P (bodyN [.m (SrcD r m), .d (.int (mo : Nat))] Q XP).ex := fun P hP => by
    refine wpers_i (wcall_i (wcons_i (wv_p rfl (wcons_i (wpd (fun P h => wv_d rfl h) (wcons_i (wpers_i ?_)))))))
    refine dr src2 (n := 7) (by decide) (by decide) (fun P h => h) fun k r3 m3 hk src3 => ?_
    refine pers_d (wnil_i ?_)
    refine opt_i rfl ?_
    refine ⟨rfl, r3, m3, i + 1, k, rfl, src3, by omega, by omega, hk, fun ps p1 p2 p3 r m src => ?_⟩
    exact hP ps r m p1 p2 p3 src
  refine pr _ fun ps r3 m3 p1 p2 p3 src3 => ?_
  refine opt_i rfl ?_
  refine pl_loop okp.2.2.2 ps [] r3 m3 [] .un .un src3 (.inl rfl) (.inl rfl) ⟨trivial, rfl, fun t ht => (nomatch ht)⟩ (by rw [hl]; exact p1) p2 p3 fun r4 m4 ts s5 s6 src4 okt tl => ?_
  dsimp only
  refine wret_i (wtup_i (wcons_i (wpers_i (wcb_i (wcons_i ?_)))))
  refine wcall_i (wcons_i (wv_p rfl (wcons_i (wv_o rfl (wnil_i ?_)))))
  refine opt_i rfl ?_
  refine ⟨rfl, r4, m4, _, sDs ss, rfl, src4, rfl, by rw [strL_len]; have := okp.2.1; omega, fun ys hp r5 m5 src5 => ?_⟩
  obtain ⟨ss', rfl, hs'⟩ := perm_strs hp
  refine wnil_i (opt_i rfl ?_)
  refine opt_i rfl ?_
  refine opt_i rfl ?_
  refine pers_d ?_
  refine wcons_i (wpers_i (wcb_i (wcons_i ?_)))
  refine wcall_i (wcons_i (wv_p rfl (wcons_i (wv_o rfl (wnil_i ?_)))))
  refine opt_i rfl ?_
  refine ⟨rfl, r5, m5, _, tDs ts, rfl, src5, rfl, by rw [tD_len]; omega, fun ys hp r6 m6 src6 => ?_⟩
  obtain ⟨ts', rfl, ht'⟩ := perm_ties hp
  refine wnil_i (opt_i rfl ?_)
  refine opt_i rfl ?_
  refine opt_i rfl ?_
  refine pers_d ?_
  refine wnil_i (opt_i rfl ⟨by show 2 ≤ sizeLine; rw [sizeLine_eq]; decide, ?_⟩)
  exact h ss' ts' (okP_perm hs' okp) (okT_perm hs' ht' okt) (by rw [ht'.length_eq]; exact tl) r6 m6 src6
end DL


namespace DL
open PySem PySem.Spec PyProof.Rows L2 TL
theorem cut_pre (ls : List Str) (i : Nat) : cutL (sDs ls) none (some ((i : Nat) : Int)) = sDs (ls.take i) := by
  unfold cutL
  rw [HT.sIx_none, HT.sIx_nat, List.drop_zero, Nat.sub_zero, strL_len]
  unfold sDs
  rw [← List.map_take]
  congr 1
  rcases Nat.le_total i ls.length with h | h
  · rw [Nat.min_eq_left h]
  · rw [Nat.min_eq_right h, List.take_length, List.take_of_length_le h]
theorem cut_suf (ls : List Str) (i : Nat) : cutL (sDs ls) (some ((i : Nat) : Int)) none = sDs (ls.drop i) := by
  unfold cutL
  rw [HT.sIx_none, HT.sIx_nat, strL_len]
  unfold sDs
  rw [← List.map_drop, ← List.map_take]
  congr 1
  rcases Nat.le_total i ls.length with h | h
  · rw [Nat.min_eq_left h, List.take_of_length_le (by rw [List.length_drop]; exact Nat.le_refl _)]
  · rw [Nat.min_eq_right h, List.drop_length, List.drop_of_length_le h, List.take_nil]
theorem add_l {xs ys : List D} {P : RV → Prop} (h : xs.length + ys.length ≤ 100000) (k : P (.n (.lst (xs ++ ys)))) : oAdd (.lst xs) (.lst ys) P := ⟨by rw [sizeLine_eq]; omega, k⟩
theorem add_s {x y : Str} {P : RV → Prop} (h : x.length + y.length ≤ 1000000) (k : P (.d (.str (x ++ y)))) : oAdd (.str x) (.str y) P := ⟨by rw [sizeLine_eq]; omega, k⟩
theorem wvs2 {st : S} {i : Nat} {x : D} {P : RV → S → Prop} {E : XC} (h : slotD st[i]? = some x) (k : ∀ r, (∀ st' : S, st'[i]? = st[i]? → cont st' r = some x) → P r st) : wVar i st P E := by
  cases e : st[i]? with
  | none => rw [e] at h; cases h
  | some s =>
    rw [e] at h
    cases s with
    | un => cases h
    | x _ _ _ _ => cases h
    | d y => exact wv_d e (k _ fun _ _ => h)
    | b y => exact wv_b e (k _ fun _ _ => h)
    | o c => exact wv_o e (k _ fun st' q => by show slotD st'[i]? = _; rw [q, e]; exact h)
    | p c => exact wv_p e (k _ fun st' q => by show slotD st'[i]? = _; rw [q, e]; exact h)
section
variable {N : DN} {r m : Int} {rest : S} {ls : List Str} {at_ j i : Nat} {E : WE} {wc : WO} {OkX : Str → Prop}
theorem bret (h1 : slotD rest[j]? = some (.lst (sDs ls))) (h2 : rest[i]? = some (.d (.int (at_ : Nat)))) (src : Src r m)
    (hE : ∀ P : RV → S → Prop, (∀ x r' m', Src r' m' → OkX x → P (.d (.str x)) (.p (SrcD r' m') :: rest)) → E (.p (SrcD r m) :: rest) P N.ex)
    (hc : ∀ r m, Src r m → ∀ P : Option Int → S → Prop, (∀ (c : Nat) r' m', at_ ≤ c → Src r' m' → P (some (c : Nat)) (.p (SrcD r' m') :: rest)) → wc (.p (SrcD r m) :: rest) P N.ex) (hz : ls.length ≤ 10000)
    (kk : ∀ x (c : Nat) r' m', Src r' m' → OkX x → at_ ≤ c → N.rt (.n (.lst (sDs (ls.take at_ ++ [x] ++ ls.drop c)))) (.p (SrcD r' m') :: rest)) :
    wRet (wBin oAdd (wBin oAdd (wSl (wVar (j + 1)) wNoPart (wPart (wVar (i + 1)))) (wLst (wCons (wPers E) wNil))) (wSl (wVar (j + 1)) wc wNoPart)) N (.p (SrcD r m) :: rest) := by
  have g1 : ∀ {r m}, slotD (((.p (SrcD r m) : Slot) :: rest)[j + 1]?) = some (.lst (sDs ls)) := fun {r m} => h1
  have g2 : ∀ {r m}, ((.p (SrcD r m) : Slot) :: rest)[i + 1]? = some (.d (.int (at_ : Nat))) := fun {r m} => h2
  refine wret_i (wbin_i (wbin_i ?_))
  refine wslv (lo := none) (hi := some ((at_ : Nat) : Int)) g1 (fun P h => h) (fun P h => wv_d g2 h) ?_
  rw [cut_pre]
  refine wlst_i (wcons_i (wpers_i ?_))
  refine hE _ fun x r' m' s ox => ?_
  refine pers_d (wnil_i (opt_i rfl ⟨by show 1 ≤ sizeLine; rw [sizeLine_eq]; decide, opt_i rfl (opt_i rfl ?_)⟩))
  have hx : (sDs (ls.take at_)).length ≤ 10000 := by
    rw [strL_len, List.length_take]
    omega
  refine add_l (by show _ + 1 ≤ _; omega) ?_
  unfold wSl
  refine wvs2 g1 fun rv hr => ?_
  refine hc r' m' s _ fun c r2 m2 hcc s2 => ?_
  have hr2 : cont ((.p (SrcD r2 m2) : Slot) :: rest) rv = some (.lst (sDs ls)) := hr _ rfl
  show opt (cont ((.p (SrcD r2 m2) : Slot) :: rest) rv) _
  refine opt_i hr2 ?_
  refine cutl_i ?_
  rw [cut_suf]
  refine opt_i rfl (opt_i rfl ?_)
  refine add_l ?_ ?_
  · rw [List.length_append, strL_len, strL_len, List.length_drop, List.length_take]
    show _ + 1 + _ ≤ _
    omega
  · have e : sDs (ls.take at_) ++ [D.str x] ++ sDs (ls.drop c) = sDs (ls.take at_ ++ [x] ++ ls.drop c) := by
      unfold sDs
      rw [List.map_append, List.map_append]
      rfl
    rw [e]
    exact kk x c r2 m2 s2 ox hcc
end
end DL


namespace DL
open PySem PySem.Spec PyProof.Rows L2 TL
def bR (ls : List Str) (a t kd : Nat) (line : Str) (rs ws : List Str) (s8 s9 s10 s11 : Slot) : S := [.b (.lst (sDs ls)), .d (.int (a : Nat)), .d (.int (t : Nat)), .d (.int (kd : Nat)), .d (.str line), .o (.lst (sDs rs)), .o (.lst (sDs ws)), s8, s9, s10, s11]
def signs : Str := " !\"#$&'()*+,-./0123456789:;<=>?@ABCDEFGHIJKLMNOPQRSTUVWXYZ[\\]^_`{|}~"
theorem signs_len : lenD (.str signs) = some 68 ∧ signs.length = 68 ∧ signs.cps.toList.length = 68 := by decide +kernel
theorem lenD_s {z : Str} (h : z.length ≤ 1000000) : lenD (.str z) = some z.length := if_pos (by rw [sizeLine_eq]; omega)
theorem orev_i {xs : List D} {P : RV → Prop} (k : P (.n (.lst xs.reverse))) : oRev (.lst xs) P := k
theorem ojoin_i {z : Str} {zs : List Str} {P : RV → Prop} (h : (zs.map (·.length)).sum + zs.length * z.length ≤ 16777216) (k : P (.d (.str (Txt.join z zs)))) : oJoin (.str z) (.lst (sDs zs)) P := by
  show opt (strsD (sDs zs)) _
  refine opt_i (strsD_map zs) ⟨h, k⟩
section
variable {N : DN} {r m : Int} {ls rs ws : List Str} {a t kd n k : Nat} {line : Str} {s8 s9 s10 s11 : Slot}
/-- what a way to bend gives -/
def BN (N : DN) (ls : List Str) (n k : Nat) (rest : S) : Prop := ∀ ls' r m, LinesOk (n + 1) (2 * k + 20) ls' → Src r m → N.rt (.n (.lst (sDs ls'))) (.p (SrcD r m) :: rest)
theorem bn_use {rest : S} (h : BN N ls n k rest) (lo : LinesOk n k ls) (hat : a ≤ ls.length) {x : Str} {c : Nat} (src : Src r m) (ox : x.length ≤ 2 * k + 20) (hc : a ≤ c) : N.rt (.n (.lst (sDs (ls.take a ++ [x] ++ ls.drop c)))) (.p (SrcD r m) :: rest) := by
  refine h _ r m ⟨?_, fun y hy => ?_⟩ src
  · have := lo.1
    rw [List.length_append, List.length_append, List.length_take, List.length_drop, List.length_singleton]
    omega
  · rcases List.mem_append.mp hy with hy | hy
    · rcases List.mem_append.mp hy with hy | hy
      · have := lo.2 y (List.mem_of_mem_take hy)
        omega
      · rw [List.mem_singleton.mp hy]; exact ox
    · have := lo.2 y (List.mem_of_mem_drop hy)
      omega
theorem wc_at {rest : S} {i : Nat} (h : rest[i]? = some (.d (.int (a : Nat)))) : ∀ r m, Src r m → ∀ P : Option Int → S → Prop, (∀ (c : Nat) r' m', a ≤ c → Src r' m' → P (some (c : Nat)) (.p (SrcD r' m') :: rest)) → wPart (wVar (i + 1)) (.p (SrcD r m) :: rest) P N.ex := fun r m s P hP =>
  wv_d (st := (.p (SrcD r m) : Slot) :: rest) h (hP a r m (Nat.le_refl _) s)
theorem wc_at1 {rest : S} {i : Nat} (h : rest[i]? = some (.d (.int (a : Nat)))) : ∀ r m, Src r m → ∀ P : Option Int → S → Prop, (∀ (c : Nat) r' m', a ≤ c → Src r' m' → P (some (c : Nat)) (.p (SrcD r' m') :: rest)) → wPart (wBin oAdd (wVar (i + 1)) (wC (.int 1))) (.p (SrcD r m) :: rest) P N.ex := fun r m s P hP => by
  refine wbin_i (wv_d (st := (.p (SrcD r m) : Slot) :: rest) h ?_)
  exact hP (a + 1) r m (Nat.le_succ _) s
theorem wc_atd {rest : S} {i : Nat} (h : rest[i]? = some (.d (.int (a : Nat)))) : ∀ r m, Src r m → ∀ P : Option Int → S → Prop, (∀ (c : Nat) r' m', a ≤ c → Src r' m' → P (some (c : Nat)) (.p (SrcD r' m') :: rest)) →
    wPart (wBin oAdd (wVar (i + 1)) (wCall [.m, .d] spDraw (wCons (wVar 0) (wCons (wPers (wC (.int 2))) wNil)))) (.p (SrcD r m) :: rest) P N.ex := fun r m s P hP => by
  refine wbin_i (wv_d (st := (.p (SrcD r m) : Slot) :: rest) h ?_)
  refine dr s (n := 2) (by decide) (by decide) (fun P h => h) fun d r' m' hd s' => ?_
  exact hP (a + d) r' m' (Nat.le_add_right _ _) s'
/-- line[:..draw..] -/
theorem bent2 (src : Src r m) (lo : LinesOk n k ls) (hn : n ≤ 1000) (hk : k ≤ 1000) (hat : a ≤ ls.length) (hl : line.length ≤ k) (kk : BN N ls n k (bR ls a t kd line rs ws s8 s9 s10 s11)) :
    wRet (wBin oAdd (wBin oAdd (wSl (wVar 1) wNoPart (wPart (wVar 2))) (wLst (wCons (wPers (wSl (wVar 5) wNoPart (wPart (wCall [.m, .d] spDraw (wCons (wVar 0) (wCons (wPers (wBin oAdd (wCB (on1 oLen) (wCons (wVar 5) wNil)) (wC (.int 1)))) wNil)))))) wNil))) (wSl (wVar 1) (wPart (wBin oAdd (wVar 2) (wC (.int 1)))) wNoPart)) N (.p (SrcD r m) :: bR ls a t kd line rs ws s8 s9 s10 s11) := by
  refine bret (j := 0) (i := 1) (OkX := fun x => x.length ≤ 2 * k + 20) rfl rfl src (fun P hP => ?_) (wc_at1 rfl) (by have := lo.1; omega) fun x c r' m' s ox hc => bn_use kk lo hat s ox hc
  unfold wSl wNoPart wPart
  refine wv_d rfl ?_
  refine dr src (n := line.length + 1) (by omega) (by omega) (fun P h => ?_) fun d r' m' hd s' => ?_
  · refine wpd (x := .int (((line.length + 1 : Nat) : Nat) : Int)) (fun P h => ?_) h
    refine wbin_i (wlenv (x := .str line) (n := line.length) rfl (lenD_s (by omega)) ?_)
    exact h
  · refine opt_i rfl ?_
    refine ⟨by rw [sizeLine_eq]; omega, ?_⟩
    refine hP _ r' m' s' ?_
    have := cutS_length line none (some ((d : Nat) : Int))
    omega
theorem bent4 (src : Src r m) (lo : LinesOk n k ls) (hn : n ≤ 1000) (hk : k ≤ 1000) (hat : a ≤ ls.length) (hl : line.length ≤ k) (hw : ws = Txt.split line " ") (kk : BN N ls n k (bR ls a t kd line rs ws s8 s9 s10 s11)) :
    wRet (wBin oAdd (wBin oAdd (wSl (wVar 1) wNoPart (wPart (wVar 2))) (wLst (wCons (wPers (wM1 oJoin (wC (.str " ")) (wBin oAdd (wSl (wVar 7) wNoPart (wPart (wC (.int 1)))) (wUn oRev (wSl (wVar 7) (wPart (wC (.int 1))) wNoPart))))) wNil))) (wSl (wVar 1) (wPart (wBin oAdd (wVar 2) (wC (.int 1)))) wNoPart)) N (.p (SrcD r m) :: bR ls a t kd line rs ws s8 s9 s10 s11) := by
  have hsum := words_sum line
  have hne := words_ne line
  rw [← hw] at hsum hne
  have hpos : 0 < ws.length := List.length_pos_iff.mpr hne
  refine bret (j := 0) (i := 1) (OkX := fun x => x.length ≤ 2 * k + 20) rfl rfl src (fun P hP => ?_) (wc_at1 rfl) (by have := lo.1; omega) fun x c r' m' s ox hc => bn_use kk lo hat s ox hc
  refine wm1_i (wc_i ?_)
  refine wbin_i ?_
  refine wslv (xs := sDs ws) (lo := none) (hi := some ((1 : Nat) : Int)) rfl (fun P h => h) (fun P h => h) ?_
  rw [cut_pre]
  refine wun_i ?_
  refine wslv (xs := sDs ws) (lo := some ((1 : Nat) : Int)) (hi := none) rfl (fun P h => h) (fun P h => h) ?_
  rw [cut_suf]
  refine opt_i rfl ?_
  refine orev_i ?_
  refine opt_i rfl (opt_i rfl (add_l ?_ ?_))
  · rw [strL_len, List.length_reverse, strL_len, List.length_take, List.length_drop]
    omega
  have e : sDs (ws.take 1) ++ (sDs (ws.drop 1)).reverse = sDs (ws.take 1 ++ (ws.drop 1).reverse) := by
    unfold sDs
    rw [List.map_append, List.map_reverse]
  rw [e]
  have hp : (ws.take 1 ++ (ws.drop 1).reverse).Perm ws := by
    have h1 : (ws.take 1 ++ (ws.drop 1).reverse).Perm (ws.take 1 ++ ws.drop 1) := List.Perm.append_left _ (List.reverse_perm _)
    rwa [List.take_append_drop] at h1
  have hs : ((ws.take 1 ++ (ws.drop 1).reverse).map (·.length)).sum = (ws.map (·.length)).sum := (hp.map _).sum_nat
  have hl2 : (ws.take 1 ++ (ws.drop 1).reverse).length = ws.length := hp.length_eq
  refine opt_i rfl (ojoin_i ?_ ?_)
  · rw [hs, hl2]
    have e1 : (" " : Str).length = 1 := by decide +kernel
    rw [e1]
    omega
  · refine hP _ r m src ?_
    have hj := join_len tl_sp (l := ws.take 1 ++ (ws.drop 1).reverse) (fun e => by rw [e] at hl2; simp at hl2; omega)
    rw [hs, hl2] at hj
    omega
end
end DL


namespace DL
open PySem PySem.Spec PyProof.Rows L2 TL
theorem wsls {st : S} {i : Nat} {z : Str} {wl wh : WO} {lo hi : Option Int} {P : RV → S → Prop} {E : XC} (h : st[i]? = some (.d (.str z))) (hz : z.length ≤ sizeLine) (hl : ∀ P : Option Int → S → Prop, P lo st → wl st P E) (hh : ∀ P : Option Int → S → Prop, P hi st → wh st P E)
    (k : P (.d (.str (cutS z lo hi))) st) : wSl (wVar i) wl wh st P E := by
  unfold wSl
  refine wv_d h (hl _ (hh _ ?_))
  exact ⟨hz, k⟩
section
variable {N : DN} {r m : Int} {ls rs ws : List Str} {a t kd n k : Nat} {line : Str} {s8 s9 s10 s11 : Slot}
theorem str1 (c : Nat) : (⟨#[c]⟩ : Str).length = 1 := rfl
/-- a sign put in -/
theorem bent5 (src : Src r m) (lo : LinesOk n k ls) (hn : n ≤ 1000) (hk : k ≤ 1000) (hat : a ≤ ls.length) (hl : line.length ≤ k) (h9 : Np s9) (h10 : Np s10) (kk : ∀ line' s9 s10, BN N ls n k (bR ls a t kd line' rs ws s8 s9 s10 s11)) :
    wSeq (wAsg 9 (wCall [.m, .d] spDraw (wCons (wVar 0) (wCons (wPers (wBin oAdd (wCB (on1 oLen) (wCons (wVar 5) wNil)) (wC (.int 1)))) wNil))))
  (wSeq (wAsg 10 (wCall [.m, .b] spPick (wCons (wVar 0) (wCons (wC (.str " !\"#$&'()*+,-./0123456789:;<=>?@ABCDEFGHIJKLMNOPQRSTUVWXYZ[\\]^_`{|}~")) wNil))))
  (wSeq (wAsg 5 (wBin oAdd (wBin oAdd (wSl (wVar 5) wNoPart (wPart (wVar 9))) (wVar 10)) (wSl (wVar 5) (wPart (wVar 9)) wNoPart)))
  (wRet (wBin oAdd (wBin oAdd (wSl (wVar 1) wNoPart (wPart (wVar 2))) (wLst (wCons (wPers (wVar 5)) wNil))) (wSl (wVar 1) (wPart (wBin oAdd (wVar 2) (wC (.int 1)))) wNoPart))))) N (.p (SrcD r m) :: bR ls a t kd line rs ws s8 s9 s10 s11) := by
  refine wseq_i (wasg_i ?_)
  refine dr src (n := line.length + 1) (by omega) (by omega) (fun P h => ?_) fun d r1 m1 hd src1 => ?_
  · refine wpd (x := .int (((line.length + 1 : Nat) : Nat) : Int)) (fun P h => ?_) h
    refine wbin_i (wlenv (x := .str line) (n := line.length) rfl (lenD_s (by omega)) ?_)
    exact h
  refine ⟨np_nop h9 _ _ rfl, ?_⟩
  dsimp only
  show wSeq _ _ _ (.p (SrcD r1 m1) :: bR ls a t kd line rs ws s8 (.d (.int (d : Nat))) s10 s11)
  refine wseq_i (wasg_i (wcall_i (wcons_i (wv_p rfl (wcons_i (wc_i (wnil_i ?_)))))))
  refine opt_i rfl ?_
  refine ⟨rfl, r1, m1, .str signs, 68, rfl, src1, signs_len.1, by decide, by decide, fun i r2 m2 hi src2 => ?_⟩
  refine ⟨by show signs.length ≤ _; rw [signs_len.2.1, sizeLine_eq]; decide, ?_⟩
  have hi2 : i < signs.cps.toList.length := by rw [signs_len.2.2]; exact hi
  show opt (atI signs.cps.toList ((i : Nat) : Int)) _
  have ea : atI signs.cps.toList ((i : Nat) : Int) = some signs.cps.toList[i] := atI_nat (List.getElem?_eq_getElem hi2)
  rw [ea, opt_some]
  refine ⟨np_nop h10 _ _ rfl, ?_⟩
  dsimp only
  generalize signs.cps.toList[i] = c
  show wSeq _ _ _ (.p (SrcD r2 m2) :: bR ls a t kd line rs ws s8 (.d (.int (d : Nat))) (.d (.str ⟨#[c]⟩)) s11)
  have l1 := cutS_length line none (some ((d : Nat) : Int))
  have l2 := cutS_length line (some ((d : Nat) : Int)) none
  have hsl : line.length ≤ sizeLine := by rw [sizeLine_eq]; omega
  have e1 : (cutS line none (some ((d : Nat) : Int)) ++ (⟨#[c]⟩ : Str)).length = (cutS line none (some ((d : Nat) : Int))).length + 1 := by
    rw [TL.len_tl, TL.tl_append, List.length_append, ← TL.len_tl]
    rfl
  refine wseq_i (wasg_i (wbin_i (wbin_i ?_)))
  refine wsls (lo := none) (hi := some ((d : Nat) : Int)) rfl hsl (fun P h => h) (fun P h => wv_d rfl h) ?_
  refine wv_d rfl (opt_i rfl (opt_i rfl (add_s (by rw [str1]; omega) ?_)))
  refine wsls (lo := some ((d : Nat) : Int)) (hi := none) rfl hsl (fun P h => wv_d rfl h) (fun P h => h) ?_
  refine opt_i rfl (opt_i rfl (add_s (by omega) ?_))
  refine ⟨trivial, ?_⟩
  dsimp only
  have e2 : (cutS line none (some ((d : Nat) : Int)) ++ (⟨#[c]⟩ : Str) ++ cutS line (some ((d : Nat) : Int)) none).length ≤ 2 * k + 20 := by
    rw [TL.len_tl, TL.tl_append, List.length_append, ← TL.len_tl, ← TL.len_tl, e1]
    omega
  generalize cutS line none (some ((d : Nat) : Int)) ++ (⟨#[c]⟩ : Str) ++ cutS line (some ((d : Nat) : Int)) none = line' at e2
  show wRet _ _ (.p (SrcD r2 m2) :: bR ls a t kd line' rs ws s8 (.d (.int (d : Nat))) (.d (.str ⟨#[c]⟩)) s11)
  generalize hR : bR ls a t kd line' rs ws s8 (.d (.int (d : Nat))) (.d (.str ⟨#[c]⟩)) s11 = R
  have k2 : BN N ls n k R := by rw [← hR]; exact kk line' _ _
  have g0 : slotD R[0]? = some (.lst (sDs ls)) := by rw [← hR]; rfl
  have g1 : R[1]? = some (.d (.int (a : Nat))) := by rw [← hR]; rfl
  have g4 : R[4]? = some (.d (.str line')) := by rw [← hR]; rfl
  refine bret (j := 0) (i := 1) (OkX := fun x => x.length ≤ 2 * k + 20) g0 g1 src2 (fun P hP => ?_) (wc_at1 g1) ?_ fun x c r' m' s ox hc => ?_
  · exact wv_d (st := (.p (SrcD r2 m2) : Slot) :: R) (i := 5) g4 (hP line' r2 m2 src2 e2)
  · have := lo.1
    omega
  · exact bn_use k2 lo hat s ox hc
end
end DL


namespace DL
open PySem PySem.Spec PyProof.Rows L2 TL
def l3 (z : Str) : List Str := [("place " : Str) ++ z, ("tie " : Str) ++ z ++ (" " : Str) ++ z, ("tie " : Str) ++ z]
def l5 : List Str := ["place", "tie a b", "tie b a", "place q r", ""]
def l7 : List Str := ["Place q", "TIE a b", "place  q", " place q", "place q ", "place abcdefghi", "place zzzz"]
def l1 : List Str := ["place tie"]
def l16 (z : Str) : List Str := l3 z ++ l5 ++ l7 ++ l1
theorem app_len (a b : Str) : (a ++ b).length = a.length + b.length := by rw [TL.len_tl, TL.tl_append, List.length_append, ← TL.len_tl, ← TL.len_tl]
theorem lens : ("place " : Str).length = 6 ∧ ("tie " : Str).length = 4 ∧ (" " : Str).length = 1 ∧ (∀ z ∈ l5 ++ l7 ++ l1, z.length ≤ 20) := by decide +kernel
theorem l16_len {z x : Str} {k : Nat} (hz : z.length ≤ k) (h : x ∈ l16 z) : x.length ≤ 2 * k + 20 := by
  obtain ⟨e1, e2, e3, e4⟩ := lens
  unfold l16 at h
  rw [List.append_assoc, List.append_assoc] at h
  rcases List.mem_append.mp h with h | h
  · unfold l3 at h
    rcases List.mem_cons.mp h with h | h
    · rw [h, app_len, e1]; omega
    rcases List.mem_cons.mp h with h | h
    · rw [h, app_len, app_len, app_len, e2, e3]; omega
    · rw [List.mem_singleton.mp h, app_len, e2]; omega
  · have := e4 x (by rw [List.append_assoc]; exact h)
    omega
section
variable {N : DN} {r m : Int} {ls rs ws : List Str} {a t kd n k : Nat} {line nm : Str} {s9 s10 s11 : Slot}
theorem bent6a (hk : k ≤ 1000) (hnm : nm.length ≤ k) (h11 : Np s11) (kk : N.nx (.p (SrcD r m) :: bR ls a t kd line rs ws (.d (.str nm)) s9 s10 (.o (.lst (sDs (l3 nm ++ l5)))))) :
    wAsg 11 (wLst (wCons (wPers (wBin oAdd (wC (.str "place ")) (wVar 8))) (wCons (wPers (wBin oAdd (wBin oAdd (wBin oAdd (wC (.str "tie ")) (wVar 8)) (wC (.str " "))) (wVar 8))) (wCons (wPers (wBin oAdd (wC (.str "tie ")) (wVar 8))) (wCons (wPers (wC (.str "place"))) (wCons (wPers (wC (.str "tie a b"))) (wCons (wPers (wC (.str "tie b a"))) (wCons (wPers (wC (.str "place q r"))) (wCons (wPers (wC (.str ""))) wNil)))))))))
      N (.p (SrcD r m) :: bR ls a t kd line rs ws (.d (.str nm)) s9 s10 s11) := by
  obtain ⟨e1, e2, e3, e4⟩ := lens
  refine wasg_i (wlst_i ?_)
  refine wcons_i (wpers_i (wbin_i (wc_i (wv_d rfl ?_))))
  refine opt_i rfl (opt_i rfl (add_s (by rw [e1]; omega) (pers_d ?_)))
  refine wcons_i (wpers_i (wbin_i (wbin_i (wbin_i (wc_i (wv_d rfl ?_))))))
  refine opt_i rfl (opt_i rfl (add_s (by rw [e2]; omega) ?_))
  refine wc_i (opt_i rfl (opt_i rfl (add_s (by rw [app_len, e2, e3]; omega) ?_)))
  refine wv_d rfl (opt_i rfl (opt_i rfl (add_s (by rw [app_len, app_len, e2, e3]; omega) (pers_d ?_))))
  refine wcons_i (wpers_i (wbin_i (wc_i (wv_d rfl ?_))))
  refine opt_i rfl (opt_i rfl (add_s (by rw [e2]; omega) (pers_d ?_)))
  refine wcons_i (wpers_i (wc_i (pers_d ?_)))
  refine wcons_i (wpers_i (wc_i (pers_d ?_)))
  refine wcons_i (wpers_i (wc_i (pers_d ?_)))
  refine wcons_i (wpers_i (wc_i (pers_d ?_)))
  refine wcons_i (wpers_i (wc_i (pers_d ?_)))
  refine wnil_i (opt_i rfl ⟨by show 8 ≤ sizeLine; rw [sizeLine_eq]; decide, np_nop h11 _ _ rfl, ?_⟩)
  exact kk
theorem bent6b {xs : List Str} (hx : xs.length ≤ 100) (kk : N.nx (.p (SrcD r m) :: bR ls a t kd line rs ws (.d (.str nm)) s9 s10 (.o (.lst (sDs (xs ++ l7)))))) :
    wAsg 11 (wBin oAdd (wVar 11) (wLst (wCons (wPers (wC (.str "Place q"))) (wCons (wPers (wC (.str "TIE a b"))) (wCons (wPers (wC (.str "place  q"))) (wCons (wPers (wC (.str " place q"))) (wCons (wPers (wC (.str "place q "))) (wCons (wPers (wC (.str "place abcdefghi"))) (wCons (wPers (wC (.str "place zzzz"))) wNil)))))))))
      N (.p (SrcD r m) :: bR ls a t kd line rs ws (.d (.str nm)) s9 s10 (.o (.lst (sDs xs)))) := by
  refine wasg_i (wbin_i (wv_o rfl (wlst_i ?_)))
  refine wcons_i (wpers_i (wc_i (pers_d ?_)))
  refine wcons_i (wpers_i (wc_i (pers_d ?_)))
  refine wcons_i (wpers_i (wc_i (pers_d ?_)))
  refine wcons_i (wpers_i (wc_i (pers_d ?_)))
  refine wcons_i (wpers_i (wc_i (pers_d ?_)))
  refine wcons_i (wpers_i (wc_i (pers_d ?_)))
  refine wcons_i (wpers_i (wc_i (pers_d ?_)))
  refine wnil_i (opt_i rfl ⟨by show 7 ≤ sizeLine; rw [sizeLine_eq]; decide, ?_⟩)
  refine opt_i rfl (opt_i rfl (add_l (by rw [strL_len]; show _ + 7 ≤ _; omega) ?_))
  refine ⟨trivial, ?_⟩
  have e : sDs (xs ++ l7) = sDs xs ++ sDs l7 := by
    unfold sDs
    rw [List.map_append]
  rw [e] at kk
  exact kk
theorem bent6c (src : Src r m) (lo : LinesOk n k ls) (hn : n ≤ 1000) (hat : a ≤ ls.length) (hnm : nm.length ≤ k) (kk : BN N ls n k (bR ls a t kd line rs ws (.d (.str nm)) s9 s10 (.o (.lst (sDs (l16 nm)))))) :
    wRet (wBin oAdd (wBin oAdd (wSl (wVar 1) wNoPart (wPart (wVar 2))) (wLst (wCons (wPers (wCall [.m, .b] spPick (wCons (wVar 0) (wCons (wVar 11) wNil)))) wNil))) (wSl (wVar 1) (wPart (wBin oAdd (wVar 2) (wCall [.m, .d] spDraw (wCons (wVar 0) (wCons (wPers (wC (.int 2))) wNil))))) wNoPart))
      N (.p (SrcD r m) :: bR ls a t kd line rs ws (.d (.str nm)) s9 s10 (.o (.lst (sDs (l16 nm))))) := by
  refine bret (j := 0) (i := 1) (OkX := fun x => x.length ≤ 2 * k + 20) rfl rfl src (fun P hP => ?_) (wc_atd rfl) (by have := lo.1; omega) fun x c r' m' s ox hc => bn_use kk lo hat s ox hc
  refine wcall_i (wcons_i (wv_p rfl (wcons_i (wv_o rfl (wnil_i ?_)))))
  refine opt_i rfl ?_
  have hlen : (sDs (l16 nm)).length = 16 := by rw [strL_len]; rfl
  refine ⟨rfl, r, m, _, 16, rfl, src, (by show some (sDs (l16 nm)).length = _; rw [hlen]), by decide, by decide, fun i r2 m2 hi src2 => ?_⟩
  have hi2 : i < (l16 nm).length := hi
  show opt (atI (sDs (l16 nm)) ((i : Nat) : Int)) _
  refine opt_i (ati_s (List.getElem?_eq_getElem hi2)) ?_
  exact hP _ r2 m2 src2 (l16_len hnm (List.getElem_mem hi2))
end
end DL


namespace DL
open PySem PySem.Spec PyProof.Rows L2 TL
theorem oneg_i {i : Int} {P : RV → Prop} (k : P (.d (.int (-i)))) : oNeg (.int i) P := k
theorem wpar3_i {i j l : Nat} {w1 w2 w3 : WE} {N : DN} {st : S} (k : w1 st (fun r1 st1 => w2 st1 (fun r2 st2 => w3 st2 (fun r3 st3 => asgK i { N with nx := fun st4 => asgK j { N with nx := fun st5 => asgK l N st5 r3 } st4 r2 } st3 r1) N.ex) N.ex) N.ex) : wPar3 i j l w1 w2 w3 N st := k
theorem atI_last1 {ws : List Str} (h : ws ≠ []) : ∃ z, z ∈ ws ∧ atI (sDs ws) (-1) = some (.str z) := by
  refine ⟨ws.getLast h, List.getLast_mem h, ?_⟩
  have e : sDs ws = sDs ws.dropLast ++ [.str (ws.getLast h)] := by
    have q : ws = ws.dropLast ++ [ws.getLast h] := (List.dropLast_concat_getLast h).symm
    have q2 : sDs (ws.dropLast ++ [ws.getLast h]) = sDs ws.dropLast ++ [.str (ws.getLast h)] := sDs_app
    rw [← q2, ← q]
  rw [e]
  exact atI_last _ _
section
variable {N : DN} {r m : Int} {ls rs ws : List Str} {a t kd n k : Nat} {line nm : Str} {s8 s9 s10 s11 : Slot}
theorem kif {rest : S} {u : WS} {j : Nat} (h : rest[3]? = some (.d (.int (kd : Nat)))) (yes : u N (.p (SrcD r m) :: rest)) (no : N.nx (.p (SrcD r m) :: rest)) : wIfS (wTest (wBin oEq (wVar 4) (wC (.int ((j : Nat) : Int))))) u wNext N (.p (SrcD r m) :: rest) := by
  refine wifs_i (weqv (n := kd) (m := j) (i := 4) (st := (.p (SrcD r m) : Slot) :: rest) h ?_)
  by_cases c : kd = j
  · rw [decide_eq_true c, if_pos rfl]
    exact yes
  · rw [decide_eq_false c, if_neg Bool.false_ne_true]
    exact no
end
theorem vc_bent : ∀ avs Q XP, spBent avs Q XP → w_bent (bodyN avs Q XP) (stOf 12 avs) := by
  rintro _ Q XP ⟨r, m, ls, n, k, rfl, src, hne, lo, hn, hk, h⟩
  show w_bent _ ([.p (SrcD r m), .b (.lst (sDs ls)), .un, .un, .un, .un, .un, .un, .un, .un, .un, .un] : S)
  have hpos : 0 < ls.length := List.length_pos_iff.mpr hne
  have hlen : ls.length ≤ 1000 := Nat.le_trans lo.1 hn
  unfold w_bent
  refine wseq_i (wpar3_i ?_)
  refine dr src (n := ls.length) hpos (by omega) (fun P h => wpd (x := .int ((ls.length : Nat) : Int)) (fun P h => wlenv (x := .lst (sDs ls)) (n := ls.length) rfl (by show some _ = _; rw [strL_len]) h) h) fun a r1 m1 ha src1 => ?_
  refine dr src1 (n := ls.length) hpos (by omega) (fun P h => wpd (x := .int ((ls.length : Nat) : Int)) (fun P h => wlenv (x := .lst (sDs ls)) (n := ls.length) rfl (by show some _ = _; rw [strL_len]) h) h) fun t r2 m2 ht src2 => ?_
  refine dr src2 (n := 9) (by decide) (by decide) (fun P h => h) fun kd r3 m3 hkd src3 => ?_
  refine ⟨trivial, trivial, trivial, ?_⟩
  dsimp only
  show wSeq _ _ _ ([.p (SrcD r3 m3), .b (.lst (sDs ls)), .d (.int (a : Nat)), .d (.int (t : Nat)), .d (.int (kd : Nat)), .un, .un, .un, .un, .un, .un, .un] : S)
  have hl : ls[a].length ≤ k := lo.2 _ (List.getElem_mem ha)
  have ea : atI (sDs ls) ((a : Nat) : Int) = some (.str ls[a]) := ati_s (List.getElem?_eq_getElem ha)
  generalize ls[a] = line at hl ea
  refine wseq_i (wpar_i (wixv (i := 1) (i' := 2) (xs := sDs ls) rfl rfl ea (wbin_i ?_)))
  refine wslv (xs := sDs ls) (lo := none) (hi := some ((a : Nat) : Int)) rfl (fun P h => h) (fun P h => wv_d rfl h) ?_
  rw [cut_pre]
  refine wslv (xs := sDs ls) (lo := some (((a + 1 : Nat) : Nat) : Int)) (hi := none) rfl (fun P h => wbin_i (wv_d rfl h)) (fun P h => h) ?_
  rw [cut_suf]
  refine opt_i rfl (opt_i rfl (add_l (by rw [strL_len, strL_len, List.length_take, List.length_drop]; omega) ?_))
  have er : sDs (ls.take a) ++ sDs (ls.drop (a + 1)) = sDs (ls.take a ++ ls.drop (a + 1)) := by
    unfold sDs
    rw [List.map_append]
  rw [er]
  have hrs : LinesOk n k (ls.take a ++ ls.drop (a + 1)) := by
    refine ⟨?_, fun y hy => ?_⟩
    · have := lo.1
      rw [List.length_append, List.length_take, List.length_drop]
      omega
    · rcases List.mem_append.mp hy with hy | hy
      · exact lo.2 y (List.mem_of_mem_take hy)
      · exact lo.2 y (List.mem_of_mem_drop hy)
  have hrl : (ls.take a ++ ls.drop (a + 1)).length + 1 = ls.length := by
    rw [List.length_append, List.length_take, List.length_drop]
    omega
  generalize ls.take a ++ ls.drop (a + 1) = rs at hrs hrl
  refine ⟨trivial, trivial, ?_⟩
  dsimp only
  show wSeq _ _ _ ([.p (SrcD r3 m3), .b (.lst (sDs ls)), .d (.int (a : Nat)), .d (.int (t : Nat)), .d (.int (kd : Nat)), .d (.str line), .o (.lst (sDs rs)), .un, .un, .un, .un, .un] : S)
  refine wseq_i (wasg_i (wm1_i (wv_d rfl (wc_i ⟨by decide +kernel, by rw [sizeLine_eq]; omega, trivial, ?_⟩))))
  dsimp only
  have hsum := words_sum line
  have hwne := words_ne line
  generalize hws : Txt.split line " " = ws at hsum hwne
  show wSeq _ _ _ (.p (SrcD r3 m3) :: bR ls a t kd line rs ws .un .un .un .un)
  have un : Np .un := fun _ => Slot.noConfusion
  have fin : ∀ (line : Str) (ws : List Str) (s8 s9 s10 s11 : Slot), BN (bodyN [.m (SrcD r m), .b (.lst (sDs ls))] Q XP) ls n k (bR ls a t kd line rs ws s8 s9 s10 s11) := fun line ws s8 s9 s10 s11 ls' r m lo' src' => h ls' lo' r m src'
  have hat : a ≤ ls.length := Nat.le_of_lt ha
  -- 0
  refine wseq_i (kif (kd := kd) (j := 0) rfl ?_ ?_)
  · refine wret_i (wv_o rfl ?_)
    refine h rs ⟨?_, fun y hy => ?_⟩ r3 m3 src3
    · have := hrs.1
      omega
    · have := hrs.2 y hy
      omega
  dsimp only
  -- 1
  refine wseq_i (kif (kd := kd) (j := 1) rfl ?_ ?_)
  · refine bret (j := 0) (i := 1) (OkX := fun x => x.length ≤ 2 * k + 20) rfl rfl src3 (fun P hP => ?_) (wc_at rfl) (by omega) fun x c r' m' s ox hc => bn_use (fin line ws .un .un .un .un) lo hat s ox hc
    exact wv_d rfl (hP line r3 m3 src3 (by omega))
  dsimp only
  -- 2
  refine wseq_i (kif (kd := kd) (j := 2) rfl ?_ ?_)
  · exact bent2 src3 lo hn hk hat hl (fin line ws .un .un .un .un)
  dsimp only
  -- 3
  refine wseq_i (kif (kd := kd) (j := 3) rfl ?_ ?_)
  · refine bret (ls := rs) (at_ := t) (j := 5) (i := 2) (OkX := fun x => x.length ≤ 2 * k + 20) rfl rfl src3 (fun P hP => ?_) (wc_at rfl) (by omega) fun x c r' m' s ox hc => ?_
    · exact wv_d rfl (hP line r3 m3 src3 (by omega))
    · refine h _ ⟨?_, fun y hy => ?_⟩ r' m' s
      · have := hrs.1
        rw [List.length_append, List.length_append, List.length_take, List.length_drop, List.length_singleton]
        omega
      · rcases List.mem_append.mp hy with hy | hy
        · rcases List.mem_append.mp hy with hy | hy
          · have := hrs.2 y (List.mem_of_mem_take hy)
            omega
          · rw [List.mem_singleton.mp hy]; exact ox
        · have := hrs.2 y (List.mem_of_mem_drop hy)
          omega
  dsimp only
  -- 4
  refine wseq_i (kif (kd := kd) (j := 4) rfl ?_ ?_)
  · exact bent4 src3 lo hn hk hat hl hws.symm (fin line ws .un .un .un .un)
  dsimp only
  -- the last word
  obtain ⟨nm, hm, en⟩ := atI_last1 hwne
  have hnm : nm.length ≤ k := by
    have h1 := le_sum hm
    have : 0 < ws.length := List.length_pos_iff.mpr hwne
    omega
  refine wseq_i (wasg_i (wbin_i (wv_o rfl (wun_i (wc_i ?_)))))
  refine opt_i rfl ?_
  refine oneg_i (opt_i rfl (opt_i rfl ?_))
  refine opt_i en ⟨trivial, ?_⟩
  dsimp only
  show wSeq _ _ _ (.p (SrcD r3 m3) :: bR ls a t kd line rs ws (.d (.str nm)) .un .un .un)
  -- 5
  refine wseq_i (kif (kd := kd) (j := 5) rfl ?_ ?_)
  · exact bent5 src3 lo hn hk hat hl un un fun line' s9 s10 => fin line' ws (.d (.str nm)) s9 s10 .un
  dsimp only
  refine wseq_i (bent6a hk hnm un ?_)
  dsimp only
  refine wseq_i (bent6b (by show (l3 nm).length + 5 ≤ 100; show 3 + 5 ≤ 100; decide) ?_)
  dsimp only
  refine wseq_i (wapp (i := 11) (xs := sDs (l3 nm ++ l5 ++ l7)) (y := .str "place tie") rfl (fun P h => h) (by rw [strL_len]; exact lt12 _ (by show 3 + 5 + 7 < 1000; decide)) ?_)
  rw [← sDs_app]
  dsimp only
  show wRet _ _ (.p (SrcD r3 m3) :: bR ls a t kd line rs ws (.d (.str nm)) .un .un (.o (.lst (sDs (l16 nm)))))
  exact bent6c src3 lo hn hat hnm (fin line ws (.d (.str nm)) .un .un _)
end DL


namespace DL
open PySem PySem.Spec PyProof.Rows L2 TL
theorem loop1 {i : Nat} {b : WS} {N : DN} (Inv : S → Prop) (np : ∀ st, Inv st → NoP st i) : ∀ (xs : List D), (∀ x ∈ xs, ∀ st (N' : DN), Inv st → (∀ st', Inv st' → N'.nx st') → b N' (st.set i (.d x))) → (∀ st, Inv st → N.nx st) → ∀ st, Inv st → loopN (gN i) b N xs st
  | [], _, fin, st, h => fin st h
  | x :: xs, step, fin, st, h => ⟨np st h, step x List.mem_cons_self st _ h fun st' h' => loop1 Inv np xs (fun y hy => step y (List.mem_cons_of_mem _ hy)) fin st' h'⟩
theorem join_le {zs : List Str} : (Txt.join "\n" zs).length ≤ (zs.map (·.length)).sum + zs.length := by
  by_cases h : zs = []
  · subst h
    have : (Txt.join "\n" []).length = 0 := by
      rw [join_eq]
      rfl
    omega
  · have := join_len tl_nl h
    omega
theorem lines_le {n k : Nat} {zs : List Str} (h : LinesOk n k zs) : (zs.map (·.length)).sum + zs.length ≤ n * k + n := by
  have h1 := sum_le h.2
  have h2 := Nat.mul_le_mul_right k h.1
  have h3 := h.1
  omega
/-- texts that are not too long -/
def TxOk (L : List Str) : Prop := ∀ z ∈ L, z.length ≤ 40000
theorem no_nl {z : Str} (h : isNameB z = true) : 10 ∉ tl z := fun m => by
  unfold isNameB at h
  rw [Bool.and_eq_true, List.all_eq_true] at h
  have := of_decide_eq_true (h.2 10 m)
  have q : (10 : Nat) ∉ alphabet.cps.toList := by decide +kernel
  exact q this
theorem no_nlP {z : Str} (h : isNameB z = true) : 10 ∉ tl (lineP z) := fun m => by
  have e : tl (lineP z) = tl ("place " : Str) ++ tl z := tl_append _ _
  rw [e] at m
  rcases List.mem_append.mp m with m | m
  · have q : (10 : Nat) ∉ tl ("place " : Str) := by decide +kernel
    exact q m
  · exact no_nl h m
theorem no_nlT {t : Str × Str} (h : isNameB t.1 = true) (h' : isNameB t.2 = true) : 10 ∉ tl (lineT t) := fun m => by
  have e : tl (lineT t) = ((tl ("tie " : Str) ++ tl t.1) ++ tl (" " : Str)) ++ tl t.2 := by
    unfold lineT
    show tl ((("tie " : Str) ++ t.1) ++ " " ++ t.2) = _
    rw [tl_append, tl_append, tl_append]
  rw [e] at m
  rcases List.mem_append.mp m with m | m
  · rcases List.mem_append.mp m with m | m
    · rcases List.mem_append.mp m with m | m
      · have q : (10 : Nat) ∉ tl ("tie " : Str) := by decide +kernel
        exact q m
      · exact no_nl h m
    · have q : (10 : Nat) ∉ tl (" " : Str) := by decide +kernel
      exact q m
  · exact no_nl h' m
theorem okT_mem {ss : List Str} {ts : List (Str × Str)} (h : okT ss ts) {t : Str × Str} (ht : t ∈ ts) : okPair ss t := ((okTs_iff ts []).mp h).1 t ht
theorem plan_lines {ss : List Str} {ts : List (Str × Str)} (hp : okP ss) (ht : okT ss ts) (hl : ts.length ≤ 144) : LinesOk 156 21 (linesOf ss ts) ∧ linesOf ss ts ≠ [] ∧ Txt.split (textOf ss ts) "\n" = linesOf ss ts := by
  have ne : linesOf ss ts ≠ [] := by
    have := hp.1
    unfold linesOf
    cases ss with
    | nil => simp at this
    | cons z ss => simp
  have nm : ∀ z ∈ ss, isNameB z = true := hp.2.2.1
  refine ⟨⟨?_, fun l hm => ?_⟩, ne, split_lines ne fun l hm => ?_⟩
  · have := hp.2.1
    unfold linesOf
    rw [List.length_append, List.length_map, List.length_map]
    omega
  · unfold linesOf at hm
    rcases List.mem_append.mp hm with hm | hm
    · obtain ⟨z, hz, rfl⟩ := List.mem_map.mp hm
      have := name_len (nm z hz)
      have e : (lineP z).length = 6 + z.length := len_app _ _
      omega
    · obtain ⟨t, hz, rfl⟩ := List.mem_map.mp hm
      have p := okT_mem ht hz
      have h1 := name_len (nm _ p.1)
      have h2 := name_len (nm _ p.2.1)
      have e : (lineT t).length = 4 + t.1.length + 1 + t.2.length := by
        unfold lineT
        rw [len_app, len_app, len_app]
        rfl
      omega
  · unfold linesOf at hm
    rcases List.mem_append.mp hm with hm | hm
    · obtain ⟨z, hz, rfl⟩ := List.mem_map.mp hm
      exact no_nlP (nm z hz)
    · obtain ⟨t, hz, rfl⟩ := List.mem_map.mp hm
      have p := okT_mem ht hz
      exact no_nlT (nm _ p.1) (nm _ p.2.1)
def lwS (ns : List Int) (ty : List Str) (s2 s3 s4 s5 s6 s7 s8 s9 : Slot) : S := [.b (.fz ns), .o (.lst (sDs ty)), s2, s3, s4, s5, s6, s7, s8, s9, .un]
section
variable {N : DN} {CW : Addr} {ns : List Int} {ty L : List Str} {r m : Int} {s2 s5 s6 s7 s8 s9 : Slot}
/-- a turn -/
theorem law_l3 (src : Src r m) (hL : TxOk L) (hl : L.length ≤ 1000) (h6 : Np s6) (h7 : Np s7)
    (kk : ∀ r m x y s6 s7, Src r m → x.length ≤ 40000 → y.length ≤ 40000 → Np s6 → Np s7 → N.nx (lwS ns ty s2 (.o (SrcD r m)) (.o (.lst (sDs (L ++ [x, y])))) s5 s6 s7 s8 s9)) :
    w_law_l3 CW N (lwS ns ty s2 (.o (SrcD r m)) (.o (.lst (sDs L))) s5 s6 s7 s8 s9) := by
  unfold w_law_l3
  refine wseq_i (wasg_i (wm1_i ?_))
  refine wcall_i (wcons_i (wpers_i (wcall_i (wcons_i (wpers_i (wcall_i (wcons_i (wv_o rfl (wcons_i (wpd (fun P h => h) (wnil_i ?_))))))))))) 
  refine opt_i rfl ?_
  refine ⟨rfl, r, m, 7, rfl, src, by decide, by decide, fun ss ts hp ht htl r1 m1 src1 => ?_⟩
  refine pers_d (wnil_i ?_)
  refine opt_i rfl ?_
  refine ⟨rfl, ss, ts, rfl, hp, ht, by omega, ?_⟩
  refine pers_d (wnil_i ?_)
  refine opt_i rfl ?_
  obtain ⟨lo, lne, lsp⟩ := plan_lines hp ht htl
  have lsum := lines_le lo
  refine ⟨rfl, ss, ts, rfl, by have := hp.2.1; omega, by omega, by omega, ?_⟩
  have htx : (textOf ss ts).length ≤ 10000 := by
    have := join_le (zs := linesOf ss ts)
    unfold textOf
    omega
  refine wc_i ?_
  refine ⟨by decide +kernel, by rw [sizeLine_eq]; omega, np_nop h6 _ _ rfl, ?_⟩
  rw [show (Txt.split (textOf ss ts) "\n").map D.str = sDs (linesOf ss ts) from by rw [lsp]; rfl]
  generalize linesOf ss ts = ls at lo lne lsum
  dsimp only
  show wSeq _ _ _ (lwS ns ty s2 (.o (SrcD r1 m1)) (.o (.lst (sDs L))) s5 (.o (.lst (sDs ls))) s7 s8 s9)
  refine wseq_i (wasg_i (wcall_i (wcons_i (wv_o rfl (wcons_i (wv_o rfl (wnil_i ?_)))))))
  refine opt_i rfl ?_
  refine ⟨rfl, r1, m1, ls, 156, 21, rfl, src1, lne, lo, by decide, by decide, fun bs lob r2 m2 src2 => ?_⟩
  refine ⟨np_nop h7 _ _ rfl, ?_⟩
  dsimp only
  show wAsg _ _ _ (lwS ns ty s2 (.o (SrcD r2 m2)) (.o (.lst (sDs L))) s5 (.o (.lst (sDs ls))) (.o (.lst (sDs bs))) s8 s9)
  have bsum := lines_le lob
  have e1 : ("\n" : Str).length = 1 := by decide +kernel
  have hx : (Txt.join "\n" bs).length ≤ 40000 := by
    have := join_le (zs := bs)
    omega
  refine wasg_i (wbin_i (wv_o rfl (wlst_i (wcons_i (wpers_i (wm1_i (wc_i (wv_o rfl (opt_i rfl (ojoin_i (by rw [e1]; omega) (pers_d ?_)))))))))))
  refine wcons_i (wpers_i (wm1_i (wc_i (wif_i (wnen (xs := sDs bs) rfl ?_)))))
  have fin : ∀ (y : Str) (r m : Int), Src r m → y.length ≤ 40000 → N.nx (lwS ns ty s2 (.o (SrcD r m)) (.o (.lst (sDs (L ++ [Txt.join "\n" bs, y])))) s5 (.o (.lst (sDs ls))) (.o (.lst (sDs bs))) s8 s9) := fun y r m s hy => kk r m _ y _ _ s hx hy (fun _ => Slot.noConfusion) (fun _ => Slot.noConfusion)
  have eL : ∀ y : Str, sDs (L ++ [Txt.join "\n" bs, y]) = sDs L ++ [D.str (Txt.join "\n" bs), .str y] := fun y => by
    unfold sDs
    rw [List.map_append]
    rfl
  rw [sDs_ne]
  by_cases c : bs ≠ []
  · rw [decide_eq_true c, if_pos rfl]
    refine wcall_i (wcons_i (wv_o rfl (wcons_i (wv_o rfl (wnil_i ?_)))))
    refine opt_i rfl ?_
    refine ⟨rfl, r2, m2, bs, 157, 62, rfl, src2, c, lob, by decide, by decide, fun cs loc r3 m3 src3 => ?_⟩
    have csum := lines_le loc
    refine opt_i rfl (ojoin_i (by rw [e1]; omega) (pers_d ?_))
    refine wnil_i (opt_i rfl ⟨by show 2 ≤ sizeLine; rw [sizeLine_eq]; decide, ?_⟩)
    refine opt_i rfl (opt_i rfl (add_l (by rw [strL_len]; show _ + 2 ≤ _; omega) ?_))
    refine ⟨trivial, ?_⟩
    have q := fin (Txt.join "\n" cs) r3 m3 src3 (by have := join_le (zs := cs); omega)
    rw [eL] at q
    exact q
  · rw [decide_eq_false c, if_neg Bool.false_ne_true]
    refine wv_o rfl ?_
    refine opt_i rfl (ojoin_i (by rw [e1]; omega) (pers_d ?_))
    refine wnil_i (opt_i rfl ⟨by show 2 ≤ sizeLine; rw [sizeLine_eq]; decide, ?_⟩)
    refine opt_i rfl (opt_i rfl (add_l (by rw [strL_len]; show _ + 2 ≤ _; omega) ?_))
    refine ⟨trivial, ?_⟩
    have q := fin (Txt.join "\n" ls) r2 m2 src2 (by have := join_le (zs := ls); omega)
    rw [eL] at q
    exact q
end
end DL


namespace DL
open PySem PySem.Spec PyProof.Rows L2 TL
def ch (z : Str) : List Str := z.cps.toList.map fun c => ⟨#[c]⟩
theorem ch_len {z x : Str} (h : x ∈ ch z) : x.length = 1 := by
  obtain ⟨c, _, rfl⟩ := List.mem_map.mp h
  rfl
theorem ch_map (z : Str) : z.cps.toList.map (fun c => D.str ⟨#[c]⟩) = sDs (ch z) := by
  unfold ch sDs
  rw [List.map_map]
  rfl
def ab12 : Str := "abcdefghijkl"
def ab13 : Str := "abcdefghijklm"
def ab15 : Str := "abcdefghijklmno"
theorem ab_len : ab12.cps.toList.length = 12 ∧ ab13.cps.toList.length = 13 ∧ ab15.cps.toList.length = 15 := by decide +kernel
/-- ['place ' + sign for sign in ..] -/
theorem lc_pl {st : S} {z : Str} {P : RV → S → Prop} {E : XC} (fr : Fre st 10) (hz : z.cps.toList.length ≤ 100) (k : P (.n (.lst (sDs ((ch z).map lineP)))) st) : wLc (wItS (wC (.str z))) (gN 10) wYes (wPers (wBin oAdd (wC (.str "place ")) (wVar 10))) [10] st P E := by
  refine wlc_i ?_
  show lcN _ _ _ _ _ (z.cps.toList.map fun c => D.str ⟨#[c]⟩) [] st
  rw [ch_map]
  refine lcM1 lpD fr _ (fun x hx P q => ?_) ?_ ?_
  · obtain ⟨y, hy, rfl⟩ := List.mem_map.mp hx
    have := ch_len hy
    have e6 : ("place " : Str).length = 6 := by decide +kernel
    refine wpd (x := .str (lineP y)) (fun P h => wbin_i (wc_i (wv_d (x := .str y) ?_ ?_))) q
    · exact List.getElem?_set_self fr.lt
    · exact opt_i rfl (opt_i rfl (add_s (by omega) h))
  · rw [strL_len]
    unfold ch
    rw [List.length_map]
    exact lt12 _ (by omega)
  · rw [lpD_map]
    exact k
theorem pl_sum {z : Str} (hz : z.cps.toList.length ≤ 100) : (((ch z).map lineP).map (·.length)).sum ≤ 700 ∧ ((ch z).map lineP).length ≤ 100 := by
  have hl : ((ch z).map lineP).length ≤ 100 := by
    unfold ch
    rw [List.length_map, List.length_map]
    exact hz
  refine ⟨?_, hl⟩
  have := sum_le (l := (ch z).map lineP) (k := 7) fun x hx => by
    obtain ⟨y, hy, rfl⟩ := List.mem_map.mp hx
    have h1 := ch_len hy
    have e : (lineP y).length = 6 + y.length := len_app _ _
    omega
  omega
def lw0 (ns : List Int) (ty : List Str) : S := lwS ns ty .un .un .un .un .un .un .un .un
def okD : D → Bool
  | .str z => decide (z.length ≤ 40000)
  | _ => false
theorem okD_of {xs : List D} (h : xs.all okD = true) : xs = sDs (xs.map unD) ∧ TxOk (xs.map unD) := by
  have each : ∀ x ∈ xs, ∃ z, x = .str z ∧ z.length ≤ 40000 := fun x hx => by
    have q := List.all_eq_true.mp h x hx
    cases x with
    | str z => exact ⟨z, rfl, of_decide_eq_true q⟩
    | _ => cases q
  refine ⟨?_, fun z hz => ?_⟩
  · unfold sDs
    rw [List.map_map]
    have : ∀ y ∈ xs, (D.str ∘ unD) y = y := fun y hy => by
      obtain ⟨z, rfl, _⟩ := each y hy
      rfl
    exact ((List.map_congr_left this).trans (List.map_id _)).symm
  · obtain ⟨x, hx, rfl⟩ := List.mem_map.mp hz
    obtain ⟨y, rfl, hy⟩ := each x hx
    exact hy
/-- what is typed first -/
theorem asg84 {x1 x2 x3 x4 x5 x6 x7 x8 y1 y2 y3 y4 : D} {N : DN} {v : WS} {ns : List Int} (ok : ([x1, x2, x3, x4, x5, x6, x7, x8] ++ [y1, y2, y3, y4]).all okD = true) (k : ∀ ty : List Str, TxOk ty → ty.length = 12 → v N (lw0 ns ty)) :
    wSeq (wAsg 1 (wLst (wCons (wPers (wC x1)) (wCons (wPers (wC x2)) (wCons (wPers (wC x3)) (wCons (wPers (wC x4)) (wCons (wPers (wC x5)) (wCons (wPers (wC x6)) (wCons (wPers (wC x7)) (wCons (wPers (wC x8)) wNil)))))))))) (wSeq (wAsg 1 (wBin oAdd (wVar 1) (wLst (wCons (wPers (wC y1)) (wCons (wPers (wC y2)) (wCons (wPers (wC y3)) (wCons (wPers (wC y4)) wNil))))))) v) N ([.b (.fz ns), .un, .un, .un, .un, .un, .un, .un, .un, .un, .un] : S) := by
  obtain ⟨e, tx⟩ := okD_of ok
  have q := k _ tx (by rw [List.length_map]; rfl)
  unfold lw0 lwS at q
  rw [← e] at q
  refine wseq_i ?_
  refine ⟨by show 8 ≤ sizeLine; rw [sizeLine_eq]; decide, trivial, ?_⟩
  dsimp only
  show wSeq _ _ _ ([.b (.fz ns), .o (.lst [x1, x2, x3, x4, x5, x6, x7, x8]), .un, .un, .un, .un, .un, .un, .un, .un, .un] : S)
  refine wseq_i (wasg_i (wbin_i (wv_o rfl ?_)))
  refine ⟨by show 4 ≤ sizeLine; rw [sizeLine_eq]; decide, ?_⟩
  refine opt_i rfl (opt_i rfl (add_l (by show 8 + 4 ≤ _; decide) ⟨trivial, ?_⟩))
  exact q
section
variable {N : DN} {CW : Addr} {ns : List Int} {ty L : List Str} {r m : Int}
theorem app1 {z : Str} (hz : z.cps.toList.length ≤ 100) (hl : ty.length ≤ 100) (k : ∀ x : Str, x.length ≤ 40000 → N.nx (lw0 ns (ty ++ [x]))) :
    wDrop (wMut "list" 1 mAppend (wCons (wPers (wM1 oJoin (wC (.str "\n")) (wLc (wItS (wC (.str z))) (gN 10) wYes (wPers (wBin oAdd (wC (.str "place ")) (wVar 10))) [10]))) wNil)) N (lw0 ns ty) := by
  have e1 : ("\n" : Str).length = 1 := by decide +kernel
  obtain ⟨s1, s2⟩ := pl_sum hz
  refine wapp (i := 1) (xs := sDs ty) (y := .str (Txt.join "\n" ((ch z).map lineP))) rfl (fun P h => wm1_i (wc_i (lc_pl (fre_un rfl) hz (opt_i rfl (ojoin_i (by rw [e1]; omega) h))))) (by rw [strL_len]; exact lt12 _ (by omega)) ?_
  rw [← sDs_app]
  exact k _ (by have := join_le (zs := (ch z).map lineP); omega)
theorem app2 {z a b : Str} (hz : z.cps.toList.length ≤ 100) (ha : a.length ≤ 100) (hb : b.length ≤ 100) (hl : ty.length ≤ 100) (k : ∀ x : Str, x.length ≤ 40000 → N.nx (lw0 ns (ty ++ [x]))) :
    wDrop (wMut "list" 1 mAppend (wCons (wPers (wM1 oJoin (wC (.str "\n")) (wBin oAdd (wLc (wItS (wC (.str z))) (gN 10) wYes (wPers (wBin oAdd (wC (.str "place ")) (wVar 10))) [10]) (wLst (wCons (wPers (wC (.str a))) (wCons (wPers (wC (.str b))) wNil)))))) wNil)) N (lw0 ns ty) := by
  have e1 : ("\n" : Str).length = 1 := by decide +kernel
  obtain ⟨s1, s2⟩ := pl_sum hz
  have e2 : sDs ((ch z).map lineP) ++ [D.str a, .str b] = sDs ((ch z).map lineP ++ [a, b]) := by
    unfold sDs
    rw [List.map_append]
    rfl
  have e3 : (((ch z).map lineP ++ [a, b]).map (·.length)).sum = (((ch z).map lineP).map (·.length)).sum + (a.length + b.length) := by
    rw [List.map_append, List.sum_append]
    simp
  have e4 : ((ch z).map lineP ++ [a, b]).length = ((ch z).map lineP).length + 2 := by
    rw [List.length_append]
    rfl
  refine wapp (i := 1) (xs := sDs ty) (y := .str (Txt.join "\n" ((ch z).map lineP ++ [a, b]))) rfl (fun P h => wm1_i (wc_i (wbin_i (lc_pl (fre_un rfl) hz (wlst_i (wcons_i (wpers_i (wc_i (pers_d (wcons_i (wpers_i (wc_i (pers_d (wnil_i (opt_i rfl ⟨?_, opt_i rfl (opt_i rfl (add_l ?_ ?_))⟩))))))))))))))) (by rw [strL_len]; exact lt12 _ (by omega)) ?_
  · show 2 ≤ sizeLine
    rw [sizeLine_eq]
    decide
  · rw [strL_len]
    show _ + 2 ≤ _
    omega
  · rw [e2]
    refine opt_i rfl (ojoin_i ?_ h)
    rw [e3, e4, e1]
    omega
  · rw [← sDs_app]
    exact k _ (by have := join_le (zs := (ch z).map lineP ++ [a, b]); omega)
/-- a text told and judged -/
theorem law_l2 {st : S} {z : Str} (hz : z.length ≤ 40000) (h8 : st[8]? = some (.d (.str z))) (k : N.nx st) : w_law_l2 CW N st := by
  unfold w_law_l2
  refine wifs_i (wtest_i (wbin_i (wcall_i (wcons_i (wpd (x := .str z) (fun P h => wv_d h8 h) (wnil_i ?_))))))
  refine opt_i rfl ?_
  refine ⟨rfl, Or.inl ⟨z, rfl, hz, ?_⟩⟩
  refine wcall_i (wcons_i (wpd (x := .str z) (fun P h => wv_d h8 h) (wnil_i ?_)))
  refine opt_i rfl ?_
  refine ⟨rfl, z, rfl, hz, ?_⟩
  refine opt_i rfl (opt_i rfl (opt_i (x := (((firstBad z : Nat) : Int) == ((firstBad z : Nat) : Int))) rfl ?_))
  rw [beq_self_eq_true]
  exact k
theorem law_l1 {st : S} {x : D} {a : String} (ha : tyS x = some a) (hn : a ≠ "str") (h9 : st[9]? = some (.d x)) (k : N.nx st) : w_law_l1 CW N st := by
  unfold w_law_l1
  refine wifs_i (wtest_i (wbin_i (wcall_i (wcons_i (wpd (x := x) (fun P h => wv_d h9 h) (wnil_i ?_))))))
  refine opt_i rfl ?_
  refine ⟨rfl, Or.inr ⟨x, a, rfl, ha, hn, ?_⟩⟩
  refine wc_i ?_
  refine opt_i rfl (opt_i rfl (opt_i (x := ((1 : Int) == 1)) rfl ?_))
  exact k
end
end DL


namespace DL
open PySem PySem.Spec PyProof.Rows L2 TL
theorem sml : ("tie a b" : Str).length ≤ 100 ∧ ("tie b c" : Str).length ≤ 100 ∧ ("place m" : Str).length ≤ 100 := by decide +kernel
theorem tx_snoc {L : List Str} {x : Str} (h : TxOk L) (hx : x.length ≤ 40000) : TxOk (L ++ [x]) := fun z hz => by
  rcases List.mem_append.mp hz with hz | hz
  · exact h z hz
  · rw [List.mem_singleton.mp hz]; exact hx
section
variable {N : DN} {CW : Addr} {ns : List Int} {ty L : List Str} {r m : Int}
def I0 (ns : List Int) (ty : List Str) (st : S) : Prop := ∃ s2 s3 s4 s5 s6 s7 s8 s9, st = lwS ns ty s2 s3 s4 s5 s6 s7 s8 s9 ∧ Np s2 ∧ Np s3 ∧ Np s4 ∧ Np s5 ∧ Np s6 ∧ Np s7 ∧ Np s8 ∧ Np s9
def I1 (ns : List Int) (ty : List Str) (j : Nat) (st : S) : Prop := ∃ s2 r m L s5 s6 s7 s8 s9, st = lwS ns ty s2 (.o (SrcD r m)) (.o (.lst (sDs L))) s5 s6 s7 s8 s9 ∧ Np s2 ∧ Np s5 ∧ Np s6 ∧ Np s7 ∧ Np s8 ∧ Np s9 ∧ Src r m ∧ TxOk L ∧ L.length ≤ j
theorem npd {x : D} : Np (.d x) := fun _ => Slot.noConfusion
theorem npo {c : Cell} : Np (.o c) := fun _ => Slot.noConfusion
theorem npu : Np .un := fun _ => Slot.noConfusion
/-- the twelve turns -/
theorem turns (fin : ∀ st, I1 ns ty 600 st → N.nx st) : ∀ (xs : List D) (j : Nat), j + 2 * xs.length ≤ 600 → ∀ st, I1 ns ty j st → loopN (gN 5) (w_law_l3 CW) N xs st
  | [], j, hj, st, h => by
    obtain ⟨s2, r, m, L, s5, s6, s7, s8, s9, e, h2, h5, h6, h7, h8, h9, src, tx, hl⟩ := h
    exact fin st ⟨s2, r, m, L, s5, s6, s7, s8, s9, e, h2, h5, h6, h7, h8, h9, src, tx, by simp at hj; omega⟩
  | x :: xs, j, hj, st, h => by
    obtain ⟨s2, r, m, L, s5, s6, s7, s8, s9, rfl, h2, h5, h6, h7, h8, h9, src, tx, hl⟩ := h
    rw [List.length_cons] at hj
    refine ⟨np_nop h5 _ _ rfl, ?_⟩
    show w_law_l3 CW _ (lwS ns ty s2 (.o (SrcD r m)) (.o (.lst (sDs L))) (.d x) s6 s7 s8 s9)
    refine law_l3 src tx (by omega) h6 h7 fun r m a b s6 s7 src ha hb h6 h7 => ?_
    refine turns fin xs (j + 2) (by omega) _ ⟨s2, r, m, L ++ [a, b], .d x, s6, s7, s8, s9, rfl, h2, npd, h6, h7, h8, h9, src, ?_, by rw [List.length_append]; show _ + 2 ≤ _; omega⟩
    have e : L ++ [a, b] = (L ++ [a]) ++ [b] := by rw [List.append_assoc]; rfl
    rw [e]
    exact tx_snoc (tx_snoc tx ha) hb
theorem law_l4 {i : Nat} {st : S} (hi : i < 1000) (hb : ∀ n ∈ ns, n.natAbs < big) (htx : TxOk ty) (htl : ty.length ≤ 100) (h : I0 ns ty st) (kk : ∀ st, I0 ns ty st → N.nx st) : w_law_l4 CW N (st.set 2 (.d (.int (i : Nat)))) := by
  obtain ⟨s2, s3, s4, s5, s6, s7, s8, s9, rfl, h2, h3, h4, h5, h6, h7, h8, h9⟩ := h
  show w_law_l4 CW N (lwS ns ty (.d (.int (i : Nat))) s3 s4 s5 s6 s7 s8 s9)
  unfold w_law_l4
  refine wseq_i (wasg_i (wcall_i (wcons_i (wv_b rfl (wcons_i (wpd (fun P h => wv_d rfl h) (wnil_i ?_)))))))
  refine opt_i rfl ?_
  refine ⟨rfl, ns, (i : Nat), rfl, by omega, by omega, hb, fun r m src => ?_⟩
  refine ⟨np_nop h3 _ _ rfl, ?_⟩
  dsimp only
  show wSeq _ _ _ (lwS ns ty (.d (.int (i : Nat))) (.o (SrcD r m)) s4 s5 s6 s7 s8 s9)
  refine wseq_i (wasg_i (wcb_i (wcons_i (wv_o rfl (wnil_i ?_)))))
  refine opt_i rfl ?_
  refine opt_i rfl ?_
  refine ⟨np_nop h4 _ _ rfl, ?_⟩
  dsimp only
  show wSeq _ _ _ (lwS ns ty (.d (.int (i : Nat))) (.o (SrcD r m)) (.o (.lst (sDs ty))) s5 s6 s7 s8 s9)
  refine wseq_i (wfor_i ?_)
  unfold wItR1
  refine wcons_i (wc_i (wnil_i ⟨by decide, by decide, ?_⟩))
  refine turns (fun st h => ?_) _ 100 (by simp) _ ⟨_, r, m, ty, s5, s6, s7, s8, s9, rfl, npd, h5, h6, h7, h8, h9, src, htx, htl⟩
  obtain ⟨s2, r, m, L, s5, s6, s7, s8, s9, rfl, h2, h5, h6, h7, h8, h9, src, tx, hl⟩ := h
  dsimp only
  -- the texts
  refine wseq_i (wfor_i (wita_i (wpsl (fun P h => wv_o rfl h) rfl ?_)))
  refine opt_i rfl ?_
  show loopN _ _ _ (sDs L) (lwS ns ty s2 (.o (SrcD r m)) (.d (.lst (sDs L))) s5 s6 s7 s8 s9)
  refine loop1 (I0 ns ty) (fun st h => ?_) _ (fun x hx st N' h k => ?_) (fun st h => ?_) _ ⟨_, _, _, _, _, _, _, _, rfl, h2, npo, npd, h5, h6, h7, h8, h9⟩
  · obtain ⟨s2, s3, s4, s5, s6, s7, s8, s9, rfl, h2, h3, h4, h5, h6, h7, h8, h9⟩ := h
    exact np_nop h8 _ _ rfl
  · obtain ⟨s2, s3, s4, s5, s6, s7, s8, s9, rfl, h2, h3, h4, h5, h6, h7, h8, h9⟩ := h
    obtain ⟨z, hz, rfl⟩ := List.mem_map.mp hx
    refine law_l2 (tx z hz) rfl (k _ ⟨_, _, _, _, _, _, _, _, rfl, h2, h3, h4, h5, h6, h7, npd, h9⟩)
  · obtain ⟨s2, s3, s4, s5, s6, s7, s8, s9, rfl, h2, h3, h4, h5, h6, h7, h8, h9⟩ := h
    dsimp only
    refine wfor_i (wita_i ?_)
    refine wpn (c := .lst [.non, .int 5, .bl true, .lst [], .lst [.str "place a"], .tup [.str "place a"], .dk []]) (fun P h => ?_) ?_
    · refine ⟨by show 0 ≤ sizeLine; exact Nat.zero_le _, by show 1 ≤ sizeLine; rw [sizeLine_eq]; decide, by show 1 ≤ sizeLine; rw [sizeLine_eq]; decide, by show 7 ≤ sizeLine; rw [sizeLine_eq]; decide, h⟩
    refine opt_i rfl ?_
    refine loop1 (I0 ns ty) (fun st h => ?_) _ (fun x hx st N' h k => ?_) (fun st h => kk st h) _ ⟨_, _, _, _, _, _, _, _, rfl, h2, h3, h4, h5, h6, h7, h8, h9⟩
    · obtain ⟨s2, s3, s4, s5, s6, s7, s8, s9, rfl, h2, h3, h4, h5, h6, h7, h8, h9⟩ := h
      exact np_nop h9 _ _ rfl
    · obtain ⟨s2, s3, s4, s5, s6, s7, s8, s9, rfl, h2, h3, h4, h5, h6, h7, h8, h9⟩ := h
      have ty7 : ∃ a, tyS x = some a ∧ a ≠ "str" := by
        simp only [List.mem_cons, List.not_mem_nil, or_false] at hx
        rcases hx with rfl | rfl | rfl | rfl | rfl | rfl | rfl <;> exact ⟨_, rfl, by decide⟩
      obtain ⟨a, e1, e2⟩ := ty7
      exact law_l1 e1 e2 rfl (k _ ⟨_, _, _, _, _, _, _, _, rfl, h2, h3, h4, h5, h6, h7, h8, npd⟩)
end
theorem min_i {i j : Int} {P : RV → Prop} (k : P (.d (.int (if j < i then j else i)))) : on2 oMin2 [.int i, .int j] P := k
theorem max_i {i j : Int} {P : RV → Prop} (k : P (.d (.int (if j > i then j else i)))) : on2 oMax2 [.int i, .int j] P := k
theorem vc_law {CW : Addr} : ∀ avs Q XP, spLaw avs Q XP → w_law CW (bodyN avs Q XP) (stOf 11 avs) := by
  rintro _ Q XP ⟨ns, rfl, hb, h⟩
  show w_law CW _ ([.b (.fz ns), .un, .un, .un, .un, .un, .un, .un, .un, .un, .un] : S)
  unfold w_law
  obtain ⟨m1, m2, m3⟩ := sml
  obtain ⟨l12, l13, l15⟩ := ab_len
  refine asg84 (by decide +kernel) fun ty ok0 len0 => ?_
  refine wseq_i (app1 (z := ab13) (by omega) (by omega) fun x1 h1 => ?_)
  dsimp only
  refine wseq_i (app1 (z := ab12) (by omega) (by rw [List.length_append, List.length_singleton]; omega) fun x2 h2 => ?_)
  dsimp only
  refine wseq_i (app1 (z := ab15) (by omega) (by rw [List.length_append, List.length_append, List.length_singleton, List.length_singleton]; omega) fun x3 h3 => ?_)
  dsimp only
  refine wseq_i (app2 (z := ab13) (by omega) m1 m2 (by rw [List.length_append, List.length_append, List.length_append, List.length_singleton, List.length_singleton, List.length_singleton]; omega) fun x4 h4 => ?_)
  dsimp only
  refine wseq_i (app2 (z := ab12) (by omega) m1 m3 (by rw [List.length_append, List.length_append, List.length_append, List.length_append, List.length_singleton, List.length_singleton, List.length_singleton, List.length_singleton]; omega) fun x5 h5 => ?_)
  dsimp only
  have tx : TxOk (ty ++ [x1] ++ [x2] ++ [x3] ++ [x4] ++ [x5]) := tx_snoc (tx_snoc (tx_snoc (tx_snoc (tx_snoc ok0 h1) h2) h3) h4) h5
  have tl : (ty ++ [x1] ++ [x2] ++ [x3] ++ [x4] ++ [x5]).length ≤ 100 := by
    simp only [List.length_append, List.length_singleton]
    omega
  generalize ty ++ [x1] ++ [x2] ++ [x3] ++ [x4] ++ [x5] = ty at tx tl
  refine wseq_i (wfor_i ?_)
  unfold wItR1
  refine wcons_i (wcb_i (wcons_i (wc_i (wcons_i (wcb_i (wcons_i (wc_i (wcons_i (wlenv (x := .fz ns) (n := ns.length) rfl rfl (wnil_i ?_)))))))))) 
  refine opt_i rfl (min_i (wnil_i (opt_i rfl (max_i (wnil_i ?_)))))
  generalize hv : (if (if ((ns.length : Nat) : Int) < 3 then ((ns.length : Nat) : Int) else 3) > 1 then (if ((ns.length : Nat) : Int) < 3 then ((ns.length : Nat) : Int) else 3) else (1 : Int)) = v
  have hv2 : 1 ≤ v ∧ v ≤ 3 := by
    rw [← hv]
    split <;> split <;> omega
  refine ⟨by omega, by omega, ?_⟩
  rw [range_map]
  refine loop1 (I0 ns ty) (fun st h => ?_) _ (fun x hx st N' h k => ?_) (fun st h' => ?_) _ ⟨_, _, _, _, _, _, _, _, rfl, npu, npu, npu, npu, npu, npu, npu, npu⟩
  · obtain ⟨s2, s3, s4, s5, s6, s7, s8, s9, rfl, h2, h3, h4, h5, h6, h7, h8, h9⟩ := h
    exact np_nop h2 _ _ rfl
  · obtain ⟨i, hi, rfl⟩ := List.mem_map.mp hx
    have := List.mem_range.mp hi
    exact law_l4 (by omega) hb tx tl h k
  · obtain ⟨s2, s3, s4, s5, s6, s7, s8, s9, rfl, _⟩ := h'
    exact h
end DL


namespace GX
open PySem PySem.Spec PyProof.Rows L2
def oexB (K : PySem.W.Frag) (C : Addr) : Bool := (match K.lookup C with
  | some ⟨.type "type", _, .cls cd, sl⟩ => (match cd.mro, sl.toList with
    | .ref C' :: bm, [_, _, _, _, some (.builtin n), _] => C' == C && n == "ValueError.__new__" && !cd.hasDel && cd.hasDict && PySem.HandSPX.refsVE bm
    | _, _ => false)
  | _ => false) && (decide (PySem.W.findIn K (.ref C) "__setattr__" = some (some (.builtin "object.__setattr__"))) && (decide (PySem.W.subIn K (.ref C) (.type "BaseException") = some true) && (decide (PySem.W.typeIn K (.ref C) = some (.type "type")) && PySem.W.keepIn K (.ref C))))
theorem and2 {a b : Bool} (h : (a && b) = true) : a = true ∧ b = true := Bool.and_eq_true_iff.mp h
theorem oexB_ok {K : PySem.W.Frag} {C : Addr} (h : oexB K C = true) : OexC K C := by
  obtain ⟨h1, h⟩ := and2 h
  obtain ⟨h2, h⟩ := and2 h
  obtain ⟨h3, h⟩ := and2 h
  obtain ⟨h4, h5⟩ := and2 h
  refine ⟨?_, of_decide_eq_true h2, of_decide_eq_true h3, of_decide_eq_true h4, h5⟩
  split at h1
  · rename_i dd cd sl ho
    split at h1
    · rename_i C' bm k0 k1 k2 k3 n k5 hm hs
      simp only [Bool.and_eq_true, beq_iff_eq, Bool.not_eq_true'] at h1
      obtain ⟨⟨⟨⟨rfl, rfl⟩, hdel⟩, hdct⟩, hr⟩ := h1
      obtain ⟨nm, bs, mro, ns, qn, hd, sn, sub, ab, col, del⟩ := cd
      dsimp only at hm hdel hdct
      subst hm hdel hdct
      have hsl : sl = #[k0, k1, k2, k3, some (.builtin "ValueError.__new__"), k5] := by
        obtain ⟨l⟩ := sl
        simp only at hs
        rw [hs]
      subst hsl
      exact ⟨nm, qn, ns, bs, bm, sn, sub, ab, col, dd, k0, k1, k2, k3, k5, ho, hr⟩
    · cases h1
  · cases h1
end GX
namespace K56
open PySem PySem.Spec PyProof.Rows L2
abbrev cW (K : PySem.W.Frag) : Addr := He.ga K "Web"
abbrev cBP (K : PySem.W.Frag) : Addr := He.ga K "BadPlaces"
abbrev cBT (K : PySem.W.Frag) : Addr := He.ga K "BadTies"
abbrev cBI (K : PySem.W.Frag) : Addr := He.ga K "BadTie"
abbrev cTX (K : PySem.W.Frag) : Addr := He.ga K "BadText"
def pA (K : PySem.W.Frag) (f : Str) : Addr := match PySem.W.findIn K (.ref (cW K)) f with
  | some (some (.ref p)) => p
  | _ => 0
def gA (K : PySem.W.Frag) (f : Str) : Addr := match PySem.W.recIn K (pA K f) "property" with
  | some (.ref g :: _) => g
  | _ => 0
def mg_ (x : Str) (s : Stmt) : He5.DefA := ⟨fun K => He.ga K x, x, x, defArgs s, defBody s, defScope s, [], []⟩
def mi_ (x : Str) (s : Stmt) : He5.DefA := ⟨fun K => He.ma K (He.ga K x) "__init__", "__init__", Str.append x ".__init__", defArgs s, defBody s, defScope s, [], []⟩
def fn : List He5.DefA := [mg_ "_law_source" sSource, mg_ "_law_draw" sDraw, mg_ "_law_pick" sPick, mg_ "_law_mixed" sMixed, mg_ "_law_word" sWord, mg_ "_law_names" sNames, mg_ "_law_pairs" sPairs, mg_ "_law_plan" sPlan, mg_ "_law_web" sLawWeb, mg_ "_law_is_name" sLawIsName, mg_ "_law_first_bad" sFirstBad, mg_ "_law_told" sTold, mg_ "_law_bent" sBent, mg_ "law" sLaw, mg_ "is_name" sIsName, mg_ "is_place" sIsPlace, mg_ "is_pair" sIsPair, mg_ "web_text" sWebText, mg_ "read_line" sReadLine, mg_ "read_web" sReadWeb, mi_ "BadPlaces" sBadPlaces_init, mi_ "BadTies" sBadTies_init, mi_ "BadTie" sBadTie_init, mi_ "BadText" sBadText_init, ⟨fun K => He.ma K (He.ga K "Web") "__init__", "__init__", "Web.__init__", defArgs sWeb_init, defBody sWeb_init, defScope sWeb_init, [.adr (He.dflAt ("Web", some "__init__") 0)], []⟩, ⟨fun K => gA K "places", "places", "Web.places", defArgs sWeb_places, defBody sWeb_places, defScope sWeb_places, [], []⟩, ⟨fun K => gA K "ties", "ties", "Web.ties", defArgs sWeb_ties, defBody sWeb_ties, defScope sWeb_ties, [], []⟩]
def fa : List He.Fa := [.glo "_law_source", .glo "_law_draw", .glo "_law_pick", .glo "_law_mixed", .glo "_law_word", .glo "_law_names", .glo "_law_pairs", .glo "_law_plan", .glo "_law_web", .glo "_law_is_name", .glo "_law_first_bad", .glo "_law_told", .glo "_law_bent", .glo "law", .glo "is_name", .glo "is_place", .glo "is_pair", .glo "web_text", .glo "read_line", .glo "read_web", .glo "BadPlaces", .glo "BadTies", .glo "BadTie", .glo "BadText", .glo "Web", .str "LETTERS" "abcdefghijklmnopqrstuvwxyz", .int "MOST_PLACES" 12, .cls "Web", .noat "Web" "spots", .noat "Web" "near", .noat "Web" "lines", .mkr "Web", .meth "BadPlaces" "__init__", .meth "BadTies" "__init__", .meth "BadTie" "__init__", .meth "BadText" "__init__", .free "all", .free "any", .free "enumerate", .free "int", .free "isinstance", .free "len", .free "list", .free "max", .free "min", .free "range", .free "set", .free "sorted", .free "str", .free "tuple"]
def noLB (K : PySem.W.Frag) : Bool := K.all fun p => !(p.2.cls == .type "list")
def propB (K : PySem.W.Frag) (f : Str) : Bool := decide (PySem.W.findIn K (.ref (cW K)) f = some (some (.ref (pA K f)))) && (decide (PySem.W.specialIn K (.ref (pA K f)) "__get__" = some (some (.builtin "property.__get__"))) && (decide (PySem.W.takesIn K (.ref (pA K f)) = some true) &&
  (match PySem.W.recIn K (pA K f) "property" with
  | some (.ref _ :: _) => true
  | _ => false)))
theorem propB_ok {K : PySem.W.Frag} {f : Str} (h : propB K f = true) : PropOf K (cW K) f (pA K f) (gA K f) := by
  obtain ⟨h1, h⟩ := GX.and2 h
  obtain ⟨h2, h⟩ := GX.and2 h
  obtain ⟨h3, h4⟩ := GX.and2 h
  refine ⟨of_decide_eq_true h1, of_decide_eq_true h2, of_decide_eq_true h3, ?_⟩
  unfold gA
  cases e : PySem.W.recIn K (pA K f) "property" with
  | none => rw [e] at h4; cases h4
  | some l =>
    rw [e] at h4
    cases l with
    | nil => cases h4
    | cons v l =>
      cases v with
      | ref a => exact ⟨l, rfl⟩
      | _ => cases h4
def noF (K : PySem.W.Frag) (C : Addr) (f : Str) : Bool := decide (PySem.W.findIn K (.ref C) f = some none)
def xyB (K : PySem.W.Frag) (C : Addr) (l : List Addr) : Bool := decide (PySem.W.exmAny K (.ref C) (l.map Value.ref) = some true)
def ex (K : PySem.W.Frag) : Bool := noLB K && (propB K "places" && (propB K "ties" && (GX.oexB K (cBP K) && (GX.oexB K (cBT K) && (GX.oexB K (cBI K) && (GX.oexB K (cTX K) && (xfB K (cTX K) && (noF K (cBP K) "value" && (noF K (cBT K) "value" && (noF K (cBI K) "position" && (noF K (cTX K) "line" &&
  (xyB K (cBP K) [cBP K, cBI K] && (xyB K (cBI K) [cBP K, cBI K] && xyB K (cTX K) [cTX K])))))))))))))
/-! ### the Hook -/
def obsP (fa : List He.Fa) (fn : List He5.DefA) (ex : PySem.W.Frag → Bool) (K : PySem.W.Frag) : He.AlD := (((fa.all fun f => f.ok K) && fn.all fun d => d.ok K) && ex K, fn.map fun d => He5.fnA K (d.at_ K))
def obsPG (n : Nat) (fa : List He.Fa) (fn : List He5.DefA) (ex : PySem.W.Frag → Bool) (g : Addr → Option Obj) : He.AlD := obsP fa fn ex (He.frT g (He5.asA g n))
def hookP (n : Nat) (fa : List He.Fa) (fn : List He5.DefA) (ex : PySem.W.Frag → Bool) : PySem.W.Hook where
  α := He.AlD
  obs := fun s => obsPG n fa fn ex s.heap.get?
  val := fun _ => He5.valA fn
  says := fun _ h => ∃ K : PySem.W.Frag, K.In h ∧ obsP fa fn ex K = He5.valA fn
  of := fun _ _ e => ⟨_, He.frT_in, e⟩
  keeps := fun _ _ _ ⟨K, hK, c⟩ k => ⟨K, PySem.W.Frag.In.keeps hK k, c⟩
theorem obsPG_eq {n : Nat} {fa : List He.Fa} {fn : List He5.DefA} {ex : PySem.W.Frag → Bool} {g : Addr → Option Obj} {s : Shared} (h : ∀ a, g a = s.heap.get? a) : obsPG n fa fn ex g = (hookP n fa fn ex).obs s := by
  have e : g = s.heap.get? := funext h
  rw [e] <;> rfl
abbrev R : PySem.W.OpenRow := PySem.W.OpenLaw.row PySem.Challenge.rw_cornerturn_k56_texts_refused
abbrev hk : PySem.W.Hook := hookP 5 fa fn ex
def ob (s : PySem.W.SharedT) : He.AlD := obsPG 5 fa fn ex (HandSHeadRun.getT s)
theorem ob_eq (s : PySem.W.SharedT) : ob s = hk.obs s.abs := obsPG_eq (HandSHeadRun.getT_eq s)
def loose : List Str := ["_wall", "__name__", "WebError", "BadPlaces", "BadTies", "BadTie", "NoPlace", "BadText", "LETTERS", "MOST_PLACES", "is_name", "is_place", "is_pair", "Web", "web_text", "read_line", "read_web", "_law_source", "_law_draw", "_law_pick", "_law_mixed", "_law_word", "_law_names", "_law_pairs", "_law_plan", "_law_web", "_law_is_name", "_law_first_bad", "_law_told", "_law_bent"]
end K56


namespace K56
open PySem PySem.Spec PyProof.Rows L2
theorem run (w : World) : HandSHeadRun.RunEq R (PySem.W.view R.prog [33]) hk ob 6000 loose w := by
  intro os
  kernel_rfl
end K56


namespace K56
open PySem PySem.Spec PyProof.Rows L2 DL
section
variable {w : World} {K : PySem.W.Frag} {h : Heap} {mg : Str → Option Value} {f : Addr} {P : Program} {base : Heap}
theorem scE0 : FnScope ["self", "value"] ["self", "value"] (defScope sBadPlaces_init) := ⟨rfl, rfl, rfl, by decide +kernel, rfl, by decide +kernel, by decide +kernel⟩
theorem ok_E0 {f : Addr} {fd : FuncData} {qual : Str} (F : FunD K "__init__" qual (defArgs sBadPlaces_init) (defBody sBadPlaces_init) (defScope sBadPlaces_init) [] [] f fd) : FnOk P w K mg base (L2.CX P w) 1 f fd ["self", "value"] (DL.spInit K "value") := by
  refine F.ok scE0 (fun vs H Q E h => ?_) (fun cdv A outer s H vs Q E hr h => ⟨tOst K "value" (tVar 0) (tVar 1), pss_one (ps_ost (pe_var (i := 0) rfl (Or.inl rfl) (by decide) (by decide)) (pe_var (i := 1) rfl (Or.inl rfl) (by decide) (by decide))), DL.pure_init rfl vs H Q E h⟩)
  obtain ⟨a, C, v, rfl, _⟩ := h
  rfl
theorem scE1 : FnScope ["self", "value"] ["self", "value"] (defScope sBadTies_init) := ⟨rfl, rfl, rfl, by decide +kernel, rfl, by decide +kernel, by decide +kernel⟩
theorem ok_E1 {f : Addr} {fd : FuncData} {qual : Str} (F : FunD K "__init__" qual (defArgs sBadTies_init) (defBody sBadTies_init) (defScope sBadTies_init) [] [] f fd) : FnOk P w K mg base (L2.CX P w) 1 f fd ["self", "value"] (DL.spInit K "value") := by
  refine F.ok scE1 (fun vs H Q E h => ?_) (fun cdv A outer s H vs Q E hr h => ⟨tOst K "value" (tVar 0) (tVar 1), pss_one (ps_ost (pe_var (i := 0) rfl (Or.inl rfl) (by decide) (by decide)) (pe_var (i := 1) rfl (Or.inl rfl) (by decide) (by decide))), DL.pure_init rfl vs H Q E h⟩)
  obtain ⟨a, C, v, rfl, _⟩ := h
  rfl
theorem scE2 : FnScope ["self", "position"] ["self", "position"] (defScope sBadTie_init) := ⟨rfl, rfl, rfl, by decide +kernel, rfl, by decide +kernel, by decide +kernel⟩
theorem ok_E2 {f : Addr} {fd : FuncData} {qual : Str} (F : FunD K "__init__" qual (defArgs sBadTie_init) (defBody sBadTie_init) (defScope sBadTie_init) [] [] f fd) : FnOk P w K mg base (L2.CX P w) 1 f fd ["self", "position"] (DL.spInit K "position") := by
  refine F.ok scE2 (fun vs H Q E h => ?_) (fun cdv A outer s H vs Q E hr h => ⟨tOst K "position" (tVar 0) (tVar 1), pss_one (ps_ost (pe_var (i := 0) rfl (Or.inl rfl) (by decide) (by decide)) (pe_var (i := 1) rfl (Or.inl rfl) (by decide) (by decide))), DL.pure_init rfl vs H Q E h⟩)
  obtain ⟨a, C, v, rfl, _⟩ := h
  rfl
theorem scE3 : FnScope ["self", "line"] ["self", "line"] (defScope sBadText_init) := ⟨rfl, rfl, rfl, by decide +kernel, rfl, by decide +kernel, by decide +kernel⟩
theorem ok_E3 {f : Addr} {fd : FuncData} {qual : Str} (F : FunD K "__init__" qual (defArgs sBadText_init) (defBody sBadText_init) (defScope sBadText_init) [] [] f fd) : FnOk P w K mg base (L2.CX P w) 1 f fd ["self", "line"] (DL.spInit K "line") := by
  refine F.ok scE3 (fun vs H Q E h => ?_) (fun cdv A outer s H vs Q E hr h => ⟨tOst K "line" (tVar 0) (tVar 1), pss_one (ps_ost (pe_var (i := 0) rfl (Or.inl rfl) (by decide) (by decide)) (pe_var (i := 1) rfl (Or.inl rfl) (by decide) (by decide))), DL.pure_init rfl vs H Q E h⟩)
  obtain ⟨a, C, v, rfl, _⟩ := h
  rfl
theorem errc {C fl : Str} {qual : Str} {fd : FuncData} {s : Stmt} (ox : GX.oexB K (He.ga K C) = true) (ge : mg C = some (.ref (He.ga K C))) (nf : noF K (He.ga K C) fl = true) (m : Meth K (He.ga K C) "__init__" (He.ma K (He.ga K C) "__init__"))
    (F : FunD K "__init__" qual (defArgs s) (defBody s) (defScope s) [] [] (He.ma K (He.ga K C) "__init__") fd) (ok : FnOk P w K mg base (L2.CX P w) 1 (He.ma K (He.ga K C) "__init__") fd ["self", fl] (DL.spInit K fl))
    (b1 : ∀ (kV doc pm : Value) (an : Option Addr) (cdv ct : Value) (us : List Value), us.length = 2 → bindArgs (PySem.W.fnOf "__init__" qual (defArgs s) (defBody s) (defScope s) .none kV doc pm an cdv ct) ⟨us, []⟩ = pure ((["self", fl] : List Str).zip us)) :
    ErrC P w K mg base C (He.ga K C) fl :=
  ⟨GX.oexB_ok ox, ge, of_decide_eq_true nf, ⟨_, fd, m.at_, beq_iff_eq.mp m.fn, ok, F.bindsN b1⟩⟩
theorem scG_places : FnScope ["self"] ["self"] (defScope sWeb_places) := ⟨rfl, rfl, rfl, by decide +kernel, rfl, by decide +kernel, by decide +kernel⟩
theorem prd_places {fd : FuncData} (F : FunD K "places" "Web.places" (defArgs sWeb_places) (defBody sWeb_places) (defScope sWeb_places) [] [] (gA K "places") fd) (cls : L2.Cls K (cW K)) (n : NoAttr K (cW K) "spots") (p : propB K "places" = true) : PrD P w K mg base (cW K) "places" "spots" 1 := by
  refine ⟨cls, pA K "places", gA K "places", fd, propB_ok p, ?_, F.bindsN fun _ _ _ _ _ _ us hl => match us, hl with | [_], _ => rfl⟩
  obtain ⟨oc, od, dV, kV, doc, pm, an, cdv, ct, osl, rfl, lk, hcd, _, _⟩ := F.ex
  exact fn_getter (k := 0) lk hcd scG_places rfl rfl cls n
theorem scG_ties : FnScope ["self"] ["self"] (defScope sWeb_ties) := ⟨rfl, rfl, rfl, by decide +kernel, rfl, by decide +kernel, by decide +kernel⟩
theorem prd_ties {fd : FuncData} (F : FunD K "ties" "Web.ties" (defArgs sWeb_ties) (defBody sWeb_ties) (defScope sWeb_ties) [] [] (gA K "ties") fd) (cls : L2.Cls K (cW K)) (n : NoAttr K (cW K) "lines") (p : propB K "ties" = true) : PrD P w K mg base (cW K) "ties" "lines" 1 := by
  refine ⟨cls, pA K "ties", gA K "ties", fd, propB_ok p, ?_, F.bindsN fun _ _ _ _ _ _ us hl => match us, hl with | [_], _ => rfl⟩
  obtain ⟨oc, od, dV, kV, doc, pm, an, cdv, ct, osl, rfl, lk, hcd, _, _⟩ := F.ex
  exact fn_getter (k := 0) lk hcd scG_ties rfl rfl cls n
theorem facts (X : K.In h) (G : h.Ns mainGlobals mg) (hfa : mg ("law" : Str) = some (.ref f)) (c : obsP fa fn ex K = He5.valA fn) :
    ∃ (fd : FuncData) (sp : Sp), (∀ (s : Shared) (v : Value), BindsTo s fd ⟨[v], []⟩ [("script", v)]) ∧ (∀ b o, K.lookup b = some o → o.cls ≠ .type "list") ∧
      (∀ (Hh : Hp) (a : Addr) (ns : List Int) (o : Obj), ns.length ≤ 63 → (∀ n ∈ ns, Builtin.Int.intBits n ≤ 1048576) → Hh a = some (.frz o (.lst (ns.map V.int))) → sp [.ref a] Hh (fun v _ => v = .bl true) fun _ _ _ => False) ∧
      ∀ base : Heap, K.In base → base.Ns mainGlobals mg → GW.Ok R.prog w K mg base (L2.CX R.prog w) 9 f fd ["script"] sp := by
  have c1 : (((fa.all fun f => f.ok K) && fn.all fun d => d.ok K) && ex K) = true := congrArg (fun z : He.AlD => z.1) c
  have c2 : fn.map (fun d => He5.fnA K (d.at_ K)) = fn.map He5.DefA.val := congrArg (fun z : He.AlD => z.2) c
  obtain ⟨c3, ce⟩ := GX.and2 c1
  obtain ⟨cf, cd⟩ := GX.and2 c3
  have fact : ∀ (i : Nat) {f : He.Fa}, fa[i]? = some f → f.ok K = true := fun i {f} e => List.all_eq_true.mp cf f (List.mem_of_getElem? e)
  have def_ : ∀ (i : Nat) {d : He5.DefA}, fn[i]? = some d → ∃ fd, FunD K d.name d.qual d.params d.body d.scope (d.dvs K) (d.kws K) (d.at_ K) fd := fun i {d} e => by
    have e2 : (fn.map fun d => He5.fnA K (d.at_ K))[i]? = (fn.map He5.DefA.val)[i]? := by rw [c2]
    rw [List.getElem?_map, List.getElem?_map, e] at e2
    exact He5.DefA.funD (Option.some.inj e2) (List.all_eq_true.mp cd d (List.mem_of_getElem? e))
  obtain ⟨noL, ce⟩ := GX.and2 ce
  obtain ⟨pr1, ce⟩ := GX.and2 ce
  obtain ⟨pr2, ce⟩ := GX.and2 ce
  obtain ⟨x1, ce⟩ := GX.and2 ce
  obtain ⟨x2, ce⟩ := GX.and2 ce
  obtain ⟨x3, ce⟩ := GX.and2 ce
  obtain ⟨x4, ce⟩ := GX.and2 ce
  obtain ⟨xf, ce⟩ := GX.and2 ce
  obtain ⟨nf1, ce⟩ := GX.and2 ce
  obtain ⟨nf2, ce⟩ := GX.and2 ce
  obtain ⟨nf3, ce⟩ := GX.and2 ce
  obtain ⟨nf4, ce⟩ := GX.and2 ce
  obtain ⟨ay1, ce⟩ := GX.and2 ce
  obtain ⟨ay2, ay3⟩ := GX.and2 ce
  have any1 : PySem.W.exmAny K (.ref (cBP K)) [.ref (cBP K), .ref (cBI K)] = some true := of_decide_eq_true ay1
  have any2 : PySem.W.exmAny K (.ref (cBI K)) [.ref (cBP K), .ref (cBI K)] = some true := of_decide_eq_true ay2
  have any3 : PySem.W.exmAny K (.ref (cTX K)) [.ref (cTX K)] = some true := of_decide_eq_true ay3
  have xfc : XfC K (cTX K) := xfB_ok xf
  have gl : ∀ (i : Nat) {x : Str}, fa[i]? = some (.glo x) → mg x = some (.ref (He.ga K x)) := fun i {x} e => He.glo_ok X G (fact i e)
  have fr : ∀ (i : Nat) {x : Str}, fa[i]? = some (.free x) → mg x = none := fun i {x} e => He.free_ok X G (fact i e)
  have cls : L2.Cls K (cW K) := He.cls_ok (fact 27 (f := .cls "Web") rfl)
  have nS : NoAttr K (cW K) "spots" := He.noat_ok (fact 28 (f := .noat "Web" "spots") rfl)
  have nN : NoAttr K (cW K) "near" := He.noat_ok (fact 29 (f := .noat "Web" "near") rfl)
  have nL : NoAttr K (cW K) "lines" := He.noat_ok (fact 30 (f := .noat "Web" "lines") rfl)
  have h_LETTERS : ∃ u, mg "LETTERS" = some u ∧ RelV (.str "abcdefghijklmnopqrstuvwxyz") u := by
    obtain ⟨t, e⟩ := He.str_ok X G (fact 25 (f := .str "LETTERS" "abcdefghijklmnopqrstuvwxyz") rfl)
    exact ⟨_, e, t, rfl⟩
  have hMP : ∃ u, mg "MOST_PLACES" = some u ∧ RelV (.int 12) u := by
    obtain ⟨t, e⟩ := He.int_ok X G (fact 26 (f := .int "MOST_PLACES" 12) rfl)
    exact ⟨_, e, t, rfl⟩
  obtain ⟨fd0, F0⟩ := def_ 0 (d := mg_ "_law_source" sSource) rfl
  obtain ⟨fd1, F1⟩ := def_ 1 (d := mg_ "_law_draw" sDraw) rfl
  obtain ⟨fd2, F2⟩ := def_ 2 (d := mg_ "_law_pick" sPick) rfl
  obtain ⟨fd3, F3⟩ := def_ 3 (d := mg_ "_law_mixed" sMixed) rfl
  obtain ⟨fd4, F4⟩ := def_ 4 (d := mg_ "_law_word" sWord) rfl
  obtain ⟨fd5, F5⟩ := def_ 5 (d := mg_ "_law_names" sNames) rfl
  obtain ⟨fd6, F6⟩ := def_ 6 (d := mg_ "_law_pairs" sPairs) rfl
  obtain ⟨fd7, F7⟩ := def_ 7 (d := mg_ "_law_plan" sPlan) rfl
  obtain ⟨fd8, F8⟩ := def_ 8 (d := mg_ "_law_web" sLawWeb) rfl
  obtain ⟨fd9, F9⟩ := def_ 9 (d := mg_ "_law_is_name" sLawIsName) rfl
  obtain ⟨fd10, F10⟩ := def_ 10 (d := mg_ "_law_first_bad" sFirstBad) rfl
  obtain ⟨fd11, F11⟩ := def_ 11 (d := mg_ "_law_told" sTold) rfl
  obtain ⟨fd12, F12⟩ := def_ 12 (d := mg_ "_law_bent" sBent) rfl
  obtain ⟨fd13, F13⟩ := def_ 13 (d := mg_ "law" sLaw) rfl
  obtain ⟨fd14, F14⟩ := def_ 14 (d := mg_ "is_name" sIsName) rfl
  obtain ⟨fd15, F15⟩ := def_ 15 (d := mg_ "is_place" sIsPlace) rfl
  obtain ⟨fd16, F16⟩ := def_ 16 (d := mg_ "is_pair" sIsPair) rfl
  obtain ⟨fd17, F17⟩ := def_ 17 (d := mg_ "web_text" sWebText) rfl
  obtain ⟨fd18, F18⟩ := def_ 18 (d := mg_ "read_line" sReadLine) rfl
  obtain ⟨fd19, F19⟩ := def_ 19 (d := mg_ "read_web" sReadWeb) rfl
  obtain ⟨fI0, I0⟩ := def_ 20 (d := mi_ "BadPlaces" sBadPlaces_init) rfl
  obtain ⟨fI1, I1⟩ := def_ 21 (d := mi_ "BadTies" sBadTies_init) rfl
  obtain ⟨fI2, I2⟩ := def_ 22 (d := mi_ "BadTie" sBadTie_init) rfl
  obtain ⟨fI3, I3⟩ := def_ 23 (d := mi_ "BadText" sBadText_init) rfl
  obtain ⟨fW0, W0⟩ := def_ 24 rfl
  obtain ⟨fW1, W1⟩ := def_ 25 rfl
  obtain ⟨fW2, W2⟩ := def_ 26 rfl
  have e := hfa.symm.trans (gl 13 (x := "law") rfl)
  cases e
  have bL := FunD.bindsA (ps := ["script"]) F13 fun _ _ _ _ _ _ us hl => match us, hl with | [_], _ => rfl
  refine ⟨fd13, toSp spLaw, fun s v => bL s [v] rfl, fun b o z y => ?_, fun Hh a ns o h1 h2 h3 => ?_, fun base _ _ => ?_⟩
  · have q := List.all_eq_true.mp noL (b, o) (He.lookup_mem z)
    rw [y] at q
    cases q
  · refine ⟨fun _ => none, [], [], [.b (.fz ns)], fun rv cs => rv = .d (.bl true), fun _ _ _ => False, fun _ _ z => (nomatch z), fun _ z => (nomatch z), List.nodup_nil, fun _ z => (nomatch z), .b (.fz (.inr ⟨o, h3⟩)) .nil, ⟨ns, rfl, fun n hn => ?_, rfl⟩, fun rv cs h v Hf' H' af rr => ?_, fun _ _ _ z => z.elim⟩
    · have q := h2 n hn
      unfold Builtin.Int.intBits at q
      by_cases z : n.natAbs = 0
      · rw [z]
        exact Nat.lt_of_lt_of_le (by decide : 0 < 2 ^ 60) big_ge
      · refine (Nat.log2_lt z).mp ?_
        rw [if_neg (fun y => z (by rw [eq_of_beq y]; rfl))] at q
        exact q
    · subst h
      exact rep_bl rr
  · have nf4' := of_decide_eq_true nf4
    have c__law_source : DCal R.prog w K mg base "_law_source" 2 spSource := cal_source F0 (gl 0 rfl) (fr 39 rfl) (fr 41 rfl) vc_source (fun avs Q XP hs => by first | (obtain ⟨_, rfl, _⟩ := hs; rfl; done) | (obtain ⟨_, _, rfl, _⟩ := hs; rfl; done) | (obtain ⟨_, _, _, rfl, _⟩ := hs; rfl; done) | (obtain ⟨_, _, _, _, rfl, _⟩ := hs; rfl; done) | (obtain ⟨_, _, _, _, _, rfl, _⟩ := hs; rfl; done) | (rcases hs with ⟨_, rfl, _⟩ | ⟨_, _, rfl, _⟩ <;> rfl))
    have c__law_draw : DCal R.prog w K mg base "_law_draw" 2 spDraw := cal_draw F1 (gl 1 rfl) (fr 39 rfl) vc_draw (fun avs Q XP hs => by first | (obtain ⟨_, rfl, _⟩ := hs; rfl; done) | (obtain ⟨_, _, rfl, _⟩ := hs; rfl; done) | (obtain ⟨_, _, _, rfl, _⟩ := hs; rfl; done) | (obtain ⟨_, _, _, _, rfl, _⟩ := hs; rfl; done) | (obtain ⟨_, _, _, _, _, rfl, _⟩ := hs; rfl; done) | (rcases hs with ⟨_, rfl, _⟩ | ⟨_, _, rfl, _⟩ <;> rfl))
    have c_is_name : DCal R.prog w K mg base "is_name" 1 spIsName := cal_isname F14 (gl 14 rfl) (fr 36 rfl) (fr 40 rfl) (fr 41 rfl) (fr 48 rfl) h_LETTERS vc_isname (fun avs Q XP hs => by first | (obtain ⟨_, rfl, _⟩ := hs; rfl; done) | (obtain ⟨_, _, rfl, _⟩ := hs; rfl; done) | (obtain ⟨_, _, _, rfl, _⟩ := hs; rfl; done) | (obtain ⟨_, _, _, _, rfl, _⟩ := hs; rfl; done) | (obtain ⟨_, _, _, _, _, rfl, _⟩ := hs; rfl; done) | (rcases hs with ⟨_, rfl, _⟩ | ⟨_, _, rfl, _⟩ <;> rfl))
    have c_is_place : DCal R.prog w K mg base "is_place" 1 spIsPlace := cal_isplace F15 (gl 15 rfl) (fr 40 rfl) (fr 48 rfl) vc_isplace (fun avs Q XP hs => by first | (obtain ⟨_, rfl, _⟩ := hs; rfl; done) | (obtain ⟨_, _, rfl, _⟩ := hs; rfl; done) | (obtain ⟨_, _, _, rfl, _⟩ := hs; rfl; done) | (obtain ⟨_, _, _, _, rfl, _⟩ := hs; rfl; done) | (obtain ⟨_, _, _, _, _, rfl, _⟩ := hs; rfl; done) | (rcases hs with ⟨_, rfl, _⟩ | ⟨_, _, rfl, _⟩ <;> rfl))
    have c_is_pair : DCal R.prog w K mg base "is_pair" 2 spIsPair := cal_ispair F16 (gl 16 rfl) (fr 40 rfl) (fr 41 rfl) (fr 49 rfl) c_is_place vc_ispair (fun avs Q XP hs => by first | (obtain ⟨_, rfl, _⟩ := hs; rfl; done) | (obtain ⟨_, _, rfl, _⟩ := hs; rfl; done) | (obtain ⟨_, _, _, rfl, _⟩ := hs; rfl; done) | (obtain ⟨_, _, _, _, rfl, _⟩ := hs; rfl; done) | (obtain ⟨_, _, _, _, _, rfl, _⟩ := hs; rfl; done) | (rcases hs with ⟨_, rfl, _⟩ | ⟨_, _, rfl, _⟩ <;> rfl))
    have e_BadPlaces : ErrC R.prog w K mg base "BadPlaces" (cBP K) "value" := errc (C := "BadPlaces") (fl := "value") (s := sBadPlaces_init) (qual := Str.append "BadPlaces" ".__init__") (fd := fI0) (x1) (gl 20 rfl) nf1 (He.meth_ok (fact 32 rfl)) I0 (ok_E0 I0) (fun _ _ _ _ _ _ us hl => match us, hl with | [_, _], _ => rfl)
    have e_BadTies : ErrC R.prog w K mg base "BadTies" (cBT K) "value" := errc (C := "BadTies") (fl := "value") (s := sBadTies_init) (qual := Str.append "BadTies" ".__init__") (fd := fI1) (x2) (gl 21 rfl) nf2 (He.meth_ok (fact 33 rfl)) I1 (ok_E1 I1) (fun _ _ _ _ _ _ us hl => match us, hl with | [_, _], _ => rfl)
    have e_BadTie : ErrC R.prog w K mg base "BadTie" (cBI K) "position" := errc (C := "BadTie") (fl := "position") (s := sBadTie_init) (qual := Str.append "BadTie" ".__init__") (fd := fI2) (x3) (gl 22 rfl) nf3 (He.meth_ok (fact 34 rfl)) I2 (ok_E2 I2) (fun _ _ _ _ _ _ us hl => match us, hl with | [_, _], _ => rfl)
    have e_BadText : ErrC R.prog w K mg base "BadText" (cTX K) "line" := errc (C := "BadText") (fl := "line") (s := sBadText_init) (qual := Str.append "BadText" ".__init__") (fd := fI3) (x4) (gl 23 rfl) nf4 (He.meth_ok (fact 35 rfl)) I3 (ok_E3 I3) (fun _ _ _ _ _ _ us hl => match us, hl with | [_, _], _ => rfl)
    have m_Web : MCal R.prog w K mg base "Web" 3 (spWeb (cW K) (cBP K) (cBI K)) := mcal_web (cBT := cBT K) W0 (He.mkr_ok (fact 31 rfl)) (gl 24 rfl) cls nS nN nL (fr 36 rfl) (fr 38 rfl) (fr 40 rfl) (fr 41 rfl) (fr 42 rfl) (fr 46 rfl) (fr 49 rfl) c_is_name c_is_pair hMP e_BadPlaces e_BadTies e_BadTie
    have p_places : PrD R.prog w K mg base (cW K) "places" "spots" 1 := prd_places W1 cls nS pr1
    have p_ties : PrD R.prog w K mg base (cW K) "ties" "lines" 1 := prd_ties W2 cls nL pr2
    have c_web_text : DCal R.prog w K mg base "web_text" 3 (spWebText (cW K)) := cal_webtext F17 (gl 17 rfl) p_ties p_places vc_webtext (fun avs Q XP hs => by first | (obtain ⟨_, rfl, _⟩ := hs; rfl; done) | (obtain ⟨_, _, rfl, _⟩ := hs; rfl; done) | (obtain ⟨_, _, _, rfl, _⟩ := hs; rfl; done) | (obtain ⟨_, _, _, _, rfl, _⟩ := hs; rfl; done) | (obtain ⟨_, _, _, _, _, rfl, _⟩ := hs; rfl; done) | (rcases hs with ⟨_, rfl, _⟩ | ⟨_, _, rfl, _⟩ <;> rfl))
    have c_read_line : DCal R.prog w K mg base "read_line" 5 spReadLine := cal_readline F18 (gl 18 rfl) (fr 41 rfl) m_Web (gl 20 rfl) any1 (gl 22 rfl) any2 vc_readline (fun avs Q XP hs => by first | (obtain ⟨_, rfl, _⟩ := hs; rfl; done) | (obtain ⟨_, _, rfl, _⟩ := hs; rfl; done) | (obtain ⟨_, _, _, rfl, _⟩ := hs; rfl; done) | (obtain ⟨_, _, _, _, rfl, _⟩ := hs; rfl; done) | (obtain ⟨_, _, _, _, _, rfl, _⟩ := hs; rfl; done) | (rcases hs with ⟨_, rfl, _⟩ | ⟨_, _, rfl, _⟩ <;> rfl))
    have c_read_web : DCal R.prog w K mg base "read_web" 6 (spReadWeb (cW K) (cTX K)) := cal_readweb F19 (gl 19 rfl) (fr 38 rfl) (fr 40 rfl) (fr 48 rfl) c_read_line m_Web e_BadText vc_readweb (fun avs Q XP hs => by first | (obtain ⟨_, rfl, _⟩ := hs; rfl; done) | (obtain ⟨_, _, rfl, _⟩ := hs; rfl; done) | (obtain ⟨_, _, _, rfl, _⟩ := hs; rfl; done) | (obtain ⟨_, _, _, _, rfl, _⟩ := hs; rfl; done) | (obtain ⟨_, _, _, _, _, rfl, _⟩ := hs; rfl; done) | (rcases hs with ⟨_, rfl, _⟩ | ⟨_, _, rfl, _⟩ <;> rfl))
    have c__law_pick : DCal R.prog w K mg base "_law_pick" 3 spPick := cal_pick F2 (gl 2 rfl) (fr 41 rfl) c__law_draw vc_pick (fun avs Q XP hs => by first | (obtain ⟨_, rfl, _⟩ := hs; rfl; done) | (obtain ⟨_, _, rfl, _⟩ := hs; rfl; done) | (obtain ⟨_, _, _, rfl, _⟩ := hs; rfl; done) | (obtain ⟨_, _, _, _, rfl, _⟩ := hs; rfl; done) | (obtain ⟨_, _, _, _, _, rfl, _⟩ := hs; rfl; done) | (rcases hs with ⟨_, rfl, _⟩ | ⟨_, _, rfl, _⟩ <;> rfl))
    have c__law_mixed : DCal R.prog w K mg base "_law_mixed" 3 spMixed := cal_mixed F3 (gl 3 rfl) (fr 41 rfl) (fr 42 rfl) c__law_draw vc_mixed (fun avs Q XP hs => by first | (obtain ⟨_, rfl, _⟩ := hs; rfl; done) | (obtain ⟨_, _, rfl, _⟩ := hs; rfl; done) | (obtain ⟨_, _, _, rfl, _⟩ := hs; rfl; done) | (obtain ⟨_, _, _, _, rfl, _⟩ := hs; rfl; done) | (obtain ⟨_, _, _, _, _, rfl, _⟩ := hs; rfl; done) | (rcases hs with ⟨_, rfl, _⟩ | ⟨_, _, rfl, _⟩ <;> rfl))
    have c__law_word : DCal R.prog w K mg base "_law_word" 4 spWord := cal_word F4 (gl 4 rfl) (fr 45 rfl) c__law_draw c__law_pick vc_word (fun avs Q XP hs => by first | (obtain ⟨_, rfl, _⟩ := hs; rfl; done) | (obtain ⟨_, _, rfl, _⟩ := hs; rfl; done) | (obtain ⟨_, _, _, rfl, _⟩ := hs; rfl; done) | (obtain ⟨_, _, _, _, rfl, _⟩ := hs; rfl; done) | (obtain ⟨_, _, _, _, _, rfl, _⟩ := hs; rfl; done) | (rcases hs with ⟨_, rfl, _⟩ | ⟨_, _, rfl, _⟩ <;> rfl))
    have c__law_names : DCal R.prog w K mg base "_law_names" 5 spNames := cal_names F5 (gl 5 rfl) c__law_draw c__law_mixed c__law_word vc_names (fun avs Q XP hs => by first | (obtain ⟨_, rfl, _⟩ := hs; rfl; done) | (obtain ⟨_, _, rfl, _⟩ := hs; rfl; done) | (obtain ⟨_, _, _, rfl, _⟩ := hs; rfl; done) | (obtain ⟨_, _, _, _, rfl, _⟩ := hs; rfl; done) | (obtain ⟨_, _, _, _, _, rfl, _⟩ := hs; rfl; done) | (rcases hs with ⟨_, rfl, _⟩ | ⟨_, _, rfl, _⟩ <;> rfl))
    have c__law_pairs : DCal R.prog w K mg base "_law_pairs" 3 spPairs := cal_pairs F6 (gl 6 rfl) (fr 43 rfl) (fr 44 rfl) (fr 45 rfl) c__law_draw vc_pairs (fun avs Q XP hs => by first | (obtain ⟨_, rfl, _⟩ := hs; rfl; done) | (obtain ⟨_, _, rfl, _⟩ := hs; rfl; done) | (obtain ⟨_, _, _, rfl, _⟩ := hs; rfl; done) | (obtain ⟨_, _, _, _, rfl, _⟩ := hs; rfl; done) | (obtain ⟨_, _, _, _, _, rfl, _⟩ := hs; rfl; done) | (rcases hs with ⟨_, rfl, _⟩ | ⟨_, _, rfl, _⟩ <;> rfl))
    have c__law_plan : DCal R.prog w K mg base "_law_plan" 6 spPlan := cal_plan F7 (gl 7 rfl) (fr 49 rfl) c__law_draw c__law_mixed c__law_names c__law_pairs vc_plan (fun avs Q XP hs => by first | (obtain ⟨_, rfl, _⟩ := hs; rfl; done) | (obtain ⟨_, _, rfl, _⟩ := hs; rfl; done) | (obtain ⟨_, _, _, rfl, _⟩ := hs; rfl; done) | (obtain ⟨_, _, _, _, rfl, _⟩ := hs; rfl; done) | (obtain ⟨_, _, _, _, _, rfl, _⟩ := hs; rfl; done) | (rcases hs with ⟨_, rfl, _⟩ | ⟨_, _, rfl, _⟩ <;> rfl))
    have c__law_web : DCal R.prog w K mg base "_law_web" 5 (spLawWeb (cW K)) := cal_lweb F8 (gl 8 rfl) m_Web vc_lweb (fun avs Q XP hs => by first | (obtain ⟨_, rfl, _⟩ := hs; rfl; done) | (obtain ⟨_, _, rfl, _⟩ := hs; rfl; done) | (obtain ⟨_, _, _, rfl, _⟩ := hs; rfl; done) | (obtain ⟨_, _, _, _, rfl, _⟩ := hs; rfl; done) | (obtain ⟨_, _, _, _, _, rfl, _⟩ := hs; rfl; done) | (rcases hs with ⟨_, rfl, _⟩ | ⟨_, _, rfl, _⟩ <;> rfl))
    have c__law_is_name : DCal R.prog w K mg base "_law_is_name" 1 spLawIsName := cal_lisname F9 (gl 9 rfl) (fr 41 rfl) vc_lisname (fun avs Q XP hs => by first | (obtain ⟨_, rfl, _⟩ := hs; rfl; done) | (obtain ⟨_, _, rfl, _⟩ := hs; rfl; done) | (obtain ⟨_, _, _, rfl, _⟩ := hs; rfl; done) | (obtain ⟨_, _, _, _, rfl, _⟩ := hs; rfl; done) | (obtain ⟨_, _, _, _, _, rfl, _⟩ := hs; rfl; done) | (rcases hs with ⟨_, rfl, _⟩ | ⟨_, _, rfl, _⟩ <;> rfl))
    have c__law_first_bad : DCal R.prog w K mg base "_law_first_bad" 2 spFirstBad := cal_firstbad F10 (gl 10 rfl) (fr 38 rfl) (fr 41 rfl) (fr 47 rfl) c__law_is_name vc_firstbad (fun avs Q XP hs => by first | (obtain ⟨_, rfl, _⟩ := hs; rfl; done) | (obtain ⟨_, _, rfl, _⟩ := hs; rfl; done) | (obtain ⟨_, _, _, rfl, _⟩ := hs; rfl; done) | (obtain ⟨_, _, _, _, rfl, _⟩ := hs; rfl; done) | (obtain ⟨_, _, _, _, _, rfl, _⟩ := hs; rfl; done) | (rcases hs with ⟨_, rfl, _⟩ | ⟨_, _, rfl, _⟩ <;> rfl))
    have c__law_told : DCal R.prog w K mg base "_law_told" 7 spTold := cal_told F11 (gl 11 rfl) c_read_web c_web_text (gl 23 rfl) any3 xfc nf4' vc_told (fun avs Q XP hs => by first | (obtain ⟨_, rfl, _⟩ := hs; rfl; done) | (obtain ⟨_, _, rfl, _⟩ := hs; rfl; done) | (obtain ⟨_, _, _, rfl, _⟩ := hs; rfl; done) | (obtain ⟨_, _, _, _, rfl, _⟩ := hs; rfl; done) | (obtain ⟨_, _, _, _, _, rfl, _⟩ := hs; rfl; done) | (rcases hs with ⟨_, rfl, _⟩ | ⟨_, _, rfl, _⟩ <;> rfl))
    have c__law_bent : DCal R.prog w K mg base "_law_bent" 4 spBent := cal_bent F12 (gl 12 rfl) (fr 41 rfl) c__law_draw c__law_pick vc_bent (fun avs Q XP hs => by first | (obtain ⟨_, rfl, _⟩ := hs; rfl; done) | (obtain ⟨_, _, rfl, _⟩ := hs; rfl; done) | (obtain ⟨_, _, _, rfl, _⟩ := hs; rfl; done) | (obtain ⟨_, _, _, _, rfl, _⟩ := hs; rfl; done) | (obtain ⟨_, _, _, _, _, rfl, _⟩ := hs; rfl; done) | (rcases hs with ⟨_, rfl, _⟩ | ⟨_, _, rfl, _⟩ <;> rfl))
    exact ok_law F13 (gl 13 rfl) (fr 41 rfl) (fr 42 rfl) (fr 43 rfl) (fr 44 rfl) (fr 45 rfl) c__law_bent c__law_first_bad c__law_plan c__law_source c__law_told c__law_web c_web_text vc_law (fun avs Q XP hs => by first | (obtain ⟨_, rfl, _⟩ := hs; rfl; done) | (obtain ⟨_, _, rfl, _⟩ := hs; rfl; done) | (obtain ⟨_, _, _, rfl, _⟩ := hs; rfl; done) | (obtain ⟨_, _, _, _, rfl, _⟩ := hs; rfl; done) | (obtain ⟨_, _, _, _, _, rfl, _⟩ := hs; rfl; done) | (rcases hs with ⟨_, rfl, _⟩ | ⟨_, _, rfl, _⟩ <;> rfl))
end
end K56
open PySem PySem.W PySem.Calls PyProof.Rows
theorem PySem.Challenge.cw_cornerturn_k56_texts_refused_holds : PySem.Challenge.rw_cornerturn_k56_texts_refused.Holds := by
  w_on; o_law
  refine HandSHeadRun.head_any (r := K56.R) (q := view K56.R.prog [33]) (H := K56.hk) (ob := K56.ob) (M := 6000) (loose := K56.loose) (d := HandSHeadRun.topDef K56.R.prog 33) (kwd := []) K56.ob_eq
    (by kernel_rfl) (fun s => by kernel_rfl) K56.run (by kernel_rfl) (by kernel_rfl) (by kernel_rfl) (by rfl) (by first | assumption | decide +kernel) (by decide +kernel) ⟨rfl, rfl, rfl, rfl, rfl, by decide +kernel⟩ ?hw ?hc
  case hw => w_witness2
  case hc =>
    refine GW.walk (l := PySem.Challenge.rw_cornerturn_k56_texts_refused) (n := 63) (k := 9) (x := "script") (CX := L2.CX K56.R.prog) rfl (by decide) (by kernel_rfl) ⟨rfl, by decide, by decide⟩ ?F (fun w Hh s e s' z => ?_)
    case F =>
      intro w mg fa h Y G hmg0
      obtain ⟨K, KX, c⟩ := Y
      have hmg : mg ("law" : PySem.Str) = some (.ref fa) := by
        have e : (HandSHeadRun.topDef K56.R.prog 33).name = ("law" : PySem.Str) := by kernel_rfl
        rw [← e]
        exact hmg0
      obtain ⟨fd, sp, hb, hL, hs, hF⟩ := K56.facts (w := w) KX G hmg c
      exact ⟨K, fd, sp, KX, hb, hL, hs, hF⟩
    obtain ⟨_, _, _, _, _, _, _, _, _, _, _, _, z⟩ := z
    exact z


