import PyProof.Rows.All
import Wide.All
import OpenK.AllK
import Wide.FinOn
import HandS.Strs
import HandS.OwnEq
import HandS.IsInst
import HandS.ExcInit
import HandS.ExcField
import HandS.TryMany
import HandS.Words
import HandS.WordsExc
import HandS.Evl
import HandS.ForMost
import HandS.TupAny
import HandS.Wide
import HandS.MakeKwOnly
import HandS.Style
import HandS.Walk
import HandS.Steps
import KE.KRevSl
import KE.DataCmp
import KE.KTryMore
import HandS.Dict
import KE.KxIndex
import HandS.NamedTupSort
import HandS.More
import HandS.DictComp
import PyProof.NeKinds
import PyProof.Rows.StrMeet
import HandS.ExcIs
import HandS.SetFor
import HandS.Conv
import PySem.Challenge.RW_scopebind_k75_required_preloads
set_option Elab.async false
set_option linter.all false
set_option maxRecDepth 100000
set_option maxHeartbeats 4000000
set_option Elab.async false
set_option linter.all false
set_option maxRecDepth 100000
set_option maxHeartbeats 4000000
/-! set(tuple of texts), of any size below 1000: its length is the number of distinct texts -/
namespace SB
open PySem PySem.Spec PyProof.Rows L2

/-- how many distinct texts stand in a list -/
def dcnt : List Str → Nat
  | [] => 0
  | x :: r => if x ∈ r then dcnt r else dcnt r + 1
theorem dcnt_le : ∀ l : List Str, dcnt l ≤ l.length
  | [] => Nat.le_refl _
  | x :: r => by
    have ih := dcnt_le r
    unfold dcnt
    split
    · exact Nat.le_trans ih (Nat.le_succ _)
    · exact Nat.succ_le_succ ih
theorem dcnt_nodup : ∀ l : List Str, dcnt l = l.length ↔ l.Nodup
  | [] => by simp [dcnt]
  | x :: r => by
    have ih := dcnt_nodup r
    have le := dcnt_le r
    unfold dcnt
    by_cases hx : x ∈ r
    · rw [if_pos hx]
      constructor
      · intro h; simp at h; omega
      · intro h; exact absurd hx (List.nodup_cons.mp h).1
    · rw [if_neg hx, List.nodup_cons, ← ih]
      simp [hx]
/-- the count of a front, as the set's own loop finds it -/
def fcnt (xs : List Str) : Nat → Nat
  | 0 => 0
  | i + 1 => if (xs.take i).any (· == xs.getD i Str.empty) then fcnt xs i else fcnt xs i + 1
theorem fcnt_le (xs : List Str) : ∀ i, fcnt xs i ≤ i
  | 0 => Nat.le_refl _
  | i + 1 => by
    have ih := fcnt_le xs i
    unfold fcnt
    split <;> omega
theorem fcnt_eq_iff (xs : List Str) : ∀ i, i ≤ xs.length → (fcnt xs i = i ↔ (xs.take i).Nodup)
  | 0, _ => by simp [fcnt]
  | i + 1, hi => by
    have ih := fcnt_eq_iff xs i (by omega)
    have le := fcnt_le xs i
    have e : xs.getD i Str.empty = xs[i] := by simp [show i < xs.length by omega]
    have e2 : xs.take (i + 1) = xs.take i ++ [xs[i]] := by
      rw [List.take_add_one, List.getElem?_eq_getElem (by omega)]; rfl
    unfold fcnt
    rw [e, e2]
    by_cases hm : xs[i] ∈ xs.take i
    · have hb : ((xs.take i).any (· == xs[i])) = true := List.any_eq_true.mpr ⟨_, hm, by simp⟩
      rw [if_pos hb]
      constructor
      · intro h; omega
      · intro h
        have := (List.nodup_append.mp h).2.2
        exact absurd rfl (this _ hm _ (by simp))
    · have hb : ((xs.take i).any (· == xs[i])) = false := by
        cases q : (xs.take i).any (· == xs[i]) with
        | false => rfl
        | true =>
          obtain ⟨y, hy, ey⟩ := List.any_eq_true.mp q
          exact absurd ((eq_of_beq ey) ▸ hy) hm
      rw [if_neg (by rw [hb]; decide)]
      constructor
      · intro h
        have h2 := ih.mp (by omega)
        refine List.nodup_append.mpr ⟨h2, by simp, fun a ha b hb' => ?_⟩
        simp at hb'
        subst hb'
        intro q; subst q; exact hm ha
      · intro h
        have := ih.mpr (List.nodup_append.mp h).1
        omega

section
variable {P : Program} {w : World} {A : Around} {R : Result → Shared → Prop} {it : Addr} {fp wr : List Addr} {G : Array GenState → Array GenState → Prop} {n : Nat} {Yl : Nat → Value → Prop} {Z : Nat → Shared → Prop}
abbrev sAt (xs : List Str) (i : Nat) : Str → Bool := fun k => (xs.take i).any fun y => y == k
theorem set_turns (W : WalksS P w A.in1 it fp wr G n Yl Z) (T : Addr) (hT : T ∉ fp) (xs : List Str) (hx : xs.length = n) (hn : n ≤ 1000)
    (yl : ∀ i v, Yl i v → ∃ tk, v = .str (xs.getD i Str.empty) tk) (m : Nat) :
    ∀ (i : Nat) (s : Shared), n - i = m → i ≤ n → Z i s → s.heap.SetOf (strKind P w) T (sAt xs i) (fcnt xs i) →
      (∀ s1, Moved (T :: wr) G s s1 → s1.heap.SetOf (strKind P w) T (sAt xs n) (fcnt xs n) → R (.ok (.ret .none)) s1) →
      codeAny (model P w) A (.builtin "set.update.loop" ⟨[.ref T, .ref it], []⟩) R s := by
  have hw : T ∉ wr := fun q => hT (W.sub _ q)
  have up : ∀ b ∈ wr, b ∈ T :: wr := fun b q => List.mem_cons_of_mem _ q
  induction m with
  | zero =>
    intro i s hm hi hz hset out
    obtain rfl : i = n := by omega
    refine codeAny_builtin F.entry_set_update_loop ?_
    rw [Around.under_plainId F.plain_set_update_loop _]
    show wpAny _ A.in1 (pyNext (.ref it) >>= _) _ _ s
    refine wpAny_bind (W.done s _ _ hz fun s1 mv => ?_)
    show wpAny _ A.in1 (ret Value.none) _ _ s1
    refine wpAny_pure (out s1 (mv.mono up) ?_)
    obtain ⟨o, es, ep, tb, ho, more⟩ := hset
    exact ⟨o, es, ep, tb, mv.heap T _ hw ho, more⟩
  | succ m ih =>
    intro i s hm hi hz hset out
    have lt : i < n := by omega
    refine codeAny_builtin F.entry_set_update_loop ?_
    rw [Around.under_plainId F.plain_set_update_loop _]
    show wpAny _ A.in1 (pyNext (.ref it) >>= _) _ _ s
    refine wpAny_bind (W.item i s _ _ lt hz fun v s1 hy hz1 mv => ?_)
    obtain ⟨tk, rfl⟩ := yl i v hy
    have set1 : s1.heap.SetOf (strKind P w) T (sAt xs i) (fcnt xs i) := by
      obtain ⟨o, es, ep, tb, ho, more⟩ := hset
      exact ⟨o, es, ep, tb, mv.heap T _ hw ho, more⟩
    show wpAny _ A.in1 (holding [Value.str (xs.getD i Str.empty) tk] (setAdd T (.str (xs.getD i Str.empty) tk)) >>= _) _ _ s1
    refine wpAny_bind (wpAny_holding ?_)
    unfold setAdd
    refine wpAny_holding (wpAny_bind ((strKind P w).pyHash (k := xs.getD i Str.empty) (strKind_is _ _ _ _) ?_))
    have fl := fcnt_le xs i
    refine wpAny_setAddHashed_of (knd := strKind P w) (s := { s1 with toks := s1.toks + 1 }) (strKind_is _ _ _ _) rfl set1 (by unfold scanBound; omega) fun h2 sb set2 => ?_
    have set3 : h2.SetOf (strKind P w) T (sAt xs (i + 1)) (fcnt xs (i + 1)) := by
      refine SetOf_congr set2 (fun k => ?_) (by rfl)
      have e : xs.getD i Str.empty = xs[i]'(by omega) := by simp [show i < xs.length by omega]
      have e2 : xs.take (i + 1) = xs.take i ++ [xs[i]'(by omega)] := by
        rw [List.take_add_one, List.getElem?_eq_getElem (by omega)]; rfl
      show (sAt xs i k || decide (k = xs.getD i Str.empty)) = (xs.take (i + 1)).any fun y => y == k
      rw [e2, List.any_append, e]
      show _ = (sAt xs i k || ([xs[i]'(by omega)].any fun y => y == k))
      congr 1
      by_cases q : k = xs[i]'(by omega)
      · rw [← q]; simp
      · have q2 : ((xs[i]'(by omega)) == k) = false := by simpa using fun z => q z.symm
        simp [q, q2]
    refine wpAny_pure ⟨plainId_quiet F.plain_set_update_loop _, ih (i + 1) _ (by omega) lt (W.frame _ s1 _ _ hz1 (Nat.le_succ _) fun b hb o e => ?_) set3 fun s3 mv3 set4 => ?_⟩
    · rw [sb.2 b fun z => hT (z ▸ hb)]; exact e
    · refine out s3 (Moved.trans W.gtrans ((mv.mono up).then_heap (Nat.le_succ _) fun b o hb e => ?_) mv3) set4
      rw [sb.2 b fun z => hb (z ▸ List.mem_cons_self)]; exact e
end
end SB

set_option Elab.async false
set_option linter.all false
set_option maxRecDepth 100000
set_option maxHeartbeats 8000000
namespace SB
open PySem PySem.Spec PyProof.Rows L2
section
variable {P : Program} {w : World} {A : Around} {E : Value → Shared → Prop} {s : Shared}
/-- an empty set that was just laid -/
abbrev set0 (led : Bool) : Obj := { cls := .type "set", dict := none, data := .set #[] 0 (.fresh 0 0 led) }
theorem set_init_tup {led : Bool} {l : Addr} {items : Array Value} {xs : List Str} {Q : Value → Shared → Prop} (hh : A.handled = none) (hl : s.heap.IsTuple l items) (hi : StrsAre items.toList xs) (hb : xs.length ≤ 1000)
    (k : ∀ (h1 : Heap) (tk : Nat), h1.SetOf (strKind P w) s.heap.objs.size (sAt xs xs.length) (fcnt xs xs.length) → (∀ b o, s.heap.get? b = some o → h1.get? b = some o) → Q .none { s with heap := h1, toks := tk }) :
    codeAny (model P w) A (.call (.builtin "set.__init__") ⟨[.ref s.heap.objs.size, .ref l], []⟩) (wants Q E) { s with heap := s.heap.push (set0 led) } := by
  have new : (s.heap.push (set0 led)).get? s.heap.objs.size = some (set0 led) := Heap.get?_push_size _ rfl
  have ty : Shared.TypeIs { s with heap := s.heap.push (set0 led) } (.ref s.heap.objs.size) "set" := ⟨_, new, rfl⟩
  refine codeAny_call_builtin F.called_set.init.plain F.entry_set_init (check_set_init_1 ty ?_)
  obtain ⟨ol, hol, hcl, nl, hdl⟩ := hl
  obtain ⟨oc, od, odt, osl⟩ := ol
  simp only at hcl hdl
  subst hcl; subst hdl
  have old : (s.heap.push (set0 led)).get? l = some { cls := .type "tuple", dict := od, data := .seq items nl, slots := osl } := Heap.get?_push_of_some _ hol
  have q1 := F.sub_tuple_set
  have q2 := F.sub_tuple_frozenset
  have q3 : (Value.type "tuple" == Value.type "dict") = false := by decide
  have tup1 : (s.heap.push (set0 led)).IsTuple l items := ⟨_, old, rfl, nl, rfl⟩
  unfold Builtin.«set.__init__» noKeywords Builtin.Frozenset.updateFrom
  generalize hp : pyIter = pit
  wp_walk
  subst hp
  refine wpAny_pyIter_tuple tup1 (wpAny_bind (wpAny_runValue ?_))
  have lt : l < s.heap.objs.size := Heap.lt_size hol
  have ne1 : l ≠ (s.heap.push (set0 led)).objs.size := by
    rw [Heap.size_push]; exact Nat.ne_of_lt (Nat.lt_succ_of_lt lt)
  have ne2 : s.heap.objs.size ∉ [(s.heap.push (set0 led)).objs.size, l] := by
    rw [Heap.size_push]
    intro z
    rcases List.mem_cons.mp z with z | z
    · exact absurd z (Nat.ne_of_lt (Nat.lt_succ_self _))
    · exact absurd (List.mem_singleton.mp z) (Nat.ne_of_gt lt)
  have sz : xs.length = items.size := by rw [← StrsAre.len_eq hi, Array.length_toList]
  have h3 : A.in1.in1.handled = none := by simp [hh]
  refine set_turns ((Walks.tuple h3 _ l ne1 items).toS) s.heap.objs.size ne2 xs sz (by omega) (fun i v hv => SS.strs_at hi i v (by rw [Array.getElem?_toList]; exact hv)) (items.size - 0) 0 _ (by omega) (Nat.zero_le _)
    ?c2 ?c0 ?c1
  case c2 => exact ⟨⟨_, Heap.get?_push_size _ rfl, rfl, rfl⟩, tup1.push _⟩
  case c0 =>
    have g : ((s.heap.push (set0 led)).push { cls := .type "tuple_iterator", data := .fields #[.ref l, .int 0 0] }).get? s.heap.objs.size = some (set0 led) := Heap.get?_push_of_some _ new
    exact SetOf_congr ((setObjOf_fresh (knd := strKind P w) led).setOf g (by unfold scanBound; omega)) (fun _ => rfl) rfl
  case c1 =>
    intro s1 mv set1
    obtain ⟨h1, g1, d1, tk1, os1⟩ := s1
    obtain rfl : g1 = s.gens := mv.gens
    obtain rfl : d1 = s.drawn := mv.drawn
    obtain rfl : os1 = s.os := mv.os
    show wpAny _ _ _ _ _ _
    refine wpAny_pure ?_
    show wpAny _ _ (ret Value.none) _ _ _
    rw [← sz] at set1
    refine wpAny_pure (k h1 tk1 set1 fun b o e => ?_)
    have b1 : b ≠ s.heap.objs.size := Nat.ne_of_lt (Heap.lt_size e)
    have b2 : b ≠ (s.heap.push (set0 led)).objs.size := by
      rw [Heap.size_push]; exact Nat.ne_of_lt (Nat.lt_succ_of_lt (Heap.lt_size e))
    refine mv.heap b o (fun z => ?_) (Heap.get?_push_of_some _ (Heap.get?_push_of_some _ e))
    rcases List.mem_cons.mp z with z | z
    · exact b1 z
    · exact b2 (List.mem_singleton.mp z)
theorem call_set_tup {l : Addr} {items : Array Value} {xs : List Str} {Q : Value → Shared → Prop} (hh : A.handled = none) (hl : s.heap.IsTuple l items) (hi : StrsAre items.toList xs) (hb : xs.length ≤ 1000)
    (k : ∀ (h1 : Heap) (tk : Nat), h1.SetOf (strKind P w) s.heap.objs.size (sAt xs xs.length) (fcnt xs xs.length) → (∀ b o, s.heap.get? b = some o → h1.get? b = some o) → Q (.ref s.heap.objs.size) { s with heap := h1, toks := tk }) :
    wpAny (model P w) A (call (.type "set") [.ref l]) Q E s := by
  obtain ⟨c, tl, mro⟩ := F.called_set.mro
  have made := F.called_set.made
  have sub := F.called_set.sub
  refine wpAny_call (codeAny_of_tree ?_)
  show wpAny _ _ (callAny (.type "set") _) _ _ _
  refine wpAny_pure ⟨Code.quiet_builtin _ (by decide +kernel), codeAny_builtin F.entry_type_call ?_⟩
  rw [Around.under_plain (weight_type_call_type "set" [.ref l] []) rfl]
  have z1 := F.called_set.notType
  have z2 := F.called_set.canCreate
  have z3 := F.typeCall_set_1 (.ref l)
  repeat (any_goals (first | assumption | wp_step))
  refine codeAny_mono (code_set_new_1 (.ref l) (E := E) (Q₁ := fun obj s1 => ∃ led : Bool, obj = .ref s.heap.objs.size ∧ s1 = { s with heap := s.heap.push (set0 led) }) fun led => ⟨led, rfl, rfl⟩) fun r s1 hr => ?_
  cases r with
  | error e => exact hr
  | ok fl =>
    cases fl with
    | ret obj =>
      obtain ⟨led, rfl, rfl⟩ := hr
      have li := F.called_set.init.lookup
      have bi := F.called_set.init.bind (.ref s.heap.objs.size)
      have new : (s.heap.push (set0 led)).get? s.heap.objs.size = some (set0 led) := Heap.get?_push_size _ rfl
      have ty : Shared.TypeIs { s with heap := s.heap.push (set0 led) } (.ref s.heap.objs.size) "set" := ⟨_, new, rfl⟩
      repeat (any_goals (first | assumption | wp_step))
      refine codeAny_mono (set_init_tup (s := s) (led := led) (P := P) (w := w) (E := E) (Q := fun r s2 => r = .none ∧ Q (.ref s.heap.objs.size) s2) (by simp [hh]) hl hi hb fun h1 tk a b => ⟨rfl, k h1 tk a b⟩) fun r2 s2 hr2 => ?_
      cases r2 with
      | error e => exact hr2
      | ok fl2 =>
        cases fl2 with
        | ret v =>
          obtain ⟨rfl, q⟩ := hr2
          repeat (any_goals (first | assumption | wp_step))
        | _ => exact hr2.elim
    | _ => exact hr.elim
end
/-- len(set(t)), t a tuple of texts -/
def tLenSetT (K : PySem.W.Frag) (ta : TE) : TE := fun σ H Q => ta σ H fun x H1 => ∃ (l : Addr) (xs : List Str), x = .ref l ∧ SqT K H1 l (xs.map V.str) ∧ xs.length ≤ 1000 ∧ Q (.int (fcnt xs xs.length : Nat)) H1
theorem pe_lenSetT {X : Cx} {a : Expr} {ta : TE} {p p2 q pos : Pos} (calm : X.calm = true) (gl : Gl X "len") (ml : X.mg "len" = none) (gs : Gl X "set") (ms : X.mg "set" = none) (ha : PE X a ta)
    (st : starEach [a] X.env = (false, eval a X.env) :: starEach [] X.env := by rfl) : PE X (.Call (.Name "len" p) [.Call (.Name "set" p2) [a] [] q] [] pos) (tLenSetT X.K ta) := by
  refine ⟨fun pins s σ H Q I h => ?_⟩
  refine Call_ (ld_blt I gl ml boot_len (callWith_builtin1 (args_cons ?_ rfl) rfl rfl))
  refine Call_ (ld_blt I gs ms boot_set ?_)
  refine callWith_type1 (args_cons (thn (ha.run pins s σ H _ I h) fun v s1 ⟨x, H1, I1, r1, y⟩ => args_nil ?_) st) st rfl
  obtain ⟨l, xs, rfl, hq, hb, y⟩ := y
  cases r1
  obtain ⟨its, r, pl, hz⟩ := I1.tuple hq
  refine call_set_tup (I1.ok.hd calm) pl (by simpa using strsAre_of r) hb fun h1 tk hs hk => args_nil ?_
  obtain ⟨o, es, ep, t, ho, hex, hd, _, _, _, hf, hn⟩ := hs
  have I2 : Inv X pins σ H1 { s1 with heap := h1, toks := tk } := I1.kept hk
  have fl := fcnt_le xs xs.length
  exact call_len_set ho hex hd hf (by rw [hn] <;> omega) ⟨.int (fcnt xs xs.length : Nat), H1, I2.tok _, ⟨_, by rw [hn]⟩, y⟩
end SB

set_option Elab.async false
set_option linter.all false
set_option maxRecDepth 100000
set_option maxHeartbeats 8000000
/-! set(list of texts), as SBset2 has it of a tuple -/
namespace SB
open PySem PySem.Spec PyProof.Rows L2
section
variable {P : Program} {w : World} {A : Around} {E : Value → Shared → Prop} {s : Shared}
theorem set_init_lst {led : Bool} {l : Addr} {items : Array Value} {xs : List Str} {Q : Value → Shared → Prop} (hh : A.handled = none) (hl : s.heap.IsList l items) (hi : StrsAre items.toList xs) (hb : xs.length ≤ 1000)
    (k : ∀ (h1 : Heap) (tk : Nat), h1.SetOf (strKind P w) s.heap.objs.size (sAt xs xs.length) (fcnt xs xs.length) → (∀ b o, s.heap.get? b = some o → h1.get? b = some o) → Q .none { s with heap := h1, toks := tk }) :
    codeAny (model P w) A (.call (.builtin "set.__init__") ⟨[.ref s.heap.objs.size, .ref l], []⟩) (wants Q E) { s with heap := s.heap.push (set0 led) } := by
  have new : (s.heap.push (set0 led)).get? s.heap.objs.size = some (set0 led) := Heap.get?_push_size _ rfl
  have ty : Shared.TypeIs { s with heap := s.heap.push (set0 led) } (.ref s.heap.objs.size) "set" := ⟨_, new, rfl⟩
  refine codeAny_call_builtin F.called_set.init.plain F.entry_set_init (check_set_init_1 ty ?_)
  obtain ⟨ol, hol, hcl, nl, hdl⟩ := hl
  obtain ⟨oc, od, odt, osl⟩ := ol
  simp only at hcl hdl
  subst hcl; subst hdl
  have old : (s.heap.push (set0 led)).get? l = some { cls := .type "list", dict := od, data := .seq items nl, slots := osl } := Heap.get?_push_of_some _ hol
  have q1 := F.sub_list_set
  have q2 := F.sub_list_frozenset
  have q3 : (Value.type "list" == Value.type "dict") = false := by decide
  have tup1 : (s.heap.push (set0 led)).IsList l items := ⟨_, old, rfl, nl, rfl⟩
  unfold Builtin.«set.__init__» noKeywords Builtin.Frozenset.updateFrom
  generalize hp : pyIter = pit
  wp_walk
  subst hp
  refine wpAny_pyIter_list tup1 (wpAny_bind (wpAny_runValue ?_))
  have lt : l < s.heap.objs.size := Heap.lt_size hol
  have ne1 : l ≠ (s.heap.push (set0 led)).objs.size := by
    rw [Heap.size_push]; exact Nat.ne_of_lt (Nat.lt_succ_of_lt lt)
  have ne2 : s.heap.objs.size ∉ [(s.heap.push (set0 led)).objs.size, l] := by
    rw [Heap.size_push]
    intro z
    rcases List.mem_cons.mp z with z | z
    · exact absurd z (Nat.ne_of_lt (Nat.lt_succ_self _))
    · exact absurd (List.mem_singleton.mp z) (Nat.ne_of_gt lt)
  have sz : xs.length = items.size := by rw [← StrsAre.len_eq hi, Array.length_toList]
  have h3 : A.in1.in1.handled = none := by simp [hh]
  refine set_turns ((Walks.list h3 _ l ne1 items).toS) s.heap.objs.size ne2 xs sz (by omega) (fun i v hv => SS.strs_at hi i v (by rw [Array.getElem?_toList]; exact hv)) (items.size - 0) 0 _ (by omega) (Nat.zero_le _)
    ?c2 ?c0 ?c1
  case c2 => exact ⟨⟨_, Heap.get?_push_size _ rfl, rfl, rfl⟩, tup1.push _⟩
  case c0 =>
    have g : ((s.heap.push (set0 led)).push { cls := .type "list_iterator", data := .fields #[.ref l, .int 0 0] }).get? s.heap.objs.size = some (set0 led) := Heap.get?_push_of_some _ new
    exact SetOf_congr ((setObjOf_fresh (knd := strKind P w) led).setOf g (by unfold scanBound; omega)) (fun _ => rfl) rfl
  case c1 =>
    intro s1 mv set1
    obtain ⟨h1, g1, d1, tk1, os1⟩ := s1
    obtain rfl : g1 = s.gens := mv.gens
    obtain rfl : d1 = s.drawn := mv.drawn
    obtain rfl : os1 = s.os := mv.os
    show wpAny _ _ _ _ _ _
    refine wpAny_pure ?_
    show wpAny _ _ (ret Value.none) _ _ _
    rw [← sz] at set1
    refine wpAny_pure (k h1 tk1 set1 fun b o e => ?_)
    have b1 : b ≠ s.heap.objs.size := Nat.ne_of_lt (Heap.lt_size e)
    have b2 : b ≠ (s.heap.push (set0 led)).objs.size := by
      rw [Heap.size_push]; exact Nat.ne_of_lt (Nat.lt_succ_of_lt (Heap.lt_size e))
    refine mv.heap b o (fun z => ?_) (Heap.get?_push_of_some _ (Heap.get?_push_of_some _ e))
    rcases List.mem_cons.mp z with z | z
    · exact b1 z
    · exact b2 (List.mem_singleton.mp z)
theorem call_set_lst {l : Addr} {items : Array Value} {xs : List Str} {Q : Value → Shared → Prop} (hh : A.handled = none) (hl : s.heap.IsList l items) (hi : StrsAre items.toList xs) (hb : xs.length ≤ 1000)
    (k : ∀ (h1 : Heap) (tk : Nat), h1.SetOf (strKind P w) s.heap.objs.size (sAt xs xs.length) (fcnt xs xs.length) → (∀ b o, s.heap.get? b = some o → h1.get? b = some o) → Q (.ref s.heap.objs.size) { s with heap := h1, toks := tk }) :
    wpAny (model P w) A (call (.type "set") [.ref l]) Q E s := by
  obtain ⟨c, tl, mro⟩ := F.called_set.mro
  have made := F.called_set.made
  have sub := F.called_set.sub
  refine wpAny_call (codeAny_of_tree ?_)
  show wpAny _ _ (callAny (.type "set") _) _ _ _
  refine wpAny_pure ⟨Code.quiet_builtin _ (by decide +kernel), codeAny_builtin F.entry_type_call ?_⟩
  rw [Around.under_plain (weight_type_call_type "set" [.ref l] []) rfl]
  have z1 := F.called_set.notType
  have z2 := F.called_set.canCreate
  have z3 := F.typeCall_set_1 (.ref l)
  repeat (any_goals (first | assumption | wp_step))
  refine codeAny_mono (code_set_new_1 (.ref l) (E := E) (Q₁ := fun obj s1 => ∃ led : Bool, obj = .ref s.heap.objs.size ∧ s1 = { s with heap := s.heap.push (set0 led) }) fun led => ⟨led, rfl, rfl⟩) fun r s1 hr => ?_
  cases r with
  | error e => exact hr
  | ok fl =>
    cases fl with
    | ret obj =>
      obtain ⟨led, rfl, rfl⟩ := hr
      have li := F.called_set.init.lookup
      have bi := F.called_set.init.bind (.ref s.heap.objs.size)
      have new : (s.heap.push (set0 led)).get? s.heap.objs.size = some (set0 led) := Heap.get?_push_size _ rfl
      have ty : Shared.TypeIs { s with heap := s.heap.push (set0 led) } (.ref s.heap.objs.size) "set" := ⟨_, new, rfl⟩
      repeat (any_goals (first | assumption | wp_step))
      refine codeAny_mono (set_init_lst (s := s) (led := led) (P := P) (w := w) (E := E) (Q := fun r s2 => r = .none ∧ Q (.ref s.heap.objs.size) s2) (by simp [hh]) hl hi hb fun h1 tk a b => ⟨rfl, k h1 tk a b⟩) fun r2 s2 hr2 => ?_
      cases r2 with
      | error e => exact hr2
      | ok fl2 =>
        cases fl2 with
        | ret v =>
          obtain ⟨rfl, q⟩ := hr2
          repeat (any_goals (first | assumption | wp_step))
        | _ => exact hr2.elim
    | _ => exact hr.elim
end
/-- len(set(t)), t a list of texts -/
def tLenSetL (K : PySem.W.Frag) (ta : TE) : TE := fun σ H Q => ta σ H fun x H1 => ∃ (l : Addr) (xs : List Str), x = .ref l ∧ SqL K H1 l (xs.map V.str) ∧ xs.length ≤ 1000 ∧ Q (.int (fcnt xs xs.length : Nat)) H1
theorem pe_lenSetL {X : Cx} {a : Expr} {ta : TE} {p p2 q pos : Pos} (calm : X.calm = true) (gl : Gl X "len") (ml : X.mg "len" = none) (gs : Gl X "set") (ms : X.mg "set" = none) (ha : PE X a ta)
    (st : starEach [a] X.env = (false, eval a X.env) :: starEach [] X.env := by rfl) : PE X (.Call (.Name "len" p) [.Call (.Name "set" p2) [a] [] q] [] pos) (tLenSetL X.K ta) := by
  refine ⟨fun pins s σ H Q I h => ?_⟩
  refine Call_ (ld_blt I gl ml boot_len (callWith_builtin1 (args_cons ?_ rfl) rfl rfl))
  refine Call_ (ld_blt I gs ms boot_set ?_)
  refine callWith_type1 (args_cons (thn (ha.run pins s σ H _ I h) fun v s1 ⟨x, H1, I1, r1, y⟩ => args_nil ?_) st) st rfl
  obtain ⟨l, xs, rfl, hq, hb, y⟩ := y
  cases r1
  obtain ⟨its, r, pl, hz⟩ := I1.list hq
  refine call_set_lst (I1.ok.hd calm) pl.isList (by simpa using strsAre_of r) hb fun h1 tk hs hk => args_nil ?_
  obtain ⟨o, es, ep, t, ho, hex, hd, _, _, _, hf, hn⟩ := hs
  have I2 : Inv X pins σ H1 { s1 with heap := h1, toks := tk } := I1.kept hk
  have fl := fcnt_le xs xs.length
  exact call_len_set ho hex hd hf (by rw [hn] <;> omega) ⟨.int (fcnt xs xs.length : Nat), H1, I2.tok _, ⟨_, by rw [hn]⟩, y⟩
theorem r_lenSetL {K : PySem.W.Frag} {ta : TE} {σ : L2.St} {H : Hp} {Q : VK} (h : ta σ H fun x H1 => ∃ (l : Addr) (xs : List Str), x = .ref l ∧ SqL K H1 l (xs.map V.str) ∧ xs.length ≤ 1000 ∧ Q (.int (fcnt xs xs.length : Nat)) H1) : tLenSetL K ta σ H Q := h
theorem k_lenSetL {X : Cx} (K : PySem.W.Frag) (e : X.K = K) {a : Expr} {ta : TE} {p p2 q pos : Pos} (calm : X.calm = true) (gl : Gl X "len") (ml : X.mg "len" = none) (gs : Gl X "set") (ms : X.mg "set" = none) (ha : PE X a ta)
    (st : starEach [a] X.env = (false, eval a X.env) :: starEach [] X.env := by rfl) : PE X (.Call (.Name "len" p) [.Call (.Name "set" p2) [a] [] q] [] pos) (tLenSetL K ta) := e ▸ pe_lenSetL calm gl ml gs ms ha st
end SB

set_option Elab.async false
set_option linter.all false
set_option maxRecDepth 100000
set_option maxHeartbeats 4000000
/-! own __contains__, __getitem__, __len__, __eq__ -/
namespace SB
open PySem PySem.Spec PyProof.Rows L2
section
variable {X : Cx} {CX : CXT} {k : Nat} {f C : Addr} {fd : FuncData} {ps : List Str} {sp : Sp} {E : XK}
theorem rv_ref {a : Addr} : L2.RelV (.ref a) (.ref a) := rfl
/-- a callee called at an inner place of the body -/
theorem run_at {A : Around} {pins : List (Addr × Obj)} {σ : L2.St} {H : Hp} {s : Shared} {Q : VK} {us : List Value} {vs : List V} (fr : A.frames = X.A.frames) (F : FnOk X.prog X.w X.K X.mg X.base CX k f fd ps sp) (hr : Room k A) (hb : Binds X.K fd ps []) (hx : Passes CX X E)
    (I : Inv X pins σ H s) (r : Vals vs us) (h : sp vs H Q E) : wpAny (model X.prog X.w) A (call (.ref f) us) (EP X pins σ Q) X.xe s := by
  have hl : us.length = ps.length := by rw [← r.length]; exact F.len _ _ _ _ h
  have e0 : Env0 X.prog X.w X.K X.mg X.base A X.stack s H := by
    have e := I.env0
    exact ⟨by rw [fr]; exact e.frames, e.mod, e.bs, e.bsz, e.funs, e.frf, e.hok, e.bare⟩
  have hb2 := hb s us I.kIn (by simpa using hl)
  rw [List.append_nil] at hb2
  refine wpAny_call (codeAny_mono (F.run A X.stack s H ⟨us, []⟩ us vs Q E hr e0 hb2 r h) fun r2 s2 hq => ?_)
  cases r2 with
  | error e => exact hx pins σ H s e s2 I hq
  | ok fl =>
    cases fl with
    | ret u => exact I.after hq
    | next => exact False.elim hq
    | brk => exact False.elim hq
    | cont => exact False.elim hq
/-- an own method that stands for an operator -/
structure Dun (K : PySem.W.Frag) (C : Addr) (n : Str) (f : Addr) : Prop where
  at_ : PySem.W.findIn K (.ref C) n = some (some (.ref f))
  fn : PySem.W.isFn K (.ref f) = true
theorem inst_of {pins : List (Addr × Obj)} {σ : L2.St} {H : Hp} {s : Shared} {a dx : Addr} {fs : List (Str × V)} (I : Inv X pins σ H s) (ha : H a = some (.ins C dx fs)) : ∃ (ox : Obj) (od : Option Obj), PySem.W.InstAt s.heap a ox C od := by
  obtain ⟨mA, J, _⟩ := ins_get I.hok ha
  obtain ⟨od, J, _⟩ := J.look
  exact ⟨_, _, J⟩
/-- x in o, o with its own __contains__ -/
def rInO (C : Addr) (sp : Sp) (E : XK) (neg : Bool) : R2 := fun x y H Q => ∃ a dx fs, y = .ref a ∧ H a = some (.ins C dx fs) ∧ sp [.ref a, x] H (fun v H2 => ∃ b, v = .bl b ∧ Q (.bl (if neg then !b else b)) H2) E
theorem op_inO (D : Dun X.K C "__contains__" f) (F : FnOk X.prog X.w X.K X.mg X.base CX k f fd ps sp) (hr : Room k X.A) (hb : Binds X.K fd ps []) (hx : Passes CX X E) : OpR X (compareOp .In) (rInO C sp E false) := by
  intro pins s σ H x y v u Q I rx ry h
  obtain ⟨a, dx, fs, rfl, ha, q⟩ := h
  cases ry
  obtain ⟨ox, od, J⟩ := inst_of I ha
  obtain ⟨m, hF⟩ := I.fr
  refine PySem.W.in_K hF I.ok.mod.kin J D.at_ D.fn (wpAny_mono (run_at rfl F hr hb hx I (.cons (rv_ref (a := a)) (.cons rx .nil)) q) (fun r s2 z => ?_) fun _ _ z => z)
  obtain ⟨w, H2, I2, rw', b, rfl, q2⟩ := z
  cases rw'
  exact wpAny_truthy_bool ⟨.bl b, H2, I2, rfl, q2⟩
theorem op_notInO (D : Dun X.K C "__contains__" f) (F : FnOk X.prog X.w X.K X.mg X.base CX k f fd ps sp) (hr : Room k X.A) (hb : Binds X.K fd ps []) (hx : Passes CX X E) : OpR X (compareOp .NotIn) (rInO C sp E true) := by
  intro pins s σ H x y v u Q I rx ry h
  obtain ⟨a, dx, fs, rfl, ha, q⟩ := h
  cases ry
  obtain ⟨ox, od, J⟩ := inst_of I ha
  obtain ⟨m, hF⟩ := I.fr
  refine PySem.W.notIn_K hF I.ok.mod.kin J D.at_ D.fn (wpAny_mono (run_at rfl F hr hb hx I (.cons (rv_ref (a := a)) (.cons rx .nil)) q) (fun r s2 z => ?_) fun _ _ z => z)
  obtain ⟨w, H2, I2, rw', b, rfl, q2⟩ := z
  cases rw'
  exact wpAny_truthy_bool ⟨.bl (!b), H2, I2, rfl, q2⟩
/-- o[x], o with its own __getitem__ -/
def tSubO (C : Addr) (sp : Sp) (E : XK) (ta tb : TE) : TE := fun σ H Q => ta σ H fun y H1 => tb σ H1 fun x H2 => ∃ a dx fs, y = .ref a ∧ H2 a = some (.ins C dx fs) ∧ sp [.ref a, x] H2 Q E
theorem pe_subO {a b : Expr} {ta tb : TE} {pos : Pos} (D : Dun X.K C "__getitem__" f) (fi : PySem.W.fnIn X.K f = true) (F : FnOk X.prog X.w X.K X.mg X.base CX k f fd ps sp) (hr : Room (k + 1) X.A) (hb : Binds X.K fd ps []) (hx : Passes CX X E) (ha : PE X a ta) (hb2 : PE X b tb)
    (hsl : ∀ o i, subscripted b true o i = runValue (.builtin "lifetime.subscript" ⟨[o, i], []⟩) := by intro _ _; rfl) : PE X (.Subscript a b pos) (tSubO C sp E ta tb) := by
  refine ⟨fun pins s σ H Q I h => ?_⟩
  refine Subscript_ (binT ha hb2 I h fun v u s2 x y H2 I2 rx ry z => ?_)
  obtain ⟨p, dx, fs, rfl, hp, q⟩ := z
  cases rx
  obtain ⟨ox, od, J⟩ := inst_of I2 hp
  obtain ⟨m, hF⟩ := I2.fr
  exact PySem.W.sub_K hF I2.ok.mod.kin J D.at_ fi D.fn (run_at rfl F hr.in1 hb hx I2 (.cons (rv_ref (a := p)) (.cons ry .nil)) q) (hsl _ _)
/-- len(o), o with its own __len__ -/
def rLenO (C : Addr) (sp : Sp) (E : XK) : List V → Hp → VK → Prop := fun xs H Q => ∃ a dx fs, xs = [.ref a] ∧ H a = some (.ins C dx fs) ∧ sp [.ref a] H (fun v H2 => ∃ n : Int, v = .int n ∧ 0 ≤ n ∧ n < 2 ^ 63 ∧ Q (.int n) H2) E
theorem call_lenO (D : Dun X.K C "__len__" f) (F : FnOk X.prog X.w X.K X.mg X.base CX k f fd ps sp) (hr : Room (k + 1) X.A) (hb : Binds X.K fd ps []) (hx : Passes CX X E) : CallR X (.builtin "len") (rLenO C sp E) := by
  intro pins s σ H xs us Q I r h
  obtain ⟨a, dx, fs, rfl, ha, q⟩ := h
  cases r with
  | cons r1 r2 =>
    cases r1; cases r2
    obtain ⟨ox, od, J⟩ := inst_of I ha
    obtain ⟨m, hF⟩ := I.fr
    refine PySem.W.len_K hF I.ok.mod.kin J D.at_ D.fn (wpAny_mono (run_at rfl F hr.in1 hb hx I (.cons (rv_ref (a := a)) .nil) q) (fun r s2 z => ?_) fun _ _ z => z)
    obtain ⟨w, H2, I2, rw', n, rfl, h0, h1, q2⟩ := z
    obtain ⟨t, rfl⟩ := rw'
    exact ⟨⟨h0, h1⟩, ⟨.int n, H2, I2.tok _, ⟨_, rfl⟩, q2⟩⟩
/-- o == x, o with its own __eq__; x of a type that does not stand below C, or C itself -/
def rEqO (K : PySem.W.Frag) (C : Addr) (sp : Sp) (E : XK) : R2 := fun x y H Q => ∃ a dx fs t, x = .ref a ∧ H a = some (.ins C dx fs) ∧ TyX K H y t ∧ PySem.W.notFirst K C t = true ∧ sp [.ref a, y] H (fun v H2 => ∃ b, v = .bl b ∧ Q (.bl b) H2) E
theorem op_eqO (D : Dun X.K C "__eq__" f) (F : FnOk X.prog X.w X.K X.mg X.base CX k f fd ps sp) (hr : Room k X.A) (hb : Binds X.K fd ps []) (hx : Passes CX X E) : OpR X (compareOp .Eq) (rEqO X.K C sp E) := by
  intro pins s σ H x y v u Q I rx ry h
  obtain ⟨a, dx, fs, t, rfl, ha, ty, nf, q⟩ := h
  cases rx
  obtain ⟨ox, od, J⟩ := inst_of I ha
  obtain ⟨m, hF⟩ := I.fr
  obtain ⟨Pr, Z, p, hne⟩ := kit_of I ry ty
  show wpAny (model X.prog X.w) X.A (richCompare .Eq (.ref a) u) (EP X pins σ Q) X.xe s
  refine PySem.W.cmp_K (op := .Eq) hr.units0 hF I.ok.mod.kin J (Z.ty _ _ I.kIn p) nf D.at_ D.fn (wpAny_mono (run_at rfl F hr hb hx I (.cons (rv_ref (a := a)) (.cons ry .nil)) q) (fun r s2 z => ?_) fun _ _ z => z)
  obtain ⟨w, H2, I2, rw', b, rfl, q2⟩ := z
  cases rw'
  exact ⟨.bl b, H2, I2, rfl, q2⟩
end
end SB

set_option Elab.async false
set_option linter.all false
set_option maxRecDepth 100000
set_option maxHeartbeats 4000000
/-! the program's own errors: made, raised, their one value read -/
namespace SB
open PySem PySem.Spec PyProof.Rows L2 Evl
/-- the base class of the errors, as the top leaves it -/
structure LdC (K : PySem.W.Frag) (mg : Str → Option Value) (L : Addr) : Prop where
  g : mg "LoadError" = some (.ref L)
  ga : PySem.W.specialIn K (.ref L) "__getattribute__" = some (some (.builtin "type.__getattribute__"))
  rd : PySem.W.readsIn K L (.type "type") = true
  fc : PySem.W.findCls K (.ref L) (.type "type") "__init__" = some (.val (.builtin "ValueError.__init__"))
section
variable {X : Cx} {e : Expr} {es : List Expr} {ta : TA} {p1 p2 pos : Pos} {L : Addr}
/-- LoadError.__init__(self, ..) -/
theorem pe_linit {pl : Sem Bool} (T : LdC X.K X.mg L) (gl : Gl X "LoadError") (ha : PA X (e :: es) ta)
    (hc : eval (.Call (.Attribute (.Name "LoadError" p1) "__init__" p2) (e :: es) [] pos) X.env = (do
      let o ← eval (.Name "LoadError" p1) X.env
      standAt p2.atName
      let (g, fst) ← holding [o] (getMethod o "__init__" pl)
      callWith pos g fst (backTo pos (starEach (e :: es) X.env)) (backToKw pos (keywordEach [] X.env))) := by rfl)
    (st : starEach (e :: es) X.env = (false, eval e X.env) :: starEach es X.env := by rfl) (pn : (backTo pos (starEach es X.env)).any (·.1) = false := by rfl) :
    PE X (.Call (.Attribute (.Name "LoadError" p1) "__init__" p2) (e :: es) [] pos) (tVeI X.K ta) := by
  refine ⟨fun pins s σ H Q I h => PySem.W.methodCall_KW (ld_glob I gl T.g ?_) hc⟩
  refine PySem.W.method_cls I.kIn T.ga (PySem.W.cls_value I.kIn T.rd T.fc (by decide +kernel) ?_)
  show wpAny _ _ (callWith pos (Value.builtin "ValueError.__init__") [] (backTo pos (starEach (e :: es) X.env)) []) _ _ _
  refine callWith_method1 (thn (ha.run pos pins _ σ H _ (I.tok _) h) fun us s1 ⟨vs, H1, I1, r1, a, C, ws, ev, hl, T2, ea, q⟩ => ?_) st pn
  subst ev
  cases r1 with
  | @cons _ u0 _ ur ra rw' =>
    obtain rfl : u0 = Value.ref a := ra
    refine oinit_ok T2 I1 ea ?_ fun s2 J => ⟨.non, H1, J, rfl, q⟩
    rw [← Paired.length rw', sizeLine_eq]
    omega
end
/-- what an error's __init__ does: its one value is kept under f -/
def spXi (K : PySem.W.Frag) (C : Addr) (f : Str) : Sp := fun vs H Q _ => ∃ (a : Addr) (v : V), vs = [.ref a, v] ∧ H a = some (exo a C none) ∧
  ∀ dx, H dx = none → dx ≠ a → Q .non (upd (upd H dx (exd dx [(f, v)])) a (exo a C (some dx)))
/-- an error class of the program: its maker keeps f -/
structure XC (K : PySem.W.Frag) (mg : Str → Option Value) (x : Str) (f : Str) (C fi : Addr) : Prop where
  g : mg x = some (.ref C)
  o : OexC K C
  i : PySem.W.findIn K (.ref C) "__init__" = some (some (.ref fi))
  t : PySem.W.typeIn K (.ref fi) = some (.type "function")
  no : PySem.W.findIn K (.ref C) f = some none
  xf : XfC K C
  te : PySem.W.exmOne K (.ref C) (.ref C) = some true
/-- X(e): the new error's class and its dict -/
def tMkX (C : Addr) (f : Str) (ta : TA) : L2.St → Hp → XK → Prop := fun σ H Q => ta σ H fun vs H1 => ∃ v, vs = [v] ∧ ∀ d H2, Ex H1 H2 → H1 d = none → H2 d = some (.xd [(f, v)]) → Q (.ref C) (some d) H2
section
variable {X : Cx} {x f : Str} {C fi : Addr} {fd : FuncData} {k : Nat} {p pos : Pos} {e : Expr} {ta : TA}
/-- arguments, by any wish that implies -/
def tMonoA (t : TA) : TA := fun σ H Q => ∃ Q0 : List V → Hp → Prop, t σ H Q0 ∧ ∀ vs H1, Q0 vs H1 → Q vs H1
theorem pa_mono {es : List Expr} {t : TA} (h : PA X es t) : PA X es (tMonoA t) := by
  refine ⟨fun pos pins s σ H Q I z => ?_⟩
  obtain ⟨Q0, z, m⟩ := z
  exact thn (h.run pos pins s σ H Q0 I z) fun us s1 ⟨vs, H1, I1, r, q⟩ => ⟨vs, H1, I1, r, m vs H1 q⟩
theorem exd_ne {a e C : Addr} {d : Option Addr} {fs : List (Str × V)} {H : Hp} (h : H a = none) (he : H e = some (exo e C d)) : e ≠ a := fun z => by
  rw [z, h] at he; cases he
theorem pmk_x (T : XC X.K X.mg x f C fi) (F1 : FnOk X.prog X.w X.K X.mg X.base CX0 k fi fd ["self", f] (spXi X.K C f)) (hr : Room (k + 1) X.A) (hb : Binds X.K fd ["self", f] []) (ha : PA X [e] ta) (gl : Gl X x)
    (hdb : (x == ("__debug__" : Str)) = false := by decide) (he : starEach (e :: []) X.env = (false, eval e X.env) :: starEach [] X.env := by rfl) (hpl : (backTo pos (starEach [] X.env)).any (·.1) = false := by rfl) :
    PMk X (.Call (.Name x p) [e] [] pos) (tMkX C f ta) := by
  intro pins s σ H Q I h
  refine pmk_oex T.o T.i T.t F1 hr hb .nil pass0 gl T.g (pa_mono ha) hdb he hpl pins s σ H Q I ⟨_, h, fun vs H1 z => ?_⟩
  obtain ⟨v, rfl, q⟩ := z
  refine ⟨by show 1 ≤ 1000; decide, fun a na => ⟨a, v, rfl, upd_same, fun dx ndx ne => ⟨rfl, dx, [(f, v)], upd_same, ?_, ?_, ?_⟩⟩⟩
  · rw [upd_ne ne, upd_same]
  · rw [upd_ne ne] at ndx; exact ndx
  · have nd : H1 dx = none := by rw [upd_ne ne] at ndx; exact ndx
    refine q dx _ (fun b o hb => ?_) nd upd_same
    have b1 : b ≠ dx := ne_of_none hb nd
    have b2 : b ≠ a := ne_of_none hb na
    rw [upd_ne b1, del_ne b2, upd_ne b2, upd_ne b1, upd_ne b2]
    exact hb
end
end SB

set_option Elab.async false
set_option linter.all false
set_option maxRecDepth 100000
set_option maxHeartbeats 4000000
/-! readings step by step -/
namespace SB
open PySem L2 Evl
/-! ### the frozen part of a heap: G stands in H, and no m of M is in it -/
structure Fz (M : List Addr) (G H : Hp) : Prop where
  ex : Ex G H
  out : ∀ m ∈ M, G m = none
theorem Fz.up {M : List Addr} {G H H1 : Hp} (z : Fz M G H) (e : Ex H H1) : Fz M G H1 := ⟨z.ex.trans e, z.out⟩
theorem Fz.to {M : List Addr} {G H H1 : Hp} (z : Fz M G H) (e : ∀ b o, b ∉ M → H b = some o → H1 b = some o) : Fz M G H1 :=
  ⟨fun b o h => e b o (fun hm => by rw [z.out b hm] at h; cases h) (z.ex b o h), z.out⟩
/-- all that stands but M -/
def wo (M : List Addr) (H : Hp) : Hp := fun a => if a ∈ M then none else H a
theorem wo_fz (M : List Addr) (H : Hp) : Fz M (wo M H) H := ⟨fun b o h => by
  unfold wo at h
  split at h
  · cases h
  · exact h, fun m hm => by unfold wo; rw [if_pos hm]⟩
theorem wo_at {M : List Addr} {H : Hp} {a : Addr} {o : HO} (h : H a = some o) (hm : a ∉ M) : wo M H a = some o := by unfold wo; rw [if_neg hm]; exact h
theorem Fz.wo {M : List Addr} {G H : Hp} (z : Fz M G H) : Ex G (SB.wo M H) := fun b o h => wo_at (z.ex b o h) fun hm => by rw [z.out b hm] at h; cases h
/-- what is new in H1 joins the frozen part -/
theorem Fz.grow {M : List Addr} {G H H1 : Hp} (z : Fz M G H) (e : Ex H H1) (hM : ∀ m ∈ M, H m ≠ none) : ∃ G1, Ex G G1 ∧ Fz M G1 H1 ∧ ∀ b o, H b = none → H1 b = some o → G1 b = some o :=
  ⟨SB.wo M H1, (z.up e).wo, wo_fz M H1, fun b o hn hb => wo_at hb fun hm => hM b hm hn⟩

section
variable {σ : L2.St} {H : Hp} {D : Ends} {t u : TS} {te ta tb : TE} {tA tB : TA} {tt : TT} {g : TG} {Q : VK} {QA : List V → Hp → Prop} {QT : Bool → Hp → Prop} {i : Nat} {v : V} {r : R2} {K : PySem.W.Frag}
theorem r_seq (h : t { D with nx := u D } σ H) : tSeq t u D σ H := h
theorem r_next (h : D.nx σ H) : tNext D σ H := h
theorem r_asg (h : te σ H fun x H1 => g x σ H1 D.nx) : tAsg te g D σ H := h
theorem r_name {Q : L2.St → Hp → Prop} (h : Q (σ.set i (some v)) H) : gName i v σ H Q := h
theorem r_ret (h : te σ H D.rt) : tRet te D σ H := h
theorem r_retN (h : D.rt .non H) : tRetN D σ H := h
theorem r_drop (h : te σ H fun _ H1 => D.nx σ H1) : tDrop te D σ H := h
theorem r_if (h : tt σ H fun b H1 => if b = true then t D σ H1 else u D σ H1) : tIfS tt t u D σ H := h
theorem r_var (h : σ[i]? = some (some v)) (q : Q v H) : tVar i σ H Q := ⟨v, h, q⟩
theorem r_c (q : Q v H) : tC v σ H Q := q
theorem r_op (h : ta σ H fun x H1 => tb σ H1 fun y H2 => r x y H2 Q) : tOp r ta tb σ H Q := h
theorem r_un {r : V → Hp → VK → Prop} (h : ta σ H fun x H1 => r x H1 Q) : tUn r ta σ H Q := h
theorem r_nil (h : QA [] H) : tNil σ H QA := h
theorem r_cons (h : ta σ H fun x H1 => tA σ H1 fun xs H2 => QA (x :: xs) H2) : tCons ta tA σ H QA := h
theorem r_CB {r : List V → Hp → VK → Prop} (h : tA σ H fun vs H1 => r vs H1 Q) : tCB r tA σ H Q := h
theorem r_call {sp : Sp} {dvs : List V} {E : XK} (h : tA σ H fun vs H1 => sp (vs ++ dvs) H1 Q E) : tCall sp dvs E tA σ H Q := h
theorem r_test {te : TE} (h : te σ H fun x H1 => ∃ k, x = .bl k ∧ QT k H1) : tTest te σ H QT := h
theorem r_B {te : TE} (h : te σ H fun x H1 => ∃ k, x = .bl k ∧ QT k H1) : L2.tB te σ H QT := h
theorem r_not {tt : TT} (h : tt σ H fun c H1 => QT (!c) H1) : tNot tt σ H QT := h
theorem r_and {tt uu : TT} (h : tt σ H fun c H1 => if c = true then uu σ H1 QT else QT false H1) : tAnd tt uu σ H QT := h
theorem r_or {tt uu : TT} (h : tt σ H fun c H1 => if c = true then QT true H1 else uu σ H1 QT) : tOr tt uu σ H QT := h
theorem r_notV (h : ta σ H fun x H1 => ∃ c, x = .bl c ∧ Q (.bl (!c)) H1) : tNotV ta σ H Q := h
theorem r_andV (h : ta σ H fun x H1 => ∃ c, x = .bl c ∧ if c = true then tb σ H1 Q else Q (.bl false) H1) : tAndV ta tb σ H Q := h
theorem r_orV (h : ta σ H fun x H1 => ∃ c, x = .bl c ∧ if c = true then Q (.bl true) H1 else tb σ H1 Q) : tOrV ta tb σ H Q := h
theorem r_ifE {tt : TT} (h : tt σ H fun c H1 => if c = true then ta σ H1 Q else tb σ H1 Q) : tIf tt ta tb σ H Q := h
theorem r_bl {c : Bool} {P : Bool → Prop} (h : P c) : ∃ k, V.bl c = .bl k ∧ P k := ⟨c, rfl, h⟩
/-- int op int -/
theorem r_I0 {g : Int → Int → V} {a b : Int} (h : Q (g a b) H) : rI0 g (.int a) (.int b) H Q := ⟨a, b, rfl, rfl, h⟩
theorem r_I {C : Int → Int → Prop} {g : Int → Int → V} {a b : Int} (c : C a b) (h : Q (g a b) H) : rI C g (.int a) (.int b) H Q := ⟨a, b, rfl, rfl, c, h⟩
theorem r_eq {x y : V} (s : scal x y = true) (h : Q (.bl (decide (x = y))) H) : rEq x y H Q := ⟨s, h⟩
theorem r_ne {x y : V} (s : scal x y = true) (h : Q (.bl (!decide (x = y))) H) : rNe x y H Q := ⟨s, h⟩
/-- new lists and tuples -/
theorem r_lst (h : tA σ H fun xs H1 => xs.length ≤ 100000 ∧ ∀ p H2, H1 p = none → Ex H1 H2 → H2 p = some (.lst xs) → Q (.ref p) H2) : tLst (tMonoA tA) σ H Q :=
  ⟨_, h, fun xs H1 z => ⟨sz_of z.1, fun p hp => z.2 p _ hp (Ex.new hp) upd_same⟩⟩
theorem r_iteT {A B : Prop} {c : Bool} (hc : c = true) (h : A) : if c = true then A else B := by rw [if_pos hc]; exact h
theorem r_iteF {A B : Prop} {c : Bool} (hc : c = false) (h : B) : if c = true then A else B := by rw [hc, if_neg Bool.false_ne_true]; exact h
theorem r_ite {A B : Prop} {c : Bool} (h1 : c = true → A) (h2 : c = false → B) : if c = true then A else B := by
  cases c with
  | true => exact iteT (h1 rfl)
  | false => exact iteF (h2 rfl)
/-- the size premise of a new list or tuple, and the new place -/
theorem r_new {xs : List V} {o : HO} {H1 : Hp} (hl : xs.length ≤ 100000) (q : ∀ p H2, H1 p = none → Ex H1 H2 → H2 p = some o → Q (.ref p) H2) : xs.length ≤ sizeLine ∧ ∀ p, H1 p = none → Q (.ref p) (upd H1 p o) :=
  ⟨sz_of hl, fun p hp => q p _ hp (Ex.new hp) upd_same⟩
theorem r_new0 {o : HO} {H1 : Hp} (q : ∀ p H2, H1 p = none → Ex H1 H2 → H2 p = some o → Q (.ref p) H2) : ∀ p, H1 p = none → Q (.ref p) (upd H1 p o) := fun p hp => q p _ hp (Ex.new hp) upd_same
theorem r_tupT (h : tA σ H fun xs H1 => xs.length ≤ sizeLine ∧ ∀ p, H1 p = none → Q (.ref p) (upd H1 p (.tup xs))) : tTup tA σ H Q := h
theorem r_lstT (h : tA σ H fun xs H1 => xs.length ≤ sizeLine ∧ ∀ p, H1 p = none → Q (.ref p) (upd H1 p (.lst xs))) : tLst tA σ H Q := h
end
end SB

set_option Elab.async false
namespace SB
open PySem L2 Evl
/-- a drawing well at p: at most n mixed draws so far -/
def WellAt (H : Hp) (p : Addr) (n : Nat) : Prop := ∃ a b c : Int, H p = some (.lst [.int a, .int b, .int c]) ∧ 0 ≤ b ∧ b < 2147483647 ∧ 0 ≤ c ∧ c ≤ n
/-- all that stands but p stands -/
def Sm (p : Addr) (H H' : Hp) : Prop := ∀ b o, b ≠ p → H b = some o → H' b = some o
theorem WellAt.le {H : Hp} {p : Addr} {n m : Nat} (h : WellAt H p n) (e : n ≤ m) : WellAt H p m := by
  obtain ⟨a, b, c, h1, h2, h3, h4, h5⟩ := h
  exact ⟨a, b, c, h1, h2, h3, h4, by omega⟩
theorem WellAt.up {H H1 : Hp} {p : Addr} {n : Nat} (h : WellAt H p n) (e : Ex H H1) : WellAt H1 p n := by
  obtain ⟨a, b, c, h1, h2⟩ := h
  exact ⟨a, b, c, e _ _ h1, h2⟩
theorem WellAt.some {H : Hp} {p : Addr} {n : Nat} (h : WellAt H p n) : H p ≠ none := by
  obtain ⟨a, b, c, h1, _⟩ := h
  rw [h1]; intro z; cases z
theorem Sm.trans {p : Addr} {H H1 H2 : Hp} (a : Sm p H H1) (b : Sm p H1 H2) : Sm p H H2 := fun c o hc h => b c o hc (a c o hc h)
theorem Sm.of {p : Addr} {H H1 : Hp} (e : Ex H H1) : Sm p H H1 := fun b o _ h => e b o h
theorem Sm.refl {p : Addr} {H : Hp} : Sm p H H := fun _ _ _ h => h
theorem Sm.seq {K : PySem.W.Frag} {p l : Addr} {H H1 : Hp} {xs : List V} (e : Sm p H H1) (hl : l ≠ p) (h : SqL K H l xs) : SqL K H1 l xs := by
  rcases h with (h | ⟨o, h⟩) | h
  · exact .inl (.inl (e _ _ hl h))
  · exact .inl (.inr ⟨o, e _ _ hl h⟩)
  · exact .inr h
theorem atI0 {α : Type} {a b c : α} : atI [a, b, c] 0 = some a := rfl
theorem atI1 {α : Type} {a b c : α} : atI [a, b, c] 1 = some b := rfl
theorem atI2 {α : Type} {a b c : α} : atI [a, b, c] 2 = some c := rfl
theorem r_ixL {K : PySem.W.Frag} {p : Addr} {i : Int} {xs : List V} {v : V} {H : Hp} {Q : VK} (h : SqL K H p xs) (e : atI xs i = some v) (q : Q v H) : rIxL K (.ref p) (.int i) H Q := ⟨p, xs, i, v, rfl, rfl, h, e, q⟩
theorem r_setL {p : Addr} {i : Int} {xs : List V} {v : V} {j : Nat} {H : Hp} {Q : Hp → Prop} (h : H p = some (.lst xs)) (e : ixN xs.length i = some j) (q : ∀ H1, H1 p = some (.lst (xs.set j v)) → Sm p H H1 → Q H1) : rSetL (.ref p) (.int i) v H Q :=
  ⟨p, xs, i, j, rfl, rfl, h, e, q _ upd_same fun b o hb hh => by rw [upd_ne hb]; exact hh⟩
theorem r_sub {to ti : TE} {t : TSet} {v : V} {σ : L2.St} {H : Hp} {Q : L2.St → Hp → Prop} (h : to σ H fun o H1 => ti σ H1 fun i H2 => t o i v H2 fun H3 => Q σ H3) : gSub to ti t v σ H Q := h
theorem fmod_lt {x m : Int} (h : 0 < m) : 0 ≤ x.fmod m ∧ x.fmod m < m := ⟨Int.fmod_nonneg_of_pos _ h, Int.fmod_lt_of_pos _ h⟩
theorem atI_lt {α : Type} {xs : List α} {i : Int} (h0 : 0 ≤ i) (h1 : i < xs.length) : ∃ v, atI xs i = some v ∧ xs[i.toNat]? = some v := by
  have hl : i.toNat < xs.length := by omega
  refine ⟨xs[i.toNat], ?_, List.getElem?_eq_getElem hl⟩
  unfold atI ixN
  rw [if_pos h0, if_pos (by omega)]
  simp
/-! ### readings by name -/
theorem call_lenQ {X : Cx} : CallR X (.builtin "len") (rLenS X.K) := call_len_seq
theorem r_lenL {K : PySem.W.Frag} {p : Addr} {ys : List V} {H : Hp} {Q : VK} (h : SqL K H p ys) (q : Q (.int ys.length) H) : rLenS K [V.ref p] H Q := ⟨p, ys, rfl, .inl h, q⟩
theorem r_lenT {K : PySem.W.Frag} {p : Addr} {ys : List V} {H : Hp} {Q : VK} (h : SqT K H p ys) (q : Q (.int ys.length) H) : rLenS K [V.ref p] H Q := ⟨p, ys, rfl, .inr h, q⟩
def rLenStr : List V → Hp → VK → Prop := fun xs H Q => ∃ z, xs = [.str z] ∧ z.length ≤ sizeLine ∧ Q (.int (z.length : Nat)) H
theorem call_listQ {X : Cx} : CallR X (.type "list") (rListS X.K) := call_list_of
theorem r_listL {K : PySem.W.Frag} {p : Addr} {ys : List V} {H : Hp} {Q : VK} (h : SqL K H p ys) (q : ∀ l H1, H l = none → Ex H H1 → H1 l = some (.lst ys) → Q (.ref l) H1) : rListS K [V.ref p] H Q := ⟨p, ys, rfl, .inl h, r_new0 q⟩
theorem r_listT {K : PySem.W.Frag} {p : Addr} {ys : List V} {H : Hp} {Q : VK} (h : SqT K H p ys) (q : ∀ l H1, H l = none → Ex H H1 → H1 l = some (.lst ys) → Q (.ref l) H1) : rListS K [V.ref p] H Q := ⟨p, ys, rfl, .inr h, r_new0 q⟩
def rTupQ (K : PySem.W.Frag) : List V → Hp → VK → Prop := fun xs H Q => ∃ p ys, xs = [.ref p] ∧ ((SqL K H p ys ∧ ∀ l, H l = none → Q (.ref l) (upd H l (.tup ys))) ∨ (SqT K H p ys ∧ Q (.ref p) H))
theorem call_tupQ {X : Cx} : CallR X (.type "tuple") (rTupQ X.K) := call_tuple_of
theorem r_tupL {K : PySem.W.Frag} {p : Addr} {ys : List V} {H : Hp} {Q : VK} (h : SqL K H p ys) (q : ∀ l H1, H l = none → Ex H H1 → H1 l = some (.tup ys) → Q (.ref l) H1) : rTupQ K [V.ref p] H Q := ⟨p, ys, rfl, .inl ⟨h, r_new0 q⟩⟩
theorem r_tupT' {K : PySem.W.Frag} {p : Addr} {ys : List V} {H : Hp} {Q : VK} (h : SqT K H p ys) (q : Q (.ref p) H) : rTupQ K [V.ref p] H Q := ⟨p, ys, rfl, .inr ⟨h, q⟩⟩
def rIntQ : List V → Hp → VK → Prop := fun xs H Q => (∃ i, xs = [.int i] ∧ Q (.int i) H) ∨ ∃ k, xs = [.bl k] ∧ Q (.int (if k then 1 else 0)) H
theorem call_intQ {X : Cx} : CallR X (.type "int") rIntQ := call_int1
theorem r_intB {k : Bool} {H : Hp} {Q : VK} (q : Q (.int (if k then 1 else 0)) H) : rIntQ [.bl k] H Q := .inr ⟨k, rfl, q⟩
theorem r_all {K : PySem.W.Frag} {p : Addr} {bs : List Bool} {H : Hp} {Q : VK} (h : SqL K H p (bs.map V.bl)) (q : Q (.bl (bs.all id)) H) : rAll K [V.ref p] H Q := ⟨p, bs, rfl, h, q⟩
theorem r_any {K : PySem.W.Frag} {p : Addr} {bs : List Bool} {H : Hp} {Q : VK} (h : SqL K H p (bs.map V.bl)) (q : Q (.bl (bs.any id)) H) : rAny K [V.ref p] H Q := ⟨p, bs, rfl, h, q⟩
theorem r_isi {K : PySem.W.Frag} {x c : V} {t u : Value} {b : Bool} {H : Hp} {Q : VK} (hc : ClsV c u) (ty : TyX K H x t) (e : PySem.W.kitOne K t u = some b) (q : Q (.bl b) H) : rIsi K [x, c] H Q := ⟨x, c, t, u, b, rfl, hc, ty, e, q⟩
theorem r_chain {r r' : R2} {ta tb tc : TE} {σ : L2.St} {H : Hp} {Q : VK} (h : ta σ H fun x H1 => tb σ H1 fun y H2 => r x y H2 fun z H3 => ∃ k, z = .bl k ∧ (if k = true then tc σ H3 fun w' H4 => r' y w' H4 Q else Q (.bl false) H3)) : tChain r r' ta tb tc σ H Q := h
theorem r_lenSetT {K : PySem.W.Frag} {ta : TE} {σ : L2.St} {H : Hp} {Q : VK} (h : ta σ H fun x H1 => ∃ (l : Addr) (xs : List Str), x = .ref l ∧ SqT K H1 l (xs.map V.str) ∧ xs.length ≤ 1000 ∧ Q (.int (fcnt xs xs.length : Nat)) H1) : tLenSetT K ta σ H Q := h
/-! ### displays -/
def tLstM (tA : TA) : TE := fun σ H Q => tA σ H fun xs H1 => xs.length ≤ 100000 ∧ ∀ p H2, H1 p = none → Ex H1 H2 → H2 p = some (.lst xs) → Q (.ref p) H2
def tTupM (tA : TA) : TE := fun σ H Q => tA σ H fun xs H1 => xs.length ≤ 100000 ∧ ∀ p H2, H1 p = none → Ex H1 H2 → H2 p = some (.tup xs) → Q (.ref p) H2
theorem PE.by {X : Cx} {e : Expr} {t t' : TE} (h : PE X e t) (i : ∀ σ H Q, t' σ H Q → t σ H Q) : PE X e t' := ⟨fun pins s σ H Q I q => h.run pins s σ H Q I (i σ H Q q)⟩
theorem pe_lstM {X : Cx} {es : List Expr} {tA : TA} {pos : Pos} (h : PA X es tA) : PE X (.List es pos) (tLstM tA) :=
  PE.by (pe_lst (pa_mono h)) fun _ _ _ q => ⟨_, q, fun _ _ z => r_new z.1 z.2⟩
theorem pe_tupM {X : Cx} {es : List Expr} {tA : TA} {k : Nat} {pos : Pos} (h : PA X es tA) : PE X (.Tuple es k pos) (tTupM tA) :=
  PE.by (pe_tup (pa_mono h)) fun _ _ _ q => ⟨_, q, fun _ _ z => r_new z.1 z.2⟩
section
variable {tA : TA} {σ : L2.St} {H : Hp} {Q : VK}
theorem r_lstM (h : tA σ H fun xs H1 => xs.length ≤ 100000 ∧ ∀ p H2, H1 p = none → Ex H1 H2 → H2 p = some (.lst xs) → Q (.ref p) H2) : tLstM tA σ H Q := h
theorem r_tupM (h : tA σ H fun xs H1 => xs.length ≤ 100000 ∧ ∀ p H2, H1 p = none → Ex H1 H2 → H2 p = some (.tup xs) → Q (.ref p) H2) : tTupM tA σ H Q := h
end
/-! ### + and slices -/
theorem OpR.by {X : Cx} {f : Value → Value → Sem Value} {r r' : R2} (h : OpR X f r) (i : ∀ x y H Q, r' x y H Q → r x y H Q) : OpR X f r' := fun pins s σ H x y v u Q I rx ry q => h pins s σ H x y v u Q I rx ry (i x y H Q q)
def rCatM : R2 := fun x y H Q => ∃ l b xs zs, x = .ref l ∧ y = .ref b ∧ H l = some (.lst xs) ∧ H b = some (.lst zs) ∧ xs.length + zs.length ≤ 100000 ∧ ∀ p H1, H p = none → Ex H H1 → H1 p = some (.lst (xs ++ zs)) → Q (.ref p) H1
theorem op_catM {X : Cx} : OpR X (binaryOp .Add) rCatM := OpR.by op_cat fun x y H Q ⟨l, b, xs, zs, e1, e2, h1, h2, hz, q⟩ => ⟨l, b, xs, zs, e1, e2, h1, h2, sz_of hz, r_new0 q⟩
theorem r_catM {l b : Addr} {xs zs : List V} {H : Hp} {Q : VK} (h1 : H l = some (.lst xs)) (h2 : H b = some (.lst zs)) (hz : xs.length + zs.length ≤ 100000) (q : ∀ p H1, H p = none → Ex H H1 → H1 p = some (.lst (xs ++ zs)) → Q (.ref p) H1) : rCatM (.ref l) (.ref b) H Q :=
  ⟨l, b, xs, zs, rfl, rfl, h1, h2, hz, q⟩
def rCatTM (K : PySem.W.Frag) : R2 := fun x y H Q => ∃ a b xs ys, x = .ref a ∧ y = .ref b ∧ SqT K H a xs ∧ SqT K H b ys ∧ xs.length + ys.length ≤ 100000 ∧ ∀ p H1, Ex H H1 → SqT K H1 p (xs ++ ys) → Q (.ref p) H1
theorem op_catTM {X : Cx} : OpR X (binaryOp .Add) (rCatTM X.K) := OpR.by op_catA fun x y H Q ⟨a, b, xs, ys, e1, e2, h1, h2, hz, q⟩ => ⟨a, b, xs, ys, e1, e2, h1, h2, sz_of hz,
  fun e => q b H (Ex.refl H) (by rw [e]; exact h2), fun _ e => q a H (Ex.refl H) (by rw [e, List.append_nil]; exact h1), fun _ _ => r_new0 fun p H1 _ e hp => q p H1 e (st_of hp)⟩
theorem r_catTM {K : PySem.W.Frag} {a b : Addr} {xs ys : List V} {H : Hp} {Q : VK} (h1 : SqT K H a xs) (h2 : SqT K H b ys) (hz : xs.length + ys.length ≤ 100000) (q : ∀ p H1, Ex H H1 → SqT K H1 p (xs ++ ys) → Q (.ref p) H1) : rCatTM K (.ref a) (.ref b) H Q :=
  ⟨a, b, xs, ys, rfl, rfl, h1, h2, hz, q⟩
theorem SlR.by {X : Cx} {r r' : V → Option Int → Option Int → Hp → VK → Prop} (h : SlR X r) (i : ∀ x l u H Q, r' x l u H Q → r x l u H Q) : SlR X r' := fun pins s σ H x v vl vu lo hi sl Q I rx hs pl pu q => h pins s σ H x v vl vu lo hi sl Q I rx hs pl pu (i x lo hi H Q q)
def rSlLM (K : PySem.W.Frag) : V → Option Int → Option Int → Hp → VK → Prop := fun x lo hi H Q => ∃ a xs, x = .ref a ∧ SqL K H a xs ∧ ∀ p H1, H p = none → Ex H H1 → H1 p = some (.lst (cutV xs lo hi)) → Q (.ref p) H1
theorem sl_listM {X : Cx} : SlR X (rSlLM X.K) := SlR.by sl_list fun x l u H Q ⟨a, xs, e, h, q⟩ => ⟨a, xs, e, h, r_new0 q⟩
theorem r_slL {K : PySem.W.Frag} {a : Addr} {xs : List V} {lo hi : Option Int} {H : Hp} {Q : VK} (h : SqL K H a xs) (q : ∀ p H1, H p = none → Ex H H1 → H1 p = some (.lst (cutV xs lo hi)) → Q (.ref p) H1) : rSlLM K (.ref a) lo hi H Q := ⟨a, xs, rfl, h, q⟩
def rSlTM (K : PySem.W.Frag) : V → Option Int → Option Int → Hp → VK → Prop := fun x lo hi H Q => ∃ a xs, x = .ref a ∧ SqT K H a xs ∧ ∀ p H1, Ex H H1 → SqT K H1 p (cutV xs lo hi) → Q (.ref p) H1
theorem sl_tupM {X : Cx} : SlR X (rSlTM X.K) := SlR.by sl_tupA fun x l u H Q ⟨a, xs, e, h, q⟩ => ⟨a, xs, e, h, fun w => q a H (Ex.refl H) (by unfold cutV; rw [w.1, w.2]; simpa using h), fun _ => r_new0 fun p H1 _ e hp => q p H1 e (st_of hp)⟩
theorem r_slT {K : PySem.W.Frag} {a : Addr} {xs : List V} {lo hi : Option Int} {H : Hp} {Q : VK} (h : SqT K H a xs) (q : ∀ p H1, Ex H H1 → SqT K H1 p (cutV xs lo hi) → Q (.ref p) H1) : rSlTM K (.ref a) lo hi H Q := ⟨a, xs, rfl, h, q⟩
theorem r_sl {r : V → Option Int → Option Int → Hp → VK → Prop} {te : TE} {tl th : TO} {σ : L2.St} {H : Hp} {Q : VK} (h : te σ H fun x H1 => tl σ H1 fun l H2 => th σ H2 fun u H3 => r x l u H3 Q) : tSl r te tl th σ H Q := h
theorem r_noPart {σ : L2.St} {H : Hp} {Q : Option Int → Hp → Prop} (q : Q none H) : tNoPart σ H Q := q
theorem r_part {te : TE} {σ : L2.St} {H : Hp} {Q : Option Int → Hp → Prop} (h : te σ H fun x H1 => ∃ i, x = .int i ∧ Q (some i) H1) : tPart te σ H Q := h
theorem r_intEx {P : Int → Prop} {a : Int} (h : P a) : ∃ i, V.int a = .int i ∧ P i := ⟨a, rfl, h⟩
end SB

set_option Elab.async false
set_option linter.all false
set_option maxHeartbeats 4000000
namespace SB
open PySem L2 Evl
/-! ### readings closed upward -/
def mE (t : TE) : TE := fun σ H Q => ∃ Q0 : VK, t σ H Q0 ∧ ∀ v H1, Q0 v H1 → Q v H1
def mT (t : TT) : TT := fun σ H Q => ∃ Q0 : Bool → Hp → Prop, t σ H Q0 ∧ ∀ b H1, Q0 b H1 → Q b H1
def mG (t : TG) : TG := fun v σ H Q => ∃ Q0 : L2.St → Hp → Prop, t v σ H Q0 ∧ ∀ s H1, Q0 s H1 → Q s H1
section
variable {X : Cx}
theorem pe_m {e : Expr} {t : TE} (h : PE X e t) : PE X e (mE t) := ⟨fun pins s σ H Q I ⟨Q0, z, m⟩ => thn (h.run pins s σ H Q0 I z) fun _ _ ⟨v, H1, I1, r, q⟩ => ⟨v, H1, I1, r, m v H1 q⟩⟩
theorem pts_m {es : List Expr} {t : TT} (h : PTs X es t) : PTs X es (mT t) := ⟨fun pins s σ H Q I ⟨Q0, z, m⟩ => thn (h.run pins s σ H Q0 I z) fun b _ ⟨H1, I1, q⟩ => ⟨H1, I1, m b H1 q⟩⟩
theorem pt_m {e : Expr} {t : TT} (h : PT X e t) : PT X e (mT t) := ⟨fun pins s σ H Q I ⟨Q0, z, m⟩ => thn (h.run pins s σ H Q0 I z) fun b _ ⟨H1, I1, q⟩ => ⟨H1, I1, m b H1 q⟩⟩
theorem pg_m {e : Expr} {t : TG} (h : PG X e t) : PG X e (mG t) := ⟨fun pins s σ H v u Q I r ⟨Q0, z, m⟩ => thn (h.run pins s σ H v u Q0 I r z) fun _ _ ⟨s1, H1, I1, q⟩ => ⟨s1, H1, I1, m s1 H1 q⟩⟩
end
theorem mE_mono {t : TE} {σ : L2.St} {H : Hp} {Q Q' : VK} (h : mE t σ H Q) (i : ∀ v H1, Q v H1 → Q' v H1) : mE t σ H Q' := let ⟨Q0, z, m⟩ := h; ⟨Q0, z, fun v H1 q => i v H1 (m v H1 q)⟩
theorem mT_mono {t : TT} {σ : L2.St} {H : Hp} {Q Q' : Bool → Hp → Prop} (h : mT t σ H Q) (i : ∀ v H1, Q v H1 → Q' v H1) : mT t σ H Q' := let ⟨Q0, z, m⟩ := h; ⟨Q0, z, fun v H1 q => i v H1 (m v H1 q)⟩
theorem mG_mono {t : TG} {v : V} {σ : L2.St} {H : Hp} {Q Q' : L2.St → Hp → Prop} (h : mG t v σ H Q) (i : ∀ s H1, Q s H1 → Q' s H1) : mG t v σ H Q' := let ⟨Q0, z, m⟩ := h; ⟨Q0, z, fun v H1 q => i v H1 (m v H1 q)⟩
theorem mE_of {t : TE} {σ : L2.St} {H : Hp} {Q : VK} (h : t σ H Q) : mE t σ H Q := ⟨Q, h, fun _ _ q => q⟩
theorem mT_of {t : TT} {σ : L2.St} {H : Hp} {Q : Bool → Hp → Prop} (h : t σ H Q) : mT t σ H Q := ⟨Q, h, fun _ _ q => q⟩
theorem mG_of {t : TG} {v : V} {σ : L2.St} {H : Hp} {Q : L2.St → Hp → Prop} (h : t v σ H Q) : mG t v σ H Q := ⟨Q, h, fun _ _ q => q⟩
def tLcM (wi : TI) (g : TG) (tt : TT) (te : TE) (vs : List Nat) : TE := tLc wi (mG g) (mT tt) (mE te) vs
section
variable {X : Cx} {elt tg iter : Expr} {ifs : List Expr} {scope : Scope} {own : List (Str × Nat)} {pos : Pos} {wi : TI} {g : TG} {tt : TT} {te : TE}
theorem pe_lcM (hc : X.calm = true) (hN : X.N.Nodup) (hi : PI X tg iter wi) (ok : BlkOk X.N X.env.scope scope own)
    (hg : ∀ (s : Shared) (H : Hp) (C : Addr) (cl : List (Str × Addr)) (fp : List Addr), PG (X.blk s H scope (compEnvC scope cl C X.env) fp) tg g)
    (ht : ∀ (s : Shared) (H : Hp) (C : Addr) (cl : List (Str × Addr)) (fp : List Addr), PTs (X.blk s H scope (compEnvC scope cl C X.env) fp) ifs tt)
    (he : ∀ (s : Shared) (H : Hp) (C : Addr) (cl : List (Str × Addr)) (fp : List Addr), PE (X.blk s H scope (compEnvC scope cl C X.env) fp) elt te) (hs : ∀ x, foldedSetIterable iter X.env x = pure x := by intro _; rfl) :
    PE X (.ListComp elt [⟨tg, iter, ifs, 0⟩] scope pos) (tLcM wi g tt te (own.map (·.2))) :=
  pe_lc hc hN hi ok (fun s H C cl fp => pg_m (hg s H C cl fp)) (fun s H C cl fp => pts_m (ht s H C cl fp)) (fun s H C cl fp => pe_m (he s H C cl fp)) hs
theorem ps_setLcM {i : Nat} {y : Str} {py spos : Pos} (hc : X.calm = true) (hN : X.N.Nodup) (hy : X.N[i]? = some y) (hyl : X.env.scope.names.lookup y = some .local)
    (hsw : swapsWith (.ListComp elt [⟨tg, iter, ifs, 0⟩] scope pos) (some (.Name y py)) spos.line X.env = pure true) (hi : PI X tg iter wi) (ok : BlkOk X.N X.env.scope scope own)
    (hg : ∀ (s : Shared) (H : Hp) (C : Addr) (cl : List (Str × Addr)) (fp : List Addr), PG (X.blk s H scope (compEnvC scope cl C X.env) fp) tg g)
    (ht : ∀ (s : Shared) (H : Hp) (C : Addr) (cl : List (Str × Addr)) (fp : List Addr), PTs (X.blk s H scope (compEnvC scope cl C X.env) fp) ifs tt)
    (he : ∀ (s : Shared) (H : Hp) (C : Addr) (cl : List (Str × Addr)) (fp : List Addr), PE (X.blk s H scope (compEnvC scope cl C X.env) fp) elt te) (hs : ∀ x, foldedSetIterable iter X.env x = pure x := by intro _; rfl) :
    PS X (.Assign [.Name y py] (.ListComp elt [⟨tg, iter, ifs, 0⟩] scope pos) spos) (tAsg (tLcM wi g tt te (own.map (·.2))) (gName i)) :=
  ps_setLc hc hN hy hyl hsw hi ok (fun s H C cl fp => pg_m (hg s H C cl fp)) (fun s H C cl fp => pts_m (ht s H C cl fp)) (fun s H C cl fp => pe_m (he s H C cl fp)) hs
end
/-- what is left of a comprehension once its source is read -/
def LcEnd (J : It) (g : TG) (tt : TT) (te : TE) (vs : List Nat) (σ : L2.St) (H1 : Hp) (Q : VK) : Prop := ∀ D, H1 D = none → ∃ W : Nat → Nat → Hp → Prop, (∃ m, W 0 m (upd H1 D (.lst []))) ∧ ∀ i m H, W i m H →
  (J.stop i H ∧ Q (.ref D) H) ∨ (J.go i H ∧ ∃ Nx : Hp → Prop, (∀ H', Nx H' → ∃ m', m' < m ∧ W (i + 1) m' H') ∧ ∀ x H', J.yld i H x H' → mG g x (wipe σ vs) H' fun σ2 H2 => wipe σ2 vs = wipe σ vs ∧ mT tt σ2 H2 fun b H3 =>
    if b = true then mE te σ2 H3 fun y H4 => ∃ acc, H4 D = some (.lst acc) ∧ acc.length < sizeLine ∧ Nx (upd H4 D (.lst (acc ++ [y]))) else Nx H3)
theorem r_lc {wi : TI} {g : TG} {tt : TT} {te : TE} {vs : List Nat} {σ : L2.St} {H : Hp} {Q : VK} (h : wi σ H fun J H1 => LcEnd J g tt te vs σ H1 Q) : tLcM wi g tt te vs σ H Q := h
/-- a comprehension by its invariant R: the new list's place, the turn, what is in it, the heap -/
theorem lc_end {J : It} {n : Nat} {Gd : Hp → Prop} {Y : Nat → Hp → V → Hp → Prop} (w : Walk J n Gd Y) {g : TG} {tt : TT} {te : TE} {vs : List Nat} {σ : L2.St} {H1 : Hp} {Q : VK} (hn : n ≤ 50000) (R : Addr → Nat → List V → Hp → Prop)
    (h0 : ∀ D H2, H1 D = none → Ex H1 H2 → R D 0 [] H2) (hG : ∀ D i ys H, R D i ys H → Gd H) (hup : ∀ D i ys H acc, H1 D = none → R D i ys H → R D i ys (upd H D (.lst acc)))
    (hs : ∀ D i ys x H H', i < n → H1 D = none → R D i ys H → H D = some (.lst ys) → Y i H x H' → mG g x (wipe σ vs) H' fun σ2 H2 => wipe σ2 vs = wipe σ vs ∧ mT tt σ2 H2 fun b H3 =>
      if b = true then mE te σ2 H3 fun y H4 => H4 D = some (.lst ys) ∧ R D (i + 1) (ys ++ [y]) H4 else H3 D = some (.lst ys) ∧ R D (i + 1) ys H3)
    (hd : ∀ D ys H, H1 D = none → ys.length ≤ n → R D n ys H → H D = some (.lst ys) → Q (.ref D) H) : LcEnd J g tt te vs σ H1 Q := fun D hD => by
  refine lc_it w (fun i H => ∃ ys, R D i ys H ∧ H D = some (.lst ys) ∧ ys.length ≤ i) ⟨[], h0 D _ hD (Ex.new hD), upd_same, Nat.le_refl _⟩ (fun i H _ ⟨ys, r, _⟩ => hG D i ys H r) (fun i x H H' hi ⟨ys, r, d, l⟩ y => ?_) fun H ⟨ys, r, d, l⟩ => hd D ys H hD l r d
  refine mG_mono (hs D i ys x H H' hi hD r d y) fun σ2 H2 ⟨e1, q⟩ => ⟨e1, mT_mono q fun b H3 q => ?_⟩
  cases b with
  | true =>
    refine iteT (mE_mono q fun v H4 ⟨d4, r4⟩ => ⟨ys, d4, sz_lt (by omega), ys ++ [v], hup D _ _ _ _ hD r4, upd_same, ?_⟩)
    rw [List.length_append]
    exact Nat.succ_le_succ l
  | false => exact iteF ⟨ys, q.2, q.1, Nat.le_succ_of_le l⟩
/-- nothing is changed, the elements are flat -/
theorem lc_val {J : It} {n : Nat} {Gd : Hp → Prop} {Y : Nat → Hp → V → Hp → Prop} (w : Walk J n Gd Y) {g : TG} {tt : TT} {te : TE} {vs : List Nat} {σ : L2.St} {H1 : Hp} {Q : VK} (hn : n ≤ 50000) (hG : ∀ H, Ex H1 H → Gd H)
    (S : Nat → List V → Prop) (S0 : S 0 [])
    (hs : ∀ i ys x H H', i < n → Ex H1 H → S i ys → Y i H x H' → g x (wipe σ vs) H' fun σ2 H2 => wipe σ2 vs = wipe σ vs ∧ tt σ2 H2 fun b H3 =>
      if b = true then te σ2 H3 fun y H4 => Ex H H4 ∧ S (i + 1) (ys ++ [y]) else Ex H H3 ∧ S (i + 1) ys)
    (hd : ∀ D ys H, H1 D = none → Ex H1 H → S n ys → H D = some (.lst ys) → Q (.ref D) H) : LcEnd J g tt te vs σ H1 Q := by
  refine lc_end w hn (fun D i ys H => Ex H1 H ∧ S i ys) (fun D H2 hD e => ⟨e, S0⟩) (fun D i ys H r => hG H r.1) (fun D i ys H acc hD r => ⟨r.1.mut hD, r.2⟩) ?_ fun D ys H hD _ r hh => hd D ys H hD r.1 r.2 hh
  intro D i ys x H H' hi hD r hh y
  refine ⟨_, hs i ys x H H' hi r.1 r.2 y, fun σ2 H2 q => ⟨q.1, _, q.2, fun b H3 q => ?_⟩⟩
  cases b with
  | true => exact iteT ⟨_, q, fun v H4 q => ⟨q.1 _ _ hh, r.1.trans q.1, q.2⟩⟩
  | false => exact iteF ⟨q.1 _ _ hh, r.1.trans q.1, q.2⟩
/-- nothing is changed, the elements may be new things: S speaks of what is frozen -/
theorem lc_new {J : It} {n : Nat} {Gd : Hp → Prop} {Y : Nat → Hp → V → Hp → Prop} (w : Walk J n Gd Y) {g : TG} {tt : TT} {te : TE} {vs : List Nat} {σ : L2.St} {H1 : Hp} {Q : VK} (hn : n ≤ 50000) (hG : ∀ H, Ex H1 H → Gd H)
    (S : Nat → List V → Hp → Prop) (S0 : S 0 [] H1) (up : ∀ i ys H H', Ex H H' → S i ys H → S i ys H')
    (hs : ∀ i ys x G H H', i < n → Ex H1 G → Ex G H → S i ys G → Y i H x H' → g x (wipe σ vs) H' fun σ2 H2 => wipe σ2 vs = wipe σ vs ∧ tt σ2 H2 fun b H3 =>
      if b = true then te σ2 H3 fun y H4 => Ex H H4 ∧ ∀ G4, Ex G G4 → (∀ b o, H b = none → H4 b = some o → G4 b = some o) → (∀ b o, (∀ l, o ≠ .lst l) → H4 b = some o → G4 b = some o) → S (i + 1) (ys ++ [y]) G4 else Ex H H3 ∧ S (i + 1) ys G)
    (hd : ∀ D ys H, H1 D = none → Ex H1 H → S n ys H → H D = some (.lst ys) → Q (.ref D) H) : LcEnd J g tt te vs σ H1 Q := by
  refine lc_end w hn (fun D i ys H => ∃ G, Ex H1 G ∧ G D = none ∧ Ex G H ∧ S i ys G) (fun D H2 hD e => ⟨H1, Ex.refl _, hD, e, S0⟩) (fun D i ys H r => let ⟨G, a, _, b, _⟩ := r; hG H (a.trans b))
    (fun D i ys H acc hD r => let ⟨G, a, d, b, s⟩ := r; ⟨G, a, d, b.mut d, s⟩) ?_ fun D ys H hD _ r hh => let ⟨G, a, d, b, s⟩ := r; hd D ys H hD (a.trans b) (up _ _ _ _ b s) hh
  intro D i ys x H H' hi hD r hh y
  obtain ⟨G, a, d, b, s⟩ := r
  refine ⟨_, hs i ys x G H H' hi a b s y, fun σ2 H2 q => ⟨q.1, _, q.2, fun c H3 q => ?_⟩⟩
  cases c with
  | true =>
    refine iteT ⟨_, q, fun v H4 q => ⟨q.1 _ _ hh, wo [D] H4, ?_, ?_, (wo_fz [D] H4).ex, q.2 _ ?_ ?_ ?_⟩⟩
    · exact (Fz.mk (M := [D]) (a.trans (b.trans q.1)) (fun m hm => by rw [List.mem_singleton.mp hm]; exact hD)).wo
    · unfold wo; rw [if_pos (List.mem_singleton.mpr rfl)]
    · exact (Fz.mk (M := [D]) (b.trans q.1) (fun m hm => by rw [List.mem_singleton.mp hm]; exact d)).wo
    · exact fun b o hn hb => wo_at hb fun hm => by rw [List.mem_singleton.mp hm, hh] at hn; cases hn
    · exact fun b o hn hb => wo_at hb fun hm => by
        rw [List.mem_singleton.mp hm, q.1 _ _ hh] at hb
        exact hn _ (Option.some.inj hb).symm
  | false => exact iteF ⟨q.1 _ _ hh, G, a, d, b.trans q.1, q.2⟩
/-- the well at p is drawn from, c + k * (turn) times at most; the elements are flat -/
theorem lc_draw {J : It} {n : Nat} {Gd : Hp → Prop} {Y : Nat → Hp → V → Hp → Prop} (w : Walk J n Gd Y) {g : TG} {tt : TT} {te : TE} {vs : List Nat} {σ : L2.St} {H1 : Hp} {Q : VK} (hn : n ≤ 50000) (p : Addr) (c k : Nat) (w0 : WellAt H1 p c)
    (hG : ∀ H, Sm p H1 H → Gd H) (S : Nat → List V → Prop) (S0 : S 0 [])
    (hs : ∀ i ys x H H', i < n → Sm p H1 H → WellAt H p (c + k * i) → S i ys → Y i H x H' → g x (wipe σ vs) H' fun σ2 H2 => wipe σ2 vs = wipe σ vs ∧ tt σ2 H2 fun b H3 =>
      if b = true then te σ2 H3 fun y H4 => Sm p H H4 ∧ WellAt H4 p (c + k * (i + 1)) ∧ S (i + 1) (ys ++ [y]) else Sm p H H3 ∧ WellAt H3 p (c + k * (i + 1)) ∧ S (i + 1) ys)
    (hd : ∀ D ys H, H1 D = none → Sm p H1 H → WellAt H p (c + k * n) → S n ys → H D = some (.lst ys) → Q (.ref D) H) : LcEnd J g tt te vs σ H1 Q := by
  have np : ∀ {D}, H1 D = none → D ≠ p := fun {D} hD e => w0.some (e ▸ hD)
  refine lc_end w hn (fun D i ys H => Sm p H1 H ∧ WellAt H p (c + k * i) ∧ S i ys) (fun D H2 hD e => ⟨Sm.of e, w0.up e, S0⟩) (fun D i ys H r => hG H r.1)
    (fun D i ys H acc hD r => ⟨fun b o hb h => by rw [upd_ne (ne_of_none h hD)]; exact r.1 b o hb h, ?_, r.2.2⟩) ?_ fun D ys H hD _ r hh => hd D ys H hD r.1 r.2.1 r.2.2 hh
  · obtain ⟨x, y, z, h, q⟩ := r.2.1
    exact ⟨x, y, z, by rw [upd_ne (np hD).symm]; exact h, q⟩
  intro D i ys x H H' hi hD r hh y
  refine ⟨_, hs i ys x H H' hi r.1 r.2.1 r.2.2 y, fun σ2 H2 q => ⟨q.1, _, q.2, fun b H3 q => ?_⟩⟩
  cases b with
  | true => exact iteT ⟨_, q, fun v H4 q => ⟨q.1 _ _ (np hD) hh, r.1.trans q.1, q.2.1, q.2.2⟩⟩
  | false => exact iteF ⟨q.1 _ _ (np hD) hh, r.1.trans q.1, q.2.1, q.2.2⟩
theorem r_iL {K : PySem.W.Frag} {tl : TE} {σ : L2.St} {H : Hp} {R : It → Hp → Prop} (h : tl σ H fun x H1 => ∃ a, x = .ref a ∧ (∃ xs, SqL K H1 a xs) ∧ R (Itl K a) H1) : iList K tl σ H R := h
theorem r_iT {K : PySem.W.Frag} {tl : TE} {σ : L2.St} {H : Hp} {R : It → Hp → Prop} (h : tl σ H fun x H1 => ∃ a, x = .ref a ∧ (∃ xs, SqT K H1 a xs) ∧ R (Itt K a) H1) : iTup K tl σ H R := h
theorem r_iS {tl : TE} {σ : L2.St} {H : Hp} {R : It → Hp → Prop} (h : tl σ H fun v H1 => ∃ x, v = .str x ∧ R (Its x) H1) : iStr tl σ H R := h
theorem r_iR1 {ta : TA} {σ : L2.St} {H : Hp} {R : It → Hp → Prop} (h : ta σ H fun vs H1 => ∃ j : Int, vs = [.int j] ∧ -(2 ^ 62) ≤ j ∧ j < 2 ^ 62 ∧ R (Itr 0 j.toNat) H1) : iRng1 ta σ H R := h
theorem r_iR2 {ta : TA} {σ : L2.St} {H : Hp} {R : It → Hp → Prop} (h : ta σ H fun vs H1 => ∃ i j : Int, vs = [.int i, .int j] ∧ (-(2 ^ 62) ≤ i ∧ i < 2 ^ 62 ∧ -(2 ^ 62) ≤ j ∧ j < 2 ^ 62) ∧ R (Itr i (j - i).toNat) H1) : iRng2 ta σ H R := h
theorem r_for {wi : TI} {g : TG} {tb : TS} {D : Ends} {σ : L2.St} {H : Hp} (h : wi σ H fun J H1 => ∃ W : Nat → Nat → L2.St → Hp → Prop, (∃ m, W 0 m σ H1) ∧ ∀ i m σ H, W i m σ H →
    (J.stop i H ∧ D.nx σ H) ∨ (J.go i H ∧ ∃ N : L2.St → Hp → Prop, (∀ σ' H', N σ' H' → ∃ m', m' < m ∧ W (i + 1) m' σ' H') ∧ ∀ x H', J.yld i H x H' → g x σ H' fun σ2 H2 => tb { D with nx := N, ct := N, bk := D.nx } σ2 H2)) : tFor wi g tb D σ H := h
theorem r_yes {σ : L2.St} {H : Hp} {Q : Bool → Hp → Prop} (q : Q true H) : tYes σ H Q := q
/-! ### texts -/
theorem call_lenStrQ {X : Cx} : CallR X (.builtin "len") rLenStr := call_len_str
theorem r_lenStr {z : Str} {H : Hp} {Q : VK} (h : z.length ≤ 100000) (q : Q (.int (z.length : Nat)) H) : rLenStr [.str z] H Q := ⟨z, rfl, sz_of h, q⟩
theorem r_inS {c : Nat} {z : Str} {H : Hp} {Q : VK} (q : Q (.bl (decide (c ∈ z.cps.toList))) H) : rInS (.str ⟨#[c]⟩) (.str z) H Q := ⟨c, z, rfl, rfl, q⟩
/-- the letters -/
def letters : List Nat := ("abcdefghijklmnopqrstuvwxyz" : Str).cps.toList
def isWord (z : Str) : Bool := decide (1 ≤ z.length) && decide (z.length ≤ 12) && z.cps.toList.all fun c => decide (c ∈ letters)
theorem isWord_len {z : Str} (h : isWord z = true) : 1 ≤ z.length ∧ z.length ≤ 12 := by
  unfold isWord at h
  simp only [Bool.and_eq_true, decide_eq_true_eq] at h
  exact h.1
/-- x in xs, flat things -/
theorem r_inL {K : PySem.W.Frag} {x : V} {p : Addr} {xs : List V} {H : Hp} {Q : VK} (h : SqL K H p xs) (hx : flatV x = true) (ha : xs.all flatV = true) (q : Q (.bl (inV x xs)) H) : rIn K false x (.ref p) H Q := ⟨p, xs, rfl, .inl h, hx, ha, q⟩
theorem r_inT {K : PySem.W.Frag} {x : V} {p : Addr} {xs : List V} {H : Hp} {Q : VK} (h : SqT K H p xs) (hx : flatV x = true) (ha : xs.all flatV = true) (q : Q (.bl (inV x xs)) H) : rIn K false x (.ref p) H Q := ⟨p, xs, rfl, .inr h, hx, ha, q⟩
theorem r_ninL {K : PySem.W.Frag} {x : V} {p : Addr} {xs : List V} {H : Hp} {Q : VK} (h : SqL K H p xs) (hx : flatV x = true) (ha : xs.all flatV = true) (q : Q (.bl (!inV x xs)) H) : rIn K true x (.ref p) H Q := ⟨p, xs, rfl, .inl h, hx, ha, q⟩
theorem r_ninT {K : PySem.W.Frag} {x : V} {p : Addr} {xs : List V} {H : Hp} {Q : VK} (h : SqT K H p xs) (hx : flatV x = true) (ha : xs.all flatV = true) (q : Q (.bl (!inV x xs)) H) : rIn K true x (.ref p) H Q := ⟨p, xs, rfl, .inr h, hx, ha, q⟩
theorem flat_str (xs : List Str) : (xs.map V.str).all flatV = true := by
  induction xs with
  | nil => rfl
  | cons x r ih => simpa [flatV] using ih
theorem inV_str (z : Str) (xs : List Str) : inV (.str z) (xs.map V.str) = decide (z ∈ xs) := by
  induction xs with
  | nil => simp [inV]
  | cons x r ih =>
    unfold inV at ih ⊢
    rw [List.map_cons, List.any_cons, ih]
    by_cases e : z = x
    · subst e; simp [eqV]
    · have e2 : eqV (.str x) (.str z) = false := by simp [eqV]; exact fun q => e q.symm
      rw [e2]
      simp [e]
/-- a type that is told stays told -/
theorem tyX_up {K : PySem.W.Frag} {H H' : Hp} {x : V} {t : Value} (e : Ex H H') (h : TyX K H x t) : TyX K H' x t := by
  cases h with
  | base b =>
    refine .base ?_
    cases b with
    | non => exact .non
    | bl y => exact .bl y
    | int i => exact .int i
    | str y => exact .str y
    | flt y => exact .flt y
    | lst h => exact .lst (e _ _ h)
    | frz h => exact .frz (e _ _ h)
    | tup h => exact .tup (e _ _ h)
    | dK h => exact .dK (e _ _ h)
    | dT h => exact .dT (e _ _ h)
    | ins h a b c d f => exact .ins (e _ _ h) a b c d f
  | byt b => exact .byt b
  | set h => exact .set (e _ _ h)
  | kList h c => exact .kList h c
  | kTuple h c => exact .kTuple h c
  | kDict h c => exact .kDict h c
  | fTuple h => exact .fTuple (e _ _ h)
  | fDict h => exact .fDict (e _ _ h)
theorem tyT {K : PySem.W.Frag} {H : Hp} {a : Addr} {xs : List V} (h : H a = some (.tup xs)) : TyX K H (.ref a) (.type "tuple") := .base (.tup h)
end SB

set_option Elab.async false
set_option linter.all false
set_option maxHeartbeats 4000000
/-! instances: their fields as written names beside a list of values -/
namespace SB
open PySem L2 Evl
def lkB (ks : List Str) (f : Str) (i : Nat) : Bool := decide (ks[i]? = some f) && (ks.take i).all fun k => decide (k ≠ f)
theorem zip_lookup : ∀ {ks : List Str} {vs : List V} {f : Str} {i : Nat}, lkB ks f i = true → (ks.zip vs).lookup f = vs[i]?
  | [], vs, f, i, h => by simp [lkB] at h
  | k :: ks, [], f, i, h => by simp [List.lookup]
  | k :: ks, v :: vs, f, 0, h => by
    have e : k = f := by simpa [lkB] using h
    subst e
    simp [List.zip_cons_cons, List.lookup]
  | k :: ks, v :: vs, f, i + 1, h => by
    unfold lkB at h
    rw [List.take_succ_cons, List.all_cons, Bool.and_eq_true, Bool.and_eq_true] at h
    obtain ⟨h1, h2, h3⟩ := h
    have ne : k ≠ f := by simpa using h2
    have b : (f == k) = false := by simpa using fun e => ne e.symm
    rw [List.zip_cons_cons, List.lookup_cons, b]
    have ih := zip_lookup (ks := ks) (vs := vs) (f := f) (i := i) (by unfold lkB; rw [Bool.and_eq_true]; exact ⟨by simpa using h1, h3⟩)
    simpa using ih
theorem zip_none : ∀ {ks : List Str} {vs : List V} {f : Str}, ks.all (fun k => decide (k ≠ f)) = true → (ks.zip vs).lookup f = none
  | [], vs, f, h => by simp [List.lookup]
  | k :: ks, [], f, h => by simp [List.lookup]
  | k :: ks, v :: vs, f, h => by
    rw [List.all_cons, Bool.and_eq_true] at h
    have ne : k ≠ f := by simpa using h.1
    have b : (f == k) = false := by simpa using fun e => ne e.symm
    rw [List.zip_cons_cons, List.lookup_cons, b]
    exact zip_none h.2
theorem zip_put_new : ∀ {ks : List Str} {vs : List V} {f : Str} {v : V}, ks.all (fun k => decide (k ≠ f)) = true → ks.length = vs.length → putF f v (ks.zip vs) = (ks ++ [f]).zip (vs ++ [v])
  | [], [], f, v, _, _ => rfl
  | [], _ :: _, f, v, _, h => by simp at h
  | _ :: _, [], f, v, _, h => by simp at h
  | k :: ks, x :: vs, f, v, h, hl => by
    rw [List.all_cons, Bool.and_eq_true] at h
    have ne : ¬ k = f := by simpa using h.1
    rw [List.zip_cons_cons]
    show (if k = f then _ else (k, x) :: putF f v (ks.zip vs)) = _
    rw [if_neg ne, zip_put_new h.2 (by simpa using hl)]
    rfl
theorem zip_put : ∀ {ks : List Str} {vs : List V} {f : Str} {v : V} {i : Nat}, lkB ks f i = true → i < vs.length → putF f v (ks.zip vs) = ks.zip (vs.set i v)
  | [], vs, f, v, i, h, _ => by simp [lkB] at h
  | k :: ks, [], f, v, i, h, hl => by simp at hl
  | k :: ks, x :: vs, f, v, 0, h, _ => by
    have e : k = f := by simpa [lkB] using h
    rw [List.zip_cons_cons]
    show (if k = f then (k, v) :: ks.zip vs else _) = _
    rw [if_pos e]
    rfl
  | k :: ks, x :: vs, f, v, i + 1, h, hl => by
    unfold lkB at h
    rw [List.take_succ_cons, List.all_cons, Bool.and_eq_true, Bool.and_eq_true] at h
    obtain ⟨h1, h2, h3⟩ := h
    have ne : ¬ k = f := by simpa using h2
    rw [List.zip_cons_cons]
    show (if k = f then _ else (k, x) :: putF f v (ks.zip vs)) = _
    rw [if_neg ne, zip_put (i := i) (by unfold lkB; rw [Bool.and_eq_true]; exact ⟨by simpa using h1, h3⟩) (by simpa using hl)]
    rfl
section
variable {K : PySem.W.Frag} {ta tv : TE} {σ : L2.St} {H : Hp} {Q : VK} {f : Str} {D : Ends} {a C dx : Addr} {ks : List Str} {vs : List V} {v : V} {t : TA}
/-- x.f, x a value -/
def FldIn (K : PySem.W.Frag) (f : Str) (x : V) (H : Hp) (Q : VK) : Prop := ∃ a C dx fs v, x = .ref a ∧ H a = some (.ins C dx fs) ∧ Cls K C ∧ NoAttr K C f ∧ fs.lookup f = some v ∧ Q v H
theorem r_fld (h : ta σ H fun x H1 => FldIn K f x H1 Q) : tFld K ta f σ H Q := h
theorem r_fldE (ho : H a = some (.ins C dx (ks.zip vs))) (cl : Cls K C) (na : NoAttr K C f) (i : Nat) (hk : lkB ks f i = true) (hv : vs[i]? = some v) (q : Q v H) : FldIn K f (.ref a) H Q := ⟨a, C, dx, _, v, rfl, ho, cl, na, (zip_lookup hk).trans hv, q⟩
/-- x.f = y, by values -/
def SfldIn (K : PySem.W.Frag) (f : Str) (y x : V) (H : Hp) (N : Hp → Prop) : Prop := ∃ a C dx fs, x = .ref a ∧ H a = some (.ins C dx fs) ∧ Cls K C ∧ NoAttr K C f ∧ fs.length < 1000 ∧ N (upd H a (.ins C dx (putF f y fs)))
theorem r_sfld (h : tv σ H fun y H1 => ta σ H1 fun x H2 => SfldIn K f y x H2 (D.nx σ)) : sFld K ta tv f D σ H := h
/-- a new field -/
theorem r_sfldN {N : Hp → Prop} (ho : H a = some (.ins C dx (ks.zip vs))) (cl : Cls K C) (na : NoAttr K C f) (hk : ks.all (fun k => decide (k ≠ f)) = true) (hl : ks.length = vs.length) (hz : ks.length < 900)
    (q : ∀ H1, H1 a = some (.ins C dx ((ks ++ [f]).zip (vs ++ [v]))) → Sm a H H1 → N H1) : SfldIn K f v (.ref a) H N :=
  ⟨a, C, dx, _, rfl, ho, cl, na, by rw [List.length_zip]; omega, q _ (by rw [upd_same, zip_put_new hk hl]) fun b o hb h => by rw [upd_ne hb]; exact h⟩
/-- a field that stands -/
theorem r_sfldS {N : Hp → Prop} (ho : H a = some (.ins C dx (ks.zip vs))) (cl : Cls K C) (na : NoAttr K C f) (i : Nat) (hk : lkB ks f i = true) (hl : i < vs.length) (hz : ks.length < 900)
    (q : ∀ H1, H1 a = some (.ins C dx (ks.zip (vs.set i v))) → Sm a H H1 → N H1) : SfldIn K f v (.ref a) H N :=
  ⟨a, C, dx, _, rfl, ho, cl, na, by rw [List.length_zip]; omega, q _ (by rw [upd_same, zip_put hk hl]) fun b o hb h => by rw [upd_ne hb]; exact h⟩
theorem r_meth {m : Str} {sp : Sp} {dvs : List V} {E : XK} (h : ta σ H fun x H1 => ∃ a dx fs, x = .ref a ∧ H1 a = some (.ins C dx fs) ∧ fs.lookup m = none ∧ t σ H1 fun ws H2 => sp (x :: (ws ++ dvs)) H2 Q E) : tMeth C m sp dvs E ta t σ H Q := h
theorem r_make {sp : Sp} {dvs : List V} {E : XK} (h : t σ H fun ws H1 => ∀ x dx, H1 x = none → H1 dx = none → dx ≠ x → sp (.ref x :: (ws ++ dvs)) (upd (upd H1 dx (.own x)) x (.ins C dx [])) (fun v H2 => v = .non ∧ Q (.ref x) H2) E) : tMake C sp dvs E t σ H Q := h
theorem r_makeK {n m : Nat} {sp : Sp} {gV : List V → List V → List V} {E : XK} {tk : TA} (h : t σ H fun ws H1 => tk σ H1 fun zs H2 => ws.length = n ∧ zs.length = m ∧ ∀ x dx, H2 x = none → H2 dx = none → dx ≠ x →
  sp (gV (.ref x :: ws) zs) (upd (upd H2 dx (.own x)) x (.ins C dx [])) (fun v H3 => v = .non ∧ Q (.ref x) H3) E) : tMakeK C n m sp gV E t tk σ H Q := h
theorem r_vei (h : t σ H fun vs H1 => ∃ (a C : Addr) (ws : List V), vs = .ref a :: ws ∧ ws.length ≤ 1000 ∧ OexC K C ∧ H1 a = some (exo a C none) ∧ Q .non H1) : tVeI K t σ H Q := h
theorem r_ost {f : Str} (h : tv σ H fun y H1 => ta σ H1 fun x H2 => ∃ a C : Addr, x = .ref a ∧ OexC K C ∧ PySem.W.findIn K (.ref C) f = some none ∧
  ((H2 a = some (exo a C none) ∧ ∀ dx, H2 dx = none → dx ≠ a → D.nx σ (upd (upd H2 dx (exd dx [(f, y)])) a (exo a C (some dx)))) ∨
    ∃ (dx : Addr) (fs : List (Str × V)), H2 a = some (exo a C (some dx)) ∧ H2 dx = some (exd dx fs) ∧ fs.length ≤ 900 ∧ D.nx σ (upd H2 dx (exd dx ((f, y) :: fs))))) : tOst K f ta tv D σ H := h
/-- raise X(e) -/
theorem r_mkx {f : Str} {Qx : XK} (h : t σ H fun vs H1 => ∃ v, vs = [v] ∧ ∀ d H2, Ex H1 H2 → H1 d = none → H2 d = some (.xd [(f, v)]) → Qx (.ref C) (some d) H2) : tMkX C f t σ H Qx := h
end
end SB

set_option Elab.async false
set_option linter.all false
set_option maxHeartbeats 4000000
/-! the rules whose readings name the written part: with the part told -/
namespace SB
open PySem L2 Evl
section
variable {X : Cx} (K : PySem.W.Frag) (e : X.K = K)
include e
theorem k_in : OpR X (compareOp .In) (rIn K false) := e ▸ op_in_seq
theorem k_notIn : OpR X (compareOp .NotIn) (rIn K true) := e ▸ op_notIn_seq
theorem k_ixL : IxR X (rIxL K) := e ▸ ix_list
theorem k_ixT : IxR X (rIxT K) := e ▸ ix_tup
theorem k_slL : SlR X (rSlLM K) := e ▸ sl_listM
theorem k_slT : SlR X (rSlTM K) := e ▸ sl_tupM
theorem k_len : CallR X (.builtin "len") (rLenS K) := e ▸ call_lenQ
theorem k_list : CallR X (.type "list") (rListS K) := e ▸ call_listQ
theorem k_tup : CallR X (.type "tuple") (rTupQ K) := e ▸ call_tupQ
theorem k_isi : CallR X (.builtin "isinstance") (rIsi K) := e ▸ call_isi
theorem k_all (c : X.calm = true) : CallR X (.builtin "all") (rAll K) := e ▸ cr_all c
theorem k_any (c : X.calm = true) : CallR X (.builtin "any") (rAny K) := e ▸ cr_any c
theorem k_min (c : X.calm = true) : CallR X (.builtin "min") (rMin K) := e ▸ cr_min c
theorem k_max (c : X.calm = true) : CallR X (.builtin "max") (rMax K) := e ▸ cr_max c
theorem k_sortedS : CallR X (.builtin "sorted") (rSortedS K) := e ▸ cr_sortedS
theorem k_eqD (hu : X.A.units + 64 < cLine) : OpR X (compareOp .Eq) (rEqD K) := e ▸ op_eqD hu
theorem k_neD (hu : X.A.units + 64 < cLine) : OpR X (compareOp .NotEq) (rNeD K) := e ▸ op_neD hu
theorem k_catT : OpR X (binaryOp .Add) (rCatTM K) := e ▸ op_catTM
variable {a : Expr} {es : List Expr} {ta : TE} {tA : TA} {f : Str} {pos p p2 q : Pos} {tg : Expr} {k n : Nat} {t : TGs}
theorem k_fld (ha : PE X a ta) (hb : attributeBase a f X.env (eval a X.env) = eval a X.env := by rfl) : PE X (.Attribute a f pos) (tFld K ta f) := e ▸ pe_fld ha hb
theorem k_pil (ha : PE X a ta) : PI X tg a (iList K ta) := e ▸ pi_list ha
theorem k_pit (ha : PE X a ta) : PI X tg a (iTup K ta) := e ▸ pi_tup ha
theorem k_gtup (hc : X.calm = true) (h : PGs X es t) (hn : (assignEach es X.env).length = n := by rfl) (hst : (assignEach es X.env).findIdx? (·.1) = none := by rfl) : PG X (.Tuple es k pos) (gTup K n t) := e ▸ pg_tup hc h hn hst
theorem k_lenSet (calm : X.calm = true) (gl : Gl X "len") (ml : X.mg "len" = none) (gs : Gl X "set") (ms : X.mg "set" = none) (ha : PE X a ta)
    (st : starEach [a] X.env = (false, eval a X.env) :: starEach [] X.env := by rfl) : PE X (.Call (.Name "len" p) [.Call (.Name "set" p2) [a] [] q] [] pos) (tLenSetT K ta) := e ▸ pe_lenSetT calm gl ml gs ms ha st
variable {CX : CXT} {C fa : Addr} {fd : FuncData} {ps : List Str} {sp : Sp} {E : XK}
theorem k_eqO (D : Dun X.K C "__eq__" fa) (F : FnOk X.prog X.w X.K X.mg X.base CX k fa fd ps sp) (hr : Room k X.A) (hb : Binds X.K fd ps []) (hx : Passes CX X E) : OpR X (compareOp .Eq) (rEqO K C sp E) := e ▸ op_eqO D F hr hb hx
end
theorem r_gtup {K : PySem.W.Frag} {n : Nat} {t : TGs} {v : V} {σ : L2.St} {H : Hp} {Q : L2.St → Hp → Prop} (h : ∃ a xs, v = .ref a ∧ SqT K H a xs ∧ xs.length = n ∧ t xs σ H Q) : gTup K n t v σ H Q := h
theorem r_gtupE {K : PySem.W.Frag} {n : Nat} {t : TGs} {a : Addr} {xs : List V} {σ : L2.St} {H : Hp} {Q : L2.St → Hp → Prop} (h : SqT K H a xs) (hn : xs.length = n) (q : t xs σ H Q) : gTup K n t (.ref a) σ H Q := ⟨a, xs, rfl, h, hn, q⟩
theorem r_eqO {K : PySem.W.Frag} {C a dx : Addr} {sp : Sp} {E : XK} {fs : List (Str × V)} {y : V} {t : Value} {H : Hp} {Q : VK} (h : H a = some (.ins C dx fs)) (ty : TyX K H y t) (nf : PySem.W.notFirst K C t = true) (q : sp [.ref a, y] H (fun v H2 => ∃ b, v = .bl b ∧ Q (.bl b) H2) E) : rEqO K C sp E (.ref a) y H Q := ⟨a, dx, fs, t, rfl, h, ty, nf, q⟩
theorem r_gnil {σ : L2.St} {H : Hp} {Q : L2.St → Hp → Prop} (q : Q σ H) : gNil [] σ H Q := ⟨rfl, q⟩
theorem r_gcons {t : TG} {u : TGs} {v : V} {r : List V} {σ : L2.St} {H : Hp} {Q : L2.St → Hp → Prop} (q : t v σ H fun s h => u r s h Q) : gCons t u (v :: r) σ H Q := ⟨v, r, rfl, q⟩
end SB

set_option Elab.async false
set_option linter.all false
set_option maxHeartbeats 4000000
/-! xs[::e], e one or minus one -/
namespace SB
open PySem PySem.Spec PyProof.Rows L2 Evl
theorem pick_one (items : Array Value) : slicePick items none none (some 1) = items := by
  unfold slicePick
  have e : sliceBounds none none (some 1) items.size = (0, (items.size : Int), 1) := by
    first | rfl | simp [sliceBounds]
  rw [e]
  have r : sliceRange 0 (items.size : Int) 1 = List.range items.size := by
    have key : ∀ n : Nat, sliceRange 0 (n : Int) 1 = List.range n := by
      intro n
      unfold sliceRange
      by_cases h : (n : Int) > 0
      · have e : ((n : Int) - 0 + 1 - 1) / 1 = (n : Int) := by rw [Int.ediv_one]; omega
        have e2 : ((if (1 : Int) > 0 then (if (n : Int) > 0 then ((n : Int) - 0 + 1 - 1) / 1 else 0) else 0)).toNat = n := by
          rw [if_pos (by decide), if_pos h, e]; simp
        apply List.ext_getElem
        · have hp : 0 < n := by omega
          simp [hp]
        · intro i h1 h2
          simp
      · have z : n = 0 := by omega
        subst z
        simp
    exact key items.size
  rw [r, PySem.W.krv_all]
def tStepL (K : PySem.W.Frag) (te ts : TE) : TE := fun σ H Q => te σ H fun x H1 => ts σ H1 fun y H2 => ∃ (a : Addr) (xs : List V) (n : Int), x = .ref a ∧ y = .int n ∧ (n = 1 ∨ n = -1) ∧ SqL K H2 a xs ∧
  ∀ p H3, H2 p = none → Ex H2 H3 → H3 p = some (.lst (if n = 1 then xs else xs.reverse)) → Q (.ref p) H3
theorem pe_stepL {X : Cx} {K : PySem.W.Frag} (eK : X.K = K) {e st : Expr} {te ts : TE} {p1 pos : Pos} (he : PE X e te) (hst : PE X st ts)
    (hs : subscripted (.Slice none none (some st) p1) = subscripted (.Slice none none (some st) p1) := by rfl) : PE X (.Subscript e (.Slice none none (some st) p1) pos) (tStepL K te ts) := by
  subst eK
  refine ⟨fun pins s σ H Q I h => ?_⟩
  refine Subscript_ (thn (he.run pins s σ H _ I h) fun v s1 ⟨x, H1, I1, r1, q1⟩ => ?_)
  refine wpAny_Slice (thn (po_none.run pins s1 σ H1 (fun o H2 => o = none ∧ H2 = H1) I1 ⟨rfl, rfl⟩) fun vl s2 ⟨l, H2, I2, pl, el, e2⟩ => ?_)
  subst el e2
  refine thn (po_none.run pins s2 σ H2 (fun o H3 => o = none ∧ H3 = H2) I2 ⟨rfl, rfl⟩) fun vu s3 ⟨u, H3, I3, pu, eu, e3⟩ => ?_
  subst eu e3
  have q2 : ∃ Q0 : VK, ts σ H3 Q0 ∧ ∀ y H4, Q0 y H4 → ∃ (a : Addr) (xs : List V) (n : Int), x = .ref a ∧ y = .int n ∧ (n = 1 ∨ n = -1) ∧ SqL X.K H4 a xs ∧
    ∀ p H5, H4 p = none → Ex H4 H5 → H5 p = some (.lst (if n = 1 then xs else xs.reverse)) → Q (.ref p) H5 := ⟨_, q1, fun _ _ z => z⟩
  obtain ⟨Q0, q1, m⟩ := q2
  refine thn (hst.run pins s3 σ H3 Q0 I3 q1) fun vs s4 ⟨y, H4, I4, ps, z⟩ => ?_
  obtain ⟨a, xs, n, rfl, rfl, hn, hx, q⟩ := m _ _ z
  cases r1
  obtain ⟨tk, rfl⟩ := ps
  have I5 : Inv X pins σ H4 { s4 with heap := s4.heap.push { cls := .type "slice", data := .fields #[vl, vu, .int n tk] } } := I4.kept (t' := s4.toks) fun b ob q => Heap.get?_push_of_some _ q
  obtain ⟨its, r, ht, hz⟩ := I5.list hx
  have hlen := r.length
  have pk : slicePick its.toArray none none (some n) = (if n = 1 then its else its.reverse).toArray := by
    rcases hn with rfl | rfl
    · rw [pick_one]; rfl
    · rw [PySem.W.krv_pick]; rfl
  refine tail_any (ops := [.ref a, .ref s4.heap.objs.size]) ht.isList.typeIs (PySem.slot_list_getitem.lookup) ?_ (by with_unfolding_all rfl)
  refine wpAny_getItem_list_slice ht.isList (Heap.IsSliceOf.new _ vl vu (.int n tk)) pl pu (IsPart.int n tk) (by rcases hn with rfl | rfl <;> decide) ?_ (by rw [List.size_toArray]; omega)
  rw [pk]
  refine ⟨.ref _, _, I5.laid (t' := s4.toks) (o := .lst (if n = 1 then xs else xs.reverse)) (fun b ob q => Heap.get?_push_of_some _ q) (Nat.le_refl _) ?_, rfl, q _ _ (I5.hok.fresh (Nat.le_refl _)) (Ex.new (I5.hok.fresh (Nat.le_refl _))) upd_same⟩
  rcases hn with rfl | rfl
  · exact ⟨hz, its, 0, r, Heap.get?_push_size _ rfl⟩
  · exact ⟨by show xs.reverse.length ≤ _; rw [List.length_reverse]; exact hz, its.reverse, 0, r.reverse, Heap.get?_push_size _ rfl⟩
end SB
namespace SB
open PySem L2 Evl
/-! ### data -/
mutual
theorem Dp.up {K : PySem.W.Frag} {H H' : Hp} (e : Ex H H') : ∀ {v : V} {d : PyData}, Dp K H v d → Dp K H' v d
  | _, _, .non => .non
  | _, _, .bl b => .bl b
  | _, _, .int i => .int i
  | _, _, .str x => .str x
  | _, _, .lst h a => .lst (ex_l e h) (DpAll.up e a)
  | _, _, .tup h a => .tup (ex_t e h) (DpAll.up e a)
theorem DpAll.up {K : PySem.W.Frag} {H H' : Hp} (e : Ex H H') : ∀ {vs : List V} {ds : List PyData}, DpAll K H vs ds → DpAll K H' vs ds
  | _, _, .nil => .nil
  | _, _, .cons h a => .cons (Dp.up e h) (DpAll.up e a)
end
theorem dpAll_strs {K : PySem.W.Frag} {H : Hp} : ∀ ws : List Str, DpAll K H (ws.map V.str) (ws.map PyData.str)
  | [] => .nil
  | w :: r => .cons (.str w) (dpAll_strs r)
theorem r_eqD {K : PySem.W.Frag} {x y : V} {d e : PyData} {H : Hp} {Q : VK} (h1 : Dp K H x d) (h2 : Dp K H y e) (s1 : SeqAt.shaped d = true) (s2 : SeqAt.shaped e = true) (q : Q (.bl (PyData.eqv d e)) H) : rEqD K x y H Q := ⟨d, e, h1, h2, s1, s2, q⟩
theorem r_neD {K : PySem.W.Frag} {x y : V} {d e : PyData} {H : Hp} {Q : VK} (h1 : Dp K H x d) (h2 : Dp K H y e) (s1 : SeqAt.shaped d = true) (s2 : SeqAt.shaped e = true) (q : Q (.bl (!PyData.eqv d e)) H) : rNeD K x y H Q := ⟨d, e, h1, h2, s1, s2, q⟩
theorem eqv_same {d : PyData} (s : SeqAt.shaped d = true) : PyData.eqv d d = true := SeqAt.eqv_refl d (SeqAt.canLay_of_shaped s)
theorem lay_all : ∀ {ds : List PyData}, (∀ d ∈ ds, d.canLay0 = true) → PyData.canLayAll0 ds = true
  | [], _ => rfl
  | d :: r, h => by
    unfold PyData.canLayAll0
    rw [h d List.mem_cons_self, lay_all (ds := r) fun x hx => h x (List.mem_cons_of_mem _ hx)]
    rfl
theorem dep_all {n : Nat} : ∀ {ds : List PyData}, (∀ d ∈ ds, d.depth ≤ n) → PyData.depthAll ds ≤ n
  | [], _ => Nat.zero_le _
  | d :: r, h => by
    unfold PyData.depthAll
    exact Nat.max_le.mpr ⟨h d List.mem_cons_self, dep_all fun x hx => h x (List.mem_cons_of_mem _ hx)⟩
/-- data of small depth that can be laid -/
def Nice (n : Nat) (d : PyData) : Prop := d.canLay0 = true ∧ d.depth ≤ n
theorem nice_none {n : Nat} : Nice n .none := ⟨rfl, by simp [PyData.depth]⟩
theorem nice_bool {n : Nat} {b : Bool} : Nice n (.bool b) := ⟨rfl, by simp [PyData.depth]⟩
theorem nice_int {n : Nat} {i : Int} : Nice n (.int i) := ⟨rfl, by simp [PyData.depth]⟩
theorem nice_str {n : Nat} {z : Str} (h : PyData.strOk z = true) : Nice n (.str z) := ⟨by simpa [PyData.canLay0] using h, by simp [PyData.depth]⟩
theorem nice_tup {n : Nat} {ds : List PyData} (h : ∀ d ∈ ds, Nice n d) : Nice (n + 1) (.tuple ds) := ⟨by simpa [PyData.canLay0] using lay_all fun d hd => (h d hd).1, by
  have := dep_all fun d hd => (h d hd).2
  simp only [PyData.depth]; omega⟩
theorem nice_list {n : Nat} {ds : List PyData} (h : ∀ d ∈ ds, Nice n d) : Nice (n + 1) (.list ds) := ⟨by simpa [PyData.canLay0] using lay_all fun d hd => (h d hd).1, by
  have := dep_all fun d hd => (h d hd).2
  simp only [PyData.depth]; omega⟩
theorem Nice.shaped {n : Nat} {d : PyData} (h : Nice n d) (hn : n ≤ 64) : SeqAt.shaped d = true := by
  unfold SeqAt.shaped
  rw [h.1, decide_eq_true (Nat.le_trans h.2 hn)]
  rfl
theorem nice_strs {n : Nat} {ws : List Str} (h : ∀ w ∈ ws, PyData.strOk w = true) : ∀ d ∈ ws.map PyData.str, Nice n d := fun d hd => by
  obtain ⟨w, hw, rfl⟩ := List.mem_map.mp hd
  exact nice_str (h w hw)
theorem strOk_word {z : Str} (h : isWord z = true) : PyData.strOk z = true := by
  unfold isWord at h
  simp only [Bool.and_eq_true, List.all_eq_true, decide_eq_true_eq] at h
  have low : ∀ c ∈ letters, c < 0x110000 := by decide +kernel
  unfold PyData.strOk
  rw [← Array.all_toList, List.all_eq_true]
  intro c hc
  exact decide_eq_true (low c (h.2 c hc))
/-- texts of one and two letters -/
def sg (l : Nat) : Str := ⟨#[l]⟩
theorem sg_app (a : Str) (l : Nat) : (a ++ sg l).cps.toList = a.cps.toList ++ [l] := by
  have : (a ++ sg l).cps = a.cps ++ #[l] := rfl
  rw [this]; simp
theorem str_ext {a b : Str} (h : a.cps.toList = b.cps.toList) : a = b := by
  obtain ⟨x⟩ := a
  obtain ⟨y⟩ := b
  congr
  exact Array.toList_inj.mp h
theorem str_len (a : Str) : a.length = a.cps.toList.length := by show a.cps.size = _; simp
def rAddSQ : R2 := fun x y H Q => ∃ i j, x = .str i ∧ y = .str j ∧ i.length + j.length ≤ sizeLine ∧ Q (.str (i ++ j)) H
theorem op_addSQ {X : Cx} : OpR X (binaryOp .Add) rAddSQ := op_add_str
theorem r_addS {i j : Str} {H : Hp} {Q : VK} (h : i.length + j.length ≤ 100000) (q : Q (.str (i ++ j)) H) : rAddSQ (.str i) (.str j) H Q := ⟨i, j, rfl, rfl, sz_of h, q⟩
theorem r_ixS {z : Str} {i : Int} {c : Nat} {H : Hp} {Q : VK} (hz : z.length ≤ 100000) (h : atI z.cps.toList i = some c) (q : Q (.str (sg c)) H) : rIxS (.str z) (.int i) H Q := ⟨z, i, c, rfl, rfl, sz_of hz, h, q⟩
theorem r_ixT {K : PySem.W.Frag} {p : Addr} {i : Int} {xs : List V} {v : V} {H : Hp} {Q : VK} (h : SqT K H p xs) (e : atI xs i = some v) (q : Q v H) : rIxT K (.ref p) (.int i) H Q := ⟨p, xs, i, v, rfl, rfl, h, e, q⟩
theorem r_step {K : PySem.W.Frag} {te ts : TE} {σ : L2.St} {H : Hp} {Q : VK} (h : te σ H fun x H1 => ts σ H1 fun y H2 => ∃ (a : Addr) (xs : List V) (n : Int), x = .ref a ∧ y = .int n ∧ (n = 1 ∨ n = -1) ∧ SqL K H2 a xs ∧
  ∀ p H3, H2 p = none → Ex H2 H3 → H3 p = some (.lst (if n = 1 then xs else xs.reverse)) → Q (.ref p) H3) : tStepL K te ts σ H Q := h
theorem r_rU {g : Int → V} {a : Int} {H : Hp} {Q : VK} (q : Q (g a) H) : rU g (.int a) H Q := ⟨a, rfl, q⟩
/-! ### all but the well -/
def fz (p : Addr) (H : Hp) : Hp := fun a => if a = p then none else H a
theorem fz_ex {p : Addr} {H : Hp} : Ex (fz p H) H := fun a o h => by
  unfold fz at h
  split at h
  · cases h
  · exact h
theorem fz_at {p a : Addr} {H : Hp} {o : HO} (h : H a = some o) (ne : a ≠ p) : fz p H a = some o := by unfold fz; rw [if_neg ne]; exact h
theorem fz_sm {p : Addr} {H H1 : Hp} (s : Sm p H H1) : Ex (fz p H) (fz p H1) := fun a o h => by
  by_cases e : a = p
  · unfold fz at h; rw [if_pos e] at h; cases h
  · exact fz_at (s a o e (fz_ex a o h)) e
theorem well_ne {p a : Addr} {n : Nat} {H : Hp} {o : HO} (w : WellAt H p n) (h : H a = some o) (d : ∀ xs, o ≠ .lst xs) : a ≠ p := fun e => by
  obtain ⟨x, y, z, hp, _⟩ := w
  rw [e, hp] at h
  exact d _ (Option.some.inj h).symm
theorem new_ne {p a : Addr} {n : Nat} {H : Hp} (w : WellAt H p n) (h : H a = none) : a ≠ p := fun e => w.some (e ▸ h)
theorem sqT_fz {K : PySem.W.Frag} {p a : Addr} {n : Nat} {H : Hp} {xs : List V} (w : WellAt H p n) (h : SqT K H a xs) : SqT K (fz p H) a xs := by
  rcases h with (h | ⟨o, h⟩) | h
  · exact .inl (.inl (fz_at h (well_ne w h fun _ z => nomatch z)))
  · exact .inl (.inr ⟨o, fz_at h (well_ne w h fun _ z => nomatch z)⟩)
  · exact .inr h
theorem ty_sqT {K : PySem.W.Frag} {H : Hp} {a : Addr} {xs : List V} (h : SqT K H a xs) : TyX K H (.ref a) (.type "tuple") := by
  rcases h with (h | ⟨o, h⟩) | ⟨o, its, n, h, c, _⟩
  · exact .base (.tup h)
  · exact .fTuple h
  · exact .kTuple h c
theorem sm_new {p a : Addr} {H H1 : Hp} {n m : Nat} (w : WellAt H p n) (s : Sm p H H1) (h : H1 a = none) (w1 : WellAt H1 p m) : H a = none := by
  cases e : H a with
  | none => rfl
  | some o =>
    by_cases q : a = p
    · exact absurd (q ▸ h) w1.some
    · rw [s a o q e] at h; cases h
theorem r_cut {t u : TS} {D : Ends} {σ : L2.St} {H : Hp} (Mid : L2.St → Hp → Prop) (h : t { D with nx := Mid } σ H) (k : ∀ σ' H', Mid σ' H' → u D σ' H') : tCut t u D σ H := ⟨Mid, h, k⟩
/-- a law: a list of at most 63 ints is handed in, True comes out -/
def spLaw (K : PySem.W.Frag) : Sp := fun vs H Q _ => ∃ (a : Addr) (ns : List Int), vs = [.ref a] ∧ SqL K H a (ns.map V.int) ∧ ns.length ≤ 63 ∧ ∀ H', Q (.bl true) H'
theorem cutV_int (ns : List Int) (lo hi : Option Int) : ∃ ms : List Int, cutV (ns.map V.int) lo hi = ms.map V.int ∧ ms.length ≤ ns.length := by
  refine ⟨(ns.drop (HT.sIx (ns.map V.int).length 0 lo)).take (HT.sIx (ns.map V.int).length (ns.map V.int).length hi - HT.sIx (ns.map V.int).length 0 lo), ?_, ?_⟩
  · unfold cutV; rw [← List.map_drop, ← List.map_take]
  · rw [List.length_take, List.length_drop]; omega
theorem sqT_lift {K : PySem.W.Frag} {G H : Hp} {a : Addr} {xs : List V} (g : ∀ b o, (∀ l, o ≠ .lst l) → H b = some o → G b = some o) (h : SqT K H a xs) : SqT K G a xs := by
  rcases h with (h | ⟨o, h⟩) | h
  · exact .inl (.inl (g _ _ (fun _ z => nomatch z) h))
  · exact .inl (.inr ⟨o, g _ _ (fun _ z => nomatch z) h⟩)
  · exact .inr h
end SB

set_option Elab.async false
set_option linter.all false
set_option maxRecDepth 100000
/-! which class stands below which, from the facts that the head answers -/
namespace SB
open PySem PySem.Spec PyProof.Rows L2
theorem kit_sub {K : PySem.W.Frag} {t : Value} {S : Addr} {b : Bool} (ne : (t == .ref S) = false) (h2 : PySem.W.isClsIn K S = true) (h3 : PySem.W.typeIn K (.ref S) = some (.type "type")) (h4 : PySem.W.subIn K t (.ref S) = some b) : PySem.W.kitOne K t (.ref S) = some b := by
  have e2 : ((PySem.W.clsIn K S).isSome && PySem.W.typeIn K (.ref S) == some (.type "type")) = true := by
    have h5 : (PySem.W.clsIn K S).isSome = true := h2
    rw [h5, h3] <;> rfl
  unfold PySem.W.kitOne
  rw [if_neg (by rw [ne]; exact Bool.false_ne_true)]
  show (if ((PySem.W.clsIn K S).isSome && PySem.W.typeIn K (.ref S) == some (.type "type")) = true then PySem.W.subIn K t (.ref S) else none) = some b
  rw [if_pos e2]
  exact h4
theorem exm_sub {K : PySem.W.Frag} {t : Value} {S : Addr} {b : Bool} (h1 : PySem.W.subIn K (.ref S) (.type "BaseException") = some true) (h2 : PySem.W.isClsIn K S = true) (h3 : PySem.W.typeIn K (.ref S) = some (.type "type")) (h4 : PySem.W.subIn K t (.ref S) = some b) : PySem.W.exmOne K t (.ref S) = some b := by
  have e2 : ((PySem.W.clsIn K S).isSome && PySem.W.typeIn K (.ref S) == some (.type "type")) = true := by
    have h5 : (PySem.W.clsIn K S).isSome = true := h2
    rw [h5, h3] <;> rfl
  have e1 : (PySem.W.subIn K (.ref S) (.type "BaseException") == some true) = true := by rw [h1] <;> rfl
  unfold PySem.W.exmOne
  rw [if_pos e1]
  show (if ((PySem.W.clsIn K S).isSome && PySem.W.typeIn K (.ref S) == some (.type "type")) = true then PySem.W.subIn K t (.ref S) else none) = some b
  rw [if_pos e2]
  exact h4
/-- one class below another, or itself -/
theorem kit_subT {K : PySem.W.Frag} {t : Value} {S : Addr} (h2 : PySem.W.isClsIn K S = true) (h3 : PySem.W.typeIn K (.ref S) = some (.type "type")) (h4 : PySem.W.subIn K t (.ref S) = some true) : PySem.W.kitOne K t (.ref S) = some true := by
  by_cases e : (t == Value.ref S) = true
  · unfold PySem.W.kitOne
    rw [if_pos e]
  · exact kit_sub (by simpa using e) h2 h3 h4
/-- two classes, none below the other -/
theorem kit_subN {K : PySem.W.Frag} {R S : Addr} (hs : PySem.W.subIn K (.ref R) (.ref R) = some true) (h2 : PySem.W.isClsIn K S = true) (h3 : PySem.W.typeIn K (.ref S) = some (.type "type")) (h4 : PySem.W.subIn K (.ref R) (.ref S) = some false) : PySem.W.kitOne K (.ref R) (.ref S) = some false := by
  refine kit_sub ?_ h2 h3 h4
  cases e : (Value.ref R == Value.ref S) with
  | false => rfl
  | true =>
    obtain rfl : R = S := Value.ref.inj (beq_iff_eq.mp e)
    rw [hs] at h4
    cases h4
end SB

set_option Elab.async false
set_option linter.all false
set_option maxRecDepth 100000
set_option maxHeartbeats 4000000
/-! try with several clauses, each with or without a name -/
namespace SB
open PySem PySem.Spec PyProof.Rows L2
/-- a clause: the class that it names, its name's slot, its suite -/
structure Clz where
  c : Value
  o : Option Nat
  ts : Addr → Value → Option Addr → TS
/-- the slot of the name holds v -/
def nm (o : Option Nat) (v : Option V) (σ : L2.St) : L2.St := match o with
  | none => σ
  | some i => σ.set i v
/-- the suite's ends, the name gone -/
def ends (o : Option Nat) (D : Ends) : Ends := { nx := fun σ H => D.nx (nm o none σ) H, rt := D.rt, bk := fun σ H => D.bk (nm o none σ) H, ct := fun σ H => D.ct (nm o none σ) H }
def wCl (K : PySem.W.Frag) (Wout : WX) (D : Ends) : List Clz → WX
  | [] => Wout
  | z :: r => fun cls d σ H => ∃ b, PySem.W.exmOne K cls z.c = some b ∧ (b = true → ∀ a, H a = none → z.ts a cls d (ends z.o D) (nm z.o (some (.ref a)) σ) H) ∧ (b = false → wCl K Wout D r cls d σ H)
inductive ClOk (X : Cx) : List ExceptHandler → List Clz → Prop
  | nil : ClOk X [] []
  | bare {x : Str} {c : Value} {ts : Addr → Value → Option Addr → TS} {b : Stmt} {su : List Stmt} {p q : Pos} {hs : List ExceptHandler} {l : List Clz} (hc : Names X x c)
      (hsu : ∀ (a : Addr) (oe : Obj) (cls : Value) (d : Option Addr) (pn : List (Addr × Obj)), Zc cls d oe → (∃ vs, oe.data = .fields vs) → PSs (X.suite a ((a, oe) :: pn)) (b :: su) (ts a cls d))
      (r : ClOk X hs l) : ClOk X (.ExceptHandler (some (.Name x p)) none (b :: su) q :: hs) (⟨c, none, ts⟩ :: l)
  | named {x n : Str} {i : Nat} {c : Value} {ts : Addr → Value → Option Addr → TS} {b : Stmt} {su : List Stmt} {p q : Pos} {hs : List ExceptHandler} {l : List Clz} (hN : X.N.Nodup) (hi : X.N[i]? = some n) (hk : X.env.kindOf n = some .local) (hc : Names X x c)
      (hsu : ∀ (a : Addr) (oe : Obj) (cls : Value) (d : Option Addr) (pn : List (Addr × Obj)), Zc cls d oe → (∃ vs, oe.data = .fields vs) → PSs (X.suite a ((a, oe) :: pn)) (b :: su) (ts a cls d))
      (r : ClOk X hs l) : ClOk X (.ExceptHandler (some (.Name x p)) (some n) (b :: su) q :: hs) (⟨c, some i, ts⟩ :: l)
/-- an exception at a that this frame has noted; sI: the state without it -/
structure Got (X : Cx) (pins : List (Addr × Obj)) (σ : L2.St) (H : Hp) (cls : Value) (d : Option Addr) (a : Addr) (B : Heap) (sI s : Shared) : Prop where
  inv : Inv X pins σ H sI
  nb : ∀ b o, sI.heap.get? b = some o → b ∉ frs X.stack → B.get? b = some o
  up : sI.heap.UpToSlots s.heap
  os : s.os = sI.os
  ag : AllBare s.gens
  na : H a = none
  fl : HandSPX.FlyingZ B (X.env :: X.outer) a (Zc cls d) s.heap
section
variable {X : Cx} {pins : List (Addr × Obj)} {σ : L2.St} {H : Hp} {cls : Value} {d : Option Addr} {a : Addr} {B : Heap} {sI s : Shared} {D : Ends} {Wout : WX}
theorem Got.here (g : Got X pins σ H cls d a B sI s) : Inv X pins σ H s := g.inv.landed g.nb g.fl.1 g.up g.os g.ag
theorem Got.off (g : Got X pins σ H cls d a B sI s) (hf : X.env.frame = some X.env.locals) : ∃ oe vs, s.heap.get? a = some oe ∧ Zc cls d oe ∧ oe.data = .fields vs ∧ a ≠ X.env.locals ∧ a ∉ X.fs := by
  obtain ⟨oe, vs, h1, h2, h3⟩ := g.fl.there
  have out : a ∉ frs (X.env :: X.outer) := by
    intro hm
    obtain ⟨_, o1, z, nf⟩ := g.fl.2.2.1.mem hm
    have zz := z.symm.trans h1
    injection zz with zz
    exact nf vs (by rw [zz]; exact h3)
  refine ⟨oe, vs, h1, h2, h3, fun z => ?_, fun hm => ?_⟩
  · refine out (List.mem_filterMap.mpr ⟨X.env, by simp, ?_⟩)
    rw [z]
    exact hf
  · obtain ⟨e, he, q⟩ := List.mem_filterMap.mp hm
    exact out (List.mem_filterMap.mpr ⟨e, List.mem_cons.mpr (.inr he), q⟩)
theorem Got.land (g : Got X pins σ H cls d a B sI s) {h : Heap} (fl : HandSPX.FlyingZ B (X.env :: X.outer) a (Zc cls d) h) (u : s.heap.UpToSlots h) : Got X pins σ H cls d a B sI { s with heap := h } :=
  ⟨g.inv, g.nb, g.up.trans u, g.os, g.ag, g.na, fl⟩
theorem Got.suite (g : Got X pins σ H cls d a B sI s) (hf : X.env.frame = some X.env.locals) : ∃ oe vs, Zc cls d oe ∧ oe.data = .fields vs ∧ s.heap.get? a = some oe ∧ Inv (X.suite a ((a, oe) :: (X.pn ++ pins))) [] σ H s := by
  obtain ⟨oe, vs, e1, e2, e3, e4, e5⟩ := g.off hf
  exact ⟨oe, vs, e2, e3, e1, g.here.suite e1 e3 g.na e4 e5⟩
/-- no clause is left: it flies on -/
theorem Got.fly (g : Got X pins σ H cls d a B sI s) (hs : X.stack = X.env :: X.outer) (hf : X.env.frame = some X.env.locals) (tk : Takes X Wout) (w : Wout cls d σ H) : wpAny (model X.prog X.w) X.A (handleBy (.ref a) X.env []) (SP X pins D) X.xe s := by
  refine wpAny_handleBy_nil ?_
  obtain ⟨_, _, _, oe, vs, T, oT, ts, q1, _, q2, q3, _⟩ := id g.fl
  have go : wpAny (model X.prog X.w) X.A (setFlight (.ref a) X.env.frame) (fun _ u => wpAny (model X.prog X.w) X.A (throw (.ref a) : Sem Flow) (SP X pins D) X.xe u) X.xe s := by
    rw [hf]
    refine HandSPX.setFlight_upZ g.fl fun h' hh u => wpAny_throw (tk _ _ ?_)
    refine ⟨a, B, sI, pins, σ, H, cls, d, rfl, g.inv, g.nb, g.up.trans u, ?_, g.na, g.os, g.ag, w⟩
    rw [hs]
    exact .inr (.inr hh)
  unfold PySem.passOn
  refine wpAny_bind (wpAny_field q1 q2 q3 ?_)
  have no : ¬ ((Value.ref T == Value.none) = true) := by simp
  rw [if_neg no]
  first | exact wpAny_bind (wpAny_pure (wpAny_bind go)) | exact wpAny_bind go
/-- the class that a clause names is looked up -/
theorem names_ok {x : Str} {c : Value} {p : Pos} {pn : List (Addr × Obj)} {oe : Obj} (hc : Names X x c) (I : Inv (X.suite a ((a, oe) :: pn)) [] σ H s) {Q E : Value → Shared → Prop} (q : Q c s) : wpAny (model X.prog X.w) (X.A.mark (some (.ref a))) (eval (.Name x p) X.env) Q E s := by
  obtain ⟨g1, g2, g3⟩ := hc
  rcases g3 with m | ⟨m, bb, ne⟩
  · exact ld_glob (X := X.suite a ((a, oe) :: pn)) I g1 m q g2
  · exact ld_blt (X := X.suite a ((a, oe) :: pn)) I g1 m bb q ne g2
/-- the clauses -/
theorem handle_ok {hds : List ExceptHandler} {l : List Clz} (hh : ClOk X hds l) (hs : X.stack = X.env :: X.outer) (hf : X.env.frame = some X.env.locals) (tk : Takes X Wout) :
    ∀ {s : Shared}, Got X pins σ H cls d a B sI s → wCl X.K Wout D l cls d σ H → wpAny (model X.prog X.w) X.A (handleBy (.ref a) X.env hds) (SP X pins D) X.xe s := by
  induction hh with
  | nil => intro s g w; exact g.fly hs hf tk w
  | @bare x c ts b0 su p q hs2 l2 hc hsu r ih =>
    intro s g ⟨b, hb, yes, no⟩
    obtain ⟨oe, vs, e1, e2, e3, S⟩ := g.suite hf
    refine wpAny_handleBy_cons (codeAny_handlers_test ?_) (by intro z; cases z)
    have cl : PySem.W.Looks (model X.prog X.w) s.heap (typeOf (.ref a)) cls := by
      intro A2 Q2 E2 s2 kp q2
      refine wpAny_typeOf_ref (kp _ _ e3) ?_
      rw [e1.1]
      exact q2
    refine names_ok hc S ((PySem.W.exm_one (M := model X.prog X.w) g.here.kIn cl hb).here ?_)
    cases b with
    | false => exact ih g (no rfl)
    | true =>
      refine codeAny_handlers_suite (HandSPX.lands_againZ g.fl fun h4 fl4 up4 => ?_)
      have g4 := g.land fl4 up4
      obtain ⟨o4, vs4, z1, z2, z3, S4⟩ := g4.suite hf
      have run := (hsu a o4 cls d (X.pn ++ pins) z1 ⟨vs4, z2⟩).run [] _ σ H (ends none D) S4 (yes rfl a g.na)
      refine wpAny_mono run (fun f s6 sp => ?_) fun _ _ z => z.elim
      have ok := g.inv.ok
      cases f with
      | ret u => obtain ⟨v, σ6, H6, I6, r6, q6⟩ := sp; exact ⟨v, σ6, H6, I6.unsuite ok, r6, q6⟩
      | next => obtain ⟨σ6, H6, I6, q6⟩ := sp; exact ⟨σ6, H6, I6.unsuite ok, q6⟩
      | brk => obtain ⟨σ6, H6, I6, q6⟩ := sp; exact ⟨σ6, H6, I6.unsuite ok, q6⟩
      | cont => obtain ⟨σ6, H6, I6, q6⟩ := sp; exact ⟨σ6, H6, I6.unsuite ok, q6⟩
  | @named x n i c ts b0 su p q hs2 l2 hN hi hk hc hsu r ih =>
    intro s g ⟨b, hb, yes, no⟩
    obtain ⟨oe, vs, e1, e2, e3, S⟩ := g.suite hf
    refine wpAny_handleBy_cons (codeAny_handlers_test ?_) (by intro z; cases z)
    have cl : PySem.W.Looks (model X.prog X.w) s.heap (typeOf (.ref a)) cls := by
      intro A2 Q2 E2 s2 kp q2
      refine wpAny_typeOf_ref (kp _ _ e3) ?_
      rw [e1.1]
      exact q2
    refine names_ok hc S ((PySem.W.exm_one (M := model X.prog X.w) g.here.kIn cl hb).here ?_)
    cases b with
    | false => exact ih g (no rfl)
    | true =>
      refine codeAny_handlers_suite_as (HandSPX.lands_againZ g.fl fun h4 fl4 up4 => ?_)
      have g4 := g.land fl4 up4
      obtain ⟨o4, vs4, z1, z2, z3, S4⟩ := g4.suite hf
      refine store_ok (X := X.suite a ((a, o4) :: (X.pn ++ pins))) (v := .ref a) S4 hN hi (.inl hk) rfl (fun s5 S5 => ?_) (.inr hk)
      have run := (hsu a o4 cls d (X.pn ++ pins) z1 ⟨vs4, z2⟩).run [] s5 _ H (ends (some i) D) S5 (yes rfl a g.na)
      refine wpAny_mono run (fun f s6 sp => ?_) fun _ _ z => z.elim
      have ok := g.inv.ok
      cases f with
      | ret u => obtain ⟨v, σ6, H6, I6, r6, q6⟩ := sp; exact gone_ok (I6.unsuite ok) hN hi hk fun s7 J => ⟨v, _, H6, J, r6, q6⟩
      | next => obtain ⟨σ6, H6, I6, q6⟩ := sp; exact gone_ok (I6.unsuite ok) hN hi hk fun s7 J => ⟨_, H6, J, q6⟩
      | brk => obtain ⟨σ6, H6, I6, q6⟩ := sp; exact gone_ok (I6.unsuite ok) hN hi hk fun s7 J => ⟨_, H6, J, q6⟩
      | cont => obtain ⟨σ6, H6, I6, q6⟩ := sp; exact gone_ok (I6.unsuite ok) hN hi hk fun s7 J => ⟨_, H6, J, q6⟩
/-- the reading of a try: the body's, with the clauses' wish of its exceptions -/
def tTry (K : PySem.W.Frag) (Wout : WX) (l : List Clz) (tb : WX → TS) : TS := fun D σ H => tb (wCl K Wout D l) D σ H
theorem ps_try {body : List Stmt} {h0 : ExceptHandler} {hds : List ExceptHandler} {l : List Clz} {tb : WX → TS} {pos : Pos} (hs : X.stack = X.env :: X.outer) (hf : X.env.frame = some X.env.locals) (tk : Takes X Wout)
    (hb : ∀ (W : WX) (pn : List (Addr × Obj)) (xe : Value → Shared → Prop), Takes (X.tr pn xe) W → PassesOwn (model X.prog X.w) X.A X.env xe → PSs (X.tr pn xe) body (tb W)) (hh : ClOk X (h0 :: hds) l) :
    PS X (.Try body (h0 :: hds) [] [] pos) (tTry X.K Wout l tb) := by
  refine ⟨fun pins s σ H D I h => ?_⟩
  have ok := I.ok
  refine wpAny_Try_except ?_
  let K1 : Value → Shared → Prop := fun e s1 => wpAny (model X.prog X.w) X.A (noteFrame e X.env) (fun _ s2 => wpAny (model X.prog X.w) X.A (setFlight e none) (fun _ s3 => wpAny (model X.prog X.w) X.A (handleBy e X.env (h0 :: hds)) (SP X pins D) X.xe s3) X.xe s2) X.xe s1
  have tk1 : Takes (X.tr (X.pn ++ pins) K1) (wCl X.K Wout D l) := by
    intro u s2 xx
    obtain ⟨a, B, sI, pins2, σ2, H2, cls, d, rfl, J, nb, up, sky, na, os, ag, w⟩ := xx
    have sky2 : Sky B (X.env :: X.outer) a (Zc cls d) X.env.locals s2.heap := hs ▸ sky
    show wpAny (model X.prog X.w) X.A (noteFrame (.ref a) X.env) _ _ _
    refine Sky.land Zc.steady (ok.frames.trans (congrArg some hs)) hf sky2 fun h3 fl3 up3 => ?_
    exact handle_ok hh hs hf tk (⟨J.ofTry ok, nb, up.trans up3, os, ag, na, fl3⟩ : Got X pins σ2 H2 cls d a B sI { s2 with heap := h3 }) w
  refine wpAny_mono ((hb _ _ K1 tk1 PassesOwn.looking).run [] s σ H D (I.toTry K1) h) (fun f s1 sp => ?_) fun e s1 he => he
  cases f with
  | ret u => obtain ⟨v, σ6, H6, I6, r6, q6⟩ := sp; exact ⟨v, σ6, H6, I6.ofTry ok, r6, q6⟩
  | next => obtain ⟨σ6, H6, I6, q6⟩ := sp; exact wpAny_execs_nil ⟨σ6, H6, I6.ofTry ok, q6⟩
  | brk => obtain ⟨σ6, H6, I6, q6⟩ := sp; exact ⟨σ6, H6, I6.ofTry ok, q6⟩
  | cont => obtain ⟨σ6, H6, I6, q6⟩ := sp; exact ⟨σ6, H6, I6.ofTry ok, q6⟩
end
end SB

set_option Elab.async false
set_option linter.all false
set_option maxRecDepth 100000
set_option maxHeartbeats 4000000
/-! stepping through tries; more -/
namespace SB
open PySem PySem.Spec PyProof.Rows L2 Evl
/-- a callee of a try's body -/
def eTry (n : Nat) (W : WX) : XK := fun cls d H => ∀ σ : L2.St, σ.length = n → W cls d σ H
theorem passes_try {X : Cx} {W : WX} (n : Nat) (hn : X.N.length = n) (tk : Takes X W) : Passes (L2.CX X.prog X.w) X (eTry n W) := fun _ σ _ _ e s' I c => tk e s' (XE.of_call I (fun cls d H' h => h σ (I.len.trans hn)) c)
section
variable {K : PySem.W.Frag} {Wout : WX} {l : List Clz} {tb : WX → TS} {D : Ends} {σ : L2.St} {H : Hp}
theorem r_try (h : tb (wCl K Wout D l) D σ H) : tTry K Wout l tb D σ H := h
theorem r_clY {cls : Value} {d : Option Addr} {z : Clz} (h : PySem.W.exmOne K cls z.c = some true) (k : ∀ a, H a = none → z.ts a cls d (ends z.o D) (nm z.o (some (.ref a)) σ) H) : wCl K Wout D (z :: l) cls d σ H :=
  ⟨true, h, fun _ => k, fun z => nomatch z⟩
theorem r_clN {cls : Value} {d : Option Addr} {z : Clz} (h : PySem.W.exmOne K cls z.c = some false) (k : wCl K Wout D l cls d σ H) : wCl K Wout D (z :: l) cls d σ H :=
  ⟨false, h, (fun z => nomatch z), fun _ => k⟩
theorem r_xf {a dd C : Addr} {f : Str} {i : Nat} {fs : List (Str × V)} {v : V} {Q : VK} (h1 : σ[i]? = some (some (.ref a))) (h2 : H dd = some (.xd fs)) (h3 : fs.lookup f = some v) (q : Q v H) : tXf a (.ref C) (some dd) C f (tVar i) σ H Q :=
  ⟨.ref a, h1, rfl, rfl, dd, fs, v, rfl, h2, h3, q⟩
theorem set_len {σ : L2.St} {i : Nat} {v : Option V} (h : i < σ.length) : (σ.set i v)[i]? = some v := List.getElem?_set_self h
theorem r_dnewK {Q : VK} (h : ∀ d H2, H d = none → Ex H H2 → H2 d = some (.dK []) → Q (.ref d) H2) : tDNewK σ H Q := r_new0 h
/-- a text times an int -/
def rRepS : R2 := fun x y H Q => ∃ z k, x = .str z ∧ y = .int k ∧ z.length ≤ 16 ∧ -1000 ≤ k ∧ k ≤ 1000 ∧ Q (.str (Txt.mul z k)) H
theorem op_repS {X : Cx} : OpR X (binaryOp .Mult) rRepS := by
  intro pins s σ H x y v u Q I rx ry h
  obtain ⟨z, k, rfl, rfl, h1, h2, h3, q⟩ := h
  obtain ⟨t, rfl⟩ := rx
  obtain ⟨t', rfl⟩ := ry
  exact PySem.W.KXi.mul (n := z.length) rfl h1 (by omega) (by omega) fun t2 tk _ _ => ⟨.str (Txt.mul z k), H, I.tok _, ⟨_, rfl⟩, q⟩
theorem r_repS {z : Str} {k : Int} {Q : VK} (h1 : z.length ≤ 16) (h2 : -1000 ≤ k) (h3 : k ≤ 1000) (q : Q (.str (Txt.mul z k)) H) : rRepS (.str z) (.int k) H Q := ⟨z, k, rfl, rfl, h1, h2, h3, q⟩
theorem r_bm {T : String} {r : V → List V → Hp → VK → Prop} {to : TE} {t : TA} {Q : VK} (h : to σ H fun x H1 => tyV K T x H1 ∧ t σ H1 fun xs H2 => r x xs H2 Q) : tBM K T r to t σ H Q := h
theorem r_bm0 {T : String} {r : V → List V → Hp → VK → Prop} {to : TE} {Q : VK} (h : to σ H fun x H1 => tyV K T x H1 ∧ r x [] H1 Q) : tBM0 K T r to σ H Q := h
theorem tyL {l : Addr} {xs : List V} (h : SqL K H l xs) : tyV K "list" (.ref l) H := .inl ⟨rfl, xs, h⟩
theorem r_app {l : Addr} {ys : List V} {y : V} {Q : VK} (h : H l = some (.lst ys)) (hz : ys.length < 100000) (q : ∀ H2, H2 l = some (.lst (ys ++ [y])) → Sm l H H2 → Q .non H2) : rAppend (.ref l) [y] H Q :=
  ⟨l, ys, y, rfl, rfl, h, sz_lt hz, q _ upd_same fun b o hb hh => by rw [upd_ne hb]; exact hh⟩
/-- two places frozen -/
def fz2 (p l : Addr) (H : Hp) : Hp := fz l (fz p H)
theorem fz2_p {p l : Addr} : fz2 p l H p = none := by unfold fz2 fz; simp
theorem fz2_l {p l : Addr} : fz2 p l H l = none := by unfold fz2 fz; simp
theorem fz2_ex {p l : Addr} : Ex (fz2 p l H) H := fun a o h => fz_ex a o (fz_ex a o h)
theorem fz2_at {p l a : Addr} {o : HO} (h : H a = some o) (n1 : a ≠ p) (n2 : a ≠ l) : fz2 p l H a = some o := fz_at (fz_at h n1) n2
theorem fz2_up {p l : Addr} {G : Hp} (e : Ex G H) (g1 : G p = none) (g2 : G l = none) : Ex G (fz2 p l H) := fun a o h => fz2_at (e a o h) (fun z => by rw [z, g1] at h; cases h) (fun z => by rw [z, g2] at h; cases h)
theorem Ex.sm {p : Addr} {G H1 : Hp} (e : Ex G H) (g : G p = none) (s : Sm p H H1) : Ex G H1 := fun a o h => s a o (fun z => by rw [z, g] at h; cases h) (e a o h)
theorem r_min {l : Addr} {ns : List Int} {Q : VK} (h : SqL K H l (ns.map V.int)) (hn : ns ≠ []) (q : ∀ m, m ∈ ns → (∀ y, y ∈ ns → m ≤ y) → Q (.int m) H) : rMin K [V.ref l] H Q := ⟨l, ns, rfl, h, List.length_pos_iff.mpr hn, q⟩
/-- many places frozen -/
def fr (ps : List Addr) (H : Hp) : Hp := fun a => if a ∈ ps then none else H a
theorem fr_ex {ps : List Addr} : Ex (fr ps H) H := fun a o h => by
  unfold fr at h
  by_cases e : a ∈ ps
  · rw [if_pos e] at h; cases h
  · rwa [if_neg e] at h
theorem fr_no {ps : List Addr} {p : Addr} (h : p ∈ ps) : fr ps H p = none := by unfold fr; rw [if_pos h]
theorem fr_at {ps : List Addr} {a : Addr} {o : HO} (h : H a = some o) (n : a ∉ ps) : fr ps H a = some o := by unfold fr; rw [if_neg n]; exact h
theorem fr_up {ps : List Addr} {G : Hp} (e : Ex G H) (g : ∀ p ∈ ps, G p = none) : Ex G (fr ps H) := fun a o h => fr_at (e a o h) fun z => by rw [g a z] at h; cases h
/-- what is new over H -/
def nw (H H1 : Hp) : Hp := fun a => match H a with
  | none => H1 a
  | some _ => none
theorem nw_at {H1 : Hp} {a : Addr} {o : HO} (n : H a = none) (h : H1 a = some o) : nw H H1 a = some o := by unfold nw; rw [n]; exact h
theorem nw_no {H1 : Hp} {a : Addr} (n : H a ≠ none) : nw H H1 a = none := by
  unfold nw
  cases e : H a with
  | none => exact absurd e n
  | some o => rfl
theorem nw_none {H1 : Hp} {a : Addr} (n : H1 a = none) : nw H H1 a = none := by
  unfold nw
  cases e : H a with
  | none => exact n
  | some o => rfl
theorem nw_ex {H1 : Hp} : Ex (nw H H1) H1 := fun a o h => by
  unfold nw at h
  cases e : H a with
  | none => rw [e] at h; exact h
  | some u => rw [e] at h; cases h
theorem nw_up {G H1 : Hp} (e : Ex G H1) (n : ∀ a, H a ≠ none → G a = none) : Ex G (nw H H1) := fun a o h => nw_at (by
  cases q : H a with
  | none => rfl
  | some u => rw [n a (by rw [q]; exact fun z => nomatch z)] at h; cases h) (e a o h)
theorem ex_none {H1 : Hp} {a : Addr} (e : Ex H H1) (n : H1 a = none) : H a = none := by
  cases q : H a with
  | none => rfl
  | some o => rw [e a o q] at n; cases n
theorem sm_none {H1 : Hp} {p a : Addr} (e : Sm p H H1) (n : H1 a = none) (h : a ≠ p) : H a = none := by
  cases q : H a with
  | none => rfl
  | some o => rw [e a o h q] at n; cases n
end
end SB

set_option Elab.async false
set_option linter.all false
set_option maxRecDepth 100000
set_option maxHeartbeats 4000000
/-! != of objects with a == of their own -/
namespace SB
open PySem PySem.Spec PyProof.Rows L2 Evl Builtin
section
variable {prog : Program} {w : World} {A : Around} {E : Value → Shared → Prop} {s : Shared} {K : PySem.W.Frag} {x C f : Addr} {ox : Obj} {od : Option Obj} {b tb : Value}
theorem objNe_in {Q : Fin → Shared → Prop} (hu : A.units < cLine) (X : K.In s.heap) (I : PySem.W.InstAt s.heap x ox C od) (hs : PySem.W.findIn K (.ref C) "__eq__" = some (some (.ref f))) (hf : PySem.W.isFn K (.ref f) = true)
    (h : wpAny (model prog w) A (call (.ref f) [.ref x, b]) (fun v s' => ∃ r, v = .bool r ∧ Q (.done (.ret (.bool (!r)))) s') E s) : wpAny (model prog w) A (Builtin.«object.__ne__» ⟨[.ref x, b], []⟩) Q E s := by
  have go : wpAny (model prog w) A (callSpecialIfBound? (.ref x) (Str.ofString "__eq__") [b]) (fun v s' => ∃ r, v = some (.bool r) ∧ Q (.done (.ret (.bool (!r)))) s') E s :=
    PySem.W.ifBound_K X I hs hf (wpAny_mono h (fun v s' z => by obtain ⟨r, rfl, q⟩ := z; exact ⟨r, rfl, q⟩) fun _ _ e => e)
  unfold Builtin.«object.__ne__»
  repeat (first
    | with_reducible refine wpAny_cRoomFor hu ?_
    | (refine wpAny_bind (m := callSpecialIfBound? (.ref x) (Str.ofString "__eq__") [b]) (wpAny_mono go (fun v s' z => ?_) fun _ _ e => e)
       obtain ⟨r, rfl, q⟩ := z
       repeat (first | exact q | exact wpAny_pure q | exact wpAny_truthy_bool q | (refine wpAny_bind (m := truthy (.bool _)) (wpAny_truthy_bool ?_)) | wp_step))
    | wp_step)
theorem ne_own {Q : Value → Shared → Prop} (hu : A.units + 1 < cLine) (X : K.In s.heap) (I : PySem.W.InstAt s.heap x ox C od) (hb : PySem.W.Looks (model prog w) s.heap (typeOf b) tb) (hn : PySem.W.notFirst K C tb = true)
    (hm : PySem.W.mroIn K C (.type "object") = some true) (hne : PySem.W.findIn K (.ref C) "__ne__" = some (some (.builtin "object.__ne__"))) (hs : PySem.W.findIn K (.ref C) "__eq__" = some (some (.ref f))) (hf : PySem.W.isFn K (.ref f) = true)
    (h : wpAny (model prog w) A.in1 (call (.ref f) [.ref x, b]) (fun v s' => ∃ r, v = .bool r ∧ Q (.bool (!r)) s') E s) : wpAny (model prog w) A (richCompare .NotEq (.ref x) b) Q E s := by
  have hu1 : A.in1.units < cLine := hu
  have c1 : wpAny (model prog w) A (call (.builtin "object.__ne__") ([.ref x] ++ [b])) (fun v s' => ∃ r, v = .bool r ∧ Q (.bool r) s') E s := by
    refine wpAny_call (codeAny_call_builtin F.cmp_object.ne.plain F.cmpEntry_ne (PySem.W.check_slot F.cmpKind_ne F.cmpSplit_ne (I.type.andThen (PySem.W.looks_mroIn X hm)) (F.cmpArgs_ne _ _) (objNe_in hu1 X I hs hf (wpAny_mono h (fun v s' z => ?_) fun _ _ e => e))))
    obtain ⟨r, rfl, q⟩ := z
    exact ⟨r, rfl, !r, rfl, q⟩
  have one : wpAny (model prog w) A (tryCompare (.ref x) "__ne__" b) (fun r s' => ∃ v, r = some (.bool v) ∧ Q (.bool v) s') E s := by
    unfold tryCompare
    have sp : PySem.W.Looks (model prog w) s.heap (specialOf (.ref x) "__ne__") (some (.builtin "object.__ne__")) := I.type.andThen (PySem.W.looks_findIn X hne)
    refine wpAny_bind (NtL.csib sp (F.cmp_object.ne.bind _) (wpAny_mono c1 (fun v s' z => ?_) fun _ _ e => e))
    obtain ⟨r, rfl, q⟩ := z
    exact wpAny_pure ⟨r, rfl, q⟩
  unfold richCompare
  rw [cmpInfo_NotEq]
  simp only [oneThing_ref]
  refine wpAny_holding (wpAny_bind (wpAny_cRoomFor (Nat.lt_of_succ_lt hu) (wpAny_bind (I.type.here (wpAny_bind (hb.here ?_))))))
  have fin : ∀ {α : Type} {k : Option Value → Sem α} {R : α → Shared → Prop}, (∀ v s', Q (.bool v) s' → wpAny (model prog w) A (k (some (.bool v))) R E s') → wpAny (model prog w) A (tryCompare (.ref x) "__ne__" b >>= k) R E s := fun hk =>
    wpAny_bind (wpAny_mono one (fun r s' z => by obtain ⟨v, rfl, q⟩ := z; exact hk v s' q) fun _ _ e => e)
  split
  · rename_i q
    have e : PySem.W.subIn K tb (.ref C) = some false := by
      rcases Bool.or_eq_true_iff.mp hn with e | e
      · rw [beq_iff_eq.mp e] at q; simp at q
      · exact beq_iff_eq.mp e
    refine wpAny_bind ((PySem.W.looks_subIn X e).here ?_)
    simp only [Bool.false_eq_true, if_false]
    exact fin fun v s' q => wpAny_pure q
  · refine wpAny_bind (wpAny_pure ?_)
    simp only [Bool.false_eq_true, if_false]
    exact fin fun v s' q => wpAny_pure q
end
/-- object's own != stands -/
structure NeC (K : PySem.W.Frag) (C : Addr) : Prop where
  ne : PySem.W.findIn K (.ref C) "__ne__" = some (some (.builtin "object.__ne__"))
  mr : PySem.W.mroIn K C (.type "object") = some true
def rNeO (K : PySem.W.Frag) (C : Addr) (sp : Sp) (E : XK) : R2 := fun x y H Q => ∃ a dx fs t, x = .ref a ∧ H a = some (.ins C dx fs) ∧ TyX K H y t ∧ PySem.W.notFirst K C t = true ∧ sp [.ref a, y] H (fun v H2 => ∃ b, v = .bl b ∧ Q (.bl (!b)) H2) E
theorem op_neO {X : Cx} {CX : CXT} {k : Nat} {f C : Addr} {fd : FuncData} {ps : List Str} {sp : Sp} {E : XK} (N : NeC X.K C) (D : Dun X.K C "__eq__" f) (F : FnOk X.prog X.w X.K X.mg X.base CX k f fd ps sp) (hr : Room (k + 1) X.A) (hb : Binds X.K fd ps []) (hx : Passes CX X E) : OpR X (compareOp .NotEq) (rNeO X.K C sp E) := by
  intro pins s σ H x y v u Q I rx ry h
  obtain ⟨a, dx, fs, t, rfl, ha, ty, nf, q⟩ := h
  cases rx
  obtain ⟨ox, od, J⟩ := inst_of I ha
  obtain ⟨Pr, Z, p, hne⟩ := kit_of I ry ty
  show wpAny (model X.prog X.w) X.A (richCompare .NotEq (.ref a) u) (EP X pins σ Q) X.xe s
  have hu : X.A.units + 1 < cLine := by have := hr.units; omega
  refine ne_own hu I.kIn J (Z.ty _ _ I.kIn p) nf N.mr N.ne D.at_ D.fn (wpAny_mono (run_at rfl F hr.in1 hb hx I (.cons (rv_ref (a := a)) (.cons ry .nil)) q) (fun r s2 z => ?_) fun _ _ z => z)
  obtain ⟨w, H2, I2, rw', b, rfl, q2⟩ := z
  cases rw'
  exact ⟨b, rfl, .bl (!b), H2, I2, rfl, q2⟩
theorem k_neO {X : Cx} (K : PySem.W.Frag) (e : X.K = K) {CX : CXT} {k : Nat} {f C : Addr} {fd : FuncData} {ps : List Str} {sp : Sp} {E : XK} (N : NeC K C) (D : Dun K C "__eq__" f) (F : FnOk X.prog X.w K X.mg X.base CX k f fd ps sp) (hr : Room (k + 1) X.A) (hb : Binds K fd ps []) (hx : Passes CX X E) : OpR X (compareOp .NotEq) (rNeO K C sp E) := by
  subst e
  exact op_neO N D F hr hb hx
end SB

set_option Elab.async false
set_option linter.all false
set_option maxRecDepth 100000
set_option maxHeartbeats 4000000
/-! != of things that are the same, of a list of objects and an empty one -/
namespace SB
open PySem PySem.Spec PyProof.Rows L2 Evl
section
variable {X : Cx} {K : PySem.W.Frag} {H : Hp}
/-- an item that is the same object, or the same number, text, bool, None -/
def Itm (x : V) : Prop := (∃ a, x = .ref a) ∨ flatV x = true
theorem eqV_self : ∀ {x : V}, flatV x = true → eqV x x = true
  | .non, _ => rfl
  | .bl b, _ => by unfold eqV; simp
  | .int i, _ => by unfold eqV; simp
  | .str z, _ => by unfold eqV; simp
theorem itm_eq {A : Around} {s : Shared} {x : V} {u v : Value} (i : Itm x) (ru : RelV x u) (rv : RelV x v) : SeqAt.EqAt A s u v true := by
  rcases i with ⟨a, rfl⟩ | f
  · cases ru; cases rv; exact SeqAt.EqAt.same _
  · have e := eqAt_V (A := A) (s := s) ru rv f f
    rw [eqV_self f] at e
    exact e
theorem vals_at {xs : List V} {us vs : List Value} (r : Vals xs us) (r2 : Vals xs vs) {j : Nat} (h1 : j < us.length) (h2 : j < vs.length) : ∃ x ∈ xs, RelV x us[j] ∧ RelV x vs[j] := by
  induction r generalizing vs j with
  | nil => exact absurd h1 (Nat.not_lt_zero _)
  | @cons x u xs us rx r ih =>
    cases r2 with
    | @cons _ v _ vs ry r2 =>
      cases j with
      | zero => exact ⟨x, List.mem_cons_self .., rx, ry⟩
      | succ j =>
        obtain ⟨y, hy, a, b⟩ := ih r2 (j := j) (by simpa using h1) (by simpa using h2)
        exact ⟨y, List.mem_cons_of_mem _ hy, a, b⟩
/-- the same thing twice, or two tuples | lists of the same things -/
inductive Same2 (K : PySem.W.Frag) (H : Hp) : V → V → Prop
  | flat {x y : V} : scal x y = true → x = y → Same2 K H x y
  | tup {a b : Addr} {xs : List V} : SqT K H a xs → SqT K H b xs → (∀ x ∈ xs, Itm x) → Same2 K H (.ref a) (.ref b)
  | lst {a b : Addr} {xs : List V} : SqL K H a xs → SqL K H b xs → (∀ x ∈ xs, Itm x) → Same2 K H (.ref a) (.ref b)
  | dic {a b : Addr} : H a = some (.dK []) → H b = some (.dK []) → Same2 K H (.ref a) (.ref b)
def rNeS (K : PySem.W.Frag) : R2 := fun x y H Q => Same2 K H x y ∧ Q (.bl false) H
theorem op_neS (hu : X.A.units + 1 < cLine) : OpR X (compareOp .NotEq) (rNeS X.K) := by
  intro pins s σ H x y v u Q I rx ry h
  obtain ⟨h, q⟩ := h
  cases h with
  | flat h1 h2 =>
    subst h2
    exact op_ne pins s σ H x x v u Q I rx ry ⟨h1, by rw [decide_eq_true rfl]; exact q⟩
  | @tup a b xs ha hb hx =>
    cases rx; cases ry
    obtain ⟨us, r, e, _⟩ := I.tuple ha
    obtain ⟨vs, r2, e2, _⟩ := I.tuple hb
    have hl : us.length = vs.length := by rw [← r.length, ← r2.length]
    have c := SeqAt.RcNeAt.tuples (A := X.A) (e := fun _ => true) e e2 (Nat.lt_of_succ_lt hu) fun j h1 h2 => by
      obtain ⟨z, hz, z1, z2⟩ := vals_at r r2 (j := j) (by simpa using h1) (by simpa using h2)
      simpa using itm_eq (A := X.A.in1) (s := s) (hx z hz) z1 z2
    refine c X.prog X.w X.xe _ ⟨.bl false, H, I, ?_, q⟩
    have : (!((List.range (min us.toArray.size vs.toArray.size)).all (fun _ => true) && us.toArray.size == vs.toArray.size)) = false := by simp [hl]
    rw [this]
    rfl
  | @lst a b xs ha hb hx =>
    cases rx; cases ry
    obtain ⟨us, r, e, _⟩ := I.list ha
    obtain ⟨vs, r2, e2, _⟩ := I.list hb
    have hl : us.length = vs.length := by rw [← r.length, ← r2.length]
    have c := SeqAt.RcNeAt.lists (A := X.A) (e := fun _ => true) e.isList e2.isList (by simpa using hl) (Nat.lt_of_succ_lt hu) fun j h1 h2 => by
      obtain ⟨z, hz, z1, z2⟩ := vals_at r r2 (j := j) (by simpa using h1) (by simpa using h2)
      simpa using itm_eq (A := X.A.in1) (s := s) (hx z hz) z1 z2
    refine c X.prog X.w X.xe _ ⟨.bl false, H, I, ?_, q⟩
    have : (!(List.range us.toArray.size).all (fun _ => true)) = false := by simp
    rw [this]
    rfl
  | @dic a b ha hb =>
    exact op_ne_dictA (Nat.lt_of_succ_lt hu) pins s σ H (.ref a) (.ref b) v u Q I rx ry ⟨a, b, [], [], rfl, rfl, ha, hb, rfl, (fun p hp => nomatch hp), q⟩
theorem k_neS (K : PySem.W.Frag) (e : X.K = K) (hu : X.A.units + 1 < cLine) : OpR X (compareOp .NotEq) (rNeS K) := e ▸ op_neS hu
theorem r_neS {x y : V} {Q : VK} (h : Same2 K H x y) (q : Q (.bl false) H) : rNeS K x y H Q := ⟨h, q⟩
/-- xs != [], xs of any objects -/
def rNeL0 (K : PySem.W.Frag) : R2 := fun x y H Q => ∃ a b xs, x = .ref a ∧ y = .ref b ∧ SqL K H a xs ∧ SqL K H b [] ∧ Q (.bl (!xs.isEmpty)) H
theorem op_neL0 (hu : X.A.units + 1 < cLine) : OpR X (compareOp .NotEq) (rNeL0 X.K) := by
  intro pins s σ H x y v u Q I rx ry h
  obtain ⟨a, b, xs, rfl, rfl, ha, hb, q⟩ := h
  cases rx; cases ry
  obtain ⟨us, r, e, _⟩ := I.list ha
  obtain ⟨vs, r2, e2, _⟩ := I.list hb
  cases r2
  cases r with
  | nil =>
    have c := SeqAt.RcNeAt.lists (A := X.A) (e := fun _ => true) e.isList e2.isList rfl (Nat.lt_of_succ_lt hu) fun j h1 h2 => absurd h1 (Nat.not_lt_zero _)
    exact c X.prog X.w X.xe _ ⟨.bl false, H, I, rfl, q⟩
  | @cons x0 u0 xs0 us0 rx r =>
    have c := SeqAt.RcNeAt.lists_lengths (A := X.A) e.isList e2.isList (by simp) (Nat.lt_of_succ_lt hu)
    exact c X.prog X.w X.xe _ ⟨.bl true, H, I, rfl, q⟩
theorem k_neL0 (K : PySem.W.Frag) (e : X.K = K) (hu : X.A.units + 1 < cLine) : OpR X (compareOp .NotEq) (rNeL0 K) := e ▸ op_neL0 hu
theorem r_neL0 {a b : Addr} {xs : List V} {Q : VK} (h1 : SqL K H a xs) (h2 : SqL K H b []) (q : Q (.bl (!xs.isEmpty)) H) : rNeL0 K (.ref a) (.ref b) H Q := ⟨a, b, xs, rfl, rfl, h1, h2, q⟩
theorem r_neO {C a dx : Addr} {sp : Sp} {E : XK} {fs : List (Str × V)} {y : V} {t : Value} {Q : VK} (h : H a = some (.ins C dx fs)) (ty : TyX K H y t) (nf : PySem.W.notFirst K C t = true) (q : sp [.ref a, y] H (fun v H2 => ∃ b, v = .bl b ∧ Q (.bl (!b)) H2) E) : rNeO K C sp E (.ref a) y H Q :=
  ⟨a, dx, fs, t, rfl, h, ty, nf, q⟩
/-- sorted(d), d a dict with texts for keys -/
def rSortDK : List V → Hp → VK → Prop := fun xs H Q => ∃ (a : Addr) (kvs : List (Key × V)) (ks : List Str), xs = [.ref a] ∧ Rd H a (.dK kvs) ∧ kvs.map (·.1) = ks.map Sum.inr ∧ ks.length < 64 ∧ ∀ ys p, ys.Perm ks → sortedS ys = true → H p = none → Q (.ref p) (upd H p (.lst (ys.map V.str)))
theorem r_iE {ta : TA} {σ : L2.St} {R : It → Hp → Prop} (h : ta σ H fun vs H1 => ∃ a xs, vs = [V.ref a] ∧ SqL K H1 a xs ∧ R (Ite K a) H1) : iEnum K ta σ H R := h
theorem r_tDIn {ty td : TE} {σ : L2.St} {Q : VK} (h : ty σ H fun y H1 => td σ H1 fun x H2 => ∃ a o, x = .ref a ∧ DGet H2 a y o ∧ Q (.bl o.isSome) H2) : tDIn ty td σ H Q := h
theorem r_tDNotIn {ty td : TE} {σ : L2.St} {Q : VK} (h : ty σ H fun y H1 => td σ H1 fun x H2 => ∃ a o, x = .ref a ∧ DGet H2 a y o ∧ Q (.bl (!o.isSome)) H2) : tDNotIn ty td σ H Q := h
theorem r_tDGet {ty td : TE} {σ : L2.St} {Q : VK} (h : td σ H fun x H1 => ty σ H1 fun y H2 => ∃ a v, x = .ref a ∧ DGet H2 a y (some v) ∧ Q v H2) : tDGet td ty σ H Q := h
theorem r_sDPut {ty td tv : TE} {D : Ends} {σ : L2.St} (h : tv σ H fun v H1 => td σ H1 fun x H2 => ty σ H2 fun y H3 => ∃ a H4, x = .ref a ∧ DPut H3 a y v H4 ∧ D.nx σ H4) : sDPut td ty tv D σ H := h
theorem r_subO {C : Addr} {sp : Sp} {E : XK} {ta tb : TE} {σ : L2.St} {Q : VK} (h : ta σ H fun y H1 => tb σ H1 fun x H2 => ∃ a dx fs, y = .ref a ∧ H2 a = some (.ins C dx fs) ∧ sp [.ref a, x] H2 Q E) : tSubO C sp E ta tb σ H Q := h
theorem k_sortDK (c : X.calm = true) : CallR X (.builtin "sorted") rSortDK := call_sortedD c
theorem r_sortDK {a : Addr} {kvs : List (Key × V)} {ks : List Str} {Q : VK} (h : H a = some (.dK kvs)) (e : kvs.map (·.1) = ks.map Sum.inr) (l : ks.length < 64) (q : ∀ ys p H1, ys.Perm ks → sortedS ys = true → H p = none → Ex H H1 → H1 p = some (.lst (ys.map V.str)) → Q (.ref p) H1) : rSortDK [.ref a] H Q :=
  ⟨a, kvs, ks, rfl, .inl h, e, l, fun ys p h1 h2 hp => q ys p _ h1 h2 hp (Ex.new hp) upd_same⟩
theorem dputK {a : Addr} {kvs : List (Key × V)} (k : Str) (v : V) (h : H a = some (.dK kvs)) (l : kvs.length < 100000) : ∃ H1, DPut H a (.str k) v H1 ∧ H1 a = some (.dK (putK kvs (Sum.inr k) v)) ∧ Sm a H H1 :=
  ⟨_, .inl ⟨kvs, Sum.inr k, h, rfl, sz_lt l, rfl⟩, upd_same, fun b o hb hh => by rw [upd_ne hb]; exact hh⟩
theorem dgetK {a : Addr} {kvs : List (Key × V)} (k : Str) (h : H a = some (.dK kvs)) : DGet H a (.str k) (valV kvs (Sum.inr k)) := .inl ⟨kvs, Sum.inr k, .inl h, rfl, rfl⟩
theorem dgetE {a : Addr} {kvs : List (Key × V)} {k : Str} {v : V} (h : H a = some (.dK kvs)) (e : valV kvs (Sum.inr k) = some v) : DGet H a (.str k) (some v) := .inl ⟨kvs, Sum.inr k, .inl h, rfl, e.symm⟩
/-- the dict of names and what they name -/
def kvz (ns : List Str) (xs : List V) : List (Key × V) := (ns.map Sum.inr).zip xs
theorem kvz_val : ∀ (ns : List Str) (xs : List V) (k : Str), ns.length ≤ xs.length → (valV (kvz ns xs) (Sum.inr k)).isSome = decide (k ∈ ns)
  | [], _, _, _ => rfl
  | n :: ns, [], _, h => absurd h (by simp)
  | n :: ns, x :: xs, k, h => by
    have e : kvz (n :: ns) (x :: xs) = (Sum.inr n, x) :: kvz ns xs := rfl
    rw [e]
    by_cases q : n = k
    · rw [valV_pos (by rw [q])]; simp [q]
    · rw [valV_neg (fun z => q (Sum.inr.inj z)), kvz_val ns xs k (by simpa using h)]
      have : k ≠ n := fun z => q z.symm
      simp [this]
theorem kvz_at : ∀ (ns : List Str) (xs : List V) (i : Nat) (k : Str) (x : V), ns.Nodup → ns[i]? = some k → xs[i]? = some x → valV (kvz ns xs) (Sum.inr k) = some x
  | [], _, _, _, _, _, h, _ => by simp at h
  | n :: ns, [], i, _, _, _, _, h => by simp at h
  | n :: ns, y :: xs, i, k, x, nd, h1, h2 => by
    have e : kvz (n :: ns) (y :: xs) = (Sum.inr n, y) :: kvz ns xs := rfl
    rw [e]
    rw [List.nodup_cons] at nd
    cases i with
    | zero =>
      cases h1; cases h2
      exact valV_pos rfl
    | succ i =>
      rw [List.getElem?_cons_succ] at h1 h2
      rw [valV_neg (p := (Sum.inr n, y)) (fun z => nd.1 ((Sum.inr.inj (show (Sum.inr n : Key) = Sum.inr k from z)) ▸ List.mem_of_getElem? h1)), kvz_at ns xs i k x nd.2 h1 h2]
theorem kvz_put {ns : List Str} {xs : List V} {k : Str} {x : V} (h : xs[ns.length]? = some x) (n : k ∉ ns) : putK (kvz ns xs) (Sum.inr k) x = kvz (ns ++ [k]) xs := by
  have hl : ns.length < xs.length := (List.getElem?_eq_some_iff.mp h).1
  have e : (valV (kvz ns xs) (Sum.inr k)).isSome = false := by rw [kvz_val ns xs k (by omega)]; exact decide_eq_false n
  unfold putK
  rw [valV_any, e, if_neg Bool.false_ne_true]
  have hx : xs = xs.take ns.length ++ x :: xs.drop (ns.length + 1) := by
    rw [List.getElem?_eq_some_iff] at h
    obtain ⟨_, h⟩ := h
    rw [← h, ← List.drop_eq_getElem_cons, List.take_append_drop]
  have z1 : kvz ns xs = (ns.map Sum.inr).zip (xs.take ns.length) := by
    unfold kvz
    rw [List.zip_eq_zip_take_min]
    simp [Nat.min_eq_left (Nat.le_of_lt hl)]
    rw [List.take_of_length_le (by simp)]
  rw [z1]
  unfold kvz
  rw [List.map_append]
  conv => rhs; rw [hx]
  rw [List.zip_append (by simp; omega)]
  rfl
theorem kvz_len {ns : List Str} {xs : List V} (h : ns.length ≤ xs.length) : (kvz ns xs).length = ns.length := by unfold kvz; simp; omega
theorem kvz_keys {ns : List Str} {xs : List V} (h : ns.length ≤ xs.length) : (kvz ns xs).map (·.1) = ns.map Sum.inr := by
  unfold kvz
  rw [show (fun p : Key × V => p.1) = Prod.fst from rfl, List.map_fst_zip (by simpa using h)]
end
end SB

set_option Elab.async false
set_option linter.all false
set_option maxRecDepth 100000
/-! sorted lists of texts -/
namespace SB
open PySem PySem.Spec PyProof.Rows L2 Evl
abbrev leS (a b : Str) : Prop := a.cps.toList ≤ b.cps.toList
theorem leS_of {a b : Str} (h : ltCps b.cps.toList a.cps.toList = false) : leS a b := by
  rw [ltCps_eq] at h
  exact List.not_lt.mp (of_decide_eq_false h)
theorem rising_pw : ∀ (p : Str) (l : List Str), risingS p l = true → (p :: l).Pairwise leS
  | p, [], _ => by simp
  | p, x :: r, h => by
    have h1 : (!ltCps x.cps.toList p.cps.toList && risingS x r) = true := h
    rw [Bool.and_eq_true] at h1
    have ih := rising_pw x r h1.2
    have px : leS p x := leS_of (by simpa using h1.1)
    refine List.pairwise_cons.mpr ⟨fun z hz => ?_, ih⟩
    rcases List.mem_cons.mp hz with rfl | hz
    · exact px
    · exact List.le_trans px ((List.pairwise_cons.mp ih).1 z hz)
theorem sorted_pw : ∀ {l : List Str}, sortedS l = true → l.Pairwise leS
  | [], _ => .nil
  | x :: r, h => rising_pw x r h
theorem sorted_uniq {ys zs : List Str} (p : ys.Perm zs) (h1 : sortedS ys = true) (h2 : sortedS zs = true) : ys = zs :=
  List.Perm.eq_of_pairwise (fun a b _ _ h1 h2 => str_ext (List.le_antisymm h1 h2)) (sorted_pw h1) (sorted_pw h2) p
theorem r_sortS {K : PySem.W.Frag} {H : Hp} {a : Addr} {xs : List Str} {Q : VK} (h : SqL K H a (xs.map V.str)) (l : xs.length < 64) (q : ∀ ys p H1, ys.Perm xs → sortedS ys = true → H p = none → Ex H H1 → H1 p = some (.lst (ys.map V.str)) → Q (.ref p) H1) : rSortedS K [.ref a] H Q :=
  ⟨a, xs, rfl, h, l, fun ys p h1 h2 hp => q ys p _ h1 h2 hp (Ex.new hp) upd_same⟩
theorem r_clear {K : PySem.W.Frag} {H : Hp} {l : Addr} {xs : List V} {Q : VK} (h : H l = some (.lst xs)) (q : ∀ H1, H1 l = some (.lst []) → Sm l H H1 → Q .non H1) : rClear (.ref l) [] H Q :=
  ⟨l, xs, rfl, rfl, h, q _ upd_same fun b o hb hh => by rw [upd_ne hb]; exact hh⟩
end SB

set_option Elab.async false
set_option linter.all false
set_option maxRecDepth 100000
set_option maxHeartbeats 4000000
/-! errors as values: made, their one value read, isinstance -/
namespace SB
open PySem PySem.Spec PyProof.Rows L2 Evl
/-- X(e): a new error and its dict -/
def tMkV (C : Addr) (f : Str) (ta : TA) : TE := fun σ H Q => ta σ H fun vs H1 => ∃ v, vs = [v] ∧ ∀ a d H2, H1 a = none → H1 d = none → Ex H1 H2 → H2 a = some (exo a C (some d)) → H2 d = some (exd d [(f, v)]) → Q (.ref a) H2
section
variable {X : Cx} {x f : Str} {C fi : Addr} {fd : FuncData} {k : Nat} {p pos : Pos} {e : Expr} {ta : TA}
theorem pe_xv (T : XC X.K X.mg x f C fi) (F1 : FnOk X.prog X.w X.K X.mg X.base CX0 k fi fd ["self", f] (spXi X.K C f)) (hr : Room (k + 1) X.A) (hb : Binds X.K fd ["self", f] []) (ha : PA X [e] ta) (gl : Gl X x)
    (hdb : (x == ("__debug__" : Str)) = false := by decide) (he : starEach (e :: []) X.env = (false, eval e X.env) :: starEach [] X.env := by rfl) (hpl : (backTo pos (starEach [] X.env)).any (·.1) = false := by rfl) :
    PE X (.Call (.Name x p) [e] [] pos) (tMkV C f ta) := by
  refine ⟨fun pins s σ H Q I h => wpAny_Call_Name_kw (ld_glob I gl T.g (PySem.W.callWith_K (h₀ := X.base) I.ok.mod.kin T.o.kC (thn ((pa_mono ha).run pos pins s σ H _ I ⟨_, h, fun _ _ z => z⟩) fun us s1 z1 => ?_) he hpl) hdb)⟩
  obtain ⟨vs, H1, I1, r1, v, ev, q1⟩ := z1
  subst ev
  obtain ⟨nm, qn, N, bs, bm, sn, sub, ab, col, dd, k0, k1, k2, k3, k5, hC, hbm⟩ := T.o.cls
  refine ⟨I1.kIn, ?_⟩
  show wpAny _ _ (call (.ref C) us) _ _ _
  obtain ⟨hp, g, dr, tk, os⟩ := s1
  generalize hn0 : hp.objs.size = n0
  have hsz : hp.objs.size ≤ n0 + 1 := by omega
  have nA : H1 (n0 + 1) = none := I1.hok.fresh hsz
  have kk : ∀ b o, hp.get? b = some o → ((hp.push (PySem.W.kdv_tup us)).push (PySem.HandSPX.excO C n0)).get? b = some o := fun b o z => Heap.get?_push_of_some _ (Heap.get?_push_of_some _ z)
  have hget : ((hp.push (PySem.W.kdv_tup us)).push (PySem.HandSPX.excO C n0)).get? (n0 + 1) = some (PySem.HandSPX.excO C n0) := by subst hn0; heap_get
  have I2 : Inv X pins σ (upd H1 (n0 + 1) (exo (n0 + 1) C none)) ⟨(hp.push (PySem.W.kdv_tup us)).push (PySem.HandSPX.excO C n0), g, dr, tk, os⟩ := I1.laid (t' := tk) kk hsz (exo_ok hget)
  have hq : spXi X.K C f [.ref (n0 + 1), v] (upd H1 (n0 + 1) (exo (n0 + 1) C none)) (fun w H2 => w = .non ∧ Q (.ref (n0 + 1)) H2) E0 := by
    refine ⟨n0 + 1, v, rfl, upd_same, fun dx nd ne => ⟨rfl, ?_⟩⟩
    have nd1 : H1 dx = none := by rw [upd_ne ne] at nd; exact nd
    refine q1 (n0 + 1) dx _ nA nd1 (fun b o hb => ?_) upd_same (by rw [upd_ne ne, upd_same])
    have b1 : b ≠ dx := ne_of_none hb nd1
    have b2 : b ≠ n0 + 1 := ne_of_none hb nA
    rw [upd_ne b2, upd_ne b1, upd_ne b2]
    exact hb
  have r2 : Vals [V.ref (n0 + 1), v] (Value.ref (n0 + 1) :: us) := .cons rfl r1
  have hus : us.length = 1 := by rw [← r1.length]; rfl
  have hus2 : us.length ≤ sizeLine := by rw [hus, sizeLine_eq]; omega
  have hb2 := hb ⟨(hp.push (PySem.W.kdv_tup us)).push (PySem.HandSPX.excO C n0), g, dr, tk, os⟩ (Value.ref (n0 + 1) :: us) I2.kIn (by simp [hus])
  rw [List.append_nil] at hb2
  subst hn0
  refine wpAny_call (PySem.HandSPX.call_own F.excBase_ValueError (fun Y => PySem.HandSPX.refsVE_contains Y bm hbm) (I1.kIn _ _ hC) (PySem.W.looks_findIn I1.kIn T.i) (fun self => PySem.W.bind_fn I1.kIn self T.t) hus2
    (codeAny_mono (F1.run _ X.stack _ _ ⟨Value.ref (hp.objs.size + 1) :: us, []⟩ (Value.ref (hp.objs.size + 1) :: us) _ _ E0 (hr.make C us []) (I2.env0.make C us []) hb2 r2 hq) fun r s2 z => ?_))
  cases r with
  | error er => exact False.elim z
  | ok fl =>
    cases fl with
    | ret u =>
      obtain ⟨w, H2, J, rw', ew, q2⟩ := I2.after z
      subst ew
      exact ⟨rw', .ref (hp.objs.size + 1), H2, J, rfl, q2⟩
    | next => exact False.elim z
    | brk => exact False.elim z
    | cont => exact False.elim z
/-- err.f of an error that is a value -/
def tXa (C : Addr) (n : Str) (te : TE) : TE := fun σ H Q => te σ H fun x H1 => ∃ a dd fs v, x = .ref a ∧ H1 a = some (exo a C (some dd)) ∧ H1 dd = some (exd dd fs) ∧ fs.lookup n = some v ∧ Q v H1
theorem inst_exo {pins : List (Addr × Obj)} {σ : L2.St} {H : Hp} {s : Shared} {a dd : Addr} {fs : List (Str × V)} (I : Inv X pins σ H s) (ha : H a = some (exo a C (some dd))) (hd : H dd = some (exd dd fs)) :
    ∃ (oe od : Obj) (mA : Str → Option Value), PySem.W.InstAt s.heap a oe C (some od) ∧ (∀ n, RelO (fs.lookup n) (mA n)) ∧ ∀ n, PySem.W.lookIn n od = some (mA n) := by
  obtain ⟨t1, he⟩ := exo_at I.hok ha
  obtain ⟨mA, hns, rel⟩ := exd_at I.hok hd
  obtain ⟨od, ho, hl⟩ := lookIn_ns hns
  exact ⟨_, od, mA, ⟨he, rfl, rfl, ho⟩, rel, hl⟩
theorem pe_xa {te : TE} {n : Str} (T : XfC X.K C) (hno : PySem.W.findIn X.K (.ref C) n = some none) (he : PE X e te) (hb : attributeBase e n X.env (eval e X.env) = eval e X.env := by rfl) : PE X (.Attribute e n pos) (tXa C n te) := by
  refine ⟨fun pins s σ H Q I h => attr_of hb (thn (he.run pins s σ H _ I h) fun u s1 z => ?_)⟩
  obtain ⟨y, H1, I1, ry, a, dd, fs, v, ey, ha, hd, l, q⟩ := z
  subst ey
  cases ry
  obtain ⟨oe, od, mA, J, rel, hl⟩ := inst_exo I1 ha hd
  obtain ⟨u, hu, ru⟩ := RelO.some_of (v := v) (o := mA n) (by rw [← l]; exact rel n)
  exact HandSPX.exc_get I1.kIn J T.ga T.gg T.exC (PySem.W.findObj_own T.hdC hno rfl (by rw [hl, hu])) (handed_of ru) ⟨v, H1, I1.tok _, ru, q⟩
end
section
variable {prog : Program} {w : World} {A : Around} {E : Value → Shared → Prop} {s : Shared} {K : PySem.W.Frag} {x D : Addr} {ox od : Obj}
theorem xcls_ca {Q : Option Value → Shared → Prop} (T : ExcC K D) (X : K.In s.heap) (I : PySem.W.InstAt s.heap x ox D (some od)) (h : Q (some (.ref D)) { s with toks := s.toks + 1 }) : wpAny (model prog w) A (getAttr? (.ref x) "__class__") Q E s := by
  have ff : PySem.W.findObj K D (some od) "__class__" = some (.bind (.builtin "getset_descriptor.__get__") (.builtin "object.__class__")) := PySem.W.findObj_data (by obtain ⟨cd, hc, _⟩ := PySem.W.any_some T.hd; rw [hc]; rfl) T.ha T.hn T.ht
  obtain ⟨hp, g, d, t, os⟩ := s
  have ty := I.type (M := model prog w)
  have own := PySem.W.looks_findIn (M := model prog w) X T.hg
  have alt := PySem.W.looks_findIn (M := model prog w) X T.hk
  have fnd := PySem.W.looks_find (M := model prog w) X I ff
  have isx : PySem.W.Looks (model prog w) hp (isInstance (.ref x) (.type "BaseException")) true := ty.andThen (PySem.W.looks_subIn X T.hs)
  have n2 : (Value.builtin "BaseException.__getattribute__" == Value.builtin "object.__getattribute__") = false := by decide +kernel
  have n1 : (onTheHeap (Value.ref D) && Value.builtin "BaseException.__getattribute__" == Value.builtin "object.__getattribute__") = false := by rw [n2] <;> rfl
  have n0 : (false && onTheHeap (Value.builtin "BaseException.__getattribute__")) = false := Bool.false_and _
  unfold getAttr? getAttrBy? getAttrBy; refine wpAny_bind (wpAny_mkText (wpAny_bind (wpAny_attempt (wpAny_holding (wpAny_bind (ty.at (wpAny_bind (own.at ?_))))))))
  show wpAny _ _ (if (onTheHeap (Value.ref D) && Value.builtin "BaseException.__getattribute__" == Value.builtin "object.__getattribute__") = true then _ else _) _ _ _; rw [n1, if_neg Bool.false_ne_true]; unfold getAttrByItsOwn hookBefore; refine wpAny_bind ?_
  rw [if_pos (show onTheHeap (Value.ref D) = true from rfl)]; refine alt.at (wpAny_bind (wpAny_attempt (wpAny_holding ?_))); unfold callGetattribute; rw [n0, if_neg Bool.false_ne_true]; unfold boundAndCalled; rw [PySem.F.excAttr_ValueError.ga.bind (.ref x)]
  refine wpAny_bind (wpAny_pure ?_); show wpAny _ _ (call (.builtin "BaseException.__getattribute__") [.ref x, .str "__class__" t]) _ _ _
  refine wpAny_call (codeAny_call_builtin PySem.F.excAttr_ValueError.ga.plain PySem.F.entry_bexc_ga (@PySem.W.check_slot (model prog w) _ _ ⟨hp, g, d, t + 1, os⟩ "BaseException.__getattribute__" "BaseException" "__getattribute__" (.ref x) [.str "__class__" t] [] _ (by decide +kernel) (by decide +kernel) isx (PySem.F.args_bexc_ga (.ref x) (.str "__class__" t)) ?_))
  unfold Builtin.«object.__getattribute__»; refine wpAny_bind (wpAny_of_eq (a := ((Value.ref x : Value), [Value.str "__class__" t])) (by first | rfl | (simp only [Builtin.slotArgs]; rfl)) (wpAny_bind (wpAny_pure (wpAny_bind (ty.at (wpAny_bind (fnd.at ?_)))))))
  show wpAny _ _ (holding [Value.builtin "object.__class__"] (call (.builtin "getset_descriptor.__get__") [.builtin "object.__class__", .ref x, .ref D]) >>= ret) _ _ _; refine wpAny_bind (wpAny_holding (wpAny_call (PySem.W.class_get (s := ⟨hp, g, d, t + 1, os⟩) (ox := ox) (od := some od) X I T.hm (wpAny_pure ?_))))
  show wpAny _ _ (handedOut (.ref D)) _ _ _; rw [PySem.W.handedOut_of (v := .ref D) rfl]
  first | exact wpAny_pure (wpAny_pure h) | exact wpAny_pure h | exact wpAny_pure (wpAny_bind (wpAny_pure (wpAny_pure h)))
theorem kitx_err (T : ExcC K D) : PySem.W.KitX K (.ref x) (.ref D) (fun h => PySem.W.InstAt h x ox D (some od)) :=
  let Z := PySem.W.handS_kitx_exc (K := K) (x := x) (ox := ox) T.hg T.hk T.hs T.hd T.ha T.hn T.ht T.hm
  { ty := fun _ _ _ I => I.type
    it := fun _ _ Y _ => by
      obtain ⟨cd, hc, _⟩ := PySem.W.any_some T.hd
      unfold PySem.W.clsIn at hc
      split at hc
      · rename_i c1 d1 cd1 sl1 ho
        intro A1 Q1 E1 s1 kp q
        unfold isType loadHead
        exact wpAny_bind (wpAny_loadPart (kp _ _ (Y _ _ ho)) (wpAny_pure q))
      · cases hc
    ne := fun h tp dd its n sl Y ht => by
      obtain ⟨cd, hc, _⟩ := PySem.W.any_some T.hd
      cases q : ((Value.ref D) == (Value.ref tp)) with
      | false => rfl
      | true =>
        obtain rfl : D = tp := Value.ref.inj (beq_iff_eq.mp q)
        unfold PySem.W.clsIn at hc
        split at hc
        · rename_i c1 d1 cd1 sl1 ho
          cases (Y _ _ ho).symm.trans ht
        · cases hc
    ca := fun Y I k => xcls_ca T Y I k }
end
/-- isinstance(err, c), err an error that is a value -/
def rIsX (K : PySem.W.Frag) : List V → Hp → VK → Prop := fun xs H Q => ∃ (a C dd : Addr) (fs : List (Str × V)) (c : V) (u : Value) (b : Bool), xs = [.ref a, c] ∧ ClsV c u ∧ H a = some (exo a C (some dd)) ∧ H dd = some (exd dd fs) ∧ ExcC K C ∧ PySem.W.kitOne K (.ref C) u = some b ∧ Q (.bl b) H
theorem call_isX {X : Cx} : CallR X (.builtin "isinstance") (rIsX X.K) := by
  intro pins s σ H xs us Q I r h
  obtain ⟨a, C, dd, fs, c, u, b, rfl, kc, ha, hd, T, e, q⟩ := h
  obtain ⟨u1, u2, rfl, r1, r2⟩ := vals2 r
  have e2 := kc.eq r2
  subst e2
  cases r1
  obtain ⟨oe, od, mA, J, _, _⟩ := inst_exo I ha hd
  exact PySem.W.kia_one (kitx_err T) I.kIn J e (fun z => nomatch z) fun tk => ⟨.bl b, H, I.tok tk, rfl, q⟩
theorem k_isX {X : Cx} (K : PySem.W.Frag) (e : X.K = K) : CallR X (.builtin "isinstance") (rIsX K) := e ▸ call_isX
theorem r_isX {K : PySem.W.Frag} {H : Hp} {a C dd : Addr} {fs : List (Str × V)} {c : V} {u : Value} {b : Bool} {Q : VK} (hc : ClsV c u) (ha : H a = some (exo a C (some dd))) (hd : H dd = some (exd dd fs)) (T : ExcC K C) (e : PySem.W.kitOne K (.ref C) u = some b) (q : Q (.bl b) H) : rIsX K [.ref a, c] H Q :=
  ⟨a, C, dd, fs, c, u, b, rfl, hc, ha, hd, T, e, q⟩
section
variable {K : PySem.W.Frag} {H : Hp} {σ : L2.St}
theorem r_mkv {C : Addr} {f : Str} {ta : TA} {Q : VK} (h : ta σ H fun vs H1 => ∃ v, vs = [v] ∧ ∀ a d H2, H1 a = none → H1 d = none → Ex H1 H2 → H2 a = some (exo a C (some d)) → H2 d = some (exd d [(f, v)]) → Q (.ref a) H2) : tMkV C f ta σ H Q := h
def pXa (C : Addr) (n : Str) (x : V) (H1 : Hp) (Q : VK) : Prop := ∃ a dd fs v, x = .ref a ∧ H1 a = some (exo a C (some dd)) ∧ H1 dd = some (exd dd fs) ∧ fs.lookup n = some v ∧ Q v H1
theorem r_xa0 {C : Addr} {n : Str} {te : TE} {Q : VK} (h : te σ H fun x H1 => pXa C n x H1 Q) : tXa C n te σ H Q := h
theorem r_xa {C a dd : Addr} {n : Str} {fs : List (Str × V)} {v : V} {Q : VK} (h1 : H a = some (exo a C (some dd))) (h2 : H dd = some (exd dd fs)) (h3 : fs.lookup n = some v) (q : Q v H) : pXa C n (.ref a) H Q := ⟨a, dd, fs, v, rfl, h1, h2, h3, q⟩
end
end SB

set_option Elab.async false
set_option linter.all false
set_option maxRecDepth 100000
/-! a dict or list that is never written again: locked for good, so that it may be walked as often as wanted -/
namespace SB
open PySem PySem.Spec PyProof.Rows L2 Evl
/-- ahead of the statement the object at d is locked -/
def tFix (t : TS) : TS := fun D σ H => ∃ d u, H d = some u ∧ Mut (some u) ∧ ∀ od, t D σ (upd H d (.frz od u))
theorem ps_fix {X : Cx} {st : Stmt} {t : TS} (h : PS X st t) : PS X st (tFix t) := by
  refine ⟨fun pins s σ H D I z => ?_⟩
  obtain ⟨d, u, hd, mu, q⟩ := z
  obtain ⟨od, J⟩ := I.lock hd mu
  exact h.run pins s σ _ D J (q od)
end SB

set_option Elab.async false
set_option linter.all false
set_option maxRecDepth 100000
set_option maxHeartbeats 4000000
/-! xs == [], xs of any objects -/
namespace SB
open PySem PySem.Spec PyProof.Rows L2 Evl
section
variable {X : Cx} {K : PySem.W.Frag} {H : Hp}
def rEqL0 (K : PySem.W.Frag) : R2 := fun x y H Q => ∃ a b xs, x = .ref a ∧ y = .ref b ∧ SqL K H a xs ∧ SqL K H b [] ∧ Q (.bl xs.isEmpty) H
theorem op_eqL0 (hu : X.A.units + 1 < cLine) : OpR X (compareOp .Eq) (rEqL0 X.K) := by
  intro pins s σ H x y v u Q I rx ry h
  obtain ⟨a, b, xs, rfl, rfl, ha, hb, q⟩ := h
  cases rx; cases ry
  obtain ⟨us, r, e, _⟩ := I.list ha
  obtain ⟨vs, r2, e2, _⟩ := I.list hb
  cases r2
  cases r with
  | nil =>
    have c := SeqAt.RcAt.lists (A := X.A) (e := fun _ => true) e.isList e2.isList rfl (Nat.lt_of_succ_lt hu) fun j h1 h2 => absurd h1 (Nat.not_lt_zero _)
    exact c X.prog X.w X.xe _ ⟨.bl true, H, I, rfl, q⟩
  | cons r rr =>
    have c := SeqAt.RcAt.lists_lengths (A := X.A) e.isList e2.isList (by simp) (Nat.lt_of_succ_lt hu)
    exact c X.prog X.w X.xe _ ⟨.bl false, H, I, rfl, q⟩
theorem k_eqL0 (K : PySem.W.Frag) (e : X.K = K) (hu : X.A.units + 1 < cLine) : OpR X (compareOp .Eq) (rEqL0 K) := e ▸ op_eqL0 hu
theorem r_eqL0 {a b : Addr} {xs : List V} {Q : VK} (h1 : SqL K H a xs) (h2 : SqL K H b []) (q : Q (.bl xs.isEmpty) H) : rEqL0 K (.ref a) (.ref b) H Q := ⟨a, b, xs, rfl, rfl, h1, h2, q⟩
end
end SB

set_option Elab.async false
set_option linter.all false
set_option maxRecDepth 100000
set_option maxHeartbeats 4000000
/-! comprehensions and loops by what they give, item by item -/
namespace SB
open PySem PySem.Spec PyProof.Rows L2 Evl
theorem take_snoc {α : Type} {zs : List α} {i : Nat} {z : α} (h : zs[i]? = some z) : zs.take (i + 1) = zs.take i ++ [z] := by rw [List.take_add_one, h]; rfl
section
variable {α : Type} {J : It} {n : Nat} {Gd : Hp → Prop} {Y : Nat → Hp → V → Hp → Prop} {g : TG} {tt : TT} {te : TE} {vs : List Nat} {σ : L2.St} {H1 : Hp} {Q : VK} {K : PySem.W.Frag} {a : Addr}
/-- one item's turn: whether it is taken, what it gives -/
def LcOne (g : TG) (tt : TT) (te : TE) (vs : List Nat) (σ : L2.St) (p : Bool) (y : V) (x : V) (H : Hp) : Prop := g x (wipe σ vs) H fun σ2 H2 => wipe σ2 vs = wipe σ vs ∧ tt σ2 H2 fun b H3 => b = p ∧ if b = true then te σ2 H3 fun u H4 => Ex H H4 ∧ u = y else Ex H H3
theorem lc_pure (w : Walk J n Gd Y) (zs : List α) (ln : zs.length = n) (p : α → Bool) (f : α → V) (hn : n ≤ 50000) (hG : ∀ H, Ex H1 H → Gd H)
    (hs : ∀ i z x H H', zs[i]? = some z → Ex H1 H → Y i H x H' → Ex H H' ∧ LcOne g tt te vs σ (p z) (f z) x H')
    (hd : ∀ D H, H1 D = none → Ex H1 H → H D = some (.lst ((zs.filter p).map f)) → Q (.ref D) H) : LcEnd J g tt te vs σ H1 Q := by
  refine lc_end w hn (fun D i ys H => Ex H1 H ∧ ys = ((zs.take i).filter p).map f) (fun D H2 hD e => ⟨e, rfl⟩) (fun D i ys H r => hG H r.1) (fun D i ys H acc hD r => ⟨r.1.mut hD, r.2⟩) ?_ fun D ys H hD _ r hh => hd D H hD r.1 (by rw [hh, r.2, ← ln, List.take_length])
  intro D i ys x H H' hi hD r hh y
  obtain ⟨z, hz⟩ : ∃ z, zs[i]? = some z := ⟨zs[i]'(by omega), by simp⟩
  obtain ⟨e0, h⟩ := hs i z x H H' hz r.1 y
  refine ⟨_, h, fun σ2 H2 q => ⟨q.1, _, q.2, fun b H3 q => ?_⟩⟩
  obtain ⟨hb, q⟩ := q
  cases b with
  | true => exact iteT ⟨_, q, fun v H4 q => ⟨(e0.trans q.1) _ _ hh, r.1.trans (e0.trans q.1), by rw [r.2, take_snoc hz, List.filter_append, List.map_append, q.2]; simp [← hb]⟩⟩
  | false => exact iteF ⟨(e0.trans q) _ _ hh, r.1.trans (e0.trans q), by rw [r.2, take_snoc hz, List.filter_append, List.map_append]; simp [← hb]⟩
theorem at_map {β : Type} {zs : List α} {f : α → β} {i : Nat} {z : α} {x : β} (h : zs[i]? = some z) (q : (zs.map f)[i]? = some x) : x = f z := by
  rw [List.getElem?_map, h] at q
  exact (Option.some.inj q).symm
/-- over a list, a tuple of texts -/
theorem lc_strL {zs : List Str} (ha : SqL K H1 a (zs.map V.str)) (ln : zs.length ≤ 50000) (p : Str → Bool) (f : Str → V) (hs : ∀ z H, z ∈ zs → Ex H1 H → LcOne g tt te vs σ (p z) (f z) (.str z) H)
    (hd : ∀ D H, H1 D = none → Ex H1 H → H D = some (.lst ((zs.filter p).map f)) → Q (.ref D) H) : LcEnd (Itl K a) g tt te vs σ H1 Q :=
  lc_pure (walk_list (K := K) (a := a) (xs := zs.map V.str)) zs (by simp) p f (by simpa using ln) (fun H e => ex_l e ha) (fun i z x H H' hz e y => by
    obtain ⟨rfl, hx⟩ := y
    rw [at_map hz hx]
    exact ⟨Ex.refl _, hs z _ (List.mem_of_getElem? hz) e⟩) hd
theorem lc_strT {zs : List Str} (ha : SqT K H1 a (zs.map V.str)) (ln : zs.length ≤ 50000) (p : Str → Bool) (f : Str → V) (hs : ∀ z H, z ∈ zs → Ex H1 H → LcOne g tt te vs σ (p z) (f z) (.str z) H)
    (hd : ∀ D H, H1 D = none → Ex H1 H → H D = some (.lst ((zs.filter p).map f)) → Q (.ref D) H) : LcEnd (Itt K a) g tt te vs σ H1 Q :=
  lc_pure (walk_tup (K := K) (a := a) (xs := zs.map V.str)) zs (by simp) p f (by simpa using ln) (fun H e => ex_t e ha) (fun i z x H H' hz e y => by
    obtain ⟨rfl, hx⟩ := y
    rw [at_map hz hx]
    exact ⟨Ex.refl _, hs z _ (List.mem_of_getElem? hz) e⟩) hd
theorem lc_intL {zs : List Int} (ha : SqL K H1 a (zs.map V.int)) (ln : zs.length ≤ 50000) (p : Int → Bool) (f : Int → V) (hs : ∀ z H, z ∈ zs → Ex H1 H → LcOne g tt te vs σ (p z) (f z) (.int z) H)
    (hd : ∀ D H, H1 D = none → Ex H1 H → H D = some (.lst ((zs.filter p).map f)) → Q (.ref D) H) : LcEnd (Itl K a) g tt te vs σ H1 Q :=
  lc_pure (walk_list (K := K) (a := a) (xs := zs.map V.int)) zs (by simp) p f (by simpa using ln) (fun H e => ex_l e ha) (fun i z x H H' hz e y => by
    obtain ⟨rfl, hx⟩ := y
    rw [at_map hz hx]
    exact ⟨Ex.refl _, hs z _ (List.mem_of_getElem? hz) e⟩) hd
/-- over the text keys of a locked dict -/
theorem lc_keysF {d : Addr} {o : Obj} {kvs : List (Str × V)} (hd0 : H1 d = some (.frz o (.dK (kvs.map fun w => (Sum.inr w.1, w.2))))) (ln : kvs.length ≤ 50000) (p : Str × V → Bool) (f : Str × V → V)
    (hs : ∀ z H, z ∈ kvs → Ex H1 H → LcOne g tt te vs σ (p z) (f z) (.str z.1) H)
    (hd : ∀ D H, H1 D = none → Ex H1 H → H D = some (.lst ((kvs.filter p).map f)) → Q (.ref D) H) : LcEnd (Itk d o (kvs.map fun w => (Sum.inr w.1, w.2))) g tt te vs σ H1 Q :=
  lc_pure (walk_keys (d := d) (o := o) (kvs := kvs.map fun w => (Sum.inr w.1, w.2))) kvs (by simp) p f (by simpa using ln) (fun H e => e _ _ hd0) (fun i z x H H' hz e y => by
    obtain ⟨rfl, k, v, hk, rfl⟩ := y
    have := at_map hz hk
    cases this
    exact ⟨Ex.refl _, hs z _ (List.mem_of_getElem? hz) e⟩) hd
/-- all([.. for ..]) -/
theorem map_bl {β : Type} (zs : List β) (f : β → Bool) : zs.map (fun z => V.bl (f z)) = (zs.map f).map V.bl := by rw [List.map_map]; rfl
/-! ### loops by the part taken -/
theorem for_take (w : Walk J n Gd Y) (zs : List α) (ln : zs.length = n) {tb : TS} {D : Ends} {H : Hp} (Pv : List α → List α → L2.St → Hp → Prop) (h0 : Pv [] zs σ H) (hG : ∀ pre post σ H, zs = pre ++ post → Pv pre post σ H → Gd H)
    (hs : ∀ i pre z post x σ H H', zs = pre ++ z :: post → pre.length = i → Pv pre (z :: post) σ H → Y i H x H' → g x σ H' fun σ2 H2 => tb { D with nx := Pv (pre ++ [z]) post, ct := Pv (pre ++ [z]) post, bk := D.nx } σ2 H2) (hd : ∀ σ H, Pv zs [] σ H → D.nx σ H) :
    ∃ W : Nat → Nat → L2.St → Hp → Prop, (∃ m, W 0 m σ H) ∧ ∀ i m σ H, W i m σ H →
      (J.stop i H ∧ D.nx σ H) ∨ (J.go i H ∧ ∃ N : L2.St → Hp → Prop, (∀ σ' H', N σ' H' → ∃ m', m' < m ∧ W (i + 1) m' σ' H') ∧ ∀ x H', J.yld i H x H' → g x σ H' fun σ2 H2 => tb { D with nx := N, ct := N, bk := D.nx } σ2 H2) := by
  refine for_it w (fun i σ H => Pv (zs.take i) (zs.drop i) σ H) (by simpa using h0) (fun i σ H _ q => hG _ _ σ H (List.take_append_drop i zs).symm q) (fun i x σ H H' hi p y => ?_) fun σ H p => hd σ H (by rw [← ln] at p; simpa using p)
  have hi' : i < zs.length := by omega
  have e := List.drop_eq_getElem_cons hi'
  have q := hs i (zs.take i) zs[i] (zs.drop (i + 1)) x σ H H' (by rw [← e, List.take_append_drop]) (by simp; omega) (by rw [← e]; exact p) y
  rw [← take_snoc (show zs[i]? = some zs[i] by simp)] at q
  exact q
theorem for_strL {zs : List Str} {tb : TS} {D : Ends} {H : Hp} (Pv : List Str → List Str → L2.St → Hp → Prop) (h0 : Pv [] zs σ H) (hG : ∀ pre post σ H, Pv pre post σ H → SqL K H a (zs.map V.str))
    (hs : ∀ pre z post σ H, zs = pre ++ z :: post → Pv pre (z :: post) σ H → g (.str z) σ H fun σ2 H2 => tb { D with nx := Pv (pre ++ [z]) post, ct := Pv (pre ++ [z]) post, bk := D.nx } σ2 H2) (hd : ∀ σ H, Pv zs [] σ H → D.nx σ H) :
    ∃ W : Nat → Nat → L2.St → Hp → Prop, (∃ m, W 0 m σ H) ∧ ∀ i m σ H, W i m σ H →
      ((Itl K a).stop i H ∧ D.nx σ H) ∨ ((Itl K a).go i H ∧ ∃ N : L2.St → Hp → Prop, (∀ σ' H', N σ' H' → ∃ m', m' < m ∧ W (i + 1) m' σ' H') ∧ ∀ x H', (Itl K a).yld i H x H' → g x σ H' fun σ2 H2 => tb { D with nx := N, ct := N, bk := D.nx } σ2 H2) :=
  for_take (walk_list (K := K) (a := a) (xs := zs.map V.str)) zs (by simp) Pv h0 (fun pre post σ H _ q => hG pre post σ H q) (fun i pre z post x σ H H' e li p y => by
    obtain ⟨rfl, hx⟩ := y
    rw [at_map (z := z) (by rw [e, ← li]; simp) hx]
    exact hs pre z post σ _ e p) hd
theorem for_strT {zs : List Str} {tb : TS} {D : Ends} {H : Hp} (Pv : List Str → List Str → L2.St → Hp → Prop) (h0 : Pv [] zs σ H) (hG : ∀ pre post σ H, Pv pre post σ H → SqT K H a (zs.map V.str))
    (hs : ∀ pre z post σ H, zs = pre ++ z :: post → Pv pre (z :: post) σ H → g (.str z) σ H fun σ2 H2 => tb { D with nx := Pv (pre ++ [z]) post, ct := Pv (pre ++ [z]) post, bk := D.nx } σ2 H2) (hd : ∀ σ H, Pv zs [] σ H → D.nx σ H) :
    ∃ W : Nat → Nat → L2.St → Hp → Prop, (∃ m, W 0 m σ H) ∧ ∀ i m σ H, W i m σ H →
      ((Itt K a).stop i H ∧ D.nx σ H) ∨ ((Itt K a).go i H ∧ ∃ N : L2.St → Hp → Prop, (∀ σ' H', N σ' H' → ∃ m', m' < m ∧ W (i + 1) m' σ' H') ∧ ∀ x H', (Itt K a).yld i H x H' → g x σ H' fun σ2 H2 => tb { D with nx := N, ct := N, bk := D.nx } σ2 H2) :=
  for_take (walk_tup (K := K) (a := a) (xs := zs.map V.str)) zs (by simp) Pv h0 (fun pre post σ H _ q => hG pre post σ H q) (fun i pre z post x σ H H' e li p y => by
    obtain ⟨rfl, hx⟩ := y
    rw [at_map (z := z) (by rw [e, ← li]; simp) hx]
    exact hs pre z post σ _ e p) hd
theorem for_range {m : Nat} {tb : TS} {D : Ends} {H : Hp} (Pv : Nat → L2.St → Hp → Prop) (h0 : Pv 0 σ H) (hs : ∀ i σ H, i < m → Pv i σ H → g (.int (i : Nat)) σ H fun σ2 H2 => tb { D with nx := Pv (i + 1), ct := Pv (i + 1), bk := D.nx } σ2 H2) (hd : ∀ σ H, Pv m σ H → D.nx σ H) :
    ∃ W : Nat → Nat → L2.St → Hp → Prop, (∃ m, W 0 m σ H) ∧ ∀ i j σ H, W i j σ H →
      ((Itr 0 m).stop i H ∧ D.nx σ H) ∨ ((Itr 0 m).go i H ∧ ∃ N : L2.St → Hp → Prop, (∀ σ' H', N σ' H' → ∃ j', j' < j ∧ W (i + 1) j' σ' H') ∧ ∀ x H', (Itr 0 m).yld i H x H' → g x σ H' fun σ2 H2 => tb { D with nx := N, ct := N, bk := D.nx } σ2 H2) :=
  for_it (walk_range (lo := 0) (n := m)) Pv h0 (fun _ _ _ _ _ => trivial) (fun i x σ H H' hi p y => by
    obtain ⟨rfl, rfl⟩ := y
    have := hs i σ _ hi p
    show g (.int (0 + (i : Nat))) _ _ _
    rw [Int.zero_add]
    exact this) hd
/-- a value reached on several ways -/
theorem r_mid {t : TE} {H : Hp} (Q0 : VK) (h : t σ H Q0) (k : ∀ v H1, Q0 v H1 → Q v H1) : mE t σ H Q := ⟨Q0, h, k⟩
end
end SB

set_option Elab.async false
set_option linter.all false
set_option maxRecDepth 100000
set_option maxHeartbeats 4000000
/-! what stands still stands: one lemma a step, for the tactic ht -/
namespace SB
open PySem PySem.Spec PyProof.Rows L2 Evl
section
variable {H0 H H1 H2 : Hp} {a b p l : Addr} {o : HO} {K : PySem.W.Frag} {xs : List V} {n m : Nat} {x : V} {t : Value}
theorem ht_ex (H : Hp) (e : Ex H H1) (h : H a = some o) : H1 a = some o := e _ _ h
theorem ht_sm (H : Hp) (p : Addr) (s : Sm p H H1) (n : a ≠ p) (h : H a = some o) : H1 a = some o := s _ _ n h
theorem hl_ex (H : Hp) (e : Ex H H1) (h : SqL K H a xs) : SqL K H1 a xs := ex_l e h
theorem hl_sm (H : Hp) (p : Addr) (s : Sm p H H1) (n : a ≠ p) (h : SqL K H a xs) : SqL K H1 a xs := s.seq n h
theorem hl_at (h : H a = some (.lst xs)) : SqL K H a xs := SqL.of h
theorem hq_ex (H : Hp) (e : Ex H H1) (h : SqT K H a xs) : SqT K H1 a xs := ex_t e h
theorem hq_sm (H : Hp) (p : Addr) (s : Sm p H H1) (n : a ≠ p) (h : SqT K H a xs) : SqT K H1 a xs := by
  rcases h with (h | ⟨o, h⟩) | h
  · exact .inl (.inl (s _ _ n h))
  · exact .inl (.inr ⟨o, s _ _ n h⟩)
  · exact .inr h
theorem hq_at (h : H a = some (.tup xs)) : SqT K H a xs := st_of h
theorem hw_ex (H : Hp) (e : Ex H H1) (h : WellAt H a n) : WellAt H1 a n := h.up e
theorem hw_sm (H : Hp) (p : Addr) (s : Sm p H H1) (q : a ≠ p) (h : WellAt H a n) : WellAt H1 a n := by
  obtain ⟨x, y, z, h1, h2⟩ := h
  exact ⟨x, y, z, s _ _ q h1, h2⟩
theorem hw_le (m : Nat) (w : WellAt H a m) (h : m ≤ n) : WellAt H a n := w.le h
theorem Sm.sm (s : Sm p H H1) (h : H l = none) (s2 : Sm l H1 H2) : Sm p H H2 := fun b o hb hh => s2 b o (fun z => by rw [z, h] at hh; cases hh) (s b o hb hh)
theorem hs_ex (H1 : Hp) (e : Ex H1 H2) (s : Sm p H H1) : Sm p H H2 := s.trans (Sm.of e)
theorem hs_sm (H1 : Hp) (e : Sm p H1 H2) (s : Sm p H H1) : Sm p H H2 := s.trans e
theorem hs_new (H1 : Hp) (l : Addr) (e : Sm l H1 H2) (n : H l = none) (s : Sm p H H1) : Sm p H H2 := s.sm n e
theorem he_ex (H1 : Hp) (e : Ex H1 H2) (s : Ex H H1) : Ex H H2 := s.trans e
theorem he_new (H1 : Hp) (l : Addr) (e : Sm l H1 H2) (n : H l = none) (s : Ex H H1) : Ex H H2 := Ex.sm s n e
theorem hn_ex (H1 : Hp) (n : H1 a = none) (e : Ex H H1) : H a = none := ex_none e n
theorem hn_sm (H1 : Hp) (p : Addr) (n : H1 a = none) (e : Sm p H H1) (q : a ≠ p) : H a = none := sm_none e n q
theorem ne_n1 (H : Hp) (n : H a = none) (o : HO) (h : H b = some o) : a ≠ b := fun z => by rw [z, h] at n; cases n
theorem ne_n2 (H : Hp) (n : H b = none) (o : HO) (h : H a = some o) : a ≠ b := fun z => by rw [← z, h] at n; cases n
theorem ne_w1 (H : Hp) (n : H a = none) (m : Nat) (w : WellAt H b m) : a ≠ b := fun z => w.some (z ▸ n)
theorem ne_w2 (H : Hp) (n : H b = none) (m : Nat) (w : WellAt H a m) : a ≠ b := fun z => w.some (z ▸ n)
/-! ### more readings -/
theorem r_popAt {k : Nat} {y : V} {Q : VK} (h : H l = some (.lst xs)) (hz : xs.length ≤ 100000) (hk : xs[k]? = some y) (q : ∀ H1, H1 l = some (.lst (xs.eraseIdx k)) → Sm l H H1 → Q y H1) : rPopAt (.ref l) [.int (k : Nat)] H Q := by
  have hl : k < xs.length := (List.getElem?_eq_some_iff.mp hk).1
  refine ⟨l, xs, (k : Nat), k, y, rfl, rfl, h, by omega, by omega, ?_, hk, q _ upd_same fun b o hb hh => by rw [upd_ne hb]; exact hh⟩
  have e1 : (if ((k : Nat) : Int) < 0 then ((k : Nat) : Int) + (xs.length : Nat) else ((k : Nat) : Int)) = (k : Nat) := if_neg (by omega)
  have e2 : (decide ((0 : Int) ≤ (k : Nat)) && decide (((k : Nat) : Int) < (xs.length : Nat))) = true := by rw [decide_eq_true (by omega), decide_eq_true (by omega)]; rfl
  unfold PySem.seqIndex?
  simp only [e1]
  rw [if_pos e2]
  rfl
theorem r_rep {k : Nat} {Q : VK} (h : H l = some (.lst xs)) (hk : k ≤ 1000) (hz : xs.length * k ≤ 100000) (q : ∀ p H1, H p = none → Ex H H1 → H1 p = some (.lst (List.replicate k xs).flatten) → Q (.ref p) H1) : rRep (.ref l) (.int (k : Nat)) H Q := by
  refine ⟨l, (k : Nat), xs, rfl, rfl, h, by omega, by omega, ?_, ?_⟩
  · rw [show ((k : Nat) : Int).toNat = k by simp]; exact sz_of hz
  · rw [show ((k : Nat) : Int).toNat = k by simp]; exact r_new0 q
end
end SB

set_option Elab.async false
set_option linter.all false
set_option maxRecDepth 100000
set_option maxHeartbeats 8000000
/-! sorted(set(list of texts)) -/
namespace SB
open PySem PySem.Spec PyProof.Rows L2 Evl
def sK (e : Int × Value) : Str := match e.2 with
  | .str k _ => k
  | _ => Str.empty
/-- an entry of a set of texts -/
def OkS (P : Program) (w : World) (e : Int × Value) : Prop := ∃ k tk, e.2 = Value.str k tk ∧ e.1 = (strKind P w).hash k
/-- the set of texts at a, its table in order -/
def StR (P : Program) (w : World) (h : Heap) (a : Addr) (S : Str → Bool) (n : Nat) : Prop :=
  ∃ o es ep t, h.get? a = some o ∧ o.ExactSet ∧ o.data = .set es ep t ∧ (∀ e ∈ es.toList, OkS P w e) ∧ (es.toList.map sK).Nodup ∧ (∀ k, S k = true ↔ k ∈ es.toList.map sK) ∧
    es.size < scanBound ∧ t.fits es.size = true ∧ es.size = n ∧ Ris t.place.toList ∧ (w.params.followText "set-order" = true ∨ t.led = true)
section
variable {P : Program} {w : World} {h h2 : Heap} {a : Addr} {S : Str → Bool} {n : Nat}
theorem StR.at (R : StR P w h a S n) (k : ∀ o, h.get? a = some o → h2.get? a = some o) : StR P w h2 a S n := by
  obtain ⟨o, es, ep, t, q, r⟩ := R
  exact ⟨o, es, ep, t, k o q, r⟩
theorem StR.same {S2 : Str → Bool} {m : Nat} (R : StR P w h a S n) (e : ∀ k, S2 k = S k) (en : m = n) : StR P w h a S2 m := by
  rw [show S2 = S from funext e, en]; exact R
theorem okS_el {l : List (Int × Value)} (g : ∀ e ∈ l, OkS P w e) : ElemsOf (strKind P w) l := fun e m => by
  obtain ⟨k, tk, q1, q2⟩ := g e m
  exact ⟨⟨k, by rw [q1]; exact strKind_is P w k tk, q2⟩, by rw [q1]; rfl⟩
theorem okS_is {e : Int × Value} (g : OkS P w e) (k : Str) : (strKind P w).is k e.2 = true ↔ sK e = k := by
  obtain ⟨k1, tk, q1, _⟩ := g
  unfold sK
  rw [q1]
  simp [PySem.strKind, Value.isStrOf]
theorem okS_mem {l : List (Int × Value)} (g : ∀ e ∈ l, OkS P w e) (k : Str) : k ∈ l.map sK ↔ ∃ e ∈ l, (strKind P w).is k e.2 = true := by
  rw [List.mem_map]
  exact ⟨fun ⟨e, m, q⟩ => ⟨e, m, (okS_is (g e m) k).mpr q⟩, fun ⟨e, m, q⟩ => ⟨e, m, (okS_is (g e m) k).mp q⟩⟩
end
section
variable {P : Program} {w : World} {A : Around} {E : Value → Shared → Prop} {s : Shared} {a : Addr} {S : Str → Bool} {n : Nat}
theorem stR_tail {gave : Bool → Sem Unit} (gv : ∀ (b : Bool) (s1 : Shared) (Q1 : Unit → Shared → Prop), Q1 () s1 → wpAny (model P w) A (gave b) Q1 E s1)
    {o : Obj} {es es1 : Array (Int × Value)} {ep : Nat} {t t2 : SetTable} (o0 : s.heap.get? a = some o) (ox : o.ExactSet) (od : o.data = .set es ep t)
    {S2 : Str → Bool} (k1 : ∀ e ∈ es1.toList, OkS P w e) (k2 : (es1.toList.map sK).Nodup) (k3 : ∀ k, S2 k = true ↔ k ∈ es1.toList.map sK)
    (k4 : es1.size < scanBound) (k5 : t2.fits es1.size = true) (k6 : Ris t2.place.toList) (k7 : w.params.followText "set-order" = true ∨ t2.led = true) {dum : Bool} {R : Option Bool → Shared → Prop}
    (out : ∀ g, Heap.SameBut a s.heap g → StR P w g a S2 es1.size → R (some true) { s with heap := g }) :
    wpAny (model P w) A (do
        storeSet a es1 t2
        if (!dum && t2.tooFull) = true then do
            gave (relayAll t2 es1 (SetTable.grown es1.size)).2.2
            storeSet a (relayAll t2 es1 (SetTable.grown es1.size)).1 (relayAll t2 es1 (SetTable.grown es1.size)).2.1
            pure (some true)
          else pure (some true)) R E s := by
  refine wpAny_bind (wpAny_storeSet_of o0 od ?_ (fits_of_scanBound k4))
  have o1 := store_at (es' := es1) (t' := t2) o0 od
  have b1 := Heap.SameBut.update s.heap a (Obj.putSet es1 t2)
  split
  · have z1 := relayAll_perm t2 es1 (SetTable.grown es1.size)
    have z2 := relayAll_fits t2 es1 (SetTable.grown es1.size)
    have z3 := relayAll_ris t2 es1 (SetTable.grown es1.size)
    have z4 := relayAll_led t2 es1 (SetTable.grown es1.size)
    generalize relayAll t2 es1 (SetTable.grown es1.size) = Z at z1 z2 z3 z4 ⊢
    obtain ⟨es2, t3, gv2⟩ := Z
    dsimp only at z1 z2 z3 z4 ⊢
    have zn : es2.size = es1.size := by rw [← Array.length_toList, z1.length_eq, Array.length_toList]
    have zb : es2.size < scanBound := by omega
    refine wpAny_bind (gv _ _ _ ?_)
    refine wpAny_bind (wpAny_storeSet_of o1 rfl ?_ (fits_of_scanBound zb))
    have o2 := store_at (es' := es2) (t' := t3) o1 rfl
    refine wpAny_pure (out _ (b1.trans (Heap.SameBut.update _ a _)) ⟨_, es2, _, t3, o2, ox, rfl, fun e m => k1 e (z1.mem_iff.mp m), (z1.map sK).nodup_iff.mpr k2, fun k => (k3 k).trans (z1.map sK).mem_iff.symm, zb, z2, zn, z3, ?_⟩)
    rcases k7 with q | q
    · exact .inl q
    · exact .inr (by rw [z4]; exact q)
  · exact wpAny_pure (out _ b1 ⟨_, es1, _, t2, o1, ox, rfl, k1, k2, k3, k4, k5, rfl, k6, k7⟩)
theorem stR_add {k : Str} {tk : Tok} {Q : Bool → Shared → Prop} (R : StR P w s.heap a S n) (room : n + 1 < scanBound)
    (out : ∀ g, Heap.SameBut a s.heap g → StR P w g a (fun j => S j || decide (j = k)) (if S k = true then n else n + 1) → Q (!S k) { s with heap := g }) :
    wpAny (model P w) A (setAddHashed a (.str k tk) ((strKind P w).hash k)) Q E s := by
  obtain ⟨o, es, ep, t, o0, ox, od, k1, k2, k3, k4, k5, k6, k7, k8⟩ := R
  have ky : (strKind P w).is k (.str k tk) = true := strKind_is P w k tk
  have sc : (Value.str k tk).scannable = true := rfl
  have el : ElemsOf (strKind P w) es.toList := okS_el k1
  unfold setAddHashed setAddHashedIn
  refine wpAny_holding (wpAny_bind (wpAny_setState_of o0 od k5 ?_))
  dsimp only
  rw [byScan_of sc k4 el]
  simp only [↓reduceIte]
  unfold setAddByScan
  refine wpAny_bind (wpAny_bind (wpAny_rule ?_))
  refine wpAny_bind (wpAny_setScan_of ky o0 od k5 el ?_)
  cases fi : List.findIdx? (fun e => (strKind P w).is k e.2) es.toList with
  | some j =>
    dsimp only
    obtain ⟨jl, pj, _⟩ := List.findIdx?_eq_some_iff_getElem.mp fi
    have sk : S k = true := (k3 k).mpr ((okS_mem (P := P) (w := w) k1 k).mpr ⟨es.toList[j], List.getElem_mem jl, pj⟩)
    refine wpAny_pure (wpAny_pure ?_)
    have q := out s.heap (Heap.SameBut.refl a s.heap) ⟨o, es, ep, t, o0, ox, od, k1, k2, fun i => by
      rw [Bool.or_eq_true, decide_eq_true_eq, ← k3 i]
      constructor
      · rintro (z | z)
        · exact z
        · rw [z]; exact sk
      · exact .inl, k4, k5, by rw [if_pos sk]; exact k6, k7, k8⟩
    rw [sk] at q
    exact q
  | none =>
    dsimp only
    have nk : k ∉ es.toList.map sK := fun z => by
      obtain ⟨e, m, q⟩ := (okS_mem (P := P) (w := w) k1 k).mp z
      have c := List.findIdx?_eq_none_iff.mp fi e m
      rw [q] at c
      cases c
    have sk : S k = false := by
      cases q : S k with
      | false => rfl
      | true => exact absurd ((k3 k).mp q) nk
    have gw : ∀ (b : Bool) {s1 : Shared} {Q1 : Unit → Shared → Prop}, Q1 () s1 → wpAny (model P w) A (match b with | true => rule "set.scan.the-table-gave-way" | false => pure ()) Q1 E s1 :=
      fun b s1 Q1 q => by
        cases b
        · exact wpAny_pure q
        · exact wpAny_rule q
    have y1 := layNew_perm t es ((strKind P w).hash k) (.str k tk)
    have y2 := layNew_fits t es ((strKind P w).hash k) (.str k tk)
    have y3 := layNew_ris t es ((strKind P w).hash k) (.str k tk) k7
    have y4 := layNew_led t es ((strKind P w).hash k) (.str k tk)
    generalize layNew t es ((strKind P w).hash k) (.str k tk) = Z at y1 y2 y3 y4 ⊢
    obtain ⟨es1, t1, dum, gave⟩ := Z
    dsimp only at y1 y2 y3 y4 ⊢
    rw [Array.toList_push] at y1
    have y5 : es1.toList.Perm (((strKind P w).hash k, Value.str k tk) :: es.toList) := y1.trans (List.perm_append_singleton _ _)
    have y6 : (es1.toList.map sK).Perm (k :: es.toList.map sK) := y5.map sK
    have x1 : ∀ e ∈ es1.toList, OkS P w e := fun e m => by
      rcases List.mem_cons.mp (y5.mem_iff.mp m) with z | z
      · rw [z]; exact ⟨k, tk, rfl, rfl⟩
      · exact k1 e z
    have x2 : (es1.toList.map sK).Nodup := y6.nodup_iff.mpr (List.nodup_cons.mpr ⟨nk, k2⟩)
    have x3 : ∀ i, (S i || decide (i = k)) = true ↔ i ∈ es1.toList.map sK := fun i => by
      rw [Bool.or_eq_true, decide_eq_true_eq, k3 i, y6.mem_iff, List.mem_cons, or_comm]
    have x4 : es1.size = n + 1 := by rw [← Array.length_toList, y5.length_eq, List.length_cons, Array.length_toList, k6]
    have x5 : es1.size < scanBound := by omega
    have x6 : w.params.followText "set-order" = true ∨ t1.led = true := by
      rcases k8 with q | q
      · exact .inl q
      · exact .inr (by rw [y4]; exact q)
    have fin : ∀ g, Heap.SameBut a s.heap g → StR P w g a (fun j => S j || decide (j = k)) es1.size → Q true { s with heap := g } := fun g sb r => by
      have q := out g sb
      rw [sk] at q
      rw [x4] at r
      exact q r
    refine wpAny_bind (gw _ ?_)
    split
    · refine wpAny_bind ?_
      rw [hashByValue_scannable 8 sc]
      refine wpAny_pure (stR_tail ?_ o0 ox od x1 x2 x3 x5 ?_ ?_ ?_ ?_)
      · intro b s1 Q1 q
        cases b
        · exact wpAny_pure q
        · exact wpAny_rule q
      · split
        · first | exact y2 | exact SetTable.fits_plain_off y2
        · first | exact y2 | exact SetTable.fits_plain_off y2
      · split <;> exact y3
      · split <;> exact x6
      · intro g sb r; dsimp only; exact wpAny_pure (fin g sb r)
    · refine wpAny_bind (wpAny_pure ?_)
      simp only [↓reduceIte]
      refine stR_tail ?_ o0 ox od x1 x2 x3 x5 y2 y3 x6 ?_
      · intro b s1 Q1 q
        cases b
        · exact wpAny_pure q
        · exact wpAny_rule q
      · intro g sb r; dsimp only; exact wpAny_pure (fin g sb r)
end
section
variable {P : Program} {w : World} {A : Around} {R : Result → Shared → Prop} {it : Addr} {fp wr : List Addr} {G : Array GenState → Array GenState → Prop} {n : Nat} {Yl : Nat → Value → Prop} {Z : Nat → Shared → Prop}
theorem set_turnsR (W : WalksS P w A.in1 it fp wr G n Yl Z) (T : Addr) (hT : T ∉ fp) (xs : List Str) (hx : xs.length = n) (hn : n ≤ 1000)
    (yl : ∀ i v, Yl i v → ∃ tk, v = .str (xs.getD i Str.empty) tk) (m : Nat) :
    ∀ (i : Nat) (s : Shared), n - i = m → i ≤ n → Z i s → StR P w s.heap T (sAt xs i) (fcnt xs i) →
      (∀ s1, Moved (T :: wr) G s s1 → StR P w s1.heap T (sAt xs n) (fcnt xs n) → R (.ok (.ret .none)) s1) →
      codeAny (model P w) A (.builtin "set.update.loop" ⟨[.ref T, .ref it], []⟩) R s := by
  have nw : T ∉ wr := fun q => hT (W.sub _ q)
  have up1 : ∀ b ∈ wr, b ∈ T :: wr := fun b q => List.mem_cons_of_mem _ q
  induction m with
  | zero =>
    intro i s hm hi hz st out
    obtain rfl : i = n := by omega
    refine codeAny_builtin F.entry_set_update_loop ?_
    rw [Around.under_plainId F.plain_set_update_loop _]
    show wpAny _ A.in1 (pyNext (.ref it) >>= _) _ _ s
    refine wpAny_bind (W.done s _ _ hz fun s1 mv => ?_)
    show wpAny _ A.in1 (ret Value.none) _ _ s1
    exact wpAny_pure (out s1 (mv.mono up1) (st.at fun o q => mv.heap T o nw q))
  | succ m ih =>
    intro i s hm hi hz st out
    have lt : i < n := by omega
    refine codeAny_builtin F.entry_set_update_loop ?_
    rw [Around.under_plainId F.plain_set_update_loop _]
    show wpAny _ A.in1 (pyNext (.ref it) >>= _) _ _ s
    refine wpAny_bind (W.item i s _ _ lt hz fun v s1 hy hz1 mv => ?_)
    obtain ⟨tk, rfl⟩ := yl i v hy
    have st1 : StR P w s1.heap T (sAt xs i) (fcnt xs i) := st.at fun o q => mv.heap T o nw q
    show wpAny _ A.in1 (holding [Value.str (xs.getD i Str.empty) tk] (setAdd T (.str (xs.getD i Str.empty) tk)) >>= _) _ _ s1
    refine wpAny_bind (wpAny_holding ?_)
    unfold setAdd
    refine wpAny_holding (wpAny_bind ((strKind P w).pyHash (k := xs.getD i Str.empty) (strKind_is _ _ _ _) ?_))
    have fl := fcnt_le xs i
    refine stR_add (s := { s1 with toks := s1.toks + 1 }) st1 (by unfold scanBound; omega) fun h2 sb st2 => ?_
    have st3 : StR P w h2 T (sAt xs (i + 1)) (fcnt xs (i + 1)) := by
      refine st2.same (fun k => ?_) (by rfl)
      have e : xs.getD i Str.empty = xs[i]'(by omega) := by simp [show i < xs.length by omega]
      have e2 : xs.take (i + 1) = xs.take i ++ [xs[i]'(by omega)] := by
        rw [List.take_add_one, List.getElem?_eq_getElem (by omega)]; rfl
      show ((xs.take (i + 1)).any fun y => y == k) = (sAt xs i k || decide (k = xs.getD i Str.empty))
      rw [e2, List.any_append, e]
      show (sAt xs i k || ([xs[i]'(by omega)].any fun y => y == k)) = _
      congr 1
      by_cases q : k = xs[i]'(by omega)
      · rw [← q]; simp
      · have q2 : ((xs[i]'(by omega)) == k) = false := by simpa using fun z => q z.symm
        simp [q, q2]
    refine wpAny_pure ⟨plainId_quiet F.plain_set_update_loop _, ih (i + 1) _ (by omega) lt (W.frame _ s1 _ _ hz1 (Nat.le_succ _) fun b hb o e => ?_) st3 fun s3 mv3 st4 => ?_⟩
    · rw [sb.2 b fun z => hT (z ▸ hb)]; exact e
    · refine out s3 (Moved.trans W.gtrans ((mv.mono up1).then_heap (Nat.le_succ _) fun b o hb e => ?_) mv3) st4
      rw [sb.2 b fun z => hb (z ▸ List.mem_cons_self)]; exact e
end
/-- a new set as the text orders it -/
def setL (w : World) : Obj := { cls := .type "set", dict := none, data := .set #[] 0 (.fresh 0 0 (!w.params.followText "set-order")) }
section
variable {P : Program} {w : World} {A : Around} {E : Value → Shared → Prop} {s : Shared}
theorem stR_new {h : Heap} {a : Addr} (o0 : h.get? a = some (setL w)) : StR P w h a (fun _ => false) 0 :=
  ⟨_, #[], 0, _, o0, ⟨rfl, rfl, rfl⟩, rfl, (fun e he => by simp at he), (by simp), (fun k => by simp), (by decide), (by rfl), rfl, List.Pairwise.nil, by
    show _ ∨ (!w.params.followText "set-order") = true
    cases w.params.followText "set-order"
    · exact .inr rfl
    · exact .inl rfl⟩
theorem set_init_lstR {l : Addr} {items : Array Value} {xs : List Str} {Q : Value → Shared → Prop} (hh : A.handled = none) (hl : s.heap.IsList l items) (hi : StrsAre items.toList xs) (hb : xs.length ≤ 1000)
    (k : ∀ (h1 : Heap) (tk : Nat), StR P w h1 s.heap.objs.size (sAt xs xs.length) (fcnt xs xs.length) → (∀ b o, s.heap.get? b = some o → h1.get? b = some o) → Q .none { s with heap := h1, toks := tk }) :
    codeAny (model P w) A (.call (.builtin "set.__init__") ⟨[.ref s.heap.objs.size, .ref l], []⟩) (wants Q E) { s with heap := s.heap.push (setL w) } := by
  have new : (s.heap.push (setL w)).get? s.heap.objs.size = some (setL w) := Heap.get?_push_size _ rfl
  have ty : Shared.TypeIs { s with heap := s.heap.push (setL w) } (.ref s.heap.objs.size) "set" := ⟨_, new, rfl⟩
  refine codeAny_call_builtin F.called_set.init.plain F.entry_set_init (check_set_init_1 ty ?_)
  obtain ⟨ol, hol, hcl, nl, hdl⟩ := hl
  obtain ⟨oc, od, odt, osl⟩ := ol
  simp only at hcl hdl
  subst hcl; subst hdl
  have old : (s.heap.push (setL w)).get? l = some { cls := .type "list", dict := od, data := .seq items nl, slots := osl } := Heap.get?_push_of_some _ hol
  have q1 := F.sub_list_set
  have q2 := F.sub_list_frozenset
  have q3 : (Value.type "list" == Value.type "dict") = false := by decide
  have tup1 : (s.heap.push (setL w)).IsList l items := ⟨_, old, rfl, nl, rfl⟩
  unfold Builtin.«set.__init__» noKeywords Builtin.Frozenset.updateFrom
  generalize hp : pyIter = pit
  wp_walk
  subst hp
  refine wpAny_pyIter_list tup1 (wpAny_bind (wpAny_runValue ?_))
  have lt : l < s.heap.objs.size := Heap.lt_size hol
  have ne1 : l ≠ (s.heap.push (setL w)).objs.size := by
    rw [Heap.size_push]; exact Nat.ne_of_lt (Nat.lt_succ_of_lt lt)
  have ne2 : s.heap.objs.size ∉ [(s.heap.push (setL w)).objs.size, l] := by
    rw [Heap.size_push]
    intro z
    rcases List.mem_cons.mp z with z | z
    · exact absurd z (Nat.ne_of_lt (Nat.lt_succ_self _))
    · exact absurd (List.mem_singleton.mp z) (Nat.ne_of_gt lt)
  have sz : xs.length = items.size := by rw [← StrsAre.len_eq hi, Array.length_toList]
  have h3 : A.in1.in1.handled = none := by simp [hh]
  refine set_turnsR ((Walks.list h3 _ l ne1 items).toS) s.heap.objs.size ne2 xs sz (by omega) (fun i v hv => SS.strs_at hi i v (by rw [Array.getElem?_toList]; exact hv)) (items.size - 0) 0 _ (by omega) (Nat.zero_le _)
    ?c2 ?c0 ?c1
  case c2 => exact ⟨⟨_, Heap.get?_push_size _ rfl, rfl, rfl⟩, tup1.push _⟩
  case c0 =>
    have g : ((s.heap.push (setL w)).push { cls := .type "list_iterator", data := .fields #[.ref l, .int 0 0] }).get? s.heap.objs.size = some (setL w) := Heap.get?_push_of_some _ new
    exact (stR_new g).same (fun _ => rfl) rfl
  case c1 =>
    intro s1 mv set1
    obtain ⟨h1, g1, d1, tk1, os1⟩ := s1
    obtain rfl : g1 = s.gens := mv.gens
    obtain rfl : d1 = s.drawn := mv.drawn
    obtain rfl : os1 = s.os := mv.os
    show wpAny _ _ _ _ _ _
    refine wpAny_pure ?_
    show wpAny _ _ (ret Value.none) _ _ _
    rw [← sz] at set1
    refine wpAny_pure (k h1 tk1 set1 fun b o e => ?_)
    have b1 : b ≠ s.heap.objs.size := Nat.ne_of_lt (Heap.lt_size e)
    have b2 : b ≠ (s.heap.push (setL w)).objs.size := by
      rw [Heap.size_push]; exact Nat.ne_of_lt (Nat.lt_succ_of_lt (Heap.lt_size e))
    refine mv.heap b o (fun z => ?_) (Heap.get?_push_of_some _ (Heap.get?_push_of_some _ e))
    rcases List.mem_cons.mp z with z | z
    · exact b1 z
    · exact b2 (List.mem_singleton.mp z)
theorem call_set_lstR {l : Addr} {items : Array Value} {xs : List Str} {Q : Value → Shared → Prop} (hh : A.handled = none) (hl : s.heap.IsList l items) (hi : StrsAre items.toList xs) (hb : xs.length ≤ 1000)
    (k : ∀ (h1 : Heap) (tk : Nat), StR P w h1 s.heap.objs.size (sAt xs xs.length) (fcnt xs xs.length) → (∀ b o, s.heap.get? b = some o → h1.get? b = some o) → Q (.ref s.heap.objs.size) { s with heap := h1, toks := tk }) :
    wpAny (model P w) A (call (.type "set") [.ref l]) Q E s := by
  obtain ⟨c, tl, mro⟩ := F.called_set.mro
  have made := F.called_set.made
  have sub := F.called_set.sub
  refine wpAny_call (codeAny_of_tree ?_)
  show wpAny _ _ (callAny (.type "set") _) _ _ _
  refine wpAny_pure ⟨Code.quiet_builtin _ (by decide +kernel), codeAny_builtin F.entry_type_call ?_⟩
  rw [Around.under_plain (weight_type_call_type "set" [.ref l] []) rfl]
  have z1 := F.called_set.notType
  have z2 := F.called_set.canCreate
  have z3 := F.typeCall_set_1 (.ref l)
  repeat (any_goals (first | assumption | wp_step))
  refine codeAny_mono (code_set_led1 (.ref l) (E := E) (Q₁ := fun obj s1 => obj = .ref s.heap.objs.size ∧ s1 = { s with heap := s.heap.push (setL w) }) ⟨rfl, rfl⟩) fun r s1 hr => ?_
  cases r with
  | error e => exact hr
  | ok fl =>
    cases fl with
    | ret obj =>
      obtain ⟨rfl, rfl⟩ := hr
      have li := F.called_set.init.lookup
      have bi := F.called_set.init.bind (.ref s.heap.objs.size)
      have new : (s.heap.push (setL w)).get? s.heap.objs.size = some (setL w) := Heap.get?_push_size _ rfl
      have ty : Shared.TypeIs { s with heap := s.heap.push (setL w) } (.ref s.heap.objs.size) "set" := ⟨_, new, rfl⟩
      repeat (any_goals (first | assumption | wp_step))
      refine codeAny_mono (set_init_lstR (s := s) (P := P) (w := w) (E := E) (Q := fun r s2 => r = .none ∧ Q (.ref s.heap.objs.size) s2) (by simp [hh]) hl hi hb fun h1 tk a b => ⟨rfl, k h1 tk a b⟩) fun r2 s2 hr2 => ?_
      cases r2 with
      | error e => exact hr2
      | ok fl2 =>
        cases fl2 with
        | ret v =>
          obtain ⟨rfl, q⟩ := hr2
          repeat (any_goals (first | assumption | wp_step))
        | _ => exact hr2.elim
    | _ => exact hr.elim
theorem strs_sK : ∀ (l : List (Int × Value)) (vs : List Value), vs.Perm (l.map (·.2)) → (∀ e ∈ l, OkS P w e) → ∃ ks : List Str, StrsAre vs ks ∧ ks.Perm (l.map sK) := by
  intro l vs pm g
  refine ⟨vs.map fun v => sK (0, v), ?_, ?_⟩
  · have : ∀ v ∈ vs, ∃ k tk, v = Value.str k tk := fun v hv => by
      obtain ⟨e, he, q⟩ := List.mem_map.mp (pm.mem_iff.mp hv)
      obtain ⟨k, tk, h1, _⟩ := g e he
      exact ⟨k, tk, by rw [← q]; exact h1⟩
    clear pm
    induction vs with
    | nil => exact .nil
    | cons v r ih =>
      obtain ⟨k, tk, rfl⟩ := this v List.mem_cons_self
      exact .cons k tk (ih fun u hu => this u (List.mem_cons_of_mem _ hu))
  · have := pm.map fun v => sK ((0 : Int), v)
    rw [List.map_map] at this
    exact this
/-- sorted of a set of texts -/
theorem sorted_stR {a : Addr} {S : Str → Bool} {n : Nat} {Q : Value → Shared → Prop} (R : StR P w s.heap a S n) (hh : A.handled = none) (h64 : n < 64)
    (out : ∀ s2 p (ar : Array Value) (c : Nat) (ks : List Str), (∀ b o, s.heap.get? b = some o → s2.heap.get? b = some o) → s2.gens = s.gens → s2.os = s.os → s.heap.objs.size ≤ p →
      s2.heap.get? p = some (seqObj "list" ar c) → StrsAre ar.toList ks → sortedS ks = true → ks.Nodup → (∀ k, k ∈ ks ↔ S k = true) → Q (.ref p) s2) :
    wpAny (model P w) A (call (.builtin "sorted") [.ref a]) Q E s := by
  obtain ⟨o, es, ep, t, o0, ox, od, k1, k2, k3, k4, k5, k6, k7, k8⟩ := R
  refine Calls.call_function_entry kind_sorted plain_sorted entry_sorted (args_sorted1 _) ?_
  unfold Builtin.«sorted»
  refine wpAny_bind (m := checkCount "sorted" 1 1 _) (wpAny_pure ?_)
  refine wpAny_bind (collect_set (A := A.in1) hh ⟨o, o0, ox.1, od⟩ k5 k4 k7 k8 fun s1 vs x1 x2 x3 x4 pm => ?_)
  obtain ⟨ks, hS, pk⟩ := strs_sK es.toList vs pm k1
  have vl : vs.length = n := by rw [pm.length_eq, List.length_map, Array.length_toList]; exact k6
  refine wpAny_bind (wpAny_newList ?_ (by rw [vl, sizeLine_eq]; omega))
  have hoL : (s1.heap.push (seqObj "list" vs.toArray 0)).get? s1.heap.objs.size = some (seqObj "list" vs.toArray 0) := Heap.get?_push_size _ rfl
  refine wpAny_bind (wpAny_holding (wpAny_call_entry PyProof.Rows.slot_list_sort ⟨_, hoL, rfl⟩ PyProof.Rows.entry_list_sort
    (list_sort_treeK strKind_oneLt (s := { s1 with heap := s1.heap.push (seqObj "list" vs.toArray 0) }) hoL hS.keysOf (fun v₁ v₂ rest e => keyKind_strs (by rw [← e]; exact hS)) (by rw [vl]; exact h64) fun st' hp hs => ⟨_, rfl, ?_⟩)
    (PyProof.Rows.args_list_sort _)))
  obtain ⟨ys, g1, g2, g3⟩ := sorted_out_str hS hp hs
  obtain ⟨c, hc⟩ := PyProof.Rows.sortedHeap_at (vs := vs) (out := (arrOf st').map (·.2)) hoL
  have pn : ys.Perm (es.toList.map sK) := g2.trans pk
  refine wpAny_pure ⟨_, rfl, out _ s1.heap.objs.size _ c ys (fun b u e => ?_) x3 x4 x2 hc g1 g3 (pn.nodup_iff.mpr k2) (fun k => by rw [pn.mem_iff, ← k3 k])⟩
  have q := x1 b u e
  have hlt := Heap.lt_size q
  show (sortedHeap (s1.heap.push (seqObj "list" vs.toArray 0)) s1.heap.objs.size vs _).get? b = some u
  rw [sortedHeap_old (Nat.ne_of_lt hlt) (by rw [Heap.size_push]; exact Nat.lt_succ_of_lt hlt)]
  exact Heap.get?_push_of_some _ q
end
theorem nd_le {α : Type} [DecidableEq α] : ∀ {xs ys : List α}, xs.Nodup → (∀ x ∈ xs, x ∈ ys) → xs.length ≤ ys.length
  | [], _, _, _ => Nat.zero_le _
  | x :: xs, ys, nd, h => by
    rw [List.nodup_cons] at nd
    have hx := h x (List.mem_cons_self ..)
    have := nd_le (xs := xs) (ys := ys.erase x) nd.2 fun y hy => (List.mem_erase_of_ne (fun e => nd.1 (by rw [← e]; exact hy))).mpr (h y (List.mem_cons_of_mem _ hy))
    rw [List.length_erase_of_mem hx] at this
    have : 0 < ys.length := List.length_pos_of_mem hx
    simp only [List.length_cons]
    omega
theorem sorted_stI {X : Cx} {pins : List (Addr × Obj)} {σ : L2.St} {H : Hp} {s : Shared} {a : Addr} {xs : List Str} {n : Nat} {Q : VK} (I : Inv X pins σ H s) (calm : X.calm = true) (R : StR X.prog X.w s.heap a (sAt xs xs.length) n) (hb : xs.length ≤ 1000) (h64 : n < 64)
    (y : ∀ ks p H2, sortedS ks = true → ks.Nodup → (∀ k, k ∈ ks ↔ k ∈ xs) → H p = none → Ex H H2 → H2 p = some (.lst (ks.map V.str)) → Q (.ref p) H2) :
    wpAny (model X.prog X.w) X.A (call (.builtin "sorted") [.ref a]) (EP X pins σ Q) X.xe s := by
  refine sorted_stR R (I.ok.hd calm) h64 fun s2 p3 ar c ks x1 x2 x3 x4 x5 x6 x7 x8 x9 => ?_
  have mx : ∀ k, k ∈ ks ↔ k ∈ xs := fun k => by
    rw [x9 k]
    unfold sAt
    rw [List.take_length]
    constructor
    · intro z
      obtain ⟨y2, hy, ey⟩ := List.any_eq_true.mp z
      exact (eq_of_beq ey) ▸ hy
    · exact fun z => List.any_eq_true.mpr ⟨k, z, by simp⟩
  have kl : ks.length ≤ xs.length := nd_le x8 fun k hk => (mx k).mp hk
  have hlen : (ks.map V.str).length ≤ sizeLine := by rw [List.length_map, sizeLine_eq]; omega
  have hn : H p3 = none := I.hok.fresh x4
  have J : Inv X pins σ (upd H p3 (.lst (ks.map V.str))) { s with heap := s2.heap, gens := s2.gens, drawn := s2.drawn, toks := s2.toks } :=
    I.call (ch := []) (Un.laid x1 x4 hn) (I.hok.laid x1 x4 ⟨hlen, ar.toList, c, vals_of_strs x6, x5⟩) (by rw [x2]; exact I.bare) (fun _ z => nomatch z)
  have e : s2 = { s with heap := s2.heap, gens := s2.gens, drawn := s2.drawn, toks := s2.toks } := by
    cases s2
    cases s
    cases x3
    rfl
  rw [e]
  exact ⟨.ref p3, _, J, rfl, y ks p3 _ x7 x8 mx hn (Ex.new hn) upd_same⟩
/-- sorted(set(xs)), xs a list of texts, fewer than 64 distinct ones -/
def tSortSetL (K : PySem.W.Frag) (ta : TE) : TE := fun σ H Q => ta σ H fun x H1 => ∃ (l : Addr) (xs : List Str), x = .ref l ∧ SqL K H1 l (xs.map V.str) ∧ xs.length ≤ 1000 ∧ fcnt xs xs.length < 64 ∧
  ∀ ks p H2, sortedS ks = true → ks.Nodup → (∀ k, k ∈ ks ↔ k ∈ xs) → H1 p = none → Ex H1 H2 → H2 p = some (.lst (ks.map V.str)) → Q (.ref p) H2
theorem pe_sortSetL {X : Cx} {a : Expr} {ta : TE} {p p2 q pos : Pos} (calm : X.calm = true) (gl : Gl X "sorted") (ml : X.mg "sorted" = none) (gs : Gl X "set") (ms : X.mg "set" = none) (ha : PE X a ta)
    (st : starEach [a] X.env = (false, eval a X.env) :: starEach [] X.env := by rfl) : PE X (.Call (.Name "sorted" p) [.Call (.Name "set" p2) [a] [] q] [] pos) (tSortSetL X.K ta) := by
  refine ⟨fun pins s σ H Q I h => ?_⟩
  refine Call_ (ld_blt I gl ml (show bootBuiltins "sorted" = some (.builtin "sorted") by decide +kernel) (callWith_builtin1 (args_cons ?_ rfl) rfl rfl))
  refine Call_ (ld_blt I gs ms boot_set ?_)
  refine callWith_type1 (args_cons (thn (ha.run pins s σ H _ I h) fun v s1 ⟨x, H1, I1, r1, y⟩ => args_nil ?_) st) st rfl
  obtain ⟨l, xs, rfl, hq, hb, h64, y⟩ := y
  cases r1
  obtain ⟨its, r, pl, hz⟩ := I1.list hq
  exact call_set_lstR (I1.ok.hd calm) pl.isList (by simpa using strsAre_of r) hb fun h1 tk hs hk => args_nil (sorted_stI (s := { s1 with heap := h1, toks := tk }) (I1.kept hk) calm hs hb h64 y)
theorem k_sortSetL {X : Cx} (K : PySem.W.Frag) (e : X.K = K) {a : Expr} {ta : TE} {p p2 q pos : Pos} (calm : X.calm = true) (gl : Gl X "sorted") (ml : X.mg "sorted" = none) (gs : Gl X "set") (ms : X.mg "set" = none) (ha : PE X a ta)
    (st : starEach [a] X.env = (false, eval a X.env) :: starEach [] X.env := by rfl) : PE X (.Call (.Name "sorted" p) [.Call (.Name "set" p2) [a] [] q] [] pos) (tSortSetL K ta) := e ▸ pe_sortSetL calm gl ml gs ms ha st
theorem r_sortSetL {K : PySem.W.Frag} {ta : TE} {σ : L2.St} {H : Hp} {Q : VK} (h : ta σ H fun x H1 => ∃ (l : Addr) (xs : List Str), x = .ref l ∧ SqL K H1 l (xs.map V.str) ∧ xs.length ≤ 1000 ∧ fcnt xs xs.length < 64 ∧
  ∀ ks p H2, sortedS ks = true → ks.Nodup → (∀ k, k ∈ ks ↔ k ∈ xs) → H1 p = none → Ex H1 H2 → H2 p = some (.lst (ks.map V.str)) → Q (.ref p) H2) : tSortSetL K ta σ H Q := h
/-- few distinct texts -/
theorem fcnt_card : ∀ (xs : List Str) (i : Nat), i ≤ xs.length → ∃ l : List Str, l.Nodup ∧ l.length = fcnt xs i ∧ ∀ z, z ∈ l ↔ z ∈ xs.take i
  | xs, 0, _ => ⟨[], List.nodup_nil, rfl, by simp⟩
  | xs, i + 1, hi => by
    obtain ⟨l, nd, ln, mem⟩ := fcnt_card xs i (by omega)
    have e : xs.getD i Str.empty = xs[i] := by simp [show i < xs.length by omega]
    have e2 : xs.take (i + 1) = xs.take i ++ [xs[i]] := by
      rw [List.take_add_one, List.getElem?_eq_getElem (by omega)]; rfl
    unfold fcnt
    rw [e, e2]
    by_cases hm : xs[i] ∈ xs.take i
    · have hb : ((xs.take i).any (· == xs[i])) = true := List.any_eq_true.mpr ⟨_, hm, by simp⟩
      rw [if_pos hb]
      refine ⟨l, nd, ln, fun z => ?_⟩
      rw [mem z, List.mem_append, List.mem_singleton]
      exact ⟨.inl, fun q => q.elim id fun q => q ▸ hm⟩
    · have hb : ((xs.take i).any (· == xs[i])) = false := by
        cases q : (xs.take i).any (· == xs[i]) with
        | false => rfl
        | true =>
          obtain ⟨y, hy, ey⟩ := List.any_eq_true.mp q
          exact absurd ((eq_of_beq ey) ▸ hy) hm
      rw [if_neg (by rw [hb]; decide)]
      refine ⟨xs[i] :: l, List.nodup_cons.mpr ⟨fun q => hm ((mem _).mp q), nd⟩, by rw [List.length_cons, ln], fun z => ?_⟩
      rw [List.mem_cons, mem z, List.mem_append, List.mem_singleton]
      exact or_comm
theorem fcnt_of {xs ys : List Str} (h : ∀ z ∈ xs, z ∈ ys) : fcnt xs xs.length ≤ ys.length := by
  obtain ⟨l, nd, ln, mem⟩ := fcnt_card xs xs.length (Nat.le_refl _)
  rw [← ln]
  exact nd_le nd fun z hz => h z (by have := (mem z).mp hz; rwa [List.take_length] at this)
end SB

set_option Elab.async false
set_option linter.all false
set_option maxRecDepth 100000
set_option maxHeartbeats 4000000
/-! dicts with texts for keys, as lists of pairs -/
namespace SB
open PySem PySem.Spec PyProof.Rows L2 Evl
def kvS (kvs : List (Str × V)) : List (Key × V) := kvs.map fun w => (Sum.inr w.1, w.2)
theorem kvS_val : ∀ (kvs : List (Str × V)) (k : Str), valV (kvS kvs) (Sum.inr k) = (kvs.find? fun w => decide (w.1 = k)).map (·.2)
  | [], _ => rfl
  | w :: r, k => by
    have e : kvS (w :: r) = (Sum.inr w.1, w.2) :: kvS r := rfl
    rw [e, List.find?_cons]
    by_cases q : w.1 = k
    · rw [valV_pos (p := (Sum.inr w.1, w.2)) (by rw [q]), decide_eq_true q]; rfl
    · rw [valV_neg (p := (Sum.inr w.1, w.2)) (fun z => q (Sum.inr.inj z)), decide_eq_false q, kvS_val r k]
theorem kvS_keys (kvs : List (Str × V)) : (kvS kvs).map (·.1) = (kvs.map (·.1)).map Sum.inr := by unfold kvS; rw [List.map_map, List.map_map]; rfl
theorem kvS_len (kvs : List (Str × V)) : (kvS kvs).length = kvs.length := by unfold kvS; rw [List.length_map]
theorem kvS_get {kvs : List (Str × V)} {k : Str} {v : V} (nd : (kvs.map (·.1)).Nodup) (h : (k, v) ∈ kvs) : valV (kvS kvs) (Sum.inr k) = some v := by
  rw [kvS_val]
  induction kvs with
  | nil => cases h
  | cons w r ih =>
    rw [List.map_cons, List.nodup_cons] at nd
    rw [List.find?_cons]
    rcases List.mem_cons.mp h with rfl | h
    · simp
    · have : w.1 ≠ k := fun e => nd.1 (e ▸ List.mem_map.mpr ⟨_, h, rfl⟩)
      rw [decide_eq_false this]
      exact ih nd.2 h
theorem kvS_no {kvs : List (Str × V)} {k : Str} (h : k ∉ kvs.map (·.1)) : valV (kvS kvs) (Sum.inr k) = none := by
  rw [kvS_val]
  have : kvs.find? (fun w => decide (w.1 = k)) = none := List.find?_eq_none.mpr fun w hw => by
    simp only [decide_eq_true_eq]
    exact fun e => h (e ▸ List.mem_map.mpr ⟨w, hw, rfl⟩)
  rw [this]
  rfl
theorem kvS_has (kvs : List (Str × V)) (k : Str) : (valV (kvS kvs) (Sum.inr k)).isSome = decide (k ∈ kvs.map (·.1)) := by
  by_cases h : k ∈ kvs.map (·.1)
  · rw [decide_eq_true h, kvS_val]
    obtain ⟨w, hw, e⟩ := List.mem_map.mp h
    cases q : kvs.find? (fun w => decide (w.1 = k)) with
    | none => exact absurd (List.find?_eq_none.mp q w hw) (by simp [e])
    | some w => rfl
  · rw [decide_eq_false h, kvS_no h]; rfl
theorem kvS_new {kvs : List (Str × V)} {k : Str} (v : V) (h : k ∉ kvs.map (·.1)) : putK (kvS kvs) (Sum.inr k) v = kvS (kvs ++ [(k, v)]) := by
  rw [putK_new v (kvS_no h)]
  unfold kvS
  rw [List.map_append]
  rfl
/-- the old value is replaced -/
theorem kvS_old {kvs : List (Str × V)} {k : Str} (v : V) (h : k ∈ kvs.map (·.1)) : putK (kvS kvs) (Sum.inr k) v = kvS (kvs.map fun w => if w.1 = k then (w.1, v) else w) := by
  unfold putK
  rw [valV_any, kvS_has, decide_eq_true h, if_pos rfl]
  unfold kvS
  rw [List.map_map, List.map_map]
  refine List.map_congr_left fun w _ => ?_
  by_cases e : w.1 = k
  · simp [e]
  · have : ¬ (Sum.inr w.1 : Key) = Sum.inr k := fun z => e (Sum.inr.inj z)
    simp [e]
section
variable {H H1 : Hp} {d : Addr} {kvs : List (Str × V)} {o : Obj} {g : TG} {tt : TT} {te : TE} {vs : List Nat} {σ : L2.St} {Q : VK}
theorem dgetFz {kvs : List (Key × V)} (k : Str) (h : H d = some (.frz o (.dK kvs))) : DGet H d (.str k) (valV kvs (Sum.inr k)) := .inl ⟨kvs, Sum.inr k, .inr ⟨o, h⟩, rfl, rfl⟩
theorem dgetS {k : Str} {v : V} (h : H d = some (.frz o (.dK (kvS kvs)))) (nd : (kvs.map (·.1)).Nodup) (m : (k, v) ∈ kvs) : DGet H d (.str k) (some v) := by
  have := dgetFz (o := o) k h
  rwa [kvS_get nd m] at this
/-- for k, v in d.items(), d locked -/
theorem for_items {tb : TS} {D : Ends} (Pv : List (Str × V) → List (Str × V) → L2.St → Hp → Prop) (h0 : Pv [] kvs σ H) (hG : ∀ pre post σ H, Pv pre post σ H → H d = some (.frz o (.dK (kvS kvs))))
    (hs : ∀ pre k v post σ H H' T, kvs = pre ++ (k, v) :: post → Pv pre ((k, v) :: post) σ H → H T = none → Ex H H' → H' T = some (.tup [.str k, v]) → g (.ref T) σ H' fun σ2 H2 => tb { D with nx := Pv (pre ++ [(k, v)]) post, ct := Pv (pre ++ [(k, v)]) post, bk := D.nx } σ2 H2) (hd : ∀ σ H, Pv kvs [] σ H → D.nx σ H) :
    ∃ W : Nat → Nat → L2.St → Hp → Prop, (∃ m, W 0 m σ H) ∧ ∀ i m σ H, W i m σ H →
      ((Iti d o (kvS kvs)).stop i H ∧ D.nx σ H) ∨ ((Iti d o (kvS kvs)).go i H ∧ ∃ N : L2.St → Hp → Prop, (∀ σ' H', N σ' H' → ∃ m', m' < m ∧ W (i + 1) m' σ' H') ∧ ∀ x H', (Iti d o (kvS kvs)).yld i H x H' → g x σ H' fun σ2 H2 => tb { D with nx := N, ct := N, bk := D.nx } σ2 H2) :=
  for_take (walk_items (d := d) (o := o) (kvs := kvS kvs)) kvs (kvS_len kvs).symm Pv h0 (fun pre post σ H _ q => hG pre post σ H q) (fun i pre z post x σ H H' e li p y => by
    obtain ⟨T, x1, x2, rfl, ht, rfl, q1, q2⟩ := y
    have hz : (kvS kvs)[i]? = some (Sum.inr z.1, z.2) := by unfold kvS; rw [List.getElem?_map, e, ← li]; simp
    replace q1 : ((kvS kvs)[i]?.map fun kv => kV kv.1) = some x1 := q1
    replace q2 : ((kvS kvs)[i]?.map Prod.snd) = some x2 := q2
    rw [hz] at q1 q2
    cases q1; cases q2
    exact hs pre z.1 z.2 post σ H _ T e p ht (Ex.new ht) upd_same) hd
/-- for k in d, d locked -/
theorem for_keys {tb : TS} {D : Ends} (Pv : List (Str × V) → List (Str × V) → L2.St → Hp → Prop) (h0 : Pv [] kvs σ H) (hG : ∀ pre post σ H, Pv pre post σ H → H d = some (.frz o (.dK (kvS kvs))))
    (hs : ∀ pre k v post σ H, kvs = pre ++ (k, v) :: post → Pv pre ((k, v) :: post) σ H → g (.str k) σ H fun σ2 H2 => tb { D with nx := Pv (pre ++ [(k, v)]) post, ct := Pv (pre ++ [(k, v)]) post, bk := D.nx } σ2 H2) (hd : ∀ σ H, Pv kvs [] σ H → D.nx σ H) :
    ∃ W : Nat → Nat → L2.St → Hp → Prop, (∃ m, W 0 m σ H) ∧ ∀ i m σ H, W i m σ H →
      ((Itk d o (kvS kvs)).stop i H ∧ D.nx σ H) ∨ ((Itk d o (kvS kvs)).go i H ∧ ∃ N : L2.St → Hp → Prop, (∀ σ' H', N σ' H' → ∃ m', m' < m ∧ W (i + 1) m' σ' H') ∧ ∀ x H', (Itk d o (kvS kvs)).yld i H x H' → g x σ H' fun σ2 H2 => tb { D with nx := N, ct := N, bk := D.nx } σ2 H2) :=
  for_take (walk_keys (d := d) (o := o) (kvs := kvS kvs)) kvs (kvS_len kvs).symm Pv h0 (fun pre post σ H _ q => hG pre post σ H q) (fun i pre z post x σ H H' e li p y => by
    obtain ⟨rfl, k, v, hk, rfl⟩ := y
    have hz : (kvS kvs)[i]? = some (Sum.inr z.1, z.2) := by unfold kvS; rw [List.getElem?_map, e, ← li]; simp
    rw [hz] at hk
    cases hk
    exact hs pre z.1 z.2 post σ _ e p) hd
theorem lc_keysS (hd0 : H1 d = some (.frz o (.dK (kvS kvs)))) (ln : kvs.length ≤ 50000) (p : Str × V → Bool) (f : Str × V → V)
    (hs : ∀ z H, z ∈ kvs → Ex H1 H → LcOne g tt te vs σ (p z) (f z) (.str z.1) H)
    (hd : ∀ D H, H1 D = none → Ex H1 H → H D = some (.lst ((kvs.filter p).map f)) → Q (.ref D) H) : LcEnd (Itk d o (kvS kvs)) g tt te vs σ H1 Q := lc_keysF hd0 ln p f hs hd
end
/-! ### the last one, all but the last -/
theorem atL {xs : List V} {x : V} : atI (xs ++ [x]) (-1) = some x := by
  have h : ixN (xs ++ [x]).length (-1) = some xs.length := by
    unfold ixN
    rw [List.length_append]
    simp only [List.length_cons, List.length_nil]
    rw [if_neg (by decide), if_pos (by omega)]
    congr 1
    omega
  unfold atI
  rw [h]
  simp
theorem cutL (xs : List V) (x : V) : cutV (xs ++ [x]) none (some (-1)) = xs := by
  have h : HT.sIx (xs ++ [x]).length (xs ++ [x]).length (some (-1)) = xs.length := by
    show (if (-1 : Int) < 0 then ((-1 : Int) + ((xs ++ [x]).length : Nat)).toNat else min (-1 : Int).toNat (xs ++ [x]).length) = _
    rw [if_pos (by decide), List.length_append]
    simp only [List.length_cons, List.length_nil]
    omega
  unfold cutV
  rw [h, HT.sIx_none]
  simp
def rListDR : List V → Hp → VK → Prop := fun xs H Q => ∃ (a : Addr) (kvs : List (Key × V)), xs = [.ref a] ∧ Rd H a (.dK kvs) ∧ ∀ p, H p = none → Q (.ref p) (upd H p (.lst (kvs.map fun kv => kV kv.1)))
theorem call_listDR {X : Cx} (hc : X.calm = true) : CallR X (.type "list") rListDR := call_listD hc
def rDictDR : List V → Hp → VK → Prop := fun xs H Q => ∃ (a : Addr) (kvs : List (Key × V)), xs = [.ref a] ∧ Rd H a (.dK kvs) ∧ ∀ p, H p = none → Q (.ref p) (upd H p (.dK kvs))
theorem call_dictDR {X : Cx} : CallR X (.type "dict") rDictDR := call_dictD
theorem r_listDK {H : Hp} {d : Addr} {kvs : List (Key × V)} {Q : VK} (h : Rd H d (.dK kvs)) (q : ∀ p H1, H p = none → Ex H H1 → H1 p = some (.lst (kvs.map fun kv => kV kv.1)) → Q (.ref p) H1) : rListDR [V.ref d] H Q := ⟨d, kvs, rfl, h, r_new0 q⟩
theorem r_dictD {H : Hp} {d : Addr} {kvs : List (Key × V)} {Q : VK} (h : Rd H d (.dK kvs)) (q : ∀ p H1, H p = none → Ex H H1 → H1 p = some (.dK kvs) → Q (.ref p) H1) : rDictDR [V.ref d] H Q := ⟨d, kvs, rfl, h, r_new0 q⟩
theorem sm_fr {p l : Addr} {H H1 : Hp} (s : Sm p H H1) (n : H l = none) : Sm p H (fr [l] H1) := fun b o hb h => fr_at (s b o hb h) fun z => by rw [List.mem_singleton.mp z, n] at h; cases h
theorem fr_at1 {l a : Addr} {H : Hp} {o : HO} (h : H a = some o) (n : a ≠ l) : fr [l] H a = some o := fr_at h fun z => n (List.mem_singleton.mp z)
theorem fr_no1 {l : Addr} {H : Hp} : fr [l] H l = none := fr_no (List.mem_singleton.mpr rfl)
theorem lock_sm {H : Hp} {d : Addr} {o : HO} : Sm d H (upd H d o) := fun b o hb hh => by rw [upd_ne hb]; exact hh
/-- dict(d), the copy locked for good -/
def rDictF : List V → Hp → VK → Prop := fun xs H Q => ∃ (a : Addr) (kvs : List (Key × V)), xs = [.ref a] ∧ Rd H a (.dK kvs) ∧ ∀ p o H1, H p = none → Ex H H1 → H1 p = some (.frz o (.dK kvs)) → Q (.ref p) H1
theorem call_dictF {X : Cx} : CallR X (.type "dict") rDictF := by
  intro pins s σ H xs us Q I r q
  obtain ⟨a, kvs, ex, hd, q⟩ := q
  refine thn (call_dictDR pins s σ H xs us (fun v H1 => ∃ p, v = .ref p ∧ H p = none ∧ H1 = upd H p (.dK kvs)) I r ⟨a, kvs, ex, hd, fun p hp => ⟨p, rfl, hp, rfl⟩⟩) fun v s' ⟨x, H1, I1, r1, p, e1, hp, e2⟩ => ?_
  subst e1 e2
  obtain ⟨o, J⟩ := I1.lock (d := p) (u := .dK kvs) upd_same trivial
  refine ⟨_, _, J, r1, q p o _ hp (fun b ob hb => ?_) upd_same⟩
  rw [upd_ne (ne_of_none hb hp), upd_ne (ne_of_none hb hp)]
  exact hb
theorem r_dictF {H : Hp} {d : Addr} {kvs : List (Key × V)} {Q : VK} (h : Rd H d (.dK kvs)) (q : ∀ p o H1, H p = none → Ex H H1 → H1 p = some (.frz o (.dK kvs)) → Q (.ref p) H1) : rDictF [V.ref d] H Q := ⟨d, kvs, rfl, h, q⟩
section
variable {i j l : Nat} {ta : TA} {D : Ends} {σ : L2.St} {H : Hp}
theorem r_par (h : ta σ H fun vs H1 => ∃ v w, vs = [v, w] ∧ D.nx ((σ.set i (some v)).set j (some w)) H1) : tPar i j ta D σ H := h
theorem r_pr2 {a b : V} {P : V → V → Prop} (h : P a b) : ∃ v w, [a, b] = [v, w] ∧ P v w := ⟨a, b, rfl, h⟩
end
/-- {}, locked for good -/
def tDNewF : TE := fun _ H Q => ∀ p o H1, H p = none → Ex H H1 → H1 p = some (.frz o (.dK [])) → Q (.ref p) H1
theorem pe_dnewF {X : Cx} {pos : Pos} : PE X (.Dict [] [] pos) tDNewF := by
  refine ⟨fun pins s σ H Q I h => ?_⟩
  refine thn (pe_dnewK.run pins s σ H (fun v H1 => ∃ p, v = .ref p ∧ H p = none ∧ H1 = upd H p (.dK [])) I fun p hp => ⟨p, rfl, hp, rfl⟩) fun v s' ⟨x, H1, I1, r1, p, e1, hp, e2⟩ => ?_
  subst e1 e2
  obtain ⟨o, J⟩ := I1.lock (d := p) (u := .dK []) upd_same trivial
  refine ⟨_, _, J, r1, h p o _ hp (fun b ob hb => ?_) upd_same⟩
  rw [upd_ne (ne_of_none hb hp), upd_ne (ne_of_none hb hp)]
  exact hb
section
variable {H H1 : Hp} {d : Addr} {kvs : List (Str × V)} {o : Obj} {g : TG} {tt : TT} {te : TE} {vs : List Nat} {σ : L2.St} {Q : VK}
/-- [.. for k, v in d.items()], d locked -/
theorem lc_itemsS (hd0 : H1 d = some (.frz o (.dK (kvS kvs)))) (ln : kvs.length ≤ 50000) (p : Str × V → Bool) (f : Str × V → V)
    (hs : ∀ z T H H', z ∈ kvs → Ex H1 H → H T = none → Ex H H' → H' T = some (.tup [.str z.1, z.2]) → LcOne g tt te vs σ (p z) (f z) (.ref T) H')
    (hd : ∀ D H, H1 D = none → Ex H1 H → H D = some (.lst ((kvs.filter p).map f)) → Q (.ref D) H) : LcEnd (Iti d o (kvS kvs)) g tt te vs σ H1 Q :=
  lc_pure (walk_items (d := d) (o := o) (kvs := kvS kvs)) kvs (kvS_len kvs).symm p f (by rw [kvS_len]; exact ln) (fun H e => e _ _ hd0) (fun i z x H H' hz e y => by
    obtain ⟨T, x1, x2, rfl, ht, rfl, q1, q2⟩ := y
    have hz2 : (kvS kvs)[i]? = some (Sum.inr z.1, z.2) := by unfold kvS; rw [List.getElem?_map, hz]; rfl
    replace q1 : ((kvS kvs)[i]?.map fun kv => kV kv.1) = some x1 := q1
    replace q2 : ((kvS kvs)[i]?.map Prod.snd) = some x2 := q2
    rw [hz2] at q1 q2
    cases q1; cases q2
    exact ⟨Ex.new ht, hs z T H _ (List.mem_of_getElem? hz) e ht (Ex.new ht) upd_same⟩) hd
/-- [.. for v in d.values()], d locked -/
theorem lc_valuesS (hd0 : H1 d = some (.frz o (.dK (kvS kvs)))) (ln : kvs.length ≤ 50000) (p : Str × V → Bool) (f : Str × V → V)
    (hs : ∀ z H, z ∈ kvs → Ex H1 H → LcOne g tt te vs σ (p z) (f z) z.2 H)
    (hd : ∀ D H, H1 D = none → Ex H1 H → H D = some (.lst ((kvs.filter p).map f)) → Q (.ref D) H) : LcEnd (Itd d o (kvS kvs)) g tt te vs σ H1 Q :=
  lc_pure (walk_values (d := d) (o := o) (kvs := kvS kvs)) kvs (kvS_len kvs).symm p f (by rw [kvS_len]; exact ln) (fun H e => e _ _ hd0) (fun i z x H H' hz e y => by
    obtain ⟨rfl, k, hk⟩ := y
    have hz2 : (kvS kvs)[i]? = some (Sum.inr z.1, z.2) := by unfold kvS; rw [List.getElem?_map, hz]; rfl
    rw [hz2] at hk
    cases hk
    exact ⟨Ex.refl _, hs z _ (List.mem_of_getElem? hz) e⟩) hd
end
/-- len(d), d locked or not -/
def rLenDR : List V → Hp → VK → Prop := fun xs H Q => ∃ (a : Addr) (kvs : List (Key × V)), xs = [.ref a] ∧ Rd H a (.dK kvs) ∧ Q (.int (kvs.length : Nat)) H
theorem call_lenDR {X : Cx} : CallR X (.builtin "len") rLenDR := by
  intro pins s σ H xs us Q I r z
  obtain ⟨a, kvs, rfl, h, q⟩ := z
  rw [Vals.ref1 r]
  exact d_len I h fun t s' J => ⟨.int (kvs.length : Nat), H, J, ⟨t, rfl⟩, q⟩
theorem r_lenDR {H : Hp} {d : Addr} {kvs : List (Key × V)} {Q : VK} (h : Rd H d (.dK kvs)) (q : Q (.int (kvs.length : Nat)) H) : rLenDR [V.ref d] H Q := ⟨d, kvs, rfl, h, q⟩
theorem r_dnewF {σ : L2.St} {H : Hp} {Q : VK} (h : ∀ p o H1, H p = none → Ex H H1 → H1 p = some (.frz o (.dK [])) → Q (.ref p) H1) : tDNewF σ H Q := h
end SB
namespace SL
open PySem L2 SB Evl
def topS (i : Nat) : Stmt := PySem.Challenge.pw_scopebind_k75_required_preloads.main.body.getD i (.Pass ⟨0, 0, 0, 0⟩)
abbrev s_NoLibrary___init__ : Stmt := inClass (topS 2) 0
abbrev N_NoLibrary___init__ : List Str := ["self", "part"]
abbrev P_NoLibrary___init__ : List Str := ["self", "part"]
theorem sc_NoLibrary___init__ : FnScope N_NoLibrary___init__ P_NoLibrary___init__ (defScope s_NoLibrary___init__) := ⟨rfl, rfl, rfl, by decide +kernel, rfl, by decide +kernel, by decide +kernel⟩
abbrev s_NoStore___init__ : Stmt := inClass (topS 3) 0
abbrev N_NoStore___init__ : List Str := ["self", "at"]
abbrev P_NoStore___init__ : List Str := ["self", "at"]
theorem sc_NoStore___init__ : FnScope N_NoStore___init__ P_NoStore___init__ (defScope s_NoStore___init__) := ⟨rfl, rfl, rfl, by decide +kernel, rfl, by decide +kernel, by decide +kernel⟩
abbrev s_NoName___init__ : Stmt := inClass (topS 4) 0
abbrev N_NoName___init__ : List Str := ["self", "name"]
abbrev P_NoName___init__ : List Str := ["self", "name"]
theorem sc_NoName___init__ : FnScope N_NoName___init__ P_NoName___init__ (defScope s_NoName___init__) := ⟨rfl, rfl, rfl, by decide +kernel, rfl, by decide +kernel, by decide +kernel⟩
abbrev s_Missing___init__ : Stmt := inClass (topS 5) 0
abbrev N_Missing___init__ : List Str := ["self", "name"]
abbrev P_Missing___init__ : List Str := ["self", "name"]
theorem sc_Missing___init__ : FnScope N_Missing___init__ P_Missing___init__ (defScope s_Missing___init__) := ⟨rfl, rfl, rfl, by decide +kernel, rfl, by decide +kernel, by decide +kernel⟩
abbrev s_NoSymbol___init__ : Stmt := inClass (topS 6) 0
abbrev N_NoSymbol___init__ : List Str := ["self", "symbol"]
abbrev P_NoSymbol___init__ : List Str := ["self", "symbol"]
theorem sc_NoSymbol___init__ : FnScope N_NoSymbol___init__ P_NoSymbol___init__ (defScope s_NoSymbol___init__) := ⟨rfl, rfl, rfl, by decide +kernel, rfl, by decide +kernel, by decide +kernel⟩
abbrev s_NoWishes___init__ : Stmt := inClass (topS 7) 0
abbrev N_NoWishes___init__ : List Str := ["self", "symbol"]
abbrev P_NoWishes___init__ : List Str := ["self", "symbol"]
theorem sc_NoWishes___init__ : FnScope N_NoWishes___init__ P_NoWishes___init__ (defScope s_NoWishes___init__) := ⟨rfl, rfl, rfl, by decide +kernel, rfl, by decide +kernel, by decide +kernel⟩
abbrev s_is_word : Stmt := topS 10
abbrev N_is_word : List Str := ["thing", "letter"]
abbrev P_is_word : List Str := ["thing"]
theorem sc_is_word : FnScope N_is_word P_is_word (defScope s_is_word) := ⟨rfl, rfl, rfl, by decide +kernel, rfl, by decide +kernel, by decide +kernel⟩
abbrev s_are_words : Stmt := topS 11
abbrev N_are_words : List Str := ["thing", "most", "word"]
abbrev P_are_words : List Str := ["thing", "most"]
theorem sc_are_words : FnScope N_are_words P_are_words (defScope s_are_words) := ⟨rfl, rfl, rfl, by decide +kernel, rfl, by decide +kernel, by decide +kernel⟩
abbrev s_check_symbol : Stmt := topS 12
abbrev N_check_symbol : List Str := ["symbol"]
abbrev P_check_symbol : List Str := ["symbol"]
theorem sc_check_symbol : FnScope N_check_symbol P_check_symbol (defScope s_check_symbol) := ⟨rfl, rfl, rfl, by decide +kernel, rfl, by decide +kernel, by decide +kernel⟩
abbrev s_closure : Stmt := topS 14
abbrev N_closure : List Str := ["store", "name", "found", "at"]
abbrev P_closure : List Str := ["store", "name"]
theorem sc_closure : FnScope N_closure P_closure (defScope s_closure) := ⟨rfl, rfl, rfl, by decide +kernel, rfl, by decide +kernel, by decide +kernel⟩
abbrev s_grown : Stmt := topS 15
abbrev N_grown : List Str := ["store", "found", "name", "more", "need"]
abbrev P_grown : List Str := ["store", "found", "name"]
theorem sc_grown : FnScope N_grown P_grown (defScope s_grown) := ⟨rfl, rfl, rfl, by decide +kernel, rfl, by decide +kernel, by decide +kernel⟩
abbrev s_definers : Stmt := topS 16
abbrev N_definers : List Str := ["store", "some", "symbol", "libraries", "name", "library"]
abbrev P_definers : List Str := ["store", "some", "symbol"]
theorem sc_definers : FnScope N_definers P_definers (defScope s_definers) := ⟨rfl, rfl, rfl, by decide +kernel, rfl, by decide +kernel, by decide +kernel⟩
abbrev s_Library___init__ : Stmt := inClass (topS 19) 0
abbrev N_Library___init__ : List Str := ["self", "name", "needs", "defines", "uses", "weak", "eager", "own_first", "symbol"]
abbrev P_Library___init__ : List Str := ["self", "name", "needs", "defines", "uses", "weak", "eager", "own_first"]
theorem sc_Library___init__ : FnScope N_Library___init__ P_Library___init__ (defScope s_Library___init__) := ⟨rfl, rfl, rfl, by decide +kernel, rfl, by decide +kernel, by decide +kernel⟩
abbrev s_Library_row : Stmt := inClass (topS 19) 1
abbrev N_Library_row : List Str := ["self"]
abbrev P_Library_row : List Str := ["self"]
theorem sc_Library_row : FnScope N_Library_row P_Library_row (defScope s_Library_row) := ⟨rfl, rfl, rfl, by decide +kernel, rfl, by decide +kernel, by decide +kernel⟩
abbrev s_Library___eq__ : Stmt := inClass (topS 19) 2
abbrev N_Library___eq__ : List Str := ["self", "other"]
abbrev P_Library___eq__ : List Str := ["self", "other"]
theorem sc_Library___eq__ : FnScope N_Library___eq__ P_Library___eq__ (defScope s_Library___eq__) := ⟨rfl, rfl, rfl, by decide +kernel, rfl, by decide +kernel, by decide +kernel⟩
abbrev s_Store___init__ : Stmt := inClass (topS 20) 0
abbrev N_Store___init__ : List Str := ["self", "libraries", "at", "item"]
abbrev P_Store___init__ : List Str := ["self", "libraries"]
theorem sc_Store___init__ : FnScope N_Store___init__ P_Store___init__ (defScope s_Store___init__) := ⟨rfl, rfl, rfl, by decide +kernel, rfl, by decide +kernel, by decide +kernel⟩
abbrev s_Store___getitem__ : Stmt := inClass (topS 20) 1
abbrev N_Store___getitem__ : List Str := ["self", "name"]
abbrev P_Store___getitem__ : List Str := ["self", "name"]
theorem sc_Store___getitem__ : FnScope N_Store___getitem__ P_Store___getitem__ (defScope s_Store___getitem__) := ⟨rfl, rfl, rfl, by decide +kernel, rfl, by decide +kernel, by decide +kernel⟩
abbrev s_Store___iter__ : Stmt := inClass (topS 20) 2
abbrev N_Store___iter__ : List Str := ["self"]
abbrev P_Store___iter__ : List Str := ["self"]
theorem sc_Store___iter__ : FnScope N_Store___iter__ P_Store___iter__ (defScope s_Store___iter__) := ⟨rfl, rfl, rfl, by decide +kernel, rfl, by decide +kernel, by decide +kernel⟩
abbrev s_Store___contains__ : Stmt := inClass (topS 20) 3
abbrev N_Store___contains__ : List Str := ["self", "name"]
abbrev P_Store___contains__ : List Str := ["self", "name"]
theorem sc_Store___contains__ : FnScope N_Store___contains__ P_Store___contains__ (defScope s_Store___contains__) := ⟨rfl, rfl, rfl, by decide +kernel, rfl, by decide +kernel, by decide +kernel⟩
abbrev s_Store___len__ : Stmt := inClass (topS 20) 4
abbrev N_Store___len__ : List Str := ["self"]
abbrev P_Store___len__ : List Str := ["self"]
theorem sc_Store___len__ : FnScope N_Store___len__ P_Store___len__ (defScope s_Store___len__) := ⟨rfl, rfl, rfl, by decide +kernel, rfl, by decide +kernel, by decide +kernel⟩
abbrev s_first_definer : Stmt := topS 22
abbrev N_first_definer : List Str := ["store", "some", "symbol", "found"]
abbrev P_first_definer : List Str := ["store", "some", "symbol"]
theorem sc_first_definer : FnScope N_first_definer P_first_definer (defScope s_first_definer) := ⟨rfl, rfl, rfl, by decide +kernel, rfl, by decide +kernel, by decide +kernel⟩
abbrev s_check_wishes : Stmt := topS 24
abbrev N_check_wishes : List Str := ["store", "wishes", "symbol"]
abbrev P_check_wishes : List Str := ["store", "wishes"]
theorem sc_check_wishes : FnScope N_check_wishes P_check_wishes (defScope s_check_wishes) := ⟨rfl, rfl, rfl, by decide +kernel, rfl, by decide +kernel, by decide +kernel⟩
abbrev s_ahead_of : Stmt := topS 25
abbrev N_ahead_of : List Str := ["store", "wishes", "some", "name", "found", "symbol", "wished"]
abbrev P_ahead_of : List Str := ["store", "wishes", "some", "name"]
theorem sc_ahead_of : FnScope N_ahead_of P_ahead_of (defScope s_ahead_of) := ⟨rfl, rfl, rfl, by decide +kernel, rfl, by decide +kernel, by decide +kernel⟩
abbrev s_required : Stmt := topS 26
abbrev N_required : List Str := ["store", "everywhere", "wishes", "found", "symbol", "name", "others", "at"]
abbrev P_required : List Str := ["store", "everywhere", "wishes"]
theorem sc_required : FnScope N_required P_required (defScope s_required) := ⟨rfl, rfl, rfl, by decide +kernel, rfl, by decide +kernel, by decide +kernel⟩
abbrev s_ring_among : Stmt := topS 27
abbrev N_ring_among : List Str := ["store", "wishes", "some", "walk", "symbols", "symbol", "name", "at", "pairs", "place"]
abbrev P_ring_among : List Str := ["store", "wishes", "some"]
theorem sc_ring_among : FnScope N_ring_among P_ring_among (defScope s_ring_among) := ⟨rfl, rfl, rfl, by decide +kernel, rfl, by decide +kernel, by decide +kernel⟩
abbrev s_ordered : Stmt := topS 28
abbrev N_ordered : List Str := ["store", "wishes", "some", "found", "free", "name"]
abbrev P_ordered : List Str := ["store", "wishes", "some"]
theorem sc_ordered : FnScope N_ordered P_ordered (defScope s_ordered) := ⟨rfl, rfl, rfl, by decide +kernel, rfl, by decide +kernel, by decide +kernel⟩
abbrev s_least_preloads : Stmt := topS 29
abbrev N_least_preloads : List Str := ["store", "main", "wishes", "everywhere", "symbol"]
abbrev P_least_preloads : List Str := ["store", "main", "wishes"]
theorem sc_least_preloads : FnScope N_least_preloads P_least_preloads (defScope s_least_preloads) := ⟨rfl, rfl, rfl, by decide +kernel, rfl, by decide +kernel, by decide +kernel⟩
abbrev s__law_cell_at : Stmt := topS 31
abbrev N__law_cell_at : List Str := ["_law_script", "_law_k"]
abbrev P__law_cell_at : List Str := ["_law_script", "_law_k"]
theorem sc__law_cell_at : FnScope N__law_cell_at P__law_cell_at (defScope s__law_cell_at) := ⟨rfl, rfl, rfl, by decide +kernel, rfl, by decide +kernel, by decide +kernel⟩
abbrev s__law_begin : Stmt := topS 32
abbrev N__law_begin : List Str := ["_law_cell"]
abbrev P__law_begin : List Str := ["_law_cell"]
theorem sc__law_begin : FnScope N__law_begin P__law_begin (defScope s__law_begin) := ⟨rfl, rfl, rfl, by decide +kernel, rfl, by decide +kernel, by decide +kernel⟩
abbrev s__law_draw : Stmt := topS 33
abbrev N__law_draw : List Str := ["_law_source", "_law_many", "_law_found", "_law_figure"]
abbrev P__law_draw : List Str := ["_law_source", "_law_many"]
theorem sc__law_draw : FnScope N__law_draw P__law_draw (defScope s__law_draw) := ⟨rfl, rfl, rfl, by decide +kernel, rfl, by decide +kernel, by decide +kernel⟩
abbrev s__law_pick : Stmt := topS 34
abbrev N__law_pick : List Str := ["_law_source", "_law_some"]
abbrev P__law_pick : List Str := ["_law_source", "_law_some"]
theorem sc__law_pick : FnScope N__law_pick P__law_pick (defScope s__law_pick) := ⟨rfl, rfl, rfl, by decide +kernel, rfl, by decide +kernel, by decide +kernel⟩
abbrev s__law_part : Stmt := topS 35
abbrev N__law_part : List Str := ["_law_source", "_law_some", "_law_rare", "_law_left", "_law_one", "_law_found"]
abbrev P__law_part : List Str := ["_law_source", "_law_some", "_law_rare"]
theorem sc__law_part : FnScope N__law_part P__law_part (defScope s__law_part) := ⟨rfl, rfl, rfl, by decide +kernel, rfl, by decide +kernel, by decide +kernel⟩
abbrev s__law_spelled : Stmt := topS 36
abbrev N__law_spelled : List Str := ["_law_source", "_law_many", "_law_letters", "_law_first", "_law_found", "_law_k", "_law_word", "_law_j"]
abbrev P__law_spelled : List Str := ["_law_source", "_law_many"]
theorem sc__law_spelled : FnScope N__law_spelled P__law_spelled (defScope s__law_spelled) := ⟨rfl, rfl, rfl, by decide +kernel, rfl, by decide +kernel, by decide +kernel⟩
abbrev s__law_library : Stmt := topS 37
abbrev N__law_library : List Str := ["_law_source", "_law_word", "_law_words", "_law_gone", "_law_signs", "_law_below", "_law_one", "_law_spot", "_law_made", "_law_used", "_law_soft", "_law_kinds"]
abbrev P__law_library : List Str := ["_law_source", "_law_word", "_law_words", "_law_gone", "_law_signs"]
theorem sc__law_library : FnScope N__law_library P__law_library (defScope s__law_library) := ⟨rfl, rfl, rfl, by decide +kernel, rfl, by decide +kernel, by decide +kernel⟩
abbrev s__law_libraries : Stmt := topS 38
abbrev N__law_libraries : List Str := ["_law_source", "_law_most", "_law_signs", "_law_words", "_law_found", "_law_word"]
abbrev P__law_libraries : List Str := ["_law_source", "_law_most", "_law_signs"]
theorem sc__law_libraries : FnScope N__law_libraries P__law_libraries (defScope s__law_libraries) := ⟨rfl, rfl, rfl, by decide +kernel, rfl, by decide +kernel, by decide +kernel⟩
abbrev s__law_stored : Stmt := topS 39
abbrev N__law_stored : List Str := ["_law_table", "_law_made", "_law_word", "_law_row", "_law_below", "_law_makes", "_law_asks", "_law_soft"]
abbrev P__law_stored : List Str := ["_law_table"]
theorem sc__law_stored : FnScope N__law_stored P__law_stored (defScope s__law_stored) := ⟨rfl, rfl, rfl, by decide +kernel, rfl, by decide +kernel, by decide +kernel⟩
abbrev s__law_closed : Stmt := topS 40
abbrev N__law_closed : List Str := ["_law_table", "_law_word", "_law_found", "_law_k", "_law_one"]
abbrev P__law_closed : List Str := ["_law_table", "_law_word"]
theorem sc__law_closed : FnScope N__law_closed P__law_closed (defScope s__law_closed) := ⟨rfl, rfl, rfl, by decide +kernel, rfl, by decide +kernel, by decide +kernel⟩
abbrev s__law_complete : Stmt := topS 41
abbrev N__law_complete : List Str := ["_law_table", "_law_word"]
abbrev P__law_complete : List Str := ["_law_table"]
theorem sc__law_complete : FnScope N__law_complete P__law_complete (defScope s__law_complete) := ⟨rfl, rfl, rfl, by decide +kernel, rfl, by decide +kernel, by decide +kernel⟩
abbrev s__law_definer : Stmt := topS 42
abbrev N__law_definer : List Str := ["_law_table", "_law_some", "_law_sign", "_law_word"]
abbrev P__law_definer : List Str := ["_law_table", "_law_some", "_law_sign"]
theorem sc__law_definer : FnScope N__law_definer P__law_definer (defScope s__law_definer) := ⟨rfl, rfl, rfl, by decide +kernel, rfl, by decide +kernel, by decide +kernel⟩
abbrev s__law_wishes : Stmt := topS 43
abbrev N__law_wishes : List Str := ["_law_source", "_law_table", "_law_signs", "_law_found", "_law_sign", "_law_makers", "_law_word"]
abbrev P__law_wishes : List Str := ["_law_source", "_law_table", "_law_signs"]
theorem sc__law_wishes : FnScope N__law_wishes P__law_wishes (defScope s__law_wishes) := ⟨rfl, rfl, rfl, by decide +kernel, rfl, by decide +kernel, by decide +kernel⟩
abbrev s__law_global : Stmt := topS 44
abbrev N__law_global : List Str := ["_law_table", "_law_first", "_law_early", "_law_found", "_law_one"]
abbrev P__law_global : List Str := ["_law_table", "_law_first", "_law_early"]
theorem sc__law_global : FnScope N__law_global P__law_global (defScope s__law_global) := ⟨rfl, rfl, rfl, by decide +kernel, rfl, by decide +kernel, by decide +kernel⟩
abbrev s__law_met : Stmt := topS 45
abbrev N__law_met : List Str := ["_law_table", "_law_some", "_law_asked", "_law_sign", "_law_word"]
abbrev P__law_met : List Str := ["_law_table", "_law_some", "_law_asked"]
theorem sc__law_met : FnScope N__law_met P__law_met (defScope s__law_met) := ⟨rfl, rfl, rfl, by decide +kernel, rfl, by decide +kernel, by decide +kernel⟩
abbrev s__law_ahead : Stmt := topS 46
abbrev N__law_ahead : List Str := ["_law_table", "_law_asked", "_law_some", "_law_word", "_law_found", "_law_sign", "_law_other"]
abbrev P__law_ahead : List Str := ["_law_table", "_law_asked", "_law_some", "_law_word"]
theorem sc__law_ahead : FnScope N__law_ahead P__law_ahead (defScope s__law_ahead) := ⟨rfl, rfl, rfl, by decide +kernel, rfl, by decide +kernel, by decide +kernel⟩
abbrev s__law_required : Stmt := topS 47
abbrev N__law_required : List Str := ["_law_table", "_law_first", "_law_asked", "_law_plain", "_law_found", "_law_sign", "_law_word", "_law_others", "_law_turn", "_law_more"]
abbrev P__law_required : List Str := ["_law_table", "_law_first", "_law_asked"]
theorem sc__law_required : FnScope N__law_required P__law_required (defScope s__law_required) := ⟨rfl, rfl, rfl, by decide +kernel, rfl, by decide +kernel, by decide +kernel⟩
abbrev s__law_hoped : Stmt := topS 48
abbrev N__law_hoped : List Str := ["_law_source", "_law_table", "_law_first", "_law_signs", "_law_early", "_law_word", "_law_wide", "_law_found", "_law_sign"]
abbrev P__law_hoped : List Str := ["_law_source", "_law_table", "_law_first", "_law_signs"]
theorem sc__law_hoped : FnScope N__law_hoped P__law_hoped (defScope s__law_hoped) := ⟨rfl, rfl, rfl, by decide +kernel, rfl, by decide +kernel, by decide +kernel⟩
abbrev s_law : Stmt := topS 49
abbrev N_law : List Str := ["_law_script", "_law_k", "_law_cell", "_law_source", "_law_signs", "_law_table", "_law_first", "_law_turn", "_law_asked", "_law_told"]
abbrev P_law : List Str := ["_law_script"]
theorem sc_law : FnScope N_law P_law (defScope s_law) := ⟨rfl, rfl, rfl, by decide +kernel, rfl, by decide +kernel, by decide +kernel⟩
/-- where things stand -/
structure Adr where
  C_LoadError : Addr
  C_NoLibrary : Addr
  C_NoStore : Addr
  C_NoName : Addr
  C_Missing : Addr
  C_NoSymbol : Addr
  C_NoWishes : Addr
  C_Library : Addr
  C_Store : Addr
  f_NoLibrary___init__ : Addr
  d_NoLibrary___init__ : FuncData
  f_NoStore___init__ : Addr
  d_NoStore___init__ : FuncData
  f_NoName___init__ : Addr
  d_NoName___init__ : FuncData
  f_Missing___init__ : Addr
  d_Missing___init__ : FuncData
  f_NoSymbol___init__ : Addr
  d_NoSymbol___init__ : FuncData
  f_NoWishes___init__ : Addr
  d_NoWishes___init__ : FuncData
  f_is_word : Addr
  d_is_word : FuncData
  f_are_words : Addr
  d_are_words : FuncData
  f_check_symbol : Addr
  d_check_symbol : FuncData
  f_closure : Addr
  d_closure : FuncData
  f_grown : Addr
  d_grown : FuncData
  f_definers : Addr
  d_definers : FuncData
  f_Library___init__ : Addr
  d_Library___init__ : FuncData
  f_Library_row : Addr
  d_Library_row : FuncData
  f_Library___eq__ : Addr
  d_Library___eq__ : FuncData
  f_Store___init__ : Addr
  d_Store___init__ : FuncData
  f_Store___getitem__ : Addr
  d_Store___getitem__ : FuncData
  f_Store___iter__ : Addr
  d_Store___iter__ : FuncData
  f_Store___contains__ : Addr
  d_Store___contains__ : FuncData
  f_Store___len__ : Addr
  d_Store___len__ : FuncData
  f_first_definer : Addr
  d_first_definer : FuncData
  f_check_wishes : Addr
  d_check_wishes : FuncData
  f_ahead_of : Addr
  d_ahead_of : FuncData
  f_required : Addr
  d_required : FuncData
  f_ring_among : Addr
  d_ring_among : FuncData
  f_ordered : Addr
  d_ordered : FuncData
  f_least_preloads : Addr
  d_least_preloads : FuncData
  f__law_cell_at : Addr
  d__law_cell_at : FuncData
  f__law_begin : Addr
  d__law_begin : FuncData
  f__law_draw : Addr
  d__law_draw : FuncData
  f__law_pick : Addr
  d__law_pick : FuncData
  f__law_part : Addr
  d__law_part : FuncData
  f__law_spelled : Addr
  d__law_spelled : FuncData
  f__law_library : Addr
  d__law_library : FuncData
  f__law_libraries : Addr
  d__law_libraries : FuncData
  f__law_stored : Addr
  d__law_stored : FuncData
  f__law_closed : Addr
  d__law_closed : FuncData
  f__law_complete : Addr
  d__law_complete : FuncData
  f__law_definer : Addr
  d__law_definer : FuncData
  f__law_wishes : Addr
  d__law_wishes : FuncData
  f__law_global : Addr
  d__law_global : FuncData
  f__law_met : Addr
  d__law_met : FuncData
  f__law_ahead : Addr
  d__law_ahead : FuncData
  f__law_required : Addr
  d__law_required : FuncData
  f__law_hoped : Addr
  d__law_hoped : FuncData
  f_law : Addr
  d_law : FuncData
  e0 : Addr
  e1 : Addr
  e2 : Addr
  e3 : Addr
/-- Library's defaults -/
def kwL (A : Adr) : List (Str × V) := [("needs", .ref A.e0), ("defines", .ref A.e1), ("uses", .ref A.e2), ("weak", .ref A.e3), ("eager", .bl false), ("own_first", .bl false)]
/-- what the top has written -/
structure Txt (K : PySem.W.Frag) (mg : Str → Option Value) (A : Adr) : Prop where
  b_ValueError : mg "ValueError" = none
  b_all : mg "all" = none
  b_bool : mg "bool" = none
  b_dict : mg "dict" = none
  b_enumerate : mg "enumerate" = none
  b_int : mg "int" = none
  b_isinstance : mg "isinstance" = none
  b_len : mg "len" = none
  b_list : mg "list" = none
  b_range : mg "range" = none
  b_set : mg "set" = none
  b_sorted : mg "sorted" = none
  b_str : mg "str" = none
  b_tuple : mg "tuple" = none
  c_LETTERS : ∃ u, mg "LETTERS" = some u ∧ RelV (.str "abcdefghijklmnopqrstuvwxyz") u
  c_MOST_LIBRARIES : ∃ u, mg "MOST_LIBRARIES" = some u ∧ RelV (.int 40) u
  ld : LdC K mg A.C_LoadError
  x_NoLibrary : XC K mg "NoLibrary" "part" A.C_NoLibrary A.f_NoLibrary___init__
  x_NoStore : XC K mg "NoStore" "at" A.C_NoStore A.f_NoStore___init__
  x_NoName : XC K mg "NoName" "name" A.C_NoName A.f_NoName___init__
  x_Missing : XC K mg "Missing" "name" A.C_Missing A.f_Missing___init__
  x_NoSymbol : XC K mg "NoSymbol" "symbol" A.C_NoSymbol A.f_NoSymbol___init__
  x_NoWishes : XC K mg "NoWishes" "symbol" A.C_NoWishes A.f_NoWishes___init__
  g_Library : mg "Library" = some (.ref A.C_Library)
  cl_Library : Cls K A.C_Library
  na_Library_name : NoAttr K A.C_Library "name"
  na_Library_needs : NoAttr K A.C_Library "needs"
  na_Library_defines : NoAttr K A.C_Library "defines"
  na_Library_uses : NoAttr K A.C_Library "uses"
  na_Library_weak : NoAttr K A.C_Library "weak"
  na_Library_eager : NoAttr K A.C_Library "eager"
  na_Library_own_first : NoAttr K A.C_Library "own_first"
  mk_Library : Mk K A.C_Library A.f_Library___init__
  g_Store : mg "Store" = some (.ref A.C_Store)
  cl_Store : Cls K A.C_Store
  na_Store_kept : NoAttr K A.C_Store "kept"
  mk_Store : Mk K A.C_Store A.f_Store___init__
  F_NoLibrary___init__ : Fun K "__init__" "NoLibrary.__init__" s_NoLibrary___init__ A.f_NoLibrary___init__ A.d_NoLibrary___init__
  bi_NoLibrary___init__ : Binds K A.d_NoLibrary___init__ P_NoLibrary___init__ []
  F_NoStore___init__ : Fun K "__init__" "NoStore.__init__" s_NoStore___init__ A.f_NoStore___init__ A.d_NoStore___init__
  bi_NoStore___init__ : Binds K A.d_NoStore___init__ P_NoStore___init__ []
  F_NoName___init__ : Fun K "__init__" "NoName.__init__" s_NoName___init__ A.f_NoName___init__ A.d_NoName___init__
  bi_NoName___init__ : Binds K A.d_NoName___init__ P_NoName___init__ []
  F_Missing___init__ : Fun K "__init__" "Missing.__init__" s_Missing___init__ A.f_Missing___init__ A.d_Missing___init__
  bi_Missing___init__ : Binds K A.d_Missing___init__ P_Missing___init__ []
  F_NoSymbol___init__ : Fun K "__init__" "NoSymbol.__init__" s_NoSymbol___init__ A.f_NoSymbol___init__ A.d_NoSymbol___init__
  bi_NoSymbol___init__ : Binds K A.d_NoSymbol___init__ P_NoSymbol___init__ []
  F_NoWishes___init__ : Fun K "__init__" "NoWishes.__init__" s_NoWishes___init__ A.f_NoWishes___init__ A.d_NoWishes___init__
  bi_NoWishes___init__ : Binds K A.d_NoWishes___init__ P_NoWishes___init__ []
  F_is_word : Fun K "is_word" "is_word" s_is_word A.f_is_word A.d_is_word
  bi_is_word : Binds K A.d_is_word P_is_word []
  g_is_word : mg "is_word" = some (.ref A.f_is_word)
  k_is_word : PySem.W.keepIn K (.ref A.f_is_word) = true
  F_are_words : Fun K "are_words" "are_words" s_are_words A.f_are_words A.d_are_words
  bi_are_words : Binds K A.d_are_words P_are_words []
  g_are_words : mg "are_words" = some (.ref A.f_are_words)
  k_are_words : PySem.W.keepIn K (.ref A.f_are_words) = true
  F_check_symbol : Fun K "check_symbol" "check_symbol" s_check_symbol A.f_check_symbol A.d_check_symbol
  bi_check_symbol : Binds K A.d_check_symbol P_check_symbol []
  g_check_symbol : mg "check_symbol" = some (.ref A.f_check_symbol)
  k_check_symbol : PySem.W.keepIn K (.ref A.f_check_symbol) = true
  F_closure : Fun K "closure" "closure" s_closure A.f_closure A.d_closure
  bi_closure : Binds K A.d_closure P_closure []
  g_closure : mg "closure" = some (.ref A.f_closure)
  k_closure : PySem.W.keepIn K (.ref A.f_closure) = true
  F_grown : Fun K "grown" "grown" s_grown A.f_grown A.d_grown
  bi_grown : Binds K A.d_grown P_grown []
  g_grown : mg "grown" = some (.ref A.f_grown)
  k_grown : PySem.W.keepIn K (.ref A.f_grown) = true
  F_definers : Fun K "definers" "definers" s_definers A.f_definers A.d_definers
  bi_definers : Binds K A.d_definers P_definers []
  g_definers : mg "definers" = some (.ref A.f_definers)
  k_definers : PySem.W.keepIn K (.ref A.f_definers) = true
  F_Library___init__ : FunD K "__init__" "Library.__init__" (defArgs s_Library___init__) (defBody s_Library___init__) (defScope s_Library___init__) [] (kwL A) A.f_Library___init__ A.d_Library___init__
  F_Library_row : Fun K "row" "Library.row" s_Library_row A.f_Library_row A.d_Library_row
  bi_Library_row : Binds K A.d_Library_row P_Library_row []
  me_Library_row : Meth K A.C_Library "row" A.f_Library_row
  F_Library___eq__ : Fun K "__eq__" "Library.__eq__" s_Library___eq__ A.f_Library___eq__ A.d_Library___eq__
  bi_Library___eq__ : Binds K A.d_Library___eq__ P_Library___eq__ []
  du_Library_eq : Dun K A.C_Library "__eq__" A.f_Library___eq__
  F_Store___init__ : Fun K "__init__" "Store.__init__" s_Store___init__ A.f_Store___init__ A.d_Store___init__
  bi_Store___init__ : Binds K A.d_Store___init__ P_Store___init__ []
  F_Store___getitem__ : Fun K "__getitem__" "Store.__getitem__" s_Store___getitem__ A.f_Store___getitem__ A.d_Store___getitem__
  bi_Store___getitem__ : Binds K A.d_Store___getitem__ P_Store___getitem__ []
  du_Store_getitem : Dun K A.C_Store "__getitem__" A.f_Store___getitem__
  fi_Store_getitem : PySem.W.fnIn K A.f_Store___getitem__ = true
  F_Store___iter__ : Fun K "__iter__" "Store.__iter__" s_Store___iter__ A.f_Store___iter__ A.d_Store___iter__
  bi_Store___iter__ : Binds K A.d_Store___iter__ P_Store___iter__ []
  du_Store_iter : Dun K A.C_Store "__iter__" A.f_Store___iter__
  F_Store___contains__ : Fun K "__contains__" "Store.__contains__" s_Store___contains__ A.f_Store___contains__ A.d_Store___contains__
  bi_Store___contains__ : Binds K A.d_Store___contains__ P_Store___contains__ []
  du_Store_contains : Dun K A.C_Store "__contains__" A.f_Store___contains__
  F_Store___len__ : Fun K "__len__" "Store.__len__" s_Store___len__ A.f_Store___len__ A.d_Store___len__
  bi_Store___len__ : Binds K A.d_Store___len__ P_Store___len__ []
  du_Store_len : Dun K A.C_Store "__len__" A.f_Store___len__
  F_first_definer : Fun K "first_definer" "first_definer" s_first_definer A.f_first_definer A.d_first_definer
  bi_first_definer : Binds K A.d_first_definer P_first_definer []
  g_first_definer : mg "first_definer" = some (.ref A.f_first_definer)
  k_first_definer : PySem.W.keepIn K (.ref A.f_first_definer) = true
  F_check_wishes : Fun K "check_wishes" "check_wishes" s_check_wishes A.f_check_wishes A.d_check_wishes
  bi_check_wishes : Binds K A.d_check_wishes P_check_wishes []
  g_check_wishes : mg "check_wishes" = some (.ref A.f_check_wishes)
  k_check_wishes : PySem.W.keepIn K (.ref A.f_check_wishes) = true
  F_ahead_of : Fun K "ahead_of" "ahead_of" s_ahead_of A.f_ahead_of A.d_ahead_of
  bi_ahead_of : Binds K A.d_ahead_of P_ahead_of []
  g_ahead_of : mg "ahead_of" = some (.ref A.f_ahead_of)
  k_ahead_of : PySem.W.keepIn K (.ref A.f_ahead_of) = true
  F_required : Fun K "required" "required" s_required A.f_required A.d_required
  bi_required : Binds K A.d_required P_required []
  g_required : mg "required" = some (.ref A.f_required)
  k_required : PySem.W.keepIn K (.ref A.f_required) = true
  F_ring_among : Fun K "ring_among" "ring_among" s_ring_among A.f_ring_among A.d_ring_among
  bi_ring_among : Binds K A.d_ring_among P_ring_among []
  g_ring_among : mg "ring_among" = some (.ref A.f_ring_among)
  k_ring_among : PySem.W.keepIn K (.ref A.f_ring_among) = true
  F_ordered : Fun K "ordered" "ordered" s_ordered A.f_ordered A.d_ordered
  bi_ordered : Binds K A.d_ordered P_ordered []
  g_ordered : mg "ordered" = some (.ref A.f_ordered)
  k_ordered : PySem.W.keepIn K (.ref A.f_ordered) = true
  F_least_preloads : Fun K "least_preloads" "least_preloads" s_least_preloads A.f_least_preloads A.d_least_preloads
  bi_least_preloads : Binds K A.d_least_preloads P_least_preloads []
  g_least_preloads : mg "least_preloads" = some (.ref A.f_least_preloads)
  k_least_preloads : PySem.W.keepIn K (.ref A.f_least_preloads) = true
  F__law_cell_at : Fun K "_law_cell_at" "_law_cell_at" s__law_cell_at A.f__law_cell_at A.d__law_cell_at
  bi__law_cell_at : Binds K A.d__law_cell_at P__law_cell_at []
  g__law_cell_at : mg "_law_cell_at" = some (.ref A.f__law_cell_at)
  k__law_cell_at : PySem.W.keepIn K (.ref A.f__law_cell_at) = true
  F__law_begin : Fun K "_law_begin" "_law_begin" s__law_begin A.f__law_begin A.d__law_begin
  bi__law_begin : Binds K A.d__law_begin P__law_begin []
  g__law_begin : mg "_law_begin" = some (.ref A.f__law_begin)
  k__law_begin : PySem.W.keepIn K (.ref A.f__law_begin) = true
  F__law_draw : Fun K "_law_draw" "_law_draw" s__law_draw A.f__law_draw A.d__law_draw
  bi__law_draw : Binds K A.d__law_draw P__law_draw []
  g__law_draw : mg "_law_draw" = some (.ref A.f__law_draw)
  k__law_draw : PySem.W.keepIn K (.ref A.f__law_draw) = true
  F__law_pick : Fun K "_law_pick" "_law_pick" s__law_pick A.f__law_pick A.d__law_pick
  bi__law_pick : Binds K A.d__law_pick P__law_pick []
  g__law_pick : mg "_law_pick" = some (.ref A.f__law_pick)
  k__law_pick : PySem.W.keepIn K (.ref A.f__law_pick) = true
  F__law_part : Fun K "_law_part" "_law_part" s__law_part A.f__law_part A.d__law_part
  bi__law_part : Binds K A.d__law_part P__law_part []
  g__law_part : mg "_law_part" = some (.ref A.f__law_part)
  k__law_part : PySem.W.keepIn K (.ref A.f__law_part) = true
  F__law_spelled : Fun K "_law_spelled" "_law_spelled" s__law_spelled A.f__law_spelled A.d__law_spelled
  bi__law_spelled : Binds K A.d__law_spelled P__law_spelled []
  g__law_spelled : mg "_law_spelled" = some (.ref A.f__law_spelled)
  k__law_spelled : PySem.W.keepIn K (.ref A.f__law_spelled) = true
  F__law_library : Fun K "_law_library" "_law_library" s__law_library A.f__law_library A.d__law_library
  bi__law_library : Binds K A.d__law_library P__law_library []
  g__law_library : mg "_law_library" = some (.ref A.f__law_library)
  k__law_library : PySem.W.keepIn K (.ref A.f__law_library) = true
  F__law_libraries : Fun K "_law_libraries" "_law_libraries" s__law_libraries A.f__law_libraries A.d__law_libraries
  bi__law_libraries : Binds K A.d__law_libraries P__law_libraries []
  g__law_libraries : mg "_law_libraries" = some (.ref A.f__law_libraries)
  k__law_libraries : PySem.W.keepIn K (.ref A.f__law_libraries) = true
  F__law_stored : Fun K "_law_stored" "_law_stored" s__law_stored A.f__law_stored A.d__law_stored
  bi__law_stored : Binds K A.d__law_stored P__law_stored []
  g__law_stored : mg "_law_stored" = some (.ref A.f__law_stored)
  k__law_stored : PySem.W.keepIn K (.ref A.f__law_stored) = true
  F__law_closed : Fun K "_law_closed" "_law_closed" s__law_closed A.f__law_closed A.d__law_closed
  bi__law_closed : Binds K A.d__law_closed P__law_closed []
  g__law_closed : mg "_law_closed" = some (.ref A.f__law_closed)
  k__law_closed : PySem.W.keepIn K (.ref A.f__law_closed) = true
  F__law_complete : Fun K "_law_complete" "_law_complete" s__law_complete A.f__law_complete A.d__law_complete
  bi__law_complete : Binds K A.d__law_complete P__law_complete []
  g__law_complete : mg "_law_complete" = some (.ref A.f__law_complete)
  k__law_complete : PySem.W.keepIn K (.ref A.f__law_complete) = true
  F__law_definer : Fun K "_law_definer" "_law_definer" s__law_definer A.f__law_definer A.d__law_definer
  bi__law_definer : Binds K A.d__law_definer P__law_definer []
  g__law_definer : mg "_law_definer" = some (.ref A.f__law_definer)
  k__law_definer : PySem.W.keepIn K (.ref A.f__law_definer) = true
  F__law_wishes : Fun K "_law_wishes" "_law_wishes" s__law_wishes A.f__law_wishes A.d__law_wishes
  bi__law_wishes : Binds K A.d__law_wishes P__law_wishes []
  g__law_wishes : mg "_law_wishes" = some (.ref A.f__law_wishes)
  k__law_wishes : PySem.W.keepIn K (.ref A.f__law_wishes) = true
  F__law_global : Fun K "_law_global" "_law_global" s__law_global A.f__law_global A.d__law_global
  bi__law_global : Binds K A.d__law_global P__law_global []
  g__law_global : mg "_law_global" = some (.ref A.f__law_global)
  k__law_global : PySem.W.keepIn K (.ref A.f__law_global) = true
  F__law_met : Fun K "_law_met" "_law_met" s__law_met A.f__law_met A.d__law_met
  bi__law_met : Binds K A.d__law_met P__law_met []
  g__law_met : mg "_law_met" = some (.ref A.f__law_met)
  k__law_met : PySem.W.keepIn K (.ref A.f__law_met) = true
  F__law_ahead : Fun K "_law_ahead" "_law_ahead" s__law_ahead A.f__law_ahead A.d__law_ahead
  bi__law_ahead : Binds K A.d__law_ahead P__law_ahead []
  g__law_ahead : mg "_law_ahead" = some (.ref A.f__law_ahead)
  k__law_ahead : PySem.W.keepIn K (.ref A.f__law_ahead) = true
  F__law_required : Fun K "_law_required" "_law_required" s__law_required A.f__law_required A.d__law_required
  bi__law_required : Binds K A.d__law_required P__law_required []
  g__law_required : mg "_law_required" = some (.ref A.f__law_required)
  k__law_required : PySem.W.keepIn K (.ref A.f__law_required) = true
  F__law_hoped : Fun K "_law_hoped" "_law_hoped" s__law_hoped A.f__law_hoped A.d__law_hoped
  bi__law_hoped : Binds K A.d__law_hoped P__law_hoped []
  g__law_hoped : mg "_law_hoped" = some (.ref A.f__law_hoped)
  k__law_hoped : PySem.W.keepIn K (.ref A.f__law_hoped) = true
  F_law : Fun K "law" "law" s_law A.f_law A.d_law
  bi_law : Binds K A.d_law P_law []
  g_law : mg "law" = some (.ref A.f_law)
  k_law : PySem.W.keepIn K (.ref A.f_law) = true
  e0_ok : ∀ H : Hp, SqT K H A.e0 []
  e1_ok : ∀ H : Hp, SqT K H A.e1 []
  e2_ok : ∀ H : Hp, SqT K H A.e2 []
  e3_ok : ∀ H : Hp, SqT K H A.e3 []
  ty_Library : ∀ {H : Hp} {a dx : Addr} {fs : List (Str × V)}, H a = some (.ins A.C_Library dx fs) → TyX K H (.ref a) (.ref A.C_Library)
  ty_Store : ∀ {H : Hp} {a dx : Addr} {fs : List (Str × V)}, H a = some (.ins A.C_Store dx fs) → TyX K H (.ref a) (.ref A.C_Store)
/-- the attributes of a library, in the order of the stores -/
abbrev libK : List Str := ["name", "needs", "defines", "uses", "weak", "eager", "own_first"]
local macro_rules | `(tactic| walk_at "rd1") => `(tactic| with_reducible first
  | refine r_seq ?_ | refine r_next ?_ | refine r_asg ?_ | refine r_name ?_ | refine r_ret ?_ | refine r_retN ?_ | refine r_drop ?_ | refine r_if ?_
  | refine r_c ?_ | refine r_op ?_ | refine r_un ?_ | refine r_nil ?_ | refine r_cons ?_ | refine r_CB ?_ | refine r_call ?_ | refine r_test ?_ | refine r_B ?_
  | refine r_iteT (c := true) rfl ?_ | refine r_iteF (c := false) rfl ?_ | refine r_iteF (c := !true) rfl ?_ | refine r_iteT (c := !false) rfl ?_
  | refine r_not ?_ | refine r_and ?_ | refine r_or ?_ | refine r_notV ?_ | refine r_andV ?_ | refine r_orV ?_ | refine r_ifE ?_ | refine r_sub ?_ | refine r_tupT ?_ | refine r_lstT ?_
  | refine r_lc ?_ | refine r_iL ?_ | refine r_iT ?_ | refine r_iS ?_ | refine r_iR1 ?_ | refine r_iR2 ?_ | refine r_for ?_ | refine r_yes ?_ | refine r_inS ?_
  | refine r_fld ?_ | refine r_sfld ?_ | refine r_meth ?_ | refine r_make ?_ | refine r_makeK ?_ | refine r_vei ?_ | refine r_ost ?_ | refine r_mkx ?_
  | refine r_try ?_ | refine r_xa0 ?_ | refine r_iE ?_ | refine r_subO ?_ | refine r_tDIn ?_ | refine r_tDNotIn ?_ | refine r_tDGet ?_ | refine r_sDPut ?_ | refine r_bm ?_ | refine r_bm0 ?_ | refine r_rU ?_ | refine r_step ?_ | refine r_gnil ?_ | refine r_gcons ?_ | refine r_lstM ?_ | refine r_tupM ?_ | refine r_sl ?_ | refine r_noPart ?_ | refine r_part ?_ | refine r_intEx ?_ | refine r_chain ?_ | refine r_lenSetT ?_ | refine r_intB ?_ | refine r_I0 ?_ | refine r_par ?_ | refine r_sortSetL ?_ | refine r_pr2 ?_ | refine r_bl ?_
  | (refine r_var (v := ?rv_v) ?rv_h ?_; (case rv_h => with_unfolding_all rfl)))
local macro_rules | `(tactic| walk_at "rd") => `(tactic| repeat (walk_at "rd1"))
local macro_rules | `(tactic| walk_at "ht") => `(tactic| first
  | assumption
  | (refine' ht_ex ?ht_H ?ht_e ?ht_h; (case ht_e => assumption); (case ht_h => walk_at "ht"))
  | (refine' ht_sm ?ht_H ?ht_p ?ht_e ?ht_n ?ht_h; (case ht_e => assumption); (case ht_n => walk_at "ne"); (case ht_h => walk_at "ht"))
  | (refine' hl_ex ?ht_H ?ht_e ?ht_h; (case ht_e => assumption); (case ht_h => walk_at "ht"))
  | (refine' hl_sm ?ht_H ?ht_p ?ht_e ?ht_n ?ht_h; (case ht_e => assumption); (case ht_n => walk_at "ne"); (case ht_h => walk_at "ht"))
  | (refine' hl_at ?ht_h; (case ht_h => walk_at "ht"))
  | (refine' hq_ex ?ht_H ?ht_e ?ht_h; (case ht_e => assumption); (case ht_h => walk_at "ht"))
  | (refine' hq_at ?ht_h; (case ht_h => walk_at "ht"))
  | (refine' hw_ex ?ht_H ?ht_e ?ht_h; (case ht_e => assumption); (case ht_h => walk_at "ht"))
  | (refine' hw_sm ?ht_H ?ht_p ?ht_e ?ht_n ?ht_h; (case ht_e => assumption); (case ht_n => walk_at "ne"); (case ht_h => walk_at "ht")))
local macro_rules | `(tactic| walk_at "ne") => `(tactic| first
  | assumption
  | (refine' Ne.symm ?ht_n; (case ht_n => assumption))
  | (refine' ne_n1 ?ht_H ?ht_n ?ht_o ?ht_h; (case ht_n => assumption); (case ht_h => walk_at "ht"))
  | (refine' ne_n2 ?ht_H ?ht_n ?ht_o ?ht_h; (case ht_n => assumption); (case ht_h => walk_at "ht"))
  | (refine' ne_w1 ?ht_H ?ht_n ?ht_m ?ht_h; (case ht_n => assumption); (case ht_h => walk_at "ht"))
  | (refine' ne_w2 ?ht_H ?ht_n ?ht_m ?ht_h; (case ht_n => assumption); (case ht_h => walk_at "ht")))
local macro_rules | `(tactic| walk_at "sm") => `(tactic| first
  | exact Sm.refl | assumption
  | (refine' hs_ex ?ht_H ?ht_e ?ht_h; (case ht_e => assumption); (case ht_h => walk_at "sm"))
  | (refine' hs_sm ?ht_H ?ht_e ?ht_h; (case ht_e => assumption); (case ht_h => walk_at "sm"))
  | (refine' hs_new ?ht_H ?ht_l ?ht_e ?ht_n ?ht_h; (case ht_e => assumption); (case ht_n => walk_at "nn"); (case ht_h => walk_at "sm")))
local macro_rules | `(tactic| walk_at "nn") => `(tactic| first
  | assumption
  | (refine' hn_ex ?ht_H ?ht_n ?ht_e; (case ht_n => assumption); (case ht_e => walk_at "he"))
  | (refine' hn_sm ?ht_H ?ht_p ?ht_n ?ht_e ?ht_q; (case ht_n => assumption); (case ht_e => walk_at "sm"); (case ht_q => walk_at "ne")))
local macro_rules | `(tactic| walk_at "he") => `(tactic| first
  | exact Ex.refl _ | assumption
  | (refine' he_ex ?ht_H ?ht_e ?ht_h; (case ht_e => assumption); (case ht_h => walk_at "he"))
  | (refine' he_new ?ht_H ?ht_l ?ht_e ?ht_n ?ht_h; (case ht_e => assumption); (case ht_n => walk_at "nn"); (case ht_h => walk_at "he")))
section
variable {P : Program} {w : World} {K : PySem.W.Frag} {mg : Str → Option Value} {base : Heap} {A : Adr}
theorem letters_eq : letters = (List.range 26).map (97 + ·) := by decide +kernel
theorem alpha_len : ("abcdefghijklmnopqrstuvwxyz" : Str).length ≤ 100000 := by decide +kernel
theorem alpha_at {k : Nat} (h : k < 26) : atI ("abcdefghijklmnopqrstuvwxyz" : Str).cps.toList (k : Int) = some (97 + k) := by
  refine atI_nat ?_
  show letters[k]? = some (97 + k)
  rw [letters_eq, List.getElem?_map, List.getElem?_range h]
  rfl
/-- a text: whether it is a word; a thing of another type: False -/
def sp_is_word (K : PySem.W.Frag) (A : Adr) : Sp := fun vs H Q _ => ∃ x, vs = [x] ∧ ((∃ z, x = .str z ∧ z.length ≤ 100000 ∧ ∀ H', Ex H H' → Q (.bl (isWord z)) H') ∨
  (∃ t, TyX K H x t ∧ PySem.W.kitOne K t (.type "str") = some false ∧ Q (.bl false) H))
theorem ok_is_word (T : Txt K mg A) : FnOk P w K mg base CX0 1 A.f_is_word A.d_is_word P_is_word (sp_is_word K A) := by
  refine T.F_is_word.ok sc_is_word (fun vs H Q E h => ?_) (fun cdv Ar outer s H vs Q E hr h => ?_)
  · obtain ⟨x, rfl, _⟩ := h; rfl
  · have hu := hu_of hr
    obtain ⟨u_LETTERS, h_LETTERS, r_LETTERS⟩ := T.c_LETTERS
    refine ⟨_, (pss_one (ps_ret (pe_and (pe_callB (k_isi K rfl) (by rfl) T.b_isinstance (by decide +kernel) (pa_cons (pv 0) (pa_cons (pe_bltn (v := .ty "str") (by rfl) T.b_str (by decide +kernel) rfl) pa_nil))) (pe_and (pe_chain op_le op_le pe_int (pe_callB call_lenStrQ (by rfl) T.b_len PySem.boot_len (pa_cons (pv 0) pa_nil)) pe_int) (pe_one (pe_callB (k_all K rfl rfl) (by rfl) T.b_all (by decide +kernel) (pa_cons (pe_lcM (own := [("letter", 1)]) (tt := tYes) rfl sc_is_word.nd (pi_str (pv 0)) (blkOk_by (N := N_is_word) (sc := defScope s_is_word) (by decide +kernel)) (fun _ _ _ _ _ => (pg_name (i := 1) sc_is_word.nd rfl (Or.inl rfl))) (fun _ _ _ _ _ => pts_nil) (fun _ _ _ _ _ => (pe_cmpR op_inS (pv 1) (pe_glob (by rfl) h_LETTERS r_LETTERS) (by rfl)))) pa_nil))))))), ?_⟩
    obtain ⟨x, rfl, h | h⟩ := h
    · obtain ⟨z, rfl, hz, k⟩ := h
      obtain ⟨t_L, rfl⟩ : ∃ t, u_LETTERS = .str "abcdefghijklmnopqrstuvwxyz" t := r_LETTERS
      walk_at "rd"
      refine r_isi (b := true) (.ty "str") (.base (.str z)) (kit_ty (by decide +kernel)) ?_
      walk_at "rd"
      refine r_lenStr hz ?_
      walk_at "rd"
      by_cases h1 : (1 : Int) ≤ (z.length : Nat)
      · rw [decide_eq_true h1]
        walk_at "rd"
        by_cases h2 : ((z.length : Nat) : Int) ≤ 12
        · rw [decide_eq_true h2]
          walk_at "rd"
          refine ⟨z, rfl, ?_⟩
          refine lc_val walk_str (by show z.length ≤ 50000; omega) (fun _ _ => trivial) (fun i ys => ys = (z.cps.toList.take i).map fun c => V.bl (decide (c ∈ letters))) rfl (fun i ys x H1 H2 hi e1 hs y => ?_) fun D ys H1 nD e1 hs hD => ?_
          · obtain ⟨rfl, c, hc, rfl⟩ := y
            walk_at "rd"
            refine ⟨rfl, ?_⟩
            walk_at "rd"
            refine ⟨Ex.refl _, ?_⟩
            rw [hs, List.take_add_one]
            have hc2 : z.cps.toList[i]? = some c := by rw [Array.getElem?_toList]; exact hc
            rw [hc2, List.map_append]
            rfl
          · walk_at "rd"
            have e : z.cps.size = z.cps.toList.length := by simp
            rw [e, List.take_length] at hs
            subst hs
            have hb : (z.cps.toList.map fun c => V.bl (decide (c ∈ letters))) = (z.cps.toList.map fun c => decide (c ∈ letters)).map V.bl := by simp
            rw [hb] at hD
            refine r_all (SqL.of hD) ?_
            have e3 : isWord z = (z.cps.toList.map fun c => decide (c ∈ letters)).all id := by
              unfold isWord
              rw [decide_eq_true (by omega : 1 ≤ z.length), decide_eq_true (by omega : z.length ≤ 12), List.all_map]
              rfl
            rw [← e3]
            exact k H1 e1
        · rw [decide_eq_false h2]
          walk_at "rd"
          have e3 : isWord z = false := by unfold isWord; rw [decide_eq_false (by omega : ¬ z.length ≤ 12)]; simp
          rw [← e3]
          exact k _ (Ex.refl _)
      · rw [decide_eq_false h1]
        walk_at "rd"
        have e3 : isWord z = false := by unfold isWord; rw [decide_eq_false (by omega : ¬ 1 ≤ z.length)]; simp
        rw [← e3]
        exact k _ (Ex.refl _)
    · obtain ⟨t, ty, kt, k⟩ := h
      walk_at "rd"
      refine r_isi (.ty "str") ty kt ?_
      walk_at "rd"
      exact k
abbrev sp_NoLibrary___init__ (K : PySem.W.Frag) (A : Adr) : Sp := spXi K A.C_NoLibrary "part"
theorem ok_NoLibrary___init__ (T : Txt K mg A) : FnOk P w K mg base CX0 1 A.f_NoLibrary___init__ A.d_NoLibrary___init__ P_NoLibrary___init__ (sp_NoLibrary___init__ K A) := by
  refine T.F_NoLibrary___init__.ok sc_NoLibrary___init__ (fun vs H Q E h => ?_) (fun cdv Ar outer s H vs Q E hr h => ?_)
  · obtain ⟨a, v, rfl, _⟩ := h; rfl
  · have hu := hu_of hr
    refine ⟨_, (pss_cons (ps_expr (pe_linit T.ld (by rfl) (pa_cons (pv 0) (pa_cons pe_str pa_nil))))
        (pss_one (ps_ost (pv 0) (pv 1)))), ?_⟩
    obtain ⟨a, v, rfl, ha, k⟩ := h
    walk_at "rd"
    refine ⟨a, A.C_NoLibrary, _, rfl, by simp, T.x_NoLibrary.o, ha, ?_⟩
    walk_at "rd"
    exact ⟨a, A.C_NoLibrary, rfl, T.x_NoLibrary.o, T.x_NoLibrary.no, .inl ⟨ha, fun dx nd ne => k dx nd ne⟩⟩
/-- what is_word may be asked of -/
def WArg (K : PySem.W.Frag) (H : Hp) (y : V) : Prop := (∃ z, y = .str z ∧ z.length ≤ 100000) ∨ (∃ t, TyX K H y t ∧ PySem.W.kitOne K t (.type "str") = some false ∧ ∀ z, y ≠ .str z)
def isWordV : V → Bool
  | .str z => isWord z
  | _ => false
/-- a tuple of at most m distinct words -/
def areWords (m : Int) (xs : List V) : Bool := decide ((xs.length : Nat) ≤ m) && (xs.all isWordV && decide xs.Nodup)
theorem allW_strs : ∀ xs : List V, xs.all isWordV = true → ∃ ws : List Str, xs = ws.map V.str
  | [], _ => ⟨[], rfl⟩
  | x :: r, h => by
    rw [List.all_cons, Bool.and_eq_true] at h
    obtain ⟨ws, e⟩ := allW_strs r h.2
    cases x with
    | str z => exact ⟨z :: ws, by rw [e]; rfl⟩
    | _ => exact absurd h.1 (by simp [isWordV])
theorem nd_strs (ws : List Str) : (ws.map V.str).Nodup ↔ ws.Nodup := by
  induction ws with
  | nil => simp
  | cons z r ih => simp [ih]
def sp_are_words (K : PySem.W.Frag) (A : Adr) : Sp := fun vs H Q _ => ∃ (x : V) (m : Int), vs = [x, .int m] ∧ ((∃ (a : Addr) (xs : List V), x = .ref a ∧ SqT K H a xs ∧ TyX K H x (.type "tuple") ∧ xs.length ≤ 1000 ∧ (∀ y ∈ xs, WArg K H y) ∧ ∀ H', Ex H H' → Q (.bl (areWords m xs)) H') ∨
  (∃ t, TyX K H x t ∧ PySem.W.kitOne K t (.type "tuple") = some false ∧ Q (.bl false) H))
theorem ok_are_words (T : Txt K mg A) : FnOk P w K mg base CX0 2 A.f_are_words A.d_are_words P_are_words (sp_are_words K A) := by
  refine T.F_are_words.ok sc_are_words (fun vs H Q E h => ?_) (fun cdv Ar outer s H vs Q E hr h => ?_)
  · obtain ⟨x, m, rfl, _⟩ := h; rfl
  · have hu := hu_of hr
    refine ⟨_, (pss_cons (ps_if (PW.pt (pw_or (pt_not (pt_val (pe_callB (k_isi K rfl) (by rfl) T.b_isinstance (by decide +kernel) (pa_cons (pv 0) (pa_cons (pe_bltn (v := .ty "tuple") (by rfl) T.b_tuple (by decide +kernel) rfl) pa_nil))))) (pw_or1 (pt_cmpR op_gt (pe_callB (k_len K rfl) (by rfl) T.b_len PySem.boot_len (pa_cons (pv 0) pa_nil)) (pv 1) (nomark _)))))
          (pss_one (ps_ret pe_bl))
          pss_nil)
        (pss_one (ps_ret (pe_and (pe_callB (k_all K rfl rfl) (by rfl) T.b_all (by decide +kernel) (pa_cons (pe_lcM (own := [("word", 2)]) (tt := tYes) rfl sc_are_words.nd (k_pit K rfl (pv 0)) (blkOk_by (N := N_are_words) (sc := defScope s_are_words) (by decide +kernel)) (fun _ _ _ _ _ => (pg_name (i := 2) sc_are_words.nd rfl (Or.inl rfl))) (fun _ _ _ _ _ => pts_nil) (fun _ _ _ _ _ => (pe_call (ok_is_word T) (hr.mono (by decide)) (by rfl) T.g_is_word T.k_is_word T.bi_is_word .nil pass0 (pa_cons (pv 2) pa_nil)))) pa_nil)) (pe_one (pe_cmpR op_eq (k_lenSet K rfl rfl (by rfl) T.b_len (by rfl) T.b_set (pv 0)) (pe_callB (k_len K rfl) (by rfl) T.b_len PySem.boot_len (pa_cons (pv 0) pa_nil)) (nomark _))))))), ?_⟩
    obtain ⟨x, m, rfl, h | h⟩ := h
    · obtain ⟨a, xs, rfl, hx, ty, hl, hw, k⟩ := h
      walk_at "rd"
      refine r_isi (b := true) (.ty "tuple") ty (kit_ty (by decide +kernel)) ?_
      walk_at "rd"
      refine r_lenT hx ?_
      walk_at "rd"
      by_cases hm : m < ((xs.length : Nat) : Int)
      · rw [decide_eq_true hm]
        walk_at "rd"
        have e : areWords m xs = false := by unfold areWords; rw [decide_eq_false (by omega : ¬ ((xs.length : Nat) : Int) ≤ m)]; rfl
        rw [← e]
        exact k _ (Ex.refl _)
      · rw [decide_eq_false hm]
        walk_at "rd"
        refine ⟨a, rfl, ⟨xs, hx⟩, ?_⟩
        refine lc_val walk_tup (by omega) (fun H1 e1 => ex_t e1 hx) (fun i ys => ys = (xs.take i).map fun y => V.bl (isWordV y)) rfl (fun i ys y H1 H2 hi e1 hs hy => ?_) fun D ys H1 nD e1 hs hD => ?_
        · obtain ⟨rfl, hy⟩ := hy
          walk_at "rd"
          refine ⟨rfl, ?_⟩
          walk_at "rd"
          have wa := hw y (List.mem_of_getElem? hy)
          have fin : ∀ H', Ex H2 H' → Ex H2 H' ∧ ys ++ [V.bl (isWordV y)] = (xs.take (i + 1)).map fun y => V.bl (isWordV y) := fun H' e => ⟨e, by rw [hs, List.take_add_one, hy, List.map_append]; rfl⟩
          refine ⟨y, rfl, ?_⟩
          rcases wa with ⟨z, rfl, hz⟩ | ⟨t, ty, kt, ns⟩
          · exact .inl ⟨z, rfl, hz, fun H' e => fin H' e⟩
          · refine .inr ⟨t, tyX_up e1 ty, kt, ?_⟩
            have e : isWordV y = false := by
              cases y with
              | str z => exact absurd rfl (ns z)
              | _ => rfl
            have f := fin H2 (Ex.refl _)
            rw [e] at f
            exact f
        · rw [List.take_length] at hs
          subst hs
          have hb : (xs.map fun y => V.bl (isWordV y)) = (xs.map isWordV).map V.bl := by simp
          rw [hb] at hD
          walk_at "rd"
          refine r_all (SqL.of hD) ?_
          have e2 : (xs.map isWordV).all id = xs.all isWordV := by rw [List.all_map]; rfl
          rw [e2]
          cases ha : xs.all isWordV with
          | false =>
            walk_at "rd"
            have e : areWords m xs = false := by unfold areWords; rw [ha]; simp
            rw [← e]
            exact k _ e1
          | true =>
            obtain ⟨ws, rfl⟩ := allW_strs xs ha
            walk_at "rd"
            refine ⟨a, ws, rfl, ex_t e1 hx, by simpa using hl, ?_⟩
            walk_at "rd"
            refine r_lenT (ex_t e1 hx) ?_
            have e3 : (V.int (fcnt ws ws.length : Nat) = V.int ((ws.map V.str).length : Nat)) ↔ (ws.map V.str).Nodup := by
              have q := fcnt_eq_iff ws ws.length (Nat.le_refl _)
              rw [List.take_length] at q
              rw [nd_strs, ← q, List.length_map]
              constructor
              · intro z; exact Int.ofNat.inj (V.int.inj z)
              · intro z; rw [z]
            have e : areWords m (ws.map V.str) = decide (V.int (fcnt ws ws.length : Nat) = V.int ((ws.map V.str).length : Nat)) := by
              unfold areWords
              rw [ha, decide_eq_true (by omega : (((ws.map V.str).length : Nat) : Int) ≤ m)]
              simp only [Bool.true_and]
              exact decide_eq_decide.mpr e3.symm
            refine r_eq rfl ?_
            rw [← e]
            exact k _ e1
    · obtain ⟨t, ty, kt, k⟩ := h
      walk_at "rd"
      refine r_isi (.ty "tuple") ty kt ?_
      walk_at "rd"
      exact k
/-- a parameter that ought to be a tuple: its items, or none where it is no tuple -/
def TArg (K : PySem.W.Frag) (H : Hp) (x : V) : Option (List V) → Prop
  | some xs => ∃ a, x = .ref a ∧ SqT K H a xs ∧ TyX K H x (.type "tuple") ∧ xs.length ≤ 1000 ∧ ∀ y ∈ xs, WArg K H y
  | none => ∃ t, TyX K H x t ∧ PySem.W.kitOne K t (.type "tuple") = some false
/-- a parameter that ought to be a bool -/
def BArg (K : PySem.W.Frag) (H : Hp) (x : V) (b : Bool) : Prop := ∃ t, TyX K H x t ∧ PySem.W.kitOne K t (.type "bool") = some b
theorem WArg.up {K : PySem.W.Frag} {H H' : Hp} {y : V} (e : Ex H H') (h : WArg K H y) : WArg K H' y := by
  rcases h with h | ⟨t, a, b⟩
  · exact .inl h
  · exact .inr ⟨t, tyX_up e a, b⟩
theorem TArg.up {K : PySem.W.Frag} {H H' : Hp} {y : V} {o : Option (List V)} (e : Ex H H') (h : TArg K H y o) : TArg K H' y o := by
  cases o with
  | some xs => obtain ⟨a, h1, h2, h3, h4, h5⟩ := h; exact ⟨a, h1, ex_t e h2, tyX_up e h3, h4, fun z hz => (h5 z hz).up e⟩
  | none => obtain ⟨t, a, b⟩ := h; exact ⟨t, tyX_up e a, b⟩
theorem BArg.up {K : PySem.W.Frag} {H H' : Hp} {y : V} {b : Bool} (e : Ex H H') (h : BArg K H y b) : BArg K H' y b := by
  obtain ⟨t, a, c⟩ := h; exact ⟨t, tyX_up e a, c⟩
def okT (m : Int) : Option (List V) → Bool
  | some xs => areWords m xs
  | none => false
def its (o : Option (List V)) : List V := o.getD []
/-- the first invalid parameter -/
def libBad (name : V) (o1 o2 o3 o4 : Option (List V)) (b5 b6 : Bool) : Option Str :=
  if isWordV name = false then some "name" else if (okT 12 o1 && !inV name (its o1)) = false then some "needs" else if okT 20 o2 = false then some "defines" else if okT 20 o3 = false then some "uses"
  else if (okT 20 o4 && (its o4).all fun z => inV z (its o3)) = false then some "weak" else if b5 = false then some "eager" else if b6 = false then some "own_first" else none
/-- a call of are_words on such a parameter -/
theorem aw_call {K : PySem.W.Frag} {A : Adr} {H : Hp} {x : V} {m : Int} {o : Option (List V)} {Q : VK} {E : XK} (h : TArg K H x o) (q : ∀ H', Ex H H' → Q (.bl (okT m o)) H') : sp_are_words K A [x, .int m] H Q E := by
  cases o with
  | some xs => obtain ⟨a, h1, h2, h3, h4, h5⟩ := h; exact ⟨x, m, rfl, .inl ⟨a, xs, h1, h2, h3, h4, h5, q⟩⟩
  | none => obtain ⟨t, a, b⟩ := h; exact ⟨x, m, rfl, .inr ⟨t, a, b, q H (Ex.refl H)⟩⟩
theorem w_call {K : PySem.W.Frag} {A : Adr} {H : Hp} {x : V} {Q : VK} {E : XK} (h : WArg K H x) (q : ∀ H', Ex H H' → Q (.bl (isWordV x)) H') : sp_is_word K A [x] H Q E := by
  rcases h with ⟨z, rfl, hz⟩ | ⟨t, a, b, ns⟩
  · exact ⟨_, rfl, .inl ⟨z, rfl, hz, q⟩⟩
  · have e : isWordV x = false := by
      cases x with
      | str z => exact absurd rfl (ns z)
      | _ => rfl
    exact ⟨x, rfl, .inr ⟨t, a, b, e ▸ q H (Ex.refl H)⟩⟩
theorem aw_flat {m : Int} {o : Option (List V)} (h : okT m o = true) : (its o).all flatV = true ∧ ∃ ws : List Str, its o = ws.map V.str := by
  cases o with
  | none => exact absurd h (by simp [okT])
  | some xs =>
    have h1 : areWords m xs = true := h
    unfold areWords at h1
    simp only [Bool.and_eq_true] at h1
    obtain ⟨ws, e⟩ := allW_strs xs h1.2.1
    exact ⟨by show xs.all flatV = true; rw [e]; exact flat_str ws, ws, e⟩
theorem targ_sq {K : PySem.W.Frag} {H : Hp} {x : V} {o : Option (List V)} {m : Int} (h : TArg K H x o) (ok : okT m o = true) : ∃ a, x = .ref a ∧ SqT K H a (its o) ∧ (its o).length ≤ 1000 := by
  cases o with
  | none => exact absurd ok (by simp [okT])
  | some xs => obtain ⟨a, h1, h2, h3, h4, h5⟩ := h; exact ⟨a, h1, h2, h4⟩
theorem wv_flat {x : V} (h : isWordV x = true) : flatV x = true := by
  cases x with
  | str z => rfl
  | _ => exact absurd h (by simp [isWordV])
def sp_Library___init__ (K : PySem.W.Frag) (A : Adr) : Sp := fun vs H Q E => ∃ (p dx : Addr) (name v1 v2 v3 v4 v5 v6 : V) (o1 o2 o3 o4 : Option (List V)) (b5 b6 : Bool), vs = [.ref p, name, v1, v2, v3, v4, v5, v6] ∧
  H p = some (.ins A.C_Library dx (([] : List Str).zip [])) ∧ WArg K H name ∧ TArg K H v1 o1 ∧ TArg K H v2 o2 ∧ TArg K H v3 o3 ∧ TArg K H v4 o4 ∧ BArg K H v5 b5 ∧ BArg K H v6 b6 ∧
  (libBad name o1 o2 o3 o4 b5 b6 = none → ∀ H', Sm p H H' → H' p = some (.ins A.C_Library dx (libK.zip [name, v1, v2, v3, v4, v5, v6])) → Q .non H') ∧
  (∀ part, libBad name o1 o2 o3 o4 b5 b6 = some part → ∀ d H', Ex H H' → H' d = some (.xd [("part", .str part)]) → E (.ref A.C_NoLibrary) (some d) H')
theorem ok_Library___init__ (T : Txt K mg A) : FnOk P w K mg base (L2.CX P w) 3 A.f_Library___init__ A.d_Library___init__ P_Library___init__ (sp_Library___init__ K A) := by
  refine T.F_Library___init__.ok sc_Library___init__ (fun vs H Q E h => ?_) (fun cdv Ar outer s H vs Q E hr h => ?_)
  · obtain ⟨p, dx, name, v1, v2, v3, v4, v5, v6, o1, o2, o3, o4, b5, b6, rfl, _⟩ := h; rfl
  · have hu := hu_of hr
    refine ⟨_, (pss_cons (ps_if (pt_not (pt_val (pe_call (ok_is_word T) (hr.mono (by decide)) (by rfl) T.g_is_word T.k_is_word T.bi_is_word .nil pass0 (pa_cons (pv 1) pa_nil))))
          (pss_one (ps_raise rfl (takes_of rfl rfl rfl rfl) (pmk_x T.x_NoLibrary (ok_NoLibrary___init__ T) (hr.mono (by decide)) T.bi_NoLibrary___init__ (pa_cons pe_str pa_nil) (by rfl))))
          pss_nil)
        (pss_cons (ps_if (PW.pt (pw_or (pt_not (pt_val (pe_call (ok_are_words T) (hr.mono (by decide)) (by rfl) T.g_are_words T.k_are_words T.bi_are_words .nil pass0 (pa_cons (pv 2) (pa_cons pe_int pa_nil))))) (pw_or1 (pt_cmpR (k_in K rfl) (pv 1) (pv 2) (by rfl)))))
          (pss_one (ps_raise rfl (takes_of rfl rfl rfl rfl) (pmk_x T.x_NoLibrary (ok_NoLibrary___init__ T) (hr.mono (by decide)) T.bi_NoLibrary___init__ (pa_cons pe_str pa_nil) (by rfl))))
          pss_nil)
        (pss_cons (ps_if (pt_not (pt_val (pe_call (ok_are_words T) (hr.mono (by decide)) (by rfl) T.g_are_words T.k_are_words T.bi_are_words .nil pass0 (pa_cons (pv 3) (pa_cons pe_int pa_nil)))))
          (pss_one (ps_raise rfl (takes_of rfl rfl rfl rfl) (pmk_x T.x_NoLibrary (ok_NoLibrary___init__ T) (hr.mono (by decide)) T.bi_NoLibrary___init__ (pa_cons pe_str pa_nil) (by rfl))))
          pss_nil)
        (pss_cons (ps_if (pt_not (pt_val (pe_call (ok_are_words T) (hr.mono (by decide)) (by rfl) T.g_are_words T.k_are_words T.bi_are_words .nil pass0 (pa_cons (pv 4) (pa_cons pe_int pa_nil)))))
          (pss_one (ps_raise rfl (takes_of rfl rfl rfl rfl) (pmk_x T.x_NoLibrary (ok_NoLibrary___init__ T) (hr.mono (by decide)) T.bi_NoLibrary___init__ (pa_cons pe_str pa_nil) (by rfl))))
          pss_nil)
        (pss_cons (ps_if (PW.pt (pw_or (pt_not (pt_val (pe_call (ok_are_words T) (hr.mono (by decide)) (by rfl) T.g_are_words T.k_are_words T.bi_are_words .nil pass0 (pa_cons (pv 5) (pa_cons pe_int pa_nil))))) (pw_or1 (pt_not (pt_val (pe_callB (k_all K rfl rfl) (by rfl) T.b_all (by decide +kernel) (pa_cons (pe_lcM (own := [("symbol", 8)]) (tt := tYes) rfl sc_Library___init__.nd (k_pit K rfl (pv 5)) (blkOk_by (N := N_Library___init__) (sc := defScope s_Library___init__) (by decide +kernel)) (fun _ _ _ _ _ => (pg_name (i := 8) sc_Library___init__.nd rfl (Or.inl rfl))) (fun _ _ _ _ _ => pts_nil) (fun _ _ _ _ _ => (pe_cmpR (k_in K rfl) (pv 8) (pv 4) (by rfl)))) pa_nil)))))))
          (pss_one (ps_raise rfl (takes_of rfl rfl rfl rfl) (pmk_x T.x_NoLibrary (ok_NoLibrary___init__ T) (hr.mono (by decide)) T.bi_NoLibrary___init__ (pa_cons pe_str pa_nil) (by rfl))))
          pss_nil)
        (pss_cons (ps_if (pt_not (pt_val (pe_callB (k_isi K rfl) (by rfl) T.b_isinstance (by decide +kernel) (pa_cons (pv 6) (pa_cons (pe_bltn (v := .ty "bool") (by rfl) T.b_bool (by decide +kernel) rfl) pa_nil)))))
          (pss_one (ps_raise rfl (takes_of rfl rfl rfl rfl) (pmk_x T.x_NoLibrary (ok_NoLibrary___init__ T) (hr.mono (by decide)) T.bi_NoLibrary___init__ (pa_cons pe_str pa_nil) (by rfl))))
          pss_nil)
        (pss_cons (ps_if (pt_not (pt_val (pe_callB (k_isi K rfl) (by rfl) T.b_isinstance (by decide +kernel) (pa_cons (pv 7) (pa_cons (pe_bltn (v := .ty "bool") (by rfl) T.b_bool (by decide +kernel) rfl) pa_nil)))))
          (pss_one (ps_raise rfl (takes_of rfl rfl rfl rfl) (pmk_x T.x_NoLibrary (ok_NoLibrary___init__ T) (hr.mono (by decide)) T.bi_NoLibrary___init__ (pa_cons pe_str pa_nil) (by rfl))))
          pss_nil)
        (pss_cons (ps_fld (pv 0) (pv 1) rfl)
        (pss_cons (ps_fld (pv 0) (pv 2) rfl)
        (pss_cons (ps_fld (pv 0) (pv 3) rfl)
        (pss_cons (ps_fld (pv 0) (pv 4) rfl)
        (pss_cons (ps_fld (pv 0) (pv 5) rfl)
        (pss_cons (ps_fld (pv 0) (pv 6) rfl)
        (pss_one (ps_fld (pv 0) (pv 7) rfl))))))))))))))), ?_⟩
    obtain ⟨p, dx, name, v1, v2, v3, v4, v5, v6, o1, o2, o3, o4, b5, b6, rfl, hp, w0, t1, t2, t3, t4, b5h, b6h, k, kx⟩ := h
    -- name
    walk_at "rd"
    refine w_call w0 fun H1 e1 => ?_
    walk_at "rd"
    cases c0 : isWordV name with
    | false =>
      walk_at "rd"
      exact ⟨_, rfl, fun d H2 e2 nd hd => kx _ (by unfold libBad; rw [if_pos c0]) d H2 (e1.trans e2) hd⟩
    | true =>
    -- needs
    walk_at "rd"
    refine aw_call (t1.up e1) fun H2 e2 => ?_
    replace e2 := e1.trans e2
    walk_at "rd"
    cases c1 : okT 12 o1 with
    | false =>
      walk_at "rd"
      exact ⟨_, rfl, fun d Hx ex nd hd => kx _ (by simp [libBad, c0, c1]) d Hx (e2.trans ex) hd⟩
    | true =>
    obtain ⟨a1, rfl, sq1, l1⟩ := targ_sq t1 c1
    walk_at "rd"
    refine r_inT (ex_t e2 sq1) (wv_flat c0) (aw_flat c1).1 ?_
    walk_at "rd"
    cases ci : inV name (its o1) with
    | true =>
      walk_at "rd"
      exact ⟨_, rfl, fun d Hx ex nd hd => kx _ (by simp [libBad, c0, c1, ci]) d Hx (e2.trans ex) hd⟩
    | false =>
    -- defines
    walk_at "rd"
    refine aw_call (t2.up e2) fun H3 e3 => ?_
    replace e3 := e2.trans e3
    walk_at "rd"
    cases c2 : okT 20 o2 with
    | false =>
      walk_at "rd"
      exact ⟨_, rfl, fun d Hx ex nd hd => kx _ (by simp [libBad, c0, c1, ci, c2]) d Hx (e3.trans ex) hd⟩
    | true =>
    -- uses
    walk_at "rd"
    refine aw_call (t3.up e3) fun H4 e4 => ?_
    replace e4 := e3.trans e4
    walk_at "rd"
    cases c3 : okT 20 o3 with
    | false =>
      walk_at "rd"
      exact ⟨_, rfl, fun d Hx ex nd hd => kx _ (by simp [libBad, c0, c1, ci, c2, c3]) d Hx (e4.trans ex) hd⟩
    | true =>
    -- weak
    walk_at "rd"
    refine aw_call (t4.up e4) fun H5 e5 => ?_
    replace e5 := e4.trans e5
    walk_at "rd"
    cases c4 : okT 20 o4 with
    | false =>
      walk_at "rd"
      exact ⟨_, rfl, fun d Hx ex nd hd => kx _ (by simp [libBad, c0, c1, ci, c2, c3, c4]) d Hx (e5.trans ex) hd⟩
    | true =>
    obtain ⟨a3, rfl, sq3, l3⟩ := targ_sq t3 c3
    obtain ⟨a4, rfl, sq4, l4⟩ := targ_sq t4 c4
    walk_at "rd"
    refine ⟨a4, rfl, ⟨_, ex_t e5 sq4⟩, ?_⟩
    refine lc_val walk_tup (by omega) (fun Hx ex => ex_t (e5.trans ex) sq4) (fun i ys => ys = ((its o4).take i).map fun z => V.bl (inV z (its o3))) rfl (fun i ys x Hx Hy hi ex hs hy => ?_) fun D ys H6 nD e6 hs hD => ?_
    · obtain ⟨rfl, hy⟩ := hy
      walk_at "rd"
      refine ⟨rfl, ?_⟩
      walk_at "rd"
      have fx : flatV x = true := List.all_eq_true.mp (aw_flat c4).1 x (List.mem_of_getElem? hy)
      refine r_inT (ex_t (e5.trans ex) sq3) fx (aw_flat c3).1 ⟨Ex.refl _, ?_⟩
      rw [hs, List.take_add_one, hy, List.map_append]
      rfl
    rw [List.take_length] at hs
    subst hs
    have hb : ((its o4).map fun z => V.bl (inV z (its o3))) = ((its o4).map fun z => inV z (its o3)).map V.bl := by simp
    rw [hb] at hD
    replace e6 := e5.trans e6
    walk_at "rd"
    refine r_all (SqL.of hD) ?_
    have e2' : (((its o4).map fun z => inV z (its o3)).all id) = (its o4).all fun z => inV z (its o3) := by rw [List.all_map]; rfl
    rw [e2']
    walk_at "rd"
    cases c5 : (its o4).all fun z => inV z (its o3) with
    | false =>
      walk_at "rd"
      exact ⟨_, rfl, fun d Hx ex nd hd => kx _ (by simp only [libBad, c0, c1, ci, c2, c3, c4, c5]; rfl) d Hx (e6.trans ex) hd⟩
    | true =>
    -- eager, own_first
    obtain ⟨y5, ty5, kt5⟩ := b5h
    obtain ⟨y6, ty6, kt6⟩ := b6h
    walk_at "rd"
    refine r_isi (.ty "bool") (tyX_up e6 ty5) kt5 ?_
    walk_at "rd"
    cases b5 with
    | false =>
      walk_at "rd"
      exact ⟨_, rfl, fun d Hx ex nd hd => kx _ (by simp only [libBad, c0, c1, ci, c2, c3, c4, c5]; rfl) d Hx (e6.trans ex) hd⟩
    | true =>
    walk_at "rd"
    refine r_isi (.ty "bool") (tyX_up e6 ty6) kt6 ?_
    walk_at "rd"
    cases b6 with
    | false =>
      walk_at "rd"
      exact ⟨_, rfl, fun d Hx ex nd hd => kx _ (by simp only [libBad, c0, c1, ci, c2, c3, c4, c5]; rfl) d Hx (e6.trans ex) hd⟩
    | true =>
    walk_at "rd"
    refine r_sfldN (e6 _ _ hp) T.cl_Library T.na_Library_name (by decide +kernel) rfl (by decide) fun G1 g1 s1 => ?_
    walk_at "rd"
    refine r_sfldN g1 T.cl_Library T.na_Library_needs (by decide +kernel) rfl (by decide) fun G2 g2 s2 => ?_
    walk_at "rd"
    refine r_sfldN g2 T.cl_Library T.na_Library_defines (by decide +kernel) rfl (by decide) fun G3 g3 s3 => ?_
    walk_at "rd"
    refine r_sfldN g3 T.cl_Library T.na_Library_uses (by decide +kernel) rfl (by decide) fun G4 g4 s4 => ?_
    walk_at "rd"
    refine r_sfldN g4 T.cl_Library T.na_Library_weak (by decide +kernel) rfl (by decide) fun G5 g5 s5 => ?_
    walk_at "rd"
    refine r_sfldN g5 T.cl_Library T.na_Library_eager (by decide +kernel) rfl (by decide) fun G6 g6 s6 => ?_
    walk_at "rd"
    refine r_sfldN g6 T.cl_Library T.na_Library_own_first (by decide +kernel) rfl (by decide) fun G7 g7 s7 => ?_
    exact k (by simp only [libBad, c0, c1, ci, c2, c3, c4, c5]; rfl) G7 ((Sm.of e6).trans (s1.trans (s2.trans (s3.trans (s4.trans (s5.trans (s6.trans s7))))))) g7
theorem vals_take (n : Nat) {vs : List V} {us : List Value} (r : Vals vs us) : Vals (vs.take n) (us.take n) := by
  induction r generalizing n with
  | nil => rw [List.take_nil, List.take_nil]; exact .nil
  | cons rx r ih =>
    cases n with
    | zero => exact .nil
    | succ n => exact .cons rx (ih n)
/-- how Library(..) binds -/
theorem kb_Library {K : PySem.W.Frag} {mg : Str → Option Value} {A : Adr} (T : Txt K mg A) : ∃ mv : List Value, KBn K A.d_Library___init__ P_Library___init__ 2 ["needs", "defines", "uses", "weak", "eager", "own_first"] (fun us ws => us ++ ws) (fun vs zs => vs ++ zs) := by
  refine T.F_Library___init__.kbinds0 2 ["needs", "defines", "uses", "weak", "eager", "own_first"] [] (fun us _ ws => us ++ ws) (fun z => by cases z) (fun q hq => nomatch hq) (fun r _ rz => r.append rz) (fun D doc pm an cdv ct us mv ws l1 l2 l3 => ?_)
  match us, l1, mv, l2, ws, l3 with
  | [_, _], _, [], _, [_, _, _, _, _, _], _ => rfl
theorem kb_Library_defines {K : PySem.W.Frag} {mg : Str → Option Value} {A : Adr} (T : Txt K mg A) : ∃ mv : List Value, KBn K A.d_Library___init__ P_Library___init__ 2 ["defines"] (fun us ws => us ++ (mv.take 1 ++ (ws ++ mv.drop 1))) (fun vs zs => vs ++ ([V.ref A.e0] ++ (zs ++ [.ref A.e2, .ref A.e3, .bl false, .bl false]))) := by
  refine T.F_Library___init__.kbinds0 2 ["defines"] [("needs", .ref A.e0), ("uses", .ref A.e2), ("weak", .ref A.e3), ("eager", .bl false), ("own_first", .bl false)] (fun us mv ws => us ++ (mv.take 1 ++ (ws ++ mv.drop 1))) (fun z => by cases z) (fun q hq => ?_) (fun r rm rz => r.append ((vals_take 1 rm).append (rz.append (rm.drop 1)))) (fun D doc pm an cdv ct us mv ws l1 l2 l3 => ?_)
  · simp only [kwL, List.mem_cons, List.not_mem_nil, or_false] at hq ⊢
    rcases hq with rfl | rfl | rfl | rfl | rfl <;> simp
  · match us, l1, mv, l2, ws, l3 with
    | [_, _], _, [_, _, _, _, _], _, [_], _ => exact ⟨_, _, _, _, _, _, rfl, rfl, _, _, _, _, _, _, rfl, rfl, _, _, _, _, _, _, rfl, rfl, _, _, _, _, _, _, rfl, rfl, _, _, _, _, _, _, rfl, rfl, rfl⟩
theorem bd_Library {K : PySem.W.Frag} {mg : Str → Option Value} {A : Adr} (T : Txt K mg A) : ∃ ds, Vals ((kwL A).map (·.2)) ds ∧ Binds K A.d_Library___init__ P_Library___init__ ds := by
  refine T.F_Library___init__.binds0 2 (fun z => by cases z) rfl (fun D doc pm an cdv ct us ks l1 l2 => ?_)
  match us, l1, ks, l2 with
  | [_, _], _, [_, _, _, _, _, _], _ => exact ⟨_, _, _, _, _, _, rfl, rfl, _, _, _, _, _, _, rfl, rfl, _, _, _, _, _, _, rfl, rfl, _, _, _, _, _, _, rfl, rfl, _, _, _, _, _, _, rfl, rfl, _, _, _, _, _, _, rfl, rfl, rfl⟩
/-- the seven values -/
def sp_Library_row (K : PySem.W.Frag) (A : Adr) : Sp := fun vs H Q _ => ∃ (p dx : Addr) (x0 x1 x2 x3 x4 x5 x6 : V), vs = [.ref p] ∧ H p = some (.ins A.C_Library dx (libK.zip [x0, x1, x2, x3, x4, x5, x6])) ∧
  ∀ q H', H q = none → Ex H H' → H' q = some (.tup [x0, x1, x2, x3, x4, x5, x6]) → Q (.ref q) H'
theorem ok_Library_row (T : Txt K mg A) : FnOk P w K mg base CX0 1 A.f_Library_row A.d_Library_row P_Library_row (sp_Library_row K A) := by
  refine T.F_Library_row.ok sc_Library_row (fun vs H Q E h => ?_) (fun cdv Ar outer s H vs Q E hr h => ?_)
  · obtain ⟨p, dx, x0, x1, x2, x3, x4, x5, x6, rfl, _⟩ := h; rfl
  · have hu := hu_of hr
    refine ⟨_, (pss_one (ps_ret (pe_tupM (pa_cons (k_fld K rfl (pv 0)) (pa_cons (k_fld K rfl (pv 0)) (pa_cons (k_fld K rfl (pv 0)) (pa_cons (k_fld K rfl (pv 0)) (pa_cons (k_fld K rfl (pv 0)) (pa_cons (k_fld K rfl (pv 0)) (pa_cons (k_fld K rfl (pv 0)) pa_nil)))))))))), ?_⟩
    obtain ⟨p, dx, x0, x1, x2, x3, x4, x5, x6, rfl, hp, k⟩ := h
    walk_at "rd"
    refine r_fldE hp T.cl_Library T.na_Library_name 0 (by decide +kernel) rfl ?_
    walk_at "rd"
    refine r_fldE hp T.cl_Library T.na_Library_needs 1 (by decide +kernel) rfl ?_
    walk_at "rd"
    refine r_fldE hp T.cl_Library T.na_Library_defines 2 (by decide +kernel) rfl ?_
    walk_at "rd"
    refine r_fldE hp T.cl_Library T.na_Library_uses 3 (by decide +kernel) rfl ?_
    walk_at "rd"
    refine r_fldE hp T.cl_Library T.na_Library_weak 4 (by decide +kernel) rfl ?_
    walk_at "rd"
    refine r_fldE hp T.cl_Library T.na_Library_eager 5 (by decide +kernel) rfl ?_
    walk_at "rd"
    refine r_fldE hp T.cl_Library T.na_Library_own_first 6 (by decide +kernel) rfl ?_
    walk_at "rd"
    exact ⟨by simp, fun q H1 nq e1 hq => k q H1 nq e1 hq⟩
abbrev sp_NoStore___init__ (K : PySem.W.Frag) (A : Adr) : Sp := spXi K A.C_NoStore "at"
theorem ok_NoStore___init__ (T : Txt K mg A) : FnOk P w K mg base CX0 1 A.f_NoStore___init__ A.d_NoStore___init__ P_NoStore___init__ (sp_NoStore___init__ K A) := by
  refine T.F_NoStore___init__.ok sc_NoStore___init__ (fun vs H Q E h => ?_) (fun cdv Ar outer s H vs Q E hr h => ?_)
  · obtain ⟨a, v, rfl, _⟩ := h; rfl
  · have hu := hu_of hr
    refine ⟨_, (pss_cons (ps_expr (pe_linit T.ld (by rfl) (pa_cons (pv 0) (pa_cons pe_str pa_nil))))
        (pss_one (ps_ost (pv 0) (pv 1)))), ?_⟩
    obtain ⟨a, v, rfl, ha, k⟩ := h
    walk_at "rd"
    refine ⟨a, A.C_NoStore, _, rfl, by simp, T.x_NoStore.o, ha, ?_⟩
    walk_at "rd"
    exact ⟨a, A.C_NoStore, rfl, T.x_NoStore.o, T.x_NoStore.no, .inl ⟨ha, fun dx nd ne => k dx nd ne⟩⟩
/-- a library with its name, or something else -/
def ItemOk (K : PySem.W.Frag) (A : Adr) (H : Hp) (x : V) : Option Str → Prop
  | some nm => ∃ a dx ys, x = .ref a ∧ H a = some (.ins A.C_Library dx (libK.zip (.str nm :: ys))) ∧ ys.length = 6
  | none => ∃ t, TyX K H x t ∧ PySem.W.kitOne K t (.ref A.C_Library) = some false
theorem ItemOk.up {K : PySem.W.Frag} {A : Adr} {H H' : Hp} {x : V} (e : Ex H H') : ∀ {o : Option Str}, ItemOk K A H x o → ItemOk K A H' x o
  | some _, ⟨a, dx, ys, h1, h2, h3⟩ => ⟨a, dx, ys, h1, e _ _ h2, h3⟩
  | none, ⟨t, h1, h2⟩ => ⟨t, tyX_up e h1, h2⟩
/-- the index of the first that is no library, has an elder one's name, or is the forty-first -/
def stBad : Nat → List Str → List (Option Str) → Option Nat
  | _, _, [] => none
  | i, _, none :: _ => some i
  | i, seen, some nm :: r => if nm ∈ seen ∨ 40 ≤ i then some i else stBad (i + 1) (seen ++ [nm]) r
/-- items and their names -/
def Items (K : PySem.W.Frag) (A : Adr) (H : Hp) (xs : List V) (os : List (Option Str)) : Prop := os.length = xs.length ∧ ∀ (i : Nat) x o, xs[i]? = some x → os[i]? = some o → ItemOk K A H x o
theorem Items.up {K : PySem.W.Frag} {A : Adr} {H H' : Hp} {xs : List V} {os : List (Option Str)} (e : Ex H H') (h : Items K A H xs os) : Items K A H' xs os := ⟨h.1, fun i x o a b => (h.2 i x o a b).up e⟩
abbrev stK : List Str := ["kept"]
def sp_Store___init__ (K : PySem.W.Frag) (A : Adr) : Sp := fun vs H Q E => ∃ (G : Hp) (p dx : Addr) (y : V), vs = [.ref p, y] ∧ H p = some (.ins A.C_Store dx (([] : List Str).zip [])) ∧ Ex G H ∧ G p = none ∧
  ((∃ t, TyX K G y t ∧ PySem.W.kitOne K t (.type "list") = some false ∧ ∀ d H', Ex H H' → H' d = some (.xd [("at", .non)]) → E (.ref A.C_NoStore) (some d) H') ∨
   (∃ (l : Addr) (xs : List V) (os : List (Option Str)), y = .ref l ∧ SqL K G l xs ∧ xs.length ≤ 50000 ∧ Items K A G xs os ∧
    (∀ ns d H', os = ns.map some → ns.Nodup → ns.length ≤ 40 → stBad 0 [] os = none → Sm p H H' → H d = none → H' p = some (.ins A.C_Store dx (stK.zip [.ref d])) → H' d = some (.dK (kvz ns xs)) → Q .non H') ∧
    (∀ (i : Nat) d H', stBad 0 [] os = some i → Sm p H H' → H' d = some (.xd [("at", .int i)]) → E (.ref A.C_NoStore) (some d) H')))
theorem ok_Store___init__ (T : Txt K mg A) : FnOk P w K mg base (L2.CX P w) 3 A.f_Store___init__ A.d_Store___init__ P_Store___init__ (sp_Store___init__ K A) := by
  refine T.F_Store___init__.okX sc_Store___init__ (fun vs H Q E h => ?_) (fun cdv Ar outer s H vs Q E hr h => ?_)
  · obtain ⟨G, p, dx, y, rfl, _⟩ := h; rfl
  · have hu := hu_of hr
    obtain ⟨u_MOST_LIBRARIES, h_MOST_LIBRARIES, r_MOST_LIBRARIES⟩ := T.c_MOST_LIBRARIES
    refine ⟨_, (pss_cons (ps_if (pt_not (pt_val (pe_callB (k_isi K rfl) (by rfl) T.b_isinstance (by decide +kernel) (pa_cons (pv 1) (pa_cons (pe_bltn (v := .ty "list") (by rfl) T.b_list (by decide +kernel) rfl) pa_nil)))))
          (pss_one (ps_raise rfl (takes_of rfl rfl rfl rfl) (pmk_x T.x_NoStore (ok_NoStore___init__ T) (hr.mono (by decide)) T.bi_NoStore___init__ (pa_cons pe_non pa_nil) (by rfl))))
          pss_nil)
        (pss_cons (ps_fld (pv 0) pe_dnewK rfl)
        (pss_one (ps_for (passes_of rfl) rfl (pi_enum (by rfl) T.b_enumerate (pa_cons (pv 1) pa_nil)) (k_gtup K rfl (by rfl) (pgs_cons (pg_name (i := 2) sc_Store___init__.nd rfl (Or.inl rfl)) (pgs_cons (pg_name (i := 3) sc_Store___init__.nd rfl (Or.inl rfl)) pgs_nil)))
          (pss_cons (ps_if (PW.pt (pw_or (pt_not (pt_val (pe_callB (k_isi K rfl) (by rfl) T.b_isinstance (by decide +kernel) (pa_cons (pv 3) (pa_cons (pe_glob (v := .ref A.C_Library) (by rfl) T.g_Library rfl) pa_nil))))) (pw_or (pt_cmp (pc_din hu (k_fld K rfl (pv 3)) (k_fld K rfl (pv 0)))) (pw_or1 (pt_cmpR op_ge (pv 2) (pe_glob (by rfl) h_MOST_LIBRARIES r_MOST_LIBRARIES) (nomark _))))))
          (pss_one (ps_raise rfl (takes_of rfl rfl rfl rfl) (pmk_x T.x_NoStore (ok_NoStore___init__ T) (hr.mono (by decide)) T.bi_NoStore___init__ (pa_cons (pv 2) pa_nil) (by rfl))))
          pss_nil)
        (pss_one (ps_dput hu (k_fld K rfl (pv 0)) (k_fld K rfl (pv 3)) (pv 3) rfl))))))), ?_⟩
    obtain ⟨G, p, dx, y, rfl, hp, eG, Gp, h⟩ := h
    obtain ⟨t_M, rfl⟩ : ∃ t, u_MOST_LIBRARIES = .int 40 t := r_MOST_LIBRARIES
    rcases h with ⟨t, ty, kt, k⟩ | ⟨l, xs, os, rfl, hl, lx, it, k, kx⟩
    · walk_at "rd"
      refine r_isi (.ty "list") (tyX_up eG ty) kt ?_
      walk_at "rd"
      exact ⟨_, rfl, fun d H1 e1 nd hd => k d H1 e1 hd⟩
    have tyl : TyX K H (.ref l) (.type "list") := by
      rcases hl with (hl | ⟨o, hl⟩) | ⟨o, its, n, h1, h2, _⟩
      · exact .base (.lst (eG _ _ hl))
      · exact .base (.frz (eG _ _ hl))
      · exact .kList h1 h2
    walk_at "rd"
    refine r_isi (b := true) (.ty "list") tyl (kit_ty (by decide +kernel)) ?_
    walk_at "rd"
    refine r_dnewK fun d H1 nd e1 hd => ?_
    walk_at "rd"
    refine r_sfldN (e1 _ _ hp) T.cl_Store T.na_Store_kept (by decide +kernel) rfl (by decide) fun H2 g2 s2 => ?_
    have dp : d ≠ p := fun z => by rw [z, hp] at nd; cases nd
    have hd2 : H2 d = some (.dK []) := s2 _ _ dp hd
    have eG2 : Ex G H2 := Ex.sm (eG.trans e1) Gp s2
    have Gd : G d = none := ex_none eG nd
    walk_at "rd"
    refine ⟨l, xs, rfl, ex_l eG2 hl, ?_⟩
    refine for_it (walk_enum (K := K) (a := l) (xs := xs)) (fun i σ' H' => (∃ o2 o3 : Option V, σ' = [some (.ref p), some (.ref l), o2, o3]) ∧ Ex G H' ∧ Sm p H H' ∧ H' p = some (.ins A.C_Store dx (stK.zip [.ref d])) ∧
        ∃ ns : List Str, ns.length = i ∧ os.take i = ns.map some ∧ ns.Nodup ∧ i ≤ 40 ∧ stBad 0 [] os = stBad i ns (os.drop i) ∧ H' d = some (.dK (kvz ns xs)))
      ⟨⟨_, _, rfl⟩, eG2, (Sm.of e1).trans s2, g2, [], rfl, rfl, List.nodup_nil, by omega, rfl, hd2⟩ (fun i σ' H' _ q => ex_l q.2.1 hl) ?_ fun σ' H' q => ?_
    rotate_left
    · obtain ⟨⟨o2, o3, rfl⟩, ex, sm, hp', ns, ln, tk, nn, le, sb, hd'⟩ := q
      rw [List.take_of_length_le (by rw [it.1]; exact Nat.le_refl _)] at tk
      rw [List.drop_of_length_le (by rw [it.1]; exact Nat.le_refl _)] at sb
      exact k ns d H' tk nn (by omega) sb sm nd hp' hd'
    rintro i x σ' H' H'' hi ⟨⟨o2, o3, rfl⟩, ex, sm, hp', ns, ln, tk, nn, le, sb, hd'⟩ ⟨tt, y1, y2, rfl, ht, rfl, h1, h2⟩
    cases h1
    have ex2 : Ex H' (upd H' tt (.tup [.int (i : Nat), y2])) := Ex.new ht
    have htt : SqT K (upd H' tt (.tup [.int (i : Nat), y2])) tt [.int (i : Nat), y2] := st_of upd_same
    replace ex := ex.trans ex2
    replace sm := sm.trans (Sm.of ex2)
    replace hp' := ex2 _ _ hp'
    replace hd' := ex2 _ _ hd'
    generalize upd H' tt (.tup [.int (i : Nat), y2]) = H3 at *
    refine r_gtupE htt rfl ?_
    walk_at "rd"
    have hos : i < os.length := by rw [it.1]; exact hi
    have io := it.2 i y2 os[i] h2 (by simp [hos])
    have dr : os.drop i = os[i] :: os.drop (i + 1) := List.drop_eq_getElem_cons hos
    rw [dr] at sb
    have tk1 : os.take (i + 1) = os.take i ++ [os[i]] := by rw [List.take_succ_eq_append_getElem hos]
    cases ho : os[i] with
    | none =>
      rw [ho] at io sb
      obtain ⟨t, ty, kt⟩ := io
      refine r_isi (.own _) (tyX_up ex ty) kt ?_
      walk_at "rd"
      exact ⟨_, rfl, fun dd Hx ex3 ndd hdd => kx i dd Hx (sb.trans rfl) (sm.trans (Sm.of ex3)) hdd⟩
    | some nm =>
      rw [ho] at io sb
      obtain ⟨a, dx', ys, rfl, ha, ly⟩ := io
      match ys, ly with
      | [z1, z2, z3, z4, z5, z6], _ =>
      refine r_isi (b := true) (.own _) (T.ty_Library (ex _ _ ha)) (by unfold PySem.W.kitOne; rw [if_pos (by simp)]) ?_
      walk_at "rd"
      refine r_fldE (ex _ _ ha) T.cl_Library T.na_Library_name 0 (by decide +kernel) rfl ?_
      walk_at "rd"
      refine r_fldE hp' T.cl_Store T.na_Store_kept 0 (by decide +kernel) rfl ?_
      refine ⟨d, _, rfl, dgetK nm hd', ?_⟩
      rw [kvz_val ns xs nm (by omega)]
      walk_at "rd"
      by_cases hn : nm ∈ ns
      · rw [decide_eq_true hn]
        walk_at "rd"
        exact ⟨_, rfl, fun dd Hx ex3 ndd hdd => kx i dd Hx (sb.trans (by unfold stBad; rw [if_pos (.inl hn)])) (sm.trans (Sm.of ex3)) hdd⟩
      · rw [decide_eq_false hn]
        walk_at "rd"
        by_cases h40 : (40 : Int) ≤ (i : Nat)
        · rw [decide_eq_true h40]
          walk_at "rd"
          exact ⟨_, rfl, fun dd Hx ex3 ndd hdd => kx i dd Hx (sb.trans (by unfold stBad; rw [if_pos (.inr (by omega))])) (sm.trans (Sm.of ex3)) hdd⟩
        · rw [decide_eq_false h40]
          walk_at "rd"
          refine r_fldE hp' T.cl_Store T.na_Store_kept 0 (by decide +kernel) rfl ?_
          walk_at "rd"
          refine r_fldE (ex _ _ ha) T.cl_Library T.na_Library_name 0 (by decide +kernel) rfl ?_
          obtain ⟨H4, dp4, h4, s4⟩ := dputK nm (.ref a) hd' (by rw [kvz_len (by omega)]; omega)
          refine ⟨d, H4, rfl, dp4, ?_⟩
          rw [kvz_put (by rw [ln]; exact h2) hn] at h4
          refine ⟨⟨_, _, rfl⟩, Ex.sm ex Gd s4, fun b o hb hh => s4 b o (fun z => by rw [z, nd] at hh; cases hh) (sm b o hb hh), s4 _ _ dp.symm hp', ns ++ [nm], by simp [ln], ?_, ?_, by omega, ?_, h4⟩
          · rw [tk1, tk, ho]; simp
          · exact List.nodup_append.mpr ⟨nn, by simp, fun a ha b hb e => by rw [List.mem_singleton.mp hb] at e; exact hn (e ▸ ha)⟩
          · rw [sb]; show (if nm ∈ ns ∨ 40 ≤ i then some i else stBad (i + 1) (ns ++ [nm]) (os.drop (i + 1))) = _
            rw [if_neg (fun z => z.elim hn fun z => h40 (by omega))]
/-- a store with its names and its libraries -/
def StoreAt (A : Adr) (H : Hp) (p : Addr) (ns : List Str) (xs : List V) : Prop := ∃ dx d, H p = some (.ins A.C_Store dx (stK.zip [.ref d])) ∧ H d = some (.dK (kvz ns xs)) ∧ ns.length = xs.length ∧ ns.Nodup ∧ ns.length ≤ 40
theorem StoreAt.up {A : Adr} {H H' : Hp} {p : Addr} {ns : List Str} {xs : List V} (e : Ex H H') (h : StoreAt A H p ns xs) : StoreAt A H' p ns xs := by
  obtain ⟨dx, d, h1, h2, h3⟩ := h
  exact ⟨dx, d, e _ _ h1, e _ _ h2, h3⟩
/-- whether a thing is a name of the store -/
def inStore (ns : List Str) : V → Bool
  | .str z => isWord z && decide (z ∈ ns)
  | _ => false
def sp_Store___contains__ (K : PySem.W.Frag) (A : Adr) : Sp := fun vs H Q _ => ∃ (p : Addr) (x : V) (ns : List Str) (xs : List V), vs = [.ref p, x] ∧ StoreAt A H p ns xs ∧ WArg K H x ∧ ∀ H', Ex H H' → Q (.bl (inStore ns x)) H'
theorem ok_Store___contains__ (T : Txt K mg A) : FnOk P w K mg base CX0 2 A.f_Store___contains__ A.d_Store___contains__ P_Store___contains__ (sp_Store___contains__ K A) := by
  refine T.F_Store___contains__.ok sc_Store___contains__ (fun vs H Q E h => ?_) (fun cdv Ar outer s H vs Q E hr h => ?_)
  · obtain ⟨p, x, ns, xs, rfl, _⟩ := h; rfl
  · have hu := hu_of hr
    refine ⟨_, (pss_one (ps_ret (pe_and (pe_call (ok_is_word T) (hr.mono (by decide)) (by rfl) T.g_is_word T.k_is_word T.bi_is_word .nil pass0 (pa_cons (pv 1) pa_nil)) (pe_one (pe_cmp (pc_din hu (pv 1) (k_fld K rfl (pv 0))) rfl))))), ?_⟩
    obtain ⟨p, x, ns, xs, rfl, st, w, k⟩ := h
    obtain ⟨dx, d, h1, h2, ln, nd, le⟩ := st
    walk_at "rd"
    refine w_call w fun H1 e1 => ?_
    walk_at "rd"
    cases hx : isWordV x with
    | false =>
      walk_at "rd"
      have e : inStore ns x = false := by
        cases x with
        | str z => have : isWord z = false := hx; show (isWord z && decide (z ∈ ns)) = false; rw [this]; rfl
        | _ => rfl
      rw [← e]
      exact k H1 e1
    | true =>
      cases x with
      | str z =>
        walk_at "rd"
        refine r_fldE (e1 _ _ h1) T.cl_Store T.na_Store_kept 0 (by decide +kernel) rfl ?_
        refine ⟨d, _, rfl, dgetK z (e1 _ _ h2), ?_⟩
        rw [kvz_val ns xs z (by omega)]
        have e : inStore ns (.str z) = decide (z ∈ ns) := by have : isWord z = true := hx; show (isWord z && decide (z ∈ ns)) = _; rw [this]; rfl
        rw [← e]
        exact k H1 e1
      | _ => exact absurd hx (by simp [isWordV])
abbrev sp_NoName___init__ (K : PySem.W.Frag) (A : Adr) : Sp := spXi K A.C_NoName "name"
theorem ok_NoName___init__ (T : Txt K mg A) : FnOk P w K mg base CX0 1 A.f_NoName___init__ A.d_NoName___init__ P_NoName___init__ (sp_NoName___init__ K A) := by
  refine T.F_NoName___init__.ok sc_NoName___init__ (fun vs H Q E h => ?_) (fun cdv Ar outer s H vs Q E hr h => ?_)
  · obtain ⟨a, v, rfl, _⟩ := h; rfl
  · have hu := hu_of hr
    refine ⟨_, (pss_cons (ps_expr (pe_linit T.ld (by rfl) (pa_cons (pv 0) (pa_cons pe_str pa_nil))))
        (pss_one (ps_ost (pv 0) (pv 1)))), ?_⟩
    obtain ⟨a, v, rfl, ha, k⟩ := h
    walk_at "rd"
    refine ⟨a, A.C_NoName, _, rfl, by simp, T.x_NoName.o, ha, ?_⟩
    walk_at "rd"
    exact ⟨a, A.C_NoName, rfl, T.x_NoName.o, T.x_NoName.no, .inl ⟨ha, fun dx nd ne => k dx nd ne⟩⟩
def sp_Store___getitem__ (K : PySem.W.Frag) (A : Adr) : Sp := fun vs H Q E => ∃ (p : Addr) (x : V) (ns : List Str) (xs : List V), vs = [.ref p, x] ∧ StoreAt A H p ns xs ∧ WArg K H x ∧
  (∀ (i : Nat) z y, x = .str z → isWord z = true → ns[i]? = some z → xs[i]? = some y → ∀ H', Ex H H' → Q y H') ∧
  (inStore ns x = false → ∀ d H', Ex H H' → H' d = some (.xd [("name", x)]) → E (.ref A.C_NoName) (some d) H')
theorem ok_Store___getitem__ (T : Txt K mg A) : FnOk P w K mg base (L2.CX P w) 3 A.f_Store___getitem__ A.d_Store___getitem__ P_Store___getitem__ (sp_Store___getitem__ K A) := by
  refine T.F_Store___getitem__.okX sc_Store___getitem__ (fun vs H Q E h => ?_) (fun cdv Ar outer s H vs Q E hr h => ?_)
  · obtain ⟨p, x, ns, xs, rfl, _⟩ := h; rfl
  · have hu := hu_of hr
    refine ⟨_, (pss_cons (ps_if (pt_cmpR (op_notInO T.du_Store_contains (ok_Store___contains__ T) (hr.mono (by decide)) T.bi_Store___contains__ pass0) (pv 1) (pv 0) (by rfl))
          (pss_one (ps_raise rfl (takes_of rfl rfl rfl rfl) (pmk_x T.x_NoName (ok_NoName___init__ T) (hr.mono (by decide)) T.bi_NoName___init__ (pa_cons (pv 1) pa_nil) (by rfl))))
          pss_nil)
        (pss_one (ps_ret (pe_dget hu (k_fld K rfl (pv 0)) (pv 1) (fun _ _ => rfl))))), ?_⟩
    obtain ⟨p, x, ns, xs, rfl, st, w, k, kx⟩ := h
    obtain ⟨dx, d, h1, h2, ln, nd, le⟩ := id st
    walk_at "rd"
    refine ⟨p, dx, _, rfl, h1, p, x, ns, xs, rfl, st, w, fun H1 e1 => ?_⟩
    walk_at "rd"
    cases hx : inStore ns x with
    | false =>
      refine r_iteT rfl ?_
      walk_at "rd"
      exact ⟨_, rfl, fun d H2 e2 nd hd => kx hx d H2 (e1.trans e2) hd⟩
    | true =>
      cases x with
      | str z =>
        have hz : isWord z = true ∧ z ∈ ns := by
          replace hx : (isWord z && decide (z ∈ ns)) = true := hx
          rw [Bool.and_eq_true] at hx
          exact ⟨hx.1, of_decide_eq_true hx.2⟩
        obtain ⟨i, hi⟩ := List.getElem?_of_mem hz.2
        have hil : i < ns.length := (List.getElem?_eq_some_iff.mp hi).1
        have hxi : xs[i]? = some (xs[i]'(by omega)) := by simp
        refine r_iteF rfl ?_
        walk_at "rd"
        refine r_fldE (e1 _ _ h1) T.cl_Store T.na_Store_kept 0 (by decide +kernel) rfl ?_
        walk_at "rd"
        refine ⟨d, _, rfl, dgetE (e1 _ _ h2) (kvz_at ns xs i z _ nd hi hxi), ?_⟩
        exact k i z _ rfl hz.1 hi hxi H1 e1
      | _ => exact absurd hx (by simp [inStore])
def sp_Store___len__ (K : PySem.W.Frag) (A : Adr) : Sp := fun vs H Q _ => ∃ (p : Addr) (ns : List Str) (xs : List V), vs = [.ref p] ∧ StoreAt A H p ns xs ∧ Q (.int ns.length) H
theorem ok_Store___len__ (T : Txt K mg A) : FnOk P w K mg base CX0 1 A.f_Store___len__ A.d_Store___len__ P_Store___len__ (sp_Store___len__ K A) := by
  refine T.F_Store___len__.ok sc_Store___len__ (fun vs H Q E h => ?_) (fun cdv Ar outer s H vs Q E hr h => ?_)
  · obtain ⟨p, ns, xs, rfl, _⟩ := h; rfl
  · have hu := hu_of hr
    refine ⟨_, (pss_one (ps_ret (pe_callB call_lenD (by rfl) T.b_len PySem.boot_len (pa_cons (k_fld K rfl (pv 0)) pa_nil)))), ?_⟩
    obtain ⟨p, ns, xs, rfl, st, k⟩ := h
    obtain ⟨dx, d, h1, h2, ln, nd, le⟩ := id st
    walk_at "rd"
    refine r_fldE h1 T.cl_Store T.na_Store_kept 0 (by decide +kernel) rfl ?_
    walk_at "rd"
    refine ⟨d, _, rfl, h2, ?_⟩
    rw [kvz_len (by omega)]
    exact k
abbrev sp_NoSymbol___init__ (K : PySem.W.Frag) (A : Adr) : Sp := spXi K A.C_NoSymbol "symbol"
theorem ok_NoSymbol___init__ (T : Txt K mg A) : FnOk P w K mg base CX0 1 A.f_NoSymbol___init__ A.d_NoSymbol___init__ P_NoSymbol___init__ (sp_NoSymbol___init__ K A) := by
  refine T.F_NoSymbol___init__.ok sc_NoSymbol___init__ (fun vs H Q E h => ?_) (fun cdv Ar outer s H vs Q E hr h => ?_)
  · obtain ⟨a, v, rfl, _⟩ := h; rfl
  · have hu := hu_of hr
    refine ⟨_, (pss_cons (ps_expr (pe_linit T.ld (by rfl) (pa_cons (pv 0) (pa_cons pe_str pa_nil))))
        (pss_one (ps_ost (pv 0) (pv 1)))), ?_⟩
    obtain ⟨a, v, rfl, ha, k⟩ := h
    walk_at "rd"
    refine ⟨a, A.C_NoSymbol, _, rfl, by simp, T.x_NoSymbol.o, ha, ?_⟩
    walk_at "rd"
    exact ⟨a, A.C_NoSymbol, rfl, T.x_NoSymbol.o, T.x_NoSymbol.no, .inl ⟨ha, fun dx nd ne => k dx nd ne⟩⟩
def sp_check_symbol (K : PySem.W.Frag) (A : Adr) : Sp := fun vs H Q E => ∃ x, vs = [x] ∧ WArg K H x ∧ (isWordV x = true → ∀ H', Ex H H' → Q .non H') ∧ (isWordV x = false → ∀ d H', Ex H H' → H' d = some (.xd [("symbol", x)]) → E (.ref A.C_NoSymbol) (some d) H')
theorem ok_check_symbol (T : Txt K mg A) : FnOk P w K mg base (L2.CX P w) 3 A.f_check_symbol A.d_check_symbol P_check_symbol (sp_check_symbol K A) := by
  refine T.F_check_symbol.okX sc_check_symbol (fun vs H Q E h => ?_) (fun cdv Ar outer s H vs Q E hr h => ?_)
  · obtain ⟨x, rfl, _⟩ := h; rfl
  · have hu := hu_of hr
    refine ⟨_, (pss_one (ps_if (pt_not (pt_val (pe_call (ok_is_word T) (hr.mono (by decide)) (by rfl) T.g_is_word T.k_is_word T.bi_is_word .nil pass0 (pa_cons (pv 0) pa_nil))))
          (pss_one (ps_raise rfl (takes_of rfl rfl rfl rfl) (pmk_x T.x_NoSymbol (ok_NoSymbol___init__ T) (hr.mono (by decide)) T.bi_NoSymbol___init__ (pa_cons (pv 0) pa_nil) (by rfl))))
          pss_nil)), ?_⟩
    obtain ⟨x, rfl, w, k, kx⟩ := h
    walk_at "rd"
    refine w_call w fun H1 e1 => ?_
    walk_at "rd"
    cases hx : isWordV x with
    | false =>
      walk_at "rd"
      exact ⟨_, rfl, fun d H2 e2 nd hd => kx hx d H2 (e1.trans e2) hd⟩
    | true =>
      walk_at "rd"
      exact k hx H1 e1
abbrev sp_Missing___init__ (K : PySem.W.Frag) (A : Adr) : Sp := spXi K A.C_Missing "name"
theorem ok_Missing___init__ (T : Txt K mg A) : FnOk P w K mg base CX0 1 A.f_Missing___init__ A.d_Missing___init__ P_Missing___init__ (sp_Missing___init__ K A) := by
  refine T.F_Missing___init__.ok sc_Missing___init__ (fun vs H Q E h => ?_) (fun cdv Ar outer s H vs Q E hr h => ?_)
  · obtain ⟨a, v, rfl, _⟩ := h; rfl
  · have hu := hu_of hr
    refine ⟨_, (pss_cons (ps_expr (pe_linit T.ld (by rfl) (pa_cons (pv 0) (pa_cons pe_str pa_nil))))
        (pss_one (ps_ost (pv 0) (pv 1)))), ?_⟩
    obtain ⟨a, v, rfl, ha, k⟩ := h
    walk_at "rd"
    refine ⟨a, A.C_Missing, _, rfl, by simp, T.x_Missing.o, ha, ?_⟩
    walk_at "rd"
    exact ⟨a, A.C_Missing, rfl, T.x_Missing.o, T.x_Missing.no, .inl ⟨ha, fun dx nd ne => k dx nd ne⟩⟩
/-- a library, plainly -/
structure Lb where
  nm : Str
  ns : List Str
  df : List Str
  us : List Str
  wk : List Str
  eg : Bool
  fi : Bool
structure Lb.Ok (l : Lb) : Prop where
  nm : isWord l.nm = true
  ns : ∀ z ∈ l.ns, isWord z = true
  df : ∀ z ∈ l.df, isWord z = true
  us : ∀ z ∈ l.us, isWord z = true
  nn : l.ns.Nodup
  dn : l.df.Nodup
  un : l.us.Nodup
  nl : l.ns.length ≤ 12
  dl : l.df.length ≤ 20
  ul : l.us.length ≤ 20
  wl : l.wk.length ≤ 20
/-- it stands at x -/
def LbV (K : PySem.W.Frag) (A : Adr) (H : Hp) (x : V) (l : Lb) : Prop := ∃ a dx t1 t2 t3 t4, x = .ref a ∧ H a = some (.ins A.C_Library dx (libK.zip [.str l.nm, .ref t1, .ref t2, .ref t3, .ref t4, .bl l.eg, .bl l.fi])) ∧
  SqT K H t1 (l.ns.map V.str) ∧ SqT K H t2 (l.df.map V.str) ∧ SqT K H t3 (l.us.map V.str) ∧ SqT K H t4 (l.wk.map V.str)
theorem LbV.up {K : PySem.W.Frag} {A : Adr} {H H' : Hp} {x : V} {l : Lb} (e : Ex H H') (h : LbV K A H x l) : LbV K A H' x l := by
  obtain ⟨a, dx, t1, t2, t3, t4, h1, h2, h3, h4, h5, h6⟩ := h
  exact ⟨a, dx, t1, t2, t3, t4, h1, e _ _ h2, ex_t e h3, ex_t e h4, ex_t e h5, ex_t e h6⟩
/-- the store of these libraries stands at p -/
def StV (K : PySem.W.Frag) (A : Adr) (H : Hp) (p : Addr) (ls : List Lb) : Prop := ∃ xs, StoreAt A H p (ls.map Lb.nm) xs ∧ ∀ (i : Nat) x l, xs[i]? = some x → ls[i]? = some l → LbV K A H x l ∧ l.Ok
theorem StV.up {K : PySem.W.Frag} {A : Adr} {H H' : Hp} {p : Addr} {ls : List Lb} (e : Ex H H') (h : StV K A H p ls) : StV K A H' p ls := by
  obtain ⟨xs, a, b⟩ := h
  exact ⟨xs, a.up e, fun i x l h1 h2 => ⟨(b i x l h1 h2).1.up e, (b i x l h1 h2).2⟩⟩
def names (ls : List Lb) : List Str := ls.map Lb.nm
/-- store[x] -/
theorem get_call {K : PySem.W.Frag} {A : Adr} {G H : Hp} {p : Addr} {x : V} {ls : List Lb} {Q : VK} {E : XK} (st : StV K A G p ls) (eG : Ex G H) (w : WArg K H x) (k : ∀ l v H', l ∈ ls → x = .str l.nm → Ex H H' → LbV K A G v l → Q v H')
    (kx : inStore (names ls) x = false → ∀ d H', Ex H H' → H' d = some (.xd [("name", x)]) → E (.ref A.C_NoName) (some d) H') : ∃ a dx fs, V.ref p = .ref a ∧ H a = some (.ins A.C_Store dx fs) ∧ sp_Store___getitem__ K A [.ref a, x] H Q E := by
  obtain ⟨xs, sa, sb⟩ := st
  obtain ⟨dx, d, h1, _⟩ := id (sa.up eG)
  refine ⟨p, dx, _, rfl, h1, p, x, _, xs, rfl, sa.up eG, w, fun i z y hx hw hi hy H' e => ?_, kx⟩
  rw [List.getElem?_map] at hi
  cases hl : ls[i]? with
  | none => rw [hl] at hi; cases hi
  | some l =>
    rw [hl] at hi
    have ez : l.nm = z := Option.some.inj hi
    exact k l y H' (List.mem_of_getElem? hl) (by rw [hx, ez]) e (sb i y l hy hl).1
theorem StV.ok {K : PySem.W.Frag} {A : Adr} {H : Hp} {p : Addr} {ls : List Lb} (st : StV K A H p ls) {l : Lb} (h : l ∈ ls) : l.Ok := by
  obtain ⟨xs, sa, sb⟩ := st
  obtain ⟨i, hi⟩ := List.getElem?_of_mem h
  obtain ⟨dx, d, _, _, ln, _⟩ := sa
  have hl : i < xs.length := by rw [← ln, List.length_map]; exact (List.getElem?_eq_some_iff.mp hi).1
  exact (sb i xs[i] l (by simp) hi).2
theorem StV.nd {K : PySem.W.Frag} {A : Adr} {H : Hp} {p : Addr} {ls : List Lb} (st : StV K A H p ls) : (names ls).Nodup ∧ ls.length ≤ 40 := by
  obtain ⟨xs, ⟨dx, d, _, _, ln, nd, le⟩, _⟩ := st
  exact ⟨nd, by simpa using le⟩
theorem StV.uniq {K : PySem.W.Frag} {A : Adr} {H : Hp} {p : Addr} {ls : List Lb} (st : StV K A H p ls) {l m : Lb} (h : l ∈ ls) (h' : m ∈ ls) (e : l.nm = m.nm) : l = m := by
  obtain ⟨i, hi⟩ := List.getElem?_of_mem h
  obtain ⟨j, hj⟩ := List.getElem?_of_mem h'
  have a : (names ls)[i]? = some l.nm := by unfold names; rw [List.getElem?_map, hi]; rfl
  have b : (names ls)[j]? = some l.nm := by unfold names; rw [List.getElem?_map, hj, e]; rfl
  have := L2.nodup_ix st.nd.1 a b
  subst this
  rw [hi] at hj
  exact Option.some.inj hj
theorem mem_names {ls : List Lb} {l : Lb} (h : l ∈ ls) : l.nm ∈ names ls := List.mem_map.mpr ⟨l, h, rfl⟩
theorem in_yes {ls : List Lb} {z : Str} (w : isWord z = true) (h : z ∈ names ls) : inStore (names ls) (.str z) = true := by
  show (isWord z && decide (z ∈ names ls)) = true
  rw [w, decide_eq_true h]; rfl
theorem in_no {ls : List Lb} {z : Str} (h : z ∉ names ls) : inStore (names ls) (.str z) = false := by
  show (isWord z && decide (z ∈ names ls)) = false
  rw [decide_eq_false h]; simp
/-- x in store -/
theorem in_call {K : PySem.W.Frag} {A : Adr} {H : Hp} {p : Addr} {x : V} {ls : List Lb} {neg : Bool} {Q : VK} {E : XK} (st : StV K A H p ls) (w : WArg K H x) (k : ∀ H', Ex H H' → Q (.bl (if neg then !inStore (names ls) x else inStore (names ls) x)) H') : rInO A.C_Store (sp_Store___contains__ K A) E neg x (.ref p) H Q := by
  obtain ⟨xs, sa, sb⟩ := st
  obtain ⟨dx, d, h1, _⟩ := id sa
  exact ⟨p, dx, _, rfl, h1, p, x, _, xs, rfl, sa, w, fun H' e => ⟨_, rfl, k H' e⟩⟩
/-- what a step of the closure adds, what of it is absent first -/
def more (l : Lb) (fs : List Str) : List Str := l.ns.filter fun z => decide (z ∉ fs)
def absent (ls : List Lb) (zs : List Str) : Option Str := zs.find? fun z => decide (z ∉ names ls)
def sp_grown (K : PySem.W.Frag) (A : Adr) : Sp := fun vs H Q E => ∃ (p f : Addr) (l : Lb) (ls : List Lb) (fs : List Str), vs = [.ref p, .ref f, .str l.nm] ∧ StV K A H p ls ∧ H f = some (.lst (fs.map V.str)) ∧ fs.length ≤ 1000 ∧ l ∈ ls ∧
  (absent ls (more l fs) = none → ∀ g H', H g = none → Ex H H' → H' g = some (.lst ((fs ++ more l fs).map V.str)) → Q (.ref g) H') ∧
  (∀ z, absent ls (more l fs) = some z → ∀ d H', Ex H H' → H' d = some (.xd [("name", .str z)]) → E (.ref A.C_Missing) (some d) H')
theorem ok_grown (T : Txt K mg A) : FnOk P w K mg base (L2.CX P w) 5 A.f_grown A.d_grown P_grown (sp_grown K A) := by
  refine T.F_grown.okX sc_grown (fun vs H Q E h => ?_) (fun cdv Ar outer s H vs Q E hr h => ?_)
  · obtain ⟨p, f, l, ls, fs, rfl, _⟩ := h; rfl
  · have hu := hu_of hr
    refine ⟨_, (pss_cons (ps_setLcM (i := 3) (own := [("need", 4)]) rfl sc_grown.nd rfl rfl (sw_true rfl rfl rfl (by decide +kernel)) (k_pit K rfl (k_fld K rfl (pe_subO T.du_Store_getitem T.fi_Store_getitem (ok_Store___getitem__ T) (hr.mono (by decide)) T.bi_Store___getitem__ (passes_call (takes_of rfl rfl rfl rfl) fun _ _ _ _ z => z) (pv 0) (pv 2)))) (blkOk_by (N := N_grown) (sc := defScope s_grown) (by decide +kernel)) (fun _ _ _ _ _ => (pg_name (i := 4) sc_grown.nd rfl (Or.inl rfl))) (fun _ _ _ _ _ => (pts_one (pt_cmpR (k_notIn K rfl) (pv 4) (pv 1) (by rfl)))) (fun _ _ _ _ _ => (pv 4)))
        (pss_cons (ps_for (passes_of rfl) rfl (k_pil K rfl (pv 3)) (pg_name (i := 4) sc_grown.nd rfl (Or.inl rfl))
          (pss_one (ps_if (pt_cmpR (op_notInO T.du_Store_contains (ok_Store___contains__ T) (hr.mono (by decide)) T.bi_Store___contains__ pass0) (pv 4) (pv 0) (by rfl))
          (pss_one (ps_raise rfl (takes_of rfl rfl rfl rfl) (pmk_x T.x_Missing (ok_Missing___init__ T) (hr.mono (by decide)) T.bi_Missing___init__ (pa_cons (pv 4) pa_nil) (by rfl))))
          pss_nil)))
        (pss_one (ps_ret (pe_op op_catM (pv 1) (pv 3)))))), ?_⟩
    obtain ⟨p, f, l, ls, fs, rfl, st, hf, lf, hl, k, kx⟩ := h
    have ok := st.ok hl
    have w12 := isWord_len ok.nm
    walk_at "rd"
    refine get_call st (Ex.refl _) (.inl ⟨_, rfl, by omega⟩) (fun l' v H1 hl' he e1 lv => ?_) fun no => ?_
    rotate_left
    · rw [in_yes ok.nm (mem_names hl)] at no; cases no
    obtain rfl : l' = l := st.uniq hl' hl (V.str.inj he).symm
    obtain ⟨a, dx, t1, t2, t3, t4, rfl, g0, g1, g2, g3, g4⟩ := lv.up e1
    walk_at "rd"
    refine r_fldE g0 T.cl_Library T.na_Library_needs 1 (by decide +kernel) rfl ?_
    walk_at "rd"
    refine ⟨t1, rfl, ⟨_, g1⟩, ?_⟩
    have nl := ok.nl
    refine lc_val walk_tup (by rw [List.length_map]; omega) (fun Hx ex => ex_t ex g1) (fun i ys => ys = ((l'.ns.take i).filter fun z => decide (z ∉ fs)).map V.str) rfl (fun i ys x Hx Hy hi ex hs hy => ?_) fun D ys H2 nD e2 hs hD => ?_
    · obtain ⟨rfl, hy⟩ := hy
      obtain ⟨z, hz, rfl⟩ : ∃ z, l'.ns[i]? = some z ∧ x = .str z := by
        rw [List.getElem?_map] at hy
        cases e : l'.ns[i]? with
        | none => rw [e] at hy; cases hy
        | some z => rw [e] at hy; exact ⟨z, rfl, (Option.some.inj hy).symm⟩
      walk_at "rd"
      refine ⟨rfl, ?_⟩
      walk_at "rd"
      refine ⟨f, _, rfl, .inl (SqL.of ((e1.trans ex) _ _ hf)), rfl, flat_str fs, ?_⟩
      rw [inV_str]
      have tk : l'.ns.take (i + 1) = l'.ns.take i ++ [z] := by rw [List.take_add_one, hz]; rfl
      by_cases hn : z ∈ fs
      · refine r_bl ?_
        refine r_iteF (by simp [hn]) ⟨Ex.refl _, ?_⟩
        rw [hs, tk, List.filter_append]
        simp [hn]
      · refine r_bl ?_
        refine r_iteT (by simp [hn]) ?_
        walk_at "rd"
        refine ⟨Ex.refl _, ?_⟩
        rw [hs, tk, List.filter_append]
        simp [hn]
    rw [List.length_map, List.take_length] at hs
    replace hs : ys = (more l' fs).map V.str := hs
    subst hs
    walk_at "rd"
    have e12 := e1.trans e2
    have mw : ∀ z ∈ more l' fs, isWord z = true := fun z hz => ok.ns z (List.mem_filter.mp hz).1
    have ml : (more l' fs).length ≤ 12 := Nat.le_trans (List.length_filter_le _ _) nl
    refine ⟨D, rfl, ⟨_, SqL.of hD⟩, ?_⟩
    refine for_it (walk_list (K := K) (a := D)) (fun i σ' H' => Ex H2 H' ∧ absent ls ((more l' fs).take i) = none ∧ ∃ o4 : Option V, σ' = [some (.ref p), some (.ref f), some (.str l'.nm), some (.ref D), o4])
      ⟨Ex.refl _, rfl, _, rfl⟩ (fun i σ' H' _ q => SqL.of (q.1 _ _ hD)) ?_ fun σ' H' q => ?_
    · rintro i x σ' H' H'' hi ⟨ex, ab, o4, rfl⟩ ⟨rfl, hx⟩
      obtain ⟨z, hz, rfl⟩ : ∃ z, (more l' fs)[i]? = some z ∧ x = .str z := by
        rw [List.getElem?_map] at hx
        cases e : (more l' fs)[i]? with
        | none => rw [e] at hx; cases hx
        | some z => rw [e] at hx; exact ⟨z, rfl, (Option.some.inj hx).symm⟩
      have zw := mw z (List.mem_of_getElem? hz)
      have z12 := isWord_len zw
      have dr : more l' fs = (more l' fs).take i ++ (z :: (more l' fs).drop (i + 1)) := by
        obtain ⟨hil, hil2⟩ := List.getElem?_eq_some_iff.mp hz
        rw [← hil2, ← List.drop_eq_getElem_cons, List.take_append_drop]
      walk_at "rd"
      refine in_call (st.up (e12.trans ex)) (.inl ⟨z, rfl, by omega⟩) fun H3 e3 => ?_
      by_cases hn : z ∈ names ls
      · rw [in_yes zw hn]
        refine r_bl ?_
        refine r_iteF rfl ?_
        walk_at "rd"
        refine ⟨ex.trans e3, ?_, _, rfl⟩
        have tk : (more l' fs).take (i + 1) = (more l' fs).take i ++ [z] := by rw [List.take_add_one, hz]; rfl
        unfold absent at ab ⊢
        rw [tk, List.find?_append, ab]
        simp [hn]
      · rw [in_no hn]
        refine r_bl ?_
        refine r_iteT rfl ?_
        walk_at "rd"
        refine ⟨_, rfl, fun d H4 e4 nd hd => kx z ?_ d H4 (e12.trans (ex.trans (e3.trans e4))) hd⟩
        unfold absent at ab ⊢
        rw [dr, List.find?_append, ab]
        simp [hn]
    obtain ⟨ex, ab, o4, rfl⟩ := q
    rw [List.take_of_length_le (by rw [List.length_map]; exact Nat.le_refl _)] at ab
    have e13 := e12.trans ex
    walk_at "rd"
    refine r_catM (e13 _ _ hf) (ex _ _ hD) (by rw [List.length_map, List.length_map]; exact Nat.le_trans (Nat.add_le_add lf ml) (by decide)) fun g H4 n4 e4 h4 => ?_
    exact k ab g H4 (ex_none e13 n4) (e13.trans e4) (by rw [h4, List.map_append])
/-- the closure as the program walks it -/
def cloF (ls : List Lb) : Nat → List Str → Nat → Str ⊕ List Str
  | 0, fs, _ => .inr fs
  | n + 1, fs, i => match fs[i]? with
    | none => .inr fs
    | some z => match ls.find? (fun l => decide (l.nm = z)) with
      | none => .inr fs
      | some l => match absent ls (more l fs) with
        | some m => .inl m
        | none => cloF ls n (fs ++ more l fs) (i + 1)
/-- the closure of a name: the first absent one, or the list -/
def clo (ls : List Lb) (z : Str) : Str ⊕ List Str := cloF ls 41 [z] 0
theorem find_nm {ls : List Lb} {z : Str} (h : z ∈ names ls) : ∃ l, ls.find? (fun l => decide (l.nm = z)) = some l ∧ l ∈ ls ∧ l.nm = z := by
  cases e : ls.find? (fun l => decide (l.nm = z)) with
  | none =>
    obtain ⟨l, hl, rfl⟩ := List.mem_map.mp h
    exact absurd (List.find?_eq_none.mp e l hl) (by simp)
  | some l => exact ⟨l, rfl, List.mem_of_find?_eq_some e, by simpa using List.find?_some e⟩
/-- what stands while the closure grows -/
structure CloI (ls : List Lb) (fs : List Str) : Prop where
  nd : fs.Nodup
  sub : ∀ z ∈ fs, z ∈ names ls
theorem CloI.grow {ls : List Lb} {fs : List Str} {l : Lb} (h : CloI ls fs) (ok : l.Ok) (a : absent ls (more l fs) = none) : CloI ls (fs ++ more l fs) := by
  refine ⟨List.nodup_append.mpr ⟨h.nd, ok.nn.filter _, fun x hx y hy e => ?_⟩, fun z hz => ?_⟩
  · have := (List.mem_filter.mp hy).2
    rw [← e] at this
    exact of_decide_eq_true this hx
  · rcases List.mem_append.mp hz with hz | hz
    · exact h.sub z hz
    · have := List.find?_eq_none.mp a z hz
      simpa using this
theorem nodup_le {α : Type} [DecidableEq α] : ∀ {xs ys : List α}, xs.Nodup → (∀ x ∈ xs, x ∈ ys) → xs.length ≤ ys.length
  | [], _, _, _ => Nat.zero_le _
  | x :: xs, ys, nd, h => by
    rw [List.nodup_cons] at nd
    have hx := h x (List.mem_cons_self ..)
    have := nodup_le (xs := xs) (ys := ys.erase x) nd.2 fun y hy => (List.mem_erase_of_ne (fun e => nd.1 (by rw [← e]; exact hy))).mpr (h y (List.mem_cons_of_mem _ hy))
    rw [List.length_erase_of_mem hx] at this
    have : 0 < ys.length := List.length_pos_of_mem hx
    simp only [List.length_cons]
    omega
theorem CloI.len {ls : List Lb} {fs : List Str} (h : CloI ls fs) : fs.length ≤ ls.length := by
  have := nodup_le h.nd h.sub
  unfold names at this
  rwa [List.length_map] at this
def sp_closure (K : PySem.W.Frag) (A : Adr) : Sp := fun vs H Q E => ∃ (p : Addr) (x : V) (ls : List Lb), vs = [.ref p, x] ∧ StV K A H p ls ∧ WArg K H x ∧
  (∀ z gs g H', x = .str z → z ∈ names ls → clo ls z = .inr gs → CloI ls gs → H g = none → Ex H H' → H' g = some (.lst (gs.map V.str)) → Q (.ref g) H') ∧
  (∀ z m d H', x = .str z → z ∈ names ls → clo ls z = .inl m → Ex H H' → H' d = some (.xd [("name", .str m)]) → E (.ref A.C_Missing) (some d) H') ∧
  (inStore (names ls) x = false → ∀ d H', Ex H H' → H' d = some (.xd [("name", x)]) → E (.ref A.C_NoName) (some d) H')
theorem ok_closure (T : Txt K mg A) : FnOk P w K mg base (L2.CX P w) 6 A.f_closure A.d_closure P_closure (sp_closure K A) := by
  refine T.F_closure.okX sc_closure (fun vs H Q E h => ?_) (fun cdv Ar outer s H vs Q E hr h => ?_)
  · obtain ⟨p, x, ls, rfl, _⟩ := h; rfl
  · have hu := hu_of hr
    refine ⟨_, (pss_cons (ps_set (i := 2) sc_closure.nd rfl (Or.inl rfl) (pe_lstM (pa_cons (k_fld K rfl (pe_subO T.du_Store_getitem T.fi_Store_getitem (ok_Store___getitem__ T) (hr.mono (by decide)) T.bi_Store___getitem__ (passes_call (takes_of rfl rfl rfl rfl) fun _ _ _ _ z => z) (pv 0) (pv 1))) pa_nil)))
        (pss_cons (ps_set (i := 3) sc_closure.nd rfl (Or.inl rfl) pe_int)
        (pss_cons (ps_while (passes_of rfl) (pt_cmpR op_lt (pv 3) (pe_callB (k_len K rfl) (by rfl) T.b_len PySem.boot_len (pa_cons (pv 2) pa_nil)) (nomark _))
          (pss_cons (ps_set (i := 2) sc_closure.nd rfl (Or.inl rfl) (pe_call (ok_grown T) (hr.mono (by decide)) (by rfl) T.g_grown T.k_grown T.bi_grown .nil (passes_call (takes_of rfl rfl rfl rfl) fun _ _ _ _ z => z) (pa_cons (pv 0) (pa_cons (pv 2) (pa_cons (pe_ix (k_ixL K rfl) (pv 2) (pv 3) (fun _ _ => rfl)) pa_nil)))))
        (pss_one (ps_aug (i := 3) sc_closure.nd rfl (Or.inl rfl) pe_int ip_add))))
        (pss_one (ps_ret (pv 2)))))), ?_⟩
    obtain ⟨p, x, ls, rfl, st, w, k, km, kn⟩ := h
    walk_at "rd"
    refine get_call st (Ex.refl _) w (fun l v H1 hl he e1 lv => ?_) kn
    subst he
    have ok := st.ok hl
    obtain ⟨a, dx, t1, t2, t3, t4, rfl, g0, g1, g2, g3, g4⟩ := lv.up e1
    walk_at "rd"
    refine r_fldE g0 T.cl_Library T.na_Library_name 0 (by decide +kernel) rfl ?_
    walk_at "rd"
    refine ⟨by simp, fun f H2 nf e2 hf => ?_⟩
    walk_at "rd"
    have e12 := e1.trans e2
    have l40 := st.nd.2
    refine ⟨fun m σ' H' => ∃ (g : Addr) (fs : List Str) (i : Nat) (o4 o5 : Option V), σ' = [some (.ref p), some (.str l.nm), some (.ref g), some (.int (i : Nat))] ∧ Ex H H' ∧ H g = none ∧ H' g = some (.lst (fs.map V.str)) ∧ CloI ls fs ∧ i + m = 41 ∧ i ≤ fs.length ∧ clo ls l.nm = cloF ls m fs i,
      ⟨41, f, [l.nm], 0, none, none, rfl, e12, ex_none e1 nf, hf, ⟨by simp, fun z hz => by rw [List.mem_singleton.mp hz]; exact mem_names hl⟩, rfl, Nat.zero_le _, rfl⟩, ?_⟩
    rintro m σ' H3 ⟨g, fs, i, _, _, rfl, ex, ng, hg, ci, im, il, ce⟩
    have lf := ci.len
    walk_at "rd"
    refine r_lenL (SqL.of hg) ?_
    walk_at "rd"
    by_cases hi : i < fs.length
    · rw [decide_eq_true (show ((i : Nat) : Int) < ((fs.map V.str).length : Nat) by rw [List.length_map]; omega)]
      refine r_iteT rfl ?_
      obtain ⟨z, hz⟩ : ∃ z, fs[i]? = some z := ⟨fs[i], by simp [hi]⟩
      have zm := ci.sub z (List.mem_of_getElem? hz)
      obtain ⟨l2, hf2, hl2, ez⟩ := find_nm zm
      have ok2 := st.ok hl2
      cases m with
      | zero => exfalso; omega
      | succ m =>
      have cs : cloF ls (m + 1) fs i = (match absent ls (more l2 fs) with
        | some q => .inl q
        | none => cloF ls m (fs ++ more l2 fs) (i + 1)) := by
        conv => lhs; unfold cloF
        rw [hz]
        show (match ls.find? (fun l => decide (l.nm = z)) with
          | none => _
          | some l => _) = _
        rw [hf2]
      refine ⟨fun σ' H' => ∃ (g : Addr) (fs : List Str) (i : Nat) (o4 o5 : Option V), σ' = [some (.ref p), some (.str l.nm), some (.ref g), some (.int (i : Nat))] ∧ Ex H H' ∧ H g = none ∧ H' g = some (.lst (fs.map V.str)) ∧ CloI ls fs ∧ i + m = 41 ∧ i ≤ fs.length ∧ clo ls l.nm = cloF ls m fs i, fun σ' H' q => ⟨m, Nat.lt_succ_self _, q⟩, ?_⟩
      walk_at "rd"
      refine r_ixL (SqL.of hg) (atI_nat (v := V.str z) (by rw [List.getElem?_map, hz]; rfl)) ?_
      walk_at "rd"
      subst ez
      refine ⟨p, g, l2, ls, fs, rfl, st.up ex, hg, by omega, hl2, fun ab g2 H4 ng2 e4 hg2 => ?_, fun q ab d H4 e4 hd => ?_⟩
      · walk_at "rd"
        refine ⟨_, rfl, ?_⟩
        walk_at "rd"
        have ci2 := ci.grow ok2 ab
        refine ⟨_, _, rfl, rfl, g2, fs ++ more l2 fs, i + 1, none, none, ?_, ex.trans e4, ex_none ex ng2, hg2, ci2, by omega, by rw [List.length_append]; omega, by rw [ce, cs, ab]⟩
        show _ = [_, _, _, some (V.int ((i + 1 : Nat) : Int))]
        rw [Int.natCast_add]
        rfl
      · exact km _ q d H4 rfl (mem_names hl) (by rw [ce, cs, ab]) (ex.trans e4) hd
    · rw [decide_eq_false (show ¬ ((i : Nat) : Int) < ((fs.map V.str).length : Nat) by rw [List.length_map]; omega)]
      refine r_iteF rfl ?_
      walk_at "rd"
      have cn : cloF ls m fs i = .inr fs := by
        cases m with
        | zero => rfl
        | succ m =>
          have : fs[i]? = none := List.getElem?_eq_none (by omega)
          unfold cloF
          rw [this]
      exact k _ fs g H3 rfl (mem_names hl) (ce.trans cn) ci ng ex hg
/-- what the library of the name z defines -/
def dfOf (ls : List Lb) (z : Str) : List Str := match ls.find? (fun l => decide (l.nm = z)) with
  | some l => l.df
  | none => []
/-- those that define it -/
def dfs (ls : List Lb) (zs : List Str) (y : Str) : List Str := zs.filter fun z => decide (y ∈ dfOf ls z)
theorem dfOf_eq {K : PySem.W.Frag} {A : Adr} {H : Hp} {p : Addr} {ls : List Lb} (st : StV K A H p ls) {l : Lb} (h : l ∈ ls) : dfOf ls l.nm = l.df := by
  obtain ⟨m, hm, h2, h3⟩ := find_nm (mem_names h)
  unfold dfOf
  rw [hm, st.uniq h2 h h3]
def sp_definers (K : PySem.W.Frag) (A : Adr) : Sp := fun vs H Q E => ∃ (p f : Addr) (y : V) (ls : List Lb) (zs : List Str), vs = [.ref p, .ref f, y] ∧ StV K A H p ls ∧ SqL K H f (zs.map V.str) ∧ zs.length ≤ 1000 ∧ (∀ z ∈ zs, z ∈ names ls) ∧ WArg K H y ∧
  (∀ w g H', y = .str w → isWord w = true → H g = none → Ex H H' → H' g = some (.lst ((dfs ls zs w).map V.str)) → Q (.ref g) H') ∧
  (isWordV y = false → ∀ d H', Ex H H' → H' d = some (.xd [("symbol", y)]) → E (.ref A.C_NoSymbol) (some d) H')
theorem ok_definers (T : Txt K mg A) : FnOk P w K mg base (L2.CX P w) 5 A.f_definers A.d_definers P_definers (sp_definers K A) := by
  refine T.F_definers.okX sc_definers (fun vs H Q E h => ?_) (fun cdv Ar outer s H vs Q E hr h => ?_)
  · obtain ⟨p, f, y, ls, zs, rfl, _⟩ := h; rfl
  · have hu := hu_of hr
    refine ⟨_, (pss_cons (ps_setLcM (i := 3) (own := [("name", 4)]) (tt := tYes) rfl sc_definers.nd rfl rfl (sw_true rfl rfl rfl (by decide +kernel)) (k_pil K rfl (pv 1)) (blkOk_by (N := N_definers) (sc := defScope s_definers) (by decide +kernel)) (fun _ _ _ _ _ => (pg_name (i := 4) sc_definers.nd rfl (Or.inl rfl))) (fun _ _ _ _ _ => pts_nil) (fun _ _ _ _ _ => (pe_subO T.du_Store_getitem T.fi_Store_getitem (ok_Store___getitem__ T) (hr.mono (by decide)) T.bi_Store___getitem__ passL (pv 0) (pv 4))))
        (pss_cons (ps_expr (pe_call (ok_check_symbol T) (hr.mono (by decide)) (by rfl) T.g_check_symbol T.k_check_symbol T.bi_check_symbol .nil (passes_call (takes_of rfl rfl rfl rfl) fun _ _ _ _ z => z) (pa_cons (pv 2) pa_nil)))
        (pss_one (ps_ret (pe_lcM (own := [("library", 5)]) rfl sc_definers.nd (k_pil K rfl (pv 3)) (blkOk_by (N := N_definers) (sc := defScope s_definers) (by decide +kernel)) (fun _ _ _ _ _ => (pg_name (i := 5) sc_definers.nd rfl (Or.inl rfl))) (fun _ _ _ _ _ => (pts_one (pt_cmpR (k_in K rfl) (pv 2) (k_fld K rfl (pv 5)) (by rfl)))) (fun _ _ _ _ _ => (k_fld K rfl (pv 5)))))))), ?_⟩
    obtain ⟨p, f, y, ls, zs, rfl, st, hf, lz, mz, w, k, kx⟩ := h
    walk_at "rd"
    refine ⟨f, rfl, ⟨_, hf⟩, ?_⟩
    refine lc_val walk_list (by rw [List.length_map]; omega) (fun Hx ex => ex_l ex hf) (fun i ys => ys.length = i ∧ ∀ (j : Nat) v, ys[j]? = some v → ∃ l ∈ ls, zs[j]? = some l.nm ∧ LbV K A H v l) ⟨rfl, fun j v h => by simp at h⟩ (fun i ys x Hx Hy hi ex hs hy => ?_) fun D ys H1 nD e1 hs hD => ?_
    · obtain ⟨rfl, hy⟩ := hy
      obtain ⟨z, hz, rfl⟩ : ∃ z, zs[i]? = some z ∧ x = .str z := by
        rw [List.getElem?_map] at hy
        cases e : zs[i]? with
        | none => rw [e] at hy; cases hy
        | some z => rw [e] at hy; exact ⟨z, rfl, (Option.some.inj hy).symm⟩
      obtain ⟨l0, _, hl0, e0⟩ := find_nm (mz z (List.mem_of_getElem? hz))
      have ok0 := st.ok hl0
      have z12 := isWord_len ok0.nm
      rw [e0] at z12
      walk_at "rd"
      refine ⟨rfl, ?_⟩
      walk_at "rd"
      refine get_call st ex (.inl ⟨z, rfl, by omega⟩) (fun l v H2 hl he e2 lv => ?_) fun no => ?_
      · refine ⟨e2, by rw [List.length_append, hs.1]; rfl, fun j u hj => ?_⟩
        rw [List.getElem?_append] at hj
        split at hj
        · exact hs.2 j u hj
        · rename_i hl2
          have e : j - ys.length = 0 := by
            have := (List.getElem?_eq_some_iff.mp hj).1
            simp at this
            omega
          rw [e] at hj
          cases hj
          obtain rfl : j = i := by rw [← hs.1]; omega
          exact ⟨l, hl, by rw [hz, V.str.inj he], lv⟩
      · rw [in_yes (by rw [← e0]; exact ok0.nm) (mz z (List.mem_of_getElem? hz))] at no; cases no
    walk_at "rd"
    refine ⟨y, rfl, w.up e1, fun wy H2 e2 => ?_, fun wn d H2 e2 hd => kx wn d H2 (e1.trans e2) hd⟩
    obtain ⟨sy, rfl⟩ : ∃ z, y = .str z := by
      cases y with
      | str z => exact ⟨z, rfl⟩
      | _ => exact absurd wy (by simp [isWordV])
    walk_at "rd"
    rw [List.length_map] at hs
    obtain ⟨hl, hv⟩ := hs
    have hD2 := e2 _ _ hD
    refine ⟨D, rfl, ⟨_, SqL.of hD2⟩, ?_⟩
    have e12 := e1.trans e2
    refine lc_val walk_list (by omega) (fun Hx ex => SqL.of (ex _ _ hD2)) (fun i us => us = ((zs.take i).filter fun z => decide (sy ∈ dfOf ls z)).map V.str) rfl (fun i us x Hx Hy hi ex hs hy => ?_) fun D2 us H3 nD2 e3 hs hD3 => ?_
    · obtain ⟨rfl, hy⟩ := hy
      obtain ⟨l, hl2, hz, a, dx, t1, t2, t3, t4, rfl, g0, g1, g2, g3, g4⟩ := hv i x hy
      have ee := e12.trans ex
      have tk : zs.take (i + 1) = zs.take i ++ [l.nm] := by rw [List.take_add_one, hz]; rfl
      walk_at "rd"
      refine ⟨rfl, ?_⟩
      walk_at "rd"
      refine r_fldE (ee _ _ g0) T.cl_Library T.na_Library_defines 2 (by decide +kernel) rfl ?_
      refine r_inT (ex_t ee g2) rfl (flat_str l.df) ?_
      rw [inV_str]
      by_cases hn : sy ∈ l.df
      · refine r_bl ?_
        refine r_iteT (decide_eq_true hn) ?_
        walk_at "rd"
        refine r_fldE (ee _ _ g0) T.cl_Library T.na_Library_name 0 (by decide +kernel) rfl ⟨Ex.refl _, ?_⟩
        rw [hs, tk, List.filter_append]
        simp [dfOf_eq st hl2, hn]
      · refine r_bl ?_
        refine r_iteF (decide_eq_false hn) ⟨Ex.refl _, ?_⟩
        rw [hs, tk, List.filter_append]
        simp [dfOf_eq st hl2, hn]
    rw [hl, List.take_length] at hs
    subst hs
    walk_at "rd"
    exact k sy D2 H3 rfl wy (ex_none e12 nD2) (e12.trans e3) hD3
/-- the first that defines it -/
def fstV (ls : List Lb) (zs : List Str) (y : Str) : V := match dfs ls zs y with
  | [] => .non
  | z :: _ => .str z
def sp_first_definer (K : PySem.W.Frag) (A : Adr) : Sp := fun vs H Q E => ∃ (p f : Addr) (w : Str) (ls : List Lb) (zs : List Str), vs = [.ref p, .ref f, .str w] ∧ StV K A H p ls ∧ SqL K H f (zs.map V.str) ∧ zs.length ≤ 1000 ∧ (∀ z ∈ zs, z ∈ names ls) ∧ isWord w = true ∧
  ∀ H', Ex H H' → Q (fstV ls zs w) H'
theorem ok_first_definer (T : Txt K mg A) : FnOk P w K mg base CX0 6 A.f_first_definer A.d_first_definer P_first_definer (sp_first_definer K A) := by
  refine T.F_first_definer.ok sc_first_definer (fun vs H Q E h => ?_) (fun cdv Ar outer s H vs Q E hr h => ?_)
  · obtain ⟨p, f, w, ls, zs, rfl, _⟩ := h; rfl
  · have hu := hu_of hr
    refine ⟨_, (pss_cons (ps_set (i := 3) sc_first_definer.nd rfl (Or.inl rfl) (pe_call (ok_definers T) (hr.mono (by decide)) (by rfl) T.g_definers T.k_definers T.bi_definers .nil passL (pa_cons (pv 0) (pa_cons (pv 1) (pa_cons (pv 2) pa_nil)))))
        (pss_one (ps_ret (pe_ifExp (pt_cmpR (k_neL0 K rfl hu) (pv 3) (pe_lstM pa_nil) (nomark _)) (pe_ix (k_ixL K rfl) (pv 3) pe_int (fun _ _ => rfl)) pe_non)))), ?_⟩
    obtain ⟨p, f, w, ls, zs, rfl, st, hf, lz, mz, hw, k⟩ := h
    have w12 := isWord_len hw
    walk_at "rd"
    refine ⟨p, f, .str w, ls, zs, rfl, st, hf, lz, mz, .inl ⟨w, rfl, by omega⟩, fun w' g H1 he _ ng e1 hg => ?_, fun wn => ?_⟩
    rotate_left
    · have : isWordV (.str w) = true := hw
      rw [this] at wn; cases wn
    cases he
    walk_at "rd"
    refine ⟨by simp, fun em H2 n2 e2 h2 => ?_⟩
    refine r_neL0 (SqL.of (e2 _ _ hg)) (SqL.of h2) ?_
    have kk := k H2 (e1.trans e2)
    unfold fstV at kk
    cases hd : dfs ls zs w with
    | nil =>
      rw [hd] at kk
      refine r_bl ?_
      refine r_iteF rfl ?_
      walk_at "rd"
      exact kk
    | cons z r =>
      rw [hd] at kk hg
      refine r_bl ?_
      refine r_iteT rfl ?_
      walk_at "rd"
      exact r_ixL (SqL.of (e2 _ _ hg)) (atI_nat (j := 0) rfl) kk
/-- the wishes as a dict's entries -/
def wkv (ws : List (Str × Str)) : List (Key × V) := ws.map fun w => (Sum.inr w.1, V.str w.2)
/-- they stand at d, and nothing writes there any more -/
def WiAt (H : Hp) (d : Addr) (ws : List (Str × Str)) : Prop := ∃ o, H d = some (.frz o (.dK (wkv ws)))
theorem WiAt.up {H H' : Hp} {d : Addr} {ws : List (Str × Str)} (e : Ex H H') (h : WiAt H d ws) : WiAt H' d ws := by
  obtain ⟨o, h⟩ := h
  exact ⟨o, e _ _ h⟩
def syms (ws : List (Str × Str)) : List Str := ws.map (·.1)
/-- the name that is wished for a symbol -/
def wish (ws : List (Str × Str)) (s : Str) : Option Str := (ws.find? fun w => decide (w.1 = s)).map (·.2)
theorem wkv_val : ∀ (ws : List (Str × Str)) (s : Str), valV (wkv ws) (Sum.inr s) = (wish ws s).map V.str
  | [], _ => rfl
  | w :: r, s => by
    have e : wkv (w :: r) = (Sum.inr w.1, V.str w.2) :: wkv r := rfl
    rw [e]
    unfold wish
    rw [List.find?_cons]
    by_cases q : w.1 = s
    · rw [valV_pos (p := (Sum.inr w.1, V.str w.2)) (by rw [q]), decide_eq_true q]; rfl
    · rw [valV_neg (p := (Sum.inr w.1, V.str w.2)) (fun z => q (Sum.inr.inj z)), decide_eq_false q, wkv_val r s]; rfl
theorem wkv_keys (ws : List (Str × Str)) : (wkv ws).map (·.1) = (syms ws).map Sum.inr := by unfold wkv syms; rw [List.map_map, List.map_map]; rfl
theorem wish_in {ws : List (Str × Str)} {s : Str} (h : s ∈ syms ws) : ∃ w ∈ ws, w.1 = s ∧ wish ws s = some w.2 := by
  unfold wish
  cases e : ws.find? fun w => decide (w.1 = s) with
  | none =>
    obtain ⟨w, hw, rfl⟩ := List.mem_map.mp h
    exact absurd (List.find?_eq_none.mp e w hw) (by simp)
  | some w => exact ⟨w, List.mem_of_find?_eq_some e, by simpa using List.find?_some e, rfl⟩
theorem wish_no {ws : List (Str × Str)} {s : Str} (h : s ∉ syms ws) : wish ws s = none := by
  unfold wish
  cases e : ws.find? fun w => decide (w.1 = s) with
  | none => rfl
  | some w =>
    have e2 : w.1 = s := by simpa using List.find?_some e
    exact absurd (List.mem_map.mpr ⟨w, List.mem_of_find?_eq_some e, e2⟩) h
/-- wishes that are none of the invalid ones -/
structure WOk (ls : List Lb) (ws : List (Str × Str)) : Prop where
  nd : (syms ws).Nodup
  sy : ∀ w ∈ ws, isWord w.1 = true
  nm : ∀ w ∈ ws, w.2 ∈ names ls
  len : ws.length ≤ 60
theorem dgetF {H : Hp} {d : Addr} {ws : List (Str × Str)} {s n : Str} (h : WiAt H d ws) (e : wish ws s = some n) : DGet H d (.str s) (some (.str n)) := by
  obtain ⟨o, h⟩ := h
  exact .inl ⟨wkv ws, Sum.inr s, .inr ⟨o, h⟩, rfl, by rw [wkv_val, e]; rfl⟩
theorem dgetF0 {H : Hp} {d : Addr} {ws : List (Str × Str)} (s : Str) (h : WiAt H d ws) : DGet H d (.str s) ((wish ws s).map V.str) := by
  obtain ⟨o, h⟩ := h
  exact .inl ⟨wkv ws, Sum.inr s, .inr ⟨o, h⟩, rfl, (wkv_val ws s).symm⟩
theorem r_sortF {H : Hp} {d : Addr} {ws : List (Str × Str)} {Q : VK} (h : WiAt H d ws) (l : ws.length < 64) (q : ∀ ys p H1, ys.Perm (syms ws) → PyProof.Rows.sortedS ys = true → H p = none → Ex H H1 → H1 p = some (.lst (ys.map V.str)) → Q (.ref p) H1) : rSortDK [.ref d] H Q := by
  obtain ⟨o, h⟩ := h
  exact ⟨d, wkv ws, syms ws, rfl, .inr ⟨o, h⟩, wkv_keys ws, by unfold syms; rw [List.length_map]; exact l, fun ys p h1 h2 hp => q ys p _ h1 h2 hp (Ex.new hp) upd_same⟩
theorem names_word {K : PySem.W.Frag} {A : Adr} {H : Hp} {p : Addr} {ls : List Lb} (st : StV K A H p ls) {z : Str} (h : z ∈ names ls) : isWord z = true := by
  obtain ⟨l, hl, rfl⟩ := List.mem_map.mp h
  exact (st.ok hl).nm
def sp_check_wishes (K : PySem.W.Frag) (A : Adr) : Sp := fun vs H Q _ => ∃ (p d : Addr) (ls : List Lb) (ws : List (Str × Str)), vs = [.ref p, .ref d] ∧ StV K A H p ls ∧ WiAt H d ws ∧ WOk ls ws ∧ ∀ H', Ex H H' → Q .non H'
theorem ok_check_wishes (T : Txt K mg A) : FnOk P w K mg base CX0 3 A.f_check_wishes A.d_check_wishes P_check_wishes (sp_check_wishes K A) := by
  refine T.F_check_wishes.ok sc_check_wishes (fun vs H Q E h => ?_) (fun cdv Ar outer s H vs Q E hr h => ?_)
  · obtain ⟨p, d, ls, ws, rfl, _⟩ := h; rfl
  · have hu := hu_of hr
    refine ⟨_, (pss_cons (ps_if (pt_not (pt_val (pe_callB (k_isi K rfl) (by rfl) T.b_isinstance (by decide +kernel) (pa_cons (pv 1) (pa_cons (pe_bltn (v := .ty "dict") (by rfl) T.b_dict (by decide +kernel) rfl) pa_nil)))))
          (pss_one ps_never)
          pss_nil)
        (pss_cons (ps_if (pt_not (pt_val (pe_callB (k_all K rfl rfl) (by rfl) T.b_all (by decide +kernel) (pa_cons (pe_lcM (own := [("symbol", 2)]) (tt := tYes) rfl sc_check_wishes.nd (pi_keys (pv 1)) (blkOk_by (N := N_check_wishes) (sc := defScope s_check_wishes) (by decide +kernel)) (fun _ _ _ _ _ => (pg_name (i := 2) sc_check_wishes.nd rfl (Or.inl rfl))) (fun _ _ _ _ _ => pts_nil) (fun _ _ _ _ _ => (pe_callB (k_isi K rfl) (by rfl) T.b_isinstance (by decide +kernel) (pa_cons (pv 2) (pa_cons (pe_bltn (v := .ty "str") (by rfl) T.b_str (by decide +kernel) rfl) pa_nil))))) pa_nil))))
          (pss_one ps_never)
          pss_nil)
        (pss_one (ps_for PassesOwn.never rfl (k_pil K rfl (pe_callB (k_sortDK rfl) (by rfl) T.b_sorted (by decide +kernel) (pa_cons (pv 1) pa_nil))) (pg_name (i := 2) sc_check_wishes.nd rfl (Or.inl rfl))
          (pss_one (ps_if (PW.pt (pw_or (pt_not (pt_val (pe_call (ok_is_word T) (hr.mono (by decide)) (by rfl) T.g_is_word T.k_is_word T.bi_is_word .nil pass0 (pa_cons (pv 2) pa_nil)))) (pw_or1 (pt_cmpR (op_notInO T.du_Store_contains (ok_Store___contains__ T) (hr.mono (by decide)) T.bi_Store___contains__ pass0) (pe_dget hu (pv 1) (pv 2) (fun _ _ => rfl)) (pv 0) (by rfl)))))
          (pss_one ps_never)
          pss_nil)))))), ?_⟩
    obtain ⟨p, d, ls, ws, rfl, st, wi, wok, k⟩ := h
    obtain ⟨o, hd⟩ := id wi
    have w64 := wok.len
    walk_at "rd"
    refine r_isi (b := true) (.ty "dict") (.fDict hd) (kit_ty (by decide +kernel)) ?_
    walk_at "rd"
    refine ⟨.ref d, rfl, d, o, rfl, .inl ⟨_, hd, ?_⟩⟩
    have lk : (wkv ws).length = ws.length := by unfold wkv; rw [List.length_map]
    refine lc_val walk_keys (by rw [lk]; omega) (fun Hx ex => ex _ _ hd) (fun i ys => ys = (List.replicate i true).map V.bl) rfl (fun i ys x Hx Hy hi ex hs hy => ?_) fun D ys H1 nD e1 hs hD => ?_
    · obtain ⟨rfl, kk, vv, hk, rfl⟩ := hy
      obtain ⟨w, hw, rfl⟩ : ∃ w : Str × Str, w ∈ ws ∧ kk = Sum.inr w.1 := by
        have hm := List.mem_of_getElem? hk
        obtain ⟨w, hw, e⟩ := List.mem_map.mp hm
        cases e
        exact ⟨w, hw, rfl⟩
      walk_at "rd"
      refine ⟨rfl, ?_⟩
      walk_at "rd"
      refine r_isi (b := true) (.ty "str") (.base (.str _)) (kit_ty (by decide +kernel)) ⟨Ex.refl _, ?_⟩
      rw [hs, List.replicate_succ', List.map_append]
      rfl
    subst hs
    walk_at "rd"
    refine r_all (SqL.of hD) ?_
    rw [show ((List.replicate (wkv ws).length true).all id) = true by simp]
    walk_at "rd"
    refine r_sortF (wi.up e1) (by omega) fun ys sl H2 pm so n2 e2 h2 => ?_
    have e12 := e1.trans e2
    refine ⟨sl, rfl, ⟨_, SqL.of h2⟩, ?_⟩
    refine for_it (walk_list (K := K) (a := sl)) (fun i σ' H' => Ex H2 H' ∧ ∃ o2 : Option V, σ' = [some (.ref p), some (.ref d), o2])
      ⟨Ex.refl _, _, rfl⟩ (fun i σ' H' _ q => SqL.of (q.1 _ _ h2)) ?_ fun σ' H' q => ?_
    · rintro i x σ' H' H'' hi ⟨ex, o2, rfl⟩ ⟨rfl, hx⟩
      obtain ⟨s0, hs, rfl⟩ : ∃ z, ys[i]? = some z ∧ x = .str z := by
        rw [List.getElem?_map] at hx
        cases e : ys[i]? with
        | none => rw [e] at hx; cases hx
        | some z => rw [e] at hx; exact ⟨z, rfl, (Option.some.inj hx).symm⟩
      obtain ⟨w, hw, rfl, we⟩ := wish_in (pm.mem_iff.mp (List.mem_of_getElem? hs))
      have sw := wok.sy w hw
      have s12 := isWord_len sw
      have nw := names_word st (wok.nm w hw)
      have n12 := isWord_len nw
      have ee := e12.trans ex
      walk_at "rd"
      refine w_call (.inl ⟨_, rfl, by omega⟩) fun H3 e3 => ?_
      rw [show isWordV (.str w.1) = true from sw]
      walk_at "rd"
      refine ⟨d, _, rfl, dgetF (wi.up (ee.trans e3)) we, ?_⟩
      walk_at "rd"
      refine in_call (st.up (ee.trans e3)) (.inl ⟨w.2, rfl, by omega⟩) fun H4 e4 => ?_
      rw [in_yes nw (wok.nm w hw)]
      refine r_bl ?_
      refine r_iteF rfl ?_
      walk_at "rd"
      exact ⟨ex.trans (e3.trans e4), _, rfl⟩
    obtain ⟨ex, o2, rfl⟩ := q
    exact k _ (e12.trans ex)
/-- what a library defines that another one of some is wished for: symbol and name -/
def aheadW (ws : List (Str × Str)) (zs : List Str) (nm : Str) (s : Str) : Option (Str × Str) := match wish ws s with
  | some n => if n ≠ nm ∧ n ∈ zs then some (s, n) else none
  | none => none
def ahead (ls : List Lb) (ws : List (Str × Str)) (zs : List Str) (nm : Str) : List (Str × Str) := (dfOf ls nm).filterMap (aheadW ws zs nm)
/-- pairs of texts as tuples -/
def TupsAt (H : Hp) (ts : List V) (qs : List (Str × Str)) : Prop := ts.length = qs.length ∧ ∀ (j : Nat) t q, ts[j]? = some t → qs[j]? = some q → ∃ a, t = .ref a ∧ H a = some (.tup [.str q.1, .str q.2])
theorem TupsAt.up {H H' : Hp} {ts : List V} {qs : List (Str × Str)} (e : Ex H H') (h : TupsAt H ts qs) : TupsAt H' ts qs := ⟨h.1, fun j t q a b => by
  obtain ⟨x, h1, h2⟩ := h.2 j t q a b
  exact ⟨x, h1, e _ _ h2⟩⟩
theorem TupsAt.app {H : Hp} {ts : List V} {qs : List (Str × Str)} {a : Addr} {q : Str × Str} (h : TupsAt H ts qs) (ha : H a = some (.tup [.str q.1, .str q.2])) : TupsAt H (ts ++ [.ref a]) (qs ++ [q]) := by
  refine ⟨by simp [h.1], fun j t r x y => ?_⟩
  rw [List.getElem?_append] at x y
  rw [← h.1] at y
  split at x
  · rename_i hl
    rw [if_pos hl] at y
    exact h.2 j t r x y
  · rename_i hl
    rw [if_neg hl] at y
    have e : j - ts.length = 0 := by
      have := (List.getElem?_eq_some_iff.mp x).1
      simp at this
      omega
    rw [e] at x y
    cases x; cases y
    exact ⟨a, rfl, ha⟩
def sp_ahead_of (K : PySem.W.Frag) (A : Adr) : Sp := fun vs H Q _ => ∃ (p d f : Addr) (l : Lb) (ls : List Lb) (ws : List (Str × Str)) (zs : List Str), vs = [.ref p, .ref d, .ref f, .str l.nm] ∧ StV K A H p ls ∧ WiAt H d ws ∧ SqL K H f (zs.map V.str) ∧ l ∈ ls ∧
  ∀ g ts H', H g = none → Ex H H' → H' g = some (.lst ts) → TupsAt H' ts (ahead ls ws zs l.nm) → Q (.ref g) H'
theorem ok_ahead_of (T : Txt K mg A) : FnOk P w K mg base CX0 5 A.f_ahead_of A.d_ahead_of P_ahead_of (sp_ahead_of K A) := by
  refine T.F_ahead_of.ok sc_ahead_of (fun vs H Q E h => ?_) (fun cdv Ar outer s H vs Q E hr h => ?_)
  · obtain ⟨p, d, f, l, ls, ws, zs, rfl, _⟩ := h; rfl
  · have hu := hu_of hr
    refine ⟨_, (pss_cons (ps_set (i := 4) sc_ahead_of.nd rfl (Or.inl rfl) (pe_lstM pa_nil))
        (pss_cons (ps_for PassesOwn.never rfl (k_pit K rfl (k_fld K rfl (pe_subO T.du_Store_getitem T.fi_Store_getitem (ok_Store___getitem__ T) (hr.mono (by decide)) T.bi_Store___getitem__ passL (pv 0) (pv 3)))) (pg_name (i := 5) sc_ahead_of.nd rfl (Or.inl rfl))
          (pss_cons (ps_set (i := 6) sc_ahead_of.nd rfl (Or.inl rfl) (pe_dget1 hu (pv 1) (pv 5) ⟨by rfl, by rfl, by rfl, by rfl⟩))
        (pss_one (ps_if (PW.pt (pw_and (pt_cmpR op_notN (pv 6) pe_non (nomark _)) (pw_and (pt_cmpR op_ne (pv 6) (pv 3) (nomark _)) (pw_and1 (pt_cmpR (k_in K rfl) (pv 6) (pv 2) (by rfl))))))
          (pss_one (ps_expr (pe_bm PySem.F.plainAttrs_list PySem.F.slot_list_append PySem.F.type_list_append mt_append (pv 4) (pa_cons (pe_tupM (pa_cons (pv 5) (pa_cons (pv 6) pa_nil))) pa_nil))))
          pss_nil))))
        (pss_one (ps_ret (pv 4))))), ?_⟩
    obtain ⟨p, d, f, l, ls, ws, zs, rfl, st, wi, hf, hl, k⟩ := h
    have ok := st.ok hl
    have w12 := isWord_len ok.nm
    walk_at "rd"
    refine ⟨by simp, fun g H1 ng e1 hg => ?_⟩
    walk_at "rd"
    refine get_call st e1 (.inl ⟨_, rfl, by omega⟩) (fun l' v H2 hl' he e2 lv => ?_) fun no => ?_
    rotate_left
    · rw [in_yes ok.nm (mem_names hl)] at no; cases no
    obtain rfl : l' = l := st.uniq hl' hl (V.str.inj he).symm
    obtain ⟨a, dx, t1, t2, t3, t4, rfl, g0, g1, g2, g3, g4⟩ := lv
    have e12 := e1.trans e2
    walk_at "rd"
    refine r_fldE (e12 _ _ g0) T.cl_Library T.na_Library_defines 2 (by decide +kernel) rfl ?_
    walk_at "rd"
    refine ⟨t2, rfl, ⟨_, ex_t e12 g2⟩, ?_⟩
    have dl := ok.dl
    have hg2 := e2 _ _ hg
    refine for_it (walk_tup (K := K) (a := t2) (xs := l'.df.map V.str)) (fun i σ' H' => Ex H H' ∧ (∃ ts, H' g = some (.lst ts) ∧ TupsAt (fr [g] H') ts ((l'.df.take i).filterMap (aheadW ws zs l'.nm))) ∧ ∃ o5 o6 : Option V, σ' = [some (.ref p), some (.ref d), some (.ref f), some (.str l'.nm), some (.ref g), o5, o6])
      ⟨e12, ⟨[], hg2, rfl, fun j t q h => by simp at h⟩, _, _, rfl⟩ (fun i σ' H' _ q => ex_t q.1 g2) ?_ fun σ' H' q => ?_
    · rintro i x σ' H' H'' hi ⟨ex, ⟨ts, hgt, ta⟩, o5, o6, rfl⟩ ⟨rfl, hx⟩
      obtain ⟨s0, hs, rfl⟩ : ∃ z, l'.df[i]? = some z ∧ x = .str z := by
        rw [List.getElem?_map] at hx
        cases e : l'.df[i]? with
        | none => rw [e] at hx; cases hx
        | some z => rw [e] at hx; exact ⟨z, rfl, (Option.some.inj hx).symm⟩
      have tk : l'.df.take (i + 1) = l'.df.take i ++ [s0] := by rw [List.take_add_one, hs]; rfl
      have i20 : i < 20 := by rw [List.length_map] at hi; omega
      have tl : ts.length ≤ 20 := by
        have := ta.1
        have h2 := List.length_filterMap_le (aheadW ws zs l'.nm) (l'.df.take i)
        rw [List.length_take] at h2
        omega
      have no : aheadW ws zs l'.nm s0 = none → (l'.df.take (i + 1)).filterMap (aheadW ws zs l'.nm) = (l'.df.take i).filterMap (aheadW ws zs l'.nm) := fun h => by
        rw [tk, List.filterMap_append]
        simp [h]
      walk_at "rd"
      unfold tDGet1
      walk_at "rd"
      refine ⟨d, rfl, .inl ⟨_, .inr (wi.up ex)⟩, ?_⟩
      walk_at "rd"
      cases hw : wish ws s0 with
      | none =>
        have g0 := dgetF0 s0 (wi.up ex)
        rw [hw] at g0
        refine ⟨none, g0, ?_⟩
        simp only [Option.getD_none]
        walk_at "rd"
        refine ⟨rfl, ?_⟩
        refine r_bl ?_
        refine r_iteF (by rfl) ?_
        walk_at "rd"
        exact ⟨ex, ⟨ts, hgt, by rw [no (by unfold aheadW; rw [hw])]; exact ta⟩, _, _, rfl⟩
      | some n =>
        refine ⟨some (.str n), dgetF (wi.up ex) hw, ?_⟩
        simp only [Option.getD_some]
        walk_at "rd"
        refine ⟨rfl, ?_⟩
        refine r_bl ?_
        refine r_iteT (by simp) ?_
        walk_at "rd"
        refine r_ne rfl ?_
        by_cases h1 : n = l'.nm
        · rw [decide_eq_true (show V.str n = V.str l'.nm by rw [h1])]
          walk_at "rd"
          exact ⟨ex, ⟨ts, hgt, by rw [no (by unfold aheadW; rw [hw]; simp [h1])]; exact ta⟩, _, _, rfl⟩
        · rw [decide_eq_false (show ¬ V.str n = V.str l'.nm from fun z => h1 (V.str.inj z))]
          walk_at "rd"
          refine r_inL (ex_l ex hf) rfl (flat_str zs) ?_
          rw [inV_str]
          by_cases h2 : n ∈ zs
          · rw [decide_eq_true h2]
            walk_at "rd"
            refine ⟨tyL (SqL.of hgt), ?_⟩
            walk_at "rd"
            refine ⟨by simp, fun tt H3 n3 e3 h3 => ?_⟩
            walk_at "rd"
            refine r_app (e3 _ _ hgt) (by omega) fun H4 h4 s4 => ?_
            have tg : tt ≠ g := fun z => by rw [z, hgt] at n3; cases n3
            have eF : Ex (fr [g] H'') (fr [g] H4) := fun b oo hb => by
              have hbg : b ∉ [g] := fun hm => by rw [fr_no hm] at hb; cases hb
              exact fr_at (s4 _ _ (by simpa using hbg) (e3 _ _ (fr_ex _ _ hb))) hbg
            refine ⟨Ex.sm (ex.trans e3) ng s4, ⟨_, h4, ?_⟩, _, _, rfl⟩
            have : (l'.df.take (i + 1)).filterMap (aheadW ws zs l'.nm) = (l'.df.take i).filterMap (aheadW ws zs l'.nm) ++ [(s0, n)] := by
              rw [tk, List.filterMap_append]
              simp [aheadW, hw, h1, h2]
            rw [this]
            exact (ta.up eF).app (fr_at (s4 _ _ tg h3) (by simpa using tg))
          · rw [decide_eq_false h2]
            walk_at "rd"
            exact ⟨ex, ⟨ts, hgt, by rw [no (by unfold aheadW; rw [hw]; simp [h2])]; exact ta⟩, _, _, rfl⟩
    obtain ⟨ex, ⟨ts, hgt, ta⟩, o5, o6, rfl⟩ := q
    rw [List.take_of_length_le (by rw [List.length_map]; exact Nat.le_refl _)] at ta
    walk_at "rd"
    refine k g ts H' (ex_none (Ex.refl _) ng) ex hgt (TupsAt.up (H := fr [g] H') fr_ex ?_)
    unfold ahead
    rw [dfOf_eq st hl]
    exact ta
def addN (fs : List Str) (n : Str) : List Str := if n ∈ fs then fs else fs ++ [n]
/-- those whose wish the global scope does not meet, in order -/
def req0 (ls : List Lb) (ev : List Str) (ws : List (Str × Str)) : List Str := ws.foldl (fun fs w => if fstV ls ev w.1 = .str w.2 then fs else addN fs w.2) []
/-- the wished ones but main -/
def oth (m : Str) (ws : List (Str × Str)) : List Str := (ws.map (·.2)).filter fun z => decide (z ≠ m)
def reqS (ls : List Lb) (ws : List (Str × Str)) (ot : List Str) (fs : List Str) (z : Str) : List Str := (ahead ls ws ot z).foldl (fun fs q => addN fs q.2) fs
def reqF (ls : List Lb) (ws : List (Str × Str)) (ot : List Str) : Nat → List Str → Nat → List Str
  | 0, fs, _ => fs
  | n + 1, fs, i => match fs[i]? with
    | none => fs
    | some z => reqF ls ws ot n (reqS ls ws ot fs z) (i + 1)
/-- the required ones, not sorted yet -/
def reqs (ls : List Lb) (ev : List Str) (m : Str) (ws : List (Str × Str)) : List Str := reqF ls ws (oth m ws) 41 (req0 ls ev ws) 0
theorem addN_ok {ls : List Lb} {fs : List Str} {n : Str} (h : CloI ls fs) (hn : n ∈ names ls) : CloI ls (addN fs n) := by
  unfold addN
  split
  · exact h
  · rename_i q
    refine ⟨List.nodup_append.mpr ⟨h.nd, by simp, fun a ha b hb e => by rw [List.mem_singleton.mp hb] at e; exact q (e ▸ ha)⟩, fun z hz => ?_⟩
    rcases List.mem_append.mp hz with hz | hz
    · exact h.sub z hz
    · rw [List.mem_singleton.mp hz]; exact hn
theorem ahead_mem {ls : List Lb} {ws : List (Str × Str)} {zs : List Str} {nm : Str} {q : Str × Str} (h : q ∈ ahead ls ws zs nm) : q.2 ∈ zs ∧ wish ws q.1 = some q.2 ∧ q.2 ≠ nm ∧ q.1 ∈ dfOf ls nm := by
  obtain ⟨s, hs, e⟩ := List.mem_filterMap.mp h
  unfold aheadW at e
  cases hw : wish ws s with
  | none => rw [hw] at e; cases e
  | some n =>
    rw [hw] at e
    simp only at e
    split at e
    · rename_i c
      cases e
      exact ⟨c.2, hw, c.1, hs⟩
    · cases e
theorem oth_mem {ls : List Lb} {ws : List (Str × Str)} {m z : Str} (h : z ∈ oth m ws) (ok : WOk ls ws) : z ∈ names ls := by
  obtain ⟨w, hw, rfl⟩ := List.mem_map.mp (List.mem_filter.mp h).1
  exact ok.nm w hw
theorem foldl_snoc {α β : Type} (f : β → α → β) (b : β) (xs : List α) (x : α) : (xs ++ [x]).foldl f b = f (xs.foldl f b) x := by rw [List.foldl_append]; rfl
def sp_required (K : PySem.W.Frag) (A : Adr) : Sp := fun vs H Q _ => ∃ (p f d : Addr) (ls : List Lb) (ev : List Str) (m : Str) (ws : List (Str × Str)), vs = [.ref p, .ref f, .ref d] ∧ StV K A H p ls ∧ SqL K H f (ev.map V.str) ∧ ev[0]? = some m ∧ ev.length ≤ 1000 ∧ (∀ z ∈ ev, z ∈ names ls) ∧ WiAt H d ws ∧ WOk ls ws ∧
  ∀ g ys H', ys.Perm (reqs ls ev m ws) → PyProof.Rows.sortedS ys = true → CloI ls ys → H g = none → Ex H H' → H' g = some (.lst (ys.map V.str)) → Q (.ref g) H'
theorem ok_required (T : Txt K mg A) : FnOk P w K mg base CX0 7 A.f_required A.d_required P_required (sp_required K A) := by
  refine T.F_required.ok sc_required (fun vs H Q E h => ?_) (fun cdv Ar outer s H vs Q E hr h => ?_)
  · obtain ⟨p, f, d, ls, ev, m, ws, rfl, _⟩ := h; rfl
  · have hu := hu_of hr
    refine ⟨_, (pss_cons (ps_set (i := 3) sc_required.nd rfl (Or.inl rfl) (pe_lstM pa_nil))
        (pss_cons (ps_for PassesOwn.never rfl (pi_items (pv 2)) (k_gtup K rfl (by rfl) (pgs_cons (pg_name (i := 4) sc_required.nd rfl (Or.inl rfl)) (pgs_cons (pg_name (i := 5) sc_required.nd rfl (Or.inl rfl)) pgs_nil)))
          (pss_one (ps_if (PW.pt (pw_and (pt_cmpR op_ne (pe_call (ok_first_definer T) (hr.mono (by decide)) (by rfl) T.g_first_definer T.k_first_definer T.bi_first_definer .nil pass0 (pa_cons (pv 0) (pa_cons (pv 1) (pa_cons (pv 4) pa_nil)))) (pv 5) (nomark _)) (pw_and1 (pt_cmpR (k_notIn K rfl) (pv 5) (pv 3) (by rfl)))))
          (pss_one (ps_expr (pe_bm PySem.F.plainAttrs_list PySem.F.slot_list_append PySem.F.type_list_append mt_append (pv 3) (pa_cons (pv 5) pa_nil))))
          pss_nil)))
        (pss_cons (ps_setLcM (i := 6) (own := [("name", 5)]) rfl sc_required.nd rfl rfl (sw_true rfl rfl rfl (by decide +kernel)) (pi_values (pv 2)) (blkOk_by (N := N_required) (sc := defScope s_required) (by decide +kernel)) (fun _ _ _ _ _ => (pg_name (i := 5) sc_required.nd rfl (Or.inl rfl))) (fun _ _ _ _ _ => (pts_one (pt_cmpR op_ne (pv 5) (pe_ix (k_ixL K rfl) (pv 1) pe_int (fun _ _ => rfl)) (nomark _)))) (fun _ _ _ _ _ => (pv 5)))
        (pss_cons (ps_set (i := 7) sc_required.nd rfl (Or.inl rfl) pe_int)
        (pss_cons (ps_while PassesOwn.never (pt_cmpR op_lt (pv 7) (pe_callB (k_len K rfl) (by rfl) T.b_len PySem.boot_len (pa_cons (pv 3) pa_nil)) (nomark _))
          (pss_cons (ps_for PassesOwn.never rfl (k_pil K rfl (pe_call (ok_ahead_of T) (hr.mono (by decide)) (by rfl) T.g_ahead_of T.k_ahead_of T.bi_ahead_of .nil pass0 (pa_cons (pv 0) (pa_cons (pv 2) (pa_cons (pv 6) (pa_cons (pe_ix (k_ixL K rfl) (pv 3) (pv 7) (fun _ _ => rfl)) pa_nil)))))) (k_gtup K rfl (by rfl) (pgs_cons (pg_name (i := 4) sc_required.nd rfl (Or.inl rfl)) (pgs_cons (pg_name (i := 5) sc_required.nd rfl (Or.inl rfl)) pgs_nil)))
          (pss_one (ps_if (pt_cmpR (k_notIn K rfl) (pv 5) (pv 3) (by rfl))
          (pss_one (ps_expr (pe_bm PySem.F.plainAttrs_list PySem.F.slot_list_append PySem.F.type_list_append mt_append (pv 3) (pa_cons (pv 5) pa_nil))))
          pss_nil)))
        (pss_one (ps_aug (i := 7) sc_required.nd rfl (Or.inl rfl) pe_int ip_add))))
        (pss_one (ps_ret (pe_callB (k_sortedS K rfl) (by rfl) T.b_sorted (by decide +kernel) (pa_cons (pv 3) pa_nil))))))))), ?_⟩
    obtain ⟨p, f, d, ls, ev, m, ws, rfl, st, hf, hm, lev, mev, wi, wok, k⟩ := h
    obtain ⟨o, hd⟩ := id wi
    have w60 := wok.len
    have lk : (wkv ws).length = ws.length := by unfold wkv; rw [List.length_map]
    walk_at "rd"
    refine ⟨by simp, fun g H1 ng e1 hg => ?_⟩
    walk_at "rd"
    refine ⟨.ref d, rfl, d, o, _, rfl, e1 _ _ hd, ?_⟩
    refine for_it (walk_items (kvs := wkv ws)) (fun i σ' H' => Ex H H' ∧ (∃ fs, fs = (ws.take i).foldl (fun fs w => if fstV ls ev w.1 = .str w.2 then fs else addN fs w.2) [] ∧ CloI ls fs ∧ H' g = some (.lst (fs.map V.str))) ∧ ∃ o4 o5 o6 o7 : Option V, σ' = [some (.ref p), some (.ref f), some (.ref d), some (.ref g), o4, o5, o6, o7])
      ⟨e1, ⟨[], rfl, ⟨List.nodup_nil, fun z hz => nomatch hz⟩, hg⟩, _, _, _, _, rfl⟩ (fun i σ' H' _ q => q.1 _ _ hd) ?_ fun σ' H' q => ?_
    · rintro i x σ' H' H'' hi ⟨ex, ⟨fs, hfs, ci, hgf⟩, o4, o5, o6, o7, rfl⟩ ⟨tt, y1, y2, rfl, ht, rfl, q1, q2⟩
      obtain ⟨w, hw⟩ : ∃ w, ws[i]? = some w := ⟨ws[i]'(by rw [← lk]; exact hi), by simp⟩
      have hk : (wkv ws)[i]? = some (Sum.inr w.1, V.str w.2) := by unfold wkv; rw [List.getElem?_map, hw]; rfl
      replace q1 : ((wkv ws)[i]?.map fun kv => kV kv.1) = some y1 := q1
      replace q2 : ((wkv ws)[i]?.map Prod.snd) = some y2 := q2
      rw [hk] at q1 q2
      cases q1; cases q2
      have wm := List.mem_of_getElem? hw
      have sw := wok.sy w wm
      have e45 : Ex H' (upd H' tt (.tup [kV (Sum.inr w.1), .str w.2])) := Ex.new ht
      have htt : SqT K (upd H' tt (.tup [kV (Sum.inr w.1), .str w.2])) tt [.str w.1, .str w.2] := st_of upd_same
      replace ex := ex.trans e45
      replace hgf := e45 _ _ hgf
      generalize upd H' tt (.tup [kV (Sum.inr w.1), .str w.2]) = H5 at *
      have tk : ws.take (i + 1) = ws.take i ++ [w] := by rw [List.take_add_one, hw]; rfl
      have lf := ci.len
      have l40 := st.nd.2
      refine r_gtupE htt rfl ?_
      walk_at "rd"
      refine ⟨p, f, w.1, ls, ev, rfl, st.up ex, ex_l ex hf, lev, mev, sw, fun H6 e6 => ?_⟩
      have sc : scal (fstV ls ev w.1) (.str w.2) = true := by
        unfold fstV
        split <;> rfl
      walk_at "rd"
      refine r_ne sc ?_
      have ex6 := ex.trans e6
      have hg6 := e6 _ _ hgf
      by_cases h1 : fstV ls ev w.1 = .str w.2
      · rw [decide_eq_true h1]
        walk_at "rd"
        exact ⟨ex6, ⟨fs, by rw [tk, foldl_snoc, if_pos h1, hfs], ci, hg6⟩, _, _, _, _, rfl⟩
      · rw [decide_eq_false h1]
        walk_at "rd"
        refine ⟨g, _, rfl, .inl (SqL.of hg6), rfl, flat_str fs, ?_⟩
        rw [inV_str]
        by_cases h2 : w.2 ∈ fs
        · refine r_bl ?_
          refine r_iteF (by simp [h2]) ?_
          walk_at "rd"
          exact ⟨ex6, ⟨fs, by rw [tk, foldl_snoc, if_neg h1, ← hfs]; unfold addN; rw [if_pos h2], ci, hg6⟩, _, _, _, _, rfl⟩
        · refine r_bl ?_
          refine r_iteT (by simp [h2]) ?_
          walk_at "rd"
          refine ⟨tyL (SqL.of hg6), ?_⟩
          walk_at "rd"
          refine r_app hg6 (by rw [List.length_map]; omega) fun H7 h7 s7 => ?_
          have an : addN fs w.2 = fs ++ [w.2] := by unfold addN; rw [if_neg h2]
          refine ⟨Ex.sm ex6 ng s7, ⟨addN fs w.2, by rw [tk, foldl_snoc, if_neg h1, ← hfs], addN_ok ci (wok.nm w wm), by rw [an, h7, List.map_append]; rfl⟩, _, _, _, _, rfl⟩
    obtain ⟨ex, ⟨fs, hfs, ci, hgf⟩, o4, o5, o6, o7, rfl⟩ := q
    rw [lk, List.take_length] at hfs
    have hev : (ev.map V.str)[0]? = some (V.str m) := by rw [List.getElem?_map, hm]; rfl
    walk_at "rd"
    refine ⟨.ref d, rfl, d, o, _, rfl, ex _ _ hd, ?_⟩
    refine lc_val (walk_values (kvs := wkv ws)) (by rw [lk]; omega) (fun Hx exx => exx _ _ (ex _ _ hd)) (fun i ys => ys = (((ws.take i).map (·.2)).filter fun z => decide (z ≠ m)).map V.str) rfl (fun i ys x Hx Hy hi exx hs hy => ?_) fun D ys H3 nD e3 hs hD => ?_
    · obtain ⟨rfl, kk, hk⟩ := hy
      obtain ⟨w, hw⟩ : ∃ w, ws[i]? = some w := ⟨ws[i]'(by rw [← lk]; exact hi), by simp⟩
      have hk2 : (wkv ws)[i]? = some (Sum.inr w.1, V.str w.2) := by unfold wkv; rw [List.getElem?_map, hw]; rfl
      rw [hk2] at hk
      cases hk
      have tk : ws.take (i + 1) = ws.take i ++ [w] := by rw [List.take_add_one, hw]; rfl
      walk_at "rd"
      refine ⟨rfl, ?_⟩
      walk_at "rd"
      refine r_ixL (ex_l (ex.trans exx) hf) (atI_nat (j := 0) hev) ?_
      refine r_ne rfl ?_
      by_cases h1 : w.2 = m
      · refine r_bl ?_
        refine r_iteF (by simp [h1]) ⟨Ex.refl _, ?_⟩
        rw [hs, tk, List.map_append, List.filter_append]
        simp [h1]
      · refine r_bl ?_
        refine r_iteT (by simp [h1]) ?_
        walk_at "rd"
        refine ⟨Ex.refl _, ?_⟩
        rw [hs, tk, List.map_append, List.filter_append]
        simp [h1]
    rw [lk, List.take_length] at hs
    replace hs : ys = (oth m ws).map V.str := hs
    subst hs
    have gD : g ≠ D := fun z => by rw [z, nD] at hgf; cases hgf
    replace ex := ex.trans e3
    replace hgf := e3 _ _ hgf
    walk_at "rd"
    have l40 := st.nd.2
    have f0 : fs = req0 ls ev ws := hfs
    refine ⟨fun n σ' H' => ∃ (fs : List Str) (i : Nat) (o4 o5 : Option V), σ' = [some (.ref p), some (.ref f), some (.ref d), some (.ref g), o4, o5, some (.ref D), some (.int (i : Nat))] ∧ Ex H H' ∧ H' D = some (.lst ((oth m ws).map V.str)) ∧ H' g = some (.lst (fs.map V.str)) ∧ CloI ls fs ∧ i + n = 41 ∧ i ≤ fs.length ∧ reqs ls ev m ws = reqF ls ws (oth m ws) n fs i,
      ⟨41, fs, 0, _, _, rfl, ex, hD, hgf, ci, rfl, Nat.zero_le _, by unfold reqs; rw [f0]⟩, ?_⟩
    clear f0 hfs ci hgf hD ex fs
    rintro n σ' H4 ⟨fs, i, o4, o5, rfl, ex, hD, hgf, ci, im, il, ce⟩
    have lf := ci.len
    walk_at "rd"
    refine r_lenL (SqL.of hgf) ?_
    walk_at "rd"
    by_cases hi : i < fs.length
    · rw [decide_eq_true (show ((i : Nat) : Int) < ((fs.map V.str).length : Nat) by rw [List.length_map]; omega)]
      refine r_iteT rfl ?_
      obtain ⟨z, hz⟩ : ∃ z, fs[i]? = some z := ⟨fs[i], by simp [hi]⟩
      obtain ⟨l2, hf2, hl2, ez⟩ := find_nm (ci.sub z (List.mem_of_getElem? hz))
      cases n with
      | zero => exfalso; omega
      | succ n =>
      refine ⟨fun σ' H' => ∃ (fs : List Str) (i : Nat) (o4 o5 : Option V), σ' = [some (.ref p), some (.ref f), some (.ref d), some (.ref g), o4, o5, some (.ref D), some (.int (i : Nat))] ∧ Ex H H' ∧ H' D = some (.lst ((oth m ws).map V.str)) ∧ H' g = some (.lst (fs.map V.str)) ∧ CloI ls fs ∧ i + n = 41 ∧ i ≤ fs.length ∧ reqs ls ev m ws = reqF ls ws (oth m ws) n fs i, fun σ' H' q => ⟨n, Nat.lt_succ_self _, q⟩, ?_⟩
      walk_at "rd"
      refine r_ixL (SqL.of hgf) (atI_nat (v := V.str z) (by rw [List.getElem?_map, hz]; rfl)) ?_
      walk_at "rd"
      subst ez
      refine ⟨p, d, D, l2, ls, ws, oth m ws, rfl, st.up ex, wi.up ex, SqL.of hD, hl2, fun q ts H5 nq e5 hq ta => ?_⟩
      have qg : q ≠ g := fun e => by rw [e, hgf] at nq; cases nq
      have cs : reqF ls ws (oth m ws) (n + 1) fs i = reqF ls ws (oth m ws) n (reqS ls ws (oth m ws) fs l2.nm) (i + 1) := by
        conv => lhs; unfold reqF
        rw [hz]
      have Gg : fr [g] H5 g = none := fr_no (by simp)
      have Gq : fr [g] H5 q = some (.lst ts) := fr_at hq (by simpa using qg)
      have GD : fr [g] H5 D = some (.lst ((oth m ws).map V.str)) := fr_at (e5 _ _ hD) (by simpa using gD.symm)
      have hg5 := e5 _ _ hgf
      have taG : TupsAt (fr [g] H5) ts (ahead ls ws (oth m ws) l2.nm) := ⟨ta.1, fun j t r a b => by
        obtain ⟨x, h1, h2⟩ := ta.2 j t r a b
        exact ⟨x, h1, fr_at h2 (by intro hm; rw [List.mem_singleton.mp hm, hg5] at h2; cases h2)⟩⟩
      have HG : Ex H (fr [g] H5) := fr_up (ex.trans e5) fun b hb => by rw [List.mem_singleton.mp hb]; exact ng
      have GH : Ex (fr [g] H5) H5 := fr_ex
      generalize fr [g] H5 = G at Gg Gq GD taG HG GH
      refine ⟨q, rfl, ⟨_, SqL.of hq⟩, ?_⟩
      refine for_it (walk_list (K := K) (a := q) (xs := ts)) (fun j σ' H' => Ex G H' ∧ (∃ fs', fs' = ((ahead ls ws (oth m ws) l2.nm).take j).foldl (fun fs q => addN fs q.2) fs ∧ fs.length ≤ fs'.length ∧ CloI ls fs' ∧ H' g = some (.lst (fs'.map V.str))) ∧ ∃ o4 o5 : Option V, σ' = [some (.ref p), some (.ref f), some (.ref d), some (.ref g), o4, o5, some (.ref D), some (.int (i : Nat))])
        ⟨GH, ⟨fs, rfl, Nat.le_refl _, ci, hg5⟩, _, _, rfl⟩ (fun j σ' H' _ q => SqL.of (q.1 _ _ Gq)) ?_ fun σ' H' q => ?_
      · rintro j x σ' H' H'' hj ⟨exG, ⟨fs', hfs, lfs, ci', hg'⟩, o4, o5, rfl⟩ ⟨rfl, hx⟩
        obtain ⟨w, hw⟩ : ∃ w, (ahead ls ws (oth m ws) l2.nm)[j]? = some w := ⟨(ahead ls ws (oth m ws) l2.nm)[j]'(by rw [← taG.1]; exact hj), by simp⟩
        obtain ⟨ta', rfl, hta⟩ := taG.2 j x w hx hw
        have tk : (ahead ls ws (oth m ws) l2.nm).take (j + 1) = (ahead ls ws (oth m ws) l2.nm).take j ++ [w] := by rw [List.take_add_one, hw]; rfl
        have wn := oth_mem (ahead_mem (List.mem_of_getElem? hw)).1 wok
        have lf' := ci'.len
        refine r_gtupE (st_of (exG _ _ hta)) rfl ?_
        walk_at "rd"
        refine ⟨g, _, rfl, .inl (SqL.of hg'), rfl, flat_str fs', ?_⟩
        rw [inV_str]
        by_cases h2 : w.2 ∈ fs'
        · refine r_bl ?_
          refine r_iteF (by simp [h2]) ?_
          walk_at "rd"
          exact ⟨exG, ⟨fs', by rw [tk, foldl_snoc, ← hfs]; unfold addN; rw [if_pos h2], lfs, ci', hg'⟩, _, _, rfl⟩
        · refine r_bl ?_
          refine r_iteT (by simp [h2]) ?_
          walk_at "rd"
          refine ⟨tyL (SqL.of hg'), ?_⟩
          walk_at "rd"
          refine r_app hg' (by rw [List.length_map]; omega) fun H7 h7 s7 => ?_
          have an : addN fs' w.2 = fs' ++ [w.2] := by unfold addN; rw [if_neg h2]
          exact ⟨Ex.sm exG Gg s7, ⟨addN fs' w.2, by rw [tk, foldl_snoc, ← hfs], by rw [an, List.length_append]; omega, addN_ok ci' wn, by rw [an, h7, List.map_append]; rfl⟩, _, _, rfl⟩
      obtain ⟨exG, ⟨fs', hfs, lfs, ci', hg'⟩, o4, o5, rfl⟩ := q
      rw [taG.1, List.take_length] at hfs
      refine ⟨_, rfl, ?_⟩
      walk_at "rd"
      refine ⟨_, _, rfl, rfl, fs', i + 1, o4, o5, ?_, HG.trans exG, exG _ _ GD, hg', ci', by omega, by omega, by rw [ce, cs, hfs]; rfl⟩
      show _ = [_, _, _, _, _, _, _, some (V.int ((i + 1 : Nat) : Int))]
      rw [Int.natCast_add]
      rfl
    · rw [decide_eq_false (show ¬ ((i : Nat) : Int) < ((fs.map V.str).length : Nat) by rw [List.length_map]; omega)]
      refine r_iteF rfl ?_
      have cn : reqF ls ws (oth m ws) n fs i = fs := by
        cases n with
        | zero => rfl
        | succ n =>
          have : fs[i]? = none := List.getElem?_eq_none (by omega)
          unfold reqF
          rw [this]
      rw [cn] at ce
      walk_at "rd"
      refine r_sortS (SqL.of hgf) (by omega) fun ys gg H5 pm so n5 e5 h5 => ?_
      exact k gg ys H5 (by rw [ce]; exact pm) so ⟨pm.nodup_iff.mpr ci.nd, fun z hz => ci.sub z (pm.mem_iff.mp hz)⟩ (ex_none ex n5) (ex.trans e5) h5
/-- the walk from library to library till one comes again: names and symbols -/
def ringF (ls : List Lb) (ws : List (Str × Str)) (zs : List Str) : Nat → List Str → List Str → List Str × List Str
  | 0, wk, sy => (wk, sy)
  | n + 1, wk, sy => if wk.Nodup then (match wk.getLast? with
    | none => (wk, sy)
    | some z => match ahead ls ws zs z with
      | [] => (wk, sy)
      | q :: _ => ringF ls ws zs n (wk ++ [q.2]) (sy ++ [q.1])) else (wk, sy)
def ringW (ls : List Lb) (ws : List (Str × Str)) (zs : List Str) : List Str × List Str := ringF ls ws zs 42 (zs.take 1) []
theorem idx_first : ∀ (wk : List Str) (z : Str), z ∈ wk → wk[wk.idxOf z]? = some z ∧ ∀ (m : Nat) (y : Str), m < wk.idxOf z → wk[m]? = some y → y ≠ z
  | [], _, h => nomatch h
  | x :: r, z, h => by
    by_cases e : x = z
    · subst e
      simp
    · have hz : z ∈ r := by
        rcases List.mem_cons.mp h with h | h
        · exact absurd h.symm e
        · exact h
      obtain ⟨a, b⟩ := idx_first r z hz
      have ix : (x :: r).idxOf z = r.idxOf z + 1 := by simp [List.idxOf_cons, beq_eq_false_iff_ne.mpr e]
      rw [ix]
      refine ⟨by simpa using a, fun m y hm hy => ?_⟩
      cases m with
      | zero => cases hy; exact e
      | succ m => exact b m y (by omega) (by simpa using hy)
theorem at_last {xs : List V} {x : V} (h : xs.getLast? = some x) : atI xs (-1) = some x := by
  have hn : xs ≠ [] := fun e => by rw [e] at h; cases h
  have hl : 0 < xs.length := List.length_pos_iff.mpr hn
  rw [List.getLast?_eq_getElem?] at h
  unfold atI ixN
  rw [if_neg (by decide), if_pos (by omega)]
  show xs[(-1 + (xs.length : Int)).toNat]? = some x
  rw [show (-1 + (xs.length : Int)).toNat = xs.length - 1 by omega]
  exact h
theorem TupsAt.rev {H : Hp} {ts : List V} {qs : List (Str × Str)} (h : TupsAt H ts qs) : TupsAt H ts.reverse qs.reverse := by
  refine ⟨by rw [List.length_reverse, List.length_reverse]; exact h.1, fun j t q a b => ?_⟩
  have hj : j < ts.length := by
    obtain ⟨hh, _⟩ := List.getElem?_eq_some_iff.mp a
    rwa [List.length_reverse] at hh
  rw [List.getElem?_reverse hj] at a
  rw [List.getElem?_reverse (by rw [← h.1]; exact hj), ← h.1] at b
  exact h.2 _ t q a b
/-- the pairs of the ring -/
def ringP (ls : List Lb) (ws : List (Str × Str)) (zs : List Str) : List (Str × Str) :=
  let r := ringW ls ws zs
  let i := r.1.idxOf (r.1.getLast?.getD "")
  (((r.1.drop (i + 1)).zip (r.2.drop i))).reverse
def sp_ring_among (K : PySem.W.Frag) (A : Adr) : Sp := fun vs H Q _ => ∃ (p d f : Addr) (ls : List Lb) (ws : List (Str × Str)) (zs : List Str), vs = [.ref p, .ref d, .ref f] ∧ StV K A H p ls ∧ WiAt H d ws ∧ WOk ls ws ∧ SqL K H f (zs.map V.str) ∧ zs ≠ [] ∧ CloI ls zs ∧ (∀ z ∈ zs, ahead ls ws zs z ≠ []) ∧
  ∀ g ts H', H g = none → Ex H H' → H' g = some (.lst ts) → TupsAt H' ts (ringP ls ws zs) → Q (.ref g) H'
theorem ok_ring_among (T : Txt K mg A) : FnOk P w K mg base CX0 6 A.f_ring_among A.d_ring_among P_ring_among (sp_ring_among K A) := by
  refine T.F_ring_among.ok sc_ring_among (fun vs H Q E h => ?_) (fun cdv Ar outer s H vs Q E hr h => ?_)
  · obtain ⟨p, d, f, ls, ws, zs, rfl, _⟩ := h; rfl
  · have hu := hu_of hr
    refine ⟨_, (pss_cons (ps_asg (pe_tupM (pa_cons (pe_lstM (pa_cons (pe_ix (k_ixL K rfl) (pv 2) pe_int (fun _ _ => rfl)) pa_nil)) (pa_cons (pe_lstM pa_nil) pa_nil))) (k_gtup K rfl (by rfl) (pgs_cons (pg_name (i := 3) sc_ring_among.nd rfl (Or.inr rfl)) (pgs_cons (pg_name (i := 4) sc_ring_among.nd rfl (Or.inr rfl)) pgs_nil))))
        (pss_cons (ps_while PassesOwn.never (pt_cmpR op_eq (k_lenSetL K rfl rfl (by rfl) T.b_len (by rfl) T.b_set (pv 3)) (pe_callB (k_len K rfl) (by rfl) T.b_len PySem.boot_len (pa_cons (pv 3) pa_nil)) (nomark _))
          (pss_cons (ps_asg (pe_ix (k_ixL K rfl) (pe_call (ok_ahead_of T) (hr.mono (by decide)) (by rfl) T.g_ahead_of T.k_ahead_of T.bi_ahead_of .nil pass0 (pa_cons (pv 0) (pa_cons (pv 1) (pa_cons (pv 2) (pa_cons (pe_ix (k_ixL K rfl) (pv 3) (pe_un un_neg pe_int) (fun _ _ => rfl)) pa_nil))))) pe_int (fun _ _ => rfl)) (k_gtup K rfl (by rfl) (pgs_cons (pg_name (i := 5) sc_ring_among.nd rfl (Or.inl rfl)) (pgs_cons (pg_name (i := 6) sc_ring_among.nd rfl (Or.inl rfl)) pgs_nil))))
        (pss_cons (ps_expr (pe_bm PySem.F.plainAttrs_list PySem.F.slot_list_append PySem.F.type_list_append mt_append (pv 4) (pa_cons (pv 5) pa_nil)))
        (pss_one (ps_expr (pe_bm PySem.F.plainAttrs_list PySem.F.slot_list_append PySem.F.type_list_append mt_append (pv 3) (pa_cons (pv 6) pa_nil)))))))
        (pss_cons (ps_set (i := 7) sc_ring_among.nd rfl (Or.inl rfl) (pe_bm PySem.F.plainAttrs_list PySem.F.slot_list_index PySem.F.type_list_index mt_index (pv 3) (pa_cons (pe_ix (k_ixL K rfl) (pv 3) (pe_un un_neg pe_int) (fun _ _ => rfl)) pa_nil)))
        (pss_cons (ps_setLcM (i := 8) (own := [("place", 9)]) (tt := tYes) rfl sc_ring_among.nd rfl rfl (sw_true rfl rfl rfl (by decide +kernel)) (pi_range2 (by rfl) T.b_range (pa_cons (pv 7) (pa_cons (pe_callB (k_len K rfl) (by rfl) T.b_len PySem.boot_len (pa_cons (pv 4) pa_nil)) pa_nil))) (blkOk_by (N := N_ring_among) (sc := defScope s_ring_among) (by decide +kernel)) (fun _ _ _ _ _ => (pg_name (i := 9) sc_ring_among.nd rfl (Or.inl rfl))) (fun _ _ _ _ _ => pts_nil) (fun _ _ _ _ _ => (pe_tupM (pa_cons (pe_ix (k_ixL K rfl) (pv 3) (pe_op op_add (pv 9) pe_int) (fun _ _ => rfl)) (pa_cons (pe_ix (k_ixL K rfl) (pv 4) (pv 9) (fun _ _ => rfl)) pa_nil)))))
        (pss_one (ps_ret (pe_stepL (K := K) rfl (pv 8) (pe_un un_neg pe_int)))))))), ?_⟩
    obtain ⟨p, d, f, ls, ws, zs, rfl, st, wi, wok, hf, zn, ci, hz, k⟩ := h
    obtain ⟨z0, zr, rfl⟩ : ∃ z r, zs = z :: r := by
      cases zs with
      | nil => exact absurd rfl zn
      | cons z r => exact ⟨z, r, rfl⟩
    have l40 := st.nd.2
    have lz := ci.len
    walk_at "rd"
    refine r_ixL hf (atI_nat (j := 0) rfl) ?_
    walk_at "rd"
    refine ⟨by simp, fun wa H1 nw1 e1 hw1 => ?_⟩
    walk_at "rd"
    refine ⟨by simp, fun sa H2 ns2 e2 hs2 => ?_⟩
    walk_at "rd"
    refine ⟨by simp, fun tt H3 n3 e3 h3 => ?_⟩
    refine r_gtupE (st_of h3) rfl ?_
    walk_at "rd"
    have was : wa ≠ sa := fun z => by rw [← z, hw1] at ns2; cases ns2
    refine ⟨fun n σ' H' => ∃ (wk sy : List Str) (o5 o6 o7 o8 o9 : Option V), σ' = [some (.ref p), some (.ref d), some (.ref f), some (.ref wa), some (.ref sa), o5, o6, o7, o8, o9] ∧ Ex H H' ∧ H' wa = some (.lst (wk.map V.str)) ∧ H' sa = some (.lst (sy.map V.str)) ∧ wk ≠ [] ∧ wk.dropLast.Nodup ∧ (∀ z ∈ wk, z ∈ (z0 :: zr)) ∧ wk.length = sy.length + 1 ∧ wk.length + n = 43 ∧ ringW ls ws (z0 :: zr) = ringF ls ws (z0 :: zr) n wk sy,
      ⟨42, [z0], [], none, none, none, none, none, rfl, e1.trans (e2.trans e3), (e2.trans e3) _ _ hw1, e3 _ _ hs2, by simp, by simp, fun z hz => by rw [List.mem_singleton.mp hz]; exact List.mem_cons_self .., rfl, rfl, rfl⟩, ?_⟩
    clear h3 n3 hs2 hw1
    rintro n σ' H4 ⟨wk, sy, o5, o6, o7, o8, o9, rfl, ex, hw, hs, wn, wd, wm, ll, sum, ce⟩
    have lwd := nodup_le wd fun z hz => wm z (List.dropLast_subset wk hz)
    rw [List.length_dropLast] at lwd
    walk_at "rd"
    refine r_lenSetL ?_
    walk_at "rd"
    refine ⟨wa, wk, rfl, SqL.of hw, by omega, ?_⟩
    walk_at "rd"
    refine r_lenL (SqL.of hw) ?_
    refine r_eq rfl ?_
    have fe : (V.int (fcnt wk wk.length : Nat) = V.int ((wk.map V.str).length : Nat)) ↔ wk.Nodup := by
      have q := fcnt_eq_iff wk wk.length (Nat.le_refl _)
      rw [List.take_length] at q
      rw [← q, List.length_map]
      constructor
      · intro z; exact Int.ofNat.inj (V.int.inj z)
      · intro z; rw [z]
    by_cases hn : wk.Nodup
    · rw [decide_eq_true (fe.mpr hn)]
      refine r_bl ?_
      refine r_iteT rfl ?_
      have lw := nodup_le hn fun z hz => wm z hz
      cases n with
      | zero => exfalso; omega
      | succ n =>
      obtain ⟨z, hz1⟩ : ∃ z, wk.getLast? = some z := ⟨wk.getLast wn, List.getLast?_eq_some_getLast wn⟩
      have zm : z ∈ wk := List.mem_of_getLast? hz1
      obtain ⟨l2, hf2, hl2, ez⟩ := find_nm (ci.sub z (wm z zm))
      refine ⟨fun σ' H' => ∃ (wk sy : List Str) (o5 o6 o7 o8 o9 : Option V), σ' = [some (.ref p), some (.ref d), some (.ref f), some (.ref wa), some (.ref sa), o5, o6, o7, o8, o9] ∧ Ex H H' ∧ H' wa = some (.lst (wk.map V.str)) ∧ H' sa = some (.lst (sy.map V.str)) ∧ wk ≠ [] ∧ wk.dropLast.Nodup ∧ (∀ z ∈ wk, z ∈ (z0 :: zr)) ∧ wk.length = sy.length + 1 ∧ wk.length + n = 43 ∧ ringW ls ws (z0 :: zr) = ringF ls ws (z0 :: zr) n wk sy, fun σ' H' q => ⟨n, Nat.lt_succ_self _, q⟩, ?_⟩
      walk_at "rd"
      refine r_ixL (SqL.of hw) (at_last (x := V.str z) (by rw [List.getLast?_map, hz1]; rfl)) ?_
      walk_at "rd"
      subst ez
      refine ⟨p, d, f, l2, ls, ws, z0 :: zr, rfl, st.up ex, wi.up ex, ex_l ex hf, hl2, fun g ts H5 ng e5 hg ta => ?_⟩
      walk_at "rd"
      cases ha : ahead ls ws (z0 :: zr) l2.nm with
      | nil => exact absurd ha (hz _ (wm _ zm))
      | cons q qs =>
      have hts : ts[0]? = some (ts[0]'(by rw [ta.1, ha]; simp)) := by simp
      obtain ⟨ta0, ht0, hta⟩ := ta.2 0 _ q hts (by rw [ha]; rfl)
      rw [ht0] at hts
      have qm : q.2 ∈ z0 :: zr := (ahead_mem (ls := ls) (ws := ws) (nm := l2.nm) (q := q) (by rw [ha]; exact List.mem_cons_self ..)).1
      refine r_ixL (SqL.of hg) (atI_nat (j := 0) hts) ?_
      refine r_gtupE (st_of hta) rfl ?_
      have hs5 := e5 _ _ hs
      have hw5 := e5 _ _ hw
      have swa : sa ≠ wa := was.symm
      walk_at "rd"
      refine ⟨tyL (SqL.of hs5), ?_⟩
      walk_at "rd"
      refine r_app hs5 (by rw [List.length_map]; omega) fun H6 h6 s6 => ?_
      have hw6 := s6 _ _ was hw5
      walk_at "rd"
      refine ⟨tyL (SqL.of hw6), ?_⟩
      walk_at "rd"
      refine r_app hw6 (by rw [List.length_map]; omega) fun H7 h7 s7 => ?_
      have sHn : H sa = none := ex_none e1 ns2
      refine ⟨wk ++ [q.2], sy ++ [q.1], _, _, _, _, _, rfl, Ex.sm (Ex.sm (ex.trans e5) sHn s6) nw1 s7, by rw [h7, List.map_append]; rfl, by rw [s7 _ _ swa h6, List.map_append]; rfl, by simp, by simpa using hn, fun z hz => ?_, by simp [ll], by simp; omega, ?_⟩
      · rcases List.mem_append.mp hz with hz | hz
        · exact wm z hz
        · rw [List.mem_singleton.mp hz]; exact qm
      · rw [ce]
        conv => lhs; unfold ringF
        rw [if_pos hn, hz1]
        simp only [ha]
    · rw [decide_eq_false (fun z => hn (fe.mp z))]
      refine r_bl ?_
      refine r_iteF rfl ?_
      have cr : ringW ls ws (z0 :: zr) = (wk, sy) := by
        rw [ce]
        cases n with
        | zero => rfl
        | succ n => unfold ringF; rw [if_neg hn]
      obtain ⟨z, hz1⟩ : ∃ z, wk.getLast? = some z := ⟨wk.getLast wn, List.getLast?_eq_some_getLast wn⟩
      obtain ⟨i1, i2⟩ := idx_first wk z (List.mem_of_getLast? hz1)
      walk_at "rd"
      refine ⟨tyL (SqL.of hw), ?_⟩
      walk_at "rd"
      refine r_ixL (SqL.of hw) (at_last (x := V.str z) (by rw [List.getLast?_map, hz1]; rfl)) ?_
      walk_at "rd"
      refine ⟨wa, _, .str z, wk.idxOf z, .str z, rfl, rfl, SqL.of hw, rfl, flat_str wk, by rw [List.getElem?_map, i1]; rfl, by show (z == z) = true; simp, fun m z' hm hz' => ?_, ?_⟩
      · rw [List.getElem?_map] at hz'
        cases e : wk[m]? with
        | none => rw [e] at hz'; cases hz'
        | some y =>
          rw [e] at hz'
          cases hz'
          show (y == z) = false
          simpa using i2 m y hm e
      walk_at "rd"
      refine r_lenL (SqL.of hs) ?_
      generalize hI : wk.idxOf z = I at *
      have il : I < wk.length := by
        obtain ⟨hh, _⟩ := List.getElem?_eq_some_iff.mp i1
        exact hh
      walk_at "rd"
      refine ⟨_, _, rfl, by rw [List.length_map]; omega, ?_⟩
      have hn2 : (((sy.map V.str).length : Nat) - (I : Int)).toNat = sy.length - I := by rw [List.length_map]; omega
      rw [hn2]
      refine lc_new walk_range (by omega) (fun _ _ => trivial) (fun i ys H' => TupsAt H' ys (((wk.drop (I + 1)).zip (sy.drop I)).take i)) ⟨rfl, fun j t q h => nomatch h⟩ (fun i ys Hx Hy e h => h.up e) (fun i ys x G Hx Hy hi eg ex2 hS hy => ?_) fun D ys H5 nD e5 hS hD => ?_
      · obtain ⟨rfl, rfl⟩ := hy
        walk_at "rd"
        refine ⟨rfl, ?_⟩
        walk_at "rd"
        have hwx := (eg.trans ex2) _ _ hw
        have hsx := (eg.trans ex2) _ _ hs
        have l1 : I + i + 1 < wk.length := by omega
        have l2 : I + i < sy.length := by omega
        refine r_ixL (SqL.of hwx) (show atI _ _ = some (V.str (wk[I + i + 1]'l1)) from (by rw [show ((I : Int) + (i : Nat) + 1) = ((I + i + 1 : Nat) : Int) by omega]; exact atI_nat (by rw [List.getElem?_map, List.getElem?_eq_getElem l1]; rfl))) ?_
        walk_at "rd"
        refine r_ixL (SqL.of hsx) (show atI _ _ = some (V.str (sy[I + i]'l2)) from (by rw [show ((I : Int) + (i : Nat)) = ((I + i : Nat) : Int) by omega]; exact atI_nat (by rw [List.getElem?_map, List.getElem?_eq_getElem l2]; rfl))) ?_
        walk_at "rd"
        refine ⟨by simp, fun a H6 na ea ha => ⟨ea, fun G4 eG _ hG2 => ?_⟩⟩
        have e7 : ((wk.drop (I + 1)).zip (sy.drop I)).take (i + 1) = ((wk.drop (I + 1)).zip (sy.drop I)).take i ++ [(wk[I + i + 1]'l1, sy[I + i]'l2)] := by
          rw [List.take_succ]
          congr 1
          have : ((wk.drop (I + 1)).zip (sy.drop I))[i]? = some (wk[I + i + 1]'l1, sy[I + i]'l2) := by
            rw [List.getElem?_zip_eq_some]
            refine ⟨?_, ?_⟩
            · rw [List.getElem?_drop, show I + 1 + i = I + i + 1 by omega]; exact List.getElem?_eq_getElem l1
            · rw [List.getElem?_drop]; exact List.getElem?_eq_getElem l2
          rw [this]
          rfl
        rw [e7]
        exact (hS.up eG).app (hG2 _ _ (fun l z => nomatch z) ha)
      · walk_at "rd"
        refine ⟨D, ys, -1, rfl, rfl, .inr rfl, SqL.of hD, fun g H6 ng e6 hg => ?_⟩
        rw [if_neg (by decide)] at hg
        have eH : Ex H H5 := ex.trans e5
        have hP : ringP ls ws (z0 :: zr) = (((wk.drop (I + 1)).zip (sy.drop I)).take (sy.length - I)).reverse := by
          unfold ringP
          rw [cr]
          simp only [hz1, Option.getD_some, hI]
          rw [List.take_of_length_le]
          rw [List.length_zip, List.length_drop, List.length_drop]
          omega
        exact k g ys.reverse H6 (ex_none eH ng) (eH.trans e6) hg (by rw [hP]; exact (hS.up e6).rev)
/-- the libraries with nothing ahead of them -/
def freeOf (ls : List Lb) (ws : List (Str × Str)) (zs : List Str) : List Str := zs.filter fun z => (ahead ls ws zs z).isEmpty
def freeOf2 (ls : List Lb) (ws : List (Str × Str)) (zs : List Str) (i : Nat) : List Str := (zs.take i).filter fun z => (ahead ls ws zs z).isEmpty
theorem flt_lt {zs : List Str} {q : Str} (h : q ∈ zs) : (zs.filter fun z => !(z == q)).length < zs.length := by
  refine Nat.lt_of_le_of_ne (List.length_filter_le ..) fun e => ?_
  have := List.filter_eq_self.mp (List.filter_sublist.eq_of_length e) q h
  simp at this
/-- the order, or the ring -/
def ordF (ls : List Lb) (ws : List (Str × Str)) : Nat → List Str → List Str → List Str ⊕ List (Str × Str)
  | 0, _, fs => .inl fs
  | n + 1, zs, fs => if zs = [] then .inl fs else match freeOf ls ws zs with
    | [] => .inr (ringP ls ws zs)
    | q :: _ => ordF ls ws n (zs.filter fun z => !(z == q)) (fs ++ [q])
def OrdV (H : Hp) (v : V) : List Str ⊕ List (Str × Str) → Prop
  | .inl fs => ∃ t l, v = .ref t ∧ H t = some (.tup [.str (Str.ofString "order"), .ref l]) ∧ H l = some (.lst (fs.map V.str))
  | .inr ps => ∃ t l ts, v = .ref t ∧ H t = some (.tup [.str (Str.ofString "ring"), .ref l]) ∧ H l = some (.lst ts) ∧ TupsAt H ts ps
def sp_ordered (K : PySem.W.Frag) (A : Adr) : Sp := fun vs H Q _ => ∃ (p d f : Addr) (ls : List Lb) (ws : List (Str × Str)) (zs : List Str), vs = [.ref p, .ref d, .ref f] ∧ StV K A H p ls ∧ WiAt H d ws ∧ WOk ls ws ∧ SqL K H f (zs.map V.str) ∧ CloI ls zs ∧
  ∀ v H', Ex H H' → OrdV H' v (ordF ls ws 41 zs []) → Q v H'
theorem ok_ordered (T : Txt K mg A) : FnOk P w K mg base CX0 7 A.f_ordered A.d_ordered P_ordered (sp_ordered K A) := by
  refine T.F_ordered.ok sc_ordered (fun vs H Q E h => ?_) (fun cdv Ar outer s H vs Q E hr h => ?_)
  · obtain ⟨p, d, f, ls, ws, zs, rfl, _⟩ := h; rfl
  · have hu := hu_of hr
    refine ⟨_, (pss_cons (ps_set (i := 3) sc_ordered.nd rfl (Or.inl rfl) (pe_lstM pa_nil))
        (pss_cons (ps_while PassesOwn.never (pt_cmpR (k_neL0 K rfl hu) (pv 2) (pe_lstM pa_nil) (nomark _))
          (pss_cons (ps_set (i := 4) sc_ordered.nd rfl (Or.inr rfl) (pe_lcM (own := [("name", 5)]) rfl sc_ordered.nd (k_pil K rfl (pv 2)) (blkOk_by (N := N_ordered) (sc := defScope s_ordered) (by decide +kernel)) (fun _ _ _ _ _ => (pg_name (i := 5) sc_ordered.nd rfl (Or.inl rfl))) (fun _ _ _ _ _ => (pts_one (pt_cmpR (k_eqL0 K rfl hu) (pe_call (ok_ahead_of T) (hr.mono (by decide)) (by rfl) T.g_ahead_of T.k_ahead_of T.bi_ahead_of .nil pass0 (pa_cons (pv 0) (pa_cons (pv 1) (pa_cons (pv 2) (pa_cons (pv 5) pa_nil))))) (pe_lstM pa_nil) (nomark _)))) (fun _ _ _ _ _ => (pv 5))))
        (pss_cons (ps_if (pt_cmpR (k_eqL0 K rfl hu) (pv 4) (pe_lstM pa_nil) (nomark _))
          (pss_one (ps_ret (pe_tupM (pa_cons pe_str (pa_cons (pe_call (ok_ring_among T) (hr.mono (by decide)) (by rfl) T.g_ring_among T.k_ring_among T.bi_ring_among .nil pass0 (pa_cons (pv 0) (pa_cons (pv 1) (pa_cons (pv 2) pa_nil)))) pa_nil)))))
          pss_nil)
        (pss_cons (ps_expr (pe_bm PySem.F.plainAttrs_list PySem.F.slot_list_append PySem.F.type_list_append mt_append (pv 3) (pa_cons (pe_ix (k_ixL K rfl) (pv 4) pe_int (fun _ _ => rfl)) pa_nil)))
        (pss_one (ps_set (i := 2) sc_ordered.nd rfl (Or.inr rfl) (pe_lcM (own := [("name", 5)]) rfl sc_ordered.nd (k_pil K rfl (pv 2)) (blkOk_by (N := N_ordered) (sc := defScope s_ordered) (by decide +kernel)) (fun _ _ _ _ _ => (pg_name (i := 5) sc_ordered.nd rfl (Or.inl rfl))) (fun _ _ _ _ _ => (pts_one (pt_cmpR op_ne (pv 5) (pe_ix (k_ixL K rfl) (pv 4) pe_int (fun _ _ => rfl)) (nomark _)))) (fun _ _ _ _ _ => (pv 5)))))))))
        (pss_one (ps_ret (pe_tupM (pa_cons pe_str (pa_cons (pv 3) pa_nil))))))), ?_⟩
    obtain ⟨p, d, f, ls, ws, zs, rfl, st, wi, wok, hf, ci, k⟩ := h
    walk_at "rd"
    have l40 := st.nd.2
    have lzs := ci.len
    refine ⟨by simp, fun g H1 ng e1 hg => ?_⟩
    walk_at "rd"
    refine ⟨fun n σ' H' => ∃ (zs' fs : List Str) (f' : Addr) (o4 o5 : Option V), σ' = [some (.ref p), some (.ref d), some (.ref f'), some (.ref g), o4, o5] ∧ Ex H H' ∧ SqL K (fr [g] H') f' (zs'.map V.str) ∧ H' g = some (.lst (fs.map V.str)) ∧ CloI ls zs' ∧ zs'.length < n ∧ fs.length + n = 41 ∧ ordF ls ws 41 zs [] = ordF ls ws n zs' fs,
      ⟨41, zs, [], f, _, _, rfl, e1, ex_l (fr_up e1 fun q hq => by rw [List.mem_singleton.mp hq]; exact ng) hf, hg, ci, by omega, rfl, rfl⟩, ?_⟩
    clear hg e1
    rintro n σ' H4 ⟨zs', fs, f', o4, o5, rfl, ex, hf', hg, ci', lz, lf, ce⟩
    walk_at "rd"
    refine ⟨by simp, fun b H5 nb e5 hb => ?_⟩
    refine r_neL0 (ex_l (fr_ex.trans e5) hf') (SqL.of hb) ?_
    cases zs' with
    | nil =>
      refine r_bl ?_
      refine r_iteF rfl ?_
      walk_at "rd"
      refine ⟨by simp, fun t H6 nt e6 ht => ?_⟩
      have er : ordF ls ws 41 zs [] = .inl fs := by rw [ce]; cases n <;> simp [ordF]
      exact k _ H6 (ex.trans (e5.trans e6)) (by rw [er]; exact ⟨t, g, rfl, ht, (e5.trans e6) _ _ hg⟩)
    | cons y yr =>
      refine r_bl ?_
      refine r_iteT rfl ?_
      cases n with
      | zero => exact absurd lz (Nat.not_lt_zero _)
      | succ n =>
      refine ⟨fun σ' H' => ∃ (zs' fs : List Str) (f' : Addr) (o4 o5 : Option V), σ' = [some (.ref p), some (.ref d), some (.ref f'), some (.ref g), o4, o5] ∧ Ex H H' ∧ SqL K (fr [g] H') f' (zs'.map V.str) ∧ H' g = some (.lst (fs.map V.str)) ∧ CloI ls zs' ∧ zs'.length < n ∧ fs.length + n = 41 ∧ ordF ls ws 41 zs [] = ordF ls ws n zs' fs, fun σ' H' q => ⟨n, Nat.lt_succ_self _, q⟩, ?_⟩
      walk_at "rd"
      have hf5 := ex_l (fr_ex.trans e5) hf'
      have lzz := ci'.len
      refine ⟨f', rfl, ⟨_, hf5⟩, ?_⟩
      refine lc_val (walk_list (K := K) (a := f') (xs := (y :: yr).map V.str)) (by rw [List.length_map]; omega) (fun Hx exx => ex_l exx hf5) (fun i ys => ys = (freeOf2 ls ws (y :: yr) i).map V.str) rfl (fun i ys x Hx Hy hi exx hs hy => ?_) fun D ys H6 nD e6 hs hD => ?_
      · obtain ⟨rfl, hx⟩ := hy
        rw [List.getElem?_map] at hx
        cases hzi : (y :: yr)[i]? with
        | none => rw [hzi] at hx; cases hx
        | some z =>
        rw [hzi] at hx
        cases hx
        have zm : z ∈ y :: yr := List.mem_of_getElem? hzi
        obtain ⟨l2, hf2, hl2, ez⟩ := find_nm (ci'.sub z zm)
        subst ez
        have exx' : Ex H Hy := ex.trans (e5.trans exx)
        have tk : freeOf2 ls ws (y :: yr) (i + 1) = freeOf2 ls ws (y :: yr) i ++ [l2.nm].filter fun z => (ahead ls ws (y :: yr) z).isEmpty := by
          unfold freeOf2
          rw [List.take_add_one, hzi, List.filter_append]
          rfl
        walk_at "rd"
        refine ⟨rfl, ?_⟩
        walk_at "rd"
        refine ⟨p, d, f', l2, ls, ws, y :: yr, rfl, st.up exx', wi.up exx', ex_l exx hf5, hl2, fun g2 ts H7 ng2 e7 hg2 ta => ?_⟩
        walk_at "rd"
        refine ⟨by simp, fun b2 H8 nb2 e8 hb2 => ?_⟩
        refine r_eqL0 (SqL.of (e8 _ _ hg2)) (SqL.of hb2) ?_
        have et : ts.isEmpty = (ahead ls ws (y :: yr) l2.nm).isEmpty := by
          have := ta.1
          cases ts <;> cases hh : ahead ls ws (y :: yr) l2.nm <;> simp [hh] at this ⊢
        rw [et]
        refine r_bl ?_
        cases hem : (ahead ls ws (y :: yr) l2.nm).isEmpty with
        | true =>
          refine iteT ?_
          walk_at "rd"
          refine ⟨e7.trans e8, ?_⟩
          rw [hs, tk, List.map_append]
          simp [hem]
        | false =>
          refine iteF ⟨e7.trans e8, ?_⟩
          rw [hs, tk, List.map_append]
          simp [hem]
      · walk_at "rd"
        rw [show ((y :: yr).map V.str).length = (y :: yr).length from List.length_map ..] at hs
        have hfr : freeOf2 ls ws (y :: yr) (y :: yr).length = freeOf ls ws (y :: yr) := by unfold freeOf2 freeOf; rw [List.take_length]
        rw [hfr] at hs
        subst hs
        refine ⟨by simp, fun b2 H7 nb2 e7 hb2 => ?_⟩
        refine r_eqL0 (SqL.of (e7 _ _ hD)) (SqL.of hb2) ?_
        have eH : Ex H H7 := ex.trans (e5.trans (e6.trans e7))
        have hf7 := ex_l (e6.trans e7) hf5
        cases hfo : freeOf ls ws (y :: yr) with
        | nil =>
          refine r_bl ?_
          refine r_iteT rfl ?_
          walk_at "rd"
          refine ⟨p, d, f', ls, ws, y :: yr, rfl, st.up eH, wi.up eH, wok, hf7, by simp, ci', fun z hz he => ?_, fun g2 ts H8 ng2 e8 hg2 ta => ?_⟩
          · have := List.filter_eq_nil_iff.mp hfo z hz
            rw [he] at this
            exact this rfl
          · walk_at "rd"
            refine ⟨by simp, fun t H9 nt e9 ht => ?_⟩
            have er : ordF ls ws 41 zs [] = .inr (ringP ls ws (y :: yr)) := by rw [ce]; simp [ordF, hfo]
            exact k _ H9 (eH.trans (e8.trans e9)) (by rw [er]; exact ⟨t, g2, ts, rfl, ht, e9 _ _ hg2, ta.up e9⟩)
        | cons q qs =>
          refine r_bl ?_
          refine r_iteF rfl ?_
          walk_at "rd"
          have hg7 : H7 g = some (.lst (fs.map V.str)) := (e5.trans (e6.trans e7)) _ _ hg
          have hD7 := e7 _ _ hD
          rw [hfo] at hD7
          have Dg : D ≠ g := fun z => by rw [z, e5 _ _ hg] at nD; cases nD
          refine ⟨tyL (SqL.of hg7), ?_⟩
          walk_at "rd"
          refine r_ixL (SqL.of hD7) (atI_nat (j := 0) rfl) ?_
          walk_at "rd"
          refine r_app hg7 (by rw [List.length_map]; omega) fun H8 h8 s8 => ?_
          have hD8 := s8 _ _ Dg hD7
          have eG : Ex (fr [g] H4) H8 := Ex.sm (fr_ex.trans (e5.trans (e6.trans e7))) (fr_no (List.mem_singleton.mpr rfl)) s8
          have hf8 := ex_l eG hf'
          have qm : q ∈ y :: yr := (List.mem_filter.mp (show q ∈ freeOf ls ws (y :: yr) by rw [hfo]; exact List.mem_cons_self ..)).1
          walk_at "rd"
          refine ⟨f', rfl, ⟨_, hf8⟩, ?_⟩
          refine lc_val (walk_list (K := K) (a := f') (xs := (y :: yr).map V.str)) (by rw [List.length_map]; omega) (fun Hx exx => ex_l exx hf8) (fun i ys => ys = (((y :: yr).take i).filter fun z => !(z == q)).map V.str) rfl (fun i ys x Hx Hy hi exx hs hy => ?_) fun D2 ys H9 nD2 e9 hs hD2 => ?_
          · obtain ⟨rfl, hx⟩ := hy
            rw [List.getElem?_map] at hx
            cases hzi : (y :: yr)[i]? with
            | none => rw [hzi] at hx; cases hx
            | some z =>
            rw [hzi] at hx
            cases hx
            have tk : ((y :: yr).take (i + 1)).filter (fun z => !(z == q)) = ((y :: yr).take i).filter (fun z => !(z == q)) ++ [z].filter fun z => !(z == q) := by
              rw [List.take_add_one, hzi, List.filter_append]
              rfl
            walk_at "rd"
            refine ⟨rfl, ?_⟩
            walk_at "rd"
            refine r_ixL (SqL.of (exx _ _ hD8)) (atI_nat (j := 0) rfl) ?_
            refine r_ne rfl ?_
            by_cases h1 : z = q
            · refine r_bl ?_
              refine r_iteF (by simp [h1]) ⟨Ex.refl _, ?_⟩
              rw [hs, tk, List.map_append]
              simp [h1]
            · refine r_bl ?_
              refine r_iteT (by simp [h1]) ?_
              walk_at "rd"
              refine ⟨Ex.refl _, ?_⟩
              rw [hs, tk, List.map_append]
              simp [h1]
          · walk_at "rd"
            rw [show ((y :: yr).map V.str).length = (y :: yr).length from List.length_map .., List.take_length] at hs
            have gH : H g = none := ng
            have h98 : H9 g = some (.lst ((fs ++ [q]).map V.str)) := by rw [e9 _ _ h8, List.map_append]; rfl
            have D2g : D2 ≠ g := fun z => by rw [z, h8] at nD2; cases nD2
            refine ⟨(y :: yr).filter (fun z => !(z == q)), fs ++ [q], D2, _, _, rfl, (Ex.sm eH gH s8).trans e9, SqL.of (fr_at (by rw [hD2, hs]) (by simpa using D2g)), h98, ⟨ci'.nd.filter _, fun z hz => ci'.sub z (List.mem_filter.mp hz).1⟩, ?_, by simp; omega, ?_⟩
            · have := flt_lt qm
              omega
            · rw [ce]
              conv => lhs; unfold ordF
              rw [if_neg (by simp), hfo]
/-- the wished library does not define it -/
def undB (ls : List Lb) (ws : List (Str × Str)) (s : Str) : Bool := match wish ws s with
  | some n => !decide (s ∈ dfOf ls n)
  | none => false
/-- main defines it ahead of the wished one -/
def covB (ls : List Lb) (ws : List (Str × Str)) (m : Str) (s : Str) : Bool := match wish ws s with
  | some n => !decide (n = m) && decide (s ∈ dfOf ls m)
  | none => false
/-- what least_preloads tells, by the sorted symbols and the main closure -/
def LeastV (ls : List Lb) (ws : List (Str × Str)) (m : Str) (gs ys : List Str) (H : Hp) (v : V) : Prop := match ys.find? (undB ls ws) with
  | some s => ∃ t, v = .ref t ∧ H t = some (.tup [.str (Str.ofString "undefined"), .str s])
  | none => match ys.find? (covB ls ws m) with
    | some s => ∃ t, v = .ref t ∧ H t = some (.tup [.str (Str.ofString "main"), .str s])
    | none => ∃ zs, zs.Perm (reqs ls gs m ws) ∧ PyProof.Rows.sortedS zs = true ∧ OrdV H v (ordF ls ws 41 zs [])
theorem cloF_pre {ls : List Lb} : ∀ (n : Nat) (fs : List Str) (i : Nat) (gs : List Str), cloF ls n fs i = .inr gs → ∃ r, gs = fs ++ r
  | 0, fs, i, gs, h => by cases h; exact ⟨[], by simp⟩
  | n + 1, fs, i, gs, h => by
    unfold cloF at h
    cases hz : fs[i]? with
    | none => rw [hz] at h; cases h; exact ⟨[], by simp⟩
    | some z =>
      rw [hz] at h
      simp only at h
      cases hf : ls.find? (fun l => decide (l.nm = z)) with
      | none => rw [hf] at h; cases h; exact ⟨[], by simp⟩
      | some l =>
        rw [hf] at h
        simp only at h
        cases ha : absent ls (more l fs) with
        | some q => rw [ha] at h; cases h
        | none =>
          rw [ha] at h
          obtain ⟨r, e⟩ := cloF_pre n _ _ gs h
          exact ⟨more l fs ++ r, by rw [e, List.append_assoc]⟩
theorem clo_head {ls : List Lb} {m : Str} {gs : List Str} (h : clo ls m = .inr gs) : gs[0]? = some m := by
  obtain ⟨r, e⟩ := cloF_pre _ _ _ _ h
  rw [e]
  rfl
theorem find_step {α : Type} {p : α → Bool} {ys : List α} {i : Nat} {y : α} (h : ys[i]? = some y) (n : (ys.take i).find? p = none) (hp : p y = false) : (ys.take (i + 1)).find? p = none := by
  rw [List.take_add_one, h, List.find?_append, n]
  simp [hp]
theorem find_hit {α : Type} {p : α → Bool} {ys : List α} {i : Nat} {y : α} (h : ys[i]? = some y) (n : (ys.take i).find? p = none) (hp : p y = true) : ys.find? p = some y := by
  have : ys = ys.take i ++ y :: ys.drop (i + 1) := by
    obtain ⟨hl, e⟩ := List.getElem?_eq_some_iff.mp h
    subst e
    rw [← List.drop_eq_getElem_cons hl, List.take_append_drop]
  rw [this, List.find?_append, n]
  simp [hp]
def sp_least_preloads (K : PySem.W.Frag) (A : Adr) : Sp := fun vs H Q _ => ∃ (p d : Addr) (m : Str) (ls : List Lb) (ws : List (Str × Str)) (gs : List Str), vs = [.ref p, .str m, .ref d] ∧ StV K A H p ls ∧ WiAt H d ws ∧ WOk ls ws ∧ m ∈ names ls ∧ clo ls m = .inr gs ∧
  ∀ ys v H', ys.Perm (syms ws) → PyProof.Rows.sortedS ys = true → Ex H H' → LeastV ls ws m gs ys H' v → Q v H'
theorem ok_least_preloads (T : Txt K mg A) : FnOk P w K mg base CX0 8 A.f_least_preloads A.d_least_preloads P_least_preloads (sp_least_preloads K A) := by
  refine T.F_least_preloads.ok sc_least_preloads (fun vs H Q E h => ?_) (fun cdv Ar outer s H vs Q E hr h => ?_)
  · obtain ⟨p, d, m, ls, ws, gs, rfl, _⟩ := h; rfl
  · have hu := hu_of hr
    refine ⟨_, (pss_cons (ps_set (i := 3) sc_least_preloads.nd rfl (Or.inl rfl) (pe_call (ok_closure T) (hr.mono (by decide)) (by rfl) T.g_closure T.k_closure T.bi_closure .nil passL (pa_cons (pv 0) (pa_cons (pv 1) pa_nil))))
        (pss_cons (ps_expr (pe_call (ok_check_wishes T) (hr.mono (by decide)) (by rfl) T.g_check_wishes T.k_check_wishes T.bi_check_wishes .nil pass0 (pa_cons (pv 0) (pa_cons (pv 2) pa_nil))))
        (pss_cons (ps_for PassesOwn.never rfl (k_pil K rfl (pe_callB (k_sortDK rfl) (by rfl) T.b_sorted (by decide +kernel) (pa_cons (pv 2) pa_nil))) (pg_name (i := 4) sc_least_preloads.nd rfl (Or.inl rfl))
          (pss_one (ps_if (pt_cmpR (k_notIn K rfl) (pv 4) (k_fld K rfl (pe_subO T.du_Store_getitem T.fi_Store_getitem (ok_Store___getitem__ T) (hr.mono (by decide)) T.bi_Store___getitem__ passL (pv 0) (pe_dget hu (pv 2) (pv 4) (fun _ _ => rfl)))) (by rfl))
          (pss_one (ps_ret (pe_tupM (pa_cons pe_str (pa_cons (pv 4) pa_nil)))))
          pss_nil)))
        (pss_cons (ps_for PassesOwn.never rfl (k_pil K rfl (pe_callB (k_sortDK rfl) (by rfl) T.b_sorted (by decide +kernel) (pa_cons (pv 2) pa_nil))) (pg_name (i := 4) sc_least_preloads.nd rfl (Or.inl rfl))
          (pss_one (ps_if (PW.pt (pw_and (pt_cmpR op_ne (pe_dget hu (pv 2) (pv 4) (fun _ _ => rfl)) (pv 1) (nomark _)) (pw_and1 (pt_cmpR (k_in K rfl) (pv 4) (k_fld K rfl (pe_subO T.du_Store_getitem T.fi_Store_getitem (ok_Store___getitem__ T) (hr.mono (by decide)) T.bi_Store___getitem__ passL (pv 0) (pv 1))) (by rfl)))))
          (pss_one (ps_ret (pe_tupM (pa_cons pe_str (pa_cons (pv 4) pa_nil)))))
          pss_nil)))
        (pss_one (ps_ret (pe_call (ok_ordered T) (hr.mono (by decide)) (by rfl) T.g_ordered T.k_ordered T.bi_ordered .nil pass0 (pa_cons (pv 0) (pa_cons (pv 2) (pa_cons (pe_call (ok_required T) (hr.mono (by decide)) (by rfl) T.g_required T.k_required T.bi_required .nil pass0 (pa_cons (pv 0) (pa_cons (pv 3) (pa_cons (pv 2) pa_nil)))) pa_nil)))))))))), ?_⟩
    obtain ⟨p, d, m, ls, ws, gs, rfl, st, wi, wok, hm, hc, k⟩ := h
    have mw := names_word st hm
    have m12 := isWord_len mw
    have l40 := st.nd.2
    have w64 := wok.len
    obtain ⟨lm, _, hlm, em⟩ := find_nm hm
    walk_at "rd"
    refine ⟨p, .str m, ls, rfl, st, .inl ⟨_, rfl, by omega⟩, fun z gs' f H1 hz1 hz2 hz3 ci nf e1 hf => ?_, fun z m' d' H' hz1 hz2 hz3 => ?_, fun no => ?_⟩
    rotate_left
    · cases hz1
      rw [hc] at hz3
      cases hz3
    · rw [in_yes mw hm] at no; cases no
    cases hz1
    rw [hc] at hz3
    cases hz3
    have cl := ci.len
    walk_at "rd"
    refine ⟨p, d, ls, ws, rfl, st.up e1, wi.up e1, wok, fun H2 e2 => ?_⟩
    have e12 := e1.trans e2
    walk_at "rd"
    refine r_sortF (wi.up e12) (by omega) fun ys sl H3 pm so n3 e3 h3 => ?_
    have e13 := e12.trans e3
    refine ⟨sl, rfl, ⟨_, SqL.of h3⟩, ?_⟩
    refine for_it (walk_list (K := K) (a := sl)) (fun i σ' H' => Ex H3 H' ∧ (ys.take i).find? (undB ls ws) = none ∧ ∃ o4 : Option V, σ' = [some (.ref p), some (.str m), some (.ref d), some (.ref f), o4])
      ⟨Ex.refl _, rfl, _, rfl⟩ (fun i σ' H' _ q => SqL.of (q.1 _ _ h3)) ?_ fun σ' H' q => ?_
    · rintro i x σ' H' H'' hi ⟨ex, nn, o4, rfl⟩ ⟨rfl, hx⟩
      obtain ⟨s0, hs, rfl⟩ : ∃ z, ys[i]? = some z ∧ x = .str z := by
        rw [List.getElem?_map] at hx
        cases e : ys[i]? with
        | none => rw [e] at hx; cases hx
        | some z => rw [e] at hx; exact ⟨z, rfl, (Option.some.inj hx).symm⟩
      obtain ⟨w, hw, rfl, we⟩ := wish_in (pm.mem_iff.mp (List.mem_of_getElem? hs))
      have ee := e13.trans ex
      have n12 := isWord_len (names_word st (wok.nm w hw))
      walk_at "rd"
      refine ⟨d, _, rfl, dgetF (wi.up ee) we, ?_⟩
      refine get_call st ee (.inl ⟨_, rfl, by omega⟩) (fun l v H5 hl he e5 lv => ?_) fun no => ?_
      rotate_left
      · rw [in_yes (names_word st (wok.nm w hw)) (wok.nm w hw)] at no; cases no
      obtain ⟨a, dx, t1, t2, t3, t4, rfl, g0, g1, g2, g3, g4⟩ := lv.up (ee.trans e5)
      have el : w.2 = l.nm := V.str.inj he
      refine r_fldE g0 T.cl_Library T.na_Library_defines 2 (by decide +kernel) rfl ?_
      refine r_ninT g2 rfl (flat_str l.df) ?_
      rw [inV_str]
      have ub : undB ls ws w.1 = !decide (w.1 ∈ l.df) := by unfold undB; rw [we]; simp only; rw [el, dfOf_eq st hl]
      refine r_bl ?_
      refine r_ite (fun c => ?_) (fun c => ?_)
      · walk_at "rd"
        refine ⟨by simp, fun t H6 nt e6 ht => ?_⟩
        refine k ys _ H6 pm so (ee.trans (e5.trans e6)) ?_
        unfold LeastV
        rw [find_hit hs nn (ub.trans c)]
        exact ⟨t, rfl, ht⟩
      · walk_at "rd"
        exact ⟨ex.trans e5, find_step hs nn (ub.trans c), _, rfl⟩
    obtain ⟨ex, nn, o4, rfl⟩ := q
    rw [List.length_map, List.take_length] at nn
    have e33 := e3.trans ex
    replace e13 := e13.trans ex
    clear h3 n3 ex e3
    walk_at "rd"
    refine r_sortF (wi.up e13) (by omega) fun ys2 sl2 H4 pm2 so2 n4 e4 h4 => ?_
    obtain rfl : ys2 = ys := sorted_uniq (pm2.trans pm.symm) so2 so
    have e14 := e13.trans e4
    refine ⟨sl2, rfl, ⟨_, SqL.of h4⟩, ?_⟩
    refine for_it (walk_list (K := K) (a := sl2)) (fun i σ' H' => Ex H4 H' ∧ (ys2.take i).find? (covB ls ws m) = none ∧ ∃ o4 : Option V, σ' = [some (.ref p), some (.str m), some (.ref d), some (.ref f), o4])
      ⟨Ex.refl _, rfl, _, rfl⟩ (fun i σ' H' _ q => SqL.of (q.1 _ _ h4)) ?_ fun σ' H' q => ?_
    · rintro i x σ' H' H'' hi ⟨ex, nc, o4, rfl⟩ ⟨rfl, hx⟩
      obtain ⟨s0, hs, rfl⟩ : ∃ z, ys2[i]? = some z ∧ x = .str z := by
        rw [List.getElem?_map] at hx
        cases e : ys2[i]? with
        | none => rw [e] at hx; cases hx
        | some z => rw [e] at hx; exact ⟨z, rfl, (Option.some.inj hx).symm⟩
      obtain ⟨w, hw, rfl, we⟩ := wish_in (pm.mem_iff.mp (List.mem_of_getElem? hs))
      have ee := e14.trans ex
      have cb : covB ls ws m w.1 = (!decide (w.2 = m) && decide (w.1 ∈ lm.df)) := by unfold covB; rw [we]; simp only; rw [← em, dfOf_eq st hlm]
      walk_at "rd"
      refine ⟨d, _, rfl, dgetF (wi.up ee) we, ?_⟩
      walk_at "rd"
      refine r_ne rfl ?_
      by_cases h1 : w.2 = m
      · rw [decide_eq_true (show V.str w.2 = V.str m by rw [h1])]
        walk_at "rd"
        exact ⟨ex, find_step hs nc (by rw [cb, decide_eq_true h1]; rfl), _, rfl⟩
      · rw [decide_eq_false (show ¬ V.str w.2 = V.str m from fun z => h1 (V.str.inj z))]
        rw [decide_eq_false h1] at cb
        walk_at "rd"
        refine get_call st ee (.inl ⟨_, rfl, by omega⟩) (fun l v H5 hl he e5 lv => ?_) fun no => ?_
        rotate_left
        · rw [in_yes mw hm] at no; cases no
        obtain ⟨a, dx, t1, t2, t3, t4, rfl, g0, g1, g2, g3, g4⟩ := lv.up (ee.trans e5)
        obtain rfl : l = lm := st.uniq hl hlm (by rw [em]; exact (V.str.inj he).symm)
        refine r_fldE g0 T.cl_Library T.na_Library_defines 2 (by decide +kernel) rfl ?_
        refine r_inT g2 rfl (flat_str l.df) ?_
        rw [inV_str]
        refine r_bl ?_
        refine r_ite (fun c => ?_) (fun c => ?_)
        · walk_at "rd"
          refine ⟨by simp, fun t H6 nt e6 ht => ?_⟩
          refine k ys2 _ H6 pm so (ee.trans (e5.trans e6)) ?_
          unfold LeastV
          rw [nn]
          simp only
          rw [find_hit hs nc (by rw [cb, c]; rfl)]
          exact ⟨t, rfl, ht⟩
        · walk_at "rd"
          exact ⟨ex.trans e5, find_step hs nc (by rw [cb, c]; rfl), _, rfl⟩
    obtain ⟨ex, nc, o4, rfl⟩ := q
    rw [List.length_map, List.take_length] at nc
    replace e14 := e14.trans ex
    have f4 : SqL K H4 f (gs.map V.str) := ex_l (e2.trans (e33.trans e4)) (SqL.of hf)
    have f14 : SqL K H' f (gs.map V.str) := ex_l ex f4
    walk_at "rd"
    refine ⟨p, f, d, ls, gs, m, ws, rfl, st.up e14, f14, clo_head hc, by omega, ci.sub, wi.up e14, wok, fun g zs H5 pz sz cz ng e5 hg => ?_⟩
    walk_at "rd"
    refine ⟨p, d, g, ls, ws, zs, rfl, st.up (e14.trans e5), wi.up (e14.trans e5), wok, SqL.of hg, cz, fun v H6 e6 ov => ?_⟩
    refine k ys2 v H6 pm so (e14.trans (e5.trans e6)) ?_
    unfold LeastV
    rw [nn]
    simp only
    rw [nc]
    exact ⟨zs, pz, sz, ov⟩
def sp__law_begin (K : PySem.W.Frag) (A : Adr) : Sp := fun vs H Q _ => ∃ c : Int, vs = [.int c] ∧ ∀ p H', H p = none → Ex H H' → WellAt H' p 0 → Q (.ref p) H'
theorem ok__law_begin (T : Txt K mg A) : FnOk P w K mg base CX0 1 A.f__law_begin A.d__law_begin P__law_begin (sp__law_begin K A) := by
  refine T.F__law_begin.ok sc__law_begin (fun vs H Q E h => ?_) (fun cdv Ar outer s H vs Q E hr h => ?_)
  · obtain ⟨c, rfl, _⟩ := h; rfl
  · have hu := hu_of hr
    refine ⟨_, (pss_one (ps_ret (pe_lstM (pa_cons (pe_op op_mul (pv 0) (pe_callTy call_intQ (by rfl) T.b_int (by decide +kernel) (pa_cons (pe_cmpR op_ge (pv 0) (pe_op op_pow pe_int pe_int) (nomark _)) pa_nil))) (pa_cons (pe_op op_modN (pv 0) pe_int) (pa_cons pe_int pa_nil)))))), ?_⟩
    obtain ⟨c, rfl, k⟩ := h
    walk_at "rd"
    refine r_I ⟨by decide, by decide, by decide⟩ ?_
    walk_at "rd"
    refine r_I (.inr (by split <;> decide)) ?_
    walk_at "rd"
    refine r_I (by decide) ?_
    walk_at "rd"
    refine ⟨by simp, fun p H1 np e1 h1 => k p H1 np e1 ⟨_, _, _, h1, ?_⟩⟩
    have f := fmod_lt (x := c) (m := 2147483629) (by decide)
    exact ⟨f.1, by have := f.2; omega, by decide, by decide⟩
def sp__law_draw (K : PySem.W.Frag) (A : Adr) : Sp := fun vs H Q _ => ∃ (p : Addr) (m : Int) (n : Nat), vs = [.ref p, .int m] ∧ 1 ≤ m ∧ m < 1000000 ∧ n ≤ 1000000000 ∧ WellAt H p n ∧
  ∀ d H', 0 ≤ d → d < m → Sm p H H' → WellAt H' p (n + 1) → Q (.int d) H'
theorem ok__law_draw (T : Txt K mg A) : FnOk P w K mg base CX0 1 A.f__law_draw A.d__law_draw P__law_draw (sp__law_draw K A) := by
  refine T.F__law_draw.ok sc__law_draw (fun vs H Q E h => ?_) (fun cdv Ar outer s H vs Q E hr h => ?_)
  · obtain ⟨p, m, n, rfl, _⟩ := h; rfl
  · have hu := hu_of hr
    refine ⟨_, (pss_cons (ps_if (pt_cmpR op_gt (pe_ix (k_ixL K rfl) (pv 0) pe_int (fun _ _ => rfl)) pe_int (nomark _))
          (pss_cons (ps_set (i := 2) sc__law_draw.nd rfl (Or.inl rfl) (pe_op op_modN (pe_ix (k_ixL K rfl) (pv 0) pe_int (fun _ _ => rfl)) (pv 1)))
        (pss_cons (ps_asg (pe_op op_fdivN (pe_ix (k_ixL K rfl) (pv 0) pe_int (fun _ _ => rfl)) (pv 1)) (pg_sub (pv 0) pe_int set_list))
        (pss_one (ps_ret (pv 2)))))
          pss_nil)
        (pss_cons (ps_asg (pe_op op_add (pe_ix (k_ixL K rfl) (pv 0) pe_int (fun _ _ => rfl)) pe_int) (pg_sub (pv 0) pe_int set_list))
        (pss_cons (ps_set (i := 3) sc__law_draw.nd rfl (Or.inl rfl) (pe_op op_modN (pe_op op_pow (pe_op op_add (pe_op op_add (pe_ix (k_ixL K rfl) (pv 0) pe_int (fun _ _ => rfl)) (pe_op op_mul pe_int (pe_ix (k_ixL K rfl) (pv 0) pe_int (fun _ _ => rfl)))) pe_int) pe_int) pe_int))
        (pss_cons (ps_set (i := 3) sc__law_draw.nd rfl (Or.inl rfl) (pe_op op_modN (pe_op op_mul (pe_op op_add (pv 3) (pe_op op_mul pe_int (pe_ix (k_ixL K rfl) (pv 0) pe_int (fun _ _ => rfl)))) (pe_op op_add (pe_op op_fdivN (pv 3) pe_int) pe_int)) pe_int))
        (pss_one (ps_ret (pe_op op_modN (pe_op op_fdivN (pe_op op_modN (pe_op op_mul (pv 3) (pe_op op_add (pe_op op_fdivN (pv 3) pe_int) pe_int)) pe_int) pe_int) (pv 1)))))))), ?_⟩
    obtain ⟨p, m, n, rfl, m1, m2, hn, ⟨a, b, c, hp, b0, b1, c0, c1⟩, k⟩ := h
    have hS := SqL.of (K := K) hp
    walk_at "rd"
    refine r_ixL hS rfl ?_
    walk_at "rd"
    refine r_ite (fun h0 => ?_) (fun h0 => ?_)
    · walk_at "rd"
      refine r_ixL hS rfl ?_
      walk_at "rd"
      refine r_I (show m ≠ 0 by omega) ?_
      walk_at "rd"
      refine r_ixL hS rfl ?_
      walk_at "rd"
      refine r_I ⟨show m ≠ 0 by omega, by omega⟩ ?_
      walk_at "rd"
      refine r_setL hp rfl fun H1 h1 s1 => ?_
      walk_at "rd"
      have f := fmod_lt (x := a) (m := m) (by omega)
      exact k _ _ f.1 f.2 s1 ⟨_, _, _, h1, b0, b1, c0, by omega⟩
    · walk_at "rd"
      refine r_ixL hS rfl ?_
      walk_at "rd"
      refine r_setL hp rfl fun H1 h1 s1 => ?_
      have hS1 := SqL.of (K := K) h1
      walk_at "rd"
      refine r_ixL hS1 rfl ?_
      walk_at "rd"
      refine r_ixL hS1 rfl ?_
      walk_at "rd"
      refine r_I (.inl ⟨by decide, by decide⟩) ?_
      walk_at "rd"
      refine r_I ⟨by decide, by decide, by omega⟩ ?_
      walk_at "rd"
      refine r_I (by decide) ?_
      walk_at "rd"
      generalize hn1 : Int.fmod _ 2147483647 = n1
      have f1 : 0 ≤ n1 ∧ n1 < 2147483647 := hn1 ▸ fmod_lt (m := 2147483647) (by decide)
      refine r_ixL hS1 rfl ?_
      walk_at "rd"
      refine r_I (.inl ⟨by decide, by decide⟩) ?_
      walk_at "rd"
      refine r_I ⟨by decide, by decide⟩ ?_
      walk_at "rd"
      refine r_I (.inl ⟨by omega, by omega⟩) ?_
      walk_at "rd"
      refine r_I (by decide) ?_
      walk_at "rd"
      generalize hn2 : Int.fmod _ 2147483587 = n2
      have f2 : 0 ≤ n2 ∧ n2 < 2147483587 := hn2 ▸ fmod_lt (m := 2147483587) (by decide)
      refine r_I ⟨by decide, by decide⟩ ?_
      walk_at "rd"
      refine r_I (.inl ⟨by omega, by omega⟩) ?_
      walk_at "rd"
      refine r_I (by decide) ?_
      walk_at "rd"
      refine r_I ⟨by decide, by decide⟩ ?_
      walk_at "rd"
      refine r_I (show m ≠ 0 by omega) ?_
      generalize hd : Int.fmod _ m = d
      have fd : 0 ≤ d ∧ d < m := hd ▸ fmod_lt (m := m) (by omega)
      exact k _ _ fd.1 fd.2 s1 ⟨_, _, _, h1, b0, b1, by omega, by omega⟩
def sp__law_pick (K : PySem.W.Frag) (A : Adr) : Sp := fun vs H Q _ => ∃ (p l : Addr) (xs : List V) (n : Nat), vs = [.ref p, .ref l] ∧ SqL K H l xs ∧ l ≠ p ∧ xs ≠ [] ∧ xs.length < 100000 ∧ n ≤ 1000000000 ∧ WellAt H p n ∧
  ∀ v H', v ∈ xs → Sm p H H' → WellAt H' p (n + 1) → Q v H'
theorem ok__law_pick (T : Txt K mg A) : FnOk P w K mg base CX0 2 A.f__law_pick A.d__law_pick P__law_pick (sp__law_pick K A) := by
  refine T.F__law_pick.ok sc__law_pick (fun vs H Q E h => ?_) (fun cdv Ar outer s H vs Q E hr h => ?_)
  · obtain ⟨p, l, xs, n, rfl, _⟩ := h; rfl
  · have hu := hu_of hr
    refine ⟨_, (pss_one (ps_ret (pe_ix (k_ixL K rfl) (pv 1) (pe_call (ok__law_draw T) (hr.mono (by decide)) (by rfl) T.g__law_draw T.k__law_draw T.bi__law_draw .nil pass0 (pa_cons (pv 0) (pa_cons (pe_callB (k_len K rfl) (by rfl) T.b_len PySem.boot_len (pa_cons (pv 1) pa_nil)) pa_nil))) (fun _ _ => rfl)))), ?_⟩
    obtain ⟨p, l, xs, n, rfl, hl, ne, hx, hz, hn, hw, k⟩ := h
    have h0 : 0 < xs.length := List.length_pos_iff.mpr hx
    walk_at "rd"
    refine r_lenL hl ?_
    walk_at "rd"
    refine ⟨p, xs.length, n, rfl, by omega, by omega, hn, hw, fun d H1 d0 d1 s1 w1 => ?_⟩
    obtain ⟨v, e1, e2⟩ := atI_lt d0 d1
    exact r_ixL (s1.seq ne hl) e1 (k v H1 (List.mem_of_getElem? e2) s1 w1)
theorem pick_perm {α : Type} : ∀ {xs : List α} {i : Nat} (h : i < xs.length), ([xs[i]] ++ xs.eraseIdx i).Perm xs
  | x :: xs, 0, _ => List.Perm.refl _
  | x :: xs, i + 1, h => (List.Perm.swap x (xs[i]'(by simpa using h)) _).trans ((pick_perm (xs := xs) (i := i) (by simpa using h)).cons x)
def sp__law_part (K : PySem.W.Frag) (A : Adr) : Sp := fun vs H Q _ => ∃ (p l : Addr) (xs : List V) (m : Int) (n : Nat), vs = [.ref p, .ref l, .int m] ∧ SqL K H l xs ∧ l ≠ p ∧ 1 ≤ m ∧ m < 1000000 ∧ xs.length ≤ 100 ∧ n ≤ 100000000 ∧ WellAt H p n ∧
  ∀ g ys zs H', zs.Sublist xs → ys.Perm zs → H g = none → Sm p H H' → WellAt H' p (n + 200) → H' g = some (.lst ys) → Q (.ref g) H'
theorem ok__law_part (T : Txt K mg A) : FnOk P w K mg base CX0 2 A.f__law_part A.d__law_part P__law_part (sp__law_part K A) := by
  refine T.F__law_part.ok sc__law_part (fun vs H Q E h => ?_) (fun cdv Ar outer s H vs Q E hr h => ?_)
  · obtain ⟨p, l, xs, m, n, rfl, _⟩ := h; rfl
  · have hu := hu_of hr
    refine ⟨_, (pss_cons (ps_setLcM (i := 3) (own := [("_law_one", 4)]) rfl sc__law_part.nd rfl rfl (sw_true rfl rfl rfl (by decide +kernel)) (k_pil K rfl (pv 1)) (blkOk_by (N := N__law_part) (sc := defScope s__law_part) (by decide +kernel)) (fun _ _ _ _ _ => (pg_name (i := 4) sc__law_part.nd rfl (Or.inl rfl))) (fun _ _ _ _ _ => (pts_one (pt_cmpR op_eq (pe_call (ok__law_draw T) (hr.mono (by decide)) (by rfl) T.g__law_draw T.k__law_draw T.bi__law_draw .nil pass0 (pa_cons (pv 0) (pa_cons (pv 2) pa_nil))) pe_int (nomark _)))) (fun _ _ _ _ _ => (pv 4)))
        (pss_cons (ps_set (i := 5) sc__law_part.nd rfl (Or.inl rfl) (pe_lstM pa_nil))
        (pss_cons (ps_while PassesOwn.never (pt_cmpR (k_neL0 K rfl hu) (pv 3) (pe_lstM pa_nil) (nomark _))
          (pss_one (ps_expr (pe_bm PySem.F.plainAttrs_list PySem.F.slot_list_append PySem.F.type_list_append mt_append (pv 5) (pa_cons (pe_bm PySem.F.plainAttrs_list PySem.F.slot_list_pop PySem.F.type_list_pop mt_popAt (pv 3) (pa_cons (pe_call (ok__law_draw T) (hr.mono (by decide)) (by rfl) T.g__law_draw T.k__law_draw T.bi__law_draw .nil pass0 (pa_cons (pv 0) (pa_cons (pe_callB (k_len K rfl) (by rfl) T.b_len PySem.boot_len (pa_cons (pv 3) pa_nil)) pa_nil))) pa_nil)) pa_nil)))))
        (pss_one (ps_ret (pv 5)))))), ?_⟩
    obtain ⟨p, l, xs, m, n, rfl, hl, lp, m1, m2, lx, hn, hw, k⟩ := h
    walk_at "rd"
    refine ⟨l, rfl, ⟨_, hl⟩, ?_⟩
    refine lc_draw (walk_list (K := K) (a := l) (xs := xs)) (by omega) p n 1 hw (fun Hx sx => sx.seq lp hl) (fun i ys => ys.Sublist (xs.take i)) (List.Sublist.refl _) (fun i ys x Hx Hy hi sx wx hs hy => ?_) fun D ys H1 nD s1 w1 hs hD => ?_
    · obtain ⟨rfl, hx⟩ := hy
      have tk := take_snoc hx
      walk_at "rd"
      refine ⟨rfl, ?_⟩
      walk_at "rd"
      refine ⟨p, m, n + 1 * i, rfl, m1, m2, by omega, wx, fun d H2 d0 d1 s2 w2 => ?_⟩
      walk_at "rd"
      refine r_eq rfl ?_
      refine r_bl ?_
      refine r_ite (fun hd => ?_) (fun hd => ?_)
      · walk_at "rd"
        exact ⟨s2, w2.le (by omega), by rw [tk]; exact hs.append (List.Sublist.refl _)⟩
      · exact ⟨s2, w2.le (by omega), by rw [tk]; exact hs.trans (List.sublist_append_left _ _)⟩
    rw [List.take_length] at hs
    have ly := hs.length_le
    have Dp : D ≠ p := fun z => by rw [z] at nD; exact hw.some nD
    walk_at "rd"
    refine ⟨by simp, fun f H2 nf e2 hf => ?_⟩
    walk_at "rd"
    have fD : f ≠ D := fun z => by rw [z, hD] at nf; cases nf
    have fp : f ≠ p := fun z => w1.some (z ▸ nf)
    have nf0 : H f = none := sm_none s1 nf fp
    refine ⟨fun j σ' H' => ∃ (us fs : List V) (o4 : Option V), σ' = [some (.ref p), some (.ref l), some (.int m), some (.ref D), o4, some (.ref f)] ∧ Sm p H H' ∧ WellAt H' p (n + 100 + (ys.length - us.length)) ∧ H' D = some (.lst us) ∧ H' f = some (.lst fs) ∧ us.length = j ∧ (fs ++ us).Perm ys,
      ⟨ys.length, ys, [], _, rfl, s1.trans (Sm.of e2), (w1.up e2).le (by omega), e2 _ _ hD, hf, rfl, List.Perm.refl _⟩, ?_⟩
    rintro j σ' H3 ⟨us, fs, o4, rfl, s3, w3, hD3, hf3, lu, pm⟩
    have lfu : fs.length + us.length = ys.length := by rw [← List.length_append]; exact pm.length_eq
    walk_at "rd"
    refine ⟨by simp, fun b H4 nb e4 hb => ?_⟩
    refine r_neL0 (SqL.of (e4 _ _ hD3)) (SqL.of hb) ?_
    cases us with
    | nil =>
      refine r_bl ?_
      refine r_iteF rfl ?_
      walk_at "rd"
      rw [List.append_nil] at pm
      exact k f fs ys H4 hs pm nf0 (s3.trans (Sm.of e4)) ((w3.up e4).le (by omega)) (e4 _ _ hf3)
    | cons u ur =>
      refine r_bl ?_
      refine r_iteT rfl ?_
      cases j with
      | zero => exact absurd lu (by simp)
      | succ j =>
      refine ⟨fun σ' H' => ∃ (us fs : List V) (o4 : Option V), σ' = [some (.ref p), some (.ref l), some (.int m), some (.ref D), o4, some (.ref f)] ∧ Sm p H H' ∧ WellAt H' p (n + 100 + (ys.length - us.length)) ∧ H' D = some (.lst us) ∧ H' f = some (.lst fs) ∧ us.length = j ∧ (fs ++ us).Perm ys, fun σ' H' q => ⟨j, Nat.lt_succ_self _, q⟩, ?_⟩
      walk_at "rd"
      refine ⟨tyL (SqL.of (e4 _ _ hf3)), ?_⟩
      walk_at "rd"
      refine ⟨tyL (SqL.of (e4 _ _ hD3)), ?_⟩
      walk_at "rd"
      refine r_lenL (SqL.of (e4 _ _ hD3)) ?_
      walk_at "rd"
      refine ⟨p, _, _, rfl, by simp; omega, by omega, by omega, w3.up e4, fun d H5 d0 d1 s5 w5 => ?_⟩
      obtain ⟨i, rfl⟩ : ∃ i : Nat, d = (i : Int) := ⟨d.toNat, by omega⟩
      have hi : i < (u :: ur).length := by omega
      walk_at "rd"
      refine r_popAt (s5 _ _ Dp (e4 _ _ hD3)) (by omega) (List.getElem?_eq_getElem hi) fun H6 h6 s6 => ?_
      walk_at "rd"
      refine r_app (s6 _ _ fD (s5 _ _ fp (e4 _ _ hf3))) (by omega) fun H7 h7 s7 => ?_
      have le := List.length_eraseIdx_of_lt hi
      refine ⟨_, _, _, rfl, ((s3.trans (Sm.of e4)).trans s5).sm nD s6 |>.sm nf0 s7, ?_, s7 _ _ fD.symm h6, h7, by rw [le]; omega, ?_⟩
      · have w6 := hw_sm H6 f s7 fp.symm (hw_sm H5 D s6 Dp.symm w5)
        exact w6.le (by rw [le]; omega)
      · refine List.Perm.trans ?_ pm
        rw [List.append_assoc]
        refine List.Perm.append_left fs ?_
        exact pick_perm hi
/-- the j-th word that is spelled -/
structure SpOk (fi j : Nat) (w : Str) : Prop where
  wd : isWord w = true
  la : w.cps.toList.getLast? = some (97 + (fi + 7 * j) % 26)
  lo : j < 26 → w.length ≤ 3 ∨ w.length = 12
  hi : 26 ≤ j → 4 ≤ w.length ∧ w.length ≤ 6
def SpW (fi : Nat) (ws : List Str) : Prop := ∀ j w, ws[j]? = some w → SpOk fi j w
theorem SpW.nodup {fi : Nat} {ws : List Str} (h : SpW fi ws) (l : ws.length ≤ 52) : ws.Nodup := by
  refine List.pairwise_iff_getElem.mpr fun i j hi hj hij e => ?_
  have a := h i ws[i] (by simp)
  have b := h j ws[j] (by simp)
  have la : 97 + (fi + 7 * i) % 26 = 97 + (fi + 7 * j) % 26 := Option.some.inj (a.la.symm.trans (by rw [e]; exact b.la))
  have le : ws[i].length = ws[j].length := by rw [e]
  have a1 := a.lo
  have a2 := a.hi
  have b1 := b.lo
  have b2 := b.hi
  by_cases c1 : i < 26
  · by_cases c2 : j < 26
    · omega
    · have := a1 c1; have := b2 (by omega); omega
  · have c2 : ¬ j < 26 := by omega
    omega
theorem SpW.snoc {fi : Nat} {ws : List Str} {w : Str} (h : SpW fi ws) (q : SpOk fi ws.length w) : SpW fi (ws ++ [w]) := fun j x e => by
  rw [List.getElem?_append] at e
  split at e
  · exact h j x e
  · rename_i hl
    have e0 : j - ws.length = 0 := by
      have := (List.getElem?_eq_some_iff.mp e).1
      simp at this
      omega
    rw [e0] at e
    cases e
    obtain rfl : j = ws.length := by omega
    exact q
/-- a text of letters -/
def AllL (z : Str) : Prop := ∀ c ∈ z.cps.toList, c ∈ letters
theorem allL_nil : AllL "" := fun c hc => nomatch (show c ∈ ([] : List Nat) from hc)
theorem allL_sg {z : Str} {k : Nat} (h : AllL z) (hk : k < 26) : AllL (z ++ sg (97 + k)) := fun c hc => by
  rw [sg_app] at hc
  rcases List.mem_append.mp hc with hc | hc
  · exact h c hc
  · rw [List.mem_singleton.mp hc, letters_eq]
    exact List.mem_map.mpr ⟨k, List.mem_range.mpr hk, rfl⟩
theorem len_sg (z : Str) (l : Nat) : (z ++ sg l).length = z.length + 1 := by rw [str_len, sg_app, List.length_append, str_len]; rfl
theorem sp_mk {fi j r : Nat} {z : Str} (a : AllL z) (hl : z.length = r) (h1 : j < 26 → r ≤ 2 ∨ r = 11) (h2 : 26 ≤ j → 3 ≤ r ∧ r ≤ 5) : SpOk fi j (z ++ sg (97 + (fi + 7 * j) % 26)) := by
  have hk : (fi + 7 * j) % 26 < 26 := Nat.mod_lt _ (by decide)
  have ll : (z ++ sg (97 + (fi + 7 * j) % 26)).length = r + 1 := by rw [len_sg, hl]
  refine ⟨?_, by rw [sg_app]; simp, fun c => by rw [ll]; have := h1 c; omega, fun c => by rw [ll]; have := h2 c; omega⟩
  unfold isWord
  rw [ll]
  have b : r + 1 ≤ 12 := by
    by_cases c : j < 26
    · have := h1 c; omega
    · have := h2 (by omega); omega
  rw [decide_eq_true (show 1 ≤ r + 1 by omega), decide_eq_true b]
  simp only [Bool.true_and, List.all_eq_true, decide_eq_true_eq]
  exact allL_sg a hk
theorem fmod26 (a b : Nat) : Int.fmod ((a : Int) + 7 * (b : Int)) 26 = (((a + 7 * b) % 26 : Nat) : Int) := by
  rw [Int.fmod_eq_emod_of_nonneg _ (by decide)]
  omega
def sp__law_spelled (K : PySem.W.Frag) (A : Adr) : Sp := fun vs H Q _ => ∃ (p : Addr) (m n : Nat), vs = [.ref p, .int (m : Nat)] ∧ m ≤ 52 ∧ n ≤ 100000000 ∧ WellAt H p n ∧
  ∀ (g : Addr) (ws : List Str) (H' : Hp), ws.length = m → ws.Nodup → (∀ w ∈ ws, isWord w = true) → H g = none → Sm p H H' → WellAt H' p (n + 1100) → H' g = some (.lst (ws.map V.str)) → Q (.ref g) H'
theorem ok__law_spelled (T : Txt K mg A) : FnOk P w K mg base CX0 3 A.f__law_spelled A.d__law_spelled P__law_spelled (sp__law_spelled K A) := by
  refine T.F__law_spelled.ok sc__law_spelled (fun vs H Q E h => ?_) (fun cdv Ar outer s H vs Q E hr h => ?_)
  · obtain ⟨p, m, n, rfl, _⟩ := h; rfl
  · have hu := hu_of hr
    refine ⟨_, (pss_cons (ps_set (i := 2) sc__law_spelled.nd rfl (Or.inl rfl) pe_str)
        (pss_cons (ps_set (i := 3) sc__law_spelled.nd rfl (Or.inl rfl) (pe_call (ok__law_draw T) (hr.mono (by decide)) (by rfl) T.g__law_draw T.k__law_draw T.bi__law_draw .nil pass0 (pa_cons (pv 0) (pa_cons pe_int pa_nil))))
        (pss_cons (ps_set (i := 4) sc__law_spelled.nd rfl (Or.inl rfl) (pe_lstM pa_nil))
        (pss_cons (ps_for PassesOwn.never rfl (pi_range1 (by rfl) T.b_range (pa_cons (pv 1) pa_nil)) (pg_name (i := 5) sc__law_spelled.nd rfl (Or.inl rfl))
          (pss_cons (ps_set (i := 6) sc__law_spelled.nd rfl (Or.inl rfl) pe_str)
        (pss_cons (ps_for PassesOwn.never rfl (pi_range1 (by rfl) T.b_range (pa_cons (pe_m (pe_call (ok__law_pick T) (hr.mono (by decide)) (by rfl) T.g__law_pick T.k__law_pick T.bi__law_pick .nil pass0 (pa_cons (pv 0) (pa_cons (pe_ifExp (pt_cmpR op_lt (pv 5) pe_int (nomark _)) (pe_lstM (pa_cons pe_int (pa_cons pe_int (pa_cons pe_int (pa_cons pe_int (pa_cons pe_int pa_nil)))))) (pe_lstM (pa_cons pe_int (pa_cons pe_int (pa_cons pe_int pa_nil))))) pa_nil)))) pa_nil)) (pg_name (i := 7) sc__law_spelled.nd rfl (Or.inl rfl))
          (pss_one (ps_set (i := 6) sc__law_spelled.nd rfl (Or.inl rfl) (pe_op op_addSQ (pv 6) (pe_ix ix_str (pv 2) (pe_call (ok__law_draw T) (hr.mono (by decide)) (by rfl) T.g__law_draw T.k__law_draw T.bi__law_draw .nil pass0 (pa_cons (pv 0) (pa_cons pe_int pa_nil))) (fun _ _ => rfl))))))
        (pss_one (ps_expr (pe_bm PySem.F.plainAttrs_list PySem.F.slot_list_append PySem.F.type_list_append mt_append (pv 4) (pa_cons (pe_op op_addSQ (pv 6) (pe_ix ix_str (pv 2) (pe_op op_modN (pe_op op_add (pv 3) (pe_op op_mul pe_int (pv 5))) pe_int) (fun _ _ => rfl))) pa_nil)))))))
        (pss_one (ps_ret (pv 4))))))), ?_⟩
    obtain ⟨p, m, n, rfl, m52, hn, hw, k⟩ := h
    walk_at "rd"
    refine ⟨p, 26, n, rfl, by decide, by decide, by omega, hw, fun d H1 d0 d1 s1 w1 => ?_⟩
    obtain ⟨fi, rfl⟩ : ∃ i : Nat, d = (i : Int) := ⟨d.toNat, by omega⟩
    walk_at "rd"
    refine ⟨by simp, fun f H2 nf e2 hf => ?_⟩
    have fp : f ≠ p := fun z => w1.some (z ▸ nf)
    have nf0 : H f = none := sm_none s1 nf fp
    walk_at "rd"
    refine ⟨_, rfl, by omega, by omega, ?_⟩
    refine for_range (m := m) (fun i σ' H' => ∃ (ws : List Str) (o5 o6 o7 : Option V), σ' = [some (.ref p), some (.int (m : Nat)), some (.str "abcdefghijklmnopqrstuvwxyz"), some (.int (fi : Nat)), some (.ref f), o5, o6, o7] ∧ Sm p H H' ∧ WellAt H' p (n + 1 + 20 * i) ∧ H' f = some (.lst (ws.map V.str)) ∧ ws.length = i ∧ SpW fi ws)
      ⟨[], _, _, _, rfl, s1.trans (Sm.of e2), w1.up e2, hf, rfl, fun j w h => by simp at h⟩ ?_ fun σ' H' q => ?_
    rotate_left
    · obtain ⟨ws, o5, o6, o7, rfl, s3, w3, h3, lw, sw⟩ := q
      walk_at "rd"
      exact k f ws H' lw (sw.nodup (by omega)) (fun w hm => by obtain ⟨j, hj⟩ := List.getElem?_of_mem hm; exact (sw j w hj).wd) nf0 s3 (w3.le (by omega)) h3
    rintro i σ' H3 hi ⟨ws, o5, o6, o7, rfl, s3, w3, h3, lw, sw⟩
    walk_at "rd"
    refine r_mid (fun v H4 => ∃ r : Nat, v = .int (r : Nat) ∧ r ≤ 11 ∧ (i < 26 → r ≤ 2 ∨ r = 11) ∧ (26 ≤ i → 3 ≤ r ∧ r ≤ 5) ∧ Sm p H3 H4 ∧ WellAt H4 p (n + 2 + 20 * i)) ?_ ?_
    · walk_at "rd"
      refine r_ite (fun c => ?_) (fun c => ?_)
      · have c := of_decide_eq_true c
        walk_at "rd"
        refine ⟨by simp, fun b H4 nb e4 hb => ?_⟩
        walk_at "rd"
        refine ⟨p, b, _, _, rfl, SqL.of hb, fun z => w3.some (z ▸ nb), by simp, by simp, by omega, w3.up e4, fun v H5 hv s5 w5 => ?_⟩
        have : ∃ r : Nat, v = .int (r : Nat) ∧ r ≤ 11 ∧ (r ≤ 2 ∨ r = 11) := by
          simp only [List.mem_cons, List.not_mem_nil, or_false] at hv
          rcases hv with rfl | rfl | rfl | rfl | rfl
          · exact ⟨0, rfl, by decide, by decide⟩
          · exact ⟨1, rfl, by decide, by decide⟩
          · exact ⟨1, rfl, by decide, by decide⟩
          · exact ⟨2, rfl, by decide, by decide⟩
          · exact ⟨11, rfl, by decide, by decide⟩
        obtain ⟨r, rfl, r1, r2⟩ := this
        exact ⟨r, rfl, r1, fun _ => r2, fun z => by omega, (Sm.of e4).trans s5, w5.le (by omega)⟩
      · have c := of_decide_eq_false c
        walk_at "rd"
        refine ⟨by simp, fun b H4 nb e4 hb => ?_⟩
        walk_at "rd"
        refine ⟨p, b, _, _, rfl, SqL.of hb, fun z => w3.some (z ▸ nb), by simp, by simp, by omega, w3.up e4, fun v H5 hv s5 w5 => ?_⟩
        have : ∃ r : Nat, v = .int (r : Nat) ∧ 3 ≤ r ∧ r ≤ 5 := by
          simp only [List.mem_cons, List.not_mem_nil, or_false] at hv
          rcases hv with rfl | rfl | rfl
          · exact ⟨3, rfl, by decide, by decide⟩
          · exact ⟨4, rfl, by decide, by decide⟩
          · exact ⟨5, rfl, by decide, by decide⟩
        obtain ⟨r, rfl, r1, r2⟩ := this
        exact ⟨r, rfl, by omega, fun z => by omega, fun _ => ⟨r1, r2⟩, (Sm.of e4).trans s5, w5.le (by omega)⟩
    rintro v H4 ⟨r, rfl, r11, r1, r2, s4, w4⟩
    walk_at "rd"
    refine ⟨_, rfl, by omega, by omega, ?_⟩
    have fl4 := s4 _ _ fp h3
    refine for_range (m := r) (fun j σ' H' => ∃ (z : Str) (o7 : Option V), σ' = [some (.ref p), some (.int (m : Nat)), some (.str "abcdefghijklmnopqrstuvwxyz"), some (.int (fi : Nat)), some (.ref f), some (.int (i : Nat)), some (.str z), o7] ∧ Sm p H3 H' ∧ WellAt H' p (n + 2 + 20 * i + j) ∧ z.length = j ∧ AllL z)
      ⟨"", _, rfl, s4, w4, rfl, allL_nil⟩ ?_ fun σ' H' q => ?_
    · rintro j σ' H5 hj ⟨z, o7, rfl, s5, w5, lz, az⟩
      walk_at "rd"
      refine ⟨p, 26, _, rfl, by decide, by decide, by omega, w5, fun d H6 d0 d1 s6 w6 => ?_⟩
      obtain ⟨c, rfl⟩ : ∃ i : Nat, d = (i : Int) := ⟨d.toNat, by omega⟩
      refine r_ixS alpha_len (alpha_at (by omega)) ?_
      refine r_addS (by show _ + 1 ≤ 100000; omega) ?_
      walk_at "rd"
      exact ⟨_, _, rfl, s5.trans s6, w6, by rw [len_sg, lz], allL_sg az (by omega)⟩
    obtain ⟨z, o7, rfl, s5, w5, lz, az⟩ := q
    have f5 := s5 _ _ fp h3
    walk_at "rd"
    refine ⟨tyL (SqL.of f5), ?_⟩
    walk_at "rd"
    refine r_I (.inl ⟨by decide, by decide⟩) ?_
    walk_at "rd"
    refine r_I (by decide) ?_
    rw [fmod26]
    refine r_ixS alpha_len (alpha_at (Nat.mod_lt _ (by decide))) ?_
    refine r_addS (by show _ + 1 ≤ 100000; omega) ?_
    walk_at "rd"
    refine r_app f5 (by rw [List.length_map]; omega) fun H6 h6 s6 => ?_
    refine ⟨ws ++ [z ++ sg (97 + (fi + 7 * i) % 26)], _, _, _, rfl, (s3.trans s5).sm nf0 s6, (hw_sm H' f s6 fp.symm w5).le (by omega), by rw [h6, List.map_append]; rfl, by simp [lw], ?_⟩
    have q := sp_mk (fi := fi) (j := i) az lz r1 r2
    rw [← lw] at q ⊢
    exact sw.snoc q
theorem cut_take (xs : List V) (k : Nat) : cutV xs none (some (k : Int)) = xs.take k := by
  unfold cutV
  rw [HT.sIx_none, HT.sIx_nat, List.drop_zero, Nat.sub_zero]
  rcases Nat.le_total k xs.length with h | h
  · rw [Nat.min_eq_left h]
  · rw [Nat.min_eq_right h, List.take_length, List.take_of_length_le h]
theorem cut_drop (xs : List V) (k : Nat) (h : k ≤ xs.length) : cutV xs (some (k : Int)) none = xs.drop k := by
  unfold cutV
  rw [HT.sIx_none, HT.sIx_nat, Nat.min_eq_left h, List.take_of_length_le (by rw [List.length_drop]; exact Nat.le_refl _)]
def unS : V → Str
  | .str z => z
  | _ => ""
theorem unS_map (xs : List Str) : (xs.map V.str).map unS = xs := by rw [List.map_map]; exact List.map_id'' (fun _ => rfl) _
/-- what part hands back of texts: a part of them, in some order -/
theorem part_strs {xs : List Str} {ys zs : List V} (h : zs.Sublist (xs.map V.str)) (p : ys.Perm zs) : ∃ us vs : List Str, us.Sublist xs ∧ vs.Perm us ∧ ys = vs.map V.str := by
  refine ⟨zs.map unS, ys.map unS, by have := h.map unS; rwa [unS_map] at this, p.map unS, ?_⟩
  rw [List.map_map]
  have : ys.map (V.str ∘ unS) = ys.map id := List.map_congr_left fun y hy => by
    obtain ⟨z, _, rfl⟩ := List.mem_map.mp (h.subset (p.subset hy))
    rfl
  rw [this, List.map_id]
/-- a library of a table: as it may be drawn -/
structure TOk (l : Lb) : Prop where
  ok : l.Ok
  n1 : l.nm ∉ l.ns
  wn : l.wk.Nodup
  ws : ∀ z ∈ l.wk, z ∈ l.us
theorem aw_strs {m : Nat} {ws : List Str} (l : ws.length ≤ m) (nd : ws.Nodup) (wd : ∀ w ∈ ws, isWord w = true) : areWords m (ws.map V.str) = true := by
  unfold areWords
  rw [decide_eq_true (by rw [List.length_map]; omega), decide_eq_true ((nd_strs ws).mpr nd)]
  have : (ws.map V.str).all isWordV = true := by
    rw [List.all_map, List.all_eq_true]
    exact fun w hw => wd w hw
  rw [this]
  rfl
theorem TOk.bad {l : Lb} (h : TOk l) : libBad (.str l.nm) (some (l.ns.map V.str)) (some (l.df.map V.str)) (some (l.us.map V.str)) (some (l.wk.map V.str)) true true = none := by
  have a0 : isWordV (.str l.nm) = true := h.ok.nm
  have a1 : okT 12 (some (l.ns.map V.str)) = true := aw_strs h.ok.nl h.ok.nn h.ok.ns
  have a2 : okT 20 (some (l.df.map V.str)) = true := aw_strs h.ok.dl h.ok.dn h.ok.df
  have a3 : okT 20 (some (l.us.map V.str)) = true := aw_strs h.ok.ul h.ok.un h.ok.us
  have a4 : okT 20 (some (l.wk.map V.str)) = true := aw_strs h.ok.wl h.wn fun w hw => h.ok.us w (h.ws w hw)
  have a5 : inV (.str l.nm) (its (some (l.ns.map V.str))) = false := by
    show inV (.str l.nm) (l.ns.map V.str) = false
    rw [inV_str]; exact decide_eq_false h.n1
  have a6 : ((its (some (l.wk.map V.str))).all fun z => inV z (its (some (l.us.map V.str)))) = true := by
    show ((l.wk.map V.str).all fun z => inV z (l.us.map V.str)) = true
    rw [List.all_map, List.all_eq_true]
    intro w hw
    show inV (.str w) (l.us.map V.str) = true
    rw [inV_str]; exact decide_eq_true (h.ws w hw)
  unfold libBad
  rw [a0, a1, a2, a3, a4, a5, a6]
  rfl
/-- its six values stand at x -/
def RowAt (K : PySem.W.Frag) (H : Hp) (x : V) (l : Lb) : Prop := ∃ a t1 t2 t3 t4, x = .ref a ∧ SqT K H a [.ref t1, .ref t2, .ref t3, .ref t4, .bl l.eg, .bl l.fi] ∧ SqT K H t1 (l.ns.map V.str) ∧ SqT K H t2 (l.df.map V.str) ∧ SqT K H t3 (l.us.map V.str) ∧ SqT K H t4 (l.wk.map V.str)
theorem RowAt.up {K : PySem.W.Frag} {H H' : Hp} {x : V} {l : Lb} (e : Ex H H') (h : RowAt K H x l) : RowAt K H' x l := by
  obtain ⟨a, t1, t2, t3, t4, h1, h2, h3, h4, h5, h6⟩ := h
  exact ⟨a, t1, t2, t3, t4, h1, ex_t e h2, ex_t e h3, ex_t e h4, ex_t e h5, ex_t e h6⟩
/-- what is no tuple there is written: the tuples stand -/
def NoT (H : Hp) (p : Addr) : Prop := ∃ o, H p = some o ∧ ∀ xs oo, o ≠ .tup xs ∧ o ≠ .frz oo (.tup xs)
theorem hq_not {K : PySem.W.Frag} {H H1 : Hp} {p a : Addr} {xs : List V} (s : Sm p H H1) (w : NoT H p) (h : SqT K H a xs) : SqT K H1 a xs := by
  obtain ⟨o, ho, no⟩ := w
  rcases h with (h | ⟨oo, h⟩) | h
  · exact .inl (.inl (s _ _ (fun z => by rw [z, ho] at h; exact (no xs default).1 (Option.some.inj h)) h))
  · exact .inl (.inr ⟨oo, s _ _ (fun z => by rw [z, ho] at h; exact (no xs oo).2 (Option.some.inj h)) h⟩)
  · exact .inr h
theorem RowAt.sm {K : PySem.W.Frag} {H H1 : Hp} {p : Addr} {x : V} {l : Lb} (s : Sm p H H1) (w : NoT H p) (h : RowAt K H x l) : RowAt K H1 x l := by
  obtain ⟨a, t1, t2, t3, t4, h1, h2, h3, h4, h5, h6⟩ := h
  exact ⟨a, t1, t2, t3, t4, h1, hq_not s w h2, hq_not s w h3, hq_not s w h4, hq_not s w h5, hq_not s w h6⟩
theorem well_not {H : Hp} {p : Addr} {n : Nat} (w : WellAt H p n) : NoT H p := by
  obtain ⟨a, b, c, h, _⟩ := w
  exact ⟨_, h, fun xs oo => ⟨fun z => (nomatch z), fun z => (nomatch z)⟩⟩
theorem perm_mem {α : Type} {us vs xs : List α} (s : us.Sublist xs) (p : vs.Perm us) {z : α} (h : z ∈ vs) : z ∈ xs := s.subset (p.subset h)
theorem perm_nd {α : Type} {us vs xs : List α} (s : us.Sublist xs) (p : vs.Perm us) (h : xs.Nodup) : vs.Nodup := p.nodup_iff.mpr (s.nodup h)
theorem perm_len {α : Type} {us vs xs : List α} (s : us.Sublist xs) (p : vs.Perm us) : vs.length ≤ xs.length := by rw [p.length_eq]; exact s.length_le
/-- needs as drawn: some of the other words, perhaps the absent one -/
structure Below (w : Str) (ws : List Str) (go : Str) (us : List Str) : Prop where
  nd : us.Nodup
  mem : ∀ z ∈ us, (z ∈ ws ∧ z ≠ w) ∨ z = go
  len : us.length ≤ 12
def sp__law_library (K : PySem.W.Frag) (A : Adr) : Sp := fun vs H Q _ => ∃ (p a s : Addr) (w go w0 : Str) (wr ss : List Str) (n : Nat), vs = [.ref p, .str w, .ref a, .str go, .ref s] ∧ SqL K H a ((w0 :: wr).map V.str) ∧ SqL K H s (ss.map V.str) ∧ a ≠ p ∧ s ≠ p ∧ w ∈ w0 :: wr ∧ wr.length ≤ 60 ∧ (w0 :: wr).Nodup ∧
  (∀ z ∈ w0 :: wr, isWord z = true) ∧ isWord go = true ∧ go ∉ w0 :: wr ∧ ss.length ≤ 20 ∧ ss.Nodup ∧ (∀ z ∈ ss, isWord z = true) ∧ n ≤ 90000000 ∧ WellAt H p n ∧
  ∀ x l H', l.nm = w → TOk l → (∀ z ∈ l.ns, z ∈ w0 :: wr ∨ z = go) → (∀ z ∈ l.df, z ∈ ss) → (∀ z ∈ l.us, z ∈ ss) → (w = w0 → l.ns = []) → RowAt K H' x l → Sm p H H' → WellAt H' p (n + 1000) → Q x H'
theorem ok__law_library (T : Txt K mg A) : FnOk P w K mg base CX0 3 A.f__law_library A.d__law_library P__law_library (sp__law_library K A) := by
  refine T.F__law_library.ok sc__law_library (fun vs H Q E h => ?_) (fun cdv Ar outer s H vs Q E hr h => ?_)
  · obtain ⟨p, a, s, w, go, w0, wr, ss, n, rfl, _⟩ := h; rfl
  · have hu := hu_of hr
    refine ⟨_, (pss_cons (ps_set (i := 5) sc__law_library.nd rfl (Or.inl rfl) (pe_slice (k_slL K rfl) (pe_call (ok__law_part T) (hr.mono (by decide)) (by rfl) T.g__law_part T.k__law_part T.bi__law_part .nil pass0 (pa_cons (pv 0) (pa_cons (pe_lcM (own := [("_law_one", 6)]) rfl sc__law_library.nd (k_pil K rfl (pv 2)) (blkOk_by (N := N__law_library) (sc := defScope s__law_library) (by decide +kernel)) (fun _ _ _ _ _ => (pg_name (i := 6) sc__law_library.nd rfl (Or.inl rfl))) (fun _ _ _ _ _ => (pts_one (pt_cmpR op_ne (pv 6) (pv 1) (nomark _)))) (fun _ _ _ _ _ => (pv 6))) (pa_cons (pe_call (ok__law_pick T) (hr.mono (by decide)) (by rfl) T.g__law_pick T.k__law_pick T.bi__law_pick .nil pass0 (pa_cons (pv 0) (pa_cons (pe_lstM (pa_cons pe_int (pa_cons pe_int (pa_cons pe_int pa_nil)))) pa_nil))) pa_nil)))) po_none (po_some pe_int)))
        (pss_cut (ps_if (pt_cmpR op_eq (pe_call (ok__law_draw T) (hr.mono (by decide)) (by rfl) T.g__law_draw T.k__law_draw T.bi__law_draw .nil pass0 (pa_cons (pv 0) (pa_cons pe_int pa_nil))) pe_int (nomark _))
          (pss_cons (ps_set (i := 7) sc__law_library.nd rfl (Or.inl rfl) (pe_call (ok__law_draw T) (hr.mono (by decide)) (by rfl) T.g__law_draw T.k__law_draw T.bi__law_draw .nil pass0 (pa_cons (pv 0) (pa_cons (pe_op op_add (pe_callB (k_len K rfl) (by rfl) T.b_len PySem.boot_len (pa_cons (pv 5) pa_nil)) pe_int) pa_nil))))
        (pss_one (ps_set (i := 5) sc__law_library.nd rfl (Or.inl rfl) (pe_op op_catM (pe_op op_catM (pe_slice (k_slL K rfl) (pv 5) po_none (po_some (pv 7))) (pe_lstM (pa_cons (pv 3) pa_nil))) (pe_slice (k_slL K rfl) (pv 5) (po_some (pv 7)) po_none)))))
          pss_nil)
        (pss_cut (ps_if (pt_cmpR op_eq (pv 1) (pe_ix (k_ixL K rfl) (pv 2) pe_int (fun _ _ => rfl)) (nomark _))
          (pss_one (ps_set (i := 5) sc__law_library.nd rfl (Or.inl rfl) (pe_lstM pa_nil)))
          pss_nil)
        (pss_cons (ps_set (i := 8) sc__law_library.nd rfl (Or.inl rfl) (pe_call (ok__law_part T) (hr.mono (by decide)) (by rfl) T.g__law_part T.k__law_part T.bi__law_part .nil pass0 (pa_cons (pv 0) (pa_cons (pv 4) (pa_cons (pe_call (ok__law_pick T) (hr.mono (by decide)) (by rfl) T.g__law_pick T.k__law_pick T.bi__law_pick .nil pass0 (pa_cons (pv 0) (pa_cons (pe_lstM (pa_cons pe_int (pa_cons pe_int (pa_cons pe_int pa_nil)))) pa_nil))) pa_nil)))))
        (pss_cons (ps_set (i := 9) sc__law_library.nd rfl (Or.inl rfl) (pe_call (ok__law_part T) (hr.mono (by decide)) (by rfl) T.g__law_part T.k__law_part T.bi__law_part .nil pass0 (pa_cons (pv 0) (pa_cons (pv 4) (pa_cons pe_int pa_nil)))))
        (pss_cons (ps_set (i := 10) sc__law_library.nd rfl (Or.inl rfl) (pe_call (ok__law_part T) (hr.mono (by decide)) (by rfl) T.g__law_part T.k__law_part T.bi__law_part .nil pass0 (pa_cons (pv 0) (pa_cons (pv 9) (pa_cons pe_int pa_nil)))))
        (pss_cons (ps_set (i := 11) sc__law_library.nd rfl (Or.inl rfl) (pe_tupM (pa_cons (pe_cmpR op_eq (pe_call (ok__law_draw T) (hr.mono (by decide)) (by rfl) T.g__law_draw T.k__law_draw T.bi__law_draw .nil pass0 (pa_cons (pv 0) (pa_cons pe_int pa_nil))) pe_int (nomark _)) (pa_cons (pe_cmpR op_eq (pe_call (ok__law_draw T) (hr.mono (by decide)) (by rfl) T.g__law_draw T.k__law_draw T.bi__law_draw .nil pass0 (pa_cons (pv 0) (pa_cons pe_int pa_nil))) pe_int (nomark _)) pa_nil))))
        (pss_one (ps_ret (pe_op (k_catT K rfl) (pe_tupM (pa_cons (pe_callTy (k_tup K rfl) (by rfl) T.b_tuple (by decide +kernel) (pa_cons (pv 5) pa_nil)) (pa_cons (pe_callTy (k_tup K rfl) (by rfl) T.b_tuple (by decide +kernel) (pa_cons (pv 8) pa_nil)) (pa_cons (pe_callTy (k_tup K rfl) (by rfl) T.b_tuple (by decide +kernel) (pa_cons (pv 9) pa_nil)) (pa_cons (pe_callTy (k_tup K rfl) (by rfl) T.b_tuple (by decide +kernel) (pa_cons (pv 10) pa_nil)) pa_nil))))) (pv 11))))))))))), ?_⟩
    obtain ⟨p, a, s, w, go, w0, wr, ss, n, rfl, ha, hs, ap, sp, hw, lw, nw, wd, wg, ng, ls, ns, sd, hn, we, k⟩ := h
    walk_at "rd"
    refine ⟨a, rfl, ⟨_, ha⟩, ?_⟩
    refine lc_strL ha (by simp; omega) (fun z => !decide (V.str z = V.str w)) V.str (fun z Hx hz ex => ?_) fun D H1 nD e1 hD => ?_
    · walk_at "rd"
      refine ⟨rfl, ?_⟩
      walk_at "rd"
      refine r_ne rfl ?_
      refine r_bl ⟨rfl, ?_⟩
      refine r_ite (fun c => ?_) (fun c => ?_)
      · walk_at "rd"
        exact ⟨Ex.refl _, rfl⟩
      · exact Ex.refl _
    walk_at "rd"
    refine ⟨by simp, fun b H2 nb e2 hb => ?_⟩
    have w2 := we.up (e1.trans e2)
    walk_at "rd"
    refine ⟨p, b, _, n, rfl, SqL.of hb, fun z => (we.up e1).some (z ▸ nb), by simp, by simp, by omega, w2, fun v H3 hv s3 w3 => ?_⟩
    have : ∃ r : Int, v = .int r ∧ 1 ≤ r ∧ r ≤ 5 := by
      simp only [List.mem_cons, List.not_mem_nil, or_false] at hv
      rcases hv with rfl | rfl | rfl <;> exact ⟨_, rfl, by decide, by decide⟩
    obtain ⟨r, rfl, r1, r2⟩ := this
    have Dp : D ≠ p := fun z => we.some (z ▸ nD)
    have hD3 := s3 _ _ Dp (e2 _ _ hD)
    have lwf : ((w0 :: wr).filter fun z => !decide (V.str z = V.str w)).length ≤ 61 := Nat.le_trans (List.length_filter_le _ _) (by simp; omega)
    refine ⟨p, D, _, r, n + 1, rfl, SqL.of hD3, Dp, r1, by omega, by rw [List.length_map]; omega, by omega, w3, fun g ys zs H4 zsub yp ng4 s4 w4 h4 => ?_⟩
    obtain ⟨us, vs, us1, vp, rfl⟩ := part_strs zsub yp
    walk_at "rd"
    refine r_slL (SqL.of h4) fun g2 H5 ng5 e5 h5 => ?_
    rw [show ((some 11 : Option Int)) = some ((11 : Nat) : Int) from rfl, cut_take, ← List.map_take] at h5
    have s05 : Sm p H H5 := (((Sm.of (e1.trans e2)).trans s3).trans s4).trans (Sm.of e5)
    have w5 := w4.up e5
    have be : Below w (w0 :: wr) go (vs.take 11) := by
      refine ⟨(perm_nd us1 vp (nw.filter _)).sublist (List.take_sublist ..), fun z hz => .inl ?_, by rw [List.length_take]; omega⟩
      have := List.mem_filter.mp (perm_mem us1 vp (List.mem_of_mem_take hz))
      exact ⟨this.1, by simpa using this.2⟩
    have lt11 : (vs.take 11).length ≤ 11 := by rw [List.length_take]; omega
    have nbg : go ∉ vs.take 11 := fun z => ng (List.mem_filter.mp (perm_mem us1 vp (List.mem_of_mem_take z))).1
    generalize vs.take 11 = bs at h5 be lt11 nbg
    clear h4 us1 vp yp zsub
    walk_at "rd"
    refine r_cut (fun σ' H' => ∃ (b : Addr) (us : List Str) (o6 o7 : Option V), σ' = [some (.ref p), some (.str w), some (.ref a), some (.str go), some (.ref s), some (.ref b), o6, o7, none, none, none, none] ∧ b ≠ p ∧ H' b = some (.lst (us.map V.str)) ∧ Below w (w0 :: wr) go us ∧ Sm p H H' ∧ WellAt H' p (n + 210)) ?_ ?_
    · walk_at "rd"
      refine ⟨p, 20, _, rfl, by decide, by decide, by omega, w5, fun d H6 d0 d1 s6 w6 => ?_⟩
      walk_at "rd"
      have gp : g2 ≠ p := fun z => w4.some (z ▸ ng5)
      have h6 := s6 _ _ gp h5
      refine r_eq rfl ?_
      refine r_bl ?_
      refine r_ite (fun c => ?_) (fun c => ?_)
      · walk_at "rd"
        refine r_lenL (SqL.of h6) ?_
        walk_at "rd"
        refine ⟨p, _, _, rfl, by omega, by rw [List.length_map]; omega, by omega, w6, fun d H7 d0 d1 s7 w7 => ?_⟩
        rw [List.length_map] at d1
        obtain ⟨i, rfl⟩ : ∃ i : Nat, d = (i : Int) := ⟨d.toNat, by omega⟩
        have h7 := s7 _ _ gp h6
        walk_at "rd"
        refine r_slL (SqL.of h7) fun g3 H8 ng8 e8 h8 => ?_
        walk_at "rd"
        refine ⟨by simp, fun g4 H9 ng9 e9 h9 => ?_⟩
        refine r_catM (e9 _ _ h8) h9 (by have := cutV_length (bs.map V.str) none (some (i : Int)); rw [List.length_map] at this; simp only [List.length_cons, List.length_nil]; omega) fun g5 H10 ng10 e10 h10 => ?_
        walk_at "rd"
        have h710 : Ex H7 H10 := e8.trans (e9.trans e10)
        refine r_slL (SqL.of (h710 _ _ h7)) fun g6 H11 ng11 e11 h11 => ?_
        refine r_catM (e11 _ _ h10) h11 (by
          have q1 := cutV_length (bs.map V.str) none (some (i : Int))
          have q2 := cutV_length (bs.map V.str) (some (i : Int)) none
          rw [List.length_map] at q1 q2
          rw [List.length_append]
          simp only [List.length_cons, List.length_nil]; omega) fun g7 H12 ng12 e12 h12 => ?_
        walk_at "rd"
        have il : i ≤ (bs.map V.str).length := by rw [List.length_map]; omega
        rw [cut_take, cut_drop _ _ il, ← List.map_take, ← List.map_drop] at h12
        refine ⟨g7, bs.take i ++ go :: bs.drop i, _, _, rfl, fun z => ((w7.up h710).up e11).some (z ▸ ng12), ?_, ⟨?_, fun z hz => ?_, ?_⟩, ((s05.trans s6).trans s7).trans (Sm.of (h710.trans (e11.trans e12))), (w7.up (h710.trans (e11.trans e12))).le (by omega)⟩
        · rw [h12, List.map_append, List.map_cons, List.append_assoc]; rfl
        · refine (List.perm_middle.nodup_iff).mpr (List.nodup_cons.mpr ⟨?_, by rw [List.take_append_drop]; exact be.nd⟩)
          rw [List.take_append_drop]
          exact nbg
        · rw [List.perm_middle.mem_iff, List.take_append_drop] at hz
          rcases List.mem_cons.mp hz with rfl | hz
          · exact .inr rfl
          · exact be.mem z hz
        · rw [List.perm_middle.length_eq, List.take_append_drop, List.length_cons]; omega
      · walk_at "rd"
        exact ⟨g2, bs, _, _, rfl, gp, h6, be, s05.trans s6, w6.le (by omega)⟩
    clear h5 be lt11 nbg w5 s05 w4 s4 hD3 w3 s3 w2 hb hD
    rintro σ' H1 ⟨b, us, o6, o7, rfl, bp, hb, be, s1, w1⟩
    walk_at "rd"
    refine r_cut (fun σ' H' => ∃ (b : Addr) (us : List Str) (o6 o7 : Option V), σ' = [some (.ref p), some (.str w), some (.ref a), some (.str go), some (.ref s), some (.ref b), o6, o7, none, none, none, none] ∧ b ≠ p ∧ H' b = some (.lst (us.map V.str)) ∧ Below w (w0 :: wr) go us ∧ (w = w0 → us = []) ∧ Sm p H H' ∧ WellAt H' p (n + 210)) ?_ ?_
    · walk_at "rd"
      refine r_ixL (s1.seq ap ha) (atI_nat (j := 0) rfl) ?_
      refine r_eq rfl ?_
      refine r_bl ?_
      refine r_ite (fun c => ?_) (fun c => ?_)
      · walk_at "rd"
        refine ⟨by simp, fun b2 H2 nb2 e2 hb2 => ?_⟩
        walk_at "rd"
        exact ⟨b2, [], _, _, rfl, fun z => w1.some (z ▸ nb2), hb2, ⟨List.nodup_nil, fun z hz => (nomatch hz), by simp⟩, fun _ => rfl, s1.trans (Sm.of e2), w1.up e2⟩
      · walk_at "rd"
        exact ⟨b, us, _, _, rfl, bp, hb, be, fun z => absurd (congrArg V.str z) (by simpa using c), s1, w1⟩
    clear hb be w1 s1 bp us b o6 o7
    rintro σ' H1 ⟨b, us, o6, o7, rfl, bp, hb, be, e0, s1, w1⟩
    walk_at "rd"
    refine ⟨by simp, fun b2 H2 nb2 e2 hb2 => ?_⟩
    walk_at "rd"
    refine ⟨p, b2, _, _, rfl, SqL.of hb2, fun z => w1.some (z ▸ nb2), by simp, by simp, by omega, w1.up e2, fun v H3 hv s3 w3 => ?_⟩
    have : ∃ r : Int, v = .int r ∧ 1 ≤ r ∧ r ≤ 5 := by
      simp only [List.mem_cons, List.not_mem_nil, or_false] at hv
      rcases hv with rfl | rfl | rfl <;> exact ⟨_, rfl, by decide, by decide⟩
    obtain ⟨r, rfl, r1, r2⟩ := this
    have ssl : (ss.map V.str).length ≤ 100 := by rw [List.length_map]; omega
    walk_at "rd"
    refine ⟨p, s, _, r, _, rfl, by walk_at "ht", sp, r1, by omega, ssl, by omega, w3, fun g ys zs H4 zsub yp ng4 s4 w4 h4 => ?_⟩
    obtain ⟨du, dv, du1, dvp, rfl⟩ := part_strs zsub yp
    walk_at "rd"
    refine ⟨p, s, _, 2, _, rfl, by walk_at "ht", sp, by decide, by decide, ssl, by omega, w4, fun g5 ys5 zs5 H5 zsub5 yp5 ng5 s5 w5 h5 => ?_⟩
    obtain ⟨uu, uv, uu1, uvp, rfl⟩ := part_strs zsub5 yp5
    have g5p : g5 ≠ p := fun z => w4.some (z ▸ ng5)
    have dl := perm_len du1 dvp
    have ul := perm_len uu1 uvp
    walk_at "rd"
    refine ⟨p, g5, _, 3, _, rfl, SqL.of h5, g5p, by decide, by decide, by rw [List.length_map]; omega, by omega, w5, fun g6 ys6 zs6 H6 zsub6 yp6 ng6 s6 w6 h6 => ?_⟩
    obtain ⟨ku, kv, ku1, kvp, rfl⟩ := part_strs zsub6 yp6
    have kl := perm_len ku1 kvp
    walk_at "rd"
    refine ⟨p, 4, _, rfl, by decide, by decide, by omega, w6, fun d H7 d0 d1 s7 w7 => ?_⟩
    walk_at "rd"
    refine r_eq rfl ?_
    walk_at "rd"
    refine ⟨p, 3, _, rfl, by decide, by decide, by omega, w7, fun d' H8 d0' d1' s8 w8 => ?_⟩
    walk_at "rd"
    refine r_eq rfl ?_
    walk_at "rd"
    refine ⟨by simp, fun t H9 nt e9 ht => ?_⟩
    walk_at "rd"
    refine r_tupL (by walk_at "ht") fun t1 H10 n10 e10 h10 => ?_
    walk_at "rd"
    refine r_tupL (by walk_at "ht") fun t2 H11 n11 e11 h11 => ?_
    walk_at "rd"
    refine r_tupL (by walk_at "ht") fun t3 H12 n12 e12 h12 => ?_
    walk_at "rd"
    refine r_tupL (by walk_at "ht") fun t4 H13 n13 e13 h13 => ?_
    walk_at "rd"
    refine ⟨by simp, fun t5 H14 n14 e14 h14 => ?_⟩
    walk_at "rd"
    refine r_catTM (hq_at h14) (hq_at (by walk_at "ht")) (by simp) fun t6 H15 e15 h15 => ?_
    have sd' : Sm p H H15 := by walk_at "sm"
    have wz : WellAt H15 p (n + 1000) := ((((((w8.up e9).up e10).up e11).up e12).up e13).up e14 |>.up e15).le (by omega)
    refine k (.ref t6) ⟨w, us, dv, uv, kv, _, _⟩ H15 rfl ⟨⟨wd w hw, fun z hz => ?_, fun z hz => sd z (perm_mem du1 dvp hz), fun z hz => sd z (perm_mem uu1 uvp hz), be.nd, perm_nd du1 dvp ns, perm_nd uu1 uvp ns, be.len, ?_, ?_, ?_⟩, fun z => ?_, perm_nd ku1 kvp (perm_nd uu1 uvp ns), fun z hz => perm_mem ku1 kvp hz⟩
      (fun z hz => (be.mem z hz).imp And.left id) (fun z hz => perm_mem du1 dvp hz) (fun z hz => perm_mem uu1 uvp hz) e0 ⟨t6, t1, t2, t3, t4, rfl, h15, hq_at (by walk_at "ht"), hq_at (by walk_at "ht"), hq_at (by walk_at "ht"), hq_at (by walk_at "ht")⟩ sd' wz
    · rcases be.mem z hz with h | rfl
      · exact wd z h.1
      · exact wg
    · show dv.length ≤ 20; omega
    · show uv.length ≤ 20; omega
    · show kv.length ≤ 20; omega
    · rcases be.mem w z with h | h
      · exact h.2 rfl
      · exact ng (h ▸ hw)
/-- the pairs of a table stand for these libraries -/
def RowsAt (K : PySem.W.Frag) (H : Hp) (kvs : List (Str × V)) (ls : List Lb) : Prop := kvs.map (·.1) = names ls ∧ ∀ (i : Nat) kv l, kvs[i]? = some kv → ls[i]? = some l → RowAt K H kv.2 l
theorem RowsAt.up {K : PySem.W.Frag} {H H' : Hp} {kvs : List (Str × V)} {ls : List Lb} (e : Ex H H') (h : RowsAt K H kvs ls) : RowsAt K H' kvs ls := ⟨h.1, fun i kv l a b => (h.2 i kv l a b).up e⟩
theorem RowsAt.sm {K : PySem.W.Frag} {H H' : Hp} {p : Addr} {kvs : List (Str × V)} {ls : List Lb} (s : Sm p H H') (w : NoT H p) (h : RowsAt K H kvs ls) : RowsAt K H' kvs ls := ⟨h.1, fun i kv l a b => (h.2 i kv l a b).sm s w⟩
theorem RowsAt.len {K : PySem.W.Frag} {H : Hp} {kvs : List (Str × V)} {ls : List Lb} (h : RowsAt K H kvs ls) : kvs.length = ls.length := by
  have := congrArg List.length h.1
  unfold names at this
  rwa [List.length_map, List.length_map] at this
theorem RowsAt.snoc {K : PySem.W.Frag} {H : Hp} {kvs : List (Str × V)} {ls : List Lb} {x : V} {l : Lb} (h : RowsAt K H kvs ls) (r : RowAt K H x l) : RowsAt K H (kvs ++ [(l.nm, x)]) (ls ++ [l]) := by
  refine ⟨by rw [List.map_append, h.1]; unfold names; rw [List.map_append]; rfl, fun i kv l2 a b => ?_⟩
  have ln := h.len
  rw [List.getElem?_append] at a b
  rw [← ln] at b
  split at a
  · rename_i hl
    rw [if_pos hl] at b
    exact h.2 i kv l2 a b
  · rename_i hl
    rw [if_neg hl] at b
    have e : i - kvs.length = 0 := by
      have := (List.getElem?_eq_some_iff.mp a).1
      simp at this
      omega
    rw [e] at a b
    cases a; cases b
    exact r
/-- the table of these libraries stands at d, and nothing writes there any more -/
def TblV (K : PySem.W.Frag) (H : Hp) (d : Addr) (ls : List Lb) : Prop := ∃ o kvs, H d = some (.frz o (.dK (kvS kvs))) ∧ RowsAt K H kvs ls
theorem TblV.up {K : PySem.W.Frag} {H H' : Hp} {d : Addr} {ls : List Lb} (e : Ex H H') (h : TblV K H d ls) : TblV K H' d ls := by
  obtain ⟨o, kvs, h1, h2⟩ := h
  exact ⟨o, kvs, e _ _ h1, h2.up e⟩
theorem TblV.sm {K : PySem.W.Frag} {H H' : Hp} {p d : Addr} {n : Nat} {ls : List Lb} (s : Sm p H H') (w : WellAt H p n) (h : TblV K H d ls) : TblV K H' d ls := by
  obtain ⟨o, kvs, h1, h2⟩ := h
  exact ⟨o, kvs, s _ _ (fun z => by obtain ⟨x, y, zz, hp, _⟩ := w; rw [z, hp] at h1; cases h1) h1, h2.sm s (well_not w)⟩
/-- a library of a table with these words, this absent name and these symbols -/
structure TLb (bs : List Str) (go : Str) (ss : List Str) (l : Lb) : Prop where
  ok : TOk l
  ns : ∀ z ∈ l.ns, z ∈ bs ∨ z = go
  df : ∀ z ∈ l.df, z ∈ ss
  us : ∀ z ∈ l.us, z ∈ ss
/-- a table as it is drawn -/
structure Tbl (ls : List Lb) (go : Str) (ss : List Str) : Prop where
  nd : (names ls).Nodup
  lb : ∀ l ∈ ls, TLb (names ls) go ss l
  gn : go ∉ names ls
  gw : isWord go = true
  hd : ∃ l r, ls = l :: r ∧ l.ns = []
  len : 2 ≤ ls.length ∧ ls.length ≤ 40
def sp__law_libraries (K : PySem.W.Frag) (A : Adr) : Sp := fun vs H Q _ => ∃ (p s : Addr) (m : Int) (ss : List Str) (n : Nat), vs = [.ref p, .int m, .ref s] ∧ 2 ≤ m ∧ m ≤ 40 ∧ s ≠ p ∧ SqL K H s (ss.map V.str) ∧ ss.length ≤ 20 ∧ ss.Nodup ∧ (∀ z ∈ ss, isWord z = true) ∧ n ≤ 80000000 ∧ WellAt H p n ∧
  ∀ (t d : Addr) (ls : List Lb) (go : Str) (H' : Hp), Tbl ls go ss → (ls.length : Int) ≤ m → TblV K H' d ls → H' t = some (.tup [.ref d, .str go]) → H t = none → Sm p H H' → WellAt H' p (n + 50000) → Q (.ref t) H'
theorem ok__law_libraries (T : Txt K mg A) : FnOk P w K mg base CX0 4 A.f__law_libraries A.d__law_libraries P__law_libraries (sp__law_libraries K A) := by
  refine T.F__law_libraries.ok sc__law_libraries (fun vs H Q E h => ?_) (fun cdv Ar outer s H vs Q E hr h => ?_)
  · obtain ⟨p, s, m, ss, n, rfl, _⟩ := h; rfl
  · have hu := hu_of hr
    refine ⟨_, (pss_cons (ps_set (i := 3) sc__law_libraries.nd rfl (Or.inl rfl) (pe_call (ok__law_spelled T) (hr.mono (by decide)) (by rfl) T.g__law_spelled T.k__law_spelled T.bi__law_spelled .nil pass0 (pa_cons (pv 0) (pa_cons (pe_op op_add pe_int (pe_call (ok__law_draw T) (hr.mono (by decide)) (by rfl) T.g__law_draw T.k__law_draw T.bi__law_draw .nil pass0 (pa_cons (pv 0) (pa_cons (pe_op op_sub (pv 1) pe_int) pa_nil)))) pa_nil))))
        (pss_cons (ps_set (i := 4) sc__law_libraries.nd rfl (Or.inl rfl) pe_dnewK)
        (pss_cons (ps_for PassesOwn.never rfl (k_pil K rfl (pe_slice (k_slL K rfl) (pv 3) po_none (po_some (pe_un un_neg pe_int)))) (pg_name (i := 5) sc__law_libraries.nd rfl (Or.inl rfl))
          (pss_one (ps_dput hu (pv 4) (pv 5) (pe_call (ok__law_library T) (hr.mono (by decide)) (by rfl) T.g__law_library T.k__law_library T.bi__law_library .nil pass0 (pa_cons (pv 0) (pa_cons (pv 5) (pa_cons (pe_slice (k_slL K rfl) (pv 3) po_none (po_some (pe_un un_neg pe_int))) (pa_cons (pe_ix (k_ixL K rfl) (pv 3) (pe_un un_neg pe_int) (fun _ _ => rfl)) (pa_cons (pv 2) pa_nil)))))) rfl)))
        (pss_one (ps_fix (ps_ret (pe_tupM (pa_cons (pv 4) (pa_cons (pe_ix (k_ixL K rfl) (pv 3) (pe_un un_neg pe_int) (fun _ _ => rfl)) pa_nil))))))))), ?_⟩
    obtain ⟨p, s, m, ss, n, rfl, m2, m40, sp, hs, ls20, ssn, ssw, hn, hw, k⟩ := h
    walk_at "rd"
    refine ⟨p, m - 1, n, rfl, by omega, by omega, by omega, hw, fun dd H1 d0 d1 s1 w1 => ?_⟩
    obtain ⟨c, rfl⟩ : ∃ i : Nat, dd = (i : Int) := ⟨dd.toNat, by omega⟩
    walk_at "rd"
    refine ⟨p, 3 + c, _, by rw [Int.natCast_add]; rfl, by omega, by omega, w1, fun a ws H2 lw wn ww na s2 w2 ha => ?_⟩
    obtain ⟨bs, go, rfl⟩ : ∃ bs go, ws = bs ++ [go] := ⟨ws.dropLast, ws.getLast (fun z => by rw [z] at lw; simp only [List.length_nil] at lw; omega), (List.dropLast_concat_getLast _).symm⟩
    rw [List.length_append] at lw
    simp only [List.length_cons, List.length_nil] at lw
    obtain ⟨w0, wr, rfl⟩ : ∃ w0 wr, bs = w0 :: wr := by
      cases bs with
      | nil => simp only [List.length_nil] at lw; omega
      | cons x y => exact ⟨x, y, rfl⟩
    rw [List.length_cons] at lw
    have bn := (List.nodup_append.mp wn).1
    have gn : go ∉ w0 :: wr := fun z => (List.nodup_append.mp wn).2.2 go z go (List.mem_singleton.mpr rfl) rfl
    have bw : ∀ z ∈ w0 :: wr, isWord z = true := fun z hz => ww z (List.mem_append_left _ hz)
    have gw := ww go (by simp)
    rw [List.map_append] at ha
    have ap : a ≠ p := fun z => w1.some (z ▸ na)
    walk_at "rd"
    refine r_dnewK fun d H3 nd e3 hd => ?_
    have dp : d ≠ p := fun z => w2.some (z ▸ nd)
    have sH3 : Sm p H H3 := by walk_at "sm"
    have nd0 : H d = none := sm_none (s1.trans s2) nd dp
    have w3 := w2.up e3
    walk_at "rd"
    refine r_slL (SqL.of (e3 _ _ ha)) fun b H4 nb e4 hb => ?_
    rw [show ((-1 : Int)) = -1 from rfl] at hb
    replace hb : H4 b = some (.lst ((w0 :: wr).map V.str)) := by rw [hb]; exact congrArg (fun z => some (HO.lst z)) (cutL _ _)
    have bd : b ≠ d := fun z => by rw [z, hd] at nb; cases nb
    have bp : b ≠ p := fun z => w3.some (z ▸ nb)
    have ad : a ≠ d := fun z => by rw [← z, ha] at nd; cases nd
    have G0 : Sm p H (fr [d] H4) := sm_fr (by walk_at "sm") nd0
    have Ga := fr_at1 (e4 _ _ (e3 _ _ ha)) ad
    have Gb := fr_at1 hb bd
    have Gd : fr [d] H4 d = none := fr_no1
    have Gs : SqL K (fr [d] H4) s (ss.map V.str) := by walk_at "ht"
    have GH : Ex (fr [d] H4) H4 := fr_ex
    have w4 := w3.up e4
    have hd4 := e4 _ _ hd
    generalize fr [d] H4 = G at G0 Ga Gb Gd Gs GH
    clear hd e3 e4 nb ha na s2 w2 sH3 w3 s1 w1 nd hb
    walk_at "rd"
    refine ⟨b, rfl, ⟨_, SqL.of (GH _ _ Gb)⟩, ?_⟩
    refine for_strL (K := K) (a := b) (zs := w0 :: wr) (fun pre post σ' H' => ∃ (kvs : List (Str × V)) (ls : List Lb) (o5 : Option V), σ' = [some (.ref p), some (.int m), some (.ref s), some (.ref a), some (.ref d), o5] ∧ Sm p G H' ∧ WellAt H' p (n + 1200 + 1000 * pre.length) ∧ H' d = some (.dK (kvS kvs)) ∧ RowsAt K H' kvs ls ∧ names ls = pre ∧ (∀ l ∈ ls, TLb (w0 :: wr) go ss l) ∧ ∀ l r, ls = l :: r → l.ns = [])
      ⟨[], [], _, rfl, Sm.of GH, w4.le (by omega), hd4, ⟨rfl, fun i kv l h => by simp at h⟩, rfl, fun l h => (nomatch h), fun l r h => (nomatch h)⟩ (fun pre post σ' H' q => by
        obtain ⟨kvs, ls, o5, _, sg, _⟩ := q
        exact sg.seq bp (SqL.of Gb)) ?_ fun σ' H' q => ?_
    · rintro pre z post σ' H5 e ⟨kvs, ls, o5, rfl, s5, w5, hd5, ra, np, tl, h0⟩
      have zm : z ∈ w0 :: wr := by rw [e]; simp
      have lp : pre.length ≤ 40 := by have := congrArg List.length e; simp at this; omega
      have kl : kvs.length ≤ 40 := by rw [ra.len]; have := congrArg List.length np; unfold names at this; rw [List.length_map] at this; omega
      walk_at "rd"
      refine r_slL (K := K) (by walk_at "ht") fun b2 H6 nb2 e6 hb2 => ?_
      replace hb2 : H6 b2 = some (.lst ((w0 :: wr).map V.str)) := by rw [hb2]; exact congrArg (fun z => some (HO.lst z)) (cutL _ _)
      walk_at "rd"
      refine r_ixL (K := K) (by walk_at "ht") atL ?_
      walk_at "rd"
      refine ⟨p, b2, s, z, go, w0, wr, ss, _, rfl, SqL.of hb2, by walk_at "ht", by walk_at "ne", sp, zm, by omega, bn, bw, gw, gn, ls20, ssn, ssw, by omega, w5.up e6, fun x l H7 el tok q1 q2 q3 q4 rx s7 w7 => ?_⟩
      subst el
      have hd7 : H7 d = some (.dK (kvS kvs)) := by walk_at "ht"
      walk_at "rd"
      obtain ⟨H8, dp8, h8, s8⟩ := dputK l.nm x hd7 (by rw [kvS_len]; omega)
      have nk : l.nm ∉ kvs.map (·.1) := by
        rw [ra.1, np]
        intro h
        rw [e] at bn
        exact (List.nodup_append.mp bn).2.2 _ h _ (List.mem_cons_self ..) rfl
      rw [kvS_new x nk] at h8
      have rn := (((ra.up e6).sm s7 (well_not (w5.up e6))).snoc rx).sm s8 ⟨_, hd7, fun xs oo => ⟨fun z => (nomatch z), fun z => (nomatch z)⟩⟩
      refine ⟨d, H8, rfl, dp8, kvs ++ [(l.nm, x)], ls ++ [l], _, rfl, by walk_at "sm", (hw_sm H7 d s8 dp.symm w7).le (by rw [List.length_append]; simp only [List.length_cons, List.length_nil]; omega), h8, rn, ?_, fun l2 h2 => ?_, fun l2 r h2 => ?_⟩
      · rw [← np]; unfold names; rw [List.map_append]; rfl
      · rcases List.mem_append.mp h2 with h2 | h2
        · exact tl l2 h2
        · rw [List.mem_singleton.mp h2]; exact ⟨tok, q1, q2, q3⟩
      · cases ls with
        | nil =>
          cases h2
          refine q4 ?_
          have : pre = [] := np.symm
          rw [this] at e
          exact (List.cons.inj e).1.symm
        | cons l3 r3 =>
          cases h2
          exact h0 _ _ rfl
    obtain ⟨kvs, ls, o5, rfl, s5, w5, hd5, ra, np, tl, h0⟩ := q
    walk_at "rd"
    refine ⟨d, _, hd5, trivial, fun od => ?_⟩
    have s6 : Sm d H' (upd H' d (.frz od (.dK (kvS kvs)))) := lock_sm
    have h6 : upd H' d (.frz od (.dK (kvS kvs))) d = some (.frz od (.dK (kvS kvs))) := upd_same
    have rn := ra.sm s6 ⟨_, hd5, fun xs oo => ⟨fun z => (nomatch z), fun z => (nomatch z)⟩⟩
    generalize upd H' d (.frz od (.dK (kvS kvs))) = H6 at s6 h6 rn
    walk_at "rd"
    refine r_ixL (K := K) (by walk_at "ht") atL ?_
    walk_at "rd"
    refine ⟨by simp, fun t H7 nt e7 ht => ?_⟩
    have ll : ls.length = wr.length + 1 := by have := congrArg List.length np; unfold names at this; rw [List.length_map] at this; exact this
    have sGH : Sm p G H7 := by walk_at "sm"
    refine k t d ls go H7 ⟨by rw [np]; exact bn, by rw [np]; exact tl, by rw [np]; exact gn, gw, ?_, by omega⟩ (by omega) ⟨od, kvs, e7 _ _ h6, rn.up e7⟩ ht (by walk_at "nn") (G0.trans sGH) ((hw_ex H6 e7 (hw_sm H' d s6 dp.symm w5)).le (by simp only [List.length_cons]; omega))
    cases ls with
    | nil => simp at ll
    | cons l r => exact ⟨l, r, rfl, h0 l r rfl⟩
theorem targ_ws {K : PySem.W.Frag} {H : Hp} {a : Addr} {ws : List Str} (h : SqT K H a (ws.map V.str)) (l : ws.length ≤ 20) (k : ∀ w ∈ ws, isWord w = true) : TArg K H (.ref a) (some (ws.map V.str)) :=
  ⟨a, rfl, h, ty_sqT h, by rw [List.length_map]; omega, fun y hy => by
    obtain ⟨w, hw, rfl⟩ := List.mem_map.mp hy
    exact .inl ⟨w, rfl, by have := (isWord_len (k w hw)).2; omega⟩⟩
theorem barg' {K : PySem.W.Frag} {H : Hp} {b : Bool} : BArg K H (.bl b) true := ⟨_, .base (.bl b), kit_ty (by decide +kernel)⟩
/-- libraries stand there, one for each -/
def LbsAt (K : PySem.W.Frag) (A : Adr) (H : Hp) (xs : List V) (ls : List Lb) : Prop := xs.length = ls.length ∧ ∀ (i : Nat) x l, xs[i]? = some x → ls[i]? = some l → LbV K A H x l
theorem LbsAt.up {K : PySem.W.Frag} {A : Adr} {H H' : Hp} {xs : List V} {ls : List Lb} (e : Ex H H') (h : LbsAt K A H xs ls) : LbsAt K A H' xs ls := ⟨h.1, fun i x l a b => (h.2 i x l a b).up e⟩
theorem LbV.sm {K : PySem.W.Frag} {A : Adr} {H H' : Hp} {p : Addr} {ys : List V} {x : V} {l : Lb} (s : Sm p H H') (w : H p = some (.lst ys)) (h : LbV K A H x l) : LbV K A H' x l := by
  obtain ⟨a, dx, t1, t2, t3, t4, h1, h2, h3, h4, h5, h6⟩ := h
  have n : NoT H p := ⟨_, w, fun xs oo => ⟨fun z => (nomatch z), fun z => (nomatch z)⟩⟩
  exact ⟨a, dx, t1, t2, t3, t4, h1, s _ _ (fun z => by rw [z, w] at h2; cases h2) h2, hq_not s n h3, hq_not s n h4, hq_not s n h5, hq_not s n h6⟩
theorem LbsAt.sm {K : PySem.W.Frag} {A : Adr} {H H' : Hp} {p : Addr} {ys : List V} {xs : List V} {ls : List Lb} (s : Sm p H H') (w : H p = some (.lst ys)) (h : LbsAt K A H xs ls) : LbsAt K A H' xs ls := ⟨h.1, fun i x l a b => (h.2 i x l a b).sm s w⟩
theorem LbsAt.snoc {K : PySem.W.Frag} {A : Adr} {H : Hp} {xs : List V} {ls : List Lb} {x : V} {l : Lb} (h : LbsAt K A H xs ls) (r : LbV K A H x l) : LbsAt K A H (xs ++ [x]) (ls ++ [l]) := by
  refine ⟨by rw [List.length_append, List.length_append, h.1]; rfl, fun i y l2 a b => ?_⟩
  rw [List.getElem?_append] at a b
  rw [← h.1] at b
  split at a
  · rename_i hl
    rw [if_pos hl] at b
    exact h.2 i y l2 a b
  · rename_i hl
    rw [if_neg hl] at b
    have e : i - xs.length = 0 := by
      have := (List.getElem?_eq_some_iff.mp a).1
      simp at this
      omega
    rw [e] at a b
    cases a; cases b
    exact r
theorem stBad_none : ∀ (i : Nat) (seen ns : List Str), (seen ++ ns).Nodup → i + ns.length ≤ 40 → stBad i seen (ns.map some) = none
  | _, _, [], _, _ => rfl
  | i, seen, n :: r, nd, l => by
    have h : n ∉ seen := fun z => (List.nodup_append.mp nd).2.2 n z n (List.mem_cons_self ..) rfl
    show (if n ∈ seen ∨ 40 ≤ i then some i else stBad (i + 1) (seen ++ [n]) (r.map some)) = none
    rw [List.length_cons] at l
    rw [if_neg (fun z => z.elim h fun z => by omega)]
    exact stBad_none (i + 1) (seen ++ [n]) r (by rw [List.append_assoc]; exact nd) (by omega)
theorem row_at {K : PySem.W.Frag} {H : Hp} {kvs pre post : List (Str × V)} {ls : List Lb} {k : Str} {v : V} (h : RowsAt K H kvs ls) (e : kvs = pre ++ (k, v) :: post) : ∃ l, ls[pre.length]? = some l ∧ k = l.nm ∧ RowAt K H v l := by
  have ln := h.len
  have hl : pre.length < ls.length := by rw [← ln, e]; simp
  have h1 : kvs[pre.length]? = some (k, v) := by rw [e]; simp
  refine ⟨ls[pre.length], by simp [hl], ?_, h.2 _ _ _ h1 (by simp [hl])⟩
  have : (kvs.map (·.1))[pre.length]? = (names ls)[pre.length]? := by rw [h.1]
  rw [List.getElem?_map, h1] at this
  unfold names at this
  rw [List.getElem?_map, List.getElem?_eq_getElem hl] at this
  exact Option.some.inj this
def sp__law_stored (K : PySem.W.Frag) (A : Adr) : Sp := fun vs H Q _ => ∃ (d : Addr) (ls : List Lb), vs = [.ref d] ∧ TblV K H d ls ∧ (names ls).Nodup ∧ (∀ l ∈ ls, TOk l) ∧ ls.length ≤ 40 ∧
  ∀ (q : Addr) (H' : Hp), H q = none → Ex H H' → StV K A H' q ls → Q (.ref q) H'
theorem ok__law_stored (T : Txt K mg A) : FnOk P w K mg base CX0 5 A.f__law_stored A.d__law_stored P__law_stored (sp__law_stored K A) := by
  refine T.F__law_stored.ok sc__law_stored (fun vs H Q E h => ?_) (fun cdv Ar outer s H vs Q E hr h => ?_)
  · obtain ⟨d, ls, rfl, _⟩ := h; rfl
  · have hu := hu_of hr
    obtain ⟨mv_Library, KB_Library⟩ := kb_Library T
    refine ⟨_, (pss_cons (ps_set (i := 1) sc__law_stored.nd rfl (Or.inl rfl) (pe_lstM pa_nil))
        (pss_cons (ps_for PassesOwn.never rfl (pi_items (pv 0)) (k_gtup K rfl (by rfl) (pgs_cons (pg_name (i := 2) sc__law_stored.nd rfl (Or.inl rfl)) (pgs_cons (pg_name (i := 3) sc__law_stored.nd rfl (Or.inl rfl)) pgs_nil)))
          (pss_cons (ps_asg (pe_slice (k_slT K rfl) (pv 3) po_none (po_some pe_int)) (k_gtup K rfl (by rfl) (pgs_cons (pg_name (i := 4) sc__law_stored.nd rfl (Or.inl rfl)) (pgs_cons (pg_name (i := 5) sc__law_stored.nd rfl (Or.inl rfl)) (pgs_cons (pg_name (i := 6) sc__law_stored.nd rfl (Or.inl rfl)) (pgs_cons (pg_name (i := 7) sc__law_stored.nd rfl (Or.inl rfl)) pgs_nil))))))
        (pss_one (ps_expr (pe_bm PySem.F.plainAttrs_list PySem.F.slot_list_append PySem.F.type_list_append mt_append (pv 1) (pa_cons (pe_makeK T.mk_Library (ok_Library___init__ T) (hr.mono (by decide)) (by rfl) T.g_Library KB_Library passL (pa_cons (pv 2) pa_nil) (pk_cons (pv 4) (pk_cons (pv 5) (pk_cons (pv 6) (pk_cons (pv 7) (pk_cons (pe_ix (k_ixT K rfl) (pv 3) pe_int (fun _ _ => rfl)) (pk_cons (pe_ix (k_ixT K rfl) (pv 3) pe_int (fun _ _ => rfl)) pk_nil))))))) pa_nil))))))
        (pss_one (ps_ret (pe_make T.mk_Store (ok_Store___init__ T) (hr.mono (by decide)) (by rfl) T.g_Store T.bi_Store___init__ .nil passL (pa_cons (pv 1) pa_nil)))))), ?_⟩
    obtain ⟨d, ls, rfl, ⟨o, kvs, hd, ra⟩, nd, tok, l40, k⟩ := h
    have kl := ra.len
    walk_at "rd"
    refine ⟨by simp, fun f H1 nf e1 hf => ?_⟩
    walk_at "rd"
    refine ⟨.ref d, rfl, d, o, _, rfl, e1 _ _ hd, ?_⟩
    refine for_items (d := d) (o := o) (kvs := kvs) (fun pre post σ' H' => ∃ (xs : List V) (o2 o3 o4 o5 o6 o7 : Option V), σ' = [some (.ref d), some (.ref f), o2, o3, o4, o5, o6, o7] ∧ Ex H H' ∧ H' f = some (.lst xs) ∧ LbsAt K A H' xs (ls.take pre.length))
      ⟨[], _, _, _, _, _, _, rfl, e1, hf, rfl, fun i x l h => by simp at h⟩ (fun pre post σ' H' q => by
        obtain ⟨xs, o2, o3, o4, o5, o6, o7, _, e, _⟩ := q
        exact e _ _ hd) ?_ fun σ' H' q => ?_
    · rintro pre nm v post σ' H2 H3 T e ⟨xs, o2, o3, o4, o5, o6, o7, rfl, e2, h2, la⟩ nT e3 hT
      obtain ⟨l, hl, rfl, rw'⟩ := row_at ra e
      have lm := List.mem_of_getElem? hl
      have tk := tok l lm
      have tn : ls.take (pre.length + 1) = ls.take pre.length ++ [l] := take_snoc hl
      have xl : xs.length ≤ 40 := by rw [la.1, List.length_take]; omega
      refine r_gtupE (K := K) (st_of hT) rfl ?_
      walk_at "rd"
      obtain ⟨a, t1, t2, t3, t4, rfl, ha, g1, g2, g3, g4⟩ := rw'.up (e2.trans e3)
      refine r_slT ha fun q H4 e4 hq => ?_
      rw [show ((some 4 : Option Int)) = some ((4 : Nat) : Int) from rfl, cut_take] at hq
      replace hq : SqT K H4 q [.ref t1, .ref t2, .ref t3, .ref t4] := hq
      refine r_gtupE hq rfl ?_
      walk_at "rd"
      have h4 : H4 f = some (.lst xs) := by walk_at "ht"
      refine ⟨tyL (SqL.of h4), ?_⟩
      walk_at "rd"
      refine r_ixT (ex_t e4 ha) rfl ?_
      walk_at "rd"
      refine r_ixT (ex_t e4 ha) rfl ?_
      walk_at "rd"
      refine ⟨rfl, rfl, fun x dx nx ndx ne => ?_⟩
      have e0 : Ex H4 (upd (upd H4 dx (.own x)) x (.ins A.C_Library dx [])) := fun b o hb => by
        rw [upd_ne (ne_of_none hb nx), upd_ne (ne_of_none hb ndx)]; exact hb
      have e40 := e4.trans e0
      have ok := tk.ok
      refine ⟨x, dx, .str l.nm, .ref t1, .ref t2, .ref t3, .ref t4, .bl l.eg, .bl l.fi, _, _, _, _, _, _, rfl, upd_same, .inl ⟨_, rfl, by have := (isWord_len ok.nm).2; omega⟩, targ_ws (ex_t e40 g1) (by have := ok.nl; omega) ok.ns, targ_ws (ex_t e40 g2) ok.dl ok.df,
        targ_ws (ex_t e40 g3) ok.ul ok.us, targ_ws (ex_t e40 g4) ok.wl (fun z hz => ok.us z (tk.ws z hz)), barg', barg', fun _ H5 s5 g5 => ⟨rfl, ?_⟩, fun part hp => ?_⟩
      rotate_left
      · rw [tk.bad] at hp; cases hp
      have e5 : Ex H4 H5 := fun b o hb => s5 b o (ne_of_none hb nx) (e0 b o hb)
      have e25 : Ex H2 H5 := e3.trans (e4.trans e5)
      walk_at "rd"
      refine r_app (e5 _ _ h4) (by omega) fun H6 h6 s6 => ?_
      have lb : LbV K A H5 (.ref x) l := ⟨x, dx, t1, t2, t3, t4, rfl, g5, ex_t (e4.trans e5) g1, ex_t (e4.trans e5) g2, ex_t (e4.trans e5) g3, ex_t (e4.trans e5) g4⟩
      refine ⟨xs ++ [.ref x], _, _, _, _, _, _, rfl, Ex.sm (e2.trans e25) nf s6, h6, ?_⟩
      rw [List.length_append]
      simp only [List.length_cons, List.length_nil]
      rw [tn]
      exact ((la.up e25).snoc lb).sm s6 (e5 _ _ h4)
    obtain ⟨xs, o2, o3, o4, o5, o6, o7, rfl, e2, h2, la⟩ := q
    rw [kl, List.take_length] at la
    have xl : xs.length ≤ 40 := by rw [la.1]; omega
    walk_at "rd"
    intro x dx nx ndx ne
    have e0 : Ex H' (upd (upd H' dx (.own x)) x (.ins A.C_Store dx [])) := fun b o hb => by
      rw [upd_ne (ne_of_none hb nx), upd_ne (ne_of_none hb ndx)]; exact hb
    refine ⟨H', x, dx, .ref f, rfl, upd_same, e0, nx, .inr ⟨f, xs, (names ls).map some, rfl, SqL.of h2, by omega, ⟨by unfold names; rw [List.length_map, List.length_map, la.1], fun i y oo hx ho => ?_⟩, fun ns dd H3 hns nn ln bad s3 nd3 h3 g3 => ⟨rfl, ?_⟩, fun i dd H3 bad => ?_⟩⟩
    · obtain ⟨l, hl⟩ : ∃ l, ls[i]? = some l := by
        cases e : ls[i]? with
        | none => unfold names at ho; rw [List.map_map, List.getElem?_map, e] at ho; cases ho
        | some l => exact ⟨l, rfl⟩
      have : oo = some l.nm := by unfold names at ho; rw [List.map_map, List.getElem?_map, hl] at ho; exact (Option.some.inj ho).symm
      subst this
      obtain ⟨a, dx', t1, t2, t3, t4, rfl, h, _⟩ := la.2 i y l hx hl
      exact ⟨a, dx', _, rfl, h, rfl⟩
    · have hn : names ls = ns := (List.map_inj_right (fun a b h => Option.some.inj h)).mp hns
      subst hn
      have e3 : Ex H' H3 := fun b o hb => s3 b o (ne_of_none hb nx) (e0 b o hb)
      refine k x H3 (ex_none e2 nx) (e2.trans e3) ⟨xs, ⟨dx, dd, h3, g3, by rw [List.length_map, la.1], nd, by rw [List.length_map]; omega⟩, fun i y l hx hl => ⟨(la.2 i y l hx hl).up e3, (tok l (List.mem_of_getElem? hl)).ok⟩⟩
    · rw [stBad_none 0 [] (names ls) nd (by unfold names; rw [List.length_map]; omega)] at bad; cases bad
/-- the closure as the law walks it -/
def lcF (ls : List Lb) : Nat → List Str → Nat → Option (List Str)
  | 0, fs, _ => some fs
  | n + 1, fs, i => match fs[i]? with
    | none => some fs
    | some z => match ls.find? (fun l => decide (l.nm = z)) with
      | none => none
      | some l => lcF ls n (fs ++ more l fs) (i + 1)
def lclo (ls : List Lb) (z : Str) : Option (List Str) := lcF ls 43 [z] 0
/-- needs are distinct names of the table, or the absent one -/
structure NsOk (ls : List Lb) (go : Str) : Prop where
  nd : (names ls).Nodup
  ns : ∀ l ∈ ls, l.ns.Nodup ∧ ∀ z ∈ l.ns, z ∈ names ls ∨ z = go
  len : ls.length ≤ 40
theorem Tbl.nsOk {ls : List Lb} {go : Str} {ss : List Str} (h : Tbl ls go ss) : NsOk ls go := ⟨h.nd, fun l hl => ⟨(h.lb l hl).ok.ok.nn, (h.lb l hl).ns⟩, h.len.2⟩
structure CloG (ls : List Lb) (go : Str) (fs : List Str) : Prop where
  nd : fs.Nodup
  sub : ∀ z ∈ fs, z ∈ names ls ∨ z = go
theorem CloG.len {ls : List Lb} {go : Str} {fs : List Str} (h : CloG ls go fs) : fs.length ≤ ls.length + 1 := by
  have := nodup_le (ys := go :: names ls) h.nd fun z hz => (h.sub z hz).elim (List.mem_cons_of_mem _) fun e => e ▸ List.mem_cons_self ..
  unfold names at this
  rwa [List.length_cons, List.length_map] at this
theorem CloG.grow {ls : List Lb} {go : Str} {fs : List Str} {l : Lb} (h : CloG ls go fs) (n : NsOk ls go) (hl : l ∈ ls) : CloG ls go (fs ++ more l fs) := by
  refine ⟨List.nodup_append.mpr ⟨h.nd, (n.ns l hl).1.filter _, fun x hx y hy e => ?_⟩, fun z hz => ?_⟩
  · have := (List.mem_filter.mp hy).2
    rw [← e] at this
    exact of_decide_eq_true this hx
  · rcases List.mem_append.mp hz with hz | hz
    · exact h.sub z hz
    · exact (n.ns l hl).2 z (List.mem_filter.mp hz).1
theorem row_of {K : PySem.W.Frag} {H : Hp} {kvs : List (Str × V)} {ls : List Lb} {l : Lb} (h : RowsAt K H kvs ls) (m : l ∈ ls) : ∃ v, (l.nm, v) ∈ kvs ∧ RowAt K H v l := by
  obtain ⟨i, hi⟩ := List.getElem?_of_mem m
  have hl : i < kvs.length := by rw [h.len]; exact (List.getElem?_eq_some_iff.mp hi).1
  have h1 : kvs[i]? = some kvs[i] := by simp
  have : (kvs.map (·.1))[i]? = (names ls)[i]? := by rw [h.1]
  unfold names at this
  rw [List.getElem?_map, List.getElem?_map, hi, h1] at this
  have e := Option.some.inj this
  refine ⟨kvs[i].2, ?_, h.2 i _ _ h1 hi⟩
  have hm := List.mem_of_getElem? h1
  have : kvs[i] = (l.nm, kvs[i].2) := by rw [← e]
  rwa [← this]
theorem row_get {K : PySem.W.Frag} {H : Hp} {kvs : List (Str × V)} {ls : List Lb} {n : Str} (h : RowsAt K H kvs ls) (m : n ∈ names ls) : ∃ l v, l ∈ ls ∧ n = l.nm ∧ (n, v) ∈ kvs ∧ RowAt K H v l := by
  obtain ⟨l, hl, rfl⟩ := List.mem_map.mp m
  obtain ⟨v, a, b⟩ := row_of h hl
  exact ⟨l, v, hl, rfl, a, b⟩
theorem rows_nd {K : PySem.W.Frag} {H : Hp} {kvs : List (Str × V)} {ls : List Lb} (h : RowsAt K H kvs ls) (nd : (names ls).Nodup) : (kvs.map (·.1)).Nodup := h.1 ▸ nd
theorem lcF_end {ls : List Lb} {n : Nat} {fs : List Str} {i : Nat} (h : fs.length ≤ i) : lcF ls n fs i = some fs := by
  cases n with
  | zero => rfl
  | succ n => unfold lcF; rw [List.getElem?_eq_none h]
/-- what is absent is met -/
theorem lcF_bad {ls : List Lb} : ∀ (n : Nat) (fs : List Str) (i j : Nat) (z : Str), fs[j]? = some z → i ≤ j → j < i + n → z ∉ names ls → lcF ls n fs i = none
  | 0, _, i, j, _, _, h1, h2, _ => absurd h2 (by omega)
  | n + 1, fs, i, j, z, hz, h1, h2, h3 => by
    have hj := (List.getElem?_eq_some_iff.mp hz).1
    have hi : i < fs.length := by omega
    unfold lcF
    rw [List.getElem?_eq_getElem hi]
    simp only
    cases e : ls.find? (fun l => decide (l.nm = fs[i])) with
    | none => rfl
    | some l =>
      by_cases q : i = j
      · subst q
        rw [List.getElem?_eq_getElem hi] at hz
        have e1 : fs[i] = z := Option.some.inj hz
        have e2 : l.nm = fs[i] := by simpa using List.find?_some e
        exact absurd (mem_names (List.mem_of_find?_eq_some e)) (by rw [e2, e1]; exact h3)
      · exact lcF_bad n _ (i + 1) j z (by rw [List.getElem?_append_left hj]; exact hz) (by omega) (by omega) h3
/-- where the law's closure is complete it is the program's -/
theorem lcF_clo {ls : List Lb} {go : Str} (n : NsOk ls go) : ∀ (m : Nat) (fs : List Str) (i : Nat) (gs : List Str), CloG ls go fs → i + m = 41 → lcF ls (m + 2) fs i = some gs → cloF ls m fs i = .inr gs
  | 0, fs, i, gs, c, e, h => by
    have := c.len
    have := n.len
    rw [lcF_end (by omega)] at h
    cases h
    rfl
  | m + 1, fs, i, gs, c, e, h => by
    unfold lcF at h
    unfold cloF
    cases hz : fs[i]? with
    | none => rw [hz] at h; cases h; rfl
    | some z =>
      rw [hz] at h
      simp only at h ⊢
      cases hf : ls.find? (fun l => decide (l.nm = z)) with
      | none => rw [hf] at h; cases h
      | some l =>
        rw [hf] at h
        simp only at h ⊢
        have hl := List.mem_of_find?_eq_some hf
        have c2 := c.grow n hl
        cases ha : absent ls (more l fs) with
        | none => exact lcF_clo n m _ (i + 1) gs c2 (by omega) h
        | some q =>
          exfalso
          have qm := List.mem_of_find?_eq_some ha
          have qn : q ∉ names ls := by simpa using List.find?_some ha
          obtain ⟨j, hj⟩ := List.getElem?_of_mem qm
          have hjl := (List.getElem?_eq_some_iff.mp hj).1
          have il := (List.getElem?_eq_some_iff.mp hz).1
          have l2 := c2.len
          rw [List.length_append] at l2
          have nl := n.len
          rw [lcF_bad (m + 2) (fs ++ more l fs) (i + 1) (fs.length + j) q (by rw [List.getElem?_append_right (by omega)]; simpa using hj) (by omega) (by omega) qn] at h
          cases h
theorem lclo_clo {ls : List Lb} {go z : Str} {gs : List Str} (n : NsOk ls go) (hz : z ∈ names ls) (h : lclo ls z = some gs) : clo ls z = .inr gs :=
  lcF_clo n 41 [z] 0 gs ⟨by simp, fun y hy => by rw [List.mem_singleton.mp hy]; exact .inl hz⟩ rfl h
def sp__law_closed (K : PySem.W.Frag) (A : Adr) : Sp := fun vs H Q _ => ∃ (d : Addr) (w : Str) (ls : List Lb) (go : Str), vs = [.ref d, .str w] ∧ TblV K H d ls ∧ NsOk ls go ∧ (w ∈ names ls ∨ w = go) ∧
  (lclo ls w = none → ∀ H', Ex H H' → Q .non H') ∧ (∀ gs (g : Addr) H', lclo ls w = some gs → CloG ls go gs → H g = none → Ex H H' → H' g = some (.lst (gs.map V.str)) → Q (.ref g) H')
theorem ok__law_closed (T : Txt K mg A) : FnOk P w K mg base CX0 1 A.f__law_closed A.d__law_closed P__law_closed (sp__law_closed K A) := by
  refine T.F__law_closed.ok sc__law_closed (fun vs H Q E h => ?_) (fun cdv Ar outer s H vs Q E hr h => ?_)
  · obtain ⟨d, w, ls, go, rfl, _⟩ := h; rfl
  · have hu := hu_of hr
    refine ⟨_, (pss_cons (ps_asg (pe_tupM (pa_cons (pe_lstM (pa_cons (pv 1) pa_nil)) (pa_cons pe_int pa_nil))) (k_gtup K rfl (by rfl) (pgs_cons (pg_name (i := 2) sc__law_closed.nd rfl (Or.inr rfl)) (pgs_cons (pg_name (i := 3) sc__law_closed.nd rfl (Or.inl rfl)) pgs_nil))))
        (pss_cons (ps_while PassesOwn.never (pt_cmpR op_lt (pv 3) (pe_callB (k_len K rfl) (by rfl) T.b_len PySem.boot_len (pa_cons (pv 2) pa_nil)) (nomark _))
          (pss_cons (ps_if (pt_cmp (pc_dnotin hu (pe_ix (k_ixL K rfl) (pv 2) (pv 3) (fun _ _ => rfl)) (pv 0)))
          (pss_one (ps_ret pe_non))
          pss_nil)
        (pss_cons (ps_set (i := 2) sc__law_closed.nd rfl (Or.inr rfl) (pe_op op_catM (pv 2) (pe_lcM (own := [("_law_one", 4)]) rfl sc__law_closed.nd (k_pit K rfl (pe_ix (k_ixT K rfl) (pe_dget hu (pv 0) (pe_ix (k_ixL K rfl) (pv 2) (pv 3) (fun _ _ => rfl)) (fun _ _ => rfl)) pe_int (fun _ _ => rfl))) (blkOk_by (N := N__law_closed) (sc := defScope s__law_closed) (by decide +kernel)) (fun _ _ _ _ _ => (pg_name (i := 4) sc__law_closed.nd rfl (Or.inl rfl))) (fun _ _ _ _ _ => (pts_one (pt_cmpR (k_notIn K rfl) (pv 4) (pv 2) (by rfl)))) (fun _ _ _ _ _ => (pv 4)))))
        (pss_one (ps_set (i := 3) sc__law_closed.nd rfl (Or.inl rfl) (pe_op op_add (pv 3) pe_int))))))
        (pss_one (ps_ret (pv 2))))), ?_⟩
    obtain ⟨d, w, ls, go, rfl, ⟨o, kvs, hd, ra⟩, ok, hw, kn, ks⟩ := h
    have l40 := ok.len
    walk_at "rd"
    refine ⟨by simp, fun f H0 nf e0 hf => ?_⟩
    walk_at "rd"
    refine ⟨by simp, fun t H1 nt e01 ht => ?_⟩
    refine r_gtupE (K := K) (st_of ht) rfl ?_
    replace hf := e01 _ _ hf
    have e1 := e0.trans e01
    clear ht nt e01 e0
    walk_at "rd"
    refine ⟨fun n σ' H' => ∃ (f : Addr) (fs : List Str) (i : Nat) (o4 : Option V), σ' = [some (.ref d), some (.str w), some (.ref f), some (.int (i : Nat)), o4] ∧ Ex H H' ∧ H f = none ∧ H' f = some (.lst (fs.map V.str)) ∧ CloG ls go fs ∧ i + n = 43 ∧ i ≤ fs.length ∧ lclo ls w = lcF ls n fs i,
      ⟨43, f, [w], 0, none, rfl, e1, nf, hf, ⟨by simp, fun y hy => by rw [List.mem_singleton.mp hy]; exact hw⟩, rfl, Nat.zero_le _, rfl⟩, ?_⟩
    rintro n σ' H2 ⟨f, fs, i, o4, rfl, ex, nf, hf, cg, il, ile, ce⟩
    have lf := cg.len
    walk_at "rd"
    refine r_lenL (SqL.of hf) ?_
    walk_at "rd"
    by_cases hi : i < fs.length
    · rw [decide_eq_true (show ((i : Nat) : Int) < ((fs.map V.str).length : Nat) by rw [List.length_map]; omega)]
      refine r_iteT rfl ?_
      obtain ⟨z, hz⟩ : ∃ z, fs[i]? = some z := ⟨fs[i], by simp [hi]⟩
      have hzv : (fs.map V.str)[i]? = some (.str z) := by rw [List.getElem?_map, hz]; rfl
      cases n with
      | zero => exfalso; omega
      | succ n =>
      refine ⟨fun σ' H' => ∃ (f : Addr) (fs : List Str) (i : Nat) (o4 : Option V), σ' = [some (.ref d), some (.str w), some (.ref f), some (.int (i : Nat)), o4] ∧ Ex H H' ∧ H f = none ∧ H' f = some (.lst (fs.map V.str)) ∧ CloG ls go fs ∧ i + n = 43 ∧ i ≤ fs.length ∧ lclo ls w = lcF ls n fs i, fun σ' H' q => ⟨n, Nat.lt_succ_self _, q⟩, ?_⟩
      walk_at "rd"
      refine r_ixL (SqL.of hf) (atI_nat hzv) ?_
      walk_at "rd"
      refine ⟨d, _, rfl, dgetFz z (ex _ _ hd), ?_⟩
      rw [kvS_has, ra.1]
      by_cases zm : z ∈ names ls
      · rw [decide_eq_true zm]
        walk_at "rd"
        obtain ⟨l, hf2, hl, rfl⟩ := find_nm zm
        obtain ⟨v, hv, rv⟩ := row_of (ra.up ex) hl
        obtain ⟨a, t1, t2, t3, t4, rfl, ha, g1, g2, g3, g4⟩ := rv
        refine r_ixL (SqL.of hf) (atI_nat hzv) ?_
        walk_at "rd"
        refine ⟨d, _, rfl, dgetS (ex _ _ hd) (rows_nd ra ok.nd) hv, ?_⟩
        walk_at "rd"
        refine r_ixT ha rfl ?_
        walk_at "rd"
        refine ⟨t1, rfl, ⟨_, g1⟩, ?_⟩
        have n41 : l.ns.length ≤ 41 := by
          have := nodup_le (ys := go :: names ls) (ok.ns l hl).1 fun z hz => ((ok.ns l hl).2 z hz).elim (List.mem_cons_of_mem _) fun e => e ▸ List.mem_cons_self ..
          unfold names at this
          rw [List.length_cons, List.length_map] at this
          omega
        refine lc_strT g1 (by omega) (fun z => !decide (z ∈ fs)) V.str (fun z Hx hz exx => ?_) fun D H3 nD e3 hD => ?_
        · walk_at "rd"
          refine ⟨rfl, ?_⟩
          walk_at "rd"
          refine r_ninL (SqL.of (exx _ _ hf)) rfl (flat_str fs) ?_
          rw [inV_str]
          refine r_bl ⟨rfl, ?_⟩
          refine r_ite (fun c => ?_) (fun c => Ex.refl _)
          walk_at "rd"
          exact ⟨Ex.refl _, rfl⟩
        have mm : (l.ns.filter fun z => !decide (z ∈ fs)) = more l fs := by unfold more; exact congrArg (fun p => l.ns.filter p) (funext fun z => by simp)
        rw [mm] at hD
        have ml : (more l fs).length ≤ 41 := Nat.le_trans (List.length_filter_le _ _) n41
        refine r_catM (e3 _ _ hf) hD (by rw [List.length_map, List.length_map]; omega) fun g H4 ng e4 hg => ?_
        walk_at "rd"
        refine ⟨g, fs ++ more l fs, i + 1, _, rfl, ex.trans (e3.trans e4), ex_none (ex.trans e3) ng, by rw [hg, List.map_append], cg.grow ok hl, by omega, by rw [List.length_append]; omega, ?_⟩
        rw [ce]
        conv => lhs; unfold lcF
        rw [hz]
        simp only
        rw [hf2]
      · rw [decide_eq_false zm]
        walk_at "rd"
        refine kn ?_ _ ex
        rw [ce]
        exact lcF_bad (n + 1) fs i i z hz (Nat.le_refl _) (by omega) zm
    · rw [decide_eq_false (show ¬ ((i : Nat) : Int) < ((fs.map V.str).length : Nat) by rw [List.length_map]; omega)]
      refine r_iteF rfl ?_
      walk_at "rd"
      exact ks fs f _ (by rw [ce]; exact lcF_end (by omega)) cg nf ex hf
def cmpl (ls : List Lb) : List Str := (names ls).filter fun z => (lclo ls z).isSome
theorem cmpl_ne {ls : List Lb} {go : Str} {ss : List Str} (h : Tbl ls go ss) : cmpl ls ≠ [] := by
  obtain ⟨l, r, rfl, e⟩ := h.hd
  have : lclo (l :: r) l.nm = some [l.nm] := by
    unfold lclo lcF
    simp only [List.getElem?_cons_zero, List.find?_cons, decide_true]
    have : more l [l.nm] = [] := by unfold more; rw [e]; rfl
    rw [this, List.append_nil]
    exact lcF_end (by simp)
  unfold cmpl names
  rw [List.map_cons, List.filter_cons, this]
  simp
def sp__law_complete (K : PySem.W.Frag) (A : Adr) : Sp := fun vs H Q _ => ∃ (d : Addr) (ls : List Lb) (go : Str), vs = [.ref d] ∧ TblV K H d ls ∧ NsOk ls go ∧
  ∀ (g : Addr) H', H g = none → Ex H H' → H' g = some (.lst ((cmpl ls).map V.str)) → Q (.ref g) H'
theorem ok__law_complete (T : Txt K mg A) : FnOk P w K mg base CX0 2 A.f__law_complete A.d__law_complete P__law_complete (sp__law_complete K A) := by
  refine T.F__law_complete.ok sc__law_complete (fun vs H Q E h => ?_) (fun cdv Ar outer s H vs Q E hr h => ?_)
  · obtain ⟨d, ls, go, rfl, _⟩ := h; rfl
  · have hu := hu_of hr
    refine ⟨_, (pss_one (ps_ret (pe_lcM (own := [("_law_word", 1)]) rfl sc__law_complete.nd (pi_keys (pv 0)) (blkOk_by (N := N__law_complete) (sc := defScope s__law_complete) (by decide +kernel)) (fun _ _ _ _ _ => (pg_name (i := 1) sc__law_complete.nd rfl (Or.inl rfl))) (fun _ _ _ _ _ => (pts_one (pt_cmpR op_notN (pe_call (ok__law_closed T) (hr.mono (by decide)) (by rfl) T.g__law_closed T.k__law_closed T.bi__law_closed .nil pass0 (pa_cons (pv 0) (pa_cons (pv 1) pa_nil))) pe_non (nomark _)))) (fun _ _ _ _ _ => (pv 1))))), ?_⟩
    obtain ⟨d, ls, go, rfl, tv, ok, k⟩ := h
    obtain ⟨o, kvs, hd, ra⟩ := id tv
    have l40 := ok.len
    walk_at "rd"
    refine ⟨.ref d, rfl, d, o, rfl, .inl ⟨_, hd, ?_⟩⟩
    refine lc_keysS hd (by rw [ra.len]; omega) (fun kv => (lclo ls kv.1).isSome) (fun kv => .str kv.1) (fun z Hx hz ex => ?_) fun D H1 nD e1 hD => ?_
    · have zm : z.1 ∈ names ls := ra.1 ▸ List.mem_map.mpr ⟨z, hz, rfl⟩
      walk_at "rd"
      refine ⟨rfl, ?_⟩
      walk_at "rd"
      refine ⟨d, z.1, ls, go, rfl, tv.up ex, ok, .inl zm, fun en H2 e2 => ?_, fun gs g H2 eg _ ng e2 hg => ?_⟩
      · walk_at "rd"
        refine ⟨rfl, ?_⟩
        rw [en]
        refine r_bl ⟨rfl, ?_⟩
        exact r_iteF rfl e2
      · walk_at "rd"
        refine ⟨rfl, ?_⟩
        rw [eg]
        refine r_bl ⟨rfl, ?_⟩
        refine r_iteT rfl ?_
        walk_at "rd"
        exact ⟨e2, rfl⟩
    walk_at "rd"
    refine k D H1 nD e1 ?_
    rw [hD]
    unfold cmpl
    rw [← ra.1, List.filter_map, List.map_map]
    rfl
theorem keys_strs {K : PySem.W.Frag} {H : Hp} {kvs : List (Str × V)} {ls : List Lb} (h : RowsAt K H kvs ls) : (kvS kvs).map (fun kv => kV kv.1) = (names ls).map V.str := by
  rw [← h.1]
  unfold kvS
  rw [List.map_map, List.map_map]
  rfl
theorem uniq_nd {ls : List Lb} (nd : (names ls).Nodup) {l m : Lb} (h : l ∈ ls) (h' : m ∈ ls) (e : l.nm = m.nm) : l = m := by
  obtain ⟨i, hi⟩ := List.getElem?_of_mem h
  obtain ⟨j, hj⟩ := List.getElem?_of_mem h'
  have a : (names ls)[i]? = some l.nm := by unfold names; rw [List.getElem?_map, hi]; rfl
  have b : (names ls)[j]? = some l.nm := by unfold names; rw [List.getElem?_map, hj, e]; rfl
  have := L2.nodup_ix nd a b
  subst this
  rw [hi] at hj
  exact Option.some.inj hj
theorem dfOf_nd {ls : List Lb} (nd : (names ls).Nodup) {l : Lb} (h : l ∈ ls) : dfOf ls l.nm = l.df := by
  obtain ⟨m, hm, h2, h3⟩ := find_nm (mem_names h)
  unfold dfOf
  rw [hm, uniq_nd nd h2 h h3]
/-- row of a pair -/
theorem row_kv {K : PySem.W.Frag} {H : Hp} {kvs : List (Str × V)} {ls : List Lb} {kv : Str × V} (h : RowsAt K H kvs ls) (m : kv ∈ kvs) : ∃ l, l ∈ ls ∧ kv.1 = l.nm ∧ RowAt K H kv.2 l := by
  obtain ⟨pre, post, e⟩ := List.append_of_mem m
  obtain ⟨l, hl, e1, r⟩ := row_at (k := kv.1) (v := kv.2) h e
  exact ⟨l, List.mem_of_getElem? hl, e1, r⟩
theorem flat_rep {α : Type} {n : Nat} {xs : List α} {x : α} (h : x ∈ (List.replicate n xs).flatten) : x ∈ xs := by
  obtain ⟨l, hl, hx⟩ := List.mem_flatten.mp h
  rw [List.eq_of_mem_replicate hl] at hx
  exact hx
theorem len_rep {α : Type} {n : Nat} {xs : List α} : (List.replicate n xs).flatten.length = n * xs.length := by
  induction n with
  | zero => simp
  | succ n ih => rw [List.replicate_succ, List.flatten_cons, List.length_append, ih, Nat.succ_mul]; omega
/-- who defines a symbol, in the order of the table -/
def mks (ls : List Lb) (y : Str) : List Str := (names ls).filter fun z => decide (y ∈ dfOf ls z)
theorem wkv_eq (ws : List (Str × Str)) : wkv ws = kvS (ws.map fun w => (w.1, V.str w.2)) := by unfold wkv kvS; rw [List.map_map]; rfl
/-- wishes as they are drawn -/
structure WDr (ls : List Lb) (ss : List Str) (ws : List (Str × Str)) : Prop where
  nd : (syms ws).Nodup
  mem : ∀ w ∈ ws, w.1 ∈ ss ∧ w.2 ∈ names ls
theorem wkv_put {ls : List Lb} {ss : List Str} {ws : List (Str × Str)} {z y : Str} (h : WDr ls ss ws) (hz : z ∈ ss) (hy : y ∈ names ls) : ∃ ws', putK (wkv ws) (Sum.inr z) (.str y) = wkv ws' ∧ WDr ls ss ws' := by
  have ek : (ws.map fun w => (w.1, V.str w.2)).map (·.1) = syms ws := by unfold syms; rw [List.map_map]; rfl
  by_cases q : z ∈ syms ws
  · refine ⟨ws.map fun w => if w.1 = z then (w.1, y) else w, ?_, ?_, fun w hw => ?_⟩
    · rw [wkv_eq, kvS_old _ (by rw [ek]; exact q), wkv_eq, List.map_map, List.map_map]
      congr 1
      refine List.map_congr_left fun w _ => ?_
      by_cases e : w.1 = z
      · simp [e]
      · simp [e]
    · have : syms (ws.map fun w => if w.1 = z then (w.1, y) else w) = syms ws := by
        unfold syms
        rw [List.map_map]
        refine List.map_congr_left fun w _ => ?_
        by_cases e : w.1 = z
        · simp [e]
        · simp [e]
      rw [this]
      exact h.nd
    · obtain ⟨u, hu, rfl⟩ := List.mem_map.mp hw
      split
      · exact ⟨(h.mem u hu).1, hy⟩
      · exact h.mem u hu
  · refine ⟨ws ++ [(z, y)], ?_, ?_, fun w hw => ?_⟩
    · rw [wkv_eq, kvS_new _ (by rw [ek]; exact q), wkv_eq, List.map_append]; rfl
    · unfold syms at q ⊢
      rw [List.map_append]
      exact List.nodup_append.mpr ⟨h.nd, by simp, fun a ha b hb e => by
        rw [List.mem_singleton.mp hb] at e
        have e2 : a = z := e
        exact q (e2 ▸ ha)⟩
    · rcases List.mem_append.mp hw with hw | hw
      · exact h.mem w hw
      · rw [List.mem_singleton.mp hw]; exact ⟨hz, hy⟩
theorem WDr.len {ls : List Lb} {ss : List Str} {ws : List (Str × Str)} (h : WDr ls ss ws) : ws.length ≤ ss.length := by
  have := nodup_le h.nd fun z hz => by
    obtain ⟨w, hw, rfl⟩ := List.mem_map.mp hz
    exact (h.mem w hw).1
  unfold syms at this
  rwa [List.length_map] at this
theorem WDr.wok {ls : List Lb} {ss : List Str} {ws : List (Str × Str)} (h : WDr ls ss ws) (l : ss.length ≤ 20) (sw : ∀ z ∈ ss, isWord z = true) : WOk ls ws := ⟨h.nd, fun w hw => sw _ (h.mem w hw).1, fun w hw => (h.mem w hw).2, by have := h.len; omega⟩
theorem cmpl_mem {ls : List Lb} {z : Str} (h : z ∈ cmpl ls) : z ∈ names ls ∧ ∃ gs, lclo ls z = some gs := by
  obtain ⟨a, b⟩ := List.mem_filter.mp h
  exact ⟨a, Option.isSome_iff_exists.mp b⟩
theorem wkv_len (ws : List (Str × Str)) : (wkv ws).length = ws.length := by unfold wkv; rw [List.length_map]
def sp__law_wishes (K : PySem.W.Frag) (A : Adr) : Sp := fun vs H Q _ => ∃ (p d s : Addr) (ls : List Lb) (ss : List Str) (n : Nat), vs = [.ref p, .ref d, .ref s] ∧ TblV K H d ls ∧ (names ls).Nodup ∧ names ls ≠ [] ∧ ls.length ≤ 40 ∧ s ≠ p ∧ SqL K H s (ss.map V.str) ∧ ss.length ≤ 20 ∧ ss.Nodup ∧ n ≤ 80000000 ∧ WellAt H p n ∧
  ∀ (g : Addr) (ws : List (Str × Str)) (H' : Hp), WDr ls ss ws → H g = none → Sm p H H' → WellAt H' p (n + 300) → H' g = some (.dK (wkv ws)) → Q (.ref g) H'
theorem ok__law_wishes (T : Txt K mg A) : FnOk P w K mg base CX0 3 A.f__law_wishes A.d__law_wishes P__law_wishes (sp__law_wishes K A) := by
  refine T.F__law_wishes.ok sc__law_wishes (fun vs H Q E h => ?_) (fun cdv Ar outer s H vs Q E hr h => ?_)
  · obtain ⟨p, d, s, ls, ss, n, rfl, _⟩ := h; rfl
  · have hu := hu_of hr
    refine ⟨_, (pss_cons (ps_set (i := 3) sc__law_wishes.nd rfl (Or.inl rfl) pe_dnewK)
        (pss_cons (ps_for PassesOwn.never rfl (k_pil K rfl (pe_call (ok__law_part T) (hr.mono (by decide)) (by rfl) T.g__law_part T.k__law_part T.bi__law_part .nil pass0 (pa_cons (pv 0) (pa_cons (pv 2) (pa_cons (pe_call (ok__law_pick T) (hr.mono (by decide)) (by rfl) T.g__law_pick T.k__law_pick T.bi__law_pick .nil pass0 (pa_cons (pv 0) (pa_cons (pe_lstM (pa_cons pe_int (pa_cons pe_int pa_nil))) pa_nil))) pa_nil))))) (pg_name (i := 4) sc__law_wishes.nd rfl (Or.inr rfl))
          (pss_cons (ps_setLcM (i := 5) (own := [("_law_word", 6)]) rfl sc__law_wishes.nd rfl rfl (sw_true rfl rfl rfl (by decide +kernel)) (pi_keys (pv 1)) (blkOk_by (N := N__law_wishes) (sc := defScope s__law_wishes) (by decide +kernel)) (fun _ _ _ _ _ => (pg_name (i := 6) sc__law_wishes.nd rfl (Or.inl rfl))) (fun _ _ _ _ _ => (pts_one (pt_cmpR (k_in K rfl) (pv 4) (pe_ix (k_ixT K rfl) (pe_dget hu (pv 1) (pv 6) (fun _ _ => rfl)) pe_int (fun _ _ => rfl)) (by rfl)))) (fun _ _ _ _ _ => (pv 6)))
        (pss_one (ps_dput hu (pv 3) (pv 4) (pe_call (ok__law_pick T) (hr.mono (by decide)) (by rfl) T.g__law_pick T.k__law_pick T.bi__law_pick .nil pass0 (pa_cons (pv 0) (pa_cons (pe_op op_catM (pe_op op_rep (pv 5) pe_int) (pe_callTy (call_listDR rfl) (by rfl) T.b_list (by decide +kernel) (pa_cons (pv 1) pa_nil))) pa_nil))) rfl))))
        (pss_one (ps_ret (pv 3))))), ?_⟩
    obtain ⟨p, d, s, ls, ss, n, rfl, ⟨o, kvs, hd, ra⟩, nd, ne, l40, sp, hs, s20, sn, hn, hw, k⟩ := h
    have kl := ra.len
    have nl : (names ls).length ≤ 40 := by unfold names; rwa [List.length_map]
    walk_at "rd"
    refine r_dnewK fun f H1 nf e1 hf => ?_
    walk_at "rd"
    refine ⟨by simp, fun b H2 nb e2 hb => ?_⟩
    walk_at "rd"
    have w2 : WellAt H2 p n := by walk_at "ht"
    refine ⟨p, b, _, n, rfl, SqL.of hb, by walk_at "ne", by simp, by simp, by omega, w2, fun v H3 hv s3 w3 => ?_⟩
    have : ∃ r : Int, v = .int r ∧ 1 ≤ r ∧ r ≤ 2 := by
      simp only [List.mem_cons, List.not_mem_nil, or_false] at hv
      rcases hv with rfl | rfl <;> exact ⟨_, rfl, by decide, by decide⟩
    obtain ⟨r, rfl, r1, r2⟩ := this
    walk_at "rd"
    refine ⟨p, s, _, r, _, rfl, by walk_at "ht", sp, r1, by omega, by rw [List.length_map]; omega, by omega, w3, fun g ys zs H4 zsub yp ng s4 w4 hg => ?_⟩
    obtain ⟨us, vs, us1, vp, rfl⟩ := part_strs zsub yp
    have fp : f ≠ p := fun z => hw.some (z ▸ nf)
    have hf4 : H4 f = some (.dK []) := by walk_at "ht"
    have gf : g ≠ f := fun z => by
      have : H3 f = some (.dK []) := by walk_at "ht"
      rw [z, this] at ng; cases ng
    have gp : g ≠ p := fun z => w3.some (z ▸ ng)
    have G0 : Sm p H (fr [f] H4) := sm_fr (by walk_at "sm") nf
    have Gg := fr_at1 hg gf
    have Gf : fr [f] H4 f = none := fr_no1
    have Gd := G0 _ _ (fun z => by obtain ⟨x, y, zz, hp, _⟩ := hw; rw [z, hp] at hd; cases hd) hd
    have Gr : RowsAt K (fr [f] H4) kvs ls := ra.sm G0 (well_not hw)
    have pG : WellAt (fr [f] H4) p (n + 1 + 200) := by
      obtain ⟨x, y, zz, h1, h2⟩ := w4
      exact ⟨x, y, zz, fr_at1 h1 fp.symm, h2⟩
    have GH : Ex (fr [f] H4) H4 := fr_ex
    have pf : p ≠ f := fp.symm
    have dp : d ≠ p := fun z => by obtain ⟨x, y, zz, hp, _⟩ := hw; rw [z, hp] at hd; cases hd
    generalize fr [f] H4 = G at G0 Gg Gf Gd Gr GH pG
    clear hg ng s4 s3 w3 hv hb nb e2 w2 hf
    walk_at "rd"
    refine ⟨g, rfl, ⟨_, SqL.of (GH _ _ Gg)⟩, ?_⟩
    have vl : vs.length ≤ 20 := Nat.le_trans (perm_len us1 vp) s20
    have vn := perm_nd us1 vp sn
    refine for_strL (K := K) (a := g) (zs := vs) (fun pre post σ' H' => ∃ (ws : List (Str × Str)) (o4 o5 o6 : Option V), σ' = [some (.ref p), some (.ref d), some (.ref s), some (.ref f), o4, o5, o6] ∧ Sm p G H' ∧ WellAt H' p (n + 1 + 200 + pre.length) ∧ H' f = some (.dK (wkv ws)) ∧ syms ws = pre ∧ ∀ w ∈ ws, w.2 ∈ names ls)
      ⟨[], _, _, _, rfl, Sm.of GH, w4, hf4, rfl, fun w h => (nomatch h)⟩ (fun pre post σ' H' q => by
        obtain ⟨ws, o4, o5, o6, _, sg, _⟩ := q
        exact sg.seq gp (SqL.of Gg)) ?_ fun σ' H' q => ?_
    · rintro pre z post σ' H5 e ⟨ws, o4, o5, o6, rfl, s5, w5, hf5, sy, wm⟩
      have lp : pre.length ≤ 20 := by have := congrArg List.length e; simp at this; omega
      have wl : ws.length = pre.length := by rw [← sy]; unfold syms; rw [List.length_map]
      have hd5 := s5 _ _ dp Gd
      walk_at "rd"
      refine ⟨.ref d, rfl, d, o, rfl, .inl ⟨_, hd5, ?_⟩⟩
      refine lc_keysS hd5 (by omega) (fun kv => decide (z ∈ dfOf ls kv.1)) (fun kv => .str kv.1) (fun kv Hx hkv ex => ?_) fun D H6 nD e6 hD => ?_
      · have ra6 := (Gr.sm s5 (well_not pG)).up ex
        obtain ⟨l, lm, el, rl⟩ := row_kv ra6 hkv
        obtain ⟨a, t1, t2, t3, t4, ev, ha, g1, g2, g3, g4⟩ := rl
        walk_at "rd"
        refine ⟨rfl, ?_⟩
        walk_at "rd"
        refine ⟨d, kv.2, rfl, dgetS (ex _ _ hd5) (rows_nd ra nd) hkv, ?_⟩
        walk_at "rd"
        rw [ev]
        refine r_ixT ha rfl ?_
        refine r_inT g2 rfl (flat_str l.df) ?_
        rw [inV_str, el, dfOf_nd nd lm]
        refine r_bl ⟨rfl, ?_⟩
        refine r_ite (fun c => ?_) (fun c => Ex.refl _)
        walk_at "rd"
        exact ⟨Ex.refl _, rfl⟩
      walk_at "rd"
      have hM : H6 D = some (.lst ((mks ls z).map V.str)) := by
        rw [hD]
        unfold mks
        rw [← ra.1, List.filter_map, List.map_map]
        rfl
      have ml : (mks ls z).length ≤ 40 := Nat.le_trans (List.length_filter_le _ _) nl
      refine r_rep (k := 4) hM (by decide) (by rw [List.length_map]; omega) fun q H7 nq e7 hq => ?_
      walk_at "rd"
      refine r_listDK (.inr ⟨o, e7 _ _ (e6 _ _ hd5)⟩) fun q2 H8 nq2 e8 hq2 => ?_
      rw [keys_strs ra] at hq2
      refine r_catM (e8 _ _ hq) hq2 (by rw [len_rep, List.length_map, List.length_map]; omega) fun q3 H9 nq3 e9 hq3 => ?_
      walk_at "rd"
      have w9 : WellAt H9 p (n + 1 + 200 + pre.length) := by walk_at "ht"
      have w8 : WellAt H8 p (n + 1 + 200 + pre.length) := by walk_at "ht"
      refine ⟨p, q3, _, _, rfl, SqL.of hq3, fun zz => w8.some (zz ▸ nq3), ?_, by rw [List.length_append, len_rep, List.length_map, List.length_map]; omega, by omega, w9, fun v H10 hv s10 w10 => ?_⟩
      · intro zz
        have := (List.append_eq_nil_iff.mp zz).2
        exact ne (List.map_eq_nil_iff.mp this)
      have : ∃ y, v = .str y ∧ y ∈ names ls := by
        rcases List.mem_append.mp hv with h | h
        · obtain ⟨y, hy, rfl⟩ := List.mem_map.mp (flat_rep h)
          exact ⟨y, rfl, (List.mem_filter.mp hy).1⟩
        · obtain ⟨y, hy, rfl⟩ := List.mem_map.mp h
          exact ⟨y, rfl, hy⟩
      obtain ⟨y, rfl, ym⟩ := this
      have hf10 : H10 f = some (.dK (wkv ws)) := by walk_at "ht"
      obtain ⟨H11, dp11, h11, s11⟩ := dputK z (.str y) hf10 (by rw [wkv_eq, kvS_len, List.length_map]; omega)
      have zk : z ∉ (ws.map fun w => (w.1, V.str w.2)).map (·.1) := by
        rw [List.map_map]
        intro h
        have h2 : z ∈ pre := by rw [← sy]; exact h
        rw [e] at vn
        exact (List.nodup_append.mp vn).2.2 z h2 z (List.mem_cons_self ..) rfl
      rw [wkv_eq, kvS_new _ zk] at h11
      walk_at "rd"
      refine ⟨f, H11, rfl, dp11, ws ++ [(z, y)], _, _, _, rfl, by walk_at "sm", (hw_sm H10 f s11 pf w10).le (by rw [List.length_append]; simp only [List.length_cons, List.length_nil]; omega), by rw [h11, wkv_eq, List.map_append]; rfl, by unfold syms at sy ⊢; rw [List.map_append, sy]; rfl, fun w hw => ?_⟩
      rcases List.mem_append.mp hw with h | h
      · exact wm w h
      · rw [List.mem_singleton.mp h]; exact ym
    obtain ⟨ws, o4, o5, o6, rfl, s5, w5, hf5, sy, wm⟩ := q
    walk_at "rd"
    refine k f ws H' ⟨by rw [sy]; exact vn, fun w hw => ⟨?_, wm w hw⟩⟩ nf (G0.trans s5) (w5.le (by omega)) hf5
    exact perm_mem us1 vp (by rw [← sy]; exact List.mem_map.mpr ⟨w, hw, rfl⟩)
def sp__law_cell_at (K : PySem.W.Frag) (A : Adr) : Sp := fun vs H Q _ => ∃ (a : Addr) (ns : List Int) (i : Nat), vs = [.ref a, .int (i : Nat)] ∧ SqL K H a (ns.map V.int) ∧ ∀ c, Q (.int c) H
theorem ok__law_cell_at (T : Txt K mg A) : FnOk P w K mg base CX0 1 A.f__law_cell_at A.d__law_cell_at P__law_cell_at (sp__law_cell_at K A) := by
  refine T.F__law_cell_at.ok sc__law_cell_at (fun vs H Q E h => ?_) (fun cdv Ar outer s H vs Q E hr h => ?_)
  · obtain ⟨a, ns, i, rfl, _⟩ := h; rfl
  · have hu := hu_of hr
    refine ⟨_, (pss_cons (ps_if (pt_cmpR op_lt (pv 1) (pe_callB (k_len K rfl) (by rfl) T.b_len PySem.boot_len (pa_cons (pv 0) pa_nil)) (nomark _))
          (pss_one (ps_ret (pe_ix (k_ixL K rfl) (pv 0) (pv 1) (fun _ _ => rfl))))
          pss_nil)
        (pss_one (ps_ret pe_int))), ?_⟩
    obtain ⟨a, ns, i, rfl, ha, k⟩ := h
    walk_at "rd"
    refine r_lenL ha ?_
    walk_at "rd"
    by_cases hi : i < ns.length
    · rw [decide_eq_true (show ((i : Nat) : Int) < ((ns.map V.int).length : Nat) by rw [List.length_map]; omega)]
      refine r_iteT rfl ?_
      walk_at "rd"
      refine r_ixL ha (atI_nat (v := .int ns[i]) (by simp [hi])) ?_
      exact k _
    · rw [decide_eq_false (show ¬ ((i : Nat) : Int) < ((ns.map V.int).length : Nat) by rw [List.length_map]; omega)]
      refine r_iteF rfl ?_
      walk_at "rd"
      exact k _
theorem fstV_app (ls : List Lb) (zs : List Str) (y : Str) : atI ((dfs ls zs y).map V.str ++ [V.non]) 0 = some (fstV ls zs y) := by
  unfold fstV
  cases dfs ls zs y with
  | nil => rfl
  | cons z r => exact atI_nat (j := 0) rfl
def sp__law_definer (K : PySem.W.Frag) (A : Adr) : Sp := fun vs H Q _ => ∃ (d f : Addr) (y : Str) (ls : List Lb) (zs : List Str), vs = [.ref d, .ref f, .str y] ∧ TblV K H d ls ∧ (names ls).Nodup ∧ SqL K H f (zs.map V.str) ∧ zs.length ≤ 1000 ∧ (∀ z ∈ zs, z ∈ names ls) ∧
  ∀ H', Ex H H' → Q (fstV ls zs y) H'
theorem ok__law_definer (T : Txt K mg A) : FnOk P w K mg base CX0 1 A.f__law_definer A.d__law_definer P__law_definer (sp__law_definer K A) := by
  refine T.F__law_definer.ok sc__law_definer (fun vs H Q E h => ?_) (fun cdv Ar outer s H vs Q E hr h => ?_)
  · obtain ⟨d, f, y, ls, zs, rfl, _⟩ := h; rfl
  · have hu := hu_of hr
    refine ⟨_, (pss_one (ps_ret (pe_ix (k_ixL K rfl) (pe_op op_catM (pe_lcM (own := [("_law_word", 3)]) rfl sc__law_definer.nd (k_pil K rfl (pv 1)) (blkOk_by (N := N__law_definer) (sc := defScope s__law_definer) (by decide +kernel)) (fun _ _ _ _ _ => (pg_name (i := 3) sc__law_definer.nd rfl (Or.inl rfl))) (fun _ _ _ _ _ => (pts_one (pt_cmpR (k_in K rfl) (pv 2) (pe_ix (k_ixT K rfl) (pe_dget hu (pv 0) (pv 3) (fun _ _ => rfl)) pe_int (fun _ _ => rfl)) (by rfl)))) (fun _ _ _ _ _ => (pv 3))) (pe_lstM (pa_cons pe_non pa_nil))) pe_int (fun _ _ => rfl)))), ?_⟩
    obtain ⟨d, f, y, ls, zs, rfl, ⟨o, kvs, hd, ra⟩, nd, hf, lz, mz, k⟩ := h
    walk_at "rd"
    refine ⟨f, rfl, ⟨_, hf⟩, ?_⟩
    refine lc_strL hf (by omega) (fun z => decide (y ∈ dfOf ls z)) V.str (fun z Hx hz ex => ?_) fun D H1 nD e1 hD => ?_
    · obtain ⟨l, v, lm, rfl, hv, rl⟩ := row_get (ra.up ex) (mz z hz)
      obtain ⟨a, t1, t2, t3, t4, rfl, ha, g1, g2, g3, g4⟩ := rl
      walk_at "rd"
      refine ⟨rfl, ?_⟩
      walk_at "rd"
      refine ⟨d, .ref a, rfl, dgetS (ex _ _ hd) (rows_nd ra nd) hv, ?_⟩
      walk_at "rd"
      refine r_ixT ha rfl ?_
      refine r_inT g2 rfl (flat_str l.df) ?_
      rw [inV_str, dfOf_nd nd lm]
      refine r_bl ⟨rfl, ?_⟩
      refine r_ite (fun c => ?_) (fun c => Ex.refl _)
      walk_at "rd"
      exact ⟨Ex.refl _, rfl⟩
    walk_at "rd"
    refine ⟨by simp, fun b H2 nb e2 hb => ?_⟩
    replace hD : H1 D = some (.lst ((dfs ls zs y).map V.str)) := hD
    have dl : (dfs ls zs y).length ≤ 1000 := Nat.le_trans (List.length_filter_le _ _) lz
    refine r_catM (e2 _ _ hD) hb (by rw [List.length_map]; simp only [List.length_cons, List.length_nil]; omega) fun c H3 nc e3 hc => ?_
    walk_at "rd"
    exact r_ixL (SqL.of hc) (fstV_app ls zs y) (k H3 (e1.trans (e2.trans e3)))
/-- the global scope at the start: main, the preloads, the rest of main's closure -/
def glob (m : Str) (gs es : List Str) : List Str := (m :: es) ++ gs.filter fun z => !decide (z ∈ m :: es)
theorem glob_mem {ls : List Lb} {m : Str} {gs es : List Str} (hm : m ∈ names ls) (hg : ∀ z ∈ gs, z ∈ names ls) (he : ∀ z ∈ es, z ∈ names ls) : ∀ z ∈ glob m gs es, z ∈ names ls := fun z hz => by
  rcases List.mem_append.mp hz with h | h
  · rcases List.mem_cons.mp h with rfl | h
    · exact hm
    · exact he z h
  · exact hg z (List.mem_filter.mp h).1
theorem glob_len {m : Str} {gs es : List Str} : (glob m gs es).length ≤ es.length + 1 + gs.length := by
  unfold glob
  rw [List.length_append, List.length_cons]
  have := List.length_filter_le (fun z => !decide (z ∈ m :: es)) gs
  omega
def sp__law_global (K : PySem.W.Frag) (A : Adr) : Sp := fun vs H Q _ => ∃ (d e : Addr) (m : Str) (ls : List Lb) (go : Str) (gs es : List Str), vs = [.ref d, .str m, .ref e] ∧ TblV K H d ls ∧ NsOk ls go ∧ m ∈ names ls ∧ lclo ls m = some gs ∧ (SqL K H e (es.map V.str) ∨ SqT K H e (es.map V.str)) ∧ es.length ≤ 1000 ∧
  ∀ (g : Addr) H', H g = none → Ex H H' → H' g = some (.lst ((glob m gs es).map V.str)) → Q (.ref g) H'
theorem ok__law_global (T : Txt K mg A) : FnOk P w K mg base CX0 2 A.f__law_global A.d__law_global P__law_global (sp__law_global K A) := by
  refine T.F__law_global.ok sc__law_global (fun vs H Q E h => ?_) (fun cdv Ar outer s H vs Q E hr h => ?_)
  · obtain ⟨d, e, m, ls, go, gs, es, rfl, _⟩ := h; rfl
  · have hu := hu_of hr
    refine ⟨_, (pss_cons (ps_set (i := 3) sc__law_global.nd rfl (Or.inr rfl) (pe_op op_catM (pe_lstM (pa_cons (pv 1) pa_nil)) (pe_callTy (k_list K rfl) (by rfl) T.b_list (by decide +kernel) (pa_cons (pv 2) pa_nil))))
        (pss_one (ps_ret (pe_op op_catM (pv 3) (pe_lcM (own := [("_law_one", 4)]) rfl sc__law_global.nd (k_pil K rfl (pe_call (ok__law_closed T) (hr.mono (by decide)) (by rfl) T.g__law_closed T.k__law_closed T.bi__law_closed .nil pass0 (pa_cons (pv 0) (pa_cons (pv 1) pa_nil)))) (blkOk_by (N := N__law_global) (sc := defScope s__law_global) (by decide +kernel)) (fun _ _ _ _ _ => (pg_name (i := 4) sc__law_global.nd rfl (Or.inl rfl))) (fun _ _ _ _ _ => (pts_one (pt_cmpR (k_notIn K rfl) (pv 4) (pv 3) (by rfl)))) (fun _ _ _ _ _ => (pv 4))))))), ?_⟩
    obtain ⟨d, e, m, ls, go, gs, es, rfl, tv, ok, hm, hg, he, le, k⟩ := h
    walk_at "rd"
    refine ⟨by simp, fun b H1 nb e1 hb => ?_⟩
    walk_at "rd"
    have fin : ∀ (c : Addr) H2, H1 c = none → Ex H1 H2 → H2 c = some (.lst (es.map V.str)) → rCatM (.ref b) (.ref c) H2 fun x H1 =>
        ∀ (Q1 : V → Hp → Prop), (∀ f H3, H f = none → Ex H H3 → H3 f = some (.lst ((m :: es).map V.str)) → x = .ref f → Q1 x H3) → Q1 x H1 := fun c H2 nc e2 hc =>
      r_catM (e2 _ _ hb) hc (by simp only [List.length_cons, List.length_nil, List.length_map]; omega) fun f H3 nf e3 hf Q1 q => q f H3 (ex_none (e1.trans e2) nf) (e1.trans (e2.trans e3)) hf rfl
    clear fin
    have two : ∀ {Q2 : VK}, (∀ (l : Addr) H2, H1 l = none → Ex H1 H2 → H2 l = some (.lst (es.map V.str)) → Q2 (.ref l) H2) → rListS K [.ref e] H1 Q2 := fun q => by
      rcases he with h | h
      · exact r_listL (ex_l e1 h) q
      · exact r_listT (ex_t e1 h) q
    refine two fun c H2 nc e2 hc => ?_
    refine r_catM (e2 _ _ hb) hc (by simp only [List.length_cons, List.length_nil, List.length_map]; omega) fun f H3 nf e3 hf => ?_
    replace hf : H3 f = some (.lst ((m :: es).map V.str)) := hf
    have e13 := e1.trans (e2.trans e3)
    walk_at "rd"
    refine ⟨d, m, ls, go, rfl, tv.up e13, ok, .inl hm, (fun no => by rw [hg] at no; cases no), fun gs2 g H4 h2 cg ng e4 hg4 => ?_⟩
    rw [hg] at h2
    cases h2
    have gl := cg.len
    have l40 := ok.len
    refine ⟨g, rfl, ⟨_, SqL.of hg4⟩, ?_⟩
    refine lc_strL (SqL.of hg4) (by omega) (fun z => !decide (z ∈ m :: es)) V.str (fun z Hx hz ex => ?_) fun D H5 nD e5 hD => ?_
    · walk_at "rd"
      refine ⟨rfl, ?_⟩
      walk_at "rd"
      refine r_ninL (SqL.of ((e4.trans ex) _ _ hf)) rfl (flat_str (m :: es)) ?_
      rw [inV_str]
      refine r_bl ⟨rfl, ?_⟩
      refine r_ite (fun c => ?_) (fun c => Ex.refl _)
      walk_at "rd"
      exact ⟨Ex.refl _, rfl⟩
    have fl : (gs.filter fun z => !decide (z ∈ m :: es)).length ≤ 1000 := Nat.le_trans (List.length_filter_le _ _) (by omega)
    refine r_catM ((e4.trans e5) _ _ hf) hD (by rw [List.length_map, List.length_map, List.length_cons]; omega) fun r H6 nr e6 hr => ?_
    have e16 := e13.trans (e4.trans e5)
    exact k r H6 (ex_none e16 nr) (e16.trans e6) (by rw [hr]; unfold glob; rw [List.map_append])
/-- whether the first definers are the wished ones -/
def metB (ls : List Lb) (zs : List Str) (ws : List (Str × Str)) : Bool := ws.all fun w => decide (fstV ls zs w.1 = .str w.2)
theorem scal_fst (ls : List Lb) (zs : List Str) (y x : Str) : scal (fstV ls zs y) (.str x) = true := by
  unfold fstV
  split <;> rfl
def sp__law_met (K : PySem.W.Frag) (A : Adr) : Sp := fun vs H Q _ => ∃ (d f q : Addr) (ls : List Lb) (zs : List Str) (ws : List (Str × Str)), vs = [.ref d, .ref f, .ref q] ∧ TblV K H d ls ∧ (names ls).Nodup ∧ SqL K H f (zs.map V.str) ∧ zs.length ≤ 1000 ∧ (∀ z ∈ zs, z ∈ names ls) ∧ WiAt H q ws ∧ ws.length ≤ 1000 ∧
  ∀ H', Ex H H' → Q (.bl (metB ls zs ws)) H'
theorem ok__law_met (T : Txt K mg A) : FnOk P w K mg base CX0 2 A.f__law_met A.d__law_met P__law_met (sp__law_met K A) := by
  refine T.F__law_met.ok sc__law_met (fun vs H Q E h => ?_) (fun cdv Ar outer s H vs Q E hr h => ?_)
  · obtain ⟨d, f, q, ls, zs, ws, rfl, _⟩ := h; rfl
  · have hu := hu_of hr
    refine ⟨_, (pss_one (ps_ret (pe_callB (k_all K rfl rfl) (by rfl) T.b_all (by decide +kernel) (pa_cons (pe_lcM (own := [("_law_sign", 3), ("_law_word", 4)]) (tt := tYes) rfl sc__law_met.nd (pi_items (pv 2)) (blkOk_by (N := N__law_met) (sc := defScope s__law_met) (by decide +kernel)) (fun _ _ _ _ _ => (k_gtup (n := 2) K rfl (by rfl) (pgs_cons (pg_name (i := 3) sc__law_met.nd rfl (Or.inl rfl)) (pgs_cons (pg_name (i := 4) sc__law_met.nd rfl (Or.inl rfl)) pgs_nil)))) (fun _ _ _ _ _ => pts_nil) (fun _ _ _ _ _ => (pe_cmpR op_eq (pe_call (ok__law_definer T) (hr.mono (by decide)) (by rfl) T.g__law_definer T.k__law_definer T.bi__law_definer .nil pass0 (pa_cons (pv 0) (pa_cons (pv 1) (pa_cons (pv 3) pa_nil)))) (pv 4) (nomark _)))) pa_nil)))), ?_⟩
    obtain ⟨d, f, q, ls, zs, ws, rfl, tv, nd, hf, lz, mz, ⟨o, hq⟩, lw, k⟩ := h
    rw [wkv_eq] at hq
    walk_at "rd"
    refine ⟨.ref q, rfl, q, o, _, rfl, hq, ?_⟩
    refine lc_itemsS hq (by rw [List.length_map]; omega) (fun _ => true) (fun kv => .bl (decide (fstV ls zs kv.1 = kv.2))) (fun z T Hx Hy hz ex nT eT hT => ?_) fun D H1 nD e1 hD => ?_
    · obtain ⟨w, hw, rfl⟩ := List.mem_map.mp hz
      have ee := ex.trans eT
      walk_at "rd"
      refine r_gtupE (st_of hT) rfl ?_
      walk_at "rd"
      refine ⟨rfl, ?_⟩
      walk_at "rd"
      refine ⟨rfl, ?_⟩
      refine r_iteT rfl ?_
      walk_at "rd"
      refine ⟨d, f, w.1, ls, zs, rfl, tv.up ee, nd, ex_l ee hf, lz, mz, fun H2 e2 => ?_⟩
      walk_at "rd"
      exact r_eq (scal_fst ls zs w.1 w.2) ⟨e2, rfl⟩
    walk_at "rd"
    have : H1 D = some (.lst ((ws.map fun w => decide (fstV ls zs w.1 = .str w.2)).map V.bl)) := by
      rw [hD, List.filter_eq_self.mpr (fun _ _ => rfl), List.map_map, List.map_map]
      rfl
    refine r_all (SqL.of this) ?_
    have e : ((ws.map fun w => decide (fstV ls zs w.1 = .str w.2)).all id) = metB ls zs ws := by rw [List.all_map]; rfl
    rw [e]
    exact k H1 e1
def sp__law_ahead (K : PySem.W.Frag) (A : Adr) : Sp := fun vs H Q _ => ∃ (d q f : Addr) (l : Lb) (ls : List Lb) (ws : List (Str × Str)) (zs : List Str), vs = [.ref d, .ref q, .ref f, .str l.nm] ∧ TblV K H d ls ∧ (names ls).Nodup ∧ WiAt H q ws ∧ SqL K H f (zs.map V.str) ∧ l ∈ ls ∧ l.df.length ≤ 20 ∧
  ∀ (g : Addr) H', H g = none → Ex H H' → H' g = some (.lst (((ahead ls ws zs l.nm).map (·.2)).map V.str)) → Q (.ref g) H'
theorem ok__law_ahead (T : Txt K mg A) : FnOk P w K mg base CX0 1 A.f__law_ahead A.d__law_ahead P__law_ahead (sp__law_ahead K A) := by
  refine T.F__law_ahead.ok sc__law_ahead (fun vs H Q E h => ?_) (fun cdv Ar outer s H vs Q E hr h => ?_)
  · obtain ⟨d, q, f, l, ls, ws, zs, rfl, _⟩ := h; rfl
  · have hu := hu_of hr
    refine ⟨_, (pss_cons (ps_set (i := 4) sc__law_ahead.nd rfl (Or.inl rfl) (pe_lstM pa_nil))
        (pss_cons (ps_for PassesOwn.never rfl (k_pit K rfl (pe_ix (k_ixT K rfl) (pe_dget hu (pv 0) (pv 3) (fun _ _ => rfl)) pe_int (fun _ _ => rfl))) (pg_name (i := 5) sc__law_ahead.nd rfl (Or.inl rfl))
          (pss_cons (ps_set (i := 6) sc__law_ahead.nd rfl (Or.inl rfl) (pe_dget1 hu (pv 1) (pv 5) ⟨by rfl, by rfl, by rfl, by rfl⟩))
        (pss_one (ps_if (PW.pt (pw_and (pt_cmpR op_notN (pv 6) pe_non (nomark _)) (pw_and (pt_cmpR op_ne (pv 6) (pv 3) (nomark _)) (pw_and1 (pt_cmpR (k_in K rfl) (pv 6) (pv 2) (by rfl))))))
          (pss_one (ps_expr (pe_bm PySem.F.plainAttrs_list PySem.F.slot_list_append PySem.F.type_list_append mt_append (pv 4) (pa_cons (pv 6) pa_nil))))
          pss_nil))))
        (pss_one (ps_ret (pv 4))))), ?_⟩
    obtain ⟨d, q, f, l, ls, ws, zs, rfl, ⟨o, kvs, hd, ra⟩, nd, wi, hf, hl, dl, k⟩ := h
    walk_at "rd"
    refine ⟨by simp, fun g H1 ng e1 hg => ?_⟩
    walk_at "rd"
    obtain ⟨v, hv, rl⟩ := row_of (ra.up e1) hl
    obtain ⟨a, t1, t2, t3, t4, rfl, ha, g1, g2, g3, g4⟩ := rl
    refine ⟨d, .ref a, rfl, dgetS (e1 _ _ hd) (rows_nd ra nd) hv, ?_⟩
    walk_at "rd"
    refine r_ixT ha rfl ?_
    walk_at "rd"
    refine ⟨t2, rfl, ⟨_, g2⟩, ?_⟩
    have tg2 : SqT K (fr [g] H1) t2 (l.df.map V.str) := by
      rcases g2 with (h | ⟨oo, h⟩) | h
      · exact .inl (.inl (fr_at1 h fun z => by rw [z, hg] at h; cases h))
      · exact .inl (.inr ⟨oo, fr_at1 h fun z => by rw [z, hg] at h; cases h⟩)
      · exact .inr h
    refine for_strT (K := K) (a := t2) (zs := l.df) (fun pre post σ' H' => Ex H H' ∧ Ex (fr [g] H1) H' ∧ H' g = some (.lst (((pre.filterMap (aheadW ws zs l.nm)).map (·.2)).map V.str)) ∧ ∃ o5 o6 : Option V, σ' = [some (.ref d), some (.ref q), some (.ref f), some (.str l.nm), some (.ref g), o5, o6])
      ⟨e1, fr_ex, hg, _, _, rfl⟩ (fun pre post σ' H' r => ex_t r.2.1 tg2) ?_ fun σ' H' r => ?_
    · rintro pre s0 post σ' H' e ⟨ex, ex2, hgt, o5, o6, rfl⟩
      have pl : pre.length ≤ 20 := by have := congrArg List.length e; simp at this; omega
      have tl : ((pre.filterMap (aheadW ws zs l.nm)).map (·.2)).length ≤ 20 := by
        rw [List.length_map]
        exact Nat.le_trans (List.length_filterMap_le _ _) pl
      have no : aheadW ws zs l.nm s0 = none → (pre ++ [s0]).filterMap (aheadW ws zs l.nm) = pre.filterMap (aheadW ws zs l.nm) := fun h => by
        rw [List.filterMap_append]
        simp [h]
      walk_at "rd"
      unfold tDGet1
      walk_at "rd"
      refine ⟨q, rfl, .inl ⟨_, .inr (wi.up ex)⟩, ?_⟩
      walk_at "rd"
      cases hw : wish ws s0 with
      | none =>
        have g0 := dgetF0 s0 (wi.up ex)
        rw [hw] at g0
        refine ⟨none, g0, ?_⟩
        simp only [Option.getD_none]
        walk_at "rd"
        refine ⟨rfl, ?_⟩
        refine r_bl ?_
        refine r_iteF (by rfl) ?_
        walk_at "rd"
        exact ⟨ex, ex2, by rw [no (by unfold aheadW; rw [hw])]; exact hgt, _, _, rfl⟩
      | some n =>
        refine ⟨some (.str n), dgetF (wi.up ex) hw, ?_⟩
        simp only [Option.getD_some]
        walk_at "rd"
        refine ⟨rfl, ?_⟩
        refine r_bl ?_
        refine r_iteT (by simp) ?_
        walk_at "rd"
        refine r_ne rfl ?_
        by_cases h1 : n = l.nm
        · rw [decide_eq_true (show V.str n = V.str l.nm by rw [h1])]
          walk_at "rd"
          exact ⟨ex, ex2, by rw [no (by unfold aheadW; rw [hw]; simp [h1])]; exact hgt, _, _, rfl⟩
        · rw [decide_eq_false (show ¬ V.str n = V.str l.nm from fun z => h1 (V.str.inj z))]
          walk_at "rd"
          refine r_inL (ex_l ex hf) rfl (flat_str zs) ?_
          rw [inV_str]
          by_cases h2 : n ∈ zs
          · rw [decide_eq_true h2]
            walk_at "rd"
            refine ⟨tyL (SqL.of hgt), ?_⟩
            walk_at "rd"
            refine r_app hgt (by rw [List.length_map]; omega) fun H4 h4 s4 => ?_
            refine ⟨Ex.sm ex ng s4, Ex.sm ex2 fr_no1 s4, ?_, _, _, rfl⟩
            have : (pre ++ [s0]).filterMap (aheadW ws zs l.nm) = pre.filterMap (aheadW ws zs l.nm) ++ [(s0, n)] := by
              rw [List.filterMap_append]
              simp [aheadW, hw, h1, h2]
            rw [h4, this, List.map_append, List.map_append]
            rfl
          · rw [decide_eq_false h2]
            walk_at "rd"
            exact ⟨ex, ex2, by rw [no (by unfold aheadW; rw [hw]; simp [h2])]; exact hgt, _, _, rfl⟩
    obtain ⟨ex, ex2, hgt, o5, o6, rfl⟩ := r
    walk_at "rd"
    refine k g H' ng ex ?_
    unfold ahead
    rw [dfOf_nd nd hl]
    exact hgt
/-- required after so many rounds -/
def Rn (ls : List Lb) (gs : List Str) (ws : List (Str × Str)) (ot : List Str) : Nat → Str → Prop
  | 0, z => ∃ w ∈ ws, w.2 = z ∧ fstV ls gs w.1 ≠ .str w.2
  | n + 1, z => Rn ls gs ws ot n z ∨ ∃ u, Rn ls gs ws ot n u ∧ ∃ q ∈ ahead ls ws ot u, q.2 = z
theorem Rn_names {ls : List Lb} {gs : List Str} {ws : List (Str × Str)} {m : Str} (ok : WOk ls ws) : ∀ (n : Nat) (z : Str), Rn ls gs ws (oth m ws) n z → z ∈ names ls
  | 0, z, ⟨w, hw, e, _⟩ => e ▸ ok.nm w hw
  | n + 1, z, .inl h => Rn_names ok n z h
  | n + 1, z, .inr ⟨u, _, q, hq, e⟩ => e ▸ oth_mem (ahead_mem hq).1 ok
theorem Rn_mono {ls : List Lb} {gs : List Str} {ws : List (Str × Str)} {ot : List Str} {n : Nat} {z : Str} : ∀ {k : Nat}, n ≤ k → Rn ls gs ws ot n z → Rn ls gs ws ot k z
  | 0, h, q => by rwa [Nat.le_zero.mp h] at q
  | k + 1, h, q => by
    by_cases e : n = k + 1
    · rwa [e] at q
    · exact .inl (Rn_mono (k := k) (by omega) q)
section
variable {ls : List Lb} {gs : List Str} {ws : List (Str × Str)} {m : Str}
theorem Rn_up {n : Nat} (st : ∀ z, Rn ls gs ws (oth m ws) (n + 1) z → Rn ls gs ws (oth m ws) n z) : ∀ (k : Nat) (z : Str), n ≤ k → Rn ls gs ws (oth m ws) k z → Rn ls gs ws (oth m ws) n z
  | 0, z, h, q => by rwa [Nat.le_zero.mp h]
  | k + 1, z, h, q => by
    by_cases e : n = k + 1
    · rwa [e]
    · rcases q with q | ⟨u, q, x⟩
      · exact Rn_up st k z (by omega) q
      · exact st z (.inr ⟨u, Rn_up st k u (by omega) q, x⟩)
open Classical in
noncomputable def Rl (ls : List Lb) (gs : List Str) (ws : List (Str × Str)) (m : Str) (n : Nat) : List Str := (names ls).filter fun z => decide (Rn ls gs ws (oth m ws) n z)
theorem mem_Rl (ok : WOk ls ws) {n : Nat} {z : Str} : z ∈ Rl ls gs ws m n ↔ Rn ls gs ws (oth m ws) n z := by
  unfold Rl
  rw [List.mem_filter]
  simp only [decide_eq_true_eq]
  exact ⟨And.right, fun h => ⟨Rn_names ok n z h, h⟩⟩
open Classical in
theorem Rn_step (ok : WOk ls ws) (nd : (names ls).Nodup) : ∀ n, n ≤ (Rl ls gs ws m n).length ∨ ∀ z, Rn ls gs ws (oth m ws) (n + 1) z → Rn ls gs ws (oth m ws) n z
  | 0 => .inl (Nat.zero_le _)
  | n + 1 => by
    by_cases st : ∀ z, Rn ls gs ws (oth m ws) (n + 1) z → Rn ls gs ws (oth m ws) n z
    · exact .inr fun z h => .inl (Rn_up st (n + 2) z (by omega) h)
    · have h := (Rn_step ok nd n).resolve_right st
      obtain ⟨z, hz⟩ := Classical.not_forall.mp st
      obtain ⟨h1, h2⟩ := Classical.not_imp.mp hz
      left
      have := nodup_le (xs := z :: Rl ls gs ws m n) (ys := Rl ls gs ws m (n + 1)) (List.nodup_cons.mpr ⟨fun q => h2 ((mem_Rl ok).mp q), nd.filter _⟩) fun x hx => by
        rcases List.mem_cons.mp hx with rfl | hx
        · exact (mem_Rl ok).mpr h1
        · exact (mem_Rl ok).mpr (.inl ((mem_Rl ok).mp hx))
      rw [List.length_cons] at this
      omega
theorem Rn_stop (ok : WOk ls ws) (nd : (names ls).Nodup) {n : Nat} {z : Str} (h : Rn ls gs ws (oth m ws) n z) : Rn ls gs ws (oth m ws) ls.length z := by
  have st : ∀ z, Rn ls gs ws (oth m ws) (ls.length + 1) z → Rn ls gs ws (oth m ws) ls.length z := by
    rcases Rn_step (gs := gs) (m := m) ok nd ls.length with q | q
    · intro x hx
      have xn := Rn_names ok _ x hx
      have e : Rl ls gs ws m ls.length = names ls := List.filter_sublist.eq_of_length (Nat.le_antisymm (List.length_filter_le _ _) (by unfold names; rw [List.length_map]; exact q))
      exact (mem_Rl ok).mp (by rw [e]; exact xn)
    · exact q
  by_cases q : n ≤ ls.length
  · exact Rn_mono q h
  · exact Rn_up st n z (by omega) h
end
theorem addN_mem {fs : List Str} {n z : Str} : z ∈ addN fs n ↔ z ∈ fs ∨ z = n := by
  unfold addN
  split
  · rename_i h
    exact ⟨.inl, fun q => q.elim id fun q => q ▸ h⟩
  · rw [List.mem_append, List.mem_singleton]
theorem addN_pre (fs : List Str) (n : Str) : ∃ r, addN fs n = fs ++ r := by
  unfold addN
  split
  · exact ⟨[], by simp⟩
  · exact ⟨[n], rfl⟩
theorem addF_mem {α : Type} (f : α → Str) {z : Str} : ∀ (qs : List α) (fs : List Str), z ∈ qs.foldl (fun fs q => addN fs (f q)) fs ↔ z ∈ fs ∨ ∃ q ∈ qs, f q = z
  | [], fs => by simp
  | q :: r, fs => by
    rw [List.foldl_cons, addF_mem f r, addN_mem]
    simp only [List.mem_cons, exists_eq_or_imp]
    constructor
    · rintro ((h | h) | h)
      · exact .inl h
      · exact .inr (.inl h.symm)
      · exact .inr (.inr h)
    · rintro (h | h | h)
      · exact .inl (.inl h)
      · exact .inl (.inr h.symm)
      · exact .inr h
theorem addF_pre {α : Type} (f : α → Str) : ∀ (qs : List α) (fs : List Str), ∃ r, qs.foldl (fun fs q => addN fs (f q)) fs = fs ++ r
  | [], fs => ⟨[], by simp⟩
  | q :: r, fs => by
    obtain ⟨a, ha⟩ := addN_pre fs (f q)
    obtain ⟨b, hb⟩ := addF_pre f r (addN fs (f q))
    exact ⟨a ++ b, by rw [List.foldl_cons, hb, ha, List.append_assoc]⟩
theorem addF_ok {ls : List Lb} {α : Type} (f : α → Str) : ∀ (qs : List α) (fs : List Str), (∀ q ∈ qs, f q ∈ names ls) → CloI ls fs → CloI ls (qs.foldl (fun fs q => addN fs (f q)) fs)
  | [], _, _, h => h
  | q :: r, fs, m, h => addF_ok f r _ (fun x hx => m x (List.mem_cons_of_mem _ hx)) (addN_ok h (m q (List.mem_cons_self ..)))
theorem req0_mem {ls : List Lb} {ev : List Str} {z : Str} : ∀ (ws : List (Str × Str)) (fs : List Str), z ∈ ws.foldl (fun fs w => if fstV ls ev w.1 = .str w.2 then fs else addN fs w.2) fs ↔ z ∈ fs ∨ ∃ w ∈ ws, w.2 = z ∧ fstV ls ev w.1 ≠ .str w.2
  | [], fs => by simp
  | w :: r, fs => by
    rw [List.foldl_cons, req0_mem r]
    simp only [List.mem_cons, exists_eq_or_imp]
    by_cases h : fstV ls ev w.1 = .str w.2
    · rw [if_pos h]
      constructor
      · rintro (q | q)
        · exact .inl q
        · exact .inr (.inr q)
      · rintro (q | q | q)
        · exact .inl q
        · exact absurd h q.2
        · exact .inr q
    · rw [if_neg h, addN_mem]
      constructor
      · rintro ((q | q) | q)
        · exact .inl q
        · exact .inr (.inl ⟨q.symm, h⟩)
        · exact .inr (.inr q)
      · rintro (q | q | q)
        · exact .inl (.inl q)
        · exact .inl (.inr q.1.symm)
        · exact .inr q
theorem req0_ok {ls : List Lb} {ev : List Str} : ∀ (ws : List (Str × Str)) (fs : List Str), (∀ w ∈ ws, w.2 ∈ names ls) → CloI ls fs → CloI ls (ws.foldl (fun fs w => if fstV ls ev w.1 = .str w.2 then fs else addN fs w.2) fs)
  | [], _, _, h => h
  | w :: r, fs, m, h => by
    rw [List.foldl_cons]
    refine req0_ok r _ (fun x hx => m x (List.mem_cons_of_mem _ hx)) ?_
    split
    · exact h
    · exact addN_ok h (m w (List.mem_cons_self ..))
section
variable {ls : List Lb} {gs : List Str} {ws : List (Str × Str)} {m : Str}
theorem reqF_sound : ∀ (n : Nat) (fs : List Str) (i : Nat), (∀ z ∈ fs, ∃ k, Rn ls gs ws (oth m ws) k z) → ∀ z ∈ reqF ls ws (oth m ws) n fs i, ∃ k, Rn ls gs ws (oth m ws) k z
  | 0, fs, i, h, z, hz => h z hz
  | n + 1, fs, i, h, z, hz => by
    unfold reqF at hz
    cases e : fs[i]? with
    | none => rw [e] at hz; exact h z hz
    | some u =>
      rw [e] at hz
      refine reqF_sound n _ (i + 1) (fun x hx => ?_) z hz
      unfold reqS at hx
      rcases (addF_mem (fun q : Str × Str => q.2) _ _).mp hx with hx | ⟨q, hq, rfl⟩
      · exact h x hx
      · obtain ⟨k, hk⟩ := h u (List.mem_of_getElem? e)
        exact ⟨k + 1, .inr ⟨u, hk, q, hq, rfl⟩⟩
theorem reqF_full (ok : WOk ls ws) (l40 : ls.length ≤ 40) : ∀ (n : Nat) (fs : List Str) (i : Nat), CloI ls fs → i + n = 41 → (∀ j u, j < i → fs[j]? = some u → ∀ q ∈ ahead ls ws (oth m ws) u, q.2 ∈ fs) →
    (∀ z ∈ fs, z ∈ reqF ls ws (oth m ws) n fs i) ∧ CloI ls (reqF ls ws (oth m ws) n fs i) ∧ ∀ u ∈ reqF ls ws (oth m ws) n fs i, ∀ q ∈ ahead ls ws (oth m ws) u, q.2 ∈ reqF ls ws (oth m ws) n fs i
  | 0, fs, i, c, e, h => ⟨fun z hz => hz, c, fun u hu => by
    obtain ⟨j, hj⟩ := List.getElem?_of_mem (show u ∈ fs from hu)
    have := (List.getElem?_eq_some_iff.mp hj).1
    have := c.len
    exact h j u (by omega) hj⟩
  | n + 1, fs, i, c, e, h => by
    unfold reqF
    cases hz : fs[i]? with
    | none =>
      simp only
      refine ⟨fun z hz => hz, c, fun u hu => ?_⟩
      obtain ⟨j, hj⟩ := List.getElem?_of_mem hu
      have := (List.getElem?_eq_some_iff.mp hj).1
      have := List.getElem?_eq_none_iff.mp hz
      exact h j u (by omega) hj
    | some v =>
      simp only
      have il := (List.getElem?_eq_some_iff.mp hz).1
      have qn : ∀ q ∈ ahead ls ws (oth m ws) v, q.2 ∈ names ls := fun q hq => oth_mem (ahead_mem hq).1 ok
      have c2 : CloI ls (reqS ls ws (oth m ws) fs v) := addF_ok (fun q : Str × Str => q.2) _ _ qn c
      have mem : ∀ z, z ∈ reqS ls ws (oth m ws) fs v ↔ z ∈ fs ∨ ∃ q ∈ ahead ls ws (oth m ws) v, q.2 = z := fun z => addF_mem (fun q : Str × Str => q.2) _ _
      obtain ⟨r, hr⟩ : ∃ r, reqS ls ws (oth m ws) fs v = fs ++ r := addF_pre (fun q : Str × Str => q.2) _ _
      obtain ⟨a1, a2, a3⟩ := reqF_full ok l40 n (reqS ls ws (oth m ws) fs v) (i + 1) c2 (by omega) fun j u hj hu q hq => by
        rw [hr, List.getElem?_append_left (by omega)] at hu
        by_cases ji : j = i
        · subst ji
          rw [hz] at hu
          cases hu
          exact (mem q.2).mpr (.inr ⟨q, hq, rfl⟩)
        · exact (mem q.2).mpr (.inl (h j u (by omega) hu q hq))
      exact ⟨fun z hz => a1 z ((mem z).mpr (.inl hz)), a2, a3⟩
theorem reqs_Rn (ok : WOk ls ws) (nd : (names ls).Nodup) (l40 : ls.length ≤ 40) (z : Str) : z ∈ reqs ls gs m ws ↔ Rn ls gs ws (oth m ws) ls.length z := by
  have m0 : ∀ z, z ∈ req0 ls gs ws ↔ Rn ls gs ws (oth m ws) 0 z := fun z => by
    have := req0_mem (ls := ls) (ev := gs) (z := z) ws []
    simp only [List.not_mem_nil, false_or] at this
    exact this
  have c0 : CloI ls (req0 ls gs ws) := req0_ok ws [] ok.nm ⟨List.nodup_nil, fun z h => (nomatch h)⟩
  obtain ⟨a1, a2, a3⟩ := reqF_full (m := m) ok l40 41 (req0 ls gs ws) 0 c0 rfl fun j u hj => by omega
  constructor
  · intro h
    obtain ⟨k, hk⟩ := reqF_sound 41 (req0 ls gs ws) 0 (fun x hx => ⟨0, (m0 x).mp hx⟩) z h
    exact Rn_stop ok nd hk
  · have : ∀ n z, Rn ls gs ws (oth m ws) n z → z ∈ reqs ls gs m ws := fun n => by
      induction n with
      | zero => exact fun z h => a1 z ((m0 z).mpr h)
      | succ n ih =>
        rintro z (h | ⟨u, hu, q, hq, rfl⟩)
        · exact ih z h
        · exact a3 u (ih u hu) q hq
    exact this _ z
end
theorem lcF_ci {ls : List Lb} {go : Str} (n : NsOk ls go) : ∀ (k : Nat) (fs : List Str) (i : Nat) (gs : List Str), CloG ls go fs → lcF ls k fs i = some gs → CloG ls go gs
  | 0, fs, i, gs, c, h => by cases h; exact c
  | k + 1, fs, i, gs, c, h => by
    unfold lcF at h
    cases hz : fs[i]? with
    | none => rw [hz] at h; cases h; exact c
    | some z =>
      rw [hz] at h
      simp only at h
      cases hf : ls.find? (fun l => decide (l.nm = z)) with
      | none => rw [hf] at h; cases h
      | some l =>
        rw [hf] at h
        exact lcF_ci n k _ _ gs (c.grow n (List.mem_of_find?_eq_some hf)) h
theorem cloF_ci {ls : List Lb} {go : Str} (n : NsOk ls go) : ∀ (k : Nat) (fs : List Str) (i : Nat) (gs : List Str), CloI ls fs → cloF ls k fs i = .inr gs → CloI ls gs
  | 0, fs, i, gs, c, h => by cases h; exact c
  | k + 1, fs, i, gs, c, h => by
    unfold cloF at h
    cases hz : fs[i]? with
    | none => rw [hz] at h; cases h; exact c
    | some z =>
      rw [hz] at h
      simp only at h
      cases hf : ls.find? (fun l => decide (l.nm = z)) with
      | none => rw [hf] at h; cases h; exact c
      | some l =>
        rw [hf] at h
        simp only at h
        cases ha : absent ls (more l fs) with
        | some q => rw [ha] at h; cases h
        | none =>
          rw [ha] at h
          refine cloF_ci n k _ _ gs ⟨List.nodup_append.mpr ⟨c.nd, (n.ns l (List.mem_of_find?_eq_some hf)).1.filter _, fun x hx y hy e => ?_⟩, fun x hx => ?_⟩ h
          · have := (List.mem_filter.mp hy).2
            rw [← e] at this
            exact of_decide_eq_true this hx
          · rcases List.mem_append.mp hx with hx | hx
            · exact c.sub x hx
            · have := List.find?_eq_none.mp ha x hx
              simpa using this
theorem lclo_ci {ls : List Lb} {go z : Str} {gs : List Str} (n : NsOk ls go) (hz : z ∈ names ls) (h : lclo ls z = some gs) : CloI ls gs :=
  cloF_ci n 41 [z] 0 gs ⟨by simp, fun y hy => by rw [List.mem_singleton.mp hy]; exact hz⟩ (lclo_clo n hz h)
theorem glob_nil {m : Str} {gs : List Str} (h : gs[0]? = some m) (nd : gs.Nodup) : glob m gs [] = gs := by
  cases gs with
  | nil => cases h
  | cons x r =>
    cases h
    rw [List.nodup_cons] at nd
    unfold glob
    rw [List.filter_cons]
    simp only [List.mem_singleton, decide_true, Bool.not_true, Bool.false_eq_true, if_false, List.cons_append, List.nil_append]
    congr 1
    refine List.filter_eq_self.mpr fun y hy => ?_
    have : y ≠ m := fun e => nd.1 (e ▸ hy)
    simp [this]
def sp__law_required (K : PySem.W.Frag) (A : Adr) : Sp := fun vs H Q _ => ∃ (d q : Addr) (m : Str) (ls : List Lb) (go : Str) (gs : List Str) (ws : List (Str × Str)), vs = [.ref d, .str m, .ref q] ∧ TblV K H d ls ∧ NsOk ls go ∧ (∀ l ∈ ls, l.df.length ≤ 20) ∧ m ∈ names ls ∧ lclo ls m = some gs ∧ WiAt H q ws ∧ WOk ls ws ∧
  ∀ (g : Addr) ks H', PyProof.Rows.sortedS ks = true → ks.Nodup → (∀ z, z ∈ ks ↔ z ∈ reqs ls gs m ws) → H g = none → Ex H H' → H' g = some (.lst (ks.map V.str)) → Q (.ref g) H'
theorem ok__law_required (T : Txt K mg A) : FnOk P w K mg base CX0 3 A.f__law_required A.d__law_required P__law_required (sp__law_required K A) := by
  refine T.F__law_required.ok sc__law_required (fun vs H Q E h => ?_) (fun cdv Ar outer s H vs Q E hr h => ?_)
  · obtain ⟨d, q, m, ls, go, gs, ws, rfl, _⟩ := h; rfl
  · have hu := hu_of hr
    refine ⟨_, (pss_cons (ps_set (i := 3) sc__law_required.nd rfl (Or.inr rfl) (pe_call (ok__law_global T) (hr.mono (by decide)) (by rfl) T.g__law_global T.k__law_global T.bi__law_global .nil pass0 (pa_cons (pv 0) (pa_cons (pv 1) (pa_cons (pe_lstM pa_nil) pa_nil)))))
        (pss_cons (ps_set (i := 4) sc__law_required.nd rfl (Or.inl rfl) (k_sortSetL K rfl rfl (by rfl) T.b_sorted (by rfl) T.b_set (pe_lcM (own := [("_law_sign", 5), ("_law_word", 6)]) rfl sc__law_required.nd (pi_items (pv 2)) (blkOk_by (N := N__law_required) (sc := defScope s__law_required) (by decide +kernel)) (fun _ _ _ _ _ => (k_gtup (n := 2) K rfl (by rfl) (pgs_cons (pg_name (i := 5) sc__law_required.nd rfl (Or.inl rfl)) (pgs_cons (pg_name (i := 6) sc__law_required.nd rfl (Or.inl rfl)) pgs_nil)))) (fun _ _ _ _ _ => (pts_one (pt_cmpR op_ne (pe_call (ok__law_definer T) (hr.mono (by decide)) (by rfl) T.g__law_definer T.k__law_definer T.bi__law_definer .nil pass0 (pa_cons (pv 0) (pa_cons (pv 3) (pa_cons (pv 5) pa_nil)))) (pv 6) (nomark _)))) (fun _ _ _ _ _ => (pv 6)))))
        (pss_cons (ps_setLcM (i := 7) (own := [("_law_word", 6)]) rfl sc__law_required.nd rfl rfl (sw_true rfl rfl rfl (by decide +kernel)) (pi_values (pv 2)) (blkOk_by (N := N__law_required) (sc := defScope s__law_required) (by decide +kernel)) (fun _ _ _ _ _ => (pg_name (i := 6) sc__law_required.nd rfl (Or.inl rfl))) (fun _ _ _ _ _ => (pts_one (pt_cmpR op_ne (pv 6) (pv 1) (nomark _)))) (fun _ _ _ _ _ => (pv 6)))
        (pss_cons (ps_for PassesOwn.never rfl (pi_range1 (by rfl) T.b_range (pa_cons (pe_callB call_lenDR (by rfl) T.b_len PySem.boot_len (pa_cons (pv 0) pa_nil)) pa_nil)) (pg_name (i := 8) sc__law_required.nd rfl (Or.inl rfl))
          (pss_cons (ps_set (i := 9) sc__law_required.nd rfl (Or.inl rfl) (pe_lstM pa_nil))
        (pss_cons (ps_for PassesOwn.never rfl (k_pil K rfl (pv 4)) (pg_name (i := 6) sc__law_required.nd rfl (Or.inl rfl))
          (pss_one (ps_set (i := 9) sc__law_required.nd rfl (Or.inl rfl) (pe_op op_catM (pv 9) (pe_call (ok__law_ahead T) (hr.mono (by decide)) (by rfl) T.g__law_ahead T.k__law_ahead T.bi__law_ahead .nil pass0 (pa_cons (pv 0) (pa_cons (pv 2) (pa_cons (pv 7) (pa_cons (pv 6) pa_nil)))))))))
        (pss_one (ps_set (i := 4) sc__law_required.nd rfl (Or.inl rfl) (k_sortSetL K rfl rfl (by rfl) T.b_sorted (by rfl) T.b_set (pe_op op_catM (pv 4) (pv 9))))))))
        (pss_one (ps_ret (pv 4))))))), ?_⟩
    obtain ⟨d, q, m, ls, go, gs, ws, rfl, tv, ok, dl, hm, hg, wi, wok, k⟩ := h
    have nd := ok.nd
    have l40 := ok.len
    obtain ⟨o, hq⟩ := id wi
    rw [wkv_eq] at hq
    have w60 := wok.len
    have ci := lclo_ci ok hm hg
    have gn : glob m gs [] = gs := glob_nil (clo_head (lclo_clo ok hm hg)) ci.nd
    have gl := ci.len
    have nl : (names ls).length ≤ 40 := by unfold names; rwa [List.length_map]
    walk_at "rd"
    refine ⟨by simp, fun b H1 nb e1 hb => ?_⟩
    walk_at "rd"
    refine ⟨d, b, m, ls, go, gs, [], rfl, tv.up e1, ok, hm, hg, .inl (SqL.of hb), by simp, fun f H2 nf e2 hf => ?_⟩
    rw [gn] at hf
    have e12 := e1.trans e2
    walk_at "rd"
    walk_at "rd"
    refine ⟨.ref q, rfl, q, o, _, rfl, e12 _ _ hq, ?_⟩
    refine lc_itemsS (e12 _ _ hq) (by rw [List.length_map]; omega) (fun kv => !decide (fstV ls gs kv.1 = kv.2)) (fun kv => kv.2) (fun z T Hx Hy hz ex nT eT hT => ?_) fun D H3 nD e3 hD => ?_
    · obtain ⟨w, hw, rfl⟩ := List.mem_map.mp hz
      have ee := ex.trans eT
      walk_at "rd"
      refine r_gtupE (st_of hT) rfl ?_
      walk_at "rd"
      refine ⟨rfl, ?_⟩
      walk_at "rd"
      refine ⟨d, f, w.1, ls, gs, rfl, tv.up (e12.trans ee), nd, ex_l ee (SqL.of hf), by omega, ci.sub, fun H2 e2 => ?_⟩
      walk_at "rd"
      refine r_ne (scal_fst ls gs w.1 w.2) ?_
      refine r_bl ⟨rfl, ?_⟩
      refine r_ite (fun c => ?_) (fun c => e2)
      walk_at "rd"
      exact ⟨e2, rfl⟩
    obtain ⟨r0, hr0, mr0, lr0⟩ : ∃ r0 : List Str, H3 D = some (.lst (r0.map V.str)) ∧ (∀ z, z ∈ r0 ↔ Rn ls gs ws (oth m ws) 0 z) ∧ r0.length ≤ 1000 := by
      refine ⟨(ws.filter fun w => !decide (fstV ls gs w.1 = .str w.2)).map (·.2), ?_, fun z => ?_, by rw [List.length_map]; exact Nat.le_trans (List.length_filter_le _ _) (by omega)⟩
      · rw [hD, List.filter_map, List.map_map, List.map_map]
        rfl
      · rw [List.mem_map]
        constructor
        · rintro ⟨w, hw, e⟩
          exact ⟨w, (List.mem_filter.mp hw).1, e, by simpa using (List.mem_filter.mp hw).2⟩
        · rintro ⟨w, hw, e, n⟩
          exact ⟨w, List.mem_filter.mpr ⟨hw, by simpa using n⟩, e⟩
    have r0n : ∀ z ∈ r0, z ∈ names ls := fun z hz => Rn_names wok 0 z ((mr0 z).mp hz)
    have e13 := e12.trans e3
    refine ⟨D, r0, rfl, SqL.of hr0, lr0, by have := fcnt_of r0n; omega, fun ks g H4 so kn mk ng e4 hg4 => ?_⟩
    have e14 := e13.trans e4
    walk_at "rd"
    refine ⟨.ref q, rfl, q, o, _, rfl, e14 _ _ hq, ?_⟩
    refine lc_valuesS (e14 _ _ hq) (by rw [List.length_map]; omega) (fun kv => !decide (kv.2 = .str m)) (fun kv => kv.2) (fun z Hx hz ex => ?_) fun D2 H5 nD2 e5 hD2 => ?_
    · obtain ⟨w, hw, rfl⟩ := List.mem_map.mp hz
      walk_at "rd"
      refine ⟨rfl, ?_⟩
      walk_at "rd"
      refine r_ne rfl ?_
      refine r_bl ⟨rfl, ?_⟩
      refine r_ite (fun c => ?_) (fun c => Ex.refl _)
      walk_at "rd"
      exact ⟨Ex.refl _, rfl⟩
    replace hD2 : H5 D2 = some (.lst ((oth m ws).map V.str)) := by
      rw [hD2, List.filter_map, List.map_map]
      unfold oth
      rw [List.filter_map, List.map_map]
      congr 3
      refine List.filter_congr fun w _ => ?_
      simp
    have e15 := e14.trans e5
    obtain ⟨od, kvs, hd, ra⟩ := id tv
    walk_at "rd"
    refine r_lenDR (.inr ⟨od, e15 _ _ hd⟩) ?_
    rw [kvS_len, ra.len]
    walk_at "rd"
    refine ⟨_, rfl, by omega, by omega, ?_⟩
    have D5 : Ex H5 H5 := Ex.refl _
    refine for_range (m := ls.length) (fun i σ' H' => ∃ (f2 : Addr) (ks : List Str) (o5 o6 o8 o9 : Option V), σ' = [some (.ref d), some (.str m), some (.ref q), some (.ref f), some (.ref f2), o5, o6, some (.ref D2), o8, o9] ∧ Ex H5 H' ∧ H f2 = none ∧ H' f2 = some (.lst (ks.map V.str)) ∧ PyProof.Rows.sortedS ks = true ∧ ks.Nodup ∧ ∀ z, z ∈ ks ↔ Rn ls gs ws (oth m ws) i z)
      ⟨g, ks, _, _, _, _, rfl, Ex.refl _, ex_none e13 ng, e5 _ _ hg4, so, kn, fun z => (mk z).trans (mr0 z)⟩ ?_ fun σ' H' r => ?_
    rotate_left
    · obtain ⟨f2, ks, o5, o6, o8, o9, rfl, ex, nf2, hf2, so, kn, mk⟩ := r
      walk_at "rd"
      exact k f2 ks H' so kn (fun z => (mk z).trans (reqs_Rn wok nd l40 z).symm) nf2 (e15.trans ex) hf2
    clear so kn mk ng e4 hg4 hr0 mr0 r0n hD ks
    rintro i σ' H6 hi ⟨f2, ks, o5, o6, o8, o9, rfl, ex, nf2, hf2, so, kn, mk⟩
    have kn40 : ks.length ≤ 40 := by
      have := nodup_le (ys := names ls) kn fun z hz => Rn_names wok i z ((mk z).mp hz)
      omega
    have e16 := e15.trans ex
    walk_at "rd"
    refine ⟨by simp, fun g2 H7 ng2 e7 hg2 => ?_⟩
    walk_at "rd"
    refine ⟨f2, rfl, ⟨_, SqL.of (e7 _ _ hf2)⟩, ?_⟩
    refine for_strL (K := K) (a := f2) (zs := ks) (fun pre post σ' H' => ∃ (g : Addr) (ms : List Str) (o5 o6 o8 : Option V), σ' = [some (.ref d), some (.str m), some (.ref q), some (.ref f), some (.ref f2), o5, o6, some (.ref D2), o8, some (.ref g)] ∧ Ex H7 H' ∧ H' g = some (.lst (ms.map V.str)) ∧ ms.length ≤ 20 * pre.length ∧ ∀ z, z ∈ ms ↔ ∃ u ∈ pre, ∃ q ∈ ahead ls ws (oth m ws) u, q.2 = z)
      ⟨g2, [], _, _, _, rfl, Ex.refl _, hg2, Nat.zero_le _, fun z => by simp⟩ (fun pre post σ' H' r => by
        obtain ⟨g, ms, o5, o6, o8, _, ex2, _⟩ := r
        exact SqL.of (ex2 _ _ (e7 _ _ hf2))) ?_ fun σ' H' r => ?_
    · rintro pre u post σ' H8 e ⟨g, ms, o5, o6, o8, rfl, ex2, hg8, ml, mm⟩
      have um : u ∈ ks := by rw [e]; simp
      have pl : pre.length ≤ 40 := by have := congrArg List.length e; simp at this; omega
      obtain ⟨l, _, hl, rfl⟩ := find_nm (Rn_names wok i u ((mk u).mp um))
      have e18 := e16.trans (e7.trans ex2)
      walk_at "rd"
      refine ⟨d, q, D2, l, ls, ws, oth m ws, rfl, tv.up e18, nd, wi.up e18, SqL.of ((ex.trans (e7.trans ex2)) _ _ hD2), hl, dl l hl, fun g3 H9 ng3 e9 hg3 => ?_⟩
      have al : ((ahead ls ws (oth m ws) l.nm).map (·.2)).length ≤ 20 := by
        rw [List.length_map]
        unfold ahead
        rw [dfOf_nd nd hl]
        exact Nat.le_trans (List.length_filterMap_le _ _) (dl l hl)
      refine r_catM (e9 _ _ hg8) hg3 (by rw [List.length_map, List.length_map]; omega) fun g4 H10 ng4 e10 hg4 => ?_
      walk_at "rd"
      refine ⟨g4, ms ++ (ahead ls ws (oth m ws) l.nm).map (·.2), _, _, _, rfl, ex2.trans (e9.trans e10), by rw [hg4, List.map_append], by rw [List.length_append, List.length_append]; simp only [List.length_cons, List.length_nil]; omega, fun z => ?_⟩
      rw [List.mem_append, mm, List.mem_map]
      simp only [List.mem_append, List.mem_singleton]
      constructor
      · rintro (⟨u, hu, x⟩ | ⟨q, hq, rfl⟩)
        · exact ⟨u, .inl hu, x⟩
        · exact ⟨_, .inr rfl, q, hq, rfl⟩
      · rintro ⟨u, hu | rfl, q, hq, rfl⟩
        · exact .inl ⟨u, hu, q, hq, rfl⟩
        · exact .inr ⟨q, hq, rfl⟩
    obtain ⟨g, ms, o5, o6, o8, rfl, ex2, hg8, ml, mm⟩ := r
    have hf8 := ex2 _ _ (e7 _ _ hf2)
    walk_at "rd"
    refine r_catM hf8 hg8 (by rw [List.length_map, List.length_map]; omega) fun g4 H10 ng4 e10 hg4 => ?_
    have mn : ∀ z ∈ ks ++ ms, z ∈ names ls := fun z hz => by
      rcases List.mem_append.mp hz with hz | hz
      · exact Rn_names wok i z ((mk z).mp hz)
      · obtain ⟨u, hu, q, hq, rfl⟩ := (mm z).mp hz
        exact oth_mem (ahead_mem hq).1 wok
    rw [← List.map_append] at hg4
    refine ⟨g4, ks ++ ms, rfl, SqL.of hg4, by rw [List.length_append]; omega, by have := fcnt_of mn; omega, fun ks2 g5 H11 so2 kn2 mk2 ng5 e11 hg5 => ?_⟩
    walk_at "rd"
    have e5x : Ex H5 H11 := ex.trans (e7.trans (ex2.trans (e10.trans e11)))
    refine ⟨g5, ks2, _, _, _, _, rfl, e5x, ex_none (e16.trans (e7.trans (ex2.trans e10))) ng5, hg5, so2, kn2, fun z => ?_⟩
    rw [mk2, List.mem_append, mm]
    show _ ↔ Rn ls gs ws (oth m ws) i z ∨ ∃ u, Rn ls gs ws (oth m ws) i u ∧ ∃ q ∈ ahead ls ws (oth m ws) u, q.2 = z
    constructor
    · rintro (h | ⟨u, hu, x⟩)
      · exact .inl ((mk z).mp h)
      · exact .inr ⟨u, (mk u).mp hu, x⟩
    · rintro (h | ⟨u, hu, x⟩)
      · exact .inl ((mk z).mpr h)
      · exact .inr ⟨u, (mk u).mpr hu, x⟩
def sp__law_hoped (K : PySem.W.Frag) (A : Adr) : Sp := fun vs H Q _ => ∃ (p d s : Addr) (m : Str) (ls : List Lb) (go : Str) (gs ss : List Str) (n : Nat), vs = [.ref p, .ref d, .str m, .ref s] ∧ TblV K H d ls ∧ Tbl ls go ss ∧ m ∈ names ls ∧ lclo ls m = some gs ∧ s ≠ p ∧ SqL K H s (ss.map V.str) ∧ ss.length ≤ 20 ∧ ss.Nodup ∧ n ≤ 70000000 ∧ WellAt H p n ∧
  ∀ (g : Addr) (ws : List (Str × Str)) (H' : Hp), WDr ls ss ws → H g = none → Sm p H H' → WellAt H' p (n + 1000) → H' g = some (.dK (wkv ws)) → Q (.ref g) H'
theorem ok__law_hoped (T : Txt K mg A) : FnOk P w K mg base CX0 4 A.f__law_hoped A.d__law_hoped P__law_hoped (sp__law_hoped K A) := by
  refine T.F__law_hoped.ok sc__law_hoped (fun vs H Q E h => ?_) (fun cdv Ar outer s H vs Q E hr h => ?_)
  · obtain ⟨p, d, s, m, ls, go, gs, ss, n, rfl, _⟩ := h; rfl
  · have hu := hu_of hr
    refine ⟨_, (pss_cons (ps_if (pt_cmpR op_eq (pe_call (ok__law_draw T) (hr.mono (by decide)) (by rfl) T.g__law_draw T.k__law_draw T.bi__law_draw .nil pass0 (pa_cons (pv 0) (pa_cons pe_int pa_nil))) pe_int (nomark _))
          (pss_one (ps_ret (pe_call (ok__law_wishes T) (hr.mono (by decide)) (by rfl) T.g__law_wishes T.k__law_wishes T.bi__law_wishes .nil pass0 (pa_cons (pv 0) (pa_cons (pv 1) (pa_cons (pv 3) pa_nil))))))
          pss_nil)
        (pss_cons (ps_set (i := 4) sc__law_hoped.nd rfl (Or.inl rfl) (pe_call (ok__law_part T) (hr.mono (by decide)) (by rfl) T.g__law_part T.k__law_part T.bi__law_part .nil pass0 (pa_cons (pv 0) (pa_cons (pe_lcM (own := [("_law_word", 5)]) rfl sc__law_hoped.nd (pi_keys (pv 1)) (blkOk_by (N := N__law_hoped) (sc := defScope s__law_hoped) (by decide +kernel)) (fun _ _ _ _ _ => (pg_name (i := 5) sc__law_hoped.nd rfl (Or.inl rfl))) (fun _ _ _ _ _ => (pts_one (pt_cmpR op_ne (pv 5) (pv 2) (nomark _)))) (fun _ _ _ _ _ => (pv 5))) (pa_cons (pe_call (ok__law_pick T) (hr.mono (by decide)) (by rfl) T.g__law_pick T.k__law_pick T.bi__law_pick .nil pass0 (pa_cons (pv 0) (pa_cons (pe_lstM (pa_cons pe_int (pa_cons pe_int (pa_cons pe_int pa_nil)))) pa_nil))) pa_nil)))))
        (pss_cons (ps_par (i := 6) (j := 7) (by rfl) sc__law_hoped.nd rfl rfl (by decide) rfl rfl (pa_cons (pe_call (ok__law_global T) (hr.mono (by decide)) (by rfl) T.g__law_global T.k__law_global T.bi__law_global .nil pass0 (pa_cons (pv 1) (pa_cons (pv 2) (pa_cons (pv 4) pa_nil)))) (pa_cons pe_dnewK pa_nil)) (by rfl))
        (pss_cons (ps_for PassesOwn.never rfl (k_pil K rfl (pe_call (ok__law_part T) (hr.mono (by decide)) (by rfl) T.g__law_part T.k__law_part T.bi__law_part .nil pass0 (pa_cons (pv 0) (pa_cons (pv 3) (pa_cons (pe_call (ok__law_pick T) (hr.mono (by decide)) (by rfl) T.g__law_pick T.k__law_pick T.bi__law_pick .nil pass0 (pa_cons (pv 0) (pa_cons (pe_lstM (pa_cons pe_int (pa_cons pe_int (pa_cons pe_int pa_nil)))) pa_nil))) pa_nil))))) (pg_name (i := 8) sc__law_hoped.nd rfl (Or.inl rfl))
          (pss_one (ps_if (pt_cmpR op_notN (pe_call (ok__law_definer T) (hr.mono (by decide)) (by rfl) T.g__law_definer T.k__law_definer T.bi__law_definer .nil pass0 (pa_cons (pv 1) (pa_cons (pv 6) (pa_cons (pv 8) pa_nil)))) pe_non (nomark _))
          (pss_one (ps_dput hu (pv 7) (pv 8) (pe_call (ok__law_definer T) (hr.mono (by decide)) (by rfl) T.g__law_definer T.k__law_definer T.bi__law_definer .nil pass0 (pa_cons (pv 1) (pa_cons (pv 6) (pa_cons (pv 8) pa_nil)))) rfl))
          pss_nil)))
        (pss_one (ps_ret (pv 7))))))), ?_⟩
    obtain ⟨p, d, s, m, ls, go, gs, ss, n, rfl, tv, tb, mn, hgs, sp, hs, s20, sn, hn, hw, k⟩ := h
    have nl : (names ls).length ≤ 40 := by unfold names; rw [List.length_map]; exact tb.len.2
    have nne : names ls ≠ [] := fun z => by
      have := tb.len.1
      have z2 : (names ls).length = 0 := by rw [z]; rfl
      unfold names at z2
      rw [List.length_map] at z2
      omega
    have ci := lclo_ci tb.nsOk mn hgs
    have gl := ci.len
    have l40 := tb.len.2
    walk_at "rd"
    refine ⟨p, 4, n, rfl, by decide, by decide, by omega, hw, fun dd H1 d0 d1 s1 w1 => ?_⟩
    have tv1 := tv.sm s1 hw
    walk_at "rd"
    refine r_eq rfl ?_
    refine r_bl ?_
    refine r_ite (fun c => ?_) (fun c => ?_)
    · walk_at "rd"
      refine ⟨p, d, s, ls, ss, _, rfl, tv1, tb.nd, nne, l40, sp, s1.seq sp hs, s20, sn, by omega, w1, fun g ws H2 wd ng s2 w2 hg => ?_⟩
      exact k g ws H2 wd (sm_none s1 ng fun z => w1.some (z ▸ ng)) (s1.trans s2) (w2.le (by omega)) hg
    clear c
    obtain ⟨o, kvs, hd1, ra1⟩ := id tv1
    walk_at "rd"
    refine ⟨.ref d, rfl, d, o, rfl, .inl ⟨_, hd1, ?_⟩⟩
    refine lc_keysS hd1 (by rw [ra1.len]; omega) (fun kv => !decide (V.str kv.1 = .str m)) (fun kv => .str kv.1) (fun kv Hx hkv ex => ?_) fun D H2 nD e2 hD => ?_
    · walk_at "rd"
      refine ⟨rfl, ?_⟩
      walk_at "rd"
      refine r_ne rfl ?_
      refine r_bl ⟨rfl, ?_⟩
      refine r_ite (fun c => ?_) (fun c => Ex.refl _)
      walk_at "rd"
      exact ⟨Ex.refl _, rfl⟩
    replace hD : H2 D = some (.lst (((names ls).filter fun z => !decide (V.str z = .str m)).map V.str)) := by
      rw [hD, ← ra1.1, List.filter_map, List.map_map]
      rfl
    have fl : ((names ls).filter fun z => !decide (V.str z = .str m)).length ≤ 40 := Nat.le_trans (List.length_filter_le _ _) nl
    have Dp : D ≠ p := fun z => w1.some (z ▸ nD)
    have w2 := w1.up e2
    walk_at "rd"
    refine ⟨by simp, fun b H2b nb e2b hb => ?_⟩
    walk_at "rd"
    refine ⟨p, b, _, _, rfl, SqL.of hb, fun z => w2.some (z ▸ nb), by simp, by simp, by omega, w2.up e2b, fun v H3 hv s3 w3 => ?_⟩
    have : ∃ r : Int, v = .int r ∧ 1 ≤ r ∧ r ≤ 9 := by
      simp only [List.mem_cons, List.not_mem_nil, or_false] at hv
      rcases hv with rfl | rfl | rfl <;> exact ⟨_, rfl, by decide, by decide⟩
    obtain ⟨r, rfl, r1, r2⟩ := this
    walk_at "rd"
    have hD3 : SqL K H3 D (((names ls).filter fun z => !decide (V.str z = .str m)).map V.str) := by walk_at "ht"
    refine ⟨p, D, _, r, _, rfl, hD3, Dp, r1, by omega, by rw [List.length_map]; omega, by omega, w3, fun g ys zs H4 zsub yp ng4 s4 w4 h4 => ?_⟩
    obtain ⟨us, vs, us1, vp, rfl⟩ := part_strs zsub yp
    have e2 := e2.trans e2b
    have w2 := w2.up e2b
    clear hb nb hv e2b
    have ep : g ≠ p := fun z => w3.some (z ▸ ng4)
    have em : ∀ z ∈ vs, z ∈ names ls := fun z hz => (List.mem_filter.mp (perm_mem us1 vp hz)).1
    have el : vs.length ≤ 40 := Nat.le_trans (perm_len us1 vp) fl
    have t4 : TblV K H4 d ls := ((tv1.up e2).sm s3 w2).sm s4 w3
    walk_at "rd"
    refine ⟨d, g, m, ls, go, gs, vs, rfl, t4, tb.nsOk, mn, hgs, .inl (SqL.of h4), by omega, fun wf H5 nwf e5 hwf => ?_⟩
    walk_at "rd"
    refine r_dnewK fun f H6 nf e6 hf => ?_
    have w6 : WellAt H6 p (n + 210) := ((w4.up e5).up e6).le (by omega)
    have sH6 : Sm p H H6 := by walk_at "sm"
    have fp : f ≠ p := fun z => (w4.up e5).some (z ▸ nf)
    have nf0 : H f = none := by
      have sH5 : Sm p H H5 := by walk_at "sm"
      exact sm_none sH5 nf fp
    have gm : ∀ z ∈ glob m gs vs, z ∈ names ls := glob_mem mn ci.sub em
    have gl2 : (glob m gs vs).length ≤ 1000 := Nat.le_trans glob_len (by omega)
    have hwf6 := e6 _ _ hwf
    have wff : wf ≠ f := fun z => by rw [z] at hwf; rw [hwf] at nf; cases nf
    have wfp : wf ≠ p := fun z => w4.some (z ▸ nwf)
    clear hwf h4 nwf
    walk_at "rd"
    refine ⟨by simp, fun b H7 nb e7 hb => ?_⟩
    walk_at "rd"
    have w7 := w6.up e7
    refine ⟨p, b, _, _, rfl, SqL.of hb, fun z => w6.some (z ▸ nb), by simp, by simp, by omega, w7, fun v H8 hv s8 w8 => ?_⟩
    have : ∃ r : Int, v = .int r ∧ 1 ≤ r ∧ r ≤ 9 := by
      simp only [List.mem_cons, List.not_mem_nil, or_false] at hv
      rcases hv with rfl | rfl | rfl <;> exact ⟨_, rfl, by decide, by decide⟩
    obtain ⟨r8, rfl, r81, r82⟩ := this
    walk_at "rd"
    have hs8 : SqL K H8 s (ss.map V.str) := ((sH6.trans (Sm.of e7)).trans s8).seq sp hs
    refine ⟨p, s, _, r8, _, rfl, hs8, sp, r81, by omega, by rw [List.length_map]; omega, by omega, w8, fun g2 ys2 zs2 H9 zsub2 yp2 ng9 s9 w9 h9 => ?_⟩
    obtain ⟨us2, vs2, us21, vp2, rfl⟩ := part_strs zsub2 yp2
    have hf9 : H9 f = some (.dK []) := by walk_at "ht"
    have g2f : g2 ≠ f := fun z => by
      have : H8 f = some (.dK []) := by walk_at "ht"
      rw [z, this] at ng9; cases ng9
    have g2p : g2 ≠ p := fun z => w8.some (z ▸ ng9)
    have hwf9 : H9 wf = some (.lst ((glob m gs vs).map V.str)) := by walk_at "ht"
    have sH9 : Sm p H H9 := (sH6.trans (Sm.of e7)).trans (s8.trans s9)
    have G0 : Sm p H (fr [f] H9) := sm_fr sH9 nf0
    have Gg := fr_at1 h9 g2f
    have Gw := fr_at1 hwf9 wff
    have Gf : fr [f] H9 f = none := fr_no1
    have Gt : TblV K (fr [f] H9) d ls := tv.sm G0 hw
    have pf : p ≠ f := fp.symm
    have pG : WellAt (fr [f] H9) p (n + 500) := by
      obtain ⟨x, y, zz, h1, h2⟩ := w9.le (show _ ≤ n + 500 by omega)
      exact ⟨x, y, zz, fr_at1 h1 pf, h2⟩
    have GH : Ex (fr [f] H9) H9 := fr_ex
    have w9' := w9.le (show _ ≤ n + 500 by omega)
    generalize fr [f] H9 = G at G0 Gg Gw Gf Gt GH pG
    clear w9 hwf9 sH9 h9 ng9 s9 hs8 w8 s8 hb nb hv e7 w7 hwf6 hf nf sH6 w6 e6 e5 w4 s4
    walk_at "rd"
    refine ⟨g2, rfl, ⟨_, SqL.of (GH _ _ Gg)⟩, ?_⟩
    have vl : vs2.length ≤ 20 := Nat.le_trans (perm_len us21 vp2) s20
    have vn := perm_nd us21 vp2 sn
    refine for_strL (K := K) (a := g2) (zs := vs2) (fun pre post σ' H' => ∃ (ws : List (Str × Str)) (o4 o5 o8 : Option V), σ' = [some (.ref p), some (.ref d), some (.str m), some (.ref s), o4, o5, some (.ref wf), some (.ref f), o8] ∧ Sm p G H' ∧ WellAt H' p (n + 500) ∧ H' f = some (.dK (wkv ws)) ∧ (syms ws).Sublist pre ∧ ∀ w ∈ ws, w.2 ∈ names ls)
      ⟨[], _, _, _, rfl, Sm.of GH, w9', hf9, List.Sublist.refl _, fun w h => (nomatch h)⟩ (fun pre post σ' H' q => by
        obtain ⟨ws, o4, o5, o8, _, sg, _⟩ := q
        exact sg.seq g2p (SqL.of Gg)) ?_ fun σ' H' q => ?_
    · rintro pre z post σ' Ha e ⟨ws, o4, o5, o8, rfl, sa, wa, hfa, sy, wm⟩
      have lp : pre.length ≤ 20 := by have := congrArg List.length e; simp at this; omega
      have wl : ws.length ≤ pre.length := by have := sy.length_le; unfold syms at this; rwa [List.length_map] at this
      have ta := Gt.sm sa pG
      have hwa := sa.seq (K := K) wfp (SqL.of Gw)
      walk_at "rd"
      refine ⟨d, wf, z, ls, glob m gs vs, rfl, ta, tb.nd, hwa, gl2, gm, fun Hb eb => ?_⟩
      walk_at "rd"
      refine ⟨rfl, ?_⟩
      cases hd : dfs ls (glob m gs vs) z with
      | nil =>
        have fv : fstV ls (glob m gs vs) z = .non := by unfold fstV; rw [hd]
        rw [fv]
        refine r_bl ?_
        refine r_iteF (by rfl) ?_
        walk_at "rd"
        exact ⟨ws, _, _, _, rfl, sa.trans (Sm.of eb), wa.up eb, eb _ _ hfa, sy.trans (List.sublist_append_left _ _), wm⟩
      | cons y yr =>
        have fv : fstV ls (glob m gs vs) z = .str y := by unfold fstV; rw [hd]
        have ym : y ∈ names ls := gm y (List.mem_filter.mp (show y ∈ dfs ls (glob m gs vs) z by rw [hd]; exact List.mem_cons_self ..)).1
        rw [fv]
        refine r_bl ?_
        refine r_iteT (by simp) ?_
        walk_at "rd"
        refine ⟨d, wf, z, ls, glob m gs vs, rfl, ta.up eb, tb.nd, ex_l eb hwa, gl2, gm, fun Hc ec => ?_⟩
        rw [fv]
        have hfc : Hc f = some (.dK (wkv ws)) := ec _ _ (eb _ _ hfa)
        obtain ⟨Hd, dpd, hd2, sd⟩ := dputK z (.str y) hfc (by rw [wkv_eq, kvS_len, List.length_map]; omega)
        have zk : z ∉ (ws.map fun w => (w.1, V.str w.2)).map (·.1) := by
          rw [List.map_map]
          intro h
          have h2 : z ∈ pre := sy.subset h
          rw [e] at vn
          exact (List.nodup_append.mp vn).2.2 z h2 z (List.mem_cons_self ..) rfl
        rw [wkv_eq, kvS_new _ zk] at hd2
        walk_at "rd"
        refine ⟨f, Hd, rfl, dpd, ws ++ [(z, y)], _, _, _, rfl, (sa.trans ((Sm.of eb).trans (Sm.of ec))).sm Gf sd, hw_sm Hc f sd pf ((wa.up eb).up ec), by rw [hd2, wkv_eq, List.map_append]; rfl, ?_, fun w hw => ?_⟩
        · unfold syms at sy ⊢
          rw [List.map_append]
          exact sy.append (List.Sublist.refl _)
        · rcases List.mem_append.mp hw with h | h
          · exact wm w h
          · rw [List.mem_singleton.mp h]; exact ym
    obtain ⟨ws, o4, o5, o8, rfl, sa, wa, hfa, sy, wm⟩ := q
    walk_at "rd"
    refine k f ws H' ⟨sy.nodup vn, fun w hw => ⟨?_, wm w hw⟩⟩ nf0 (G0.trans sa) (wa.le (by omega)) hfa
    exact perm_mem us21 vp2 (sy.subset (List.mem_map.mpr ⟨w, hw, rfl⟩))
/-- an order without libraries -/
def NoOrd (H : Hp) (v : V) : Prop := ∃ t l, v = .ref t ∧ H t = some (.tup [.str (Str.ofString "order"), .ref l]) ∧ H l = some (.lst [])
theorem met_wish {ls : List Lb} {gs : List Str} {ws : List (Str × Str)} {s n : Str} (h : metB ls gs ws = true) (hw : wish ws s = some n) : fstV ls gs s = .str n := by
  unfold wish at hw
  cases e : ws.find? fun w => decide (w.1 = s) with
  | none => rw [e] at hw; cases hw
  | some w =>
    rw [e] at hw
    have e1 : w.2 = n := Option.some.inj hw
    have e2 : w.1 = s := by simpa using List.find?_some e
    have := List.all_eq_true.mp h w (List.mem_of_find?_eq_some e)
    rw [← e1, ← e2]
    exact of_decide_eq_true this
theorem fst_mem {ls : List Lb} {gs : List Str} {s n : Str} (h : fstV ls gs s = .str n) : n ∈ gs ∧ s ∈ dfOf ls n := by
  unfold fstV at h
  cases e : dfs ls gs s with
  | nil => rw [e] at h; cases h
  | cons z r =>
    rw [e] at h
    cases h
    have := List.mem_filter.mp (show n ∈ dfs ls gs s by rw [e]; exact List.mem_cons_self ..)
    exact ⟨this.1, of_decide_eq_true this.2⟩
theorem met_order {ls : List Lb} {ws : List (Str × Str)} {m : Str} {gs ys : List Str} {H : Hp} {v : V} (ok : WOk ls ws) (nd : (names ls).Nodup) (l40 : ls.length ≤ 40) (pm : ys.Perm (syms ws)) (g0 : gs[0]? = some m) (h : metB ls gs ws = true) (lv : LeastV ls ws m gs ys H v) : NoOrd H v := by
  have u : ys.find? (undB ls ws) = none := List.find?_eq_none.mpr fun s hs => by
    obtain ⟨w, hw, rfl, we⟩ := wish_in (pm.mem_iff.mp hs)
    have := (fst_mem (met_wish h we)).2
    unfold undB
    rw [we]
    simp [this]
  have c : ys.find? (covB ls ws m) = none := List.find?_eq_none.mpr fun s hs => by
    obtain ⟨w, hw, rfl, we⟩ := wish_in (pm.mem_iff.mp hs)
    have f := met_wish h we
    unfold covB
    rw [we]
    by_cases d : w.1 ∈ dfOf ls m
    · have : fstV ls gs w.1 = .str m := by
        cases gs with
        | nil => cases g0
        | cons x r =>
          cases g0
          unfold fstV dfs
          rw [List.filter_cons, if_pos (decide_eq_true d)]
      rw [this] at f
      simp [V.str.inj f]
    · simp [d]
  have no : ∀ n z, ¬ Rn ls gs ws (oth m ws) n z := fun n => by
    induction n with
    | zero =>
      rintro z ⟨w, hw, _, q⟩
      exact q (of_decide_eq_true (List.all_eq_true.mp h w hw))
    | succ n ih =>
      rintro z (q | ⟨x, q, _⟩)
      · exact ih z q
      · exact ih x q
  have r : reqs ls gs m ws = [] := List.eq_nil_iff_forall_not_mem.mpr fun z hz => no _ z ((reqs_Rn ok nd l40 z).mp hz)
  unfold LeastV at lv
  rw [u] at lv
  simp only at lv
  rw [c] at lv
  obtain ⟨zs, pz, _, ov⟩ := lv
  rw [r] at pz
  rw [pz.eq_nil] at ov
  have : ordF ls ws 41 [] [] = .inl [] := by unfold ordF; rw [if_pos rfl]
  rw [this] at ov
  obtain ⟨t, l, e, h1, h2⟩ := ov
  exact ⟨t, l, e, h1, h2⟩
theorem ordF_perm {ls : List Lb} {ws : List (Str × Str)} : ∀ (n : Nat) (zs acc fs : List Str), zs.Nodup → zs.length < n → ordF ls ws n zs acc = .inl fs → fs.Perm (acc ++ zs)
  | 0, zs, acc, fs, _, l, _ => absurd l (Nat.not_lt_zero _)
  | n + 1, zs, acc, fs, nd, l, h => by
    unfold ordF at h
    by_cases e : zs = []
    · rw [if_pos e] at h
      cases h
      rw [e, List.append_nil]
    · rw [if_neg e] at h
      cases hf : freeOf ls ws zs with
      | nil => rw [hf] at h; cases h
      | cons q r =>
        rw [hf] at h
        simp only at h
        have qm : q ∈ zs := (List.mem_filter.mp (show q ∈ freeOf ls ws zs by rw [hf]; exact List.mem_cons_self ..)).1
        have fl := flt_lt qm
        have := ordF_perm n _ _ fs (nd.filter _) (by omega) h
        refine this.trans ?_
        rw [List.append_assoc]
        refine List.Perm.append_left acc ?_
        have e2 : zs.filter (fun z => !(z == q)) = zs.erase q := by
          rw [nd.erase_eq_filter]
          exact List.filter_congr fun z _ => by simp [bne]
        rw [e2]
        exact (List.perm_cons_erase qm).symm
/-- what LeastV comes to, by its tag -/
theorem least_tag {ls : List Lb} {ws : List (Str × Str)} {m : Str} {gs ys : List Str} {H : Hp} {v : V} (lv : LeastV ls ws m gs ys H v) : ∃ t tag v2, v = .ref t ∧ H t = some (.tup [.str tag, v2]) ∧
    ((tag ≠ Str.ofString "order") ∨ (tag = Str.ofString "order" ∧ ∃ l fs zs, v2 = .ref l ∧ H l = some (.lst (fs.map V.str)) ∧ zs.Perm (reqs ls gs m ws) ∧ PyProof.Rows.sortedS zs = true ∧ ordF ls ws 41 zs [] = .inl fs)) := by
  unfold LeastV at lv
  cases h1 : ys.find? (undB ls ws) with
  | some z =>
    rw [h1] at lv
    obtain ⟨t, rfl, g⟩ := lv
    exact ⟨t, _, _, rfl, g, .inl (by decide +kernel)⟩
  | none =>
    rw [h1] at lv
    simp only at lv
    cases h2 : ys.find? (covB ls ws m) with
    | some z =>
      rw [h2] at lv
      obtain ⟨t, rfl, g⟩ := lv
      exact ⟨t, _, _, rfl, g, .inl (by decide +kernel)⟩
    | none =>
      rw [h2] at lv
      obtain ⟨zs, pz, sz, ov⟩ := lv
      cases ho : ordF ls ws 41 zs [] with
      | inr ps =>
        rw [ho] at ov
        obtain ⟨t, l, ts, rfl, g, _⟩ := ov
        exact ⟨t, _, _, rfl, g, .inl (by decide +kernel)⟩
      | inl fs =>
        rw [ho] at ov
        obtain ⟨t, l, rfl, g, gl⟩ := ov
        exact ⟨t, _, _, rfl, g, .inr ⟨rfl, l, fs, zs, rfl, gl, pz, sz, ho⟩⟩
theorem reqs_ok {ls : List Lb} {gs : List Str} {ws : List (Str × Str)} {m : Str} (ok : WOk ls ws) (l40 : ls.length ≤ 40) : CloI ls (reqs ls gs m ws) :=
  (reqF_full ok l40 41 (req0 ls gs ws) 0 (req0_ok ws [] ok.nm ⟨List.nodup_nil, fun z h => (nomatch h)⟩) rfl fun j u hj => by omega).2.1
theorem dp_strs {K : PySem.W.Frag} {H : Hp} {l : Addr} {fs : List Str} (h : SqL K H l (fs.map V.str)) : Dp K H (.ref l) (.list (fs.map PyData.str)) := .lst h (dpAll_strs fs)
theorem nice_words {fs : List Str} (h : ∀ z ∈ fs, isWord z = true) : Nice 1 (.list (fs.map PyData.str)) := nice_list (nice_strs fun w hw => strOk_word (h w hw))
/-- told != ("order", []) where it is that -/
theorem noOrd_ne {K : PySem.W.Frag} {H : Hp} {v : V} {t l : Addr} {Q : VK} (h : NoOrd H v) (h1 : H t = some (.tup [.str (Str.ofString "order"), .ref l])) (h2 : H l = some (.lst [])) (q : Q (.bl false) H) : rNeD K v (.ref t) H Q := by
  obtain ⟨t1, l1, rfl, g1, g2⟩ := h
  have sh : SeqAt.shaped (.tuple [.str (Str.ofString "order"), .list []]) = true := by decide +kernel
  refine r_neD (.tup (st_of g1) (.cons (.str _) (.cons (.lst (SqL.of g2) .nil) .nil))) (.tup (st_of h1) (.cons (.str _) (.cons (.lst (SqL.of h2) .nil) .nil))) sh sh ?_
  rw [eqv_same sh]
  exact q
theorem NoOrd.up {H H' : Hp} {v : V} (e : Ex H H') (h : NoOrd H v) : NoOrd H' v := by
  obtain ⟨t, l, a, b, c⟩ := h
  exact ⟨t, l, a, e _ _ b, e _ _ c⟩
abbrev sp_law (K : PySem.W.Frag) (A : Adr) : Sp := spLaw K
theorem ok_law (T : Txt K mg A) : FnOk P w K mg base CX0 9 A.f_law A.d_law P_law (sp_law K A) := by
  refine T.F_law.ok sc_law (fun vs H Q E h => ?_) (fun cdv Ar outer s H vs Q E hr h => ?_)
  · obtain ⟨a, ns, rfl, _⟩ := h; rfl
  · have hu := hu_of hr
    refine ⟨_, (pss_cons (ps_for PassesOwn.never rfl (pi_enum (by rfl) T.b_enumerate (pa_cons (pe_op op_catM (pe_lstM (pa_cons (pe_call (ok__law_cell_at T) (hr.mono (by decide)) (by rfl) T.g__law_cell_at T.k__law_cell_at T.bi__law_cell_at .nil pass0 (pa_cons (pv 0) (pa_cons pe_int pa_nil))) pa_nil)) (pe_slice (k_slL K rfl) (pv 0) (po_some pe_int) (po_some pe_int))) pa_nil)) (k_gtup K rfl (by rfl) (pgs_cons (pg_name (i := 1) sc_law.nd rfl (Or.inl rfl)) (pgs_cons (pg_name (i := 2) sc_law.nd rfl (Or.inl rfl)) pgs_nil)))
          (pss_cons (ps_set (i := 3) sc_law.nd rfl (Or.inl rfl) (pe_call (ok__law_begin T) (hr.mono (by decide)) (by rfl) T.g__law_begin T.k__law_begin T.bi__law_begin .nil pass0 (pa_cons (pv 2) pa_nil)))
        (pss_cons (ps_set (i := 4) sc_law.nd rfl (Or.inl rfl) (pe_call (ok__law_spelled T) (hr.mono (by decide)) (by rfl) T.g__law_spelled T.k__law_spelled T.bi__law_spelled .nil pass0 (pa_cons (pv 3) (pa_cons (pe_op op_add pe_int (pe_call (ok__law_draw T) (hr.mono (by decide)) (by rfl) T.g__law_draw T.k__law_draw T.bi__law_draw .nil pass0 (pa_cons (pv 3) (pa_cons pe_int pa_nil)))) pa_nil))))
        (pss_cons (ps_set (i := 5) sc_law.nd rfl (Or.inl rfl) (pe_ix (k_ixT K rfl) (pe_call (ok__law_libraries T) (hr.mono (by decide)) (by rfl) T.g__law_libraries T.k__law_libraries T.bi__law_libraries .nil pass0 (pa_cons (pv 3) (pa_cons (pe_ix (k_ixL K rfl) (pe_lstM (pa_cons pe_int (pa_cons pe_int pa_nil))) (pe_callTy call_intQ (by rfl) T.b_int (by decide +kernel) (pa_cons (pe_cmpR op_eq (pv 1) pe_int (nomark _)) pa_nil)) (fun _ _ => rfl)) (pa_cons (pv 4) pa_nil)))) pe_int (fun _ _ => rfl)))
        (pss_cons (ps_set (i := 6) sc_law.nd rfl (Or.inl rfl) (pe_call (ok__law_pick T) (hr.mono (by decide)) (by rfl) T.g__law_pick T.k__law_pick T.bi__law_pick .nil pass0 (pa_cons (pv 3) (pa_cons (pe_call (ok__law_complete T) (hr.mono (by decide)) (by rfl) T.g__law_complete T.k__law_complete T.bi__law_complete .nil pass0 (pa_cons (pv 5) pa_nil)) pa_nil))))
        (pss_cons (ps_for PassesOwn.never rfl (pi_range1 (by rfl) T.b_range (pa_cons pe_int pa_nil)) (pg_name (i := 7) sc_law.nd rfl (Or.inl rfl))
          (pss_cons (ps_set (i := 8) sc_law.nd rfl (Or.inl rfl) (pe_call (ok__law_hoped T) (hr.mono (by decide)) (by rfl) T.g__law_hoped T.k__law_hoped T.bi__law_hoped .nil pass0 (pa_cons (pv 3) (pa_cons (pv 5) (pa_cons (pv 6) (pa_cons (pv 4) pa_nil))))))
        (pss_cons (ps_fix (ps_set (i := 9) sc_law.nd rfl (Or.inl rfl) (pe_call (ok_least_preloads T) (hr.mono (by decide)) (by rfl) T.g_least_preloads T.k_least_preloads T.bi_least_preloads .nil pass0 (pa_cons (pe_call (ok__law_stored T) (hr.mono (by decide)) (by rfl) T.g__law_stored T.k__law_stored T.bi__law_stored .nil pass0 (pa_cons (pv 5) pa_nil)) (pa_cons (pv 6) (pa_cons (pe_callTy call_dictF (by rfl) T.b_dict (by decide +kernel) (pa_cons (pv 8) pa_nil)) pa_nil))))))
        (pss_cut (ps_if (PW.pt (pw_and (pt_cmpR op_eq (pe_ix (k_ixT K rfl) (pv 9) pe_int (fun _ _ => rfl)) pe_str (nomark _)) (pw_and1 (pt_cmpR (k_neD K rfl hr.units) (pe_callB (k_sortedS K rfl) (by rfl) T.b_sorted (by decide +kernel) (pa_cons (pe_ix (k_ixT K rfl) (pv 9) pe_int (fun _ _ => rfl)) pa_nil)) (pe_call (ok__law_required T) (hr.mono (by decide)) (by rfl) T.g__law_required T.k__law_required T.bi__law_required .nil pass0 (pa_cons (pv 5) (pa_cons (pv 6) (pa_cons (pv 8) pa_nil)))) (nomark _)))))
          (pss_one (ps_ret pe_bl))
          pss_nil)
        (pss_one (ps_if (PW.pt (pw_and (pt_val (pe_call (ok__law_met T) (hr.mono (by decide)) (by rfl) T.g__law_met T.k__law_met T.bi__law_met .nil pass0 (pa_cons (pv 5) (pa_cons (pe_call (ok__law_global T) (hr.mono (by decide)) (by rfl) T.g__law_global T.k__law_global T.bi__law_global .nil pass0 (pa_cons (pv 5) (pa_cons (pv 6) (pa_cons (pe_lstM pa_nil) pa_nil)))) (pa_cons (pv 8) pa_nil))))) (pw_and1 (pt_cmpR (k_neD K rfl hr.units) (pv 9) (pe_tupM (pa_cons pe_str (pa_cons (pe_lstM pa_nil) pa_nil))) (nomark _)))))
          (pss_one (ps_ret pe_bl))
          pss_nil))))))
        (pss_one (ps_if (pt_cmpR (k_neD K rfl hr.units) (pe_call (ok_least_preloads T) (hr.mono (by decide)) (by rfl) T.g_least_preloads T.k_least_preloads T.bi_least_preloads .nil pass0 (pa_cons (pe_call (ok__law_stored T) (hr.mono (by decide)) (by rfl) T.g__law_stored T.k__law_stored T.bi__law_stored .nil pass0 (pa_cons (pv 5) pa_nil)) (pa_cons (pv 6) (pa_cons pe_dnewF pa_nil)))) (pe_tupM (pa_cons pe_str (pa_cons (pe_lstM pa_nil) pa_nil))) (nomark _))
          (pss_one (ps_ret pe_bl))
          pss_nil))))))))
        (pss_one (ps_ret pe_bl))), ?_⟩
    obtain ⟨a, ns, rfl, hS, lns, k⟩ := h
    walk_at "rd"
    refine ⟨a, ns, 0, rfl, hS, fun c0 => ?_⟩
    walk_at "rd"
    refine ⟨by simp, fun b H1 nb e1 hb => ?_⟩
    walk_at "rd"
    refine r_slL (ex_l e1 hS) fun b2 H2 nb2 e2 hb2 => ?_
    obtain ⟨ms, hms, lms⟩ := cutV_int ns (some 1) (some 5)
    rw [hms] at hb2
    refine r_catM (e2 _ _ hb) hb2 (by rw [List.length_map]; simp only [List.length_cons, List.length_nil]; omega) fun l H3 nl e3 hl => ?_
    replace hl : H3 l = some (.lst ((c0 :: ms).map V.int)) := hl
    refine ⟨l, _, rfl, SqL.of hl, ?_⟩
    refine for_it (walk_enum (K := K) (a := l) (xs := (c0 :: ms).map V.int)) (fun i σ' H' => Ex H3 H' ∧ ∃ o1 o2 o3 o4 o5 o6 o7 o8 o9 : Option V, σ' = [some (.ref a), o1, o2, o3, o4, o5, o6, o7, o8, o9])
      ⟨Ex.refl _, _, _, _, _, _, _, _, _, _, rfl⟩ (fun i σ H' _ q => SqL.of (q.1 _ _ hl)) ?_ fun σ' H' q => ?_
    rotate_left
    · obtain ⟨ex, o1, o2, o3, o4, o5, o6, o7, o8, o9, rfl⟩ := q
      walk_at "rd"
      exact k _
    rintro i x σ' H' H'' hi ⟨ex, o1, o2, o3, o4, o5, o6, o7, o8, o9, rfl⟩ ⟨tt, y1, y2, rfl, ht, rfl, h1, hx⟩
    cases h1
    replace hx : ((c0 :: ms).map V.int)[i]? = some y2 := hx
    obtain ⟨c, rfl⟩ : ∃ c, y2 = .int c := by
      rw [List.getElem?_map] at hx
      cases e : (c0 :: ms)[i]? with
      | none => rw [e] at hx; cases hx
      | some c => rw [e] at hx; exact ⟨c, (Option.some.inj hx).symm⟩
    have ex2 : Ex H' (upd H' tt (.tup [.int (i : Nat), .int c])) := Ex.new ht
    have htt : SqT K (upd H' tt (.tup [.int (i : Nat), .int c])) tt [.int (i : Nat), .int c] := st_of upd_same
    replace ex := ex.trans ex2
    generalize upd H' tt (.tup [.int (i : Nat), .int c]) = H3b at ex htt
    clear ht hx hi ex2
    refine r_gtupE htt rfl ?_
    walk_at "rd"
    refine ⟨c, rfl, fun p H4 np e4 w4 => ?_⟩
    walk_at "rd"
    refine ⟨p, 15, _, rfl, by decide, by decide, by decide, w4, fun dd H5 d0 d1 s5 w5 => ?_⟩
    obtain ⟨c, rfl⟩ : ∃ i : Nat, dd = (i : Int) := ⟨dd.toNat, by omega⟩
    walk_at "rd"
    refine ⟨p, 1 + c, _, by rw [Int.natCast_add]; rfl, by omega, by omega, w5, fun s ss H6 lss nss wss ns6 s6 w6 hs6 => ?_⟩
    have sp : s ≠ p := fun z => w5.some (z ▸ ns6)
    walk_at "rd"
    refine ⟨by simp, fun b3 H6b nb3 e6b hb3 => ?_⟩
    walk_at "rd"
    obtain ⟨mm, hmm, m2, m40⟩ : ∃ mm : Int, atI ([.int 20, .int 40] : List V) (if decide (V.int (i : Nat) = V.int 0) = true then 1 else 0) = some (.int mm) ∧ 2 ≤ mm ∧ mm ≤ 40 := by
      by_cases c : V.int ((i : Nat) : Int) = V.int 0
      · rw [decide_eq_true c]
        exact ⟨40, rfl, by decide, by decide⟩
      · rw [decide_eq_false c]
        exact ⟨20, rfl, by decide, by decide⟩
    refine r_eq rfl ?_
    walk_at "rd"
    refine r_ixL (SqL.of hb3) hmm ?_
    walk_at "rd"
    refine ⟨p, s, mm, ss, _, rfl, m2, m40, sp, SqL.of (e6b _ _ hs6), by omega, nss, wss, by omega, w6.up e6b, fun t d ls go H7 tb lm tv ht nt s7 w7 => ?_⟩
    have l40 := tb.len.2
    have nl : (names ls).length ≤ 40 := by unfold names; rw [List.length_map]; exact l40
    have cl : (cmpl ls).length ≤ 40 := Nat.le_trans (List.length_filter_le _ _) nl
    walk_at "rd"
    refine r_ixT (st_of ht) rfl ?_
    walk_at "rd"
    refine ⟨d, ls, go, rfl, tv, tb.nsOk, fun g H8 ng e8 hg => ?_⟩
    walk_at "rd"
    refine ⟨p, g, _, _, rfl, SqL.of hg, fun z => w7.some (z ▸ ng), fun z => cmpl_ne tb (List.map_eq_nil_iff.mp z), by rw [List.length_map]; omega, by omega, w7.up e8, fun v H9 hv s9 w9 => ?_⟩
    obtain ⟨m, hmc, rfl⟩ := List.mem_map.mp hv
    obtain ⟨mn, gs, hgs⟩ := cmpl_mem hmc
    have mc := lclo_clo tb.nsOk mn hgs
    have ci := lclo_ci tb.nsOk mn hgs
    have gl := ci.len
    have tv9 := (tv.up e8).sm s9 (w7.up e8)
    have hs9 : SqL K H9 s (ss.map V.str) := by walk_at "ht"
    have np3 : H3 p = none := ex_none ex np
    have e39 : Ex H3 H9 := by walk_at "he"
    have okl : ∀ l ∈ ls, TOk l := fun l hl => (tb.lb l hl).ok
    have ldf : ∀ l ∈ ls, l.df.length ≤ 20 := fun l hl => (okl l hl).ok.dl
    have w9' : WellAt H9 p 60000 := w9.le (by omega)
    clear w9 w7 s9 e8 s7 e6b hs6 s6 w6 s5 w5 w4 e4 hb3 nb3 htt hg ht
    walk_at "rd"
    refine ⟨_, rfl, by decide, by decide, ?_⟩
    refine for_range (m := 3) (fun i σ' H' => Sm p H9 H' ∧ WellAt H' p (60000 + 2000 * i) ∧ ∃ o1 o2 o7 o8 o9 : Option V, σ' = [some (.ref a), o1, o2, some (.ref p), some (.ref s), some (.ref d), some (.str m), o7, o8, o9])
      ⟨Sm.refl, w9', _, _, _, _, _, rfl⟩ ?_ fun σ' H10 q => ?_
    rotate_left
    · obtain ⟨s10, w10, o1, o2, o7, o8, o9, rfl⟩ := q
      have tv10 := tv9.sm s10 w9'
      walk_at "rd"
      refine ⟨d, ls, rfl, tv10, tb.nd, okl, l40, fun q H11 nq e11 st => ?_⟩
      walk_at "rd"
      refine r_dnewF fun f o H12 nf e12 hf => ?_
      walk_at "rd"
      have wok : WOk ls [] := ⟨List.nodup_nil, fun w h => (nomatch h), fun w h => (nomatch h), by simp⟩
      refine ⟨q, f, m, ls, [], gs, rfl, st.up e12, ⟨o, hf⟩, wok, mn, mc, fun ys v H13 pm so e13 lv => ?_⟩
      have no := met_order wok tb.nd l40 pm (clo_head mc) rfl lv
      walk_at "rd"
      refine ⟨by simp, fun l1 H14 nl1 e14 hl1 => ?_⟩
      walk_at "rd"
      refine ⟨by simp, fun t1 H15 nt1 e15 ht1 => ?_⟩
      refine noOrd_ne (no.up (e14.trans e15)) ht1 (e15 _ _ hl1) ?_
      refine r_bl ?_
      refine r_iteF rfl ?_
      walk_at "rd"
      exact ⟨(Ex.sm e39 np3 s10).trans (e11.trans (e12.trans (e13.trans (e14.trans e15)))), _, _, _, _, _, _, _, _, _, rfl⟩
    rintro i σ' H10 hi ⟨s10, w10, o1, o2, o7, o8, o9, rfl⟩
    have tv10 := tv9.sm s10 w9'
    walk_at "rd"
    refine ⟨p, d, s, m, ls, go, gs, ss, _, rfl, tv10, tb, mn, hgs, sp, s10.seq sp hs9, by omega, nss, by omega, w10, fun f ws H11 wd nf s11 w11 hf => ?_⟩
    have wok := wd.wok (by omega) wss
    have w60 := wok.len
    have fp : f ≠ p := fun z => w10.some (z ▸ nf)
    walk_at "rd"
    refine ⟨f, _, hf, trivial, fun od => ?_⟩
    have s12 : Sm f H11 (upd H11 f (.frz od (.dK (wkv ws)))) := lock_sm
    have h12 : upd H11 f (.frz od (.dK (wkv ws))) f = some (.frz od (.dK (wkv ws))) := upd_same
    generalize upd H11 f (.frz od (.dK (wkv ws))) = H12 at s12 h12
    have s1012 : Sm p H10 H12 := s11.sm nf s12
    have w12 := hw_sm H11 f s12 fp.symm w11
    have tv12 := tv10.sm s1012 w10
    walk_at "rd"
    refine ⟨d, ls, rfl, tv12, tb.nd, okl, l40, fun q H13 nq e13 st => ?_⟩
    walk_at "rd"
    refine r_dictF (.inr ⟨od, e13 _ _ h12⟩) fun f2 of2 H14 nf2 e14 hf2 => ?_
    walk_at "rd"
    refine ⟨q, f2, m, ls, ws, gs, rfl, st.up e14, ⟨of2, hf2⟩, wok, mn, mc, fun ys v H15 pm so e15 lv => ?_⟩
    have e1215 := e13.trans (e14.trans e15)
    obtain ⟨t1, tag, v2, rfl, ht1, tg⟩ := least_tag lv
    walk_at "rd"
    refine r_cut (fun σ' H' => Ex H15 H' ∧ σ' = [some (.ref a), o1, o2, some (.ref p), some (.ref s), some (.ref d), some (.str m), some (.int (i : Nat)), some (.ref f), some (.ref t1)]) ?_ ?_
    · walk_at "rd"
      refine r_ixT (st_of ht1) rfl ?_
      walk_at "rd"
      refine r_eq rfl ?_
      rcases tg with tg | ⟨rfl, l, fs, zs, rfl, hl, pz, sz, ho⟩
      · rw [decide_eq_false (fun z => tg (V.str.inj z))]
        walk_at "rd"
        exact ⟨Ex.refl _, rfl⟩
      · rw [decide_eq_true rfl]
        have rok := reqs_ok (gs := gs) (m := m) wok l40
        have rl := rok.len
        have zl : zs.length ≤ 40 := by rw [pz.length_eq]; omega
        have pf := ordF_perm 41 zs [] fs (pz.nodup_iff.mpr rok.nd) (by omega) ho
        rw [List.nil_append] at pf
        walk_at "rd"
        refine r_ixT (st_of ht1) rfl ?_
        walk_at "rd"
        refine r_sortS (SqL.of hl) (by rw [pf.length_eq]; omega) fun ks1 p1 H16 pk sk n16 e16 h16 => ?_
        walk_at "rd"
        have e1216 := e1215.trans e16
        refine ⟨d, f, m, ls, go, gs, ws, rfl, tv12.up e1216, tb.nsOk, ldf, mn, hgs, ⟨od, e1216 _ _ h12⟩, wok, fun g2 ks H17 so2 kn mk ng2 e17 hg2 => ?_⟩
        obtain rfl : ks1 = ks := sorted_uniq ((pk.trans (pf.trans pz)).trans ((List.perm_ext_iff_of_nodup rok.nd kn).mpr fun z => (mk z).symm)) sk so2
        have wo : ∀ z ∈ ks1, isWord z = true := fun z hz => by
          obtain ⟨l, hl, rfl⟩ := List.mem_map.mp (rok.sub z ((mk z).mp hz))
          exact (okl l hl).ok.nm
        have sh := (nice_words wo).shaped (by decide)
        refine r_neD (dp_strs (SqL.of (e17 _ _ h16))) (dp_strs (SqL.of hg2)) sh sh ?_
        rw [eqv_same sh]
        refine r_bl ?_
        refine r_iteF rfl ?_
        walk_at "rd"
        exact ⟨e16.trans e17, rfl⟩
    rintro σ' H16 ⟨e16, rfl⟩
    have e1216 := e1215.trans e16
    walk_at "rd"
    refine ⟨by simp, fun b4 H17 nb4 e17 hb4 => ?_⟩
    walk_at "rd"
    have e1217 := e1216.trans e17
    refine ⟨d, b4, m, ls, go, gs, [], rfl, tv12.up e1217, tb.nsOk, mn, hgs, .inl (SqL.of hb4), by simp, fun g4 H18 ng4 e18 hg4 => ?_⟩
    rw [glob_nil (clo_head mc) ci.nd] at hg4
    have e1218 := e1217.trans e18
    walk_at "rd"
    refine ⟨d, g4, f, ls, gs, ws, rfl, tv12.up e1218, tb.nd, SqL.of hg4, by omega, ci.sub, ⟨od, e1218 _ _ h12⟩, by omega, fun H19 e19 => ?_⟩
    have e1219 := e1218.trans e19
    have fin : ∀ H', Ex H19 H' → Sm p H9 H' ∧ WellAt H' p (60000 + 2000 * (i + 1)) := fun H' e => ⟨(s10.trans s1012).trans (Sm.of (e1219.trans e)), (w12.up (e1219.trans e)).le (by omega)⟩
    walk_at "rd"
    cases hm : metB ls gs ws with
    | false =>
      walk_at "rd"
      exact ⟨(fin _ (Ex.refl _)).1, (fin _ (Ex.refl _)).2, _, _, _, _, _, rfl⟩
    | true =>
      have no := met_order wok tb.nd l40 pm (clo_head mc) hm lv
      walk_at "rd"
      refine ⟨by simp, fun l1 H20 nl1 e20 hl1 => ?_⟩
      walk_at "rd"
      refine ⟨by simp, fun t2 H21 nt1 e21 ht2 => ?_⟩
      refine noOrd_ne (no.up (e16.trans (e17.trans (e18.trans (e19.trans (e20.trans e21)))))) ht2 (e21 _ _ hl1) ?_
      refine r_bl ?_
      refine r_iteF rfl ?_
      walk_at "rd"
      exact ⟨(fin _ (e20.trans e21)).1, (fin _ (e20.trans e21)).2, _, _, _, _, _, rfl⟩
end
theorem all_mk {l : PySem.W.OpenLaw} {w : World} {K : PySem.W.Frag} {h : Heap} {mg : Str → Option Value} {fa : Addr} (X : K.In h) (G : h.Ns mainGlobals mg) (hfa : mg "law" = some (.ref fa))
    {C_LoadError C_NoLibrary C_NoStore C_NoName C_Missing C_NoSymbol C_NoWishes C_Library C_Store : Addr}
    {f_NoLibrary___init__ f_NoStore___init__ f_NoName___init__ f_Missing___init__ f_NoSymbol___init__ f_NoWishes___init__ f_is_word f_are_words f_check_symbol f_closure f_grown f_definers f_Library___init__ f_Library_row f_Library___eq__ f_Store___init__ f_Store___getitem__ f_Store___iter__ f_Store___contains__ f_Store___len__ f_first_definer f_check_wishes f_ahead_of f_required f_ring_among f_ordered f_least_preloads f__law_cell_at f__law_begin f__law_draw f__law_pick f__law_part f__law_spelled f__law_library f__law_libraries f__law_stored f__law_closed f__law_complete f__law_definer f__law_wishes f__law_global f__law_met f__law_ahead f__law_required f__law_hoped f_law : Addr}
    {oc_NoLibrary___init__ dc_NoLibrary___init__ pm_NoLibrary___init__ cd_NoLibrary___init__ ct_NoLibrary___init__ kV_NoLibrary___init__ : Value}
    {od_NoLibrary___init__ an_NoLibrary___init__ : Option Addr}
    {sl_NoLibrary___init__ : Array (Option Value)}
    {oc_NoStore___init__ dc_NoStore___init__ pm_NoStore___init__ cd_NoStore___init__ ct_NoStore___init__ kV_NoStore___init__ : Value}
    {od_NoStore___init__ an_NoStore___init__ : Option Addr}
    {sl_NoStore___init__ : Array (Option Value)}
    {oc_NoName___init__ dc_NoName___init__ pm_NoName___init__ cd_NoName___init__ ct_NoName___init__ kV_NoName___init__ : Value}
    {od_NoName___init__ an_NoName___init__ : Option Addr}
    {sl_NoName___init__ : Array (Option Value)}
    {oc_Missing___init__ dc_Missing___init__ pm_Missing___init__ cd_Missing___init__ ct_Missing___init__ kV_Missing___init__ : Value}
    {od_Missing___init__ an_Missing___init__ : Option Addr}
    {sl_Missing___init__ : Array (Option Value)}
    {oc_NoSymbol___init__ dc_NoSymbol___init__ pm_NoSymbol___init__ cd_NoSymbol___init__ ct_NoSymbol___init__ kV_NoSymbol___init__ : Value}
    {od_NoSymbol___init__ an_NoSymbol___init__ : Option Addr}
    {sl_NoSymbol___init__ : Array (Option Value)}
    {oc_NoWishes___init__ dc_NoWishes___init__ pm_NoWishes___init__ cd_NoWishes___init__ ct_NoWishes___init__ kV_NoWishes___init__ : Value}
    {od_NoWishes___init__ an_NoWishes___init__ : Option Addr}
    {sl_NoWishes___init__ : Array (Option Value)}
    {oc_is_word dc_is_word pm_is_word cd_is_word ct_is_word kV_is_word : Value}
    {od_is_word an_is_word : Option Addr}
    {sl_is_word : Array (Option Value)}
    {oc_are_words dc_are_words pm_are_words cd_are_words ct_are_words kV_are_words : Value}
    {od_are_words an_are_words : Option Addr}
    {sl_are_words : Array (Option Value)}
    {oc_check_symbol dc_check_symbol pm_check_symbol cd_check_symbol ct_check_symbol kV_check_symbol : Value}
    {od_check_symbol an_check_symbol : Option Addr}
    {sl_check_symbol : Array (Option Value)}
    {oc_closure dc_closure pm_closure cd_closure ct_closure kV_closure : Value}
    {od_closure an_closure : Option Addr}
    {sl_closure : Array (Option Value)}
    {oc_grown dc_grown pm_grown cd_grown ct_grown kV_grown : Value}
    {od_grown an_grown : Option Addr}
    {sl_grown : Array (Option Value)}
    {oc_definers dc_definers pm_definers cd_definers ct_definers kV_definers : Value}
    {od_definers an_definers : Option Addr}
    {sl_definers : Array (Option Value)}
    {oc_Library___init__ dc_Library___init__ pm_Library___init__ cd_Library___init__ ct_Library___init__ : Value}
    {od_Library___init__ an_Library___init__ : Option Addr}
    {sl_Library___init__ : Array (Option Value)}
    {D_Library___init__ : Addr}
    {oc_Library_row dc_Library_row pm_Library_row cd_Library_row ct_Library_row kV_Library_row : Value}
    {od_Library_row an_Library_row : Option Addr}
    {sl_Library_row : Array (Option Value)}
    {oc_Library___eq__ dc_Library___eq__ pm_Library___eq__ cd_Library___eq__ ct_Library___eq__ kV_Library___eq__ : Value}
    {od_Library___eq__ an_Library___eq__ : Option Addr}
    {sl_Library___eq__ : Array (Option Value)}
    {oc_Store___init__ dc_Store___init__ pm_Store___init__ cd_Store___init__ ct_Store___init__ kV_Store___init__ : Value}
    {od_Store___init__ an_Store___init__ : Option Addr}
    {sl_Store___init__ : Array (Option Value)}
    {oc_Store___getitem__ dc_Store___getitem__ pm_Store___getitem__ cd_Store___getitem__ ct_Store___getitem__ kV_Store___getitem__ : Value}
    {od_Store___getitem__ an_Store___getitem__ : Option Addr}
    {sl_Store___getitem__ : Array (Option Value)}
    {oc_Store___iter__ dc_Store___iter__ pm_Store___iter__ cd_Store___iter__ ct_Store___iter__ kV_Store___iter__ : Value}
    {od_Store___iter__ an_Store___iter__ : Option Addr}
    {sl_Store___iter__ : Array (Option Value)}
    {oc_Store___contains__ dc_Store___contains__ pm_Store___contains__ cd_Store___contains__ ct_Store___contains__ kV_Store___contains__ : Value}
    {od_Store___contains__ an_Store___contains__ : Option Addr}
    {sl_Store___contains__ : Array (Option Value)}
    {oc_Store___len__ dc_Store___len__ pm_Store___len__ cd_Store___len__ ct_Store___len__ kV_Store___len__ : Value}
    {od_Store___len__ an_Store___len__ : Option Addr}
    {sl_Store___len__ : Array (Option Value)}
    {oc_first_definer dc_first_definer pm_first_definer cd_first_definer ct_first_definer kV_first_definer : Value}
    {od_first_definer an_first_definer : Option Addr}
    {sl_first_definer : Array (Option Value)}
    {oc_check_wishes dc_check_wishes pm_check_wishes cd_check_wishes ct_check_wishes kV_check_wishes : Value}
    {od_check_wishes an_check_wishes : Option Addr}
    {sl_check_wishes : Array (Option Value)}
    {oc_ahead_of dc_ahead_of pm_ahead_of cd_ahead_of ct_ahead_of kV_ahead_of : Value}
    {od_ahead_of an_ahead_of : Option Addr}
    {sl_ahead_of : Array (Option Value)}
    {oc_required dc_required pm_required cd_required ct_required kV_required : Value}
    {od_required an_required : Option Addr}
    {sl_required : Array (Option Value)}
    {oc_ring_among dc_ring_among pm_ring_among cd_ring_among ct_ring_among kV_ring_among : Value}
    {od_ring_among an_ring_among : Option Addr}
    {sl_ring_among : Array (Option Value)}
    {oc_ordered dc_ordered pm_ordered cd_ordered ct_ordered kV_ordered : Value}
    {od_ordered an_ordered : Option Addr}
    {sl_ordered : Array (Option Value)}
    {oc_least_preloads dc_least_preloads pm_least_preloads cd_least_preloads ct_least_preloads kV_least_preloads : Value}
    {od_least_preloads an_least_preloads : Option Addr}
    {sl_least_preloads : Array (Option Value)}
    {oc__law_cell_at dc__law_cell_at pm__law_cell_at cd__law_cell_at ct__law_cell_at kV__law_cell_at : Value}
    {od__law_cell_at an__law_cell_at : Option Addr}
    {sl__law_cell_at : Array (Option Value)}
    {oc__law_begin dc__law_begin pm__law_begin cd__law_begin ct__law_begin kV__law_begin : Value}
    {od__law_begin an__law_begin : Option Addr}
    {sl__law_begin : Array (Option Value)}
    {oc__law_draw dc__law_draw pm__law_draw cd__law_draw ct__law_draw kV__law_draw : Value}
    {od__law_draw an__law_draw : Option Addr}
    {sl__law_draw : Array (Option Value)}
    {oc__law_pick dc__law_pick pm__law_pick cd__law_pick ct__law_pick kV__law_pick : Value}
    {od__law_pick an__law_pick : Option Addr}
    {sl__law_pick : Array (Option Value)}
    {oc__law_part dc__law_part pm__law_part cd__law_part ct__law_part kV__law_part : Value}
    {od__law_part an__law_part : Option Addr}
    {sl__law_part : Array (Option Value)}
    {oc__law_spelled dc__law_spelled pm__law_spelled cd__law_spelled ct__law_spelled kV__law_spelled : Value}
    {od__law_spelled an__law_spelled : Option Addr}
    {sl__law_spelled : Array (Option Value)}
    {oc__law_library dc__law_library pm__law_library cd__law_library ct__law_library kV__law_library : Value}
    {od__law_library an__law_library : Option Addr}
    {sl__law_library : Array (Option Value)}
    {oc__law_libraries dc__law_libraries pm__law_libraries cd__law_libraries ct__law_libraries kV__law_libraries : Value}
    {od__law_libraries an__law_libraries : Option Addr}
    {sl__law_libraries : Array (Option Value)}
    {oc__law_stored dc__law_stored pm__law_stored cd__law_stored ct__law_stored kV__law_stored : Value}
    {od__law_stored an__law_stored : Option Addr}
    {sl__law_stored : Array (Option Value)}
    {oc__law_closed dc__law_closed pm__law_closed cd__law_closed ct__law_closed kV__law_closed : Value}
    {od__law_closed an__law_closed : Option Addr}
    {sl__law_closed : Array (Option Value)}
    {oc__law_complete dc__law_complete pm__law_complete cd__law_complete ct__law_complete kV__law_complete : Value}
    {od__law_complete an__law_complete : Option Addr}
    {sl__law_complete : Array (Option Value)}
    {oc__law_definer dc__law_definer pm__law_definer cd__law_definer ct__law_definer kV__law_definer : Value}
    {od__law_definer an__law_definer : Option Addr}
    {sl__law_definer : Array (Option Value)}
    {oc__law_wishes dc__law_wishes pm__law_wishes cd__law_wishes ct__law_wishes kV__law_wishes : Value}
    {od__law_wishes an__law_wishes : Option Addr}
    {sl__law_wishes : Array (Option Value)}
    {oc__law_global dc__law_global pm__law_global cd__law_global ct__law_global kV__law_global : Value}
    {od__law_global an__law_global : Option Addr}
    {sl__law_global : Array (Option Value)}
    {oc__law_met dc__law_met pm__law_met cd__law_met ct__law_met kV__law_met : Value}
    {od__law_met an__law_met : Option Addr}
    {sl__law_met : Array (Option Value)}
    {oc__law_ahead dc__law_ahead pm__law_ahead cd__law_ahead ct__law_ahead kV__law_ahead : Value}
    {od__law_ahead an__law_ahead : Option Addr}
    {sl__law_ahead : Array (Option Value)}
    {oc__law_required dc__law_required pm__law_required cd__law_required ct__law_required kV__law_required : Value}
    {od__law_required an__law_required : Option Addr}
    {sl__law_required : Array (Option Value)}
    {oc__law_hoped dc__law_hoped pm__law_hoped cd__law_hoped ct__law_hoped kV__law_hoped : Value}
    {od__law_hoped an__law_hoped : Option Addr}
    {sl__law_hoped : Array (Option Value)}
    {oc_law dc_law pm_law cd_law ct_law kV_law : Value}
    {od_law an_law : Option Addr}
    {sl_law : Array (Option Value)}
    {e0 : Addr}
    {e1 : Addr}
    {e2 : Addr}
    {e3 : Addr}
    {t_LETTERS : Tok}
    {t_MOST_LIBRARIES : Tok}
    {nm_NoLibrary q_NoLibrary : Str}
    {N_NoLibrary : Addr}
    {bs_NoLibrary bm_NoLibrary sub_NoLibrary : List Value}
    {sn_NoLibrary : List Str}
    {ab_NoLibrary : Bool}
    {co_NoLibrary : Option Bool}
    {dd_NoLibrary : Option Addr}
    {m0_NoLibrary m1_NoLibrary m2_NoLibrary m3_NoLibrary m5_NoLibrary : Option Value}
    {nm_NoStore q_NoStore : Str}
    {N_NoStore : Addr}
    {bs_NoStore bm_NoStore sub_NoStore : List Value}
    {sn_NoStore : List Str}
    {ab_NoStore : Bool}
    {co_NoStore : Option Bool}
    {dd_NoStore : Option Addr}
    {m0_NoStore m1_NoStore m2_NoStore m3_NoStore m5_NoStore : Option Value}
    {nm_NoName q_NoName : Str}
    {N_NoName : Addr}
    {bs_NoName bm_NoName sub_NoName : List Value}
    {sn_NoName : List Str}
    {ab_NoName : Bool}
    {co_NoName : Option Bool}
    {dd_NoName : Option Addr}
    {m0_NoName m1_NoName m2_NoName m3_NoName m5_NoName : Option Value}
    {nm_Missing q_Missing : Str}
    {N_Missing : Addr}
    {bs_Missing bm_Missing sub_Missing : List Value}
    {sn_Missing : List Str}
    {ab_Missing : Bool}
    {co_Missing : Option Bool}
    {dd_Missing : Option Addr}
    {m0_Missing m1_Missing m2_Missing m3_Missing m5_Missing : Option Value}
    {nm_NoSymbol q_NoSymbol : Str}
    {N_NoSymbol : Addr}
    {bs_NoSymbol bm_NoSymbol sub_NoSymbol : List Value}
    {sn_NoSymbol : List Str}
    {ab_NoSymbol : Bool}
    {co_NoSymbol : Option Bool}
    {dd_NoSymbol : Option Addr}
    {m0_NoSymbol m1_NoSymbol m2_NoSymbol m3_NoSymbol m5_NoSymbol : Option Value}
    {nm_NoWishes q_NoWishes : Str}
    {N_NoWishes : Addr}
    {bs_NoWishes bm_NoWishes sub_NoWishes : List Value}
    {sn_NoWishes : List Str}
    {ab_NoWishes : Bool}
    {co_NoWishes : Option Bool}
    {dd_NoWishes : Option Addr}
    {m0_NoWishes m1_NoWishes m2_NoWishes m3_NoWishes m5_NoWishes : Option Value}
    {n_e0 : Nat}
    {so_e0 : Array (Option Value)}
    {do_e0 : Option Addr}
    {n_e1 : Nat}
    {so_e1 : Array (Option Value)}
    {do_e1 : Option Addr}
    {n_e2 : Nat}
    {so_e2 : Array (Option Value)}
    {do_e2 : Option Addr}
    {n_e3 : Nat}
    {so_e3 : Array (Option Value)}
    {do_e3 : Option Addr}
    (g0_LoadError : PySem.W.nsIn K mainGlobals "LoadError" = some (some (.ref C_LoadError)))
    (g0_NoLibrary : PySem.W.nsIn K mainGlobals "NoLibrary" = some (some (.ref C_NoLibrary)))
    (g0_NoStore : PySem.W.nsIn K mainGlobals "NoStore" = some (some (.ref C_NoStore)))
    (g0_NoName : PySem.W.nsIn K mainGlobals "NoName" = some (some (.ref C_NoName)))
    (g0_Missing : PySem.W.nsIn K mainGlobals "Missing" = some (some (.ref C_Missing)))
    (g0_NoSymbol : PySem.W.nsIn K mainGlobals "NoSymbol" = some (some (.ref C_NoSymbol)))
    (g0_NoWishes : PySem.W.nsIn K mainGlobals "NoWishes" = some (some (.ref C_NoWishes)))
    (g0_Library : PySem.W.nsIn K mainGlobals "Library" = some (some (.ref C_Library)))
    (g0_Store : PySem.W.nsIn K mainGlobals "Store" = some (some (.ref C_Store)))
    (at_NoLibrary___init__ : PySem.W.findIn K (.ref C_NoLibrary) "__init__" = some (some (.ref f_NoLibrary___init__)))
    (at_NoStore___init__ : PySem.W.findIn K (.ref C_NoStore) "__init__" = some (some (.ref f_NoStore___init__)))
    (at_NoName___init__ : PySem.W.findIn K (.ref C_NoName) "__init__" = some (some (.ref f_NoName___init__)))
    (at_Missing___init__ : PySem.W.findIn K (.ref C_Missing) "__init__" = some (some (.ref f_Missing___init__)))
    (at_NoSymbol___init__ : PySem.W.findIn K (.ref C_NoSymbol) "__init__" = some (some (.ref f_NoSymbol___init__)))
    (at_NoWishes___init__ : PySem.W.findIn K (.ref C_NoWishes) "__init__" = some (some (.ref f_NoWishes___init__)))
    (g0_is_word : PySem.W.nsIn K mainGlobals "is_word" = some (some (.ref f_is_word)))
    (g0_are_words : PySem.W.nsIn K mainGlobals "are_words" = some (some (.ref f_are_words)))
    (g0_check_symbol : PySem.W.nsIn K mainGlobals "check_symbol" = some (some (.ref f_check_symbol)))
    (g0_closure : PySem.W.nsIn K mainGlobals "closure" = some (some (.ref f_closure)))
    (g0_grown : PySem.W.nsIn K mainGlobals "grown" = some (some (.ref f_grown)))
    (g0_definers : PySem.W.nsIn K mainGlobals "definers" = some (some (.ref f_definers)))
    (at_Library___init__ : PySem.W.findIn K (.ref C_Library) "__init__" = some (some (.ref f_Library___init__)))
    (at_Library_row : PySem.W.findIn K (.ref C_Library) "row" = some (some (.ref f_Library_row)))
    (at_Library___eq__ : PySem.W.findIn K (.ref C_Library) "__eq__" = some (some (.ref f_Library___eq__)))
    (at_Store___init__ : PySem.W.findIn K (.ref C_Store) "__init__" = some (some (.ref f_Store___init__)))
    (at_Store___getitem__ : PySem.W.findIn K (.ref C_Store) "__getitem__" = some (some (.ref f_Store___getitem__)))
    (at_Store___iter__ : PySem.W.findIn K (.ref C_Store) "__iter__" = some (some (.ref f_Store___iter__)))
    (at_Store___contains__ : PySem.W.findIn K (.ref C_Store) "__contains__" = some (some (.ref f_Store___contains__)))
    (at_Store___len__ : PySem.W.findIn K (.ref C_Store) "__len__" = some (some (.ref f_Store___len__)))
    (g0_first_definer : PySem.W.nsIn K mainGlobals "first_definer" = some (some (.ref f_first_definer)))
    (g0_check_wishes : PySem.W.nsIn K mainGlobals "check_wishes" = some (some (.ref f_check_wishes)))
    (g0_ahead_of : PySem.W.nsIn K mainGlobals "ahead_of" = some (some (.ref f_ahead_of)))
    (g0_required : PySem.W.nsIn K mainGlobals "required" = some (some (.ref f_required)))
    (g0_ring_among : PySem.W.nsIn K mainGlobals "ring_among" = some (some (.ref f_ring_among)))
    (g0_ordered : PySem.W.nsIn K mainGlobals "ordered" = some (some (.ref f_ordered)))
    (g0_least_preloads : PySem.W.nsIn K mainGlobals "least_preloads" = some (some (.ref f_least_preloads)))
    (g0__law_cell_at : PySem.W.nsIn K mainGlobals "_law_cell_at" = some (some (.ref f__law_cell_at)))
    (g0__law_begin : PySem.W.nsIn K mainGlobals "_law_begin" = some (some (.ref f__law_begin)))
    (g0__law_draw : PySem.W.nsIn K mainGlobals "_law_draw" = some (some (.ref f__law_draw)))
    (g0__law_pick : PySem.W.nsIn K mainGlobals "_law_pick" = some (some (.ref f__law_pick)))
    (g0__law_part : PySem.W.nsIn K mainGlobals "_law_part" = some (some (.ref f__law_part)))
    (g0__law_spelled : PySem.W.nsIn K mainGlobals "_law_spelled" = some (some (.ref f__law_spelled)))
    (g0__law_library : PySem.W.nsIn K mainGlobals "_law_library" = some (some (.ref f__law_library)))
    (g0__law_libraries : PySem.W.nsIn K mainGlobals "_law_libraries" = some (some (.ref f__law_libraries)))
    (g0__law_stored : PySem.W.nsIn K mainGlobals "_law_stored" = some (some (.ref f__law_stored)))
    (g0__law_closed : PySem.W.nsIn K mainGlobals "_law_closed" = some (some (.ref f__law_closed)))
    (g0__law_complete : PySem.W.nsIn K mainGlobals "_law_complete" = some (some (.ref f__law_complete)))
    (g0__law_definer : PySem.W.nsIn K mainGlobals "_law_definer" = some (some (.ref f__law_definer)))
    (g0__law_wishes : PySem.W.nsIn K mainGlobals "_law_wishes" = some (some (.ref f__law_wishes)))
    (g0__law_global : PySem.W.nsIn K mainGlobals "_law_global" = some (some (.ref f__law_global)))
    (g0__law_met : PySem.W.nsIn K mainGlobals "_law_met" = some (some (.ref f__law_met)))
    (g0__law_ahead : PySem.W.nsIn K mainGlobals "_law_ahead" = some (some (.ref f__law_ahead)))
    (g0__law_required : PySem.W.nsIn K mainGlobals "_law_required" = some (some (.ref f__law_required)))
    (g0__law_hoped : PySem.W.nsIn K mainGlobals "_law_hoped" = some (some (.ref f__law_hoped)))
    (g0_law : PySem.W.nsIn K mainGlobals "law" = some (some (.ref f_law)))
    (l_NoLibrary___init__ : K.lookup f_NoLibrary___init__ = some ⟨oc_NoLibrary___init__, od_NoLibrary___init__, .func (PySem.W.fnOf "__init__" "NoLibrary.__init__" (defArgs s_NoLibrary___init__) (defBody s_NoLibrary___init__) (defScope s_NoLibrary___init__) .none kV_NoLibrary___init__ dc_NoLibrary___init__ pm_NoLibrary___init__ an_NoLibrary___init__ cd_NoLibrary___init__ ct_NoLibrary___init__), sl_NoLibrary___init__⟩)
    (cd1_NoLibrary___init__ : PySem.W.codeIn K cd_NoLibrary___init__ "NoLibrary.__init__" = true)
    (kp_NoLibrary___init__ : PySem.W.keepIn K (.ref f_NoLibrary___init__) = true)
    (l_NoStore___init__ : K.lookup f_NoStore___init__ = some ⟨oc_NoStore___init__, od_NoStore___init__, .func (PySem.W.fnOf "__init__" "NoStore.__init__" (defArgs s_NoStore___init__) (defBody s_NoStore___init__) (defScope s_NoStore___init__) .none kV_NoStore___init__ dc_NoStore___init__ pm_NoStore___init__ an_NoStore___init__ cd_NoStore___init__ ct_NoStore___init__), sl_NoStore___init__⟩)
    (cd1_NoStore___init__ : PySem.W.codeIn K cd_NoStore___init__ "NoStore.__init__" = true)
    (kp_NoStore___init__ : PySem.W.keepIn K (.ref f_NoStore___init__) = true)
    (l_NoName___init__ : K.lookup f_NoName___init__ = some ⟨oc_NoName___init__, od_NoName___init__, .func (PySem.W.fnOf "__init__" "NoName.__init__" (defArgs s_NoName___init__) (defBody s_NoName___init__) (defScope s_NoName___init__) .none kV_NoName___init__ dc_NoName___init__ pm_NoName___init__ an_NoName___init__ cd_NoName___init__ ct_NoName___init__), sl_NoName___init__⟩)
    (cd1_NoName___init__ : PySem.W.codeIn K cd_NoName___init__ "NoName.__init__" = true)
    (kp_NoName___init__ : PySem.W.keepIn K (.ref f_NoName___init__) = true)
    (l_Missing___init__ : K.lookup f_Missing___init__ = some ⟨oc_Missing___init__, od_Missing___init__, .func (PySem.W.fnOf "__init__" "Missing.__init__" (defArgs s_Missing___init__) (defBody s_Missing___init__) (defScope s_Missing___init__) .none kV_Missing___init__ dc_Missing___init__ pm_Missing___init__ an_Missing___init__ cd_Missing___init__ ct_Missing___init__), sl_Missing___init__⟩)
    (cd1_Missing___init__ : PySem.W.codeIn K cd_Missing___init__ "Missing.__init__" = true)
    (kp_Missing___init__ : PySem.W.keepIn K (.ref f_Missing___init__) = true)
    (l_NoSymbol___init__ : K.lookup f_NoSymbol___init__ = some ⟨oc_NoSymbol___init__, od_NoSymbol___init__, .func (PySem.W.fnOf "__init__" "NoSymbol.__init__" (defArgs s_NoSymbol___init__) (defBody s_NoSymbol___init__) (defScope s_NoSymbol___init__) .none kV_NoSymbol___init__ dc_NoSymbol___init__ pm_NoSymbol___init__ an_NoSymbol___init__ cd_NoSymbol___init__ ct_NoSymbol___init__), sl_NoSymbol___init__⟩)
    (cd1_NoSymbol___init__ : PySem.W.codeIn K cd_NoSymbol___init__ "NoSymbol.__init__" = true)
    (kp_NoSymbol___init__ : PySem.W.keepIn K (.ref f_NoSymbol___init__) = true)
    (l_NoWishes___init__ : K.lookup f_NoWishes___init__ = some ⟨oc_NoWishes___init__, od_NoWishes___init__, .func (PySem.W.fnOf "__init__" "NoWishes.__init__" (defArgs s_NoWishes___init__) (defBody s_NoWishes___init__) (defScope s_NoWishes___init__) .none kV_NoWishes___init__ dc_NoWishes___init__ pm_NoWishes___init__ an_NoWishes___init__ cd_NoWishes___init__ ct_NoWishes___init__), sl_NoWishes___init__⟩)
    (cd1_NoWishes___init__ : PySem.W.codeIn K cd_NoWishes___init__ "NoWishes.__init__" = true)
    (kp_NoWishes___init__ : PySem.W.keepIn K (.ref f_NoWishes___init__) = true)
    (l_is_word : K.lookup f_is_word = some ⟨oc_is_word, od_is_word, .func (PySem.W.fnOf "is_word" "is_word" (defArgs s_is_word) (defBody s_is_word) (defScope s_is_word) .none kV_is_word dc_is_word pm_is_word an_is_word cd_is_word ct_is_word), sl_is_word⟩)
    (cd1_is_word : PySem.W.codeIn K cd_is_word "is_word" = true)
    (kp_is_word : PySem.W.keepIn K (.ref f_is_word) = true)
    (l_are_words : K.lookup f_are_words = some ⟨oc_are_words, od_are_words, .func (PySem.W.fnOf "are_words" "are_words" (defArgs s_are_words) (defBody s_are_words) (defScope s_are_words) .none kV_are_words dc_are_words pm_are_words an_are_words cd_are_words ct_are_words), sl_are_words⟩)
    (cd1_are_words : PySem.W.codeIn K cd_are_words "are_words" = true)
    (kp_are_words : PySem.W.keepIn K (.ref f_are_words) = true)
    (l_check_symbol : K.lookup f_check_symbol = some ⟨oc_check_symbol, od_check_symbol, .func (PySem.W.fnOf "check_symbol" "check_symbol" (defArgs s_check_symbol) (defBody s_check_symbol) (defScope s_check_symbol) .none kV_check_symbol dc_check_symbol pm_check_symbol an_check_symbol cd_check_symbol ct_check_symbol), sl_check_symbol⟩)
    (cd1_check_symbol : PySem.W.codeIn K cd_check_symbol "check_symbol" = true)
    (kp_check_symbol : PySem.W.keepIn K (.ref f_check_symbol) = true)
    (l_closure : K.lookup f_closure = some ⟨oc_closure, od_closure, .func (PySem.W.fnOf "closure" "closure" (defArgs s_closure) (defBody s_closure) (defScope s_closure) .none kV_closure dc_closure pm_closure an_closure cd_closure ct_closure), sl_closure⟩)
    (cd1_closure : PySem.W.codeIn K cd_closure "closure" = true)
    (kp_closure : PySem.W.keepIn K (.ref f_closure) = true)
    (l_grown : K.lookup f_grown = some ⟨oc_grown, od_grown, .func (PySem.W.fnOf "grown" "grown" (defArgs s_grown) (defBody s_grown) (defScope s_grown) .none kV_grown dc_grown pm_grown an_grown cd_grown ct_grown), sl_grown⟩)
    (cd1_grown : PySem.W.codeIn K cd_grown "grown" = true)
    (kp_grown : PySem.W.keepIn K (.ref f_grown) = true)
    (l_definers : K.lookup f_definers = some ⟨oc_definers, od_definers, .func (PySem.W.fnOf "definers" "definers" (defArgs s_definers) (defBody s_definers) (defScope s_definers) .none kV_definers dc_definers pm_definers an_definers cd_definers ct_definers), sl_definers⟩)
    (cd1_definers : PySem.W.codeIn K cd_definers "definers" = true)
    (kp_definers : PySem.W.keepIn K (.ref f_definers) = true)
    (l_Library___init__ : K.lookup f_Library___init__ = some ⟨oc_Library___init__, od_Library___init__, .func (PySem.W.fnOf "__init__" "Library.__init__" (defArgs s_Library___init__) (defBody s_Library___init__) (defScope s_Library___init__) .none (.ref D_Library___init__) dc_Library___init__ pm_Library___init__ an_Library___init__ cd_Library___init__ ct_Library___init__), sl_Library___init__⟩)
    (cd1_Library___init__ : PySem.W.codeIn K cd_Library___init__ "Library.__init__" = true)
    (kp_Library___init__ : PySem.W.keepIn K (.ref f_Library___init__) = true)
    (l_Library_row : K.lookup f_Library_row = some ⟨oc_Library_row, od_Library_row, .func (PySem.W.fnOf "row" "Library.row" (defArgs s_Library_row) (defBody s_Library_row) (defScope s_Library_row) .none kV_Library_row dc_Library_row pm_Library_row an_Library_row cd_Library_row ct_Library_row), sl_Library_row⟩)
    (cd1_Library_row : PySem.W.codeIn K cd_Library_row "Library.row" = true)
    (kp_Library_row : PySem.W.keepIn K (.ref f_Library_row) = true)
    (l_Library___eq__ : K.lookup f_Library___eq__ = some ⟨oc_Library___eq__, od_Library___eq__, .func (PySem.W.fnOf "__eq__" "Library.__eq__" (defArgs s_Library___eq__) (defBody s_Library___eq__) (defScope s_Library___eq__) .none kV_Library___eq__ dc_Library___eq__ pm_Library___eq__ an_Library___eq__ cd_Library___eq__ ct_Library___eq__), sl_Library___eq__⟩)
    (cd1_Library___eq__ : PySem.W.codeIn K cd_Library___eq__ "Library.__eq__" = true)
    (kp_Library___eq__ : PySem.W.keepIn K (.ref f_Library___eq__) = true)
    (l_Store___init__ : K.lookup f_Store___init__ = some ⟨oc_Store___init__, od_Store___init__, .func (PySem.W.fnOf "__init__" "Store.__init__" (defArgs s_Store___init__) (defBody s_Store___init__) (defScope s_Store___init__) .none kV_Store___init__ dc_Store___init__ pm_Store___init__ an_Store___init__ cd_Store___init__ ct_Store___init__), sl_Store___init__⟩)
    (cd1_Store___init__ : PySem.W.codeIn K cd_Store___init__ "Store.__init__" = true)
    (kp_Store___init__ : PySem.W.keepIn K (.ref f_Store___init__) = true)
    (l_Store___getitem__ : K.lookup f_Store___getitem__ = some ⟨oc_Store___getitem__, od_Store___getitem__, .func (PySem.W.fnOf "__getitem__" "Store.__getitem__" (defArgs s_Store___getitem__) (defBody s_Store___getitem__) (defScope s_Store___getitem__) .none kV_Store___getitem__ dc_Store___getitem__ pm_Store___getitem__ an_Store___getitem__ cd_Store___getitem__ ct_Store___getitem__), sl_Store___getitem__⟩)
    (cd1_Store___getitem__ : PySem.W.codeIn K cd_Store___getitem__ "Store.__getitem__" = true)
    (kp_Store___getitem__ : PySem.W.keepIn K (.ref f_Store___getitem__) = true)
    (l_Store___iter__ : K.lookup f_Store___iter__ = some ⟨oc_Store___iter__, od_Store___iter__, .func (PySem.W.fnOf "__iter__" "Store.__iter__" (defArgs s_Store___iter__) (defBody s_Store___iter__) (defScope s_Store___iter__) .none kV_Store___iter__ dc_Store___iter__ pm_Store___iter__ an_Store___iter__ cd_Store___iter__ ct_Store___iter__), sl_Store___iter__⟩)
    (cd1_Store___iter__ : PySem.W.codeIn K cd_Store___iter__ "Store.__iter__" = true)
    (kp_Store___iter__ : PySem.W.keepIn K (.ref f_Store___iter__) = true)
    (l_Store___contains__ : K.lookup f_Store___contains__ = some ⟨oc_Store___contains__, od_Store___contains__, .func (PySem.W.fnOf "__contains__" "Store.__contains__" (defArgs s_Store___contains__) (defBody s_Store___contains__) (defScope s_Store___contains__) .none kV_Store___contains__ dc_Store___contains__ pm_Store___contains__ an_Store___contains__ cd_Store___contains__ ct_Store___contains__), sl_Store___contains__⟩)
    (cd1_Store___contains__ : PySem.W.codeIn K cd_Store___contains__ "Store.__contains__" = true)
    (kp_Store___contains__ : PySem.W.keepIn K (.ref f_Store___contains__) = true)
    (l_Store___len__ : K.lookup f_Store___len__ = some ⟨oc_Store___len__, od_Store___len__, .func (PySem.W.fnOf "__len__" "Store.__len__" (defArgs s_Store___len__) (defBody s_Store___len__) (defScope s_Store___len__) .none kV_Store___len__ dc_Store___len__ pm_Store___len__ an_Store___len__ cd_Store___len__ ct_Store___len__), sl_Store___len__⟩)
    (cd1_Store___len__ : PySem.W.codeIn K cd_Store___len__ "Store.__len__" = true)
    (kp_Store___len__ : PySem.W.keepIn K (.ref f_Store___len__) = true)
    (l_first_definer : K.lookup f_first_definer = some ⟨oc_first_definer, od_first_definer, .func (PySem.W.fnOf "first_definer" "first_definer" (defArgs s_first_definer) (defBody s_first_definer) (defScope s_first_definer) .none kV_first_definer dc_first_definer pm_first_definer an_first_definer cd_first_definer ct_first_definer), sl_first_definer⟩)
    (cd1_first_definer : PySem.W.codeIn K cd_first_definer "first_definer" = true)
    (kp_first_definer : PySem.W.keepIn K (.ref f_first_definer) = true)
    (l_check_wishes : K.lookup f_check_wishes = some ⟨oc_check_wishes, od_check_wishes, .func (PySem.W.fnOf "check_wishes" "check_wishes" (defArgs s_check_wishes) (defBody s_check_wishes) (defScope s_check_wishes) .none kV_check_wishes dc_check_wishes pm_check_wishes an_check_wishes cd_check_wishes ct_check_wishes), sl_check_wishes⟩)
    (cd1_check_wishes : PySem.W.codeIn K cd_check_wishes "check_wishes" = true)
    (kp_check_wishes : PySem.W.keepIn K (.ref f_check_wishes) = true)
    (l_ahead_of : K.lookup f_ahead_of = some ⟨oc_ahead_of, od_ahead_of, .func (PySem.W.fnOf "ahead_of" "ahead_of" (defArgs s_ahead_of) (defBody s_ahead_of) (defScope s_ahead_of) .none kV_ahead_of dc_ahead_of pm_ahead_of an_ahead_of cd_ahead_of ct_ahead_of), sl_ahead_of⟩)
    (cd1_ahead_of : PySem.W.codeIn K cd_ahead_of "ahead_of" = true)
    (kp_ahead_of : PySem.W.keepIn K (.ref f_ahead_of) = true)
    (l_required : K.lookup f_required = some ⟨oc_required, od_required, .func (PySem.W.fnOf "required" "required" (defArgs s_required) (defBody s_required) (defScope s_required) .none kV_required dc_required pm_required an_required cd_required ct_required), sl_required⟩)
    (cd1_required : PySem.W.codeIn K cd_required "required" = true)
    (kp_required : PySem.W.keepIn K (.ref f_required) = true)
    (l_ring_among : K.lookup f_ring_among = some ⟨oc_ring_among, od_ring_among, .func (PySem.W.fnOf "ring_among" "ring_among" (defArgs s_ring_among) (defBody s_ring_among) (defScope s_ring_among) .none kV_ring_among dc_ring_among pm_ring_among an_ring_among cd_ring_among ct_ring_among), sl_ring_among⟩)
    (cd1_ring_among : PySem.W.codeIn K cd_ring_among "ring_among" = true)
    (kp_ring_among : PySem.W.keepIn K (.ref f_ring_among) = true)
    (l_ordered : K.lookup f_ordered = some ⟨oc_ordered, od_ordered, .func (PySem.W.fnOf "ordered" "ordered" (defArgs s_ordered) (defBody s_ordered) (defScope s_ordered) .none kV_ordered dc_ordered pm_ordered an_ordered cd_ordered ct_ordered), sl_ordered⟩)
    (cd1_ordered : PySem.W.codeIn K cd_ordered "ordered" = true)
    (kp_ordered : PySem.W.keepIn K (.ref f_ordered) = true)
    (l_least_preloads : K.lookup f_least_preloads = some ⟨oc_least_preloads, od_least_preloads, .func (PySem.W.fnOf "least_preloads" "least_preloads" (defArgs s_least_preloads) (defBody s_least_preloads) (defScope s_least_preloads) .none kV_least_preloads dc_least_preloads pm_least_preloads an_least_preloads cd_least_preloads ct_least_preloads), sl_least_preloads⟩)
    (cd1_least_preloads : PySem.W.codeIn K cd_least_preloads "least_preloads" = true)
    (kp_least_preloads : PySem.W.keepIn K (.ref f_least_preloads) = true)
    (l__law_cell_at : K.lookup f__law_cell_at = some ⟨oc__law_cell_at, od__law_cell_at, .func (PySem.W.fnOf "_law_cell_at" "_law_cell_at" (defArgs s__law_cell_at) (defBody s__law_cell_at) (defScope s__law_cell_at) .none kV__law_cell_at dc__law_cell_at pm__law_cell_at an__law_cell_at cd__law_cell_at ct__law_cell_at), sl__law_cell_at⟩)
    (cd1__law_cell_at : PySem.W.codeIn K cd__law_cell_at "_law_cell_at" = true)
    (kp__law_cell_at : PySem.W.keepIn K (.ref f__law_cell_at) = true)
    (l__law_begin : K.lookup f__law_begin = some ⟨oc__law_begin, od__law_begin, .func (PySem.W.fnOf "_law_begin" "_law_begin" (defArgs s__law_begin) (defBody s__law_begin) (defScope s__law_begin) .none kV__law_begin dc__law_begin pm__law_begin an__law_begin cd__law_begin ct__law_begin), sl__law_begin⟩)
    (cd1__law_begin : PySem.W.codeIn K cd__law_begin "_law_begin" = true)
    (kp__law_begin : PySem.W.keepIn K (.ref f__law_begin) = true)
    (l__law_draw : K.lookup f__law_draw = some ⟨oc__law_draw, od__law_draw, .func (PySem.W.fnOf "_law_draw" "_law_draw" (defArgs s__law_draw) (defBody s__law_draw) (defScope s__law_draw) .none kV__law_draw dc__law_draw pm__law_draw an__law_draw cd__law_draw ct__law_draw), sl__law_draw⟩)
    (cd1__law_draw : PySem.W.codeIn K cd__law_draw "_law_draw" = true)
    (kp__law_draw : PySem.W.keepIn K (.ref f__law_draw) = true)
    (l__law_pick : K.lookup f__law_pick = some ⟨oc__law_pick, od__law_pick, .func (PySem.W.fnOf "_law_pick" "_law_pick" (defArgs s__law_pick) (defBody s__law_pick) (defScope s__law_pick) .none kV__law_pick dc__law_pick pm__law_pick an__law_pick cd__law_pick ct__law_pick), sl__law_pick⟩)
    (cd1__law_pick : PySem.W.codeIn K cd__law_pick "_law_pick" = true)
    (kp__law_pick : PySem.W.keepIn K (.ref f__law_pick) = true)
    (l__law_part : K.lookup f__law_part = some ⟨oc__law_part, od__law_part, .func (PySem.W.fnOf "_law_part" "_law_part" (defArgs s__law_part) (defBody s__law_part) (defScope s__law_part) .none kV__law_part dc__law_part pm__law_part an__law_part cd__law_part ct__law_part), sl__law_part⟩)
    (cd1__law_part : PySem.W.codeIn K cd__law_part "_law_part" = true)
    (kp__law_part : PySem.W.keepIn K (.ref f__law_part) = true)
    (l__law_spelled : K.lookup f__law_spelled = some ⟨oc__law_spelled, od__law_spelled, .func (PySem.W.fnOf "_law_spelled" "_law_spelled" (defArgs s__law_spelled) (defBody s__law_spelled) (defScope s__law_spelled) .none kV__law_spelled dc__law_spelled pm__law_spelled an__law_spelled cd__law_spelled ct__law_spelled), sl__law_spelled⟩)
    (cd1__law_spelled : PySem.W.codeIn K cd__law_spelled "_law_spelled" = true)
    (kp__law_spelled : PySem.W.keepIn K (.ref f__law_spelled) = true)
    (l__law_library : K.lookup f__law_library = some ⟨oc__law_library, od__law_library, .func (PySem.W.fnOf "_law_library" "_law_library" (defArgs s__law_library) (defBody s__law_library) (defScope s__law_library) .none kV__law_library dc__law_library pm__law_library an__law_library cd__law_library ct__law_library), sl__law_library⟩)
    (cd1__law_library : PySem.W.codeIn K cd__law_library "_law_library" = true)
    (kp__law_library : PySem.W.keepIn K (.ref f__law_library) = true)
    (l__law_libraries : K.lookup f__law_libraries = some ⟨oc__law_libraries, od__law_libraries, .func (PySem.W.fnOf "_law_libraries" "_law_libraries" (defArgs s__law_libraries) (defBody s__law_libraries) (defScope s__law_libraries) .none kV__law_libraries dc__law_libraries pm__law_libraries an__law_libraries cd__law_libraries ct__law_libraries), sl__law_libraries⟩)
    (cd1__law_libraries : PySem.W.codeIn K cd__law_libraries "_law_libraries" = true)
    (kp__law_libraries : PySem.W.keepIn K (.ref f__law_libraries) = true)
    (l__law_stored : K.lookup f__law_stored = some ⟨oc__law_stored, od__law_stored, .func (PySem.W.fnOf "_law_stored" "_law_stored" (defArgs s__law_stored) (defBody s__law_stored) (defScope s__law_stored) .none kV__law_stored dc__law_stored pm__law_stored an__law_stored cd__law_stored ct__law_stored), sl__law_stored⟩)
    (cd1__law_stored : PySem.W.codeIn K cd__law_stored "_law_stored" = true)
    (kp__law_stored : PySem.W.keepIn K (.ref f__law_stored) = true)
    (l__law_closed : K.lookup f__law_closed = some ⟨oc__law_closed, od__law_closed, .func (PySem.W.fnOf "_law_closed" "_law_closed" (defArgs s__law_closed) (defBody s__law_closed) (defScope s__law_closed) .none kV__law_closed dc__law_closed pm__law_closed an__law_closed cd__law_closed ct__law_closed), sl__law_closed⟩)
    (cd1__law_closed : PySem.W.codeIn K cd__law_closed "_law_closed" = true)
    (kp__law_closed : PySem.W.keepIn K (.ref f__law_closed) = true)
    (l__law_complete : K.lookup f__law_complete = some ⟨oc__law_complete, od__law_complete, .func (PySem.W.fnOf "_law_complete" "_law_complete" (defArgs s__law_complete) (defBody s__law_complete) (defScope s__law_complete) .none kV__law_complete dc__law_complete pm__law_complete an__law_complete cd__law_complete ct__law_complete), sl__law_complete⟩)
    (cd1__law_complete : PySem.W.codeIn K cd__law_complete "_law_complete" = true)
    (kp__law_complete : PySem.W.keepIn K (.ref f__law_complete) = true)
    (l__law_definer : K.lookup f__law_definer = some ⟨oc__law_definer, od__law_definer, .func (PySem.W.fnOf "_law_definer" "_law_definer" (defArgs s__law_definer) (defBody s__law_definer) (defScope s__law_definer) .none kV__law_definer dc__law_definer pm__law_definer an__law_definer cd__law_definer ct__law_definer), sl__law_definer⟩)
    (cd1__law_definer : PySem.W.codeIn K cd__law_definer "_law_definer" = true)
    (kp__law_definer : PySem.W.keepIn K (.ref f__law_definer) = true)
    (l__law_wishes : K.lookup f__law_wishes = some ⟨oc__law_wishes, od__law_wishes, .func (PySem.W.fnOf "_law_wishes" "_law_wishes" (defArgs s__law_wishes) (defBody s__law_wishes) (defScope s__law_wishes) .none kV__law_wishes dc__law_wishes pm__law_wishes an__law_wishes cd__law_wishes ct__law_wishes), sl__law_wishes⟩)
    (cd1__law_wishes : PySem.W.codeIn K cd__law_wishes "_law_wishes" = true)
    (kp__law_wishes : PySem.W.keepIn K (.ref f__law_wishes) = true)
    (l__law_global : K.lookup f__law_global = some ⟨oc__law_global, od__law_global, .func (PySem.W.fnOf "_law_global" "_law_global" (defArgs s__law_global) (defBody s__law_global) (defScope s__law_global) .none kV__law_global dc__law_global pm__law_global an__law_global cd__law_global ct__law_global), sl__law_global⟩)
    (cd1__law_global : PySem.W.codeIn K cd__law_global "_law_global" = true)
    (kp__law_global : PySem.W.keepIn K (.ref f__law_global) = true)
    (l__law_met : K.lookup f__law_met = some ⟨oc__law_met, od__law_met, .func (PySem.W.fnOf "_law_met" "_law_met" (defArgs s__law_met) (defBody s__law_met) (defScope s__law_met) .none kV__law_met dc__law_met pm__law_met an__law_met cd__law_met ct__law_met), sl__law_met⟩)
    (cd1__law_met : PySem.W.codeIn K cd__law_met "_law_met" = true)
    (kp__law_met : PySem.W.keepIn K (.ref f__law_met) = true)
    (l__law_ahead : K.lookup f__law_ahead = some ⟨oc__law_ahead, od__law_ahead, .func (PySem.W.fnOf "_law_ahead" "_law_ahead" (defArgs s__law_ahead) (defBody s__law_ahead) (defScope s__law_ahead) .none kV__law_ahead dc__law_ahead pm__law_ahead an__law_ahead cd__law_ahead ct__law_ahead), sl__law_ahead⟩)
    (cd1__law_ahead : PySem.W.codeIn K cd__law_ahead "_law_ahead" = true)
    (kp__law_ahead : PySem.W.keepIn K (.ref f__law_ahead) = true)
    (l__law_required : K.lookup f__law_required = some ⟨oc__law_required, od__law_required, .func (PySem.W.fnOf "_law_required" "_law_required" (defArgs s__law_required) (defBody s__law_required) (defScope s__law_required) .none kV__law_required dc__law_required pm__law_required an__law_required cd__law_required ct__law_required), sl__law_required⟩)
    (cd1__law_required : PySem.W.codeIn K cd__law_required "_law_required" = true)
    (kp__law_required : PySem.W.keepIn K (.ref f__law_required) = true)
    (l__law_hoped : K.lookup f__law_hoped = some ⟨oc__law_hoped, od__law_hoped, .func (PySem.W.fnOf "_law_hoped" "_law_hoped" (defArgs s__law_hoped) (defBody s__law_hoped) (defScope s__law_hoped) .none kV__law_hoped dc__law_hoped pm__law_hoped an__law_hoped cd__law_hoped ct__law_hoped), sl__law_hoped⟩)
    (cd1__law_hoped : PySem.W.codeIn K cd__law_hoped "_law_hoped" = true)
    (kp__law_hoped : PySem.W.keepIn K (.ref f__law_hoped) = true)
    (l_law : K.lookup f_law = some ⟨oc_law, od_law, .func (PySem.W.fnOf "law" "law" (defArgs s_law) (defBody s_law) (defScope s_law) .none kV_law dc_law pm_law an_law cd_law ct_law), sl_law⟩)
    (cd1_law : PySem.W.codeIn K cd_law "law" = true)
    (kp_law : PySem.W.keepIn K (.ref f_law) = true)
    (kw_Library___init___0 : PySem.W.nsIn K D_Library___init__ "needs" = some (some (.ref e0)))
    (kw_Library___init___1 : PySem.W.nsIn K D_Library___init__ "defines" = some (some (.ref e1)))
    (kw_Library___init___2 : PySem.W.nsIn K D_Library___init__ "uses" = some (some (.ref e2)))
    (kw_Library___init___3 : PySem.W.nsIn K D_Library___init__ "weak" = some (some (.ref e3)))
    (kw_Library___init___4 : PySem.W.nsIn K D_Library___init__ "eager" = some (some (.bool false)))
    (kw_Library___init___5 : PySem.W.nsIn K D_Library___init__ "own_first" = some (some (.bool false)))
    (z_ValueError : PySem.W.nsIn K mainGlobals "ValueError" = some none)
    (z_all : PySem.W.nsIn K mainGlobals "all" = some none)
    (z_bool : PySem.W.nsIn K mainGlobals "bool" = some none)
    (z_dict : PySem.W.nsIn K mainGlobals "dict" = some none)
    (z_enumerate : PySem.W.nsIn K mainGlobals "enumerate" = some none)
    (z_int : PySem.W.nsIn K mainGlobals "int" = some none)
    (z_isinstance : PySem.W.nsIn K mainGlobals "isinstance" = some none)
    (z_len : PySem.W.nsIn K mainGlobals "len" = some none)
    (z_list : PySem.W.nsIn K mainGlobals "list" = some none)
    (z_range : PySem.W.nsIn K mainGlobals "range" = some none)
    (z_set : PySem.W.nsIn K mainGlobals "set" = some none)
    (z_sorted : PySem.W.nsIn K mainGlobals "sorted" = some none)
    (z_str : PySem.W.nsIn K mainGlobals "str" = some none)
    (z_tuple : PySem.W.nsIn K mainGlobals "tuple" = some none)
    (cv_LETTERS : PySem.W.nsIn K mainGlobals "LETTERS" = some (some (.str "abcdefghijklmnopqrstuvwxyz" t_LETTERS)))
    (cv_MOST_LIBRARIES : PySem.W.nsIn K mainGlobals "MOST_LIBRARIES" = some (some (.int 40 t_MOST_LIBRARIES)))
    (ld_ga : PySem.W.specialIn K (.ref C_LoadError) "__getattribute__" = some (some (.builtin "type.__getattribute__")))
    (ld_rd : PySem.W.readsIn K C_LoadError (.type "type") = true)
    (ld_fc : PySem.W.findCls K (.ref C_LoadError) (.type "type") "__init__" = some (.val (.builtin "ValueError.__init__")))
    (xl_NoLibrary : K.lookup C_NoLibrary = some (excClassObj nm_NoLibrary q_NoLibrary C_NoLibrary N_NoLibrary bs_NoLibrary bm_NoLibrary true sn_NoLibrary sub_NoLibrary ab_NoLibrary co_NoLibrary dd_NoLibrary m0_NoLibrary m1_NoLibrary m2_NoLibrary m3_NoLibrary m5_NoLibrary "ValueError.__new__"))
    (rb_NoLibrary : PySem.HandSPX.refsVE bm_NoLibrary = true)
    (sa_NoLibrary : PySem.W.findIn K (.ref C_NoLibrary) "__setattr__" = some (some (.builtin "object.__setattr__")))
    (eC_NoLibrary : PySem.W.subIn K (.ref C_NoLibrary) (.type "BaseException") = some true)
    (tC_NoLibrary : PySem.W.typeIn K (.ref C_NoLibrary) = some (.type "type"))
    (kC_NoLibrary : PySem.W.keepIn K (.ref C_NoLibrary) = true)
    (ti_NoLibrary : PySem.W.typeIn K (.ref f_NoLibrary___init__) = some (.type "function"))
    (nb_NoLibrary : PySem.W.findIn K (.ref C_NoLibrary) "part" = some none)
    (ga_NoLibrary : PySem.W.findIn K (.ref C_NoLibrary) "__getattribute__" = some (some (.builtin "BaseException.__getattribute__")))
    (gg_NoLibrary : PySem.W.findIn K (.ref C_NoLibrary) "__getattr__" = some none)
    (hd_NoLibrary : PySem.W.hasDictIn K C_NoLibrary = true)
    (te_NoLibrary : PySem.W.subIn K (.ref C_NoLibrary) (.ref C_NoLibrary) = some true)
    (ic_NoLibrary : PySem.W.isClsIn K C_NoLibrary = true)
    (xl_NoStore : K.lookup C_NoStore = some (excClassObj nm_NoStore q_NoStore C_NoStore N_NoStore bs_NoStore bm_NoStore true sn_NoStore sub_NoStore ab_NoStore co_NoStore dd_NoStore m0_NoStore m1_NoStore m2_NoStore m3_NoStore m5_NoStore "ValueError.__new__"))
    (rb_NoStore : PySem.HandSPX.refsVE bm_NoStore = true)
    (sa_NoStore : PySem.W.findIn K (.ref C_NoStore) "__setattr__" = some (some (.builtin "object.__setattr__")))
    (eC_NoStore : PySem.W.subIn K (.ref C_NoStore) (.type "BaseException") = some true)
    (tC_NoStore : PySem.W.typeIn K (.ref C_NoStore) = some (.type "type"))
    (kC_NoStore : PySem.W.keepIn K (.ref C_NoStore) = true)
    (ti_NoStore : PySem.W.typeIn K (.ref f_NoStore___init__) = some (.type "function"))
    (nb_NoStore : PySem.W.findIn K (.ref C_NoStore) "at" = some none)
    (ga_NoStore : PySem.W.findIn K (.ref C_NoStore) "__getattribute__" = some (some (.builtin "BaseException.__getattribute__")))
    (gg_NoStore : PySem.W.findIn K (.ref C_NoStore) "__getattr__" = some none)
    (hd_NoStore : PySem.W.hasDictIn K C_NoStore = true)
    (te_NoStore : PySem.W.subIn K (.ref C_NoStore) (.ref C_NoStore) = some true)
    (ic_NoStore : PySem.W.isClsIn K C_NoStore = true)
    (xl_NoName : K.lookup C_NoName = some (excClassObj nm_NoName q_NoName C_NoName N_NoName bs_NoName bm_NoName true sn_NoName sub_NoName ab_NoName co_NoName dd_NoName m0_NoName m1_NoName m2_NoName m3_NoName m5_NoName "ValueError.__new__"))
    (rb_NoName : PySem.HandSPX.refsVE bm_NoName = true)
    (sa_NoName : PySem.W.findIn K (.ref C_NoName) "__setattr__" = some (some (.builtin "object.__setattr__")))
    (eC_NoName : PySem.W.subIn K (.ref C_NoName) (.type "BaseException") = some true)
    (tC_NoName : PySem.W.typeIn K (.ref C_NoName) = some (.type "type"))
    (kC_NoName : PySem.W.keepIn K (.ref C_NoName) = true)
    (ti_NoName : PySem.W.typeIn K (.ref f_NoName___init__) = some (.type "function"))
    (nb_NoName : PySem.W.findIn K (.ref C_NoName) "name" = some none)
    (ga_NoName : PySem.W.findIn K (.ref C_NoName) "__getattribute__" = some (some (.builtin "BaseException.__getattribute__")))
    (gg_NoName : PySem.W.findIn K (.ref C_NoName) "__getattr__" = some none)
    (hd_NoName : PySem.W.hasDictIn K C_NoName = true)
    (te_NoName : PySem.W.subIn K (.ref C_NoName) (.ref C_NoName) = some true)
    (ic_NoName : PySem.W.isClsIn K C_NoName = true)
    (xl_Missing : K.lookup C_Missing = some (excClassObj nm_Missing q_Missing C_Missing N_Missing bs_Missing bm_Missing true sn_Missing sub_Missing ab_Missing co_Missing dd_Missing m0_Missing m1_Missing m2_Missing m3_Missing m5_Missing "ValueError.__new__"))
    (rb_Missing : PySem.HandSPX.refsVE bm_Missing = true)
    (sa_Missing : PySem.W.findIn K (.ref C_Missing) "__setattr__" = some (some (.builtin "object.__setattr__")))
    (eC_Missing : PySem.W.subIn K (.ref C_Missing) (.type "BaseException") = some true)
    (tC_Missing : PySem.W.typeIn K (.ref C_Missing) = some (.type "type"))
    (kC_Missing : PySem.W.keepIn K (.ref C_Missing) = true)
    (ti_Missing : PySem.W.typeIn K (.ref f_Missing___init__) = some (.type "function"))
    (nb_Missing : PySem.W.findIn K (.ref C_Missing) "name" = some none)
    (ga_Missing : PySem.W.findIn K (.ref C_Missing) "__getattribute__" = some (some (.builtin "BaseException.__getattribute__")))
    (gg_Missing : PySem.W.findIn K (.ref C_Missing) "__getattr__" = some none)
    (hd_Missing : PySem.W.hasDictIn K C_Missing = true)
    (te_Missing : PySem.W.subIn K (.ref C_Missing) (.ref C_Missing) = some true)
    (ic_Missing : PySem.W.isClsIn K C_Missing = true)
    (xl_NoSymbol : K.lookup C_NoSymbol = some (excClassObj nm_NoSymbol q_NoSymbol C_NoSymbol N_NoSymbol bs_NoSymbol bm_NoSymbol true sn_NoSymbol sub_NoSymbol ab_NoSymbol co_NoSymbol dd_NoSymbol m0_NoSymbol m1_NoSymbol m2_NoSymbol m3_NoSymbol m5_NoSymbol "ValueError.__new__"))
    (rb_NoSymbol : PySem.HandSPX.refsVE bm_NoSymbol = true)
    (sa_NoSymbol : PySem.W.findIn K (.ref C_NoSymbol) "__setattr__" = some (some (.builtin "object.__setattr__")))
    (eC_NoSymbol : PySem.W.subIn K (.ref C_NoSymbol) (.type "BaseException") = some true)
    (tC_NoSymbol : PySem.W.typeIn K (.ref C_NoSymbol) = some (.type "type"))
    (kC_NoSymbol : PySem.W.keepIn K (.ref C_NoSymbol) = true)
    (ti_NoSymbol : PySem.W.typeIn K (.ref f_NoSymbol___init__) = some (.type "function"))
    (nb_NoSymbol : PySem.W.findIn K (.ref C_NoSymbol) "symbol" = some none)
    (ga_NoSymbol : PySem.W.findIn K (.ref C_NoSymbol) "__getattribute__" = some (some (.builtin "BaseException.__getattribute__")))
    (gg_NoSymbol : PySem.W.findIn K (.ref C_NoSymbol) "__getattr__" = some none)
    (hd_NoSymbol : PySem.W.hasDictIn K C_NoSymbol = true)
    (te_NoSymbol : PySem.W.subIn K (.ref C_NoSymbol) (.ref C_NoSymbol) = some true)
    (ic_NoSymbol : PySem.W.isClsIn K C_NoSymbol = true)
    (xl_NoWishes : K.lookup C_NoWishes = some (excClassObj nm_NoWishes q_NoWishes C_NoWishes N_NoWishes bs_NoWishes bm_NoWishes true sn_NoWishes sub_NoWishes ab_NoWishes co_NoWishes dd_NoWishes m0_NoWishes m1_NoWishes m2_NoWishes m3_NoWishes m5_NoWishes "ValueError.__new__"))
    (rb_NoWishes : PySem.HandSPX.refsVE bm_NoWishes = true)
    (sa_NoWishes : PySem.W.findIn K (.ref C_NoWishes) "__setattr__" = some (some (.builtin "object.__setattr__")))
    (eC_NoWishes : PySem.W.subIn K (.ref C_NoWishes) (.type "BaseException") = some true)
    (tC_NoWishes : PySem.W.typeIn K (.ref C_NoWishes) = some (.type "type"))
    (kC_NoWishes : PySem.W.keepIn K (.ref C_NoWishes) = true)
    (ti_NoWishes : PySem.W.typeIn K (.ref f_NoWishes___init__) = some (.type "function"))
    (nb_NoWishes : PySem.W.findIn K (.ref C_NoWishes) "symbol" = some none)
    (ga_NoWishes : PySem.W.findIn K (.ref C_NoWishes) "__getattribute__" = some (some (.builtin "BaseException.__getattribute__")))
    (gg_NoWishes : PySem.W.findIn K (.ref C_NoWishes) "__getattr__" = some none)
    (hd_NoWishes : PySem.W.hasDictIn K C_NoWishes = true)
    (te_NoWishes : PySem.W.subIn K (.ref C_NoWishes) (.ref C_NoWishes) = some true)
    (ic_NoWishes : PySem.W.isClsIn K C_NoWishes = true)
    (pg_Library : PySem.W.plainGet K C_Library Str.empty = true)
    (hd_Library : PySem.W.hasDictIn K C_Library = true)
    (po_Library : PySem.W.plainOver K C_Library = true)
    (sa_Library : PySem.W.findIn K (.ref C_Library) "__setattr__" = some (some (.builtin "object.__setattr__")))
    (na_Library_name : PySem.W.findIn K (.ref C_Library) "name" = some none)
    (na_Library_needs : PySem.W.findIn K (.ref C_Library) "needs" = some none)
    (na_Library_defines : PySem.W.findIn K (.ref C_Library) "defines" = some none)
    (na_Library_uses : PySem.W.findIn K (.ref C_Library) "uses" = some none)
    (na_Library_weak : PySem.W.findIn K (.ref C_Library) "weak" = some none)
    (na_Library_eager : PySem.W.findIn K (.ref C_Library) "eager" = some none)
    (na_Library_own_first : PySem.W.findIn K (.ref C_Library) "own_first" = some none)
    (mk_Library : PySem.W.makesIn K C_Library = true)
    (if_Library : PySem.W.isFn K (.ref f_Library___init__) = true)
    (kc_Library : PySem.W.keepIn K (.ref C_Library) = true)
    (pg_Store : PySem.W.plainGet K C_Store Str.empty = true)
    (hd_Store : PySem.W.hasDictIn K C_Store = true)
    (po_Store : PySem.W.plainOver K C_Store = true)
    (sa_Store : PySem.W.findIn K (.ref C_Store) "__setattr__" = some (some (.builtin "object.__setattr__")))
    (na_Store_kept : PySem.W.findIn K (.ref C_Store) "kept" = some none)
    (mk_Store : PySem.W.makesIn K C_Store = true)
    (if_Store : PySem.W.isFn K (.ref f_Store___init__) = true)
    (kc_Store : PySem.W.keepIn K (.ref C_Store) = true)
    (if_Library_row : PySem.W.isFn K (.ref f_Library_row) = true)
    (if_Library___eq__ : PySem.W.isFn K (.ref f_Library___eq__) = true)
    (if_Store___getitem__ : PySem.W.isFn K (.ref f_Store___getitem__) = true)
    (fi_Store___getitem__ : PySem.W.fnIn K f_Store___getitem__ = true)
    (if_Store___iter__ : PySem.W.isFn K (.ref f_Store___iter__) = true)
    (if_Store___contains__ : PySem.W.isFn K (.ref f_Store___contains__) = true)
    (if_Store___len__ : PySem.W.isFn K (.ref f_Store___len__) = true)
    (le_e0 : K.lookup e0 = some ⟨.type "tuple", do_e0, .seq #[] n_e0, so_e0⟩)
    (le_e1 : K.lookup e1 = some ⟨.type "tuple", do_e1, .seq #[] n_e1, so_e1⟩)
    (le_e2 : K.lookup e2 = some ⟨.type "tuple", do_e2, .seq #[] n_e2, so_e2⟩)
    (le_e3 : K.lookup e3 = some ⟨.type "tuple", do_e3, .seq #[] n_e3, so_e3⟩)
    (ty1_Library : PySem.W.findIn K (.ref C_Library) "__class__" = some (some (.builtin "object.__class__")))
    (ty2 : PySem.W.specialIn K (.builtin "object.__class__") "__get__" = some (some (.builtin "getset_descriptor.__get__")))
    (ty3 : PySem.W.takesIn K (.builtin "object.__class__") = some true)
    (ty4_Library : PySem.W.mroIn K C_Library (.type "object") = some true)
    (ty1_Store : PySem.W.findIn K (.ref C_Store) "__class__" = some (some (.builtin "object.__class__")))
    (ty4_Store : PySem.W.mroIn K C_Store (.type "object") = some true)
    : ∃ fd : FuncData, (∀ (s : Shared) (v : Value), BindsTo s fd ⟨[v], []⟩ [("_law_script", v)]) ∧ ∀ base : Heap, K.In base → base.Ns mainGlobals mg → FnOk l.prog w K mg base CX0 9 fa fd ["_law_script"] (spLaw K) := by
  have e : fa = f_law := by
    have e := hfa.symm.trans (PySem.W.mg_of X G g0_law)
    cases e
    rfl
  rw [e]
  have cl_Library : Cls K C_Library := ⟨pg_Library, hd_Library, po_Library, sa_Library⟩
  have cl_Store : Cls K C_Store := ⟨pg_Store, hd_Store, po_Store, sa_Store⟩
  have FF_NoLibrary___init__ : Fun K "__init__" "NoLibrary.__init__" s_NoLibrary___init__ f_NoLibrary___init__ (PySem.W.fnOf "__init__" "NoLibrary.__init__" (defArgs s_NoLibrary___init__) (defBody s_NoLibrary___init__) (defScope s_NoLibrary___init__) .none kV_NoLibrary___init__ dc_NoLibrary___init__ pm_NoLibrary___init__ an_NoLibrary___init__ cd_NoLibrary___init__ ct_NoLibrary___init__) := fun_mk (st := s_NoLibrary___init__) l_NoLibrary___init__ cd1_NoLibrary___init__ kp_NoLibrary___init__
  have FF_NoStore___init__ : Fun K "__init__" "NoStore.__init__" s_NoStore___init__ f_NoStore___init__ (PySem.W.fnOf "__init__" "NoStore.__init__" (defArgs s_NoStore___init__) (defBody s_NoStore___init__) (defScope s_NoStore___init__) .none kV_NoStore___init__ dc_NoStore___init__ pm_NoStore___init__ an_NoStore___init__ cd_NoStore___init__ ct_NoStore___init__) := fun_mk (st := s_NoStore___init__) l_NoStore___init__ cd1_NoStore___init__ kp_NoStore___init__
  have FF_NoName___init__ : Fun K "__init__" "NoName.__init__" s_NoName___init__ f_NoName___init__ (PySem.W.fnOf "__init__" "NoName.__init__" (defArgs s_NoName___init__) (defBody s_NoName___init__) (defScope s_NoName___init__) .none kV_NoName___init__ dc_NoName___init__ pm_NoName___init__ an_NoName___init__ cd_NoName___init__ ct_NoName___init__) := fun_mk (st := s_NoName___init__) l_NoName___init__ cd1_NoName___init__ kp_NoName___init__
  have FF_Missing___init__ : Fun K "__init__" "Missing.__init__" s_Missing___init__ f_Missing___init__ (PySem.W.fnOf "__init__" "Missing.__init__" (defArgs s_Missing___init__) (defBody s_Missing___init__) (defScope s_Missing___init__) .none kV_Missing___init__ dc_Missing___init__ pm_Missing___init__ an_Missing___init__ cd_Missing___init__ ct_Missing___init__) := fun_mk (st := s_Missing___init__) l_Missing___init__ cd1_Missing___init__ kp_Missing___init__
  have FF_NoSymbol___init__ : Fun K "__init__" "NoSymbol.__init__" s_NoSymbol___init__ f_NoSymbol___init__ (PySem.W.fnOf "__init__" "NoSymbol.__init__" (defArgs s_NoSymbol___init__) (defBody s_NoSymbol___init__) (defScope s_NoSymbol___init__) .none kV_NoSymbol___init__ dc_NoSymbol___init__ pm_NoSymbol___init__ an_NoSymbol___init__ cd_NoSymbol___init__ ct_NoSymbol___init__) := fun_mk (st := s_NoSymbol___init__) l_NoSymbol___init__ cd1_NoSymbol___init__ kp_NoSymbol___init__
  have FF_NoWishes___init__ : Fun K "__init__" "NoWishes.__init__" s_NoWishes___init__ f_NoWishes___init__ (PySem.W.fnOf "__init__" "NoWishes.__init__" (defArgs s_NoWishes___init__) (defBody s_NoWishes___init__) (defScope s_NoWishes___init__) .none kV_NoWishes___init__ dc_NoWishes___init__ pm_NoWishes___init__ an_NoWishes___init__ cd_NoWishes___init__ ct_NoWishes___init__) := fun_mk (st := s_NoWishes___init__) l_NoWishes___init__ cd1_NoWishes___init__ kp_NoWishes___init__
  have FF_is_word : Fun K "is_word" "is_word" s_is_word f_is_word (PySem.W.fnOf "is_word" "is_word" (defArgs s_is_word) (defBody s_is_word) (defScope s_is_word) .none kV_is_word dc_is_word pm_is_word an_is_word cd_is_word ct_is_word) := fun_mk (st := s_is_word) l_is_word cd1_is_word kp_is_word
  have FF_are_words : Fun K "are_words" "are_words" s_are_words f_are_words (PySem.W.fnOf "are_words" "are_words" (defArgs s_are_words) (defBody s_are_words) (defScope s_are_words) .none kV_are_words dc_are_words pm_are_words an_are_words cd_are_words ct_are_words) := fun_mk (st := s_are_words) l_are_words cd1_are_words kp_are_words
  have FF_check_symbol : Fun K "check_symbol" "check_symbol" s_check_symbol f_check_symbol (PySem.W.fnOf "check_symbol" "check_symbol" (defArgs s_check_symbol) (defBody s_check_symbol) (defScope s_check_symbol) .none kV_check_symbol dc_check_symbol pm_check_symbol an_check_symbol cd_check_symbol ct_check_symbol) := fun_mk (st := s_check_symbol) l_check_symbol cd1_check_symbol kp_check_symbol
  have FF_closure : Fun K "closure" "closure" s_closure f_closure (PySem.W.fnOf "closure" "closure" (defArgs s_closure) (defBody s_closure) (defScope s_closure) .none kV_closure dc_closure pm_closure an_closure cd_closure ct_closure) := fun_mk (st := s_closure) l_closure cd1_closure kp_closure
  have FF_grown : Fun K "grown" "grown" s_grown f_grown (PySem.W.fnOf "grown" "grown" (defArgs s_grown) (defBody s_grown) (defScope s_grown) .none kV_grown dc_grown pm_grown an_grown cd_grown ct_grown) := fun_mk (st := s_grown) l_grown cd1_grown kp_grown
  have FF_definers : Fun K "definers" "definers" s_definers f_definers (PySem.W.fnOf "definers" "definers" (defArgs s_definers) (defBody s_definers) (defScope s_definers) .none kV_definers dc_definers pm_definers an_definers cd_definers ct_definers) := fun_mk (st := s_definers) l_definers cd1_definers kp_definers
  have FF_Library___init__ : FunD K "__init__" "Library.__init__" (defArgs s_Library___init__) (defBody s_Library___init__) (defScope s_Library___init__) [] (kwL (⟨C_LoadError, C_NoLibrary, C_NoStore, C_NoName, C_Missing, C_NoSymbol, C_NoWishes, C_Library, C_Store, f_NoLibrary___init__, (PySem.W.fnOf "__init__" "NoLibrary.__init__" (defArgs s_NoLibrary___init__) (defBody s_NoLibrary___init__) (defScope s_NoLibrary___init__) .none kV_NoLibrary___init__ dc_NoLibrary___init__ pm_NoLibrary___init__ an_NoLibrary___init__ cd_NoLibrary___init__ ct_NoLibrary___init__), f_NoStore___init__, (PySem.W.fnOf "__init__" "NoStore.__init__" (defArgs s_NoStore___init__) (defBody s_NoStore___init__) (defScope s_NoStore___init__) .none kV_NoStore___init__ dc_NoStore___init__ pm_NoStore___init__ an_NoStore___init__ cd_NoStore___init__ ct_NoStore___init__), f_NoName___init__, (PySem.W.fnOf "__init__" "NoName.__init__" (defArgs s_NoName___init__) (defBody s_NoName___init__) (defScope s_NoName___init__) .none kV_NoName___init__ dc_NoName___init__ pm_NoName___init__ an_NoName___init__ cd_NoName___init__ ct_NoName___init__), f_Missing___init__, (PySem.W.fnOf "__init__" "Missing.__init__" (defArgs s_Missing___init__) (defBody s_Missing___init__) (defScope s_Missing___init__) .none kV_Missing___init__ dc_Missing___init__ pm_Missing___init__ an_Missing___init__ cd_Missing___init__ ct_Missing___init__), f_NoSymbol___init__, (PySem.W.fnOf "__init__" "NoSymbol.__init__" (defArgs s_NoSymbol___init__) (defBody s_NoSymbol___init__) (defScope s_NoSymbol___init__) .none kV_NoSymbol___init__ dc_NoSymbol___init__ pm_NoSymbol___init__ an_NoSymbol___init__ cd_NoSymbol___init__ ct_NoSymbol___init__), f_NoWishes___init__, (PySem.W.fnOf "__init__" "NoWishes.__init__" (defArgs s_NoWishes___init__) (defBody s_NoWishes___init__) (defScope s_NoWishes___init__) .none kV_NoWishes___init__ dc_NoWishes___init__ pm_NoWishes___init__ an_NoWishes___init__ cd_NoWishes___init__ ct_NoWishes___init__), f_is_word, (PySem.W.fnOf "is_word" "is_word" (defArgs s_is_word) (defBody s_is_word) (defScope s_is_word) .none kV_is_word dc_is_word pm_is_word an_is_word cd_is_word ct_is_word), f_are_words, (PySem.W.fnOf "are_words" "are_words" (defArgs s_are_words) (defBody s_are_words) (defScope s_are_words) .none kV_are_words dc_are_words pm_are_words an_are_words cd_are_words ct_are_words), f_check_symbol, (PySem.W.fnOf "check_symbol" "check_symbol" (defArgs s_check_symbol) (defBody s_check_symbol) (defScope s_check_symbol) .none kV_check_symbol dc_check_symbol pm_check_symbol an_check_symbol cd_check_symbol ct_check_symbol), f_closure, (PySem.W.fnOf "closure" "closure" (defArgs s_closure) (defBody s_closure) (defScope s_closure) .none kV_closure dc_closure pm_closure an_closure cd_closure ct_closure), f_grown, (PySem.W.fnOf "grown" "grown" (defArgs s_grown) (defBody s_grown) (defScope s_grown) .none kV_grown dc_grown pm_grown an_grown cd_grown ct_grown), f_definers, (PySem.W.fnOf "definers" "definers" (defArgs s_definers) (defBody s_definers) (defScope s_definers) .none kV_definers dc_definers pm_definers an_definers cd_definers ct_definers), f_Library___init__, (PySem.W.fnOf "__init__" "Library.__init__" (defArgs s_Library___init__) (defBody s_Library___init__) (defScope s_Library___init__) .none (.ref D_Library___init__) dc_Library___init__ pm_Library___init__ an_Library___init__ cd_Library___init__ ct_Library___init__), f_Library_row, (PySem.W.fnOf "row" "Library.row" (defArgs s_Library_row) (defBody s_Library_row) (defScope s_Library_row) .none kV_Library_row dc_Library_row pm_Library_row an_Library_row cd_Library_row ct_Library_row), f_Library___eq__, (PySem.W.fnOf "__eq__" "Library.__eq__" (defArgs s_Library___eq__) (defBody s_Library___eq__) (defScope s_Library___eq__) .none kV_Library___eq__ dc_Library___eq__ pm_Library___eq__ an_Library___eq__ cd_Library___eq__ ct_Library___eq__), f_Store___init__, (PySem.W.fnOf "__init__" "Store.__init__" (defArgs s_Store___init__) (defBody s_Store___init__) (defScope s_Store___init__) .none kV_Store___init__ dc_Store___init__ pm_Store___init__ an_Store___init__ cd_Store___init__ ct_Store___init__), f_Store___getitem__, (PySem.W.fnOf "__getitem__" "Store.__getitem__" (defArgs s_Store___getitem__) (defBody s_Store___getitem__) (defScope s_Store___getitem__) .none kV_Store___getitem__ dc_Store___getitem__ pm_Store___getitem__ an_Store___getitem__ cd_Store___getitem__ ct_Store___getitem__), f_Store___iter__, (PySem.W.fnOf "__iter__" "Store.__iter__" (defArgs s_Store___iter__) (defBody s_Store___iter__) (defScope s_Store___iter__) .none kV_Store___iter__ dc_Store___iter__ pm_Store___iter__ an_Store___iter__ cd_Store___iter__ ct_Store___iter__), f_Store___contains__, (PySem.W.fnOf "__contains__" "Store.__contains__" (defArgs s_Store___contains__) (defBody s_Store___contains__) (defScope s_Store___contains__) .none kV_Store___contains__ dc_Store___contains__ pm_Store___contains__ an_Store___contains__ cd_Store___contains__ ct_Store___contains__), f_Store___len__, (PySem.W.fnOf "__len__" "Store.__len__" (defArgs s_Store___len__) (defBody s_Store___len__) (defScope s_Store___len__) .none kV_Store___len__ dc_Store___len__ pm_Store___len__ an_Store___len__ cd_Store___len__ ct_Store___len__), f_first_definer, (PySem.W.fnOf "first_definer" "first_definer" (defArgs s_first_definer) (defBody s_first_definer) (defScope s_first_definer) .none kV_first_definer dc_first_definer pm_first_definer an_first_definer cd_first_definer ct_first_definer), f_check_wishes, (PySem.W.fnOf "check_wishes" "check_wishes" (defArgs s_check_wishes) (defBody s_check_wishes) (defScope s_check_wishes) .none kV_check_wishes dc_check_wishes pm_check_wishes an_check_wishes cd_check_wishes ct_check_wishes), f_ahead_of, (PySem.W.fnOf "ahead_of" "ahead_of" (defArgs s_ahead_of) (defBody s_ahead_of) (defScope s_ahead_of) .none kV_ahead_of dc_ahead_of pm_ahead_of an_ahead_of cd_ahead_of ct_ahead_of), f_required, (PySem.W.fnOf "required" "required" (defArgs s_required) (defBody s_required) (defScope s_required) .none kV_required dc_required pm_required an_required cd_required ct_required), f_ring_among, (PySem.W.fnOf "ring_among" "ring_among" (defArgs s_ring_among) (defBody s_ring_among) (defScope s_ring_among) .none kV_ring_among dc_ring_among pm_ring_among an_ring_among cd_ring_among ct_ring_among), f_ordered, (PySem.W.fnOf "ordered" "ordered" (defArgs s_ordered) (defBody s_ordered) (defScope s_ordered) .none kV_ordered dc_ordered pm_ordered an_ordered cd_ordered ct_ordered), f_least_preloads, (PySem.W.fnOf "least_preloads" "least_preloads" (defArgs s_least_preloads) (defBody s_least_preloads) (defScope s_least_preloads) .none kV_least_preloads dc_least_preloads pm_least_preloads an_least_preloads cd_least_preloads ct_least_preloads), f__law_cell_at, (PySem.W.fnOf "_law_cell_at" "_law_cell_at" (defArgs s__law_cell_at) (defBody s__law_cell_at) (defScope s__law_cell_at) .none kV__law_cell_at dc__law_cell_at pm__law_cell_at an__law_cell_at cd__law_cell_at ct__law_cell_at), f__law_begin, (PySem.W.fnOf "_law_begin" "_law_begin" (defArgs s__law_begin) (defBody s__law_begin) (defScope s__law_begin) .none kV__law_begin dc__law_begin pm__law_begin an__law_begin cd__law_begin ct__law_begin), f__law_draw, (PySem.W.fnOf "_law_draw" "_law_draw" (defArgs s__law_draw) (defBody s__law_draw) (defScope s__law_draw) .none kV__law_draw dc__law_draw pm__law_draw an__law_draw cd__law_draw ct__law_draw), f__law_pick, (PySem.W.fnOf "_law_pick" "_law_pick" (defArgs s__law_pick) (defBody s__law_pick) (defScope s__law_pick) .none kV__law_pick dc__law_pick pm__law_pick an__law_pick cd__law_pick ct__law_pick), f__law_part, (PySem.W.fnOf "_law_part" "_law_part" (defArgs s__law_part) (defBody s__law_part) (defScope s__law_part) .none kV__law_part dc__law_part pm__law_part an__law_part cd__law_part ct__law_part), f__law_spelled, (PySem.W.fnOf "_law_spelled" "_law_spelled" (defArgs s__law_spelled) (defBody s__law_spelled) (defScope s__law_spelled) .none kV__law_spelled dc__law_spelled pm__law_spelled an__law_spelled cd__law_spelled ct__law_spelled), f__law_library, (PySem.W.fnOf "_law_library" "_law_library" (defArgs s__law_library) (defBody s__law_library) (defScope s__law_library) .none kV__law_library dc__law_library pm__law_library an__law_library cd__law_library ct__law_library), f__law_libraries, (PySem.W.fnOf "_law_libraries" "_law_libraries" (defArgs s__law_libraries) (defBody s__law_libraries) (defScope s__law_libraries) .none kV__law_libraries dc__law_libraries pm__law_libraries an__law_libraries cd__law_libraries ct__law_libraries), f__law_stored, (PySem.W.fnOf "_law_stored" "_law_stored" (defArgs s__law_stored) (defBody s__law_stored) (defScope s__law_stored) .none kV__law_stored dc__law_stored pm__law_stored an__law_stored cd__law_stored ct__law_stored), f__law_closed, (PySem.W.fnOf "_law_closed" "_law_closed" (defArgs s__law_closed) (defBody s__law_closed) (defScope s__law_closed) .none kV__law_closed dc__law_closed pm__law_closed an__law_closed cd__law_closed ct__law_closed), f__law_complete, (PySem.W.fnOf "_law_complete" "_law_complete" (defArgs s__law_complete) (defBody s__law_complete) (defScope s__law_complete) .none kV__law_complete dc__law_complete pm__law_complete an__law_complete cd__law_complete ct__law_complete), f__law_definer, (PySem.W.fnOf "_law_definer" "_law_definer" (defArgs s__law_definer) (defBody s__law_definer) (defScope s__law_definer) .none kV__law_definer dc__law_definer pm__law_definer an__law_definer cd__law_definer ct__law_definer), f__law_wishes, (PySem.W.fnOf "_law_wishes" "_law_wishes" (defArgs s__law_wishes) (defBody s__law_wishes) (defScope s__law_wishes) .none kV__law_wishes dc__law_wishes pm__law_wishes an__law_wishes cd__law_wishes ct__law_wishes), f__law_global, (PySem.W.fnOf "_law_global" "_law_global" (defArgs s__law_global) (defBody s__law_global) (defScope s__law_global) .none kV__law_global dc__law_global pm__law_global an__law_global cd__law_global ct__law_global), f__law_met, (PySem.W.fnOf "_law_met" "_law_met" (defArgs s__law_met) (defBody s__law_met) (defScope s__law_met) .none kV__law_met dc__law_met pm__law_met an__law_met cd__law_met ct__law_met), f__law_ahead, (PySem.W.fnOf "_law_ahead" "_law_ahead" (defArgs s__law_ahead) (defBody s__law_ahead) (defScope s__law_ahead) .none kV__law_ahead dc__law_ahead pm__law_ahead an__law_ahead cd__law_ahead ct__law_ahead), f__law_required, (PySem.W.fnOf "_law_required" "_law_required" (defArgs s__law_required) (defBody s__law_required) (defScope s__law_required) .none kV__law_required dc__law_required pm__law_required an__law_required cd__law_required ct__law_required), f__law_hoped, (PySem.W.fnOf "_law_hoped" "_law_hoped" (defArgs s__law_hoped) (defBody s__law_hoped) (defScope s__law_hoped) .none kV__law_hoped dc__law_hoped pm__law_hoped an__law_hoped cd__law_hoped ct__law_hoped), f_law, (PySem.W.fnOf "law" "law" (defArgs s_law) (defBody s_law) (defScope s_law) .none kV_law dc_law pm_law an_law cd_law ct_law), e0, e1, e2, e3⟩ : Adr)) f_Library___init__ (PySem.W.fnOf "__init__" "Library.__init__" (defArgs s_Library___init__) (defBody s_Library___init__) (defScope s_Library___init__) .none (.ref D_Library___init__) dc_Library___init__ pm_Library___init__ an_Library___init__ cd_Library___init__ ct_Library___init__) := by
    refine ⟨⟨_, _, _, _, _, _, _, _, _, _, rfl, l_Library___init__, cd1_Library___init__, .inl ⟨rfl, rfl⟩, .inr ⟨_, rfl, fun qq hq => ?_⟩⟩, kp_Library___init__⟩
    simp only [kwL, List.mem_cons, List.not_mem_nil, or_false] at hq
    rcases hq with rfl | rfl | rfl | rfl | rfl | rfl
    · exact ⟨_, kw_Library___init___0, rfl⟩
    · exact ⟨_, kw_Library___init___1, rfl⟩
    · exact ⟨_, kw_Library___init___2, rfl⟩
    · exact ⟨_, kw_Library___init___3, rfl⟩
    · exact ⟨_, kw_Library___init___4, rfl⟩
    · exact ⟨_, kw_Library___init___5, rfl⟩
  have FF_Library_row : Fun K "row" "Library.row" s_Library_row f_Library_row (PySem.W.fnOf "row" "Library.row" (defArgs s_Library_row) (defBody s_Library_row) (defScope s_Library_row) .none kV_Library_row dc_Library_row pm_Library_row an_Library_row cd_Library_row ct_Library_row) := fun_mk (st := s_Library_row) l_Library_row cd1_Library_row kp_Library_row
  have FF_Library___eq__ : Fun K "__eq__" "Library.__eq__" s_Library___eq__ f_Library___eq__ (PySem.W.fnOf "__eq__" "Library.__eq__" (defArgs s_Library___eq__) (defBody s_Library___eq__) (defScope s_Library___eq__) .none kV_Library___eq__ dc_Library___eq__ pm_Library___eq__ an_Library___eq__ cd_Library___eq__ ct_Library___eq__) := fun_mk (st := s_Library___eq__) l_Library___eq__ cd1_Library___eq__ kp_Library___eq__
  have FF_Store___init__ : Fun K "__init__" "Store.__init__" s_Store___init__ f_Store___init__ (PySem.W.fnOf "__init__" "Store.__init__" (defArgs s_Store___init__) (defBody s_Store___init__) (defScope s_Store___init__) .none kV_Store___init__ dc_Store___init__ pm_Store___init__ an_Store___init__ cd_Store___init__ ct_Store___init__) := fun_mk (st := s_Store___init__) l_Store___init__ cd1_Store___init__ kp_Store___init__
  have FF_Store___getitem__ : Fun K "__getitem__" "Store.__getitem__" s_Store___getitem__ f_Store___getitem__ (PySem.W.fnOf "__getitem__" "Store.__getitem__" (defArgs s_Store___getitem__) (defBody s_Store___getitem__) (defScope s_Store___getitem__) .none kV_Store___getitem__ dc_Store___getitem__ pm_Store___getitem__ an_Store___getitem__ cd_Store___getitem__ ct_Store___getitem__) := fun_mk (st := s_Store___getitem__) l_Store___getitem__ cd1_Store___getitem__ kp_Store___getitem__
  have FF_Store___iter__ : Fun K "__iter__" "Store.__iter__" s_Store___iter__ f_Store___iter__ (PySem.W.fnOf "__iter__" "Store.__iter__" (defArgs s_Store___iter__) (defBody s_Store___iter__) (defScope s_Store___iter__) .none kV_Store___iter__ dc_Store___iter__ pm_Store___iter__ an_Store___iter__ cd_Store___iter__ ct_Store___iter__) := fun_mk (st := s_Store___iter__) l_Store___iter__ cd1_Store___iter__ kp_Store___iter__
  have FF_Store___contains__ : Fun K "__contains__" "Store.__contains__" s_Store___contains__ f_Store___contains__ (PySem.W.fnOf "__contains__" "Store.__contains__" (defArgs s_Store___contains__) (defBody s_Store___contains__) (defScope s_Store___contains__) .none kV_Store___contains__ dc_Store___contains__ pm_Store___contains__ an_Store___contains__ cd_Store___contains__ ct_Store___contains__) := fun_mk (st := s_Store___contains__) l_Store___contains__ cd1_Store___contains__ kp_Store___contains__
  have FF_Store___len__ : Fun K "__len__" "Store.__len__" s_Store___len__ f_Store___len__ (PySem.W.fnOf "__len__" "Store.__len__" (defArgs s_Store___len__) (defBody s_Store___len__) (defScope s_Store___len__) .none kV_Store___len__ dc_Store___len__ pm_Store___len__ an_Store___len__ cd_Store___len__ ct_Store___len__) := fun_mk (st := s_Store___len__) l_Store___len__ cd1_Store___len__ kp_Store___len__
  have FF_first_definer : Fun K "first_definer" "first_definer" s_first_definer f_first_definer (PySem.W.fnOf "first_definer" "first_definer" (defArgs s_first_definer) (defBody s_first_definer) (defScope s_first_definer) .none kV_first_definer dc_first_definer pm_first_definer an_first_definer cd_first_definer ct_first_definer) := fun_mk (st := s_first_definer) l_first_definer cd1_first_definer kp_first_definer
  have FF_check_wishes : Fun K "check_wishes" "check_wishes" s_check_wishes f_check_wishes (PySem.W.fnOf "check_wishes" "check_wishes" (defArgs s_check_wishes) (defBody s_check_wishes) (defScope s_check_wishes) .none kV_check_wishes dc_check_wishes pm_check_wishes an_check_wishes cd_check_wishes ct_check_wishes) := fun_mk (st := s_check_wishes) l_check_wishes cd1_check_wishes kp_check_wishes
  have FF_ahead_of : Fun K "ahead_of" "ahead_of" s_ahead_of f_ahead_of (PySem.W.fnOf "ahead_of" "ahead_of" (defArgs s_ahead_of) (defBody s_ahead_of) (defScope s_ahead_of) .none kV_ahead_of dc_ahead_of pm_ahead_of an_ahead_of cd_ahead_of ct_ahead_of) := fun_mk (st := s_ahead_of) l_ahead_of cd1_ahead_of kp_ahead_of
  have FF_required : Fun K "required" "required" s_required f_required (PySem.W.fnOf "required" "required" (defArgs s_required) (defBody s_required) (defScope s_required) .none kV_required dc_required pm_required an_required cd_required ct_required) := fun_mk (st := s_required) l_required cd1_required kp_required
  have FF_ring_among : Fun K "ring_among" "ring_among" s_ring_among f_ring_among (PySem.W.fnOf "ring_among" "ring_among" (defArgs s_ring_among) (defBody s_ring_among) (defScope s_ring_among) .none kV_ring_among dc_ring_among pm_ring_among an_ring_among cd_ring_among ct_ring_among) := fun_mk (st := s_ring_among) l_ring_among cd1_ring_among kp_ring_among
  have FF_ordered : Fun K "ordered" "ordered" s_ordered f_ordered (PySem.W.fnOf "ordered" "ordered" (defArgs s_ordered) (defBody s_ordered) (defScope s_ordered) .none kV_ordered dc_ordered pm_ordered an_ordered cd_ordered ct_ordered) := fun_mk (st := s_ordered) l_ordered cd1_ordered kp_ordered
  have FF_least_preloads : Fun K "least_preloads" "least_preloads" s_least_preloads f_least_preloads (PySem.W.fnOf "least_preloads" "least_preloads" (defArgs s_least_preloads) (defBody s_least_preloads) (defScope s_least_preloads) .none kV_least_preloads dc_least_preloads pm_least_preloads an_least_preloads cd_least_preloads ct_least_preloads) := fun_mk (st := s_least_preloads) l_least_preloads cd1_least_preloads kp_least_preloads
  have FF__law_cell_at : Fun K "_law_cell_at" "_law_cell_at" s__law_cell_at f__law_cell_at (PySem.W.fnOf "_law_cell_at" "_law_cell_at" (defArgs s__law_cell_at) (defBody s__law_cell_at) (defScope s__law_cell_at) .none kV__law_cell_at dc__law_cell_at pm__law_cell_at an__law_cell_at cd__law_cell_at ct__law_cell_at) := fun_mk (st := s__law_cell_at) l__law_cell_at cd1__law_cell_at kp__law_cell_at
  have FF__law_begin : Fun K "_law_begin" "_law_begin" s__law_begin f__law_begin (PySem.W.fnOf "_law_begin" "_law_begin" (defArgs s__law_begin) (defBody s__law_begin) (defScope s__law_begin) .none kV__law_begin dc__law_begin pm__law_begin an__law_begin cd__law_begin ct__law_begin) := fun_mk (st := s__law_begin) l__law_begin cd1__law_begin kp__law_begin
  have FF__law_draw : Fun K "_law_draw" "_law_draw" s__law_draw f__law_draw (PySem.W.fnOf "_law_draw" "_law_draw" (defArgs s__law_draw) (defBody s__law_draw) (defScope s__law_draw) .none kV__law_draw dc__law_draw pm__law_draw an__law_draw cd__law_draw ct__law_draw) := fun_mk (st := s__law_draw) l__law_draw cd1__law_draw kp__law_draw
  have FF__law_pick : Fun K "_law_pick" "_law_pick" s__law_pick f__law_pick (PySem.W.fnOf "_law_pick" "_law_pick" (defArgs s__law_pick) (defBody s__law_pick) (defScope s__law_pick) .none kV__law_pick dc__law_pick pm__law_pick an__law_pick cd__law_pick ct__law_pick) := fun_mk (st := s__law_pick) l__law_pick cd1__law_pick kp__law_pick
  have FF__law_part : Fun K "_law_part" "_law_part" s__law_part f__law_part (PySem.W.fnOf "_law_part" "_law_part" (defArgs s__law_part) (defBody s__law_part) (defScope s__law_part) .none kV__law_part dc__law_part pm__law_part an__law_part cd__law_part ct__law_part) := fun_mk (st := s__law_part) l__law_part cd1__law_part kp__law_part
  have FF__law_spelled : Fun K "_law_spelled" "_law_spelled" s__law_spelled f__law_spelled (PySem.W.fnOf "_law_spelled" "_law_spelled" (defArgs s__law_spelled) (defBody s__law_spelled) (defScope s__law_spelled) .none kV__law_spelled dc__law_spelled pm__law_spelled an__law_spelled cd__law_spelled ct__law_spelled) := fun_mk (st := s__law_spelled) l__law_spelled cd1__law_spelled kp__law_spelled
  have FF__law_library : Fun K "_law_library" "_law_library" s__law_library f__law_library (PySem.W.fnOf "_law_library" "_law_library" (defArgs s__law_library) (defBody s__law_library) (defScope s__law_library) .none kV__law_library dc__law_library pm__law_library an__law_library cd__law_library ct__law_library) := fun_mk (st := s__law_library) l__law_library cd1__law_library kp__law_library
  have FF__law_libraries : Fun K "_law_libraries" "_law_libraries" s__law_libraries f__law_libraries (PySem.W.fnOf "_law_libraries" "_law_libraries" (defArgs s__law_libraries) (defBody s__law_libraries) (defScope s__law_libraries) .none kV__law_libraries dc__law_libraries pm__law_libraries an__law_libraries cd__law_libraries ct__law_libraries) := fun_mk (st := s__law_libraries) l__law_libraries cd1__law_libraries kp__law_libraries
  have FF__law_stored : Fun K "_law_stored" "_law_stored" s__law_stored f__law_stored (PySem.W.fnOf "_law_stored" "_law_stored" (defArgs s__law_stored) (defBody s__law_stored) (defScope s__law_stored) .none kV__law_stored dc__law_stored pm__law_stored an__law_stored cd__law_stored ct__law_stored) := fun_mk (st := s__law_stored) l__law_stored cd1__law_stored kp__law_stored
  have FF__law_closed : Fun K "_law_closed" "_law_closed" s__law_closed f__law_closed (PySem.W.fnOf "_law_closed" "_law_closed" (defArgs s__law_closed) (defBody s__law_closed) (defScope s__law_closed) .none kV__law_closed dc__law_closed pm__law_closed an__law_closed cd__law_closed ct__law_closed) := fun_mk (st := s__law_closed) l__law_closed cd1__law_closed kp__law_closed
  have FF__law_complete : Fun K "_law_complete" "_law_complete" s__law_complete f__law_complete (PySem.W.fnOf "_law_complete" "_law_complete" (defArgs s__law_complete) (defBody s__law_complete) (defScope s__law_complete) .none kV__law_complete dc__law_complete pm__law_complete an__law_complete cd__law_complete ct__law_complete) := fun_mk (st := s__law_complete) l__law_complete cd1__law_complete kp__law_complete
  have FF__law_definer : Fun K "_law_definer" "_law_definer" s__law_definer f__law_definer (PySem.W.fnOf "_law_definer" "_law_definer" (defArgs s__law_definer) (defBody s__law_definer) (defScope s__law_definer) .none kV__law_definer dc__law_definer pm__law_definer an__law_definer cd__law_definer ct__law_definer) := fun_mk (st := s__law_definer) l__law_definer cd1__law_definer kp__law_definer
  have FF__law_wishes : Fun K "_law_wishes" "_law_wishes" s__law_wishes f__law_wishes (PySem.W.fnOf "_law_wishes" "_law_wishes" (defArgs s__law_wishes) (defBody s__law_wishes) (defScope s__law_wishes) .none kV__law_wishes dc__law_wishes pm__law_wishes an__law_wishes cd__law_wishes ct__law_wishes) := fun_mk (st := s__law_wishes) l__law_wishes cd1__law_wishes kp__law_wishes
  have FF__law_global : Fun K "_law_global" "_law_global" s__law_global f__law_global (PySem.W.fnOf "_law_global" "_law_global" (defArgs s__law_global) (defBody s__law_global) (defScope s__law_global) .none kV__law_global dc__law_global pm__law_global an__law_global cd__law_global ct__law_global) := fun_mk (st := s__law_global) l__law_global cd1__law_global kp__law_global
  have FF__law_met : Fun K "_law_met" "_law_met" s__law_met f__law_met (PySem.W.fnOf "_law_met" "_law_met" (defArgs s__law_met) (defBody s__law_met) (defScope s__law_met) .none kV__law_met dc__law_met pm__law_met an__law_met cd__law_met ct__law_met) := fun_mk (st := s__law_met) l__law_met cd1__law_met kp__law_met
  have FF__law_ahead : Fun K "_law_ahead" "_law_ahead" s__law_ahead f__law_ahead (PySem.W.fnOf "_law_ahead" "_law_ahead" (defArgs s__law_ahead) (defBody s__law_ahead) (defScope s__law_ahead) .none kV__law_ahead dc__law_ahead pm__law_ahead an__law_ahead cd__law_ahead ct__law_ahead) := fun_mk (st := s__law_ahead) l__law_ahead cd1__law_ahead kp__law_ahead
  have FF__law_required : Fun K "_law_required" "_law_required" s__law_required f__law_required (PySem.W.fnOf "_law_required" "_law_required" (defArgs s__law_required) (defBody s__law_required) (defScope s__law_required) .none kV__law_required dc__law_required pm__law_required an__law_required cd__law_required ct__law_required) := fun_mk (st := s__law_required) l__law_required cd1__law_required kp__law_required
  have FF__law_hoped : Fun K "_law_hoped" "_law_hoped" s__law_hoped f__law_hoped (PySem.W.fnOf "_law_hoped" "_law_hoped" (defArgs s__law_hoped) (defBody s__law_hoped) (defScope s__law_hoped) .none kV__law_hoped dc__law_hoped pm__law_hoped an__law_hoped cd__law_hoped ct__law_hoped) := fun_mk (st := s__law_hoped) l__law_hoped cd1__law_hoped kp__law_hoped
  have FF_law : Fun K "law" "law" s_law f_law (PySem.W.fnOf "law" "law" (defArgs s_law) (defBody s_law) (defScope s_law) .none kV_law dc_law pm_law an_law cd_law ct_law) := fun_mk (st := s_law) l_law cd1_law kp_law
  let AA : Adr := ⟨C_LoadError, C_NoLibrary, C_NoStore, C_NoName, C_Missing, C_NoSymbol, C_NoWishes, C_Library, C_Store, f_NoLibrary___init__, (PySem.W.fnOf "__init__" "NoLibrary.__init__" (defArgs s_NoLibrary___init__) (defBody s_NoLibrary___init__) (defScope s_NoLibrary___init__) .none kV_NoLibrary___init__ dc_NoLibrary___init__ pm_NoLibrary___init__ an_NoLibrary___init__ cd_NoLibrary___init__ ct_NoLibrary___init__), f_NoStore___init__, (PySem.W.fnOf "__init__" "NoStore.__init__" (defArgs s_NoStore___init__) (defBody s_NoStore___init__) (defScope s_NoStore___init__) .none kV_NoStore___init__ dc_NoStore___init__ pm_NoStore___init__ an_NoStore___init__ cd_NoStore___init__ ct_NoStore___init__), f_NoName___init__, (PySem.W.fnOf "__init__" "NoName.__init__" (defArgs s_NoName___init__) (defBody s_NoName___init__) (defScope s_NoName___init__) .none kV_NoName___init__ dc_NoName___init__ pm_NoName___init__ an_NoName___init__ cd_NoName___init__ ct_NoName___init__), f_Missing___init__, (PySem.W.fnOf "__init__" "Missing.__init__" (defArgs s_Missing___init__) (defBody s_Missing___init__) (defScope s_Missing___init__) .none kV_Missing___init__ dc_Missing___init__ pm_Missing___init__ an_Missing___init__ cd_Missing___init__ ct_Missing___init__), f_NoSymbol___init__, (PySem.W.fnOf "__init__" "NoSymbol.__init__" (defArgs s_NoSymbol___init__) (defBody s_NoSymbol___init__) (defScope s_NoSymbol___init__) .none kV_NoSymbol___init__ dc_NoSymbol___init__ pm_NoSymbol___init__ an_NoSymbol___init__ cd_NoSymbol___init__ ct_NoSymbol___init__), f_NoWishes___init__, (PySem.W.fnOf "__init__" "NoWishes.__init__" (defArgs s_NoWishes___init__) (defBody s_NoWishes___init__) (defScope s_NoWishes___init__) .none kV_NoWishes___init__ dc_NoWishes___init__ pm_NoWishes___init__ an_NoWishes___init__ cd_NoWishes___init__ ct_NoWishes___init__), f_is_word, (PySem.W.fnOf "is_word" "is_word" (defArgs s_is_word) (defBody s_is_word) (defScope s_is_word) .none kV_is_word dc_is_word pm_is_word an_is_word cd_is_word ct_is_word), f_are_words, (PySem.W.fnOf "are_words" "are_words" (defArgs s_are_words) (defBody s_are_words) (defScope s_are_words) .none kV_are_words dc_are_words pm_are_words an_are_words cd_are_words ct_are_words), f_check_symbol, (PySem.W.fnOf "check_symbol" "check_symbol" (defArgs s_check_symbol) (defBody s_check_symbol) (defScope s_check_symbol) .none kV_check_symbol dc_check_symbol pm_check_symbol an_check_symbol cd_check_symbol ct_check_symbol), f_closure, (PySem.W.fnOf "closure" "closure" (defArgs s_closure) (defBody s_closure) (defScope s_closure) .none kV_closure dc_closure pm_closure an_closure cd_closure ct_closure), f_grown, (PySem.W.fnOf "grown" "grown" (defArgs s_grown) (defBody s_grown) (defScope s_grown) .none kV_grown dc_grown pm_grown an_grown cd_grown ct_grown), f_definers, (PySem.W.fnOf "definers" "definers" (defArgs s_definers) (defBody s_definers) (defScope s_definers) .none kV_definers dc_definers pm_definers an_definers cd_definers ct_definers), f_Library___init__, (PySem.W.fnOf "__init__" "Library.__init__" (defArgs s_Library___init__) (defBody s_Library___init__) (defScope s_Library___init__) .none (.ref D_Library___init__) dc_Library___init__ pm_Library___init__ an_Library___init__ cd_Library___init__ ct_Library___init__), f_Library_row, (PySem.W.fnOf "row" "Library.row" (defArgs s_Library_row) (defBody s_Library_row) (defScope s_Library_row) .none kV_Library_row dc_Library_row pm_Library_row an_Library_row cd_Library_row ct_Library_row), f_Library___eq__, (PySem.W.fnOf "__eq__" "Library.__eq__" (defArgs s_Library___eq__) (defBody s_Library___eq__) (defScope s_Library___eq__) .none kV_Library___eq__ dc_Library___eq__ pm_Library___eq__ an_Library___eq__ cd_Library___eq__ ct_Library___eq__), f_Store___init__, (PySem.W.fnOf "__init__" "Store.__init__" (defArgs s_Store___init__) (defBody s_Store___init__) (defScope s_Store___init__) .none kV_Store___init__ dc_Store___init__ pm_Store___init__ an_Store___init__ cd_Store___init__ ct_Store___init__), f_Store___getitem__, (PySem.W.fnOf "__getitem__" "Store.__getitem__" (defArgs s_Store___getitem__) (defBody s_Store___getitem__) (defScope s_Store___getitem__) .none kV_Store___getitem__ dc_Store___getitem__ pm_Store___getitem__ an_Store___getitem__ cd_Store___getitem__ ct_Store___getitem__), f_Store___iter__, (PySem.W.fnOf "__iter__" "Store.__iter__" (defArgs s_Store___iter__) (defBody s_Store___iter__) (defScope s_Store___iter__) .none kV_Store___iter__ dc_Store___iter__ pm_Store___iter__ an_Store___iter__ cd_Store___iter__ ct_Store___iter__), f_Store___contains__, (PySem.W.fnOf "__contains__" "Store.__contains__" (defArgs s_Store___contains__) (defBody s_Store___contains__) (defScope s_Store___contains__) .none kV_Store___contains__ dc_Store___contains__ pm_Store___contains__ an_Store___contains__ cd_Store___contains__ ct_Store___contains__), f_Store___len__, (PySem.W.fnOf "__len__" "Store.__len__" (defArgs s_Store___len__) (defBody s_Store___len__) (defScope s_Store___len__) .none kV_Store___len__ dc_Store___len__ pm_Store___len__ an_Store___len__ cd_Store___len__ ct_Store___len__), f_first_definer, (PySem.W.fnOf "first_definer" "first_definer" (defArgs s_first_definer) (defBody s_first_definer) (defScope s_first_definer) .none kV_first_definer dc_first_definer pm_first_definer an_first_definer cd_first_definer ct_first_definer), f_check_wishes, (PySem.W.fnOf "check_wishes" "check_wishes" (defArgs s_check_wishes) (defBody s_check_wishes) (defScope s_check_wishes) .none kV_check_wishes dc_check_wishes pm_check_wishes an_check_wishes cd_check_wishes ct_check_wishes), f_ahead_of, (PySem.W.fnOf "ahead_of" "ahead_of" (defArgs s_ahead_of) (defBody s_ahead_of) (defScope s_ahead_of) .none kV_ahead_of dc_ahead_of pm_ahead_of an_ahead_of cd_ahead_of ct_ahead_of), f_required, (PySem.W.fnOf "required" "required" (defArgs s_required) (defBody s_required) (defScope s_required) .none kV_required dc_required pm_required an_required cd_required ct_required), f_ring_among, (PySem.W.fnOf "ring_among" "ring_among" (defArgs s_ring_among) (defBody s_ring_among) (defScope s_ring_among) .none kV_ring_among dc_ring_among pm_ring_among an_ring_among cd_ring_among ct_ring_among), f_ordered, (PySem.W.fnOf "ordered" "ordered" (defArgs s_ordered) (defBody s_ordered) (defScope s_ordered) .none kV_ordered dc_ordered pm_ordered an_ordered cd_ordered ct_ordered), f_least_preloads, (PySem.W.fnOf "least_preloads" "least_preloads" (defArgs s_least_preloads) (defBody s_least_preloads) (defScope s_least_preloads) .none kV_least_preloads dc_least_preloads pm_least_preloads an_least_preloads cd_least_preloads ct_least_preloads), f__law_cell_at, (PySem.W.fnOf "_law_cell_at" "_law_cell_at" (defArgs s__law_cell_at) (defBody s__law_cell_at) (defScope s__law_cell_at) .none kV__law_cell_at dc__law_cell_at pm__law_cell_at an__law_cell_at cd__law_cell_at ct__law_cell_at), f__law_begin, (PySem.W.fnOf "_law_begin" "_law_begin" (defArgs s__law_begin) (defBody s__law_begin) (defScope s__law_begin) .none kV__law_begin dc__law_begin pm__law_begin an__law_begin cd__law_begin ct__law_begin), f__law_draw, (PySem.W.fnOf "_law_draw" "_law_draw" (defArgs s__law_draw) (defBody s__law_draw) (defScope s__law_draw) .none kV__law_draw dc__law_draw pm__law_draw an__law_draw cd__law_draw ct__law_draw), f__law_pick, (PySem.W.fnOf "_law_pick" "_law_pick" (defArgs s__law_pick) (defBody s__law_pick) (defScope s__law_pick) .none kV__law_pick dc__law_pick pm__law_pick an__law_pick cd__law_pick ct__law_pick), f__law_part, (PySem.W.fnOf "_law_part" "_law_part" (defArgs s__law_part) (defBody s__law_part) (defScope s__law_part) .none kV__law_part dc__law_part pm__law_part an__law_part cd__law_part ct__law_part), f__law_spelled, (PySem.W.fnOf "_law_spelled" "_law_spelled" (defArgs s__law_spelled) (defBody s__law_spelled) (defScope s__law_spelled) .none kV__law_spelled dc__law_spelled pm__law_spelled an__law_spelled cd__law_spelled ct__law_spelled), f__law_library, (PySem.W.fnOf "_law_library" "_law_library" (defArgs s__law_library) (defBody s__law_library) (defScope s__law_library) .none kV__law_library dc__law_library pm__law_library an__law_library cd__law_library ct__law_library), f__law_libraries, (PySem.W.fnOf "_law_libraries" "_law_libraries" (defArgs s__law_libraries) (defBody s__law_libraries) (defScope s__law_libraries) .none kV__law_libraries dc__law_libraries pm__law_libraries an__law_libraries cd__law_libraries ct__law_libraries), f__law_stored, (PySem.W.fnOf "_law_stored" "_law_stored" (defArgs s__law_stored) (defBody s__law_stored) (defScope s__law_stored) .none kV__law_stored dc__law_stored pm__law_stored an__law_stored cd__law_stored ct__law_stored), f__law_closed, (PySem.W.fnOf "_law_closed" "_law_closed" (defArgs s__law_closed) (defBody s__law_closed) (defScope s__law_closed) .none kV__law_closed dc__law_closed pm__law_closed an__law_closed cd__law_closed ct__law_closed), f__law_complete, (PySem.W.fnOf "_law_complete" "_law_complete" (defArgs s__law_complete) (defBody s__law_complete) (defScope s__law_complete) .none kV__law_complete dc__law_complete pm__law_complete an__law_complete cd__law_complete ct__law_complete), f__law_definer, (PySem.W.fnOf "_law_definer" "_law_definer" (defArgs s__law_definer) (defBody s__law_definer) (defScope s__law_definer) .none kV__law_definer dc__law_definer pm__law_definer an__law_definer cd__law_definer ct__law_definer), f__law_wishes, (PySem.W.fnOf "_law_wishes" "_law_wishes" (defArgs s__law_wishes) (defBody s__law_wishes) (defScope s__law_wishes) .none kV__law_wishes dc__law_wishes pm__law_wishes an__law_wishes cd__law_wishes ct__law_wishes), f__law_global, (PySem.W.fnOf "_law_global" "_law_global" (defArgs s__law_global) (defBody s__law_global) (defScope s__law_global) .none kV__law_global dc__law_global pm__law_global an__law_global cd__law_global ct__law_global), f__law_met, (PySem.W.fnOf "_law_met" "_law_met" (defArgs s__law_met) (defBody s__law_met) (defScope s__law_met) .none kV__law_met dc__law_met pm__law_met an__law_met cd__law_met ct__law_met), f__law_ahead, (PySem.W.fnOf "_law_ahead" "_law_ahead" (defArgs s__law_ahead) (defBody s__law_ahead) (defScope s__law_ahead) .none kV__law_ahead dc__law_ahead pm__law_ahead an__law_ahead cd__law_ahead ct__law_ahead), f__law_required, (PySem.W.fnOf "_law_required" "_law_required" (defArgs s__law_required) (defBody s__law_required) (defScope s__law_required) .none kV__law_required dc__law_required pm__law_required an__law_required cd__law_required ct__law_required), f__law_hoped, (PySem.W.fnOf "_law_hoped" "_law_hoped" (defArgs s__law_hoped) (defBody s__law_hoped) (defScope s__law_hoped) .none kV__law_hoped dc__law_hoped pm__law_hoped an__law_hoped cd__law_hoped ct__law_hoped), f_law, (PySem.W.fnOf "law" "law" (defArgs s_law) (defBody s_law) (defScope s_law) .none kV_law dc_law pm_law an_law cd_law ct_law), e0, e1, e2, e3⟩
  have T : Txt K mg AA := Txt.mk (PySem.W.mg_none_of X G z_ValueError)
    (PySem.W.mg_none_of X G z_all)
    (PySem.W.mg_none_of X G z_bool)
    (PySem.W.mg_none_of X G z_dict)
    (PySem.W.mg_none_of X G z_enumerate)
    (PySem.W.mg_none_of X G z_int)
    (PySem.W.mg_none_of X G z_isinstance)
    (PySem.W.mg_none_of X G z_len)
    (PySem.W.mg_none_of X G z_list)
    (PySem.W.mg_none_of X G z_range)
    (PySem.W.mg_none_of X G z_set)
    (PySem.W.mg_none_of X G z_sorted)
    (PySem.W.mg_none_of X G z_str)
    (PySem.W.mg_none_of X G z_tuple)
    (⟨_, PySem.W.mg_of X G cv_LETTERS, ⟨_, rfl⟩⟩)
    (⟨_, PySem.W.mg_of X G cv_MOST_LIBRARIES, ⟨_, rfl⟩⟩)
    (⟨PySem.W.mg_of X G g0_LoadError, ld_ga, ld_rd, ld_fc⟩)
    (⟨PySem.W.mg_of X G g0_NoLibrary, ⟨⟨_, _, _, _, _, _, _, _, _, _, _, _, _, _, _, xl_NoLibrary, rb_NoLibrary⟩, sa_NoLibrary, eC_NoLibrary, tC_NoLibrary, kC_NoLibrary⟩, at_NoLibrary___init__, ti_NoLibrary, nb_NoLibrary, ⟨ga_NoLibrary, gg_NoLibrary, eC_NoLibrary, hd_NoLibrary⟩, exm_sub eC_NoLibrary ic_NoLibrary tC_NoLibrary te_NoLibrary⟩)
    (⟨PySem.W.mg_of X G g0_NoStore, ⟨⟨_, _, _, _, _, _, _, _, _, _, _, _, _, _, _, xl_NoStore, rb_NoStore⟩, sa_NoStore, eC_NoStore, tC_NoStore, kC_NoStore⟩, at_NoStore___init__, ti_NoStore, nb_NoStore, ⟨ga_NoStore, gg_NoStore, eC_NoStore, hd_NoStore⟩, exm_sub eC_NoStore ic_NoStore tC_NoStore te_NoStore⟩)
    (⟨PySem.W.mg_of X G g0_NoName, ⟨⟨_, _, _, _, _, _, _, _, _, _, _, _, _, _, _, xl_NoName, rb_NoName⟩, sa_NoName, eC_NoName, tC_NoName, kC_NoName⟩, at_NoName___init__, ti_NoName, nb_NoName, ⟨ga_NoName, gg_NoName, eC_NoName, hd_NoName⟩, exm_sub eC_NoName ic_NoName tC_NoName te_NoName⟩)
    (⟨PySem.W.mg_of X G g0_Missing, ⟨⟨_, _, _, _, _, _, _, _, _, _, _, _, _, _, _, xl_Missing, rb_Missing⟩, sa_Missing, eC_Missing, tC_Missing, kC_Missing⟩, at_Missing___init__, ti_Missing, nb_Missing, ⟨ga_Missing, gg_Missing, eC_Missing, hd_Missing⟩, exm_sub eC_Missing ic_Missing tC_Missing te_Missing⟩)
    (⟨PySem.W.mg_of X G g0_NoSymbol, ⟨⟨_, _, _, _, _, _, _, _, _, _, _, _, _, _, _, xl_NoSymbol, rb_NoSymbol⟩, sa_NoSymbol, eC_NoSymbol, tC_NoSymbol, kC_NoSymbol⟩, at_NoSymbol___init__, ti_NoSymbol, nb_NoSymbol, ⟨ga_NoSymbol, gg_NoSymbol, eC_NoSymbol, hd_NoSymbol⟩, exm_sub eC_NoSymbol ic_NoSymbol tC_NoSymbol te_NoSymbol⟩)
    (⟨PySem.W.mg_of X G g0_NoWishes, ⟨⟨_, _, _, _, _, _, _, _, _, _, _, _, _, _, _, xl_NoWishes, rb_NoWishes⟩, sa_NoWishes, eC_NoWishes, tC_NoWishes, kC_NoWishes⟩, at_NoWishes___init__, ti_NoWishes, nb_NoWishes, ⟨ga_NoWishes, gg_NoWishes, eC_NoWishes, hd_NoWishes⟩, exm_sub eC_NoWishes ic_NoWishes tC_NoWishes te_NoWishes⟩)
    (PySem.W.mg_of X G g0_Library)
    (cl_Library)
    (na_Library_name)
    (na_Library_needs)
    (na_Library_defines)
    (na_Library_uses)
    (na_Library_weak)
    (na_Library_eager)
    (na_Library_own_first)
    (⟨mk_Library, at_Library___init__, if_Library, kc_Library⟩)
    (PySem.W.mg_of X G g0_Store)
    (cl_Store)
    (na_Store_kept)
    (⟨mk_Store, at_Store___init__, if_Store, kc_Store⟩)
    (FF_NoLibrary___init__)
    (FF_NoLibrary___init__.binds (ps := P_NoLibrary___init__) fun _ _ _ _ _ _ us hl => match us, hl with | [_, _], _ => rfl)
    (FF_NoStore___init__)
    (FF_NoStore___init__.binds (ps := P_NoStore___init__) fun _ _ _ _ _ _ us hl => match us, hl with | [_, _], _ => rfl)
    (FF_NoName___init__)
    (FF_NoName___init__.binds (ps := P_NoName___init__) fun _ _ _ _ _ _ us hl => match us, hl with | [_, _], _ => rfl)
    (FF_Missing___init__)
    (FF_Missing___init__.binds (ps := P_Missing___init__) fun _ _ _ _ _ _ us hl => match us, hl with | [_, _], _ => rfl)
    (FF_NoSymbol___init__)
    (FF_NoSymbol___init__.binds (ps := P_NoSymbol___init__) fun _ _ _ _ _ _ us hl => match us, hl with | [_, _], _ => rfl)
    (FF_NoWishes___init__)
    (FF_NoWishes___init__.binds (ps := P_NoWishes___init__) fun _ _ _ _ _ _ us hl => match us, hl with | [_, _], _ => rfl)
    (FF_is_word)
    (FF_is_word.binds (ps := P_is_word) fun _ _ _ _ _ _ us hl => match us, hl with | [_], _ => rfl)
    (PySem.W.mg_of X G g0_is_word)
    (kp_is_word)
    (FF_are_words)
    (FF_are_words.binds (ps := P_are_words) fun _ _ _ _ _ _ us hl => match us, hl with | [_, _], _ => rfl)
    (PySem.W.mg_of X G g0_are_words)
    (kp_are_words)
    (FF_check_symbol)
    (FF_check_symbol.binds (ps := P_check_symbol) fun _ _ _ _ _ _ us hl => match us, hl with | [_], _ => rfl)
    (PySem.W.mg_of X G g0_check_symbol)
    (kp_check_symbol)
    (FF_closure)
    (FF_closure.binds (ps := P_closure) fun _ _ _ _ _ _ us hl => match us, hl with | [_, _], _ => rfl)
    (PySem.W.mg_of X G g0_closure)
    (kp_closure)
    (FF_grown)
    (FF_grown.binds (ps := P_grown) fun _ _ _ _ _ _ us hl => match us, hl with | [_, _, _], _ => rfl)
    (PySem.W.mg_of X G g0_grown)
    (kp_grown)
    (FF_definers)
    (FF_definers.binds (ps := P_definers) fun _ _ _ _ _ _ us hl => match us, hl with | [_, _, _], _ => rfl)
    (PySem.W.mg_of X G g0_definers)
    (kp_definers)
    (FF_Library___init__)
    (FF_Library_row)
    (FF_Library_row.binds (ps := P_Library_row) fun _ _ _ _ _ _ us hl => match us, hl with | [_], _ => rfl)
    (⟨at_Library_row, if_Library_row, kp_Library_row⟩)
    (FF_Library___eq__)
    (FF_Library___eq__.binds (ps := P_Library___eq__) fun _ _ _ _ _ _ us hl => match us, hl with | [_, _], _ => rfl)
    (⟨at_Library___eq__, if_Library___eq__⟩)
    (FF_Store___init__)
    (FF_Store___init__.binds (ps := P_Store___init__) fun _ _ _ _ _ _ us hl => match us, hl with | [_, _], _ => rfl)
    (FF_Store___getitem__)
    (FF_Store___getitem__.binds (ps := P_Store___getitem__) fun _ _ _ _ _ _ us hl => match us, hl with | [_, _], _ => rfl)
    (⟨at_Store___getitem__, if_Store___getitem__⟩)
    (fi_Store___getitem__)
    (FF_Store___iter__)
    (FF_Store___iter__.binds (ps := P_Store___iter__) fun _ _ _ _ _ _ us hl => match us, hl with | [_], _ => rfl)
    (⟨at_Store___iter__, if_Store___iter__⟩)
    (FF_Store___contains__)
    (FF_Store___contains__.binds (ps := P_Store___contains__) fun _ _ _ _ _ _ us hl => match us, hl with | [_, _], _ => rfl)
    (⟨at_Store___contains__, if_Store___contains__⟩)
    (FF_Store___len__)
    (FF_Store___len__.binds (ps := P_Store___len__) fun _ _ _ _ _ _ us hl => match us, hl with | [_], _ => rfl)
    (⟨at_Store___len__, if_Store___len__⟩)
    (FF_first_definer)
    (FF_first_definer.binds (ps := P_first_definer) fun _ _ _ _ _ _ us hl => match us, hl with | [_, _, _], _ => rfl)
    (PySem.W.mg_of X G g0_first_definer)
    (kp_first_definer)
    (FF_check_wishes)
    (FF_check_wishes.binds (ps := P_check_wishes) fun _ _ _ _ _ _ us hl => match us, hl with | [_, _], _ => rfl)
    (PySem.W.mg_of X G g0_check_wishes)
    (kp_check_wishes)
    (FF_ahead_of)
    (FF_ahead_of.binds (ps := P_ahead_of) fun _ _ _ _ _ _ us hl => match us, hl with | [_, _, _, _], _ => rfl)
    (PySem.W.mg_of X G g0_ahead_of)
    (kp_ahead_of)
    (FF_required)
    (FF_required.binds (ps := P_required) fun _ _ _ _ _ _ us hl => match us, hl with | [_, _, _], _ => rfl)
    (PySem.W.mg_of X G g0_required)
    (kp_required)
    (FF_ring_among)
    (FF_ring_among.binds (ps := P_ring_among) fun _ _ _ _ _ _ us hl => match us, hl with | [_, _, _], _ => rfl)
    (PySem.W.mg_of X G g0_ring_among)
    (kp_ring_among)
    (FF_ordered)
    (FF_ordered.binds (ps := P_ordered) fun _ _ _ _ _ _ us hl => match us, hl with | [_, _, _], _ => rfl)
    (PySem.W.mg_of X G g0_ordered)
    (kp_ordered)
    (FF_least_preloads)
    (FF_least_preloads.binds (ps := P_least_preloads) fun _ _ _ _ _ _ us hl => match us, hl with | [_, _, _], _ => rfl)
    (PySem.W.mg_of X G g0_least_preloads)
    (kp_least_preloads)
    (FF__law_cell_at)
    (FF__law_cell_at.binds (ps := P__law_cell_at) fun _ _ _ _ _ _ us hl => match us, hl with | [_, _], _ => rfl)
    (PySem.W.mg_of X G g0__law_cell_at)
    (kp__law_cell_at)
    (FF__law_begin)
    (FF__law_begin.binds (ps := P__law_begin) fun _ _ _ _ _ _ us hl => match us, hl with | [_], _ => rfl)
    (PySem.W.mg_of X G g0__law_begin)
    (kp__law_begin)
    (FF__law_draw)
    (FF__law_draw.binds (ps := P__law_draw) fun _ _ _ _ _ _ us hl => match us, hl with | [_, _], _ => rfl)
    (PySem.W.mg_of X G g0__law_draw)
    (kp__law_draw)
    (FF__law_pick)
    (FF__law_pick.binds (ps := P__law_pick) fun _ _ _ _ _ _ us hl => match us, hl with | [_, _], _ => rfl)
    (PySem.W.mg_of X G g0__law_pick)
    (kp__law_pick)
    (FF__law_part)
    (FF__law_part.binds (ps := P__law_part) fun _ _ _ _ _ _ us hl => match us, hl with | [_, _, _], _ => rfl)
    (PySem.W.mg_of X G g0__law_part)
    (kp__law_part)
    (FF__law_spelled)
    (FF__law_spelled.binds (ps := P__law_spelled) fun _ _ _ _ _ _ us hl => match us, hl with | [_, _], _ => rfl)
    (PySem.W.mg_of X G g0__law_spelled)
    (kp__law_spelled)
    (FF__law_library)
    (FF__law_library.binds (ps := P__law_library) fun _ _ _ _ _ _ us hl => match us, hl with | [_, _, _, _, _], _ => rfl)
    (PySem.W.mg_of X G g0__law_library)
    (kp__law_library)
    (FF__law_libraries)
    (FF__law_libraries.binds (ps := P__law_libraries) fun _ _ _ _ _ _ us hl => match us, hl with | [_, _, _], _ => rfl)
    (PySem.W.mg_of X G g0__law_libraries)
    (kp__law_libraries)
    (FF__law_stored)
    (FF__law_stored.binds (ps := P__law_stored) fun _ _ _ _ _ _ us hl => match us, hl with | [_], _ => rfl)
    (PySem.W.mg_of X G g0__law_stored)
    (kp__law_stored)
    (FF__law_closed)
    (FF__law_closed.binds (ps := P__law_closed) fun _ _ _ _ _ _ us hl => match us, hl with | [_, _], _ => rfl)
    (PySem.W.mg_of X G g0__law_closed)
    (kp__law_closed)
    (FF__law_complete)
    (FF__law_complete.binds (ps := P__law_complete) fun _ _ _ _ _ _ us hl => match us, hl with | [_], _ => rfl)
    (PySem.W.mg_of X G g0__law_complete)
    (kp__law_complete)
    (FF__law_definer)
    (FF__law_definer.binds (ps := P__law_definer) fun _ _ _ _ _ _ us hl => match us, hl with | [_, _, _], _ => rfl)
    (PySem.W.mg_of X G g0__law_definer)
    (kp__law_definer)
    (FF__law_wishes)
    (FF__law_wishes.binds (ps := P__law_wishes) fun _ _ _ _ _ _ us hl => match us, hl with | [_, _, _], _ => rfl)
    (PySem.W.mg_of X G g0__law_wishes)
    (kp__law_wishes)
    (FF__law_global)
    (FF__law_global.binds (ps := P__law_global) fun _ _ _ _ _ _ us hl => match us, hl with | [_, _, _], _ => rfl)
    (PySem.W.mg_of X G g0__law_global)
    (kp__law_global)
    (FF__law_met)
    (FF__law_met.binds (ps := P__law_met) fun _ _ _ _ _ _ us hl => match us, hl with | [_, _, _], _ => rfl)
    (PySem.W.mg_of X G g0__law_met)
    (kp__law_met)
    (FF__law_ahead)
    (FF__law_ahead.binds (ps := P__law_ahead) fun _ _ _ _ _ _ us hl => match us, hl with | [_, _, _, _], _ => rfl)
    (PySem.W.mg_of X G g0__law_ahead)
    (kp__law_ahead)
    (FF__law_required)
    (FF__law_required.binds (ps := P__law_required) fun _ _ _ _ _ _ us hl => match us, hl with | [_, _, _], _ => rfl)
    (PySem.W.mg_of X G g0__law_required)
    (kp__law_required)
    (FF__law_hoped)
    (FF__law_hoped.binds (ps := P__law_hoped) fun _ _ _ _ _ _ us hl => match us, hl with | [_, _, _, _], _ => rfl)
    (PySem.W.mg_of X G g0__law_hoped)
    (kp__law_hoped)
    (FF_law)
    (FF_law.binds (ps := P_law) fun _ _ _ _ _ _ us hl => match us, hl with | [_], _ => rfl)
    (PySem.W.mg_of X G g0_law)
    (kp_law)
    (fun _ => .inr ⟨_, #[], _, le_e0, rfl, rfl, Nat.zero_le _, .nil⟩)
    (fun _ => .inr ⟨_, #[], _, le_e1, rfl, rfl, Nat.zero_le _, .nil⟩)
    (fun _ => .inr ⟨_, #[], _, le_e2, rfl, rfl, Nat.zero_le _, .nil⟩)
    (fun _ => .inr ⟨_, #[], _, le_e3, rfl, rfl, Nat.zero_le _, .nil⟩)
    (fun hh => .base (.ins hh cl_Library ty1_Library ty2 ty3 ty4_Library))
    (fun hh => .base (.ins hh cl_Store ty1_Store ty2 ty3 ty4_Store))
  exact ⟨(PySem.W.fnOf "law" "law" (defArgs s_law) (defBody s_law) (defScope s_law) .none kV_law dc_law pm_law an_law cd_law ct_law), fun s v => .of_eq rfl, fun base _ _ => ok_law T⟩
theorem walk {l : PySem.W.OpenLaw} {q : Program} {loose : List Str} {XP : (Str → Option Value) → Heap → Prop} {YP : World → Heap → Prop} {d : DefRec} {K : Params → PySem.W.Frag} (hn : l.most = some 63) (hdf : d.params.defaults = [])
    (hY : ∀ (w : World) (h : Heap), YP w h → (K w.params).In h)
    (F : ∀ (w : World) (mg : Str → Option Value) (fa : Addr) (h : Heap), (K w.params).In h → h.Ns mainGlobals mg → mg d.name = some (.ref fa) →
      ∃ fd : FuncData, (∀ (s : Shared) (u : Value), BindsTo s fd ⟨[u], []⟩ [("_law_script", u)]) ∧ ∀ base : Heap, (K w.params).In base → base.Ns mainGlobals mg → FnOk l.prog w (K w.params) mg base CX0 9 fa fd ["_law_script"] (spLaw (K w.params))) :
    PySem.W.WalkO q loose XP YP l.row.toRowW d [] (fun f vs => PySem.call f vs) :=
  L2.walk_of (n := 63) (k := 9) (x := "_law_script") (CX := fun _ => CX0) (sp := fun w => spLaw (K w.params)) hn (by decide) hdf ⟨rfl, by decide, by decide⟩ hY F (fun _ _ b ns hl _ hS => ⟨b, ns, rfl, hS, hl, fun _ => rfl⟩) fun _ _ _ _ _ z => z
end SL

open PySem PySem.W PyProof.Rows in
set_option maxRecDepth 100000 in
set_option maxHeartbeats 0 in
theorem PySem.Challenge.cw_scopebind_k75_required_preloads_holds : PySem.Challenge.rw_scopebind_k75_required_preloads.Holds := by
  w_on; o_law; k_head; (case hw => w_witness2)
  k_fill
  refine SL.walk (l := PySem.Challenge.rw_scopebind_k75_required_preloads) rfl rfl (fun w h Y => PySem.W.kIn_of Y) ?F
  case F =>
    intro w mg fa h KX G hmg
    refine' SL.all_mk KX G hmg ?g0_LoadError ?g0_NoLibrary ?g0_NoStore ?g0_NoName ?g0_Missing ?g0_NoSymbol ?g0_NoWishes ?g0_Library ?g0_Store ?at_NoLibrary___init__ ?at_NoStore___init__ ?at_NoName___init__ ?at_Missing___init__ ?at_NoSymbol___init__ ?at_NoWishes___init__ ?g0_is_word ?g0_are_words ?g0_check_symbol ?g0_closure ?g0_grown ?g0_definers ?at_Library___init__ ?at_Library_row ?at_Library___eq__ ?at_Store___init__ ?at_Store___getitem__ ?at_Store___iter__ ?at_Store___contains__ ?at_Store___len__ ?g0_first_definer ?g0_check_wishes ?g0_ahead_of ?g0_required ?g0_ring_among ?g0_ordered ?g0_least_preloads ?g0__law_cell_at ?g0__law_begin ?g0__law_draw ?g0__law_pick ?g0__law_part ?g0__law_spelled ?g0__law_library ?g0__law_libraries ?g0__law_stored ?g0__law_closed ?g0__law_complete ?g0__law_definer ?g0__law_wishes ?g0__law_global ?g0__law_met ?g0__law_ahead ?g0__law_required ?g0__law_hoped ?g0_law ?l_NoLibrary___init__ ?cd1_NoLibrary___init__ ?kp_NoLibrary___init__ ?l_NoStore___init__ ?cd1_NoStore___init__ ?kp_NoStore___init__ ?l_NoName___init__ ?cd1_NoName___init__ ?kp_NoName___init__ ?l_Missing___init__ ?cd1_Missing___init__ ?kp_Missing___init__ ?l_NoSymbol___init__ ?cd1_NoSymbol___init__ ?kp_NoSymbol___init__ ?l_NoWishes___init__ ?cd1_NoWishes___init__ ?kp_NoWishes___init__ ?l_is_word ?cd1_is_word ?kp_is_word ?l_are_words ?cd1_are_words ?kp_are_words ?l_check_symbol ?cd1_check_symbol ?kp_check_symbol ?l_closure ?cd1_closure ?kp_closure ?l_grown ?cd1_grown ?kp_grown ?l_definers ?cd1_definers ?kp_definers ?l_Library___init__ ?cd1_Library___init__ ?kp_Library___init__ ?l_Library_row ?cd1_Library_row ?kp_Library_row ?l_Library___eq__ ?cd1_Library___eq__ ?kp_Library___eq__ ?l_Store___init__ ?cd1_Store___init__ ?kp_Store___init__ ?l_Store___getitem__ ?cd1_Store___getitem__ ?kp_Store___getitem__ ?l_Store___iter__ ?cd1_Store___iter__ ?kp_Store___iter__ ?l_Store___contains__ ?cd1_Store___contains__ ?kp_Store___contains__ ?l_Store___len__ ?cd1_Store___len__ ?kp_Store___len__ ?l_first_definer ?cd1_first_definer ?kp_first_definer ?l_check_wishes ?cd1_check_wishes ?kp_check_wishes ?l_ahead_of ?cd1_ahead_of ?kp_ahead_of ?l_required ?cd1_required ?kp_required ?l_ring_among ?cd1_ring_among ?kp_ring_among ?l_ordered ?cd1_ordered ?kp_ordered ?l_least_preloads ?cd1_least_preloads ?kp_least_preloads ?l__law_cell_at ?cd1__law_cell_at ?kp__law_cell_at ?l__law_begin ?cd1__law_begin ?kp__law_begin ?l__law_draw ?cd1__law_draw ?kp__law_draw ?l__law_pick ?cd1__law_pick ?kp__law_pick ?l__law_part ?cd1__law_part ?kp__law_part ?l__law_spelled ?cd1__law_spelled ?kp__law_spelled ?l__law_library ?cd1__law_library ?kp__law_library ?l__law_libraries ?cd1__law_libraries ?kp__law_libraries ?l__law_stored ?cd1__law_stored ?kp__law_stored ?l__law_closed ?cd1__law_closed ?kp__law_closed ?l__law_complete ?cd1__law_complete ?kp__law_complete ?l__law_definer ?cd1__law_definer ?kp__law_definer ?l__law_wishes ?cd1__law_wishes ?kp__law_wishes ?l__law_global ?cd1__law_global ?kp__law_global ?l__law_met ?cd1__law_met ?kp__law_met ?l__law_ahead ?cd1__law_ahead ?kp__law_ahead ?l__law_required ?cd1__law_required ?kp__law_required ?l__law_hoped ?cd1__law_hoped ?kp__law_hoped ?l_law ?cd1_law ?kp_law ?kw_Library___init___0 ?kw_Library___init___1 ?kw_Library___init___2 ?kw_Library___init___3 ?kw_Library___init___4 ?kw_Library___init___5 ?z_ValueError ?z_all ?z_bool ?z_dict ?z_enumerate ?z_int ?z_isinstance ?z_len ?z_list ?z_range ?z_set ?z_sorted ?z_str ?z_tuple ?cv_LETTERS ?cv_MOST_LIBRARIES ?ld_ga ?ld_rd ?ld_fc ?xl_NoLibrary ?rb_NoLibrary ?sa_NoLibrary ?eC_NoLibrary ?tC_NoLibrary ?kC_NoLibrary ?ti_NoLibrary ?nb_NoLibrary ?ga_NoLibrary ?gg_NoLibrary ?hd_NoLibrary ?te_NoLibrary ?ic_NoLibrary ?xl_NoStore ?rb_NoStore ?sa_NoStore ?eC_NoStore ?tC_NoStore ?kC_NoStore ?ti_NoStore ?nb_NoStore ?ga_NoStore ?gg_NoStore ?hd_NoStore ?te_NoStore ?ic_NoStore ?xl_NoName ?rb_NoName ?sa_NoName ?eC_NoName ?tC_NoName ?kC_NoName ?ti_NoName ?nb_NoName ?ga_NoName ?gg_NoName ?hd_NoName ?te_NoName ?ic_NoName ?xl_Missing ?rb_Missing ?sa_Missing ?eC_Missing ?tC_Missing ?kC_Missing ?ti_Missing ?nb_Missing ?ga_Missing ?gg_Missing ?hd_Missing ?te_Missing ?ic_Missing ?xl_NoSymbol ?rb_NoSymbol ?sa_NoSymbol ?eC_NoSymbol ?tC_NoSymbol ?kC_NoSymbol ?ti_NoSymbol ?nb_NoSymbol ?ga_NoSymbol ?gg_NoSymbol ?hd_NoSymbol ?te_NoSymbol ?ic_NoSymbol ?xl_NoWishes ?rb_NoWishes ?sa_NoWishes ?eC_NoWishes ?tC_NoWishes ?kC_NoWishes ?ti_NoWishes ?nb_NoWishes ?ga_NoWishes ?gg_NoWishes ?hd_NoWishes ?te_NoWishes ?ic_NoWishes ?pg_Library ?hd_Library ?po_Library ?sa_Library ?na_Library_name ?na_Library_needs ?na_Library_defines ?na_Library_uses ?na_Library_weak ?na_Library_eager ?na_Library_own_first ?mk_Library ?if_Library ?kc_Library ?pg_Store ?hd_Store ?po_Store ?sa_Store ?na_Store_kept ?mk_Store ?if_Store ?kc_Store ?if_Library_row ?if_Library___eq__ ?if_Store___getitem__ ?fi_Store___getitem__ ?if_Store___iter__ ?if_Store___contains__ ?if_Store___len__ ?le_e0 ?le_e1 ?le_e2 ?le_e3 ?ty1_Library ?ty2 ?ty3 ?ty4_Library ?ty1_Store ?ty4_Store
    (case g0_LoadError => k_is)
    (case g0_NoLibrary => k_is)
    (case g0_NoStore => k_is)
    (case g0_NoName => k_is)
    (case g0_Missing => k_is)
    (case g0_NoSymbol => k_is)
    (case g0_NoWishes => k_is)
    (case g0_Library => k_is)
    (case g0_Store => k_is)
    (case at_NoLibrary___init__ => k_is)
    (case at_NoStore___init__ => k_is)
    (case at_NoName___init__ => k_is)
    (case at_Missing___init__ => k_is)
    (case at_NoSymbol___init__ => k_is)
    (case at_NoWishes___init__ => k_is)
    (case g0_is_word => k_is)
    (case g0_are_words => k_is)
    (case g0_check_symbol => k_is)
    (case g0_closure => k_is)
    (case g0_grown => k_is)
    (case g0_definers => k_is)
    (case at_Library___init__ => k_is)
    (case at_Library_row => k_is)
    (case at_Library___eq__ => k_is)
    (case at_Store___init__ => k_is)
    (case at_Store___getitem__ => k_is)
    (case at_Store___iter__ => k_is)
    (case at_Store___contains__ => k_is)
    (case at_Store___len__ => k_is)
    (case g0_first_definer => k_is)
    (case g0_check_wishes => k_is)
    (case g0_ahead_of => k_is)
    (case g0_required => k_is)
    (case g0_ring_among => k_is)
    (case g0_ordered => k_is)
    (case g0_least_preloads => k_is)
    (case g0__law_cell_at => k_is)
    (case g0__law_begin => k_is)
    (case g0__law_draw => k_is)
    (case g0__law_pick => k_is)
    (case g0__law_part => k_is)
    (case g0__law_spelled => k_is)
    (case g0__law_library => k_is)
    (case g0__law_libraries => k_is)
    (case g0__law_stored => k_is)
    (case g0__law_closed => k_is)
    (case g0__law_complete => k_is)
    (case g0__law_definer => k_is)
    (case g0__law_wishes => k_is)
    (case g0__law_global => k_is)
    (case g0__law_met => k_is)
    (case g0__law_ahead => k_is)
    (case g0__law_required => k_is)
    (case g0__law_hoped => k_is)
    (case g0_law => k_is)
    (case l_NoLibrary___init__ => k_is)
    (case cd1_NoLibrary___init__ => k_is)
    (case kp_NoLibrary___init__ => k_is)
    (case l_NoStore___init__ => k_is)
    (case cd1_NoStore___init__ => k_is)
    (case kp_NoStore___init__ => k_is)
    (case l_NoName___init__ => k_is)
    (case cd1_NoName___init__ => k_is)
    (case kp_NoName___init__ => k_is)
    (case l_Missing___init__ => k_is)
    (case cd1_Missing___init__ => k_is)
    (case kp_Missing___init__ => k_is)
    (case l_NoSymbol___init__ => k_is)
    (case cd1_NoSymbol___init__ => k_is)
    (case kp_NoSymbol___init__ => k_is)
    (case l_NoWishes___init__ => k_is)
    (case cd1_NoWishes___init__ => k_is)
    (case kp_NoWishes___init__ => k_is)
    (case l_is_word => k_is)
    (case cd1_is_word => k_is)
    (case kp_is_word => k_is)
    (case l_are_words => k_is)
    (case cd1_are_words => k_is)
    (case kp_are_words => k_is)
    (case l_check_symbol => k_is)
    (case cd1_check_symbol => k_is)
    (case kp_check_symbol => k_is)
    (case l_closure => k_is)
    (case cd1_closure => k_is)
    (case kp_closure => k_is)
    (case l_grown => k_is)
    (case cd1_grown => k_is)
    (case kp_grown => k_is)
    (case l_definers => k_is)
    (case cd1_definers => k_is)
    (case kp_definers => k_is)
    (case l_Library___init__ => k_is)
    (case cd1_Library___init__ => k_is)
    (case kp_Library___init__ => k_is)
    (case l_Library_row => k_is)
    (case cd1_Library_row => k_is)
    (case kp_Library_row => k_is)
    (case l_Library___eq__ => k_is)
    (case cd1_Library___eq__ => k_is)
    (case kp_Library___eq__ => k_is)
    (case l_Store___init__ => k_is)
    (case cd1_Store___init__ => k_is)
    (case kp_Store___init__ => k_is)
    (case l_Store___getitem__ => k_is)
    (case cd1_Store___getitem__ => k_is)
    (case kp_Store___getitem__ => k_is)
    (case l_Store___iter__ => k_is)
    (case cd1_Store___iter__ => k_is)
    (case kp_Store___iter__ => k_is)
    (case l_Store___contains__ => k_is)
    (case cd1_Store___contains__ => k_is)
    (case kp_Store___contains__ => k_is)
    (case l_Store___len__ => k_is)
    (case cd1_Store___len__ => k_is)
    (case kp_Store___len__ => k_is)
    (case l_first_definer => k_is)
    (case cd1_first_definer => k_is)
    (case kp_first_definer => k_is)
    (case l_check_wishes => k_is)
    (case cd1_check_wishes => k_is)
    (case kp_check_wishes => k_is)
    (case l_ahead_of => k_is)
    (case cd1_ahead_of => k_is)
    (case kp_ahead_of => k_is)
    (case l_required => k_is)
    (case cd1_required => k_is)
    (case kp_required => k_is)
    (case l_ring_among => k_is)
    (case cd1_ring_among => k_is)
    (case kp_ring_among => k_is)
    (case l_ordered => k_is)
    (case cd1_ordered => k_is)
    (case kp_ordered => k_is)
    (case l_least_preloads => k_is)
    (case cd1_least_preloads => k_is)
    (case kp_least_preloads => k_is)
    (case l__law_cell_at => k_is)
    (case cd1__law_cell_at => k_is)
    (case kp__law_cell_at => k_is)
    (case l__law_begin => k_is)
    (case cd1__law_begin => k_is)
    (case kp__law_begin => k_is)
    (case l__law_draw => k_is)
    (case cd1__law_draw => k_is)
    (case kp__law_draw => k_is)
    (case l__law_pick => k_is)
    (case cd1__law_pick => k_is)
    (case kp__law_pick => k_is)
    (case l__law_part => k_is)
    (case cd1__law_part => k_is)
    (case kp__law_part => k_is)
    (case l__law_spelled => k_is)
    (case cd1__law_spelled => k_is)
    (case kp__law_spelled => k_is)
    (case l__law_library => k_is)
    (case cd1__law_library => k_is)
    (case kp__law_library => k_is)
    (case l__law_libraries => k_is)
    (case cd1__law_libraries => k_is)
    (case kp__law_libraries => k_is)
    (case l__law_stored => k_is)
    (case cd1__law_stored => k_is)
    (case kp__law_stored => k_is)
    (case l__law_closed => k_is)
    (case cd1__law_closed => k_is)
    (case kp__law_closed => k_is)
    (case l__law_complete => k_is)
    (case cd1__law_complete => k_is)
    (case kp__law_complete => k_is)
    (case l__law_definer => k_is)
    (case cd1__law_definer => k_is)
    (case kp__law_definer => k_is)
    (case l__law_wishes => k_is)
    (case cd1__law_wishes => k_is)
    (case kp__law_wishes => k_is)
    (case l__law_global => k_is)
    (case cd1__law_global => k_is)
    (case kp__law_global => k_is)
    (case l__law_met => k_is)
    (case cd1__law_met => k_is)
    (case kp__law_met => k_is)
    (case l__law_ahead => k_is)
    (case cd1__law_ahead => k_is)
    (case kp__law_ahead => k_is)
    (case l__law_required => k_is)
    (case cd1__law_required => k_is)
    (case kp__law_required => k_is)
    (case l__law_hoped => k_is)
    (case cd1__law_hoped => k_is)
    (case kp__law_hoped => k_is)
    (case l_law => k_is)
    (case cd1_law => k_is)
    (case kp_law => k_is)
    (case kw_Library___init___0 => k_is)
    (case kw_Library___init___1 => k_is)
    (case kw_Library___init___2 => k_is)
    (case kw_Library___init___3 => k_is)
    (case kw_Library___init___4 => k_is)
    (case kw_Library___init___5 => k_is)
    (case z_ValueError => k_is)
    (case z_all => k_is)
    (case z_bool => k_is)
    (case z_dict => k_is)
    (case z_enumerate => k_is)
    (case z_int => k_is)
    (case z_isinstance => k_is)
    (case z_len => k_is)
    (case z_list => k_is)
    (case z_range => k_is)
    (case z_set => k_is)
    (case z_sorted => k_is)
    (case z_str => k_is)
    (case z_tuple => k_is)
    (case cv_LETTERS => k_is)
    (case cv_MOST_LIBRARIES => k_is)
    (case ld_ga => k_is)
    (case ld_rd => k_is)
    (case ld_fc => k_is)
    (case xl_NoLibrary => k_is)
    (case rb_NoLibrary => decide +kernel)
    (case sa_NoLibrary => k_is)
    (case eC_NoLibrary => k_is)
    (case tC_NoLibrary => k_is)
    (case kC_NoLibrary => k_is)
    (case ti_NoLibrary => k_is)
    (case nb_NoLibrary => k_is)
    (case ga_NoLibrary => k_is)
    (case gg_NoLibrary => k_is)
    (case hd_NoLibrary => k_is)
    (case te_NoLibrary => first | rfl | k_is)
    (case ic_NoLibrary => k_is)
    (case xl_NoStore => k_is)
    (case rb_NoStore => decide +kernel)
    (case sa_NoStore => k_is)
    (case eC_NoStore => k_is)
    (case tC_NoStore => k_is)
    (case kC_NoStore => k_is)
    (case ti_NoStore => k_is)
    (case nb_NoStore => k_is)
    (case ga_NoStore => k_is)
    (case gg_NoStore => k_is)
    (case hd_NoStore => k_is)
    (case te_NoStore => first | rfl | k_is)
    (case ic_NoStore => k_is)
    (case xl_NoName => k_is)
    (case rb_NoName => decide +kernel)
    (case sa_NoName => k_is)
    (case eC_NoName => k_is)
    (case tC_NoName => k_is)
    (case kC_NoName => k_is)
    (case ti_NoName => k_is)
    (case nb_NoName => k_is)
    (case ga_NoName => k_is)
    (case gg_NoName => k_is)
    (case hd_NoName => k_is)
    (case te_NoName => first | rfl | k_is)
    (case ic_NoName => k_is)
    (case xl_Missing => k_is)
    (case rb_Missing => decide +kernel)
    (case sa_Missing => k_is)
    (case eC_Missing => k_is)
    (case tC_Missing => k_is)
    (case kC_Missing => k_is)
    (case ti_Missing => k_is)
    (case nb_Missing => k_is)
    (case ga_Missing => k_is)
    (case gg_Missing => k_is)
    (case hd_Missing => k_is)
    (case te_Missing => first | rfl | k_is)
    (case ic_Missing => k_is)
    (case xl_NoSymbol => k_is)
    (case rb_NoSymbol => decide +kernel)
    (case sa_NoSymbol => k_is)
    (case eC_NoSymbol => k_is)
    (case tC_NoSymbol => k_is)
    (case kC_NoSymbol => k_is)
    (case ti_NoSymbol => k_is)
    (case nb_NoSymbol => k_is)
    (case ga_NoSymbol => k_is)
    (case gg_NoSymbol => k_is)
    (case hd_NoSymbol => k_is)
    (case te_NoSymbol => first | rfl | k_is)
    (case ic_NoSymbol => k_is)
    (case xl_NoWishes => k_is)
    (case rb_NoWishes => decide +kernel)
    (case sa_NoWishes => k_is)
    (case eC_NoWishes => k_is)
    (case tC_NoWishes => k_is)
    (case kC_NoWishes => k_is)
    (case ti_NoWishes => k_is)
    (case nb_NoWishes => k_is)
    (case ga_NoWishes => k_is)
    (case gg_NoWishes => k_is)
    (case hd_NoWishes => k_is)
    (case te_NoWishes => first | rfl | k_is)
    (case ic_NoWishes => k_is)
    (case pg_Library => k_is)
    (case hd_Library => k_is)
    (case po_Library => k_is)
    (case sa_Library => k_is)
    (case na_Library_name => k_is)
    (case na_Library_needs => k_is)
    (case na_Library_defines => k_is)
    (case na_Library_uses => k_is)
    (case na_Library_weak => k_is)
    (case na_Library_eager => k_is)
    (case na_Library_own_first => k_is)
    (case mk_Library => k_is)
    (case if_Library => k_is)
    (case kc_Library => k_is)
    (case pg_Store => k_is)
    (case hd_Store => k_is)
    (case po_Store => k_is)
    (case sa_Store => k_is)
    (case na_Store_kept => k_is)
    (case mk_Store => k_is)
    (case if_Store => k_is)
    (case kc_Store => k_is)
    (case if_Library_row => k_is)
    (case if_Library___eq__ => k_is)
    (case if_Store___getitem__ => k_is)
    (case fi_Store___getitem__ => k_is)
    (case if_Store___iter__ => k_is)
    (case if_Store___contains__ => k_is)
    (case if_Store___len__ => k_is)
    (case le_e0 => k_is)
    (case le_e1 => k_is)
    (case le_e2 => k_is)
    (case le_e3 => k_is)
    (case ty1_Library => k_is)
    (case ty2 => k_is)
    (case ty3 => k_is)
    (case ty4_Library => k_is)
    (case ty1_Store => k_is)
    (case ty4_Store => k_is)
