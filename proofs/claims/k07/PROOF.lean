import PyProof.Rows.All
import Wide.All
import OpenK.AllK
import Wide.FinOn
import HandS.Strs
import HandS.OwnEq
import HandS.IsInst
import HandS.ExcInit
import HandS.ExcField
import HandS.TryMany
import HandS.Words
import HandS.WordsExc
import HandS.Evl
import HandS.ForMost
import HandS.TupAny
import HandS.Wide
import HandS.MakeKwOnly
import HandS.Style
import HandS.Walk
import HandS.Steps
import KE.KRevSl
import KE.DataCmp
import KE.KTryMore
import HandS.Dict
import KE.KxIndex
import HandS.NamedTupSort
import HandS.More
import HandS.DictComp
import PyProof.NeKinds
import PyProof.Rows.StrMeet
import HandS.ExcIs
import PySem.Challenge.RW_scopebind_k07_errors_by_hand
set_option Elab.async false
set_option linter.all false
set_option maxRecDepth 100000
set_option maxHeartbeats 4000000
set_option Elab.async false
set_option linter.all false
set_option maxRecDepth 100000
set_option maxHeartbeats 4000000
/-! set(tuple of texts), of any size below 1000: its length is the number of distinct texts -/
namespace SB
open PySem PySem.Spec PyProof.Rows L2

/-- how many distinct texts stand in a list -/
def dcnt : List Str → Nat
  | [] => 0
  | x :: r => if x ∈ r then dcnt r else dcnt r + 1
theorem dcnt_le : ∀ l : List Str, dcnt l ≤ l.length
  | [] => Nat.le_refl _
  | x :: r => by
    have ih := dcnt_le r
    unfold dcnt
    split
    · exact Nat.le_trans ih (Nat.le_succ _)
    · exact Nat.succ_le_succ ih
theorem dcnt_nodup : ∀ l : List Str, dcnt l = l.length ↔ l.Nodup
  | [] => by simp [dcnt]
  | x :: r => by
    have ih := dcnt_nodup r
    have le := dcnt_le r
    unfold dcnt
    by_cases hx : x ∈ r
    · rw [if_pos hx]
      constructor
      · intro h; simp at h; omega
      · intro h; exact absurd hx (List.nodup_cons.mp h).1
    · rw [if_neg hx, List.nodup_cons, ← ih]
      simp [hx]
/-- the count of a front, as the set's own loop finds it -/
def fcnt (xs : List Str) : Nat → Nat
  | 0 => 0
  | i + 1 => if (xs.take i).any (· == xs.getD i Str.empty) then fcnt xs i else fcnt xs i + 1
theorem fcnt_le (xs : List Str) : ∀ i, fcnt xs i ≤ i
  | 0 => Nat.le_refl _
  | i + 1 => by
    have ih := fcnt_le xs i
    unfold fcnt
    split <;> omega
theorem fcnt_eq_iff (xs : List Str) : ∀ i, i ≤ xs.length → (fcnt xs i = i ↔ (xs.take i).Nodup)
  | 0, _ => by simp [fcnt]
  | i + 1, hi => by
    have ih := fcnt_eq_iff xs i (by omega)
    have le := fcnt_le xs i
    have e : xs.getD i Str.empty = xs[i] := by simp [show i < xs.length by omega]
    have e2 : xs.take (i + 1) = xs.take i ++ [xs[i]] := by
      rw [List.take_add_one, List.getElem?_eq_getElem (by omega)]; rfl
    unfold fcnt
    rw [e, e2]
    by_cases hm : xs[i] ∈ xs.take i
    · have hb : ((xs.take i).any (· == xs[i])) = true := List.any_eq_true.mpr ⟨_, hm, by simp⟩
      rw [if_pos hb]
      constructor
      · intro h; omega
      · intro h
        have := (List.nodup_append.mp h).2.2
        exact absurd rfl (this _ hm _ (by simp))
    · have hb : ((xs.take i).any (· == xs[i])) = false := by
        cases q : (xs.take i).any (· == xs[i]) with
        | false => rfl
        | true =>
          obtain ⟨y, hy, ey⟩ := List.any_eq_true.mp q
          exact absurd ((eq_of_beq ey) ▸ hy) hm
      rw [if_neg (by rw [hb]; decide)]
      constructor
      · intro h
        have h2 := ih.mp (by omega)
        refine List.nodup_append.mpr ⟨h2, by simp, fun a ha b hb' => ?_⟩
        simp at hb'
        subst hb'
        intro q; subst q; exact hm ha
      · intro h
        have := ih.mpr (List.nodup_append.mp h).1
        omega

section
variable {P : Program} {w : World} {A : Around} {R : Result → Shared → Prop} {it : Addr} {fp wr : List Addr} {G : Array GenState → Array GenState → Prop} {n : Nat} {Yl : Nat → Value → Prop} {Z : Nat → Shared → Prop}
abbrev sAt (xs : List Str) (i : Nat) : Str → Bool := fun k => (xs.take i).any fun y => y == k
theorem set_turns (W : WalksS P w A.in1 it fp wr G n Yl Z) (T : Addr) (hT : T ∉ fp) (xs : List Str) (hx : xs.length = n) (hn : n ≤ 1000)
    (yl : ∀ i v, Yl i v → ∃ tk, v = .str (xs.getD i Str.empty) tk) (m : Nat) :
    ∀ (i : Nat) (s : Shared), n - i = m → i ≤ n → Z i s → s.heap.SetOf (strKind P w) T (sAt xs i) (fcnt xs i) →
      (∀ s1, Moved (T :: wr) G s s1 → s1.heap.SetOf (strKind P w) T (sAt xs n) (fcnt xs n) → R (.ok (.ret .none)) s1) →
      codeAny (model P w) A (.builtin "set.update.loop" ⟨[.ref T, .ref it], []⟩) R s := by
  have hw : T ∉ wr := fun q => hT (W.sub _ q)
  have up : ∀ b ∈ wr, b ∈ T :: wr := fun b q => List.mem_cons_of_mem _ q
  induction m with
  | zero =>
    intro i s hm hi hz hset out
    obtain rfl : i = n := by omega
    refine codeAny_builtin F.entry_set_update_loop ?_
    rw [Around.under_plainId F.plain_set_update_loop _]
    show wpAny _ A.in1 (pyNext (.ref it) >>= _) _ _ s
    refine wpAny_bind (W.done s _ _ hz fun s1 mv => ?_)
    show wpAny _ A.in1 (ret Value.none) _ _ s1
    refine wpAny_pure (out s1 (mv.mono up) ?_)
    obtain ⟨o, es, ep, tb, ho, more⟩ := hset
    exact ⟨o, es, ep, tb, mv.heap T _ hw ho, more⟩
  | succ m ih =>
    intro i s hm hi hz hset out
    have lt : i < n := by omega
    refine codeAny_builtin F.entry_set_update_loop ?_
    rw [Around.under_plainId F.plain_set_update_loop _]
    show wpAny _ A.in1 (pyNext (.ref it) >>= _) _ _ s
    refine wpAny_bind (W.item i s _ _ lt hz fun v s1 hy hz1 mv => ?_)
    obtain ⟨tk, rfl⟩ := yl i v hy
    have set1 : s1.heap.SetOf (strKind P w) T (sAt xs i) (fcnt xs i) := by
      obtain ⟨o, es, ep, tb, ho, more⟩ := hset
      exact ⟨o, es, ep, tb, mv.heap T _ hw ho, more⟩
    show wpAny _ A.in1 (holding [Value.str (xs.getD i Str.empty) tk] (setAdd T (.str (xs.getD i Str.empty) tk)) >>= _) _ _ s1
    refine wpAny_bind (wpAny_holding ?_)
    unfold setAdd
    refine wpAny_holding (wpAny_bind ((strKind P w).pyHash (k := xs.getD i Str.empty) (strKind_is _ _ _ _) ?_))
    have fl := fcnt_le xs i
    refine wpAny_setAddHashed_of (knd := strKind P w) (s := { s1 with toks := s1.toks + 1 }) (strKind_is _ _ _ _) rfl set1 (by unfold scanBound; omega) fun h2 sb set2 => ?_
    have set3 : h2.SetOf (strKind P w) T (sAt xs (i + 1)) (fcnt xs (i + 1)) := by
      refine SetOf_congr set2 (fun k => ?_) (by rfl)
      have e : xs.getD i Str.empty = xs[i]'(by omega) := by simp [show i < xs.length by omega]
      have e2 : xs.take (i + 1) = xs.take i ++ [xs[i]'(by omega)] := by
        rw [List.take_add_one, List.getElem?_eq_getElem (by omega)]; rfl
      show (sAt xs i k || decide (k = xs.getD i Str.empty)) = (xs.take (i + 1)).any fun y => y == k
      rw [e2, List.any_append, e]
      show _ = (sAt xs i k || ([xs[i]'(by omega)].any fun y => y == k))
      congr 1
      by_cases q : k = xs[i]'(by omega)
      · rw [← q]; simp
      · have q2 : ((xs[i]'(by omega)) == k) = false := by simpa using fun z => q z.symm
        simp [q, q2]
    refine wpAny_pure ⟨plainId_quiet F.plain_set_update_loop _, ih (i + 1) _ (by omega) lt (W.frame _ s1 _ _ hz1 (Nat.le_succ _) fun b hb o e => ?_) set3 fun s3 mv3 set4 => ?_⟩
    · rw [sb.2 b fun z => hT (z ▸ hb)]; exact e
    · refine out s3 (Moved.trans W.gtrans ((mv.mono up).then_heap (Nat.le_succ _) fun b o hb e => ?_) mv3) set4
      rw [sb.2 b fun z => hb (z ▸ List.mem_cons_self)]; exact e
end
end SB

set_option Elab.async false
set_option linter.all false
set_option maxRecDepth 100000
set_option maxHeartbeats 8000000
namespace SB
open PySem PySem.Spec PyProof.Rows L2
section
variable {P : Program} {w : World} {A : Around} {E : Value → Shared → Prop} {s : Shared}
/-- an empty set that was just laid -/
abbrev set0 (led : Bool) : Obj := { cls := .type "set", dict := none, data := .set #[] 0 (.fresh 0 0 led) }
theorem set_init_tup {led : Bool} {l : Addr} {items : Array Value} {xs : List Str} {Q : Value → Shared → Prop} (hh : A.handled = none) (hl : s.heap.IsTuple l items) (hi : StrsAre items.toList xs) (hb : xs.length ≤ 1000)
    (k : ∀ (h1 : Heap) (tk : Nat), h1.SetOf (strKind P w) s.heap.objs.size (sAt xs xs.length) (fcnt xs xs.length) → (∀ b o, s.heap.get? b = some o → h1.get? b = some o) → Q .none { s with heap := h1, toks := tk }) :
    codeAny (model P w) A (.call (.builtin "set.__init__") ⟨[.ref s.heap.objs.size, .ref l], []⟩) (wants Q E) { s with heap := s.heap.push (set0 led) } := by
  have new : (s.heap.push (set0 led)).get? s.heap.objs.size = some (set0 led) := Heap.get?_push_size _ rfl
  have ty : Shared.TypeIs { s with heap := s.heap.push (set0 led) } (.ref s.heap.objs.size) "set" := ⟨_, new, rfl⟩
  refine codeAny_call_builtin F.called_set.init.plain F.entry_set_init (check_set_init_1 ty ?_)
  obtain ⟨ol, hol, hcl, nl, hdl⟩ := hl
  obtain ⟨oc, od, odt, osl⟩ := ol
  simp only at hcl hdl
  subst hcl; subst hdl
  have old : (s.heap.push (set0 led)).get? l = some { cls := .type "tuple", dict := od, data := .seq items nl, slots := osl } := Heap.get?_push_of_some _ hol
  have q1 := F.sub_tuple_set
  have q2 := F.sub_tuple_frozenset
  have q3 : (Value.type "tuple" == Value.type "dict") = false := by decide
  have tup1 : (s.heap.push (set0 led)).IsTuple l items := ⟨_, old, rfl, nl, rfl⟩
  unfold Builtin.«set.__init__» noKeywords Builtin.Frozenset.updateFrom
  generalize hp : pyIter = pit
  wp_walk
  subst hp
  refine wpAny_pyIter_tuple tup1 (wpAny_bind (wpAny_runValue ?_))
  have lt : l < s.heap.objs.size := Heap.lt_size hol
  have ne1 : l ≠ (s.heap.push (set0 led)).objs.size := by
    rw [Heap.size_push]; exact Nat.ne_of_lt (Nat.lt_succ_of_lt lt)
  have ne2 : s.heap.objs.size ∉ [(s.heap.push (set0 led)).objs.size, l] := by
    rw [Heap.size_push]
    intro z
    rcases List.mem_cons.mp z with z | z
    · exact absurd z (Nat.ne_of_lt (Nat.lt_succ_self _))
    · exact absurd (List.mem_singleton.mp z) (Nat.ne_of_gt lt)
  have sz : xs.length = items.size := by rw [← StrsAre.len_eq hi, Array.length_toList]
  have h3 : A.in1.in1.handled = none := by simp [hh]
  refine set_turns ((Walks.tuple h3 _ l ne1 items).toS) s.heap.objs.size ne2 xs sz (by omega) (fun i v hv => SS.strs_at hi i v (by rw [Array.getElem?_toList]; exact hv)) (items.size - 0) 0 _ (by omega) (Nat.zero_le _)
    ?c2 ?c0 ?c1
  case c2 => exact ⟨⟨_, Heap.get?_push_size _ rfl, rfl, rfl⟩, tup1.push _⟩
  case c0 =>
    have g : ((s.heap.push (set0 led)).push { cls := .type "tuple_iterator", data := .fields #[.ref l, .int 0 0] }).get? s.heap.objs.size = some (set0 led) := Heap.get?_push_of_some _ new
    exact SetOf_congr ((setObjOf_fresh (knd := strKind P w) led).setOf g (by unfold scanBound; omega)) (fun _ => rfl) rfl
  case c1 =>
    intro s1 mv set1
    obtain ⟨h1, g1, d1, tk1, os1⟩ := s1
    obtain rfl : g1 = s.gens := mv.gens
    obtain rfl : d1 = s.drawn := mv.drawn
    obtain rfl : os1 = s.os := mv.os
    show wpAny _ _ _ _ _ _
    refine wpAny_pure ?_
    show wpAny _ _ (ret Value.none) _ _ _
    rw [← sz] at set1
    refine wpAny_pure (k h1 tk1 set1 fun b o e => ?_)
    have b1 : b ≠ s.heap.objs.size := Nat.ne_of_lt (Heap.lt_size e)
    have b2 : b ≠ (s.heap.push (set0 led)).objs.size := by
      rw [Heap.size_push]; exact Nat.ne_of_lt (Nat.lt_succ_of_lt (Heap.lt_size e))
    refine mv.heap b o (fun z => ?_) (Heap.get?_push_of_some _ (Heap.get?_push_of_some _ e))
    rcases List.mem_cons.mp z with z | z
    · exact b1 z
    · exact b2 (List.mem_singleton.mp z)
theorem call_set_tup {l : Addr} {items : Array Value} {xs : List Str} {Q : Value → Shared → Prop} (hh : A.handled = none) (hl : s.heap.IsTuple l items) (hi : StrsAre items.toList xs) (hb : xs.length ≤ 1000)
    (k : ∀ (h1 : Heap) (tk : Nat), h1.SetOf (strKind P w) s.heap.objs.size (sAt xs xs.length) (fcnt xs xs.length) → (∀ b o, s.heap.get? b = some o → h1.get? b = some o) → Q (.ref s.heap.objs.size) { s with heap := h1, toks := tk }) :
    wpAny (model P w) A (call (.type "set") [.ref l]) Q E s := by
  obtain ⟨c, tl, mro⟩ := F.called_set.mro
  have made := F.called_set.made
  have sub := F.called_set.sub
  refine wpAny_call (codeAny_of_tree ?_)
  show wpAny _ _ (callAny (.type "set") _) _ _ _
  refine wpAny_pure ⟨Code.quiet_builtin _ (by decide +kernel), codeAny_builtin F.entry_type_call ?_⟩
  rw [Around.under_plain (weight_type_call_type "set" [.ref l] []) rfl]
  have z1 := F.called_set.notType
  have z2 := F.called_set.canCreate
  have z3 := F.typeCall_set_1 (.ref l)
  repeat (any_goals (first | assumption | wp_step))
  refine codeAny_mono (code_set_new_1 (.ref l) (E := E) (Q₁ := fun obj s1 => ∃ led : Bool, obj = .ref s.heap.objs.size ∧ s1 = { s with heap := s.heap.push (set0 led) }) fun led => ⟨led, rfl, rfl⟩) fun r s1 hr => ?_
  cases r with
  | error e => exact hr
  | ok fl =>
    cases fl with
    | ret obj =>
      obtain ⟨led, rfl, rfl⟩ := hr
      have li := F.called_set.init.lookup
      have bi := F.called_set.init.bind (.ref s.heap.objs.size)
      have new : (s.heap.push (set0 led)).get? s.heap.objs.size = some (set0 led) := Heap.get?_push_size _ rfl
      have ty : Shared.TypeIs { s with heap := s.heap.push (set0 led) } (.ref s.heap.objs.size) "set" := ⟨_, new, rfl⟩
      repeat (any_goals (first | assumption | wp_step))
      refine codeAny_mono (set_init_tup (s := s) (led := led) (P := P) (w := w) (E := E) (Q := fun r s2 => r = .none ∧ Q (.ref s.heap.objs.size) s2) (by simp [hh]) hl hi hb fun h1 tk a b => ⟨rfl, k h1 tk a b⟩) fun r2 s2 hr2 => ?_
      cases r2 with
      | error e => exact hr2
      | ok fl2 =>
        cases fl2 with
        | ret v =>
          obtain ⟨rfl, q⟩ := hr2
          repeat (any_goals (first | assumption | wp_step))
        | _ => exact hr2.elim
    | _ => exact hr.elim
end
/-- len(set(t)), t a tuple of texts -/
def tLenSetT (K : PySem.W.Frag) (ta : TE) : TE := fun σ H Q => ta σ H fun x H1 => ∃ (l : Addr) (xs : List Str), x = .ref l ∧ SqT K H1 l (xs.map V.str) ∧ xs.length ≤ 1000 ∧ Q (.int (fcnt xs xs.length : Nat)) H1
theorem pe_lenSetT {X : Cx} {a : Expr} {ta : TE} {p p2 q pos : Pos} (calm : X.calm = true) (gl : Gl X "len") (ml : X.mg "len" = none) (gs : Gl X "set") (ms : X.mg "set" = none) (ha : PE X a ta)
    (st : starEach [a] X.env = (false, eval a X.env) :: starEach [] X.env := by rfl) : PE X (.Call (.Name "len" p) [.Call (.Name "set" p2) [a] [] q] [] pos) (tLenSetT X.K ta) := by
  refine ⟨fun pins s σ H Q I h => ?_⟩
  refine Call_ (ld_blt I gl ml boot_len (callWith_builtin1 (args_cons ?_ rfl) rfl rfl))
  refine Call_ (ld_blt I gs ms boot_set ?_)
  refine callWith_type1 (args_cons (thn (ha.run pins s σ H _ I h) fun v s1 ⟨x, H1, I1, r1, y⟩ => args_nil ?_) st) st rfl
  obtain ⟨l, xs, rfl, hq, hb, y⟩ := y
  cases r1
  obtain ⟨its, r, pl, hz⟩ := I1.tuple hq
  refine call_set_tup (I1.ok.hd calm) pl (by simpa using strsAre_of r) hb fun h1 tk hs hk => args_nil ?_
  obtain ⟨o, es, ep, t, ho, hex, hd, _, _, _, hf, hn⟩ := hs
  have I2 : Inv X pins σ H1 { s1 with heap := h1, toks := tk } := I1.kept hk
  have fl := fcnt_le xs xs.length
  exact call_len_set ho hex hd hf (by rw [hn] <;> omega) ⟨.int (fcnt xs xs.length : Nat), H1, I2.tok _, ⟨_, by rw [hn]⟩, y⟩
end SB

set_option Elab.async false
set_option linter.all false
set_option maxRecDepth 100000
set_option maxHeartbeats 4000000
/-! own __contains__, __getitem__, __len__, __eq__ -/
namespace SB
open PySem PySem.Spec PyProof.Rows L2
section
variable {X : Cx} {CX : CXT} {k : Nat} {f C : Addr} {fd : FuncData} {ps : List Str} {sp : Sp} {E : XK}
theorem rv_ref {a : Addr} : L2.RelV (.ref a) (.ref a) := rfl
/-- a callee called at an inner place of the body -/
theorem run_at {A : Around} {pins : List (Addr × Obj)} {σ : L2.St} {H : Hp} {s : Shared} {Q : VK} {us : List Value} {vs : List V} (fr : A.frames = X.A.frames) (F : FnOk X.prog X.w X.K X.mg X.base CX k f fd ps sp) (hr : Room k A) (hb : Binds X.K fd ps []) (hx : Passes CX X E)
    (I : Inv X pins σ H s) (r : Vals vs us) (h : sp vs H Q E) : wpAny (model X.prog X.w) A (call (.ref f) us) (EP X pins σ Q) X.xe s := by
  have hl : us.length = ps.length := by rw [← r.length]; exact F.len _ _ _ _ h
  have e0 : Env0 X.prog X.w X.K X.mg X.base A X.stack s H := by
    have e := I.env0
    exact ⟨by rw [fr]; exact e.frames, e.mod, e.bs, e.bsz, e.funs, e.frf, e.hok, e.bare⟩
  have hb2 := hb s us I.kIn (by simpa using hl)
  rw [List.append_nil] at hb2
  refine wpAny_call (codeAny_mono (F.run A X.stack s H ⟨us, []⟩ us vs Q E hr e0 hb2 r h) fun r2 s2 hq => ?_)
  cases r2 with
  | error e => exact hx pins σ H s e s2 I hq
  | ok fl =>
    cases fl with
    | ret u => exact I.after hq
    | next => exact False.elim hq
    | brk => exact False.elim hq
    | cont => exact False.elim hq
/-- an own method that stands for an operator -/
structure Dun (K : PySem.W.Frag) (C : Addr) (n : Str) (f : Addr) : Prop where
  at_ : PySem.W.findIn K (.ref C) n = some (some (.ref f))
  fn : PySem.W.isFn K (.ref f) = true
theorem inst_of {pins : List (Addr × Obj)} {σ : L2.St} {H : Hp} {s : Shared} {a dx : Addr} {fs : List (Str × V)} (I : Inv X pins σ H s) (ha : H a = some (.ins C dx fs)) : ∃ (ox : Obj) (od : Option Obj), PySem.W.InstAt s.heap a ox C od := by
  obtain ⟨mA, J, _⟩ := ins_get I.hok ha
  obtain ⟨od, J, _⟩ := J.look
  exact ⟨_, _, J⟩
/-- x in o, o with its own __contains__ -/
def rInO (C : Addr) (sp : Sp) (E : XK) (neg : Bool) : R2 := fun x y H Q => ∃ a dx fs, y = .ref a ∧ H a = some (.ins C dx fs) ∧ sp [.ref a, x] H (fun v H2 => ∃ b, v = .bl b ∧ Q (.bl (if neg then !b else b)) H2) E
theorem op_inO (D : Dun X.K C "__contains__" f) (F : FnOk X.prog X.w X.K X.mg X.base CX k f fd ps sp) (hr : Room k X.A) (hb : Binds X.K fd ps []) (hx : Passes CX X E) : OpR X (compareOp .In) (rInO C sp E false) := by
  intro pins s σ H x y v u Q I rx ry h
  obtain ⟨a, dx, fs, rfl, ha, q⟩ := h
  cases ry
  obtain ⟨ox, od, J⟩ := inst_of I ha
  obtain ⟨m, hF⟩ := I.fr
  refine PySem.W.in_K hF I.ok.mod.kin J D.at_ D.fn (wpAny_mono (run_at rfl F hr hb hx I (.cons (rv_ref (a := a)) (.cons rx .nil)) q) (fun r s2 z => ?_) fun _ _ z => z)
  obtain ⟨w, H2, I2, rw', b, rfl, q2⟩ := z
  cases rw'
  exact wpAny_truthy_bool ⟨.bl b, H2, I2, rfl, q2⟩
theorem op_notInO (D : Dun X.K C "__contains__" f) (F : FnOk X.prog X.w X.K X.mg X.base CX k f fd ps sp) (hr : Room k X.A) (hb : Binds X.K fd ps []) (hx : Passes CX X E) : OpR X (compareOp .NotIn) (rInO C sp E true) := by
  intro pins s σ H x y v u Q I rx ry h
  obtain ⟨a, dx, fs, rfl, ha, q⟩ := h
  cases ry
  obtain ⟨ox, od, J⟩ := inst_of I ha
  obtain ⟨m, hF⟩ := I.fr
  refine PySem.W.notIn_K hF I.ok.mod.kin J D.at_ D.fn (wpAny_mono (run_at rfl F hr hb hx I (.cons (rv_ref (a := a)) (.cons rx .nil)) q) (fun r s2 z => ?_) fun _ _ z => z)
  obtain ⟨w, H2, I2, rw', b, rfl, q2⟩ := z
  cases rw'
  exact wpAny_truthy_bool ⟨.bl (!b), H2, I2, rfl, q2⟩
/-- o[x], o with its own __getitem__ -/
def tSubO (C : Addr) (sp : Sp) (E : XK) (ta tb : TE) : TE := fun σ H Q => ta σ H fun y H1 => tb σ H1 fun x H2 => ∃ a dx fs, y = .ref a ∧ H2 a = some (.ins C dx fs) ∧ sp [.ref a, x] H2 Q E
theorem pe_subO {a b : Expr} {ta tb : TE} {pos : Pos} (D : Dun X.K C "__getitem__" f) (fi : PySem.W.fnIn X.K f = true) (F : FnOk X.prog X.w X.K X.mg X.base CX k f fd ps sp) (hr : Room (k + 1) X.A) (hb : Binds X.K fd ps []) (hx : Passes CX X E) (ha : PE X a ta) (hb2 : PE X b tb)
    (hsl : ∀ o i, subscripted b true o i = runValue (.builtin "lifetime.subscript" ⟨[o, i], []⟩) := by intro _ _; rfl) : PE X (.Subscript a b pos) (tSubO C sp E ta tb) := by
  refine ⟨fun pins s σ H Q I h => ?_⟩
  refine Subscript_ (binT ha hb2 I h fun v u s2 x y H2 I2 rx ry z => ?_)
  obtain ⟨p, dx, fs, rfl, hp, q⟩ := z
  cases rx
  obtain ⟨ox, od, J⟩ := inst_of I2 hp
  obtain ⟨m, hF⟩ := I2.fr
  exact PySem.W.sub_K hF I2.ok.mod.kin J D.at_ fi D.fn (run_at rfl F hr.in1 hb hx I2 (.cons (rv_ref (a := p)) (.cons ry .nil)) q) (hsl _ _)
/-- len(o), o with its own __len__ -/
def rLenO (C : Addr) (sp : Sp) (E : XK) : List V → Hp → VK → Prop := fun xs H Q => ∃ a dx fs, xs = [.ref a] ∧ H a = some (.ins C dx fs) ∧ sp [.ref a] H (fun v H2 => ∃ n : Int, v = .int n ∧ 0 ≤ n ∧ n < 2 ^ 63 ∧ Q (.int n) H2) E
theorem call_lenO (D : Dun X.K C "__len__" f) (F : FnOk X.prog X.w X.K X.mg X.base CX k f fd ps sp) (hr : Room (k + 1) X.A) (hb : Binds X.K fd ps []) (hx : Passes CX X E) : CallR X (.builtin "len") (rLenO C sp E) := by
  intro pins s σ H xs us Q I r h
  obtain ⟨a, dx, fs, rfl, ha, q⟩ := h
  cases r with
  | cons r1 r2 =>
    cases r1; cases r2
    obtain ⟨ox, od, J⟩ := inst_of I ha
    obtain ⟨m, hF⟩ := I.fr
    refine PySem.W.len_K hF I.ok.mod.kin J D.at_ D.fn (wpAny_mono (run_at rfl F hr.in1 hb hx I (.cons (rv_ref (a := a)) .nil) q) (fun r s2 z => ?_) fun _ _ z => z)
    obtain ⟨w, H2, I2, rw', n, rfl, h0, h1, q2⟩ := z
    obtain ⟨t, rfl⟩ := rw'
    exact ⟨⟨h0, h1⟩, ⟨.int n, H2, I2.tok _, ⟨_, rfl⟩, q2⟩⟩
/-- o == x, o with its own __eq__; x of a type that does not stand below C, or C itself -/
def rEqO (K : PySem.W.Frag) (C : Addr) (sp : Sp) (E : XK) : R2 := fun x y H Q => ∃ a dx fs t, x = .ref a ∧ H a = some (.ins C dx fs) ∧ TyX K H y t ∧ PySem.W.notFirst K C t = true ∧ sp [.ref a, y] H (fun v H2 => ∃ b, v = .bl b ∧ Q (.bl b) H2) E
theorem op_eqO (D : Dun X.K C "__eq__" f) (F : FnOk X.prog X.w X.K X.mg X.base CX k f fd ps sp) (hr : Room k X.A) (hb : Binds X.K fd ps []) (hx : Passes CX X E) : OpR X (compareOp .Eq) (rEqO X.K C sp E) := by
  intro pins s σ H x y v u Q I rx ry h
  obtain ⟨a, dx, fs, t, rfl, ha, ty, nf, q⟩ := h
  cases rx
  obtain ⟨ox, od, J⟩ := inst_of I ha
  obtain ⟨m, hF⟩ := I.fr
  obtain ⟨Pr, Z, p, hne⟩ := kit_of I ry ty
  show wpAny (model X.prog X.w) X.A (richCompare .Eq (.ref a) u) (EP X pins σ Q) X.xe s
  refine PySem.W.cmp_K (op := .Eq) hr.units0 hF I.ok.mod.kin J (Z.ty _ _ I.kIn p) nf D.at_ D.fn (wpAny_mono (run_at rfl F hr hb hx I (.cons (rv_ref (a := a)) (.cons ry .nil)) q) (fun r s2 z => ?_) fun _ _ z => z)
  obtain ⟨w, H2, I2, rw', b, rfl, q2⟩ := z
  cases rw'
  exact ⟨.bl b, H2, I2, rfl, q2⟩
end
end SB

set_option Elab.async false
set_option linter.all false
set_option maxRecDepth 100000
set_option maxHeartbeats 4000000
/-! the program's own errors: made, raised, their one value read -/
namespace SB
open PySem PySem.Spec PyProof.Rows L2 Evl
/-- the base class of the errors, as the top leaves it -/
structure LdC (K : PySem.W.Frag) (mg : Str → Option Value) (L : Addr) : Prop where
  g : mg "LoadError" = some (.ref L)
  ga : PySem.W.specialIn K (.ref L) "__getattribute__" = some (some (.builtin "type.__getattribute__"))
  rd : PySem.W.readsIn K L (.type "type") = true
  fc : PySem.W.findCls K (.ref L) (.type "type") "__init__" = some (.val (.builtin "ValueError.__init__"))
section
variable {X : Cx} {e : Expr} {es : List Expr} {ta : TA} {p1 p2 pos : Pos} {L : Addr}
/-- LoadError.__init__(self, ..) -/
theorem pe_linit {pl : Sem Bool} (T : LdC X.K X.mg L) (gl : Gl X "LoadError") (ha : PA X (e :: es) ta)
    (hc : eval (.Call (.Attribute (.Name "LoadError" p1) "__init__" p2) (e :: es) [] pos) X.env = (do
      let o ← eval (.Name "LoadError" p1) X.env
      standAt p2.atName
      let (g, fst) ← holding [o] (getMethod o "__init__" pl)
      callWith pos g fst (backTo pos (starEach (e :: es) X.env)) (backToKw pos (keywordEach [] X.env))) := by rfl)
    (st : starEach (e :: es) X.env = (false, eval e X.env) :: starEach es X.env := by rfl) (pn : (backTo pos (starEach es X.env)).any (·.1) = false := by rfl) :
    PE X (.Call (.Attribute (.Name "LoadError" p1) "__init__" p2) (e :: es) [] pos) (tVeI X.K ta) := by
  refine ⟨fun pins s σ H Q I h => PySem.W.methodCall_KW (ld_glob I gl T.g ?_) hc⟩
  refine PySem.W.method_cls I.kIn T.ga (PySem.W.cls_value I.kIn T.rd T.fc (by decide +kernel) ?_)
  show wpAny _ _ (callWith pos (Value.builtin "ValueError.__init__") [] (backTo pos (starEach (e :: es) X.env)) []) _ _ _
  refine callWith_method1 (thn (ha.run pos pins _ σ H _ (I.tok _) h) fun us s1 ⟨vs, H1, I1, r1, a, C, ws, ev, hl, T2, ea, q⟩ => ?_) st pn
  subst ev
  cases r1 with
  | @cons _ u0 _ ur ra rw' =>
    obtain rfl : u0 = Value.ref a := ra
    refine oinit_ok T2 I1 ea ?_ fun s2 J => ⟨.non, H1, J, rfl, q⟩
    rw [← Paired.length rw', sizeLine_eq]
    omega
end
/-- what an error's __init__ does: its one value is kept under f -/
def spXi (K : PySem.W.Frag) (C : Addr) (f : Str) : Sp := fun vs H Q _ => ∃ (a : Addr) (v : V), vs = [.ref a, v] ∧ H a = some (exo a C none) ∧
  ∀ dx, H dx = none → dx ≠ a → Q .non (upd (upd H dx (exd dx [(f, v)])) a (exo a C (some dx)))
/-- an error class of the program: its maker keeps f -/
structure XC (K : PySem.W.Frag) (mg : Str → Option Value) (x : Str) (f : Str) (C fi : Addr) : Prop where
  g : mg x = some (.ref C)
  o : OexC K C
  i : PySem.W.findIn K (.ref C) "__init__" = some (some (.ref fi))
  t : PySem.W.typeIn K (.ref fi) = some (.type "function")
  no : PySem.W.findIn K (.ref C) f = some none
  xf : XfC K C
  te : PySem.W.exmOne K (.ref C) (.ref C) = some true
/-- X(e): the new error's class and its dict -/
def tMkX (C : Addr) (f : Str) (ta : TA) : L2.St → Hp → XK → Prop := fun σ H Q => ta σ H fun vs H1 => ∃ v, vs = [v] ∧ ∀ d H2, Ex H1 H2 → H1 d = none → H2 d = some (.xd [(f, v)]) → Q (.ref C) (some d) H2
section
variable {X : Cx} {x f : Str} {C fi : Addr} {fd : FuncData} {k : Nat} {p pos : Pos} {e : Expr} {ta : TA}
/-- arguments, by any wish that implies -/
def tMonoA (t : TA) : TA := fun σ H Q => ∃ Q0 : List V → Hp → Prop, t σ H Q0 ∧ ∀ vs H1, Q0 vs H1 → Q vs H1
theorem pa_mono {es : List Expr} {t : TA} (h : PA X es t) : PA X es (tMonoA t) := by
  refine ⟨fun pos pins s σ H Q I z => ?_⟩
  obtain ⟨Q0, z, m⟩ := z
  exact thn (h.run pos pins s σ H Q0 I z) fun us s1 ⟨vs, H1, I1, r, q⟩ => ⟨vs, H1, I1, r, m vs H1 q⟩
theorem exd_ne {a e C : Addr} {d : Option Addr} {fs : List (Str × V)} {H : Hp} (h : H a = none) (he : H e = some (exo e C d)) : e ≠ a := fun z => by
  rw [z, h] at he; cases he
theorem pmk_x (T : XC X.K X.mg x f C fi) (F1 : FnOk X.prog X.w X.K X.mg X.base CX0 k fi fd ["self", f] (spXi X.K C f)) (hr : Room (k + 1) X.A) (hb : Binds X.K fd ["self", f] []) (ha : PA X [e] ta) (gl : Gl X x)
    (hdb : (x == ("__debug__" : Str)) = false := by decide) (he : starEach (e :: []) X.env = (false, eval e X.env) :: starEach [] X.env := by rfl) (hpl : (backTo pos (starEach [] X.env)).any (·.1) = false := by rfl) :
    PMk X (.Call (.Name x p) [e] [] pos) (tMkX C f ta) := by
  intro pins s σ H Q I h
  refine pmk_oex T.o T.i T.t F1 hr hb .nil pass0 gl T.g (pa_mono ha) hdb he hpl pins s σ H Q I ⟨_, h, fun vs H1 z => ?_⟩
  obtain ⟨v, rfl, q⟩ := z
  refine ⟨by show 1 ≤ 1000; decide, fun a na => ⟨a, v, rfl, upd_same, fun dx ndx ne => ⟨rfl, dx, [(f, v)], upd_same, ?_, ?_, ?_⟩⟩⟩
  · rw [upd_ne ne, upd_same]
  · rw [upd_ne ne] at ndx; exact ndx
  · have nd : H1 dx = none := by rw [upd_ne ne] at ndx; exact ndx
    refine q dx _ (fun b o hb => ?_) nd upd_same
    have b1 : b ≠ dx := ne_of_none hb nd
    have b2 : b ≠ a := ne_of_none hb na
    rw [upd_ne b1, del_ne b2, upd_ne b2, upd_ne b1, upd_ne b2]
    exact hb
end
end SB

set_option Elab.async false
set_option linter.all false
set_option maxRecDepth 100000
set_option maxHeartbeats 4000000
/-! readings step by step -/
namespace SB
open PySem L2 Evl
/-! ### the frozen part of a heap: G stands in H, and no m of M is in it -/
structure Fz (M : List Addr) (G H : Hp) : Prop where
  ex : Ex G H
  out : ∀ m ∈ M, G m = none
theorem Fz.up {M : List Addr} {G H H1 : Hp} (z : Fz M G H) (e : Ex H H1) : Fz M G H1 := ⟨z.ex.trans e, z.out⟩
theorem Fz.to {M : List Addr} {G H H1 : Hp} (z : Fz M G H) (e : ∀ b o, b ∉ M → H b = some o → H1 b = some o) : Fz M G H1 :=
  ⟨fun b o h => e b o (fun hm => by rw [z.out b hm] at h; cases h) (z.ex b o h), z.out⟩
/-- all that stands but M -/
def wo (M : List Addr) (H : Hp) : Hp := fun a => if a ∈ M then none else H a
theorem wo_fz (M : List Addr) (H : Hp) : Fz M (wo M H) H := ⟨fun b o h => by
  unfold wo at h
  split at h
  · cases h
  · exact h, fun m hm => by unfold wo; rw [if_pos hm]⟩
theorem wo_at {M : List Addr} {H : Hp} {a : Addr} {o : HO} (h : H a = some o) (hm : a ∉ M) : wo M H a = some o := by unfold wo; rw [if_neg hm]; exact h
theorem Fz.wo {M : List Addr} {G H : Hp} (z : Fz M G H) : Ex G (SB.wo M H) := fun b o h => wo_at (z.ex b o h) fun hm => by rw [z.out b hm] at h; cases h
/-- what is new in H1 joins the frozen part -/
theorem Fz.grow {M : List Addr} {G H H1 : Hp} (z : Fz M G H) (e : Ex H H1) (hM : ∀ m ∈ M, H m ≠ none) : ∃ G1, Ex G G1 ∧ Fz M G1 H1 ∧ ∀ b o, H b = none → H1 b = some o → G1 b = some o :=
  ⟨SB.wo M H1, (z.up e).wo, wo_fz M H1, fun b o hn hb => wo_at hb fun hm => hM b hm hn⟩

section
variable {σ : L2.St} {H : Hp} {D : Ends} {t u : TS} {te ta tb : TE} {tA tB : TA} {tt : TT} {g : TG} {Q : VK} {QA : List V → Hp → Prop} {QT : Bool → Hp → Prop} {i : Nat} {v : V} {r : R2} {K : PySem.W.Frag}
theorem r_seq (h : t { D with nx := u D } σ H) : tSeq t u D σ H := h
theorem r_next (h : D.nx σ H) : tNext D σ H := h
theorem r_asg (h : te σ H fun x H1 => g x σ H1 D.nx) : tAsg te g D σ H := h
theorem r_name {Q : L2.St → Hp → Prop} (h : Q (σ.set i (some v)) H) : gName i v σ H Q := h
theorem r_ret (h : te σ H D.rt) : tRet te D σ H := h
theorem r_retN (h : D.rt .non H) : tRetN D σ H := h
theorem r_drop (h : te σ H fun _ H1 => D.nx σ H1) : tDrop te D σ H := h
theorem r_if (h : tt σ H fun b H1 => if b = true then t D σ H1 else u D σ H1) : tIfS tt t u D σ H := h
theorem r_var (h : σ[i]? = some (some v)) (q : Q v H) : tVar i σ H Q := ⟨v, h, q⟩
theorem r_c (q : Q v H) : tC v σ H Q := q
theorem r_op (h : ta σ H fun x H1 => tb σ H1 fun y H2 => r x y H2 Q) : tOp r ta tb σ H Q := h
theorem r_un {r : V → Hp → VK → Prop} (h : ta σ H fun x H1 => r x H1 Q) : tUn r ta σ H Q := h
theorem r_nil (h : QA [] H) : tNil σ H QA := h
theorem r_cons (h : ta σ H fun x H1 => tA σ H1 fun xs H2 => QA (x :: xs) H2) : tCons ta tA σ H QA := h
theorem r_CB {r : List V → Hp → VK → Prop} (h : tA σ H fun vs H1 => r vs H1 Q) : tCB r tA σ H Q := h
theorem r_call {sp : Sp} {dvs : List V} {E : XK} (h : tA σ H fun vs H1 => sp (vs ++ dvs) H1 Q E) : tCall sp dvs E tA σ H Q := h
theorem r_test {te : TE} (h : te σ H fun x H1 => ∃ k, x = .bl k ∧ QT k H1) : tTest te σ H QT := h
theorem r_B {te : TE} (h : te σ H fun x H1 => ∃ k, x = .bl k ∧ QT k H1) : L2.tB te σ H QT := h
theorem r_not {tt : TT} (h : tt σ H fun c H1 => QT (!c) H1) : tNot tt σ H QT := h
theorem r_and {tt uu : TT} (h : tt σ H fun c H1 => if c = true then uu σ H1 QT else QT false H1) : tAnd tt uu σ H QT := h
theorem r_or {tt uu : TT} (h : tt σ H fun c H1 => if c = true then QT true H1 else uu σ H1 QT) : tOr tt uu σ H QT := h
theorem r_notV (h : ta σ H fun x H1 => ∃ c, x = .bl c ∧ Q (.bl (!c)) H1) : tNotV ta σ H Q := h
theorem r_andV (h : ta σ H fun x H1 => ∃ c, x = .bl c ∧ if c = true then tb σ H1 Q else Q (.bl false) H1) : tAndV ta tb σ H Q := h
theorem r_orV (h : ta σ H fun x H1 => ∃ c, x = .bl c ∧ if c = true then Q (.bl true) H1 else tb σ H1 Q) : tOrV ta tb σ H Q := h
theorem r_ifE {tt : TT} (h : tt σ H fun c H1 => if c = true then ta σ H1 Q else tb σ H1 Q) : tIf tt ta tb σ H Q := h
theorem r_bl {c : Bool} {P : Bool → Prop} (h : P c) : ∃ k, V.bl c = .bl k ∧ P k := ⟨c, rfl, h⟩
/-- int op int -/
theorem r_I0 {g : Int → Int → V} {a b : Int} (h : Q (g a b) H) : rI0 g (.int a) (.int b) H Q := ⟨a, b, rfl, rfl, h⟩
theorem r_I {C : Int → Int → Prop} {g : Int → Int → V} {a b : Int} (c : C a b) (h : Q (g a b) H) : rI C g (.int a) (.int b) H Q := ⟨a, b, rfl, rfl, c, h⟩
theorem r_eq {x y : V} (s : scal x y = true) (h : Q (.bl (decide (x = y))) H) : rEq x y H Q := ⟨s, h⟩
theorem r_ne {x y : V} (s : scal x y = true) (h : Q (.bl (!decide (x = y))) H) : rNe x y H Q := ⟨s, h⟩
/-- new lists and tuples -/
theorem r_lst (h : tA σ H fun xs H1 => xs.length ≤ 100000 ∧ ∀ p H2, H1 p = none → Ex H1 H2 → H2 p = some (.lst xs) → Q (.ref p) H2) : tLst (tMonoA tA) σ H Q :=
  ⟨_, h, fun xs H1 z => ⟨sz_of z.1, fun p hp => z.2 p _ hp (Ex.new hp) upd_same⟩⟩
theorem r_iteT {A B : Prop} {c : Bool} (hc : c = true) (h : A) : if c = true then A else B := by rw [if_pos hc]; exact h
theorem r_iteF {A B : Prop} {c : Bool} (hc : c = false) (h : B) : if c = true then A else B := by rw [hc, if_neg Bool.false_ne_true]; exact h
theorem r_ite {A B : Prop} {c : Bool} (h1 : c = true → A) (h2 : c = false → B) : if c = true then A else B := by
  cases c with
  | true => exact iteT (h1 rfl)
  | false => exact iteF (h2 rfl)
/-- the size premise of a new list or tuple, and the new place -/
theorem r_new {xs : List V} {o : HO} {H1 : Hp} (hl : xs.length ≤ 100000) (q : ∀ p H2, H1 p = none → Ex H1 H2 → H2 p = some o → Q (.ref p) H2) : xs.length ≤ sizeLine ∧ ∀ p, H1 p = none → Q (.ref p) (upd H1 p o) :=
  ⟨sz_of hl, fun p hp => q p _ hp (Ex.new hp) upd_same⟩
theorem r_new0 {o : HO} {H1 : Hp} (q : ∀ p H2, H1 p = none → Ex H1 H2 → H2 p = some o → Q (.ref p) H2) : ∀ p, H1 p = none → Q (.ref p) (upd H1 p o) := fun p hp => q p _ hp (Ex.new hp) upd_same
theorem r_tupT (h : tA σ H fun xs H1 => xs.length ≤ sizeLine ∧ ∀ p, H1 p = none → Q (.ref p) (upd H1 p (.tup xs))) : tTup tA σ H Q := h
theorem r_lstT (h : tA σ H fun xs H1 => xs.length ≤ sizeLine ∧ ∀ p, H1 p = none → Q (.ref p) (upd H1 p (.lst xs))) : tLst tA σ H Q := h
end
end SB

set_option Elab.async false
namespace SB
open PySem L2 Evl
/-- a drawing well at p: at most n mixed draws so far -/
def WellAt (H : Hp) (p : Addr) (n : Nat) : Prop := ∃ a b c : Int, H p = some (.lst [.int a, .int b, .int c]) ∧ 0 ≤ b ∧ b < 2147483647 ∧ 0 ≤ c ∧ c ≤ n
/-- all that stands but p stands -/
def Sm (p : Addr) (H H' : Hp) : Prop := ∀ b o, b ≠ p → H b = some o → H' b = some o
theorem WellAt.le {H : Hp} {p : Addr} {n m : Nat} (h : WellAt H p n) (e : n ≤ m) : WellAt H p m := by
  obtain ⟨a, b, c, h1, h2, h3, h4, h5⟩ := h
  exact ⟨a, b, c, h1, h2, h3, h4, by omega⟩
theorem WellAt.up {H H1 : Hp} {p : Addr} {n : Nat} (h : WellAt H p n) (e : Ex H H1) : WellAt H1 p n := by
  obtain ⟨a, b, c, h1, h2⟩ := h
  exact ⟨a, b, c, e _ _ h1, h2⟩
theorem WellAt.some {H : Hp} {p : Addr} {n : Nat} (h : WellAt H p n) : H p ≠ none := by
  obtain ⟨a, b, c, h1, _⟩ := h
  rw [h1]; intro z; cases z
theorem Sm.trans {p : Addr} {H H1 H2 : Hp} (a : Sm p H H1) (b : Sm p H1 H2) : Sm p H H2 := fun c o hc h => b c o hc (a c o hc h)
theorem Sm.of {p : Addr} {H H1 : Hp} (e : Ex H H1) : Sm p H H1 := fun b o _ h => e b o h
theorem Sm.refl {p : Addr} {H : Hp} : Sm p H H := fun _ _ _ h => h
theorem Sm.seq {K : PySem.W.Frag} {p l : Addr} {H H1 : Hp} {xs : List V} (e : Sm p H H1) (hl : l ≠ p) (h : SqL K H l xs) : SqL K H1 l xs := by
  rcases h with (h | ⟨o, h⟩) | h
  · exact .inl (.inl (e _ _ hl h))
  · exact .inl (.inr ⟨o, e _ _ hl h⟩)
  · exact .inr h
theorem atI0 {α : Type} {a b c : α} : atI [a, b, c] 0 = some a := rfl
theorem atI1 {α : Type} {a b c : α} : atI [a, b, c] 1 = some b := rfl
theorem atI2 {α : Type} {a b c : α} : atI [a, b, c] 2 = some c := rfl
theorem r_ixL {K : PySem.W.Frag} {p : Addr} {i : Int} {xs : List V} {v : V} {H : Hp} {Q : VK} (h : SqL K H p xs) (e : atI xs i = some v) (q : Q v H) : rIxL K (.ref p) (.int i) H Q := ⟨p, xs, i, v, rfl, rfl, h, e, q⟩
theorem r_setL {p : Addr} {i : Int} {xs : List V} {v : V} {j : Nat} {H : Hp} {Q : Hp → Prop} (h : H p = some (.lst xs)) (e : ixN xs.length i = some j) (q : ∀ H1, H1 p = some (.lst (xs.set j v)) → Sm p H H1 → Q H1) : rSetL (.ref p) (.int i) v H Q :=
  ⟨p, xs, i, j, rfl, rfl, h, e, q _ upd_same fun b o hb hh => by rw [upd_ne hb]; exact hh⟩
theorem r_sub {to ti : TE} {t : TSet} {v : V} {σ : L2.St} {H : Hp} {Q : L2.St → Hp → Prop} (h : to σ H fun o H1 => ti σ H1 fun i H2 => t o i v H2 fun H3 => Q σ H3) : gSub to ti t v σ H Q := h
theorem fmod_lt {x m : Int} (h : 0 < m) : 0 ≤ x.fmod m ∧ x.fmod m < m := ⟨Int.fmod_nonneg_of_pos _ h, Int.fmod_lt_of_pos _ h⟩
theorem atI_lt {α : Type} {xs : List α} {i : Int} (h0 : 0 ≤ i) (h1 : i < xs.length) : ∃ v, atI xs i = some v ∧ xs[i.toNat]? = some v := by
  have hl : i.toNat < xs.length := by omega
  refine ⟨xs[i.toNat], ?_, List.getElem?_eq_getElem hl⟩
  unfold atI ixN
  rw [if_pos h0, if_pos (by omega)]
  simp
/-! ### readings by name -/
theorem call_lenQ {X : Cx} : CallR X (.builtin "len") (rLenS X.K) := call_len_seq
theorem r_lenL {K : PySem.W.Frag} {p : Addr} {ys : List V} {H : Hp} {Q : VK} (h : SqL K H p ys) (q : Q (.int ys.length) H) : rLenS K [V.ref p] H Q := ⟨p, ys, rfl, .inl h, q⟩
theorem r_lenT {K : PySem.W.Frag} {p : Addr} {ys : List V} {H : Hp} {Q : VK} (h : SqT K H p ys) (q : Q (.int ys.length) H) : rLenS K [V.ref p] H Q := ⟨p, ys, rfl, .inr h, q⟩
def rLenStr : List V → Hp → VK → Prop := fun xs H Q => ∃ z, xs = [.str z] ∧ z.length ≤ sizeLine ∧ Q (.int (z.length : Nat)) H
theorem call_listQ {X : Cx} : CallR X (.type "list") (rListS X.K) := call_list_of
theorem r_listL {K : PySem.W.Frag} {p : Addr} {ys : List V} {H : Hp} {Q : VK} (h : SqL K H p ys) (q : ∀ l H1, H l = none → Ex H H1 → H1 l = some (.lst ys) → Q (.ref l) H1) : rListS K [V.ref p] H Q := ⟨p, ys, rfl, .inl h, r_new0 q⟩
theorem r_listT {K : PySem.W.Frag} {p : Addr} {ys : List V} {H : Hp} {Q : VK} (h : SqT K H p ys) (q : ∀ l H1, H l = none → Ex H H1 → H1 l = some (.lst ys) → Q (.ref l) H1) : rListS K [V.ref p] H Q := ⟨p, ys, rfl, .inr h, r_new0 q⟩
def rTupQ (K : PySem.W.Frag) : List V → Hp → VK → Prop := fun xs H Q => ∃ p ys, xs = [.ref p] ∧ ((SqL K H p ys ∧ ∀ l, H l = none → Q (.ref l) (upd H l (.tup ys))) ∨ (SqT K H p ys ∧ Q (.ref p) H))
theorem call_tupQ {X : Cx} : CallR X (.type "tuple") (rTupQ X.K) := call_tuple_of
theorem r_tupL {K : PySem.W.Frag} {p : Addr} {ys : List V} {H : Hp} {Q : VK} (h : SqL K H p ys) (q : ∀ l H1, H l = none → Ex H H1 → H1 l = some (.tup ys) → Q (.ref l) H1) : rTupQ K [V.ref p] H Q := ⟨p, ys, rfl, .inl ⟨h, r_new0 q⟩⟩
theorem r_tupT' {K : PySem.W.Frag} {p : Addr} {ys : List V} {H : Hp} {Q : VK} (h : SqT K H p ys) (q : Q (.ref p) H) : rTupQ K [V.ref p] H Q := ⟨p, ys, rfl, .inr ⟨h, q⟩⟩
def rIntQ : List V → Hp → VK → Prop := fun xs H Q => (∃ i, xs = [.int i] ∧ Q (.int i) H) ∨ ∃ k, xs = [.bl k] ∧ Q (.int (if k then 1 else 0)) H
theorem call_intQ {X : Cx} : CallR X (.type "int") rIntQ := call_int1
theorem r_intB {k : Bool} {H : Hp} {Q : VK} (q : Q (.int (if k then 1 else 0)) H) : rIntQ [.bl k] H Q := .inr ⟨k, rfl, q⟩
theorem r_all {K : PySem.W.Frag} {p : Addr} {bs : List Bool} {H : Hp} {Q : VK} (h : SqL K H p (bs.map V.bl)) (q : Q (.bl (bs.all id)) H) : rAll K [V.ref p] H Q := ⟨p, bs, rfl, h, q⟩
theorem r_any {K : PySem.W.Frag} {p : Addr} {bs : List Bool} {H : Hp} {Q : VK} (h : SqL K H p (bs.map V.bl)) (q : Q (.bl (bs.any id)) H) : rAny K [V.ref p] H Q := ⟨p, bs, rfl, h, q⟩
theorem r_isi {K : PySem.W.Frag} {x c : V} {t u : Value} {b : Bool} {H : Hp} {Q : VK} (hc : ClsV c u) (ty : TyX K H x t) (e : PySem.W.kitOne K t u = some b) (q : Q (.bl b) H) : rIsi K [x, c] H Q := ⟨x, c, t, u, b, rfl, hc, ty, e, q⟩
theorem r_chain {r r' : R2} {ta tb tc : TE} {σ : L2.St} {H : Hp} {Q : VK} (h : ta σ H fun x H1 => tb σ H1 fun y H2 => r x y H2 fun z H3 => ∃ k, z = .bl k ∧ (if k = true then tc σ H3 fun w' H4 => r' y w' H4 Q else Q (.bl false) H3)) : tChain r r' ta tb tc σ H Q := h
theorem r_lenSetT {K : PySem.W.Frag} {ta : TE} {σ : L2.St} {H : Hp} {Q : VK} (h : ta σ H fun x H1 => ∃ (l : Addr) (xs : List Str), x = .ref l ∧ SqT K H1 l (xs.map V.str) ∧ xs.length ≤ 1000 ∧ Q (.int (fcnt xs xs.length : Nat)) H1) : tLenSetT K ta σ H Q := h
/-! ### displays -/
def tLstM (tA : TA) : TE := fun σ H Q => tA σ H fun xs H1 => xs.length ≤ 100000 ∧ ∀ p H2, H1 p = none → Ex H1 H2 → H2 p = some (.lst xs) → Q (.ref p) H2
def tTupM (tA : TA) : TE := fun σ H Q => tA σ H fun xs H1 => xs.length ≤ 100000 ∧ ∀ p H2, H1 p = none → Ex H1 H2 → H2 p = some (.tup xs) → Q (.ref p) H2
theorem PE.by {X : Cx} {e : Expr} {t t' : TE} (h : PE X e t) (i : ∀ σ H Q, t' σ H Q → t σ H Q) : PE X e t' := ⟨fun pins s σ H Q I q => h.run pins s σ H Q I (i σ H Q q)⟩
theorem pe_lstM {X : Cx} {es : List Expr} {tA : TA} {pos : Pos} (h : PA X es tA) : PE X (.List es pos) (tLstM tA) :=
  PE.by (pe_lst (pa_mono h)) fun _ _ _ q => ⟨_, q, fun _ _ z => r_new z.1 z.2⟩
theorem pe_tupM {X : Cx} {es : List Expr} {tA : TA} {k : Nat} {pos : Pos} (h : PA X es tA) : PE X (.Tuple es k pos) (tTupM tA) :=
  PE.by (pe_tup (pa_mono h)) fun _ _ _ q => ⟨_, q, fun _ _ z => r_new z.1 z.2⟩
section
variable {tA : TA} {σ : L2.St} {H : Hp} {Q : VK}
theorem r_lstM (h : tA σ H fun xs H1 => xs.length ≤ 100000 ∧ ∀ p H2, H1 p = none → Ex H1 H2 → H2 p = some (.lst xs) → Q (.ref p) H2) : tLstM tA σ H Q := h
theorem r_tupM (h : tA σ H fun xs H1 => xs.length ≤ 100000 ∧ ∀ p H2, H1 p = none → Ex H1 H2 → H2 p = some (.tup xs) → Q (.ref p) H2) : tTupM tA σ H Q := h
end
/-! ### + and slices -/
theorem OpR.by {X : Cx} {f : Value → Value → Sem Value} {r r' : R2} (h : OpR X f r) (i : ∀ x y H Q, r' x y H Q → r x y H Q) : OpR X f r' := fun pins s σ H x y v u Q I rx ry q => h pins s σ H x y v u Q I rx ry (i x y H Q q)
def rCatM : R2 := fun x y H Q => ∃ l b xs zs, x = .ref l ∧ y = .ref b ∧ H l = some (.lst xs) ∧ H b = some (.lst zs) ∧ xs.length + zs.length ≤ 100000 ∧ ∀ p H1, H p = none → Ex H H1 → H1 p = some (.lst (xs ++ zs)) → Q (.ref p) H1
theorem op_catM {X : Cx} : OpR X (binaryOp .Add) rCatM := OpR.by op_cat fun x y H Q ⟨l, b, xs, zs, e1, e2, h1, h2, hz, q⟩ => ⟨l, b, xs, zs, e1, e2, h1, h2, sz_of hz, r_new0 q⟩
theorem r_catM {l b : Addr} {xs zs : List V} {H : Hp} {Q : VK} (h1 : H l = some (.lst xs)) (h2 : H b = some (.lst zs)) (hz : xs.length + zs.length ≤ 100000) (q : ∀ p H1, H p = none → Ex H H1 → H1 p = some (.lst (xs ++ zs)) → Q (.ref p) H1) : rCatM (.ref l) (.ref b) H Q :=
  ⟨l, b, xs, zs, rfl, rfl, h1, h2, hz, q⟩
def rCatTM (K : PySem.W.Frag) : R2 := fun x y H Q => ∃ a b xs ys, x = .ref a ∧ y = .ref b ∧ SqT K H a xs ∧ SqT K H b ys ∧ xs.length + ys.length ≤ 100000 ∧ ∀ p H1, Ex H H1 → SqT K H1 p (xs ++ ys) → Q (.ref p) H1
theorem op_catTM {X : Cx} : OpR X (binaryOp .Add) (rCatTM X.K) := OpR.by op_catA fun x y H Q ⟨a, b, xs, ys, e1, e2, h1, h2, hz, q⟩ => ⟨a, b, xs, ys, e1, e2, h1, h2, sz_of hz,
  fun e => q b H (Ex.refl H) (by rw [e]; exact h2), fun _ e => q a H (Ex.refl H) (by rw [e, List.append_nil]; exact h1), fun _ _ => r_new0 fun p H1 _ e hp => q p H1 e (st_of hp)⟩
theorem r_catTM {K : PySem.W.Frag} {a b : Addr} {xs ys : List V} {H : Hp} {Q : VK} (h1 : SqT K H a xs) (h2 : SqT K H b ys) (hz : xs.length + ys.length ≤ 100000) (q : ∀ p H1, Ex H H1 → SqT K H1 p (xs ++ ys) → Q (.ref p) H1) : rCatTM K (.ref a) (.ref b) H Q :=
  ⟨a, b, xs, ys, rfl, rfl, h1, h2, hz, q⟩
theorem SlR.by {X : Cx} {r r' : V → Option Int → Option Int → Hp → VK → Prop} (h : SlR X r) (i : ∀ x l u H Q, r' x l u H Q → r x l u H Q) : SlR X r' := fun pins s σ H x v vl vu lo hi sl Q I rx hs pl pu q => h pins s σ H x v vl vu lo hi sl Q I rx hs pl pu (i x lo hi H Q q)
def rSlLM (K : PySem.W.Frag) : V → Option Int → Option Int → Hp → VK → Prop := fun x lo hi H Q => ∃ a xs, x = .ref a ∧ SqL K H a xs ∧ ∀ p H1, H p = none → Ex H H1 → H1 p = some (.lst (cutV xs lo hi)) → Q (.ref p) H1
theorem sl_listM {X : Cx} : SlR X (rSlLM X.K) := SlR.by sl_list fun x l u H Q ⟨a, xs, e, h, q⟩ => ⟨a, xs, e, h, r_new0 q⟩
theorem r_slL {K : PySem.W.Frag} {a : Addr} {xs : List V} {lo hi : Option Int} {H : Hp} {Q : VK} (h : SqL K H a xs) (q : ∀ p H1, H p = none → Ex H H1 → H1 p = some (.lst (cutV xs lo hi)) → Q (.ref p) H1) : rSlLM K (.ref a) lo hi H Q := ⟨a, xs, rfl, h, q⟩
def rSlTM (K : PySem.W.Frag) : V → Option Int → Option Int → Hp → VK → Prop := fun x lo hi H Q => ∃ a xs, x = .ref a ∧ SqT K H a xs ∧ ∀ p H1, Ex H H1 → SqT K H1 p (cutV xs lo hi) → Q (.ref p) H1
theorem sl_tupM {X : Cx} : SlR X (rSlTM X.K) := SlR.by sl_tupA fun x l u H Q ⟨a, xs, e, h, q⟩ => ⟨a, xs, e, h, fun w => q a H (Ex.refl H) (by unfold cutV; rw [w.1, w.2]; simpa using h), fun _ => r_new0 fun p H1 _ e hp => q p H1 e (st_of hp)⟩
theorem r_slT {K : PySem.W.Frag} {a : Addr} {xs : List V} {lo hi : Option Int} {H : Hp} {Q : VK} (h : SqT K H a xs) (q : ∀ p H1, Ex H H1 → SqT K H1 p (cutV xs lo hi) → Q (.ref p) H1) : rSlTM K (.ref a) lo hi H Q := ⟨a, xs, rfl, h, q⟩
theorem r_sl {r : V → Option Int → Option Int → Hp → VK → Prop} {te : TE} {tl th : TO} {σ : L2.St} {H : Hp} {Q : VK} (h : te σ H fun x H1 => tl σ H1 fun l H2 => th σ H2 fun u H3 => r x l u H3 Q) : tSl r te tl th σ H Q := h
theorem r_noPart {σ : L2.St} {H : Hp} {Q : Option Int → Hp → Prop} (q : Q none H) : tNoPart σ H Q := q
theorem r_part {te : TE} {σ : L2.St} {H : Hp} {Q : Option Int → Hp → Prop} (h : te σ H fun x H1 => ∃ i, x = .int i ∧ Q (some i) H1) : tPart te σ H Q := h
theorem r_intEx {P : Int → Prop} {a : Int} (h : P a) : ∃ i, V.int a = .int i ∧ P i := ⟨a, rfl, h⟩
end SB

set_option Elab.async false
set_option linter.all false
set_option maxHeartbeats 4000000
namespace SB
open PySem L2 Evl
/-! ### readings closed upward -/
def mE (t : TE) : TE := fun σ H Q => ∃ Q0 : VK, t σ H Q0 ∧ ∀ v H1, Q0 v H1 → Q v H1
def mT (t : TT) : TT := fun σ H Q => ∃ Q0 : Bool → Hp → Prop, t σ H Q0 ∧ ∀ b H1, Q0 b H1 → Q b H1
def mG (t : TG) : TG := fun v σ H Q => ∃ Q0 : L2.St → Hp → Prop, t v σ H Q0 ∧ ∀ s H1, Q0 s H1 → Q s H1
section
variable {X : Cx}
theorem pe_m {e : Expr} {t : TE} (h : PE X e t) : PE X e (mE t) := ⟨fun pins s σ H Q I ⟨Q0, z, m⟩ => thn (h.run pins s σ H Q0 I z) fun _ _ ⟨v, H1, I1, r, q⟩ => ⟨v, H1, I1, r, m v H1 q⟩⟩
theorem pts_m {es : List Expr} {t : TT} (h : PTs X es t) : PTs X es (mT t) := ⟨fun pins s σ H Q I ⟨Q0, z, m⟩ => thn (h.run pins s σ H Q0 I z) fun b _ ⟨H1, I1, q⟩ => ⟨H1, I1, m b H1 q⟩⟩
theorem pt_m {e : Expr} {t : TT} (h : PT X e t) : PT X e (mT t) := ⟨fun pins s σ H Q I ⟨Q0, z, m⟩ => thn (h.run pins s σ H Q0 I z) fun b _ ⟨H1, I1, q⟩ => ⟨H1, I1, m b H1 q⟩⟩
theorem pg_m {e : Expr} {t : TG} (h : PG X e t) : PG X e (mG t) := ⟨fun pins s σ H v u Q I r ⟨Q0, z, m⟩ => thn (h.run pins s σ H v u Q0 I r z) fun _ _ ⟨s1, H1, I1, q⟩ => ⟨s1, H1, I1, m s1 H1 q⟩⟩
end
theorem mE_mono {t : TE} {σ : L2.St} {H : Hp} {Q Q' : VK} (h : mE t σ H Q) (i : ∀ v H1, Q v H1 → Q' v H1) : mE t σ H Q' := let ⟨Q0, z, m⟩ := h; ⟨Q0, z, fun v H1 q => i v H1 (m v H1 q)⟩
theorem mT_mono {t : TT} {σ : L2.St} {H : Hp} {Q Q' : Bool → Hp → Prop} (h : mT t σ H Q) (i : ∀ v H1, Q v H1 → Q' v H1) : mT t σ H Q' := let ⟨Q0, z, m⟩ := h; ⟨Q0, z, fun v H1 q => i v H1 (m v H1 q)⟩
theorem mG_mono {t : TG} {v : V} {σ : L2.St} {H : Hp} {Q Q' : L2.St → Hp → Prop} (h : mG t v σ H Q) (i : ∀ s H1, Q s H1 → Q' s H1) : mG t v σ H Q' := let ⟨Q0, z, m⟩ := h; ⟨Q0, z, fun v H1 q => i v H1 (m v H1 q)⟩
theorem mE_of {t : TE} {σ : L2.St} {H : Hp} {Q : VK} (h : t σ H Q) : mE t σ H Q := ⟨Q, h, fun _ _ q => q⟩
theorem mT_of {t : TT} {σ : L2.St} {H : Hp} {Q : Bool → Hp → Prop} (h : t σ H Q) : mT t σ H Q := ⟨Q, h, fun _ _ q => q⟩
theorem mG_of {t : TG} {v : V} {σ : L2.St} {H : Hp} {Q : L2.St → Hp → Prop} (h : t v σ H Q) : mG t v σ H Q := ⟨Q, h, fun _ _ q => q⟩
def tLcM (wi : TI) (g : TG) (tt : TT) (te : TE) (vs : List Nat) : TE := tLc wi (mG g) (mT tt) (mE te) vs
section
variable {X : Cx} {elt tg iter : Expr} {ifs : List Expr} {scope : Scope} {own : List (Str × Nat)} {pos : Pos} {wi : TI} {g : TG} {tt : TT} {te : TE}
theorem pe_lcM (hc : X.calm = true) (hN : X.N.Nodup) (hi : PI X tg iter wi) (ok : BlkOk X.N X.env.scope scope own)
    (hg : ∀ (s : Shared) (H : Hp) (C : Addr) (cl : List (Str × Addr)) (fp : List Addr), PG (X.blk s H scope (compEnvC scope cl C X.env) fp) tg g)
    (ht : ∀ (s : Shared) (H : Hp) (C : Addr) (cl : List (Str × Addr)) (fp : List Addr), PTs (X.blk s H scope (compEnvC scope cl C X.env) fp) ifs tt)
    (he : ∀ (s : Shared) (H : Hp) (C : Addr) (cl : List (Str × Addr)) (fp : List Addr), PE (X.blk s H scope (compEnvC scope cl C X.env) fp) elt te) (hs : ∀ x, foldedSetIterable iter X.env x = pure x := by intro _; rfl) :
    PE X (.ListComp elt [⟨tg, iter, ifs, 0⟩] scope pos) (tLcM wi g tt te (own.map (·.2))) :=
  pe_lc hc hN hi ok (fun s H C cl fp => pg_m (hg s H C cl fp)) (fun s H C cl fp => pts_m (ht s H C cl fp)) (fun s H C cl fp => pe_m (he s H C cl fp)) hs
theorem ps_setLcM {i : Nat} {y : Str} {py spos : Pos} (hc : X.calm = true) (hN : X.N.Nodup) (hy : X.N[i]? = some y) (hyl : X.env.scope.names.lookup y = some .local)
    (hsw : swapsWith (.ListComp elt [⟨tg, iter, ifs, 0⟩] scope pos) (some (.Name y py)) spos.line X.env = pure true) (hi : PI X tg iter wi) (ok : BlkOk X.N X.env.scope scope own)
    (hg : ∀ (s : Shared) (H : Hp) (C : Addr) (cl : List (Str × Addr)) (fp : List Addr), PG (X.blk s H scope (compEnvC scope cl C X.env) fp) tg g)
    (ht : ∀ (s : Shared) (H : Hp) (C : Addr) (cl : List (Str × Addr)) (fp : List Addr), PTs (X.blk s H scope (compEnvC scope cl C X.env) fp) ifs tt)
    (he : ∀ (s : Shared) (H : Hp) (C : Addr) (cl : List (Str × Addr)) (fp : List Addr), PE (X.blk s H scope (compEnvC scope cl C X.env) fp) elt te) (hs : ∀ x, foldedSetIterable iter X.env x = pure x := by intro _; rfl) :
    PS X (.Assign [.Name y py] (.ListComp elt [⟨tg, iter, ifs, 0⟩] scope pos) spos) (tAsg (tLcM wi g tt te (own.map (·.2))) (gName i)) :=
  ps_setLc hc hN hy hyl hsw hi ok (fun s H C cl fp => pg_m (hg s H C cl fp)) (fun s H C cl fp => pts_m (ht s H C cl fp)) (fun s H C cl fp => pe_m (he s H C cl fp)) hs
end
/-- what is left of a comprehension once its source is read -/
def LcEnd (J : It) (g : TG) (tt : TT) (te : TE) (vs : List Nat) (σ : L2.St) (H1 : Hp) (Q : VK) : Prop := ∀ D, H1 D = none → ∃ W : Nat → Nat → Hp → Prop, (∃ m, W 0 m (upd H1 D (.lst []))) ∧ ∀ i m H, W i m H →
  (J.stop i H ∧ Q (.ref D) H) ∨ (J.go i H ∧ ∃ Nx : Hp → Prop, (∀ H', Nx H' → ∃ m', m' < m ∧ W (i + 1) m' H') ∧ ∀ x H', J.yld i H x H' → mG g x (wipe σ vs) H' fun σ2 H2 => wipe σ2 vs = wipe σ vs ∧ mT tt σ2 H2 fun b H3 =>
    if b = true then mE te σ2 H3 fun y H4 => ∃ acc, H4 D = some (.lst acc) ∧ acc.length < sizeLine ∧ Nx (upd H4 D (.lst (acc ++ [y]))) else Nx H3)
theorem r_lc {wi : TI} {g : TG} {tt : TT} {te : TE} {vs : List Nat} {σ : L2.St} {H : Hp} {Q : VK} (h : wi σ H fun J H1 => LcEnd J g tt te vs σ H1 Q) : tLcM wi g tt te vs σ H Q := h
/-- a comprehension by its invariant R: the new list's place, the turn, what is in it, the heap -/
theorem lc_end {J : It} {n : Nat} {Gd : Hp → Prop} {Y : Nat → Hp → V → Hp → Prop} (w : Walk J n Gd Y) {g : TG} {tt : TT} {te : TE} {vs : List Nat} {σ : L2.St} {H1 : Hp} {Q : VK} (hn : n ≤ 50000) (R : Addr → Nat → List V → Hp → Prop)
    (h0 : ∀ D H2, H1 D = none → Ex H1 H2 → R D 0 [] H2) (hG : ∀ D i ys H, R D i ys H → Gd H) (hup : ∀ D i ys H acc, H1 D = none → R D i ys H → R D i ys (upd H D (.lst acc)))
    (hs : ∀ D i ys x H H', i < n → H1 D = none → R D i ys H → H D = some (.lst ys) → Y i H x H' → mG g x (wipe σ vs) H' fun σ2 H2 => wipe σ2 vs = wipe σ vs ∧ mT tt σ2 H2 fun b H3 =>
      if b = true then mE te σ2 H3 fun y H4 => H4 D = some (.lst ys) ∧ R D (i + 1) (ys ++ [y]) H4 else H3 D = some (.lst ys) ∧ R D (i + 1) ys H3)
    (hd : ∀ D ys H, H1 D = none → ys.length ≤ n → R D n ys H → H D = some (.lst ys) → Q (.ref D) H) : LcEnd J g tt te vs σ H1 Q := fun D hD => by
  refine lc_it w (fun i H => ∃ ys, R D i ys H ∧ H D = some (.lst ys) ∧ ys.length ≤ i) ⟨[], h0 D _ hD (Ex.new hD), upd_same, Nat.le_refl _⟩ (fun i H _ ⟨ys, r, _⟩ => hG D i ys H r) (fun i x H H' hi ⟨ys, r, d, l⟩ y => ?_) fun H ⟨ys, r, d, l⟩ => hd D ys H hD l r d
  refine mG_mono (hs D i ys x H H' hi hD r d y) fun σ2 H2 ⟨e1, q⟩ => ⟨e1, mT_mono q fun b H3 q => ?_⟩
  cases b with
  | true =>
    refine iteT (mE_mono q fun v H4 ⟨d4, r4⟩ => ⟨ys, d4, sz_lt (by omega), ys ++ [v], hup D _ _ _ _ hD r4, upd_same, ?_⟩)
    rw [List.length_append]
    exact Nat.succ_le_succ l
  | false => exact iteF ⟨ys, q.2, q.1, Nat.le_succ_of_le l⟩
/-- nothing is changed, the elements are flat -/
theorem lc_val {J : It} {n : Nat} {Gd : Hp → Prop} {Y : Nat → Hp → V → Hp → Prop} (w : Walk J n Gd Y) {g : TG} {tt : TT} {te : TE} {vs : List Nat} {σ : L2.St} {H1 : Hp} {Q : VK} (hn : n ≤ 50000) (hG : ∀ H, Ex H1 H → Gd H)
    (S : Nat → List V → Prop) (S0 : S 0 [])
    (hs : ∀ i ys x H H', i < n → Ex H1 H → S i ys → Y i H x H' → g x (wipe σ vs) H' fun σ2 H2 => wipe σ2 vs = wipe σ vs ∧ tt σ2 H2 fun b H3 =>
      if b = true then te σ2 H3 fun y H4 => Ex H H4 ∧ S (i + 1) (ys ++ [y]) else Ex H H3 ∧ S (i + 1) ys)
    (hd : ∀ D ys H, H1 D = none → Ex H1 H → S n ys → H D = some (.lst ys) → Q (.ref D) H) : LcEnd J g tt te vs σ H1 Q := by
  refine lc_end w hn (fun D i ys H => Ex H1 H ∧ S i ys) (fun D H2 hD e => ⟨e, S0⟩) (fun D i ys H r => hG H r.1) (fun D i ys H acc hD r => ⟨r.1.mut hD, r.2⟩) ?_ fun D ys H hD _ r hh => hd D ys H hD r.1 r.2 hh
  intro D i ys x H H' hi hD r hh y
  refine ⟨_, hs i ys x H H' hi r.1 r.2 y, fun σ2 H2 q => ⟨q.1, _, q.2, fun b H3 q => ?_⟩⟩
  cases b with
  | true => exact iteT ⟨_, q, fun v H4 q => ⟨q.1 _ _ hh, r.1.trans q.1, q.2⟩⟩
  | false => exact iteF ⟨q.1 _ _ hh, r.1.trans q.1, q.2⟩
/-- nothing is changed, the elements may be new things: S speaks of what is frozen -/
theorem lc_new {J : It} {n : Nat} {Gd : Hp → Prop} {Y : Nat → Hp → V → Hp → Prop} (w : Walk J n Gd Y) {g : TG} {tt : TT} {te : TE} {vs : List Nat} {σ : L2.St} {H1 : Hp} {Q : VK} (hn : n ≤ 50000) (hG : ∀ H, Ex H1 H → Gd H)
    (S : Nat → List V → Hp → Prop) (S0 : S 0 [] H1) (up : ∀ i ys H H', Ex H H' → S i ys H → S i ys H')
    (hs : ∀ i ys x G H H', i < n → Ex H1 G → Ex G H → S i ys G → Y i H x H' → g x (wipe σ vs) H' fun σ2 H2 => wipe σ2 vs = wipe σ vs ∧ tt σ2 H2 fun b H3 =>
      if b = true then te σ2 H3 fun y H4 => Ex H H4 ∧ ∀ G4, Ex G G4 → (∀ b o, H b = none → H4 b = some o → G4 b = some o) → (∀ b o, (∀ l, o ≠ .lst l) → H4 b = some o → G4 b = some o) → S (i + 1) (ys ++ [y]) G4 else Ex H H3 ∧ S (i + 1) ys G)
    (hd : ∀ D ys H, H1 D = none → Ex H1 H → S n ys H → H D = some (.lst ys) → Q (.ref D) H) : LcEnd J g tt te vs σ H1 Q := by
  refine lc_end w hn (fun D i ys H => ∃ G, Ex H1 G ∧ G D = none ∧ Ex G H ∧ S i ys G) (fun D H2 hD e => ⟨H1, Ex.refl _, hD, e, S0⟩) (fun D i ys H r => let ⟨G, a, _, b, _⟩ := r; hG H (a.trans b))
    (fun D i ys H acc hD r => let ⟨G, a, d, b, s⟩ := r; ⟨G, a, d, b.mut d, s⟩) ?_ fun D ys H hD _ r hh => let ⟨G, a, d, b, s⟩ := r; hd D ys H hD (a.trans b) (up _ _ _ _ b s) hh
  intro D i ys x H H' hi hD r hh y
  obtain ⟨G, a, d, b, s⟩ := r
  refine ⟨_, hs i ys x G H H' hi a b s y, fun σ2 H2 q => ⟨q.1, _, q.2, fun c H3 q => ?_⟩⟩
  cases c with
  | true =>
    refine iteT ⟨_, q, fun v H4 q => ⟨q.1 _ _ hh, wo [D] H4, ?_, ?_, (wo_fz [D] H4).ex, q.2 _ ?_ ?_ ?_⟩⟩
    · exact (Fz.mk (M := [D]) (a.trans (b.trans q.1)) (fun m hm => by rw [List.mem_singleton.mp hm]; exact hD)).wo
    · unfold wo; rw [if_pos (List.mem_singleton.mpr rfl)]
    · exact (Fz.mk (M := [D]) (b.trans q.1) (fun m hm => by rw [List.mem_singleton.mp hm]; exact d)).wo
    · exact fun b o hn hb => wo_at hb fun hm => by rw [List.mem_singleton.mp hm, hh] at hn; cases hn
    · exact fun b o hn hb => wo_at hb fun hm => by
        rw [List.mem_singleton.mp hm, q.1 _ _ hh] at hb
        exact hn _ (Option.some.inj hb).symm
  | false => exact iteF ⟨q.1 _ _ hh, G, a, d, b.trans q.1, q.2⟩
/-- the well at p is drawn from, c + k * (turn) times at most; the elements are flat -/
theorem lc_draw {J : It} {n : Nat} {Gd : Hp → Prop} {Y : Nat → Hp → V → Hp → Prop} (w : Walk J n Gd Y) {g : TG} {tt : TT} {te : TE} {vs : List Nat} {σ : L2.St} {H1 : Hp} {Q : VK} (hn : n ≤ 50000) (p : Addr) (c k : Nat) (w0 : WellAt H1 p c)
    (hG : ∀ H, Sm p H1 H → Gd H) (S : Nat → List V → Prop) (S0 : S 0 [])
    (hs : ∀ i ys x H H', i < n → Sm p H1 H → WellAt H p (c + k * i) → S i ys → Y i H x H' → g x (wipe σ vs) H' fun σ2 H2 => wipe σ2 vs = wipe σ vs ∧ tt σ2 H2 fun b H3 =>
      if b = true then te σ2 H3 fun y H4 => Sm p H H4 ∧ WellAt H4 p (c + k * (i + 1)) ∧ S (i + 1) (ys ++ [y]) else Sm p H H3 ∧ WellAt H3 p (c + k * (i + 1)) ∧ S (i + 1) ys)
    (hd : ∀ D ys H, H1 D = none → Sm p H1 H → WellAt H p (c + k * n) → S n ys → H D = some (.lst ys) → Q (.ref D) H) : LcEnd J g tt te vs σ H1 Q := by
  have np : ∀ {D}, H1 D = none → D ≠ p := fun {D} hD e => w0.some (e ▸ hD)
  refine lc_end w hn (fun D i ys H => Sm p H1 H ∧ WellAt H p (c + k * i) ∧ S i ys) (fun D H2 hD e => ⟨Sm.of e, w0.up e, S0⟩) (fun D i ys H r => hG H r.1)
    (fun D i ys H acc hD r => ⟨fun b o hb h => by rw [upd_ne (ne_of_none h hD)]; exact r.1 b o hb h, ?_, r.2.2⟩) ?_ fun D ys H hD _ r hh => hd D ys H hD r.1 r.2.1 r.2.2 hh
  · obtain ⟨x, y, z, h, q⟩ := r.2.1
    exact ⟨x, y, z, by rw [upd_ne (np hD).symm]; exact h, q⟩
  intro D i ys x H H' hi hD r hh y
  refine ⟨_, hs i ys x H H' hi r.1 r.2.1 r.2.2 y, fun σ2 H2 q => ⟨q.1, _, q.2, fun b H3 q => ?_⟩⟩
  cases b with
  | true => exact iteT ⟨_, q, fun v H4 q => ⟨q.1 _ _ (np hD) hh, r.1.trans q.1, q.2.1, q.2.2⟩⟩
  | false => exact iteF ⟨q.1 _ _ (np hD) hh, r.1.trans q.1, q.2.1, q.2.2⟩
theorem r_iL {K : PySem.W.Frag} {tl : TE} {σ : L2.St} {H : Hp} {R : It → Hp → Prop} (h : tl σ H fun x H1 => ∃ a, x = .ref a ∧ (∃ xs, SqL K H1 a xs) ∧ R (Itl K a) H1) : iList K tl σ H R := h
theorem r_iT {K : PySem.W.Frag} {tl : TE} {σ : L2.St} {H : Hp} {R : It → Hp → Prop} (h : tl σ H fun x H1 => ∃ a, x = .ref a ∧ (∃ xs, SqT K H1 a xs) ∧ R (Itt K a) H1) : iTup K tl σ H R := h
theorem r_iS {tl : TE} {σ : L2.St} {H : Hp} {R : It → Hp → Prop} (h : tl σ H fun v H1 => ∃ x, v = .str x ∧ R (Its x) H1) : iStr tl σ H R := h
theorem r_iR1 {ta : TA} {σ : L2.St} {H : Hp} {R : It → Hp → Prop} (h : ta σ H fun vs H1 => ∃ j : Int, vs = [.int j] ∧ -(2 ^ 62) ≤ j ∧ j < 2 ^ 62 ∧ R (Itr 0 j.toNat) H1) : iRng1 ta σ H R := h
theorem r_iR2 {ta : TA} {σ : L2.St} {H : Hp} {R : It → Hp → Prop} (h : ta σ H fun vs H1 => ∃ i j : Int, vs = [.int i, .int j] ∧ (-(2 ^ 62) ≤ i ∧ i < 2 ^ 62 ∧ -(2 ^ 62) ≤ j ∧ j < 2 ^ 62) ∧ R (Itr i (j - i).toNat) H1) : iRng2 ta σ H R := h
theorem r_for {wi : TI} {g : TG} {tb : TS} {D : Ends} {σ : L2.St} {H : Hp} (h : wi σ H fun J H1 => ∃ W : Nat → Nat → L2.St → Hp → Prop, (∃ m, W 0 m σ H1) ∧ ∀ i m σ H, W i m σ H →
    (J.stop i H ∧ D.nx σ H) ∨ (J.go i H ∧ ∃ N : L2.St → Hp → Prop, (∀ σ' H', N σ' H' → ∃ m', m' < m ∧ W (i + 1) m' σ' H') ∧ ∀ x H', J.yld i H x H' → g x σ H' fun σ2 H2 => tb { D with nx := N, ct := N, bk := D.nx } σ2 H2)) : tFor wi g tb D σ H := h
theorem r_yes {σ : L2.St} {H : Hp} {Q : Bool → Hp → Prop} (q : Q true H) : tYes σ H Q := q
/-! ### texts -/
theorem call_lenStrQ {X : Cx} : CallR X (.builtin "len") rLenStr := call_len_str
theorem r_lenStr {z : Str} {H : Hp} {Q : VK} (h : z.length ≤ 100000) (q : Q (.int (z.length : Nat)) H) : rLenStr [.str z] H Q := ⟨z, rfl, sz_of h, q⟩
theorem r_inS {c : Nat} {z : Str} {H : Hp} {Q : VK} (q : Q (.bl (decide (c ∈ z.cps.toList))) H) : rInS (.str ⟨#[c]⟩) (.str z) H Q := ⟨c, z, rfl, rfl, q⟩
/-- the letters -/
def letters : List Nat := ("abcdefghijklmnopqrstuvwxyz" : Str).cps.toList
def isWord (z : Str) : Bool := decide (1 ≤ z.length) && decide (z.length ≤ 12) && z.cps.toList.all fun c => decide (c ∈ letters)
theorem isWord_len {z : Str} (h : isWord z = true) : 1 ≤ z.length ∧ z.length ≤ 12 := by
  unfold isWord at h
  simp only [Bool.and_eq_true, decide_eq_true_eq] at h
  exact h.1
/-- x in xs, flat things -/
theorem r_inL {K : PySem.W.Frag} {x : V} {p : Addr} {xs : List V} {H : Hp} {Q : VK} (h : SqL K H p xs) (hx : flatV x = true) (ha : xs.all flatV = true) (q : Q (.bl (inV x xs)) H) : rIn K false x (.ref p) H Q := ⟨p, xs, rfl, .inl h, hx, ha, q⟩
theorem r_inT {K : PySem.W.Frag} {x : V} {p : Addr} {xs : List V} {H : Hp} {Q : VK} (h : SqT K H p xs) (hx : flatV x = true) (ha : xs.all flatV = true) (q : Q (.bl (inV x xs)) H) : rIn K false x (.ref p) H Q := ⟨p, xs, rfl, .inr h, hx, ha, q⟩
theorem r_ninL {K : PySem.W.Frag} {x : V} {p : Addr} {xs : List V} {H : Hp} {Q : VK} (h : SqL K H p xs) (hx : flatV x = true) (ha : xs.all flatV = true) (q : Q (.bl (!inV x xs)) H) : rIn K true x (.ref p) H Q := ⟨p, xs, rfl, .inl h, hx, ha, q⟩
theorem r_ninT {K : PySem.W.Frag} {x : V} {p : Addr} {xs : List V} {H : Hp} {Q : VK} (h : SqT K H p xs) (hx : flatV x = true) (ha : xs.all flatV = true) (q : Q (.bl (!inV x xs)) H) : rIn K true x (.ref p) H Q := ⟨p, xs, rfl, .inr h, hx, ha, q⟩
theorem flat_str (xs : List Str) : (xs.map V.str).all flatV = true := by
  induction xs with
  | nil => rfl
  | cons x r ih => simpa [flatV] using ih
theorem inV_str (z : Str) (xs : List Str) : inV (.str z) (xs.map V.str) = decide (z ∈ xs) := by
  induction xs with
  | nil => simp [inV]
  | cons x r ih =>
    unfold inV at ih ⊢
    rw [List.map_cons, List.any_cons, ih]
    by_cases e : z = x
    · subst e; simp [eqV]
    · have e2 : eqV (.str x) (.str z) = false := by simp [eqV]; exact fun q => e q.symm
      rw [e2]
      simp [e]
/-- a type that is told stays told -/
theorem tyX_up {K : PySem.W.Frag} {H H' : Hp} {x : V} {t : Value} (e : Ex H H') (h : TyX K H x t) : TyX K H' x t := by
  cases h with
  | base b =>
    refine .base ?_
    cases b with
    | non => exact .non
    | bl y => exact .bl y
    | int i => exact .int i
    | str y => exact .str y
    | flt y => exact .flt y
    | lst h => exact .lst (e _ _ h)
    | frz h => exact .frz (e _ _ h)
    | tup h => exact .tup (e _ _ h)
    | dK h => exact .dK (e _ _ h)
    | dT h => exact .dT (e _ _ h)
    | ins h a b c d f => exact .ins (e _ _ h) a b c d f
  | byt b => exact .byt b
  | set h => exact .set (e _ _ h)
  | kList h c => exact .kList h c
  | kTuple h c => exact .kTuple h c
  | kDict h c => exact .kDict h c
  | fTuple h => exact .fTuple (e _ _ h)
  | fDict h => exact .fDict (e _ _ h)
theorem tyT {K : PySem.W.Frag} {H : Hp} {a : Addr} {xs : List V} (h : H a = some (.tup xs)) : TyX K H (.ref a) (.type "tuple") := .base (.tup h)
end SB

set_option Elab.async false
set_option linter.all false
set_option maxHeartbeats 4000000
/-! instances: their fields as written names beside a list of values -/
namespace SB
open PySem L2 Evl
def lkB (ks : List Str) (f : Str) (i : Nat) : Bool := decide (ks[i]? = some f) && (ks.take i).all fun k => decide (k ≠ f)
theorem zip_lookup : ∀ {ks : List Str} {vs : List V} {f : Str} {i : Nat}, lkB ks f i = true → (ks.zip vs).lookup f = vs[i]?
  | [], vs, f, i, h => by simp [lkB] at h
  | k :: ks, [], f, i, h => by simp [List.lookup]
  | k :: ks, v :: vs, f, 0, h => by
    have e : k = f := by simpa [lkB] using h
    subst e
    simp [List.zip_cons_cons, List.lookup]
  | k :: ks, v :: vs, f, i + 1, h => by
    unfold lkB at h
    rw [List.take_succ_cons, List.all_cons, Bool.and_eq_true, Bool.and_eq_true] at h
    obtain ⟨h1, h2, h3⟩ := h
    have ne : k ≠ f := by simpa using h2
    have b : (f == k) = false := by simpa using fun e => ne e.symm
    rw [List.zip_cons_cons, List.lookup_cons, b]
    have ih := zip_lookup (ks := ks) (vs := vs) (f := f) (i := i) (by unfold lkB; rw [Bool.and_eq_true]; exact ⟨by simpa using h1, h3⟩)
    simpa using ih
theorem zip_none : ∀ {ks : List Str} {vs : List V} {f : Str}, ks.all (fun k => decide (k ≠ f)) = true → (ks.zip vs).lookup f = none
  | [], vs, f, h => by simp [List.lookup]
  | k :: ks, [], f, h => by simp [List.lookup]
  | k :: ks, v :: vs, f, h => by
    rw [List.all_cons, Bool.and_eq_true] at h
    have ne : k ≠ f := by simpa using h.1
    have b : (f == k) = false := by simpa using fun e => ne e.symm
    rw [List.zip_cons_cons, List.lookup_cons, b]
    exact zip_none h.2
theorem zip_put_new : ∀ {ks : List Str} {vs : List V} {f : Str} {v : V}, ks.all (fun k => decide (k ≠ f)) = true → ks.length = vs.length → putF f v (ks.zip vs) = (ks ++ [f]).zip (vs ++ [v])
  | [], [], f, v, _, _ => rfl
  | [], _ :: _, f, v, _, h => by simp at h
  | _ :: _, [], f, v, _, h => by simp at h
  | k :: ks, x :: vs, f, v, h, hl => by
    rw [List.all_cons, Bool.and_eq_true] at h
    have ne : ¬ k = f := by simpa using h.1
    rw [List.zip_cons_cons]
    show (if k = f then _ else (k, x) :: putF f v (ks.zip vs)) = _
    rw [if_neg ne, zip_put_new h.2 (by simpa using hl)]
    rfl
theorem zip_put : ∀ {ks : List Str} {vs : List V} {f : Str} {v : V} {i : Nat}, lkB ks f i = true → i < vs.length → putF f v (ks.zip vs) = ks.zip (vs.set i v)
  | [], vs, f, v, i, h, _ => by simp [lkB] at h
  | k :: ks, [], f, v, i, h, hl => by simp at hl
  | k :: ks, x :: vs, f, v, 0, h, _ => by
    have e : k = f := by simpa [lkB] using h
    rw [List.zip_cons_cons]
    show (if k = f then (k, v) :: ks.zip vs else _) = _
    rw [if_pos e]
    rfl
  | k :: ks, x :: vs, f, v, i + 1, h, hl => by
    unfold lkB at h
    rw [List.take_succ_cons, List.all_cons, Bool.and_eq_true, Bool.and_eq_true] at h
    obtain ⟨h1, h2, h3⟩ := h
    have ne : ¬ k = f := by simpa using h2
    rw [List.zip_cons_cons]
    show (if k = f then _ else (k, x) :: putF f v (ks.zip vs)) = _
    rw [if_neg ne, zip_put (i := i) (by unfold lkB; rw [Bool.and_eq_true]; exact ⟨by simpa using h1, h3⟩) (by simpa using hl)]
    rfl
section
variable {K : PySem.W.Frag} {ta tv : TE} {σ : L2.St} {H : Hp} {Q : VK} {f : Str} {D : Ends} {a C dx : Addr} {ks : List Str} {vs : List V} {v : V} {t : TA}
/-- x.f, x a value -/
def FldIn (K : PySem.W.Frag) (f : Str) (x : V) (H : Hp) (Q : VK) : Prop := ∃ a C dx fs v, x = .ref a ∧ H a = some (.ins C dx fs) ∧ Cls K C ∧ NoAttr K C f ∧ fs.lookup f = some v ∧ Q v H
theorem r_fld (h : ta σ H fun x H1 => FldIn K f x H1 Q) : tFld K ta f σ H Q := h
theorem r_fldE (ho : H a = some (.ins C dx (ks.zip vs))) (cl : Cls K C) (na : NoAttr K C f) (i : Nat) (hk : lkB ks f i = true) (hv : vs[i]? = some v) (q : Q v H) : FldIn K f (.ref a) H Q := ⟨a, C, dx, _, v, rfl, ho, cl, na, (zip_lookup hk).trans hv, q⟩
/-- x.f = y, by values -/
def SfldIn (K : PySem.W.Frag) (f : Str) (y x : V) (H : Hp) (N : Hp → Prop) : Prop := ∃ a C dx fs, x = .ref a ∧ H a = some (.ins C dx fs) ∧ Cls K C ∧ NoAttr K C f ∧ fs.length < 1000 ∧ N (upd H a (.ins C dx (putF f y fs)))
theorem r_sfld (h : tv σ H fun y H1 => ta σ H1 fun x H2 => SfldIn K f y x H2 (D.nx σ)) : sFld K ta tv f D σ H := h
/-- a new field -/
theorem r_sfldN {N : Hp → Prop} (ho : H a = some (.ins C dx (ks.zip vs))) (cl : Cls K C) (na : NoAttr K C f) (hk : ks.all (fun k => decide (k ≠ f)) = true) (hl : ks.length = vs.length) (hz : ks.length < 900)
    (q : ∀ H1, H1 a = some (.ins C dx ((ks ++ [f]).zip (vs ++ [v]))) → Sm a H H1 → N H1) : SfldIn K f v (.ref a) H N :=
  ⟨a, C, dx, _, rfl, ho, cl, na, by rw [List.length_zip]; omega, q _ (by rw [upd_same, zip_put_new hk hl]) fun b o hb h => by rw [upd_ne hb]; exact h⟩
/-- a field that stands -/
theorem r_sfldS {N : Hp → Prop} (ho : H a = some (.ins C dx (ks.zip vs))) (cl : Cls K C) (na : NoAttr K C f) (i : Nat) (hk : lkB ks f i = true) (hl : i < vs.length) (hz : ks.length < 900)
    (q : ∀ H1, H1 a = some (.ins C dx (ks.zip (vs.set i v))) → Sm a H H1 → N H1) : SfldIn K f v (.ref a) H N :=
  ⟨a, C, dx, _, rfl, ho, cl, na, by rw [List.length_zip]; omega, q _ (by rw [upd_same, zip_put hk hl]) fun b o hb h => by rw [upd_ne hb]; exact h⟩
theorem r_meth {m : Str} {sp : Sp} {dvs : List V} {E : XK} (h : ta σ H fun x H1 => ∃ a dx fs, x = .ref a ∧ H1 a = some (.ins C dx fs) ∧ fs.lookup m = none ∧ t σ H1 fun ws H2 => sp (x :: (ws ++ dvs)) H2 Q E) : tMeth C m sp dvs E ta t σ H Q := h
theorem r_make {sp : Sp} {dvs : List V} {E : XK} (h : t σ H fun ws H1 => ∀ x dx, H1 x = none → H1 dx = none → dx ≠ x → sp (.ref x :: (ws ++ dvs)) (upd (upd H1 dx (.own x)) x (.ins C dx [])) (fun v H2 => v = .non ∧ Q (.ref x) H2) E) : tMake C sp dvs E t σ H Q := h
theorem r_makeK {n m : Nat} {sp : Sp} {gV : List V → List V → List V} {E : XK} {tk : TA} (h : t σ H fun ws H1 => tk σ H1 fun zs H2 => ws.length = n ∧ zs.length = m ∧ ∀ x dx, H2 x = none → H2 dx = none → dx ≠ x →
  sp (gV (.ref x :: ws) zs) (upd (upd H2 dx (.own x)) x (.ins C dx [])) (fun v H3 => v = .non ∧ Q (.ref x) H3) E) : tMakeK C n m sp gV E t tk σ H Q := h
theorem r_vei (h : t σ H fun vs H1 => ∃ (a C : Addr) (ws : List V), vs = .ref a :: ws ∧ ws.length ≤ 1000 ∧ OexC K C ∧ H1 a = some (exo a C none) ∧ Q .non H1) : tVeI K t σ H Q := h
theorem r_ost {f : Str} (h : tv σ H fun y H1 => ta σ H1 fun x H2 => ∃ a C : Addr, x = .ref a ∧ OexC K C ∧ PySem.W.findIn K (.ref C) f = some none ∧
  ((H2 a = some (exo a C none) ∧ ∀ dx, H2 dx = none → dx ≠ a → D.nx σ (upd (upd H2 dx (exd dx [(f, y)])) a (exo a C (some dx)))) ∨
    ∃ (dx : Addr) (fs : List (Str × V)), H2 a = some (exo a C (some dx)) ∧ H2 dx = some (exd dx fs) ∧ fs.length ≤ 900 ∧ D.nx σ (upd H2 dx (exd dx ((f, y) :: fs))))) : tOst K f ta tv D σ H := h
/-- raise X(e) -/
theorem r_mkx {f : Str} {Qx : XK} (h : t σ H fun vs H1 => ∃ v, vs = [v] ∧ ∀ d H2, Ex H1 H2 → H1 d = none → H2 d = some (.xd [(f, v)]) → Qx (.ref C) (some d) H2) : tMkX C f t σ H Qx := h
end
end SB

set_option Elab.async false
set_option linter.all false
set_option maxHeartbeats 4000000
/-! the rules whose readings name the written part: with the part told -/
namespace SB
open PySem L2 Evl
section
variable {X : Cx} (K : PySem.W.Frag) (e : X.K = K)
include e
theorem k_in : OpR X (compareOp .In) (rIn K false) := e ▸ op_in_seq
theorem k_notIn : OpR X (compareOp .NotIn) (rIn K true) := e ▸ op_notIn_seq
theorem k_ixL : IxR X (rIxL K) := e ▸ ix_list
theorem k_ixT : IxR X (rIxT K) := e ▸ ix_tup
theorem k_slL : SlR X (rSlLM K) := e ▸ sl_listM
theorem k_slT : SlR X (rSlTM K) := e ▸ sl_tupM
theorem k_len : CallR X (.builtin "len") (rLenS K) := e ▸ call_lenQ
theorem k_list : CallR X (.type "list") (rListS K) := e ▸ call_listQ
theorem k_tup : CallR X (.type "tuple") (rTupQ K) := e ▸ call_tupQ
theorem k_isi : CallR X (.builtin "isinstance") (rIsi K) := e ▸ call_isi
theorem k_all (c : X.calm = true) : CallR X (.builtin "all") (rAll K) := e ▸ cr_all c
theorem k_any (c : X.calm = true) : CallR X (.builtin "any") (rAny K) := e ▸ cr_any c
theorem k_min (c : X.calm = true) : CallR X (.builtin "min") (rMin K) := e ▸ cr_min c
theorem k_max (c : X.calm = true) : CallR X (.builtin "max") (rMax K) := e ▸ cr_max c
theorem k_sortedS : CallR X (.builtin "sorted") (rSortedS K) := e ▸ cr_sortedS
theorem k_eqD (hu : X.A.units + 64 < cLine) : OpR X (compareOp .Eq) (rEqD K) := e ▸ op_eqD hu
theorem k_neD (hu : X.A.units + 64 < cLine) : OpR X (compareOp .NotEq) (rNeD K) := e ▸ op_neD hu
theorem k_catT : OpR X (binaryOp .Add) (rCatTM K) := e ▸ op_catTM
variable {a : Expr} {es : List Expr} {ta : TE} {tA : TA} {f : Str} {pos p p2 q : Pos} {tg : Expr} {k n : Nat} {t : TGs}
theorem k_fld (ha : PE X a ta) (hb : attributeBase a f X.env (eval a X.env) = eval a X.env := by rfl) : PE X (.Attribute a f pos) (tFld K ta f) := e ▸ pe_fld ha hb
theorem k_pil (ha : PE X a ta) : PI X tg a (iList K ta) := e ▸ pi_list ha
theorem k_pit (ha : PE X a ta) : PI X tg a (iTup K ta) := e ▸ pi_tup ha
theorem k_gtup (hc : X.calm = true) (h : PGs X es t) (hn : (assignEach es X.env).length = n := by rfl) (hst : (assignEach es X.env).findIdx? (·.1) = none := by rfl) : PG X (.Tuple es k pos) (gTup K n t) := e ▸ pg_tup hc h hn hst
theorem k_lenSet (calm : X.calm = true) (gl : Gl X "len") (ml : X.mg "len" = none) (gs : Gl X "set") (ms : X.mg "set" = none) (ha : PE X a ta)
    (st : starEach [a] X.env = (false, eval a X.env) :: starEach [] X.env := by rfl) : PE X (.Call (.Name "len" p) [.Call (.Name "set" p2) [a] [] q] [] pos) (tLenSetT K ta) := e ▸ pe_lenSetT calm gl ml gs ms ha st
variable {CX : CXT} {C fa : Addr} {fd : FuncData} {ps : List Str} {sp : Sp} {E : XK}
theorem k_eqO (D : Dun X.K C "__eq__" fa) (F : FnOk X.prog X.w X.K X.mg X.base CX k fa fd ps sp) (hr : Room k X.A) (hb : Binds X.K fd ps []) (hx : Passes CX X E) : OpR X (compareOp .Eq) (rEqO K C sp E) := e ▸ op_eqO D F hr hb hx
end
theorem r_gtup {K : PySem.W.Frag} {n : Nat} {t : TGs} {v : V} {σ : L2.St} {H : Hp} {Q : L2.St → Hp → Prop} (h : ∃ a xs, v = .ref a ∧ SqT K H a xs ∧ xs.length = n ∧ t xs σ H Q) : gTup K n t v σ H Q := h
theorem r_gtupE {K : PySem.W.Frag} {n : Nat} {t : TGs} {a : Addr} {xs : List V} {σ : L2.St} {H : Hp} {Q : L2.St → Hp → Prop} (h : SqT K H a xs) (hn : xs.length = n) (q : t xs σ H Q) : gTup K n t (.ref a) σ H Q := ⟨a, xs, rfl, h, hn, q⟩
theorem r_eqO {K : PySem.W.Frag} {C a dx : Addr} {sp : Sp} {E : XK} {fs : List (Str × V)} {y : V} {t : Value} {H : Hp} {Q : VK} (h : H a = some (.ins C dx fs)) (ty : TyX K H y t) (nf : PySem.W.notFirst K C t = true) (q : sp [.ref a, y] H (fun v H2 => ∃ b, v = .bl b ∧ Q (.bl b) H2) E) : rEqO K C sp E (.ref a) y H Q := ⟨a, dx, fs, t, rfl, h, ty, nf, q⟩
theorem r_gnil {σ : L2.St} {H : Hp} {Q : L2.St → Hp → Prop} (q : Q σ H) : gNil [] σ H Q := ⟨rfl, q⟩
theorem r_gcons {t : TG} {u : TGs} {v : V} {r : List V} {σ : L2.St} {H : Hp} {Q : L2.St → Hp → Prop} (q : t v σ H fun s h => u r s h Q) : gCons t u (v :: r) σ H Q := ⟨v, r, rfl, q⟩
end SB

set_option Elab.async false
set_option linter.all false
set_option maxHeartbeats 4000000
/-! xs[::e], e one or minus one -/
namespace SB
open PySem PySem.Spec PyProof.Rows L2 Evl
theorem pick_one (items : Array Value) : slicePick items none none (some 1) = items := by
  unfold slicePick
  have e : sliceBounds none none (some 1) items.size = (0, (items.size : Int), 1) := by
    first | rfl | simp [sliceBounds]
  rw [e]
  have r : sliceRange 0 (items.size : Int) 1 = List.range items.size := by
    have key : ∀ n : Nat, sliceRange 0 (n : Int) 1 = List.range n := by
      intro n
      unfold sliceRange
      by_cases h : (n : Int) > 0
      · have e : ((n : Int) - 0 + 1 - 1) / 1 = (n : Int) := by rw [Int.ediv_one]; omega
        have e2 : ((if (1 : Int) > 0 then (if (n : Int) > 0 then ((n : Int) - 0 + 1 - 1) / 1 else 0) else 0)).toNat = n := by
          rw [if_pos (by decide), if_pos h, e]; simp
        apply List.ext_getElem
        · have hp : 0 < n := by omega
          simp [hp]
        · intro i h1 h2
          simp
      · have z : n = 0 := by omega
        subst z
        simp
    exact key items.size
  rw [r, PySem.W.krv_all]
def tStepL (K : PySem.W.Frag) (te ts : TE) : TE := fun σ H Q => te σ H fun x H1 => ts σ H1 fun y H2 => ∃ (a : Addr) (xs : List V) (n : Int), x = .ref a ∧ y = .int n ∧ (n = 1 ∨ n = -1) ∧ SqL K H2 a xs ∧
  ∀ p H3, H2 p = none → Ex H2 H3 → H3 p = some (.lst (if n = 1 then xs else xs.reverse)) → Q (.ref p) H3
theorem pe_stepL {X : Cx} {K : PySem.W.Frag} (eK : X.K = K) {e st : Expr} {te ts : TE} {p1 pos : Pos} (he : PE X e te) (hst : PE X st ts)
    (hs : subscripted (.Slice none none (some st) p1) = subscripted (.Slice none none (some st) p1) := by rfl) : PE X (.Subscript e (.Slice none none (some st) p1) pos) (tStepL K te ts) := by
  subst eK
  refine ⟨fun pins s σ H Q I h => ?_⟩
  refine Subscript_ (thn (he.run pins s σ H _ I h) fun v s1 ⟨x, H1, I1, r1, q1⟩ => ?_)
  refine wpAny_Slice (thn (po_none.run pins s1 σ H1 (fun o H2 => o = none ∧ H2 = H1) I1 ⟨rfl, rfl⟩) fun vl s2 ⟨l, H2, I2, pl, el, e2⟩ => ?_)
  subst el e2
  refine thn (po_none.run pins s2 σ H2 (fun o H3 => o = none ∧ H3 = H2) I2 ⟨rfl, rfl⟩) fun vu s3 ⟨u, H3, I3, pu, eu, e3⟩ => ?_
  subst eu e3
  have q2 : ∃ Q0 : VK, ts σ H3 Q0 ∧ ∀ y H4, Q0 y H4 → ∃ (a : Addr) (xs : List V) (n : Int), x = .ref a ∧ y = .int n ∧ (n = 1 ∨ n = -1) ∧ SqL X.K H4 a xs ∧
    ∀ p H5, H4 p = none → Ex H4 H5 → H5 p = some (.lst (if n = 1 then xs else xs.reverse)) → Q (.ref p) H5 := ⟨_, q1, fun _ _ z => z⟩
  obtain ⟨Q0, q1, m⟩ := q2
  refine thn (hst.run pins s3 σ H3 Q0 I3 q1) fun vs s4 ⟨y, H4, I4, ps, z⟩ => ?_
  obtain ⟨a, xs, n, rfl, rfl, hn, hx, q⟩ := m _ _ z
  cases r1
  obtain ⟨tk, rfl⟩ := ps
  have I5 : Inv X pins σ H4 { s4 with heap := s4.heap.push { cls := .type "slice", data := .fields #[vl, vu, .int n tk] } } := I4.kept (t' := s4.toks) fun b ob q => Heap.get?_push_of_some _ q
  obtain ⟨its, r, ht, hz⟩ := I5.list hx
  have hlen := r.length
  have pk : slicePick its.toArray none none (some n) = (if n = 1 then its else its.reverse).toArray := by
    rcases hn with rfl | rfl
    · rw [pick_one]; rfl
    · rw [PySem.W.krv_pick]; rfl
  refine tail_any (ops := [.ref a, .ref s4.heap.objs.size]) ht.isList.typeIs (PySem.slot_list_getitem.lookup) ?_ (by with_unfolding_all rfl)
  refine wpAny_getItem_list_slice ht.isList (Heap.IsSliceOf.new _ vl vu (.int n tk)) pl pu (IsPart.int n tk) (by rcases hn with rfl | rfl <;> decide) ?_ (by rw [List.size_toArray]; omega)
  rw [pk]
  refine ⟨.ref _, _, I5.laid (t' := s4.toks) (o := .lst (if n = 1 then xs else xs.reverse)) (fun b ob q => Heap.get?_push_of_some _ q) (Nat.le_refl _) ?_, rfl, q _ _ (I5.hok.fresh (Nat.le_refl _)) (Ex.new (I5.hok.fresh (Nat.le_refl _))) upd_same⟩
  rcases hn with rfl | rfl
  · exact ⟨hz, its, 0, r, Heap.get?_push_size _ rfl⟩
  · exact ⟨by show xs.reverse.length ≤ _; rw [List.length_reverse]; exact hz, its.reverse, 0, r.reverse, Heap.get?_push_size _ rfl⟩
end SB
namespace SB
open PySem L2 Evl
/-! ### data -/
mutual
theorem Dp.up {K : PySem.W.Frag} {H H' : Hp} (e : Ex H H') : ∀ {v : V} {d : PyData}, Dp K H v d → Dp K H' v d
  | _, _, .non => .non
  | _, _, .bl b => .bl b
  | _, _, .int i => .int i
  | _, _, .str x => .str x
  | _, _, .lst h a => .lst (ex_l e h) (DpAll.up e a)
  | _, _, .tup h a => .tup (ex_t e h) (DpAll.up e a)
theorem DpAll.up {K : PySem.W.Frag} {H H' : Hp} (e : Ex H H') : ∀ {vs : List V} {ds : List PyData}, DpAll K H vs ds → DpAll K H' vs ds
  | _, _, .nil => .nil
  | _, _, .cons h a => .cons (Dp.up e h) (DpAll.up e a)
end
theorem dpAll_strs {K : PySem.W.Frag} {H : Hp} : ∀ ws : List Str, DpAll K H (ws.map V.str) (ws.map PyData.str)
  | [] => .nil
  | w :: r => .cons (.str w) (dpAll_strs r)
theorem r_eqD {K : PySem.W.Frag} {x y : V} {d e : PyData} {H : Hp} {Q : VK} (h1 : Dp K H x d) (h2 : Dp K H y e) (s1 : SeqAt.shaped d = true) (s2 : SeqAt.shaped e = true) (q : Q (.bl (PyData.eqv d e)) H) : rEqD K x y H Q := ⟨d, e, h1, h2, s1, s2, q⟩
theorem r_neD {K : PySem.W.Frag} {x y : V} {d e : PyData} {H : Hp} {Q : VK} (h1 : Dp K H x d) (h2 : Dp K H y e) (s1 : SeqAt.shaped d = true) (s2 : SeqAt.shaped e = true) (q : Q (.bl (!PyData.eqv d e)) H) : rNeD K x y H Q := ⟨d, e, h1, h2, s1, s2, q⟩
theorem eqv_same {d : PyData} (s : SeqAt.shaped d = true) : PyData.eqv d d = true := SeqAt.eqv_refl d (SeqAt.canLay_of_shaped s)
theorem lay_all : ∀ {ds : List PyData}, (∀ d ∈ ds, d.canLay0 = true) → PyData.canLayAll0 ds = true
  | [], _ => rfl
  | d :: r, h => by
    unfold PyData.canLayAll0
    rw [h d List.mem_cons_self, lay_all (ds := r) fun x hx => h x (List.mem_cons_of_mem _ hx)]
    rfl
theorem dep_all {n : Nat} : ∀ {ds : List PyData}, (∀ d ∈ ds, d.depth ≤ n) → PyData.depthAll ds ≤ n
  | [], _ => Nat.zero_le _
  | d :: r, h => by
    unfold PyData.depthAll
    exact Nat.max_le.mpr ⟨h d List.mem_cons_self, dep_all fun x hx => h x (List.mem_cons_of_mem _ hx)⟩
/-- data of small depth that can be laid -/
def Nice (n : Nat) (d : PyData) : Prop := d.canLay0 = true ∧ d.depth ≤ n
theorem nice_none {n : Nat} : Nice n .none := ⟨rfl, by simp [PyData.depth]⟩
theorem nice_bool {n : Nat} {b : Bool} : Nice n (.bool b) := ⟨rfl, by simp [PyData.depth]⟩
theorem nice_int {n : Nat} {i : Int} : Nice n (.int i) := ⟨rfl, by simp [PyData.depth]⟩
theorem nice_str {n : Nat} {z : Str} (h : PyData.strOk z = true) : Nice n (.str z) := ⟨by simpa [PyData.canLay0] using h, by simp [PyData.depth]⟩
theorem nice_tup {n : Nat} {ds : List PyData} (h : ∀ d ∈ ds, Nice n d) : Nice (n + 1) (.tuple ds) := ⟨by simpa [PyData.canLay0] using lay_all fun d hd => (h d hd).1, by
  have := dep_all fun d hd => (h d hd).2
  simp only [PyData.depth]; omega⟩
theorem nice_list {n : Nat} {ds : List PyData} (h : ∀ d ∈ ds, Nice n d) : Nice (n + 1) (.list ds) := ⟨by simpa [PyData.canLay0] using lay_all fun d hd => (h d hd).1, by
  have := dep_all fun d hd => (h d hd).2
  simp only [PyData.depth]; omega⟩
theorem Nice.shaped {n : Nat} {d : PyData} (h : Nice n d) (hn : n ≤ 64) : SeqAt.shaped d = true := by
  unfold SeqAt.shaped
  rw [h.1, decide_eq_true (Nat.le_trans h.2 hn)]
  rfl
theorem nice_strs {n : Nat} {ws : List Str} (h : ∀ w ∈ ws, PyData.strOk w = true) : ∀ d ∈ ws.map PyData.str, Nice n d := fun d hd => by
  obtain ⟨w, hw, rfl⟩ := List.mem_map.mp hd
  exact nice_str (h w hw)
theorem strOk_word {z : Str} (h : isWord z = true) : PyData.strOk z = true := by
  unfold isWord at h
  simp only [Bool.and_eq_true, List.all_eq_true, decide_eq_true_eq] at h
  have low : ∀ c ∈ letters, c < 0x110000 := by decide +kernel
  unfold PyData.strOk
  rw [← Array.all_toList, List.all_eq_true]
  intro c hc
  exact decide_eq_true (low c (h.2 c hc))
/-- texts of one and two letters -/
def sg (l : Nat) : Str := ⟨#[l]⟩
theorem sg_app (a : Str) (l : Nat) : (a ++ sg l).cps.toList = a.cps.toList ++ [l] := by
  have : (a ++ sg l).cps = a.cps ++ #[l] := rfl
  rw [this]; simp
theorem str_ext {a b : Str} (h : a.cps.toList = b.cps.toList) : a = b := by
  obtain ⟨x⟩ := a
  obtain ⟨y⟩ := b
  congr
  exact Array.toList_inj.mp h
theorem str_len (a : Str) : a.length = a.cps.toList.length := by show a.cps.size = _; simp
def rAddSQ : R2 := fun x y H Q => ∃ i j, x = .str i ∧ y = .str j ∧ i.length + j.length ≤ sizeLine ∧ Q (.str (i ++ j)) H
theorem op_addSQ {X : Cx} : OpR X (binaryOp .Add) rAddSQ := op_add_str
theorem r_addS {i j : Str} {H : Hp} {Q : VK} (h : i.length + j.length ≤ 100000) (q : Q (.str (i ++ j)) H) : rAddSQ (.str i) (.str j) H Q := ⟨i, j, rfl, rfl, sz_of h, q⟩
theorem r_ixS {z : Str} {i : Int} {c : Nat} {H : Hp} {Q : VK} (hz : z.length ≤ 100000) (h : atI z.cps.toList i = some c) (q : Q (.str (sg c)) H) : rIxS (.str z) (.int i) H Q := ⟨z, i, c, rfl, rfl, sz_of hz, h, q⟩
theorem r_ixT {K : PySem.W.Frag} {p : Addr} {i : Int} {xs : List V} {v : V} {H : Hp} {Q : VK} (h : SqT K H p xs) (e : atI xs i = some v) (q : Q v H) : rIxT K (.ref p) (.int i) H Q := ⟨p, xs, i, v, rfl, rfl, h, e, q⟩
theorem r_step {K : PySem.W.Frag} {te ts : TE} {σ : L2.St} {H : Hp} {Q : VK} (h : te σ H fun x H1 => ts σ H1 fun y H2 => ∃ (a : Addr) (xs : List V) (n : Int), x = .ref a ∧ y = .int n ∧ (n = 1 ∨ n = -1) ∧ SqL K H2 a xs ∧
  ∀ p H3, H2 p = none → Ex H2 H3 → H3 p = some (.lst (if n = 1 then xs else xs.reverse)) → Q (.ref p) H3) : tStepL K te ts σ H Q := h
theorem r_rU {g : Int → V} {a : Int} {H : Hp} {Q : VK} (q : Q (g a) H) : rU g (.int a) H Q := ⟨a, rfl, q⟩
/-! ### all but the well -/
def fz (p : Addr) (H : Hp) : Hp := fun a => if a = p then none else H a
theorem fz_ex {p : Addr} {H : Hp} : Ex (fz p H) H := fun a o h => by
  unfold fz at h
  split at h
  · cases h
  · exact h
theorem fz_at {p a : Addr} {H : Hp} {o : HO} (h : H a = some o) (ne : a ≠ p) : fz p H a = some o := by unfold fz; rw [if_neg ne]; exact h
theorem fz_sm {p : Addr} {H H1 : Hp} (s : Sm p H H1) : Ex (fz p H) (fz p H1) := fun a o h => by
  by_cases e : a = p
  · unfold fz at h; rw [if_pos e] at h; cases h
  · exact fz_at (s a o e (fz_ex a o h)) e
theorem well_ne {p a : Addr} {n : Nat} {H : Hp} {o : HO} (w : WellAt H p n) (h : H a = some o) (d : ∀ xs, o ≠ .lst xs) : a ≠ p := fun e => by
  obtain ⟨x, y, z, hp, _⟩ := w
  rw [e, hp] at h
  exact d _ (Option.some.inj h).symm
theorem new_ne {p a : Addr} {n : Nat} {H : Hp} (w : WellAt H p n) (h : H a = none) : a ≠ p := fun e => w.some (e ▸ h)
theorem sqT_fz {K : PySem.W.Frag} {p a : Addr} {n : Nat} {H : Hp} {xs : List V} (w : WellAt H p n) (h : SqT K H a xs) : SqT K (fz p H) a xs := by
  rcases h with (h | ⟨o, h⟩) | h
  · exact .inl (.inl (fz_at h (well_ne w h fun _ z => nomatch z)))
  · exact .inl (.inr ⟨o, fz_at h (well_ne w h fun _ z => nomatch z)⟩)
  · exact .inr h
theorem ty_sqT {K : PySem.W.Frag} {H : Hp} {a : Addr} {xs : List V} (h : SqT K H a xs) : TyX K H (.ref a) (.type "tuple") := by
  rcases h with (h | ⟨o, h⟩) | ⟨o, its, n, h, c, _⟩
  · exact .base (.tup h)
  · exact .fTuple h
  · exact .kTuple h c
theorem sm_new {p a : Addr} {H H1 : Hp} {n m : Nat} (w : WellAt H p n) (s : Sm p H H1) (h : H1 a = none) (w1 : WellAt H1 p m) : H a = none := by
  cases e : H a with
  | none => rfl
  | some o =>
    by_cases q : a = p
    · exact absurd (q ▸ h) w1.some
    · rw [s a o q e] at h; cases h
theorem r_cut {t u : TS} {D : Ends} {σ : L2.St} {H : Hp} (Mid : L2.St → Hp → Prop) (h : t { D with nx := Mid } σ H) (k : ∀ σ' H', Mid σ' H' → u D σ' H') : tCut t u D σ H := ⟨Mid, h, k⟩
/-- a law: a list of at most 63 ints is handed in, True comes out -/
def spLaw (K : PySem.W.Frag) : Sp := fun vs H Q _ => ∃ (a : Addr) (ns : List Int), vs = [.ref a] ∧ SqL K H a (ns.map V.int) ∧ ns.length ≤ 63 ∧ ∀ H', Q (.bl true) H'
theorem cutV_int (ns : List Int) (lo hi : Option Int) : ∃ ms : List Int, cutV (ns.map V.int) lo hi = ms.map V.int ∧ ms.length ≤ ns.length := by
  refine ⟨(ns.drop (HT.sIx (ns.map V.int).length 0 lo)).take (HT.sIx (ns.map V.int).length (ns.map V.int).length hi - HT.sIx (ns.map V.int).length 0 lo), ?_, ?_⟩
  · unfold cutV; rw [← List.map_drop, ← List.map_take]
  · rw [List.length_take, List.length_drop]; omega
theorem sqT_lift {K : PySem.W.Frag} {G H : Hp} {a : Addr} {xs : List V} (g : ∀ b o, (∀ l, o ≠ .lst l) → H b = some o → G b = some o) (h : SqT K H a xs) : SqT K G a xs := by
  rcases h with (h | ⟨o, h⟩) | h
  · exact .inl (.inl (g _ _ (fun _ z => nomatch z) h))
  · exact .inl (.inr ⟨o, g _ _ (fun _ z => nomatch z) h⟩)
  · exact .inr h
end SB

set_option Elab.async false
set_option linter.all false
set_option maxRecDepth 100000
/-! which class stands below which, from the facts that the head answers -/
namespace SB
open PySem PySem.Spec PyProof.Rows L2
theorem kit_sub {K : PySem.W.Frag} {t : Value} {S : Addr} {b : Bool} (ne : (t == .ref S) = false) (h2 : PySem.W.isClsIn K S = true) (h3 : PySem.W.typeIn K (.ref S) = some (.type "type")) (h4 : PySem.W.subIn K t (.ref S) = some b) : PySem.W.kitOne K t (.ref S) = some b := by
  have e2 : ((PySem.W.clsIn K S).isSome && PySem.W.typeIn K (.ref S) == some (.type "type")) = true := by
    have h5 : (PySem.W.clsIn K S).isSome = true := h2
    rw [h5, h3] <;> rfl
  unfold PySem.W.kitOne
  rw [if_neg (by rw [ne]; exact Bool.false_ne_true)]
  show (if ((PySem.W.clsIn K S).isSome && PySem.W.typeIn K (.ref S) == some (.type "type")) = true then PySem.W.subIn K t (.ref S) else none) = some b
  rw [if_pos e2]
  exact h4
theorem exm_sub {K : PySem.W.Frag} {t : Value} {S : Addr} {b : Bool} (h1 : PySem.W.subIn K (.ref S) (.type "BaseException") = some true) (h2 : PySem.W.isClsIn K S = true) (h3 : PySem.W.typeIn K (.ref S) = some (.type "type")) (h4 : PySem.W.subIn K t (.ref S) = some b) : PySem.W.exmOne K t (.ref S) = some b := by
  have e2 : ((PySem.W.clsIn K S).isSome && PySem.W.typeIn K (.ref S) == some (.type "type")) = true := by
    have h5 : (PySem.W.clsIn K S).isSome = true := h2
    rw [h5, h3] <;> rfl
  have e1 : (PySem.W.subIn K (.ref S) (.type "BaseException") == some true) = true := by rw [h1] <;> rfl
  unfold PySem.W.exmOne
  rw [if_pos e1]
  show (if ((PySem.W.clsIn K S).isSome && PySem.W.typeIn K (.ref S) == some (.type "type")) = true then PySem.W.subIn K t (.ref S) else none) = some b
  rw [if_pos e2]
  exact h4
/-- one class below another, or itself -/
theorem kit_subT {K : PySem.W.Frag} {t : Value} {S : Addr} (h2 : PySem.W.isClsIn K S = true) (h3 : PySem.W.typeIn K (.ref S) = some (.type "type")) (h4 : PySem.W.subIn K t (.ref S) = some true) : PySem.W.kitOne K t (.ref S) = some true := by
  by_cases e : (t == Value.ref S) = true
  · unfold PySem.W.kitOne
    rw [if_pos e]
  · exact kit_sub (by simpa using e) h2 h3 h4
/-- two classes, none below the other -/
theorem kit_subN {K : PySem.W.Frag} {R S : Addr} (hs : PySem.W.subIn K (.ref R) (.ref R) = some true) (h2 : PySem.W.isClsIn K S = true) (h3 : PySem.W.typeIn K (.ref S) = some (.type "type")) (h4 : PySem.W.subIn K (.ref R) (.ref S) = some false) : PySem.W.kitOne K (.ref R) (.ref S) = some false := by
  refine kit_sub ?_ h2 h3 h4
  cases e : (Value.ref R == Value.ref S) with
  | false => rfl
  | true =>
    obtain rfl : R = S := Value.ref.inj (beq_iff_eq.mp e)
    rw [hs] at h4
    cases h4
end SB

set_option Elab.async false
set_option linter.all false
set_option maxRecDepth 100000
set_option maxHeartbeats 4000000
/-! try with several clauses, each with or without a name -/
namespace SB
open PySem PySem.Spec PyProof.Rows L2
/-- a clause: the class that it names, its name's slot, its suite -/
structure Clz where
  c : Value
  o : Option Nat
  ts : Addr → Value → Option Addr → TS
/-- the slot of the name holds v -/
def nm (o : Option Nat) (v : Option V) (σ : L2.St) : L2.St := match o with
  | none => σ
  | some i => σ.set i v
/-- the suite's ends, the name gone -/
def ends (o : Option Nat) (D : Ends) : Ends := { nx := fun σ H => D.nx (nm o none σ) H, rt := D.rt, bk := fun σ H => D.bk (nm o none σ) H, ct := fun σ H => D.ct (nm o none σ) H }
def wCl (K : PySem.W.Frag) (Wout : WX) (D : Ends) : List Clz → WX
  | [] => Wout
  | z :: r => fun cls d σ H => ∃ b, PySem.W.exmOne K cls z.c = some b ∧ (b = true → ∀ a, H a = none → z.ts a cls d (ends z.o D) (nm z.o (some (.ref a)) σ) H) ∧ (b = false → wCl K Wout D r cls d σ H)
inductive ClOk (X : Cx) : List ExceptHandler → List Clz → Prop
  | nil : ClOk X [] []
  | bare {x : Str} {c : Value} {ts : Addr → Value → Option Addr → TS} {b : Stmt} {su : List Stmt} {p q : Pos} {hs : List ExceptHandler} {l : List Clz} (hc : Names X x c)
      (hsu : ∀ (a : Addr) (oe : Obj) (cls : Value) (d : Option Addr) (pn : List (Addr × Obj)), Zc cls d oe → (∃ vs, oe.data = .fields vs) → PSs (X.suite a ((a, oe) :: pn)) (b :: su) (ts a cls d))
      (r : ClOk X hs l) : ClOk X (.ExceptHandler (some (.Name x p)) none (b :: su) q :: hs) (⟨c, none, ts⟩ :: l)
  | named {x n : Str} {i : Nat} {c : Value} {ts : Addr → Value → Option Addr → TS} {b : Stmt} {su : List Stmt} {p q : Pos} {hs : List ExceptHandler} {l : List Clz} (hN : X.N.Nodup) (hi : X.N[i]? = some n) (hk : X.env.kindOf n = some .local) (hc : Names X x c)
      (hsu : ∀ (a : Addr) (oe : Obj) (cls : Value) (d : Option Addr) (pn : List (Addr × Obj)), Zc cls d oe → (∃ vs, oe.data = .fields vs) → PSs (X.suite a ((a, oe) :: pn)) (b :: su) (ts a cls d))
      (r : ClOk X hs l) : ClOk X (.ExceptHandler (some (.Name x p)) (some n) (b :: su) q :: hs) (⟨c, some i, ts⟩ :: l)
/-- an exception at a that this frame has noted; sI: the state without it -/
structure Got (X : Cx) (pins : List (Addr × Obj)) (σ : L2.St) (H : Hp) (cls : Value) (d : Option Addr) (a : Addr) (B : Heap) (sI s : Shared) : Prop where
  inv : Inv X pins σ H sI
  nb : ∀ b o, sI.heap.get? b = some o → b ∉ frs X.stack → B.get? b = some o
  up : sI.heap.UpToSlots s.heap
  os : s.os = sI.os
  ag : AllBare s.gens
  na : H a = none
  fl : HandSPX.FlyingZ B (X.env :: X.outer) a (Zc cls d) s.heap
section
variable {X : Cx} {pins : List (Addr × Obj)} {σ : L2.St} {H : Hp} {cls : Value} {d : Option Addr} {a : Addr} {B : Heap} {sI s : Shared} {D : Ends} {Wout : WX}
theorem Got.here (g : Got X pins σ H cls d a B sI s) : Inv X pins σ H s := g.inv.landed g.nb g.fl.1 g.up g.os g.ag
theorem Got.off (g : Got X pins σ H cls d a B sI s) (hf : X.env.frame = some X.env.locals) : ∃ oe vs, s.heap.get? a = some oe ∧ Zc cls d oe ∧ oe.data = .fields vs ∧ a ≠ X.env.locals ∧ a ∉ X.fs := by
  obtain ⟨oe, vs, h1, h2, h3⟩ := g.fl.there
  have out : a ∉ frs (X.env :: X.outer) := by
    intro hm
    obtain ⟨_, o1, z, nf⟩ := g.fl.2.2.1.mem hm
    have zz := z.symm.trans h1
    injection zz with zz
    exact nf vs (by rw [zz]; exact h3)
  refine ⟨oe, vs, h1, h2, h3, fun z => ?_, fun hm => ?_⟩
  · refine out (List.mem_filterMap.mpr ⟨X.env, by simp, ?_⟩)
    rw [z]
    exact hf
  · obtain ⟨e, he, q⟩ := List.mem_filterMap.mp hm
    exact out (List.mem_filterMap.mpr ⟨e, List.mem_cons.mpr (.inr he), q⟩)
theorem Got.land (g : Got X pins σ H cls d a B sI s) {h : Heap} (fl : HandSPX.FlyingZ B (X.env :: X.outer) a (Zc cls d) h) (u : s.heap.UpToSlots h) : Got X pins σ H cls d a B sI { s with heap := h } :=
  ⟨g.inv, g.nb, g.up.trans u, g.os, g.ag, g.na, fl⟩
theorem Got.suite (g : Got X pins σ H cls d a B sI s) (hf : X.env.frame = some X.env.locals) : ∃ oe vs, Zc cls d oe ∧ oe.data = .fields vs ∧ s.heap.get? a = some oe ∧ Inv (X.suite a ((a, oe) :: (X.pn ++ pins))) [] σ H s := by
  obtain ⟨oe, vs, e1, e2, e3, e4, e5⟩ := g.off hf
  exact ⟨oe, vs, e2, e3, e1, g.here.suite e1 e3 g.na e4 e5⟩
/-- no clause is left: it flies on -/
theorem Got.fly (g : Got X pins σ H cls d a B sI s) (hs : X.stack = X.env :: X.outer) (hf : X.env.frame = some X.env.locals) (tk : Takes X Wout) (w : Wout cls d σ H) : wpAny (model X.prog X.w) X.A (handleBy (.ref a) X.env []) (SP X pins D) X.xe s := by
  refine wpAny_handleBy_nil ?_
  obtain ⟨_, _, _, oe, vs, T, oT, ts, q1, _, q2, q3, _⟩ := id g.fl
  have go : wpAny (model X.prog X.w) X.A (setFlight (.ref a) X.env.frame) (fun _ u => wpAny (model X.prog X.w) X.A (throw (.ref a) : Sem Flow) (SP X pins D) X.xe u) X.xe s := by
    rw [hf]
    refine HandSPX.setFlight_upZ g.fl fun h' hh u => wpAny_throw (tk _ _ ?_)
    refine ⟨a, B, sI, pins, σ, H, cls, d, rfl, g.inv, g.nb, g.up.trans u, ?_, g.na, g.os, g.ag, w⟩
    rw [hs]
    exact .inr (.inr hh)
  unfold PySem.passOn
  refine wpAny_bind (wpAny_field q1 q2 q3 ?_)
  have no : ¬ ((Value.ref T == Value.none) = true) := by simp
  rw [if_neg no]
  first | exact wpAny_bind (wpAny_pure (wpAny_bind go)) | exact wpAny_bind go
/-- the class that a clause names is looked up -/
theorem names_ok {x : Str} {c : Value} {p : Pos} {pn : List (Addr × Obj)} {oe : Obj} (hc : Names X x c) (I : Inv (X.suite a ((a, oe) :: pn)) [] σ H s) {Q E : Value → Shared → Prop} (q : Q c s) : wpAny (model X.prog X.w) (X.A.mark (some (.ref a))) (eval (.Name x p) X.env) Q E s := by
  obtain ⟨g1, g2, g3⟩ := hc
  rcases g3 with m | ⟨m, bb, ne⟩
  · exact ld_glob (X := X.suite a ((a, oe) :: pn)) I g1 m q g2
  · exact ld_blt (X := X.suite a ((a, oe) :: pn)) I g1 m bb q ne g2
/-- the clauses -/
theorem handle_ok {hds : List ExceptHandler} {l : List Clz} (hh : ClOk X hds l) (hs : X.stack = X.env :: X.outer) (hf : X.env.frame = some X.env.locals) (tk : Takes X Wout) :
    ∀ {s : Shared}, Got X pins σ H cls d a B sI s → wCl X.K Wout D l cls d σ H → wpAny (model X.prog X.w) X.A (handleBy (.ref a) X.env hds) (SP X pins D) X.xe s := by
  induction hh with
  | nil => intro s g w; exact g.fly hs hf tk w
  | @bare x c ts b0 su p q hs2 l2 hc hsu r ih =>
    intro s g ⟨b, hb, yes, no⟩
    obtain ⟨oe, vs, e1, e2, e3, S⟩ := g.suite hf
    refine wpAny_handleBy_cons (codeAny_handlers_test ?_) (by intro z; cases z)
    have cl : PySem.W.Looks (model X.prog X.w) s.heap (typeOf (.ref a)) cls := by
      intro A2 Q2 E2 s2 kp q2
      refine wpAny_typeOf_ref (kp _ _ e3) ?_
      rw [e1.1]
      exact q2
    refine names_ok hc S ((PySem.W.exm_one (M := model X.prog X.w) g.here.kIn cl hb).here ?_)
    cases b with
    | false => exact ih g (no rfl)
    | true =>
      refine codeAny_handlers_suite (HandSPX.lands_againZ g.fl fun h4 fl4 up4 => ?_)
      have g4 := g.land fl4 up4
      obtain ⟨o4, vs4, z1, z2, z3, S4⟩ := g4.suite hf
      have run := (hsu a o4 cls d (X.pn ++ pins) z1 ⟨vs4, z2⟩).run [] _ σ H (ends none D) S4 (yes rfl a g.na)
      refine wpAny_mono run (fun f s6 sp => ?_) fun _ _ z => z.elim
      have ok := g.inv.ok
      cases f with
      | ret u => obtain ⟨v, σ6, H6, I6, r6, q6⟩ := sp; exact ⟨v, σ6, H6, I6.unsuite ok, r6, q6⟩
      | next => obtain ⟨σ6, H6, I6, q6⟩ := sp; exact ⟨σ6, H6, I6.unsuite ok, q6⟩
      | brk => obtain ⟨σ6, H6, I6, q6⟩ := sp; exact ⟨σ6, H6, I6.unsuite ok, q6⟩
      | cont => obtain ⟨σ6, H6, I6, q6⟩ := sp; exact ⟨σ6, H6, I6.unsuite ok, q6⟩
  | @named x n i c ts b0 su p q hs2 l2 hN hi hk hc hsu r ih =>
    intro s g ⟨b, hb, yes, no⟩
    obtain ⟨oe, vs, e1, e2, e3, S⟩ := g.suite hf
    refine wpAny_handleBy_cons (codeAny_handlers_test ?_) (by intro z; cases z)
    have cl : PySem.W.Looks (model X.prog X.w) s.heap (typeOf (.ref a)) cls := by
      intro A2 Q2 E2 s2 kp q2
      refine wpAny_typeOf_ref (kp _ _ e3) ?_
      rw [e1.1]
      exact q2
    refine names_ok hc S ((PySem.W.exm_one (M := model X.prog X.w) g.here.kIn cl hb).here ?_)
    cases b with
    | false => exact ih g (no rfl)
    | true =>
      refine codeAny_handlers_suite_as (HandSPX.lands_againZ g.fl fun h4 fl4 up4 => ?_)
      have g4 := g.land fl4 up4
      obtain ⟨o4, vs4, z1, z2, z3, S4⟩ := g4.suite hf
      refine store_ok (X := X.suite a ((a, o4) :: (X.pn ++ pins))) (v := .ref a) S4 hN hi (.inl hk) rfl (fun s5 S5 => ?_) (.inr hk)
      have run := (hsu a o4 cls d (X.pn ++ pins) z1 ⟨vs4, z2⟩).run [] s5 _ H (ends (some i) D) S5 (yes rfl a g.na)
      refine wpAny_mono run (fun f s6 sp => ?_) fun _ _ z => z.elim
      have ok := g.inv.ok
      cases f with
      | ret u => obtain ⟨v, σ6, H6, I6, r6, q6⟩ := sp; exact gone_ok (I6.unsuite ok) hN hi hk fun s7 J => ⟨v, _, H6, J, r6, q6⟩
      | next => obtain ⟨σ6, H6, I6, q6⟩ := sp; exact gone_ok (I6.unsuite ok) hN hi hk fun s7 J => ⟨_, H6, J, q6⟩
      | brk => obtain ⟨σ6, H6, I6, q6⟩ := sp; exact gone_ok (I6.unsuite ok) hN hi hk fun s7 J => ⟨_, H6, J, q6⟩
      | cont => obtain ⟨σ6, H6, I6, q6⟩ := sp; exact gone_ok (I6.unsuite ok) hN hi hk fun s7 J => ⟨_, H6, J, q6⟩
/-- the reading of a try: the body's, with the clauses' wish of its exceptions -/
def tTry (K : PySem.W.Frag) (Wout : WX) (l : List Clz) (tb : WX → TS) : TS := fun D σ H => tb (wCl K Wout D l) D σ H
theorem ps_try {body : List Stmt} {h0 : ExceptHandler} {hds : List ExceptHandler} {l : List Clz} {tb : WX → TS} {pos : Pos} (hs : X.stack = X.env :: X.outer) (hf : X.env.frame = some X.env.locals) (tk : Takes X Wout)
    (hb : ∀ (W : WX) (pn : List (Addr × Obj)) (xe : Value → Shared → Prop), Takes (X.tr pn xe) W → PassesOwn (model X.prog X.w) X.A X.env xe → PSs (X.tr pn xe) body (tb W)) (hh : ClOk X (h0 :: hds) l) :
    PS X (.Try body (h0 :: hds) [] [] pos) (tTry X.K Wout l tb) := by
  refine ⟨fun pins s σ H D I h => ?_⟩
  have ok := I.ok
  refine wpAny_Try_except ?_
  let K1 : Value → Shared → Prop := fun e s1 => wpAny (model X.prog X.w) X.A (noteFrame e X.env) (fun _ s2 => wpAny (model X.prog X.w) X.A (setFlight e none) (fun _ s3 => wpAny (model X.prog X.w) X.A (handleBy e X.env (h0 :: hds)) (SP X pins D) X.xe s3) X.xe s2) X.xe s1
  have tk1 : Takes (X.tr (X.pn ++ pins) K1) (wCl X.K Wout D l) := by
    intro u s2 xx
    obtain ⟨a, B, sI, pins2, σ2, H2, cls, d, rfl, J, nb, up, sky, na, os, ag, w⟩ := xx
    have sky2 : Sky B (X.env :: X.outer) a (Zc cls d) X.env.locals s2.heap := hs ▸ sky
    show wpAny (model X.prog X.w) X.A (noteFrame (.ref a) X.env) _ _ _
    refine Sky.land Zc.steady (ok.frames.trans (congrArg some hs)) hf sky2 fun h3 fl3 up3 => ?_
    exact handle_ok hh hs hf tk (⟨J.ofTry ok, nb, up.trans up3, os, ag, na, fl3⟩ : Got X pins σ2 H2 cls d a B sI { s2 with heap := h3 }) w
  refine wpAny_mono ((hb _ _ K1 tk1 PassesOwn.looking).run [] s σ H D (I.toTry K1) h) (fun f s1 sp => ?_) fun e s1 he => he
  cases f with
  | ret u => obtain ⟨v, σ6, H6, I6, r6, q6⟩ := sp; exact ⟨v, σ6, H6, I6.ofTry ok, r6, q6⟩
  | next => obtain ⟨σ6, H6, I6, q6⟩ := sp; exact wpAny_execs_nil ⟨σ6, H6, I6.ofTry ok, q6⟩
  | brk => obtain ⟨σ6, H6, I6, q6⟩ := sp; exact ⟨σ6, H6, I6.ofTry ok, q6⟩
  | cont => obtain ⟨σ6, H6, I6, q6⟩ := sp; exact ⟨σ6, H6, I6.ofTry ok, q6⟩
end
end SB

set_option Elab.async false
set_option linter.all false
set_option maxRecDepth 100000
set_option maxHeartbeats 4000000
/-! stepping through tries; more -/
namespace SB
open PySem PySem.Spec PyProof.Rows L2 Evl
/-- a callee of a try's body -/
def eTry (n : Nat) (W : WX) : XK := fun cls d H => ∀ σ : L2.St, σ.length = n → W cls d σ H
theorem passes_try {X : Cx} {W : WX} (n : Nat) (hn : X.N.length = n) (tk : Takes X W) : Passes (L2.CX X.prog X.w) X (eTry n W) := fun _ σ _ _ e s' I c => tk e s' (XE.of_call I (fun cls d H' h => h σ (I.len.trans hn)) c)
section
variable {K : PySem.W.Frag} {Wout : WX} {l : List Clz} {tb : WX → TS} {D : Ends} {σ : L2.St} {H : Hp}
theorem r_try (h : tb (wCl K Wout D l) D σ H) : tTry K Wout l tb D σ H := h
theorem r_clY {cls : Value} {d : Option Addr} {z : Clz} (h : PySem.W.exmOne K cls z.c = some true) (k : ∀ a, H a = none → z.ts a cls d (ends z.o D) (nm z.o (some (.ref a)) σ) H) : wCl K Wout D (z :: l) cls d σ H :=
  ⟨true, h, fun _ => k, fun z => nomatch z⟩
theorem r_clN {cls : Value} {d : Option Addr} {z : Clz} (h : PySem.W.exmOne K cls z.c = some false) (k : wCl K Wout D l cls d σ H) : wCl K Wout D (z :: l) cls d σ H :=
  ⟨false, h, (fun z => nomatch z), fun _ => k⟩
theorem r_xf {a dd C : Addr} {f : Str} {i : Nat} {fs : List (Str × V)} {v : V} {Q : VK} (h1 : σ[i]? = some (some (.ref a))) (h2 : H dd = some (.xd fs)) (h3 : fs.lookup f = some v) (q : Q v H) : tXf a (.ref C) (some dd) C f (tVar i) σ H Q :=
  ⟨.ref a, h1, rfl, rfl, dd, fs, v, rfl, h2, h3, q⟩
theorem set_len {σ : L2.St} {i : Nat} {v : Option V} (h : i < σ.length) : (σ.set i v)[i]? = some v := List.getElem?_set_self h
theorem r_dnewK {Q : VK} (h : ∀ d H2, H d = none → Ex H H2 → H2 d = some (.dK []) → Q (.ref d) H2) : tDNewK σ H Q := r_new0 h
/-- a text times an int -/
def rRepS : R2 := fun x y H Q => ∃ z k, x = .str z ∧ y = .int k ∧ z.length ≤ 16 ∧ -1000 ≤ k ∧ k ≤ 1000 ∧ Q (.str (Txt.mul z k)) H
theorem op_repS {X : Cx} : OpR X (binaryOp .Mult) rRepS := by
  intro pins s σ H x y v u Q I rx ry h
  obtain ⟨z, k, rfl, rfl, h1, h2, h3, q⟩ := h
  obtain ⟨t, rfl⟩ := rx
  obtain ⟨t', rfl⟩ := ry
  exact PySem.W.KXi.mul (n := z.length) rfl h1 (by omega) (by omega) fun t2 tk _ _ => ⟨.str (Txt.mul z k), H, I.tok _, ⟨_, rfl⟩, q⟩
theorem r_repS {z : Str} {k : Int} {Q : VK} (h1 : z.length ≤ 16) (h2 : -1000 ≤ k) (h3 : k ≤ 1000) (q : Q (.str (Txt.mul z k)) H) : rRepS (.str z) (.int k) H Q := ⟨z, k, rfl, rfl, h1, h2, h3, q⟩
theorem r_bm {T : String} {r : V → List V → Hp → VK → Prop} {to : TE} {t : TA} {Q : VK} (h : to σ H fun x H1 => tyV K T x H1 ∧ t σ H1 fun xs H2 => r x xs H2 Q) : tBM K T r to t σ H Q := h
theorem r_bm0 {T : String} {r : V → List V → Hp → VK → Prop} {to : TE} {Q : VK} (h : to σ H fun x H1 => tyV K T x H1 ∧ r x [] H1 Q) : tBM0 K T r to σ H Q := h
theorem tyL {l : Addr} {xs : List V} (h : SqL K H l xs) : tyV K "list" (.ref l) H := .inl ⟨rfl, xs, h⟩
theorem r_app {l : Addr} {ys : List V} {y : V} {Q : VK} (h : H l = some (.lst ys)) (hz : ys.length < 100000) (q : ∀ H2, H2 l = some (.lst (ys ++ [y])) → Sm l H H2 → Q .non H2) : rAppend (.ref l) [y] H Q :=
  ⟨l, ys, y, rfl, rfl, h, sz_lt hz, q _ upd_same fun b o hb hh => by rw [upd_ne hb]; exact hh⟩
/-- two places frozen -/
def fz2 (p l : Addr) (H : Hp) : Hp := fz l (fz p H)
theorem fz2_p {p l : Addr} : fz2 p l H p = none := by unfold fz2 fz; simp
theorem fz2_l {p l : Addr} : fz2 p l H l = none := by unfold fz2 fz; simp
theorem fz2_ex {p l : Addr} : Ex (fz2 p l H) H := fun a o h => fz_ex a o (fz_ex a o h)
theorem fz2_at {p l a : Addr} {o : HO} (h : H a = some o) (n1 : a ≠ p) (n2 : a ≠ l) : fz2 p l H a = some o := fz_at (fz_at h n1) n2
theorem fz2_up {p l : Addr} {G : Hp} (e : Ex G H) (g1 : G p = none) (g2 : G l = none) : Ex G (fz2 p l H) := fun a o h => fz2_at (e a o h) (fun z => by rw [z, g1] at h; cases h) (fun z => by rw [z, g2] at h; cases h)
theorem Ex.sm {p : Addr} {G H1 : Hp} (e : Ex G H) (g : G p = none) (s : Sm p H H1) : Ex G H1 := fun a o h => s a o (fun z => by rw [z, g] at h; cases h) (e a o h)
theorem r_min {l : Addr} {ns : List Int} {Q : VK} (h : SqL K H l (ns.map V.int)) (hn : ns ≠ []) (q : ∀ m, m ∈ ns → (∀ y, y ∈ ns → m ≤ y) → Q (.int m) H) : rMin K [V.ref l] H Q := ⟨l, ns, rfl, h, List.length_pos_iff.mpr hn, q⟩
/-- many places frozen -/
def fr (ps : List Addr) (H : Hp) : Hp := fun a => if a ∈ ps then none else H a
theorem fr_ex {ps : List Addr} : Ex (fr ps H) H := fun a o h => by
  unfold fr at h
  by_cases e : a ∈ ps
  · rw [if_pos e] at h; cases h
  · rwa [if_neg e] at h
theorem fr_no {ps : List Addr} {p : Addr} (h : p ∈ ps) : fr ps H p = none := by unfold fr; rw [if_pos h]
theorem fr_at {ps : List Addr} {a : Addr} {o : HO} (h : H a = some o) (n : a ∉ ps) : fr ps H a = some o := by unfold fr; rw [if_neg n]; exact h
theorem fr_up {ps : List Addr} {G : Hp} (e : Ex G H) (g : ∀ p ∈ ps, G p = none) : Ex G (fr ps H) := fun a o h => fr_at (e a o h) fun z => by rw [g a z] at h; cases h
/-- what is new over H -/
def nw (H H1 : Hp) : Hp := fun a => match H a with
  | none => H1 a
  | some _ => none
theorem nw_at {H1 : Hp} {a : Addr} {o : HO} (n : H a = none) (h : H1 a = some o) : nw H H1 a = some o := by unfold nw; rw [n]; exact h
theorem nw_no {H1 : Hp} {a : Addr} (n : H a ≠ none) : nw H H1 a = none := by
  unfold nw
  cases e : H a with
  | none => exact absurd e n
  | some o => rfl
theorem nw_none {H1 : Hp} {a : Addr} (n : H1 a = none) : nw H H1 a = none := by
  unfold nw
  cases e : H a with
  | none => exact n
  | some o => rfl
theorem nw_ex {H1 : Hp} : Ex (nw H H1) H1 := fun a o h => by
  unfold nw at h
  cases e : H a with
  | none => rw [e] at h; exact h
  | some u => rw [e] at h; cases h
theorem nw_up {G H1 : Hp} (e : Ex G H1) (n : ∀ a, H a ≠ none → G a = none) : Ex G (nw H H1) := fun a o h => nw_at (by
  cases q : H a with
  | none => rfl
  | some u => rw [n a (by rw [q]; exact fun z => nomatch z)] at h; cases h) (e a o h)
theorem ex_none {H1 : Hp} {a : Addr} (e : Ex H H1) (n : H1 a = none) : H a = none := by
  cases q : H a with
  | none => rfl
  | some o => rw [e a o q] at n; cases n
theorem sm_none {H1 : Hp} {p a : Addr} (e : Sm p H H1) (n : H1 a = none) (h : a ≠ p) : H a = none := by
  cases q : H a with
  | none => rfl
  | some o => rw [e a o h q] at n; cases n
end
end SB

set_option Elab.async false
set_option linter.all false
set_option maxRecDepth 100000
set_option maxHeartbeats 4000000
/-! != of objects with a == of their own -/
namespace SB
open PySem PySem.Spec PyProof.Rows L2 Evl Builtin
section
variable {prog : Program} {w : World} {A : Around} {E : Value → Shared → Prop} {s : Shared} {K : PySem.W.Frag} {x C f : Addr} {ox : Obj} {od : Option Obj} {b tb : Value}
theorem objNe_in {Q : Fin → Shared → Prop} (hu : A.units < cLine) (X : K.In s.heap) (I : PySem.W.InstAt s.heap x ox C od) (hs : PySem.W.findIn K (.ref C) "__eq__" = some (some (.ref f))) (hf : PySem.W.isFn K (.ref f) = true)
    (h : wpAny (model prog w) A (call (.ref f) [.ref x, b]) (fun v s' => ∃ r, v = .bool r ∧ Q (.done (.ret (.bool (!r)))) s') E s) : wpAny (model prog w) A (Builtin.«object.__ne__» ⟨[.ref x, b], []⟩) Q E s := by
  have go : wpAny (model prog w) A (callSpecialIfBound? (.ref x) (Str.ofString "__eq__") [b]) (fun v s' => ∃ r, v = some (.bool r) ∧ Q (.done (.ret (.bool (!r)))) s') E s :=
    PySem.W.ifBound_K X I hs hf (wpAny_mono h (fun v s' z => by obtain ⟨r, rfl, q⟩ := z; exact ⟨r, rfl, q⟩) fun _ _ e => e)
  unfold Builtin.«object.__ne__»
  repeat (first
    | with_reducible refine wpAny_cRoomFor hu ?_
    | (refine wpAny_bind (m := callSpecialIfBound? (.ref x) (Str.ofString "__eq__") [b]) (wpAny_mono go (fun v s' z => ?_) fun _ _ e => e)
       obtain ⟨r, rfl, q⟩ := z
       repeat (first | exact q | exact wpAny_pure q | exact wpAny_truthy_bool q | (refine wpAny_bind (m := truthy (.bool _)) (wpAny_truthy_bool ?_)) | wp_step))
    | wp_step)
theorem ne_own {Q : Value → Shared → Prop} (hu : A.units + 1 < cLine) (X : K.In s.heap) (I : PySem.W.InstAt s.heap x ox C od) (hb : PySem.W.Looks (model prog w) s.heap (typeOf b) tb) (hn : PySem.W.notFirst K C tb = true)
    (hm : PySem.W.mroIn K C (.type "object") = some true) (hne : PySem.W.findIn K (.ref C) "__ne__" = some (some (.builtin "object.__ne__"))) (hs : PySem.W.findIn K (.ref C) "__eq__" = some (some (.ref f))) (hf : PySem.W.isFn K (.ref f) = true)
    (h : wpAny (model prog w) A.in1 (call (.ref f) [.ref x, b]) (fun v s' => ∃ r, v = .bool r ∧ Q (.bool (!r)) s') E s) : wpAny (model prog w) A (richCompare .NotEq (.ref x) b) Q E s := by
  have hu1 : A.in1.units < cLine := hu
  have c1 : wpAny (model prog w) A (call (.builtin "object.__ne__") ([.ref x] ++ [b])) (fun v s' => ∃ r, v = .bool r ∧ Q (.bool r) s') E s := by
    refine wpAny_call (codeAny_call_builtin F.cmp_object.ne.plain F.cmpEntry_ne (PySem.W.check_slot F.cmpKind_ne F.cmpSplit_ne (I.type.andThen (PySem.W.looks_mroIn X hm)) (F.cmpArgs_ne _ _) (objNe_in hu1 X I hs hf (wpAny_mono h (fun v s' z => ?_) fun _ _ e => e))))
    obtain ⟨r, rfl, q⟩ := z
    exact ⟨r, rfl, !r, rfl, q⟩
  have one : wpAny (model prog w) A (tryCompare (.ref x) "__ne__" b) (fun r s' => ∃ v, r = some (.bool v) ∧ Q (.bool v) s') E s := by
    unfold tryCompare
    have sp : PySem.W.Looks (model prog w) s.heap (specialOf (.ref x) "__ne__") (some (.builtin "object.__ne__")) := I.type.andThen (PySem.W.looks_findIn X hne)
    refine wpAny_bind (NtL.csib sp (F.cmp_object.ne.bind _) (wpAny_mono c1 (fun v s' z => ?_) fun _ _ e => e))
    obtain ⟨r, rfl, q⟩ := z
    exact wpAny_pure ⟨r, rfl, q⟩
  unfold richCompare
  rw [cmpInfo_NotEq]
  simp only [oneThing_ref]
  refine wpAny_holding (wpAny_bind (wpAny_cRoomFor (Nat.lt_of_succ_lt hu) (wpAny_bind (I.type.here (wpAny_bind (hb.here ?_))))))
  have fin : ∀ {α : Type} {k : Option Value → Sem α} {R : α → Shared → Prop}, (∀ v s', Q (.bool v) s' → wpAny (model prog w) A (k (some (.bool v))) R E s') → wpAny (model prog w) A (tryCompare (.ref x) "__ne__" b >>= k) R E s := fun hk =>
    wpAny_bind (wpAny_mono one (fun r s' z => by obtain ⟨v, rfl, q⟩ := z; exact hk v s' q) fun _ _ e => e)
  split
  · rename_i q
    have e : PySem.W.subIn K tb (.ref C) = some false := by
      rcases Bool.or_eq_true_iff.mp hn with e | e
      · rw [beq_iff_eq.mp e] at q; simp at q
      · exact beq_iff_eq.mp e
    refine wpAny_bind ((PySem.W.looks_subIn X e).here ?_)
    simp only [Bool.false_eq_true, if_false]
    exact fin fun v s' q => wpAny_pure q
  · refine wpAny_bind (wpAny_pure ?_)
    simp only [Bool.false_eq_true, if_false]
    exact fin fun v s' q => wpAny_pure q
end
/-- object's own != stands -/
structure NeC (K : PySem.W.Frag) (C : Addr) : Prop where
  ne : PySem.W.findIn K (.ref C) "__ne__" = some (some (.builtin "object.__ne__"))
  mr : PySem.W.mroIn K C (.type "object") = some true
def rNeO (K : PySem.W.Frag) (C : Addr) (sp : Sp) (E : XK) : R2 := fun x y H Q => ∃ a dx fs t, x = .ref a ∧ H a = some (.ins C dx fs) ∧ TyX K H y t ∧ PySem.W.notFirst K C t = true ∧ sp [.ref a, y] H (fun v H2 => ∃ b, v = .bl b ∧ Q (.bl (!b)) H2) E
theorem op_neO {X : Cx} {CX : CXT} {k : Nat} {f C : Addr} {fd : FuncData} {ps : List Str} {sp : Sp} {E : XK} (N : NeC X.K C) (D : Dun X.K C "__eq__" f) (F : FnOk X.prog X.w X.K X.mg X.base CX k f fd ps sp) (hr : Room (k + 1) X.A) (hb : Binds X.K fd ps []) (hx : Passes CX X E) : OpR X (compareOp .NotEq) (rNeO X.K C sp E) := by
  intro pins s σ H x y v u Q I rx ry h
  obtain ⟨a, dx, fs, t, rfl, ha, ty, nf, q⟩ := h
  cases rx
  obtain ⟨ox, od, J⟩ := inst_of I ha
  obtain ⟨Pr, Z, p, hne⟩ := kit_of I ry ty
  show wpAny (model X.prog X.w) X.A (richCompare .NotEq (.ref a) u) (EP X pins σ Q) X.xe s
  have hu : X.A.units + 1 < cLine := by have := hr.units; omega
  refine ne_own hu I.kIn J (Z.ty _ _ I.kIn p) nf N.mr N.ne D.at_ D.fn (wpAny_mono (run_at rfl F hr.in1 hb hx I (.cons (rv_ref (a := a)) (.cons ry .nil)) q) (fun r s2 z => ?_) fun _ _ z => z)
  obtain ⟨w, H2, I2, rw', b, rfl, q2⟩ := z
  cases rw'
  exact ⟨b, rfl, .bl (!b), H2, I2, rfl, q2⟩
theorem k_neO {X : Cx} (K : PySem.W.Frag) (e : X.K = K) {CX : CXT} {k : Nat} {f C : Addr} {fd : FuncData} {ps : List Str} {sp : Sp} {E : XK} (N : NeC K C) (D : Dun K C "__eq__" f) (F : FnOk X.prog X.w K X.mg X.base CX k f fd ps sp) (hr : Room (k + 1) X.A) (hb : Binds K fd ps []) (hx : Passes CX X E) : OpR X (compareOp .NotEq) (rNeO K C sp E) := by
  subst e
  exact op_neO N D F hr hb hx
end SB

set_option Elab.async false
set_option linter.all false
set_option maxRecDepth 100000
set_option maxHeartbeats 4000000
/-! != of things that are the same, of a list of objects and an empty one -/
namespace SB
open PySem PySem.Spec PyProof.Rows L2 Evl
section
variable {X : Cx} {K : PySem.W.Frag} {H : Hp}
/-- an item that is the same object, or the same number, text, bool, None -/
def Itm (x : V) : Prop := (∃ a, x = .ref a) ∨ flatV x = true
theorem eqV_self : ∀ {x : V}, flatV x = true → eqV x x = true
  | .non, _ => rfl
  | .bl b, _ => by unfold eqV; simp
  | .int i, _ => by unfold eqV; simp
  | .str z, _ => by unfold eqV; simp
theorem itm_eq {A : Around} {s : Shared} {x : V} {u v : Value} (i : Itm x) (ru : RelV x u) (rv : RelV x v) : SeqAt.EqAt A s u v true := by
  rcases i with ⟨a, rfl⟩ | f
  · cases ru; cases rv; exact SeqAt.EqAt.same _
  · have e := eqAt_V (A := A) (s := s) ru rv f f
    rw [eqV_self f] at e
    exact e
theorem vals_at {xs : List V} {us vs : List Value} (r : Vals xs us) (r2 : Vals xs vs) {j : Nat} (h1 : j < us.length) (h2 : j < vs.length) : ∃ x ∈ xs, RelV x us[j] ∧ RelV x vs[j] := by
  induction r generalizing vs j with
  | nil => exact absurd h1 (Nat.not_lt_zero _)
  | @cons x u xs us rx r ih =>
    cases r2 with
    | @cons _ v _ vs ry r2 =>
      cases j with
      | zero => exact ⟨x, List.mem_cons_self .., rx, ry⟩
      | succ j =>
        obtain ⟨y, hy, a, b⟩ := ih r2 (j := j) (by simpa using h1) (by simpa using h2)
        exact ⟨y, List.mem_cons_of_mem _ hy, a, b⟩
/-- the same thing twice, or two tuples | lists of the same things -/
inductive Same2 (K : PySem.W.Frag) (H : Hp) : V → V → Prop
  | flat {x y : V} : scal x y = true → x = y → Same2 K H x y
  | tup {a b : Addr} {xs : List V} : SqT K H a xs → SqT K H b xs → (∀ x ∈ xs, Itm x) → Same2 K H (.ref a) (.ref b)
  | lst {a b : Addr} {xs : List V} : SqL K H a xs → SqL K H b xs → (∀ x ∈ xs, Itm x) → Same2 K H (.ref a) (.ref b)
  | dic {a b : Addr} : H a = some (.dK []) → H b = some (.dK []) → Same2 K H (.ref a) (.ref b)
def rNeS (K : PySem.W.Frag) : R2 := fun x y H Q => Same2 K H x y ∧ Q (.bl false) H
theorem op_neS (hu : X.A.units + 1 < cLine) : OpR X (compareOp .NotEq) (rNeS X.K) := by
  intro pins s σ H x y v u Q I rx ry h
  obtain ⟨h, q⟩ := h
  cases h with
  | flat h1 h2 =>
    subst h2
    exact op_ne pins s σ H x x v u Q I rx ry ⟨h1, by rw [decide_eq_true rfl]; exact q⟩
  | @tup a b xs ha hb hx =>
    cases rx; cases ry
    obtain ⟨us, r, e, _⟩ := I.tuple ha
    obtain ⟨vs, r2, e2, _⟩ := I.tuple hb
    have hl : us.length = vs.length := by rw [← r.length, ← r2.length]
    have c := SeqAt.RcNeAt.tuples (A := X.A) (e := fun _ => true) e e2 (Nat.lt_of_succ_lt hu) fun j h1 h2 => by
      obtain ⟨z, hz, z1, z2⟩ := vals_at r r2 (j := j) (by simpa using h1) (by simpa using h2)
      simpa using itm_eq (A := X.A.in1) (s := s) (hx z hz) z1 z2
    refine c X.prog X.w X.xe _ ⟨.bl false, H, I, ?_, q⟩
    have : (!((List.range (min us.toArray.size vs.toArray.size)).all (fun _ => true) && us.toArray.size == vs.toArray.size)) = false := by simp [hl]
    rw [this]
    rfl
  | @lst a b xs ha hb hx =>
    cases rx; cases ry
    obtain ⟨us, r, e, _⟩ := I.list ha
    obtain ⟨vs, r2, e2, _⟩ := I.list hb
    have hl : us.length = vs.length := by rw [← r.length, ← r2.length]
    have c := SeqAt.RcNeAt.lists (A := X.A) (e := fun _ => true) e.isList e2.isList (by simpa using hl) (Nat.lt_of_succ_lt hu) fun j h1 h2 => by
      obtain ⟨z, hz, z1, z2⟩ := vals_at r r2 (j := j) (by simpa using h1) (by simpa using h2)
      simpa using itm_eq (A := X.A.in1) (s := s) (hx z hz) z1 z2
    refine c X.prog X.w X.xe _ ⟨.bl false, H, I, ?_, q⟩
    have : (!(List.range us.toArray.size).all (fun _ => true)) = false := by simp
    rw [this]
    rfl
  | @dic a b ha hb =>
    exact op_ne_dictA (Nat.lt_of_succ_lt hu) pins s σ H (.ref a) (.ref b) v u Q I rx ry ⟨a, b, [], [], rfl, rfl, ha, hb, rfl, (fun p hp => nomatch hp), q⟩
theorem k_neS (K : PySem.W.Frag) (e : X.K = K) (hu : X.A.units + 1 < cLine) : OpR X (compareOp .NotEq) (rNeS K) := e ▸ op_neS hu
theorem r_neS {x y : V} {Q : VK} (h : Same2 K H x y) (q : Q (.bl false) H) : rNeS K x y H Q := ⟨h, q⟩
/-- xs != [], xs of any objects -/
def rNeL0 (K : PySem.W.Frag) : R2 := fun x y H Q => ∃ a b xs, x = .ref a ∧ y = .ref b ∧ SqL K H a xs ∧ SqL K H b [] ∧ Q (.bl (!xs.isEmpty)) H
theorem op_neL0 (hu : X.A.units + 1 < cLine) : OpR X (compareOp .NotEq) (rNeL0 X.K) := by
  intro pins s σ H x y v u Q I rx ry h
  obtain ⟨a, b, xs, rfl, rfl, ha, hb, q⟩ := h
  cases rx; cases ry
  obtain ⟨us, r, e, _⟩ := I.list ha
  obtain ⟨vs, r2, e2, _⟩ := I.list hb
  cases r2
  cases r with
  | nil =>
    have c := SeqAt.RcNeAt.lists (A := X.A) (e := fun _ => true) e.isList e2.isList rfl (Nat.lt_of_succ_lt hu) fun j h1 h2 => absurd h1 (Nat.not_lt_zero _)
    exact c X.prog X.w X.xe _ ⟨.bl false, H, I, rfl, q⟩
  | @cons x0 u0 xs0 us0 rx r =>
    have c := SeqAt.RcNeAt.lists_lengths (A := X.A) e.isList e2.isList (by simp) (Nat.lt_of_succ_lt hu)
    exact c X.prog X.w X.xe _ ⟨.bl true, H, I, rfl, q⟩
theorem k_neL0 (K : PySem.W.Frag) (e : X.K = K) (hu : X.A.units + 1 < cLine) : OpR X (compareOp .NotEq) (rNeL0 K) := e ▸ op_neL0 hu
theorem r_neL0 {a b : Addr} {xs : List V} {Q : VK} (h1 : SqL K H a xs) (h2 : SqL K H b []) (q : Q (.bl (!xs.isEmpty)) H) : rNeL0 K (.ref a) (.ref b) H Q := ⟨a, b, xs, rfl, rfl, h1, h2, q⟩
theorem r_neO {C a dx : Addr} {sp : Sp} {E : XK} {fs : List (Str × V)} {y : V} {t : Value} {Q : VK} (h : H a = some (.ins C dx fs)) (ty : TyX K H y t) (nf : PySem.W.notFirst K C t = true) (q : sp [.ref a, y] H (fun v H2 => ∃ b, v = .bl b ∧ Q (.bl (!b)) H2) E) : rNeO K C sp E (.ref a) y H Q :=
  ⟨a, dx, fs, t, rfl, h, ty, nf, q⟩
/-- sorted(d), d a dict with texts for keys -/
def rSortDK : List V → Hp → VK → Prop := fun xs H Q => ∃ (a : Addr) (kvs : List (Key × V)) (ks : List Str), xs = [.ref a] ∧ Rd H a (.dK kvs) ∧ kvs.map (·.1) = ks.map Sum.inr ∧ ks.length < 64 ∧ ∀ ys p, ys.Perm ks → sortedS ys = true → H p = none → Q (.ref p) (upd H p (.lst (ys.map V.str)))
theorem r_iE {ta : TA} {σ : L2.St} {R : It → Hp → Prop} (h : ta σ H fun vs H1 => ∃ a xs, vs = [V.ref a] ∧ SqL K H1 a xs ∧ R (Ite K a) H1) : iEnum K ta σ H R := h
theorem r_tDIn {ty td : TE} {σ : L2.St} {Q : VK} (h : ty σ H fun y H1 => td σ H1 fun x H2 => ∃ a o, x = .ref a ∧ DGet H2 a y o ∧ Q (.bl o.isSome) H2) : tDIn ty td σ H Q := h
theorem r_tDNotIn {ty td : TE} {σ : L2.St} {Q : VK} (h : ty σ H fun y H1 => td σ H1 fun x H2 => ∃ a o, x = .ref a ∧ DGet H2 a y o ∧ Q (.bl (!o.isSome)) H2) : tDNotIn ty td σ H Q := h
theorem r_tDGet {ty td : TE} {σ : L2.St} {Q : VK} (h : td σ H fun x H1 => ty σ H1 fun y H2 => ∃ a v, x = .ref a ∧ DGet H2 a y (some v) ∧ Q v H2) : tDGet td ty σ H Q := h
theorem r_sDPut {ty td tv : TE} {D : Ends} {σ : L2.St} (h : tv σ H fun v H1 => td σ H1 fun x H2 => ty σ H2 fun y H3 => ∃ a H4, x = .ref a ∧ DPut H3 a y v H4 ∧ D.nx σ H4) : sDPut td ty tv D σ H := h
theorem r_subO {C : Addr} {sp : Sp} {E : XK} {ta tb : TE} {σ : L2.St} {Q : VK} (h : ta σ H fun y H1 => tb σ H1 fun x H2 => ∃ a dx fs, y = .ref a ∧ H2 a = some (.ins C dx fs) ∧ sp [.ref a, x] H2 Q E) : tSubO C sp E ta tb σ H Q := h
theorem k_sortDK (c : X.calm = true) : CallR X (.builtin "sorted") rSortDK := call_sortedD c
theorem r_sortDK {a : Addr} {kvs : List (Key × V)} {ks : List Str} {Q : VK} (h : H a = some (.dK kvs)) (e : kvs.map (·.1) = ks.map Sum.inr) (l : ks.length < 64) (q : ∀ ys p H1, ys.Perm ks → sortedS ys = true → H p = none → Ex H H1 → H1 p = some (.lst (ys.map V.str)) → Q (.ref p) H1) : rSortDK [.ref a] H Q :=
  ⟨a, kvs, ks, rfl, .inl h, e, l, fun ys p h1 h2 hp => q ys p _ h1 h2 hp (Ex.new hp) upd_same⟩
theorem dputK {a : Addr} {kvs : List (Key × V)} (k : Str) (v : V) (h : H a = some (.dK kvs)) (l : kvs.length < 100000) : ∃ H1, DPut H a (.str k) v H1 ∧ H1 a = some (.dK (putK kvs (Sum.inr k) v)) ∧ Sm a H H1 :=
  ⟨_, .inl ⟨kvs, Sum.inr k, h, rfl, sz_lt l, rfl⟩, upd_same, fun b o hb hh => by rw [upd_ne hb]; exact hh⟩
theorem dgetK {a : Addr} {kvs : List (Key × V)} (k : Str) (h : H a = some (.dK kvs)) : DGet H a (.str k) (valV kvs (Sum.inr k)) := .inl ⟨kvs, Sum.inr k, .inl h, rfl, rfl⟩
theorem dgetE {a : Addr} {kvs : List (Key × V)} {k : Str} {v : V} (h : H a = some (.dK kvs)) (e : valV kvs (Sum.inr k) = some v) : DGet H a (.str k) (some v) := .inl ⟨kvs, Sum.inr k, .inl h, rfl, e.symm⟩
/-- the dict of names and what they name -/
def kvz (ns : List Str) (xs : List V) : List (Key × V) := (ns.map Sum.inr).zip xs
theorem kvz_val : ∀ (ns : List Str) (xs : List V) (k : Str), ns.length ≤ xs.length → (valV (kvz ns xs) (Sum.inr k)).isSome = decide (k ∈ ns)
  | [], _, _, _ => rfl
  | n :: ns, [], _, h => absurd h (by simp)
  | n :: ns, x :: xs, k, h => by
    have e : kvz (n :: ns) (x :: xs) = (Sum.inr n, x) :: kvz ns xs := rfl
    rw [e]
    by_cases q : n = k
    · rw [valV_pos (by rw [q])]; simp [q]
    · rw [valV_neg (fun z => q (Sum.inr.inj z)), kvz_val ns xs k (by simpa using h)]
      have : k ≠ n := fun z => q z.symm
      simp [this]
theorem kvz_at : ∀ (ns : List Str) (xs : List V) (i : Nat) (k : Str) (x : V), ns.Nodup → ns[i]? = some k → xs[i]? = some x → valV (kvz ns xs) (Sum.inr k) = some x
  | [], _, _, _, _, _, h, _ => by simp at h
  | n :: ns, [], i, _, _, _, _, h => by simp at h
  | n :: ns, y :: xs, i, k, x, nd, h1, h2 => by
    have e : kvz (n :: ns) (y :: xs) = (Sum.inr n, y) :: kvz ns xs := rfl
    rw [e]
    rw [List.nodup_cons] at nd
    cases i with
    | zero =>
      cases h1; cases h2
      exact valV_pos rfl
    | succ i =>
      rw [List.getElem?_cons_succ] at h1 h2
      rw [valV_neg (p := (Sum.inr n, y)) (fun z => nd.1 ((Sum.inr.inj (show (Sum.inr n : Key) = Sum.inr k from z)) ▸ List.mem_of_getElem? h1)), kvz_at ns xs i k x nd.2 h1 h2]
theorem kvz_put {ns : List Str} {xs : List V} {k : Str} {x : V} (h : xs[ns.length]? = some x) (n : k ∉ ns) : putK (kvz ns xs) (Sum.inr k) x = kvz (ns ++ [k]) xs := by
  have hl : ns.length < xs.length := (List.getElem?_eq_some_iff.mp h).1
  have e : (valV (kvz ns xs) (Sum.inr k)).isSome = false := by rw [kvz_val ns xs k (by omega)]; exact decide_eq_false n
  unfold putK
  rw [valV_any, e, if_neg Bool.false_ne_true]
  have hx : xs = xs.take ns.length ++ x :: xs.drop (ns.length + 1) := by
    rw [List.getElem?_eq_some_iff] at h
    obtain ⟨_, h⟩ := h
    rw [← h, ← List.drop_eq_getElem_cons, List.take_append_drop]
  have z1 : kvz ns xs = (ns.map Sum.inr).zip (xs.take ns.length) := by
    unfold kvz
    rw [List.zip_eq_zip_take_min]
    simp [Nat.min_eq_left (Nat.le_of_lt hl)]
    rw [List.take_of_length_le (by simp)]
  rw [z1]
  unfold kvz
  rw [List.map_append]
  conv => rhs; rw [hx]
  rw [List.zip_append (by simp; omega)]
  rfl
theorem kvz_len {ns : List Str} {xs : List V} (h : ns.length ≤ xs.length) : (kvz ns xs).length = ns.length := by unfold kvz; simp; omega
theorem kvz_keys {ns : List Str} {xs : List V} (h : ns.length ≤ xs.length) : (kvz ns xs).map (·.1) = ns.map Sum.inr := by
  unfold kvz
  rw [show (fun p : Key × V => p.1) = Prod.fst from rfl, List.map_fst_zip (by simpa using h)]
end
end SB

set_option Elab.async false
set_option linter.all false
set_option maxRecDepth 100000
/-! sorted lists of texts -/
namespace SB
open PySem PySem.Spec PyProof.Rows L2 Evl
abbrev leS (a b : Str) : Prop := a.cps.toList ≤ b.cps.toList
theorem leS_of {a b : Str} (h : ltCps b.cps.toList a.cps.toList = false) : leS a b := by
  rw [ltCps_eq] at h
  exact List.not_lt.mp (of_decide_eq_false h)
theorem rising_pw : ∀ (p : Str) (l : List Str), risingS p l = true → (p :: l).Pairwise leS
  | p, [], _ => by simp
  | p, x :: r, h => by
    have h1 : (!ltCps x.cps.toList p.cps.toList && risingS x r) = true := h
    rw [Bool.and_eq_true] at h1
    have ih := rising_pw x r h1.2
    have px : leS p x := leS_of (by simpa using h1.1)
    refine List.pairwise_cons.mpr ⟨fun z hz => ?_, ih⟩
    rcases List.mem_cons.mp hz with rfl | hz
    · exact px
    · exact List.le_trans px ((List.pairwise_cons.mp ih).1 z hz)
theorem sorted_pw : ∀ {l : List Str}, sortedS l = true → l.Pairwise leS
  | [], _ => .nil
  | x :: r, h => rising_pw x r h
theorem sorted_uniq {ys zs : List Str} (p : ys.Perm zs) (h1 : sortedS ys = true) (h2 : sortedS zs = true) : ys = zs :=
  List.Perm.eq_of_pairwise (fun a b _ _ h1 h2 => str_ext (List.le_antisymm h1 h2)) (sorted_pw h1) (sorted_pw h2) p
theorem r_sortS {K : PySem.W.Frag} {H : Hp} {a : Addr} {xs : List Str} {Q : VK} (h : SqL K H a (xs.map V.str)) (l : xs.length < 64) (q : ∀ ys p H1, ys.Perm xs → sortedS ys = true → H p = none → Ex H H1 → H1 p = some (.lst (ys.map V.str)) → Q (.ref p) H1) : rSortedS K [.ref a] H Q :=
  ⟨a, xs, rfl, h, l, fun ys p h1 h2 hp => q ys p _ h1 h2 hp (Ex.new hp) upd_same⟩
theorem r_clear {K : PySem.W.Frag} {H : Hp} {l : Addr} {xs : List V} {Q : VK} (h : H l = some (.lst xs)) (q : ∀ H1, H1 l = some (.lst []) → Sm l H H1 → Q .non H1) : rClear (.ref l) [] H Q :=
  ⟨l, xs, rfl, rfl, h, q _ upd_same fun b o hb hh => by rw [upd_ne hb]; exact hh⟩
end SB

set_option Elab.async false
set_option linter.all false
set_option maxRecDepth 100000
set_option maxHeartbeats 4000000
/-! errors as values: made, their one value read, isinstance -/
namespace SB
open PySem PySem.Spec PyProof.Rows L2 Evl
/-- X(e): a new error and its dict -/
def tMkV (C : Addr) (f : Str) (ta : TA) : TE := fun σ H Q => ta σ H fun vs H1 => ∃ v, vs = [v] ∧ ∀ a d H2, H1 a = none → H1 d = none → Ex H1 H2 → H2 a = some (exo a C (some d)) → H2 d = some (exd d [(f, v)]) → Q (.ref a) H2
section
variable {X : Cx} {x f : Str} {C fi : Addr} {fd : FuncData} {k : Nat} {p pos : Pos} {e : Expr} {ta : TA}
theorem pe_xv (T : XC X.K X.mg x f C fi) (F1 : FnOk X.prog X.w X.K X.mg X.base CX0 k fi fd ["self", f] (spXi X.K C f)) (hr : Room (k + 1) X.A) (hb : Binds X.K fd ["self", f] []) (ha : PA X [e] ta) (gl : Gl X x)
    (hdb : (x == ("__debug__" : Str)) = false := by decide) (he : starEach (e :: []) X.env = (false, eval e X.env) :: starEach [] X.env := by rfl) (hpl : (backTo pos (starEach [] X.env)).any (·.1) = false := by rfl) :
    PE X (.Call (.Name x p) [e] [] pos) (tMkV C f ta) := by
  refine ⟨fun pins s σ H Q I h => wpAny_Call_Name_kw (ld_glob I gl T.g (PySem.W.callWith_K (h₀ := X.base) I.ok.mod.kin T.o.kC (thn ((pa_mono ha).run pos pins s σ H _ I ⟨_, h, fun _ _ z => z⟩) fun us s1 z1 => ?_) he hpl) hdb)⟩
  obtain ⟨vs, H1, I1, r1, v, ev, q1⟩ := z1
  subst ev
  obtain ⟨nm, qn, N, bs, bm, sn, sub, ab, col, dd, k0, k1, k2, k3, k5, hC, hbm⟩ := T.o.cls
  refine ⟨I1.kIn, ?_⟩
  show wpAny _ _ (call (.ref C) us) _ _ _
  obtain ⟨hp, g, dr, tk, os⟩ := s1
  generalize hn0 : hp.objs.size = n0
  have hsz : hp.objs.size ≤ n0 + 1 := by omega
  have nA : H1 (n0 + 1) = none := I1.hok.fresh hsz
  have kk : ∀ b o, hp.get? b = some o → ((hp.push (PySem.W.kdv_tup us)).push (PySem.HandSPX.excO C n0)).get? b = some o := fun b o z => Heap.get?_push_of_some _ (Heap.get?_push_of_some _ z)
  have hget : ((hp.push (PySem.W.kdv_tup us)).push (PySem.HandSPX.excO C n0)).get? (n0 + 1) = some (PySem.HandSPX.excO C n0) := by subst hn0; heap_get
  have I2 : Inv X pins σ (upd H1 (n0 + 1) (exo (n0 + 1) C none)) ⟨(hp.push (PySem.W.kdv_tup us)).push (PySem.HandSPX.excO C n0), g, dr, tk, os⟩ := I1.laid (t' := tk) kk hsz (exo_ok hget)
  have hq : spXi X.K C f [.ref (n0 + 1), v] (upd H1 (n0 + 1) (exo (n0 + 1) C none)) (fun w H2 => w = .non ∧ Q (.ref (n0 + 1)) H2) E0 := by
    refine ⟨n0 + 1, v, rfl, upd_same, fun dx nd ne => ⟨rfl, ?_⟩⟩
    have nd1 : H1 dx = none := by rw [upd_ne ne] at nd; exact nd
    refine q1 (n0 + 1) dx _ nA nd1 (fun b o hb => ?_) upd_same (by rw [upd_ne ne, upd_same])
    have b1 : b ≠ dx := ne_of_none hb nd1
    have b2 : b ≠ n0 + 1 := ne_of_none hb nA
    rw [upd_ne b2, upd_ne b1, upd_ne b2]
    exact hb
  have r2 : Vals [V.ref (n0 + 1), v] (Value.ref (n0 + 1) :: us) := .cons rfl r1
  have hus : us.length = 1 := by rw [← r1.length]; rfl
  have hus2 : us.length ≤ sizeLine := by rw [hus, sizeLine_eq]; omega
  have hb2 := hb ⟨(hp.push (PySem.W.kdv_tup us)).push (PySem.HandSPX.excO C n0), g, dr, tk, os⟩ (Value.ref (n0 + 1) :: us) I2.kIn (by simp [hus])
  rw [List.append_nil] at hb2
  subst hn0
  refine wpAny_call (PySem.HandSPX.call_own F.excBase_ValueError (fun Y => PySem.HandSPX.refsVE_contains Y bm hbm) (I1.kIn _ _ hC) (PySem.W.looks_findIn I1.kIn T.i) (fun self => PySem.W.bind_fn I1.kIn self T.t) hus2
    (codeAny_mono (F1.run _ X.stack _ _ ⟨Value.ref (hp.objs.size + 1) :: us, []⟩ (Value.ref (hp.objs.size + 1) :: us) _ _ E0 (hr.make C us []) (I2.env0.make C us []) hb2 r2 hq) fun r s2 z => ?_))
  cases r with
  | error er => exact False.elim z
  | ok fl =>
    cases fl with
    | ret u =>
      obtain ⟨w, H2, J, rw', ew, q2⟩ := I2.after z
      subst ew
      exact ⟨rw', .ref (hp.objs.size + 1), H2, J, rfl, q2⟩
    | next => exact False.elim z
    | brk => exact False.elim z
    | cont => exact False.elim z
/-- err.f of an error that is a value -/
def tXa (C : Addr) (n : Str) (te : TE) : TE := fun σ H Q => te σ H fun x H1 => ∃ a dd fs v, x = .ref a ∧ H1 a = some (exo a C (some dd)) ∧ H1 dd = some (exd dd fs) ∧ fs.lookup n = some v ∧ Q v H1
theorem inst_exo {pins : List (Addr × Obj)} {σ : L2.St} {H : Hp} {s : Shared} {a dd : Addr} {fs : List (Str × V)} (I : Inv X pins σ H s) (ha : H a = some (exo a C (some dd))) (hd : H dd = some (exd dd fs)) :
    ∃ (oe od : Obj) (mA : Str → Option Value), PySem.W.InstAt s.heap a oe C (some od) ∧ (∀ n, RelO (fs.lookup n) (mA n)) ∧ ∀ n, PySem.W.lookIn n od = some (mA n) := by
  obtain ⟨t1, he⟩ := exo_at I.hok ha
  obtain ⟨mA, hns, rel⟩ := exd_at I.hok hd
  obtain ⟨od, ho, hl⟩ := lookIn_ns hns
  exact ⟨_, od, mA, ⟨he, rfl, rfl, ho⟩, rel, hl⟩
theorem pe_xa {te : TE} {n : Str} (T : XfC X.K C) (hno : PySem.W.findIn X.K (.ref C) n = some none) (he : PE X e te) (hb : attributeBase e n X.env (eval e X.env) = eval e X.env := by rfl) : PE X (.Attribute e n pos) (tXa C n te) := by
  refine ⟨fun pins s σ H Q I h => attr_of hb (thn (he.run pins s σ H _ I h) fun u s1 z => ?_)⟩
  obtain ⟨y, H1, I1, ry, a, dd, fs, v, ey, ha, hd, l, q⟩ := z
  subst ey
  cases ry
  obtain ⟨oe, od, mA, J, rel, hl⟩ := inst_exo I1 ha hd
  obtain ⟨u, hu, ru⟩ := RelO.some_of (v := v) (o := mA n) (by rw [← l]; exact rel n)
  exact HandSPX.exc_get I1.kIn J T.ga T.gg T.exC (PySem.W.findObj_own T.hdC hno rfl (by rw [hl, hu])) (handed_of ru) ⟨v, H1, I1.tok _, ru, q⟩
end
section
variable {prog : Program} {w : World} {A : Around} {E : Value → Shared → Prop} {s : Shared} {K : PySem.W.Frag} {x D : Addr} {ox od : Obj}
theorem xcls_ca {Q : Option Value → Shared → Prop} (T : ExcC K D) (X : K.In s.heap) (I : PySem.W.InstAt s.heap x ox D (some od)) (h : Q (some (.ref D)) { s with toks := s.toks + 1 }) : wpAny (model prog w) A (getAttr? (.ref x) "__class__") Q E s := by
  have ff : PySem.W.findObj K D (some od) "__class__" = some (.bind (.builtin "getset_descriptor.__get__") (.builtin "object.__class__")) := PySem.W.findObj_data (by obtain ⟨cd, hc, _⟩ := PySem.W.any_some T.hd; rw [hc]; rfl) T.ha T.hn T.ht
  obtain ⟨hp, g, d, t, os⟩ := s
  have ty := I.type (M := model prog w)
  have own := PySem.W.looks_findIn (M := model prog w) X T.hg
  have alt := PySem.W.looks_findIn (M := model prog w) X T.hk
  have fnd := PySem.W.looks_find (M := model prog w) X I ff
  have isx : PySem.W.Looks (model prog w) hp (isInstance (.ref x) (.type "BaseException")) true := ty.andThen (PySem.W.looks_subIn X T.hs)
  have n2 : (Value.builtin "BaseException.__getattribute__" == Value.builtin "object.__getattribute__") = false := by decide +kernel
  have n1 : (onTheHeap (Value.ref D) && Value.builtin "BaseException.__getattribute__" == Value.builtin "object.__getattribute__") = false := by rw [n2] <;> rfl
  have n0 : (false && onTheHeap (Value.builtin "BaseException.__getattribute__")) = false := Bool.false_and _
  unfold getAttr? getAttrBy? getAttrBy; refine wpAny_bind (wpAny_mkText (wpAny_bind (wpAny_attempt (wpAny_holding (wpAny_bind (ty.at (wpAny_bind (own.at ?_))))))))
  show wpAny _ _ (if (onTheHeap (Value.ref D) && Value.builtin "BaseException.__getattribute__" == Value.builtin "object.__getattribute__") = true then _ else _) _ _ _; rw [n1, if_neg Bool.false_ne_true]; unfold getAttrByItsOwn hookBefore; refine wpAny_bind ?_
  rw [if_pos (show onTheHeap (Value.ref D) = true from rfl)]; refine alt.at (wpAny_bind (wpAny_attempt (wpAny_holding ?_))); unfold callGetattribute; rw [n0, if_neg Bool.false_ne_true]; unfold boundAndCalled; rw [PySem.F.excAttr_ValueError.ga.bind (.ref x)]
  refine wpAny_bind (wpAny_pure ?_); show wpAny _ _ (call (.builtin "BaseException.__getattribute__") [.ref x, .str "__class__" t]) _ _ _
  refine wpAny_call (codeAny_call_builtin PySem.F.excAttr_ValueError.ga.plain PySem.F.entry_bexc_ga (@PySem.W.check_slot (model prog w) _ _ ⟨hp, g, d, t + 1, os⟩ "BaseException.__getattribute__" "BaseException" "__getattribute__" (.ref x) [.str "__class__" t] [] _ (by decide +kernel) (by decide +kernel) isx (PySem.F.args_bexc_ga (.ref x) (.str "__class__" t)) ?_))
  unfold Builtin.«object.__getattribute__»; refine wpAny_bind (wpAny_of_eq (a := ((Value.ref x : Value), [Value.str "__class__" t])) (by first | rfl | (simp only [Builtin.slotArgs]; rfl)) (wpAny_bind (wpAny_pure (wpAny_bind (ty.at (wpAny_bind (fnd.at ?_)))))))
  show wpAny _ _ (holding [Value.builtin "object.__class__"] (call (.builtin "getset_descriptor.__get__") [.builtin "object.__class__", .ref x, .ref D]) >>= ret) _ _ _; refine wpAny_bind (wpAny_holding (wpAny_call (PySem.W.class_get (s := ⟨hp, g, d, t + 1, os⟩) (ox := ox) (od := some od) X I T.hm (wpAny_pure ?_))))
  show wpAny _ _ (handedOut (.ref D)) _ _ _; rw [PySem.W.handedOut_of (v := .ref D) rfl]
  first | exact wpAny_pure (wpAny_pure h) | exact wpAny_pure h | exact wpAny_pure (wpAny_bind (wpAny_pure (wpAny_pure h)))
theorem kitx_err (T : ExcC K D) : PySem.W.KitX K (.ref x) (.ref D) (fun h => PySem.W.InstAt h x ox D (some od)) :=
  let Z := PySem.W.handS_kitx_exc (K := K) (x := x) (ox := ox) T.hg T.hk T.hs T.hd T.ha T.hn T.ht T.hm
  { ty := fun _ _ _ I => I.type
    it := fun _ _ Y _ => by
      obtain ⟨cd, hc, _⟩ := PySem.W.any_some T.hd
      unfold PySem.W.clsIn at hc
      split at hc
      · rename_i c1 d1 cd1 sl1 ho
        intro A1 Q1 E1 s1 kp q
        unfold isType loadHead
        exact wpAny_bind (wpAny_loadPart (kp _ _ (Y _ _ ho)) (wpAny_pure q))
      · cases hc
    ne := fun h tp dd its n sl Y ht => by
      obtain ⟨cd, hc, _⟩ := PySem.W.any_some T.hd
      cases q : ((Value.ref D) == (Value.ref tp)) with
      | false => rfl
      | true =>
        obtain rfl : D = tp := Value.ref.inj (beq_iff_eq.mp q)
        unfold PySem.W.clsIn at hc
        split at hc
        · rename_i c1 d1 cd1 sl1 ho
          cases (Y _ _ ho).symm.trans ht
        · cases hc
    ca := fun Y I k => xcls_ca T Y I k }
end
/-- isinstance(err, c), err an error that is a value -/
def rIsX (K : PySem.W.Frag) : List V → Hp → VK → Prop := fun xs H Q => ∃ (a C dd : Addr) (fs : List (Str × V)) (c : V) (u : Value) (b : Bool), xs = [.ref a, c] ∧ ClsV c u ∧ H a = some (exo a C (some dd)) ∧ H dd = some (exd dd fs) ∧ ExcC K C ∧ PySem.W.kitOne K (.ref C) u = some b ∧ Q (.bl b) H
theorem call_isX {X : Cx} : CallR X (.builtin "isinstance") (rIsX X.K) := by
  intro pins s σ H xs us Q I r h
  obtain ⟨a, C, dd, fs, c, u, b, rfl, kc, ha, hd, T, e, q⟩ := h
  obtain ⟨u1, u2, rfl, r1, r2⟩ := vals2 r
  have e2 := kc.eq r2
  subst e2
  cases r1
  obtain ⟨oe, od, mA, J, _, _⟩ := inst_exo I ha hd
  exact PySem.W.kia_one (kitx_err T) I.kIn J e (fun z => nomatch z) fun tk => ⟨.bl b, H, I.tok tk, rfl, q⟩
theorem k_isX {X : Cx} (K : PySem.W.Frag) (e : X.K = K) : CallR X (.builtin "isinstance") (rIsX K) := e ▸ call_isX
theorem r_isX {K : PySem.W.Frag} {H : Hp} {a C dd : Addr} {fs : List (Str × V)} {c : V} {u : Value} {b : Bool} {Q : VK} (hc : ClsV c u) (ha : H a = some (exo a C (some dd))) (hd : H dd = some (exd dd fs)) (T : ExcC K C) (e : PySem.W.kitOne K (.ref C) u = some b) (q : Q (.bl b) H) : rIsX K [.ref a, c] H Q :=
  ⟨a, C, dd, fs, c, u, b, rfl, hc, ha, hd, T, e, q⟩
section
variable {K : PySem.W.Frag} {H : Hp} {σ : L2.St}
theorem r_mkv {C : Addr} {f : Str} {ta : TA} {Q : VK} (h : ta σ H fun vs H1 => ∃ v, vs = [v] ∧ ∀ a d H2, H1 a = none → H1 d = none → Ex H1 H2 → H2 a = some (exo a C (some d)) → H2 d = some (exd d [(f, v)]) → Q (.ref a) H2) : tMkV C f ta σ H Q := h
def pXa (C : Addr) (n : Str) (x : V) (H1 : Hp) (Q : VK) : Prop := ∃ a dd fs v, x = .ref a ∧ H1 a = some (exo a C (some dd)) ∧ H1 dd = some (exd dd fs) ∧ fs.lookup n = some v ∧ Q v H1
theorem r_xa0 {C : Addr} {n : Str} {te : TE} {Q : VK} (h : te σ H fun x H1 => pXa C n x H1 Q) : tXa C n te σ H Q := h
theorem r_xa {C a dd : Addr} {n : Str} {fs : List (Str × V)} {v : V} {Q : VK} (h1 : H a = some (exo a C (some dd))) (h2 : H dd = some (exd dd fs)) (h3 : fs.lookup n = some v) (q : Q v H) : pXa C n (.ref a) H Q := ⟨a, dd, fs, v, rfl, h1, h2, h3, q⟩
end
end SB
namespace SL
open PySem L2 SB Evl
def topS (i : Nat) : Stmt := PySem.Challenge.pw_scopebind_k07_errors_by_hand.main.body.getD i (.Pass ⟨0, 0, 0, 0⟩)
abbrev s_NoLibrary___init__ : Stmt := inClass (topS 2) 0
abbrev N_NoLibrary___init__ : List Str := ["self", "part"]
abbrev P_NoLibrary___init__ : List Str := ["self", "part"]
theorem sc_NoLibrary___init__ : FnScope N_NoLibrary___init__ P_NoLibrary___init__ (defScope s_NoLibrary___init__) := ⟨rfl, rfl, rfl, by decide +kernel, rfl, by decide +kernel, by decide +kernel⟩
abbrev s_NoStore___init__ : Stmt := inClass (topS 3) 0
abbrev N_NoStore___init__ : List Str := ["self", "at"]
abbrev P_NoStore___init__ : List Str := ["self", "at"]
theorem sc_NoStore___init__ : FnScope N_NoStore___init__ P_NoStore___init__ (defScope s_NoStore___init__) := ⟨rfl, rfl, rfl, by decide +kernel, rfl, by decide +kernel, by decide +kernel⟩
abbrev s_NoName___init__ : Stmt := inClass (topS 4) 0
abbrev N_NoName___init__ : List Str := ["self", "name"]
abbrev P_NoName___init__ : List Str := ["self", "name"]
theorem sc_NoName___init__ : FnScope N_NoName___init__ P_NoName___init__ (defScope s_NoName___init__) := ⟨rfl, rfl, rfl, by decide +kernel, rfl, by decide +kernel, by decide +kernel⟩
abbrev s_Missing___init__ : Stmt := inClass (topS 5) 0
abbrev N_Missing___init__ : List Str := ["self", "name"]
abbrev P_Missing___init__ : List Str := ["self", "name"]
theorem sc_Missing___init__ : FnScope N_Missing___init__ P_Missing___init__ (defScope s_Missing___init__) := ⟨rfl, rfl, rfl, by decide +kernel, rfl, by decide +kernel, by decide +kernel⟩
abbrev s_NoSymbol___init__ : Stmt := inClass (topS 6) 0
abbrev N_NoSymbol___init__ : List Str := ["self", "symbol"]
abbrev P_NoSymbol___init__ : List Str := ["self", "symbol"]
theorem sc_NoSymbol___init__ : FnScope N_NoSymbol___init__ P_NoSymbol___init__ (defScope s_NoSymbol___init__) := ⟨rfl, rfl, rfl, by decide +kernel, rfl, by decide +kernel, by decide +kernel⟩
abbrev s_NoPreloads___init__ : Stmt := inClass (topS 7) 0
abbrev N_NoPreloads___init__ : List Str := ["self", "at"]
abbrev P_NoPreloads___init__ : List Str := ["self", "at"]
theorem sc_NoPreloads___init__ : FnScope N_NoPreloads___init__ P_NoPreloads___init__ (defScope s_NoPreloads___init__) := ⟨rfl, rfl, rfl, by decide +kernel, rfl, by decide +kernel, by decide +kernel⟩
abbrev s_NotLoaded___init__ : Stmt := inClass (topS 8) 0
abbrev N_NotLoaded___init__ : List Str := ["self", "name"]
abbrev P_NotLoaded___init__ : List Str := ["self", "name"]
theorem sc_NotLoaded___init__ : FnScope N_NotLoaded___init__ P_NotLoaded___init__ (defScope s_NotLoaded___init__) := ⟨rfl, rfl, rfl, by decide +kernel, rfl, by decide +kernel, by decide +kernel⟩
abbrev s_NotUsed___init__ : Stmt := inClass (topS 9) 0
abbrev N_NotUsed___init__ : List Str := ["self", "symbol"]
abbrev P_NotUsed___init__ : List Str := ["self", "symbol"]
theorem sc_NotUsed___init__ : FnScope N_NotUsed___init__ P_NotUsed___init__ (defScope s_NotUsed___init__) := ⟨rfl, rfl, rfl, by decide +kernel, rfl, by decide +kernel, by decide +kernel⟩
abbrev s_Unresolved___init__ : Stmt := inClass (topS 10) 0
abbrev N_Unresolved___init__ : List Str := ["self", "use"]
abbrev P_Unresolved___init__ : List Str := ["self", "use"]
theorem sc_Unresolved___init__ : FnScope N_Unresolved___init__ P_Unresolved___init__ (defScope s_Unresolved___init__) := ⟨rfl, rfl, rfl, by decide +kernel, rfl, by decide +kernel, by decide +kernel⟩
abbrev s_NoHandle___init__ : Stmt := inClass (topS 11) 0
abbrev N_NoHandle___init__ : List Str := ["self", "handle"]
abbrev P_NoHandle___init__ : List Str := ["self", "handle"]
theorem sc_NoHandle___init__ : FnScope N_NoHandle___init__ P_NoHandle___init__ (defScope s_NoHandle___init__) := ⟨rfl, rfl, rfl, by decide +kernel, rfl, by decide +kernel, by decide +kernel⟩
abbrev s_NoWishes___init__ : Stmt := inClass (topS 12) 0
abbrev N_NoWishes___init__ : List Str := ["self", "symbol"]
abbrev P_NoWishes___init__ : List Str := ["self", "symbol"]
theorem sc_NoWishes___init__ : FnScope N_NoWishes___init__ P_NoWishes___init__ (defScope s_NoWishes___init__) := ⟨rfl, rfl, rfl, by decide +kernel, rfl, by decide +kernel, by decide +kernel⟩
abbrev s__law_well : Stmt := topS 15
abbrev N__law_well : List Str := ["_law_cell"]
abbrev P__law_well : List Str := ["_law_cell"]
theorem sc__law_well : FnScope N__law_well P__law_well (defScope s__law_well) := ⟨rfl, rfl, rfl, by decide +kernel, rfl, by decide +kernel, by decide +kernel⟩
abbrev s__law_draw : Stmt := topS 16
abbrev N__law_draw : List Str := ["_law_well_here", "_law_many", "_law_digit", "_law_prime", "_law_number"]
abbrev P__law_draw : List Str := ["_law_well_here", "_law_many"]
theorem sc__law_draw : FnScope N__law_draw P__law_draw (defScope s__law_draw) := ⟨rfl, rfl, rfl, by decide +kernel, rfl, by decide +kernel, by decide +kernel⟩
abbrev s__law_one : Stmt := topS 17
abbrev N__law_one : List Str := ["_law_well_here", "_law_some"]
abbrev P__law_one : List Str := ["_law_well_here", "_law_some"]
theorem sc__law_one : FnScope N__law_one P__law_one (defScope s__law_one) := ⟨rfl, rfl, rfl, by decide +kernel, rfl, by decide +kernel, by decide +kernel⟩
abbrev s__law_errors : Stmt := topS 18
abbrev N__law_errors : List Str := ["_law_thing", "_law_one_here", "_law_two", "_law_three", "_law_four", "_law_first", "_law_five", "_law_six", "_law_seven", "_law_eight", "_law_second", "_law_nine", "_law_ten", "_law_last"]
abbrev P__law_errors : List Str := ["_law_thing"]
theorem sc__law_errors : FnScope N__law_errors P__law_errors (defScope s__law_errors) := ⟨rfl, rfl, rfl, by decide +kernel, rfl, by decide +kernel, by decide +kernel⟩
abbrev s__law_kinds : Stmt := topS 19
abbrev N__law_kinds : List Str := ["_law_error", "_law_first", "_law_second", "_law_third"]
abbrev P__law_kinds : List Str := ["_law_error"]
theorem sc__law_kinds : FnScope N__law_kinds P__law_kinds (defScope s__law_kinds) := ⟨rfl, rfl, rfl, by decide +kernel, rfl, by decide +kernel, by decide +kernel⟩
abbrev s_law : Stmt := topS 20
abbrev N_law : List Str := ["_law_script", "_law_cell", "_law_well_here", "_law_thing", "_law_k", "_law_row", "_law_error", "_law_kept", "_law_at"]
abbrev P_law : List Str := ["_law_script"]
theorem sc_law : FnScope N_law P_law (defScope s_law) := ⟨rfl, rfl, rfl, by decide +kernel, rfl, by decide +kernel, by decide +kernel⟩
/-- where things stand -/
structure Adr where
  C_LoadError : Addr
  C_NoLibrary : Addr
  C_NoStore : Addr
  C_NoName : Addr
  C_Missing : Addr
  C_NoSymbol : Addr
  C_NoPreloads : Addr
  C_NotLoaded : Addr
  C_NotUsed : Addr
  C_Unresolved : Addr
  C_NoHandle : Addr
  C_NoWishes : Addr
  f_NoLibrary___init__ : Addr
  d_NoLibrary___init__ : FuncData
  f_NoStore___init__ : Addr
  d_NoStore___init__ : FuncData
  f_NoName___init__ : Addr
  d_NoName___init__ : FuncData
  f_Missing___init__ : Addr
  d_Missing___init__ : FuncData
  f_NoSymbol___init__ : Addr
  d_NoSymbol___init__ : FuncData
  f_NoPreloads___init__ : Addr
  d_NoPreloads___init__ : FuncData
  f_NotLoaded___init__ : Addr
  d_NotLoaded___init__ : FuncData
  f_NotUsed___init__ : Addr
  d_NotUsed___init__ : FuncData
  f_Unresolved___init__ : Addr
  d_Unresolved___init__ : FuncData
  f_NoHandle___init__ : Addr
  d_NoHandle___init__ : FuncData
  f_NoWishes___init__ : Addr
  d_NoWishes___init__ : FuncData
  f__law_well : Addr
  d__law_well : FuncData
  f__law_draw : Addr
  d__law_draw : FuncData
  f__law_one : Addr
  d__law_one : FuncData
  f__law_errors : Addr
  d__law_errors : FuncData
  f__law_kinds : Addr
  d__law_kinds : FuncData
  f_law : Addr
  d_law : FuncData

/-- what the top has written -/
structure Txt (K : PySem.W.Frag) (mg : Str → Option Value) (A : Adr) : Prop where
  b_ValueError : mg "ValueError" = none
  b_bool : mg "bool" = none
  b_enumerate : mg "enumerate" = none
  b_int : mg "int" = none
  b_isinstance : mg "isinstance" = none
  b_len : mg "len" = none
  b_list : mg "list" = none
  b_range : mg "range" = none
  ld : LdC K mg A.C_LoadError
  x_NoLibrary : XC K mg "NoLibrary" "part" A.C_NoLibrary A.f_NoLibrary___init__
  x_NoStore : XC K mg "NoStore" "at" A.C_NoStore A.f_NoStore___init__
  x_NoName : XC K mg "NoName" "name" A.C_NoName A.f_NoName___init__
  x_Missing : XC K mg "Missing" "name" A.C_Missing A.f_Missing___init__
  x_NoSymbol : XC K mg "NoSymbol" "symbol" A.C_NoSymbol A.f_NoSymbol___init__
  x_NoPreloads : XC K mg "NoPreloads" "at" A.C_NoPreloads A.f_NoPreloads___init__
  x_NotLoaded : XC K mg "NotLoaded" "name" A.C_NotLoaded A.f_NotLoaded___init__
  x_NotUsed : XC K mg "NotUsed" "symbol" A.C_NotUsed A.f_NotUsed___init__
  x_Unresolved : XC K mg "Unresolved" "use" A.C_Unresolved A.f_Unresolved___init__
  x_NoHandle : XC K mg "NoHandle" "handle" A.C_NoHandle A.f_NoHandle___init__
  x_NoWishes : XC K mg "NoWishes" "symbol" A.C_NoWishes A.f_NoWishes___init__
  F_NoLibrary___init__ : Fun K "__init__" "NoLibrary.__init__" s_NoLibrary___init__ A.f_NoLibrary___init__ A.d_NoLibrary___init__
  bi_NoLibrary___init__ : Binds K A.d_NoLibrary___init__ P_NoLibrary___init__ []
  F_NoStore___init__ : Fun K "__init__" "NoStore.__init__" s_NoStore___init__ A.f_NoStore___init__ A.d_NoStore___init__
  bi_NoStore___init__ : Binds K A.d_NoStore___init__ P_NoStore___init__ []
  F_NoName___init__ : Fun K "__init__" "NoName.__init__" s_NoName___init__ A.f_NoName___init__ A.d_NoName___init__
  bi_NoName___init__ : Binds K A.d_NoName___init__ P_NoName___init__ []
  F_Missing___init__ : Fun K "__init__" "Missing.__init__" s_Missing___init__ A.f_Missing___init__ A.d_Missing___init__
  bi_Missing___init__ : Binds K A.d_Missing___init__ P_Missing___init__ []
  F_NoSymbol___init__ : Fun K "__init__" "NoSymbol.__init__" s_NoSymbol___init__ A.f_NoSymbol___init__ A.d_NoSymbol___init__
  bi_NoSymbol___init__ : Binds K A.d_NoSymbol___init__ P_NoSymbol___init__ []
  F_NoPreloads___init__ : Fun K "__init__" "NoPreloads.__init__" s_NoPreloads___init__ A.f_NoPreloads___init__ A.d_NoPreloads___init__
  bi_NoPreloads___init__ : Binds K A.d_NoPreloads___init__ P_NoPreloads___init__ []
  F_NotLoaded___init__ : Fun K "__init__" "NotLoaded.__init__" s_NotLoaded___init__ A.f_NotLoaded___init__ A.d_NotLoaded___init__
  bi_NotLoaded___init__ : Binds K A.d_NotLoaded___init__ P_NotLoaded___init__ []
  F_NotUsed___init__ : Fun K "__init__" "NotUsed.__init__" s_NotUsed___init__ A.f_NotUsed___init__ A.d_NotUsed___init__
  bi_NotUsed___init__ : Binds K A.d_NotUsed___init__ P_NotUsed___init__ []
  F_Unresolved___init__ : Fun K "__init__" "Unresolved.__init__" s_Unresolved___init__ A.f_Unresolved___init__ A.d_Unresolved___init__
  bi_Unresolved___init__ : Binds K A.d_Unresolved___init__ P_Unresolved___init__ []
  F_NoHandle___init__ : Fun K "__init__" "NoHandle.__init__" s_NoHandle___init__ A.f_NoHandle___init__ A.d_NoHandle___init__
  bi_NoHandle___init__ : Binds K A.d_NoHandle___init__ P_NoHandle___init__ []
  F_NoWishes___init__ : Fun K "__init__" "NoWishes.__init__" s_NoWishes___init__ A.f_NoWishes___init__ A.d_NoWishes___init__
  bi_NoWishes___init__ : Binds K A.d_NoWishes___init__ P_NoWishes___init__ []
  F__law_well : Fun K "_law_well" "_law_well" s__law_well A.f__law_well A.d__law_well
  bi__law_well : Binds K A.d__law_well P__law_well []
  g__law_well : mg "_law_well" = some (.ref A.f__law_well)
  k__law_well : PySem.W.keepIn K (.ref A.f__law_well) = true
  F__law_draw : Fun K "_law_draw" "_law_draw" s__law_draw A.f__law_draw A.d__law_draw
  bi__law_draw : Binds K A.d__law_draw P__law_draw []
  g__law_draw : mg "_law_draw" = some (.ref A.f__law_draw)
  k__law_draw : PySem.W.keepIn K (.ref A.f__law_draw) = true
  F__law_one : Fun K "_law_one" "_law_one" s__law_one A.f__law_one A.d__law_one
  bi__law_one : Binds K A.d__law_one P__law_one []
  g__law_one : mg "_law_one" = some (.ref A.f__law_one)
  k__law_one : PySem.W.keepIn K (.ref A.f__law_one) = true
  F__law_errors : Fun K "_law_errors" "_law_errors" s__law_errors A.f__law_errors A.d__law_errors
  bi__law_errors : Binds K A.d__law_errors P__law_errors []
  g__law_errors : mg "_law_errors" = some (.ref A.f__law_errors)
  k__law_errors : PySem.W.keepIn K (.ref A.f__law_errors) = true
  F__law_kinds : Fun K "_law_kinds" "_law_kinds" s__law_kinds A.f__law_kinds A.d__law_kinds
  bi__law_kinds : Binds K A.d__law_kinds P__law_kinds []
  g__law_kinds : mg "_law_kinds" = some (.ref A.f__law_kinds)
  k__law_kinds : PySem.W.keepIn K (.ref A.f__law_kinds) = true
  F_law : Fun K "law" "law" s_law A.f_law A.d_law
  bi_law : Binds K A.d_law P_law []
  g_law : mg "law" = some (.ref A.f_law)
  k_law : PySem.W.keepIn K (.ref A.f_law) = true
  s_0_1 : PySem.W.subIn K (.ref A.C_NoLibrary) (.ref A.C_NoStore) = some false
  s_0_2 : PySem.W.subIn K (.ref A.C_NoLibrary) (.ref A.C_NoName) = some false
  s_0_3 : PySem.W.subIn K (.ref A.C_NoLibrary) (.ref A.C_Missing) = some false
  s_0_4 : PySem.W.subIn K (.ref A.C_NoLibrary) (.ref A.C_NoSymbol) = some false
  s_0_5 : PySem.W.subIn K (.ref A.C_NoLibrary) (.ref A.C_NoPreloads) = some false
  s_0_6 : PySem.W.subIn K (.ref A.C_NoLibrary) (.ref A.C_NotLoaded) = some false
  s_0_7 : PySem.W.subIn K (.ref A.C_NoLibrary) (.ref A.C_NotUsed) = some false
  s_0_8 : PySem.W.subIn K (.ref A.C_NoLibrary) (.ref A.C_Unresolved) = some false
  s_0_9 : PySem.W.subIn K (.ref A.C_NoLibrary) (.ref A.C_NoHandle) = some false
  s_0_10 : PySem.W.subIn K (.ref A.C_NoLibrary) (.ref A.C_NoWishes) = some false
  s_1_0 : PySem.W.subIn K (.ref A.C_NoStore) (.ref A.C_NoLibrary) = some false
  s_1_2 : PySem.W.subIn K (.ref A.C_NoStore) (.ref A.C_NoName) = some false
  s_1_3 : PySem.W.subIn K (.ref A.C_NoStore) (.ref A.C_Missing) = some false
  s_1_4 : PySem.W.subIn K (.ref A.C_NoStore) (.ref A.C_NoSymbol) = some false
  s_1_5 : PySem.W.subIn K (.ref A.C_NoStore) (.ref A.C_NoPreloads) = some false
  s_1_6 : PySem.W.subIn K (.ref A.C_NoStore) (.ref A.C_NotLoaded) = some false
  s_1_7 : PySem.W.subIn K (.ref A.C_NoStore) (.ref A.C_NotUsed) = some false
  s_1_8 : PySem.W.subIn K (.ref A.C_NoStore) (.ref A.C_Unresolved) = some false
  s_1_9 : PySem.W.subIn K (.ref A.C_NoStore) (.ref A.C_NoHandle) = some false
  s_1_10 : PySem.W.subIn K (.ref A.C_NoStore) (.ref A.C_NoWishes) = some false
  s_2_0 : PySem.W.subIn K (.ref A.C_NoName) (.ref A.C_NoLibrary) = some false
  s_2_1 : PySem.W.subIn K (.ref A.C_NoName) (.ref A.C_NoStore) = some false
  s_2_3 : PySem.W.subIn K (.ref A.C_NoName) (.ref A.C_Missing) = some false
  s_2_4 : PySem.W.subIn K (.ref A.C_NoName) (.ref A.C_NoSymbol) = some false
  s_2_5 : PySem.W.subIn K (.ref A.C_NoName) (.ref A.C_NoPreloads) = some false
  s_2_6 : PySem.W.subIn K (.ref A.C_NoName) (.ref A.C_NotLoaded) = some false
  s_2_7 : PySem.W.subIn K (.ref A.C_NoName) (.ref A.C_NotUsed) = some false
  s_2_8 : PySem.W.subIn K (.ref A.C_NoName) (.ref A.C_Unresolved) = some false
  s_2_9 : PySem.W.subIn K (.ref A.C_NoName) (.ref A.C_NoHandle) = some false
  s_2_10 : PySem.W.subIn K (.ref A.C_NoName) (.ref A.C_NoWishes) = some false
  s_3_0 : PySem.W.subIn K (.ref A.C_Missing) (.ref A.C_NoLibrary) = some false
  s_3_1 : PySem.W.subIn K (.ref A.C_Missing) (.ref A.C_NoStore) = some false
  s_3_2 : PySem.W.subIn K (.ref A.C_Missing) (.ref A.C_NoName) = some false
  s_3_4 : PySem.W.subIn K (.ref A.C_Missing) (.ref A.C_NoSymbol) = some false
  s_3_5 : PySem.W.subIn K (.ref A.C_Missing) (.ref A.C_NoPreloads) = some false
  s_3_6 : PySem.W.subIn K (.ref A.C_Missing) (.ref A.C_NotLoaded) = some false
  s_3_7 : PySem.W.subIn K (.ref A.C_Missing) (.ref A.C_NotUsed) = some false
  s_3_8 : PySem.W.subIn K (.ref A.C_Missing) (.ref A.C_Unresolved) = some false
  s_3_9 : PySem.W.subIn K (.ref A.C_Missing) (.ref A.C_NoHandle) = some false
  s_3_10 : PySem.W.subIn K (.ref A.C_Missing) (.ref A.C_NoWishes) = some false
  s_4_0 : PySem.W.subIn K (.ref A.C_NoSymbol) (.ref A.C_NoLibrary) = some false
  s_4_1 : PySem.W.subIn K (.ref A.C_NoSymbol) (.ref A.C_NoStore) = some false
  s_4_2 : PySem.W.subIn K (.ref A.C_NoSymbol) (.ref A.C_NoName) = some false
  s_4_3 : PySem.W.subIn K (.ref A.C_NoSymbol) (.ref A.C_Missing) = some false
  s_4_5 : PySem.W.subIn K (.ref A.C_NoSymbol) (.ref A.C_NoPreloads) = some false
  s_4_6 : PySem.W.subIn K (.ref A.C_NoSymbol) (.ref A.C_NotLoaded) = some false
  s_4_7 : PySem.W.subIn K (.ref A.C_NoSymbol) (.ref A.C_NotUsed) = some false
  s_4_8 : PySem.W.subIn K (.ref A.C_NoSymbol) (.ref A.C_Unresolved) = some false
  s_4_9 : PySem.W.subIn K (.ref A.C_NoSymbol) (.ref A.C_NoHandle) = some false
  s_4_10 : PySem.W.subIn K (.ref A.C_NoSymbol) (.ref A.C_NoWishes) = some false
  s_5_0 : PySem.W.subIn K (.ref A.C_NoPreloads) (.ref A.C_NoLibrary) = some false
  s_5_1 : PySem.W.subIn K (.ref A.C_NoPreloads) (.ref A.C_NoStore) = some false
  s_5_2 : PySem.W.subIn K (.ref A.C_NoPreloads) (.ref A.C_NoName) = some false
  s_5_3 : PySem.W.subIn K (.ref A.C_NoPreloads) (.ref A.C_Missing) = some false
  s_5_4 : PySem.W.subIn K (.ref A.C_NoPreloads) (.ref A.C_NoSymbol) = some false
  s_5_6 : PySem.W.subIn K (.ref A.C_NoPreloads) (.ref A.C_NotLoaded) = some false
  s_5_7 : PySem.W.subIn K (.ref A.C_NoPreloads) (.ref A.C_NotUsed) = some false
  s_5_8 : PySem.W.subIn K (.ref A.C_NoPreloads) (.ref A.C_Unresolved) = some false
  s_5_9 : PySem.W.subIn K (.ref A.C_NoPreloads) (.ref A.C_NoHandle) = some false
  s_5_10 : PySem.W.subIn K (.ref A.C_NoPreloads) (.ref A.C_NoWishes) = some false
  s_6_0 : PySem.W.subIn K (.ref A.C_NotLoaded) (.ref A.C_NoLibrary) = some false
  s_6_1 : PySem.W.subIn K (.ref A.C_NotLoaded) (.ref A.C_NoStore) = some false
  s_6_2 : PySem.W.subIn K (.ref A.C_NotLoaded) (.ref A.C_NoName) = some false
  s_6_3 : PySem.W.subIn K (.ref A.C_NotLoaded) (.ref A.C_Missing) = some false
  s_6_4 : PySem.W.subIn K (.ref A.C_NotLoaded) (.ref A.C_NoSymbol) = some false
  s_6_5 : PySem.W.subIn K (.ref A.C_NotLoaded) (.ref A.C_NoPreloads) = some false
  s_6_7 : PySem.W.subIn K (.ref A.C_NotLoaded) (.ref A.C_NotUsed) = some false
  s_6_8 : PySem.W.subIn K (.ref A.C_NotLoaded) (.ref A.C_Unresolved) = some false
  s_6_9 : PySem.W.subIn K (.ref A.C_NotLoaded) (.ref A.C_NoHandle) = some false
  s_6_10 : PySem.W.subIn K (.ref A.C_NotLoaded) (.ref A.C_NoWishes) = some false
  s_7_0 : PySem.W.subIn K (.ref A.C_NotUsed) (.ref A.C_NoLibrary) = some false
  s_7_1 : PySem.W.subIn K (.ref A.C_NotUsed) (.ref A.C_NoStore) = some false
  s_7_2 : PySem.W.subIn K (.ref A.C_NotUsed) (.ref A.C_NoName) = some false
  s_7_3 : PySem.W.subIn K (.ref A.C_NotUsed) (.ref A.C_Missing) = some false
  s_7_4 : PySem.W.subIn K (.ref A.C_NotUsed) (.ref A.C_NoSymbol) = some false
  s_7_5 : PySem.W.subIn K (.ref A.C_NotUsed) (.ref A.C_NoPreloads) = some false
  s_7_6 : PySem.W.subIn K (.ref A.C_NotUsed) (.ref A.C_NotLoaded) = some false
  s_7_8 : PySem.W.subIn K (.ref A.C_NotUsed) (.ref A.C_Unresolved) = some false
  s_7_9 : PySem.W.subIn K (.ref A.C_NotUsed) (.ref A.C_NoHandle) = some false
  s_7_10 : PySem.W.subIn K (.ref A.C_NotUsed) (.ref A.C_NoWishes) = some false
  s_8_0 : PySem.W.subIn K (.ref A.C_Unresolved) (.ref A.C_NoLibrary) = some false
  s_8_1 : PySem.W.subIn K (.ref A.C_Unresolved) (.ref A.C_NoStore) = some false
  s_8_2 : PySem.W.subIn K (.ref A.C_Unresolved) (.ref A.C_NoName) = some false
  s_8_3 : PySem.W.subIn K (.ref A.C_Unresolved) (.ref A.C_Missing) = some false
  s_8_4 : PySem.W.subIn K (.ref A.C_Unresolved) (.ref A.C_NoSymbol) = some false
  s_8_5 : PySem.W.subIn K (.ref A.C_Unresolved) (.ref A.C_NoPreloads) = some false
  s_8_6 : PySem.W.subIn K (.ref A.C_Unresolved) (.ref A.C_NotLoaded) = some false
  s_8_7 : PySem.W.subIn K (.ref A.C_Unresolved) (.ref A.C_NotUsed) = some false
  s_8_9 : PySem.W.subIn K (.ref A.C_Unresolved) (.ref A.C_NoHandle) = some false
  s_8_10 : PySem.W.subIn K (.ref A.C_Unresolved) (.ref A.C_NoWishes) = some false
  s_9_0 : PySem.W.subIn K (.ref A.C_NoHandle) (.ref A.C_NoLibrary) = some false
  s_9_1 : PySem.W.subIn K (.ref A.C_NoHandle) (.ref A.C_NoStore) = some false
  s_9_2 : PySem.W.subIn K (.ref A.C_NoHandle) (.ref A.C_NoName) = some false
  s_9_3 : PySem.W.subIn K (.ref A.C_NoHandle) (.ref A.C_Missing) = some false
  s_9_4 : PySem.W.subIn K (.ref A.C_NoHandle) (.ref A.C_NoSymbol) = some false
  s_9_5 : PySem.W.subIn K (.ref A.C_NoHandle) (.ref A.C_NoPreloads) = some false
  s_9_6 : PySem.W.subIn K (.ref A.C_NoHandle) (.ref A.C_NotLoaded) = some false
  s_9_7 : PySem.W.subIn K (.ref A.C_NoHandle) (.ref A.C_NotUsed) = some false
  s_9_8 : PySem.W.subIn K (.ref A.C_NoHandle) (.ref A.C_Unresolved) = some false
  s_9_10 : PySem.W.subIn K (.ref A.C_NoHandle) (.ref A.C_NoWishes) = some false
  s_10_0 : PySem.W.subIn K (.ref A.C_NoWishes) (.ref A.C_NoLibrary) = some false
  s_10_1 : PySem.W.subIn K (.ref A.C_NoWishes) (.ref A.C_NoStore) = some false
  s_10_2 : PySem.W.subIn K (.ref A.C_NoWishes) (.ref A.C_NoName) = some false
  s_10_3 : PySem.W.subIn K (.ref A.C_NoWishes) (.ref A.C_Missing) = some false
  s_10_4 : PySem.W.subIn K (.ref A.C_NoWishes) (.ref A.C_NoSymbol) = some false
  s_10_5 : PySem.W.subIn K (.ref A.C_NoWishes) (.ref A.C_NoPreloads) = some false
  s_10_6 : PySem.W.subIn K (.ref A.C_NoWishes) (.ref A.C_NotLoaded) = some false
  s_10_7 : PySem.W.subIn K (.ref A.C_NoWishes) (.ref A.C_NotUsed) = some false
  s_10_8 : PySem.W.subIn K (.ref A.C_NoWishes) (.ref A.C_Unresolved) = some false
  s_10_9 : PySem.W.subIn K (.ref A.C_NoWishes) (.ref A.C_NoHandle) = some false
  s_0 : PySem.W.subIn K (.ref A.C_NoLibrary) (.ref A.C_NoLibrary) = some true
  s_1 : PySem.W.subIn K (.ref A.C_NoStore) (.ref A.C_NoStore) = some true
  s_2 : PySem.W.subIn K (.ref A.C_NoName) (.ref A.C_NoName) = some true
  s_3 : PySem.W.subIn K (.ref A.C_Missing) (.ref A.C_Missing) = some true
  s_4 : PySem.W.subIn K (.ref A.C_NoSymbol) (.ref A.C_NoSymbol) = some true
  s_5 : PySem.W.subIn K (.ref A.C_NoPreloads) (.ref A.C_NoPreloads) = some true
  s_6 : PySem.W.subIn K (.ref A.C_NotLoaded) (.ref A.C_NotLoaded) = some true
  s_7 : PySem.W.subIn K (.ref A.C_NotUsed) (.ref A.C_NotUsed) = some true
  s_8 : PySem.W.subIn K (.ref A.C_Unresolved) (.ref A.C_Unresolved) = some true
  s_9 : PySem.W.subIn K (.ref A.C_NoHandle) (.ref A.C_NoHandle) = some true
  s_10 : PySem.W.subIn K (.ref A.C_NoWishes) (.ref A.C_NoWishes) = some true
  l_0 : PySem.W.kitOne K (.ref A.C_NoLibrary) (.ref A.C_LoadError) = some true
  l_1 : PySem.W.kitOne K (.ref A.C_NoStore) (.ref A.C_LoadError) = some true
  l_2 : PySem.W.kitOne K (.ref A.C_NoName) (.ref A.C_LoadError) = some true
  l_3 : PySem.W.kitOne K (.ref A.C_Missing) (.ref A.C_LoadError) = some true
  l_4 : PySem.W.kitOne K (.ref A.C_NoSymbol) (.ref A.C_LoadError) = some true
  l_5 : PySem.W.kitOne K (.ref A.C_NoPreloads) (.ref A.C_LoadError) = some true
  l_6 : PySem.W.kitOne K (.ref A.C_NotLoaded) (.ref A.C_LoadError) = some true
  l_7 : PySem.W.kitOne K (.ref A.C_NotUsed) (.ref A.C_LoadError) = some true
  l_8 : PySem.W.kitOne K (.ref A.C_Unresolved) (.ref A.C_LoadError) = some true
  l_9 : PySem.W.kitOne K (.ref A.C_NoHandle) (.ref A.C_LoadError) = some true
  l_10 : PySem.W.kitOne K (.ref A.C_NoWishes) (.ref A.C_LoadError) = some true
  v_0 : PySem.W.subIn K (.ref A.C_NoLibrary) (.type "ValueError") = some true
  v_1 : PySem.W.subIn K (.ref A.C_NoStore) (.type "ValueError") = some true
  v_2 : PySem.W.subIn K (.ref A.C_NoName) (.type "ValueError") = some true
  v_3 : PySem.W.subIn K (.ref A.C_Missing) (.type "ValueError") = some true
  v_4 : PySem.W.subIn K (.ref A.C_NoSymbol) (.type "ValueError") = some true
  v_5 : PySem.W.subIn K (.ref A.C_NoPreloads) (.type "ValueError") = some true
  v_6 : PySem.W.subIn K (.ref A.C_NotLoaded) (.type "ValueError") = some true
  v_7 : PySem.W.subIn K (.ref A.C_NotUsed) (.type "ValueError") = some true
  v_8 : PySem.W.subIn K (.ref A.C_Unresolved) (.type "ValueError") = some true
  v_9 : PySem.W.subIn K (.ref A.C_NoHandle) (.type "ValueError") = some true
  v_10 : PySem.W.subIn K (.ref A.C_NoWishes) (.type "ValueError") = some true
  i_0 : PySem.W.isClsIn K A.C_NoLibrary = true
  i_1 : PySem.W.isClsIn K A.C_NoStore = true
  i_2 : PySem.W.isClsIn K A.C_NoName = true
  i_3 : PySem.W.isClsIn K A.C_Missing = true
  i_4 : PySem.W.isClsIn K A.C_NoSymbol = true
  i_5 : PySem.W.isClsIn K A.C_NoPreloads = true
  i_6 : PySem.W.isClsIn K A.C_NotLoaded = true
  i_7 : PySem.W.isClsIn K A.C_NotUsed = true
  i_8 : PySem.W.isClsIn K A.C_Unresolved = true
  i_9 : PySem.W.isClsIn K A.C_NoHandle = true
  i_10 : PySem.W.isClsIn K A.C_NoWishes = true
  t_0 : PySem.W.typeIn K (.ref A.C_NoLibrary) = some (.type "type")
  t_1 : PySem.W.typeIn K (.ref A.C_NoStore) = some (.type "type")
  t_2 : PySem.W.typeIn K (.ref A.C_NoName) = some (.type "type")
  t_3 : PySem.W.typeIn K (.ref A.C_Missing) = some (.type "type")
  t_4 : PySem.W.typeIn K (.ref A.C_NoSymbol) = some (.type "type")
  t_5 : PySem.W.typeIn K (.ref A.C_NoPreloads) = some (.type "type")
  t_6 : PySem.W.typeIn K (.ref A.C_NotLoaded) = some (.type "type")
  t_7 : PySem.W.typeIn K (.ref A.C_NotUsed) = some (.type "type")
  t_8 : PySem.W.typeIn K (.ref A.C_Unresolved) = some (.type "type")
  t_9 : PySem.W.typeIn K (.ref A.C_NoHandle) = some (.type "type")
  t_10 : PySem.W.typeIn K (.ref A.C_NoWishes) = some (.type "type")
  x_0 : ExcC K A.C_NoLibrary
  x_1 : ExcC K A.C_NoStore
  x_2 : ExcC K A.C_NoName
  x_3 : ExcC K A.C_Missing
  x_4 : ExcC K A.C_NoSymbol
  x_5 : ExcC K A.C_NoPreloads
  x_6 : ExcC K A.C_NotLoaded
  x_7 : ExcC K A.C_NotUsed
  x_8 : ExcC K A.C_Unresolved
  x_9 : ExcC K A.C_NoHandle
  x_10 : ExcC K A.C_NoWishes
/-- the attributes of a library, in the order of the stores -/
abbrev libK : List Str := ["name", "needs", "defines", "uses", "weak", "eager", "own_first"]
local macro_rules | `(tactic| walk_at "rd1") => `(tactic| with_reducible first
  | refine r_seq ?_ | refine r_next ?_ | refine r_asg ?_ | refine r_name ?_ | refine r_ret ?_ | refine r_retN ?_ | refine r_drop ?_ | refine r_if ?_
  | refine r_c ?_ | refine r_op ?_ | refine r_un ?_ | refine r_nil ?_ | refine r_cons ?_ | refine r_CB ?_ | refine r_call ?_ | refine r_test ?_ | refine r_B ?_
  | refine r_iteT (c := true) rfl ?_ | refine r_iteF (c := false) rfl ?_ | refine r_iteF (c := !true) rfl ?_ | refine r_iteT (c := !false) rfl ?_
  | refine r_not ?_ | refine r_and ?_ | refine r_or ?_ | refine r_notV ?_ | refine r_andV ?_ | refine r_orV ?_ | refine r_ifE ?_ | refine r_sub ?_ | refine r_tupT ?_ | refine r_lstT ?_
  | refine r_lc ?_ | refine r_iL ?_ | refine r_iT ?_ | refine r_iS ?_ | refine r_iR1 ?_ | refine r_iR2 ?_ | refine r_for ?_ | refine r_yes ?_ | refine r_inS ?_
  | refine r_fld ?_ | refine r_sfld ?_ | refine r_meth ?_ | refine r_make ?_ | refine r_makeK ?_ | refine r_vei ?_ | refine r_ost ?_ | refine r_mkx ?_
  | refine r_try ?_ | refine r_xa0 ?_ | refine r_iE ?_ | refine r_subO ?_ | refine r_tDIn ?_ | refine r_tDNotIn ?_ | refine r_tDGet ?_ | refine r_sDPut ?_ | refine r_bm ?_ | refine r_bm0 ?_ | refine r_rU ?_ | refine r_step ?_ | refine r_gnil ?_ | refine r_gcons ?_ | refine r_lstM ?_ | refine r_tupM ?_ | refine r_sl ?_ | refine r_noPart ?_ | refine r_part ?_ | refine r_intEx ?_ | refine r_chain ?_ | refine r_lenSetT ?_ | refine r_intB ?_ | refine r_I0 ?_ | refine r_bl ?_
  | (refine r_var (v := ?rv_v) ?rv_h ?_; (case rv_h => with_unfolding_all rfl)))
local macro_rules | `(tactic| walk_at "rd") => `(tactic| repeat (walk_at "rd1"))
section
variable {P : Program} {w : World} {K : PySem.W.Frag} {mg : Str → Option Value} {base : Heap} {A : Adr}
def sp__law_draw (K : PySem.W.Frag) (A : Adr) : Sp := fun vs H Q _ => ∃ (p : Addr) (m : Int) (n : Nat), vs = [.ref p, .int m] ∧ 1 ≤ m ∧ m < 1000000 ∧ n ≤ 1000000000 ∧ WellAt H p n ∧
  ∀ d H', 0 ≤ d → d < m → Sm p H H' → WellAt H' p (n + 1) → Q (.int d) H'
theorem ok__law_draw (T : Txt K mg A) : FnOk P w K mg base CX0 1 A.f__law_draw A.d__law_draw P__law_draw (sp__law_draw K A) := by
  refine T.F__law_draw.ok sc__law_draw (fun vs H Q E h => ?_) (fun cdv Ar outer s H vs Q E hr h => ?_)
  · obtain ⟨p, m, n, rfl, _⟩ := h; rfl
  · have hu := hu_of hr
    refine ⟨_, (pss_cons (ps_if (pt_cmpR op_gt (pe_ix (k_ixL K rfl) (pv 0) pe_int (fun _ _ => rfl)) pe_int (nomark _))
          (pss_cons (ps_set (i := 2) sc__law_draw.nd rfl (Or.inl rfl) (pe_op op_modN (pe_ix (k_ixL K rfl) (pv 0) pe_int (fun _ _ => rfl)) (pv 1)))
        (pss_cons (ps_asg (pe_op op_fdivN (pe_ix (k_ixL K rfl) (pv 0) pe_int (fun _ _ => rfl)) (pv 1)) (pg_sub (pv 0) pe_int set_list))
        (pss_one (ps_ret (pv 2)))))
          pss_nil)
        (pss_cons (ps_asg (pe_op op_add (pe_ix (k_ixL K rfl) (pv 0) pe_int (fun _ _ => rfl)) pe_int) (pg_sub (pv 0) pe_int set_list))
        (pss_cons (ps_set (i := 3) sc__law_draw.nd rfl (Or.inl rfl) (pe_ix (k_ixL K rfl) (pe_lstM (pa_cons pe_int (pa_cons pe_int (pa_cons pe_int (pa_cons pe_int (pa_cons pe_int (pa_cons pe_int (pa_cons pe_int pa_nil)))))))) (pe_op op_modN (pe_ix (k_ixL K rfl) (pv 0) pe_int (fun _ _ => rfl)) pe_int) (fun _ _ => rfl)))
        (pss_cons (ps_set (i := 4) sc__law_draw.nd rfl (Or.inl rfl) (pe_op op_modN (pe_op op_pow (pe_op op_add (pe_op op_add (pe_ix (k_ixL K rfl) (pv 0) pe_int (fun _ _ => rfl)) (pe_op op_mul pe_int (pe_ix (k_ixL K rfl) (pv 0) pe_int (fun _ _ => rfl)))) pe_int) pe_int) (pv 3)))
        (pss_cons (ps_set (i := 4) sc__law_draw.nd rfl (Or.inl rfl) (pe_op op_modN (pe_op op_mul (pe_op op_add (pv 4) (pe_ix (k_ixL K rfl) (pv 0) pe_int (fun _ _ => rfl))) (pe_op op_add (pe_op op_fdivN (pv 4) pe_int) pe_int)) (pv 3)))
        (pss_one (ps_ret (pe_op op_modN (pe_op op_fdivN (pv 4) pe_int) (pv 1))))))))), ?_⟩
    obtain ⟨p, m, n, rfl, m1, m2, hn, ⟨a, b, c, hp, b0, b1, c0, c1⟩, k⟩ := h
    have hS := SqL.of (K := K) hp
    walk_at "rd"
    refine r_ixL hS rfl ?_
    walk_at "rd"
    refine r_ite (fun h0 => ?_) (fun h0 => ?_)
    · walk_at "rd"
      refine r_ixL hS rfl ?_
      walk_at "rd"
      refine r_I (show m ≠ 0 by omega) ?_
      walk_at "rd"
      refine r_ixL hS rfl ?_
      walk_at "rd"
      refine r_I ⟨show m ≠ 0 by omega, by omega⟩ ?_
      walk_at "rd"
      refine r_setL hp rfl fun H1 h1 s1 => ?_
      walk_at "rd"
      have f := fmod_lt (x := a) (m := m) (by omega)
      exact k _ _ f.1 f.2 s1 ⟨_, _, _, h1, b0, b1, c0, by omega⟩
    · walk_at "rd"
      refine r_ixL hS rfl ?_
      walk_at "rd"
      refine r_setL hp rfl fun H1 h1 s1 => ?_
      have hS1 := SqL.of (K := K) h1
      walk_at "rd"
      refine ⟨by simp, fun q H2 nq e2 h2 => ?_⟩
      have hp2 := e2 _ _ h1
      have hS2 := SqL.of (K := K) hp2
      walk_at "rd"
      refine r_ixL hS2 rfl ?_
      walk_at "rd"
      refine r_I (by decide) ?_
      have f7 := fmod_lt (x := c + 1) (m := 7) (by decide)
      obtain ⟨i, hi, hi7⟩ : ∃ i : Nat, (c + 1).fmod 7 = (i : Int) ∧ i < 7 := ⟨((c + 1).fmod 7).toNat, by omega, by omega⟩
      rw [hi]
      have at7 : ∃ pr : Int, atI ([.int 2147483647, .int 2147483629, .int 2147483587, .int 2147483579, .int 2147483563, .int 2147483549, .int 2147483543] : List V) (i : Int) = some (.int pr) ∧ 2147483543 ≤ pr ∧ pr ≤ 2147483647 := by
        rcases (show i = 0 ∨ i = 1 ∨ i = 2 ∨ i = 3 ∨ i = 4 ∨ i = 5 ∨ i = 6 by omega) with rfl | rfl | rfl | rfl | rfl | rfl | rfl <;> exact ⟨_, rfl, by decide, by decide⟩
      obtain ⟨pr, hpr, pr0, pr1⟩ := at7
      refine r_ixL (SqL.of h2) hpr ?_
      walk_at "rd"
      refine r_ixL hS2 rfl ?_
      walk_at "rd"
      refine r_ixL hS2 rfl ?_
      walk_at "rd"
      refine r_I (.inl ⟨by decide, by decide⟩) ?_
      walk_at "rd"
      refine r_I ⟨by decide, by decide, by omega⟩ ?_
      walk_at "rd"
      refine r_I (show pr ≠ 0 by omega) ?_
      walk_at "rd"
      generalize hn1 : Int.fmod _ pr = n1
      have f1 : 0 ≤ n1 ∧ n1 < pr := hn1 ▸ fmod_lt (m := pr) (by omega)
      refine r_ixL hS2 rfl ?_
      walk_at "rd"
      refine r_I ⟨by decide, by decide⟩ ?_
      walk_at "rd"
      refine r_I (.inl ⟨by omega, by omega⟩) ?_
      walk_at "rd"
      refine r_I (show pr ≠ 0 by omega) ?_
      walk_at "rd"
      refine r_I ⟨by decide, by decide⟩ ?_
      walk_at "rd"
      refine r_I (show m ≠ 0 by omega) ?_
      generalize hd : Int.fmod _ m = d
      have fd : 0 ≤ d ∧ d < m := hd ▸ fmod_lt (m := m) (by omega)
      exact k _ _ fd.1 fd.2 (s1.trans (Sm.of e2)) ⟨_, _, _, hp2, b0, b1, by omega, by omega⟩
def sp__law_one (K : PySem.W.Frag) (A : Adr) : Sp := fun vs H Q _ => ∃ (p l : Addr) (xs : List V) (n : Nat), vs = [.ref p, .ref l] ∧ SqL K H l xs ∧ l ≠ p ∧ xs ≠ [] ∧ xs.length < 100000 ∧ n ≤ 1000000000 ∧ WellAt H p n ∧
  ∀ v H', v ∈ xs → Sm p H H' → WellAt H' p (n + 1) → Q v H'
theorem ok__law_one (T : Txt K mg A) : FnOk P w K mg base CX0 2 A.f__law_one A.d__law_one P__law_one (sp__law_one K A) := by
  refine T.F__law_one.ok sc__law_one (fun vs H Q E h => ?_) (fun cdv Ar outer s H vs Q E hr h => ?_)
  · obtain ⟨p, l, xs, n, rfl, _⟩ := h; rfl
  · have hu := hu_of hr
    refine ⟨_, (pss_one (ps_ret (pe_ix (k_ixL K rfl) (pv 1) (pe_call (ok__law_draw T) (hr.mono (by decide)) (by rfl) T.g__law_draw T.k__law_draw T.bi__law_draw .nil pass0 (pa_cons (pv 0) (pa_cons (pe_callB (k_len K rfl) (by rfl) T.b_len PySem.boot_len (pa_cons (pv 1) pa_nil)) pa_nil))) (fun _ _ => rfl)))), ?_⟩
    obtain ⟨p, l, xs, n, rfl, hl, ne, hx, hz, hn, hw, k⟩ := h
    have h0 : 0 < xs.length := List.length_pos_iff.mpr hx
    walk_at "rd"
    refine r_lenL hl ?_
    walk_at "rd"
    refine ⟨p, xs.length, n, rfl, by omega, by omega, hn, hw, fun d H1 d0 d1 s1 w1 => ?_⟩
    obtain ⟨v, e1, e2⟩ := atI_lt d0 d1
    exact r_ixL (s1.seq ne hl) e1 (k v H1 (List.mem_of_getElem? e2) s1 w1)
def sp__law_well (K : PySem.W.Frag) (A : Adr) : Sp := fun vs H Q _ => ∃ c : Int, vs = [.int c] ∧ ∀ p H', H p = none → Ex H H' → WellAt H' p 0 → Q (.ref p) H'
theorem ok__law_well (T : Txt K mg A) : FnOk P w K mg base CX0 1 A.f__law_well A.d__law_well P__law_well (sp__law_well K A) := by
  refine T.F__law_well.ok sc__law_well (fun vs H Q E h => ?_) (fun cdv Ar outer s H vs Q E hr h => ?_)
  · obtain ⟨c, rfl, _⟩ := h; rfl
  · have hu := hu_of hr
    refine ⟨_, (pss_one (ps_ret (pe_lstM (pa_cons (pe_op op_mul (pv 0) (pe_callTy call_intQ (by rfl) T.b_int (by decide +kernel) (pa_cons (pe_cmpR op_ge (pv 0) (pe_op op_pow pe_int pe_int) (nomark _)) pa_nil))) (pa_cons (pe_op op_modN (pv 0) pe_int) (pa_cons pe_int pa_nil)))))), ?_⟩
    obtain ⟨c, rfl, k⟩ := h
    walk_at "rd"
    refine r_I ⟨by decide, by decide, by decide⟩ ?_
    walk_at "rd"
    refine r_I (.inr (by split <;> decide)) ?_
    walk_at "rd"
    refine r_I (by decide) ?_
    walk_at "rd"
    refine ⟨by simp, fun p H1 np e1 h1 => k p H1 np e1 ⟨_, _, _, h1, ?_⟩⟩
    have f := fmod_lt (x := c) (m := 2147483647) (by decide)
    exact ⟨f.1, f.2, by decide, by decide⟩
abbrev sp_NoLibrary___init__ (K : PySem.W.Frag) (A : Adr) : Sp := spXi K A.C_NoLibrary "part"
theorem ok_NoLibrary___init__ (T : Txt K mg A) : FnOk P w K mg base CX0 1 A.f_NoLibrary___init__ A.d_NoLibrary___init__ P_NoLibrary___init__ (sp_NoLibrary___init__ K A) := by
  refine T.F_NoLibrary___init__.ok sc_NoLibrary___init__ (fun vs H Q E h => ?_) (fun cdv Ar outer s H vs Q E hr h => ?_)
  · obtain ⟨a, v, rfl, _⟩ := h; rfl
  · have hu := hu_of hr
    refine ⟨_, (pss_cons (ps_expr (pe_linit T.ld (by rfl) (pa_cons (pv 0) (pa_cons pe_str pa_nil))))
        (pss_one (ps_ost (pv 0) (pv 1)))), ?_⟩
    obtain ⟨a, v, rfl, ha, k⟩ := h
    walk_at "rd"
    refine ⟨a, A.C_NoLibrary, _, rfl, by simp, T.x_NoLibrary.o, ha, ?_⟩
    walk_at "rd"
    exact ⟨a, A.C_NoLibrary, rfl, T.x_NoLibrary.o, T.x_NoLibrary.no, .inl ⟨ha, fun dx nd ne => k dx nd ne⟩⟩
abbrev sp_NoStore___init__ (K : PySem.W.Frag) (A : Adr) : Sp := spXi K A.C_NoStore "at"
theorem ok_NoStore___init__ (T : Txt K mg A) : FnOk P w K mg base CX0 1 A.f_NoStore___init__ A.d_NoStore___init__ P_NoStore___init__ (sp_NoStore___init__ K A) := by
  refine T.F_NoStore___init__.ok sc_NoStore___init__ (fun vs H Q E h => ?_) (fun cdv Ar outer s H vs Q E hr h => ?_)
  · obtain ⟨a, v, rfl, _⟩ := h; rfl
  · have hu := hu_of hr
    refine ⟨_, (pss_cons (ps_expr (pe_linit T.ld (by rfl) (pa_cons (pv 0) (pa_cons pe_str pa_nil))))
        (pss_one (ps_ost (pv 0) (pv 1)))), ?_⟩
    obtain ⟨a, v, rfl, ha, k⟩ := h
    walk_at "rd"
    refine ⟨a, A.C_NoStore, _, rfl, by simp, T.x_NoStore.o, ha, ?_⟩
    walk_at "rd"
    exact ⟨a, A.C_NoStore, rfl, T.x_NoStore.o, T.x_NoStore.no, .inl ⟨ha, fun dx nd ne => k dx nd ne⟩⟩
abbrev sp_NoName___init__ (K : PySem.W.Frag) (A : Adr) : Sp := spXi K A.C_NoName "name"
theorem ok_NoName___init__ (T : Txt K mg A) : FnOk P w K mg base CX0 1 A.f_NoName___init__ A.d_NoName___init__ P_NoName___init__ (sp_NoName___init__ K A) := by
  refine T.F_NoName___init__.ok sc_NoName___init__ (fun vs H Q E h => ?_) (fun cdv Ar outer s H vs Q E hr h => ?_)
  · obtain ⟨a, v, rfl, _⟩ := h; rfl
  · have hu := hu_of hr
    refine ⟨_, (pss_cons (ps_expr (pe_linit T.ld (by rfl) (pa_cons (pv 0) (pa_cons pe_str pa_nil))))
        (pss_one (ps_ost (pv 0) (pv 1)))), ?_⟩
    obtain ⟨a, v, rfl, ha, k⟩ := h
    walk_at "rd"
    refine ⟨a, A.C_NoName, _, rfl, by simp, T.x_NoName.o, ha, ?_⟩
    walk_at "rd"
    exact ⟨a, A.C_NoName, rfl, T.x_NoName.o, T.x_NoName.no, .inl ⟨ha, fun dx nd ne => k dx nd ne⟩⟩
abbrev sp_Missing___init__ (K : PySem.W.Frag) (A : Adr) : Sp := spXi K A.C_Missing "name"
theorem ok_Missing___init__ (T : Txt K mg A) : FnOk P w K mg base CX0 1 A.f_Missing___init__ A.d_Missing___init__ P_Missing___init__ (sp_Missing___init__ K A) := by
  refine T.F_Missing___init__.ok sc_Missing___init__ (fun vs H Q E h => ?_) (fun cdv Ar outer s H vs Q E hr h => ?_)
  · obtain ⟨a, v, rfl, _⟩ := h; rfl
  · have hu := hu_of hr
    refine ⟨_, (pss_cons (ps_expr (pe_linit T.ld (by rfl) (pa_cons (pv 0) (pa_cons pe_str pa_nil))))
        (pss_one (ps_ost (pv 0) (pv 1)))), ?_⟩
    obtain ⟨a, v, rfl, ha, k⟩ := h
    walk_at "rd"
    refine ⟨a, A.C_Missing, _, rfl, by simp, T.x_Missing.o, ha, ?_⟩
    walk_at "rd"
    exact ⟨a, A.C_Missing, rfl, T.x_Missing.o, T.x_Missing.no, .inl ⟨ha, fun dx nd ne => k dx nd ne⟩⟩
abbrev sp_NoSymbol___init__ (K : PySem.W.Frag) (A : Adr) : Sp := spXi K A.C_NoSymbol "symbol"
theorem ok_NoSymbol___init__ (T : Txt K mg A) : FnOk P w K mg base CX0 1 A.f_NoSymbol___init__ A.d_NoSymbol___init__ P_NoSymbol___init__ (sp_NoSymbol___init__ K A) := by
  refine T.F_NoSymbol___init__.ok sc_NoSymbol___init__ (fun vs H Q E h => ?_) (fun cdv Ar outer s H vs Q E hr h => ?_)
  · obtain ⟨a, v, rfl, _⟩ := h; rfl
  · have hu := hu_of hr
    refine ⟨_, (pss_cons (ps_expr (pe_linit T.ld (by rfl) (pa_cons (pv 0) (pa_cons pe_str pa_nil))))
        (pss_one (ps_ost (pv 0) (pv 1)))), ?_⟩
    obtain ⟨a, v, rfl, ha, k⟩ := h
    walk_at "rd"
    refine ⟨a, A.C_NoSymbol, _, rfl, by simp, T.x_NoSymbol.o, ha, ?_⟩
    walk_at "rd"
    exact ⟨a, A.C_NoSymbol, rfl, T.x_NoSymbol.o, T.x_NoSymbol.no, .inl ⟨ha, fun dx nd ne => k dx nd ne⟩⟩
abbrev sp_NoPreloads___init__ (K : PySem.W.Frag) (A : Adr) : Sp := spXi K A.C_NoPreloads "at"
theorem ok_NoPreloads___init__ (T : Txt K mg A) : FnOk P w K mg base CX0 1 A.f_NoPreloads___init__ A.d_NoPreloads___init__ P_NoPreloads___init__ (sp_NoPreloads___init__ K A) := by
  refine T.F_NoPreloads___init__.ok sc_NoPreloads___init__ (fun vs H Q E h => ?_) (fun cdv Ar outer s H vs Q E hr h => ?_)
  · obtain ⟨a, v, rfl, _⟩ := h; rfl
  · have hu := hu_of hr
    refine ⟨_, (pss_cons (ps_expr (pe_linit T.ld (by rfl) (pa_cons (pv 0) (pa_cons pe_str pa_nil))))
        (pss_one (ps_ost (pv 0) (pv 1)))), ?_⟩
    obtain ⟨a, v, rfl, ha, k⟩ := h
    walk_at "rd"
    refine ⟨a, A.C_NoPreloads, _, rfl, by simp, T.x_NoPreloads.o, ha, ?_⟩
    walk_at "rd"
    exact ⟨a, A.C_NoPreloads, rfl, T.x_NoPreloads.o, T.x_NoPreloads.no, .inl ⟨ha, fun dx nd ne => k dx nd ne⟩⟩
abbrev sp_NotLoaded___init__ (K : PySem.W.Frag) (A : Adr) : Sp := spXi K A.C_NotLoaded "name"
theorem ok_NotLoaded___init__ (T : Txt K mg A) : FnOk P w K mg base CX0 1 A.f_NotLoaded___init__ A.d_NotLoaded___init__ P_NotLoaded___init__ (sp_NotLoaded___init__ K A) := by
  refine T.F_NotLoaded___init__.ok sc_NotLoaded___init__ (fun vs H Q E h => ?_) (fun cdv Ar outer s H vs Q E hr h => ?_)
  · obtain ⟨a, v, rfl, _⟩ := h; rfl
  · have hu := hu_of hr
    refine ⟨_, (pss_cons (ps_expr (pe_linit T.ld (by rfl) (pa_cons (pv 0) (pa_cons pe_str pa_nil))))
        (pss_one (ps_ost (pv 0) (pv 1)))), ?_⟩
    obtain ⟨a, v, rfl, ha, k⟩ := h
    walk_at "rd"
    refine ⟨a, A.C_NotLoaded, _, rfl, by simp, T.x_NotLoaded.o, ha, ?_⟩
    walk_at "rd"
    exact ⟨a, A.C_NotLoaded, rfl, T.x_NotLoaded.o, T.x_NotLoaded.no, .inl ⟨ha, fun dx nd ne => k dx nd ne⟩⟩
abbrev sp_NotUsed___init__ (K : PySem.W.Frag) (A : Adr) : Sp := spXi K A.C_NotUsed "symbol"
theorem ok_NotUsed___init__ (T : Txt K mg A) : FnOk P w K mg base CX0 1 A.f_NotUsed___init__ A.d_NotUsed___init__ P_NotUsed___init__ (sp_NotUsed___init__ K A) := by
  refine T.F_NotUsed___init__.ok sc_NotUsed___init__ (fun vs H Q E h => ?_) (fun cdv Ar outer s H vs Q E hr h => ?_)
  · obtain ⟨a, v, rfl, _⟩ := h; rfl
  · have hu := hu_of hr
    refine ⟨_, (pss_cons (ps_expr (pe_linit T.ld (by rfl) (pa_cons (pv 0) (pa_cons pe_str pa_nil))))
        (pss_one (ps_ost (pv 0) (pv 1)))), ?_⟩
    obtain ⟨a, v, rfl, ha, k⟩ := h
    walk_at "rd"
    refine ⟨a, A.C_NotUsed, _, rfl, by simp, T.x_NotUsed.o, ha, ?_⟩
    walk_at "rd"
    exact ⟨a, A.C_NotUsed, rfl, T.x_NotUsed.o, T.x_NotUsed.no, .inl ⟨ha, fun dx nd ne => k dx nd ne⟩⟩
abbrev sp_Unresolved___init__ (K : PySem.W.Frag) (A : Adr) : Sp := spXi K A.C_Unresolved "use"
theorem ok_Unresolved___init__ (T : Txt K mg A) : FnOk P w K mg base CX0 1 A.f_Unresolved___init__ A.d_Unresolved___init__ P_Unresolved___init__ (sp_Unresolved___init__ K A) := by
  refine T.F_Unresolved___init__.ok sc_Unresolved___init__ (fun vs H Q E h => ?_) (fun cdv Ar outer s H vs Q E hr h => ?_)
  · obtain ⟨a, v, rfl, _⟩ := h; rfl
  · have hu := hu_of hr
    refine ⟨_, (pss_cons (ps_expr (pe_linit T.ld (by rfl) (pa_cons (pv 0) (pa_cons pe_str pa_nil))))
        (pss_one (ps_ost (pv 0) (pv 1)))), ?_⟩
    obtain ⟨a, v, rfl, ha, k⟩ := h
    walk_at "rd"
    refine ⟨a, A.C_Unresolved, _, rfl, by simp, T.x_Unresolved.o, ha, ?_⟩
    walk_at "rd"
    exact ⟨a, A.C_Unresolved, rfl, T.x_Unresolved.o, T.x_Unresolved.no, .inl ⟨ha, fun dx nd ne => k dx nd ne⟩⟩
abbrev sp_NoHandle___init__ (K : PySem.W.Frag) (A : Adr) : Sp := spXi K A.C_NoHandle "handle"
theorem ok_NoHandle___init__ (T : Txt K mg A) : FnOk P w K mg base CX0 1 A.f_NoHandle___init__ A.d_NoHandle___init__ P_NoHandle___init__ (sp_NoHandle___init__ K A) := by
  refine T.F_NoHandle___init__.ok sc_NoHandle___init__ (fun vs H Q E h => ?_) (fun cdv Ar outer s H vs Q E hr h => ?_)
  · obtain ⟨a, v, rfl, _⟩ := h; rfl
  · have hu := hu_of hr
    refine ⟨_, (pss_cons (ps_expr (pe_linit T.ld (by rfl) (pa_cons (pv 0) (pa_cons pe_str pa_nil))))
        (pss_one (ps_ost (pv 0) (pv 1)))), ?_⟩
    obtain ⟨a, v, rfl, ha, k⟩ := h
    walk_at "rd"
    refine ⟨a, A.C_NoHandle, _, rfl, by simp, T.x_NoHandle.o, ha, ?_⟩
    walk_at "rd"
    exact ⟨a, A.C_NoHandle, rfl, T.x_NoHandle.o, T.x_NoHandle.no, .inl ⟨ha, fun dx nd ne => k dx nd ne⟩⟩
abbrev sp_NoWishes___init__ (K : PySem.W.Frag) (A : Adr) : Sp := spXi K A.C_NoWishes "symbol"
theorem ok_NoWishes___init__ (T : Txt K mg A) : FnOk P w K mg base CX0 1 A.f_NoWishes___init__ A.d_NoWishes___init__ P_NoWishes___init__ (sp_NoWishes___init__ K A) := by
  refine T.F_NoWishes___init__.ok sc_NoWishes___init__ (fun vs H Q E h => ?_) (fun cdv Ar outer s H vs Q E hr h => ?_)
  · obtain ⟨a, v, rfl, _⟩ := h; rfl
  · have hu := hu_of hr
    refine ⟨_, (pss_cons (ps_expr (pe_linit T.ld (by rfl) (pa_cons (pv 0) (pa_cons pe_str pa_nil))))
        (pss_one (ps_ost (pv 0) (pv 1)))), ?_⟩
    obtain ⟨a, v, rfl, ha, k⟩ := h
    walk_at "rd"
    refine ⟨a, A.C_NoWishes, _, rfl, by simp, T.x_NoWishes.o, ha, ?_⟩
    walk_at "rd"
    exact ⟨a, A.C_NoWishes, rfl, T.x_NoWishes.o, T.x_NoWishes.no, .inl ⟨ha, fun dx nd ne => k dx nd ne⟩⟩
/-- the classes of the errors -/
def errC (A : Adr) : Nat → Addr
  | 0 => A.C_NoLibrary
  | 1 => A.C_NoStore
  | 2 => A.C_NoName
  | 3 => A.C_Missing
  | 4 => A.C_NoSymbol
  | 5 => A.C_NoPreloads
  | 6 => A.C_NotLoaded
  | 7 => A.C_NotUsed
  | 8 => A.C_Unresolved
  | 9 => A.C_NoHandle
  | _ => A.C_NoWishes
/-- an error of the i-th class that keeps v, beside v in a tuple at t -/
def ErrAt (A : Adr) (H : Hp) (v : V) (i : Nat) (t : V) : Prop := ∃ ta a dd f, t = .ref ta ∧ H ta = some (.tup [.ref a, v]) ∧ H a = some (exo a (errC A i) (some dd)) ∧ H dd = some (exd dd [(f, v)])
theorem ErrAt.up {A : Adr} {H H' : Hp} {v : V} {i : Nat} {t : V} (e : Ex H H') (h : ErrAt A H v i t) : ErrAt A H' v i t := by
  obtain ⟨ta, a, dd, f, h1, h2, h3, h4⟩ := h
  exact ⟨ta, a, dd, f, h1, e _ _ h2, e _ _ h3, e _ _ h4⟩
def sp__law_errors (K : PySem.W.Frag) (A : Adr) : Sp := fun vs H Q _ => ∃ v, vs = [v] ∧ ∀ l ts H', H l = none → Ex H H' → H' l = some (.lst ts) → ts.length = 11 → (∀ (i : Nat) t, ts[i]? = some t → ErrAt A H' v i t) → (∀ t ∈ ts, ∀ b, t = .ref b → H b = none) → Q (.ref l) H'
theorem ok__law_errors (T : Txt K mg A) : FnOk P w K mg base CX0 3 A.f__law_errors A.d__law_errors P__law_errors (sp__law_errors K A) := by
  refine T.F__law_errors.ok sc__law_errors (fun vs H Q E h => ?_) (fun cdv Ar outer s H vs Q E hr h => ?_)
  · obtain ⟨v, rfl, _⟩ := h; rfl
  · have hu := hu_of hr
    refine ⟨_, (pss_cons (ps_asg (pe_tupM (pa_cons (pe_xv T.x_NoLibrary (ok_NoLibrary___init__ T) (hr.mono (by decide)) T.bi_NoLibrary___init__ (pa_cons (pv 0) pa_nil) (by rfl)) (pa_cons (pe_xv T.x_NoStore (ok_NoStore___init__ T) (hr.mono (by decide)) T.bi_NoStore___init__ (pa_cons (pv 0) pa_nil) (by rfl)) (pa_cons (pe_xv T.x_NoName (ok_NoName___init__ T) (hr.mono (by decide)) T.bi_NoName___init__ (pa_cons (pv 0) pa_nil) (by rfl)) (pa_cons (pe_xv T.x_Missing (ok_Missing___init__ T) (hr.mono (by decide)) T.bi_Missing___init__ (pa_cons (pv 0) pa_nil) (by rfl)) pa_nil))))) (k_gtup K rfl (by rfl) (pgs_cons (pg_name (i := 1) sc__law_errors.nd rfl (Or.inl rfl)) (pgs_cons (pg_name (i := 2) sc__law_errors.nd rfl (Or.inl rfl)) (pgs_cons (pg_name (i := 3) sc__law_errors.nd rfl (Or.inl rfl)) (pgs_cons (pg_name (i := 4) sc__law_errors.nd rfl (Or.inl rfl)) pgs_nil))))))
        (pss_cons (ps_set (i := 5) sc__law_errors.nd rfl (Or.inl rfl) (pe_lstM (pa_cons (pe_tupM (pa_cons (pv 1) (pa_cons (pe_xa T.x_NoLibrary.xf T.x_NoLibrary.no (pv 1)) pa_nil))) (pa_cons (pe_tupM (pa_cons (pv 2) (pa_cons (pe_xa T.x_NoStore.xf T.x_NoStore.no (pv 2)) pa_nil))) (pa_cons (pe_tupM (pa_cons (pv 3) (pa_cons (pe_xa T.x_NoName.xf T.x_NoName.no (pv 3)) pa_nil))) (pa_cons (pe_tupM (pa_cons (pv 4) (pa_cons (pe_xa T.x_Missing.xf T.x_Missing.no (pv 4)) pa_nil))) pa_nil))))))
        (pss_cons (ps_asg (pe_tupM (pa_cons (pe_xv T.x_NoSymbol (ok_NoSymbol___init__ T) (hr.mono (by decide)) T.bi_NoSymbol___init__ (pa_cons (pv 0) pa_nil) (by rfl)) (pa_cons (pe_xv T.x_NoPreloads (ok_NoPreloads___init__ T) (hr.mono (by decide)) T.bi_NoPreloads___init__ (pa_cons (pv 0) pa_nil) (by rfl)) (pa_cons (pe_xv T.x_NotLoaded (ok_NotLoaded___init__ T) (hr.mono (by decide)) T.bi_NotLoaded___init__ (pa_cons (pv 0) pa_nil) (by rfl)) (pa_cons (pe_xv T.x_NotUsed (ok_NotUsed___init__ T) (hr.mono (by decide)) T.bi_NotUsed___init__ (pa_cons (pv 0) pa_nil) (by rfl)) pa_nil))))) (k_gtup K rfl (by rfl) (pgs_cons (pg_name (i := 6) sc__law_errors.nd rfl (Or.inl rfl)) (pgs_cons (pg_name (i := 7) sc__law_errors.nd rfl (Or.inl rfl)) (pgs_cons (pg_name (i := 8) sc__law_errors.nd rfl (Or.inl rfl)) (pgs_cons (pg_name (i := 9) sc__law_errors.nd rfl (Or.inl rfl)) pgs_nil))))))
        (pss_cons (ps_set (i := 10) sc__law_errors.nd rfl (Or.inl rfl) (pe_lstM (pa_cons (pe_tupM (pa_cons (pv 6) (pa_cons (pe_xa T.x_NoSymbol.xf T.x_NoSymbol.no (pv 6)) pa_nil))) (pa_cons (pe_tupM (pa_cons (pv 7) (pa_cons (pe_xa T.x_NoPreloads.xf T.x_NoPreloads.no (pv 7)) pa_nil))) (pa_cons (pe_tupM (pa_cons (pv 8) (pa_cons (pe_xa T.x_NotLoaded.xf T.x_NotLoaded.no (pv 8)) pa_nil))) (pa_cons (pe_tupM (pa_cons (pv 9) (pa_cons (pe_xa T.x_NotUsed.xf T.x_NotUsed.no (pv 9)) pa_nil))) pa_nil))))))
        (pss_cons (ps_par3 (i := 11) (j := 12) (l := 13) (by rfl) sc__law_errors.nd rfl rfl rfl (by decide) (by decide) (by decide) rfl rfl rfl (pa_cons (pe_xv T.x_Unresolved (ok_Unresolved___init__ T) (hr.mono (by decide)) T.bi_Unresolved___init__ (pa_cons (pv 0) pa_nil) (by rfl)) (pa_cons (pe_xv T.x_NoHandle (ok_NoHandle___init__ T) (hr.mono (by decide)) T.bi_NoHandle___init__ (pa_cons (pv 0) pa_nil) (by rfl)) (pa_cons (pe_xv T.x_NoWishes (ok_NoWishes___init__ T) (hr.mono (by decide)) T.bi_NoWishes___init__ (pa_cons (pv 0) pa_nil) (by rfl)) pa_nil))) (by rfl))
        (pss_one (ps_ret (pe_op op_catM (pe_op op_catM (pv 5) (pv 10)) (pe_lstM (pa_cons (pe_tupM (pa_cons (pv 11) (pa_cons (pe_xa T.x_Unresolved.xf T.x_Unresolved.no (pv 11)) pa_nil))) (pa_cons (pe_tupM (pa_cons (pv 12) (pa_cons (pe_xa T.x_NoHandle.xf T.x_NoHandle.no (pv 12)) pa_nil))) (pa_cons (pe_tupM (pa_cons (pv 13) (pa_cons (pe_xa T.x_NoWishes.xf T.x_NoWishes.no (pv 13)) pa_nil))) pa_nil)))))))))))), ?_⟩
    obtain ⟨v, rfl, k⟩ := h
    walk_at "rd"
    refine r_mkv ?_
    walk_at "rd"
    refine ⟨v, rfl, fun a0 d0 h1 na0 nd0 x1 ga0 gd0 => ?_⟩
    walk_at "rd"
    refine r_mkv ?_
    walk_at "rd"
    refine ⟨v, rfl, fun a1 d1 h2 na1 nd1 x2 ga1 gd1 => ?_⟩
    walk_at "rd"
    refine r_mkv ?_
    walk_at "rd"
    refine ⟨v, rfl, fun a2 d2 h3 na2 nd2 x3 ga2 gd2 => ?_⟩
    walk_at "rd"
    refine r_mkv ?_
    walk_at "rd"
    refine ⟨v, rfl, fun a3 d3 h4 na3 nd3 x4 ga3 gd3 => ?_⟩
    walk_at "rd"
    refine ⟨by simp, fun p1 h5 n_p1 x5 g_p1 => ?_⟩
    refine r_gtupE (st_of g_p1) rfl ?_
    walk_at "rd"
    refine r_xa (v := v) ((x2.trans (x3.trans (x4.trans x5))) _ _ ga0) ((x2.trans (x3.trans (x4.trans x5))) _ _ gd0) (by simp [List.lookup]) ?_
    walk_at "rd"
    refine ⟨by simp, fun t0 h6 n_t0 x6 g_t0 => ?_⟩
    walk_at "rd"
    refine r_xa (v := v) ((x3.trans (x4.trans (x5.trans x6))) _ _ ga1) ((x3.trans (x4.trans (x5.trans x6))) _ _ gd1) (by simp [List.lookup]) ?_
    walk_at "rd"
    refine ⟨by simp, fun t1 h7 n_t1 x7 g_t1 => ?_⟩
    walk_at "rd"
    refine r_xa (v := v) ((x4.trans (x5.trans (x6.trans x7))) _ _ ga2) ((x4.trans (x5.trans (x6.trans x7))) _ _ gd2) (by simp [List.lookup]) ?_
    walk_at "rd"
    refine ⟨by simp, fun t2 h8 n_t2 x8 g_t2 => ?_⟩
    walk_at "rd"
    refine r_xa (v := v) ((x5.trans (x6.trans (x7.trans x8))) _ _ ga3) ((x5.trans (x6.trans (x7.trans x8))) _ _ gd3) (by simp [List.lookup]) ?_
    walk_at "rd"
    refine ⟨by simp, fun t3 h9 n_t3 x9 g_t3 => ?_⟩
    walk_at "rd"
    refine ⟨by simp, fun f1 h10 n_f1 x10 g_f1 => ?_⟩
    walk_at "rd"
    refine r_mkv ?_
    walk_at "rd"
    refine ⟨v, rfl, fun a4 d4 h11 na4 nd4 x11 ga4 gd4 => ?_⟩
    walk_at "rd"
    refine r_mkv ?_
    walk_at "rd"
    refine ⟨v, rfl, fun a5 d5 h12 na5 nd5 x12 ga5 gd5 => ?_⟩
    walk_at "rd"
    refine r_mkv ?_
    walk_at "rd"
    refine ⟨v, rfl, fun a6 d6 h13 na6 nd6 x13 ga6 gd6 => ?_⟩
    walk_at "rd"
    refine r_mkv ?_
    walk_at "rd"
    refine ⟨v, rfl, fun a7 d7 h14 na7 nd7 x14 ga7 gd7 => ?_⟩
    walk_at "rd"
    refine ⟨by simp, fun p2 h15 n_p2 x15 g_p2 => ?_⟩
    refine r_gtupE (st_of g_p2) rfl ?_
    walk_at "rd"
    refine r_xa (v := v) ((x12.trans (x13.trans (x14.trans x15))) _ _ ga4) ((x12.trans (x13.trans (x14.trans x15))) _ _ gd4) (by simp [List.lookup]) ?_
    walk_at "rd"
    refine ⟨by simp, fun t4 h16 n_t4 x16 g_t4 => ?_⟩
    walk_at "rd"
    refine r_xa (v := v) ((x13.trans (x14.trans (x15.trans x16))) _ _ ga5) ((x13.trans (x14.trans (x15.trans x16))) _ _ gd5) (by simp [List.lookup]) ?_
    walk_at "rd"
    refine ⟨by simp, fun t5 h17 n_t5 x17 g_t5 => ?_⟩
    walk_at "rd"
    refine r_xa (v := v) ((x14.trans (x15.trans (x16.trans x17))) _ _ ga6) ((x14.trans (x15.trans (x16.trans x17))) _ _ gd6) (by simp [List.lookup]) ?_
    walk_at "rd"
    refine ⟨by simp, fun t6 h18 n_t6 x18 g_t6 => ?_⟩
    walk_at "rd"
    refine r_xa (v := v) ((x15.trans (x16.trans (x17.trans x18))) _ _ ga7) ((x15.trans (x16.trans (x17.trans x18))) _ _ gd7) (by simp [List.lookup]) ?_
    walk_at "rd"
    refine ⟨by simp, fun t7 h19 n_t7 x19 g_t7 => ?_⟩
    walk_at "rd"
    refine ⟨by simp, fun f2 h20 n_f2 x20 g_f2 => ?_⟩
    walk_at "rd"
    unfold tPar3
    walk_at "rd"
    refine r_mkv ?_
    walk_at "rd"
    refine ⟨v, rfl, fun a8 d8 h21 na8 nd8 x21 ga8 gd8 => ?_⟩
    walk_at "rd"
    refine r_mkv ?_
    walk_at "rd"
    refine ⟨v, rfl, fun a9 d9 h22 na9 nd9 x22 ga9 gd9 => ?_⟩
    walk_at "rd"
    refine r_mkv ?_
    walk_at "rd"
    refine ⟨v, rfl, fun a10 d10 h23 na10 nd10 x23 ga10 gd10 => ?_⟩
    walk_at "rd"
    refine ⟨_, _, _, rfl, ?_⟩
    walk_at "rd"
    refine r_catM ((x11.trans (x12.trans (x13.trans (x14.trans (x15.trans (x16.trans (x17.trans (x18.trans (x19.trans (x20.trans (x21.trans (x22.trans x23)))))))))))) _ _ g_f1) ((x21.trans (x22.trans x23)) _ _ g_f2) (by simp) fun c1 h24 n_c1 x24 g_c1 => ?_
    walk_at "rd"
    refine r_xa (v := v) ((x22.trans (x23.trans x24)) _ _ ga8) ((x22.trans (x23.trans x24)) _ _ gd8) (by simp [List.lookup]) ?_
    walk_at "rd"
    refine ⟨by simp, fun t8 h25 n_t8 x25 g_t8 => ?_⟩
    walk_at "rd"
    refine r_xa (v := v) ((x23.trans (x24.trans x25)) _ _ ga9) ((x23.trans (x24.trans x25)) _ _ gd9) (by simp [List.lookup]) ?_
    walk_at "rd"
    refine ⟨by simp, fun t9 h26 n_t9 x26 g_t9 => ?_⟩
    walk_at "rd"
    refine r_xa (v := v) ((x24.trans (x25.trans x26)) _ _ ga10) ((x24.trans (x25.trans x26)) _ _ gd10) (by simp [List.lookup]) ?_
    walk_at "rd"
    refine ⟨by simp, fun t10 h27 n_t10 x27 g_t10 => ?_⟩
    walk_at "rd"
    refine ⟨by simp, fun f3 h28 n_f3 x28 g_f3 => ?_⟩
    refine r_catM ((x25.trans (x26.trans (x27.trans x28))) _ _ g_c1) g_f3 (by simp) fun l h29 n_l x29 g_l => ?_
    walk_at "rd"
    refine k l _ _ (ex_none (x1.trans (x2.trans (x3.trans (x4.trans (x5.trans (x6.trans (x7.trans (x8.trans (x9.trans (x10.trans (x11.trans (x12.trans (x13.trans (x14.trans (x15.trans (x16.trans (x17.trans (x18.trans (x19.trans (x20.trans (x21.trans (x22.trans (x23.trans (x24.trans (x25.trans (x26.trans (x27.trans x28))))))))))))))))))))))))))) n_l) (x1.trans (x2.trans (x3.trans (x4.trans (x5.trans (x6.trans (x7.trans (x8.trans (x9.trans (x10.trans (x11.trans (x12.trans (x13.trans (x14.trans (x15.trans (x16.trans (x17.trans (x18.trans (x19.trans (x20.trans (x21.trans (x22.trans (x23.trans (x24.trans (x25.trans (x26.trans (x27.trans (x28.trans x29)))))))))))))))))))))))))))) g_l rfl (fun i t ht => ?_) (fun t ht b hb => ?_)
    · have hi : i < 11 := (List.getElem?_eq_some_iff.mp ht).1
      rcases (show i = 0 ∨ i = 1 ∨ i = 2 ∨ i = 3 ∨ i = 4 ∨ i = 5 ∨ i = 6 ∨ i = 7 ∨ i = 8 ∨ i = 9 ∨ i = 10 by omega) with rfl | rfl | rfl | rfl | rfl | rfl | rfl | rfl | rfl | rfl | rfl
      · cases ht; exact ⟨_, _, _, _, rfl, (x7.trans (x8.trans (x9.trans (x10.trans (x11.trans (x12.trans (x13.trans (x14.trans (x15.trans (x16.trans (x17.trans (x18.trans (x19.trans (x20.trans (x21.trans (x22.trans (x23.trans (x24.trans (x25.trans (x26.trans (x27.trans (x28.trans x29)))))))))))))))))))))) _ _ g_t0, (x2.trans (x3.trans (x4.trans (x5.trans (x6.trans (x7.trans (x8.trans (x9.trans (x10.trans (x11.trans (x12.trans (x13.trans (x14.trans (x15.trans (x16.trans (x17.trans (x18.trans (x19.trans (x20.trans (x21.trans (x22.trans (x23.trans (x24.trans (x25.trans (x26.trans (x27.trans (x28.trans x29))))))))))))))))))))))))))) _ _ ga0, (x2.trans (x3.trans (x4.trans (x5.trans (x6.trans (x7.trans (x8.trans (x9.trans (x10.trans (x11.trans (x12.trans (x13.trans (x14.trans (x15.trans (x16.trans (x17.trans (x18.trans (x19.trans (x20.trans (x21.trans (x22.trans (x23.trans (x24.trans (x25.trans (x26.trans (x27.trans (x28.trans x29))))))))))))))))))))))))))) _ _ gd0⟩
      · cases ht; exact ⟨_, _, _, _, rfl, (x8.trans (x9.trans (x10.trans (x11.trans (x12.trans (x13.trans (x14.trans (x15.trans (x16.trans (x17.trans (x18.trans (x19.trans (x20.trans (x21.trans (x22.trans (x23.trans (x24.trans (x25.trans (x26.trans (x27.trans (x28.trans x29))))))))))))))))))))) _ _ g_t1, (x3.trans (x4.trans (x5.trans (x6.trans (x7.trans (x8.trans (x9.trans (x10.trans (x11.trans (x12.trans (x13.trans (x14.trans (x15.trans (x16.trans (x17.trans (x18.trans (x19.trans (x20.trans (x21.trans (x22.trans (x23.trans (x24.trans (x25.trans (x26.trans (x27.trans (x28.trans x29)))))))))))))))))))))))))) _ _ ga1, (x3.trans (x4.trans (x5.trans (x6.trans (x7.trans (x8.trans (x9.trans (x10.trans (x11.trans (x12.trans (x13.trans (x14.trans (x15.trans (x16.trans (x17.trans (x18.trans (x19.trans (x20.trans (x21.trans (x22.trans (x23.trans (x24.trans (x25.trans (x26.trans (x27.trans (x28.trans x29)))))))))))))))))))))))))) _ _ gd1⟩
      · cases ht; exact ⟨_, _, _, _, rfl, (x9.trans (x10.trans (x11.trans (x12.trans (x13.trans (x14.trans (x15.trans (x16.trans (x17.trans (x18.trans (x19.trans (x20.trans (x21.trans (x22.trans (x23.trans (x24.trans (x25.trans (x26.trans (x27.trans (x28.trans x29)))))))))))))))))))) _ _ g_t2, (x4.trans (x5.trans (x6.trans (x7.trans (x8.trans (x9.trans (x10.trans (x11.trans (x12.trans (x13.trans (x14.trans (x15.trans (x16.trans (x17.trans (x18.trans (x19.trans (x20.trans (x21.trans (x22.trans (x23.trans (x24.trans (x25.trans (x26.trans (x27.trans (x28.trans x29))))))))))))))))))))))))) _ _ ga2, (x4.trans (x5.trans (x6.trans (x7.trans (x8.trans (x9.trans (x10.trans (x11.trans (x12.trans (x13.trans (x14.trans (x15.trans (x16.trans (x17.trans (x18.trans (x19.trans (x20.trans (x21.trans (x22.trans (x23.trans (x24.trans (x25.trans (x26.trans (x27.trans (x28.trans x29))))))))))))))))))))))))) _ _ gd2⟩
      · cases ht; exact ⟨_, _, _, _, rfl, (x10.trans (x11.trans (x12.trans (x13.trans (x14.trans (x15.trans (x16.trans (x17.trans (x18.trans (x19.trans (x20.trans (x21.trans (x22.trans (x23.trans (x24.trans (x25.trans (x26.trans (x27.trans (x28.trans x29))))))))))))))))))) _ _ g_t3, (x5.trans (x6.trans (x7.trans (x8.trans (x9.trans (x10.trans (x11.trans (x12.trans (x13.trans (x14.trans (x15.trans (x16.trans (x17.trans (x18.trans (x19.trans (x20.trans (x21.trans (x22.trans (x23.trans (x24.trans (x25.trans (x26.trans (x27.trans (x28.trans x29)))))))))))))))))))))))) _ _ ga3, (x5.trans (x6.trans (x7.trans (x8.trans (x9.trans (x10.trans (x11.trans (x12.trans (x13.trans (x14.trans (x15.trans (x16.trans (x17.trans (x18.trans (x19.trans (x20.trans (x21.trans (x22.trans (x23.trans (x24.trans (x25.trans (x26.trans (x27.trans (x28.trans x29)))))))))))))))))))))))) _ _ gd3⟩
      · cases ht; exact ⟨_, _, _, _, rfl, (x17.trans (x18.trans (x19.trans (x20.trans (x21.trans (x22.trans (x23.trans (x24.trans (x25.trans (x26.trans (x27.trans (x28.trans x29)))))))))))) _ _ g_t4, (x12.trans (x13.trans (x14.trans (x15.trans (x16.trans (x17.trans (x18.trans (x19.trans (x20.trans (x21.trans (x22.trans (x23.trans (x24.trans (x25.trans (x26.trans (x27.trans (x28.trans x29))))))))))))))))) _ _ ga4, (x12.trans (x13.trans (x14.trans (x15.trans (x16.trans (x17.trans (x18.trans (x19.trans (x20.trans (x21.trans (x22.trans (x23.trans (x24.trans (x25.trans (x26.trans (x27.trans (x28.trans x29))))))))))))))))) _ _ gd4⟩
      · cases ht; exact ⟨_, _, _, _, rfl, (x18.trans (x19.trans (x20.trans (x21.trans (x22.trans (x23.trans (x24.trans (x25.trans (x26.trans (x27.trans (x28.trans x29))))))))))) _ _ g_t5, (x13.trans (x14.trans (x15.trans (x16.trans (x17.trans (x18.trans (x19.trans (x20.trans (x21.trans (x22.trans (x23.trans (x24.trans (x25.trans (x26.trans (x27.trans (x28.trans x29)))))))))))))))) _ _ ga5, (x13.trans (x14.trans (x15.trans (x16.trans (x17.trans (x18.trans (x19.trans (x20.trans (x21.trans (x22.trans (x23.trans (x24.trans (x25.trans (x26.trans (x27.trans (x28.trans x29)))))))))))))))) _ _ gd5⟩
      · cases ht; exact ⟨_, _, _, _, rfl, (x19.trans (x20.trans (x21.trans (x22.trans (x23.trans (x24.trans (x25.trans (x26.trans (x27.trans (x28.trans x29)))))))))) _ _ g_t6, (x14.trans (x15.trans (x16.trans (x17.trans (x18.trans (x19.trans (x20.trans (x21.trans (x22.trans (x23.trans (x24.trans (x25.trans (x26.trans (x27.trans (x28.trans x29))))))))))))))) _ _ ga6, (x14.trans (x15.trans (x16.trans (x17.trans (x18.trans (x19.trans (x20.trans (x21.trans (x22.trans (x23.trans (x24.trans (x25.trans (x26.trans (x27.trans (x28.trans x29))))))))))))))) _ _ gd6⟩
      · cases ht; exact ⟨_, _, _, _, rfl, (x20.trans (x21.trans (x22.trans (x23.trans (x24.trans (x25.trans (x26.trans (x27.trans (x28.trans x29))))))))) _ _ g_t7, (x15.trans (x16.trans (x17.trans (x18.trans (x19.trans (x20.trans (x21.trans (x22.trans (x23.trans (x24.trans (x25.trans (x26.trans (x27.trans (x28.trans x29)))))))))))))) _ _ ga7, (x15.trans (x16.trans (x17.trans (x18.trans (x19.trans (x20.trans (x21.trans (x22.trans (x23.trans (x24.trans (x25.trans (x26.trans (x27.trans (x28.trans x29)))))))))))))) _ _ gd7⟩
      · cases ht; exact ⟨_, _, _, _, rfl, (x26.trans (x27.trans (x28.trans x29))) _ _ g_t8, (x22.trans (x23.trans (x24.trans (x25.trans (x26.trans (x27.trans (x28.trans x29))))))) _ _ ga8, (x22.trans (x23.trans (x24.trans (x25.trans (x26.trans (x27.trans (x28.trans x29))))))) _ _ gd8⟩
      · cases ht; exact ⟨_, _, _, _, rfl, (x27.trans (x28.trans x29)) _ _ g_t9, (x23.trans (x24.trans (x25.trans (x26.trans (x27.trans (x28.trans x29)))))) _ _ ga9, (x23.trans (x24.trans (x25.trans (x26.trans (x27.trans (x28.trans x29)))))) _ _ gd9⟩
      · cases ht; exact ⟨_, _, _, _, rfl, (x28.trans x29) _ _ g_t10, (x24.trans (x25.trans (x26.trans (x27.trans (x28.trans x29))))) _ _ ga10, (x24.trans (x25.trans (x26.trans (x27.trans (x28.trans x29))))) _ _ gd10⟩
    · simp only [List.mem_append, List.mem_cons, List.not_mem_nil, or_false] at ht
      subst hb
      rcases ht with ((ht | ht | ht | ht) | (ht | ht | ht | ht)) | (ht | ht | ht)
      · cases ht; exact ex_none (x1.trans (x2.trans (x3.trans (x4.trans x5)))) n_t0
      · cases ht; exact ex_none (x1.trans (x2.trans (x3.trans (x4.trans (x5.trans x6))))) n_t1
      · cases ht; exact ex_none (x1.trans (x2.trans (x3.trans (x4.trans (x5.trans (x6.trans x7)))))) n_t2
      · cases ht; exact ex_none (x1.trans (x2.trans (x3.trans (x4.trans (x5.trans (x6.trans (x7.trans x8))))))) n_t3
      · cases ht; exact ex_none (x1.trans (x2.trans (x3.trans (x4.trans (x5.trans (x6.trans (x7.trans (x8.trans (x9.trans (x10.trans (x11.trans (x12.trans (x13.trans (x14.trans x15)))))))))))))) n_t4
      · cases ht; exact ex_none (x1.trans (x2.trans (x3.trans (x4.trans (x5.trans (x6.trans (x7.trans (x8.trans (x9.trans (x10.trans (x11.trans (x12.trans (x13.trans (x14.trans (x15.trans x16))))))))))))))) n_t5
      · cases ht; exact ex_none (x1.trans (x2.trans (x3.trans (x4.trans (x5.trans (x6.trans (x7.trans (x8.trans (x9.trans (x10.trans (x11.trans (x12.trans (x13.trans (x14.trans (x15.trans (x16.trans x17)))))))))))))))) n_t6
      · cases ht; exact ex_none (x1.trans (x2.trans (x3.trans (x4.trans (x5.trans (x6.trans (x7.trans (x8.trans (x9.trans (x10.trans (x11.trans (x12.trans (x13.trans (x14.trans (x15.trans (x16.trans (x17.trans x18))))))))))))))))) n_t7
      · cases ht; exact ex_none (x1.trans (x2.trans (x3.trans (x4.trans (x5.trans (x6.trans (x7.trans (x8.trans (x9.trans (x10.trans (x11.trans (x12.trans (x13.trans (x14.trans (x15.trans (x16.trans (x17.trans (x18.trans (x19.trans (x20.trans (x21.trans (x22.trans (x23.trans x24))))))))))))))))))))))) n_t8
      · cases ht; exact ex_none (x1.trans (x2.trans (x3.trans (x4.trans (x5.trans (x6.trans (x7.trans (x8.trans (x9.trans (x10.trans (x11.trans (x12.trans (x13.trans (x14.trans (x15.trans (x16.trans (x17.trans (x18.trans (x19.trans (x20.trans (x21.trans (x22.trans (x23.trans (x24.trans x25)))))))))))))))))))))))) n_t9
      · cases ht; exact ex_none (x1.trans (x2.trans (x3.trans (x4.trans (x5.trans (x6.trans (x7.trans (x8.trans (x9.trans (x10.trans (x11.trans (x12.trans (x13.trans (x14.trans (x15.trans (x16.trans (x17.trans (x18.trans (x19.trans (x20.trans (x21.trans (x22.trans (x23.trans (x24.trans (x25.trans x26))))))))))))))))))))))))) n_t10
def sp__law_kinds (K : PySem.W.Frag) (A : Adr) : Sp := fun vs H Q _ => ∃ (a C dd : Addr) (fs : List (Str × V)) (b : Nat → Bool), vs = [.ref a] ∧ H a = some (exo a C (some dd)) ∧ H dd = some (exd dd fs) ∧ ExcC K C ∧ (∀ j, j < 11 → PySem.W.kitOne K (.ref C) (.ref (errC A j)) = some (b j)) ∧
  ∀ l H', H l = none → Ex H H' → H' l = some (.lst [.bl (b 0), .bl (b 1), .bl (b 2), .bl (b 3), .bl (b 4), .bl (b 5), .bl (b 6), .bl (b 7), .bl (b 8), .bl (b 9), .bl (b 10)]) → Q (.ref l) H'
theorem ok__law_kinds (T : Txt K mg A) : FnOk P w K mg base CX0 1 A.f__law_kinds A.d__law_kinds P__law_kinds (sp__law_kinds K A) := by
  refine T.F__law_kinds.ok sc__law_kinds (fun vs H Q E h => ?_) (fun cdv Ar outer s H vs Q E hr h => ?_)
  · obtain ⟨a, C, dd, fs, b, rfl, _⟩ := h; rfl
  · have hu := hu_of hr
    refine ⟨_, (pss_cons (ps_set (i := 1) sc__law_kinds.nd rfl (Or.inl rfl) (pe_lstM (pa_cons (pe_callB (k_isX K rfl) (by rfl) T.b_isinstance (by decide +kernel) (pa_cons (pv 0) (pa_cons (pe_glob (v := .ref A.C_NoLibrary) (by rfl) T.x_NoLibrary.g rfl) pa_nil))) (pa_cons (pe_callB (k_isX K rfl) (by rfl) T.b_isinstance (by decide +kernel) (pa_cons (pv 0) (pa_cons (pe_glob (v := .ref A.C_NoStore) (by rfl) T.x_NoStore.g rfl) pa_nil))) (pa_cons (pe_callB (k_isX K rfl) (by rfl) T.b_isinstance (by decide +kernel) (pa_cons (pv 0) (pa_cons (pe_glob (v := .ref A.C_NoName) (by rfl) T.x_NoName.g rfl) pa_nil))) pa_nil)))))
        (pss_cons (ps_set (i := 2) sc__law_kinds.nd rfl (Or.inl rfl) (pe_lstM (pa_cons (pe_callB (k_isX K rfl) (by rfl) T.b_isinstance (by decide +kernel) (pa_cons (pv 0) (pa_cons (pe_glob (v := .ref A.C_Missing) (by rfl) T.x_Missing.g rfl) pa_nil))) (pa_cons (pe_callB (k_isX K rfl) (by rfl) T.b_isinstance (by decide +kernel) (pa_cons (pv 0) (pa_cons (pe_glob (v := .ref A.C_NoSymbol) (by rfl) T.x_NoSymbol.g rfl) pa_nil))) (pa_cons (pe_callB (k_isX K rfl) (by rfl) T.b_isinstance (by decide +kernel) (pa_cons (pv 0) (pa_cons (pe_glob (v := .ref A.C_NoPreloads) (by rfl) T.x_NoPreloads.g rfl) pa_nil))) pa_nil)))))
        (pss_cons (ps_set (i := 3) sc__law_kinds.nd rfl (Or.inl rfl) (pe_lstM (pa_cons (pe_callB (k_isX K rfl) (by rfl) T.b_isinstance (by decide +kernel) (pa_cons (pv 0) (pa_cons (pe_glob (v := .ref A.C_NotLoaded) (by rfl) T.x_NotLoaded.g rfl) pa_nil))) (pa_cons (pe_callB (k_isX K rfl) (by rfl) T.b_isinstance (by decide +kernel) (pa_cons (pv 0) (pa_cons (pe_glob (v := .ref A.C_NotUsed) (by rfl) T.x_NotUsed.g rfl) pa_nil))) (pa_cons (pe_callB (k_isX K rfl) (by rfl) T.b_isinstance (by decide +kernel) (pa_cons (pv 0) (pa_cons (pe_glob (v := .ref A.C_Unresolved) (by rfl) T.x_Unresolved.g rfl) pa_nil))) pa_nil)))))
        (pss_one (ps_ret (pe_op op_catM (pe_op op_catM (pe_op op_catM (pv 1) (pv 2)) (pv 3)) (pe_lstM (pa_cons (pe_callB (k_isX K rfl) (by rfl) T.b_isinstance (by decide +kernel) (pa_cons (pv 0) (pa_cons (pe_glob (v := .ref A.C_NoHandle) (by rfl) T.x_NoHandle.g rfl) pa_nil))) (pa_cons (pe_callB (k_isX K rfl) (by rfl) T.b_isinstance (by decide +kernel) (pa_cons (pv 0) (pa_cons (pe_glob (v := .ref A.C_NoWishes) (by rfl) T.x_NoWishes.g rfl) pa_nil))) pa_nil))))))))), ?_⟩
    obtain ⟨a, C, dd, fs, b, rfl, ga, gd, xc, hk, k⟩ := h
    walk_at "rd"
    refine r_isX (.own _) ga gd xc (hk 0 (by decide)) ?_
    walk_at "rd"
    refine r_isX (.own _) ga gd xc (hk 1 (by decide)) ?_
    walk_at "rd"
    refine r_isX (.own _) ga gd xc (hk 2 (by decide)) ?_
    walk_at "rd"
    refine ⟨by simp, fun f1 h1 n1 x1 g1 => ?_⟩
    walk_at "rd"
    refine r_isX (.own _) (x1 _ _ ga) (x1 _ _ gd) xc (hk 3 (by decide)) ?_
    walk_at "rd"
    refine r_isX (.own _) (x1 _ _ ga) (x1 _ _ gd) xc (hk 4 (by decide)) ?_
    walk_at "rd"
    refine r_isX (.own _) (x1 _ _ ga) (x1 _ _ gd) xc (hk 5 (by decide)) ?_
    walk_at "rd"
    refine ⟨by simp, fun f2 h2 n2 x2 g2 => ?_⟩
    walk_at "rd"
    refine r_isX (.own _) ((x1.trans x2) _ _ ga) ((x1.trans x2) _ _ gd) xc (hk 6 (by decide)) ?_
    walk_at "rd"
    refine r_isX (.own _) ((x1.trans x2) _ _ ga) ((x1.trans x2) _ _ gd) xc (hk 7 (by decide)) ?_
    walk_at "rd"
    refine r_isX (.own _) ((x1.trans x2) _ _ ga) ((x1.trans x2) _ _ gd) xc (hk 8 (by decide)) ?_
    walk_at "rd"
    refine ⟨by simp, fun f3 h3 n3 x3 g3 => ?_⟩
    walk_at "rd"
    refine r_catM ((x2.trans x3) _ _ g1) (x3 _ _ g2) (by simp) fun c1 h4 n4 x4 g4 => ?_
    walk_at "rd"
    refine r_catM g4 (x4 _ _ g3) (by simp) fun c2 h5 n5 x5 g5 => ?_
    have x15 := x1.trans (x2.trans (x3.trans (x4.trans x5)))
    walk_at "rd"
    refine r_isX (.own _) (x15 _ _ ga) (x15 _ _ gd) xc (hk 9 (by decide)) ?_
    walk_at "rd"
    refine r_isX (.own _) (x15 _ _ ga) (x15 _ _ gd) xc (hk 10 (by decide)) ?_
    walk_at "rd"
    refine ⟨by simp, fun f4 h6 n6 x6 g6 => ?_⟩
    walk_at "rd"
    refine r_catM (x6 _ _ g5) g6 (by simp) fun l h7 n7 x7 g7 => ?_
    walk_at "rd"
    exact k l h7 (ex_none (x15.trans x6) n7) (x15.trans (x6.trans x7)) g7
/-- what is told of the i-th class -/
structure ErrF (K : PySem.W.Frag) (A : Adr) (i : Nat) : Prop where
  x : ExcC K (errC A i)
  l : PySem.W.kitOne K (.ref (errC A i)) (.ref A.C_LoadError) = some true
  v : PySem.W.kitOne K (.ref (errC A i)) (.type "ValueError") = some true
  k : ∀ j, j < 11 → PySem.W.kitOne K (.ref (errC A i)) (.ref (errC A j)) = some (decide (i = j))
theorem kit_ve {K : PySem.W.Frag} {C : Addr} (h : PySem.W.subIn K (.ref C) (.type "ValueError") = some true) : PySem.W.kitOne K (.ref C) (.type "ValueError") = some true := by
  unfold PySem.W.kitOne
  rw [if_neg (by simp)]
  show (if PySem.W.kitMeta "ValueError" = true then PySem.W.subIn K (.ref C) (.type "ValueError") else none) = some true
  rw [if_pos (by decide +kernel)]
  exact h
theorem kit_self {K : PySem.W.Frag} {C : Addr} : PySem.W.kitOne K (.ref C) (.ref C) = some true := by
  unfold PySem.W.kitOne
  rw [if_pos (by simp)]
theorem err_f {K : PySem.W.Frag} {mg : Str → Option Value} {A : Adr} (T : Txt K mg A) : ∀ i, i < 11 → ErrF K A i := by
  intro i hi
  rcases (show i = 0 ∨ i = 1 ∨ i = 2 ∨ i = 3 ∨ i = 4 ∨ i = 5 ∨ i = 6 ∨ i = 7 ∨ i = 8 ∨ i = 9 ∨ i = 10 by omega) with rfl | rfl | rfl | rfl | rfl | rfl | rfl | rfl | rfl | rfl | rfl
  · refine ⟨T.x_0, T.l_0, kit_ve T.v_0, fun j hj => ?_⟩
    rcases (show j = 0 ∨ j = 1 ∨ j = 2 ∨ j = 3 ∨ j = 4 ∨ j = 5 ∨ j = 6 ∨ j = 7 ∨ j = 8 ∨ j = 9 ∨ j = 10 by omega) with rfl | rfl | rfl | rfl | rfl | rfl | rfl | rfl | rfl | rfl | rfl
    · exact kit_self
    · exact kit_subN T.s_0 T.i_1 T.t_1 T.s_0_1
    · exact kit_subN T.s_0 T.i_2 T.t_2 T.s_0_2
    · exact kit_subN T.s_0 T.i_3 T.t_3 T.s_0_3
    · exact kit_subN T.s_0 T.i_4 T.t_4 T.s_0_4
    · exact kit_subN T.s_0 T.i_5 T.t_5 T.s_0_5
    · exact kit_subN T.s_0 T.i_6 T.t_6 T.s_0_6
    · exact kit_subN T.s_0 T.i_7 T.t_7 T.s_0_7
    · exact kit_subN T.s_0 T.i_8 T.t_8 T.s_0_8
    · exact kit_subN T.s_0 T.i_9 T.t_9 T.s_0_9
    · exact kit_subN T.s_0 T.i_10 T.t_10 T.s_0_10
  · refine ⟨T.x_1, T.l_1, kit_ve T.v_1, fun j hj => ?_⟩
    rcases (show j = 0 ∨ j = 1 ∨ j = 2 ∨ j = 3 ∨ j = 4 ∨ j = 5 ∨ j = 6 ∨ j = 7 ∨ j = 8 ∨ j = 9 ∨ j = 10 by omega) with rfl | rfl | rfl | rfl | rfl | rfl | rfl | rfl | rfl | rfl | rfl
    · exact kit_subN T.s_1 T.i_0 T.t_0 T.s_1_0
    · exact kit_self
    · exact kit_subN T.s_1 T.i_2 T.t_2 T.s_1_2
    · exact kit_subN T.s_1 T.i_3 T.t_3 T.s_1_3
    · exact kit_subN T.s_1 T.i_4 T.t_4 T.s_1_4
    · exact kit_subN T.s_1 T.i_5 T.t_5 T.s_1_5
    · exact kit_subN T.s_1 T.i_6 T.t_6 T.s_1_6
    · exact kit_subN T.s_1 T.i_7 T.t_7 T.s_1_7
    · exact kit_subN T.s_1 T.i_8 T.t_8 T.s_1_8
    · exact kit_subN T.s_1 T.i_9 T.t_9 T.s_1_9
    · exact kit_subN T.s_1 T.i_10 T.t_10 T.s_1_10
  · refine ⟨T.x_2, T.l_2, kit_ve T.v_2, fun j hj => ?_⟩
    rcases (show j = 0 ∨ j = 1 ∨ j = 2 ∨ j = 3 ∨ j = 4 ∨ j = 5 ∨ j = 6 ∨ j = 7 ∨ j = 8 ∨ j = 9 ∨ j = 10 by omega) with rfl | rfl | rfl | rfl | rfl | rfl | rfl | rfl | rfl | rfl | rfl
    · exact kit_subN T.s_2 T.i_0 T.t_0 T.s_2_0
    · exact kit_subN T.s_2 T.i_1 T.t_1 T.s_2_1
    · exact kit_self
    · exact kit_subN T.s_2 T.i_3 T.t_3 T.s_2_3
    · exact kit_subN T.s_2 T.i_4 T.t_4 T.s_2_4
    · exact kit_subN T.s_2 T.i_5 T.t_5 T.s_2_5
    · exact kit_subN T.s_2 T.i_6 T.t_6 T.s_2_6
    · exact kit_subN T.s_2 T.i_7 T.t_7 T.s_2_7
    · exact kit_subN T.s_2 T.i_8 T.t_8 T.s_2_8
    · exact kit_subN T.s_2 T.i_9 T.t_9 T.s_2_9
    · exact kit_subN T.s_2 T.i_10 T.t_10 T.s_2_10
  · refine ⟨T.x_3, T.l_3, kit_ve T.v_3, fun j hj => ?_⟩
    rcases (show j = 0 ∨ j = 1 ∨ j = 2 ∨ j = 3 ∨ j = 4 ∨ j = 5 ∨ j = 6 ∨ j = 7 ∨ j = 8 ∨ j = 9 ∨ j = 10 by omega) with rfl | rfl | rfl | rfl | rfl | rfl | rfl | rfl | rfl | rfl | rfl
    · exact kit_subN T.s_3 T.i_0 T.t_0 T.s_3_0
    · exact kit_subN T.s_3 T.i_1 T.t_1 T.s_3_1
    · exact kit_subN T.s_3 T.i_2 T.t_2 T.s_3_2
    · exact kit_self
    · exact kit_subN T.s_3 T.i_4 T.t_4 T.s_3_4
    · exact kit_subN T.s_3 T.i_5 T.t_5 T.s_3_5
    · exact kit_subN T.s_3 T.i_6 T.t_6 T.s_3_6
    · exact kit_subN T.s_3 T.i_7 T.t_7 T.s_3_7
    · exact kit_subN T.s_3 T.i_8 T.t_8 T.s_3_8
    · exact kit_subN T.s_3 T.i_9 T.t_9 T.s_3_9
    · exact kit_subN T.s_3 T.i_10 T.t_10 T.s_3_10
  · refine ⟨T.x_4, T.l_4, kit_ve T.v_4, fun j hj => ?_⟩
    rcases (show j = 0 ∨ j = 1 ∨ j = 2 ∨ j = 3 ∨ j = 4 ∨ j = 5 ∨ j = 6 ∨ j = 7 ∨ j = 8 ∨ j = 9 ∨ j = 10 by omega) with rfl | rfl | rfl | rfl | rfl | rfl | rfl | rfl | rfl | rfl | rfl
    · exact kit_subN T.s_4 T.i_0 T.t_0 T.s_4_0
    · exact kit_subN T.s_4 T.i_1 T.t_1 T.s_4_1
    · exact kit_subN T.s_4 T.i_2 T.t_2 T.s_4_2
    · exact kit_subN T.s_4 T.i_3 T.t_3 T.s_4_3
    · exact kit_self
    · exact kit_subN T.s_4 T.i_5 T.t_5 T.s_4_5
    · exact kit_subN T.s_4 T.i_6 T.t_6 T.s_4_6
    · exact kit_subN T.s_4 T.i_7 T.t_7 T.s_4_7
    · exact kit_subN T.s_4 T.i_8 T.t_8 T.s_4_8
    · exact kit_subN T.s_4 T.i_9 T.t_9 T.s_4_9
    · exact kit_subN T.s_4 T.i_10 T.t_10 T.s_4_10
  · refine ⟨T.x_5, T.l_5, kit_ve T.v_5, fun j hj => ?_⟩
    rcases (show j = 0 ∨ j = 1 ∨ j = 2 ∨ j = 3 ∨ j = 4 ∨ j = 5 ∨ j = 6 ∨ j = 7 ∨ j = 8 ∨ j = 9 ∨ j = 10 by omega) with rfl | rfl | rfl | rfl | rfl | rfl | rfl | rfl | rfl | rfl | rfl
    · exact kit_subN T.s_5 T.i_0 T.t_0 T.s_5_0
    · exact kit_subN T.s_5 T.i_1 T.t_1 T.s_5_1
    · exact kit_subN T.s_5 T.i_2 T.t_2 T.s_5_2
    · exact kit_subN T.s_5 T.i_3 T.t_3 T.s_5_3
    · exact kit_subN T.s_5 T.i_4 T.t_4 T.s_5_4
    · exact kit_self
    · exact kit_subN T.s_5 T.i_6 T.t_6 T.s_5_6
    · exact kit_subN T.s_5 T.i_7 T.t_7 T.s_5_7
    · exact kit_subN T.s_5 T.i_8 T.t_8 T.s_5_8
    · exact kit_subN T.s_5 T.i_9 T.t_9 T.s_5_9
    · exact kit_subN T.s_5 T.i_10 T.t_10 T.s_5_10
  · refine ⟨T.x_6, T.l_6, kit_ve T.v_6, fun j hj => ?_⟩
    rcases (show j = 0 ∨ j = 1 ∨ j = 2 ∨ j = 3 ∨ j = 4 ∨ j = 5 ∨ j = 6 ∨ j = 7 ∨ j = 8 ∨ j = 9 ∨ j = 10 by omega) with rfl | rfl | rfl | rfl | rfl | rfl | rfl | rfl | rfl | rfl | rfl
    · exact kit_subN T.s_6 T.i_0 T.t_0 T.s_6_0
    · exact kit_subN T.s_6 T.i_1 T.t_1 T.s_6_1
    · exact kit_subN T.s_6 T.i_2 T.t_2 T.s_6_2
    · exact kit_subN T.s_6 T.i_3 T.t_3 T.s_6_3
    · exact kit_subN T.s_6 T.i_4 T.t_4 T.s_6_4
    · exact kit_subN T.s_6 T.i_5 T.t_5 T.s_6_5
    · exact kit_self
    · exact kit_subN T.s_6 T.i_7 T.t_7 T.s_6_7
    · exact kit_subN T.s_6 T.i_8 T.t_8 T.s_6_8
    · exact kit_subN T.s_6 T.i_9 T.t_9 T.s_6_9
    · exact kit_subN T.s_6 T.i_10 T.t_10 T.s_6_10
  · refine ⟨T.x_7, T.l_7, kit_ve T.v_7, fun j hj => ?_⟩
    rcases (show j = 0 ∨ j = 1 ∨ j = 2 ∨ j = 3 ∨ j = 4 ∨ j = 5 ∨ j = 6 ∨ j = 7 ∨ j = 8 ∨ j = 9 ∨ j = 10 by omega) with rfl | rfl | rfl | rfl | rfl | rfl | rfl | rfl | rfl | rfl | rfl
    · exact kit_subN T.s_7 T.i_0 T.t_0 T.s_7_0
    · exact kit_subN T.s_7 T.i_1 T.t_1 T.s_7_1
    · exact kit_subN T.s_7 T.i_2 T.t_2 T.s_7_2
    · exact kit_subN T.s_7 T.i_3 T.t_3 T.s_7_3
    · exact kit_subN T.s_7 T.i_4 T.t_4 T.s_7_4
    · exact kit_subN T.s_7 T.i_5 T.t_5 T.s_7_5
    · exact kit_subN T.s_7 T.i_6 T.t_6 T.s_7_6
    · exact kit_self
    · exact kit_subN T.s_7 T.i_8 T.t_8 T.s_7_8
    · exact kit_subN T.s_7 T.i_9 T.t_9 T.s_7_9
    · exact kit_subN T.s_7 T.i_10 T.t_10 T.s_7_10
  · refine ⟨T.x_8, T.l_8, kit_ve T.v_8, fun j hj => ?_⟩
    rcases (show j = 0 ∨ j = 1 ∨ j = 2 ∨ j = 3 ∨ j = 4 ∨ j = 5 ∨ j = 6 ∨ j = 7 ∨ j = 8 ∨ j = 9 ∨ j = 10 by omega) with rfl | rfl | rfl | rfl | rfl | rfl | rfl | rfl | rfl | rfl | rfl
    · exact kit_subN T.s_8 T.i_0 T.t_0 T.s_8_0
    · exact kit_subN T.s_8 T.i_1 T.t_1 T.s_8_1
    · exact kit_subN T.s_8 T.i_2 T.t_2 T.s_8_2
    · exact kit_subN T.s_8 T.i_3 T.t_3 T.s_8_3
    · exact kit_subN T.s_8 T.i_4 T.t_4 T.s_8_4
    · exact kit_subN T.s_8 T.i_5 T.t_5 T.s_8_5
    · exact kit_subN T.s_8 T.i_6 T.t_6 T.s_8_6
    · exact kit_subN T.s_8 T.i_7 T.t_7 T.s_8_7
    · exact kit_self
    · exact kit_subN T.s_8 T.i_9 T.t_9 T.s_8_9
    · exact kit_subN T.s_8 T.i_10 T.t_10 T.s_8_10
  · refine ⟨T.x_9, T.l_9, kit_ve T.v_9, fun j hj => ?_⟩
    rcases (show j = 0 ∨ j = 1 ∨ j = 2 ∨ j = 3 ∨ j = 4 ∨ j = 5 ∨ j = 6 ∨ j = 7 ∨ j = 8 ∨ j = 9 ∨ j = 10 by omega) with rfl | rfl | rfl | rfl | rfl | rfl | rfl | rfl | rfl | rfl | rfl
    · exact kit_subN T.s_9 T.i_0 T.t_0 T.s_9_0
    · exact kit_subN T.s_9 T.i_1 T.t_1 T.s_9_1
    · exact kit_subN T.s_9 T.i_2 T.t_2 T.s_9_2
    · exact kit_subN T.s_9 T.i_3 T.t_3 T.s_9_3
    · exact kit_subN T.s_9 T.i_4 T.t_4 T.s_9_4
    · exact kit_subN T.s_9 T.i_5 T.t_5 T.s_9_5
    · exact kit_subN T.s_9 T.i_6 T.t_6 T.s_9_6
    · exact kit_subN T.s_9 T.i_7 T.t_7 T.s_9_7
    · exact kit_subN T.s_9 T.i_8 T.t_8 T.s_9_8
    · exact kit_self
    · exact kit_subN T.s_9 T.i_10 T.t_10 T.s_9_10
  · refine ⟨T.x_10, T.l_10, kit_ve T.v_10, fun j hj => ?_⟩
    rcases (show j = 0 ∨ j = 1 ∨ j = 2 ∨ j = 3 ∨ j = 4 ∨ j = 5 ∨ j = 6 ∨ j = 7 ∨ j = 8 ∨ j = 9 ∨ j = 10 by omega) with rfl | rfl | rfl | rfl | rfl | rfl | rfl | rfl | rfl | rfl | rfl
    · exact kit_subN T.s_10 T.i_0 T.t_0 T.s_10_0
    · exact kit_subN T.s_10 T.i_1 T.t_1 T.s_10_1
    · exact kit_subN T.s_10 T.i_2 T.t_2 T.s_10_2
    · exact kit_subN T.s_10 T.i_3 T.t_3 T.s_10_3
    · exact kit_subN T.s_10 T.i_4 T.t_4 T.s_10_4
    · exact kit_subN T.s_10 T.i_5 T.t_5 T.s_10_5
    · exact kit_subN T.s_10 T.i_6 T.t_6 T.s_10_6
    · exact kit_subN T.s_10 T.i_7 T.t_7 T.s_10_7
    · exact kit_subN T.s_10 T.i_8 T.t_8 T.s_10_8
    · exact kit_subN T.s_10 T.i_9 T.t_9 T.s_10_9
    · exact kit_self
theorem same2_up {K : PySem.W.Frag} {H H' : Hp} {x y : V} (e : Ex H H') (h : Same2 K H x y) : Same2 K H' x y := by
  cases h with
  | flat a b => exact .flat a b
  | tup a b c => exact .tup (ex_t e a) (ex_t e b) c
  | lst a b c => exact .lst (ex_l e a) (ex_l e b) c
  | dic a b => exact .dic (e _ _ a) (e _ _ b)
/-- the passed thing: nothing that changes, or a list of plain things -/
def ThS (K : PySem.W.Frag) (F H : Hp) (x : V) (n : Nat) : Prop :=
  (∃ t b, TyX K F x (.type t) ∧ PySem.W.kitOne K (.type t) (.type "bool") = some b ∧ PySem.W.kitOne K (.type t) (.type "list") = some false ∧ Same2 K F x x) ∨
  (∃ t ys, x = .ref t ∧ F t = none ∧ H t = some (.lst ys) ∧ (∀ y ∈ ys, flatV y = true) ∧ ys.length ≤ n)
theorem ThS.up {K : PySem.W.Frag} {F H H' : Hp} {x : V} {n : Nat} (e : Ex H H') (h : ThS K F H x n) : ThS K F H' x n := by
  rcases h with h | ⟨t, ys, h1, h2, h3, h4⟩
  · exact .inl h
  · exact .inr ⟨t, ys, h1, h2, e _ _ h3, h4⟩
theorem ThS.same {K : PySem.W.Frag} {F H : Hp} {x : V} {n : Nat} (e : Ex F H) (h : ThS K F H x n) : Same2 K H x x := by
  rcases h with ⟨t, b, h1, h2, h3, h4⟩ | ⟨t, ys, rfl, h2, h3, h4, _⟩
  · exact same2_up e h4
  · exact .lst (SqL.of h3) (SqL.of h3) fun y hy => .inr (h4 y hy)
theorem ThS.ty {K : PySem.W.Frag} {F H : Hp} {x : V} {n : Nat} (e : Ex F H) (h : ThS K F H x n) : ∃ t b, TyX K H x (.type t) ∧ PySem.W.kitOne K (.type t) (.type "bool") = some b := by
  rcases h with ⟨t, b, h1, h2, h3, h4⟩ | ⟨t, ys, rfl, h2, h3, h4, _⟩
  · exact ⟨t, b, tyX_up e h1, h2⟩
  · exact ⟨"list", false, .base (.lst h3), kit_ty (by decide +kernel)⟩
theorem dpAll_bls {K : PySem.W.Frag} {H : Hp} : ∀ bs : List Bool, DpAll K H (bs.map V.bl) (bs.map .bool)
  | [] => .nil
  | b :: r => .cons (.bl b) (dpAll_bls r)
abbrev sp_law (K : PySem.W.Frag) (A : Adr) : Sp := spLaw K
theorem ok_law (T : Txt K mg A) : FnOk P w K mg base CX0 4 A.f_law A.d_law P_law (sp_law K A) := by
  refine T.F_law.ok sc_law (fun vs H Q E h => ?_) (fun cdv Ar outer s H vs Q E hr h => ?_)
  · obtain ⟨a, ns, rfl, _⟩ := h; rfl
  · have hu := hu_of hr
    refine ⟨_, (pss_cons (ps_for PassesOwn.never rfl (k_pil K rfl (pe_op op_catM (pe_slice (k_slL K rfl) (pv 0) po_none (po_some pe_int)) (pe_lstM (pa_cons pe_int pa_nil)))) (pg_name (i := 1) sc_law.nd rfl (Or.inl rfl))
          (pss_cons (ps_set (i := 2) sc_law.nd rfl (Or.inl rfl) (pe_call (ok__law_well T) (hr.mono (by decide)) (by rfl) T.g__law_well T.k__law_well T.bi__law_well .nil pass0 (pa_cons (pv 1) pa_nil)))
        (pss_cons (ps_set (i := 3) sc_law.nd rfl (Or.inl rfl) (pe_call (ok__law_one T) (hr.mono (by decide)) (by rfl) T.g__law_one T.k__law_one T.bi__law_one .nil pass0 (pa_cons (pv 2) (pa_cons (pe_lstM (pa_cons pe_non (pa_cons pe_int (pa_cons (pe_un un_neg pe_int) (pa_cons pe_str (pa_cons pe_str (pa_cons (pe_tupM (pa_cons pe_str (pa_cons pe_str pa_nil))) (pa_cons (pe_cmpR op_eq pe_int pe_int (nomark _)) (pa_cons (pe_lstM pa_nil) (pa_cons pe_dnewK (pa_cons (pe_lstM (pa_cons pe_non pa_nil)) (pa_cons (pe_op op_pow pe_int pe_int) pa_nil)))))))))))) pa_nil))))
        (pss_one (ps_for PassesOwn.never rfl (pi_enum (by rfl) T.b_enumerate (pa_cons (pe_call (ok__law_errors T) (hr.mono (by decide)) (by rfl) T.g__law_errors T.k__law_errors T.bi__law_errors .nil pass0 (pa_cons (pv 3) pa_nil)) pa_nil)) (k_gtup K rfl (by rfl) (pgs_cons (pg_name (i := 4) sc_law.nd rfl (Or.inr rfl)) (pgs_cons (pg_name (i := 5) sc_law.nd rfl (Or.inl rfl)) pgs_nil)))
          (pss_cons (ps_asg (pv 5) (k_gtup K rfl (by rfl) (pgs_cons (pg_name (i := 6) sc_law.nd rfl (Or.inl rfl)) (pgs_cons (pg_name (i := 7) sc_law.nd rfl (Or.inl rfl)) pgs_nil))))
        (pss_cons (ps_if (PW.pt (pw_or (pt_not (pt_val (pe_callB (k_isX K rfl) (by rfl) T.b_isinstance (by decide +kernel) (pa_cons (pv 6) (pa_cons (pe_glob (v := .ref A.C_LoadError) (by rfl) T.ld.g rfl) pa_nil))))) (pw_or1 (pt_not (pt_val (pe_callB (k_isX K rfl) (by rfl) T.b_isinstance (by decide +kernel) (pa_cons (pv 6) (pa_cons (pe_bltn (v := .ty "ValueError") (by rfl) T.b_ValueError (by decide +kernel) rfl) pa_nil))))))))
          (pss_one (ps_ret pe_bl))
          pss_nil)
        (pss_cons (ps_if (pt_cmpR (k_neD K rfl hr.units) (pe_call (ok__law_kinds T) (hr.mono (by decide)) (by rfl) T.g__law_kinds T.k__law_kinds T.bi__law_kinds .nil pass0 (pa_cons (pv 6) pa_nil)) (pe_lcM (own := [("_law_at", 8)]) (tt := tYes) rfl sc_law.nd (pi_range1 (by rfl) T.b_range (pa_cons pe_int pa_nil)) (blkOk_by (N := N_law) (sc := defScope s_law) (by decide +kernel)) (fun _ _ _ _ _ => (pg_name (i := 8) sc_law.nd rfl (Or.inl rfl))) (fun _ _ _ _ _ => pts_nil) (fun _ _ _ _ _ => (pe_cmpR op_eq (pv 4) (pv 8) (nomark _)))) (nomark _))
          (pss_one (ps_ret pe_bl))
          pss_nil)
        (pss_cons (ps_if (PW.pt (pw_or (pt_cmpR (k_neS K rfl hu) (pv 7) (pv 3) (nomark _)) (pw_or1 (pt_cmpR op_ne (pe_callB (k_isi K rfl) (by rfl) T.b_isinstance (by decide +kernel) (pa_cons (pv 7) (pa_cons (pe_bltn (v := .ty "bool") (by rfl) T.b_bool (by decide +kernel) rfl) pa_nil))) (pe_callB (k_isi K rfl) (by rfl) T.b_isinstance (by decide +kernel) (pa_cons (pv 3) (pa_cons (pe_bltn (v := .ty "bool") (by rfl) T.b_bool (by decide +kernel) rfl) pa_nil))) (nomark _)))))
          (pss_one (ps_ret pe_bl))
          pss_nil)
        (pss_one (ps_if (pt_val (pe_callB (k_isi K rfl) (by rfl) T.b_isinstance (by decide +kernel) (pa_cons (pv 3) (pa_cons (pe_bltn (v := .ty "list") (by rfl) T.b_list (by decide +kernel) rfl) pa_nil))))
          (pss_cons (ps_expr (pe_bm PySem.F.plainAttrs_list PySem.F.slot_list_append PySem.F.type_list_append mt_append (pv 3) (pa_cons pe_str pa_nil)))
        (pss_one (ps_if (pt_cmpR (k_neS K rfl hu) (pv 7) (pv 3) (nomark _))
          (pss_one (ps_ret pe_bl))
          pss_nil)))
          pss_nil)))))))))))
        (pss_one (ps_ret pe_bl))), ?_⟩
    obtain ⟨a, ns, rfl, hS, hlen, k⟩ := h
    walk_at "rd"
    refine r_slL hS fun l0 H1 n1 e1 h1 => ?_
    walk_at "rd"
    refine ⟨by simp, fun l1 H2 n2 e2 h2 => ?_⟩
    obtain ⟨ms, hms, lms⟩ := cutV_int ns none (some 6)
    rw [hms] at h1
    refine r_catM (e2 _ _ h1) h2 (by simp; omega) fun l H3 n3 e3 h3 => ?_
    refine ⟨l, rfl, ⟨_, SqL.of h3⟩, ?_⟩
    have hall : ∀ v ∈ ms.map V.int ++ [.int 0], ∃ c : Int, v = .int c := fun v hv => by
      rcases List.mem_append.mp hv with hv | hv
      · obtain ⟨c, _, rfl⟩ := List.mem_map.mp hv; exact ⟨c, rfl⟩
      · simp only [List.mem_cons, List.not_mem_nil, or_false] at hv
        subst hv; exact ⟨_, rfl⟩
    generalize hxs : ms.map V.int ++ [.int 0] = cs at h3 hall
    refine for_it (walk_list (K := K) (a := l) (xs := cs)) (fun _ σ' H' => H' l = some (.lst cs) ∧ ∃ o1 o2 o3 o4 o5 o6 o7 o8 : Option V, σ' = [some (.ref a), o1, o2, o3, o4, o5, o6, o7, o8])
      ⟨h3, _, _, _, _, _, _, _, _, rfl⟩ (fun i σ' H' _ q => SqL.of q.1) ?_ fun σ' H' q => ?_
    rotate_left
    · obtain ⟨_, o1, o2, o3, o4, o5, o6, o7, o8, rfl⟩ := q
      walk_at "rd"
      exact k _
    rintro i x σ' H0 H0' hi ⟨hl, o1, o2, o3, o4, o5, o6, o7, o8, rfl⟩ ⟨rfl, hx⟩
    obtain ⟨c, rfl⟩ := hall x (List.mem_of_getElem? hx)
    clear hxs h3 e3 n3 h2 n2 e2 h1 n1 e1 hms lms
    -- well, thing
    walk_at "rd"
    refine ⟨c, rfl, fun p H1 np e1 w1 => ?_⟩
    have nlp : l ≠ p := ne_of_none hl np
    walk_at "rd"
    refine ⟨by simp, fun b1 J1 n1 j1 r1 => ?_⟩
    have w2 := w1.up j1
    walk_at "rd"
    refine r_eq rfl ?_
    walk_at "rd"
    refine ⟨by simp, fun b2 J2 n2 j2 r2 => ?_⟩
    have w3 := w2.up j2
    walk_at "rd"
    refine r_dnewK fun b3 J3 n3 j3 r3 => ?_
    have w4 := w3.up j3
    walk_at "rd"
    refine ⟨by simp, fun b4 J4 n4 j4 r4 => ?_⟩
    have w5 := w4.up j4
    walk_at "rd"
    refine r_I ⟨by decide, by decide, by decide⟩ ?_
    walk_at "rd"
    refine ⟨by simp, fun b5 J5 n5 j5 r5 => ?_⟩
    have w6 := w5.up j5
    walk_at "rd"
    refine ⟨p, b5, _, 0, rfl, SqL.of r5, new_ne w5 n5, by simp, by simp, by decide, w6, fun v H2 hv s2 w7 => ?_⟩
    have g1 := s2 _ _ (new_ne w1 n1) ((j2.trans (j3.trans (j4.trans j5))) _ _ r1)
    have g2 := s2 _ _ (new_ne w2 n2) ((j3.trans (j4.trans j5)) _ _ r2)
    have g3 := s2 _ _ (new_ne w3 n3) ((j4.trans j5) _ _ r3)
    have g4 := s2 _ _ (new_ne w4 n4) (j5 _ _ r4)
    have hl2 : H2 l = some (.lst cs) := s2 _ _ nlp ((j1.trans (j2.trans (j3.trans (j4.trans j5)))) _ _ (e1 _ _ hl))
    have lne : ∀ {b : Addr} {J : Hp}, J b = none → J l = some (.lst cs) → l ≠ b := fun h1 h2 q => by rw [← q, h2] at h1; cases h1
    have l2 : l ≠ b2 := lne n2 (j1 _ _ (e1 _ _ hl))
    have l4 : l ≠ b4 := lne n4 ((j1.trans (j2.trans j3)) _ _ (e1 _ _ hl))
    have hF : ∃ F, Ex F H2 ∧ F l = some (.lst cs) ∧ ThS K F H2 v 1 ∧ (∀ b, H2 b ≠ none → F b = none → ∃ ys, H2 b = some (.lst ys)) := by
      have keep : ∃ ys : List V, (1 : Nat) = 1 := ⟨[], rfl⟩
      have same : ∀ b, H2 b ≠ none → H2 b = none → ∃ ys, H2 b = some (.lst ys) := fun b h1 h2 => absurd h2 h1
      have frz : ∀ {t : Addr} {ys : List V}, H2 t = some (.lst ys) → ∀ b, H2 b ≠ none → fr [t] H2 b = none → ∃ ys, H2 b = some (.lst ys) := fun {t ys} ht b h1 h2 => by
        by_cases q : b = t
        · exact ⟨ys, q ▸ ht⟩
        · exfalso
          unfold fr at h2
          rw [if_neg (by simpa using q)] at h2
          exact h1 h2
      simp only [List.mem_cons, List.not_mem_nil, or_false] at hv
      rcases hv with rfl | rfl | rfl | rfl | rfl | rfl | rfl | rfl | rfl | rfl | rfl
      · exact ⟨H2, Ex.refl _, hl2, .inl ⟨"NoneType", false, .base .non, kit_ty (by decide +kernel), kit_ty (by decide +kernel), .flat rfl rfl⟩, same⟩
      · exact ⟨H2, Ex.refl _, hl2, .inl ⟨"int", false, .base (.int _), kit_ty (by decide +kernel), kit_ty (by decide +kernel), .flat rfl rfl⟩, same⟩
      · exact ⟨H2, Ex.refl _, hl2, .inl ⟨"int", false, .base (.int _), kit_ty (by decide +kernel), kit_ty (by decide +kernel), .flat rfl rfl⟩, same⟩
      · exact ⟨H2, Ex.refl _, hl2, .inl ⟨"str", false, .base (.str _), kit_ty (by decide +kernel), kit_ty (by decide +kernel), .flat rfl rfl⟩, same⟩
      · exact ⟨H2, Ex.refl _, hl2, .inl ⟨"str", false, .base (.str _), kit_ty (by decide +kernel), kit_ty (by decide +kernel), .flat rfl rfl⟩, same⟩
      · exact ⟨H2, Ex.refl _, hl2, .inl ⟨"tuple", false, .base (.tup g1), kit_ty (by decide +kernel), kit_ty (by decide +kernel), .tup (st_of g1) (st_of g1) fun y hy => by
          simp only [List.mem_cons, List.not_mem_nil, or_false] at hy
          rcases hy with rfl | rfl <;> exact .inr rfl⟩, same⟩
      · exact ⟨H2, Ex.refl _, hl2, .inl ⟨"bool", true, .base (.bl _), kit_ty (by decide +kernel), kit_ty (by decide +kernel), .flat rfl rfl⟩, same⟩
      · exact ⟨fr [b2] H2, fr_ex, fr_at hl2 (by simpa using l2), .inr ⟨b2, [], rfl, fr_no (by simp), g2, (fun y hy => nomatch hy), by decide⟩, frz g2⟩
      · exact ⟨H2, Ex.refl _, hl2, .inl ⟨"dict", false, .base (.dK g3), kit_ty (by decide +kernel), kit_ty (by decide +kernel), .dic g3 g3⟩, same⟩
      · exact ⟨fr [b4] H2, fr_ex, fr_at hl2 (by simpa using l4), .inr ⟨b4, [.non], rfl, fr_no (by simp), g4, (fun y hy => by rw [List.mem_singleton.mp hy]; rfl), by decide⟩, frz g4⟩
      · exact ⟨H2, Ex.refl _, hl2, .inl ⟨"int", false, .base (.int _), kit_ty (by decide +kernel), kit_ty (by decide +kernel), .flat rfl rfl⟩, same⟩
    obtain ⟨F, eF, Fl, th, Fs⟩ := hF
    clear hv g1 g2 g3 g4 r1 r2 r3 r4 r5 w1 w2 w3 w4 w5 w6 w7 s2 hl2 lne l2 l4 n5 n4 n3 n2 n1 j5 j4 j3 j2 j1 e1 np hl
    walk_at "rd"
    refine ⟨v, rfl, fun el ts H3 nel e3 hel tl er nts => ?_⟩
    walk_at "rd"
    have hF2 : ∃ F2, Ex F2 H3 ∧ F2 l = some (.lst cs) ∧ F2 el = some (.lst ts) ∧ ThS K F2 H3 v 1 ∧ ∀ (i : Nat) t, ts[i]? = some t → ErrAt A F2 v i t := by
      rcases th with ⟨t, b, h1, h2, h3, h4⟩ | ⟨t, ys, rfl, h2, h3, h4, h5⟩
      · exact ⟨H3, Ex.refl _, (eF.trans e3) _ _ Fl, hel, .inl ⟨t, b, tyX_up (eF.trans e3) h1, h2, h3, same2_up (eF.trans e3) h4⟩, er⟩
      · have ht3 := e3 _ _ h3
        have ne : ∀ {b : Addr} {o : HO}, H3 b = some o → (∀ xs, o ≠ .lst xs) → b ∉ [t] := fun hb no hm => by
          rw [List.mem_singleton.mp hm, ht3] at hb
          exact no _ (Option.some.inj hb).symm
        refine ⟨fr [t] H3, fr_ex, ?_, ?_, .inr ⟨t, ys, rfl, fr_no (by simp), ht3, h4, h5⟩, fun i tt hi => ?_⟩
        · exact fr_up (eF.trans e3) (fun q hq => by rw [List.mem_singleton.mp hq]; exact h2) _ _ Fl
        · exact fr_at hel (fun hm => by rw [List.mem_singleton.mp hm, h3] at nel; cases nel)
        · obtain ⟨ta, a, dd, f, q1, q2, q3, q4⟩ := er i tt hi
          exact ⟨ta, a, dd, f, q1, fr_at q2 (ne q2 fun _ z => nomatch z), fr_at q3 (ne q3 fun _ z => by have z' : HO.ext _ = HO.lst _ := z; cases z'), fr_at q4 (ne q4 fun _ z => by have z' : HO.ext _ = HO.lst _ := z; cases z')⟩
    obtain ⟨F2, eF2, Fl2, Fel, th2, er2⟩ := hF2
    clear er th Fs eF Fl nts
    refine ⟨el, ts, rfl, SqL.of hel, ?_⟩
    refine for_it (walk_enum (K := K) (a := el) (xs := ts)) (fun i σ' H' => Ex F2 H' ∧ ThS K F2 H' v (1 + i) ∧ ∃ o4 o5 o6 o7 o8 : Option V, σ' = [some (.ref a), some (.int c), some (.ref p), some v, o4, o5, o6, o7, o8])
      ⟨eF2, th2, _, _, _, _, _, rfl⟩ (fun i σ' H' _ q => SqL.of (q.1 _ _ Fel)) ?_ fun σ' H' q => ?_
    rotate_left
    · obtain ⟨ex, _, o4, o5, o6, o7, o8, rfl⟩ := q
      exact ⟨ex _ _ Fl2, _, _, _, _, _, _, _, _, rfl⟩
    rintro i x σ' H4 H4' hi ⟨ex, th, o4, o5, o6, o7, o8, rfl⟩ ⟨tt, y1, y2, rfl, ht, rfl, q1, q2⟩
    cases q1
    have e45 : Ex H4 (upd H4 tt (.tup [.int (i : Nat), y2])) := Ex.new ht
    have htt : SqT K (upd H4 tt (.tup [.int (i : Nat), y2])) tt [.int (i : Nat), y2] := st_of upd_same
    replace ex := ex.trans e45
    replace th := th.up e45
    generalize upd H4 tt (.tup [.int (i : Nat), y2]) = H5 at *
    obtain ⟨ta, ea, dd, f, rfl, hta, hea, hdd⟩ := er2 i y2 q2
    have i11 : i < 11 := by rw [← tl]; exact hi
    have ef := err_f T i i11
    refine r_gtupE htt rfl ?_
    walk_at "rd"
    refine r_gtupE (st_of (ex _ _ hta)) rfl ?_
    walk_at "rd"
    refine r_isX (.own _) (ex _ _ hea) (ex _ _ hdd) ef.x ef.l ?_
    walk_at "rd"
    refine r_isX (.ty "ValueError") (ex _ _ hea) (ex _ _ hdd) ef.x ef.v ?_
    walk_at "rd"
    refine ⟨ea, _, dd, _, _, rfl, ex _ _ hea, ex _ _ hdd, ef.x, ef.k, fun kl H6 nk e6 hk => ?_⟩
    walk_at "rd"
    refine ⟨_, rfl, by decide, by decide, ?_⟩
    refine lc_val walk_range (by decide) (fun _ _ => trivial) (fun j ys => ys = (List.range j).map fun j => V.bl (decide (i = j))) rfl (fun j ys x Hx Hy hj exx hs hy => ?_) fun D ys H7 nD e7 hs hD => ?_
    · obtain ⟨rfl, rfl⟩ := hy
      walk_at "rd"
      refine ⟨rfl, ?_⟩
      walk_at "rd"
      refine r_eq rfl ⟨Ex.refl _, ?_⟩
      rw [hs, List.range_succ, List.map_append]
      have e : decide (V.int (i : Nat) = V.int (0 + (j : Nat))) = decide (i = j) := by
        refine decide_eq_decide.mpr ⟨fun z => ?_, fun z => ?_⟩
        · have := V.int.inj z; omega
        · rw [z, Int.zero_add]
      rw [e]
      rfl
    have hb : ys = ((List.range 11).map fun j => decide (i = j)).map V.bl := by rw [hs, List.map_map]; rfl
    rw [hb] at hD
    have hk2 : H7 kl = some (.lst (((List.range 11).map fun j => decide (i = j)).map V.bl)) := e7 _ _ hk
    have shp : SeqAt.shaped (.list (((List.range 11).map fun j => decide (i = j)).map .bool)) = true := (nice_list (n := 1) fun d hd => by
      obtain ⟨b, _, rfl⟩ := List.mem_map.mp hd
      exact nice_bool).shaped (by decide)
    refine r_neD (.lst (SqL.of hk2) (dpAll_bls _)) (.lst (SqL.of hD) (dpAll_bls _)) shp shp ?_
    rw [eqv_same shp]
    walk_at "rd"
    have ex7 := ex.trans (e6.trans e7)
    have th7 := th.up (e6.trans e7)
    refine r_neS (th7.same ex7) ?_
    walk_at "rd"
    obtain ⟨tn, tb, ty1, kb⟩ := th7.ty ex7
    refine r_isi (.ty "bool") ty1 kb ?_
    walk_at "rd"
    refine r_isi (.ty "bool") ty1 kb ?_
    refine r_ne rfl ?_
    rw [decide_eq_true rfl]
    walk_at "rd"
    rcases th7 with ⟨t, b, h1, h2, h3, h4⟩ | ⟨t, zs, rfl, h2, h3, h4, h5⟩
    · refine r_isi (.ty "list") (tyX_up ex7 h1) h3 ?_
      walk_at "rd"
      exact ⟨ex7, .inl ⟨t, b, h1, h2, h3, h4⟩, _, _, _, _, _, rfl⟩
    · refine r_isi (b := true) (.ty "list") (.base (.lst h3)) (kit_ty (by decide +kernel)) ?_
      walk_at "rd"
      refine ⟨tyL (SqL.of h3), ?_⟩
      walk_at "rd"
      refine r_app h3 (by omega) fun H8 h8 s8 => ?_
      walk_at "rd"
      have ex8 := Ex.sm ex7 h2 s8
      have fl8 : ∀ y ∈ zs ++ [V.str "more"], flatV y = true := fun y hy => by
        rcases List.mem_append.mp hy with hy | hy
        · exact h4 y hy
        · rw [List.mem_singleton.mp hy]; rfl
      refine r_neS (.lst (SqL.of h8) (SqL.of h8) fun y hy => .inr (fl8 y hy)) ?_
      walk_at "rd"
      exact ⟨ex8, .inr ⟨t, _, rfl, h2, h8, fl8, by simp; omega⟩, _, _, _, _, _, rfl⟩
end
theorem all_mk {l : PySem.W.OpenLaw} {w : World} {K : PySem.W.Frag} {h : Heap} {mg : Str → Option Value} {fa : Addr} (X : K.In h) (G : h.Ns mainGlobals mg) (hfa : mg "law" = some (.ref fa))
    {C_LoadError C_NoLibrary C_NoStore C_NoName C_Missing C_NoSymbol C_NoPreloads C_NotLoaded C_NotUsed C_Unresolved C_NoHandle C_NoWishes : Addr}
    {f_NoLibrary___init__ f_NoStore___init__ f_NoName___init__ f_Missing___init__ f_NoSymbol___init__ f_NoPreloads___init__ f_NotLoaded___init__ f_NotUsed___init__ f_Unresolved___init__ f_NoHandle___init__ f_NoWishes___init__ f__law_well f__law_draw f__law_one f__law_errors f__law_kinds f_law : Addr}
    {oc_NoLibrary___init__ dc_NoLibrary___init__ pm_NoLibrary___init__ cd_NoLibrary___init__ ct_NoLibrary___init__ kV_NoLibrary___init__ : Value}
    {od_NoLibrary___init__ an_NoLibrary___init__ : Option Addr}
    {sl_NoLibrary___init__ : Array (Option Value)}
    {oc_NoStore___init__ dc_NoStore___init__ pm_NoStore___init__ cd_NoStore___init__ ct_NoStore___init__ kV_NoStore___init__ : Value}
    {od_NoStore___init__ an_NoStore___init__ : Option Addr}
    {sl_NoStore___init__ : Array (Option Value)}
    {oc_NoName___init__ dc_NoName___init__ pm_NoName___init__ cd_NoName___init__ ct_NoName___init__ kV_NoName___init__ : Value}
    {od_NoName___init__ an_NoName___init__ : Option Addr}
    {sl_NoName___init__ : Array (Option Value)}
    {oc_Missing___init__ dc_Missing___init__ pm_Missing___init__ cd_Missing___init__ ct_Missing___init__ kV_Missing___init__ : Value}
    {od_Missing___init__ an_Missing___init__ : Option Addr}
    {sl_Missing___init__ : Array (Option Value)}
    {oc_NoSymbol___init__ dc_NoSymbol___init__ pm_NoSymbol___init__ cd_NoSymbol___init__ ct_NoSymbol___init__ kV_NoSymbol___init__ : Value}
    {od_NoSymbol___init__ an_NoSymbol___init__ : Option Addr}
    {sl_NoSymbol___init__ : Array (Option Value)}
    {oc_NoPreloads___init__ dc_NoPreloads___init__ pm_NoPreloads___init__ cd_NoPreloads___init__ ct_NoPreloads___init__ kV_NoPreloads___init__ : Value}
    {od_NoPreloads___init__ an_NoPreloads___init__ : Option Addr}
    {sl_NoPreloads___init__ : Array (Option Value)}
    {oc_NotLoaded___init__ dc_NotLoaded___init__ pm_NotLoaded___init__ cd_NotLoaded___init__ ct_NotLoaded___init__ kV_NotLoaded___init__ : Value}
    {od_NotLoaded___init__ an_NotLoaded___init__ : Option Addr}
    {sl_NotLoaded___init__ : Array (Option Value)}
    {oc_NotUsed___init__ dc_NotUsed___init__ pm_NotUsed___init__ cd_NotUsed___init__ ct_NotUsed___init__ kV_NotUsed___init__ : Value}
    {od_NotUsed___init__ an_NotUsed___init__ : Option Addr}
    {sl_NotUsed___init__ : Array (Option Value)}
    {oc_Unresolved___init__ dc_Unresolved___init__ pm_Unresolved___init__ cd_Unresolved___init__ ct_Unresolved___init__ kV_Unresolved___init__ : Value}
    {od_Unresolved___init__ an_Unresolved___init__ : Option Addr}
    {sl_Unresolved___init__ : Array (Option Value)}
    {oc_NoHandle___init__ dc_NoHandle___init__ pm_NoHandle___init__ cd_NoHandle___init__ ct_NoHandle___init__ kV_NoHandle___init__ : Value}
    {od_NoHandle___init__ an_NoHandle___init__ : Option Addr}
    {sl_NoHandle___init__ : Array (Option Value)}
    {oc_NoWishes___init__ dc_NoWishes___init__ pm_NoWishes___init__ cd_NoWishes___init__ ct_NoWishes___init__ kV_NoWishes___init__ : Value}
    {od_NoWishes___init__ an_NoWishes___init__ : Option Addr}
    {sl_NoWishes___init__ : Array (Option Value)}
    {oc__law_well dc__law_well pm__law_well cd__law_well ct__law_well kV__law_well : Value}
    {od__law_well an__law_well : Option Addr}
    {sl__law_well : Array (Option Value)}
    {oc__law_draw dc__law_draw pm__law_draw cd__law_draw ct__law_draw kV__law_draw : Value}
    {od__law_draw an__law_draw : Option Addr}
    {sl__law_draw : Array (Option Value)}
    {oc__law_one dc__law_one pm__law_one cd__law_one ct__law_one kV__law_one : Value}
    {od__law_one an__law_one : Option Addr}
    {sl__law_one : Array (Option Value)}
    {oc__law_errors dc__law_errors pm__law_errors cd__law_errors ct__law_errors kV__law_errors : Value}
    {od__law_errors an__law_errors : Option Addr}
    {sl__law_errors : Array (Option Value)}
    {oc__law_kinds dc__law_kinds pm__law_kinds cd__law_kinds ct__law_kinds kV__law_kinds : Value}
    {od__law_kinds an__law_kinds : Option Addr}
    {sl__law_kinds : Array (Option Value)}
    {oc_law dc_law pm_law cd_law ct_law kV_law : Value}
    {od_law an_law : Option Addr}
    {sl_law : Array (Option Value)}
    {nm_NoLibrary q_NoLibrary : Str}
    {N_NoLibrary : Addr}
    {bs_NoLibrary bm_NoLibrary sub_NoLibrary : List Value}
    {sn_NoLibrary : List Str}
    {ab_NoLibrary : Bool}
    {co_NoLibrary : Option Bool}
    {dd_NoLibrary : Option Addr}
    {m0_NoLibrary m1_NoLibrary m2_NoLibrary m3_NoLibrary m5_NoLibrary : Option Value}
    {nm_NoStore q_NoStore : Str}
    {N_NoStore : Addr}
    {bs_NoStore bm_NoStore sub_NoStore : List Value}
    {sn_NoStore : List Str}
    {ab_NoStore : Bool}
    {co_NoStore : Option Bool}
    {dd_NoStore : Option Addr}
    {m0_NoStore m1_NoStore m2_NoStore m3_NoStore m5_NoStore : Option Value}
    {nm_NoName q_NoName : Str}
    {N_NoName : Addr}
    {bs_NoName bm_NoName sub_NoName : List Value}
    {sn_NoName : List Str}
    {ab_NoName : Bool}
    {co_NoName : Option Bool}
    {dd_NoName : Option Addr}
    {m0_NoName m1_NoName m2_NoName m3_NoName m5_NoName : Option Value}
    {nm_Missing q_Missing : Str}
    {N_Missing : Addr}
    {bs_Missing bm_Missing sub_Missing : List Value}
    {sn_Missing : List Str}
    {ab_Missing : Bool}
    {co_Missing : Option Bool}
    {dd_Missing : Option Addr}
    {m0_Missing m1_Missing m2_Missing m3_Missing m5_Missing : Option Value}
    {nm_NoSymbol q_NoSymbol : Str}
    {N_NoSymbol : Addr}
    {bs_NoSymbol bm_NoSymbol sub_NoSymbol : List Value}
    {sn_NoSymbol : List Str}
    {ab_NoSymbol : Bool}
    {co_NoSymbol : Option Bool}
    {dd_NoSymbol : Option Addr}
    {m0_NoSymbol m1_NoSymbol m2_NoSymbol m3_NoSymbol m5_NoSymbol : Option Value}
    {nm_NoPreloads q_NoPreloads : Str}
    {N_NoPreloads : Addr}
    {bs_NoPreloads bm_NoPreloads sub_NoPreloads : List Value}
    {sn_NoPreloads : List Str}
    {ab_NoPreloads : Bool}
    {co_NoPreloads : Option Bool}
    {dd_NoPreloads : Option Addr}
    {m0_NoPreloads m1_NoPreloads m2_NoPreloads m3_NoPreloads m5_NoPreloads : Option Value}
    {nm_NotLoaded q_NotLoaded : Str}
    {N_NotLoaded : Addr}
    {bs_NotLoaded bm_NotLoaded sub_NotLoaded : List Value}
    {sn_NotLoaded : List Str}
    {ab_NotLoaded : Bool}
    {co_NotLoaded : Option Bool}
    {dd_NotLoaded : Option Addr}
    {m0_NotLoaded m1_NotLoaded m2_NotLoaded m3_NotLoaded m5_NotLoaded : Option Value}
    {nm_NotUsed q_NotUsed : Str}
    {N_NotUsed : Addr}
    {bs_NotUsed bm_NotUsed sub_NotUsed : List Value}
    {sn_NotUsed : List Str}
    {ab_NotUsed : Bool}
    {co_NotUsed : Option Bool}
    {dd_NotUsed : Option Addr}
    {m0_NotUsed m1_NotUsed m2_NotUsed m3_NotUsed m5_NotUsed : Option Value}
    {nm_Unresolved q_Unresolved : Str}
    {N_Unresolved : Addr}
    {bs_Unresolved bm_Unresolved sub_Unresolved : List Value}
    {sn_Unresolved : List Str}
    {ab_Unresolved : Bool}
    {co_Unresolved : Option Bool}
    {dd_Unresolved : Option Addr}
    {m0_Unresolved m1_Unresolved m2_Unresolved m3_Unresolved m5_Unresolved : Option Value}
    {nm_NoHandle q_NoHandle : Str}
    {N_NoHandle : Addr}
    {bs_NoHandle bm_NoHandle sub_NoHandle : List Value}
    {sn_NoHandle : List Str}
    {ab_NoHandle : Bool}
    {co_NoHandle : Option Bool}
    {dd_NoHandle : Option Addr}
    {m0_NoHandle m1_NoHandle m2_NoHandle m3_NoHandle m5_NoHandle : Option Value}
    {nm_NoWishes q_NoWishes : Str}
    {N_NoWishes : Addr}
    {bs_NoWishes bm_NoWishes sub_NoWishes : List Value}
    {sn_NoWishes : List Str}
    {ab_NoWishes : Bool}
    {co_NoWishes : Option Bool}
    {dd_NoWishes : Option Addr}
    {m0_NoWishes m1_NoWishes m2_NoWishes m3_NoWishes m5_NoWishes : Option Value}
    (g0_LoadError : PySem.W.nsIn K mainGlobals "LoadError" = some (some (.ref C_LoadError)))
    (g0_NoLibrary : PySem.W.nsIn K mainGlobals "NoLibrary" = some (some (.ref C_NoLibrary)))
    (g0_NoStore : PySem.W.nsIn K mainGlobals "NoStore" = some (some (.ref C_NoStore)))
    (g0_NoName : PySem.W.nsIn K mainGlobals "NoName" = some (some (.ref C_NoName)))
    (g0_Missing : PySem.W.nsIn K mainGlobals "Missing" = some (some (.ref C_Missing)))
    (g0_NoSymbol : PySem.W.nsIn K mainGlobals "NoSymbol" = some (some (.ref C_NoSymbol)))
    (g0_NoPreloads : PySem.W.nsIn K mainGlobals "NoPreloads" = some (some (.ref C_NoPreloads)))
    (g0_NotLoaded : PySem.W.nsIn K mainGlobals "NotLoaded" = some (some (.ref C_NotLoaded)))
    (g0_NotUsed : PySem.W.nsIn K mainGlobals "NotUsed" = some (some (.ref C_NotUsed)))
    (g0_Unresolved : PySem.W.nsIn K mainGlobals "Unresolved" = some (some (.ref C_Unresolved)))
    (g0_NoHandle : PySem.W.nsIn K mainGlobals "NoHandle" = some (some (.ref C_NoHandle)))
    (g0_NoWishes : PySem.W.nsIn K mainGlobals "NoWishes" = some (some (.ref C_NoWishes)))
    (at_NoLibrary___init__ : PySem.W.findIn K (.ref C_NoLibrary) "__init__" = some (some (.ref f_NoLibrary___init__)))
    (at_NoStore___init__ : PySem.W.findIn K (.ref C_NoStore) "__init__" = some (some (.ref f_NoStore___init__)))
    (at_NoName___init__ : PySem.W.findIn K (.ref C_NoName) "__init__" = some (some (.ref f_NoName___init__)))
    (at_Missing___init__ : PySem.W.findIn K (.ref C_Missing) "__init__" = some (some (.ref f_Missing___init__)))
    (at_NoSymbol___init__ : PySem.W.findIn K (.ref C_NoSymbol) "__init__" = some (some (.ref f_NoSymbol___init__)))
    (at_NoPreloads___init__ : PySem.W.findIn K (.ref C_NoPreloads) "__init__" = some (some (.ref f_NoPreloads___init__)))
    (at_NotLoaded___init__ : PySem.W.findIn K (.ref C_NotLoaded) "__init__" = some (some (.ref f_NotLoaded___init__)))
    (at_NotUsed___init__ : PySem.W.findIn K (.ref C_NotUsed) "__init__" = some (some (.ref f_NotUsed___init__)))
    (at_Unresolved___init__ : PySem.W.findIn K (.ref C_Unresolved) "__init__" = some (some (.ref f_Unresolved___init__)))
    (at_NoHandle___init__ : PySem.W.findIn K (.ref C_NoHandle) "__init__" = some (some (.ref f_NoHandle___init__)))
    (at_NoWishes___init__ : PySem.W.findIn K (.ref C_NoWishes) "__init__" = some (some (.ref f_NoWishes___init__)))
    (g0__law_well : PySem.W.nsIn K mainGlobals "_law_well" = some (some (.ref f__law_well)))
    (g0__law_draw : PySem.W.nsIn K mainGlobals "_law_draw" = some (some (.ref f__law_draw)))
    (g0__law_one : PySem.W.nsIn K mainGlobals "_law_one" = some (some (.ref f__law_one)))
    (g0__law_errors : PySem.W.nsIn K mainGlobals "_law_errors" = some (some (.ref f__law_errors)))
    (g0__law_kinds : PySem.W.nsIn K mainGlobals "_law_kinds" = some (some (.ref f__law_kinds)))
    (g0_law : PySem.W.nsIn K mainGlobals "law" = some (some (.ref f_law)))
    (l_NoLibrary___init__ : K.lookup f_NoLibrary___init__ = some ⟨oc_NoLibrary___init__, od_NoLibrary___init__, .func (PySem.W.fnOf "__init__" "NoLibrary.__init__" (defArgs s_NoLibrary___init__) (defBody s_NoLibrary___init__) (defScope s_NoLibrary___init__) .none kV_NoLibrary___init__ dc_NoLibrary___init__ pm_NoLibrary___init__ an_NoLibrary___init__ cd_NoLibrary___init__ ct_NoLibrary___init__), sl_NoLibrary___init__⟩)
    (cd1_NoLibrary___init__ : PySem.W.codeIn K cd_NoLibrary___init__ "NoLibrary.__init__" = true)
    (kp_NoLibrary___init__ : PySem.W.keepIn K (.ref f_NoLibrary___init__) = true)
    (l_NoStore___init__ : K.lookup f_NoStore___init__ = some ⟨oc_NoStore___init__, od_NoStore___init__, .func (PySem.W.fnOf "__init__" "NoStore.__init__" (defArgs s_NoStore___init__) (defBody s_NoStore___init__) (defScope s_NoStore___init__) .none kV_NoStore___init__ dc_NoStore___init__ pm_NoStore___init__ an_NoStore___init__ cd_NoStore___init__ ct_NoStore___init__), sl_NoStore___init__⟩)
    (cd1_NoStore___init__ : PySem.W.codeIn K cd_NoStore___init__ "NoStore.__init__" = true)
    (kp_NoStore___init__ : PySem.W.keepIn K (.ref f_NoStore___init__) = true)
    (l_NoName___init__ : K.lookup f_NoName___init__ = some ⟨oc_NoName___init__, od_NoName___init__, .func (PySem.W.fnOf "__init__" "NoName.__init__" (defArgs s_NoName___init__) (defBody s_NoName___init__) (defScope s_NoName___init__) .none kV_NoName___init__ dc_NoName___init__ pm_NoName___init__ an_NoName___init__ cd_NoName___init__ ct_NoName___init__), sl_NoName___init__⟩)
    (cd1_NoName___init__ : PySem.W.codeIn K cd_NoName___init__ "NoName.__init__" = true)
    (kp_NoName___init__ : PySem.W.keepIn K (.ref f_NoName___init__) = true)
    (l_Missing___init__ : K.lookup f_Missing___init__ = some ⟨oc_Missing___init__, od_Missing___init__, .func (PySem.W.fnOf "__init__" "Missing.__init__" (defArgs s_Missing___init__) (defBody s_Missing___init__) (defScope s_Missing___init__) .none kV_Missing___init__ dc_Missing___init__ pm_Missing___init__ an_Missing___init__ cd_Missing___init__ ct_Missing___init__), sl_Missing___init__⟩)
    (cd1_Missing___init__ : PySem.W.codeIn K cd_Missing___init__ "Missing.__init__" = true)
    (kp_Missing___init__ : PySem.W.keepIn K (.ref f_Missing___init__) = true)
    (l_NoSymbol___init__ : K.lookup f_NoSymbol___init__ = some ⟨oc_NoSymbol___init__, od_NoSymbol___init__, .func (PySem.W.fnOf "__init__" "NoSymbol.__init__" (defArgs s_NoSymbol___init__) (defBody s_NoSymbol___init__) (defScope s_NoSymbol___init__) .none kV_NoSymbol___init__ dc_NoSymbol___init__ pm_NoSymbol___init__ an_NoSymbol___init__ cd_NoSymbol___init__ ct_NoSymbol___init__), sl_NoSymbol___init__⟩)
    (cd1_NoSymbol___init__ : PySem.W.codeIn K cd_NoSymbol___init__ "NoSymbol.__init__" = true)
    (kp_NoSymbol___init__ : PySem.W.keepIn K (.ref f_NoSymbol___init__) = true)
    (l_NoPreloads___init__ : K.lookup f_NoPreloads___init__ = some ⟨oc_NoPreloads___init__, od_NoPreloads___init__, .func (PySem.W.fnOf "__init__" "NoPreloads.__init__" (defArgs s_NoPreloads___init__) (defBody s_NoPreloads___init__) (defScope s_NoPreloads___init__) .none kV_NoPreloads___init__ dc_NoPreloads___init__ pm_NoPreloads___init__ an_NoPreloads___init__ cd_NoPreloads___init__ ct_NoPreloads___init__), sl_NoPreloads___init__⟩)
    (cd1_NoPreloads___init__ : PySem.W.codeIn K cd_NoPreloads___init__ "NoPreloads.__init__" = true)
    (kp_NoPreloads___init__ : PySem.W.keepIn K (.ref f_NoPreloads___init__) = true)
    (l_NotLoaded___init__ : K.lookup f_NotLoaded___init__ = some ⟨oc_NotLoaded___init__, od_NotLoaded___init__, .func (PySem.W.fnOf "__init__" "NotLoaded.__init__" (defArgs s_NotLoaded___init__) (defBody s_NotLoaded___init__) (defScope s_NotLoaded___init__) .none kV_NotLoaded___init__ dc_NotLoaded___init__ pm_NotLoaded___init__ an_NotLoaded___init__ cd_NotLoaded___init__ ct_NotLoaded___init__), sl_NotLoaded___init__⟩)
    (cd1_NotLoaded___init__ : PySem.W.codeIn K cd_NotLoaded___init__ "NotLoaded.__init__" = true)
    (kp_NotLoaded___init__ : PySem.W.keepIn K (.ref f_NotLoaded___init__) = true)
    (l_NotUsed___init__ : K.lookup f_NotUsed___init__ = some ⟨oc_NotUsed___init__, od_NotUsed___init__, .func (PySem.W.fnOf "__init__" "NotUsed.__init__" (defArgs s_NotUsed___init__) (defBody s_NotUsed___init__) (defScope s_NotUsed___init__) .none kV_NotUsed___init__ dc_NotUsed___init__ pm_NotUsed___init__ an_NotUsed___init__ cd_NotUsed___init__ ct_NotUsed___init__), sl_NotUsed___init__⟩)
    (cd1_NotUsed___init__ : PySem.W.codeIn K cd_NotUsed___init__ "NotUsed.__init__" = true)
    (kp_NotUsed___init__ : PySem.W.keepIn K (.ref f_NotUsed___init__) = true)
    (l_Unresolved___init__ : K.lookup f_Unresolved___init__ = some ⟨oc_Unresolved___init__, od_Unresolved___init__, .func (PySem.W.fnOf "__init__" "Unresolved.__init__" (defArgs s_Unresolved___init__) (defBody s_Unresolved___init__) (defScope s_Unresolved___init__) .none kV_Unresolved___init__ dc_Unresolved___init__ pm_Unresolved___init__ an_Unresolved___init__ cd_Unresolved___init__ ct_Unresolved___init__), sl_Unresolved___init__⟩)
    (cd1_Unresolved___init__ : PySem.W.codeIn K cd_Unresolved___init__ "Unresolved.__init__" = true)
    (kp_Unresolved___init__ : PySem.W.keepIn K (.ref f_Unresolved___init__) = true)
    (l_NoHandle___init__ : K.lookup f_NoHandle___init__ = some ⟨oc_NoHandle___init__, od_NoHandle___init__, .func (PySem.W.fnOf "__init__" "NoHandle.__init__" (defArgs s_NoHandle___init__) (defBody s_NoHandle___init__) (defScope s_NoHandle___init__) .none kV_NoHandle___init__ dc_NoHandle___init__ pm_NoHandle___init__ an_NoHandle___init__ cd_NoHandle___init__ ct_NoHandle___init__), sl_NoHandle___init__⟩)
    (cd1_NoHandle___init__ : PySem.W.codeIn K cd_NoHandle___init__ "NoHandle.__init__" = true)
    (kp_NoHandle___init__ : PySem.W.keepIn K (.ref f_NoHandle___init__) = true)
    (l_NoWishes___init__ : K.lookup f_NoWishes___init__ = some ⟨oc_NoWishes___init__, od_NoWishes___init__, .func (PySem.W.fnOf "__init__" "NoWishes.__init__" (defArgs s_NoWishes___init__) (defBody s_NoWishes___init__) (defScope s_NoWishes___init__) .none kV_NoWishes___init__ dc_NoWishes___init__ pm_NoWishes___init__ an_NoWishes___init__ cd_NoWishes___init__ ct_NoWishes___init__), sl_NoWishes___init__⟩)
    (cd1_NoWishes___init__ : PySem.W.codeIn K cd_NoWishes___init__ "NoWishes.__init__" = true)
    (kp_NoWishes___init__ : PySem.W.keepIn K (.ref f_NoWishes___init__) = true)
    (l__law_well : K.lookup f__law_well = some ⟨oc__law_well, od__law_well, .func (PySem.W.fnOf "_law_well" "_law_well" (defArgs s__law_well) (defBody s__law_well) (defScope s__law_well) .none kV__law_well dc__law_well pm__law_well an__law_well cd__law_well ct__law_well), sl__law_well⟩)
    (cd1__law_well : PySem.W.codeIn K cd__law_well "_law_well" = true)
    (kp__law_well : PySem.W.keepIn K (.ref f__law_well) = true)
    (l__law_draw : K.lookup f__law_draw = some ⟨oc__law_draw, od__law_draw, .func (PySem.W.fnOf "_law_draw" "_law_draw" (defArgs s__law_draw) (defBody s__law_draw) (defScope s__law_draw) .none kV__law_draw dc__law_draw pm__law_draw an__law_draw cd__law_draw ct__law_draw), sl__law_draw⟩)
    (cd1__law_draw : PySem.W.codeIn K cd__law_draw "_law_draw" = true)
    (kp__law_draw : PySem.W.keepIn K (.ref f__law_draw) = true)
    (l__law_one : K.lookup f__law_one = some ⟨oc__law_one, od__law_one, .func (PySem.W.fnOf "_law_one" "_law_one" (defArgs s__law_one) (defBody s__law_one) (defScope s__law_one) .none kV__law_one dc__law_one pm__law_one an__law_one cd__law_one ct__law_one), sl__law_one⟩)
    (cd1__law_one : PySem.W.codeIn K cd__law_one "_law_one" = true)
    (kp__law_one : PySem.W.keepIn K (.ref f__law_one) = true)
    (l__law_errors : K.lookup f__law_errors = some ⟨oc__law_errors, od__law_errors, .func (PySem.W.fnOf "_law_errors" "_law_errors" (defArgs s__law_errors) (defBody s__law_errors) (defScope s__law_errors) .none kV__law_errors dc__law_errors pm__law_errors an__law_errors cd__law_errors ct__law_errors), sl__law_errors⟩)
    (cd1__law_errors : PySem.W.codeIn K cd__law_errors "_law_errors" = true)
    (kp__law_errors : PySem.W.keepIn K (.ref f__law_errors) = true)
    (l__law_kinds : K.lookup f__law_kinds = some ⟨oc__law_kinds, od__law_kinds, .func (PySem.W.fnOf "_law_kinds" "_law_kinds" (defArgs s__law_kinds) (defBody s__law_kinds) (defScope s__law_kinds) .none kV__law_kinds dc__law_kinds pm__law_kinds an__law_kinds cd__law_kinds ct__law_kinds), sl__law_kinds⟩)
    (cd1__law_kinds : PySem.W.codeIn K cd__law_kinds "_law_kinds" = true)
    (kp__law_kinds : PySem.W.keepIn K (.ref f__law_kinds) = true)
    (l_law : K.lookup f_law = some ⟨oc_law, od_law, .func (PySem.W.fnOf "law" "law" (defArgs s_law) (defBody s_law) (defScope s_law) .none kV_law dc_law pm_law an_law cd_law ct_law), sl_law⟩)
    (cd1_law : PySem.W.codeIn K cd_law "law" = true)
    (kp_law : PySem.W.keepIn K (.ref f_law) = true)
    (z_ValueError : PySem.W.nsIn K mainGlobals "ValueError" = some none)
    (z_bool : PySem.W.nsIn K mainGlobals "bool" = some none)
    (z_enumerate : PySem.W.nsIn K mainGlobals "enumerate" = some none)
    (z_int : PySem.W.nsIn K mainGlobals "int" = some none)
    (z_isinstance : PySem.W.nsIn K mainGlobals "isinstance" = some none)
    (z_len : PySem.W.nsIn K mainGlobals "len" = some none)
    (z_list : PySem.W.nsIn K mainGlobals "list" = some none)
    (z_range : PySem.W.nsIn K mainGlobals "range" = some none)
    (ld_ga : PySem.W.specialIn K (.ref C_LoadError) "__getattribute__" = some (some (.builtin "type.__getattribute__")))
    (ld_rd : PySem.W.readsIn K C_LoadError (.type "type") = true)
    (ld_fc : PySem.W.findCls K (.ref C_LoadError) (.type "type") "__init__" = some (.val (.builtin "ValueError.__init__")))
    (xl_NoLibrary : K.lookup C_NoLibrary = some (excClassObj nm_NoLibrary q_NoLibrary C_NoLibrary N_NoLibrary bs_NoLibrary bm_NoLibrary true sn_NoLibrary sub_NoLibrary ab_NoLibrary co_NoLibrary dd_NoLibrary m0_NoLibrary m1_NoLibrary m2_NoLibrary m3_NoLibrary m5_NoLibrary "ValueError.__new__"))
    (rb_NoLibrary : PySem.HandSPX.refsVE bm_NoLibrary = true)
    (sa_NoLibrary : PySem.W.findIn K (.ref C_NoLibrary) "__setattr__" = some (some (.builtin "object.__setattr__")))
    (eC_NoLibrary : PySem.W.subIn K (.ref C_NoLibrary) (.type "BaseException") = some true)
    (tC_NoLibrary : PySem.W.typeIn K (.ref C_NoLibrary) = some (.type "type"))
    (kC_NoLibrary : PySem.W.keepIn K (.ref C_NoLibrary) = true)
    (ti_NoLibrary : PySem.W.typeIn K (.ref f_NoLibrary___init__) = some (.type "function"))
    (nb_NoLibrary : PySem.W.findIn K (.ref C_NoLibrary) "part" = some none)
    (ga_NoLibrary : PySem.W.findIn K (.ref C_NoLibrary) "__getattribute__" = some (some (.builtin "BaseException.__getattribute__")))
    (gg_NoLibrary : PySem.W.findIn K (.ref C_NoLibrary) "__getattr__" = some none)
    (hd_NoLibrary : PySem.W.hasDictIn K C_NoLibrary = true)
    (te_NoLibrary : PySem.W.subIn K (.ref C_NoLibrary) (.ref C_NoLibrary) = some true)
    (ic_NoLibrary : PySem.W.isClsIn K C_NoLibrary = true)
    (xl_NoStore : K.lookup C_NoStore = some (excClassObj nm_NoStore q_NoStore C_NoStore N_NoStore bs_NoStore bm_NoStore true sn_NoStore sub_NoStore ab_NoStore co_NoStore dd_NoStore m0_NoStore m1_NoStore m2_NoStore m3_NoStore m5_NoStore "ValueError.__new__"))
    (rb_NoStore : PySem.HandSPX.refsVE bm_NoStore = true)
    (sa_NoStore : PySem.W.findIn K (.ref C_NoStore) "__setattr__" = some (some (.builtin "object.__setattr__")))
    (eC_NoStore : PySem.W.subIn K (.ref C_NoStore) (.type "BaseException") = some true)
    (tC_NoStore : PySem.W.typeIn K (.ref C_NoStore) = some (.type "type"))
    (kC_NoStore : PySem.W.keepIn K (.ref C_NoStore) = true)
    (ti_NoStore : PySem.W.typeIn K (.ref f_NoStore___init__) = some (.type "function"))
    (nb_NoStore : PySem.W.findIn K (.ref C_NoStore) "at" = some none)
    (ga_NoStore : PySem.W.findIn K (.ref C_NoStore) "__getattribute__" = some (some (.builtin "BaseException.__getattribute__")))
    (gg_NoStore : PySem.W.findIn K (.ref C_NoStore) "__getattr__" = some none)
    (hd_NoStore : PySem.W.hasDictIn K C_NoStore = true)
    (te_NoStore : PySem.W.subIn K (.ref C_NoStore) (.ref C_NoStore) = some true)
    (ic_NoStore : PySem.W.isClsIn K C_NoStore = true)
    (xl_NoName : K.lookup C_NoName = some (excClassObj nm_NoName q_NoName C_NoName N_NoName bs_NoName bm_NoName true sn_NoName sub_NoName ab_NoName co_NoName dd_NoName m0_NoName m1_NoName m2_NoName m3_NoName m5_NoName "ValueError.__new__"))
    (rb_NoName : PySem.HandSPX.refsVE bm_NoName = true)
    (sa_NoName : PySem.W.findIn K (.ref C_NoName) "__setattr__" = some (some (.builtin "object.__setattr__")))
    (eC_NoName : PySem.W.subIn K (.ref C_NoName) (.type "BaseException") = some true)
    (tC_NoName : PySem.W.typeIn K (.ref C_NoName) = some (.type "type"))
    (kC_NoName : PySem.W.keepIn K (.ref C_NoName) = true)
    (ti_NoName : PySem.W.typeIn K (.ref f_NoName___init__) = some (.type "function"))
    (nb_NoName : PySem.W.findIn K (.ref C_NoName) "name" = some none)
    (ga_NoName : PySem.W.findIn K (.ref C_NoName) "__getattribute__" = some (some (.builtin "BaseException.__getattribute__")))
    (gg_NoName : PySem.W.findIn K (.ref C_NoName) "__getattr__" = some none)
    (hd_NoName : PySem.W.hasDictIn K C_NoName = true)
    (te_NoName : PySem.W.subIn K (.ref C_NoName) (.ref C_NoName) = some true)
    (ic_NoName : PySem.W.isClsIn K C_NoName = true)
    (xl_Missing : K.lookup C_Missing = some (excClassObj nm_Missing q_Missing C_Missing N_Missing bs_Missing bm_Missing true sn_Missing sub_Missing ab_Missing co_Missing dd_Missing m0_Missing m1_Missing m2_Missing m3_Missing m5_Missing "ValueError.__new__"))
    (rb_Missing : PySem.HandSPX.refsVE bm_Missing = true)
    (sa_Missing : PySem.W.findIn K (.ref C_Missing) "__setattr__" = some (some (.builtin "object.__setattr__")))
    (eC_Missing : PySem.W.subIn K (.ref C_Missing) (.type "BaseException") = some true)
    (tC_Missing : PySem.W.typeIn K (.ref C_Missing) = some (.type "type"))
    (kC_Missing : PySem.W.keepIn K (.ref C_Missing) = true)
    (ti_Missing : PySem.W.typeIn K (.ref f_Missing___init__) = some (.type "function"))
    (nb_Missing : PySem.W.findIn K (.ref C_Missing) "name" = some none)
    (ga_Missing : PySem.W.findIn K (.ref C_Missing) "__getattribute__" = some (some (.builtin "BaseException.__getattribute__")))
    (gg_Missing : PySem.W.findIn K (.ref C_Missing) "__getattr__" = some none)
    (hd_Missing : PySem.W.hasDictIn K C_Missing = true)
    (te_Missing : PySem.W.subIn K (.ref C_Missing) (.ref C_Missing) = some true)
    (ic_Missing : PySem.W.isClsIn K C_Missing = true)
    (xl_NoSymbol : K.lookup C_NoSymbol = some (excClassObj nm_NoSymbol q_NoSymbol C_NoSymbol N_NoSymbol bs_NoSymbol bm_NoSymbol true sn_NoSymbol sub_NoSymbol ab_NoSymbol co_NoSymbol dd_NoSymbol m0_NoSymbol m1_NoSymbol m2_NoSymbol m3_NoSymbol m5_NoSymbol "ValueError.__new__"))
    (rb_NoSymbol : PySem.HandSPX.refsVE bm_NoSymbol = true)
    (sa_NoSymbol : PySem.W.findIn K (.ref C_NoSymbol) "__setattr__" = some (some (.builtin "object.__setattr__")))
    (eC_NoSymbol : PySem.W.subIn K (.ref C_NoSymbol) (.type "BaseException") = some true)
    (tC_NoSymbol : PySem.W.typeIn K (.ref C_NoSymbol) = some (.type "type"))
    (kC_NoSymbol : PySem.W.keepIn K (.ref C_NoSymbol) = true)
    (ti_NoSymbol : PySem.W.typeIn K (.ref f_NoSymbol___init__) = some (.type "function"))
    (nb_NoSymbol : PySem.W.findIn K (.ref C_NoSymbol) "symbol" = some none)
    (ga_NoSymbol : PySem.W.findIn K (.ref C_NoSymbol) "__getattribute__" = some (some (.builtin "BaseException.__getattribute__")))
    (gg_NoSymbol : PySem.W.findIn K (.ref C_NoSymbol) "__getattr__" = some none)
    (hd_NoSymbol : PySem.W.hasDictIn K C_NoSymbol = true)
    (te_NoSymbol : PySem.W.subIn K (.ref C_NoSymbol) (.ref C_NoSymbol) = some true)
    (ic_NoSymbol : PySem.W.isClsIn K C_NoSymbol = true)
    (xl_NoPreloads : K.lookup C_NoPreloads = some (excClassObj nm_NoPreloads q_NoPreloads C_NoPreloads N_NoPreloads bs_NoPreloads bm_NoPreloads true sn_NoPreloads sub_NoPreloads ab_NoPreloads co_NoPreloads dd_NoPreloads m0_NoPreloads m1_NoPreloads m2_NoPreloads m3_NoPreloads m5_NoPreloads "ValueError.__new__"))
    (rb_NoPreloads : PySem.HandSPX.refsVE bm_NoPreloads = true)
    (sa_NoPreloads : PySem.W.findIn K (.ref C_NoPreloads) "__setattr__" = some (some (.builtin "object.__setattr__")))
    (eC_NoPreloads : PySem.W.subIn K (.ref C_NoPreloads) (.type "BaseException") = some true)
    (tC_NoPreloads : PySem.W.typeIn K (.ref C_NoPreloads) = some (.type "type"))
    (kC_NoPreloads : PySem.W.keepIn K (.ref C_NoPreloads) = true)
    (ti_NoPreloads : PySem.W.typeIn K (.ref f_NoPreloads___init__) = some (.type "function"))
    (nb_NoPreloads : PySem.W.findIn K (.ref C_NoPreloads) "at" = some none)
    (ga_NoPreloads : PySem.W.findIn K (.ref C_NoPreloads) "__getattribute__" = some (some (.builtin "BaseException.__getattribute__")))
    (gg_NoPreloads : PySem.W.findIn K (.ref C_NoPreloads) "__getattr__" = some none)
    (hd_NoPreloads : PySem.W.hasDictIn K C_NoPreloads = true)
    (te_NoPreloads : PySem.W.subIn K (.ref C_NoPreloads) (.ref C_NoPreloads) = some true)
    (ic_NoPreloads : PySem.W.isClsIn K C_NoPreloads = true)
    (xl_NotLoaded : K.lookup C_NotLoaded = some (excClassObj nm_NotLoaded q_NotLoaded C_NotLoaded N_NotLoaded bs_NotLoaded bm_NotLoaded true sn_NotLoaded sub_NotLoaded ab_NotLoaded co_NotLoaded dd_NotLoaded m0_NotLoaded m1_NotLoaded m2_NotLoaded m3_NotLoaded m5_NotLoaded "ValueError.__new__"))
    (rb_NotLoaded : PySem.HandSPX.refsVE bm_NotLoaded = true)
    (sa_NotLoaded : PySem.W.findIn K (.ref C_NotLoaded) "__setattr__" = some (some (.builtin "object.__setattr__")))
    (eC_NotLoaded : PySem.W.subIn K (.ref C_NotLoaded) (.type "BaseException") = some true)
    (tC_NotLoaded : PySem.W.typeIn K (.ref C_NotLoaded) = some (.type "type"))
    (kC_NotLoaded : PySem.W.keepIn K (.ref C_NotLoaded) = true)
    (ti_NotLoaded : PySem.W.typeIn K (.ref f_NotLoaded___init__) = some (.type "function"))
    (nb_NotLoaded : PySem.W.findIn K (.ref C_NotLoaded) "name" = some none)
    (ga_NotLoaded : PySem.W.findIn K (.ref C_NotLoaded) "__getattribute__" = some (some (.builtin "BaseException.__getattribute__")))
    (gg_NotLoaded : PySem.W.findIn K (.ref C_NotLoaded) "__getattr__" = some none)
    (hd_NotLoaded : PySem.W.hasDictIn K C_NotLoaded = true)
    (te_NotLoaded : PySem.W.subIn K (.ref C_NotLoaded) (.ref C_NotLoaded) = some true)
    (ic_NotLoaded : PySem.W.isClsIn K C_NotLoaded = true)
    (xl_NotUsed : K.lookup C_NotUsed = some (excClassObj nm_NotUsed q_NotUsed C_NotUsed N_NotUsed bs_NotUsed bm_NotUsed true sn_NotUsed sub_NotUsed ab_NotUsed co_NotUsed dd_NotUsed m0_NotUsed m1_NotUsed m2_NotUsed m3_NotUsed m5_NotUsed "ValueError.__new__"))
    (rb_NotUsed : PySem.HandSPX.refsVE bm_NotUsed = true)
    (sa_NotUsed : PySem.W.findIn K (.ref C_NotUsed) "__setattr__" = some (some (.builtin "object.__setattr__")))
    (eC_NotUsed : PySem.W.subIn K (.ref C_NotUsed) (.type "BaseException") = some true)
    (tC_NotUsed : PySem.W.typeIn K (.ref C_NotUsed) = some (.type "type"))
    (kC_NotUsed : PySem.W.keepIn K (.ref C_NotUsed) = true)
    (ti_NotUsed : PySem.W.typeIn K (.ref f_NotUsed___init__) = some (.type "function"))
    (nb_NotUsed : PySem.W.findIn K (.ref C_NotUsed) "symbol" = some none)
    (ga_NotUsed : PySem.W.findIn K (.ref C_NotUsed) "__getattribute__" = some (some (.builtin "BaseException.__getattribute__")))
    (gg_NotUsed : PySem.W.findIn K (.ref C_NotUsed) "__getattr__" = some none)
    (hd_NotUsed : PySem.W.hasDictIn K C_NotUsed = true)
    (te_NotUsed : PySem.W.subIn K (.ref C_NotUsed) (.ref C_NotUsed) = some true)
    (ic_NotUsed : PySem.W.isClsIn K C_NotUsed = true)
    (xl_Unresolved : K.lookup C_Unresolved = some (excClassObj nm_Unresolved q_Unresolved C_Unresolved N_Unresolved bs_Unresolved bm_Unresolved true sn_Unresolved sub_Unresolved ab_Unresolved co_Unresolved dd_Unresolved m0_Unresolved m1_Unresolved m2_Unresolved m3_Unresolved m5_Unresolved "ValueError.__new__"))
    (rb_Unresolved : PySem.HandSPX.refsVE bm_Unresolved = true)
    (sa_Unresolved : PySem.W.findIn K (.ref C_Unresolved) "__setattr__" = some (some (.builtin "object.__setattr__")))
    (eC_Unresolved : PySem.W.subIn K (.ref C_Unresolved) (.type "BaseException") = some true)
    (tC_Unresolved : PySem.W.typeIn K (.ref C_Unresolved) = some (.type "type"))
    (kC_Unresolved : PySem.W.keepIn K (.ref C_Unresolved) = true)
    (ti_Unresolved : PySem.W.typeIn K (.ref f_Unresolved___init__) = some (.type "function"))
    (nb_Unresolved : PySem.W.findIn K (.ref C_Unresolved) "use" = some none)
    (ga_Unresolved : PySem.W.findIn K (.ref C_Unresolved) "__getattribute__" = some (some (.builtin "BaseException.__getattribute__")))
    (gg_Unresolved : PySem.W.findIn K (.ref C_Unresolved) "__getattr__" = some none)
    (hd_Unresolved : PySem.W.hasDictIn K C_Unresolved = true)
    (te_Unresolved : PySem.W.subIn K (.ref C_Unresolved) (.ref C_Unresolved) = some true)
    (ic_Unresolved : PySem.W.isClsIn K C_Unresolved = true)
    (xl_NoHandle : K.lookup C_NoHandle = some (excClassObj nm_NoHandle q_NoHandle C_NoHandle N_NoHandle bs_NoHandle bm_NoHandle true sn_NoHandle sub_NoHandle ab_NoHandle co_NoHandle dd_NoHandle m0_NoHandle m1_NoHandle m2_NoHandle m3_NoHandle m5_NoHandle "ValueError.__new__"))
    (rb_NoHandle : PySem.HandSPX.refsVE bm_NoHandle = true)
    (sa_NoHandle : PySem.W.findIn K (.ref C_NoHandle) "__setattr__" = some (some (.builtin "object.__setattr__")))
    (eC_NoHandle : PySem.W.subIn K (.ref C_NoHandle) (.type "BaseException") = some true)
    (tC_NoHandle : PySem.W.typeIn K (.ref C_NoHandle) = some (.type "type"))
    (kC_NoHandle : PySem.W.keepIn K (.ref C_NoHandle) = true)
    (ti_NoHandle : PySem.W.typeIn K (.ref f_NoHandle___init__) = some (.type "function"))
    (nb_NoHandle : PySem.W.findIn K (.ref C_NoHandle) "handle" = some none)
    (ga_NoHandle : PySem.W.findIn K (.ref C_NoHandle) "__getattribute__" = some (some (.builtin "BaseException.__getattribute__")))
    (gg_NoHandle : PySem.W.findIn K (.ref C_NoHandle) "__getattr__" = some none)
    (hd_NoHandle : PySem.W.hasDictIn K C_NoHandle = true)
    (te_NoHandle : PySem.W.subIn K (.ref C_NoHandle) (.ref C_NoHandle) = some true)
    (ic_NoHandle : PySem.W.isClsIn K C_NoHandle = true)
    (xl_NoWishes : K.lookup C_NoWishes = some (excClassObj nm_NoWishes q_NoWishes C_NoWishes N_NoWishes bs_NoWishes bm_NoWishes true sn_NoWishes sub_NoWishes ab_NoWishes co_NoWishes dd_NoWishes m0_NoWishes m1_NoWishes m2_NoWishes m3_NoWishes m5_NoWishes "ValueError.__new__"))
    (rb_NoWishes : PySem.HandSPX.refsVE bm_NoWishes = true)
    (sa_NoWishes : PySem.W.findIn K (.ref C_NoWishes) "__setattr__" = some (some (.builtin "object.__setattr__")))
    (eC_NoWishes : PySem.W.subIn K (.ref C_NoWishes) (.type "BaseException") = some true)
    (tC_NoWishes : PySem.W.typeIn K (.ref C_NoWishes) = some (.type "type"))
    (kC_NoWishes : PySem.W.keepIn K (.ref C_NoWishes) = true)
    (ti_NoWishes : PySem.W.typeIn K (.ref f_NoWishes___init__) = some (.type "function"))
    (nb_NoWishes : PySem.W.findIn K (.ref C_NoWishes) "symbol" = some none)
    (ga_NoWishes : PySem.W.findIn K (.ref C_NoWishes) "__getattribute__" = some (some (.builtin "BaseException.__getattribute__")))
    (gg_NoWishes : PySem.W.findIn K (.ref C_NoWishes) "__getattr__" = some none)
    (hd_NoWishes : PySem.W.hasDictIn K C_NoWishes = true)
    (te_NoWishes : PySem.W.subIn K (.ref C_NoWishes) (.ref C_NoWishes) = some true)
    (ic_NoWishes : PySem.W.isClsIn K C_NoWishes = true)
    (x_s_0_1 : PySem.W.subIn K (.ref C_NoLibrary) (.ref C_NoStore) = some false)
    (x_s_0_2 : PySem.W.subIn K (.ref C_NoLibrary) (.ref C_NoName) = some false)
    (x_s_0_3 : PySem.W.subIn K (.ref C_NoLibrary) (.ref C_Missing) = some false)
    (x_s_0_4 : PySem.W.subIn K (.ref C_NoLibrary) (.ref C_NoSymbol) = some false)
    (x_s_0_5 : PySem.W.subIn K (.ref C_NoLibrary) (.ref C_NoPreloads) = some false)
    (x_s_0_6 : PySem.W.subIn K (.ref C_NoLibrary) (.ref C_NotLoaded) = some false)
    (x_s_0_7 : PySem.W.subIn K (.ref C_NoLibrary) (.ref C_NotUsed) = some false)
    (x_s_0_8 : PySem.W.subIn K (.ref C_NoLibrary) (.ref C_Unresolved) = some false)
    (x_s_0_9 : PySem.W.subIn K (.ref C_NoLibrary) (.ref C_NoHandle) = some false)
    (x_s_0_10 : PySem.W.subIn K (.ref C_NoLibrary) (.ref C_NoWishes) = some false)
    (x_s_1_0 : PySem.W.subIn K (.ref C_NoStore) (.ref C_NoLibrary) = some false)
    (x_s_1_2 : PySem.W.subIn K (.ref C_NoStore) (.ref C_NoName) = some false)
    (x_s_1_3 : PySem.W.subIn K (.ref C_NoStore) (.ref C_Missing) = some false)
    (x_s_1_4 : PySem.W.subIn K (.ref C_NoStore) (.ref C_NoSymbol) = some false)
    (x_s_1_5 : PySem.W.subIn K (.ref C_NoStore) (.ref C_NoPreloads) = some false)
    (x_s_1_6 : PySem.W.subIn K (.ref C_NoStore) (.ref C_NotLoaded) = some false)
    (x_s_1_7 : PySem.W.subIn K (.ref C_NoStore) (.ref C_NotUsed) = some false)
    (x_s_1_8 : PySem.W.subIn K (.ref C_NoStore) (.ref C_Unresolved) = some false)
    (x_s_1_9 : PySem.W.subIn K (.ref C_NoStore) (.ref C_NoHandle) = some false)
    (x_s_1_10 : PySem.W.subIn K (.ref C_NoStore) (.ref C_NoWishes) = some false)
    (x_s_2_0 : PySem.W.subIn K (.ref C_NoName) (.ref C_NoLibrary) = some false)
    (x_s_2_1 : PySem.W.subIn K (.ref C_NoName) (.ref C_NoStore) = some false)
    (x_s_2_3 : PySem.W.subIn K (.ref C_NoName) (.ref C_Missing) = some false)
    (x_s_2_4 : PySem.W.subIn K (.ref C_NoName) (.ref C_NoSymbol) = some false)
    (x_s_2_5 : PySem.W.subIn K (.ref C_NoName) (.ref C_NoPreloads) = some false)
    (x_s_2_6 : PySem.W.subIn K (.ref C_NoName) (.ref C_NotLoaded) = some false)
    (x_s_2_7 : PySem.W.subIn K (.ref C_NoName) (.ref C_NotUsed) = some false)
    (x_s_2_8 : PySem.W.subIn K (.ref C_NoName) (.ref C_Unresolved) = some false)
    (x_s_2_9 : PySem.W.subIn K (.ref C_NoName) (.ref C_NoHandle) = some false)
    (x_s_2_10 : PySem.W.subIn K (.ref C_NoName) (.ref C_NoWishes) = some false)
    (x_s_3_0 : PySem.W.subIn K (.ref C_Missing) (.ref C_NoLibrary) = some false)
    (x_s_3_1 : PySem.W.subIn K (.ref C_Missing) (.ref C_NoStore) = some false)
    (x_s_3_2 : PySem.W.subIn K (.ref C_Missing) (.ref C_NoName) = some false)
    (x_s_3_4 : PySem.W.subIn K (.ref C_Missing) (.ref C_NoSymbol) = some false)
    (x_s_3_5 : PySem.W.subIn K (.ref C_Missing) (.ref C_NoPreloads) = some false)
    (x_s_3_6 : PySem.W.subIn K (.ref C_Missing) (.ref C_NotLoaded) = some false)
    (x_s_3_7 : PySem.W.subIn K (.ref C_Missing) (.ref C_NotUsed) = some false)
    (x_s_3_8 : PySem.W.subIn K (.ref C_Missing) (.ref C_Unresolved) = some false)
    (x_s_3_9 : PySem.W.subIn K (.ref C_Missing) (.ref C_NoHandle) = some false)
    (x_s_3_10 : PySem.W.subIn K (.ref C_Missing) (.ref C_NoWishes) = some false)
    (x_s_4_0 : PySem.W.subIn K (.ref C_NoSymbol) (.ref C_NoLibrary) = some false)
    (x_s_4_1 : PySem.W.subIn K (.ref C_NoSymbol) (.ref C_NoStore) = some false)
    (x_s_4_2 : PySem.W.subIn K (.ref C_NoSymbol) (.ref C_NoName) = some false)
    (x_s_4_3 : PySem.W.subIn K (.ref C_NoSymbol) (.ref C_Missing) = some false)
    (x_s_4_5 : PySem.W.subIn K (.ref C_NoSymbol) (.ref C_NoPreloads) = some false)
    (x_s_4_6 : PySem.W.subIn K (.ref C_NoSymbol) (.ref C_NotLoaded) = some false)
    (x_s_4_7 : PySem.W.subIn K (.ref C_NoSymbol) (.ref C_NotUsed) = some false)
    (x_s_4_8 : PySem.W.subIn K (.ref C_NoSymbol) (.ref C_Unresolved) = some false)
    (x_s_4_9 : PySem.W.subIn K (.ref C_NoSymbol) (.ref C_NoHandle) = some false)
    (x_s_4_10 : PySem.W.subIn K (.ref C_NoSymbol) (.ref C_NoWishes) = some false)
    (x_s_5_0 : PySem.W.subIn K (.ref C_NoPreloads) (.ref C_NoLibrary) = some false)
    (x_s_5_1 : PySem.W.subIn K (.ref C_NoPreloads) (.ref C_NoStore) = some false)
    (x_s_5_2 : PySem.W.subIn K (.ref C_NoPreloads) (.ref C_NoName) = some false)
    (x_s_5_3 : PySem.W.subIn K (.ref C_NoPreloads) (.ref C_Missing) = some false)
    (x_s_5_4 : PySem.W.subIn K (.ref C_NoPreloads) (.ref C_NoSymbol) = some false)
    (x_s_5_6 : PySem.W.subIn K (.ref C_NoPreloads) (.ref C_NotLoaded) = some false)
    (x_s_5_7 : PySem.W.subIn K (.ref C_NoPreloads) (.ref C_NotUsed) = some false)
    (x_s_5_8 : PySem.W.subIn K (.ref C_NoPreloads) (.ref C_Unresolved) = some false)
    (x_s_5_9 : PySem.W.subIn K (.ref C_NoPreloads) (.ref C_NoHandle) = some false)
    (x_s_5_10 : PySem.W.subIn K (.ref C_NoPreloads) (.ref C_NoWishes) = some false)
    (x_s_6_0 : PySem.W.subIn K (.ref C_NotLoaded) (.ref C_NoLibrary) = some false)
    (x_s_6_1 : PySem.W.subIn K (.ref C_NotLoaded) (.ref C_NoStore) = some false)
    (x_s_6_2 : PySem.W.subIn K (.ref C_NotLoaded) (.ref C_NoName) = some false)
    (x_s_6_3 : PySem.W.subIn K (.ref C_NotLoaded) (.ref C_Missing) = some false)
    (x_s_6_4 : PySem.W.subIn K (.ref C_NotLoaded) (.ref C_NoSymbol) = some false)
    (x_s_6_5 : PySem.W.subIn K (.ref C_NotLoaded) (.ref C_NoPreloads) = some false)
    (x_s_6_7 : PySem.W.subIn K (.ref C_NotLoaded) (.ref C_NotUsed) = some false)
    (x_s_6_8 : PySem.W.subIn K (.ref C_NotLoaded) (.ref C_Unresolved) = some false)
    (x_s_6_9 : PySem.W.subIn K (.ref C_NotLoaded) (.ref C_NoHandle) = some false)
    (x_s_6_10 : PySem.W.subIn K (.ref C_NotLoaded) (.ref C_NoWishes) = some false)
    (x_s_7_0 : PySem.W.subIn K (.ref C_NotUsed) (.ref C_NoLibrary) = some false)
    (x_s_7_1 : PySem.W.subIn K (.ref C_NotUsed) (.ref C_NoStore) = some false)
    (x_s_7_2 : PySem.W.subIn K (.ref C_NotUsed) (.ref C_NoName) = some false)
    (x_s_7_3 : PySem.W.subIn K (.ref C_NotUsed) (.ref C_Missing) = some false)
    (x_s_7_4 : PySem.W.subIn K (.ref C_NotUsed) (.ref C_NoSymbol) = some false)
    (x_s_7_5 : PySem.W.subIn K (.ref C_NotUsed) (.ref C_NoPreloads) = some false)
    (x_s_7_6 : PySem.W.subIn K (.ref C_NotUsed) (.ref C_NotLoaded) = some false)
    (x_s_7_8 : PySem.W.subIn K (.ref C_NotUsed) (.ref C_Unresolved) = some false)
    (x_s_7_9 : PySem.W.subIn K (.ref C_NotUsed) (.ref C_NoHandle) = some false)
    (x_s_7_10 : PySem.W.subIn K (.ref C_NotUsed) (.ref C_NoWishes) = some false)
    (x_s_8_0 : PySem.W.subIn K (.ref C_Unresolved) (.ref C_NoLibrary) = some false)
    (x_s_8_1 : PySem.W.subIn K (.ref C_Unresolved) (.ref C_NoStore) = some false)
    (x_s_8_2 : PySem.W.subIn K (.ref C_Unresolved) (.ref C_NoName) = some false)
    (x_s_8_3 : PySem.W.subIn K (.ref C_Unresolved) (.ref C_Missing) = some false)
    (x_s_8_4 : PySem.W.subIn K (.ref C_Unresolved) (.ref C_NoSymbol) = some false)
    (x_s_8_5 : PySem.W.subIn K (.ref C_Unresolved) (.ref C_NoPreloads) = some false)
    (x_s_8_6 : PySem.W.subIn K (.ref C_Unresolved) (.ref C_NotLoaded) = some false)
    (x_s_8_7 : PySem.W.subIn K (.ref C_Unresolved) (.ref C_NotUsed) = some false)
    (x_s_8_9 : PySem.W.subIn K (.ref C_Unresolved) (.ref C_NoHandle) = some false)
    (x_s_8_10 : PySem.W.subIn K (.ref C_Unresolved) (.ref C_NoWishes) = some false)
    (x_s_9_0 : PySem.W.subIn K (.ref C_NoHandle) (.ref C_NoLibrary) = some false)
    (x_s_9_1 : PySem.W.subIn K (.ref C_NoHandle) (.ref C_NoStore) = some false)
    (x_s_9_2 : PySem.W.subIn K (.ref C_NoHandle) (.ref C_NoName) = some false)
    (x_s_9_3 : PySem.W.subIn K (.ref C_NoHandle) (.ref C_Missing) = some false)
    (x_s_9_4 : PySem.W.subIn K (.ref C_NoHandle) (.ref C_NoSymbol) = some false)
    (x_s_9_5 : PySem.W.subIn K (.ref C_NoHandle) (.ref C_NoPreloads) = some false)
    (x_s_9_6 : PySem.W.subIn K (.ref C_NoHandle) (.ref C_NotLoaded) = some false)
    (x_s_9_7 : PySem.W.subIn K (.ref C_NoHandle) (.ref C_NotUsed) = some false)
    (x_s_9_8 : PySem.W.subIn K (.ref C_NoHandle) (.ref C_Unresolved) = some false)
    (x_s_9_10 : PySem.W.subIn K (.ref C_NoHandle) (.ref C_NoWishes) = some false)
    (x_s_10_0 : PySem.W.subIn K (.ref C_NoWishes) (.ref C_NoLibrary) = some false)
    (x_s_10_1 : PySem.W.subIn K (.ref C_NoWishes) (.ref C_NoStore) = some false)
    (x_s_10_2 : PySem.W.subIn K (.ref C_NoWishes) (.ref C_NoName) = some false)
    (x_s_10_3 : PySem.W.subIn K (.ref C_NoWishes) (.ref C_Missing) = some false)
    (x_s_10_4 : PySem.W.subIn K (.ref C_NoWishes) (.ref C_NoSymbol) = some false)
    (x_s_10_5 : PySem.W.subIn K (.ref C_NoWishes) (.ref C_NoPreloads) = some false)
    (x_s_10_6 : PySem.W.subIn K (.ref C_NoWishes) (.ref C_NotLoaded) = some false)
    (x_s_10_7 : PySem.W.subIn K (.ref C_NoWishes) (.ref C_NotUsed) = some false)
    (x_s_10_8 : PySem.W.subIn K (.ref C_NoWishes) (.ref C_Unresolved) = some false)
    (x_s_10_9 : PySem.W.subIn K (.ref C_NoWishes) (.ref C_NoHandle) = some false)
    (ic_LoadError : PySem.W.isClsIn K C_LoadError = true)
    (tC_LoadError : PySem.W.typeIn K (.ref C_LoadError) = some (.type "type"))
    (x_l_0 : PySem.W.subIn K (.ref C_NoLibrary) (.ref C_LoadError) = some true)
    (x_l_1 : PySem.W.subIn K (.ref C_NoStore) (.ref C_LoadError) = some true)
    (x_l_2 : PySem.W.subIn K (.ref C_NoName) (.ref C_LoadError) = some true)
    (x_l_3 : PySem.W.subIn K (.ref C_Missing) (.ref C_LoadError) = some true)
    (x_l_4 : PySem.W.subIn K (.ref C_NoSymbol) (.ref C_LoadError) = some true)
    (x_l_5 : PySem.W.subIn K (.ref C_NoPreloads) (.ref C_LoadError) = some true)
    (x_l_6 : PySem.W.subIn K (.ref C_NotLoaded) (.ref C_LoadError) = some true)
    (x_l_7 : PySem.W.subIn K (.ref C_NotUsed) (.ref C_LoadError) = some true)
    (x_l_8 : PySem.W.subIn K (.ref C_Unresolved) (.ref C_LoadError) = some true)
    (x_l_9 : PySem.W.subIn K (.ref C_NoHandle) (.ref C_LoadError) = some true)
    (x_l_10 : PySem.W.subIn K (.ref C_NoWishes) (.ref C_LoadError) = some true)
    (x_v_0 : PySem.W.subIn K (.ref C_NoLibrary) (.type "ValueError") = some true)
    (x_v_1 : PySem.W.subIn K (.ref C_NoStore) (.type "ValueError") = some true)
    (x_v_2 : PySem.W.subIn K (.ref C_NoName) (.type "ValueError") = some true)
    (x_v_3 : PySem.W.subIn K (.ref C_Missing) (.type "ValueError") = some true)
    (x_v_4 : PySem.W.subIn K (.ref C_NoSymbol) (.type "ValueError") = some true)
    (x_v_5 : PySem.W.subIn K (.ref C_NoPreloads) (.type "ValueError") = some true)
    (x_v_6 : PySem.W.subIn K (.ref C_NotLoaded) (.type "ValueError") = some true)
    (x_v_7 : PySem.W.subIn K (.ref C_NotUsed) (.type "ValueError") = some true)
    (x_v_8 : PySem.W.subIn K (.ref C_Unresolved) (.type "ValueError") = some true)
    (x_v_9 : PySem.W.subIn K (.ref C_NoHandle) (.type "ValueError") = some true)
    (x_v_10 : PySem.W.subIn K (.ref C_NoWishes) (.type "ValueError") = some true)
    (ty2 : PySem.W.specialIn K (.builtin "object.__class__") "__get__" = some (some (.builtin "getset_descriptor.__get__")))
    (ty3 : PySem.W.takesIn K (.builtin "object.__class__") = some true)
    (xc_NoLibrary : PySem.W.findIn K (.ref C_NoLibrary) "__class__" = some (some (.builtin "object.__class__")))
    (xm_NoLibrary : PySem.W.mroIn K C_NoLibrary (.type "object") = some true)
    (xc_NoStore : PySem.W.findIn K (.ref C_NoStore) "__class__" = some (some (.builtin "object.__class__")))
    (xm_NoStore : PySem.W.mroIn K C_NoStore (.type "object") = some true)
    (xc_NoName : PySem.W.findIn K (.ref C_NoName) "__class__" = some (some (.builtin "object.__class__")))
    (xm_NoName : PySem.W.mroIn K C_NoName (.type "object") = some true)
    (xc_Missing : PySem.W.findIn K (.ref C_Missing) "__class__" = some (some (.builtin "object.__class__")))
    (xm_Missing : PySem.W.mroIn K C_Missing (.type "object") = some true)
    (xc_NoSymbol : PySem.W.findIn K (.ref C_NoSymbol) "__class__" = some (some (.builtin "object.__class__")))
    (xm_NoSymbol : PySem.W.mroIn K C_NoSymbol (.type "object") = some true)
    (xc_NoPreloads : PySem.W.findIn K (.ref C_NoPreloads) "__class__" = some (some (.builtin "object.__class__")))
    (xm_NoPreloads : PySem.W.mroIn K C_NoPreloads (.type "object") = some true)
    (xc_NotLoaded : PySem.W.findIn K (.ref C_NotLoaded) "__class__" = some (some (.builtin "object.__class__")))
    (xm_NotLoaded : PySem.W.mroIn K C_NotLoaded (.type "object") = some true)
    (xc_NotUsed : PySem.W.findIn K (.ref C_NotUsed) "__class__" = some (some (.builtin "object.__class__")))
    (xm_NotUsed : PySem.W.mroIn K C_NotUsed (.type "object") = some true)
    (xc_Unresolved : PySem.W.findIn K (.ref C_Unresolved) "__class__" = some (some (.builtin "object.__class__")))
    (xm_Unresolved : PySem.W.mroIn K C_Unresolved (.type "object") = some true)
    (xc_NoHandle : PySem.W.findIn K (.ref C_NoHandle) "__class__" = some (some (.builtin "object.__class__")))
    (xm_NoHandle : PySem.W.mroIn K C_NoHandle (.type "object") = some true)
    (xc_NoWishes : PySem.W.findIn K (.ref C_NoWishes) "__class__" = some (some (.builtin "object.__class__")))
    (xm_NoWishes : PySem.W.mroIn K C_NoWishes (.type "object") = some true)
    : ∃ fd : FuncData, (∀ (s : Shared) (v : Value), BindsTo s fd ⟨[v], []⟩ [("_law_script", v)]) ∧ ∀ base : Heap, K.In base → base.Ns mainGlobals mg → FnOk l.prog w K mg base CX0 4 fa fd ["_law_script"] (spLaw K) := by
  have e : fa = f_law := by
    have e := hfa.symm.trans (PySem.W.mg_of X G g0_law)
    cases e
    rfl
  rw [e]
  have FF_NoLibrary___init__ : Fun K "__init__" "NoLibrary.__init__" s_NoLibrary___init__ f_NoLibrary___init__ (PySem.W.fnOf "__init__" "NoLibrary.__init__" (defArgs s_NoLibrary___init__) (defBody s_NoLibrary___init__) (defScope s_NoLibrary___init__) .none kV_NoLibrary___init__ dc_NoLibrary___init__ pm_NoLibrary___init__ an_NoLibrary___init__ cd_NoLibrary___init__ ct_NoLibrary___init__) := fun_mk (st := s_NoLibrary___init__) l_NoLibrary___init__ cd1_NoLibrary___init__ kp_NoLibrary___init__
  have FF_NoStore___init__ : Fun K "__init__" "NoStore.__init__" s_NoStore___init__ f_NoStore___init__ (PySem.W.fnOf "__init__" "NoStore.__init__" (defArgs s_NoStore___init__) (defBody s_NoStore___init__) (defScope s_NoStore___init__) .none kV_NoStore___init__ dc_NoStore___init__ pm_NoStore___init__ an_NoStore___init__ cd_NoStore___init__ ct_NoStore___init__) := fun_mk (st := s_NoStore___init__) l_NoStore___init__ cd1_NoStore___init__ kp_NoStore___init__
  have FF_NoName___init__ : Fun K "__init__" "NoName.__init__" s_NoName___init__ f_NoName___init__ (PySem.W.fnOf "__init__" "NoName.__init__" (defArgs s_NoName___init__) (defBody s_NoName___init__) (defScope s_NoName___init__) .none kV_NoName___init__ dc_NoName___init__ pm_NoName___init__ an_NoName___init__ cd_NoName___init__ ct_NoName___init__) := fun_mk (st := s_NoName___init__) l_NoName___init__ cd1_NoName___init__ kp_NoName___init__
  have FF_Missing___init__ : Fun K "__init__" "Missing.__init__" s_Missing___init__ f_Missing___init__ (PySem.W.fnOf "__init__" "Missing.__init__" (defArgs s_Missing___init__) (defBody s_Missing___init__) (defScope s_Missing___init__) .none kV_Missing___init__ dc_Missing___init__ pm_Missing___init__ an_Missing___init__ cd_Missing___init__ ct_Missing___init__) := fun_mk (st := s_Missing___init__) l_Missing___init__ cd1_Missing___init__ kp_Missing___init__
  have FF_NoSymbol___init__ : Fun K "__init__" "NoSymbol.__init__" s_NoSymbol___init__ f_NoSymbol___init__ (PySem.W.fnOf "__init__" "NoSymbol.__init__" (defArgs s_NoSymbol___init__) (defBody s_NoSymbol___init__) (defScope s_NoSymbol___init__) .none kV_NoSymbol___init__ dc_NoSymbol___init__ pm_NoSymbol___init__ an_NoSymbol___init__ cd_NoSymbol___init__ ct_NoSymbol___init__) := fun_mk (st := s_NoSymbol___init__) l_NoSymbol___init__ cd1_NoSymbol___init__ kp_NoSymbol___init__
  have FF_NoPreloads___init__ : Fun K "__init__" "NoPreloads.__init__" s_NoPreloads___init__ f_NoPreloads___init__ (PySem.W.fnOf "__init__" "NoPreloads.__init__" (defArgs s_NoPreloads___init__) (defBody s_NoPreloads___init__) (defScope s_NoPreloads___init__) .none kV_NoPreloads___init__ dc_NoPreloads___init__ pm_NoPreloads___init__ an_NoPreloads___init__ cd_NoPreloads___init__ ct_NoPreloads___init__) := fun_mk (st := s_NoPreloads___init__) l_NoPreloads___init__ cd1_NoPreloads___init__ kp_NoPreloads___init__
  have FF_NotLoaded___init__ : Fun K "__init__" "NotLoaded.__init__" s_NotLoaded___init__ f_NotLoaded___init__ (PySem.W.fnOf "__init__" "NotLoaded.__init__" (defArgs s_NotLoaded___init__) (defBody s_NotLoaded___init__) (defScope s_NotLoaded___init__) .none kV_NotLoaded___init__ dc_NotLoaded___init__ pm_NotLoaded___init__ an_NotLoaded___init__ cd_NotLoaded___init__ ct_NotLoaded___init__) := fun_mk (st := s_NotLoaded___init__) l_NotLoaded___init__ cd1_NotLoaded___init__ kp_NotLoaded___init__
  have FF_NotUsed___init__ : Fun K "__init__" "NotUsed.__init__" s_NotUsed___init__ f_NotUsed___init__ (PySem.W.fnOf "__init__" "NotUsed.__init__" (defArgs s_NotUsed___init__) (defBody s_NotUsed___init__) (defScope s_NotUsed___init__) .none kV_NotUsed___init__ dc_NotUsed___init__ pm_NotUsed___init__ an_NotUsed___init__ cd_NotUsed___init__ ct_NotUsed___init__) := fun_mk (st := s_NotUsed___init__) l_NotUsed___init__ cd1_NotUsed___init__ kp_NotUsed___init__
  have FF_Unresolved___init__ : Fun K "__init__" "Unresolved.__init__" s_Unresolved___init__ f_Unresolved___init__ (PySem.W.fnOf "__init__" "Unresolved.__init__" (defArgs s_Unresolved___init__) (defBody s_Unresolved___init__) (defScope s_Unresolved___init__) .none kV_Unresolved___init__ dc_Unresolved___init__ pm_Unresolved___init__ an_Unresolved___init__ cd_Unresolved___init__ ct_Unresolved___init__) := fun_mk (st := s_Unresolved___init__) l_Unresolved___init__ cd1_Unresolved___init__ kp_Unresolved___init__
  have FF_NoHandle___init__ : Fun K "__init__" "NoHandle.__init__" s_NoHandle___init__ f_NoHandle___init__ (PySem.W.fnOf "__init__" "NoHandle.__init__" (defArgs s_NoHandle___init__) (defBody s_NoHandle___init__) (defScope s_NoHandle___init__) .none kV_NoHandle___init__ dc_NoHandle___init__ pm_NoHandle___init__ an_NoHandle___init__ cd_NoHandle___init__ ct_NoHandle___init__) := fun_mk (st := s_NoHandle___init__) l_NoHandle___init__ cd1_NoHandle___init__ kp_NoHandle___init__
  have FF_NoWishes___init__ : Fun K "__init__" "NoWishes.__init__" s_NoWishes___init__ f_NoWishes___init__ (PySem.W.fnOf "__init__" "NoWishes.__init__" (defArgs s_NoWishes___init__) (defBody s_NoWishes___init__) (defScope s_NoWishes___init__) .none kV_NoWishes___init__ dc_NoWishes___init__ pm_NoWishes___init__ an_NoWishes___init__ cd_NoWishes___init__ ct_NoWishes___init__) := fun_mk (st := s_NoWishes___init__) l_NoWishes___init__ cd1_NoWishes___init__ kp_NoWishes___init__
  have FF__law_well : Fun K "_law_well" "_law_well" s__law_well f__law_well (PySem.W.fnOf "_law_well" "_law_well" (defArgs s__law_well) (defBody s__law_well) (defScope s__law_well) .none kV__law_well dc__law_well pm__law_well an__law_well cd__law_well ct__law_well) := fun_mk (st := s__law_well) l__law_well cd1__law_well kp__law_well
  have FF__law_draw : Fun K "_law_draw" "_law_draw" s__law_draw f__law_draw (PySem.W.fnOf "_law_draw" "_law_draw" (defArgs s__law_draw) (defBody s__law_draw) (defScope s__law_draw) .none kV__law_draw dc__law_draw pm__law_draw an__law_draw cd__law_draw ct__law_draw) := fun_mk (st := s__law_draw) l__law_draw cd1__law_draw kp__law_draw
  have FF__law_one : Fun K "_law_one" "_law_one" s__law_one f__law_one (PySem.W.fnOf "_law_one" "_law_one" (defArgs s__law_one) (defBody s__law_one) (defScope s__law_one) .none kV__law_one dc__law_one pm__law_one an__law_one cd__law_one ct__law_one) := fun_mk (st := s__law_one) l__law_one cd1__law_one kp__law_one
  have FF__law_errors : Fun K "_law_errors" "_law_errors" s__law_errors f__law_errors (PySem.W.fnOf "_law_errors" "_law_errors" (defArgs s__law_errors) (defBody s__law_errors) (defScope s__law_errors) .none kV__law_errors dc__law_errors pm__law_errors an__law_errors cd__law_errors ct__law_errors) := fun_mk (st := s__law_errors) l__law_errors cd1__law_errors kp__law_errors
  have FF__law_kinds : Fun K "_law_kinds" "_law_kinds" s__law_kinds f__law_kinds (PySem.W.fnOf "_law_kinds" "_law_kinds" (defArgs s__law_kinds) (defBody s__law_kinds) (defScope s__law_kinds) .none kV__law_kinds dc__law_kinds pm__law_kinds an__law_kinds cd__law_kinds ct__law_kinds) := fun_mk (st := s__law_kinds) l__law_kinds cd1__law_kinds kp__law_kinds
  have FF_law : Fun K "law" "law" s_law f_law (PySem.W.fnOf "law" "law" (defArgs s_law) (defBody s_law) (defScope s_law) .none kV_law dc_law pm_law an_law cd_law ct_law) := fun_mk (st := s_law) l_law cd1_law kp_law
  let AA : Adr := ⟨C_LoadError, C_NoLibrary, C_NoStore, C_NoName, C_Missing, C_NoSymbol, C_NoPreloads, C_NotLoaded, C_NotUsed, C_Unresolved, C_NoHandle, C_NoWishes, f_NoLibrary___init__, (PySem.W.fnOf "__init__" "NoLibrary.__init__" (defArgs s_NoLibrary___init__) (defBody s_NoLibrary___init__) (defScope s_NoLibrary___init__) .none kV_NoLibrary___init__ dc_NoLibrary___init__ pm_NoLibrary___init__ an_NoLibrary___init__ cd_NoLibrary___init__ ct_NoLibrary___init__), f_NoStore___init__, (PySem.W.fnOf "__init__" "NoStore.__init__" (defArgs s_NoStore___init__) (defBody s_NoStore___init__) (defScope s_NoStore___init__) .none kV_NoStore___init__ dc_NoStore___init__ pm_NoStore___init__ an_NoStore___init__ cd_NoStore___init__ ct_NoStore___init__), f_NoName___init__, (PySem.W.fnOf "__init__" "NoName.__init__" (defArgs s_NoName___init__) (defBody s_NoName___init__) (defScope s_NoName___init__) .none kV_NoName___init__ dc_NoName___init__ pm_NoName___init__ an_NoName___init__ cd_NoName___init__ ct_NoName___init__), f_Missing___init__, (PySem.W.fnOf "__init__" "Missing.__init__" (defArgs s_Missing___init__) (defBody s_Missing___init__) (defScope s_Missing___init__) .none kV_Missing___init__ dc_Missing___init__ pm_Missing___init__ an_Missing___init__ cd_Missing___init__ ct_Missing___init__), f_NoSymbol___init__, (PySem.W.fnOf "__init__" "NoSymbol.__init__" (defArgs s_NoSymbol___init__) (defBody s_NoSymbol___init__) (defScope s_NoSymbol___init__) .none kV_NoSymbol___init__ dc_NoSymbol___init__ pm_NoSymbol___init__ an_NoSymbol___init__ cd_NoSymbol___init__ ct_NoSymbol___init__), f_NoPreloads___init__, (PySem.W.fnOf "__init__" "NoPreloads.__init__" (defArgs s_NoPreloads___init__) (defBody s_NoPreloads___init__) (defScope s_NoPreloads___init__) .none kV_NoPreloads___init__ dc_NoPreloads___init__ pm_NoPreloads___init__ an_NoPreloads___init__ cd_NoPreloads___init__ ct_NoPreloads___init__), f_NotLoaded___init__, (PySem.W.fnOf "__init__" "NotLoaded.__init__" (defArgs s_NotLoaded___init__) (defBody s_NotLoaded___init__) (defScope s_NotLoaded___init__) .none kV_NotLoaded___init__ dc_NotLoaded___init__ pm_NotLoaded___init__ an_NotLoaded___init__ cd_NotLoaded___init__ ct_NotLoaded___init__), f_NotUsed___init__, (PySem.W.fnOf "__init__" "NotUsed.__init__" (defArgs s_NotUsed___init__) (defBody s_NotUsed___init__) (defScope s_NotUsed___init__) .none kV_NotUsed___init__ dc_NotUsed___init__ pm_NotUsed___init__ an_NotUsed___init__ cd_NotUsed___init__ ct_NotUsed___init__), f_Unresolved___init__, (PySem.W.fnOf "__init__" "Unresolved.__init__" (defArgs s_Unresolved___init__) (defBody s_Unresolved___init__) (defScope s_Unresolved___init__) .none kV_Unresolved___init__ dc_Unresolved___init__ pm_Unresolved___init__ an_Unresolved___init__ cd_Unresolved___init__ ct_Unresolved___init__), f_NoHandle___init__, (PySem.W.fnOf "__init__" "NoHandle.__init__" (defArgs s_NoHandle___init__) (defBody s_NoHandle___init__) (defScope s_NoHandle___init__) .none kV_NoHandle___init__ dc_NoHandle___init__ pm_NoHandle___init__ an_NoHandle___init__ cd_NoHandle___init__ ct_NoHandle___init__), f_NoWishes___init__, (PySem.W.fnOf "__init__" "NoWishes.__init__" (defArgs s_NoWishes___init__) (defBody s_NoWishes___init__) (defScope s_NoWishes___init__) .none kV_NoWishes___init__ dc_NoWishes___init__ pm_NoWishes___init__ an_NoWishes___init__ cd_NoWishes___init__ ct_NoWishes___init__), f__law_well, (PySem.W.fnOf "_law_well" "_law_well" (defArgs s__law_well) (defBody s__law_well) (defScope s__law_well) .none kV__law_well dc__law_well pm__law_well an__law_well cd__law_well ct__law_well), f__law_draw, (PySem.W.fnOf "_law_draw" "_law_draw" (defArgs s__law_draw) (defBody s__law_draw) (defScope s__law_draw) .none kV__law_draw dc__law_draw pm__law_draw an__law_draw cd__law_draw ct__law_draw), f__law_one, (PySem.W.fnOf "_law_one" "_law_one" (defArgs s__law_one) (defBody s__law_one) (defScope s__law_one) .none kV__law_one dc__law_one pm__law_one an__law_one cd__law_one ct__law_one), f__law_errors, (PySem.W.fnOf "_law_errors" "_law_errors" (defArgs s__law_errors) (defBody s__law_errors) (defScope s__law_errors) .none kV__law_errors dc__law_errors pm__law_errors an__law_errors cd__law_errors ct__law_errors), f__law_kinds, (PySem.W.fnOf "_law_kinds" "_law_kinds" (defArgs s__law_kinds) (defBody s__law_kinds) (defScope s__law_kinds) .none kV__law_kinds dc__law_kinds pm__law_kinds an__law_kinds cd__law_kinds ct__law_kinds), f_law, (PySem.W.fnOf "law" "law" (defArgs s_law) (defBody s_law) (defScope s_law) .none kV_law dc_law pm_law an_law cd_law ct_law)⟩
  have T : Txt K mg AA := Txt.mk (PySem.W.mg_none_of X G z_ValueError)
    (PySem.W.mg_none_of X G z_bool)
    (PySem.W.mg_none_of X G z_enumerate)
    (PySem.W.mg_none_of X G z_int)
    (PySem.W.mg_none_of X G z_isinstance)
    (PySem.W.mg_none_of X G z_len)
    (PySem.W.mg_none_of X G z_list)
    (PySem.W.mg_none_of X G z_range)
    (⟨PySem.W.mg_of X G g0_LoadError, ld_ga, ld_rd, ld_fc⟩)
    (⟨PySem.W.mg_of X G g0_NoLibrary, ⟨⟨_, _, _, _, _, _, _, _, _, _, _, _, _, _, _, xl_NoLibrary, rb_NoLibrary⟩, sa_NoLibrary, eC_NoLibrary, tC_NoLibrary, kC_NoLibrary⟩, at_NoLibrary___init__, ti_NoLibrary, nb_NoLibrary, ⟨ga_NoLibrary, gg_NoLibrary, eC_NoLibrary, hd_NoLibrary⟩, exm_sub eC_NoLibrary ic_NoLibrary tC_NoLibrary te_NoLibrary⟩)
    (⟨PySem.W.mg_of X G g0_NoStore, ⟨⟨_, _, _, _, _, _, _, _, _, _, _, _, _, _, _, xl_NoStore, rb_NoStore⟩, sa_NoStore, eC_NoStore, tC_NoStore, kC_NoStore⟩, at_NoStore___init__, ti_NoStore, nb_NoStore, ⟨ga_NoStore, gg_NoStore, eC_NoStore, hd_NoStore⟩, exm_sub eC_NoStore ic_NoStore tC_NoStore te_NoStore⟩)
    (⟨PySem.W.mg_of X G g0_NoName, ⟨⟨_, _, _, _, _, _, _, _, _, _, _, _, _, _, _, xl_NoName, rb_NoName⟩, sa_NoName, eC_NoName, tC_NoName, kC_NoName⟩, at_NoName___init__, ti_NoName, nb_NoName, ⟨ga_NoName, gg_NoName, eC_NoName, hd_NoName⟩, exm_sub eC_NoName ic_NoName tC_NoName te_NoName⟩)
    (⟨PySem.W.mg_of X G g0_Missing, ⟨⟨_, _, _, _, _, _, _, _, _, _, _, _, _, _, _, xl_Missing, rb_Missing⟩, sa_Missing, eC_Missing, tC_Missing, kC_Missing⟩, at_Missing___init__, ti_Missing, nb_Missing, ⟨ga_Missing, gg_Missing, eC_Missing, hd_Missing⟩, exm_sub eC_Missing ic_Missing tC_Missing te_Missing⟩)
    (⟨PySem.W.mg_of X G g0_NoSymbol, ⟨⟨_, _, _, _, _, _, _, _, _, _, _, _, _, _, _, xl_NoSymbol, rb_NoSymbol⟩, sa_NoSymbol, eC_NoSymbol, tC_NoSymbol, kC_NoSymbol⟩, at_NoSymbol___init__, ti_NoSymbol, nb_NoSymbol, ⟨ga_NoSymbol, gg_NoSymbol, eC_NoSymbol, hd_NoSymbol⟩, exm_sub eC_NoSymbol ic_NoSymbol tC_NoSymbol te_NoSymbol⟩)
    (⟨PySem.W.mg_of X G g0_NoPreloads, ⟨⟨_, _, _, _, _, _, _, _, _, _, _, _, _, _, _, xl_NoPreloads, rb_NoPreloads⟩, sa_NoPreloads, eC_NoPreloads, tC_NoPreloads, kC_NoPreloads⟩, at_NoPreloads___init__, ti_NoPreloads, nb_NoPreloads, ⟨ga_NoPreloads, gg_NoPreloads, eC_NoPreloads, hd_NoPreloads⟩, exm_sub eC_NoPreloads ic_NoPreloads tC_NoPreloads te_NoPreloads⟩)
    (⟨PySem.W.mg_of X G g0_NotLoaded, ⟨⟨_, _, _, _, _, _, _, _, _, _, _, _, _, _, _, xl_NotLoaded, rb_NotLoaded⟩, sa_NotLoaded, eC_NotLoaded, tC_NotLoaded, kC_NotLoaded⟩, at_NotLoaded___init__, ti_NotLoaded, nb_NotLoaded, ⟨ga_NotLoaded, gg_NotLoaded, eC_NotLoaded, hd_NotLoaded⟩, exm_sub eC_NotLoaded ic_NotLoaded tC_NotLoaded te_NotLoaded⟩)
    (⟨PySem.W.mg_of X G g0_NotUsed, ⟨⟨_, _, _, _, _, _, _, _, _, _, _, _, _, _, _, xl_NotUsed, rb_NotUsed⟩, sa_NotUsed, eC_NotUsed, tC_NotUsed, kC_NotUsed⟩, at_NotUsed___init__, ti_NotUsed, nb_NotUsed, ⟨ga_NotUsed, gg_NotUsed, eC_NotUsed, hd_NotUsed⟩, exm_sub eC_NotUsed ic_NotUsed tC_NotUsed te_NotUsed⟩)
    (⟨PySem.W.mg_of X G g0_Unresolved, ⟨⟨_, _, _, _, _, _, _, _, _, _, _, _, _, _, _, xl_Unresolved, rb_Unresolved⟩, sa_Unresolved, eC_Unresolved, tC_Unresolved, kC_Unresolved⟩, at_Unresolved___init__, ti_Unresolved, nb_Unresolved, ⟨ga_Unresolved, gg_Unresolved, eC_Unresolved, hd_Unresolved⟩, exm_sub eC_Unresolved ic_Unresolved tC_Unresolved te_Unresolved⟩)
    (⟨PySem.W.mg_of X G g0_NoHandle, ⟨⟨_, _, _, _, _, _, _, _, _, _, _, _, _, _, _, xl_NoHandle, rb_NoHandle⟩, sa_NoHandle, eC_NoHandle, tC_NoHandle, kC_NoHandle⟩, at_NoHandle___init__, ti_NoHandle, nb_NoHandle, ⟨ga_NoHandle, gg_NoHandle, eC_NoHandle, hd_NoHandle⟩, exm_sub eC_NoHandle ic_NoHandle tC_NoHandle te_NoHandle⟩)
    (⟨PySem.W.mg_of X G g0_NoWishes, ⟨⟨_, _, _, _, _, _, _, _, _, _, _, _, _, _, _, xl_NoWishes, rb_NoWishes⟩, sa_NoWishes, eC_NoWishes, tC_NoWishes, kC_NoWishes⟩, at_NoWishes___init__, ti_NoWishes, nb_NoWishes, ⟨ga_NoWishes, gg_NoWishes, eC_NoWishes, hd_NoWishes⟩, exm_sub eC_NoWishes ic_NoWishes tC_NoWishes te_NoWishes⟩)
    (FF_NoLibrary___init__)
    (FF_NoLibrary___init__.binds (ps := P_NoLibrary___init__) fun _ _ _ _ _ _ us hl => match us, hl with | [_, _], _ => rfl)
    (FF_NoStore___init__)
    (FF_NoStore___init__.binds (ps := P_NoStore___init__) fun _ _ _ _ _ _ us hl => match us, hl with | [_, _], _ => rfl)
    (FF_NoName___init__)
    (FF_NoName___init__.binds (ps := P_NoName___init__) fun _ _ _ _ _ _ us hl => match us, hl with | [_, _], _ => rfl)
    (FF_Missing___init__)
    (FF_Missing___init__.binds (ps := P_Missing___init__) fun _ _ _ _ _ _ us hl => match us, hl with | [_, _], _ => rfl)
    (FF_NoSymbol___init__)
    (FF_NoSymbol___init__.binds (ps := P_NoSymbol___init__) fun _ _ _ _ _ _ us hl => match us, hl with | [_, _], _ => rfl)
    (FF_NoPreloads___init__)
    (FF_NoPreloads___init__.binds (ps := P_NoPreloads___init__) fun _ _ _ _ _ _ us hl => match us, hl with | [_, _], _ => rfl)
    (FF_NotLoaded___init__)
    (FF_NotLoaded___init__.binds (ps := P_NotLoaded___init__) fun _ _ _ _ _ _ us hl => match us, hl with | [_, _], _ => rfl)
    (FF_NotUsed___init__)
    (FF_NotUsed___init__.binds (ps := P_NotUsed___init__) fun _ _ _ _ _ _ us hl => match us, hl with | [_, _], _ => rfl)
    (FF_Unresolved___init__)
    (FF_Unresolved___init__.binds (ps := P_Unresolved___init__) fun _ _ _ _ _ _ us hl => match us, hl with | [_, _], _ => rfl)
    (FF_NoHandle___init__)
    (FF_NoHandle___init__.binds (ps := P_NoHandle___init__) fun _ _ _ _ _ _ us hl => match us, hl with | [_, _], _ => rfl)
    (FF_NoWishes___init__)
    (FF_NoWishes___init__.binds (ps := P_NoWishes___init__) fun _ _ _ _ _ _ us hl => match us, hl with | [_, _], _ => rfl)
    (FF__law_well)
    (FF__law_well.binds (ps := P__law_well) fun _ _ _ _ _ _ us hl => match us, hl with | [_], _ => rfl)
    (PySem.W.mg_of X G g0__law_well)
    (kp__law_well)
    (FF__law_draw)
    (FF__law_draw.binds (ps := P__law_draw) fun _ _ _ _ _ _ us hl => match us, hl with | [_, _], _ => rfl)
    (PySem.W.mg_of X G g0__law_draw)
    (kp__law_draw)
    (FF__law_one)
    (FF__law_one.binds (ps := P__law_one) fun _ _ _ _ _ _ us hl => match us, hl with | [_, _], _ => rfl)
    (PySem.W.mg_of X G g0__law_one)
    (kp__law_one)
    (FF__law_errors)
    (FF__law_errors.binds (ps := P__law_errors) fun _ _ _ _ _ _ us hl => match us, hl with | [_], _ => rfl)
    (PySem.W.mg_of X G g0__law_errors)
    (kp__law_errors)
    (FF__law_kinds)
    (FF__law_kinds.binds (ps := P__law_kinds) fun _ _ _ _ _ _ us hl => match us, hl with | [_], _ => rfl)
    (PySem.W.mg_of X G g0__law_kinds)
    (kp__law_kinds)
    (FF_law)
    (FF_law.binds (ps := P_law) fun _ _ _ _ _ _ us hl => match us, hl with | [_], _ => rfl)
    (PySem.W.mg_of X G g0_law)
    (kp_law)
    (x_s_0_1)
    (x_s_0_2)
    (x_s_0_3)
    (x_s_0_4)
    (x_s_0_5)
    (x_s_0_6)
    (x_s_0_7)
    (x_s_0_8)
    (x_s_0_9)
    (x_s_0_10)
    (x_s_1_0)
    (x_s_1_2)
    (x_s_1_3)
    (x_s_1_4)
    (x_s_1_5)
    (x_s_1_6)
    (x_s_1_7)
    (x_s_1_8)
    (x_s_1_9)
    (x_s_1_10)
    (x_s_2_0)
    (x_s_2_1)
    (x_s_2_3)
    (x_s_2_4)
    (x_s_2_5)
    (x_s_2_6)
    (x_s_2_7)
    (x_s_2_8)
    (x_s_2_9)
    (x_s_2_10)
    (x_s_3_0)
    (x_s_3_1)
    (x_s_3_2)
    (x_s_3_4)
    (x_s_3_5)
    (x_s_3_6)
    (x_s_3_7)
    (x_s_3_8)
    (x_s_3_9)
    (x_s_3_10)
    (x_s_4_0)
    (x_s_4_1)
    (x_s_4_2)
    (x_s_4_3)
    (x_s_4_5)
    (x_s_4_6)
    (x_s_4_7)
    (x_s_4_8)
    (x_s_4_9)
    (x_s_4_10)
    (x_s_5_0)
    (x_s_5_1)
    (x_s_5_2)
    (x_s_5_3)
    (x_s_5_4)
    (x_s_5_6)
    (x_s_5_7)
    (x_s_5_8)
    (x_s_5_9)
    (x_s_5_10)
    (x_s_6_0)
    (x_s_6_1)
    (x_s_6_2)
    (x_s_6_3)
    (x_s_6_4)
    (x_s_6_5)
    (x_s_6_7)
    (x_s_6_8)
    (x_s_6_9)
    (x_s_6_10)
    (x_s_7_0)
    (x_s_7_1)
    (x_s_7_2)
    (x_s_7_3)
    (x_s_7_4)
    (x_s_7_5)
    (x_s_7_6)
    (x_s_7_8)
    (x_s_7_9)
    (x_s_7_10)
    (x_s_8_0)
    (x_s_8_1)
    (x_s_8_2)
    (x_s_8_3)
    (x_s_8_4)
    (x_s_8_5)
    (x_s_8_6)
    (x_s_8_7)
    (x_s_8_9)
    (x_s_8_10)
    (x_s_9_0)
    (x_s_9_1)
    (x_s_9_2)
    (x_s_9_3)
    (x_s_9_4)
    (x_s_9_5)
    (x_s_9_6)
    (x_s_9_7)
    (x_s_9_8)
    (x_s_9_10)
    (x_s_10_0)
    (x_s_10_1)
    (x_s_10_2)
    (x_s_10_3)
    (x_s_10_4)
    (x_s_10_5)
    (x_s_10_6)
    (x_s_10_7)
    (x_s_10_8)
    (x_s_10_9)
    (te_NoLibrary)
    (te_NoStore)
    (te_NoName)
    (te_Missing)
    (te_NoSymbol)
    (te_NoPreloads)
    (te_NotLoaded)
    (te_NotUsed)
    (te_Unresolved)
    (te_NoHandle)
    (te_NoWishes)
    (kit_subT ic_LoadError tC_LoadError x_l_0)
    (kit_subT ic_LoadError tC_LoadError x_l_1)
    (kit_subT ic_LoadError tC_LoadError x_l_2)
    (kit_subT ic_LoadError tC_LoadError x_l_3)
    (kit_subT ic_LoadError tC_LoadError x_l_4)
    (kit_subT ic_LoadError tC_LoadError x_l_5)
    (kit_subT ic_LoadError tC_LoadError x_l_6)
    (kit_subT ic_LoadError tC_LoadError x_l_7)
    (kit_subT ic_LoadError tC_LoadError x_l_8)
    (kit_subT ic_LoadError tC_LoadError x_l_9)
    (kit_subT ic_LoadError tC_LoadError x_l_10)
    (x_v_0)
    (x_v_1)
    (x_v_2)
    (x_v_3)
    (x_v_4)
    (x_v_5)
    (x_v_6)
    (x_v_7)
    (x_v_8)
    (x_v_9)
    (x_v_10)
    (ic_NoLibrary)
    (ic_NoStore)
    (ic_NoName)
    (ic_Missing)
    (ic_NoSymbol)
    (ic_NoPreloads)
    (ic_NotLoaded)
    (ic_NotUsed)
    (ic_Unresolved)
    (ic_NoHandle)
    (ic_NoWishes)
    (tC_NoLibrary)
    (tC_NoStore)
    (tC_NoName)
    (tC_Missing)
    (tC_NoSymbol)
    (tC_NoPreloads)
    (tC_NotLoaded)
    (tC_NotUsed)
    (tC_Unresolved)
    (tC_NoHandle)
    (tC_NoWishes)
    (⟨ga_NoLibrary, gg_NoLibrary, eC_NoLibrary, hd_NoLibrary, xc_NoLibrary, ty2, ty3, xm_NoLibrary⟩)
    (⟨ga_NoStore, gg_NoStore, eC_NoStore, hd_NoStore, xc_NoStore, ty2, ty3, xm_NoStore⟩)
    (⟨ga_NoName, gg_NoName, eC_NoName, hd_NoName, xc_NoName, ty2, ty3, xm_NoName⟩)
    (⟨ga_Missing, gg_Missing, eC_Missing, hd_Missing, xc_Missing, ty2, ty3, xm_Missing⟩)
    (⟨ga_NoSymbol, gg_NoSymbol, eC_NoSymbol, hd_NoSymbol, xc_NoSymbol, ty2, ty3, xm_NoSymbol⟩)
    (⟨ga_NoPreloads, gg_NoPreloads, eC_NoPreloads, hd_NoPreloads, xc_NoPreloads, ty2, ty3, xm_NoPreloads⟩)
    (⟨ga_NotLoaded, gg_NotLoaded, eC_NotLoaded, hd_NotLoaded, xc_NotLoaded, ty2, ty3, xm_NotLoaded⟩)
    (⟨ga_NotUsed, gg_NotUsed, eC_NotUsed, hd_NotUsed, xc_NotUsed, ty2, ty3, xm_NotUsed⟩)
    (⟨ga_Unresolved, gg_Unresolved, eC_Unresolved, hd_Unresolved, xc_Unresolved, ty2, ty3, xm_Unresolved⟩)
    (⟨ga_NoHandle, gg_NoHandle, eC_NoHandle, hd_NoHandle, xc_NoHandle, ty2, ty3, xm_NoHandle⟩)
    (⟨ga_NoWishes, gg_NoWishes, eC_NoWishes, hd_NoWishes, xc_NoWishes, ty2, ty3, xm_NoWishes⟩)
  exact ⟨(PySem.W.fnOf "law" "law" (defArgs s_law) (defBody s_law) (defScope s_law) .none kV_law dc_law pm_law an_law cd_law ct_law), fun s v => .of_eq rfl, fun base _ _ => ok_law T⟩
theorem walk {l : PySem.W.OpenLaw} {q : Program} {loose : List Str} {XP : (Str → Option Value) → Heap → Prop} {YP : World → Heap → Prop} {d : DefRec} {K : Params → PySem.W.Frag} (hn : l.most = some 63) (hdf : d.params.defaults = [])
    (hY : ∀ (w : World) (h : Heap), YP w h → (K w.params).In h)
    (F : ∀ (w : World) (mg : Str → Option Value) (fa : Addr) (h : Heap), (K w.params).In h → h.Ns mainGlobals mg → mg d.name = some (.ref fa) →
      ∃ fd : FuncData, (∀ (s : Shared) (u : Value), BindsTo s fd ⟨[u], []⟩ [("_law_script", u)]) ∧ ∀ base : Heap, (K w.params).In base → base.Ns mainGlobals mg → FnOk l.prog w (K w.params) mg base CX0 4 fa fd ["_law_script"] (spLaw (K w.params))) :
    PySem.W.WalkO q loose XP YP l.row.toRowW d [] (fun f vs => PySem.call f vs) :=
  L2.walk_of (n := 63) (k := 4) (x := "_law_script") (CX := fun _ => CX0) (sp := fun w => spLaw (K w.params)) hn (by decide) hdf ⟨rfl, by decide, by decide⟩ hY F (fun _ _ b ns hl _ hS => ⟨b, ns, rfl, hS, hl, fun _ => rfl⟩) fun _ _ _ _ _ z => z
end SL

open PySem PySem.W PyProof.Rows in
set_option maxRecDepth 100000 in
set_option maxHeartbeats 0 in
theorem PySem.Challenge.cw_scopebind_k07_errors_by_hand_holds : PySem.Challenge.rw_scopebind_k07_errors_by_hand.Holds := by
  w_on; o_law; k_head; (case hw => w_witness2)
  k_fill
  refine SL.walk (l := PySem.Challenge.rw_scopebind_k07_errors_by_hand) rfl rfl (fun w h Y => PySem.W.kIn_of Y) ?F
  case F =>
    intro w mg fa h KX G hmg
    refine' SL.all_mk KX G hmg ?g0_LoadError ?g0_NoLibrary ?g0_NoStore ?g0_NoName ?g0_Missing ?g0_NoSymbol ?g0_NoPreloads ?g0_NotLoaded ?g0_NotUsed ?g0_Unresolved ?g0_NoHandle ?g0_NoWishes ?at_NoLibrary___init__ ?at_NoStore___init__ ?at_NoName___init__ ?at_Missing___init__ ?at_NoSymbol___init__ ?at_NoPreloads___init__ ?at_NotLoaded___init__ ?at_NotUsed___init__ ?at_Unresolved___init__ ?at_NoHandle___init__ ?at_NoWishes___init__ ?g0__law_well ?g0__law_draw ?g0__law_one ?g0__law_errors ?g0__law_kinds ?g0_law ?l_NoLibrary___init__ ?cd1_NoLibrary___init__ ?kp_NoLibrary___init__ ?l_NoStore___init__ ?cd1_NoStore___init__ ?kp_NoStore___init__ ?l_NoName___init__ ?cd1_NoName___init__ ?kp_NoName___init__ ?l_Missing___init__ ?cd1_Missing___init__ ?kp_Missing___init__ ?l_NoSymbol___init__ ?cd1_NoSymbol___init__ ?kp_NoSymbol___init__ ?l_NoPreloads___init__ ?cd1_NoPreloads___init__ ?kp_NoPreloads___init__ ?l_NotLoaded___init__ ?cd1_NotLoaded___init__ ?kp_NotLoaded___init__ ?l_NotUsed___init__ ?cd1_NotUsed___init__ ?kp_NotUsed___init__ ?l_Unresolved___init__ ?cd1_Unresolved___init__ ?kp_Unresolved___init__ ?l_NoHandle___init__ ?cd1_NoHandle___init__ ?kp_NoHandle___init__ ?l_NoWishes___init__ ?cd1_NoWishes___init__ ?kp_NoWishes___init__ ?l__law_well ?cd1__law_well ?kp__law_well ?l__law_draw ?cd1__law_draw ?kp__law_draw ?l__law_one ?cd1__law_one ?kp__law_one ?l__law_errors ?cd1__law_errors ?kp__law_errors ?l__law_kinds ?cd1__law_kinds ?kp__law_kinds ?l_law ?cd1_law ?kp_law ?z_ValueError ?z_bool ?z_enumerate ?z_int ?z_isinstance ?z_len ?z_list ?z_range ?ld_ga ?ld_rd ?ld_fc ?xl_NoLibrary ?rb_NoLibrary ?sa_NoLibrary ?eC_NoLibrary ?tC_NoLibrary ?kC_NoLibrary ?ti_NoLibrary ?nb_NoLibrary ?ga_NoLibrary ?gg_NoLibrary ?hd_NoLibrary ?te_NoLibrary ?ic_NoLibrary ?xl_NoStore ?rb_NoStore ?sa_NoStore ?eC_NoStore ?tC_NoStore ?kC_NoStore ?ti_NoStore ?nb_NoStore ?ga_NoStore ?gg_NoStore ?hd_NoStore ?te_NoStore ?ic_NoStore ?xl_NoName ?rb_NoName ?sa_NoName ?eC_NoName ?tC_NoName ?kC_NoName ?ti_NoName ?nb_NoName ?ga_NoName ?gg_NoName ?hd_NoName ?te_NoName ?ic_NoName ?xl_Missing ?rb_Missing ?sa_Missing ?eC_Missing ?tC_Missing ?kC_Missing ?ti_Missing ?nb_Missing ?ga_Missing ?gg_Missing ?hd_Missing ?te_Missing ?ic_Missing ?xl_NoSymbol ?rb_NoSymbol ?sa_NoSymbol ?eC_NoSymbol ?tC_NoSymbol ?kC_NoSymbol ?ti_NoSymbol ?nb_NoSymbol ?ga_NoSymbol ?gg_NoSymbol ?hd_NoSymbol ?te_NoSymbol ?ic_NoSymbol ?xl_NoPreloads ?rb_NoPreloads ?sa_NoPreloads ?eC_NoPreloads ?tC_NoPreloads ?kC_NoPreloads ?ti_NoPreloads ?nb_NoPreloads ?ga_NoPreloads ?gg_NoPreloads ?hd_NoPreloads ?te_NoPreloads ?ic_NoPreloads ?xl_NotLoaded ?rb_NotLoaded ?sa_NotLoaded ?eC_NotLoaded ?tC_NotLoaded ?kC_NotLoaded ?ti_NotLoaded ?nb_NotLoaded ?ga_NotLoaded ?gg_NotLoaded ?hd_NotLoaded ?te_NotLoaded ?ic_NotLoaded ?xl_NotUsed ?rb_NotUsed ?sa_NotUsed ?eC_NotUsed ?tC_NotUsed ?kC_NotUsed ?ti_NotUsed ?nb_NotUsed ?ga_NotUsed ?gg_NotUsed ?hd_NotUsed ?te_NotUsed ?ic_NotUsed ?xl_Unresolved ?rb_Unresolved ?sa_Unresolved ?eC_Unresolved ?tC_Unresolved ?kC_Unresolved ?ti_Unresolved ?nb_Unresolved ?ga_Unresolved ?gg_Unresolved ?hd_Unresolved ?te_Unresolved ?ic_Unresolved ?xl_NoHandle ?rb_NoHandle ?sa_NoHandle ?eC_NoHandle ?tC_NoHandle ?kC_NoHandle ?ti_NoHandle ?nb_NoHandle ?ga_NoHandle ?gg_NoHandle ?hd_NoHandle ?te_NoHandle ?ic_NoHandle ?xl_NoWishes ?rb_NoWishes ?sa_NoWishes ?eC_NoWishes ?tC_NoWishes ?kC_NoWishes ?ti_NoWishes ?nb_NoWishes ?ga_NoWishes ?gg_NoWishes ?hd_NoWishes ?te_NoWishes ?ic_NoWishes ?x_s_0_1 ?x_s_0_2 ?x_s_0_3 ?x_s_0_4 ?x_s_0_5 ?x_s_0_6 ?x_s_0_7 ?x_s_0_8 ?x_s_0_9 ?x_s_0_10 ?x_s_1_0 ?x_s_1_2 ?x_s_1_3 ?x_s_1_4 ?x_s_1_5 ?x_s_1_6 ?x_s_1_7 ?x_s_1_8 ?x_s_1_9 ?x_s_1_10 ?x_s_2_0 ?x_s_2_1 ?x_s_2_3 ?x_s_2_4 ?x_s_2_5 ?x_s_2_6 ?x_s_2_7 ?x_s_2_8 ?x_s_2_9 ?x_s_2_10 ?x_s_3_0 ?x_s_3_1 ?x_s_3_2 ?x_s_3_4 ?x_s_3_5 ?x_s_3_6 ?x_s_3_7 ?x_s_3_8 ?x_s_3_9 ?x_s_3_10 ?x_s_4_0 ?x_s_4_1 ?x_s_4_2 ?x_s_4_3 ?x_s_4_5 ?x_s_4_6 ?x_s_4_7 ?x_s_4_8 ?x_s_4_9 ?x_s_4_10 ?x_s_5_0 ?x_s_5_1 ?x_s_5_2 ?x_s_5_3 ?x_s_5_4 ?x_s_5_6 ?x_s_5_7 ?x_s_5_8 ?x_s_5_9 ?x_s_5_10 ?x_s_6_0 ?x_s_6_1 ?x_s_6_2 ?x_s_6_3 ?x_s_6_4 ?x_s_6_5 ?x_s_6_7 ?x_s_6_8 ?x_s_6_9 ?x_s_6_10 ?x_s_7_0 ?x_s_7_1 ?x_s_7_2 ?x_s_7_3 ?x_s_7_4 ?x_s_7_5 ?x_s_7_6 ?x_s_7_8 ?x_s_7_9 ?x_s_7_10 ?x_s_8_0 ?x_s_8_1 ?x_s_8_2 ?x_s_8_3 ?x_s_8_4 ?x_s_8_5 ?x_s_8_6 ?x_s_8_7 ?x_s_8_9 ?x_s_8_10 ?x_s_9_0 ?x_s_9_1 ?x_s_9_2 ?x_s_9_3 ?x_s_9_4 ?x_s_9_5 ?x_s_9_6 ?x_s_9_7 ?x_s_9_8 ?x_s_9_10 ?x_s_10_0 ?x_s_10_1 ?x_s_10_2 ?x_s_10_3 ?x_s_10_4 ?x_s_10_5 ?x_s_10_6 ?x_s_10_7 ?x_s_10_8 ?x_s_10_9 ?ic_LoadError ?tC_LoadError ?x_l_0 ?x_l_1 ?x_l_2 ?x_l_3 ?x_l_4 ?x_l_5 ?x_l_6 ?x_l_7 ?x_l_8 ?x_l_9 ?x_l_10 ?x_v_0 ?x_v_1 ?x_v_2 ?x_v_3 ?x_v_4 ?x_v_5 ?x_v_6 ?x_v_7 ?x_v_8 ?x_v_9 ?x_v_10 ?ty2 ?ty3 ?xc_NoLibrary ?xm_NoLibrary ?xc_NoStore ?xm_NoStore ?xc_NoName ?xm_NoName ?xc_Missing ?xm_Missing ?xc_NoSymbol ?xm_NoSymbol ?xc_NoPreloads ?xm_NoPreloads ?xc_NotLoaded ?xm_NotLoaded ?xc_NotUsed ?xm_NotUsed ?xc_Unresolved ?xm_Unresolved ?xc_NoHandle ?xm_NoHandle ?xc_NoWishes ?xm_NoWishes
    (case g0_LoadError => k_is)
    (case g0_NoLibrary => k_is)
    (case g0_NoStore => k_is)
    (case g0_NoName => k_is)
    (case g0_Missing => k_is)
    (case g0_NoSymbol => k_is)
    (case g0_NoPreloads => k_is)
    (case g0_NotLoaded => k_is)
    (case g0_NotUsed => k_is)
    (case g0_Unresolved => k_is)
    (case g0_NoHandle => k_is)
    (case g0_NoWishes => k_is)
    (case at_NoLibrary___init__ => k_is)
    (case at_NoStore___init__ => k_is)
    (case at_NoName___init__ => k_is)
    (case at_Missing___init__ => k_is)
    (case at_NoSymbol___init__ => k_is)
    (case at_NoPreloads___init__ => k_is)
    (case at_NotLoaded___init__ => k_is)
    (case at_NotUsed___init__ => k_is)
    (case at_Unresolved___init__ => k_is)
    (case at_NoHandle___init__ => k_is)
    (case at_NoWishes___init__ => k_is)
    (case g0__law_well => k_is)
    (case g0__law_draw => k_is)
    (case g0__law_one => k_is)
    (case g0__law_errors => k_is)
    (case g0__law_kinds => k_is)
    (case g0_law => k_is)
    (case l_NoLibrary___init__ => k_is)
    (case cd1_NoLibrary___init__ => k_is)
    (case kp_NoLibrary___init__ => k_is)
    (case l_NoStore___init__ => k_is)
    (case cd1_NoStore___init__ => k_is)
    (case kp_NoStore___init__ => k_is)
    (case l_NoName___init__ => k_is)
    (case cd1_NoName___init__ => k_is)
    (case kp_NoName___init__ => k_is)
    (case l_Missing___init__ => k_is)
    (case cd1_Missing___init__ => k_is)
    (case kp_Missing___init__ => k_is)
    (case l_NoSymbol___init__ => k_is)
    (case cd1_NoSymbol___init__ => k_is)
    (case kp_NoSymbol___init__ => k_is)
    (case l_NoPreloads___init__ => k_is)
    (case cd1_NoPreloads___init__ => k_is)
    (case kp_NoPreloads___init__ => k_is)
    (case l_NotLoaded___init__ => k_is)
    (case cd1_NotLoaded___init__ => k_is)
    (case kp_NotLoaded___init__ => k_is)
    (case l_NotUsed___init__ => k_is)
    (case cd1_NotUsed___init__ => k_is)
    (case kp_NotUsed___init__ => k_is)
    (case l_Unresolved___init__ => k_is)
    (case cd1_Unresolved___init__ => k_is)
    (case kp_Unresolved___init__ => k_is)
    (case l_NoHandle___init__ => k_is)
    (case cd1_NoHandle___init__ => k_is)
    (case kp_NoHandle___init__ => k_is)
    (case l_NoWishes___init__ => k_is)
    (case cd1_NoWishes___init__ => k_is)
    (case kp_NoWishes___init__ => k_is)
    (case l__law_well => k_is)
    (case cd1__law_well => k_is)
    (case kp__law_well => k_is)
    (case l__law_draw => k_is)
    (case cd1__law_draw => k_is)
    (case kp__law_draw => k_is)
    (case l__law_one => k_is)
    (case cd1__law_one => k_is)
    (case kp__law_one => k_is)
    (case l__law_errors => k_is)
    (case cd1__law_errors => k_is)
    (case kp__law_errors => k_is)
    (case l__law_kinds => k_is)
    (case cd1__law_kinds => k_is)
    (case kp__law_kinds => k_is)
    (case l_law => k_is)
    (case cd1_law => k_is)
    (case kp_law => k_is)
    (case z_ValueError => k_is)
    (case z_bool => k_is)
    (case z_enumerate => k_is)
    (case z_int => k_is)
    (case z_isinstance => k_is)
    (case z_len => k_is)
    (case z_list => k_is)
    (case z_range => k_is)
    (case ld_ga => k_is)
    (case ld_rd => k_is)
    (case ld_fc => k_is)
    (case xl_NoLibrary => k_is)
    (case rb_NoLibrary => decide +kernel)
    (case sa_NoLibrary => k_is)
    (case eC_NoLibrary => k_is)
    (case tC_NoLibrary => k_is)
    (case kC_NoLibrary => k_is)
    (case ti_NoLibrary => k_is)
    (case nb_NoLibrary => k_is)
    (case ga_NoLibrary => k_is)
    (case gg_NoLibrary => k_is)
    (case hd_NoLibrary => k_is)
    (case te_NoLibrary => first | rfl | k_is)
    (case ic_NoLibrary => k_is)
    (case xl_NoStore => k_is)
    (case rb_NoStore => decide +kernel)
    (case sa_NoStore => k_is)
    (case eC_NoStore => k_is)
    (case tC_NoStore => k_is)
    (case kC_NoStore => k_is)
    (case ti_NoStore => k_is)
    (case nb_NoStore => k_is)
    (case ga_NoStore => k_is)
    (case gg_NoStore => k_is)
    (case hd_NoStore => k_is)
    (case te_NoStore => first | rfl | k_is)
    (case ic_NoStore => k_is)
    (case xl_NoName => k_is)
    (case rb_NoName => decide +kernel)
    (case sa_NoName => k_is)
    (case eC_NoName => k_is)
    (case tC_NoName => k_is)
    (case kC_NoName => k_is)
    (case ti_NoName => k_is)
    (case nb_NoName => k_is)
    (case ga_NoName => k_is)
    (case gg_NoName => k_is)
    (case hd_NoName => k_is)
    (case te_NoName => first | rfl | k_is)
    (case ic_NoName => k_is)
    (case xl_Missing => k_is)
    (case rb_Missing => decide +kernel)
    (case sa_Missing => k_is)
    (case eC_Missing => k_is)
    (case tC_Missing => k_is)
    (case kC_Missing => k_is)
    (case ti_Missing => k_is)
    (case nb_Missing => k_is)
    (case ga_Missing => k_is)
    (case gg_Missing => k_is)
    (case hd_Missing => k_is)
    (case te_Missing => first | rfl | k_is)
    (case ic_Missing => k_is)
    (case xl_NoSymbol => k_is)
    (case rb_NoSymbol => decide +kernel)
    (case sa_NoSymbol => k_is)
    (case eC_NoSymbol => k_is)
    (case tC_NoSymbol => k_is)
    (case kC_NoSymbol => k_is)
    (case ti_NoSymbol => k_is)
    (case nb_NoSymbol => k_is)
    (case ga_NoSymbol => k_is)
    (case gg_NoSymbol => k_is)
    (case hd_NoSymbol => k_is)
    (case te_NoSymbol => first | rfl | k_is)
    (case ic_NoSymbol => k_is)
    (case xl_NoPreloads => k_is)
    (case rb_NoPreloads => decide +kernel)
    (case sa_NoPreloads => k_is)
    (case eC_NoPreloads => k_is)
    (case tC_NoPreloads => k_is)
    (case kC_NoPreloads => k_is)
    (case ti_NoPreloads => k_is)
    (case nb_NoPreloads => k_is)
    (case ga_NoPreloads => k_is)
    (case gg_NoPreloads => k_is)
    (case hd_NoPreloads => k_is)
    (case te_NoPreloads => first | rfl | k_is)
    (case ic_NoPreloads => k_is)
    (case xl_NotLoaded => k_is)
    (case rb_NotLoaded => decide +kernel)
    (case sa_NotLoaded => k_is)
    (case eC_NotLoaded => k_is)
    (case tC_NotLoaded => k_is)
    (case kC_NotLoaded => k_is)
    (case ti_NotLoaded => k_is)
    (case nb_NotLoaded => k_is)
    (case ga_NotLoaded => k_is)
    (case gg_NotLoaded => k_is)
    (case hd_NotLoaded => k_is)
    (case te_NotLoaded => first | rfl | k_is)
    (case ic_NotLoaded => k_is)
    (case xl_NotUsed => k_is)
    (case rb_NotUsed => decide +kernel)
    (case sa_NotUsed => k_is)
    (case eC_NotUsed => k_is)
    (case tC_NotUsed => k_is)
    (case kC_NotUsed => k_is)
    (case ti_NotUsed => k_is)
    (case nb_NotUsed => k_is)
    (case ga_NotUsed => k_is)
    (case gg_NotUsed => k_is)
    (case hd_NotUsed => k_is)
    (case te_NotUsed => first | rfl | k_is)
    (case ic_NotUsed => k_is)
    (case xl_Unresolved => k_is)
    (case rb_Unresolved => decide +kernel)
    (case sa_Unresolved => k_is)
    (case eC_Unresolved => k_is)
    (case tC_Unresolved => k_is)
    (case kC_Unresolved => k_is)
    (case ti_Unresolved => k_is)
    (case nb_Unresolved => k_is)
    (case ga_Unresolved => k_is)
    (case gg_Unresolved => k_is)
    (case hd_Unresolved => k_is)
    (case te_Unresolved => first | rfl | k_is)
    (case ic_Unresolved => k_is)
    (case xl_NoHandle => k_is)
    (case rb_NoHandle => decide +kernel)
    (case sa_NoHandle => k_is)
    (case eC_NoHandle => k_is)
    (case tC_NoHandle => k_is)
    (case kC_NoHandle => k_is)
    (case ti_NoHandle => k_is)
    (case nb_NoHandle => k_is)
    (case ga_NoHandle => k_is)
    (case gg_NoHandle => k_is)
    (case hd_NoHandle => k_is)
    (case te_NoHandle => first | rfl | k_is)
    (case ic_NoHandle => k_is)
    (case xl_NoWishes => k_is)
    (case rb_NoWishes => decide +kernel)
    (case sa_NoWishes => k_is)
    (case eC_NoWishes => k_is)
    (case tC_NoWishes => k_is)
    (case kC_NoWishes => k_is)
    (case ti_NoWishes => k_is)
    (case nb_NoWishes => k_is)
    (case ga_NoWishes => k_is)
    (case gg_NoWishes => k_is)
    (case hd_NoWishes => k_is)
    (case te_NoWishes => first | rfl | k_is)
    (case ic_NoWishes => k_is)
    (case x_s_0_1 => k_is)
    (case x_s_0_2 => k_is)
    (case x_s_0_3 => k_is)
    (case x_s_0_4 => k_is)
    (case x_s_0_5 => k_is)
    (case x_s_0_6 => k_is)
    (case x_s_0_7 => k_is)
    (case x_s_0_8 => k_is)
    (case x_s_0_9 => k_is)
    (case x_s_0_10 => k_is)
    (case x_s_1_0 => k_is)
    (case x_s_1_2 => k_is)
    (case x_s_1_3 => k_is)
    (case x_s_1_4 => k_is)
    (case x_s_1_5 => k_is)
    (case x_s_1_6 => k_is)
    (case x_s_1_7 => k_is)
    (case x_s_1_8 => k_is)
    (case x_s_1_9 => k_is)
    (case x_s_1_10 => k_is)
    (case x_s_2_0 => k_is)
    (case x_s_2_1 => k_is)
    (case x_s_2_3 => k_is)
    (case x_s_2_4 => k_is)
    (case x_s_2_5 => k_is)
    (case x_s_2_6 => k_is)
    (case x_s_2_7 => k_is)
    (case x_s_2_8 => k_is)
    (case x_s_2_9 => k_is)
    (case x_s_2_10 => k_is)
    (case x_s_3_0 => k_is)
    (case x_s_3_1 => k_is)
    (case x_s_3_2 => k_is)
    (case x_s_3_4 => k_is)
    (case x_s_3_5 => k_is)
    (case x_s_3_6 => k_is)
    (case x_s_3_7 => k_is)
    (case x_s_3_8 => k_is)
    (case x_s_3_9 => k_is)
    (case x_s_3_10 => k_is)
    (case x_s_4_0 => k_is)
    (case x_s_4_1 => k_is)
    (case x_s_4_2 => k_is)
    (case x_s_4_3 => k_is)
    (case x_s_4_5 => k_is)
    (case x_s_4_6 => k_is)
    (case x_s_4_7 => k_is)
    (case x_s_4_8 => k_is)
    (case x_s_4_9 => k_is)
    (case x_s_4_10 => k_is)
    (case x_s_5_0 => k_is)
    (case x_s_5_1 => k_is)
    (case x_s_5_2 => k_is)
    (case x_s_5_3 => k_is)
    (case x_s_5_4 => k_is)
    (case x_s_5_6 => k_is)
    (case x_s_5_7 => k_is)
    (case x_s_5_8 => k_is)
    (case x_s_5_9 => k_is)
    (case x_s_5_10 => k_is)
    (case x_s_6_0 => k_is)
    (case x_s_6_1 => k_is)
    (case x_s_6_2 => k_is)
    (case x_s_6_3 => k_is)
    (case x_s_6_4 => k_is)
    (case x_s_6_5 => k_is)
    (case x_s_6_7 => k_is)
    (case x_s_6_8 => k_is)
    (case x_s_6_9 => k_is)
    (case x_s_6_10 => k_is)
    (case x_s_7_0 => k_is)
    (case x_s_7_1 => k_is)
    (case x_s_7_2 => k_is)
    (case x_s_7_3 => k_is)
    (case x_s_7_4 => k_is)
    (case x_s_7_5 => k_is)
    (case x_s_7_6 => k_is)
    (case x_s_7_8 => k_is)
    (case x_s_7_9 => k_is)
    (case x_s_7_10 => k_is)
    (case x_s_8_0 => k_is)
    (case x_s_8_1 => k_is)
    (case x_s_8_2 => k_is)
    (case x_s_8_3 => k_is)
    (case x_s_8_4 => k_is)
    (case x_s_8_5 => k_is)
    (case x_s_8_6 => k_is)
    (case x_s_8_7 => k_is)
    (case x_s_8_9 => k_is)
    (case x_s_8_10 => k_is)
    (case x_s_9_0 => k_is)
    (case x_s_9_1 => k_is)
    (case x_s_9_2 => k_is)
    (case x_s_9_3 => k_is)
    (case x_s_9_4 => k_is)
    (case x_s_9_5 => k_is)
    (case x_s_9_6 => k_is)
    (case x_s_9_7 => k_is)
    (case x_s_9_8 => k_is)
    (case x_s_9_10 => k_is)
    (case x_s_10_0 => k_is)
    (case x_s_10_1 => k_is)
    (case x_s_10_2 => k_is)
    (case x_s_10_3 => k_is)
    (case x_s_10_4 => k_is)
    (case x_s_10_5 => k_is)
    (case x_s_10_6 => k_is)
    (case x_s_10_7 => k_is)
    (case x_s_10_8 => k_is)
    (case x_s_10_9 => k_is)
    (case ic_LoadError => k_is)
    (case tC_LoadError => k_is)
    (case x_l_0 => k_is)
    (case x_l_1 => k_is)
    (case x_l_2 => k_is)
    (case x_l_3 => k_is)
    (case x_l_4 => k_is)
    (case x_l_5 => k_is)
    (case x_l_6 => k_is)
    (case x_l_7 => k_is)
    (case x_l_8 => k_is)
    (case x_l_9 => k_is)
    (case x_l_10 => k_is)
    (case x_v_0 => k_is)
    (case x_v_1 => k_is)
    (case x_v_2 => k_is)
    (case x_v_3 => k_is)
    (case x_v_4 => k_is)
    (case x_v_5 => k_is)
    (case x_v_6 => k_is)
    (case x_v_7 => k_is)
    (case x_v_8 => k_is)
    (case x_v_9 => k_is)
    (case x_v_10 => k_is)
    (case ty2 => k_is)
    (case ty3 => k_is)
    (case xc_NoLibrary => k_is)
    (case xm_NoLibrary => k_is)
    (case xc_NoStore => k_is)
    (case xm_NoStore => k_is)
    (case xc_NoName => k_is)
    (case xm_NoName => k_is)
    (case xc_Missing => k_is)
    (case xm_Missing => k_is)
    (case xc_NoSymbol => k_is)
    (case xm_NoSymbol => k_is)
    (case xc_NoPreloads => k_is)
    (case xm_NoPreloads => k_is)
    (case xc_NotLoaded => k_is)
    (case xm_NotLoaded => k_is)
    (case xc_NotUsed => k_is)
    (case xm_NotUsed => k_is)
    (case xc_Unresolved => k_is)
    (case xm_Unresolved => k_is)
    (case xc_NoHandle => k_is)
    (case xm_NoHandle => k_is)
    (case xc_NoWishes => k_is)
    (case xm_NoWishes => k_is)
