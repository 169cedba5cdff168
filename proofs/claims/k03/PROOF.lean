import PyProof.Rows.All
import Wide.All
import OpenK.AllK
import Wide.FinOn
import HandS.Strs
import HandS.OwnEq
import HandS.IsInst
import HandS.ExcInit
import HandS.ExcField
import HandS.TryMany
import HandS.Words
import HandS.WordsExc
import HandS.Evl
import HandS.ForMost
import HandS.TupAny
import HandS.Wide
import HandS.MakeKwOnly
import HandS.Style
import HandS.Walk
import HandS.Steps
import KE.KRevSl
import KE.DataCmp
import KE.KTryMore
import HandS.Dict
import KE.KxIndex
import HandS.NamedTupSort
import HandS.More
import HandS.DictComp
import PyProof.NeKinds
import PyProof.Rows.StrMeet
import PySem.Challenge.RW_scopebind_k03_stores
set_option Elab.async false
set_option linter.all false
set_option maxRecDepth 100000
set_option maxHeartbeats 4000000
set_option Elab.async false
set_option linter.all false
set_option maxRecDepth 100000
set_option maxHeartbeats 4000000
/-! set(tuple of texts), of any size below 1000: its length is the number of distinct texts -/
namespace SB
open PySem PySem.Spec PyProof.Rows L2

/-- how many distinct texts stand in a list -/
def dcnt : List Str → Nat
  | [] => 0
  | x :: r => if x ∈ r then dcnt r else dcnt r + 1
theorem dcnt_le : ∀ l : List Str, dcnt l ≤ l.length
  | [] => Nat.le_refl _
  | x :: r => by
    have ih := dcnt_le r
    unfold dcnt
    split
    · exact Nat.le_trans ih (Nat.le_succ _)
    · exact Nat.succ_le_succ ih
theorem dcnt_nodup : ∀ l : List Str, dcnt l = l.length ↔ l.Nodup
  | [] => by simp [dcnt]
  | x :: r => by
    have ih := dcnt_nodup r
    have le := dcnt_le r
    unfold dcnt
    by_cases hx : x ∈ r
    · rw [if_pos hx]
      constructor
      · intro h; simp at h; omega
      · intro h; exact absurd hx (List.nodup_cons.mp h).1
    · rw [if_neg hx, List.nodup_cons, ← ih]
      simp [hx]
/-- the count of a front, as the set's own loop finds it -/
def fcnt (xs : List Str) : Nat → Nat
  | 0 => 0
  | i + 1 => if (xs.take i).any (· == xs.getD i Str.empty) then fcnt xs i else fcnt xs i + 1
theorem fcnt_le (xs : List Str) : ∀ i, fcnt xs i ≤ i
  | 0 => Nat.le_refl _
  | i + 1 => by
    have ih := fcnt_le xs i
    unfold fcnt
    split <;> omega
theorem fcnt_eq_iff (xs : List Str) : ∀ i, i ≤ xs.length → (fcnt xs i = i ↔ (xs.take i).Nodup)
  | 0, _ => by simp [fcnt]
  | i + 1, hi => by
    have ih := fcnt_eq_iff xs i (by omega)
    have le := fcnt_le xs i
    have e : xs.getD i Str.empty = xs[i] := by simp [show i < xs.length by omega]
    have e2 : xs.take (i + 1) = xs.take i ++ [xs[i]] := by
      rw [List.take_add_one, List.getElem?_eq_getElem (by omega)]; rfl
    unfold fcnt
    rw [e, e2]
    by_cases hm : xs[i] ∈ xs.take i
    · have hb : ((xs.take i).any (· == xs[i])) = true := List.any_eq_true.mpr ⟨_, hm, by simp⟩
      rw [if_pos hb]
      constructor
      · intro h; omega
      · intro h
        have := (List.nodup_append.mp h).2.2
        exact absurd rfl (this _ hm _ (by simp))
    · have hb : ((xs.take i).any (· == xs[i])) = false := by
        cases q : (xs.take i).any (· == xs[i]) with
        | false => rfl
        | true =>
          obtain ⟨y, hy, ey⟩ := List.any_eq_true.mp q
          exact absurd ((eq_of_beq ey) ▸ hy) hm
      rw [if_neg (by rw [hb]; decide)]
      constructor
      · intro h
        have h2 := ih.mp (by omega)
        refine List.nodup_append.mpr ⟨h2, by simp, fun a ha b hb' => ?_⟩
        simp at hb'
        subst hb'
        intro q; subst q; exact hm ha
      · intro h
        have := ih.mpr (List.nodup_append.mp h).1
        omega

section
variable {P : Program} {w : World} {A : Around} {R : Result → Shared → Prop} {it : Addr} {fp wr : List Addr} {G : Array GenState → Array GenState → Prop} {n : Nat} {Yl : Nat → Value → Prop} {Z : Nat → Shared → Prop}
abbrev sAt (xs : List Str) (i : Nat) : Str → Bool := fun k => (xs.take i).any fun y => y == k
theorem set_turns (W : WalksS P w A.in1 it fp wr G n Yl Z) (T : Addr) (hT : T ∉ fp) (xs : List Str) (hx : xs.length = n) (hn : n ≤ 1000)
    (yl : ∀ i v, Yl i v → ∃ tk, v = .str (xs.getD i Str.empty) tk) (m : Nat) :
    ∀ (i : Nat) (s : Shared), n - i = m → i ≤ n → Z i s → s.heap.SetOf (strKind P w) T (sAt xs i) (fcnt xs i) →
      (∀ s1, Moved (T :: wr) G s s1 → s1.heap.SetOf (strKind P w) T (sAt xs n) (fcnt xs n) → R (.ok (.ret .none)) s1) →
      codeAny (model P w) A (.builtin "set.update.loop" ⟨[.ref T, .ref it], []⟩) R s := by
  have hw : T ∉ wr := fun q => hT (W.sub _ q)
  have up : ∀ b ∈ wr, b ∈ T :: wr := fun b q => List.mem_cons_of_mem _ q
  induction m with
  | zero =>
    intro i s hm hi hz hset out
    obtain rfl : i = n := by omega
    refine codeAny_builtin F.entry_set_update_loop ?_
    rw [Around.under_plainId F.plain_set_update_loop _]
    show wpAny _ A.in1 (pyNext (.ref it) >>= _) _ _ s
    refine wpAny_bind (W.done s _ _ hz fun s1 mv => ?_)
    show wpAny _ A.in1 (ret Value.none) _ _ s1
    refine wpAny_pure (out s1 (mv.mono up) ?_)
    obtain ⟨o, es, ep, tb, ho, more⟩ := hset
    exact ⟨o, es, ep, tb, mv.heap T _ hw ho, more⟩
  | succ m ih =>
    intro i s hm hi hz hset out
    have lt : i < n := by omega
    refine codeAny_builtin F.entry_set_update_loop ?_
    rw [Around.under_plainId F.plain_set_update_loop _]
    show wpAny _ A.in1 (pyNext (.ref it) >>= _) _ _ s
    refine wpAny_bind (W.item i s _ _ lt hz fun v s1 hy hz1 mv => ?_)
    obtain ⟨tk, rfl⟩ := yl i v hy
    have set1 : s1.heap.SetOf (strKind P w) T (sAt xs i) (fcnt xs i) := by
      obtain ⟨o, es, ep, tb, ho, more⟩ := hset
      exact ⟨o, es, ep, tb, mv.heap T _ hw ho, more⟩
    show wpAny _ A.in1 (holding [Value.str (xs.getD i Str.empty) tk] (setAdd T (.str (xs.getD i Str.empty) tk)) >>= _) _ _ s1
    refine wpAny_bind (wpAny_holding ?_)
    unfold setAdd
    refine wpAny_holding (wpAny_bind ((strKind P w).pyHash (k := xs.getD i Str.empty) (strKind_is _ _ _ _) ?_))
    have fl := fcnt_le xs i
    refine wpAny_setAddHashed_of (knd := strKind P w) (s := { s1 with toks := s1.toks + 1 }) (strKind_is _ _ _ _) rfl set1 (by unfold scanBound; omega) fun h2 sb set2 => ?_
    have set3 : h2.SetOf (strKind P w) T (sAt xs (i + 1)) (fcnt xs (i + 1)) := by
      refine SetOf_congr set2 (fun k => ?_) (by rfl)
      have e : xs.getD i Str.empty = xs[i]'(by omega) := by simp [show i < xs.length by omega]
      have e2 : xs.take (i + 1) = xs.take i ++ [xs[i]'(by omega)] := by
        rw [List.take_add_one, List.getElem?_eq_getElem (by omega)]; rfl
      show (sAt xs i k || decide (k = xs.getD i Str.empty)) = (xs.take (i + 1)).any fun y => y == k
      rw [e2, List.any_append, e]
      show _ = (sAt xs i k || ([xs[i]'(by omega)].any fun y => y == k))
      congr 1
      by_cases q : k = xs[i]'(by omega)
      · rw [← q]; simp
      · have q2 : ((xs[i]'(by omega)) == k) = false := by simpa using fun z => q z.symm
        simp [q, q2]
    refine wpAny_pure ⟨plainId_quiet F.plain_set_update_loop _, ih (i + 1) _ (by omega) lt (W.frame _ s1 _ _ hz1 (Nat.le_succ _) fun b hb o e => ?_) set3 fun s3 mv3 set4 => ?_⟩
    · rw [sb.2 b fun z => hT (z ▸ hb)]; exact e
    · refine out s3 (Moved.trans W.gtrans ((mv.mono up).then_heap (Nat.le_succ _) fun b o hb e => ?_) mv3) set4
      rw [sb.2 b fun z => hb (z ▸ List.mem_cons_self)]; exact e
end
end SB

set_option Elab.async false
set_option linter.all false
set_option maxRecDepth 100000
set_option maxHeartbeats 8000000
namespace SB
open PySem PySem.Spec PyProof.Rows L2
section
variable {P : Program} {w : World} {A : Around} {E : Value → Shared → Prop} {s : Shared}
/-- an empty set that was just laid -/
abbrev set0 (led : Bool) : Obj := { cls := .type "set", dict := none, data := .set #[] 0 (.fresh 0 0 led) }
theorem set_init_tup {led : Bool} {l : Addr} {items : Array Value} {xs : List Str} {Q : Value → Shared → Prop} (hh : A.handled = none) (hl : s.heap.IsTuple l items) (hi : StrsAre items.toList xs) (hb : xs.length ≤ 1000)
    (k : ∀ (h1 : Heap) (tk : Nat), h1.SetOf (strKind P w) s.heap.objs.size (sAt xs xs.length) (fcnt xs xs.length) → (∀ b o, s.heap.get? b = some o → h1.get? b = some o) → Q .none { s with heap := h1, toks := tk }) :
    codeAny (model P w) A (.call (.builtin "set.__init__") ⟨[.ref s.heap.objs.size, .ref l], []⟩) (wants Q E) { s with heap := s.heap.push (set0 led) } := by
  have new : (s.heap.push (set0 led)).get? s.heap.objs.size = some (set0 led) := Heap.get?_push_size _ rfl
  have ty : Shared.TypeIs { s with heap := s.heap.push (set0 led) } (.ref s.heap.objs.size) "set" := ⟨_, new, rfl⟩
  refine codeAny_call_builtin F.called_set.init.plain F.entry_set_init (check_set_init_1 ty ?_)
  obtain ⟨ol, hol, hcl, nl, hdl⟩ := hl
  obtain ⟨oc, od, odt, osl⟩ := ol
  simp only at hcl hdl
  subst hcl; subst hdl
  have old : (s.heap.push (set0 led)).get? l = some { cls := .type "tuple", dict := od, data := .seq items nl, slots := osl } := Heap.get?_push_of_some _ hol
  have q1 := F.sub_tuple_set
  have q2 := F.sub_tuple_frozenset
  have q3 : (Value.type "tuple" == Value.type "dict") = false := by decide
  have tup1 : (s.heap.push (set0 led)).IsTuple l items := ⟨_, old, rfl, nl, rfl⟩
  unfold Builtin.«set.__init__» noKeywords Builtin.Frozenset.updateFrom
  generalize hp : pyIter = pit
  wp_walk
  subst hp
  refine wpAny_pyIter_tuple tup1 (wpAny_bind (wpAny_runValue ?_))
  have lt : l < s.heap.objs.size := Heap.lt_size hol
  have ne1 : l ≠ (s.heap.push (set0 led)).objs.size := by
    rw [Heap.size_push]; exact Nat.ne_of_lt (Nat.lt_succ_of_lt lt)
  have ne2 : s.heap.objs.size ∉ [(s.heap.push (set0 led)).objs.size, l] := by
    rw [Heap.size_push]
    intro z
    rcases List.mem_cons.mp z with z | z
    · exact absurd z (Nat.ne_of_lt (Nat.lt_succ_self _))
    · exact absurd (List.mem_singleton.mp z) (Nat.ne_of_gt lt)
  have sz : xs.length = items.size := by rw [← StrsAre.len_eq hi, Array.length_toList]
  have h3 : A.in1.in1.handled = none := by simp [hh]
  refine set_turns ((Walks.tuple h3 _ l ne1 items).toS) s.heap.objs.size ne2 xs sz (by omega) (fun i v hv => SS.strs_at hi i v (by rw [Array.getElem?_toList]; exact hv)) (items.size - 0) 0 _ (by omega) (Nat.zero_le _)
    ?c2 ?c0 ?c1
  case c2 => exact ⟨⟨_, Heap.get?_push_size _ rfl, rfl, rfl⟩, tup1.push _⟩
  case c0 =>
    have g : ((s.heap.push (set0 led)).push { cls := .type "tuple_iterator", data := .fields #[.ref l, .int 0 0] }).get? s.heap.objs.size = some (set0 led) := Heap.get?_push_of_some _ new
    exact SetOf_congr ((setObjOf_fresh (knd := strKind P w) led).setOf g (by unfold scanBound; omega)) (fun _ => rfl) rfl
  case c1 =>
    intro s1 mv set1
    obtain ⟨h1, g1, d1, tk1, os1⟩ := s1
    obtain rfl : g1 = s.gens := mv.gens
    obtain rfl : d1 = s.drawn := mv.drawn
    obtain rfl : os1 = s.os := mv.os
    show wpAny _ _ _ _ _ _
    refine wpAny_pure ?_
    show wpAny _ _ (ret Value.none) _ _ _
    rw [← sz] at set1
    refine wpAny_pure (k h1 tk1 set1 fun b o e => ?_)
    have b1 : b ≠ s.heap.objs.size := Nat.ne_of_lt (Heap.lt_size e)
    have b2 : b ≠ (s.heap.push (set0 led)).objs.size := by
      rw [Heap.size_push]; exact Nat.ne_of_lt (Nat.lt_succ_of_lt (Heap.lt_size e))
    refine mv.heap b o (fun z => ?_) (Heap.get?_push_of_some _ (Heap.get?_push_of_some _ e))
    rcases List.mem_cons.mp z with z | z
    · exact b1 z
    · exact b2 (List.mem_singleton.mp z)
theorem call_set_tup {l : Addr} {items : Array Value} {xs : List Str} {Q : Value → Shared → Prop} (hh : A.handled = none) (hl : s.heap.IsTuple l items) (hi : StrsAre items.toList xs) (hb : xs.length ≤ 1000)
    (k : ∀ (h1 : Heap) (tk : Nat), h1.SetOf (strKind P w) s.heap.objs.size (sAt xs xs.length) (fcnt xs xs.length) → (∀ b o, s.heap.get? b = some o → h1.get? b = some o) → Q (.ref s.heap.objs.size) { s with heap := h1, toks := tk }) :
    wpAny (model P w) A (call (.type "set") [.ref l]) Q E s := by
  obtain ⟨c, tl, mro⟩ := F.called_set.mro
  have made := F.called_set.made
  have sub := F.called_set.sub
  refine wpAny_call (codeAny_of_tree ?_)
  show wpAny _ _ (callAny (.type "set") _) _ _ _
  refine wpAny_pure ⟨Code.quiet_builtin _ (by decide +kernel), codeAny_builtin F.entry_type_call ?_⟩
  rw [Around.under_plain (weight_type_call_type "set" [.ref l] []) rfl]
  have z1 := F.called_set.notType
  have z2 := F.called_set.canCreate
  have z3 := F.typeCall_set_1 (.ref l)
  repeat (any_goals (first | assumption | wp_step))
  refine codeAny_mono (code_set_new_1 (.ref l) (E := E) (Q₁ := fun obj s1 => ∃ led : Bool, obj = .ref s.heap.objs.size ∧ s1 = { s with heap := s.heap.push (set0 led) }) fun led => ⟨led, rfl, rfl⟩) fun r s1 hr => ?_
  cases r with
  | error e => exact hr
  | ok fl =>
    cases fl with
    | ret obj =>
      obtain ⟨led, rfl, rfl⟩ := hr
      have li := F.called_set.init.lookup
      have bi := F.called_set.init.bind (.ref s.heap.objs.size)
      have new : (s.heap.push (set0 led)).get? s.heap.objs.size = some (set0 led) := Heap.get?_push_size _ rfl
      have ty : Shared.TypeIs { s with heap := s.heap.push (set0 led) } (.ref s.heap.objs.size) "set" := ⟨_, new, rfl⟩
      repeat (any_goals (first | assumption | wp_step))
      refine codeAny_mono (set_init_tup (s := s) (led := led) (P := P) (w := w) (E := E) (Q := fun r s2 => r = .none ∧ Q (.ref s.heap.objs.size) s2) (by simp [hh]) hl hi hb fun h1 tk a b => ⟨rfl, k h1 tk a b⟩) fun r2 s2 hr2 => ?_
      cases r2 with
      | error e => exact hr2
      | ok fl2 =>
        cases fl2 with
        | ret v =>
          obtain ⟨rfl, q⟩ := hr2
          repeat (any_goals (first | assumption | wp_step))
        | _ => exact hr2.elim
    | _ => exact hr.elim
end
/-- len(set(t)), t a tuple of texts -/
def tLenSetT (K : PySem.W.Frag) (ta : TE) : TE := fun σ H Q => ta σ H fun x H1 => ∃ (l : Addr) (xs : List Str), x = .ref l ∧ SqT K H1 l (xs.map V.str) ∧ xs.length ≤ 1000 ∧ Q (.int (fcnt xs xs.length : Nat)) H1
theorem pe_lenSetT {X : Cx} {a : Expr} {ta : TE} {p p2 q pos : Pos} (calm : X.calm = true) (gl : Gl X "len") (ml : X.mg "len" = none) (gs : Gl X "set") (ms : X.mg "set" = none) (ha : PE X a ta)
    (st : starEach [a] X.env = (false, eval a X.env) :: starEach [] X.env := by rfl) : PE X (.Call (.Name "len" p) [.Call (.Name "set" p2) [a] [] q] [] pos) (tLenSetT X.K ta) := by
  refine ⟨fun pins s σ H Q I h => ?_⟩
  refine Call_ (ld_blt I gl ml boot_len (callWith_builtin1 (args_cons ?_ rfl) rfl rfl))
  refine Call_ (ld_blt I gs ms boot_set ?_)
  refine callWith_type1 (args_cons (thn (ha.run pins s σ H _ I h) fun v s1 ⟨x, H1, I1, r1, y⟩ => args_nil ?_) st) st rfl
  obtain ⟨l, xs, rfl, hq, hb, y⟩ := y
  cases r1
  obtain ⟨its, r, pl, hz⟩ := I1.tuple hq
  refine call_set_tup (I1.ok.hd calm) pl (by simpa using strsAre_of r) hb fun h1 tk hs hk => args_nil ?_
  obtain ⟨o, es, ep, t, ho, hex, hd, _, _, _, hf, hn⟩ := hs
  have I2 : Inv X pins σ H1 { s1 with heap := h1, toks := tk } := I1.kept hk
  have fl := fcnt_le xs xs.length
  exact call_len_set ho hex hd hf (by rw [hn] <;> omega) ⟨.int (fcnt xs xs.length : Nat), H1, I2.tok _, ⟨_, by rw [hn]⟩, y⟩
end SB

set_option Elab.async false
set_option linter.all false
set_option maxRecDepth 100000
set_option maxHeartbeats 4000000
/-! own __contains__, __getitem__, __len__, __eq__ -/
namespace SB
open PySem PySem.Spec PyProof.Rows L2
section
variable {X : Cx} {CX : CXT} {k : Nat} {f C : Addr} {fd : FuncData} {ps : List Str} {sp : Sp} {E : XK}
theorem rv_ref {a : Addr} : L2.RelV (.ref a) (.ref a) := rfl
/-- a callee called at an inner place of the body -/
theorem run_at {A : Around} {pins : List (Addr × Obj)} {σ : L2.St} {H : Hp} {s : Shared} {Q : VK} {us : List Value} {vs : List V} (fr : A.frames = X.A.frames) (F : FnOk X.prog X.w X.K X.mg X.base CX k f fd ps sp) (hr : Room k A) (hb : Binds X.K fd ps []) (hx : Passes CX X E)
    (I : Inv X pins σ H s) (r : Vals vs us) (h : sp vs H Q E) : wpAny (model X.prog X.w) A (call (.ref f) us) (EP X pins σ Q) X.xe s := by
  have hl : us.length = ps.length := by rw [← r.length]; exact F.len _ _ _ _ h
  have e0 : Env0 X.prog X.w X.K X.mg X.base A X.stack s H := by
    have e := I.env0
    exact ⟨by rw [fr]; exact e.frames, e.mod, e.bs, e.bsz, e.funs, e.frf, e.hok, e.bare⟩
  have hb2 := hb s us I.kIn (by simpa using hl)
  rw [List.append_nil] at hb2
  refine wpAny_call (codeAny_mono (F.run A X.stack s H ⟨us, []⟩ us vs Q E hr e0 hb2 r h) fun r2 s2 hq => ?_)
  cases r2 with
  | error e => exact hx pins σ H s e s2 I hq
  | ok fl =>
    cases fl with
    | ret u => exact I.after hq
    | next => exact False.elim hq
    | brk => exact False.elim hq
    | cont => exact False.elim hq
/-- an own method that stands for an operator -/
structure Dun (K : PySem.W.Frag) (C : Addr) (n : Str) (f : Addr) : Prop where
  at_ : PySem.W.findIn K (.ref C) n = some (some (.ref f))
  fn : PySem.W.isFn K (.ref f) = true
theorem inst_of {pins : List (Addr × Obj)} {σ : L2.St} {H : Hp} {s : Shared} {a dx : Addr} {fs : List (Str × V)} (I : Inv X pins σ H s) (ha : H a = some (.ins C dx fs)) : ∃ (ox : Obj) (od : Option Obj), PySem.W.InstAt s.heap a ox C od := by
  obtain ⟨mA, J, _⟩ := ins_get I.hok ha
  obtain ⟨od, J, _⟩ := J.look
  exact ⟨_, _, J⟩
/-- x in o, o with its own __contains__ -/
def rInO (C : Addr) (sp : Sp) (E : XK) (neg : Bool) : R2 := fun x y H Q => ∃ a dx fs, y = .ref a ∧ H a = some (.ins C dx fs) ∧ sp [.ref a, x] H (fun v H2 => ∃ b, v = .bl b ∧ Q (.bl (if neg then !b else b)) H2) E
theorem op_inO (D : Dun X.K C "__contains__" f) (F : FnOk X.prog X.w X.K X.mg X.base CX k f fd ps sp) (hr : Room k X.A) (hb : Binds X.K fd ps []) (hx : Passes CX X E) : OpR X (compareOp .In) (rInO C sp E false) := by
  intro pins s σ H x y v u Q I rx ry h
  obtain ⟨a, dx, fs, rfl, ha, q⟩ := h
  cases ry
  obtain ⟨ox, od, J⟩ := inst_of I ha
  obtain ⟨m, hF⟩ := I.fr
  refine PySem.W.in_K hF I.ok.mod.kin J D.at_ D.fn (wpAny_mono (run_at rfl F hr hb hx I (.cons (rv_ref (a := a)) (.cons rx .nil)) q) (fun r s2 z => ?_) fun _ _ z => z)
  obtain ⟨w, H2, I2, rw', b, rfl, q2⟩ := z
  cases rw'
  exact wpAny_truthy_bool ⟨.bl b, H2, I2, rfl, q2⟩
theorem op_notInO (D : Dun X.K C "__contains__" f) (F : FnOk X.prog X.w X.K X.mg X.base CX k f fd ps sp) (hr : Room k X.A) (hb : Binds X.K fd ps []) (hx : Passes CX X E) : OpR X (compareOp .NotIn) (rInO C sp E true) := by
  intro pins s σ H x y v u Q I rx ry h
  obtain ⟨a, dx, fs, rfl, ha, q⟩ := h
  cases ry
  obtain ⟨ox, od, J⟩ := inst_of I ha
  obtain ⟨m, hF⟩ := I.fr
  refine PySem.W.notIn_K hF I.ok.mod.kin J D.at_ D.fn (wpAny_mono (run_at rfl F hr hb hx I (.cons (rv_ref (a := a)) (.cons rx .nil)) q) (fun r s2 z => ?_) fun _ _ z => z)
  obtain ⟨w, H2, I2, rw', b, rfl, q2⟩ := z
  cases rw'
  exact wpAny_truthy_bool ⟨.bl (!b), H2, I2, rfl, q2⟩
/-- o[x], o with its own __getitem__ -/
def tSubO (C : Addr) (sp : Sp) (E : XK) (ta tb : TE) : TE := fun σ H Q => ta σ H fun y H1 => tb σ H1 fun x H2 => ∃ a dx fs, y = .ref a ∧ H2 a = some (.ins C dx fs) ∧ sp [.ref a, x] H2 Q E
theorem pe_subO {a b : Expr} {ta tb : TE} {pos : Pos} (D : Dun X.K C "__getitem__" f) (fi : PySem.W.fnIn X.K f = true) (F : FnOk X.prog X.w X.K X.mg X.base CX k f fd ps sp) (hr : Room (k + 1) X.A) (hb : Binds X.K fd ps []) (hx : Passes CX X E) (ha : PE X a ta) (hb2 : PE X b tb)
    (hsl : ∀ o i, subscripted b true o i = runValue (.builtin "lifetime.subscript" ⟨[o, i], []⟩) := by intro _ _; rfl) : PE X (.Subscript a b pos) (tSubO C sp E ta tb) := by
  refine ⟨fun pins s σ H Q I h => ?_⟩
  refine Subscript_ (binT ha hb2 I h fun v u s2 x y H2 I2 rx ry z => ?_)
  obtain ⟨p, dx, fs, rfl, hp, q⟩ := z
  cases rx
  obtain ⟨ox, od, J⟩ := inst_of I2 hp
  obtain ⟨m, hF⟩ := I2.fr
  exact PySem.W.sub_K hF I2.ok.mod.kin J D.at_ fi D.fn (run_at rfl F hr.in1 hb hx I2 (.cons (rv_ref (a := p)) (.cons ry .nil)) q) (hsl _ _)
/-- len(o), o with its own __len__ -/
def rLenO (C : Addr) (sp : Sp) (E : XK) : List V → Hp → VK → Prop := fun xs H Q => ∃ a dx fs, xs = [.ref a] ∧ H a = some (.ins C dx fs) ∧ sp [.ref a] H (fun v H2 => ∃ n : Int, v = .int n ∧ 0 ≤ n ∧ n < 2 ^ 63 ∧ Q (.int n) H2) E
theorem call_lenO (D : Dun X.K C "__len__" f) (F : FnOk X.prog X.w X.K X.mg X.base CX k f fd ps sp) (hr : Room (k + 1) X.A) (hb : Binds X.K fd ps []) (hx : Passes CX X E) : CallR X (.builtin "len") (rLenO C sp E) := by
  intro pins s σ H xs us Q I r h
  obtain ⟨a, dx, fs, rfl, ha, q⟩ := h
  cases r with
  | cons r1 r2 =>
    cases r1; cases r2
    obtain ⟨ox, od, J⟩ := inst_of I ha
    obtain ⟨m, hF⟩ := I.fr
    refine PySem.W.len_K hF I.ok.mod.kin J D.at_ D.fn (wpAny_mono (run_at rfl F hr.in1 hb hx I (.cons (rv_ref (a := a)) .nil) q) (fun r s2 z => ?_) fun _ _ z => z)
    obtain ⟨w, H2, I2, rw', n, rfl, h0, h1, q2⟩ := z
    obtain ⟨t, rfl⟩ := rw'
    exact ⟨⟨h0, h1⟩, ⟨.int n, H2, I2.tok _, ⟨_, rfl⟩, q2⟩⟩
/-- o == x, o with its own __eq__; x of a type that does not stand below C, or C itself -/
def rEqO (K : PySem.W.Frag) (C : Addr) (sp : Sp) (E : XK) : R2 := fun x y H Q => ∃ a dx fs t, x = .ref a ∧ H a = some (.ins C dx fs) ∧ TyX K H y t ∧ PySem.W.notFirst K C t = true ∧ sp [.ref a, y] H (fun v H2 => ∃ b, v = .bl b ∧ Q (.bl b) H2) E
theorem op_eqO (D : Dun X.K C "__eq__" f) (F : FnOk X.prog X.w X.K X.mg X.base CX k f fd ps sp) (hr : Room k X.A) (hb : Binds X.K fd ps []) (hx : Passes CX X E) : OpR X (compareOp .Eq) (rEqO X.K C sp E) := by
  intro pins s σ H x y v u Q I rx ry h
  obtain ⟨a, dx, fs, t, rfl, ha, ty, nf, q⟩ := h
  cases rx
  obtain ⟨ox, od, J⟩ := inst_of I ha
  obtain ⟨m, hF⟩ := I.fr
  obtain ⟨Pr, Z, p, hne⟩ := kit_of I ry ty
  show wpAny (model X.prog X.w) X.A (richCompare .Eq (.ref a) u) (EP X pins σ Q) X.xe s
  refine PySem.W.cmp_K (op := .Eq) hr.units0 hF I.ok.mod.kin J (Z.ty _ _ I.kIn p) nf D.at_ D.fn (wpAny_mono (run_at rfl F hr hb hx I (.cons (rv_ref (a := a)) (.cons ry .nil)) q) (fun r s2 z => ?_) fun _ _ z => z)
  obtain ⟨w, H2, I2, rw', b, rfl, q2⟩ := z
  cases rw'
  exact ⟨.bl b, H2, I2, rfl, q2⟩
end
end SB

set_option Elab.async false
set_option linter.all false
set_option maxRecDepth 100000
set_option maxHeartbeats 4000000
/-! the program's own errors: made, raised, their one value read -/
namespace SB
open PySem PySem.Spec PyProof.Rows L2 Evl
/-- the base class of the errors, as the top leaves it -/
structure LdC (K : PySem.W.Frag) (mg : Str → Option Value) (L : Addr) : Prop where
  g : mg "LoadError" = some (.ref L)
  ga : PySem.W.specialIn K (.ref L) "__getattribute__" = some (some (.builtin "type.__getattribute__"))
  rd : PySem.W.readsIn K L (.type "type") = true
  fc : PySem.W.findCls K (.ref L) (.type "type") "__init__" = some (.val (.builtin "ValueError.__init__"))
section
variable {X : Cx} {e : Expr} {es : List Expr} {ta : TA} {p1 p2 pos : Pos} {L : Addr}
/-- LoadError.__init__(self, ..) -/
theorem pe_linit {pl : Sem Bool} (T : LdC X.K X.mg L) (gl : Gl X "LoadError") (ha : PA X (e :: es) ta)
    (hc : eval (.Call (.Attribute (.Name "LoadError" p1) "__init__" p2) (e :: es) [] pos) X.env = (do
      let o ← eval (.Name "LoadError" p1) X.env
      standAt p2.atName
      let (g, fst) ← holding [o] (getMethod o "__init__" pl)
      callWith pos g fst (backTo pos (starEach (e :: es) X.env)) (backToKw pos (keywordEach [] X.env))) := by rfl)
    (st : starEach (e :: es) X.env = (false, eval e X.env) :: starEach es X.env := by rfl) (pn : (backTo pos (starEach es X.env)).any (·.1) = false := by rfl) :
    PE X (.Call (.Attribute (.Name "LoadError" p1) "__init__" p2) (e :: es) [] pos) (tVeI X.K ta) := by
  refine ⟨fun pins s σ H Q I h => PySem.W.methodCall_KW (ld_glob I gl T.g ?_) hc⟩
  refine PySem.W.method_cls I.kIn T.ga (PySem.W.cls_value I.kIn T.rd T.fc (by decide +kernel) ?_)
  show wpAny _ _ (callWith pos (Value.builtin "ValueError.__init__") [] (backTo pos (starEach (e :: es) X.env)) []) _ _ _
  refine callWith_method1 (thn (ha.run pos pins _ σ H _ (I.tok _) h) fun us s1 ⟨vs, H1, I1, r1, a, C, ws, ev, hl, T2, ea, q⟩ => ?_) st pn
  subst ev
  cases r1 with
  | @cons _ u0 _ ur ra rw' =>
    obtain rfl : u0 = Value.ref a := ra
    refine oinit_ok T2 I1 ea ?_ fun s2 J => ⟨.non, H1, J, rfl, q⟩
    rw [← Paired.length rw', sizeLine_eq]
    omega
end
/-- what an error's __init__ does: its one value is kept under f -/
def spXi (K : PySem.W.Frag) (C : Addr) (f : Str) : Sp := fun vs H Q _ => ∃ (a : Addr) (v : V), vs = [.ref a, v] ∧ H a = some (exo a C none) ∧
  ∀ dx, H dx = none → dx ≠ a → Q .non (upd (upd H dx (exd dx [(f, v)])) a (exo a C (some dx)))
/-- an error class of the program: its maker keeps f -/
structure XC (K : PySem.W.Frag) (mg : Str → Option Value) (x : Str) (f : Str) (C fi : Addr) : Prop where
  g : mg x = some (.ref C)
  o : OexC K C
  i : PySem.W.findIn K (.ref C) "__init__" = some (some (.ref fi))
  t : PySem.W.typeIn K (.ref fi) = some (.type "function")
  no : PySem.W.findIn K (.ref C) f = some none
  xf : XfC K C
  te : PySem.W.exmOne K (.ref C) (.ref C) = some true
/-- X(e): the new error's class and its dict -/
def tMkX (C : Addr) (f : Str) (ta : TA) : L2.St → Hp → XK → Prop := fun σ H Q => ta σ H fun vs H1 => ∃ v, vs = [v] ∧ ∀ d H2, Ex H1 H2 → H1 d = none → H2 d = some (.xd [(f, v)]) → Q (.ref C) (some d) H2
section
variable {X : Cx} {x f : Str} {C fi : Addr} {fd : FuncData} {k : Nat} {p pos : Pos} {e : Expr} {ta : TA}
/-- arguments, by any wish that implies -/
def tMonoA (t : TA) : TA := fun σ H Q => ∃ Q0 : List V → Hp → Prop, t σ H Q0 ∧ ∀ vs H1, Q0 vs H1 → Q vs H1
theorem pa_mono {es : List Expr} {t : TA} (h : PA X es t) : PA X es (tMonoA t) := by
  refine ⟨fun pos pins s σ H Q I z => ?_⟩
  obtain ⟨Q0, z, m⟩ := z
  exact thn (h.run pos pins s σ H Q0 I z) fun us s1 ⟨vs, H1, I1, r, q⟩ => ⟨vs, H1, I1, r, m vs H1 q⟩
theorem exd_ne {a e C : Addr} {d : Option Addr} {fs : List (Str × V)} {H : Hp} (h : H a = none) (he : H e = some (exo e C d)) : e ≠ a := fun z => by
  rw [z, h] at he; cases he
theorem pmk_x (T : XC X.K X.mg x f C fi) (F1 : FnOk X.prog X.w X.K X.mg X.base CX0 k fi fd ["self", f] (spXi X.K C f)) (hr : Room (k + 1) X.A) (hb : Binds X.K fd ["self", f] []) (ha : PA X [e] ta) (gl : Gl X x)
    (hdb : (x == ("__debug__" : Str)) = false := by decide) (he : starEach (e :: []) X.env = (false, eval e X.env) :: starEach [] X.env := by rfl) (hpl : (backTo pos (starEach [] X.env)).any (·.1) = false := by rfl) :
    PMk X (.Call (.Name x p) [e] [] pos) (tMkX C f ta) := by
  intro pins s σ H Q I h
  refine pmk_oex T.o T.i T.t F1 hr hb .nil pass0 gl T.g (pa_mono ha) hdb he hpl pins s σ H Q I ⟨_, h, fun vs H1 z => ?_⟩
  obtain ⟨v, rfl, q⟩ := z
  refine ⟨by show 1 ≤ 1000; decide, fun a na => ⟨a, v, rfl, upd_same, fun dx ndx ne => ⟨rfl, dx, [(f, v)], upd_same, ?_, ?_, ?_⟩⟩⟩
  · rw [upd_ne ne, upd_same]
  · rw [upd_ne ne] at ndx; exact ndx
  · have nd : H1 dx = none := by rw [upd_ne ne] at ndx; exact ndx
    refine q dx _ (fun b o hb => ?_) nd upd_same
    have b1 : b ≠ dx := ne_of_none hb nd
    have b2 : b ≠ a := ne_of_none hb na
    rw [upd_ne b1, del_ne b2, upd_ne b2, upd_ne b1, upd_ne b2]
    exact hb
end
end SB

set_option Elab.async false
set_option linter.all false
set_option maxRecDepth 100000
set_option maxHeartbeats 4000000
/-! readings step by step -/
namespace SB
open PySem L2 Evl
/-! ### the frozen part of a heap: G stands in H, and no m of M is in it -/
structure Fz (M : List Addr) (G H : Hp) : Prop where
  ex : Ex G H
  out : ∀ m ∈ M, G m = none
theorem Fz.up {M : List Addr} {G H H1 : Hp} (z : Fz M G H) (e : Ex H H1) : Fz M G H1 := ⟨z.ex.trans e, z.out⟩
theorem Fz.to {M : List Addr} {G H H1 : Hp} (z : Fz M G H) (e : ∀ b o, b ∉ M → H b = some o → H1 b = some o) : Fz M G H1 :=
  ⟨fun b o h => e b o (fun hm => by rw [z.out b hm] at h; cases h) (z.ex b o h), z.out⟩
/-- all that stands but M -/
def wo (M : List Addr) (H : Hp) : Hp := fun a => if a ∈ M then none else H a
theorem wo_fz (M : List Addr) (H : Hp) : Fz M (wo M H) H := ⟨fun b o h => by
  unfold wo at h
  split at h
  · cases h
  · exact h, fun m hm => by unfold wo; rw [if_pos hm]⟩
theorem wo_at {M : List Addr} {H : Hp} {a : Addr} {o : HO} (h : H a = some o) (hm : a ∉ M) : wo M H a = some o := by unfold wo; rw [if_neg hm]; exact h
theorem Fz.wo {M : List Addr} {G H : Hp} (z : Fz M G H) : Ex G (SB.wo M H) := fun b o h => wo_at (z.ex b o h) fun hm => by rw [z.out b hm] at h; cases h
/-- what is new in H1 joins the frozen part -/
theorem Fz.grow {M : List Addr} {G H H1 : Hp} (z : Fz M G H) (e : Ex H H1) (hM : ∀ m ∈ M, H m ≠ none) : ∃ G1, Ex G G1 ∧ Fz M G1 H1 ∧ ∀ b o, H b = none → H1 b = some o → G1 b = some o :=
  ⟨SB.wo M H1, (z.up e).wo, wo_fz M H1, fun b o hn hb => wo_at hb fun hm => hM b hm hn⟩

section
variable {σ : L2.St} {H : Hp} {D : Ends} {t u : TS} {te ta tb : TE} {tA tB : TA} {tt : TT} {g : TG} {Q : VK} {QA : List V → Hp → Prop} {QT : Bool → Hp → Prop} {i : Nat} {v : V} {r : R2} {K : PySem.W.Frag}
theorem r_seq (h : t { D with nx := u D } σ H) : tSeq t u D σ H := h
theorem r_next (h : D.nx σ H) : tNext D σ H := h
theorem r_asg (h : te σ H fun x H1 => g x σ H1 D.nx) : tAsg te g D σ H := h
theorem r_name {Q : L2.St → Hp → Prop} (h : Q (σ.set i (some v)) H) : gName i v σ H Q := h
theorem r_ret (h : te σ H D.rt) : tRet te D σ H := h
theorem r_retN (h : D.rt .non H) : tRetN D σ H := h
theorem r_drop (h : te σ H fun _ H1 => D.nx σ H1) : tDrop te D σ H := h
theorem r_if (h : tt σ H fun b H1 => if b = true then t D σ H1 else u D σ H1) : tIfS tt t u D σ H := h
theorem r_var (h : σ[i]? = some (some v)) (q : Q v H) : tVar i σ H Q := ⟨v, h, q⟩
theorem r_c (q : Q v H) : tC v σ H Q := q
theorem r_op (h : ta σ H fun x H1 => tb σ H1 fun y H2 => r x y H2 Q) : tOp r ta tb σ H Q := h
theorem r_un {r : V → Hp → VK → Prop} (h : ta σ H fun x H1 => r x H1 Q) : tUn r ta σ H Q := h
theorem r_nil (h : QA [] H) : tNil σ H QA := h
theorem r_cons (h : ta σ H fun x H1 => tA σ H1 fun xs H2 => QA (x :: xs) H2) : tCons ta tA σ H QA := h
theorem r_CB {r : List V → Hp → VK → Prop} (h : tA σ H fun vs H1 => r vs H1 Q) : tCB r tA σ H Q := h
theorem r_call {sp : Sp} {dvs : List V} {E : XK} (h : tA σ H fun vs H1 => sp (vs ++ dvs) H1 Q E) : tCall sp dvs E tA σ H Q := h
theorem r_test {te : TE} (h : te σ H fun x H1 => ∃ k, x = .bl k ∧ QT k H1) : tTest te σ H QT := h
theorem r_B {te : TE} (h : te σ H fun x H1 => ∃ k, x = .bl k ∧ QT k H1) : L2.tB te σ H QT := h
theorem r_not {tt : TT} (h : tt σ H fun c H1 => QT (!c) H1) : tNot tt σ H QT := h
theorem r_and {tt uu : TT} (h : tt σ H fun c H1 => if c = true then uu σ H1 QT else QT false H1) : tAnd tt uu σ H QT := h
theorem r_or {tt uu : TT} (h : tt σ H fun c H1 => if c = true then QT true H1 else uu σ H1 QT) : tOr tt uu σ H QT := h
theorem r_notV (h : ta σ H fun x H1 => ∃ c, x = .bl c ∧ Q (.bl (!c)) H1) : tNotV ta σ H Q := h
theorem r_andV (h : ta σ H fun x H1 => ∃ c, x = .bl c ∧ if c = true then tb σ H1 Q else Q (.bl false) H1) : tAndV ta tb σ H Q := h
theorem r_orV (h : ta σ H fun x H1 => ∃ c, x = .bl c ∧ if c = true then Q (.bl true) H1 else tb σ H1 Q) : tOrV ta tb σ H Q := h
theorem r_ifE {tt : TT} (h : tt σ H fun c H1 => if c = true then ta σ H1 Q else tb σ H1 Q) : tIf tt ta tb σ H Q := h
theorem r_bl {c : Bool} {P : Bool → Prop} (h : P c) : ∃ k, V.bl c = .bl k ∧ P k := ⟨c, rfl, h⟩
/-- int op int -/
theorem r_I0 {g : Int → Int → V} {a b : Int} (h : Q (g a b) H) : rI0 g (.int a) (.int b) H Q := ⟨a, b, rfl, rfl, h⟩
theorem r_I {C : Int → Int → Prop} {g : Int → Int → V} {a b : Int} (c : C a b) (h : Q (g a b) H) : rI C g (.int a) (.int b) H Q := ⟨a, b, rfl, rfl, c, h⟩
theorem r_eq {x y : V} (s : scal x y = true) (h : Q (.bl (decide (x = y))) H) : rEq x y H Q := ⟨s, h⟩
theorem r_ne {x y : V} (s : scal x y = true) (h : Q (.bl (!decide (x = y))) H) : rNe x y H Q := ⟨s, h⟩
/-- new lists and tuples -/
theorem r_lst (h : tA σ H fun xs H1 => xs.length ≤ 100000 ∧ ∀ p H2, H1 p = none → Ex H1 H2 → H2 p = some (.lst xs) → Q (.ref p) H2) : tLst (tMonoA tA) σ H Q :=
  ⟨_, h, fun xs H1 z => ⟨sz_of z.1, fun p hp => z.2 p _ hp (Ex.new hp) upd_same⟩⟩
theorem r_iteT {A B : Prop} {c : Bool} (hc : c = true) (h : A) : if c = true then A else B := by rw [if_pos hc]; exact h
theorem r_iteF {A B : Prop} {c : Bool} (hc : c = false) (h : B) : if c = true then A else B := by rw [hc, if_neg Bool.false_ne_true]; exact h
theorem r_ite {A B : Prop} {c : Bool} (h1 : c = true → A) (h2 : c = false → B) : if c = true then A else B := by
  cases c with
  | true => exact iteT (h1 rfl)
  | false => exact iteF (h2 rfl)
/-- the size premise of a new list or tuple, and the new place -/
theorem r_new {xs : List V} {o : HO} {H1 : Hp} (hl : xs.length ≤ 100000) (q : ∀ p H2, H1 p = none → Ex H1 H2 → H2 p = some o → Q (.ref p) H2) : xs.length ≤ sizeLine ∧ ∀ p, H1 p = none → Q (.ref p) (upd H1 p o) :=
  ⟨sz_of hl, fun p hp => q p _ hp (Ex.new hp) upd_same⟩
theorem r_new0 {o : HO} {H1 : Hp} (q : ∀ p H2, H1 p = none → Ex H1 H2 → H2 p = some o → Q (.ref p) H2) : ∀ p, H1 p = none → Q (.ref p) (upd H1 p o) := fun p hp => q p _ hp (Ex.new hp) upd_same
theorem r_tupT (h : tA σ H fun xs H1 => xs.length ≤ sizeLine ∧ ∀ p, H1 p = none → Q (.ref p) (upd H1 p (.tup xs))) : tTup tA σ H Q := h
theorem r_lstT (h : tA σ H fun xs H1 => xs.length ≤ sizeLine ∧ ∀ p, H1 p = none → Q (.ref p) (upd H1 p (.lst xs))) : tLst tA σ H Q := h
end
end SB

set_option Elab.async false
namespace SB
open PySem L2 Evl
/-- a drawing well at p: at most n mixed draws so far -/
def WellAt (H : Hp) (p : Addr) (n : Nat) : Prop := ∃ a b c : Int, H p = some (.lst [.int a, .int b, .int c]) ∧ 0 ≤ b ∧ b < 2147483647 ∧ 0 ≤ c ∧ c ≤ n
/-- all that stands but p stands -/
def Sm (p : Addr) (H H' : Hp) : Prop := ∀ b o, b ≠ p → H b = some o → H' b = some o
theorem WellAt.le {H : Hp} {p : Addr} {n m : Nat} (h : WellAt H p n) (e : n ≤ m) : WellAt H p m := by
  obtain ⟨a, b, c, h1, h2, h3, h4, h5⟩ := h
  exact ⟨a, b, c, h1, h2, h3, h4, by omega⟩
theorem WellAt.up {H H1 : Hp} {p : Addr} {n : Nat} (h : WellAt H p n) (e : Ex H H1) : WellAt H1 p n := by
  obtain ⟨a, b, c, h1, h2⟩ := h
  exact ⟨a, b, c, e _ _ h1, h2⟩
theorem WellAt.some {H : Hp} {p : Addr} {n : Nat} (h : WellAt H p n) : H p ≠ none := by
  obtain ⟨a, b, c, h1, _⟩ := h
  rw [h1]; intro z; cases z
theorem Sm.trans {p : Addr} {H H1 H2 : Hp} (a : Sm p H H1) (b : Sm p H1 H2) : Sm p H H2 := fun c o hc h => b c o hc (a c o hc h)
theorem Sm.of {p : Addr} {H H1 : Hp} (e : Ex H H1) : Sm p H H1 := fun b o _ h => e b o h
theorem Sm.refl {p : Addr} {H : Hp} : Sm p H H := fun _ _ _ h => h
theorem Sm.seq {K : PySem.W.Frag} {p l : Addr} {H H1 : Hp} {xs : List V} (e : Sm p H H1) (hl : l ≠ p) (h : SqL K H l xs) : SqL K H1 l xs := by
  rcases h with (h | ⟨o, h⟩) | h
  · exact .inl (.inl (e _ _ hl h))
  · exact .inl (.inr ⟨o, e _ _ hl h⟩)
  · exact .inr h
theorem atI0 {α : Type} {a b c : α} : atI [a, b, c] 0 = some a := rfl
theorem atI1 {α : Type} {a b c : α} : atI [a, b, c] 1 = some b := rfl
theorem atI2 {α : Type} {a b c : α} : atI [a, b, c] 2 = some c := rfl
theorem r_ixL {K : PySem.W.Frag} {p : Addr} {i : Int} {xs : List V} {v : V} {H : Hp} {Q : VK} (h : SqL K H p xs) (e : atI xs i = some v) (q : Q v H) : rIxL K (.ref p) (.int i) H Q := ⟨p, xs, i, v, rfl, rfl, h, e, q⟩
theorem r_setL {p : Addr} {i : Int} {xs : List V} {v : V} {j : Nat} {H : Hp} {Q : Hp → Prop} (h : H p = some (.lst xs)) (e : ixN xs.length i = some j) (q : ∀ H1, H1 p = some (.lst (xs.set j v)) → Sm p H H1 → Q H1) : rSetL (.ref p) (.int i) v H Q :=
  ⟨p, xs, i, j, rfl, rfl, h, e, q _ upd_same fun b o hb hh => by rw [upd_ne hb]; exact hh⟩
theorem r_sub {to ti : TE} {t : TSet} {v : V} {σ : L2.St} {H : Hp} {Q : L2.St → Hp → Prop} (h : to σ H fun o H1 => ti σ H1 fun i H2 => t o i v H2 fun H3 => Q σ H3) : gSub to ti t v σ H Q := h
theorem fmod_lt {x m : Int} (h : 0 < m) : 0 ≤ x.fmod m ∧ x.fmod m < m := ⟨Int.fmod_nonneg_of_pos _ h, Int.fmod_lt_of_pos _ h⟩
theorem atI_lt {α : Type} {xs : List α} {i : Int} (h0 : 0 ≤ i) (h1 : i < xs.length) : ∃ v, atI xs i = some v ∧ xs[i.toNat]? = some v := by
  have hl : i.toNat < xs.length := by omega
  refine ⟨xs[i.toNat], ?_, List.getElem?_eq_getElem hl⟩
  unfold atI ixN
  rw [if_pos h0, if_pos (by omega)]
  simp
/-! ### readings by name -/
theorem call_lenQ {X : Cx} : CallR X (.builtin "len") (rLenS X.K) := call_len_seq
theorem r_lenL {K : PySem.W.Frag} {p : Addr} {ys : List V} {H : Hp} {Q : VK} (h : SqL K H p ys) (q : Q (.int ys.length) H) : rLenS K [V.ref p] H Q := ⟨p, ys, rfl, .inl h, q⟩
theorem r_lenT {K : PySem.W.Frag} {p : Addr} {ys : List V} {H : Hp} {Q : VK} (h : SqT K H p ys) (q : Q (.int ys.length) H) : rLenS K [V.ref p] H Q := ⟨p, ys, rfl, .inr h, q⟩
def rLenStr : List V → Hp → VK → Prop := fun xs H Q => ∃ z, xs = [.str z] ∧ z.length ≤ sizeLine ∧ Q (.int (z.length : Nat)) H
theorem call_listQ {X : Cx} : CallR X (.type "list") (rListS X.K) := call_list_of
theorem r_listL {K : PySem.W.Frag} {p : Addr} {ys : List V} {H : Hp} {Q : VK} (h : SqL K H p ys) (q : ∀ l H1, H l = none → Ex H H1 → H1 l = some (.lst ys) → Q (.ref l) H1) : rListS K [V.ref p] H Q := ⟨p, ys, rfl, .inl h, r_new0 q⟩
theorem r_listT {K : PySem.W.Frag} {p : Addr} {ys : List V} {H : Hp} {Q : VK} (h : SqT K H p ys) (q : ∀ l H1, H l = none → Ex H H1 → H1 l = some (.lst ys) → Q (.ref l) H1) : rListS K [V.ref p] H Q := ⟨p, ys, rfl, .inr h, r_new0 q⟩
def rTupQ (K : PySem.W.Frag) : List V → Hp → VK → Prop := fun xs H Q => ∃ p ys, xs = [.ref p] ∧ ((SqL K H p ys ∧ ∀ l, H l = none → Q (.ref l) (upd H l (.tup ys))) ∨ (SqT K H p ys ∧ Q (.ref p) H))
theorem call_tupQ {X : Cx} : CallR X (.type "tuple") (rTupQ X.K) := call_tuple_of
theorem r_tupL {K : PySem.W.Frag} {p : Addr} {ys : List V} {H : Hp} {Q : VK} (h : SqL K H p ys) (q : ∀ l H1, H l = none → Ex H H1 → H1 l = some (.tup ys) → Q (.ref l) H1) : rTupQ K [V.ref p] H Q := ⟨p, ys, rfl, .inl ⟨h, r_new0 q⟩⟩
theorem r_tupT' {K : PySem.W.Frag} {p : Addr} {ys : List V} {H : Hp} {Q : VK} (h : SqT K H p ys) (q : Q (.ref p) H) : rTupQ K [V.ref p] H Q := ⟨p, ys, rfl, .inr ⟨h, q⟩⟩
def rIntQ : List V → Hp → VK → Prop := fun xs H Q => (∃ i, xs = [.int i] ∧ Q (.int i) H) ∨ ∃ k, xs = [.bl k] ∧ Q (.int (if k then 1 else 0)) H
theorem call_intQ {X : Cx} : CallR X (.type "int") rIntQ := call_int1
theorem r_intB {k : Bool} {H : Hp} {Q : VK} (q : Q (.int (if k then 1 else 0)) H) : rIntQ [.bl k] H Q := .inr ⟨k, rfl, q⟩
theorem r_all {K : PySem.W.Frag} {p : Addr} {bs : List Bool} {H : Hp} {Q : VK} (h : SqL K H p (bs.map V.bl)) (q : Q (.bl (bs.all id)) H) : rAll K [V.ref p] H Q := ⟨p, bs, rfl, h, q⟩
theorem r_any {K : PySem.W.Frag} {p : Addr} {bs : List Bool} {H : Hp} {Q : VK} (h : SqL K H p (bs.map V.bl)) (q : Q (.bl (bs.any id)) H) : rAny K [V.ref p] H Q := ⟨p, bs, rfl, h, q⟩
theorem r_isi {K : PySem.W.Frag} {x c : V} {t u : Value} {b : Bool} {H : Hp} {Q : VK} (hc : ClsV c u) (ty : TyX K H x t) (e : PySem.W.kitOne K t u = some b) (q : Q (.bl b) H) : rIsi K [x, c] H Q := ⟨x, c, t, u, b, rfl, hc, ty, e, q⟩
theorem r_chain {r r' : R2} {ta tb tc : TE} {σ : L2.St} {H : Hp} {Q : VK} (h : ta σ H fun x H1 => tb σ H1 fun y H2 => r x y H2 fun z H3 => ∃ k, z = .bl k ∧ (if k = true then tc σ H3 fun w' H4 => r' y w' H4 Q else Q (.bl false) H3)) : tChain r r' ta tb tc σ H Q := h
theorem r_lenSetT {K : PySem.W.Frag} {ta : TE} {σ : L2.St} {H : Hp} {Q : VK} (h : ta σ H fun x H1 => ∃ (l : Addr) (xs : List Str), x = .ref l ∧ SqT K H1 l (xs.map V.str) ∧ xs.length ≤ 1000 ∧ Q (.int (fcnt xs xs.length : Nat)) H1) : tLenSetT K ta σ H Q := h
/-! ### displays -/
def tLstM (tA : TA) : TE := fun σ H Q => tA σ H fun xs H1 => xs.length ≤ 100000 ∧ ∀ p H2, H1 p = none → Ex H1 H2 → H2 p = some (.lst xs) → Q (.ref p) H2
def tTupM (tA : TA) : TE := fun σ H Q => tA σ H fun xs H1 => xs.length ≤ 100000 ∧ ∀ p H2, H1 p = none → Ex H1 H2 → H2 p = some (.tup xs) → Q (.ref p) H2
theorem PE.by {X : Cx} {e : Expr} {t t' : TE} (h : PE X e t) (i : ∀ σ H Q, t' σ H Q → t σ H Q) : PE X e t' := ⟨fun pins s σ H Q I q => h.run pins s σ H Q I (i σ H Q q)⟩
theorem pe_lstM {X : Cx} {es : List Expr} {tA : TA} {pos : Pos} (h : PA X es tA) : PE X (.List es pos) (tLstM tA) :=
  PE.by (pe_lst (pa_mono h)) fun _ _ _ q => ⟨_, q, fun _ _ z => r_new z.1 z.2⟩
theorem pe_tupM {X : Cx} {es : List Expr} {tA : TA} {k : Nat} {pos : Pos} (h : PA X es tA) : PE X (.Tuple es k pos) (tTupM tA) :=
  PE.by (pe_tup (pa_mono h)) fun _ _ _ q => ⟨_, q, fun _ _ z => r_new z.1 z.2⟩
section
variable {tA : TA} {σ : L2.St} {H : Hp} {Q : VK}
theorem r_lstM (h : tA σ H fun xs H1 => xs.length ≤ 100000 ∧ ∀ p H2, H1 p = none → Ex H1 H2 → H2 p = some (.lst xs) → Q (.ref p) H2) : tLstM tA σ H Q := h
theorem r_tupM (h : tA σ H fun xs H1 => xs.length ≤ 100000 ∧ ∀ p H2, H1 p = none → Ex H1 H2 → H2 p = some (.tup xs) → Q (.ref p) H2) : tTupM tA σ H Q := h
end
/-! ### + and slices -/
theorem OpR.by {X : Cx} {f : Value → Value → Sem Value} {r r' : R2} (h : OpR X f r) (i : ∀ x y H Q, r' x y H Q → r x y H Q) : OpR X f r' := fun pins s σ H x y v u Q I rx ry q => h pins s σ H x y v u Q I rx ry (i x y H Q q)
def rCatM : R2 := fun x y H Q => ∃ l b xs zs, x = .ref l ∧ y = .ref b ∧ H l = some (.lst xs) ∧ H b = some (.lst zs) ∧ xs.length + zs.length ≤ 100000 ∧ ∀ p H1, H p = none → Ex H H1 → H1 p = some (.lst (xs ++ zs)) → Q (.ref p) H1
theorem op_catM {X : Cx} : OpR X (binaryOp .Add) rCatM := OpR.by op_cat fun x y H Q ⟨l, b, xs, zs, e1, e2, h1, h2, hz, q⟩ => ⟨l, b, xs, zs, e1, e2, h1, h2, sz_of hz, r_new0 q⟩
theorem r_catM {l b : Addr} {xs zs : List V} {H : Hp} {Q : VK} (h1 : H l = some (.lst xs)) (h2 : H b = some (.lst zs)) (hz : xs.length + zs.length ≤ 100000) (q : ∀ p H1, H p = none → Ex H H1 → H1 p = some (.lst (xs ++ zs)) → Q (.ref p) H1) : rCatM (.ref l) (.ref b) H Q :=
  ⟨l, b, xs, zs, rfl, rfl, h1, h2, hz, q⟩
def rCatTM (K : PySem.W.Frag) : R2 := fun x y H Q => ∃ a b xs ys, x = .ref a ∧ y = .ref b ∧ SqT K H a xs ∧ SqT K H b ys ∧ xs.length + ys.length ≤ 100000 ∧ ∀ p H1, Ex H H1 → SqT K H1 p (xs ++ ys) → Q (.ref p) H1
theorem op_catTM {X : Cx} : OpR X (binaryOp .Add) (rCatTM X.K) := OpR.by op_catA fun x y H Q ⟨a, b, xs, ys, e1, e2, h1, h2, hz, q⟩ => ⟨a, b, xs, ys, e1, e2, h1, h2, sz_of hz,
  fun e => q b H (Ex.refl H) (by rw [e]; exact h2), fun _ e => q a H (Ex.refl H) (by rw [e, List.append_nil]; exact h1), fun _ _ => r_new0 fun p H1 _ e hp => q p H1 e (st_of hp)⟩
theorem r_catTM {K : PySem.W.Frag} {a b : Addr} {xs ys : List V} {H : Hp} {Q : VK} (h1 : SqT K H a xs) (h2 : SqT K H b ys) (hz : xs.length + ys.length ≤ 100000) (q : ∀ p H1, Ex H H1 → SqT K H1 p (xs ++ ys) → Q (.ref p) H1) : rCatTM K (.ref a) (.ref b) H Q :=
  ⟨a, b, xs, ys, rfl, rfl, h1, h2, hz, q⟩
theorem SlR.by {X : Cx} {r r' : V → Option Int → Option Int → Hp → VK → Prop} (h : SlR X r) (i : ∀ x l u H Q, r' x l u H Q → r x l u H Q) : SlR X r' := fun pins s σ H x v vl vu lo hi sl Q I rx hs pl pu q => h pins s σ H x v vl vu lo hi sl Q I rx hs pl pu (i x lo hi H Q q)
def rSlLM (K : PySem.W.Frag) : V → Option Int → Option Int → Hp → VK → Prop := fun x lo hi H Q => ∃ a xs, x = .ref a ∧ SqL K H a xs ∧ ∀ p H1, H p = none → Ex H H1 → H1 p = some (.lst (cutV xs lo hi)) → Q (.ref p) H1
theorem sl_listM {X : Cx} : SlR X (rSlLM X.K) := SlR.by sl_list fun x l u H Q ⟨a, xs, e, h, q⟩ => ⟨a, xs, e, h, r_new0 q⟩
theorem r_slL {K : PySem.W.Frag} {a : Addr} {xs : List V} {lo hi : Option Int} {H : Hp} {Q : VK} (h : SqL K H a xs) (q : ∀ p H1, H p = none → Ex H H1 → H1 p = some (.lst (cutV xs lo hi)) → Q (.ref p) H1) : rSlLM K (.ref a) lo hi H Q := ⟨a, xs, rfl, h, q⟩
def rSlTM (K : PySem.W.Frag) : V → Option Int → Option Int → Hp → VK → Prop := fun x lo hi H Q => ∃ a xs, x = .ref a ∧ SqT K H a xs ∧ ∀ p H1, Ex H H1 → SqT K H1 p (cutV xs lo hi) → Q (.ref p) H1
theorem sl_tupM {X : Cx} : SlR X (rSlTM X.K) := SlR.by sl_tupA fun x l u H Q ⟨a, xs, e, h, q⟩ => ⟨a, xs, e, h, fun w => q a H (Ex.refl H) (by unfold cutV; rw [w.1, w.2]; simpa using h), fun _ => r_new0 fun p H1 _ e hp => q p H1 e (st_of hp)⟩
theorem r_slT {K : PySem.W.Frag} {a : Addr} {xs : List V} {lo hi : Option Int} {H : Hp} {Q : VK} (h : SqT K H a xs) (q : ∀ p H1, Ex H H1 → SqT K H1 p (cutV xs lo hi) → Q (.ref p) H1) : rSlTM K (.ref a) lo hi H Q := ⟨a, xs, rfl, h, q⟩
theorem r_sl {r : V → Option Int → Option Int → Hp → VK → Prop} {te : TE} {tl th : TO} {σ : L2.St} {H : Hp} {Q : VK} (h : te σ H fun x H1 => tl σ H1 fun l H2 => th σ H2 fun u H3 => r x l u H3 Q) : tSl r te tl th σ H Q := h
theorem r_noPart {σ : L2.St} {H : Hp} {Q : Option Int → Hp → Prop} (q : Q none H) : tNoPart σ H Q := q
theorem r_part {te : TE} {σ : L2.St} {H : Hp} {Q : Option Int → Hp → Prop} (h : te σ H fun x H1 => ∃ i, x = .int i ∧ Q (some i) H1) : tPart te σ H Q := h
theorem r_intEx {P : Int → Prop} {a : Int} (h : P a) : ∃ i, V.int a = .int i ∧ P i := ⟨a, rfl, h⟩
end SB

set_option Elab.async false
set_option linter.all false
set_option maxHeartbeats 4000000
namespace SB
open PySem L2 Evl
/-! ### readings closed upward -/
def mE (t : TE) : TE := fun σ H Q => ∃ Q0 : VK, t σ H Q0 ∧ ∀ v H1, Q0 v H1 → Q v H1
def mT (t : TT) : TT := fun σ H Q => ∃ Q0 : Bool → Hp → Prop, t σ H Q0 ∧ ∀ b H1, Q0 b H1 → Q b H1
def mG (t : TG) : TG := fun v σ H Q => ∃ Q0 : L2.St → Hp → Prop, t v σ H Q0 ∧ ∀ s H1, Q0 s H1 → Q s H1
section
variable {X : Cx}
theorem pe_m {e : Expr} {t : TE} (h : PE X e t) : PE X e (mE t) := ⟨fun pins s σ H Q I ⟨Q0, z, m⟩ => thn (h.run pins s σ H Q0 I z) fun _ _ ⟨v, H1, I1, r, q⟩ => ⟨v, H1, I1, r, m v H1 q⟩⟩
theorem pts_m {es : List Expr} {t : TT} (h : PTs X es t) : PTs X es (mT t) := ⟨fun pins s σ H Q I ⟨Q0, z, m⟩ => thn (h.run pins s σ H Q0 I z) fun b _ ⟨H1, I1, q⟩ => ⟨H1, I1, m b H1 q⟩⟩
theorem pt_m {e : Expr} {t : TT} (h : PT X e t) : PT X e (mT t) := ⟨fun pins s σ H Q I ⟨Q0, z, m⟩ => thn (h.run pins s σ H Q0 I z) fun b _ ⟨H1, I1, q⟩ => ⟨H1, I1, m b H1 q⟩⟩
theorem pg_m {e : Expr} {t : TG} (h : PG X e t) : PG X e (mG t) := ⟨fun pins s σ H v u Q I r ⟨Q0, z, m⟩ => thn (h.run pins s σ H v u Q0 I r z) fun _ _ ⟨s1, H1, I1, q⟩ => ⟨s1, H1, I1, m s1 H1 q⟩⟩
end
theorem mE_mono {t : TE} {σ : L2.St} {H : Hp} {Q Q' : VK} (h : mE t σ H Q) (i : ∀ v H1, Q v H1 → Q' v H1) : mE t σ H Q' := let ⟨Q0, z, m⟩ := h; ⟨Q0, z, fun v H1 q => i v H1 (m v H1 q)⟩
theorem mT_mono {t : TT} {σ : L2.St} {H : Hp} {Q Q' : Bool → Hp → Prop} (h : mT t σ H Q) (i : ∀ v H1, Q v H1 → Q' v H1) : mT t σ H Q' := let ⟨Q0, z, m⟩ := h; ⟨Q0, z, fun v H1 q => i v H1 (m v H1 q)⟩
theorem mG_mono {t : TG} {v : V} {σ : L2.St} {H : Hp} {Q Q' : L2.St → Hp → Prop} (h : mG t v σ H Q) (i : ∀ s H1, Q s H1 → Q' s H1) : mG t v σ H Q' := let ⟨Q0, z, m⟩ := h; ⟨Q0, z, fun v H1 q => i v H1 (m v H1 q)⟩
theorem mE_of {t : TE} {σ : L2.St} {H : Hp} {Q : VK} (h : t σ H Q) : mE t σ H Q := ⟨Q, h, fun _ _ q => q⟩
theorem mT_of {t : TT} {σ : L2.St} {H : Hp} {Q : Bool → Hp → Prop} (h : t σ H Q) : mT t σ H Q := ⟨Q, h, fun _ _ q => q⟩
theorem mG_of {t : TG} {v : V} {σ : L2.St} {H : Hp} {Q : L2.St → Hp → Prop} (h : t v σ H Q) : mG t v σ H Q := ⟨Q, h, fun _ _ q => q⟩
def tLcM (wi : TI) (g : TG) (tt : TT) (te : TE) (vs : List Nat) : TE := tLc wi (mG g) (mT tt) (mE te) vs
section
variable {X : Cx} {elt tg iter : Expr} {ifs : List Expr} {scope : Scope} {own : List (Str × Nat)} {pos : Pos} {wi : TI} {g : TG} {tt : TT} {te : TE}
theorem pe_lcM (hc : X.calm = true) (hN : X.N.Nodup) (hi : PI X tg iter wi) (ok : BlkOk X.N X.env.scope scope own)
    (hg : ∀ (s : Shared) (H : Hp) (C : Addr) (cl : List (Str × Addr)) (fp : List Addr), PG (X.blk s H scope (compEnvC scope cl C X.env) fp) tg g)
    (ht : ∀ (s : Shared) (H : Hp) (C : Addr) (cl : List (Str × Addr)) (fp : List Addr), PTs (X.blk s H scope (compEnvC scope cl C X.env) fp) ifs tt)
    (he : ∀ (s : Shared) (H : Hp) (C : Addr) (cl : List (Str × Addr)) (fp : List Addr), PE (X.blk s H scope (compEnvC scope cl C X.env) fp) elt te) (hs : ∀ x, foldedSetIterable iter X.env x = pure x := by intro _; rfl) :
    PE X (.ListComp elt [⟨tg, iter, ifs, 0⟩] scope pos) (tLcM wi g tt te (own.map (·.2))) :=
  pe_lc hc hN hi ok (fun s H C cl fp => pg_m (hg s H C cl fp)) (fun s H C cl fp => pts_m (ht s H C cl fp)) (fun s H C cl fp => pe_m (he s H C cl fp)) hs
theorem ps_setLcM {i : Nat} {y : Str} {py spos : Pos} (hc : X.calm = true) (hN : X.N.Nodup) (hy : X.N[i]? = some y) (hyl : X.env.scope.names.lookup y = some .local)
    (hsw : swapsWith (.ListComp elt [⟨tg, iter, ifs, 0⟩] scope pos) (some (.Name y py)) spos.line X.env = pure true) (hi : PI X tg iter wi) (ok : BlkOk X.N X.env.scope scope own)
    (hg : ∀ (s : Shared) (H : Hp) (C : Addr) (cl : List (Str × Addr)) (fp : List Addr), PG (X.blk s H scope (compEnvC scope cl C X.env) fp) tg g)
    (ht : ∀ (s : Shared) (H : Hp) (C : Addr) (cl : List (Str × Addr)) (fp : List Addr), PTs (X.blk s H scope (compEnvC scope cl C X.env) fp) ifs tt)
    (he : ∀ (s : Shared) (H : Hp) (C : Addr) (cl : List (Str × Addr)) (fp : List Addr), PE (X.blk s H scope (compEnvC scope cl C X.env) fp) elt te) (hs : ∀ x, foldedSetIterable iter X.env x = pure x := by intro _; rfl) :
    PS X (.Assign [.Name y py] (.ListComp elt [⟨tg, iter, ifs, 0⟩] scope pos) spos) (tAsg (tLcM wi g tt te (own.map (·.2))) (gName i)) :=
  ps_setLc hc hN hy hyl hsw hi ok (fun s H C cl fp => pg_m (hg s H C cl fp)) (fun s H C cl fp => pts_m (ht s H C cl fp)) (fun s H C cl fp => pe_m (he s H C cl fp)) hs
end
/-- what is left of a comprehension once its source is read -/
def LcEnd (J : It) (g : TG) (tt : TT) (te : TE) (vs : List Nat) (σ : L2.St) (H1 : Hp) (Q : VK) : Prop := ∀ D, H1 D = none → ∃ W : Nat → Nat → Hp → Prop, (∃ m, W 0 m (upd H1 D (.lst []))) ∧ ∀ i m H, W i m H →
  (J.stop i H ∧ Q (.ref D) H) ∨ (J.go i H ∧ ∃ Nx : Hp → Prop, (∀ H', Nx H' → ∃ m', m' < m ∧ W (i + 1) m' H') ∧ ∀ x H', J.yld i H x H' → mG g x (wipe σ vs) H' fun σ2 H2 => wipe σ2 vs = wipe σ vs ∧ mT tt σ2 H2 fun b H3 =>
    if b = true then mE te σ2 H3 fun y H4 => ∃ acc, H4 D = some (.lst acc) ∧ acc.length < sizeLine ∧ Nx (upd H4 D (.lst (acc ++ [y]))) else Nx H3)
theorem r_lc {wi : TI} {g : TG} {tt : TT} {te : TE} {vs : List Nat} {σ : L2.St} {H : Hp} {Q : VK} (h : wi σ H fun J H1 => LcEnd J g tt te vs σ H1 Q) : tLcM wi g tt te vs σ H Q := h
/-- a comprehension by its invariant R: the new list's place, the turn, what is in it, the heap -/
theorem lc_end {J : It} {n : Nat} {Gd : Hp → Prop} {Y : Nat → Hp → V → Hp → Prop} (w : Walk J n Gd Y) {g : TG} {tt : TT} {te : TE} {vs : List Nat} {σ : L2.St} {H1 : Hp} {Q : VK} (hn : n ≤ 50000) (R : Addr → Nat → List V → Hp → Prop)
    (h0 : ∀ D H2, H1 D = none → Ex H1 H2 → R D 0 [] H2) (hG : ∀ D i ys H, R D i ys H → Gd H) (hup : ∀ D i ys H acc, H1 D = none → R D i ys H → R D i ys (upd H D (.lst acc)))
    (hs : ∀ D i ys x H H', i < n → H1 D = none → R D i ys H → H D = some (.lst ys) → Y i H x H' → mG g x (wipe σ vs) H' fun σ2 H2 => wipe σ2 vs = wipe σ vs ∧ mT tt σ2 H2 fun b H3 =>
      if b = true then mE te σ2 H3 fun y H4 => H4 D = some (.lst ys) ∧ R D (i + 1) (ys ++ [y]) H4 else H3 D = some (.lst ys) ∧ R D (i + 1) ys H3)
    (hd : ∀ D ys H, H1 D = none → ys.length ≤ n → R D n ys H → H D = some (.lst ys) → Q (.ref D) H) : LcEnd J g tt te vs σ H1 Q := fun D hD => by
  refine lc_it w (fun i H => ∃ ys, R D i ys H ∧ H D = some (.lst ys) ∧ ys.length ≤ i) ⟨[], h0 D _ hD (Ex.new hD), upd_same, Nat.le_refl _⟩ (fun i H _ ⟨ys, r, _⟩ => hG D i ys H r) (fun i x H H' hi ⟨ys, r, d, l⟩ y => ?_) fun H ⟨ys, r, d, l⟩ => hd D ys H hD l r d
  refine mG_mono (hs D i ys x H H' hi hD r d y) fun σ2 H2 ⟨e1, q⟩ => ⟨e1, mT_mono q fun b H3 q => ?_⟩
  cases b with
  | true =>
    refine iteT (mE_mono q fun v H4 ⟨d4, r4⟩ => ⟨ys, d4, sz_lt (by omega), ys ++ [v], hup D _ _ _ _ hD r4, upd_same, ?_⟩)
    rw [List.length_append]
    exact Nat.succ_le_succ l
  | false => exact iteF ⟨ys, q.2, q.1, Nat.le_succ_of_le l⟩
/-- nothing is changed, the elements are flat -/
theorem lc_val {J : It} {n : Nat} {Gd : Hp → Prop} {Y : Nat → Hp → V → Hp → Prop} (w : Walk J n Gd Y) {g : TG} {tt : TT} {te : TE} {vs : List Nat} {σ : L2.St} {H1 : Hp} {Q : VK} (hn : n ≤ 50000) (hG : ∀ H, Ex H1 H → Gd H)
    (S : Nat → List V → Prop) (S0 : S 0 [])
    (hs : ∀ i ys x H H', i < n → Ex H1 H → S i ys → Y i H x H' → g x (wipe σ vs) H' fun σ2 H2 => wipe σ2 vs = wipe σ vs ∧ tt σ2 H2 fun b H3 =>
      if b = true then te σ2 H3 fun y H4 => Ex H H4 ∧ S (i + 1) (ys ++ [y]) else Ex H H3 ∧ S (i + 1) ys)
    (hd : ∀ D ys H, H1 D = none → Ex H1 H → S n ys → H D = some (.lst ys) → Q (.ref D) H) : LcEnd J g tt te vs σ H1 Q := by
  refine lc_end w hn (fun D i ys H => Ex H1 H ∧ S i ys) (fun D H2 hD e => ⟨e, S0⟩) (fun D i ys H r => hG H r.1) (fun D i ys H acc hD r => ⟨r.1.mut hD, r.2⟩) ?_ fun D ys H hD _ r hh => hd D ys H hD r.1 r.2 hh
  intro D i ys x H H' hi hD r hh y
  refine ⟨_, hs i ys x H H' hi r.1 r.2 y, fun σ2 H2 q => ⟨q.1, _, q.2, fun b H3 q => ?_⟩⟩
  cases b with
  | true => exact iteT ⟨_, q, fun v H4 q => ⟨q.1 _ _ hh, r.1.trans q.1, q.2⟩⟩
  | false => exact iteF ⟨q.1 _ _ hh, r.1.trans q.1, q.2⟩
/-- nothing is changed, the elements may be new things: S speaks of what is frozen -/
theorem lc_new {J : It} {n : Nat} {Gd : Hp → Prop} {Y : Nat → Hp → V → Hp → Prop} (w : Walk J n Gd Y) {g : TG} {tt : TT} {te : TE} {vs : List Nat} {σ : L2.St} {H1 : Hp} {Q : VK} (hn : n ≤ 50000) (hG : ∀ H, Ex H1 H → Gd H)
    (S : Nat → List V → Hp → Prop) (S0 : S 0 [] H1) (up : ∀ i ys H H', Ex H H' → S i ys H → S i ys H')
    (hs : ∀ i ys x G H H', i < n → Ex H1 G → Ex G H → S i ys G → Y i H x H' → g x (wipe σ vs) H' fun σ2 H2 => wipe σ2 vs = wipe σ vs ∧ tt σ2 H2 fun b H3 =>
      if b = true then te σ2 H3 fun y H4 => Ex H H4 ∧ ∀ G4, Ex G G4 → (∀ b o, H b = none → H4 b = some o → G4 b = some o) → (∀ b o, (∀ l, o ≠ .lst l) → H4 b = some o → G4 b = some o) → S (i + 1) (ys ++ [y]) G4 else Ex H H3 ∧ S (i + 1) ys G)
    (hd : ∀ D ys H, H1 D = none → Ex H1 H → S n ys H → H D = some (.lst ys) → Q (.ref D) H) : LcEnd J g tt te vs σ H1 Q := by
  refine lc_end w hn (fun D i ys H => ∃ G, Ex H1 G ∧ G D = none ∧ Ex G H ∧ S i ys G) (fun D H2 hD e => ⟨H1, Ex.refl _, hD, e, S0⟩) (fun D i ys H r => let ⟨G, a, _, b, _⟩ := r; hG H (a.trans b))
    (fun D i ys H acc hD r => let ⟨G, a, d, b, s⟩ := r; ⟨G, a, d, b.mut d, s⟩) ?_ fun D ys H hD _ r hh => let ⟨G, a, d, b, s⟩ := r; hd D ys H hD (a.trans b) (up _ _ _ _ b s) hh
  intro D i ys x H H' hi hD r hh y
  obtain ⟨G, a, d, b, s⟩ := r
  refine ⟨_, hs i ys x G H H' hi a b s y, fun σ2 H2 q => ⟨q.1, _, q.2, fun c H3 q => ?_⟩⟩
  cases c with
  | true =>
    refine iteT ⟨_, q, fun v H4 q => ⟨q.1 _ _ hh, wo [D] H4, ?_, ?_, (wo_fz [D] H4).ex, q.2 _ ?_ ?_ ?_⟩⟩
    · exact (Fz.mk (M := [D]) (a.trans (b.trans q.1)) (fun m hm => by rw [List.mem_singleton.mp hm]; exact hD)).wo
    · unfold wo; rw [if_pos (List.mem_singleton.mpr rfl)]
    · exact (Fz.mk (M := [D]) (b.trans q.1) (fun m hm => by rw [List.mem_singleton.mp hm]; exact d)).wo
    · exact fun b o hn hb => wo_at hb fun hm => by rw [List.mem_singleton.mp hm, hh] at hn; cases hn
    · exact fun b o hn hb => wo_at hb fun hm => by
        rw [List.mem_singleton.mp hm, q.1 _ _ hh] at hb
        exact hn _ (Option.some.inj hb).symm
  | false => exact iteF ⟨q.1 _ _ hh, G, a, d, b.trans q.1, q.2⟩
/-- the well at p is drawn from, c + k * (turn) times at most; the elements are flat -/
theorem lc_draw {J : It} {n : Nat} {Gd : Hp → Prop} {Y : Nat → Hp → V → Hp → Prop} (w : Walk J n Gd Y) {g : TG} {tt : TT} {te : TE} {vs : List Nat} {σ : L2.St} {H1 : Hp} {Q : VK} (hn : n ≤ 50000) (p : Addr) (c k : Nat) (w0 : WellAt H1 p c)
    (hG : ∀ H, Sm p H1 H → Gd H) (S : Nat → List V → Prop) (S0 : S 0 [])
    (hs : ∀ i ys x H H', i < n → Sm p H1 H → WellAt H p (c + k * i) → S i ys → Y i H x H' → g x (wipe σ vs) H' fun σ2 H2 => wipe σ2 vs = wipe σ vs ∧ tt σ2 H2 fun b H3 =>
      if b = true then te σ2 H3 fun y H4 => Sm p H H4 ∧ WellAt H4 p (c + k * (i + 1)) ∧ S (i + 1) (ys ++ [y]) else Sm p H H3 ∧ WellAt H3 p (c + k * (i + 1)) ∧ S (i + 1) ys)
    (hd : ∀ D ys H, H1 D = none → Sm p H1 H → WellAt H p (c + k * n) → S n ys → H D = some (.lst ys) → Q (.ref D) H) : LcEnd J g tt te vs σ H1 Q := by
  have np : ∀ {D}, H1 D = none → D ≠ p := fun {D} hD e => w0.some (e ▸ hD)
  refine lc_end w hn (fun D i ys H => Sm p H1 H ∧ WellAt H p (c + k * i) ∧ S i ys) (fun D H2 hD e => ⟨Sm.of e, w0.up e, S0⟩) (fun D i ys H r => hG H r.1)
    (fun D i ys H acc hD r => ⟨fun b o hb h => by rw [upd_ne (ne_of_none h hD)]; exact r.1 b o hb h, ?_, r.2.2⟩) ?_ fun D ys H hD _ r hh => hd D ys H hD r.1 r.2.1 r.2.2 hh
  · obtain ⟨x, y, z, h, q⟩ := r.2.1
    exact ⟨x, y, z, by rw [upd_ne (np hD).symm]; exact h, q⟩
  intro D i ys x H H' hi hD r hh y
  refine ⟨_, hs i ys x H H' hi r.1 r.2.1 r.2.2 y, fun σ2 H2 q => ⟨q.1, _, q.2, fun b H3 q => ?_⟩⟩
  cases b with
  | true => exact iteT ⟨_, q, fun v H4 q => ⟨q.1 _ _ (np hD) hh, r.1.trans q.1, q.2.1, q.2.2⟩⟩
  | false => exact iteF ⟨q.1 _ _ (np hD) hh, r.1.trans q.1, q.2.1, q.2.2⟩
theorem r_iL {K : PySem.W.Frag} {tl : TE} {σ : L2.St} {H : Hp} {R : It → Hp → Prop} (h : tl σ H fun x H1 => ∃ a, x = .ref a ∧ (∃ xs, SqL K H1 a xs) ∧ R (Itl K a) H1) : iList K tl σ H R := h
theorem r_iT {K : PySem.W.Frag} {tl : TE} {σ : L2.St} {H : Hp} {R : It → Hp → Prop} (h : tl σ H fun x H1 => ∃ a, x = .ref a ∧ (∃ xs, SqT K H1 a xs) ∧ R (Itt K a) H1) : iTup K tl σ H R := h
theorem r_iS {tl : TE} {σ : L2.St} {H : Hp} {R : It → Hp → Prop} (h : tl σ H fun v H1 => ∃ x, v = .str x ∧ R (Its x) H1) : iStr tl σ H R := h
theorem r_iR1 {ta : TA} {σ : L2.St} {H : Hp} {R : It → Hp → Prop} (h : ta σ H fun vs H1 => ∃ j : Int, vs = [.int j] ∧ -(2 ^ 62) ≤ j ∧ j < 2 ^ 62 ∧ R (Itr 0 j.toNat) H1) : iRng1 ta σ H R := h
theorem r_iR2 {ta : TA} {σ : L2.St} {H : Hp} {R : It → Hp → Prop} (h : ta σ H fun vs H1 => ∃ i j : Int, vs = [.int i, .int j] ∧ (-(2 ^ 62) ≤ i ∧ i < 2 ^ 62 ∧ -(2 ^ 62) ≤ j ∧ j < 2 ^ 62) ∧ R (Itr i (j - i).toNat) H1) : iRng2 ta σ H R := h
theorem r_for {wi : TI} {g : TG} {tb : TS} {D : Ends} {σ : L2.St} {H : Hp} (h : wi σ H fun J H1 => ∃ W : Nat → Nat → L2.St → Hp → Prop, (∃ m, W 0 m σ H1) ∧ ∀ i m σ H, W i m σ H →
    (J.stop i H ∧ D.nx σ H) ∨ (J.go i H ∧ ∃ N : L2.St → Hp → Prop, (∀ σ' H', N σ' H' → ∃ m', m' < m ∧ W (i + 1) m' σ' H') ∧ ∀ x H', J.yld i H x H' → g x σ H' fun σ2 H2 => tb { D with nx := N, ct := N, bk := D.nx } σ2 H2)) : tFor wi g tb D σ H := h
theorem r_yes {σ : L2.St} {H : Hp} {Q : Bool → Hp → Prop} (q : Q true H) : tYes σ H Q := q
/-! ### texts -/
theorem call_lenStrQ {X : Cx} : CallR X (.builtin "len") rLenStr := call_len_str
theorem r_lenStr {z : Str} {H : Hp} {Q : VK} (h : z.length ≤ 100000) (q : Q (.int (z.length : Nat)) H) : rLenStr [.str z] H Q := ⟨z, rfl, sz_of h, q⟩
theorem r_inS {c : Nat} {z : Str} {H : Hp} {Q : VK} (q : Q (.bl (decide (c ∈ z.cps.toList))) H) : rInS (.str ⟨#[c]⟩) (.str z) H Q := ⟨c, z, rfl, rfl, q⟩
/-- the letters -/
def letters : List Nat := ("abcdefghijklmnopqrstuvwxyz" : Str).cps.toList
def isWord (z : Str) : Bool := decide (1 ≤ z.length) && decide (z.length ≤ 12) && z.cps.toList.all fun c => decide (c ∈ letters)
theorem isWord_len {z : Str} (h : isWord z = true) : 1 ≤ z.length ∧ z.length ≤ 12 := by
  unfold isWord at h
  simp only [Bool.and_eq_true, decide_eq_true_eq] at h
  exact h.1
/-- x in xs, flat things -/
theorem r_inL {K : PySem.W.Frag} {x : V} {p : Addr} {xs : List V} {H : Hp} {Q : VK} (h : SqL K H p xs) (hx : flatV x = true) (ha : xs.all flatV = true) (q : Q (.bl (inV x xs)) H) : rIn K false x (.ref p) H Q := ⟨p, xs, rfl, .inl h, hx, ha, q⟩
theorem r_inT {K : PySem.W.Frag} {x : V} {p : Addr} {xs : List V} {H : Hp} {Q : VK} (h : SqT K H p xs) (hx : flatV x = true) (ha : xs.all flatV = true) (q : Q (.bl (inV x xs)) H) : rIn K false x (.ref p) H Q := ⟨p, xs, rfl, .inr h, hx, ha, q⟩
theorem r_ninL {K : PySem.W.Frag} {x : V} {p : Addr} {xs : List V} {H : Hp} {Q : VK} (h : SqL K H p xs) (hx : flatV x = true) (ha : xs.all flatV = true) (q : Q (.bl (!inV x xs)) H) : rIn K true x (.ref p) H Q := ⟨p, xs, rfl, .inl h, hx, ha, q⟩
theorem r_ninT {K : PySem.W.Frag} {x : V} {p : Addr} {xs : List V} {H : Hp} {Q : VK} (h : SqT K H p xs) (hx : flatV x = true) (ha : xs.all flatV = true) (q : Q (.bl (!inV x xs)) H) : rIn K true x (.ref p) H Q := ⟨p, xs, rfl, .inr h, hx, ha, q⟩
theorem flat_str (xs : List Str) : (xs.map V.str).all flatV = true := by
  induction xs with
  | nil => rfl
  | cons x r ih => simpa [flatV] using ih
theorem inV_str (z : Str) (xs : List Str) : inV (.str z) (xs.map V.str) = decide (z ∈ xs) := by
  induction xs with
  | nil => simp [inV]
  | cons x r ih =>
    unfold inV at ih ⊢
    rw [List.map_cons, List.any_cons, ih]
    by_cases e : z = x
    · subst e; simp [eqV]
    · have e2 : eqV (.str x) (.str z) = false := by simp [eqV]; exact fun q => e q.symm
      rw [e2]
      simp [e]
/-- a type that is told stays told -/
theorem tyX_up {K : PySem.W.Frag} {H H' : Hp} {x : V} {t : Value} (e : Ex H H') (h : TyX K H x t) : TyX K H' x t := by
  cases h with
  | base b =>
    refine .base ?_
    cases b with
    | non => exact .non
    | bl y => exact .bl y
    | int i => exact .int i
    | str y => exact .str y
    | flt y => exact .flt y
    | lst h => exact .lst (e _ _ h)
    | frz h => exact .frz (e _ _ h)
    | tup h => exact .tup (e _ _ h)
    | dK h => exact .dK (e _ _ h)
    | dT h => exact .dT (e _ _ h)
    | ins h a b c d f => exact .ins (e _ _ h) a b c d f
  | byt b => exact .byt b
  | set h => exact .set (e _ _ h)
  | kList h c => exact .kList h c
  | kTuple h c => exact .kTuple h c
  | kDict h c => exact .kDict h c
  | fTuple h => exact .fTuple (e _ _ h)
  | fDict h => exact .fDict (e _ _ h)
theorem tyT {K : PySem.W.Frag} {H : Hp} {a : Addr} {xs : List V} (h : H a = some (.tup xs)) : TyX K H (.ref a) (.type "tuple") := .base (.tup h)
end SB

set_option Elab.async false
set_option linter.all false
set_option maxHeartbeats 4000000
/-! instances: their fields as written names beside a list of values -/
namespace SB
open PySem L2 Evl
def lkB (ks : List Str) (f : Str) (i : Nat) : Bool := decide (ks[i]? = some f) && (ks.take i).all fun k => decide (k ≠ f)
theorem zip_lookup : ∀ {ks : List Str} {vs : List V} {f : Str} {i : Nat}, lkB ks f i = true → (ks.zip vs).lookup f = vs[i]?
  | [], vs, f, i, h => by simp [lkB] at h
  | k :: ks, [], f, i, h => by simp [List.lookup]
  | k :: ks, v :: vs, f, 0, h => by
    have e : k = f := by simpa [lkB] using h
    subst e
    simp [List.zip_cons_cons, List.lookup]
  | k :: ks, v :: vs, f, i + 1, h => by
    unfold lkB at h
    rw [List.take_succ_cons, List.all_cons, Bool.and_eq_true, Bool.and_eq_true] at h
    obtain ⟨h1, h2, h3⟩ := h
    have ne : k ≠ f := by simpa using h2
    have b : (f == k) = false := by simpa using fun e => ne e.symm
    rw [List.zip_cons_cons, List.lookup_cons, b]
    have ih := zip_lookup (ks := ks) (vs := vs) (f := f) (i := i) (by unfold lkB; rw [Bool.and_eq_true]; exact ⟨by simpa using h1, h3⟩)
    simpa using ih
theorem zip_none : ∀ {ks : List Str} {vs : List V} {f : Str}, ks.all (fun k => decide (k ≠ f)) = true → (ks.zip vs).lookup f = none
  | [], vs, f, h => by simp [List.lookup]
  | k :: ks, [], f, h => by simp [List.lookup]
  | k :: ks, v :: vs, f, h => by
    rw [List.all_cons, Bool.and_eq_true] at h
    have ne : k ≠ f := by simpa using h.1
    have b : (f == k) = false := by simpa using fun e => ne e.symm
    rw [List.zip_cons_cons, List.lookup_cons, b]
    exact zip_none h.2
theorem zip_put_new : ∀ {ks : List Str} {vs : List V} {f : Str} {v : V}, ks.all (fun k => decide (k ≠ f)) = true → ks.length = vs.length → putF f v (ks.zip vs) = (ks ++ [f]).zip (vs ++ [v])
  | [], [], f, v, _, _ => rfl
  | [], _ :: _, f, v, _, h => by simp at h
  | _ :: _, [], f, v, _, h => by simp at h
  | k :: ks, x :: vs, f, v, h, hl => by
    rw [List.all_cons, Bool.and_eq_true] at h
    have ne : ¬ k = f := by simpa using h.1
    rw [List.zip_cons_cons]
    show (if k = f then _ else (k, x) :: putF f v (ks.zip vs)) = _
    rw [if_neg ne, zip_put_new h.2 (by simpa using hl)]
    rfl
theorem zip_put : ∀ {ks : List Str} {vs : List V} {f : Str} {v : V} {i : Nat}, lkB ks f i = true → i < vs.length → putF f v (ks.zip vs) = ks.zip (vs.set i v)
  | [], vs, f, v, i, h, _ => by simp [lkB] at h
  | k :: ks, [], f, v, i, h, hl => by simp at hl
  | k :: ks, x :: vs, f, v, 0, h, _ => by
    have e : k = f := by simpa [lkB] using h
    rw [List.zip_cons_cons]
    show (if k = f then (k, v) :: ks.zip vs else _) = _
    rw [if_pos e]
    rfl
  | k :: ks, x :: vs, f, v, i + 1, h, hl => by
    unfold lkB at h
    rw [List.take_succ_cons, List.all_cons, Bool.and_eq_true, Bool.and_eq_true] at h
    obtain ⟨h1, h2, h3⟩ := h
    have ne : ¬ k = f := by simpa using h2
    rw [List.zip_cons_cons]
    show (if k = f then _ else (k, x) :: putF f v (ks.zip vs)) = _
    rw [if_neg ne, zip_put (i := i) (by unfold lkB; rw [Bool.and_eq_true]; exact ⟨by simpa using h1, h3⟩) (by simpa using hl)]
    rfl
section
variable {K : PySem.W.Frag} {ta tv : TE} {σ : L2.St} {H : Hp} {Q : VK} {f : Str} {D : Ends} {a C dx : Addr} {ks : List Str} {vs : List V} {v : V} {t : TA}
/-- x.f, x a value -/
def FldIn (K : PySem.W.Frag) (f : Str) (x : V) (H : Hp) (Q : VK) : Prop := ∃ a C dx fs v, x = .ref a ∧ H a = some (.ins C dx fs) ∧ Cls K C ∧ NoAttr K C f ∧ fs.lookup f = some v ∧ Q v H
theorem r_fld (h : ta σ H fun x H1 => FldIn K f x H1 Q) : tFld K ta f σ H Q := h
theorem r_fldE (ho : H a = some (.ins C dx (ks.zip vs))) (cl : Cls K C) (na : NoAttr K C f) (i : Nat) (hk : lkB ks f i = true) (hv : vs[i]? = some v) (q : Q v H) : FldIn K f (.ref a) H Q := ⟨a, C, dx, _, v, rfl, ho, cl, na, (zip_lookup hk).trans hv, q⟩
/-- x.f = y, by values -/
def SfldIn (K : PySem.W.Frag) (f : Str) (y x : V) (H : Hp) (N : Hp → Prop) : Prop := ∃ a C dx fs, x = .ref a ∧ H a = some (.ins C dx fs) ∧ Cls K C ∧ NoAttr K C f ∧ fs.length < 1000 ∧ N (upd H a (.ins C dx (putF f y fs)))
theorem r_sfld (h : tv σ H fun y H1 => ta σ H1 fun x H2 => SfldIn K f y x H2 (D.nx σ)) : sFld K ta tv f D σ H := h
/-- a new field -/
theorem r_sfldN {N : Hp → Prop} (ho : H a = some (.ins C dx (ks.zip vs))) (cl : Cls K C) (na : NoAttr K C f) (hk : ks.all (fun k => decide (k ≠ f)) = true) (hl : ks.length = vs.length) (hz : ks.length < 900)
    (q : ∀ H1, H1 a = some (.ins C dx ((ks ++ [f]).zip (vs ++ [v]))) → Sm a H H1 → N H1) : SfldIn K f v (.ref a) H N :=
  ⟨a, C, dx, _, rfl, ho, cl, na, by rw [List.length_zip]; omega, q _ (by rw [upd_same, zip_put_new hk hl]) fun b o hb h => by rw [upd_ne hb]; exact h⟩
/-- a field that stands -/
theorem r_sfldS {N : Hp → Prop} (ho : H a = some (.ins C dx (ks.zip vs))) (cl : Cls K C) (na : NoAttr K C f) (i : Nat) (hk : lkB ks f i = true) (hl : i < vs.length) (hz : ks.length < 900)
    (q : ∀ H1, H1 a = some (.ins C dx (ks.zip (vs.set i v))) → Sm a H H1 → N H1) : SfldIn K f v (.ref a) H N :=
  ⟨a, C, dx, _, rfl, ho, cl, na, by rw [List.length_zip]; omega, q _ (by rw [upd_same, zip_put hk hl]) fun b o hb h => by rw [upd_ne hb]; exact h⟩
theorem r_meth {m : Str} {sp : Sp} {dvs : List V} {E : XK} (h : ta σ H fun x H1 => ∃ a dx fs, x = .ref a ∧ H1 a = some (.ins C dx fs) ∧ fs.lookup m = none ∧ t σ H1 fun ws H2 => sp (x :: (ws ++ dvs)) H2 Q E) : tMeth C m sp dvs E ta t σ H Q := h
theorem r_make {sp : Sp} {dvs : List V} {E : XK} (h : t σ H fun ws H1 => ∀ x dx, H1 x = none → H1 dx = none → dx ≠ x → sp (.ref x :: (ws ++ dvs)) (upd (upd H1 dx (.own x)) x (.ins C dx [])) (fun v H2 => v = .non ∧ Q (.ref x) H2) E) : tMake C sp dvs E t σ H Q := h
theorem r_makeK {n m : Nat} {sp : Sp} {gV : List V → List V → List V} {E : XK} {tk : TA} (h : t σ H fun ws H1 => tk σ H1 fun zs H2 => ws.length = n ∧ zs.length = m ∧ ∀ x dx, H2 x = none → H2 dx = none → dx ≠ x →
  sp (gV (.ref x :: ws) zs) (upd (upd H2 dx (.own x)) x (.ins C dx [])) (fun v H3 => v = .non ∧ Q (.ref x) H3) E) : tMakeK C n m sp gV E t tk σ H Q := h
theorem r_vei (h : t σ H fun vs H1 => ∃ (a C : Addr) (ws : List V), vs = .ref a :: ws ∧ ws.length ≤ 1000 ∧ OexC K C ∧ H1 a = some (exo a C none) ∧ Q .non H1) : tVeI K t σ H Q := h
theorem r_ost {f : Str} (h : tv σ H fun y H1 => ta σ H1 fun x H2 => ∃ a C : Addr, x = .ref a ∧ OexC K C ∧ PySem.W.findIn K (.ref C) f = some none ∧
  ((H2 a = some (exo a C none) ∧ ∀ dx, H2 dx = none → dx ≠ a → D.nx σ (upd (upd H2 dx (exd dx [(f, y)])) a (exo a C (some dx)))) ∨
    ∃ (dx : Addr) (fs : List (Str × V)), H2 a = some (exo a C (some dx)) ∧ H2 dx = some (exd dx fs) ∧ fs.length ≤ 900 ∧ D.nx σ (upd H2 dx (exd dx ((f, y) :: fs))))) : tOst K f ta tv D σ H := h
/-- raise X(e) -/
theorem r_mkx {f : Str} {Qx : XK} (h : t σ H fun vs H1 => ∃ v, vs = [v] ∧ ∀ d H2, Ex H1 H2 → H1 d = none → H2 d = some (.xd [(f, v)]) → Qx (.ref C) (some d) H2) : tMkX C f t σ H Qx := h
end
end SB

set_option Elab.async false
set_option linter.all false
set_option maxHeartbeats 4000000
/-! the rules whose readings name the written part: with the part told -/
namespace SB
open PySem L2 Evl
section
variable {X : Cx} (K : PySem.W.Frag) (e : X.K = K)
include e
theorem k_in : OpR X (compareOp .In) (rIn K false) := e ▸ op_in_seq
theorem k_notIn : OpR X (compareOp .NotIn) (rIn K true) := e ▸ op_notIn_seq
theorem k_ixL : IxR X (rIxL K) := e ▸ ix_list
theorem k_ixT : IxR X (rIxT K) := e ▸ ix_tup
theorem k_slL : SlR X (rSlLM K) := e ▸ sl_listM
theorem k_slT : SlR X (rSlTM K) := e ▸ sl_tupM
theorem k_len : CallR X (.builtin "len") (rLenS K) := e ▸ call_lenQ
theorem k_list : CallR X (.type "list") (rListS K) := e ▸ call_listQ
theorem k_tup : CallR X (.type "tuple") (rTupQ K) := e ▸ call_tupQ
theorem k_isi : CallR X (.builtin "isinstance") (rIsi K) := e ▸ call_isi
theorem k_all (c : X.calm = true) : CallR X (.builtin "all") (rAll K) := e ▸ cr_all c
theorem k_any (c : X.calm = true) : CallR X (.builtin "any") (rAny K) := e ▸ cr_any c
theorem k_min (c : X.calm = true) : CallR X (.builtin "min") (rMin K) := e ▸ cr_min c
theorem k_max (c : X.calm = true) : CallR X (.builtin "max") (rMax K) := e ▸ cr_max c
theorem k_sortedS : CallR X (.builtin "sorted") (rSortedS K) := e ▸ cr_sortedS
theorem k_eqD (hu : X.A.units + 64 < cLine) : OpR X (compareOp .Eq) (rEqD K) := e ▸ op_eqD hu
theorem k_neD (hu : X.A.units + 64 < cLine) : OpR X (compareOp .NotEq) (rNeD K) := e ▸ op_neD hu
theorem k_catT : OpR X (binaryOp .Add) (rCatTM K) := e ▸ op_catTM
variable {a : Expr} {es : List Expr} {ta : TE} {tA : TA} {f : Str} {pos p p2 q : Pos} {tg : Expr} {k n : Nat} {t : TGs}
theorem k_fld (ha : PE X a ta) (hb : attributeBase a f X.env (eval a X.env) = eval a X.env := by rfl) : PE X (.Attribute a f pos) (tFld K ta f) := e ▸ pe_fld ha hb
theorem k_pil (ha : PE X a ta) : PI X tg a (iList K ta) := e ▸ pi_list ha
theorem k_pit (ha : PE X a ta) : PI X tg a (iTup K ta) := e ▸ pi_tup ha
theorem k_gtup (hc : X.calm = true) (h : PGs X es t) (hn : (assignEach es X.env).length = n := by rfl) (hst : (assignEach es X.env).findIdx? (·.1) = none := by rfl) : PG X (.Tuple es k pos) (gTup K n t) := e ▸ pg_tup hc h hn hst
theorem k_lenSet (calm : X.calm = true) (gl : Gl X "len") (ml : X.mg "len" = none) (gs : Gl X "set") (ms : X.mg "set" = none) (ha : PE X a ta)
    (st : starEach [a] X.env = (false, eval a X.env) :: starEach [] X.env := by rfl) : PE X (.Call (.Name "len" p) [.Call (.Name "set" p2) [a] [] q] [] pos) (tLenSetT K ta) := e ▸ pe_lenSetT calm gl ml gs ms ha st
variable {CX : CXT} {C fa : Addr} {fd : FuncData} {ps : List Str} {sp : Sp} {E : XK}
theorem k_eqO (D : Dun X.K C "__eq__" fa) (F : FnOk X.prog X.w X.K X.mg X.base CX k fa fd ps sp) (hr : Room k X.A) (hb : Binds X.K fd ps []) (hx : Passes CX X E) : OpR X (compareOp .Eq) (rEqO K C sp E) := e ▸ op_eqO D F hr hb hx
end
theorem r_gtup {K : PySem.W.Frag} {n : Nat} {t : TGs} {v : V} {σ : L2.St} {H : Hp} {Q : L2.St → Hp → Prop} (h : ∃ a xs, v = .ref a ∧ SqT K H a xs ∧ xs.length = n ∧ t xs σ H Q) : gTup K n t v σ H Q := h
theorem r_gtupE {K : PySem.W.Frag} {n : Nat} {t : TGs} {a : Addr} {xs : List V} {σ : L2.St} {H : Hp} {Q : L2.St → Hp → Prop} (h : SqT K H a xs) (hn : xs.length = n) (q : t xs σ H Q) : gTup K n t (.ref a) σ H Q := ⟨a, xs, rfl, h, hn, q⟩
theorem r_eqO {K : PySem.W.Frag} {C a dx : Addr} {sp : Sp} {E : XK} {fs : List (Str × V)} {y : V} {t : Value} {H : Hp} {Q : VK} (h : H a = some (.ins C dx fs)) (ty : TyX K H y t) (nf : PySem.W.notFirst K C t = true) (q : sp [.ref a, y] H (fun v H2 => ∃ b, v = .bl b ∧ Q (.bl b) H2) E) : rEqO K C sp E (.ref a) y H Q := ⟨a, dx, fs, t, rfl, h, ty, nf, q⟩
theorem r_gnil {σ : L2.St} {H : Hp} {Q : L2.St → Hp → Prop} (q : Q σ H) : gNil [] σ H Q := ⟨rfl, q⟩
theorem r_gcons {t : TG} {u : TGs} {v : V} {r : List V} {σ : L2.St} {H : Hp} {Q : L2.St → Hp → Prop} (q : t v σ H fun s h => u r s h Q) : gCons t u (v :: r) σ H Q := ⟨v, r, rfl, q⟩
end SB

set_option Elab.async false
set_option linter.all false
set_option maxHeartbeats 4000000
/-! xs[::e], e one or minus one -/
namespace SB
open PySem PySem.Spec PyProof.Rows L2 Evl
theorem pick_one (items : Array Value) : slicePick items none none (some 1) = items := by
  unfold slicePick
  have e : sliceBounds none none (some 1) items.size = (0, (items.size : Int), 1) := by
    first | rfl | simp [sliceBounds]
  rw [e]
  have r : sliceRange 0 (items.size : Int) 1 = List.range items.size := by
    have key : ∀ n : Nat, sliceRange 0 (n : Int) 1 = List.range n := by
      intro n
      unfold sliceRange
      by_cases h : (n : Int) > 0
      · have e : ((n : Int) - 0 + 1 - 1) / 1 = (n : Int) := by rw [Int.ediv_one]; omega
        have e2 : ((if (1 : Int) > 0 then (if (n : Int) > 0 then ((n : Int) - 0 + 1 - 1) / 1 else 0) else 0)).toNat = n := by
          rw [if_pos (by decide), if_pos h, e]; simp
        apply List.ext_getElem
        · have hp : 0 < n := by omega
          simp [hp]
        · intro i h1 h2
          simp
      · have z : n = 0 := by omega
        subst z
        simp
    exact key items.size
  rw [r, PySem.W.krv_all]
def tStepL (K : PySem.W.Frag) (te ts : TE) : TE := fun σ H Q => te σ H fun x H1 => ts σ H1 fun y H2 => ∃ (a : Addr) (xs : List V) (n : Int), x = .ref a ∧ y = .int n ∧ (n = 1 ∨ n = -1) ∧ SqL K H2 a xs ∧
  ∀ p H3, H2 p = none → Ex H2 H3 → H3 p = some (.lst (if n = 1 then xs else xs.reverse)) → Q (.ref p) H3
theorem pe_stepL {X : Cx} {K : PySem.W.Frag} (eK : X.K = K) {e st : Expr} {te ts : TE} {p1 pos : Pos} (he : PE X e te) (hst : PE X st ts)
    (hs : subscripted (.Slice none none (some st) p1) = subscripted (.Slice none none (some st) p1) := by rfl) : PE X (.Subscript e (.Slice none none (some st) p1) pos) (tStepL K te ts) := by
  subst eK
  refine ⟨fun pins s σ H Q I h => ?_⟩
  refine Subscript_ (thn (he.run pins s σ H _ I h) fun v s1 ⟨x, H1, I1, r1, q1⟩ => ?_)
  refine wpAny_Slice (thn (po_none.run pins s1 σ H1 (fun o H2 => o = none ∧ H2 = H1) I1 ⟨rfl, rfl⟩) fun vl s2 ⟨l, H2, I2, pl, el, e2⟩ => ?_)
  subst el e2
  refine thn (po_none.run pins s2 σ H2 (fun o H3 => o = none ∧ H3 = H2) I2 ⟨rfl, rfl⟩) fun vu s3 ⟨u, H3, I3, pu, eu, e3⟩ => ?_
  subst eu e3
  have q2 : ∃ Q0 : VK, ts σ H3 Q0 ∧ ∀ y H4, Q0 y H4 → ∃ (a : Addr) (xs : List V) (n : Int), x = .ref a ∧ y = .int n ∧ (n = 1 ∨ n = -1) ∧ SqL X.K H4 a xs ∧
    ∀ p H5, H4 p = none → Ex H4 H5 → H5 p = some (.lst (if n = 1 then xs else xs.reverse)) → Q (.ref p) H5 := ⟨_, q1, fun _ _ z => z⟩
  obtain ⟨Q0, q1, m⟩ := q2
  refine thn (hst.run pins s3 σ H3 Q0 I3 q1) fun vs s4 ⟨y, H4, I4, ps, z⟩ => ?_
  obtain ⟨a, xs, n, rfl, rfl, hn, hx, q⟩ := m _ _ z
  cases r1
  obtain ⟨tk, rfl⟩ := ps
  have I5 : Inv X pins σ H4 { s4 with heap := s4.heap.push { cls := .type "slice", data := .fields #[vl, vu, .int n tk] } } := I4.kept (t' := s4.toks) fun b ob q => Heap.get?_push_of_some _ q
  obtain ⟨its, r, ht, hz⟩ := I5.list hx
  have hlen := r.length
  have pk : slicePick its.toArray none none (some n) = (if n = 1 then its else its.reverse).toArray := by
    rcases hn with rfl | rfl
    · rw [pick_one]; rfl
    · rw [PySem.W.krv_pick]; rfl
  refine tail_any (ops := [.ref a, .ref s4.heap.objs.size]) ht.isList.typeIs (PySem.slot_list_getitem.lookup) ?_ (by with_unfolding_all rfl)
  refine wpAny_getItem_list_slice ht.isList (Heap.IsSliceOf.new _ vl vu (.int n tk)) pl pu (IsPart.int n tk) (by rcases hn with rfl | rfl <;> decide) ?_ (by rw [List.size_toArray]; omega)
  rw [pk]
  refine ⟨.ref _, _, I5.laid (t' := s4.toks) (o := .lst (if n = 1 then xs else xs.reverse)) (fun b ob q => Heap.get?_push_of_some _ q) (Nat.le_refl _) ?_, rfl, q _ _ (I5.hok.fresh (Nat.le_refl _)) (Ex.new (I5.hok.fresh (Nat.le_refl _))) upd_same⟩
  rcases hn with rfl | rfl
  · exact ⟨hz, its, 0, r, Heap.get?_push_size _ rfl⟩
  · exact ⟨by show xs.reverse.length ≤ _; rw [List.length_reverse]; exact hz, its.reverse, 0, r.reverse, Heap.get?_push_size _ rfl⟩
end SB
namespace SB
open PySem L2 Evl
/-! ### data -/
mutual
theorem Dp.up {K : PySem.W.Frag} {H H' : Hp} (e : Ex H H') : ∀ {v : V} {d : PyData}, Dp K H v d → Dp K H' v d
  | _, _, .non => .non
  | _, _, .bl b => .bl b
  | _, _, .int i => .int i
  | _, _, .str x => .str x
  | _, _, .lst h a => .lst (ex_l e h) (DpAll.up e a)
  | _, _, .tup h a => .tup (ex_t e h) (DpAll.up e a)
theorem DpAll.up {K : PySem.W.Frag} {H H' : Hp} (e : Ex H H') : ∀ {vs : List V} {ds : List PyData}, DpAll K H vs ds → DpAll K H' vs ds
  | _, _, .nil => .nil
  | _, _, .cons h a => .cons (Dp.up e h) (DpAll.up e a)
end
theorem dpAll_strs {K : PySem.W.Frag} {H : Hp} : ∀ ws : List Str, DpAll K H (ws.map V.str) (ws.map PyData.str)
  | [] => .nil
  | w :: r => .cons (.str w) (dpAll_strs r)
theorem r_eqD {K : PySem.W.Frag} {x y : V} {d e : PyData} {H : Hp} {Q : VK} (h1 : Dp K H x d) (h2 : Dp K H y e) (s1 : SeqAt.shaped d = true) (s2 : SeqAt.shaped e = true) (q : Q (.bl (PyData.eqv d e)) H) : rEqD K x y H Q := ⟨d, e, h1, h2, s1, s2, q⟩
theorem r_neD {K : PySem.W.Frag} {x y : V} {d e : PyData} {H : Hp} {Q : VK} (h1 : Dp K H x d) (h2 : Dp K H y e) (s1 : SeqAt.shaped d = true) (s2 : SeqAt.shaped e = true) (q : Q (.bl (!PyData.eqv d e)) H) : rNeD K x y H Q := ⟨d, e, h1, h2, s1, s2, q⟩
theorem eqv_same {d : PyData} (s : SeqAt.shaped d = true) : PyData.eqv d d = true := SeqAt.eqv_refl d (SeqAt.canLay_of_shaped s)
theorem lay_all : ∀ {ds : List PyData}, (∀ d ∈ ds, d.canLay0 = true) → PyData.canLayAll0 ds = true
  | [], _ => rfl
  | d :: r, h => by
    unfold PyData.canLayAll0
    rw [h d List.mem_cons_self, lay_all (ds := r) fun x hx => h x (List.mem_cons_of_mem _ hx)]
    rfl
theorem dep_all {n : Nat} : ∀ {ds : List PyData}, (∀ d ∈ ds, d.depth ≤ n) → PyData.depthAll ds ≤ n
  | [], _ => Nat.zero_le _
  | d :: r, h => by
    unfold PyData.depthAll
    exact Nat.max_le.mpr ⟨h d List.mem_cons_self, dep_all fun x hx => h x (List.mem_cons_of_mem _ hx)⟩
/-- data of small depth that can be laid -/
def Nice (n : Nat) (d : PyData) : Prop := d.canLay0 = true ∧ d.depth ≤ n
theorem nice_none {n : Nat} : Nice n .none := ⟨rfl, by simp [PyData.depth]⟩
theorem nice_bool {n : Nat} {b : Bool} : Nice n (.bool b) := ⟨rfl, by simp [PyData.depth]⟩
theorem nice_int {n : Nat} {i : Int} : Nice n (.int i) := ⟨rfl, by simp [PyData.depth]⟩
theorem nice_str {n : Nat} {z : Str} (h : PyData.strOk z = true) : Nice n (.str z) := ⟨by simpa [PyData.canLay0] using h, by simp [PyData.depth]⟩
theorem nice_tup {n : Nat} {ds : List PyData} (h : ∀ d ∈ ds, Nice n d) : Nice (n + 1) (.tuple ds) := ⟨by simpa [PyData.canLay0] using lay_all fun d hd => (h d hd).1, by
  have := dep_all fun d hd => (h d hd).2
  simp only [PyData.depth]; omega⟩
theorem nice_list {n : Nat} {ds : List PyData} (h : ∀ d ∈ ds, Nice n d) : Nice (n + 1) (.list ds) := ⟨by simpa [PyData.canLay0] using lay_all fun d hd => (h d hd).1, by
  have := dep_all fun d hd => (h d hd).2
  simp only [PyData.depth]; omega⟩
theorem Nice.shaped {n : Nat} {d : PyData} (h : Nice n d) (hn : n ≤ 64) : SeqAt.shaped d = true := by
  unfold SeqAt.shaped
  rw [h.1, decide_eq_true (Nat.le_trans h.2 hn)]
  rfl
theorem nice_strs {n : Nat} {ws : List Str} (h : ∀ w ∈ ws, PyData.strOk w = true) : ∀ d ∈ ws.map PyData.str, Nice n d := fun d hd => by
  obtain ⟨w, hw, rfl⟩ := List.mem_map.mp hd
  exact nice_str (h w hw)
theorem strOk_word {z : Str} (h : isWord z = true) : PyData.strOk z = true := by
  unfold isWord at h
  simp only [Bool.and_eq_true, List.all_eq_true, decide_eq_true_eq] at h
  have low : ∀ c ∈ letters, c < 0x110000 := by decide +kernel
  unfold PyData.strOk
  rw [← Array.all_toList, List.all_eq_true]
  intro c hc
  exact decide_eq_true (low c (h.2 c hc))
/-- texts of one and two letters -/
def sg (l : Nat) : Str := ⟨#[l]⟩
theorem sg_app (a : Str) (l : Nat) : (a ++ sg l).cps.toList = a.cps.toList ++ [l] := by
  have : (a ++ sg l).cps = a.cps ++ #[l] := rfl
  rw [this]; simp
theorem str_ext {a b : Str} (h : a.cps.toList = b.cps.toList) : a = b := by
  obtain ⟨x⟩ := a
  obtain ⟨y⟩ := b
  congr
  exact Array.toList_inj.mp h
theorem str_len (a : Str) : a.length = a.cps.toList.length := by show a.cps.size = _; simp
def rAddSQ : R2 := fun x y H Q => ∃ i j, x = .str i ∧ y = .str j ∧ i.length + j.length ≤ sizeLine ∧ Q (.str (i ++ j)) H
theorem op_addSQ {X : Cx} : OpR X (binaryOp .Add) rAddSQ := op_add_str
theorem r_addS {i j : Str} {H : Hp} {Q : VK} (h : i.length + j.length ≤ 100000) (q : Q (.str (i ++ j)) H) : rAddSQ (.str i) (.str j) H Q := ⟨i, j, rfl, rfl, sz_of h, q⟩
theorem r_ixS {z : Str} {i : Int} {c : Nat} {H : Hp} {Q : VK} (hz : z.length ≤ 100000) (h : atI z.cps.toList i = some c) (q : Q (.str (sg c)) H) : rIxS (.str z) (.int i) H Q := ⟨z, i, c, rfl, rfl, sz_of hz, h, q⟩
theorem r_ixT {K : PySem.W.Frag} {p : Addr} {i : Int} {xs : List V} {v : V} {H : Hp} {Q : VK} (h : SqT K H p xs) (e : atI xs i = some v) (q : Q v H) : rIxT K (.ref p) (.int i) H Q := ⟨p, xs, i, v, rfl, rfl, h, e, q⟩
theorem r_step {K : PySem.W.Frag} {te ts : TE} {σ : L2.St} {H : Hp} {Q : VK} (h : te σ H fun x H1 => ts σ H1 fun y H2 => ∃ (a : Addr) (xs : List V) (n : Int), x = .ref a ∧ y = .int n ∧ (n = 1 ∨ n = -1) ∧ SqL K H2 a xs ∧
  ∀ p H3, H2 p = none → Ex H2 H3 → H3 p = some (.lst (if n = 1 then xs else xs.reverse)) → Q (.ref p) H3) : tStepL K te ts σ H Q := h
theorem r_rU {g : Int → V} {a : Int} {H : Hp} {Q : VK} (q : Q (g a) H) : rU g (.int a) H Q := ⟨a, rfl, q⟩
/-! ### all but the well -/
def fz (p : Addr) (H : Hp) : Hp := fun a => if a = p then none else H a
theorem fz_ex {p : Addr} {H : Hp} : Ex (fz p H) H := fun a o h => by
  unfold fz at h
  split at h
  · cases h
  · exact h
theorem fz_at {p a : Addr} {H : Hp} {o : HO} (h : H a = some o) (ne : a ≠ p) : fz p H a = some o := by unfold fz; rw [if_neg ne]; exact h
theorem fz_sm {p : Addr} {H H1 : Hp} (s : Sm p H H1) : Ex (fz p H) (fz p H1) := fun a o h => by
  by_cases e : a = p
  · unfold fz at h; rw [if_pos e] at h; cases h
  · exact fz_at (s a o e (fz_ex a o h)) e
theorem well_ne {p a : Addr} {n : Nat} {H : Hp} {o : HO} (w : WellAt H p n) (h : H a = some o) (d : ∀ xs, o ≠ .lst xs) : a ≠ p := fun e => by
  obtain ⟨x, y, z, hp, _⟩ := w
  rw [e, hp] at h
  exact d _ (Option.some.inj h).symm
theorem new_ne {p a : Addr} {n : Nat} {H : Hp} (w : WellAt H p n) (h : H a = none) : a ≠ p := fun e => w.some (e ▸ h)
theorem sqT_fz {K : PySem.W.Frag} {p a : Addr} {n : Nat} {H : Hp} {xs : List V} (w : WellAt H p n) (h : SqT K H a xs) : SqT K (fz p H) a xs := by
  rcases h with (h | ⟨o, h⟩) | h
  · exact .inl (.inl (fz_at h (well_ne w h fun _ z => nomatch z)))
  · exact .inl (.inr ⟨o, fz_at h (well_ne w h fun _ z => nomatch z)⟩)
  · exact .inr h
theorem ty_sqT {K : PySem.W.Frag} {H : Hp} {a : Addr} {xs : List V} (h : SqT K H a xs) : TyX K H (.ref a) (.type "tuple") := by
  rcases h with (h | ⟨o, h⟩) | ⟨o, its, n, h, c, _⟩
  · exact .base (.tup h)
  · exact .fTuple h
  · exact .kTuple h c
theorem sm_new {p a : Addr} {H H1 : Hp} {n m : Nat} (w : WellAt H p n) (s : Sm p H H1) (h : H1 a = none) (w1 : WellAt H1 p m) : H a = none := by
  cases e : H a with
  | none => rfl
  | some o =>
    by_cases q : a = p
    · exact absurd (q ▸ h) w1.some
    · rw [s a o q e] at h; cases h
theorem r_cut {t u : TS} {D : Ends} {σ : L2.St} {H : Hp} (Mid : L2.St → Hp → Prop) (h : t { D with nx := Mid } σ H) (k : ∀ σ' H', Mid σ' H' → u D σ' H') : tCut t u D σ H := ⟨Mid, h, k⟩
/-- a law: a list of at most 63 ints is handed in, True comes out -/
def spLaw (K : PySem.W.Frag) : Sp := fun vs H Q _ => ∃ (a : Addr) (ns : List Int), vs = [.ref a] ∧ SqL K H a (ns.map V.int) ∧ ns.length ≤ 63 ∧ ∀ H', Q (.bl true) H'
theorem cutV_int (ns : List Int) (lo hi : Option Int) : ∃ ms : List Int, cutV (ns.map V.int) lo hi = ms.map V.int ∧ ms.length ≤ ns.length := by
  refine ⟨(ns.drop (HT.sIx (ns.map V.int).length 0 lo)).take (HT.sIx (ns.map V.int).length (ns.map V.int).length hi - HT.sIx (ns.map V.int).length 0 lo), ?_, ?_⟩
  · unfold cutV; rw [← List.map_drop, ← List.map_take]
  · rw [List.length_take, List.length_drop]; omega
theorem sqT_lift {K : PySem.W.Frag} {G H : Hp} {a : Addr} {xs : List V} (g : ∀ b o, (∀ l, o ≠ .lst l) → H b = some o → G b = some o) (h : SqT K H a xs) : SqT K G a xs := by
  rcases h with (h | ⟨o, h⟩) | h
  · exact .inl (.inl (g _ _ (fun _ z => nomatch z) h))
  · exact .inl (.inr ⟨o, g _ _ (fun _ z => nomatch z) h⟩)
  · exact .inr h
end SB

set_option Elab.async false
set_option linter.all false
set_option maxRecDepth 100000
/-! which class stands below which, from the facts that the head answers -/
namespace SB
open PySem PySem.Spec PyProof.Rows L2
theorem kit_sub {K : PySem.W.Frag} {t : Value} {S : Addr} {b : Bool} (ne : (t == .ref S) = false) (h2 : PySem.W.isClsIn K S = true) (h3 : PySem.W.typeIn K (.ref S) = some (.type "type")) (h4 : PySem.W.subIn K t (.ref S) = some b) : PySem.W.kitOne K t (.ref S) = some b := by
  have e2 : ((PySem.W.clsIn K S).isSome && PySem.W.typeIn K (.ref S) == some (.type "type")) = true := by
    have h5 : (PySem.W.clsIn K S).isSome = true := h2
    rw [h5, h3] <;> rfl
  unfold PySem.W.kitOne
  rw [if_neg (by rw [ne]; exact Bool.false_ne_true)]
  show (if ((PySem.W.clsIn K S).isSome && PySem.W.typeIn K (.ref S) == some (.type "type")) = true then PySem.W.subIn K t (.ref S) else none) = some b
  rw [if_pos e2]
  exact h4
theorem exm_sub {K : PySem.W.Frag} {t : Value} {S : Addr} {b : Bool} (h1 : PySem.W.subIn K (.ref S) (.type "BaseException") = some true) (h2 : PySem.W.isClsIn K S = true) (h3 : PySem.W.typeIn K (.ref S) = some (.type "type")) (h4 : PySem.W.subIn K t (.ref S) = some b) : PySem.W.exmOne K t (.ref S) = some b := by
  have e2 : ((PySem.W.clsIn K S).isSome && PySem.W.typeIn K (.ref S) == some (.type "type")) = true := by
    have h5 : (PySem.W.clsIn K S).isSome = true := h2
    rw [h5, h3] <;> rfl
  have e1 : (PySem.W.subIn K (.ref S) (.type "BaseException") == some true) = true := by rw [h1] <;> rfl
  unfold PySem.W.exmOne
  rw [if_pos e1]
  show (if ((PySem.W.clsIn K S).isSome && PySem.W.typeIn K (.ref S) == some (.type "type")) = true then PySem.W.subIn K t (.ref S) else none) = some b
  rw [if_pos e2]
  exact h4
end SB

set_option Elab.async false
set_option linter.all false
set_option maxRecDepth 100000
set_option maxHeartbeats 4000000
/-! try with several clauses, each with or without a name -/
namespace SB
open PySem PySem.Spec PyProof.Rows L2
/-- a clause: the class that it names, its name's slot, its suite -/
structure Clz where
  c : Value
  o : Option Nat
  ts : Addr → Value → Option Addr → TS
/-- the slot of the name holds v -/
def nm (o : Option Nat) (v : Option V) (σ : L2.St) : L2.St := match o with
  | none => σ
  | some i => σ.set i v
/-- the suite's ends, the name gone -/
def ends (o : Option Nat) (D : Ends) : Ends := { nx := fun σ H => D.nx (nm o none σ) H, rt := D.rt, bk := fun σ H => D.bk (nm o none σ) H, ct := fun σ H => D.ct (nm o none σ) H }
def wCl (K : PySem.W.Frag) (Wout : WX) (D : Ends) : List Clz → WX
  | [] => Wout
  | z :: r => fun cls d σ H => ∃ b, PySem.W.exmOne K cls z.c = some b ∧ (b = true → ∀ a, H a = none → z.ts a cls d (ends z.o D) (nm z.o (some (.ref a)) σ) H) ∧ (b = false → wCl K Wout D r cls d σ H)
inductive ClOk (X : Cx) : List ExceptHandler → List Clz → Prop
  | nil : ClOk X [] []
  | bare {x : Str} {c : Value} {ts : Addr → Value → Option Addr → TS} {b : Stmt} {su : List Stmt} {p q : Pos} {hs : List ExceptHandler} {l : List Clz} (hc : Names X x c)
      (hsu : ∀ (a : Addr) (oe : Obj) (cls : Value) (d : Option Addr) (pn : List (Addr × Obj)), Zc cls d oe → (∃ vs, oe.data = .fields vs) → PSs (X.suite a ((a, oe) :: pn)) (b :: su) (ts a cls d))
      (r : ClOk X hs l) : ClOk X (.ExceptHandler (some (.Name x p)) none (b :: su) q :: hs) (⟨c, none, ts⟩ :: l)
  | named {x n : Str} {i : Nat} {c : Value} {ts : Addr → Value → Option Addr → TS} {b : Stmt} {su : List Stmt} {p q : Pos} {hs : List ExceptHandler} {l : List Clz} (hN : X.N.Nodup) (hi : X.N[i]? = some n) (hk : X.env.kindOf n = some .local) (hc : Names X x c)
      (hsu : ∀ (a : Addr) (oe : Obj) (cls : Value) (d : Option Addr) (pn : List (Addr × Obj)), Zc cls d oe → (∃ vs, oe.data = .fields vs) → PSs (X.suite a ((a, oe) :: pn)) (b :: su) (ts a cls d))
      (r : ClOk X hs l) : ClOk X (.ExceptHandler (some (.Name x p)) (some n) (b :: su) q :: hs) (⟨c, some i, ts⟩ :: l)
/-- an exception at a that this frame has noted; sI: the state without it -/
structure Got (X : Cx) (pins : List (Addr × Obj)) (σ : L2.St) (H : Hp) (cls : Value) (d : Option Addr) (a : Addr) (B : Heap) (sI s : Shared) : Prop where
  inv : Inv X pins σ H sI
  nb : ∀ b o, sI.heap.get? b = some o → b ∉ frs X.stack → B.get? b = some o
  up : sI.heap.UpToSlots s.heap
  os : s.os = sI.os
  ag : AllBare s.gens
  na : H a = none
  fl : HandSPX.FlyingZ B (X.env :: X.outer) a (Zc cls d) s.heap
section
variable {X : Cx} {pins : List (Addr × Obj)} {σ : L2.St} {H : Hp} {cls : Value} {d : Option Addr} {a : Addr} {B : Heap} {sI s : Shared} {D : Ends} {Wout : WX}
theorem Got.here (g : Got X pins σ H cls d a B sI s) : Inv X pins σ H s := g.inv.landed g.nb g.fl.1 g.up g.os g.ag
theorem Got.off (g : Got X pins σ H cls d a B sI s) (hf : X.env.frame = some X.env.locals) : ∃ oe vs, s.heap.get? a = some oe ∧ Zc cls d oe ∧ oe.data = .fields vs ∧ a ≠ X.env.locals ∧ a ∉ X.fs := by
  obtain ⟨oe, vs, h1, h2, h3⟩ := g.fl.there
  have out : a ∉ frs (X.env :: X.outer) := by
    intro hm
    obtain ⟨_, o1, z, nf⟩ := g.fl.2.2.1.mem hm
    have zz := z.symm.trans h1
    injection zz with zz
    exact nf vs (by rw [zz]; exact h3)
  refine ⟨oe, vs, h1, h2, h3, fun z => ?_, fun hm => ?_⟩
  · refine out (List.mem_filterMap.mpr ⟨X.env, by simp, ?_⟩)
    rw [z]
    exact hf
  · obtain ⟨e, he, q⟩ := List.mem_filterMap.mp hm
    exact out (List.mem_filterMap.mpr ⟨e, List.mem_cons.mpr (.inr he), q⟩)
theorem Got.land (g : Got X pins σ H cls d a B sI s) {h : Heap} (fl : HandSPX.FlyingZ B (X.env :: X.outer) a (Zc cls d) h) (u : s.heap.UpToSlots h) : Got X pins σ H cls d a B sI { s with heap := h } :=
  ⟨g.inv, g.nb, g.up.trans u, g.os, g.ag, g.na, fl⟩
theorem Got.suite (g : Got X pins σ H cls d a B sI s) (hf : X.env.frame = some X.env.locals) : ∃ oe vs, Zc cls d oe ∧ oe.data = .fields vs ∧ s.heap.get? a = some oe ∧ Inv (X.suite a ((a, oe) :: (X.pn ++ pins))) [] σ H s := by
  obtain ⟨oe, vs, e1, e2, e3, e4, e5⟩ := g.off hf
  exact ⟨oe, vs, e2, e3, e1, g.here.suite e1 e3 g.na e4 e5⟩
/-- no clause is left: it flies on -/
theorem Got.fly (g : Got X pins σ H cls d a B sI s) (hs : X.stack = X.env :: X.outer) (hf : X.env.frame = some X.env.locals) (tk : Takes X Wout) (w : Wout cls d σ H) : wpAny (model X.prog X.w) X.A (handleBy (.ref a) X.env []) (SP X pins D) X.xe s := by
  refine wpAny_handleBy_nil ?_
  obtain ⟨_, _, _, oe, vs, T, oT, ts, q1, _, q2, q3, _⟩ := id g.fl
  have go : wpAny (model X.prog X.w) X.A (setFlight (.ref a) X.env.frame) (fun _ u => wpAny (model X.prog X.w) X.A (throw (.ref a) : Sem Flow) (SP X pins D) X.xe u) X.xe s := by
    rw [hf]
    refine HandSPX.setFlight_upZ g.fl fun h' hh u => wpAny_throw (tk _ _ ?_)
    refine ⟨a, B, sI, pins, σ, H, cls, d, rfl, g.inv, g.nb, g.up.trans u, ?_, g.na, g.os, g.ag, w⟩
    rw [hs]
    exact .inr (.inr hh)
  unfold PySem.passOn
  refine wpAny_bind (wpAny_field q1 q2 q3 ?_)
  have no : ¬ ((Value.ref T == Value.none) = true) := by simp
  rw [if_neg no]
  first | exact wpAny_bind (wpAny_pure (wpAny_bind go)) | exact wpAny_bind go
/-- the class that a clause names is looked up -/
theorem names_ok {x : Str} {c : Value} {p : Pos} {pn : List (Addr × Obj)} {oe : Obj} (hc : Names X x c) (I : Inv (X.suite a ((a, oe) :: pn)) [] σ H s) {Q E : Value → Shared → Prop} (q : Q c s) : wpAny (model X.prog X.w) (X.A.mark (some (.ref a))) (eval (.Name x p) X.env) Q E s := by
  obtain ⟨g1, g2, g3⟩ := hc
  rcases g3 with m | ⟨m, bb, ne⟩
  · exact ld_glob (X := X.suite a ((a, oe) :: pn)) I g1 m q g2
  · exact ld_blt (X := X.suite a ((a, oe) :: pn)) I g1 m bb q ne g2
/-- the clauses -/
theorem handle_ok {hds : List ExceptHandler} {l : List Clz} (hh : ClOk X hds l) (hs : X.stack = X.env :: X.outer) (hf : X.env.frame = some X.env.locals) (tk : Takes X Wout) :
    ∀ {s : Shared}, Got X pins σ H cls d a B sI s → wCl X.K Wout D l cls d σ H → wpAny (model X.prog X.w) X.A (handleBy (.ref a) X.env hds) (SP X pins D) X.xe s := by
  induction hh with
  | nil => intro s g w; exact g.fly hs hf tk w
  | @bare x c ts b0 su p q hs2 l2 hc hsu r ih =>
    intro s g ⟨b, hb, yes, no⟩
    obtain ⟨oe, vs, e1, e2, e3, S⟩ := g.suite hf
    refine wpAny_handleBy_cons (codeAny_handlers_test ?_) (by intro z; cases z)
    have cl : PySem.W.Looks (model X.prog X.w) s.heap (typeOf (.ref a)) cls := by
      intro A2 Q2 E2 s2 kp q2
      refine wpAny_typeOf_ref (kp _ _ e3) ?_
      rw [e1.1]
      exact q2
    refine names_ok hc S ((PySem.W.exm_one (M := model X.prog X.w) g.here.kIn cl hb).here ?_)
    cases b with
    | false => exact ih g (no rfl)
    | true =>
      refine codeAny_handlers_suite (HandSPX.lands_againZ g.fl fun h4 fl4 up4 => ?_)
      have g4 := g.land fl4 up4
      obtain ⟨o4, vs4, z1, z2, z3, S4⟩ := g4.suite hf
      have run := (hsu a o4 cls d (X.pn ++ pins) z1 ⟨vs4, z2⟩).run [] _ σ H (ends none D) S4 (yes rfl a g.na)
      refine wpAny_mono run (fun f s6 sp => ?_) fun _ _ z => z.elim
      have ok := g.inv.ok
      cases f with
      | ret u => obtain ⟨v, σ6, H6, I6, r6, q6⟩ := sp; exact ⟨v, σ6, H6, I6.unsuite ok, r6, q6⟩
      | next => obtain ⟨σ6, H6, I6, q6⟩ := sp; exact ⟨σ6, H6, I6.unsuite ok, q6⟩
      | brk => obtain ⟨σ6, H6, I6, q6⟩ := sp; exact ⟨σ6, H6, I6.unsuite ok, q6⟩
      | cont => obtain ⟨σ6, H6, I6, q6⟩ := sp; exact ⟨σ6, H6, I6.unsuite ok, q6⟩
  | @named x n i c ts b0 su p q hs2 l2 hN hi hk hc hsu r ih =>
    intro s g ⟨b, hb, yes, no⟩
    obtain ⟨oe, vs, e1, e2, e3, S⟩ := g.suite hf
    refine wpAny_handleBy_cons (codeAny_handlers_test ?_) (by intro z; cases z)
    have cl : PySem.W.Looks (model X.prog X.w) s.heap (typeOf (.ref a)) cls := by
      intro A2 Q2 E2 s2 kp q2
      refine wpAny_typeOf_ref (kp _ _ e3) ?_
      rw [e1.1]
      exact q2
    refine names_ok hc S ((PySem.W.exm_one (M := model X.prog X.w) g.here.kIn cl hb).here ?_)
    cases b with
    | false => exact ih g (no rfl)
    | true =>
      refine codeAny_handlers_suite_as (HandSPX.lands_againZ g.fl fun h4 fl4 up4 => ?_)
      have g4 := g.land fl4 up4
      obtain ⟨o4, vs4, z1, z2, z3, S4⟩ := g4.suite hf
      refine store_ok (X := X.suite a ((a, o4) :: (X.pn ++ pins))) (v := .ref a) S4 hN hi (.inl hk) rfl (fun s5 S5 => ?_) (.inr hk)
      have run := (hsu a o4 cls d (X.pn ++ pins) z1 ⟨vs4, z2⟩).run [] s5 _ H (ends (some i) D) S5 (yes rfl a g.na)
      refine wpAny_mono run (fun f s6 sp => ?_) fun _ _ z => z.elim
      have ok := g.inv.ok
      cases f with
      | ret u => obtain ⟨v, σ6, H6, I6, r6, q6⟩ := sp; exact gone_ok (I6.unsuite ok) hN hi hk fun s7 J => ⟨v, _, H6, J, r6, q6⟩
      | next => obtain ⟨σ6, H6, I6, q6⟩ := sp; exact gone_ok (I6.unsuite ok) hN hi hk fun s7 J => ⟨_, H6, J, q6⟩
      | brk => obtain ⟨σ6, H6, I6, q6⟩ := sp; exact gone_ok (I6.unsuite ok) hN hi hk fun s7 J => ⟨_, H6, J, q6⟩
      | cont => obtain ⟨σ6, H6, I6, q6⟩ := sp; exact gone_ok (I6.unsuite ok) hN hi hk fun s7 J => ⟨_, H6, J, q6⟩
/-- the reading of a try: the body's, with the clauses' wish of its exceptions -/
def tTry (K : PySem.W.Frag) (Wout : WX) (l : List Clz) (tb : WX → TS) : TS := fun D σ H => tb (wCl K Wout D l) D σ H
theorem ps_try {body : List Stmt} {h0 : ExceptHandler} {hds : List ExceptHandler} {l : List Clz} {tb : WX → TS} {pos : Pos} (hs : X.stack = X.env :: X.outer) (hf : X.env.frame = some X.env.locals) (tk : Takes X Wout)
    (hb : ∀ (W : WX) (pn : List (Addr × Obj)) (xe : Value → Shared → Prop), Takes (X.tr pn xe) W → PassesOwn (model X.prog X.w) X.A X.env xe → PSs (X.tr pn xe) body (tb W)) (hh : ClOk X (h0 :: hds) l) :
    PS X (.Try body (h0 :: hds) [] [] pos) (tTry X.K Wout l tb) := by
  refine ⟨fun pins s σ H D I h => ?_⟩
  have ok := I.ok
  refine wpAny_Try_except ?_
  let K1 : Value → Shared → Prop := fun e s1 => wpAny (model X.prog X.w) X.A (noteFrame e X.env) (fun _ s2 => wpAny (model X.prog X.w) X.A (setFlight e none) (fun _ s3 => wpAny (model X.prog X.w) X.A (handleBy e X.env (h0 :: hds)) (SP X pins D) X.xe s3) X.xe s2) X.xe s1
  have tk1 : Takes (X.tr (X.pn ++ pins) K1) (wCl X.K Wout D l) := by
    intro u s2 xx
    obtain ⟨a, B, sI, pins2, σ2, H2, cls, d, rfl, J, nb, up, sky, na, os, ag, w⟩ := xx
    have sky2 : Sky B (X.env :: X.outer) a (Zc cls d) X.env.locals s2.heap := hs ▸ sky
    show wpAny (model X.prog X.w) X.A (noteFrame (.ref a) X.env) _ _ _
    refine Sky.land Zc.steady (ok.frames.trans (congrArg some hs)) hf sky2 fun h3 fl3 up3 => ?_
    exact handle_ok hh hs hf tk (⟨J.ofTry ok, nb, up.trans up3, os, ag, na, fl3⟩ : Got X pins σ2 H2 cls d a B sI { s2 with heap := h3 }) w
  refine wpAny_mono ((hb _ _ K1 tk1 PassesOwn.looking).run [] s σ H D (I.toTry K1) h) (fun f s1 sp => ?_) fun e s1 he => he
  cases f with
  | ret u => obtain ⟨v, σ6, H6, I6, r6, q6⟩ := sp; exact ⟨v, σ6, H6, I6.ofTry ok, r6, q6⟩
  | next => obtain ⟨σ6, H6, I6, q6⟩ := sp; exact wpAny_execs_nil ⟨σ6, H6, I6.ofTry ok, q6⟩
  | brk => obtain ⟨σ6, H6, I6, q6⟩ := sp; exact ⟨σ6, H6, I6.ofTry ok, q6⟩
  | cont => obtain ⟨σ6, H6, I6, q6⟩ := sp; exact ⟨σ6, H6, I6.ofTry ok, q6⟩
end
end SB

set_option Elab.async false
set_option linter.all false
set_option maxRecDepth 100000
set_option maxHeartbeats 4000000
/-! stepping through tries; more -/
namespace SB
open PySem PySem.Spec PyProof.Rows L2 Evl
/-- a callee of a try's body -/
def eTry (n : Nat) (W : WX) : XK := fun cls d H => ∀ σ : L2.St, σ.length = n → W cls d σ H
theorem passes_try {X : Cx} {W : WX} (n : Nat) (hn : X.N.length = n) (tk : Takes X W) : Passes (L2.CX X.prog X.w) X (eTry n W) := fun _ σ _ _ e s' I c => tk e s' (XE.of_call I (fun cls d H' h => h σ (I.len.trans hn)) c)
section
variable {K : PySem.W.Frag} {Wout : WX} {l : List Clz} {tb : WX → TS} {D : Ends} {σ : L2.St} {H : Hp}
theorem r_try (h : tb (wCl K Wout D l) D σ H) : tTry K Wout l tb D σ H := h
theorem r_clY {cls : Value} {d : Option Addr} {z : Clz} (h : PySem.W.exmOne K cls z.c = some true) (k : ∀ a, H a = none → z.ts a cls d (ends z.o D) (nm z.o (some (.ref a)) σ) H) : wCl K Wout D (z :: l) cls d σ H :=
  ⟨true, h, fun _ => k, fun z => nomatch z⟩
theorem r_clN {cls : Value} {d : Option Addr} {z : Clz} (h : PySem.W.exmOne K cls z.c = some false) (k : wCl K Wout D l cls d σ H) : wCl K Wout D (z :: l) cls d σ H :=
  ⟨false, h, (fun z => nomatch z), fun _ => k⟩
theorem r_xf {a dd C : Addr} {f : Str} {i : Nat} {fs : List (Str × V)} {v : V} {Q : VK} (h1 : σ[i]? = some (some (.ref a))) (h2 : H dd = some (.xd fs)) (h3 : fs.lookup f = some v) (q : Q v H) : tXf a (.ref C) (some dd) C f (tVar i) σ H Q :=
  ⟨.ref a, h1, rfl, rfl, dd, fs, v, rfl, h2, h3, q⟩
theorem set_len {σ : L2.St} {i : Nat} {v : Option V} (h : i < σ.length) : (σ.set i v)[i]? = some v := List.getElem?_set_self h
theorem r_dnewK {Q : VK} (h : ∀ d H2, H d = none → Ex H H2 → H2 d = some (.dK []) → Q (.ref d) H2) : tDNewK σ H Q := r_new0 h
/-- a text times an int -/
def rRepS : R2 := fun x y H Q => ∃ z k, x = .str z ∧ y = .int k ∧ z.length ≤ 16 ∧ -1000 ≤ k ∧ k ≤ 1000 ∧ Q (.str (Txt.mul z k)) H
theorem op_repS {X : Cx} : OpR X (binaryOp .Mult) rRepS := by
  intro pins s σ H x y v u Q I rx ry h
  obtain ⟨z, k, rfl, rfl, h1, h2, h3, q⟩ := h
  obtain ⟨t, rfl⟩ := rx
  obtain ⟨t', rfl⟩ := ry
  exact PySem.W.KXi.mul (n := z.length) rfl h1 (by omega) (by omega) fun t2 tk _ _ => ⟨.str (Txt.mul z k), H, I.tok _, ⟨_, rfl⟩, q⟩
theorem r_repS {z : Str} {k : Int} {Q : VK} (h1 : z.length ≤ 16) (h2 : -1000 ≤ k) (h3 : k ≤ 1000) (q : Q (.str (Txt.mul z k)) H) : rRepS (.str z) (.int k) H Q := ⟨z, k, rfl, rfl, h1, h2, h3, q⟩
theorem r_bm {T : String} {r : V → List V → Hp → VK → Prop} {to : TE} {t : TA} {Q : VK} (h : to σ H fun x H1 => tyV K T x H1 ∧ t σ H1 fun xs H2 => r x xs H2 Q) : tBM K T r to t σ H Q := h
theorem r_bm0 {T : String} {r : V → List V → Hp → VK → Prop} {to : TE} {Q : VK} (h : to σ H fun x H1 => tyV K T x H1 ∧ r x [] H1 Q) : tBM0 K T r to σ H Q := h
theorem tyL {l : Addr} {xs : List V} (h : SqL K H l xs) : tyV K "list" (.ref l) H := .inl ⟨rfl, xs, h⟩
theorem r_app {l : Addr} {ys : List V} {y : V} {Q : VK} (h : H l = some (.lst ys)) (hz : ys.length < 100000) (q : ∀ H2, H2 l = some (.lst (ys ++ [y])) → Sm l H H2 → Q .non H2) : rAppend (.ref l) [y] H Q :=
  ⟨l, ys, y, rfl, rfl, h, sz_lt hz, q _ upd_same fun b o hb hh => by rw [upd_ne hb]; exact hh⟩
/-- two places frozen -/
def fz2 (p l : Addr) (H : Hp) : Hp := fz l (fz p H)
theorem fz2_p {p l : Addr} : fz2 p l H p = none := by unfold fz2 fz; simp
theorem fz2_l {p l : Addr} : fz2 p l H l = none := by unfold fz2 fz; simp
theorem fz2_ex {p l : Addr} : Ex (fz2 p l H) H := fun a o h => fz_ex a o (fz_ex a o h)
theorem fz2_at {p l a : Addr} {o : HO} (h : H a = some o) (n1 : a ≠ p) (n2 : a ≠ l) : fz2 p l H a = some o := fz_at (fz_at h n1) n2
theorem fz2_up {p l : Addr} {G : Hp} (e : Ex G H) (g1 : G p = none) (g2 : G l = none) : Ex G (fz2 p l H) := fun a o h => fz2_at (e a o h) (fun z => by rw [z, g1] at h; cases h) (fun z => by rw [z, g2] at h; cases h)
theorem Ex.sm {p : Addr} {G H1 : Hp} (e : Ex G H) (g : G p = none) (s : Sm p H H1) : Ex G H1 := fun a o h => s a o (fun z => by rw [z, g] at h; cases h) (e a o h)
theorem r_min {l : Addr} {ns : List Int} {Q : VK} (h : SqL K H l (ns.map V.int)) (hn : ns ≠ []) (q : ∀ m, m ∈ ns → (∀ y, y ∈ ns → m ≤ y) → Q (.int m) H) : rMin K [V.ref l] H Q := ⟨l, ns, rfl, h, List.length_pos_iff.mpr hn, q⟩
/-- many places frozen -/
def fr (ps : List Addr) (H : Hp) : Hp := fun a => if a ∈ ps then none else H a
theorem fr_ex {ps : List Addr} : Ex (fr ps H) H := fun a o h => by
  unfold fr at h
  by_cases e : a ∈ ps
  · rw [if_pos e] at h; cases h
  · rwa [if_neg e] at h
theorem fr_no {ps : List Addr} {p : Addr} (h : p ∈ ps) : fr ps H p = none := by unfold fr; rw [if_pos h]
theorem fr_at {ps : List Addr} {a : Addr} {o : HO} (h : H a = some o) (n : a ∉ ps) : fr ps H a = some o := by unfold fr; rw [if_neg n]; exact h
theorem fr_up {ps : List Addr} {G : Hp} (e : Ex G H) (g : ∀ p ∈ ps, G p = none) : Ex G (fr ps H) := fun a o h => fr_at (e a o h) fun z => by rw [g a z] at h; cases h
/-- what is new over H -/
def nw (H H1 : Hp) : Hp := fun a => match H a with
  | none => H1 a
  | some _ => none
theorem nw_at {H1 : Hp} {a : Addr} {o : HO} (n : H a = none) (h : H1 a = some o) : nw H H1 a = some o := by unfold nw; rw [n]; exact h
theorem nw_no {H1 : Hp} {a : Addr} (n : H a ≠ none) : nw H H1 a = none := by
  unfold nw
  cases e : H a with
  | none => exact absurd e n
  | some o => rfl
theorem nw_none {H1 : Hp} {a : Addr} (n : H1 a = none) : nw H H1 a = none := by
  unfold nw
  cases e : H a with
  | none => exact n
  | some o => rfl
theorem nw_ex {H1 : Hp} : Ex (nw H H1) H1 := fun a o h => by
  unfold nw at h
  cases e : H a with
  | none => rw [e] at h; exact h
  | some u => rw [e] at h; cases h
theorem nw_up {G H1 : Hp} (e : Ex G H1) (n : ∀ a, H a ≠ none → G a = none) : Ex G (nw H H1) := fun a o h => nw_at (by
  cases q : H a with
  | none => rfl
  | some u => rw [n a (by rw [q]; exact fun z => nomatch z)] at h; cases h) (e a o h)
theorem ex_none {H1 : Hp} {a : Addr} (e : Ex H H1) (n : H1 a = none) : H a = none := by
  cases q : H a with
  | none => rfl
  | some o => rw [e a o q] at n; cases n
theorem sm_none {H1 : Hp} {p a : Addr} (e : Sm p H H1) (n : H1 a = none) (h : a ≠ p) : H a = none := by
  cases q : H a with
  | none => rfl
  | some o => rw [e a o h q] at n; cases n
end
end SB

set_option Elab.async false
set_option linter.all false
set_option maxRecDepth 100000
set_option maxHeartbeats 4000000
/-! != of objects with a == of their own -/
namespace SB
open PySem PySem.Spec PyProof.Rows L2 Evl Builtin
section
variable {prog : Program} {w : World} {A : Around} {E : Value → Shared → Prop} {s : Shared} {K : PySem.W.Frag} {x C f : Addr} {ox : Obj} {od : Option Obj} {b tb : Value}
theorem objNe_in {Q : Fin → Shared → Prop} (hu : A.units < cLine) (X : K.In s.heap) (I : PySem.W.InstAt s.heap x ox C od) (hs : PySem.W.findIn K (.ref C) "__eq__" = some (some (.ref f))) (hf : PySem.W.isFn K (.ref f) = true)
    (h : wpAny (model prog w) A (call (.ref f) [.ref x, b]) (fun v s' => ∃ r, v = .bool r ∧ Q (.done (.ret (.bool (!r)))) s') E s) : wpAny (model prog w) A (Builtin.«object.__ne__» ⟨[.ref x, b], []⟩) Q E s := by
  have go : wpAny (model prog w) A (callSpecialIfBound? (.ref x) (Str.ofString "__eq__") [b]) (fun v s' => ∃ r, v = some (.bool r) ∧ Q (.done (.ret (.bool (!r)))) s') E s :=
    PySem.W.ifBound_K X I hs hf (wpAny_mono h (fun v s' z => by obtain ⟨r, rfl, q⟩ := z; exact ⟨r, rfl, q⟩) fun _ _ e => e)
  unfold Builtin.«object.__ne__»
  repeat (first
    | with_reducible refine wpAny_cRoomFor hu ?_
    | (refine wpAny_bind (m := callSpecialIfBound? (.ref x) (Str.ofString "__eq__") [b]) (wpAny_mono go (fun v s' z => ?_) fun _ _ e => e)
       obtain ⟨r, rfl, q⟩ := z
       repeat (first | exact q | exact wpAny_pure q | exact wpAny_truthy_bool q | (refine wpAny_bind (m := truthy (.bool _)) (wpAny_truthy_bool ?_)) | wp_step))
    | wp_step)
theorem ne_own {Q : Value → Shared → Prop} (hu : A.units + 1 < cLine) (X : K.In s.heap) (I : PySem.W.InstAt s.heap x ox C od) (hb : PySem.W.Looks (model prog w) s.heap (typeOf b) tb) (hn : PySem.W.notFirst K C tb = true)
    (hm : PySem.W.mroIn K C (.type "object") = some true) (hne : PySem.W.findIn K (.ref C) "__ne__" = some (some (.builtin "object.__ne__"))) (hs : PySem.W.findIn K (.ref C) "__eq__" = some (some (.ref f))) (hf : PySem.W.isFn K (.ref f) = true)
    (h : wpAny (model prog w) A.in1 (call (.ref f) [.ref x, b]) (fun v s' => ∃ r, v = .bool r ∧ Q (.bool (!r)) s') E s) : wpAny (model prog w) A (richCompare .NotEq (.ref x) b) Q E s := by
  have hu1 : A.in1.units < cLine := hu
  have c1 : wpAny (model prog w) A (call (.builtin "object.__ne__") ([.ref x] ++ [b])) (fun v s' => ∃ r, v = .bool r ∧ Q (.bool r) s') E s := by
    refine wpAny_call (codeAny_call_builtin F.cmp_object.ne.plain F.cmpEntry_ne (PySem.W.check_slot F.cmpKind_ne F.cmpSplit_ne (I.type.andThen (PySem.W.looks_mroIn X hm)) (F.cmpArgs_ne _ _) (objNe_in hu1 X I hs hf (wpAny_mono h (fun v s' z => ?_) fun _ _ e => e))))
    obtain ⟨r, rfl, q⟩ := z
    exact ⟨r, rfl, !r, rfl, q⟩
  have one : wpAny (model prog w) A (tryCompare (.ref x) "__ne__" b) (fun r s' => ∃ v, r = some (.bool v) ∧ Q (.bool v) s') E s := by
    unfold tryCompare
    have sp : PySem.W.Looks (model prog w) s.heap (specialOf (.ref x) "__ne__") (some (.builtin "object.__ne__")) := I.type.andThen (PySem.W.looks_findIn X hne)
    refine wpAny_bind (NtL.csib sp (F.cmp_object.ne.bind _) (wpAny_mono c1 (fun v s' z => ?_) fun _ _ e => e))
    obtain ⟨r, rfl, q⟩ := z
    exact wpAny_pure ⟨r, rfl, q⟩
  unfold richCompare
  rw [cmpInfo_NotEq]
  simp only [oneThing_ref]
  refine wpAny_holding (wpAny_bind (wpAny_cRoomFor (Nat.lt_of_succ_lt hu) (wpAny_bind (I.type.here (wpAny_bind (hb.here ?_))))))
  have fin : ∀ {α : Type} {k : Option Value → Sem α} {R : α → Shared → Prop}, (∀ v s', Q (.bool v) s' → wpAny (model prog w) A (k (some (.bool v))) R E s') → wpAny (model prog w) A (tryCompare (.ref x) "__ne__" b >>= k) R E s := fun hk =>
    wpAny_bind (wpAny_mono one (fun r s' z => by obtain ⟨v, rfl, q⟩ := z; exact hk v s' q) fun _ _ e => e)
  split
  · rename_i q
    have e : PySem.W.subIn K tb (.ref C) = some false := by
      rcases Bool.or_eq_true_iff.mp hn with e | e
      · rw [beq_iff_eq.mp e] at q; simp at q
      · exact beq_iff_eq.mp e
    refine wpAny_bind ((PySem.W.looks_subIn X e).here ?_)
    simp only [Bool.false_eq_true, if_false]
    exact fin fun v s' q => wpAny_pure q
  · refine wpAny_bind (wpAny_pure ?_)
    simp only [Bool.false_eq_true, if_false]
    exact fin fun v s' q => wpAny_pure q
end
/-- object's own != stands -/
structure NeC (K : PySem.W.Frag) (C : Addr) : Prop where
  ne : PySem.W.findIn K (.ref C) "__ne__" = some (some (.builtin "object.__ne__"))
  mr : PySem.W.mroIn K C (.type "object") = some true
def rNeO (K : PySem.W.Frag) (C : Addr) (sp : Sp) (E : XK) : R2 := fun x y H Q => ∃ a dx fs t, x = .ref a ∧ H a = some (.ins C dx fs) ∧ TyX K H y t ∧ PySem.W.notFirst K C t = true ∧ sp [.ref a, y] H (fun v H2 => ∃ b, v = .bl b ∧ Q (.bl (!b)) H2) E
theorem op_neO {X : Cx} {CX : CXT} {k : Nat} {f C : Addr} {fd : FuncData} {ps : List Str} {sp : Sp} {E : XK} (N : NeC X.K C) (D : Dun X.K C "__eq__" f) (F : FnOk X.prog X.w X.K X.mg X.base CX k f fd ps sp) (hr : Room (k + 1) X.A) (hb : Binds X.K fd ps []) (hx : Passes CX X E) : OpR X (compareOp .NotEq) (rNeO X.K C sp E) := by
  intro pins s σ H x y v u Q I rx ry h
  obtain ⟨a, dx, fs, t, rfl, ha, ty, nf, q⟩ := h
  cases rx
  obtain ⟨ox, od, J⟩ := inst_of I ha
  obtain ⟨Pr, Z, p, hne⟩ := kit_of I ry ty
  show wpAny (model X.prog X.w) X.A (richCompare .NotEq (.ref a) u) (EP X pins σ Q) X.xe s
  have hu : X.A.units + 1 < cLine := by have := hr.units; omega
  refine ne_own hu I.kIn J (Z.ty _ _ I.kIn p) nf N.mr N.ne D.at_ D.fn (wpAny_mono (run_at rfl F hr.in1 hb hx I (.cons (rv_ref (a := a)) (.cons ry .nil)) q) (fun r s2 z => ?_) fun _ _ z => z)
  obtain ⟨w, H2, I2, rw', b, rfl, q2⟩ := z
  cases rw'
  exact ⟨b, rfl, .bl (!b), H2, I2, rfl, q2⟩
theorem k_neO {X : Cx} (K : PySem.W.Frag) (e : X.K = K) {CX : CXT} {k : Nat} {f C : Addr} {fd : FuncData} {ps : List Str} {sp : Sp} {E : XK} (N : NeC K C) (D : Dun K C "__eq__" f) (F : FnOk X.prog X.w K X.mg X.base CX k f fd ps sp) (hr : Room (k + 1) X.A) (hb : Binds K fd ps []) (hx : Passes CX X E) : OpR X (compareOp .NotEq) (rNeO K C sp E) := by
  subst e
  exact op_neO N D F hr hb hx
end SB

set_option Elab.async false
set_option linter.all false
set_option maxRecDepth 100000
set_option maxHeartbeats 4000000
/-! != of things that are the same, of a list of objects and an empty one -/
namespace SB
open PySem PySem.Spec PyProof.Rows L2 Evl
section
variable {X : Cx} {K : PySem.W.Frag} {H : Hp}
/-- an item that is the same object, or the same number, text, bool, None -/
def Itm (x : V) : Prop := (∃ a, x = .ref a) ∨ flatV x = true
theorem eqV_self : ∀ {x : V}, flatV x = true → eqV x x = true
  | .non, _ => rfl
  | .bl b, _ => by unfold eqV; simp
  | .int i, _ => by unfold eqV; simp
  | .str z, _ => by unfold eqV; simp
theorem itm_eq {A : Around} {s : Shared} {x : V} {u v : Value} (i : Itm x) (ru : RelV x u) (rv : RelV x v) : SeqAt.EqAt A s u v true := by
  rcases i with ⟨a, rfl⟩ | f
  · cases ru; cases rv; exact SeqAt.EqAt.same _
  · have e := eqAt_V (A := A) (s := s) ru rv f f
    rw [eqV_self f] at e
    exact e
theorem vals_at {xs : List V} {us vs : List Value} (r : Vals xs us) (r2 : Vals xs vs) {j : Nat} (h1 : j < us.length) (h2 : j < vs.length) : ∃ x ∈ xs, RelV x us[j] ∧ RelV x vs[j] := by
  induction r generalizing vs j with
  | nil => exact absurd h1 (Nat.not_lt_zero _)
  | @cons x u xs us rx r ih =>
    cases r2 with
    | @cons _ v _ vs ry r2 =>
      cases j with
      | zero => exact ⟨x, List.mem_cons_self .., rx, ry⟩
      | succ j =>
        obtain ⟨y, hy, a, b⟩ := ih r2 (j := j) (by simpa using h1) (by simpa using h2)
        exact ⟨y, List.mem_cons_of_mem _ hy, a, b⟩
/-- the same thing twice, or two tuples | lists of the same things -/
inductive Same2 (K : PySem.W.Frag) (H : Hp) : V → V → Prop
  | flat {x y : V} : scal x y = true → x = y → Same2 K H x y
  | tup {a b : Addr} {xs : List V} : SqT K H a xs → SqT K H b xs → (∀ x ∈ xs, Itm x) → Same2 K H (.ref a) (.ref b)
  | lst {a b : Addr} {xs : List V} : SqL K H a xs → SqL K H b xs → (∀ x ∈ xs, Itm x) → Same2 K H (.ref a) (.ref b)
  | dic {a b : Addr} : H a = some (.dK []) → H b = some (.dK []) → Same2 K H (.ref a) (.ref b)
def rNeS (K : PySem.W.Frag) : R2 := fun x y H Q => Same2 K H x y ∧ Q (.bl false) H
theorem op_neS (hu : X.A.units + 1 < cLine) : OpR X (compareOp .NotEq) (rNeS X.K) := by
  intro pins s σ H x y v u Q I rx ry h
  obtain ⟨h, q⟩ := h
  cases h with
  | flat h1 h2 =>
    subst h2
    exact op_ne pins s σ H x x v u Q I rx ry ⟨h1, by rw [decide_eq_true rfl]; exact q⟩
  | @tup a b xs ha hb hx =>
    cases rx; cases ry
    obtain ⟨us, r, e, _⟩ := I.tuple ha
    obtain ⟨vs, r2, e2, _⟩ := I.tuple hb
    have hl : us.length = vs.length := by rw [← r.length, ← r2.length]
    have c := SeqAt.RcNeAt.tuples (A := X.A) (e := fun _ => true) e e2 (Nat.lt_of_succ_lt hu) fun j h1 h2 => by
      obtain ⟨z, hz, z1, z2⟩ := vals_at r r2 (j := j) (by simpa using h1) (by simpa using h2)
      simpa using itm_eq (A := X.A.in1) (s := s) (hx z hz) z1 z2
    refine c X.prog X.w X.xe _ ⟨.bl false, H, I, ?_, q⟩
    have : (!((List.range (min us.toArray.size vs.toArray.size)).all (fun _ => true) && us.toArray.size == vs.toArray.size)) = false := by simp [hl]
    rw [this]
    rfl
  | @lst a b xs ha hb hx =>
    cases rx; cases ry
    obtain ⟨us, r, e, _⟩ := I.list ha
    obtain ⟨vs, r2, e2, _⟩ := I.list hb
    have hl : us.length = vs.length := by rw [← r.length, ← r2.length]
    have c := SeqAt.RcNeAt.lists (A := X.A) (e := fun _ => true) e.isList e2.isList (by simpa using hl) (Nat.lt_of_succ_lt hu) fun j h1 h2 => by
      obtain ⟨z, hz, z1, z2⟩ := vals_at r r2 (j := j) (by simpa using h1) (by simpa using h2)
      simpa using itm_eq (A := X.A.in1) (s := s) (hx z hz) z1 z2
    refine c X.prog X.w X.xe _ ⟨.bl false, H, I, ?_, q⟩
    have : (!(List.range us.toArray.size).all (fun _ => true)) = false := by simp
    rw [this]
    rfl
  | @dic a b ha hb =>
    exact op_ne_dictA (Nat.lt_of_succ_lt hu) pins s σ H (.ref a) (.ref b) v u Q I rx ry ⟨a, b, [], [], rfl, rfl, ha, hb, rfl, (fun p hp => nomatch hp), q⟩
theorem k_neS (K : PySem.W.Frag) (e : X.K = K) (hu : X.A.units + 1 < cLine) : OpR X (compareOp .NotEq) (rNeS K) := e ▸ op_neS hu
theorem r_neS {x y : V} {Q : VK} (h : Same2 K H x y) (q : Q (.bl false) H) : rNeS K x y H Q := ⟨h, q⟩
/-- xs != [], xs of any objects -/
def rNeL0 (K : PySem.W.Frag) : R2 := fun x y H Q => ∃ a b xs, x = .ref a ∧ y = .ref b ∧ SqL K H a xs ∧ SqL K H b [] ∧ Q (.bl (!xs.isEmpty)) H
theorem op_neL0 (hu : X.A.units + 1 < cLine) : OpR X (compareOp .NotEq) (rNeL0 X.K) := by
  intro pins s σ H x y v u Q I rx ry h
  obtain ⟨a, b, xs, rfl, rfl, ha, hb, q⟩ := h
  cases rx; cases ry
  obtain ⟨us, r, e, _⟩ := I.list ha
  obtain ⟨vs, r2, e2, _⟩ := I.list hb
  cases r2
  cases r with
  | nil =>
    have c := SeqAt.RcNeAt.lists (A := X.A) (e := fun _ => true) e.isList e2.isList rfl (Nat.lt_of_succ_lt hu) fun j h1 h2 => absurd h1 (Nat.not_lt_zero _)
    exact c X.prog X.w X.xe _ ⟨.bl false, H, I, rfl, q⟩
  | @cons x0 u0 xs0 us0 rx r =>
    have c := SeqAt.RcNeAt.lists_lengths (A := X.A) e.isList e2.isList (by simp) (Nat.lt_of_succ_lt hu)
    exact c X.prog X.w X.xe _ ⟨.bl true, H, I, rfl, q⟩
theorem k_neL0 (K : PySem.W.Frag) (e : X.K = K) (hu : X.A.units + 1 < cLine) : OpR X (compareOp .NotEq) (rNeL0 K) := e ▸ op_neL0 hu
theorem r_neL0 {a b : Addr} {xs : List V} {Q : VK} (h1 : SqL K H a xs) (h2 : SqL K H b []) (q : Q (.bl (!xs.isEmpty)) H) : rNeL0 K (.ref a) (.ref b) H Q := ⟨a, b, xs, rfl, rfl, h1, h2, q⟩
theorem r_neO {C a dx : Addr} {sp : Sp} {E : XK} {fs : List (Str × V)} {y : V} {t : Value} {Q : VK} (h : H a = some (.ins C dx fs)) (ty : TyX K H y t) (nf : PySem.W.notFirst K C t = true) (q : sp [.ref a, y] H (fun v H2 => ∃ b, v = .bl b ∧ Q (.bl (!b)) H2) E) : rNeO K C sp E (.ref a) y H Q :=
  ⟨a, dx, fs, t, rfl, h, ty, nf, q⟩
/-- sorted(d), d a dict with texts for keys -/
def rSortDK : List V → Hp → VK → Prop := fun xs H Q => ∃ (a : Addr) (kvs : List (Key × V)) (ks : List Str), xs = [.ref a] ∧ Rd H a (.dK kvs) ∧ kvs.map (·.1) = ks.map Sum.inr ∧ ks.length < 64 ∧ ∀ ys p, ys.Perm ks → sortedS ys = true → H p = none → Q (.ref p) (upd H p (.lst (ys.map V.str)))
theorem r_iE {ta : TA} {σ : L2.St} {R : It → Hp → Prop} (h : ta σ H fun vs H1 => ∃ a xs, vs = [V.ref a] ∧ SqL K H1 a xs ∧ R (Ite K a) H1) : iEnum K ta σ H R := h
theorem r_tDIn {ty td : TE} {σ : L2.St} {Q : VK} (h : ty σ H fun y H1 => td σ H1 fun x H2 => ∃ a o, x = .ref a ∧ DGet H2 a y o ∧ Q (.bl o.isSome) H2) : tDIn ty td σ H Q := h
theorem r_tDNotIn {ty td : TE} {σ : L2.St} {Q : VK} (h : ty σ H fun y H1 => td σ H1 fun x H2 => ∃ a o, x = .ref a ∧ DGet H2 a y o ∧ Q (.bl (!o.isSome)) H2) : tDNotIn ty td σ H Q := h
theorem r_tDGet {ty td : TE} {σ : L2.St} {Q : VK} (h : td σ H fun x H1 => ty σ H1 fun y H2 => ∃ a v, x = .ref a ∧ DGet H2 a y (some v) ∧ Q v H2) : tDGet td ty σ H Q := h
theorem r_sDPut {ty td tv : TE} {D : Ends} {σ : L2.St} (h : tv σ H fun v H1 => td σ H1 fun x H2 => ty σ H2 fun y H3 => ∃ a H4, x = .ref a ∧ DPut H3 a y v H4 ∧ D.nx σ H4) : sDPut td ty tv D σ H := h
theorem r_subO {C : Addr} {sp : Sp} {E : XK} {ta tb : TE} {σ : L2.St} {Q : VK} (h : ta σ H fun y H1 => tb σ H1 fun x H2 => ∃ a dx fs, y = .ref a ∧ H2 a = some (.ins C dx fs) ∧ sp [.ref a, x] H2 Q E) : tSubO C sp E ta tb σ H Q := h
theorem k_sortDK (c : X.calm = true) : CallR X (.builtin "sorted") rSortDK := call_sortedD c
theorem r_sortDK {a : Addr} {kvs : List (Key × V)} {ks : List Str} {Q : VK} (h : H a = some (.dK kvs)) (e : kvs.map (·.1) = ks.map Sum.inr) (l : ks.length < 64) (q : ∀ ys p H1, ys.Perm ks → sortedS ys = true → H p = none → Ex H H1 → H1 p = some (.lst (ys.map V.str)) → Q (.ref p) H1) : rSortDK [.ref a] H Q :=
  ⟨a, kvs, ks, rfl, .inl h, e, l, fun ys p h1 h2 hp => q ys p _ h1 h2 hp (Ex.new hp) upd_same⟩
theorem dputK {a : Addr} {kvs : List (Key × V)} (k : Str) (v : V) (h : H a = some (.dK kvs)) (l : kvs.length < 100000) : ∃ H1, DPut H a (.str k) v H1 ∧ H1 a = some (.dK (putK kvs (Sum.inr k) v)) ∧ Sm a H H1 :=
  ⟨_, .inl ⟨kvs, Sum.inr k, h, rfl, sz_lt l, rfl⟩, upd_same, fun b o hb hh => by rw [upd_ne hb]; exact hh⟩
theorem dgetK {a : Addr} {kvs : List (Key × V)} (k : Str) (h : H a = some (.dK kvs)) : DGet H a (.str k) (valV kvs (Sum.inr k)) := .inl ⟨kvs, Sum.inr k, .inl h, rfl, rfl⟩
theorem dgetE {a : Addr} {kvs : List (Key × V)} {k : Str} {v : V} (h : H a = some (.dK kvs)) (e : valV kvs (Sum.inr k) = some v) : DGet H a (.str k) (some v) := .inl ⟨kvs, Sum.inr k, .inl h, rfl, e.symm⟩
/-- the dict of names and what they name -/
def kvz (ns : List Str) (xs : List V) : List (Key × V) := (ns.map Sum.inr).zip xs
theorem kvz_val : ∀ (ns : List Str) (xs : List V) (k : Str), ns.length ≤ xs.length → (valV (kvz ns xs) (Sum.inr k)).isSome = decide (k ∈ ns)
  | [], _, _, _ => rfl
  | n :: ns, [], _, h => absurd h (by simp)
  | n :: ns, x :: xs, k, h => by
    have e : kvz (n :: ns) (x :: xs) = (Sum.inr n, x) :: kvz ns xs := rfl
    rw [e]
    by_cases q : n = k
    · rw [valV_pos (by rw [q])]; simp [q]
    · rw [valV_neg (fun z => q (Sum.inr.inj z)), kvz_val ns xs k (by simpa using h)]
      have : k ≠ n := fun z => q z.symm
      simp [this]
theorem kvz_at : ∀ (ns : List Str) (xs : List V) (i : Nat) (k : Str) (x : V), ns.Nodup → ns[i]? = some k → xs[i]? = some x → valV (kvz ns xs) (Sum.inr k) = some x
  | [], _, _, _, _, _, h, _ => by simp at h
  | n :: ns, [], i, _, _, _, _, h => by simp at h
  | n :: ns, y :: xs, i, k, x, nd, h1, h2 => by
    have e : kvz (n :: ns) (y :: xs) = (Sum.inr n, y) :: kvz ns xs := rfl
    rw [e]
    rw [List.nodup_cons] at nd
    cases i with
    | zero =>
      cases h1; cases h2
      exact valV_pos rfl
    | succ i =>
      rw [List.getElem?_cons_succ] at h1 h2
      rw [valV_neg (p := (Sum.inr n, y)) (fun z => nd.1 ((Sum.inr.inj (show (Sum.inr n : Key) = Sum.inr k from z)) ▸ List.mem_of_getElem? h1)), kvz_at ns xs i k x nd.2 h1 h2]
theorem kvz_put {ns : List Str} {xs : List V} {k : Str} {x : V} (h : xs[ns.length]? = some x) (n : k ∉ ns) : putK (kvz ns xs) (Sum.inr k) x = kvz (ns ++ [k]) xs := by
  have hl : ns.length < xs.length := (List.getElem?_eq_some_iff.mp h).1
  have e : (valV (kvz ns xs) (Sum.inr k)).isSome = false := by rw [kvz_val ns xs k (by omega)]; exact decide_eq_false n
  unfold putK
  rw [valV_any, e, if_neg Bool.false_ne_true]
  have hx : xs = xs.take ns.length ++ x :: xs.drop (ns.length + 1) := by
    rw [List.getElem?_eq_some_iff] at h
    obtain ⟨_, h⟩ := h
    rw [← h, ← List.drop_eq_getElem_cons, List.take_append_drop]
  have z1 : kvz ns xs = (ns.map Sum.inr).zip (xs.take ns.length) := by
    unfold kvz
    rw [List.zip_eq_zip_take_min]
    simp [Nat.min_eq_left (Nat.le_of_lt hl)]
    rw [List.take_of_length_le (by simp)]
  rw [z1]
  unfold kvz
  rw [List.map_append]
  conv => rhs; rw [hx]
  rw [List.zip_append (by simp; omega)]
  rfl
theorem kvz_len {ns : List Str} {xs : List V} (h : ns.length ≤ xs.length) : (kvz ns xs).length = ns.length := by unfold kvz; simp; omega
theorem kvz_keys {ns : List Str} {xs : List V} (h : ns.length ≤ xs.length) : (kvz ns xs).map (·.1) = ns.map Sum.inr := by
  unfold kvz
  rw [show (fun p : Key × V => p.1) = Prod.fst from rfl, List.map_fst_zip (by simpa using h)]
end
end SB

set_option Elab.async false
set_option linter.all false
set_option maxRecDepth 100000
/-! sorted lists of texts -/
namespace SB
open PySem PySem.Spec PyProof.Rows L2 Evl
abbrev leS (a b : Str) : Prop := a.cps.toList ≤ b.cps.toList
theorem leS_of {a b : Str} (h : ltCps b.cps.toList a.cps.toList = false) : leS a b := by
  rw [ltCps_eq] at h
  exact List.not_lt.mp (of_decide_eq_false h)
theorem rising_pw : ∀ (p : Str) (l : List Str), risingS p l = true → (p :: l).Pairwise leS
  | p, [], _ => by simp
  | p, x :: r, h => by
    have h1 : (!ltCps x.cps.toList p.cps.toList && risingS x r) = true := h
    rw [Bool.and_eq_true] at h1
    have ih := rising_pw x r h1.2
    have px : leS p x := leS_of (by simpa using h1.1)
    refine List.pairwise_cons.mpr ⟨fun z hz => ?_, ih⟩
    rcases List.mem_cons.mp hz with rfl | hz
    · exact px
    · exact List.le_trans px ((List.pairwise_cons.mp ih).1 z hz)
theorem sorted_pw : ∀ {l : List Str}, sortedS l = true → l.Pairwise leS
  | [], _ => .nil
  | x :: r, h => rising_pw x r h
theorem sorted_uniq {ys zs : List Str} (p : ys.Perm zs) (h1 : sortedS ys = true) (h2 : sortedS zs = true) : ys = zs :=
  List.Perm.eq_of_pairwise (fun a b _ _ h1 h2 => str_ext (List.le_antisymm h1 h2)) (sorted_pw h1) (sorted_pw h2) p
theorem r_sortS {K : PySem.W.Frag} {H : Hp} {a : Addr} {xs : List Str} {Q : VK} (h : SqL K H a (xs.map V.str)) (l : xs.length < 64) (q : ∀ ys p H1, ys.Perm xs → sortedS ys = true → H p = none → Ex H H1 → H1 p = some (.lst (ys.map V.str)) → Q (.ref p) H1) : rSortedS K [.ref a] H Q :=
  ⟨a, xs, rfl, h, l, fun ys p h1 h2 hp => q ys p _ h1 h2 hp (Ex.new hp) upd_same⟩
theorem r_clear {K : PySem.W.Frag} {H : Hp} {l : Addr} {xs : List V} {Q : VK} (h : H l = some (.lst xs)) (q : ∀ H1, H1 l = some (.lst []) → Sm l H H1 → Q .non H1) : rClear (.ref l) [] H Q :=
  ⟨l, xs, rfl, rfl, h, q _ upd_same fun b o hb hh => by rw [upd_ne hb]; exact hh⟩
end SB
namespace SL
open PySem L2 SB Evl
def topS (i : Nat) : Stmt := PySem.Challenge.pw_scopebind_k03_stores.main.body.getD i (.Pass ⟨0, 0, 0, 0⟩)
abbrev s_NoLibrary___init__ : Stmt := inClass (topS 2) 0
abbrev N_NoLibrary___init__ : List Str := ["self", "part"]
abbrev P_NoLibrary___init__ : List Str := ["self", "part"]
theorem sc_NoLibrary___init__ : FnScope N_NoLibrary___init__ P_NoLibrary___init__ (defScope s_NoLibrary___init__) := ⟨rfl, rfl, rfl, by decide +kernel, rfl, by decide +kernel, by decide +kernel⟩
abbrev s_NoStore___init__ : Stmt := inClass (topS 3) 0
abbrev N_NoStore___init__ : List Str := ["self", "at"]
abbrev P_NoStore___init__ : List Str := ["self", "at"]
theorem sc_NoStore___init__ : FnScope N_NoStore___init__ P_NoStore___init__ (defScope s_NoStore___init__) := ⟨rfl, rfl, rfl, by decide +kernel, rfl, by decide +kernel, by decide +kernel⟩
abbrev s_NoName___init__ : Stmt := inClass (topS 4) 0
abbrev N_NoName___init__ : List Str := ["self", "name"]
abbrev P_NoName___init__ : List Str := ["self", "name"]
theorem sc_NoName___init__ : FnScope N_NoName___init__ P_NoName___init__ (defScope s_NoName___init__) := ⟨rfl, rfl, rfl, by decide +kernel, rfl, by decide +kernel, by decide +kernel⟩
abbrev s_is_word : Stmt := topS 7
abbrev N_is_word : List Str := ["thing", "letter"]
abbrev P_is_word : List Str := ["thing"]
theorem sc_is_word : FnScope N_is_word P_is_word (defScope s_is_word) := ⟨rfl, rfl, rfl, by decide +kernel, rfl, by decide +kernel, by decide +kernel⟩
abbrev s_are_words : Stmt := topS 8
abbrev N_are_words : List Str := ["thing", "most", "word"]
abbrev P_are_words : List Str := ["thing", "most"]
theorem sc_are_words : FnScope N_are_words P_are_words (defScope s_are_words) := ⟨rfl, rfl, rfl, by decide +kernel, rfl, by decide +kernel, by decide +kernel⟩
abbrev s_Library___init__ : Stmt := inClass (topS 11) 0
abbrev N_Library___init__ : List Str := ["self", "name", "needs", "defines", "uses", "weak", "eager", "own_first", "symbol"]
abbrev P_Library___init__ : List Str := ["self", "name", "needs", "defines", "uses", "weak", "eager", "own_first"]
theorem sc_Library___init__ : FnScope N_Library___init__ P_Library___init__ (defScope s_Library___init__) := ⟨rfl, rfl, rfl, by decide +kernel, rfl, by decide +kernel, by decide +kernel⟩
abbrev s_Library_row : Stmt := inClass (topS 11) 1
abbrev N_Library_row : List Str := ["self"]
abbrev P_Library_row : List Str := ["self"]
theorem sc_Library_row : FnScope N_Library_row P_Library_row (defScope s_Library_row) := ⟨rfl, rfl, rfl, by decide +kernel, rfl, by decide +kernel, by decide +kernel⟩
abbrev s_Library___eq__ : Stmt := inClass (topS 11) 2
abbrev N_Library___eq__ : List Str := ["self", "other"]
abbrev P_Library___eq__ : List Str := ["self", "other"]
theorem sc_Library___eq__ : FnScope N_Library___eq__ P_Library___eq__ (defScope s_Library___eq__) := ⟨rfl, rfl, rfl, by decide +kernel, rfl, by decide +kernel, by decide +kernel⟩
abbrev s_Store___init__ : Stmt := inClass (topS 12) 0
abbrev N_Store___init__ : List Str := ["self", "libraries", "at", "item"]
abbrev P_Store___init__ : List Str := ["self", "libraries"]
theorem sc_Store___init__ : FnScope N_Store___init__ P_Store___init__ (defScope s_Store___init__) := ⟨rfl, rfl, rfl, by decide +kernel, rfl, by decide +kernel, by decide +kernel⟩
abbrev s_Store___getitem__ : Stmt := inClass (topS 12) 1
abbrev N_Store___getitem__ : List Str := ["self", "name"]
abbrev P_Store___getitem__ : List Str := ["self", "name"]
theorem sc_Store___getitem__ : FnScope N_Store___getitem__ P_Store___getitem__ (defScope s_Store___getitem__) := ⟨rfl, rfl, rfl, by decide +kernel, rfl, by decide +kernel, by decide +kernel⟩
abbrev s_Store___iter__ : Stmt := inClass (topS 12) 2
abbrev N_Store___iter__ : List Str := ["self"]
abbrev P_Store___iter__ : List Str := ["self"]
theorem sc_Store___iter__ : FnScope N_Store___iter__ P_Store___iter__ (defScope s_Store___iter__) := ⟨rfl, rfl, rfl, by decide +kernel, rfl, by decide +kernel, by decide +kernel⟩
abbrev s_Store___contains__ : Stmt := inClass (topS 12) 3
abbrev N_Store___contains__ : List Str := ["self", "name"]
abbrev P_Store___contains__ : List Str := ["self", "name"]
theorem sc_Store___contains__ : FnScope N_Store___contains__ P_Store___contains__ (defScope s_Store___contains__) := ⟨rfl, rfl, rfl, by decide +kernel, rfl, by decide +kernel, by decide +kernel⟩
abbrev s_Store___len__ : Stmt := inClass (topS 12) 4
abbrev N_Store___len__ : List Str := ["self"]
abbrev P_Store___len__ : List Str := ["self"]
theorem sc_Store___len__ : FnScope N_Store___len__ P_Store___len__ (defScope s_Store___len__) := ⟨rfl, rfl, rfl, by decide +kernel, rfl, by decide +kernel, by decide +kernel⟩
abbrev s_names : Stmt := topS 13
abbrev N_names : List Str := ["store"]
abbrev P_names : List Str := ["store"]
theorem sc_names : FnScope N_names P_names (defScope s_names) := ⟨rfl, rfl, rfl, by decide +kernel, rfl, by decide +kernel, by decide +kernel⟩
abbrev s__law_well : Stmt := topS 16
abbrev N__law_well : List Str := ["_law_cell"]
abbrev P__law_well : List Str := ["_law_cell"]
theorem sc__law_well : FnScope N__law_well P__law_well (defScope s__law_well) := ⟨rfl, rfl, rfl, by decide +kernel, rfl, by decide +kernel, by decide +kernel⟩
abbrev s__law_draw : Stmt := topS 17
abbrev N__law_draw : List Str := ["_law_well_here", "_law_many", "_law_digit", "_law_prime", "_law_number"]
abbrev P__law_draw : List Str := ["_law_well_here", "_law_many"]
theorem sc__law_draw : FnScope N__law_draw P__law_draw (defScope s__law_draw) := ⟨rfl, rfl, rfl, by decide +kernel, rfl, by decide +kernel, by decide +kernel⟩
abbrev s__law_one : Stmt := topS 18
abbrev N__law_one : List Str := ["_law_well_here", "_law_some_here"]
abbrev P__law_one : List Str := ["_law_well_here", "_law_some_here"]
theorem sc__law_one : FnScope N__law_one P__law_one (defScope s__law_one) := ⟨rfl, rfl, rfl, by decide +kernel, rfl, by decide +kernel, by decide +kernel⟩
abbrev s__law_said : Stmt := topS 19
abbrev N__law_said : List Str := ["_law_some_here", "e"]
abbrev P__law_said : List Str := ["_law_some_here"]
theorem sc__law_said : FnScope N__law_said P__law_said (defScope s__law_said) := ⟨rfl, rfl, rfl, by decide +kernel, rfl, by decide +kernel, by decide +kernel⟩
abbrev s__law_fetched : Stmt := topS 20
abbrev N__law_fetched : List Str := ["_law_store", "_law_word", "e"]
abbrev P__law_fetched : List Str := ["_law_store", "_law_word"]
theorem sc__law_fetched : FnScope N__law_fetched P__law_fetched (defScope s__law_fetched) := ⟨rfl, rfl, rfl, by decide +kernel, rfl, by decide +kernel, by decide +kernel⟩
abbrev s__law_some : Stmt := topS 21
abbrev N__law_some : List Str := ["_law_well_here", "_law_found", "_law_k", "_law_word", "_law_at"]
abbrev P__law_some : List Str := ["_law_well_here"]
theorem sc__law_some : FnScope N__law_some P__law_some (defScope s__law_some) := ⟨rfl, rfl, rfl, by decide +kernel, rfl, by decide +kernel, by decide +kernel⟩
abbrev s_law : Stmt := topS 22
abbrev N_law : List Str := ["_law_script", "_law_cell", "_law_well_here", "_law_some_here", "_law_due", "_law_words", "_law_at", "_law_item", "_law_kept", "_law_store", "_law_k", "_law_word", "_law_odd"]
abbrev P_law : List Str := ["_law_script"]
theorem sc_law : FnScope N_law P_law (defScope s_law) := ⟨rfl, rfl, rfl, by decide +kernel, rfl, by decide +kernel, by decide +kernel⟩
/-- where things stand -/
structure Adr where
  C_LoadError : Addr
  C_NoLibrary : Addr
  C_NoStore : Addr
  C_NoName : Addr
  C_Library : Addr
  C_Store : Addr
  f_NoLibrary___init__ : Addr
  d_NoLibrary___init__ : FuncData
  f_NoStore___init__ : Addr
  d_NoStore___init__ : FuncData
  f_NoName___init__ : Addr
  d_NoName___init__ : FuncData
  f_is_word : Addr
  d_is_word : FuncData
  f_are_words : Addr
  d_are_words : FuncData
  f_Library___init__ : Addr
  d_Library___init__ : FuncData
  f_Library_row : Addr
  d_Library_row : FuncData
  f_Library___eq__ : Addr
  d_Library___eq__ : FuncData
  f_Store___init__ : Addr
  d_Store___init__ : FuncData
  f_Store___getitem__ : Addr
  d_Store___getitem__ : FuncData
  f_Store___iter__ : Addr
  d_Store___iter__ : FuncData
  f_Store___contains__ : Addr
  d_Store___contains__ : FuncData
  f_Store___len__ : Addr
  d_Store___len__ : FuncData
  f_names : Addr
  d_names : FuncData
  f__law_well : Addr
  d__law_well : FuncData
  f__law_draw : Addr
  d__law_draw : FuncData
  f__law_one : Addr
  d__law_one : FuncData
  f__law_said : Addr
  d__law_said : FuncData
  f__law_fetched : Addr
  d__law_fetched : FuncData
  f__law_some : Addr
  d__law_some : FuncData
  f_law : Addr
  d_law : FuncData
  e0 : Addr
  e1 : Addr
  e2 : Addr
  e3 : Addr
/-- Library's defaults -/
def kwL (A : Adr) : List (Str × V) := [("needs", .ref A.e0), ("defines", .ref A.e1), ("uses", .ref A.e2), ("weak", .ref A.e3), ("eager", .bl false), ("own_first", .bl false)]
/-- what the top has written -/
structure Txt (K : PySem.W.Frag) (mg : Str → Option Value) (A : Adr) : Prop where
  b_ValueError : mg "ValueError" = none
  b_all : mg "all" = none
  b_bool : mg "bool" = none
  b_enumerate : mg "enumerate" = none
  b_int : mg "int" = none
  b_isinstance : mg "isinstance" = none
  b_len : mg "len" = none
  b_list : mg "list" = none
  b_range : mg "range" = none
  b_set : mg "set" = none
  b_sorted : mg "sorted" = none
  b_str : mg "str" = none
  b_tuple : mg "tuple" = none
  c_LETTERS : ∃ u, mg "LETTERS" = some u ∧ RelV (.str "abcdefghijklmnopqrstuvwxyz") u
  c_MOST_LIBRARIES : ∃ u, mg "MOST_LIBRARIES" = some u ∧ RelV (.int 40) u
  ld : LdC K mg A.C_LoadError
  x_NoLibrary : XC K mg "NoLibrary" "part" A.C_NoLibrary A.f_NoLibrary___init__
  x_NoStore : XC K mg "NoStore" "at" A.C_NoStore A.f_NoStore___init__
  x_NoName : XC K mg "NoName" "name" A.C_NoName A.f_NoName___init__
  g_Library : mg "Library" = some (.ref A.C_Library)
  cl_Library : Cls K A.C_Library
  na_Library_name : NoAttr K A.C_Library "name"
  na_Library_needs : NoAttr K A.C_Library "needs"
  na_Library_defines : NoAttr K A.C_Library "defines"
  na_Library_uses : NoAttr K A.C_Library "uses"
  na_Library_weak : NoAttr K A.C_Library "weak"
  na_Library_eager : NoAttr K A.C_Library "eager"
  na_Library_own_first : NoAttr K A.C_Library "own_first"
  mk_Library : Mk K A.C_Library A.f_Library___init__
  g_Store : mg "Store" = some (.ref A.C_Store)
  cl_Store : Cls K A.C_Store
  na_Store_kept : NoAttr K A.C_Store "kept"
  mk_Store : Mk K A.C_Store A.f_Store___init__
  F_NoLibrary___init__ : Fun K "__init__" "NoLibrary.__init__" s_NoLibrary___init__ A.f_NoLibrary___init__ A.d_NoLibrary___init__
  bi_NoLibrary___init__ : Binds K A.d_NoLibrary___init__ P_NoLibrary___init__ []
  F_NoStore___init__ : Fun K "__init__" "NoStore.__init__" s_NoStore___init__ A.f_NoStore___init__ A.d_NoStore___init__
  bi_NoStore___init__ : Binds K A.d_NoStore___init__ P_NoStore___init__ []
  F_NoName___init__ : Fun K "__init__" "NoName.__init__" s_NoName___init__ A.f_NoName___init__ A.d_NoName___init__
  bi_NoName___init__ : Binds K A.d_NoName___init__ P_NoName___init__ []
  F_is_word : Fun K "is_word" "is_word" s_is_word A.f_is_word A.d_is_word
  bi_is_word : Binds K A.d_is_word P_is_word []
  g_is_word : mg "is_word" = some (.ref A.f_is_word)
  k_is_word : PySem.W.keepIn K (.ref A.f_is_word) = true
  F_are_words : Fun K "are_words" "are_words" s_are_words A.f_are_words A.d_are_words
  bi_are_words : Binds K A.d_are_words P_are_words []
  g_are_words : mg "are_words" = some (.ref A.f_are_words)
  k_are_words : PySem.W.keepIn K (.ref A.f_are_words) = true
  F_Library___init__ : FunD K "__init__" "Library.__init__" (defArgs s_Library___init__) (defBody s_Library___init__) (defScope s_Library___init__) [] (kwL A) A.f_Library___init__ A.d_Library___init__
  F_Library_row : Fun K "row" "Library.row" s_Library_row A.f_Library_row A.d_Library_row
  bi_Library_row : Binds K A.d_Library_row P_Library_row []
  me_Library_row : Meth K A.C_Library "row" A.f_Library_row
  F_Library___eq__ : Fun K "__eq__" "Library.__eq__" s_Library___eq__ A.f_Library___eq__ A.d_Library___eq__
  bi_Library___eq__ : Binds K A.d_Library___eq__ P_Library___eq__ []
  du_Library_eq : Dun K A.C_Library "__eq__" A.f_Library___eq__
  F_Store___init__ : Fun K "__init__" "Store.__init__" s_Store___init__ A.f_Store___init__ A.d_Store___init__
  bi_Store___init__ : Binds K A.d_Store___init__ P_Store___init__ []
  F_Store___getitem__ : Fun K "__getitem__" "Store.__getitem__" s_Store___getitem__ A.f_Store___getitem__ A.d_Store___getitem__
  bi_Store___getitem__ : Binds K A.d_Store___getitem__ P_Store___getitem__ []
  du_Store_getitem : Dun K A.C_Store "__getitem__" A.f_Store___getitem__
  fi_Store_getitem : PySem.W.fnIn K A.f_Store___getitem__ = true
  F_Store___iter__ : Fun K "__iter__" "Store.__iter__" s_Store___iter__ A.f_Store___iter__ A.d_Store___iter__
  bi_Store___iter__ : Binds K A.d_Store___iter__ P_Store___iter__ []
  du_Store_iter : Dun K A.C_Store "__iter__" A.f_Store___iter__
  F_Store___contains__ : Fun K "__contains__" "Store.__contains__" s_Store___contains__ A.f_Store___contains__ A.d_Store___contains__
  bi_Store___contains__ : Binds K A.d_Store___contains__ P_Store___contains__ []
  du_Store_contains : Dun K A.C_Store "__contains__" A.f_Store___contains__
  F_Store___len__ : Fun K "__len__" "Store.__len__" s_Store___len__ A.f_Store___len__ A.d_Store___len__
  bi_Store___len__ : Binds K A.d_Store___len__ P_Store___len__ []
  du_Store_len : Dun K A.C_Store "__len__" A.f_Store___len__
  F_names : Fun K "names" "names" s_names A.f_names A.d_names
  bi_names : Binds K A.d_names P_names []
  g_names : mg "names" = some (.ref A.f_names)
  k_names : PySem.W.keepIn K (.ref A.f_names) = true
  F__law_well : Fun K "_law_well" "_law_well" s__law_well A.f__law_well A.d__law_well
  bi__law_well : Binds K A.d__law_well P__law_well []
  g__law_well : mg "_law_well" = some (.ref A.f__law_well)
  k__law_well : PySem.W.keepIn K (.ref A.f__law_well) = true
  F__law_draw : Fun K "_law_draw" "_law_draw" s__law_draw A.f__law_draw A.d__law_draw
  bi__law_draw : Binds K A.d__law_draw P__law_draw []
  g__law_draw : mg "_law_draw" = some (.ref A.f__law_draw)
  k__law_draw : PySem.W.keepIn K (.ref A.f__law_draw) = true
  F__law_one : Fun K "_law_one" "_law_one" s__law_one A.f__law_one A.d__law_one
  bi__law_one : Binds K A.d__law_one P__law_one []
  g__law_one : mg "_law_one" = some (.ref A.f__law_one)
  k__law_one : PySem.W.keepIn K (.ref A.f__law_one) = true
  F__law_said : Fun K "_law_said" "_law_said" s__law_said A.f__law_said A.d__law_said
  bi__law_said : Binds K A.d__law_said P__law_said []
  g__law_said : mg "_law_said" = some (.ref A.f__law_said)
  k__law_said : PySem.W.keepIn K (.ref A.f__law_said) = true
  F__law_fetched : Fun K "_law_fetched" "_law_fetched" s__law_fetched A.f__law_fetched A.d__law_fetched
  bi__law_fetched : Binds K A.d__law_fetched P__law_fetched []
  g__law_fetched : mg "_law_fetched" = some (.ref A.f__law_fetched)
  k__law_fetched : PySem.W.keepIn K (.ref A.f__law_fetched) = true
  F__law_some : Fun K "_law_some" "_law_some" s__law_some A.f__law_some A.d__law_some
  bi__law_some : Binds K A.d__law_some P__law_some []
  g__law_some : mg "_law_some" = some (.ref A.f__law_some)
  k__law_some : PySem.W.keepIn K (.ref A.f__law_some) = true
  F_law : Fun K "law" "law" s_law A.f_law A.d_law
  bi_law : Binds K A.d_law P_law []
  g_law : mg "law" = some (.ref A.f_law)
  k_law : PySem.W.keepIn K (.ref A.f_law) = true
  e0_ok : ∀ H : Hp, SqT K H A.e0 []
  e1_ok : ∀ H : Hp, SqT K H A.e1 []
  e2_ok : ∀ H : Hp, SqT K H A.e2 []
  e3_ok : ∀ H : Hp, SqT K H A.e3 []
  ty_Library : ∀ {H : Hp} {a dx : Addr} {fs : List (Str × V)}, H a = some (.ins A.C_Library dx fs) → TyX K H (.ref a) (.ref A.C_Library)
  ty_Store : ∀ {H : Hp} {a dx : Addr} {fs : List (Str × V)}, H a = some (.ins A.C_Store dx fs) → TyX K H (.ref a) (.ref A.C_Store)
  ne_Library : NeC K A.C_Library
  nl_tuple : PySem.W.kitOne K (.type "tuple") (.ref A.C_Library) = some false
  nl_str : PySem.W.kitOne K (.type "str") (.ref A.C_Library) = some false
  nl_NoneType : PySem.W.kitOne K (.type "NoneType") (.ref A.C_Library) = some false
  nl_int : PySem.W.kitOne K (.type "int") (.ref A.C_Library) = some false
  nl_list : PySem.W.kitOne K (.type "list") (.ref A.C_Library) = some false
  nl_dict : PySem.W.kitOne K (.type "dict") (.ref A.C_Library) = some false
/-- the attributes of a library, in the order of the stores -/
abbrev libK : List Str := ["name", "needs", "defines", "uses", "weak", "eager", "own_first"]
local macro_rules | `(tactic| walk_at "rd1") => `(tactic| with_reducible first
  | refine r_seq ?_ | refine r_next ?_ | refine r_asg ?_ | refine r_name ?_ | refine r_ret ?_ | refine r_retN ?_ | refine r_drop ?_ | refine r_if ?_
  | refine r_c ?_ | refine r_op ?_ | refine r_un ?_ | refine r_nil ?_ | refine r_cons ?_ | refine r_CB ?_ | refine r_call ?_ | refine r_test ?_ | refine r_B ?_
  | refine r_iteT (c := true) rfl ?_ | refine r_iteF (c := false) rfl ?_ | refine r_iteF (c := !true) rfl ?_ | refine r_iteT (c := !false) rfl ?_
  | refine r_not ?_ | refine r_and ?_ | refine r_or ?_ | refine r_notV ?_ | refine r_andV ?_ | refine r_orV ?_ | refine r_ifE ?_ | refine r_sub ?_ | refine r_tupT ?_ | refine r_lstT ?_
  | refine r_lc ?_ | refine r_iL ?_ | refine r_iT ?_ | refine r_iS ?_ | refine r_iR1 ?_ | refine r_iR2 ?_ | refine r_for ?_ | refine r_yes ?_ | refine r_inS ?_
  | refine r_fld ?_ | refine r_sfld ?_ | refine r_meth ?_ | refine r_make ?_ | refine r_makeK ?_ | refine r_vei ?_ | refine r_ost ?_ | refine r_mkx ?_
  | refine r_try ?_ | refine r_iE ?_ | refine r_subO ?_ | refine r_tDIn ?_ | refine r_tDNotIn ?_ | refine r_tDGet ?_ | refine r_sDPut ?_ | refine r_bm ?_ | refine r_bm0 ?_ | refine r_rU ?_ | refine r_step ?_ | refine r_gnil ?_ | refine r_gcons ?_ | refine r_lstM ?_ | refine r_tupM ?_ | refine r_sl ?_ | refine r_noPart ?_ | refine r_part ?_ | refine r_intEx ?_ | refine r_chain ?_ | refine r_lenSetT ?_ | refine r_intB ?_ | refine r_I0 ?_ | refine r_bl ?_
  | (refine r_var (v := ?rv_v) ?rv_h ?_; (case rv_h => with_unfolding_all rfl)))
local macro_rules | `(tactic| walk_at "rd") => `(tactic| repeat (walk_at "rd1"))
section
variable {P : Program} {w : World} {K : PySem.W.Frag} {mg : Str → Option Value} {base : Heap} {A : Adr}
theorem letters_eq : letters = (List.range 26).map (97 + ·) := by decide +kernel
theorem alpha_len : ("abcdefghijklmnopqrstuvwxyz" : Str).length ≤ 100000 := by decide +kernel
theorem alpha_at {k : Nat} (h : k < 26) : atI ("abcdefghijklmnopqrstuvwxyz" : Str).cps.toList (k : Int) = some (97 + k) := by
  refine atI_nat ?_
  show letters[k]? = some (97 + k)
  rw [letters_eq, List.getElem?_map, List.getElem?_range h]
  rfl
/-- a text: whether it is a word; a thing of another type: False -/
def sp_is_word (K : PySem.W.Frag) (A : Adr) : Sp := fun vs H Q _ => ∃ x, vs = [x] ∧ ((∃ z, x = .str z ∧ z.length ≤ 100000 ∧ ∀ H', Ex H H' → Q (.bl (isWord z)) H') ∨
  (∃ t, TyX K H x t ∧ PySem.W.kitOne K t (.type "str") = some false ∧ Q (.bl false) H))
theorem ok_is_word (T : Txt K mg A) : FnOk P w K mg base CX0 1 A.f_is_word A.d_is_word P_is_word (sp_is_word K A) := by
  refine T.F_is_word.ok sc_is_word (fun vs H Q E h => ?_) (fun cdv Ar outer s H vs Q E hr h => ?_)
  · obtain ⟨x, rfl, _⟩ := h; rfl
  · have hu := hu_of hr
    obtain ⟨u_LETTERS, h_LETTERS, r_LETTERS⟩ := T.c_LETTERS
    refine ⟨_, (pss_one (ps_ret (pe_and (pe_callB (k_isi K rfl) (by rfl) T.b_isinstance (by decide +kernel) (pa_cons (pv 0) (pa_cons (pe_bltn (v := .ty "str") (by rfl) T.b_str (by decide +kernel) rfl) pa_nil))) (pe_and (pe_chain op_le op_le pe_int (pe_callB call_lenStrQ (by rfl) T.b_len PySem.boot_len (pa_cons (pv 0) pa_nil)) pe_int) (pe_one (pe_callB (k_all K rfl rfl) (by rfl) T.b_all (by decide +kernel) (pa_cons (pe_lcM (own := [("letter", 1)]) (tt := tYes) rfl sc_is_word.nd (pi_str (pv 0)) (blkOk_by (N := N_is_word) (sc := defScope s_is_word) (by decide +kernel)) (fun _ _ _ _ _ => (pg_name (i := 1) sc_is_word.nd rfl (Or.inl rfl))) (fun _ _ _ _ _ => pts_nil) (fun _ _ _ _ _ => (pe_cmpR op_inS (pv 1) (pe_glob (by rfl) h_LETTERS r_LETTERS) (by rfl)))) pa_nil))))))), ?_⟩
    obtain ⟨x, rfl, h | h⟩ := h
    · obtain ⟨z, rfl, hz, k⟩ := h
      obtain ⟨t_L, rfl⟩ : ∃ t, u_LETTERS = .str "abcdefghijklmnopqrstuvwxyz" t := r_LETTERS
      walk_at "rd"
      refine r_isi (b := true) (.ty "str") (.base (.str z)) (kit_ty (by decide +kernel)) ?_
      walk_at "rd"
      refine r_lenStr hz ?_
      walk_at "rd"
      by_cases h1 : (1 : Int) ≤ (z.length : Nat)
      · rw [decide_eq_true h1]
        walk_at "rd"
        by_cases h2 : ((z.length : Nat) : Int) ≤ 12
        · rw [decide_eq_true h2]
          walk_at "rd"
          refine ⟨z, rfl, ?_⟩
          refine lc_val walk_str (by show z.length ≤ 50000; omega) (fun _ _ => trivial) (fun i ys => ys = (z.cps.toList.take i).map fun c => V.bl (decide (c ∈ letters))) rfl (fun i ys x H1 H2 hi e1 hs y => ?_) fun D ys H1 nD e1 hs hD => ?_
          · obtain ⟨rfl, c, hc, rfl⟩ := y
            walk_at "rd"
            refine ⟨rfl, ?_⟩
            walk_at "rd"
            refine ⟨Ex.refl _, ?_⟩
            rw [hs, List.take_add_one]
            have hc2 : z.cps.toList[i]? = some c := by rw [Array.getElem?_toList]; exact hc
            rw [hc2, List.map_append]
            rfl
          · walk_at "rd"
            have e : z.cps.size = z.cps.toList.length := by simp
            rw [e, List.take_length] at hs
            subst hs
            have hb : (z.cps.toList.map fun c => V.bl (decide (c ∈ letters))) = (z.cps.toList.map fun c => decide (c ∈ letters)).map V.bl := by simp
            rw [hb] at hD
            refine r_all (SqL.of hD) ?_
            have e3 : isWord z = (z.cps.toList.map fun c => decide (c ∈ letters)).all id := by
              unfold isWord
              rw [decide_eq_true (by omega : 1 ≤ z.length), decide_eq_true (by omega : z.length ≤ 12), List.all_map]
              rfl
            rw [← e3]
            exact k H1 e1
        · rw [decide_eq_false h2]
          walk_at "rd"
          have e3 : isWord z = false := by unfold isWord; rw [decide_eq_false (by omega : ¬ z.length ≤ 12)]; simp
          rw [← e3]
          exact k _ (Ex.refl _)
      · rw [decide_eq_false h1]
        walk_at "rd"
        have e3 : isWord z = false := by unfold isWord; rw [decide_eq_false (by omega : ¬ 1 ≤ z.length)]; simp
        rw [← e3]
        exact k _ (Ex.refl _)
    · obtain ⟨t, ty, kt, k⟩ := h
      walk_at "rd"
      refine r_isi (.ty "str") ty kt ?_
      walk_at "rd"
      exact k
abbrev sp_NoLibrary___init__ (K : PySem.W.Frag) (A : Adr) : Sp := spXi K A.C_NoLibrary "part"
theorem ok_NoLibrary___init__ (T : Txt K mg A) : FnOk P w K mg base CX0 1 A.f_NoLibrary___init__ A.d_NoLibrary___init__ P_NoLibrary___init__ (sp_NoLibrary___init__ K A) := by
  refine T.F_NoLibrary___init__.ok sc_NoLibrary___init__ (fun vs H Q E h => ?_) (fun cdv Ar outer s H vs Q E hr h => ?_)
  · obtain ⟨a, v, rfl, _⟩ := h; rfl
  · have hu := hu_of hr
    refine ⟨_, (pss_cons (ps_expr (pe_linit T.ld (by rfl) (pa_cons (pv 0) (pa_cons pe_str pa_nil))))
        (pss_one (ps_ost (pv 0) (pv 1)))), ?_⟩
    obtain ⟨a, v, rfl, ha, k⟩ := h
    walk_at "rd"
    refine ⟨a, A.C_NoLibrary, _, rfl, by simp, T.x_NoLibrary.o, ha, ?_⟩
    walk_at "rd"
    exact ⟨a, A.C_NoLibrary, rfl, T.x_NoLibrary.o, T.x_NoLibrary.no, .inl ⟨ha, fun dx nd ne => k dx nd ne⟩⟩
/-- what is_word may be asked of -/
def WArg (K : PySem.W.Frag) (H : Hp) (y : V) : Prop := (∃ z, y = .str z ∧ z.length ≤ 100000) ∨ (∃ t, TyX K H y t ∧ PySem.W.kitOne K t (.type "str") = some false ∧ ∀ z, y ≠ .str z)
def isWordV : V → Bool
  | .str z => isWord z
  | _ => false
/-- a tuple of at most m distinct words -/
def areWords (m : Int) (xs : List V) : Bool := decide ((xs.length : Nat) ≤ m) && (xs.all isWordV && decide xs.Nodup)
theorem allW_strs : ∀ xs : List V, xs.all isWordV = true → ∃ ws : List Str, xs = ws.map V.str
  | [], _ => ⟨[], rfl⟩
  | x :: r, h => by
    rw [List.all_cons, Bool.and_eq_true] at h
    obtain ⟨ws, e⟩ := allW_strs r h.2
    cases x with
    | str z => exact ⟨z :: ws, by rw [e]; rfl⟩
    | _ => exact absurd h.1 (by simp [isWordV])
theorem nd_strs (ws : List Str) : (ws.map V.str).Nodup ↔ ws.Nodup := by
  induction ws with
  | nil => simp
  | cons z r ih => simp [ih]
def sp_are_words (K : PySem.W.Frag) (A : Adr) : Sp := fun vs H Q _ => ∃ (x : V) (m : Int), vs = [x, .int m] ∧ ((∃ (a : Addr) (xs : List V), x = .ref a ∧ SqT K H a xs ∧ TyX K H x (.type "tuple") ∧ xs.length ≤ 1000 ∧ (∀ y ∈ xs, WArg K H y) ∧ ∀ H', Ex H H' → Q (.bl (areWords m xs)) H') ∨
  (∃ t, TyX K H x t ∧ PySem.W.kitOne K t (.type "tuple") = some false ∧ Q (.bl false) H))
theorem ok_are_words (T : Txt K mg A) : FnOk P w K mg base CX0 2 A.f_are_words A.d_are_words P_are_words (sp_are_words K A) := by
  refine T.F_are_words.ok sc_are_words (fun vs H Q E h => ?_) (fun cdv Ar outer s H vs Q E hr h => ?_)
  · obtain ⟨x, m, rfl, _⟩ := h; rfl
  · have hu := hu_of hr
    refine ⟨_, (pss_cons (ps_if (PW.pt (pw_or (pt_not (pt_val (pe_callB (k_isi K rfl) (by rfl) T.b_isinstance (by decide +kernel) (pa_cons (pv 0) (pa_cons (pe_bltn (v := .ty "tuple") (by rfl) T.b_tuple (by decide +kernel) rfl) pa_nil))))) (pw_or1 (pt_cmpR op_gt (pe_callB (k_len K rfl) (by rfl) T.b_len PySem.boot_len (pa_cons (pv 0) pa_nil)) (pv 1) (nomark _)))))
          (pss_one (ps_ret pe_bl))
          pss_nil)
        (pss_one (ps_ret (pe_and (pe_callB (k_all K rfl rfl) (by rfl) T.b_all (by decide +kernel) (pa_cons (pe_lcM (own := [("word", 2)]) (tt := tYes) rfl sc_are_words.nd (k_pit K rfl (pv 0)) (blkOk_by (N := N_are_words) (sc := defScope s_are_words) (by decide +kernel)) (fun _ _ _ _ _ => (pg_name (i := 2) sc_are_words.nd rfl (Or.inl rfl))) (fun _ _ _ _ _ => pts_nil) (fun _ _ _ _ _ => (pe_call (ok_is_word T) (hr.mono (by decide)) (by rfl) T.g_is_word T.k_is_word T.bi_is_word .nil pass0 (pa_cons (pv 2) pa_nil)))) pa_nil)) (pe_one (pe_cmpR op_eq (k_lenSet K rfl rfl (by rfl) T.b_len (by rfl) T.b_set (pv 0)) (pe_callB (k_len K rfl) (by rfl) T.b_len PySem.boot_len (pa_cons (pv 0) pa_nil)) (nomark _))))))), ?_⟩
    obtain ⟨x, m, rfl, h | h⟩ := h
    · obtain ⟨a, xs, rfl, hx, ty, hl, hw, k⟩ := h
      walk_at "rd"
      refine r_isi (b := true) (.ty "tuple") ty (kit_ty (by decide +kernel)) ?_
      walk_at "rd"
      refine r_lenT hx ?_
      walk_at "rd"
      by_cases hm : m < ((xs.length : Nat) : Int)
      · rw [decide_eq_true hm]
        walk_at "rd"
        have e : areWords m xs = false := by unfold areWords; rw [decide_eq_false (by omega : ¬ ((xs.length : Nat) : Int) ≤ m)]; rfl
        rw [← e]
        exact k _ (Ex.refl _)
      · rw [decide_eq_false hm]
        walk_at "rd"
        refine ⟨a, rfl, ⟨xs, hx⟩, ?_⟩
        refine lc_val walk_tup (by omega) (fun H1 e1 => ex_t e1 hx) (fun i ys => ys = (xs.take i).map fun y => V.bl (isWordV y)) rfl (fun i ys y H1 H2 hi e1 hs hy => ?_) fun D ys H1 nD e1 hs hD => ?_
        · obtain ⟨rfl, hy⟩ := hy
          walk_at "rd"
          refine ⟨rfl, ?_⟩
          walk_at "rd"
          have wa := hw y (List.mem_of_getElem? hy)
          have fin : ∀ H', Ex H2 H' → Ex H2 H' ∧ ys ++ [V.bl (isWordV y)] = (xs.take (i + 1)).map fun y => V.bl (isWordV y) := fun H' e => ⟨e, by rw [hs, List.take_add_one, hy, List.map_append]; rfl⟩
          refine ⟨y, rfl, ?_⟩
          rcases wa with ⟨z, rfl, hz⟩ | ⟨t, ty, kt, ns⟩
          · exact .inl ⟨z, rfl, hz, fun H' e => fin H' e⟩
          · refine .inr ⟨t, tyX_up e1 ty, kt, ?_⟩
            have e : isWordV y = false := by
              cases y with
              | str z => exact absurd rfl (ns z)
              | _ => rfl
            have f := fin H2 (Ex.refl _)
            rw [e] at f
            exact f
        · rw [List.take_length] at hs
          subst hs
          have hb : (xs.map fun y => V.bl (isWordV y)) = (xs.map isWordV).map V.bl := by simp
          rw [hb] at hD
          walk_at "rd"
          refine r_all (SqL.of hD) ?_
          have e2 : (xs.map isWordV).all id = xs.all isWordV := by rw [List.all_map]; rfl
          rw [e2]
          cases ha : xs.all isWordV with
          | false =>
            walk_at "rd"
            have e : areWords m xs = false := by unfold areWords; rw [ha]; simp
            rw [← e]
            exact k _ e1
          | true =>
            obtain ⟨ws, rfl⟩ := allW_strs xs ha
            walk_at "rd"
            refine ⟨a, ws, rfl, ex_t e1 hx, by simpa using hl, ?_⟩
            walk_at "rd"
            refine r_lenT (ex_t e1 hx) ?_
            have e3 : (V.int (fcnt ws ws.length : Nat) = V.int ((ws.map V.str).length : Nat)) ↔ (ws.map V.str).Nodup := by
              have q := fcnt_eq_iff ws ws.length (Nat.le_refl _)
              rw [List.take_length] at q
              rw [nd_strs, ← q, List.length_map]
              constructor
              · intro z; exact Int.ofNat.inj (V.int.inj z)
              · intro z; rw [z]
            have e : areWords m (ws.map V.str) = decide (V.int (fcnt ws ws.length : Nat) = V.int ((ws.map V.str).length : Nat)) := by
              unfold areWords
              rw [ha, decide_eq_true (by omega : (((ws.map V.str).length : Nat) : Int) ≤ m)]
              simp only [Bool.true_and]
              exact decide_eq_decide.mpr e3.symm
            refine r_eq rfl ?_
            rw [← e]
            exact k _ e1
    · obtain ⟨t, ty, kt, k⟩ := h
      walk_at "rd"
      refine r_isi (.ty "tuple") ty kt ?_
      walk_at "rd"
      exact k
/-- a parameter that ought to be a tuple: its items, or none where it is no tuple -/
def TArg (K : PySem.W.Frag) (H : Hp) (x : V) : Option (List V) → Prop
  | some xs => ∃ a, x = .ref a ∧ SqT K H a xs ∧ TyX K H x (.type "tuple") ∧ xs.length ≤ 1000 ∧ ∀ y ∈ xs, WArg K H y
  | none => ∃ t, TyX K H x t ∧ PySem.W.kitOne K t (.type "tuple") = some false
/-- a parameter that ought to be a bool -/
def BArg (K : PySem.W.Frag) (H : Hp) (x : V) (b : Bool) : Prop := ∃ t, TyX K H x t ∧ PySem.W.kitOne K t (.type "bool") = some b
theorem WArg.up {K : PySem.W.Frag} {H H' : Hp} {y : V} (e : Ex H H') (h : WArg K H y) : WArg K H' y := by
  rcases h with h | ⟨t, a, b⟩
  · exact .inl h
  · exact .inr ⟨t, tyX_up e a, b⟩
theorem TArg.up {K : PySem.W.Frag} {H H' : Hp} {y : V} {o : Option (List V)} (e : Ex H H') (h : TArg K H y o) : TArg K H' y o := by
  cases o with
  | some xs => obtain ⟨a, h1, h2, h3, h4, h5⟩ := h; exact ⟨a, h1, ex_t e h2, tyX_up e h3, h4, fun z hz => (h5 z hz).up e⟩
  | none => obtain ⟨t, a, b⟩ := h; exact ⟨t, tyX_up e a, b⟩
theorem BArg.up {K : PySem.W.Frag} {H H' : Hp} {y : V} {b : Bool} (e : Ex H H') (h : BArg K H y b) : BArg K H' y b := by
  obtain ⟨t, a, c⟩ := h; exact ⟨t, tyX_up e a, c⟩
def okT (m : Int) : Option (List V) → Bool
  | some xs => areWords m xs
  | none => false
def its (o : Option (List V)) : List V := o.getD []
/-- the first invalid parameter -/
def libBad (name : V) (o1 o2 o3 o4 : Option (List V)) (b5 b6 : Bool) : Option Str :=
  if isWordV name = false then some "name" else if (okT 12 o1 && !inV name (its o1)) = false then some "needs" else if okT 20 o2 = false then some "defines" else if okT 20 o3 = false then some "uses"
  else if (okT 20 o4 && (its o4).all fun z => inV z (its o3)) = false then some "weak" else if b5 = false then some "eager" else if b6 = false then some "own_first" else none
/-- a call of are_words on such a parameter -/
theorem aw_call {K : PySem.W.Frag} {A : Adr} {H : Hp} {x : V} {m : Int} {o : Option (List V)} {Q : VK} {E : XK} (h : TArg K H x o) (q : ∀ H', Ex H H' → Q (.bl (okT m o)) H') : sp_are_words K A [x, .int m] H Q E := by
  cases o with
  | some xs => obtain ⟨a, h1, h2, h3, h4, h5⟩ := h; exact ⟨x, m, rfl, .inl ⟨a, xs, h1, h2, h3, h4, h5, q⟩⟩
  | none => obtain ⟨t, a, b⟩ := h; exact ⟨x, m, rfl, .inr ⟨t, a, b, q H (Ex.refl H)⟩⟩
theorem w_call {K : PySem.W.Frag} {A : Adr} {H : Hp} {x : V} {Q : VK} {E : XK} (h : WArg K H x) (q : ∀ H', Ex H H' → Q (.bl (isWordV x)) H') : sp_is_word K A [x] H Q E := by
  rcases h with ⟨z, rfl, hz⟩ | ⟨t, a, b, ns⟩
  · exact ⟨_, rfl, .inl ⟨z, rfl, hz, q⟩⟩
  · have e : isWordV x = false := by
      cases x with
      | str z => exact absurd rfl (ns z)
      | _ => rfl
    exact ⟨x, rfl, .inr ⟨t, a, b, e ▸ q H (Ex.refl H)⟩⟩
theorem aw_flat {m : Int} {o : Option (List V)} (h : okT m o = true) : (its o).all flatV = true ∧ ∃ ws : List Str, its o = ws.map V.str := by
  cases o with
  | none => exact absurd h (by simp [okT])
  | some xs =>
    have h1 : areWords m xs = true := h
    unfold areWords at h1
    simp only [Bool.and_eq_true] at h1
    obtain ⟨ws, e⟩ := allW_strs xs h1.2.1
    exact ⟨by show xs.all flatV = true; rw [e]; exact flat_str ws, ws, e⟩
theorem targ_sq {K : PySem.W.Frag} {H : Hp} {x : V} {o : Option (List V)} {m : Int} (h : TArg K H x o) (ok : okT m o = true) : ∃ a, x = .ref a ∧ SqT K H a (its o) ∧ (its o).length ≤ 1000 := by
  cases o with
  | none => exact absurd ok (by simp [okT])
  | some xs => obtain ⟨a, h1, h2, h3, h4, h5⟩ := h; exact ⟨a, h1, h2, h4⟩
theorem wv_flat {x : V} (h : isWordV x = true) : flatV x = true := by
  cases x with
  | str z => rfl
  | _ => exact absurd h (by simp [isWordV])
def sp_Library___init__ (K : PySem.W.Frag) (A : Adr) : Sp := fun vs H Q E => ∃ (p dx : Addr) (name v1 v2 v3 v4 v5 v6 : V) (o1 o2 o3 o4 : Option (List V)) (b5 b6 : Bool), vs = [.ref p, name, v1, v2, v3, v4, v5, v6] ∧
  H p = some (.ins A.C_Library dx (([] : List Str).zip [])) ∧ WArg K H name ∧ TArg K H v1 o1 ∧ TArg K H v2 o2 ∧ TArg K H v3 o3 ∧ TArg K H v4 o4 ∧ BArg K H v5 b5 ∧ BArg K H v6 b6 ∧
  (libBad name o1 o2 o3 o4 b5 b6 = none → ∀ H', Sm p H H' → H' p = some (.ins A.C_Library dx (libK.zip [name, v1, v2, v3, v4, v5, v6])) → Q .non H') ∧
  (∀ part, libBad name o1 o2 o3 o4 b5 b6 = some part → ∀ d H', Ex H H' → H' d = some (.xd [("part", .str part)]) → E (.ref A.C_NoLibrary) (some d) H')
theorem ok_Library___init__ (T : Txt K mg A) : FnOk P w K mg base (L2.CX P w) 3 A.f_Library___init__ A.d_Library___init__ P_Library___init__ (sp_Library___init__ K A) := by
  refine T.F_Library___init__.ok sc_Library___init__ (fun vs H Q E h => ?_) (fun cdv Ar outer s H vs Q E hr h => ?_)
  · obtain ⟨p, dx, name, v1, v2, v3, v4, v5, v6, o1, o2, o3, o4, b5, b6, rfl, _⟩ := h; rfl
  · have hu := hu_of hr
    refine ⟨_, (pss_cons (ps_if (pt_not (pt_val (pe_call (ok_is_word T) (hr.mono (by decide)) (by rfl) T.g_is_word T.k_is_word T.bi_is_word .nil pass0 (pa_cons (pv 1) pa_nil))))
          (pss_one (ps_raise rfl (takes_of rfl rfl rfl rfl) (pmk_x T.x_NoLibrary (ok_NoLibrary___init__ T) (hr.mono (by decide)) T.bi_NoLibrary___init__ (pa_cons pe_str pa_nil) (by rfl))))
          pss_nil)
        (pss_cons (ps_if (PW.pt (pw_or (pt_not (pt_val (pe_call (ok_are_words T) (hr.mono (by decide)) (by rfl) T.g_are_words T.k_are_words T.bi_are_words .nil pass0 (pa_cons (pv 2) (pa_cons pe_int pa_nil))))) (pw_or1 (pt_cmpR (k_in K rfl) (pv 1) (pv 2) (by rfl)))))
          (pss_one (ps_raise rfl (takes_of rfl rfl rfl rfl) (pmk_x T.x_NoLibrary (ok_NoLibrary___init__ T) (hr.mono (by decide)) T.bi_NoLibrary___init__ (pa_cons pe_str pa_nil) (by rfl))))
          pss_nil)
        (pss_cons (ps_if (pt_not (pt_val (pe_call (ok_are_words T) (hr.mono (by decide)) (by rfl) T.g_are_words T.k_are_words T.bi_are_words .nil pass0 (pa_cons (pv 3) (pa_cons pe_int pa_nil)))))
          (pss_one (ps_raise rfl (takes_of rfl rfl rfl rfl) (pmk_x T.x_NoLibrary (ok_NoLibrary___init__ T) (hr.mono (by decide)) T.bi_NoLibrary___init__ (pa_cons pe_str pa_nil) (by rfl))))
          pss_nil)
        (pss_cons (ps_if (pt_not (pt_val (pe_call (ok_are_words T) (hr.mono (by decide)) (by rfl) T.g_are_words T.k_are_words T.bi_are_words .nil pass0 (pa_cons (pv 4) (pa_cons pe_int pa_nil)))))
          (pss_one (ps_raise rfl (takes_of rfl rfl rfl rfl) (pmk_x T.x_NoLibrary (ok_NoLibrary___init__ T) (hr.mono (by decide)) T.bi_NoLibrary___init__ (pa_cons pe_str pa_nil) (by rfl))))
          pss_nil)
        (pss_cons (ps_if (PW.pt (pw_or (pt_not (pt_val (pe_call (ok_are_words T) (hr.mono (by decide)) (by rfl) T.g_are_words T.k_are_words T.bi_are_words .nil pass0 (pa_cons (pv 5) (pa_cons pe_int pa_nil))))) (pw_or1 (pt_not (pt_val (pe_callB (k_all K rfl rfl) (by rfl) T.b_all (by decide +kernel) (pa_cons (pe_lcM (own := [("symbol", 8)]) (tt := tYes) rfl sc_Library___init__.nd (k_pit K rfl (pv 5)) (blkOk_by (N := N_Library___init__) (sc := defScope s_Library___init__) (by decide +kernel)) (fun _ _ _ _ _ => (pg_name (i := 8) sc_Library___init__.nd rfl (Or.inl rfl))) (fun _ _ _ _ _ => pts_nil) (fun _ _ _ _ _ => (pe_cmpR (k_in K rfl) (pv 8) (pv 4) (by rfl)))) pa_nil)))))))
          (pss_one (ps_raise rfl (takes_of rfl rfl rfl rfl) (pmk_x T.x_NoLibrary (ok_NoLibrary___init__ T) (hr.mono (by decide)) T.bi_NoLibrary___init__ (pa_cons pe_str pa_nil) (by rfl))))
          pss_nil)
        (pss_cons (ps_if (pt_not (pt_val (pe_callB (k_isi K rfl) (by rfl) T.b_isinstance (by decide +kernel) (pa_cons (pv 6) (pa_cons (pe_bltn (v := .ty "bool") (by rfl) T.b_bool (by decide +kernel) rfl) pa_nil)))))
          (pss_one (ps_raise rfl (takes_of rfl rfl rfl rfl) (pmk_x T.x_NoLibrary (ok_NoLibrary___init__ T) (hr.mono (by decide)) T.bi_NoLibrary___init__ (pa_cons pe_str pa_nil) (by rfl))))
          pss_nil)
        (pss_cons (ps_if (pt_not (pt_val (pe_callB (k_isi K rfl) (by rfl) T.b_isinstance (by decide +kernel) (pa_cons (pv 7) (pa_cons (pe_bltn (v := .ty "bool") (by rfl) T.b_bool (by decide +kernel) rfl) pa_nil)))))
          (pss_one (ps_raise rfl (takes_of rfl rfl rfl rfl) (pmk_x T.x_NoLibrary (ok_NoLibrary___init__ T) (hr.mono (by decide)) T.bi_NoLibrary___init__ (pa_cons pe_str pa_nil) (by rfl))))
          pss_nil)
        (pss_cons (ps_fld (pv 0) (pv 1) rfl)
        (pss_cons (ps_fld (pv 0) (pv 2) rfl)
        (pss_cons (ps_fld (pv 0) (pv 3) rfl)
        (pss_cons (ps_fld (pv 0) (pv 4) rfl)
        (pss_cons (ps_fld (pv 0) (pv 5) rfl)
        (pss_cons (ps_fld (pv 0) (pv 6) rfl)
        (pss_one (ps_fld (pv 0) (pv 7) rfl))))))))))))))), ?_⟩
    obtain ⟨p, dx, name, v1, v2, v3, v4, v5, v6, o1, o2, o3, o4, b5, b6, rfl, hp, w0, t1, t2, t3, t4, b5h, b6h, k, kx⟩ := h
    -- name
    walk_at "rd"
    refine w_call w0 fun H1 e1 => ?_
    walk_at "rd"
    cases c0 : isWordV name with
    | false =>
      walk_at "rd"
      exact ⟨_, rfl, fun d H2 e2 nd hd => kx _ (by unfold libBad; rw [if_pos c0]) d H2 (e1.trans e2) hd⟩
    | true =>
    -- needs
    walk_at "rd"
    refine aw_call (t1.up e1) fun H2 e2 => ?_
    replace e2 := e1.trans e2
    walk_at "rd"
    cases c1 : okT 12 o1 with
    | false =>
      walk_at "rd"
      exact ⟨_, rfl, fun d Hx ex nd hd => kx _ (by simp [libBad, c0, c1]) d Hx (e2.trans ex) hd⟩
    | true =>
    obtain ⟨a1, rfl, sq1, l1⟩ := targ_sq t1 c1
    walk_at "rd"
    refine r_inT (ex_t e2 sq1) (wv_flat c0) (aw_flat c1).1 ?_
    walk_at "rd"
    cases ci : inV name (its o1) with
    | true =>
      walk_at "rd"
      exact ⟨_, rfl, fun d Hx ex nd hd => kx _ (by simp [libBad, c0, c1, ci]) d Hx (e2.trans ex) hd⟩
    | false =>
    -- defines
    walk_at "rd"
    refine aw_call (t2.up e2) fun H3 e3 => ?_
    replace e3 := e2.trans e3
    walk_at "rd"
    cases c2 : okT 20 o2 with
    | false =>
      walk_at "rd"
      exact ⟨_, rfl, fun d Hx ex nd hd => kx _ (by simp [libBad, c0, c1, ci, c2]) d Hx (e3.trans ex) hd⟩
    | true =>
    -- uses
    walk_at "rd"
    refine aw_call (t3.up e3) fun H4 e4 => ?_
    replace e4 := e3.trans e4
    walk_at "rd"
    cases c3 : okT 20 o3 with
    | false =>
      walk_at "rd"
      exact ⟨_, rfl, fun d Hx ex nd hd => kx _ (by simp [libBad, c0, c1, ci, c2, c3]) d Hx (e4.trans ex) hd⟩
    | true =>
    -- weak
    walk_at "rd"
    refine aw_call (t4.up e4) fun H5 e5 => ?_
    replace e5 := e4.trans e5
    walk_at "rd"
    cases c4 : okT 20 o4 with
    | false =>
      walk_at "rd"
      exact ⟨_, rfl, fun d Hx ex nd hd => kx _ (by simp [libBad, c0, c1, ci, c2, c3, c4]) d Hx (e5.trans ex) hd⟩
    | true =>
    obtain ⟨a3, rfl, sq3, l3⟩ := targ_sq t3 c3
    obtain ⟨a4, rfl, sq4, l4⟩ := targ_sq t4 c4
    walk_at "rd"
    refine ⟨a4, rfl, ⟨_, ex_t e5 sq4⟩, ?_⟩
    refine lc_val walk_tup (by omega) (fun Hx ex => ex_t (e5.trans ex) sq4) (fun i ys => ys = ((its o4).take i).map fun z => V.bl (inV z (its o3))) rfl (fun i ys x Hx Hy hi ex hs hy => ?_) fun D ys H6 nD e6 hs hD => ?_
    · obtain ⟨rfl, hy⟩ := hy
      walk_at "rd"
      refine ⟨rfl, ?_⟩
      walk_at "rd"
      have fx : flatV x = true := List.all_eq_true.mp (aw_flat c4).1 x (List.mem_of_getElem? hy)
      refine r_inT (ex_t (e5.trans ex) sq3) fx (aw_flat c3).1 ⟨Ex.refl _, ?_⟩
      rw [hs, List.take_add_one, hy, List.map_append]
      rfl
    rw [List.take_length] at hs
    subst hs
    have hb : ((its o4).map fun z => V.bl (inV z (its o3))) = ((its o4).map fun z => inV z (its o3)).map V.bl := by simp
    rw [hb] at hD
    replace e6 := e5.trans e6
    walk_at "rd"
    refine r_all (SqL.of hD) ?_
    have e2' : (((its o4).map fun z => inV z (its o3)).all id) = (its o4).all fun z => inV z (its o3) := by rw [List.all_map]; rfl
    rw [e2']
    walk_at "rd"
    cases c5 : (its o4).all fun z => inV z (its o3) with
    | false =>
      walk_at "rd"
      exact ⟨_, rfl, fun d Hx ex nd hd => kx _ (by simp only [libBad, c0, c1, ci, c2, c3, c4, c5]; rfl) d Hx (e6.trans ex) hd⟩
    | true =>
    -- eager, own_first
    obtain ⟨y5, ty5, kt5⟩ := b5h
    obtain ⟨y6, ty6, kt6⟩ := b6h
    walk_at "rd"
    refine r_isi (.ty "bool") (tyX_up e6 ty5) kt5 ?_
    walk_at "rd"
    cases b5 with
    | false =>
      walk_at "rd"
      exact ⟨_, rfl, fun d Hx ex nd hd => kx _ (by simp only [libBad, c0, c1, ci, c2, c3, c4, c5]; rfl) d Hx (e6.trans ex) hd⟩
    | true =>
    walk_at "rd"
    refine r_isi (.ty "bool") (tyX_up e6 ty6) kt6 ?_
    walk_at "rd"
    cases b6 with
    | false =>
      walk_at "rd"
      exact ⟨_, rfl, fun d Hx ex nd hd => kx _ (by simp only [libBad, c0, c1, ci, c2, c3, c4, c5]; rfl) d Hx (e6.trans ex) hd⟩
    | true =>
    walk_at "rd"
    refine r_sfldN (e6 _ _ hp) T.cl_Library T.na_Library_name (by decide +kernel) rfl (by decide) fun G1 g1 s1 => ?_
    walk_at "rd"
    refine r_sfldN g1 T.cl_Library T.na_Library_needs (by decide +kernel) rfl (by decide) fun G2 g2 s2 => ?_
    walk_at "rd"
    refine r_sfldN g2 T.cl_Library T.na_Library_defines (by decide +kernel) rfl (by decide) fun G3 g3 s3 => ?_
    walk_at "rd"
    refine r_sfldN g3 T.cl_Library T.na_Library_uses (by decide +kernel) rfl (by decide) fun G4 g4 s4 => ?_
    walk_at "rd"
    refine r_sfldN g4 T.cl_Library T.na_Library_weak (by decide +kernel) rfl (by decide) fun G5 g5 s5 => ?_
    walk_at "rd"
    refine r_sfldN g5 T.cl_Library T.na_Library_eager (by decide +kernel) rfl (by decide) fun G6 g6 s6 => ?_
    walk_at "rd"
    refine r_sfldN g6 T.cl_Library T.na_Library_own_first (by decide +kernel) rfl (by decide) fun G7 g7 s7 => ?_
    exact k (by simp only [libBad, c0, c1, ci, c2, c3, c4, c5]; rfl) G7 ((Sm.of e6).trans (s1.trans (s2.trans (s3.trans (s4.trans (s5.trans (s6.trans s7))))))) g7
theorem vals_take (n : Nat) {vs : List V} {us : List Value} (r : Vals vs us) : Vals (vs.take n) (us.take n) := by
  induction r generalizing n with
  | nil => rw [List.take_nil, List.take_nil]; exact .nil
  | cons rx r ih =>
    cases n with
    | zero => exact .nil
    | succ n => exact .cons rx (ih n)
/-- how Library(..) binds -/
theorem kb_Library {K : PySem.W.Frag} {mg : Str → Option Value} {A : Adr} (T : Txt K mg A) : ∃ mv : List Value, KBn K A.d_Library___init__ P_Library___init__ 2 ["needs", "defines", "uses", "weak", "eager", "own_first"] (fun us ws => us ++ ws) (fun vs zs => vs ++ zs) := by
  refine T.F_Library___init__.kbinds0 2 ["needs", "defines", "uses", "weak", "eager", "own_first"] [] (fun us _ ws => us ++ ws) (fun z => by cases z) (fun q hq => nomatch hq) (fun r _ rz => r.append rz) (fun D doc pm an cdv ct us mv ws l1 l2 l3 => ?_)
  match us, l1, mv, l2, ws, l3 with
  | [_, _], _, [], _, [_, _, _, _, _, _], _ => rfl
theorem kb_Library_defines {K : PySem.W.Frag} {mg : Str → Option Value} {A : Adr} (T : Txt K mg A) : ∃ mv : List Value, KBn K A.d_Library___init__ P_Library___init__ 2 ["defines"] (fun us ws => us ++ (mv.take 1 ++ (ws ++ mv.drop 1))) (fun vs zs => vs ++ ([V.ref A.e0] ++ (zs ++ [.ref A.e2, .ref A.e3, .bl false, .bl false]))) := by
  refine T.F_Library___init__.kbinds0 2 ["defines"] [("needs", .ref A.e0), ("uses", .ref A.e2), ("weak", .ref A.e3), ("eager", .bl false), ("own_first", .bl false)] (fun us mv ws => us ++ (mv.take 1 ++ (ws ++ mv.drop 1))) (fun z => by cases z) (fun q hq => ?_) (fun r rm rz => r.append ((vals_take 1 rm).append (rz.append (rm.drop 1)))) (fun D doc pm an cdv ct us mv ws l1 l2 l3 => ?_)
  · simp only [kwL, List.mem_cons, List.not_mem_nil, or_false] at hq ⊢
    rcases hq with rfl | rfl | rfl | rfl | rfl <;> simp
  · match us, l1, mv, l2, ws, l3 with
    | [_, _], _, [_, _, _, _, _], _, [_], _ => exact ⟨_, _, _, _, _, _, rfl, rfl, _, _, _, _, _, _, rfl, rfl, _, _, _, _, _, _, rfl, rfl, _, _, _, _, _, _, rfl, rfl, _, _, _, _, _, _, rfl, rfl, rfl⟩
theorem bd_Library {K : PySem.W.Frag} {mg : Str → Option Value} {A : Adr} (T : Txt K mg A) : ∃ ds, Vals ((kwL A).map (·.2)) ds ∧ Binds K A.d_Library___init__ P_Library___init__ ds := by
  refine T.F_Library___init__.binds0 2 (fun z => by cases z) rfl (fun D doc pm an cdv ct us ks l1 l2 => ?_)
  match us, l1, ks, l2 with
  | [_, _], _, [_, _, _, _, _, _], _ => exact ⟨_, _, _, _, _, _, rfl, rfl, _, _, _, _, _, _, rfl, rfl, _, _, _, _, _, _, rfl, rfl, _, _, _, _, _, _, rfl, rfl, _, _, _, _, _, _, rfl, rfl, _, _, _, _, _, _, rfl, rfl, rfl⟩
/-- the seven values -/
def sp_Library_row (K : PySem.W.Frag) (A : Adr) : Sp := fun vs H Q _ => ∃ (p dx : Addr) (x0 x1 x2 x3 x4 x5 x6 : V), vs = [.ref p] ∧ H p = some (.ins A.C_Library dx (libK.zip [x0, x1, x2, x3, x4, x5, x6])) ∧
  ∀ q H', H q = none → Ex H H' → H' q = some (.tup [x0, x1, x2, x3, x4, x5, x6]) → Q (.ref q) H'
theorem ok_Library_row (T : Txt K mg A) : FnOk P w K mg base CX0 1 A.f_Library_row A.d_Library_row P_Library_row (sp_Library_row K A) := by
  refine T.F_Library_row.ok sc_Library_row (fun vs H Q E h => ?_) (fun cdv Ar outer s H vs Q E hr h => ?_)
  · obtain ⟨p, dx, x0, x1, x2, x3, x4, x5, x6, rfl, _⟩ := h; rfl
  · have hu := hu_of hr
    refine ⟨_, (pss_one (ps_ret (pe_tupM (pa_cons (k_fld K rfl (pv 0)) (pa_cons (k_fld K rfl (pv 0)) (pa_cons (k_fld K rfl (pv 0)) (pa_cons (k_fld K rfl (pv 0)) (pa_cons (k_fld K rfl (pv 0)) (pa_cons (k_fld K rfl (pv 0)) (pa_cons (k_fld K rfl (pv 0)) pa_nil)))))))))), ?_⟩
    obtain ⟨p, dx, x0, x1, x2, x3, x4, x5, x6, rfl, hp, k⟩ := h
    walk_at "rd"
    refine r_fldE hp T.cl_Library T.na_Library_name 0 (by decide +kernel) rfl ?_
    walk_at "rd"
    refine r_fldE hp T.cl_Library T.na_Library_needs 1 (by decide +kernel) rfl ?_
    walk_at "rd"
    refine r_fldE hp T.cl_Library T.na_Library_defines 2 (by decide +kernel) rfl ?_
    walk_at "rd"
    refine r_fldE hp T.cl_Library T.na_Library_uses 3 (by decide +kernel) rfl ?_
    walk_at "rd"
    refine r_fldE hp T.cl_Library T.na_Library_weak 4 (by decide +kernel) rfl ?_
    walk_at "rd"
    refine r_fldE hp T.cl_Library T.na_Library_eager 5 (by decide +kernel) rfl ?_
    walk_at "rd"
    refine r_fldE hp T.cl_Library T.na_Library_own_first 6 (by decide +kernel) rfl ?_
    walk_at "rd"
    exact ⟨by simp, fun q H1 nq e1 hq => k q H1 nq e1 hq⟩
/-- another library: whether the rows are the same data; anything else: False -/
def sp_Library___eq__ (K : PySem.W.Frag) (A : Adr) : Sp := fun vs H Q _ => ∃ (p dx : Addr) (xs : List V) (y : V), vs = [.ref p, y] ∧ xs.length = 7 ∧ H p = some (.ins A.C_Library dx (libK.zip xs)) ∧
  ((∃ (q dy : Addr) (ys : List V) (ds es : List PyData), y = .ref q ∧ ys.length = 7 ∧ H q = some (.ins A.C_Library dy (libK.zip ys)) ∧ DpAll K H xs ds ∧ DpAll K H ys es ∧ SeqAt.shaped (.tuple ds) = true ∧ SeqAt.shaped (.tuple es) = true ∧
    ∀ H', Ex H H' → Q (.bl (PyData.eqv (.tuple ds) (.tuple es))) H') ∨
  (∃ t, TyX K H y t ∧ PySem.W.kitOne K t (.ref A.C_Library) = some false ∧ Q (.bl false) H))
theorem ok_Library___eq__ (T : Txt K mg A) : FnOk P w K mg base CX0 2 A.f_Library___eq__ A.d_Library___eq__ P_Library___eq__ (sp_Library___eq__ K A) := by
  refine T.F_Library___eq__.ok sc_Library___eq__ (fun vs H Q E h => ?_) (fun cdv Ar outer s H vs Q E hr h => ?_)
  · obtain ⟨p, dx, xs, y, rfl, _⟩ := h; rfl
  · have hu := hu_of hr
    refine ⟨_, (pss_one (ps_ret (pe_and (pe_callB (k_isi K rfl) (by rfl) T.b_isinstance (by decide +kernel) (pa_cons (pv 1) (pa_cons (pe_glob (v := .ref A.C_Library) (by rfl) T.g_Library rfl) pa_nil))) (pe_one (pe_cmpR (k_eqD K rfl hr.units) (pe_meth0 (pv 0) T.cl_Library T.me_Library_row (ok_Library_row T) (hr.mono (by decide)) T.bi_Library_row .nil pass0) (pe_meth0 (pv 1) T.cl_Library T.me_Library_row (ok_Library_row T) (hr.mono (by decide)) T.bi_Library_row .nil pass0) (nomark _)))))), ?_⟩
    obtain ⟨p, dx, xs, y, rfl, lx, hp, h | h⟩ := h
    · obtain ⟨q, dy, ys, ds, es, rfl, ly, hq, d1, d2, s1, s2, k⟩ := h
      match xs, lx with
      | [x0, x1, x2, x3, x4, x5, x6], _ =>
      match ys, ly with
      | [y0, y1, y2, y3, y4, y5, y6], _ =>
      walk_at "rd"
      refine r_isi (b := true) (.own _) (T.ty_Library hq) (by unfold PySem.W.kitOne; rw [if_pos (by simp)]) ?_
      walk_at "rd"
      refine ⟨p, dx, _, rfl, hp, zip_none (by decide +kernel), ?_⟩
      walk_at "rd"
      refine ⟨p, dx, _, _, _, _, _, _, _, rfl, hp, fun r H1 nr e1 hr1 => ?_⟩
      walk_at "rd"
      refine ⟨q, dy, _, rfl, e1 _ _ hq, zip_none (by decide +kernel), ?_⟩
      walk_at "rd"
      refine ⟨q, dy, _, _, _, _, _, _, _, rfl, e1 _ _ hq, fun r2 H2 nr2 e2 hr2 => ?_⟩
      have e12 := e1.trans e2
      refine r_eqD (.tup (st_of (e2 _ _ hr1)) (DpAll.up e12 d1)) (.tup (st_of hr2) (DpAll.up e12 d2)) s1 s2 ?_
      exact k H2 e12
    · obtain ⟨t, ty, kt, k⟩ := h
      walk_at "rd"
      refine r_isi (.own _) ty kt ?_
      walk_at "rd"
      exact k
abbrev sp_NoStore___init__ (K : PySem.W.Frag) (A : Adr) : Sp := spXi K A.C_NoStore "at"
theorem ok_NoStore___init__ (T : Txt K mg A) : FnOk P w K mg base CX0 1 A.f_NoStore___init__ A.d_NoStore___init__ P_NoStore___init__ (sp_NoStore___init__ K A) := by
  refine T.F_NoStore___init__.ok sc_NoStore___init__ (fun vs H Q E h => ?_) (fun cdv Ar outer s H vs Q E hr h => ?_)
  · obtain ⟨a, v, rfl, _⟩ := h; rfl
  · have hu := hu_of hr
    refine ⟨_, (pss_cons (ps_expr (pe_linit T.ld (by rfl) (pa_cons (pv 0) (pa_cons pe_str pa_nil))))
        (pss_one (ps_ost (pv 0) (pv 1)))), ?_⟩
    obtain ⟨a, v, rfl, ha, k⟩ := h
    walk_at "rd"
    refine ⟨a, A.C_NoStore, _, rfl, by simp, T.x_NoStore.o, ha, ?_⟩
    walk_at "rd"
    exact ⟨a, A.C_NoStore, rfl, T.x_NoStore.o, T.x_NoStore.no, .inl ⟨ha, fun dx nd ne => k dx nd ne⟩⟩
abbrev sp_NoName___init__ (K : PySem.W.Frag) (A : Adr) : Sp := spXi K A.C_NoName "name"
theorem ok_NoName___init__ (T : Txt K mg A) : FnOk P w K mg base CX0 1 A.f_NoName___init__ A.d_NoName___init__ P_NoName___init__ (sp_NoName___init__ K A) := by
  refine T.F_NoName___init__.ok sc_NoName___init__ (fun vs H Q E h => ?_) (fun cdv Ar outer s H vs Q E hr h => ?_)
  · obtain ⟨a, v, rfl, _⟩ := h; rfl
  · have hu := hu_of hr
    refine ⟨_, (pss_cons (ps_expr (pe_linit T.ld (by rfl) (pa_cons (pv 0) (pa_cons pe_str pa_nil))))
        (pss_one (ps_ost (pv 0) (pv 1)))), ?_⟩
    obtain ⟨a, v, rfl, ha, k⟩ := h
    walk_at "rd"
    refine ⟨a, A.C_NoName, _, rfl, by simp, T.x_NoName.o, ha, ?_⟩
    walk_at "rd"
    exact ⟨a, A.C_NoName, rfl, T.x_NoName.o, T.x_NoName.no, .inl ⟨ha, fun dx nd ne => k dx nd ne⟩⟩
def sp__law_draw (K : PySem.W.Frag) (A : Adr) : Sp := fun vs H Q _ => ∃ (p : Addr) (m : Int) (n : Nat), vs = [.ref p, .int m] ∧ 1 ≤ m ∧ m < 1000000 ∧ n ≤ 1000000000 ∧ WellAt H p n ∧
  ∀ d H', 0 ≤ d → d < m → Sm p H H' → WellAt H' p (n + 1) → Q (.int d) H'
theorem ok__law_draw (T : Txt K mg A) : FnOk P w K mg base CX0 1 A.f__law_draw A.d__law_draw P__law_draw (sp__law_draw K A) := by
  refine T.F__law_draw.ok sc__law_draw (fun vs H Q E h => ?_) (fun cdv Ar outer s H vs Q E hr h => ?_)
  · obtain ⟨p, m, n, rfl, _⟩ := h; rfl
  · have hu := hu_of hr
    refine ⟨_, (pss_cons (ps_if (pt_cmpR op_gt (pe_ix (k_ixL K rfl) (pv 0) pe_int (fun _ _ => rfl)) pe_int (nomark _))
          (pss_cons (ps_set (i := 2) sc__law_draw.nd rfl (Or.inl rfl) (pe_op op_modN (pe_ix (k_ixL K rfl) (pv 0) pe_int (fun _ _ => rfl)) (pv 1)))
        (pss_cons (ps_asg (pe_op op_fdivN (pe_ix (k_ixL K rfl) (pv 0) pe_int (fun _ _ => rfl)) (pv 1)) (pg_sub (pv 0) pe_int set_list))
        (pss_one (ps_ret (pv 2)))))
          pss_nil)
        (pss_cons (ps_asg (pe_op op_add (pe_ix (k_ixL K rfl) (pv 0) pe_int (fun _ _ => rfl)) pe_int) (pg_sub (pv 0) pe_int set_list))
        (pss_cons (ps_set (i := 3) sc__law_draw.nd rfl (Or.inl rfl) (pe_ix (k_ixL K rfl) (pe_lstM (pa_cons pe_int (pa_cons pe_int (pa_cons pe_int (pa_cons pe_int (pa_cons pe_int (pa_cons pe_int (pa_cons pe_int pa_nil)))))))) (pe_op op_modN (pe_ix (k_ixL K rfl) (pv 0) pe_int (fun _ _ => rfl)) pe_int) (fun _ _ => rfl)))
        (pss_cons (ps_set (i := 4) sc__law_draw.nd rfl (Or.inl rfl) (pe_op op_modN (pe_op op_pow (pe_op op_add (pe_op op_add (pe_ix (k_ixL K rfl) (pv 0) pe_int (fun _ _ => rfl)) (pe_op op_mul pe_int (pe_ix (k_ixL K rfl) (pv 0) pe_int (fun _ _ => rfl)))) pe_int) pe_int) (pv 3)))
        (pss_cons (ps_set (i := 4) sc__law_draw.nd rfl (Or.inl rfl) (pe_op op_modN (pe_op op_mul (pe_op op_add (pv 4) (pe_ix (k_ixL K rfl) (pv 0) pe_int (fun _ _ => rfl))) (pe_op op_add (pe_op op_fdivN (pv 4) pe_int) pe_int)) (pv 3)))
        (pss_one (ps_ret (pe_op op_modN (pe_op op_fdivN (pv 4) pe_int) (pv 1))))))))), ?_⟩
    obtain ⟨p, m, n, rfl, m1, m2, hn, ⟨a, b, c, hp, b0, b1, c0, c1⟩, k⟩ := h
    have hS := SqL.of (K := K) hp
    walk_at "rd"
    refine r_ixL hS rfl ?_
    walk_at "rd"
    refine r_ite (fun h0 => ?_) (fun h0 => ?_)
    · walk_at "rd"
      refine r_ixL hS rfl ?_
      walk_at "rd"
      refine r_I (show m ≠ 0 by omega) ?_
      walk_at "rd"
      refine r_ixL hS rfl ?_
      walk_at "rd"
      refine r_I ⟨show m ≠ 0 by omega, by omega⟩ ?_
      walk_at "rd"
      refine r_setL hp rfl fun H1 h1 s1 => ?_
      walk_at "rd"
      have f := fmod_lt (x := a) (m := m) (by omega)
      exact k _ _ f.1 f.2 s1 ⟨_, _, _, h1, b0, b1, c0, by omega⟩
    · walk_at "rd"
      refine r_ixL hS rfl ?_
      walk_at "rd"
      refine r_setL hp rfl fun H1 h1 s1 => ?_
      have hS1 := SqL.of (K := K) h1
      walk_at "rd"
      refine ⟨by simp, fun q H2 nq e2 h2 => ?_⟩
      have hp2 := e2 _ _ h1
      have hS2 := SqL.of (K := K) hp2
      walk_at "rd"
      refine r_ixL hS2 rfl ?_
      walk_at "rd"
      refine r_I (by decide) ?_
      have f7 := fmod_lt (x := c + 1) (m := 7) (by decide)
      obtain ⟨i, hi, hi7⟩ : ∃ i : Nat, (c + 1).fmod 7 = (i : Int) ∧ i < 7 := ⟨((c + 1).fmod 7).toNat, by omega, by omega⟩
      rw [hi]
      have at7 : ∃ pr : Int, atI ([.int 2147483647, .int 2147483629, .int 2147483587, .int 2147483579, .int 2147483563, .int 2147483549, .int 2147483543] : List V) (i : Int) = some (.int pr) ∧ 2147483543 ≤ pr ∧ pr ≤ 2147483647 := by
        rcases (show i = 0 ∨ i = 1 ∨ i = 2 ∨ i = 3 ∨ i = 4 ∨ i = 5 ∨ i = 6 by omega) with rfl | rfl | rfl | rfl | rfl | rfl | rfl <;> exact ⟨_, rfl, by decide, by decide⟩
      obtain ⟨pr, hpr, pr0, pr1⟩ := at7
      refine r_ixL (SqL.of h2) hpr ?_
      walk_at "rd"
      refine r_ixL hS2 rfl ?_
      walk_at "rd"
      refine r_ixL hS2 rfl ?_
      walk_at "rd"
      refine r_I (.inl ⟨by decide, by decide⟩) ?_
      walk_at "rd"
      refine r_I ⟨by decide, by decide, by omega⟩ ?_
      walk_at "rd"
      refine r_I (show pr ≠ 0 by omega) ?_
      walk_at "rd"
      generalize hn1 : Int.fmod _ pr = n1
      have f1 : 0 ≤ n1 ∧ n1 < pr := hn1 ▸ fmod_lt (m := pr) (by omega)
      refine r_ixL hS2 rfl ?_
      walk_at "rd"
      refine r_I ⟨by decide, by decide⟩ ?_
      walk_at "rd"
      refine r_I (.inl ⟨by omega, by omega⟩) ?_
      walk_at "rd"
      refine r_I (show pr ≠ 0 by omega) ?_
      walk_at "rd"
      refine r_I ⟨by decide, by decide⟩ ?_
      walk_at "rd"
      refine r_I (show m ≠ 0 by omega) ?_
      generalize hd : Int.fmod _ m = d
      have fd : 0 ≤ d ∧ d < m := hd ▸ fmod_lt (m := m) (by omega)
      exact k _ _ fd.1 fd.2 (s1.trans (Sm.of e2)) ⟨_, _, _, hp2, b0, b1, by omega, by omega⟩
def sp__law_one (K : PySem.W.Frag) (A : Adr) : Sp := fun vs H Q _ => ∃ (p l : Addr) (xs : List V) (n : Nat), vs = [.ref p, .ref l] ∧ SqL K H l xs ∧ l ≠ p ∧ xs ≠ [] ∧ xs.length < 100000 ∧ n ≤ 1000000000 ∧ WellAt H p n ∧
  ∀ v H', v ∈ xs → Sm p H H' → WellAt H' p (n + 1) → Q v H'
theorem ok__law_one (T : Txt K mg A) : FnOk P w K mg base CX0 2 A.f__law_one A.d__law_one P__law_one (sp__law_one K A) := by
  refine T.F__law_one.ok sc__law_one (fun vs H Q E h => ?_) (fun cdv Ar outer s H vs Q E hr h => ?_)
  · obtain ⟨p, l, xs, n, rfl, _⟩ := h; rfl
  · have hu := hu_of hr
    refine ⟨_, (pss_one (ps_ret (pe_ix (k_ixL K rfl) (pv 1) (pe_call (ok__law_draw T) (hr.mono (by decide)) (by rfl) T.g__law_draw T.k__law_draw T.bi__law_draw .nil pass0 (pa_cons (pv 0) (pa_cons (pe_callB (k_len K rfl) (by rfl) T.b_len PySem.boot_len (pa_cons (pv 1) pa_nil)) pa_nil))) (fun _ _ => rfl)))), ?_⟩
    obtain ⟨p, l, xs, n, rfl, hl, ne, hx, hz, hn, hw, k⟩ := h
    have h0 : 0 < xs.length := List.length_pos_iff.mpr hx
    walk_at "rd"
    refine r_lenL hl ?_
    walk_at "rd"
    refine ⟨p, xs.length, n, rfl, by omega, by omega, hn, hw, fun d H1 d0 d1 s1 w1 => ?_⟩
    obtain ⟨v, e1, e2⟩ := atI_lt d0 d1
    exact r_ixL (s1.seq ne hl) e1 (k v H1 (List.mem_of_getElem? e2) s1 w1)
def sp__law_well (K : PySem.W.Frag) (A : Adr) : Sp := fun vs H Q _ => ∃ c : Int, vs = [.int c] ∧ ∀ p H', H p = none → Ex H H' → WellAt H' p 0 → Q (.ref p) H'
theorem ok__law_well (T : Txt K mg A) : FnOk P w K mg base CX0 1 A.f__law_well A.d__law_well P__law_well (sp__law_well K A) := by
  refine T.F__law_well.ok sc__law_well (fun vs H Q E h => ?_) (fun cdv Ar outer s H vs Q E hr h => ?_)
  · obtain ⟨c, rfl, _⟩ := h; rfl
  · have hu := hu_of hr
    refine ⟨_, (pss_one (ps_ret (pe_lstM (pa_cons (pe_op op_mul (pv 0) (pe_callTy call_intQ (by rfl) T.b_int (by decide +kernel) (pa_cons (pe_cmpR op_ge (pv 0) (pe_op op_pow pe_int pe_int) (nomark _)) pa_nil))) (pa_cons (pe_op op_modN (pv 0) pe_int) (pa_cons pe_int pa_nil)))))), ?_⟩
    obtain ⟨c, rfl, k⟩ := h
    walk_at "rd"
    refine r_I ⟨by decide, by decide, by decide⟩ ?_
    walk_at "rd"
    refine r_I (.inr (by split <;> decide)) ?_
    walk_at "rd"
    refine r_I (by decide) ?_
    walk_at "rd"
    refine ⟨by simp, fun p H1 np e1 h1 => k p H1 np e1 ⟨_, _, _, h1, ?_⟩⟩
    have f := fmod_lt (x := c) (m := 2147483647) (by decide)
    exact ⟨f.1, f.2, by decide, by decide⟩
/-- a library with its name, or something else -/
def ItemOk (K : PySem.W.Frag) (A : Adr) (H : Hp) (x : V) : Option Str → Prop
  | some nm => ∃ a dx ys, x = .ref a ∧ H a = some (.ins A.C_Library dx (libK.zip (.str nm :: ys))) ∧ ys.length = 6
  | none => ∃ t, TyX K H x t ∧ PySem.W.kitOne K t (.ref A.C_Library) = some false
theorem ItemOk.up {K : PySem.W.Frag} {A : Adr} {H H' : Hp} {x : V} (e : Ex H H') : ∀ {o : Option Str}, ItemOk K A H x o → ItemOk K A H' x o
  | some _, ⟨a, dx, ys, h1, h2, h3⟩ => ⟨a, dx, ys, h1, e _ _ h2, h3⟩
  | none, ⟨t, h1, h2⟩ => ⟨t, tyX_up e h1, h2⟩
/-- the index of the first that is no library, has an elder one's name, or is the forty-first -/
def stBad : Nat → List Str → List (Option Str) → Option Nat
  | _, _, [] => none
  | i, _, none :: _ => some i
  | i, seen, some nm :: r => if nm ∈ seen ∨ 40 ≤ i then some i else stBad (i + 1) (seen ++ [nm]) r
/-- items and their names -/
def Items (K : PySem.W.Frag) (A : Adr) (H : Hp) (xs : List V) (os : List (Option Str)) : Prop := os.length = xs.length ∧ ∀ (i : Nat) x o, xs[i]? = some x → os[i]? = some o → ItemOk K A H x o
theorem Items.up {K : PySem.W.Frag} {A : Adr} {H H' : Hp} {xs : List V} {os : List (Option Str)} (e : Ex H H') (h : Items K A H xs os) : Items K A H' xs os := ⟨h.1, fun i x o a b => (h.2 i x o a b).up e⟩
abbrev stK : List Str := ["kept"]
def sp_Store___init__ (K : PySem.W.Frag) (A : Adr) : Sp := fun vs H Q E => ∃ (G : Hp) (p dx : Addr) (y : V), vs = [.ref p, y] ∧ H p = some (.ins A.C_Store dx (([] : List Str).zip [])) ∧ Ex G H ∧ G p = none ∧
  ((∃ t, TyX K G y t ∧ PySem.W.kitOne K t (.type "list") = some false ∧ ∀ d H', Ex H H' → H' d = some (.xd [("at", .non)]) → E (.ref A.C_NoStore) (some d) H') ∨
   (∃ (l : Addr) (xs : List V) (os : List (Option Str)), y = .ref l ∧ SqL K G l xs ∧ xs.length ≤ 50000 ∧ Items K A G xs os ∧
    (∀ ns d H', os = ns.map some → ns.Nodup → ns.length ≤ 40 → stBad 0 [] os = none → Sm p H H' → H d = none → H' p = some (.ins A.C_Store dx (stK.zip [.ref d])) → H' d = some (.dK (kvz ns xs)) → Q .non H') ∧
    (∀ (i : Nat) d H', stBad 0 [] os = some i → Sm p H H' → H' d = some (.xd [("at", .int i)]) → E (.ref A.C_NoStore) (some d) H')))
theorem ok_Store___init__ (T : Txt K mg A) : FnOk P w K mg base (L2.CX P w) 3 A.f_Store___init__ A.d_Store___init__ P_Store___init__ (sp_Store___init__ K A) := by
  refine T.F_Store___init__.okX sc_Store___init__ (fun vs H Q E h => ?_) (fun cdv Ar outer s H vs Q E hr h => ?_)
  · obtain ⟨G, p, dx, y, rfl, _⟩ := h; rfl
  · have hu := hu_of hr
    obtain ⟨u_MOST_LIBRARIES, h_MOST_LIBRARIES, r_MOST_LIBRARIES⟩ := T.c_MOST_LIBRARIES
    refine ⟨_, (pss_cons (ps_if (pt_not (pt_val (pe_callB (k_isi K rfl) (by rfl) T.b_isinstance (by decide +kernel) (pa_cons (pv 1) (pa_cons (pe_bltn (v := .ty "list") (by rfl) T.b_list (by decide +kernel) rfl) pa_nil)))))
          (pss_one (ps_raise rfl (takes_of rfl rfl rfl rfl) (pmk_x T.x_NoStore (ok_NoStore___init__ T) (hr.mono (by decide)) T.bi_NoStore___init__ (pa_cons pe_non pa_nil) (by rfl))))
          pss_nil)
        (pss_cons (ps_fld (pv 0) pe_dnewK rfl)
        (pss_one (ps_for (passes_of rfl) rfl (pi_enum (by rfl) T.b_enumerate (pa_cons (pv 1) pa_nil)) (k_gtup K rfl (by rfl) (pgs_cons (pg_name (i := 2) sc_Store___init__.nd rfl (Or.inl rfl)) (pgs_cons (pg_name (i := 3) sc_Store___init__.nd rfl (Or.inl rfl)) pgs_nil)))
          (pss_cons (ps_if (PW.pt (pw_or (pt_not (pt_val (pe_callB (k_isi K rfl) (by rfl) T.b_isinstance (by decide +kernel) (pa_cons (pv 3) (pa_cons (pe_glob (v := .ref A.C_Library) (by rfl) T.g_Library rfl) pa_nil))))) (pw_or (pt_cmp (pc_din hu (k_fld K rfl (pv 3)) (k_fld K rfl (pv 0)))) (pw_or1 (pt_cmpR op_ge (pv 2) (pe_glob (by rfl) h_MOST_LIBRARIES r_MOST_LIBRARIES) (nomark _))))))
          (pss_one (ps_raise rfl (takes_of rfl rfl rfl rfl) (pmk_x T.x_NoStore (ok_NoStore___init__ T) (hr.mono (by decide)) T.bi_NoStore___init__ (pa_cons (pv 2) pa_nil) (by rfl))))
          pss_nil)
        (pss_one (ps_dput hu (k_fld K rfl (pv 0)) (k_fld K rfl (pv 3)) (pv 3) rfl))))))), ?_⟩
    obtain ⟨G, p, dx, y, rfl, hp, eG, Gp, h⟩ := h
    obtain ⟨t_M, rfl⟩ : ∃ t, u_MOST_LIBRARIES = .int 40 t := r_MOST_LIBRARIES
    rcases h with ⟨t, ty, kt, k⟩ | ⟨l, xs, os, rfl, hl, lx, it, k, kx⟩
    · walk_at "rd"
      refine r_isi (.ty "list") (tyX_up eG ty) kt ?_
      walk_at "rd"
      exact ⟨_, rfl, fun d H1 e1 nd hd => k d H1 e1 hd⟩
    have tyl : TyX K H (.ref l) (.type "list") := by
      rcases hl with (hl | ⟨o, hl⟩) | ⟨o, its, n, h1, h2, _⟩
      · exact .base (.lst (eG _ _ hl))
      · exact .base (.frz (eG _ _ hl))
      · exact .kList h1 h2
    walk_at "rd"
    refine r_isi (b := true) (.ty "list") tyl (kit_ty (by decide +kernel)) ?_
    walk_at "rd"
    refine r_dnewK fun d H1 nd e1 hd => ?_
    walk_at "rd"
    refine r_sfldN (e1 _ _ hp) T.cl_Store T.na_Store_kept (by decide +kernel) rfl (by decide) fun H2 g2 s2 => ?_
    have dp : d ≠ p := fun z => by rw [z, hp] at nd; cases nd
    have hd2 : H2 d = some (.dK []) := s2 _ _ dp hd
    have eG2 : Ex G H2 := Ex.sm (eG.trans e1) Gp s2
    have Gd : G d = none := ex_none eG nd
    walk_at "rd"
    refine ⟨l, xs, rfl, ex_l eG2 hl, ?_⟩
    refine for_it (walk_enum (K := K) (a := l) (xs := xs)) (fun i σ' H' => (∃ o2 o3 : Option V, σ' = [some (.ref p), some (.ref l), o2, o3]) ∧ Ex G H' ∧ Sm p H H' ∧ H' p = some (.ins A.C_Store dx (stK.zip [.ref d])) ∧
        ∃ ns : List Str, ns.length = i ∧ os.take i = ns.map some ∧ ns.Nodup ∧ i ≤ 40 ∧ stBad 0 [] os = stBad i ns (os.drop i) ∧ H' d = some (.dK (kvz ns xs)))
      ⟨⟨_, _, rfl⟩, eG2, (Sm.of e1).trans s2, g2, [], rfl, rfl, List.nodup_nil, by omega, rfl, hd2⟩ (fun i σ' H' _ q => ex_l q.2.1 hl) ?_ fun σ' H' q => ?_
    rotate_left
    · obtain ⟨⟨o2, o3, rfl⟩, ex, sm, hp', ns, ln, tk, nn, le, sb, hd'⟩ := q
      rw [List.take_of_length_le (by rw [it.1]; exact Nat.le_refl _)] at tk
      rw [List.drop_of_length_le (by rw [it.1]; exact Nat.le_refl _)] at sb
      exact k ns d H' tk nn (by omega) sb sm nd hp' hd'
    rintro i x σ' H' H'' hi ⟨⟨o2, o3, rfl⟩, ex, sm, hp', ns, ln, tk, nn, le, sb, hd'⟩ ⟨tt, y1, y2, rfl, ht, rfl, h1, h2⟩
    cases h1
    have ex2 : Ex H' (upd H' tt (.tup [.int (i : Nat), y2])) := Ex.new ht
    have htt : SqT K (upd H' tt (.tup [.int (i : Nat), y2])) tt [.int (i : Nat), y2] := st_of upd_same
    replace ex := ex.trans ex2
    replace sm := sm.trans (Sm.of ex2)
    replace hp' := ex2 _ _ hp'
    replace hd' := ex2 _ _ hd'
    generalize upd H' tt (.tup [.int (i : Nat), y2]) = H3 at *
    refine r_gtupE htt rfl ?_
    walk_at "rd"
    have hos : i < os.length := by rw [it.1]; exact hi
    have io := it.2 i y2 os[i] h2 (by simp [hos])
    have dr : os.drop i = os[i] :: os.drop (i + 1) := List.drop_eq_getElem_cons hos
    rw [dr] at sb
    have tk1 : os.take (i + 1) = os.take i ++ [os[i]] := by rw [List.take_succ_eq_append_getElem hos]
    cases ho : os[i] with
    | none =>
      rw [ho] at io sb
      obtain ⟨t, ty, kt⟩ := io
      refine r_isi (.own _) (tyX_up ex ty) kt ?_
      walk_at "rd"
      exact ⟨_, rfl, fun dd Hx ex3 ndd hdd => kx i dd Hx (sb.trans rfl) (sm.trans (Sm.of ex3)) hdd⟩
    | some nm =>
      rw [ho] at io sb
      obtain ⟨a, dx', ys, rfl, ha, ly⟩ := io
      match ys, ly with
      | [z1, z2, z3, z4, z5, z6], _ =>
      refine r_isi (b := true) (.own _) (T.ty_Library (ex _ _ ha)) (by unfold PySem.W.kitOne; rw [if_pos (by simp)]) ?_
      walk_at "rd"
      refine r_fldE (ex _ _ ha) T.cl_Library T.na_Library_name 0 (by decide +kernel) rfl ?_
      walk_at "rd"
      refine r_fldE hp' T.cl_Store T.na_Store_kept 0 (by decide +kernel) rfl ?_
      refine ⟨d, _, rfl, dgetK nm hd', ?_⟩
      rw [kvz_val ns xs nm (by omega)]
      walk_at "rd"
      by_cases hn : nm ∈ ns
      · rw [decide_eq_true hn]
        walk_at "rd"
        exact ⟨_, rfl, fun dd Hx ex3 ndd hdd => kx i dd Hx (sb.trans (by unfold stBad; rw [if_pos (.inl hn)])) (sm.trans (Sm.of ex3)) hdd⟩
      · rw [decide_eq_false hn]
        walk_at "rd"
        by_cases h40 : (40 : Int) ≤ (i : Nat)
        · rw [decide_eq_true h40]
          walk_at "rd"
          exact ⟨_, rfl, fun dd Hx ex3 ndd hdd => kx i dd Hx (sb.trans (by unfold stBad; rw [if_pos (.inr (by omega))])) (sm.trans (Sm.of ex3)) hdd⟩
        · rw [decide_eq_false h40]
          walk_at "rd"
          refine r_fldE hp' T.cl_Store T.na_Store_kept 0 (by decide +kernel) rfl ?_
          walk_at "rd"
          refine r_fldE (ex _ _ ha) T.cl_Library T.na_Library_name 0 (by decide +kernel) rfl ?_
          obtain ⟨H4, dp4, h4, s4⟩ := dputK nm (.ref a) hd' (by rw [kvz_len (by omega)]; omega)
          refine ⟨d, H4, rfl, dp4, ?_⟩
          rw [kvz_put (by rw [ln]; exact h2) hn] at h4
          refine ⟨⟨_, _, rfl⟩, Ex.sm ex Gd s4, fun b o hb hh => s4 b o (fun z => by rw [z, nd] at hh; cases hh) (sm b o hb hh), s4 _ _ dp.symm hp', ns ++ [nm], by simp [ln], ?_, ?_, by omega, ?_, h4⟩
          · rw [tk1, tk, ho]; simp
          · exact List.nodup_append.mpr ⟨nn, by simp, fun a ha b hb e => by rw [List.mem_singleton.mp hb] at e; exact hn (e ▸ ha)⟩
          · rw [sb]; show (if nm ∈ ns ∨ 40 ≤ i then some i else stBad (i + 1) (ns ++ [nm]) (os.drop (i + 1))) = _
            rw [if_neg (fun z => z.elim hn fun z => h40 (by omega))]
/-- a store with its names and its libraries -/
def StoreAt (A : Adr) (H : Hp) (p : Addr) (ns : List Str) (xs : List V) : Prop := ∃ dx d, H p = some (.ins A.C_Store dx (stK.zip [.ref d])) ∧ H d = some (.dK (kvz ns xs)) ∧ ns.length = xs.length ∧ ns.Nodup ∧ ns.length ≤ 40
theorem StoreAt.up {A : Adr} {H H' : Hp} {p : Addr} {ns : List Str} {xs : List V} (e : Ex H H') (h : StoreAt A H p ns xs) : StoreAt A H' p ns xs := by
  obtain ⟨dx, d, h1, h2, h3⟩ := h
  exact ⟨dx, d, e _ _ h1, e _ _ h2, h3⟩
/-- whether a thing is a name of the store -/
def inStore (ns : List Str) : V → Bool
  | .str z => isWord z && decide (z ∈ ns)
  | _ => false
def sp_Store___contains__ (K : PySem.W.Frag) (A : Adr) : Sp := fun vs H Q _ => ∃ (p : Addr) (x : V) (ns : List Str) (xs : List V), vs = [.ref p, x] ∧ StoreAt A H p ns xs ∧ WArg K H x ∧ ∀ H', Ex H H' → Q (.bl (inStore ns x)) H'
theorem ok_Store___contains__ (T : Txt K mg A) : FnOk P w K mg base CX0 2 A.f_Store___contains__ A.d_Store___contains__ P_Store___contains__ (sp_Store___contains__ K A) := by
  refine T.F_Store___contains__.ok sc_Store___contains__ (fun vs H Q E h => ?_) (fun cdv Ar outer s H vs Q E hr h => ?_)
  · obtain ⟨p, x, ns, xs, rfl, _⟩ := h; rfl
  · have hu := hu_of hr
    refine ⟨_, (pss_one (ps_ret (pe_and (pe_call (ok_is_word T) (hr.mono (by decide)) (by rfl) T.g_is_word T.k_is_word T.bi_is_word .nil pass0 (pa_cons (pv 1) pa_nil)) (pe_one (pe_cmp (pc_din hu (pv 1) (k_fld K rfl (pv 0))) rfl))))), ?_⟩
    obtain ⟨p, x, ns, xs, rfl, st, w, k⟩ := h
    obtain ⟨dx, d, h1, h2, ln, nd, le⟩ := st
    walk_at "rd"
    refine w_call w fun H1 e1 => ?_
    walk_at "rd"
    cases hx : isWordV x with
    | false =>
      walk_at "rd"
      have e : inStore ns x = false := by
        cases x with
        | str z => have : isWord z = false := hx; show (isWord z && decide (z ∈ ns)) = false; rw [this]; rfl
        | _ => rfl
      rw [← e]
      exact k H1 e1
    | true =>
      cases x with
      | str z =>
        walk_at "rd"
        refine r_fldE (e1 _ _ h1) T.cl_Store T.na_Store_kept 0 (by decide +kernel) rfl ?_
        refine ⟨d, _, rfl, dgetK z (e1 _ _ h2), ?_⟩
        rw [kvz_val ns xs z (by omega)]
        have e : inStore ns (.str z) = decide (z ∈ ns) := by have : isWord z = true := hx; show (isWord z && decide (z ∈ ns)) = _; rw [this]; rfl
        rw [← e]
        exact k H1 e1
      | _ => exact absurd hx (by simp [isWordV])
def sp_Store___getitem__ (K : PySem.W.Frag) (A : Adr) : Sp := fun vs H Q E => ∃ (p : Addr) (x : V) (ns : List Str) (xs : List V), vs = [.ref p, x] ∧ StoreAt A H p ns xs ∧ WArg K H x ∧
  (∀ (i : Nat) z y, x = .str z → isWord z = true → ns[i]? = some z → xs[i]? = some y → ∀ H', Ex H H' → Q y H') ∧
  (inStore ns x = false → ∀ d H', Ex H H' → H' d = some (.xd [("name", x)]) → E (.ref A.C_NoName) (some d) H')
theorem ok_Store___getitem__ (T : Txt K mg A) : FnOk P w K mg base (L2.CX P w) 3 A.f_Store___getitem__ A.d_Store___getitem__ P_Store___getitem__ (sp_Store___getitem__ K A) := by
  refine T.F_Store___getitem__.okX sc_Store___getitem__ (fun vs H Q E h => ?_) (fun cdv Ar outer s H vs Q E hr h => ?_)
  · obtain ⟨p, x, ns, xs, rfl, _⟩ := h; rfl
  · have hu := hu_of hr
    refine ⟨_, (pss_cons (ps_if (pt_cmpR (op_notInO T.du_Store_contains (ok_Store___contains__ T) (hr.mono (by decide)) T.bi_Store___contains__ pass0) (pv 1) (pv 0) (by rfl))
          (pss_one (ps_raise rfl (takes_of rfl rfl rfl rfl) (pmk_x T.x_NoName (ok_NoName___init__ T) (hr.mono (by decide)) T.bi_NoName___init__ (pa_cons (pv 1) pa_nil) (by rfl))))
          pss_nil)
        (pss_one (ps_ret (pe_dget hu (k_fld K rfl (pv 0)) (pv 1) (fun _ _ => rfl))))), ?_⟩
    obtain ⟨p, x, ns, xs, rfl, st, w, k, kx⟩ := h
    obtain ⟨dx, d, h1, h2, ln, nd, le⟩ := id st
    walk_at "rd"
    refine ⟨p, dx, _, rfl, h1, p, x, ns, xs, rfl, st, w, fun H1 e1 => ?_⟩
    walk_at "rd"
    cases hx : inStore ns x with
    | false =>
      refine r_iteT rfl ?_
      walk_at "rd"
      exact ⟨_, rfl, fun d H2 e2 nd hd => kx hx d H2 (e1.trans e2) hd⟩
    | true =>
      cases x with
      | str z =>
        have hz : isWord z = true ∧ z ∈ ns := by
          replace hx : (isWord z && decide (z ∈ ns)) = true := hx
          rw [Bool.and_eq_true] at hx
          exact ⟨hx.1, of_decide_eq_true hx.2⟩
        obtain ⟨i, hi⟩ := List.getElem?_of_mem hz.2
        have hil : i < ns.length := (List.getElem?_eq_some_iff.mp hi).1
        have hxi : xs[i]? = some (xs[i]'(by omega)) := by simp
        refine r_iteF rfl ?_
        walk_at "rd"
        refine r_fldE (e1 _ _ h1) T.cl_Store T.na_Store_kept 0 (by decide +kernel) rfl ?_
        walk_at "rd"
        refine ⟨d, _, rfl, dgetE (e1 _ _ h2) (kvz_at ns xs i z _ nd hi hxi), ?_⟩
        exact k i z _ rfl hz.1 hi hxi H1 e1
      | _ => exact absurd hx (by simp [inStore])
def sp_Store___len__ (K : PySem.W.Frag) (A : Adr) : Sp := fun vs H Q _ => ∃ (p : Addr) (ns : List Str) (xs : List V), vs = [.ref p] ∧ StoreAt A H p ns xs ∧ Q (.int ns.length) H
theorem ok_Store___len__ (T : Txt K mg A) : FnOk P w K mg base CX0 1 A.f_Store___len__ A.d_Store___len__ P_Store___len__ (sp_Store___len__ K A) := by
  refine T.F_Store___len__.ok sc_Store___len__ (fun vs H Q E h => ?_) (fun cdv Ar outer s H vs Q E hr h => ?_)
  · obtain ⟨p, ns, xs, rfl, _⟩ := h; rfl
  · have hu := hu_of hr
    refine ⟨_, (pss_one (ps_ret (pe_callB call_lenD (by rfl) T.b_len PySem.boot_len (pa_cons (k_fld K rfl (pv 0)) pa_nil)))), ?_⟩
    obtain ⟨p, ns, xs, rfl, st, k⟩ := h
    obtain ⟨dx, d, h1, h2, ln, nd, le⟩ := id st
    walk_at "rd"
    refine r_fldE h1 T.cl_Store T.na_Store_kept 0 (by decide +kernel) rfl ?_
    walk_at "rd"
    refine ⟨d, _, rfl, h2, ?_⟩
    rw [kvz_len (by omega)]
    exact k
def sp_names (K : PySem.W.Frag) (A : Adr) : Sp := fun vs H Q _ => ∃ (p : Addr) (ns : List Str) (xs : List V), vs = [.ref p] ∧ StoreAt A H p ns xs ∧
  ∀ ys l H', ys.Perm ns → PyProof.Rows.sortedS ys = true → H l = none → Ex H H' → H' l = some (.lst (ys.map V.str)) → Q (.ref l) H'
theorem ok_names (T : Txt K mg A) : FnOk P w K mg base CX0 1 A.f_names A.d_names P_names (sp_names K A) := by
  refine T.F_names.ok sc_names (fun vs H Q E h => ?_) (fun cdv Ar outer s H vs Q E hr h => ?_)
  · obtain ⟨p, ns, xs, rfl, _⟩ := h; rfl
  · have hu := hu_of hr
    refine ⟨_, (pss_one (ps_ret (pe_callB (k_sortDK rfl) (by rfl) T.b_sorted (by decide +kernel) (pa_cons (k_fld K rfl (pv 0)) pa_nil)))), ?_⟩
    obtain ⟨p, ns, xs, rfl, st, k⟩ := h
    obtain ⟨dx, d, h1, h2, ln, nd, le⟩ := id st
    walk_at "rd"
    refine r_fldE h1 T.cl_Store T.na_Store_kept 0 (by decide +kernel) rfl ?_
    walk_at "rd"
    exact r_sortDK h2 (kvz_keys (by omega)) (by omega) fun ys l H1 a b c e h => k ys l H1 a b c e h
def sp__law_said (K : PySem.W.Frag) (A : Adr) : Sp := fun vs H Q _ => ∃ y : V, vs = [y] ∧
  ((∃ t, TyX K H y t ∧ PySem.W.kitOne K t (.type "list") = some false ∧ ∀ r H', H r = none → Ex H H' → H' r = some (.tup [.str "index", .non]) → Q (.ref r) H') ∨
   (∃ (l : Addr) (xs : List V) (os : List (Option Str)), y = .ref l ∧ SqL K H l xs ∧ xs.length ≤ 50000 ∧ Items K A H xs os ∧
    (∀ ns r H', os = ns.map some → stBad 0 [] os = none → H r = none → Ex H H' → StoreAt A (nw H H') r ns xs → Q (.ref r) H') ∧
    (∀ (i : Nat) r H', stBad 0 [] os = some i → H r = none → Ex H H' → H' r = some (.tup [.str "index", .int i]) → Q (.ref r) H')))
theorem ok__law_said (T : Txt K mg A) : FnOk P w K mg base CX0 5 A.f__law_said A.d__law_said P__law_said (sp__law_said K A) := by
  refine T.F__law_said.ok sc__law_said (fun vs H Q E h => ?_) (fun cdv Ar outer s H vs Q E hr h => ?_)
  · obtain ⟨y, rfl, _⟩ := h; rfl
  · have hu := hu_of hr
    refine ⟨_, (pss_one (ps_try rfl rfl takes_none5 (fun _ _ _ tk po => (pss_one (ps_ret (pe_make T.mk_Store (ok_Store___init__ T) (hr.mono (by decide)) (by rfl) T.g_Store T.bi_Store___init__ .nil (passes_try 2 rfl tk) (pa_cons (pv 0) pa_nil)))))
          (.named (i := 1) sc__law_said.nd rfl rfl ⟨(by rfl), (by decide), .inl T.x_NoStore.g⟩ (fun _ _ _ _ _ hz hx => (pss_one (ps_ret (pe_tupM (pa_cons pe_str (pa_cons (pe_xf T.x_NoStore.xf T.x_NoStore.no hz hx (pv 1)) pa_nil)))))) (.bare ⟨(by rfl), (by decide), .inl T.ld.g⟩ (fun _ _ _ _ _ hz hx => (pss_one (ps_ret (pe_tupM (pa_cons pe_str (pa_cons pe_non pa_nil)))))) .nil)))), ?_⟩
    obtain ⟨y, rfl, h⟩ := h
    walk_at "rd"
    intro p dx np ndx ne
    have e0 : Ex H (upd (upd H dx (.own p)) p (.ins A.C_Store dx [])) := fun b o hb => by
      rw [upd_ne (ne_of_none hb np), upd_ne (ne_of_none hb ndx)]; exact hb
    have hp : (upd (upd H dx (.own p)) p (.ins A.C_Store dx [])) p = some (.ins A.C_Store dx []) := upd_same
    generalize (upd (upd H dx (.own p)) p (.ins A.C_Store dx [])) = H0 at e0 hp
    refine ⟨H, p, dx, y, rfl, hp, e0, np, ?_⟩
    rcases h with ⟨t, ty, kt, k⟩ | ⟨l, xs, os, rfl, hl, lx, it, k, kx⟩
    · refine .inl ⟨t, ty, kt, fun d H1 e1 hd σ' hs => ?_⟩
      refine r_clY T.x_NoStore.te fun a na => ?_
      walk_at "rd"
      refine r_xf (set_len (by rw [hs]; decide)) hd rfl ?_
      walk_at "rd"
      exact ⟨by simp, fun r H2 nr e2 hr => k r H2 (ex_none (e0.trans e1) nr) (e0.trans (e1.trans e2)) hr⟩
    · refine .inr ⟨l, xs, os, rfl, hl, lx, it, fun ns d H1 oe nd le sb sm hd g1 g2 => ⟨rfl, ?_⟩, fun i d H1 sb sm hd σ' hs => ?_⟩
      · walk_at "rd"
        have lns : ns.length = xs.length := by rw [← it.1, oe, List.length_map]
        exact k ns p H1 oe sb np (Ex.sm e0 np sm) ⟨dx, d, nw_at np g1, nw_at (ex_none e0 hd) g2, lns, nd, le⟩
      · refine r_clY T.x_NoStore.te fun a na => ?_
        walk_at "rd"
        refine r_xf (set_len (by rw [hs]; decide)) hd rfl ?_
        walk_at "rd"
        have ee := Ex.sm e0 np sm
        exact ⟨by simp, fun r H2 nr e2 hr => kx i r H2 sb (ex_none ee nr) (ee.trans e2) hr⟩
def sp__law_fetched (K : PySem.W.Frag) (A : Adr) : Sp := fun vs H Q _ => ∃ (p : Addr) (x : V) (ns : List Str) (xs : List V), vs = [.ref p, x] ∧ StoreAt A H p ns xs ∧ WArg K H x ∧ inStore ns x = false ∧
  ∀ r H', H r = none → Ex H H' → H' r = some (.tup [.str "none", x]) → Q (.ref r) H'
theorem ok__law_fetched (T : Txt K mg A) : FnOk P w K mg base CX0 5 A.f__law_fetched A.d__law_fetched P__law_fetched (sp__law_fetched K A) := by
  refine T.F__law_fetched.ok sc__law_fetched (fun vs H Q E h => ?_) (fun cdv Ar outer s H vs Q E hr h => ?_)
  · obtain ⟨p, x, ns, xs, rfl, _⟩ := h; rfl
  · have hu := hu_of hr
    refine ⟨_, (pss_one (ps_try rfl rfl takes_none5 (fun _ _ _ tk po => (pss_one (ps_ret (pe_subO T.du_Store_getitem T.fi_Store_getitem (ok_Store___getitem__ T) (hr.mono (by decide)) T.bi_Store___getitem__ (passes_try 3 rfl tk) (pv 0) (pv 1)))))
          (.named (i := 2) sc__law_fetched.nd rfl rfl ⟨(by rfl), (by decide), .inl T.x_NoName.g⟩ (fun _ _ _ _ _ hz hx => (pss_one (ps_ret (pe_tupM (pa_cons pe_str (pa_cons (pe_xf T.x_NoName.xf T.x_NoName.no hz hx (pv 2)) pa_nil)))))) (.bare ⟨(by rfl), (by decide), .inl T.ld.g⟩ (fun _ _ _ _ _ hz hx => (pss_one (ps_ret (pe_tupM (pa_cons pe_str (pa_cons pe_non pa_nil)))))) .nil)))), ?_⟩
    obtain ⟨p, x, ns, xs, rfl, st, w, no, k⟩ := h
    obtain ⟨dx, d, h1, h2, ln, nd, le⟩ := id st
    walk_at "rd"
    walk_at "rd"
    refine ⟨p, dx, _, rfl, h1, p, x, ns, xs, rfl, st, w, fun i z y hx hw hi hy => ?_, fun _ d H1 e1 hd σ' hs => ?_⟩
    · subst hx
      have : inStore ns (.str z) = true := by
        show (isWord z && decide (z ∈ ns)) = true
        rw [hw, decide_eq_true (List.mem_of_getElem? hi)]; rfl
      rw [this] at no; cases no
    · refine r_clY T.x_NoName.te fun a na => ?_
      walk_at "rd"
      refine r_xf (set_len (by rw [hs]; decide)) hd rfl ?_
      walk_at "rd"
      exact ⟨by simp, fun r H2 nr e2 hr => k r H2 (ex_none e1 nr) (e1.trans e2) hr⟩
/-- a library whose values are data -/
def LibAt (K : PySem.W.Frag) (A : Adr) (H : Hp) (x : V) (nm : Str) : Prop := ∃ a dx ys ds, x = .ref a ∧ H a = some (.ins A.C_Library dx (libK.zip (.str nm :: ys))) ∧ ys.length = 6 ∧ DpAll K H (.str nm :: ys) ds ∧ SeqAt.shaped (.tuple ds) = true
/-- a word whose second letter is one of the last -/
def NameOk (nm : Str) : Prop := isWord nm = true ∧ ∃ c, nm.cps.toList[1]? = some c ∧ 120 ≤ c
def ItemX (K : PySem.W.Frag) (A : Adr) (H : Hp) (x : V) : Option Str → Prop
  | some nm => LibAt K A H x nm ∧ NameOk nm
  | none => ∃ t, TyX K H x (.type t) ∧ PySem.W.kitOne K (.type t) (.ref A.C_Library) = some false
theorem LibAt.up {K : PySem.W.Frag} {A : Adr} {H H' : Hp} {x : V} {nm : Str} (e : Ex H H') (h : LibAt K A H x nm) : LibAt K A H' x nm := by
  obtain ⟨a, dx, ys, ds, h1, h2, h3, h4, h5⟩ := h
  exact ⟨a, dx, ys, ds, h1, e _ _ h2, h3, DpAll.up e h4, h5⟩
theorem ItemX.up {K : PySem.W.Frag} {A : Adr} {H H' : Hp} {x : V} (e : Ex H H') : ∀ {o : Option Str}, ItemX K A H x o → ItemX K A H' x o
  | some _, h => ⟨h.1.up e, h.2⟩
  | none, ⟨t, h1, h2⟩ => ⟨t, tyX_up e h1, h2⟩
theorem ItemX.ok {K : PySem.W.Frag} {A : Adr} {H : Hp} {x : V} : ∀ {o : Option Str}, ItemX K A H x o → ItemOk K A H x o
  | some _, ⟨⟨a, dx, ys, ds, h1, h2, h3, h4⟩, _⟩ => ⟨a, dx, ys, h1, h2, h3⟩
  | none, ⟨t, h1, h2⟩ => ⟨_, h1, h2⟩
def ItemsX (K : PySem.W.Frag) (A : Adr) (H : Hp) (xs : List V) (os : List (Option Str)) : Prop := os.length = xs.length ∧ ∀ (i : Nat) x o, xs[i]? = some x → os[i]? = some o → ItemX K A H x o
theorem ItemsX.up {K : PySem.W.Frag} {A : Adr} {H H' : Hp} {xs : List V} {os : List (Option Str)} (e : Ex H H') (h : ItemsX K A H xs os) : ItemsX K A H' xs os := ⟨h.1, fun i x o a b => (h.2 i x o a b).up e⟩
theorem ItemsX.items {K : PySem.W.Frag} {A : Adr} {H : Hp} {xs : List V} {os : List (Option Str)} (h : ItemsX K A H xs os) : Items K A H xs os := ⟨h.1, fun i x o a b => (h.2 i x o a b).ok⟩
theorem ItemsX.app {K : PySem.W.Frag} {A : Adr} {H : Hp} {xs : List V} {os : List (Option Str)} {x : V} {o : Option Str} (h : ItemsX K A H xs os) (k : ItemX K A H x o) : ItemsX K A H (xs ++ [x]) (os ++ [o]) := by
  refine ⟨by simp [h.1], fun i y u a b => ?_⟩
  rw [List.getElem?_append] at a b
  rw [h.1] at b
  split at a
  · rename_i hl
    rw [if_pos hl] at b
    exact h.2 i y u a b
  · rename_i hl
    rw [if_neg hl] at b
    have e : i - xs.length = 0 := by
      have := (List.getElem?_eq_some_iff.mp a).1
      simp at this
      omega
    rw [e] at a b
    cases a; cases b
    exact k
theorem ItemsX.set {K : PySem.W.Frag} {A : Adr} {H : Hp} {xs : List V} {os : List (Option Str)} {x : V} {o : Option Str} {j : Nat} (h : ItemsX K A H xs os) (k : ItemX K A H x o) (hj : j < xs.length) : ItemsX K A H (xs.set j x) (os.set j o) := by
  refine ⟨by simp [h.1], fun i y u a b => ?_⟩
  by_cases e : i = j
  · subst e
    rw [List.getElem?_set_self hj] at a
    rw [List.getElem?_set_self (by rw [h.1]; exact hj)] at b
    cases a; cases b
    exact k
  · rw [List.getElem?_set_ne (Ne.symm e)] at a b
    exact h.2 i y u a b
theorem e_targ {K : PySem.W.Frag} {H : Hp} {a : Addr} (h : SqT K H a []) : TArg K H (.ref a) (some []) := ⟨_, rfl, h, ty_sqT h, Nat.zero_le _, fun y hy => nomatch hy⟩
theorem barg {K : PySem.W.Frag} {H : Hp} {b : Bool} : BArg K H (.bl b) true := ⟨_, .base (.bl b), kit_ty (by decide +kernel)⟩
/-- the word of a letter and one or three others -/
def zw (a b n : Nat) : Str := sg a ++ Txt.mul (sg b) ((n : Int) + 1)
theorem zw_cps {a b n : Nat} (h : n < 3) : (zw a b n).cps.toList = a :: b :: List.replicate n b := by
  rcases (show n = 0 ∨ n = 1 ∨ n = 2 by omega) with rfl | rfl | rfl <;> rfl
theorem zw_ok {a b n : Nat} (h : n < 3) (ha : a ∈ letters) (hb : b ∈ letters) (h2 : 120 ≤ b) : NameOk (zw a b n) := by
  refine ⟨?_, b, by rw [zw_cps h]; rfl, h2⟩
  have len : (zw a b n).length = n + 2 := by rw [str_len, zw_cps h]; simp
  unfold isWord
  rw [len, zw_cps h]
  simp [ha, hb]
  omega
def sp__law_some (K : PySem.W.Frag) (A : Adr) : Sp := fun vs H Q _ => ∃ (p : Addr) (n : Nat), vs = [.ref p] ∧ n ≤ 10000 ∧ WellAt H p n ∧
  ∀ l xs os G H', H l = none → l ≠ p → Sm p H H' → Ex G H' → G l = none → G p = none → H' l = some (.lst xs) → xs.length ≤ 42 → ItemsX K A G xs os → WellAt H' p (n + 50) → Q (.ref l) H'
theorem ok__law_some (T : Txt K mg A) : FnOk P w K mg base CX0 5 A.f__law_some A.d__law_some P__law_some (sp__law_some K A) := by
  refine T.F__law_some.ok sc__law_some (fun vs H Q E h => ?_) (fun cdv Ar outer s H vs Q E hr h => ?_)
  · obtain ⟨p, n, rfl, _⟩ := h; rfl
  · have hu := hu_of hr
    obtain ⟨mv_Library_defines, KB_Library_defines⟩ := kb_Library_defines T
    obtain ⟨ds_Library, VB_Library, BI_Library⟩ := bd_Library T
    refine ⟨_, (pss_cons (ps_set (i := 1) sc__law_some.nd rfl (Or.inl rfl) (pe_lstM pa_nil))
        (pss_cons (ps_for PassesOwn.never rfl (pi_range1 (by rfl) T.b_range (pa_cons (pe_call (ok__law_one T) (hr.mono (by decide)) (by rfl) T.g__law_one T.k__law_one T.bi__law_one .nil pass0 (pa_cons (pv 0) (pa_cons (pe_lstM (pa_cons pe_int (pa_cons pe_int (pa_cons pe_int (pa_cons pe_int (pa_cons pe_int (pa_cons pe_int (pa_cons pe_int (pa_cons (pe_call (ok__law_draw T) (hr.mono (by decide)) (by rfl) T.g__law_draw T.k__law_draw T.bi__law_draw .nil pass0 (pa_cons (pv 0) (pa_cons pe_int pa_nil))) pa_nil))))))))) pa_nil))) pa_nil)) (pg_name (i := 2) sc__law_some.nd rfl (Or.inl rfl))
          (pss_cons (ps_set (i := 3) sc__law_some.nd rfl (Or.inl rfl) (pe_op op_addSQ (pe_ix ix_str pe_str (pe_op op_modN (pv 2) pe_int) (fun _ _ => rfl)) (pe_op op_repS (pe_ix ix_str pe_str (pe_op op_fdivN (pv 2) pe_int) (fun _ _ => rfl)) (pe_op op_add pe_int (pe_call (ok__law_draw T) (hr.mono (by decide)) (by rfl) T.g__law_draw T.k__law_draw T.bi__law_draw .nil pass0 (pa_cons (pv 0) (pa_cons pe_int pa_nil)))))))
        (pss_one (ps_expr (pe_bm PySem.F.plainAttrs_list PySem.F.slot_list_append PySem.F.type_list_append mt_append (pv 1) (pa_cons (pe_makeK T.mk_Library (ok_Library___init__ T) (hr.mono (by decide)) (by rfl) T.g_Library KB_Library_defines passL (pa_cons (pv 3) pa_nil) (pk_cons (pe_tupM (pa_cons pe_str pa_nil)) pk_nil)) pa_nil))))))
        (pss_cons (ps_if (PW.pt (pw_and (pt_cmpR (k_neL0 K rfl hu) (pv 1) (pe_lstM pa_nil) (nomark _)) (pw_and1 (pt_cmpR op_eq (pe_call (ok__law_draw T) (hr.mono (by decide)) (by rfl) T.g__law_draw T.k__law_draw T.bi__law_draw .nil pass0 (pa_cons (pv 0) (pa_cons pe_int pa_nil))) pe_int (nomark _)))))
          (pss_cons (ps_set (i := 4) sc__law_some.nd rfl (Or.inl rfl) (pe_call (ok__law_draw T) (hr.mono (by decide)) (by rfl) T.g__law_draw T.k__law_draw T.bi__law_draw .nil pass0 (pa_cons (pv 0) (pa_cons (pe_callB (k_len K rfl) (by rfl) T.b_len PySem.boot_len (pa_cons (pv 1) pa_nil)) pa_nil))))
        (pss_one (ps_asg (pe_call (ok__law_one T) (hr.mono (by decide)) (by rfl) T.g__law_one T.k__law_one T.bi__law_one .nil pass0 (pa_cons (pv 0) (pa_cons (pe_lstM (pa_cons pe_non (pa_cons pe_str (pa_cons (pe_lstM pa_nil) (pa_cons pe_dnewK (pa_cons (pe_ix (k_ixL K rfl) (pv 1) pe_int (fun _ _ => rfl)) (pa_cons (pe_make T.mk_Library (ok_Library___init__ T) (hr.mono (by decide)) (by rfl) T.g_Library BI_Library VB_Library passL (pa_cons (k_fld K rfl (pe_ix (k_ixL K rfl) (pv 1) pe_int (fun _ _ => rfl))) pa_nil)) (pa_cons (pe_tupM (pa_cons pe_str pa_nil)) (pa_cons pe_int pa_nil))))))))) pa_nil))) (pg_sub (pv 1) (pv 4) set_list))))
          pss_nil)
        (pss_one (ps_ret (pv 1)))))), ?_⟩
    obtain ⟨p, n, rfl, hn, hw, k⟩ := h
    walk_at "rd"
    refine ⟨by simp, fun l H1 nl e1 hl => ?_⟩
    have w1 := hw.up e1
    have lp : l ≠ p := new_ne hw nl
    walk_at "rd"
    refine ⟨p, 43, n, rfl, by decide, by decide, by omega, w1, fun d0 H2 d00 d01 s2 w2 => ?_⟩
    walk_at "rd"
    refine ⟨by simp, fun a H3 na e3 ha => ?_⟩
    have w3 := w2.up e3
    walk_at "rd"
    refine ⟨p, a, _, n + 1, rfl, SqL.of ha, new_ne w2 na, by simp, by simp, by omega, w3, fun v H4 hv s4 w4 => ?_⟩
    have hc : ∃ c : Nat, v = .int (c : Int) ∧ c ≤ 42 := by
      obtain ⟨d', hd'⟩ : ∃ d' : Nat, d0 = (d' : Int) := ⟨d0.toNat, by omega⟩
      simp only [List.mem_cons, List.not_mem_nil, or_false] at hv
      rcases hv with rfl | rfl | rfl | rfl | rfl | rfl | rfl | rfl
      · exact ⟨0, rfl, by omega⟩
      · exact ⟨1, rfl, by omega⟩
      · exact ⟨5, rfl, by omega⟩
      · exact ⟨39, rfl, by omega⟩
      · exact ⟨40, rfl, by omega⟩
      · exact ⟨41, rfl, by omega⟩
      · exact ⟨42, rfl, by omega⟩
      · exact ⟨d', by rw [hd'], by omega⟩
    obtain ⟨c, rfl, hc⟩ := hc
    walk_at "rd"
    refine ⟨_, rfl, by omega, by omega, ?_⟩
    rw [show ((c : Int)).toNat = c by omega]
    have s04 : Sm p H H4 := (Sm.of e1).trans (s2.trans ((Sm.of e3).trans s4))
    have hl4 : H4 l = some (.lst []) := s4 _ _ lp (e3 _ _ (s2 _ _ lp hl))
    refine for_it (walk_range (lo := 0) (n := c)) (fun i σ' H' => WellAt H' p (n + 2 + i) ∧ (∃ o2 o3 o4 : Option V, σ' = [some (.ref p), some (.ref l), o2, o3, o4]) ∧ Sm p H H' ∧
        ∃ (G : Hp) (xs : List V) (os : List (Option Str)), Ex G H' ∧ G l = none ∧ G p = none ∧ H' l = some (.lst xs) ∧ xs.length = i ∧ ItemsX K A G xs os ∧ ∀ x ∈ os, x ≠ none)
      ⟨w4, ⟨_, _, _, rfl⟩, s04, fr [p, l] H4, [], [], fr_ex, fr_no (by simp), fr_no (by simp), hl4, rfl, ⟨rfl, fun i x o h => by simp at h⟩, fun x hx => nomatch hx⟩ (fun _ _ _ _ _ => trivial) ?_ fun σ' H' q => ?_
    · rintro i x σ' H' H'' hi ⟨wx, ⟨o2, o3, o4, rfl⟩, sx, G, xs, os, g1, g2, g3, hx, lx, it, no⟩ ⟨rfl, rfl⟩
      walk_at "rd"
      refine r_I (by decide) ?_
      have em : (0 + (i : Int)).fmod 26 = ((i % 26 : Nat) : Int) := by rw [Int.zero_add, Int.fmod_eq_emod_of_nonneg _ (by decide)]; omega
      have ed : (0 + (i : Int)).fdiv 26 = ((i / 26 : Nat) : Int) := by rw [Int.zero_add, Int.fdiv_eq_ediv_of_nonneg _ (by decide)]; omega
      have m26 : i % 26 < 26 := Nat.mod_lt _ (by decide)
      have d2 : i / 26 < 2 := by omega
      have hl1 : 97 + i % 26 ∈ letters := by rw [letters_eq]; exact List.mem_map.mpr ⟨_, List.mem_range.mpr m26, rfl⟩
      have hl2 : 120 + i / 26 ∈ letters := by rw [letters_eq]; exact List.mem_map.mpr ⟨23 + i / 26, List.mem_range.mpr (by omega), by omega⟩
      rw [em]
      refine r_ixS alpha_len (alpha_at m26) ?_
      walk_at "rd"
      refine r_I ⟨by decide, by omega⟩ ?_
      rw [ed]
      refine r_ixS (c := 120 + i / 26) (by decide +kernel) (atI_nat (by
        rcases (show i / 26 = 0 ∨ i / 26 = 1 by omega) with e | e <;> rw [e] <;> rfl)) ?_
      walk_at "rd"
      refine ⟨p, 3, n + 2 + i, rfl, by decide, by decide, by omega, wx, fun d H5 d0 d1 s5 w5 => ?_⟩
      obtain ⟨m, rfl⟩ : ∃ m : Nat, d = (m : Int) := ⟨d.toNat, by omega⟩
      have m3 : m < 3 := by omega
      walk_at "rd"
      rw [show (1 : Int) + (m : Int) = (m : Int) + 1 by omega]
      refine r_repS (by show 1 ≤ 16; decide) (by omega) (by omega) ?_
      have zok := zw_ok m3 hl1 hl2 (by omega)
      have zl := isWord_len zok.1
      refine r_addS (by
        have e : (zw (97 + i % 26) (120 + i / 26) m).length = m + 2 := by rw [str_len, zw_cps m3]; simp
        have e2 : (sg (97 + i % 26)).length = 1 := rfl
        have e3 : (Txt.mul (sg (120 + i / 26)) ((m : Int) + 1)).length ≤ 3 := by
          rcases (show m = 0 ∨ m = 1 ∨ m = 2 by omega) with rfl | rfl | rfl
          · show 1 ≤ 3; decide
          · show 2 ≤ 3; decide
          · show 3 ≤ 3; decide
        omega) ?_
      show _
      generalize hz : sg (97 + i % 26) ++ Txt.mul (sg (120 + i / 26)) ((m : Int) + 1) = z
      replace hz : zw (97 + i % 26) (120 + i / 26) m = z := hz
      rw [hz] at zok zl
      clear hl1 hl2 em ed
      walk_at "rd"
      have hx5 : H5 l = some (.lst xs) := s5 _ _ lp hx
      have g15 : Ex G H5 := Ex.sm g1 g3 s5
      refine ⟨tyL (SqL.of hx5), ?_⟩
      walk_at "rd"
      refine ⟨by simp, fun tp H6 n6 e6 h6 => ?_⟩
      have w6 := w5.up e6
      walk_at "rd"
      refine ⟨rfl, rfl, fun x dx nx ndx ne => ?_⟩
      have e7 : Ex H6 (upd (upd H6 dx (.own x)) x (.ins A.C_Library dx [])) := fun b o hb => by
        rw [upd_ne (ne_of_none hb nx), upd_ne (ne_of_none hb ndx)]; exact hb
      have hp7 : (upd (upd H6 dx (.own x)) x (.ins A.C_Library dx [])) x = some (.ins A.C_Library dx []) := upd_same
      generalize (upd (upd H6 dx (.own x)) x (.ins A.C_Library dx [])) = H7 at e7 hp7
      have put1 : isWord "put" = true := by decide +kernel
      have h67 : SqT K H7 tp [.str "put"] := st_of (e7 _ _ h6)
      refine ⟨x, dx, .str z, .ref A.e0, .ref tp, .ref A.e2, .ref A.e3, .bl false, .bl false, some [], some [.str "put"], some [], some [], true, true, rfl, hp7, .inl ⟨_, rfl, by omega⟩, e_targ (T.e0_ok _), ⟨_, rfl, h67, ty_sqT h67, (by decide), fun y hy => ?_⟩, e_targ (T.e2_ok _), e_targ (T.e3_ok _), barg, barg, fun _ H8 s8 g8 => ⟨rfl, ?_⟩, fun part hp => ?_⟩
      · rw [List.mem_singleton.mp hy]; exact .inl ⟨_, rfl, by decide +kernel⟩
      · have e68 : Ex H6 H8 := fun b o hb => s8 b o (ne_of_none hb nx) (e7 b o hb)
        have e58 := e6.trans e68
        walk_at "rd"
        refine r_app (e58 _ _ hx5) (by omega) fun H9 h9 s9 => ?_
        have n5x : H5 x = none := ex_none e6 nx
        have xl : x ≠ l := fun q => by rw [q, hx5] at n5x; cases n5x
        have xp : x ≠ p := fun q => w5.some (q ▸ n5x)
        have tl : tp ≠ l := fun q => by rw [q, hx5] at n6; cases n6
        have tq : tp ≠ p := fun q => w5.some (q ▸ n6)
        have eG : Ex G (fr [p, l] H8) := fr_up (g15.trans e58) fun q hq => by
          simp only [List.mem_cons, List.not_mem_nil, or_false] at hq
          rcases hq with rfl | rfl
          · exact g3
          · exact g2
        have w9 : WellAt H9 p (n + 2 + (i + 1)) := by
          obtain ⟨q1, q2, q3, q4, q5⟩ := w6.up e68
          exact ⟨q1, q2, q3, s9 _ _ lp.symm q4, by omega⟩
        have lib : LibAt K A (fr [p, l] H8) (.ref x) z := by
          refine ⟨x, dx, _, [.str z, .tuple [], .tuple [.str "put"], .tuple [], .tuple [], .bool false, .bool false], rfl, fr_at g8 (by simp [xp, xl]), rfl, ?_, ?_⟩
          · refine .cons (.str _) (.cons (.tup (T.e0_ok _) .nil) (.cons (.tup (st_of (fr_at (e68 _ _ h6) (by simp [tq, tl]))) (.cons (.str _) .nil)) (.cons (.tup (T.e2_ok _) .nil) (.cons (.tup (T.e3_ok _) .nil) (.cons (.bl _) (.cons (.bl _) .nil))))))
          · refine (nice_tup (n := 1) fun d hd => ?_).shaped (by decide)
            simp only [List.mem_cons, List.not_mem_nil, or_false] at hd
            rcases hd with rfl | rfl | rfl | rfl | rfl | rfl | rfl
            · exact nice_str (strOk_word zok.1)
            · exact nice_tup (nice_strs (ws := []) fun w hw => nomatch hw)
            · exact nice_tup (nice_strs (ws := ["put"]) fun w hw => by rw [List.mem_singleton.mp hw]; exact strOk_word put1)
            · exact nice_tup (nice_strs (ws := []) fun w hw => nomatch hw)
            · exact nice_tup (nice_strs (ws := []) fun w hw => nomatch hw)
            · exact nice_bool
            · exact nice_bool
        refine ⟨w9, ⟨_, _, _, rfl⟩, ?_, fr [p, l] H8, xs ++ [.ref x], os ++ [some z], Ex.sm fr_ex (fr_no (by simp)) s9, fr_no (by simp), fr_no (by simp), h9, by simp [lx], (it.up eG).app ⟨lib, zok⟩, fun o ho => ?_⟩
        · exact fun b o hb hh => s9 b o (fun q => by rw [q, nl] at hh; cases hh) (e58 b o (s5 b o hb (sx b o hb hh)))
        · rcases List.mem_append.mp ho with ho | ho
          · exact no o ho
          · rw [List.mem_singleton.mp ho]; exact fun z => nomatch z
      · have : libBad (.str z) (some []) (some [V.str "put"]) (some []) (some []) true true = none := by
          have a0 : isWordV (.str z) = true := zok.1
          have a1 : okT 12 (some ([] : List V)) = true := by decide +kernel
          have a2 : okT 20 (some [V.str "put"]) = true := by decide +kernel
          have a3 : okT 20 (some ([] : List V)) = true := by decide +kernel
          have a5 : inV (.str z) ([] : List V) = false := rfl
          simp [libBad, a0, a1, a2, a3, a5, its]
        rw [this] at hp; cases hp
    obtain ⟨wx, ⟨o2, o3, o4, rfl⟩, sx, G, xs, os, g1, g2, g3, hx, lx, it, no⟩ := q
    walk_at "rd"
    refine ⟨by simp, fun em H5 n5 e5 h5 => ?_⟩
    refine r_neL0 (SqL.of (e5 _ _ hx)) (SqL.of h5) ?_
    have w5 := wx.up e5
    have hx5 := e5 _ _ hx
    have g15 := g1.trans e5
    have s5' := sx.trans (Sm.of e5)
    have fin : ∀ {H' : Hp} {G' : Hp} {xs' : List V} {os' : List (Option Str)}, Sm p H H' → Ex G' H' → G' l = none → G' p = none → H' l = some (.lst xs') → xs'.length ≤ 42 → ItemsX K A G' xs' os' → WellAt H' p (n + 50) → Q (.ref l) H' := fun a b c d e f g h => k l _ _ _ _ nl lp a b c d e f g h
    walk_at "rd"
    cases he : xs.isEmpty with
    | true =>
      walk_at "rd"
      exact fin s5' g15 g2 g3 hx5 (by omega) it (w5.le (by omega))
    | false =>
    have x0 : 0 < xs.length := by
      cases xs with
      | nil => cases he
      | cons => simp
    walk_at "rd"
    refine ⟨p, 2, n + 2 + c, rfl, by decide, by decide, by omega, w5, fun d H6 d0 d1 s6 w6 => ?_⟩
    walk_at "rd"
    refine r_eq rfl ?_
    have hx6 := s6 _ _ lp hx5
    have g16 := Ex.sm g15 g3 s6
    have s6' := s5'.trans s6
    walk_at "rd"
    refine r_ite (fun hd => ?_) fun hd => ?_
    rotate_left
    · walk_at "rd"
      exact fin s6' g16 g2 g3 hx6 (by omega) it (w6.le (by omega))
    walk_at "rd"
    refine r_lenL (SqL.of hx6) ?_
    walk_at "rd"
    refine ⟨p, (xs.length : Int), n + 2 + c + 1, rfl, by omega, by omega, by omega, w6, fun d' H7 d0' d1' s7 w7 => ?_⟩
    obtain ⟨at_, rfl⟩ : ∃ m : Nat, d' = (m : Int) := ⟨d'.toNat, by omega⟩
    have hx7 := s7 _ _ lp hx6
    have g17 := Ex.sm g16 g3 s7
    have s7' := s6'.trans s7
    -- the first library
    have hos0 : 0 < os.length := by rw [it.1]; exact x0
    obtain ⟨nm, hnm⟩ : ∃ nm, os[0]? = some (some nm) := by
      have h0 : os[0]? = some os[0] := by simp
      cases ho : os[0] with
      | none => exact absurd ho (no _ (List.getElem_mem hos0))
      | some nm => exact ⟨nm, by rw [h0, ho]⟩
    have hx0 : xs[0]? = some xs[0] := by simp
    have first := it.2 0 _ _ hx0 hnm
    obtain ⟨⟨fa, fdx, fys, fds, fe, fh, fl, fd, fs⟩, fok⟩ := id first
    have fat : atI xs 0 = some (V.ref fa) := atI_nat (j := 0) (by rw [hx0, fe])
    match fys, fl with
    | [z1, z2, z3, z4, z5, z6], _ =>
    walk_at "rd"
    refine ⟨by simp, fun b1 J1 k1 j1 r1 => ?_⟩
    have u1 := w7.up j1
    walk_at "rd"
    refine r_dnewK fun b2 J2 k2 j2 r2 => ?_
    have u2 := u1.up j2
    walk_at "rd"
    refine r_ixL (SqL.of ((j1.trans j2) _ _ hx7)) fat ?_
    walk_at "rd"
    refine r_ixL (SqL.of ((j1.trans j2) _ _ hx7)) fat ?_
    refine r_fldE ((g17.trans (j1.trans j2)) _ _ fh) T.cl_Library T.na_Library_name 0 (by decide +kernel) rfl ?_
    walk_at "rd"
    intro x dx nx ndx ne
    have e7 : Ex J2 (upd (upd J2 dx (.own x)) x (.ins A.C_Library dx [])) := fun b o hb => by
      rw [upd_ne (ne_of_none hb nx), upd_ne (ne_of_none hb ndx)]; exact hb
    have hp7 : (upd (upd J2 dx (.own x)) x (.ins A.C_Library dx [])) x = some (.ins A.C_Library dx []) := upd_same
    generalize (upd (upd J2 dx (.own x)) x (.ins A.C_Library dx [])) = J3 at e7 hp7
    refine ⟨x, dx, .str nm, .ref A.e0, .ref A.e1, .ref A.e2, .ref A.e3, .bl false, .bl false, some [], some [], some [], some [], true, true, rfl, hp7, .inl ⟨_, rfl, by have := (isWord_len fok.1).2; omega⟩, e_targ (T.e0_ok _), e_targ (T.e1_ok _), e_targ (T.e2_ok _), e_targ (T.e3_ok _), barg, barg, fun _ J4 s4 g4 => ⟨rfl, ?_⟩, fun part hp => ?_⟩
    rotate_left
    · have : libBad (.str nm) (some []) (some []) (some []) (some []) true true = none := by
        have a0 : isWordV (.str nm) = true := fok.1
        have a1 : okT 12 (some ([] : List V)) = true := by decide +kernel
        have a3 : okT 20 (some ([] : List V)) = true := by decide +kernel
        have a5 : inV (.str nm) ([] : List V) = false := rfl
        simp [libBad, a0, a1, a3, a5, its]
      rw [this] at hp; cases hp
    have j4 : Ex J2 J4 := fun b o hb => s4 b o (ne_of_none hb nx) (e7 b o hb)
    have u4 := u2.up j4
    walk_at "rd"
    refine ⟨by simp, fun b5 J5 k5 j5 r5 => ?_⟩
    have u5 := u4.up j5
    walk_at "rd"
    refine ⟨by simp, fun b6 J6 k6 j6 r6 => ?_⟩
    have u6 := u5.up j6
    have jj := j1.trans (j2.trans (j4.trans (j5.trans j6)))
    have hxJ := jj _ _ hx7
    walk_at "rd"
    refine ⟨p, b6, _, n + 2 + c + 1 + 1, rfl, SqL.of r6, new_ne u5 k6, by simp, by simp, by omega, u6, fun v H8 hv s8 w8 => ?_⟩
    walk_at "rd"
    have hx8 := s8 _ _ lp hxJ
    have l1 : ∀ {a : Addr} {J : Hp}, J a = none → J l = some (.lst xs) → a ≠ l := fun h1 h2 q => by rw [q, h2] at h1; cases h1
    have q1 : b1 ∉ [p, l] := by simp [new_ne w7 k1, l1 k1 hx7]
    have q2 : b2 ∉ [p, l] := by simp [new_ne u1 k2, l1 k2 (j1 _ _ hx7)]
    have q5 : b5 ∉ [p, l] := by simp [new_ne u4 k5, l1 k5 ((j1.trans (j2.trans j4)) _ _ hx7)]
    have qx : x ∉ [p, l] := by simp [new_ne u2 nx, l1 nx ((j1.trans j2) _ _ hx7)]
    have f1 : fr [p, l] J6 b1 = some (.lst []) := fr_at ((j2.trans (j4.trans (j5.trans j6))) _ _ r1) q1
    have f2 : fr [p, l] J6 b2 = some (.dK []) := fr_at ((j4.trans (j5.trans j6)) _ _ r2) q2
    have f5 : fr [p, l] J6 b5 = some (.tup [.str "core"]) := fr_at (j6 _ _ r5) q5
    have fx : fr [p, l] J6 x = some (.ins A.C_Library dx (libK.zip [.str nm, .ref A.e0, .ref A.e1, .ref A.e2, .ref A.e3, .bl false, .bl false])) := fr_at ((j5.trans j6) _ _ g4) qx
    have eG : Ex G (fr [p, l] J6) := fr_up (g17.trans jj) fun q hq => by
      simp only [List.mem_cons, List.not_mem_nil, or_false] at hq
      rcases hq with rfl | rfl
      · exact g3
      · exact g2
    have hv2 : ∃ o, ItemX K A (fr [p, l] J6) v o := by
      simp only [List.mem_cons, List.not_mem_nil, or_false] at hv
      rcases hv with rfl | rfl | rfl | rfl | rfl | rfl | rfl | rfl
      · exact ⟨none, _, .base .non, T.nl_NoneType⟩
      · exact ⟨none, _, .base (.str _), T.nl_str⟩
      · exact ⟨none, _, .base (.lst f1), T.nl_list⟩
      · exact ⟨none, _, .base (.dK f2), T.nl_dict⟩
      · exact ⟨some nm, fe ▸ first.up eG⟩
      · refine ⟨some nm, ⟨x, dx, _, [.str nm, .tuple [], .tuple [], .tuple [], .tuple [], .bool false, .bool false], rfl, fx, rfl, ?_, ?_⟩, fok⟩
        · exact .cons (.str _) (.cons (.tup (T.e0_ok _) .nil) (.cons (.tup (T.e1_ok _) .nil) (.cons (.tup (T.e2_ok _) .nil) (.cons (.tup (T.e3_ok _) .nil) (.cons (.bl _) (.cons (.bl _) .nil))))))
        · refine (nice_tup (n := 1) fun d hd => ?_).shaped (by decide)
          simp only [List.mem_cons, List.not_mem_nil, or_false] at hd
          rcases hd with rfl | rfl | rfl | rfl | rfl | rfl | rfl
          · exact nice_str (strOk_word fok.1)
          · exact nice_tup (nice_strs (ws := []) fun w hw => nomatch hw)
          · exact nice_tup (nice_strs (ws := []) fun w hw => nomatch hw)
          · exact nice_tup (nice_strs (ws := []) fun w hw => nomatch hw)
          · exact nice_tup (nice_strs (ws := []) fun w hw => nomatch hw)
          · exact nice_bool
          · exact nice_bool
      · exact ⟨none, _, .base (.tup f5), T.nl_tuple⟩
      · exact ⟨none, _, .base (.int _), T.nl_int⟩
    obtain ⟨o, ho⟩ := hv2
    refine r_setL hx8 (Evl.ixN_nat (by omega)) fun H9 h9 s9 => ?_
    walk_at "rd"
    have w9 : WellAt H9 p (n + 50) := by
      obtain ⟨q1, q2, q3, q4, q5⟩ := w8
      exact ⟨q1, q2, q3, s9 _ _ lp.symm q4, by omega⟩
    refine fin ?_ (Ex.sm (Ex.sm fr_ex (fr_no (by simp)) s8) (fr_no (by simp)) s9) (fr_no (by simp)) (fr_no (by simp)) h9 (by rw [List.length_set]; omega) ((it.up eG).set ho (by omega)) w9
    exact fun b oo hb hh => s9 b oo (fun q => by rw [q, nl] at hh; cases hh) (s8 b oo hb (jj b oo (s7' b oo hb hh)))
/-- the law's own list of names -/
def wds (os : List (Option Str)) : List V := os.map fun o => V.str (o.getD "")
theorem wds_flat (os : List (Option Str)) : (wds os).all flatV = true := by
  unfold wds
  rw [List.all_map]
  simp [flatV]
theorem wds_some (ns : List Str) : wds (ns.map some) = ns.map V.str := by unfold wds; rw [List.map_map]; rfl
/-- what the law holds due behind i items -/
def DueAt (os : List (Option Str)) (i : Nat) : V → Prop
  | .non => ∃ ns, os.take i = ns.map some ∧ ns.length = i ∧ ns.Nodup ∧ i ≤ 40 ∧ stBad 0 [] os = stBad i ns (os.drop i)
  | .int j => ∃ k : Nat, j = k ∧ stBad 0 [] os = some k
  | _ => False
abbrev sp_law (K : PySem.W.Frag) (A : Adr) : Sp := spLaw K
theorem ok_law (T : Txt K mg A) : FnOk P w K mg base CX0 6 A.f_law A.d_law P_law (sp_law K A) := by
  refine T.F_law.ok sc_law (fun vs H Q E h => ?_) (fun cdv Ar outer s H vs Q E hr h => ?_)
  · obtain ⟨a, ns, rfl, _⟩ := h; rfl
  · have hu := hu_of hr
    refine ⟨_, (pss_cons (ps_for PassesOwn.never rfl (k_pil K rfl (pe_op op_catM (pe_slice (k_slL K rfl) (pv 0) po_none (po_some pe_int)) (pe_lstM (pa_cons pe_int (pa_cons pe_int pa_nil))))) (pg_name (i := 1) sc_law.nd rfl (Or.inl rfl))
          (pss_cons (ps_set (i := 2) sc_law.nd rfl (Or.inl rfl) (pe_call (ok__law_well T) (hr.mono (by decide)) (by rfl) T.g__law_well T.k__law_well T.bi__law_well .nil pass0 (pa_cons (pv 1) pa_nil)))
        (pss_cons (ps_set (i := 3) sc_law.nd rfl (Or.inl rfl) (pe_call (ok__law_some T) (hr.mono (by decide)) (by rfl) T.g__law_some T.k__law_some T.bi__law_some .nil pass0 (pa_cons (pv 2) pa_nil)))
        (pss_cons (ps_set (i := 4) sc_law.nd rfl (Or.inl rfl) pe_non)
        (pss_cons (ps_set (i := 5) sc_law.nd rfl (Or.inl rfl) (pe_lstM pa_nil))
        (pss_cons (ps_for PassesOwn.never rfl (pi_enum (by rfl) T.b_enumerate (pa_cons (pv 3) pa_nil)) (k_gtup K rfl (by rfl) (pgs_cons (pg_name (i := 6) sc_law.nd rfl (Or.inl rfl)) (pgs_cons (pg_name (i := 7) sc_law.nd rfl (Or.inl rfl)) pgs_nil)))
          (pss_cut (ps_if (PW.pt (pw_and (pt_cmpR op_isN (pv 4) pe_non (nomark _)) (pw_and1 (PW.pt (pw_or (pt_not (pt_val (pe_callB (k_isi K rfl) (by rfl) T.b_isinstance (by decide +kernel) (pa_cons (pv 7) (pa_cons (pe_glob (v := .ref A.C_Library) (by rfl) T.g_Library rfl) pa_nil))))) (pw_or (pt_cmpR (k_in K rfl) (k_fld K rfl (pv 7)) (pv 5) (by rfl)) (pw_or1 (pt_cmpR op_gt (pv 6) pe_int (nomark _)))))))))
          (pss_one (ps_set (i := 4) sc_law.nd rfl (Or.inl rfl) (pv 6)))
          pss_nil)
        (pss_one (ps_expr (pe_bm PySem.F.plainAttrs_list PySem.F.slot_list_append PySem.F.type_list_append mt_append (pv 5) (pa_cons (pe_ifExp (pt_val (pe_callB (k_isi K rfl) (by rfl) T.b_isinstance (by decide +kernel) (pa_cons (pv 7) (pa_cons (pe_glob (v := .ref A.C_Library) (by rfl) T.g_Library rfl) pa_nil)))) (k_fld K rfl (pv 7)) pe_str) pa_nil))))))
        (pss_cons (ps_set (i := 8) sc_law.nd rfl (Or.inl rfl) (pe_callTy (k_list K rfl) (by rfl) T.b_list (by decide +kernel) (pa_cons (pv 3) pa_nil)))
        (pss_cut (ps_set (i := 9) sc_law.nd rfl (Or.inl rfl) (pe_call (ok__law_said T) (hr.mono (by decide)) (by rfl) T.g__law_said T.k__law_said T.bi__law_said .nil pass0 (pa_cons (pv 3) pa_nil)))
        (pss_cut (ps_if (pt_cmpR op_notN (pv 4) pe_non (nomark _))
          (pss_one (ps_if (pt_cmpR (k_neD K rfl hr.units) (pv 9) (pe_tupM (pa_cons pe_str (pa_cons (pv 4) pa_nil))) (nomark _))
          (pss_one (ps_ret pe_bl))
          pss_nil))
          (pss_cons (ps_expr (pe_bm0 PySem.F.plainAttrs_list PySem.F.slot_list_clear PySem.F.type_list_clear mt_clear (pv 3)))
        (pss_cons (ps_if (PW.pt (pw_or (pt_not (pt_val (pe_callB (k_isi K rfl) (by rfl) T.b_isinstance (by decide +kernel) (pa_cons (pv 9) (pa_cons (pe_glob (v := .ref A.C_Store) (by rfl) T.g_Store rfl) pa_nil))))) (pw_or (pt_cmpR op_ne (pe_callB (call_lenO T.du_Store_len (ok_Store___len__ T) (hr.mono (by decide)) T.bi_Store___len__ pass0) (by rfl) T.b_len PySem.boot_len (pa_cons (pv 9) pa_nil)) (pe_callB (k_len K rfl) (by rfl) T.b_len PySem.boot_len (pa_cons (pv 8) pa_nil)) (nomark _)) (pw_or1 (pt_cmpR (k_neD K rfl hr.units) (pe_call (ok_names T) (hr.mono (by decide)) (by rfl) T.g_names T.k_names T.bi_names .nil pass0 (pa_cons (pv 9) pa_nil)) (pe_callB (k_sortedS K rfl) (by rfl) T.b_sorted (by decide +kernel) (pa_cons (pv 5) pa_nil)) (nomark _))))))
          (pss_one (ps_ret pe_bl))
          pss_nil)
        (pss_cons (ps_expr (pe_bm0 PySem.F.plainAttrs_list PySem.F.slot_list_clear PySem.F.type_list_clear mt_clear (pe_call (ok_names T) (hr.mono (by decide)) (by rfl) T.g_names T.k_names T.bi_names .nil pass0 (pa_cons (pv 9) pa_nil))))
        (pss_cons (ps_for PassesOwn.never rfl (pi_enum (by rfl) T.b_enumerate (pa_cons (pv 5) pa_nil)) (k_gtup K rfl (by rfl) (pgs_cons (pg_name (i := 10) sc_law.nd rfl (Or.inl rfl)) (pgs_cons (pg_name (i := 11) sc_law.nd rfl (Or.inl rfl)) pgs_nil)))
          (pss_one (ps_if (PW.pt (pw_or (pt_cmpR (k_neO K rfl T.ne_Library T.du_Library_eq (ok_Library___eq__ T) (hr.mono (by decide)) T.bi_Library___eq__ pass0) (pe_subO T.du_Store_getitem T.fi_Store_getitem (ok_Store___getitem__ T) (hr.mono (by decide)) T.bi_Store___getitem__ passL (pv 9) (pv 11)) (pe_ix (k_ixL K rfl) (pv 8) (pv 10) (fun _ _ => rfl)) (nomark _)) (pw_or1 (pt_cmpR op_ne (pe_cmpR (op_inO T.du_Store_contains (ok_Store___contains__ T) (hr.mono (by decide)) T.bi_Store___contains__ pass0) (pv 11) (pv 9) (by rfl)) (pe_cmpR op_eq pe_int pe_int (nomark _)) (nomark _)))))
          (pss_one (ps_ret pe_bl))
          pss_nil)))
        (pss_one (ps_for PassesOwn.never rfl (k_pil K rfl (pe_lstM (pa_cons pe_non (pa_cons pe_str (pa_cons pe_str (pa_cons pe_int (pa_cons (pe_lstM pa_nil) (pa_cons pe_dnewK (pa_cons (pe_tupM (pa_cons pe_str pa_nil)) (pa_cons (pe_cmpR op_eq pe_int pe_int (nomark _)) pa_nil)))))))))) (pg_name (i := 12) sc_law.nd rfl (Or.inl rfl))
          (pss_one (ps_if (PW.pt (pw_or (pt_cmpR (op_inO T.du_Store_contains (ok_Store___contains__ T) (hr.mono (by decide)) T.bi_Store___contains__ pass0) (pv 12) (pv 9) (by rfl)) (pw_or1 (pt_cmpR (k_neS K rfl hu) (pe_call (ok__law_fetched T) (hr.mono (by decide)) (by rfl) T.g__law_fetched T.k__law_fetched T.bi__law_fetched .nil pass0 (pa_cons (pv 9) (pa_cons (pv 12) pa_nil))) (pe_tupM (pa_cons pe_str (pa_cons (pv 12) pa_nil))) (nomark _)))))
          (pss_one (ps_ret pe_bl))
          pss_nil)))))))))
        (pss_one (ps_for PassesOwn.never rfl (k_pil K rfl (pe_lstM (pa_cons pe_non (pa_cons pe_str (pa_cons (pe_tupM pa_nil) (pa_cons pe_dnewK (pa_cons pe_int pa_nil))))))) (pg_name (i := 12) sc_law.nd rfl (Or.inl rfl))
          (pss_one (ps_if (pt_cmpR (k_neD K rfl hr.units) (pe_call (ok__law_said T) (hr.mono (by decide)) (by rfl) T.g__law_said T.k__law_said T.bi__law_said .nil pass0 (pa_cons (pv 12) pa_nil)) (pe_tupM (pa_cons pe_str (pa_cons pe_non pa_nil))) (nomark _))
          (pss_one (ps_ret pe_bl))
          pss_nil)))))))))))))
        (pss_one (ps_ret pe_bl))), ?_⟩
    obtain ⟨a, ns, rfl, hS, hlen, k⟩ := h
    walk_at "rd"
    refine r_slL hS fun l0 H1 n1 e1 h1 => ?_
    walk_at "rd"
    refine ⟨by simp, fun l1 H2 n2 e2 h2 => ?_⟩
    obtain ⟨ms, hms, lms⟩ := cutV_int ns none (some 10)
    rw [hms] at h1
    refine r_catM (e2 _ _ h1) h2 (by simp; omega) fun l H3 n3 e3 h3 => ?_
    refine ⟨l, rfl, ⟨_, SqL.of h3⟩, ?_⟩
    have hall : ∀ v ∈ ms.map V.int ++ [.int 0, .int 1], ∃ c : Int, v = .int c := fun v hv => by
      rcases List.mem_append.mp hv with hv | hv
      · obtain ⟨c, _, rfl⟩ := List.mem_map.mp hv; exact ⟨c, rfl⟩
      · simp only [List.mem_cons, List.not_mem_nil, or_false] at hv
        rcases hv with rfl | rfl <;> exact ⟨_, rfl⟩
    generalize hxs : ms.map V.int ++ [.int 0, .int 1] = cs at h3 hall
    refine for_it (walk_list (K := K) (a := l) (xs := cs)) (fun _ σ' H' => H' l = some (.lst cs) ∧ ∃ o1 o2 o3 o4 o5 o6 o7 o8 o9 o10 o11 o12 : Option V, σ' = [some (.ref a), o1, o2, o3, o4, o5, o6, o7, o8, o9, o10, o11, o12])
      ⟨h3, _, _, _, _, _, _, _, _, _, _, _, _, rfl⟩ (fun i σ' H' _ q => SqL.of q.1) ?_ fun σ' H' q => ?_
    rotate_left
    · obtain ⟨_, o1, o2, o3, o4, o5, o6, o7, o8, o9, o10, o11, o12, rfl⟩ := q
      walk_at "rd"
      exact k _
    rintro i x σ' H0 H0' hi ⟨hl, o1, o2, o3, o4, o5, o6, o7, o8, o9, o10, o11, o12, rfl⟩ ⟨rfl, hx⟩
    obtain ⟨c, rfl⟩ := hall x (List.mem_of_getElem? hx)
    clear hxs h3 e3 n3 h2 n2 e2 h1 n1 e1 hms lms
    -- well, the items
    walk_at "rd"
    refine ⟨c, rfl, fun p H1 np e1 w1 => ?_⟩
    have nlp : l ≠ p := ne_of_none hl np
    walk_at "rd"
    refine ⟨p, 0, rfl, by decide, w1, fun s xs os G H2 ns1 sp s12 g1 g2 g3 hs lx it w2 => ?_⟩
    have ls : l ≠ s := fun q => by rw [← q, e1 _ _ hl] at ns1; cases ns1
    have hl2 : H2 l = some (.lst cs) := s12 _ _ nlp (e1 _ _ hl)
    -- the frozen part
    have gG : Ex G (fr [p, s] H2) := fr_up g1 fun q hq => by
      simp only [List.mem_cons, List.not_mem_nil, or_false] at hq
      rcases hq with rfl | rfl
      · exact g3
      · exact g2
    replace it := it.up gG
    have fl : fr [p, s] H2 l = some (.lst cs) := fr_at hl2 (by simp [nlp, ls])
    have fe : Ex (fr [p, s] H2) H2 := fr_ex
    have fs : fr [p, s] H2 s = none := fr_no (by simp)
    clear g1 g2 g3 gG
    generalize fr [p, s] H2 = F at it fl fe fs
    clear w2
    walk_at "rd"
    refine ⟨by simp, fun wl H3 nw3 e3 hw3 => ?_⟩
    have hs3 := e3 _ _ hs
    have sw : s ≠ wl := fun q => by rw [← q, hs] at nw3; cases nw3
    have Fw : F wl = none := ex_none fe nw3
    walk_at "rd"
    refine ⟨s, xs, rfl, SqL.of hs3, ?_⟩
    refine for_it (walk_enum (K := K) (a := s) (xs := xs)) (fun i σ' H' => H' s = some (.lst xs) ∧ H' wl = some (.lst (wds (os.take i))) ∧ Ex F H' ∧ ∃ (due : V) (o6 o7 : Option V), DueAt os i due ∧ σ' = [some (.ref a), some (.int c), some (.ref p), some (.ref s), some due, some (.ref wl), o6, o7, o8, o9, o10, o11, o12])
      ⟨hs3, hw3, fe.trans e3, .non, _, _, ⟨[], rfl, rfl, List.nodup_nil, by decide, rfl⟩, rfl⟩ (fun i σ' H' _ q => SqL.of q.1) ?_ fun σ' H' q => ?_
    · rintro i x σ' H4 H4' hi ⟨hs4, hw4, ex4, due, o6, o7, da, rfl⟩ ⟨tt, y1, y2, rfl, ht, rfl, q1, q2⟩
      cases q1
      have e45 : Ex H4 (upd H4 tt (.tup [.int (i : Nat), y2])) := Ex.new ht
      have htt : SqT K (upd H4 tt (.tup [.int (i : Nat), y2])) tt [.int (i : Nat), y2] := st_of upd_same
      replace hs4 := e45 _ _ hs4
      replace hw4 := e45 _ _ hw4
      replace ex4 := ex4.trans e45
      generalize upd H4 tt (.tup [.int (i : Nat), y2]) = H5 at *
      refine r_gtupE htt rfl ?_
      walk_at "rd"
      have hos : i < os.length := by rw [it.1]; exact hi
      have io := it.2 i y2 os[i] q2 (by simp [hos])
      have dr : os.drop i = os[i] :: os.drop (i + 1) := List.drop_eq_getElem_cons hos
      have tk1 : os.take (i + 1) = os.take i ++ [os[i]] := by rw [List.take_succ_eq_append_getElem hos]
      refine r_cut (fun σ' H' => H' = H5 ∧ ∃ due', DueAt os (i + 1) due' ∧ σ' = [some (.ref a), some (.int c), some (.ref p), some (.ref s), some due', some (.ref wl), some (.int i), some y2, o8, o9, o10, o11, o12]) ?_ ?_
      · walk_at "rd"
        refine ⟨rfl, ?_⟩
        cases due with
        | int j =>
          obtain ⟨kk, rfl, hk⟩ := da
          rw [decide_eq_false (show ¬ V.int (kk : Int) = V.non from fun z => by cases z)]
          walk_at "rd"
          exact ⟨rfl, .int (kk : Nat), ⟨kk, rfl, hk⟩, rfl⟩
        | non =>
          obtain ⟨ns, d1, d2, d3, d4, d5⟩ := da
          rw [decide_eq_true rfl]
          walk_at "rd"
          rw [dr] at d5
          cases ho : os[i] with
          | none =>
            rw [ho] at io d5
            obtain ⟨t, ty, kt⟩ := io
            refine r_isi (.own _) (tyX_up ex4 ty) kt ?_
            walk_at "rd"
            exact ⟨rfl, .int (i : Nat), ⟨i, rfl, d5⟩, rfl⟩
          | some nm =>
            rw [ho] at io d5
            obtain ⟨⟨a', dx', ys, ds, rfl, ha, ly, dp, sh⟩, nok⟩ := io
            match ys, ly with
            | [z1, z2, z3, z4, z5, z6], _ =>
            refine r_isi (b := true) (.own _) (T.ty_Library (ex4 _ _ ha)) (by unfold PySem.W.kitOne; rw [if_pos (by simp)]) ?_
            walk_at "rd"
            refine r_fldE (ex4 _ _ ha) T.cl_Library T.na_Library_name 0 (by decide +kernel) rfl ?_
            walk_at "rd"
            refine r_inL (SqL.of hw4) rfl (wds_flat _) ?_
            rw [d1, wds_some, inV_str]
            walk_at "rd"
            by_cases hn : nm ∈ ns
            · rw [decide_eq_true hn]
              walk_at "rd"
              exact ⟨rfl, .int (i : Nat), ⟨i, rfl, d5.trans (by unfold stBad; rw [if_pos (.inl hn)])⟩, rfl⟩
            · rw [decide_eq_false hn]
              walk_at "rd"
              by_cases h40 : (39 : Int) < (i : Nat)
              · rw [decide_eq_true h40]
                walk_at "rd"
                exact ⟨rfl, .int (i : Nat), ⟨i, rfl, d5.trans (by unfold stBad; rw [if_pos (.inr (by omega))])⟩, rfl⟩
              · rw [decide_eq_false h40]
                walk_at "rd"
                refine ⟨rfl, .non, ⟨ns ++ [nm], ?_, by simp [d2], ?_, by omega, ?_⟩, rfl⟩
                · rw [tk1, d1, ho]; simp
                · exact List.nodup_append.mpr ⟨d3, by simp, fun a ha b hb e => by rw [List.mem_singleton.mp hb] at e; exact hn (e ▸ ha)⟩
                · rw [d5]; show (if nm ∈ ns ∨ 40 ≤ i then some i else stBad (i + 1) (ns ++ [nm]) (os.drop (i + 1))) = _
                  rw [if_neg (fun z => z.elim hn fun z => h40 (by omega))]
        | _ => exact da.elim
      · rintro σ' H' ⟨rfl, due', da', rfl⟩
        walk_at "rd"
        refine ⟨tyL (SqL.of hw4), ?_⟩
        walk_at "rd"
        have app : ∀ {H6 : Hp}, H6 wl = some (.lst (wds (os.take i) ++ [V.str (os[i].getD "")])) → Sm wl H' H6 → H6 s = some (.lst xs) ∧ H6 wl = some (.lst (wds (os.take (i + 1)))) ∧ Ex F H6 := fun h6 s6 =>
          ⟨s6 _ _ sw hs4, by rw [h6, tk1]; unfold wds; rw [List.map_append]; rfl, Ex.sm ex4 Fw s6⟩
        cases ho : os[i] with
        | none =>
          rw [ho] at io app
          obtain ⟨t, ty, kt⟩ := io
          refine r_isi (.own _) (tyX_up ex4 ty) kt ?_
          walk_at "rd"
          refine r_app hw4 (by unfold wds; rw [List.length_map, List.length_take]; omega) fun H6 h6 s6 => ?_
          obtain ⟨p1, p2, p3⟩ := app h6 s6
          exact ⟨p1, p2, p3, due', _, _, da', rfl⟩
        | some nm =>
          rw [ho] at io app
          obtain ⟨⟨a', dx', ys, ds, rfl, ha, ly, dp, sh⟩, nok⟩ := io
          match ys, ly with
          | [z1, z2, z3, z4, z5, z6], _ =>
          refine r_isi (b := true) (.own _) (T.ty_Library (ex4 _ _ ha)) (by unfold PySem.W.kitOne; rw [if_pos (by simp)]) ?_
          walk_at "rd"
          refine r_fldE (ex4 _ _ ha) T.cl_Library T.na_Library_name 0 (by decide +kernel) rfl ?_
          walk_at "rd"
          refine r_app hw4 (by unfold wds; rw [List.length_map, List.length_take]; omega) fun H6 h6 s6 => ?_
          obtain ⟨p1, p2, p3⟩ := app h6 s6
          exact ⟨p1, p2, p3, due', _, _, da', rfl⟩
    obtain ⟨hs4, hw4, ex4, due, o6, o7, da, rfl⟩ := q
    rw [List.take_of_length_le (by rw [it.1]; exact Nat.le_refl _)] at hw4
    -- kept, store
    walk_at "rd"
    refine r_listL (SqL.of hs4) fun kl H4 nk4 e4 hk4 => ?_
    walk_at "rd"
    have ex44 := ex4.trans e4
    have hs44 := e4 _ _ hs4
    refine r_cut (fun σ' H' => ∃ r o6 o7 : V, Ex H4 H' ∧ (∃ q6 q7, σ' = [some (.ref a), some (.int c), some (.ref p), some (.ref s), some due, some (.ref wl), q6, q7, some (.ref kl), some r, o10, o11, o12]) ∧
      ((∃ ra ns, r = .ref ra ∧ H4 ra = none ∧ os = ns.map some ∧ stBad 0 [] os = none ∧ StoreAt A (nw H4 H') ra ns xs) ∨ (∃ (ra : Addr) (j : Nat), r = .ref ra ∧ stBad 0 [] os = some j ∧ H' ra = some (.tup [.str "index", .int j])))) ?_ ?_
    · walk_at "rd"
      refine ⟨.ref s, rfl, .inr ⟨s, xs, os, rfl, SqL.of hs44, by omega, (it.up ex44).items, fun ns r H5 oe sb nr5 e5 st => ?_, fun j r H5 sb nr5 e5 hr5 => ?_⟩⟩
      · walk_at "rd"
        exact ⟨.ref r, .non, .non, e5, ⟨_, _, rfl⟩, .inl ⟨r, ns, rfl, nr5, oe, sb, st⟩⟩
      · walk_at "rd"
        exact ⟨.ref r, .non, .non, e5, ⟨_, _, rfl⟩, .inr ⟨r, j, rfl, sb, hr5⟩⟩
    rintro σ' H5 ⟨rv, _, _, e5, ⟨q6, q7, rfl⟩, hh⟩
    refine r_cut (fun σ' H' => Ex F H' ∧ ∃ o4 o5 o6 o7 o8 o9 o10 o11 o12 : Option V, σ' = [some (.ref a), some (.int c), some (.ref p), some (.ref s), o4, o5, o6, o7, o8, o9, o10, o11, o12]) ?_ ?_
    · rcases hh with ⟨r, ns, rfl, nr5, oe, sb, st⟩ | ⟨r, j, rfl, sb, hr5⟩
      · -- a store
        have hd : due = .non := by
          cases due with
          | non => rfl
          | int j => obtain ⟨kk, rfl, hk⟩ := da; rw [hk] at sb; cases sb
          | _ => exact da.elim
        subst hd
        walk_at "rd"
        refine ⟨rfl, ?_⟩
        refine r_bl ?_
        refine r_iteF rfl ?_
        have Fs : F s = none := fs
        have hs5 := e5 _ _ hs44
        walk_at "rd"
        refine ⟨tyL (SqL.of hs5), ?_⟩
        refine r_clear (K := K) hs5 fun H6 h6 s6 => ?_
        have st6 : StoreAt A H6 r ns xs := by
          obtain ⟨dx, d, a1, a2, a3⟩ := st
          have ns' : nw H4 H5 s = none := nw_no (by rw [hs44]; exact fun z => nomatch z)
          exact ⟨dx, d, (Ex.sm nw_ex ns' s6) _ _ a1, (Ex.sm nw_ex ns' s6) _ _ a2, a3⟩
        have ex6 : Ex F H6 := Ex.sm (ex44.trans e5) Fs s6
        have hw6 : H6 wl = some (.lst (wds os)) := s6 _ _ sw.symm (e5 _ _ (e4 _ _ hw4))
        have sk : s ≠ kl := fun q => by rw [← q, hs4] at nk4; cases nk4
        have hk6 : H6 kl = some (.lst xs) := s6 _ _ sk.symm (e5 _ _ hk4)
        have hwd : wds os = ns.map V.str := by rw [oe, wds_some]
        rw [hwd] at hw6
        obtain ⟨sdx, sd, sa1, sa2, sa3, sa4, sa5⟩ := id st6
        walk_at "rd"
        refine r_isi (b := true) (.own _) (T.ty_Store sa1) (by unfold PySem.W.kitOne; rw [if_pos (by simp)]) ?_
        walk_at "rd"
        refine ⟨r, sdx, _, rfl, sa1, r, ns, xs, rfl, st6, (ns.length : Int), rfl, by omega, by omega, ?_⟩
        walk_at "rd"
        refine r_lenL (SqL.of hk6) ?_
        refine r_ne rfl ?_
        rw [decide_eq_true (show V.int (ns.length : Nat) = V.int (xs.length : Nat) by rw [sa3])]
        walk_at "rd"
        refine ⟨r, ns, xs, rfl, st6, fun ys l7 H7 pm so nl7 e7 hl7 => ?_⟩
        walk_at "rd"
        refine r_sortS (SqL.of (e7 _ _ hw6)) (by omega) fun zs l8 H8 pm8 so8 nl8 e8 hl8 => ?_
        have hyz : ys = zs := sorted_uniq (pm.trans pm8.symm) so so8
        subst hyz
        have wok : ∀ w ∈ ys, PyData.strOk w = true := fun w hw => by
          have hm := pm.mem_iff.mp hw
          obtain ⟨j, hj⟩ := List.getElem?_of_mem hm
          have hjl : j < xs.length := by have := (List.getElem?_eq_some_iff.mp hj).1; omega
          have hoj : os[j]? = some (some w) := by rw [oe, List.getElem?_map, hj]; rfl
          have itj := it.2 j xs[j] (some w) (by simp) hoj
          exact strOk_word itj.2.1
        have shp : SeqAt.shaped (.list (ys.map .str)) = true := (nice_list (n := 1) (nice_strs wok)).shaped (by decide)
        refine r_neD (.lst (SqL.of (e8 _ _ hl7)) (dpAll_strs ys)) (.lst (SqL.of hl8) (dpAll_strs ys)) shp shp ?_
        rw [eqv_same shp]
        walk_at "rd"
        have e68 := e7.trans e8
        refine ⟨r, ns, xs, rfl, st6.up e68, fun ys2 l9 H9 pm9 so9 nl9 e9 hl9 => ?_⟩
        refine ⟨tyL (SqL.of hl9), ?_⟩
        refine r_clear (K := K) hl9 fun H10 h10 s10 => ?_
        have n9 : l9 ≠ wl ∧ l9 ≠ kl ∧ F l9 = none := by
          refine ⟨fun q => ?_, fun q => ?_, ex_none (ex6.trans e68) nl9⟩
          · rw [q, e68 _ _ hw6] at nl9; cases nl9
          · rw [q, e68 _ _ hk6] at nl9; cases nl9
        have ex10 : Ex F H10 := Ex.sm ((ex6.trans e68).trans e9) n9.2.2 s10
        have st10 : StoreAt A H10 r ns xs := by
          obtain ⟨dx, d, a1, a2, a3⟩ := st6.up e68
          exact ⟨dx, d, s10 _ _ (fun q => by rw [← q, a1] at nl9; cases nl9) (e9 _ _ a1), s10 _ _ (fun q => by rw [← q, a2] at nl9; cases nl9) (e9 _ _ a2), a3⟩
        have hw10 : H10 wl = some (.lst (ns.map V.str)) := s10 _ _ n9.1.symm (e9 _ _ (e68 _ _ hw6))
        have hk10 : H10 kl = some (.lst xs) := s10 _ _ n9.2.1.symm (e9 _ _ (e68 _ _ hk6))
        clear st6 h6 hl9 h10 s10 n9 hl8 hl7
        walk_at "rd"
        refine ⟨wl, _, rfl, SqL.of hw10, ?_⟩
        refine for_it (walk_enum (K := K) (a := wl) (xs := ns.map V.str)) (fun i σ' H' => Ex H10 H' ∧ ∃ o6 o7 o10 o11 o12 : Option V, σ' = [some (.ref a), some (.int c), some (.ref p), some (.ref s), some .non, some (.ref wl), o6, o7, some (.ref kl), some (.ref r), o10, o11, o12])
          ⟨Ex.refl _, _, _, _, _, _, rfl⟩ (fun i σ' H' _ q => SqL.of (q.1 _ _ hw10)) ?_ fun σ' H' q => ?_
        · rintro i x σ' H' H'' hi ⟨ex, o6, o7, o10, o11, o12, rfl⟩ ⟨tt, y1, y2, rfl, ht, rfl, q1, q2⟩
          cases q1
          have e45 : Ex H' (upd H' tt (.tup [.int (i : Nat), y2])) := Ex.new ht
          have htt : SqT K (upd H' tt (.tup [.int (i : Nat), y2])) tt [.int (i : Nat), y2] := st_of upd_same
          replace ex := ex.trans e45
          generalize upd H' tt (.tup [.int (i : Nat), y2]) = H11 at *
          obtain ⟨w, hw, rfl⟩ : ∃ w, ns[i]? = some w ∧ y2 = .str w := by
            replace q2 : (ns.map V.str)[i]? = some y2 := q2
            rw [List.getElem?_map] at q2
            cases e : ns[i]? with
            | none => rw [e] at q2; cases q2
            | some w => rw [e] at q2; exact ⟨w, rfl, (Option.some.inj q2).symm⟩
          have hil : i < xs.length := by have := (List.getElem?_eq_some_iff.mp hw).1; omega
          have hxi : xs[i]? = some xs[i] := by simp
          have hoi : os[i]? = some (some w) := by rw [oe, List.getElem?_map, hw]; rfl
          obtain ⟨⟨a', dx', ys', ds, fe', fh, fl', dp, sh⟩, nok⟩ := it.2 i xs[i] (some w) hxi hoi
          have wl12 := isWord_len nok.1
          have st11 := st10.up ex
          obtain ⟨sdx', sd', sa1', _⟩ := id st11
          refine r_gtupE htt rfl ?_
          walk_at "rd"
          refine ⟨r, sdx', _, rfl, sa1', r, .str w, ns, xs, rfl, st11, .inl ⟨_, rfl, by omega⟩, fun i' z y hz zw h1 h2 H12 e12 => ?_, fun no => ?_⟩
          · cases hz
            have hii : i' = i := L2.nodup_ix sa4 h1 hw
            subst hii
            rw [hxi] at h2
            cases h2
            walk_at "rd"
            have ex12 := ex.trans e12
            refine r_ixL (SqL.of (ex12 _ _ hk10)) (atI_nat hxi) ?_
            rw [fe']
            have fh12 := (ex10.trans ex12) _ _ fh
            refine r_neO fh12 (T.ty_Library fh12) (by unfold PySem.W.notFirst; simp) ?_
            have dp12 := DpAll.up (ex10.trans ex12) dp
            refine ⟨a', dx', _, .ref a', rfl, by simp [fl'], fh12, .inl ⟨a', dx', _, ds, ds, rfl, by simp [fl'], fh12, dp12, dp12, sh, sh, fun H13 e13 => ?_⟩⟩
            rw [eqv_same sh]
            refine ⟨true, rfl, ?_⟩
            walk_at "rd"
            have st13 := st11.up (e12.trans e13)
            obtain ⟨sdx3, sd3, sa13, _⟩ := id st13
            refine ⟨r, sdx3, _, rfl, sa13, r, .str w, ns, xs, rfl, st13, .inl ⟨_, rfl, by omega⟩, fun H14 e14 => ?_⟩
            have ins : inStore ns (.str w) = true := by
              show (isWord w && decide (w ∈ ns)) = true
              rw [nok.1, decide_eq_true (List.mem_of_getElem? hw)]; rfl
            rw [ins]
            refine ⟨true, rfl, ?_⟩
            walk_at "rd"
            refine r_eq rfl ?_
            refine r_ne rfl ?_
            walk_at "rd"
            exact ⟨ex12.trans (e13.trans e14), _, _, _, _, _, rfl⟩
          · have ins : inStore ns (.str w) = true := by
              show (isWord w && decide (w ∈ ns)) = true
              rw [nok.1, decide_eq_true (List.mem_of_getElem? hw)]; rfl
            rw [ins] at no; cases no
        obtain ⟨ex, o6, o7, o10, o11, o12, rfl⟩ := q
        have ex7 := ex10.trans ex
        have st7 := st10.up ex
        clear ex10 st10 ex
        walk_at "rd"
        refine ⟨by simp, fun b1 J1 n1 j1 r1 => ?_⟩
        walk_at "rd"
        refine r_dnewK fun b2 J2 n2 j2 r2 => ?_
        walk_at "rd"
        refine ⟨by simp, fun b3 J3 n3 j3 r3 => ?_⟩
        walk_at "rd"
        refine r_eq rfl ?_
        walk_at "rd"
        refine ⟨by simp, fun b4 J4 n4 j4 r4 => ?_⟩
        refine ⟨b4, rfl, ⟨_, SqL.of r4⟩, ?_⟩
        have j14 := j1.trans (j2.trans (j3.trans j4))
        have t1 := (j2.trans (j3.trans j4)) _ _ r1
        have t2 := (j3.trans j4) _ _ r2
        have t3 := j4 _ _ r3
        have st8 := st7.up j14
        have ex8 := ex7.trans j14
        refine for_it (walk_list (K := K) (a := b4)) (fun i σ' H' => Ex J4 H' ∧ ∃ o6 o7 o10 o11 o12 : Option V, σ' = [some (.ref a), some (.int c), some (.ref p), some (.ref s), some .non, some (.ref wl), o6, o7, some (.ref kl), some (.ref r), o10, o11, o12])
          ⟨Ex.refl _, _, _, _, _, _, rfl⟩ (fun i σ' H' _ q => SqL.of (q.1 _ _ r4)) ?_ fun σ' H' q => ?_
        · rintro i x σ' H' H'' hi ⟨ex, o6, o7, o10, o11, o12, rfl⟩ ⟨rfl, hx⟩
          have hm := List.mem_of_getElem? hx
          have nolib : ∀ w ∈ ns, w ≠ "nolib" := fun w hw => by
            obtain ⟨j, hj⟩ := List.getElem?_of_mem hw
            have hjl : j < xs.length := by have := (List.getElem?_eq_some_iff.mp hj).1; omega
            have hoj : os[j]? = some (some w) := by rw [oe, List.getElem?_map, hj]; rfl
            obtain ⟨_, ch, c1, c2⟩ := (it.2 j xs[j] (some w) (by simp) hoj).2
            intro e
            rw [e] at c1
            have : ("nolib" : Str).cps.toList[1]? = some 111 := by decide +kernel
            rw [this] at c1
            cases c1
            omega
          have facts : WArg K H'' x ∧ inStore ns x = false ∧ Itm x := by
            simp only [List.mem_cons, List.not_mem_nil, or_false] at hm
            rcases hm with rfl | rfl | rfl | rfl | rfl | rfl | rfl | rfl
            · exact ⟨.inr ⟨_, .base .non, kit_ty (by decide +kernel), fun _ z => nomatch z⟩, rfl, .inr rfl⟩
            · refine ⟨.inl ⟨_, rfl, by decide +kernel⟩, ?_, .inr rfl⟩
              show (isWord ("nolib" : Str) && decide (("nolib" : Str) ∈ ns)) = false
              rw [decide_eq_false (fun z => nolib _ z rfl)]; simp
            · refine ⟨.inl ⟨_, rfl, by decide +kernel⟩, ?_, .inr rfl⟩
              show (isWord ("" : Str) && decide (("" : Str) ∈ ns)) = false
              rw [show isWord ("" : Str) = false by decide +kernel]; rfl
            · exact ⟨.inr ⟨_, .base (.int _), kit_ty (by decide +kernel), fun _ z => nomatch z⟩, rfl, .inr rfl⟩
            · exact ⟨.inr ⟨_, .base (.lst (ex _ _ t1)), kit_ty (by decide +kernel), fun _ z => nomatch z⟩, rfl, .inl ⟨_, rfl⟩⟩
            · exact ⟨.inr ⟨_, .base (.dK (ex _ _ t2)), kit_ty (by decide +kernel), fun _ z => nomatch z⟩, rfl, .inl ⟨_, rfl⟩⟩
            · exact ⟨.inr ⟨_, .base (.tup (ex _ _ t3)), kit_ty (by decide +kernel), fun _ z => nomatch z⟩, rfl, .inl ⟨_, rfl⟩⟩
            · exact ⟨.inr ⟨_, .base (.bl _), kit_ty (by decide +kernel), fun _ z => nomatch z⟩, rfl, .inr rfl⟩
          obtain ⟨f1, f2, f3⟩ := facts
          have st9 := st8.up ex
          obtain ⟨sdx9, sd9, sa19, _⟩ := id st9
          walk_at "rd"
          refine ⟨r, sdx9, _, rfl, sa19, r, x, ns, xs, rfl, st9, f1, fun H11 e11 => ?_⟩
          rw [f2]
          refine ⟨false, rfl, ?_⟩
          refine r_bl ?_
          refine r_iteF rfl ?_
          walk_at "rd"
          refine ⟨r, x, ns, xs, rfl, st9.up e11, f1.up e11, f2, fun r5 H12 n12 e12 h12 => ?_⟩
          walk_at "rd"
          refine ⟨by simp, fun r6 H13 n13 e13 h13 => ?_⟩
          refine r_neS (.tup (st_of (e13 _ _ h12)) (st_of h13) (fun y hy => ?_)) ?_
          · simp only [List.mem_cons, List.not_mem_nil, or_false] at hy
            rcases hy with rfl | rfl
            · exact .inr rfl
            · exact f3
          walk_at "rd"
          exact ⟨ex.trans (e11.trans (e12.trans e13)), _, _, _, _, _, rfl⟩
        obtain ⟨ex, o6, o7, o10, o11, o12, rfl⟩ := q
        exact ⟨ex8.trans ex, _, _, _, _, _, _, _, _, _, rfl⟩
      · -- an index
        have hd : due = .int (j : Nat) := by
          cases due with
          | int i => obtain ⟨kk, rfl, hk⟩ := da; rw [hk] at sb; cases sb; rfl
          | non =>
            obtain ⟨ns, d1, d2, d3, d4, d5⟩ := da
            rw [List.drop_of_length_le (by rw [it.1]; exact Nat.le_refl _)] at d5
            rw [d5] at sb
            cases sb
          | _ => exact da.elim
        subst hd
        walk_at "rd"
        refine ⟨rfl, ?_⟩
        refine r_bl ?_
        refine r_iteT (by simp) ?_
        walk_at "rd"
        refine ⟨by simp, fun t H6 n6 e6 h6 => ?_⟩
        have shp : SeqAt.shaped (.tuple [.str "index", .int (j : Nat)]) = true := by
          refine (nice_tup (n := 1) fun d hd => ?_).shaped (by decide)
          simp only [List.mem_cons, List.not_mem_nil, or_false] at hd
          rcases hd with rfl | rfl
          · exact nice_str (by decide +kernel)
          · exact nice_int
        refine r_neD (.tup (st_of (e6 _ _ hr5)) (.cons (.str _) (.cons (.int _) .nil))) (.tup (st_of h6) (.cons (.str _) (.cons (.int _) .nil))) shp shp ?_
        rw [eqv_same shp]
        walk_at "rd"
        exact ⟨(ex44.trans e5).trans e6, _, _, _, _, _, _, _, _, _, rfl⟩
    rintro σ' H6 ⟨ex6, o4, o5, o6, o7, o8, o9, o10, o11, o12, rfl⟩
    walk_at "rd"
    refine ⟨by simp, fun b1 J1 n1 j1 r1 => ?_⟩
    walk_at "rd"
    refine r_dnewK fun b2 J2 n2 j2 r2 => ?_
    walk_at "rd"
    refine ⟨by simp, fun b4 J4 n4 j4 r4 => ?_⟩
    refine ⟨b4, rfl, ⟨_, SqL.of r4⟩, ?_⟩
    have t1 := (j2.trans j4) _ _ r1
    have t2 := j4 _ _ r2
    have ex8 := ex6.trans (j1.trans (j2.trans j4))
    refine for_it (walk_list (K := K) (a := b4)) (fun i σ' H' => Ex J4 H' ∧ ∃ o4 o5 o6 o7 o8 o9 o10 o11 o12 : Option V, σ' = [some (.ref a), some (.int c), some (.ref p), some (.ref s), o4, o5, o6, o7, o8, o9, o10, o11, o12])
      ⟨Ex.refl _, _, _, _, _, _, _, _, _, _, rfl⟩ (fun i σ' H' _ q => SqL.of (q.1 _ _ r4)) ?_ fun σ' H' q => ?_
    · rintro i x σ' H' H'' hi ⟨ex, o4, o5, o6, o7, o8, o9, o10, o11, o12, rfl⟩ ⟨rfl, hx⟩
      have hm := List.mem_of_getElem? hx
      have facts : ∃ t, TyX K H'' x t ∧ PySem.W.kitOne K t (.type "list") = some false := by
        simp only [List.mem_cons, List.not_mem_nil, or_false] at hm
        rcases hm with rfl | rfl | rfl | rfl | rfl
        · exact ⟨_, .base .non, kit_ty (by decide +kernel)⟩
        · exact ⟨_, .base (.str _), kit_ty (by decide +kernel)⟩
        · exact ⟨_, .base (.tup (ex _ _ t1)), kit_ty (by decide +kernel)⟩
        · exact ⟨_, .base (.dK (ex _ _ t2)), kit_ty (by decide +kernel)⟩
        · exact ⟨_, .base (.int _), kit_ty (by decide +kernel)⟩
      obtain ⟨t, ty, kt⟩ := facts
      walk_at "rd"
      refine ⟨x, rfl, .inl ⟨t, ty, kt, fun r H5 nr e5 hr5 => ?_⟩⟩
      walk_at "rd"
      refine ⟨by simp, fun r6 H7 n7 e7 h7 => ?_⟩
      have shp : SeqAt.shaped (.tuple [.str "index", .none]) = true := by
        refine (nice_tup (n := 1) fun d hd => ?_).shaped (by decide)
        simp only [List.mem_cons, List.not_mem_nil, or_false] at hd
        rcases hd with rfl | rfl
        · exact nice_str (by decide +kernel)
        · exact nice_none
      refine r_neD (.tup (st_of (e7 _ _ hr5)) (.cons (.str _) (.cons .non .nil))) (.tup (st_of h7) (.cons (.str _) (.cons .non .nil))) shp shp ?_
      rw [eqv_same shp]
      walk_at "rd"
      exact ⟨ex.trans (e5.trans e7), _, _, _, _, _, _, _, _, _, rfl⟩
    obtain ⟨ex, o4, o5, o6, o7, o8, o9, o10, o11, o12, rfl⟩ := q
    exact ⟨(ex8.trans ex) _ _ fl, _, _, _, _, _, _, _, _, _, _, _, _, rfl⟩
end
theorem all_mk {l : PySem.W.OpenLaw} {w : World} {K : PySem.W.Frag} {h : Heap} {mg : Str → Option Value} {fa : Addr} (X : K.In h) (G : h.Ns mainGlobals mg) (hfa : mg "law" = some (.ref fa))
    {C_LoadError C_NoLibrary C_NoStore C_NoName C_Library C_Store : Addr}
    {f_NoLibrary___init__ f_NoStore___init__ f_NoName___init__ f_is_word f_are_words f_Library___init__ f_Library_row f_Library___eq__ f_Store___init__ f_Store___getitem__ f_Store___iter__ f_Store___contains__ f_Store___len__ f_names f__law_well f__law_draw f__law_one f__law_said f__law_fetched f__law_some f_law : Addr}
    {oc_NoLibrary___init__ dc_NoLibrary___init__ pm_NoLibrary___init__ cd_NoLibrary___init__ ct_NoLibrary___init__ kV_NoLibrary___init__ : Value}
    {od_NoLibrary___init__ an_NoLibrary___init__ : Option Addr}
    {sl_NoLibrary___init__ : Array (Option Value)}
    {oc_NoStore___init__ dc_NoStore___init__ pm_NoStore___init__ cd_NoStore___init__ ct_NoStore___init__ kV_NoStore___init__ : Value}
    {od_NoStore___init__ an_NoStore___init__ : Option Addr}
    {sl_NoStore___init__ : Array (Option Value)}
    {oc_NoName___init__ dc_NoName___init__ pm_NoName___init__ cd_NoName___init__ ct_NoName___init__ kV_NoName___init__ : Value}
    {od_NoName___init__ an_NoName___init__ : Option Addr}
    {sl_NoName___init__ : Array (Option Value)}
    {oc_is_word dc_is_word pm_is_word cd_is_word ct_is_word kV_is_word : Value}
    {od_is_word an_is_word : Option Addr}
    {sl_is_word : Array (Option Value)}
    {oc_are_words dc_are_words pm_are_words cd_are_words ct_are_words kV_are_words : Value}
    {od_are_words an_are_words : Option Addr}
    {sl_are_words : Array (Option Value)}
    {oc_Library___init__ dc_Library___init__ pm_Library___init__ cd_Library___init__ ct_Library___init__ : Value}
    {od_Library___init__ an_Library___init__ : Option Addr}
    {sl_Library___init__ : Array (Option Value)}
    {D_Library___init__ : Addr}
    {oc_Library_row dc_Library_row pm_Library_row cd_Library_row ct_Library_row kV_Library_row : Value}
    {od_Library_row an_Library_row : Option Addr}
    {sl_Library_row : Array (Option Value)}
    {oc_Library___eq__ dc_Library___eq__ pm_Library___eq__ cd_Library___eq__ ct_Library___eq__ kV_Library___eq__ : Value}
    {od_Library___eq__ an_Library___eq__ : Option Addr}
    {sl_Library___eq__ : Array (Option Value)}
    {oc_Store___init__ dc_Store___init__ pm_Store___init__ cd_Store___init__ ct_Store___init__ kV_Store___init__ : Value}
    {od_Store___init__ an_Store___init__ : Option Addr}
    {sl_Store___init__ : Array (Option Value)}
    {oc_Store___getitem__ dc_Store___getitem__ pm_Store___getitem__ cd_Store___getitem__ ct_Store___getitem__ kV_Store___getitem__ : Value}
    {od_Store___getitem__ an_Store___getitem__ : Option Addr}
    {sl_Store___getitem__ : Array (Option Value)}
    {oc_Store___iter__ dc_Store___iter__ pm_Store___iter__ cd_Store___iter__ ct_Store___iter__ kV_Store___iter__ : Value}
    {od_Store___iter__ an_Store___iter__ : Option Addr}
    {sl_Store___iter__ : Array (Option Value)}
    {oc_Store___contains__ dc_Store___contains__ pm_Store___contains__ cd_Store___contains__ ct_Store___contains__ kV_Store___contains__ : Value}
    {od_Store___contains__ an_Store___contains__ : Option Addr}
    {sl_Store___contains__ : Array (Option Value)}
    {oc_Store___len__ dc_Store___len__ pm_Store___len__ cd_Store___len__ ct_Store___len__ kV_Store___len__ : Value}
    {od_Store___len__ an_Store___len__ : Option Addr}
    {sl_Store___len__ : Array (Option Value)}
    {oc_names dc_names pm_names cd_names ct_names kV_names : Value}
    {od_names an_names : Option Addr}
    {sl_names : Array (Option Value)}
    {oc__law_well dc__law_well pm__law_well cd__law_well ct__law_well kV__law_well : Value}
    {od__law_well an__law_well : Option Addr}
    {sl__law_well : Array (Option Value)}
    {oc__law_draw dc__law_draw pm__law_draw cd__law_draw ct__law_draw kV__law_draw : Value}
    {od__law_draw an__law_draw : Option Addr}
    {sl__law_draw : Array (Option Value)}
    {oc__law_one dc__law_one pm__law_one cd__law_one ct__law_one kV__law_one : Value}
    {od__law_one an__law_one : Option Addr}
    {sl__law_one : Array (Option Value)}
    {oc__law_said dc__law_said pm__law_said cd__law_said ct__law_said kV__law_said : Value}
    {od__law_said an__law_said : Option Addr}
    {sl__law_said : Array (Option Value)}
    {oc__law_fetched dc__law_fetched pm__law_fetched cd__law_fetched ct__law_fetched kV__law_fetched : Value}
    {od__law_fetched an__law_fetched : Option Addr}
    {sl__law_fetched : Array (Option Value)}
    {oc__law_some dc__law_some pm__law_some cd__law_some ct__law_some kV__law_some : Value}
    {od__law_some an__law_some : Option Addr}
    {sl__law_some : Array (Option Value)}
    {oc_law dc_law pm_law cd_law ct_law kV_law : Value}
    {od_law an_law : Option Addr}
    {sl_law : Array (Option Value)}
    {e0 : Addr}
    {e1 : Addr}
    {e2 : Addr}
    {e3 : Addr}
    {t_LETTERS : Tok}
    {t_MOST_LIBRARIES : Tok}
    {nm_NoLibrary q_NoLibrary : Str}
    {N_NoLibrary : Addr}
    {bs_NoLibrary bm_NoLibrary sub_NoLibrary : List Value}
    {sn_NoLibrary : List Str}
    {ab_NoLibrary : Bool}
    {co_NoLibrary : Option Bool}
    {dd_NoLibrary : Option Addr}
    {m0_NoLibrary m1_NoLibrary m2_NoLibrary m3_NoLibrary m5_NoLibrary : Option Value}
    {nm_NoStore q_NoStore : Str}
    {N_NoStore : Addr}
    {bs_NoStore bm_NoStore sub_NoStore : List Value}
    {sn_NoStore : List Str}
    {ab_NoStore : Bool}
    {co_NoStore : Option Bool}
    {dd_NoStore : Option Addr}
    {m0_NoStore m1_NoStore m2_NoStore m3_NoStore m5_NoStore : Option Value}
    {nm_NoName q_NoName : Str}
    {N_NoName : Addr}
    {bs_NoName bm_NoName sub_NoName : List Value}
    {sn_NoName : List Str}
    {ab_NoName : Bool}
    {co_NoName : Option Bool}
    {dd_NoName : Option Addr}
    {m0_NoName m1_NoName m2_NoName m3_NoName m5_NoName : Option Value}
    {n_e0 : Nat}
    {so_e0 : Array (Option Value)}
    {do_e0 : Option Addr}
    {n_e1 : Nat}
    {so_e1 : Array (Option Value)}
    {do_e1 : Option Addr}
    {n_e2 : Nat}
    {so_e2 : Array (Option Value)}
    {do_e2 : Option Addr}
    {n_e3 : Nat}
    {so_e3 : Array (Option Value)}
    {do_e3 : Option Addr}
    (g0_LoadError : PySem.W.nsIn K mainGlobals "LoadError" = some (some (.ref C_LoadError)))
    (g0_NoLibrary : PySem.W.nsIn K mainGlobals "NoLibrary" = some (some (.ref C_NoLibrary)))
    (g0_NoStore : PySem.W.nsIn K mainGlobals "NoStore" = some (some (.ref C_NoStore)))
    (g0_NoName : PySem.W.nsIn K mainGlobals "NoName" = some (some (.ref C_NoName)))
    (g0_Library : PySem.W.nsIn K mainGlobals "Library" = some (some (.ref C_Library)))
    (g0_Store : PySem.W.nsIn K mainGlobals "Store" = some (some (.ref C_Store)))
    (at_NoLibrary___init__ : PySem.W.findIn K (.ref C_NoLibrary) "__init__" = some (some (.ref f_NoLibrary___init__)))
    (at_NoStore___init__ : PySem.W.findIn K (.ref C_NoStore) "__init__" = some (some (.ref f_NoStore___init__)))
    (at_NoName___init__ : PySem.W.findIn K (.ref C_NoName) "__init__" = some (some (.ref f_NoName___init__)))
    (g0_is_word : PySem.W.nsIn K mainGlobals "is_word" = some (some (.ref f_is_word)))
    (g0_are_words : PySem.W.nsIn K mainGlobals "are_words" = some (some (.ref f_are_words)))
    (at_Library___init__ : PySem.W.findIn K (.ref C_Library) "__init__" = some (some (.ref f_Library___init__)))
    (at_Library_row : PySem.W.findIn K (.ref C_Library) "row" = some (some (.ref f_Library_row)))
    (at_Library___eq__ : PySem.W.findIn K (.ref C_Library) "__eq__" = some (some (.ref f_Library___eq__)))
    (at_Store___init__ : PySem.W.findIn K (.ref C_Store) "__init__" = some (some (.ref f_Store___init__)))
    (at_Store___getitem__ : PySem.W.findIn K (.ref C_Store) "__getitem__" = some (some (.ref f_Store___getitem__)))
    (at_Store___iter__ : PySem.W.findIn K (.ref C_Store) "__iter__" = some (some (.ref f_Store___iter__)))
    (at_Store___contains__ : PySem.W.findIn K (.ref C_Store) "__contains__" = some (some (.ref f_Store___contains__)))
    (at_Store___len__ : PySem.W.findIn K (.ref C_Store) "__len__" = some (some (.ref f_Store___len__)))
    (g0_names : PySem.W.nsIn K mainGlobals "names" = some (some (.ref f_names)))
    (g0__law_well : PySem.W.nsIn K mainGlobals "_law_well" = some (some (.ref f__law_well)))
    (g0__law_draw : PySem.W.nsIn K mainGlobals "_law_draw" = some (some (.ref f__law_draw)))
    (g0__law_one : PySem.W.nsIn K mainGlobals "_law_one" = some (some (.ref f__law_one)))
    (g0__law_said : PySem.W.nsIn K mainGlobals "_law_said" = some (some (.ref f__law_said)))
    (g0__law_fetched : PySem.W.nsIn K mainGlobals "_law_fetched" = some (some (.ref f__law_fetched)))
    (g0__law_some : PySem.W.nsIn K mainGlobals "_law_some" = some (some (.ref f__law_some)))
    (g0_law : PySem.W.nsIn K mainGlobals "law" = some (some (.ref f_law)))
    (l_NoLibrary___init__ : K.lookup f_NoLibrary___init__ = some ⟨oc_NoLibrary___init__, od_NoLibrary___init__, .func (PySem.W.fnOf "__init__" "NoLibrary.__init__" (defArgs s_NoLibrary___init__) (defBody s_NoLibrary___init__) (defScope s_NoLibrary___init__) .none kV_NoLibrary___init__ dc_NoLibrary___init__ pm_NoLibrary___init__ an_NoLibrary___init__ cd_NoLibrary___init__ ct_NoLibrary___init__), sl_NoLibrary___init__⟩)
    (cd1_NoLibrary___init__ : PySem.W.codeIn K cd_NoLibrary___init__ "NoLibrary.__init__" = true)
    (kp_NoLibrary___init__ : PySem.W.keepIn K (.ref f_NoLibrary___init__) = true)
    (l_NoStore___init__ : K.lookup f_NoStore___init__ = some ⟨oc_NoStore___init__, od_NoStore___init__, .func (PySem.W.fnOf "__init__" "NoStore.__init__" (defArgs s_NoStore___init__) (defBody s_NoStore___init__) (defScope s_NoStore___init__) .none kV_NoStore___init__ dc_NoStore___init__ pm_NoStore___init__ an_NoStore___init__ cd_NoStore___init__ ct_NoStore___init__), sl_NoStore___init__⟩)
    (cd1_NoStore___init__ : PySem.W.codeIn K cd_NoStore___init__ "NoStore.__init__" = true)
    (kp_NoStore___init__ : PySem.W.keepIn K (.ref f_NoStore___init__) = true)
    (l_NoName___init__ : K.lookup f_NoName___init__ = some ⟨oc_NoName___init__, od_NoName___init__, .func (PySem.W.fnOf "__init__" "NoName.__init__" (defArgs s_NoName___init__) (defBody s_NoName___init__) (defScope s_NoName___init__) .none kV_NoName___init__ dc_NoName___init__ pm_NoName___init__ an_NoName___init__ cd_NoName___init__ ct_NoName___init__), sl_NoName___init__⟩)
    (cd1_NoName___init__ : PySem.W.codeIn K cd_NoName___init__ "NoName.__init__" = true)
    (kp_NoName___init__ : PySem.W.keepIn K (.ref f_NoName___init__) = true)
    (l_is_word : K.lookup f_is_word = some ⟨oc_is_word, od_is_word, .func (PySem.W.fnOf "is_word" "is_word" (defArgs s_is_word) (defBody s_is_word) (defScope s_is_word) .none kV_is_word dc_is_word pm_is_word an_is_word cd_is_word ct_is_word), sl_is_word⟩)
    (cd1_is_word : PySem.W.codeIn K cd_is_word "is_word" = true)
    (kp_is_word : PySem.W.keepIn K (.ref f_is_word) = true)
    (l_are_words : K.lookup f_are_words = some ⟨oc_are_words, od_are_words, .func (PySem.W.fnOf "are_words" "are_words" (defArgs s_are_words) (defBody s_are_words) (defScope s_are_words) .none kV_are_words dc_are_words pm_are_words an_are_words cd_are_words ct_are_words), sl_are_words⟩)
    (cd1_are_words : PySem.W.codeIn K cd_are_words "are_words" = true)
    (kp_are_words : PySem.W.keepIn K (.ref f_are_words) = true)
    (l_Library___init__ : K.lookup f_Library___init__ = some ⟨oc_Library___init__, od_Library___init__, .func (PySem.W.fnOf "__init__" "Library.__init__" (defArgs s_Library___init__) (defBody s_Library___init__) (defScope s_Library___init__) .none (.ref D_Library___init__) dc_Library___init__ pm_Library___init__ an_Library___init__ cd_Library___init__ ct_Library___init__), sl_Library___init__⟩)
    (cd1_Library___init__ : PySem.W.codeIn K cd_Library___init__ "Library.__init__" = true)
    (kp_Library___init__ : PySem.W.keepIn K (.ref f_Library___init__) = true)
    (l_Library_row : K.lookup f_Library_row = some ⟨oc_Library_row, od_Library_row, .func (PySem.W.fnOf "row" "Library.row" (defArgs s_Library_row) (defBody s_Library_row) (defScope s_Library_row) .none kV_Library_row dc_Library_row pm_Library_row an_Library_row cd_Library_row ct_Library_row), sl_Library_row⟩)
    (cd1_Library_row : PySem.W.codeIn K cd_Library_row "Library.row" = true)
    (kp_Library_row : PySem.W.keepIn K (.ref f_Library_row) = true)
    (l_Library___eq__ : K.lookup f_Library___eq__ = some ⟨oc_Library___eq__, od_Library___eq__, .func (PySem.W.fnOf "__eq__" "Library.__eq__" (defArgs s_Library___eq__) (defBody s_Library___eq__) (defScope s_Library___eq__) .none kV_Library___eq__ dc_Library___eq__ pm_Library___eq__ an_Library___eq__ cd_Library___eq__ ct_Library___eq__), sl_Library___eq__⟩)
    (cd1_Library___eq__ : PySem.W.codeIn K cd_Library___eq__ "Library.__eq__" = true)
    (kp_Library___eq__ : PySem.W.keepIn K (.ref f_Library___eq__) = true)
    (l_Store___init__ : K.lookup f_Store___init__ = some ⟨oc_Store___init__, od_Store___init__, .func (PySem.W.fnOf "__init__" "Store.__init__" (defArgs s_Store___init__) (defBody s_Store___init__) (defScope s_Store___init__) .none kV_Store___init__ dc_Store___init__ pm_Store___init__ an_Store___init__ cd_Store___init__ ct_Store___init__), sl_Store___init__⟩)
    (cd1_Store___init__ : PySem.W.codeIn K cd_Store___init__ "Store.__init__" = true)
    (kp_Store___init__ : PySem.W.keepIn K (.ref f_Store___init__) = true)
    (l_Store___getitem__ : K.lookup f_Store___getitem__ = some ⟨oc_Store___getitem__, od_Store___getitem__, .func (PySem.W.fnOf "__getitem__" "Store.__getitem__" (defArgs s_Store___getitem__) (defBody s_Store___getitem__) (defScope s_Store___getitem__) .none kV_Store___getitem__ dc_Store___getitem__ pm_Store___getitem__ an_Store___getitem__ cd_Store___getitem__ ct_Store___getitem__), sl_Store___getitem__⟩)
    (cd1_Store___getitem__ : PySem.W.codeIn K cd_Store___getitem__ "Store.__getitem__" = true)
    (kp_Store___getitem__ : PySem.W.keepIn K (.ref f_Store___getitem__) = true)
    (l_Store___iter__ : K.lookup f_Store___iter__ = some ⟨oc_Store___iter__, od_Store___iter__, .func (PySem.W.fnOf "__iter__" "Store.__iter__" (defArgs s_Store___iter__) (defBody s_Store___iter__) (defScope s_Store___iter__) .none kV_Store___iter__ dc_Store___iter__ pm_Store___iter__ an_Store___iter__ cd_Store___iter__ ct_Store___iter__), sl_Store___iter__⟩)
    (cd1_Store___iter__ : PySem.W.codeIn K cd_Store___iter__ "Store.__iter__" = true)
    (kp_Store___iter__ : PySem.W.keepIn K (.ref f_Store___iter__) = true)
    (l_Store___contains__ : K.lookup f_Store___contains__ = some ⟨oc_Store___contains__, od_Store___contains__, .func (PySem.W.fnOf "__contains__" "Store.__contains__" (defArgs s_Store___contains__) (defBody s_Store___contains__) (defScope s_Store___contains__) .none kV_Store___contains__ dc_Store___contains__ pm_Store___contains__ an_Store___contains__ cd_Store___contains__ ct_Store___contains__), sl_Store___contains__⟩)
    (cd1_Store___contains__ : PySem.W.codeIn K cd_Store___contains__ "Store.__contains__" = true)
    (kp_Store___contains__ : PySem.W.keepIn K (.ref f_Store___contains__) = true)
    (l_Store___len__ : K.lookup f_Store___len__ = some ⟨oc_Store___len__, od_Store___len__, .func (PySem.W.fnOf "__len__" "Store.__len__" (defArgs s_Store___len__) (defBody s_Store___len__) (defScope s_Store___len__) .none kV_Store___len__ dc_Store___len__ pm_Store___len__ an_Store___len__ cd_Store___len__ ct_Store___len__), sl_Store___len__⟩)
    (cd1_Store___len__ : PySem.W.codeIn K cd_Store___len__ "Store.__len__" = true)
    (kp_Store___len__ : PySem.W.keepIn K (.ref f_Store___len__) = true)
    (l_names : K.lookup f_names = some ⟨oc_names, od_names, .func (PySem.W.fnOf "names" "names" (defArgs s_names) (defBody s_names) (defScope s_names) .none kV_names dc_names pm_names an_names cd_names ct_names), sl_names⟩)
    (cd1_names : PySem.W.codeIn K cd_names "names" = true)
    (kp_names : PySem.W.keepIn K (.ref f_names) = true)
    (l__law_well : K.lookup f__law_well = some ⟨oc__law_well, od__law_well, .func (PySem.W.fnOf "_law_well" "_law_well" (defArgs s__law_well) (defBody s__law_well) (defScope s__law_well) .none kV__law_well dc__law_well pm__law_well an__law_well cd__law_well ct__law_well), sl__law_well⟩)
    (cd1__law_well : PySem.W.codeIn K cd__law_well "_law_well" = true)
    (kp__law_well : PySem.W.keepIn K (.ref f__law_well) = true)
    (l__law_draw : K.lookup f__law_draw = some ⟨oc__law_draw, od__law_draw, .func (PySem.W.fnOf "_law_draw" "_law_draw" (defArgs s__law_draw) (defBody s__law_draw) (defScope s__law_draw) .none kV__law_draw dc__law_draw pm__law_draw an__law_draw cd__law_draw ct__law_draw), sl__law_draw⟩)
    (cd1__law_draw : PySem.W.codeIn K cd__law_draw "_law_draw" = true)
    (kp__law_draw : PySem.W.keepIn K (.ref f__law_draw) = true)
    (l__law_one : K.lookup f__law_one = some ⟨oc__law_one, od__law_one, .func (PySem.W.fnOf "_law_one" "_law_one" (defArgs s__law_one) (defBody s__law_one) (defScope s__law_one) .none kV__law_one dc__law_one pm__law_one an__law_one cd__law_one ct__law_one), sl__law_one⟩)
    (cd1__law_one : PySem.W.codeIn K cd__law_one "_law_one" = true)
    (kp__law_one : PySem.W.keepIn K (.ref f__law_one) = true)
    (l__law_said : K.lookup f__law_said = some ⟨oc__law_said, od__law_said, .func (PySem.W.fnOf "_law_said" "_law_said" (defArgs s__law_said) (defBody s__law_said) (defScope s__law_said) .none kV__law_said dc__law_said pm__law_said an__law_said cd__law_said ct__law_said), sl__law_said⟩)
    (cd1__law_said : PySem.W.codeIn K cd__law_said "_law_said" = true)
    (kp__law_said : PySem.W.keepIn K (.ref f__law_said) = true)
    (l__law_fetched : K.lookup f__law_fetched = some ⟨oc__law_fetched, od__law_fetched, .func (PySem.W.fnOf "_law_fetched" "_law_fetched" (defArgs s__law_fetched) (defBody s__law_fetched) (defScope s__law_fetched) .none kV__law_fetched dc__law_fetched pm__law_fetched an__law_fetched cd__law_fetched ct__law_fetched), sl__law_fetched⟩)
    (cd1__law_fetched : PySem.W.codeIn K cd__law_fetched "_law_fetched" = true)
    (kp__law_fetched : PySem.W.keepIn K (.ref f__law_fetched) = true)
    (l__law_some : K.lookup f__law_some = some ⟨oc__law_some, od__law_some, .func (PySem.W.fnOf "_law_some" "_law_some" (defArgs s__law_some) (defBody s__law_some) (defScope s__law_some) .none kV__law_some dc__law_some pm__law_some an__law_some cd__law_some ct__law_some), sl__law_some⟩)
    (cd1__law_some : PySem.W.codeIn K cd__law_some "_law_some" = true)
    (kp__law_some : PySem.W.keepIn K (.ref f__law_some) = true)
    (l_law : K.lookup f_law = some ⟨oc_law, od_law, .func (PySem.W.fnOf "law" "law" (defArgs s_law) (defBody s_law) (defScope s_law) .none kV_law dc_law pm_law an_law cd_law ct_law), sl_law⟩)
    (cd1_law : PySem.W.codeIn K cd_law "law" = true)
    (kp_law : PySem.W.keepIn K (.ref f_law) = true)
    (kw_Library___init___0 : PySem.W.nsIn K D_Library___init__ "needs" = some (some (.ref e0)))
    (kw_Library___init___1 : PySem.W.nsIn K D_Library___init__ "defines" = some (some (.ref e1)))
    (kw_Library___init___2 : PySem.W.nsIn K D_Library___init__ "uses" = some (some (.ref e2)))
    (kw_Library___init___3 : PySem.W.nsIn K D_Library___init__ "weak" = some (some (.ref e3)))
    (kw_Library___init___4 : PySem.W.nsIn K D_Library___init__ "eager" = some (some (.bool false)))
    (kw_Library___init___5 : PySem.W.nsIn K D_Library___init__ "own_first" = some (some (.bool false)))
    (z_ValueError : PySem.W.nsIn K mainGlobals "ValueError" = some none)
    (z_all : PySem.W.nsIn K mainGlobals "all" = some none)
    (z_bool : PySem.W.nsIn K mainGlobals "bool" = some none)
    (z_enumerate : PySem.W.nsIn K mainGlobals "enumerate" = some none)
    (z_int : PySem.W.nsIn K mainGlobals "int" = some none)
    (z_isinstance : PySem.W.nsIn K mainGlobals "isinstance" = some none)
    (z_len : PySem.W.nsIn K mainGlobals "len" = some none)
    (z_list : PySem.W.nsIn K mainGlobals "list" = some none)
    (z_range : PySem.W.nsIn K mainGlobals "range" = some none)
    (z_set : PySem.W.nsIn K mainGlobals "set" = some none)
    (z_sorted : PySem.W.nsIn K mainGlobals "sorted" = some none)
    (z_str : PySem.W.nsIn K mainGlobals "str" = some none)
    (z_tuple : PySem.W.nsIn K mainGlobals "tuple" = some none)
    (cv_LETTERS : PySem.W.nsIn K mainGlobals "LETTERS" = some (some (.str "abcdefghijklmnopqrstuvwxyz" t_LETTERS)))
    (cv_MOST_LIBRARIES : PySem.W.nsIn K mainGlobals "MOST_LIBRARIES" = some (some (.int 40 t_MOST_LIBRARIES)))
    (ld_ga : PySem.W.specialIn K (.ref C_LoadError) "__getattribute__" = some (some (.builtin "type.__getattribute__")))
    (ld_rd : PySem.W.readsIn K C_LoadError (.type "type") = true)
    (ld_fc : PySem.W.findCls K (.ref C_LoadError) (.type "type") "__init__" = some (.val (.builtin "ValueError.__init__")))
    (xl_NoLibrary : K.lookup C_NoLibrary = some (excClassObj nm_NoLibrary q_NoLibrary C_NoLibrary N_NoLibrary bs_NoLibrary bm_NoLibrary true sn_NoLibrary sub_NoLibrary ab_NoLibrary co_NoLibrary dd_NoLibrary m0_NoLibrary m1_NoLibrary m2_NoLibrary m3_NoLibrary m5_NoLibrary "ValueError.__new__"))
    (rb_NoLibrary : PySem.HandSPX.refsVE bm_NoLibrary = true)
    (sa_NoLibrary : PySem.W.findIn K (.ref C_NoLibrary) "__setattr__" = some (some (.builtin "object.__setattr__")))
    (eC_NoLibrary : PySem.W.subIn K (.ref C_NoLibrary) (.type "BaseException") = some true)
    (tC_NoLibrary : PySem.W.typeIn K (.ref C_NoLibrary) = some (.type "type"))
    (kC_NoLibrary : PySem.W.keepIn K (.ref C_NoLibrary) = true)
    (ti_NoLibrary : PySem.W.typeIn K (.ref f_NoLibrary___init__) = some (.type "function"))
    (nb_NoLibrary : PySem.W.findIn K (.ref C_NoLibrary) "part" = some none)
    (ga_NoLibrary : PySem.W.findIn K (.ref C_NoLibrary) "__getattribute__" = some (some (.builtin "BaseException.__getattribute__")))
    (gg_NoLibrary : PySem.W.findIn K (.ref C_NoLibrary) "__getattr__" = some none)
    (hd_NoLibrary : PySem.W.hasDictIn K C_NoLibrary = true)
    (te_NoLibrary : PySem.W.subIn K (.ref C_NoLibrary) (.ref C_NoLibrary) = some true)
    (ic_NoLibrary : PySem.W.isClsIn K C_NoLibrary = true)
    (xl_NoStore : K.lookup C_NoStore = some (excClassObj nm_NoStore q_NoStore C_NoStore N_NoStore bs_NoStore bm_NoStore true sn_NoStore sub_NoStore ab_NoStore co_NoStore dd_NoStore m0_NoStore m1_NoStore m2_NoStore m3_NoStore m5_NoStore "ValueError.__new__"))
    (rb_NoStore : PySem.HandSPX.refsVE bm_NoStore = true)
    (sa_NoStore : PySem.W.findIn K (.ref C_NoStore) "__setattr__" = some (some (.builtin "object.__setattr__")))
    (eC_NoStore : PySem.W.subIn K (.ref C_NoStore) (.type "BaseException") = some true)
    (tC_NoStore : PySem.W.typeIn K (.ref C_NoStore) = some (.type "type"))
    (kC_NoStore : PySem.W.keepIn K (.ref C_NoStore) = true)
    (ti_NoStore : PySem.W.typeIn K (.ref f_NoStore___init__) = some (.type "function"))
    (nb_NoStore : PySem.W.findIn K (.ref C_NoStore) "at" = some none)
    (ga_NoStore : PySem.W.findIn K (.ref C_NoStore) "__getattribute__" = some (some (.builtin "BaseException.__getattribute__")))
    (gg_NoStore : PySem.W.findIn K (.ref C_NoStore) "__getattr__" = some none)
    (hd_NoStore : PySem.W.hasDictIn K C_NoStore = true)
    (te_NoStore : PySem.W.subIn K (.ref C_NoStore) (.ref C_NoStore) = some true)
    (ic_NoStore : PySem.W.isClsIn K C_NoStore = true)
    (xl_NoName : K.lookup C_NoName = some (excClassObj nm_NoName q_NoName C_NoName N_NoName bs_NoName bm_NoName true sn_NoName sub_NoName ab_NoName co_NoName dd_NoName m0_NoName m1_NoName m2_NoName m3_NoName m5_NoName "ValueError.__new__"))
    (rb_NoName : PySem.HandSPX.refsVE bm_NoName = true)
    (sa_NoName : PySem.W.findIn K (.ref C_NoName) "__setattr__" = some (some (.builtin "object.__setattr__")))
    (eC_NoName : PySem.W.subIn K (.ref C_NoName) (.type "BaseException") = some true)
    (tC_NoName : PySem.W.typeIn K (.ref C_NoName) = some (.type "type"))
    (kC_NoName : PySem.W.keepIn K (.ref C_NoName) = true)
    (ti_NoName : PySem.W.typeIn K (.ref f_NoName___init__) = some (.type "function"))
    (nb_NoName : PySem.W.findIn K (.ref C_NoName) "name" = some none)
    (ga_NoName : PySem.W.findIn K (.ref C_NoName) "__getattribute__" = some (some (.builtin "BaseException.__getattribute__")))
    (gg_NoName : PySem.W.findIn K (.ref C_NoName) "__getattr__" = some none)
    (hd_NoName : PySem.W.hasDictIn K C_NoName = true)
    (te_NoName : PySem.W.subIn K (.ref C_NoName) (.ref C_NoName) = some true)
    (ic_NoName : PySem.W.isClsIn K C_NoName = true)
    (pg_Library : PySem.W.plainGet K C_Library Str.empty = true)
    (hd_Library : PySem.W.hasDictIn K C_Library = true)
    (po_Library : PySem.W.plainOver K C_Library = true)
    (sa_Library : PySem.W.findIn K (.ref C_Library) "__setattr__" = some (some (.builtin "object.__setattr__")))
    (na_Library_name : PySem.W.findIn K (.ref C_Library) "name" = some none)
    (na_Library_needs : PySem.W.findIn K (.ref C_Library) "needs" = some none)
    (na_Library_defines : PySem.W.findIn K (.ref C_Library) "defines" = some none)
    (na_Library_uses : PySem.W.findIn K (.ref C_Library) "uses" = some none)
    (na_Library_weak : PySem.W.findIn K (.ref C_Library) "weak" = some none)
    (na_Library_eager : PySem.W.findIn K (.ref C_Library) "eager" = some none)
    (na_Library_own_first : PySem.W.findIn K (.ref C_Library) "own_first" = some none)
    (mk_Library : PySem.W.makesIn K C_Library = true)
    (if_Library : PySem.W.isFn K (.ref f_Library___init__) = true)
    (kc_Library : PySem.W.keepIn K (.ref C_Library) = true)
    (pg_Store : PySem.W.plainGet K C_Store Str.empty = true)
    (hd_Store : PySem.W.hasDictIn K C_Store = true)
    (po_Store : PySem.W.plainOver K C_Store = true)
    (sa_Store : PySem.W.findIn K (.ref C_Store) "__setattr__" = some (some (.builtin "object.__setattr__")))
    (na_Store_kept : PySem.W.findIn K (.ref C_Store) "kept" = some none)
    (mk_Store : PySem.W.makesIn K C_Store = true)
    (if_Store : PySem.W.isFn K (.ref f_Store___init__) = true)
    (kc_Store : PySem.W.keepIn K (.ref C_Store) = true)
    (if_Library_row : PySem.W.isFn K (.ref f_Library_row) = true)
    (if_Library___eq__ : PySem.W.isFn K (.ref f_Library___eq__) = true)
    (if_Store___getitem__ : PySem.W.isFn K (.ref f_Store___getitem__) = true)
    (fi_Store___getitem__ : PySem.W.fnIn K f_Store___getitem__ = true)
    (if_Store___iter__ : PySem.W.isFn K (.ref f_Store___iter__) = true)
    (if_Store___contains__ : PySem.W.isFn K (.ref f_Store___contains__) = true)
    (if_Store___len__ : PySem.W.isFn K (.ref f_Store___len__) = true)
    (le_e0 : K.lookup e0 = some ⟨.type "tuple", do_e0, .seq #[] n_e0, so_e0⟩)
    (le_e1 : K.lookup e1 = some ⟨.type "tuple", do_e1, .seq #[] n_e1, so_e1⟩)
    (le_e2 : K.lookup e2 = some ⟨.type "tuple", do_e2, .seq #[] n_e2, so_e2⟩)
    (le_e3 : K.lookup e3 = some ⟨.type "tuple", do_e3, .seq #[] n_e3, so_e3⟩)
    (ty1_Library : PySem.W.findIn K (.ref C_Library) "__class__" = some (some (.builtin "object.__class__")))
    (ty2 : PySem.W.specialIn K (.builtin "object.__class__") "__get__" = some (some (.builtin "getset_descriptor.__get__")))
    (ty3 : PySem.W.takesIn K (.builtin "object.__class__") = some true)
    (ty4_Library : PySem.W.mroIn K C_Library (.type "object") = some true)
    (ty1_Store : PySem.W.findIn K (.ref C_Store) "__class__" = some (some (.builtin "object.__class__")))
    (ty4_Store : PySem.W.mroIn K C_Store (.type "object") = some true)
    (ne_Library : PySem.W.findIn K (.ref C_Library) "__ne__" = some (some (.builtin "object.__ne__")))
    (ic_Library : PySem.W.isClsIn K C_Library = true)
    (tC_Library : PySem.W.typeIn K (.ref C_Library) = some (.type "type"))
    (x_nl_tuple : PySem.W.subIn K (.type "tuple") (.ref C_Library) = some false)
    (x_nl_str : PySem.W.subIn K (.type "str") (.ref C_Library) = some false)
    (x_nl_NoneType : PySem.W.subIn K (.type "NoneType") (.ref C_Library) = some false)
    (x_nl_int : PySem.W.subIn K (.type "int") (.ref C_Library) = some false)
    (x_nl_list : PySem.W.subIn K (.type "list") (.ref C_Library) = some false)
    (x_nl_dict : PySem.W.subIn K (.type "dict") (.ref C_Library) = some false)
    : ∃ fd : FuncData, (∀ (s : Shared) (v : Value), BindsTo s fd ⟨[v], []⟩ [("_law_script", v)]) ∧ ∀ base : Heap, K.In base → base.Ns mainGlobals mg → FnOk l.prog w K mg base CX0 6 fa fd ["_law_script"] (spLaw K) := by
  have e : fa = f_law := by
    have e := hfa.symm.trans (PySem.W.mg_of X G g0_law)
    cases e
    rfl
  rw [e]
  have cl_Library : Cls K C_Library := ⟨pg_Library, hd_Library, po_Library, sa_Library⟩
  have cl_Store : Cls K C_Store := ⟨pg_Store, hd_Store, po_Store, sa_Store⟩
  have FF_NoLibrary___init__ : Fun K "__init__" "NoLibrary.__init__" s_NoLibrary___init__ f_NoLibrary___init__ (PySem.W.fnOf "__init__" "NoLibrary.__init__" (defArgs s_NoLibrary___init__) (defBody s_NoLibrary___init__) (defScope s_NoLibrary___init__) .none kV_NoLibrary___init__ dc_NoLibrary___init__ pm_NoLibrary___init__ an_NoLibrary___init__ cd_NoLibrary___init__ ct_NoLibrary___init__) := fun_mk (st := s_NoLibrary___init__) l_NoLibrary___init__ cd1_NoLibrary___init__ kp_NoLibrary___init__
  have FF_NoStore___init__ : Fun K "__init__" "NoStore.__init__" s_NoStore___init__ f_NoStore___init__ (PySem.W.fnOf "__init__" "NoStore.__init__" (defArgs s_NoStore___init__) (defBody s_NoStore___init__) (defScope s_NoStore___init__) .none kV_NoStore___init__ dc_NoStore___init__ pm_NoStore___init__ an_NoStore___init__ cd_NoStore___init__ ct_NoStore___init__) := fun_mk (st := s_NoStore___init__) l_NoStore___init__ cd1_NoStore___init__ kp_NoStore___init__
  have FF_NoName___init__ : Fun K "__init__" "NoName.__init__" s_NoName___init__ f_NoName___init__ (PySem.W.fnOf "__init__" "NoName.__init__" (defArgs s_NoName___init__) (defBody s_NoName___init__) (defScope s_NoName___init__) .none kV_NoName___init__ dc_NoName___init__ pm_NoName___init__ an_NoName___init__ cd_NoName___init__ ct_NoName___init__) := fun_mk (st := s_NoName___init__) l_NoName___init__ cd1_NoName___init__ kp_NoName___init__
  have FF_is_word : Fun K "is_word" "is_word" s_is_word f_is_word (PySem.W.fnOf "is_word" "is_word" (defArgs s_is_word) (defBody s_is_word) (defScope s_is_word) .none kV_is_word dc_is_word pm_is_word an_is_word cd_is_word ct_is_word) := fun_mk (st := s_is_word) l_is_word cd1_is_word kp_is_word
  have FF_are_words : Fun K "are_words" "are_words" s_are_words f_are_words (PySem.W.fnOf "are_words" "are_words" (defArgs s_are_words) (defBody s_are_words) (defScope s_are_words) .none kV_are_words dc_are_words pm_are_words an_are_words cd_are_words ct_are_words) := fun_mk (st := s_are_words) l_are_words cd1_are_words kp_are_words
  have FF_Library___init__ : FunD K "__init__" "Library.__init__" (defArgs s_Library___init__) (defBody s_Library___init__) (defScope s_Library___init__) [] (kwL (⟨C_LoadError, C_NoLibrary, C_NoStore, C_NoName, C_Library, C_Store, f_NoLibrary___init__, (PySem.W.fnOf "__init__" "NoLibrary.__init__" (defArgs s_NoLibrary___init__) (defBody s_NoLibrary___init__) (defScope s_NoLibrary___init__) .none kV_NoLibrary___init__ dc_NoLibrary___init__ pm_NoLibrary___init__ an_NoLibrary___init__ cd_NoLibrary___init__ ct_NoLibrary___init__), f_NoStore___init__, (PySem.W.fnOf "__init__" "NoStore.__init__" (defArgs s_NoStore___init__) (defBody s_NoStore___init__) (defScope s_NoStore___init__) .none kV_NoStore___init__ dc_NoStore___init__ pm_NoStore___init__ an_NoStore___init__ cd_NoStore___init__ ct_NoStore___init__), f_NoName___init__, (PySem.W.fnOf "__init__" "NoName.__init__" (defArgs s_NoName___init__) (defBody s_NoName___init__) (defScope s_NoName___init__) .none kV_NoName___init__ dc_NoName___init__ pm_NoName___init__ an_NoName___init__ cd_NoName___init__ ct_NoName___init__), f_is_word, (PySem.W.fnOf "is_word" "is_word" (defArgs s_is_word) (defBody s_is_word) (defScope s_is_word) .none kV_is_word dc_is_word pm_is_word an_is_word cd_is_word ct_is_word), f_are_words, (PySem.W.fnOf "are_words" "are_words" (defArgs s_are_words) (defBody s_are_words) (defScope s_are_words) .none kV_are_words dc_are_words pm_are_words an_are_words cd_are_words ct_are_words), f_Library___init__, (PySem.W.fnOf "__init__" "Library.__init__" (defArgs s_Library___init__) (defBody s_Library___init__) (defScope s_Library___init__) .none (.ref D_Library___init__) dc_Library___init__ pm_Library___init__ an_Library___init__ cd_Library___init__ ct_Library___init__), f_Library_row, (PySem.W.fnOf "row" "Library.row" (defArgs s_Library_row) (defBody s_Library_row) (defScope s_Library_row) .none kV_Library_row dc_Library_row pm_Library_row an_Library_row cd_Library_row ct_Library_row), f_Library___eq__, (PySem.W.fnOf "__eq__" "Library.__eq__" (defArgs s_Library___eq__) (defBody s_Library___eq__) (defScope s_Library___eq__) .none kV_Library___eq__ dc_Library___eq__ pm_Library___eq__ an_Library___eq__ cd_Library___eq__ ct_Library___eq__), f_Store___init__, (PySem.W.fnOf "__init__" "Store.__init__" (defArgs s_Store___init__) (defBody s_Store___init__) (defScope s_Store___init__) .none kV_Store___init__ dc_Store___init__ pm_Store___init__ an_Store___init__ cd_Store___init__ ct_Store___init__), f_Store___getitem__, (PySem.W.fnOf "__getitem__" "Store.__getitem__" (defArgs s_Store___getitem__) (defBody s_Store___getitem__) (defScope s_Store___getitem__) .none kV_Store___getitem__ dc_Store___getitem__ pm_Store___getitem__ an_Store___getitem__ cd_Store___getitem__ ct_Store___getitem__), f_Store___iter__, (PySem.W.fnOf "__iter__" "Store.__iter__" (defArgs s_Store___iter__) (defBody s_Store___iter__) (defScope s_Store___iter__) .none kV_Store___iter__ dc_Store___iter__ pm_Store___iter__ an_Store___iter__ cd_Store___iter__ ct_Store___iter__), f_Store___contains__, (PySem.W.fnOf "__contains__" "Store.__contains__" (defArgs s_Store___contains__) (defBody s_Store___contains__) (defScope s_Store___contains__) .none kV_Store___contains__ dc_Store___contains__ pm_Store___contains__ an_Store___contains__ cd_Store___contains__ ct_Store___contains__), f_Store___len__, (PySem.W.fnOf "__len__" "Store.__len__" (defArgs s_Store___len__) (defBody s_Store___len__) (defScope s_Store___len__) .none kV_Store___len__ dc_Store___len__ pm_Store___len__ an_Store___len__ cd_Store___len__ ct_Store___len__), f_names, (PySem.W.fnOf "names" "names" (defArgs s_names) (defBody s_names) (defScope s_names) .none kV_names dc_names pm_names an_names cd_names ct_names), f__law_well, (PySem.W.fnOf "_law_well" "_law_well" (defArgs s__law_well) (defBody s__law_well) (defScope s__law_well) .none kV__law_well dc__law_well pm__law_well an__law_well cd__law_well ct__law_well), f__law_draw, (PySem.W.fnOf "_law_draw" "_law_draw" (defArgs s__law_draw) (defBody s__law_draw) (defScope s__law_draw) .none kV__law_draw dc__law_draw pm__law_draw an__law_draw cd__law_draw ct__law_draw), f__law_one, (PySem.W.fnOf "_law_one" "_law_one" (defArgs s__law_one) (defBody s__law_one) (defScope s__law_one) .none kV__law_one dc__law_one pm__law_one an__law_one cd__law_one ct__law_one), f__law_said, (PySem.W.fnOf "_law_said" "_law_said" (defArgs s__law_said) (defBody s__law_said) (defScope s__law_said) .none kV__law_said dc__law_said pm__law_said an__law_said cd__law_said ct__law_said), f__law_fetched, (PySem.W.fnOf "_law_fetched" "_law_fetched" (defArgs s__law_fetched) (defBody s__law_fetched) (defScope s__law_fetched) .none kV__law_fetched dc__law_fetched pm__law_fetched an__law_fetched cd__law_fetched ct__law_fetched), f__law_some, (PySem.W.fnOf "_law_some" "_law_some" (defArgs s__law_some) (defBody s__law_some) (defScope s__law_some) .none kV__law_some dc__law_some pm__law_some an__law_some cd__law_some ct__law_some), f_law, (PySem.W.fnOf "law" "law" (defArgs s_law) (defBody s_law) (defScope s_law) .none kV_law dc_law pm_law an_law cd_law ct_law), e0, e1, e2, e3⟩ : Adr)) f_Library___init__ (PySem.W.fnOf "__init__" "Library.__init__" (defArgs s_Library___init__) (defBody s_Library___init__) (defScope s_Library___init__) .none (.ref D_Library___init__) dc_Library___init__ pm_Library___init__ an_Library___init__ cd_Library___init__ ct_Library___init__) := by
    refine ⟨⟨_, _, _, _, _, _, _, _, _, _, rfl, l_Library___init__, cd1_Library___init__, .inl ⟨rfl, rfl⟩, .inr ⟨_, rfl, fun qq hq => ?_⟩⟩, kp_Library___init__⟩
    simp only [kwL, List.mem_cons, List.not_mem_nil, or_false] at hq
    rcases hq with rfl | rfl | rfl | rfl | rfl | rfl
    · exact ⟨_, kw_Library___init___0, rfl⟩
    · exact ⟨_, kw_Library___init___1, rfl⟩
    · exact ⟨_, kw_Library___init___2, rfl⟩
    · exact ⟨_, kw_Library___init___3, rfl⟩
    · exact ⟨_, kw_Library___init___4, rfl⟩
    · exact ⟨_, kw_Library___init___5, rfl⟩
  have FF_Library_row : Fun K "row" "Library.row" s_Library_row f_Library_row (PySem.W.fnOf "row" "Library.row" (defArgs s_Library_row) (defBody s_Library_row) (defScope s_Library_row) .none kV_Library_row dc_Library_row pm_Library_row an_Library_row cd_Library_row ct_Library_row) := fun_mk (st := s_Library_row) l_Library_row cd1_Library_row kp_Library_row
  have FF_Library___eq__ : Fun K "__eq__" "Library.__eq__" s_Library___eq__ f_Library___eq__ (PySem.W.fnOf "__eq__" "Library.__eq__" (defArgs s_Library___eq__) (defBody s_Library___eq__) (defScope s_Library___eq__) .none kV_Library___eq__ dc_Library___eq__ pm_Library___eq__ an_Library___eq__ cd_Library___eq__ ct_Library___eq__) := fun_mk (st := s_Library___eq__) l_Library___eq__ cd1_Library___eq__ kp_Library___eq__
  have FF_Store___init__ : Fun K "__init__" "Store.__init__" s_Store___init__ f_Store___init__ (PySem.W.fnOf "__init__" "Store.__init__" (defArgs s_Store___init__) (defBody s_Store___init__) (defScope s_Store___init__) .none kV_Store___init__ dc_Store___init__ pm_Store___init__ an_Store___init__ cd_Store___init__ ct_Store___init__) := fun_mk (st := s_Store___init__) l_Store___init__ cd1_Store___init__ kp_Store___init__
  have FF_Store___getitem__ : Fun K "__getitem__" "Store.__getitem__" s_Store___getitem__ f_Store___getitem__ (PySem.W.fnOf "__getitem__" "Store.__getitem__" (defArgs s_Store___getitem__) (defBody s_Store___getitem__) (defScope s_Store___getitem__) .none kV_Store___getitem__ dc_Store___getitem__ pm_Store___getitem__ an_Store___getitem__ cd_Store___getitem__ ct_Store___getitem__) := fun_mk (st := s_Store___getitem__) l_Store___getitem__ cd1_Store___getitem__ kp_Store___getitem__
  have FF_Store___iter__ : Fun K "__iter__" "Store.__iter__" s_Store___iter__ f_Store___iter__ (PySem.W.fnOf "__iter__" "Store.__iter__" (defArgs s_Store___iter__) (defBody s_Store___iter__) (defScope s_Store___iter__) .none kV_Store___iter__ dc_Store___iter__ pm_Store___iter__ an_Store___iter__ cd_Store___iter__ ct_Store___iter__) := fun_mk (st := s_Store___iter__) l_Store___iter__ cd1_Store___iter__ kp_Store___iter__
  have FF_Store___contains__ : Fun K "__contains__" "Store.__contains__" s_Store___contains__ f_Store___contains__ (PySem.W.fnOf "__contains__" "Store.__contains__" (defArgs s_Store___contains__) (defBody s_Store___contains__) (defScope s_Store___contains__) .none kV_Store___contains__ dc_Store___contains__ pm_Store___contains__ an_Store___contains__ cd_Store___contains__ ct_Store___contains__) := fun_mk (st := s_Store___contains__) l_Store___contains__ cd1_Store___contains__ kp_Store___contains__
  have FF_Store___len__ : Fun K "__len__" "Store.__len__" s_Store___len__ f_Store___len__ (PySem.W.fnOf "__len__" "Store.__len__" (defArgs s_Store___len__) (defBody s_Store___len__) (defScope s_Store___len__) .none kV_Store___len__ dc_Store___len__ pm_Store___len__ an_Store___len__ cd_Store___len__ ct_Store___len__) := fun_mk (st := s_Store___len__) l_Store___len__ cd1_Store___len__ kp_Store___len__
  have FF_names : Fun K "names" "names" s_names f_names (PySem.W.fnOf "names" "names" (defArgs s_names) (defBody s_names) (defScope s_names) .none kV_names dc_names pm_names an_names cd_names ct_names) := fun_mk (st := s_names) l_names cd1_names kp_names
  have FF__law_well : Fun K "_law_well" "_law_well" s__law_well f__law_well (PySem.W.fnOf "_law_well" "_law_well" (defArgs s__law_well) (defBody s__law_well) (defScope s__law_well) .none kV__law_well dc__law_well pm__law_well an__law_well cd__law_well ct__law_well) := fun_mk (st := s__law_well) l__law_well cd1__law_well kp__law_well
  have FF__law_draw : Fun K "_law_draw" "_law_draw" s__law_draw f__law_draw (PySem.W.fnOf "_law_draw" "_law_draw" (defArgs s__law_draw) (defBody s__law_draw) (defScope s__law_draw) .none kV__law_draw dc__law_draw pm__law_draw an__law_draw cd__law_draw ct__law_draw) := fun_mk (st := s__law_draw) l__law_draw cd1__law_draw kp__law_draw
  have FF__law_one : Fun K "_law_one" "_law_one" s__law_one f__law_one (PySem.W.fnOf "_law_one" "_law_one" (defArgs s__law_one) (defBody s__law_one) (defScope s__law_one) .none kV__law_one dc__law_one pm__law_one an__law_one cd__law_one ct__law_one) := fun_mk (st := s__law_one) l__law_one cd1__law_one kp__law_one
  have FF__law_said : Fun K "_law_said" "_law_said" s__law_said f__law_said (PySem.W.fnOf "_law_said" "_law_said" (defArgs s__law_said) (defBody s__law_said) (defScope s__law_said) .none kV__law_said dc__law_said pm__law_said an__law_said cd__law_said ct__law_said) := fun_mk (st := s__law_said) l__law_said cd1__law_said kp__law_said
  have FF__law_fetched : Fun K "_law_fetched" "_law_fetched" s__law_fetched f__law_fetched (PySem.W.fnOf "_law_fetched" "_law_fetched" (defArgs s__law_fetched) (defBody s__law_fetched) (defScope s__law_fetched) .none kV__law_fetched dc__law_fetched pm__law_fetched an__law_fetched cd__law_fetched ct__law_fetched) := fun_mk (st := s__law_fetched) l__law_fetched cd1__law_fetched kp__law_fetched
  have FF__law_some : Fun K "_law_some" "_law_some" s__law_some f__law_some (PySem.W.fnOf "_law_some" "_law_some" (defArgs s__law_some) (defBody s__law_some) (defScope s__law_some) .none kV__law_some dc__law_some pm__law_some an__law_some cd__law_some ct__law_some) := fun_mk (st := s__law_some) l__law_some cd1__law_some kp__law_some
  have FF_law : Fun K "law" "law" s_law f_law (PySem.W.fnOf "law" "law" (defArgs s_law) (defBody s_law) (defScope s_law) .none kV_law dc_law pm_law an_law cd_law ct_law) := fun_mk (st := s_law) l_law cd1_law kp_law
  let AA : Adr := ⟨C_LoadError, C_NoLibrary, C_NoStore, C_NoName, C_Library, C_Store, f_NoLibrary___init__, (PySem.W.fnOf "__init__" "NoLibrary.__init__" (defArgs s_NoLibrary___init__) (defBody s_NoLibrary___init__) (defScope s_NoLibrary___init__) .none kV_NoLibrary___init__ dc_NoLibrary___init__ pm_NoLibrary___init__ an_NoLibrary___init__ cd_NoLibrary___init__ ct_NoLibrary___init__), f_NoStore___init__, (PySem.W.fnOf "__init__" "NoStore.__init__" (defArgs s_NoStore___init__) (defBody s_NoStore___init__) (defScope s_NoStore___init__) .none kV_NoStore___init__ dc_NoStore___init__ pm_NoStore___init__ an_NoStore___init__ cd_NoStore___init__ ct_NoStore___init__), f_NoName___init__, (PySem.W.fnOf "__init__" "NoName.__init__" (defArgs s_NoName___init__) (defBody s_NoName___init__) (defScope s_NoName___init__) .none kV_NoName___init__ dc_NoName___init__ pm_NoName___init__ an_NoName___init__ cd_NoName___init__ ct_NoName___init__), f_is_word, (PySem.W.fnOf "is_word" "is_word" (defArgs s_is_word) (defBody s_is_word) (defScope s_is_word) .none kV_is_word dc_is_word pm_is_word an_is_word cd_is_word ct_is_word), f_are_words, (PySem.W.fnOf "are_words" "are_words" (defArgs s_are_words) (defBody s_are_words) (defScope s_are_words) .none kV_are_words dc_are_words pm_are_words an_are_words cd_are_words ct_are_words), f_Library___init__, (PySem.W.fnOf "__init__" "Library.__init__" (defArgs s_Library___init__) (defBody s_Library___init__) (defScope s_Library___init__) .none (.ref D_Library___init__) dc_Library___init__ pm_Library___init__ an_Library___init__ cd_Library___init__ ct_Library___init__), f_Library_row, (PySem.W.fnOf "row" "Library.row" (defArgs s_Library_row) (defBody s_Library_row) (defScope s_Library_row) .none kV_Library_row dc_Library_row pm_Library_row an_Library_row cd_Library_row ct_Library_row), f_Library___eq__, (PySem.W.fnOf "__eq__" "Library.__eq__" (defArgs s_Library___eq__) (defBody s_Library___eq__) (defScope s_Library___eq__) .none kV_Library___eq__ dc_Library___eq__ pm_Library___eq__ an_Library___eq__ cd_Library___eq__ ct_Library___eq__), f_Store___init__, (PySem.W.fnOf "__init__" "Store.__init__" (defArgs s_Store___init__) (defBody s_Store___init__) (defScope s_Store___init__) .none kV_Store___init__ dc_Store___init__ pm_Store___init__ an_Store___init__ cd_Store___init__ ct_Store___init__), f_Store___getitem__, (PySem.W.fnOf "__getitem__" "Store.__getitem__" (defArgs s_Store___getitem__) (defBody s_Store___getitem__) (defScope s_Store___getitem__) .none kV_Store___getitem__ dc_Store___getitem__ pm_Store___getitem__ an_Store___getitem__ cd_Store___getitem__ ct_Store___getitem__), f_Store___iter__, (PySem.W.fnOf "__iter__" "Store.__iter__" (defArgs s_Store___iter__) (defBody s_Store___iter__) (defScope s_Store___iter__) .none kV_Store___iter__ dc_Store___iter__ pm_Store___iter__ an_Store___iter__ cd_Store___iter__ ct_Store___iter__), f_Store___contains__, (PySem.W.fnOf "__contains__" "Store.__contains__" (defArgs s_Store___contains__) (defBody s_Store___contains__) (defScope s_Store___contains__) .none kV_Store___contains__ dc_Store___contains__ pm_Store___contains__ an_Store___contains__ cd_Store___contains__ ct_Store___contains__), f_Store___len__, (PySem.W.fnOf "__len__" "Store.__len__" (defArgs s_Store___len__) (defBody s_Store___len__) (defScope s_Store___len__) .none kV_Store___len__ dc_Store___len__ pm_Store___len__ an_Store___len__ cd_Store___len__ ct_Store___len__), f_names, (PySem.W.fnOf "names" "names" (defArgs s_names) (defBody s_names) (defScope s_names) .none kV_names dc_names pm_names an_names cd_names ct_names), f__law_well, (PySem.W.fnOf "_law_well" "_law_well" (defArgs s__law_well) (defBody s__law_well) (defScope s__law_well) .none kV__law_well dc__law_well pm__law_well an__law_well cd__law_well ct__law_well), f__law_draw, (PySem.W.fnOf "_law_draw" "_law_draw" (defArgs s__law_draw) (defBody s__law_draw) (defScope s__law_draw) .none kV__law_draw dc__law_draw pm__law_draw an__law_draw cd__law_draw ct__law_draw), f__law_one, (PySem.W.fnOf "_law_one" "_law_one" (defArgs s__law_one) (defBody s__law_one) (defScope s__law_one) .none kV__law_one dc__law_one pm__law_one an__law_one cd__law_one ct__law_one), f__law_said, (PySem.W.fnOf "_law_said" "_law_said" (defArgs s__law_said) (defBody s__law_said) (defScope s__law_said) .none kV__law_said dc__law_said pm__law_said an__law_said cd__law_said ct__law_said), f__law_fetched, (PySem.W.fnOf "_law_fetched" "_law_fetched" (defArgs s__law_fetched) (defBody s__law_fetched) (defScope s__law_fetched) .none kV__law_fetched dc__law_fetched pm__law_fetched an__law_fetched cd__law_fetched ct__law_fetched), f__law_some, (PySem.W.fnOf "_law_some" "_law_some" (defArgs s__law_some) (defBody s__law_some) (defScope s__law_some) .none kV__law_some dc__law_some pm__law_some an__law_some cd__law_some ct__law_some), f_law, (PySem.W.fnOf "law" "law" (defArgs s_law) (defBody s_law) (defScope s_law) .none kV_law dc_law pm_law an_law cd_law ct_law), e0, e1, e2, e3⟩
  have T : Txt K mg AA := Txt.mk (PySem.W.mg_none_of X G z_ValueError)
    (PySem.W.mg_none_of X G z_all)
    (PySem.W.mg_none_of X G z_bool)
    (PySem.W.mg_none_of X G z_enumerate)
    (PySem.W.mg_none_of X G z_int)
    (PySem.W.mg_none_of X G z_isinstance)
    (PySem.W.mg_none_of X G z_len)
    (PySem.W.mg_none_of X G z_list)
    (PySem.W.mg_none_of X G z_range)
    (PySem.W.mg_none_of X G z_set)
    (PySem.W.mg_none_of X G z_sorted)
    (PySem.W.mg_none_of X G z_str)
    (PySem.W.mg_none_of X G z_tuple)
    (⟨_, PySem.W.mg_of X G cv_LETTERS, ⟨_, rfl⟩⟩)
    (⟨_, PySem.W.mg_of X G cv_MOST_LIBRARIES, ⟨_, rfl⟩⟩)
    (⟨PySem.W.mg_of X G g0_LoadError, ld_ga, ld_rd, ld_fc⟩)
    (⟨PySem.W.mg_of X G g0_NoLibrary, ⟨⟨_, _, _, _, _, _, _, _, _, _, _, _, _, _, _, xl_NoLibrary, rb_NoLibrary⟩, sa_NoLibrary, eC_NoLibrary, tC_NoLibrary, kC_NoLibrary⟩, at_NoLibrary___init__, ti_NoLibrary, nb_NoLibrary, ⟨ga_NoLibrary, gg_NoLibrary, eC_NoLibrary, hd_NoLibrary⟩, exm_sub eC_NoLibrary ic_NoLibrary tC_NoLibrary te_NoLibrary⟩)
    (⟨PySem.W.mg_of X G g0_NoStore, ⟨⟨_, _, _, _, _, _, _, _, _, _, _, _, _, _, _, xl_NoStore, rb_NoStore⟩, sa_NoStore, eC_NoStore, tC_NoStore, kC_NoStore⟩, at_NoStore___init__, ti_NoStore, nb_NoStore, ⟨ga_NoStore, gg_NoStore, eC_NoStore, hd_NoStore⟩, exm_sub eC_NoStore ic_NoStore tC_NoStore te_NoStore⟩)
    (⟨PySem.W.mg_of X G g0_NoName, ⟨⟨_, _, _, _, _, _, _, _, _, _, _, _, _, _, _, xl_NoName, rb_NoName⟩, sa_NoName, eC_NoName, tC_NoName, kC_NoName⟩, at_NoName___init__, ti_NoName, nb_NoName, ⟨ga_NoName, gg_NoName, eC_NoName, hd_NoName⟩, exm_sub eC_NoName ic_NoName tC_NoName te_NoName⟩)
    (PySem.W.mg_of X G g0_Library)
    (cl_Library)
    (na_Library_name)
    (na_Library_needs)
    (na_Library_defines)
    (na_Library_uses)
    (na_Library_weak)
    (na_Library_eager)
    (na_Library_own_first)
    (⟨mk_Library, at_Library___init__, if_Library, kc_Library⟩)
    (PySem.W.mg_of X G g0_Store)
    (cl_Store)
    (na_Store_kept)
    (⟨mk_Store, at_Store___init__, if_Store, kc_Store⟩)
    (FF_NoLibrary___init__)
    (FF_NoLibrary___init__.binds (ps := P_NoLibrary___init__) fun _ _ _ _ _ _ us hl => match us, hl with | [_, _], _ => rfl)
    (FF_NoStore___init__)
    (FF_NoStore___init__.binds (ps := P_NoStore___init__) fun _ _ _ _ _ _ us hl => match us, hl with | [_, _], _ => rfl)
    (FF_NoName___init__)
    (FF_NoName___init__.binds (ps := P_NoName___init__) fun _ _ _ _ _ _ us hl => match us, hl with | [_, _], _ => rfl)
    (FF_is_word)
    (FF_is_word.binds (ps := P_is_word) fun _ _ _ _ _ _ us hl => match us, hl with | [_], _ => rfl)
    (PySem.W.mg_of X G g0_is_word)
    (kp_is_word)
    (FF_are_words)
    (FF_are_words.binds (ps := P_are_words) fun _ _ _ _ _ _ us hl => match us, hl with | [_, _], _ => rfl)
    (PySem.W.mg_of X G g0_are_words)
    (kp_are_words)
    (FF_Library___init__)
    (FF_Library_row)
    (FF_Library_row.binds (ps := P_Library_row) fun _ _ _ _ _ _ us hl => match us, hl with | [_], _ => rfl)
    (⟨at_Library_row, if_Library_row, kp_Library_row⟩)
    (FF_Library___eq__)
    (FF_Library___eq__.binds (ps := P_Library___eq__) fun _ _ _ _ _ _ us hl => match us, hl with | [_, _], _ => rfl)
    (⟨at_Library___eq__, if_Library___eq__⟩)
    (FF_Store___init__)
    (FF_Store___init__.binds (ps := P_Store___init__) fun _ _ _ _ _ _ us hl => match us, hl with | [_, _], _ => rfl)
    (FF_Store___getitem__)
    (FF_Store___getitem__.binds (ps := P_Store___getitem__) fun _ _ _ _ _ _ us hl => match us, hl with | [_, _], _ => rfl)
    (⟨at_Store___getitem__, if_Store___getitem__⟩)
    (fi_Store___getitem__)
    (FF_Store___iter__)
    (FF_Store___iter__.binds (ps := P_Store___iter__) fun _ _ _ _ _ _ us hl => match us, hl with | [_], _ => rfl)
    (⟨at_Store___iter__, if_Store___iter__⟩)
    (FF_Store___contains__)
    (FF_Store___contains__.binds (ps := P_Store___contains__) fun _ _ _ _ _ _ us hl => match us, hl with | [_, _], _ => rfl)
    (⟨at_Store___contains__, if_Store___contains__⟩)
    (FF_Store___len__)
    (FF_Store___len__.binds (ps := P_Store___len__) fun _ _ _ _ _ _ us hl => match us, hl with | [_], _ => rfl)
    (⟨at_Store___len__, if_Store___len__⟩)
    (FF_names)
    (FF_names.binds (ps := P_names) fun _ _ _ _ _ _ us hl => match us, hl with | [_], _ => rfl)
    (PySem.W.mg_of X G g0_names)
    (kp_names)
    (FF__law_well)
    (FF__law_well.binds (ps := P__law_well) fun _ _ _ _ _ _ us hl => match us, hl with | [_], _ => rfl)
    (PySem.W.mg_of X G g0__law_well)
    (kp__law_well)
    (FF__law_draw)
    (FF__law_draw.binds (ps := P__law_draw) fun _ _ _ _ _ _ us hl => match us, hl with | [_, _], _ => rfl)
    (PySem.W.mg_of X G g0__law_draw)
    (kp__law_draw)
    (FF__law_one)
    (FF__law_one.binds (ps := P__law_one) fun _ _ _ _ _ _ us hl => match us, hl with | [_, _], _ => rfl)
    (PySem.W.mg_of X G g0__law_one)
    (kp__law_one)
    (FF__law_said)
    (FF__law_said.binds (ps := P__law_said) fun _ _ _ _ _ _ us hl => match us, hl with | [_], _ => rfl)
    (PySem.W.mg_of X G g0__law_said)
    (kp__law_said)
    (FF__law_fetched)
    (FF__law_fetched.binds (ps := P__law_fetched) fun _ _ _ _ _ _ us hl => match us, hl with | [_, _], _ => rfl)
    (PySem.W.mg_of X G g0__law_fetched)
    (kp__law_fetched)
    (FF__law_some)
    (FF__law_some.binds (ps := P__law_some) fun _ _ _ _ _ _ us hl => match us, hl with | [_], _ => rfl)
    (PySem.W.mg_of X G g0__law_some)
    (kp__law_some)
    (FF_law)
    (FF_law.binds (ps := P_law) fun _ _ _ _ _ _ us hl => match us, hl with | [_], _ => rfl)
    (PySem.W.mg_of X G g0_law)
    (kp_law)
    (fun _ => .inr ⟨_, #[], _, le_e0, rfl, rfl, Nat.zero_le _, .nil⟩)
    (fun _ => .inr ⟨_, #[], _, le_e1, rfl, rfl, Nat.zero_le _, .nil⟩)
    (fun _ => .inr ⟨_, #[], _, le_e2, rfl, rfl, Nat.zero_le _, .nil⟩)
    (fun _ => .inr ⟨_, #[], _, le_e3, rfl, rfl, Nat.zero_le _, .nil⟩)
    (fun hh => .base (.ins hh cl_Library ty1_Library ty2 ty3 ty4_Library))
    (fun hh => .base (.ins hh cl_Store ty1_Store ty2 ty3 ty4_Store))
    (⟨ne_Library, ty4_Library⟩)
    (kit_sub rfl ic_Library tC_Library x_nl_tuple)
    (kit_sub rfl ic_Library tC_Library x_nl_str)
    (kit_sub rfl ic_Library tC_Library x_nl_NoneType)
    (kit_sub rfl ic_Library tC_Library x_nl_int)
    (kit_sub rfl ic_Library tC_Library x_nl_list)
    (kit_sub rfl ic_Library tC_Library x_nl_dict)
  exact ⟨(PySem.W.fnOf "law" "law" (defArgs s_law) (defBody s_law) (defScope s_law) .none kV_law dc_law pm_law an_law cd_law ct_law), fun s v => .of_eq rfl, fun base _ _ => ok_law T⟩
theorem walk {l : PySem.W.OpenLaw} {q : Program} {loose : List Str} {XP : (Str → Option Value) → Heap → Prop} {YP : World → Heap → Prop} {d : DefRec} {K : Params → PySem.W.Frag} (hn : l.most = some 63) (hdf : d.params.defaults = [])
    (hY : ∀ (w : World) (h : Heap), YP w h → (K w.params).In h)
    (F : ∀ (w : World) (mg : Str → Option Value) (fa : Addr) (h : Heap), (K w.params).In h → h.Ns mainGlobals mg → mg d.name = some (.ref fa) →
      ∃ fd : FuncData, (∀ (s : Shared) (u : Value), BindsTo s fd ⟨[u], []⟩ [("_law_script", u)]) ∧ ∀ base : Heap, (K w.params).In base → base.Ns mainGlobals mg → FnOk l.prog w (K w.params) mg base CX0 6 fa fd ["_law_script"] (spLaw (K w.params))) :
    PySem.W.WalkO q loose XP YP l.row.toRowW d [] (fun f vs => PySem.call f vs) :=
  L2.walk_of (n := 63) (k := 6) (x := "_law_script") (CX := fun _ => CX0) (sp := fun w => spLaw (K w.params)) hn (by decide) hdf ⟨rfl, by decide, by decide⟩ hY F (fun _ _ b ns hl _ hS => ⟨b, ns, rfl, hS, hl, fun _ => rfl⟩) fun _ _ _ _ _ z => z
end SL

open PySem PySem.W PyProof.Rows in
set_option maxRecDepth 100000 in
set_option maxHeartbeats 0 in
theorem PySem.Challenge.cw_scopebind_k03_stores_holds : PySem.Challenge.rw_scopebind_k03_stores.Holds := by
  w_on; o_law; k_head; (case hw => w_witness2)
  k_fill
  refine SL.walk (l := PySem.Challenge.rw_scopebind_k03_stores) rfl rfl (fun w h Y => PySem.W.kIn_of Y) ?F
  case F =>
    intro w mg fa h KX G hmg
    refine' SL.all_mk KX G hmg ?g0_LoadError ?g0_NoLibrary ?g0_NoStore ?g0_NoName ?g0_Library ?g0_Store ?at_NoLibrary___init__ ?at_NoStore___init__ ?at_NoName___init__ ?g0_is_word ?g0_are_words ?at_Library___init__ ?at_Library_row ?at_Library___eq__ ?at_Store___init__ ?at_Store___getitem__ ?at_Store___iter__ ?at_Store___contains__ ?at_Store___len__ ?g0_names ?g0__law_well ?g0__law_draw ?g0__law_one ?g0__law_said ?g0__law_fetched ?g0__law_some ?g0_law ?l_NoLibrary___init__ ?cd1_NoLibrary___init__ ?kp_NoLibrary___init__ ?l_NoStore___init__ ?cd1_NoStore___init__ ?kp_NoStore___init__ ?l_NoName___init__ ?cd1_NoName___init__ ?kp_NoName___init__ ?l_is_word ?cd1_is_word ?kp_is_word ?l_are_words ?cd1_are_words ?kp_are_words ?l_Library___init__ ?cd1_Library___init__ ?kp_Library___init__ ?l_Library_row ?cd1_Library_row ?kp_Library_row ?l_Library___eq__ ?cd1_Library___eq__ ?kp_Library___eq__ ?l_Store___init__ ?cd1_Store___init__ ?kp_Store___init__ ?l_Store___getitem__ ?cd1_Store___getitem__ ?kp_Store___getitem__ ?l_Store___iter__ ?cd1_Store___iter__ ?kp_Store___iter__ ?l_Store___contains__ ?cd1_Store___contains__ ?kp_Store___contains__ ?l_Store___len__ ?cd1_Store___len__ ?kp_Store___len__ ?l_names ?cd1_names ?kp_names ?l__law_well ?cd1__law_well ?kp__law_well ?l__law_draw ?cd1__law_draw ?kp__law_draw ?l__law_one ?cd1__law_one ?kp__law_one ?l__law_said ?cd1__law_said ?kp__law_said ?l__law_fetched ?cd1__law_fetched ?kp__law_fetched ?l__law_some ?cd1__law_some ?kp__law_some ?l_law ?cd1_law ?kp_law ?kw_Library___init___0 ?kw_Library___init___1 ?kw_Library___init___2 ?kw_Library___init___3 ?kw_Library___init___4 ?kw_Library___init___5 ?z_ValueError ?z_all ?z_bool ?z_enumerate ?z_int ?z_isinstance ?z_len ?z_list ?z_range ?z_set ?z_sorted ?z_str ?z_tuple ?cv_LETTERS ?cv_MOST_LIBRARIES ?ld_ga ?ld_rd ?ld_fc ?xl_NoLibrary ?rb_NoLibrary ?sa_NoLibrary ?eC_NoLibrary ?tC_NoLibrary ?kC_NoLibrary ?ti_NoLibrary ?nb_NoLibrary ?ga_NoLibrary ?gg_NoLibrary ?hd_NoLibrary ?te_NoLibrary ?ic_NoLibrary ?xl_NoStore ?rb_NoStore ?sa_NoStore ?eC_NoStore ?tC_NoStore ?kC_NoStore ?ti_NoStore ?nb_NoStore ?ga_NoStore ?gg_NoStore ?hd_NoStore ?te_NoStore ?ic_NoStore ?xl_NoName ?rb_NoName ?sa_NoName ?eC_NoName ?tC_NoName ?kC_NoName ?ti_NoName ?nb_NoName ?ga_NoName ?gg_NoName ?hd_NoName ?te_NoName ?ic_NoName ?pg_Library ?hd_Library ?po_Library ?sa_Library ?na_Library_name ?na_Library_needs ?na_Library_defines ?na_Library_uses ?na_Library_weak ?na_Library_eager ?na_Library_own_first ?mk_Library ?if_Library ?kc_Library ?pg_Store ?hd_Store ?po_Store ?sa_Store ?na_Store_kept ?mk_Store ?if_Store ?kc_Store ?if_Library_row ?if_Library___eq__ ?if_Store___getitem__ ?fi_Store___getitem__ ?if_Store___iter__ ?if_Store___contains__ ?if_Store___len__ ?le_e0 ?le_e1 ?le_e2 ?le_e3 ?ty1_Library ?ty2 ?ty3 ?ty4_Library ?ty1_Store ?ty4_Store ?ne_Library ?ic_Library ?tC_Library ?x_nl_tuple ?x_nl_str ?x_nl_NoneType ?x_nl_int ?x_nl_list ?x_nl_dict
    (case g0_LoadError => k_is)
    (case g0_NoLibrary => k_is)
    (case g0_NoStore => k_is)
    (case g0_NoName => k_is)
    (case g0_Library => k_is)
    (case g0_Store => k_is)
    (case at_NoLibrary___init__ => k_is)
    (case at_NoStore___init__ => k_is)
    (case at_NoName___init__ => k_is)
    (case g0_is_word => k_is)
    (case g0_are_words => k_is)
    (case at_Library___init__ => k_is)
    (case at_Library_row => k_is)
    (case at_Library___eq__ => k_is)
    (case at_Store___init__ => k_is)
    (case at_Store___getitem__ => k_is)
    (case at_Store___iter__ => k_is)
    (case at_Store___contains__ => k_is)
    (case at_Store___len__ => k_is)
    (case g0_names => k_is)
    (case g0__law_well => k_is)
    (case g0__law_draw => k_is)
    (case g0__law_one => k_is)
    (case g0__law_said => k_is)
    (case g0__law_fetched => k_is)
    (case g0__law_some => k_is)
    (case g0_law => k_is)
    (case l_NoLibrary___init__ => k_is)
    (case cd1_NoLibrary___init__ => k_is)
    (case kp_NoLibrary___init__ => k_is)
    (case l_NoStore___init__ => k_is)
    (case cd1_NoStore___init__ => k_is)
    (case kp_NoStore___init__ => k_is)
    (case l_NoName___init__ => k_is)
    (case cd1_NoName___init__ => k_is)
    (case kp_NoName___init__ => k_is)
    (case l_is_word => k_is)
    (case cd1_is_word => k_is)
    (case kp_is_word => k_is)
    (case l_are_words => k_is)
    (case cd1_are_words => k_is)
    (case kp_are_words => k_is)
    (case l_Library___init__ => k_is)
    (case cd1_Library___init__ => k_is)
    (case kp_Library___init__ => k_is)
    (case l_Library_row => k_is)
    (case cd1_Library_row => k_is)
    (case kp_Library_row => k_is)
    (case l_Library___eq__ => k_is)
    (case cd1_Library___eq__ => k_is)
    (case kp_Library___eq__ => k_is)
    (case l_Store___init__ => k_is)
    (case cd1_Store___init__ => k_is)
    (case kp_Store___init__ => k_is)
    (case l_Store___getitem__ => k_is)
    (case cd1_Store___getitem__ => k_is)
    (case kp_Store___getitem__ => k_is)
    (case l_Store___iter__ => k_is)
    (case cd1_Store___iter__ => k_is)
    (case kp_Store___iter__ => k_is)
    (case l_Store___contains__ => k_is)
    (case cd1_Store___contains__ => k_is)
    (case kp_Store___contains__ => k_is)
    (case l_Store___len__ => k_is)
    (case cd1_Store___len__ => k_is)
    (case kp_Store___len__ => k_is)
    (case l_names => k_is)
    (case cd1_names => k_is)
    (case kp_names => k_is)
    (case l__law_well => k_is)
    (case cd1__law_well => k_is)
    (case kp__law_well => k_is)
    (case l__law_draw => k_is)
    (case cd1__law_draw => k_is)
    (case kp__law_draw => k_is)
    (case l__law_one => k_is)
    (case cd1__law_one => k_is)
    (case kp__law_one => k_is)
    (case l__law_said => k_is)
    (case cd1__law_said => k_is)
    (case kp__law_said => k_is)
    (case l__law_fetched => k_is)
    (case cd1__law_fetched => k_is)
    (case kp__law_fetched => k_is)
    (case l__law_some => k_is)
    (case cd1__law_some => k_is)
    (case kp__law_some => k_is)
    (case l_law => k_is)
    (case cd1_law => k_is)
    (case kp_law => k_is)
    (case kw_Library___init___0 => k_is)
    (case kw_Library___init___1 => k_is)
    (case kw_Library___init___2 => k_is)
    (case kw_Library___init___3 => k_is)
    (case kw_Library___init___4 => k_is)
    (case kw_Library___init___5 => k_is)
    (case z_ValueError => k_is)
    (case z_all => k_is)
    (case z_bool => k_is)
    (case z_enumerate => k_is)
    (case z_int => k_is)
    (case z_isinstance => k_is)
    (case z_len => k_is)
    (case z_list => k_is)
    (case z_range => k_is)
    (case z_set => k_is)
    (case z_sorted => k_is)
    (case z_str => k_is)
    (case z_tuple => k_is)
    (case cv_LETTERS => k_is)
    (case cv_MOST_LIBRARIES => k_is)
    (case ld_ga => k_is)
    (case ld_rd => k_is)
    (case ld_fc => k_is)
    (case xl_NoLibrary => k_is)
    (case rb_NoLibrary => decide +kernel)
    (case sa_NoLibrary => k_is)
    (case eC_NoLibrary => k_is)
    (case tC_NoLibrary => k_is)
    (case kC_NoLibrary => k_is)
    (case ti_NoLibrary => k_is)
    (case nb_NoLibrary => k_is)
    (case ga_NoLibrary => k_is)
    (case gg_NoLibrary => k_is)
    (case hd_NoLibrary => k_is)
    (case te_NoLibrary => first | rfl | k_is)
    (case ic_NoLibrary => k_is)
    (case xl_NoStore => k_is)
    (case rb_NoStore => decide +kernel)
    (case sa_NoStore => k_is)
    (case eC_NoStore => k_is)
    (case tC_NoStore => k_is)
    (case kC_NoStore => k_is)
    (case ti_NoStore => k_is)
    (case nb_NoStore => k_is)
    (case ga_NoStore => k_is)
    (case gg_NoStore => k_is)
    (case hd_NoStore => k_is)
    (case te_NoStore => first | rfl | k_is)
    (case ic_NoStore => k_is)
    (case xl_NoName => k_is)
    (case rb_NoName => decide +kernel)
    (case sa_NoName => k_is)
    (case eC_NoName => k_is)
    (case tC_NoName => k_is)
    (case kC_NoName => k_is)
    (case ti_NoName => k_is)
    (case nb_NoName => k_is)
    (case ga_NoName => k_is)
    (case gg_NoName => k_is)
    (case hd_NoName => k_is)
    (case te_NoName => first | rfl | k_is)
    (case ic_NoName => k_is)
    (case pg_Library => k_is)
    (case hd_Library => k_is)
    (case po_Library => k_is)
    (case sa_Library => k_is)
    (case na_Library_name => k_is)
    (case na_Library_needs => k_is)
    (case na_Library_defines => k_is)
    (case na_Library_uses => k_is)
    (case na_Library_weak => k_is)
    (case na_Library_eager => k_is)
    (case na_Library_own_first => k_is)
    (case mk_Library => k_is)
    (case if_Library => k_is)
    (case kc_Library => k_is)
    (case pg_Store => k_is)
    (case hd_Store => k_is)
    (case po_Store => k_is)
    (case sa_Store => k_is)
    (case na_Store_kept => k_is)
    (case mk_Store => k_is)
    (case if_Store => k_is)
    (case kc_Store => k_is)
    (case if_Library_row => k_is)
    (case if_Library___eq__ => k_is)
    (case if_Store___getitem__ => k_is)
    (case fi_Store___getitem__ => k_is)
    (case if_Store___iter__ => k_is)
    (case if_Store___contains__ => k_is)
    (case if_Store___len__ => k_is)
    (case le_e0 => k_is)
    (case le_e1 => k_is)
    (case le_e2 => k_is)
    (case le_e3 => k_is)
    (case ty1_Library => k_is)
    (case ty2 => k_is)
    (case ty3 => k_is)
    (case ty4_Library => k_is)
    (case ty1_Store => k_is)
    (case ty4_Store => k_is)
    (case ne_Library => k_is)
    (case ic_Library => k_is)
    (case tC_Library => k_is)
    (case x_nl_tuple => k_is)
    (case x_nl_str => k_is)
    (case x_nl_NoneType => k_is)
    (case x_nl_int => k_is)
    (case x_nl_list => k_is)
    (case x_nl_dict => k_is)
