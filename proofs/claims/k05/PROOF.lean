import PyProof.Rows.All
import Wide.All
import OpenK.AllK
import Wide.FinOn
import HandS.Strs
import HandS.OwnEq
import HandS.IsInst
import HandS.ExcInit
import HandS.ExcField
import HandS.TryMany
import HandS.Words
import HandS.WordsExc
import HandS.Evl
import HandS.ForMost
import HandS.TupAny
import HandS.Wide
import HandS.MakeKwOnly
import HandS.Style
import HandS.Walk
import HandS.Steps
import KE.KRevSl
import KE.DataCmp
import KE.KTryMore
import HandS.Dict
import KE.KxIndex
import HandS.NamedTupSort
import HandS.More
import HandS.DictComp
import PyProof.NeKinds
import PyProof.Rows.StrMeet
import HandS.ExcIs
import HandS.Conv
import HandS.SetFor
import HandS.Star
import KE.GoesEnum
import KE.GoesMore
import HandS.Lambda
import HandS.SortOrd
import HandS.SortRule
import HandS.DictTup
import HandS.Iter
import HandS.IterVal
import HandS.Deep
import HandS.List
import KE.DatumOrd
import PyProof.Rows.SeqMore
import HandS.TryOnly
import HandS.Exc
import KE.GoesRaise
import HandS.EndTab
import KE.KNestM
import HandS.ForMost
import PySem.Challenge.RW_scopebind_k05_closures
set_option Elab.async false
set_option linter.all false
set_option maxRecDepth 100000
set_option maxHeartbeats 4000000
/-! set(tuple of texts), of any size below 1000: its length is the number of distinct texts -/
namespace SB
open PySem PySem.Spec PyProof.Rows L2

/-- the count of a front, as the set's own loop finds it -/
def fcnt (xs : List Str) : Nat → Nat
  | 0 => 0
  | i + 1 => if (xs.take i).any (· == xs.getD i Str.empty) then fcnt xs i else fcnt xs i + 1
theorem fcnt_le (xs : List Str) : ∀ i, fcnt xs i ≤ i
  | 0 => Nat.le_refl _
  | i + 1 => by
    have ih := fcnt_le xs i
    unfold fcnt
    split <;> omega
theorem fcnt_eq_iff (xs : List Str) : ∀ i, i ≤ xs.length → (fcnt xs i = i ↔ (xs.take i).Nodup)
  | 0, _ => by simp [fcnt]
  | i + 1, hi => by
    have ih := fcnt_eq_iff xs i (by omega)
    have le := fcnt_le xs i
    have e : xs.getD i Str.empty = xs[i] := by simp [show i < xs.length by omega]
    have e2 : xs.take (i + 1) = xs.take i ++ [xs[i]] := by
      rw [List.take_add_one, List.getElem?_eq_getElem (by omega)]; rfl
    unfold fcnt
    rw [e, e2]
    by_cases hm : xs[i] ∈ xs.take i
    · have hb : ((xs.take i).any (· == xs[i])) = true := List.any_eq_true.mpr ⟨_, hm, by simp⟩
      rw [if_pos hb]
      constructor
      · intro h; omega
      · intro h
        have := (List.nodup_append.mp h).2.2
        exact absurd rfl (this _ hm _ (by simp))
    · have hb : ((xs.take i).any (· == xs[i])) = false := by
        cases q : (xs.take i).any (· == xs[i]) with
        | false => rfl
        | true =>
          obtain ⟨y, hy, ey⟩ := List.any_eq_true.mp q
          exact absurd ((eq_of_beq ey) ▸ hy) hm
      rw [if_neg (by rw [hb]; decide)]
      constructor
      · intro h
        have h2 := ih.mp (by omega)
        refine List.nodup_append.mpr ⟨h2, by simp, fun a ha b hb' => ?_⟩
        simp at hb'
        subst hb'
        intro q; subst q; exact hm ha
      · intro h
        have := ih.mpr (List.nodup_append.mp h).1
        omega

section
variable {P : Program} {w : World} {A : Around} {R : Result → Shared → Prop} {it : Addr} {fp wr : List Addr} {G : Array GenState → Array GenState → Prop} {n : Nat} {Yl : Nat → Value → Prop} {Z : Nat → Shared → Prop}
abbrev sAt (xs : List Str) (i : Nat) : Str → Bool := fun k => (xs.take i).any fun y => y == k
theorem set_turns (W : WalksS P w A.in1 it fp wr G n Yl Z) (T : Addr) (hT : T ∉ fp) (xs : List Str) (hx : xs.length = n) (hn : n ≤ 1000)
    (yl : ∀ i v, Yl i v → ∃ tk, v = .str (xs.getD i Str.empty) tk) (m : Nat) :
    ∀ (i : Nat) (s : Shared), n - i = m → i ≤ n → Z i s → s.heap.SetOf (strKind P w) T (sAt xs i) (fcnt xs i) →
      (∀ s1, Moved (T :: wr) G s s1 → s1.heap.SetOf (strKind P w) T (sAt xs n) (fcnt xs n) → R (.ok (.ret .none)) s1) →
      codeAny (model P w) A (.builtin "set.update.loop" ⟨[.ref T, .ref it], []⟩) R s := by
  have hw : T ∉ wr := fun q => hT (W.sub _ q)
  have up : ∀ b ∈ wr, b ∈ T :: wr := fun b q => List.mem_cons_of_mem _ q
  induction m with
  | zero =>
    intro i s hm hi hz hset out
    obtain rfl : i = n := by omega
    refine codeAny_builtin F.entry_set_update_loop ?_
    rw [Around.under_plainId F.plain_set_update_loop _]
    show wpAny _ A.in1 (pyNext (.ref it) >>= _) _ _ s
    refine wpAny_bind (W.done s _ _ hz fun s1 mv => ?_)
    show wpAny _ A.in1 (ret Value.none) _ _ s1
    refine wpAny_pure (out s1 (mv.mono up) ?_)
    obtain ⟨o, es, ep, tb, ho, more⟩ := hset
    exact ⟨o, es, ep, tb, mv.heap T _ hw ho, more⟩
  | succ m ih =>
    intro i s hm hi hz hset out
    have lt : i < n := by omega
    refine codeAny_builtin F.entry_set_update_loop ?_
    rw [Around.under_plainId F.plain_set_update_loop _]
    show wpAny _ A.in1 (pyNext (.ref it) >>= _) _ _ s
    refine wpAny_bind (W.item i s _ _ lt hz fun v s1 hy hz1 mv => ?_)
    obtain ⟨tk, rfl⟩ := yl i v hy
    have set1 : s1.heap.SetOf (strKind P w) T (sAt xs i) (fcnt xs i) := by
      obtain ⟨o, es, ep, tb, ho, more⟩ := hset
      exact ⟨o, es, ep, tb, mv.heap T _ hw ho, more⟩
    show wpAny _ A.in1 (holding [Value.str (xs.getD i Str.empty) tk] (setAdd T (.str (xs.getD i Str.empty) tk)) >>= _) _ _ s1
    refine wpAny_bind (wpAny_holding ?_)
    unfold setAdd
    refine wpAny_holding (wpAny_bind ((strKind P w).pyHash (k := xs.getD i Str.empty) (strKind_is _ _ _ _) ?_))
    have fl := fcnt_le xs i
    refine wpAny_setAddHashed_of (knd := strKind P w) (s := { s1 with toks := s1.toks + 1 }) (strKind_is _ _ _ _) rfl set1 (by unfold scanBound; omega) fun h2 sb set2 => ?_
    have set3 : h2.SetOf (strKind P w) T (sAt xs (i + 1)) (fcnt xs (i + 1)) := by
      refine SetOf_congr set2 (fun k => ?_) (by rfl)
      have e : xs.getD i Str.empty = xs[i]'(by omega) := by simp [show i < xs.length by omega]
      have e2 : xs.take (i + 1) = xs.take i ++ [xs[i]'(by omega)] := by
        rw [List.take_add_one, List.getElem?_eq_getElem (by omega)]; rfl
      show (sAt xs i k || decide (k = xs.getD i Str.empty)) = (xs.take (i + 1)).any fun y => y == k
      rw [e2, List.any_append, e]
      show _ = (sAt xs i k || ([xs[i]'(by omega)].any fun y => y == k))
      congr 1
      by_cases q : k = xs[i]'(by omega)
      · rw [← q]; simp
      · have q2 : ((xs[i]'(by omega)) == k) = false := by simpa using fun z => q z.symm
        simp [q, q2]
    refine wpAny_pure ⟨plainId_quiet F.plain_set_update_loop _, ih (i + 1) _ (by omega) lt (W.frame _ s1 _ _ hz1 (Nat.le_succ _) fun b hb o e => ?_) set3 fun s3 mv3 set4 => ?_⟩
    · rw [sb.2 b fun z => hT (z ▸ hb)]; exact e
    · refine out s3 (Moved.trans W.gtrans ((mv.mono up).then_heap (Nat.le_succ _) fun b o hb e => ?_) mv3) set4
      rw [sb.2 b fun z => hb (z ▸ List.mem_cons_self)]; exact e
end
end SB

namespace SB
open PySem PySem.Spec PyProof.Rows L2
section
variable {P : Program} {w : World} {A : Around} {E : Value → Shared → Prop} {s : Shared}
/-- an empty set that was just laid -/
abbrev set0 (led : Bool) : Obj := { cls := .type "set", dict := none, data := .set #[] 0 (.fresh 0 0 led) }
theorem set_init_tup {led : Bool} {l : Addr} {items : Array Value} {xs : List Str} {Q : Value → Shared → Prop} (hh : A.handled = none) (hl : s.heap.IsTuple l items) (hi : StrsAre items.toList xs) (hb : xs.length ≤ 1000)
    (k : ∀ (h1 : Heap) (tk : Nat), h1.SetOf (strKind P w) s.heap.objs.size (sAt xs xs.length) (fcnt xs xs.length) → (∀ b o, s.heap.get? b = some o → h1.get? b = some o) → Q .none { s with heap := h1, toks := tk }) :
    codeAny (model P w) A (.call (.builtin "set.__init__") ⟨[.ref s.heap.objs.size, .ref l], []⟩) (wants Q E) { s with heap := s.heap.push (set0 led) } := by
  have new : (s.heap.push (set0 led)).get? s.heap.objs.size = some (set0 led) := Heap.get?_push_size _ rfl
  have ty : Shared.TypeIs { s with heap := s.heap.push (set0 led) } (.ref s.heap.objs.size) "set" := ⟨_, new, rfl⟩
  refine codeAny_call_builtin F.called_set.init.plain F.entry_set_init (check_set_init_1 ty ?_)
  obtain ⟨ol, hol, hcl, nl, hdl⟩ := hl
  obtain ⟨oc, od, odt, osl⟩ := ol
  simp only at hcl hdl
  subst hcl; subst hdl
  have old : (s.heap.push (set0 led)).get? l = some { cls := .type "tuple", dict := od, data := .seq items nl, slots := osl } := Heap.get?_push_of_some _ hol
  have q1 := F.sub_tuple_set
  have q2 := F.sub_tuple_frozenset
  have q3 : (Value.type "tuple" == Value.type "dict") = false := by decide
  have tup1 : (s.heap.push (set0 led)).IsTuple l items := ⟨_, old, rfl, nl, rfl⟩
  unfold Builtin.«set.__init__» noKeywords Builtin.Frozenset.updateFrom
  generalize hp : pyIter = pit
  wp_walk
  subst hp
  refine wpAny_pyIter_tuple tup1 (wpAny_bind (wpAny_runValue ?_))
  have lt : l < s.heap.objs.size := Heap.lt_size hol
  have ne1 : l ≠ (s.heap.push (set0 led)).objs.size := by
    rw [Heap.size_push]; exact Nat.ne_of_lt (Nat.lt_succ_of_lt lt)
  have ne2 : s.heap.objs.size ∉ [(s.heap.push (set0 led)).objs.size, l] := by
    rw [Heap.size_push]
    intro z
    rcases List.mem_cons.mp z with z | z
    · exact absurd z (Nat.ne_of_lt (Nat.lt_succ_self _))
    · exact absurd (List.mem_singleton.mp z) (Nat.ne_of_gt lt)
  have sz : xs.length = items.size := by rw [← StrsAre.len_eq hi, Array.length_toList]
  have h3 : A.in1.in1.handled = none := by simp [hh]
  refine set_turns ((Walks.tuple h3 _ l ne1 items).toS) s.heap.objs.size ne2 xs sz (by omega) (fun i v hv => SS.strs_at hi i v (by rw [Array.getElem?_toList]; exact hv)) (items.size - 0) 0 _ (by omega) (Nat.zero_le _)
    ?c2 ?c0 ?c1
  case c2 => exact ⟨⟨_, Heap.get?_push_size _ rfl, rfl, rfl⟩, tup1.push _⟩
  case c0 =>
    have g : ((s.heap.push (set0 led)).push { cls := .type "tuple_iterator", data := .fields #[.ref l, .int 0 0] }).get? s.heap.objs.size = some (set0 led) := Heap.get?_push_of_some _ new
    exact SetOf_congr ((setObjOf_fresh (knd := strKind P w) led).setOf g (by unfold scanBound; omega)) (fun _ => rfl) rfl
  case c1 =>
    intro s1 mv set1
    obtain ⟨h1, g1, d1, tk1, os1⟩ := s1
    obtain rfl : g1 = s.gens := mv.gens
    obtain rfl : d1 = s.drawn := mv.drawn
    obtain rfl : os1 = s.os := mv.os
    show wpAny _ _ _ _ _ _
    refine wpAny_pure ?_
    show wpAny _ _ (ret Value.none) _ _ _
    rw [← sz] at set1
    refine wpAny_pure (k h1 tk1 set1 fun b o e => ?_)
    have b1 : b ≠ s.heap.objs.size := Nat.ne_of_lt (Heap.lt_size e)
    have b2 : b ≠ (s.heap.push (set0 led)).objs.size := by
      rw [Heap.size_push]; exact Nat.ne_of_lt (Nat.lt_succ_of_lt (Heap.lt_size e))
    refine mv.heap b o (fun z => ?_) (Heap.get?_push_of_some _ (Heap.get?_push_of_some _ e))
    rcases List.mem_cons.mp z with z | z
    · exact b1 z
    · exact b2 (List.mem_singleton.mp z)
theorem call_set_tup {l : Addr} {items : Array Value} {xs : List Str} {Q : Value → Shared → Prop} (hh : A.handled = none) (hl : s.heap.IsTuple l items) (hi : StrsAre items.toList xs) (hb : xs.length ≤ 1000)
    (k : ∀ (h1 : Heap) (tk : Nat), h1.SetOf (strKind P w) s.heap.objs.size (sAt xs xs.length) (fcnt xs xs.length) → (∀ b o, s.heap.get? b = some o → h1.get? b = some o) → Q (.ref s.heap.objs.size) { s with heap := h1, toks := tk }) :
    wpAny (model P w) A (call (.type "set") [.ref l]) Q E s := by
  obtain ⟨c, tl, mro⟩ := F.called_set.mro
  have made := F.called_set.made
  have sub := F.called_set.sub
  refine wpAny_call (codeAny_of_tree ?_)
  show wpAny _ _ (callAny (.type "set") _) _ _ _
  refine wpAny_pure ⟨Code.quiet_builtin _ (by decide +kernel), codeAny_builtin F.entry_type_call ?_⟩
  rw [Around.under_plain (weight_type_call_type "set" [.ref l] []) rfl]
  have z1 := F.called_set.notType
  have z2 := F.called_set.canCreate
  have z3 := F.typeCall_set_1 (.ref l)
  repeat (any_goals (first | assumption | wp_step))
  refine codeAny_mono (code_set_new_1 (.ref l) (E := E) (Q₁ := fun obj s1 => ∃ led : Bool, obj = .ref s.heap.objs.size ∧ s1 = { s with heap := s.heap.push (set0 led) }) fun led => ⟨led, rfl, rfl⟩) fun r s1 hr => ?_
  cases r with
  | error e => exact hr
  | ok fl =>
    cases fl with
    | ret obj =>
      obtain ⟨led, rfl, rfl⟩ := hr
      have li := F.called_set.init.lookup
      have bi := F.called_set.init.bind (.ref s.heap.objs.size)
      have new : (s.heap.push (set0 led)).get? s.heap.objs.size = some (set0 led) := Heap.get?_push_size _ rfl
      have ty : Shared.TypeIs { s with heap := s.heap.push (set0 led) } (.ref s.heap.objs.size) "set" := ⟨_, new, rfl⟩
      repeat (any_goals (first | assumption | wp_step))
      refine codeAny_mono (set_init_tup (s := s) (led := led) (P := P) (w := w) (E := E) (Q := fun r s2 => r = .none ∧ Q (.ref s.heap.objs.size) s2) (by simp [hh]) hl hi hb fun h1 tk a b => ⟨rfl, k h1 tk a b⟩) fun r2 s2 hr2 => ?_
      cases r2 with
      | error e => exact hr2
      | ok fl2 =>
        cases fl2 with
        | ret v =>
          obtain ⟨rfl, q⟩ := hr2
          repeat (any_goals (first | assumption | wp_step))
        | _ => exact hr2.elim
    | _ => exact hr.elim
end
/-- len(set(t)), t a tuple of texts -/
def tLenSetT (K : PySem.W.Frag) (ta : TE) : TE := fun σ H Q => ta σ H fun x H1 => ∃ (l : Addr) (xs : List Str), x = .ref l ∧ SqT K H1 l (xs.map V.str) ∧ xs.length ≤ 1000 ∧ Q (.int (fcnt xs xs.length : Nat)) H1
theorem pe_lenSetT {X : Cx} {a : Expr} {ta : TE} {p p2 q pos : Pos} (calm : X.calm = true) (gl : Gl X "len") (ml : X.mg "len" = none) (gs : Gl X "set") (ms : X.mg "set" = none) (ha : PE X a ta)
    (st : starEach [a] X.env = (false, eval a X.env) :: starEach [] X.env := by rfl) : PE X (.Call (.Name "len" p) [.Call (.Name "set" p2) [a] [] q] [] pos) (tLenSetT X.K ta) := by
  refine ⟨fun pins s σ H Q I h => ?_⟩
  refine Call_ (ld_blt I gl ml boot_len (callWith_builtin1 (args_cons ?_ rfl) rfl rfl))
  refine Call_ (ld_blt I gs ms boot_set ?_)
  refine callWith_type1 (args_cons (thn (ha.run pins s σ H _ I h) fun v s1 ⟨x, H1, I1, r1, y⟩ => args_nil ?_) st) st rfl
  obtain ⟨l, xs, rfl, hq, hb, y⟩ := y
  cases r1
  obtain ⟨its, r, pl, hz⟩ := I1.tuple hq
  refine call_set_tup (I1.ok.hd calm) pl (by simpa using strsAre_of r) hb fun h1 tk hs hk => args_nil ?_
  obtain ⟨o, es, ep, t, ho, hex, hd, _, _, _, hf, hn⟩ := hs
  have I2 : Inv X pins σ H1 { s1 with heap := h1, toks := tk } := I1.kept hk
  have fl := fcnt_le xs xs.length
  exact call_len_set ho hex hd hf (by rw [hn] <;> omega) ⟨.int (fcnt xs xs.length : Nat), H1, I2.tok _, ⟨_, by rw [hn]⟩, y⟩
end SB

/-! own __contains__, __getitem__, __len__, __eq__ -/
namespace SB
open PySem PySem.Spec PyProof.Rows L2
section
variable {X : Cx} {CX : CXT} {k : Nat} {f C : Addr} {fd : FuncData} {ps : List Str} {sp : Sp} {E : XK}
theorem rv_ref {a : Addr} : L2.RelV (.ref a) (.ref a) := rfl
/-- a callee called at an inner place of the body -/
theorem run_at {A : Around} {pins : List (Addr × Obj)} {σ : L2.St} {H : Hp} {s : Shared} {Q : VK} {us : List Value} {vs : List V} (fr : A.frames = X.A.frames) (F : FnOk X.prog X.w X.K X.mg X.base CX k f fd ps sp) (hr : Room k A) (hb : Binds X.K fd ps []) (hx : Passes CX X E)
    (I : Inv X pins σ H s) (r : Vals vs us) (h : sp vs H Q E) : wpAny (model X.prog X.w) A (call (.ref f) us) (EP X pins σ Q) X.xe s := by
  have hl : us.length = ps.length := by rw [← r.length]; exact F.len _ _ _ _ h
  have e0 : Env0 X.prog X.w X.K X.mg X.base A X.stack s H := by
    have e := I.env0
    exact ⟨by rw [fr]; exact e.frames, e.mod, e.bs, e.bsz, e.funs, e.frf, e.hok, e.bare⟩
  have hb2 := hb s us I.kIn (by simpa using hl)
  rw [List.append_nil] at hb2
  refine wpAny_call (codeAny_mono (F.run A X.stack s H ⟨us, []⟩ us vs Q E hr e0 hb2 r h) fun r2 s2 hq => ?_)
  cases r2 with
  | error e => exact hx pins σ H s e s2 I hq
  | ok fl =>
    cases fl with
    | ret u => exact I.after hq
    | next => exact False.elim hq
    | brk => exact False.elim hq
    | cont => exact False.elim hq
/-- an own method that stands for an operator -/
structure Dun (K : PySem.W.Frag) (C : Addr) (n : Str) (f : Addr) : Prop where
  at_ : PySem.W.findIn K (.ref C) n = some (some (.ref f))
  fn : PySem.W.isFn K (.ref f) = true
theorem inst_of {pins : List (Addr × Obj)} {σ : L2.St} {H : Hp} {s : Shared} {a dx : Addr} {fs : List (Str × V)} (I : Inv X pins σ H s) (ha : H a = some (.ins C dx fs)) : ∃ (ox : Obj) (od : Option Obj), PySem.W.InstAt s.heap a ox C od := by
  obtain ⟨mA, J, _⟩ := ins_get I.hok ha
  obtain ⟨od, J, _⟩ := J.look
  exact ⟨_, _, J⟩
/-- x in o, o with its own __contains__ -/
def rInO (C : Addr) (sp : Sp) (E : XK) (neg : Bool) : R2 := fun x y H Q => ∃ a dx fs, y = .ref a ∧ H a = some (.ins C dx fs) ∧ sp [.ref a, x] H (fun v H2 => ∃ b, v = .bl b ∧ Q (.bl (if neg then !b else b)) H2) E
theorem op_notInO (D : Dun X.K C "__contains__" f) (F : FnOk X.prog X.w X.K X.mg X.base CX k f fd ps sp) (hr : Room k X.A) (hb : Binds X.K fd ps []) (hx : Passes CX X E) : OpR X (compareOp .NotIn) (rInO C sp E true) := by
  intro pins s σ H x y v u Q I rx ry h
  obtain ⟨a, dx, fs, rfl, ha, q⟩ := h
  cases ry
  obtain ⟨ox, od, J⟩ := inst_of I ha
  obtain ⟨m, hF⟩ := I.fr
  refine PySem.W.notIn_K hF I.ok.mod.kin J D.at_ D.fn (wpAny_mono (run_at rfl F hr hb hx I (.cons (rv_ref (a := a)) (.cons rx .nil)) q) (fun r s2 z => ?_) fun _ _ z => z)
  obtain ⟨w, H2, I2, rw', b, rfl, q2⟩ := z
  cases rw'
  exact wpAny_truthy_bool ⟨.bl (!b), H2, I2, rfl, q2⟩
/-- o[x], o with its own __getitem__ -/
def tSubO (C : Addr) (sp : Sp) (E : XK) (ta tb : TE) : TE := fun σ H Q => ta σ H fun y H1 => tb σ H1 fun x H2 => ∃ a dx fs, y = .ref a ∧ H2 a = some (.ins C dx fs) ∧ sp [.ref a, x] H2 Q E
theorem pe_subO {a b : Expr} {ta tb : TE} {pos : Pos} (D : Dun X.K C "__getitem__" f) (fi : PySem.W.fnIn X.K f = true) (F : FnOk X.prog X.w X.K X.mg X.base CX k f fd ps sp) (hr : Room (k + 1) X.A) (hb : Binds X.K fd ps []) (hx : Passes CX X E) (ha : PE X a ta) (hb2 : PE X b tb)
    (hsl : ∀ o i, subscripted b true o i = runValue (.builtin "lifetime.subscript" ⟨[o, i], []⟩) := by intro _ _; rfl) : PE X (.Subscript a b pos) (tSubO C sp E ta tb) := by
  refine ⟨fun pins s σ H Q I h => ?_⟩
  refine Subscript_ (binT ha hb2 I h fun v u s2 x y H2 I2 rx ry z => ?_)
  obtain ⟨p, dx, fs, rfl, hp, q⟩ := z
  cases rx
  obtain ⟨ox, od, J⟩ := inst_of I2 hp
  obtain ⟨m, hF⟩ := I2.fr
  exact PySem.W.sub_K hF I2.ok.mod.kin J D.at_ fi D.fn (run_at rfl F hr.in1 hb hx I2 (.cons (rv_ref (a := p)) (.cons ry .nil)) q) (hsl _ _)
end
end SB

/-! the program's own errors: made, raised, their one value read -/
namespace SB
open PySem PySem.Spec PyProof.Rows L2 Evl
/-- the base class of the errors, as the top leaves it -/
structure LdC (K : PySem.W.Frag) (mg : Str → Option Value) (L : Addr) : Prop where
  g : mg "LoadError" = some (.ref L)
  ga : PySem.W.specialIn K (.ref L) "__getattribute__" = some (some (.builtin "type.__getattribute__"))
  rd : PySem.W.readsIn K L (.type "type") = true
  fc : PySem.W.findCls K (.ref L) (.type "type") "__init__" = some (.val (.builtin "ValueError.__init__"))
section
variable {X : Cx} {e : Expr} {es : List Expr} {ta : TA} {p1 p2 pos : Pos} {L : Addr}
/-- LoadError.__init__(self, ..) -/
theorem pe_linit {pl : Sem Bool} (T : LdC X.K X.mg L) (gl : Gl X "LoadError") (ha : PA X (e :: es) ta)
    (hc : eval (.Call (.Attribute (.Name "LoadError" p1) "__init__" p2) (e :: es) [] pos) X.env = (do
      let o ← eval (.Name "LoadError" p1) X.env
      standAt p2.atName
      let (g, fst) ← holding [o] (getMethod o "__init__" pl)
      callWith pos g fst (backTo pos (starEach (e :: es) X.env)) (backToKw pos (keywordEach [] X.env))) := by rfl)
    (st : starEach (e :: es) X.env = (false, eval e X.env) :: starEach es X.env := by rfl) (pn : (backTo pos (starEach es X.env)).any (·.1) = false := by rfl) :
    PE X (.Call (.Attribute (.Name "LoadError" p1) "__init__" p2) (e :: es) [] pos) (tVeI X.K ta) := by
  refine ⟨fun pins s σ H Q I h => PySem.W.methodCall_KW (ld_glob I gl T.g ?_) hc⟩
  refine PySem.W.method_cls I.kIn T.ga (PySem.W.cls_value I.kIn T.rd T.fc (by decide +kernel) ?_)
  show wpAny _ _ (callWith pos (Value.builtin "ValueError.__init__") [] (backTo pos (starEach (e :: es) X.env)) []) _ _ _
  refine callWith_method1 (thn (ha.run pos pins _ σ H _ (I.tok _) h) fun us s1 ⟨vs, H1, I1, r1, a, C, ws, ev, hl, T2, ea, q⟩ => ?_) st pn
  subst ev
  cases r1 with
  | @cons _ u0 _ ur ra rw' =>
    obtain rfl : u0 = Value.ref a := ra
    refine oinit_ok T2 I1 ea ?_ fun s2 J => ⟨.non, H1, J, rfl, q⟩
    rw [← Paired.length rw', sizeLine_eq]
    omega
end
/-- what an error's __init__ does: its one value is kept under f -/
def spXi (K : PySem.W.Frag) (C : Addr) (f : Str) : Sp := fun vs H Q _ => ∃ (a : Addr) (v : V), vs = [.ref a, v] ∧ H a = some (exo a C none) ∧
  ∀ dx, H dx = none → dx ≠ a → Q .non (upd (upd H dx (exd dx [(f, v)])) a (exo a C (some dx)))
/-- an error class of the program: its maker keeps f -/
structure XC (K : PySem.W.Frag) (mg : Str → Option Value) (x : Str) (f : Str) (C fi : Addr) : Prop where
  g : mg x = some (.ref C)
  o : OexC K C
  i : PySem.W.findIn K (.ref C) "__init__" = some (some (.ref fi))
  t : PySem.W.typeIn K (.ref fi) = some (.type "function")
  no : PySem.W.findIn K (.ref C) f = some none
  xf : XfC K C
  te : PySem.W.exmOne K (.ref C) (.ref C) = some true
/-- X(e): the new error's class and its dict -/
def tMkX (C : Addr) (f : Str) (ta : TA) : L2.St → Hp → XK → Prop := fun σ H Q => ta σ H fun vs H1 => ∃ v, vs = [v] ∧ ∀ d H2, Ex H1 H2 → H1 d = none → H2 d = some (.xd [(f, v)]) → Q (.ref C) (some d) H2
section
variable {X : Cx} {x f : Str} {C fi : Addr} {fd : FuncData} {k : Nat} {p pos : Pos} {e : Expr} {ta : TA}
/-- arguments, by any wish that implies -/
def tMonoA (t : TA) : TA := fun σ H Q => ∃ Q0 : List V → Hp → Prop, t σ H Q0 ∧ ∀ vs H1, Q0 vs H1 → Q vs H1
theorem pa_mono {es : List Expr} {t : TA} (h : PA X es t) : PA X es (tMonoA t) := by
  refine ⟨fun pos pins s σ H Q I z => ?_⟩
  obtain ⟨Q0, z, m⟩ := z
  exact thn (h.run pos pins s σ H Q0 I z) fun us s1 ⟨vs, H1, I1, r, q⟩ => ⟨vs, H1, I1, r, m vs H1 q⟩
theorem pmk_x (T : XC X.K X.mg x f C fi) (F1 : FnOk X.prog X.w X.K X.mg X.base CX0 k fi fd ["self", f] (spXi X.K C f)) (hr : Room (k + 1) X.A) (hb : Binds X.K fd ["self", f] []) (ha : PA X [e] ta) (gl : Gl X x)
    (hdb : (x == ("__debug__" : Str)) = false := by decide) (he : starEach (e :: []) X.env = (false, eval e X.env) :: starEach [] X.env := by rfl) (hpl : (backTo pos (starEach [] X.env)).any (·.1) = false := by rfl) :
    PMk X (.Call (.Name x p) [e] [] pos) (tMkX C f ta) := by
  intro pins s σ H Q I h
  refine pmk_oex T.o T.i T.t F1 hr hb .nil pass0 gl T.g (pa_mono ha) hdb he hpl pins s σ H Q I ⟨_, h, fun vs H1 z => ?_⟩
  obtain ⟨v, rfl, q⟩ := z
  refine ⟨by show 1 ≤ 1000; decide, fun a na => ⟨a, v, rfl, upd_same, fun dx ndx ne => ⟨rfl, dx, [(f, v)], upd_same, ?_, ?_, ?_⟩⟩⟩
  · rw [upd_ne ne, upd_same]
  · rw [upd_ne ne] at ndx; exact ndx
  · have nd : H1 dx = none := by rw [upd_ne ne] at ndx; exact ndx
    refine q dx _ (fun b o hb => ?_) nd upd_same
    have b1 : b ≠ dx := ne_of_none hb nd
    have b2 : b ≠ a := ne_of_none hb na
    rw [upd_ne b1, del_ne b2, upd_ne b2, upd_ne b1, upd_ne b2]
    exact hb
end
end SB

/-! readings step by step -/
namespace SB
open PySem L2 Evl
/-! ### the frozen part of a heap: G stands in H, and no m of M is in it -/
structure Fz (M : List Addr) (G H : Hp) : Prop where
  ex : Ex G H
  out : ∀ m ∈ M, G m = none
theorem Fz.up {M : List Addr} {G H H1 : Hp} (z : Fz M G H) (e : Ex H H1) : Fz M G H1 := ⟨z.ex.trans e, z.out⟩
theorem Fz.to {M : List Addr} {G H H1 : Hp} (z : Fz M G H) (e : ∀ b o, b ∉ M → H b = some o → H1 b = some o) : Fz M G H1 :=
  ⟨fun b o h => e b o (fun hm => by rw [z.out b hm] at h; cases h) (z.ex b o h), z.out⟩
/-- all that stands but M -/
def wo (M : List Addr) (H : Hp) : Hp := fun a => if a ∈ M then none else H a
theorem wo_fz (M : List Addr) (H : Hp) : Fz M (wo M H) H := ⟨fun b o h => by
  unfold wo at h
  split at h
  · cases h
  · exact h, fun m hm => by unfold wo; rw [if_pos hm]⟩
theorem wo_at {M : List Addr} {H : Hp} {a : Addr} {o : HO} (h : H a = some o) (hm : a ∉ M) : wo M H a = some o := by unfold wo; rw [if_neg hm]; exact h
theorem Fz.wo {M : List Addr} {G H : Hp} (z : Fz M G H) : Ex G (SB.wo M H) := fun b o h => wo_at (z.ex b o h) fun hm => by rw [z.out b hm] at h; cases h
/-- what is new in H1 joins the frozen part -/
theorem Fz.grow {M : List Addr} {G H H1 : Hp} (z : Fz M G H) (e : Ex H H1) (hM : ∀ m ∈ M, H m ≠ none) : ∃ G1, Ex G G1 ∧ Fz M G1 H1 ∧ ∀ b o, H b = none → H1 b = some o → G1 b = some o :=
  ⟨SB.wo M H1, (z.up e).wo, wo_fz M H1, fun b o hn hb => wo_at hb fun hm => hM b hm hn⟩

section
variable {σ : L2.St} {H : Hp} {D : Ends} {t u : TS} {te ta tb : TE} {tA tB : TA} {tt : TT} {g : TG} {Q : VK} {QA : List V → Hp → Prop} {QT : Bool → Hp → Prop} {i : Nat} {v : V} {r : R2} {K : PySem.W.Frag}
theorem r_seq (h : t { D with nx := u D } σ H) : tSeq t u D σ H := h
theorem r_next (h : D.nx σ H) : tNext D σ H := h
theorem r_asg (h : te σ H fun x H1 => g x σ H1 D.nx) : tAsg te g D σ H := h
theorem r_name {Q : L2.St → Hp → Prop} (h : Q (σ.set i (some v)) H) : gName i v σ H Q := h
theorem r_ret (h : te σ H D.rt) : tRet te D σ H := h
theorem r_retN (h : D.rt .non H) : tRetN D σ H := h
theorem r_drop (h : te σ H fun _ H1 => D.nx σ H1) : tDrop te D σ H := h
theorem r_if (h : tt σ H fun b H1 => if b = true then t D σ H1 else u D σ H1) : tIfS tt t u D σ H := h
theorem r_var (h : σ[i]? = some (some v)) (q : Q v H) : tVar i σ H Q := ⟨v, h, q⟩
theorem r_c (q : Q v H) : tC v σ H Q := q
theorem r_op (h : ta σ H fun x H1 => tb σ H1 fun y H2 => r x y H2 Q) : tOp r ta tb σ H Q := h
theorem r_un {r : V → Hp → VK → Prop} (h : ta σ H fun x H1 => r x H1 Q) : tUn r ta σ H Q := h
theorem r_nil (h : QA [] H) : tNil σ H QA := h
theorem r_cons (h : ta σ H fun x H1 => tA σ H1 fun xs H2 => QA (x :: xs) H2) : tCons ta tA σ H QA := h
theorem r_CB {r : List V → Hp → VK → Prop} (h : tA σ H fun vs H1 => r vs H1 Q) : tCB r tA σ H Q := h
theorem r_call {sp : Sp} {dvs : List V} {E : XK} (h : tA σ H fun vs H1 => sp (vs ++ dvs) H1 Q E) : tCall sp dvs E tA σ H Q := h
theorem r_test {te : TE} (h : te σ H fun x H1 => ∃ k, x = .bl k ∧ QT k H1) : tTest te σ H QT := h
theorem r_B {te : TE} (h : te σ H fun x H1 => ∃ k, x = .bl k ∧ QT k H1) : L2.tB te σ H QT := h
theorem r_not {tt : TT} (h : tt σ H fun c H1 => QT (!c) H1) : tNot tt σ H QT := h
theorem r_and {tt uu : TT} (h : tt σ H fun c H1 => if c = true then uu σ H1 QT else QT false H1) : tAnd tt uu σ H QT := h
theorem r_or {tt uu : TT} (h : tt σ H fun c H1 => if c = true then QT true H1 else uu σ H1 QT) : tOr tt uu σ H QT := h
theorem r_notV (h : ta σ H fun x H1 => ∃ c, x = .bl c ∧ Q (.bl (!c)) H1) : tNotV ta σ H Q := h
theorem r_andV (h : ta σ H fun x H1 => ∃ c, x = .bl c ∧ if c = true then tb σ H1 Q else Q (.bl false) H1) : tAndV ta tb σ H Q := h
theorem r_orV (h : ta σ H fun x H1 => ∃ c, x = .bl c ∧ if c = true then Q (.bl true) H1 else tb σ H1 Q) : tOrV ta tb σ H Q := h
theorem r_ifE {tt : TT} (h : tt σ H fun c H1 => if c = true then ta σ H1 Q else tb σ H1 Q) : tIf tt ta tb σ H Q := h
theorem r_bl {c : Bool} {P : Bool → Prop} (h : P c) : ∃ k, V.bl c = .bl k ∧ P k := ⟨c, rfl, h⟩
/-- int op int -/
theorem r_I0 {g : Int → Int → V} {a b : Int} (h : Q (g a b) H) : rI0 g (.int a) (.int b) H Q := ⟨a, b, rfl, rfl, h⟩
theorem r_iteT {A B : Prop} {c : Bool} (hc : c = true) (h : A) : if c = true then A else B := by rw [if_pos hc]; exact h
theorem r_iteF {A B : Prop} {c : Bool} (hc : c = false) (h : B) : if c = true then A else B := by rw [hc, if_neg Bool.false_ne_true]; exact h
/-- the size premise of a new list or tuple, and the new place -/
theorem r_new {xs : List V} {o : HO} {H1 : Hp} (hl : xs.length ≤ 100000) (q : ∀ p H2, H1 p = none → Ex H1 H2 → H2 p = some o → Q (.ref p) H2) : xs.length ≤ sizeLine ∧ ∀ p, H1 p = none → Q (.ref p) (upd H1 p o) :=
  ⟨sz_of hl, fun p hp => q p _ hp (Ex.new hp) upd_same⟩
theorem r_tupT (h : tA σ H fun xs H1 => xs.length ≤ sizeLine ∧ ∀ p, H1 p = none → Q (.ref p) (upd H1 p (.tup xs))) : tTup tA σ H Q := h
theorem r_lstT (h : tA σ H fun xs H1 => xs.length ≤ sizeLine ∧ ∀ p, H1 p = none → Q (.ref p) (upd H1 p (.lst xs))) : tLst tA σ H Q := h
end
end SB

namespace SB
open PySem L2 Evl
/-- a drawing well at p: at most n mixed draws so far -/
def WellAt (H : Hp) (p : Addr) (n : Nat) : Prop := ∃ a b c : Int, H p = some (.lst [.int a, .int b, .int c]) ∧ 0 ≤ b ∧ b < 2147483647 ∧ 0 ≤ c ∧ c ≤ n
/-- all that stands but p stands -/
def Sm (p : Addr) (H H' : Hp) : Prop := ∀ b o, b ≠ p → H b = some o → H' b = some o
theorem WellAt.le {H : Hp} {p : Addr} {n m : Nat} (h : WellAt H p n) (e : n ≤ m) : WellAt H p m := by
  obtain ⟨a, b, c, h1, h2, h3, h4, h5⟩ := h
  exact ⟨a, b, c, h1, h2, h3, h4, by omega⟩
theorem WellAt.up {H H1 : Hp} {p : Addr} {n : Nat} (h : WellAt H p n) (e : Ex H H1) : WellAt H1 p n := by
  obtain ⟨a, b, c, h1, h2⟩ := h
  exact ⟨a, b, c, e _ _ h1, h2⟩
theorem WellAt.some {H : Hp} {p : Addr} {n : Nat} (h : WellAt H p n) : H p ≠ none := by
  obtain ⟨a, b, c, h1, _⟩ := h
  rw [h1]; intro z; cases z
theorem Sm.trans {p : Addr} {H H1 H2 : Hp} (a : Sm p H H1) (b : Sm p H1 H2) : Sm p H H2 := fun c o hc h => b c o hc (a c o hc h)
theorem Sm.of {p : Addr} {H H1 : Hp} (e : Ex H H1) : Sm p H H1 := fun b o _ h => e b o h
theorem Sm.refl {p : Addr} {H : Hp} : Sm p H H := fun _ _ _ h => h
theorem Sm.seq {K : PySem.W.Frag} {p l : Addr} {H H1 : Hp} {xs : List V} (e : Sm p H H1) (hl : l ≠ p) (h : SqL K H l xs) : SqL K H1 l xs := by
  rcases h with (h | ⟨o, h⟩) | h
  · exact .inl (.inl (e _ _ hl h))
  · exact .inl (.inr ⟨o, e _ _ hl h⟩)
  · exact .inr h
theorem r_sub {to ti : TE} {t : TSet} {v : V} {σ : L2.St} {H : Hp} {Q : L2.St → Hp → Prop} (h : to σ H fun o H1 => ti σ H1 fun i H2 => t o i v H2 fun H3 => Q σ H3) : gSub to ti t v σ H Q := h
/-! ### readings by name -/
theorem call_lenQ {X : Cx} : CallR X (.builtin "len") (rLenS X.K) := call_len_seq
def rLenStr : List V → Hp → VK → Prop := fun xs H Q => ∃ z, xs = [.str z] ∧ z.length ≤ sizeLine ∧ Q (.int (z.length : Nat)) H
theorem call_listQ {X : Cx} : CallR X (.type "list") (rListS X.K) := call_list_of
def rTupQ (K : PySem.W.Frag) : List V → Hp → VK → Prop := fun xs H Q => ∃ p ys, xs = [.ref p] ∧ ((SqL K H p ys ∧ ∀ l, H l = none → Q (.ref l) (upd H l (.tup ys))) ∨ (SqT K H p ys ∧ Q (.ref p) H))
theorem call_tupQ {X : Cx} : CallR X (.type "tuple") (rTupQ X.K) := call_tuple_of
def rIntQ : List V → Hp → VK → Prop := fun xs H Q => (∃ i, xs = [.int i] ∧ Q (.int i) H) ∨ ∃ k, xs = [.bl k] ∧ Q (.int (if k then 1 else 0)) H
theorem call_intQ {X : Cx} : CallR X (.type "int") rIntQ := call_int1
theorem r_intB {k : Bool} {H : Hp} {Q : VK} (q : Q (.int (if k then 1 else 0)) H) : rIntQ [.bl k] H Q := .inr ⟨k, rfl, q⟩
theorem r_chain {r r' : R2} {ta tb tc : TE} {σ : L2.St} {H : Hp} {Q : VK} (h : ta σ H fun x H1 => tb σ H1 fun y H2 => r x y H2 fun z H3 => ∃ k, z = .bl k ∧ (if k = true then tc σ H3 fun w' H4 => r' y w' H4 Q else Q (.bl false) H3)) : tChain r r' ta tb tc σ H Q := h
theorem r_lenSetT {K : PySem.W.Frag} {ta : TE} {σ : L2.St} {H : Hp} {Q : VK} (h : ta σ H fun x H1 => ∃ (l : Addr) (xs : List Str), x = .ref l ∧ SqT K H1 l (xs.map V.str) ∧ xs.length ≤ 1000 ∧ Q (.int (fcnt xs xs.length : Nat)) H1) : tLenSetT K ta σ H Q := h
/-! ### displays -/
def tLstM (tA : TA) : TE := fun σ H Q => tA σ H fun xs H1 => xs.length ≤ 100000 ∧ ∀ p H2, H1 p = none → Ex H1 H2 → H2 p = some (.lst xs) → Q (.ref p) H2
def tTupM (tA : TA) : TE := fun σ H Q => tA σ H fun xs H1 => xs.length ≤ 100000 ∧ ∀ p H2, H1 p = none → Ex H1 H2 → H2 p = some (.tup xs) → Q (.ref p) H2
theorem PE.by {X : Cx} {e : Expr} {t t' : TE} (h : PE X e t) (i : ∀ σ H Q, t' σ H Q → t σ H Q) : PE X e t' := ⟨fun pins s σ H Q I q => h.run pins s σ H Q I (i σ H Q q)⟩
theorem pe_lstM {X : Cx} {es : List Expr} {tA : TA} {pos : Pos} (h : PA X es tA) : PE X (.List es pos) (tLstM tA) :=
  PE.by (pe_lst (pa_mono h)) fun _ _ _ q => ⟨_, q, fun _ _ z => r_new z.1 z.2⟩
theorem pe_tupM {X : Cx} {es : List Expr} {tA : TA} {k : Nat} {pos : Pos} (h : PA X es tA) : PE X (.Tuple es k pos) (tTupM tA) :=
  PE.by (pe_tup (pa_mono h)) fun _ _ _ q => ⟨_, q, fun _ _ z => r_new z.1 z.2⟩
section
variable {tA : TA} {σ : L2.St} {H : Hp} {Q : VK}
theorem r_lstM (h : tA σ H fun xs H1 => xs.length ≤ 100000 ∧ ∀ p H2, H1 p = none → Ex H1 H2 → H2 p = some (.lst xs) → Q (.ref p) H2) : tLstM tA σ H Q := h
theorem r_tupM (h : tA σ H fun xs H1 => xs.length ≤ 100000 ∧ ∀ p H2, H1 p = none → Ex H1 H2 → H2 p = some (.tup xs) → Q (.ref p) H2) : tTupM tA σ H Q := h
end
/-! ### + and slices -/
theorem OpR.by {X : Cx} {f : Value → Value → Sem Value} {r r' : R2} (h : OpR X f r) (i : ∀ x y H Q, r' x y H Q → r x y H Q) : OpR X f r' := fun pins s σ H x y v u Q I rx ry q => h pins s σ H x y v u Q I rx ry (i x y H Q q)
theorem SlR.by {X : Cx} {r r' : V → Option Int → Option Int → Hp → VK → Prop} (h : SlR X r) (i : ∀ x l u H Q, r' x l u H Q → r x l u H Q) : SlR X r' := fun pins s σ H x v vl vu lo hi sl Q I rx hs pl pu q => h pins s σ H x v vl vu lo hi sl Q I rx hs pl pu (i x lo hi H Q q)
theorem r_sl {r : V → Option Int → Option Int → Hp → VK → Prop} {te : TE} {tl th : TO} {σ : L2.St} {H : Hp} {Q : VK} (h : te σ H fun x H1 => tl σ H1 fun l H2 => th σ H2 fun u H3 => r x l u H3 Q) : tSl r te tl th σ H Q := h
theorem r_noPart {σ : L2.St} {H : Hp} {Q : Option Int → Hp → Prop} (q : Q none H) : tNoPart σ H Q := q
theorem r_part {te : TE} {σ : L2.St} {H : Hp} {Q : Option Int → Hp → Prop} (h : te σ H fun x H1 => ∃ i, x = .int i ∧ Q (some i) H1) : tPart te σ H Q := h
theorem r_intEx {P : Int → Prop} {a : Int} (h : P a) : ∃ i, V.int a = .int i ∧ P i := ⟨a, rfl, h⟩
end SB

namespace SB
open PySem L2 Evl
/-! ### readings closed upward -/
def mE (t : TE) : TE := fun σ H Q => ∃ Q0 : VK, t σ H Q0 ∧ ∀ v H1, Q0 v H1 → Q v H1
def mT (t : TT) : TT := fun σ H Q => ∃ Q0 : Bool → Hp → Prop, t σ H Q0 ∧ ∀ b H1, Q0 b H1 → Q b H1
def mG (t : TG) : TG := fun v σ H Q => ∃ Q0 : L2.St → Hp → Prop, t v σ H Q0 ∧ ∀ s H1, Q0 s H1 → Q s H1
section
variable {X : Cx}
theorem pe_m {e : Expr} {t : TE} (h : PE X e t) : PE X e (mE t) := ⟨fun pins s σ H Q I ⟨Q0, z, m⟩ => thn (h.run pins s σ H Q0 I z) fun _ _ ⟨v, H1, I1, r, q⟩ => ⟨v, H1, I1, r, m v H1 q⟩⟩
theorem pts_m {es : List Expr} {t : TT} (h : PTs X es t) : PTs X es (mT t) := ⟨fun pins s σ H Q I ⟨Q0, z, m⟩ => thn (h.run pins s σ H Q0 I z) fun b _ ⟨H1, I1, q⟩ => ⟨H1, I1, m b H1 q⟩⟩
theorem pg_m {e : Expr} {t : TG} (h : PG X e t) : PG X e (mG t) := ⟨fun pins s σ H v u Q I r ⟨Q0, z, m⟩ => thn (h.run pins s σ H v u Q0 I r z) fun _ _ ⟨s1, H1, I1, q⟩ => ⟨s1, H1, I1, m s1 H1 q⟩⟩
end
theorem mE_of {t : TE} {σ : L2.St} {H : Hp} {Q : VK} (h : t σ H Q) : mE t σ H Q := ⟨Q, h, fun _ _ q => q⟩
theorem mT_of {t : TT} {σ : L2.St} {H : Hp} {Q : Bool → Hp → Prop} (h : t σ H Q) : mT t σ H Q := ⟨Q, h, fun _ _ q => q⟩
theorem mG_of {t : TG} {v : V} {σ : L2.St} {H : Hp} {Q : L2.St → Hp → Prop} (h : t v σ H Q) : mG t v σ H Q := ⟨Q, h, fun _ _ q => q⟩
def tLcM (wi : TI) (g : TG) (tt : TT) (te : TE) (vs : List Nat) : TE := tLc wi (mG g) (mT tt) (mE te) vs
section
variable {X : Cx} {elt tg iter : Expr} {ifs : List Expr} {scope : Scope} {own : List (Str × Nat)} {pos : Pos} {wi : TI} {g : TG} {tt : TT} {te : TE}
theorem pe_lcM (hc : X.calm = true) (hN : X.N.Nodup) (hi : PI X tg iter wi) (ok : BlkOk X.N X.env.scope scope own)
    (hg : ∀ (s : Shared) (H : Hp) (C : Addr) (cl : List (Str × Addr)) (fp : List Addr), PG (X.blk s H scope (compEnvC scope cl C X.env) fp) tg g)
    (ht : ∀ (s : Shared) (H : Hp) (C : Addr) (cl : List (Str × Addr)) (fp : List Addr), PTs (X.blk s H scope (compEnvC scope cl C X.env) fp) ifs tt)
    (he : ∀ (s : Shared) (H : Hp) (C : Addr) (cl : List (Str × Addr)) (fp : List Addr), PE (X.blk s H scope (compEnvC scope cl C X.env) fp) elt te) (hs : ∀ x, foldedSetIterable iter X.env x = pure x := by intro _; rfl) :
    PE X (.ListComp elt [⟨tg, iter, ifs, 0⟩] scope pos) (tLcM wi g tt te (own.map (·.2))) :=
  pe_lc hc hN hi ok (fun s H C cl fp => pg_m (hg s H C cl fp)) (fun s H C cl fp => pts_m (ht s H C cl fp)) (fun s H C cl fp => pe_m (he s H C cl fp)) hs
theorem ps_setLcM {i : Nat} {y : Str} {py spos : Pos} (hc : X.calm = true) (hN : X.N.Nodup) (hy : X.N[i]? = some y) (hyl : X.env.scope.names.lookup y = some .local)
    (hsw : swapsWith (.ListComp elt [⟨tg, iter, ifs, 0⟩] scope pos) (some (.Name y py)) spos.line X.env = pure true) (hi : PI X tg iter wi) (ok : BlkOk X.N X.env.scope scope own)
    (hg : ∀ (s : Shared) (H : Hp) (C : Addr) (cl : List (Str × Addr)) (fp : List Addr), PG (X.blk s H scope (compEnvC scope cl C X.env) fp) tg g)
    (ht : ∀ (s : Shared) (H : Hp) (C : Addr) (cl : List (Str × Addr)) (fp : List Addr), PTs (X.blk s H scope (compEnvC scope cl C X.env) fp) ifs tt)
    (he : ∀ (s : Shared) (H : Hp) (C : Addr) (cl : List (Str × Addr)) (fp : List Addr), PE (X.blk s H scope (compEnvC scope cl C X.env) fp) elt te) (hs : ∀ x, foldedSetIterable iter X.env x = pure x := by intro _; rfl) :
    PS X (.Assign [.Name y py] (.ListComp elt [⟨tg, iter, ifs, 0⟩] scope pos) spos) (tAsg (tLcM wi g tt te (own.map (·.2))) (gName i)) :=
  ps_setLc hc hN hy hyl hsw hi ok (fun s H C cl fp => pg_m (hg s H C cl fp)) (fun s H C cl fp => pts_m (ht s H C cl fp)) (fun s H C cl fp => pe_m (he s H C cl fp)) hs
end
/-- what is left of a comprehension once its source is read -/
def LcEnd (J : It) (g : TG) (tt : TT) (te : TE) (vs : List Nat) (σ : L2.St) (H1 : Hp) (Q : VK) : Prop := ∀ D, H1 D = none → ∃ W : Nat → Nat → Hp → Prop, (∃ m, W 0 m (upd H1 D (.lst []))) ∧ ∀ i m H, W i m H →
  (J.stop i H ∧ Q (.ref D) H) ∨ (J.go i H ∧ ∃ Nx : Hp → Prop, (∀ H', Nx H' → ∃ m', m' < m ∧ W (i + 1) m' H') ∧ ∀ x H', J.yld i H x H' → mG g x (wipe σ vs) H' fun σ2 H2 => wipe σ2 vs = wipe σ vs ∧ mT tt σ2 H2 fun b H3 =>
    if b = true then mE te σ2 H3 fun y H4 => ∃ acc, H4 D = some (.lst acc) ∧ acc.length < sizeLine ∧ Nx (upd H4 D (.lst (acc ++ [y]))) else Nx H3)
theorem r_lc {wi : TI} {g : TG} {tt : TT} {te : TE} {vs : List Nat} {σ : L2.St} {H : Hp} {Q : VK} (h : wi σ H fun J H1 => LcEnd J g tt te vs σ H1 Q) : tLcM wi g tt te vs σ H Q := h
theorem r_iL {K : PySem.W.Frag} {tl : TE} {σ : L2.St} {H : Hp} {R : It → Hp → Prop} (h : tl σ H fun x H1 => ∃ a, x = .ref a ∧ (∃ xs, SqL K H1 a xs) ∧ R (Itl K a) H1) : iList K tl σ H R := h
theorem r_iT {K : PySem.W.Frag} {tl : TE} {σ : L2.St} {H : Hp} {R : It → Hp → Prop} (h : tl σ H fun x H1 => ∃ a, x = .ref a ∧ (∃ xs, SqT K H1 a xs) ∧ R (Itt K a) H1) : iTup K tl σ H R := h
theorem r_iS {tl : TE} {σ : L2.St} {H : Hp} {R : It → Hp → Prop} (h : tl σ H fun v H1 => ∃ x, v = .str x ∧ R (Its x) H1) : iStr tl σ H R := h
theorem r_iR1 {ta : TA} {σ : L2.St} {H : Hp} {R : It → Hp → Prop} (h : ta σ H fun vs H1 => ∃ j : Int, vs = [.int j] ∧ -(2 ^ 62) ≤ j ∧ j < 2 ^ 62 ∧ R (Itr 0 j.toNat) H1) : iRng1 ta σ H R := h
theorem r_iR2 {ta : TA} {σ : L2.St} {H : Hp} {R : It → Hp → Prop} (h : ta σ H fun vs H1 => ∃ i j : Int, vs = [.int i, .int j] ∧ (-(2 ^ 62) ≤ i ∧ i < 2 ^ 62 ∧ -(2 ^ 62) ≤ j ∧ j < 2 ^ 62) ∧ R (Itr i (j - i).toNat) H1) : iRng2 ta σ H R := h
theorem r_for {wi : TI} {g : TG} {tb : TS} {D : Ends} {σ : L2.St} {H : Hp} (h : wi σ H fun J H1 => ∃ W : Nat → Nat → L2.St → Hp → Prop, (∃ m, W 0 m σ H1) ∧ ∀ i m σ H, W i m σ H →
    (J.stop i H ∧ D.nx σ H) ∨ (J.go i H ∧ ∃ N : L2.St → Hp → Prop, (∀ σ' H', N σ' H' → ∃ m', m' < m ∧ W (i + 1) m' σ' H') ∧ ∀ x H', J.yld i H x H' → g x σ H' fun σ2 H2 => tb { D with nx := N, ct := N, bk := D.nx } σ2 H2)) : tFor wi g tb D σ H := h
theorem r_yes {σ : L2.St} {H : Hp} {Q : Bool → Hp → Prop} (q : Q true H) : tYes σ H Q := q
/-! ### texts -/
theorem call_lenStrQ {X : Cx} : CallR X (.builtin "len") rLenStr := call_len_str
theorem r_inS {c : Nat} {z : Str} {H : Hp} {Q : VK} (q : Q (.bl (decide (c ∈ z.cps.toList))) H) : rInS (.str ⟨#[c]⟩) (.str z) H Q := ⟨c, z, rfl, rfl, q⟩
/-- the letters -/
def letters : List Nat := ("abcdefghijklmnopqrstuvwxyz" : Str).cps.toList
def isWord (z : Str) : Bool := decide (1 ≤ z.length) && decide (z.length ≤ 12) && z.cps.toList.all fun c => decide (c ∈ letters)
theorem isWord_len {z : Str} (h : isWord z = true) : 1 ≤ z.length ∧ z.length ≤ 12 := by
  unfold isWord at h
  simp only [Bool.and_eq_true, decide_eq_true_eq] at h
  exact h.1
theorem inV_str (z : Str) (xs : List Str) : inV (.str z) (xs.map V.str) = decide (z ∈ xs) := by
  induction xs with
  | nil => simp [inV]
  | cons x r ih =>
    unfold inV at ih ⊢
    rw [List.map_cons, List.any_cons, ih]
    by_cases e : z = x
    · subst e; simp [eqV]
    · have e2 : eqV (.str x) (.str z) = false := by simp [eqV]; exact fun q => e q.symm
      rw [e2]
      simp [e]
end SB

/-! instances: their fields as written names beside a list of values -/
namespace SB
open PySem L2 Evl
section
variable {K : PySem.W.Frag} {ta tv : TE} {σ : L2.St} {H : Hp} {Q : VK} {f : Str} {D : Ends} {a C dx : Addr} {ks : List Str} {vs : List V} {v : V} {t : TA}
/-- x.f, x a value -/
def FldIn (K : PySem.W.Frag) (f : Str) (x : V) (H : Hp) (Q : VK) : Prop := ∃ a C dx fs v, x = .ref a ∧ H a = some (.ins C dx fs) ∧ Cls K C ∧ NoAttr K C f ∧ fs.lookup f = some v ∧ Q v H
theorem r_fld (h : ta σ H fun x H1 => FldIn K f x H1 Q) : tFld K ta f σ H Q := h
/-- x.f = y, by values -/
def SfldIn (K : PySem.W.Frag) (f : Str) (y x : V) (H : Hp) (N : Hp → Prop) : Prop := ∃ a C dx fs, x = .ref a ∧ H a = some (.ins C dx fs) ∧ Cls K C ∧ NoAttr K C f ∧ fs.length < 1000 ∧ N (upd H a (.ins C dx (putF f y fs)))
theorem r_sfld (h : tv σ H fun y H1 => ta σ H1 fun x H2 => SfldIn K f y x H2 (D.nx σ)) : sFld K ta tv f D σ H := h
theorem r_meth {m : Str} {sp : Sp} {dvs : List V} {E : XK} (h : ta σ H fun x H1 => ∃ a dx fs, x = .ref a ∧ H1 a = some (.ins C dx fs) ∧ fs.lookup m = none ∧ t σ H1 fun ws H2 => sp (x :: (ws ++ dvs)) H2 Q E) : tMeth C m sp dvs E ta t σ H Q := h
theorem r_make {sp : Sp} {dvs : List V} {E : XK} (h : t σ H fun ws H1 => ∀ x dx, H1 x = none → H1 dx = none → dx ≠ x → sp (.ref x :: (ws ++ dvs)) (upd (upd H1 dx (.own x)) x (.ins C dx [])) (fun v H2 => v = .non ∧ Q (.ref x) H2) E) : tMake C sp dvs E t σ H Q := h
theorem r_makeK {n m : Nat} {sp : Sp} {gV : List V → List V → List V} {E : XK} {tk : TA} (h : t σ H fun ws H1 => tk σ H1 fun zs H2 => ws.length = n ∧ zs.length = m ∧ ∀ x dx, H2 x = none → H2 dx = none → dx ≠ x →
  sp (gV (.ref x :: ws) zs) (upd (upd H2 dx (.own x)) x (.ins C dx [])) (fun v H3 => v = .non ∧ Q (.ref x) H3) E) : tMakeK C n m sp gV E t tk σ H Q := h
theorem r_vei (h : t σ H fun vs H1 => ∃ (a C : Addr) (ws : List V), vs = .ref a :: ws ∧ ws.length ≤ 1000 ∧ OexC K C ∧ H1 a = some (exo a C none) ∧ Q .non H1) : tVeI K t σ H Q := h
theorem r_ost {f : Str} (h : tv σ H fun y H1 => ta σ H1 fun x H2 => ∃ a C : Addr, x = .ref a ∧ OexC K C ∧ PySem.W.findIn K (.ref C) f = some none ∧
  ((H2 a = some (exo a C none) ∧ ∀ dx, H2 dx = none → dx ≠ a → D.nx σ (upd (upd H2 dx (exd dx [(f, y)])) a (exo a C (some dx)))) ∨
    ∃ (dx : Addr) (fs : List (Str × V)), H2 a = some (exo a C (some dx)) ∧ H2 dx = some (exd dx fs) ∧ fs.length ≤ 900 ∧ D.nx σ (upd H2 dx (exd dx ((f, y) :: fs))))) : tOst K f ta tv D σ H := h
/-- raise X(e) -/
theorem r_mkx {f : Str} {Qx : XK} (h : t σ H fun vs H1 => ∃ v, vs = [v] ∧ ∀ d H2, Ex H1 H2 → H1 d = none → H2 d = some (.xd [(f, v)]) → Qx (.ref C) (some d) H2) : tMkX C f t σ H Qx := h
end
end SB

/-! the rules whose readings name the written part: with the part told -/
namespace SB
open PySem L2 Evl
section
variable {X : Cx} (K : PySem.W.Frag) (e : X.K = K)
include e
theorem k_in : OpR X (compareOp .In) (rIn K false) := e ▸ op_in_seq
theorem k_notIn : OpR X (compareOp .NotIn) (rIn K true) := e ▸ op_notIn_seq
theorem k_len : CallR X (.builtin "len") (rLenS K) := e ▸ call_lenQ
theorem k_list : CallR X (.type "list") (rListS K) := e ▸ call_listQ
theorem k_tup : CallR X (.type "tuple") (rTupQ K) := e ▸ call_tupQ
theorem k_isi : CallR X (.builtin "isinstance") (rIsi K) := e ▸ call_isi
theorem k_all (c : X.calm = true) : CallR X (.builtin "all") (rAll K) := e ▸ cr_all c
theorem k_sortedS : CallR X (.builtin "sorted") (rSortedS K) := e ▸ cr_sortedS
theorem k_eqD (hu : X.A.units + 64 < cLine) : OpR X (compareOp .Eq) (rEqD K) := e ▸ op_eqD hu
theorem k_neD (hu : X.A.units + 64 < cLine) : OpR X (compareOp .NotEq) (rNeD K) := e ▸ op_neD hu
variable {a : Expr} {es : List Expr} {ta : TE} {tA : TA} {f : Str} {pos p p2 q : Pos} {tg : Expr} {k n : Nat} {t : TGs}
theorem k_fld (ha : PE X a ta) (hb : attributeBase a f X.env (eval a X.env) = eval a X.env := by rfl) : PE X (.Attribute a f pos) (tFld K ta f) := e ▸ pe_fld ha hb
theorem k_pil (ha : PE X a ta) : PI X tg a (iList K ta) := e ▸ pi_list ha
theorem k_pit (ha : PE X a ta) : PI X tg a (iTup K ta) := e ▸ pi_tup ha
theorem k_gtup (hc : X.calm = true) (h : PGs X es t) (hn : (assignEach es X.env).length = n := by rfl) (hst : (assignEach es X.env).findIdx? (·.1) = none := by rfl) : PG X (.Tuple es k pos) (gTup K n t) := e ▸ pg_tup hc h hn hst
theorem k_lenSet (calm : X.calm = true) (gl : Gl X "len") (ml : X.mg "len" = none) (gs : Gl X "set") (ms : X.mg "set" = none) (ha : PE X a ta)
    (st : starEach [a] X.env = (false, eval a X.env) :: starEach [] X.env := by rfl) : PE X (.Call (.Name "len" p) [.Call (.Name "set" p2) [a] [] q] [] pos) (tLenSetT K ta) := e ▸ pe_lenSetT calm gl ml gs ms ha st
variable {CX : CXT} {C fa : Addr} {fd : FuncData} {ps : List Str} {sp : Sp} {E : XK}
end
theorem r_gnil {σ : L2.St} {H : Hp} {Q : L2.St → Hp → Prop} (q : Q σ H) : gNil [] σ H Q := ⟨rfl, q⟩
theorem r_gcons {t : TG} {u : TGs} {v : V} {r : List V} {σ : L2.St} {H : Hp} {Q : L2.St → Hp → Prop} (q : t v σ H fun s h => u r s h Q) : gCons t u (v :: r) σ H Q := ⟨v, r, rfl, q⟩
end SB

/-! xs[::e], e one or minus one -/
namespace SB
open PySem PySem.Spec PyProof.Rows L2 Evl
theorem pick_one (items : Array Value) : slicePick items none none (some 1) = items := by
  unfold slicePick
  have e : sliceBounds none none (some 1) items.size = (0, (items.size : Int), 1) := by
    first | rfl | simp [sliceBounds]
  rw [e]
  have r : sliceRange 0 (items.size : Int) 1 = List.range items.size := by
    have key : ∀ n : Nat, sliceRange 0 (n : Int) 1 = List.range n := by
      intro n
      unfold sliceRange
      by_cases h : (n : Int) > 0
      · have e : ((n : Int) - 0 + 1 - 1) / 1 = (n : Int) := by rw [Int.ediv_one]; omega
        have e2 : ((if (1 : Int) > 0 then (if (n : Int) > 0 then ((n : Int) - 0 + 1 - 1) / 1 else 0) else 0)).toNat = n := by
          rw [if_pos (by decide), if_pos h, e]; simp
        apply List.ext_getElem
        · have hp : 0 < n := by omega
          simp [hp]
        · intro i h1 h2
          simp
      · have z : n = 0 := by omega
        subst z
        simp
    exact key items.size
  rw [r, PySem.W.krv_all]
def tStepL (K : PySem.W.Frag) (te ts : TE) : TE := fun σ H Q => te σ H fun x H1 => ts σ H1 fun y H2 => ∃ (a : Addr) (xs : List V) (n : Int), x = .ref a ∧ y = .int n ∧ (n = 1 ∨ n = -1) ∧ SqL K H2 a xs ∧
  ∀ p H3, H2 p = none → Ex H2 H3 → H3 p = some (.lst (if n = 1 then xs else xs.reverse)) → Q (.ref p) H3
theorem pe_stepL {X : Cx} {K : PySem.W.Frag} (eK : X.K = K) {e st : Expr} {te ts : TE} {p1 pos : Pos} (he : PE X e te) (hst : PE X st ts)
    (hs : subscripted (.Slice none none (some st) p1) = subscripted (.Slice none none (some st) p1) := by rfl) : PE X (.Subscript e (.Slice none none (some st) p1) pos) (tStepL K te ts) := by
  subst eK
  refine ⟨fun pins s σ H Q I h => ?_⟩
  refine Subscript_ (thn (he.run pins s σ H _ I h) fun v s1 ⟨x, H1, I1, r1, q1⟩ => ?_)
  refine wpAny_Slice (thn (po_none.run pins s1 σ H1 (fun o H2 => o = none ∧ H2 = H1) I1 ⟨rfl, rfl⟩) fun vl s2 ⟨l, H2, I2, pl, el, e2⟩ => ?_)
  subst el e2
  refine thn (po_none.run pins s2 σ H2 (fun o H3 => o = none ∧ H3 = H2) I2 ⟨rfl, rfl⟩) fun vu s3 ⟨u, H3, I3, pu, eu, e3⟩ => ?_
  subst eu e3
  have q2 : ∃ Q0 : VK, ts σ H3 Q0 ∧ ∀ y H4, Q0 y H4 → ∃ (a : Addr) (xs : List V) (n : Int), x = .ref a ∧ y = .int n ∧ (n = 1 ∨ n = -1) ∧ SqL X.K H4 a xs ∧
    ∀ p H5, H4 p = none → Ex H4 H5 → H5 p = some (.lst (if n = 1 then xs else xs.reverse)) → Q (.ref p) H5 := ⟨_, q1, fun _ _ z => z⟩
  obtain ⟨Q0, q1, m⟩ := q2
  refine thn (hst.run pins s3 σ H3 Q0 I3 q1) fun vs s4 ⟨y, H4, I4, ps, z⟩ => ?_
  obtain ⟨a, xs, n, rfl, rfl, hn, hx, q⟩ := m _ _ z
  cases r1
  obtain ⟨tk, rfl⟩ := ps
  have I5 : Inv X pins σ H4 { s4 with heap := s4.heap.push { cls := .type "slice", data := .fields #[vl, vu, .int n tk] } } := I4.kept (t' := s4.toks) fun b ob q => Heap.get?_push_of_some _ q
  obtain ⟨its, r, ht, hz⟩ := I5.list hx
  have hlen := r.length
  have pk : slicePick its.toArray none none (some n) = (if n = 1 then its else its.reverse).toArray := by
    rcases hn with rfl | rfl
    · rw [pick_one]; rfl
    · rw [PySem.W.krv_pick]; rfl
  refine tail_any (ops := [.ref a, .ref s4.heap.objs.size]) ht.isList.typeIs (PySem.slot_list_getitem.lookup) ?_ (by with_unfolding_all rfl)
  refine wpAny_getItem_list_slice ht.isList (Heap.IsSliceOf.new _ vl vu (.int n tk)) pl pu (IsPart.int n tk) (by rcases hn with rfl | rfl <;> decide) ?_ (by rw [List.size_toArray]; omega)
  rw [pk]
  refine ⟨.ref _, _, I5.laid (t' := s4.toks) (o := .lst (if n = 1 then xs else xs.reverse)) (fun b ob q => Heap.get?_push_of_some _ q) (Nat.le_refl _) ?_, rfl, q _ _ (I5.hok.fresh (Nat.le_refl _)) (Ex.new (I5.hok.fresh (Nat.le_refl _))) upd_same⟩
  rcases hn with rfl | rfl
  · exact ⟨hz, its, 0, r, Heap.get?_push_size _ rfl⟩
  · exact ⟨by show xs.reverse.length ≤ _; rw [List.length_reverse]; exact hz, its.reverse, 0, r.reverse, Heap.get?_push_size _ rfl⟩
end SB
namespace SB
open PySem L2 Evl
/-! ### data -/
mutual
theorem Dp.up {K : PySem.W.Frag} {H H' : Hp} (e : Ex H H') : ∀ {v : V} {d : PyData}, Dp K H v d → Dp K H' v d
  | _, _, .non => .non
  | _, _, .bl b => .bl b
  | _, _, .int i => .int i
  | _, _, .str x => .str x
  | _, _, .lst h a => .lst (ex_l e h) (DpAll.up e a)
  | _, _, .tup h a => .tup (ex_t e h) (DpAll.up e a)
theorem DpAll.up {K : PySem.W.Frag} {H H' : Hp} (e : Ex H H') : ∀ {vs : List V} {ds : List PyData}, DpAll K H vs ds → DpAll K H' vs ds
  | _, _, .nil => .nil
  | _, _, .cons h a => .cons (Dp.up e h) (DpAll.up e a)
end
theorem eqv_same {d : PyData} (s : SeqAt.shaped d = true) : PyData.eqv d d = true := SeqAt.eqv_refl d (SeqAt.canLay_of_shaped s)
/-- data of small depth that can be laid -/
def Nice (n : Nat) (d : PyData) : Prop := d.canLay0 = true ∧ d.depth ≤ n
theorem Nice.shaped {n : Nat} {d : PyData} (h : Nice n d) (hn : n ≤ 64) : SeqAt.shaped d = true := by
  unfold SeqAt.shaped
  rw [h.1, decide_eq_true (Nat.le_trans h.2 hn)]
  rfl
theorem strOk_word {z : Str} (h : isWord z = true) : PyData.strOk z = true := by
  unfold isWord at h
  simp only [Bool.and_eq_true, List.all_eq_true, decide_eq_true_eq] at h
  have low : ∀ c ∈ letters, c < 0x110000 := by decide +kernel
  unfold PyData.strOk
  rw [← Array.all_toList, List.all_eq_true]
  intro c hc
  exact decide_eq_true (low c (h.2 c hc))
/-- texts of one and two letters -/
def sg (l : Nat) : Str := ⟨#[l]⟩
theorem str_ext {a b : Str} (h : a.cps.toList = b.cps.toList) : a = b := by
  obtain ⟨x⟩ := a
  obtain ⟨y⟩ := b
  congr
  exact Array.toList_inj.mp h
def rAddSQ : R2 := fun x y H Q => ∃ i j, x = .str i ∧ y = .str j ∧ i.length + j.length ≤ sizeLine ∧ Q (.str (i ++ j)) H
theorem op_addSQ {X : Cx} : OpR X (binaryOp .Add) rAddSQ := op_add_str
theorem r_step {K : PySem.W.Frag} {te ts : TE} {σ : L2.St} {H : Hp} {Q : VK} (h : te σ H fun x H1 => ts σ H1 fun y H2 => ∃ (a : Addr) (xs : List V) (n : Int), x = .ref a ∧ y = .int n ∧ (n = 1 ∨ n = -1) ∧ SqL K H2 a xs ∧
  ∀ p H3, H2 p = none → Ex H2 H3 → H3 p = some (.lst (if n = 1 then xs else xs.reverse)) → Q (.ref p) H3) : tStepL K te ts σ H Q := h
theorem r_rU {g : Int → V} {a : Int} {H : Hp} {Q : VK} (q : Q (g a) H) : rU g (.int a) H Q := ⟨a, rfl, q⟩
/-! ### all but the well -/
def fz (p : Addr) (H : Hp) : Hp := fun a => if a = p then none else H a
theorem ty_sqT {K : PySem.W.Frag} {H : Hp} {a : Addr} {xs : List V} (h : SqT K H a xs) : TyX K H (.ref a) (.type "tuple") := by
  rcases h with (h | ⟨o, h⟩) | ⟨o, its, n, h, c, _⟩
  · exact .base (.tup h)
  · exact .fTuple h
  · exact .kTuple h c
/-- a law: a list of at most 63 ints is handed in, True comes out -/
def spLaw (K : PySem.W.Frag) : Sp := fun vs H Q _ => ∃ (a : Addr) (ns : List Int), vs = [.ref a] ∧ SqL K H a (ns.map V.int) ∧ ns.length ≤ 63 ∧ ∀ H', Q (.bl true) H'
end SB

/-! try with several clauses, each with or without a name -/
namespace SB
open PySem PySem.Spec PyProof.Rows L2
/-- a clause: the class that it names, its name's slot, its suite -/
structure Clz where
  c : Value
  o : Option Nat
  ts : Addr → Value → Option Addr → TS
/-- the slot of the name holds v -/
def nm (o : Option Nat) (v : Option V) (σ : L2.St) : L2.St := match o with
  | none => σ
  | some i => σ.set i v
/-- the suite's ends, the name gone -/
def ends (o : Option Nat) (D : Ends) : Ends := { nx := fun σ H => D.nx (nm o none σ) H, rt := D.rt, bk := fun σ H => D.bk (nm o none σ) H, ct := fun σ H => D.ct (nm o none σ) H }
def wCl (K : PySem.W.Frag) (Wout : WX) (D : Ends) : List Clz → WX
  | [] => Wout
  | z :: r => fun cls d σ H => ∃ b, PySem.W.exmOne K cls z.c = some b ∧ (b = true → ∀ a, H a = none → z.ts a cls d (ends z.o D) (nm z.o (some (.ref a)) σ) H) ∧ (b = false → wCl K Wout D r cls d σ H)
inductive ClOk (X : Cx) : List ExceptHandler → List Clz → Prop
  | nil : ClOk X [] []
  | bare {x : Str} {c : Value} {ts : Addr → Value → Option Addr → TS} {b : Stmt} {su : List Stmt} {p q : Pos} {hs : List ExceptHandler} {l : List Clz} (hc : Names X x c)
      (hsu : ∀ (a : Addr) (oe : Obj) (cls : Value) (d : Option Addr) (pn : List (Addr × Obj)), Zc cls d oe → (∃ vs, oe.data = .fields vs) → PSs (X.suite a ((a, oe) :: pn)) (b :: su) (ts a cls d))
      (r : ClOk X hs l) : ClOk X (.ExceptHandler (some (.Name x p)) none (b :: su) q :: hs) (⟨c, none, ts⟩ :: l)
  | named {x n : Str} {i : Nat} {c : Value} {ts : Addr → Value → Option Addr → TS} {b : Stmt} {su : List Stmt} {p q : Pos} {hs : List ExceptHandler} {l : List Clz} (hN : X.N.Nodup) (hi : X.N[i]? = some n) (hk : X.env.kindOf n = some .local) (hc : Names X x c)
      (hsu : ∀ (a : Addr) (oe : Obj) (cls : Value) (d : Option Addr) (pn : List (Addr × Obj)), Zc cls d oe → (∃ vs, oe.data = .fields vs) → PSs (X.suite a ((a, oe) :: pn)) (b :: su) (ts a cls d))
      (r : ClOk X hs l) : ClOk X (.ExceptHandler (some (.Name x p)) (some n) (b :: su) q :: hs) (⟨c, some i, ts⟩ :: l)
/-- an exception at a that this frame has noted; sI: the state without it -/
structure Got (X : Cx) (pins : List (Addr × Obj)) (σ : L2.St) (H : Hp) (cls : Value) (d : Option Addr) (a : Addr) (B : Heap) (sI s : Shared) : Prop where
  inv : Inv X pins σ H sI
  nb : ∀ b o, sI.heap.get? b = some o → b ∉ frs X.stack → B.get? b = some o
  up : sI.heap.UpToSlots s.heap
  os : s.os = sI.os
  ag : AllBare s.gens
  na : H a = none
  fl : HandSPX.FlyingZ B (X.env :: X.outer) a (Zc cls d) s.heap
section
variable {X : Cx} {pins : List (Addr × Obj)} {σ : L2.St} {H : Hp} {cls : Value} {d : Option Addr} {a : Addr} {B : Heap} {sI s : Shared} {D : Ends} {Wout : WX}
theorem Got.here (g : Got X pins σ H cls d a B sI s) : Inv X pins σ H s := g.inv.landed g.nb g.fl.1 g.up g.os g.ag
theorem Got.off (g : Got X pins σ H cls d a B sI s) (hf : X.env.frame = some X.env.locals) : ∃ oe vs, s.heap.get? a = some oe ∧ Zc cls d oe ∧ oe.data = .fields vs ∧ a ≠ X.env.locals ∧ a ∉ X.fs := by
  obtain ⟨oe, vs, h1, h2, h3⟩ := g.fl.there
  have out : a ∉ frs (X.env :: X.outer) := by
    intro hm
    obtain ⟨_, o1, z, nf⟩ := g.fl.2.2.1.mem hm
    have zz := z.symm.trans h1
    injection zz with zz
    exact nf vs (by rw [zz]; exact h3)
  refine ⟨oe, vs, h1, h2, h3, fun z => ?_, fun hm => ?_⟩
  · refine out (List.mem_filterMap.mpr ⟨X.env, by simp, ?_⟩)
    rw [z]
    exact hf
  · obtain ⟨e, he, q⟩ := List.mem_filterMap.mp hm
    exact out (List.mem_filterMap.mpr ⟨e, List.mem_cons.mpr (.inr he), q⟩)
theorem Got.land (g : Got X pins σ H cls d a B sI s) {h : Heap} (fl : HandSPX.FlyingZ B (X.env :: X.outer) a (Zc cls d) h) (u : s.heap.UpToSlots h) : Got X pins σ H cls d a B sI { s with heap := h } :=
  ⟨g.inv, g.nb, g.up.trans u, g.os, g.ag, g.na, fl⟩
theorem Got.suite (g : Got X pins σ H cls d a B sI s) (hf : X.env.frame = some X.env.locals) : ∃ oe vs, Zc cls d oe ∧ oe.data = .fields vs ∧ s.heap.get? a = some oe ∧ Inv (X.suite a ((a, oe) :: (X.pn ++ pins))) [] σ H s := by
  obtain ⟨oe, vs, e1, e2, e3, e4, e5⟩ := g.off hf
  exact ⟨oe, vs, e2, e3, e1, g.here.suite e1 e3 g.na e4 e5⟩
/-- no clause is left: it flies on -/
theorem Got.fly (g : Got X pins σ H cls d a B sI s) (hs : X.stack = X.env :: X.outer) (hf : X.env.frame = some X.env.locals) (tk : Takes X Wout) (w : Wout cls d σ H) : wpAny (model X.prog X.w) X.A (handleBy (.ref a) X.env []) (SP X pins D) X.xe s := by
  refine wpAny_handleBy_nil ?_
  obtain ⟨_, _, _, oe, vs, T, oT, ts, q1, _, q2, q3, _⟩ := id g.fl
  have go : wpAny (model X.prog X.w) X.A (setFlight (.ref a) X.env.frame) (fun _ u => wpAny (model X.prog X.w) X.A (throw (.ref a) : Sem Flow) (SP X pins D) X.xe u) X.xe s := by
    rw [hf]
    refine HandSPX.setFlight_upZ g.fl fun h' hh u => wpAny_throw (tk _ _ ?_)
    refine ⟨a, B, sI, pins, σ, H, cls, d, rfl, g.inv, g.nb, g.up.trans u, ?_, g.na, g.os, g.ag, w⟩
    rw [hs]
    exact .inr (.inr hh)
  unfold PySem.passOn
  refine wpAny_bind (wpAny_field q1 q2 q3 ?_)
  have no : ¬ ((Value.ref T == Value.none) = true) := by simp
  rw [if_neg no]
  first | exact wpAny_bind (wpAny_pure (wpAny_bind go)) | exact wpAny_bind go
/-- the class that a clause names is looked up -/
theorem names_ok {x : Str} {c : Value} {p : Pos} {pn : List (Addr × Obj)} {oe : Obj} (hc : Names X x c) (I : Inv (X.suite a ((a, oe) :: pn)) [] σ H s) {Q E : Value → Shared → Prop} (q : Q c s) : wpAny (model X.prog X.w) (X.A.mark (some (.ref a))) (eval (.Name x p) X.env) Q E s := by
  obtain ⟨g1, g2, g3⟩ := hc
  rcases g3 with m | ⟨m, bb, ne⟩
  · exact ld_glob (X := X.suite a ((a, oe) :: pn)) I g1 m q g2
  · exact ld_blt (X := X.suite a ((a, oe) :: pn)) I g1 m bb q ne g2
/-- the clauses -/
theorem handle_ok {hds : List ExceptHandler} {l : List Clz} (hh : ClOk X hds l) (hs : X.stack = X.env :: X.outer) (hf : X.env.frame = some X.env.locals) (tk : Takes X Wout) :
    ∀ {s : Shared}, Got X pins σ H cls d a B sI s → wCl X.K Wout D l cls d σ H → wpAny (model X.prog X.w) X.A (handleBy (.ref a) X.env hds) (SP X pins D) X.xe s := by
  induction hh with
  | nil => intro s g w; exact g.fly hs hf tk w
  | @bare x c ts b0 su p q hs2 l2 hc hsu r ih =>
    intro s g ⟨b, hb, yes, no⟩
    obtain ⟨oe, vs, e1, e2, e3, S⟩ := g.suite hf
    refine wpAny_handleBy_cons (codeAny_handlers_test ?_) (by intro z; cases z)
    have cl : PySem.W.Looks (model X.prog X.w) s.heap (typeOf (.ref a)) cls := by
      intro A2 Q2 E2 s2 kp q2
      refine wpAny_typeOf_ref (kp _ _ e3) ?_
      rw [e1.1]
      exact q2
    refine names_ok hc S ((PySem.W.exm_one (M := model X.prog X.w) g.here.kIn cl hb).here ?_)
    cases b with
    | false => exact ih g (no rfl)
    | true =>
      refine codeAny_handlers_suite (HandSPX.lands_againZ g.fl fun h4 fl4 up4 => ?_)
      have g4 := g.land fl4 up4
      obtain ⟨o4, vs4, z1, z2, z3, S4⟩ := g4.suite hf
      have run := (hsu a o4 cls d (X.pn ++ pins) z1 ⟨vs4, z2⟩).run [] _ σ H (ends none D) S4 (yes rfl a g.na)
      refine wpAny_mono run (fun f s6 sp => ?_) fun _ _ z => z.elim
      have ok := g.inv.ok
      cases f with
      | ret u => obtain ⟨v, σ6, H6, I6, r6, q6⟩ := sp; exact ⟨v, σ6, H6, I6.unsuite ok, r6, q6⟩
      | next => obtain ⟨σ6, H6, I6, q6⟩ := sp; exact ⟨σ6, H6, I6.unsuite ok, q6⟩
      | brk => obtain ⟨σ6, H6, I6, q6⟩ := sp; exact ⟨σ6, H6, I6.unsuite ok, q6⟩
      | cont => obtain ⟨σ6, H6, I6, q6⟩ := sp; exact ⟨σ6, H6, I6.unsuite ok, q6⟩
  | @named x n i c ts b0 su p q hs2 l2 hN hi hk hc hsu r ih =>
    intro s g ⟨b, hb, yes, no⟩
    obtain ⟨oe, vs, e1, e2, e3, S⟩ := g.suite hf
    refine wpAny_handleBy_cons (codeAny_handlers_test ?_) (by intro z; cases z)
    have cl : PySem.W.Looks (model X.prog X.w) s.heap (typeOf (.ref a)) cls := by
      intro A2 Q2 E2 s2 kp q2
      refine wpAny_typeOf_ref (kp _ _ e3) ?_
      rw [e1.1]
      exact q2
    refine names_ok hc S ((PySem.W.exm_one (M := model X.prog X.w) g.here.kIn cl hb).here ?_)
    cases b with
    | false => exact ih g (no rfl)
    | true =>
      refine codeAny_handlers_suite_as (HandSPX.lands_againZ g.fl fun h4 fl4 up4 => ?_)
      have g4 := g.land fl4 up4
      obtain ⟨o4, vs4, z1, z2, z3, S4⟩ := g4.suite hf
      refine store_ok (X := X.suite a ((a, o4) :: (X.pn ++ pins))) (v := .ref a) S4 hN hi (.inl hk) rfl (fun s5 S5 => ?_) (.inr hk)
      have run := (hsu a o4 cls d (X.pn ++ pins) z1 ⟨vs4, z2⟩).run [] s5 _ H (ends (some i) D) S5 (yes rfl a g.na)
      refine wpAny_mono run (fun f s6 sp => ?_) fun _ _ z => z.elim
      have ok := g.inv.ok
      cases f with
      | ret u => obtain ⟨v, σ6, H6, I6, r6, q6⟩ := sp; exact gone_ok (I6.unsuite ok) hN hi hk fun s7 J => ⟨v, _, H6, J, r6, q6⟩
      | next => obtain ⟨σ6, H6, I6, q6⟩ := sp; exact gone_ok (I6.unsuite ok) hN hi hk fun s7 J => ⟨_, H6, J, q6⟩
      | brk => obtain ⟨σ6, H6, I6, q6⟩ := sp; exact gone_ok (I6.unsuite ok) hN hi hk fun s7 J => ⟨_, H6, J, q6⟩
      | cont => obtain ⟨σ6, H6, I6, q6⟩ := sp; exact gone_ok (I6.unsuite ok) hN hi hk fun s7 J => ⟨_, H6, J, q6⟩
/-- the reading of a try: the body's, with the clauses' wish of its exceptions -/
def tTry (K : PySem.W.Frag) (Wout : WX) (l : List Clz) (tb : WX → TS) : TS := fun D σ H => tb (wCl K Wout D l) D σ H
theorem ps_try {body : List Stmt} {h0 : ExceptHandler} {hds : List ExceptHandler} {l : List Clz} {tb : WX → TS} {pos : Pos} (hs : X.stack = X.env :: X.outer) (hf : X.env.frame = some X.env.locals) (tk : Takes X Wout)
    (hb : ∀ (W : WX) (pn : List (Addr × Obj)) (xe : Value → Shared → Prop), Takes (X.tr pn xe) W → PassesOwn (model X.prog X.w) X.A X.env xe → PSs (X.tr pn xe) body (tb W)) (hh : ClOk X (h0 :: hds) l) :
    PS X (.Try body (h0 :: hds) [] [] pos) (tTry X.K Wout l tb) := by
  refine ⟨fun pins s σ H D I h => ?_⟩
  have ok := I.ok
  refine wpAny_Try_except ?_
  let K1 : Value → Shared → Prop := fun e s1 => wpAny (model X.prog X.w) X.A (noteFrame e X.env) (fun _ s2 => wpAny (model X.prog X.w) X.A (setFlight e none) (fun _ s3 => wpAny (model X.prog X.w) X.A (handleBy e X.env (h0 :: hds)) (SP X pins D) X.xe s3) X.xe s2) X.xe s1
  have tk1 : Takes (X.tr (X.pn ++ pins) K1) (wCl X.K Wout D l) := by
    intro u s2 xx
    obtain ⟨a, B, sI, pins2, σ2, H2, cls, d, rfl, J, nb, up, sky, na, os, ag, w⟩ := xx
    have sky2 : Sky B (X.env :: X.outer) a (Zc cls d) X.env.locals s2.heap := hs ▸ sky
    show wpAny (model X.prog X.w) X.A (noteFrame (.ref a) X.env) _ _ _
    refine Sky.land Zc.steady (ok.frames.trans (congrArg some hs)) hf sky2 fun h3 fl3 up3 => ?_
    exact handle_ok hh hs hf tk (⟨J.ofTry ok, nb, up.trans up3, os, ag, na, fl3⟩ : Got X pins σ2 H2 cls d a B sI { s2 with heap := h3 }) w
  refine wpAny_mono ((hb _ _ K1 tk1 PassesOwn.looking).run [] s σ H D (I.toTry K1) h) (fun f s1 sp => ?_) fun e s1 he => he
  cases f with
  | ret u => obtain ⟨v, σ6, H6, I6, r6, q6⟩ := sp; exact ⟨v, σ6, H6, I6.ofTry ok, r6, q6⟩
  | next => obtain ⟨σ6, H6, I6, q6⟩ := sp; exact wpAny_execs_nil ⟨σ6, H6, I6.ofTry ok, q6⟩
  | brk => obtain ⟨σ6, H6, I6, q6⟩ := sp; exact ⟨σ6, H6, I6.ofTry ok, q6⟩
  | cont => obtain ⟨σ6, H6, I6, q6⟩ := sp; exact ⟨σ6, H6, I6.ofTry ok, q6⟩
end
end SB

/-! which class stands below which, from the facts that the head answers -/
namespace SB
open PySem PySem.Spec PyProof.Rows L2
theorem exm_sub {K : PySem.W.Frag} {t : Value} {S : Addr} {b : Bool} (h1 : PySem.W.subIn K (.ref S) (.type "BaseException") = some true) (h2 : PySem.W.isClsIn K S = true) (h3 : PySem.W.typeIn K (.ref S) = some (.type "type")) (h4 : PySem.W.subIn K t (.ref S) = some b) : PySem.W.exmOne K t (.ref S) = some b := by
  have e2 : ((PySem.W.clsIn K S).isSome && PySem.W.typeIn K (.ref S) == some (.type "type")) = true := by
    have h5 : (PySem.W.clsIn K S).isSome = true := h2
    rw [h5, h3] <;> rfl
  have e1 : (PySem.W.subIn K (.ref S) (.type "BaseException") == some true) = true := by rw [h1] <;> rfl
  unfold PySem.W.exmOne
  rw [if_pos e1]
  show (if ((PySem.W.clsIn K S).isSome && PySem.W.typeIn K (.ref S) == some (.type "type")) = true then PySem.W.subIn K t (.ref S) else none) = some b
  rw [if_pos e2]
  exact h4
end SB

/-! stepping through tries; more -/
namespace SB
open PySem PySem.Spec PyProof.Rows L2 Evl
/-- a callee of a try's body -/
def eTry (n : Nat) (W : WX) : XK := fun cls d H => ∀ σ : L2.St, σ.length = n → W cls d σ H
section
variable {K : PySem.W.Frag} {Wout : WX} {l : List Clz} {tb : WX → TS} {D : Ends} {σ : L2.St} {H : Hp}
theorem r_try (h : tb (wCl K Wout D l) D σ H) : tTry K Wout l tb D σ H := h
theorem r_bm {T : String} {r : V → List V → Hp → VK → Prop} {to : TE} {t : TA} {Q : VK} (h : to σ H fun x H1 => tyV K T x H1 ∧ t σ H1 fun xs H2 => r x xs H2 Q) : tBM K T r to t σ H Q := h
theorem r_bm0 {T : String} {r : V → List V → Hp → VK → Prop} {to : TE} {Q : VK} (h : to σ H fun x H1 => tyV K T x H1 ∧ r x [] H1 Q) : tBM0 K T r to σ H Q := h
theorem Ex.sm {p : Addr} {G H1 : Hp} (e : Ex G H) (g : G p = none) (s : Sm p H H1) : Ex G H1 := fun a o h => s a o (fun z => by rw [z, g] at h; cases h) (e a o h)
/-- many places frozen -/
def fr (ps : List Addr) (H : Hp) : Hp := fun a => if a ∈ ps then none else H a
/-- what is new over H -/
def nw (H H1 : Hp) : Hp := fun a => match H a with
  | none => H1 a
  | some _ => none
theorem ex_none {H1 : Hp} {a : Addr} (e : Ex H H1) (n : H1 a = none) : H a = none := by
  cases q : H a with
  | none => rfl
  | some o => rw [e a o q] at n; cases n
theorem sm_none {H1 : Hp} {p a : Addr} (e : Sm p H H1) (n : H1 a = none) (h : a ≠ p) : H a = none := by
  cases q : H a with
  | none => rfl
  | some o => rw [e a o h q] at n; cases n
end
end SB

/-! != of objects with a == of their own -/
namespace SB
open PySem PySem.Spec PyProof.Rows L2 Evl Builtin
section
variable {prog : Program} {w : World} {A : Around} {E : Value → Shared → Prop} {s : Shared} {K : PySem.W.Frag} {x C f : Addr} {ox : Obj} {od : Option Obj} {b tb : Value}
end
/-- object's own != stands -/
structure NeC (K : PySem.W.Frag) (C : Addr) : Prop where
  ne : PySem.W.findIn K (.ref C) "__ne__" = some (some (.builtin "object.__ne__"))
  mr : PySem.W.mroIn K C (.type "object") = some true
end SB

/-! != of things that are the same, of a list of objects and an empty one -/
namespace SB
open PySem PySem.Spec PyProof.Rows L2 Evl
section
variable {X : Cx} {K : PySem.W.Frag} {H : Hp}
/-- an item that is the same object, or the same number, text, bool, None -/
def Itm (x : V) : Prop := (∃ a, x = .ref a) ∨ flatV x = true
/-- the same thing twice, or two tuples | lists of the same things -/
inductive Same2 (K : PySem.W.Frag) (H : Hp) : V → V → Prop
  | flat {x y : V} : scal x y = true → x = y → Same2 K H x y
  | tup {a b : Addr} {xs : List V} : SqT K H a xs → SqT K H b xs → (∀ x ∈ xs, Itm x) → Same2 K H (.ref a) (.ref b)
  | lst {a b : Addr} {xs : List V} : SqL K H a xs → SqL K H b xs → (∀ x ∈ xs, Itm x) → Same2 K H (.ref a) (.ref b)
  | dic {a b : Addr} : H a = some (.dK []) → H b = some (.dK []) → Same2 K H (.ref a) (.ref b)
/-- sorted(d), d a dict with texts for keys -/
def rSortDK : List V → Hp → VK → Prop := fun xs H Q => ∃ (a : Addr) (kvs : List (Key × V)) (ks : List Str), xs = [.ref a] ∧ Rd H a (.dK kvs) ∧ kvs.map (·.1) = ks.map Sum.inr ∧ ks.length < 64 ∧ ∀ ys p, ys.Perm ks → sortedS ys = true → H p = none → Q (.ref p) (upd H p (.lst (ys.map V.str)))
theorem r_iE {ta : TA} {σ : L2.St} {R : It → Hp → Prop} (h : ta σ H fun vs H1 => ∃ a xs, vs = [V.ref a] ∧ SqL K H1 a xs ∧ R (Ite K a) H1) : iEnum K ta σ H R := h
theorem r_tDIn {ty td : TE} {σ : L2.St} {Q : VK} (h : ty σ H fun y H1 => td σ H1 fun x H2 => ∃ a o, x = .ref a ∧ DGet H2 a y o ∧ Q (.bl o.isSome) H2) : tDIn ty td σ H Q := h
theorem r_tDNotIn {ty td : TE} {σ : L2.St} {Q : VK} (h : ty σ H fun y H1 => td σ H1 fun x H2 => ∃ a o, x = .ref a ∧ DGet H2 a y o ∧ Q (.bl (!o.isSome)) H2) : tDNotIn ty td σ H Q := h
theorem r_tDGet {ty td : TE} {σ : L2.St} {Q : VK} (h : td σ H fun x H1 => ty σ H1 fun y H2 => ∃ a v, x = .ref a ∧ DGet H2 a y (some v) ∧ Q v H2) : tDGet td ty σ H Q := h
theorem r_sDPut {ty td tv : TE} {D : Ends} {σ : L2.St} (h : tv σ H fun v H1 => td σ H1 fun x H2 => ty σ H2 fun y H3 => ∃ a H4, x = .ref a ∧ DPut H3 a y v H4 ∧ D.nx σ H4) : sDPut td ty tv D σ H := h
theorem r_subO {C : Addr} {sp : Sp} {E : XK} {ta tb : TE} {σ : L2.St} {Q : VK} (h : ta σ H fun y H1 => tb σ H1 fun x H2 => ∃ a dx fs, y = .ref a ∧ H2 a = some (.ins C dx fs) ∧ sp [.ref a, x] H2 Q E) : tSubO C sp E ta tb σ H Q := h
theorem k_sortDK (c : X.calm = true) : CallR X (.builtin "sorted") rSortDK := call_sortedD c
end
end SB

/-! sorted lists of texts -/
namespace SB
open PySem PySem.Spec PyProof.Rows L2 Evl
abbrev leS (a b : Str) : Prop := a.cps.toList ≤ b.cps.toList
theorem leS_of {a b : Str} (h : ltCps b.cps.toList a.cps.toList = false) : leS a b := by
  rw [ltCps_eq] at h
  exact List.not_lt.mp (of_decide_eq_false h)
theorem rising_pw : ∀ (p : Str) (l : List Str), risingS p l = true → (p :: l).Pairwise leS
  | p, [], _ => by simp
  | p, x :: r, h => by
    have h1 : (!ltCps x.cps.toList p.cps.toList && risingS x r) = true := h
    rw [Bool.and_eq_true] at h1
    have ih := rising_pw x r h1.2
    have px : leS p x := leS_of (by simpa using h1.1)
    refine List.pairwise_cons.mpr ⟨fun z hz => ?_, ih⟩
    rcases List.mem_cons.mp hz with rfl | hz
    · exact px
    · exact List.le_trans px ((List.pairwise_cons.mp ih).1 z hz)
theorem sorted_pw : ∀ {l : List Str}, sortedS l = true → l.Pairwise leS
  | [], _ => .nil
  | x :: r, h => rising_pw x r h
theorem sorted_uniq {ys zs : List Str} (p : ys.Perm zs) (h1 : sortedS ys = true) (h2 : sortedS zs = true) : ys = zs :=
  List.Perm.eq_of_pairwise (fun a b _ _ h1 h2 => str_ext (List.le_antisymm h1 h2)) (sorted_pw h1) (sorted_pw h2) p
end SB

/-! errors as values: made, their one value read, isinstance -/
namespace SB
open PySem PySem.Spec PyProof.Rows L2 Evl
section
variable {X : Cx} {x f : Str} {C fi : Addr} {fd : FuncData} {k : Nat} {p pos : Pos} {e : Expr} {ta : TA}
/-- err.f of an error that is a value -/
def tXa (C : Addr) (n : Str) (te : TE) : TE := fun σ H Q => te σ H fun x H1 => ∃ a dd fs v, x = .ref a ∧ H1 a = some (exo a C (some dd)) ∧ H1 dd = some (exd dd fs) ∧ fs.lookup n = some v ∧ Q v H1
end
section
variable {prog : Program} {w : World} {A : Around} {E : Value → Shared → Prop} {s : Shared} {K : PySem.W.Frag} {x D : Addr} {ox od : Obj}
end
section
variable {K : PySem.W.Frag} {H : Hp} {σ : L2.St}
def pXa (C : Addr) (n : Str) (x : V) (H1 : Hp) (Q : VK) : Prop := ∃ a dd fs v, x = .ref a ∧ H1 a = some (exo a C (some dd)) ∧ H1 dd = some (exd dd fs) ∧ fs.lookup n = some v ∧ Q v H1
theorem r_xa0 {C : Addr} {n : Str} {te : TE} {Q : VK} (h : te σ H fun x H1 => pXa C n x H1 Q) : tXa C n te σ H Q := h
end
end SB

/-! set(list of texts), as SBset2 has it of a tuple -/
namespace SB
open PySem PySem.Spec PyProof.Rows L2
section
variable {P : Program} {w : World} {A : Around} {E : Value → Shared → Prop} {s : Shared}
theorem set_init_lst {led : Bool} {l : Addr} {items : Array Value} {xs : List Str} {Q : Value → Shared → Prop} (hh : A.handled = none) (hl : s.heap.IsList l items) (hi : StrsAre items.toList xs) (hb : xs.length ≤ 1000)
    (k : ∀ (h1 : Heap) (tk : Nat), h1.SetOf (strKind P w) s.heap.objs.size (sAt xs xs.length) (fcnt xs xs.length) → (∀ b o, s.heap.get? b = some o → h1.get? b = some o) → Q .none { s with heap := h1, toks := tk }) :
    codeAny (model P w) A (.call (.builtin "set.__init__") ⟨[.ref s.heap.objs.size, .ref l], []⟩) (wants Q E) { s with heap := s.heap.push (set0 led) } := by
  have new : (s.heap.push (set0 led)).get? s.heap.objs.size = some (set0 led) := Heap.get?_push_size _ rfl
  have ty : Shared.TypeIs { s with heap := s.heap.push (set0 led) } (.ref s.heap.objs.size) "set" := ⟨_, new, rfl⟩
  refine codeAny_call_builtin F.called_set.init.plain F.entry_set_init (check_set_init_1 ty ?_)
  obtain ⟨ol, hol, hcl, nl, hdl⟩ := hl
  obtain ⟨oc, od, odt, osl⟩ := ol
  simp only at hcl hdl
  subst hcl; subst hdl
  have old : (s.heap.push (set0 led)).get? l = some { cls := .type "list", dict := od, data := .seq items nl, slots := osl } := Heap.get?_push_of_some _ hol
  have q1 := F.sub_list_set
  have q2 := F.sub_list_frozenset
  have q3 : (Value.type "list" == Value.type "dict") = false := by decide
  have tup1 : (s.heap.push (set0 led)).IsList l items := ⟨_, old, rfl, nl, rfl⟩
  unfold Builtin.«set.__init__» noKeywords Builtin.Frozenset.updateFrom
  generalize hp : pyIter = pit
  wp_walk
  subst hp
  refine wpAny_pyIter_list tup1 (wpAny_bind (wpAny_runValue ?_))
  have lt : l < s.heap.objs.size := Heap.lt_size hol
  have ne1 : l ≠ (s.heap.push (set0 led)).objs.size := by
    rw [Heap.size_push]; exact Nat.ne_of_lt (Nat.lt_succ_of_lt lt)
  have ne2 : s.heap.objs.size ∉ [(s.heap.push (set0 led)).objs.size, l] := by
    rw [Heap.size_push]
    intro z
    rcases List.mem_cons.mp z with z | z
    · exact absurd z (Nat.ne_of_lt (Nat.lt_succ_self _))
    · exact absurd (List.mem_singleton.mp z) (Nat.ne_of_gt lt)
  have sz : xs.length = items.size := by rw [← StrsAre.len_eq hi, Array.length_toList]
  have h3 : A.in1.in1.handled = none := by simp [hh]
  refine set_turns ((Walks.list h3 _ l ne1 items).toS) s.heap.objs.size ne2 xs sz (by omega) (fun i v hv => SS.strs_at hi i v (by rw [Array.getElem?_toList]; exact hv)) (items.size - 0) 0 _ (by omega) (Nat.zero_le _)
    ?c2 ?c0 ?c1
  case c2 => exact ⟨⟨_, Heap.get?_push_size _ rfl, rfl, rfl⟩, tup1.push _⟩
  case c0 =>
    have g : ((s.heap.push (set0 led)).push { cls := .type "list_iterator", data := .fields #[.ref l, .int 0 0] }).get? s.heap.objs.size = some (set0 led) := Heap.get?_push_of_some _ new
    exact SetOf_congr ((setObjOf_fresh (knd := strKind P w) led).setOf g (by unfold scanBound; omega)) (fun _ => rfl) rfl
  case c1 =>
    intro s1 mv set1
    obtain ⟨h1, g1, d1, tk1, os1⟩ := s1
    obtain rfl : g1 = s.gens := mv.gens
    obtain rfl : d1 = s.drawn := mv.drawn
    obtain rfl : os1 = s.os := mv.os
    show wpAny _ _ _ _ _ _
    refine wpAny_pure ?_
    show wpAny _ _ (ret Value.none) _ _ _
    rw [← sz] at set1
    refine wpAny_pure (k h1 tk1 set1 fun b o e => ?_)
    have b1 : b ≠ s.heap.objs.size := Nat.ne_of_lt (Heap.lt_size e)
    have b2 : b ≠ (s.heap.push (set0 led)).objs.size := by
      rw [Heap.size_push]; exact Nat.ne_of_lt (Nat.lt_succ_of_lt (Heap.lt_size e))
    refine mv.heap b o (fun z => ?_) (Heap.get?_push_of_some _ (Heap.get?_push_of_some _ e))
    rcases List.mem_cons.mp z with z | z
    · exact b1 z
    · exact b2 (List.mem_singleton.mp z)
theorem call_set_lst {l : Addr} {items : Array Value} {xs : List Str} {Q : Value → Shared → Prop} (hh : A.handled = none) (hl : s.heap.IsList l items) (hi : StrsAre items.toList xs) (hb : xs.length ≤ 1000)
    (k : ∀ (h1 : Heap) (tk : Nat), h1.SetOf (strKind P w) s.heap.objs.size (sAt xs xs.length) (fcnt xs xs.length) → (∀ b o, s.heap.get? b = some o → h1.get? b = some o) → Q (.ref s.heap.objs.size) { s with heap := h1, toks := tk }) :
    wpAny (model P w) A (call (.type "set") [.ref l]) Q E s := by
  obtain ⟨c, tl, mro⟩ := F.called_set.mro
  have made := F.called_set.made
  have sub := F.called_set.sub
  refine wpAny_call (codeAny_of_tree ?_)
  show wpAny _ _ (callAny (.type "set") _) _ _ _
  refine wpAny_pure ⟨Code.quiet_builtin _ (by decide +kernel), codeAny_builtin F.entry_type_call ?_⟩
  rw [Around.under_plain (weight_type_call_type "set" [.ref l] []) rfl]
  have z1 := F.called_set.notType
  have z2 := F.called_set.canCreate
  have z3 := F.typeCall_set_1 (.ref l)
  repeat (any_goals (first | assumption | wp_step))
  refine codeAny_mono (code_set_new_1 (.ref l) (E := E) (Q₁ := fun obj s1 => ∃ led : Bool, obj = .ref s.heap.objs.size ∧ s1 = { s with heap := s.heap.push (set0 led) }) fun led => ⟨led, rfl, rfl⟩) fun r s1 hr => ?_
  cases r with
  | error e => exact hr
  | ok fl =>
    cases fl with
    | ret obj =>
      obtain ⟨led, rfl, rfl⟩ := hr
      have li := F.called_set.init.lookup
      have bi := F.called_set.init.bind (.ref s.heap.objs.size)
      have new : (s.heap.push (set0 led)).get? s.heap.objs.size = some (set0 led) := Heap.get?_push_size _ rfl
      have ty : Shared.TypeIs { s with heap := s.heap.push (set0 led) } (.ref s.heap.objs.size) "set" := ⟨_, new, rfl⟩
      repeat (any_goals (first | assumption | wp_step))
      refine codeAny_mono (set_init_lst (s := s) (led := led) (P := P) (w := w) (E := E) (Q := fun r s2 => r = .none ∧ Q (.ref s.heap.objs.size) s2) (by simp [hh]) hl hi hb fun h1 tk a b => ⟨rfl, k h1 tk a b⟩) fun r2 s2 hr2 => ?_
      cases r2 with
      | error e => exact hr2
      | ok fl2 =>
        cases fl2 with
        | ret v =>
          obtain ⟨rfl, q⟩ := hr2
          repeat (any_goals (first | assumption | wp_step))
        | _ => exact hr2.elim
    | _ => exact hr.elim
end
/-- len(set(t)), t a list of texts -/
def tLenSetL (K : PySem.W.Frag) (ta : TE) : TE := fun σ H Q => ta σ H fun x H1 => ∃ (l : Addr) (xs : List Str), x = .ref l ∧ SqL K H1 l (xs.map V.str) ∧ xs.length ≤ 1000 ∧ Q (.int (fcnt xs xs.length : Nat)) H1
theorem pe_lenSetL {X : Cx} {a : Expr} {ta : TE} {p p2 q pos : Pos} (calm : X.calm = true) (gl : Gl X "len") (ml : X.mg "len" = none) (gs : Gl X "set") (ms : X.mg "set" = none) (ha : PE X a ta)
    (st : starEach [a] X.env = (false, eval a X.env) :: starEach [] X.env := by rfl) : PE X (.Call (.Name "len" p) [.Call (.Name "set" p2) [a] [] q] [] pos) (tLenSetL X.K ta) := by
  refine ⟨fun pins s σ H Q I h => ?_⟩
  refine Call_ (ld_blt I gl ml boot_len (callWith_builtin1 (args_cons ?_ rfl) rfl rfl))
  refine Call_ (ld_blt I gs ms boot_set ?_)
  refine callWith_type1 (args_cons (thn (ha.run pins s σ H _ I h) fun v s1 ⟨x, H1, I1, r1, y⟩ => args_nil ?_) st) st rfl
  obtain ⟨l, xs, rfl, hq, hb, y⟩ := y
  cases r1
  obtain ⟨its, r, pl, hz⟩ := I1.list hq
  refine call_set_lst (I1.ok.hd calm) pl.isList (by simpa using strsAre_of r) hb fun h1 tk hs hk => args_nil ?_
  obtain ⟨o, es, ep, t, ho, hex, hd, _, _, _, hf, hn⟩ := hs
  have I2 : Inv X pins σ H1 { s1 with heap := h1, toks := tk } := I1.kept hk
  have fl := fcnt_le xs xs.length
  exact call_len_set ho hex hd hf (by rw [hn] <;> omega) ⟨.int (fcnt xs xs.length : Nat), H1, I2.tok _, ⟨_, by rw [hn]⟩, y⟩
theorem k_lenSetL {X : Cx} (K : PySem.W.Frag) (e : X.K = K) {a : Expr} {ta : TE} {p p2 q pos : Pos} (calm : X.calm = true) (gl : Gl X "len") (ml : X.mg "len" = none) (gs : Gl X "set") (ms : X.mg "set" = none) (ha : PE X a ta)
    (st : starEach [a] X.env = (false, eval a X.env) :: starEach [] X.env := by rfl) : PE X (.Call (.Name "len" p) [.Call (.Name "set" p2) [a] [] q] [] pos) (tLenSetL K ta) := e ▸ pe_lenSetL calm gl ml gs ms ha st
end SB

/-! a dict or list that is never written again: locked for good, so that it may be walked as often as wanted -/
namespace SB
open PySem PySem.Spec PyProof.Rows L2 Evl
end SB

/-! xs == [], xs of any objects -/
namespace SB
open PySem PySem.Spec PyProof.Rows L2 Evl
section
variable {X : Cx} {K : PySem.W.Frag} {H : Hp}
end
end SB

/-! comprehensions and loops by what they give, item by item -/
namespace SB
open PySem PySem.Spec PyProof.Rows L2 Evl
section
variable {α : Type} {J : It} {n : Nat} {Gd : Hp → Prop} {Y : Nat → Hp → V → Hp → Prop} {g : TG} {tt : TT} {te : TE} {vs : List Nat} {σ : L2.St} {H1 : Hp} {Q : VK} {K : PySem.W.Frag} {a : Addr}
/-! ### loops by the part taken -/
end
end SB

/-! what stands still stands: one lemma a step, for the tactic ht -/
namespace SB
open PySem PySem.Spec PyProof.Rows L2 Evl
section
variable {H0 H H1 H2 : Hp} {a b p l : Addr} {o : HO} {K : PySem.W.Frag} {xs : List V} {n m : Nat} {x : V} {t : Value}
theorem ht_ex (H : Hp) (e : Ex H H1) (h : H a = some o) : H1 a = some o := e _ _ h
theorem ht_sm (H : Hp) (p : Addr) (s : Sm p H H1) (n : a ≠ p) (h : H a = some o) : H1 a = some o := s _ _ n h
theorem hl_ex (H : Hp) (e : Ex H H1) (h : SqL K H a xs) : SqL K H1 a xs := ex_l e h
theorem hl_sm (H : Hp) (p : Addr) (s : Sm p H H1) (n : a ≠ p) (h : SqL K H a xs) : SqL K H1 a xs := s.seq n h
theorem hl_at (h : H a = some (.lst xs)) : SqL K H a xs := SqL.of h
theorem hq_ex (H : Hp) (e : Ex H H1) (h : SqT K H a xs) : SqT K H1 a xs := ex_t e h
theorem hq_at (h : H a = some (.tup xs)) : SqT K H a xs := st_of h
theorem hw_ex (H : Hp) (e : Ex H H1) (h : WellAt H a n) : WellAt H1 a n := h.up e
theorem hw_sm (H : Hp) (p : Addr) (s : Sm p H H1) (q : a ≠ p) (h : WellAt H a n) : WellAt H1 a n := by
  obtain ⟨x, y, z, h1, h2⟩ := h
  exact ⟨x, y, z, s _ _ q h1, h2⟩
theorem Sm.sm (s : Sm p H H1) (h : H l = none) (s2 : Sm l H1 H2) : Sm p H H2 := fun b o hb hh => s2 b o (fun z => by rw [z, h] at hh; cases hh) (s b o hb hh)
theorem hs_ex (H1 : Hp) (e : Ex H1 H2) (s : Sm p H H1) : Sm p H H2 := s.trans (Sm.of e)
theorem hs_sm (H1 : Hp) (e : Sm p H1 H2) (s : Sm p H H1) : Sm p H H2 := s.trans e
theorem hs_new (H1 : Hp) (l : Addr) (e : Sm l H1 H2) (n : H l = none) (s : Sm p H H1) : Sm p H H2 := s.sm n e
theorem he_ex (H1 : Hp) (e : Ex H1 H2) (s : Ex H H1) : Ex H H2 := s.trans e
theorem he_new (H1 : Hp) (l : Addr) (e : Sm l H1 H2) (n : H l = none) (s : Ex H H1) : Ex H H2 := Ex.sm s n e
theorem hn_ex (H1 : Hp) (n : H1 a = none) (e : Ex H H1) : H a = none := ex_none e n
theorem hn_sm (H1 : Hp) (p : Addr) (n : H1 a = none) (e : Sm p H H1) (q : a ≠ p) : H a = none := sm_none e n q
theorem ne_n1 (H : Hp) (n : H a = none) (o : HO) (h : H b = some o) : a ≠ b := fun z => by rw [z, h] at n; cases n
theorem ne_n2 (H : Hp) (n : H b = none) (o : HO) (h : H a = some o) : a ≠ b := fun z => by rw [← z, h] at n; cases n
theorem ne_w1 (H : Hp) (n : H a = none) (m : Nat) (w : WellAt H b m) : a ≠ b := fun z => w.some (z ▸ n)
theorem ne_w2 (H : Hp) (n : H b = none) (m : Nat) (w : WellAt H a m) : a ≠ b := fun z => w.some (z ▸ n)
/-! ### more readings -/
theorem r_popAt {k : Nat} {y : V} {Q : VK} (h : H l = some (.lst xs)) (hz : xs.length ≤ 100000) (hk : xs[k]? = some y) (q : ∀ H1, H1 l = some (.lst (xs.eraseIdx k)) → Sm l H H1 → Q y H1) : rPopAt (.ref l) [.int (k : Nat)] H Q := by
  have hl : k < xs.length := (List.getElem?_eq_some_iff.mp hk).1
  refine ⟨l, xs, (k : Nat), k, y, rfl, rfl, h, by omega, by omega, ?_, hk, q _ upd_same fun b o hb hh => by rw [upd_ne hb]; exact hh⟩
  have e1 : (if ((k : Nat) : Int) < 0 then ((k : Nat) : Int) + (xs.length : Nat) else ((k : Nat) : Int)) = (k : Nat) := if_neg (by omega)
  have e2 : (decide ((0 : Int) ≤ (k : Nat)) && decide (((k : Nat) : Int) < (xs.length : Nat))) = true := by rw [decide_eq_true (by omega), decide_eq_true (by omega)]; rfl
  unfold PySem.seqIndex?
  simp only [e1]
  rw [if_pos e2]
  rfl
end
end SB

/-! sorted(set(list of texts)) -/
namespace SB
open PySem PySem.Spec PyProof.Rows L2 Evl
def sK (e : Int × Value) : Str := match e.2 with
  | .str k _ => k
  | _ => Str.empty
/-- an entry of a set of texts -/
def OkS (P : Program) (w : World) (e : Int × Value) : Prop := ∃ k tk, e.2 = Value.str k tk ∧ e.1 = (strKind P w).hash k
/-- the set of texts at a, its table in order -/
def StR (P : Program) (w : World) (h : Heap) (a : Addr) (S : Str → Bool) (n : Nat) : Prop :=
  ∃ o es ep t, h.get? a = some o ∧ o.ExactSet ∧ o.data = .set es ep t ∧ (∀ e ∈ es.toList, OkS P w e) ∧ (es.toList.map sK).Nodup ∧ (∀ k, S k = true ↔ k ∈ es.toList.map sK) ∧
    es.size < scanBound ∧ t.fits es.size = true ∧ es.size = n ∧ Ris t.place.toList ∧ (w.params.followText "set-order" = true ∨ t.led = true)
section
variable {P : Program} {w : World} {h h2 : Heap} {a : Addr} {S : Str → Bool} {n : Nat}
theorem StR.at (R : StR P w h a S n) (k : ∀ o, h.get? a = some o → h2.get? a = some o) : StR P w h2 a S n := by
  obtain ⟨o, es, ep, t, q, r⟩ := R
  exact ⟨o, es, ep, t, k o q, r⟩
theorem StR.same {S2 : Str → Bool} {m : Nat} (R : StR P w h a S n) (e : ∀ k, S2 k = S k) (en : m = n) : StR P w h a S2 m := by
  rw [show S2 = S from funext e, en]; exact R
end
section
variable {P : Program} {w : World} {A : Around} {E : Value → Shared → Prop} {s : Shared} {a : Addr} {S : Str → Bool} {n : Nat}
end
section
variable {P : Program} {w : World} {A : Around} {R : Result → Shared → Prop} {it : Addr} {fp wr : List Addr} {G : Array GenState → Array GenState → Prop} {n : Nat} {Yl : Nat → Value → Prop} {Z : Nat → Shared → Prop}
end
section
variable {P : Program} {w : World} {A : Around} {E : Value → Shared → Prop} {s : Shared}
end
/-- sorted(set(xs)), xs a list of texts, fewer than 64 distinct ones -/
def tSortSetL (K : PySem.W.Frag) (ta : TE) : TE := fun σ H Q => ta σ H fun x H1 => ∃ (l : Addr) (xs : List Str), x = .ref l ∧ SqL K H1 l (xs.map V.str) ∧ xs.length ≤ 1000 ∧ fcnt xs xs.length < 64 ∧
  ∀ ks p H2, sortedS ks = true → ks.Nodup → (∀ k, k ∈ ks ↔ k ∈ xs) → H1 p = none → Ex H1 H2 → H2 p = some (.lst (ks.map V.str)) → Q (.ref p) H2
theorem r_sortSetL {K : PySem.W.Frag} {ta : TE} {σ : L2.St} {H : Hp} {Q : VK} (h : ta σ H fun x H1 => ∃ (l : Addr) (xs : List Str), x = .ref l ∧ SqL K H1 l (xs.map V.str) ∧ xs.length ≤ 1000 ∧ fcnt xs xs.length < 64 ∧
  ∀ ks p H2, sortedS ks = true → ks.Nodup → (∀ k, k ∈ ks ↔ k ∈ xs) → H1 p = none → Ex H1 H2 → H2 p = some (.lst (ks.map V.str)) → Q (.ref p) H2) : tSortSetL K ta σ H Q := h
end SB

/-! dicts with texts for keys, as lists of pairs -/
namespace SB
open PySem PySem.Spec PyProof.Rows L2 Evl
section
variable {H H1 : Hp} {d : Addr} {kvs : List (Str × V)} {o : Obj} {g : TG} {tt : TT} {te : TE} {vs : List Nat} {σ : L2.St} {Q : VK}
end
/-! ### the last one, all but the last -/
def rListDR : List V → Hp → VK → Prop := fun xs H Q => ∃ (a : Addr) (kvs : List (Key × V)), xs = [.ref a] ∧ Rd H a (.dK kvs) ∧ ∀ p, H p = none → Q (.ref p) (upd H p (.lst (kvs.map fun kv => kV kv.1)))
theorem call_listDR {X : Cx} (hc : X.calm = true) : CallR X (.type "list") rListDR := call_listD hc
section
variable {i j l : Nat} {ta : TA} {D : Ends} {σ : L2.St} {H : Hp}
theorem r_par (h : ta σ H fun vs H1 => ∃ v w, vs = [v, w] ∧ D.nx ((σ.set i (some v)).set j (some w)) H1) : tPar i j ta D σ H := h
theorem r_pr2 {a b : V} {P : V → V → Prop} (h : P a b) : ∃ v w, [a, b] = [v, w] ∧ P v w := ⟨a, b, rfl, h⟩
end
section
variable {H H1 : Hp} {d : Addr} {kvs : List (Str × V)} {o : Obj} {g : TG} {tt : TT} {te : TE} {vs : List Nat} {σ : L2.St} {Q : VK}
end
/-- len(d), d locked or not -/
def rLenDR : List V → Hp → VK → Prop := fun xs H Q => ∃ (a : Addr) (kvs : List (Key × V)), xs = [.ref a] ∧ Rd H a (.dK kvs) ∧ Q (.int (kvs.length : Nat)) H
theorem call_lenDR {X : Cx} : CallR X (.builtin "len") rLenDR := by
  intro pins s σ H xs us Q I r z
  obtain ⟨a, kvs, rfl, h, q⟩ := z
  rw [Vals.ref1 r]
  exact d_len I h fun t s' J => ⟨.int (kvs.length : Nat), H, J, ⟨t, rfl⟩, q⟩
end SB

/-! steps that change some places; starred displays; dicts with pairs of texts for keys -/
namespace SB
open PySem PySem.Spec PyProof.Rows L2 Evl StX
/-- no tuple stands there -/
def NoTp (H : Hp) (p : Addr) : Prop := ∃ o, H p = some o ∧ ∀ xs oo, o ≠ .tup xs ∧ o ≠ .frz oo (.tup xs)
/-- all that stands but S stands -/
def Chs (S : List Addr) (H H' : Hp) : Prop := ∀ b o, b ∉ S → H b = some o → H' b = some o
section
variable {S T : List Addr} {H H1 H2 : Hp} {a l p : Addr} {o : HO} {K : PySem.W.Frag} {xs : List V}
theorem Chs.refl : Chs S H H := fun _ _ _ h => h
theorem Chs.of (e : Ex H H1) : Chs S H H1 := fun b o _ h => e b o h
theorem Chs.sm (s : Sm p H H1) (h : p ∈ S) : Chs S H H1 := fun b o n q => s b o (fun z => n (z ▸ h)) q
theorem Chs.mono (c : Chs S H H1) (h : ∀ x ∈ S, x ∈ T) : Chs T H H1 := fun b o n q => c b o (fun z => n (h b z)) q
theorem Chs.trans (c : Chs S H H1) (d : Chs S H1 H2) : Chs S H H2 := fun b o n q => d b o n (c b o n q)
/-- what was not there yet does not count -/
theorem Chs.drop (c : Chs S H H1) (h : ∀ x ∈ S, x ∈ T ∨ H x = none) : Chs T H H1 := fun b o n q => c b o (fun z => (h b z).elim n fun e => by rw [e] at q; cases q) q
theorem Chs.ex (c : Chs S H H1) (h : ∀ x ∈ S, H x = none) : Ex H H1 := fun b o q => c b o (fun z => by rw [h b z] at q; cases q) q
theorem Chs.at (c : Chs S H H1) (n : a ∉ S) (h : H a = some o) : H1 a = some o := c a o n h
theorem Chs.sqL (c : Chs S H H1) (n : a ∉ S) (h : SqL K H a xs) : SqL K H1 a xs := by
  rcases h with (h | ⟨o, h⟩) | h
  · exact .inl (.inl (c _ _ n h))
  · exact .inl (.inr ⟨o, c _ _ n h⟩)
  · exact .inr h
theorem Chs.sqT (c : Chs S H H1) (n : ∀ x ∈ S, NoTp H x) (h : SqT K H a xs) : SqT K H1 a xs := by
  rcases h with (h | ⟨o, h⟩) | h
  · exact .inl (.inl (c _ _ (fun z => by obtain ⟨o, ho, no⟩ := n _ z; rw [ho] at h; exact (no xs default).1 (Option.some.inj h)) h))
  · exact .inl (.inr ⟨o, c _ _ (fun z => by obtain ⟨o2, ho, no⟩ := n _ z; rw [ho] at h; exact (no xs o).2 (Option.some.inj h)) h⟩)
  · exact .inr h
end
end SB

/-! enumerate(tuple) -/
namespace SB
open PySem PySem.Spec PyProof.Rows L2 Evl
section
variable {P : Program} {w : World} {A : Around} {E : Value → Shared → Prop} {s : Shared}
end
end SB

/-! values as trees over the heap: what is frozen, what is owned, what is borrowed -/
namespace FV
open PySem PySem.Spec PyProof.Rows L2 Evl SB
inductive Ow | own | frz | brw | scr
deriving DecidableEq
inductive PV where
  | non | bl (b : Bool) | int (i : Int) | str (s : Str)
  | tup (xs : List PV)
  | lst (o : Ow) (xs : List PV)
  | dk (o : Ow) (ks : List Key) (xs : List PV)
  | dt (o : Ow) (ks : List (List Key)) (xs : List PV)
  | ins (o : Ow) (C : Nat) (ns : List Str) (xs : List PV)
  | raw (v : V)
  | gone
structure Ct where
  K : PySem.W.Frag
  cm : Nat → Addr
  T : List (Addr × Str) := []
/-- what a place of ours may hold: no table, no code object -/
def isOb : HO → Bool
  | .lst _ => true
  | .dK _ => true
  | .dT _ => true
  | .ins _ _ _ => true
  | _ => false
def isD : HO → Bool
  | .dK _ => true
  | .dT _ => true
  | _ => false
/-- G stands in H; its dicts may be locked there -/
def GH (G H : Hp) : Prop := ∀ a o, G a = some o → H a = some o ∨ (isD o = true ∧ ∃ ob, H a = some (.frz ob o))
/-- a tuple stands in G; the empty one may be the module's -/
def TpAt (c : Ct) (G : Hp) (a : Addr) (vs : List V) : Prop := G a = some (.tup vs) ∨ (vs = [] ∧ SqT c.K G a [])
theorem TpAt.up {c : Ct} {G G' : Hp} {a : Addr} {vs : List V} (e : Ex G G') (h : TpAt c G a vs) : TpAt c G' a vs := h.imp (e _ _) fun z => ⟨z.1, ex_t e z.2⟩
theorem TpAt.sq {c : Ct} {G : Hp} {a : Addr} {vs : List V} (h : TpAt c G a vs) : SqT c.K G a vs := by
  rcases h with h | ⟨rfl, h⟩
  · exact st_of h
  · exact h
/-- keys and values of a dict -/
def Wk {κ : Type} (ks : List κ) (vs : List V) : Prop := ks.length = vs.length ∧ ks.Nodup
mutual
inductive Fr (c : Ct) (G : Hp) : V → PV → Prop
  | non : Fr c G .non .non
  | bl {b : Bool} : Fr c G (.bl b) (.bl b)
  | int {i : Int} : Fr c G (.int i) (.int i)
  | str {s : Str} : Fr c G (.str s) (.str s)
  | raw {v : V} : Fr c G v (.raw v)
  | gone {v : V} : Fr c G v .gone
  | tup {a : Addr} {vs : List V} {xs : List PV} : TpAt c G a vs → Frs c G vs xs → Fr c G (.ref a) (.tup xs)
  | lst {a : Addr} {vs : List V} {xs : List PV} : G a = some (.lst vs) → Frs c G vs xs → Fr c G (.ref a) (.lst .frz xs)
  | lstS {a : Addr} {vs : List V} {xs : List PV} : SqL c.K G a vs → Frs c G vs xs → Fr c G (.ref a) (.lst .scr xs)
  | dk {a : Addr} {ks : List Key} {vs : List V} {xs : List PV} : G a = some (.dK (ks.zip vs)) → Wk ks vs → Frs c G vs xs → Fr c G (.ref a) (.dk .frz ks xs)
  | dt {a : Addr} {ks : List (List Key)} {vs : List V} {xs : List PV} : G a = some (.dT (ks.zip vs)) → Wk ks vs → Frs c G vs xs → Fr c G (.ref a) (.dt .frz ks xs)
  | ins {a dx : Addr} {C : Nat} {ns : List Str} {vs : List V} {xs : List PV} : G a = some (.ins (c.cm C) dx (ns.zip vs)) → ns.length = vs.length → Frs c G vs xs → Fr c G (.ref a) (.ins .frz C ns xs)
inductive Frs (c : Ct) (G : Hp) : List V → List PV → Prop
  | nil : Frs c G [] []
  | cons {v : V} {x : PV} {vs : List V} {xs : List PV} : Fr c G v x → Frs c G vs xs → Frs c G (v :: vs) (x :: xs)
end
mutual
inductive Rp (c : Ct) (G B H : Hp) : V → PV → List Addr → Prop
  | fr {v : V} {x : PV} : Fr c G v x → Rp c G B H v x []
  | tup {a : Addr} {vs : List V} {xs : List PV} {F : List Addr} : TpAt c G a vs → Rps c G B H vs xs F → Rp c G B H (.ref a) (.tup xs) F
  | lst {a : Addr} {vs : List V} {xs : List PV} {F : List Addr} : H a = some (.lst vs) → Rps c G B H vs xs F → Rp c G B H (.ref a) (.lst .own xs) (a :: F)
  | dk {a : Addr} {ks : List Key} {vs : List V} {xs : List PV} {F : List Addr} : H a = some (.dK (ks.zip vs)) → Wk ks vs → Rps c G B H vs xs F → Rp c G B H (.ref a) (.dk .own ks xs) (a :: F)
  | dt {a : Addr} {ks : List (List Key)} {vs : List V} {xs : List PV} {F : List Addr} : H a = some (.dT (ks.zip vs)) → Wk ks vs → Rps c G B H vs xs F → Rp c G B H (.ref a) (.dt .own ks xs) (a :: F)
  | ins {a dx : Addr} {C : Nat} {ns : List Str} {vs : List V} {xs : List PV} {F : List Addr} : H a = some (.ins (c.cm C) dx (ns.zip vs)) → ns.length = vs.length → Rps c G B H vs xs F → Rp c G B H (.ref a) (.ins .own C ns xs) (a :: F)
  | lstB {a : Addr} {vs : List V} {xs : List PV} : B a = some (.lst vs) → Rps c G B H vs xs [] → Rp c G B H (.ref a) (.lst .brw xs) []
  | dkB {a : Addr} {ks : List Key} {vs : List V} {xs : List PV} : B a = some (.dK (ks.zip vs)) → Wk ks vs → Rps c G B H vs xs [] → Rp c G B H (.ref a) (.dk .brw ks xs) []
  | dtB {a : Addr} {ks : List (List Key)} {vs : List V} {xs : List PV} : B a = some (.dT (ks.zip vs)) → Wk ks vs → Rps c G B H vs xs [] → Rp c G B H (.ref a) (.dt .brw ks xs) []
  | insB {a dx : Addr} {C : Nat} {ns : List Str} {vs : List V} {xs : List PV} : B a = some (.ins (c.cm C) dx (ns.zip vs)) → ns.length = vs.length → Rps c G B H vs xs [] → Rp c G B H (.ref a) (.ins .brw C ns xs) []
inductive Rps (c : Ct) (G B H : Hp) : List V → List PV → List Addr → Prop
  | nil : Rps c G B H [] [] []
  | cons {v : V} {x : PV} {vs : List V} {xs : List PV} {F F' : List Addr} : Rp c G B H v x F → Rps c G B H vs xs F' → Rps c G B H (v :: vs) (x :: xs) (F ++ F')
end
/-! ### the flags -/
mutual
def noOwn : PV → Bool
  | .tup xs => noOwns xs
  | .lst o xs => decide (o ≠ .own) && noOwns xs
  | .dk o _ xs => decide (o ≠ .own) && noOwns xs
  | .dt o _ xs => decide (o ≠ .own) && noOwns xs
  | .ins o _ _ xs => decide (o ≠ .own) && noOwns xs
  | _ => true
def noOwns : List PV → Bool
  | [] => true
  | x :: xs => noOwn x && noOwns xs
end
mutual
def noBrw : PV → Bool
  | .tup xs => noBrws xs
  | .lst o xs => decide (o ≠ .brw) && noBrws xs
  | .dk o _ xs => decide (o ≠ .brw) && noBrws xs
  | .dt o _ xs => decide (o ≠ .brw) && noBrws xs
  | .ins o _ _ xs => decide (o ≠ .brw) && noBrws xs
  | _ => true
def noBrws : List PV → Bool
  | [] => true
  | x :: xs => noBrw x && noBrws xs
end
def flB : Ow → Ow
  | .own => .brw
  | o => o
def flF : Ow → Ow
  | .scr => .scr
  | _ => .frz
mutual
def brw : PV → PV
  | .tup xs => .tup (brws xs)
  | .lst o xs => .lst (flB o) (brws xs)
  | .dk o ks xs => .dk (flB o) ks (brws xs)
  | .dt o ks xs => .dt (flB o) ks (brws xs)
  | .ins o C ns xs => .ins (flB o) C ns (brws xs)
  | x => x
def brws : List PV → List PV
  | [] => []
  | x :: xs => brw x :: brws xs
end
mutual
def fz : PV → PV
  | .tup xs => .tup (fzs xs)
  | .lst o xs => .lst (flF o) (fzs xs)
  | .dk o ks xs => .dk (flF o) ks (fzs xs)
  | .dt o ks xs => .dt (flF o) ks (fzs xs)
  | .ins o C ns xs => .ins (flF o) C ns (fzs xs)
  | x => x
def fzs : List PV → List PV
  | [] => []
  | x :: xs => fz x :: fzs xs
end
/-! ### what stays -/
section
variable {c : Ct} {G G' B B' H H' : Hp} {v : V} {x : PV} {vs : List V} {xs : List PV} {F F' : List Addr}
mutual
theorem Fr.up (e : Ex G G') : ∀ {v x}, Fr c G v x → Fr c G' v x
  | _, _, .non => .non
  | _, _, .bl => .bl
  | _, _, .int => .int
  | _, _, .str => .str
  | _, _, .raw => .raw
  | _, _, .gone => .gone
  | _, _, .tup h t => .tup (TpAt.up e h) (Frs.up e t)
  | _, _, .lst h t => .lst (e _ _ h) (Frs.up e t)
  | _, _, .lstS h t => .lstS (ex_l e h) (Frs.up e t)
  | _, _, .dk h l t => .dk (e _ _ h) l (Frs.up e t)
  | _, _, .dt h l t => .dt (e _ _ h) l (Frs.up e t)
  | _, _, .ins h l t => .ins (e _ _ h) l (Frs.up e t)
theorem Frs.up (e : Ex G G') : ∀ {vs xs}, Frs c G vs xs → Frs c G' vs xs
  | _, _, .nil => .nil
  | _, _, .cons h t => .cons (Fr.up e h) (Frs.up e t)
end
mutual
/-- G grows, H stays on the footprint -/
theorem Rp.up (e : Ex G G') : ∀ {v x F}, (∀ a ∈ F, H' a = H a) → Rp c G B H v x F → Rp c G' B H' v x F
  | _, _, _, _, .fr h => .fr (h.up e)
  | _, _, _, k, .tup h t => .tup (TpAt.up e h) (Rps.up e k t)
  | _, _, _, k, .lst h t => .lst (by rw [k _ (List.mem_cons_self ..)]; exact h) (Rps.up e (fun a ha => k a (List.mem_cons_of_mem _ ha)) t)
  | _, _, _, k, .dk h l t => .dk (by rw [k _ (List.mem_cons_self ..)]; exact h) l (Rps.up e (fun a ha => k a (List.mem_cons_of_mem _ ha)) t)
  | _, _, _, k, .dt h l t => .dt (by rw [k _ (List.mem_cons_self ..)]; exact h) l (Rps.up e (fun a ha => k a (List.mem_cons_of_mem _ ha)) t)
  | _, _, _, k, .ins h l t => .ins (by rw [k _ (List.mem_cons_self ..)]; exact h) l (Rps.up e (fun a ha => k a (List.mem_cons_of_mem _ ha)) t)
  | _, _, _, _, .lstB h t => .lstB h (Rps.up e (fun _ z => absurd z (List.not_mem_nil)) t)
  | _, _, _, _, .dkB h l t => .dkB h l (Rps.up e (fun _ z => absurd z (List.not_mem_nil)) t)
  | _, _, _, _, .dtB h l t => .dtB h l (Rps.up e (fun _ z => absurd z (List.not_mem_nil)) t)
  | _, _, _, _, .insB h l t => .insB h l (Rps.up e (fun _ z => absurd z (List.not_mem_nil)) t)
theorem Rps.up (e : Ex G G') : ∀ {vs xs F}, (∀ a ∈ F, H' a = H a) → Rps c G B H vs xs F → Rps c G' B H' vs xs F
  | _, _, _, _, .nil => .nil
  | _, _, _, k, .cons h t => .cons (Rp.up e (fun a ha => k a (List.mem_append_left _ ha)) h) (Rps.up e (fun a ha => k a (List.mem_append_right _ ha)) t)
end
mutual
/-- the footprint is there -/
theorem Rp.live : ∀ {v x F}, Rp c G B H v x F → ∀ a ∈ F, H a ≠ none
  | _, _, _, .fr _, _, z => absurd z List.not_mem_nil
  | _, _, _, .tup _ t, a, z => Rps.live t a z
  | _, _, _, .lst h t, a, z => by
    rcases List.mem_cons.mp z with rfl | z
    · rw [h]; exact fun w => nomatch w
    · exact Rps.live t a z
  | _, _, _, .dk h _ t, a, z => by
    rcases List.mem_cons.mp z with rfl | z
    · rw [h]; exact fun w => nomatch w
    · exact Rps.live t a z
  | _, _, _, .dt h _ t, a, z => by
    rcases List.mem_cons.mp z with rfl | z
    · rw [h]; exact fun w => nomatch w
    · exact Rps.live t a z
  | _, _, _, .ins h _ t, a, z => by
    rcases List.mem_cons.mp z with rfl | z
    · rw [h]; exact fun w => nomatch w
    · exact Rps.live t a z
  | _, _, _, .lstB _ _, _, z => absurd z List.not_mem_nil
  | _, _, _, .dkB _ _ _, _, z => absurd z List.not_mem_nil
  | _, _, _, .dtB _ _ _, _, z => absurd z List.not_mem_nil
  | _, _, _, .insB _ _ _, _, z => absurd z List.not_mem_nil
theorem Rps.live : ∀ {vs xs F}, Rps c G B H vs xs F → ∀ a ∈ F, H a ≠ none
  | _, _, _, .nil, _, z => absurd z List.not_mem_nil
  | _, _, _, .cons h t, a, z => by
    rcases List.mem_append.mp z with z | z
    · exact Rp.live h a z
    · exact Rps.live t a z
end
mutual
theorem Rp.notTup : ∀ {v x F}, Rp c G B H v x F → ∀ a ∈ F, ∀ ws, H a ≠ some (.tup ws)
  | _, _, _, .fr _, _, z => absurd z List.not_mem_nil
  | _, _, _, .tup _ t, a, z => Rps.notTup t a z
  | _, _, _, .lst h t, a, z => fun ws q => by
    rcases List.mem_cons.mp z with rfl | z
    · rw [h] at q; cases q
    · exact Rps.notTup t a z ws q
  | _, _, _, .dk h _ t, a, z => fun ws q => by
    rcases List.mem_cons.mp z with rfl | z
    · rw [h] at q; cases q
    · exact Rps.notTup t a z ws q
  | _, _, _, .dt h _ t, a, z => fun ws q => by
    rcases List.mem_cons.mp z with rfl | z
    · rw [h] at q; cases q
    · exact Rps.notTup t a z ws q
  | _, _, _, .ins h _ t, a, z => fun ws q => by
    rcases List.mem_cons.mp z with rfl | z
    · rw [h] at q; cases q
    · exact Rps.notTup t a z ws q
  | _, _, _, .lstB _ _, _, z => absurd z List.not_mem_nil
  | _, _, _, .dkB _ _ _, _, z => absurd z List.not_mem_nil
  | _, _, _, .dtB _ _ _, _, z => absurd z List.not_mem_nil
  | _, _, _, .insB _ _ _, _, z => absurd z List.not_mem_nil
theorem Rps.notTup : ∀ {vs xs F}, Rps c G B H vs xs F → ∀ a ∈ F, ∀ ws, H a ≠ some (.tup ws)
  | _, _, _, .nil, _, z => absurd z List.not_mem_nil
  | _, _, _, .cons h t, a, z => by
    rcases List.mem_append.mp z with z | z
    · exact Rp.notTup h a z
    · exact Rps.notTup t a z
end
mutual
/-- nothing owned: no footprint -/
theorem Rp.foot0 : ∀ {v x F}, Rp c G B H v x F → noOwn x = true → F = []
  | _, _, _, .fr _, _ => rfl
  | _, _, _, .tup _ t, z => Rps.foot0 t (by simpa [noOwn] using z)
  | _, _, _, .lst _ _, z => by simp [noOwn] at z
  | _, _, _, .dk _ _ _, z => by simp [noOwn] at z
  | _, _, _, .dt _ _ _, z => by simp [noOwn] at z
  | _, _, _, .ins _ _ _, z => by simp [noOwn] at z
  | _, _, _, .lstB _ _, _ => rfl
  | _, _, _, .dkB _ _ _, _ => rfl
  | _, _, _, .dtB _ _ _, _ => rfl
  | _, _, _, .insB _ _ _, _ => rfl
theorem Rps.foot0 : ∀ {vs xs F}, Rps c G B H vs xs F → noOwns xs = true → F = []
  | _, _, _, .nil, _ => rfl
  | _, _, _, .cons h t, z => by
    simp only [noOwns, Bool.and_eq_true] at z
    rw [Rp.foot0 h z.1, Rps.foot0 t z.2]
    rfl
end
mutual
/-- nothing borrowed: B does not matter -/
theorem Rp.noB : ∀ {v x F}, Rp c G B H v x F → noBrw x = true → Rp c G B' H v x F
  | _, _, _, .fr h, _ => .fr h
  | _, _, _, .tup h t, z => .tup h (Rps.noB t (by simpa [noBrw] using z))
  | _, _, _, .lst h t, z => .lst h (Rps.noB t (by simpa [noBrw] using z))
  | _, _, _, .dk h l t, z => .dk h l (Rps.noB t (by simpa [noBrw] using z))
  | _, _, _, .dt h l t, z => .dt h l (Rps.noB t (by simpa [noBrw] using z))
  | _, _, _, .ins h l t, z => .ins h l (Rps.noB t (by simpa [noBrw] using z))
  | _, _, _, .lstB _ _, z => by simp [noBrw] at z
  | _, _, _, .dkB _ _ _, z => by simp [noBrw] at z
  | _, _, _, .dtB _ _ _, z => by simp [noBrw] at z
  | _, _, _, .insB _ _ _, z => by simp [noBrw] at z
theorem Rps.noB : ∀ {vs xs F}, Rps c G B H vs xs F → noBrws xs = true → Rps c G B' H vs xs F
  | _, _, _, .nil, _ => .nil
  | _, _, _, .cons h t, z => by
    simp only [noBrws, Bool.and_eq_true] at z
    exact .cons (Rp.noB h z.1) (Rps.noB t z.2)
end
mutual
theorem Rp.upB (e : Ex B B') : ∀ {v x F}, Rp c G B H v x F → Rp c G B' H v x F
  | _, _, _, .fr h => .fr h
  | _, _, _, .tup h t => .tup h (Rps.upB e t)
  | _, _, _, .lst h t => .lst h (Rps.upB e t)
  | _, _, _, .dk h l t => .dk h l (Rps.upB e t)
  | _, _, _, .dt h l t => .dt h l (Rps.upB e t)
  | _, _, _, .ins h l t => .ins h l (Rps.upB e t)
  | _, _, _, .lstB h t => .lstB (e _ _ h) (Rps.upB e t)
  | _, _, _, .dkB h l t => .dkB (e _ _ h) l (Rps.upB e t)
  | _, _, _, .dtB h l t => .dtB (e _ _ h) l (Rps.upB e t)
  | _, _, _, .insB h l t => .insB (e _ _ h) l (Rps.upB e t)
theorem Rps.upB (e : Ex B B') : ∀ {vs xs F}, Rps c G B H vs xs F → Rps c G B' H vs xs F
  | _, _, _, .nil => .nil
  | _, _, _, .cons h t => .cons (Rp.upB e h) (Rps.upB e t)
end
mutual
theorem Fr.brw_eq : ∀ {v x}, Fr c G v x → brw x = x
  | _, _, .non => rfl
  | _, _, .bl => rfl
  | _, _, .int => rfl
  | _, _, .str => rfl
  | _, _, .raw => rfl
  | _, _, .gone => rfl
  | _, _, .tup _ t => by rw [brw, Frs.brw_eq t]
  | _, _, .lst _ t => by rw [brw, Frs.brw_eq t]; rfl
  | _, _, .lstS _ t => by rw [brw, Frs.brw_eq t]; rfl
  | _, _, .dk _ _ t => by rw [brw, Frs.brw_eq t]; rfl
  | _, _, .dt _ _ t => by rw [brw, Frs.brw_eq t]; rfl
  | _, _, .ins _ _ t => by rw [brw, Frs.brw_eq t]; rfl
theorem Frs.brw_eq : ∀ {vs xs}, Frs c G vs xs → brws xs = xs
  | _, _, .nil => rfl
  | _, _, .cons h t => by rw [brws, Fr.brw_eq h, Frs.brw_eq t]
end
mutual
/-- borrowed: the footprint joins B -/
theorem Rp.lend (e : Ex B B') : ∀ {v x F}, (∀ a ∈ F, ∀ o, H a = some o → B' a = some o) → Rp c G B H v x F → Rp c G B' H v (brw x) []
  | _, _, _, _, .fr h => by rw [h.brw_eq]; exact .fr h
  | _, _, _, k, .tup h t => .tup h (Rps.lend e k t)
  | _, _, _, k, .lst h t => .lstB (k _ (List.mem_cons_self ..) _ h) (Rps.lend e (fun a ha => k a (List.mem_cons_of_mem _ ha)) t)
  | _, _, _, k, .dk h l t => .dkB (k _ (List.mem_cons_self ..) _ h) l (Rps.lend e (fun a ha => k a (List.mem_cons_of_mem _ ha)) t)
  | _, _, _, k, .dt h l t => .dtB (k _ (List.mem_cons_self ..) _ h) l (Rps.lend e (fun a ha => k a (List.mem_cons_of_mem _ ha)) t)
  | _, _, _, k, .ins h l t => .insB (k _ (List.mem_cons_self ..) _ h) l (Rps.lend e (fun a ha => k a (List.mem_cons_of_mem _ ha)) t)
  | _, _, _, _, .lstB h t => .lstB (e _ _ h) (Rps.lend e (fun _ z => absurd z List.not_mem_nil) t)
  | _, _, _, _, .dkB h l t => .dkB (e _ _ h) l (Rps.lend e (fun _ z => absurd z List.not_mem_nil) t)
  | _, _, _, _, .dtB h l t => .dtB (e _ _ h) l (Rps.lend e (fun _ z => absurd z List.not_mem_nil) t)
  | _, _, _, _, .insB h l t => .insB (e _ _ h) l (Rps.lend e (fun _ z => absurd z List.not_mem_nil) t)
theorem Rps.lend (e : Ex B B') : ∀ {vs xs F}, (∀ a ∈ F, ∀ o, H a = some o → B' a = some o) → Rps c G B H vs xs F → Rps c G B' H vs (brws xs) []
  | _, _, _, _, .nil => .nil
  | _, _, _, k, .cons h t => .cons (F := []) (F' := []) (Rp.lend e (fun a ha => k a (List.mem_append_left _ ha)) h) (Rps.lend e (fun a ha => k a (List.mem_append_right _ ha)) t)
end
mutual
theorem Fr.fz_eq : ∀ {v x}, Fr c G v x → fz x = x
  | _, _, .non => rfl
  | _, _, .bl => rfl
  | _, _, .int => rfl
  | _, _, .str => rfl
  | _, _, .raw => rfl
  | _, _, .gone => rfl
  | _, _, .tup _ t => by rw [fz, Frs.fz_eq t]
  | _, _, .lst _ t => by rw [fz, Frs.fz_eq t]; rfl
  | _, _, .lstS _ t => by rw [fz, Frs.fz_eq t]; rfl
  | _, _, .dk _ _ t => by rw [fz, Frs.fz_eq t]; rfl
  | _, _, .dt _ _ t => by rw [fz, Frs.fz_eq t]; rfl
  | _, _, .ins _ _ t => by rw [fz, Frs.fz_eq t]; rfl
theorem Frs.fz_eq : ∀ {vs xs}, Frs c G vs xs → fzs xs = xs
  | _, _, .nil => rfl
  | _, _, .cons h t => by rw [fzs, Fr.fz_eq h, Frs.fz_eq t]
end
mutual
/-- frozen: the footprint joins G -/
theorem Rp.freeze (e : Ex G G') : ∀ {v x F}, (∀ a ∈ F, ∀ o, H a = some o → G' a = some o) → Rp c G B H v x F → noBrw x = true → Fr c G' v (fz x)
  | _, _, _, _, .fr h, _ => by rw [h.fz_eq]; exact h.up e
  | _, _, _, k, .tup h t, z => .tup (TpAt.up e h) (Rps.freeze e k t (by simpa [noBrw] using z))
  | _, _, _, k, .lst h t, z => .lst (k _ (List.mem_cons_self ..) _ h) (Rps.freeze e (fun a ha => k a (List.mem_cons_of_mem _ ha)) t (by simpa [noBrw] using z))
  | _, _, _, k, .dk h l t, z => .dk (k _ (List.mem_cons_self ..) _ h) l (Rps.freeze e (fun a ha => k a (List.mem_cons_of_mem _ ha)) t (by simpa [noBrw] using z))
  | _, _, _, k, .dt h l t, z => .dt (k _ (List.mem_cons_self ..) _ h) l (Rps.freeze e (fun a ha => k a (List.mem_cons_of_mem _ ha)) t (by simpa [noBrw] using z))
  | _, _, _, k, .ins h l t, z => .ins (k _ (List.mem_cons_self ..) _ h) l (Rps.freeze e (fun a ha => k a (List.mem_cons_of_mem _ ha)) t (by simpa [noBrw] using z))
  | _, _, _, _, .lstB _ _, z => by simp [noBrw] at z
  | _, _, _, _, .dkB _ _ _, z => by simp [noBrw] at z
  | _, _, _, _, .dtB _ _ _, z => by simp [noBrw] at z
  | _, _, _, _, .insB _ _ _, z => by simp [noBrw] at z
theorem Rps.freeze (e : Ex G G') : ∀ {vs xs F}, (∀ a ∈ F, ∀ o, H a = some o → G' a = some o) → Rps c G B H vs xs F → noBrws xs = true → Frs c G' vs (fzs xs)
  | _, _, _, _, .nil, _ => .nil
  | _, _, _, k, .cons h t, z => by
    simp only [noBrws, Bool.and_eq_true] at z
    exact .cons (Rp.freeze e (fun a ha => k a (List.mem_append_left _ ha)) h z.1) (Rps.freeze e (fun a ha => k a (List.mem_append_right _ ha)) t z.2)
end
end
end FV

/-! states and judgements -/
namespace FV
open PySem PySem.Spec PyProof.Rows L2 Evl SB
abbrev Env := List (Option PV)
/-- what stands still: the borrowed heap, cells that are not frozen, cells that are locked -/
structure Fm where
  B : Hp
  Φ : Addr → Prop
  Λ : Addr → Prop
inductive Sls (c : Ct) (G B H : Hp) : List (Option V) → Env → List Addr → Prop
  | nil : Sls c G B H [] [] []
  | no {o : Option V} {σ : List (Option V)} {Γ : Env} {F : List Addr} : Sls c G B H σ Γ F → Sls c G B H (o :: σ) (none :: Γ) F
  | so {v : V} {x : PV} {σ : List (Option V)} {Γ : Env} {F F' : List Addr} : Rp c G B H v x F → Sls c G B H σ Γ F' → Sls c G B H (some v :: σ) (some x :: Γ) (F ++ F')
structure Wo (c : Ct) (M : Fm) (G H : Hp) (F : List Addr) : Prop where
  gh : GH G H
  bh : GH M.B H
  bp : ∀ a, M.B a ≠ none → M.Φ a
  al : ∀ a, M.Φ a ∨ M.Λ a → H a ≠ none
  nd : F.Nodup
  gf : ∀ a, a ∈ F ∨ M.Φ a → G a = none
  ff : ∀ a ∈ F, ¬ M.Φ a ∧ ¬ M.Λ a
  pt : ∀ a, M.Φ a → ∀ ws, H a ≠ some (.tup ws)
  tb : LamX.Tabs c.T H
  sp : ∀ a ∈ F, ∃ o, H a = some o ∧ isOb o = true
  nt : (∀ a, M.Φ a ∨ M.Λ a → ∀ ps, H a ≠ some (.tbl ps)) ∧ ∀ a ps, G a ≠ some (.tbl ps)
def StX (c : Ct) (M : Fm) (G H : Hp) (σ : List (Option V)) (Γ : Env) (vs : List V) (xs : List PV) : Prop :=
  ∃ F1 F2, Rps c G M.B H vs xs F1 ∧ Sls c G M.B H σ Γ F2 ∧ Wo c M G H (F1 ++ F2)
/-- from here to there -/
structure Go (M : Fm) (G H G' H' : Hp) : Prop where
  g : Ex G G'
  s : ∀ a, M.Φ a ∨ M.Λ a → H' a = H a
theorem Go.refl {M : Fm} {G H : Hp} : Go M G H G H := ⟨Ex.refl _, fun _ _ => rfl⟩
theorem Go.trans {M : Fm} {G H G1 H1 G2 H2 : Hp} (a : Go M G H G1 H1) (b : Go M G1 H1 G2 H2) : Go M G H G2 H2 := ⟨a.g.trans b.g, fun x h => (b.s x h).trans (a.s x h)⟩
section
variable {c : Ct} {M : Fm} {G G' B B' H H' : Hp} {v : V} {x : PV} {vs ws : List V} {xs ys : List PV} {F F' : List Addr} {σ : List (Option V)} {Γ : Env} {i : Nat}
theorem ex_live (e : Ex H H') {a : Addr} (h : H a ≠ none) : H' a = H a := by
  cases q : H a with
  | none => exact absurd q h
  | some o => exact e a o q
theorem GH.ex (g : GH G H) (e : Ex H H') : GH G H' := fun a o h => (g a o h).imp (e a o) fun ⟨d, ob, k⟩ => ⟨d, ob, e a _ k⟩
theorem GH.nope (g : GH G H) {a : Addr} (h : H a = none) : G a = none := by
  cases q : G a with
  | none => rfl
  | some o => rcases g a o q with k | ⟨_, _, k⟩ <;> rw [h] at k <;> cases k
theorem GH.at (g : GH G H) {a : Addr} {o : HO} (h : G a = some o) (d : isD o = false) : H a = some o := by
  rcases g a o h with k | ⟨k, _⟩
  · exact k
  · rw [d] at k; cases k
theorem GH.rd (g : GH G H) {a : Addr} {o : HO} (h : G a = some o) : Rd H a o := (g a o h).imp id fun ⟨_, ob, k⟩ => ⟨ob, k⟩
theorem GH.sqL (g : GH G H) {a : Addr} (h : SqL c.K G a vs) : SqL c.K H a vs := by
  rcases h with (h | ⟨o, h⟩) | h
  · exact .inl (.inl (g.at h rfl))
  · exact .inl (.inr ⟨o, g.at h rfl⟩)
  · exact .inr h
theorem GH.sqT (g : GH G H) {a : Addr} (h : SqT c.K G a vs) : SqT c.K H a vs := by
  rcases h with (h | ⟨o, h⟩) | h
  · exact .inl (.inl (g.at h rfl))
  · exact .inl (.inr ⟨o, g.at h rfl⟩)
  · exact .inr h
theorem tb_off {T : List (Addr × Str)} (t : LamX.Tabs T H) {d : Addr} {u : HO} (hd : H d = some u) (n1 : ∀ ps, u ≠ .tbl ps) (n2 : ∀ c q, u ≠ LamX.CodeO c q) (k : ∀ b, b ≠ d → H' b = H b) : LamX.Tabs T H' := fun p hp => by
  obtain ⟨ps, h1, h2, h3⟩ := t p hp
  refine ⟨ps, ?_, h2, fun pos cv hc => ?_⟩
  · rw [k _ fun z => n1 ps (by rw [z, hd] at h1; exact Option.some.inj h1)]
    exact h1
  · obtain ⟨e, e1, e2⟩ := h3 pos cv hc
    refine ⟨e, e1, ?_⟩
    rw [k _ fun z => by subst z; rw [hd] at e2; exact n2 _ _ (Option.some.inj e2)]
    exact e2
theorem isD_nt {u : HO} (h : isD u = true) : (∀ ps, u ≠ .tbl ps) ∧ ∀ c q, u ≠ LamX.CodeO c q := ⟨(fun ps z => by rw [z] at h; cases h), (fun c q z => by rw [z] at h; cases h)⟩
theorem Wo.ex (w : Wo c M G H F) (e : Ex H H') : Wo c M G H' F := ⟨w.gh.ex e, w.bh.ex e, w.bp, fun a h => by rw [ex_live e (w.al a h)]; exact w.al a h, w.nd, w.gf, w.ff, fun a h ws => by rw [ex_live e (w.al a (.inl h))]; exact w.pt a h ws, w.tb.ext e, fun a h => let ⟨o, h1, h2⟩ := w.sp a h; ⟨o, e a o h1, h2⟩, ⟨fun a h ps => by rw [ex_live e (w.al a h)]; exact w.nt.1 a h ps, w.nt.2⟩⟩
theorem Wo.perm (w : Wo c M G H F) (p : F.Perm F') : Wo c M G H F' := ⟨w.gh, w.bh, w.bp, w.al, p.nodup_iff.mp w.nd, fun a h => w.gf a (h.imp p.mem_iff.mpr id), fun a h => w.ff a (p.mem_iff.mpr h), w.pt, w.tb, fun a h => w.sp a (p.mem_iff.mpr h), w.nt⟩
theorem Wo.left (w : Wo c M G H (F ++ F')) : Wo c M G H F := ⟨w.gh, w.bh, w.bp, w.al, (List.nodup_append.mp w.nd).1, fun a h => w.gf a (h.imp (List.mem_append_left _) id), fun a h => w.ff a (List.mem_append_left _ h), w.pt, w.tb, fun a h => w.sp a (List.mem_append_left _ h), w.nt⟩
theorem ob_nt {a : Addr} (h : ∃ o, H a = some o ∧ isOb o = true) (ps : Array Value) : H a ≠ some (.tbl ps) := fun z => by
  obtain ⟨o, e, b⟩ := h
  rw [e] at z
  cases z
  cases b
theorem Wo.ntP (w : Wo c M G H F) (sub : ∀ a, a ∈ F' → a ∈ F) : (∀ a, (M.Φ a ∨ a ∈ F') ∨ M.Λ a → ∀ ps, H a ≠ some (.tbl ps)) ∧ ∀ a ps, G a ≠ some (.tbl ps) :=
  ⟨fun a h ps => h.elim (fun h => h.elim (fun h => w.nt.1 a (.inl h) ps) fun h => ob_nt (w.sp a (sub a h)) ps) fun h => w.nt.1 a (.inr h) ps, w.nt.2⟩
theorem Wo.right (w : Wo c M G H (F ++ F')) : Wo c M G H F' := (w.perm List.perm_append_comm).left
theorem Rps.app : ∀ {vs xs F ws ys F'}, Rps c G B H vs xs F → Rps c G B H ws ys F' → Rps c G B H (vs ++ ws) (xs ++ ys) (F ++ F')
  | _, _, _, _, _, _, .nil, s => s
  | _, _, _, _, _, F', .cons (F := F1) (F' := F2) h t, s => by
    rw [List.append_assoc]
    exact .cons h (Rps.app t s)
theorem Sls.up (e : Ex G G') : ∀ {σ Γ F}, (∀ a ∈ F, H' a = H a) → Sls c G B H σ Γ F → Sls c G' B H' σ Γ F
  | _, _, _, _, .nil => .nil
  | _, _, _, k, .no t => .no (Sls.up e k t)
  | _, _, _, k, .so h t => .so (Rp.up e (fun a ha => k a (List.mem_append_left _ ha)) h) (Sls.up e (fun a ha => k a (List.mem_append_right _ ha)) t)
mutual
theorem Rp.spo : ∀ {v x F}, Rp c G B H v x F → ∀ a ∈ F, ∃ o, H a = some o ∧ isOb o = true
  | _, _, _, .fr _, _, z => absurd z List.not_mem_nil
  | _, _, _, .tup _ t, a, z => Rps.spo t a z
  | _, _, _, .lst h t, a, z => by
    rcases List.mem_cons.mp z with rfl | z
    · exact ⟨_, h, rfl⟩
    · exact Rps.spo t a z
  | _, _, _, .dk h _ t, a, z => by
    rcases List.mem_cons.mp z with rfl | z
    · exact ⟨_, h, rfl⟩
    · exact Rps.spo t a z
  | _, _, _, .dt h _ t, a, z => by
    rcases List.mem_cons.mp z with rfl | z
    · exact ⟨_, h, rfl⟩
    · exact Rps.spo t a z
  | _, _, _, .ins h _ t, a, z => by
    rcases List.mem_cons.mp z with rfl | z
    · exact ⟨_, h, rfl⟩
    · exact Rps.spo t a z
  | _, _, _, .lstB _ _, _, z => absurd z List.not_mem_nil
  | _, _, _, .dkB _ _ _, _, z => absurd z List.not_mem_nil
  | _, _, _, .dtB _ _ _, _, z => absurd z List.not_mem_nil
  | _, _, _, .insB _ _ _, _, z => absurd z List.not_mem_nil
theorem Rps.spo : ∀ {vs xs F}, Rps c G B H vs xs F → ∀ a ∈ F, ∃ o, H a = some o ∧ isOb o = true
  | _, _, _, .nil, _, z => absurd z List.not_mem_nil
  | _, _, _, .cons h t, a, z => by
    rcases List.mem_append.mp z with z | z
    · exact Rp.spo h a z
    · exact Rps.spo t a z
end
theorem Sls.live : ∀ {σ Γ F}, Sls c G B H σ Γ F → ∀ a ∈ F, H a ≠ none
  | _, _, _, .nil, _, z => absurd z List.not_mem_nil
  | _, _, _, .no t, a, z => Sls.live t a z
  | _, _, _, .so h t, a, z => by
    rcases List.mem_append.mp z with z | z
    · exact Rp.live h a z
    · exact Sls.live t a z
theorem Sls.notTup : ∀ {σ Γ F}, Sls c G B H σ Γ F → ∀ a ∈ F, ∀ ws, H a ≠ some (.tup ws)
  | _, _, _, .nil, _, z => absurd z List.not_mem_nil
  | _, _, _, .no t, a, z => Sls.notTup t a z
  | _, _, _, .so h t, a, z => by
    rcases List.mem_append.mp z with z | z
    · exact Rp.notTup h a z
    · exact Sls.notTup t a z
theorem Sls.len : ∀ {σ Γ F}, Sls c G B H σ Γ F → σ.length = Γ.length
  | _, _, _, .nil => rfl
  | _, _, _, .no t => congrArg (· + 1) (Sls.len t)
  | _, _, _, .so _ t => congrArg (· + 1) (Sls.len t)
/-- the heap only grows -/
theorem StX.ex (s : StX c M G H σ Γ vs xs) (e : Ex H H') : StX c M G H' σ Γ vs xs := by
  obtain ⟨F1, F2, r, t, w⟩ := s
  exact ⟨F1, F2, Rps.up (Ex.refl _) (fun a ha => ex_live e (r.live a ha)) r, Sls.up (Ex.refl _) (fun a ha => ex_live e (t.live a ha)) t, w.ex e⟩
theorem Go.ofEx {F} (w : Wo c M G H F) (e : Ex H H') : Go M G H G H' := ⟨Ex.refl _, fun a h => ex_live e (w.al a h)⟩
/-! ### slots -/
theorem Sls.get : ∀ {σ Γ F} {i : Nat} {x : PV}, Sls c G B H σ Γ F → Γ[i]? = some (some x) → ∃ v F1 F2, σ[i]? = some (some v) ∧ Rp c G B H v x F1 ∧ Sls c G B H σ (Γ.set i none) F2 ∧ F.Perm (F1 ++ F2)
  | _, _, _, _, _, .nil, h => by simp at h
  | _, _, _, 0, _, .no t, h => by simp at h
  | _, _, _, i + 1, _, .no t, h => by
    obtain ⟨v, F1, F2, a, b, c', d⟩ := Sls.get (i := i) t (by simpa using h)
    exact ⟨v, F1, F2, by simpa using a, b, .no c', d⟩
  | _, _, _, 0, _, .so (F := F) (F' := F') r t, h => by
    simp at h
    subst h
    exact ⟨_, F, F', rfl, r, .no t, List.Perm.refl _⟩
  | _, _, _, i + 1, _, .so (F := F) (F' := F') r t, h => by
    obtain ⟨v, F1, F2, a, b, c', d⟩ := Sls.get (i := i) t (by simpa using h)
    refine ⟨v, F1, F ++ F2, by simpa using a, b, .so r c', ?_⟩
    refine (List.Perm.append_left F d).trans ?_
    rw [← List.append_assoc, ← List.append_assoc]
    exact List.Perm.append_right F2 List.perm_append_comm
/-- a slot is forgotten, and may hold another thing -/
theorem Sls.drop : ∀ {σ Γ F} (i : Nat) (o : Option V), Sls c G B H σ Γ F → ∃ F1 F2, Sls c G B H (σ.set i o) (Γ.set i none) F2 ∧ F.Perm (F1 ++ F2)
  | _, _, _, _, _, .nil => ⟨[], [], .nil, List.Perm.refl _⟩
  | _, _, _, 0, o, .no t => ⟨[], _, .no t, List.Perm.refl _⟩
  | _, _, _, i + 1, o, .no t => by
    obtain ⟨F1, F2, a, d⟩ := Sls.drop i o t
    exact ⟨F1, F2, .no a, d⟩
  | _, _, _, 0, o, .so (F := F) (F' := F') r t => ⟨F, F', .no t, List.Perm.refl _⟩
  | _, _, _, i + 1, o, .so (F := F) (F' := F') r t => by
    obtain ⟨F1, F2, a, d⟩ := Sls.drop i o t
    refine ⟨F1, F ++ F2, .so r a, ?_⟩
    refine (List.Perm.append_left F d).trans ?_
    rw [← List.append_assoc, ← List.append_assoc]
    exact List.Perm.append_right F2 List.perm_append_comm
/-- a slot is filled -/
theorem Sls.put : ∀ {σ Γ F} {i : Nat} {v : V} {x : PV} {F1 : List Addr}, Sls c G B H σ Γ F → i < σ.length → Γ[i]? = some none → Rp c G B H v x F1 → ∃ F2, Sls c G B H (σ.set i (some v)) (Γ.set i (some x)) F2 ∧ F2.Perm (F1 ++ F)
  | _, _, _, _, _, _, _, .nil, h, _, _ => by simp at h
  | _, _, _, 0, _, _, F1, .no t, _, _, r => ⟨_, .so r t, List.Perm.refl _⟩
  | _, _, _, i + 1, _, _, F1, .no t, h, g, r => by
    obtain ⟨F2, a, p⟩ := Sls.put (i := i) t (by simpa using h) (by simpa using g) r
    exact ⟨F2, .no a, p⟩
  | _, _, _, 0, _, _, F1, .so r t, _, g, _ => by simp at g
  | _, _, _, i + 1, _, _, F1, .so (F := F) (F' := F') r' t, h, g, r => by
    obtain ⟨F2, a, p⟩ := Sls.put (i := i) t (by simpa using h) (by simpa using g) r
    refine ⟨F ++ F2, .so r' a, ?_⟩
    refine (List.Perm.append_left F p).trans ?_
    rw [← List.append_assoc, ← List.append_assoc]
    exact List.Perm.append_right _ List.perm_append_comm
/-- the value in hand is dropped -/
theorem StX.drop (s : StX c M G H σ Γ vs xs) : StX c M G H σ Γ [] [] := by
  obtain ⟨F1, F2, r, t, w⟩ := s
  exact ⟨[], F2, .nil, t, w.right⟩
/-- slot i := the value in hand -/
theorem StX.set (s : StX c M G H σ Γ [v] [x]) (i : Nat) : StX c M G H (σ.set i (some v)) (Γ.set i (some x)) [] [] := by
  by_cases h : i < Γ.length
  case neg =>
    have e : σ.length = Γ.length := by obtain ⟨F1, F2, r, t, w⟩ := s; exact t.len
    rw [List.set_eq_of_length_le (by omega), List.set_eq_of_length_le (by omega)]
    exact s.drop
  obtain ⟨F1, F2, r, t, w⟩ := s
  cases r with
  | cons r0 rr =>
    cases rr
    rename_i F0
    obtain ⟨Fd, F3, t3, p3⟩ := t.drop i (some v)
    have hl : i < (σ.set i (some v)).length := by rw [List.length_set, t.len]; exact h
    obtain ⟨F4, t4, p4⟩ := t3.put hl (by rw [List.getElem?_set]; simp [h]) r0
    rw [List.set_set, List.set_set] at t4
    refine ⟨[], F4, .nil, t4, ?_⟩
    have w2 : Wo c M G H (F0 ++ (Fd ++ F3)) := by
      have := w.perm (List.Perm.append_left _ p3)
      rw [List.append_nil] at this
      exact this
    have w3 : Wo c M G H (Fd ++ (F0 ++ F3)) := w2.perm (by
      rw [← List.append_assoc, ← List.append_assoc]
      exact List.Perm.append_right _ List.perm_append_comm)
    exact w3.right.perm p4.symm
theorem StX.wo (s : StX c M G H σ Γ vs xs) : ∃ F, Wo c M G H F := by
  obtain ⟨F1, F2, r, t, w⟩ := s
  exact ⟨_, w⟩
theorem StX.gh (s : StX c M G H σ Γ vs xs) : GH G H := let ⟨_, w⟩ := s.wo; w.gh
theorem StX.bh (s : StX c M G H σ Γ vs xs) : GH M.B H := let ⟨_, w⟩ := s.wo; w.bh
theorem StX.goEx (s : StX c M G H σ Γ vs xs) (e : Ex H H') : Go M G H G H' := let ⟨_, w⟩ := s.wo; Go.ofEx w e
theorem StX.len (s : StX c M G H σ Γ vs xs) : σ.length = Γ.length := by
  obtain ⟨F1, F2, r, t, w⟩ := s
  exact t.len
/-- a value without a footprint joins -/
theorem StX.pure (s : StX c M G H σ Γ [] []) (h : Rp c G M.B H v x []) : StX c M G H σ Γ [v] [x] := by
  obtain ⟨F1, F2, r, t, w⟩ := s
  cases r
  exact ⟨_, F2, .cons h .nil, t, w⟩
/-- a slot's value, without footprint -/
theorem StX.slot (s : StX c M G H σ Γ vs xs) (h : Γ[i]? = some (some x)) : ∃ v F, σ[i]? = some (some v) ∧ Rp c G M.B H v x F := by
  obtain ⟨F1, F2, r, t, w⟩ := s
  obtain ⟨v, F3, F4, a, b, _⟩ := t.get h
  exact ⟨v, F3, a, b⟩
/-- a slot's value is moved out -/
theorem StX.move (s : StX c M G H σ Γ [] []) (h : Γ[i]? = some (some x)) : ∃ v, σ[i]? = some (some v) ∧ StX c M G H σ (Γ.set i none) [v] [x] := by
  obtain ⟨F1, F2, r, t, w⟩ := s
  cases r
  obtain ⟨v, F3, F4, a, b, t4, p⟩ := t.get h
  refine ⟨v, a, F3 ++ [], F4, .cons b .nil, t4, ?_⟩
  rw [List.append_nil]
  exact w.perm p
/-! ### the frame of what is in hand -/
def Fm.plus (M : Fm) (F : List Addr) : Fm := ⟨M.B, fun a => M.Φ a ∨ a ∈ F, M.Λ⟩
theorem StX.frame (s : StX c M G H σ Γ vs xs) : ∃ F, Rps c G M.B H vs xs F ∧ StX c (M.plus F) G H σ Γ [] [] ∧
    ∀ {G' H' σ' Γ' ws ys}, Go (M.plus F) G H G' H' → StX c (M.plus F) G' H' σ' Γ' ws ys → Go M G H G' H' ∧ StX c M G' H' σ' Γ' (vs ++ ws) (xs ++ ys) := by
  obtain ⟨F1, F2, r, t, w⟩ := s
  refine ⟨F1, r, ⟨[], F2, .nil, t, ?_⟩, ?_⟩
  · obtain ⟨a1, a2, a3⟩ := List.nodup_append.mp w.nd
    refine ⟨w.gh, w.bh, fun a h => .inl (w.bp a h), fun a h => ?_, a2, fun a h => ?_, fun a h => ⟨fun z => ?_, (w.ff a (List.mem_append_right _ h)).2⟩, fun a h => ?_, w.tb, fun a h => w.sp a (List.mem_append_right _ h), w.ntP fun _ h => List.mem_append_left _ h⟩
    · rcases h with (h | h) | h
      · exact w.al a (.inl h)
      · exact r.live a h
      · exact w.al a (.inr h)
    · rcases h with h | h | h
      · exact w.gf a (.inl (List.mem_append_right _ h))
      · exact w.gf a (.inr h)
      · exact w.gf a (.inl (List.mem_append_left _ h))
    · rcases z with z | z
      · exact (w.ff a (List.mem_append_right _ h)).1 z
      · exact a3 a z a h rfl
    · rcases h with h | h
      · exact w.pt a h
      · exact r.notTup a h
  · intro G' H' σ' Γ' ws ys g s'
    obtain ⟨E1, E2, r2, t2, w2⟩ := s'
    have k : ∀ a ∈ F1, H' a = H a := fun a ha => g.s a (.inl (.inr ha))
    refine ⟨⟨g.g, fun a h => g.s a (h.imp .inl id)⟩, F1 ++ E1, E2, (Rps.up g.g k r).app r2, t2, w2.gh, w2.bh, w.bp, fun a h => w2.al a (h.imp .inl id), ?_, fun a h => ?_, fun a h => ?_, fun a h => w2.pt a (.inl h), w2.tb, fun a h => ?_, ⟨fun a h => w2.nt.1 a (h.imp .inl id), w2.nt.2⟩⟩
    · rw [List.append_assoc]
      refine List.nodup_append.mpr ⟨(List.nodup_append.mp w.nd).1, w2.nd, fun a ha b hb e => ?_⟩
      subst e
      exact (w2.ff a hb).1 (.inr ha)
    · rcases h with h | h
      · rw [List.append_assoc] at h
        rcases List.mem_append.mp h with h | h
        · exact w2.gf a (.inr (.inr h))
        · exact w2.gf a (.inl h)
      · exact w2.gf a (.inr (.inl h))
    · rw [List.append_assoc] at h
      rcases List.mem_append.mp h with h | h
      · exact w.ff a (List.mem_append_left _ h)
      · exact ⟨fun z => (w2.ff a h).1 (.inl z), (w2.ff a h).2⟩
    · rw [List.append_assoc] at h
      rcases List.mem_append.mp h with h | h
      · rw [k a h]; exact w.sp a (List.mem_append_left _ h)
      · exact w2.sp a h
end
end FV

/-! judgements -/
namespace FV
open PySem PySem.Spec PyProof.Rows L2 Evl SB
structure Xn where
  cls : Nat
  fld : Str
  val : PV
inductive Rt where
  | ok (x : PV) | ex (e : Xn)
inductive RtA where
  | ok (xs : List PV) | ex (e : Xn)
inductive Out where
  | nx | rt (x : PV) | bk | ct | ex (e : Xn)
abbrev ES := Env → Option (Rt × Env)
abbrev AS := Env → Option (RtA × Env)
abbrev SS := Env → Option (Out × Env)
/-- an exception is there -/
def XPos (c : Ct) (M : Fm) (G H : Hp) (σ : List (Option V)) (Γ' : Env) (e : Xn) (E : L2.St → XK) : Prop :=
  ∀ v d G' H', Go M G H G' H' → StX c M G' H' σ Γ' [v] [e.val] → H' d = some (.xd [(e.fld, v)]) → E σ (.ref (c.cm e.cls)) (some d) H'
def PosE (c : Ct) (M : Fm) (G H : Hp) (σ : List (Option V)) (Γ' : Env) (E : L2.St → XK) (Q : VK) : Rt → Prop
  | .ok x => ∀ v G' H', Go M G H G' H' → StX c M G' H' σ Γ' [v] [x] → Q v H'
  | .ex e => XPos c M G H σ Γ' e E
def PosT (c : Ct) (M : Fm) (G H : Hp) (σ : List (Option V)) (Γ' : Env) (E : L2.St → XK) (Q : Bool → Hp → Prop) : Rt → Prop
  | .ok x => match x with
    | .bl b => ∀ G' H', Go M G H G' H' → StX c M G' H' σ Γ' [] [] → Q b H'
    | _ => False
  | .ex e => XPos c M G H σ Γ' e E
def PosA (c : Ct) (M : Fm) (G H : Hp) (σ : List (Option V)) (Γ' : Env) (E : L2.St → XK) (Q : List V → Hp → Prop) : RtA → Prop
  | .ok xs => ∀ vs G' H', Go M G H G' H' → StX c M G' H' σ Γ' vs xs → Q vs H'
  | .ex e => XPos c M G H σ Γ' e E
def JE (c : Ct) (E : L2.St → XK) (te : TE) (S : ES) : Prop := ∀ ⦃M : Fm⦄ ⦃G H : Hp⦄ ⦃σ : L2.St⦄ ⦃Γ Γ' : Env⦄ ⦃r : Rt⦄ ⦃Q : VK⦄, StX c M G H σ Γ [] [] → S Γ = some (r, Γ') → PosE c M G H σ Γ' E Q r → te σ H Q
def JT (c : Ct) (E : L2.St → XK) (tt : TT) (S : ES) : Prop := ∀ ⦃M : Fm⦄ ⦃G H : Hp⦄ ⦃σ : L2.St⦄ ⦃Γ Γ' : Env⦄ ⦃r : Rt⦄ ⦃Q : Bool → Hp → Prop⦄, StX c M G H σ Γ [] [] → S Γ = some (r, Γ') → PosT c M G H σ Γ' E Q r → tt σ H Q
def JA (c : Ct) (E : L2.St → XK) (ta : TA) (S : AS) : Prop := ∀ ⦃M : Fm⦄ ⦃G H : Hp⦄ ⦃σ : L2.St⦄ ⦃Γ Γ' : Env⦄ ⦃r : RtA⦄ ⦃Q : List V → Hp → Prop⦄, StX c M G H σ Γ [] [] → S Γ = some (r, Γ') → PosA c M G H σ Γ' E Q r → ta σ H Q
/-- the slots that are not written -/
def Pin (ms : List Bool) (σ σ' : L2.St) : Prop := σ'.length = σ.length ∧ ∀ i, ms.getD i false = false → σ'[i]? = σ[i]?
def PosS (c : Ct) (M : Fm) (G H : Hp) (σ : L2.St) (pins : List Bool) (Γ' : Env) (E : L2.St → XK) (D : Ends) : Out → Prop
  | .nx => ∀ σ' G' H', Pin pins σ σ' → Go M G H G' H' → StX c M G' H' σ' Γ' [] [] → D.nx σ' H'
  | .bk => ∀ σ' G' H', Pin pins σ σ' → Go M G H G' H' → StX c M G' H' σ' Γ' [] [] → D.bk σ' H'
  | .ct => ∀ σ' G' H', Pin pins σ σ' → Go M G H G' H' → StX c M G' H' σ' Γ' [] [] → D.ct σ' H'
  | .rt x => ∀ v σ' G' H', Pin pins σ σ' → Go M G H G' H' → StX c M G' H' σ' Γ' [v] [x] → D.rt v H'
  | .ex e => ∀ σ' G' H', Pin pins σ σ' → Go M G H G' H' → XPos c M G' H' σ' Γ' e E
def JS (c : Ct) (E : L2.St → XK) (pins : List Bool) (ts : TS) (S : SS) : Prop := ∀ ⦃M : Fm⦄ ⦃G H : Hp⦄ ⦃σ : L2.St⦄ ⦃Γ Γ' : Env⦄ ⦃r : Out⦄ ⦃D : Ends⦄, StX c M G H σ Γ [] [] → S Γ = some (r, Γ') → PosS c M G H σ pins Γ' E D r → ts D σ H
/-- .. of an exception: later is as good -/
theorem XPos.at {c : Ct} {M : Fm} {G H G1 H1 : Hp} {σ : L2.St} {Γ : Env} {e : Xn} {E : L2.St → XK} (x : XPos c M G H σ Γ e E) (g : Go M G H G1 H1) : XPos c M G1 H1 σ Γ e E := fun v d G' H' g' s h => x v d G' H' (g.trans g') s h
theorem Pin.refl {pins : List Bool} {σ : L2.St} : Pin pins σ σ := ⟨rfl, fun _ _ => rfl⟩
theorem Pin.trans {pins : List Bool} {σ σ1 σ2 : L2.St} (a : Pin pins σ σ1) (b : Pin pins σ1 σ2) : Pin pins σ σ2 := ⟨b.1.trans a.1, fun i h => (b.2 i h).trans (a.2 i h)⟩
theorem Pin.set {pins : List Bool} {σ : L2.St} {i : Nat} {o : Option V} (h : pins.getD i false = true) : Pin pins σ (σ.set i o) := ⟨List.length_set, fun j hj => by
  rw [List.getElem?_set_ne]
  intro e
  rw [← e, h] at hj
  cases hj⟩
theorem PosS.at {c : Ct} {M : Fm} {G H G1 H1 : Hp} {σ σ1 : L2.St} {pins : List Bool} {Γ : Env} {E : L2.St → XK} {D : Ends} {r : Out} (p : PosS c M G H σ pins Γ E D r) (q : Pin pins σ σ1) (g : Go M G H G1 H1) : PosS c M G1 H1 σ1 pins Γ E D r := by
  cases r with
  | nx => exact fun σ' G' H' a b s => p σ' G' H' (q.trans a) (g.trans b) s
  | bk => exact fun σ' G' H' a b s => p σ' G' H' (q.trans a) (g.trans b) s
  | ct => exact fun σ' G' H' a b s => p σ' G' H' (q.trans a) (g.trans b) s
  | rt x => exact fun v σ' G' H' a b s => p v σ' G' H' (q.trans a) (g.trans b) s
  | ex e => exact fun σ' G' H' a b => p σ' G' H' (q.trans a) (g.trans b)
/-! ### how the parts are put together -/
def sNext : SS := fun Γ => some (.nx, Γ)
def sSeq (S T : SS) : SS := fun Γ => match S Γ with
  | some (.nx, Γ1) => T Γ1
  | r => r
/-- a value, then what is done with it -/
def eThen (S : ES) (k : PV → ES) : ES := fun Γ => match S Γ with
  | some (.ok x, Γ1) => k x Γ1
  | r => r
def eS (S : ES) (k : PV → SS) : SS := fun Γ => match S Γ with
  | some (.ok x, Γ1) => k x Γ1
  | some (.ex e, Γ1) => some (.ex e, Γ1)
  | none => none
def sSet (i : Nat) (S : ES) : SS := eS S fun x Γ => some (.nx, Γ.set i (some x))
def sDrop (S : ES) : SS := eS S fun _ Γ => some (.nx, Γ)
def sRet (S : ES) : SS := eS S fun x Γ => some (.rt x, Γ)
def sRetN : SS := fun Γ => some (.rt .non, Γ)
def sIf (C : ES) (A B : SS) : SS := eS C fun x Γ => match x with
  | .bl true => A Γ
  | .bl false => B Γ
  | _ => none
def eIf (C : ES) (A B : ES) : ES := eThen C fun x Γ => match x with
  | .bl true => A Γ
  | .bl false => B Γ
  | _ => none
section
variable {c : Ct} {E : L2.St → XK} {pins : List Bool} {te ta tb : TE} {tt tu : TT} {ts tr : TS} {S T C : ES} {A B : SS} {P : Env → Option PV} {i : Nat} {tA : TA}
theorem js_next : JS c E pins tNext sNext := fun _ _ _ _ _ _ _ _ s e p => by cases e; exact p _ _ _ .refl .refl s
theorem js_seq (h : JS c E pins ts A) (k : JS c E pins tr B) : JS c E pins (tSeq ts tr) (sSeq A B) := by
  intro M G H σ Γ Γ' r D s e p
  show ts _ σ H
  unfold sSeq at e
  cases q : A Γ with
  | none => rw [q] at e; cases e
  | some o =>
    obtain ⟨o, Γ1⟩ := o
    rw [q] at e
    refine h s q ?_
    cases o with
    | nx => exact fun σ' G' H' a b s' => k s' e (p.at a b)
    | rt x => cases e; exact p
    | bk => cases e; exact p
    | ct => cases e; exact p
    | ex x => cases e; exact p
theorem js_set (h : JE c E te S) (hi : pins.getD i false = true := by rfl) : JS c E pins (tAsg te (gName i)) (sSet i S) := by
  intro M G H σ Γ Γ' r D s e p
  show te σ H _
  unfold sSet eS at e
  cases q : S Γ with
  | none => rw [q] at e; cases e
  | some o =>
    obtain ⟨o, Γ1⟩ := o
    rw [q] at e
    refine h s q ?_
    cases o with
    | ok x => cases e; exact fun v G' H' g s' => p _ _ _ (.set hi) g (s'.set i)
    | ex x => cases e; exact p _ _ _ .refl .refl
theorem js_drop (h : JE c E te S) : JS c E pins (tDrop te) (sDrop S) := by
  intro M G H σ Γ Γ' r D s e p
  show te σ H _
  unfold sDrop eS at e
  cases q : S Γ with
  | none => rw [q] at e; cases e
  | some o =>
    obtain ⟨o, Γ1⟩ := o
    rw [q] at e
    refine h s q ?_
    cases o with
    | ok x => cases e; exact fun v G' H' g s' => p _ _ _ .refl g s'.drop
    | ex x => cases e; exact p _ _ _ .refl .refl
theorem js_ret (h : JE c E te S) : JS c E pins (tRet te) (sRet S) := by
  intro M G H σ Γ Γ' r D s e p
  show te σ H _
  unfold sRet eS at e
  cases q : S Γ with
  | none => rw [q] at e; cases e
  | some o =>
    obtain ⟨o, Γ1⟩ := o
    rw [q] at e
    refine h s q ?_
    cases o with
    | ok x => cases e; exact fun v G' H' g s' => p _ _ _ _ .refl g s'
    | ex x => cases e; exact p _ _ _ .refl .refl
theorem js_if (h : JT c E tt C) (a : JS c E pins ts A) (b : JS c E pins tr B) : JS c E pins (tIfS tt ts tr) (sIf C A B) := by
  intro M G H σ Γ Γ' r D s e p
  show tt σ H _
  unfold sIf eS at e
  cases q : C Γ with
  | none => rw [q] at e; cases e
  | some o =>
    obtain ⟨o, Γ1⟩ := o
    rw [q] at e
    refine h s q ?_
    cases o with
    | ok x =>
      cases x <;> try (cases e; done)
      rename_i bb
      cases bb with
      | true => exact fun G' H' g s' => iteT (a s' e (p.at .refl g))
      | false => exact fun G' H' g s' => iteF (b s' e (p.at .refl g))
    | ex x => cases e; exact p _ _ _ .refl .refl
/-! ### constants, names -/
def eC (x : PV) : ES := fun Γ => some (.ok x, Γ)
/-- a slot that owns nothing -/
def eVar (i : Nat) : ES := fun Γ => match Γ[i]? with
  | some (some x) => if noOwn x = true then some (.ok x, Γ) else none
  | _ => none
def eMove (i : Nat) : ES := fun Γ => match Γ[i]? with
  | some (some x) => some (.ok x, Γ.set i none)
  | _ => none
def vVar (i : Nat) : Env → Option PV := fun Γ => match Γ[i]? with
  | some o => o
  | _ => none
theorem je_c {v : V} {x : PV} (h : ∀ G, Fr c G v x) : JE c E (tC v) (eC x) := fun _ _ _ _ _ _ _ _ s e p => by
  cases e
  exact p _ _ _ .refl (s.pure (.fr (h _)))
theorem je_var : JE c E (tVar i) (eVar i) := by
  intro M G H σ Γ Γ' r Q s e p
  unfold eVar at e
  split at e
  · rename_i x hx
    split at e
    · rename_i no
      cases e
      obtain ⟨v, F, hv, r⟩ := s.slot hx
      have : F = [] := r.foot0 no
      subst this
      exact ⟨v, hv, p _ _ _ .refl (s.pure r)⟩
    · cases e
  · cases e
theorem je_move : JE c E (tVar i) (eMove i) := by
  intro M G H σ Γ Γ' r Q s e p
  unfold eMove at e
  split at e
  · rename_i x hx
    cases e
    obtain ⟨v, hv, s'⟩ := s.move hx
    exact ⟨v, hv, p _ _ _ .refl s'⟩
  · cases e
/-! ### arguments -/
def aNil : AS := fun Γ => some (.ok [], Γ)
def aCons (S : ES) (T : AS) : AS := fun Γ => match S Γ with
  | some (.ok x, Γ1) => match T Γ1 with
    | some (.ok xs, Γ2) => some (.ok (x :: xs), Γ2)
    | r => r
  | some (.ex e, Γ1) => some (.ex e, Γ1)
  | none => none
theorem ja_nil : JA c E tNil aNil := fun _ _ _ _ _ _ _ _ s e p => by cases e; exact p _ _ _ .refl s
theorem Rps.len {G B H : Hp} : ∀ {vs xs F}, Rps c G B H vs xs F → vs.length = xs.length
  | _, _, _, .nil => rfl
  | _, _, _, .cons _ t => congrArg (· + 1) (Rps.len t)
theorem Rps.split {G B H : Hp} : ∀ {vs ws : List V} {xs ys : List PV} {F}, vs.length = xs.length → Rps c G B H (vs ++ ws) (xs ++ ys) F → ∃ F1 F2, F = F1 ++ F2 ∧ Rps c G B H vs xs F1 ∧ Rps c G B H ws ys F2
  | [], _, [], _, F, _, r => ⟨[], F, rfl, .nil, r⟩
  | [], _, _ :: _, _, _, h, _ => by simp at h
  | _ :: _, _, [], _, _, h, _ => by simp at h
  | v :: vs, ws, x :: xs, ys, _, h, .cons (F := Fa) a b => by
    obtain ⟨F1, F2, e, r1, r2⟩ := Rps.split (by simpa using h) b
    exact ⟨Fa ++ F1, F2, by rw [e, List.append_assoc], .cons a r1, r2⟩
theorem StX.tail {M : Fm} {G H : Hp} {σ : L2.St} {Γ : Env} {vs ws : List V} {xs ys : List PV} (s : StX c M G H σ Γ (vs ++ ws) (xs ++ ys)) (l : vs.length = xs.length) : StX c M G H σ Γ ws ys := by
  obtain ⟨F1, F2, r, t, w⟩ := s
  obtain ⟨Fa, Fb, rfl, _, rb⟩ := Rps.split l r
  exact ⟨Fb, F2, rb, t, Wo.right (F := Fa) (by rw [List.append_assoc] at w; exact w)⟩
/-- the frame around an exception -/
theorem XPos.frame {M : Fm} {G H G1 H1 : Hp} {σ : L2.St} {Γ' : Env} {e : Xn} {vs : List V} {xs : List PV} {F : List Addr} (p : XPos c M G H σ Γ' e E) (g : Go M G H G1 H1) (l : vs.length = xs.length)
    (back : ∀ {G' H' σ' Γ'' ws ys}, Go (M.plus F) G1 H1 G' H' → StX c (M.plus F) G' H' σ' Γ'' ws ys → Go M G1 H1 G' H' ∧ StX c M G' H' σ' Γ'' (vs ++ ws) (xs ++ ys)) : XPos c (M.plus F) G1 H1 σ Γ' e E := fun v d G' H' g' s h => by
  obtain ⟨g2, s2⟩ := back g' s
  exact p v d G' H' (g.trans g2) (s2.tail l) h
theorem ja_cons (h : JE c E te S) {T : AS} (k : JA c E tA T) : JA c E (tCons te tA) (aCons S T) := by
  intro M G H σ Γ Γ' r Q s e p
  show te σ H _
  unfold aCons at e
  cases q : S Γ with
  | none => rw [q] at e; cases e
  | some o =>
    obtain ⟨o, Γ1⟩ := o
    rw [q] at e
    refine h s q ?_
    cases o with
    | ex x => cases e; exact p
    | ok x =>
      intro v G1 H1 g s1
      obtain ⟨F, rF, s2, back⟩ := s1.frame
      simp only at e
      cases q2 : T Γ1 with
      | none => rw [q2] at e; cases e
      | some o2 =>
        obtain ⟨o2, Γ2⟩ := o2
        rw [q2] at e
        refine k s2 q2 ?_
        cases o2 with
        | ok xs =>
          cases e
          intro vs G2 H2 g2 s3
          obtain ⟨g3, s4⟩ := back g2 s3
          exact p (v :: vs) G2 H2 (g.trans g3) s4
        | ex x => cases e; exact XPos.frame p g rF.len back
end
end FV

/-! the frame rule: what a part does not write is lent to it -/
namespace FV
open PySem PySem.Spec PyProof.Rows L2 Evl SB
def brwEx (ms : List Bool) : Env → Env
  | [] => []
  | o :: Γ => (if ms.headD false = true then o else o.map brw) :: brwEx ms.tail Γ
def mix (ms : List Bool) (Γ1 : Env) : Env → Env
  | o :: Γ => (if ms.headD false = true then Γ1.headD none else o) :: mix ms.tail Γ1.tail Γ
  | [] => []
def okEx (ms : List Bool) : Env → Bool
  | [] => true
  | o :: Γ => (match o with | some x => !(ms.headD false) || noBrw x | none => true) && okEx ms.tail Γ
def eW (ms : List Bool) (S : ES) : ES := fun Γ => match S (brwEx ms Γ) with
  | some (.ok x, Γ1) => if (noBrw x && okEx ms Γ1) = true then some (.ok x, mix ms Γ1 Γ) else none
  | some (.ex e, Γ1) => if (noBrw e.val && okEx ms Γ1) = true then some (.ex e, mix ms Γ1 Γ) else none
  | none => none
def outVal : Out → PV
  | .rt x => x
  | .ex e => e.val
  | _ => .non
def sW (ms : List Bool) (S : SS) : SS := fun Γ => match S (brwEx ms Γ) with
  | some (r, Γ1) => if (noBrw (outVal r) && okEx ms Γ1) = true then some (r, mix ms Γ1 Γ) else none
  | none => none
section
variable {c : Ct} {G G' B B' H H' : Hp}
theorem mix_get : ∀ {ms : List Bool} {Γ1 Γ : Env} {i : Nat}, ms.getD i false = false → (mix ms Γ1 Γ)[i]? = Γ[i]?
  | ms, Γ1, [], i, _ => rfl
  | ms, Γ1, o :: Γ, 0, hm => by
    have : ms.headD false = false := by cases ms <;> exact hm
    unfold mix
    rw [this, if_neg (by decide)]
    rfl
  | ms, Γ1, o :: Γ, i + 1, hm => by
    have : ms.tail.getD i false = false := by cases ms <;> simpa using hm
    unfold mix
    rw [List.getElem?_cons_succ, mix_get this, List.getElem?_cons_succ]
theorem headD0 (ms : List Bool) : ms.headD false = ms.getD 0 false := by cases ms <;> rfl
theorem tailD (ms : List Bool) (i : Nat) : ms.tail.getD i false = ms.getD (i + 1) false := by cases ms <;> simp
theorem Pin.tail {ms : List Bool} {o o' : Option V} {σ σ' : L2.St} (h : Pin ms (o :: σ) (o' :: σ')) : Pin ms.tail σ σ' := ⟨by simpa using h.1, fun i hi => by
  have := h.2 (i + 1) (by rw [← tailD]; exact hi)
  simpa using this⟩
theorem Pin.head {ms : List Bool} {o o' : Option V} {σ σ' : L2.St} (h : Pin ms (o :: σ) (o' :: σ')) (hm : ms.headD false = false) : o' = o := by
  have := h.2 0 (by rw [← headD0]; exact hm)
  simpa using this
theorem Sls.lend : ∀ {σ Γ F} (ms : List Bool), Sls c G B H σ Γ F → ∃ F1 F2, F.Perm (F1 ++ F2) ∧
    (∀ B', Ex B B' → (∀ a ∈ F1, ∀ o, H a = some o → B' a = some o) → Sls c G B' H σ (brwEx ms Γ) F2) ∧
    (∀ (i : Nat) (x : PV), ms.getD i false = false → Γ[i]? = some (some x) → ∃ v F0, σ[i]? = some (some v) ∧ Rp c G B H v x F0 ∧ ∀ a ∈ F0, a ∈ F1) ∧
    ∀ G' H' B' σ' Γ1 E2, Ex G G' → (∀ a ∈ F1, H' a = H a) → okEx ms Γ1 = true → Pin ms σ σ' → Sls c G' B' H' σ' Γ1 E2 → ∃ E3 E4 F', E2.Perm (E3 ++ E4) ∧ Sls c G' B H' σ' (mix ms Γ1 Γ) F' ∧ F'.Perm (F1 ++ E4)
  | _, _, _, ms, .nil => ⟨[], [], List.Perm.refl _, fun _ _ _ => .nil, fun i x _ h => by simp at h, fun G' H' B' σ' Γ1 E2 _ _ _ sm t => by
      cases t with
      | nil => exact ⟨[], [], [], List.Perm.refl _, .nil, List.Perm.refl _⟩
      | no t => exact absurd sm.1 (by simp)
      | so r t => exact absurd sm.1 (by simp)⟩
  | _, _, _, ms, .no (o := o) (σ := σ) (Γ := Γ) t => by
    obtain ⟨F1, F2, p, k1, k3, k2⟩ := Sls.lend ms.tail t
    refine ⟨F1, F2, p, fun B' e h => ?_, fun i x hm h => ?_, fun G' H' B' σ' Γ1 E2 eg eh ok sm t' => ?_⟩
    · have := k1 B' e h
      unfold brwEx
      split
      · exact .no this
      · exact .no this
    · cases i with
      | zero => simp at h
      | succ i =>
        obtain ⟨v, F0, a, b, q⟩ := k3 i x (by rw [tailD]; exact hm) (by simpa using h)
        exact ⟨v, F0, by simpa using a, b, q⟩
    · cases t' with
      | nil => exact absurd sm.1 (by simp)
      | no t' =>
        obtain ⟨E3, E4, F', p1, q, p2⟩ := k2 G' H' B' _ _ _ eg eh (by simpa [okEx] using ok) sm.tail t'
        refine ⟨E3, E4, F', p1, ?_, p2⟩
        unfold mix
        split
        · exact .no q
        · exact .no q
      | so r t' =>
        rename_i v x σ2 Γ2 Fa Fb
        simp only [okEx, Bool.and_eq_true] at ok
        obtain ⟨E3, E4, F', p1, q, p2⟩ := k2 G' H' B' _ _ _ eg eh ok.2 sm.tail t'
        by_cases hm : ms.headD false = true
        · refine ⟨E3, Fa ++ E4, Fa ++ F', ?_, ?_, ?_⟩
          · refine (List.Perm.append_left Fa p1).trans ?_
            rw [← List.append_assoc, ← List.append_assoc]
            exact List.Perm.append_right _ List.perm_append_comm
          · unfold mix
            rw [if_pos hm]
            exact .so (r.noB (by have := ok.1; rw [hm] at this; simpa using this)) q
          · refine (List.Perm.append_left Fa p2).trans ?_
            rw [← List.append_assoc, ← List.append_assoc]
            exact List.Perm.append_right _ List.perm_append_comm
        · refine ⟨Fa ++ E3, E4, F', ?_, ?_, p2⟩
          · rw [List.append_assoc]
            exact List.Perm.append_left Fa p1
          · unfold mix
            rw [if_neg hm]
            exact .no q
  | _, _, _, ms, .so (v := v) (x := x) (σ := σ) (Γ := Γ) (F := Fx) (F' := Fr) rx t => by
    obtain ⟨F1, F2, p, k1, k3, k2⟩ := Sls.lend ms.tail t
    by_cases hm : ms.headD false = true
    · refine ⟨F1, Fx ++ F2, ?_, fun B' e h => ?_, fun i x hm2 h => ?_, fun G' H' B' σ' Γ1 E2 eg eh ok sm t' => ?_⟩
      · refine (List.Perm.append_left Fx p).trans ?_
        rw [← List.append_assoc, ← List.append_assoc]
        exact List.Perm.append_right _ List.perm_append_comm
      · unfold brwEx
        rw [if_pos hm]
        exact .so (rx.upB e) (k1 B' e h)
      · cases i with
        | zero => rw [headD0] at hm; rw [hm] at hm2; cases hm2
        | succ i =>
          obtain ⟨v, F0, a, b, q⟩ := k3 i x (by rw [tailD]; exact hm2) (by simpa using h)
          exact ⟨v, F0, by simpa using a, b, q⟩
      · cases t' with
        | nil => exact absurd sm.1 (by simp)
        | no t' =>
          obtain ⟨E3, E4, F', p1, q, p2⟩ := k2 G' H' B' _ _ _ eg eh (by simpa [okEx] using ok) sm.tail t'
          refine ⟨E3, E4, F', p1, ?_, p2⟩
          unfold mix
          rw [if_pos hm]
          exact .no q
        | so r t' =>
          rename_i v2 x2 σ2 Γ2 Fa Fb
          simp only [okEx, Bool.and_eq_true] at ok
          obtain ⟨E3, E4, F', p1, q, p2⟩ := k2 G' H' B' _ _ _ eg eh ok.2 sm.tail t'
          refine ⟨E3, Fa ++ E4, Fa ++ F', ?_, ?_, ?_⟩
          · refine (List.Perm.append_left Fa p1).trans ?_
            rw [← List.append_assoc, ← List.append_assoc]
            exact List.Perm.append_right _ List.perm_append_comm
          · unfold mix
            rw [if_pos hm]
            exact .so (r.noB (by have := ok.1; rw [hm] at this; simpa using this)) q
          · refine (List.Perm.append_left Fa p2).trans ?_
            rw [← List.append_assoc, ← List.append_assoc]
            exact List.Perm.append_right _ List.perm_append_comm
    · have hm' : ms.headD false = false := by simpa using hm
      refine ⟨Fx ++ F1, F2, ?_, fun B' e h => ?_, fun i x' hm2 h => ?_, fun G' H' B' σ' Γ1 E2 eg eh ok sm t' => ?_⟩
      · rw [List.append_assoc]
        exact List.Perm.append_left Fx p
      · unfold brwEx
        rw [if_neg hm]
        exact .so (F := []) (rx.lend e (fun a ha => h a (List.mem_append_left _ ha))) (k1 B' e fun a ha => h a (List.mem_append_right _ ha))
      · cases i with
        | zero =>
          simp at h
          subst h
          exact ⟨v, Fx, rfl, rx, fun a ha => List.mem_append_left _ ha⟩
        | succ i =>
          obtain ⟨v, F0, a, b, q⟩ := k3 i x' (by rw [tailD]; exact hm2) (by simpa using h)
          exact ⟨v, F0, by simpa using a, b, fun z hz => List.mem_append_right _ (q z hz)⟩
      · cases t' with
        | nil => exact absurd sm.1 (by simp)
        | no t' =>
          obtain ⟨E3, E4, F', p1, q, p2⟩ := k2 G' H' B' _ _ _ eg (fun a ha => eh a (List.mem_append_right _ ha)) (by simpa [okEx] using ok) sm.tail t'
          have ev := sm.head hm'
          subst ev
          refine ⟨E3, E4, Fx ++ F', p1, ?_, ?_⟩
          · unfold mix
            rw [if_neg hm]
            exact .so (rx.up eg fun a ha => eh a (List.mem_append_left _ ha)) q
          · rw [List.append_assoc]
            exact List.Perm.append_left Fx p2
        | so r t' =>
          rename_i v2 x2 σ2 Γ2 Fa Fb
          simp only [okEx, Bool.and_eq_true] at ok
          obtain ⟨E3, E4, F', p1, q, p2⟩ := k2 G' H' B' _ _ _ eg (fun a ha => eh a (List.mem_append_right _ ha)) ok.2 sm.tail t'
          have ev := sm.head hm'
          cases ev
          refine ⟨Fa ++ E3, E4, Fx ++ F', ?_, ?_, ?_⟩
          · rw [List.append_assoc]
            exact List.Perm.append_left Fa p1
          · unfold mix
            rw [if_neg hm]
            exact .so (rx.up eg fun a ha => eh a (List.mem_append_left _ ha)) q
          · rw [List.append_assoc]
            exact List.Perm.append_left Fx p2
open Classical in
/-- the borrowed heap of a part -/
noncomputable def Fm.lent (M : Fm) (H : Hp) (F : List Addr) : Fm := ⟨fun a => if a ∈ F then H a else M.B a, fun a => M.Φ a ∨ a ∈ F, M.Λ⟩
theorem StX.lend {M : Fm} {σ : L2.St} {Γ : Env} (ms : List Bool) (s : StX c M G H σ Γ [] []) : ∃ M', StX c M' G H σ (brwEx ms Γ) [] [] ∧
    (∀ (i : Nat) (x : PV), ms.getD i false = false → Γ[i]? = some (some x) → ∃ v F0, σ[i]? = some (some v) ∧ Rp c G M.B H v x F0 ∧ ∀ a ∈ F0, M'.Φ a) ∧
    ∀ {G' H' σ' Γ1 vs xs}, Go M' G H G' H' → StX c M' G' H' σ' Γ1 vs xs → okEx ms Γ1 = true → noBrws xs = true → Pin ms σ σ' → Go M G H G' H' ∧ StX c M G' H' σ' (mix ms Γ1 Γ) vs xs := by
  obtain ⟨F0, F, r, t, w⟩ := s
  cases r
  rw [List.nil_append] at w
  obtain ⟨F1, F2, p, k1, k3, k2⟩ := t.lend ms
  have w' := w.perm p
  obtain ⟨n1, n2, n3⟩ := List.nodup_append.mp w'.nd
  have bl : ∀ a, M.B a ≠ none → a ∉ F1 := fun a h z => (w'.ff a (List.mem_append_left _ z)).1 (w.bp a h)
  have eB : Ex M.B (M.lent H F1).B := fun a o h => by
    show (if a ∈ F1 then H a else M.B a) = some o
    rw [if_neg (bl a (by rw [h]; exact fun z => nomatch z))]
    exact h
  have hB : ∀ a ∈ F1, ∀ o, H a = some o → (M.lent H F1).B a = some o := fun a ha o h => by
    show (if a ∈ F1 then H a else M.B a) = some o
    rw [if_pos ha]
    exact h
  refine ⟨M.lent H F1, ⟨[], F2, .nil, k1 _ eB hB, w.gh, ?_, ?_, ?_, n2, ?_, ?_, ?_, w.tb, fun a h => w'.sp a (List.mem_append_right _ h), w'.ntP fun _ h => List.mem_append_left _ h⟩, fun i x hm h => let ⟨v, F0, a, b, q⟩ := k3 i x hm h; ⟨v, F0, a, b, fun z hz => .inr (q z hz)⟩, ?_⟩
  · intro a o h
    have h : (if a ∈ F1 then H a else M.B a) = some o := h
    split at h
    · exact .inl h
    · exact w.bh a o h
  · intro a h
    have h : (if a ∈ F1 then H a else M.B a) ≠ none := h
    split at h
    · rename_i z
      exact .inr z
    · exact .inl (w.bp a h)
  · intro a h
    rcases h with (h | h) | h
    · exact w.al a (.inl h)
    · exact t.live a (p.mem_iff.mpr (List.mem_append_left _ h))
    · exact w.al a (.inr h)
  · intro a h
    rcases h with h | h | h
    · exact w'.gf a (.inl (List.mem_append_right _ h))
    · exact w'.gf a (.inr h)
    · exact w'.gf a (.inl (List.mem_append_left _ h))
  · intro a h
    refine ⟨fun z => ?_, (w'.ff a (List.mem_append_right _ h)).2⟩
    rcases z with z | z
    · exact (w'.ff a (List.mem_append_right _ h)).1 z
    · exact n3 a z a h rfl
  · intro a h
    rcases h with h | h
    · exact w.pt a h
    · exact t.notTup a (p.mem_iff.mpr (List.mem_append_left _ h))
  · intro G' H' σ' Γ1 vs xs g s' ok nb sm
    obtain ⟨E1, E2, r2, t2, w2⟩ := s'
    have k : ∀ a ∈ F1, H' a = H a := fun a ha => g.s a (.inl (.inr ha))
    obtain ⟨E3, E4, F', p1, q, p2⟩ := k2 G' H' _ σ' Γ1 E2 g.g k ok sm t2
    refine ⟨⟨g.g, fun a h => g.s a (h.imp .inl id)⟩, E1, F', r2.noB nb, q, ?_⟩
    have w3 : Wo c (M.lent H F1) G' H' (E3 ++ (E1 ++ E4)) := w2.perm (by
      refine (List.Perm.append_left E1 p1).trans ?_
      rw [← List.append_assoc, ← List.append_assoc]
      exact List.Perm.append_right _ List.perm_append_comm)
    have w4 := w3.right
    have w5 : Wo c M G' H' (F1 ++ (E1 ++ E4)) := by
      refine ⟨w4.gh, fun a o h => w4.bh a o (eB a o h), w.bp, fun a h => w4.al a (h.imp .inl id), List.nodup_append.mpr ⟨n1, w4.nd, fun a ha b hb e => ?_⟩, fun a h => ?_, fun a h => ?_, fun a h => w4.pt a (.inl h), w4.tb, fun a h => (List.mem_append.mp h).elim (fun h => by rw [k a h]; exact w'.sp a (List.mem_append_left _ h)) (w4.sp a), ⟨fun a h => w4.nt.1 a (h.imp .inl id), w4.nt.2⟩⟩
      · subst e
        exact (w4.ff a hb).1 (.inr ha)
      · rcases h with h | h
        · rcases List.mem_append.mp h with h | h
          · exact w4.gf a (.inr (.inr h))
          · exact w4.gf a (.inl h)
        · exact w4.gf a (.inr (.inl h))
      · rcases List.mem_append.mp h with h | h
        · exact w'.ff a (List.mem_append_left _ h)
        · exact ⟨fun z => (w4.ff a h).1 (.inl z), (w4.ff a h).2⟩
    exact w5.perm (by
      refine List.Perm.trans ?_ (List.Perm.append_left E1 p2.symm)
      rw [← List.append_assoc, ← List.append_assoc]
      exact List.Perm.append_right _ List.perm_append_comm)
end
section
variable {c : Ct} {E : L2.St → XK} {pins : List Bool} {te : TE} {tt : TT} {ts : TS} {S : ES} {A : SS}
theorem XPos.lent {M M' : Fm} {G H : Hp} {σ σ' : L2.St} {Γ Γ1 : Env} {e : Xn} {ms : List Bool} (p : XPos c M G H σ' (mix ms Γ1 Γ) e E) (nb : noBrw e.val = true) (sm : Pin ms σ σ')
    (back : ∀ {G' H' vs xs}, Go M' G H G' H' → StX c M' G' H' σ' Γ1 vs xs → noBrws xs = true → Go M G H G' H' ∧ StX c M G' H' σ' (mix ms Γ1 Γ) vs xs) : XPos c M' G H σ' Γ1 e E := fun v d G' H' g s h => by
  obtain ⟨g2, s2⟩ := back g s (by simp [noBrws, nb])
  exact p v d G' H' g2 s2 h
theorem je_W (ms : List Bool) (h : JE c E te S) : JE c E te (eW ms S) := by
  intro M G H σ Γ Γ' r Q s e p
  obtain ⟨M', s', _, back⟩ := s.lend ms
  unfold eW at e
  cases q : S (brwEx ms Γ) with
  | none => rw [q] at e; cases e
  | some o =>
    obtain ⟨o, Γ1⟩ := o
    rw [q] at e
    refine h s' q ?_
    cases o with
    | ok x =>
      simp only at e
      split at e
      · rename_i ok
        rw [Bool.and_eq_true] at ok
        cases e
        intro v G1 H1 g s1
        obtain ⟨g2, s2⟩ := back g s1 ok.2 (by simp [noBrws, ok.1]) .refl
        exact p v G1 H1 g2 s2
      · cases e
    | ex x =>
      simp only at e
      split at e
      · rename_i ok
        rw [Bool.and_eq_true] at ok
        cases e
        exact XPos.lent p ok.1 .refl fun g s1 nb => back g s1 ok.2 nb .refl
      · cases e
theorem jt_W (ms : List Bool) (h : JT c E tt S) : JT c E tt (eW ms S) := by
  intro M G H σ Γ Γ' r Q s e p
  obtain ⟨M', s', _, back⟩ := s.lend ms
  unfold eW at e
  cases q : S (brwEx ms Γ) with
  | none => rw [q] at e; cases e
  | some o =>
    obtain ⟨o, Γ1⟩ := o
    rw [q] at e
    refine h s' q ?_
    cases o with
    | ok x =>
      simp only at e
      split at e
      · rename_i ok
        rw [Bool.and_eq_true] at ok
        cases e
        cases x with
        | bl b => exact fun G1 H1 g s1 => let ⟨g2, s2⟩ := back g s1 ok.2 rfl .refl; p G1 H1 g2 s2
        | _ => exact p
      · cases e
    | ex x =>
      simp only at e
      split at e
      · rename_i ok
        rw [Bool.and_eq_true] at ok
        cases e
        exact XPos.lent p ok.1 .refl fun g s1 nb => back g s1 ok.2 nb .refl
      · cases e
end
end FV

/-! objects: what is in them, new ones, changed ones -/
namespace FV
open PySem PySem.Spec PyProof.Rows L2 Evl SB
section
variable {c : Ct} {G G' B B' H H' : Hp} {v : V} {x : PV} {vs ws : List V} {xs ys : List PV} {F F' : List Addr} {σ : L2.St} {Γ : Env} {M : Fm} {a : Addr}
theorem Frs.rps : ∀ {vs xs}, Frs c G vs xs → Rps c G B H vs xs []
  | _, _, .nil => .nil
  | _, _, .cons h t => .cons (F := []) (F' := []) (.fr h) (Frs.rps t)
/-- the items of a list -/
theorem Rp.seqL (gh : GH G H) (bh : GH B H) {o : Ow} (r : Rp c G B H v (.lst o xs) F) : ∃ a vs F', v = .ref a ∧ SqL c.K H a vs ∧ Rps c G B H vs xs F' ∧ (F = F' ∨ F = a :: F') := by
  cases r with
  | fr h => cases h with
    | lst h t => exact ⟨_, _, [], rfl, SqL.of (gh.at h rfl), t.rps, .inl rfl⟩
    | lstS h t => exact ⟨_, _, [], rfl, gh.sqL h, t.rps, .inl rfl⟩
  | lst h t => exact ⟨_, _, _, rfl, SqL.of h, t, .inr rfl⟩
  | lstB h t => exact ⟨_, _, [], rfl, SqL.of (bh.at h rfl), t, .inl rfl⟩
theorem Rp.lstAt (gh : GH G H) (bh : GH B H) {o : Ow} (r : Rp c G B H v (.lst o xs) F) (n : o ≠ .scr) : ∃ a vs F', v = .ref a ∧ H a = some (.lst vs) ∧ Rps c G B H vs xs F' ∧ (F = F' ∨ F = a :: F') := by
  cases r with
  | fr h => cases h with
    | lst h t => exact ⟨_, _, [], rfl, gh.at h rfl, t.rps, .inl rfl⟩
    | lstS h t => exact absurd rfl n
  | lst h t => exact ⟨_, _, _, rfl, h, t, .inr rfl⟩
  | lstB h t => exact ⟨_, _, [], rfl, bh.at h rfl, t, .inl rfl⟩
theorem Rp.seqT (gh : GH G H) (r : Rp c G B H v (.tup xs) F) : ∃ a vs, v = .ref a ∧ TpAt c G a vs ∧ SqT c.K H a vs ∧ Rps c G B H vs xs F := by
  cases r with
  | fr h => cases h with | tup h t => exact ⟨_, _, rfl, h, gh.sqT h.sq, t.rps⟩
  | tup h t => exact ⟨_, _, rfl, h, gh.sqT h.sq, t⟩
theorem Rp.dkOf (gh : GH G H) (bh : GH B H) {o : Ow} {ks : List Key} (r : Rp c G B H v (.dk o ks xs) F) : ∃ a vs F', v = .ref a ∧ Rd H a (.dK (ks.zip vs)) ∧ Wk ks vs ∧ Rps c G B H vs xs F' ∧ (F = F' ∨ F = a :: F') := by
  cases r with
  | fr h => cases h with | dk h l t => exact ⟨_, _, [], rfl, gh.rd h, l, t.rps, .inl rfl⟩
  | dk h l t => exact ⟨_, _, _, rfl, Rd.of h, l, t, .inr rfl⟩
  | dkB h l t => exact ⟨_, _, [], rfl, bh.rd h, l, t, .inl rfl⟩
theorem Rp.dtOf (gh : GH G H) (bh : GH B H) {o : Ow} {ks : List (List Key)} (r : Rp c G B H v (.dt o ks xs) F) : ∃ a vs F', v = .ref a ∧ Rd H a (.dT (ks.zip vs)) ∧ Wk ks vs ∧ Rps c G B H vs xs F' ∧ (F = F' ∨ F = a :: F') := by
  cases r with
  | fr h => cases h with | dt h l t => exact ⟨_, _, [], rfl, gh.rd h, l, t.rps, .inl rfl⟩
  | dt h l t => exact ⟨_, _, _, rfl, Rd.of h, l, t, .inr rfl⟩
  | dtB h l t => exact ⟨_, _, [], rfl, bh.rd h, l, t, .inl rfl⟩
theorem Rp.insOf (gh : GH G H) (bh : GH B H) {o : Ow} {C : Nat} {ns : List Str} (r : Rp c G B H v (.ins o C ns xs) F) : ∃ a dx vs F', v = .ref a ∧ H a = some (.ins (c.cm C) dx (ns.zip vs)) ∧ ns.length = vs.length ∧ Rps c G B H vs xs F' ∧ (F = F' ∨ F = a :: F') := by
  cases r with
  | fr h => cases h with | ins h l t => exact ⟨_, _, _, [], rfl, gh.at h rfl, l, t.rps, .inl rfl⟩
  | ins h l t => exact ⟨_, _, _, _, rfl, h, l, t, .inr rfl⟩
  | insB h l t => exact ⟨_, _, _, [], rfl, bh.at h rfl, l, t, .inl rfl⟩
/-- one of several -/
theorem Rps.get : ∀ {vs xs F} {i : Nat} {x : PV}, Rps c G B H vs xs F → xs[i]? = some x → ∃ v F1 F2, vs[i]? = some v ∧ Rp c G B H v x F1 ∧ F.Perm (F1 ++ F2) ∧ ∀ a ∈ F1, a ∈ F
  | _, _, _, _, _, .nil, h => by simp at h
  | _, _, _, 0, _, .cons (F := F) (F' := F') r t, h => by
    simp at h
    subst h
    exact ⟨_, F, F', rfl, r, List.Perm.refl _, fun a h => List.mem_append_left _ h⟩
  | _, _, _, i + 1, _, .cons (F := F) (F' := F') r t, h => by
    obtain ⟨v, F1, F2, a, b, p, m⟩ := Rps.get (i := i) t (by simpa using h)
    refine ⟨v, F1, F ++ F2, by simpa using a, b, ?_, fun a h => List.mem_append_right _ (m a h)⟩
    refine (List.Perm.append_left F p).trans ?_
    rw [← List.append_assoc, ← List.append_assoc]
    exact List.Perm.append_right F2 List.perm_append_comm
/-! ### new things -/
/-- G with one cell more -/
def addG (G : Hp) (a : Addr) (o : HO) : Hp := fun b => if b = a then some o else G b
theorem addG_ex {o : HO} (h : G a = none) : Ex G (addG G a o) := fun b u e => by
  unfold addG
  rw [if_neg (ne_of_none e h)]
  exact e
theorem addG_at {o : HO} : addG G a o a = some o := by unfold addG; rw [if_pos rfl]
/-- a new frozen tuple of what is in hand -/
theorem addG_nt {p : Addr} (h : ∀ a ps, G a ≠ some (.tbl ps)) : ∀ a ps, addG G p (.tup vs) a ≠ some (.tbl ps) := fun a ps z => by
  unfold addG at z
  split at z
  · cases z
  · exact h a ps z
theorem StX.newT (s : StX c M G H σ Γ vs xs) {p : Addr} (np : H p = none) (e : Ex H H') (hp : H' p = some (.tup vs)) : ∃ G', Go M G H G' H' ∧ StX c M G' H' σ Γ [.ref p] [.tup xs] := by
  obtain ⟨F1, F2, r, t, w⟩ := s
  have gp := w.gh.nope np
  have eg : Ex G (addG G p (.tup vs)) := addG_ex gp
  have w2 := w.ex e
  have k1 : ∀ a ∈ F1, H' a = H a := fun a ha => ex_live e (r.live a ha)
  have k2 : ∀ a ∈ F2, H' a = H a := fun a ha => ex_live e (t.live a ha)
  refine ⟨_, ⟨eg, fun a h => ex_live e (w.al a h)⟩, F1 ++ [], F2, .cons (.tup (.inl addG_at) (r.up eg k1)) .nil, t.up eg k2, ?_⟩
  rw [List.append_nil]
  refine ⟨fun a o h => ?_, w2.bh, w2.bp, w2.al, w2.nd, fun a h => ?_, w2.ff, w2.pt, w2.tb, w2.sp, ⟨w2.nt.1, addG_nt w2.nt.2⟩⟩
  · unfold addG at h
    split at h
    · rename_i z
      cases h
      rw [z]
      exact .inl hp
    · exact w2.gh a o h
  · unfold addG
    have : a ≠ p := by
      rintro rfl
      rcases h with h | h
      · rcases List.mem_append.mp h with h | h
        · exact r.live _ h np
        · exact t.live _ h np
      · exact w.al _ (.inl h) np
    rw [if_neg this]
    exact w2.gf a h
/-- a new owned thing of what is in hand -/
theorem StX.newO (s : StX c M G H σ Γ vs xs) {p : Addr} (np : H p = none) (e : Ex H H') (mk : ∀ {G F}, Rps c G M.B H' vs xs F → Rp c G M.B H' (.ref p) x (p :: F)) : StX c M G H' σ Γ [.ref p] [x] := by
  obtain ⟨F1, F2, r, t, w⟩ := s
  have w2 := w.ex e
  have k1 : ∀ a ∈ F1, H' a = H a := fun a ha => ex_live e (r.live a ha)
  have k2 : ∀ a ∈ F2, H' a = H a := fun a ha => ex_live e (t.live a ha)
  have np1 : p ∉ F1 ++ F2 := fun h => by
    rcases List.mem_append.mp h with h | h
    · exact r.live _ h np
    · exact t.live _ h np
  refine ⟨(p :: F1) ++ [], F2, .cons (mk (r.up (Ex.refl _) k1)) .nil, t.up (Ex.refl _) k2, ?_⟩
  rw [List.append_nil]
  have ob := (mk (r.up (Ex.refl _) k1)).spo p List.mem_cons_self
  refine ⟨w2.gh, w2.bh, w2.bp, w2.al, List.nodup_cons.mpr ⟨np1, w2.nd⟩, fun a h => ?_, fun a h => ?_, w2.pt, w2.tb, fun a h => (List.mem_cons.mp h).elim (fun e => e ▸ ob) (w2.sp a), w2.nt⟩
  · rcases h with h | h
    · rcases List.mem_cons.mp h with rfl | h
      · exact w.gh.nope np
      · exact w2.gf a (.inl h)
    · exact w2.gf a (.inr h)
  · rcases List.mem_cons.mp h with rfl | h
    · exact ⟨fun z => w.al _ (.inl z) np, fun z => w.al _ (.inr z) np⟩
    · exact w2.ff a h
theorem StX.newL (s : StX c M G H σ Γ vs xs) {p : Addr} (np : H p = none) (e : Ex H H') (hp : H' p = some (.lst vs)) : StX c M G H' σ Γ [.ref p] [.lst .own xs] := s.newO np e fun r => .lst hp r
/-- scalars -/
theorem StX.sc (s : StX c M G H σ Γ vs xs) (h : Fr c G v x) : StX c M G H σ Γ [v] [x] := s.drop.pure (.fr h)
/-- what is in hand is frozen -/
theorem StX.freeze (s : StX c M G H σ Γ [v] [x]) (nb : noBrw x = true) : ∃ G', Go M G H G' H ∧ StX c M G' H σ Γ [v] [fz x] := by
  obtain ⟨F1, F2, r, t, w⟩ := s
  cases r with
  | cons r rr =>
    cases rr
    rename_i F0
    have w : Wo c M G H (F0 ++ F2) := by simpa using w
    have disj : ∀ a ∈ F2, a ∉ F0 := fun a h z => (List.nodup_append.mp w.nd).2.2 a z a h rfl
    have eg : Ex G (fun a => if a ∈ F0 then H a else G a) := fun a o h => by
      have : a ∉ F0 := fun z => by rw [w.gf a (.inl (List.mem_append_left _ z))] at h; cases h
      show (if a ∈ F0 then H a else G a) = some o
      rw [if_neg this]
      exact h
    refine ⟨fun a => if a ∈ F0 then H a else G a, ⟨eg, fun _ _ => rfl⟩, [], F2, .cons (F := []) (F' := []) (.fr (r.freeze eg (fun a ha o h => ?_) nb)) .nil, t.up eg (fun _ _ => rfl), ?_⟩
    · show (if a ∈ F0 then H a else G a) = some o
      rw [if_pos ha]
      exact h
    · refine ⟨fun a o h => ?_, w.bh, w.bp, w.al, (List.nodup_append.mp w.nd).2.1, fun a h => ?_, fun a h => w.ff a (List.mem_append_right _ h), w.pt, w.tb, fun a h => w.sp a (List.mem_append_right _ h), ⟨w.nt.1, fun a ps h => ?_⟩⟩
      · have h : (if a ∈ F0 then H a else G a) = some o := h
        split at h
        · exact .inl h
        · exact w.gh a o h
      · show (if a ∈ F0 then H a else G a) = none
        rcases h with h | h
        · rw [if_neg (disj a h)]
          exact w.gf a (.inl (List.mem_append_right _ h))
        · rw [if_neg fun z => (w.ff a (List.mem_append_left _ z)).1 h]
          exact w.gf a (.inr h)
      · have h : (if a ∈ F0 then H a else G a) = some (.tbl ps) := h
        split at h
        · rename_i z
          exact ob_nt (w.sp a (List.mem_append_left _ z)) ps h
        · exact w.nt.2 a ps h
/-! ### one owned thing is changed -/
/-- the cell a of the footprint is written -/
theorem Wo.write (w : Wo c M G H F) (ha : a ∈ F) (k : ∀ b o, b ≠ a → H b = some o → H' b = some o) (ns : ∃ q, H' a = some q ∧ isOb q = true) : Wo c M G H' F ∧ Go M G H G H' := by
  have ga : G a = none := w.gf a (.inl ha)
  have ba : M.B a = none := by
    cases q : M.B a with
    | none => rfl
    | some o => exact absurd (w.bp a (by rw [q]; exact fun z => nomatch z)) (w.ff a ha).1
  have ne : ∀ {X : Hp} {b : Addr} {o : HO}, X a = none → X b = some o → b ≠ a := fun h1 h2 z => by rw [z, h1] at h2; cases h2
  have lk : ∀ b, H b ≠ none → b ≠ a → H' b = H b := fun b h n => by
    cases q : H b with
    | none => exact absurd q h
    | some o => exact k b o n q
  have fr : ∀ b, M.Φ b ∨ M.Λ b → b ≠ a := fun b h z => by subst z; exact h.elim (w.ff _ ha).1 (w.ff _ ha).2
  refine ⟨⟨fun b o h => ?_, fun b o h => ?_, w.bp, fun b h => ?_, w.nd, w.gf, w.ff, fun b h ws => by rw [lk b (w.al b (.inl h)) (fr b (.inl h))]; exact w.pt b h ws, fun p hp => ?_, fun b h => ?_, ⟨fun b h ps => by rw [lk b (w.al b h) (fr b h)]; exact w.nt.1 b h ps, w.nt.2⟩⟩, Ex.refl _, fun b h => lk b (w.al b h) (fr b h)⟩
  · exact (w.gh b o h).imp (k b _ (ne ga h)) fun ⟨d, ob, q⟩ => ⟨d, ob, k b _ (ne ga h) q⟩
  · exact (w.bh b o h).imp (k b _ (ne ba h)) fun ⟨d, ob, q⟩ => ⟨d, ob, k b _ (ne ba h) q⟩
  · rw [lk b (w.al b h) (fr b h)]
    exact w.al b h
  · obtain ⟨o, ho, ob⟩ := w.sp a ha
    have off : ∀ b u, H b = some u → isOb u = false → H' b = some u := fun b u h n => k b u (fun z => by
      rw [z, ho] at h
      cases h
      rw [ob] at n
      cases n) h
    obtain ⟨ps, h1, h2, h3⟩ := w.tb p hp
    refine ⟨ps, off _ _ h1 rfl, h2, fun pos cv hc => ?_⟩
    obtain ⟨e, e1, e2⟩ := h3 pos cv hc
    exact ⟨e, e1, off _ _ e2 rfl⟩
  · by_cases e : b = a
    · rw [e]; exact ns
    · obtain ⟨o, h1, h2⟩ := w.sp b h
      exact ⟨o, k b o e h1, h2⟩
end
end FV

/-! operators on values -/
namespace FV
open PySem PySem.Spec PyProof.Rows L2 Evl SB
/-- union of readings -/
def r2Or (r r' : R2) : R2 := fun x y H Q => r x y H Q ∨ r' x y H Q
theorem op_or {X : Cx} {f : Value → Value → Sem Value} {r r' : R2} (h : OpR X f r) (h' : OpR X f r') : OpR X f (r2Or r r') := fun pins s σ H x y v u Q I rx ry q => q.elim (h pins s σ H x y v u Q I rx ry) (h' pins s σ H x y v u Q I rx ry)
def teOr (t t' : TE) : TE := fun σ H Q => t σ H Q ∨ t' σ H Q
theorem pe_or2 {X : Cx} {e : Expr} {t t' : TE} (h : PE X e t) (h' : PE X e t') : PE X e (teOr t t') := ⟨fun pins s σ H Q I q => q.elim (h.run pins s σ H Q I) (h'.run pins s σ H Q I)⟩
def JO (c : Ct) (r : R2) (o : PV → PV → Option PV) : Prop := ∀ ⦃M : Fm⦄ ⦃G H : Hp⦄ ⦃σ : L2.St⦄ ⦃Γ : Env⦄ ⦃va vb : V⦄ ⦃x y z : PV⦄ ⦃Q : VK⦄, StX c M G H σ Γ [va, vb] [x, y] → o x y = some z →
  (∀ v G' H', Go M G H G' H' → StX c M G' H' σ Γ [v] [z] → Q v H') → r va vb H Q
def JU (c : Ct) (r : V → Hp → VK → Prop) (o : PV → Option PV) : Prop := ∀ ⦃M : Fm⦄ ⦃G H : Hp⦄ ⦃σ : L2.St⦄ ⦃Γ : Env⦄ ⦃va : V⦄ ⦃x z : PV⦄ ⦃Q : VK⦄, StX c M G H σ Γ [va] [x] → o x = some z →
  (∀ v G' H', Go M G H G' H' → StX c M G' H' σ Γ [v] [z] → Q v H') → r va H Q
def JC (c : Ct) (r : List V → Hp → VK → Prop) (o : List PV → Option PV) : Prop := ∀ ⦃M : Fm⦄ ⦃G H : Hp⦄ ⦃σ : L2.St⦄ ⦃Γ : Env⦄ ⦃vs : List V⦄ ⦃xs : List PV⦄ ⦃z : PV⦄ ⦃Q : VK⦄, StX c M G H σ Γ vs xs → o xs = some z →
  (∀ v G' H', Go M G H G' H' → StX c M G' H' σ Γ [v] [z] → Q v H') → r vs H Q
def eOp (o : PV → PV → Option PV) (S T : ES) : ES := eThen S fun x => eThen T fun y Γ => (o x y).map fun z => (.ok z, Γ)
def eUn (o : PV → Option PV) (S : ES) : ES := eThen S fun x Γ => (o x).map fun z => (.ok z, Γ)
/-- a call by values -/
def eCB (o : List PV → Option PV) (S : AS) : ES := fun Γ => match S Γ with
  | some (.ok xs, Γ1) => (o xs).map fun z => (.ok z, Γ1)
  | some (.ex e, Γ1) => some (.ex e, Γ1)
  | none => none
section
variable {c : Ct} {E : L2.St → XK} {te ta tb : TE} {tA : TA} {tt : TT} {S T : ES} {AA : AS} {r : R2} {o : PV → PV → Option PV}
/-- two values, one after the other -/
theorem two {M : Fm} {G H : Hp} {σ : L2.St} {Γ Γ' : Env} {rr : Rt} {k : PV → PV → ES} {RR : V → V → Hp → Prop} (ha : JE c E ta S) (hb : JE c E tb T) (s : StX c M G H σ Γ [] []) (e : (eThen S fun x => eThen T fun y => k x y) Γ = some (rr, Γ'))
    (px : ∀ e, rr = .ex e → XPos c M G H σ Γ' e E) (p : ∀ x y v u G' H' Γ2, Go M G H G' H' → StX c M G' H' σ Γ2 [v, u] [x, y] → k x y Γ2 = some (rr, Γ') → RR v u H') :
    ta σ H fun x H1 => tb σ H1 fun y H2 => RR x y H2 := by
  unfold eThen at e
  cases q : S Γ with
  | none => rw [q] at e; cases e
  | some o1 =>
    obtain ⟨o1, Γ1⟩ := o1
    rw [q] at e
    refine ha s q ?_
    cases o1 with
    | ex x => cases e; exact px _ rfl
    | ok x =>
      intro v G1 H1 g s1
      obtain ⟨F, rF, s2, back⟩ := s1.frame
      simp only at e
      cases q2 : T Γ1 with
      | none => rw [q2] at e; cases e
      | some o2 =>
        obtain ⟨o2, Γ2⟩ := o2
        rw [q2] at e
        refine hb s2 q2 ?_
        cases o2 with
        | ex x => cases e; exact XPos.frame (px _ rfl) g rF.len back
        | ok y =>
          intro u G2 H2 g2 s3
          obtain ⟨g3, s4⟩ := back g2 s3
          exact p x y v u G2 H2 Γ2 (g.trans g3) s4 e
theorem je_op (ho : JO c r o) (ha : JE c E ta S) (hb : JE c E tb T) : JE c E (tOp r ta tb) (eOp o S T) := by
  intro M G H σ Γ Γ' rr Q s e p
  refine two ha hb s e (fun e he => by subst he; exact p) fun x y v u G' H' Γ2 g s' e' => ?_
  cases q : o x y with
  | none => rw [q] at e'; cases e'
  | some z =>
    rw [q] at e'
    cases e'
    exact ho s' q fun w G2 H2 g2 s2 => p w G2 H2 (g.trans g2) s2
theorem je_un {r : V → Hp → VK → Prop} {o : PV → Option PV} (ho : JU c r o) (ha : JE c E ta S) : JE c E (tUn r ta) (eUn o S) := by
  intro M G H σ Γ Γ' rr Q s e p
  show ta σ H _
  unfold eUn eThen at e
  cases q : S Γ with
  | none => rw [q] at e; cases e
  | some o1 =>
    obtain ⟨o1, Γ1⟩ := o1
    rw [q] at e
    refine ha s q ?_
    cases o1 with
    | ex x => cases e; exact p
    | ok x =>
      intro v G1 H1 g s1
      simp only at e
      cases q2 : o x with
      | none => rw [q2] at e; cases e
      | some z =>
        rw [q2] at e
        cases e
        exact ho s1 q2 fun w G2 H2 g2 s2 => p w G2 H2 (g.trans g2) s2
theorem je_cb {r : List V → Hp → VK → Prop} {o : List PV → Option PV} (ho : JC c r o) (ha : JA c E tA AA) : JE c E (tCB r tA) (eCB o AA) := by
  intro M G H σ Γ Γ' rr Q s e p
  show tA σ H _
  unfold eCB at e
  cases q : AA Γ with
  | none => rw [q] at e; cases e
  | some o1 =>
    obtain ⟨o1, Γ1⟩ := o1
    rw [q] at e
    refine ha s q ?_
    cases o1 with
    | ex x => cases e; exact p
    | ok xs =>
      intro v G1 H1 g s1
      simp only at e
      cases q2 : o xs with
      | none => rw [q2] at e; cases e
      | some z =>
        rw [q2] at e
        cases e
        exact ho s1 q2 fun w G2 H2 g2 s2 => p w G2 H2 (g.trans g2) s2
/-! ### what is in hand -/
section
variable {M : Fm} {G H : Hp} {σ : L2.St} {Γ : Env} {v u : V} {x y : PV} {vs : List V} {xs : List PV}
theorem StX.into (s : StX c M G H σ Γ vs xs) : ∃ F1, Rps c G M.B H vs xs F1 ∧ ∀ vs' xs' F' Z, Rps c G M.B H vs' xs' F' → F1.Perm (F' ++ Z) → StX c M G H σ Γ vs' xs' := by
  obtain ⟨F1, F2, r, t, w⟩ := s
  refine ⟨F1, r, fun vs' xs' F' Z r' p => ⟨F', F2, r', t, ?_⟩⟩
  have w2 : Wo c M G H ((F' ++ Z) ++ F2) := w.perm (List.Perm.append_right _ p)
  have w3 : Wo c M G H (Z ++ (F' ++ F2)) := w2.perm (by
    rw [← List.append_assoc]
    exact List.Perm.append_right _ List.perm_append_comm)
  exact w3.right
theorem StX.one (s : StX c M G H σ Γ [v] [x]) : ∃ F, Rp c G M.B H v x F ∧ ∀ vs' xs' F' Z, Rps c G M.B H vs' xs' F' → F.Perm (F' ++ Z) → StX c M G H σ Γ vs' xs' := by
  obtain ⟨F1, r, k⟩ := s.into
  cases r with
  | cons r rr =>
    cases rr
    exact ⟨_, r, fun vs' xs' F' Z a b => k vs' xs' F' Z a (by rw [List.append_nil]; exact b)⟩
theorem StX.two (s : StX c M G H σ Γ [v, u] [x, y]) : ∃ F1 F2, Rp c G M.B H v x F1 ∧ Rp c G M.B H u y F2 ∧ ∀ vs' xs' F' Z, Rps c G M.B H vs' xs' F' → (F1 ++ F2).Perm (F' ++ Z) → StX c M G H σ Γ vs' xs' := by
  obtain ⟨F1, r, k⟩ := s.into
  cases r with
  | cons r rr =>
    cases rr with
    | cons r2 rr =>
      cases rr
      exact ⟨_, _, r, r2, fun vs' xs' F' Z a b => k vs' xs' F' Z a (by rw [List.append_nil]; exact b)⟩
end
/-! ### scalars -/
def toV : PV → Option V
  | .non => some .non
  | .bl b => some (.bl b)
  | .int i => some (.int i)
  | .str s => some (.str s)
  | _ => none
theorem Rp.toV {G B H : Hp} {v : V} {x : PV} {F : List Addr} {w : V} (r : Rp c G B H v x F) (h : toV x = some w) : v = w := by
  cases r with
  | fr r => cases r <;> cases h <;> rfl
  | _ => cases h
def ofV : V → PV
  | .non => .non
  | .bl b => .bl b
  | .int i => .int i
  | .str s => .str s
  | v => .raw v
theorem fr_ofV {G : Hp} (v : V) : Fr c G v (ofV v) := by
  cases v with
  | non => exact .non
  | bl b => exact .bl
  | int i => exact .int
  | str s => exact .str
  | _ => exact .raw
def oInt (f : Int → Int → Option PV) : PV → PV → Option PV
  | .int i, .int j => f i j
  | _, _ => none
theorem rp_int {G B H : Hp} {v : V} {i : Int} {F : List Addr} (r : Rp c G B H v (.int i) F) : v = .int i := r.toV rfl
theorem rp_str {G B H : Hp} {v : V} {i : Str} {F : List Addr} (r : Rp c G B H v (.str i) F) : v = .str i := r.toV rfl
theorem rp_bl {G B H : Hp} {v : V} {i : Bool} {F : List Addr} (r : Rp c G B H v (.bl i) F) : v = .bl i := r.toV rfl
instance (i j : Int) : Decidable (CMul i j) := by unfold CMul; exact inferInstance
instance (i j : Int) : Decidable (CDivN i j) := by unfold CDivN; exact inferInstance
instance (i j : Int) : Decidable (CPow i j) := by unfold CPow; exact inferInstance
/-- ints under a condition -/
def oI (C : Int → Int → Prop) [∀ i j, Decidable (C i j)] (g : Int → Int → PV) : PV → PV → Option PV := oInt fun i j => if C i j then some (g i j) else none
theorem jo_I {C : Int → Int → Prop} [∀ i j, Decidable (C i j)] {g : Int → Int → V} : JO c (rI C g) (oI C fun i j => ofV (g i j)) := by
  intro M G H σ Γ va vb x y z Q s e p
  obtain ⟨F1, F2, r1, r2, k⟩ := s.two
  unfold oI oInt at e
  split at e
  · rename_i i j
    dsimp only at e
    split at e
    · rename_i hc
      cases e
      exact ⟨i, j, rp_int r1, rp_int r2, hc, p _ G H .refl (s.sc (fr_ofV _))⟩
    · cases e
  · cases e
theorem jo_I0 {g : Int → Int → V} : JO c (rI0 g) (oInt fun i j => some (ofV (g i j))) := by
  intro M G H σ Γ va vb x y z Q s e p
  obtain ⟨F1, F2, r1, r2, k⟩ := s.two
  unfold oInt at e
  split at e
  · rename_i i j
    cases e
    exact ⟨i, j, rp_int r1, rp_int r2, p _ G H .refl (s.sc (fr_ofV _))⟩
  · cases e
def oAddS : PV → PV → Option PV
  | .str i, .str j => if i.length + j.length ≤ sizeLine then some (.str (i ++ j)) else none
  | _, _ => none
theorem jo_addS : JO c rAddSQ oAddS := by
  intro M G H σ Γ va vb x y z Q s e p
  obtain ⟨F1, F2, r1, r2, k⟩ := s.two
  unfold oAddS at e
  split at e
  · rename_i i j
    split at e
    · rename_i hc
      cases e
      exact ⟨i, j, rp_str r1, rp_str r2, hc, p _ G H .refl (s.sc .str)⟩
    · cases e
  · cases e
def oCatL : PV → PV → Option PV
  | .lst o xs, .lst o' ys => if o ≠ .scr ∧ o' ≠ .scr ∧ xs.length + ys.length ≤ sizeLine then some (.lst .own (xs ++ ys)) else none
  | _, _ => none
theorem sub_perm {a : Addr} {F F' Z : List Addr} (h : F = F' ∨ F = a :: F') : ∃ Z, F.Perm (F' ++ Z) := by
  rcases h with rfl | rfl
  · exact ⟨[], by rw [List.append_nil]⟩
  · exact ⟨[a], List.perm_append_comm (l₁ := [a])⟩
theorem two_perm {F1 F2 A Z B Y : List Addr} (p : F1.Perm (A ++ Z)) (q : F2.Perm (B ++ Y)) : (F1 ++ F2).Perm ((A ++ B) ++ (Z ++ Y)) := by
  refine (p.append q).trans ?_
  rw [List.append_assoc, List.append_assoc]
  refine List.Perm.append_left A ?_
  rw [← List.append_assoc, ← List.append_assoc]
  exact List.Perm.append_right Y List.perm_append_comm
theorem jo_catL : JO c rCat oCatL := by
  intro M G H σ Γ va vb x y z Q s e p
  obtain ⟨F1, F2, r1, r2, k⟩ := s.two
  unfold oCatL at e
  split at e
  · rename_i o xs o' ys
    split at e
    · rename_i hc
      cases e
      obtain ⟨a, vs, Fa, rfl, ha, ra, ea⟩ := r1.lstAt s.gh s.bh hc.1
      obtain ⟨b, ws, Fb, rfl, hb, rb, eb⟩ := r2.lstAt s.gh s.bh hc.2.1
      obtain ⟨Za, pa⟩ := sub_perm (Z := []) ea
      obtain ⟨Zb, pb⟩ := sub_perm (Z := []) eb
      have s2 := k _ _ _ _ (ra.app rb) (two_perm pa pb)
      refine ⟨a, b, vs, ws, rfl, rfl, ha, hb, by rw [ra.len, rb.len]; exact hc.2.2, fun q hq => ?_⟩
      exact p _ G _ (s2.goEx (Ex.new hq)) (s2.newL hq (Ex.new hq) upd_same)
    · cases e
  · cases e
/-! ### fields -/
def lkP (f : Str) : List Str → List PV → Option PV
  | n :: ns, x :: xs => if f = n then some x else lkP f ns xs
  | _, _ => none
theorem lk_rps {G B H : Hp} {f : Str} {x : PV} : ∀ {ns : List Str} {vs xs F}, Rps c G B H vs xs F → lkP f ns xs = some x → ∃ v F1 Z, (ns.zip vs).lookup f = some v ∧ Rp c G B H v x F1 ∧ F.Perm (F1 ++ Z)
  | [], _, _, _, _, h => by unfold lkP at h; cases h
  | n :: ns, _, _, _, .nil, h => by unfold lkP at h; cases h
  | n :: ns, _, _, _, .cons (v := v) (F := F) (F' := F') r t, h => by
    unfold lkP at h
    split at h
    · rename_i e
      cases h
      exact ⟨v, F, F', by rw [List.zip_cons_cons, List.lookup_cons, e]; simp, r, List.Perm.refl _⟩
    · rename_i e
      obtain ⟨v2, F1, Z, a, b, p⟩ := lk_rps t h
      refine ⟨v2, F1, F ++ Z, ?_, b, ?_⟩
      · rw [List.zip_cons_cons, List.lookup_cons]
        have : (f == n) = false := by simpa using e
        rw [this]
        exact a
      · refine (List.Perm.append_left F p).trans ?_
        rw [← List.append_assoc, ← List.append_assoc]
        exact List.Perm.append_right Z List.perm_append_comm
def pFld (C : Nat) (f : Str) : PV → Option PV
  | .ins _ C' ns xs => if C' = C then lkP f ns xs else none
  | _ => none
def eFld (C : Nat) (f : Str) (S : ES) : ES := eUn (pFld C f) S
theorem je_fld {C : Nat} {f : Str} (cl : Cls c.K (c.cm C)) (na : NoAttr c.K (c.cm C) f) (ha : JE c E ta S) : JE c E (tFld c.K ta f) (eFld C f S) := by
  refine je_un (r := fun x H Q => ∃ a C dx fs v, x = .ref a ∧ H a = some (.ins C dx fs) ∧ Cls c.K C ∧ NoAttr c.K C f ∧ fs.lookup f = some v ∧ Q v H) ?_ ha
  intro M G H σ Γ va x z Q s e p
  obtain ⟨F, r, k⟩ := s.one
  unfold pFld at e
  split at e
  · rename_i o C' ns xs
    split at e
    · rename_i hC
      subst hC
      obtain ⟨a, dx, vs, F', rfl, h, hl, rr, ef⟩ := r.insOf s.gh s.bh
      obtain ⟨v, F1, Z, hv, rv, pm⟩ := lk_rps rr e
      refine ⟨a, _, dx, _, v, rfl, h, cl, na, hv, p v G H .refl ?_⟩
      obtain ⟨Z2, p2⟩ := sub_perm (Z := []) ef
      exact k [v] [z] (F1 ++ []) (Z ++ Z2) (.cons rv .nil) (by
        rw [List.append_nil, ← List.append_assoc]
        exact p2.trans (List.Perm.append_right _ pm))
    · cases e
  · cases e
end
end FV

/-! subscripts, dicts read, displays, tests -/
namespace FV
open PySem PySem.Spec PyProof.Rows L2 Evl SB
def keyOf : PV → Option Key
  | .int i => some (.inl i)
  | .str s => some (.inr s)
  | _ => none
def keysOf : List PV → Option (List Key)
  | [] => some []
  | x :: xs => match keyOf x, keysOf xs with
    | some k, some ks => some (k :: ks)
    | _, _ => none
def lkK {κ : Type} [DecidableEq κ] (k : κ) : List κ → List PV → Option PV
  | n :: ns, x :: xs => if n = k then some x else lkK k ns xs
  | _, _ => none
section
variable {c : Ct} {E : L2.St → XK} {te ta tb : TE} {tA : TA} {tt : TT} {S T : ES} {AA : AS} {r : R2} {o : PV → PV → Option PV}
theorem keyOf_v {G B H : Hp} {v : V} {x : PV} {F : List Addr} {k : Key} (r : Rp c G B H v x F) (h : keyOf x = some k) : v = kV k := by
  cases x <;> cases h
  · exact rp_int r
  · exact rp_str r
theorem keysOf_v {G B H : Hp} : ∀ {vs xs F} {ks : List Key}, Rps c G B H vs xs F → keysOf xs = some ks → vs = ks.map kV
  | _, _, _, _, .nil, h => by cases h; rfl
  | _, _, _, _, .cons r t, h => by
    unfold keysOf at h
    split at h
    · rename_i k ks hk hks
      cases h
      rw [List.map_cons, keyOf_v r hk, keysOf_v t hks]
    · cases h
theorem lkK_rps {κ : Type} [DecidableEq κ] {G B H : Hp} {k : κ} {x : PV} : ∀ {ns : List κ} {vs xs F}, Rps c G B H vs xs F → lkK k ns xs = some x → ∃ v F1 Z, valV (ns.zip vs) k = some v ∧ Rp c G B H v x F1 ∧ F.Perm (F1 ++ Z)
  | [], _, _, _, _, h => by unfold lkK at h; cases h
  | n :: ns, _, _, _, .nil, h => by unfold lkK at h; cases h
  | n :: ns, _, _, _, .cons (v := v) (vs := vs) (F := F) (F' := F') r t, h => by
    unfold lkK at h
    split at h
    · rename_i e
      cases h
      exact ⟨v, F, F', by rw [List.zip_cons_cons]; exact valV_pos (p := (n, v)) e, r, List.Perm.refl _⟩
    · rename_i e
      obtain ⟨v2, F1, Z, a, b, p⟩ := lkK_rps t h
      refine ⟨v2, F1, F ++ Z, ?_, b, ?_⟩
      · rw [List.zip_cons_cons, valV_neg (p := (n, v)) e]
        exact a
      · refine (List.Perm.append_left F p).trans ?_
        rw [← List.append_assoc, ← List.append_assoc]
        exact List.Perm.append_right Z List.perm_append_comm
theorem lkK_none {κ : Type} [DecidableEq κ] {G B H : Hp} {k : κ} : ∀ {ns : List κ} {vs xs F}, Rps c G B H vs xs F → ns.length = vs.length → valV (ns.zip vs) k = none ∨ ∃ v, valV (ns.zip vs) k = some v ∧ ∃ x, lkK k ns xs = some x := by
  intro ns
  induction ns with
  | nil => intro vs xs F _ _; exact .inl rfl
  | cons n ns ih =>
    intro vs xs F r l
    cases r with
    | nil => simp at l
    | cons r t =>
      by_cases e : n = k
      · exact .inr ⟨_, by rw [List.zip_cons_cons]; exact valV_pos (p := (n, _)) e, _, by unfold lkK; rw [if_pos e]⟩
      · rcases ih t (by simpa using l) with h | ⟨v, h, x, hx⟩
        · exact .inl (by rw [List.zip_cons_cons, valV_neg (p := (n, _)) e]; exact h)
        · exact .inr ⟨v, by rw [List.zip_cons_cons, valV_neg (p := (n, _)) e]; exact h, x, by unfold lkK; rw [if_neg e]; exact hx⟩
/-- xs[i], t[i], s[i] -/
def oIx : PV → PV → Option PV
  | .lst _ xs, .int i => atI xs i
  | .tup xs, .int i => atI xs i
  | .str z, .int i => if z.length ≤ sizeLine then (atI z.cps.toList i).map fun k => .str ⟨#[k]⟩ else none
  | _, _ => none
/-- d[k] -/
def oGet : PV → PV → Option PV
  | .dk _ ks xs, y => match keyOf y with
    | some k => lkK k ks xs
    | none => none
  | .dt _ ks xs, .tup ys => match keysOf ys with
    | some (k :: r) => lkK (k :: r) ks xs
    | _ => none
  | _, _ => none
theorem atI_rps {G B H : Hp} {vs : List V} {xs : List PV} {F : List Addr} {i : Int} {x : PV} (r : Rps c G B H vs xs F) (h : atI xs i = some x) : ∃ v F1 Z, atI vs i = some v ∧ Rp c G B H v x F1 ∧ F.Perm (F1 ++ Z) := by
  unfold atI at h ⊢
  rw [r.len]
  cases q : ixN xs.length i with
  | none => rw [q] at h; cases h
  | some j =>
    rw [q] at h
    obtain ⟨v, F1, F2, a, b, p, _⟩ := r.get h
    exact ⟨v, F1, F2, a, b, p⟩
theorem jo_ix : JO c (rIx c.K) oIx := by
  intro M G H σ Γ va vb x y z Q s e p
  obtain ⟨F1, F2, r1, r2, k⟩ := s.two
  unfold oIx at e
  split at e
  · rename_i o xs i
    obtain ⟨a, vs, Fa, rfl, ha, ra, ea⟩ := r1.seqL s.gh s.bh
    obtain ⟨v, F3, Z, hv, rv, pv⟩ := atI_rps ra e
    obtain ⟨Za, pa⟩ := sub_perm (Z := []) ea
    have eb := rp_int r2
    refine .inl ⟨a, vs, i, v, rfl, eb, ha, hv, p v G H .refl (k [v] [z] (F3 ++ []) ((Z ++ Za) ++ F2) (.cons rv .nil) ?_)⟩
    rw [List.append_nil, ← List.append_assoc, ← List.append_assoc]
    exact List.Perm.append_right F2 (pa.trans (List.Perm.append_right Za pv))
  · rename_i xs i
    obtain ⟨a, vs, rfl, _, ha, ra⟩ := r1.seqT s.gh
    obtain ⟨v, F3, Z, hv, rv, pv⟩ := atI_rps ra e
    have eb := rp_int r2
    refine .inr (.inl ⟨a, vs, i, v, rfl, eb, ha, hv, p v G H .refl (k [v] [z] (F3 ++ []) (Z ++ F2) (.cons rv .nil) ?_)⟩)
    rw [List.append_nil, ← List.append_assoc]
    exact List.Perm.append_right F2 pv
  · rename_i w i
    split at e
    · rename_i hz
      cases q : atI w.cps.toList i with
      | none => rw [q] at e; cases e
      | some cc =>
        rw [q] at e
        cases e
        exact .inr (.inr ⟨w, i, cc, rp_str r1, rp_int r2, hz, q, p _ G H .refl (s.sc .str)⟩)
    · cases e
  · cases e
/-- the key in hand -/
theorem TpAt.at {G H : Hp} {a : Addr} {vs : List V} (gh : GH G H) (t : TpAt c G a vs) (n : vs ≠ []) : H a = some (.tup vs) := by
  rcases t with t | ⟨e, _⟩
  · exact gh.at t rfl
  · exact absurd e n
/-- DGet, where the dict and the key are known -/
theorem dget_of {M : Fm} {G H : Hp} {σ : L2.St} {Γ : Env} {va vb : V} {x y : PV} {F1 F2 : List Addr} (gh : GH G H) (bh : GH M.B H) (r1 : Rp c G M.B H va x F1) (r2 : Rp c G M.B H vb y F2) {z : PV} (e : oGet x y = some z) :
    ∃ a v F3 Z, va = .ref a ∧ DGet H a vb (some v) ∧ Rp c G M.B H v z F3 ∧ F1.Perm (F3 ++ Z) := by
  unfold oGet at e
  split at e
  · rename_i o ks xs y
    split at e
    · rename_i k hk
      obtain ⟨a, vs, Fa, rfl, ha, hl, ra, ea⟩ := r1.dkOf gh bh
      obtain ⟨v, F3, Z, hv, rv, pv⟩ := lkK_rps ra e
      obtain ⟨Za, pa⟩ := sub_perm (Z := []) ea
      refine ⟨a, v, F3, Z ++ Za, rfl, .inl ⟨_, k, ha, keyOf_v r2 hk, hv.symm⟩, rv, ?_⟩
      rw [← List.append_assoc]
      exact pa.trans (List.Perm.append_right Za pv)
    · cases e
  · rename_i o ks xs ys
    split at e
    · rename_i k rk hk
      obtain ⟨a, vs, Fa, rfl, ha, hl, ra, ea⟩ := r1.dtOf gh bh
      obtain ⟨b, ws, rfl, tb, _, rb⟩ := r2.seqT gh
      have ew := keysOf_v rb hk
      obtain ⟨v, F3, Z, hv, rv, pv⟩ := lkK_rps ra e
      obtain ⟨Za, pa⟩ := sub_perm (Z := []) ea
      refine ⟨a, v, F3, Z ++ Za, rfl, .inr ⟨_, k :: rk, b, ha, rfl, by rw [← ew]; exact tb.at gh (by rw [ew]; simp), hv.symm⟩, rv, ?_⟩
      rw [← List.append_assoc]
      exact pa.trans (List.Perm.append_right Za pv)
    · cases e
  · cases e
theorem je_get (ha : JE c E ta S) (hb : JE c E tb T) : JE c E (tDGet ta tb) (eOp oGet S T) := by
  intro M G H σ Γ Γ' rr Q s e p
  refine two ha hb s e (fun e he => by subst he; exact p) fun x y v u G' H' Γ2 g s' e' => ?_
  cases q : oGet x y with
  | none => rw [q] at e'; cases e'
  | some z =>
    rw [q] at e'
    cases e'
    obtain ⟨F1, F2, r1, r2, k⟩ := s'.two
    obtain ⟨a, w, F3, Z, rfl, hd, rv, pz⟩ := dget_of (σ := σ) (Γ := Γ) s'.gh s'.bh r1 r2 q
    refine ⟨a, w, rfl, hd, p w G' H' g (k [w] [z] (F3 ++ []) (Z ++ F2) (.cons rv .nil) ?_)⟩
    rw [List.append_nil, ← List.append_assoc]
    exact List.Perm.append_right F2 pz
/-- the first that answers -/
def oOr (o o' : PV → PV → Option PV) (x y : PV) : Option PV := match o x y with
  | some z => some z
  | none => o' x y
theorem eOp_or {o o' : PV → PV → Option PV} {Γ Γ' : Env} {rr : Rt} (e : eOp (oOr o o') S T Γ = some (rr, Γ')) : eOp o S T Γ = some (rr, Γ') ∨ eOp o' S T Γ = some (rr, Γ') := by
  unfold eOp eThen at e ⊢
  cases q : S Γ with
  | none => rw [q] at e; cases e
  | some o1 =>
    obtain ⟨o1, Γ1⟩ := o1
    rw [q] at e
    cases o1 with
    | ex x => exact .inl e
    | ok x =>
      simp only at e ⊢
      cases q2 : T Γ1 with
      | none => rw [q2] at e; cases e
      | some o2 =>
        obtain ⟨o2, Γ2⟩ := o2
        rw [q2] at e
        cases o2 with
        | ex x => exact .inl e
        | ok y =>
          simp only at e ⊢
          unfold oOr at e
          cases q3 : o x y with
          | some z => rw [q3] at e; exact .inl e
          | none => rw [q3] at e; exact .inr e
theorem je_or {t1 t2 : TE} {o o' : PV → PV → Option PV} (h : JE c E t1 (eOp o S T)) (h' : JE c E t2 (eOp o' S T)) : JE c E (teOr t1 t2) (eOp (oOr o o') S T) := by
  intro M G H σ Γ Γ' rr Q s e p
  rcases eOp_or e with q | q
  · exact .inl (h s q p)
  · exact .inr (h' s q p)
/-- xs[i] or d[k] -/
def oSub : PV → PV → Option PV := oOr oIx oGet
theorem je_sub (ha : JE c E ta S) (hb : JE c E tb T) : JE c E (teOr (tOp (rIx c.K) ta tb) (tDGet ta tb)) (eOp oSub S T) := je_or (je_op jo_ix ha hb) (je_get ha hb)
/-- what stands under the key, perhaps nothing -/
def oHas : PV → PV → Option Bool
  | y, .dk _ ks xs => match keyOf y with
    | some k => some (lkK k ks xs).isSome
    | none => none
  | .tup ys, .dt _ ks xs => match keysOf ys with
    | some (k :: r) => some (lkK (k :: r) ks xs).isSome
    | _ => none
  | _, _ => none
theorem dhas_of {M : Fm} {G H : Hp} {va vb : V} {x y : PV} {F1 F2 : List Addr} (gh : GH G H) (bh : GH M.B H) (r1 : Rp c G M.B H va x F1) (r2 : Rp c G M.B H vb y F2) {b : Bool} (e : oHas x y = some b) :
    ∃ a o, vb = .ref a ∧ DGet H a va o ∧ o.isSome = b := by
  unfold oHas at e
  split at e
  · rename_i y o ks xs
    split at e
    · rename_i k hk
      cases e
      obtain ⟨a, vs, Fa, rfl, ha, hl, ra, ea⟩ := r2.dkOf gh bh
      refine ⟨a, _, rfl, .inl ⟨_, k, ha, keyOf_v r1 hk, rfl⟩, ?_⟩
      cases q : lkK k ks xs with
      | some z =>
        obtain ⟨v, _, _, hv, _⟩ := lkK_rps ra q
        rw [hv]; rfl
      | none =>
        rcases lkK_none (k := k) ra hl.1 with h | ⟨v, _, x, h⟩
        · rw [h]; rfl
        · rw [q] at h; cases h
    · cases e
  · rename_i ys o ks xs
    split at e
    · rename_i k rk hk
      cases e
      obtain ⟨a, vs, Fa, rfl, ha, hl, ra, ea⟩ := r2.dtOf gh bh
      obtain ⟨b, ws, rfl, tb, _, rb⟩ := r1.seqT gh
      have ew := keysOf_v rb hk
      refine ⟨a, _, rfl, .inr ⟨_, k :: rk, b, ha, rfl, by rw [← ew]; exact tb.at gh (by rw [ew]; simp), rfl⟩, ?_⟩
      cases q : lkK (k :: rk) ks xs with
      | some z =>
        obtain ⟨v, _, _, hv, _⟩ := lkK_rps ra q
        rw [hv]; rfl
      | none =>
        rcases lkK_none (k := k :: rk) ra hl.1 with h | ⟨v, _, x, h⟩
        · rw [h]; rfl
        · rw [q] at h; cases h
    · cases e
  · cases e
/-- x in xs, flat -/
def toVs : List PV → Option (List V)
  | [] => some []
  | x :: xs => match toV x, toVs xs with
    | some v, some vs => some (v :: vs)
    | _, _ => none
theorem toV_flat {x : PV} {v : V} (h : toV x = some v) : flatV v = true := by cases x <;> cases h <;> rfl
theorem toVs_flat : ∀ {xs : List PV} {vs : List V}, toVs xs = some vs → vs.all flatV = true
  | [], _, h => by cases h; rfl
  | x :: xs, _, h => by
    unfold toVs at h
    split at h
    · rename_i v vs hv hvs
      cases h
      rw [List.all_cons, toV_flat hv, toVs_flat hvs]; rfl
    · cases h
theorem toVs_eq {G B H : Hp} : ∀ {vs xs F} {ws : List V}, Rps c G B H vs xs F → toVs xs = some ws → vs = ws
  | _, _, _, _, .nil, h => by cases h; rfl
  | _, _, _, _, .cons r t, h => by
    unfold toVs at h
    split at h
    · rename_i v vs hv hvs
      cases h
      rw [r.toV hv, toVs_eq t hvs]
    · cases h
def inSeq (x : PV) (xs : List PV) : Option Bool := match toV x, toVs xs with
  | some v, some vs => some (inV v vs)
  | _, _ => none
def oInL : PV → PV → Option Bool
  | x, .lst _ xs => inSeq x xs
  | x, .tup xs => inSeq x xs
  | _, _ => none
def oInLb (neg : Bool) (x y : PV) : Option PV := (oInL x y).map fun b => .bl (if neg then !b else b)
theorem jo_inL (neg : Bool) : JO c (rIn c.K neg) (oInLb neg) := by
  intro M G H σ Γ va vb x y z Q s e p
  obtain ⟨F1, F2, r1, r2, k⟩ := s.two
  unfold oInLb at e
  have fin : ∀ {a xs vs b F}, vb = .ref a → (SqL c.K H a vs ∨ SqT c.K H a vs) → Rps c G M.B H vs xs F → inSeq x xs = some b → PV.bl (if neg then !b else b) = z → rIn c.K neg va vb H Q := by
    intro a xs vs b F e1 hs ra hb e2
    unfold inSeq at hb
    split at hb
    · rename_i v ws hv hws
      cases hb
      have := toVs_eq ra hws
      subst this
      have := r1.toV hv
      subst this
      subst e2
      exact ⟨a, vs, e1, hs, toV_flat hv, toVs_flat hws, p _ G H .refl (s.sc .bl)⟩
    · cases hb
  cases q : oInL x y with
  | none => rw [q] at e; cases e
  | some b =>
    rw [q] at e
    cases e
    unfold oInL at q
    split at q
    · obtain ⟨a, vs, Fa, rfl, ha, ra, ea⟩ := r2.seqL s.gh s.bh
      exact fin rfl (.inl ha) ra q rfl
    · obtain ⟨a, vs, rfl, _, ha, ra⟩ := r2.seqT s.gh
      exact fin rfl (.inr ha) ra q rfl
    · cases q
def oInDb (neg : Bool) (x y : PV) : Option PV := (oHas x y).map fun b => .bl (if neg then !b else b)
/-- x in a list, a tuple or a dict -/
def oIn (neg : Bool) : PV → PV → Option PV := oOr (oInLb neg) (oInDb neg)
theorem je_din (ha : JE c E ta S) (hb : JE c E tb T) : JE c E (tDIn ta tb) (eOp (oInDb false) S T) := by
  intro M G H σ Γ Γ' rr Q s e p
  refine two ha hb s e (fun e he => by subst he; exact p) fun x y v u G' H' Γ2 g s' e' => ?_
  obtain ⟨F1, F2, r1, r2, k⟩ := s'.two
  unfold oInDb at e'
  cases q4 : oHas x y with
  | none => simp only [q4] at e'; cases e'
  | some b =>
    simp only [q4] at e'
    cases e'
    obtain ⟨a, o, rfl, hd, ho⟩ := dhas_of (M := M) s'.gh s'.bh r1 r2 q4
    exact ⟨a, o, rfl, hd, by rw [ho]; exact p _ G' H' g (s'.sc .bl)⟩
theorem je_dnotin (ha : JE c E ta S) (hb : JE c E tb T) : JE c E (tDNotIn ta tb) (eOp (oInDb true) S T) := by
  intro M G H σ Γ Γ' rr Q s e p
  refine two ha hb s e (fun e he => by subst he; exact p) fun x y v u G' H' Γ2 g s' e' => ?_
  obtain ⟨F1, F2, r1, r2, k⟩ := s'.two
  unfold oInDb at e'
  cases q4 : oHas x y with
  | none => simp only [q4] at e'; cases e'
  | some b =>
    simp only [q4] at e'
    cases e'
    obtain ⟨a, o, rfl, hd, ho⟩ := dhas_of (M := M) s'.gh s'.bh r1 r2 q4
    exact ⟨a, o, rfl, hd, by rw [ho]; exact p _ G' H' g (s'.sc .bl)⟩
theorem je_in (ha : JE c E ta S) (hb : JE c E tb T) : JE c E (teOr (tOp (rIn c.K false) ta tb) (tDIn ta tb)) (eOp (oIn false) S T) := je_or (je_op (jo_inL false) ha hb) (je_din ha hb)
/-! ### displays -/
def oLst (xs : List PV) : Option PV := if xs.length ≤ 100000 then some (.lst .own xs) else none
def oTup (xs : List PV) : Option PV := if xs.length ≤ 100000 then some (.tup xs) else none
theorem StX.rlen {M : Fm} {G H : Hp} {σ : L2.St} {Γ : Env} {vs : List V} {xs : List PV} (s : StX c M G H σ Γ vs xs) : vs.length = xs.length := by
  obtain ⟨F1, F2, r, t, w⟩ := s
  exact r.len
theorem je_lst (h : JA c E tA AA) : JE c E (tLstM tA) (eCB oLst AA) := by
  refine je_cb (r := fun xs H1 Q => xs.length ≤ 100000 ∧ ∀ p H2, H1 p = none → Ex H1 H2 → H2 p = some (.lst xs) → Q (.ref p) H2) ?_ h
  intro M G H σ Γ vs xs z Q s e p
  unfold oLst at e
  split at e
  · rename_i hl
    cases e
    exact ⟨by rw [s.rlen]; exact hl, fun a H2 na e2 ha => p _ G H2 (s.goEx e2) (s.newL na e2 ha)⟩
  · cases e
theorem je_tup (h : JA c E tA AA) : JE c E (tTupM tA) (eCB oTup AA) := by
  refine je_cb (r := fun xs H1 Q => xs.length ≤ 100000 ∧ ∀ p H2, H1 p = none → Ex H1 H2 → H2 p = some (.tup xs) → Q (.ref p) H2) ?_ h
  intro M G H σ Γ vs xs z Q s e p
  unfold oTup at e
  split at e
  · rename_i hl
    cases e
    exact ⟨by rw [s.rlen]; exact hl, fun a H2 na e2 ha => let ⟨G', g, s'⟩ := s.newT na e2 ha; p _ G' H2 g s'⟩
  · cases e
theorem je_dnewK : JE c E tDNewK (eC (.dk .own [] [])) := by
  intro M G H σ Γ Γ' rr Q s e p
  cases e
  exact fun a na => p _ G _ (s.goEx (Ex.new na)) (s.newO na (Ex.new na) fun r => by cases r; exact .dk (ks := []) (vs := []) upd_same ⟨rfl, List.nodup_nil⟩ .nil)
/-! ### tests -/
def eNot (S : ES) : ES := eThen S fun x Γ => match x with
  | .bl b => some (.ok (.bl (!b)), Γ)
  | _ => none
def eAnd (S T : ES) : ES := eThen S fun x Γ => match x with
  | .bl true => T Γ
  | .bl false => some (.ok (.bl false), Γ)
  | _ => none
def eOrB (S T : ES) : ES := eThen S fun x Γ => match x with
  | .bl true => some (.ok (.bl true), Γ)
  | .bl false => T Γ
  | _ => none
theorem PosT.at {M : Fm} {G H G1 H1 : Hp} {σ : L2.St} {Γ : Env} {Q : Bool → Hp → Prop} {rr : Rt} (p : PosT c M G H σ Γ E Q rr) (g : Go M G H G1 H1) : PosT c M G1 H1 σ Γ E Q rr := by
  cases rr with
  | ok x => cases x <;> first | exact p | exact fun G' H' g' s => p G' H' (g.trans g') s
  | ex e => exact XPos.at p g
theorem PosE.at {M : Fm} {G H G1 H1 : Hp} {σ : L2.St} {Γ : Env} {Q : VK} {rr : Rt} (p : PosE c M G H σ Γ E Q rr) (g : Go M G H G1 H1) : PosE c M G1 H1 σ Γ E Q rr := by
  cases rr with
  | ok x => exact fun v G' H' g' s => p v G' H' (g.trans g') s
  | ex e => exact XPos.at p g
theorem bool_in {M : Fm} {G H : Hp} {σ : L2.St} {Γ : Env} {v : V} {b : Bool} (s : StX c M G H σ Γ [v] [.bl b]) : v = .bl b := by
  obtain ⟨F, r, _⟩ := s.one
  exact rp_bl r
/-- a bool's value, as a test -/
theorem jt_of (h : JE c E te S) {tt : TT} (i : ∀ σ H (QT : Bool → Hp → Prop), (te σ H fun x H1 => ∃ k, x = .bl k ∧ QT k H1) → tt σ H QT) : JT c E tt S := by
  intro M G H σ Γ Γ' rr Q s e p
  refine i σ H Q (h s e ?_)
  cases rr with
  | ok x =>
    cases x with
    | bl b => exact fun v G' H' g s' => ⟨b, bool_in s', p G' H' g s'.drop⟩
    | _ => exact False.elim p
  | ex x => exact p
theorem jt_test (h : JE c E te S) : JT c E (tTest te) S := jt_of h fun _ _ _ q => q
theorem jt_B (h : JE c E te S) : JT c E (L2.tB te) S := jt_of h fun _ _ _ q => q
theorem jt_yes : JT c E tYes (eC (.bl true)) := fun _ _ _ _ _ _ _ _ s e p => by cases e; exact p _ _ .refl s
section
variable {t1 t2 : TT}
/-- one test, then another thing -/
theorem jt_and (h : JT c E t1 S) (h' : JT c E t2 T) : JT c E (tAnd t1 t2) (eAnd S T) := by
  intro M G H σ Γ Γ' rr Q s e p
  show t1 σ H _
  unfold eAnd eThen at e
  cases q : S Γ with
  | none => rw [q] at e; cases e
  | some o1 =>
    obtain ⟨o1, Γ1⟩ := o1
    rw [q] at e
    refine h s q ?_
    cases o1 with
    | ex x => cases e; exact p
    | ok x =>
      cases x <;> try (cases e; done)
      rename_i b
      cases b with
      | true => exact fun G' H' g s' => iteT (h' s' e (p.at g))
      | false => cases e; exact fun G' H' g s' => iteF (p G' H' g s')
theorem jt_or (h : JT c E t1 S) (h' : JT c E t2 T) : JT c E (tOr t1 t2) (eOrB S T) := by
  intro M G H σ Γ Γ' rr Q s e p
  show t1 σ H _
  unfold eOrB eThen at e
  cases q : S Γ with
  | none => rw [q] at e; cases e
  | some o1 =>
    obtain ⟨o1, Γ1⟩ := o1
    rw [q] at e
    refine h s q ?_
    cases o1 with
    | ex x => cases e; exact p
    | ok x =>
      cases x <;> try (cases e; done)
      rename_i b
      cases b with
      | false => exact fun G' H' g s' => iteF (h' s' e (p.at g))
      | true => cases e; exact fun G' H' g s' => iteT (p G' H' g s')
theorem jt_not (h : JT c E t1 S) : JT c E (tNot t1) (eNot S) := by
  intro M G H σ Γ Γ' rr Q s e p
  show t1 σ H _
  unfold eNot eThen at e
  cases q : S Γ with
  | none => rw [q] at e; cases e
  | some o1 =>
    obtain ⟨o1, Γ1⟩ := o1
    rw [q] at e
    refine h s q ?_
    cases o1 with
    | ex x => cases e; exact p
    | ok x =>
      cases x <;> try (cases e; done)
      cases e
      exact fun G' H' g s' => p G' H' g s'
theorem je_andV (h : JE c E ta S) (h' : JE c E tb T) : JE c E (tAndV ta tb) (eAnd S T) := by
  intro M G H σ Γ Γ' rr Q s e p
  show ta σ H _
  unfold eAnd eThen at e
  cases q : S Γ with
  | none => rw [q] at e; cases e
  | some o1 =>
    obtain ⟨o1, Γ1⟩ := o1
    rw [q] at e
    refine h s q ?_
    cases o1 with
    | ex x => cases e; exact p
    | ok x =>
      cases x <;> try (cases e; done)
      rename_i b
      cases b with
      | true => exact fun v G' H' g s' => ⟨true, bool_in s', iteT (h' s'.drop e (p.at g))⟩
      | false => cases e; exact fun v G' H' g s' => ⟨false, bool_in s', iteF (p _ G' H' g (by rw [bool_in s'] at s'; exact s'))⟩
end
end
end FV

/-! owned things are changed -/
namespace FV
open PySem PySem.Spec PyProof.Rows L2 Evl SB
abbrev Loc3 := Hp → V → V → Prop
/-- a way from slot i to an owned thing -/
structure Ln (c : Ct) (i : Nat) (te : TE) (loc : Loc3) (pg : PV → Option PV) (ps : PV → PV → PV) : Prop where
  det : ∀ {H : Hp} {r v v' : V}, loc H r v → loc H r v' → v = v'
  run : ∀ {G B H : Hp} {v0 : V} {root x : PV} {F : List Addr}, GH G H → GH B H → Rp c G B H v0 root F → pg root = some x → ∃ v F1 F2, F.Perm (F1 ++ F2) ∧ Rp c G B H v x F1 ∧
    (∀ H2 : Hp, (∀ a ∈ F, H2 a = H a) → loc H2 v0 v) ∧
    (∀ (σ : L2.St) (H2 : Hp) (Q : VK), σ[i]? = some (some v0) → (∀ a ∈ F, H2 a = H a) → Q v H2 → te σ H2 Q) ∧
    (∀ {G' H' : Hp} {x' : PV} {F1' : List Addr}, Ex G G' → (∀ a ∈ F2, H' a = H a) → Rp c G' B H' v x' F1' → ∃ F', F'.Perm (F1' ++ F2) ∧ Rp c G' B H' v0 (ps root x') F')
def lcV : Loc3 := fun _ r v => v = r
def lcF (l : Loc3) (f : Str) : Loc3 := fun H r v => ∃ a C dx fs, l H r (.ref a) ∧ H a = some (.ins C dx fs) ∧ fs.lookup f = some v
def pgF (C : Nat) (f : Str) (pg : PV → Option PV) : PV → Option PV := fun r => match pg r with
  | some (.ins .own C' ns xs) => if C' = C then lkP f ns xs else none
  | _ => none
def setP (f : Str) (y : PV) : List Str → List PV → List PV
  | n :: ns, x :: xs => if f = n then y :: xs else x :: setP f y ns xs
  | _, xs => xs
def psF (f : Str) (pg : PV → Option PV) (ps : PV → PV → PV) : PV → PV → PV := fun r y => match pg r with
  | some (.ins .own C ns xs) => ps r (.ins .own C ns (setP f y ns xs))
  | _ => r
section
variable {c : Ct} {E : L2.St → XK} {te ta tb : TE} {tA : TA} {tt : TT} {S T : ES} {AA : AS} {i : Nat} {loc : Loc3} {pg : PV → Option PV} {ps : PV → PV → PV} {pins : List Bool}
theorem ln_var : Ln c i (tVar i) lcV some fun _ x => x where
  det := fun h h' => h.trans h'.symm
  run := fun _ _ r h => by
    cases h
    exact ⟨_, _, [], by rw [List.append_nil], r, fun _ _ => rfl, fun σ H2 Q e _ q => ⟨_, e, q⟩, fun eg _ r' => ⟨_, by rw [List.append_nil], r'⟩⟩
/-- one of several, and what stands in its place -/
theorem lkP_set {G B H : Hp} {f : Str} {x : PV} : ∀ {ns : List Str} {vs xs F}, Rps c G B H vs xs F → lkP f ns xs = some x → ∃ v F1 Z, (ns.zip vs).lookup f = some v ∧ Rp c G B H v x F1 ∧ F.Perm (F1 ++ Z) ∧
    ∀ {G' H' x' F1'}, Ex G G' → (∀ a ∈ Z, H' a = H a) → Rp c G' B H' v x' F1' → ∃ F', F'.Perm (F1' ++ Z) ∧ Rps c G' B H' vs (setP f x' ns xs) F'
  | [], _, _, _, _, h => by unfold lkP at h; cases h
  | n :: ns, _, _, _, .nil, h => by unfold lkP at h; cases h
  | n :: ns, _, _, _, .cons (v := v) (F := F) (F' := F') r t, h => by
    unfold lkP at h
    split at h
    · rename_i e
      cases h
      exact ⟨v, F, F', by rw [List.zip_cons_cons, List.lookup_cons, e]; simp, r, List.Perm.refl _, fun eg k r' => ⟨_, List.Perm.refl _, by unfold setP; rw [if_pos e]; exact .cons r' (t.up eg k)⟩⟩
    · rename_i e
      obtain ⟨v2, F1, Z, a, b, p, st⟩ := lkP_set t h
      refine ⟨v2, F1, F ++ Z, ?_, b, ?_, fun eg k r' => ?_⟩
      · rw [List.zip_cons_cons, List.lookup_cons]
        have : (f == n) = false := by simpa using e
        rw [this]
        exact a
      · refine (List.Perm.append_left F p).trans ?_
        rw [← List.append_assoc, ← List.append_assoc]
        exact List.Perm.append_right Z List.perm_append_comm
      · obtain ⟨F2, p2, r2⟩ := st eg (fun a ha => k a (List.mem_append_right _ ha)) r'
        refine ⟨F ++ F2, ?_, by unfold setP; rw [if_neg e]; exact .cons (r.up eg fun a ha => k a (List.mem_append_left _ ha)) r2⟩
        refine (List.Perm.append_left F p2).trans ?_
        rw [← List.append_assoc, ← List.append_assoc]
        exact List.Perm.append_right Z List.perm_append_comm
theorem ln_fld {C : Nat} {f : Str} (cl : Cls c.K (c.cm C)) (na : NoAttr c.K (c.cm C) f) (L : Ln c i te loc pg ps) : Ln c i (tFld c.K te f) (lcF loc f) (pgF C f pg) (psF f pg ps) where
  det := fun ⟨a, C, dx, fs, h1, h2, h3⟩ ⟨a', C', dx', fs', h1', h2', h3'⟩ => by
    cases L.det h1 h1'
    rw [h2] at h2'
    cases h2'
    rw [h3] at h3'
    exact Option.some.inj h3'
  run := by
    intro G B H v0 root x F gh bh r h
    unfold pgF at h
    split at h
    · rename_i C' ns xs hp
      split at h
      · rename_i hC
        subst hC
        obtain ⟨v, F1, F2, pm, rv, hl, ht, st⟩ := L.run gh bh r hp
        cases rv with
        | fr q => cases q
        | ins hH hn rs =>
          rename_i a dx vs Fc
          obtain ⟨w, F3, Z, hw, rw', pw, st2⟩ := lkP_set rs h
          have inF : ∀ {H2 : Hp}, (∀ b ∈ F, H2 b = H b) → H2 a = H a := fun k => k a (pm.mem_iff.mpr (List.mem_append_left _ (List.mem_cons_self ..)))
          refine ⟨w, F3, (a :: Z) ++ F2, ?_, rw', fun H2 k => ⟨a, _, dx, _, hl H2 k, by rw [inF k]; exact hH, hw⟩, fun σ H2 Q e k q => ?_, fun {G' H' x' F1'} eg k r' => ?_⟩
          · refine pm.trans ?_
            rw [← List.append_assoc]
            refine List.Perm.append_right F2 ?_
            refine (List.Perm.cons a pw).trans ?_
            exact List.perm_middle.symm
          · exact ht σ H2 _ e k ⟨a, _, dx, _, w, rfl, by rw [inF k]; exact hH, cl, na, hw, q⟩
          · obtain ⟨F4, p4, r4⟩ := st2 eg (fun b hb => k b (List.mem_append_left _ (List.mem_cons_of_mem _ hb))) r'
            have r5 : Rp c G' B H' (.ref a) (.ins .own C' ns (setP f x' ns xs)) (a :: F4) := .ins (by rw [k a (List.mem_append_left _ (List.mem_cons_self ..))]; exact hH) hn r4
            obtain ⟨F5, p5, r6⟩ := st eg (fun b hb => k b (List.mem_append_right _ hb)) r5
            refine ⟨F5, ?_, by unfold psF; rw [hp]; exact r6⟩
            refine p5.trans ?_
            rw [← List.append_assoc]
            refine List.Perm.append_right F2 ?_
            exact (List.Perm.cons a p4).trans List.perm_middle.symm
      · cases h
    · cases h
/-- an owned thing at the end of a way, beside what is in hand: one cell of it is written -/
theorem StX.mut {M : Fm} {G H : Hp} {σ : L2.St} {Γ : Env} {us : List V} {ys : List PV} {root x : PV} (s : StX c M G H σ Γ us ys) (L : Ln c i te loc pg ps) (hi : Γ[i]? = some (some root)) (hx : pg root = some x) :
    ∃ v0 v F1 Fu, σ[i]? = some (some v0) ∧ loc H v0 v ∧ (∀ Q : VK, Q v H → te σ H Q) ∧ Rp c G M.B H v x F1 ∧ Rps c G M.B H us ys Fu ∧ (F1 ++ Fu).Nodup ∧
      ∀ {H' x' a ws zs F1' Fw Z}, a ∈ F1 → (∀ b o, b ≠ a → H b = some o → H' b = some o) → (∃ q, H' a = some q ∧ isOb q = true) → Rp c G M.B H' v x' F1' → Rps c G M.B H' ws zs Fw → (F1 ++ Fu).Perm (F1' ++ (Fw ++ Z)) →
        Go M G H G H' ∧ StX c M G H' σ (Γ.set i (some (ps root x'))) ws zs := by
  obtain ⟨Fu, F2, r, t, w⟩ := s
  obtain ⟨v0, Fr, Ft, hv0, rr, tr, pr⟩ := t.get hi
  obtain ⟨v, F1, F3, pm, rv, hl, ht, st⟩ := L.run w.gh w.bh rr hx
  -- Fu ++ F2 ~ Fu ++ (F1 ++ F3) ++ Ft
  have p0 : (Fu ++ F2).Perm ((F1 ++ Fu) ++ (F3 ++ Ft)) := by
    refine (List.Perm.append_left Fu (pr.trans (List.Perm.append_right Ft pm))).trans ?_
    rw [List.append_assoc F1 F3 Ft, ← List.append_assoc Fu F1]
    exact List.Perm.append_right _ List.perm_append_comm
  have w0 := w.perm p0
  obtain ⟨n1, n2, n3⟩ := List.nodup_append.mp w0.nd
  refine ⟨v0, v, F1, Fu, hv0, hl H fun _ _ => rfl, fun Q q => ht σ H Q hv0 (fun _ _ => rfl) q, rv, r, n1, fun {H' x' a ws zs F1' Fw Z} ha k na r1 rw' pz => ?_⟩
  obtain ⟨wo', go⟩ := w0.write (H' := H') (List.mem_append_left _ (List.mem_append_left _ ha)) k na
  have keep : ∀ b ∈ F3 ++ Ft, H' b = H b := fun b hb => by
    have ne : b ≠ a := fun z => n3 a (List.mem_append_left _ ha) b hb z.symm
    cases q : H b with
    | none =>
      exfalso
      rcases List.mem_append.mp hb with hb | hb
      · exact rr.live b (pm.mem_iff.mpr (List.mem_append_right _ hb)) q
      · exact tr.live b hb q
    | some o => exact k b o ne q
  obtain ⟨Fr', pr', rr'⟩ := st (Ex.refl _) (fun b hb => keep b (List.mem_append_left _ hb)) r1
  have tr' := tr.up (Ex.refl _) fun b hb => keep b (List.mem_append_right _ hb)
  have hlt : i < σ.length := (List.getElem?_eq_some_iff.mp hv0).1
  have hg : i < Γ.length := (List.getElem?_eq_some_iff.mp hi).1
  obtain ⟨F6, t6, p6⟩ := tr'.put hlt (by rw [List.getElem?_set]; simp [hg]) rr'
  rw [List.set_set] at t6
  have es : σ.set i (some v0) = σ := by
    refine List.ext_getElem? fun j => ?_
    rw [List.getElem?_set]
    split
    · rename_i e
      subst e
      exact hv0.symm
    · rfl
  rw [es] at t6
  refine ⟨go, Fw, F6, rw', t6, ?_⟩
  have : ((F1 ++ Fu) ++ (F3 ++ Ft)).Perm (Z ++ (Fw ++ F6)) := by
    have e1 : ((F1 ++ Fu) ++ (F3 ++ Ft)).Perm ((F1' ++ (Fw ++ Z)) ++ (F3 ++ Ft)) := List.Perm.append_right _ pz
    have e2 : F6.Perm ((F1' ++ F3) ++ Ft) := p6.trans (List.Perm.append_right Ft pr')
    refine e1.trans ?_
    refine List.Perm.trans ?_ (List.Perm.append_left Z (List.Perm.append_left Fw e2.symm))
    simp only [List.append_assoc]
    have q : ∀ (A B C D : List Addr), (A ++ (B ++ (C ++ D))).Perm (C ++ (B ++ (A ++ D))) := fun A B C D => by
      refine (List.perm_append_comm_assoc A B _).trans ?_
      refine List.Perm.trans (List.Perm.append_left B (List.perm_append_comm_assoc A C D)) ?_
      exact List.perm_append_comm_assoc B C _
    exact q F1' Fw Z (F3 ++ Ft)
  exact (wo'.perm this).right
/-! ### arguments under the frame rule -/
def aW (ms : List Bool) (S : AS) : AS := fun Γ => match S (brwEx ms Γ) with
  | some (.ok xs, Γ1) => if (noBrws xs && okEx ms Γ1) = true then some (.ok xs, mix ms Γ1 Γ) else none
  | some (.ex e, Γ1) => if (noBrw e.val && okEx ms Γ1) = true then some (.ex e, mix ms Γ1 Γ) else none
  | none => none
/-- .. with what is lent told -/
theorem ja_Wx {M : Fm} {G H : Hp} {σ : L2.St} {Γ Γ' : Env} {r : RtA} (ms : List Bool) (h : JA c E tA AA) (s : StX c M G H σ Γ [] []) (e : aW ms AA Γ = some (r, Γ')) :
    ∃ Ψ : Addr → Prop, (∀ (i : Nat) (x : PV), ms.getD i false = false → Γ[i]? = some (some x) → ∃ v F0, σ[i]? = some (some v) ∧ Rp c G M.B H v x F0 ∧ ∀ a ∈ F0, Ψ a) ∧
      (∀ (i : Nat) (x : Option PV), ms.getD i false = false → Γ[i]? = some x → Γ'[i]? = some x) ∧
      ∀ Q : List V → Hp → Prop, (∀ xs, r = .ok xs → ∀ vs G' H', Go M G H G' H' → (∀ a, Ψ a → H' a = H a) → StX c M G' H' σ Γ' vs xs → Q vs H') → (∀ x, r = .ex x → XPos c M G H σ Γ' x E) → tA σ H Q := by
  obtain ⟨M', s', lent, back⟩ := s.lend ms
  unfold aW at e
  cases q : AA (brwEx ms Γ) with
  | none => rw [q] at e; cases e
  | some o =>
    obtain ⟨o, Γ1⟩ := o
    rw [q] at e
    have same : Γ' = mix ms Γ1 Γ := by
      cases o with
      | ok xs => simp only at e; split at e <;> cases e; rfl
      | ex x => simp only at e; split at e <;> cases e; rfl
    subst same
    refine ⟨M'.Φ, lent, ?_, fun Q p px => h s' q ?_⟩
    · exact fun i x hm h => by rw [mix_get hm]; exact h
    · cases o with
      | ok xs =>
        simp only at e
        split at e
        · rename_i ok
          rw [Bool.and_eq_true] at ok
          cases e
          intro vs G1 H1 g s1
          obtain ⟨g2, s2⟩ := back g s1 ok.2 ok.1 .refl
          exact p xs rfl vs G1 H1 g2 (fun a ha => g.s a (.inl ha)) s2
        · cases e
      | ex x =>
        simp only at e
        split at e
        · rename_i ok
          rw [Bool.and_eq_true] at ok
          cases e
          exact XPos.lent (px _ rfl) ok.1 .refl fun g s1 nb => back g s1 ok.2 nb .refl
        · cases e
/-- a method of an owned thing, by values -/
def JM (c : Ct) (T : String) (r : V → List V → Hp → VK → Prop) (f : PV → List PV → Option (PV × PV)) : Prop := ∀ ⦃G B H : Hp⦄ ⦃v : V⦄ ⦃x : PV⦄ ⦃F1 : List Addr⦄ ⦃us : List V⦄ ⦃ys : List PV⦄ ⦃Fu : List Addr⦄ ⦃x' z : PV⦄, GH G H → GH B H → Rp c G B H v x F1 → Rps c G B H us ys Fu → (F1 ++ Fu).Nodup →
  f x ys = some (x', z) → ∀ Q : VK, (∀ w H' a F1' Fw Z, a ∈ F1 → (∀ b o, b ≠ a → H b = some o → H' b = some o) → (∃ q, H' a = some q ∧ isOb q = true) → Rp c G B H' v x' F1' → Rps c G B H' [w] [z] Fw → (F1 ++ Fu).Perm (F1' ++ (Fw ++ Z)) → Q w H') → r v us H Q
def kindP : String → PV → Bool
  | "list", .lst .own _ => true
  | "dict", .dk .own _ _ => true
  | "dict", .dt .own _ _ => true
  | _, _ => false
theorem tyV_kind {T : String} {G B H : Hp} {v : V} {x : PV} {F : List Addr} (r : Rp c G B H v x F) (h : kindP T x = true) : tyV c.K T v H := by
  unfold kindP at h
  split at h
  · cases r with
    | fr q => cases q
    | lst h _ => exact .inl ⟨rfl, _, SqL.of h⟩
  · cases r with
    | fr q => cases q
    | dk h _ _ => exact .inr (.inr (.inl ⟨rfl, .inl ⟨_, h⟩⟩))
  · cases r with
    | fr q => cases q
    | dt h _ _ => exact .inr (.inr (.inl ⟨rfl, .inr ⟨_, h⟩⟩))
  · cases h
def eMth (T : String) (i : Nat) (pg : PV → Option PV) (ps : PV → PV → PV) (f : PV → List PV → Option (PV × PV)) (ms : List Bool) (AA : AS) : ES := fun Γ => match Γ[i]? with
  | some (some root) => match pg root with
    | some x => if kindP T x = true then match aW ms AA Γ with
        | some (.ok ys, Γ1) => match f x ys with
          | some (x', z) => some (.ok z, Γ1.set i (some (ps root x')))
          | none => none
        | some (.ex e, Γ1) => some (.ex e, Γ1)
        | none => none
      else none
    | none => none
  | _ => none
theorem je_mth {T : String} {r : V → List V → Hp → VK → Prop} {f : PV → List PV → Option (PV × PV)} (L : Ln c i te loc pg ps) (hm : JM c T r f) (ms : List Bool) (ha : JA c E tA AA) (mi : ms.getD i false = false := by rfl) :
    JE c E (tBM c.K T r te tA) (eMth T i pg ps f ms AA) := by
  intro M G H σ Γ Γ' rr Q s e p
  show te σ H _
  unfold eMth at e
  split at e
  · rename_i root hr
    split at e
    · rename_i x hx
      split at e
      · rename_i kd
        cases q : aW ms AA Γ with
        | none => rw [q] at e; cases e
        | some o =>
          obtain ⟨o, Γ1⟩ := o
          rw [q] at e
          obtain ⟨Ψ, lent, same, k⟩ := ja_Wx ms ha s q
          obtain ⟨v0, F0, hv0, r0, hΨ⟩ := lent i root mi hr
          obtain ⟨v, Fa, Fb, pm, rv, hl, hte, _⟩ := L.run s.gh s.bh r0 hx
          refine hte σ H _ hv0 (fun _ _ => rfl) ⟨tyV_kind rv kd, k _ (fun xs hxs vs G1 H1 g un s1 => ?_) fun xx hxx => ?_⟩
          · subst hxs
            simp only at e
            split at e
            · rename_i x' z hf
              cases e
              obtain ⟨v0', w, F1, Fu, hv0', hl', _, rw', ru, nd, fin⟩ := s1.mut L (same i _ mi hr) hx
              have : v0' = v0 := by rw [hv0] at hv0'; cases hv0'; rfl
              subst this
              have : w = v := L.det hl' (hl H1 fun a ha => un a (hΨ a ha))
              subst this
              refine hm s1.gh s1.bh rw' ru nd hf Q fun z' H' a F1' Fw Z ha hk hn hr1 hw hp => ?_
              obtain ⟨g3, s3⟩ := fin ha hk hn hr1 hw hp
              exact p z' G1 H' (g.trans g3) s3
            · cases e
          · subst hxx
            cases e
            exact p
      · cases e
    · cases e
  · cases e
/-! ### the methods of lists -/
def fAppend : PV → List PV → Option (PV × PV)
  | .lst .own xs, [y] => if xs.length < sizeLine then some (.lst .own (xs ++ [y]), .non) else none
  | _, _ => none
theorem upd_k {H : Hp} {a : Addr} {o : HO} : ∀ b u, b ≠ a → H b = some u → upd H a o b = some u := fun b u n h => by rw [upd_ne n]; exact h
theorem upd_n {H : Hp} {a : Addr} {o : HO} (h : isOb o = true := by rfl) : ∃ q, upd H a o a = some q ∧ isOb q = true := ⟨o, upd_same, h⟩
theorem keep_of {H : Hp} {a : Addr} {o : HO} {F : List Addr} (n : a ∉ F) : ∀ b ∈ F, upd H a o b = H b := fun b hb => upd_ne fun z => n (z ▸ hb)
theorem jm_append : JM c "list" rAppend fAppend := by
  intro G B H v x F1 us ys Fu x' z gh bh r1 ru nd e Q k
  unfold fAppend at e
  split at e
  · rename_i xs y
    split at e
    · rename_i hl
      cases e
      cases r1 with
      | fr q => cases q
      | lst hH rs =>
        rename_i a vs Fc
        cases ru with
        | cons ry rn =>
          cases rn
          rename_i u Fy
          rw [List.append_nil] at nd k
          have na : a ∉ Fc ++ Fy := (List.nodup_cons.mp nd).1
          have nc : a ∉ Fc := fun h => na (List.mem_append_left _ h)
          have ny : a ∉ Fy := fun h => na (List.mem_append_right _ h)
          refine ⟨a, vs, u, rfl, rfl, hH, by rw [rs.len]; exact hl, k .non _ a (a :: (Fc ++ (Fy ++ []))) [] [] (List.mem_cons_self ..) upd_k upd_n (.lst upd_same ((rs.up (Ex.refl _) (keep_of nc)).app (.cons (ry.up (Ex.refl _) (keep_of ny)) .nil))) (.cons (F := []) (F' := []) (.fr .non) .nil) ?_⟩
          rw [List.append_nil, List.append_nil, List.append_nil]
          exact List.Perm.refl _
    · cases e
  · cases e
def fExtend : PV → List PV → Option (PV × PV)
  | .lst .own xs, [.lst o ys] => if o ≠ .scr ∧ xs.length + ys.length ≤ sizeLine then some (.lst .own (xs ++ ys), .non) else none
  | _, _ => none
def fClear : PV → List PV → Option (PV × PV)
  | .lst .own _, [] => some (.lst .own [], .non)
  | _, _ => none
theorem jm_clear : JM c "list" rClear fClear := by
  intro G B H v x F1 us ys Fu x' z gh bh r1 ru nd e Q k
  unfold fClear at e
  split at e
  · cases e
    cases ru
    cases r1 with
    | fr q => cases q
    | lst hH rs =>
      rename_i a vs Fc
      refine ⟨a, vs, rfl, rfl, hH, k .non _ a [a] [] Fc (List.mem_cons_self ..) upd_k upd_n (.lst upd_same .nil) (.cons (F := []) (F' := []) (.fr .non) .nil) ?_⟩
      rw [List.append_nil, List.nil_append]
      exact List.Perm.refl _
  · cases e
theorem Rps.rev {G B H : Hp} : ∀ {vs xs F}, Rps c G B H vs xs F → ∃ F', F'.Perm F ∧ Rps c G B H vs.reverse xs.reverse F'
  | _, _, _, .nil => ⟨[], List.Perm.refl _, .nil⟩
  | _, _, _, .cons (F := F) (F' := F') r t => by
    obtain ⟨F2, p, q⟩ := Rps.rev t
    refine ⟨F2 ++ (F ++ []), ?_, by rw [List.reverse_cons, List.reverse_cons]; exact q.app (.cons r .nil)⟩
    rw [List.append_nil]
    exact (List.Perm.append_right F p).trans List.perm_append_comm
/-- xs.pop(k), k not negative -/
def fPopAt : PV → List PV → Option (PV × PV)
  | .lst .own xs, [.int k] => if 0 ≤ k ∧ xs.length ≤ 100000 then match xs[k.toNat]? with
      | some y => some (.lst .own (xs.eraseIdx k.toNat), y)
      | none => none
    else none
  | _, _ => none
theorem Rps.erase {G B H : Hp} : ∀ {vs xs F} {i : Nat} {x : PV}, Rps c G B H vs xs F → xs[i]? = some x → ∃ v F1 F2, vs[i]? = some v ∧ Rp c G B H v x F1 ∧ Rps c G B H (vs.eraseIdx i) (xs.eraseIdx i) F2 ∧ F.Perm (F1 ++ F2)
  | _, _, _, _, _, .nil, h => by simp at h
  | _, _, _, 0, _, .cons (F := F) (F' := F') r t, h => by
    simp at h
    subst h
    exact ⟨_, F, F', rfl, r, t, List.Perm.refl _⟩
  | _, _, _, i + 1, _, .cons (F := F) (F' := F') r t, h => by
    obtain ⟨v, F1, F2, a, b, d, p⟩ := Rps.erase (i := i) t (by simpa using h)
    refine ⟨v, F1, F ++ F2, by simpa using a, b, .cons r d, ?_⟩
    refine (List.Perm.append_left F p).trans ?_
    rw [← List.append_assoc, ← List.append_assoc]
    exact List.Perm.append_right F2 List.perm_append_comm
theorem jm_popAt : JM c "list" rPopAt fPopAt := by
  intro G B H v x F1 us ys Fu x' z gh bh r1 ru nd e Q k
  unfold fPopAt at e
  split at e
  · rename_i xs kk
    split at e
    · rename_i h0
      cases q : xs[kk.toNat]? with
      | none => rw [q] at e; cases e
      | some y =>
        rw [q] at e
        cases e
        cases ru with
        | cons ry rn =>
          cases rn
          have := rp_int ry
          subst this
          cases r1 with
          | fr q => cases q
          | lst hH rs =>
            rename_i Fy a vs Fc
            have nd' : (a :: Fc).Nodup := (List.nodup_append.mp nd).1
            have na : a ∉ Fc := (List.nodup_cons.mp nd').1
            obtain ⟨w, Fa, Fb, hw, ra, rb, p⟩ := rs.erase q
            have n1 : a ∉ Fa := fun h => na (p.mem_iff.mpr (List.mem_append_left _ h))
            have n2 : a ∉ Fb := fun h => na (p.mem_iff.mpr (List.mem_append_right _ h))
            have ek : kk = ((kk.toNat : Nat) : Int) := by omega
            rw [ek]
            refine r_popAt hH (by rw [rs.len]; exact h0.2) hw fun H1 h1 sm => ?_
            refine k w H1 a (a :: Fb) (Fa ++ []) (Fy ++ []) (List.mem_cons_self ..) (fun b u n h => sm b u n h) ⟨_, h1, rfl⟩ (.lst h1 (rb.up (Ex.refl _) fun b hb => ?_)) (.cons (ra.up (Ex.refl _) fun b hb => ?_) .nil) ?_
            · cases qb : H b with
              | none => exact absurd qb (rb.live b hb)
              | some o => exact sm b o (fun z => n2 (z ▸ hb)) qb
            · cases qb : H b with
              | none => exact absurd qb (ra.live b hb)
              | some o => exact sm b o (fun z => n1 (z ▸ hb)) qb
            · simp only [List.append_nil, List.cons_append]
              refine List.Perm.cons a ?_
              rw [← List.append_assoc]
              refine List.Perm.append_right Fy (p.trans List.perm_append_comm)
    · cases e
  · cases e
end
end FV

/-! stores: d[k] = v, xs[i] = v, o.f = v, del d[k] -/
namespace FV
open PySem PySem.Spec PyProof.Rows L2 Evl SB
def putA {κ α : Type} [DecidableEq κ] (k : κ) (y : α) : List κ → List α → List κ × List α
  | n :: ns, x :: xs => if n = k then (n :: ns, y :: xs) else (n :: (putA k y ns xs).1, x :: (putA k y ns xs).2)
  | _, _ => ([k], [y])
section
variable {c : Ct} {E : L2.St → XK} {te ta tb tk tv : TE} {tA : TA} {tt : TT} {S T Sk Sv : ES} {AA : AS} {i : Nat} {loc : Loc3} {pg : PV → Option PV} {ps : PV → PV → PV} {pins : List Bool}
theorem putA_mem {κ α : Type} [DecidableEq κ] {k j : κ} {y : α} : ∀ {ks : List κ} {xs : List α}, ks.length = xs.length → (j ∈ (putA k y ks xs).1 ↔ j = k ∨ j ∈ ks)
  | [], [], _ => by simp [putA]
  | [], _ :: _, h => by simp at h
  | _ :: _, [], h => by simp at h
  | n :: ks, x :: xs, h => by
    unfold putA
    split
    · rename_i e
      subst e
      simp
    · simp only [List.mem_cons]
      rw [putA_mem (by simpa using h)]
      constructor
      · rintro (h | h | h)
        · exact .inr (.inl h)
        · exact .inl h
        · exact .inr (.inr h)
      · rintro (h | h | h)
        · exact .inr (.inl h)
        · exact .inl h
        · exact .inr (.inr h)
theorem putA_len {κ α : Type} [DecidableEq κ] {k : κ} {y : α} : ∀ {ks : List κ} {xs : List α}, ks.length = xs.length → (putA k y ks xs).1.length = (putA k y ks xs).2.length
  | [], [], _ => rfl
  | [], _ :: _, h => by simp at h
  | _ :: _, [], h => by simp at h
  | n :: ks, x :: xs, h => by
    unfold putA
    split
    · simpa using h
    · simp only [List.length_cons]
      rw [putA_len (by simpa using h)]
theorem putA_nd {κ α : Type} [DecidableEq κ] {k : κ} {y : α} : ∀ {ks : List κ} {xs : List α}, ks.length = xs.length → ks.Nodup → (putA k y ks xs).1.Nodup
  | [], [], _, _ => by simp [putA]
  | [], _ :: _, h, _ => by simp at h
  | _ :: _, [], h, _ => by simp at h
  | n :: ks, x :: xs, h, nd => by
    unfold putA
    obtain ⟨n1, n2⟩ := List.nodup_cons.mp nd
    split
    · exact nd
    · rename_i e
      refine List.nodup_cons.mpr ⟨fun z => ?_, putA_nd (by simpa using h) n2⟩
      rcases (putA_mem (by simpa using h)).mp z with z | z
      · exact e z
      · exact n1 z
theorem putA_keys {κ α β : Type} [DecidableEq κ] {k : κ} {y : α} {z : β} : ∀ {ks : List κ} {xs : List α} {zs : List β}, ks.length = xs.length → ks.length = zs.length → (putA k y ks xs).1 = (putA k z ks zs).1
  | [], [], [], _, _ => rfl
  | [], _ :: _, _, h, _ => by simp at h
  | [], [], _ :: _, _, h => by simp at h
  | _ :: _, [], _, h, _ => by simp at h
  | _ :: _, _ :: _, [], _, h => by simp at h
  | n :: ks, x :: xs, w :: zs, h, h' => by
    unfold putA
    split
    · rfl
    · rw [putA_keys (by simpa using h) (by simpa using h')]
theorem putK_putA {κ : Type} [DecidableEq κ] {k : κ} {v : V} : ∀ {ks : List κ} {vs : List V}, ks.length = vs.length → ks.Nodup → putK (ks.zip vs) k v = (putA k v ks vs).1.zip (putA k v ks vs).2
  | [], [], _, _ => rfl
  | [], _ :: _, h, _ => by simp at h
  | _ :: _, [], h, _ => by simp at h
  | n :: ks, x :: vs, h, nd => by
    obtain ⟨n1, n2⟩ := List.nodup_cons.mp nd
    have ih := putK_putA (k := k) (v := v) (ks := ks) (vs := vs) (by simpa using h) n2
    unfold putA
    split
    · rename_i e
      subst e
      rw [List.zip_cons_cons]
      unfold putK
      rw [List.any_cons, decide_eq_true (rfl : (n, x).1 = n), Bool.true_or, if_pos rfl, List.map_cons, if_pos rfl, List.zip_cons_cons]
      refine congrArg _ ?_
      refine (List.map_congr_left fun p hp => ?_).trans (List.map_id _)
      have : p.1 ≠ n := fun z => n1 (z ▸ (List.of_mem_zip hp).1)
      rw [if_neg this]
      rfl
    · rename_i e
      rw [List.zip_cons_cons, List.zip_cons_cons, ← ih]
      unfold putK
      rw [List.any_cons, decide_eq_false (show ¬ (n, x).1 = k from e), Bool.false_or]
      split
      · rw [List.map_cons, if_neg (show ¬ (n, x).1 = k from e)]
      · rfl
theorem putA_rps {κ : Type} [DecidableEq κ] {G B H : Hp} {k : κ} {v : V} {y : PV} {Fy : List Addr} (ry : Rp c G B H v y Fy) : ∀ {ks : List κ} {vs xs F}, ks.length = vs.length → Rps c G B H vs xs F → ∃ F' Z, Rps c G B H (putA k v ks vs).2 (putA k y ks xs).2 F' ∧ (F ++ Fy).Perm (F' ++ Z)
  | [], _, _, _, h, .nil => ⟨Fy ++ [], [], .cons ry .nil, by simp⟩
  | [], _, _, _, h, .cons _ _ => by simp at h
  | _ :: _, _, _, _, h, .nil => by simp at h
  | n :: ks, _, _, _, h, .cons (F := F) (F' := F') r t => by
    unfold putA
    split
    · exact ⟨_, F, .cons ry t, (List.Perm.append_right Fy List.perm_append_comm).trans (by
        rw [List.append_assoc]
        refine (List.perm_append_comm_assoc F' F Fy).trans ?_
        refine List.perm_append_comm.trans ?_
        refine List.Perm.append_right F ?_
        exact List.perm_append_comm)⟩
    · obtain ⟨F2, Z, a, p⟩ := putA_rps ry (by simpa using h) t
      refine ⟨F ++ F2, Z, .cons r a, ?_⟩
      rw [List.append_assoc, List.append_assoc]
      exact List.Perm.append_left F p
/-- d[k] = y -/
def fPut : PV → PV → PV → Option PV
  | .dk .own ks xs, q, y => match keyOf q with
    | some k => if ks.length < sizeLine then some (.dk .own (putA k y ks xs).1 (putA k y ks xs).2) else none
    | none => none
  | .dt .own ks xs, .tup qs, y => match keysOf qs with
    | some (k :: r) => if ks.length < sizeLine then some (.dt .own (putA (k :: r) y ks xs).1 (putA (k :: r) y ks xs).2) else none
    | _ => none
  | _, _, _ => none
theorem zip_len {α β : Type} {ks : List α} {vs : List β} (h : ks.length = vs.length) : (ks.zip vs).length = ks.length := by rw [List.length_zip]; omega
/-- the store by values: what is changed, and that it is well -/
theorem put_ok {G B H : Hp} {v : V} {x : PV} {F1 : List Addr} {u w : V} {y q : PV} {Fy Fq : List Addr} {x' : PV} (gh : GH G H) (rx : Rp c G B H v x F1) (ry : Rp c G B H u y Fy) (rq : Rp c G B H w q Fq) (nd : (F1 ++ Fy).Nodup) (e : fPut x q y = some x') :
    ∃ a H' F1' Z, v = .ref a ∧ a ∈ F1 ∧ DPut H a w u H' ∧ (∀ b o, b ≠ a → H b = some o → H' b = some o) ∧ (∃ q, H' a = some q ∧ isOb q = true) ∧ Rp c G B H' v x' F1' ∧ (F1 ++ Fy).Perm (F1' ++ Z) := by
  unfold fPut at e
  split at e
  · rename_i ks xs
    split at e
    · rename_i k hk
      split at e
      · rename_i hl
        cases e
        cases rx with
        | fr z => cases z
        | dk hH wk rs =>
          rename_i a vs Fc
          have na : a ∉ Fc ++ Fy := (List.nodup_cons.mp nd).1
          have n1 : a ∉ Fc := fun h => na (List.mem_append_left _ h)
          have n2 : a ∉ Fy := fun h => na (List.mem_append_right _ h)
          have lx : ks.length = xs.length := by rw [wk.1, rs.len]
          obtain ⟨F', Z, r', p⟩ := putA_rps (k := k) (ry.up (H' := upd H a (.dK (putK (ks.zip vs) k u))) (Ex.refl _) (keep_of n2)) wk.1 (rs.up (Ex.refl _) (keep_of n1))
          refine ⟨a, _, a :: F', Z, rfl, List.mem_cons_self .., .inl ⟨_, k, hH, keyOf_v rq hk, by rw [zip_len wk.1]; exact hl, rfl⟩, upd_k, upd_n, .dk ?_ ?_ r', List.Perm.cons a p⟩
          · rw [upd_same, putK_putA wk.1 wk.2, putA_keys (z := y) (zs := xs) wk.1 lx]
          · rw [← putA_keys (y := u) (xs := vs) wk.1 lx]
            exact ⟨putA_len wk.1, putA_nd wk.1 wk.2⟩
      · cases e
    · cases e
  · rename_i ks xs qs
    split at e
    · rename_i k r hk
      split at e
      · rename_i hl
        cases e
        cases rx with
        | fr z => cases z
        | dt hH wk rs =>
          rename_i a vs Fc
          have na : a ∉ Fc ++ Fy := (List.nodup_cons.mp nd).1
          have n1 : a ∉ Fc := fun h => na (List.mem_append_left _ h)
          have n2 : a ∉ Fy := fun h => na (List.mem_append_right _ h)
          have lx : ks.length = xs.length := by rw [wk.1, rs.len]
          obtain ⟨b, ws, rfl, tb, _, rb⟩ := rq.seqT gh
          have ew := keysOf_v rb hk
          obtain ⟨F', Z, r', p⟩ := putA_rps (k := k :: r) (ry.up (H' := upd H a (.dT (putK (ks.zip vs) (k :: r) u))) (Ex.refl _) (keep_of n2)) wk.1 (rs.up (Ex.refl _) (keep_of n1))
          refine ⟨a, _, a :: F', Z, rfl, List.mem_cons_self .., .inr ⟨_, k :: r, b, hH, rfl, by rw [← ew]; exact tb.at gh (by rw [ew]; simp), by rw [zip_len wk.1]; exact hl, rfl⟩, upd_k, upd_n, .dt ?_ ?_ r', List.Perm.cons a p⟩
          · rw [upd_same, putK_putA wk.1 wk.2, putA_keys (z := y) (zs := xs) wk.1 lx]
          · rw [← putA_keys (y := u) (xs := vs) wk.1 lx]
            exact ⟨putA_len wk.1, putA_nd wk.1 wk.2⟩
      · cases e
    · cases e
  · cases e
/-- a store into a thing at the end of a way: the value, then the way, then the key (under the frame rule) -/
def sPut (i : Nat) (pg : PV → Option PV) (ps : PV → PV → PV) (f : PV → PV → PV → Option PV) (ms : List Bool) (Sk Sv : ES) : SS := eS Sv fun y Γ => match Γ[i]? with
  | some (some root) => match pg root with
    | some x => match aW ms (aCons Sk aNil) Γ with
      | some (.ok [q], Γ1) => match f x q y with
        | some x' => some (.nx, Γ1.set i (some (ps root x')))
        | none => none
      | some (.ex e, Γ1) => some (.ex e, Γ1)
      | _ => none
    | none => none
  | _ => none
/-- the store's law -/
def JP (c : Ct) (f : PV → PV → PV → Option PV) (W : V → V → V → Hp → (Hp → Prop) → Prop) : Prop := ∀ ⦃G B H : Hp⦄ ⦃v : V⦄ ⦃x : PV⦄ ⦃F1 : List Addr⦄ ⦃u w : V⦄ ⦃y q : PV⦄ ⦃Fy Fq : List Addr⦄ ⦃x' : PV⦄, GH G H → GH B H → Rp c G B H v x F1 → Rp c G B H u y Fy → Rp c G B H w q Fq → (F1 ++ Fy).Nodup → f x q y = some x' →
  ∀ N : Hp → Prop, (∀ H' a F1' Z, a ∈ F1 → (∀ b o, b ≠ a → H b = some o → H' b = some o) → (∃ q, H' a = some q ∧ isOb q = true) → Rp c G B H' v x' F1' → (F1 ++ Fy).Perm (F1' ++ Z) → N H') → W v w u H N
theorem js_store {f : PV → PV → PV → Option PV} {W : V → V → V → Hp → (Hp → Prop) → Prop} {ts : TS} (L : Ln c i te loc pg ps) (hw : JP c f W) (hk : JE c E tk Sk) (hv : JE c E tv Sv) (ms : List Bool)
    (rd : ∀ D σ H, (tv σ H fun u H1 => te σ H1 fun o H2 => tk σ H2 fun w H3 => W o w u H3 (D.nx σ)) → ts D σ H) (mi : ms.getD i false = false := by rfl) : JS c E pins ts (sPut i pg ps f ms Sk Sv) := by
  intro M G H σ Γ Γ' rr D s e p
  refine rd D σ H ?_
  unfold sPut eS at e
  cases q : Sv Γ with
  | none => rw [q] at e; cases e
  | some o =>
    obtain ⟨o, Γ1⟩ := o
    rw [q] at e
    refine hv s q ?_
    cases o with
    | ex x => cases e; exact p _ _ _ .refl .refl
    | ok y =>
      intro u G1 H1 g s1
      obtain ⟨Fy, rF, s2, back⟩ := s1.frame
      simp only at e
      split at e
      · rename_i root hr
        split at e
        · rename_i x hx
          cases q2 : aW ms (aCons Sk aNil) Γ1 with
          | none => rw [q2] at e; cases e
          | some o2 =>
            obtain ⟨o2, Γ2⟩ := o2
            rw [q2] at e
            obtain ⟨Ψ, lent, same, k⟩ := ja_Wx ms (ja_cons hk ja_nil) s2 q2
            obtain ⟨v0, F0, hv0, r0, hΨ⟩ := lent i root mi hr
            obtain ⟨v, Fa, Fb, pm, rv, hl, hte, _⟩ := L.run s2.gh s2.bh r0 hx
            refine hte σ H1 _ hv0 (fun _ _ => rfl) ?_
            refine k (fun ws H3 => match ws with | [w] => W v w u H3 (D.nx σ) | _ => True) (fun xs hxs vs G3 H3 g3 un s3 => ?_) (fun xx hxx => ?_)
            · subst hxs
              split at e
              · rename_i qq Γ3 heq
                cases heq
                obtain ⟨g4, s4⟩ := back g3 s3
                split at e
                · rename_i x' hf
                  cases e
                  obtain ⟨v0', w', F1, Fu, hv0', hl', _, rw', ru, nd, fin⟩ := s4.mut L (same i _ mi hr) hx
                  have : v0' = v0 := by rw [hv0] at hv0'; cases hv0'; rfl
                  subst this
                  have : w' = v := L.det hl' (hl H3 fun a ha => un a (hΨ a ha))
                  subst this
                  cases ru with
                  | cons ry rr =>
                    cases rr with
                    | cons rq rn =>
                      cases rn
                      rename_i Fy' w Fq
                      have nd2 : (F1 ++ Fy').Nodup := by
                        rw [← List.append_assoc] at nd
                        exact (List.nodup_append.mp nd).1
                      show W w' w u H3 (D.nx σ)
                      refine hw s4.gh s4.bh rw' ry rq nd2 hf _ fun H' a F1' Z ha hkk hn hr1 hp => ?_
                      obtain ⟨g5, s5⟩ := fin (ws := []) (zs := []) (Fw := []) (Z := Z ++ Fq) ha hkk hn hr1 .nil (by
                        rw [List.append_nil, List.nil_append, ← List.append_assoc, ← List.append_assoc]
                        exact List.Perm.append_right Fq hp)
                      exact p σ G3 H' .refl (g.trans (g4.trans g5)) s5
                · cases e
              · rename_i heq; cases heq
              · cases e
            · subst hxx
              cases e
              exact XPos.frame (p _ _ _ .refl .refl) g rF.len back
        · cases e
      · cases e
/-- d[k] = e -/
theorem js_dput (L : Ln c i te loc pg ps) (hk : JE c E tk Sk) (hv : JE c E tv Sv) (ms : List Bool) (mi : ms.getD i false = false := by rfl) : JS c E pins (sDPut te tk tv) (sPut i pg ps fPut ms Sk Sv) := by
  refine js_store (W := fun o w u H N => ∃ a H4, o = .ref a ∧ DPut H a w u H4 ∧ N H4) L ?_ hk hv ms (fun D σ H h => h) mi
  intro G B H v x F1 u w y q Fy Fq x' gh bh rx ry rq nd e N k
  obtain ⟨a, H', F1', Z, rfl, ha, hd, hk, hn, r', p⟩ := put_ok gh rx ry rq nd e
  exact ⟨a, H', rfl, hd, k H' a F1' Z ha hk hn r' p⟩
/-- xs[i] = e -/
def fSetL : PV → PV → PV → Option PV
  | .lst .own xs, .int k, y => match ixN xs.length k with
    | some j => some (.lst .own (xs.set j y))
    | none => none
  | _, _, _ => none
theorem Rps.set {G B H : Hp} {v : V} {y : PV} {Fy : List Addr} (ry : Rp c G B H v y Fy) : ∀ {vs xs F} (j : Nat), Rps c G B H vs xs F → ∃ F' Z, Rps c G B H (vs.set j v) (xs.set j y) F' ∧ (F ++ Fy).Perm (F' ++ Z)
  | _, _, _, _, .nil => ⟨[], Fy, .nil, List.Perm.refl _⟩
  | _, _, _, 0, .cons (F := F) (F' := F') r t => ⟨_, F, .cons ry t, List.perm_iff_count.mpr fun a => by simp only [List.count_append]; omega⟩
  | _, _, _, j + 1, .cons (F := F) (F' := F') r t => by
    obtain ⟨F2, Z, a, p⟩ := Rps.set ry j t
    refine ⟨F ++ F2, Z, .cons r a, ?_⟩
    rw [List.append_assoc, List.append_assoc]
    exact List.Perm.append_left F p
theorem jp_setL : JP c fSetL fun o w u H N => rSetL o w u H N := by
  intro G B H v x F1 u w y q Fy Fq x' gh bh rx ry rq nd e N k
  unfold fSetL at e
  split at e
  · rename_i xs kk
    split at e
    · rename_i j hj
      cases e
      have := rp_int rq
      subst this
      cases rx with
      | fr z => cases z
      | lst hH rs =>
        rename_i a vs Fc
        have na : a ∉ Fc ++ Fy := (List.nodup_cons.mp nd).1
        have n1 : a ∉ Fc := fun h => na (List.mem_append_left _ h)
        have n2 : a ∉ Fy := fun h => na (List.mem_append_right _ h)
        obtain ⟨F', Z, r', p⟩ := Rps.set (ry.up (H' := upd H a (.lst (vs.set j u))) (Ex.refl _) (keep_of n2)) j (rs.up (Ex.refl _) (keep_of n1))
        exact ⟨a, vs, kk, j, rfl, rfl, hH, by rw [rs.len]; exact hj, k _ a (a :: F') Z (List.mem_cons_self ..) upd_k upd_n (.lst upd_same r') (List.Perm.cons a p)⟩
    · cases e
  · cases e
theorem js_setL (L : Ln c i te loc pg ps) (hk : JE c E tk Sk) (hv : JE c E tv Sv) (ms : List Bool) (mi : ms.getD i false = false := by rfl) : JS c E pins (tAsg tv (gSub te tk rSetL)) (sPut i pg ps fSetL ms Sk Sv) :=
  js_store L jp_setL hk hv ms (fun D σ H h => h) mi
/-- o.f = e -/
def fFld (f : Str) : PV → PV → Option PV
  | .ins .own C ns xs, y => if ns.length < 900 ∧ ns.length = xs.length then some (.ins .own C (putA f y ns xs).1 (putA f y ns xs).2) else none
  | _, _ => none
theorem putF_putA {f : Str} {v : V} : ∀ {ns : List Str} {vs : List V}, ns.length = vs.length → putF f v (ns.zip vs) = (putA f v ns vs).1.zip (putA f v ns vs).2
  | [], [], _ => rfl
  | [], _ :: _, h => by simp at h
  | _ :: _, [], h => by simp at h
  | n :: ns, x :: vs, h => by
    have ih := putF_putA (f := f) (v := v) (ns := ns) (vs := vs) (by simpa using h)
    rw [List.zip_cons_cons]
    unfold putA putF
    split
    · rfl
    · rw [ih]; rfl
def sSetF (i : Nat) (pg : PV → Option PV) (ps : PV → PV → PV) (C : Nat) (f : Str) (Sv : ES) : SS := eS Sv fun y Γ => match Γ[i]? with
  | some (some root) => match pg root with
    | some (.ins .own C' ns xs) => if C' = C then match fFld f (.ins .own C' ns xs) y with
      | some x' => some (.nx, Γ.set i (some (ps root x')))
      | none => none
      else none
    | _ => none
  | _ => none
theorem fld_ok {G B H : Hp} {v : V} {x : PV} {F1 : List Addr} {u : V} {y : PV} {Fy : List Addr} {x' : PV} {f : Str} (rx : Rp c G B H v x F1) (ry : Rp c G B H u y Fy) (nd : (F1 ++ Fy).Nodup) (e : fFld f x y = some x') :
    ∃ a dx fs F1' Z C ns xs, x = .ins .own C ns xs ∧ v = .ref a ∧ a ∈ F1 ∧ H a = some (.ins (c.cm C) dx fs) ∧ fs.length < 1000 ∧ Rp c G B (upd H a (.ins (c.cm C) dx (putF f u fs))) v x' F1' ∧ (F1 ++ Fy).Perm (F1' ++ Z) := by
  unfold fFld at e
  split at e
  · rename_i C ns xs
    split at e
    · rename_i hl
      cases e
      cases rx with
      | fr z => cases z
      | ins hH wk rs =>
        rename_i a dx vs Fc
        have na : a ∉ Fc ++ Fy := (List.nodup_cons.mp nd).1
        have n1 : a ∉ Fc := fun h => na (List.mem_append_left _ h)
        have n2 : a ∉ Fy := fun h => na (List.mem_append_right _ h)
        obtain ⟨F', Z, r', p⟩ := putA_rps (k := f) (ry.up (H' := upd H a (.ins (c.cm C) dx (putF f u (ns.zip vs)))) (Ex.refl _) (keep_of n2)) wk (rs.up (Ex.refl _) (keep_of n1))
        refine ⟨a, dx, _, a :: F', Z, C, ns, xs, rfl, rfl, List.mem_cons_self .., hH, by rw [zip_len wk]; omega, .ins (dx := dx) ?_ ?_ r', List.Perm.cons a p⟩
        · rw [upd_same, putF_putA wk, putA_keys (z := y) (zs := xs) wk hl.2]
        · rw [← putA_keys (y := u) (xs := vs) wk hl.2]
          exact putA_len wk
    · cases e
  · cases e
theorem js_fld {C : Nat} {f : Str} (cl : Cls c.K (c.cm C)) (na : NoAttr c.K (c.cm C) f) (L : Ln c i te loc pg ps) (hv : JE c E tv Sv) : JS c E pins (sFld c.K te tv f) (sSetF i pg ps C f Sv) := by
  intro M G H σ Γ Γ' rr D s e p
  show tv σ H _
  unfold sSetF eS at e
  cases q : Sv Γ with
  | none => rw [q] at e; cases e
  | some o =>
    obtain ⟨o, Γ1⟩ := o
    rw [q] at e
    refine hv s q ?_
    cases o with
    | ex x => cases e; exact p _ _ _ .refl .refl
    | ok y =>
      intro u G1 H1 g s1
      simp only at e
      split at e
      · rename_i root hr
        split at e
        · rename_i C' ns xs hx
          split at e
          · rename_i hC
            subst hC
            split at e
            · rename_i x' hf
              cases e
              obtain ⟨v0, w, F1, Fu, hv0, hl, hte, rw', ru, nd, fin⟩ := s1.mut L hr hx
              refine hte _ ?_
              cases ru with
              | cons ry rn =>
                cases rn
                rename_i Fy
                rw [List.append_nil] at nd fin
                obtain ⟨a, dx, fs, F1', Z, C2, ns2, xs2, e2, rfl, ha, hH, hl2, r', pp⟩ := fld_ok rw' ry nd hf
                cases e2
                refine ⟨a, _, dx, fs, rfl, hH, cl, na, hl2, ?_⟩
                obtain ⟨g5, s5⟩ := fin (ws := []) (zs := []) (Fw := []) (Z := Z) ha upd_k upd_n r' .nil (by rw [List.nil_append]; exact pp)
                exact p σ G1 _ .refl (g.trans g5) s5
            · cases e
          · cases e
        · cases e
      · cases e
end
end FV

/-! targets, what is walked, loops, comprehensions -/
namespace FV
open PySem PySem.Spec PyProof.Rows L2 Evl SB
/-! ### targets -/
def JG (c : Ct) (ms : List Bool) (g : TG) (T : PV → Env → Option Env) : Prop := ∀ ⦃M : Fm⦄ ⦃G H : Hp⦄ ⦃σ : L2.St⦄ ⦃Γ Γ' : Env⦄ ⦃v : V⦄ ⦃x : PV⦄ ⦃Q : L2.St → Hp → Prop⦄, StX c M G H σ Γ [v] [x] → T x Γ = some Γ' →
  (∀ σ', Pin ms σ σ' → StX c M G H σ' Γ' [] [] → Q σ' H) → g v σ H Q
def JGs (c : Ct) (ms : List Bool) (g : TGs) (T : List PV → Env → Option Env) : Prop := ∀ ⦃M : Fm⦄ ⦃G H : Hp⦄ ⦃σ : L2.St⦄ ⦃Γ Γ' : Env⦄ ⦃vs : List V⦄ ⦃xs : List PV⦄ ⦃Q : L2.St → Hp → Prop⦄, StX c M G H σ Γ vs xs → T xs Γ = some Γ' →
  (∀ σ', Pin ms σ σ' → StX c M G H σ' Γ' [] [] → Q σ' H) → g vs σ H Q
def gN (i : Nat) : PV → Env → Option Env := fun x Γ => some (Γ.set i (some x))
def gNs : List PV → Env → Option Env
  | [], Γ => some Γ
  | _, _ => none
def gCs (T : PV → Env → Option Env) (U : List PV → Env → Option Env) : List PV → Env → Option Env
  | x :: xs, Γ => (T x Γ).bind (U xs)
  | [], _ => none
def gTp (n : Nat) (U : List PV → Env → Option Env) : PV → Env → Option Env
  | .tup xs, Γ => if xs.length = n then U xs Γ else none
  | _, _ => none
mutual
theorem fz_noOwn : ∀ x : PV, noOwn (fz x) = true
  | .non => rfl
  | .bl _ => rfl
  | .int _ => rfl
  | .str _ => rfl
  | .tup xs => by rw [fz, noOwn, fzs_noOwn xs]
  | .lst o xs => by rw [fz, noOwn, fzs_noOwn xs]; cases o <;> rfl
  | .dk o _ xs => by rw [fz, noOwn, fzs_noOwn xs]; cases o <;> rfl
  | .dt o _ xs => by rw [fz, noOwn, fzs_noOwn xs]; cases o <;> rfl
  | .ins o _ _ xs => by rw [fz, noOwn, fzs_noOwn xs]; cases o <;> rfl
  | .raw _ => rfl
  | .gone => rfl
theorem fzs_noOwn : ∀ xs : List PV, noOwns (fzs xs) = true
  | [] => rfl
  | x :: xs => by rw [fzs, noOwns, fz_noOwn x, fzs_noOwn xs]; rfl
end
section
variable {c : Ct} {E : L2.St → XK} {te ta tb tk tv : TE} {tA : TA} {tt : TT} {S T : ES} {AA : AS} {i : Nat} {pins ms : List Bool} {g : TG} {gs : TGs} {Tg : PV → Env → Option Env} {Ug : List PV → Env → Option Env}
theorem jg_name (h : ms.getD i false = true := by rfl) : JG c ms (gName i) (gN i) := by
  intro M G H σ Γ Γ' v x Q s e k
  cases e
  exact k _ (.set h) (s.set i)
theorem jgs_nil : JGs c ms gNil gNs := by
  intro M G H σ Γ Γ' vs xs Q s e k
  cases xs with
  | cons => cases e
  | nil =>
    cases e
    have : vs = [] := List.length_eq_zero_iff.mp s.rlen
    subst this
    exact ⟨rfl, k σ .refl s⟩
/-- the first in hand, the others in the frame -/
theorem jgs_cons (h : JG c ms g Tg) (h' : JGs c ms gs Ug) : JGs c ms (gCons g gs) (gCs Tg Ug) := by
  intro M G H σ Γ Γ' vs xs Q s e k
  cases xs with
  | nil => cases e
  | cons x xs =>
    cases vs with
    | nil => exact absurd s.rlen (by simp)
    | cons v vs =>
      have e : (Tg x Γ).bind (Ug xs) = some Γ' := e
      cases q : Tg x Γ with
      | none => rw [q] at e; cases e
      | some Γ1 =>
        rw [q] at e
        refine ⟨v, vs, rfl, ?_⟩
        -- v in hand, vs framed
        obtain ⟨F1, F2, r, t, w⟩ := s
        cases r with
        | cons r0 rs =>
          rename_i F0 Fs
          have s1 : StX c M G H σ Γ (vs ++ [v]) (xs ++ [x]) := ⟨Fs ++ (F0 ++ []), F2, rs.app (.cons r0 .nil), t, w.perm (by rw [List.append_nil]; exact List.Perm.append_right F2 List.perm_append_comm)⟩
          -- frame the others
          have s2 : StX c M G H σ [] vs xs ∨ True := .inr trivial
          have key : ∃ F, Rps c G M.B H vs xs F ∧ StX c (M.plus F) G H σ Γ [v] [x] ∧ ∀ {σ' Γ'}, StX c (M.plus F) G H σ' Γ' [] [] → StX c M G H σ' Γ' vs xs := by
            refine ⟨Fs, rs, ?_, ?_⟩
            · have w1 : Wo c M G H (Fs ++ (F0 ++ F2)) := w.perm (by rw [← List.append_assoc]; exact List.Perm.append_right F2 List.perm_append_comm)
              have w2 : Wo c (M.plus Fs) G H (F0 ++ F2) := by
                obtain ⟨a1, a2, a3⟩ := List.nodup_append.mp w1.nd
                refine ⟨w1.gh, w1.bh, fun a h => .inl (w1.bp a h), fun a h => ?_, a2, fun a h => ?_, fun a h => ⟨fun z => ?_, (w1.ff a (List.mem_append_right _ h)).2⟩, fun a h => ?_, w1.tb, fun a h => w1.sp a (List.mem_append_right _ h), w1.ntP fun _ h => List.mem_append_left _ h⟩
                · rcases h with (h | h) | h
                  · exact w1.al a (.inl h)
                  · exact rs.live a h
                  · exact w1.al a (.inr h)
                · rcases h with h | h | h
                  · exact w1.gf a (.inl (List.mem_append_right _ h))
                  · exact w1.gf a (.inr h)
                  · exact w1.gf a (.inl (List.mem_append_left _ h))
                · rcases z with z | z
                  · exact (w1.ff a (List.mem_append_right _ h)).1 z
                  · exact a3 a z a h rfl
                · rcases h with h | h
                  · exact w1.pt a h
                  · exact rs.notTup a h
              exact ⟨F0 ++ [], F2, .cons r0 .nil, t, by rw [List.append_nil]; exact w2⟩
            · intro σ' Γ'' s'
              obtain ⟨E1, E2, r2, t2, w2⟩ := s'
              cases r2
              rw [List.nil_append] at w2
              have nds : Fs.Nodup := (List.nodup_append.mp (List.nodup_append.mp w.nd).1).2.1
              have sub : ∀ a ∈ Fs, a ∈ (F0 ++ Fs) ++ F2 := fun a h => List.mem_append_left _ (List.mem_append_right _ h)
              refine ⟨Fs, E2, rs, t2, w2.gh, w2.bh, w.bp, fun a h => w2.al a (h.imp .inl id), List.nodup_append.mpr ⟨nds, w2.nd, fun a ha b hb e => ?_⟩, fun a h => ?_, fun a h => ?_, fun a h => w2.pt a (.inl h), w2.tb, fun a h => (List.mem_append.mp h).elim (fun h => w.sp a (sub a h)) (w2.sp a), ⟨fun a h => w2.nt.1 a (h.imp .inl id), w2.nt.2⟩⟩
              · subst e
                exact (w2.ff a hb).1 (.inr ha)
              · rcases h with h | h
                · rcases List.mem_append.mp h with h | h
                  · exact w2.gf a (.inr (.inr h))
                  · exact w2.gf a (.inl h)
                · exact w2.gf a (.inr (.inl h))
              · rcases List.mem_append.mp h with h | h
                · exact w.ff a (sub a h)
                · exact ⟨fun z => (w2.ff a h).1 (.inl z), (w2.ff a h).2⟩
          obtain ⟨F, _, s3, back⟩ := key
          exact h s3 q fun σ1 p1 s4 => h' (back s4) e fun σ2 p2 s5 => k σ2 (p1.trans p2) s5
theorem jg_tup {n : Nat} (h : JGs c ms gs Ug) : JG c ms (gTup c.K n gs) (gTp n Ug) := by
  intro M G H σ Γ Γ' v x Q s e k
  unfold gTp at e
  split at e
  · rename_i xs
    split at e
    · rename_i hl
      obtain ⟨F, r, into⟩ := s.one
      obtain ⟨a, vs, rfl, _, ha, rs⟩ := r.seqT s.gh
      have s2 := into vs xs F [] rs (by rw [List.append_nil])
      exact ⟨a, vs, rfl, ha, by rw [rs.len]; exact hl, h s2 e k⟩
    · cases e
  · cases e
/-- target = value -/
def sAsg (S : ES) (Tg : PV → Env → Option Env) : SS := eS S fun x Γ => (Tg x Γ).map fun Γ' => (.nx, Γ')
theorem js_asg (h : JE c E te S) (hg : JG c pins g Tg) : JS c E pins (tAsg te g) (sAsg S Tg) := by
  intro M G H σ Γ Γ' r D s e p
  show te σ H _
  unfold sAsg eS at e
  cases q : S Γ with
  | none => rw [q] at e; cases e
  | some o =>
    obtain ⟨o, Γ1⟩ := o
    rw [q] at e
    refine h s q ?_
    cases o with
    | ex x => cases e; exact p _ _ _ .refl .refl
    | ok x =>
      intro v G' H' go s'
      simp only at e
      cases q2 : Tg x Γ1 with
      | none => rw [q2] at e; cases e
      | some Γ2 =>
        rw [q2] at e
        cases e
        exact hg s' q2 fun σ' pn s2 => p σ' G' H' pn go s2
/-! ### what is walked -/
/-- J gives the things xs, as long as what stands stands -/
structure Itm (c : Ct) (M : Fm) (G H : Hp) (J : It) (xs : List PV) : Prop where
  go : ∀ {G' H' i}, Go M G H G' H' → GH G' H' → GH M.B H' → i < xs.length → J.go i H'
  stop : ∀ {G' H'}, Go M G H G' H' → GH G' H' → GH M.B H' → J.stop xs.length H'
  yld : ∀ {G' H' i x v H''}, Go M G H G' H' → GH G' H' → GH M.B H' → xs[i]? = some x → J.yld i H' v H'' → ∀ {σ Γ us ys}, StX c M G' H' σ Γ us ys → ∃ G'', Go M G' H' G'' H'' ∧ StX c M G'' H'' σ Γ (us ++ [v]) (ys ++ [x])
def JI (c : Ct) (E : L2.St → XK) (wi : TI) (S : AS) : Prop := ∀ ⦃M : Fm⦄ ⦃G H : Hp⦄ ⦃σ : L2.St⦄ ⦃Γ Γ' : Env⦄ ⦃r : RtA⦄ ⦃R : It → Hp → Prop⦄, StX c M G H σ Γ [] [] → S Γ = some (r, Γ') →
  (∀ xs, r = .ok xs → ∀ J G' H', Go M G H G' H' → StX c M G' H' σ Γ' [] [] → Itm c M G' H' J xs → R J H') → (∀ x, r = .ex x → XPos c M G H σ Γ' x E) → wi σ H R
/-- a thing without footprint joins what is in hand -/
theorem StX.push {M : Fm} {G H : Hp} {σ : L2.St} {Γ : Env} {us : List V} {ys : List PV} {v : V} {x : PV} (s : StX c M G H σ Γ us ys) (h : Rp c G M.B H v x []) : StX c M G H σ Γ (us ++ [v]) (ys ++ [x]) := by
  obtain ⟨F1, F2, r, t, w⟩ := s
  exact ⟨F1 ++ ([] ++ []), F2, r.app (.cons h .nil), t, by simpa using w⟩
/-- the items of what owns nothing -/
def itemsOf : PV → Option (List PV)
  | .lst _ xs => some xs
  | .tup xs => some xs
  | _ => none
def itemsL : PV → Option (List PV)
  | .lst _ xs => some xs
  | _ => none
def itemsT : PV → Option (List PV)
  | .tup xs => some xs
  | _ => none
/-- what is walked is frozen, if it is new -/
def src (f : PV → Option (List PV)) (S : ES) : AS := fun Γ => match S Γ with
  | some (.ok x, Γ1) => if noOwn x = true then (f x).map fun xs => (.ok xs, Γ1) else if noBrw x = true then (f (fz x)).map fun xs => (.ok xs, Γ1) else none
  | some (.ex e, Γ1) => some (.ex e, Γ1)
  | none => none
theorem Rps.get0 {G B H : Hp} {vs : List V} {xs : List PV} {i : Nat} {x : PV} (r : Rps c G B H vs xs []) (h : xs[i]? = some x) : ∃ v, vs[i]? = some v ∧ Rp c G B H v x [] := by
  obtain ⟨v, F1, F2, a, b, p, m⟩ := r.get h
  have : F1 = [] := List.eq_nil_iff_forall_not_mem.mpr fun z hz => List.not_mem_nil (m z hz)
  subst this
  exact ⟨v, a, b⟩
/-- a list whose place and items are known, nothing owned -/
theorem itm_list {M : Fm} {G H : Hp} {a : Addr} {o : Ow} {xs : List PV} (gh : GH G H) (bh : GH M.B H) (r : Rp c G M.B H (.ref a) (.lst o xs) []) : Itm c M G H (Itl c.K a) xs := by
  have up : ∀ {G' H'}, Go M G H G' H' → Rp c G' M.B H' (.ref a) (.lst o xs) [] := fun g => r.up g.g fun _ z => absurd z List.not_mem_nil
  have sq : ∀ {G' H'}, Go M G H G' H' → GH G' H' → GH M.B H' → ∃ vs, SqL c.K H' a vs ∧ Rps c G' M.B H' vs xs [] := fun g gh bh => by
    obtain ⟨a', vs, F', ea, hs, rs, ef⟩ := (up g).seqL gh bh
    cases ea
    have : F' = [] := by rcases ef with e | e <;> first | exact e.symm | cases e
    subst this
    exact ⟨vs, hs, rs⟩
  refine ⟨fun {G' H' i} g gh' bh' hi => ?_, fun {G' H'} g gh' bh' => ?_, fun {G' H' i x v H''} g gh' bh' hx y σ Γ us ys s => ?_⟩
  · obtain ⟨vs, hs, rs⟩ := sq g gh' bh'
    exact (walk_list (K := c.K) (a := a) (xs := vs)).goes i H' (by rw [rs.len]; exact hi) hs
  · obtain ⟨vs, hs, rs⟩ := sq g gh' bh'
    have := (walk_list (K := c.K) (a := a) (xs := vs)).stops H' hs
    rw [rs.len] at this
    exact this
  · obtain ⟨vs, hs, rs⟩ := sq g gh' bh'
    obtain ⟨rfl, hv⟩ := (walk_list (K := c.K) (a := a) (xs := vs)).yields i H' v H'' (by rw [rs.len]; exact (List.getElem?_eq_some_iff.mp hx).1) hs y
    obtain ⟨w, hw, rw'⟩ := rs.get0 hx
    have : w = v := by rw [hv] at hw; exact (Option.some.inj hw).symm
    subst this
    exact ⟨G', .refl, s.push rw'⟩
theorem itm_tup {M : Fm} {G H : Hp} {a : Addr} {xs : List PV} (gh : GH G H) (r : Rp c G M.B H (.ref a) (.tup xs) []) : Itm c M G H (Itt c.K a) xs := by
  have up : ∀ {G' H'}, Go M G H G' H' → Rp c G' M.B H' (.ref a) (.tup xs) [] := fun g => r.up g.g fun _ z => absurd z List.not_mem_nil
  have sq : ∀ {G' H'}, Go M G H G' H' → GH G' H' → ∃ vs, SqT c.K H' a vs ∧ Rps c G' M.B H' vs xs [] := fun g gh => by
    obtain ⟨a', vs, ea, _, hs, rs⟩ := (up g).seqT gh
    cases ea
    exact ⟨vs, hs, rs⟩
  refine ⟨fun {G' H' i} g gh' bh' hi => ?_, fun {G' H'} g gh' bh' => ?_, fun {G' H' i x v H''} g gh' bh' hx y σ Γ us ys s => ?_⟩
  · obtain ⟨vs, hs, rs⟩ := sq g gh'
    exact (walk_tup (K := c.K) (a := a) (xs := vs)).goes i H' (by rw [rs.len]; exact hi) hs
  · obtain ⟨vs, hs, rs⟩ := sq g gh'
    have := (walk_tup (K := c.K) (a := a) (xs := vs)).stops H' hs
    rw [rs.len] at this
    exact this
  · obtain ⟨vs, hs, rs⟩ := sq g gh'
    obtain ⟨rfl, hv⟩ := (walk_tup (K := c.K) (a := a) (xs := vs)).yields i H' v H'' (by rw [rs.len]; exact (List.getElem?_eq_some_iff.mp hx).1) hs y
    obtain ⟨w, hw, rw'⟩ := rs.get0 hx
    have : w = v := by rw [hv] at hw; exact (Option.some.inj hw).symm
    subst this
    exact ⟨G', .refl, s.push rw'⟩
/-- what is in hand owns nothing any more -/
theorem src_pre {M : Fm} {G H : Hp} {σ : L2.St} {Γ Γ1 : Env} {r : RtA} {f : PV → Option (List PV)} {Q : VK} (h : JE c E te S) (s : StX c M G H σ Γ [] []) (e : src f S Γ = some (r, Γ1)) (px : ∀ x, r = .ex x → XPos c M G H σ Γ1 x E)
    (k : ∀ xs, r = .ok xs → ∀ v x G' H', Go M G H G' H' → StX c M G' H' σ Γ1 [] [] → f x = some xs → Rp c G' M.B H' v x [] → Q v H') : te σ H Q := by
  unfold src at e
  cases q : S Γ with
  | none => rw [q] at e; cases e
  | some o =>
    obtain ⟨o, Γ2⟩ := o
    rw [q] at e
    refine h s q ?_
    cases o with
    | ex x => cases e; exact px _ rfl
    | ok x =>
      intro v G' H' g s'
      simp only at e
      split at e
      · rename_i no
        cases q2 : f x with
        | none => rw [q2] at e; cases e
        | some xs =>
          rw [q2] at e
          cases e
          obtain ⟨F, r, _⟩ := s'.one
          have := r.foot0 no
          subst this
          exact k xs rfl v x G' H' g s'.drop q2 r
      · split at e
        · rename_i nb
          cases q2 : f (fz x) with
          | none => rw [q2] at e; cases e
          | some xs =>
            rw [q2] at e
            cases e
            obtain ⟨G2, g2, s2⟩ := s'.freeze nb
            obtain ⟨F, r, _⟩ := s2.one
            have := r.foot0 (fz_noOwn x)
            subst this
            exact k xs rfl v (fz x) G2 H' (g.trans g2) s2.drop q2 r
        · cases e
theorem ji_list (h : JE c E te S) : JI c E (iList c.K te) (src itemsL S) := by
  intro M G H σ Γ Γ' r R s e p px
  refine src_pre (Q := fun x H1 => ∃ a, x = .ref a ∧ (∃ xs, SqL c.K H1 a xs) ∧ R (Itl c.K a) H1) h s e px fun xs hr v x G' H' g s' hf r0 => ?_
  unfold itemsL at hf
  split at hf
  · rename_i o ys
    cases hf
    obtain ⟨a, vs, F', rfl, hs, rs, _⟩ := r0.seqL s'.gh s'.bh
    exact ⟨a, rfl, ⟨vs, hs⟩, p _ hr _ G' H' g s' (itm_list s'.gh s'.bh r0)⟩
  · cases hf
theorem ji_tup (h : JE c E te S) : JI c E (iTup c.K te) (src itemsT S) := by
  intro M G H σ Γ Γ' r R s e p px
  refine src_pre (Q := fun x H1 => ∃ a, x = .ref a ∧ (∃ xs, SqT c.K H1 a xs) ∧ R (Itt c.K a) H1) h s e px fun xs hr v x G' H' g s' hf r0 => ?_
  unfold itemsT at hf
  split at hf
  · rename_i ys
    cases hf
    obtain ⟨a, vs, rfl, _, hs, rs⟩ := r0.seqT s'.gh
    exact ⟨a, rfl, ⟨vs, hs⟩, p _ hr _ G' H' g s' (itm_tup s'.gh r0)⟩
  · cases hf
/-! ### for -/
def forF (Tg : PV → Env → Option Env) (B : SS) : List PV → SS
  | [], Γ => some (.nx, Γ)
  | x :: xs, Γ => match Tg x Γ with
    | none => none
    | some Γ1 => match B Γ1 with
      | some (.nx, Γ2) => forF Tg B xs Γ2
      | some (.ct, Γ2) => forF Tg B xs Γ2
      | some (.bk, Γ2) => some (.nx, Γ2)
      | r => r
def sFor (S : AS) (Tg : PV → Env → Option Env) (B : SS) : SS := fun Γ => match S Γ with
  | some (.ok xs, Γ1) => forF Tg B xs Γ1
  | some (.ex e, Γ1) => some (.ex e, Γ1)
  | none => none
theorem forF_cons {B : SS} {x : PV} {xs : List PV} {Γ : Env} : forF Tg B (x :: xs) Γ = match Tg x Γ with
    | none => none
    | some Γ1 => match B Γ1 with
      | some (.nx, Γ2) => forF Tg B xs Γ2
      | some (.ct, Γ2) => forF Tg B xs Γ2
      | some (.bk, Γ2) => some (.nx, Γ2)
      | r => r := rfl
theorem js_for {wi : TI} {tb : TS} {B : SS} (hi : JI c E wi AA) (hg : JG c pins g Tg) (hb : JS c E pins tb B) : JS c E pins (tFor wi g tb) (sFor AA Tg B) := by
  intro M G H σ Γ Γ' rr D s e p
  show wi σ H _
  unfold sFor at e
  cases q : AA Γ with
  | none => rw [q] at e; cases e
  | some o =>
    obtain ⟨o, Γ1⟩ := o
    rw [q] at e
    refine hi s q (fun xs hxs J G1 H1 g1 s1 it => ?_) fun x hx => by subst hx; cases e; exact p _ _ _ .refl .refl
    subst hxs
    have e : forF Tg B xs Γ1 = some (rr, Γ') := e
    refine ⟨fun i m σ' H' => m = xs.length - i ∧ i ≤ xs.length ∧ ∃ G' Γi, Pin pins σ σ' ∧ Go M G1 H1 G' H' ∧ StX c M G' H' σ' Γi [] [] ∧ forF Tg B (xs.drop i) Γi = some (rr, Γ'), ⟨_, rfl, Nat.zero_le _, G1, Γ1, .refl, .refl, s1, by rw [List.drop_zero]; exact e⟩, ?_⟩
    rintro i m σ' H' ⟨rfl, hi, G', Γi, pn, go, st, ei⟩
    by_cases hlt : i < xs.length
    · refine .inr ⟨it.go go st.gh st.bh hlt, ?_⟩
      have ed : xs.drop i = xs[i] :: xs.drop (i + 1) := List.drop_eq_getElem_cons hlt
      rw [ed, forF_cons] at ei
      have hx : xs[i]? = some xs[i] := List.getElem?_eq_getElem hlt
      cases q1 : Tg xs[i] Γi with
      | none => rw [q1] at ei; cases ei
      | some Γ2 =>
        rw [q1] at ei
        simp only at ei
        cases q2 : B Γ2 with
        | none => rw [q2] at ei; cases ei
        | some o2 =>
          obtain ⟨o2, Γ3⟩ := o2
          rw [q2] at ei
          refine ⟨fun σ3 H3 => ∃ G3 Γ4, Pin pins σ σ3 ∧ Go M G1 H1 G3 H3 ∧ StX c M G3 H3 σ3 Γ4 [] [] ∧ forF Tg B (xs.drop (i + 1)) Γ4 = some (rr, Γ'), fun σ3 H3 ⟨G3, Γ4, a, b, d, f⟩ => ⟨_, by omega, rfl, hlt, G3, Γ4, a, b, d, f⟩, fun v H'' y => ?_⟩
          obtain ⟨G2, go2, st2⟩ := it.yld go st.gh st.bh hx y st
          refine hg (v := v) (x := xs[i]) st2 q1 fun σ2 pn2 st3 => hb st3 q2 ?_
          have gA : Go M G1 H1 G2 H'' := go.trans go2
          cases o2 with
          | nx => exact fun σ3 G3 H3 a b d => ⟨G3, Γ3, (pn.trans pn2).trans a, gA.trans b, d, ei⟩
          | ct => exact fun σ3 G3 H3 a b d => ⟨G3, Γ3, (pn.trans pn2).trans a, gA.trans b, d, ei⟩
          | bk => cases ei; exact fun σ3 G3 H3 a b d => p σ3 G3 H3 ((pn.trans pn2).trans a) (g1.trans (gA.trans b)) d
          | rt x => cases ei; exact fun v' σ3 G3 H3 a b d => p v' σ3 G3 H3 ((pn.trans pn2).trans a) (g1.trans (gA.trans b)) d
          | ex x => cases ei; exact fun σ3 G3 H3 a b => p σ3 G3 H3 ((pn.trans pn2).trans a) (g1.trans (gA.trans b))
    · have : i = xs.length := by omega
      subst this
      rw [List.drop_length] at ei
      cases ei
      exact .inl ⟨it.stop go st.gh st.bh, p σ' G' H' pn (g1.trans go) st⟩
/-! ### while -/
def whF (C : ES) (B : SS) : Nat → SS
  | 0, _ => none
  | n + 1, Γ => match C Γ with
    | some (.ok (.bl true), Γ1) => match B Γ1 with
      | some (.nx, Γ2) => whF C B n Γ2
      | some (.ct, Γ2) => whF C B n Γ2
      | some (.bk, Γ2) => some (.nx, Γ2)
      | r => r
    | some (.ok (.bl false), Γ1) => some (.nx, Γ1)
    | some (.ex e, Γ1) => some (.ex e, Γ1)
    | _ => none
theorem js_while {tc : TT} {tb : TS} {C : ES} {B : SS} (n : Nat) (hc : JT c E tc C) (hb : JS c E pins tb B) : JS c E pins (tWhile tc tb) (whF C B n) := by
  intro M G H σ Γ Γ' rr D s e p
  refine ⟨fun m σ' H' => ∃ G' Γi, Pin pins σ σ' ∧ Go M G H G' H' ∧ StX c M G' H' σ' Γi [] [] ∧ whF C B m Γi = some (rr, Γ'), ⟨n, G, Γ, .refl, .refl, s, e⟩, ?_⟩
  rintro m σ' H' ⟨G', Γi, pn, go, st, ei⟩
  cases m with
  | zero => cases ei
  | succ m =>
    unfold whF at ei
    cases q : C Γi with
    | none => rw [q] at ei; cases ei
    | some o =>
      obtain ⟨o, Γ1⟩ := o
      rw [q] at ei
      refine hc st q ?_
      cases o with
      | ex x => cases ei; exact p σ' G' H' pn go
      | ok x =>
        cases x <;> try (cases ei; done)
        rename_i b
        cases b with
        | false => cases ei; exact fun G2 H2 g2 s2 => iteF (p σ' G2 H2 pn (go.trans g2) s2)
        | true =>
          intro G2 H2 g2 s2
          refine iteT ?_
          simp only at ei
          cases q2 : B Γ1 with
          | none => rw [q2] at ei; cases ei
          | some o2 =>
            obtain ⟨o2, Γ3⟩ := o2
            rw [q2] at ei
            refine ⟨fun σ3 H3 => ∃ G3 Γ4, Pin pins σ σ3 ∧ Go M G H G3 H3 ∧ StX c M G3 H3 σ3 Γ4 [] [] ∧ whF C B m Γ4 = some (rr, Γ'), fun σ3 H3 h => ⟨m, Nat.lt_succ_self m, h⟩, hb s2 q2 ?_⟩
            have gA := go.trans g2
            cases o2 with
            | nx => exact fun σ3 G3 H3 a b d => ⟨G3, Γ3, pn.trans a, gA.trans b, d, ei⟩
            | ct => exact fun σ3 G3 H3 a b d => ⟨G3, Γ3, pn.trans a, gA.trans b, d, ei⟩
            | bk => cases ei; exact fun σ3 G3 H3 a b d => p σ3 G3 H3 (pn.trans a) (gA.trans b) d
            | rt x => cases ei; exact fun v' σ3 G3 H3 a b d => p v' σ3 G3 H3 (pn.trans a) (gA.trans b) d
            | ex x => cases ei; exact fun σ3 G3 H3 a b => p σ3 G3 H3 (pn.trans a) (gA.trans b)
end
end FV

/-! comprehensions -/
namespace FV
open PySem PySem.Spec PyProof.Rows L2 Evl SB
/-- the comprehension's own slots are empty -/
def wipeE (Γ : Env) : List Nat → Env
  | [] => Γ
  | v :: vs => (wipeE Γ vs).set v none
/-- .. and hold again what they held -/
def backE (Γ0 : Env) (Γ : Env) : List Nat → Env
  | [] => Γ
  | v :: vs => (backE Γ0 Γ vs).set v (Γ0[v]?.join)
/-- the slots own nothing -/
def freeAt (Γ : Env) (vs : List Nat) : Bool := vs.all fun i => match Γ[i]? with
  | some (some x) => noOwn x
  | _ => true
def compF (Tg : PV → Env → Option Env) (C S : ES) (vs : List Nat) : List PV → List PV → Env → Option (List PV × Env)
  | [], acc, Γ => some (acc, Γ)
  | x :: xs, acc, Γ => match Tg x Γ with
    | none => none
    | some Γ1 => match C Γ1 with
      | some (.ok (.bl true), Γ2) => match S Γ2 with
        | some (.ok y, Γ3) => compF Tg C S vs xs (acc ++ [y]) (wipeE Γ3 vs)
        | _ => none
      | some (.ok (.bl false), Γ2) => compF Tg C S vs xs acc (wipeE Γ2 vs)
      | _ => none
def eComp (A : AS) (Tg : PV → Env → Option Env) (C S : ES) (vs : List Nat) : ES := fun Γ => match A Γ with
  | some (.ok xs, Γ1) => if (freeAt Γ1 vs && decide (xs.length ≤ 50000)) = true then match compF Tg C S vs xs [] (wipeE Γ1 vs) with
      | some (ys, Γ2) => some (.ok (.lst .own ys), backE Γ1 Γ2 vs)
      | none => none
    else none
  | some (.ex e, Γ1) => some (.ex e, Γ1)
  | none => none
section
variable {c : Ct} {E : L2.St → XK} {te ta tb tk tv : TE} {tA : TA} {tt : TT} {S T C : ES} {AA : AS} {i : Nat} {pins ms : List Bool} {g : TG} {gs : TGs} {Tg : PV → Env → Option Env}
variable {M : Fm} {G H : Hp} {σ σ' : L2.St} {Γ Γ' : Env} {us : List V} {ys : List PV}
theorem StX.unset (s : StX c M G H σ Γ us ys) (i : Nat) (o : Option V) : StX c M G H (σ.set i o) (Γ.set i none) us ys := by
  obtain ⟨F1, F2, r, t, w⟩ := s
  obtain ⟨Fa, Fb, t2, p⟩ := t.drop i o
  refine ⟨F1, Fb, r, t2, ?_⟩
  have : (F1 ++ F2).Perm (Fa ++ (F1 ++ Fb)) := List.perm_iff_count.mpr fun a => by
    have := p.count_eq a
    simp only [List.count_append] at this ⊢
    omega
  exact (w.perm this).right
theorem StX.wipe (s : StX c M G H σ Γ us ys) : ∀ vs : List Nat, StX c M G H (wipe σ vs) (wipeE Γ vs) us ys
  | [] => s
  | v :: vs => (s.wipe vs).unset v none
theorem wipe_get {vs : List Nat} {i : Nat} (h : i ∉ vs) : (L2.wipe σ vs)[i]? = σ[i]? := by
  induction vs with
  | nil => rfl
  | cons v vs ih =>
    unfold L2.wipe
    rw [List.getElem?_set_ne (show v ≠ i from fun e => h (by rw [e]; exact List.mem_cons_self ..))]
    exact ih fun z => h (List.mem_cons_of_mem _ z)
theorem wipe_at {vs : List Nat} {i : Nat} (h : i ∈ vs) : (L2.wipe σ vs)[i]? = if i < σ.length then some none else none := by
  induction vs with
  | nil => cases h
  | cons v vs ih =>
    unfold L2.wipe
    by_cases e : v = i
    · subst e
      rw [List.getElem?_set]
      rw [wipe_length]
      simp
    · rw [List.getElem?_set_ne e]
      rcases List.mem_cons.mp h with z | z
      · exact absurd z.symm e
      · exact ih z
/-- only the own slots are written -/
def onlyAt (ms : List Bool) (vs : List Nat) : Prop := ∀ i, i ∉ vs → ms.getD i false = false
theorem wipe_pin {vs : List Nat} (h : onlyAt ms vs) (p : Pin ms (wipe σ vs) σ') : wipe σ' vs = wipe σ vs := by
  refine List.ext_getElem? fun i => ?_
  by_cases m : i ∈ vs
  · rw [wipe_at m, wipe_at m, p.1, wipe_length]
  · rw [wipe_get m, p.2 i (h i m)]
/-- the first things in hand framed, the others kept in hand -/
theorem StX.frameL {vs ws : List V} {xs zs : List PV} (s : StX c M G H σ Γ (vs ++ ws) (xs ++ zs)) (l : vs.length = xs.length) : ∃ F, Rps c G M.B H vs xs F ∧ StX c (M.plus F) G H σ Γ ws zs ∧
    ∀ {G' H' σ' Γ' us ys}, Go (M.plus F) G H G' H' → StX c (M.plus F) G' H' σ' Γ' us ys → Go M G H G' H' ∧ StX c M G' H' σ' Γ' (vs ++ us) (xs ++ ys) := by
  obtain ⟨F1, F2, r, t, w⟩ := s
  obtain ⟨Fa, Fb, rfl, ra, rb⟩ := Rps.split l r
  have w : Wo c M G H (Fa ++ (Fb ++ F2)) := by rw [← List.append_assoc]; exact w
  refine ⟨Fa, ra, ⟨Fb, F2, rb, t, ?_⟩, ?_⟩
  · obtain ⟨a1, a2, a3⟩ := List.nodup_append.mp w.nd
    refine ⟨w.gh, w.bh, fun a h => .inl (w.bp a h), fun a h => ?_, a2, fun a h => ?_, fun a h => ⟨fun z => ?_, (w.ff a (List.mem_append_right _ h)).2⟩, fun a h => ?_, w.tb, fun a h => w.sp a (List.mem_append_right _ h), w.ntP fun _ h => List.mem_append_left _ h⟩
    · rcases h with (h | h) | h
      · exact w.al a (.inl h)
      · exact ra.live a h
      · exact w.al a (.inr h)
    · rcases h with h | h | h
      · exact w.gf a (.inl (List.mem_append_right _ h))
      · exact w.gf a (.inr h)
      · exact w.gf a (.inl (List.mem_append_left _ h))
    · rcases z with z | z
      · exact (w.ff a (List.mem_append_right _ h)).1 z
      · exact a3 a z a h rfl
    · rcases h with h | h
      · exact w.pt a h
      · exact ra.notTup a h
  · intro G' H' σ' Γ' us ys g s'
    obtain ⟨E1, E2, r2, t2, w2⟩ := s'
    have k : ∀ a ∈ Fa, H' a = H a := fun a ha => g.s a (.inl (.inr ha))
    refine ⟨⟨g.g, fun a h => g.s a (h.imp .inl id)⟩, Fa ++ E1, E2, (Rps.up g.g k ra).app r2, t2, w2.gh, w2.bh, w.bp, fun a h => w2.al a (h.imp .inl id), ?_, fun a h => ?_, fun a h => ?_, fun a h => w2.pt a (.inl h), w2.tb, fun a h => by rw [List.append_assoc] at h; exact (List.mem_append.mp h).elim (fun h => by rw [k a h]; exact w.sp a (List.mem_append_left _ h)) (w2.sp a), ⟨fun a h => w2.nt.1 a (h.imp .inl id), w2.nt.2⟩⟩
    · rw [List.append_assoc]
      refine List.nodup_append.mpr ⟨(List.nodup_append.mp w.nd).1, w2.nd, fun a ha b hb e => ?_⟩
      subst e
      exact (w2.ff a hb).1 (.inr ha)
    · rcases h with h | h
      · rw [List.append_assoc] at h
        rcases List.mem_append.mp h with h | h
        · exact w2.gf a (.inr (.inr h))
        · exact w2.gf a (.inl h)
      · exact w2.gf a (.inr (.inl h))
    · rw [List.append_assoc] at h
      rcases List.mem_append.mp h with h | h
      · exact w.ff a (List.mem_append_left _ h)
      · exact ⟨fun z => (w2.ff a h).1 (.inl z), (w2.ff a h).2⟩
/-- the list under way grows -/
theorem StX.grow {D : Addr} {acc : List PV} {v : V} {y : PV} (s : StX c M G H σ Γ [.ref D, v] [.lst .own acc, y]) : ∃ accV, H D = some (.lst accV) ∧ accV.length = acc.length ∧ Go M G H G (upd H D (.lst (accV ++ [v]))) ∧ StX c M G (upd H D (.lst (accV ++ [v]))) σ Γ [.ref D] [.lst .own (acc ++ [y])] := by
  obtain ⟨F1, F2, r, t, w⟩ := s
  cases r with
  | cons r rr =>
    cases rr with
    | cons ry rn =>
      cases rn
      cases r with
      | fr q => cases q
      | lst hH rs =>
        rename_i Fy accV Fc
        have w : Wo c M G H ((D :: Fc) ++ (Fy ++ F2)) := w.perm (List.perm_iff_count.mpr fun a => by simp only [List.count_append, List.count_cons, List.count_nil]; omega)
        have na : D ∉ Fc ++ (Fy ++ F2) := (List.nodup_cons.mp w.nd).1
        obtain ⟨w2, go⟩ := w.write (H' := upd H D (.lst (accV ++ [v]))) (a := D) (List.mem_cons_self ..) upd_k upd_n
        refine ⟨accV, hH, rs.len, go, (D :: (Fc ++ (Fy ++ []))) ++ [], F2, .cons (.lst upd_same ((rs.up (Ex.refl _) (keep_of fun h => na (List.mem_append_left _ h))).app (.cons (ry.up (Ex.refl _) (keep_of fun h => na (List.mem_append_right _ (List.mem_append_left _ h)))) .nil))) .nil, t.up (Ex.refl _) (keep_of fun h => na (List.mem_append_right _ (List.mem_append_right _ h))), ?_⟩
        exact w2.perm (List.perm_iff_count.mpr fun a => by simp only [List.count_append, List.count_cons, List.count_nil]; omega)
/-- a slot that owns nothing is filled -/
theorem StX.put0 {w : V} {x : PV} (s : StX c M G H σ Γ us ys) (h : Rp c G M.B H w x []) (i : Nat) : StX c M G H (σ.set i (some w)) (Γ.set i (some x)) us ys := by
  have s' := s.unset i (some w)
  by_cases hi : i < Γ.length
  · obtain ⟨F1, F2, r, t, wo⟩ := s'
    have hl : i < (σ.set i (some w)).length := by rw [t.len, List.length_set]; exact hi
    obtain ⟨F3, t3, p⟩ := t.put hl (by rw [List.getElem?_set]; simp [hi]) h
    rw [List.set_set, List.set_set] at t3
    exact ⟨F1, F3, r, t3, wo.perm (List.Perm.append_left F1 p.symm)⟩
  · have e : σ.length = Γ.length := s.len
    rw [List.set_eq_of_length_le (by omega), List.set_eq_of_length_le (by omega)]
    exact s
def backS (σ0 σ : L2.St) : List Nat → L2.St
  | [] => σ
  | v :: vs => (backS σ0 σ vs).set v (σ0[v]?.join)
theorem backS_len {σ0 : L2.St} : ∀ vs, (backS σ0 σ vs).length = σ.length
  | [] => rfl
  | v :: vs => by unfold backS; rw [List.length_set, backS_len vs]
theorem backS_get {σ0 : L2.St} {vs : List Nat} {i : Nat} (hl : σ.length = σ0.length) (hs : i ∉ vs → σ[i]? = σ0[i]?) : (backS σ0 σ vs)[i]? = σ0[i]? := by
  induction vs with
  | nil => exact hs (by simp)
  | cons v vs ih =>
    unfold backS
    by_cases e : v = i
    · subst e
      rw [List.getElem?_set, backS_len, hl]
      simp only [if_true]
      split
      · rename_i h
        rw [List.getElem?_eq_getElem h]
        rfl
      · rename_i h
        rw [List.getElem?_eq_none (by omega)]
    · rw [List.getElem?_set_ne e]
      exact ih fun h => hs fun z => by
        rcases List.mem_cons.mp z with z | z
        · exact e z.symm
        · exact h z
/-- what the own slots held joins again -/
theorem StX.back {Γ0 : Env} {G0 H0 : Hp} {us0 : List V} {ys0 : List PV} (s0 : StX c M G0 H0 σ Γ0 us0 ys0) (eg : Ex G0 G) {vs : List Nat} (fa : freeAt Γ0 vs = true) (s : StX c M G H (L2.wipe σ vs) Γ us ys) : StX c M G H σ (backE Γ0 Γ vs) us ys := by
  have main : ∀ vs' : List Nat, freeAt Γ0 vs' = true → ∀ {σ1 : L2.St}, StX c M G H σ1 Γ us ys → StX c M G H (backS σ σ1 vs') (backE Γ0 Γ vs') us ys := by
    intro vs'
    induction vs' with
    | nil => intro _ σ1 s; exact s
    | cons v vs' ih =>
      intro fa σ1 s
      unfold freeAt at fa
      rw [List.all_cons, Bool.and_eq_true] at fa
      have s1 := ih fa.2 s
      unfold backS backE
      cases q : Γ0[v]? with
      | none => exact s1.unset v _
      | some o =>
        cases o with
        | none => exact s1.unset v _
        | some x =>
          obtain ⟨w, F, hw, r⟩ := s0.slot q
          have no : noOwn x = true := by have := fa.1; rw [q] at this; exact this
          have := r.foot0 no
          subst this
          rw [hw]
          exact s1.put0 (r.up eg fun _ z => absurd z List.not_mem_nil) v
  have := main vs fa s
  rwa [show backS σ (L2.wipe σ vs) vs = σ from List.ext_getElem? fun i => backS_get (wipe_length σ vs) fun h => wipe_get h] at this
theorem je_comp {wi : TI} {vs : List Nat} (hi : JI c E wi AA) (hg : JG c ms g Tg) (ht : JT c E tt C) (he : JE c E te S) (on : onlyAt ms vs) : JE c E (tLcM wi g tt te vs) (eComp AA Tg C S vs) := by
  intro M G H σ Γ Γ' rr Q s e p
  refine r_lc ?_
  unfold eComp at e
  cases q : AA Γ with
  | none => rw [q] at e; cases e
  | some o =>
    obtain ⟨o, Γ1⟩ := o
    rw [q] at e
    refine hi s q (fun xs hxs J G1 H1 g1 s1 it => ?_) fun x hx => by subst hx; cases e; exact p
    subst hxs
    simp only at e
    split at e
    · rename_i cond
      rw [Bool.and_eq_true] at cond
      have l5 : xs.length ≤ 50000 := of_decide_eq_true cond.2
      cases qc : compF Tg C S vs xs [] (wipeE Γ1 vs) with
      | none => rw [qc] at e; cases e
      | some w =>
        obtain ⟨zs, Γ2⟩ := w
        rw [qc] at e
        cases e
        intro D nD
        have sw := s1.wipe vs
        have s0 : StX c M G1 (upd H1 D (.lst [])) (wipe σ vs) (wipeE Γ1 vs) [.ref D] [.lst .own []] := sw.newL nD (Ex.new nD) upd_same
        have g0 : Go M G1 H1 G1 (upd H1 D (.lst [])) := sw.goEx (Ex.new nD)
        refine ⟨fun i m H' => m = xs.length - i ∧ i ≤ xs.length ∧ ∃ G' Γi acc, acc.length ≤ i ∧ Go M G1 H1 G' H' ∧ StX c M G' H' (wipe σ vs) Γi [.ref D] [.lst .own acc] ∧ compF Tg C S vs (xs.drop i) acc Γi = some (zs, Γ2),
          ⟨_, rfl, Nat.zero_le _, G1, _, [], Nat.le_refl _, g0, s0, by rw [List.drop_zero]; exact qc⟩, ?_⟩
        rintro i m H' ⟨rfl, hil, G', Γi, acc, la, go, st, ei⟩
        by_cases hlt : i < xs.length
        · refine .inr ⟨it.go go st.gh st.bh hlt, ?_⟩
          have ed : xs.drop i = xs[i] :: xs.drop (i + 1) := List.drop_eq_getElem_cons hlt
          rw [ed] at ei
          unfold compF at ei
          have hx : xs[i]? = some xs[i] := List.getElem?_eq_getElem hlt
          cases q1 : Tg xs[i] Γi with
          | none => rw [q1] at ei; cases ei
          | some Γ3 =>
            rw [q1] at ei
            simp only at ei
            cases q2 : C Γ3 with
            | none => rw [q2] at ei; cases ei
            | some o2 =>
              obtain ⟨o2, Γ4⟩ := o2
              rw [q2] at ei
              cases o2 with
              | ex x => cases ei
              | ok b =>
                cases b <;> try (cases ei; done)
                rename_i b
                refine ⟨fun H3 => ∃ G3 Γ5 acc', acc'.length ≤ i + 1 ∧ Go M G1 H1 G3 H3 ∧ StX c M G3 H3 (wipe σ vs) Γ5 [.ref D] [.lst .own acc'] ∧ compF Tg C S vs (xs.drop (i + 1)) acc' Γ5 = some (zs, Γ2), fun H3 h => ⟨_, by omega, rfl, hlt, h⟩, fun v H'' y => mG_of ?_⟩
                obtain ⟨G2, go2, st2⟩ := it.yld go st.gh st.bh hx y st
                obtain ⟨Fd, rd, s3, back⟩ := StX.frameL (vs := [.ref D]) (xs := [.lst .own acc]) st2 rfl
                have dD : ∀ {G5 H5 : Hp}, Go (M.plus Fd) G2 H'' G5 H5 → True := fun _ => trivial
                refine hg s3 q1 fun σ2 pn st4 => ⟨wipe_pin on pn, mT_of (ht st4 q2 ?_)⟩
                have fin : ∀ {G6 H6 Γ6} {us : List V} {ys : List PV}, StX c M G6 H6 σ2 Γ6 us ys → StX c M G6 H6 (wipe σ vs) (wipeE Γ6 vs) us ys := fun s => by
                  have := s.wipe vs
                  rwa [wipe_pin on pn] at this
                show ∀ G' H', _ → _ → _
                intro G5 H5 g5 s5
                obtain ⟨g6, s6⟩ := back (Go.trans .refl g5) s5
                cases b with
                | false =>
                  exact iteF ⟨G5, _, acc, Nat.le_succ_of_le la, (go.trans go2).trans g6, fin s6, ei⟩
                | true =>
                  refine iteT (mE_of ?_)
                  simp only at ei
                  cases q3 : S Γ4 with
                  | none => rw [q3] at ei; cases ei
                  | some o3 =>
                    obtain ⟨o3, Γ7⟩ := o3
                    rw [q3] at ei
                    cases o3 with
                    | ex x => cases ei
                    | ok y =>
                      refine he s5 q3 ?_
                      show ∀ v G' H', _ → _ → _
                      intro u G7 H7 g7 s7
                      obtain ⟨g8, s8⟩ := back (g5.trans g7) s7
                      obtain ⟨accV, hD, lD, gD, sD⟩ := StX.grow s8
                      exact ⟨accV, hD, by rw [lD]; exact sz_lt (by omega), G7, _, acc ++ [y], by rw [List.length_append]; exact Nat.succ_le_succ la, ((go.trans go2).trans g8).trans gD, fin sD, ei⟩
        · have : i = xs.length := by omega
          subst this
          rw [List.drop_length] at ei
          unfold compF at ei
          cases ei
          exact .inl ⟨it.stop go st.gh st.bh, p (.ref D) G' H' (g1.trans go) (s1.back go.g cond.1 st)⟩
    · cases e
end
end FV

/-! defs: what they promise, and their calls -/
namespace FV
open PySem PySem.Spec PyProof.Rows L2 Evl SB
abbrev FT := List PV → Option (Rt × List PV)
def PosF (c : Ct) (M : Fm) (G H : Hp) (vs : List V) (xs' : List PV) (E : XK) (Q : VK) : Rt → Prop
  | .ok x => ∀ v G' H', Go M G H G' H' → StX c M G' H' [] [] (v :: vs) (x :: xs') → Q v H'
  | .ex e => ∀ v d G' H', Go M G H G' H' → StX c M G' H' [] [] (v :: vs) (e.val :: xs') → H' d = some (.xd [(e.fld, v)]) → E (.ref (c.cm e.cls)) (some d) H'
/-- the promise of a def that computes f -/
def spF (c : Ct) (n : Nat) (f : FT) : Sp := fun vs H Q E => vs.length = n ∧ ∃ (M : Fm) (G : Hp) (xs : List PV) (r : Rt) (xs' : List PV), StX c M G H [] [] vs xs ∧ f xs = some (r, xs') ∧ PosF c M G H vs xs' E Q r
theorem spF_len {c : Ct} {n : Nat} {f : FT} {vs : List V} {H : Hp} {Q : VK} {E : XK} (h : spF c n f vs H Q E) : vs.length = n := h.1
/-! ### the body -/
def outA (ms : List Bool) : List PV → Env → List PV
  | x :: xs, Γ => (if ms.headD false = true then (if noOwn x = true then x else .gone) else (Γ.headD none).getD .gone) :: outA ms.tail xs Γ.tail
  | [], _ => []
def funF (N n : Nat) (ms : List Bool) (B : SS) : FT := fun xs => if xs.length = n then match B (xs.map some ++ List.replicate (N - n) none) with
    | some (.nx, Γ) => some (.ok .non, outA ms xs Γ)
    | some (.rt x, Γ) => some (.ok x, outA ms xs Γ)
    | some (.ex e, Γ) => some (.ex e, outA ms xs Γ)
    | _ => none
  else none
section
variable {c : Ct} {E : L2.St → XK} {te ta tb tk tv : TE} {tA : TA} {tt : TT} {S T C : ES} {AA : AS} {i : Nat} {pins ms : List Bool}
variable {M : Fm} {G H G' H' B : Hp} {σ σ' : L2.St} {Γ Γ' : Env} {us : List V} {ys : List PV}
theorem Sls.nones : ∀ (n : Nat) (σ : L2.St), σ.length = n → Sls c G B H σ (List.replicate n none) []
  | 0, [], _ => .nil
  | n + 1, _ :: σ, h => .no (Sls.nones n σ (by simpa using h))
  | 0, _ :: _, h => by simp at h
  | n + 1, [], h => by simp at h
theorem Rps.sls : ∀ {vs xs F} {σ : L2.St} {k : Nat}, Rps c G B H vs xs F → σ.length = k → Sls c G B H (vs.map some ++ σ) (xs.map some ++ List.replicate k none) F
  | _, _, _, σ, k, .nil, h => Sls.nones k σ h
  | _, _, _, σ, k, .cons r t, h => .so r (Rps.sls t h)
theorem outA_ok {G0 H0 : Hp} : ∀ {vs : List V} {xs : List PV} {F0 F : List Addr} {σ : L2.St} {Γ : Env} (ms : List Bool), Rps c G0 B H0 vs xs F0 → Ex G0 G → Sls c G B H σ Γ F → (∀ j v, ms.getD j false = false → vs[j]? = some v → σ[j]? = some (some v)) → vs.length ≤ σ.length →
    ∃ F1 Z, Rps c G B H vs (outA ms xs Γ) F1 ∧ F.Perm (F1 ++ Z)
  | _, _, _, F, σ, Γ, ms, .nil, _, _, _, _ => ⟨[], F, .nil, List.Perm.refl _⟩
  | _, _, _, _, [], _, ms, .cons _ _, _, _, _, hl => by simp at hl
  | _, _, _, _, o :: σ, Γ, ms, .cons (v := v) (x := x) (vs := vs) (xs := xs) r t, eg, s, hp, hl => by
    have hp' : ∀ j w, ms.tail.getD j false = false → vs[j]? = some w → σ[j]? = some (some w) := fun j w hm hw => by
      have := hp (j + 1) w (by rw [← tailD]; exact hm) (by simpa using hw)
      simpa using this
    have step : ∀ {Γ2 : Env} {F2 : List Addr}, Sls c G B H σ Γ2 F2 → ∃ F1 Z, Rps c G B H vs (outA ms.tail xs Γ2) F1 ∧ F2.Perm (F1 ++ Z) := fun s2 => outA_ok ms.tail t eg s2 hp' (by simpa using hl)
    have head0 : ms.headD false = false → o = some v := fun hm => by
      have := hp 0 v (by rw [← headD0]; exact hm) rfl
      simpa using this
    cases s with
    | no s2 =>
      obtain ⟨F1, Z, a, p⟩ := step s2
      unfold outA
      split
      · split
        · rename_i no
          have := r.foot0 no
          subst this
          exact ⟨[] ++ F1, Z, .cons (r.up eg fun _ z => absurd z List.not_mem_nil) a, p⟩
        · exact ⟨[] ++ F1, Z, .cons (.fr .gone) a, p⟩
      · exact ⟨[] ++ F1, Z, .cons (.fr .gone) a, p⟩
    | so r2 s2 =>
      rename_i w y Γ2 Fa Fb
      obtain ⟨F1, Z, a, p⟩ := step s2
      unfold outA
      have q : (Fa ++ Fb).Perm (([] ++ F1) ++ (Fa ++ Z)) := List.perm_iff_count.mpr fun b => by
        have := p.count_eq b
        simp only [List.count_append, List.count_nil] at this ⊢
        omega
      split
      · split
        · rename_i no
          have := r.foot0 no
          subst this
          exact ⟨[] ++ F1, Fa ++ Z, .cons (r.up eg fun _ z => absurd z List.not_mem_nil) a, q⟩
        · exact ⟨[] ++ F1, Fa ++ Z, .cons (.fr .gone) a, q⟩
      · rename_i hm
        have := head0 (by simpa using hm)
        cases this
        exact ⟨Fa ++ F1, Z, .cons r2 a, by rw [List.append_assoc]; exact List.Perm.append_left Fa p⟩
/-- back from the body to the caller -/
theorem StX.outA {vs : List V} {xs : List PV} {G0 H0 : Hp} {F0 : List Addr} (r0 : Rps c G0 M.B H0 vs xs F0) (eg : Ex G0 G) (s : StX c M G H σ Γ us ys) (ms : List Bool) (hp : ∀ j v, ms.getD j false = false → vs[j]? = some v → σ[j]? = some (some v)) (hl : vs.length ≤ σ.length) :
    StX c M G H [] [] (us ++ vs) (ys ++ FV.outA ms xs Γ) := by
  obtain ⟨F1, F2, r, t, w⟩ := s
  obtain ⟨Fa, Z, ra, p⟩ := outA_ok ms r0 eg t hp hl
  have w2 : Wo c M G H (Z ++ ((F1 ++ Fa) ++ [])) := w.perm (List.perm_iff_count.mpr fun b => by
    have := p.count_eq b
    simp only [List.count_append, List.count_nil] at this ⊢
    omega)
  exact ⟨F1 ++ Fa, [], r.app ra, .nil, w2.right⟩
theorem body_ok {N : List Str} {n : Nat} {ts : TS} {B : SS} {vs : List V} {Q : VK} {E0 : XK} (h : JS c (fun _ => E0) ms ts B) (hn : n ≤ N.length) (z : spF c n (funF N.length n ms B) vs H Q E0) : ts { nx := fun _ H' => Q .non H', rt := Q } (L2.start N vs) H := by
  obtain ⟨hl, M, G, xs, r, xs', s, e, p⟩ := z
  obtain ⟨F1, F2, rs, t, w⟩ := s
  cases t
  have hx : xs.length = n := by rw [← rs.len]; exact hl
  unfold funF at e
  rw [if_pos hx] at e
  have es : L2.start N vs = vs.map some ++ List.replicate (N.length - n) none := by
    unfold L2.start
    first | rfl | simp [hl]
  have s0 : StX c M G H (L2.start N vs) (xs.map some ++ List.replicate (N.length - n) none) [] [] := by
    rw [es]
    exact ⟨[], F1, .nil, rs.sls (by simp), by rw [List.append_nil] at w; exact w⟩
  have hlen : vs.length ≤ (L2.start N vs).length := by rw [es]; simp
  have hpin : ∀ {σ' : L2.St}, Pin ms (L2.start N vs) σ' → (∀ j v, ms.getD j false = false → vs[j]? = some v → σ'[j]? = some (some v)) ∧ vs.length ≤ σ'.length := fun pn => ⟨fun j v hm hv => by
    rw [pn.2 j hm, es, List.getElem?_append_left (by rw [List.length_map]; exact (List.getElem?_eq_some_iff.mp hv).1), List.getElem?_map, hv]
    rfl, by rw [pn.1]; exact hlen⟩
  cases q : B (xs.map some ++ List.replicate (N.length - n) none) with
  | none => rw [q] at e; cases e
  | some o =>
    obtain ⟨o, Γ1⟩ := o
    rw [q] at e
    refine h s0 q ?_
    cases o with
    | nx =>
      cases e
      exact fun σ' G' H' pn g s1 => p .non G' H' g ((s1.pure (.fr .non)).outA rs g.g ms (hpin pn).1 (hpin pn).2)
    | rt x =>
      cases e
      exact fun v σ' G' H' pn g s1 => p v G' H' g (s1.outA rs g.g ms (hpin pn).1 (hpin pn).2)
    | bk => cases e
    | ct => cases e
    | ex x =>
      cases e
      exact fun σ' G' H' pn g v d G2 H2 g2 s1 hd => p v d G2 H2 (g.trans g2) (s1.outA rs (g.trans g2).g ms (hpin pn).1 (hpin pn).2) hd
/-! ### arguments: values, and slots that are handed out -/
inductive Mg (σ : L2.St) : List (Option Nat) → List V → List V → Prop
  | nil : Mg σ [] [] []
  | slot {i : Nat} {v : V} {ds : List (Option Nat)} {ws vs : List V} : σ[i]? = some (some v) → Mg σ ds ws vs → Mg σ (some i :: ds) ws (v :: vs)
  | val {w : V} {ds : List (Option Nat)} {ws vs : List V} : Mg σ ds ws vs → Mg σ (none :: ds) (w :: ws) (w :: vs)
def PosM (c : Ct) (M : Fm) (G H : Hp) (σ : L2.St) (Γ' : Env) (E : L2.St → XK) (ds : List (Option Nat)) (Q : List V → Hp → Prop) : RtA → Prop
  | .ok xs => ∀ ws vs G' H', Go M G H G' H' → StX c M G' H' σ Γ' ws xs → Mg σ ds ws vs → Q vs H'
  | .ex e => XPos c M G H σ Γ' e E
def JM' (c : Ct) (E : L2.St → XK) (ta : TA) (ds : List (Option Nat)) (S : AS) : Prop := ∀ ⦃M : Fm⦄ ⦃G H : Hp⦄ ⦃σ : L2.St⦄ ⦃Γ Γ' : Env⦄ ⦃r : RtA⦄ ⦃Q : List V → Hp → Prop⦄, StX c M G H σ Γ [] [] → S Γ = some (r, Γ') → PosM c M G H σ Γ' E ds Q r → ta σ H Q
def aSlot (i : Nat) (S : AS) : AS := fun Γ => match Γ[i]? with
  | some (some _) => S Γ
  | _ => none
theorem jm_nil : JM' c E tNil [] aNil := fun _ _ _ _ _ _ _ _ s e p => by cases e; exact p [] [] _ _ .refl s .nil
theorem jm_slot {ds : List (Option Nat)} (i : Nat) (h : JM' c E tA ds AA) : JM' c E (tCons (tVar i) tA) (some i :: ds) (aSlot i AA) := by
  intro M G H σ Γ Γ' r Q s e p
  unfold aSlot at e
  split at e
  · rename_i x hx
    obtain ⟨v, F, hv, _⟩ := s.slot hx
    refine ⟨v, hv, h s e ?_⟩
    cases r with
    | ok xs => exact fun ws vs G' H' g s' m => p ws (v :: vs) G' H' g s' (.slot hv m)
    | ex x => exact p
  · cases e
theorem jm_val {ds : List (Option Nat)} (h : JE c E te S) (k : JM' c E tA ds AA) : JM' c E (tCons te tA) (none :: ds) (aCons S AA) := by
  intro M G H σ Γ Γ' r Q s e p
  show te σ H _
  unfold aCons at e
  cases q : S Γ with
  | none => rw [q] at e; cases e
  | some o =>
    obtain ⟨o, Γ1⟩ := o
    rw [q] at e
    refine h s q ?_
    cases o with
    | ex x => cases e; exact p
    | ok x =>
      intro v G1 H1 g s1
      obtain ⟨F, rF, s2, back⟩ := s1.frame
      simp only at e
      cases q2 : AA Γ1 with
      | none => rw [q2] at e; cases e
      | some o2 =>
        obtain ⟨o2, Γ2⟩ := o2
        rw [q2] at e
        refine k s2 q2 ?_
        cases o2 with
        | ok xs =>
          cases e
          intro ws vs G2 H2 g2 s3 m
          obtain ⟨g3, s4⟩ := back g2 s3
          exact p (v :: ws) (v :: vs) G2 H2 (g.trans g3) s4 (.val m)
        | ex x => cases e; exact XPos.frame p g rF.len back
def takeA : List (Option Nat) → List PV → Env → Option (List PV × Env)
  | [], [], Γ => some ([], Γ)
  | none :: ds, y :: ys, Γ => match takeA ds ys Γ with
    | some (xs, Γ1) => some (y :: xs, Γ1)
    | none => none
  | some i :: ds, ys, Γ => match Γ[i]? with
    | some (some x) => match takeA ds ys (Γ.set i none) with
      | some (xs, Γ1) => some (x :: xs, Γ1)
      | none => none
    | _ => none
  | _, _, _ => none
def giveA : List (Option Nat) → List PV → Env → Env
  | none :: ds, _ :: xs, Γ => giveA ds xs Γ
  | some i :: ds, x :: xs, Γ => (giveA ds xs Γ).set i (some x)
  | _, _, Γ => Γ
theorem take_ok : ∀ {ds : List (Option Nat)} {ys xs : List PV} {ws vs : List V} {Γ Γ1 : Env} {F1 F2 : List Addr}, Rps c G B H ws ys F1 → Sls c G B H σ Γ F2 → takeA ds ys Γ = some (xs, Γ1) → Mg σ ds ws vs → ∃ Fa Fr, Rps c G B H vs xs Fa ∧ Sls c G B H σ Γ1 Fr ∧ (F1 ++ F2).Perm (Fa ++ Fr)
  | [], ys, xs, _, _, Γ, Γ1, F1, F2, r, s, e, .nil => by
    cases r
    cases e
    exact ⟨[], F2, .nil, s, List.Perm.refl _⟩
  | none :: ds, _, xs, _, _, Γ, Γ1, _, F2, .cons (F := Fa) (F' := Fb) r t, s, e, .val m => by
    unfold takeA at e
    split at e
    · rename_i xs' Γ' he
      cases e
      obtain ⟨Fc, Fr, a, b, p⟩ := take_ok t s he m
      exact ⟨Fa ++ Fc, Fr, .cons r a, b, by rw [List.append_assoc, List.append_assoc]; exact List.Perm.append_left Fa p⟩
    · cases e
  | some i :: ds, ys, xs, ws, _, Γ, Γ1, F1, F2, r, s, e, .slot hv m => by
    unfold takeA at e
    split at e
    · rename_i x hx
      split at e
      · rename_i xs' Γ' he
        cases e
        obtain ⟨v', Fx, Fy, hv', rx, sy, py⟩ := s.get hx
        rw [hv] at hv'
        cases hv'
        obtain ⟨Fc, Fr, a, b, p⟩ := take_ok r sy he m
        refine ⟨Fx ++ Fc, Fr, .cons rx a, b, List.perm_iff_count.mpr fun z => ?_⟩
        have h1 := p.count_eq z
        have h2 := py.count_eq z
        simp only [List.count_append] at h1 h2 ⊢
        omega
      · cases e
    · cases e
theorem give_ok : ∀ {ds : List (Option Nat)} {xs : List PV} {ws vs : List V} {Γ : Env} {F1 F2 : List Addr}, Rps c G B H vs xs F1 → Sls c G B H σ Γ F2 → Mg σ ds ws vs → ∃ F Z, Sls c G B H σ (giveA ds xs Γ) F ∧ (F1 ++ F2).Perm (F ++ Z)
  | [], xs, _, _, Γ, F1, F2, r, s, .nil => by
    cases r
    exact ⟨F2, [], s, by simp⟩
  | none :: ds, _, _, _, Γ, _, F2, .cons (F := Fa) (F' := Fb) r t, s, .val m => by
    obtain ⟨F, Z, a, p⟩ := give_ok t s m
    refine ⟨F, Fa ++ Z, a, List.perm_iff_count.mpr fun z => ?_⟩
    have h1 := p.count_eq z
    simp only [List.count_append] at h1 ⊢
    omega
  | some i :: ds, _, ws, _, Γ, _, F2, .cons (v := v) (x := x) (F := Fa) (F' := Fb) r t, s, .slot hv m => by
    obtain ⟨F, Z, a, p⟩ := give_ok t s m
    have hlt : i < σ.length := (List.getElem?_eq_some_iff.mp hv).1
    have es : σ.set i (some v) = σ := List.ext_getElem? fun j => by
      rw [List.getElem?_set]
      split
      · rename_i e
        subst e
        exact hv.symm
      · rfl
    obtain ⟨Fd, F3, t3, p3⟩ := a.drop i (some v)
    obtain ⟨F4, t4, p4⟩ := t3.put (by rw [List.length_set]; exact hlt) (by rw [List.getElem?_set]; have := a.len; simp; omega) r
    rw [List.set_set, List.set_set, es] at t4
    refine ⟨F4, Fd ++ Z, t4, List.perm_iff_count.mpr fun z => ?_⟩
    have h1 := p.count_eq z
    have h3 := p3.count_eq z
    have h4 := p4.count_eq z
    simp only [List.count_append] at h1 h3 h4 ⊢
    omega
/-- the call of a def that computes f -/
def eCall (f : FT) (ds : List (Option Nat)) (AA : AS) : ES := fun Γ => match AA Γ with
  | some (.ok ys, Γ1) => match takeA ds ys Γ1 with
    | some (xs, Γ2) => match f xs with
      | some (r, xs') => some (r, giveA ds xs' Γ2)
      | none => none
    | none => none
  | some (.ex e, Γ1) => some (.ex e, Γ1)
  | none => none
/-- the arguments in hand, the other slots framed -/
theorem call_core {ds : List (Option Nat)} {ws vs : List V} {ys xs : List PV} {Γ2 : Env} (s : StX c M G H σ Γ ws ys) (m : Mg σ ds ws vs) (et : takeA ds ys Γ = some (xs, Γ2)) :
    ∃ Fr, StX c (M.plus Fr) G H [] [] vs xs ∧ ∀ {G' H' : Hp} {ds' : List (Option Nat)} {ws' vs' us : List V} {xs' zs : List PV}, Mg σ ds' ws' vs' → Go (M.plus Fr) G H G' H' → StX c (M.plus Fr) G' H' [] [] (us ++ vs') (zs ++ xs') → us.length = zs.length →
      Go M G H G' H' ∧ StX c M G' H' σ (giveA ds' xs' Γ2) us zs := by
  obtain ⟨F1, F2, rs, t, w⟩ := s
  obtain ⟨Fa, Fr, ra, sr, pr⟩ := take_ok rs t et m
  have w1 := w.perm pr
  obtain ⟨a1, a2, a3⟩ := List.nodup_append.mp w1.nd
  have w0 : Wo c (M.plus Fr) G H (Fa ++ []) := by
    rw [List.append_nil]
    refine ⟨w1.gh, w1.bh, fun a h => .inl (w1.bp a h), fun a h => ?_, a1, fun a h => ?_, fun a h => ⟨fun z => ?_, (w1.ff a (List.mem_append_left _ h)).2⟩, fun a h => ?_, w1.tb, fun a h => w1.sp a (List.mem_append_left _ h), w1.ntP fun _ h => List.mem_append_right _ h⟩
    · rcases h with (h | h) | h
      · exact w1.al a (.inl h)
      · exact sr.live a h
      · exact w1.al a (.inr h)
    · rcases h with h | h | h
      · exact w1.gf a (.inl (List.mem_append_left _ h))
      · exact w1.gf a (.inr h)
      · exact w1.gf a (.inl (List.mem_append_right _ h))
    · rcases z with z | z
      · exact (w1.ff a (List.mem_append_left _ h)).1 z
      · exact a3 a h a z rfl
    · rcases h with h | h
      · exact w1.pt a h
      · exact sr.notTup a h
  refine ⟨Fr, ⟨Fa, [], ra, .nil, w0⟩, ?_⟩
  intro G' H' ds' ws' vs' us xs' zs m' g s' hl
  obtain ⟨E1, E2, r2, t2, w2⟩ := s'
  cases t2
  obtain ⟨Eu, Ev, rfl, ru, rv⟩ := Rps.split hl r2
  have sr' := sr.up g.g fun a ha => g.s a (.inl (.inr ha))
  obtain ⟨F, Z, sg, pg⟩ := give_ok rv sr' m'
  rw [List.append_nil] at w2
  have w3 : Wo c M G' H' ((Eu ++ Ev) ++ Fr) := by
    refine ⟨w2.gh, w2.bh, w.bp, fun a h => w2.al a (h.imp .inl id), List.nodup_append.mpr ⟨w2.nd, a2, fun a ha b hb e => ?_⟩, fun a h => ?_, fun a h => ?_, fun a h => w2.pt a (.inl h), w2.tb, fun a h => (List.mem_append.mp h).elim (w2.sp a) (fun h => by rw [g.s a (.inl (.inr h))]; exact w1.sp a (List.mem_append_right _ h)), ⟨fun a h => w2.nt.1 a (h.imp .inl id), w2.nt.2⟩⟩
    · subst e
      exact (w2.ff a ha).1 (.inr hb)
    · rcases h with h | h
      · rcases List.mem_append.mp h with h | h
        · exact w2.gf a (.inl h)
        · exact w2.gf a (.inr (.inr h))
      · exact w2.gf a (.inr (.inl h))
    · rcases List.mem_append.mp h with h | h
      · exact ⟨fun z => (w2.ff a h).1 (.inl z), (w2.ff a h).2⟩
      · exact w1.ff a (List.mem_append_right _ h)
  refine ⟨⟨g.g, fun a h => g.s a (h.imp .inl id)⟩, Eu, F, ru, sg, ?_⟩
  have w4 : Wo c M G' H' (Z ++ (Eu ++ F)) := w3.perm (List.perm_iff_count.mpr fun z => by
    have := pg.count_eq z
    simp only [List.count_append] at this ⊢
    omega)
  exact w4.right
/-- the def runs, its arguments in hand -/
theorem call_run {n : Nat} {f : FT} {ds : List (Option Nat)} {ws vs : List V} {ys xs xs' : List PV} {Γ2 : Env} {r : Rt} {Q : VK} (s : StX c M G H σ Γ ws ys) (m : Mg σ ds ws vs) (et : takeA ds ys Γ = some (xs, Γ2)) (ef : f xs = some (r, xs')) (hn : vs.length = n) (p : PosE c M G H σ (giveA ds xs' Γ2) E Q r) :
    spF c n f vs H Q (E σ) := by
  obtain ⟨Fr, s1, back⟩ := call_core s m et
  refine ⟨hn, M.plus Fr, G, xs, r, xs', s1, ef, ?_⟩
  cases r with
  | ok x => exact fun v G' H' g s' => let ⟨g2, s2⟩ := back (us := [v]) (zs := [x]) m g s' rfl; p v G' H' g2 s2
  | ex x => exact fun v d G' H' g s' hd => let ⟨g2, s2⟩ := back (us := [v]) (zs := [x.val]) m g s' rfl; p v d G' H' g2 s2 hd
theorem Mg.len {ds : List (Option Nat)} {ws vs : List V} (m : Mg σ ds ws vs) : vs.length = ds.length := by
  induction m with
  | nil => rfl
  | slot _ _ ih => simp [ih]
  | val _ ih => simp [ih]
theorem je_call {n : Nat} {E0 : XK} {f : FT} {ds : List (Option Nat)} (h : JM' c (fun _ => E0) tA ds AA) (hn : ds.length = n := by rfl) : JE c (fun _ => E0) (tCall (spF c n f) [] E0 tA) (eCall f ds AA) := by
  intro M G H σ Γ Γ' rr Q s e p
  show tA σ H _
  unfold eCall at e
  cases q : AA Γ with
  | none => rw [q] at e; cases e
  | some o =>
    obtain ⟨o, Γ1⟩ := o
    rw [q] at e
    refine h s q ?_
    cases o with
    | ex x => cases e; exact p
    | ok ys =>
      intro ws vs G1 H1 g s1 m
      simp only at e
      cases q2 : takeA ds ys Γ1 with
      | none => rw [q2] at e; cases e
      | some w =>
        obtain ⟨xs, Γ2⟩ := w
        rw [q2] at e
        simp only at e
        cases q3 : f xs with
        | none => rw [q3] at e; cases e
        | some w =>
          obtain ⟨r, xs'⟩ := w
          rw [q3] at e
          cases e
          show spF c n f (vs ++ []) H1 Q E0
          rw [List.append_nil]
          exact call_run (E := fun _ => E0) s1 m q2 q3 (m.len.trans hn) (p.at g)
/-! ### methods -/
def notIn (m : Str) (ns : List Str) : Bool := ns.all fun n => decide (n ≠ m)
/-- an instance of the class, without such a field -/
def isIns (C : Nat) (m : Str) : PV → Bool
  | .ins _ C' ns _ => decide (C' = C) && notIn m ns
  | _ => false
/-- o.m(..), o in a slot and handed out -/
def eMethS (C : Nat) (m : Str) (f : FT) (i : Nat) (ds : List (Option Nat)) (AA : AS) : ES := fun Γ => match Γ[i]? with
  | some (some x) => if isIns C m x = true then eCall f (some i :: ds) AA Γ else none
  | _ => none
/-- o.m(..), o a value -/
def eMethV (C : Nat) (m : Str) (f : FT) (ds : List (Option Nat)) (So : ES) (AA : AS) : ES := eThen So fun x Γ => if isIns C m x = true then match AA Γ with
  | some (.ok ys, Γ1) => match takeA (none :: ds) (x :: ys) Γ1 with
    | some (xs, Γ2) => match f xs with
      | some (r, xs') => some (r, giveA (none :: ds) xs' Γ2)
      | none => none
    | none => none
  | some (.ex e, Γ1) => some (.ex e, Γ1)
  | none => none
  else none
/-! ### instances are made -/
/-- C(..): __init__ on a new instance -/
def eMake (C : Nat) (f : FT) (ds : List (Option Nat)) (AA : AS) : ES := fun Γ => match AA Γ with
  | some (.ok ys, Γ1) => match takeA (none :: ds) (.ins .own C [] [] :: ys) Γ1 with
    | some (xs, Γ2) => match f xs with
      | some (.ok .non, x' :: xs') => some (.ok x', giveA (none :: ds) (x' :: xs') Γ2)
      | some (.ex e, xs') => some (.ex e, giveA (none :: ds) xs' Γ2)
      | _ => none
    | none => none
  | some (.ex e, Γ1) => some (.ex e, Γ1)
  | none => none
/-- a new instance beside what is in hand -/
theorem StX.newI {ws : List V} {zs : List PV} (s : StX c M G H σ Γ ws zs) {x dx : Addr} {C : Nat} (nx : H x = none) (nd : H dx = none) (ne : dx ≠ x) : Go M G H G (upd (upd H dx (.own x)) x (.ins (c.cm C) dx [])) ∧ StX c M G (upd (upd H dx (.own x)) x (.ins (c.cm C) dx [])) σ Γ (.ref x :: ws) (.ins .own C [] [] :: zs) := by
  have e : Ex H (upd (upd H dx (.own x)) x (.ins (c.cm C) dx [])) := (Ex.new nd).trans (Ex.new (by rw [upd_ne ne.symm]; exact nx))
  refine ⟨s.goEx e, ?_⟩
  obtain ⟨F1, F2, r, t, w⟩ := s
  have w2 := w.ex e
  have k1 : ∀ a ∈ F1, upd (upd H dx (.own x)) x (.ins (c.cm C) dx []) a = H a := fun a ha => ex_live e (r.live a ha)
  have k2 : ∀ a ∈ F2, upd (upd H dx (.own x)) x (.ins (c.cm C) dx []) a = H a := fun a ha => ex_live e (t.live a ha)
  have nx1 : x ∉ F1 ++ F2 := fun h => by
    rcases List.mem_append.mp h with h | h
    · exact r.live _ h nx
    · exact t.live _ h nx
  refine ⟨[x] ++ F1, F2, .cons (.ins (dx := dx) (ns := []) (vs := []) upd_same rfl .nil) (r.up (Ex.refl _) k1), t.up (Ex.refl _) k2, ?_⟩
  refine ⟨w2.gh, w2.bh, w2.bp, w2.al, List.nodup_cons.mpr ⟨nx1, w2.nd⟩, fun a h => ?_, fun a h => ?_, w2.pt, w2.tb, fun a h => (List.mem_cons.mp h).elim (fun z => by rw [z]; exact ⟨_, upd_same, rfl⟩) (w2.sp a), w2.nt⟩
  · rcases h with h | h
    · rcases List.mem_cons.mp h with rfl | h
      · exact w.gh.nope nx
      · exact w2.gf a (.inl h)
    · exact w2.gf a (.inr h)
  · rcases List.mem_cons.mp h with rfl | h
    · exact ⟨fun z => w.al _ (.inl z) nx, fun z => w.al _ (.inr z) nx⟩
    · exact w2.ff a h
theorem make_run {n : Nat} {f : FT} {ds : List (Option Nat)} {C : Nat} {ws vs : List V} {ys xs xs' : List PV} {Γ2 Γ' : Env} {r rr : Rt} {Q : VK} (s : StX c M G H σ Γ ws ys) (m : Mg σ ds ws vs) (et : takeA (none :: ds) (.ins .own C [] [] :: ys) Γ = some (xs, Γ2)) (ef : f xs = some (r, xs')) (hn : vs.length + 1 = n)
    (he : (∃ x' zs, r = .ok .non ∧ xs' = x' :: zs ∧ rr = .ok x') ∨ ∃ e, r = .ex e ∧ rr = .ex e) (hG : Γ' = giveA (none :: ds) xs' Γ2) (p : PosE c M G H σ Γ' E Q rr) :
    ∀ x dx, H x = none → H dx = none → dx ≠ x → spF c n f (.ref x :: vs) (upd (upd H dx (.own x)) x (.ins (c.cm C) dx [])) (fun v H2 => v = .non ∧ Q (.ref x) H2) (E σ) := by
  intro x dx nx nd ne
  obtain ⟨g0, s0⟩ := s.newI (C := C) nx nd ne
  obtain ⟨Fr, s1, back⟩ := call_core (ds := none :: ds) s0 (.val m) et
  subst hG
  refine ⟨by rw [List.length_cons]; exact hn, M.plus Fr, G, xs, r, xs', s1, ef, ?_⟩
  rcases he with ⟨x', zs, rfl, rfl, rfl⟩ | ⟨ee, rfl, rfl⟩
  · intro v G' H' g s'
    have s2 : StX c (M.plus Fr) G' H' [] [] ([.ref x] ++ vs) ([x'] ++ zs) := StX.tail (vs := [v]) (xs := [.non]) s' rfl
    obtain ⟨g3, s3⟩ := back (ds' := ds) m g s2 rfl
    refine ⟨?_, p _ G' H' (g0.trans g3) s3⟩
    obtain ⟨F1, F2, r, t, w⟩ := s'
    cases r with
    | cons r _ =>
      cases r with
      | fr q => cases q; rfl
  · intro v d G' H' g s' hd
    obtain ⟨g3, s3⟩ := back (us := [v]) (zs := [ee.val]) (Mg.val m) g s' rfl
    exact p v d G' H' (g0.trans g3) s3 hd
theorem je_make {n : Nat} {E0 : XK} {f : FT} {ds : List (Option Nat)} {C : Nat} (h : JM' c (fun _ => E0) tA ds AA) (hn : ds.length + 1 = n := by rfl) : JE c (fun _ => E0) (tMake (c.cm C) (spF c n f) [] E0 tA) (eMake C f ds AA) := by
  intro M G H σ Γ Γ' rr Q s e p
  show tA σ H _
  unfold eMake at e
  cases q : AA Γ with
  | none => rw [q] at e; cases e
  | some o =>
    obtain ⟨o, Γ1⟩ := o
    rw [q] at e
    refine h s q ?_
    cases o with
    | ex x => cases e; exact p
    | ok ys =>
      intro ws vs G1 H1 g s1 m
      simp only at e
      cases q2 : takeA (none :: ds) (.ins .own C [] [] :: ys) Γ1 with
      | none => rw [q2] at e; cases e
      | some w =>
        obtain ⟨xs, Γ2⟩ := w
        rw [q2] at e
        simp only at e
        cases q3 : f xs with
        | none => rw [q3] at e; cases e
        | some w =>
          obtain ⟨r, xs'⟩ := w
          rw [q3] at e
          have main : (∃ x' zs, r = .ok .non ∧ xs' = x' :: zs ∧ rr = .ok x') ∨ (∃ e, r = .ex e ∧ rr = .ex e) := by
            split at e
            · rename_i x' zs heq
              cases heq
              cases e
              exact .inl ⟨x', zs, rfl, rfl, rfl⟩
            · rename_i ee zs heq
              cases heq
              cases e
              exact .inr ⟨ee, rfl, rfl⟩
            · cases e
          have hG : Γ' = giveA (none :: ds) xs' Γ2 := by
            split at e
            · rename_i heq
              cases heq
              cases e
              rfl
            · rename_i heq
              cases heq
              cases e
              rfl
            · cases e
          rw [List.append_nil]
          exact make_run (E := fun _ => E0) s1 m q2 q3 (by rw [m.len]; exact hn) main hG (p.at g)
end
end FV

/-! more operators and calls -/
namespace FV
open PySem PySem.Spec PyProof.Rows L2 Evl SB
/-! ### sorted texts -/
def insS (x : Str) : List Str → List Str
  | [] => [x]
  | y :: r => if ltCps y.cps.toList x.cps.toList = true then y :: insS x r else x :: y :: r
def sortS (xs : List Str) : List Str := xs.foldr insS []
theorem insS_perm {x : Str} : ∀ ys, (insS x ys).Perm (x :: ys)
  | [] => List.Perm.refl _
  | y :: r => by
    unfold insS
    split
    · exact (List.Perm.cons y (insS_perm r)).trans (List.Perm.swap x y r)
    · exact List.Perm.refl _
theorem sortS_perm : ∀ xs, (sortS xs).Perm xs
  | [] => List.Perm.refl _
  | x :: r => (insS_perm _).trans (List.Perm.cons x (sortS_perm r))
theorem lt_leS {a b : Str} (h : ltCps a.cps.toList b.cps.toList = true) : leS a b := by
  rw [ltCps_eq] at h
  exact List.le_of_lt (of_decide_eq_true h)
theorem insS_pw {x : Str} : ∀ {ys : List Str}, ys.Pairwise leS → (insS x ys).Pairwise leS
  | [], _ => List.pairwise_singleton _ _
  | y :: r, h => by
    obtain ⟨h1, h2⟩ := List.pairwise_cons.mp h
    unfold insS
    split
    · rename_i hl
      refine List.pairwise_cons.mpr ⟨fun z hz => ?_, insS_pw h2⟩
      rcases List.mem_cons.mp ((insS_perm r).mem_iff.mp hz) with rfl | hz
      · exact lt_leS hl
      · exact h1 z hz
    · rename_i hl
      have xy : leS x y := leS_of (by simpa using hl)
      refine List.pairwise_cons.mpr ⟨fun z hz => ?_, h⟩
      rcases List.mem_cons.mp hz with rfl | hz
      · exact xy
      · exact List.le_trans xy (h1 z hz)
theorem sortS_pw : ∀ xs, (sortS xs).Pairwise leS
  | [] => .nil
  | x :: r => insS_pw (sortS_pw r)
theorem pw_rising : ∀ {p : Str} {l : List Str}, (p :: l).Pairwise leS → risingS p l = true
  | p, [], _ => rfl
  | p, x :: r, h => by
    obtain ⟨h1, h2⟩ := List.pairwise_cons.mp h
    show (!ltCps x.cps.toList p.cps.toList && risingS x r) = true
    rw [pw_rising h2, Bool.and_true]
    have := h1 x (List.mem_cons_self ..)
    rw [ltCps_eq]
    simp only [Bool.not_eq_true', decide_eq_false_iff_not]
    exact List.not_lt.mpr this
theorem pw_sorted : ∀ {l : List Str}, l.Pairwise leS → sortedS l = true
  | [], _ => rfl
  | x :: r, h => pw_rising h
theorem sortS_eq {xs ys : List Str} (p : ys.Perm xs) (h : sortedS ys = true) : ys = sortS xs := sorted_uniq (p.trans (sortS_perm xs).symm) h (pw_sorted (sortS_pw xs))
def strsOf : List PV → Option (List Str)
  | [] => some []
  | .str s :: xs => match strsOf xs with
    | some r => some (s :: r)
    | none => none
  | _ => none
def bolsOf : List PV → Option (List Bool)
  | [] => some []
  | .bl s :: xs => match bolsOf xs with
    | some r => some (s :: r)
    | none => none
  | _ => none
theorem bolsOf_map (ss : List Bool) : bolsOf (ss.map PV.bl) = some ss := by
  induction ss with
  | nil => rfl
  | cons s r ih => show (match bolsOf (r.map PV.bl) with | some r => some (s :: r) | none => none) = _; rw [ih]
section
variable {c : Ct} {E : L2.St → XK} {te ta tb tk tv : TE} {tA : TA} {tt : TT} {S T C : ES} {AA : AS} {i : Nat} {pins ms : List Bool}
variable {M : Fm} {G H G' H' B : Hp} {σ σ' : L2.St} {Γ Γ' : Env} {us : List V} {ys : List PV}
theorem strsOf_rps : ∀ {vs xs F} {ss : List Str}, Rps c G B H vs xs F → strsOf xs = some ss → vs = ss.map V.str
  | _, _, _, _, .nil, h => by cases h; rfl
  | _, x :: xs, _, _, .cons r t, h => by
    cases x <;> try (cases h; done)
    unfold strsOf at h
    split at h
    · rename_i rr hr
      cases h
      rw [rp_str r, strsOf_rps t hr]
      rfl
    · cases h
theorem bolsOf_rps : ∀ {vs xs F} {ss : List Bool}, Rps c G B H vs xs F → bolsOf xs = some ss → vs = ss.map V.bl
  | _, _, _, _, .nil, h => by cases h; rfl
  | _, x :: xs, _, _, .cons r t, h => by
    cases x <;> try (cases h; done)
    unfold bolsOf at h
    split at h
    · rename_i rr hr
      cases h
      rw [rp_bl r, bolsOf_rps t hr]
      rfl
    · cases h
theorem rps_strs : ∀ (ss : List Str), Rps c G B H (ss.map V.str) (ss.map PV.str) []
  | [] => .nil
  | s :: r => .cons (F := []) (F' := []) (.fr .str) (rps_strs r)
/-- a new list of texts -/
theorem StX.newS (s : StX c M G H σ Γ us ys) {p : Addr} (np : H p = none) (ss : List Str) : Go M G H G (upd H p (.lst (ss.map V.str))) ∧ StX c M G (upd H p (.lst (ss.map V.str))) σ Γ [.ref p] [.lst .own (ss.map PV.str)] := by
  obtain ⟨F1, F2, r, t, w⟩ := s
  have s0 : StX c M G H σ Γ (ss.map V.str) (ss.map PV.str) := ⟨[], F2, rps_strs ss, t, w.right⟩
  exact ⟨s0.goEx (Ex.new np), s0.newL np (Ex.new np) upd_same⟩
/-! ### calls of built-ins, by values -/
def rcOr (r r' : List V → Hp → VK → Prop) : List V → Hp → VK → Prop := fun xs H Q => r xs H Q ∨ r' xs H Q
def ocOr (o o' : List PV → Option PV) (xs : List PV) : Option PV := match o xs with
  | some z => some z
  | none => o' xs
theorem cr_or {X : Cx} {f : Value} {r r' : List V → Hp → VK → Prop} (h : CallR X f r) (h' : CallR X f r') : CallR X f (rcOr r r') := h.or h'
theorem jc_or {r r' : List V → Hp → VK → Prop} {o o' : List PV → Option PV} (h : JC c r o) (h' : JC c r' o') : JC c (rcOr r r') (ocOr o o') := by
  intro M G H σ Γ vs xs z Q s e p
  unfold ocOr at e
  cases q : o xs with
  | some w => rw [q] at e; cases e; exact .inl (h s q p)
  | none => rw [q] at e; exact .inr (h' s e p)
theorem jo_or2 {r r' : R2} {o o' : PV → PV → Option PV} (h : JO c r o) (h' : JO c r' o') : JO c (r2Or r r') (oOr o o') := by
  intro M G H σ Γ va vb x y z Q s e p
  unfold oOr at e
  cases q : o x y with
  | some w => rw [q] at e; cases e; exact .inl (h s q p)
  | none => rw [q] at e; exact .inr (h' s e p)
theorem one_of {vs : List V} {x : PV} {F : List Addr} (r : Rps c G B H vs [x] F) : ∃ v, vs = [v] ∧ Rp c G B H v x F := by
  cases r with
  | cons r rr =>
    cases rr
    exact ⟨_, rfl, by rw [List.append_nil]; exact r⟩
def cLenL : List PV → Option PV
  | [.lst _ xs] => some (.int xs.length)
  | [.tup xs] => some (.int xs.length)
  | _ => none
theorem jc_lenL : JC c (rLenS c.K) cLenL := by
  intro M G H σ Γ vs xs z Q s e p
  obtain ⟨F, r, into⟩ := s.into
  unfold cLenL at e
  split at e
  · cases e
    obtain ⟨v, rfl, r1⟩ := one_of r
    obtain ⟨a, ws, F', rfl, hs, rs, _⟩ := r1.seqL s.gh s.bh
    exact ⟨a, ws, rfl, .inl hs, p _ G H .refl (s.sc (by rw [rs.len]; exact .int))⟩
  · cases e
    obtain ⟨v, rfl, r1⟩ := one_of r
    obtain ⟨a, ws, rfl, _, hs, rs⟩ := r1.seqT s.gh
    exact ⟨a, ws, rfl, .inr hs, p _ G H .refl (s.sc (by rw [rs.len]; exact .int))⟩
  · cases e
def cLenS : List PV → Option PV
  | [.str z] => if z.length ≤ sizeLine then some (.int (z.length : Nat)) else none
  | _ => none
theorem jc_lenS : JC c rLenStr cLenS := by
  intro M G H σ Γ vs xs z Q s e p
  obtain ⟨F, r, into⟩ := s.into
  unfold cLenS at e
  split at e
  · split at e
    · rename_i w hw
      cases e
      obtain ⟨v, rfl, r1⟩ := one_of r
      exact ⟨w, by rw [rp_str r1], hw, p _ G H .refl (s.sc .int)⟩
    · cases e
  · cases e
def cLenD : List PV → Option PV
  | [.dk _ ks _] => some (.int (ks.length : Nat))
  | _ => none
theorem jc_lenD : JC c rLenDR cLenD := by
  intro M G H σ Γ vs xs z Q s e p
  obtain ⟨F, r, into⟩ := s.into
  unfold cLenD at e
  split at e
  · cases e
    obtain ⟨v, rfl, r1⟩ := one_of r
    obtain ⟨a, ws, F', rfl, hs, wk, rs, _⟩ := r1.dkOf s.gh s.bh
    refine ⟨a, _, rfl, hs, ?_⟩
    rw [zip_len wk.1]
    exact p _ G H .refl (s.sc .int)
  · cases e
def cLen : List PV → Option PV := ocOr cLenL (ocOr cLenS cLenD)
def rLen (K : PySem.W.Frag) : List V → Hp → VK → Prop := rcOr (rLenS K) (rcOr rLenStr rLenDR)
theorem k_lenU {X : Cx} (K : PySem.W.Frag) (e : X.K = K) : CallR X (.builtin "len") (rLen K) := cr_or (k_len K e) (cr_or call_lenStrQ call_lenDR)
theorem jc_len : JC c (rLen c.K) cLen := jc_or jc_lenL (jc_or jc_lenS jc_lenD)
/-- list(..) -/
def cListL : List PV → Option PV
  | [.lst _ xs] => some (.lst .own xs)
  | [.tup xs] => some (.lst .own xs)
  | _ => none
theorem jc_listL : JC c (rListS c.K) cListL := by
  intro M G H σ Γ vs xs z Q s e p
  obtain ⟨F, r, into⟩ := s.into
  unfold cListL at e
  split at e
  · cases e
    obtain ⟨v, rfl, r1⟩ := one_of r
    obtain ⟨a, ws, F', rfl, hs, rs, ef⟩ := r1.seqL s.gh s.bh
    obtain ⟨Z, pz⟩ := sub_perm (Z := []) ef
    have s2 := into ws _ F' Z rs pz
    exact ⟨a, ws, rfl, .inl hs, fun q hq => p _ G _ (s2.goEx (Ex.new hq)) (s2.newL hq (Ex.new hq) upd_same)⟩
  · cases e
    obtain ⟨v, rfl, r1⟩ := one_of r
    obtain ⟨a, ws, rfl, _, hs, rs⟩ := r1.seqT s.gh
    have s2 := into ws _ F [] rs (by rw [List.append_nil])
    exact ⟨a, ws, rfl, .inr hs, fun q hq => p _ G _ (s2.goEx (Ex.new hq)) (s2.newL hq (Ex.new hq) upd_same)⟩
  · cases e
def pvK : Key → PV
  | .inl i => .int i
  | .inr s => .str s
theorem rps_keys : ∀ (ks : List Key), Rps c G B H (ks.map kV) (ks.map pvK) []
  | [] => .nil
  | .inl i :: r => .cons (F := []) (F' := []) (.fr .int) (rps_keys r)
  | .inr i :: r => .cons (F := []) (F' := []) (.fr .str) (rps_keys r)
def cListD : List PV → Option PV
  | [.dk _ ks _] => some (.lst .own (ks.map pvK))
  | _ => none
theorem zip_keys {ks : List Key} {vs : List V} (h : ks.length = vs.length) : (ks.zip vs).map (fun kv => kV kv.1) = ks.map kV := by
  rw [show (fun kv : Key × V => kV kv.1) = kV ∘ Prod.fst from rfl, ← List.map_map, List.map_fst_zip (by omega)]
theorem jc_listD : JC c rListDR cListD := by
  intro M G H σ Γ vs xs z Q s e p
  obtain ⟨F, r, into⟩ := s.into
  unfold cListD at e
  split at e
  · rename_i o ks xs
    cases e
    obtain ⟨v, rfl, r1⟩ := one_of r
    obtain ⟨a, ws, F', rfl, hs, wk, rs, _⟩ := r1.dkOf s.gh s.bh
    refine ⟨a, _, rfl, hs, fun q hq => ?_⟩
    rw [zip_keys wk.1]
    have s2 := into _ _ [] F (rps_keys ks) (by rw [List.nil_append])
    exact p _ G _ (s2.goEx (Ex.new hq)) (s2.newL hq (Ex.new hq) upd_same)
  · cases e
def cList : List PV → Option PV := ocOr cListL cListD
def rListU (K : PySem.W.Frag) : List V → Hp → VK → Prop := rcOr (rListS K) rListDR
theorem k_listU {X : Cx} (K : PySem.W.Frag) (e : X.K = K) (hc : X.calm = true) : CallR X (.type "list") (rListU K) := cr_or (k_list K e) (call_listDR hc)
theorem jc_list : JC c (rListU c.K) cList := jc_or jc_listL jc_listD
/-- dict(d) -/
def cDict : List PV → Option PV
  | [.dk _ ks xs] => some (.dk .own ks xs)
  | _ => none
/-- tuple(..) -/
def cTup : List PV → Option PV
  | [.lst _ xs] => some (.tup xs)
  | [.tup xs] => some (.tup xs)
  | _ => none
theorem jc_tup : JC c (rTupQ c.K) cTup := by
  intro M G H σ Γ vs xs z Q s e p
  obtain ⟨F, r, into⟩ := s.into
  unfold cTup at e
  split at e
  · cases e
    obtain ⟨v, rfl, r1⟩ := one_of r
    obtain ⟨a, ws, F', rfl, hs, rs, ef⟩ := r1.seqL s.gh s.bh
    obtain ⟨Z, pz⟩ := sub_perm (Z := []) ef
    have s2 := into ws _ F' Z rs pz
    exact ⟨a, ws, rfl, .inl ⟨hs, fun q hq => let ⟨G', g, s3⟩ := s2.newT hq (Ex.new hq) upd_same; p _ G' _ g s3⟩⟩
  · cases e
    obtain ⟨v, rfl, r1⟩ := one_of r
    obtain ⟨a, ws, rfl, _, hs, rs⟩ := r1.seqT s.gh
    exact ⟨a, ws, rfl, .inr ⟨hs, p _ G H .refl s⟩⟩
  · cases e
/-- int(..) -/
def cInt : List PV → Option PV
  | [.int i] => some (.int i)
  | [.bl b] => some (.int (if b then 1 else 0))
  | _ => none
theorem jc_int : JC c rIntQ cInt := by
  intro M G H σ Γ vs xs z Q s e p
  obtain ⟨F, r, into⟩ := s.into
  unfold cInt at e
  split at e
  · cases e
    obtain ⟨v, rfl, r1⟩ := one_of r
    exact .inl ⟨_, by rw [rp_int r1], p _ G H .refl (s.sc .int)⟩
  · cases e
    obtain ⟨v, rfl, r1⟩ := one_of r
    exact .inr ⟨_, by rw [rp_bl r1], p _ G H .refl (s.sc .int)⟩
  · cases e
/-- sorted(texts), sorted(dict) -/
def cSortL : List PV → Option PV
  | [.lst _ xs] => match strsOf xs with
    | some ss => if ss.length < 64 then some (.lst .own ((sortS ss).map .str)) else none
    | none => none
  | _ => none
theorem jc_sortL : JC c (rSortedS c.K) cSortL := by
  intro M G H σ Γ vs xs z Q s e p
  obtain ⟨F, r, into⟩ := s.into
  unfold cSortL at e
  split at e
  · rename_i o xs
    split at e
    · rename_i ss hss
      split at e
      · rename_i hl
        cases e
        obtain ⟨v, rfl, r1⟩ := one_of r
        obtain ⟨a, ws, F', rfl, hs, rs, ef⟩ := r1.seqL s.gh s.bh
        have := strsOf_rps rs hss
        subst this
        refine ⟨a, ss, rfl, hs, hl, fun zs q pz sz hq => ?_⟩
        rw [sortS_eq pz sz]
        obtain ⟨g, s2⟩ := s.newS hq (sortS ss)
        exact p _ G _ g s2
      · cases e
    · cases e
  · cases e
def keysS : List Key → Option (List Str)
  | [] => some []
  | .inr s :: r => match keysS r with
    | some ss => some (s :: ss)
    | none => none
  | _ => none
theorem keysS_eq : ∀ {ks : List Key} {ss : List Str}, keysS ks = some ss → ks = ss.map Sum.inr
  | [], _, h => by cases h; rfl
  | .inl _ :: _, _, h => by cases h
  | .inr s :: r, _, h => by
    unfold keysS at h
    split at h
    · rename_i ss hs
      cases h
      rw [keysS_eq hs]
      rfl
    · cases h
theorem keysS_map (ss : List Str) : keysS (ss.map Sum.inr) = some ss := by
  induction ss with
  | nil => rfl
  | cons s r ih => show (match keysS (r.map Sum.inr) with | some ss => some (s :: ss) | none => none) = _; rw [ih]
def cSortD : List PV → Option PV
  | [.dk _ ks _] => match keysS ks with
    | some ss => if ss.length < 64 then some (.lst .own ((sortS ss).map .str)) else none
    | none => none
  | _ => none
theorem jc_sortD : JC c rSortDK cSortD := by
  intro M G H σ Γ vs xs z Q s e p
  obtain ⟨F, r, into⟩ := s.into
  unfold cSortD at e
  split at e
  · rename_i o ks xs
    split at e
    · rename_i ss hss
      split at e
      · rename_i hl
        cases e
        obtain ⟨v, rfl, r1⟩ := one_of r
        obtain ⟨a, ws, F', rfl, hs, wk, rs, ef⟩ := r1.dkOf s.gh s.bh
        refine ⟨a, _, ss, rfl, hs, by rw [List.map_fst_zip (by rw [wk.1]; exact Nat.le_refl _)]; exact keysS_eq hss, hl, fun zs q pz sz hq => ?_⟩
        rw [sortS_eq pz sz]
        obtain ⟨g, s2⟩ := s.newS hq (sortS ss)
        exact p _ G _ g s2
      · cases e
    · cases e
  · cases e
def cSort : List PV → Option PV := ocOr cSortL cSortD
def rSortU (K : PySem.W.Frag) : List V → Hp → VK → Prop := rcOr (rSortedS K) rSortDK
theorem k_sortU {X : Cx} (K : PySem.W.Frag) (e : X.K = K) (hc : X.calm = true) : CallR X (.builtin "sorted") (rSortU K) := cr_or (k_sortedS K e) (k_sortDK hc)
theorem jc_sort : JC c (rSortU c.K) cSort := jc_or jc_sortL jc_sortD
/-- all(..), any(..) of a list of bools -/
def cAll : List PV → Option PV
  | [.lst _ xs] => (bolsOf xs).map fun bs => .bl (bs.all id)
  | _ => none
theorem jc_all : JC c (rAll c.K) cAll := by
  intro M G H σ Γ vs xs z Q s e p
  obtain ⟨F, r, into⟩ := s.into
  unfold cAll at e
  split at e
  · rename_i o xs
    cases q : bolsOf xs with
    | none => rw [q] at e; cases e
    | some bs =>
      rw [q] at e
      cases e
      obtain ⟨v, rfl, r1⟩ := one_of r
      obtain ⟨a, ws, F', rfl, hs, rs, ef⟩ := r1.seqL s.gh s.bh
      have := bolsOf_rps rs q
      subst this
      exact ⟨a, bs, rfl, hs, p _ G H .refl (s.sc .bl)⟩
  · cases e
/-! ### == -/
def oEqS (neg : Bool) (x y : PV) : Option PV := match toV x, toV y with
  | some a, some b => if scal a b = true then some (.bl (if neg then !decide (a = b) else decide (a = b))) else none
  | _, _ => none
theorem jo_eqS : JO c rEq (oEqS false) := by
  intro M G H σ Γ va vb x y z Q s e p
  obtain ⟨F1, F2, r1, r2, k⟩ := s.two
  unfold oEqS at e
  split at e
  · rename_i a b ha hb
    split at e
    · rename_i hs
      cases e
      have := r1.toV ha
      have := r2.toV hb
      subst va vb
      exact ⟨hs, p _ G H .refl (s.sc .bl)⟩
    · cases e
  · cases e
theorem jo_neS : JO c rNe (oEqS true) := by
  intro M G H σ Γ va vb x y z Q s e p
  obtain ⟨F1, F2, r1, r2, k⟩ := s.two
  unfold oEqS at e
  split at e
  · rename_i a b ha hb
    split at e
    · rename_i hs
      cases e
      have := r1.toV ha
      have := r2.toV hb
      subst va vb
      exact ⟨hs, p _ G H .refl (s.sc .bl)⟩
    · cases e
  · cases e
mutual
def toD : PV → Option PyData
  | .non => some .none
  | .bl b => some (.bool b)
  | .int i => some (.int i)
  | .str s => some (.str s)
  | .tup xs => match toDs xs with
    | some ds => some (.tuple ds)
    | none => none
  | .lst _ xs => match toDs xs with
    | some ds => some (.list ds)
    | none => none
  | _ => none
def toDs : List PV → Option (List PyData)
  | [] => some []
  | x :: xs => match toD x, toDs xs with
    | some d, some ds => some (d :: ds)
    | _, _ => none
end
mutual
theorem toD_fr (gh : GH G H) : ∀ {v x d}, Fr c G v x → toD x = some d → Dp c.K H v d
  | _, _, _, .non, h => by cases h; exact .non
  | _, _, _, .bl, h => by cases h; exact .bl _
  | _, _, _, .int, h => by cases h; exact .int _
  | _, _, _, .str, h => by cases h; exact .str _
  | _, _, _, .raw, h => by cases h
  | _, _, _, .gone, h => by cases h
  | _, _, _, .tup a t, h => by
    unfold toD at h
    split at h
    · rename_i ds hd
      cases h
      exact .tup (gh.sqT a.sq) (toDs_fr gh t hd)
    · cases h
  | _, _, _, .lst a t, h => by
    unfold toD at h
    split at h
    · rename_i ds hd
      cases h
      exact .lst (SqL.of (gh.at a rfl)) (toDs_fr gh t hd)
    · cases h
  | _, _, _, .lstS a t, h => by
    unfold toD at h
    split at h
    · rename_i ds hd
      cases h
      exact .lst (gh.sqL a) (toDs_fr gh t hd)
    · cases h
  | _, _, _, .dk _ _ _, h => by cases h
  | _, _, _, .dt _ _ _, h => by cases h
  | _, _, _, .ins _ _ _, h => by cases h
theorem toDs_fr (gh : GH G H) : ∀ {vs xs ds}, Frs c G vs xs → toDs xs = some ds → DpAll c.K H vs ds
  | _, _, _, .nil, h => by cases h; exact .nil
  | _, _, _, .cons a t, h => by
    unfold toDs at h
    split at h
    · rename_i d ds h1 h2
      cases h
      exact .cons (toD_fr gh a h1) (toDs_fr gh t h2)
    · cases h
end
mutual
theorem toD_rp (gh : GH G H) (bh : GH B H) : ∀ {v x F d}, Rp c G B H v x F → toD x = some d → Dp c.K H v d
  | _, _, _, _, .fr r, h => toD_fr gh r h
  | _, _, _, _, .tup a t, h => by
    unfold toD at h
    split at h
    · rename_i ds hd
      cases h
      exact .tup (gh.sqT a.sq) (toDs_rp gh bh t hd)
    · cases h
  | _, _, _, _, .lst a t, h => by
    unfold toD at h
    split at h
    · rename_i ds hd
      cases h
      exact .lst (SqL.of a) (toDs_rp gh bh t hd)
    · cases h
  | _, _, _, _, .lstB a t, h => by
    unfold toD at h
    split at h
    · rename_i ds hd
      cases h
      exact .lst (SqL.of (bh.at a rfl)) (toDs_rp gh bh t hd)
    · cases h
  | _, _, _, _, .dk _ _ _, h => by cases h
  | _, _, _, _, .dt _ _ _, h => by cases h
  | _, _, _, _, .ins _ _ _, h => by cases h
  | _, _, _, _, .dkB _ _ _, h => by cases h
  | _, _, _, _, .dtB _ _ _, h => by cases h
  | _, _, _, _, .insB _ _ _, h => by cases h
theorem toDs_rp (gh : GH G H) (bh : GH B H) : ∀ {vs xs F ds}, Rps c G B H vs xs F → toDs xs = some ds → DpAll c.K H vs ds
  | _, _, _, _, .nil, h => by cases h; exact .nil
  | _, _, _, _, .cons a t, h => by
    unfold toDs at h
    split at h
    · rename_i d ds h1 h2
      cases h
      exact .cons (toD_rp gh bh a h1) (toDs_rp gh bh t h2)
    · cases h
end
def oEqD (neg : Bool) (x y : PV) : Option PV := match toD x, toD y with
  | some a, some b => if (SeqAt.shaped a && SeqAt.shaped b) = true then some (.bl (if neg then !PyData.eqv a b else PyData.eqv a b)) else none
  | _, _ => none
theorem jo_eqD : JO c (rEqD c.K) (oEqD false) := by
  intro M G H σ Γ va vb x y z Q s e p
  obtain ⟨F1, F2, r1, r2, k⟩ := s.two
  unfold oEqD at e
  split at e
  · rename_i a b ha hb
    split at e
    · rename_i hs
      rw [Bool.and_eq_true] at hs
      cases e
      exact ⟨a, b, toD_rp s.gh s.bh r1 ha, toD_rp s.gh s.bh r2 hb, hs.1, hs.2, p _ G H .refl (s.sc .bl)⟩
    · cases e
  · cases e
theorem jo_neD : JO c (rNeD c.K) (oEqD true) := by
  intro M G H σ Γ va vb x y z Q s e p
  obtain ⟨F1, F2, r1, r2, k⟩ := s.two
  unfold oEqD at e
  split at e
  · rename_i a b ha hb
    split at e
    · rename_i hs
      rw [Bool.and_eq_true] at hs
      cases e
      exact ⟨a, b, toD_rp s.gh s.bh r1 ha, toD_rp s.gh s.bh r2 hb, hs.1, hs.2, p _ G H .refl (s.sc .bl)⟩
    · cases e
  · cases e
def oEq (neg : Bool) : PV → PV → Option PV := oOr (oEqS neg) (oEqD neg)
theorem k_eqU {X : Cx} (K : PySem.W.Frag) (e : X.K = K) (hu : X.A.units + 64 < cLine) : OpR X (compareOp .Eq) (r2Or rEq (rEqD K)) := op_or op_eq (k_eqD K e hu)
theorem k_neU {X : Cx} (K : PySem.W.Frag) (e : X.K = K) (hu : X.A.units + 64 < cLine) : OpR X (compareOp .NotEq) (r2Or rNe (rNeD K)) := op_or op_ne (k_neD K e hu)
theorem jo_eq : JO c (r2Or rEq (rEqD c.K)) (oEq false) := jo_or2 jo_eqS jo_eqD
theorem jo_ne : JO c (r2Or rNe (rNeD c.K)) (oEq true) := jo_or2 jo_neS jo_neD
/-! ### is None -/
def isNon : PV → Option Bool
  | .non => some true
  | .raw _ => none
  | .gone => none
  | _ => some false
def oIsN (neg : Bool) (x y : PV) : Option PV := match y with
  | .non => (isNon x).map fun b => .bl (if neg then !b else b)
  | _ => none
end
end FV

/-! slices, more to walk, own dunder methods, raise, op= -/
namespace FV
open PySem PySem.Spec PyProof.Rows L2 Evl SB
section
variable {c : Ct} {E : L2.St → XK} {te ta tb tk tv : TE} {tA : TA} {tt : TT} {S T C S1 S2 : ES} {AA : AS} {i : Nat} {pins ms : List Bool}
variable {M : Fm} {G H G' H' B : Hp} {σ σ' : L2.St} {Γ Γ' : Env} {us : List V} {ys : List PV} {loc : Loc3} {pg : PV → Option PV} {ps : PV → PV → PV}
/-! ### slices -/
def cutP (xs : List PV) (lo hi : Option Int) : List PV := (xs.drop (HT.sIx xs.length 0 lo)).take (HT.sIx xs.length xs.length hi - HT.sIx xs.length 0 lo)
theorem Rps.drop : ∀ {vs xs F} (n : Nat), Rps c G B H vs xs F → ∃ F' Z, Rps c G B H (vs.drop n) (xs.drop n) F' ∧ F.Perm (F' ++ Z)
  | _, _, F, 0, r => ⟨F, [], r, by rw [List.append_nil]⟩
  | _, _, _, n + 1, .nil => ⟨[], [], .nil, List.Perm.refl _⟩
  | _, _, _, n + 1, .cons (F := F) r t => by
    obtain ⟨F', Z, a, p⟩ := Rps.drop n t
    refine ⟨F', Z ++ F, a, List.perm_iff_count.mpr fun z => ?_⟩
    have := p.count_eq z
    simp only [List.count_append] at this ⊢
    omega
theorem Rps.take : ∀ {vs xs F} (n : Nat), Rps c G B H vs xs F → ∃ F' Z, Rps c G B H (vs.take n) (xs.take n) F' ∧ F.Perm (F' ++ Z)
  | _, _, F, 0, r => ⟨[], F, .nil, List.Perm.refl _⟩
  | _, _, _, n + 1, .nil => ⟨[], [], .nil, List.Perm.refl _⟩
  | _, _, _, n + 1, .cons (F := F) r t => by
    obtain ⟨F', Z, a, p⟩ := Rps.take n t
    refine ⟨F ++ F', Z, .cons r a, ?_⟩
    rw [List.append_assoc]
    exact List.Perm.append_left F p
theorem Rps.cut {vs : List V} {xs : List PV} {F : List Addr} (r : Rps c G B H vs xs F) (lo hi : Option Int) : ∃ F' Z, Rps c G B H (cutV vs lo hi) (cutP xs lo hi) F' ∧ F.Perm (F' ++ Z) := by
  unfold cutV cutP
  rw [r.len]
  obtain ⟨F1, Z1, r1, p1⟩ := r.drop (HT.sIx xs.length 0 lo)
  obtain ⟨F2, Z2, r2, p2⟩ := r1.take (HT.sIx xs.length xs.length hi - HT.sIx xs.length 0 lo)
  exact ⟨F2, Z2 ++ Z1, r2, by rw [← List.append_assoc]; exact p1.trans (List.Perm.append_right Z1 p2)⟩
/-- an optional part of a slice -/
def JPo (c : Ct) (E : L2.St → XK) (t : TO) (S : ES) : Prop := ∀ ⦃M : Fm⦄ ⦃G H : Hp⦄ ⦃σ : L2.St⦄ ⦃Γ Γ' : Env⦄ ⦃r : Rt⦄ ⦃Q : Option Int → Hp → Prop⦄, StX c M G H σ Γ [] [] → S Γ = some (r, Γ') →
  (∀ o, ((r = .ok .non ∧ o = none) ∨ ∃ k, r = .ok (.int k) ∧ o = some k) → ∀ G' H', Go M G H G' H' → StX c M G' H' σ Γ' [] [] → Q o H') → (∀ x, r = .ex x → XPos c M G H σ Γ' x E) → (∀ x, r = .ok x → x = .non ∨ ∃ k, x = .int k) → t σ H Q
theorem jpo_none : JPo c E tNoPart (eC .non) := fun _ _ _ _ _ _ _ _ s e p _ _ => by cases e; exact p none (.inl ⟨rfl, rfl⟩) _ _ .refl s
def isNo : PV → Bool
  | .non => true
  | _ => false
def eNoN (S : ES) : ES := eThen S fun x Γ => if isNo x = true then none else some (.ok x, Γ)
theorem jpo_some (h : JE c E te S) : JPo c E (tPart te) (eNoN S) := by
  intro M G H σ Γ Γ' r Q s e p px pk
  show te σ H _
  unfold eNoN eThen at e
  cases q : S Γ with
  | none => rw [q] at e; cases e
  | some o =>
    obtain ⟨o, Γ1⟩ := o
    rw [q] at e
    refine h s q ?_
    cases o with
    | ex x => cases e; exact px _ rfl
    | ok x =>
      simp only at e
      split at e
      · cases e
      · rename_i hn
        cases e
        rcases pk x rfl with rfl | ⟨k, rfl⟩
        · exact absurd rfl hn
        · intro v G' H' g s'
          obtain ⟨F, r, _⟩ := s'.one
          exact ⟨k, rp_int r, p (some k) (.inr ⟨k, rfl, rfl⟩) G' H' g s'.drop⟩
def parts : PV → Option (Option Int)
  | .non => some none
  | .int k => some (some k)
  | _ => none
def cutOf : PV → Option Int → Option Int → Option PV
  | .lst _ xs, lo, hi => some (.lst .own (cutP xs lo hi))
  | .tup xs, lo, hi => some (.tup (cutP xs lo hi))
  | _, _, _ => none
def eSl (S A B : ES) : ES := eThen S fun x => eThen A fun l Γ => match parts l with
  | none => none
  | some lo => eThen B (fun u Γ => match parts u with
    | some hi => (cutOf x lo hi).map fun z => (.ok z, Γ)
    | none => none) Γ
def rSlU (K : PySem.W.Frag) : V → Option Int → Option Int → Hp → VK → Prop := fun x lo hi H Q => rSlL K x lo hi H Q ∨ rSlA K x lo hi H Q
theorem sl_U {X : Cx} (K : PySem.W.Frag) (e : X.K = K) : SlR X (rSlU K) := e ▸ sl_list.or sl_tupA
theorem parts_ok {x : PV} {o : Option Int} (h : parts x = some o) : x = .non ∨ ∃ k, x = .int k := by
  cases x <;> first | exact .inl rfl | exact .inr ⟨_, rfl⟩ | cases h
theorem je_sl {tl th : TO} {A' B' : ES} (h : JE c E te S) (hl : JPo c E tl A') (hh : JPo c E th B') : JE c E (tSl (rSlU c.K) te tl th) (eSl S A' B') := by
  intro M G H σ Γ Γ' rr Q s e p
  show te σ H _
  unfold eSl eThen at e
  cases q : S Γ with
  | none => rw [q] at e; cases e
  | some o =>
    obtain ⟨o, Γ1⟩ := o
    rw [q] at e
    refine h s q ?_
    cases o with
    | ex x => cases e; exact p
    | ok x =>
      intro v G1 H1 g1 s1
      obtain ⟨F, rF, s2, back⟩ := s1.frame
      simp only at e
      cases q2 : A' Γ1 with
      | none => rw [q2] at e; cases e
      | some o2 =>
        obtain ⟨o2, Γ2⟩ := o2
        rw [q2] at e
        cases o2 with
        | ex x => cases e; exact hl s2 q2 (fun lo hlo => by rcases hlo with ⟨z, _⟩ | ⟨k, z, _⟩ <;> cases z) (fun x hx => by cases hx; exact XPos.frame p g1 rF.len back) (fun x hx => by cases hx)
        | ok l =>
          simp only at e
          split at e
          · cases e
          · rename_i lo el
            refine hl s2 q2 (fun lo' hlo G2 H2 g2 s3 => ?_) (fun x hx => by cases hx) (fun x hx => by cases hx; exact parts_ok el)
            have : lo' = lo := by
              rcases hlo with ⟨z, rfl⟩ | ⟨k, z, rfl⟩ <;> cases z <;> cases el <;> rfl
            subst this
            cases q3 : B' Γ2 with
            | none => rw [q3] at e; cases e
            | some o3 =>
              obtain ⟨o3, Γ3⟩ := o3
              rw [q3] at e
              cases o3 with
              | ex x => cases e; exact hh s3 q3 (fun lo hlo => by rcases hlo with ⟨z, _⟩ | ⟨k, z, _⟩ <;> cases z) (fun x hx => by cases hx; exact XPos.at (XPos.frame p g1 rF.len back) g2) (fun x hx => by cases hx)
              | ok u =>
                simp only at e
                split at e
                · rename_i hi eu
                  refine hh s3 q3 (fun hi' hhi G3 H3 g3 s4 => ?_) (fun x hx => by cases hx) (fun x hx => by cases hx; exact parts_ok eu)
                  have : hi' = hi := by
                    rcases hhi with ⟨z, rfl⟩ | ⟨k, z, rfl⟩ <;> cases z <;> cases eu <;> rfl
                  subst this
                  cases qc : cutOf x lo' hi' with
                  | none => rw [qc] at e; cases e
                  | some z =>
                    rw [qc] at e
                    cases e
                    obtain ⟨g5, s5⟩ := back (g2.trans g3) s4
                    obtain ⟨F5, r5, into⟩ := s5.one
                    unfold cutOf at qc
                    split at qc
                    · cases qc
                      obtain ⟨a, vs, F', rfl, hs, rs, ef⟩ := r5.seqL s5.gh s5.bh
                      obtain ⟨Z1, p1⟩ := sub_perm (Z := []) ef
                      obtain ⟨F6, Z6, r6, p6⟩ := rs.cut lo' hi'
                      have s6 := into _ _ F6 (Z6 ++ Z1) r6 (by rw [← List.append_assoc]; exact p1.trans (List.Perm.append_right Z1 p6))
                      exact .inl ⟨a, vs, rfl, hs, fun t ht => p _ G3 _ ((g1.trans g5).trans (s6.goEx (Ex.new ht))) (s6.newL ht (Ex.new ht) upd_same)⟩
                    · cases qc
                      obtain ⟨a, vs, rfl, ta, hs, rs⟩ := r5.seqT s5.gh
                      obtain ⟨F6, Z6, r6, p6⟩ := rs.cut lo' hi'
                      have s6 := into _ _ F6 Z6 r6 p6
                      refine .inr ⟨a, vs, rfl, hs, fun w => ?_, fun _ t ht => ?_⟩
                      · refine p _ G3 H3 (g1.trans g5) ?_
                        have ec : cutV vs lo' hi' = vs := by unfold cutV; rw [w.1, w.2]; simp
                        rw [ec] at r6
                        exact into [.ref a] _ (F6 ++ []) Z6 (.cons (.tup ta r6) .nil) (by rw [List.append_nil]; exact p6)
                      · obtain ⟨G7, g7, s7⟩ := s6.newT ht (Ex.new ht) upd_same
                        exact p _ G7 _ ((g1.trans g5).trans g7) s7
                    · cases qc
                · cases e
/-! ### more to walk -/
/-- the same of range(n) -/
def rngP (lo : Int) (n : Nat) : List PV := (List.range n).map fun i => .int (lo + (i : Nat))
theorem itm_range {lo : Int} {n : Nat} : Itm c M G H (Itr lo n) (rngP lo n) := by
  have hl : (rngP lo n).length = n := by unfold rngP; simp
  refine ⟨fun _ _ _ hi => by rw [hl] at hi; exact hi, fun _ _ _ => by rw [hl]; exact Nat.le_refl _, fun {G' H' i x v H''} g gh' bh' hx y σ Γ us ys s => ?_⟩
  obtain ⟨rfl, rfl⟩ := y
  have : x = .int (lo + (i : Nat)) := by
    unfold rngP at hx
    rw [List.getElem?_map] at hx
    have hi : i < n := by
      have := (List.getElem?_eq_some_iff.mp (show ((List.range n).map fun i => PV.int (lo + (i : Nat)))[i]? = some x by rw [List.getElem?_map]; exact hx)).1
      simpa using this
    rw [List.getElem?_range hi] at hx
    exact (Option.some.inj hx).symm
  subst this
  exact ⟨G', .refl, s.push (.fr .int)⟩
def srcR1 (AA : AS) : AS := fun Γ => match AA Γ with
  | some (.ok [.int j], Γ1) => if -(2 ^ 62) ≤ j ∧ j < 2 ^ 62 then some (.ok (rngP 0 j.toNat), Γ1) else none
  | some (.ex e, Γ1) => some (.ex e, Γ1)
  | _ => none
theorem ji_range1 (h : JA c E tA AA) : JI c E (iRng1 tA) (srcR1 AA) := by
  intro M G H σ Γ Γ' r R s e p px
  show tA σ H _
  unfold srcR1 at e
  split at e
  · rename_i j Γ1 q
    split at e
    · rename_i hj
      cases e
      refine h s q ?_
      intro vs G1 H1 g s1
      obtain ⟨F, rs, _⟩ := s1.into
      obtain ⟨v, rfl, r1⟩ := one_of rs
      exact ⟨j, by rw [rp_int r1], hj.1, hj.2, p _ rfl _ G1 H1 g s1.drop itm_range⟩
    · cases e
  · rename_i q
    cases e
    exact h s q (px _ rfl)
  · cases e
def srcR2 (AA : AS) : AS := fun Γ => match AA Γ with
  | some (.ok [.int i, .int j], Γ1) => if -(2 ^ 62) ≤ i ∧ i < 2 ^ 62 ∧ -(2 ^ 62) ≤ j ∧ j < 2 ^ 62 then some (.ok (rngP i (j - i).toNat), Γ1) else none
  | some (.ex e, Γ1) => some (.ex e, Γ1)
  | _ => none
/-- a new pair joins what is in hand -/
theorem StX.pair {v u : V} {x y : PV} (s : StX c M G H σ Γ us ys) {p : Addr} (np : H p = none) (rv : Rp c G M.B H v x []) (ru : Rp c G M.B H u y []) : ∃ G', Go M G H G' (upd H p (.tup [v, u])) ∧ StX c M G' (upd H p (.tup [v, u])) σ Γ (us ++ [.ref p]) (ys ++ [.tup [x, y]]) := by
  obtain ⟨F, r, st, back⟩ := s.frame
  have s2 : StX c (M.plus F) G H σ Γ [v, u] [x, y] := (st.push (us := []) (ys := []) rv).push (us := [v]) (ys := [x]) ru
  obtain ⟨G', g, s3⟩ := s2.newT np (Ex.new np) upd_same
  obtain ⟨g4, s4⟩ := back g s3
  exact ⟨G', g4, s4⟩
theorem itm_enum {a : Addr} {o : Ow} {xs : List PV} (gh : GH G H) (bh : GH M.B H) (r : Rp c G M.B H (.ref a) (.lst o xs) []) : Itm c M G H (Ite c.K a) ((rngP 0 xs.length).zipWith (fun k x => .tup [k, x]) xs) := by
  have up : ∀ {G' H'}, Go M G H G' H' → Rp c G' M.B H' (.ref a) (.lst o xs) [] := fun g => r.up g.g fun _ z => absurd z List.not_mem_nil
  have sq : ∀ {G' H'}, Go M G H G' H' → GH G' H' → GH M.B H' → ∃ vs, SqL c.K H' a vs ∧ Rps c G' M.B H' vs xs [] := fun g gh bh => by
    obtain ⟨a', vs, F', ea, hs, rs, ef⟩ := (up g).seqL gh bh
    cases ea
    have : F' = [] := by rcases ef with e | e <;> first | exact e.symm | cases e
    subst this
    exact ⟨vs, hs, rs⟩
  have hl : ((rngP 0 xs.length).zipWith (fun k x => PV.tup [k, x]) xs).length = xs.length := by rw [List.length_zipWith]; unfold rngP; simp
  refine ⟨fun {G' H' i} g gh' bh' hi => ?_, fun {G' H'} g gh' bh' => ?_, fun {G' H' i x v H''} g gh' bh' hx y σ Γ us ys s => ?_⟩
  · obtain ⟨vs, hs, rs⟩ := sq g gh' bh'
    rw [hl] at hi
    exact (walk_enum (K := c.K) (a := a) (xs := vs)).goes i H' (by rw [rs.len]; exact hi) hs
  · obtain ⟨vs, hs, rs⟩ := sq g gh' bh'
    have := (walk_enum (K := c.K) (a := a) (xs := vs)).stops H' hs
    rw [rs.len] at this
    rw [hl]
    exact this
  · obtain ⟨vs, hs, rs⟩ := sq g gh' bh'
    have hi : i < xs.length := by have := (List.getElem?_eq_some_iff.mp hx).1; rw [hl] at this; exact this
    obtain ⟨T, w1, w2, rfl, hT, rfl, e1, e2⟩ := (walk_enum (K := c.K) (a := a) (xs := vs)).yields i H' v H'' (by rw [rs.len]; exact hi) hs y
    obtain ⟨w, hw, rw'⟩ := rs.get0 (List.getElem?_eq_getElem hi)
    have e2 : vs[i]? = some w2 := e2
    have : w = w2 := by rw [e2] at hw; exact (Option.some.inj hw).symm
    subst this
    have : w1 = .int (i : Nat) := (Option.some.inj e1).symm
    subst this
    have : x = .tup [.int (i : Nat), xs[i]] := by
      rw [List.getElem?_zipWith] at hx
      unfold rngP at hx
      rw [List.getElem?_map, List.getElem?_range hi, List.getElem?_eq_getElem hi] at hx
      have := Option.some.inj hx
      rw [← this]
      show PV.tup [PV.int (0 + (i : Nat)), xs[i]] = _
      rw [Int.zero_add]
    subst this
    exact s.pair hT (.fr .int) rw'
def enumP (xs : List PV) : List PV := (rngP 0 xs.length).zipWith (fun k x => .tup [k, x]) xs
def srcEn (AA : AS) : AS := fun Γ => match AA Γ with
  | some (.ok [x], Γ1) => if noOwn x = true then (itemsL x).map fun xs => (.ok (enumP xs), Γ1) else if noBrw x = true then (itemsL (fz x)).map fun xs => (.ok (enumP xs), Γ1) else none
  | some (.ex e, Γ1) => some (.ex e, Γ1)
  | _ => none
theorem ji_enum (h : JA c E tA AA) : JI c E (iEnum c.K tA) (srcEn AA) := by
  intro M G H σ Γ Γ' r R s e p px
  show tA σ H _
  unfold srcEn at e
  split at e
  · rename_i x Γ1 q
    refine h s q ?_
    intro vs G1 H1 g s1
    obtain ⟨F, rs, _⟩ := s1.into
    obtain ⟨v, rfl, r1⟩ := one_of rs
    split at e
    · rename_i no
      have := r1.foot0 no
      subst this
      unfold itemsL at e
      split at e
      · cases e
        obtain ⟨a, ws, F', rfl, hs, rs2, _⟩ := r1.seqL s1.gh s1.bh
        exact ⟨a, ws, rfl, hs, p _ rfl _ G1 H1 g s1.drop (itm_enum s1.gh s1.bh r1)⟩
      · cases e
    · split at e
      · rename_i nb
        obtain ⟨G2, g2, s2⟩ := s1.freeze nb
        obtain ⟨F2, r2, _⟩ := s2.one
        have := r2.foot0 (fz_noOwn x)
        subst this
        cases qq : itemsL (fz x) with
        | none => rw [qq] at e; cases e
        | some xs =>
          rw [qq] at e
          cases e
          unfold itemsL at qq
          split at qq
          · rename_i o ys heq
            cases qq
            rw [heq] at r2
            obtain ⟨a, ws, F', rfl, hs, rs2, _⟩ := r2.seqL s2.gh s2.bh
            exact ⟨a, ws, rfl, hs, p _ rfl _ G2 H1 (g.trans g2) s2.drop (itm_enum s2.gh s2.bh r2)⟩
          · cases qq
      · cases e
  · rename_i q
    cases e
    exact h s q (px _ rfl)
  · cases e
/-- the signs of a text -/
theorem ji_str (h : JE c E te S) : JI c E (iStr te) (src (fun x => match x with | .str z => some (z.cps.toList.map fun k => .str ⟨#[k]⟩) | _ => none) S) := by
  intro M G H σ Γ Γ' r R s e p px
  refine src_pre (Q := fun v H1 => ∃ x, v = .str x ∧ R (Its x) H1) h s e px fun xs hr v x G' H' g s' hf r0 => ?_
  split at hf
  · rename_i z
    cases hf
    refine ⟨z, rp_str r0, p _ hr _ G' H' g s' ⟨fun _ _ _ hi => ?_, fun _ _ _ => ?_, fun {G' H' i x v H''} g gh' bh' hx y σ Γ us ys s => ?_⟩⟩
    · show _ < z.cps.size
      simpa using hi
    · show z.cps.size ≤ _
      simp
    · obtain ⟨rfl, k, hk, rfl⟩ := y
      rw [List.getElem?_map, Array.getElem?_toList, hk] at hx
      cases hx
      exact ⟨G', .refl, s.push (.fr .str)⟩
  · cases hf
/-! ### own dunder methods -/
/-- x in o -/
def eInO (C : Nat) (neg : Bool) (f : FT) (S T : ES) : ES := eThen S fun x => eThen T fun y Γ => match y with
  | .ins _ C' _ _ => if C' = C then match f [y, x] with
    | some (.ok (.bl b), _) => some (.ok (.bl (if neg then !b else b)), Γ)
    | _ => none
    else none
  | _ => none
theorem je_inO {C : Nat} {neg : Bool} {f : FT} {E0 : XK} (ha : JE c (fun _ => E0) ta S) (hb : JE c (fun _ => E0) tb T) : JE c (fun _ => E0) (tOp (rInO (c.cm C) (spF c 2 f) E0 neg) ta tb) (eInO C neg f S T) := by
  intro M G H σ Γ Γ' rr Q s e p
  refine two ha hb s e (fun e he => by subst he; exact p) fun x y v u G' H' Γ2 g s' e' => ?_
  split at e'
  · rename_i o C' ns xs
    split at e'
    · rename_i hC
      subst hC
      split at e'
      · rename_i b zs hf
        cases e'
        obtain ⟨F1, F2, r1, r2, into⟩ := s'.two
        obtain ⟨a, dx, vs, F', rfl, hH, _⟩ := r2.insOf s'.gh s'.bh
        have s3 := into [.ref a, v] [.ins o _ ns xs, x] (F2 ++ (F1 ++ [])) [] (.cons r2 (.cons r1 .nil)) (by simp only [List.append_nil]; exact List.perm_append_comm)
        refine ⟨a, dx, _, rfl, hH, ?_⟩
        refine call_run (E := fun _ => E0) (ds := [none, none]) (ws := [.ref a, v]) s3 (.val (.val .nil)) (xs' := zs) rfl hf rfl ?_
        intro w G3 H3 g3 s4
        have : w = .bl b := bool_in s4
        subst this
        refine ⟨b, rfl, ?_⟩
        have e0 : giveA [none, none] zs Γ' = Γ' := by
          rcases zs with _ | ⟨_, _ | ⟨_, _⟩⟩ <;> rfl
        rw [e0] at s4
        exact p _ G3 H3 (g.trans g3) (s4.sc .bl)
      · cases e'
    · cases e'
  · cases e'
/-- o[x] -/
def eSubO (C : Nat) (f : FT) (S T : ES) : ES := eThen S fun y => eThen T fun x Γ => match y with
  | .ins _ C' _ _ => if C' = C then match f [y, x] with
    | some (r, _) => some (r, Γ)
    | none => none
    else none
  | _ => none
theorem je_subO {C : Nat} {f : FT} {E0 : XK} (ha : JE c (fun _ => E0) ta S) (hb : JE c (fun _ => E0) tb T) : JE c (fun _ => E0) (tSubO (c.cm C) (spF c 2 f) E0 ta tb) (eSubO C f S T) := by
  intro M G H σ Γ Γ' rr Q s e p
  refine two ha hb s e (fun e he => by subst he; exact p) fun y x u v G' H' Γ2 g s' e' => ?_
  split at e'
  · rename_i o C' ns xs
    split at e'
    · rename_i hC
      subst hC
      split at e'
      · rename_i r zs hf
        cases e'
        obtain ⟨F1, F2, r1, r2, into⟩ := s'.two
        obtain ⟨a, dx, vs, F', rfl, hH, _⟩ := r1.insOf s'.gh s'.bh
        refine ⟨a, dx, _, rfl, hH, ?_⟩
        refine call_run (E := fun _ => E0) (ds := [none, none]) (ws := [.ref a, v]) s' (.val (.val .nil)) (xs' := zs) rfl hf rfl ?_
        have e0 : giveA [none, none] zs Γ' = Γ' := by
          rcases zs with _ | ⟨_, _ | ⟨_, _⟩⟩ <;> rfl
        rw [e0]
        exact p.at g
      · cases e'
    · cases e'
  · cases e'
/-! ### raise -/
def sRaise (cls : Nat) (fld : Str) (AA : AS) : SS := fun Γ => match AA Γ with
  | some (.ok [x], Γ1) => some (.ex ⟨cls, fld, x⟩, Γ1)
  | some (.ex e, Γ1) => some (.ex e, Γ1)
  | _ => none
theorem js_raise {cls : Nat} {fld : Str} {W : WX} (h : JA c (fun σ cl d H => W cl d σ H) tA AA) : JS c (fun σ cl d H => W cl d σ H) pins (fun _ σ H => tMkX (c.cm cls) fld tA σ H fun cl d H' => W cl d σ H') (sRaise cls fld AA) := by
  intro M G H σ Γ Γ' rr D s e p
  show tA σ H _
  unfold sRaise at e
  split at e
  · rename_i x Γ1 q
    cases e
    refine h s q ?_
    intro vs G1 H1 g s1
    obtain ⟨F, rs, _⟩ := s1.into
    obtain ⟨v, rfl, r1⟩ := one_of rs
    refine ⟨v, rfl, fun d H2 ex nd hd => ?_⟩
    exact p σ G H .refl .refl v d G1 H2 (g.trans (s1.goEx ex)) (s1.ex ex) hd
  · rename_i q
    cases e
    exact h s q (p σ G H .refl .refl)
  · cases e
/-- code that is never come to -/
def sNo : SS := fun _ => none
/-! ### a name op= e -/
def sAug (i : Nat) (o : PV → PV → Option PV) (S : ES) : SS := fun Γ => match Γ[i]? with
  | some (some x) => if noOwn x = true then eS S (fun y Γ1 => (o x y).map fun z => (.nx, Γ1.set i (some z))) Γ else none
  | _ => none
theorem js_aug {r : TIp} {o : PV → PV → Option PV} (ho : JO c r o) (h : JE c E te S) (hi : pins.getD i false = true := by rfl) : JS c E pins (tAug i te r) (sAug i o S) := by
  intro M G H σ Γ Γ' rr D s e p
  unfold sAug at e
  split at e
  · rename_i x hx
    split at e
    · rename_i no
      obtain ⟨v, F, hv, rv⟩ := s.slot hx
      have := rv.foot0 no
      subst this
      refine ⟨v, hv, ?_⟩
      unfold eS at e
      cases q : S Γ with
      | none => rw [q] at e; cases e
      | some o1 =>
        obtain ⟨o1, Γ1⟩ := o1
        rw [q] at e
        refine h s q ?_
        cases o1 with
        | ex x => cases e; exact p _ _ _ .refl .refl
        | ok y =>
          intro u G1 H1 g s1
          simp only at e
          cases q2 : o x y with
          | none => rw [q2] at e; cases e
          | some z =>
            rw [q2] at e
            cases e
            have rv1 : Rp c G1 M.B H1 v x [] := rv.up g.g fun _ z => absurd z List.not_mem_nil
            have s2 : StX c M G1 H1 σ Γ1 [v, u] [x, y] := by
              obtain ⟨F1, F2, rs, t, w⟩ := s1
              exact ⟨[] ++ F1, F2, .cons rv1 rs, t, w⟩
            exact ho s2 q2 fun w G3 H3 g3 s3 => p _ G3 H3 (.set hi) (g.trans g3) (s3.set i)
    · cases e
  · cases e
theorem ji_add : JO c (ipI fun i j => i + j) (oInt fun i j => some (.int (i + j))) := show JO c (rI0 fun i j => .int (i + j)) _ from jo_I0
end
end FV

/-! what the printed proofs use -/
namespace FV
open PySem PySem.Spec PyProof.Rows L2 Evl SB
def maskL (n : Nat) (vs : List Nat) : List Bool := (List.range n).map fun i => vs.contains i
theorem onlyAt_mask {n : Nat} {vs : List Nat} : onlyAt (maskL n vs) vs := fun i hi => by
  unfold maskL
  rw [List.getD_eq_getElem?_getD, List.getElem?_map]
  by_cases h : i < n
  · rw [List.getElem?_range h]
    simpa using hi
  · rw [List.getElem?_eq_none (by simpa using h)]
    rfl
section
variable {c : Ct} {E : L2.St → XK} {te ta tb tk tv : TE} {tA : TA} {tt : TT} {ts : TS} {S T C S1 S2 : ES} {A : SS} {AA : AS} {i : Nat} {pins ms : List Bool}
variable {M : Fm} {G H G' H' B : Hp} {σ σ' : L2.St} {Γ Γ' : Env} {us : List V} {ys : List PV} {loc : Loc3} {pg : PV → Option PV} {ps : PV → PV → PV}
/-- a value is frozen -/
def fzv (x : PV) : Option PV := if noOwn x = true then some x else if noBrw x = true then some (fz x) else none
def eFz (S : ES) : ES := eThen S fun x Γ => (fzv x).map fun z => (.ok z, Γ)
theorem je_fz (h : JE c E te S) : JE c E te (eFz S) := by
  intro M G H σ Γ Γ' rr Q s e p
  unfold eFz eThen at e
  cases q : S Γ with
  | none => rw [q] at e; cases e
  | some o =>
    obtain ⟨o, Γ1⟩ := o
    rw [q] at e
    refine h s q ?_
    cases o with
    | ex x => cases e; exact p
    | ok x =>
      intro v G1 H1 g s1
      simp only at e
      unfold fzv at e
      split at e
      · cases e; exact p v G1 H1 g s1
      · split at e
        · rename_i nb
          cases e
          obtain ⟨G2, g2, s2⟩ := s1.freeze nb
          exact p v G2 H1 (g.trans g2) s2
        · cases e
/-! ### + and * -/
def oCatT : PV → PV → Option PV
  | .tup xs, .tup ys => if xs.length + ys.length ≤ sizeLine then some (.tup (xs ++ ys)) else none
  | _, _ => none
theorem jo_catT : JO c (rCatA c.K) oCatT := by
  intro M G H σ Γ va vb x y z Q s e p
  obtain ⟨F1, F2, r1, r2, k⟩ := s.two
  unfold oCatT at e
  split at e
  · rename_i xs ys
    split at e
    · rename_i hc
      cases e
      obtain ⟨a, vs, rfl, t1, ha, ra⟩ := r1.seqT s.gh
      obtain ⟨b, ws, rfl, t2, hb, rb⟩ := r2.seqT s.gh
      have s2 := k _ _ (F1 ++ F2) [] (ra.app rb) (by rw [List.append_nil])
      refine ⟨a, b, vs, ws, rfl, rfl, ha, hb, by rw [ra.len, rb.len]; exact hc, fun e => ?_, fun e1 e => ?_, fun _ _ q hq => ?_⟩
      · subst e
        have : xs = [] := List.length_eq_zero_iff.mp ra.len.symm
        subst this
        exact p _ G H .refl (k [.ref b] _ (F2 ++ []) F1 (.cons r2 .nil) (by rw [List.append_nil]; exact List.perm_append_comm))
      · subst e
        have : ys = [] := List.length_eq_zero_iff.mp rb.len.symm
        subst this
        rw [List.append_nil] at p
        exact p _ G H .refl (k [.ref a] _ (F1 ++ []) F2 (.cons r1 .nil) (by rw [List.append_nil]))
      · obtain ⟨G', g, s3⟩ := s2.newT hq (Ex.new hq) upd_same
        exact p _ G' _ g s3
    · cases e
  · cases e
def rAddU (K : PySem.W.Frag) : R2 := r2Or (rI0 fun i j => .int (i + j)) (r2Or rAddSQ (r2Or rCat (rCatA K)))
def oAdd : PV → PV → Option PV := oOr (oInt fun i j => some (.int (i + j))) (oOr oAddS (oOr oCatL oCatT))
theorem op_addU {X : Cx} (K : PySem.W.Frag) (e : X.K = K) : OpR X (binaryOp .Add) (rAddU K) := op_or op_add (op_or op_addSQ (op_or op_cat (e ▸ op_catA)))
theorem jo_add : JO c (rAddU c.K) oAdd := jo_or2 (fun _ _ _ _ _ _ _ _ _ _ _ s e p => jo_I0 (g := fun i j => .int (i + j)) s e p) (jo_or2 jo_addS (jo_or2 jo_catL jo_catT))
theorem jo_sub : JO c (rI0 fun i j => .int (i - j)) (oInt fun i j => some (.int (i - j))) := fun _ _ _ _ _ _ _ _ _ _ _ s e p => jo_I0 s e p
def oMulI : PV → PV → Option PV := oInt fun i j => if CMul i j then some (.int (i * j)) else none
theorem jo_mulI : JO c (rI CMul fun i j => .int (i * j)) oMulI := fun _ _ _ _ _ _ _ _ _ _ _ s e p => jo_I s e p
def oMod : PV → PV → Option PV := oInt fun i j => if j ≠ 0 then some (.int (i.fmod j)) else none
theorem jo_mod : JO c (rI (fun _ j => j ≠ 0) fun i j => .int (i.fmod j)) oMod := by
  intro M G H σ Γ va vb x y z Q s e p
  obtain ⟨F1, F2, r1, r2, k⟩ := s.two
  unfold oMod oInt at e
  split at e
  · rename_i i j
    dsimp only at e
    split at e
    · rename_i hc
      cases e
      exact ⟨i, j, rp_int r1, rp_int r2, hc, p _ G H .refl (s.sc .int)⟩
    · cases e
  · cases e
def oFdiv : PV → PV → Option PV := oInt fun i j => if CDivN i j then some (.int (i.fdiv j)) else none
theorem jo_fdiv : JO c (rI CDivN fun i j => .int (i.fdiv j)) oFdiv := fun _ _ _ _ _ _ _ _ _ _ _ s e p => jo_I s e p
def oPow : PV → PV → Option PV := oInt fun i j => if CPow i j then some (.int (i ^ j.toNat)) else none
theorem jo_pow : JO c (rI CPow fun i j => .int (i ^ j.toNat)) oPow := fun _ _ _ _ _ _ _ _ _ _ _ s e p => jo_I s e p
def oLt : PV → PV → Option PV := oInt fun i j => some (.bl (decide (i < j)))
def oLe : PV → PV → Option PV := oInt fun i j => some (.bl (decide (i ≤ j)))
def oGt : PV → PV → Option PV := oInt fun i j => some (.bl (decide (j < i)))
def oGe : PV → PV → Option PV := oInt fun i j => some (.bl (decide (j ≤ i)))
theorem jo_lt : JO c (rI0 fun i j => .bl (decide (i < j))) oLt := fun _ _ _ _ _ _ _ _ _ _ _ s e p => jo_I0 s e p
theorem jo_le : JO c (rI0 fun i j => .bl (decide (i ≤ j))) oLe := fun _ _ _ _ _ _ _ _ _ _ _ s e p => jo_I0 s e p
theorem jo_gt : JO c (rI0 fun i j => .bl (decide (j < i))) oGt := fun _ _ _ _ _ _ _ _ _ _ _ s e p => jo_I0 s e p
theorem jo_ge : JO c (rI0 fun i j => .bl (decide (j ≤ i))) oGe := fun _ _ _ _ _ _ _ _ _ _ _ s e p => jo_I0 s e p
def oNeg : PV → Option PV
  | .int i => some (.int (-i))
  | _ => none
theorem ju_neg : JU c (rU fun i => .int (-i)) oNeg := by
  intro M G H σ Γ va x z Q s e p
  obtain ⟨F, r, _⟩ := s.one
  unfold oNeg at e
  split at e
  · cases e
    exact ⟨_, rp_int r, p _ G H .refl (s.sc .int)⟩
  · cases e
/-- xs[::k], k one or minus one -/
def oStep : PV → PV → Option PV
  | .lst _ xs, .int n => if n = 1 ∨ n = -1 then some (.lst .own (if n = 1 then xs else xs.reverse)) else none
  | _, _ => none
theorem je_step (ha : JE c E ta S) (hb : JE c E tb T) : JE c E (tStepL c.K ta tb) (eOp oStep S T) := by
  intro M G H σ Γ Γ' rr Q s e p
  refine two ha hb s e (fun e he => by subst he; exact p) fun x y v u G' H' Γ2 g s' e' => ?_
  cases q : oStep x y with
  | none => rw [q] at e'; cases e'
  | some z =>
    rw [q] at e'
    cases e'
    unfold oStep at q
    split at q
    · rename_i o xs n
      split at q
      · rename_i hn
        cases q
        obtain ⟨F1, F2, r1, r2, into⟩ := s'.two
        obtain ⟨a, vs, F', rfl, hs, rs, ef⟩ := r1.seqL s'.gh s'.bh
        obtain ⟨Z, pz⟩ := sub_perm (Z := []) ef
        refine ⟨a, vs, n, rfl, rp_int r2, hn, hs, fun t H3 ht ex h3 => ?_⟩
        have main : ∃ F3 Z3, Rps c G' M.B H' (if n = 1 then vs else vs.reverse) (if n = 1 then xs else xs.reverse) F3 ∧ F'.Perm (F3 ++ Z3) := by
          split
          · exact ⟨F', [], rs, by rw [List.append_nil]⟩
          · obtain ⟨F3, p3, r3⟩ := rs.rev
            exact ⟨F3, [], r3, by rw [List.append_nil]; exact p3.symm⟩
        obtain ⟨F3, Z3, r3, p3⟩ := main
        have s2 := into _ _ F3 ((Z3 ++ Z) ++ F2) r3 (List.perm_iff_count.mpr fun b => by
          have h1 := pz.count_eq b
          have h2 := p3.count_eq b
          simp only [List.count_append] at h1 h2 ⊢
          omega)
        exact p _ G' H3 (g.trans (s2.goEx ex)) (s2.newL ht ex h3)
      · cases q
    · cases q
/-! ### starred items -/
def aStar (S : ES) (T : AS) : AS := fun Γ => match S Γ with
  | some (.ok x, Γ1) => match itemsOf x with
    | some zs => match T Γ1 with
      | some (.ok xs, Γ2) => some (.ok (zs ++ xs), Γ2)
      | r => r
    | none => none
  | some (.ex e, Γ1) => some (.ex e, Γ1)
  | none => none
/-! ### a list or a tuple is walked -/
def tiOr (w w' : TI) : TI := fun σ H R => w σ H R ∨ w' σ H R
theorem pi_or {X : Cx} {tg e : Expr} {w w' : TI} (h : PI X tg e w) (h' : PI X tg e w') : PI X tg e (tiOr w w') := ⟨fun pins s σ H R I q => q.elim (h.run pins s σ H R I) (h'.run pins s σ H R I)⟩
theorem pi_seq {X : Cx} (K : PySem.W.Frag) (e0 : X.K = K) {tg e : Expr} {te : TE} (h : PE X e te) : PI X tg e (tiOr (iList K te) (iTup K te)) := pi_or (k_pil K e0 h) (k_pit K e0 h)
theorem src_or {f f' : PV → Option (List PV)} {r : RtA} (hd : ∀ x, (f x).isSome = true → (f' x).isSome = true → False) (e : src (fun x => match f x with | some z => some z | none => f' x) S Γ = some (r, Γ')) : src f S Γ = some (r, Γ') ∨ src f' S Γ = some (r, Γ') := by
  unfold src at e ⊢
  cases q : S Γ with
  | none => rw [q] at e; cases e
  | some o =>
    obtain ⟨o, Γ1⟩ := o
    rw [q] at e
    cases o with
    | ex x => exact .inl e
    | ok x =>
      simp only at e ⊢
      split at e
      · rename_i no
        simp only [no, if_true]
        cases q1 : f x with
        | some z => rw [q1] at e; exact .inl e
        | none => rw [q1] at e; exact .inr e
      · rename_i no
        split at e
        · rename_i nb
          simp only [no, nb, if_true, if_false]
          cases q1 : f (fz x) with
          | some z => rw [q1] at e; exact .inl (by simpa using e)
          | none => rw [q1] at e; exact .inr (by simpa using e)
        · cases e
def itemsS : PV → Option (List PV) := fun x => match itemsL x with | some z => some z | none => itemsT x
theorem ji_seq (h : JE c E te S) : JI c E (tiOr (iList c.K te) (iTup c.K te)) (src itemsS S) := by
  intro M G H σ Γ Γ' r R s e p px
  rcases src_or (fun x h1 h2 => by cases x <;> first | cases h1; done | cases h2) e with q | q
  · exact .inl (ji_list h s q p px)
  · exact .inr (ji_tup h s q p px)
/-! ### the field op= -/
end
end FV

/-! isinstance, chains, quiet calls, more stores -/
namespace FV
open PySem PySem.Spec PyProof.Rows L2 Evl SB
theorem ix_seqK {X : Cx} (K : PySem.W.Frag) (e : X.K = K) : IxR X (rIx K) := e ▸ ix_seq
def ttOr (t t' : TT) : TT := fun σ H Q => t σ H Q ∨ t' σ H Q
theorem pt_or2 {X : Cx} {e : Expr} {t t' : TT} (h : PT X e t) (h' : PT X e t') : PT X e (ttOr t t') := ⟨fun pins s σ H Q I q => q.elim (h.run pins s σ H Q I) (h'.run pins s σ H Q I)⟩
section
variable {c : Ct} {E : L2.St → XK} {te ta tb tc tk tv : TE} {tA : TA} {tt : TT} {ts : TS} {S T C S1 S2 S3 : ES} {A : SS} {AA : AS} {i : Nat} {pins ms : List Bool}
variable {M : Fm} {G H G' H' B : Hp} {σ σ' : L2.St} {Γ Γ' : Env} {us : List V} {ys : List PV} {loc : Loc3} {pg : PV → Option PV} {ps : PV → PV → PV}
theorem jt_or2 {t1 t2 : TT} {o o' : PV → PV → Option PV} (h : JT c E t1 (eOp o S T)) (h' : JT c E t2 (eOp o' S T)) : JT c E (ttOr t1 t2) (eOp (oOr o o') S T) := by
  intro M G H σ Γ Γ' rr Q s e p
  rcases eOp_or e with q | q
  · exact .inl (h s q p)
  · exact .inr (h' s q p)
theorem jt_in (ha : JE c E ta S) (hb : JE c E tb T) : JT c E (ttOr (tTest (tOp (rIn c.K false) ta tb)) (L2.tB (tDIn ta tb))) (eOp (oIn false) S T) := jt_or2 (jt_test (je_op (jo_inL false) ha hb)) (jt_B (je_din ha hb))
theorem jt_notIn (ha : JE c E ta S) (hb : JE c E tb T) : JT c E (ttOr (tTest (tOp (rIn c.K true) ta tb)) (L2.tB (tDNotIn ta tb))) (eOp (oIn true) S T) := jt_or2 (jt_test (je_op (jo_inL true) ha hb)) (jt_B (je_dnotin ha hb))
/-- a call that raises nothing here -/
def eQ (S : ES) : ES := fun Γ => match S Γ with
  | some (.ok x, Γ1) => some (.ok x, Γ1)
  | _ => none
theorem je_q {E0 : L2.St → XK} (h : JE c E0 te S) : JE c E te (eQ S) := by
  intro M G H σ Γ Γ' rr Q s e p
  unfold eQ at e
  split at e
  · rename_i x Γ1 q
    cases e
    exact h s q p
  · cases e
/-- a < b <= c -/
def eChain (o o' : PV → PV → Option PV) (S1 S2 S3 : ES) : ES := eThen S1 fun x => eThen S2 fun y Γ => match o x y with
  | some (.bl true) => eThen S3 (fun z Γ1 => (o' y z).map fun w => (.ok w, Γ1)) Γ
  | some (.bl false) => some (.ok (.bl false), Γ)
  | _ => none
theorem je_chain {r r' : R2} {o o' : PV → PV → Option PV} (h : JO c r o) (h' : JO c r' o') (ha : JE c E ta S1) (hb : JE c E tb S2) (hc : JE c E tc S3) (nb : ∀ x y z, o x y = some z → z = .bl true ∨ z = .bl false → True := by intros; trivial)
    (sc : ∀ {M : Fm} {G H : Hp} {σ : L2.St} {Γ : Env} {va vb : V} {x y : PV} {b : Bool} {Q : VK}, StX c M G H σ Γ [va, vb] [x, y] → o x y = some (.bl b) → (StX c M G H σ Γ [va, vb] [x, y] → Q (.bl b) H) → r va vb H Q) :
    JE c E (tChain r r' ta tb tc) (eChain o o' S1 S2 S3) := by
  intro M G H σ Γ Γ' rr Q s e p
  show ta σ H fun x H1 => tb σ H1 fun y H2 => r x y H2 fun z H3 => ∃ k, z = .bl k ∧ (if k = true then tc σ H3 fun w' H4 => r' y w' H4 Q else Q (.bl false) H3)
  refine two ha hb s e (fun e he => by subst he; exact p) fun x y v u G' H' Γ2 g s' e' => ?_
  split at e'
  · rename_i ho
    refine sc s' ho fun _ => ⟨true, rfl, iteT ?_⟩
    -- v is dropped, u framed
    have s1 : StX c M G' H' σ Γ2 [u] [y] := StX.tail (vs := [v]) (xs := [x]) s' rfl
    obtain ⟨F, rF, s2, back⟩ := s1.frame
    unfold eThen at e'
    cases q : S3 Γ2 with
    | none => rw [q] at e'; cases e'
    | some o1 =>
      obtain ⟨o1, Γ3⟩ := o1
      rw [q] at e'
      refine hc s2 q ?_
      cases o1 with
      | ex x => cases e'; exact XPos.frame p g rF.len back
      | ok z =>
        intro w G3 H3 g3 s3
        obtain ⟨g4, s4⟩ := back g3 s3
        simp only at e'
        cases q2 : o' y z with
        | none => rw [q2] at e'; cases e'
        | some w =>
          rw [q2] at e'
          cases e'
          exact h' s4 q2 fun w G5 H5 g5 s5 => p w G5 H5 ((g.trans g4).trans g5) s5
  · rename_i ho
    cases e'
    exact sc s' ho fun s'' => ⟨false, rfl, iteF (p _ G' H' g (s''.sc .bl))⟩
  · cases e'
theorem sc_lt {M : Fm} {G H : Hp} {σ : L2.St} {Γ : Env} {va vb : V} {x y : PV} {g : Int → Int → Bool} {o : PV → PV → Option PV} (ho : o = oInt fun i j => some (.bl (g i j))) {b : Bool} {Q : VK} (s : StX c M G H σ Γ [va, vb] [x, y]) (e : o x y = some (.bl b)) (k : StX c M G H σ Γ [va, vb] [x, y] → Q (.bl b) H) : rI0 (fun i j => .bl (g i j)) va vb H Q := by
  subst ho
  obtain ⟨F1, F2, r1, r2, _⟩ := s.two
  unfold oInt at e
  split at e
  · cases e
    exact ⟨_, _, rp_int r1, rp_int r2, k s⟩
  · cases e
/-- a sign in a text -/
def oInS (neg : Bool) : PV → PV → Option PV
  | .str x, .str y => match x.cps.toList with
    | [k] => some (.bl (if neg then !decide (k ∈ y.cps.toList) else decide (k ∈ y.cps.toList)))
    | _ => none
  | _, _ => none
theorem jo_inS : JO c rInS (oInS false) := by
  intro M G H σ Γ va vb x y z Q s e p
  obtain ⟨F1, F2, r1, r2, _⟩ := s.two
  unfold oInS at e
  split at e
  · rename_i x y
    split at e
    · rename_i k hk
      cases e
      have : x = ⟨#[k]⟩ := str_ext hk
      subst this
      exact ⟨k, y, rp_str r1, rp_str r2, p _ G H .refl (s.sc .bl)⟩
    · cases e
  · cases e
/-! ### isinstance -/
def tyName : PV → Option String
  | .non => some "NoneType"
  | .bl _ => some "bool"
  | .int _ => some "int"
  | .str _ => some "str"
  | .tup _ => some "tuple"
  | .lst _ _ => some "list"
  | .dk _ _ _ => some "dict"
  | _ => none
theorem tyX_of {K : PySem.W.Frag} {v : V} {x : PV} {F : List Addr} {a : String} (gh : GH G H) (bh : GH B H) (hK : c.K = K) (r : Rp c G B H v x F) (h : tyName x = some a) (nl : ∀ xs, x ≠ .lst .scr xs) : TyX K H v (.type a) := by
  cases x with
  | non => cases h; rw [r.toV (w := .non) rfl]; exact .base .non
  | bl b => cases h; rw [rp_bl r]; exact .base (.bl _)
  | int b => cases h; rw [rp_int r]; exact .base (.int _)
  | str b => cases h; rw [rp_str r]; exact .base (.str _)
  | tup xs =>
    cases h
    obtain ⟨a, vs, rfl, t, hs, rs⟩ := r.seqT gh
    subst hK
    exact ty_sqT hs
  | lst o xs =>
    cases h
    by_cases e : o = .scr
    · subst e; exact absurd rfl (nl xs)
    · obtain ⟨a, vs, F', rfl, hH, _⟩ := r.lstAt gh bh e
      exact .base (.lst hH)
  | dk o ks xs =>
    cases h
    obtain ⟨a, vs, F', rfl, rd, _⟩ := r.dkOf gh bh
    rcases rd with hH | ⟨ob, hH⟩
    · exact .base (.dK hH)
    · exact .fDict hH
  | _ => cases h
def okTy : PV → Bool
  | .lst .scr _ => false
  | _ => true
/-- isinstance(x, a built-in class) -/
def cIsi : List PV → Option PV
  | [x, .raw (.ty b)] => if okTy x = true then match tyName x with
    | some a => (L2.kitB a b).map .bl
    | none => none
    else none
  | _ => none
theorem jc_isi : JC c (rIsi c.K) cIsi := by
  intro M G H σ Γ vs xs z Q s e p
  unfold cIsi at e
  split at e
  · rename_i x b
    split at e
    · rename_i ok
      split at e
      · rename_i a ha
        cases q : L2.kitB a b with
        | none => rw [q] at e; cases e
        | some k =>
          rw [q] at e
          cases e
          obtain ⟨F, rs, _⟩ := s.into
          cases rs with
          | cons r1 rs =>
            obtain ⟨u, rfl, r2⟩ := one_of rs
            have : u = .ty b := by
              cases r2 with
              | fr r => cases r; rfl
            subst this
            refine ⟨_, _, _, _, k, rfl, .ty b, tyX_of s.gh s.bh rfl r1 ha (fun xs hx => by subst hx; cases ok), kit_ty q, p _ G H .refl (s.sc .bl)⟩
      · cases e
    · cases e
  · cases e
/-! ### methods without arguments -/
theorem je_mth0 {T : String} {r : V → List V → Hp → VK → Prop} {f : PV → List PV → Option (PV × PV)} (L : Ln c i te loc pg ps) (hm : JM c T r f) : JE c E (tBM0 c.K T r te) (eMth T i pg ps f [] aNil) := by
  intro M G H σ Γ Γ' rr Q s e p
  have := je_mth (E := E) (ms := []) L hm (ja_nil) (mi := by simp) s e p
  exact this
/-! ### two and three names at once -/
def sPar (i j : Nat) (AA : AS) : SS := fun Γ => match AA Γ with
  | some (.ok [x, y], Γ1) => some (.nx, (Γ1.set i (some x)).set j (some y))
  | some (.ex e, Γ1) => some (.ex e, Γ1)
  | _ => none
theorem StX.setAll {v : V} {x : PV} {us : List V} {ys : List PV} (s : StX c M G H σ Γ (v :: us) (x :: ys)) (i : Nat) : StX c M G H (σ.set i (some v)) (Γ.set i (some x)) us ys := by
  obtain ⟨F1, F2, r, t, w⟩ := s
  cases r with
  | cons r rr =>
    rename_i F0 Fr
    have w' : Wo c M G H (F0 ++ (Fr ++ F2)) := by rw [← List.append_assoc]; exact w
    obtain ⟨Fd, F3, t3, p3⟩ := t.drop i (some v)
    by_cases h : i < Γ.length
    · have hl : i < (σ.set i (some v)).length := by rw [List.length_set, t.len]; exact h
      obtain ⟨F4, t4, p4⟩ := t3.put hl (by rw [List.getElem?_set]; simp [h]) r
      rw [List.set_set, List.set_set] at t4
      refine ⟨Fr, F4, rr, t4, ?_⟩
      have : Wo c M G H (Fd ++ (Fr ++ F4)) := w'.perm (List.perm_iff_count.mpr fun a => by
        have h1 := p3.count_eq a
        have h2 := p4.count_eq a
        simp only [List.count_append] at h1 h2 ⊢
        omega)
      exact this.right
    · have e := t.len
      rw [List.set_eq_of_length_le (by omega), List.set_eq_of_length_le (by omega)]
      exact ⟨Fr, F2, rr, t, w'.right⟩
def sPar3 (i j l : Nat) (AA : AS) : SS := fun Γ => match AA Γ with
  | some (.ok [x, y, z], Γ1) => some (.nx, ((Γ1.set i (some x)).set j (some y)).set l (some z))
  | some (.ex e, Γ1) => some (.ex e, Γ1)
  | _ => none
theorem js_par3 {i j l : Nat} (h : JA c E tA AA) (hi : pins.getD i false = true := by rfl) (hj : pins.getD j false = true := by rfl) (hl : pins.getD l false = true := by rfl) : JS c E pins (tPar3 i j l tA) (sPar3 i j l AA) := by
  intro M G H σ Γ Γ' rr D s e p
  show tA σ H _
  unfold sPar3 at e
  split at e
  · rename_i x y z Γ1 q
    cases e
    refine h s q ?_
    intro vs G1 H1 g s1
    obtain ⟨v, w, u, rfl⟩ : ∃ v w u, vs = [v, w, u] := by
      have := s1.rlen
      match vs, this with
      | [v, w, u], _ => exact ⟨v, w, u, rfl⟩
    exact ⟨v, w, u, rfl, p _ G1 H1 (((Pin.set hi).trans (Pin.set hj)).trans (Pin.set hl)) g (((s1.setAll i).setAll j).setAll l)⟩
  · rename_i q
    cases e
    exact h s q (p σ G H .refl .refl)
  · cases e
end
end FV
namespace FV
open PySem PySem.Spec PyProof.Rows L2 Evl SB
end FV

/-! enumerate(tuple), dicts walked -/
namespace FV
open PySem PySem.Spec PyProof.Rows L2 Evl SB
section
variable {c : Ct} {E : L2.St → XK} {te ta tb tc tk tv : TE} {tA : TA} {tt : TT} {ts : TS} {S T C S1 S2 S3 : ES} {A : SS} {AA : AS} {i : Nat} {pins ms : List Bool}
variable {M : Fm} {G H G' H' B : Hp} {σ σ' : L2.St} {Γ Γ' : Env} {us : List V} {ys : List PV} {loc : Loc3} {pg : PV → Option PV} {ps : PV → PV → PV}
def srcEnT (AA : AS) : AS := fun Γ => match AA Γ with
  | some (.ok [x], Γ1) => if noOwn x = true then (itemsT x).map fun xs => (.ok (enumP xs), Γ1) else if noBrw x = true then (itemsT (fz x)).map fun xs => (.ok (enumP xs), Γ1) else none
  | some (.ex e, Γ1) => some (.ex e, Γ1)
  | _ => none
end
end FV

/-! dicts walked: locked while the walk goes on -/
namespace FV
open PySem PySem.Spec PyProof.Rows L2 Evl SB
section
variable {c : Ct} {E : L2.St → XK} {te ta tb tc tk tv : TE} {tA : TA} {tt : TT} {ts : TS} {S T C S1 S2 S3 : ES} {A : SS} {AA : AS} {i : Nat} {pins ms : List Bool} {g : TG} {Tg : PV → Env → Option Env}
/-- a for whose iterator is known where it starts -/
theorem js_forAt {wi : TI} {tb : TS} {B : SS} {M : Fm} {G H : Hp} {σ : L2.St} {Γ1 Γ' : Env} {xs : List PV} {rr : Out} {D : Ends} (hi : ∀ R : It → Hp → Prop, (∀ J G' H', Go M G H G' H' → StX c M G' H' σ Γ1 [] [] → Itm c M G' H' J xs → R J H') → wi σ H R) (hg : JG c pins g Tg) (hb : JS c E pins tb B)
    (e : forF Tg B xs Γ1 = some (rr, Γ')) (p : PosS c M G H σ pins Γ' E D rr) : tFor wi g tb D σ H := by
  show wi σ H _
  refine hi _ fun J G1 H1 g1 s1 it => ?_
  show ∃ W : Nat → Nat → L2.St → Hp → Prop, _
  refine ⟨fun i m σ' H' => m = xs.length - i ∧ i ≤ xs.length ∧ ∃ G' Γi, Pin pins σ σ' ∧ Go M G1 H1 G' H' ∧ StX c M G' H' σ' Γi [] [] ∧ forF Tg B (xs.drop i) Γi = some (rr, Γ'), ⟨_, rfl, Nat.zero_le _, G1, Γ1, .refl, .refl, s1, by rw [List.drop_zero]; exact e⟩, ?_⟩
  rintro i m σ' H' ⟨rfl, hi, G', Γi, pn, go, st, ei⟩
  by_cases hlt : i < xs.length
  · refine .inr ⟨it.go go st.gh st.bh hlt, ?_⟩
    have ed : xs.drop i = xs[i] :: xs.drop (i + 1) := List.drop_eq_getElem_cons hlt
    rw [ed, forF_cons] at ei
    have hx : xs[i]? = some xs[i] := List.getElem?_eq_getElem hlt
    cases q1 : Tg xs[i] Γi with
    | none => rw [q1] at ei; cases ei
    | some Γ2 =>
      rw [q1] at ei
      simp only at ei
      cases q2 : B Γ2 with
      | none => rw [q2] at ei; cases ei
      | some o2 =>
        obtain ⟨o2, Γ3⟩ := o2
        rw [q2] at ei
        refine ⟨fun σ3 H3 => ∃ G3 Γ4, Pin pins σ σ3 ∧ Go M G1 H1 G3 H3 ∧ StX c M G3 H3 σ3 Γ4 [] [] ∧ forF Tg B (xs.drop (i + 1)) Γ4 = some (rr, Γ'), fun σ3 H3 ⟨G3, Γ4, a, b, d, f⟩ => ⟨_, by omega, rfl, hlt, G3, Γ4, a, b, d, f⟩, fun v H'' y => ?_⟩
        obtain ⟨G2, go2, st2⟩ := it.yld go st.gh st.bh hx y st
        refine hg (v := v) (x := xs[i]) st2 q1 fun σ2 pn2 st3 => hb st3 q2 ?_
        have gA : Go M G1 H1 G2 H'' := go.trans go2
        cases o2 with
        | nx => exact fun σ3 G3 H3 a b d => ⟨G3, Γ3, (pn.trans pn2).trans a, gA.trans b, d, ei⟩
        | ct => exact fun σ3 G3 H3 a b d => ⟨G3, Γ3, (pn.trans pn2).trans a, gA.trans b, d, ei⟩
        | bk => cases ei; exact fun σ3 G3 H3 a b d => p σ3 G3 H3 ((pn.trans pn2).trans a) (g1.trans (gA.trans b)) d
        | rt x => cases ei; exact fun v' σ3 G3 H3 a b d => p v' σ3 G3 H3 ((pn.trans pn2).trans a) (g1.trans (gA.trans b)) d
        | ex x => cases ei; exact fun σ3 G3 H3 a b => p σ3 G3 H3 ((pn.trans pn2).trans a) (g1.trans (gA.trans b))
  · have : i = xs.length := by omega
    subst this
    rw [List.drop_length] at ei
    cases ei
    exact .inl ⟨it.stop go st.gh st.bh, p σ' G' H' pn (g1.trans go) st⟩
def compT (Tg : PV → Env → Option Env) (C S : ES) (vs : List Nat) (xs : List PV) (Γ1 : Env) : Option (Rt × Env) :=
  if (freeAt Γ1 vs && decide (xs.length ≤ 50000)) = true then match compF Tg C S vs xs [] (wipeE Γ1 vs) with
      | some (ys, Γ2) => some (.ok (.lst .own ys), backE Γ1 Γ2 vs)
      | none => none
    else none
def Fm.lk (M : Fm) (d : Addr) : Fm := ⟨M.B, M.Φ, fun a => M.Λ a ∨ a = d⟩
section
variable {M : Fm} {G H G' H' B : Hp} {σ σ' : L2.St} {Γ Γ' : Env} {us : List V} {ys : List PV} {d : Addr} {u : HO} {od : Obj}
theorem Wo.dOut {F : List Addr} (w : Wo c M G H F) (k : G d = some u ∨ M.B d = some u) : d ∉ F := fun z => by
  rcases k with k | k
  · have := w.gf d (.inl z)
    rw [k] at this
    cases this
  · exact (w.ff d z).1 (w.bp d (by rw [k]; exact fun z => nomatch z))
theorem gh_lock (g : GH G H) (hu : isD u = true) (hd : H d = some u) : GH G (upd H d (.frz od u)) := fun a o h => by
  by_cases z : a = d
  · subst z
    rcases g a o h with q | ⟨_, ob, q⟩
    · rw [hd] at q
      cases q
      exact .inr ⟨hu, od, upd_same⟩
    · rw [hd] at q
      cases q
      cases hu
  · rw [upd_ne z]
    exact g a o h
theorem gh_unlock (g : GH G H) (hd : H d = some (.frz od u)) (k : ∀ o, G d = some o → o = u) : GH G (upd H d u) := fun a o h => by
  by_cases z : a = d
  · subst z
    cases k o h
    exact .inl upd_same
  · rw [upd_ne z]
    exact g a o h
theorem StX.lock (s : StX c M G H σ Γ us ys) (hu : isD u = true) (hd : H d = some u) (k : G d = some u ∨ M.B d = some u) (od : Obj) : StX c (M.lk d) G (upd H d (.frz od u)) σ Γ us ys := by
  obtain ⟨F1, F2, r, t, w⟩ := s
  have nF := w.dOut k
  have n1 : ∀ a ∈ F1, upd H d (.frz od u) a = H a := fun a ha => upd_ne fun z => nF (z ▸ List.mem_append_left _ ha)
  have n2 : ∀ a ∈ F2, upd H d (.frz od u) a = H a := fun a ha => upd_ne fun z => nF (z ▸ List.mem_append_right _ ha)
  refine ⟨F1, F2, Rps.up (Ex.refl _) n1 r, Sls.up (Ex.refl _) n2 t, gh_lock w.gh hu hd, gh_lock w.bh hu hd, w.bp, fun a h => ?_, w.nd, w.gf, fun a h => ⟨(w.ff a h).1, fun z => ?_⟩, fun a h ws => ?_, tb_off w.tb hd (isD_nt hu).1 (isD_nt hu).2 fun b z => upd_ne z, fun a h => by have n : a ≠ d := (fun z => nF (by rw [← z]; exact h)); rw [upd_ne n]; exact w.sp a h, ⟨fun a h ps => ?_, w.nt.2⟩⟩
  · by_cases z : a = d
    · subst z; rw [upd_same]; exact fun z => nomatch z
    · rw [upd_ne z]
      rcases h with h | h | h
      · exact w.al a (.inl h)
      · exact w.al a (.inr h)
      · exact absurd h z
  · rcases z with z | z
    · exact (w.ff a h).2 z
    · exact nF (z ▸ h)
  · by_cases z : a = d
    · subst z; rw [upd_same]; exact fun z => nomatch z
    · rw [upd_ne z]; exact w.pt a h ws
  · by_cases z : a = d
    · subst z; rw [upd_same]; exact fun z => nomatch z
    · rw [upd_ne z]
      rcases h with h | h | h
      · exact w.nt.1 a (.inl h) ps
      · exact w.nt.1 a (.inr h) ps
      · exact absurd h z
/-- what is locked already -/
theorem StX.lock0 (s : StX c M G H σ Γ us ys) (hd : H d ≠ none) (k : G d = some u ∨ M.B d = some u) : StX c (M.lk d) G H σ Γ us ys := by
  obtain ⟨F1, F2, r, t, w⟩ := s
  have nF := w.dOut k
  refine ⟨F1, F2, r, t, w.gh, w.bh, w.bp, fun a h => ?_, w.nd, w.gf, fun a h => ⟨(w.ff a h).1, fun z => ?_⟩, w.pt, w.tb, w.sp, ⟨fun a h ps => ?_, w.nt.2⟩⟩
  · rcases h with h | h | h
    · exact w.al a (.inl h)
    · exact w.al a (.inr h)
    · subst h; exact hd
  · rcases z with z | z
    · exact (w.ff a h).2 z
    · exact nF (z ▸ h)
  · rcases h with h | h | h
    · exact w.nt.1 a (.inl h) ps
    · exact w.nt.1 a (.inr h) ps
    · subst h
      intro z
      rcases k with k | k
      · rcases w.gh _ _ k with q | ⟨_, _, q⟩
        · exact w.nt.2 _ ps (k.trans (q.symm.trans z))
        · rw [q] at z; cases z
      · exact w.nt.1 _ (.inl (w.bp _ (by rw [k]; exact fun z => nomatch z))) ps z
theorem Wo.alone {F : List Addr} (w : Wo c M G H F) (k : G d = some u ∨ M.B d = some u) : (∀ o, G d = some o → o = u) ∧ ∀ o, M.B d = some o → o = u := by
  have ex : ∀ {o o'}, M.B d = some o → G d = some o' → False := fun h h' => by
    have := w.gf d (.inr (w.bp d (by rw [h]; exact fun z => nomatch z)))
    rw [h'] at this
    cases this
  rcases k with k | k
  · exact ⟨fun o h => by rw [k] at h; exact (Option.some.inj h).symm, fun o h => (ex h k).elim⟩
  · exact ⟨fun o h => (ex k h).elim, fun o h => by rw [k] at h; exact (Option.some.inj h).symm⟩
theorem StX.unlock (s : StX c (M.lk d) G H σ Γ us ys) (hu : isD u = true) (hd : H d = some (.frz od u)) (k : G d = some u ∨ M.B d = some u) : StX c M G (upd H d u) σ Γ us ys := by
  obtain ⟨F1, F2, r, t, w⟩ := s
  have nF := w.dOut k
  have al := w.alone k
  have n1 : ∀ a ∈ F1, upd H d u a = H a := fun a ha => upd_ne fun z => nF (z ▸ List.mem_append_left _ ha)
  have n2 : ∀ a ∈ F2, upd H d u a = H a := fun a ha => upd_ne fun z => nF (z ▸ List.mem_append_right _ ha)
  refine ⟨F1, F2, Rps.up (Ex.refl _) n1 r, Sls.up (Ex.refl _) n2 t, gh_unlock w.gh hd al.1, gh_unlock w.bh hd al.2, w.bp, fun a h => ?_, w.nd, w.gf, fun a h => ⟨(w.ff a h).1, fun z => (w.ff a h).2 (.inl z)⟩, fun a h ws => ?_, tb_off w.tb hd (fun _ z => nomatch z) (fun _ _ z => nomatch z) fun b z => upd_ne z, fun a h => by have n : a ≠ d := (fun z => nF (by rw [← z]; exact h)); rw [upd_ne n]; exact w.sp a h, ⟨fun a h ps => ?_, w.nt.2⟩⟩
  · by_cases z : a = d
    · subst z; rw [upd_same]; exact fun z => nomatch z
    · rw [upd_ne z]
      exact w.al a (h.imp id .inl)
  · by_cases z : a = d
    · subst z; rw [upd_same]; exact fun z => by cases z; cases hu
    · rw [upd_ne z]
      exact w.pt a h ws
  · by_cases z : a = d
    · subst z; rw [upd_same]; exact fun z => by cases z; cases hu
    · rw [upd_ne z]
      exact w.nt.1 a (h.imp id .inl) ps
theorem StX.unlock0 (s : StX c (M.lk d) G H σ Γ us ys) : StX c M G H σ Γ us ys := by
  obtain ⟨F1, F2, r, t, w⟩ := s
  exact ⟨F1, F2, r, t, w.gh, w.bh, w.bp, fun a h => w.al a (h.imp id .inl), w.nd, w.gf, fun a h => ⟨(w.ff a h).1, fun z => (w.ff a h).2 (.inl z)⟩, w.pt, w.tb, w.sp, ⟨fun a h => w.nt.1 a (h.imp id .inl), w.nt.2⟩⟩
theorem Go.unlock (g : Go (M.lk d) G (upd H d (.frz od u)) G' H') (hd : H d = some u) : Go M G H G' (upd H' d u) := ⟨g.g, fun a h => by
  by_cases z : a = d
  · subst z; rw [upd_same, hd]
  · rw [upd_ne z, g.s a (h.imp id .inl), upd_ne z]⟩
theorem Go.unlock0 (g : Go (M.lk d) G H G' H') : Go M G H G' H' := ⟨g.g, fun a h => g.s a (h.imp id .inl)⟩
theorem Go.kept (g : Go (M.lk d) G H G' H') (h : H d = some (.frz od u)) : H' d = some (.frz od u) := (g.s d (.inr (.inr rfl))).trans h
end
/-- the heap but for locks -/
def LkE (H H' : Hp) : Prop := ∀ a, H' a = H a ∨ ∃ u od, isD u = true ∧ H a = some u ∧ H' a = some (.frz od u)
theorem LkE.refl {H : Hp} : LkE H H := fun _ => .inl rfl
theorem LkE.lock {H : Hp} {d : Addr} {u : HO} (hu : isD u = true) (hd : H d = some u) (od : Obj) : LkE H (upd H d (.frz od u)) := fun a => by
  by_cases z : a = d
  · subst z; exact .inr ⟨u, od, hu, hd, upd_same⟩
  · exact .inl (upd_ne z)
/-- a view, whatever is locked -/
def JVL (c : Ct) (te : TE) (P : Env → Option PV) : Prop := ∀ ⦃M : Fm⦄ ⦃G H : Hp⦄ ⦃σ : L2.St⦄ ⦃Γ : Env⦄ ⦃x : PV⦄, StX c M G H σ Γ [] [] → P Γ = some x → ∃ v F, Rp c G M.B H v x F ∧ ∀ H', LkE H H' → ∀ Q : VK, Q v H' → te σ H' Q
theorem jvl_var : JVL c (tVar i) (vVar i) := by
  intro M G H σ Γ x s e
  unfold vVar at e
  split at e
  · rename_i o ho
    obtain ⟨v, F, hv, r⟩ := s.slot (x := x) (by rw [ho, e])
    exact ⟨v, F, r, fun H' _ Q q => ⟨v, hv, q⟩⟩
  · cases e
inductive Kd | keys | vals | items
def wiK : Kd → TE → TI
  | .keys => iKeys
  | .vals => iVals
  | .items => iItems
def itemsK : Kd → PV → Option (List PV)
  | _, .dk .own _ _ => none
  | .keys, .dk _ ks _ => some (ks.map pvK)
  | .vals, .dk _ _ xs => some xs
  | .items, .dk _ ks xs => some (List.zipWith (fun k x => .tup [pvK k, x]) ks xs)
  | _, _ => none
def itK : Kd → Addr → Obj → List (Key × V) → It
  | .keys => Itk
  | .vals => Itd
  | .items => Iti
theorem rp_key {G B H : Hp} (k : Key) : Rp c G B H (kV k) (pvK k) [] := by
  cases k with
  | inl i => exact .fr .int
  | inr i => exact .fr .str
theorem itemsK_at {G B H : Hp} {v : V} {x : PV} {F : List Addr} {kd : Kd} {zs : List PV} (r : Rp c G B H v x F) (e : itemsK kd x = some zs) :
    ∃ a ks vs xs, v = .ref a ∧ (G a = some (.dK (ks.zip vs)) ∨ B a = some (.dK (ks.zip vs))) ∧ Wk ks vs ∧ Rps c G B H vs xs [] ∧
      zs = (match kd with | .keys => ks.map pvK | .vals => xs | .items => List.zipWith (fun k x => .tup [pvK k, x]) ks xs) := by
  unfold itemsK at e
  split at e
  · cases e
  · cases e
    cases r with
    | fr h => cases h with | dk h l t => exact ⟨_, _, _, _, rfl, .inl h, l, t.rps, rfl⟩
    | dk h l t => rename_i no; exact (no rfl).elim
    | dkB h l t => exact ⟨_, _, _, _, rfl, .inr h, l, t, rfl⟩
  · cases e
    cases r with
    | fr h => cases h with | dk h l t => exact ⟨_, _, _, _, rfl, .inl h, l, t.rps, rfl⟩
    | dk h l t => rename_i no; exact (no rfl).elim
    | dkB h l t => exact ⟨_, _, _, _, rfl, .inr h, l, t, rfl⟩
  · cases e
    cases r with
    | fr h => cases h with | dk h l t => exact ⟨_, _, _, _, rfl, .inl h, l, t.rps, rfl⟩
    | dk h l t => rename_i no; exact (no rfl).elim
    | dkB h l t => exact ⟨_, _, _, _, rfl, .inr h, l, t, rfl⟩
  · cases e
theorem itm_dk {M : Fm} {G H : Hp} {d : Addr} {od : Obj} {ks : List Key} {vs : List V} {xs : List PV} (kd : Kd) (hd : H d = some (.frz od (.dK (ks.zip vs)))) (w : Wk ks vs) (r : Rps c G M.B H vs xs []) :
    Itm c (M.lk d) G H (itK kd d od (ks.zip vs)) (match kd with | .keys => ks.map pvK | .vals => xs | .items => List.zipWith (fun k x => .tup [pvK k, x]) ks xs) := by
  have l1 : (ks.zip vs).length = ks.length := by rw [List.length_zip, w.1, Nat.min_self]
  have l2 : xs.length = vs.length := r.len.symm
  have up : ∀ {G' H'}, Go (M.lk d) G H G' H' → Rps c G' M.B H' vs xs [] := fun g => Rps.up g.g (fun _ z => absurd z List.not_mem_nil) r
  have atk : ∀ {i : Nat} {k : Key} {v : V}, (ks.zip vs)[i]? = some (k, v) → ks[i]? = some k ∧ vs[i]? = some v := fun h => by
    rw [List.getElem?_zip_eq_some] at h
    exact h
  cases kd with
  | keys =>
    refine ⟨fun {G' H' i} g _ _ hi => ⟨g.kept hd, by rw [l1]; simpa using hi⟩, fun {G' H'} g _ _ => ⟨g.kept hd, by rw [l1]; simp⟩, fun {G' H' i x v H''} g gh' bh' hx y σ Γ us ys s => ?_⟩
    obtain ⟨rfl, k, v', hk, rfl⟩ := y
    obtain ⟨a1, a2⟩ := atk hk
    have : x = pvK k := by
      have hx : (ks.map pvK)[i]? = some x := hx
      rw [List.getElem?_map, a1] at hx
      exact (Option.some.inj hx).symm
    subst this
    exact ⟨G', .refl, s.push (rp_key k)⟩
  | vals =>
    refine ⟨fun {G' H' i} g _ _ hi => ⟨g.kept hd, by rw [l1, w.1, ← l2]; exact hi⟩, fun {G' H'} g _ _ => ⟨g.kept hd, by rw [l1, w.1, ← l2]; exact Nat.le_refl _⟩, fun {G' H' i x v H''} g gh' bh' hx y σ Γ us ys s => ?_⟩
    obtain ⟨rfl, k, hk⟩ := y
    obtain ⟨a1, a2⟩ := atk hk
    obtain ⟨w', hw, rw'⟩ := (up g).get0 hx
    have : w' = v := by rw [a2] at hw; exact (Option.some.inj hw).symm
    subst this
    exact ⟨G', .refl, s.push rw'⟩
  | items =>
    have l3 : (List.zipWith (fun k x => PV.tup [pvK k, x]) ks xs).length = ks.length := by rw [List.length_zipWith, l2, w.1, Nat.min_self]
    refine ⟨fun {G' H' i} g _ _ hi => ⟨g.kept hd, by rw [l1, ← l3]; exact hi⟩, fun {G' H'} g _ _ => ⟨g.kept hd, by rw [l1]; exact Nat.le_of_eq l3.symm⟩, fun {G' H' i x v H''} g gh' bh' hx y σ Γ us ys s => ?_⟩
    obtain ⟨T, k, v', hk, rfl, hT, rfl⟩ := y
    obtain ⟨a1, a2⟩ := atk hk
    have hx : (List.zipWith (fun k x => PV.tup [pvK k, x]) ks xs)[i]? = some x := hx
    obtain ⟨x', hx'⟩ : ∃ x', xs[i]? = some x' := by
      have := (List.getElem?_eq_some_iff.mp a2).1
      exact ⟨xs[i]'(by omega), List.getElem?_eq_getElem (by omega)⟩
    obtain ⟨w', hw, rw'⟩ := (up g).get0 hx'
    have : w' = v' := by rw [a2] at hw; exact (Option.some.inj hw).symm
    subst this
    have : x = .tup [pvK k, x'] := by
      rw [List.getElem?_zipWith, a1, hx'] at hx
      exact (Option.some.inj hx).symm
    subst this
    exact s.pair hT (rp_key k) rw'

/-- the reading of a locked walk's head -/
theorem wiK_of {kd : Kd} {σ : L2.St} {H : Hp} {R : It → Hp → Prop} {d : Addr} {od : Obj} {kvs : List (Key × V)} (k : ∀ Q : VK, Q (.ref d) H → te σ H Q) (hd : H d = some (.frz od (.dK kvs))) (h : R (itK kd d od kvs) H) : wiK kd te σ H R := by
  cases kd with
  | keys => exact k _ ⟨d, od, rfl, .inl ⟨kvs, hd, h⟩⟩
  | vals => exact k _ ⟨d, od, kvs, rfl, hd, h⟩
  | items => exact k _ ⟨d, od, kvs, rfl, hd, h⟩
def tsOr (t t' : TS) : TS := fun D σ H => t D σ H ∨ t' D σ H
theorem ps_or2 {X : Cx} {st : Stmt} {t t' : TS} (h : PS X st t) (h' : PS X st t') : PS X st (tsOr t t') := ⟨fun pins s σ H D I q => q.elim (h.run pins s σ H D I) (h'.run pins s σ H D I)⟩
/-- either locked for this statement, or locked already -/
theorem ps_lock2 {X : Cx} {st : Stmt} {t : TS} (h : PS X st t) : PS X st (tsOr (tLock t) t) := ps_or2 (ps_lock h) h
def sForK (kd : Kd) (P : Env → Option PV) (Tg : PV → Env → Option Env) (B : SS) : SS := fun Γ => match (P Γ).bind (itemsK kd) with
  | some xs => match forF Tg B xs Γ with
    | some (.ex _, _) => none
    | r => r
  | none => none
theorem js_forK {kd : Kd} {tb : TS} {B : SS} {P : Env → Option PV} (hv : JVL c te P) (hg : JG c pins g Tg) (hb : JS c E pins tb B) : JS c E pins (tsOr (tLock (tFor (wiK kd te) g tb)) (tFor (wiK kd te) g tb)) (sForK kd P Tg B) := by
  intro M G H σ Γ Γ' rr D s e p
  unfold sForK at e
  cases q : (P Γ).bind (itemsK kd) with
  | none => rw [q] at e; cases e
  | some zs =>
    rw [q] at e
    obtain ⟨x, hx, ex⟩ := Option.bind_eq_some_iff.mp q
    obtain ⟨v, F, r, k⟩ := hv s hx
    obtain ⟨d, ks, vs, xs, rfl, at', wk, rs, ez⟩ := itemsK_at r ex
    have e1 : forF Tg B zs Γ = some (rr, Γ') ∧ ∀ z, rr ≠ .ex z := by
      simp only at e
      split at e
      · cases e
      · rename_i h
        refine ⟨e, fun z hz => ?_⟩
        subst hz
        exact h _ _ e
    obtain ⟨e1, nx⟩ := e1
    have rd : Rd H d (.dK (ks.zip vs)) := by
      rcases at' with h | h
      · exact s.gh.rd h
      · exact s.bh.rd h
    rcases rd with hd | ⟨od, hd⟩
    · refine .inl ⟨d, .dK (ks.zip vs), hd, trivial, fun od => ?_⟩
      have sl := s.lock rfl hd at' od
      have hl : upd H d (.frz od (.dK (ks.zip vs))) d = some (.frz od (.dK (ks.zip vs))) := upd_same
      have rs' : Rps c G M.B (upd H d (.frz od (.dK (ks.zip vs)))) vs xs [] := Rps.up (Ex.refl _) (fun _ z => absurd z List.not_mem_nil) rs
      refine js_forAt (M := M.lk d) (G := G) (Γ1 := Γ) (xs := zs) (E := E) (rr := rr) (Γ' := Γ') (fun R h => wiK_of (k _ (.lock rfl hd od)) hl (h _ G _ .refl sl (by rw [ez]; exact itm_dk kd hl wk rs'))) hg hb e1 ?_
      have at2 : ∀ {G' H'}, Go (M.lk d) G (upd H d (.frz od (.dK (ks.zip vs)))) G' H' → G' d = some (.dK (ks.zip vs)) ∨ M.B d = some (.dK (ks.zip vs)) := fun g => at'.imp (g.g _ _) id
      cases rr with
      | nx => exact fun σ' G' H' pn g s' => ⟨g.kept hl, p σ' G' _ pn (g.unlock hd) (s'.unlock rfl (g.kept hl) (at2 g))⟩
      | bk => exact fun σ' G' H' pn g s' => ⟨g.kept hl, p σ' G' _ pn (g.unlock hd) (s'.unlock rfl (g.kept hl) (at2 g))⟩
      | ct => exact fun σ' G' H' pn g s' => ⟨g.kept hl, p σ' G' _ pn (g.unlock hd) (s'.unlock rfl (g.kept hl) (at2 g))⟩
      | rt x => exact fun v σ' G' H' pn g s' => ⟨g.kept hl, p v σ' G' _ pn (g.unlock hd) (s'.unlock rfl (g.kept hl) (at2 g))⟩
      | ex x => exact (nx x rfl).elim
    · refine .inr ?_
      have sl := s.lock0 (by rw [hd]; exact fun z => nomatch z) at'
      refine js_forAt (M := M.lk d) (G := G) (Γ1 := Γ) (xs := zs) (E := E) (rr := rr) (Γ' := Γ') (fun R h => wiK_of (k _ .refl) hd (h _ G _ .refl sl (by rw [ez]; exact itm_dk kd hd wk rs))) hg hb e1 ?_
      cases rr with
      | nx => exact fun σ' G' H' pn g s' => p σ' G' _ pn g.unlock0 s'.unlock0
      | bk => exact fun σ' G' H' pn g s' => p σ' G' _ pn g.unlock0 s'.unlock0
      | ct => exact fun σ' G' H' pn g s' => p σ' G' _ pn g.unlock0 s'.unlock0
      | rt x => exact fun v σ' G' H' pn g s' => p v σ' G' _ pn g.unlock0 s'.unlock0
      | ex x => exact (nx x rfl).elim
def eCompK (kd : Kd) (P : Env → Option PV) (Tg : PV → Env → Option Env) (C S : ES) (vs : List Nat) : ES := fun Γ => match (P Γ).bind (itemsK kd) with
  | some xs => match compT Tg C S vs xs Γ with
    | some (.ok z, Γ1) => some (.ok z, Γ1)
    | _ => none
  | none => none
end
end FV

/-! frames: what is changed in place, but no slot that is written -/
namespace FV
open PySem PySem.Spec PyProof.Rows L2 Evl SB
def andM : List Bool → List Bool → List Bool
  | a :: as, b :: bs => (a && b) :: andM as bs
  | _, _ => []
theorem andM_getD : ∀ (as bs : List Bool) (i : Nat), (andM as bs).getD i false = (as.getD i false && bs.getD i false)
  | [], _, _ => by simp [andM]
  | _ :: _, [], _ => by simp [andM]
  | a :: as, b :: bs, 0 => by simp [andM]
  | a :: as, b :: bs, i + 1 => by simpa [andM] using andM_getD as bs i
section
variable {c : Ct} {E : L2.St → XK} {pins : List Bool} {te : TE} {tt : TT} {ts : TS} {S : ES} {A : SS}
theorem js_Wa (ms : List Bool) (h : JS c E (andM pins ms) ts A) : JS c E pins ts (sW ms A) := by
  intro M G H σ Γ Γ' r D s e p
  obtain ⟨M', s', _, back⟩ := s.lend ms
  have pin : ∀ {σ'}, Pin (andM pins ms) σ σ' → Pin pins σ σ' := fun z => ⟨z.1, fun i hi => z.2 i (by rw [andM_getD, hi, Bool.false_and])⟩
  have pim : ∀ {σ'}, Pin (andM pins ms) σ σ' → Pin ms σ σ' := fun z => ⟨z.1, fun i hi => z.2 i (by rw [andM_getD, hi, Bool.and_false])⟩
  unfold sW at e
  cases q : A (brwEx ms Γ) with
  | none => rw [q] at e; cases e
  | some o =>
    obtain ⟨o, Γ1⟩ := o
    rw [q] at e
    refine h s' q ?_
    simp only at e
    split at e
    · rename_i ok
      rw [Bool.and_eq_true] at ok
      cases e
      cases r with
      | nx => exact fun σ' G1 H1 z g s1 => let ⟨g2, s2⟩ := back g s1 ok.2 rfl (pim z); p σ' G1 H1 (pin z) g2 s2
      | bk => exact fun σ' G1 H1 z g s1 => let ⟨g2, s2⟩ := back g s1 ok.2 rfl (pim z); p σ' G1 H1 (pin z) g2 s2
      | ct => exact fun σ' G1 H1 z g s1 => let ⟨g2, s2⟩ := back g s1 ok.2 rfl (pim z); p σ' G1 H1 (pin z) g2 s2
      | rt x => exact fun v σ' G1 H1 z g s1 => let ⟨g2, s2⟩ := back g s1 ok.2 (by simp only [noBrws, Bool.and_true]; exact ok.1) (pim z); p v σ' G1 H1 (pin z) g2 s2
      | ex x =>
        intro σ' G1 H1 z g v d G2 H2 g' s1 hd
        obtain ⟨g2, s2⟩ := back (g.trans g') s1 ok.2 (by simp only [noBrws, Bool.and_true]; exact ok.1) (pim z)
        exact p σ' G H (pin z) .refl v d G2 H2 g2 s2 hd
    · cases e
end
end FV

/-! dict comprehensions -/
namespace FV
open PySem PySem.Spec PyProof.Rows L2 Evl SB
def compDF (Tg : PV → Env → Option Env) (C Sk Sv : ES) (vs : List Nat) : List PV → List Key → List PV → Env → Option (List Key × List PV × Env)
  | [], ks, acc, Γ => some (ks, acc, Γ)
  | x :: xs, ks, acc, Γ => match Tg x Γ with
    | none => none
    | some Γ1 => match C Γ1 with
      | some (.ok (.bl true), Γ2) => match Sk Γ2 with
        | some (.ok q, Γ3) => match keyOf q with
          | some k => match Sv Γ3 with
            | some (.ok y, Γ4) => compDF Tg C Sk Sv vs xs (putA k y ks acc).1 (putA k y ks acc).2 (wipeE Γ4 vs)
            | _ => none
          | none => none
        | _ => none
      | some (.ok (.bl false), Γ2) => compDF Tg C Sk Sv vs xs ks acc (wipeE Γ2 vs)
      | _ => none
section
variable {c : Ct} {E : L2.St → XK} {te ta tb tc tk tv : TE} {tA : TA} {tt : TT} {ts : TS} {S T C Sk Sv : ES} {A : SS} {AA : AS} {i : Nat} {pins ms : List Bool} {g : TG} {Tg : PV → Env → Option Env}
variable {M : Fm} {G H G' H' B : Hp} {σ σ' : L2.St} {Γ Γ' : Env} {us : List V} {ys : List PV}
end
end FV

/-! keywords; len(set(..)); isinstance of an own class -/
namespace FV
open PySem PySem.Spec PyProof.Rows L2 Evl SB
section
variable {X : Cx} {CX : CXT} {k n : Nat} {f C : Addr} {fd : FuncData} {ps ks : List Str} {sp : Sp} {E : XK} {m : Str} {p pos apos : Pos} {o e : Expr} {es : List Expr} {kws : List Keyword} {ta : TE} {t tk : TA} {g : List Value → List Value → List Value} {gV : List V → List V → List V}
end
section
variable {c : Ct} {E : L2.St → XK} {te ta tb tc tv : TE} {tA t tk : TA} {tt : TT} {ts : TS} {S T C Sk Sv : ES} {A : SS} {AA A1 A2 : AS} {i : Nat} {pins ms : List Bool} {g : TG} {Tg : PV → Env → Option Env}
variable {M : Fm} {G H G' H' B : Hp} {σ σ' : L2.St} {Γ Γ' : Env} {us : List V} {ys : List PV}
def tApp2 (n m : Nat) (t tk : TA) : TA := fun σ H Q => t σ H fun vs H1 => tk σ H1 fun zs H2 => vs.length = n ∧ zs.length = m ∧ Q (vs ++ zs) H2
def aApp (m : Nat) (A1 A2 : AS) : AS := fun Γ => match A1 Γ with
  | some (.ok xs, Γ1) => match A2 Γ1 with
    | some (.ok ys, Γ2) => if ys.length = m then some (.ok (xs ++ ys), Γ2) else none
    | some (.ex e, Γ2) => some (.ex e, Γ2)
    | none => none
  | some (.ex e, Γ1) => some (.ex e, Γ1)
  | none => none
theorem Mg.app {ds : List (Option Nat)} {ws vs zs : List V} {m : Nat} (h : Mg σ ds ws vs) (hz : zs.length = m) : Mg σ (ds ++ List.replicate m none) (ws ++ zs) (vs ++ zs) := by
  induction h with
  | nil =>
    subst hz
    induction zs with
    | nil => exact .nil
    | cons z zs ih => exact .val ih
  | slot a _ ih => exact .slot a ih
  | val _ ih => exact .val ih
theorem StX.hlen (s : StX c M G H σ Γ us ys) : us.length = ys.length := by obtain ⟨F1, F2, r, _⟩ := s; exact r.len
theorem jm_app {n m : Nat} {ds : List (Option Nat)} (h1 : JM' c E t ds A1) (h2 : JA c E tk A2) (hn : ds.length = n := by rfl) : JM' c E (tApp2 n m t tk) (ds ++ List.replicate m none) (aApp m A1 A2) := by
  intro M G H σ Γ Γ' r Q s e p
  show t σ H _
  unfold aApp at e
  cases q : A1 Γ with
  | none => rw [q] at e; cases e
  | some o =>
    obtain ⟨o, Γ1⟩ := o
    rw [q] at e
    refine h1 s q ?_
    cases o with
    | ex x => cases e; exact p
    | ok xs =>
      intro ws vs G1 H1 g s1 mg
      obtain ⟨F, rF, s2, back⟩ := s1.frame
      simp only at e
      cases q2 : A2 Γ1 with
      | none => rw [q2] at e; cases e
      | some o2 =>
        obtain ⟨o2, Γ2⟩ := o2
        rw [q2] at e
        refine h2 s2 q2 ?_
        cases o2 with
        | ok xs2 =>
          simp only at e
          split at e
          · rename_i hl
            cases e
            intro zs G2 H2 g2 s3
            have lz : zs.length = m := by rw [s3.hlen]; exact hl
            obtain ⟨g3, s4⟩ := back g2 s3
            exact ⟨by rw [mg.len]; exact hn, lz, p (ws ++ zs) (vs ++ zs) G2 H2 (g.trans g3) s4 (mg.app lz)⟩
          · cases e
        | ex x =>
          cases e
          exact XPos.frame p g rF.len back
theorem makeK_eq {C : Addr} {n m : Nat} {sp : Sp} {gV : List V → List V → List V} {E : XK} (h : gV = fun vs zs => vs ++ zs) : tMakeK C n m sp gV E t tk = tMake C sp [] E (tApp2 n m t tk) := by
  subst h
  funext σ H Q
  unfold tMakeK tMake tApp2
  simp only [List.append_nil, List.cons_append]
theorem je_makeK {n m N : Nat} {E0 : XK} {f : FT} {ds : List (Option Nat)} {C : Nat} {gV : List V → List V → List V} (h : JM' c (fun _ => E0) (tApp2 n m t tk) ds AA) (hn : ds.length + 1 = N := by rfl) (hg : gV = fun vs zs => vs ++ zs := by rfl) : JE c (fun _ => E0) (tMakeK (c.cm C) n m (spF c N f) gV E0 t tk) (eMake C f ds AA) := by
  rw [makeK_eq hg]
  exact je_make h hn
/-! ### len(set(..)) of texts -/
def pLenS : PV → Option PV
  | .tup xs => match strsOf xs with
    | some ss => if ss.length ≤ 1000 then some (.int (fcnt ss ss.length : Nat)) else none
    | none => none
  | .lst _ xs => match strsOf xs with
    | some ss => if ss.length ≤ 1000 then some (.int (fcnt ss ss.length : Nat)) else none
    | none => none
  | _ => none
theorem je_lenS (h : JE c E te S) : JE c E (teOr (tLenSetT c.K te) (tLenSetL c.K te)) (eUn pLenS S) := by
  intro M G H σ Γ Γ' rr Q s e p
  unfold eUn eThen at e
  cases q : S Γ with
  | none => rw [q] at e; cases e
  | some o =>
    obtain ⟨o, Γ1⟩ := o
    rw [q] at e
    cases o with
    | ex x => cases e; exact .inl (h s q p)
    | ok x =>
      simp only at e
      cases qz : pLenS x with
      | none => rw [qz] at e; cases e
      | some z =>
        rw [qz] at e
        cases e
        unfold pLenS at qz
        split at qz
        · rename_i xs
          split at qz
          · rename_i ss hss
            split at qz
            · rename_i hl
              cases qz
              refine .inl (h s q fun v G1 H1 g s1 => ?_)
              obtain ⟨F, r, _⟩ := s1.one
              obtain ⟨a, vs, rfl, _, hs, rs⟩ := r.seqT s1.gh
              have := strsOf_rps rs hss
              subst this
              exact ⟨a, ss, rfl, hs, hl, p _ G1 H1 g (s1.sc .int)⟩
            · cases qz
          · cases qz
        · rename_i o xs
          split at qz
          · rename_i ss hss
            split at qz
            · rename_i hl
              cases qz
              refine .inr (h s q fun v G1 H1 g s1 => ?_)
              obtain ⟨F, r, _⟩ := s1.one
              obtain ⟨a, vs, F', rfl, hs, rs, _⟩ := r.seqL s1.gh s1.bh
              have := strsOf_rps rs hss
              subst this
              exact ⟨a, ss, rfl, hs, hl, p _ G1 H1 g (s1.sc .int)⟩
            · cases qz
          · cases qz
        · cases qz
/-! ### isinstance of an own class -/
def pIsO (C : Nat) : PV → Option PV
  | .ins _ C' _ _ => if C' = C then some (.bl true) else none
  | _ => none
theorem je_isiO {C : Nat} (ty : ∀ {H : Hp} {a dx : Addr} {fs : List (Str × V)}, H a = some (.ins (c.cm C) dx fs) → TyX c.K H (.ref a) (.ref (c.cm C))) (h : JE c E te S) : JE c E (tCB (rIsi c.K) (tCons te (tCons (tC (.ref (c.cm C))) tNil))) (eUn (pIsO C) S) := by
  intro M G H σ Γ Γ' rr Q s e p
  unfold eUn eThen at e
  cases q : S Γ with
  | none => rw [q] at e; cases e
  | some o =>
    obtain ⟨o, Γ1⟩ := o
    rw [q] at e
    refine h s q ?_
    cases o with
    | ex x => cases e; exact p
    | ok x =>
      intro v G1 H1 g s1
      simp only [pIsO] at e
      split at e
      · rename_i o C' ns xs
        split at e
        · rename_i hC
          subst hC
          cases e
          obtain ⟨F, r, _⟩ := s1.one
          obtain ⟨a, dx, vs, F', rfl, hH, _⟩ := r.insOf s1.gh s1.bh
          exact ⟨_, _, _, _, true, rfl, .own _, ty hH, by unfold PySem.W.kitOne; rw [if_pos (by simp)], p _ G1 H1 g (s1.sc .bl)⟩
        · cases e
      · cases e
end
end FV

/-! self.f += k -/
namespace FV
open PySem PySem.Spec PyProof.Rows L2 Evl SB
section
variable {c : Ct} {E : L2.St → XK} {te : TE} {i : Nat} {pins : List Bool} {loc : Loc3} {pg : PV → Option PV} {ps : PV → PV → PV}
end
end FV

/-! d.get(k), x.index(y) -/
namespace FV
open PySem PySem.Spec PyProof.Rows L2 Evl SB
section
variable {c : Ct} {E : L2.St → XK} {te ta tb tk tv : TE} {tA : TA} {S T : ES} {AA : AS} {i : Nat} {pins ms : List Bool}
variable {M : Fm} {G H G' H' B : Hp} {σ σ' : L2.St} {Γ Γ' : Env}
/-- two values, neither raises -/
def eTwo (o : PV → PV → Option PV) (S T : ES) : ES := fun Γ => match S Γ with
  | some (.ok x, Γ1) => match T Γ1 with
    | some (.ok y, Γ2) => (o x y).map fun z => (.ok z, Γ2)
    | _ => none
  | _ => none
end
end FV

/-! sorted of tuples of ints and texts -/
namespace SB
open PySem PySem.Spec PyProof.Rows L2
/-- before -/
def ltK : L2.Key → L2.Key → Bool
  | .inl i, .inl j => decide (i < j)
  | .inr s, .inr t => decide (s.cps.toList < t.cps.toList)
  | .inl _, .inr _ => true
  | .inr _, .inl _ => false
def lexK : List L2.Key → List L2.Key → Bool
  | [], [] => false
  | [], _ :: _ => true
  | _ :: _, [] => false
  | k :: ks, l :: ls => if k = l then lexK ks ls else ltK k l
def shp : L2.Key → Bool
  | .inl _ => false
  | .inr _ => true
theorem ltK_irr (k : L2.Key) : ltK k k = false := by
  cases k with
  | inl i => simp [ltK]
  | inr s => simp [ltK]
theorem ltK_trans {k l m : L2.Key} (h : ltK k l = true) (h' : ltK l m = true) : ltK k m = true := by
  cases k <;> cases l <;> cases m <;> simp [ltK] at h h' ⊢
  · omega
  · exact List.lt_trans h h'
theorem ltK_tri (k l : L2.Key) : ltK k l = true ∨ k = l ∨ ltK l k = true := by
  cases k <;> cases l <;> simp [ltK]
  · omega
  · rename_i s t
    by_cases h : s.cps.toList < t.cps.toList
    · exact .inl h
    · by_cases h' : t.cps.toList < s.cps.toList
      · exact .inr (.inr h')
      · exact .inr (.inl (str_ext (List.le_antisymm h' h)))
theorem lexK_irr : ∀ a : List L2.Key, lexK a a = false
  | [] => rfl
  | k :: ks => by unfold lexK; rw [if_pos rfl]; exact lexK_irr ks
theorem lexK_trans : ∀ {a b c : List L2.Key}, lexK a b = true → lexK b c = true → lexK a c = true
  | [], [], _, h, _ => by cases h
  | [], _ :: _, [], _, h => by cases h
  | [], _ :: _, _ :: _, _, _ => rfl
  | _ :: _, [], _, h, _ => by cases h
  | _ :: _, _ :: _, [], _, h => by cases h
  | k :: ks, l :: ls, m :: ms, h, h' => by
    unfold lexK at h h' ⊢
    by_cases e : k = l
    · subst e
      rw [if_pos rfl] at h
      by_cases e' : k = m
      · subst e'
        rw [if_pos rfl] at h' ⊢
        exact lexK_trans h h'
      · rw [if_neg e'] at h' ⊢
        exact h'
    · rw [if_neg e] at h
      by_cases e' : l = m
      · subst e'
        rw [if_neg e]
        exact h
      · rw [if_neg e'] at h'
        have := ltK_trans h h'
        have ne : k ≠ m := fun z => by subst z; rw [ltK_irr] at this; cases this
        rw [if_neg ne]
        exact this
theorem lexK_tri : ∀ a b : List L2.Key, lexK a b = true ∨ a = b ∨ lexK b a = true
  | [], [] => .inr (.inl rfl)
  | [], _ :: _ => .inl rfl
  | _ :: _, [] => .inr (.inr rfl)
  | k :: ks, l :: ls => by
    unfold lexK
    by_cases e : k = l
    · subst e
      rw [if_pos rfl, if_pos rfl]
      rcases lexK_tri ks ls with h | h | h
      · exact .inl h
      · exact .inr (.inl (by rw [h]))
      · exact .inr (.inr h)
    · rw [if_neg e, if_neg (fun z => e z.symm)]
      rcases ltK_tri k l with h | h | h
      · exact .inl h
      · exact absurd h e
      · exact .inr (.inr h)
theorem lexK_asym {a b : List L2.Key} (h : lexK a b = true) : lexK b a = false := by
  cases q : lexK b a with
  | false => rfl
  | true => have := lexK_trans h q; rw [lexK_irr] at this; cases this
theorem lexK_neg {a b : List L2.Key} (h : lexK a b = false) : a = b ∨ lexK b a = true := by
  rcases lexK_tri a b with q | q | q
  · rw [h] at q; cases q
  · exact .inl q
  · exact .inr q
theorem lexK_le_trans {a b c : List L2.Key} (h : lexK b a = false) (h' : lexK c b = false) : lexK c a = false := by
  rcases lexK_neg h with e | h
  · subst e; exact h'
  · rcases lexK_neg h' with e | h'
    · subst e; exact lexK_asym h
    · exact lexK_asym (lexK_trans h h')
theorem swo_lexK {α : Type} (k : α → List L2.Key) : SrtO.Swo fun v u => lexK (k v) (k u) := ⟨fun _ _ h => lexK_asym h, fun _ _ _ h1 h2 => lexK_le_trans h1 h2⟩
/-! ### as the sort asks -/
/-- v is a tuple of the scalars ks -/
def IsTupK (h : Heap) (v : Value) (ks : List L2.Key) : Prop := ∃ a o us n, v = Value.ref a ∧ h.get? a = some o ∧ o.cls = .type "tuple" ∧ o.data = .seq us n ∧ Vals (ks.map kV) us.toList
theorem IsTupK.keeps {h h' : Heap} {v : Value} {ks : List L2.Key} (p : IsTupK h v ks) (k : ∀ b o, h.get? b = some o → o.cls = .type "tuple" → h'.get? b = some o) : IsTupK h' v ks := by
  obtain ⟨a, o, us, n, e, ho, hc, r⟩ := p
  exact ⟨a, o, us, n, e, k _ _ ho hc, hc, r⟩
section
variable {prog : Program} {w : World} {A : Around} {E : Value → Shared → Prop} {s : Shared}
theorem oneLt_K {k l : L2.Key} {u v : Value} (c : Bool) {Q : Bool → Shared → Prop} (hu : RelV (kV k) u) (hv : RelV (kV l) v) (sh : shp k = shp l) (h : Q (ltK k l) s) : wpAny (model prog w) A (oneLt' c u v) Q E s := by
  cases k with
  | inl i =>
    cases l with
    | inl j =>
      obtain ⟨t, rfl⟩ := hu
      obtain ⟨t', rfl⟩ := hv
      cases c with
      | true => exact oneLt_int h
      | false => exact PySem.W.kat_one _ _ (PyProof.Rows.lt_int (Q := PySem.W.BoolBack Q) h)
    | inr y => cases sh
  | inr x =>
    cases l with
    | inl j => cases sh
    | inr y =>
      obtain ⟨t, rfl⟩ := hu
      obtain ⟨t', rfl⟩ := hv
      cases c with
      | true => exact oneLt_str h
      | false => exact PySem.W.kat_one _ _ (PyProof.Rows.lt_str (Q := PySem.W.BoolBack Q) h)
theorem eqAt_K {k l : L2.Key} {u v : Value} (hu : RelV (kV k) u) (hv : RelV (kV l) v) (sh : shp k = shp l) : SeqAt.EqAt A s u v (decide (k = l)) := by
  cases k with
  | inl i =>
    cases l with
    | inl j =>
      obtain ⟨t, rfl⟩ := hu
      obtain ⟨t', rfl⟩ := hv
      have : decide ((Sum.inl i : L2.Key) = Sum.inl j) = (i == j) := by
        by_cases e : i = j
        · subst e; simp
        · have : (i == j) = false := by simpa using e
          rw [this]
          exact decide_eq_false fun z => e (Sum.inl.inj z)
      rw [this]
      exact SeqAt.EqAt.int_int i t j t'
    | inr y => cases sh
  | inr x =>
    cases l with
    | inl j => cases sh
    | inr y =>
      obtain ⟨t, rfl⟩ := hu
      obtain ⟨t', rfl⟩ := hv
      have : decide ((Sum.inr x : L2.Key) = Sum.inr y) = (x == y) := by
        by_cases e : x = y
        · subst e; simp
        · have : (x == y) = false := by simpa using e
          rw [this]
          exact decide_eq_false fun z => e (Sum.inr.inj z)
      rw [this]
      exact SeqAt.EqAt.str_str x t y t'
theorem lex_K {Q : Bool → Shared → Prop} : ∀ {ks ls : List L2.Key} {us vs : List Value} (i : Nat), Vals (ks.map kV) us → Vals (ls.map kV) vs → ks.map shp = ls.map shp → Q (lexK ks ls) s → PySem.W.KatLex prog w A true false Q (us.zip vs) i s
  | [], [], _, _, i, .nil, .nil, _, h => PySem.W.kat_nil h
  | [], _ :: _, _, _, i, _, _, e, _ => by cases e
  | _ :: _, [], _, _, i, _, _, e, _ => by cases e
  | k :: ks, l :: ls, _, _, i, .cons ru r, .cons rv r', e, h => by
    have e1 : shp k = shp l := by injection e
    have e2 : ks.map shp = ls.map shp := by injection e
    refine PySem.W.kat_cons (eqAt_K ru rv e1 prog w _ _ ?_)
    refine PySem.W.kat_go (fun q => ?_) (fun q => ?_)
    · have q := of_decide_eq_true q
      subst q
      refine PySem.W.kat_yes (lex_K (i + 1) r r' e2 ?_)
      unfold lexK at h
      rwa [if_pos rfl] at h
    · have q := of_decide_eq_false q
      refine PySem.W.kat_no (oneLt_K _ ru rv e1 ?_)
      unfold lexK at h
      rwa [if_neg q] at h
theorem tups_cmp {vs : List Value} {kk : Value → List L2.Key} {sh : List Bool} (hp : ∀ v ∈ vs, IsTupK s.heap v (kk v) ∧ (kk v).map shp = sh) : SrtO.Cmp prog w A s (tuples' true) (fun p => p.1 ∈ vs) (SrtO.lt2 fun v u => lexK (kk v) (kk u)) := by
  intro p q hm hm'
  obtain ⟨⟨a, o, us, n, e, ho, hc, hd, r⟩, s1⟩ := hp _ hm
  obtain ⟨⟨a', o', us', n', e', ho', hc', hd', r'⟩, s2⟩ := hp _ hm'
  show wpAny (model prog w) A (keyLt' (tuples' true) p.1 q.1) (fun r s' => s' = s ∧ r = lexK (kk p.1) (kk q.1)) (fun _ _ => False) s
  generalize kk p.1 = ks at s1 r ⊢
  generalize kk q.1 = ls at s2 r' ⊢
  rw [e, e']
  refine PySem.W.kat_lt ho hd ho' hd' ?_
  have l1 : us.size = us'.size := by
    have a1 := r.length
    have a2 := r'.length
    rw [List.length_map] at a1 a2
    have a3 := congrArg List.length (s1.trans s2.symm)
    rw [List.length_map, List.length_map] at a3
    rw [← Array.length_toList, ← Array.length_toList, ← a1, ← a2, a3]
  have : decide (us.size < us'.size) = false := decide_eq_false (by omega)
  rw [this]
  exact lex_K 0 r r' (s1.trans s2.symm) ⟨rfl, rfl⟩
theorem tups_firsts {h : Heap} {kk : Value → List L2.Key} {b : Bool} {sh : List Bool} : ∀ vs : List Value, (∀ v ∈ vs, IsTupK h v (kk v) ∧ (kk v).map shp = b :: sh) → ∃ fs : List Value, PySem.W.KatTups h vs fs ∧ fs.length = vs.length ∧ ∀ f ∈ fs, ∃ k : L2.Key, RelV (kV k) f ∧ shp k = b
  | [], _ => ⟨[], PySem.W.KatTups.nil, rfl, fun _ h => nomatch h⟩
  | v :: vs, hp => by
    obtain ⟨fs, h1, h2, h3⟩ := tups_firsts vs fun u hu => hp u (List.mem_cons_of_mem _ hu)
    obtain ⟨⟨a, o, us, n, rfl, ho, hc, hd, r⟩, sv⟩ := hp v (List.mem_cons_self ..)
    cases hk : kk (.ref a) with
    | nil => rw [hk] at sv; cases sv
    | cons k ks =>
      rw [hk] at sv r
      have es : shp k = b := by injection sv
      cases hu : us.toList with
      | nil => rw [hu] at r; cases r
      | cons f us' =>
        rw [hu] at r
        cases r with
        | cons rf rr =>
          refine ⟨f :: fs, PySem.W.KatTups.cons ho hc hd ?_ h1, by rw [List.length_cons, List.length_cons, h2], fun g hg => ?_⟩
          · rw [← Array.getElem?_toList, hu]; rfl
          · rcases List.mem_cons.mp hg with rfl | hg
            · exact ⟨k, rf, es⟩
            · exact h3 g hg
theorem tups_sortableO {a : Addr} {vs : List Value} {kk : Value → List L2.Key} {b : Bool} {sh : List Bool} (h0 : 0 < vs.length) (hp : ∀ v ∈ vs, IsTupK s.heap v (kk v) ∧ (kk v).map shp = b :: sh) (ha : ∀ o, s.heap.get? a = some o → o.cls ≠ .type "tuple") : SrtO.SortableO prog w A s a vs fun v u => lexK (kk v) (kk u) := by
  intro h' keep
  have hp' : ∀ v ∈ vs, IsTupK h' v (kk v) ∧ (kk v).map shp = b :: sh := fun v hm => ⟨(hp v hm).1.keeps fun b o e c => keep b o (fun z => by subst z; exact ha o e c) e, (hp v hm).2⟩
  obtain ⟨fs, h1, h2, h3⟩ := tups_firsts vs hp'
  refine ⟨tuples' true, fun Q E hq => ?_, tups_cmp hp'⟩
  cases b with
  | false =>
    refine PySem.W.kat_kind (T := .type "int") h1 (by omega) (fun f hm => ?_) (by rfl) ?_
    · obtain ⟨k, rk, ek⟩ := h3 f hm
      cases k with
      | inl i => obtain ⟨t, rfl⟩ := rk; exact PySem.W.Looks.now
      | inr x => cases ek
    · have e : (Value.type "int" != Value.type "tuple") = true := by first | decide +kernel | rfl | decide
      rw [e]
      exact hq
  | true =>
    refine PySem.W.kat_kind (T := .type "str") h1 (by omega) (fun f hm => ?_) (by rfl) ?_
    · obtain ⟨k, rk, ek⟩ := h3 f hm
      cases k with
      | inl i => cases ek
      | inr x => obtain ⟨t, rfl⟩ := rk; exact PySem.W.Looks.now
    · have e : (Value.type "str" != Value.type "tuple") = true := by first | decide +kernel | rfl | decide
      rw [e]
      exact hq
/-- sorted(l) of tuples of scalars of one shape, any number of them -/
theorem sorted_tups {l : Addr} {vs : List Value} {kk : Value → List L2.Key} {b : Bool} {sh : List Bool} {Q : Value → Shared → Prop} (hl : s.heap.IsList l vs.toArray) (hz : vs.length ≤ sizeLine) (hp : ∀ v ∈ vs, IsTupK s.heap v (kk v) ∧ (kk v).map shp = b :: sh)
    (h : ∀ (h' : Heap) (d : Addr) (out : List Value), SrtO.Srtd (fun v u => lexK (kk v) (kk u)) out → SrtO.Stb (fun v u => lexK (kk v) (kk u)) out vs → (∀ b o, s.heap.get? b = some o → h'.get? b = some o) → s.heap.objs.size ≤ d → (∃ n, h'.get? d = some (seqObj "list" out.toArray n)) → Q (.ref d) { s with heap := h' }) :
    wpAny (model prog w) A (call (.builtin "sorted") [.ref l]) Q E s := by
  refine SrtO.sorted_ord (swo_lexK kk) hl hz (fun h2 h₁ a ha kp => ?_) fun out hs hb => ?_
  · refine tups_sortableO (s := { s with heap := h₁ }) (by omega) (fun v hm => ⟨(hp v hm).1.keeps fun b o e _ => (kp b o e).2, (hp v hm).2⟩) fun o e => ?_
    have e' : some o = some (seqObj "list" vs.toArray 0) := e.symm.trans ha
    cases e'
    intro c
    exact absurd (Value.type.inj c) (by decide)
  · exact h _ _ out hs hb (fun b o e => sortedAll_old e) (Nat.le_succ _) (sortedAll_at s.heap vs out.toArray)
end
/-- sorted(xs), xs a list of tuples of scalars of one shape -/
def rSortedTup (K : PySem.W.Frag) : List V → Hp → VK → Prop := fun vs H Q => ∃ (a : Addr) (xs : List V) (kk : V → List L2.Key) (b : Bool) (sh : List Bool), vs = [V.ref a] ∧ SqL K H a xs ∧ (∀ x ∈ xs, (∃ t, x = V.ref t ∧ H t = some (.tup ((kk x).map kV))) ∧ (kk x).map shp = b :: sh) ∧
  ∀ ys p, (ys.map kk).Pairwise (fun x y => lexK y x = false) → ys.Perm xs → H p = none → Q (.ref p) (upd H p (.lst ys))
section
variable {X : Cx}
theorem cr_sortedTup : CallR X (.builtin "sorted") (rSortedTup X.K) := by
  intro pins s σ H vs us Q I r h
  obtain ⟨a, xs, k, b, sh, rfl, hs, hx, q⟩ := h
  obtain ⟨its, rv, hl, hz⟩ := I.list hs
  obtain ⟨u, rfl, ru⟩ := vals1 r
  obtain rfl : u = Value.ref a := ru
  obtain ⟨e1, e2⟩ := refs_back rv fun x m => by
    obtain ⟨⟨t, e, _⟩, _⟩ := hx x m
    exact ⟨t, e⟩
  refine sorted_tups (kk := fun u => k (backV u)) (b := b) (sh := sh) hl.isList (by rw [← rv.length]; exact hz) (fun v hv => ?_) fun h' d out h1 h2 kp hd hn => ?_
  · obtain ⟨t, rfl⟩ := e2 v hv
    have hm : V.ref t ∈ xs := by rw [e1]; exact List.mem_map.mpr ⟨_, hv, rfl⟩
    obtain ⟨⟨t', e, ht⟩, es⟩ := hx _ hm
    cases e
    obtain ⟨_, its2, r2, o, ho, hc, n, hd⟩ := I.hok _ _ ht
    exact ⟨⟨t, o, _, n, rfl, ho, hc, hd, r2⟩, es⟩
  · have h3 : ∀ u ∈ out, ∃ a, u = Value.ref a := fun u hu => e2 u (h2.perm.mem_iff.mp hu)
    obtain ⟨n, hn⟩ := hn
    have hb : (out.map backV).Perm xs := by
      rw [e1]
      exact h2.perm.map backV
    refine ⟨.ref d, upd H d (.lst (out.map backV)), I.laid (t' := s.toks) kp hd ⟨?_, out, n, vals_back h3, hn⟩, rfl, q _ d ?_ hb (I.hok.fresh hd)⟩
    · rw [hb.length_eq]
      exact hz
    · rw [List.map_map, List.pairwise_map]
      exact h1
end
end SB

/-! sorted(d.items()): keys and values ints and texts -/
namespace SB
open PySem PySem.Spec PyProof.Rows L2 L2.DX
section
variable {X : Cx}
abbrev entK (e : L2.Key × L2.Key) : L2.Key × V := (e.1, kV e.2)
end
end SB

/-! sorted of tuples; sorted(d.items()) -/
namespace FV
open PySem PySem.Spec PyProof.Rows L2 Evl SB
/-! ### the order -/
def insR (r : List Key) : List (List Key) → List (List Key)
  | [] => [r]
  | x :: xs => if lexK x r = true then x :: insR r xs else r :: x :: xs
def sortR (rs : List (List Key)) : List (List Key) := rs.foldr insR []
theorem insR_perm (r : List Key) : ∀ xs, (insR r xs).Perm (r :: xs)
  | [] => List.Perm.refl _
  | x :: xs => by
    unfold insR
    split
    · exact (List.Perm.cons x (insR_perm r xs)).trans (List.Perm.swap ..)
    · exact List.Perm.refl _
theorem sortR_perm : ∀ rs, (sortR rs).Perm rs
  | [] => List.Perm.refl _
  | r :: rs => (insR_perm r _).trans (List.Perm.cons r (sortR_perm rs))
theorem insR_pw {r : List Key} : ∀ {xs : List (List Key)}, xs.Pairwise (fun x y => lexK y x = false) → (insR r xs).Pairwise (fun x y => lexK y x = false)
  | [], _ => List.pairwise_singleton _ _
  | x :: xs, h => by
    obtain ⟨h1, h2⟩ := List.pairwise_cons.mp h
    unfold insR
    split
    · rename_i e
      refine List.pairwise_cons.mpr ⟨fun y hy => ?_, insR_pw h2⟩
      rcases List.mem_cons.mp ((insR_perm r xs).mem_iff.mp hy) with rfl | hy
      · exact lexK_asym e
      · exact h1 y hy
    · rename_i e
      have e : lexK x r = false := by cases q : lexK x r <;> simp_all
      refine List.pairwise_cons.mpr ⟨fun y hy => ?_, h⟩
      rcases List.mem_cons.mp hy with rfl | hy
      · exact e
      · exact lexK_le_trans e (h1 y hy)
theorem sortR_pw : ∀ rs, (sortR rs).Pairwise (fun x y => lexK y x = false)
  | [] => .nil
  | r :: rs => insR_pw (sortR_pw rs)
theorem sortR_eq {ys rs : List (List Key)} (p : ys.Perm rs) (h : ys.Pairwise (fun x y => lexK y x = false)) : ys = sortR rs :=
  List.Perm.eq_of_pairwise (fun a b _ _ h1 h2 => by
    rcases lexK_tri a b with q | q | q
    · rw [h2] at q; cases q
    · exact q
    · rw [h1] at q; cases q) h (sortR_pw rs) (p.trans (sortR_perm rs).symm)
def pvRow (ks : List Key) : PV := .tup (ks.map pvK)
def rowsOf : List PV → Option (List (List Key))
  | [] => some []
  | .tup ys :: xs => match keysOf ys, rowsOf xs with
    | some k, some r => some (k :: r)
    | _, _ => none
  | _ => none
/-- rows of one shape -/
def oneSh (rs : List (List Key)) : Bool := match rs with
  | [] => true
  | r :: _ => decide (r ≠ []) && rs.all fun x => decide (x.map shp = r.map shp)
theorem oneSh_ex {rs : List (List Key)} (h : oneSh rs = true) : ∃ b sh, ∀ r ∈ rs, r.map shp = b :: sh := by
  cases rs with
  | nil => exact ⟨true, [], fun r z => nomatch z⟩
  | cons r rs =>
    unfold oneSh at h
    rw [Bool.and_eq_true] at h
    have hr : r ≠ [] := of_decide_eq_true h.1
    cases r with
    | nil => exact absurd rfl hr
    | cons k ks =>
      refine ⟨shp k, ks.map shp, fun x hx => ?_⟩
      have := List.all_eq_true.mp h.2 x hx
      exact of_decide_eq_true this
def unK : V → Key
  | .int i => .inl i
  | .str s => .inr s
  | _ => .inl 0
theorem unK_kV (k : Key) : unK (kV k) = k := by cases k <;> rfl
theorem map_unK (ks : List Key) : (ks.map kV).map unK = ks := by
  rw [List.map_map]
  exact (List.map_congr_left fun k _ => unK_kV k).trans (List.map_id _)
section
variable {c : Ct} {E : L2.St → XK} {te : TE} {S : ES} {M : Fm} {G H G' H' B : Hp} {σ : L2.St} {Γ Γ' : Env} {us vs : List V} {ys : List PV}
def kkAt (H : Hp) : V → List Key
  | .ref a => match H a with
    | some (.tup ws) => ws.map unK
    | _ => []
  | _ => []
/-- rows: tuples of scalars -/
theorem rows_at (gh : GH G H) : ∀ {vs xs F rs}, Rps c G B H vs xs F → rowsOf xs = some rs → (∀ r ∈ rs, r ≠ []) → vs.map (kkAt H) = rs ∧ ∀ v ∈ vs, ∃ t, v = .ref t ∧ H t = some (.tup ((kkAt H v).map kV)) ∧ TpAt c G t ((kkAt H v).map kV)
  | _, _, _, _, .nil, h, _ => by cases h; exact ⟨rfl, fun v z => nomatch z⟩
  | _, x :: xs, _, rs, .cons r t, h, ne => by
    cases x <;> try (cases h; done)
    rename_i zs
    unfold rowsOf at h
    split at h
    · rename_i k rr hk hr
      cases h
      obtain ⟨a, ws, rfl, tp, _, rz⟩ := r.seqT gh
      have ew := keysOf_v rz hk
      subst ew
      have hH : H a = some (.tup (k.map kV)) := tp.at gh (by simpa using ne k (List.mem_cons_self ..))
      have ek : kkAt H (.ref a) = k := by
        show (match H a with | some (.tup ws) => ws.map unK | _ => []) = k
        rw [hH]
        exact map_unK k
      obtain ⟨i1, i2⟩ := rows_at gh t hr fun r hr => ne r (List.mem_cons_of_mem _ hr)
      refine ⟨by rw [List.map_cons, ek, i1], fun v hv => ?_⟩
      rcases List.mem_cons.mp hv with rfl | hv
      · exact ⟨a, rfl, by rw [ek]; exact hH, by rw [ek]; exact tp⟩
      · exact i2 v hv
    · cases h
theorem rps_rows : ∀ {vs : List V} {kk : V → List Key}, (∀ v ∈ vs, ∃ t, v = .ref t ∧ TpAt c G t ((kk v).map kV)) → Rps c G B H vs ((vs.map kk).map pvRow) []
  | [], _, _ => .nil
  | v :: vs, kk, h => by
    obtain ⟨t, rfl, tp⟩ := h v (List.mem_cons_self ..)
    exact .cons (F := []) (F' := []) (.tup tp (rps_keys _)) (rps_rows fun u hu => h u (List.mem_cons_of_mem _ hu))
def cSortT : List PV → Option PV
  | [.lst _ xs] => match rowsOf xs with
    | some rs => if oneSh rs = true then some (.lst .own ((sortR rs).map pvRow)) else none
    | none => none
  | _ => none
theorem jc_sortT : JC c (rSortedTup c.K) cSortT := by
  intro M G H σ Γ vs xs z Q s e p
  unfold cSortT at e
  split at e
  · rename_i o xs
    split at e
    · rename_i rs hrs
      split at e
      · rename_i hs
        cases e
        obtain ⟨F, r0, _⟩ := s.into
        obtain ⟨v, rfl, r1⟩ := one_of r0
        obtain ⟨a, ws, F', rfl, hq, rr, _⟩ := r1.seqL s.gh s.bh
        obtain ⟨b, sh, hsh⟩ := oneSh_ex hs
        obtain ⟨m1, m2⟩ := rows_at s.gh rr hrs fun r hr z => by have := hsh r hr; rw [z] at this; cases this
        refine ⟨a, ws, kkAt H, b, sh, rfl, hq, fun x hx => ?_, fun zs q pw pm hn => ?_⟩
        · obtain ⟨t, e1, e2, _⟩ := m2 x hx
          exact ⟨⟨t, e1, e2⟩, hsh _ (m1 ▸ List.mem_map.mpr ⟨x, hx, rfl⟩)⟩
        · have es : zs.map (kkAt H) = sortR rs := sortR_eq (by rw [← m1]; exact pm.map _) pw
          obtain ⟨F1, F2, _, t, w⟩ := s
          have s0 : StX c M G H σ Γ zs ((zs.map (kkAt H)).map pvRow) := ⟨[], F2, rps_rows fun v hv => by obtain ⟨t, e1, _, e3⟩ := m2 v (pm.mem_iff.mp hv); exact ⟨t, e1, e3⟩, t, w.right⟩
          rw [es] at s0
          exact p _ G _ (s0.goEx (Ex.new hn)) (s0.newL hn (Ex.new hn) upd_same)
      · cases e
    · cases e
  · cases e
end
def rSortU2 (K : PySem.W.Frag) : List V → Hp → VK → Prop := rcOr (rSortU K) (rSortedTup K)
def cSort2 : List PV → Option PV := ocOr cSort cSortT
theorem k_sortU2 {X : Cx} (K : PySem.W.Frag) (e : X.K = K) (hc : X.calm = true) : CallR X (.builtin "sorted") (rSortU2 K) := cr_or (k_sortU K e hc) (e ▸ cr_sortedTup)
theorem jc_sort2 {c : Ct} : JC c (rSortU2 c.K) cSort2 := jc_or jc_sort jc_sortT
end FV

/-! xs * k, del d[k] -/
namespace FV
open PySem PySem.Spec PyProof.Rows L2 Evl SB
section
variable {c : Ct} {E : L2.St → XK} {te tk : TE} {S Sk : ES} {i : Nat} {pins : List Bool} {loc : Loc3} {pg : PV → Option PV} {ps : PV → PV → PV} {M : Fm} {G H B : Hp} {σ : L2.St} {Γ Γ' : Env}
/-- xs * k -/
def oRep : PV → PV → Option PV
  | .lst o xs, .int k => if o ≠ .scr ∧ noOwns xs = true ∧ -(2 ^ 63) ≤ k ∧ k < 2 ^ 63 ∧ xs.length * k.toNat ≤ sizeLine then some (.lst .own (List.replicate k.toNat xs).flatten) else none
  | _, _ => none
theorem rps_rep {vs : List V} {xs : List PV} (r : Rps c G B H vs xs []) : ∀ n : Nat, Rps c G B H (List.replicate n vs).flatten (List.replicate n xs).flatten []
  | 0 => .nil
  | n + 1 => by
    rw [List.replicate_succ, List.replicate_succ, List.flatten_cons, List.flatten_cons]
    exact r.app (rps_rep r n)
theorem Rps.foot0s {G B H : Hp} : ∀ {vs xs F}, Rps c G B H vs xs F → noOwns xs = true → F = []
  | _, _, _, .nil, _ => rfl
  | _, _, _, .cons r t, h => by
    unfold noOwns at h
    rw [Bool.and_eq_true] at h
    rw [r.foot0 h.1, t.foot0s h.2]
    rfl
theorem jo_rep : JO c rRep oRep := by
  intro M G H σ Γ va vb x y z Q s e p
  obtain ⟨F1, F2, r1, r2, _⟩ := s.two
  unfold oRep at e
  split at e
  · rename_i o xs k
    split at e
    · rename_i hc
      cases e
      obtain ⟨h0, h1, h2, h3, h4⟩ := hc
      obtain ⟨a, vs, F', rfl, hH, rs, _⟩ := r1.lstAt s.gh s.bh h0
      have := rs.foot0s h1
      subst this
      have := rp_int r2
      subst this
      refine ⟨a, k, vs, rfl, rfl, hH, h2, h3, by rw [rs.len]; exact h4, fun q hq => ?_⟩
      obtain ⟨Fa, Fb, _, t, w⟩ := s
      have s0 : StX c M G H σ Γ (List.replicate k.toNat vs).flatten (List.replicate k.toNat xs).flatten := ⟨[], Fb, rps_rep rs _, t, w.right⟩
      exact p _ G _ (s0.goEx (Ex.new hq)) (s0.newL hq (Ex.new hq) upd_same)
    · cases e
  · cases e
end
end FV

/-! a slot is frozen ahead of a statement -/
namespace FV
open PySem PySem.Spec PyProof.Rows L2 Evl SB
section
variable {c : Ct} {E : L2.St → XK} {ts : TS} {A : SS} {i : Nat} {pins : List Bool} {M : Fm} {G H : Hp} {σ : L2.St} {Γ Γ' : Env} {x : PV}
def sFz (i : Nat) (A : SS) : SS := fun Γ => match Γ[i]? with
  | some (some x) => if noBrw x = true then A (Γ.set i (some (fz x))) else none
  | _ => none
end
end FV

/-! == and != of dicts of flat values, locked or not -/
namespace SB
open PySem PySem.Spec PyProof.Rows L2
def hitR (ls : List (L2.Key × V)) : List (L2.Key × V) → Bool
  | [] => true
  | (k, v) :: r => match valV ls k with
    | none => false
    | some y => eqV v y && hitR ls r
theorem valV_flat {ls : List (L2.Key × V)} {k : L2.Key} {y : V} (h : valV ls k = some y) (f : ∀ p ∈ ls, flatV p.2 = true) : flatV y = true := by
  unfold valV at h
  cases q : ls.find? (fun p => p.1 = k) with
  | none => simp [q] at h
  | some p =>
    simp [q] at h
    subst h
    exact f p (List.mem_of_find?_eq_some q)
theorem hits_of {A : Around} {s : Shared} {ls : List (L2.Key × V)} {vb : List (L2.Key × Value)} (rb : KV ls vb) (fl : ∀ p ∈ ls, flatV p.2 = true) {ks : List (L2.Key × V)} {va : List (L2.Key × Value)} (ra : KV ks va) :
    (∀ p ∈ ks, flatV p.2 = true) → PySem.W.KeqHits A s vb va (hitR ls ks) := by
  unfold KV at ra
  induction ra with
  | nil => intro _; exact .nil
  | @cons p q ps qs h t ih =>
    intro hp
    obtain ⟨h1, h2⟩ := h
    have f := hp p List.mem_cons_self
    have rr := rb.val p.1
    obtain ⟨k, v⟩ := q
    obtain ⟨k', v'⟩ := p
    have h1' : k' = k := h1
    subst h1'
    unfold hitR
    cases qv : valV ls k' with
    | none =>
      simp only [qv] at rr ⊢
      exact .miss rr.none_of
    | some y =>
      simp only [qv] at rr ⊢
      obtain ⟨z, hz, rz⟩ := rr.some_of
      exact .hit hz (eqAt_V h2 rz f (valV_flat qv fl)) (ih fun p' hm => hp p' (List.mem_cons_of_mem _ hm))
section
variable {X : Cx}
def rEqDF (neg : Bool) : R2 := fun x y H Q => ∃ a b ks ls, x = .ref a ∧ y = .ref b ∧ Rd H a (.dK ks) ∧ Rd H b (.dK ls) ∧ (∀ p ∈ ks, flatV p.2 = true) ∧ (∀ p ∈ ls, flatV p.2 = true) ∧ Q (.bl (if neg then !(ks.length == ls.length && hitR ls ks) else (ks.length == ls.length && hitR ls ks))) H
theorem op_eqDF (hu : X.A.units + 64 < cLine) : OpR X (compareOp .Eq) (rEqDF false) := by
  intro pins s σ H x y v u Q I rx ry h
  obtain ⟨a, b, ks, ls, rfl, rfl, ea, eb, f1, f2, q⟩ := h
  obtain rfl : v = Value.ref a := rx
  obtain rfl : u = Value.ref b := ry
  obtain ⟨_, ya, va, ra, da⟩ := dk_rd I.hok ea
  obtain ⟨_, yb, vb, rb, db⟩ := dk_rd I.hok eb
  refine PySem.W.keq_eq (knd := mixKind X.prog X.w) (r := hitR ls ks) ya yb da db (by omega) (fun _ => hits_of rb f2 ra f1) (fin_bl I q (by simp [ra.length, rb.length]))
theorem op_neDF (hu : X.A.units + 64 < cLine) : OpR X (compareOp .NotEq) (rEqDF true) := by
  intro pins s σ H x y v u Q I rx ry h
  obtain ⟨a, b, ks, ls, rfl, rfl, ea, eb, f1, f2, q⟩ := h
  obtain rfl : v = Value.ref a := rx
  obtain rfl : u = Value.ref b := ry
  obtain ⟨_, ya, va, ra, da⟩ := dk_rd I.hok ea
  obtain ⟨_, yb, vb, rb, db⟩ := dk_rd I.hok eb
  refine PySem.W.keq_ne (knd := mixKind X.prog X.w) (r := hitR ls ks) ya yb da db (by omega) (fun _ => hits_of rb f2 ra f1) (fin_bl I q (by simp [ra.length, rb.length]))
end
end SB

/-! == of dicts -/
namespace FV
open PySem PySem.Spec PyProof.Rows L2 Evl SB
/-- flat values -/
def flOf : PV → Option V
  | .non => some .non
  | .bl b => some (.bl b)
  | .int i => some (.int i)
  | .str s => some (.str s)
  | _ => none
def flsOf : List PV → Option (List V)
  | [] => some []
  | x :: xs => match flOf x, flsOf xs with
    | some v, some vs => some (v :: vs)
    | _, _ => none
theorem flOf_flat {x : PV} {v : V} (h : flOf x = some v) : flatV v = true := by cases x <;> cases h <;> rfl
theorem flsOf_flat : ∀ {xs : List PV} {vs : List V}, flsOf xs = some vs → ∀ v ∈ vs, flatV v = true
  | [], _, h => by cases h; exact fun v z => nomatch z
  | x :: xs, _, h => by
    unfold flsOf at h
    split at h
    · rename_i v vs hv hvs
      cases h
      intro w hw
      rcases List.mem_cons.mp hw with rfl | hw
      · exact flOf_flat hv
      · exact flsOf_flat hvs w hw
    · cases h
section
variable {c : Ct} {G H B : Hp}
theorem flOf_rp {v w : V} {x : PV} {F : List Addr} (r : Rp c G B H v x F) (h : flOf x = some w) : v = w := by
  cases x <;> cases h <;> exact r.toV rfl
theorem flsOf_rps : ∀ {vs xs F} {ws : List V}, Rps c G B H vs xs F → flsOf xs = some ws → vs = ws
  | _, _, _, _, .nil, h => by cases h; rfl
  | _, _, _, _, .cons r t, h => by
    unfold flsOf at h
    split at h
    · rename_i v vs hv hvs
      cases h
      rw [flOf_rp r hv, flsOf_rps t hvs]
    · cases h
def oEqDk (neg : Bool) : PV → PV → Option PV
  | .dk _ ks xs, .dk _ ls ys => match flsOf xs, flsOf ys with
    | some vs, some ws => some (.bl (if neg then !((ks.zip vs).length == (ls.zip ws).length && hitR (ls.zip ws) (ks.zip vs)) else ((ks.zip vs).length == (ls.zip ws).length && hitR (ls.zip ws) (ks.zip vs))))
    | _, _ => none
  | _, _ => none
theorem jo_eqDk {neg : Bool} : JO c (rEqDF neg) (oEqDk neg) := by
  intro M G H σ Γ va vb x y z Q s e p
  obtain ⟨F1, F2, r1, r2, k⟩ := s.two
  unfold oEqDk at e
  split at e
  · rename_i o ks xs o' ls ys
    split at e
    · rename_i vs ws hv hw
      cases e
      obtain ⟨a, vs', F', rfl, ra, _, rs, _⟩ := r1.dkOf s.gh s.bh
      obtain ⟨b, ws', F2', rfl, rb, _, rt, _⟩ := r2.dkOf s.gh s.bh
      have := flsOf_rps rs hv
      subst this
      have := flsOf_rps rt hw
      subst this
      exact ⟨a, b, _, _, rfl, rfl, ra, rb, fun p hp => flsOf_flat hv _ (List.of_mem_zip hp).2, fun p hp => flsOf_flat hw _ (List.of_mem_zip hp).2, p _ G H .refl (s.sc .bl)⟩
    · cases e
  · cases e
end
def oEq2 (neg : Bool) : PV → PV → Option PV := oOr (oEq neg) (oEqDk neg)
theorem k_eqU2 {X : Cx} (K : PySem.W.Frag) (e : X.K = K) (hu : X.A.units + 64 < cLine) : OpR X (compareOp .Eq) (r2Or (r2Or rEq (rEqD K)) (rEqDF false)) := op_or (k_eqU K e hu) (op_eqDF hu)
theorem k_neU2 {X : Cx} (K : PySem.W.Frag) (e : X.K = K) (hu : X.A.units + 64 < cLine) : OpR X (compareOp .NotEq) (r2Or (r2Or rNe (rNeD K)) (rEqDF true)) := op_or (k_neU K e hu) (op_neDF hu)
theorem jo_eq2 {c : Ct} : JO c (r2Or (r2Or rEq (rEqD c.K)) (rEqDF false)) (oEq2 false) := jo_or2 jo_eq jo_eqDk
theorem jo_ne2 {c : Ct} : JO c (r2Or (r2Or rNe (rNeD c.K)) (rEqDF true)) (oEq2 true) := jo_or2 jo_ne jo_eqDk
end FV

/-! dicts with tuple keys: items walked (locked) -/
namespace SB
open PySem PySem.Spec PyProof.Rows L2 L2.DX
section
variable {X : Cx} {pins : List (Addr × Obj)} {σ : L2.St} {H : Hp} {s : Shared} {d : Addr} {o : Obj}
end
section
variable {P : Program} {w : World} {K : PySem.W.Frag} {d : Addr} {o : Obj} {es : Array DictEntry} {ep : Nat}
end
section
variable {X : Cx} {e : Expr} {td : TE} {apos cpos : Pos}
end
end SB

/-! dicts with tuple keys walked -/
namespace FV
open PySem PySem.Spec PyProof.Rows L2 Evl SB
section
variable {c : Ct} {E : L2.St → XK} {te ta tb tc tk tv : TE} {tA : TA} {tt : TT} {ts : TS} {S T C Sk Sv : ES} {A : SS} {AA : AS} {i : Nat} {pins ms : List Bool} {g : TG} {Tg : PV → Env → Option Env}
/-! ### either kind of keys -/
end
end FV

/-! {k: v for ..} whose keys are tuples of scalars: the loop in its block, then the block -/
namespace SB
open PySem PySem.Spec PyProof.Rows L2
section
variable {Y : Cx} {τ σ : L2.St} {K : Hp} {z : Shared} {D it : Addr} {ks : List Addr} {tn : Nat → Heap → Prop} {J : It} {tg : Expr} {W : Nat → Nat → Hp → Prop} {vs : List Nat}
end
section
variable {X : Cx}
end
end SB

/-! dict comprehensions with tuples for keys -/
namespace FV
open PySem PySem.Spec PyProof.Rows L2 Evl SB
/-- a tuple of scalars, not empty -/
def keyT : PV → Option (List Key)
  | .tup ys => match keysOf ys with
    | some (k :: r) => some (k :: r)
    | _ => none
  | _ => none
def compDF2 (Tg : PV → Env → Option Env) (C Sk Sv : ES) (vs : List Nat) : List PV → List (List Key) → List PV → Env → Option (List (List Key) × List PV × Env)
  | [], ks, acc, Γ => some (ks, acc, Γ)
  | x :: xs, ks, acc, Γ => match Tg x Γ with
    | none => none
    | some Γ1 => match C Γ1 with
      | some (.ok (.bl true), Γ2) => match Sk Γ2 with
        | some (.ok q, Γ3) => match keyT q with
          | some k => match Sv Γ3 with
            | some (.ok y, Γ4) => compDF2 Tg C Sk Sv vs xs (putA k y ks acc).1 (putA k y ks acc).2 (wipeE Γ4 vs)
            | _ => none
          | none => none
        | _ => none
      | some (.ok (.bl false), Γ2) => compDF2 Tg C Sk Sv vs xs ks acc (wipeE Γ2 vs)
      | _ => none
section
variable {c : Ct} {E : L2.St → XK} {te ta tb tc tk tv : TE} {tA : TA} {tt : TT} {ts : TS} {S T C Sk Sv : ES} {A : SS} {AA : AS} {i : Nat} {pins ms : List Bool} {g : TG} {Tg : PV → Env → Option Env}
variable {M : Fm} {G H G' H' B : Hp} {σ σ' : L2.St} {Γ Γ' : Env} {us : List V} {ys : List PV}
end
end FV

/-! {k: v, ..} -/
namespace FV
open PySem PySem.Spec PyProof.Rows L2 Evl SB
section
variable {c : Ct} {E : L2.St → XK} {tk tv : TE} {trs : List (TE × TE)} {Sk Sv : ES} {A : AS} {M : Fm} {G H : Hp} {σ : L2.St} {Γ Γ' : Env}
end
end FV

/-! x is True, x is not True -/
namespace SB
open PySem PySem.Spec PyProof.Rows L2
section
variable {X : Cx}
end
end SB

/-! is True -/
namespace FV
open PySem PySem.Spec PyProof.Rows L2 Evl SB
section
variable {c : Ct}
end
end FV

/-! x = {k: v for ..} -/
namespace SB
open PySem PySem.Spec PyProof.Rows L2
section
variable {X : Cx}
end
end SB


/-! what the printed functions do, said by wishes: simp steps them -/
namespace FV
open PySem PySem.Spec PyProof.Rows L2 Evl SB
/-- a thing of no weight whose type names what simp shall not look into -/
structure Tok {α : Sort u} {β : Sort v} (a : α) (b : β) : Type where
@[irreducible] def wO (o : Option PV) (P : PV → Prop) (_ : Tok P P := ⟨⟩) : Prop := match o with
  | some z => P z
  | none => False
@[irreducible] def wL (o : Option (List PV)) (P : List PV → Prop) (_ : Tok P P := ⟨⟩) : Prop := match o with
  | some z => P z
  | none => False
@[irreducible] def wV (o : Option (Option PV)) (P : PV → Prop) (_ : Tok P P := ⟨⟩) : Prop := match o with
  | some (some z) => P z
  | _ => False
@[irreducible] def wB (x : PV) (A B : Prop) (_ : Tok A B := ⟨⟩) : Prop := match x with
  | .bl true => A
  | .bl false => B
  | _ => False
@[irreducible] def wG (o : Option Env) (P : Env → Prop) (_ : Tok P P := ⟨⟩) : Prop := match o with
  | some z => P z
  | none => False
@[irreducible] def wT (o : Option (List PV × Env)) (P : List PV → Env → Prop) (_ : Tok P P := ⟨⟩) : Prop := match o with
  | some (z, Γ) => P z Γ
  | none => False
@[irreducible] def wE (S : ES) (Γ : Env) (P : PV → Env → Prop) (X : Xn → Env → Prop) (_ : Tok P X := ⟨⟩) : Prop := match S Γ with
  | some (.ok x, Γ') => P x Γ'
  | some (.ex e, Γ') => X e Γ'
  | none => False
@[irreducible] def wA (S : AS) (Γ : Env) (P : List PV → Env → Prop) (X : Xn → Env → Prop) (_ : Tok P X := ⟨⟩) : Prop := match S Γ with
  | some (.ok x, Γ') => P x Γ'
  | some (.ex e, Γ') => X e Γ'
  | none => False
@[irreducible] def wS (S : SS) (Γ : Env) (N : Env → Prop) (R : PV → Env → Prop) (X : Xn → Env → Prop) (_ : Tok N (Tok R X) := ⟨⟩) : Prop := match S Γ with
  | some (.nx, Γ') => N Γ'
  | some (.rt x, Γ') => R x Γ'
  | some (.ex e, Γ') => X e Γ'
  | _ => False
@[irreducible] def wF (f : FT) (xs : List PV) (P : PV → List PV → Prop) (X : Xn → List PV → Prop) (_ : Tok P X := ⟨⟩) : Prop := match f xs with
  | some (.ok x, ys) => P x ys
  | some (.ex e, ys) => X e ys
  | none => False
section
variable {S T A B C : ES} {SA TA : AS} {Γ : Env} {P : PV → Env → Prop} {PA : List PV → Env → Prop} {X : Xn → Env → Prop} {U W : SS} {N : Env → Prop} {R : PV → Env → Prop} {f : FT}
theorem wE_ext {P P' : PV → Env → Prop} (h : ∀ x Γ, P x Γ = P' x Γ) : wE S Γ P X = wE S Γ P' X := by
  have : P = P' := funext fun x => funext fun Γ => h x Γ
  subst this
  rfl
/-! values -/
theorem wO_some {z : PV} {P : PV → Prop} : wO (some z) P = P z := by with_unfolding_all rfl
theorem wL_some {z : List PV} {P : List PV → Prop} : wL (some z) P = P z := by with_unfolding_all rfl
theorem wV_some {z : PV} {P : PV → Prop} : wV (some (some z)) P = P z := by with_unfolding_all rfl
theorem wG_some {z : Env} {P : Env → Prop} : wG (some z) P = P z := by with_unfolding_all rfl
theorem wT_some {z : List PV} {Γ : Env} {P : List PV → Env → Prop} : wT (some (z, Γ)) P = P z Γ := by with_unfolding_all rfl
theorem wB_true {A B : Prop} : wB (.bl true) A B = A := by with_unfolding_all rfl
theorem wB_false {A B : Prop} : wB (.bl false) A B = B := by with_unfolding_all rfl
theorem wB_of {b : Bool} {A B : Prop} (h : b = true → A) (k : b = false → B) : wB (.bl b) A B := by
  cases b
  · rw [wB_false]
    exact k rfl
  · rw [wB_true]
    exact h rfl
theorem wB_dec {p : Prop} [Decidable p] {A B : Prop} (h : p → A) (k : ¬ p → B) : wB (.bl (decide p)) A B := wB_of (fun e => h (of_decide_eq_true e)) fun e => k (of_decide_eq_false e)
theorem wE_C {x : PV} : wE (eC x) Γ P X = P x Γ := by with_unfolding_all rfl
theorem wE_Var {i : Nat} : wE (eVar i) Γ P X = wV Γ[i]? (fun x => noOwn x = true ∧ P x Γ) := by
  unfold wE eVar wV
  rcases Γ[i]? with _ | _ | x
  · with_unfolding_all rfl
  · with_unfolding_all rfl
  · dsimp only
    cases noOwn x <;> simp
theorem wE_Move {i : Nat} : wE (eMove i) Γ P X = wV Γ[i]? (fun x => P x (Γ.set i none)) := by
  unfold wE eMove wV
  rcases Γ[i]? with _ | _ | x <;> with_unfolding_all rfl
theorem wE_Then {k : PV → ES} : wE (eThen S k) Γ P X = wE S Γ (fun x Γ1 => wE (k x) Γ1 P X) X := by
  unfold wE eThen
  rcases S Γ with _ | ⟨_ | _, _⟩ <;> with_unfolding_all rfl
theorem wE_map {o : Option PV} : wE (fun Γ => o.map fun z => (.ok z, Γ)) Γ P X = wO o fun z => P z Γ := by
  unfold wE wO
  cases o <;> with_unfolding_all rfl
theorem wE_Op {o : PV → PV → Option PV} : wE (eOp o S T) Γ P X = wE S Γ (fun x Γ1 => wE T Γ1 (fun y Γ2 => wO (o x y) fun z => P z Γ2) X) X := by
  unfold eOp
  rw [wE_Then]
  refine wE_ext fun x Γ1 => ?_
  rw [wE_Then]
  exact wE_ext fun y Γ2 => wE_map
theorem wE_Un {o : PV → Option PV} : wE (eUn o S) Γ P X = wE S Γ (fun x Γ1 => wO (o x) fun z => P z Γ1) X := by
  unfold eUn
  rw [wE_Then]
  exact wE_ext fun x Γ1 => wE_map
theorem wE_Fld {c : Nat} {s : Str} : wE (eFld c s S) Γ P X = wE S Γ (fun x Γ1 => wO (pFld c s x) fun z => P z Γ1) X := wE_Un
theorem wE_Fz : wE (eFz S) Γ P X = wE S Γ (fun x Γ1 => wO (fzv x) fun z => P z Γ1) X := by
  unfold eFz
  rw [wE_Then]
  exact wE_ext fun x Γ1 => wE_map
theorem wE_CB {o : List PV → Option PV} : wE (eCB o SA) Γ P X = wA SA Γ (fun xs Γ1 => wO (o xs) fun z => P z Γ1) X := by
  unfold wE eCB wA wO
  rcases SA Γ with _ | ⟨_ | _, _⟩
  · with_unfolding_all rfl
  · dsimp only
    cases o _ <;> with_unfolding_all rfl
  · with_unfolding_all rfl
theorem wE_If : wE (eIf C A B) Γ P X = wE C Γ (fun x Γ1 => wB x (wE A Γ1 P X) (wE B Γ1 P X)) X := by
  unfold eIf
  rw [wE_Then]
  refine wE_ext fun x Γ1 => ?_
  unfold wB
  rcases x with _ | (_ | _) | _ | _ | _ | _ | _ | _ | _ | _ | _ <;> with_unfolding_all rfl
theorem wE_Not : wE (eNot S) Γ P X = wE S Γ (fun x Γ1 => wB x (P (.bl false) Γ1) (P (.bl true) Γ1)) X := by
  unfold eNot
  rw [wE_Then]
  refine wE_ext fun x Γ1 => ?_
  unfold wB
  rcases x with _ | (_ | _) | _ | _ | _ | _ | _ | _ | _ | _ | _ <;> with_unfolding_all rfl
theorem wE_And : wE (eAnd S T) Γ P X = wE S Γ (fun x Γ1 => wB x (wE T Γ1 P X) (P (.bl false) Γ1)) X := by
  unfold eAnd
  rw [wE_Then]
  refine wE_ext fun x Γ1 => ?_
  unfold wB
  rcases x with _ | (_ | _) | _ | _ | _ | _ | _ | _ | _ | _ | _ <;> with_unfolding_all rfl
theorem wE_OrB : wE (eOrB S T) Γ P X = wE S Γ (fun x Γ1 => wB x (P (.bl true) Γ1) (wE T Γ1 P X)) X := by
  unfold eOrB
  rw [wE_Then]
  refine wE_ext fun x Γ1 => ?_
  unfold wB
  rcases x with _ | (_ | _) | _ | _ | _ | _ | _ | _ | _ | _ | _ <;> with_unfolding_all rfl
theorem wE_Q : wE (eQ S) Γ P X = wE S Γ P (fun _ _ => False) := by
  unfold wE eQ
  rcases S Γ with _ | ⟨_ | _, _⟩ <;> with_unfolding_all rfl
theorem wE_Chain {o o' : PV → PV → Option PV} : wE (eChain o o' A B C) Γ P X = wE A Γ (fun x Γ1 => wE B Γ1 (fun y Γ2 => wO (o x y) fun z => wB z (wE C Γ2 (fun z Γ3 => wO (o' y z) fun w => P w Γ3) X) (P (.bl false) Γ2)) X) X := by
  unfold eChain
  rw [wE_Then]
  refine wE_ext fun x Γ1 => ?_
  rw [wE_Then]
  refine wE_ext fun y Γ2 => ?_
  cases o x y with
  | none => with_unfolding_all rfl
  | some z =>
    rcases z with _ | (_ | _) | _ | _ | _ | _ | _ | _ | _ | _ | _
    all_goals first
      | with_unfolding_all rfl
      | (show wE (eThen C fun z Γ1 => (o' y z).map fun w => (.ok w, Γ1)) Γ2 P X = _
         rw [wE_Then]
         simp only [wO_some, wB_true]
         exact wE_ext fun z Γ3 => wE_map)
theorem wE_NoN : wE (eNoN S) Γ P X = wE S Γ (fun x Γ1 => isNo x = false ∧ P x Γ1) X := by
  unfold eNoN
  rw [wE_Then]
  refine wE_ext fun x Γ1 => ?_
  unfold wE
  cases isNo x <;> simp
def slOf (x l u : PV) : Option PV := match parts l, parts u with
  | some lo, some hi => cutOf x lo hi
  | _, _ => none
theorem wE_Sl : wE (eSl S A B) Γ P X = wE S Γ (fun x Γ1 => wE A Γ1 (fun l Γ2 => wL (match parts l with | some _ => some [] | none => none) fun _ => wE B Γ2 (fun u Γ3 => wO (slOf x l u) fun z => P z Γ3) X) X) X := by
  unfold eSl
  rw [wE_Then]
  refine wE_ext fun x Γ1 => ?_
  rw [wE_Then]
  refine wE_ext fun l Γ2 => ?_
  unfold slOf
  cases parts l with
  | none => with_unfolding_all rfl
  | some lo =>
    dsimp only
    show wE (eThen B _) Γ2 P X = _
    rw [wE_Then, wL_some]
    refine wE_ext fun u Γ3 => ?_
    cases parts u with
    | none => with_unfolding_all rfl
    | some hi => exact wE_map
theorem wE_Two {o : PV → PV → Option PV} (P : PV → Env → Prop) : wE (eTwo o S T) Γ P X = wE S Γ (fun x Γ1 => wE T Γ1 (fun y Γ2 => wO (o x y) fun z => P z Γ2) fun _ _ => False) fun _ _ => False := by
  unfold wE eTwo
  rcases S Γ with _ | ⟨_ | _, Γ1⟩
  · with_unfolding_all rfl
  · dsimp only
    rcases T Γ1 with _ | ⟨_ | _, Γ2⟩
    · with_unfolding_all rfl
    · dsimp only
      cases o _ _ <;> with_unfolding_all rfl
    · with_unfolding_all rfl
  · with_unfolding_all rfl
/-! lists of values -/
theorem wA_Nil : wA aNil Γ PA X = PA [] Γ := by with_unfolding_all rfl
theorem wA_Cons : wA (aCons S TA) Γ PA X = wE S Γ (fun x Γ1 => wA TA Γ1 (fun xs Γ2 => PA (x :: xs) Γ2) X) X := by
  unfold wA wE aCons
  rcases S Γ with _ | ⟨_ | _, Γ1⟩
  · with_unfolding_all rfl
  · dsimp only
    rcases TA Γ1 with _ | ⟨_ | _, Γ2⟩ <;> with_unfolding_all rfl
  · with_unfolding_all rfl
theorem wA_Slot {i : Nat} : wA (aSlot i SA) Γ PA X = wV Γ[i]? (fun _ => wA SA Γ PA X) := by
  unfold wA aSlot wV
  rcases Γ[i]? with _ | _ | x <;> with_unfolding_all rfl
theorem wA_App {m : Nat} : wA (aApp m SA TA) Γ PA X = wA SA Γ (fun xs Γ1 => wA TA Γ1 (fun ys Γ2 => ys.length = m ∧ PA (xs ++ ys) Γ2) X) X := by
  unfold wA aApp
  rcases SA Γ with _ | ⟨_ | _, Γ1⟩
  · with_unfolding_all rfl
  · dsimp only
    rcases TA Γ1 with _ | ⟨ys | _, Γ2⟩
    · with_unfolding_all rfl
    · dsimp only
      by_cases h : ys.length = m <;> simp [h]
    · with_unfolding_all rfl
  · with_unfolding_all rfl
theorem wA_Star : wA (aStar S TA) Γ PA X = wE S Γ (fun x Γ1 => wL (itemsOf x) fun zs => wA TA Γ1 (fun ys Γ2 => PA (zs ++ ys) Γ2) X) X := by
  unfold wA wE aStar wL
  rcases S Γ with _ | ⟨x | _, Γ1⟩
  · with_unfolding_all rfl
  · dsimp only
    cases itemsOf x with
    | none => with_unfolding_all rfl
    | some zs =>
      dsimp only
      rcases TA Γ1 with _ | ⟨ys | _, Γ2⟩ <;> with_unfolding_all rfl
  · with_unfolding_all rfl
/-- what is walked of a thing -/
def itmF (g : PV → Option (List PV)) (x : PV) : Option (List PV) := if noOwn x = true then g x else if noBrw x = true then g (fz x) else none
theorem wA_src {g : PV → Option (List PV)} : wA (src g S) Γ PA X = wE S Γ (fun x Γ1 => wL (itmF g x) fun xs => PA xs Γ1) X := by
  unfold wA wE src itmF wL
  rcases S Γ with _ | ⟨x | _, Γ1⟩
  · with_unfolding_all rfl
  · dsimp only
    cases noOwn x
    · cases noBrw x
      · simp
      · simp only [Bool.false_eq_true, if_false, if_true]
        cases g (fz x) <;> with_unfolding_all rfl
    · simp only [if_true]
      cases g x <;> with_unfolding_all rfl
  · with_unfolding_all rfl
def r1Of : List PV → Option (List PV)
  | [.int j] => if -(2 ^ 62) ≤ j ∧ j < 2 ^ 62 then some (rngP 0 j.toNat) else none
  | _ => none
def r2Of : List PV → Option (List PV)
  | [.int i, .int j] => if -(2 ^ 62) ≤ i ∧ i < 2 ^ 62 ∧ -(2 ^ 62) ≤ j ∧ j < 2 ^ 62 then some (rngP i (j - i).toNat) else none
  | _ => none
def enOf (g : PV → Option (List PV)) : List PV → Option (List PV)
  | [x] => (itmF g x).map enumP
  | _ => none
theorem wA_srcR1 : wA (srcR1 SA) Γ PA X = wA SA Γ (fun xs Γ1 => wL (r1Of xs) fun ys => PA ys Γ1) X := by
  unfold wA srcR1 wL
  rcases SA Γ with _ | ⟨xs | _, Γ1⟩
  · with_unfolding_all rfl
  · dsimp only
    unfold r1Of
    rcases xs with _ | ⟨x, _ | ⟨y, ys⟩⟩
    · with_unfolding_all rfl
    · cases x with
      | int i =>
        dsimp only
        by_cases h : -(2 ^ 62) ≤ i ∧ i < 2 ^ 62
        · rw [if_pos h, if_pos h]
        · rw [if_neg h, if_neg h]
      | _ => with_unfolding_all rfl
    · cases x <;> with_unfolding_all rfl
  · with_unfolding_all rfl
theorem wA_srcR2 : wA (srcR2 SA) Γ PA X = wA SA Γ (fun xs Γ1 => wL (r2Of xs) fun ys => PA ys Γ1) X := by
  unfold wA srcR2 wL
  rcases SA Γ with _ | ⟨xs | _, Γ1⟩
  · with_unfolding_all rfl
  · dsimp only
    unfold r2Of
    rcases xs with _ | ⟨x, _ | ⟨y, _ | ⟨z, zs⟩⟩⟩
    · with_unfolding_all rfl
    · cases x <;> with_unfolding_all rfl
    · cases x with
      | int i => cases y with
        | int j =>
          dsimp only
          by_cases h : -(2 ^ 62) ≤ i ∧ i < 2 ^ 62 ∧ -(2 ^ 62) ≤ j ∧ j < 2 ^ 62
          · rw [if_pos h, if_pos h]
          · rw [if_neg h, if_neg h]
        | _ => with_unfolding_all rfl
      | _ => with_unfolding_all rfl
    · cases x <;> cases y <;> with_unfolding_all rfl
  · with_unfolding_all rfl
theorem wA_srcEn : wA (srcEn SA) Γ PA X = wA SA Γ (fun xs Γ1 => wL (enOf itemsL xs) fun ys => PA ys Γ1) X := by
  unfold wA srcEn wL
  rcases SA Γ with _ | ⟨xs | _, Γ1⟩
  · with_unfolding_all rfl
  · dsimp only
    unfold enOf
    rcases xs with _ | ⟨x, _ | ⟨y, ys⟩⟩
    · with_unfolding_all rfl
    · dsimp only
      unfold itmF
      cases noOwn x
      · cases noBrw x
        · simp
        · simp only [Bool.false_eq_true, if_false, if_true]
          cases itemsL (fz x) <;> with_unfolding_all rfl
      · simp only [if_true]
        cases itemsL x <;> with_unfolding_all rfl
    · with_unfolding_all rfl
  · with_unfolding_all rfl
theorem wA_srcEnT : wA (srcEnT SA) Γ PA X = wA SA Γ (fun xs Γ1 => wL (enOf itemsT xs) fun ys => PA ys Γ1) X := by
  unfold wA srcEnT wL
  rcases SA Γ with _ | ⟨xs | _, Γ1⟩
  · with_unfolding_all rfl
  · dsimp only
    unfold enOf
    rcases xs with _ | ⟨x, _ | ⟨y, ys⟩⟩
    · with_unfolding_all rfl
    · dsimp only
      unfold itmF
      cases noOwn x
      · cases noBrw x
        · simp
        · simp only [Bool.false_eq_true, if_false, if_true]
          cases itemsT (fz x) <;> with_unfolding_all rfl
      · simp only [if_true]
        cases itemsT x <;> with_unfolding_all rfl
    · with_unfolding_all rfl
  · with_unfolding_all rfl
/-! frames -/
theorem wE_W {ms : List Bool} : wE (eW ms S) Γ P X = wE S (brwEx ms Γ) (fun x Γ1 => (noBrw x && okEx ms Γ1) = true ∧ P x (mix ms Γ1 Γ)) (fun e Γ1 => (noBrw e.val && okEx ms Γ1) = true ∧ X e (mix ms Γ1 Γ)) := by
  unfold wE eW
  rcases S (brwEx ms Γ) with _ | ⟨x | x, Γ1⟩
  · with_unfolding_all rfl
  · dsimp only
    cases noBrw x && okEx ms Γ1 <;> simp
  · dsimp only
    cases noBrw x.val && okEx ms Γ1 <;> simp
theorem wA_W {ms : List Bool} : wA (aW ms SA) Γ PA X = wA SA (brwEx ms Γ) (fun x Γ1 => (noBrws x && okEx ms Γ1) = true ∧ PA x (mix ms Γ1 Γ)) (fun e Γ1 => (noBrw e.val && okEx ms Γ1) = true ∧ X e (mix ms Γ1 Γ)) := by
  unfold wA aW
  rcases SA (brwEx ms Γ) with _ | ⟨x | x, Γ1⟩
  · with_unfolding_all rfl
  · dsimp only
    cases noBrws x && okEx ms Γ1 <;> simp
  · dsimp only
    cases noBrw x.val && okEx ms Γ1 <;> simp
theorem wS_W {ms : List Bool} : wS (sW ms U) Γ N R X = wS U (brwEx ms Γ) (fun Γ1 => okEx ms Γ1 = true ∧ N (mix ms Γ1 Γ)) (fun x Γ1 => (noBrw x && okEx ms Γ1) = true ∧ R x (mix ms Γ1 Γ)) (fun e Γ1 => (noBrw e.val && okEx ms Γ1) = true ∧ X e (mix ms Γ1 Γ)) := by
  unfold wS sW
  rcases U (brwEx ms Γ) with _ | ⟨_ | x | _ | _ | x, Γ1⟩
  · with_unfolding_all rfl
  · dsimp only [outVal, noBrw]
    cases okEx ms Γ1 <;> simp
  · dsimp only [outVal]
    by_cases h : (noBrw x && okEx ms Γ1) = true <;> simp [h]
  · dsimp only [outVal, noBrw]
    cases okEx ms Γ1 <;> simp
  · dsimp only [outVal, noBrw]
    cases okEx ms Γ1 <;> simp
  · dsimp only [outVal]
    by_cases h : (noBrw x.val && okEx ms Γ1) = true <;> simp [h]
/-! calls -/
theorem wE_Call {ds : List (Option Nat)} : wE (eCall f ds SA) Γ P X = wA SA Γ (fun ys Γ1 => wT (takeA ds ys Γ1) fun xs Γ2 => wF f xs (fun x xs' => P x (giveA ds xs' Γ2)) fun e xs' => X e (giveA ds xs' Γ2)) X := by
  unfold wE eCall wA wT wF
  rcases SA Γ with _ | ⟨ys | _, Γ1⟩
  · with_unfolding_all rfl
  · dsimp only
    rcases takeA ds ys Γ1 with _ | ⟨xs, Γ2⟩
    · with_unfolding_all rfl
    · dsimp only
      rcases f xs with _ | ⟨_ | _, _⟩ <;> with_unfolding_all rfl
  · with_unfolding_all rfl
theorem wE_MethS {c : Nat} {m : Str} {i : Nat} {ds : List (Option Nat)} : wE (eMethS c m f i ds SA) Γ P X = wV Γ[i]? (fun x => isIns c m x = true ∧ wE (eCall f (some i :: ds) SA) Γ P X) := by
  unfold wE wV eMethS
  rcases Γ[i]? with _ | _ | x
  · with_unfolding_all rfl
  · with_unfolding_all rfl
  · dsimp only
    cases isIns c m x <;> simp
theorem wE_MethV {c : Nat} {m : Str} {ds : List (Option Nat)} : wE (eMethV c m f ds S SA) Γ P X = wE S Γ (fun x Γ1 => isIns c m x = true ∧ wA SA Γ1 (fun ys Γ2 => wT (takeA (none :: ds) (x :: ys) Γ2) fun xs Γ3 => wF f xs (fun z xs' => P z (giveA (none :: ds) xs' Γ3)) fun e xs' => X e (giveA (none :: ds) xs' Γ3)) X) X := by
  unfold eMethV
  rw [wE_Then]
  refine wE_ext fun x Γ1 => ?_
  unfold wE wA wT wF
  cases isIns c m x
  · simp
  · simp only [if_true, true_and]
    rcases SA Γ1 with _ | ⟨ys | _, Γ2⟩
    · with_unfolding_all rfl
    · dsimp only
      rcases takeA (none :: ds) (x :: ys) Γ2 with _ | ⟨xs, Γ3⟩
      · with_unfolding_all rfl
      · dsimp only
        rcases f xs with _ | ⟨_ | _, _⟩ <;> with_unfolding_all rfl
    · with_unfolding_all rfl
/-- the new thing, and what is left of the others -/
@[irreducible] def wNew (x : PV) (ys : List PV) (K : PV → List PV → Prop) (_ : Tok K K := ⟨⟩) : Prop := match x, ys with
  | .non, y :: r => K y (y :: r)
  | _, _ => False
theorem wNew_non {y : PV} {r : List PV} {K : PV → List PV → Prop} : wNew .non (y :: r) K = K y (y :: r) := by with_unfolding_all rfl
theorem wE_Make {c : Nat} {ds : List (Option Nat)} : wE (eMake c f ds SA) Γ P X = wA SA Γ (fun ys Γ1 => wT (takeA (none :: ds) (.ins .own c [] [] :: ys) Γ1) fun xs Γ2 => wF f xs (fun x zs => wNew x zs fun y r => P y (giveA (none :: ds) r Γ2)) fun e zs => X e (giveA (none :: ds) zs Γ2)) X := by
  unfold wE eMake wA wT wF
  rcases SA Γ with _ | ⟨ys | _, Γ1⟩
  · with_unfolding_all rfl
  · dsimp only
    rcases takeA (none :: ds) (.ins .own c [] [] :: ys) Γ1 with _ | ⟨xs, Γ2⟩
    · with_unfolding_all rfl
    · dsimp only
      rcases f xs with _ | ⟨x | _, zs⟩
      · with_unfolding_all rfl
      · rcases zs with _ | ⟨z, zs⟩
        · cases x <;> with_unfolding_all rfl
        · cases x <;> with_unfolding_all rfl
      · with_unfolding_all rfl
  · with_unfolding_all rfl
def isI (c : Nat) : PV → Bool
  | .ins _ c' _ _ => decide (c' = c)
  | _ => false
theorem wE_SubO {c : Nat} : wE (eSubO c f S T) Γ P X = wE S Γ (fun y Γ1 => wE T Γ1 (fun x Γ2 => isI c y = true ∧ wF f [y, x] (fun z _ => P z Γ2) fun e _ => X e Γ2) X) X := by
  unfold eSubO
  rw [wE_Then]
  refine wE_ext fun y Γ1 => ?_
  rw [wE_Then]
  refine wE_ext fun x Γ2 => ?_
  unfold wE wF isI
  cases y with
  | ins o c' ns xs =>
    dsimp only
    by_cases h : c' = c
    · simp only [h, if_true, decide_true, true_and]
      rcases f [.ins o c ns xs, x] with _ | ⟨_ | _, _⟩ <;> with_unfolding_all rfl
    · simp [h]
  | _ => simp
theorem wE_InO {c : Nat} {neg : Bool} : wE (eInO c neg f S T) Γ P X = wE S Γ (fun x Γ1 => wE T Γ1 (fun y Γ2 => isI c y = true ∧ wF f [y, x] (fun z _ => wB z (P (.bl (!neg)) Γ2) (P (.bl neg) Γ2)) fun _ _ => False) X) X := by
  unfold eInO
  rw [wE_Then]
  refine wE_ext fun x Γ1 => ?_
  rw [wE_Then]
  refine wE_ext fun y Γ2 => ?_
  unfold wE wF isI
  cases y with
  | ins o c' ns xs =>
    dsimp only
    by_cases h : c' = c
    · simp only [h, if_true, decide_true, true_and]
      rcases f [.ins o c ns xs, x] with _ | ⟨z | _, _⟩
      · with_unfolding_all rfl
      · cases z with
        | bl b => cases b <;> cases neg <;> with_unfolding_all rfl
        | _ => with_unfolding_all rfl
      · with_unfolding_all rfl
    · simp [h]
  | _ => simp
@[irreducible] def wM (o : Option (PV × PV)) (K : PV → PV → Prop) (_ : Tok K K := ⟨⟩) : Prop := match o with
  | some (x, z) => K x z
  | none => False
theorem wM_some {x z : PV} {K : PV → PV → Prop} : wM (some (x, z)) K = K x z := by with_unfolding_all rfl
theorem wE_Mth {Ty : String} {i : Nat} {pg : PV → Option PV} {ps : PV → PV → PV} {g : PV → List PV → Option (PV × PV)} {ms : List Bool} : wE (eMth Ty i pg ps g ms SA) Γ P X = wV Γ[i]? (fun root => wO (pg root) fun x => kindP Ty x = true ∧ wA (aW ms SA) Γ (fun ys Γ1 => wM (g x ys) fun x' z => P z (Γ1.set i (some (ps root x')))) X) := by
  unfold wE eMth wV wA wO wM
  rcases Γ[i]? with _ | _ | root
  · with_unfolding_all rfl
  · with_unfolding_all rfl
  · dsimp only
    cases pg root with
    | none => with_unfolding_all rfl
    | some x =>
      dsimp only
      cases kindP Ty x
      · simp
      · simp only [if_true, true_and]
        rcases aW ms SA Γ with _ | ⟨ys | _, Γ1⟩
        · with_unfolding_all rfl
        · dsimp only
          rcases g x ys with _ | ⟨x', z⟩ <;> with_unfolding_all rfl
        · with_unfolding_all rfl
/-! comprehensions -/
@[irreducible] def wC (Tg : PV → Env → Option Env) (C S : ES) (vs : List Nat) (xs acc : List PV) (Γ : Env) (K : List PV → Env → Prop) (_ : Tok K K := ⟨⟩) : Prop := match compF Tg C S vs xs acc Γ with
  | some (ys, Γ') => K ys Γ'
  | none => False
theorem wE_Comp {Tg : PV → Env → Option Env} {vs : List Nat} : wE (eComp SA Tg C S vs) Γ P X = wA SA Γ (fun xs Γ1 => (freeAt Γ1 vs && decide (xs.length ≤ 50000)) = true ∧ wC Tg C S vs xs [] (wipeE Γ1 vs) fun ys Γ2 => P (.lst .own ys) (backE Γ1 Γ2 vs)) X := by
  unfold wE eComp wA wC
  rcases SA Γ with _ | ⟨xs | _, Γ1⟩
  · with_unfolding_all rfl
  · dsimp only
    cases freeAt Γ1 vs && decide (xs.length ≤ 50000)
    · simp
    · simp only [if_true, true_and]
      rcases compF Tg C S vs xs [] (wipeE Γ1 vs) with _ | ⟨ys, Γ2⟩ <;> with_unfolding_all rfl
  · with_unfolding_all rfl
theorem wE_CompK {Tg : PV → Env → Option Env} {vs : List Nat} {kd : Kd} {V : Env → Option PV} : wE (eCompK kd V Tg C S vs) Γ P X = wL ((V Γ).bind (itemsK kd)) (fun xs => (freeAt Γ vs && decide (xs.length ≤ 50000)) = true ∧ wC Tg C S vs xs [] (wipeE Γ vs) fun ys Γ2 => P (.lst .own ys) (backE Γ Γ2 vs)) := by
  unfold wE eCompK wL wC compT
  cases (V Γ).bind (itemsK kd) with
  | none => with_unfolding_all rfl
  | some xs =>
    dsimp only
    cases freeAt Γ vs && decide (xs.length ≤ 50000)
    · simp
    · simp only [if_true, true_and]
      rcases compF Tg C S vs xs [] (wipeE Γ vs) with _ | ⟨ys, Γ2⟩ <;> with_unfolding_all rfl
theorem wC_nil {Tg : PV → Env → Option Env} {vs : List Nat} {acc : List PV} {K : List PV → Env → Prop} : wC Tg C S vs [] acc Γ K = K acc Γ := by with_unfolding_all rfl
theorem wC_cons {Tg : PV → Env → Option Env} {vs : List Nat} {x : PV} {xs acc : List PV} {K : List PV → Env → Prop} : wC Tg C S vs (x :: xs) acc Γ K = wG (Tg x Γ) fun Γ1 => wE C Γ1 (fun b Γ2 => wB b (wE S Γ2 (fun y Γ3 => wC Tg C S vs xs (acc ++ [y]) (wipeE Γ3 vs) K) fun _ _ => False) (wC Tg C S vs xs acc (wipeE Γ2 vs) K)) fun _ _ => False := by
  unfold wC
  rw [compF]
  unfold wG
  cases Tg x Γ with
  | none => with_unfolding_all rfl
  | some Γ1 =>
    dsimp only
    unfold wE wB
    rcases C Γ1 with _ | ⟨b | _, Γ2⟩
    · with_unfolding_all rfl
    · rcases b with _ | (_ | _) | _ | _ | _ | _ | _ | _ | _ | _ | _
      case bl.true =>
        dsimp only
        rcases S Γ2 with _ | ⟨y | _, Γ3⟩ <;> with_unfolding_all rfl
      all_goals with_unfolding_all rfl
    · with_unfolding_all rfl
/-! statements -/
theorem wS_Next : wS sNext Γ N R X = N Γ := by with_unfolding_all rfl
theorem wS_No : wS sNo Γ N R X = False := by with_unfolding_all rfl
theorem wS_RetN : wS sRetN Γ N R X = R .non Γ := by with_unfolding_all rfl
theorem wS_Seq : wS (sSeq U W) Γ N R X = wS U Γ (fun Γ1 => wS W Γ1 N R X) R X := by
  unfold wS sSeq
  rcases U Γ with _ | ⟨_ | _ | _ | _ | _, _⟩ <;> with_unfolding_all rfl
theorem wS_S {k : PV → SS} : wS (eS S k) Γ N R X = wE S Γ (fun x Γ1 => wS (k x) Γ1 N R X) X := by
  unfold wS wE eS
  rcases S Γ with _ | ⟨_ | _, _⟩ <;> with_unfolding_all rfl
theorem wS_Set {i : Nat} : wS (sSet i S) Γ N R X = wE S Γ (fun x Γ1 => N (Γ1.set i (some x))) X := by with_unfolding_all exact wS_S
theorem wS_Drop : wS (sDrop S) Γ N R X = wE S Γ (fun x Γ1 => N Γ1) X := by with_unfolding_all exact wS_S
theorem wS_Ret : wS (sRet S) Γ N R X = wE S Γ R X := by with_unfolding_all exact wS_S
theorem wS_If : wS (sIf C U W) Γ N R X = wE C Γ (fun x Γ1 => wB x (wS U Γ1 N R X) (wS W Γ1 N R X)) X := by
  unfold sIf
  rw [wS_S]
  refine wE_ext fun x Γ1 => ?_
  rcases x with _ | (_ | _) | _ | _ | _ | _ | _ | _ | _ | _ | _ <;> with_unfolding_all rfl
theorem wS_Asg {Tg : PV → Env → Option Env} : wS (sAsg S Tg) Γ N R X = wE S Γ (fun x Γ1 => wG (Tg x Γ1) N) X := by
  unfold sAsg
  rw [wS_S]
  refine wE_ext fun x Γ1 => ?_
  unfold wS wG
  dsimp only
  cases Tg x Γ1 <;> with_unfolding_all rfl
@[irreducible] def w2 (xs : List PV) (K : PV → PV → Prop) : Prop := match xs with
  | [x, y] => K x y
  | _ => False
@[irreducible] def w1 (xs : List PV) (K : PV → Prop) : Prop := match xs with
  | [x] => K x
  | _ => False
theorem w2_eq {x y : PV} {K : PV → PV → Prop} : w2 [x, y] K = K x y := by with_unfolding_all rfl
theorem w1_eq {x : PV} {K : PV → Prop} : w1 [x] K = K x := by with_unfolding_all rfl
theorem wS_Par {i j : Nat} : wS (sPar i j SA) Γ N R X = wA SA Γ (fun xs Γ1 => w2 xs fun x y => N ((Γ1.set i (some x)).set j (some y))) X := by
  unfold wS sPar wA
  rcases SA Γ with _ | ⟨xs | _, Γ1⟩
  · with_unfolding_all rfl
  · rcases xs with _ | ⟨x, _ | ⟨y, _ | ⟨z, zs⟩⟩⟩ <;> with_unfolding_all rfl
  · with_unfolding_all rfl
theorem wS_Raise {c : Nat} {s : Str} : wS (sRaise c s SA) Γ N R X = wA SA Γ (fun xs Γ1 => w1 xs fun x => X ⟨c, s, x⟩ Γ1) X := by
  unfold wS sRaise wA
  rcases SA Γ with _ | ⟨xs | _, Γ1⟩
  · with_unfolding_all rfl
  · rcases xs with _ | ⟨x, _ | ⟨y, zs⟩⟩ <;> with_unfolding_all rfl
  · with_unfolding_all rfl
theorem wS_Put {i : Nat} {pg : PV → Option PV} {ps : PV → PV → PV} {g : PV → PV → PV → Option PV} {ms : List Bool} : wS (sPut i pg ps g ms S T) Γ N R X = wE T Γ (fun y Γ1 => wV Γ1[i]? fun root => wO (pg root) fun x => wA (aW ms (aCons S aNil)) Γ1 (fun qs Γ2 => w1 qs fun q => wO (g x q y) fun x' => N (Γ2.set i (some (ps root x')))) X) X := by
  unfold sPut
  rw [wS_S]
  refine wE_ext fun y Γ1 => ?_
  unfold wS wV wA wO
  dsimp only
  rcases Γ1[i]? with _ | _ | root
  · with_unfolding_all rfl
  · with_unfolding_all rfl
  · dsimp only
    cases pg root with
    | none => with_unfolding_all rfl
    | some x =>
      dsimp only
      rcases aW ms (aCons S aNil) Γ1 with _ | ⟨qs | _, Γ2⟩
      · with_unfolding_all rfl
      · rcases qs with _ | ⟨q, _ | ⟨z, zs⟩⟩
        · with_unfolding_all rfl
        · unfold w1
          dsimp only
          cases g x q y <;> with_unfolding_all rfl
        · with_unfolding_all rfl
      · with_unfolding_all rfl
def fldOf (c : Nat) (s : Str) (x y : PV) : Option PV := match x with
  | .ins .own c' ns xs => if c' = c then fFld s (.ins .own c' ns xs) y else none
  | _ => none
theorem wS_SetF {i : Nat} {pg : PV → Option PV} {ps : PV → PV → PV} {c : Nat} {s : Str} : wS (sSetF i pg ps c s T) Γ N R X = wE T Γ (fun y Γ1 => wV Γ1[i]? fun root => wO (pg root) fun x => wO (fldOf c s x y) fun x' => N (Γ1.set i (some (ps root x')))) X := by
  unfold sSetF
  rw [wS_S]
  refine wE_ext fun y Γ1 => ?_
  unfold wS wV wO
  dsimp only
  rcases Γ1[i]? with _ | _ | root
  · with_unfolding_all rfl
  · with_unfolding_all rfl
  · dsimp only
    cases pg root with
    | none => with_unfolding_all rfl
    | some x =>
      unfold fldOf
      cases x with
      | ins o c' ns xs =>
        cases o with
        | own =>
          dsimp only
          by_cases h : c' = c
          · simp only [h, if_true]
            cases fFld s (.ins .own c ns xs) y <;> with_unfolding_all rfl
          · simp only [h, if_false]
        | _ => with_unfolding_all rfl
      | _ => with_unfolding_all rfl
theorem wS_Aug {i : Nat} {o : PV → PV → Option PV} : wS (sAug i o S) Γ N R X = wV Γ[i]? (fun x => noOwn x = true ∧ wE S Γ (fun y Γ1 => wO (o x y) fun z => N (Γ1.set i (some z))) X) := by
  unfold wV wS sAug
  rcases Γ[i]? with _ | _ | x
  · with_unfolding_all rfl
  · with_unfolding_all rfl
  · dsimp only
    cases noOwn x
    · simp
    · simp only [if_true, true_and]
      with_unfolding_all show wS (eS S (fun y Γ1 => (o x y).map fun z => (.nx, Γ1.set i (some z)))) Γ N R X = _
      rw [wS_S]
      refine wE_ext fun y Γ1 => ?_
      unfold wS wO
      dsimp only
      cases o x y <;> with_unfolding_all rfl
theorem wS_Fz {i : Nat} : wS (sFz i U) Γ N R X = wV Γ[i]? (fun x => noBrw x = true ∧ wS U (Γ.set i (some (fz x))) N R X) := by
  unfold wS sFz wV
  rcases Γ[i]? with _ | _ | x
  · with_unfolding_all rfl
  · with_unfolding_all rfl
  · dsimp only
    cases noBrw x <;> simp
theorem wS_For {Tg : PV → Env → Option Env} : wS (sFor SA Tg U) Γ N R X = wA SA Γ (fun xs Γ1 => wS (forF Tg U xs) Γ1 N R X) X := by
  unfold wS sFor wA
  rcases SA Γ with _ | ⟨xs | _, Γ1⟩ <;> with_unfolding_all rfl
theorem wS_ForK {Tg : PV → Env → Option Env} {kd : Kd} {V : Env → Option PV} : wS (sForK kd V Tg U) Γ N R X = wL ((V Γ).bind (itemsK kd)) (fun xs => wS (forF Tg U xs) Γ N R fun _ _ => False) := by
  unfold wS sForK wL
  cases (V Γ).bind (itemsK kd) with
  | none => with_unfolding_all rfl
  | some xs =>
    dsimp only
    rcases forF Tg U xs Γ with _ | ⟨_ | _ | _ | _ | _, _⟩ <;> with_unfolding_all rfl
theorem wS_for_nil {Tg : PV → Env → Option Env} : wS (forF Tg U []) Γ N R X = N Γ := by with_unfolding_all rfl
theorem wS_mono {N' : Env → Prop} {R' : PV → Env → Prop} {X' : Xn → Env → Prop} (h : wS U Γ N R X) (n : ∀ Γ, N Γ → N' Γ) (r : ∀ x Γ, R x Γ → R' x Γ) (e : ∀ x Γ, X x Γ → X' x Γ) : wS U Γ N' R' X' := by
  revert h
  unfold wS
  rcases U Γ with _ | ⟨_ | _ | _ | _ | _, _⟩
  · exact id
  · exact n _
  · exact r _ _
  · exact id
  · exact id
  · exact e _ _
theorem wE_mono {P' : PV → Env → Prop} {X' : Xn → Env → Prop} (h : wE S Γ P X) (n : ∀ x Γ, P x Γ → P' x Γ) (e : ∀ x Γ, X x Γ → X' x Γ) : wE S Γ P' X' := by
  revert h
  unfold wE
  rcases S Γ with _ | ⟨_ | _, _⟩
  · exact id
  · exact n _ _
  · exact e _ _
theorem wS_for_cons {Tg : PV → Env → Option Env} {x : PV} {xs : List PV} (h : wG (Tg x Γ) fun Γ1 => wS U Γ1 (fun Γ2 => wS (forF Tg U xs) Γ2 N R X) R X) : wS (forF Tg U (x :: xs)) Γ N R X := by
  revert h
  unfold wS wG
  rw [forF_cons]
  cases Tg x Γ with
  | none => exact id
  | some Γ1 =>
    dsimp only
    rcases U Γ1 with _ | ⟨_ | _ | _ | _ | _, _⟩ <;> first | exact id | exact False.elim
/-- .. by place -/
theorem wForI {Tg : PV → Env → Option Env} (I : Nat → Env → Prop) {xs : List PV} {Γ : Env} (h : I 0 Γ) (st : ∀ i (hi : i < xs.length) Γ, I i Γ → wG (Tg xs[i] Γ) fun Γ1 => wS U Γ1 (I (i + 1)) R X) (k : ∀ Γ, I xs.length Γ → N Γ) : wS (forF Tg U xs) Γ N R X := by
  have go : ∀ (ys : List PV) (i : Nat) (Γ : Env), xs.drop i = ys → i + ys.length = xs.length → I i Γ → wS (forF Tg U ys) Γ N R X := by
    intro ys
    induction ys with
    | nil => intro i Γ e l h; rw [List.length_nil, Nat.add_zero] at l; subst l; rw [wS_for_nil]; exact k Γ h
    | cons y ys ih =>
      intro i Γ e l h
      have hi : i < xs.length := by rw [List.length_cons] at l; omega
      rw [List.drop_eq_getElem_cons hi] at e
      injection e with e1 e2
      refine wS_for_cons ?_
      have := st i hi Γ h
      rw [e1] at this
      revert this
      unfold wG
      cases Tg y Γ with
      | none => exact id
      | some Γ1 => exact fun z => wS_mono z (fun Γ2 j => ih (i + 1) Γ2 e2 (by rw [List.length_cons] at l; omega) j) (fun _ _ => id) (fun _ _ => id)
  exact go xs 0 Γ rfl (by simp) h
/-- while, by a measure -/
theorem wWh {I : Nat → Env → Prop} : ∀ {fuel n : Nat} {Γ : Env}, n < fuel → I n Γ → (∀ n Γ, I n Γ → wE C Γ (fun x Γ1 => wB x (wS U Γ1 (fun Γ2 => ∃ m, m < n ∧ I m Γ2) R X) (N Γ1)) X) → wS (whF C U fuel) Γ N R X
  | 0, n, Γ, h, _, _ => by omega
  | fuel + 1, n, Γ, hn, h, st => by
    have := st n Γ h
    revert this
    unfold wE wS wB
    rw [whF]
    rcases C Γ with _ | ⟨b | _, Γ1⟩
    · exact id
    · rcases b with _ | (_ | _) | _ | _ | _ | _ | _ | _ | _ | _ | _
      case bl.true =>
        dsimp only
        rcases hu : U Γ1 with _ | ⟨_ | _ | _ | _ | _, Γ2⟩
        · exact id
        · rintro ⟨m, hm, i⟩
          with_unfolding_all exact wWh (fuel := fuel) (n := m) (by omega) i st
        · exact id
        · exact False.elim
        · exact False.elim
        · exact id
      all_goals exact id
    · exact id
/-- a comprehension, by what holds of what is left -/
theorem wComp {Tg : PV → Env → Option Env} {vs : List Nat} {K : List PV → Env → Prop} (I : List PV → List PV → Env → Prop) : ∀ {xs acc : List PV} {Γ : Env}, I xs acc Γ → (∀ x ys acc Γ, x ∈ xs → I (x :: ys) acc Γ → wG (Tg x Γ) fun Γ1 => wE C Γ1 (fun b Γ2 => wB b (wE S Γ2 (fun y Γ3 => I ys (acc ++ [y]) (wipeE Γ3 vs)) fun _ _ => False) (I ys acc (wipeE Γ2 vs))) fun _ _ => False) → (∀ acc Γ, I [] acc Γ → K acc Γ) → wC Tg C S vs xs acc Γ K
  | [], acc, Γ, h, _, k => by rw [wC_nil]; exact k acc Γ h
  | x :: xs, acc, Γ, h, st, k => by
    rw [wC_cons]
    have := st x xs acc Γ List.mem_cons_self h
    revert this
    unfold wG
    cases Tg x Γ with
    | none => exact id
    | some Γ1 =>
      refine fun z => wE_mono z (fun b Γ2 => ?_) (fun _ _ => id)
      have go : ∀ acc Γ, I xs acc Γ → wC Tg C S vs xs acc Γ K := fun acc Γ i => wComp I i (fun y ys acc Γ m => st y ys acc Γ (List.mem_cons_of_mem _ m)) k
      rcases b with _ | (_ | _) | _ | _ | _ | _ | _ | _ | _ | _ | _
      case bl.true => rw [wB_true, wB_true]; exact fun z => wE_mono z (fun y Γ3 i => go _ _ i) (fun _ _ => id)
      case bl.false => rw [wB_false, wB_false]; exact fun i => go _ _ i
      all_goals with_unfolding_all exact id
/-- .. that draws nothing: the test c, the item g -/
theorem wPure {α : Type} {Tg : PV → Env → Option Env} {vs : List Nat} {K : List PV → Env → Prop} (e : α → PV) (c : α → Bool) (g : α → PV) {ws : List α} {acc : List PV} (st : ∀ w ∈ ws, wG (Tg (e w) Γ) fun Γ1 => wE C Γ1 (fun b Γ2 => b = .bl (c w) ∧ (c w = true → wE S Γ2 (fun y Γ3 => y = g w ∧ wipeE Γ3 vs = Γ) fun _ _ => False) ∧ (c w = false → wipeE Γ2 vs = Γ)) fun _ _ => False) (k : K (acc ++ (ws.filter c).map g) Γ) : wC Tg C S vs (ws.map e) acc Γ K := by
  refine wComp (fun rest a Γ' => Γ' = Γ ∧ ∃ us, rest = us.map e ∧ (∀ w ∈ us, w ∈ ws) ∧ a ++ (us.filter c).map g = acc ++ (ws.filter c).map g) ⟨rfl, ws, rfl, fun _ => id, rfl⟩ ?_ ?_
  · rintro x ys a Γ' - ⟨rfl, us, eu, mem, ea⟩
    cases us with
    | nil => cases eu
    | cons w us =>
      injection eu with e1 e2
      subst e1 e2
      have := st w (mem w List.mem_cons_self)
      revert this
      unfold wG
      cases Tg (e w) Γ' with
      | none => exact id
      | some Γ1 =>
        refine fun z => wE_mono z ?_ (fun _ _ => id)
        rintro b Γ2 ⟨rfl, h1, h2⟩
        have m' : ∀ v ∈ us, v ∈ ws := fun v hv => mem v (List.mem_cons_of_mem _ hv)
        cases hc : c w with
        | true =>
          rw [wB_true]
          refine wE_mono (h1 hc) ?_ (fun _ _ => id)
          rintro y Γ3 ⟨rfl, q⟩
          refine ⟨q, us, rfl, m', ?_⟩
          rw [← ea, List.filter_cons_of_pos hc, List.map_cons, List.append_assoc]
          with_unfolding_all rfl
        | false =>
          rw [wB_false]
          refine ⟨h2 hc, us, rfl, m', ?_⟩
          rw [← ea, List.filter_cons_of_neg (by simp [hc])]
  · rintro a Γ' ⟨rfl, us, eu, mem, ea⟩
    cases us with
    | nil => simp only [List.filter_nil, List.map_nil, List.append_nil] at ea; rw [ea]; exact k
    | cons w us => cases eu
/-! a def -/
theorem wF_fun {Nn n : Nat} {ms : List Bool} {xs : List PV} {P : PV → List PV → Prop} {X : Xn → List PV → Prop} : wF (funF Nn n ms U) xs P X = (xs.length = n ∧ wS U (xs.map some ++ List.replicate (Nn - n) none) (fun Γ => P .non (outA ms xs Γ)) (fun x Γ => P x (outA ms xs Γ)) (fun e Γ => X e (outA ms xs Γ))) := by
  unfold wF funF wS
  by_cases h : xs.length = n
  · simp only [h, if_true, true_and]
    rcases U _ with _ | ⟨_ | _ | _ | _ | _, _⟩ <;> with_unfolding_all rfl
  · simp [h]
theorem wF_of {xs ys : List PV} {x : PV} {P : PV → List PV → Prop} {X : Xn → List PV → Prop} (h : f xs = some (.ok x, ys)) : wF f xs P X = P x ys := by
  unfold wF
  rw [h]
theorem wF_out {xs : List PV} {P : PV → List PV → Prop} (h : wF f xs P fun _ _ => False) : ∃ x ys, f xs = some (.ok x, ys) ∧ P x ys := by
  revert h
  unfold wF
  rcases f xs with _ | ⟨x | _, ys⟩
  · exact False.elim
  · exact fun z => ⟨x, ys, rfl, z⟩
  · exact False.elim
end
end FV

/-! data in a list of data (a tuple in a list of tuples) -/
namespace FV
open PySem PySem.Spec PyProof.Rows L2 Evl SB
section
variable {c : Ct}
end
end FV

/-! sorted(set(texts)), zip of two lists -/
namespace FV
open PySem PySem.Spec PyProof.Rows L2 Evl SB
section
variable {c : Ct} {E : L2.St → XK} {te ta tb : TE} {tA : TA} {S T : ES} {AA : AS}
variable {M : Fm} {G H G' H' B : Hp} {σ σ' : L2.St} {Γ Γ' : Env} {us : List V} {ys : List PV}
end
end FV

/-! min of a list of texts, or of tuples of texts: the item itself -/
namespace SB
open PySem PySem.Spec PySem.W PyProof.Rows L2
section
variable {X : Cx}
end
end SB

/-! min of texts, of tuples of texts -/
namespace FV
open PySem PySem.Spec PyProof.Rows L2 Evl SB
section
variable {c : Ct} {M : Fm} {G H G' H' B : Hp} {σ σ' : L2.St} {Γ Γ' : Env} {us : List V} {ys : List PV}
end
end FV

/-! a list that is only read + a list -/
namespace SB
open PySem PySem.Spec PyProof.Rows L2
section
variable {X : Cx}
def rCatS (K : PySem.W.Frag) : R2 := fun x y H Q => ∃ l b xs zs, x = .ref l ∧ y = .ref b ∧ SqL K H l xs ∧ H b = some (.lst zs) ∧ xs.length + zs.length ≤ sizeLine ∧ ∀ p, H p = none → Q (.ref p) (upd H p (.lst (xs ++ zs)))
theorem op_catS : OpR X (binaryOp .Add) (rCatS X.K) := by
  intro pins s σ H x y v u Q I rx ry h
  obtain ⟨a, b, xs, zs, rfl, rfl, hs, hB, hz, q⟩ := h
  cases rx
  cases ry
  obtain ⟨as, r1, ⟨⟨k1, d1, dat, sl⟩, n1, g1, hk, hd, hx⟩, _⟩ := I.list hs
  obtain ⟨_, bs, n2, r2, l2, g2⟩ := I.lstM hB
  simp only at hk hx
  subst hk hx
  have w1 := r1.length
  have w2 : as.toArray ++ bs.toArray = (as ++ bs).toArray := by simp
  refine concat_meets ⟨_, g1, rfl⟩ ⟨_, g2, rfl⟩ noFill_list_add seq_list_add PySem.F.slot_list_add PySem.F.entry_list_add (PySem.F.args_list_add_2 _ _)
    (list_addW a b as.toArray bs.toArray n1 n2 d1 _ sl _ (by rw [List.size_toArray, List.size_toArray]; omega)) ⟨g1, g2, ?_⟩
  rw [w2]
  exact ⟨.ref _, _, I.lnew (t' := s.toks) (r1.append r2) (by rw [List.length_append]; omega), rfl, q _ I.fresh⟩
theorem k_catS (K : PySem.W.Frag) (e : X.K = K) : OpR X (binaryOp .Add) (rCatS K) := e ▸ op_catS
end
end SB

namespace FV
open PySem PySem.Spec PyProof.Rows L2 Evl SB
section
variable {c : Ct}
/-- a list that is only read + a list -/
def oCatS : PV → PV → Option PV
  | .lst _ xs, .lst o' ys => if o' ≠ .scr ∧ xs.length + ys.length ≤ sizeLine then some (.lst .own (xs ++ ys)) else none
  | _, _ => none
theorem jo_catS : JO c (rCatS c.K) oCatS := by
  intro M G H σ Γ va vb x y z Q s e p
  obtain ⟨F1, F2, r1, r2, k⟩ := s.two
  unfold oCatS at e
  split at e
  · rename_i o xs o' ys
    split at e
    · rename_i hc
      cases e
      obtain ⟨a, vs, Fa, rfl, ha, ra, ea⟩ := r1.seqL s.gh s.bh
      obtain ⟨b, ws, Fb, rfl, hb, rb, eb⟩ := r2.lstAt s.gh s.bh hc.1
      obtain ⟨Za, pa⟩ := sub_perm (Z := []) ea
      obtain ⟨Zb, pb⟩ := sub_perm (Z := []) eb
      have s2 := k _ _ _ _ (ra.app rb) (two_perm pa pb)
      refine ⟨a, b, vs, ws, rfl, rfl, ha, hb, by rw [ra.len, rb.len]; exact hc.2, fun q hq => ?_⟩
      exact p _ G _ (s2.goEx (Ex.new hq)) (s2.newL hq (Ex.new hq) upd_same)
    · cases e
  · cases e
end
end FV

/-! a way through a list's item that is told by a number: xs[-1].append(..), xs[-1][k] = .. -/
namespace FV
open PySem PySem.Spec PyProof.Rows L2 Evl SB
section
variable {c : Ct} {te tk : TE} {i : Nat} {loc : Loc3} {pg : PV → Option PV} {ps : PV → PV → PV}
/-- one of several by its place, and what stands in its place -/
theorem atP_set {G B H : Hp} {x : PV} : ∀ {vs : List V} {xs : List PV} {F : List Addr} (j : Nat), Rps c G B H vs xs F → xs[j]? = some x → ∃ v F1 Z, vs[j]? = some v ∧ Rp c G B H v x F1 ∧ F.Perm (F1 ++ Z) ∧
    ∀ {G' H' : Hp} {x' : PV} {F1' : List Addr}, Ex G G' → (∀ a ∈ Z, H' a = H a) → Rp c G' B H' v x' F1' → ∃ F', F'.Perm (F1' ++ Z) ∧ Rps c G' B H' vs (xs.set j x') F'
  | _, _, _, _, .nil, e => by cases e
  | _, _, _, 0, .cons (F := F) (F' := F') r t, e => by
    cases e
    exact ⟨_, F, F', rfl, r, List.Perm.refl _, fun eg k r' => ⟨_, List.Perm.refl _, .cons r' (t.up eg k)⟩⟩
  | _, _, _, j + 1, .cons (F := F) (F' := F') r t, e => by
    obtain ⟨v, F1, Z, a1, a2, a3, a4⟩ := atP_set j t (by simpa using e)
    refine ⟨v, F1, F ++ Z, by simpa using a1, a2, ?_, fun eg k r' => ?_⟩
    · refine (List.Perm.append_left F a3).trans ?_
      rw [← List.append_assoc, ← List.append_assoc]
      exact List.Perm.append_right Z List.perm_append_comm
    · obtain ⟨F2, p2, r2⟩ := a4 eg (fun a ha => k a (List.mem_append_right _ ha)) r'
      refine ⟨F ++ F2, ?_, .cons (r.up eg fun a ha => k a (List.mem_append_left _ ha)) r2⟩
      refine (List.Perm.append_left F p2).trans ?_
      rw [← List.append_assoc, ← List.append_assoc]
      exact List.Perm.append_right Z List.perm_append_comm
end
end FV

/-! the keys of a dict with tuple keys walked; a dict under a text's key walked -/
namespace FV
open PySem PySem.Spec PyProof.Rows L2 Evl SB
section
variable {c : Ct} {E : L2.St → XK} {te ta tb tc tk tv : TE} {tA : TA} {tt : TT} {ts : TS} {S T C Sk Sv : ES} {A : SS} {AA : AS} {i : Nat} {pins ms : List Bool} {g : TG} {Tg : PV → Env → Option Env}
end
end FV

/-! sorted(d), d a dict with ints for keys -/
namespace FV
open PySem PySem.Spec PyProof.Rows L2 Evl SB
end FV

/-! d.pop(k), k there, what stands there a text or an int -/
namespace FV
open PySem PySem.Spec PyProof.Rows L2 Evl SB
end FV

/-! one item of a list under a name of its own: x = xs[k], then what is done with x -/
namespace FV
open PySem PySem.Spec PyProof.Rows L2 Evl SB
section
variable {c : Ct} {M : Fm} {G H : Hp} {v : V} {x : PV} {us : List V} {ys : List PV} {σ : L2.St} {Γ : Env}
/-- the first of what is in hand is framed -/
theorem StX.frame1 (s : StX c M G H σ Γ (v :: us) (x :: ys)) : ∃ F, Rp c G M.B H v x F ∧ StX c (M.plus F) G H σ Γ us ys ∧
    ∀ {G' H' σ' Γ' ws zs}, Go (M.plus F) G H G' H' → StX c (M.plus F) G' H' σ' Γ' ws zs → Go M G H G' H' ∧ StX c M G' H' σ' Γ' (v :: ws) (x :: zs) := by
  obtain ⟨F1, F2, r, t, w⟩ := s
  cases r with
  | cons r ru =>
  rename_i Fv Fu
  have w0 : Wo c M G H (Fv ++ (Fu ++ F2)) := by rw [List.append_assoc] at w; exact w
  refine ⟨Fv, r, ⟨Fu, F2, ru, t, ?_⟩, ?_⟩
  · obtain ⟨a1, a2, a3⟩ := List.nodup_append.mp w0.nd
    refine ⟨w0.gh, w0.bh, fun a h => .inl (w0.bp a h), fun a h => ?_, a2, fun a h => ?_, fun a h => ⟨fun z => ?_, (w0.ff a (List.mem_append_right _ h)).2⟩, fun a h => ?_, w0.tb, fun a h => w0.sp a (List.mem_append_right _ h), w0.ntP fun _ h => List.mem_append_left _ h⟩
    · rcases h with (h | h) | h
      · exact w0.al a (.inl h)
      · exact r.live a h
      · exact w0.al a (.inr h)
    · rcases h with h | h | h
      · exact w0.gf a (.inl (List.mem_append_right _ h))
      · exact w0.gf a (.inr h)
      · exact w0.gf a (.inl (List.mem_append_left _ h))
    · rcases z with z | z
      · exact (w0.ff a (List.mem_append_right _ h)).1 z
      · exact a3 a z a h rfl
    · rcases h with h | h
      · exact w0.pt a h
      · exact r.notTup a h
  · intro G' H' σ' Γ' ws zs g s'
    obtain ⟨E1, E2, r2, t2, w2⟩ := s'
    have k : ∀ a ∈ Fv, H' a = H a := fun a ha => g.s a (.inl (.inr ha))
    refine ⟨⟨g.g, fun a h => g.s a (h.imp .inl id)⟩, Fv ++ E1, E2, .cons (Rp.up g.g k r) r2, t2, w2.gh, w2.bh, w0.bp, fun a h => w2.al a (h.imp .inl id), ?_, fun a h => ?_, fun a h => ?_, fun a h => w2.pt a (.inl h), w2.tb, fun a h => by rw [List.append_assoc] at h; exact (List.mem_append.mp h).elim (fun h => by rw [k a h]; exact w0.sp a (List.mem_append_left _ h)) (w2.sp a), ⟨fun a h => w2.nt.1 a (h.imp .inl id), w2.nt.2⟩⟩
    · rw [List.append_assoc]
      refine List.nodup_append.mpr ⟨(List.nodup_append.mp w0.nd).1, w2.nd, fun a ha b hb e => ?_⟩
      subst e
      exact (w2.ff a hb).1 (.inr ha)
    · rcases h with h | h
      · rw [List.append_assoc] at h
        rcases List.mem_append.mp h with h | h
        · exact w2.gf a (.inr (.inr h))
        · exact w2.gf a (.inl h)
      · exact w2.gf a (.inr (.inl h))
    · rw [List.append_assoc] at h
      rcases List.mem_append.mp h with h | h
      · exact w0.ff a (List.mem_append_left _ h)
      · exact ⟨fun z => (w2.ff a h).1 (.inl z), (w2.ff a h).2⟩
theorem set_self {α : Type} {l : List α} {i : Nat} {a : α} (h : l[i]? = some a) : l.set i a = l := by
  refine List.ext_getElem? fun j => ?_
  rw [List.getElem?_set]
  split
  · rename_i e
    subst e
    split
    · exact h.symm
    · rename_i l2
      rw [List.getElem?_eq_none (by omega)]
  · rfl
/-- an item is taken into a slot of its own; what else there is of the list is framed -/
theorem StX.take {i j m : Nat} {xs : List PV} (s : StX c M G H σ Γ [] []) (hi : Γ[i]? = some (some (.lst .own xs))) (hx : xs[m]? = some x) :
    ∃ a vs v F, σ[i]? = some (some (.ref a)) ∧ H a = some (.lst vs) ∧ vs[m]? = some v ∧ StX c (M.plus F) G H (σ.set j (some v)) ((Γ.set i none).set j (some x)) [] [] ∧
    ∀ {G' H' σ' Γ' x'}, Go (M.plus F) G H G' H' → StX c (M.plus F) G' H' σ' Γ' [] [] → σ'[i]? = some (some (.ref a)) → σ'[j]? = some (some v) → Γ'[j]? = some (some x') → Go M G H G' H' ∧ StX c M G' H' σ' ((Γ'.set j none).set i (some (.lst .own (xs.set m x')))) [] [] := by
  obtain ⟨v0, hv0, F1, F2, r, t, w⟩ := s.move hi
  cases r with
  | cons r rn =>
  cases rn
  cases r with
  | fr q => cases q
  | lst hH rs =>
  rename_i a vs Fc
  rw [List.append_nil] at w
  obtain ⟨v, F3, Z, hv, rv, pf, st⟩ := atP_set m rs hx
  obtain ⟨Z', pz, rz⟩ := st (x' := .gone) (F1' := []) (Ex.refl G) (fun _ _ => rfl) (.fr .gone)
  rw [List.nil_append] at pz
  have w2 : Wo c M G H (((a :: Z') ++ (F3 ++ [])) ++ F2) := by
    refine w.perm (List.Perm.append_right F2 ?_)
    rw [List.append_nil]
    refine List.Perm.cons a ?_
    exact (pf.trans List.perm_append_comm).trans (List.Perm.append_right F3 pz.symm)
  have s2 : StX c M G H σ (Γ.set i none) [.ref a, v] [.lst .own (xs.set m .gone), x] := ⟨_, F2, .cons (.lst hH rz) (.cons rv .nil), t, w2⟩
  obtain ⟨F, rF, s3, back⟩ := s2.frame1
  have aF : a ∈ F := by
    cases rF with
    | fr q => cases q
    | lst _ _ => exact List.mem_cons_self ..
  refine ⟨a, vs, v, F, hv0, hH, hv, s3.set j, fun {G' H' σ' Γ' x'} g s' hi' hj' hx' => ?_⟩
  obtain ⟨g2, E1, E2, r2, t2, w3⟩ := back g s'
  refine ⟨g2, ?_⟩
  have hH' : H' a = some (.lst vs) := by rw [g.s a (.inl (.inr aF))]; exact hH
  cases r2 with
  | cons r2 rn =>
  cases rn
  cases r2 with
  | fr q => cases q
  | lst hH2 rs2 =>
  rename_i vs2 Fz
  rw [hH'] at hH2
  cases hH2
  have ml : m < xs.length := by
    by_cases q : m < xs.length
    · exact q
    · rw [List.getElem?_eq_none (by omega)] at hx; cases hx
  obtain ⟨v2, Fg, Z2, hv2, _, pz2, st2⟩ := atP_set (x := .gone) m rs2 (by rw [List.getElem?_set]; simp [ml])
  rw [hv] at hv2
  cases hv2
  obtain ⟨v3, F4, F5, hv3, rx', t5, p5⟩ := t2.get hx'
  rw [hj'] at hv3
  cases hv3
  obtain ⟨F', pF', rF'⟩ := st2 (Ex.refl G') (fun _ _ => rfl) rx'
  rw [List.set_set] at rF'
  have w4 : Wo c M G' H' (((a :: F') ++ []) ++ F5) := by
    have w5 : Wo c M G' H' (Fg ++ (a :: (F4 ++ Z2) ++ F5)) := by
      refine w3.perm ?_
      rw [List.append_nil]
      -- (a :: Fz) ++ E2 ~ Fg ++ (a :: (F4 ++ Z2) ++ F5)
      have q1 : ((a :: Fz) ++ E2).Perm ((a :: (Fg ++ Z2)) ++ (F4 ++ F5)) := List.Perm.append (List.Perm.cons a pz2) p5
      refine q1.trans ?_
      have e1 : (a :: (Fg ++ Z2)) ++ (F4 ++ F5) = [a] ++ (Fg ++ (Z2 ++ (F4 ++ F5))) := by simp
      have e2 : Fg ++ (a :: (F4 ++ Z2) ++ F5) = Fg ++ ([a] ++ (F4 ++ (Z2 ++ F5))) := by simp
      rw [e1, e2]
      have q2 : ([a] ++ (Fg ++ (Z2 ++ (F4 ++ F5)))).Perm (Fg ++ ([a] ++ (Z2 ++ (F4 ++ F5)))) := by
        rw [← List.append_assoc [a], ← List.append_assoc Fg]
        exact List.Perm.append_right _ List.perm_append_comm
      refine q2.trans (List.Perm.append_left Fg (List.Perm.append_left [a] ?_))
      rw [← List.append_assoc, ← List.append_assoc]
      exact List.Perm.append_right _ List.perm_append_comm
    refine w5.right.perm ?_
    rw [List.append_nil]
    exact List.Perm.append_right F5 (List.Perm.cons a pF'.symm)
  have s5 : StX c M G' H' σ' (Γ'.set j none) [.ref a] [.lst .own (xs.set m x')] := ⟨_, F5, .cons (.lst hH' rF') .nil, t5, w4⟩
  have := s5.set i
  rwa [set_self hi'] at this
end
section
variable {c : Ct} {E : L2.St → XK} {pins : List Bool} {tk : TE} {ts : TS} {SI : ES} {B : SS} {i j : Nat}
end
end FV

/-! for a, b in xs: the parts of each item under names of their own; clear of a new list -/
namespace FV
open PySem PySem.Spec PyProof.Rows L2 Evl SB
section
variable {c : Ct} {M : Fm} {G H : Hp} {v : V} {x y : PV} {us : List V} {ys : List PV} {σ : L2.St} {Γ : Env}
end
section
variable {c : Ct} {E : L2.St → XK} {pins : List Bool} {te : TE} {tb : TS} {S : ES} {B : SS} {i p q : Nat}
/-- a new list is emptied, and forgotten -/
def eClearV (S : ES) : ES := fun Γ => match S Γ with
  | some (.ok (.lst .own _), Γ1) => some (.ok .non, Γ1)
  | _ => none
theorem je_clearV (h : JE c E te S) : JE c E (tBM0 c.K "list" rClear te) (eClearV S) := by
  intro M G H σ Γ Γ' rr Q s e pr
  show te σ H _
  unfold eClearV at e
  split at e
  case h_2 => cases e
  rename_i xs Γ1 qS
  cases e
  refine h s qS ?_
  intro v G1 H1 g s1
  obtain ⟨F1, F2, r, t, w⟩ := s1
  cases r with
  | cons r0 rn =>
  cases rn
  have r0' := r0
  cases r0 with
  | fr q => cases q
  | lst hH rs =>
  rename_i a vs Fc
  refine ⟨tyV_kind r0' rfl, a, vs, rfl, rfl, hH, ?_⟩
  have w' : Wo c M G1 H1 ((a :: Fc) ++ F2) := by rw [List.append_nil] at w; exact w
  obtain ⟨w2, g2⟩ := w'.write (H' := upd H1 a (.lst [])) (List.mem_append_left _ (List.mem_cons_self ..)) upd_k upd_n
  have na : a ∉ F2 := fun z => by
    have := (List.nodup_append.mp w'.nd).2.2 a (List.mem_cons_self ..) a z
    exact this rfl
  exact pr .non G1 _ (g.trans g2) ⟨[], F2, .cons (F := []) (F' := []) (.fr .non) .nil, t.up (Ex.refl _) (keep_of na), w2.right⟩
end
end FV

/-! try: return a call, except: its field, or else a suite -/
namespace FV
open PySem PySem.Spec PyProof.Rows L2 Evl SB
section
variable {X : Cx} {Cz : CXT} {k : Nat} {f C : Addr} {fd : FuncData} {ps : List Str} {sp : Sp} {dvs : List V} {ds : List Value} {E : L2.St → XK} {x m : Str} {p pos apos : Pos} {e o : Expr} {es : List Expr} {ta : TE} {t : TA}
end
section
variable {c : Ct} {E : L2.St → XK} {te ta tb : TE} {tA : TA} {ts : TS} {S T : ES} {A B : SS} {AA : AS} {i : Nat} {pins ms : List Bool}
end
end FV

/-! [.. for .. in ..] whose element may let an exception out -/
namespace SB
open PySem PySem.Spec PyProof.Rows L2
theorem held_off {B : Heap} {l : List Env} {e L C : Addr} {oC : Obj} {Z : Obj → Prop} {h h2 : Heap} {m : Str → Option Value} (bC : B.get? C = some oC) (n2 : h2.Ns C m) (sb : Heap.SameBut C h h2) (hh : HandSPX.HeldZ B l e Z L h) : HandSPX.HeldZ (PySem.W.hideAll B [C]) l e Z L h2 := by
  obtain ⟨b1, b0, f1, oe, vs, T, oT, ts, he, hz, hd, h1, hnT, hTe, hT, hdT, h3⟩ := hh
  have off : ∀ b, B.get? b = none → b ≠ C := fun b q z => by rw [z, bC] at q; cases q
  have non : ∀ b, B.get? b = none → (PySem.W.hideAll B [C]).get? b = none := fun b q => by
    cases z : (PySem.W.hideAll B [C]).get? b with
    | none => rfl
    | some o =>
      have := PySem.W.of_hideAll [C] z
      rw [q] at this; cases this
  refine ⟨fun b o q => ?_, non e b0, funFrames_none (Heap.FunFrames.sameBut sb n2 f1) fun b hb => non b ?_, oe, vs, T, oT, ts, (sb.2 e (off e b0)).trans he, hz, hd, h1, non T hnT, hTe, (sb.2 T (off T hnT)).trans hT, hdT, h3⟩
  · have nC : b ≠ C := fun z => by
      rw [z, PySem.W.hideAll_none [C] (by simp)] at q; cases q
    exact (sb.2 b nC).trans (b1 b o (PySem.W.of_hideAll [C] q))
  · exact (f1.mem hb).1
section
variable {X : Cx} {pins : List (Addr × Obj)} {σ : L2.St} {H K : Hp} {s z s' : Shared} {W : WX} {E : XK} {C : Addr} {m : Str → Option Value}
theorem Inv.xeTo {xe : Value → Shared → Prop} (I : Inv X pins σ H s) : Inv { X with xe := xe } pins σ H s :=
  ⟨⟨I.ok.mod, I.ok.kind, I.ok.glob, I.ok.blt, I.ok.above, I.ok.inj, I.ok.has, I.ok.cab, I.ok.hd, I.ok.frames, I.ok.stk, I.ok.exf, I.ok.bs, I.ok.bsz, I.ok.noex, I.ok.exfs, I.ok.funs, I.ok.frf⟩, I.os, I.bare, I.base, I.loc, I.cell, I.free, I.freeC, I.pin, I.hok, I.len⟩
/-- out of a call in the block: noted, the block let go, on in the def's own frame -/
theorem xe_blk (tk : Takes X W) (hs : X.stack = X.env :: X.outer) (hf : X.env.frame = some X.env.locals) (Ix : Inv X pins σ K z) (fC : FpOk X pins K C) (cC : C ∉ frs X.stack) (zC : z.heap.Ns C m) (hW : ∀ cls d H', E cls d H' → W cls d σ H') {u : Value}
    (c : CX X.prog X.w X.stack K z E u s') {ce : Env} (cf : ce.frame = X.env.frame) (cl : ce.locals = C) : notedBy (model X.prog X.w) X.A ce (CompFails (model X.prog X.w) X.A X.xe ce) u s' := by
  obtain ⟨a, B, K', cls, d, rfl, fl, hok, ub, na, os, ag, hE⟩ := c
  obtain ⟨oC, es, ep, gC, dC, rest⟩ := id zC
  have bC : B.get? C = some oC := ub.keep C oC gC fC.1 cC
  have kC : K' C = none := ub.free C oC gC fC.1
  show wpAny _ _ (noteFrame (.ref a) ce) _ _ s'
  rw [noteFrame_env _ cf]
  have hfr : X.A.frames = some (X.env :: X.outer) := by rw [Ix.ok.frames, hs]
  rw [hs] at fl
  refine HandSPX.looks_onZ Zc.steady hfr hf fl fun h1 hd1 up1 => ?_
  refine ⟨m, by rw [cl]; exact ⟨oC, es, ep, hd1.1 C oC bC, dC, rest⟩, fun h2 m2 n2 sb => ?_⟩
  rw [cl] at n2 sb
  have hd2 := held_off bC n2 sb hd1
  have gB : ∀ b o, B.get? b = some o → b ≠ C → (PySem.W.hideAll B [C]).get? b = some o := fun b o q n => PySem.W.hideAll_get [C] q (by simpa using n)
  have hokB : HOk X.prog X.w K' (PySem.W.hideAll B [C]) := fun b o q => (hok b o q).stay (fun c v hc r => gB c v r fun e => by
    rcases hc with hc | hc
    · rw [← hc, e, kC] at q; cases q
    · rw [e, kC] at hc; cases hc) (fun _ r => r) fun _ _ r => r
  generalize PySem.W.hideAll B [C] = B' at hd2 gB hokB
  unfold PySem.passOn
  obtain ⟨_, _, _, oe, vs, T, oT, ts, he, hz, hd, h1', _⟩ := id hd2
  refine wpAny_bind (wpAny_field he hd h1' ?_)
  rw [if_neg (show ¬ ((Value.ref T == Value.none) = true) from by simp)]
  rw [cf, hf]
  have fin : wpAny (model X.prog X.w) X.A (setFlight (.ref a) (some X.env.locals)) (fun _ s₂ => wpAny (model X.prog X.w) X.A (throw (.ref a) : Sem Value) (fun _ _ => False) X.xe s₂) X.xe { s' with heap := h2 } := by
    refine HandSPX.setFlight_onZ (s := { s' with heap := h2 }) hd2 fun h3 hd3 up3 => wpAny_throw (tk _ _ ?_)
    have slots : ∀ b ∈ frs X.stack, ∀ o, z.heap.get? b = some o → ∃ sl, h3.get? b = some { o with slots := sl } := fun b hb o e => by
      obtain ⟨_, o', e', hnf⟩ := Ix.stack.mem hb
      rw [e] at e'; cases e'
      obtain ⟨sl, q⟩ := ub.slot b o e hb
      obtain ⟨sl1, q1⟩ := up1 b _ q hnf
      have nC : b ≠ C := fun z => cC (z ▸ hb)
      obtain ⟨sl2, q2⟩ := up3 b _ ((sb.2 b nC).trans q1) hnf
      exact ⟨sl2, q2⟩
    obtain ⟨G, g1, g2⟩ := restrict h3 fun b => (B'.get? b).isSome || decide (b ∈ frs X.stack)
    have st : B'.StaysIn h3 := hd3.1
    have gBG : ∀ b o, B'.get? b = some o → G.get? b = some o := fun b o e => by
      rw [g1 b (by simp [e])]
      exact st b o e
    have gF : ∀ b, b ∈ frs X.stack → G.get? b = h3.get? b := fun b hb => g1 b (by simp [hb])
    have og : ∀ b o, G.get? b = some o → h3.get? b = some o ∧ ((B'.get? b).isSome = true ∨ b ∈ frs X.stack) := fun b o e => by
      cases q : ((B'.get? b).isSome || decide (b ∈ frs X.stack)) with
      | false => rw [g2 b q] at e; cases e
      | true =>
        rw [g1 b q] at e
        exact ⟨e, by simpa [Bool.or_eq_true] using q⟩
    rw [← hs] at hd3
    refine ⟨a, B', { z with heap := G, gens := s'.gens, drawn := s'.drawn, toks := s'.toks }, pins, σ, K', cls, d, rfl, ?_, fun b o e hb => ?_, Heap.UpToSlots.of_keeps fun b o e => (og b o e).1, .inr (.inr hd3), na, os, ag, hW _ _ _ hE⟩
    · refine Ix.call (ch := [C]) ⟨fun b o e n hb hc => gBG b o (gB b o (ub.keep b o e n hb) (by simpa using hc)), fun b o e n hb _ => ?_, fun b o e n _ => ub.free b o e n, fun b o e hc => ?_, ub.tups, ub.frzs, ub.tbls⟩ (hokB.kept gBG) ag fun b hb => ?_
      · obtain ⟨sl, q⟩ := slots b hb o e
        exact ⟨sl, by rw [gF b hb]; exact q⟩
      · by_cases hb : b ∈ frs X.stack
        · obtain ⟨sl, q⟩ := slots b hb o e
          exact ⟨_, by rw [gF b hb]; exact q⟩
        · obtain ⟨o', q⟩ := ub.there b o e hb
          exact ⟨o', gBG b o' (gB b o' q (by simpa using hc))⟩
      · have e : b = C := by simpa using hb
        subst e
        exact ⟨fC.2.2.2.1, fC.2.1, fC.2.2.2.2.1, fC.2.2.2.2.2⟩
    · obtain ⟨e', h⟩ := og b o e
      rcases h with h | h
      · obtain ⟨o', q⟩ := Option.isSome_iff_exists.mp h
        have z := st b o' q
        rw [e'] at z; cases z
        exact q
      · exact absurd h hb
  first
    | exact wpAny_bind (wpAny_pure (wpAny_bind fin))
    | exact wpAny_bind fin

/-- a block's context, xe what an exception is to find -/
abbrev blkE (X : Cx) (s : Shared) (H : Hp) (scope : Scope) (ce : Env) (fp : List Addr) (xe : Value → Shared → Prop) : Cx := { X.blk s H scope ce fp with xe := xe }
def tLcX (wi : TI) (g : TG) (tt : TT) (te : XK → TE) (vs : List Nat) (W : WX) : TE := fun σ H Q => tLc wi g tt (te fun cls d K => W cls d σ K) vs σ H Q
theorem lcx_core {elt tg iter : Expr} {ifs : List Expr} {scope : Scope} {own : List (Str × Nat)} {pos pos' : Pos} {wi : TI} {g : TG} {tt : TT} {te : XK → TE} {Q : VK} {use : Option (Value → Sem Unit)} {Qf : Value → Shared → Prop} (hc : X.calm = true) (hN : X.N.Nodup) (hs : X.stack = X.env :: X.outer) (hf : X.env.frame = some X.env.locals) (tk : Takes X W)
    (I : Inv X pins σ H s) (hi : PI X tg iter wi) (ok : BlkOk X.N X.env.scope scope own)
    (hg : ∀ (s : Shared) (H : Hp) (C : Addr) (cl : List (Str × Addr)) (fp : List Addr) (xe : Value → Shared → Prop), PG (blkE X s H scope (compEnvC scope cl C X.env) fp xe) tg g)
    (ht : ∀ (s : Shared) (H : Hp) (C : Addr) (cl : List (Str × Addr)) (fp : List Addr) (xe : Value → Shared → Prop), PTs (blkE X s H scope (compEnvC scope cl C X.env) fp xe) ifs tt)
    (he : ∀ (s : Shared) (H : Hp) (C : Addr) (cl : List (Str × Addr)) (fp : List Addr) (xe : Value → Shared → Prop) (E : XK),
      (∀ (pins : List (Addr × Obj)) (τ : L2.St) (K : Hp) (z : Shared) (e : Value) (s' : Shared), Inv (blkE X s H scope (compEnvC scope cl C X.env) fp xe) pins τ K z → CX X.prog X.w X.stack K z E e s' → xe e s') → PE (blkE X s H scope (compEnvC scope cl C X.env) fp xe) elt (te E))
    (hsf : ∀ x, foldedSetIterable iter X.env x = pure x) (h : tLcX wi g tt te (own.map (·.2)) W σ H Q)
    (hRR : ∀ D (ce : Env) s' m H', Inv X pins σ H' s' → Q (.ref D) H' → s'.heap.Ns ce.locals m → FpOk X pins H' ce.locals → compEnds (model X.prog X.w) X.A X.xe use Qf (.ref D) ce (.ok .next) s') :
    wpAny (model X.prog X.w) X.A (comprehension (.ListComp elt [⟨tg, iter, ifs, 0⟩] scope pos) scope X.env pos' (newList []) false (eval iter X.env) use) Qf X.xe s := by
  have hfree : ∀ y ∈ scope.names, y.2 = .free → ∃ c, X.env.cells.lookup y.1 = some c := fun y hy e => by
    rcases ok.free y hy e with k | k
    · exact I.ok.has _ (.inl k)
    · exact I.ok.has _ (.inr k)
  refine comprehension_at (use := use) rfl hsf (closure_ok hfree) ok.kind (fun y hy e => by rw [ok.uniq y hy, e])
    (thn (hi.run pins s σ H _ I h) fun xv s1 hx => thn hx fun itv s2 h2 => ?_)
  obtain ⟨it, fp, tn, J, H2, e, I2, T, st2, f2, q⟩ := h2
  subst e
  refine wpAny_newObj_type (newEnv_comp ?_) (by show 0 ≤ sizeLine; decide)
  generalize hD : s2.heap.objs.size = D
  have hDn : H2 D = none := I2.hok.fresh (Nat.le_of_eq hD)
  obtain ⟨V, ⟨m0, w0⟩, turn⟩ := q D hDn
  generalize hs3 : ({ s2 with heap := s2.heap.push { cls := .type "list", data := .seq ([] : List Value).toArray } } : Shared) = s3
  have I3 : Inv X pins σ (upd H2 D (.lst [])) s3 := by
    rw [← hs3]
    refine I2.laid (t' := s2.toks) (fun b o e => Heap.get?_push_of_some _ e) (Nat.le_of_eq hD) ⟨Nat.zero_le _, [], 0, .nil, ?_⟩
    rw [← hD]
    exact Heap.get?_push_size _ rfl
  have h3 : s3.heap = s2.heap.push { cls := .type "list", data := .seq ([] : List Value).toArray } := by rw [← hs3]
  have sz : ∀ b ∈ fp, b < s2.heap.objs.size := fun b hb => by
    obtain ⟨o, e, _⟩ := T.obj _ _ st2 b hb
    exact Heap.lt_size e
  have f3 : ∀ b ∈ fp, FpOk X pins (upd H2 D (.lst [])) b ∧ b < s3.heap.objs.size := fun b hb => by
    have hlt := sz b hb
    refine ⟨⟨?_, (f2 b hb).2⟩, by rw [h3, Heap.size_push]; exact Nat.lt_succ_of_lt hlt⟩
    rw [upd_ne (by rw [← hD]; exact Nat.ne_of_lt hlt)]
    exact (f2 b hb).1
  have st3 : tn 0 s3.heap := T.keep _ _ _ st2 fun b _ o e => by rw [h3]; exact Heap.get?_push_of_some _ e
  have I4 := block_start I3 ok hN f3
  have pg := hg s3 (upd H2 D (.lst [])) s3.heap.objs.size (cellsFrom (s3.heap.objs.size + 1) scope.names (cloFrom X.env.cells scope.names [])) fp
  have pt := ht s3 (upd H2 D (.lst [])) s3.heap.objs.size (cellsFrom (s3.heap.objs.size + 1) scope.names (cloFrom X.env.cells scope.names [])) fp
  have pe := he s3 (upd H2 D (.lst [])) s3.heap.objs.size (cellsFrom (s3.heap.objs.size + 1) scope.names (cloFrom X.env.cells scope.names [])) fp
  show codeAny _ _ (.compStart (.ListComp elt [⟨tg, iter, ifs, 0⟩] scope pos) 0 (.ref it) (.ref D) (compEnvC scope (cellsFrom (s3.heap.objs.size + 1) scope.names (cloFrom X.env.cells scope.names [])) s3.heap.objs.size X.env)) (compEnds (model X.prog X.w) X.A X.xe use Qf (.ref D) (compEnvC scope (cellsFrom (s3.heap.objs.size + 1) scope.names (cloFrom X.env.cells scope.names [])) s3.heap.objs.size X.env)) { s3 with heap := pushCells (s3.heap.push { cls := .type "dict", data := .dict #[] }) scope.names }
  have nfp : ∀ b ∈ fp, (upd H2 D (.lst [])) b = none := fun b hb => (f3 b hb).1.1
  generalize hce : compEnvC scope (cellsFrom (s3.heap.objs.size + 1) scope.names (cloFrom X.env.cells scope.names [])) s3.heap.objs.size X.env = ce at I4 pg pt pe ⊢
  have cL : ce.locals = s3.heap.objs.size := by subst hce; rfl
  have cF : ce.frame = X.env.frame := by subst hce; rfl
  generalize hH3 : upd H2 D (.lst []) = H3 at I3 I4 pg pt pe w0 nfp f3
  generalize hs4 : ({ s3 with heap := pushCells (s3.heap.push { cls := .type "dict", data := .dict #[] }) scope.names } : Shared) = s4 at I4 ⊢
  have st4 : tn 0 s4.heap := T.keep _ _ _ st3 fun b _ o e => by rw [← hs4]; exact pushCells_keeps _ _ _ _ (Heap.get?_push_of_some _ e)
  have I4 : Inv (blkE X s3 H3 scope ce fp (notedBy (model X.prog X.w) X.A ce (CompFails (model X.prog X.w) X.A X.xe ce))) [] (wipe σ (own.map (·.2))) H3 s4 := Inv.xeTo I4
  have pg := pg (notedBy (model X.prog X.w) X.A ce (CompFails (model X.prog X.w) X.A X.xe ce))
  have pt := pt (notedBy (model X.prog X.w) X.A ce (CompFails (model X.prog X.w) X.A X.xe ce))
  -- from the block back to the def
  have out : ∀ {pn τ K z}, Inv (blkE X s3 H3 scope ce fp (notedBy (model X.prog X.w) X.A ce (CompFails (model X.prog X.w) X.A X.xe ce))) pn τ K z → Inv X pins σ K z ∧ FpOk X pins K ce.locals ∧ ∃ m, z.heap.Ns ce.locals m := fun {pn τ K z} Iz => by
    obtain ⟨m, hn, _⟩ := Iz.loc
    refine ⟨I3.call' (ch := fp) Iz.os Iz.base Iz.hok Iz.bare fun b hb => ⟨(f3 b hb).1.2.2.2.1, (f3 b hb).1.2.1, (f3 b hb).1.2.2.2.2.1, (f3 b hb).1.2.2.2.2.2⟩, ?_, m, hn⟩
    rw [cL]
    refine I3.fpOk (Nat.le_refl _) ?_
    have z : K ce.locals = none := Iz.free
    rw [cL] at z
    exact z
  have pe := pe (notedBy (model X.prog X.w) X.A ce (CompFails (model X.prog X.w) X.A X.xe ce)) (fun cls d K => W cls d σ K) fun pn τ K z e s' Iz c => by
    obtain ⟨Ix, fC, m, hn⟩ := out Iz
    refine xe_blk tk hs hf Ix fC (fun hb => ?_) hn (fun _ _ _ h => h) c cF rfl
    rcases List.mem_cons.mp (I3.stkSub _ hb) with q | q
    · exact fC.2.1 q
    · exact fC.2.2.1 q
  have stat : ∀ {σ' : L2.St} {H' : Hp} {s' : Shared}, Inv (blkE X s3 H3 scope ce fp (notedBy (model X.prog X.w) X.A ce (CompFails (model X.prog X.w) X.A X.xe ce))) [] σ' H' s' → (∀ b ∈ fp, H' b = none) → ∀ b ∈ fp, FpOk (blkE X s3 H3 scope ce fp (notedBy (model X.prog X.w) X.A ce (CompFails (model X.prog X.w) X.A X.xe ce))) [] H' b := fun {σ' H' s'} I' hn b hb =>
    ⟨hn b hb, (I'.ok.exf b hb).1, I'.ok.exfs b hb, .inl hb, fun x c e => (I'.ok.exf b hb).2 x c e, fun p hp => absurd (show p ∈ ([] : List (Addr × Obj)) ++ [] from hp) (by simp)⟩
  have er : ∀ e s', CompFails (model X.prog X.w) X.A X.xe ce e s' → compEnds (model X.prog X.w) X.A X.xe use Qf (.ref D) ce (.error e) s' := fun e s' z => by cases use <;> exact z
  have loop : codeAny (model X.prog X.w) X.A (.compLoop (.ListComp elt [⟨tg, iter, ifs, 0⟩] scope pos) 0 (.ref it) (.ref D) ce) (compEnds (model X.prog X.w) X.A X.xe use Qf (.ref D) ce) s4 := by
    refine compLoop_any (fun n s' => ∃ i H', Inv (blkE X s3 H3 scope ce fp (notedBy (model X.prog X.w) X.A ce (CompFails (model X.prog X.w) X.A X.xe ce))) [] (wipe σ (own.map (·.2))) H' s' ∧ tn i s'.heap ∧ (∀ b ∈ fp, H' b = none) ∧ V i n H') ?_ m0 ⟨0, H3, I4, st4, nfp, w0⟩
    rintro n s5 ⟨i, H5, I5, st5, n5, w5⟩
    rcases turn i n H5 w5 with ⟨stop, qq⟩ | ⟨go, Nx, hNx, step⟩
    · have td := T.done (blkE X s3 H3 scope ce fp (notedBy (model X.prog X.w) X.A ce (CompFails (model X.prog X.w) X.A X.xe ce))) rfl rfl rfl hc i [] s5 _ H5 (fun _ _ => False) I5 (stat I5 n5) st5 stop
      refine thnF td fun r s6 ⟨hr, I6⟩ => ?_
      subst hr
      obtain ⟨I7, f, m, hn⟩ := out I6
      exact hRR D ce s6 m H5 I7 qq hn f
    · have ti := T.item (blkE X s3 H3 scope ce fp (notedBy (model X.prog X.w) X.A ce (CompFails (model X.prog X.w) X.A X.xe ce))) rfl rfl rfl hc i [] s5 _ H5 (fun _ _ => False) I5 (stat I5 n5) st5 go
      refine thnF ti fun r s6 ⟨u, hr, h6⟩ => ?_
      subst hr
      refine thnF h6 fun _ s7 ⟨x, H7, I7, r7, y7, st7, n7⟩ => ?_
      have I7' := I7.pinned (stat I7 n7) (T.obj _ _ st7)
      refine thn (pg.run _ s7 _ H7 x u _ I7' r7 (step x H7 y7)) fun _ s8 ⟨σ8, H8, I8, hw8, q8⟩ => ?_
      refine thn (pt.run _ s8 σ8 H8 _ I8 q8) fun b s9 ⟨H9, I9, q9⟩ => ?_
      have fin : ∀ {s' : Shared} {H' : Hp}, Inv (blkE X s3 H3 scope ce fp (notedBy (model X.prog X.w) X.A ce (CompFails (model X.prog X.w) X.A X.xe ce))) ([] ++ pinsAt fp s7.heap) σ8 H' s' → Nx H' → ∃ m, m < n ∧ ∃ i H', Inv (blkE X s3 H3 scope ce fp (notedBy (model X.prog X.w) X.A ce (CompFails (model X.prog X.w) X.A X.xe ce))) [] (wipe σ (own.map (·.2))) H' s' ∧ tn i s'.heap ∧ (∀ b ∈ fp, H' b = none) ∧ V i m H' := fun {s' H'} I' nx => by
        obtain ⟨m', hm, w'⟩ := hNx H' nx
        have pin' : ∀ b ∈ fp, ∀ o, s7.heap.get? b = some o → s'.heap.get? b = some o ∧ H' b = none := fun b hb o e =>
          let z := I'.pin (b, o) (List.mem_append_right _ (List.mem_append_right _ (mem_pinsAt hb e)))
          ⟨z.1, z.2.1⟩
        have hl : (wipe σ (own.map (·.2))).length = σ8.length := by rw [← hw8, wipe_length]
        refine ⟨m', hm, i + 1, H', (I'.unpinned (pins := [])).weak hl (fun j v e => ?_), T.keep _ _ _ st7 fun b hb o e => (pin' b hb o e).1, fun b hb => ?_, w'⟩
        · rw [← hw8] at e
          exact (wipe_some e).1
        · obtain ⟨o, e, _⟩ := T.obj _ _ st7 b hb
          exact (pin' b hb o e).2
      cases b with
      | false =>
        simp only [Bool.false_eq_true, if_false] at q9 ⊢
        exact fin I9 q9
      | true =>
        simp only [if_true] at q9 ⊢
        refine thn (pe.run _ s9 σ8 H9 _ I9 q9) fun z s10 ⟨yv, H10, I10, r10, acc, hD10, hz10, nx⟩ => ?_
        exact app_ok (X := blkE X s3 H3 scope ce fp (notedBy (model X.prog X.w) X.A ce (CompFails (model X.prog X.w) X.A X.xe ce))) I10 hD10 hz10 r10 fun s11 I11 => fin I11 nx
  exact codeAny_compStart_list loop (T.self X.A 0 _ _ _ st4 loop)
/-- name = [..] on one line, the name a local -/
theorem ps_setLcX {i : Nat} {y : Str} {py : Pos} {elt tg iter : Expr} {ifs : List Expr} {scope : Scope} {own : List (Str × Nat)} {pos spos : Pos} {wi : TI} {g : TG} {tt : TT} {te : XK → TE} (hc : X.calm = true) (hN : X.N.Nodup) (hs : X.stack = X.env :: X.outer) (hf : X.env.frame = some X.env.locals) (tk : Takes X W)
    (hy : X.N[i]? = some y) (hyl : X.env.scope.names.lookup y = some .local) (hsw : swapsWith (.ListComp elt [⟨tg, iter, ifs, 0⟩] scope pos) (some (.Name y py)) spos.line X.env = pure true)
    (hi : PI X tg iter wi) (ok : BlkOk X.N X.env.scope scope own)
    (hg : ∀ (s : Shared) (H : Hp) (C : Addr) (cl : List (Str × Addr)) (fp : List Addr) (xe : Value → Shared → Prop), PG (blkE X s H scope (compEnvC scope cl C X.env) fp xe) tg g)
    (ht : ∀ (s : Shared) (H : Hp) (C : Addr) (cl : List (Str × Addr)) (fp : List Addr) (xe : Value → Shared → Prop), PTs (blkE X s H scope (compEnvC scope cl C X.env) fp xe) ifs tt)
    (he : ∀ (s : Shared) (H : Hp) (C : Addr) (cl : List (Str × Addr)) (fp : List Addr) (xe : Value → Shared → Prop) (E : XK),
      (∀ (pins : List (Addr × Obj)) (τ : L2.St) (K : Hp) (z : Shared) (e : Value) (s' : Shared), Inv (blkE X s H scope (compEnvC scope cl C X.env) fp xe) pins τ K z → CX X.prog X.w X.stack K z E e s' → xe e s') → PE (blkE X s H scope (compEnvC scope cl C X.env) fp xe) elt (te E))
    (hsf : ∀ x, foldedSetIterable iter X.env x = pure x := by intro _; rfl) : PS X (.Assign [.Name y py] (.ListComp elt [⟨tg, iter, ifs, 0⟩] scope pos) spos) (tAsg (tLcX wi g tt te (own.map (·.2)) W) (gName i)) := by
  refine ⟨fun pins s σ H D I h => ?_⟩
  rw [exec_Assign_Name_used _ _ _ _ hsw]
  refine wpAny_bind (wpAny_standAt (wpAny_bind ?_))
  show wpAny _ X.A (do let _ ← comprehension (.ListComp elt [⟨tg, iter, ifs, 0⟩] scope pos) scope X.env (firstIterPos [⟨tg, iter, ifs, 0⟩] pos) (newList []) false (eval iter X.env) (some (assign (.Name y py) X.env))) _ _ s
  have h : tLcX wi g tt te (own.map (·.2)) W σ H (fun x H1 => gName i x σ H1 D.nx) := h
  refine wpAny_bind (thn (lcx_core (use := some (assign (.Name y py) X.env)) (Qf := fun _ s' => SP X pins D .next s') hc hN hs hf tk I hi ok hg ht he hsf h fun L ce s' m H' I' q hn f => ?_) fun _ s' hq => wpAny_pure (wpAny_pure hq))
  show wpAny _ _ (assign (.Name y py) X.env (.ref L)) _ _ _
  refine wpAny_assign_Name (store_ok2 (v := V.ref L) I' hN hy (.inl hyl) rfl (fun s2 I2 ⟨a, sb, ha⟩ => ?_) (.inr hyl))
  obtain ⟨f0, f1, f2, f3, f4, f5⟩ := f
  have haC : ce.locals ≠ a := by
    rcases ha with z | z
    · rw [z]; exact f1
    · exact fun e => f4 y a z e.symm
  refine ⟨m, hn.sameBut sb haC, fun h3 sb3 => ?_⟩
  exact ⟨_, H', I2.turned (t' := s2.toks) (fun b o hb e => (sb3.2 b hb).trans e) f0 f1 f3 f4 f5, q⟩
end
end SB

/-! [S for .. in A if C], an exception of S leaves it -/
namespace FV
open PySem PySem.Spec PyProof.Rows L2 Evl SB
inductive RtC where
  | ok (xs : List PV) | ex (e : Xn)
def compX (Tg : PV → Env → Option Env) (C S : ES) (vs : List Nat) : List PV → List PV → Env → Option (RtC × Env)
  | [], acc, Γ => some (.ok acc, Γ)
  | x :: xs, acc, Γ => match Tg x Γ with
    | none => none
    | some Γ1 => match C Γ1 with
      | some (.ok (.bl true), Γ2) => match S Γ2 with
        | some (.ok y, Γ3) => compX Tg C S vs xs (acc ++ [y]) (wipeE Γ3 vs)
        | some (.ex e, Γ3) => some (.ex e, wipeE Γ3 vs)
        | none => none
      | some (.ok (.bl false), Γ2) => compX Tg C S vs xs acc (wipeE Γ2 vs)
      | _ => none
def eCompX (A : AS) (Tg : PV → Env → Option Env) (C S : ES) (vs : List Nat) : ES := fun Γ => match A Γ with
  | some (.ok xs, Γ1) => if (freeAt Γ1 vs && decide (xs.length ≤ 50000)) = true then match compX Tg C S vs xs [] (wipeE Γ1 vs) with
      | some (.ok ys, Γ2) => some (.ok (.lst .own ys), backE Γ1 Γ2 vs)
      | some (.ex e, Γ2) => some (.ex e, backE Γ1 Γ2 vs)
      | none => none
    else none
  | some (.ex e, Γ1) => some (.ex e, Γ1)
  | none => none
def tLcXM (wi : TI) (g : TG) (tt : TT) (te : XK → TE) (vs : List Nat) (E : L2.St → XK) : TE := tLcX wi (mG g) (mT tt) (fun E0 => mE (te E0)) vs fun cls d σ H => E σ cls d H
section
variable {c : Ct} {E : L2.St → XK} {tt : TT} {S C : ES} {AA : AS} {ms : List Bool} {g : TG} {Tg : PV → Env → Option Env}
theorem je_compX {wi : TI} {te : XK → TE} {vs : List Nat} (hi : JI c E wi AA) (hg : JG c ms g Tg) (ht : JT c E tt C) (he : ∀ E0 : XK, JE c (fun _ => E0) (te E0) S) (on : onlyAt ms vs) : JE c E (tLcXM wi g tt te vs E) (eCompX AA Tg C S vs) := by
  intro M G H σ Γ Γ' rr Q s e p
  show tLcM wi g tt (te fun cls d K => E σ cls d K) vs σ H Q
  refine r_lc ?_
  unfold eCompX at e
  cases q : AA Γ with
  | none => rw [q] at e; cases e
  | some o =>
    obtain ⟨o, Γ1⟩ := o
    rw [q] at e
    refine hi s q (fun xs hxs J G1 H1 g1 s1 it => ?_) fun x hx => by subst hx; cases e; exact p
    subst hxs
    simp only at e
    split at e
    · rename_i cond
      rw [Bool.and_eq_true] at cond
      have l5 : xs.length ≤ 50000 := of_decide_eq_true cond.2
      cases qc : compX Tg C S vs xs [] (wipeE Γ1 vs) with
      | none => rw [qc] at e; cases e
      | some w =>
        rw [qc] at e
        intro D nD
        have sw := s1.wipe vs
        have s0 : StX c M G1 (upd H1 D (.lst [])) (wipe σ vs) (wipeE Γ1 vs) [.ref D] [.lst .own []] := sw.newL nD (Ex.new nD) upd_same
        have g0 : Go M G1 H1 G1 (upd H1 D (.lst [])) := sw.goEx (Ex.new nD)
        refine ⟨fun i m H' => m = xs.length - i ∧ i ≤ xs.length ∧ ∃ G' Γi acc, acc.length ≤ i ∧ Go M G1 H1 G' H' ∧ StX c M G' H' (wipe σ vs) Γi [.ref D] [.lst .own acc] ∧ compX Tg C S vs (xs.drop i) acc Γi = some w,
          ⟨_, rfl, Nat.zero_le _, G1, _, [], Nat.le_refl _, g0, s0, by rw [List.drop_zero]; exact qc⟩, ?_⟩
        rintro i m H' ⟨rfl, hil, G', Γi, acc, la, go, st, ei⟩
        by_cases hlt : i < xs.length
        · refine .inr ⟨it.go go st.gh st.bh hlt, ?_⟩
          have ed : xs.drop i = xs[i] :: xs.drop (i + 1) := List.drop_eq_getElem_cons hlt
          rw [ed] at ei
          unfold compX at ei
          have hx : xs[i]? = some xs[i] := List.getElem?_eq_getElem hlt
          cases q1 : Tg xs[i] Γi with
          | none => rw [q1] at ei; cases ei
          | some Γ3 =>
            rw [q1] at ei
            simp only at ei
            cases q2 : C Γ3 with
            | none => rw [q2] at ei; cases ei
            | some o2 =>
              obtain ⟨o2, Γ4⟩ := o2
              rw [q2] at ei
              cases o2 with
              | ex x => cases ei
              | ok b =>
                cases b <;> try (cases ei; done)
                rename_i b
                refine ⟨fun H3 => ∃ G3 Γ5 acc', acc'.length ≤ i + 1 ∧ Go M G1 H1 G3 H3 ∧ StX c M G3 H3 (wipe σ vs) Γ5 [.ref D] [.lst .own acc'] ∧ compX Tg C S vs (xs.drop (i + 1)) acc' Γ5 = some w, fun H3 h => ⟨_, by omega, rfl, hlt, h⟩, fun v H'' y => mG_of ?_⟩
                obtain ⟨G2, go2, st2⟩ := it.yld go st.gh st.bh hx y st
                obtain ⟨Fd, rd, s3, back⟩ := StX.frameL (vs := [.ref D]) (xs := [.lst .own acc]) st2 rfl
                refine hg s3 q1 fun σ2 pn st4 => ⟨wipe_pin on pn, mT_of (ht st4 q2 ?_)⟩
                have fin : ∀ {G6 H6 Γ6} {us : List V} {ys : List PV}, StX c M G6 H6 σ2 Γ6 us ys → StX c M G6 H6 (wipe σ vs) (wipeE Γ6 vs) us ys := fun s => by
                  have := s.wipe vs
                  rwa [wipe_pin on pn] at this
                show ∀ G' H', _ → _ → _
                intro G5 H5 g5 s5
                obtain ⟨g6, s6⟩ := back (Go.trans .refl g5) s5
                cases b with
                | false =>
                  exact iteF ⟨G5, _, acc, Nat.le_succ_of_le la, (go.trans go2).trans g6, fin s6, ei⟩
                | true =>
                  refine iteT (mE_of ?_)
                  simp only at ei
                  cases q3 : S Γ4 with
                  | none => rw [q3] at ei; cases ei
                  | some o3 =>
                    obtain ⟨o3, Γ7⟩ := o3
                    rw [q3] at ei
                    cases o3 with
                    | ex x =>
                      cases ei
                      cases e
                      refine he _ s5 q3 ?_
                      show ∀ v d G' H', _ → _ → _ → _
                      intro v d G7 H7 g7 s7 hd
                      obtain ⟨g8, s8⟩ := back (g5.trans g7) s7
                      have s9 := fin (StX.tail (vs := [.ref D]) (xs := [.lst .own acc]) s8 rfl)
                      have gg := (go.trans go2).trans g8
                      exact p v d G7 H7 (g1.trans gg) (s1.back gg.g cond.1 s9) hd
                    | ok y =>
                      refine he _ s5 q3 ?_
                      show ∀ v G' H', _ → _ → _
                      intro u G7 H7 g7 s7
                      obtain ⟨g8, s8⟩ := back (g5.trans g7) s7
                      obtain ⟨accV, hD, lD, gD, sD⟩ := StX.grow s8
                      exact ⟨accV, hD, by rw [lD]; exact sz_lt (by omega), G7, _, acc ++ [y], by rw [List.length_append]; exact Nat.succ_le_succ la, ((go.trans go2).trans g8).trans gD, fin sD, ei⟩
        · have : i = xs.length := by omega
          subst this
          rw [List.drop_length] at ei
          unfold compX at ei
          cases ei
          cases e
          exact .inl ⟨it.stop go st.gh st.bh, p (.ref D) G' H' (g1.trans go) (s1.back go.g cond.1 st)⟩
    · cases e
end
section
variable {X : Cx} {W : WX}
theorem ps_setLcXM {E : L2.St → XK} {i : Nat} {y : Str} {py : Pos} {elt tg iter : Expr} {ifs : List Expr} {scope : Scope} {own : List (Str × Nat)} {pos spos : Pos} {wi : TI} {g : TG} {tt : TT} {te : XK → TE} (hc : X.calm = true) (hN : X.N.Nodup) (hs : X.stack = X.env :: X.outer) (hf : X.env.frame = some X.env.locals) (tk : Takes X fun cls d σ H => E σ cls d H)
    (hy : X.N[i]? = some y) (hyl : X.env.scope.names.lookup y = some .local) (hsw : swapsWith (.ListComp elt [⟨tg, iter, ifs, 0⟩] scope pos) (some (.Name y py)) spos.line X.env = pure true)
    (hi : PI X tg iter wi) (ok : BlkOk X.N X.env.scope scope own)
    (hg : ∀ (s : Shared) (H : Hp) (C : Addr) (cl : List (Str × Addr)) (fp : List Addr) (xe : Value → Shared → Prop), PG (blkE X s H scope (compEnvC scope cl C X.env) fp xe) tg g)
    (ht : ∀ (s : Shared) (H : Hp) (C : Addr) (cl : List (Str × Addr)) (fp : List Addr) (xe : Value → Shared → Prop), PTs (blkE X s H scope (compEnvC scope cl C X.env) fp xe) ifs tt)
    (he : ∀ (s : Shared) (H : Hp) (C : Addr) (cl : List (Str × Addr)) (fp : List Addr) (xe : Value → Shared → Prop) (E : XK),
      (∀ (pins : List (Addr × Obj)) (τ : L2.St) (K : Hp) (z : Shared) (e : Value) (s' : Shared), Inv (blkE X s H scope (compEnvC scope cl C X.env) fp xe) pins τ K z → CX X.prog X.w X.stack K z E e s' → xe e s') → PE (blkE X s H scope (compEnvC scope cl C X.env) fp xe) elt (te E))
    (hsf : ∀ x, foldedSetIterable iter X.env x = pure x := by intro _; rfl) : PS X (.Assign [.Name y py] (.ListComp elt [⟨tg, iter, ifs, 0⟩] scope pos) spos) (tAsg (tLcXM wi g tt te (own.map (·.2)) E) (gName i)) :=
  ps_setLcX hc hN hs hf tk hy hyl hsw hi ok (fun s H C cl fp xe => pg_m (hg s H C cl fp xe)) (fun s H C cl fp xe => pts_m (ht s H C cl fp xe)) (fun s H C cl fp xe E0 px => pe_m (he s H C cl fp xe E0 px)) hsf
end
end FV

/-! keywords of which the last ones are left out -/
namespace FV
open PySem PySem.Spec PyProof.Rows L2 Evl SB
section
variable {c : Ct} {E : L2.St → XK} {te : TE} {t tk : TA} {A AA : AS} {S : ES} {dvs : List V} {xs : List PV} {i : Nat}
end
end FV

/-! try with several clauses; C(.., k = v) in a try -/
namespace FV
open PySem PySem.Spec PyProof.Rows L2 Evl SB
section
variable {X : Cx} {Cz : CXT} {k n : Nat} {f C : Addr} {fd : FuncData} {ps ks : List Str} {sp : Sp} {E : L2.St → XK} {x : Str} {p pos : Pos} {e : Expr} {es : List Expr} {kws : List Keyword} {t tk : TA} {g : List Value → List Value → List Value} {gV : List V → List V → List V}
end
section
variable {c : Ct} {E : L2.St → XK} {te ta tb : TE} {t tk tA : TA} {ts : TS} {S T : ES} {A B : SS} {AA : AS} {i : Nat} {pins ms : List Bool}
/-! clauses -/
inductive ClF where
  | pr (cls i : Nat) (fld k : Str)
  | br (cls : Nat) (B : SS)
inductive JCl (c : Ct) (E : L2.St → XK) (pins : List Bool) : List Clz → List ClF → Prop
  | nil : JCl c E pins [] []
  | pr {cls i : Nat} {fld k : Str} {l : List Clz} {r : List ClF} (h : JCl c E pins l r) : JCl c E pins (⟨.ref (c.cm cls), some i, fun a cl d => tRet (tTupM (tCons (tC (.str k)) (tCons (tXf a cl d (c.cm cls) fld (tVar i)) tNil)))⟩ :: l) (.pr cls i fld k :: r)
  | br {cls : Nat} {ts : TS} {B : SS} {l : List Clz} {r : List ClF} (hB : JS c E pins ts B) (h : JCl c E pins l r) : JCl c E pins (⟨.ref (c.cm cls), none, fun _ _ _ => ts⟩ :: l) (.br cls B :: r)
def lkm (m : List (Nat × Nat × Bool)) (a b : Nat) : Option Bool := (m.find? fun t => t.1 == a && t.2.1 == b).map (·.2.2)
def hndl (m : List (Nat × Nat × Bool)) : List ClF → Xn → Env → Option (Out × Env)
  | [], _, _ => none
  | .pr cls i fld k :: r, e, Γ => match lkm m e.cls cls with
    | some true => if e.cls = cls ∧ e.fld = fld ∧ i < Γ.length then some (.rt (.tup [.str k, e.val]), Γ) else none
    | some false => hndl m r e Γ
    | none => none
  | .br cls B :: r, e, Γ => match lkm m e.cls cls with
    | some true => B Γ
    | some false => hndl m r e Γ
    | none => none
def ExmOk (c : Ct) (m : List (Nat × Nat × Bool)) : Prop := ∀ t ∈ m, PySem.W.exmOne c.K (.ref (c.cm t.1)) (.ref (c.cm t.2.1)) = some t.2.2
theorem exm_nil : ExmOk c [] := fun _ h => nomatch h
theorem exm_cons {a b : Nat} {t : Bool} {m : List (Nat × Nat × Bool)} (h : PySem.W.exmOne c.K (.ref (c.cm a)) (.ref (c.cm b)) = some t) (r : ExmOk c m) : ExmOk c ((a, b, t) :: m) := fun q hq => by
  rcases List.mem_cons.mp hq with rfl | hq
  · exact h
  · exact r q hq
theorem ExmOk.lk {m : List (Nat × Nat × Bool)} {a b : Nat} {t : Bool} (h : ExmOk c m) (e : lkm m a b = some t) : PySem.W.exmOne c.K (.ref (c.cm a)) (.ref (c.cm b)) = some t := by
  unfold lkm at e
  cases q : m.find? fun t => t.1 == a && t.2.1 == b with
  | none => rw [q] at e; cases e
  | some u =>
    rw [q] at e
    cases e
    have p := List.find?_some q
    rw [Bool.and_eq_true, beq_iff_eq, beq_iff_eq] at p
    have := h u (List.mem_of_find?_eq_some q)
    rw [p.1, p.2] at this
    exact this
theorem hndl_ok {Wout : WX} {m : List (Nat × Nat × Bool)} (hm : ExmOk c m) {l : List Clz} {r : List ClF} (h : JCl c E pins l r) : ∀ {M : Fm} {G H : Hp} {σ : L2.St} {Γ Γ' : Env} {e : Xn} {out : Out} {D : Ends} {v : V} {d : Addr}, StX c M G H σ Γ [v] [e.val] → H d = some (.xd [(e.fld, v)]) → hndl m r e Γ = some (out, Γ') →
    PosS c M G H σ pins Γ' E D out → wCl c.K Wout D l (.ref (c.cm e.cls)) (some d) σ H := by
  induction h with
  | nil => intro M G H σ Γ Γ' e out D v d s hd q p; cases q
  | @pr cls i fld k l r _ ih =>
    intro M G H σ Γ Γ' e out D v d s hd q p
    unfold hndl at q
    cases z : lkm m e.cls cls with
    | none => rw [z] at q; cases q
    | some b =>
      rw [z] at q
      cases b with
      | false => exact ⟨false, hm.lk z, (fun w => by cases w), fun _ => ih s hd q p⟩
      | true =>
        simp only at q
        split at q
        · rename_i hc
          obtain ⟨h1, h2, h3⟩ := hc
          cases q
          refine ⟨true, hm.lk z, fun _ a na => ?_, fun w => nomatch w⟩
          have hl : σ.length = Γ.length := s.len
          rw [h1]
          refine ⟨.ref a, List.getElem?_set_self (by omega), rfl, rfl, d, _, v, rfl, hd, by rw [← h2]; simp [List.lookup], by simp, fun q H2 nq e2 hq => ?_⟩
          have s2 : StX c M G H σ Γ [.str k, v] [.str k, e.val] := by
            obtain ⟨F1, F2, r, t, w⟩ := s
            exact ⟨[] ++ F1, F2, .cons (.fr .str) r, t, w⟩
          obtain ⟨G', g, s3⟩ := s2.newT nq e2 hq
          exact p _ σ G' H2 .refl g s3
        · cases q
  | @br cls ts B l r hB _ ih =>
    intro M G H σ Γ Γ' e out D v d s hd q p
    unfold hndl at q
    cases z : lkm m e.cls cls with
    | none => rw [z] at q; cases q
    | some b =>
      rw [z] at q
      cases b with
      | false => exact ⟨false, hm.lk z, (fun w => by cases w), fun _ => ih s hd q p⟩
      | true => exact ⟨true, hm.lk z, fun _ a na => hB s.drop q p, fun w => nomatch w⟩
end
end FV

/-! (text, {}) != (text, {}) -/
namespace SB
open PySem PySem.Spec PyProof.Rows L2
section
variable {X : Cx} {pins : List (Addr × Obj)} {σ : L2.St} {H : Hp} {s : Shared}
/-- an empty dict is one by any kind of keys -/
theorem empty_at (I : Inv X pins σ H s) {a : Addr} (h : Rd H a (.dK [])) : (a == sysModules) = false ∧ ∀ (P : Program) (w : World), s.heap.DictOf (mixKind P w) a [] := by
  obtain ⟨_, y, vs, kv, o, es, ep, ho, ex, hd, _, pr, _⟩ := dk_rd I.hok h
  have e : vs = [] := by
    unfold KV at kv
    cases kv
    rfl
  subst e
  have e2 : es.toList = [] := by
    generalize es.toList = l at pr
    cases pr
    rfl
  have e3 : es = #[] := Array.toList_eq_nil_iff.mp e2
  subst e3
  exact ⟨y, fun P w => ⟨o, #[], ep, ho, ex, hd, fun e he => absurd he (by simp), .nil, .nil⟩⟩
theorem eq_empty (I : Inv X pins σ H s) {A : Around} (hu : A.units < cLine) {a b : Addr} (ha : Rd H a (.dK [])) (hb : Rd H b (.dK [])) : SeqAt.EqAt A s (.ref a) (.ref b) true := by
  by_cases e : a = b
  · subst e
    exact SeqAt.EqAt.same _
  · obtain ⟨ya, da⟩ := empty_at I ha
    obtain ⟨yb, db⟩ := empty_at I hb
    exact SeqAt.EqAt.of_refs e fun prog w E Q h => PySem.W.keq_eq (knd := mixKind prog w) (r := true) ya yb (da prog w) (db prog w) hu (fun _ => .nil) h
def rNeT (K : PySem.W.Frag) : R2 := fun x y H Q => ∃ p q s t a b, x = .ref p ∧ y = .ref q ∧ SqT K H p [.str s, .ref a] ∧ SqT K H q [.str t, .ref b] ∧ Rd H a (.dK []) ∧ Rd H b (.dK []) ∧ Q (.bl (!(s == t))) H
theorem op_neT (hu : X.A.units + 64 < cLine) : OpR X (compareOp .NotEq) (rNeT X.K) := by
  intro pins s σ H x y v u Q I rx ry h
  obtain ⟨p, q, s1, t1, a, b, rfl, rfl, hp, hq, ha, hb, hQ⟩ := h
  obtain rfl : v = Value.ref p := rx
  obtain rfl : u = Value.ref q := ry
  obtain ⟨its, rv, tp, _⟩ := I.tuple hp
  obtain ⟨its2, rv2, tp2, _⟩ := I.tuple hq
  obtain ⟨z1, l1, rfl, ⟨k1, rfl⟩, r1⟩ : ∃ z l, its = z :: l ∧ RelV (V.str s1) z ∧ Vals [V.ref a] l := by cases rv with | cons h t => exact ⟨_, _, rfl, h, t⟩
  obtain ⟨z2, l2, rfl, e2, r2⟩ : ∃ z l, l1 = z :: l ∧ RelV (V.ref a) z ∧ Vals [] l := by cases r1 with | cons h t => exact ⟨_, _, rfl, h, t⟩
  obtain ⟨z3, l3, rfl, ⟨k3, rfl⟩, r3⟩ : ∃ z l, its2 = z :: l ∧ RelV (V.str t1) z ∧ Vals [V.ref b] l := by cases rv2 with | cons h t => exact ⟨_, _, rfl, h, t⟩
  obtain ⟨z4, l4, rfl, e4, r4⟩ : ∃ z l, l3 = z :: l ∧ RelV (V.ref b) z ∧ Vals [] l := by cases r3 with | cons h t => exact ⟨_, _, rfl, h, t⟩
  obtain rfl : z2 = Value.ref a := e2
  obtain rfl : z4 = Value.ref b := e4
  cases r2
  cases r4
  have hl : s.heap.IsTuple p #[Value.str s1 k1, .ref a] := by obtain ⟨o, h1, h2, n, h3⟩ := tp; exact ⟨o, h1, h2, n, h3⟩
  have hl2 : s.heap.IsTuple q #[Value.str t1 k3, .ref b] := by obtain ⟨o, h1, h2, n, h3⟩ := tp2; exact ⟨o, h1, h2, n, h3⟩
  have R := SeqAt.RcNeAt.tuples (A := X.A) (s := s) (e := fun j => if j = 0 then s1 == t1 else true) hl hl2 (by omega) fun j j1 j2 => by
    match j, j1, j2 with
    | 0, _, _ => exact SeqAt.EqAt.str_str s1 k1 t1 k3
    | 1, _, _ => exact eq_empty I (show X.A.units + 1 < cLine by omega) ha hb
    | n + 2, h, _ => exact absurd (show n + 2 < 2 from h) (by omega)
  refine R X.prog X.w X.xe _ ?_
  refine fin_bl I hQ ?_
  simp [List.range, List.range.loop]
theorem k_neT {K : PySem.W.Frag} (e : X.K = K) (hu : X.A.units + 64 < cLine) : OpR X (compareOp .NotEq) (rNeT K) := e ▸ op_neT hu
end
end SB

/-! != of data, of (text, {}) too -/
namespace FV
open PySem PySem.Spec PyProof.Rows L2 Evl SB
section
variable {c : Ct} {G B H : Hp}
def oNeT : PV → PV → Option PV
  | .tup [.str s, .dk _ [] []], .tup [.str t, .dk _ [] []] => some (.bl (!(s == t)))
  | _, _ => none
theorem rd_dk0 (gh : GH G H) (bh : GH B H) {v : V} {o : Ow} {F : List Addr} (r : Rp c G B H v (.dk o [] []) F) : ∃ a, v = .ref a ∧ Rd H a (.dK []) := by
  cases r with
  | fr r => cases r with
    | dk a _ _ => exact ⟨_, rfl, gh.rd a⟩
  | dk a _ _ => exact ⟨_, rfl, .inl a⟩
  | dkB a _ _ => exact ⟨_, rfl, bh.rd a⟩
theorem sq_sd (gh : GH G H) (bh : GH B H) {v : V} {s : Str} {o : Ow} {F : List Addr} (r : Rp c G B H v (.tup [.str s, .dk o [] []]) F) : ∃ p a, v = .ref p ∧ SqT c.K H p [.str s, .ref a] ∧ Rd H a (.dK []) := by
  have go : ∀ {vs : List V} {F : List Addr}, Rps c G B H vs [.str s, .dk o [] []] F → ∃ a, vs = [.str s, .ref a] ∧ Rd H a (.dK []) := by
    intro vs F rs
    cases rs with
    | cons r1 rs =>
      cases rs with
      | cons r2 rs =>
        cases rs
        obtain ⟨a, rfl, h⟩ := rd_dk0 gh bh r2
        cases r1 with
        | fr q => cases q; exact ⟨a, rfl, h⟩
  cases r with
  | fr r => cases r with
    | tup t rs =>
      obtain ⟨a, rfl, h⟩ := go (Frs.rps rs)
      exact ⟨_, a, rfl, gh.sqT t.sq, h⟩
  | tup t rs =>
    obtain ⟨a, rfl, h⟩ := go rs
    exact ⟨_, a, rfl, gh.sqT t.sq, h⟩
theorem jo_neT : JO c (rNeT c.K) oNeT := by
  intro M G H σ Γ va vb x y z Q s e p
  obtain ⟨F1, F2, r1, r2, k⟩ := s.two
  unfold oNeT at e
  split at e
  · cases e
    obtain ⟨p1, a, rfl, h1, h2⟩ := sq_sd s.gh s.bh r1
    obtain ⟨p2, b, rfl, h3, h4⟩ := sq_sd s.gh s.bh r2
    exact ⟨_, _, _, _, a, b, rfl, rfl, h1, h3, h2, h4, p _ G H .refl (s.sc .bl)⟩
  · cases e
def oNeQ : PV → PV → Option PV := oOr (oEq2 true) oNeT
theorem k_neQ {X : Cx} (K : PySem.W.Frag) (e : X.K = K) (hu : X.A.units + 64 < cLine) : OpR X (compareOp .NotEq) (r2Or (r2Or (r2Or rNe (rNeD K)) (rEqDF true)) (rNeT K)) := op_or (k_neU2 K e hu) (k_neT e hu)
theorem jo_neQ : JO c (r2Or (r2Or (r2Or rNe (rNeD c.K)) (rEqDF true)) (rNeT c.K)) oNeQ := jo_or2 jo_ne2 jo_neT
end
end FV

/-! a lambda handed to a def that calls it in a try -/
namespace FV
open PySem PySem.Spec PyProof.Rows L2 Evl SB LamX
section
variable {c : Ct} {M : Fm} {G H H1 : Hp} {σ : L2.St} {Γ : Env} {vs : List V} {xs : List PV} {F : List Addr}
theorem ext_ob (e : ExtN H H1) {a : Addr} (h : ∃ o, H a = some o ∧ isOb o = true) : H1 a = H a := by
  obtain ⟨o, h1, h2⟩ := h
  rw [h1]
  exact e a o h1 fun ps z => by rw [z] at h2; cases h2
theorem ext_on (e : ExtN H H1) {a : Addr} (l : H a ≠ none) (n : ∀ ps, H a ≠ some (.tbl ps)) : H1 a = H a := by
  cases q : H a with
  | none => exact absurd q l
  | some o => exact e a o q fun ps z => n ps (by rw [q, z])
/-- the tables grow, nothing else changes -/
theorem GH.extN {B : Hp} (g : GH B H) (e : ExtN H H1) (n : ∀ a o, B a = some o → ∀ ps, H a ≠ some (.tbl ps)) : GH B H1 := fun a o h => by
  rcases g a o h with k | ⟨d, ob, k⟩
  · exact .inl (e a o k fun ps z => n a o h ps (by rw [k, z]))
  · exact .inr ⟨d, ob, e a _ k fun ps z => nomatch z⟩
theorem Wo.extN (w : Wo c M G H F) (e : ExtN H H1) (t : Tabs c.T H1) : Wo c M G H1 F := by
  have on : ∀ a, M.Φ a ∨ M.Λ a → H1 a = H a := fun a h => ext_on e (w.al a h) (w.nt.1 a h)
  refine ⟨w.gh.extN e fun a o h ps z => ?_, w.bh.extN e fun a o h => w.nt.1 a (.inl (w.bp a (by rw [h]; exact fun z => nomatch z))), w.bp, fun a h => by rw [on a h]; exact w.al a h, w.nd, w.gf, w.ff, fun a h ws => by rw [on a (.inl h)]; exact w.pt a h ws, t, fun a h => ?_, ⟨fun a h ps => by rw [on a h]; exact w.nt.1 a h ps, w.nt.2⟩⟩
  · rcases w.gh a o h with k | ⟨_, _, k⟩
    · exact w.nt.2 a ps (h.trans (k.symm.trans z))
    · rw [k] at z; cases z
  · rw [ext_ob e (w.sp a h)]
    exact w.sp a h
theorem StX.extN (s : StX c M G H σ Γ vs xs) (e : ExtN H H1) (t : Tabs c.T H1) : StX c M G H1 σ Γ vs xs ∧ Go M G H G H1 := by
  obtain ⟨F1, F2, r, l, w⟩ := s
  exact ⟨⟨F1, F2, r.up (Ex.refl _) fun a h => ext_ob e (w.sp a (List.mem_append_left _ h)), l.up (Ex.refl _) fun a h => ext_ob e (w.sp a (List.mem_append_right _ h)), w.extN e t⟩, ⟨Ex.refl _, fun a h => ext_on e (w.al a h) (w.nt.1 a h)⟩⟩
end
/-- try: return a(), the clauses: what it makes of the lambda's reading -/
def TTry (K : PySem.W.Frag) (N : Nat) (l : List Clz) : (XK → Hp → VK → Prop) → Hp → VK → Prop := fun tl H Q =>
  tl (eTry N (wCl K (fun _ _ _ _ => False) { nx := fun _ H' => Q .non H', rt := Q } l)) H Q
theorem try_gives {X : Cx} {Ng : List Str} {x a q : Str} {sg : Scope} {g : Addr} {cdg : Value} {N : Nat} {p1 p2 p3 p8 : Pos} {h0 : ExceptHandler} {hds : List ExceptHandler} {l : List Clz} (hl : Ng.length = N) (h1 : ∀ f : Addr, (L2.start Ng [V.ref f])[0]? = some (some (V.ref f)))
    (hh : ∀ (s : Shared) (H : Hp), ClOk ((cxOf C8.CX0 X.prog X.w X.K X.mg X.base Ng x sg g cdg X.A X.stack s H C8.E0).nox) (h0 :: hds) l) :
    GivesTo X Ng x sg g cdg [.Try [.Return (some (.Call (.Name a p1) [] [] p2)) p3] (h0 :: hds) [] [] p8] a q (TTry X.K N l) := by
  intro f c' s H Q tl act hc h
  let D : Ends := { nx := fun _ H' => Q .non H', rt := Q }
  refine ⟨_, pss_one (ps_try (X := (cxOf C8.CX0 X.prog X.w X.K X.mg X.base Ng x sg g cdg X.A X.stack s H C8.E0).nox) (Wout := fun _ _ _ _ => False)
      (tb := fun W D σ H => σ[0]? = some (some (.ref f)) ∧ H c' = some (CodeO c' q) ∧ tl (eTry N W) H D.rt) rfl rfl LamX.takes0 (fun W pn xe tk po => ?_) (hh s H)), ?_⟩
  · refine ⟨fun pins s' σ H' D I h' => ?_⟩
    have hp := act (fun cls d σ' H' => σ'.length = N → W cls d σ' H') pn xe (eTry N W) p1 p2 (fun u s2 ⟨b, B, sI, pins2, σ2, H2, cls, d, e, I2, nb, up, sky, na, os, ag, w⟩ => tk u s2 ⟨b, B, sI, pins2, σ2, H2, cls, d, e, I2, nb, up, sky, na, os, ag, w (I2.len.trans hl)⟩) fun cls d σ' H' z k => z σ' k
    exact (pss_one (ps_ret (pos := p3) hp)).run pins s' σ H' D I h'
  · exact ⟨h1 f, hc, h⟩
/-! the caller's side -/
def hndlV (m : List (Nat × Nat × Bool)) (r : List ClF) (N : Nat) (e : Xn) : Option PV := match hndl m r e (List.replicate N none) with
  | some (.rt x, _) => some x
  | _ => none
/-- the def that got the lambda answers what it answers, or by its clauses -/
def eLam (m : List (Nat × Nat × Bool)) (r : List ClF) (N : Nat) (S : ES) : ES := fun Γ => match S Γ with
  | some (.ok x, Γ1) => some (.ok x, Γ1)
  | some (.ex e, Γ1) => match hndlV m r N e with
    | some x => some (.ok x, Γ1)
    | none => none
  | none => none
section
variable {c : Ct} {E E0 : L2.St → XK} {S : ES} {pins : List Bool}
theorem je_lam {m : List (Nat × Nat × Bool)} {l : List Clz} {r : List ClF} {N : Nat} {t : XK → TE} (hm : ExmOk c m) (hl : JCl c E0 pins l r) (hS : ∀ W : XK, JE c (fun _ => W) (t W) S) : JE c E (tLam c.T (TTry c.K N l) t) (eLam m r N S) := by
  intro M G H σ Γ Γ' rr Q s e p
  obtain ⟨Fw, w⟩ := s.wo
  refine ⟨w.tb, fun H1 eN t1 => ?_⟩
  obtain ⟨s1, g1⟩ := s.extN eN t1
  unfold eLam at e
  show t _ σ H1 Q
  cases q : S Γ with
  | none => rw [q] at e; cases e
  | some o =>
    obtain ⟨o, Γ1⟩ := o
    rw [q] at e
    refine hS _ s1 q ?_
    cases o with
    | ok x =>
      cases e
      exact fun v G' H' g s' => p v G' H' (g1.trans g) s'
    | ex x =>
      simp only at e
      cases q2 : hndlV m r N x with
      | none => rw [q2] at e; cases e
      | some y =>
        rw [q2] at e
        cases e
        intro v d G2 H2 g2 s2 hd σ' hσ
        obtain ⟨Fr, s3, back⟩ := call_core (ds := [none]) (xs := [x.val]) (Γ2 := Γ') s2 (.val .nil) rfl
        have s4 : StX c (M.plus Fr) G2 H2 σ' (List.replicate N none) [v] [x.val] := by
          obtain ⟨F1, F2, r3, t3, w3⟩ := s3
          cases t3
          exact ⟨F1, [], r3, Sls.nones N σ' hσ, w3⟩
        unfold hndlV at q2
        cases q3 : hndl m r x (List.replicate N none) with
        | none => rw [q3] at q2; cases q2
        | some o3 =>
          obtain ⟨o3, Γ3⟩ := o3
          rw [q3] at q2
          cases o3 with
          | rt z =>
            cases q2
            refine hndl_ok (E := E0) (pins := pins) hm hl s4 hd q3 ?_
            intro u σ5 G5 H5 pn g5 s5
            obtain ⟨F1, F2, r5, t5, w5⟩ := s5
            have s6 : StX c (M.plus Fr) G5 H5 [] [] ([u] ++ []) ([y] ++ []) := ⟨F1, [], r5, .nil, by rw [List.append_nil]; exact w5.left⟩
            obtain ⟨g6, s7⟩ := back (ds' := []) (vs' := []) (xs' := []) (us := [u]) (zs := [y]) (ws' := []) .nil g5 s6 rfl
            exact p u G5 H5 ((g1.trans g2).trans g6) s7
          | nx => cases q2
          | bk => cases q2
          | ct => cases q2
          | ex z => cases q2
end
end FV

/-! a lambda handed to a def: the rule as it is printed; defs that make lambdas -/
namespace FV
open PySem PySem.Spec PyProof.Rows L2 Evl SB LamX
section
variable {P : Program} {w : World} {K : PySem.W.Frag} {mg : Str → Option Value} {base : Heap}
/-- a def whose code object is known -/
theorem Fun_okC {x qual : Str} {st : Stmt} {f c : Addr} {fd : FuncData} {N ps : List Str} {k : Nat} {sp : Sp} (F : Fun K x qual st f fd) (hc : fd.code = .ref c) (S : FnScope N ps (defScope st)) (len : ∀ vs H Q E, sp vs H Q E → vs.length = ps.length)
    (body : ∀ (Ar : Around) (outer : List PySem.Env) (s : Shared) (H : Hp) (vs : List V) (Q : VK) (E : XK), Room k (Ar.deeper (envOfC qual (defScope st) s.heap.objs.size f (.ref c))) → sp vs H Q E →
      ∃ t, PSs (cxOf CX0 P w K mg base N qual (defScope st) f (.ref c) Ar outer s H E).nox (defBody st) t ∧ t { nx := fun _ H' => Q .non H', rt := Q } (L2.start N vs) H) : FnOk P w K mg base CX0 (k + 1) f fd ps sp := by
  rcases F.ex with ⟨oc, od, kV, dc, pmv, anv, cv, ctv, sl, rfl, lk, cin⟩
  cases (show cv = .ref c from hc)
  refine fn_of lk cin S len fun Ar outer s H vs Q E hr z => ?_
  rcases body Ar outer s H vs Q E hr z with ⟨t, h, q⟩
  exact ⟨t, h.nox, q⟩
end
theorem tabs_one {P : Addr} {q : Str} : ∀ p ∈ [(P, q)], p.1 = P → p.2 = q := fun p h _ => by
  rw [List.mem_singleton.mp h]
/-- g(lambda: body), g: try: return a(), the clauses -/
theorem pe_lamF {X : Cx} {T : List (Addr × Str)} {x a : Str} {st : Stmt} {g c P : Addr} {fd : FuncData} {Ng : List Str} {N k : Nat} {h0 : ExceptHandler} {hds : List ExceptHandler} {l : List Clz} {params : Arguments} {body : Expr} {scope : Scope} {t : XK → TE} {p lpos pos p1 p2 p3 p8 : Pos}
    (hg : Gl X x) (hm : X.mg x = some (.ref g)) (F : Fun X.K x x st g fd) (hb : L2.Binds X.K fd [a] []) (Sg : FnScope Ng [a] (defScope st)) (hl : Ng.length = N) (hNg : Ng[0]? = some a) (hva : Vis (defScope st) a)
    (hst : defBody st = [.Try [.Return (some (.Call (.Name a p1) [] [] p2)) p3] (h0 :: hds) [] [] p8]) (h1 : ∀ f : Addr, (L2.start Ng [V.ref f])[0]? = some (some (V.ref f)))
    (hh : ∀ (cdg : Value) (s : Shared) (H : Hp), ClOk ((cxOf C8.CX0 X.prog X.w X.K X.mg X.base Ng x (defScope st) g cdg X.A X.stack s H C8.E0).nox) (h0 :: hds) l)
    (TB : TabB X.base X.mg c P) (hcode : X.env.code = .ref c) (hmT : (P, X.env.qual ++ "<lambda>") ∈ T) (hu : ∀ p ∈ T, p.1 = P → p.2 = X.env.qual ++ "<lambda>") (hr : Room (k + 2) X.A) (L : LamS X.env.scope scope) (hdef : defaultsOf params X.env = ([], []))
    (hbind : ∀ (q : Str) (cl : List (Str × Addr)) (pm cv ctv : Value), bindArgs (PySem.W.kla_fn "<lambda>" q params body scope cl pm cv ctv) ⟨[], []⟩ = pure [])
    (hbody : ∀ (A : Around) (outer : List PySem.Env) (s : Shared) (H : Hp) (E : XK) (f c' : Addr), Room k (A.deeper (lamEnv X scope s.heap.objs.size f c')) → PE (lamCx X A outer s H E scope f c') body (t E))
    (hdb : (x == ("__debug__" : Str)) = false := by decide) (hd : (a == ("__debug__" : Str)) = false := by decide) (hcd : (a == ("__classdict__" : Str)) = false := by decide) :
    PE X (.Call (.Name x p) [.Lambda params body scope lpos] [] pos) (tLam T (TTry X.K N l) t) := by
  rcases F.ex with ⟨oc, od, kV, dc, pmv, anv, cv, ctv, sl, rfl, lk, cin⟩
  refine pe_lamcall hg hm F.kp lk cin hb Sg hNg hva ?_ TB hcode hmT hu hr L hdef hbind hbody hdb hd hcd
  rw [hst]
  exact try_gives hl h1 (hh cv)
/-- what a code object's fields tell, beside its table -/
def hdOf (vs : Array Value) (c P : Addr) : Bool := (match vs.getD 18 .none with | .str _ _ => true | _ => false) && (match vs.getD 7 .none with | .int _ _ => true | _ => false) && (match vs.getD 9 .none with | .bool _ => true | _ => false) && (match vs.getD 10 .none with | .int _ _ => true | _ => false) && c != P
theorem codeHd_lk {K : PySem.W.Frag} {h : Heap} {c P : Addr} {od : Option Addr} {vs : Array Value} {sl : Array (Option Value)} (X : K.In h) (l : K.lookup c = some ⟨.type "code", od, .fields vs, sl⟩) (e : vs[11]? = some (.ref P)) (g : hdOf vs c P = true) : PySem.W.CodeHd h c P := by
  refine PySem.W.codeHd_of_K X ?_
  unfold PySem.W.codeHdIn
  rw [l]
  show ((match (vs[11]? : Option Value) with | some (.ref P') => P' == P | _ => false) && _ && _ && _ && _ && _) = true
  rw [e]
  unfold hdOf at g
  simp only [Bool.and_eq_true] at g
  obtain ⟨⟨⟨⟨g1, g2⟩, g3⟩, g4⟩, g5⟩ := g
  simp only [Bool.and_eq_true]
  exact ⟨⟨⟨⟨⟨by simp, g1⟩, g2⟩, g3⟩, g4⟩, g5⟩
end FV

namespace SL
open PySem PySem.Spec PyProof.Rows L2 Evl SB FV
def b__law_well : FV.SS := (sRet (eCB oLst (aCons (eOp oMulI (eVar 0) (eCB cInt (aCons (eOp oGe (eVar 0) (eOp oPow (eC (.int 10)) (eC (.int 18)))) aNil))) (aCons (eOp oMod (eVar 0) (eC (.int 2147483647))) (aCons (eC (.int 0)) aNil)))))
def f__law_well : FV.FT := FV.funF 1 1 [false] b__law_well
def b__law_draw : FV.SS := (sSeq (sIf (eW [] (eOp oGt (eOp oSub (eVar 0) (eC (.int 0))) (eC (.int 0))))
    (sSeq (sW [false, false, true] (sSet 2 (eOp oMod (eOp oSub (eVar 0) (eC (.int 0))) (eVar 1))))
  (sSeq (sPut 0 some (fun _ x => x) fSetL [] (eC (.int 0)) (eW [] (eOp oFdiv (eOp oSub (eVar 0) (eC (.int 0))) (eVar 1))))
  (sRet (eMove 2))))
    sNext)
  (sSeq (sPut 0 some (fun _ x => x) fSetL [] (eC (.int 2)) (eW [] (eOp oAdd (eOp oSub (eVar 0) (eC (.int 2))) (eC (.int 1)))))
  (sSeq (sW [false, false, false, true] (sSet 3 (eOp oSub (eCB oLst (aCons (eC (.int 2147483647)) (aCons (eC (.int 2147483629)) (aCons (eC (.int 2147483587)) (aCons (eC (.int 2147483579)) (aCons (eC (.int 2147483563)) (aCons (eC (.int 2147483549)) (aCons (eC (.int 2147483543)) aNil)))))))) (eOp oMod (eOp oSub (eVar 0) (eC (.int 2))) (eC (.int 7))))))
  (sSeq (sW [false, false, false, false, true] (sSet 4 (eOp oMod (eOp oPow (eOp oAdd (eOp oAdd (eOp oSub (eVar 0) (eC (.int 1))) (eOp oMulI (eC (.int 7919)) (eOp oSub (eVar 0) (eC (.int 2))))) (eC (.int 1))) (eC (.int 5))) (eVar 3))))
  (sSeq (sW [false, false, false, false, true] (sSet 4 (eOp oMod (eOp oMulI (eOp oAdd (eVar 4) (eOp oSub (eVar 0) (eC (.int 2)))) (eOp oAdd (eOp oFdiv (eVar 4) (eC (.int 1009))) (eC (.int 69621)))) (eVar 3))))
  (sRet (eOp oMod (eOp oFdiv (eVar 4) (eC (.int 7))) (eVar 1))))))))
def f__law_draw : FV.FT := FV.funF 5 2 [false, false, true, true, true] b__law_draw
def b__law_spec : FV.SS := (sSeq (sSet 2 (eFz (eCB oLst (aCons (eC (.str "app")) (aCons (eC (.str "base")) (aCons (eC (.str "core")) (aCons (eC (.str "disk")) (aCons (eC (.str "edit")) (aCons (eC (.str "font")) (aCons (eC (.str "grid")) (aCons (eC (.str "hash")) (aCons (eC (.str "icon")) (aCons (eC (.str "jar")) aNil)))))))))))))
  (sSeq (sSet 2 (eFz (eSl (eVar 2) (eC .non) (eNoN (eOp oAdd (eC (.int 2)) (eQ (eCall f__law_draw [some 0, none] (aSlot 0 (aCons (eOp (oInt fun i j => some (.int (i - j))) (eVar 1) (eC (.int 1))) aNil)))))))))
  (sSeq (sSet 3 (eFz (eCB oLst (aCons (eC (.str "put")) (aCons (eC (.str "get")) (aCons (eC (.str "len")) (aCons (eC (.str "map")) (aCons (eC (.str "cut")) (aCons (eC (.str "zip")) aNil)))))))))
  (sSeq (sSet 4 (eC (.dk .own [] [])))
  (sSeq (sFor (src itemsS (eVar 2)) (gN 5)
    (sSeq (sSet 6 (eFz (eComp (src itemsS (eVar 2)) (gN 7) (eAnd (eOp (oEq2 true) (eVar 7) (eVar 5)) (eOp (oEq2 false) (eQ (eCall f__law_draw [some 0, none] (aSlot 0 (aCons (eC (.int 4)) aNil)))) (eC (.int 0)))) (eVar 7) [7])))
  (sSeq (sSet 8 (eFz (eComp (src itemsS (eVar 3)) (gN 9) (eOp (oEq2 false) (eQ (eCall f__law_draw [some 0, none] (aSlot 0 (aCons (eC (.int 3)) aNil)))) (eC (.int 0))) (eVar 9) [9])))
  (sSeq (sSet 10 (eFz (eComp (src itemsS (eVar 3)) (gN 9) (eOp (oEq2 false) (eQ (eCall f__law_draw [some 0, none] (aSlot 0 (aCons (eC (.int 2)) aNil)))) (eC (.int 0))) (eVar 9) [9])))
  (sSeq (sSet 11 (eFz (eComp (src itemsS (eVar 10)) (gN 9) (eOp (oEq2 false) (eQ (eCall f__law_draw [some 0, none] (aSlot 0 (aCons (eC (.int 3)) aNil)))) (eC (.int 0))) (eVar 9) [9])))
  (sSeq (sIf (eOp (oEq2 false) (eQ (eCall f__law_draw [some 0, none] (aSlot 0 (aCons (eC (.int 2)) aNil)))) (eC (.int 0)))
    (sPar3 6 8 10 (aCons (eFz (eOp oStep (eVar 6) (eUn oNeg (eC (.int 1))))) (aCons (eFz (eOp oStep (eVar 8) (eUn oNeg (eC (.int 1))))) (aCons (eFz (eOp oStep (eVar 10) (eUn oNeg (eC (.int 1))))) aNil))))
    sNext)
  (sPut 4 some (fun _ x => x) fPut [] (eVar 5) (eCB oTup (aCons (eVar 6) (aCons (eVar 8) (aCons (eVar 10) (aCons (eVar 11) (aCons (eOp (oEq2 false) (eQ (eCall f__law_draw [some 0, none] (aSlot 0 (aCons (eC (.int 3)) aNil)))) (eC (.int 0))) (aCons (eOp (oEq2 false) (eQ (eCall f__law_draw [some 0, none] (aSlot 0 (aCons (eC (.int 4)) aNil)))) (eC (.int 0))) aNil))))))))))))))
  (sRet (eMove 4)))))))
def f__law_spec : FV.FT := FV.funF 12 2 [false, false, true, true, true, true, true, true, true, true, true, true] b__law_spec
def b__law_one : FV.SS := (sRet (eOp oSub (eVar 1) (eQ (eCall f__law_draw [some 0, none] (aSlot 0 (aCons (eCB cLen (aCons (eVar 1) aNil)) aNil))))))
def f__law_one : FV.FT := FV.funF 2 2 [false, false] b__law_one
def b__law_row : FV.SS := (sSeq (sSet 1 (eFz (eComp (srcR1 (aCons (eC (.int 40)) aNil)) (gN 2) (eC (.bl true)) (eOp oAdd (eOp oAdd (eC (.str "x")) (eOp oSub (eC (.str "abcdefghij")) (eOp oFdiv (eVar 2) (eC (.int 10))))) (eOp oSub (eC (.str "abcdefghij")) (eOp oMod (eVar 2) (eC (.int 10))))) [2])))
  (sSeq (sSet 3 (eC (.dk .own [] [])))
  (sSeq (sFor (srcEn (aCons (eVar 1) aNil)) (gTp 2 (gCs (gN 2) (gCs (gN 4) gNs)))
    (sSeq (sSet 5 (eFz (eCB oLst (aCons (eOp oSub (eVar 1) (eOp oMod (eOp oAdd (eVar 2) (eC (.int 1))) (eC (.int 40)))) aNil))))
  (sSeq (sFor (srcR1 (aCons (eQ (eCall f__law_draw [some 0, none] (aSlot 0 (aCons (eC (.int 4)) aNil)))) aNil)) (gN 6)
    (sSeq (sSet 7 (eQ (eCall f__law_one [some 0, none] (aSlot 0 (aCons (eVar 1) aNil)))))
  (sIf (eAnd (eOp (oEq2 true) (eVar 7) (eVar 4)) (eOp (oIn true) (eVar 7) (eVar 5)))
    (sSet 5 (eFz (eOp oAdd (eCB oLst (aCons (eVar 7) aNil)) (eVar 5))))
    sNext)))
  (sPut 3 some (fun _ x => x) fPut [] (eVar 4) (eCB oTup (aCons (eVar 5) (aCons (eOp oRep (eCB oLst (aCons (eC (.str "put")) aNil)) (eQ (eCall f__law_draw [some 0, none] (aSlot 0 (aCons (eC (.int 2)) aNil))))) (aCons (eCB oLst aNil) (aCons (eCB oLst aNil) (aCons (eOp (oEq2 false) (eC (.int 1)) (eC (.int 0))) (aCons (eOp (oEq2 false) (eC (.int 1)) (eC (.int 0))) aNil)))))))))))
  (sRet (eMove 3)))))
def f__law_row : FV.FT := FV.funF 8 1 [false, true, true, true, true, true, true, true] b__law_row
def b_is_word : FV.SS := (sRet (eAnd (eCB cIsi (aCons (eVar 0) (aCons (eC (.raw (.ty "str"))) aNil))) (eAnd (eChain oLe oLe (eC (.int 1)) (eCB cLen (aCons (eVar 0) aNil)) (eC (.int 12))) (eCB cAll (aCons (eComp (src (fun x => match x with | .str z => some (z.cps.toList.map fun k => .str ⟨#[k]⟩) | _ => none) (eVar 0)) (gN 1) (eC (.bl true)) (eOp (oInS false) (eVar 1) (eC (.str "abcdefghijklmnopqrstuvwxyz"))) [1]) aNil)))))
def f_is_word : FV.FT := FV.funF 2 1 [false, true] b_is_word

def b_are_words : FV.SS := (sSeq (sIf (eOrB (eNot (eCB cIsi (aCons (eVar 0) (aCons (eC (.raw (.ty "tuple"))) aNil)))) (eOp oGt (eCB cLen (aCons (eVar 0) aNil)) (eVar 1)))
    (sRet (eC (.bl false)))
    sNext)
  (sRet (eAnd (eCB cAll (aCons (eComp (src itemsS (eVar 0)) (gN 2) (eC (.bl true)) (eQ (eCall f_is_word [none] (aCons (eVar 2) aNil))) [2]) aNil)) (eOp (oEq2 false) (eUn pLenS (eVar 0)) (eCB cLen (aCons (eVar 0) aNil))))))
def f_are_words : FV.FT := FV.funF 3 2 [false, false, true] b_are_words
def b_Library___init__ : FV.SS := (sSeq (sIf (eNot (eQ (eCall f_is_word [none] (aCons (eVar 1) aNil))))
    (sRaise 1 "part" (aCons (eC (.str "name")) aNil))
    sNext)
  (sSeq (sIf (eOrB (eNot (eQ (eCall f_are_words [none, none] (aCons (eVar 2) (aCons (eC (.int 12)) aNil))))) (eOp (oIn false) (eVar 1) (eVar 2)))
    (sRaise 1 "part" (aCons (eC (.str "needs")) aNil))
    sNext)
  (sSeq (sIf (eNot (eQ (eCall f_are_words [none, none] (aCons (eVar 3) (aCons (eC (.int 20)) aNil)))))
    (sRaise 1 "part" (aCons (eC (.str "defines")) aNil))
    sNext)
  (sSeq (sIf (eNot (eQ (eCall f_are_words [none, none] (aCons (eVar 4) (aCons (eC (.int 20)) aNil)))))
    (sRaise 1 "part" (aCons (eC (.str "uses")) aNil))
    sNext)
  (sSeq (sIf (eOrB (eNot (eQ (eCall f_are_words [none, none] (aCons (eVar 5) (aCons (eC (.int 20)) aNil))))) (eNot (eCB cAll (aCons (eComp (src itemsS (eVar 5)) (gN 8) (eC (.bl true)) (eOp (oIn false) (eVar 8) (eVar 4)) [8]) aNil))))
    (sRaise 1 "part" (aCons (eC (.str "weak")) aNil))
    sNext)
  (sSeq (sIf (eNot (eCB cIsi (aCons (eVar 6) (aCons (eC (.raw (.ty "bool"))) aNil))))
    (sRaise 1 "part" (aCons (eC (.str "eager")) aNil))
    sNext)
  (sSeq (sIf (eNot (eCB cIsi (aCons (eVar 7) (aCons (eC (.raw (.ty "bool"))) aNil))))
    (sRaise 1 "part" (aCons (eC (.str "own_first")) aNil))
    sNext)
  (sSeq (sSetF 0 some (fun _ x => x) 10 "name" (eVar 1))
  (sSeq (sSetF 0 some (fun _ x => x) 10 "needs" (eFz (eVar 2)))
  (sSeq (sSetF 0 some (fun _ x => x) 10 "defines" (eFz (eVar 3)))
  (sSeq (sSetF 0 some (fun _ x => x) 10 "uses" (eFz (eVar 4)))
  (sSeq (sSetF 0 some (fun _ x => x) 10 "weak" (eFz (eVar 5)))
  (sSeq (sSetF 0 some (fun _ x => x) 10 "eager" (eFz (eVar 6)))
  (sSetF 0 some (fun _ x => x) 10 "own_first" (eFz (eVar 7))))))))))))))))
def f_Library___init__ : FV.FT := FV.funF 9 8 [false, false, false, false, false, false, false, false, true] b_Library___init__

def b_Store___init__ : FV.SS := (sSeq (sIf (eNot (eCB cIsi (aCons (eVar 1) (aCons (eC (.raw (.ty "list"))) aNil))))
    (sRaise 2 "at" (aCons (eC .non) aNil))
    sNext)
  (sSeq (sSetF 0 some (fun _ x => x) 11 "kept" (eC (.dk .own [] [])))
  (sFor (srcEn (aCons (eVar 1) aNil)) (gTp 2 (gCs (gN 2) (gCs (gN 3) gNs)))
    (sSeq (sIf (eW [] (eOrB (eNot (eUn (pIsO 10) (eVar 3))) (eOrB (eOp (oIn false) (eFld 10 "name" (eVar 3)) (eFld 11 "kept" (eVar 0))) (eOp oGe (eVar 2) (eC (.int 40))))))
    (sRaise 2 "at" (aCons (eVar 2) aNil))
    sNext)
  (sPut 0 (pgF 11 "kept" some) (psF "kept" some (fun _ x => x)) fPut [] (eFld 10 "name" (eVar 3)) (eVar 3))))))
def f_Store___init__ : FV.FT := FV.funF 4 2 [false, false, true, true] b_Store___init__
def b__law_store : FV.SS := (sSeq (sSet 1 (eCB oLst aNil))
  (sSeq (sFor (src itemsS (eCB cSort2 (aCons (eVar 0) aNil))) (gN 2)
    (sSeq (sAsg (eFz (eOp oSub (eVar 0) (eVar 2))) (gTp 6 (gCs (gN 3) (gCs (gN 4) (gCs (gN 5) (gCs (gN 6) (gCs (gN 7) (gCs (gN 8) gNs))))))))
  (sSeq (sAsg (eFz (eCB oTup (aCons (eCB cTup (aCons (eVar 3) aNil)) (aCons (eCB cTup (aCons (eVar 4) aNil)) (aCons (eCB cTup (aCons (eVar 5) aNil)) (aCons (eCB cTup (aCons (eVar 6) aNil)) aNil)))))) (gTp 4 (gCs (gN 3) (gCs (gN 4) (gCs (gN 5) (gCs (gN 6) gNs))))))
  (sSeq (sSet 9 (eFz (eQ (eMake 10 f_Library___init__ [none, none, none, none, none, none, none] (aApp 6 (aCons (eVar 2) aNil) (aCons (eVar 3) (aCons (eVar 4) (aCons (eVar 5) (aCons (eVar 6) (aCons (eVar 7) (aCons (eVar 8) aNil)))))))))))
  (sDrop (eMth "list" 1 some (fun _ x => x) fAppend [] (aCons (eVar 9) aNil)))))))
  (sRet (eQ (eMake 11 f_Store___init__ [none] (aCons (eFz (eMove 1)) aNil))))))
def f__law_store : FV.FT := FV.funF 10 1 [false, true, true, true, true, true, true, true, true, true] b__law_store
def b_Store___contains__ : FV.SS := (sRet (eAnd (eQ (eCall f_is_word [none] (aCons (eVar 1) aNil))) (eOp (oIn false) (eVar 1) (eFld 11 "kept" (eVar 0)))))
def f_Store___contains__ : FV.FT := FV.funF 2 2 [false, false] b_Store___contains__

def b_Store___getitem__ : FV.SS := (sSeq (sIf (eQ (eInO 11 true f_Store___contains__ (eVar 1) (eVar 0)))
    (sRaise 3 "name" (aCons (eVar 1) aNil))
    sNext)
  (sRet (eOp oSub (eFld 11 "kept" (eVar 0)) (eVar 1))))
def f_Store___getitem__ : FV.FT := FV.funF 2 2 [false, false] b_Store___getitem__

def b_grown : FV.SS := (sSeq (sSet 3 (eFz (eComp (src itemsS (eFld 10 "needs" (eSubO 11 f_Store___getitem__ (eVar 0) (eVar 2)))) (gN 4) (eOp (oIn true) (eVar 4) (eVar 1)) (eVar 4) [4])))
  (sSeq (sFor (src itemsS (eVar 3)) (gN 4)
    (sIf (eQ (eInO 11 true f_Store___contains__ (eVar 4) (eVar 0)))
    (sRaise 4 "name" (aCons (eVar 4) aNil))
    sNext))
  (sRet (eOp oAdd (eVar 1) (eVar 3)))))
def f_grown : FV.FT := FV.funF 5 3 [false, false, false, true, true] b_grown
def b_closure : FV.SS := (sSeq (sSet 2 (eCB oLst (aCons (eFld 10 "name" (eSubO 11 f_Store___getitem__ (eVar 0) (eVar 1))) aNil)))
  (sSeq (sSet 3 (eC (.int 0)))
  (sSeq (whF (eW [] (eOp oLt (eVar 3) (eCB cLen (aCons (eVar 2) aNil))))
    (sSeq (sSet 2 (eW [] (eCall f_grown [none, none, none] (aCons (eVar 0) (aCons (eVar 2) (aCons (eOp oSub (eVar 2) (eVar 3)) aNil))))))
  (sAug 3 (oInt fun i j => some (.int (i + j))) (eC (.int 1)))) 1000000)
  (sRet (eMove 2)))))
def f_closure : FV.FT := FV.funF 4 2 [false, false, true, true] b_closure
def b__law_due : FV.SS := (sSeq (sSet 3 (eCB oLst (aCons (eVar 1) aNil)))
  (sSeq (sSet 4 (eC (.int 0)))
  (sSeq (whF (eW [] (eOp oLt (eVar 4) (eCB cLen (aCons (eVar 3) aNil))))
    (sSeq (sFor (src itemsS (eW [] (eOp oSub (eOp oSub (eVar 0) (eOp oSub (eVar 3) (eVar 4))) (eC (.int 0))))) (gN 5)
    (sSeq (sIf (eOp (oIn false) (eVar 5) (eVar 2))
    (sRet (eCB oTup (aCons (eC (.str "absent")) (aCons (eMove 5) aNil))))
    sNext)
  (sIf (eW [] (eOp (oIn true) (eVar 5) (eVar 3)))
    (sDrop (eMth "list" 3 some (fun _ x => x) fAppend [] (aCons (eVar 5) aNil)))
    sNext)))
  (sSet 4 (eOp oAdd (eVar 4) (eC (.int 1))))) 1000000)
  (sRet (eMove 3)))))
def f__law_due : FV.FT := FV.funF 6 3 [false, false, false, true, true, true] b__law_due

def b_check_symbol : FV.SS := (sIf (eNot (eQ (eCall f_is_word [none] (aCons (eVar 0) aNil))))
    (sRaise 5 "symbol" (aCons (eVar 0) aNil))
    sNext)
def f_check_symbol : FV.FT := FV.funF 1 1 [false] b_check_symbol
def b_definers : FV.SS := (sSeq (sSet 3 (eFz (eCompX (src itemsS (eVar 1)) (gN 4) (eC (.bl true)) (eSubO 11 f_Store___getitem__ (eVar 0) (eVar 4)) [4])))
  (sSeq (sDrop (eCall f_check_symbol [none] (aCons (eVar 2) aNil)))
  (sRet (eComp (src itemsS (eVar 3)) (gN 5) (eOp (oIn false) (eVar 2) (eFld 10 "defines" (eVar 5))) (eFld 10 "name" (eVar 5)) [5]))))
def f_definers : FV.FT := FV.funF 6 3 [false, false, false, true, true, true] b_definers
def b_law : FV.SS := (sSeq (sFor (src itemsS (eOp oCatS (eSl (eVar 0) (eC .non) (eNoN (eC (.int 10)))) (eCB oLst (aCons (eC (.int 0)) (aCons (eC (.int 1)) aNil))))) (gN 1)
    (sSeq (sSet 2 (eQ (eCall f__law_well [none] (aCons (eVar 1) aNil))))
  (sSeq (sSet 3 (eFz (eQ (eCall f__law_spec [some 2, none] (aSlot 2 (aCons (eC (.int 9)) aNil))))))
  (sSeq (sIf (eOp (oEq2 false) (eQ (eCall f__law_draw [some 2, none] (aSlot 2 (aCons (eC (.int 4)) aNil)))) (eC (.int 0)))
    (sSet 3 (eFz (eQ (eCall f__law_row [some 2] (aSlot 2 aNil)))))
    sNext)
  (sSeq (sSet 4 (eFz (eComp (src itemsS (eSl (eCB cSort2 (aCons (eVar 3) aNil)) (eNoN (eC (.int 1))) (eC .non))) (gN 5) (eOp (oEq2 false) (eQ (eCall f__law_draw [some 2, none] (aSlot 2 (aCons (eC (.int 6)) aNil)))) (eC (.int 0))) (eVar 5) [5])))
  (sSeq (sSet 6 (eC (.dk .own [] [])))
  (sSeq (sForK .keys (vVar 3) (gN 5)
    (sIf (eOp (oIn true) (eVar 5) (eVar 4))
    (sPut 6 some (fun _ x => x) fPut [] (eVar 5) (eOp oSub (eVar 3) (eVar 5)))
    sNext))
  (sSeq (sW [false, false, false, false, false, false, false, true] (sSet 7 (eFz (eQ (eCall f__law_store [none] (aCons (eVar 6) aNil))))))
  (sSeq (sW [false, false, false, false, false, true, false, false, true, true] (sForK .keys (vVar 6) (gN 5)
    (sFor (srcR1 (aCons (eC (.int 2)) aNil)) (gN 8)
    (sSeq (sSet 9 (eLam [(3, 4, false), (3, 3, true), (5, 4, false), (5, 3, false), (5, 5, true), (4, 4, true)] [.pr 4 1 "name" "absent", .pr 3 1 "name" "name", .pr 5 1 "symbol" "symbol", .br 0 (sRet (eCB oTup (aCons (eC (.str "other")) (aCons (eC .non) aNil))))] 2 (eCall f_closure [none, none] (aCons (eVar 7) (aCons (eVar 5) aNil)))))
  (sSeq (sIf (eW [] (eOp (oEq2 true) (eVar 9) (eQ (eCall f__law_due [none, none, none] (aCons (eVar 3) (aCons (eVar 5) (aCons (eVar 4) aNil)))))))
    (sRet (eC (.bl false)))
    sNext)
  (sIf (eW [] (eCB cIsi (aCons (eVar 9) (aCons (eC (.raw (.ty "list"))) aNil))))
    (sDrop (eMth "list" 9 some (fun _ x => x) fClear [] aNil))
    sNext))))))
  (sSeq (sW [false, false, true, false, false, false, false, false, false, false, true] (sSet 10 (eComp (srcR1 (aCons (eQ (eCall f__law_draw [some 2, none] (aSlot 2 (aCons (eC (.int 9)) aNil)))) aNil)) (gN 11) (eC (.bl true)) (eQ (eCall f__law_one [some 2, none] (aSlot 2 (aCons (eFz (eCB cSort2 (aCons (eVar 6) aNil))) aNil)))) [11])))
  (sSeq (sW [false, false, false, false, false, true, false, false, false, false, false, false, true] (sSet 12 (eFz (eComp (src itemsS (eVar 10)) (gN 5) (eOp (oIn false) (eC (.str "put")) (eOp oSub (eOp oSub (eVar 6) (eVar 5)) (eC (.int 1)))) (eVar 5) [5]))))
  (sSeq (sIf (eW [] (eOrB (eOp (oEq2 true) (eQ (eCall f_definers [none, none, none] (aCons (eVar 7) (aCons (eVar 10) (aCons (eC (.str "put")) aNil))))) (eVar 12)) (eOp (oEq2 true) (eQ (eCall f_definers [none, none, none] (aCons (eVar 7) (aCons (eFz (eCB oLst aNil)) (aCons (eC (.str "put")) aNil))))) (eCB oLst aNil))))
    (sRet (eC (.bl false)))
    sNext)
  (sSeq (sSet 13 (eFz (eCB cList (aCons (eVar 12) aNil))))
  (sSeq (sDrop (eClearV (eQ (eCall f_definers [none, none, none] (aCons (eVar 7) (aCons (eVar 13) (aCons (eC (.str "put")) aNil)))))))
  (sSeq (sIf (eOp (oEq2 true) (eVar 13) (eVar 12))
    (sRet (eC (.bl false)))
    sNext)
  (sSeq (sSet 14 (eFz (eQ (eCall f__law_one [some 2, none] (aSlot 2 (aCons (eFz (eCB oLst (aCons (eC .non) (aCons (eC (.str "nolib")) (aCons (eC (.int 7)) (aCons (eCB oLst aNil) (aCons (eC (.dk .own [] [])) (aCons (eCB oTup (aCons (eC (.str "app")) aNil)) (aCons (eOp (oEq2 false) (eC (.int 1)) (eC (.int 1))) (aCons (eC (.str "")) aNil)))))))))) aNil))))))
  (sSeq (sW [false, false, true, false, false, false, false, false, false, false, false, false, false, false, false, true] (sSet 15 (eQ (eCall f__law_draw [some 2, none] (aSlot 2 (aCons (eOp oAdd (eCB cLen (aCons (eVar 10) aNil)) (eC (.int 1))) aNil))))))
  (sSeq (sIf (eOp oNeQ (eLam [(3, 4, false), (3, 3, true), (5, 4, false), (5, 3, false), (5, 5, true), (4, 4, true)] [.pr 4 1 "name" "absent", .pr 3 1 "name" "name", .pr 5 1 "symbol" "symbol", .br 0 (sRet (eCB oTup (aCons (eC (.str "other")) (aCons (eC .non) aNil))))] 2 (eCall f_closure [none, none] (aCons (eVar 7) (aCons (eVar 14) aNil)))) (eCB oTup (aCons (eC (.str "name")) (aCons (eVar 14) aNil))))
    (sRet (eC (.bl false)))
    sNext)
  (sSeq (sSet 10 (eW [] (eOp oAdd (eOp oAdd (eSl (eVar 10) (eC .non) (eNoN (eVar 15))) (eCB oLst (aCons (eVar 14) aNil))) (eSl (eVar 10) (eNoN (eVar 15)) (eC .non)))))
  (sSeq (sIf (eW [false, false, true] (eOp oNeQ (eLam [(3, 4, false), (3, 3, true), (5, 4, false), (5, 3, false), (5, 5, true), (4, 4, true)] [.pr 4 1 "name" "absent", .pr 3 1 "name" "name", .pr 5 1 "symbol" "symbol", .br 0 (sRet (eCB oTup (aCons (eC (.str "other")) (aCons (eC .non) aNil))))] 2 (eCall f_definers [none, none, none] (aCons (eVar 7) (aCons (eVar 10) (aCons (eFz (eQ (eCall f__law_one [some 2, none] (aSlot 2 (aCons (eFz (eCB oLst (aCons (eC (.str "put")) (aCons (eC (.int 7)) aNil)))) aNil))))) aNil))))) (eCB oTup (aCons (eC (.str "name")) (aCons (eVar 14) aNil)))))
    (sRet (eC (.bl false)))
    sNext)
  (sSeq (sSet 16 (eFz (eQ (eCall f__law_one [some 2, none] (aSlot 2 (aCons (eFz (eCB oLst (aCons (eC .non) (aCons (eC (.str "")) (aCons (eC (.str "A")) (aCons (eC (.int 7)) (aCons (eCB oLst aNil) (aCons (eC (.dk .own [] [])) (aCons (eCB oTup (aCons (eC (.str "put")) aNil)) (aCons (eOp (oEq2 false) (eC (.int 1)) (eC (.int 0))) (aCons (eC (.str "abcdefghijklm")) aNil))))))))))) aNil))))))
  (sSeq (sDrop (eMth "list" 10 some (fun _ x => x) fPopAt [] (aCons (eVar 15) aNil)))
  (sIf (eW [] (eOp oNeQ (eLam [(3, 4, false), (3, 3, true), (5, 4, false), (5, 3, false), (5, 5, true), (4, 4, true)] [.pr 4 1 "name" "absent", .pr 3 1 "name" "name", .pr 5 1 "symbol" "symbol", .br 0 (sRet (eCB oTup (aCons (eC (.str "other")) (aCons (eC .non) aNil))))] 2 (eCall f_definers [none, none, none] (aCons (eVar 7) (aCons (eVar 10) (aCons (eVar 16) aNil))))) (eCB oTup (aCons (eC (.str "symbol")) (aCons (eVar 16) aNil)))))
    (sRet (eC (.bl false)))
    sNext)))))))))))))))))))))))
  (sRet (eC (.bl true))))
def f_law : FV.FT := FV.funF 17 1 [false, true, true, true, true, true, true, true, true, true, true, true, true, true, true, true, true] b_law
end SL
namespace FV
open PySem PySem.Spec PyProof.Rows L2 Evl SB
theorem frs_ints {c : Ct} {G : Hp} : ∀ ns : List Int, Frs c G (ns.map V.int) (ns.map PV.int)
  | [] => .nil
  | n :: ns => .cons .int (frs_ints ns)
/-- the law's promise where its entry has tables, all empty -/
def spLawT (K : PySem.W.Frag) (T : List (Addr × Str)) : Sp := fun vs H Q E => spLaw K vs H Q E ∧ ∀ p ∈ T, H p.1 = some (.tbl #[])
/-- the heap but for its tables -/
def offT (H : Hp) : Hp := fun a => match H a with
  | some (.tbl _) => none
  | o => o
theorem offT_on {H : Hp} {a : Addr} {o : HO} (h : offT H a = some o) : H a = some o ∧ ∀ ps, o ≠ .tbl ps := by
  unfold offT at h
  split at h
  · cases h
  · rename_i n
    exact ⟨h, fun ps z => n ps (by rw [h, z])⟩
theorem offT_of {H : Hp} {a : Addr} {o : HO} (h : H a = some o) (n : ∀ ps, o ≠ .tbl ps) : offT H a = some o := by
  unfold offT
  rw [h]
  split
  · rename_i ps z
    exact absurd (Option.some.inj z) (n ps)
  · rfl
theorem offT_sq {K : PySem.W.Frag} {H : Hp} {a : Addr} {vs : List V} (h : SqL K H a vs) : SqL K (offT H) a vs := by
  rcases h with (h | ⟨o, h⟩) | h
  · exact .inl (.inl (offT_of h fun _ z => nomatch z))
  · exact .inl (.inr ⟨o, offT_of h fun _ z => nomatch z⟩)
  · exact .inr h
theorem wo_all {c : Ct} {H : Hp} (t : ∀ p ∈ c.T, H p.1 = some (.tbl #[])) : Wo c ⟨fun _ => none, fun _ => False, fun _ => False⟩ (offT H) H [] where
  gh := fun _ _ h => .inl (offT_on h).1
  bh := fun _ _ h => nomatch h
  bp := fun _ h => absurd rfl h
  al := fun _ h => (h.elim id id).elim
  nd := List.nodup_nil
  gf := fun _ h => (h.elim (fun z => nomatch z) id).elim
  ff := fun _ h => nomatch h
  pt := fun _ h => h.elim
  tb := fun p hp => LamX.TabS.nil (t p hp)
  sp := fun _ h => nomatch h
  nt := ⟨fun _ h => (h.elim id id).elim, fun a ps h => (offT_on h).2 ps rfl⟩
/-- a function that answers True at every script keeps the law's promise -/
theorem sp_lawN {c : Ct} {f : FT} {vs : List V} {H : Hp} {Q : VK} {E : XK} (h : spLawT c.K c.T vs H Q E) (hf : ∀ ns : List Int, ns.length ≤ 63 → ∃ ys, f [.lst .scr (ns.map .int)] = some (.ok (.bl true), ys)) : spF c 1 f vs H Q E := by
  obtain ⟨⟨a, ns, rfl, hs, hn, k⟩, ht⟩ := h
  obtain ⟨ys, e⟩ := hf ns hn
  refine ⟨rfl, ⟨fun _ => none, fun _ => False, fun _ => False⟩, offT H, [.lst .scr (ns.map .int)], .ok (.bl true), ys, ⟨[] ++ [], [], .cons (.fr (.lstS (offT_sq hs) (frs_ints ns))) .nil, .nil, wo_all ht⟩, e, ?_⟩
  intro v G' H' _ s
  obtain ⟨F1, F2, r, _, _⟩ := s
  cases r with
  | cons r _ =>
    rw [rp_bl r]
    exact k H'
theorem sp_law {c : Ct} {f : FT} (hf : ∀ ns : List Int, ∃ ys, f [.lst .scr (ns.map .int)] = some (.ok (.bl true), ys)) {vs : List V} {H : Hp} {Q : VK} {E : XK} (h : spLawT c.K c.T vs H Q E) : spF c 1 f vs H Q E := sp_lawN h fun ns _ => hf ns
theorem fnOk_sp {P : Program} {w : World} {K : PySem.W.Frag} {mg : Str → Option Value} {base : Heap} {CX : CXT} {k : Nat} {f : Addr} {fd : FuncData} {ps : List Str} {sp sp' : Sp} (h : FnOk P w K mg base CX k f fd ps sp) (i : ∀ vs H Q E, sp' vs H Q E → sp vs H Q E) : FnOk P w K mg base CX k f fd ps sp' :=
  ⟨fun vs H Q E z => h.len vs H Q E (i _ _ _ _ z), fun A outer s H args us vs Q E a b c d z => h.run A outer s H args us vs Q E a b c d (i _ _ _ _ z)⟩
end FV

namespace FV
open PySem PySem.Spec PyProof.Rows L2 Evl SB
/-- the same, of scripts as long as a law's script may be -/
theorem sp_law63 {c : Ct} {f : FT} (hf : ∀ ns : List Int, ns.length ≤ 63 → ∃ ys, f [.lst .scr (ns.map .int)] = some (.ok (.bl true), ys)) {vs : List V} {H : Hp} {Q : VK} {E : XK} (h : spLawT c.K c.T vs H Q E) : spF c 1 f vs H Q E := sp_lawN h hf
end FV

namespace FV
open PySem PySem.Spec PyProof.Rows L2 Evl SB
mutual
theorem brw_no : ∀ {x : PV}, noOwn x = true → brw x = x
  | .non, _ | .bl _, _ | .int _, _ | .str _, _ | .raw _, _ | .gone, _ => rfl
  | .tup xs, h => by rw [brw, brws_no (by simpa [noOwn] using h)]
  | .lst o xs, h => by
    have : o ≠ .own ∧ noOwns xs = true := by simpa [noOwn] using h
    rw [brw, brws_no this.2]
    cases o <;> first | rfl | exact absurd rfl this.1
  | .dk o ks xs, h => by
    have : o ≠ .own ∧ noOwns xs = true := by simpa [noOwn] using h
    rw [brw, brws_no this.2]
    cases o <;> first | rfl | exact absurd rfl this.1
  | .dt o ks xs, h => by
    have : o ≠ .own ∧ noOwns xs = true := by simpa [noOwn] using h
    rw [brw, brws_no this.2]
    cases o <;> first | rfl | exact absurd rfl this.1
  | .ins o c ns xs, h => by
    have : o ≠ .own ∧ noOwns xs = true := by simpa [noOwn] using h
    rw [brw, brws_no this.2]
    cases o <;> first | rfl | exact absurd rfl this.1
theorem brws_no : ∀ {xs : List PV}, noOwns xs = true → brws xs = xs
  | [], _ => rfl
  | x :: xs, h => by
    have : noOwn x = true ∧ noOwns xs = true := by simpa [noOwns] using h
    rw [brws, brw_no this.1, brws_no this.2]
end
mutual
theorem fz_no : ∀ {x : PV}, noOwn x = true → noBrw x = true → fz x = x
  | .non, _, _ | .bl _, _, _ | .int _, _, _ | .str _, _, _ | .raw _, _, _ | .gone, _, _ => rfl
  | .tup xs, h, k => by rw [fz, fzs_no (by simpa [noOwn] using h) (by simpa [noBrw] using k)]
  | .lst o xs, h, k => by
    have h : o ≠ .own ∧ noOwns xs = true := by simpa [noOwn] using h
    have k : o ≠ .brw ∧ noBrws xs = true := by simpa [noBrw] using k
    rw [fz, fzs_no h.2 k.2]
    cases o <;> first | rfl | exact absurd rfl h.1 | exact absurd rfl k.1
  | .dk o ks xs, h, k => by
    have h : o ≠ .own ∧ noOwns xs = true := by simpa [noOwn] using h
    have k : o ≠ .brw ∧ noBrws xs = true := by simpa [noBrw] using k
    rw [fz, fzs_no h.2 k.2]
    cases o <;> first | rfl | exact absurd rfl h.1 | exact absurd rfl k.1
  | .dt o ks xs, h, k => by
    have h : o ≠ .own ∧ noOwns xs = true := by simpa [noOwn] using h
    have k : o ≠ .brw ∧ noBrws xs = true := by simpa [noBrw] using k
    rw [fz, fzs_no h.2 k.2]
    cases o <;> first | rfl | exact absurd rfl h.1 | exact absurd rfl k.1
  | .ins o c ns xs, h, k => by
    have h : o ≠ .own ∧ noOwns xs = true := by simpa [noOwn] using h
    have k : o ≠ .brw ∧ noBrws xs = true := by simpa [noBrw] using k
    rw [fz, fzs_no h.2 k.2]
    cases o <;> first | rfl | exact absurd rfl h.1 | exact absurd rfl k.1
theorem fzs_no : ∀ {xs : List PV}, noOwns xs = true → noBrws xs = true → fzs xs = xs
  | [], _, _ => rfl
  | x :: xs, h, k => by
    have h : noOwn x = true ∧ noOwns xs = true := by simpa [noOwns] using h
    have k : noBrw x = true ∧ noBrws xs = true := by simpa [noBrws] using k
    rw [fzs, fz_no h.1 k.1, fzs_no h.2 k.2]
end
/-! lists of texts -/
section
variable {ws : List Str} {s : Str} {o : Ow}
theorem noOwns_strs : noOwns (ws.map .str) = true := by
  induction ws with
  | nil => rfl
  | cons w ws ih => simp [noOwns, noOwn, ih]
theorem noBrws_strs : noBrws (ws.map .str) = true := by
  induction ws with
  | nil => rfl
  | cons w ws ih => simp [noBrws, noBrw, ih]
theorem brws_strs : brws (ws.map .str) = ws.map .str := brws_no noOwns_strs
theorem fzs_strs : fzs (ws.map .str) = ws.map .str := fzs_no noOwns_strs noBrws_strs
theorem toVs_strs : toVs (ws.map .str) = some (ws.map .str) := by
  induction ws with
  | nil => rfl
  | cons w ws ih => rw [List.map_cons, toVs, ih]; rfl
theorem strsOf_strs : strsOf (ws.map .str) = some ws := by
  induction ws with
  | nil => rfl
  | cons w ws ih => rw [List.map_cons, strsOf, ih]
theorem inSeq_strs : inSeq (.str s) (ws.map .str) = some (decide (s ∈ ws)) := by
  unfold inSeq
  rw [toVs_strs]
  simp only [toV]
  congr 1
  rw [inV_str]
theorem oIn_lst {neg : Bool} : oIn neg (.str s) (.lst o (ws.map .str)) = some (.bl (if neg then !decide (s ∈ ws) else decide (s ∈ ws))) := by
  unfold oIn oOr oInLb oInL
  simp only [inSeq_strs, Option.map_some]
theorem oIn_tup {neg : Bool} : oIn neg (.str s) (.tup (ws.map .str)) = some (.bl (if neg then !decide (s ∈ ws) else decide (s ∈ ws))) := by
  unfold oIn oOr oInLb oInL
  simp only [inSeq_strs, Option.map_some]
end
/-! operators -/
section
variable {i j : Int} {s t : Str} {o o' : Ow} {xs ys : List PV} {ks : List Key}
theorem oSub_lst : oSub (.lst o xs) (.int i) = atI xs i := by
  unfold oSub oOr oIx
  dsimp only
  cases atI xs i <;> rfl
theorem oSub_tup : oSub (.tup xs) (.int i) = atI xs i := by
  unfold oSub oOr oIx
  dsimp only
  cases atI xs i <;> rfl
theorem oSub_dk : oSub (.dk o ks xs) (.str s) = lkK (.inr s) ks xs := by
  unfold oSub oOr oIx oGet
  rfl
theorem oIn_dk {neg : Bool} : oIn neg (.str s) (.dk o ks xs) = some (.bl (if neg then !(lkK (.inr s) ks xs).isSome else (lkK (.inr s) ks xs).isSome)) := by
  unfold oIn oOr oInLb oInL oInDb oHas
  rfl
theorem oAdd_int : oAdd (.int i) (.int j) = some (.int (i + j)) := rfl
theorem oAdd_str : oAdd (.str s) (.str t) = if s.length + t.length ≤ sizeLine then some (.str (s ++ t)) else none := by
  unfold oAdd oOr oInt oAddS
  simp only
  split <;> rename_i h <;> split at h <;> simp_all [oCatL, oCatT]
theorem oAdd_lst : oAdd (.lst o xs) (.lst o' ys) = if o ≠ .scr ∧ o' ≠ .scr ∧ xs.length + ys.length ≤ sizeLine then some (.lst .own (xs ++ ys)) else none := by
  unfold oAdd oOr oInt oAddS oCatL oCatT
  simp only
  by_cases h : o ≠ .scr ∧ o' ≠ .scr ∧ xs.length + ys.length ≤ sizeLine
  · rw [if_pos h]
  · rw [if_neg h]
theorem oAdd_tup : oAdd (.tup xs) (.tup ys) = if xs.length + ys.length ≤ sizeLine then some (.tup (xs ++ ys)) else none := by
  unfold oAdd oOr oInt oAddS oCatL oCatT
  rfl
theorem oEq2_str {neg : Bool} : oEq2 neg (.str s) (.str t) = some (.bl (if neg then !decide (s = t) else decide (s = t))) := by
  unfold oEq2 oEq oOr oEqS
  simp [toV, scal]
theorem oEq2_int {neg : Bool} : oEq2 neg (.int i) (.int j) = some (.bl (if neg then !decide (i = j) else decide (i = j))) := by
  unfold oEq2 oEq oOr oEqS
  simp [toV, scal]
theorem oEq2_str_non {neg : Bool} : oEq2 neg (.str s) .non = some (.bl neg) := by
  unfold oEq2 oEq oOr oEqS
  cases neg <;> simp [toV, scal]
theorem oEq2_non_str {neg : Bool} : oEq2 neg .non (.str s) = some (.bl neg) := by
  unfold oEq2 oEq oOr oEqS
  cases neg <;> simp [toV, scal]

/-! stepping -/
/-- at a place -/
theorem atI_ok {xs : List PV} {i : Int} (h : 0 ≤ i) (k : i < (xs.length : Int)) : atI xs i = some (xs[i.toNat]'(by omega)) := by
  unfold atI ixN
  rw [if_pos h, if_pos k, Option.bind_some]
  exact List.getElem?_eq_getElem (by omega)
theorem ixN_ok {n : Nat} {i : Int} (h : 0 ≤ i) (k : i < (n : Int)) : ixN n i = some i.toNat := by
  unfold ixN
  rw [if_pos h, if_pos k]
theorem oI_lt {i j : Int} : oLt (.int i) (.int j) = some (.bl (decide (i < j))) := rfl
theorem oI_le {i j : Int} : oLe (.int i) (.int j) = some (.bl (decide (i ≤ j))) := rfl
theorem oI_gt {i j : Int} : oGt (.int i) (.int j) = some (.bl (decide (j < i))) := rfl
theorem oI_ge {i j : Int} : oGe (.int i) (.int j) = some (.bl (decide (j ≤ i))) := rfl
theorem oI_mod {i j : Int} : oMod (.int i) (.int j) = if j ≠ 0 then some (.int (i.fmod j)) else none := rfl
theorem oI_div {i j : Int} : oFdiv (.int i) (.int j) = if CDivN i j then some (.int (i.fdiv j)) else none := rfl
theorem oI_mul {i j : Int} : oMulI (.int i) (.int j) = if CMul i j then some (.int (i * j)) else none := rfl
theorem oI_pow {i j : Int} : oPow (.int i) (.int j) = if CPow i j then some (.int (i ^ j.toNat)) else none := rfl
theorem oI_neg {i : Int} : oNeg (.int i) = some (.int (-i)) := rfl
theorem oInt_eq {f : Int → Int → Option PV} {i j : Int} : oInt f (.int i) (.int j) = f i j := rfl
theorem len_lst {o : Ow} {xs : List PV} : cLen [.lst o xs] = some (.int xs.length) := rfl
theorem len_tup {xs : List PV} : cLen [.tup xs] = some (.int xs.length) := rfl
theorem len_dk {o : Ow} {ks : List Key} {xs : List PV} : cLen [.dk o ks xs] = some (.int (ks.length : Nat)) := rfl
theorem len_str {z : Str} (h : z.length ≤ sizeLine) : cLen [.str z] = some (.int (z.length : Nat)) := by
  unfold cLen ocOr cLenL cLenS
  simp only
  rw [if_pos h]
theorem list_lst {o : Ow} {xs : List PV} : cList [.lst o xs] = some (.lst .own xs) := rfl
theorem list_tup {xs : List PV} : cList [.tup xs] = some (.lst .own xs) := rfl
theorem list_dk {o : Ow} {ks : List Key} {xs : List PV} : cList [.dk o ks xs] = some (.lst .own (ks.map pvK)) := rfl
theorem tup_lst {o : Ow} {xs : List PV} : cTup [.lst o xs] = some (.tup xs) := rfl
theorem tup_tup {xs : List PV} : cTup [.tup xs] = some (.tup xs) := rfl
theorem dict_dk {o : Ow} {ks : List Key} {xs : List PV} : cDict [.dk o ks xs] = some (.dk .own ks xs) := rfl
theorem int_int {i : Int} : cInt [.int i] = some (.int i) := rfl
theorem int_bl {b : Bool} : cInt [.bl b] = some (.int (if b then 1 else 0)) := rfl
theorem isNon_non {neg : Bool} : oIsN neg .non .non = some (.bl (!neg)) := by cases neg <;> rfl
theorem isNon_str {neg : Bool} {s : Str} : oIsN neg (.str s) .non = some (.bl neg) := by cases neg <;> rfl
theorem isNon_lst {neg : Bool} {o : Ow} {xs : List PV} : oIsN neg (.lst o xs) .non = some (.bl neg) := by cases neg <;> rfl
theorem cut_lst {o : Ow} {xs : List PV} {l u : Option Int} : cutOf (.lst o xs) l u = some (.lst .own (cutP xs l u)) := rfl
theorem cut_tup {xs : List PV} {l u : Option Int} : cutOf (.tup xs) l u = some (.tup (cutP xs l u)) := rfl
theorem parts_non : parts .non = some none := rfl
theorem parts_int {k : Int} : parts (.int k) = some (some k) := rfl
theorem sl_nn {x : PV} : slOf x .non .non = cutOf x none none := rfl
theorem sl_ni {x : PV} {k : Int} : slOf x .non (.int k) = cutOf x none (some k) := rfl
theorem sl_in {x : PV} {k : Int} : slOf x (.int k) .non = cutOf x (some k) none := rfl
theorem sl_ii {x : PV} {k l : Int} : slOf x (.int k) (.int l) = cutOf x (some k) (some l) := rfl
theorem app_own {xs : List PV} {y : PV} : fAppend (.lst .own xs) [y] = if xs.length < sizeLine then some (.lst .own (xs ++ [y]), .non) else none := rfl
theorem ext_own {o : Ow} {xs ys : List PV} : fExtend (.lst .own xs) [.lst o ys] = if o ≠ .scr ∧ xs.length + ys.length ≤ sizeLine then some (.lst .own (xs ++ ys), .non) else none := rfl
theorem setL_own {xs : List PV} {k : Int} {y : PV} (h : 0 ≤ k) (l : k < (xs.length : Int)) : fSetL (.lst .own xs) (.int k) y = some (.lst .own (xs.set k.toNat y)) := by
  unfold fSetL
  dsimp only
  rw [ixN_ok h l]
theorem atI_0 {x : PV} {xs : List PV} : atI (x :: xs) 0 = some x := by rw [atI_ok (by omega) (by simp)]; rfl
theorem atI_1 {x y : PV} {xs : List PV} : atI (x :: y :: xs) 1 = some y := by rw [atI_ok (by omega) (by simp; omega)]; rfl
theorem atI_2 {x y z : PV} {xs : List PV} : atI (x :: y :: z :: xs) 2 = some z := by rw [atI_ok (by omega) (by simp; omega)]; rfl
theorem atI_3 {x y z u : PV} {xs : List PV} : atI (x :: y :: z :: u :: xs) 3 = some u := by rw [atI_ok (by omega) (by simp; omega)]; rfl
theorem atI_4 {x y z u v : PV} {xs : List PV} : atI (x :: y :: z :: u :: v :: xs) 4 = some v := by rw [atI_ok (by omega) (by simp; omega)]; rfl
theorem atI_5 {x y z u v w : PV} {xs : List PV} : atI (x :: y :: z :: u :: v :: w :: xs) 5 = some w := by rw [atI_ok (by omega) (by simp; omega)]; rfl
theorem atI_m1 {x : PV} {xs : List PV} : atI (xs ++ [x]) (-1) = some x := by
  unfold atI ixN
  rw [if_neg (by omega), if_pos (by simp; omega), Option.bind_some]
  have : (-1 + ((xs ++ [x]).length : Int)).toNat = xs.length := by simp; omega
  rw [this]
  simp
theorem setL_0 {x y : PV} {xs : List PV} : fSetL (.lst .own (x :: xs)) (.int 0) y = some (.lst .own (y :: xs)) := by rw [setL_own (by omega) (by simp)]; rfl
theorem setL_2 {x y z u : PV} {xs : List PV} : fSetL (.lst .own (x :: y :: z :: xs)) (.int 2) u = some (.lst .own (x :: y :: u :: xs)) := by rw [setL_own (by omega) (by simp; omega)]; rfl
theorem okEx_nil : ∀ {Γ : FV.Env}, okEx [] Γ = true
  | [] => rfl
  | o :: Γ => by
    unfold okEx
    rw [List.tail_nil, okEx_nil]
    cases o <;> rfl
theorem okEx_false {ms : List Bool} {o : Option PV} {Γ : FV.Env} : okEx (false :: ms) (o :: Γ) = okEx ms Γ := by
  cases o
  · show (true && okEx ms Γ) = okEx ms Γ
    exact Bool.true_and _
  · show (true && okEx ms Γ) = okEx ms Γ
    exact Bool.true_and _
theorem okEx_some {ms : List Bool} {x : PV} {Γ : FV.Env} : okEx (true :: ms) (some x :: Γ) = (noBrw x && okEx ms Γ) := rfl
theorem okEx_none {ms : List Bool} {Γ : FV.Env} : okEx (true :: ms) (none :: Γ) = okEx ms Γ := rfl
theorem mix_nil : ∀ {Γ1 Γ : FV.Env}, mix [] Γ1 Γ = Γ
  | _, [] => rfl
  | Γ1, o :: Γ => by
    unfold mix
    rw [List.tail_nil, mix_nil]
    rfl
theorem mix_false {ms : List Bool} {o : Option PV} {Γ1 Γ : FV.Env} : mix (false :: ms) Γ1 (o :: Γ) = o :: mix ms Γ1.tail Γ := rfl
theorem mix_true {ms : List Bool} {o o1 : Option PV} {Γ1 Γ : FV.Env} : mix (true :: ms) (o1 :: Γ1) (o :: Γ) = o1 :: mix ms Γ1 Γ := rfl
theorem brwEx_nil {o : Option PV} {Γ : FV.Env} : brwEx [] (o :: Γ) = o.map brw :: brwEx [] Γ := rfl
theorem brwEx_e {ms : List Bool} : brwEx ms [] = [] := rfl
theorem brwEx_false {ms : List Bool} {o : Option PV} {Γ : FV.Env} : brwEx (false :: ms) (o :: Γ) = o.map brw :: brwEx ms Γ := rfl
theorem brwEx_true {ms : List Bool} {o : Option PV} {Γ : FV.Env} : brwEx (true :: ms) (o :: Γ) = o :: brwEx ms Γ := rfl
theorem giveA_nil {xs : List PV} {Γ : Env} : giveA [] xs Γ = Γ := by unfold giveA; rfl
theorem giveA_none {ds : List (Option Nat)} {x : PV} {xs : List PV} {Γ : Env} : giveA (none :: ds) (x :: xs) Γ = giveA ds xs Γ := rfl
theorem giveA_some {ds : List (Option Nat)} {n : Nat} {x : PV} {xs : List PV} {Γ : Env} : giveA (some n :: ds) (x :: xs) Γ = (giveA ds xs Γ).set n (some x) := rfl
theorem takeA_nil {Γ : Env} : takeA [] [] Γ = some ([], Γ) := rfl
def tk1 (y : PV) (o : Option (List PV × Env)) : Option (List PV × Env) := match o with
  | some (xs, Γ1) => some (y :: xs, Γ1)
  | none => none
theorem tk1_some {y : PV} {xs : List PV} {Γ : Env} : tk1 y (some (xs, Γ)) = some (y :: xs, Γ) := rfl
theorem takeA_none {ds : List (Option Nat)} {y : PV} {ys : List PV} {Γ : Env} : takeA (none :: ds) (y :: ys) Γ = tk1 y (takeA ds ys Γ) := rfl
def tkS (o : Option (Option PV)) (k : PV → Option (List PV × FV.Env)) : Option (List PV × FV.Env) := match o with
  | some (some x) => k x
  | _ => none
theorem tkS_some {x : PV} {k : PV → Option (List PV × FV.Env)} : tkS (some (some x)) k = k x := rfl
theorem takeA_some {ds : List (Option Nat)} {n : Nat} {ys : List PV} {Γ : FV.Env} : takeA (some n :: ds) ys Γ = tkS Γ[n]? fun x => tk1 x (takeA ds ys (Γ.set n none)) := by
  rw [takeA]
  rcases Γ[n]? with _ | _ | x <;> rfl
end
end FV
local macro_rules | `(tactic| simp! [$ls,*]) => `(tactic| simp (implicitDefEqProofs := false) (dsimp := false) only [FV.wF_fun, FV.wS_Seq, FV.wS_Next, FV.wS_No, FV.wS_RetN, FV.wS_Set, FV.wS_Drop, FV.wS_Ret, FV.wS_If, FV.wS_Asg, FV.wS_Par, FV.wS_Raise, FV.wS_Put, FV.wS_SetF, FV.wS_Aug, FV.wS_Fz, FV.wS_For, FV.wS_ForK, FV.wS_W, FV.wS_for_nil, FV.wE_C, FV.wE_Var, FV.wE_Move, FV.wE_Op, FV.wE_Un, FV.wE_Fld, FV.wE_Fz, FV.wE_CB, FV.wE_If, FV.wE_Not, FV.wE_And, FV.wE_OrB, FV.wE_Q, FV.wE_Chain, FV.wE_NoN, FV.wE_Sl, FV.wE_Two, FV.wE_W, FV.wE_Call, FV.wE_MethS, FV.wE_MethV, FV.wE_Make, FV.wE_SubO, FV.wE_InO, FV.wE_Mth, FV.wE_Comp, FV.wE_CompK, FV.wC_nil, FV.wA_Nil, FV.wA_Cons, FV.wA_Slot, FV.wA_App, FV.wA_Star, FV.wA_src, FV.wA_srcR1, FV.wA_srcR2, FV.wA_srcEn, FV.wA_srcEnT, FV.wA_W, FV.wO_some, FV.wL_some, FV.wV_some, FV.wG_some, FV.wT_some, FV.wB_true, FV.wB_false, FV.wM_some, FV.wNew_non, FV.w1_eq, FV.w2_eq, FV.giveA_nil, FV.giveA_none, FV.giveA_some, FV.takeA_nil, FV.takeA_none, FV.takeA_some, FV.tk1_some, FV.tkS_some, FV.gN, FV.gNs, FV.gCs, FV.gTp, Option.bind_some, Option.map_some, Option.bind_none, Option.map_none, FV.outA, List.map_cons, List.map_nil, List.replicate, List.cons_append, List.nil_append, List.append_nil, List.length_cons, List.length_nil, List.headD_cons, List.headD_nil, List.tail_cons, List.tail_nil, Option.getD_some, Option.getD_none, Bool.false_eq_true, if_true, if_false, ite_true, ite_false, true_and, and_true, List.set_cons_zero, List.set_cons_succ, List.set_nil, List.getElem?_cons_zero, List.getElem?_cons_succ, List.getElem?_nil, Nat.sub_self, Nat.reduceSub, Nat.reduceAdd, Nat.reduceEqDiff, Nat.reduceLeDiff, Nat.reduceLT, Int.reduceEq, Int.reduceNe, Int.reduceLT, Int.reduceLE, Int.reduceAdd, Int.reduceSub, Int.reduceNeg, Int.reduceMul, Int.reducePow, Int.reduceToNat, FV.brwEx_nil, FV.brwEx_e, FV.brwEx_false, FV.brwEx_true, FV.mix_nil, FV.mix_false, FV.mix_true, FV.okEx_nil, FV.okEx_false, FV.okEx_some, FV.okEx_none, FV.brw, FV.brws, FV.flB, FV.noOwn, FV.noOwns, FV.noBrw, FV.noBrws, Option.map_some, Bool.and_true, Bool.true_and, Bool.false_and, Bool.and_false, Bool.and_self, Bool.not_true, Bool.not_false, Bool.true_or, Bool.false_or, Bool.or_true, Bool.or_false, decide_true, decide_false, ne_eq, reduceCtorEq, not_false_eq_true, not_true_eq_false, Bool.not_eq_true, FV.oI_lt, FV.oI_le, FV.oI_gt, FV.oI_ge, FV.oI_mod, FV.oI_div, FV.oI_mul, FV.oI_pow, FV.oI_neg, FV.oInt_eq, FV.len_lst, FV.len_tup, FV.len_dk, FV.list_lst, FV.list_tup, FV.list_dk, FV.tup_lst, FV.tup_tup, FV.dict_dk, FV.int_int, FV.int_bl, FV.isNon_non, FV.isNon_str, FV.isNon_lst, FV.cut_lst, FV.cut_tup, FV.parts_non, FV.parts_int, FV.sl_nn, FV.sl_ni, FV.sl_in, FV.sl_ii, FV.atI_0, FV.atI_1, FV.atI_2, FV.atI_3, FV.atI_4, FV.atI_5, FV.atI_m1, FV.setL_0, FV.setL_2, FV.app_own, FV.ext_own, FV.oSub_lst, FV.oSub_tup, FV.oSub_dk, FV.oIn_lst, FV.oIn_tup, FV.oIn_dk, FV.oAdd_int, FV.oAdd_str, FV.oAdd_lst, FV.oAdd_tup, FV.oEq2_str, FV.oEq2_int, FV.oEq2_str_non, FV.oEq2_non_str, FV.fzv, FV.fz, FV.fzs, FV.flF, FV.oLst, FV.oTup, FV.isNo, FV.itmF, FV.itemsS, FV.itemsL, FV.itemsT, FV.itemsOf, FV.wipeE, FV.backE, FV.freeAt, List.all_cons, List.all_nil, FV.kindP, FV.brws_strs, FV.noOwns_strs, FV.noBrws_strs, FV.fzs_strs, Option.join, id, $ls,*])
namespace FV
open PySem PySem.Spec PyProof.Rows L2 Evl SB
section

end
end FV
namespace SL
open PySem PySem.Spec PyProof.Rows L2 Evl SB FV
/-- the source: three ints, n draws at most -/
def wellP (n : Nat) (x : PV) : Prop := ∃ a b c : Int, x = .lst .own [.int a, .int b, .int c] ∧ 0 ≤ b ∧ b < 2147483647 ∧ 0 ≤ c ∧ c ≤ n
theorem wellP.le {n m : Nat} {x : PV} (h : wellP n x) (e : n ≤ m) : wellP m x := by
  obtain ⟨a, b, c, h1, h2, h3, h4, h5⟩ := h
  exact ⟨a, b, c, h1, h2, h3, h4, by omega⟩
theorem fmod_bd {x m : Int} (h : 1 ≤ m) : 0 ≤ x.fmod m ∧ x.fmod m < m := ⟨Int.fmod_nonneg_of_pos _ (by omega), Int.fmod_lt_of_pos _ (by omega)⟩
end SL

namespace SL
open PySem PySem.Spec PyProof.Rows L2 Evl SB FV
/-! words as data -/
theorem strOk_word {s : Str} (h : isWord s = true) : PyData.strOk s = true := by
  unfold isWord at h
  simp only [Bool.and_eq_true] at h
  unfold PyData.strOk
  rw [← Array.all_toList]
  refine List.all_eq_true.mpr fun c hc => ?_
  have : c ∈ letters := by simpa using List.all_eq_true.mp h.2 c hc
  have l : ∀ c ∈ letters, c < 1114112 := by decide +kernel
  simpa using l c this
theorem toDs_strs {ws : List Str} : toDs (ws.map .str) = some (ws.map .str) := by
  induction ws with
  | nil => rfl
  | cons w ws ih => rw [List.map_cons, toDs, ih]; rfl
theorem lay_strs {ws : List Str} (h : ∀ w ∈ ws, isWord w = true) : PyData.canLayAll0 (ws.map .str) = true := by
  induction ws with
  | nil => rfl
  | cons w ws ih =>
    rw [List.map_cons, PyData.canLayAll0, ih fun x hx => h x (List.mem_cons_of_mem _ hx)]
    have := strOk_word (h w List.mem_cons_self)
    simp [PyData.canLay0, this]
theorem depth_strs {ws : List Str} : PyData.depthAll (ws.map .str) = 0 := by
  induction ws with
  | nil => rfl
  | cons w ws ih => rw [List.map_cons, PyData.depthAll, ih]; rfl
/-! draws -/
theorem wellP.nb {n : Nat} {x : PV} (h : wellP n x) : noBrw x = true := by
  obtain ⟨a, b, c, rfl, _⟩ := h
  rfl
/-- some of a list, in any order -/
def Part (vs us : List Str) : Prop := ∃ v0, v0.Sublist us ∧ vs.Perm v0
theorem Part.mem {vs us : List Str} (h : Part vs us) {v : Str} (hv : v ∈ vs) : v ∈ us := by
  obtain ⟨v0, s, p⟩ := h
  exact s.subset (p.mem_iff.mp hv)
theorem Part.len {vs us : List Str} (h : Part vs us) : vs.length ≤ us.length := by
  obtain ⟨v0, s, p⟩ := h
  rw [p.length_eq]
  exact s.length_le
theorem szL : (0 : Nat) < sizeLine ∧ 1000000 < sizeLine := by decide
end SL

namespace FV
open PySem PySem.Spec PyProof.Rows L2 Evl SB
section
variable {Γ : Env} {X : Xn → Env → Prop} {U W : SS} {N M : Env → Prop} {R : PV → Env → Prop}
/-- a middle assertion -/
theorem wS_cut (M : Env → Prop) (h : wS U Γ M R X) (k : ∀ Γ1, M Γ1 → wS W Γ1 N R X) : wS (sSeq U W) Γ N R X := by
  rw [wS_Seq]
  exact wS_mono h k (fun _ _ => id) (fun _ _ => id)
theorem wForR {Tg : PV → Env → Option Env} {n : Nat} (I : Nat → Env → Prop) (h : I 0 Γ) (st : ∀ i, i < n → ∀ Γ, I i Γ → wG (Tg (.int (i : Nat)) Γ) fun Γ1 => wS U Γ1 (I (i + 1)) R X) (k : ∀ Γ, I n Γ → N Γ) : wS (forF Tg U (rngP 0 n)) Γ N R X := by
  have l : (rngP 0 n).length = n := by simp [rngP]
  refine wForI I h (fun i hi Γ z => ?_) (by rw [l]; exact k)
  have e : (rngP 0 n)[i] = .int (i : Nat) := by simp [rngP]
  rw [e]
  exact st i (by omega) Γ z
theorem wForM {α : Type} {Tg : PV → Env → Option Env} {e : α → PV} {us : List α} (I : Nat → Env → Prop) (h : I 0 Γ) (st : ∀ i (hi : i < us.length) Γ, I i Γ → wG (Tg (e us[i]) Γ) fun Γ1 => wS U Γ1 (I (i + 1)) R X) (k : ∀ Γ, I us.length Γ → N Γ) : wS (forF Tg U (us.map e)) Γ N R X := by
  have l : (us.map e).length = us.length := List.length_map _
  refine wForI I h (fun i hi Γ z => ?_) (by rw [l]; exact k)
  rw [List.getElem_map]
  exact st i (by omega) Γ z
end
theorem r1_ok {j : Int} (h : 0 ≤ j) (k : j < 4611686018427387904) : r1Of [.int j] = some (rngP 0 j.toNat) := by
  unfold r1Of
  dsimp only
  rw [if_pos ⟨by omega, by omega⟩]
theorem oSub_str {z : Str} {i : Int} (h : z.length ≤ sizeLine) : oSub (.str z) (.int i) = (atI z.cps.toList i).map fun k => .str ⟨#[k]⟩ := by
  unfold oSub oOr oIx
  dsimp only
  rw [if_pos h]
  cases atI z.cps.toList i <;> rfl
theorem cutP_take {xs : List PV} {k : Int} (h : 0 ≤ k) : cutP xs none (some k) = xs.take k.toNat := by
  unfold cutP HT.sIx
  simp only [List.drop_zero, Nat.sub_zero]
  rw [if_neg (by omega)]
  rcases Nat.le_total k.toNat xs.length with q | q
  · rw [Nat.min_eq_left q]
  · rw [Nat.min_eq_right q, List.take_length, List.take_of_length_le q]
theorem cutP_drop {xs : List PV} {k : Int} (h : 0 ≤ k) : cutP xs (some k) none = xs.drop k.toNat := by
  unfold cutP HT.sIx
  simp only
  rw [if_neg (by omega)]
  rcases Nat.le_total k.toNat xs.length with q | q
  · rw [Nat.min_eq_left q, List.take_of_length_le (by simp)]
  · rw [Nat.min_eq_right q, List.drop_length, List.drop_of_length_le q]
    simp
end FV
namespace SL
open PySem PySem.Spec PyProof.Rows L2 Evl SB FV
theorem str_len_app (s t : Str) : (s ++ t).length = s.length + t.length := by
  show (s.cps ++ t.cps).size = _
  exact Array.size_append
theorem str_list_app (s t : Str) : (s ++ t).cps.toList = s.cps.toList ++ t.cps.toList := by
  show (s.cps ++ t.cps).toList = _
  exact Array.toList_append
def allLet (s : Str) : Prop := ∀ c ∈ s.cps.toList, c ∈ letters
/-- the j-th word of a spelling -/
def WordAt (f : Nat) (j : Nat) (w : Str) : Prop := ∃ u : Str, allLet u ∧ w = u ++ ⟨#[97 + (f + 7 * j) % 26]⟩ ∧ (j < 26 → u.length ≤ 2 ∨ u.length = 11) ∧ (26 ≤ j → 3 ≤ u.length ∧ u.length ≤ 5)
theorem WordAt.ne {f i j : Nat} {w : Str} (h : WordAt f i w) (k : WordAt f j w) (ij : i < j) (hj : j < 52) : False := by
  obtain ⟨u, a, e, b, c⟩ := h
  obtain ⟨u', a', e', b', c'⟩ := k
  have l : (u ++ ⟨#[97 + (f + 7 * i) % 26]⟩ : Str).length = u.length + 1 := str_len_app _ _
  have l' : (u' ++ ⟨#[97 + (f + 7 * j) % 26]⟩ : Str).length = u'.length + 1 := str_len_app _ _
  rw [← e] at l
  rw [← e'] at l'
  have t : w.cps.toList = u.cps.toList ++ [97 + (f + 7 * i) % 26] := by rw [e, str_list_app]
  have t' : w.cps.toList = u'.cps.toList ++ [97 + (f + 7 * j) % 26] := by rw [e', str_list_app]
  have := t.symm.trans t'
  have g : (f + 7 * i) % 26 = (f + 7 * j) % 26 := by
    have := (List.append_inj' this rfl).2
    simp at this
    exact this
  by_cases q : j < 26
  · omega
  · have := c' (by omega)
    by_cases q2 : i < 26
    · have := b q2; omega
    · omega
end SL

namespace FV
open PySem PySem.Spec PyProof.Rows L2 Evl SB
section
variable {α : Type} {key : α → Str} {val : α → PV} {w : Str} {y : PV}
theorem putA_new : ∀ {t : List α}, w ∉ t.map key → putA (Sum.inr w : Key) y (t.map fun a => Sum.inr (key a)) (t.map val) = ((t.map fun a => Sum.inr (key a)) ++ [Sum.inr w], t.map val ++ [y])
  | [], _ => rfl
  | a :: t, h => by
    have h1 : key a ≠ w := fun e => h (by simp [e])
    have h2 : w ∉ t.map key := fun e => h (by simp [e])
    rw [List.map_cons, List.map_cons, putA, if_neg (by simpa using h1), putA_new h2]
    rfl
theorem lkK_map : ∀ {t : List α}, lkK (Sum.inr w : Key) (t.map fun a => Sum.inr (key a)) (t.map val) = (t.find? fun a => decide (key a = w)).map val
  | [] => rfl
  | a :: t => by
    rw [List.map_cons, List.map_cons, lkK, List.find?_cons]
    by_cases h : key a = w
    · simp [h]
    · rw [if_neg (by simpa using h), lkK_map]
      simp [h]
theorem put_new {t : List α} (h : w ∉ t.map key) (l : t.length < sizeLine) : fPut (.dk .own (t.map fun a => Sum.inr (key a)) (t.map val)) (.str w) y = some (.dk .own ((t.map fun a => Sum.inr (key a)) ++ [Sum.inr w]) (t.map val ++ [y])) := by
  unfold fPut keyOf
  dsimp only
  rw [List.length_map, if_pos l, putA_new h]
end
theorem noOwns_map {α : Type} {g : α → PV} {xs : List α} (h : ∀ x, noOwn (g x) = true) : noOwns (xs.map g) = true := by
  induction xs with
  | nil => rfl
  | cons w ws ih => simp [noOwns, h, ih]
theorem noBrws_map {α : Type} {g : α → PV} {xs : List α} (h : ∀ x, noBrw (g x) = true) : noBrws (xs.map g) = true := by
  induction xs with
  | nil => rfl
  | cons w ws ih => simp [noBrws, h, ih]
end FV
namespace SL
open PySem PySem.Spec PyProof.Rows L2 Evl SB FV
/-- a library's values -/
structure Lb where
  nm : Str
  nd : List Str
  df : List Str
  us : List Str
  wk : List Str
  eg : Bool
  ow : Bool
def keysT (t : List Lb) : List Key := t.map fun l => Sum.inr l.nm
def WL (n : Nat) (ws : List Str) : Prop := (∀ w ∈ ws, isWord w = true) ∧ ws.Nodup ∧ ws.length ≤ n
def LOk (l : Lb) : Prop := isWord l.nm = true ∧ WL 12 l.nd ∧ l.nm ∉ l.nd ∧ WL 20 l.df ∧ WL 20 l.us ∧ WL 20 l.wk ∧ ∀ w ∈ l.wk, w ∈ l.us
def TOk (t : List Lb) : Prop := (∀ l ∈ t, LOk l) ∧ (t.map (·.nm)).Nodup ∧ t.length ≤ 40
/-- a drawn table, and the absent name -/
structure Drawn (t : List Lb) (gone : Str) (signs : List Str) : Prop where
  ok : TOk t
  nd : ∀ l ∈ t, ∀ d ∈ l.nd, d ∈ t.map (·.nm) ∨ d = gone
  df : ∀ l ∈ t, ∀ s ∈ l.df, s ∈ signs
  us : ∀ l ∈ t, ∀ s ∈ l.us, s ∈ signs
  gw : isWord gone = true
  gn : gone ∉ t.map (·.nm)
  fst : ∃ l ∈ t, l.nd = []
end SL

namespace FV
open PySem PySem.Spec PyProof.Rows L2 Evl SB
theorem wF_eq {f : FT} {xs ys : List PV} {x : PV} (h : wF f xs (fun a b => a = x ∧ b = ys) fun _ _ => False) : f xs = some (.ok x, ys) := by
  obtain ⟨a, b, e, rfl, rfl⟩ := wF_out h
  exact e
theorem isi_str {s : Str} : cIsi [.str s, .raw (.ty "str")] = some (.bl true) := by
  unfold cIsi okTy tyName
  have : L2.kitB "str" "str" = some true := by decide +kernel
  simp [this]
theorem isi_tup {xs : List PV} : cIsi [.tup xs, .raw (.ty "tuple")] = some (.bl true) := by
  unfold cIsi okTy tyName
  have : L2.kitB "tuple" "tuple" = some true := by decide +kernel
  simp [this]
theorem isi_bl {b : Bool} : cIsi [.bl b, .raw (.ty "bool")] = some (.bl true) := by
  unfold cIsi okTy tyName
  have : L2.kitB "bool" "bool" = some true := by decide +kernel
  simp [this]
theorem isi_lst {xs : List PV} {o : Ow} (h : o ≠ .scr) : cIsi [.lst o xs, .raw (.ty "list")] = some (.bl true) := by
  unfold cIsi
  have : L2.kitB "list" "list" = some true := by decide +kernel
  cases o <;> simp [okTy, tyName, this] at *
theorem all_lst {α : Type} {g : α → Bool} {o : Ow} {xs : List α} : cAll [.lst o (xs.map fun x => .bl (g x))] = some (.bl (xs.all g)) := by
  unfold cAll
  dsimp only
  have : xs.map (fun x => PV.bl (g x)) = (xs.map g).map PV.bl := by simp
  rw [this, bolsOf_map, Option.map_some, List.all_map]
  rfl
theorem lenS_tup {ws : List Str} (n : ws.Nodup) (l : ws.length ≤ 1000) : pLenS (.tup (ws.map .str)) = some (.int (ws.length : Nat)) := by
  unfold pLenS
  dsimp only
  rw [strsOf_strs]
  dsimp only
  rw [if_pos l, (fcnt_eq_iff ws ws.length (Nat.le_refl _)).mpr (by rw [List.take_length]; exact n)]
theorem wMap {α : Type} {Γ : FV.Env} {S : ES} {Tg : PV → FV.Env → Option FV.Env} {vs : List Nat} {K : List PV → FV.Env → Prop} (e : α → PV) (g : α → PV) {ws : List α} {acc : List PV} (st : ∀ w ∈ ws, wG (Tg (e w) Γ) fun Γ1 => wE S Γ1 (fun y Γ3 => y = g w ∧ wipeE Γ3 vs = Γ) fun _ _ => False) (k : K (acc ++ ws.map g) Γ) : wC Tg (eC (.bl true)) S vs (ws.map e) acc Γ K := by
  refine wPure e (fun _ => true) g (fun w hw => ?_) ?_
  · have := st w hw
    revert this
    cases h : Tg (e w) Γ with
    | none => unfold wG; exact id
    | some Γ1 =>
      rw [wG_some, wG_some, wE_C]
      exact fun z => ⟨rfl, fun _ => z, fun q => nomatch q⟩
  · have : ws.filter (fun _ => true) = ws := List.filter_eq_self.mpr fun _ _ => rfl
    rw [this]
    exact k
theorem putA_newF {f : Str} {y : PV} : ∀ {ns : List Str} {xs : List PV}, f ∉ ns → ns.length = xs.length → putA f y ns xs = (ns ++ [f], xs ++ [y])
  | [], [], _, _ => rfl
  | [], _ :: _, _, l => by simp at l
  | _ :: _, [], _, l => by simp at l
  | n :: ns, x :: xs, h, l => by
    have h1 : ¬ n = f := fun e => h (by simp [e])
    rw [putA, if_neg h1, putA_newF (fun e => h (List.mem_cons_of_mem _ e)) (by simpa using l)]
    rfl
theorem fld_new {c : Nat} {f : Str} {y : PV} {ns : List Str} {xs : List PV} (h : f ∉ ns) (l : ns.length = xs.length) (k : ns.length < 900) : fldOf c f (.ins .own c ns xs) y = some (.ins .own c (ns ++ [f]) (xs ++ [y])) := by
  unfold fldOf
  dsimp only
  rw [if_pos rfl, fFld, if_pos ⟨k, l⟩, putA_newF h l]
theorem fL_name {y : PV} : fldOf 10 "name" (.ins .own 10 [] []) y = some (.ins .own 10 ["name"] [y]) := fld_new (by decide +kernel) rfl (by simp)
theorem fL_needs {v0 y : PV} : fldOf 10 "needs" (.ins .own 10 ["name"] [v0]) y = some (.ins .own 10 ["name", "needs"] [v0, y]) := fld_new (by decide +kernel) rfl (by simp)
theorem fL_defines {v0 v1 y : PV} : fldOf 10 "defines" (.ins .own 10 ["name", "needs"] [v0, v1]) y = some (.ins .own 10 ["name", "needs", "defines"] [v0, v1, y]) := fld_new (by decide +kernel) rfl (by simp)
theorem fL_uses {v0 v1 v2 y : PV} : fldOf 10 "uses" (.ins .own 10 ["name", "needs", "defines"] [v0, v1, v2]) y = some (.ins .own 10 ["name", "needs", "defines", "uses"] [v0, v1, v2, y]) := fld_new (by decide +kernel) rfl (by simp)
theorem fL_weak {v0 v1 v2 v3 y : PV} : fldOf 10 "weak" (.ins .own 10 ["name", "needs", "defines", "uses"] [v0, v1, v2, v3]) y = some (.ins .own 10 ["name", "needs", "defines", "uses", "weak"] [v0, v1, v2, v3, y]) := fld_new (by decide +kernel) rfl (by simp)
theorem fL_eager {v0 v1 v2 v3 v4 y : PV} : fldOf 10 "eager" (.ins .own 10 ["name", "needs", "defines", "uses", "weak"] [v0, v1, v2, v3, v4]) y = some (.ins .own 10 ["name", "needs", "defines", "uses", "weak", "eager"] [v0, v1, v2, v3, v4, y]) := fld_new (by decide +kernel) rfl (by simp)
theorem fL_own_first {v0 v1 v2 v3 v4 v5 y : PV} : fldOf 10 "own_first" (.ins .own 10 ["name", "needs", "defines", "uses", "weak", "eager"] [v0, v1, v2, v3, v4, v5]) y = some (.ins .own 10 ["name", "needs", "defines", "uses", "weak", "eager", "own_first"] [v0, v1, v2, v3, v4, v5, y]) := fld_new (by decide +kernel) rfl (by simp)
end FV
namespace SL
open PySem PySem.Spec PyProof.Rows L2 Evl SB FV
theorem isword_eq {s : Str} (h : s.length ≤ 50000) : f_is_word [.str s] = some (.ok (.bl (isWord s)), [.str s]) := by
  refine wF_eq ?_
  (rw [f_is_word, wF_fun]; refine ⟨rfl, ?_⟩; unfold b_is_word; simp only [List.map_cons, List.map_nil, List.replicate, List.cons_append, List.nil_append, Nat.reduceSub])
  have sz := szL.2
  have lc : s.cps.toList.length = s.length := by simp [Str.length]
  have e0 : isWord s = (decide (1 ≤ s.length) && decide (s.length ≤ 12) && s.cps.toList.all fun c => decide (c ∈ letters)) := rfl
  have el : (Str.ofString "abcdefghijklmnopqrstuvwxyz").cps.toList = letters := rfl
  simp! [isi_str, len_str (z := s) (by omega)]
  refine wB_dec (fun h1 => ?_) (fun h1 => ?_)
  · simp! []
    refine wB_dec (fun h2 => ?_) (fun h2 => ?_)
    · have h3 : s.cps.toList.length ≤ 50000 := by omega
      simp! [List.length_map, h3]
      refine wMap (fun k => .str ⟨#[k]⟩) (fun k => .bl (decide (k ∈ letters))) (ws := s.cps.toList) (fun u hu => ?_) ?_
      · simp! [oInS, el]
      · rw [List.nil_append]
        simp! [all_lst]
        rw [e0, decide_eq_true (by omega : 1 ≤ s.length), decide_eq_true (by omega : s.length ≤ 12)]
        rfl
    · simp! []
      rw [e0, decide_eq_false (by omega : ¬ s.length ≤ 12)]
      simp
  · simp! []
    rw [e0, decide_eq_false (by omega : ¬ 1 ≤ s.length)]
    simp
theorem isword_w {s : Str} {P : PV → List PV → Prop} {X : Xn → List PV → Prop} (h : isWord s = true) : wF f_is_word [.str s] P X = P (.bl true) [.str s] := by
  have := isWord_len h
  rw [wF_of (isword_eq (s := s) (by omega)), h]
theorem arewords_eq {n : Nat} {ws : List Str} {m : Nat} (h : WL n ws) (hn : n ≤ m) (hm : m ≤ 1000) : f_are_words [.tup (ws.map .str), .int (m : Nat)] = some (.ok (.bl true), [.tup (ws.map .str), .int (m : Nat)]) := by
  refine wF_eq ?_
  (rw [f_are_words, wF_fun]; refine ⟨rfl, ?_⟩; unfold b_are_words; simp only [List.map_cons, List.map_nil, List.replicate, List.cons_append, List.nil_append, Nat.reduceSub])
  have l := h.2.2
  have c1 : ¬ ((m : Int) < (ws.length : Nat)) := by omega
  have c2 : ws.length ≤ 50000 := by omega
  simp! [isi_tup, List.length_map, c1, c2]
  refine wMap .str (fun _ => .bl true) (ws := ws) (fun u hu => ?_) ?_
  · simp! [isword_w (h.1 u hu)]
  · rw [List.nil_append]
    have : ws.all (fun _ => true) = true := by simp
    simp! [all_lst (g := fun _ : Str => true), this, lenS_tup h.2.1 (by omega), List.length_map]
theorem arewords_w {n : Nat} {ws : List Str} {m : Nat} {P : PV → List PV → Prop} {X : Xn → List PV → Prop} (h : WL n ws) (hn : n ≤ m) (hm : m ≤ 1000) : wF f_are_words [.tup (ws.map .str), .int (m : Nat)] P X = P (.bl true) [.tup (ws.map .str), .int (m : Nat)] := wF_of (arewords_eq h hn hm)
def fieldsL : List Str := ["name", "needs", "defines", "uses", "weak", "eager", "own_first"]
def valsL (l : Lb) : List PV := [.str l.nm, .tup (l.nd.map .str), .tup (l.df.map .str), .tup (l.us.map .str), .tup (l.wk.map .str), .bl l.eg, .bl l.ow]
def libO (o : Ow) (l : Lb) : PV := .ins o 10 fieldsL (valsL l)
theorem libinit_eq {l : Lb} (h : LOk l) : f_Library___init__ [.ins .own 10 [] [], .str l.nm, .tup (l.nd.map .str), .tup (l.df.map .str), .tup (l.us.map .str), .tup (l.wk.map .str), .bl l.eg, .bl l.ow] = some (.ok .non, [libO .own l, .str l.nm, .tup (l.nd.map .str), .tup (l.df.map .str), .tup (l.us.map .str), .tup (l.wk.map .str), .bl l.eg, .bl l.ow]) := by
  obtain ⟨h1, h2, h3, h4, h5, h6, h7⟩ := h
  refine wF_eq ?_
  (rw [f_Library___init__, wF_fun]; refine ⟨rfl, ?_⟩; unfold b_Library___init__; simp only [List.map_cons, List.map_nil, List.replicate, List.cons_append, List.nil_append, Nat.reduceSub])
  have e12 : (12 : Int) = ((12 : Nat) : Int) := rfl
  have e20 : (20 : Int) = ((20 : Nat) : Int) := rfl
  have l6 := h6.2.2
  have c5 : l.wk.length ≤ 50000 := by omega
  simp only [e12, e20]
  simp! [isword_w h1, arewords_w h2 (Nat.le_refl 12) (by omega), arewords_w h4 (Nat.le_refl 20) (by omega), arewords_w h5 (Nat.le_refl 20) (by omega), arewords_w h6 (Nat.le_refl 20) (by omega), h3, List.length_map, c5]
  refine wMap .str (fun _ => .bl true) (ws := l.wk) (fun u hu => ?_) ?_
  · simp! [h7 u hu]
  · rw [List.nil_append]
    have : l.wk.all (fun _ => true) = true := by simp
    simp! [all_lst (g := fun _ : Str => true), this, isi_bl, fL_name, fL_needs, fL_defines, fL_uses, fL_weak, fL_eager, fL_own_first]
    rfl
end SL

namespace SL
open PySem PySem.Spec PyProof.Rows L2 Evl SB FV
theorem lkP_here {f : Str} {ns : List Str} {x : PV} {xs : List PV} : lkP f (f :: ns) (x :: xs) = some x := by rw [lkP, if_pos rfl]
theorem lkP_next {f n : Str} {ns : List Str} {x : PV} {xs : List PV} (h : f ≠ n) : lkP f (n :: ns) (x :: xs) = lkP f ns xs := by rw [lkP, if_neg h]
theorem fl_name {o : Ow} {l : Lb} : pFld 10 "name" (libO o l) = some (.str l.nm) := by
  unfold pFld libO fieldsL valsL
  dsimp only
  rw [if_pos rfl, lkP_here]
theorem fl_needs {o : Ow} {l : Lb} : pFld 10 "needs" (libO o l) = some (.tup (l.nd.map .str)) := by
  unfold pFld libO fieldsL valsL
  dsimp only
  rw [if_pos rfl, lkP_next (by decide +kernel), lkP_here]
theorem fl_defines {o : Ow} {l : Lb} : pFld 10 "defines" (libO o l) = some (.tup (l.df.map .str)) := by
  unfold pFld libO fieldsL valsL
  dsimp only
  rw [if_pos rfl, lkP_next (by decide +kernel), lkP_next (by decide +kernel), lkP_here]
theorem libF_no (l : Lb) : noOwn (libO .frz l) = true := by unfold libO valsL; simp [noOwn, noOwns, noOwns_strs]
theorem libF_nb (l : Lb) : noBrw (libO .frz l) = true := by unfold libO valsL; simp [noBrw, noBrws, noBrws_strs]
theorem libO_nb (l : Lb) : noBrw (libO .own l) = true := by unfold libO valsL; simp [noBrw, noBrws, noBrws_strs]
theorem libs_no (t : List Lb) : noOwns (t.map (libO .frz)) = true := noOwns_map libF_no
theorem libs_nb (t : List Lb) : noBrws (t.map (libO .frz)) = true := noBrws_map libF_nb
theorem libs_brw (t : List Lb) : brws (t.map (libO .frz)) = t.map (libO .frz) := brws_no (libs_no t)
theorem libs_fz (t : List Lb) : fzs (t.map (libO .frz)) = t.map (libO .frz) := fzs_no (libs_no t) (libs_nb t)
theorem libO_fz (l : Lb) : FV.fz (libO .own l) = libO .frz l := by unfold libO valsL; simp [FV.fz, fzs, flF, fzs_strs]
def stoV (o : Ow) (t : List Lb) : PV := .ins o 11 ["kept"] [.dk o (keysT t) (t.map (libO .frz))]
theorem sto_no (t : List Lb) : noOwn (stoV .frz t) = true := by unfold stoV; simp [noOwn, noOwns, libs_no]
theorem sto_nb (t : List Lb) : noBrw (stoV .frz t) = true := by unfold stoV; simp [noBrw, noBrws, libs_nb]
theorem sto_brw (t : List Lb) : brw (stoV .frz t) = stoV .frz t := brw_no (sto_no t)
theorem stoO_fz (t : List Lb) : FV.fz (stoV .own t) = stoV .frz t := by unfold stoV; simp [FV.fz, fzs, flF, libs_fz]
theorem stoO_brw (t : List Lb) : brw (stoV .own t) = stoV .brw t := by unfold stoV; simp [brw, brws, flB, libs_brw]
theorem stoB_no (t : List Lb) : noOwn (stoV .brw t) = true := by unfold stoV; simp [noOwn, noOwns, libs_no]
theorem stoO_nb (t : List Lb) : noBrw (stoV .own t) = true := by unfold stoV; simp [noBrw, noBrws, libs_nb]
theorem sto_kept {o : Ow} {t : List Lb} : pFld 11 "kept" (stoV o t) = some (.dk o (keysT t) (t.map (libO .frz))) := by
  unfold pFld stoV
  dsimp only
  rw [if_pos rfl, lkP_here]
theorem sto_isI {o : Ow} {t : List Lb} : isI 11 (stoV o t) = true := rfl
def getT (t : List Lb) (s : Str) : Option Lb := t.find? fun l => decide (l.nm = s)
theorem lk_keys {t : List Lb} {s : Str} {val : Lb → PV} : lkK (Sum.inr s) (keysT t) (t.map val) = (getT t s).map val := lkK_map
theorem getT_some {t : List Lb} {s : Str} : (getT t s).isSome = decide (s ∈ t.map (·.nm)) := by
  unfold getT
  rw [Bool.eq_iff_iff, List.find?_isSome, decide_eq_true_eq, List.mem_map]
  constructor
  · rintro ⟨x, h1, h2⟩; exact ⟨x, h1, by simpa using h2⟩
  · rintro ⟨x, h1, h2⟩; exact ⟨x, h1, by simpa using h2⟩
theorem getT_of {t : List Lb} {s : Str} (h : s ∈ t.map (·.nm)) : ∃ l, getT t s = some l ∧ l ∈ t ∧ l.nm = s := by
  have := getT_some (t := t) (s := s)
  rw [decide_eq_true h] at this
  obtain ⟨l, e⟩ := Option.isSome_iff_exists.mp this
  exact ⟨l, e, List.mem_of_find?_eq_some e, by simpa using List.find?_some e⟩
theorem getT_mem {t : List Lb} {l : Lb} (n : (t.map (·.nm)).Nodup) (h : l ∈ t) : getT t l.nm = some l := by
  obtain ⟨l', e, h', e'⟩ := getT_of (List.mem_map.mpr ⟨l, h, rfl⟩)
  rw [e]
  congr 1
  induction t with
  | nil => cases h
  | cons a t ih =>
    rw [List.map_cons, List.nodup_cons] at n
    rcases List.mem_cons.mp h with q | q <;> rcases List.mem_cons.mp h' with q' | q'
    · rw [q, q']
    · subst q; exact absurd (List.mem_map.mpr ⟨l', q', e'⟩) n.1
    · subst q'; exact absurd (List.mem_map.mpr ⟨l, q, e'.symm⟩) n.1
    · have e2 : getT t l.nm = some l' := by
        unfold getT at e ⊢
        rw [List.find?_cons_of_neg] at e
        · exact e
        · intro z
          have z : a.nm = l.nm := by simpa using z
          exact n.1 (List.mem_map.mpr ⟨l, q, z.symm⟩)
      exact ih n.2 q e2 q'
theorem put_new' {t : List Lb} {l : Lb} (h : l.nm ∉ t.map (·.nm)) (k : t.length < sizeLine) : fPut (.dk .own (keysT t) (t.map (libO .frz))) (.str l.nm) (libO .frz l) = some (.dk .own (keysT (t ++ [l])) ((t ++ [l]).map (libO .frz))) := by
  have := put_new (val := libO .frz) (y := libO .frz l) h k
  unfold keysT
  rw [this]
  simp
theorem pg_kept {t : List Lb} : pgF 11 "kept" some (stoV .own t) = some (.dk .own (keysT t) (t.map (libO .frz))) := by
  unfold pgF stoV
  dsimp only
  rw [if_pos rfl, lkP_here]
theorem ps_kept {t : List Lb} {y : PV} : psF "kept" some (fun _ x => x) (stoV .own t) y = .ins .own 11 ["kept"] [y] := by
  unfold psF stoV
  dsimp only
  rw [setP, if_pos rfl]
theorem en_at {xs : List PV} {i : Nat} (hi : i < (enumP xs).length) : (enumP xs)[i] = .tup [.int (i : Nat), xs[i]'(by simp [enumP, rngP] at hi; omega)] := by
  simp [enumP, rngP]
theorem en_len {xs : List PV} : (enumP xs).length = xs.length := by simp [enumP, rngP]
theorem fK_kept {y : PV} : fldOf 11 "kept" (.ins .own 11 [] []) y = some (.ins .own 11 ["kept"] [y]) := fld_new (by decide +kernel) rfl (by simp)
theorem storeinit_eq {t : List Lb} (h : TOk t) : f_Store___init__ [.ins .own 11 [] [], .lst .frz (t.map (libO .frz))] = some (.ok .non, [stoV .own t, .lst .frz (t.map (libO .frz))]) := by
  refine wF_eq ?_
  (rw [f_Store___init__, wF_fun]; refine ⟨rfl, ?_⟩; unfold b_Store___init__; simp only [List.map_cons, List.map_nil, List.replicate, List.cons_append, List.nil_append, Nat.reduceSub])
  have l := h.2.2
  have sz := szL.2
  simp! [libs_no, isi_lst (show Ow.frz ≠ .scr by decide), fK_kept, enOf]
  refine wForI (fun i Γ => ∃ o2 o3, Γ = [some (stoV .own (t.take i)), some (.lst .frz (t.map (libO .frz))), o2, o3]) ⟨none, none, rfl⟩ ?_ ?_
  · rintro i hi Γ ⟨o2, o3, rfl⟩
    have hi' : i < t.length := by rw [en_len, List.length_map] at hi; exact hi
    rw [en_at hi, List.getElem_map]
    have new : t[i].nm ∉ (t.take i).map (·.nm) := by
      intro z
      obtain ⟨a, ha, e⟩ := List.mem_map.mp z
      obtain ⟨j, hj, rfl⟩ := List.getElem_of_mem ha
      rw [List.getElem_take] at e
      rw [List.length_take] at hj
      have := List.pairwise_iff_getElem.mp h.2.1 j i (by rw [List.length_map]; omega) (by rw [List.length_map]; omega) (by omega)
      simp only [List.getElem_map] at this
      exact this e
    have g0 : (getT (t.take i) t[i].nm).map (libO .frz) = none := by
      cases q : getT (t.take i) t[i].nm with
      | none => rfl
      | some a =>
        have := getT_some (t := t.take i) (s := t[i].nm)
        rw [q, decide_eq_false new] at this
        cases this
    have b0 := stoO_brw (t.take i)
    have n0 := stoB_no (t.take i)
    have i0 : pIsO 10 (libO .frz t[i]) = some (.bl true) := by unfold pIsO libO; simp
    have c0 : ¬ (40 : Int) ≤ (i : Nat) := by omega
    have pn := put_new' (t := t.take i) (l := t[i]) new (by rw [List.length_take]; omega)
    simp! [b0, n0, libF_no, brw_no (libF_no t[i]), i0, fl_name, sto_kept, lk_keys, g0, Option.isSome_none, c0, pg_kept, pn, ps_kept]
    have e : t.take (i + 1) = t.take i ++ [t[i]] := by rw [List.take_add_one, List.getElem?_eq_getElem hi']; rfl
    rw [e]
    exact ⟨_, _, rfl⟩
  · rintro Γ ⟨o2, o3, rfl⟩
    rw [en_len, List.length_map, List.take_length]
    simp! [libs_no]
theorem contains_eq {t : List Lb} {s : Str} (hs : s.length ≤ 50000) : f_Store___contains__ [stoV .frz t, .str s] = some (.ok (.bl (isWord s && decide (s ∈ t.map (·.nm)))), [stoV .frz t, .str s]) := by
  refine wF_eq ?_
  (rw [f_Store___contains__, wF_fun]; refine ⟨rfl, ?_⟩; unfold b_Store___contains__; simp only [List.map_cons, List.map_nil, List.replicate, List.cons_append, List.nil_append, Nat.reduceSub])
  simp! [wF_of (isword_eq hs)]
  refine wB_of (fun e => ?_) (fun e => ?_)
  · have : ((getT t s).map (libO .frz)).isSome = decide (s ∈ t.map (·.nm)) := by rw [Option.isSome_map, getT_some]
    simp! [sto_no, sto_kept, lk_keys, this, e]
  · simp! [e, sto_no]
theorem contains_w {t : List Lb} {s : Str} {P : PV → List PV → Prop} {X : Xn → List PV → Prop} (h : TOk t) (hs : s ∈ t.map (·.nm)) : wF f_Store___contains__ [stoV .frz t, .str s] P X = P (.bl true) [stoV .frz t, .str s] := by
  obtain ⟨l, hl, rfl⟩ := List.mem_map.mp hs
  have w := (h.1 l hl).1
  have := isWord_len w
  rw [wF_of (contains_eq (s := l.nm) (by omega)), w, decide_eq_true hs]
  rfl
theorem getitem_eq {t : List Lb} {l : Lb} (h : TOk t) (hl : l ∈ t) : f_Store___getitem__ [stoV .frz t, .str l.nm] = some (.ok (libO .frz l), [stoV .frz t, .str l.nm]) := by
  refine wF_eq ?_
  (rw [f_Store___getitem__, wF_fun]; refine ⟨rfl, ?_⟩; unfold b_Store___getitem__; simp only [List.map_cons, List.map_nil, List.replicate, List.cons_append, List.nil_append, Nat.reduceSub])
  have hs : l.nm ∈ t.map (·.nm) := List.mem_map.mpr ⟨l, hl, rfl⟩
  simp! [sto_no, sto_isI, contains_w h hs, sto_kept, lk_keys, getT_mem h.2.1 hl]
theorem getitem_w {t : List Lb} {l : Lb} {P : PV → List PV → Prop} {X : Xn → List PV → Prop} (h : TOk t) (hl : l ∈ t) : wF f_Store___getitem__ [stoV .frz t, .str l.nm] P X = P (libO .frz l) [stoV .frz t, .str l.nm] := wF_of (getitem_eq h hl)
end SL

/-! the plain theory of least preloads -/
namespace PM
variable {α β : Type} [DecidableEq α] [DecidableEq β]
def definer (df : α → List β) (sc : List α) (s : β) : Option α := sc.find? fun x => decide (s ∈ df x)
def Meets (df : α → List β) (sc : List α) (ws : List (β × α)) : Prop := ∀ p ∈ ws, definer df sc p.1 = some p.2
instance (df : α → List β) (sc : List α) (ws : List (β × α)) : Decidable (Meets df sc ws) := by unfold Meets; infer_instance
inductive Req (df : α → List β) (E : List α) (m : α) (ws : List (β × α)) : α → Prop
  | base {s : β} {n : α} : (s, n) ∈ ws → definer df E s ≠ some n → Req df E m ws n
  | step {r w : α} {s : β} : Req df E m ws r → s ∈ df r → (s, w) ∈ ws → w ≠ r → w ≠ m → Req df E m ws w
end PM

namespace SL
open PySem PySem.Spec PyProof.Rows L2 Evl SB FV
def namesT (t : List Lb) : List Str := t.map (·.nm)
def ndT (t : List Lb) (n : Str) : List Str := ((getT t n).map (·.nd)).getD []
def dfT (t : List Lb) (n : Str) : List Str := ((getT t n).map (·.df)).getD []
def moreL (t : List Lb) (f : List Str) (n : Str) : List Str := (ndT t n).filter fun x => !decide (x ∈ f)
def cloF (t : List Lb) : Nat → List Str → Nat → List Str
  | 0, f, _ => f
  | k + 1, f, i => match f[i]? with
    | none => f
    | some x => cloF t k (f ++ moreL t f x) (i + 1)
def clo (t : List Lb) (m : Str) : List Str := cloF t 1000 [m] 0
/-- the closure is complete -/
def Cpl (t : List Lb) (m : Str) : Prop := ∀ x ∈ clo t m, x ∈ namesT t
instance (t : List Lb) (m : Str) : Decidable (Cpl t m) := by unfold Cpl; infer_instance
theorem ndT_of {t : List Lb} (h : TOk t) {l : Lb} (hl : l ∈ t) : ndT t l.nm = l.nd := by unfold ndT; rw [getT_mem h.2.1 hl]; rfl
theorem dfT_of {t : List Lb} (h : TOk t) {l : Lb} (hl : l ∈ t) : dfT t l.nm = l.df := by unfold dfT; rw [getT_mem h.2.1 hl]; rfl
theorem cloF_pre {t : List Lb} : ∀ (k : Nat) (f : List Str) (i : Nat), ∃ r, cloF t k f i = f ++ r
  | 0, f, i => ⟨[], by simp [cloF]⟩
  | k + 1, f, i => by
    unfold cloF
    cases f[i]? with
    | none => exact ⟨[], by simp⟩
    | some x =>
      obtain ⟨r, e⟩ := cloF_pre (t := t) k (f ++ moreL t f x) (i + 1)
      exact ⟨moreL t f x ++ r, by rw [← List.append_assoc]; exact e⟩
theorem more_sub {t : List Lb} {f : List Str} {n x : Str} (h : x ∈ moreL t f n) : x ∈ (t.map (·.nd)).flatten ∧ x ∉ f := by
  obtain ⟨h1, h2⟩ := List.mem_filter.mp h
  refine ⟨?_, by simpa using h2⟩
  unfold ndT at h1
  cases q : getT t n with
  | none => rw [q] at h1; cases h1
  | some l =>
    rw [q] at h1
    exact List.mem_flatten.mpr ⟨l.nd, List.mem_map.mpr ⟨l, List.mem_of_find?_eq_some q, rfl⟩, h1⟩
theorem flat_len {t : List Lb} (h : ∀ l ∈ t, LOk l) : ((t.map (·.nd)).flatten).length ≤ 12 * t.length := by
  induction t with
  | nil => simp
  | cons a t ih =>
    have := ih fun l hl => h l (List.mem_cons_of_mem _ hl)
    have := (h a List.mem_cons_self).2.1.2.2
    simp only [List.map_cons, List.flatten_cons, List.length_append, List.length_cons]
    omega
theorem more_nd {t : List Lb} (h : TOk t) {f : List Str} {n : Str} (hf : f.Nodup) : (f ++ moreL t f n).Nodup := by
  refine List.nodup_append.mpr ⟨hf, ?_, fun a ha b hb e => (more_sub hb).2 (e ▸ ha)⟩
  refine List.Pairwise.filter _ ?_
  unfold ndT
  cases q : getT t n with
  | none => exact List.nodup_nil
  | some l => exact (h.1 l (List.mem_of_find?_eq_some q)).2.1.2.1
/-- a closure under way -/
structure Cw (t : List Lb) (m : Str) (f : List Str) (i : Nat) : Prop where
  le : i ≤ f.length
  nd : f.Nodup
  sub : ∀ x ∈ f, x = m ∨ x ∈ (t.map (·.nd)).flatten
  eq : cloF t (1000 - i) f i = clo t m
theorem Cw.start {t : List Lb} {m : Str} : Cw t m [m] 0 := ⟨by simp, by simp, fun x hx => .inl (List.mem_singleton.mp hx), rfl⟩
theorem Cw.len {t : List Lb} {m : Str} {f : List Str} {i : Nat} (h : TOk t) (c : Cw t m f i) : f.length ≤ 481 := by
  have := List.Nodup.length_le_of_subset c.nd (l₂ := m :: (t.map (·.nd)).flatten) (fun x hx => List.mem_cons.mpr (c.sub x hx))
  have := flat_len h.1
  have := h.2.2
  rw [List.length_cons] at *
  omega
theorem Cw.step {t : List Lb} {m : Str} {f : List Str} {i : Nat} (h : TOk t) (c : Cw t m f i) (hi : i < f.length) : Cw t m (f ++ moreL t f f[i]) (i + 1) := by
  have l := c.len h
  refine ⟨by rw [List.length_append]; omega, more_nd h c.nd, fun x hx => ?_, ?_⟩
  · rcases List.mem_append.mp hx with q | q
    · exact c.sub x q
    · exact .inr (more_sub q).1
  · rw [← c.eq]
    have : 1000 - i = (1000 - (i + 1)) + 1 := by omega
    rw [this, cloF, List.getElem?_eq_getElem hi]
theorem Cw.mem {t : List Lb} {m : Str} {f : List Str} {i : Nat} (c : Cw t m f i) : ∀ x ∈ f, x ∈ clo t m := by
  obtain ⟨r, e⟩ := cloF_pre (t := t) (1000 - i) f i
  rw [c.eq] at e
  intro x hx
  rw [e]
  exact List.mem_append_left _ hx
theorem Cw.done {t : List Lb} {m : Str} {f : List Str} (h : TOk t) (c : Cw t m f f.length) : clo t m = f := by
  have l := c.len h
  rw [← c.eq]
  have : 1000 - f.length = (999 - f.length) + 1 := by omega
  rw [this, cloF, List.getElem?_eq_none (Nat.le_refl _)]
/-- the walk of a closure ends as told -/
theorem clo_walk {t : List Lb} {m : Str} (h : TOk t) : ∃ i, Cw t m (clo t m) i ∧ i = (clo t m).length := by
  have go : ∀ (k : Nat) (f : List Str) (i : Nat), 1000 - i ≤ k → Cw t m f i → ∃ j, Cw t m (clo t m) j ∧ j = (clo t m).length := by
    intro k
    induction k with
    | zero => intro f i hk c; have := c.len h; have := c.le; omega
    | succ k ih =>
      intro f i hk c
      by_cases q : i < f.length
      · exact ih _ (i + 1) (by omega) (c.step h q)
      · have := c.le
        have e : i = f.length := by omega
        subst e
        have d := c.done h
        exact ⟨f.length, by rw [d]; exact c, by rw [d]⟩
  exact go 1000 [m] 0 (by omega) .start
theorem grown_eq {t : List Lb} {o : Ow} {f : List Str} {l : Lb} (h : TOk t) (ho : o ≠ .own) (hs : o ≠ .scr) (hl : l ∈ t) (fl : f.length ≤ 1000) (hm : ∀ x ∈ moreL t f l.nm, x ∈ namesT t) : f_grown [stoV .frz t, .lst o (f.map .str), .str l.nm] = some (.ok (.lst .own ((f ++ moreL t f l.nm).map .str)), [stoV .frz t, .lst o (f.map .str), .str l.nm]) := by
  have sz := szL.2
  have lk := h.1 l hl
  have nl := lk.2.1.2.2
  have em : moreL t f l.nm = l.nd.filter fun x => !decide (x ∈ f) := by unfold moreL; rw [ndT_of h hl]
  rw [em] at hm ⊢
  refine wF_eq ?_
  (rw [f_grown, wF_fun]; refine ⟨rfl, ?_⟩; unfold b_grown; simp only [List.map_cons, List.map_nil, List.replicate, List.cons_append, List.nil_append, Nat.reduceSub])
  have c1 : l.nd.length ≤ 50000 := by omega
  simp! [sto_no, sto_isI, getitem_w h hl, fl_needs, List.length_map, c1]
  refine wPure (Γ := _) .str (fun x => !decide (x ∈ f)) .str (ws := l.nd) (fun u hu => ?_) ?_
  · simp! [ho]
    exact ⟨fun _ => trivial, fun _ => trivial⟩
  · rw [List.nil_append]
    have fl2 : (l.nd.filter fun x => !decide (x ∈ f)).length ≤ l.nd.length := List.length_filter_le _ _
    have c2 : (f.map PV.str).length + ((l.nd.filter fun x => !decide (x ∈ f)).map PV.str).length ≤ sizeLine := by rw [List.length_map, List.length_map]; omega
    simp! []
    refine wForM (fun i Γ => ∃ o4, Γ = [some (stoV .frz t), some (.lst o (f.map .str)), some (.str l.nm), some (.lst .frz ((l.nd.filter fun x => !decide (x ∈ f)).map .str)), o4]) ⟨_, rfl⟩ ?_ ?_
    · rintro i hi Γ ⟨o4, rfl⟩
      simp! [sto_no, sto_isI, contains_w h (hm _ (List.getElem_mem hi))]
      exact ⟨_, rfl⟩
    · rintro Γ ⟨o4, rfl⟩
      simp! [ho, hs, c2, List.map_append]
end SL

namespace SL
open PySem PySem.Spec PyProof.Rows L2 Evl SB FV
theorem atI_strs {ws : List Str} {i : Nat} (h : i < ws.length) : atI (ws.map PV.str) (i : Nat) = some (.str ws[i]) := by
  rw [atI_ok (by omega) (by rw [List.length_map]; omega)]
  simp
theorem closure_eq {t : List Lb} {m : Str} (h : TOk t) (hm : m ∈ namesT t) (c : Cpl t m) : f_closure [stoV .frz t, .str m] = some (.ok (.lst .own ((clo t m).map .str)), [stoV .frz t, .str m]) := by
  have sz := szL.2
  obtain ⟨l, hl, rfl⟩ := List.mem_map.mp hm
  refine wF_eq ?_
  (rw [f_closure, wF_fun]; refine ⟨rfl, ?_⟩; unfold b_closure; simp only [List.map_cons, List.map_nil, List.replicate, List.cons_append, List.nil_append, Nat.reduceSub])
  simp! [sto_no, sto_isI, getitem_w h hl, fl_name]
  refine wWh (n := 500) (I := fun n Γ => ∃ f i, n + i = 500 ∧ Cw t l.nm f i ∧ Γ = [some (stoV .frz t), some (.str l.nm), some (.lst .own (f.map .str)), some (.int (i : Nat))]) (by omega) ⟨[l.nm], 0, rfl, .start, rfl⟩ ?_
  rintro n Γ ⟨f, i, hn, cw, rfl⟩
  have fl := cw.len h
  have il := cw.le
  simp! [List.length_map]
  refine wB_dec (fun q => ?_) (fun q => ?_)
  · have hi : i < f.length := by omega
    have c2 := cw.step h hi
    obtain ⟨l', hl', e'⟩ := List.mem_map.mp (c _ (cw.mem _ (List.getElem_mem hi)))
    have g := grown_eq (o := .brw) (f := f) h (by decide) (by decide) hl' (by omega) (fun x hx => c x (c2.mem x (List.mem_append_right _ (e' ▸ hx))))
    rw [e'] at g
    simp! [sto_no, sto_brw, atI_strs hi, wF_of g]
    exact ⟨n - 1, by omega, _, i + 1, by omega, c2, rfl⟩
  · have e : i = f.length := by omega
    subst e
    simp! [cw.done h, sto_no]
def libN (t : List Lb) (n : Str) : PV := match getT t n with
  | some l => libO .frz l
  | none => .non
theorem libN_of {t : List Lb} (h : TOk t) {l : Lb} (hl : l ∈ t) : libN t l.nm = libO .frz l := by unfold libN; rw [getT_mem h.2.1 hl]
theorem libN_no (t : List Lb) (n : Str) : noOwn (libN t n) = true := by
  unfold libN
  cases getT t n with
  | none => rfl
  | some l => exact libF_no l
theorem libN_nb (t : List Lb) (n : Str) : noBrw (libN t n) = true := by
  unfold libN
  cases getT t n with
  | none => rfl
  | some l => exact libF_nb l
end SL

namespace SL
open PySem PySem.Spec PyProof.Rows L2 Evl SB FV
structure WOk (t : List Lb) (ws : List (Str × Str)) : Prop where
  wd : ∀ p ∈ ws, isWord p.1 = true
  nm : ∀ p ∈ ws, p.2 ∈ namesT t
  nd : (ws.map (·.1)).Nodup
  le : ws.length < 64
theorem keysS_map {ws : List (Str × Str)} : keysS (ws.map fun p => Sum.inr p.1) = some (ws.map (·.1)) := by
  induction ws with
  | nil => rfl
  | cons p ws ih => rw [List.map_cons, keysS, ih]; rfl
end SL

namespace SL
open PySem PySem.Spec PyProof.Rows L2 Evl SB FV
end SL

namespace SL
open PySem PySem.Spec PyProof.Rows L2 Evl SB FV
end SL

namespace SL
open PySem PySem.Spec PyProof.Rows L2 Evl SB FV
theorem stoO_no (t : List Lb) : noOwn (stoV .own t) = false := by unfold stoV; simp [noOwn]
theorem names_len {t : List Lb} (h : TOk t) : (namesT t).length ≤ 40 := by unfold namesT; rw [List.length_map]; exact h.2.2
theorem ints_no (xs : List Int) : noOwns (xs.map PV.int) = true := noOwns_map fun _ => rfl
theorem ints_nb (xs : List Int) : noBrws (xs.map PV.int) = true := noBrws_map fun _ => rfl
theorem ints_fz (xs : List Int) : fzs (xs.map PV.int) = xs.map PV.int := fzs_no (ints_no xs) (ints_nb xs)
end SL

namespace SL
open PySem PySem.Spec PyProof.Rows L2 Evl SB FV
/-! family A: draws -/
def primesA : List Int := [2147483647, 2147483629, 2147483587, 2147483579, 2147483563, 2147483549, 2147483543]
theorem atI_prime {k : Int} (h0 : 0 ≤ k) (h7 : k < 7) : ∃ p : Int, atI (primesA.map PV.int) k = some (.int p) ∧ 2000000000 < p ∧ p < 2147483648 := by
  obtain ⟨n, rfl⟩ := Int.eq_ofNat_of_zero_le h0
  have hn : n < 7 := by omega
  match n, hn with
  | 0, _ => exact ⟨_, rfl, by omega, by omega⟩
  | 1, _ => exact ⟨_, rfl, by omega, by omega⟩
  | 2, _ => exact ⟨_, rfl, by omega, by omega⟩
  | 3, _ => exact ⟨_, rfl, by omega, by omega⟩
  | 4, _ => exact ⟨_, rfl, by omega, by omega⟩
  | 5, _ => exact ⟨_, rfl, by omega, by omega⟩
  | 6, _ => exact ⟨_, rfl, by omega, by omega⟩
theorem wp_drawA {n : Nat} {x : PV} {m : Int} {P : PV → List PV → Prop} {X : Xn → List PV → Prop} (w : wellP n x) (hn : n ≤ 1000000000) (h1 : 1 ≤ m) (h2 : m < 1000000) (k : ∀ d x', 0 ≤ d → d < m → wellP (n + 1) x' → P (.int d) [x', .int m]) : wF f__law_draw [x, .int m] P X := by
  obtain ⟨a, b, c, rfl, hb, hb2, hc, hcn⟩ := w
  have m0 : ¬ m = 0 := by omega
  have m1 : m.natAbs < 1073741824 := by omega
  have sz := szL.2
  unfold f__law_draw b__law_draw
  simp! []
  refine wB_dec (fun ha => ?_) (fun ha => ?_)
  · have d := fmod_bd (x := a) h1
    simp! [m0, m1, CDivN]
    exact k _ _ d.1 d.2 ⟨_, b, c, rfl, hb, hb2, hc, by omega⟩
  · have f7 := fmod_bd (x := c + 1) (m := 7) (by omega)
    obtain ⟨p, ep, p1, p2⟩ := atI_prime f7.1 f7.2
    unfold primesA at ep
    simp only [List.map_cons, List.map_nil] at ep
    have z1 : (b + 7919 * (c + 1) + 1).natAbs < 18446744073709551616 := by omega
    generalize hz : (b + 7919 * (c + 1) + 1) ^ 5 = z
    have f1 := fmod_bd (x := z) (m := p) (by omega)
    generalize hf : z.fmod p = f at f1
    have q1 : -18446744073709551616 < f + (c + 1) ∧ f + (c + 1) < 18446744073709551616 := by omega
    have f2 := fmod_bd (x := (f + (c + 1)) * (f.fdiv 1009 + 69621)) (m := p) (by omega)
    generalize hg : ((f + (c + 1)) * (f.fdiv 1009 + 69621)).fmod p = g at f2
    have p0 : ¬ p = 0 := by omega
    have c1 : CMul 7919 (c + 1) := .inl (by omega)
    have c3 : CPow (b + 7919 * (c + 1) + 1) 5 := ⟨by omega, by omega, z1⟩
    have c4 : CMul (f + (c + 1)) (f.fdiv 1009 + 69621) := .inl q1
    have c5 : CDivN f 1009 := ⟨by omega, by decide⟩
    have c6 : ∀ x, CDivN x 7 := fun x => ⟨by omega, by decide⟩
    have e5 : (5 : Int).toNat = 5 := rfl
    have s7 : 7 ≤ 100000 := by omega
    have s70 : ¬ (7 : Int) = 0 := by omega
    simp! [c1, c3, c4, c5, c6, e5, hz, hf, hg, m0, ep, p0, s7, s70]
    have d := fmod_bd (x := g.fdiv 7) h1
    exact k _ _ d.1 d.2 ⟨_, b, _, rfl, hb, hb2, by omega, by omega⟩
end SL

namespace SL
open PySem PySem.Spec PyProof.Rows L2 Evl SB FV
/-- a comprehension whose test draws -/
theorem wSub {Tg : PV → FV.Env → Option FV.Env} {C S : ES} {vs : List Nat} {Kt : List PV → FV.Env → Prop} {us : List Str} {n : Nat} {x : PV} {G : PV → FV.Env} (Pr : Str → Prop) (w : wellP n x)
    (st : ∀ u ∈ us, ∀ x m, wellP m x → m ≤ n + us.length → wG (Tg (.str u) (G x)) fun Γ1 => wE C Γ1 (fun b Γ2 => ∃ x' q, b = .bl q ∧ wellP (m + 1) x' ∧ wipeE Γ2 vs = G x' ∧ (q = true → Pr u ∧ wE S Γ2 (fun y Γ3 => y = .str u ∧ wipeE Γ3 vs = G x') fun _ _ => False)) fun _ _ => False)
    (K : ∀ (ws : List Str) (x' : PV), ws.Sublist us → (∀ u ∈ ws, Pr u) → wellP (n + us.length) x' → Kt (ws.map .str) (G x')) : wC Tg C S vs (us.map .str) [] (G x) Kt := by
  refine wComp (fun rest acc Γ => ∃ done rs ws x, us = done ++ rs ∧ rest = rs.map .str ∧ acc = ws.map .str ∧ ws.Sublist done ∧ (∀ u ∈ ws, Pr u) ∧ wellP (n + done.length) x ∧ Γ = G x) ⟨[], us, [], x, rfl, rfl, rfl, .slnil, (fun _ z => nomatch z), w, rfl⟩ ?_ ?_
  · rintro y ys acc Γ - ⟨done, rs, ws, x, e1, e2, rfl, hs, hp, w, rfl⟩
    cases rs with
    | nil => cases e2
    | cons r rs =>
      injection e2 with e2 e3
      subst e2 e3
      have l1 : us.length = done.length + (rs.length + 1) := by rw [e1]; simp
      have l2 : (done ++ [r]).length = done.length + 1 := by simp
      have h := st r (by rw [e1]; simp) x _ w (by omega)
      revert h
      unfold wG
      cases Tg (.str r) (G x) with
      | none => exact id
      | some Γ1 =>
        refine fun z => wE_mono z (fun b Γ2 => ?_) fun _ _ => id
        rintro ⟨x', q, rfl, w', e, k⟩
        cases q with
        | false =>
          rw [wB_false]
          exact ⟨done ++ [r], rs, ws, x', by rw [e1, List.append_assoc]; rfl, rfl, rfl, hs.trans (List.sublist_append_left _ _), hp, by rw [l2]; exact w', e⟩
        | true =>
          rw [wB_true]
          refine wE_mono (k rfl).2 (fun y Γ3 => ?_) fun _ _ => id
          rintro ⟨rfl, e'⟩
          exact ⟨done ++ [r], rs, ws ++ [r], x', by rw [e1, List.append_assoc]; rfl, rfl, by simp, hs.append (List.Sublist.refl _), (fun u hu => (List.mem_append.mp hu).elim (hp u) fun z => by rw [List.mem_singleton.mp z]; exact (k rfl).1), by rw [l2]; exact w', e'⟩
  · rintro acc Γ ⟨done, rs, ws, x, e1, e2, rfl, hs, hp, w, rfl⟩
    have : rs = [] := by cases rs with
      | nil => rfl
      | cons _ _ => cases e2
    subst this
    rw [List.append_nil] at e1
    subst e1
    exact K ws x hs hp w
theorem wp_well {c : Int} {P : PV → List PV → Prop} {X : Xn → List PV → Prop} (K : ∀ x, wellP 0 x → P x [.int c]) : wF f__law_well [.int c] P X := by
  (rw [f__law_well, wF_fun]; refine ⟨rfl, ?_⟩; unfold b__law_well; simp only [List.map_cons, List.map_nil, List.replicate, List.cons_append, List.nil_append, Nat.reduceSub])
  have c1 : CPow 10 18 := ⟨by omega, by omega, by decide⟩
  have e18 : (18 : Int).toNat = 18 := rfl
  have ne : ¬ (2147483647 : Int) = 0 := by omega
  have c2 : ∀ b : Bool, CMul c (if b = true then 1 else 0) := fun b => .inr (by cases b <;> decide)
  have f1 := fmod_bd (x := c) (m := 2147483647) (by omega)
  have l3 : 3 ≤ 100000 := by omega
  simp! [c1, e18, c2, ne, l3]
  exact K _ ⟨_, _, 0, rfl, f1.1, by omega, by omega, by omega⟩
theorem wp_one {n : Nat} {x : PV} {o : Ow} {xs : List PV} {P : PV → List PV → Prop} {X : Xn → List PV → Prop} (w : wellP n x) (hn : n ≤ 1000000000) (ho : o ≠ .own) (no : noOwns xs = true) (h1 : 1 ≤ xs.length) (h2 : xs.length < 1000000) (k : ∀ i (hi : i < xs.length) x', wellP (n + 1) x' → P xs[i] [x', .lst o xs]) : wF f__law_one [x, .lst o xs] P X := by
  unfold f__law_one b__law_one
  simp! [ho, no]
  refine wp_drawA w hn (by omega) (by omega) fun d x' d0 d1 w' => ?_
  simp! [ho, no, atI_ok d0 d1]
  exact k _ _ _ w'
/-! the drawn libraries -/
def rowA (l : Lb) : PV := .tup [.lst .frz (l.nd.map .str), .lst .frz (l.df.map .str), .lst .frz (l.us.map .str), .lst .frz (l.wk.map .str), .bl l.eg, .bl l.ow]
def spcV (o : Ow) (t : List Lb) : PV := .dk o (keysT t) (t.map rowA)
theorem rowA_no (l : Lb) : noOwn (rowA l) = true := by unfold rowA; simp [noOwn, noOwns, noOwns_strs]
theorem rowA_nb (l : Lb) : noBrw (rowA l) = true := by unfold rowA; simp [noBrw, noBrws, noBrws_strs]
theorem rowsA_no (t : List Lb) : noOwns (t.map rowA) = true := noOwns_map fun l => rowA_no l
theorem rowsA_nb (t : List Lb) : noBrws (t.map rowA) = true := noBrws_map fun l => rowA_nb l
theorem spc_no {o : Ow} (ho : o ≠ .own) (t : List Lb) : noOwn (spcV o t) = true := by unfold spcV; cases o <;> first | exact absurd rfl ho | (simp [noOwn, rowsA_no])
theorem spcO_nb (t : List Lb) : noBrw (spcV .own t) = true := by unfold spcV; simp [noBrw, rowsA_nb]
theorem spcO_no (t : List Lb) : noOwn (spcV .own t) = false := by unfold spcV; simp [noOwn]
theorem rowsA_fz (t : List Lb) : fzs (t.map rowA) = t.map rowA := fzs_no (rowsA_no t) (rowsA_nb t)
theorem spcO_fz (t : List Lb) : FV.fz (spcV .own t) = spcV .frz t := by unfold spcV; simp only [FV.fz, flF, rowsA_fz]
theorem spc_put {t : List Lb} {l : Lb} (h : l.nm ∉ namesT t) (k : t.length < sizeLine) : fPut (spcV .own t) (.str l.nm) (rowA l) = some (spcV .own (t ++ [l])) := by
  have := put_new (val := rowA) (y := rowA l) h k
  unfold spcV keysT
  rw [this]
  simp
def wordsA : List Str := ["app", "base", "core", "disk", "edit", "font", "grid", "hash", "icon", "jar"]
def symsA : List Str := ["put", "get", "len", "map", "cut", "zip"]
theorem wordsA_ok : (∀ u ∈ wordsA, isWord u = true) ∧ wordsA.Nodup := by decide +kernel
theorem symsA_ok : (∀ u ∈ symsA, isWord u = true) ∧ symsA.Nodup := by decide +kernel
/-- a drawn spec -/
structure SpA (t : List Lb) (k : Nat) : Prop where
  nm : namesT t = wordsA.take k
  lo : 2 ≤ k
  hi : k ≤ 10
  nd : ∀ l ∈ t, (l.nd.Sublist (wordsA.take k) ∨ l.nd.reverse.Sublist (wordsA.take k)) ∧ l.nm ∉ l.nd
  df : ∀ l ∈ t, l.df.Sublist symsA ∨ l.df.reverse.Sublist symsA
  us : ∀ l ∈ t, l.us.Sublist symsA ∨ l.us.reverse.Sublist symsA
  wk : ∀ l ∈ t, ∀ w ∈ l.wk, w ∈ l.us
  wl : ∀ l ∈ t, l.wk.Nodup ∧ l.wk.length ≤ 6
theorem wl_sub {ws us : List Str} {n : Nat} (h : ws.Sublist us ∨ ws.reverse.Sublist us) (hw : ∀ u ∈ us, isWord u = true) (hn : us.Nodup) (hl : us.length ≤ n) : WL n ws := by
  rcases h with h | h
  · exact ⟨fun u hu => hw u (h.subset hu), hn.sublist h, Nat.le_trans h.length_le hl⟩
  · exact ⟨fun u hu => hw u (h.subset (List.mem_reverse.mpr hu)), (List.reverse_perm ws).nodup_iff.mp (hn.sublist h), by have := h.length_le; rw [List.length_reverse] at this; omega⟩
theorem SpA.ok {t : List Lb} {k : Nat} (s : SpA t k) : TOk t ∧ ∀ m ∈ namesT t, Cpl t m := by
  have tk : ∀ u ∈ wordsA.take k, isWord u = true := fun u hu => wordsA_ok.1 u (List.mem_of_mem_take hu)
  have tn : (wordsA.take k).Nodup := wordsA_ok.2.sublist (List.take_sublist ..)
  have tl : (wordsA.take k).length ≤ 10 := by rw [List.length_take]; have : wordsA.length = 10 := rfl; omega
  have nn := s.nm
  unfold namesT at nn
  have ok : TOk t := by
    refine ⟨fun l hl => ?_, by rw [nn]; exact tn, ?_⟩
    · refine ⟨tk _ (by rw [← nn]; exact List.mem_map.mpr ⟨l, hl, rfl⟩), wl_sub (s.nd l hl).1 tk tn (by omega), (s.nd l hl).2, wl_sub (s.df l hl) symsA_ok.1 symsA_ok.2 (by decide), wl_sub (s.us l hl) symsA_ok.1 symsA_ok.2 (by decide), ?_, s.wk l hl⟩
      have uw := wl_sub (n := 20) (s.us l hl) symsA_ok.1 symsA_ok.2 (by decide)
      exact ⟨fun w hw => uw.1 w (s.wk l hl w hw), (s.wl l hl).1, by have := (s.wl l hl).2; omega⟩
    · have := congrArg List.length nn
      rw [List.length_map] at this
      omega
  refine ⟨ok, fun m hm x hx => ?_⟩
  obtain ⟨i, cw, _⟩ := clo_walk (m := m) ok
  rcases cw.sub x hx with q | q
  · rw [q]; exact hm
  · obtain ⟨nd, hn, hx'⟩ := List.mem_flatten.mp q
    obtain ⟨l, hl, rfl⟩ := List.mem_map.mp hn
    rw [s.nm]
    rcases (s.nd l hl).1 with z | z
    · exact z.subset hx'
    · exact z.subset (List.mem_reverse.mpr hx')
end SL

/-! wishes for dict comprehensions, op= of a field, del, walks of dicts with tuple keys -/
namespace FV
open PySem PySem.Spec PyProof.Rows L2 Evl SB
section
variable {S T A B C Sk Sv : ES} {SA TA : AS} {Γ : Env} {P : PV → Env → Prop} {PA : List PV → Env → Prop} {X : Xn → Env → Prop} {U W : SS} {N : Env → Prop} {R : PV → Env → Prop} {f : FT}
@[irreducible] def wDk (Tg : PV → Env → Option Env) (C Sk Sv : ES) (vs : List Nat) (xs : List PV) (ks : List Key) (acc : List PV) (Γ : Env) (K : List Key → List PV → Env → Prop) (_ : Tok K K := ⟨⟩) : Prop := match compDF Tg C Sk Sv vs xs ks acc Γ with
  | some (ks, ys, Γ') => K ks ys Γ'
  | none => False
@[irreducible] def wDt (Tg : PV → Env → Option Env) (C Sk Sv : ES) (vs : List Nat) (xs : List PV) (ks : List (List Key)) (acc : List PV) (Γ : Env) (K : List (List Key) → List PV → Env → Prop) (_ : Tok K K := ⟨⟩) : Prop := match compDF2 Tg C Sk Sv vs xs ks acc Γ with
  | some (ks, ys, Γ') => K ks ys Γ'
  | none => False
@[irreducible] def w3 (xs : List PV) (K : PV → PV → PV → Prop) : Prop := match xs with
  | [x, y, z] => K x y z
  | _ => False
theorem w3_eq {x y z : PV} {K : PV → PV → PV → Prop} : w3 [x, y, z] K = K x y z := by with_unfolding_all rfl
theorem wS_Par3 {i j l : Nat} : wS (sPar3 i j l SA) Γ N R X = wA SA Γ (fun xs Γ1 => w3 xs fun x y z => N (((Γ1.set i (some x)).set j (some y)).set l (some z))) X := by
  unfold wS sPar3 wA
  rcases SA Γ with _ | ⟨xs | _, Γ1⟩
  · with_unfolding_all rfl
  · rcases xs with _ | ⟨x, _ | ⟨y, _ | ⟨z, _ | ⟨u, us⟩⟩⟩⟩ <;> with_unfolding_all rfl
  · with_unfolding_all rfl
end
end FV

namespace SL
open PySem PySem.Spec PyProof.Rows L2 Evl SB FV
theorem strs_take {ws : List Str} {k : Nat} (h : (k : Int) ≤ ws.length) : cutP (ws.map PV.str) none (some (k : Int)) = (ws.take k).map .str := by
  unfold cutP HT.sIx
  simp only [List.drop_zero, Nat.sub_zero]
  rw [if_neg (by omega), List.map_take]
  congr 1
  rw [List.length_map]
  omega
theorem wp_spec {n : Nat} {x : PV} {most : Nat} {P : PV → List PV → Prop} {X : Xn → List PV → Prop} (w : wellP n x) (hn : n + 1000 ≤ 1000000000) (h2 : 2 ≤ most) (h10 : most ≤ 10)
    (K : ∀ t k x', SpA t k → k ≤ most → wellP (n + 1000) x' → P (spcV .own t) [x', .int (most : Nat)]) : wF f__law_spec [x, .int (most : Nat)] P X := by
  have sz := szL.2
  (rw [f__law_spec, wF_fun]; refine ⟨rfl, ?_⟩; unfold b__law_spec; simp only [List.map_cons, List.map_nil, List.replicate, List.cons_append, List.nil_append, Nat.reduceSub])
  have l10 : 10 ≤ 100000 := by omega
  have l6 : 6 ≤ 100000 := by omega
  have stp : ∀ (o : Ow) (ws : List Str), oStep (.lst o (ws.map PV.str)) (.int (-1)) = some (.lst .own (ws.reverse.map .str)) := fun o ws => by rw [List.map_reverse]; rfl
  refine wS_cut (M := fun Γ => Γ = [some x, some (.int (most : Nat)), some (.lst .frz (wordsA.map .str)), none, none, none, none, none, none, none, none, none]) ?_ ?_
  · simp! [l10]
    rfl
  rintro _ rfl
  refine wS_cut (M := fun Γ => ∃ (k : Nat) (x : PV), 2 ≤ k ∧ k ≤ most ∧ wellP (n + 1) x ∧ Γ = [some x, some (.int (most : Nat)), some (.lst .frz ((wordsA.take k).map .str)), none, none, none, none, none, none, none, none, none]) ?_ ?_
  · simp! []
    refine wp_drawA w (by omega) (by omega) (by omega) fun d x' d0 d1 w' => ?_
    have e : (2 : Int) + d = ((2 + d.toNat : Nat) : Int) := by omega
    have wl : wordsA.length = 10 := rfl
    have ct := strs_take (ws := wordsA) (k := 2 + d.toNat) (by omega)
    simp! [e, ct]
    exact ⟨2 + d.toNat, x', by omega, by omega, w', rfl⟩
  rintro _ ⟨k, x1, k2, km, w1, rfl⟩
  have tk : ∀ u ∈ wordsA.take k, isWord u = true := fun u hu => wordsA_ok.1 u (List.mem_of_mem_take hu)
  have tl : (wordsA.take k).length = k := by rw [List.length_take]; have : wordsA.length = 10 := rfl; omega
  have tn : (wordsA.take k).Nodup := wordsA_ok.2.sublist (List.take_sublist ..)
  refine wS_cut (M := fun Γ => Γ = [some x1, some (.int (most : Nat)), some (.lst .frz ((wordsA.take k).map .str)), some (.lst .frz (symsA.map .str)), none, none, none, none, none, none, none, none]) ?_ ?_
  · simp! [l6]
    rfl
  rintro _ rfl
  refine wS_cut (M := fun Γ => Γ = [some x1, some (.int (most : Nat)), some (.lst .frz ((wordsA.take k).map .str)), some (.lst .frz (symsA.map .str)), some (spcV .own []), none, none, none, none, none, none, none]) ?_ ?_
  · simp! []
    rfl
  rintro _ rfl
  have s6 : symsA.length = 6 := rfl
  generalize hW : wordsA.take k = W at tk tl tn
  refine wS_cut (M := fun Γ => ∃ t x o5 o6 o8 o10 o11, SpA t k ∧ wellP (n + 1000) x ∧ Γ = [some x, some (.int (most : Nat)), some (.lst .frz (W.map .str)), some (.lst .frz (symsA.map .str)), some (spcV .own t), o5, o6, none, o8, none, o10, o11]) ?_ ?_
  · simp! []
    refine wForM (fun i Γ => ∃ (t : List Lb), ∃ x o5 o6 o8 o10 o11, namesT t = W.take i ∧ (∀ l ∈ t, ((l.nd.Sublist W ∨ l.nd.reverse.Sublist W) ∧ l.nm ∉ l.nd) ∧ (l.df.Sublist symsA ∨ l.df.reverse.Sublist symsA) ∧ (l.us.Sublist symsA ∨ l.us.reverse.Sublist symsA) ∧ (∀ w ∈ l.wk, w ∈ l.us) ∧ l.wk.Nodup ∧ l.wk.length ≤ 6) ∧ wellP (n + 1 + 40 * i) x ∧ Γ = [some x, some (.int (most : Nat)), some (.lst .frz (W.map .str)), some (.lst .frz (symsA.map .str)), some (spcV .own t), o5, o6, none, o8, none, o10, o11]) ⟨[], x1, none, none, none, none, none, rfl, (fun _ z => nomatch z), w1, rfl⟩ ?_ ?_
    · rintro i hi Γ ⟨t, x, o5, o6, o8, o10, o11, nm, facts, w, rfl⟩
      have hi10 : i < 10 := by omega
      have l1 : W.length ≤ 50000 := by omega
      have l2 : symsA.length ≤ 50000 := by omega
      simp only [gN, wG_some, List.set_cons_zero, List.set_cons_succ]
      -- what it needs
      refine wS_cut (M := fun Γ => ∃ (nd : List Str) (x : PV), nd.Sublist W ∧ W[i] ∉ nd ∧ wellP (n + 1 + 40 * i + 10) x ∧ Γ = [some x, some (.int (most : Nat)), some (.lst .frz (W.map .str)), some (.lst .frz (symsA.map .str)), some (spcV .own t), some (.str W[i]), some (.lst .frz (nd.map .str)), none, o8, none, o10, o11]) ?_ ?_
      · simp! [List.length_map, l1]
        refine wSub (us := W) (Pr := fun u => u ≠ W[i]) (G := fun x => [some x, some (.int (most : Nat)), some (.lst .frz (W.map .str)), some (.lst .frz (symsA.map .str)), some (spcV .own t), some (.str W[i]), o6, none, o8, none, o10, o11]) w (fun u hu x m w hm => ?_) fun ws x' hs hp w' => ?_
        · simp! []
          by_cases q : u = W[i]
          · simp! [q]
            exact ⟨x, false, rfl, w.le (by omega), rfl, fun z => nomatch z⟩
          · simp! [q]
            refine wp_drawA w (by omega) (by omega) (by omega) fun d x' d0 d1 w' => ?_
            simp! []
            exact ⟨x', _, rfl, w', rfl, fun _ => ⟨q, by simp! []⟩⟩
        · simp! [noOwns_strs, noBrws_strs, fzs_strs]
          exact ⟨ws, x', hs, fun z => hp _ z rfl, w'.le (by omega), rfl⟩
      rintro _ ⟨nd, x3, ndS, ndN, w, rfl⟩
      refine wS_cut (M := fun Γ => ∃ (df : List Str) (x : PV), df.Sublist symsA ∧ wellP (n + 1 + 40 * i + 16) x ∧ Γ = [some x, some (.int (most : Nat)), some (.lst .frz (W.map .str)), some (.lst .frz (symsA.map .str)), some (spcV .own t), some (.str W[i]), some (.lst .frz (nd.map .str)), none, some (.lst .frz (df.map .str)), none, o10, o11]) ?_ ?_
      · simp! [List.length_map, l2]
        refine wSub (us := symsA) (Pr := fun _ => True) (G := fun x => [some x, some (.int (most : Nat)), some (.lst .frz (W.map .str)), some (.lst .frz (symsA.map .str)), some (spcV .own t), some (.str W[i]), some (.lst .frz (nd.map .str)), none, o8, none, o10, o11]) w (fun u hu x m w hm => ?_) fun ws x' hs _ w' => ?_
        · simp! []
          refine wp_drawA w (by omega) (by omega) (by omega) fun d x' d0 d1 w' => ?_
          simp! []
          exact ⟨x', _, rfl, w', rfl, fun _ => by first | rfl | trivial | exact ⟨rfl, rfl⟩ | exact ⟨trivial, by simp! []⟩⟩
        · simp! [noOwns_strs, noBrws_strs, fzs_strs]
          exact ⟨ws, x', hs, w'.le (by omega), rfl⟩
      rintro _ ⟨df, x4, dfS, w, rfl⟩
      refine wS_cut (M := fun Γ => ∃ (us : List Str) (x : PV), us.Sublist symsA ∧ wellP (n + 1 + 40 * i + 22) x ∧ Γ = [some x, some (.int (most : Nat)), some (.lst .frz (W.map .str)), some (.lst .frz (symsA.map .str)), some (spcV .own t), some (.str W[i]), some (.lst .frz (nd.map .str)), none, some (.lst .frz (df.map .str)), none, some (.lst .frz (us.map .str)), o11]) ?_ ?_
      · simp! [List.length_map, l2]
        refine wSub (us := symsA) (Pr := fun _ => True) (G := fun x => [some x, some (.int (most : Nat)), some (.lst .frz (W.map .str)), some (.lst .frz (symsA.map .str)), some (spcV .own t), some (.str W[i]), some (.lst .frz (nd.map .str)), none, some (.lst .frz (df.map .str)), none, o10, o11]) w (fun u hu x m w hm => ?_) fun ws x' hs _ w' => ?_
        · simp! []
          refine wp_drawA w (by omega) (by omega) (by omega) fun d x' d0 d1 w' => ?_
          simp! []
          exact ⟨x', _, rfl, w', rfl, fun _ => by first | rfl | trivial | exact ⟨rfl, rfl⟩ | exact ⟨trivial, by simp! []⟩⟩
        · simp! [noOwns_strs, noBrws_strs, fzs_strs]
          exact ⟨ws, x', hs, w'.le (by omega), rfl⟩
      rintro _ ⟨us, x5, usS, w, rfl⟩
      have usl : us.length ≤ 6 := by have := usS.length_le; omega
      have l3 : us.length ≤ 50000 := by omega
      refine wS_cut (M := fun Γ => ∃ (wk : List Str) (x : PV), wk.Sublist us ∧ wellP (n + 1 + 40 * i + 28) x ∧ Γ = [some x, some (.int (most : Nat)), some (.lst .frz (W.map .str)), some (.lst .frz (symsA.map .str)), some (spcV .own t), some (.str W[i]), some (.lst .frz (nd.map .str)), none, some (.lst .frz (df.map .str)), none, some (.lst .frz (us.map .str)), some (.lst .frz (wk.map .str))]) ?_ ?_
      · simp! [List.length_map, l3]
        refine wSub (us := us) (Pr := fun _ => True) (G := fun x => [some x, some (.int (most : Nat)), some (.lst .frz (W.map .str)), some (.lst .frz (symsA.map .str)), some (spcV .own t), some (.str W[i]), some (.lst .frz (nd.map .str)), none, some (.lst .frz (df.map .str)), none, some (.lst .frz (us.map .str)), o11]) w (fun u hu x m w hm => ?_) fun ws x' hs _ w' => ?_
        · simp! []
          refine wp_drawA w (by omega) (by omega) (by omega) fun d x' d0 d1 w' => ?_
          simp! []
          exact ⟨x', _, rfl, w', rfl, fun _ => by first | rfl | trivial | exact ⟨rfl, rfl⟩ | exact ⟨trivial, by simp! []⟩⟩
        · simp! [noOwns_strs, noBrws_strs, fzs_strs]
          exact ⟨ws, x', hs, w'.le (by omega), rfl⟩
      rintro _ ⟨wk, x6, wkS, w, rfl⟩
      have wkn : wk.Nodup ∧ wk.length ≤ 6 := ⟨(symsA_ok.2.sublist usS).sublist wkS, by have := wkS.length_le; omega⟩
      refine wS_cut (M := fun Γ => ∃ (nd' df' us' : List Str) (x : PV), ((nd'.Sublist W ∨ nd'.reverse.Sublist W) ∧ W[i] ∉ nd') ∧ (df'.Sublist symsA ∨ df'.reverse.Sublist symsA) ∧ (us'.Sublist symsA ∨ us'.reverse.Sublist symsA) ∧ (∀ w ∈ wk, w ∈ us') ∧ wellP (n + 1 + 40 * i + 29) x ∧ Γ = [some x, some (.int (most : Nat)), some (.lst .frz (W.map .str)), some (.lst .frz (symsA.map .str)), some (spcV .own t), some (.str W[i]), some (.lst .frz (nd'.map .str)), none, some (.lst .frz (df'.map .str)), none, some (.lst .frz (us'.map .str)), some (.lst .frz (wk.map .str))]) ?_ ?_
      · simp! []
        refine wp_drawA w (by omega) (by omega) (by omega) fun d x' d0 d1 w' => ?_
        simp! []
        refine wB_dec (fun q => ?_) (fun q => ?_)
        · simp! [wS_Par3, w3_eq, stp, noOwns_strs, noBrws_strs, fzs_strs]
          exact ⟨nd.reverse, df.reverse, us.reverse, x', ⟨.inr (by rw [List.reverse_reverse]; exact ndS), fun z => ndN (List.mem_reverse.mp z)⟩, .inr (by rw [List.reverse_reverse]; exact dfS), .inr (by rw [List.reverse_reverse]; exact usS), fun z hz => List.mem_reverse.mpr (wkS.subset hz), w', rfl⟩
        · simp! []
          exact ⟨nd, df, us, x', ⟨.inl ndS, ndN⟩, .inl dfS, .inl usS, fun z hz => wkS.subset hz, w', rfl⟩
      rintro _ ⟨nd', df', us', x7, f1, f2, f3, f4, w, rfl⟩
      simp! []
      refine wp_drawA w (by omega) (by omega) (by omega) fun d x8 d0 d1 w8 => ?_
      simp! []
      refine wp_drawA w8 (by omega) (by omega) (by omega) fun e x9 e0 e1 w9 => ?_
      have new : W[i] ∉ namesT t := by
        rw [nm]
        intro z
        obtain ⟨j, hj, e2⟩ := List.getElem_of_mem z
        rw [List.getElem_take] at e2
        rw [List.length_take] at hj
        exact List.pairwise_iff_getElem.mp tn j i (by omega) hi (by omega) e2
      have tlen : t.length ≤ 10 := by
        have := congrArg List.length nm
        unfold namesT at this
        rw [List.length_map, List.length_take] at this
        omega
      have pp := spc_put (l := ⟨W[i], nd', df', us', wk, decide (d = 0), decide (e = 0)⟩) new (by omega)
      unfold rowA at pp
      dsimp only at pp
      simp! [l6, pp]
      refine ⟨t ++ [⟨W[i], nd', df', us', wk, decide (d = 0), decide (e = 0)⟩], x9, _, _, _, _, _, ?_, ?_, w9.le (by omega), rfl⟩
      · unfold namesT at nm ⊢
        rw [List.map_append, nm, List.take_add_one, List.getElem?_eq_getElem hi]
        rfl
      · intro l hl
        rcases List.mem_append.mp hl with z | z
        · exact facts l z
        · rw [List.mem_singleton.mp z]
          exact ⟨f1, f2, f3, f4, wkn⟩
    · rintro Γ ⟨t, x, o5, o6, o8, o10, o11, nm, facts, w, rfl⟩
      refine ⟨t, x, o5, o6, o8, o10, o11, ⟨?_, k2, by omega, ?_, ?_, ?_, ?_, ?_⟩, w.le (by omega), rfl⟩
      · rw [nm, ← hW, List.take_of_length_le]
        rw [hW]
        exact Nat.le_refl _
      · rw [hW]
        exact fun l hl => (facts l hl).1
      · exact fun l hl => (facts l hl).2.1
      · exact fun l hl => (facts l hl).2.2.1
      · exact fun l hl => (facts l hl).2.2.2.1
      · exact fun l hl => (facts l hl).2.2.2.2
  rintro _ ⟨t, x2, o5, o6, o8, o10, o11, sp, w2, rfl⟩
  simp! []
  exact K t k x2 sp km w2
end SL

namespace SL
open PySem PySem.Spec PyProof.Rows L2 Evl SB FV
theorem wordsA_sort : ∀ k : Fin 11, sortS (wordsA.take k.1) = wordsA.take k.1 := by decide +kernel
theorem SpA.sort {t : List Lb} {k : Nat} (s : SpA t k) : sortS (namesT t) = namesT t := by
  rw [s.nm]
  exact wordsA_sort ⟨k, by have := s.hi; omega⟩
theorem sort_spc {o : Ow} {t : List Lb} (h : TOk t) : cSort2 [spcV o t] = some (.lst .own ((sortS (namesT t)).map .str)) := by
  have nl := names_len h
  unfold cSort2 ocOr
  have e : cSort [spcV o t] = some (.lst .own ((sortS (namesT t)).map .str)) := by
    unfold cSort ocOr
    have e1 : cSortL [spcV o t] = none := rfl
    rw [e1]
    unfold spcV cSortD keysT
    have e2 : (t.map fun l => (Sum.inr l.nm : Key)) = (namesT t).map Sum.inr := by unfold namesT; rw [List.map_map]; rfl
    simp only
    rw [e2, FV.keysS_map]
    simp only
    rw [if_pos (by omega)]
  rw [e]
theorem rowA_at {o : Ow} {t : List Lb} {l : Lb} (h : TOk t) (hl : l ∈ t) : oSub (spcV o t) (.str l.nm) = some (rowA l) := by
  unfold spcV
  rw [oSub_dk, lk_keys, getT_mem h.2.1 hl]
  rfl
/-- the law's store of the libraries, which stand in the order of their names -/
theorem storeA_eq {t : List Lb} {o : Ow} (h : TOk t) (hs : sortS (namesT t) = namesT t) (ho : o ≠ .own) : f__law_store [spcV o t] = some (.ok (stoV .own t), [spcV o t]) := by
  refine wF_eq ?_
  (rw [f__law_store, wF_fun]; refine ⟨rfl, ?_⟩; unfold b__law_store; simp only [List.map_cons, List.map_nil, List.replicate, List.cons_append, List.nil_append, Nat.reduceSub])
  have l := h.2.2
  have sz := szL.2
  have tn := spc_no ho t
  have so := sort_spc (o := o) h
  rw [hs] at so
  have libO_no : ∀ l : Lb, noOwn (libO .frz l) = true := fun l => by unfold libO valsL; simp [noOwn, noOwns, noOwns_strs]
  have oz : ∀ t : List Lb, noBrws (t.map (libO .frz)) = true := fun t => noBrws_map fun l => by unfold libO valsL; simp [noBrw, noBrws, noBrws_strs]
  have on : ∀ t : List Lb, noOwns (t.map (libO .frz)) = true := fun t => noOwns_map libO_no
  have fo : ∀ t : List Lb, fzs (t.map (libO .frz)) = t.map (libO .frz) := fun t => fzs_no (on t) (oz t)
  have em : (namesT t).map PV.str = t.map fun l => PV.str l.nm := by unfold namesT; rw [List.map_map]; rfl
  simp! [tn, so, noOwns_strs, noBrws_strs, fzs_strs]
  rw [em]
  refine wForM (us := t) (e := fun l => PV.str l.nm) (fun i Γ => ∃ o2 o3 o4 o5 o6 o7 o8 o9, Γ = [some (spcV o t), some (.lst .own ((t.take i).map (libO .frz))), o2, o3, o4, o5, o6, o7, o8, o9]) ⟨_, _, _, _, _, _, _, _, rfl⟩ ?_ ?_
  · rintro i hi Γ ⟨o2, o3, o4, o5, o6, o7, o8, o9, rfl⟩
    have hl := List.getElem_mem hi
    obtain ⟨k1, k2, k3, k4, k5, k6, k7⟩ := h.1 _ hl
    have ra := rowA_at (o := o) h hl
    unfold rowA at ra
    have c5 : (List.map (libO Ow.frz) (List.take i t)).length < sizeLine := by rw [List.length_map, List.length_take]; omega
    have n1 : t[i].nd.length ≤ 100000 := by have := k2.2.2; omega
    have n2 : t[i].df.length ≤ 100000 := by have := k4.2.2; omega
    have n3 : t[i].us.length ≤ 100000 := by have := k5.2.2; omega
    have n4 : t[i].wk.length ≤ 100000 := by have := k6.2.2; omega
    simp! [ra, tn, List.length_map, n1, n2, n3, n4]
    rw [wF_of (libinit_eq (h.1 _ hl))]
    have lo : ∀ l : Lb, noOwn (libO .own l) = false := fun l => by unfold libO; simp [noOwn]
    have lz : ∀ l : Lb, noBrw (libO .frz l) = true := fun l => by unfold libO valsL; simp [noBrw, noBrws, noBrws_strs]
    simp! [lo, lz, brw_no (libO_no _), libO_nb, libO_fz, libO_no, c5]
    have e : t.take (i + 1) = t.take i ++ [t[i]] := by rw [List.take_add_one, List.getElem?_eq_getElem hi]; rfl
    rw [e, List.map_append]
    exact ⟨_, _, _, _, _, _, _, _, rfl⟩
  · rintro Γ ⟨o2, o3, o4, o5, o6, o7, o8, o9, rfl⟩
    rw [List.take_length]
    simp! [oz, fo, wF_of (storeinit_eq h), tn]
end SL

/-! a comprehension whose element may raise; the first library that a closure lacks -/
namespace FV
open PySem PySem.Spec PyProof.Rows L2 Evl SB
section
variable {SA : AS} {C S : ES} {Γ : Env} {P : PV → Env → Prop} {X : Xn → Env → Prop}
@[irreducible] def wCX (Tg : PV → Env → Option Env) (C S : ES) (vs : List Nat) (xs acc : List PV) (Γ : Env) (K : List PV → Env → Prop) (X : Xn → Env → Prop) (_ : Tok K X := ⟨⟩) : Prop := match compX Tg C S vs xs acc Γ with
  | some (.ok ys, Γ') => K ys Γ'
  | some (.ex e, Γ') => X e Γ'
  | none => False
theorem wE_CompX {Tg : PV → Env → Option Env} {vs : List Nat} : wE (eCompX SA Tg C S vs) Γ P X = wA SA Γ (fun xs Γ1 => (freeAt Γ1 vs && decide (xs.length ≤ 50000)) = true ∧ wCX Tg C S vs xs [] (wipeE Γ1 vs) (fun ys Γ2 => P (.lst .own ys) (backE Γ1 Γ2 vs)) (fun e Γ2 => X e (backE Γ1 Γ2 vs))) X := by
  unfold wE eCompX wA wCX
  rcases SA Γ with _ | ⟨xs | _, Γ1⟩
  · with_unfolding_all rfl
  · dsimp only
    cases freeAt Γ1 vs && decide (xs.length ≤ 50000)
    · simp
    · simp only [if_true, true_and]
      rcases compX Tg C S vs xs [] (wipeE Γ1 vs) with _ | ⟨_ | _, Γ2⟩ <;> with_unfolding_all rfl
  · with_unfolding_all rfl
theorem wCX_all {α : Type} {Tg : PV → Env → Option Env} {vs : List Nat} {K : List PV → Env → Prop} {X : Xn → Env → Prop} (e : α → PV) (g : α → PV) (bad : α → Option Xn) : ∀ {ws : List α} {acc : List PV},
    (∀ w ∈ ws, wG (Tg (e w) Γ) fun Γ1 => wE C Γ1 (fun b Γ2 => b = .bl true ∧ wE S Γ2 (fun y Γ3 => bad w = none ∧ y = g w ∧ wipeE Γ3 vs = Γ) (fun x Γ3 => bad w = some x ∧ wipeE Γ3 vs = Γ)) fun _ _ => False) →
    (∀ x, ws.findSome? bad = some x → X x Γ) → (ws.findSome? bad = none → K (acc ++ ws.map g) Γ) → wCX Tg C S vs (ws.map e) acc Γ K X
  | [], acc, _, _, k => by
    unfold wCX
    rw [List.map_nil, compX]
    have := k rfl
    rw [List.map_nil, List.append_nil] at this
    exact this
  | w :: ws, acc, st, hx, k => by
    have s1 := st w List.mem_cons_self
    have ih := fun {acc : List PV} => wCX_all (Tg := Tg) (vs := vs) (K := K) (X := X) e g bad (ws := ws) (acc := acc) fun u hu => st u (List.mem_cons_of_mem _ hu)
    unfold wCX
    rw [List.map_cons, compX]
    unfold wG at s1
    cases q1 : Tg (e w) Γ with
    | none => rw [q1] at s1; exact s1.elim
    | some Γ1 =>
      rw [q1] at s1
      dsimp only at s1 ⊢
      unfold wE at s1
      cases q2 : C Γ1 with
      | none => rw [q2] at s1; exact s1.elim
      | some o =>
        obtain ⟨o, Γ2⟩ := o
        rw [q2] at s1
        cases o with
        | ex x => exact s1.elim
        | ok b =>
          obtain ⟨rfl, s1⟩ := s1
          dsimp only
          cases q3 : S Γ2 with
          | none => rw [q3] at s1; exact s1.elim
          | some o =>
            obtain ⟨o, Γ3⟩ := o
            rw [q3] at s1
            cases o with
            | ex x =>
              obtain ⟨h1, h2⟩ := s1
              dsimp only
              rw [h2]
              exact hx x (by rw [List.findSome?_cons, h1])
            | ok y =>
              obtain ⟨h1, rfl, h2⟩ := s1
              dsimp only
              rw [h2]
              have r := ih (acc := acc ++ [g w]) (fun x q => hx x (by rw [List.findSome?_cons, h1]; exact q)) fun q => by
                have := k (by rw [List.findSome?_cons, h1]; exact q)
                rw [List.map_cons] at this
                rwa [List.append_assoc]
              unfold wCX at r
              exact r
end
theorem wF_eqX {f : FT} {xs ys : List PV} {e : Xn} (h : wF f xs (fun _ _ => False) (fun a b => a = e ∧ b = ys)) : f xs = some (.ex e, ys) := by
  unfold wF at h
  cases q : f xs with
  | none => rw [q] at h; exact h.elim
  | some o =>
    obtain ⟨o, zs⟩ := o
    rw [q] at h
    cases o with
    | ok x => exact h.elim
    | ex a => obtain ⟨rfl, rfl⟩ := h; rfl
theorem wF_ofX {f : FT} {xs ys : List PV} {e : Xn} {P : PV → List PV → Prop} {X : Xn → List PV → Prop} (h : f xs = some (.ex e, ys)) : wF f xs P X = X e ys := by
  unfold wF
  rw [h]
end FV
namespace SL
open PySem PySem.Spec PyProof.Rows L2 Evl SB FV
/-- the first library that a closure lacks -/
def lackF (t : List Lb) : Nat → List Str → Nat → Option Str
  | 0, _, _ => none
  | k + 1, f, i => match f[i]? with
    | none => none
    | some x => match (moreL t f x).find? fun y => !decide (y ∈ namesT t) with
      | some y => some y
      | none => lackF t k (f ++ moreL t f x) (i + 1)
def lack (t : List Lb) (m : Str) : Option Str := lackF t 1000 [m] 0
theorem lackF_none {t : List Lb} : ∀ (k : Nat) (f : List Str) (i : Nat), lackF t k f i = none → (∀ x ∈ f, x ∈ namesT t) → ∀ x ∈ cloF t k f i, x ∈ namesT t
  | 0, f, i, _, hf => by rw [cloF]; exact hf
  | k + 1, f, i, h, hf => by
    rw [lackF] at h
    rw [cloF]
    cases q : f[i]? with
    | none => exact hf
    | some x =>
      rw [q] at h
      dsimp only at h ⊢
      cases z : (moreL t f x).find? fun y => !decide (y ∈ namesT t) with
      | some y => rw [z] at h; cases h
      | none =>
        rw [z] at h
        refine lackF_none k _ _ h fun y hy => ?_
        rcases List.mem_append.mp hy with hy | hy
        · exact hf y hy
        · have := List.find?_eq_none.mp z y hy
          simpa using this
theorem lack_cpl {t : List Lb} {m : Str} (hm : m ∈ namesT t) (h : lack t m = none) : Cpl t m := lackF_none 1000 [m] 0 h fun x hx => by rw [List.mem_singleton.mp hx]; exact hm
theorem grownL_eq {t : List Lb} {o : Ow} {f : List Str} {l : Lb} {y : Str} (h : TOk t) (ho : o ≠ .own) (hs : o ≠ .scr) (hl : l ∈ t) (fl : f.length ≤ 1000) (hm : (moreL t f l.nm).find? (fun y => !decide (y ∈ namesT t)) = some y) : f_grown [stoV .frz t, .lst o (f.map .str), .str l.nm] = some (.ex ⟨4, "name", .str y⟩, [stoV .frz t, .lst o (f.map .str), .str l.nm]) := by
  have sz := szL.2
  have lk := h.1 l hl
  have nl := lk.2.1.2.2
  have em : moreL t f l.nm = l.nd.filter fun x => !decide (x ∈ f) := by unfold moreL; rw [ndT_of h hl]
  rw [em] at hm
  refine wF_eqX ?_
  (rw [f_grown, wF_fun]; refine ⟨rfl, ?_⟩; unfold b_grown; simp only [List.map_cons, List.map_nil, List.replicate, List.cons_append, List.nil_append, Nat.reduceSub])
  have c1 : l.nd.length ≤ 50000 := by omega
  simp! [sto_no, sto_isI, getitem_w h hl, fl_needs, List.length_map, c1]
  refine wPure (Γ := _) .str (fun x => !decide (x ∈ f)) .str (ws := l.nd) (fun u hu => ?_) ?_
  · simp! [ho]
    exact ⟨fun _ => trivial, fun _ => trivial⟩
  · rw [List.nil_append]
    have fl2 : (l.nd.filter fun x => !decide (x ∈ f)).length ≤ l.nd.length := List.length_filter_le _ _
    have wd : ∀ x ∈ l.nd.filter fun x => !decide (x ∈ f), isWord x = true := fun x hx => lk.2.1.1 x (List.mem_filter.mp hx).1
    generalize (l.nd.filter fun x => !decide (x ∈ f)) = mo at hm fl2 wd
    obtain ⟨hy, as, bs, e, hA⟩ := List.find?_eq_some_iff_append.mp hm
    simp! [noOwns_strs, noBrws_strs, fzs_strs]
    refine wForM (fun i Γ => i ≤ as.length ∧ ∃ o4, Γ = [some (stoV .frz t), some (.lst o (f.map .str)), some (.str l.nm), some (.lst .frz (mo.map .str)), o4]) ⟨Nat.zero_le _, _, rfl⟩ ?_ ?_
    · rintro i hi Γ ⟨ia, o4, rfl⟩
      have hw := wd _ (List.getElem_mem hi)
      have hl50 := (isWord_len hw).2
      by_cases q : i < as.length
      · have ei : mo[i] = as[i] := by
          simp only [e]
          rw [List.getElem_append_left q]
        have hin : mo[i] ∈ namesT t := by
          have := hA as[i] (List.getElem_mem q)
          rw [ei]
          simpa using this
        simp! [sto_no, sto_isI, contains_w h hin]
        exact ⟨by omega, _, rfl⟩
      · have ei : mo[i] = y := by
          have : i = as.length := by omega
          subst this
          simp only [e]
          rw [List.getElem_append_right (Nat.le_refl _)]
          simp
        rw [ei] at hw hl50 ⊢
        have cq := contains_eq (t := t) (s := y) (by omega)
        have dq : decide (y ∈ t.map (·.nm)) = false := by
          have : (!decide (y ∈ namesT t)) = true := hy
          simpa [namesT] using this
        rw [dq, Bool.and_false] at cq
        simp! [sto_no, sto_isI, wF_of cq, wS_Raise]
        try exact ⟨rfl, rfl⟩
    · rintro Γ ⟨ia, o4, rfl⟩
      exfalso
      have : mo.length = as.length + (bs.length + 1) := by rw [e]; simp
      omega
theorem closureL_eq {t : List Lb} {m y : Str} (h : TOk t) (hm : m ∈ namesT t) (c : lack t m = some y) : f_closure [stoV .frz t, .str m] = some (.ex ⟨4, "name", .str y⟩, [stoV .frz t, .str m]) := by
  have sz := szL.2
  obtain ⟨l, hl, rfl⟩ := List.mem_map.mp hm
  refine wF_eqX ?_
  (rw [f_closure, wF_fun]; refine ⟨rfl, ?_⟩; unfold b_closure; simp only [List.map_cons, List.map_nil, List.replicate, List.cons_append, List.nil_append, Nat.reduceSub])
  simp! [sto_no, sto_isI, getitem_w h hl, fl_name]
  refine wWh (n := 500) (I := fun n Γ => ∃ f i, n + i = 500 ∧ Cw t l.nm f i ∧ (∀ x ∈ f, x ∈ namesT t) ∧ lackF t (1000 - i) f i = some y ∧ Γ = [some (stoV .frz t), some (.str l.nm), some (.lst .own (f.map .str)), some (.int (i : Nat))]) (by omega) ⟨[l.nm], 0, rfl, .start, (fun x hx => by rw [List.mem_singleton.mp hx]; exact hm), c, rfl⟩ ?_
  rintro n Γ ⟨f, i, hn, cw, hf, lk, rfl⟩
  have fl := cw.len h
  have il := cw.le
  have ek : 1000 - i = (1000 - (i + 1)) + 1 := by omega
  rw [ek, lackF] at lk
  simp! [List.length_map]
  refine wB_dec (fun q => ?_) (fun q => ?_)
  · have hi : i < f.length := by omega
    have c2 := cw.step h hi
    obtain ⟨l', hl', e'⟩ := List.mem_map.mp (hf _ (List.getElem_mem hi))
    rw [List.getElem?_eq_getElem hi] at lk
    dsimp only at lk
    cases z : (moreL t f f[i]).find? fun y => !decide (y ∈ namesT t) with
    | none =>
      rw [z] at lk
      have z' : ∀ x ∈ moreL t f l'.nm, x ∈ namesT t := fun x hx => by
        rw [e'] at hx
        have := List.find?_eq_none.mp z x hx
        simpa using this
      have g := grown_eq (o := .brw) (f := f) h (by decide) (by decide) hl' (by omega) z'
      rw [e'] at g z'
      simp! [sto_no, sto_brw, atI_strs hi, wF_of g]
      exact ⟨n - 1, by omega, _, i + 1, by omega, c2, (fun x hx => (List.mem_append.mp hx).elim (hf x) (z' x)), lk, rfl⟩
    | some y' =>
      rw [z] at lk
      cases lk
      rw [← e'] at z
      have g := grownL_eq (o := .brw) (f := f) h (by decide) (by decide) hl' (by omega) z
      rw [e'] at g
      simp! [sto_no, sto_brw, atI_strs hi, wF_ofX g, noBrw]
  · have e : i = f.length := by omega
    subst e
    exfalso
    rw [List.getElem?_eq_none (Nat.le_refl _)] at lk
    cases lk
end SL

/-! objects of any kind that closure and definers are asked -/
namespace SL
open PySem PySem.Spec PyProof.Rows L2 Evl SB FV
inductive OX where
  | str (w : Str) | non | bl (b : Bool) | int (i : Int) | ls | dk | tp (w : Str)
def OX.pv : OX → PV
  | .str w => .str w
  | .non => .non
  | .bl b => .bl b
  | .int i => .int i
  | .ls => .lst .frz []
  | .dk => .dk .frz [] []
  | .tp w => .tup [.str w]
def OX.ok : OX → Prop
  | .str w => w.length ≤ 13 ∧ (PyData.str w).canLay0 = true
  | .tp w => isWord w = true
  | _ => True
def OX.wd : OX → Bool
  | .str w => isWord w
  | _ => false
def OX.inN (N : List Str) : OX → Bool
  | .str w => isWord w && decide (w ∈ N)
  | _ => false
theorem ox_no (x : OX) : noOwn x.pv = true := by cases x <;> rfl
theorem ox_nb (x : OX) : noBrw x.pv = true := by cases x <;> rfl
theorem ox_fz (x : OX) : FV.fz x.pv = x.pv := by cases x <;> rfl
theorem ox_brw (x : OX) : brw x.pv = x.pv := brw_no (ox_no x)
theorem oxs_no (xs : List OX) : noOwns (xs.map OX.pv) = true := noOwns_map ox_no
theorem oxs_nb (xs : List OX) : noBrws (xs.map OX.pv) = true := noBrws_map ox_nb
theorem isword_ox {x : OX} (h : x.ok) : f_is_word [x.pv] = some (.ok (.bl x.wd), [x.pv]) := by
  cases x with
  | str w =>
    have l : w.length ≤ 13 := h.1
    exact isword_eq (s := w) (by omega)
  | _ =>
    have i1 : cIsi [PV.non, .raw (.ty "str")] = some (.bl false) := rfl
    have i2 : ∀ b, cIsi [PV.bl b, .raw (.ty "str")] = some (.bl false) := fun _ => rfl
    have i3 : ∀ i, cIsi [PV.int i, .raw (.ty "str")] = some (.bl false) := fun _ => rfl
    have i4 : cIsi [PV.lst .frz [], .raw (.ty "str")] = some (.bl false) := rfl
    have i5 : cIsi [PV.dk .frz [] [], .raw (.ty "str")] = some (.bl false) := rfl
    have i6 : ∀ w, cIsi [PV.tup [.str w], .raw (.ty "str")] = some (.bl false) := fun _ => rfl
    unfold OX.pv OX.wd
    refine wF_eq ?_
    (rw [f_is_word, wF_fun]; refine ⟨rfl, ?_⟩; unfold b_is_word; simp only [List.map_cons, List.map_nil, List.replicate, List.cons_append, List.nil_append, Nat.reduceSub])
    simp! [i1, i2, i3, i4, i5, i6]
theorem contains_ox {t : List Lb} {x : OX} (h : x.ok) : f_Store___contains__ [stoV .frz t, x.pv] = some (.ok (.bl (x.inN (namesT t))), [stoV .frz t, x.pv]) := by
  have iw := isword_ox h
  cases x with
  | str w =>
    have l : w.length ≤ 13 := h.1
    exact contains_eq (t := t) (s := w) (by omega)
  | _ =>
    unfold OX.pv OX.wd at iw
    unfold OX.pv OX.inN
    refine wF_eq ?_
    (rw [f_Store___contains__, wF_fun]; refine ⟨rfl, ?_⟩; unfold b_Store___contains__; simp only [List.map_cons, List.map_nil, List.replicate, List.cons_append, List.nil_append, Nat.reduceSub])
    simp! [wF_of iw, sto_no]
theorem getitem_ox {t : List Lb} {x : OX} (h : x.ok) (n : x.inN (namesT t) = false) : f_Store___getitem__ [stoV .frz t, x.pv] = some (.ex ⟨3, "name", x.pv⟩, [stoV .frz t, x.pv]) := by
  have c := contains_ox (t := t) h
  rw [n] at c
  have nb := ox_nb x
  refine wF_eqX ?_
  (rw [f_Store___getitem__, wF_fun]; refine ⟨rfl, ?_⟩; unfold b_Store___getitem__; simp only [List.map_cons, List.map_nil, List.replicate, List.cons_append, List.nil_append, Nat.reduceSub])
  simp! [sto_no, sto_isI, wF_of c, ox_brw, ox_no, wS_Raise, nb]
theorem closure_ox {t : List Lb} {x : OX} (h : x.ok) (n : x.inN (namesT t) = false) : f_closure [stoV .frz t, x.pv] = some (.ex ⟨3, "name", x.pv⟩, [stoV .frz t, x.pv]) := by
  have g := getitem_ox h n
  refine wF_eqX ?_
  (rw [f_closure, wF_fun]; refine ⟨rfl, ?_⟩; unfold b_closure; simp only [List.map_cons, List.map_nil, List.replicate, List.cons_append, List.nil_append, Nat.reduceSub])
  simp! [sto_no, sto_isI, wF_ofX g, ox_brw, ox_no, ox_nb]
theorem checksym_ox {x : OX} (h : x.ok) (n : x.wd = false) : f_check_symbol [x.pv] = some (.ex ⟨5, "symbol", x.pv⟩, [x.pv]) := by
  have c := isword_ox h
  rw [n] at c
  have nb := ox_nb x
  refine wF_eqX ?_
  (rw [f_check_symbol, wF_fun]; refine ⟨rfl, ?_⟩; unfold b_check_symbol; simp only [List.map_cons, List.map_nil, List.replicate, List.cons_append, List.nil_append, Nat.reduceSub])
  simp! [wF_of c, ox_brw, ox_no, wS_Raise, nb]
theorem checksym_w {s : Str} (h : isWord s = true) : f_check_symbol [.str s] = some (.ok .non, [.str s]) := by
  refine wF_eq ?_
  (rw [f_check_symbol, wF_fun]; refine ⟨rfl, ?_⟩; unfold b_check_symbol; simp only [List.map_cons, List.map_nil, List.replicate, List.cons_append, List.nil_append, Nat.reduceSub])
  simp! [isword_w h]
/-! definers -/
def badX (t : List Lb) (x : OX) : Option Xn := if x.inN (namesT t) = true then none else some ⟨3, "name", x.pv⟩
def libX (t : List Lb) : OX → PV
  | .str w => libN t w
  | _ => .non
theorem inN_lib {t : List Lb} {x : OX} (h : x.inN (namesT t) = true) : ∃ l ∈ t, x = .str l.nm := by
  cases x with
  | str w =>
    have : (isWord w && decide (w ∈ namesT t)) = true := h
    rw [Bool.and_eq_true] at this
    obtain ⟨l, hl, e⟩ := List.mem_map.mp (of_decide_eq_true this.2)
    exact ⟨l, hl, by rw [← e]⟩
  | _ => cases h
/-- the libraries of a list, or the first object that is no name -/
theorem definers_bad {t : List Lb} {o : Ow} {xs : List OX} {e : Xn} {s : PV} (h : TOk t) (ho : o ≠ .own) (sn : noOwn s = true) (hx : ∀ x ∈ xs, x.ok) (hl : xs.length ≤ 50000) (hb : xs.findSome? (badX t) = some e) : f_definers [stoV .frz t, .lst o (xs.map OX.pv), s] = some (.ex e, [stoV .frz t, .lst o (xs.map OX.pv), s]) := by
  have sb := brw_no sn
  have xn := oxs_no xs
  have xb := brws_no xn
  have en : noBrw e.val = true := by
    obtain ⟨x, _, hx⟩ := List.exists_of_findSome?_eq_some hb
    unfold badX at hx
    split at hx
    · cases hx
    · cases hx; exact ox_nb x
  refine wF_eqX ?_
  (rw [f_definers, wF_fun]; refine ⟨rfl, ?_⟩; unfold b_definers; simp only [List.map_cons, List.map_nil, List.replicate, List.cons_append, List.nil_append, Nat.reduceSub])
  simp! [ho, List.length_map, hl, sto_no, sn, xn, xb, wE_CompX]
  refine wCX_all OX.pv (libX t) (badX t) (fun x hm => ?_) (fun x q => ?_) fun q => ?_
  · by_cases k : x.inN (namesT t) = true
    · obtain ⟨l, hl, rfl⟩ := inN_lib k
      have b0 : badX t (.str l.nm) = none := by unfold badX; rw [if_pos k]
      have pe : (OX.str l.nm).pv = PV.str l.nm := rfl
      rw [b0, pe]
      simp! [sto_no, sto_isI, getitem_w h hl]
      exact (libN_of h hl).symm
    · have k' : x.inN (namesT t) = false := by simpa using k
      have b0 : badX t x = some ⟨3, "name", x.pv⟩ := by unfold badX; rw [if_neg k]
      have g := getitem_ox (hx x hm) k'
      rw [b0]
      simp! [sto_no, sto_isI, ox_no, wF_ofX g]
  · rw [hb] at q
    cases q
    simp! []
  · rw [hb] at q; cases q
/-- all are names: the symbol's check, then those that define it -/
theorem names_none {t : List Lb} {sc : List Str} (h : TOk t) (hc : ∀ x ∈ sc, x ∈ namesT t) : (sc.map OX.str).findSome? (badX t) = none := by
  refine List.findSome?_eq_none_iff.mpr fun x hx => ?_
  obtain ⟨w, hw, rfl⟩ := List.mem_map.mp hx
  obtain ⟨l, hl, rfl⟩ := List.mem_map.mp (hc w hw)
  have : OX.inN (namesT t) (.str l.nm) = true := by
    show (isWord l.nm && decide (l.nm ∈ namesT t)) = true
    have hm : l.nm ∈ namesT t := List.mem_map.mpr ⟨l, hl, rfl⟩
    rw [(h.1 l hl).1, decide_eq_true hm]
    rfl
  unfold badX
  rw [if_pos this]
theorem definers_sym {t : List Lb} {o : Ow} {sc : List Str} {s : OX} (h : TOk t) (ho : o ≠ .own) (so : s.ok) (sw : s.wd = false) (hc : ∀ x ∈ sc, x ∈ namesT t) (hl : sc.length ≤ 50000) : f_definers [stoV .frz t, .lst o (sc.map .str), s.pv] = some (.ex ⟨5, "symbol", s.pv⟩, [stoV .frz t, .lst o (sc.map .str), s.pv]) := by
  have sn := ox_no s
  have sb := ox_brw s
  have snb := ox_nb s
  have ck := checksym_ox so sw
  have xn := noOwns_strs (ws := sc)
  have xb := brws_no xn
  have n1 : noOwns (sc.map (libN t)) = true := noOwns_map (libN_no t)
  have n2 : noBrws (sc.map (libN t)) = true := noBrws_map (libN_nb t)
  have n3 : fzs (sc.map (libN t)) = sc.map (libN t) := fzs_no n1 n2
  refine wF_eqX ?_
  (rw [f_definers, wF_fun]; refine ⟨rfl, ?_⟩; unfold b_definers; simp only [List.map_cons, List.map_nil, List.replicate, List.cons_append, List.nil_append, Nat.reduceSub])
  simp! [ho, List.length_map, hl, sto_no, sn, xn, xb, wE_CompX]
  refine wCX_all PV.str (libN t) (fun _ => none) (fun x hm => ?_) (fun x q => ?_) fun q => ?_
  · obtain ⟨l, hl, rfl⟩ := List.mem_map.mp (hc x hm)
    simp! [sto_no, sto_isI, getitem_w h hl, libN_of h hl]
  · obtain ⟨x, _, hx⟩ := List.exists_of_findSome?_eq_some q
    cases hx
  · rw [List.nil_append]
    simp! [n1, n2, n3, sn, sb, snb, wF_ofX ck]
theorem definers_ok {t : List Lb} {o : Ow} {sc : List Str} {s : Str} (h : TOk t) (ho : o ≠ .own) (hs : isWord s = true) (hc : ∀ x ∈ sc, x ∈ namesT t) (hl : sc.length ≤ 50000) : f_definers [stoV .frz t, .lst o (sc.map .str), .str s] = some (.ok (.lst .own ((sc.filter fun n => decide (s ∈ dfT t n)).map .str)), [stoV .frz t, .lst o (sc.map .str), .str s]) := by
  have n1 : noOwns (sc.map (libN t)) = true := noOwns_map (libN_no t)
  have n2 : noBrws (sc.map (libN t)) = true := noBrws_map (libN_nb t)
  have n3 : fzs (sc.map (libN t)) = sc.map (libN t) := fzs_no n1 n2
  have xn := noOwns_strs (ws := sc)
  have xb := brws_no xn
  refine wF_eq ?_
  (rw [f_definers, wF_fun]; refine ⟨rfl, ?_⟩; unfold b_definers; simp only [List.map_cons, List.map_nil, List.replicate, List.cons_append, List.nil_append, Nat.reduceSub])
  simp! [ho, List.length_map, hl, sto_no, xn, xb, wE_CompX]
  refine wCX_all PV.str (libN t) (fun _ => none) (fun x hm => ?_) (fun x q => ?_) fun q => ?_
  · obtain ⟨l, hl, rfl⟩ := List.mem_map.mp (hc x hm)
    simp! [sto_no, sto_isI, getitem_w h hl, libN_of h hl]
  · obtain ⟨x, _, hx⟩ := List.exists_of_findSome?_eq_some q
    cases hx
  · rw [List.nil_append]
    simp! [n1, n2, n3, wF_of (checksym_w hs), ho, List.length_map, hl]
    refine wPure (Γ := _) (libN t) (fun n => decide (s ∈ dfT t n)) .str (ws := sc) (fun u hu => ?_) ?_
    · obtain ⟨l, hl, rfl⟩ := List.mem_map.mp (hc u hu)
      rw [libN_of h hl, dfT_of h hl]
      simp! [libF_no, fl_defines, fl_name]
      exact ⟨fun _ => trivial, fun _ => trivial⟩
    · rw [List.nil_append]
      simp! [sto_no, ho, xn]
end SL

/-! the libraries that are kept; what is due -/
namespace SL
open PySem PySem.Spec PyProof.Rows L2 Evl SB FV
theorem nd_at {ws : List Str} (n : ws.Nodup) {i : Nat} (h : i < ws.length) : ws[i] ∉ ws.take i := by
  intro z
  obtain ⟨j, hj, e⟩ := List.getElem_of_mem z
  rw [List.getElem_take] at e
  rw [List.length_take] at hj
  exact List.pairwise_iff_getElem.mp n j i (by omega) h (by omega) e
def keepT (t : List Lb) (G : List Str) : List Lb := t.filter fun l => !decide (l.nm ∈ G)
section
variable {t : List Lb} {G : List Str}
theorem keep_mem {l : Lb} : l ∈ keepT t G ↔ l ∈ t ∧ l.nm ∉ G := by unfold keepT; rw [List.mem_filter]; simp
theorem keep_names : namesT (keepT t G) = (namesT t).filter fun x => !decide (x ∈ G) := by
  unfold keepT namesT
  rw [List.filter_map]
  rfl
theorem keep_nm {x : Str} : x ∈ namesT (keepT t G) ↔ x ∈ namesT t ∧ x ∉ G := by rw [keep_names, List.mem_filter]; simp
theorem keep_ok (h : TOk t) : TOk (keepT t G) := ⟨fun l hl => h.1 l (keep_mem.mp hl).1, by show (namesT (keepT t G)).Nodup; rw [keep_names]; exact List.Pairwise.filter _ h.2.1, Nat.le_trans (List.length_filter_le _ _) h.2.2⟩
/-- the closure, or the first absent name -/
def dueV (t : List Lb) (m : Str) : PV := match lack t m with
  | some y => .tup [.str "absent", .str y]
  | none => .lst .own ((clo t m).map .str)
theorem due_eq {o : Ow} {m : Str} (h : TOk t) (ho : o ≠ .own) (hc : ∀ l ∈ t, ∀ y ∈ l.nd, y ∈ namesT t) (hm : m ∈ namesT (keepT t G)) : f__law_due [spcV o t, .str m, .lst .frz (G.map .str)] = some (.ok (dueV (keepT t G) m), [spcV o t, .str m, .lst .frz (G.map .str)]) := by
  have sz := szL.2
  have tn := spc_no ho t
  have tb := brw_no tn
  have gn : noOwn (.lst .frz (G.map PV.str)) = true := by simp [noOwn, noOwns_strs]
  have gb := brw_no gn
  have k := keep_ok (G := G) h
  refine wF_eq ?_
  (rw [f__law_due, wF_fun]; refine ⟨rfl, ?_⟩; unfold b__law_due; simp only [List.map_cons, List.map_nil, List.replicate, List.cons_append, List.nil_append, Nat.reduceSub])
  have l2 : 2 ≤ 100000 := by omega
  have l1 : 1 ≤ 100000 := by omega
  refine wS_cut (M := fun Γ => Γ = [some (spcV o t), some (.str m), some (.lst .frz (G.map .str)), some (.lst .own [.str m]), none, none]) (by simp! [l1]) ?_
  rintro _ rfl
  refine wS_cut (M := fun Γ => Γ = [some (spcV o t), some (.str m), some (.lst .frz (G.map .str)), some (.lst .own [.str m]), some (.int 0), none]) (by simp! []) ?_
  rintro _ rfl
  refine wS_cut (M := fun Γ => lack (keepT t G) m = none ∧ ∃ o4 o5 : Option PV, Γ = [some (spcV o t), some (.str m), some (.lst .frz (G.map .str)), some (.lst .own ((clo (keepT t G) m).map .str)), o4, o5]) ?_ ?_
  · show wS _ _ _ _ _
    refine wWh (n := 500) (I := fun n Γ => ∃ f i o5, n + i = 500 ∧ Cw (keepT t G) m f i ∧ (∀ x ∈ f, x ∈ namesT (keepT t G)) ∧ lackF (keepT t G) (1000 - i) f i = lack (keepT t G) m ∧ Γ = [some (spcV o t), some (.str m), some (.lst .frz (G.map .str)), some (.lst .own (f.map .str)), some (.int (i : Nat)), o5]) (by omega) ⟨[m], 0, none, rfl, .start, (fun x hx => by rw [List.mem_singleton.mp hx]; exact hm), rfl, rfl⟩ ?_
    rintro n Γ ⟨f, i, o5, hn, cw, hf, lk, rfl⟩
    have fl := cw.len k
    have il := cw.le
    have ek : 1000 - i = (1000 - (i + 1)) + 1 := by omega
    rw [ek, lackF] at lk
    simp! [List.length_map]
    refine wB_dec (fun q => ?_) (fun q => ?_)
    · have hi : i < f.length := by omega
      have c2 := cw.step k hi
      obtain ⟨l, hl, e⟩ := List.mem_map.mp (hf _ (List.getElem_mem hi))
      obtain ⟨hlt, hlg⟩ := keep_mem.mp hl
      have es : oSub (spcV o t) (.str f[i]) = some (rowA l) := by rw [← e]; exact rowA_at h hlt
      have em : moreL (keepT t G) f f[i] = l.nd.filter fun x => !decide (x ∈ f) := by unfold moreL; rw [← e, ndT_of k hl]
      have nl := (h.1 l hlt).2.1
      have c1 : l.nd.length ≤ 50000 := by have := nl.2.2; omega
      rw [List.getElem?_eq_getElem hi] at lk
      dsimp only at lk
      rw [em] at lk c2
      have hG : ∀ x ∈ f, x ∉ G := fun x hx => (keep_nm.mp (hf x hx)).2
      simp! [tb, tn, gb, gn, atI_strs hi, es]
      unfold rowA
      simp! [noOwns_strs]
      refine wForM (us := l.nd) (e := PV.str) (fun j Γ => (∀ y ∈ l.nd.take j, y ∉ G) ∧ ∃ o5, Γ = [some (spcV o t), some (.str m), some (.lst .frz (G.map .str)), some (.lst .own ((f ++ (l.nd.take j).filter fun x => !decide (x ∈ f)).map .str)), some (.int (i : Nat)), o5]) ⟨fun y hy => (by cases hy), o5, by simp⟩ ?_ ?_
      · rintro j hj Γ ⟨hp, o5, rfl⟩
        have sp : l.nd = l.nd.take j ++ l.nd[j] :: l.nd.drop (j + 1) := by rw [List.getElem_cons_drop, List.take_append_drop]
        have et : l.nd.take (j + 1) = l.nd.take j ++ [l.nd[j]] := by rw [List.take_add_one, List.getElem?_eq_getElem hj]; rfl
        have nj : l.nd[j] ∉ l.nd.take j := nd_at nl.2.1 hj
        have hy := hc l hlt _ (List.getElem_mem hj)
        rw [et]
        generalize l.nd[j] = y at sp nj hy et
        by_cases g : y ∈ G
        · have yf : y ∉ f := fun z => hG y z g
          have fd : (l.nd.filter fun x => !decide (x ∈ f)).find? (fun x => !decide (x ∈ namesT (keepT t G))) = some y := by
            rw [sp, List.filter_append, List.filter_cons, if_pos (by simpa using yf)]
            refine List.find?_eq_some_iff_append.mpr ⟨?_, _, _, rfl, fun x hx => ?_⟩
            · have : y ∉ namesT (keepT t G) := fun z => (keep_nm.mp z).2 g
              simpa using this
            · have hx1 := (List.mem_filter.mp hx).1
              have hxn : x ∈ l.nd := by rw [sp]; exact List.mem_append_left _ hx1
              have : x ∈ namesT (keepT t G) := keep_nm.mpr ⟨hc l hlt x hxn, hp x hx1⟩
              simpa using this
          rw [fd] at lk
          dsimp only at lk
          simp! [tb, tn, gb, gn, g, l2]
          unfold dueV
          rw [← lk]
        · have hp2 : ∀ x ∈ l.nd.take j ++ [y], x ∉ G := fun x hx => by
            rcases List.mem_append.mp hx with hx | hx
            · exact hp x hx
            · rw [List.mem_singleton.mp hx]; exact g
          have lf : (f ++ (l.nd.take j).filter fun x => !decide (x ∈ f)).length + 1 ≤ sizeLine := by
            have a1 := List.length_filter_le (fun x => !decide (x ∈ f)) (l.nd.take j)
            have a2 := List.length_take_le j l.nd
            rw [List.length_append]
            omega
          have lf2 : (f ++ (l.nd.take j).filter fun x => !decide (x ∈ f)).length < sizeLine := by omega
          by_cases yf : y ∈ f
          · have hin : y ∈ f ++ (l.nd.take j).filter fun x => !decide (x ∈ f) := List.mem_append_left _ yf
            have e0 : (l.nd.take j ++ [y]).filter (fun x => !decide (x ∈ f)) = (l.nd.take j).filter fun x => !decide (x ∈ f) := by rw [List.filter_append]; simp [yf]
            rw [e0]
            simp! [tb, tn, gb, gn, g, hin]
            exact ⟨hp2, _, rfl⟩
          · have hin : y ∉ f ++ (l.nd.take j).filter fun x => !decide (x ∈ f) := fun z => by
              rcases List.mem_append.mp z with z | z
              · exact yf z
              · exact nj (List.mem_filter.mp z).1
            have e0 : (l.nd.take j ++ [y]).filter (fun x => !decide (x ∈ f)) = ((l.nd.take j).filter fun x => !decide (x ∈ f)) ++ [y] := by rw [List.filter_append]; simp [yf]
            rw [e0, ← List.append_assoc]
            generalize (f ++ (l.nd.take j).filter fun x => !decide (x ∈ f)) = fr at hin lf lf2
            simp! [tb, tn, gb, gn, g, hin, List.length_map, lf, lf2, List.map_append]
            exact ⟨hp2, _, rfl⟩
      · rintro Γ ⟨hp, o5, rfl⟩
        rw [List.take_length] at hp ⊢
        have fd : (l.nd.filter fun x => !decide (x ∈ f)).find? (fun x => !decide (x ∈ namesT (keepT t G))) = none := by
          refine List.find?_eq_none.mpr fun x hx => ?_
          have hx1 := (List.mem_filter.mp hx).1
          have : x ∈ namesT (keepT t G) := keep_nm.mpr ⟨hc l hlt x hx1, hp x hx1⟩
          simpa using this
        rw [fd] at lk
        dsimp only at lk
        simp! []
        exact ⟨n - 1, by omega, _, i + 1, o5, by omega, c2, fun x hx => (List.mem_append.mp hx).elim (hf x) fun z => keep_nm.mpr ⟨hc l hlt x (List.mem_filter.mp z).1, hp x (List.mem_filter.mp z).1⟩, lk, by simp⟩
    · have e : i = f.length := by omega
      subst e
      rw [List.getElem?_eq_none (Nat.le_refl _)] at lk
      rw [cw.done k]
      exact ⟨lk.symm, _, _, rfl⟩
  rintro _ ⟨hl, o4, o5, rfl⟩
  simp! [tn, gn]
  unfold dueV
  rw [hl]
end
end SL

namespace SL
open PySem PySem.Spec PyProof.Rows L2 Evl SB FV
/-! forty libraries in a row -/
def lettD (i : Nat) : Str := ⟨#[97 + i]⟩
def wordD (k : Nat) : Str := (("x" : Str) ++ lettD (k / 10)) ++ lettD (k % 10)
def wordsD : List Str := (List.range 40).map wordD
theorem wordsD_ok : (∀ u ∈ wordsD, isWord u = true) ∧ wordsD.Nodup := by decide +kernel
theorem wordsD_sort : sortS wordsD = wordsD := by decide +kernel
theorem addW {s t : Str} (h : s.length + t.length ≤ 1000) : oAdd (.str s) (.str t) = some (.str (s ++ t)) := by
  have := szL.2
  rw [oAdd_str, if_pos (by omega)]
theorem lettD_sub {k : Nat} (l : k < 10) : oSub (.str "abcdefghij") (.int (k : Nat)) = some (.str (lettD k)) := by
  have e1 : ("abcdefghij" : Str).length ≤ sizeLine := by decide +kernel
  have e2 : ("abcdefghij" : Str).cps.toList = (List.range 10).map (97 + ·) := by decide +kernel
  rw [oSub_str e1, e2]
  have : atI ((List.range 10).map (97 + ·)) (k : Nat) = some (97 + k) := by
    unfold atI ixN
    rw [if_pos (by omega), if_pos (by simp; omega), Option.bind_some, List.getElem?_map, List.getElem?_range (by omega)]
    rfl
  rw [this]
  rfl
/-- what is drawn -/
structure Sp5 (t : List Lb) : Prop where
  ok : TOk t
  so : sortS (namesT t) = namesT t
  nd : ∀ l ∈ t, ∀ y ∈ l.nd, y ∈ namesT t
  lo : 2 ≤ (namesT t).length
  nn : ("nolib" : Str) ∉ namesT t
theorem SpA.sp5 {t : List Lb} {k : Nat} (s : SpA t k) : Sp5 t := by
  refine ⟨s.ok.1, s.sort, fun l hl y hy => ?_, ?_, fun z => ?_⟩
  · rw [s.nm]
    rcases (s.nd l hl).1 with q | q
    · exact q.subset hy
    · exact q.subset (List.mem_reverse.mpr hy)
  · rw [s.nm, List.length_take]
    have : wordsA.length = 10 := rfl
    have := s.lo
    omega
  · rw [s.nm] at z
    exact absurd (List.mem_of_mem_take z) (by decide +kernel)
/-- as it is made: lists of its own -/
def rowE (l : Lb) : PV := .tup [.lst .frz (l.nd.map .str), .lst .own (l.df.map .str), .lst .own (l.us.map .str), .lst .own (l.wk.map .str), .bl l.eg, .bl l.ow]
def spcE (t : List Lb) : PV := .dk .own (keysT t) (t.map rowE)
theorem spcE_nb (t : List Lb) : noBrw (spcE t) = true := by
  unfold spcE
  have : noBrws (t.map rowE) = true := noBrws_map fun l => by unfold rowE; simp [noBrw, noBrws, noBrws_strs]
  simp [noBrw, this]
theorem spcE_no (t : List Lb) : noOwn (spcE t) = false := by unfold spcE; simp [noOwn]
theorem spcE_fz (t : List Lb) : FV.fz (spcE t) = spcV .frz t := by
  have : fzs (t.map rowE) = t.map rowA := by
    induction t with
    | nil => rfl
    | cons l t ih => rw [List.map_cons, fzs, ih]; unfold rowE rowA; simp [FV.fz, fzs, flF, fzs_strs]
  unfold spcE spcV
  simp only [FV.fz, flF, this]
theorem spcE_put {t : List Lb} {l : Lb} (h : l.nm ∉ namesT t) (k : t.length < sizeLine) : fPut (spcE t) (.str l.nm) (rowE l) = some (spcE (t ++ [l])) := by
  have := put_new (val := rowE) (y := rowE l) h k
  unfold spcE keysT
  rw [this]
  simp
theorem wp_oneS {n : Nat} {x : PV} {o : Ow} {ws : List Str} {P : PV → List PV → Prop} {X : Xn → List PV → Prop} (w : wellP n x) (hn : n ≤ 1000000000) (ho : o ≠ .own) (h1 : 1 ≤ ws.length) (h2 : ws.length < 1000000) (k : ∀ m ∈ ws, ∀ x', wellP (n + 1) x' → P (.str m) [x', .lst o (ws.map .str)]) : wF f__law_one [x, .lst o (ws.map .str)] P X := by
  refine wp_one w hn ho noOwns_strs (by rw [List.length_map]; exact h1) (by rw [List.length_map]; exact h2) fun i hi x' w' => ?_
  rw [List.getElem_map]
  exact k _ (List.getElem_mem _) x' w'
theorem oRep_eq {xs : List PV} {k : Int} (c : Ow.own ≠ Ow.scr ∧ noOwns xs = true ∧ -(2 ^ 63) ≤ k ∧ k < 2 ^ 63 ∧ xs.length * k.toNat ≤ sizeLine) : oRep (.lst .own xs) (.int k) = some (.lst .own (List.replicate k.toNat xs).flatten) := by
  simp only [oRep]
  rw [if_pos c]
theorem wp_row {n : Nat} {x : PV} {P : PV → List PV → Prop} {X : Xn → List PV → Prop} (w : wellP n x) (hn : n + 5000 ≤ 1000000000)
    (K : ∀ t x', Sp5 t → wellP (n + 5000) x' → P (spcE t) [x']) : wF f__law_row [x] P X := by
  have sz := szL.2
  (rw [f__law_row, wF_fun]; refine ⟨rfl, ?_⟩; unfold b__law_row; simp only [List.map_cons, List.map_nil, List.replicate, List.cons_append, List.nil_append, Nat.reduceSub])
  refine wS_cut (M := fun Γ => Γ = [some x, some (.lst .frz (wordsD.map .str)), none, none, none, none, none, none]) ?_ ?_
  · have rl : (rngP 0 40).length ≤ 50000 := by simp [rngP]
    have e2 : (40 : Int).toNat = 40 := rfl
    simp! [r1_ok (j := 40) (by omega) (by omega), e2, rl]
    unfold rngP
    refine wPure (Γ := _) (fun i : Nat => PV.int (0 + (i : Nat))) (fun _ => true) (fun i => .str (wordD i)) (ws := List.range 40) (fun i hi => ?_) ?_
    · have hi := List.mem_range.mp hi
      have e3 : (0 + (i : Int)).fdiv 10 = ((i / 10 : Nat) : Int) := by rw [Int.fdiv_eq_ediv_of_nonneg _ (by omega)]; omega
      have e4 : (0 + (i : Int)).fmod 10 = ((i % 10 : Nat) : Int) := by rw [Int.fmod_eq_emod_of_nonneg _ (by omega)]; omega
      have c5 : CDivN (0 + (i : Int)) 10 := ⟨by omega, by decide⟩
      have a1 : oAdd (.str "x") (.str (lettD (i / 10))) = some (.str (("x" : Str) ++ lettD (i / 10))) := addW (by show 1 + 1 ≤ 1000; omega)
      have a2 : oAdd (.str (("x" : Str) ++ lettD (i / 10))) (.str (lettD (i % 10))) = some (.str (wordD i)) := addW (by rw [str_len_app]; show 1 + 1 + 1 ≤ 1000; omega)
      simp! [c5, e3, e4, lettD_sub (k := i / 10) (by omega), lettD_sub (k := i % 10) (by omega), a1, a2]
      exact ⟨fun _ => trivial, fun _ => trivial⟩
    rw [List.nil_append]
    have ef : (List.range 40).filter (fun _ => true) = List.range 40 := List.filter_eq_self.mpr fun _ _ => rfl
    have em : ((List.range 40).map fun i => PV.str (wordD i)) = wordsD.map .str := by unfold wordsD; rw [List.map_map]; rfl
    rw [ef, em]
    simp! [noOwns_strs, noBrws_strs, fzs_strs]
  rintro _ rfl
  have wl : wordsD.length = 40 := by unfold wordsD; rw [List.length_map, List.length_range]
  have tk := wordsD_ok.1
  have tn := wordsD_ok.2
  have ts := wordsD_sort
  have tq : ("nolib" : Str) ∉ wordsD := by decide +kernel
  generalize wordsD = W at wl tk tn ts tq
  refine wS_cut (M := fun Γ => Γ = [some x, some (.lst .frz (W.map .str)), none, some (spcE []), none, none, none, none]) (by simp! []; rfl) ?_
  rintro _ rfl
  refine wS_cut (M := fun Γ => ∃ t x o2 o4 o5 o6 o7, Sp5 t ∧ wellP (n + 5000) x ∧ Γ = [some x, some (.lst .frz (W.map .str)), o2, some (spcE t), o4, o5, o6, o7]) ?_ ?_
  · simp! [enOf, noOwns_strs]
    refine wForI (fun i Γ => ∃ (t : List Lb), ∃ x o2 o4 o5 o6 o7, namesT t = W.take i ∧ (∀ l ∈ t, LOk l ∧ ∀ y ∈ l.nd, y ∈ W) ∧ wellP (n + 20 * i) x ∧ Γ = [some x, some (.lst .frz (W.map .str)), o2, some (spcE t), o4, o5, o6, o7]) ⟨[], x, none, none, none, none, none, rfl, (fun _ z => nomatch z), w, rfl⟩ ?_ ?_
    · rintro i hi Γ ⟨t, x, o2, o4, o5, o6, o7, nm, facts, w, rfl⟩
      have hi' : i < W.length := by rw [en_len, List.length_map] at hi; exact hi
      rw [en_at hi, List.getElem_map]
      simp only [gTp, gCs, gNs, gN, wG_some, Option.bind_some, List.length_cons, List.length_nil, Nat.reduceAdd, if_true, List.set_cons_zero, List.set_cons_succ]
      have kl : (i + 1) % 40 < W.length := by omega
      have em : ((i : Int) + 1).fmod 40 = (((i + 1) % 40 : Nat) : Int) := by rw [Int.fmod_eq_emod_of_nonneg _ (by omega)]; omega
      have ne : W[(i + 1) % 40] ≠ W[i] := fun e => by
        have := (List.getElem_inj tn).mp e
        omega
      have l1 : 1 ≤ 100000 := by omega
      have l6 : 6 ≤ 100000 := by omega
      refine wS_cut (M := fun Γ => Γ = [some x, some (.lst .frz (W.map .str)), some (.int (i : Nat)), some (spcE t), some (.str W[i]), some (.lst .frz (([W[(i + 1) % 40]]).map .str)), o6, o7]) (by simp! [em, atI_strs kl, l1]; try rfl) ?_
      rintro _ rfl
      have hin : W[(i + 1) % 40] ∈ W := List.getElem_mem kl
      generalize W[(i + 1) % 40] = nx at ne hin
      refine wS_cut (M := fun Γ => ∃ (nd : List Str) (x : PV) (o6 o7 : Option PV), (∀ y ∈ nd, y ∈ W) ∧ nd.Nodup ∧ nd.length ≤ 4 ∧ W[i] ∉ nd ∧ wellP (n + 20 * i + 10) x ∧ Γ = [some x, some (.lst .frz (W.map .str)), some (.int (i : Nat)), some (spcE t), some (.str W[i]), some (.lst .frz (nd.map .str)), o6, o7]) ?_ ?_
      · simp! []
        refine wp_drawA w (by omega) (by omega) (by omega) fun d x' d0 d1 w' => ?_
        obtain ⟨m, rfl⟩ := Int.eq_ofNat_of_zero_le d0
        have e2 : ((m : Nat) : Int).toNat = m := rfl
        simp! [r1_ok (j := ((m : Nat) : Int)) (by omega) (by omega), e2]
        refine wForR (fun j Γ => ∃ (nd : List Str) (x : PV) (o6 o7 : Option PV), (∀ y ∈ nd, y ∈ W) ∧ nd.Nodup ∧ nd.length ≤ j + 1 ∧ W[i] ∉ nd ∧ wellP (n + 20 * i + 1 + j) x ∧ Γ = [some x, some (.lst .frz (W.map .str)), some (.int (i : Nat)), some (spcE t), some (.str W[i]), some (.lst .frz (nd.map .str)), o6, o7]) ⟨[nx], x', o6, o7, (fun y hy => by rw [List.mem_singleton.mp hy]; exact hin), by simp, by simp, (fun z => ne (List.mem_singleton.mp z).symm), w'.le (by omega), rfl⟩ ?_ ?_
        · rintro j hj Γ ⟨nd, x, o6, o7, h1, h2, h3, h4, w, rfl⟩
          simp only [gN, wG_some, List.set_cons_zero, List.set_cons_succ]
          simp! []
          refine wp_oneS w (by omega) (by decide) (by omega) (by omega) fun z hz x' w' => ?_
          simp! []
          by_cases q1 : z = W[i]
          · simp! [q1]
            exact ⟨nd, x', _, _, h1, h2, by omega, h4, w'.le (by omega), rfl⟩
          · by_cases q2 : z ∈ nd
            · simp! [q1, q2]
              exact ⟨nd, x', _, _, h1, h2, by omega, h4, w'.le (by omega), rfl⟩
            · have c1 : 1 + nd.length ≤ sizeLine := by omega
              simp! [q1, q2, l1, List.length_map, c1, noOwns_strs, noBrws_strs, fzs_strs]
              exact ⟨z :: nd, x', _, _, (fun y hy => (List.mem_cons.mp hy).elim (fun e => e ▸ hz) (h1 y)), List.nodup_cons.mpr ⟨q2, h2⟩, by simp; omega, (fun y => (List.mem_cons.mp y).elim (fun e => q1 e.symm) h4), w'.le (by omega), rfl⟩
        · rintro Γ ⟨nd, x, o6, o7, h1, h2, h3, h4, w, rfl⟩
          exact ⟨nd, x, o6, o7, h1, h2, by omega, h4, w.le (by omega), rfl⟩
      rintro _ ⟨nd, x3, o6, o7, h1, h2, h3, h4, w, rfl⟩
      simp! []
      refine wp_drawA w (by omega) (by omega) (by omega) fun d x' d0 d1 w' => ?_
      obtain ⟨df, er, dw⟩ : ∃ df : List Str, oRep (.lst .own [.str "put"]) (.int d) = some (.lst .own (df.map .str)) ∧ WL 20 df := by
        have pw : isWord "put" = true := by decide +kernel
        rcases (show d = 0 ∨ d = 1 by omega) with rfl | rfl
        · refine ⟨[], ?_, (fun _ z => nomatch z), List.nodup_nil, Nat.zero_le _⟩
          have c : Ow.own ≠ Ow.scr ∧ noOwns [PV.str "put"] = true ∧ -(2 ^ 63) ≤ (0 : Int) ∧ (0 : Int) < 2 ^ 63 ∧ [PV.str "put"].length * (0 : Int).toNat ≤ sizeLine := ⟨by decide, rfl, by omega, by omega, by show 1 * 0 ≤ _; omega⟩
          exact oRep_eq c
        · refine ⟨["put"], ?_, (fun z hz => by rw [List.mem_singleton.mp hz]; exact pw), by simp, by simp⟩
          have c : Ow.own ≠ Ow.scr ∧ noOwns [PV.str "put"] = true ∧ -(2 ^ 63) ≤ (1 : Int) ∧ (1 : Int) < 2 ^ 63 ∧ [PV.str "put"].length * (1 : Int).toNat ≤ sizeLine := ⟨by decide, rfl, by omega, by omega, by show 1 * 1 ≤ _; omega⟩
          exact oRep_eq c
      have new : W[i] ∉ namesT t := by
        rw [nm]
        intro z
        obtain ⟨j, hj, e2⟩ := List.getElem_of_mem z
        rw [List.getElem_take] at e2
        rw [List.length_take] at hj
        have := (List.getElem_inj tn).mp e2
        omega
      have tlen : t.length ≤ 40 := by
        have := congrArg List.length nm
        unfold namesT at this
        rw [List.length_map, List.length_take] at this
        omega
      have pp := spcE_put (l := ⟨W[i], nd, df, [], [], false, false⟩) new (by omega)
      unfold rowE at pp
      simp only [List.map_nil] at pp
      have l0 : 0 ≤ 100000 := by omega
      have z10 : ¬ (1 : Int) = 0 := by omega
      simp! [er, l0, l6, pp, z10]
      refine ⟨t ++ [⟨W[i], nd, df, [], [], false, false⟩], x', _, _, _, _, _, ?_, ?_, w'.le (by omega), rfl⟩
      · unfold namesT at nm ⊢
        rw [List.map_append, nm, List.take_add_one, List.getElem?_eq_getElem hi']
        rfl
      · intro l hl
        rcases List.mem_append.mp hl with z | z
        · exact facts l z
        · rw [List.mem_singleton.mp z]
          have wn : WL 20 ([] : List Str) := ⟨(fun _ z => nomatch z), List.nodup_nil, Nat.zero_le _⟩
          exact ⟨⟨tk _ (List.getElem_mem hi'), ⟨fun y hy => tk y (h1 y hy), h2, by show nd.length ≤ 12; omega⟩, h4, dw, wn, wn, fun _ z => nomatch z⟩, h1⟩
    · rintro Γ ⟨t, x, o2, o4, o5, o6, o7, nm, facts, w, rfl⟩
      rw [en_len, List.length_map, List.take_length] at nm
      refine ⟨t, x, o2, o4, o5, o6, o7, ⟨⟨fun l hl => (facts l hl).1, by show (namesT t).Nodup; rw [nm]; exact tn, ?_⟩, by rw [nm]; exact ts, fun l hl y hy => by rw [nm]; exact (facts l hl).2 y hy, by rw [nm]; omega, by rw [nm]; exact tq⟩, w.le ?_, rfl⟩
      · have := congrArg List.length nm
        unfold namesT at this
        rw [List.length_map] at this
        omega
      · rw [en_len, List.length_map]; omega
  rintro _ ⟨t, x2, o2, o4, o5, o6, o7, sp, w2, rfl⟩
  simp! []
  exact K t x2 sp w2
end SL

/-! lambdas in wishes; what is compared -/
namespace FV
open PySem PySem.Spec PyProof.Rows L2 Evl SB
theorem wE_Lam {m : List (Nat × Nat × Bool)} {r : List ClF} {N : Nat} {S : ES} {Γ : Env} {P : PV → Env → Prop} {X : Xn → Env → Prop} : wE (eLam m r N S) Γ P X = wE S Γ P (fun e Γ1 => wO (hndlV m r N e) fun x => P x Γ1) := by
  unfold wE eLam wO
  rcases S Γ with _ | ⟨x | e, Γ1⟩
  · with_unfolding_all rfl
  · with_unfolding_all rfl
  · dsimp only
    cases hndlV m r N e <;> with_unfolding_all rfl
theorem wE_ClearV {S : ES} {Γ : Env} {P : PV → Env → Prop} {X : Xn → Env → Prop} (h : wE S Γ (fun x Γ1 => (∃ xs, x = .lst .own xs) ∧ P .non Γ1) (fun _ _ => False)) : wE (eClearV S) Γ P X := by
  revert h
  unfold wE eClearV
  rcases S Γ with _ | ⟨x | _, Γ1⟩
  · exact False.elim
  · rintro ⟨⟨xs, rfl⟩, h⟩
    exact h
  · exact False.elim
theorem spc_vv {n : Nat} {Γ : Env} {x : PV} (h : Γ[n]? = some (some x)) : vVar n Γ = some x := by
  unfold vVar
  rw [h]
end FV
namespace SL
open PySem PySem.Spec PyProof.Rows L2 Evl SB FV
theorem oEq2_same {neg : Bool} {x y : PV} {d : PyData} (hx : toV x = none) (e : toD x = some d) (e' : toD y = some d) (s : SeqAt.shaped d = true) (q : PyData.eqv d d = true) : oEq2 neg x y = some (.bl (!neg)) := by
  unfold oEq2 oEq oOr oEqS
  rw [hx]
  unfold oEqD
  simp only [e, e', s, q, Bool.and_self, if_true]
  cases neg <;> rfl
theorem eqv_strsA (ws : List Str) : PyData.eqvAll (ws.map .str) (ws.map .str) = true := by
  induction ws with
  | nil => simp [PyData.eqvAll]
  | cons w ws ih => simp [PyData.eqvAll, PyData.eqv, ih]
theorem oEq2_strs {o o' : Ow} {ws : List Str} (h : ∀ w ∈ ws, isWord w = true) : oEq2 true (.lst o (ws.map .str)) (.lst o' (ws.map .str)) = some (.bl false) := by
  refine oEq2_same (d := .list (ws.map .str)) rfl ?_ ?_ ?_ ?_
  · simp only [toD, toDs_strs]
  · simp only [toD, toDs_strs]
  · unfold SeqAt.shaped
    rw [PyData.canLay0, PyData.depth, lay_strs h, depth_strs]
    rfl
  · simp [PyData.eqv, eqv_strsA]
theorem sortS_filter (xs : List Str) (f : Str → Bool) : sortS (xs.filter f) = (sortS xs).filter f := (sortS_eq ((sortS_perm xs).filter f) (pw_sorted ((sortS_pw xs).sublist List.filter_sublist))).symm
theorem neQ_same {k : Str} {x : PV} {d : PyData} (hk : isWord k = true) (e : toD x = some d) (s : d.canLay0 = true) (dp : d.depth ≤ 10) : oNeQ (.tup [.str k, x]) (.tup [.str k, x]) = some (.bl false) := by
  have sh : SeqAt.shaped (.tuple [.str k, d]) = true := by
    have kk := lay_strs (ws := [k]) (by simpa using hk)
    unfold SeqAt.shaped
    simp only [List.map_cons, List.map_nil, PyData.canLayAll0, Bool.and_true] at kk
    simp only [PyData.canLay0, PyData.canLayAll0, PyData.depth, PyData.depthAll] at kk ⊢
    rw [kk, s]
    simp
    omega
  have := oEq2_same (neg := true) (x := .tup [.str k, x]) (y := .tup [.str k, x]) (d := .tuple [.str k, d]) rfl (by simp only [toD, toDs, e]) (by simp only [toD, toDs, e]) sh (eqv_same sh)
  unfold oNeQ oOr
  rw [this]
  rfl
theorem neQ_dk {k : Str} : oNeQ (.tup [.str k, .dk .frz [] []]) (.tup [.str k, .dk .frz [] []]) = some (.bl false) := by
  have : oEq2 true (.tup [.str k, .dk .frz [] []]) (.tup [.str k, .dk .frz [] []]) = none := rfl
  unfold oNeQ oOr
  rw [this]
  simp [oNeT]
theorem lay_word {w : Str} (h : isWord w = true) : (PyData.str w).canLay0 = true := by
  have kk := lay_strs (ws := [w]) (by simpa using h)
  simpa only [List.map_cons, List.map_nil, PyData.canLayAll0, Bool.and_true] using kk
theorem lackF_word {t : List Lb} (h : TOk t) : ∀ (k : Nat) (f : List Str) (i : Nat) (y : Str), lackF t k f i = some y → isWord y = true
  | 0, f, i, y, e => by rw [lackF] at e; cases e
  | k + 1, f, i, y, e => by
    rw [lackF] at e
    cases q : f[i]? with
    | none => rw [q] at e; cases e
    | some x =>
      rw [q] at e
      dsimp only at e
      cases z : (moreL t f x).find? fun y => !decide (y ∈ namesT t) with
      | none => rw [z] at e; exact lackF_word h k _ _ y e
      | some y' =>
        rw [z] at e
        cases e
        obtain ⟨h1, _⟩ := more_sub (List.mem_of_find?_eq_some z)
        obtain ⟨nd, hn, hy⟩ := List.mem_flatten.mp h1
        obtain ⟨l, hl, rfl⟩ := List.mem_map.mp hn
        exact (h.1 l hl).2.1.1 y hy
theorem neQ_ox {k : Str} {x : OX} (hk : isWord k = true) (h : x.ok) : oNeQ (.tup [.str k, x.pv]) (.tup [.str k, x.pv]) = some (.bl false) := by
  cases x with
  | str w => exact neQ_same hk rfl h.2 (by simp [PyData.depth])
  | non => exact neQ_same hk rfl rfl (by simp [PyData.depth])
  | bl b => exact neQ_same hk rfl rfl (by simp [PyData.depth])
  | int i => exact neQ_same hk rfl rfl (by simp [PyData.depth])
  | ls => exact neQ_same (d := .list []) hk rfl rfl (by simp [PyData.depth, PyData.depthAll])
  | dk => exact neQ_dk
  | tp w => exact neQ_same (d := .tuple [.str w]) hk rfl (by
      have := lay_word (w := w) h
      simp only [PyData.canLay0, PyData.canLayAll0] at this ⊢
      simpa using this) (by simp [PyData.depth, PyData.depthAll])
theorem spcO_brw (t : List Lb) : brw (spcV .own t) = spcV .brw t := by
  have := brws_no (rowsA_no t)
  unfold spcV
  simp only [brw, flB, this]
/-! the clauses of _law_said -/
abbrev saidM : List (Nat × Nat × Bool) := [(3, 4, false), (3, 3, true), (5, 4, false), (5, 3, false), (5, 5, true), (4, 4, true)]
abbrev saidC : List ClF := [.pr 4 1 "name" "absent", .pr 3 1 "name" "name", .pr 5 1 "symbol" "symbol", .br 0 (sRet (eCB oTup (aCons (eC (.str "other")) (aCons (eC .non) aNil))))]
theorem said4 (v : PV) : hndlV saidM saidC 2 ⟨4, "name", v⟩ = some (.tup [.str "absent", v]) := rfl
theorem said3 (v : PV) : hndlV saidM saidC 2 ⟨3, "name", v⟩ = some (.tup [.str "name", v]) := rfl
theorem said5 (v : PV) : hndlV saidM saidC 2 ⟨5, "symbol", v⟩ = some (.tup [.str "symbol", v]) := rfl
end SL

/-! the law of k05 -/
namespace SL
open PySem PySem.Spec PyProof.Rows L2 Evl SB FV
def toldV : Option (Option Str) → Option PV
  | none => none
  | some none => some (.lst .own [])
  | some (some y) => some (.tup [.str "absent", .str y])
theorem free5 (o : Option Str) : (match some (o.map PV.str) with | some (some x) => noOwn x | x => true) = true := by cases o <;> rfl
def oddL : List OX := [.non, .str "nolib", .int 7, .ls, .dk, .tp "app", .bl true, .str ""]
def signL : List OX := [.non, .str "", .str "A", .int 7, .ls, .dk, .tp "put", .bl false, .str "abcdefghijklm"]
theorem odd_ok : ∀ x ∈ oddL, x.ok := by
  intro x hx
  simp only [oddL, List.mem_cons, List.not_mem_nil, or_false] at hx
  rcases hx with rfl | rfl | rfl | rfl | rfl | rfl | rfl | rfl
  · exact trivial
  · exact ⟨by decide +kernel, by decide +kernel⟩
  · exact trivial
  · exact trivial
  · exact trivial
  · exact (by decide +kernel : isWord "app" = true)
  · exact trivial
  · exact ⟨by decide +kernel, by decide +kernel⟩
theorem sign_ok : ∀ x ∈ signL, x.ok ∧ x.wd = false := by
  intro x hx
  simp only [signL, List.mem_cons, List.not_mem_nil, or_false] at hx
  rcases hx with rfl | rfl | rfl | rfl | rfl | rfl | rfl | rfl | rfl
  · exact ⟨trivial, rfl⟩
  · exact ⟨⟨by decide +kernel, by decide +kernel⟩, by decide +kernel⟩
  · exact ⟨⟨by decide +kernel, by decide +kernel⟩, by decide +kernel⟩
  · exact ⟨trivial, rfl⟩
  · exact ⟨trivial, rfl⟩
  · exact ⟨trivial, rfl⟩
  · exact ⟨(by decide +kernel : isWord "put" = true), rfl⟩
  · exact ⟨trivial, rfl⟩
  · exact ⟨⟨by decide +kernel, by decide +kernel⟩, by decide +kernel⟩
theorem odd_not {N : List Str} (h : ("nolib" : Str) ∉ N) : ∀ x ∈ oddL, x.inN N = false := by
  intro x hx
  simp only [oddL, List.mem_cons, List.not_mem_nil, or_false] at hx
  rcases hx with rfl | rfl | rfl | rfl | rfl | rfl | rfl | rfl
  · rfl
  · show (isWord "nolib" && decide (("nolib" : Str) ∈ N)) = false
    rw [decide_eq_false h, Bool.and_false]
  · rfl
  · rfl
  · rfl
  · rfl
  · rfl
  · show (isWord "" && decide (("" : Str) ∈ N)) = false
    rw [show isWord "" = false by decide +kernel, Bool.false_and]
theorem wp_oneX {n : Nat} {x : PV} {vs : List OX} {P : PV → List PV → Prop} {X : Xn → List PV → Prop} (w : wellP n x) (hn : n ≤ 1000000000) (h1 : 1 ≤ vs.length) (h2 : vs.length < 1000000) (k : ∀ v ∈ vs, ∀ x', wellP (n + 1) x' → P v.pv [x', .lst .frz (vs.map OX.pv)]) : wF f__law_one [x, .lst .frz (vs.map OX.pv)] P X := by
  refine wp_one w hn (by decide) (oxs_no vs) (by rw [List.length_map]; exact h1) (by rw [List.length_map]; exact h2) fun i hi x' w' => ?_
  have hi' : i < vs.length := by rwa [List.length_map] at hi
  rw [List.getElem_map]
  exact k _ (List.getElem_mem hi') x' w'
theorem well_nb {n : Nat} {x : PV} (w : wellP n x) : noBrw x = true := by
  obtain ⟨a, b, c, rfl, _⟩ := w
  rfl
theorem spcB_no (t : List Lb) : noOwn (spcV .brw t) = true := spc_no (by decide) t
theorem spc_keysW {o : Ow} (ho : o ≠ .own) (t : List Lb) : itemsK .keys (spcV o t) = some ((namesT t).map .str) := by
  unfold spcV keysT namesT
  cases o <;> first | exact absurd rfl ho | (simp [itemsK, pvK])
theorem isi_tl {xs : List PV} : cIsi [.tup xs, .raw (.ty "list")] = some (.bl false) := rfl
theorem oEq2_ab {y : Str} (hy : isWord y = true) : oEq2 true (.tup [.str "absent", .str y]) (.tup [.str "absent", .str y]) = some (.bl false) := by
  have ww : ∀ w ∈ [("absent" : Str), y], isWord w = true := fun w hw => by
    rcases List.mem_cons.mp hw with rfl | hw
    · decide +kernel
    · rw [List.mem_singleton.mp hw]; exact hy
  refine oEq2_same (d := .tuple (([("absent" : Str), y]).map .str)) rfl ?_ ?_ ?_ ?_
  · rfl
  · rfl
  · unfold SeqAt.shaped
    rw [PyData.canLay0, PyData.depth, lay_strs ww, depth_strs]
    rfl
  · have := eqv_strsA [("absent" : Str), y]
    simp only [PyData.eqv, this]
theorem law_eq (xs : List Int) (hx : xs.length ≤ 63) : ∃ ys, f_law [.lst .scr (xs.map .int)] = some (.ok (.bl true), ys) := by
  have sz := szL.2
  have l0 : 0 ≤ 100000 := by omega
  have l1 : 1 ≤ 100000 := by omega
  have l2 : 2 ≤ 100000 := by omega
  have l8 : 8 ≤ 100000 := by omega
  have l9 : 9 ≤ 100000 := by omega
  have ib : brws (xs.map PV.int) = xs.map PV.int := brws_no (ints_no _)
  have fcl : ∀ zs : List PV, fClear (.lst .own zs) [] = some (.lst .own [], .non) := fun _ => rfl
  have key : wF f_law [.lst .scr (xs.map .int)] (fun x _ => x = .bl true) (fun _ _ => False) := by
    (rw [f_law, wF_fun]; refine ⟨rfl, ?_⟩; unfold b_law; simp only [List.map_cons, List.map_nil, List.replicate, List.cons_append, List.nil_append, Nat.reduceSub])
    refine wS_cut (M := fun Γ => ∃ (o1 o2 o3 o4 o6 o7 o10 o12 o13 o14 o15 o16 : Option PV) (o5 : Option Str) (o8 : Option Int) (o9 : Option (Option Str)), Γ = [some (.lst .scr (xs.map .int)), o1, o2, o3, o4, (o5.map PV.str), o6, o7, (o8.map PV.int), toldV o9, o10, none, o12, o13, o14, o15, o16]) ?_ ?_
    · have ec : cutP (xs.map PV.int) none (some 10) = (xs.take 10).map .int := by rw [cutP_take (by omega), List.map_take]; rfl
      have tl : (xs.take 10).length ≤ 10 := List.length_take_le ..
      have cs : oCatS (.lst .own ((xs.take 10).map .int)) (.lst .own [.int 0, .int 1]) = some (.lst .own ((xs.take 10 ++ [0, 1]).map .int)) := by
        unfold oCatS
        simp only
        rw [if_pos ⟨by decide, by rw [List.length_map]; simp; omega⟩, List.map_append]
        rfl
      simp! [l2, ec, cs, ints_no, ints_nb, ints_fz]
      refine wForM (us := xs.take 10 ++ [0, 1]) (e := PV.int) (fun i Γ => ∃ (o1 o2 o3 o4 o6 o7 o10 o12 o13 o14 o15 o16 : Option PV) (o5 : Option Str) (o8 : Option Int) (o9 : Option (Option Str)), Γ = [some (.lst .scr (xs.map .int)), o1, o2, o3, o4, (o5.map PV.str), o6, o7, (o8.map PV.int), toldV o9, o10, none, o12, o13, o14, o15, o16]) ⟨none, none, none, none, none, none, none, none, none, none, none, none, none, none, none, rfl⟩ ?_ ?_
      · rintro i hi Γ ⟨o1, o2, o3, o4, o6, o7, o10, o12, o13, o14, o15, o16, o5, o8, o9, rfl⟩
        generalize (xs.take 10 ++ [0, 1])[i] = cell
        simp only [gN, wG_some, List.set_cons_zero, List.set_cons_succ]
        refine wS_cut (M := fun Γ => ∃ x0, wellP 0 x0 ∧ Γ = [some (.lst .scr (xs.map .int)), some (.int cell), some x0, o3, o4, (o5.map PV.str), o6, o7, (o8.map PV.int), toldV o9, o10, none, o12, o13, o14, o15, o16]) ?_ ?_
        · simp! []
          refine wp_well fun x w => ?_
          simp! []
          exact ⟨x, w, rfl⟩
        rintro _ ⟨x0, w0, rfl⟩
        refine wS_cut (M := fun Γ => ∃ t0 x1, Sp5 t0 ∧ wellP 1000 x1 ∧ Γ = [some (.lst .scr (xs.map .int)), some (.int cell), some x1, some (spcV .frz t0), o4, (o5.map PV.str), o6, o7, (o8.map PV.int), toldV o9, o10, none, o12, o13, o14, o15, o16]) ?_ ?_
        · simp! []
          refine wp_spec (most := 9) w0 (by omega) (by omega) (by omega) fun t k x' sp hk w' => ?_
          simp! [spcO_no, spcO_nb, spcO_fz]
          exact ⟨t, x', sp.sp5, w'.le (by omega), rfl⟩
        rintro _ ⟨t0, x1, sp0, w1, rfl⟩
        refine wS_cut (M := fun Γ => ∃ t x2, Sp5 t ∧ wellP 7000 x2 ∧ Γ = [some (.lst .scr (xs.map .int)), some (.int cell), some x2, some (spcV .frz t), o4, (o5.map PV.str), o6, o7, (o8.map PV.int), toldV o9, o10, none, o12, o13, o14, o15, o16]) ?_ ?_
        · simp! []
          refine wp_drawA w1 (by omega) (by omega) (by omega) fun d x' d0 d1 w' => ?_
          simp! []
          refine wB_dec (fun q => ?_) (fun q => ?_)
          · simp! []
            refine wp_row w' (by omega) fun t x2 sp w2 => ?_
            simp! [spcE_no, spcE_nb, spcE_fz]
            exact ⟨t, x2, sp, w2.le (by omega), rfl⟩
          · simp! []
            exact ⟨t0, x', sp0, w'.le (by omega), rfl⟩
        rintro _ ⟨t, x2, sp, w2, rfl⟩
        clear sp0 w0 w1
        have tok := sp.ok
        have hc := sp.nd
        have tn := spc_no (show Ow.frz ≠ .own by decide) t
        have tb := brw_no tn
        have srt : cSort2 [spcV .frz t] = some (.lst .own ((namesT t).map .str)) := by rw [sort_spc tok, sp.so]
        have nl : (namesT t).length ≤ 40 := by unfold namesT; rw [List.length_map]; exact tok.2.2
        have c50 : (namesT t).length ≤ 50000 := by omega
        have d50 : ((namesT t).drop 1).length ≤ 50000 := by rw [List.length_drop]; omega
        refine wS_cut (M := fun Γ => ∃ (G : List Str) (x3 : PV) (o5 : Option Str), G.Sublist ((namesT t).drop 1) ∧ wellP 7100 x3 ∧ Γ = [some (.lst .scr (xs.map .int)), some (.int cell), some x3, some (spcV .frz t), some (.lst .frz (G.map .str)), (o5.map PV.str), o6, o7, (o8.map PV.int), toldV o9, o10, none, o12, o13, o14, o15, o16]) ?_ ?_
        · have cd : cutP ((namesT t).map PV.str) (some 1) none = ((namesT t).drop 1).map .str := by rw [cutP_drop (by omega), List.map_drop]; rfl
          simp! [tn, tb, srt, noOwns_strs, cd, List.length_map, d50]
          refine ⟨free5 _, ?_⟩
          refine wSub (us := (namesT t).drop 1) (Pr := fun _ => True) (G := fun x => [some (.lst .scr (xs.map .int)), some (.int cell), some x, some (spcV .frz t), o4, none, o6, o7, (o8.map PV.int), toldV o9, o10, none, o12, o13, o14, o15, o16]) (w2.le (m := 7000) (by omega)) (fun u hu x m w hm => ?_) fun ws x' hs hp w' => ?_
          · simp! []
            refine wp_drawA w (by have := hm; rw [List.length_drop] at this; omega) (by omega) (by omega) fun d x' d0 d1 w' => ?_
            simp! []
            exact ⟨x', _, rfl, w', rfl, fun _ => by first | rfl | trivial | exact ⟨rfl, rfl⟩ | exact ⟨trivial, by simp! []⟩⟩
          · simp! [noOwns_strs, noBrws_strs, fzs_strs]
            have l5 : 7000 + ((namesT t).drop 1).length ≤ 7100 := by rw [List.length_drop]; omega
            exact ⟨ws, x', _, hs, w'.le l5, rfl⟩
        rintro _ ⟨G, x3, o5, gs, w3, rfl⟩
        refine wS_cut (M := fun Γ => Γ = [some (.lst .scr (xs.map .int)), some (.int cell), some x3, some (spcV .frz t), some (.lst .frz (G.map .str)), (o5.map PV.str), some (spcV .own []), o7, (o8.map PV.int), toldV o9, o10, none, o12, o13, o14, o15, o16]) ?_ ?_
        · simp! []
          rfl
        rintro _ rfl
        have kok := keep_ok (G := G) tok
        refine wS_cut (M := fun Γ => ∃ o5 : Option Str, Γ = [some (.lst .scr (xs.map .int)), some (.int cell), some x3, some (spcV .frz t), some (.lst .frz (G.map .str)), (o5.map PV.str), some (spcV .own (keepT t G)), o7, (o8.map PV.int), toldV o9, o10, none, o12, o13, o14, o15, o16]) ?_ ?_
        · have vv : vVar 3 [some (.lst .scr (xs.map .int)), some (.int cell), some x3, some (spcV .frz t), some (.lst .frz (G.map .str)), (o5.map PV.str), some (spcV .own []), o7, (o8.map PV.int), toldV o9, o10, none, o12, o13, o14, o15, o16] = some (spcV .frz t) := spc_vv rfl
          simp! [vv, spc_keysW (show Ow.frz ≠ .own by decide)]
          refine wForM (us := namesT t) (e := PV.str) (fun i Γ => ∃ o5 : Option Str, Γ = [some (.lst .scr (xs.map .int)), some (.int cell), some x3, some (spcV .frz t), some (.lst .frz (G.map .str)), (o5.map PV.str), some (spcV .own (keepT (t.take i) G)), o7, (o8.map PV.int), toldV o9, o10, none, o12, o13, o14, o15, o16]) ⟨o5, rfl⟩ ?_ ?_
          · rintro i hi Γ ⟨o5, rfl⟩
            have hi' : i < t.length := by unfold namesT at hi; rwa [List.length_map] at hi
            have en : (namesT t)[i] = t[i].nm := by simp [namesT]
            have hl := List.getElem_mem hi'
            have et : t.take (i + 1) = t.take i ++ [t[i]] := by rw [List.take_add_one, List.getElem?_eq_getElem hi']; rfl
            have ra := rowA_at (o := .frz) tok hl
            simp only [gN, wG_some, List.set_cons_zero, List.set_cons_succ]
            rw [en]
            by_cases g : t[i].nm ∈ G
            · have ek : keepT (t.take (i + 1)) G = keepT (t.take i) G := by unfold keepT; rw [et, List.filter_append]; simp [g]
              rw [ek]
              simp! [tn, g]
              exact ⟨some t[i].nm, rfl⟩
            · have ek : keepT (t.take (i + 1)) G = keepT (t.take i) G ++ [t[i]] := by unfold keepT; rw [et, List.filter_append]; simp [g]
              have nw : t[i].nm ∉ namesT (keepT (t.take i) G) := fun z => by
                rw [keep_names] at z
                have z1 := (List.mem_filter.mp z).1
                have e2 : namesT (t.take i) = (namesT t).take i := by unfold namesT; rw [List.map_take]
                rw [e2, ← en] at z1
                exact nd_at tok.2.1 hi z1
              have kl : (keepT (t.take i) G).length < sizeLine := by
                have a1 : (keepT (t.take i) G).length ≤ (t.take i).length := List.length_filter_le _ _
                have a2 := List.length_take_le i t
                have := tok.2.2
                omega
              have pp := spc_put nw kl
              rw [ek]
              simp! [tn, g, ra, pp]
              exact ⟨some t[i].nm, rfl⟩
          · rintro Γ ⟨o5, rfl⟩
            have e : t.take (namesT t).length = t := by unfold namesT; rw [List.length_map, List.take_length]
            rw [e]
            exact ⟨o5, rfl⟩
        rintro _ ⟨o5, rfl⟩
        have kso : sortS (namesT (keepT t G)) = namesT (keepT t G) := by rw [keep_names, sortS_filter, sp.so]
        have knl : (namesT (keepT t G)).length ≤ 40 := by rw [keep_names]; exact Nat.le_trans (List.length_filter_le _ _) nl
        have kne : 1 ≤ (namesT (keepT t G)).length := by
          have lo := sp.lo
          have h0 : (namesT t)[0] ∈ namesT (keepT t G) := keep_nm.mpr ⟨List.getElem_mem _, fun z => by
            have z1 := gs.subset z
            have sp2 : namesT t = (namesT t)[0] :: (namesT t).drop 1 := by
              have := List.getElem_cons_drop (as := namesT t) (i := 0) (h := by omega)
              rw [List.drop_zero] at this
              exact this.symm
            have nd : (namesT t).Nodup := tok.2.1
            rw [sp2] at nd
            exact (List.nodup_cons.mp nd).1 z1⟩
          exact List.length_pos_of_mem h0
        have nolib : ("nolib" : Str) ∉ namesT (keepT t G) := fun z => sp.nn (keep_nm.mp z).1
        refine wS_cut (M := fun Γ => Γ = [some (.lst .scr (xs.map .int)), some (.int cell), some x3, some (spcV .frz t), some (.lst .frz (G.map .str)), (o5.map PV.str), some (spcV .own (keepT t G)), some (stoV .frz (keepT t G)), (o8.map PV.int), toldV o9, o10, none, o12, o13, o14, o15, o16]) ?_ ?_
        · simp! [spcO_brw, spcB_no, wF_of (storeA_eq (o := .brw) kok kso (by decide)), stoO_no, stoO_fz, stoO_nb, sto_nb, ib]
        rintro _ rfl
        have sn := sto_no (keepT t G)
        have snb := sto_nb (keepT t G)
        have sbw := sto_brw (keepT t G)
        have bn := spcB_no (keepT t G)
        have bb := brw_no bn
        have bk := spc_keysW (show Ow.brw ≠ .own by decide) (keepT t G)
        refine wS_cut (M := fun Γ => ∃ (o5 : Option Str) (o8 : Option Int) (o9 : Option (Option Str)), Γ = [some (.lst .scr (xs.map .int)), some (.int cell), some x3, some (spcV .frz t), some (.lst .frz (G.map .str)), (o5.map PV.str), some (spcV .own (keepT t G)), some (stoV .frz (keepT t G)), (o8.map PV.int), toldV o9, o10, none, o12, o13, o14, o15, o16]) ?_ ?_
        · have vv : vVar 6 [some (.lst .scr (xs.map .int)), some (.int cell), some (brw x3), some (spcV .frz t), some (.lst .frz (G.map .str)), (o5.map PV.str), some (spcV .brw (keepT t G)), some (stoV .frz (keepT t G)), (o8.map PV.int), toldV o9, Option.map brw (o10), none, Option.map brw (o12), Option.map brw (o13), Option.map brw (o14), Option.map brw (o15), Option.map brw (o16)] = some (spcV .brw (keepT t G)) := spc_vv rfl
          simp! [spcO_brw, tb, sbw, ib, vv, bk]
          refine wForM (us := namesT (keepT t G)) (e := PV.str) (fun i Γ => ∃ (o5 : Option Str) (o8 : Option Int) (o9 : Option (Option Str)), Γ = [some (.lst .scr (xs.map .int)), some (.int cell), some (brw x3), some (spcV .frz t), some (.lst .frz (G.map .str)), (o5.map PV.str), some (spcV .brw (keepT t G)), some (stoV .frz (keepT t G)), (o8.map PV.int), toldV o9, Option.map brw (o10), none, Option.map brw (o12), Option.map brw (o13), Option.map brw (o14), Option.map brw (o15), Option.map brw (o16)]) ⟨o5, o8, o9, rfl⟩ ?_ ?_
          · rintro i hi Γ ⟨o5, o8, o9, rfl⟩
            have hm := List.getElem_mem hi
            generalize (namesT (keepT t G))[i] = m at hm
            simp only [gN, wG_some, List.set_cons_zero, List.set_cons_succ]
            have e2 : (2 : Int).toNat = 2 := rfl
            simp! [r1_ok (j := 2) (by omega) (by omega), e2]
            refine wForR (fun j Γ => ∃ (o8 : Option Int) (o9 : Option (Option Str)), Γ = [some (.lst .scr (xs.map .int)), some (.int cell), some (brw x3), some (spcV .frz t), some (.lst .frz (G.map .str)), some (.str m), some (spcV .brw (keepT t G)), some (stoV .frz (keepT t G)), (o8.map PV.int), toldV o9, Option.map brw (o10), none, Option.map brw (o12), Option.map brw (o13), Option.map brw (o14), Option.map brw (o15), Option.map brw (o16)]) ⟨o8, o9, rfl⟩ ?_ ?_
            · rintro j hj Γ ⟨o8, o9, rfl⟩
              simp only [gN, wG_some, List.set_cons_zero, List.set_cons_succ]
              have du := due_eq (o := .frz) (G := G) tok (by decide) hc hm
              unfold dueV at du
              rcases hq : lack (keepT t G) m with _ | y
              · have cl := closure_eq kok hm (lack_cpl hm hq)
                have wd : ∀ w ∈ clo (keepT t G) m, isWord w = true := fun w hw => by
                  obtain ⟨l, hl, rfl⟩ := List.mem_map.mp (lack_cpl hm hq w hw)
                  exact (kok.1 l hl).1
                rw [hq] at du
                generalize clo (keepT t G) m = ws at cl wd du
                simp! [wE_Lam, sn, sbw, wF_of cl, tn, tb, wF_of du, oEq2_strs wd, isi_lst (o := .brw), fcl]
                exact ⟨some (j : Nat), some none, rfl⟩
              · have cl := closureL_eq kok hm hq
                rw [hq] at du
                have yw := lackF_word kok _ _ _ _ hq
                simp! [wE_Lam, sn, sbw, wF_ofX cl, said4, tn, tb, wF_of du, oEq2_ab yw, isi_tl]
                exact ⟨some (j : Nat), some (some y), rfl⟩
            · rintro Γ ⟨o8, o9, rfl⟩
              exact ⟨some m, o8, o9, rfl⟩
          · rintro Γ ⟨o5, o8, o9, rfl⟩
            refine ⟨?_, o5, o8, o9, ?_⟩
            · rcases o5 with _ | o5 <;> rcases o8 with _ | o8 <;> rcases o9 with _ | _ | y <;> simp! [toldV]
            · simp! []
        rintro _ ⟨o5, o8, o9, rfl⟩
        have pw : isWord "put" = true := by decide +kernel
        have bsrt : cSort2 [spcV .brw (keepT t G)] = some (.lst .own ((namesT (keepT t G)).map .str)) := by rw [sort_spc kok, kso]
        have nm0 : isWord "name" = true := by decide +kernel
        have sy0 : isWord "symbol" = true := by decide +kernel
        refine wS_cut (M := fun Γ => ∃ (ws : List Str) (x4 : PV), (∀ y ∈ ws, y ∈ namesT (keepT t G)) ∧ ws.length ≤ 9 ∧ wellP 7200 x4 ∧ Γ = [some (.lst .scr (xs.map .int)), some (.int cell), some x4, some (spcV .frz t), some (.lst .frz (G.map .str)), (o5.map PV.str), some (spcV .own (keepT t G)), some (stoV .frz (keepT t G)), (o8.map PV.int), toldV o9, some (.lst .own (ws.map .str)), none, o12, o13, o14, o15, o16]) ?_ ?_
        · simp! [spcO_brw, tb, sbw, ib]
          refine wp_drawA w3 (by omega) (by omega) (by omega) fun d x' d0 d1 w' => ?_
          obtain ⟨n, rfl⟩ := Int.eq_ofNat_of_zero_le d0
          have e2 : ((n : Nat) : Int).toNat = n := rfl
          have rl : (rngP 0 n).length = n := by simp [rngP]
          have rl2 : (rngP 0 n).length ≤ 50000 := by omega
          simp! [r1_ok (j := ((n : Nat) : Int)) (by omega) (by omega), e2, rl2]
          refine wComp (fun rest acc Γ => ∃ (ws : List Str) (x : PV), acc = ws.map .str ∧ (∀ y ∈ ws, y ∈ namesT (keepT t G)) ∧ ws.length + rest.length ≤ 9 ∧ wellP (7101 + ws.length) x ∧ Γ = [some (.lst .scr (xs.map .int)), some (.int cell), some x, some (spcV .frz t), some (.lst .frz (G.map .str)), Option.map brw ((o5.map PV.str)), some (spcV .brw (keepT t G)), some (stoV .frz (keepT t G)), Option.map brw ((o8.map PV.int)), Option.map brw (toldV o9), o10, none, Option.map brw (o12), Option.map brw (o13), Option.map brw (o14), Option.map brw (o15), Option.map brw (o16)]) ⟨[], x', rfl, (fun _ z => nomatch z), by simp only [List.length_nil, rl]; omega, w'.le (by omega), rfl⟩ ?_ ?_
          · rintro y ys acc Γ - ⟨ws, x, rfl, hw, hl, w, rfl⟩
            rw [List.length_cons] at hl
            simp only [gN, wG_some, List.set_cons_zero, List.set_cons_succ]
            simp! [bn, bb, bsrt, noOwns_strs, noBrws_strs, fzs_strs]
            refine wp_oneS w (by omega) (by decide) kne (by omega) fun z hz x'' w'' => ?_
            simp! []
            exact ⟨ws ++ [z], x'', by simp, (fun u hu => (List.mem_append.mp hu).elim (hw u) fun q => by rw [List.mem_singleton.mp q]; exact hz), by simp; omega, w''.le (by simp; omega), rfl⟩
          · rintro acc Γ ⟨ws, x, rfl, hw, hl, w, rfl⟩
            simp! [well_nb w, noBrws_strs]
            exact ⟨ws, x, hw, by simpa using hl, w.le (by simp at hl; omega), rfl⟩
        rintro _ ⟨ws, x4, hws, wsl, w4, rfl⟩
        have wsw : ∀ w ∈ ws, isWord w = true := fun w hw => by
          obtain ⟨l, hl, rfl⟩ := List.mem_map.mp (hws w hw)
          exact (kok.1 l hl).1
        have ws5 : ws.length ≤ 50000 := by omega
        refine wS_cut (M := fun Γ => Γ = [some (.lst .scr (xs.map .int)), some (.int cell), some x4, some (spcV .frz t), some (.lst .frz (G.map .str)), (o5.map PV.str), some (spcV .own (keepT t G)), some (stoV .frz (keepT t G)), (o8.map PV.int), toldV o9, some (.lst .own (ws.map .str)), none, some (.lst .frz ((ws.filter fun n => decide (("put" : Str) ∈ dfT (keepT t G) n)).map .str)), o13, o14, o15, o16]) ?_ ?_
        · simp! [spcO_brw, tb, sbw, ib, List.length_map, ws5, bn]
          refine ⟨free5 _, ?_⟩
          refine wPure (Γ := _) .str (fun n => decide (("put" : Str) ∈ dfT (keepT t G) n)) .str (ws := ws) (fun u hu => ?_) ?_
          · obtain ⟨l, hl, rfl⟩ := List.mem_map.mp (hws u hu)
            have ra := rowA_at (o := .brw) kok hl
            rw [dfT_of kok hl]
            simp! [bn, bb, ra]
            unfold rowA
            simp! []
            exact ⟨fun _ => trivial, fun _ => trivial⟩
          rw [List.nil_append]
          rcases o5 with _ | o5 <;> simp! [noOwns_strs, noBrws_strs, fzs_strs]
        rintro _ rfl
        generalize hF : (ws.filter fun n => decide (("put" : Str) ∈ dfT (keepT t G) n)) = fs
        have fsw : ∀ w ∈ fs, isWord w = true := fun w hw => by rw [← hF] at hw; exact wsw w (List.mem_filter.mp hw).1
        have fsk : ∀ w ∈ fs, w ∈ namesT (keepT t G) := fun w hw => by rw [← hF] at hw; exact hws w (List.mem_filter.mp hw).1
        have fsl : fs.length ≤ 9 := by rw [← hF]; exact Nat.le_trans (List.length_filter_le _ _) wsl
        have da := definers_ok (o := .brw) kok (by decide) pw hws ws5
        rw [hF] at da
        have db := definers_ok (o := .frz) (sc := []) kok (by decide) pw (fun _ z => nomatch z) (by simp)
        simp only [List.filter_nil, List.map_nil] at db
        have e0 : oEq2 true (.lst .own []) (.lst .own []) = some (.bl false) := oEq2_strs (ws := []) (fun _ z => nomatch z)
        have f1 : fs.length ≤ 100000 := by omega
        refine wS_cut (M := fun Γ => Γ = [some (.lst .scr (xs.map .int)), some (.int cell), some x4, some (spcV .frz t), some (.lst .frz (G.map .str)), (o5.map PV.str), some (spcV .own (keepT t G)), some (stoV .frz (keepT t G)), (o8.map PV.int), toldV o9, some (.lst .own (ws.map .str)), none, some (.lst .frz (fs.map .str)), o13, o14, o15, o16]) ?_ ?_
        · simp! [sbw, sn, ib, wF_of da, wF_of db, oEq2_strs fsw, e0, l0]
        rintro _ rfl
        refine wS_cut (M := fun Γ => Γ = [some (.lst .scr (xs.map .int)), some (.int cell), some x4, some (spcV .frz t), some (.lst .frz (G.map .str)), (o5.map PV.str), some (spcV .own (keepT t G)), some (stoV .frz (keepT t G)), (o8.map PV.int), toldV o9, some (.lst .own (ws.map .str)), none, some (.lst .frz (fs.map .str)), some (.lst .frz (fs.map .str)), o14, o15, o16]) ?_ ?_
        · simp! [f1, List.length_map, noOwns_strs, noBrws_strs, fzs_strs]
        rintro _ rfl
        have dc := definers_ok (o := .frz) kok (by decide) pw fsk (by omega)
        refine wS_cut (M := fun Γ => Γ = [some (.lst .scr (xs.map .int)), some (.int cell), some x4, some (spcV .frz t), some (.lst .frz (G.map .str)), (o5.map PV.str), some (spcV .own (keepT t G)), some (stoV .frz (keepT t G)), (o8.map PV.int), toldV o9, some (.lst .own (ws.map .str)), none, some (.lst .frz (fs.map .str)), some (.lst .frz (fs.map .str)), o14, o15, o16]) ?_ ?_
        · simp! []
          refine wE_ClearV ?_
          simp! [sn, wF_of dc]
          exact ⟨_, rfl⟩
        rintro _ rfl
        refine wS_cut (M := fun Γ => Γ = [some (.lst .scr (xs.map .int)), some (.int cell), some x4, some (spcV .frz t), some (.lst .frz (G.map .str)), (o5.map PV.str), some (spcV .own (keepT t G)), some (stoV .frz (keepT t G)), (o8.map PV.int), toldV o9, some (.lst .own (ws.map .str)), none, some (.lst .frz (fs.map .str)), some (.lst .frz (fs.map .str)), o14, o15, o16]) ?_ ?_
        · simp! [oEq2_strs fsw]
        rintro _ rfl
        refine wS_cut (M := fun Γ => ∃ (od : OX) (x5 : PV), od.ok ∧ od.inN (namesT (keepT t G)) = false ∧ wellP 7300 x5 ∧ Γ = [some (.lst .scr (xs.map .int)), some (.int cell), some x5, some (spcV .frz t), some (.lst .frz (G.map .str)), (o5.map PV.str), some (spcV .own (keepT t G)), some (stoV .frz (keepT t G)), (o8.map PV.int), toldV o9, some (.lst .own (ws.map .str)), none, some (.lst .frz (fs.map .str)), some (.lst .frz (fs.map .str)), some od.pv, o15, o16]) ?_ ?_
        · simp! [l8]
          refine wp_oneX (vs := oddL) w4 (by omega) (by decide) (by decide) fun od hod x' w' => ?_
          simp! [ox_no, ox_nb, ox_fz]
          exact ⟨od, x', odd_ok _ hod, odd_not nolib _ hod, w'.le (by omega), rfl⟩
        rintro _ ⟨od, x5, odo, odn, w5, rfl⟩
        have on := ox_no od
        have onb := ox_nb od
        have ob := ox_brw od
        have ofz := ox_fz od
        have co := closure_ox odo odn
        have wl5 : (ws.length : Int) + 1 < 1000000 := by omega
        refine wS_cut (M := fun Γ => ∃ (d : Nat) (x6 : PV), d ≤ ws.length ∧ wellP 7400 x6 ∧ Γ = [some (.lst .scr (xs.map .int)), some (.int cell), some x6, some (spcV .frz t), some (.lst .frz (G.map .str)), (o5.map PV.str), some (spcV .own (keepT t G)), some (stoV .frz (keepT t G)), (o8.map PV.int), toldV o9, some (.lst .own (ws.map .str)), none, some (.lst .frz (fs.map .str)), some (.lst .frz (fs.map .str)), some od.pv, some (.int (d : Nat)), o16]) ?_ ?_
        · simp! [List.length_map, ib, tb, sbw]
          refine wp_drawA w5 (by omega) (by omega) wl5 fun d x' d0 d1 w' => ?_
          obtain ⟨n, rfl⟩ := Int.eq_ofNat_of_zero_le d0
          simp! [well_nb w']
          exact ⟨n, x', by omega, w'.le (by omega), rfl⟩
        rintro _ ⟨d, x6, dl, w6, rfl⟩
        refine wS_cut (M := fun Γ => Γ = [some (.lst .scr (xs.map .int)), some (.int cell), some x6, some (spcV .frz t), some (.lst .frz (G.map .str)), (o5.map PV.str), some (spcV .own (keepT t G)), some (stoV .frz (keepT t G)), (o8.map PV.int), toldV o9, some (.lst .own (ws.map .str)), none, some (.lst .frz (fs.map .str)), some (.lst .frz (fs.map .str)), some od.pv, some (.int (d : Nat)), o16]) ?_ ?_
        · simp! [wE_Lam, sn, on, l2, wF_ofX co, said3, neQ_ox nm0 odo]
        rintro _ rfl
        have ct := cutP_take (xs := ws.map PV.str) (k := (d : Nat)) (by omega)
        have cd := cutP_drop (xs := ws.map PV.str) (k := (d : Nat)) (by omega)
        rw [Int.toNat_natCast, ← List.map_take] at ct
        rw [Int.toNat_natCast, ← List.map_drop] at cd
        have tl5 : (ws.take d).length ≤ 9 := by rw [List.length_take]; omega
        have dl5 : (ws.drop d).length ≤ 9 := by rw [List.length_drop]; omega
        have eos : (ws.take d).map PV.str ++ od.pv :: (ws.drop d).map .str = ((ws.take d).map OX.str ++ od :: (ws.drop d).map .str).map OX.pv := by rw [List.map_append, List.map_cons, List.map_map, List.map_map]; rfl
        have osk : ∀ x ∈ (ws.take d).map OX.str ++ od :: (ws.drop d).map .str, x.ok := fun x hx => by
          have sk : ∀ w ∈ ws, (OX.str w).ok := fun w hw => ⟨by have := (isWord_len (wsw w hw)).2; omega, lay_word (wsw w hw)⟩
          rcases List.mem_append.mp hx with hx | hx
          · obtain ⟨w, hw, rfl⟩ := List.mem_map.mp hx
            exact sk w (List.mem_of_mem_take hw)
          · rcases List.mem_cons.mp hx with rfl | hx
            · exact odo
            · obtain ⟨w, hw, rfl⟩ := List.mem_map.mp hx
              exact sk w (List.mem_of_mem_drop hw)
        have osb : ((ws.take d).map OX.str ++ od :: (ws.drop d).map .str).findSome? (badX (keepT t G)) = some ⟨3, "name", od.pv⟩ := by
          have h1 := names_none kok (sc := ws.take d) fun x hx => hws x (List.mem_of_mem_take hx)
          have h2 : badX (keepT t G) od = some ⟨3, "name", od.pv⟩ := by unfold badX; rw [if_neg (by rw [odn]; decide)]
          rw [List.findSome?_append, h1, List.findSome?_cons, h2]
          rfl
        have osl : ((ws.take d).map OX.str ++ od :: (ws.drop d).map .str).length ≤ 19 := by rw [List.length_append, List.length_cons, List.length_map, List.length_map]; omega
        have ose : (((ws.take d).map OX.str ++ od :: (ws.drop d).map .str).map OX.pv).eraseIdx d = ws.map .str := by
          rw [← eos, List.eraseIdx_append_of_length_le (by rw [List.length_map, List.length_take]; omega)]
          have : d - ((ws.take d).map PV.str).length = 0 := by rw [List.length_map, List.length_take]; omega
          rw [this, List.eraseIdx_cons_zero, ← List.map_append, List.take_append_drop]
        have osg : (((ws.take d).map OX.str ++ od :: (ws.drop d).map .str).map OX.pv)[d]? = some od.pv := by
          rw [← eos, List.getElem?_append_right (by rw [List.length_map, List.length_take]; omega)]
          have : d - ((ws.take d).map PV.str).length = 0 := by rw [List.length_map, List.length_take]; omega
          rw [this]
          rfl
        refine wS_cut (M := fun Γ => Γ = [some (.lst .scr (xs.map .int)), some (.int cell), some x6, some (spcV .frz t), some (.lst .frz (G.map .str)), (o5.map PV.str), some (spcV .own (keepT t G)), some (stoV .frz (keepT t G)), (o8.map PV.int), toldV o9, some (.lst .own (((ws.take d).map OX.str ++ od :: (ws.drop d).map .str).map OX.pv)), none, some (.lst .frz (fs.map .str)), some (.lst .frz (fs.map .str)), some od.pv, some (.int (d : Nat)), o16]) ?_ ?_
        · have c1 : (ws.take d).length + 1 ≤ sizeLine := by omega
          have c2 : (ws.take d).length + 1 + (ws.drop d).length ≤ sizeLine := by omega
          rw [← eos]
          simp! [ct, cd, on, onb, ob, l1, ib, tb, sbw, c1, c2, List.length_map, List.length_append]
          have eq1 : (ws.take d).map PV.str ++ [od.pv] ++ (ws.drop d).map .str = (ws.take d).map PV.str ++ od.pv :: (ws.drop d).map .str := by simp
          exact ⟨by rw [eq1, eos]; exact oxs_nb _, by rw [eq1]⟩
        rintro _ rfl
        generalize ((ws.take d).map OX.str ++ od :: (ws.drop d).map .str) = os at osk osb osl ose osg
        clear eos
        have osn := oxs_no os
        have osbn := oxs_nb os
        have osbr := brws_no osn
        have ol5 : os.length ≤ 50000 := by omega
        refine wS_cut (M := fun Γ => ∃ x7, wellP 7500 x7 ∧ Γ = [some (.lst .scr (xs.map .int)), some (.int cell), some x7, some (spcV .frz t), some (.lst .frz (G.map .str)), (o5.map PV.str), some (spcV .own (keepT t G)), some (stoV .frz (keepT t G)), (o8.map PV.int), toldV o9, some (.lst .own (os.map OX.pv)), none, some (.lst .frz (fs.map .str)), some (.lst .frz (fs.map .str)), some od.pv, some (.int (d : Nat)), o16]) ?_ ?_
        · simp! [wE_Lam, sn, on, onb, ob, l2, ib, tb, sbw, osn, osbr]
          refine wp_one (xs := [.str "put", .int 7]) w6 (by omega) (by decide) (by rfl) (by simp) (by simp) fun i hi x' w' => ?_
          have d1 := definers_bad (o := .brw) (s := .str "put") kok (by decide) rfl osk ol5 osb
          have d2 := definers_bad (o := .brw) (s := .int 7) kok (by decide) rfl osk ol5 osb
          match i, hi with
          | 0, _ =>
            simp only [List.getElem_cons_zero]
            simp! [wF_ofX d1, said3, on, l2, neQ_ox nm0 odo, well_nb w']
            exact ⟨x', w'.le (by omega), rfl⟩
          | 1, _ =>
            simp only [List.getElem_cons_succ, List.getElem_cons_zero]
            simp! [wF_ofX d2, said3, on, l2, neQ_ox nm0 odo, well_nb w']
            exact ⟨x', w'.le (by omega), rfl⟩
        rintro _ ⟨x7, w7, rfl⟩
        refine wS_cut (M := fun Γ => ∃ (sg : OX) (x8 : PV), sg.ok ∧ sg.wd = false ∧ wellP 7600 x8 ∧ Γ = [some (.lst .scr (xs.map .int)), some (.int cell), some x8, some (spcV .frz t), some (.lst .frz (G.map .str)), (o5.map PV.str), some (spcV .own (keepT t G)), some (stoV .frz (keepT t G)), (o8.map PV.int), toldV o9, some (.lst .own (os.map OX.pv)), none, some (.lst .frz (fs.map .str)), some (.lst .frz (fs.map .str)), some od.pv, some (.int (d : Nat)), some sg.pv]) ?_ ?_
        · simp! [l9]
          refine wp_oneX (vs := signL) w7 (by omega) (by decide) (by decide) fun sg hsg x' w' => ?_
          simp! [ox_no, ox_nb, ox_fz]
          exact ⟨sg, x', (sign_ok _ hsg).1, (sign_ok _ hsg).2, w'.le (by omega), rfl⟩
        rintro _ ⟨sg, x8, sgo, sgw, w8, rfl⟩
        have gn := ox_no sg
        have gnb := ox_nb sg
        have gb := ox_brw sg
        have gd := definers_sym (o := .brw) kok (by decide) sgo sgw hws ws5
        refine wS_cut (M := fun Γ => Γ = [some (.lst .scr (xs.map .int)), some (.int cell), some x8, some (spcV .frz t), some (.lst .frz (G.map .str)), (o5.map PV.str), some (spcV .own (keepT t G)), some (stoV .frz (keepT t G)), (o8.map PV.int), toldV o9, some (.lst .own (ws.map .str)), none, some (.lst .frz (fs.map .str)), some (.lst .frz (fs.map .str)), some od.pv, some (.int (d : Nat)), some sg.pv]) ?_ ?_
        · have fp : fPopAt (.lst .own (os.map OX.pv)) [.int (d : Nat)] = some (.lst .own (ws.map .str), od.pv) := by
            unfold fPopAt
            simp only
            rw [if_pos ⟨by omega, by rw [List.length_map]; omega⟩, Int.toNat_natCast, osg, ose]
          simp! [fp]
        rintro _ rfl
        simp! [wE_Lam, sn, gn, gb, gnb, l2, ib, tb, sbw, wF_ofX gd, said5, neQ_ox sy0 sgo]
        exact ⟨_, _, _, _, _, _, _, _, _, _, _, _, o5, o8, o9, rfl⟩
      · rintro Γ ⟨o1, o2, o3, o4, o6, o7, o10, o12, o13, o14, o15, o16, o5, o8, o9, rfl⟩
        exact ⟨o1, o2, o3, o4, o6, o7, o10, o12, o13, o14, o15, o16, o5, o8, o9, rfl⟩
    rintro _ ⟨o1, o2, o3, o4, o6, o7, o10, o12, o13, o14, o15, o16, o5, o8, o9, rfl⟩
    simp! []
  obtain ⟨x, ys, e, rfl⟩ := wF_out key
  exact ⟨ys, e⟩
end SL

namespace SL
open PySem L2 SB Evl
def topS (i : Nat) : Stmt := PySem.Challenge.pw_scopebind_k05_closures.main.body.getD i (.Pass ⟨0, 0, 0, 0⟩)
abbrev s_NoLibrary___init__ : Stmt := inClass (topS 2) 0
abbrev N_NoLibrary___init__ : List Str := ["self", "part"]
abbrev P_NoLibrary___init__ : List Str := ["self", "part"]
theorem sc_NoLibrary___init__ : FnScope N_NoLibrary___init__ P_NoLibrary___init__ (defScope s_NoLibrary___init__) := ⟨rfl, rfl, rfl, by decide +kernel, rfl, by decide +kernel, by decide +kernel⟩
abbrev s_NoStore___init__ : Stmt := inClass (topS 3) 0
abbrev N_NoStore___init__ : List Str := ["self", "at"]
abbrev P_NoStore___init__ : List Str := ["self", "at"]
theorem sc_NoStore___init__ : FnScope N_NoStore___init__ P_NoStore___init__ (defScope s_NoStore___init__) := ⟨rfl, rfl, rfl, by decide +kernel, rfl, by decide +kernel, by decide +kernel⟩
abbrev s_NoName___init__ : Stmt := inClass (topS 4) 0
abbrev N_NoName___init__ : List Str := ["self", "name"]
abbrev P_NoName___init__ : List Str := ["self", "name"]
theorem sc_NoName___init__ : FnScope N_NoName___init__ P_NoName___init__ (defScope s_NoName___init__) := ⟨rfl, rfl, rfl, by decide +kernel, rfl, by decide +kernel, by decide +kernel⟩
abbrev s_Missing___init__ : Stmt := inClass (topS 5) 0
abbrev N_Missing___init__ : List Str := ["self", "name"]
abbrev P_Missing___init__ : List Str := ["self", "name"]
theorem sc_Missing___init__ : FnScope N_Missing___init__ P_Missing___init__ (defScope s_Missing___init__) := ⟨rfl, rfl, rfl, by decide +kernel, rfl, by decide +kernel, by decide +kernel⟩
abbrev s_NoSymbol___init__ : Stmt := inClass (topS 6) 0
abbrev N_NoSymbol___init__ : List Str := ["self", "symbol"]
abbrev P_NoSymbol___init__ : List Str := ["self", "symbol"]
theorem sc_NoSymbol___init__ : FnScope N_NoSymbol___init__ P_NoSymbol___init__ (defScope s_NoSymbol___init__) := ⟨rfl, rfl, rfl, by decide +kernel, rfl, by decide +kernel, by decide +kernel⟩
abbrev s_is_word : Stmt := topS 9
abbrev N_is_word : List Str := ["thing", "letter"]
abbrev P_is_word : List Str := ["thing"]
theorem sc_is_word : FnScope N_is_word P_is_word (defScope s_is_word) := ⟨rfl, rfl, rfl, by decide +kernel, rfl, by decide +kernel, by decide +kernel⟩
abbrev s_are_words : Stmt := topS 10
abbrev N_are_words : List Str := ["thing", "most", "word"]
abbrev P_are_words : List Str := ["thing", "most"]
theorem sc_are_words : FnScope N_are_words P_are_words (defScope s_are_words) := ⟨rfl, rfl, rfl, by decide +kernel, rfl, by decide +kernel, by decide +kernel⟩
abbrev s_check_symbol : Stmt := topS 11
abbrev N_check_symbol : List Str := ["symbol"]
abbrev P_check_symbol : List Str := ["symbol"]
theorem sc_check_symbol : FnScope N_check_symbol P_check_symbol (defScope s_check_symbol) := ⟨rfl, rfl, rfl, by decide +kernel, rfl, by decide +kernel, by decide +kernel⟩
abbrev s_closure : Stmt := topS 13
abbrev N_closure : List Str := ["store", "name", "found", "at"]
abbrev P_closure : List Str := ["store", "name"]
theorem sc_closure : FnScope N_closure P_closure (defScope s_closure) := ⟨rfl, rfl, rfl, by decide +kernel, rfl, by decide +kernel, by decide +kernel⟩
abbrev s_grown : Stmt := topS 14
abbrev N_grown : List Str := ["store", "found", "name", "more", "need"]
abbrev P_grown : List Str := ["store", "found", "name"]
theorem sc_grown : FnScope N_grown P_grown (defScope s_grown) := ⟨rfl, rfl, rfl, by decide +kernel, rfl, by decide +kernel, by decide +kernel⟩
abbrev s_definers : Stmt := topS 15
abbrev N_definers : List Str := ["store", "some", "symbol", "libraries", "name", "library"]
abbrev P_definers : List Str := ["store", "some", "symbol"]
theorem sc_definers : FnScope N_definers P_definers (defScope s_definers) := ⟨rfl, rfl, rfl, by decide +kernel, rfl, by decide +kernel, by decide +kernel⟩
abbrev s_Library___init__ : Stmt := inClass (topS 18) 0
abbrev N_Library___init__ : List Str := ["self", "name", "needs", "defines", "uses", "weak", "eager", "own_first", "symbol"]
abbrev P_Library___init__ : List Str := ["self", "name", "needs", "defines", "uses", "weak", "eager", "own_first"]
theorem sc_Library___init__ : FnScope N_Library___init__ P_Library___init__ (defScope s_Library___init__) := ⟨rfl, rfl, rfl, by decide +kernel, rfl, by decide +kernel, by decide +kernel⟩
abbrev s_Library_row : Stmt := inClass (topS 18) 1
abbrev N_Library_row : List Str := ["self"]
abbrev P_Library_row : List Str := ["self"]
theorem sc_Library_row : FnScope N_Library_row P_Library_row (defScope s_Library_row) := ⟨rfl, rfl, rfl, by decide +kernel, rfl, by decide +kernel, by decide +kernel⟩
abbrev s_Library___eq__ : Stmt := inClass (topS 18) 2
abbrev N_Library___eq__ : List Str := ["self", "other"]
abbrev P_Library___eq__ : List Str := ["self", "other"]
theorem sc_Library___eq__ : FnScope N_Library___eq__ P_Library___eq__ (defScope s_Library___eq__) := ⟨rfl, rfl, rfl, by decide +kernel, rfl, by decide +kernel, by decide +kernel⟩
abbrev s_Store___init__ : Stmt := inClass (topS 19) 0
abbrev N_Store___init__ : List Str := ["self", "libraries", "at", "item"]
abbrev P_Store___init__ : List Str := ["self", "libraries"]
theorem sc_Store___init__ : FnScope N_Store___init__ P_Store___init__ (defScope s_Store___init__) := ⟨rfl, rfl, rfl, by decide +kernel, rfl, by decide +kernel, by decide +kernel⟩
abbrev s_Store___getitem__ : Stmt := inClass (topS 19) 1
abbrev N_Store___getitem__ : List Str := ["self", "name"]
abbrev P_Store___getitem__ : List Str := ["self", "name"]
theorem sc_Store___getitem__ : FnScope N_Store___getitem__ P_Store___getitem__ (defScope s_Store___getitem__) := ⟨rfl, rfl, rfl, by decide +kernel, rfl, by decide +kernel, by decide +kernel⟩
abbrev s_Store___iter__ : Stmt := inClass (topS 19) 2
abbrev N_Store___iter__ : List Str := ["self"]
abbrev P_Store___iter__ : List Str := ["self"]
theorem sc_Store___iter__ : FnScope N_Store___iter__ P_Store___iter__ (defScope s_Store___iter__) := ⟨rfl, rfl, rfl, by decide +kernel, rfl, by decide +kernel, by decide +kernel⟩
abbrev s_Store___contains__ : Stmt := inClass (topS 19) 3
abbrev N_Store___contains__ : List Str := ["self", "name"]
abbrev P_Store___contains__ : List Str := ["self", "name"]
theorem sc_Store___contains__ : FnScope N_Store___contains__ P_Store___contains__ (defScope s_Store___contains__) := ⟨rfl, rfl, rfl, by decide +kernel, rfl, by decide +kernel, by decide +kernel⟩
abbrev s_Store___len__ : Stmt := inClass (topS 19) 4
abbrev N_Store___len__ : List Str := ["self"]
abbrev P_Store___len__ : List Str := ["self"]
theorem sc_Store___len__ : FnScope N_Store___len__ P_Store___len__ (defScope s_Store___len__) := ⟨rfl, rfl, rfl, by decide +kernel, rfl, by decide +kernel, by decide +kernel⟩
abbrev s__law_well : Stmt := topS 22
abbrev N__law_well : List Str := ["_law_cell"]
abbrev P__law_well : List Str := ["_law_cell"]
theorem sc__law_well : FnScope N__law_well P__law_well (defScope s__law_well) := ⟨rfl, rfl, rfl, by decide +kernel, rfl, by decide +kernel, by decide +kernel⟩
abbrev s__law_draw : Stmt := topS 23
abbrev N__law_draw : List Str := ["_law_well_here", "_law_many", "_law_digit", "_law_prime", "_law_number"]
abbrev P__law_draw : List Str := ["_law_well_here", "_law_many"]
theorem sc__law_draw : FnScope N__law_draw P__law_draw (defScope s__law_draw) := ⟨rfl, rfl, rfl, by decide +kernel, rfl, by decide +kernel, by decide +kernel⟩
abbrev s__law_one : Stmt := topS 24
abbrev N__law_one : List Str := ["_law_well_here", "_law_some"]
abbrev P__law_one : List Str := ["_law_well_here", "_law_some"]
theorem sc__law_one : FnScope N__law_one P__law_one (defScope s__law_one) := ⟨rfl, rfl, rfl, by decide +kernel, rfl, by decide +kernel, by decide +kernel⟩
abbrev s__law_spec : Stmt := topS 25
abbrev N__law_spec : List Str := ["_law_well_here", "_law_most", "_law_words", "_law_symbols", "_law_found", "_law_word", "_law_near", "_law_other", "_law_made", "_law_symbol", "_law_used", "_law_loose"]
abbrev P__law_spec : List Str := ["_law_well_here", "_law_most"]
theorem sc__law_spec : FnScope N__law_spec P__law_spec (defScope s__law_spec) := ⟨rfl, rfl, rfl, by decide +kernel, rfl, by decide +kernel, by decide +kernel⟩
abbrev s__law_store : Stmt := topS 26
abbrev N__law_store : List Str := ["_law_found", "_law_some", "_law_word", "_law_near", "_law_made", "_law_used", "_law_loose", "_law_soon", "_law_mine", "_law_one_here"]
abbrev P__law_store : List Str := ["_law_found"]
theorem sc__law_store : FnScope N__law_store P__law_store (defScope s__law_store) := ⟨rfl, rfl, rfl, by decide +kernel, rfl, by decide +kernel, by decide +kernel⟩
abbrev s__law_row : Stmt := topS 27
abbrev N__law_row : List Str := ["_law_well_here", "_law_words", "_law_k", "_law_found", "_law_word", "_law_near", "_law_j", "_law_other"]
abbrev P__law_row : List Str := ["_law_well_here"]
theorem sc__law_row : FnScope N__law_row P__law_row (defScope s__law_row) := ⟨rfl, rfl, rfl, by decide +kernel, rfl, by decide +kernel, by decide +kernel⟩
abbrev s__law_due : Stmt := topS 28
abbrev N__law_due : List Str := ["_law_found", "_law_word", "_law_gone", "_law_group", "_law_at", "_law_other"]
abbrev P__law_due : List Str := ["_law_found", "_law_word", "_law_gone"]
theorem sc__law_due : FnScope N__law_due P__law_due (defScope s__law_due) := ⟨rfl, rfl, rfl, by decide +kernel, rfl, by decide +kernel, by decide +kernel⟩
abbrev s__law_said : Stmt := topS 29
abbrev N__law_said : List Str := ["_law_ask", "e"]
abbrev P__law_said : List Str := ["_law_ask"]
theorem sc__law_said : FnScope N__law_said P__law_said (defScope s__law_said) := ⟨rfl, rfl, rfl, by decide +kernel, rfl, by decide +kernel, by decide +kernel⟩
abbrev s_law : Stmt := topS 30
abbrev N_law : List Str := ["_law_script", "_law_cell", "_law_well_here", "_law_found", "_law_gone", "_law_word", "_law_here", "_law_store_here", "_law_turn", "_law_told", "_law_some", "_law_k", "_law_due_here", "_law_kept", "_law_odd", "_law_at", "_law_sign"]
abbrev P_law : List Str := ["_law_script"]
theorem sc_law : FnScope N_law P_law (defScope s_law) := ⟨rfl, rfl, rfl, by decide +kernel, rfl, by decide +kernel, by decide +kernel⟩
/-- where things stand -/
structure Adr where
  C_LoadError : Addr
  C_NoLibrary : Addr
  C_NoStore : Addr
  C_NoName : Addr
  C_Missing : Addr
  C_NoSymbol : Addr
  C_Library : Addr
  C_Store : Addr
  f_NoLibrary___init__ : Addr
  d_NoLibrary___init__ : FuncData
  f_NoStore___init__ : Addr
  d_NoStore___init__ : FuncData
  f_NoName___init__ : Addr
  d_NoName___init__ : FuncData
  f_Missing___init__ : Addr
  d_Missing___init__ : FuncData
  f_NoSymbol___init__ : Addr
  d_NoSymbol___init__ : FuncData
  f_is_word : Addr
  d_is_word : FuncData
  f_are_words : Addr
  d_are_words : FuncData
  f_check_symbol : Addr
  d_check_symbol : FuncData
  f_closure : Addr
  d_closure : FuncData
  f_grown : Addr
  d_grown : FuncData
  f_definers : Addr
  d_definers : FuncData
  f_Library___init__ : Addr
  d_Library___init__ : FuncData
  f_Library_row : Addr
  d_Library_row : FuncData
  f_Library___eq__ : Addr
  d_Library___eq__ : FuncData
  f_Store___init__ : Addr
  d_Store___init__ : FuncData
  f_Store___getitem__ : Addr
  d_Store___getitem__ : FuncData
  f_Store___iter__ : Addr
  d_Store___iter__ : FuncData
  f_Store___contains__ : Addr
  d_Store___contains__ : FuncData
  f_Store___len__ : Addr
  d_Store___len__ : FuncData
  f__law_well : Addr
  d__law_well : FuncData
  f__law_draw : Addr
  d__law_draw : FuncData
  f__law_one : Addr
  d__law_one : FuncData
  f__law_spec : Addr
  d__law_spec : FuncData
  f__law_store : Addr
  d__law_store : FuncData
  f__law_row : Addr
  d__law_row : FuncData
  f__law_due : Addr
  d__law_due : FuncData
  f__law_said : Addr
  d__law_said : FuncData
  f_law : Addr
  d_law : FuncData
  e0 : Addr
  e1 : Addr
  e2 : Addr
  e3 : Addr
  c_law : Addr
  t_law : Addr
/-- Library's defaults -/
def kwL (A : Adr) : List (Str × V) := [("needs", .ref A.e0), ("defines", .ref A.e1), ("uses", .ref A.e2), ("weak", .ref A.e3), ("eager", .bl false), ("own_first", .bl false)]
/-- what the top has written -/
structure Txt (K : PySem.W.Frag) (mg : Str → Option Value) (A : Adr) : Prop where
  b_ValueError : mg "ValueError" = none
  b_all : mg "all" = none
  b_bool : mg "bool" = none
  b_enumerate : mg "enumerate" = none
  b_int : mg "int" = none
  b_isinstance : mg "isinstance" = none
  b_len : mg "len" = none
  b_list : mg "list" = none
  b_range : mg "range" = none
  b_set : mg "set" = none
  b_sorted : mg "sorted" = none
  b_str : mg "str" = none
  b_tuple : mg "tuple" = none
  c_LETTERS : ∃ u, mg "LETTERS" = some u ∧ RelV (.str "abcdefghijklmnopqrstuvwxyz") u
  c_MOST_LIBRARIES : ∃ u, mg "MOST_LIBRARIES" = some u ∧ RelV (.int 40) u
  ld : LdC K mg A.C_LoadError
  x_NoLibrary : XC K mg "NoLibrary" "part" A.C_NoLibrary A.f_NoLibrary___init__
  x_NoStore : XC K mg "NoStore" "at" A.C_NoStore A.f_NoStore___init__
  x_NoName : XC K mg "NoName" "name" A.C_NoName A.f_NoName___init__
  x_Missing : XC K mg "Missing" "name" A.C_Missing A.f_Missing___init__
  x_NoSymbol : XC K mg "NoSymbol" "symbol" A.C_NoSymbol A.f_NoSymbol___init__
  g_Library : mg "Library" = some (.ref A.C_Library)
  cl_Library : Cls K A.C_Library
  na_Library_name : NoAttr K A.C_Library "name"
  na_Library_needs : NoAttr K A.C_Library "needs"
  na_Library_defines : NoAttr K A.C_Library "defines"
  na_Library_uses : NoAttr K A.C_Library "uses"
  na_Library_weak : NoAttr K A.C_Library "weak"
  na_Library_eager : NoAttr K A.C_Library "eager"
  na_Library_own_first : NoAttr K A.C_Library "own_first"
  mk_Library : Mk K A.C_Library A.f_Library___init__
  g_Store : mg "Store" = some (.ref A.C_Store)
  cl_Store : Cls K A.C_Store
  na_Store_kept : NoAttr K A.C_Store "kept"
  mk_Store : Mk K A.C_Store A.f_Store___init__
  F_NoLibrary___init__ : Fun K "__init__" "NoLibrary.__init__" s_NoLibrary___init__ A.f_NoLibrary___init__ A.d_NoLibrary___init__
  bi_NoLibrary___init__ : Binds K A.d_NoLibrary___init__ P_NoLibrary___init__ []
  F_NoStore___init__ : Fun K "__init__" "NoStore.__init__" s_NoStore___init__ A.f_NoStore___init__ A.d_NoStore___init__
  bi_NoStore___init__ : Binds K A.d_NoStore___init__ P_NoStore___init__ []
  F_NoName___init__ : Fun K "__init__" "NoName.__init__" s_NoName___init__ A.f_NoName___init__ A.d_NoName___init__
  bi_NoName___init__ : Binds K A.d_NoName___init__ P_NoName___init__ []
  F_Missing___init__ : Fun K "__init__" "Missing.__init__" s_Missing___init__ A.f_Missing___init__ A.d_Missing___init__
  bi_Missing___init__ : Binds K A.d_Missing___init__ P_Missing___init__ []
  F_NoSymbol___init__ : Fun K "__init__" "NoSymbol.__init__" s_NoSymbol___init__ A.f_NoSymbol___init__ A.d_NoSymbol___init__
  bi_NoSymbol___init__ : Binds K A.d_NoSymbol___init__ P_NoSymbol___init__ []
  F_is_word : Fun K "is_word" "is_word" s_is_word A.f_is_word A.d_is_word
  bi_is_word : Binds K A.d_is_word P_is_word []
  g_is_word : mg "is_word" = some (.ref A.f_is_word)
  k_is_word : PySem.W.keepIn K (.ref A.f_is_word) = true
  F_are_words : Fun K "are_words" "are_words" s_are_words A.f_are_words A.d_are_words
  bi_are_words : Binds K A.d_are_words P_are_words []
  g_are_words : mg "are_words" = some (.ref A.f_are_words)
  k_are_words : PySem.W.keepIn K (.ref A.f_are_words) = true
  F_check_symbol : Fun K "check_symbol" "check_symbol" s_check_symbol A.f_check_symbol A.d_check_symbol
  bi_check_symbol : Binds K A.d_check_symbol P_check_symbol []
  g_check_symbol : mg "check_symbol" = some (.ref A.f_check_symbol)
  k_check_symbol : PySem.W.keepIn K (.ref A.f_check_symbol) = true
  F_closure : Fun K "closure" "closure" s_closure A.f_closure A.d_closure
  bi_closure : Binds K A.d_closure P_closure []
  g_closure : mg "closure" = some (.ref A.f_closure)
  k_closure : PySem.W.keepIn K (.ref A.f_closure) = true
  F_grown : Fun K "grown" "grown" s_grown A.f_grown A.d_grown
  bi_grown : Binds K A.d_grown P_grown []
  g_grown : mg "grown" = some (.ref A.f_grown)
  k_grown : PySem.W.keepIn K (.ref A.f_grown) = true
  F_definers : Fun K "definers" "definers" s_definers A.f_definers A.d_definers
  bi_definers : Binds K A.d_definers P_definers []
  g_definers : mg "definers" = some (.ref A.f_definers)
  k_definers : PySem.W.keepIn K (.ref A.f_definers) = true
  F_Library___init__ : FunD K "__init__" "Library.__init__" (defArgs s_Library___init__) (defBody s_Library___init__) (defScope s_Library___init__) [] (kwL A) A.f_Library___init__ A.d_Library___init__
  F_Library_row : Fun K "row" "Library.row" s_Library_row A.f_Library_row A.d_Library_row
  bi_Library_row : Binds K A.d_Library_row P_Library_row []
  me_Library_row : Meth K A.C_Library "row" A.f_Library_row
  F_Library___eq__ : Fun K "__eq__" "Library.__eq__" s_Library___eq__ A.f_Library___eq__ A.d_Library___eq__
  bi_Library___eq__ : Binds K A.d_Library___eq__ P_Library___eq__ []
  du_Library_eq : Dun K A.C_Library "__eq__" A.f_Library___eq__
  F_Store___init__ : Fun K "__init__" "Store.__init__" s_Store___init__ A.f_Store___init__ A.d_Store___init__
  bi_Store___init__ : Binds K A.d_Store___init__ P_Store___init__ []
  F_Store___getitem__ : Fun K "__getitem__" "Store.__getitem__" s_Store___getitem__ A.f_Store___getitem__ A.d_Store___getitem__
  bi_Store___getitem__ : Binds K A.d_Store___getitem__ P_Store___getitem__ []
  du_Store_getitem : Dun K A.C_Store "__getitem__" A.f_Store___getitem__
  fi_Store_getitem : PySem.W.fnIn K A.f_Store___getitem__ = true
  F_Store___iter__ : Fun K "__iter__" "Store.__iter__" s_Store___iter__ A.f_Store___iter__ A.d_Store___iter__
  bi_Store___iter__ : Binds K A.d_Store___iter__ P_Store___iter__ []
  du_Store_iter : Dun K A.C_Store "__iter__" A.f_Store___iter__
  F_Store___contains__ : Fun K "__contains__" "Store.__contains__" s_Store___contains__ A.f_Store___contains__ A.d_Store___contains__
  bi_Store___contains__ : Binds K A.d_Store___contains__ P_Store___contains__ []
  du_Store_contains : Dun K A.C_Store "__contains__" A.f_Store___contains__
  F_Store___len__ : Fun K "__len__" "Store.__len__" s_Store___len__ A.f_Store___len__ A.d_Store___len__
  bi_Store___len__ : Binds K A.d_Store___len__ P_Store___len__ []
  du_Store_len : Dun K A.C_Store "__len__" A.f_Store___len__
  F__law_well : Fun K "_law_well" "_law_well" s__law_well A.f__law_well A.d__law_well
  bi__law_well : Binds K A.d__law_well P__law_well []
  g__law_well : mg "_law_well" = some (.ref A.f__law_well)
  k__law_well : PySem.W.keepIn K (.ref A.f__law_well) = true
  F__law_draw : Fun K "_law_draw" "_law_draw" s__law_draw A.f__law_draw A.d__law_draw
  bi__law_draw : Binds K A.d__law_draw P__law_draw []
  g__law_draw : mg "_law_draw" = some (.ref A.f__law_draw)
  k__law_draw : PySem.W.keepIn K (.ref A.f__law_draw) = true
  F__law_one : Fun K "_law_one" "_law_one" s__law_one A.f__law_one A.d__law_one
  bi__law_one : Binds K A.d__law_one P__law_one []
  g__law_one : mg "_law_one" = some (.ref A.f__law_one)
  k__law_one : PySem.W.keepIn K (.ref A.f__law_one) = true
  F__law_spec : Fun K "_law_spec" "_law_spec" s__law_spec A.f__law_spec A.d__law_spec
  bi__law_spec : Binds K A.d__law_spec P__law_spec []
  g__law_spec : mg "_law_spec" = some (.ref A.f__law_spec)
  k__law_spec : PySem.W.keepIn K (.ref A.f__law_spec) = true
  F__law_store : Fun K "_law_store" "_law_store" s__law_store A.f__law_store A.d__law_store
  bi__law_store : Binds K A.d__law_store P__law_store []
  g__law_store : mg "_law_store" = some (.ref A.f__law_store)
  k__law_store : PySem.W.keepIn K (.ref A.f__law_store) = true
  F__law_row : Fun K "_law_row" "_law_row" s__law_row A.f__law_row A.d__law_row
  bi__law_row : Binds K A.d__law_row P__law_row []
  g__law_row : mg "_law_row" = some (.ref A.f__law_row)
  k__law_row : PySem.W.keepIn K (.ref A.f__law_row) = true
  F__law_due : Fun K "_law_due" "_law_due" s__law_due A.f__law_due A.d__law_due
  bi__law_due : Binds K A.d__law_due P__law_due []
  g__law_due : mg "_law_due" = some (.ref A.f__law_due)
  k__law_due : PySem.W.keepIn K (.ref A.f__law_due) = true
  F__law_said : Fun K "_law_said" "_law_said" s__law_said A.f__law_said A.d__law_said
  bi__law_said : Binds K A.d__law_said P__law_said []
  g__law_said : mg "_law_said" = some (.ref A.f__law_said)
  k__law_said : PySem.W.keepIn K (.ref A.f__law_said) = true
  F_law : Fun K "law" "law" s_law A.f_law A.d_law
  bi_law : Binds K A.d_law P_law []
  g_law : mg "law" = some (.ref A.f_law)
  k_law : PySem.W.keepIn K (.ref A.f_law) = true
  e0_ok : ∀ H : Hp, SqT K H A.e0 []
  e1_ok : ∀ H : Hp, SqT K H A.e1 []
  e2_ok : ∀ H : Hp, SqT K H A.e2 []
  e3_ok : ∀ H : Hp, SqT K H A.e3 []
  ty_Library : ∀ {H : Hp} {a dx : Addr} {fs : List (Str × V)}, H a = some (.ins A.C_Library dx fs) → TyX K H (.ref a) (.ref A.C_Library)
  ty_Store : ∀ {H : Hp} {a dx : Addr} {fs : List (Str × V)}, H a = some (.ins A.C_Store dx fs) → TyX K H (.ref a) (.ref A.C_Store)
  ex_NoName_Missing : PySem.W.exmOne K (.ref A.C_NoName) (.ref A.C_Missing) = some false
  ex_NoSymbol_Missing : PySem.W.exmOne K (.ref A.C_NoSymbol) (.ref A.C_Missing) = some false
  ex_NoSymbol_NoName : PySem.W.exmOne K (.ref A.C_NoSymbol) (.ref A.C_NoName) = some false
  cd_law : A.d_law.code = .ref A.c_law
structure TxtB (K : PySem.W.Frag) (mg : Str → Option Value) (A : Adr) (base : Heap) : Prop extends Txt K mg A where
  tb_law : LamX.TabB base mg A.c_law A.t_law
/-- the classes by number -/
abbrev ctA (K : PySem.W.Frag) (A : Adr) : FV.Ct := ⟨K, (fun i => ([A.C_LoadError, A.C_NoLibrary, A.C_NoStore, A.C_NoName, A.C_Missing, A.C_NoSymbol, 0, 0, 0, 0, A.C_Library, A.C_Store, 0, 0, 0] : List Addr).getD i 0), [(A.t_law, ("law" ++ ".<locals>." ++ "<lambda>" : Str))]⟩
open FV
/-- the attributes of a library, in the order of the stores -/
abbrev libK : List Str := ["name", "needs", "defines", "uses", "weak", "eager", "own_first"]
local macro_rules | `(tactic| walk_at "rd1") => `(tactic| with_reducible first
  | refine r_seq ?_ | refine r_next ?_ | refine r_asg ?_ | refine r_name ?_ | refine r_ret ?_ | refine r_retN ?_ | refine r_drop ?_ | refine r_if ?_
  | refine r_c ?_ | refine r_op ?_ | refine r_un ?_ | refine r_nil ?_ | refine r_cons ?_ | refine r_CB ?_ | refine r_call ?_ | refine r_test ?_ | refine r_B ?_
  | refine r_iteT (c := true) rfl ?_ | refine r_iteF (c := false) rfl ?_ | refine r_iteF (c := !true) rfl ?_ | refine r_iteT (c := !false) rfl ?_
  | refine r_not ?_ | refine r_and ?_ | refine r_or ?_ | refine r_notV ?_ | refine r_andV ?_ | refine r_orV ?_ | refine r_ifE ?_ | refine r_sub ?_ | refine r_tupT ?_ | refine r_lstT ?_
  | refine r_lc ?_ | refine r_iL ?_ | refine r_iT ?_ | refine r_iS ?_ | refine r_iR1 ?_ | refine r_iR2 ?_ | refine r_for ?_ | refine r_yes ?_ | refine r_inS ?_
  | refine r_fld ?_ | refine r_sfld ?_ | refine r_meth ?_ | refine r_make ?_ | refine r_makeK ?_ | refine r_vei ?_ | refine r_ost ?_ | refine r_mkx ?_
  | refine r_try ?_ | refine r_xa0 ?_ | refine r_iE ?_ | refine r_subO ?_ | refine r_tDIn ?_ | refine r_tDNotIn ?_ | refine r_tDGet ?_ | refine r_sDPut ?_ | refine r_bm ?_ | refine r_bm0 ?_ | refine r_rU ?_ | refine r_step ?_ | refine r_gnil ?_ | refine r_gcons ?_ | refine r_lstM ?_ | refine r_tupM ?_ | refine r_sl ?_ | refine r_noPart ?_ | refine r_part ?_ | refine r_intEx ?_ | refine r_chain ?_ | refine r_lenSetT ?_ | refine r_intB ?_ | refine r_I0 ?_ | refine r_par ?_ | refine r_sortSetL ?_ | refine r_pr2 ?_ | refine r_bl ?_
  | (refine r_var (v := ?rv_v) ?rv_h ?_; (case rv_h => with_unfolding_all rfl)))
local macro_rules | `(tactic| walk_at "rd") => `(tactic| repeat (walk_at "rd1"))
local macro_rules | `(tactic| walk_at "ht") => `(tactic| first
  | assumption
  | (refine' ht_ex ?ht_H ?ht_e ?ht_h; (case ht_e => assumption); (case ht_h => walk_at "ht"))
  | (refine' ht_sm ?ht_H ?ht_p ?ht_e ?ht_n ?ht_h; (case ht_e => assumption); (case ht_n => walk_at "ne"); (case ht_h => walk_at "ht"))
  | (refine' hl_ex ?ht_H ?ht_e ?ht_h; (case ht_e => assumption); (case ht_h => walk_at "ht"))
  | (refine' hl_sm ?ht_H ?ht_p ?ht_e ?ht_n ?ht_h; (case ht_e => assumption); (case ht_n => walk_at "ne"); (case ht_h => walk_at "ht"))
  | (refine' hl_at ?ht_h; (case ht_h => walk_at "ht"))
  | (refine' hq_ex ?ht_H ?ht_e ?ht_h; (case ht_e => assumption); (case ht_h => walk_at "ht"))
  | (refine' hq_at ?ht_h; (case ht_h => walk_at "ht"))
  | (refine' hw_ex ?ht_H ?ht_e ?ht_h; (case ht_e => assumption); (case ht_h => walk_at "ht"))
  | (refine' hw_sm ?ht_H ?ht_p ?ht_e ?ht_n ?ht_h; (case ht_e => assumption); (case ht_n => walk_at "ne"); (case ht_h => walk_at "ht")))
local macro_rules | `(tactic| walk_at "ne") => `(tactic| first
  | assumption
  | (refine' Ne.symm ?ht_n; (case ht_n => assumption))
  | (refine' ne_n1 ?ht_H ?ht_n ?ht_o ?ht_h; (case ht_n => assumption); (case ht_h => walk_at "ht"))
  | (refine' ne_n2 ?ht_H ?ht_n ?ht_o ?ht_h; (case ht_n => assumption); (case ht_h => walk_at "ht"))
  | (refine' ne_w1 ?ht_H ?ht_n ?ht_m ?ht_h; (case ht_n => assumption); (case ht_h => walk_at "ht"))
  | (refine' ne_w2 ?ht_H ?ht_n ?ht_m ?ht_h; (case ht_n => assumption); (case ht_h => walk_at "ht")))
local macro_rules | `(tactic| walk_at "sm") => `(tactic| first
  | exact Sm.refl | assumption
  | (refine' hs_ex ?ht_H ?ht_e ?ht_h; (case ht_e => assumption); (case ht_h => walk_at "sm"))
  | (refine' hs_sm ?ht_H ?ht_e ?ht_h; (case ht_e => assumption); (case ht_h => walk_at "sm"))
  | (refine' hs_new ?ht_H ?ht_l ?ht_e ?ht_n ?ht_h; (case ht_e => assumption); (case ht_n => walk_at "nn"); (case ht_h => walk_at "sm")))
local macro_rules | `(tactic| walk_at "nn") => `(tactic| first
  | assumption
  | (refine' hn_ex ?ht_H ?ht_n ?ht_e; (case ht_n => assumption); (case ht_e => walk_at "he"))
  | (refine' hn_sm ?ht_H ?ht_p ?ht_n ?ht_e ?ht_q; (case ht_n => assumption); (case ht_e => walk_at "sm"); (case ht_q => walk_at "ne")))
local macro_rules | `(tactic| walk_at "he") => `(tactic| first
  | exact Ex.refl _ | assumption
  | (refine' he_ex ?ht_H ?ht_e ?ht_h; (case ht_e => assumption); (case ht_h => walk_at "he"))
  | (refine' he_new ?ht_H ?ht_l ?ht_e ?ht_n ?ht_h; (case ht_e => assumption); (case ht_n => walk_at "nn"); (case ht_h => walk_at "he")))
section
variable {P : Program} {w : World} {K : PySem.W.Frag} {mg : Str → Option Value} {base : Heap} {A : Adr}
theorem kb2_Library___init__ (T : TxtB K mg A base) : ∃ mv : List Value, KBn K A.d_Library___init__ P_Library___init__ 2 ["needs", "defines", "uses", "weak", "eager", "own_first"] (fun us ws => us ++ ws) (fun vs zs => vs ++ zs) := by
  refine T.F_Library___init__.kbinds0 2 ["needs", "defines", "uses", "weak", "eager", "own_first"] [] (fun us _ ws => us ++ ws) (fun z => by cases z) (fun q hq => nomatch hq) (fun r _ rz => r.append rz) (fun D doc pm an cdv ct us mv ws l1 l2 l3 => ?_)
  match us, l1, mv, l2, ws, l3 with
  | [_, _], _, [], _, [_, _, _, _, _, _], _ => rfl
theorem ok__law_well (T : TxtB K mg A base) : FnOk P w K mg base CX0 1 A.f__law_well A.d__law_well P__law_well (FV.spF (ctA K A) 1 f__law_well) := by
  refine T.F__law_well.ok sc__law_well (fun _ _ _ _ h => FV.spF_len h) (fun cdv Ar outer s H vs Q E hr h => ?_)
  have hu := hu_of hr
  refine ⟨_, (pss_one (ps_ret (pe_lstM (pa_cons (pe_op op_mul (pv 0) (pe_callTy call_intQ (by rfl) T.b_int (by decide +kernel) (pa_cons (pe_cmpR op_ge (pv 0) (pe_op op_pow pe_int pe_int) (nomark _)) pa_nil))) (pa_cons (pe_op op_modN (pv 0) pe_int) (pa_cons pe_int pa_nil)))))), ?_⟩
  exact FV.body_ok (c := ctA K A) (N := N__law_well) (n := 1) (ms := [false]) (B := b__law_well) (E0 := E) ((js_ret (je_lst (ja_cons (je_op jo_mulI (je_var (i := 0)) (je_cb jc_int (ja_cons (je_op jo_ge (je_var (i := 0)) (je_op jo_pow (je_c (x := .int 10) fun _ => .int) (je_c (x := .int 18) fun _ => .int))) ja_nil))) (ja_cons (je_op jo_mod (je_var (i := 0)) (je_c (x := .int 2147483647) fun _ => .int)) (ja_cons (je_c (x := .int 0) fun _ => .int) ja_nil)))))) (by decide) h
theorem ok__law_draw (T : TxtB K mg A base) : FnOk P w K mg base CX0 1 A.f__law_draw A.d__law_draw P__law_draw (FV.spF (ctA K A) 2 f__law_draw) := by
  refine T.F__law_draw.ok sc__law_draw (fun _ _ _ _ h => FV.spF_len h) (fun cdv Ar outer s H vs Q E hr h => ?_)
  have hu := hu_of hr
  refine ⟨_, (pss_cons (ps_if (pt_cmpR op_gt (pe_or2 (pe_ix (FV.ix_seqK K rfl) (pv 0) pe_int (fun _ _ => rfl)) (pe_dget hu (pv 0) pe_int (fun _ _ => rfl))) pe_int (nomark _))
        (pss_cons (ps_set (i := 2) sc__law_draw.nd rfl (Or.inl rfl) (pe_op op_modN (pe_or2 (pe_ix (FV.ix_seqK K rfl) (pv 0) pe_int (fun _ _ => rfl)) (pe_dget hu (pv 0) pe_int (fun _ _ => rfl))) (pv 1)))
      (pss_cons (ps_asg (pe_op op_fdivN (pe_or2 (pe_ix (FV.ix_seqK K rfl) (pv 0) pe_int (fun _ _ => rfl)) (pe_dget hu (pv 0) pe_int (fun _ _ => rfl))) (pv 1)) (pg_sub (pv 0) pe_int set_list))
      (pss_one (ps_ret (pv 2)))))
        pss_nil)
      (pss_cons (ps_asg (pe_op (op_addU K rfl) (pe_or2 (pe_ix (FV.ix_seqK K rfl) (pv 0) pe_int (fun _ _ => rfl)) (pe_dget hu (pv 0) pe_int (fun _ _ => rfl))) pe_int) (pg_sub (pv 0) pe_int set_list))
      (pss_cons (ps_set (i := 3) sc__law_draw.nd rfl (Or.inl rfl) (pe_or2 (pe_ix (FV.ix_seqK K rfl) (pe_lstM (pa_cons pe_int (pa_cons pe_int (pa_cons pe_int (pa_cons pe_int (pa_cons pe_int (pa_cons pe_int (pa_cons pe_int pa_nil)))))))) (pe_op op_modN (pe_or2 (pe_ix (FV.ix_seqK K rfl) (pv 0) pe_int (fun _ _ => rfl)) (pe_dget hu (pv 0) pe_int (fun _ _ => rfl))) pe_int) (fun _ _ => rfl)) (pe_dget hu (pe_lstM (pa_cons pe_int (pa_cons pe_int (pa_cons pe_int (pa_cons pe_int (pa_cons pe_int (pa_cons pe_int (pa_cons pe_int pa_nil)))))))) (pe_op op_modN (pe_or2 (pe_ix (FV.ix_seqK K rfl) (pv 0) pe_int (fun _ _ => rfl)) (pe_dget hu (pv 0) pe_int (fun _ _ => rfl))) pe_int) (fun _ _ => rfl))))
      (pss_cons (ps_set (i := 4) sc__law_draw.nd rfl (Or.inl rfl) (pe_op op_modN (pe_op op_pow (pe_op (op_addU K rfl) (pe_op (op_addU K rfl) (pe_or2 (pe_ix (FV.ix_seqK K rfl) (pv 0) pe_int (fun _ _ => rfl)) (pe_dget hu (pv 0) pe_int (fun _ _ => rfl))) (pe_op op_mul pe_int (pe_or2 (pe_ix (FV.ix_seqK K rfl) (pv 0) pe_int (fun _ _ => rfl)) (pe_dget hu (pv 0) pe_int (fun _ _ => rfl))))) pe_int) pe_int) (pv 3)))
      (pss_cons (ps_set (i := 4) sc__law_draw.nd rfl (Or.inl rfl) (pe_op op_modN (pe_op op_mul (pe_op (op_addU K rfl) (pv 4) (pe_or2 (pe_ix (FV.ix_seqK K rfl) (pv 0) pe_int (fun _ _ => rfl)) (pe_dget hu (pv 0) pe_int (fun _ _ => rfl)))) (pe_op (op_addU K rfl) (pe_op op_fdivN (pv 4) pe_int) pe_int)) (pv 3)))
      (pss_one (ps_ret (pe_op op_modN (pe_op op_fdivN (pv 4) pe_int) (pv 1))))))))), ?_⟩
  exact FV.body_ok (c := ctA K A) (N := N__law_draw) (n := 2) (ms := [false, false, true, true, true]) (B := b__law_draw) (E0 := E) ((js_seq (js_if (jt_W [] (jt_test (je_op jo_gt (je_sub (je_var (i := 0)) (je_c (x := .int 0) fun _ => .int)) (je_c (x := .int 0) fun _ => .int))))
        (js_seq (js_Wa [false, false, true] (js_set (i := 2) (je_op jo_mod (je_sub (je_var (i := 0)) (je_c (x := .int 0) fun _ => .int)) (je_var (i := 1)))))
      (js_seq (js_setL (ln_var (i := 0)) (je_c (x := .int 0) fun _ => .int) (je_W [] (je_op jo_fdiv (je_sub (je_var (i := 0)) (je_c (x := .int 0) fun _ => .int)) (je_var (i := 1)))) [])
      (js_ret (je_move (i := 2)))))
        js_next)
      (js_seq (js_setL (ln_var (i := 0)) (je_c (x := .int 2) fun _ => .int) (je_W [] (je_op jo_add (je_sub (je_var (i := 0)) (je_c (x := .int 2) fun _ => .int)) (je_c (x := .int 1) fun _ => .int))) [])
      (js_seq (js_Wa [false, false, false, true] (js_set (i := 3) (je_sub (je_lst (ja_cons (je_c (x := .int 2147483647) fun _ => .int) (ja_cons (je_c (x := .int 2147483629) fun _ => .int) (ja_cons (je_c (x := .int 2147483587) fun _ => .int) (ja_cons (je_c (x := .int 2147483579) fun _ => .int) (ja_cons (je_c (x := .int 2147483563) fun _ => .int) (ja_cons (je_c (x := .int 2147483549) fun _ => .int) (ja_cons (je_c (x := .int 2147483543) fun _ => .int) ja_nil)))))))) (je_op jo_mod (je_sub (je_var (i := 0)) (je_c (x := .int 2) fun _ => .int)) (je_c (x := .int 7) fun _ => .int)))))
      (js_seq (js_Wa [false, false, false, false, true] (js_set (i := 4) (je_op jo_mod (je_op jo_pow (je_op jo_add (je_op jo_add (je_sub (je_var (i := 0)) (je_c (x := .int 1) fun _ => .int)) (je_op jo_mulI (je_c (x := .int 7919) fun _ => .int) (je_sub (je_var (i := 0)) (je_c (x := .int 2) fun _ => .int)))) (je_c (x := .int 1) fun _ => .int)) (je_c (x := .int 5) fun _ => .int)) (je_var (i := 3)))))
      (js_seq (js_Wa [false, false, false, false, true] (js_set (i := 4) (je_op jo_mod (je_op jo_mulI (je_op jo_add (je_var (i := 4)) (je_sub (je_var (i := 0)) (je_c (x := .int 2) fun _ => .int))) (je_op jo_add (je_op jo_fdiv (je_var (i := 4)) (je_c (x := .int 1009) fun _ => .int)) (je_c (x := .int 69621) fun _ => .int))) (je_var (i := 3)))))
      (js_ret (je_op jo_mod (je_op jo_fdiv (je_var (i := 4)) (je_c (x := .int 7) fun _ => .int)) (je_var (i := 1)))))))))) (by decide) h
theorem ok__law_spec (T : TxtB K mg A base) : FnOk P w K mg base CX0 2 A.f__law_spec A.d__law_spec P__law_spec (FV.spF (ctA K A) 2 f__law_spec) := by
  refine T.F__law_spec.ok sc__law_spec (fun _ _ _ _ h => FV.spF_len h) (fun cdv Ar outer s H vs Q E hr h => ?_)
  have hu := hu_of hr
  refine ⟨_, (pss_cons (ps_set (i := 2) sc__law_spec.nd rfl (Or.inl rfl) (pe_lstM (pa_cons pe_str (pa_cons pe_str (pa_cons pe_str (pa_cons pe_str (pa_cons pe_str (pa_cons pe_str (pa_cons pe_str (pa_cons pe_str (pa_cons pe_str (pa_cons pe_str pa_nil))))))))))))
      (pss_cons (ps_set (i := 2) sc__law_spec.nd rfl (Or.inl rfl) (pe_slice (sl_U K rfl) (pv 2) po_none (po_some (pe_op (op_addU K rfl) pe_int (pe_call (ok__law_draw T) (hr.mono (by decide)) (by rfl) T.g__law_draw T.k__law_draw T.bi__law_draw .nil pass0 (pa_cons (pv 0) (pa_cons (pe_op op_sub (pv 1) pe_int) pa_nil)))))))
      (pss_cons (ps_set (i := 3) sc__law_spec.nd rfl (Or.inl rfl) (pe_lstM (pa_cons pe_str (pa_cons pe_str (pa_cons pe_str (pa_cons pe_str (pa_cons pe_str (pa_cons pe_str pa_nil))))))))
      (pss_cons (ps_set (i := 4) sc__law_spec.nd rfl (Or.inl rfl) pe_dnewK)
      (pss_cons (ps_for PassesOwn.never rfl (pi_seq K rfl (pv 2)) (pg_name (i := 5) sc__law_spec.nd rfl (Or.inr rfl))
        (pss_cons (ps_setLcM (i := 6) (own := [("_law_other", 7)]) rfl sc__law_spec.nd rfl rfl (sw_true rfl rfl rfl (by decide +kernel)) (pi_seq K rfl (pv 2)) (blkOk_by (N := N__law_spec) (sc := defScope s__law_spec) (by decide +kernel)) (fun _ _ _ _ _ => (pg_name (i := 7) sc__law_spec.nd rfl (Or.inl rfl))) (fun _ _ _ _ _ => (pts_one (PW.pt (pw_and (pt_cmpR (k_neU2 K rfl hr.units) (pv 7) (pv 5) (nomark _)) (pw_and1 (pt_cmpR (k_eqU2 K rfl hr.units) (pe_call (ok__law_draw T) (hr.mono (by decide)) (by rfl) T.g__law_draw T.k__law_draw T.bi__law_draw .nil pass0 (pa_cons (pv 0) (pa_cons pe_int pa_nil))) pe_int (nomark _))))))) (fun _ _ _ _ _ => (pv 7)))
      (pss_cons (ps_setLcM (i := 8) (own := [("_law_symbol", 9)]) rfl sc__law_spec.nd rfl rfl (sw_true rfl rfl rfl (by decide +kernel)) (pi_seq K rfl (pv 3)) (blkOk_by (N := N__law_spec) (sc := defScope s__law_spec) (by decide +kernel)) (fun _ _ _ _ _ => (pg_name (i := 9) sc__law_spec.nd rfl (Or.inl rfl))) (fun _ _ _ _ _ => (pts_one (pt_cmpR (k_eqU2 K rfl hr.units) (pe_call (ok__law_draw T) (hr.mono (by decide)) (by rfl) T.g__law_draw T.k__law_draw T.bi__law_draw .nil pass0 (pa_cons (pv 0) (pa_cons pe_int pa_nil))) pe_int (nomark _)))) (fun _ _ _ _ _ => (pv 9)))
      (pss_cons (ps_setLcM (i := 10) (own := [("_law_symbol", 9)]) rfl sc__law_spec.nd rfl rfl (sw_true rfl rfl rfl (by decide +kernel)) (pi_seq K rfl (pv 3)) (blkOk_by (N := N__law_spec) (sc := defScope s__law_spec) (by decide +kernel)) (fun _ _ _ _ _ => (pg_name (i := 9) sc__law_spec.nd rfl (Or.inl rfl))) (fun _ _ _ _ _ => (pts_one (pt_cmpR (k_eqU2 K rfl hr.units) (pe_call (ok__law_draw T) (hr.mono (by decide)) (by rfl) T.g__law_draw T.k__law_draw T.bi__law_draw .nil pass0 (pa_cons (pv 0) (pa_cons pe_int pa_nil))) pe_int (nomark _)))) (fun _ _ _ _ _ => (pv 9)))
      (pss_cons (ps_setLcM (i := 11) (own := [("_law_symbol", 9)]) rfl sc__law_spec.nd rfl rfl (sw_true rfl rfl rfl (by decide +kernel)) (pi_seq K rfl (pv 10)) (blkOk_by (N := N__law_spec) (sc := defScope s__law_spec) (by decide +kernel)) (fun _ _ _ _ _ => (pg_name (i := 9) sc__law_spec.nd rfl (Or.inl rfl))) (fun _ _ _ _ _ => (pts_one (pt_cmpR (k_eqU2 K rfl hr.units) (pe_call (ok__law_draw T) (hr.mono (by decide)) (by rfl) T.g__law_draw T.k__law_draw T.bi__law_draw .nil pass0 (pa_cons (pv 0) (pa_cons pe_int pa_nil))) pe_int (nomark _)))) (fun _ _ _ _ _ => (pv 9)))
      (pss_cons (ps_if (pt_cmpR (k_eqU2 K rfl hr.units) (pe_call (ok__law_draw T) (hr.mono (by decide)) (by rfl) T.g__law_draw T.k__law_draw T.bi__law_draw .nil pass0 (pa_cons (pv 0) (pa_cons pe_int pa_nil))) pe_int (nomark _))
        (pss_one (ps_par3 (i := 6) (j := 8) (l := 10) (by rfl) sc__law_spec.nd rfl rfl rfl (by decide) (by decide) (by decide) rfl rfl rfl (pa_cons (pe_stepL (K := K) rfl (pv 6) (pe_un un_neg pe_int)) (pa_cons (pe_stepL (K := K) rfl (pv 8) (pe_un un_neg pe_int)) (pa_cons (pe_stepL (K := K) rfl (pv 10) (pe_un un_neg pe_int)) pa_nil))) (by rfl)))
        pss_nil)
      (pss_one (ps_dput hu (pv 4) (pv 5) (pe_tupM (pa_cons (pv 6) (pa_cons (pv 8) (pa_cons (pv 10) (pa_cons (pv 11) (pa_cons (pe_cmpR (k_eqU2 K rfl hr.units) (pe_call (ok__law_draw T) (hr.mono (by decide)) (by rfl) T.g__law_draw T.k__law_draw T.bi__law_draw .nil pass0 (pa_cons (pv 0) (pa_cons pe_int pa_nil))) pe_int (nomark _)) (pa_cons (pe_cmpR (k_eqU2 K rfl hr.units) (pe_call (ok__law_draw T) (hr.mono (by decide)) (by rfl) T.g__law_draw T.k__law_draw T.bi__law_draw .nil pass0 (pa_cons (pv 0) (pa_cons pe_int pa_nil))) pe_int (nomark _)) pa_nil))))))) rfl))))))))
      (pss_one (ps_ret (pv 4)))))))), ?_⟩
  exact FV.body_ok (c := ctA K A) (N := N__law_spec) (n := 2) (ms := [false, false, true, true, true, true, true, true, true, true, true, true]) (B := b__law_spec) (E0 := E) ((js_seq (js_set (i := 2) (je_fz (je_lst (ja_cons (je_c (x := .str "app") fun _ => .str) (ja_cons (je_c (x := .str "base") fun _ => .str) (ja_cons (je_c (x := .str "core") fun _ => .str) (ja_cons (je_c (x := .str "disk") fun _ => .str) (ja_cons (je_c (x := .str "edit") fun _ => .str) (ja_cons (je_c (x := .str "font") fun _ => .str) (ja_cons (je_c (x := .str "grid") fun _ => .str) (ja_cons (je_c (x := .str "hash") fun _ => .str) (ja_cons (je_c (x := .str "icon") fun _ => .str) (ja_cons (je_c (x := .str "jar") fun _ => .str) ja_nil)))))))))))))
      (js_seq (js_set (i := 2) (je_fz (je_sl (je_var (i := 2)) jpo_none (jpo_some (je_op jo_add (je_c (x := .int 2) fun _ => .int) (je_q (je_call (n := 2) (jm_slot 0 (jm_val (je_op jo_sub (je_var (i := 1)) (je_c (x := .int 1) fun _ => .int)) jm_nil)))))))))
      (js_seq (js_set (i := 3) (je_fz (je_lst (ja_cons (je_c (x := .str "put") fun _ => .str) (ja_cons (je_c (x := .str "get") fun _ => .str) (ja_cons (je_c (x := .str "len") fun _ => .str) (ja_cons (je_c (x := .str "map") fun _ => .str) (ja_cons (je_c (x := .str "cut") fun _ => .str) (ja_cons (je_c (x := .str "zip") fun _ => .str) ja_nil)))))))))
      (js_seq (js_set (i := 4) je_dnewK)
      (js_seq (js_for (ji_seq (je_var (i := 2))) (jg_name (i := 5))
        (js_seq (js_set (i := 6) (je_fz (je_comp (ms := maskL 12 [7]) (ji_seq (je_var (i := 2))) (jg_name (i := 7)) (jt_and (jt_test (je_op jo_ne2 (je_var (i := 7)) (je_var (i := 5)))) (jt_test (je_op jo_eq2 (je_q (je_call (n := 2) (jm_slot 0 (jm_val (je_c (x := .int 4) fun _ => .int) jm_nil)))) (je_c (x := .int 0) fun _ => .int)))) (je_var (i := 7)) onlyAt_mask)))
      (js_seq (js_set (i := 8) (je_fz (je_comp (ms := maskL 12 [9]) (ji_seq (je_var (i := 3))) (jg_name (i := 9)) (jt_test (je_op jo_eq2 (je_q (je_call (n := 2) (jm_slot 0 (jm_val (je_c (x := .int 3) fun _ => .int) jm_nil)))) (je_c (x := .int 0) fun _ => .int))) (je_var (i := 9)) onlyAt_mask)))
      (js_seq (js_set (i := 10) (je_fz (je_comp (ms := maskL 12 [9]) (ji_seq (je_var (i := 3))) (jg_name (i := 9)) (jt_test (je_op jo_eq2 (je_q (je_call (n := 2) (jm_slot 0 (jm_val (je_c (x := .int 2) fun _ => .int) jm_nil)))) (je_c (x := .int 0) fun _ => .int))) (je_var (i := 9)) onlyAt_mask)))
      (js_seq (js_set (i := 11) (je_fz (je_comp (ms := maskL 12 [9]) (ji_seq (je_var (i := 10))) (jg_name (i := 9)) (jt_test (je_op jo_eq2 (je_q (je_call (n := 2) (jm_slot 0 (jm_val (je_c (x := .int 3) fun _ => .int) jm_nil)))) (je_c (x := .int 0) fun _ => .int))) (je_var (i := 9)) onlyAt_mask)))
      (js_seq (js_if (jt_test (je_op jo_eq2 (je_q (je_call (n := 2) (jm_slot 0 (jm_val (je_c (x := .int 2) fun _ => .int) jm_nil)))) (je_c (x := .int 0) fun _ => .int)))
        (js_par3 (i := 6) (j := 8) (l := 10) (ja_cons (je_fz (je_step (je_var (i := 6)) (je_un ju_neg (je_c (x := .int 1) fun _ => .int)))) (ja_cons (je_fz (je_step (je_var (i := 8)) (je_un ju_neg (je_c (x := .int 1) fun _ => .int)))) (ja_cons (je_fz (je_step (je_var (i := 10)) (je_un ju_neg (je_c (x := .int 1) fun _ => .int)))) ja_nil))))
        js_next)
      (js_dput (ln_var (i := 4)) (je_var (i := 5)) (je_tup (ja_cons (je_var (i := 6)) (ja_cons (je_var (i := 8)) (ja_cons (je_var (i := 10)) (ja_cons (je_var (i := 11)) (ja_cons (je_op jo_eq2 (je_q (je_call (n := 2) (jm_slot 0 (jm_val (je_c (x := .int 3) fun _ => .int) jm_nil)))) (je_c (x := .int 0) fun _ => .int)) (ja_cons (je_op jo_eq2 (je_q (je_call (n := 2) (jm_slot 0 (jm_val (je_c (x := .int 4) fun _ => .int) jm_nil)))) (je_c (x := .int 0) fun _ => .int)) ja_nil))))))) [])))))))
      (js_ret (je_move (i := 4))))))))) (by decide) h
theorem ok__law_one (T : TxtB K mg A base) : FnOk P w K mg base CX0 2 A.f__law_one A.d__law_one P__law_one (FV.spF (ctA K A) 2 f__law_one) := by
  refine T.F__law_one.ok sc__law_one (fun _ _ _ _ h => FV.spF_len h) (fun cdv Ar outer s H vs Q E hr h => ?_)
  have hu := hu_of hr
  refine ⟨_, (pss_one (ps_ret (pe_or2 (pe_ix (FV.ix_seqK K rfl) (pv 1) (pe_call (ok__law_draw T) (hr.mono (by decide)) (by rfl) T.g__law_draw T.k__law_draw T.bi__law_draw .nil pass0 (pa_cons (pv 0) (pa_cons (pe_callB (k_lenU K rfl) (by rfl) T.b_len (by decide +kernel) (pa_cons (pv 1) pa_nil)) pa_nil))) (fun _ _ => rfl)) (pe_dget hu (pv 1) (pe_call (ok__law_draw T) (hr.mono (by decide)) (by rfl) T.g__law_draw T.k__law_draw T.bi__law_draw .nil pass0 (pa_cons (pv 0) (pa_cons (pe_callB (k_lenU K rfl) (by rfl) T.b_len (by decide +kernel) (pa_cons (pv 1) pa_nil)) pa_nil))) (fun _ _ => rfl))))), ?_⟩
  exact FV.body_ok (c := ctA K A) (N := N__law_one) (n := 2) (ms := [false, false]) (B := b__law_one) (E0 := E) ((js_ret (je_sub (je_var (i := 1)) (je_q (je_call (n := 2) (jm_slot 0 (jm_val (je_cb jc_len (ja_cons (je_var (i := 1)) ja_nil)) jm_nil))))))) (by decide) h
theorem ok__law_row (T : TxtB K mg A base) : FnOk P w K mg base CX0 3 A.f__law_row A.d__law_row P__law_row (FV.spF (ctA K A) 1 f__law_row) := by
  refine T.F__law_row.ok sc__law_row (fun _ _ _ _ h => FV.spF_len h) (fun cdv Ar outer s H vs Q E hr h => ?_)
  have hu := hu_of hr
  refine ⟨_, (pss_cons (ps_setLcM (i := 1) (own := [("_law_k", 2)]) (tt := tYes) rfl sc__law_row.nd rfl rfl (sw_true rfl rfl rfl (by decide +kernel)) (pi_range1 (by rfl) T.b_range (pa_cons pe_int pa_nil)) (blkOk_by (N := N__law_row) (sc := defScope s__law_row) (by decide +kernel)) (fun _ _ _ _ _ => (pg_name (i := 2) sc__law_row.nd rfl (Or.inl rfl))) (fun _ _ _ _ _ => pts_nil) (fun _ _ _ _ _ => (pe_op (op_addU K rfl) (pe_op (op_addU K rfl) pe_str (pe_or2 (pe_ix (FV.ix_seqK K rfl) pe_str (pe_op op_fdivN (pv 2) pe_int) (fun _ _ => rfl)) (pe_dget hu pe_str (pe_op op_fdivN (pv 2) pe_int) (fun _ _ => rfl)))) (pe_or2 (pe_ix (FV.ix_seqK K rfl) pe_str (pe_op op_modN (pv 2) pe_int) (fun _ _ => rfl)) (pe_dget hu pe_str (pe_op op_modN (pv 2) pe_int) (fun _ _ => rfl))))))
      (pss_cons (ps_set (i := 3) sc__law_row.nd rfl (Or.inl rfl) pe_dnewK)
      (pss_cons (ps_for PassesOwn.never rfl (pi_enum (by rfl) T.b_enumerate (pa_cons (pv 1) pa_nil)) (k_gtup (n := 2) K rfl (by rfl) (pgs_cons (pg_name (i := 2) sc__law_row.nd rfl (Or.inl rfl)) (pgs_cons (pg_name (i := 4) sc__law_row.nd rfl (Or.inl rfl)) pgs_nil)))
        (pss_cons (ps_set (i := 5) sc__law_row.nd rfl (Or.inl rfl) (pe_lstM (pa_cons (pe_or2 (pe_ix (FV.ix_seqK K rfl) (pv 1) (pe_op op_modN (pe_op (op_addU K rfl) (pv 2) pe_int) pe_int) (fun _ _ => rfl)) (pe_dget hu (pv 1) (pe_op op_modN (pe_op (op_addU K rfl) (pv 2) pe_int) pe_int) (fun _ _ => rfl))) pa_nil)))
      (pss_cons (ps_for PassesOwn.never rfl (pi_range1 (by rfl) T.b_range (pa_cons (pe_call (ok__law_draw T) (hr.mono (by decide)) (by rfl) T.g__law_draw T.k__law_draw T.bi__law_draw .nil pass0 (pa_cons (pv 0) (pa_cons pe_int pa_nil))) pa_nil)) (pg_name (i := 6) sc__law_row.nd rfl (Or.inl rfl))
        (pss_cons (ps_set (i := 7) sc__law_row.nd rfl (Or.inl rfl) (pe_call (ok__law_one T) (hr.mono (by decide)) (by rfl) T.g__law_one T.k__law_one T.bi__law_one .nil pass0 (pa_cons (pv 0) (pa_cons (pv 1) pa_nil))))
      (pss_one (ps_if (PW.pt (pw_and (pt_cmpR (k_neU2 K rfl hr.units) (pv 7) (pv 4) (nomark _)) (pw_and1 (pt_or2 (pt_cmpR (k_notIn K rfl) (pv 7) (pv 5) (by rfl)) (pt_cmp (pc_dnotin hu (pv 7) (pv 5)))))))
        (pss_one (ps_set (i := 5) sc__law_row.nd rfl (Or.inl rfl) (pe_op (op_addU K rfl) (pe_lstM (pa_cons (pv 7) pa_nil)) (pv 5))))
        pss_nil))))
      (pss_one (ps_dput hu (pv 3) (pv 4) (pe_tupM (pa_cons (pv 5) (pa_cons (pe_op op_rep (pe_lstM (pa_cons pe_str pa_nil)) (pe_call (ok__law_draw T) (hr.mono (by decide)) (by rfl) T.g__law_draw T.k__law_draw T.bi__law_draw .nil pass0 (pa_cons (pv 0) (pa_cons pe_int pa_nil)))) (pa_cons (pe_lstM pa_nil) (pa_cons (pe_lstM pa_nil) (pa_cons (pe_cmpR (k_eqU2 K rfl hr.units) pe_int pe_int (nomark _)) (pa_cons (pe_cmpR (k_eqU2 K rfl hr.units) pe_int pe_int (nomark _)) pa_nil))))))) rfl)))))
      (pss_one (ps_ret (pv 3)))))), ?_⟩
  exact FV.body_ok (c := ctA K A) (N := N__law_row) (n := 1) (ms := [false, true, true, true, true, true, true, true]) (B := b__law_row) (E0 := E) ((js_seq (js_set (i := 1) (je_fz (je_comp (ms := maskL 8 [2]) (ji_range1 (ja_cons (je_c (x := .int 40) fun _ => .int) ja_nil)) (jg_name (i := 2)) jt_yes (je_op jo_add (je_op jo_add (je_c (x := .str "x") fun _ => .str) (je_sub (je_c (x := .str "abcdefghij") fun _ => .str) (je_op jo_fdiv (je_var (i := 2)) (je_c (x := .int 10) fun _ => .int)))) (je_sub (je_c (x := .str "abcdefghij") fun _ => .str) (je_op jo_mod (je_var (i := 2)) (je_c (x := .int 10) fun _ => .int)))) onlyAt_mask)))
      (js_seq (js_set (i := 3) je_dnewK)
      (js_seq (js_for (ji_enum (ja_cons (je_var (i := 1)) ja_nil)) (jg_tup (n := 2) (jgs_cons (jg_name (i := 2)) (jgs_cons (jg_name (i := 4)) jgs_nil)))
        (js_seq (js_set (i := 5) (je_fz (je_lst (ja_cons (je_sub (je_var (i := 1)) (je_op jo_mod (je_op jo_add (je_var (i := 2)) (je_c (x := .int 1) fun _ => .int)) (je_c (x := .int 40) fun _ => .int))) ja_nil))))
      (js_seq (js_for (ji_range1 (ja_cons (je_q (je_call (n := 2) (jm_slot 0 (jm_val (je_c (x := .int 4) fun _ => .int) jm_nil)))) ja_nil)) (jg_name (i := 6))
        (js_seq (js_set (i := 7) (je_q (je_call (n := 2) (jm_slot 0 (jm_val (je_var (i := 1)) jm_nil)))))
      (js_if (jt_and (jt_test (je_op jo_ne2 (je_var (i := 7)) (je_var (i := 4)))) (jt_notIn (je_var (i := 7)) (je_var (i := 5))))
        (js_set (i := 5) (je_fz (je_op jo_add (je_lst (ja_cons (je_var (i := 7)) ja_nil)) (je_var (i := 5)))))
        js_next)))
      (js_dput (ln_var (i := 3)) (je_var (i := 4)) (je_tup (ja_cons (je_var (i := 5)) (ja_cons (je_op jo_rep (je_lst (ja_cons (je_c (x := .str "put") fun _ => .str) ja_nil)) (je_q (je_call (n := 2) (jm_slot 0 (jm_val (je_c (x := .int 2) fun _ => .int) jm_nil))))) (ja_cons (je_lst ja_nil) (ja_cons (je_lst ja_nil) (ja_cons (je_op jo_eq2 (je_c (x := .int 1) fun _ => .int) (je_c (x := .int 0) fun _ => .int)) (ja_cons (je_op jo_eq2 (je_c (x := .int 1) fun _ => .int) (je_c (x := .int 0) fun _ => .int)) ja_nil))))))) []))))
      (js_ret (je_move (i := 3))))))) (by decide) h
theorem ok_is_word (T : TxtB K mg A base) : FnOk P w K mg base CX0 1 A.f_is_word A.d_is_word P_is_word (FV.spF (ctA K A) 1 f_is_word) := by
  refine T.F_is_word.ok sc_is_word (fun _ _ _ _ h => FV.spF_len h) (fun cdv Ar outer s H vs Q E hr h => ?_)
  have hu := hu_of hr
  obtain ⟨u_LETTERS, h_LETTERS, r_LETTERS⟩ := T.c_LETTERS
  refine ⟨_, (pss_one (ps_ret (pe_and (pe_callB (k_isi K rfl) (by rfl) T.b_isinstance (by decide +kernel) (pa_cons (pv 0) (pa_cons (pe_bltn (v := .ty "str") (by rfl) T.b_str (by decide +kernel) rfl) pa_nil))) (pe_and (pe_chain op_le op_le pe_int (pe_callB (k_lenU K rfl) (by rfl) T.b_len (by decide +kernel) (pa_cons (pv 0) pa_nil)) pe_int) (pe_one (pe_callB (k_all K rfl rfl) (by rfl) T.b_all (by decide +kernel) (pa_cons (pe_lcM (own := [("letter", 1)]) (tt := tYes) rfl sc_is_word.nd (pi_str (pv 0)) (blkOk_by (N := N_is_word) (sc := defScope s_is_word) (by decide +kernel)) (fun _ _ _ _ _ => (pg_name (i := 1) sc_is_word.nd rfl (Or.inl rfl))) (fun _ _ _ _ _ => pts_nil) (fun _ _ _ _ _ => (pe_cmpR op_inS (pv 1) (pe_glob (by rfl) h_LETTERS r_LETTERS) (by rfl)))) pa_nil))))))), ?_⟩
  exact FV.body_ok (c := ctA K A) (N := N_is_word) (n := 1) (ms := [false, true]) (B := b_is_word) (E0 := E) ((js_ret (je_andV (je_cb jc_isi (ja_cons (je_var (i := 0)) (ja_cons (je_c (x := .raw (.ty "str")) fun _ => .raw) ja_nil))) (je_andV (je_chain jo_le jo_le (je_c (x := .int 1) fun _ => .int) (je_cb jc_len (ja_cons (je_var (i := 0)) ja_nil)) (je_c (x := .int 12) fun _ => .int) (sc := fun s e k => sc_lt rfl s e k)) (je_cb jc_all (ja_cons (je_comp (ms := maskL 2 [1]) (ji_str (je_var (i := 0))) (jg_name (i := 1)) jt_yes (je_op jo_inS (je_var (i := 1)) (je_c (x := .str "abcdefghijklmnopqrstuvwxyz") fun _ => .str)) onlyAt_mask) ja_nil)))))) (by decide) h
abbrev sp_NoLibrary___init__ (K : PySem.W.Frag) (A : Adr) : Sp := spXi K A.C_NoLibrary "part"
theorem ok_NoLibrary___init__ (T : TxtB K mg A base) : FnOk P w K mg base CX0 1 A.f_NoLibrary___init__ A.d_NoLibrary___init__ P_NoLibrary___init__ (sp_NoLibrary___init__ K A) := by
  refine T.F_NoLibrary___init__.ok sc_NoLibrary___init__ (fun vs H Q E h => ?_) (fun cdv Ar outer s H vs Q E hr h => ?_)
  · obtain ⟨a, v, rfl, _⟩ := h; rfl
  · have hu := hu_of hr
    refine ⟨_, (pss_cons (ps_expr (pe_linit T.ld (by rfl) (pa_cons (pv 0) (pa_cons pe_str pa_nil))))
        (pss_one (ps_ost (pv 0) (pv 1)))), ?_⟩
    obtain ⟨a, v, rfl, ha, k⟩ := h
    walk_at "rd"
    refine ⟨a, A.C_NoLibrary, _, rfl, by simp, T.x_NoLibrary.o, ha, ?_⟩
    walk_at "rd"
    exact ⟨a, A.C_NoLibrary, rfl, T.x_NoLibrary.o, T.x_NoLibrary.no, .inl ⟨ha, fun dx nd ne => k dx nd ne⟩⟩
theorem ok_are_words (T : TxtB K mg A base) : FnOk P w K mg base CX0 2 A.f_are_words A.d_are_words P_are_words (FV.spF (ctA K A) 2 f_are_words) := by
  refine T.F_are_words.ok sc_are_words (fun _ _ _ _ h => FV.spF_len h) (fun cdv Ar outer s H vs Q E hr h => ?_)
  have hu := hu_of hr
  refine ⟨_, (pss_cons (ps_if (PW.pt (pw_or (pt_not (pt_val (pe_callB (k_isi K rfl) (by rfl) T.b_isinstance (by decide +kernel) (pa_cons (pv 0) (pa_cons (pe_bltn (v := .ty "tuple") (by rfl) T.b_tuple (by decide +kernel) rfl) pa_nil))))) (pw_or1 (pt_cmpR op_gt (pe_callB (k_lenU K rfl) (by rfl) T.b_len (by decide +kernel) (pa_cons (pv 0) pa_nil)) (pv 1) (nomark _)))))
        (pss_one (ps_ret pe_bl))
        pss_nil)
      (pss_one (ps_ret (pe_and (pe_callB (k_all K rfl rfl) (by rfl) T.b_all (by decide +kernel) (pa_cons (pe_lcM (own := [("word", 2)]) (tt := tYes) rfl sc_are_words.nd (pi_seq K rfl (pv 0)) (blkOk_by (N := N_are_words) (sc := defScope s_are_words) (by decide +kernel)) (fun _ _ _ _ _ => (pg_name (i := 2) sc_are_words.nd rfl (Or.inl rfl))) (fun _ _ _ _ _ => pts_nil) (fun _ _ _ _ _ => (pe_call (ok_is_word T) (hr.mono (by decide)) (by rfl) T.g_is_word T.k_is_word T.bi_is_word .nil pass0 (pa_cons (pv 2) pa_nil)))) pa_nil)) (pe_one (pe_cmpR (k_eqU2 K rfl hr.units) (pe_or2 (k_lenSet K rfl rfl (by rfl) T.b_len (by rfl) T.b_set (pv 0)) (k_lenSetL K rfl rfl (by rfl) T.b_len (by rfl) T.b_set (pv 0))) (pe_callB (k_lenU K rfl) (by rfl) T.b_len (by decide +kernel) (pa_cons (pv 0) pa_nil)) (nomark _))))))), ?_⟩
  exact FV.body_ok (c := ctA K A) (N := N_are_words) (n := 2) (ms := [false, false, true]) (B := b_are_words) (E0 := E) ((js_seq (js_if (jt_or (jt_not (jt_B (je_cb jc_isi (ja_cons (je_var (i := 0)) (ja_cons (je_c (x := .raw (.ty "tuple")) fun _ => .raw) ja_nil))))) (jt_test (je_op jo_gt (je_cb jc_len (ja_cons (je_var (i := 0)) ja_nil)) (je_var (i := 1)))))
        (js_ret (je_c (x := .bl false) fun _ => .bl))
        js_next)
      (js_ret (je_andV (je_cb jc_all (ja_cons (je_comp (ms := maskL 3 [2]) (ji_seq (je_var (i := 0))) (jg_name (i := 2)) jt_yes (je_q (je_call (n := 1) (jm_val (je_var (i := 2)) jm_nil))) onlyAt_mask) ja_nil)) (je_op jo_eq2 (je_lenS (je_var (i := 0))) (je_cb jc_len (ja_cons (je_var (i := 0)) ja_nil))))))) (by decide) h
theorem ok_Library___init__ (T : TxtB K mg A base) : FnOk P w K mg base (L2.CX P w) 3 A.f_Library___init__ A.d_Library___init__ P_Library___init__ (FV.spF (ctA K A) 8 f_Library___init__) := by
  refine T.F_Library___init__.ok sc_Library___init__ (fun _ _ _ _ h => FV.spF_len h) (fun cdv Ar outer s H vs Q E hr h => ?_)
  have hu := hu_of hr
  refine ⟨_, (pss_cons (ps_if (pt_not (pt_val (pe_call (ok_is_word T) (hr.mono (by decide)) (by rfl) T.g_is_word T.k_is_word T.bi_is_word .nil pass0 (pa_cons (pv 1) pa_nil))))
        (pss_one (ps_raise rfl (takes_of rfl rfl rfl rfl) (pmk_x T.x_NoLibrary (ok_NoLibrary___init__ T) (hr.mono (by decide)) T.bi_NoLibrary___init__ (pa_cons pe_str pa_nil) (by rfl))))
        pss_nil)
      (pss_cons (ps_if (PW.pt (pw_or (pt_not (pt_val (pe_call (ok_are_words T) (hr.mono (by decide)) (by rfl) T.g_are_words T.k_are_words T.bi_are_words .nil pass0 (pa_cons (pv 2) (pa_cons pe_int pa_nil))))) (pw_or1 (pt_or2 (pt_cmpR (k_in K rfl) (pv 1) (pv 2) (by rfl)) (pt_cmp (pc_din hu (pv 1) (pv 2)))))))
        (pss_one (ps_raise rfl (takes_of rfl rfl rfl rfl) (pmk_x T.x_NoLibrary (ok_NoLibrary___init__ T) (hr.mono (by decide)) T.bi_NoLibrary___init__ (pa_cons pe_str pa_nil) (by rfl))))
        pss_nil)
      (pss_cons (ps_if (pt_not (pt_val (pe_call (ok_are_words T) (hr.mono (by decide)) (by rfl) T.g_are_words T.k_are_words T.bi_are_words .nil pass0 (pa_cons (pv 3) (pa_cons pe_int pa_nil)))))
        (pss_one (ps_raise rfl (takes_of rfl rfl rfl rfl) (pmk_x T.x_NoLibrary (ok_NoLibrary___init__ T) (hr.mono (by decide)) T.bi_NoLibrary___init__ (pa_cons pe_str pa_nil) (by rfl))))
        pss_nil)
      (pss_cons (ps_if (pt_not (pt_val (pe_call (ok_are_words T) (hr.mono (by decide)) (by rfl) T.g_are_words T.k_are_words T.bi_are_words .nil pass0 (pa_cons (pv 4) (pa_cons pe_int pa_nil)))))
        (pss_one (ps_raise rfl (takes_of rfl rfl rfl rfl) (pmk_x T.x_NoLibrary (ok_NoLibrary___init__ T) (hr.mono (by decide)) T.bi_NoLibrary___init__ (pa_cons pe_str pa_nil) (by rfl))))
        pss_nil)
      (pss_cons (ps_if (PW.pt (pw_or (pt_not (pt_val (pe_call (ok_are_words T) (hr.mono (by decide)) (by rfl) T.g_are_words T.k_are_words T.bi_are_words .nil pass0 (pa_cons (pv 5) (pa_cons pe_int pa_nil))))) (pw_or1 (pt_not (pt_val (pe_callB (k_all K rfl rfl) (by rfl) T.b_all (by decide +kernel) (pa_cons (pe_lcM (own := [("symbol", 8)]) (tt := tYes) rfl sc_Library___init__.nd (pi_seq K rfl (pv 5)) (blkOk_by (N := N_Library___init__) (sc := defScope s_Library___init__) (by decide +kernel)) (fun _ _ _ _ _ => (pg_name (i := 8) sc_Library___init__.nd rfl (Or.inl rfl))) (fun _ _ _ _ _ => pts_nil) (fun _ _ _ _ _ => (pe_or2 (pe_cmpR (k_in K rfl) (pv 8) (pv 4) (by rfl)) (pe_cmp (pc_din hu (pv 8) (pv 4)) rfl)))) pa_nil)))))))
        (pss_one (ps_raise rfl (takes_of rfl rfl rfl rfl) (pmk_x T.x_NoLibrary (ok_NoLibrary___init__ T) (hr.mono (by decide)) T.bi_NoLibrary___init__ (pa_cons pe_str pa_nil) (by rfl))))
        pss_nil)
      (pss_cons (ps_if (pt_not (pt_val (pe_callB (k_isi K rfl) (by rfl) T.b_isinstance (by decide +kernel) (pa_cons (pv 6) (pa_cons (pe_bltn (v := .ty "bool") (by rfl) T.b_bool (by decide +kernel) rfl) pa_nil)))))
        (pss_one (ps_raise rfl (takes_of rfl rfl rfl rfl) (pmk_x T.x_NoLibrary (ok_NoLibrary___init__ T) (hr.mono (by decide)) T.bi_NoLibrary___init__ (pa_cons pe_str pa_nil) (by rfl))))
        pss_nil)
      (pss_cons (ps_if (pt_not (pt_val (pe_callB (k_isi K rfl) (by rfl) T.b_isinstance (by decide +kernel) (pa_cons (pv 7) (pa_cons (pe_bltn (v := .ty "bool") (by rfl) T.b_bool (by decide +kernel) rfl) pa_nil)))))
        (pss_one (ps_raise rfl (takes_of rfl rfl rfl rfl) (pmk_x T.x_NoLibrary (ok_NoLibrary___init__ T) (hr.mono (by decide)) T.bi_NoLibrary___init__ (pa_cons pe_str pa_nil) (by rfl))))
        pss_nil)
      (pss_cons (ps_fld (pv 0) (pv 1) rfl)
      (pss_cons (ps_fld (pv 0) (pv 2) rfl)
      (pss_cons (ps_fld (pv 0) (pv 3) rfl)
      (pss_cons (ps_fld (pv 0) (pv 4) rfl)
      (pss_cons (ps_fld (pv 0) (pv 5) rfl)
      (pss_cons (ps_fld (pv 0) (pv 6) rfl)
      (pss_one (ps_fld (pv 0) (pv 7) rfl))))))))))))))), ?_⟩
  exact FV.body_ok (c := ctA K A) (N := N_Library___init__) (n := 8) (ms := [false, false, false, false, false, false, false, false, true]) (B := b_Library___init__) (E0 := E) ((js_seq (js_if (jt_not (jt_B (je_q (je_call (n := 1) (jm_val (je_var (i := 1)) jm_nil)))))
        (js_raise (cls := 1) (fld := "part") (ja_cons (je_c (x := .str "name") fun _ => .str) ja_nil))
        js_next)
      (js_seq (js_if (jt_or (jt_not (jt_B (je_q (je_call (n := 2) (jm_val (je_var (i := 2)) (jm_val (je_c (x := .int 12) fun _ => .int) jm_nil)))))) (jt_in (je_var (i := 1)) (je_var (i := 2))))
        (js_raise (cls := 1) (fld := "part") (ja_cons (je_c (x := .str "needs") fun _ => .str) ja_nil))
        js_next)
      (js_seq (js_if (jt_not (jt_B (je_q (je_call (n := 2) (jm_val (je_var (i := 3)) (jm_val (je_c (x := .int 20) fun _ => .int) jm_nil))))))
        (js_raise (cls := 1) (fld := "part") (ja_cons (je_c (x := .str "defines") fun _ => .str) ja_nil))
        js_next)
      (js_seq (js_if (jt_not (jt_B (je_q (je_call (n := 2) (jm_val (je_var (i := 4)) (jm_val (je_c (x := .int 20) fun _ => .int) jm_nil))))))
        (js_raise (cls := 1) (fld := "part") (ja_cons (je_c (x := .str "uses") fun _ => .str) ja_nil))
        js_next)
      (js_seq (js_if (jt_or (jt_not (jt_B (je_q (je_call (n := 2) (jm_val (je_var (i := 5)) (jm_val (je_c (x := .int 20) fun _ => .int) jm_nil)))))) (jt_not (jt_B (je_cb jc_all (ja_cons (je_comp (ms := maskL 9 [8]) (ji_seq (je_var (i := 5))) (jg_name (i := 8)) jt_yes (je_in (je_var (i := 8)) (je_var (i := 4))) onlyAt_mask) ja_nil)))))
        (js_raise (cls := 1) (fld := "part") (ja_cons (je_c (x := .str "weak") fun _ => .str) ja_nil))
        js_next)
      (js_seq (js_if (jt_not (jt_B (je_cb jc_isi (ja_cons (je_var (i := 6)) (ja_cons (je_c (x := .raw (.ty "bool")) fun _ => .raw) ja_nil)))))
        (js_raise (cls := 1) (fld := "part") (ja_cons (je_c (x := .str "eager") fun _ => .str) ja_nil))
        js_next)
      (js_seq (js_if (jt_not (jt_B (je_cb jc_isi (ja_cons (je_var (i := 7)) (ja_cons (je_c (x := .raw (.ty "bool")) fun _ => .raw) ja_nil)))))
        (js_raise (cls := 1) (fld := "part") (ja_cons (je_c (x := .str "own_first") fun _ => .str) ja_nil))
        js_next)
      (js_seq (js_fld (C := 10) T.cl_Library T.na_Library_name (ln_var (i := 0)) (je_var (i := 1)))
      (js_seq (js_fld (C := 10) T.cl_Library T.na_Library_needs (ln_var (i := 0)) (je_fz (je_var (i := 2))))
      (js_seq (js_fld (C := 10) T.cl_Library T.na_Library_defines (ln_var (i := 0)) (je_fz (je_var (i := 3))))
      (js_seq (js_fld (C := 10) T.cl_Library T.na_Library_uses (ln_var (i := 0)) (je_fz (je_var (i := 4))))
      (js_seq (js_fld (C := 10) T.cl_Library T.na_Library_weak (ln_var (i := 0)) (je_fz (je_var (i := 5))))
      (js_seq (js_fld (C := 10) T.cl_Library T.na_Library_eager (ln_var (i := 0)) (je_fz (je_var (i := 6))))
      (js_fld (C := 10) T.cl_Library T.na_Library_own_first (ln_var (i := 0)) (je_fz (je_var (i := 7)))))))))))))))))) (by decide) h
abbrev sp_NoStore___init__ (K : PySem.W.Frag) (A : Adr) : Sp := spXi K A.C_NoStore "at"
theorem ok_NoStore___init__ (T : TxtB K mg A base) : FnOk P w K mg base CX0 1 A.f_NoStore___init__ A.d_NoStore___init__ P_NoStore___init__ (sp_NoStore___init__ K A) := by
  refine T.F_NoStore___init__.ok sc_NoStore___init__ (fun vs H Q E h => ?_) (fun cdv Ar outer s H vs Q E hr h => ?_)
  · obtain ⟨a, v, rfl, _⟩ := h; rfl
  · have hu := hu_of hr
    refine ⟨_, (pss_cons (ps_expr (pe_linit T.ld (by rfl) (pa_cons (pv 0) (pa_cons pe_str pa_nil))))
        (pss_one (ps_ost (pv 0) (pv 1)))), ?_⟩
    obtain ⟨a, v, rfl, ha, k⟩ := h
    walk_at "rd"
    refine ⟨a, A.C_NoStore, _, rfl, by simp, T.x_NoStore.o, ha, ?_⟩
    walk_at "rd"
    exact ⟨a, A.C_NoStore, rfl, T.x_NoStore.o, T.x_NoStore.no, .inl ⟨ha, fun dx nd ne => k dx nd ne⟩⟩
theorem ok_Store___init__ (T : TxtB K mg A base) : FnOk P w K mg base (L2.CX P w) 3 A.f_Store___init__ A.d_Store___init__ P_Store___init__ (FV.spF (ctA K A) 2 f_Store___init__) := by
  refine T.F_Store___init__.okX sc_Store___init__ (fun _ _ _ _ h => FV.spF_len h) (fun cdv Ar outer s H vs Q E hr h => ?_)
  have hu := hu_of hr
  obtain ⟨u_MOST_LIBRARIES, h_MOST_LIBRARIES, r_MOST_LIBRARIES⟩ := T.c_MOST_LIBRARIES
  refine ⟨_, (pss_cons (ps_if (pt_not (pt_val (pe_callB (k_isi K rfl) (by rfl) T.b_isinstance (by decide +kernel) (pa_cons (pv 1) (pa_cons (pe_bltn (v := .ty "list") (by rfl) T.b_list (by decide +kernel) rfl) pa_nil)))))
        (pss_one (ps_raise rfl (takes_of rfl rfl rfl rfl) (pmk_x T.x_NoStore (ok_NoStore___init__ T) (hr.mono (by decide)) T.bi_NoStore___init__ (pa_cons pe_non pa_nil) (by rfl))))
        pss_nil)
      (pss_cons (ps_fld (pv 0) pe_dnewK rfl)
      (pss_one (ps_for (passes_of rfl) rfl (pi_enum (by rfl) T.b_enumerate (pa_cons (pv 1) pa_nil)) (k_gtup (n := 2) K rfl (by rfl) (pgs_cons (pg_name (i := 2) sc_Store___init__.nd rfl (Or.inl rfl)) (pgs_cons (pg_name (i := 3) sc_Store___init__.nd rfl (Or.inl rfl)) pgs_nil)))
        (pss_cons (ps_if (PW.pt (pw_or (pt_not (pt_val (pe_callB (k_isi K rfl) (by rfl) T.b_isinstance (by decide +kernel) (pa_cons (pv 3) (pa_cons (pe_glob (v := .ref A.C_Library) (by rfl) T.g_Library rfl) pa_nil))))) (pw_or (pt_or2 (pt_cmpR (k_in K rfl) (k_fld K rfl (pv 3)) (k_fld K rfl (pv 0)) (by rfl)) (pt_cmp (pc_din hu (k_fld K rfl (pv 3)) (k_fld K rfl (pv 0))))) (pw_or1 (pt_cmpR op_ge (pv 2) (pe_glob (by rfl) h_MOST_LIBRARIES r_MOST_LIBRARIES) (nomark _))))))
        (pss_one (ps_raise rfl (takes_of rfl rfl rfl rfl) (pmk_x T.x_NoStore (ok_NoStore___init__ T) (hr.mono (by decide)) T.bi_NoStore___init__ (pa_cons (pv 2) pa_nil) (by rfl))))
        pss_nil)
      (pss_one (ps_dput hu (k_fld K rfl (pv 0)) (k_fld K rfl (pv 3)) (pv 3) rfl))))))), ?_⟩
  exact FV.body_ok (c := ctA K A) (N := N_Store___init__) (n := 2) (ms := [false, false, true, true]) (B := b_Store___init__) (E0 := E) ((js_seq (js_if (jt_not (jt_B (je_cb jc_isi (ja_cons (je_var (i := 1)) (ja_cons (je_c (x := .raw (.ty "list")) fun _ => .raw) ja_nil)))))
        (js_raise (cls := 2) (fld := "at") (ja_cons (je_c (x := .non) fun _ => .non) ja_nil))
        js_next)
      (js_seq (js_fld (C := 11) T.cl_Store T.na_Store_kept (ln_var (i := 0)) je_dnewK)
      (js_for (ji_enum (ja_cons (je_var (i := 1)) ja_nil)) (jg_tup (n := 2) (jgs_cons (jg_name (i := 2)) (jgs_cons (jg_name (i := 3)) jgs_nil)))
        (js_seq (js_if (jt_W [] (jt_or (jt_not (jt_B (je_isiO (C := 10) T.ty_Library (je_var (i := 3))))) (jt_or (jt_in (je_fld (C := 10) T.cl_Library T.na_Library_name (je_var (i := 3))) (je_fld (C := 11) T.cl_Store T.na_Store_kept (je_var (i := 0)))) (jt_test (je_op jo_ge (je_var (i := 2)) (je_c (x := .int 40) fun _ => .int))))))
        (js_raise (cls := 2) (fld := "at") (ja_cons (je_var (i := 2)) ja_nil))
        js_next)
      (js_dput (ln_fld (C := 11) T.cl_Store T.na_Store_kept (ln_var (i := 0))) (je_fld (C := 10) T.cl_Library T.na_Library_name (je_var (i := 3))) (je_var (i := 3)) [])))))) (by decide) h
theorem ok__law_store (T : TxtB K mg A base) : FnOk P w K mg base CX0 5 A.f__law_store A.d__law_store P__law_store (FV.spF (ctA K A) 1 f__law_store) := by
  refine T.F__law_store.ok sc__law_store (fun _ _ _ _ h => FV.spF_len h) (fun cdv Ar outer s H vs Q E hr h => ?_)
  have hu := hu_of hr
  obtain ⟨mv_Library___init__, KB_Library___init__⟩ := kb2_Library___init__ T
  refine ⟨_, (pss_cons (ps_set (i := 1) sc__law_store.nd rfl (Or.inl rfl) (pe_lstM pa_nil))
      (pss_cons (ps_for PassesOwn.never rfl (pi_seq K rfl (pe_callB (k_sortU2 K rfl rfl) (by rfl) T.b_sorted (by decide +kernel) (pa_cons (pv 0) pa_nil))) (pg_name (i := 2) sc__law_store.nd rfl (Or.inl rfl))
        (pss_cons (ps_asg (pe_or2 (pe_ix (FV.ix_seqK K rfl) (pv 0) (pv 2) (fun _ _ => rfl)) (pe_dget hu (pv 0) (pv 2) (fun _ _ => rfl))) (k_gtup (n := 6) K rfl (by rfl) (pgs_cons (pg_name (i := 3) sc__law_store.nd rfl (Or.inl rfl)) (pgs_cons (pg_name (i := 4) sc__law_store.nd rfl (Or.inl rfl)) (pgs_cons (pg_name (i := 5) sc__law_store.nd rfl (Or.inl rfl)) (pgs_cons (pg_name (i := 6) sc__law_store.nd rfl (Or.inl rfl)) (pgs_cons (pg_name (i := 7) sc__law_store.nd rfl (Or.inl rfl)) (pgs_cons (pg_name (i := 8) sc__law_store.nd rfl (Or.inl rfl)) pgs_nil))))))))
      (pss_cons (ps_asg (pe_tupM (pa_cons (pe_callTy (k_tup K rfl) (by rfl) T.b_tuple (by decide +kernel) (pa_cons (pv 3) pa_nil)) (pa_cons (pe_callTy (k_tup K rfl) (by rfl) T.b_tuple (by decide +kernel) (pa_cons (pv 4) pa_nil)) (pa_cons (pe_callTy (k_tup K rfl) (by rfl) T.b_tuple (by decide +kernel) (pa_cons (pv 5) pa_nil)) (pa_cons (pe_callTy (k_tup K rfl) (by rfl) T.b_tuple (by decide +kernel) (pa_cons (pv 6) pa_nil)) pa_nil))))) (k_gtup (n := 4) K rfl (by rfl) (pgs_cons (pg_name (i := 3) sc__law_store.nd rfl (Or.inl rfl)) (pgs_cons (pg_name (i := 4) sc__law_store.nd rfl (Or.inl rfl)) (pgs_cons (pg_name (i := 5) sc__law_store.nd rfl (Or.inl rfl)) (pgs_cons (pg_name (i := 6) sc__law_store.nd rfl (Or.inl rfl)) pgs_nil))))))
      (pss_cons (ps_set (i := 9) sc__law_store.nd rfl (Or.inl rfl) (pe_makeK T.mk_Library (ok_Library___init__ T) (hr.mono (by decide)) (by rfl) T.g_Library KB_Library___init__ passL (pa_cons (pv 2) pa_nil) (pk_cons (pv 3) (pk_cons (pv 4) (pk_cons (pv 5) (pk_cons (pv 6) (pk_cons (pv 7) (pk_cons (pv 8) pk_nil))))))))
      (pss_one (ps_expr (pe_bm PySem.F.plainAttrs_list PySem.F.slot_list_append PySem.F.type_list_append mt_append (pv 1) (pa_cons (pv 9) pa_nil))))))))
      (pss_one (ps_ret (pe_make T.mk_Store (ok_Store___init__ T) (hr.mono (by decide)) (by rfl) T.g_Store T.bi_Store___init__ .nil passL (pa_cons (pv 1) pa_nil)))))), ?_⟩
  exact FV.body_ok (c := ctA K A) (N := N__law_store) (n := 1) (ms := [false, true, true, true, true, true, true, true, true, true]) (B := b__law_store) (E0 := E) ((js_seq (js_set (i := 1) (je_lst ja_nil))
      (js_seq (js_for (ji_seq (je_cb jc_sort2 (ja_cons (je_var (i := 0)) ja_nil))) (jg_name (i := 2))
        (js_seq (js_asg (je_fz (je_sub (je_var (i := 0)) (je_var (i := 2)))) (jg_tup (n := 6) (jgs_cons (jg_name (i := 3)) (jgs_cons (jg_name (i := 4)) (jgs_cons (jg_name (i := 5)) (jgs_cons (jg_name (i := 6)) (jgs_cons (jg_name (i := 7)) (jgs_cons (jg_name (i := 8)) jgs_nil))))))))
      (js_seq (js_asg (je_fz (je_tup (ja_cons (je_cb jc_tup (ja_cons (je_var (i := 3)) ja_nil)) (ja_cons (je_cb jc_tup (ja_cons (je_var (i := 4)) ja_nil)) (ja_cons (je_cb jc_tup (ja_cons (je_var (i := 5)) ja_nil)) (ja_cons (je_cb jc_tup (ja_cons (je_var (i := 6)) ja_nil)) ja_nil)))))) (jg_tup (n := 4) (jgs_cons (jg_name (i := 3)) (jgs_cons (jg_name (i := 4)) (jgs_cons (jg_name (i := 5)) (jgs_cons (jg_name (i := 6)) jgs_nil))))))
      (js_seq (js_set (i := 9) (je_fz (je_q (je_makeK (n := 1) (m := 6) (N := 8) (C := 10) (jm_app (m := 6) (jm_val (je_var (i := 2)) jm_nil) (ja_cons (je_var (i := 3)) (ja_cons (je_var (i := 4)) (ja_cons (je_var (i := 5)) (ja_cons (je_var (i := 6)) (ja_cons (je_var (i := 7)) (ja_cons (je_var (i := 8)) ja_nil)))))))))))
      (js_drop (je_mth (T := "list") (ln_var (i := 1)) jm_append [] (ja_cons (je_var (i := 9)) ja_nil)))))))
      (js_ret (je_q (je_make (n := 2) (C := 11) (jm_val (je_fz (je_move (i := 1))) jm_nil))))))) (by decide) h
theorem ok_Store___contains__ (T : TxtB K mg A base) : FnOk P w K mg base CX0 2 A.f_Store___contains__ A.d_Store___contains__ P_Store___contains__ (FV.spF (ctA K A) 2 f_Store___contains__) := by
  refine T.F_Store___contains__.ok sc_Store___contains__ (fun _ _ _ _ h => FV.spF_len h) (fun cdv Ar outer s H vs Q E hr h => ?_)
  have hu := hu_of hr
  refine ⟨_, (pss_one (ps_ret (pe_and (pe_call (ok_is_word T) (hr.mono (by decide)) (by rfl) T.g_is_word T.k_is_word T.bi_is_word .nil pass0 (pa_cons (pv 1) pa_nil)) (pe_one (pe_or2 (pe_cmpR (k_in K rfl) (pv 1) (k_fld K rfl (pv 0)) (by rfl)) (pe_cmp (pc_din hu (pv 1) (k_fld K rfl (pv 0))) rfl)))))), ?_⟩
  exact FV.body_ok (c := ctA K A) (N := N_Store___contains__) (n := 2) (ms := [false, false]) (B := b_Store___contains__) (E0 := E) ((js_ret (je_andV (je_q (je_call (n := 1) (jm_val (je_var (i := 1)) jm_nil))) (je_in (je_var (i := 1)) (je_fld (C := 11) T.cl_Store T.na_Store_kept (je_var (i := 0))))))) (by decide) h
abbrev sp_NoName___init__ (K : PySem.W.Frag) (A : Adr) : Sp := spXi K A.C_NoName "name"
theorem ok_NoName___init__ (T : TxtB K mg A base) : FnOk P w K mg base CX0 1 A.f_NoName___init__ A.d_NoName___init__ P_NoName___init__ (sp_NoName___init__ K A) := by
  refine T.F_NoName___init__.ok sc_NoName___init__ (fun vs H Q E h => ?_) (fun cdv Ar outer s H vs Q E hr h => ?_)
  · obtain ⟨a, v, rfl, _⟩ := h; rfl
  · have hu := hu_of hr
    refine ⟨_, (pss_cons (ps_expr (pe_linit T.ld (by rfl) (pa_cons (pv 0) (pa_cons pe_str pa_nil))))
        (pss_one (ps_ost (pv 0) (pv 1)))), ?_⟩
    obtain ⟨a, v, rfl, ha, k⟩ := h
    walk_at "rd"
    refine ⟨a, A.C_NoName, _, rfl, by simp, T.x_NoName.o, ha, ?_⟩
    walk_at "rd"
    exact ⟨a, A.C_NoName, rfl, T.x_NoName.o, T.x_NoName.no, .inl ⟨ha, fun dx nd ne => k dx nd ne⟩⟩
theorem ok_Store___getitem__ (T : TxtB K mg A base) : FnOk P w K mg base (L2.CX P w) 3 A.f_Store___getitem__ A.d_Store___getitem__ P_Store___getitem__ (FV.spF (ctA K A) 2 f_Store___getitem__) := by
  refine T.F_Store___getitem__.okX sc_Store___getitem__ (fun _ _ _ _ h => FV.spF_len h) (fun cdv Ar outer s H vs Q E hr h => ?_)
  have hu := hu_of hr
  refine ⟨_, (pss_cons (ps_if (pt_cmpR (op_notInO T.du_Store_contains (ok_Store___contains__ T) (hr.mono (by decide)) T.bi_Store___contains__ pass0) (pv 1) (pv 0) (by rfl))
        (pss_one (ps_raise rfl (takes_of rfl rfl rfl rfl) (pmk_x T.x_NoName (ok_NoName___init__ T) (hr.mono (by decide)) T.bi_NoName___init__ (pa_cons (pv 1) pa_nil) (by rfl))))
        pss_nil)
      (pss_one (ps_ret (pe_or2 (pe_ix (FV.ix_seqK K rfl) (k_fld K rfl (pv 0)) (pv 1) (fun _ _ => rfl)) (pe_dget hu (k_fld K rfl (pv 0)) (pv 1) (fun _ _ => rfl)))))), ?_⟩
  exact FV.body_ok (c := ctA K A) (N := N_Store___getitem__) (n := 2) (ms := [false, false]) (B := b_Store___getitem__) (E0 := E) ((js_seq (js_if (jt_test (je_q (je_inO (C := 11) (je_var (i := 1)) (je_var (i := 0)))))
        (js_raise (cls := 3) (fld := "name") (ja_cons (je_var (i := 1)) ja_nil))
        js_next)
      (js_ret (je_sub (je_fld (C := 11) T.cl_Store T.na_Store_kept (je_var (i := 0))) (je_var (i := 1)))))) (by decide) h
abbrev sp_Missing___init__ (K : PySem.W.Frag) (A : Adr) : Sp := spXi K A.C_Missing "name"
theorem ok_Missing___init__ (T : TxtB K mg A base) : FnOk P w K mg base CX0 1 A.f_Missing___init__ A.d_Missing___init__ P_Missing___init__ (sp_Missing___init__ K A) := by
  refine T.F_Missing___init__.ok sc_Missing___init__ (fun vs H Q E h => ?_) (fun cdv Ar outer s H vs Q E hr h => ?_)
  · obtain ⟨a, v, rfl, _⟩ := h; rfl
  · have hu := hu_of hr
    refine ⟨_, (pss_cons (ps_expr (pe_linit T.ld (by rfl) (pa_cons (pv 0) (pa_cons pe_str pa_nil))))
        (pss_one (ps_ost (pv 0) (pv 1)))), ?_⟩
    obtain ⟨a, v, rfl, ha, k⟩ := h
    walk_at "rd"
    refine ⟨a, A.C_Missing, _, rfl, by simp, T.x_Missing.o, ha, ?_⟩
    walk_at "rd"
    exact ⟨a, A.C_Missing, rfl, T.x_Missing.o, T.x_Missing.no, .inl ⟨ha, fun dx nd ne => k dx nd ne⟩⟩
theorem ok_grown (T : TxtB K mg A base) : FnOk P w K mg base (L2.CX P w) 5 A.f_grown A.d_grown P_grown (FV.spF (ctA K A) 3 f_grown) := by
  refine T.F_grown.okX sc_grown (fun _ _ _ _ h => FV.spF_len h) (fun cdv Ar outer s H vs Q E hr h => ?_)
  have hu := hu_of hr
  refine ⟨_, (pss_cons (ps_setLcM (i := 3) (own := [("need", 4)]) rfl sc_grown.nd rfl rfl (sw_true rfl rfl rfl (by decide +kernel)) (pi_seq K rfl (k_fld K rfl (pe_subO T.du_Store_getitem T.fi_Store_getitem (ok_Store___getitem__ T) (hr.mono (by decide)) T.bi_Store___getitem__ (passes_call (takes_of rfl rfl rfl rfl) fun _ _ _ _ z => z) (pv 0) (pv 2)))) (blkOk_by (N := N_grown) (sc := defScope s_grown) (by decide +kernel)) (fun _ _ _ _ _ => (pg_name (i := 4) sc_grown.nd rfl (Or.inl rfl))) (fun _ _ _ _ _ => (pts_one (pt_or2 (pt_cmpR (k_notIn K rfl) (pv 4) (pv 1) (by rfl)) (pt_cmp (pc_dnotin hu (pv 4) (pv 1)))))) (fun _ _ _ _ _ => (pv 4)))
      (pss_cons (ps_for (passes_of rfl) rfl (pi_seq K rfl (pv 3)) (pg_name (i := 4) sc_grown.nd rfl (Or.inl rfl))
        (pss_one (ps_if (pt_cmpR (op_notInO T.du_Store_contains (ok_Store___contains__ T) (hr.mono (by decide)) T.bi_Store___contains__ pass0) (pv 4) (pv 0) (by rfl))
        (pss_one (ps_raise rfl (takes_of rfl rfl rfl rfl) (pmk_x T.x_Missing (ok_Missing___init__ T) (hr.mono (by decide)) T.bi_Missing___init__ (pa_cons (pv 4) pa_nil) (by rfl))))
        pss_nil)))
      (pss_one (ps_ret (pe_op (op_addU K rfl) (pv 1) (pv 3)))))), ?_⟩
  exact FV.body_ok (c := ctA K A) (N := N_grown) (n := 3) (ms := [false, false, false, true, true]) (B := b_grown) (E0 := E) ((js_seq (js_set (i := 3) (je_fz (je_comp (ms := maskL 5 [4]) (ji_seq (je_fld (C := 10) T.cl_Library T.na_Library_needs (je_subO (C := 11) (je_var (i := 0)) (je_var (i := 2))))) (jg_name (i := 4)) (jt_notIn (je_var (i := 4)) (je_var (i := 1))) (je_var (i := 4)) onlyAt_mask)))
      (js_seq (js_for (ji_seq (je_var (i := 3))) (jg_name (i := 4))
        (js_if (jt_test (je_q (je_inO (C := 11) (je_var (i := 4)) (je_var (i := 0)))))
        (js_raise (cls := 4) (fld := "name") (ja_cons (je_var (i := 4)) ja_nil))
        js_next))
      (js_ret (je_op jo_add (je_var (i := 1)) (je_var (i := 3))))))) (by decide) h
theorem ok_closure (T : TxtB K mg A base) : FnOk P w K mg base (L2.CX P w) 6 A.f_closure A.d_closure P_closure (FV.spF (ctA K A) 2 f_closure) := by
  refine T.F_closure.okX sc_closure (fun _ _ _ _ h => FV.spF_len h) (fun cdv Ar outer s H vs Q E hr h => ?_)
  have hu := hu_of hr
  refine ⟨_, (pss_cons (ps_set (i := 2) sc_closure.nd rfl (Or.inl rfl) (pe_lstM (pa_cons (k_fld K rfl (pe_subO T.du_Store_getitem T.fi_Store_getitem (ok_Store___getitem__ T) (hr.mono (by decide)) T.bi_Store___getitem__ (passes_call (takes_of rfl rfl rfl rfl) fun _ _ _ _ z => z) (pv 0) (pv 1))) pa_nil)))
      (pss_cons (ps_set (i := 3) sc_closure.nd rfl (Or.inl rfl) pe_int)
      (pss_cons (ps_while (passes_of rfl) (pt_cmpR op_lt (pv 3) (pe_callB (k_lenU K rfl) (by rfl) T.b_len (by decide +kernel) (pa_cons (pv 2) pa_nil)) (nomark _))
        (pss_cons (ps_set (i := 2) sc_closure.nd rfl (Or.inl rfl) (pe_call (ok_grown T) (hr.mono (by decide)) (by rfl) T.g_grown T.k_grown T.bi_grown .nil (passes_call (takes_of rfl rfl rfl rfl) fun _ _ _ _ z => z) (pa_cons (pv 0) (pa_cons (pv 2) (pa_cons (pe_or2 (pe_ix (FV.ix_seqK K rfl) (pv 2) (pv 3) (fun _ _ => rfl)) (pe_dget hu (pv 2) (pv 3) (fun _ _ => rfl))) pa_nil)))))
      (pss_one (ps_aug (i := 3) sc_closure.nd rfl (Or.inl rfl) pe_int ip_add))))
      (pss_one (ps_ret (pv 2)))))), ?_⟩
  exact FV.body_ok (c := ctA K A) (N := N_closure) (n := 2) (ms := [false, false, true, true]) (B := b_closure) (E0 := E) ((js_seq (js_set (i := 2) (je_lst (ja_cons (je_fld (C := 10) T.cl_Library T.na_Library_name (je_subO (C := 11) (je_var (i := 0)) (je_var (i := 1)))) ja_nil)))
      (js_seq (js_set (i := 3) (je_c (x := .int 0) fun _ => .int))
      (js_seq (js_while 1000000 (jt_W [] (jt_test (je_op jo_lt (je_var (i := 3)) (je_cb jc_len (ja_cons (je_var (i := 2)) ja_nil)))))
        (js_seq (js_set (i := 2) (je_W [] (je_call (n := 3) (jm_val (je_var (i := 0)) (jm_val (je_var (i := 2)) (jm_val (je_sub (je_var (i := 2)) (je_var (i := 3))) jm_nil))))))
      (js_aug (i := 3) ji_add (je_c (x := .int 1) fun _ => .int))))
      (js_ret (je_move (i := 2))))))) (by decide) h
theorem ok__law_due (T : TxtB K mg A base) : FnOk P w K mg base CX0 1 A.f__law_due A.d__law_due P__law_due (FV.spF (ctA K A) 3 f__law_due) := by
  refine T.F__law_due.ok sc__law_due (fun _ _ _ _ h => FV.spF_len h) (fun cdv Ar outer s H vs Q E hr h => ?_)
  have hu := hu_of hr
  refine ⟨_, (pss_cons (ps_set (i := 3) sc__law_due.nd rfl (Or.inl rfl) (pe_lstM (pa_cons (pv 1) pa_nil)))
      (pss_cons (ps_set (i := 4) sc__law_due.nd rfl (Or.inl rfl) pe_int)
      (pss_cons (ps_while PassesOwn.never (pt_cmpR op_lt (pv 4) (pe_callB (k_lenU K rfl) (by rfl) T.b_len (by decide +kernel) (pa_cons (pv 3) pa_nil)) (nomark _))
        (pss_cons (ps_for PassesOwn.never rfl (pi_seq K rfl (pe_or2 (pe_ix (FV.ix_seqK K rfl) (pe_or2 (pe_ix (FV.ix_seqK K rfl) (pv 0) (pe_or2 (pe_ix (FV.ix_seqK K rfl) (pv 3) (pv 4) (fun _ _ => rfl)) (pe_dget hu (pv 3) (pv 4) (fun _ _ => rfl))) (fun _ _ => rfl)) (pe_dget hu (pv 0) (pe_or2 (pe_ix (FV.ix_seqK K rfl) (pv 3) (pv 4) (fun _ _ => rfl)) (pe_dget hu (pv 3) (pv 4) (fun _ _ => rfl))) (fun _ _ => rfl))) pe_int (fun _ _ => rfl)) (pe_dget hu (pe_or2 (pe_ix (FV.ix_seqK K rfl) (pv 0) (pe_or2 (pe_ix (FV.ix_seqK K rfl) (pv 3) (pv 4) (fun _ _ => rfl)) (pe_dget hu (pv 3) (pv 4) (fun _ _ => rfl))) (fun _ _ => rfl)) (pe_dget hu (pv 0) (pe_or2 (pe_ix (FV.ix_seqK K rfl) (pv 3) (pv 4) (fun _ _ => rfl)) (pe_dget hu (pv 3) (pv 4) (fun _ _ => rfl))) (fun _ _ => rfl))) pe_int (fun _ _ => rfl)))) (pg_name (i := 5) sc__law_due.nd rfl (Or.inl rfl))
        (pss_cons (ps_if (pt_or2 (pt_cmpR (k_in K rfl) (pv 5) (pv 2) (by rfl)) (pt_cmp (pc_din hu (pv 5) (pv 2))))
        (pss_one (ps_ret (pe_tupM (pa_cons pe_str (pa_cons (pv 5) pa_nil)))))
        pss_nil)
      (pss_one (ps_if (pt_or2 (pt_cmpR (k_notIn K rfl) (pv 5) (pv 3) (by rfl)) (pt_cmp (pc_dnotin hu (pv 5) (pv 3))))
        (pss_one (ps_expr (pe_bm PySem.F.plainAttrs_list PySem.F.slot_list_append PySem.F.type_list_append mt_append (pv 3) (pa_cons (pv 5) pa_nil))))
        pss_nil))))
      (pss_one (ps_set (i := 4) sc__law_due.nd rfl (Or.inl rfl) (pe_op (op_addU K rfl) (pv 4) pe_int)))))
      (pss_one (ps_ret (pv 3)))))), ?_⟩
  exact FV.body_ok (c := ctA K A) (N := N__law_due) (n := 3) (ms := [false, false, false, true, true, true]) (B := b__law_due) (E0 := E) ((js_seq (js_set (i := 3) (je_lst (ja_cons (je_var (i := 1)) ja_nil)))
      (js_seq (js_set (i := 4) (je_c (x := .int 0) fun _ => .int))
      (js_seq (js_while 1000000 (jt_W [] (jt_test (je_op jo_lt (je_var (i := 4)) (je_cb jc_len (ja_cons (je_var (i := 3)) ja_nil)))))
        (js_seq (js_for (ji_seq (je_W [] (je_sub (je_sub (je_var (i := 0)) (je_sub (je_var (i := 3)) (je_var (i := 4)))) (je_c (x := .int 0) fun _ => .int)))) (jg_name (i := 5))
        (js_seq (js_if (jt_in (je_var (i := 5)) (je_var (i := 2)))
        (js_ret (je_tup (ja_cons (je_c (x := .str "absent") fun _ => .str) (ja_cons (je_move (i := 5)) ja_nil))))
        js_next)
      (js_if (jt_W [] (jt_notIn (je_var (i := 5)) (je_var (i := 3))))
        (js_drop (je_mth (T := "list") (ln_var (i := 3)) jm_append [] (ja_cons (je_var (i := 5)) ja_nil)))
        js_next)))
      (js_set (i := 4) (je_op jo_add (je_var (i := 4)) (je_c (x := .int 1) fun _ => .int)))))
      (js_ret (je_move (i := 3))))))) (by decide) h
abbrev sp_NoSymbol___init__ (K : PySem.W.Frag) (A : Adr) : Sp := spXi K A.C_NoSymbol "symbol"
theorem ok_NoSymbol___init__ (T : TxtB K mg A base) : FnOk P w K mg base CX0 1 A.f_NoSymbol___init__ A.d_NoSymbol___init__ P_NoSymbol___init__ (sp_NoSymbol___init__ K A) := by
  refine T.F_NoSymbol___init__.ok sc_NoSymbol___init__ (fun vs H Q E h => ?_) (fun cdv Ar outer s H vs Q E hr h => ?_)
  · obtain ⟨a, v, rfl, _⟩ := h; rfl
  · have hu := hu_of hr
    refine ⟨_, (pss_cons (ps_expr (pe_linit T.ld (by rfl) (pa_cons (pv 0) (pa_cons pe_str pa_nil))))
        (pss_one (ps_ost (pv 0) (pv 1)))), ?_⟩
    obtain ⟨a, v, rfl, ha, k⟩ := h
    walk_at "rd"
    refine ⟨a, A.C_NoSymbol, _, rfl, by simp, T.x_NoSymbol.o, ha, ?_⟩
    walk_at "rd"
    exact ⟨a, A.C_NoSymbol, rfl, T.x_NoSymbol.o, T.x_NoSymbol.no, .inl ⟨ha, fun dx nd ne => k dx nd ne⟩⟩
theorem ok_check_symbol (T : TxtB K mg A base) : FnOk P w K mg base (L2.CX P w) 3 A.f_check_symbol A.d_check_symbol P_check_symbol (FV.spF (ctA K A) 1 f_check_symbol) := by
  refine T.F_check_symbol.okX sc_check_symbol (fun _ _ _ _ h => FV.spF_len h) (fun cdv Ar outer s H vs Q E hr h => ?_)
  have hu := hu_of hr
  refine ⟨_, (pss_one (ps_if (pt_not (pt_val (pe_call (ok_is_word T) (hr.mono (by decide)) (by rfl) T.g_is_word T.k_is_word T.bi_is_word .nil pass0 (pa_cons (pv 0) pa_nil))))
        (pss_one (ps_raise rfl (takes_of rfl rfl rfl rfl) (pmk_x T.x_NoSymbol (ok_NoSymbol___init__ T) (hr.mono (by decide)) T.bi_NoSymbol___init__ (pa_cons (pv 0) pa_nil) (by rfl))))
        pss_nil)), ?_⟩
  exact FV.body_ok (c := ctA K A) (N := N_check_symbol) (n := 1) (ms := [false]) (B := b_check_symbol) (E0 := E) ((js_if (jt_not (jt_B (je_q (je_call (n := 1) (jm_val (je_var (i := 0)) jm_nil)))))
        (js_raise (cls := 5) (fld := "symbol") (ja_cons (je_var (i := 0)) ja_nil))
        js_next)) (by decide) h
theorem ok_definers (T : TxtB K mg A base) : FnOk P w K mg base (L2.CX P w) 5 A.f_definers A.d_definers P_definers (FV.spF (ctA K A) 3 f_definers) := by
  refine T.F_definers.okX sc_definers (fun _ _ _ _ h => FV.spF_len h) (fun cdv Ar outer s H vs Q E hr h => ?_)
  have hu := hu_of hr
  refine ⟨_, (pss_cons (FV.ps_setLcXM (i := 3) (own := [("name", 4)]) (tt := tYes) rfl sc_definers.nd rfl rfl (takes_of rfl rfl rfl rfl) rfl rfl (sw_true rfl rfl rfl (by decide +kernel)) (pi_seq K rfl (pv 1)) (blkOk_by (N := N_definers) (sc := defScope s_definers) (by decide +kernel)) (fun _ _ _ _ _ _ => (pg_name (i := 4) sc_definers.nd rfl (Or.inl rfl))) (fun _ _ _ _ _ _ => pts_nil) (fun _ _ _ _ _ _ _ px => (pe_subO T.du_Store_getitem T.fi_Store_getitem (ok_Store___getitem__ T) (hr.mono (by decide)) T.bi_Store___getitem__ px (pv 0) (pv 4))))
      (pss_cons (ps_expr (pe_call (ok_check_symbol T) (hr.mono (by decide)) (by rfl) T.g_check_symbol T.k_check_symbol T.bi_check_symbol .nil (passes_call (takes_of rfl rfl rfl rfl) fun _ _ _ _ z => z) (pa_cons (pv 2) pa_nil)))
      (pss_one (ps_ret (pe_lcM (own := [("library", 5)]) rfl sc_definers.nd (pi_seq K rfl (pv 3)) (blkOk_by (N := N_definers) (sc := defScope s_definers) (by decide +kernel)) (fun _ _ _ _ _ => (pg_name (i := 5) sc_definers.nd rfl (Or.inl rfl))) (fun _ _ _ _ _ => (pts_one (pt_or2 (pt_cmpR (k_in K rfl) (pv 2) (k_fld K rfl (pv 5)) (by rfl)) (pt_cmp (pc_din hu (pv 2) (k_fld K rfl (pv 5))))))) (fun _ _ _ _ _ => (k_fld K rfl (pv 5)))))))), ?_⟩
  exact FV.body_ok (c := ctA K A) (N := N_definers) (n := 3) (ms := [false, false, false, true, true, true]) (B := b_definers) (E0 := E) ((js_seq (js_set (i := 3) (je_fz (je_compX (ms := maskL 6 [4]) (ji_seq (je_var (i := 1))) (jg_name (i := 4)) jt_yes (fun _ => (je_subO (C := 11) (je_var (i := 0)) (je_var (i := 4)))) onlyAt_mask)))
      (js_seq (js_drop (je_call (n := 1) (jm_val (je_var (i := 2)) jm_nil)))
      (js_ret (je_comp (ms := maskL 6 [5]) (ji_seq (je_var (i := 3))) (jg_name (i := 5)) (jt_in (je_var (i := 2)) (je_fld (C := 10) T.cl_Library T.na_Library_defines (je_var (i := 5)))) (je_fld (C := 10) T.cl_Library T.na_Library_name (je_var (i := 5))) onlyAt_mask))))) (by decide) h
theorem ok_law (T : TxtB K mg A base) : FnOk P w K mg base CX0 9 A.f_law A.d_law P_law (FV.spF (ctA K A) 1 f_law) := by
  refine FV.Fun_okC T.F_law T.cd_law sc_law (fun _ _ _ _ h => FV.spF_len h) (fun Ar outer s H vs Q E hr h => ?_)
  have hu := hu_of hr
  refine ⟨_, (pss_cons (ps_for PassesOwn.never rfl (pi_seq K rfl (pe_op (k_catS K rfl) (pe_slice (sl_U K rfl) (pv 0) po_none (po_some pe_int)) (pe_lstM (pa_cons pe_int (pa_cons pe_int pa_nil))))) (pg_name (i := 1) sc_law.nd rfl (Or.inl rfl))
        (pss_cons (ps_set (i := 2) sc_law.nd rfl (Or.inr rfl) (pe_call (ok__law_well T) (hr.mono (by decide)) (by rfl) T.g__law_well T.k__law_well T.bi__law_well .nil pass0 (pa_cons (pv 1) pa_nil)))
      (pss_cons (ps_set (i := 3) sc_law.nd rfl (Or.inl rfl) (pe_call (ok__law_spec T) (hr.mono (by decide)) (by rfl) T.g__law_spec T.k__law_spec T.bi__law_spec .nil pass0 (pa_cons (pv 2) (pa_cons pe_int pa_nil))))
      (pss_cons (ps_if (pt_cmpR (k_eqU2 K rfl hr.units) (pe_call (ok__law_draw T) (hr.mono (by decide)) (by rfl) T.g__law_draw T.k__law_draw T.bi__law_draw .nil pass0 (pa_cons (pv 2) (pa_cons pe_int pa_nil))) pe_int (nomark _))
        (pss_one (ps_set (i := 3) sc_law.nd rfl (Or.inl rfl) (pe_call (ok__law_row T) (hr.mono (by decide)) (by rfl) T.g__law_row T.k__law_row T.bi__law_row .nil pass0 (pa_cons (pv 2) pa_nil))))
        pss_nil)
      (pss_cons (ps_setLcM (i := 4) (own := [("_law_word", 5)]) rfl sc_law.nd rfl rfl (sw_true rfl rfl rfl (by decide +kernel)) (pi_seq K rfl (pe_slice (sl_U K rfl) (pe_callB (k_sortU2 K rfl rfl) (by rfl) T.b_sorted (by decide +kernel) (pa_cons (pv 3) pa_nil)) (po_some pe_int) po_none)) (blkOk_by (N := N_law) (sc := defScope s_law) (by decide +kernel)) (fun _ _ _ _ _ => (pg_name (i := 5) sc_law.nd rfl (Or.inl rfl))) (fun _ _ _ _ _ => (pts_one (pt_cmpR (k_eqU2 K rfl hr.units) (pe_call (ok__law_draw T) (hr.mono (by decide)) (by rfl) T.g__law_draw T.k__law_draw T.bi__law_draw .nil pass0 (pa_cons (pv 2) (pa_cons pe_int pa_nil))) pe_int (nomark _)))) (fun _ _ _ _ _ => (pv 5)))
      (pss_cons (ps_set (i := 6) sc_law.nd rfl (Or.inr rfl) pe_dnewK)
      (pss_cons (ps_lock2 (ps_for PassesOwn.never rfl (pi_keys (pv 3)) (pg_name (i := 5) sc_law.nd rfl (Or.inr rfl))
        (pss_one (ps_if (pt_or2 (pt_cmpR (k_notIn K rfl) (pv 5) (pv 4) (by rfl)) (pt_cmp (pc_dnotin hu (pv 5) (pv 4))))
        (pss_one (ps_dput hu (pv 6) (pv 5) (pe_or2 (pe_ix (FV.ix_seqK K rfl) (pv 3) (pv 5) (fun _ _ => rfl)) (pe_dget hu (pv 3) (pv 5) (fun _ _ => rfl))) rfl))
        pss_nil))))
      (pss_cons (ps_set (i := 7) sc_law.nd rfl (Or.inr rfl) (pe_call (ok__law_store T) (hr.mono (by decide)) (by rfl) T.g__law_store T.k__law_store T.bi__law_store .nil pass0 (pa_cons (pv 6) pa_nil)))
      (pss_cons (ps_lock2 (ps_for PassesOwn.never rfl (pi_keys (pv 6)) (pg_name (i := 5) sc_law.nd rfl (Or.inr rfl))
        (pss_one (ps_for PassesOwn.never rfl (pi_range1 (by rfl) T.b_range (pa_cons pe_int pa_nil)) (pg_name (i := 8) sc_law.nd rfl (Or.inl rfl))
        (pss_cons (ps_set (i := 9) sc_law.nd rfl (Or.inl rfl) (FV.pe_lamF (T := [(A.t_law, ("law" ++ ".<locals>." ++ "<lambda>" : Str))]) (k := 6) (N := 2) (a := "_law_ask") (by rfl) T.g__law_said T.F__law_said T.bi__law_said sc__law_said rfl rfl (Or.inl rfl) (by rfl) (fun _ => rfl) (fun _ _ _ => (.named (i := 1) sc__law_said.nd rfl rfl ⟨(by rfl), (by decide), .inl T.x_Missing.g⟩ (fun _ _ _ _ _ hz hx => (pss_one (ps_ret (pe_tupM (pa_cons pe_str (pa_cons (pe_xf T.x_Missing.xf T.x_Missing.no hz hx (pv 1)) pa_nil)))))) (.named (i := 1) sc__law_said.nd rfl rfl ⟨(by rfl), (by decide), .inl T.x_NoName.g⟩ (fun _ _ _ _ _ hz hx => (pss_one (ps_ret (pe_tupM (pa_cons pe_str (pa_cons (pe_xf T.x_NoName.xf T.x_NoName.no hz hx (pv 1)) pa_nil)))))) (.named (i := 1) sc__law_said.nd rfl rfl ⟨(by rfl), (by decide), .inl T.x_NoSymbol.g⟩ (fun _ _ _ _ _ hz hx => (pss_one (ps_ret (pe_tupM (pa_cons pe_str (pa_cons (pe_xf T.x_NoSymbol.xf T.x_NoSymbol.no hz hx (pv 1)) pa_nil)))))) (.bare ⟨(by rfl), (by decide), .inl T.ld.g⟩ (fun _ _ _ _ _ hz hx => (pss_one (ps_ret (pe_tupM (pa_cons pe_str (pa_cons pe_non pa_nil)))))) .nil)))))
          T.tb_law rfl (List.mem_cons_self ..) FV.tabs_one (hr.mono (by decide)) (LamX.lamS_by (sc := defScope s_law) (by decide +kernel)) rfl (fun _ _ _ _ _ => rfl)
          (fun _ _ _ _ _ _ _ hr => have hu := hu_of hr; (pe_call (ok_closure T) (hr.mono (by decide)) (by rfl) T.g_closure T.k_closure T.bi_closure .nil (passes_call (takes_of rfl rfl rfl rfl) fun _ _ _ _ z => z) (pa_cons (pv 7) (pa_cons (pv 5) pa_nil))))))
      (pss_cons (ps_if (pt_cmpR (k_neU2 K rfl hr.units) (pv 9) (pe_call (ok__law_due T) (hr.mono (by decide)) (by rfl) T.g__law_due T.k__law_due T.bi__law_due .nil pass0 (pa_cons (pv 3) (pa_cons (pv 5) (pa_cons (pv 4) pa_nil)))) (nomark _))
        (pss_one (ps_ret pe_bl))
        pss_nil)
      (pss_one (ps_if (pt_val (pe_callB (k_isi K rfl) (by rfl) T.b_isinstance (by decide +kernel) (pa_cons (pv 9) (pa_cons (pe_bltn (v := .ty "list") (by rfl) T.b_list (by decide +kernel) rfl) pa_nil))))
        (pss_one (ps_expr (pe_bm0 PySem.F.plainAttrs_list PySem.F.slot_list_clear PySem.F.type_list_clear mt_clear (pv 9))))
        pss_nil))))))))
      (pss_cons (ps_set (i := 10) sc_law.nd rfl (Or.inr rfl) (pe_lcM (own := [("_law_k", 11)]) (tt := tYes) rfl sc_law.nd (pi_range1 (by rfl) T.b_range (pa_cons (pe_call (ok__law_draw T) (hr.mono (by decide)) (by rfl) T.g__law_draw T.k__law_draw T.bi__law_draw .nil pass0 (pa_cons (pv 2) (pa_cons pe_int pa_nil))) pa_nil)) (blkOk_by (N := N_law) (sc := defScope s_law) (by decide +kernel)) (fun _ _ _ _ _ => (pg_name (i := 11) sc_law.nd rfl (Or.inl rfl))) (fun _ _ _ _ _ => pts_nil) (fun _ _ _ _ _ => (pe_call (ok__law_one T) (hr.mono (by decide)) (by rfl) T.g__law_one T.k__law_one T.bi__law_one .nil pass0 (pa_cons (pv 2) (pa_cons (pe_callB (k_sortU2 K rfl rfl) (by rfl) T.b_sorted (by decide +kernel) (pa_cons (pv 6) pa_nil)) pa_nil))))))
      (pss_cons (ps_setLcM (i := 12) (own := [("_law_word", 5)]) rfl sc_law.nd rfl rfl (sw_true rfl rfl rfl (by decide +kernel)) (pi_seq K rfl (pv 10)) (blkOk_by (N := N_law) (sc := defScope s_law) (by decide +kernel)) (fun _ _ _ _ _ => (pg_name (i := 5) sc_law.nd rfl (Or.inl rfl))) (fun _ _ _ _ _ => (pts_one (pt_or2 (pt_cmpR (k_in K rfl) pe_str (pe_or2 (pe_ix (FV.ix_seqK K rfl) (pe_or2 (pe_ix (FV.ix_seqK K rfl) (pv 6) (pv 5) (fun _ _ => rfl)) (pe_dget hu (pv 6) (pv 5) (fun _ _ => rfl))) pe_int (fun _ _ => rfl)) (pe_dget hu (pe_or2 (pe_ix (FV.ix_seqK K rfl) (pv 6) (pv 5) (fun _ _ => rfl)) (pe_dget hu (pv 6) (pv 5) (fun _ _ => rfl))) pe_int (fun _ _ => rfl))) (by rfl)) (pt_cmp (pc_din hu pe_str (pe_or2 (pe_ix (FV.ix_seqK K rfl) (pe_or2 (pe_ix (FV.ix_seqK K rfl) (pv 6) (pv 5) (fun _ _ => rfl)) (pe_dget hu (pv 6) (pv 5) (fun _ _ => rfl))) pe_int (fun _ _ => rfl)) (pe_dget hu (pe_or2 (pe_ix (FV.ix_seqK K rfl) (pv 6) (pv 5) (fun _ _ => rfl)) (pe_dget hu (pv 6) (pv 5) (fun _ _ => rfl))) pe_int (fun _ _ => rfl)))))))) (fun _ _ _ _ _ => (pv 5)))
      (pss_cons (ps_if (PW.pt (pw_or (pt_cmpR (k_neU2 K rfl hr.units) (pe_call (ok_definers T) (hr.mono (by decide)) (by rfl) T.g_definers T.k_definers T.bi_definers .nil passL (pa_cons (pv 7) (pa_cons (pv 10) (pa_cons pe_str pa_nil)))) (pv 12) (nomark _)) (pw_or1 (pt_cmpR (k_neU2 K rfl hr.units) (pe_call (ok_definers T) (hr.mono (by decide)) (by rfl) T.g_definers T.k_definers T.bi_definers .nil passL (pa_cons (pv 7) (pa_cons (pe_lstM pa_nil) (pa_cons pe_str pa_nil)))) (pe_lstM pa_nil) (nomark _)))))
        (pss_one (ps_ret pe_bl))
        pss_nil)
      (pss_cons (ps_set (i := 13) sc_law.nd rfl (Or.inl rfl) (pe_callTy (k_listU K rfl rfl) (by rfl) T.b_list (by decide +kernel) (pa_cons (pv 12) pa_nil)))
      (pss_cons (ps_expr (pe_bm0 PySem.F.plainAttrs_list PySem.F.slot_list_clear PySem.F.type_list_clear mt_clear (pe_call (ok_definers T) (hr.mono (by decide)) (by rfl) T.g_definers T.k_definers T.bi_definers .nil passL (pa_cons (pv 7) (pa_cons (pv 13) (pa_cons pe_str pa_nil))))))
      (pss_cons (ps_if (pt_cmpR (k_neU2 K rfl hr.units) (pv 13) (pv 12) (nomark _))
        (pss_one (ps_ret pe_bl))
        pss_nil)
      (pss_cons (ps_set (i := 14) sc_law.nd rfl (Or.inr rfl) (pe_call (ok__law_one T) (hr.mono (by decide)) (by rfl) T.g__law_one T.k__law_one T.bi__law_one .nil pass0 (pa_cons (pv 2) (pa_cons (pe_lstM (pa_cons pe_non (pa_cons pe_str (pa_cons pe_int (pa_cons (pe_lstM pa_nil) (pa_cons pe_dnewK (pa_cons (pe_tupM (pa_cons pe_str pa_nil)) (pa_cons (pe_cmpR (k_eqU2 K rfl hr.units) pe_int pe_int (nomark _)) (pa_cons pe_str pa_nil))))))))) pa_nil))))
      (pss_cons (ps_set (i := 15) sc_law.nd rfl (Or.inl rfl) (pe_call (ok__law_draw T) (hr.mono (by decide)) (by rfl) T.g__law_draw T.k__law_draw T.bi__law_draw .nil pass0 (pa_cons (pv 2) (pa_cons (pe_op (op_addU K rfl) (pe_callB (k_lenU K rfl) (by rfl) T.b_len (by decide +kernel) (pa_cons (pv 10) pa_nil)) pe_int) pa_nil))))
      (pss_cons (ps_if (pt_cmpR (k_neQ K rfl hr.units) (FV.pe_lamF (T := [(A.t_law, ("law" ++ ".<locals>." ++ "<lambda>" : Str))]) (k := 6) (N := 2) (a := "_law_ask") (by rfl) T.g__law_said T.F__law_said T.bi__law_said sc__law_said rfl rfl (Or.inl rfl) (by rfl) (fun _ => rfl) (fun _ _ _ => (.named (i := 1) sc__law_said.nd rfl rfl ⟨(by rfl), (by decide), .inl T.x_Missing.g⟩ (fun _ _ _ _ _ hz hx => (pss_one (ps_ret (pe_tupM (pa_cons pe_str (pa_cons (pe_xf T.x_Missing.xf T.x_Missing.no hz hx (pv 1)) pa_nil)))))) (.named (i := 1) sc__law_said.nd rfl rfl ⟨(by rfl), (by decide), .inl T.x_NoName.g⟩ (fun _ _ _ _ _ hz hx => (pss_one (ps_ret (pe_tupM (pa_cons pe_str (pa_cons (pe_xf T.x_NoName.xf T.x_NoName.no hz hx (pv 1)) pa_nil)))))) (.named (i := 1) sc__law_said.nd rfl rfl ⟨(by rfl), (by decide), .inl T.x_NoSymbol.g⟩ (fun _ _ _ _ _ hz hx => (pss_one (ps_ret (pe_tupM (pa_cons pe_str (pa_cons (pe_xf T.x_NoSymbol.xf T.x_NoSymbol.no hz hx (pv 1)) pa_nil)))))) (.bare ⟨(by rfl), (by decide), .inl T.ld.g⟩ (fun _ _ _ _ _ hz hx => (pss_one (ps_ret (pe_tupM (pa_cons pe_str (pa_cons pe_non pa_nil)))))) .nil)))))
          T.tb_law rfl (List.mem_cons_self ..) FV.tabs_one (hr.mono (by decide)) (LamX.lamS_by (sc := defScope s_law) (by decide +kernel)) rfl (fun _ _ _ _ _ => rfl)
          (fun _ _ _ _ _ _ _ hr => have hu := hu_of hr; (pe_call (ok_closure T) (hr.mono (by decide)) (by rfl) T.g_closure T.k_closure T.bi_closure .nil (passes_call (takes_of rfl rfl rfl rfl) fun _ _ _ _ z => z) (pa_cons (pv 7) (pa_cons (pv 14) pa_nil))))) (pe_tupM (pa_cons pe_str (pa_cons (pv 14) pa_nil))) (nomark _))
        (pss_one (ps_ret pe_bl))
        pss_nil)
      (pss_cons (ps_set (i := 10) sc_law.nd rfl (Or.inr rfl) (pe_op (op_addU K rfl) (pe_op (op_addU K rfl) (pe_slice (sl_U K rfl) (pv 10) po_none (po_some (pv 15))) (pe_lstM (pa_cons (pv 14) pa_nil))) (pe_slice (sl_U K rfl) (pv 10) (po_some (pv 15)) po_none)))
      (pss_cons (ps_if (pt_cmpR (k_neQ K rfl hr.units) (FV.pe_lamF (T := [(A.t_law, ("law" ++ ".<locals>." ++ "<lambda>" : Str))]) (k := 6) (N := 2) (a := "_law_ask") (by rfl) T.g__law_said T.F__law_said T.bi__law_said sc__law_said rfl rfl (Or.inl rfl) (by rfl) (fun _ => rfl) (fun _ _ _ => (.named (i := 1) sc__law_said.nd rfl rfl ⟨(by rfl), (by decide), .inl T.x_Missing.g⟩ (fun _ _ _ _ _ hz hx => (pss_one (ps_ret (pe_tupM (pa_cons pe_str (pa_cons (pe_xf T.x_Missing.xf T.x_Missing.no hz hx (pv 1)) pa_nil)))))) (.named (i := 1) sc__law_said.nd rfl rfl ⟨(by rfl), (by decide), .inl T.x_NoName.g⟩ (fun _ _ _ _ _ hz hx => (pss_one (ps_ret (pe_tupM (pa_cons pe_str (pa_cons (pe_xf T.x_NoName.xf T.x_NoName.no hz hx (pv 1)) pa_nil)))))) (.named (i := 1) sc__law_said.nd rfl rfl ⟨(by rfl), (by decide), .inl T.x_NoSymbol.g⟩ (fun _ _ _ _ _ hz hx => (pss_one (ps_ret (pe_tupM (pa_cons pe_str (pa_cons (pe_xf T.x_NoSymbol.xf T.x_NoSymbol.no hz hx (pv 1)) pa_nil)))))) (.bare ⟨(by rfl), (by decide), .inl T.ld.g⟩ (fun _ _ _ _ _ hz hx => (pss_one (ps_ret (pe_tupM (pa_cons pe_str (pa_cons pe_non pa_nil)))))) .nil)))))
          T.tb_law rfl (List.mem_cons_self ..) FV.tabs_one (hr.mono (by decide)) (LamX.lamS_by (sc := defScope s_law) (by decide +kernel)) rfl (fun _ _ _ _ _ => rfl)
          (fun _ _ _ _ _ _ _ hr => have hu := hu_of hr; (pe_call (ok_definers T) (hr.mono (by decide)) (by rfl) T.g_definers T.k_definers T.bi_definers .nil (passes_call (takes_of rfl rfl rfl rfl) fun _ _ _ _ z => z) (pa_cons (pv 7) (pa_cons (pv 10) (pa_cons (pe_call (ok__law_one T) (hr.mono (by decide)) (by rfl) T.g__law_one T.k__law_one T.bi__law_one .nil pass0 (pa_cons (pv 2) (pa_cons (pe_lstM (pa_cons pe_str (pa_cons pe_int pa_nil))) pa_nil))) pa_nil)))))) (pe_tupM (pa_cons pe_str (pa_cons (pv 14) pa_nil))) (nomark _))
        (pss_one (ps_ret pe_bl))
        pss_nil)
      (pss_cons (ps_set (i := 16) sc_law.nd rfl (Or.inr rfl) (pe_call (ok__law_one T) (hr.mono (by decide)) (by rfl) T.g__law_one T.k__law_one T.bi__law_one .nil pass0 (pa_cons (pv 2) (pa_cons (pe_lstM (pa_cons pe_non (pa_cons pe_str (pa_cons pe_str (pa_cons pe_int (pa_cons (pe_lstM pa_nil) (pa_cons pe_dnewK (pa_cons (pe_tupM (pa_cons pe_str pa_nil)) (pa_cons (pe_cmpR (k_eqU2 K rfl hr.units) pe_int pe_int (nomark _)) (pa_cons pe_str pa_nil)))))))))) pa_nil))))
      (pss_cons (ps_expr (pe_bm PySem.F.plainAttrs_list PySem.F.slot_list_pop PySem.F.type_list_pop mt_popAt (pv 10) (pa_cons (pv 15) pa_nil)))
      (pss_one (ps_if (pt_cmpR (k_neQ K rfl hr.units) (FV.pe_lamF (T := [(A.t_law, ("law" ++ ".<locals>." ++ "<lambda>" : Str))]) (k := 6) (N := 2) (a := "_law_ask") (by rfl) T.g__law_said T.F__law_said T.bi__law_said sc__law_said rfl rfl (Or.inl rfl) (by rfl) (fun _ => rfl) (fun _ _ _ => (.named (i := 1) sc__law_said.nd rfl rfl ⟨(by rfl), (by decide), .inl T.x_Missing.g⟩ (fun _ _ _ _ _ hz hx => (pss_one (ps_ret (pe_tupM (pa_cons pe_str (pa_cons (pe_xf T.x_Missing.xf T.x_Missing.no hz hx (pv 1)) pa_nil)))))) (.named (i := 1) sc__law_said.nd rfl rfl ⟨(by rfl), (by decide), .inl T.x_NoName.g⟩ (fun _ _ _ _ _ hz hx => (pss_one (ps_ret (pe_tupM (pa_cons pe_str (pa_cons (pe_xf T.x_NoName.xf T.x_NoName.no hz hx (pv 1)) pa_nil)))))) (.named (i := 1) sc__law_said.nd rfl rfl ⟨(by rfl), (by decide), .inl T.x_NoSymbol.g⟩ (fun _ _ _ _ _ hz hx => (pss_one (ps_ret (pe_tupM (pa_cons pe_str (pa_cons (pe_xf T.x_NoSymbol.xf T.x_NoSymbol.no hz hx (pv 1)) pa_nil)))))) (.bare ⟨(by rfl), (by decide), .inl T.ld.g⟩ (fun _ _ _ _ _ hz hx => (pss_one (ps_ret (pe_tupM (pa_cons pe_str (pa_cons pe_non pa_nil)))))) .nil)))))
          T.tb_law rfl (List.mem_cons_self ..) FV.tabs_one (hr.mono (by decide)) (LamX.lamS_by (sc := defScope s_law) (by decide +kernel)) rfl (fun _ _ _ _ _ => rfl)
          (fun _ _ _ _ _ _ _ hr => have hu := hu_of hr; (pe_call (ok_definers T) (hr.mono (by decide)) (by rfl) T.g_definers T.k_definers T.bi_definers .nil (passes_call (takes_of rfl rfl rfl rfl) fun _ _ _ _ z => z) (pa_cons (pv 7) (pa_cons (pv 10) (pa_cons (pv 16) pa_nil)))))) (pe_tupM (pa_cons pe_str (pa_cons (pv 16) pa_nil))) (nomark _))
        (pss_one (ps_ret pe_bl))
        pss_nil))))))))))))))))))))))))
      (pss_one (ps_ret pe_bl))), ?_⟩
  exact FV.body_ok (c := ctA K A) (N := N_law) (n := 1) (ms := [false, true, true, true, true, true, true, true, true, true, true, true, true, true, true, true, true]) (B := b_law) (E0 := E) ((js_seq (js_for (ji_seq (je_op jo_catS (je_sl (je_var (i := 0)) jpo_none (jpo_some (je_c (x := .int 10) fun _ => .int))) (je_lst (ja_cons (je_c (x := .int 0) fun _ => .int) (ja_cons (je_c (x := .int 1) fun _ => .int) ja_nil))))) (jg_name (i := 1))
        (js_seq (js_set (i := 2) (je_q (je_call (n := 1) (jm_val (je_var (i := 1)) jm_nil))))
      (js_seq (js_set (i := 3) (je_fz (je_q (je_call (n := 2) (jm_slot 2 (jm_val (je_c (x := .int 9) fun _ => .int) jm_nil))))))
      (js_seq (js_if (jt_test (je_op jo_eq2 (je_q (je_call (n := 2) (jm_slot 2 (jm_val (je_c (x := .int 4) fun _ => .int) jm_nil)))) (je_c (x := .int 0) fun _ => .int)))
        (js_set (i := 3) (je_fz (je_q (je_call (n := 1) (jm_slot 2 jm_nil)))))
        js_next)
      (js_seq (js_set (i := 4) (je_fz (je_comp (ms := maskL 17 [5]) (ji_seq (je_sl (je_cb jc_sort2 (ja_cons (je_var (i := 3)) ja_nil)) (jpo_some (je_c (x := .int 1) fun _ => .int)) jpo_none)) (jg_name (i := 5)) (jt_test (je_op jo_eq2 (je_q (je_call (n := 2) (jm_slot 2 (jm_val (je_c (x := .int 6) fun _ => .int) jm_nil)))) (je_c (x := .int 0) fun _ => .int))) (je_var (i := 5)) onlyAt_mask)))
      (js_seq (js_set (i := 6) je_dnewK)
      (js_seq (js_forK (kd := .keys) (jvl_var (i := 3)) (jg_name (i := 5))
        (js_if (jt_notIn (je_var (i := 5)) (je_var (i := 4)))
        (js_dput (ln_var (i := 6)) (je_var (i := 5)) (je_sub (je_var (i := 3)) (je_var (i := 5))) [])
        js_next))
      (js_seq (js_Wa [false, false, false, false, false, false, false, true] (js_set (i := 7) (je_fz (je_q (je_call (n := 1) (jm_val (je_var (i := 6)) jm_nil))))))
      (js_seq (js_Wa [false, false, false, false, false, true, false, false, true, true] (js_forK (kd := .keys) (jvl_var (i := 6)) (jg_name (i := 5))
        (js_for (ji_range1 (ja_cons (je_c (x := .int 2) fun _ => .int) ja_nil)) (jg_name (i := 8))
        (js_seq (js_set (i := 9) (je_lam (E0 := fun _ _ _ _ => False) (pins := []) (exm_cons (a := 3) (b := 4) (t := false) T.ex_NoName_Missing (exm_cons (a := 3) (b := 3) (t := true) T.x_NoName.te (exm_cons (a := 5) (b := 4) (t := false) T.ex_NoSymbol_Missing (exm_cons (a := 5) (b := 3) (t := false) T.ex_NoSymbol_NoName (exm_cons (a := 5) (b := 5) (t := true) T.x_NoSymbol.te (exm_cons (a := 4) (b := 4) (t := true) T.x_Missing.te exm_nil)))))) (.pr (cls := 4) (i := 1) (fld := "name") (k := "absent") (.pr (cls := 3) (i := 1) (fld := "name") (k := "name") (.pr (cls := 5) (i := 1) (fld := "symbol") (k := "symbol") (.br (cls := 0) (js_ret (je_tup (ja_cons (je_c (x := .str "other") fun _ => .str) (ja_cons (je_c (x := .non) fun _ => .non) ja_nil)))) .nil)))) (fun _ => (je_call (n := 2) (jm_val (je_var (i := 7)) (jm_val (je_var (i := 5)) jm_nil))))))
      (js_seq (js_if (jt_W [] (jt_test (je_op jo_ne2 (je_var (i := 9)) (je_q (je_call (n := 3) (jm_val (je_var (i := 3)) (jm_val (je_var (i := 5)) (jm_val (je_var (i := 4)) jm_nil))))))))
        (js_ret (je_c (x := .bl false) fun _ => .bl))
        js_next)
      (js_if (jt_W [] (jt_B (je_cb jc_isi (ja_cons (je_var (i := 9)) (ja_cons (je_c (x := .raw (.ty "list")) fun _ => .raw) ja_nil)))))
        (js_drop (je_mth0 (T := "list") (ln_var (i := 9)) jm_clear))
        js_next))))))
      (js_seq (js_Wa [false, false, true, false, false, false, false, false, false, false, true] (js_set (i := 10) (je_comp (ms := maskL 17 [11]) (ji_range1 (ja_cons (je_q (je_call (n := 2) (jm_slot 2 (jm_val (je_c (x := .int 9) fun _ => .int) jm_nil)))) ja_nil)) (jg_name (i := 11)) jt_yes (je_q (je_call (n := 2) (jm_slot 2 (jm_val (je_fz (je_cb jc_sort2 (ja_cons (je_var (i := 6)) ja_nil))) jm_nil)))) onlyAt_mask)))
      (js_seq (js_Wa [false, false, false, false, false, true, false, false, false, false, false, false, true] (js_set (i := 12) (je_fz (je_comp (ms := maskL 17 [5]) (ji_seq (je_var (i := 10))) (jg_name (i := 5)) (jt_in (je_c (x := .str "put") fun _ => .str) (je_sub (je_sub (je_var (i := 6)) (je_var (i := 5))) (je_c (x := .int 1) fun _ => .int))) (je_var (i := 5)) onlyAt_mask))))
      (js_seq (js_if (jt_W [] (jt_or (jt_test (je_op jo_ne2 (je_q (je_call (n := 3) (jm_val (je_var (i := 7)) (jm_val (je_var (i := 10)) (jm_val (je_c (x := .str "put") fun _ => .str) jm_nil))))) (je_var (i := 12)))) (jt_test (je_op jo_ne2 (je_q (je_call (n := 3) (jm_val (je_var (i := 7)) (jm_val (je_fz (je_lst ja_nil)) (jm_val (je_c (x := .str "put") fun _ => .str) jm_nil))))) (je_lst ja_nil)))))
        (js_ret (je_c (x := .bl false) fun _ => .bl))
        js_next)
      (js_seq (js_set (i := 13) (je_fz (je_cb jc_list (ja_cons (je_var (i := 12)) ja_nil))))
      (js_seq (js_drop (je_clearV (je_q (je_call (n := 3) (jm_val (je_var (i := 7)) (jm_val (je_var (i := 13)) (jm_val (je_c (x := .str "put") fun _ => .str) jm_nil)))))))
      (js_seq (js_if (jt_test (je_op jo_ne2 (je_var (i := 13)) (je_var (i := 12))))
        (js_ret (je_c (x := .bl false) fun _ => .bl))
        js_next)
      (js_seq (js_set (i := 14) (je_fz (je_q (je_call (n := 2) (jm_slot 2 (jm_val (je_fz (je_lst (ja_cons (je_c (x := .non) fun _ => .non) (ja_cons (je_c (x := .str "nolib") fun _ => .str) (ja_cons (je_c (x := .int 7) fun _ => .int) (ja_cons (je_lst ja_nil) (ja_cons je_dnewK (ja_cons (je_tup (ja_cons (je_c (x := .str "app") fun _ => .str) ja_nil)) (ja_cons (je_op jo_eq2 (je_c (x := .int 1) fun _ => .int) (je_c (x := .int 1) fun _ => .int)) (ja_cons (je_c (x := .str "") fun _ => .str) ja_nil)))))))))) jm_nil))))))
      (js_seq (js_Wa [false, false, true, false, false, false, false, false, false, false, false, false, false, false, false, true] (js_set (i := 15) (je_q (je_call (n := 2) (jm_slot 2 (jm_val (je_op jo_add (je_cb jc_len (ja_cons (je_var (i := 10)) ja_nil)) (je_c (x := .int 1) fun _ => .int)) jm_nil))))))
      (js_seq (js_if (jt_test (je_op jo_neQ (je_lam (E0 := fun _ _ _ _ => False) (pins := []) (exm_cons (a := 3) (b := 4) (t := false) T.ex_NoName_Missing (exm_cons (a := 3) (b := 3) (t := true) T.x_NoName.te (exm_cons (a := 5) (b := 4) (t := false) T.ex_NoSymbol_Missing (exm_cons (a := 5) (b := 3) (t := false) T.ex_NoSymbol_NoName (exm_cons (a := 5) (b := 5) (t := true) T.x_NoSymbol.te (exm_cons (a := 4) (b := 4) (t := true) T.x_Missing.te exm_nil)))))) (.pr (cls := 4) (i := 1) (fld := "name") (k := "absent") (.pr (cls := 3) (i := 1) (fld := "name") (k := "name") (.pr (cls := 5) (i := 1) (fld := "symbol") (k := "symbol") (.br (cls := 0) (js_ret (je_tup (ja_cons (je_c (x := .str "other") fun _ => .str) (ja_cons (je_c (x := .non) fun _ => .non) ja_nil)))) .nil)))) (fun _ => (je_call (n := 2) (jm_val (je_var (i := 7)) (jm_val (je_var (i := 14)) jm_nil))))) (je_tup (ja_cons (je_c (x := .str "name") fun _ => .str) (ja_cons (je_var (i := 14)) ja_nil)))))
        (js_ret (je_c (x := .bl false) fun _ => .bl))
        js_next)
      (js_seq (js_set (i := 10) (je_W [] (je_op jo_add (je_op jo_add (je_sl (je_var (i := 10)) jpo_none (jpo_some (je_var (i := 15)))) (je_lst (ja_cons (je_var (i := 14)) ja_nil))) (je_sl (je_var (i := 10)) (jpo_some (je_var (i := 15))) jpo_none))))
      (js_seq (js_if (jt_W [false, false, true] (jt_test (je_op jo_neQ (je_lam (E0 := fun _ _ _ _ => False) (pins := []) (exm_cons (a := 3) (b := 4) (t := false) T.ex_NoName_Missing (exm_cons (a := 3) (b := 3) (t := true) T.x_NoName.te (exm_cons (a := 5) (b := 4) (t := false) T.ex_NoSymbol_Missing (exm_cons (a := 5) (b := 3) (t := false) T.ex_NoSymbol_NoName (exm_cons (a := 5) (b := 5) (t := true) T.x_NoSymbol.te (exm_cons (a := 4) (b := 4) (t := true) T.x_Missing.te exm_nil)))))) (.pr (cls := 4) (i := 1) (fld := "name") (k := "absent") (.pr (cls := 3) (i := 1) (fld := "name") (k := "name") (.pr (cls := 5) (i := 1) (fld := "symbol") (k := "symbol") (.br (cls := 0) (js_ret (je_tup (ja_cons (je_c (x := .str "other") fun _ => .str) (ja_cons (je_c (x := .non) fun _ => .non) ja_nil)))) .nil)))) (fun _ => (je_call (n := 3) (jm_val (je_var (i := 7)) (jm_val (je_var (i := 10)) (jm_val (je_fz (je_q (je_call (n := 2) (jm_slot 2 (jm_val (je_fz (je_lst (ja_cons (je_c (x := .str "put") fun _ => .str) (ja_cons (je_c (x := .int 7) fun _ => .int) ja_nil)))) jm_nil))))) jm_nil)))))) (je_tup (ja_cons (je_c (x := .str "name") fun _ => .str) (ja_cons (je_var (i := 14)) ja_nil))))))
        (js_ret (je_c (x := .bl false) fun _ => .bl))
        js_next)
      (js_seq (js_set (i := 16) (je_fz (je_q (je_call (n := 2) (jm_slot 2 (jm_val (je_fz (je_lst (ja_cons (je_c (x := .non) fun _ => .non) (ja_cons (je_c (x := .str "") fun _ => .str) (ja_cons (je_c (x := .str "A") fun _ => .str) (ja_cons (je_c (x := .int 7) fun _ => .int) (ja_cons (je_lst ja_nil) (ja_cons je_dnewK (ja_cons (je_tup (ja_cons (je_c (x := .str "put") fun _ => .str) ja_nil)) (ja_cons (je_op jo_eq2 (je_c (x := .int 1) fun _ => .int) (je_c (x := .int 0) fun _ => .int)) (ja_cons (je_c (x := .str "abcdefghijklm") fun _ => .str) ja_nil))))))))))) jm_nil))))))
      (js_seq (js_drop (je_mth (T := "list") (ln_var (i := 10)) jm_popAt [] (ja_cons (je_var (i := 15)) ja_nil)))
      (js_if (jt_W [] (jt_test (je_op jo_neQ (je_lam (E0 := fun _ _ _ _ => False) (pins := []) (exm_cons (a := 3) (b := 4) (t := false) T.ex_NoName_Missing (exm_cons (a := 3) (b := 3) (t := true) T.x_NoName.te (exm_cons (a := 5) (b := 4) (t := false) T.ex_NoSymbol_Missing (exm_cons (a := 5) (b := 3) (t := false) T.ex_NoSymbol_NoName (exm_cons (a := 5) (b := 5) (t := true) T.x_NoSymbol.te (exm_cons (a := 4) (b := 4) (t := true) T.x_Missing.te exm_nil)))))) (.pr (cls := 4) (i := 1) (fld := "name") (k := "absent") (.pr (cls := 3) (i := 1) (fld := "name") (k := "name") (.pr (cls := 5) (i := 1) (fld := "symbol") (k := "symbol") (.br (cls := 0) (js_ret (je_tup (ja_cons (je_c (x := .str "other") fun _ => .str) (ja_cons (je_c (x := .non) fun _ => .non) ja_nil)))) .nil)))) (fun _ => (je_call (n := 3) (jm_val (je_var (i := 7)) (jm_val (je_var (i := 10)) (jm_val (je_var (i := 16)) jm_nil)))))) (je_tup (ja_cons (je_c (x := .str "symbol") fun _ => .str) (ja_cons (je_var (i := 16)) ja_nil))))))
        (js_ret (je_c (x := .bl false) fun _ => .bl))
        js_next)))))))))))))))))))))))
      (js_ret (je_c (x := .bl true) fun _ => .bl)))) (by decide) h
end
/-- the law with its tables -/
abbrev spTab (K : PySem.W.Frag) (A : Adr) : Sp := FV.spLawT K (ctA K A).T
section
variable {P : Program} {w : World} {K : PySem.W.Frag} {mg : Str → Option Value} {base : Heap} {A : Adr}
theorem okS_law (T : TxtB K mg A base) : FnOk P w K mg base CX0 9 A.f_law A.d_law P_law (spTab K A) := FV.fnOk_sp (ok_law T) fun _ _ _ _ h => FV.sp_law63 (c := ctA K A) law_eq h
end
theorem all_mk {l : PySem.W.OpenLaw} {w : World} {K : PySem.W.Frag} {h : Heap} {mg : Str → Option Value} {fa : Addr} (X : K.In h) (G : h.Ns mainGlobals mg) (hfa : mg "law" = some (.ref fa))
    {C_LoadError C_NoLibrary C_NoStore C_NoName C_Missing C_NoSymbol C_Library C_Store : Addr}
    {f_NoLibrary___init__ f_NoStore___init__ f_NoName___init__ f_Missing___init__ f_NoSymbol___init__ f_is_word f_are_words f_check_symbol f_closure f_grown f_definers f_Library___init__ f_Library_row f_Library___eq__ f_Store___init__ f_Store___getitem__ f_Store___iter__ f_Store___contains__ f_Store___len__ f__law_well f__law_draw f__law_one f__law_spec f__law_store f__law_row f__law_due f__law_said f_law : Addr}
    {oc_NoLibrary___init__ dc_NoLibrary___init__ pm_NoLibrary___init__ cd_NoLibrary___init__ ct_NoLibrary___init__ kV_NoLibrary___init__ : Value}
    {od_NoLibrary___init__ an_NoLibrary___init__ : Option Addr}
    {sl_NoLibrary___init__ : Array (Option Value)}
    {oc_NoStore___init__ dc_NoStore___init__ pm_NoStore___init__ cd_NoStore___init__ ct_NoStore___init__ kV_NoStore___init__ : Value}
    {od_NoStore___init__ an_NoStore___init__ : Option Addr}
    {sl_NoStore___init__ : Array (Option Value)}
    {oc_NoName___init__ dc_NoName___init__ pm_NoName___init__ cd_NoName___init__ ct_NoName___init__ kV_NoName___init__ : Value}
    {od_NoName___init__ an_NoName___init__ : Option Addr}
    {sl_NoName___init__ : Array (Option Value)}
    {oc_Missing___init__ dc_Missing___init__ pm_Missing___init__ cd_Missing___init__ ct_Missing___init__ kV_Missing___init__ : Value}
    {od_Missing___init__ an_Missing___init__ : Option Addr}
    {sl_Missing___init__ : Array (Option Value)}
    {oc_NoSymbol___init__ dc_NoSymbol___init__ pm_NoSymbol___init__ cd_NoSymbol___init__ ct_NoSymbol___init__ kV_NoSymbol___init__ : Value}
    {od_NoSymbol___init__ an_NoSymbol___init__ : Option Addr}
    {sl_NoSymbol___init__ : Array (Option Value)}
    {oc_is_word dc_is_word pm_is_word cd_is_word ct_is_word kV_is_word : Value}
    {od_is_word an_is_word : Option Addr}
    {sl_is_word : Array (Option Value)}
    {oc_are_words dc_are_words pm_are_words cd_are_words ct_are_words kV_are_words : Value}
    {od_are_words an_are_words : Option Addr}
    {sl_are_words : Array (Option Value)}
    {oc_check_symbol dc_check_symbol pm_check_symbol cd_check_symbol ct_check_symbol kV_check_symbol : Value}
    {od_check_symbol an_check_symbol : Option Addr}
    {sl_check_symbol : Array (Option Value)}
    {oc_closure dc_closure pm_closure cd_closure ct_closure kV_closure : Value}
    {od_closure an_closure : Option Addr}
    {sl_closure : Array (Option Value)}
    {oc_grown dc_grown pm_grown cd_grown ct_grown kV_grown : Value}
    {od_grown an_grown : Option Addr}
    {sl_grown : Array (Option Value)}
    {oc_definers dc_definers pm_definers cd_definers ct_definers kV_definers : Value}
    {od_definers an_definers : Option Addr}
    {sl_definers : Array (Option Value)}
    {oc_Library___init__ dc_Library___init__ pm_Library___init__ cd_Library___init__ ct_Library___init__ : Value}
    {od_Library___init__ an_Library___init__ : Option Addr}
    {sl_Library___init__ : Array (Option Value)}
    {D_Library___init__ : Addr}
    {oc_Library_row dc_Library_row pm_Library_row cd_Library_row ct_Library_row kV_Library_row : Value}
    {od_Library_row an_Library_row : Option Addr}
    {sl_Library_row : Array (Option Value)}
    {oc_Library___eq__ dc_Library___eq__ pm_Library___eq__ cd_Library___eq__ ct_Library___eq__ kV_Library___eq__ : Value}
    {od_Library___eq__ an_Library___eq__ : Option Addr}
    {sl_Library___eq__ : Array (Option Value)}
    {oc_Store___init__ dc_Store___init__ pm_Store___init__ cd_Store___init__ ct_Store___init__ kV_Store___init__ : Value}
    {od_Store___init__ an_Store___init__ : Option Addr}
    {sl_Store___init__ : Array (Option Value)}
    {oc_Store___getitem__ dc_Store___getitem__ pm_Store___getitem__ cd_Store___getitem__ ct_Store___getitem__ kV_Store___getitem__ : Value}
    {od_Store___getitem__ an_Store___getitem__ : Option Addr}
    {sl_Store___getitem__ : Array (Option Value)}
    {oc_Store___iter__ dc_Store___iter__ pm_Store___iter__ cd_Store___iter__ ct_Store___iter__ kV_Store___iter__ : Value}
    {od_Store___iter__ an_Store___iter__ : Option Addr}
    {sl_Store___iter__ : Array (Option Value)}
    {oc_Store___contains__ dc_Store___contains__ pm_Store___contains__ cd_Store___contains__ ct_Store___contains__ kV_Store___contains__ : Value}
    {od_Store___contains__ an_Store___contains__ : Option Addr}
    {sl_Store___contains__ : Array (Option Value)}
    {oc_Store___len__ dc_Store___len__ pm_Store___len__ cd_Store___len__ ct_Store___len__ kV_Store___len__ : Value}
    {od_Store___len__ an_Store___len__ : Option Addr}
    {sl_Store___len__ : Array (Option Value)}
    {oc__law_well dc__law_well pm__law_well cd__law_well ct__law_well kV__law_well : Value}
    {od__law_well an__law_well : Option Addr}
    {sl__law_well : Array (Option Value)}
    {oc__law_draw dc__law_draw pm__law_draw cd__law_draw ct__law_draw kV__law_draw : Value}
    {od__law_draw an__law_draw : Option Addr}
    {sl__law_draw : Array (Option Value)}
    {oc__law_one dc__law_one pm__law_one cd__law_one ct__law_one kV__law_one : Value}
    {od__law_one an__law_one : Option Addr}
    {sl__law_one : Array (Option Value)}
    {oc__law_spec dc__law_spec pm__law_spec cd__law_spec ct__law_spec kV__law_spec : Value}
    {od__law_spec an__law_spec : Option Addr}
    {sl__law_spec : Array (Option Value)}
    {oc__law_store dc__law_store pm__law_store cd__law_store ct__law_store kV__law_store : Value}
    {od__law_store an__law_store : Option Addr}
    {sl__law_store : Array (Option Value)}
    {oc__law_row dc__law_row pm__law_row cd__law_row ct__law_row kV__law_row : Value}
    {od__law_row an__law_row : Option Addr}
    {sl__law_row : Array (Option Value)}
    {oc__law_due dc__law_due pm__law_due cd__law_due ct__law_due kV__law_due : Value}
    {od__law_due an__law_due : Option Addr}
    {sl__law_due : Array (Option Value)}
    {oc__law_said dc__law_said pm__law_said cd__law_said ct__law_said kV__law_said : Value}
    {od__law_said an__law_said : Option Addr}
    {sl__law_said : Array (Option Value)}
    {oc_law dc_law pm_law ct_law kV_law : Value}
    {od_law an_law : Option Addr}
    {sl_law : Array (Option Value)}
    {cv_law : Array Value}
    {cx_law : Option Addr}
    {cs_law : Array (Option Value)}
    {e0 : Addr}
    {e1 : Addr}
    {e2 : Addr}
    {e3 : Addr}
    {c_law : Addr}
    {t_law : Addr}
    {t_LETTERS : Tok}
    {t_MOST_LIBRARIES : Tok}
    {nm_NoLibrary q_NoLibrary : Str}
    {N_NoLibrary : Addr}
    {bs_NoLibrary bm_NoLibrary sub_NoLibrary : List Value}
    {sn_NoLibrary : List Str}
    {ab_NoLibrary : Bool}
    {co_NoLibrary : Option Bool}
    {dd_NoLibrary : Option Addr}
    {m0_NoLibrary m1_NoLibrary m2_NoLibrary m3_NoLibrary m5_NoLibrary : Option Value}
    {nm_NoStore q_NoStore : Str}
    {N_NoStore : Addr}
    {bs_NoStore bm_NoStore sub_NoStore : List Value}
    {sn_NoStore : List Str}
    {ab_NoStore : Bool}
    {co_NoStore : Option Bool}
    {dd_NoStore : Option Addr}
    {m0_NoStore m1_NoStore m2_NoStore m3_NoStore m5_NoStore : Option Value}
    {nm_NoName q_NoName : Str}
    {N_NoName : Addr}
    {bs_NoName bm_NoName sub_NoName : List Value}
    {sn_NoName : List Str}
    {ab_NoName : Bool}
    {co_NoName : Option Bool}
    {dd_NoName : Option Addr}
    {m0_NoName m1_NoName m2_NoName m3_NoName m5_NoName : Option Value}
    {nm_Missing q_Missing : Str}
    {N_Missing : Addr}
    {bs_Missing bm_Missing sub_Missing : List Value}
    {sn_Missing : List Str}
    {ab_Missing : Bool}
    {co_Missing : Option Bool}
    {dd_Missing : Option Addr}
    {m0_Missing m1_Missing m2_Missing m3_Missing m5_Missing : Option Value}
    {nm_NoSymbol q_NoSymbol : Str}
    {N_NoSymbol : Addr}
    {bs_NoSymbol bm_NoSymbol sub_NoSymbol : List Value}
    {sn_NoSymbol : List Str}
    {ab_NoSymbol : Bool}
    {co_NoSymbol : Option Bool}
    {dd_NoSymbol : Option Addr}
    {m0_NoSymbol m1_NoSymbol m2_NoSymbol m3_NoSymbol m5_NoSymbol : Option Value}
    {n_e0 : Nat}
    {so_e0 : Array (Option Value)}
    {do_e0 : Option Addr}
    {n_e1 : Nat}
    {so_e1 : Array (Option Value)}
    {do_e1 : Option Addr}
    {n_e2 : Nat}
    {so_e2 : Array (Option Value)}
    {do_e2 : Option Addr}
    {n_e3 : Nat}
    {so_e3 : Array (Option Value)}
    {do_e3 : Option Addr}
    (g0_LoadError : PySem.W.nsIn K mainGlobals "LoadError" = some (some (.ref C_LoadError)))
    (g0_NoLibrary : PySem.W.nsIn K mainGlobals "NoLibrary" = some (some (.ref C_NoLibrary)))
    (g0_NoStore : PySem.W.nsIn K mainGlobals "NoStore" = some (some (.ref C_NoStore)))
    (g0_NoName : PySem.W.nsIn K mainGlobals "NoName" = some (some (.ref C_NoName)))
    (g0_Missing : PySem.W.nsIn K mainGlobals "Missing" = some (some (.ref C_Missing)))
    (g0_NoSymbol : PySem.W.nsIn K mainGlobals "NoSymbol" = some (some (.ref C_NoSymbol)))
    (g0_Library : PySem.W.nsIn K mainGlobals "Library" = some (some (.ref C_Library)))
    (g0_Store : PySem.W.nsIn K mainGlobals "Store" = some (some (.ref C_Store)))
    (at_NoLibrary___init__ : PySem.W.findIn K (.ref C_NoLibrary) "__init__" = some (some (.ref f_NoLibrary___init__)))
    (at_NoStore___init__ : PySem.W.findIn K (.ref C_NoStore) "__init__" = some (some (.ref f_NoStore___init__)))
    (at_NoName___init__ : PySem.W.findIn K (.ref C_NoName) "__init__" = some (some (.ref f_NoName___init__)))
    (at_Missing___init__ : PySem.W.findIn K (.ref C_Missing) "__init__" = some (some (.ref f_Missing___init__)))
    (at_NoSymbol___init__ : PySem.W.findIn K (.ref C_NoSymbol) "__init__" = some (some (.ref f_NoSymbol___init__)))
    (g0_is_word : PySem.W.nsIn K mainGlobals "is_word" = some (some (.ref f_is_word)))
    (g0_are_words : PySem.W.nsIn K mainGlobals "are_words" = some (some (.ref f_are_words)))
    (g0_check_symbol : PySem.W.nsIn K mainGlobals "check_symbol" = some (some (.ref f_check_symbol)))
    (g0_closure : PySem.W.nsIn K mainGlobals "closure" = some (some (.ref f_closure)))
    (g0_grown : PySem.W.nsIn K mainGlobals "grown" = some (some (.ref f_grown)))
    (g0_definers : PySem.W.nsIn K mainGlobals "definers" = some (some (.ref f_definers)))
    (at_Library___init__ : PySem.W.findIn K (.ref C_Library) "__init__" = some (some (.ref f_Library___init__)))
    (at_Library_row : PySem.W.findIn K (.ref C_Library) "row" = some (some (.ref f_Library_row)))
    (at_Library___eq__ : PySem.W.findIn K (.ref C_Library) "__eq__" = some (some (.ref f_Library___eq__)))
    (at_Store___init__ : PySem.W.findIn K (.ref C_Store) "__init__" = some (some (.ref f_Store___init__)))
    (at_Store___getitem__ : PySem.W.findIn K (.ref C_Store) "__getitem__" = some (some (.ref f_Store___getitem__)))
    (at_Store___iter__ : PySem.W.findIn K (.ref C_Store) "__iter__" = some (some (.ref f_Store___iter__)))
    (at_Store___contains__ : PySem.W.findIn K (.ref C_Store) "__contains__" = some (some (.ref f_Store___contains__)))
    (at_Store___len__ : PySem.W.findIn K (.ref C_Store) "__len__" = some (some (.ref f_Store___len__)))
    (g0__law_well : PySem.W.nsIn K mainGlobals "_law_well" = some (some (.ref f__law_well)))
    (g0__law_draw : PySem.W.nsIn K mainGlobals "_law_draw" = some (some (.ref f__law_draw)))
    (g0__law_one : PySem.W.nsIn K mainGlobals "_law_one" = some (some (.ref f__law_one)))
    (g0__law_spec : PySem.W.nsIn K mainGlobals "_law_spec" = some (some (.ref f__law_spec)))
    (g0__law_store : PySem.W.nsIn K mainGlobals "_law_store" = some (some (.ref f__law_store)))
    (g0__law_row : PySem.W.nsIn K mainGlobals "_law_row" = some (some (.ref f__law_row)))
    (g0__law_due : PySem.W.nsIn K mainGlobals "_law_due" = some (some (.ref f__law_due)))
    (g0__law_said : PySem.W.nsIn K mainGlobals "_law_said" = some (some (.ref f__law_said)))
    (g0_law : PySem.W.nsIn K mainGlobals "law" = some (some (.ref f_law)))
    (l_NoLibrary___init__ : K.lookup f_NoLibrary___init__ = some ⟨oc_NoLibrary___init__, od_NoLibrary___init__, .func (PySem.W.fnOf "__init__" "NoLibrary.__init__" (defArgs s_NoLibrary___init__) (defBody s_NoLibrary___init__) (defScope s_NoLibrary___init__) .none kV_NoLibrary___init__ dc_NoLibrary___init__ pm_NoLibrary___init__ an_NoLibrary___init__ cd_NoLibrary___init__ ct_NoLibrary___init__), sl_NoLibrary___init__⟩)
    (cd1_NoLibrary___init__ : PySem.W.codeIn K cd_NoLibrary___init__ "NoLibrary.__init__" = true)
    (kp_NoLibrary___init__ : PySem.W.keepIn K (.ref f_NoLibrary___init__) = true)
    (l_NoStore___init__ : K.lookup f_NoStore___init__ = some ⟨oc_NoStore___init__, od_NoStore___init__, .func (PySem.W.fnOf "__init__" "NoStore.__init__" (defArgs s_NoStore___init__) (defBody s_NoStore___init__) (defScope s_NoStore___init__) .none kV_NoStore___init__ dc_NoStore___init__ pm_NoStore___init__ an_NoStore___init__ cd_NoStore___init__ ct_NoStore___init__), sl_NoStore___init__⟩)
    (cd1_NoStore___init__ : PySem.W.codeIn K cd_NoStore___init__ "NoStore.__init__" = true)
    (kp_NoStore___init__ : PySem.W.keepIn K (.ref f_NoStore___init__) = true)
    (l_NoName___init__ : K.lookup f_NoName___init__ = some ⟨oc_NoName___init__, od_NoName___init__, .func (PySem.W.fnOf "__init__" "NoName.__init__" (defArgs s_NoName___init__) (defBody s_NoName___init__) (defScope s_NoName___init__) .none kV_NoName___init__ dc_NoName___init__ pm_NoName___init__ an_NoName___init__ cd_NoName___init__ ct_NoName___init__), sl_NoName___init__⟩)
    (cd1_NoName___init__ : PySem.W.codeIn K cd_NoName___init__ "NoName.__init__" = true)
    (kp_NoName___init__ : PySem.W.keepIn K (.ref f_NoName___init__) = true)
    (l_Missing___init__ : K.lookup f_Missing___init__ = some ⟨oc_Missing___init__, od_Missing___init__, .func (PySem.W.fnOf "__init__" "Missing.__init__" (defArgs s_Missing___init__) (defBody s_Missing___init__) (defScope s_Missing___init__) .none kV_Missing___init__ dc_Missing___init__ pm_Missing___init__ an_Missing___init__ cd_Missing___init__ ct_Missing___init__), sl_Missing___init__⟩)
    (cd1_Missing___init__ : PySem.W.codeIn K cd_Missing___init__ "Missing.__init__" = true)
    (kp_Missing___init__ : PySem.W.keepIn K (.ref f_Missing___init__) = true)
    (l_NoSymbol___init__ : K.lookup f_NoSymbol___init__ = some ⟨oc_NoSymbol___init__, od_NoSymbol___init__, .func (PySem.W.fnOf "__init__" "NoSymbol.__init__" (defArgs s_NoSymbol___init__) (defBody s_NoSymbol___init__) (defScope s_NoSymbol___init__) .none kV_NoSymbol___init__ dc_NoSymbol___init__ pm_NoSymbol___init__ an_NoSymbol___init__ cd_NoSymbol___init__ ct_NoSymbol___init__), sl_NoSymbol___init__⟩)
    (cd1_NoSymbol___init__ : PySem.W.codeIn K cd_NoSymbol___init__ "NoSymbol.__init__" = true)
    (kp_NoSymbol___init__ : PySem.W.keepIn K (.ref f_NoSymbol___init__) = true)
    (l_is_word : K.lookup f_is_word = some ⟨oc_is_word, od_is_word, .func (PySem.W.fnOf "is_word" "is_word" (defArgs s_is_word) (defBody s_is_word) (defScope s_is_word) .none kV_is_word dc_is_word pm_is_word an_is_word cd_is_word ct_is_word), sl_is_word⟩)
    (cd1_is_word : PySem.W.codeIn K cd_is_word "is_word" = true)
    (kp_is_word : PySem.W.keepIn K (.ref f_is_word) = true)
    (l_are_words : K.lookup f_are_words = some ⟨oc_are_words, od_are_words, .func (PySem.W.fnOf "are_words" "are_words" (defArgs s_are_words) (defBody s_are_words) (defScope s_are_words) .none kV_are_words dc_are_words pm_are_words an_are_words cd_are_words ct_are_words), sl_are_words⟩)
    (cd1_are_words : PySem.W.codeIn K cd_are_words "are_words" = true)
    (kp_are_words : PySem.W.keepIn K (.ref f_are_words) = true)
    (l_check_symbol : K.lookup f_check_symbol = some ⟨oc_check_symbol, od_check_symbol, .func (PySem.W.fnOf "check_symbol" "check_symbol" (defArgs s_check_symbol) (defBody s_check_symbol) (defScope s_check_symbol) .none kV_check_symbol dc_check_symbol pm_check_symbol an_check_symbol cd_check_symbol ct_check_symbol), sl_check_symbol⟩)
    (cd1_check_symbol : PySem.W.codeIn K cd_check_symbol "check_symbol" = true)
    (kp_check_symbol : PySem.W.keepIn K (.ref f_check_symbol) = true)
    (l_closure : K.lookup f_closure = some ⟨oc_closure, od_closure, .func (PySem.W.fnOf "closure" "closure" (defArgs s_closure) (defBody s_closure) (defScope s_closure) .none kV_closure dc_closure pm_closure an_closure cd_closure ct_closure), sl_closure⟩)
    (cd1_closure : PySem.W.codeIn K cd_closure "closure" = true)
    (kp_closure : PySem.W.keepIn K (.ref f_closure) = true)
    (l_grown : K.lookup f_grown = some ⟨oc_grown, od_grown, .func (PySem.W.fnOf "grown" "grown" (defArgs s_grown) (defBody s_grown) (defScope s_grown) .none kV_grown dc_grown pm_grown an_grown cd_grown ct_grown), sl_grown⟩)
    (cd1_grown : PySem.W.codeIn K cd_grown "grown" = true)
    (kp_grown : PySem.W.keepIn K (.ref f_grown) = true)
    (l_definers : K.lookup f_definers = some ⟨oc_definers, od_definers, .func (PySem.W.fnOf "definers" "definers" (defArgs s_definers) (defBody s_definers) (defScope s_definers) .none kV_definers dc_definers pm_definers an_definers cd_definers ct_definers), sl_definers⟩)
    (cd1_definers : PySem.W.codeIn K cd_definers "definers" = true)
    (kp_definers : PySem.W.keepIn K (.ref f_definers) = true)
    (l_Library___init__ : K.lookup f_Library___init__ = some ⟨oc_Library___init__, od_Library___init__, .func (PySem.W.fnOf "__init__" "Library.__init__" (defArgs s_Library___init__) (defBody s_Library___init__) (defScope s_Library___init__) .none (.ref D_Library___init__) dc_Library___init__ pm_Library___init__ an_Library___init__ cd_Library___init__ ct_Library___init__), sl_Library___init__⟩)
    (cd1_Library___init__ : PySem.W.codeIn K cd_Library___init__ "Library.__init__" = true)
    (kp_Library___init__ : PySem.W.keepIn K (.ref f_Library___init__) = true)
    (l_Library_row : K.lookup f_Library_row = some ⟨oc_Library_row, od_Library_row, .func (PySem.W.fnOf "row" "Library.row" (defArgs s_Library_row) (defBody s_Library_row) (defScope s_Library_row) .none kV_Library_row dc_Library_row pm_Library_row an_Library_row cd_Library_row ct_Library_row), sl_Library_row⟩)
    (cd1_Library_row : PySem.W.codeIn K cd_Library_row "Library.row" = true)
    (kp_Library_row : PySem.W.keepIn K (.ref f_Library_row) = true)
    (l_Library___eq__ : K.lookup f_Library___eq__ = some ⟨oc_Library___eq__, od_Library___eq__, .func (PySem.W.fnOf "__eq__" "Library.__eq__" (defArgs s_Library___eq__) (defBody s_Library___eq__) (defScope s_Library___eq__) .none kV_Library___eq__ dc_Library___eq__ pm_Library___eq__ an_Library___eq__ cd_Library___eq__ ct_Library___eq__), sl_Library___eq__⟩)
    (cd1_Library___eq__ : PySem.W.codeIn K cd_Library___eq__ "Library.__eq__" = true)
    (kp_Library___eq__ : PySem.W.keepIn K (.ref f_Library___eq__) = true)
    (l_Store___init__ : K.lookup f_Store___init__ = some ⟨oc_Store___init__, od_Store___init__, .func (PySem.W.fnOf "__init__" "Store.__init__" (defArgs s_Store___init__) (defBody s_Store___init__) (defScope s_Store___init__) .none kV_Store___init__ dc_Store___init__ pm_Store___init__ an_Store___init__ cd_Store___init__ ct_Store___init__), sl_Store___init__⟩)
    (cd1_Store___init__ : PySem.W.codeIn K cd_Store___init__ "Store.__init__" = true)
    (kp_Store___init__ : PySem.W.keepIn K (.ref f_Store___init__) = true)
    (l_Store___getitem__ : K.lookup f_Store___getitem__ = some ⟨oc_Store___getitem__, od_Store___getitem__, .func (PySem.W.fnOf "__getitem__" "Store.__getitem__" (defArgs s_Store___getitem__) (defBody s_Store___getitem__) (defScope s_Store___getitem__) .none kV_Store___getitem__ dc_Store___getitem__ pm_Store___getitem__ an_Store___getitem__ cd_Store___getitem__ ct_Store___getitem__), sl_Store___getitem__⟩)
    (cd1_Store___getitem__ : PySem.W.codeIn K cd_Store___getitem__ "Store.__getitem__" = true)
    (kp_Store___getitem__ : PySem.W.keepIn K (.ref f_Store___getitem__) = true)
    (l_Store___iter__ : K.lookup f_Store___iter__ = some ⟨oc_Store___iter__, od_Store___iter__, .func (PySem.W.fnOf "__iter__" "Store.__iter__" (defArgs s_Store___iter__) (defBody s_Store___iter__) (defScope s_Store___iter__) .none kV_Store___iter__ dc_Store___iter__ pm_Store___iter__ an_Store___iter__ cd_Store___iter__ ct_Store___iter__), sl_Store___iter__⟩)
    (cd1_Store___iter__ : PySem.W.codeIn K cd_Store___iter__ "Store.__iter__" = true)
    (kp_Store___iter__ : PySem.W.keepIn K (.ref f_Store___iter__) = true)
    (l_Store___contains__ : K.lookup f_Store___contains__ = some ⟨oc_Store___contains__, od_Store___contains__, .func (PySem.W.fnOf "__contains__" "Store.__contains__" (defArgs s_Store___contains__) (defBody s_Store___contains__) (defScope s_Store___contains__) .none kV_Store___contains__ dc_Store___contains__ pm_Store___contains__ an_Store___contains__ cd_Store___contains__ ct_Store___contains__), sl_Store___contains__⟩)
    (cd1_Store___contains__ : PySem.W.codeIn K cd_Store___contains__ "Store.__contains__" = true)
    (kp_Store___contains__ : PySem.W.keepIn K (.ref f_Store___contains__) = true)
    (l_Store___len__ : K.lookup f_Store___len__ = some ⟨oc_Store___len__, od_Store___len__, .func (PySem.W.fnOf "__len__" "Store.__len__" (defArgs s_Store___len__) (defBody s_Store___len__) (defScope s_Store___len__) .none kV_Store___len__ dc_Store___len__ pm_Store___len__ an_Store___len__ cd_Store___len__ ct_Store___len__), sl_Store___len__⟩)
    (cd1_Store___len__ : PySem.W.codeIn K cd_Store___len__ "Store.__len__" = true)
    (kp_Store___len__ : PySem.W.keepIn K (.ref f_Store___len__) = true)
    (l__law_well : K.lookup f__law_well = some ⟨oc__law_well, od__law_well, .func (PySem.W.fnOf "_law_well" "_law_well" (defArgs s__law_well) (defBody s__law_well) (defScope s__law_well) .none kV__law_well dc__law_well pm__law_well an__law_well cd__law_well ct__law_well), sl__law_well⟩)
    (cd1__law_well : PySem.W.codeIn K cd__law_well "_law_well" = true)
    (kp__law_well : PySem.W.keepIn K (.ref f__law_well) = true)
    (l__law_draw : K.lookup f__law_draw = some ⟨oc__law_draw, od__law_draw, .func (PySem.W.fnOf "_law_draw" "_law_draw" (defArgs s__law_draw) (defBody s__law_draw) (defScope s__law_draw) .none kV__law_draw dc__law_draw pm__law_draw an__law_draw cd__law_draw ct__law_draw), sl__law_draw⟩)
    (cd1__law_draw : PySem.W.codeIn K cd__law_draw "_law_draw" = true)
    (kp__law_draw : PySem.W.keepIn K (.ref f__law_draw) = true)
    (l__law_one : K.lookup f__law_one = some ⟨oc__law_one, od__law_one, .func (PySem.W.fnOf "_law_one" "_law_one" (defArgs s__law_one) (defBody s__law_one) (defScope s__law_one) .none kV__law_one dc__law_one pm__law_one an__law_one cd__law_one ct__law_one), sl__law_one⟩)
    (cd1__law_one : PySem.W.codeIn K cd__law_one "_law_one" = true)
    (kp__law_one : PySem.W.keepIn K (.ref f__law_one) = true)
    (l__law_spec : K.lookup f__law_spec = some ⟨oc__law_spec, od__law_spec, .func (PySem.W.fnOf "_law_spec" "_law_spec" (defArgs s__law_spec) (defBody s__law_spec) (defScope s__law_spec) .none kV__law_spec dc__law_spec pm__law_spec an__law_spec cd__law_spec ct__law_spec), sl__law_spec⟩)
    (cd1__law_spec : PySem.W.codeIn K cd__law_spec "_law_spec" = true)
    (kp__law_spec : PySem.W.keepIn K (.ref f__law_spec) = true)
    (l__law_store : K.lookup f__law_store = some ⟨oc__law_store, od__law_store, .func (PySem.W.fnOf "_law_store" "_law_store" (defArgs s__law_store) (defBody s__law_store) (defScope s__law_store) .none kV__law_store dc__law_store pm__law_store an__law_store cd__law_store ct__law_store), sl__law_store⟩)
    (cd1__law_store : PySem.W.codeIn K cd__law_store "_law_store" = true)
    (kp__law_store : PySem.W.keepIn K (.ref f__law_store) = true)
    (l__law_row : K.lookup f__law_row = some ⟨oc__law_row, od__law_row, .func (PySem.W.fnOf "_law_row" "_law_row" (defArgs s__law_row) (defBody s__law_row) (defScope s__law_row) .none kV__law_row dc__law_row pm__law_row an__law_row cd__law_row ct__law_row), sl__law_row⟩)
    (cd1__law_row : PySem.W.codeIn K cd__law_row "_law_row" = true)
    (kp__law_row : PySem.W.keepIn K (.ref f__law_row) = true)
    (l__law_due : K.lookup f__law_due = some ⟨oc__law_due, od__law_due, .func (PySem.W.fnOf "_law_due" "_law_due" (defArgs s__law_due) (defBody s__law_due) (defScope s__law_due) .none kV__law_due dc__law_due pm__law_due an__law_due cd__law_due ct__law_due), sl__law_due⟩)
    (cd1__law_due : PySem.W.codeIn K cd__law_due "_law_due" = true)
    (kp__law_due : PySem.W.keepIn K (.ref f__law_due) = true)
    (l__law_said : K.lookup f__law_said = some ⟨oc__law_said, od__law_said, .func (PySem.W.fnOf "_law_said" "_law_said" (defArgs s__law_said) (defBody s__law_said) (defScope s__law_said) .none kV__law_said dc__law_said pm__law_said an__law_said cd__law_said ct__law_said), sl__law_said⟩)
    (cd1__law_said : PySem.W.codeIn K cd__law_said "_law_said" = true)
    (kp__law_said : PySem.W.keepIn K (.ref f__law_said) = true)
    (l_law : K.lookup f_law = some ⟨oc_law, od_law, .func (PySem.W.fnOf "law" "law" (defArgs s_law) (defBody s_law) (defScope s_law) .none kV_law dc_law pm_law an_law (.ref c_law) ct_law), sl_law⟩)
    (cd1_law : PySem.W.codeIn K (.ref c_law) "law" = true)
    (lk_law : K.lookup c_law = some ⟨.type "code", cx_law, .fields cv_law, cs_law⟩)
    (tp_law : cv_law[11]? = some (.ref t_law))
    (th_law : FV.hdOf cv_law c_law t_law = true)
    (tn_law : (K.lookup t_law).isNone = true)
    (te_law : h.get? t_law = some (PySem.W.tabObj #[]))
    (kp_law : PySem.W.keepIn K (.ref f_law) = true)
    (kw_Library___init___0 : PySem.W.nsIn K D_Library___init__ "needs" = some (some (.ref e0)))
    (kw_Library___init___1 : PySem.W.nsIn K D_Library___init__ "defines" = some (some (.ref e1)))
    (kw_Library___init___2 : PySem.W.nsIn K D_Library___init__ "uses" = some (some (.ref e2)))
    (kw_Library___init___3 : PySem.W.nsIn K D_Library___init__ "weak" = some (some (.ref e3)))
    (kw_Library___init___4 : PySem.W.nsIn K D_Library___init__ "eager" = some (some (.bool false)))
    (kw_Library___init___5 : PySem.W.nsIn K D_Library___init__ "own_first" = some (some (.bool false)))
    (z_ValueError : PySem.W.nsIn K mainGlobals "ValueError" = some none)
    (z_all : PySem.W.nsIn K mainGlobals "all" = some none)
    (z_bool : PySem.W.nsIn K mainGlobals "bool" = some none)
    (z_enumerate : PySem.W.nsIn K mainGlobals "enumerate" = some none)
    (z_int : PySem.W.nsIn K mainGlobals "int" = some none)
    (z_isinstance : PySem.W.nsIn K mainGlobals "isinstance" = some none)
    (z_len : PySem.W.nsIn K mainGlobals "len" = some none)
    (z_list : PySem.W.nsIn K mainGlobals "list" = some none)
    (z_range : PySem.W.nsIn K mainGlobals "range" = some none)
    (z_set : PySem.W.nsIn K mainGlobals "set" = some none)
    (z_sorted : PySem.W.nsIn K mainGlobals "sorted" = some none)
    (z_str : PySem.W.nsIn K mainGlobals "str" = some none)
    (z_tuple : PySem.W.nsIn K mainGlobals "tuple" = some none)
    (cv_LETTERS : PySem.W.nsIn K mainGlobals "LETTERS" = some (some (.str "abcdefghijklmnopqrstuvwxyz" t_LETTERS)))
    (cv_MOST_LIBRARIES : PySem.W.nsIn K mainGlobals "MOST_LIBRARIES" = some (some (.int 40 t_MOST_LIBRARIES)))
    (ld_ga : PySem.W.specialIn K (.ref C_LoadError) "__getattribute__" = some (some (.builtin "type.__getattribute__")))
    (ld_rd : PySem.W.readsIn K C_LoadError (.type "type") = true)
    (ld_fc : PySem.W.findCls K (.ref C_LoadError) (.type "type") "__init__" = some (.val (.builtin "ValueError.__init__")))
    (xl_NoLibrary : K.lookup C_NoLibrary = some (excClassObj nm_NoLibrary q_NoLibrary C_NoLibrary N_NoLibrary bs_NoLibrary bm_NoLibrary true sn_NoLibrary sub_NoLibrary ab_NoLibrary co_NoLibrary dd_NoLibrary m0_NoLibrary m1_NoLibrary m2_NoLibrary m3_NoLibrary m5_NoLibrary "ValueError.__new__"))
    (rb_NoLibrary : PySem.HandSPX.refsVE bm_NoLibrary = true)
    (sa_NoLibrary : PySem.W.findIn K (.ref C_NoLibrary) "__setattr__" = some (some (.builtin "object.__setattr__")))
    (eC_NoLibrary : PySem.W.subIn K (.ref C_NoLibrary) (.type "BaseException") = some true)
    (tC_NoLibrary : PySem.W.typeIn K (.ref C_NoLibrary) = some (.type "type"))
    (kC_NoLibrary : PySem.W.keepIn K (.ref C_NoLibrary) = true)
    (ti_NoLibrary : PySem.W.typeIn K (.ref f_NoLibrary___init__) = some (.type "function"))
    (nb_NoLibrary : PySem.W.findIn K (.ref C_NoLibrary) "part" = some none)
    (ga_NoLibrary : PySem.W.findIn K (.ref C_NoLibrary) "__getattribute__" = some (some (.builtin "BaseException.__getattribute__")))
    (gg_NoLibrary : PySem.W.findIn K (.ref C_NoLibrary) "__getattr__" = some none)
    (hd_NoLibrary : PySem.W.hasDictIn K C_NoLibrary = true)
    (te_NoLibrary : PySem.W.subIn K (.ref C_NoLibrary) (.ref C_NoLibrary) = some true)
    (ic_NoLibrary : PySem.W.isClsIn K C_NoLibrary = true)
    (xl_NoStore : K.lookup C_NoStore = some (excClassObj nm_NoStore q_NoStore C_NoStore N_NoStore bs_NoStore bm_NoStore true sn_NoStore sub_NoStore ab_NoStore co_NoStore dd_NoStore m0_NoStore m1_NoStore m2_NoStore m3_NoStore m5_NoStore "ValueError.__new__"))
    (rb_NoStore : PySem.HandSPX.refsVE bm_NoStore = true)
    (sa_NoStore : PySem.W.findIn K (.ref C_NoStore) "__setattr__" = some (some (.builtin "object.__setattr__")))
    (eC_NoStore : PySem.W.subIn K (.ref C_NoStore) (.type "BaseException") = some true)
    (tC_NoStore : PySem.W.typeIn K (.ref C_NoStore) = some (.type "type"))
    (kC_NoStore : PySem.W.keepIn K (.ref C_NoStore) = true)
    (ti_NoStore : PySem.W.typeIn K (.ref f_NoStore___init__) = some (.type "function"))
    (nb_NoStore : PySem.W.findIn K (.ref C_NoStore) "at" = some none)
    (ga_NoStore : PySem.W.findIn K (.ref C_NoStore) "__getattribute__" = some (some (.builtin "BaseException.__getattribute__")))
    (gg_NoStore : PySem.W.findIn K (.ref C_NoStore) "__getattr__" = some none)
    (hd_NoStore : PySem.W.hasDictIn K C_NoStore = true)
    (te_NoStore : PySem.W.subIn K (.ref C_NoStore) (.ref C_NoStore) = some true)
    (ic_NoStore : PySem.W.isClsIn K C_NoStore = true)
    (xl_NoName : K.lookup C_NoName = some (excClassObj nm_NoName q_NoName C_NoName N_NoName bs_NoName bm_NoName true sn_NoName sub_NoName ab_NoName co_NoName dd_NoName m0_NoName m1_NoName m2_NoName m3_NoName m5_NoName "ValueError.__new__"))
    (rb_NoName : PySem.HandSPX.refsVE bm_NoName = true)
    (sa_NoName : PySem.W.findIn K (.ref C_NoName) "__setattr__" = some (some (.builtin "object.__setattr__")))
    (eC_NoName : PySem.W.subIn K (.ref C_NoName) (.type "BaseException") = some true)
    (tC_NoName : PySem.W.typeIn K (.ref C_NoName) = some (.type "type"))
    (kC_NoName : PySem.W.keepIn K (.ref C_NoName) = true)
    (ti_NoName : PySem.W.typeIn K (.ref f_NoName___init__) = some (.type "function"))
    (nb_NoName : PySem.W.findIn K (.ref C_NoName) "name" = some none)
    (ga_NoName : PySem.W.findIn K (.ref C_NoName) "__getattribute__" = some (some (.builtin "BaseException.__getattribute__")))
    (gg_NoName : PySem.W.findIn K (.ref C_NoName) "__getattr__" = some none)
    (hd_NoName : PySem.W.hasDictIn K C_NoName = true)
    (te_NoName : PySem.W.subIn K (.ref C_NoName) (.ref C_NoName) = some true)
    (ic_NoName : PySem.W.isClsIn K C_NoName = true)
    (xl_Missing : K.lookup C_Missing = some (excClassObj nm_Missing q_Missing C_Missing N_Missing bs_Missing bm_Missing true sn_Missing sub_Missing ab_Missing co_Missing dd_Missing m0_Missing m1_Missing m2_Missing m3_Missing m5_Missing "ValueError.__new__"))
    (rb_Missing : PySem.HandSPX.refsVE bm_Missing = true)
    (sa_Missing : PySem.W.findIn K (.ref C_Missing) "__setattr__" = some (some (.builtin "object.__setattr__")))
    (eC_Missing : PySem.W.subIn K (.ref C_Missing) (.type "BaseException") = some true)
    (tC_Missing : PySem.W.typeIn K (.ref C_Missing) = some (.type "type"))
    (kC_Missing : PySem.W.keepIn K (.ref C_Missing) = true)
    (ti_Missing : PySem.W.typeIn K (.ref f_Missing___init__) = some (.type "function"))
    (nb_Missing : PySem.W.findIn K (.ref C_Missing) "name" = some none)
    (ga_Missing : PySem.W.findIn K (.ref C_Missing) "__getattribute__" = some (some (.builtin "BaseException.__getattribute__")))
    (gg_Missing : PySem.W.findIn K (.ref C_Missing) "__getattr__" = some none)
    (hd_Missing : PySem.W.hasDictIn K C_Missing = true)
    (te_Missing : PySem.W.subIn K (.ref C_Missing) (.ref C_Missing) = some true)
    (ic_Missing : PySem.W.isClsIn K C_Missing = true)
    (xl_NoSymbol : K.lookup C_NoSymbol = some (excClassObj nm_NoSymbol q_NoSymbol C_NoSymbol N_NoSymbol bs_NoSymbol bm_NoSymbol true sn_NoSymbol sub_NoSymbol ab_NoSymbol co_NoSymbol dd_NoSymbol m0_NoSymbol m1_NoSymbol m2_NoSymbol m3_NoSymbol m5_NoSymbol "ValueError.__new__"))
    (rb_NoSymbol : PySem.HandSPX.refsVE bm_NoSymbol = true)
    (sa_NoSymbol : PySem.W.findIn K (.ref C_NoSymbol) "__setattr__" = some (some (.builtin "object.__setattr__")))
    (eC_NoSymbol : PySem.W.subIn K (.ref C_NoSymbol) (.type "BaseException") = some true)
    (tC_NoSymbol : PySem.W.typeIn K (.ref C_NoSymbol) = some (.type "type"))
    (kC_NoSymbol : PySem.W.keepIn K (.ref C_NoSymbol) = true)
    (ti_NoSymbol : PySem.W.typeIn K (.ref f_NoSymbol___init__) = some (.type "function"))
    (nb_NoSymbol : PySem.W.findIn K (.ref C_NoSymbol) "symbol" = some none)
    (ga_NoSymbol : PySem.W.findIn K (.ref C_NoSymbol) "__getattribute__" = some (some (.builtin "BaseException.__getattribute__")))
    (gg_NoSymbol : PySem.W.findIn K (.ref C_NoSymbol) "__getattr__" = some none)
    (hd_NoSymbol : PySem.W.hasDictIn K C_NoSymbol = true)
    (te_NoSymbol : PySem.W.subIn K (.ref C_NoSymbol) (.ref C_NoSymbol) = some true)
    (ic_NoSymbol : PySem.W.isClsIn K C_NoSymbol = true)
    (pg_Library : PySem.W.plainGet K C_Library Str.empty = true)
    (hd_Library : PySem.W.hasDictIn K C_Library = true)
    (po_Library : PySem.W.plainOver K C_Library = true)
    (sa_Library : PySem.W.findIn K (.ref C_Library) "__setattr__" = some (some (.builtin "object.__setattr__")))
    (na_Library_name : PySem.W.findIn K (.ref C_Library) "name" = some none)
    (na_Library_needs : PySem.W.findIn K (.ref C_Library) "needs" = some none)
    (na_Library_defines : PySem.W.findIn K (.ref C_Library) "defines" = some none)
    (na_Library_uses : PySem.W.findIn K (.ref C_Library) "uses" = some none)
    (na_Library_weak : PySem.W.findIn K (.ref C_Library) "weak" = some none)
    (na_Library_eager : PySem.W.findIn K (.ref C_Library) "eager" = some none)
    (na_Library_own_first : PySem.W.findIn K (.ref C_Library) "own_first" = some none)
    (mk_Library : PySem.W.makesIn K C_Library = true)
    (if_Library : PySem.W.isFn K (.ref f_Library___init__) = true)
    (kc_Library : PySem.W.keepIn K (.ref C_Library) = true)
    (pg_Store : PySem.W.plainGet K C_Store Str.empty = true)
    (hd_Store : PySem.W.hasDictIn K C_Store = true)
    (po_Store : PySem.W.plainOver K C_Store = true)
    (sa_Store : PySem.W.findIn K (.ref C_Store) "__setattr__" = some (some (.builtin "object.__setattr__")))
    (na_Store_kept : PySem.W.findIn K (.ref C_Store) "kept" = some none)
    (mk_Store : PySem.W.makesIn K C_Store = true)
    (if_Store : PySem.W.isFn K (.ref f_Store___init__) = true)
    (kc_Store : PySem.W.keepIn K (.ref C_Store) = true)
    (if_Library_row : PySem.W.isFn K (.ref f_Library_row) = true)
    (if_Library___eq__ : PySem.W.isFn K (.ref f_Library___eq__) = true)
    (if_Store___getitem__ : PySem.W.isFn K (.ref f_Store___getitem__) = true)
    (fi_Store___getitem__ : PySem.W.fnIn K f_Store___getitem__ = true)
    (if_Store___iter__ : PySem.W.isFn K (.ref f_Store___iter__) = true)
    (if_Store___contains__ : PySem.W.isFn K (.ref f_Store___contains__) = true)
    (if_Store___len__ : PySem.W.isFn K (.ref f_Store___len__) = true)
    (le_e0 : K.lookup e0 = some ⟨.type "tuple", do_e0, .seq #[] n_e0, so_e0⟩)
    (le_e1 : K.lookup e1 = some ⟨.type "tuple", do_e1, .seq #[] n_e1, so_e1⟩)
    (le_e2 : K.lookup e2 = some ⟨.type "tuple", do_e2, .seq #[] n_e2, so_e2⟩)
    (le_e3 : K.lookup e3 = some ⟨.type "tuple", do_e3, .seq #[] n_e3, so_e3⟩)
    (ty1_Library : PySem.W.findIn K (.ref C_Library) "__class__" = some (some (.builtin "object.__class__")))
    (ty2 : PySem.W.specialIn K (.builtin "object.__class__") "__get__" = some (some (.builtin "getset_descriptor.__get__")))
    (ty3 : PySem.W.takesIn K (.builtin "object.__class__") = some true)
    (ty4_Library : PySem.W.mroIn K C_Library (.type "object") = some true)
    (ty1_Store : PySem.W.findIn K (.ref C_Store) "__class__" = some (some (.builtin "object.__class__")))
    (ty4_Store : PySem.W.mroIn K C_Store (.type "object") = some true)
    (x_ex_NoName_Missing : PySem.W.subIn K (.ref C_NoName) (.ref C_Missing) = some false)
    (x_ex_NoSymbol_Missing : PySem.W.subIn K (.ref C_NoSymbol) (.ref C_Missing) = some false)
    (x_ex_NoSymbol_NoName : PySem.W.subIn K (.ref C_NoSymbol) (.ref C_NoName) = some false)
    : LamX.LawAtS l w K CX0 9 63 "_law_script" mg fa h := by
  have e : fa = f_law := by
    have e := hfa.symm.trans (PySem.W.mg_of X G g0_law)
    cases e
    rfl
  rw [e]
  have cl_Library : Cls K C_Library := ⟨pg_Library, hd_Library, po_Library, sa_Library⟩
  have cl_Store : Cls K C_Store := ⟨pg_Store, hd_Store, po_Store, sa_Store⟩
  have FF_NoLibrary___init__ : Fun K "__init__" "NoLibrary.__init__" s_NoLibrary___init__ f_NoLibrary___init__ (PySem.W.fnOf "__init__" "NoLibrary.__init__" (defArgs s_NoLibrary___init__) (defBody s_NoLibrary___init__) (defScope s_NoLibrary___init__) .none kV_NoLibrary___init__ dc_NoLibrary___init__ pm_NoLibrary___init__ an_NoLibrary___init__ cd_NoLibrary___init__ ct_NoLibrary___init__) := fun_mk (st := s_NoLibrary___init__) l_NoLibrary___init__ cd1_NoLibrary___init__ kp_NoLibrary___init__
  have FF_NoStore___init__ : Fun K "__init__" "NoStore.__init__" s_NoStore___init__ f_NoStore___init__ (PySem.W.fnOf "__init__" "NoStore.__init__" (defArgs s_NoStore___init__) (defBody s_NoStore___init__) (defScope s_NoStore___init__) .none kV_NoStore___init__ dc_NoStore___init__ pm_NoStore___init__ an_NoStore___init__ cd_NoStore___init__ ct_NoStore___init__) := fun_mk (st := s_NoStore___init__) l_NoStore___init__ cd1_NoStore___init__ kp_NoStore___init__
  have FF_NoName___init__ : Fun K "__init__" "NoName.__init__" s_NoName___init__ f_NoName___init__ (PySem.W.fnOf "__init__" "NoName.__init__" (defArgs s_NoName___init__) (defBody s_NoName___init__) (defScope s_NoName___init__) .none kV_NoName___init__ dc_NoName___init__ pm_NoName___init__ an_NoName___init__ cd_NoName___init__ ct_NoName___init__) := fun_mk (st := s_NoName___init__) l_NoName___init__ cd1_NoName___init__ kp_NoName___init__
  have FF_Missing___init__ : Fun K "__init__" "Missing.__init__" s_Missing___init__ f_Missing___init__ (PySem.W.fnOf "__init__" "Missing.__init__" (defArgs s_Missing___init__) (defBody s_Missing___init__) (defScope s_Missing___init__) .none kV_Missing___init__ dc_Missing___init__ pm_Missing___init__ an_Missing___init__ cd_Missing___init__ ct_Missing___init__) := fun_mk (st := s_Missing___init__) l_Missing___init__ cd1_Missing___init__ kp_Missing___init__
  have FF_NoSymbol___init__ : Fun K "__init__" "NoSymbol.__init__" s_NoSymbol___init__ f_NoSymbol___init__ (PySem.W.fnOf "__init__" "NoSymbol.__init__" (defArgs s_NoSymbol___init__) (defBody s_NoSymbol___init__) (defScope s_NoSymbol___init__) .none kV_NoSymbol___init__ dc_NoSymbol___init__ pm_NoSymbol___init__ an_NoSymbol___init__ cd_NoSymbol___init__ ct_NoSymbol___init__) := fun_mk (st := s_NoSymbol___init__) l_NoSymbol___init__ cd1_NoSymbol___init__ kp_NoSymbol___init__
  have FF_is_word : Fun K "is_word" "is_word" s_is_word f_is_word (PySem.W.fnOf "is_word" "is_word" (defArgs s_is_word) (defBody s_is_word) (defScope s_is_word) .none kV_is_word dc_is_word pm_is_word an_is_word cd_is_word ct_is_word) := fun_mk (st := s_is_word) l_is_word cd1_is_word kp_is_word
  have FF_are_words : Fun K "are_words" "are_words" s_are_words f_are_words (PySem.W.fnOf "are_words" "are_words" (defArgs s_are_words) (defBody s_are_words) (defScope s_are_words) .none kV_are_words dc_are_words pm_are_words an_are_words cd_are_words ct_are_words) := fun_mk (st := s_are_words) l_are_words cd1_are_words kp_are_words
  have FF_check_symbol : Fun K "check_symbol" "check_symbol" s_check_symbol f_check_symbol (PySem.W.fnOf "check_symbol" "check_symbol" (defArgs s_check_symbol) (defBody s_check_symbol) (defScope s_check_symbol) .none kV_check_symbol dc_check_symbol pm_check_symbol an_check_symbol cd_check_symbol ct_check_symbol) := fun_mk (st := s_check_symbol) l_check_symbol cd1_check_symbol kp_check_symbol
  have FF_closure : Fun K "closure" "closure" s_closure f_closure (PySem.W.fnOf "closure" "closure" (defArgs s_closure) (defBody s_closure) (defScope s_closure) .none kV_closure dc_closure pm_closure an_closure cd_closure ct_closure) := fun_mk (st := s_closure) l_closure cd1_closure kp_closure
  have FF_grown : Fun K "grown" "grown" s_grown f_grown (PySem.W.fnOf "grown" "grown" (defArgs s_grown) (defBody s_grown) (defScope s_grown) .none kV_grown dc_grown pm_grown an_grown cd_grown ct_grown) := fun_mk (st := s_grown) l_grown cd1_grown kp_grown
  have FF_definers : Fun K "definers" "definers" s_definers f_definers (PySem.W.fnOf "definers" "definers" (defArgs s_definers) (defBody s_definers) (defScope s_definers) .none kV_definers dc_definers pm_definers an_definers cd_definers ct_definers) := fun_mk (st := s_definers) l_definers cd1_definers kp_definers
  have FF_Library___init__ : FunD K "__init__" "Library.__init__" (defArgs s_Library___init__) (defBody s_Library___init__) (defScope s_Library___init__) [] (kwL (⟨C_LoadError, C_NoLibrary, C_NoStore, C_NoName, C_Missing, C_NoSymbol, C_Library, C_Store, f_NoLibrary___init__, (PySem.W.fnOf "__init__" "NoLibrary.__init__" (defArgs s_NoLibrary___init__) (defBody s_NoLibrary___init__) (defScope s_NoLibrary___init__) .none kV_NoLibrary___init__ dc_NoLibrary___init__ pm_NoLibrary___init__ an_NoLibrary___init__ cd_NoLibrary___init__ ct_NoLibrary___init__), f_NoStore___init__, (PySem.W.fnOf "__init__" "NoStore.__init__" (defArgs s_NoStore___init__) (defBody s_NoStore___init__) (defScope s_NoStore___init__) .none kV_NoStore___init__ dc_NoStore___init__ pm_NoStore___init__ an_NoStore___init__ cd_NoStore___init__ ct_NoStore___init__), f_NoName___init__, (PySem.W.fnOf "__init__" "NoName.__init__" (defArgs s_NoName___init__) (defBody s_NoName___init__) (defScope s_NoName___init__) .none kV_NoName___init__ dc_NoName___init__ pm_NoName___init__ an_NoName___init__ cd_NoName___init__ ct_NoName___init__), f_Missing___init__, (PySem.W.fnOf "__init__" "Missing.__init__" (defArgs s_Missing___init__) (defBody s_Missing___init__) (defScope s_Missing___init__) .none kV_Missing___init__ dc_Missing___init__ pm_Missing___init__ an_Missing___init__ cd_Missing___init__ ct_Missing___init__), f_NoSymbol___init__, (PySem.W.fnOf "__init__" "NoSymbol.__init__" (defArgs s_NoSymbol___init__) (defBody s_NoSymbol___init__) (defScope s_NoSymbol___init__) .none kV_NoSymbol___init__ dc_NoSymbol___init__ pm_NoSymbol___init__ an_NoSymbol___init__ cd_NoSymbol___init__ ct_NoSymbol___init__), f_is_word, (PySem.W.fnOf "is_word" "is_word" (defArgs s_is_word) (defBody s_is_word) (defScope s_is_word) .none kV_is_word dc_is_word pm_is_word an_is_word cd_is_word ct_is_word), f_are_words, (PySem.W.fnOf "are_words" "are_words" (defArgs s_are_words) (defBody s_are_words) (defScope s_are_words) .none kV_are_words dc_are_words pm_are_words an_are_words cd_are_words ct_are_words), f_check_symbol, (PySem.W.fnOf "check_symbol" "check_symbol" (defArgs s_check_symbol) (defBody s_check_symbol) (defScope s_check_symbol) .none kV_check_symbol dc_check_symbol pm_check_symbol an_check_symbol cd_check_symbol ct_check_symbol), f_closure, (PySem.W.fnOf "closure" "closure" (defArgs s_closure) (defBody s_closure) (defScope s_closure) .none kV_closure dc_closure pm_closure an_closure cd_closure ct_closure), f_grown, (PySem.W.fnOf "grown" "grown" (defArgs s_grown) (defBody s_grown) (defScope s_grown) .none kV_grown dc_grown pm_grown an_grown cd_grown ct_grown), f_definers, (PySem.W.fnOf "definers" "definers" (defArgs s_definers) (defBody s_definers) (defScope s_definers) .none kV_definers dc_definers pm_definers an_definers cd_definers ct_definers), f_Library___init__, (PySem.W.fnOf "__init__" "Library.__init__" (defArgs s_Library___init__) (defBody s_Library___init__) (defScope s_Library___init__) .none (.ref D_Library___init__) dc_Library___init__ pm_Library___init__ an_Library___init__ cd_Library___init__ ct_Library___init__), f_Library_row, (PySem.W.fnOf "row" "Library.row" (defArgs s_Library_row) (defBody s_Library_row) (defScope s_Library_row) .none kV_Library_row dc_Library_row pm_Library_row an_Library_row cd_Library_row ct_Library_row), f_Library___eq__, (PySem.W.fnOf "__eq__" "Library.__eq__" (defArgs s_Library___eq__) (defBody s_Library___eq__) (defScope s_Library___eq__) .none kV_Library___eq__ dc_Library___eq__ pm_Library___eq__ an_Library___eq__ cd_Library___eq__ ct_Library___eq__), f_Store___init__, (PySem.W.fnOf "__init__" "Store.__init__" (defArgs s_Store___init__) (defBody s_Store___init__) (defScope s_Store___init__) .none kV_Store___init__ dc_Store___init__ pm_Store___init__ an_Store___init__ cd_Store___init__ ct_Store___init__), f_Store___getitem__, (PySem.W.fnOf "__getitem__" "Store.__getitem__" (defArgs s_Store___getitem__) (defBody s_Store___getitem__) (defScope s_Store___getitem__) .none kV_Store___getitem__ dc_Store___getitem__ pm_Store___getitem__ an_Store___getitem__ cd_Store___getitem__ ct_Store___getitem__), f_Store___iter__, (PySem.W.fnOf "__iter__" "Store.__iter__" (defArgs s_Store___iter__) (defBody s_Store___iter__) (defScope s_Store___iter__) .none kV_Store___iter__ dc_Store___iter__ pm_Store___iter__ an_Store___iter__ cd_Store___iter__ ct_Store___iter__), f_Store___contains__, (PySem.W.fnOf "__contains__" "Store.__contains__" (defArgs s_Store___contains__) (defBody s_Store___contains__) (defScope s_Store___contains__) .none kV_Store___contains__ dc_Store___contains__ pm_Store___contains__ an_Store___contains__ cd_Store___contains__ ct_Store___contains__), f_Store___len__, (PySem.W.fnOf "__len__" "Store.__len__" (defArgs s_Store___len__) (defBody s_Store___len__) (defScope s_Store___len__) .none kV_Store___len__ dc_Store___len__ pm_Store___len__ an_Store___len__ cd_Store___len__ ct_Store___len__), f__law_well, (PySem.W.fnOf "_law_well" "_law_well" (defArgs s__law_well) (defBody s__law_well) (defScope s__law_well) .none kV__law_well dc__law_well pm__law_well an__law_well cd__law_well ct__law_well), f__law_draw, (PySem.W.fnOf "_law_draw" "_law_draw" (defArgs s__law_draw) (defBody s__law_draw) (defScope s__law_draw) .none kV__law_draw dc__law_draw pm__law_draw an__law_draw cd__law_draw ct__law_draw), f__law_one, (PySem.W.fnOf "_law_one" "_law_one" (defArgs s__law_one) (defBody s__law_one) (defScope s__law_one) .none kV__law_one dc__law_one pm__law_one an__law_one cd__law_one ct__law_one), f__law_spec, (PySem.W.fnOf "_law_spec" "_law_spec" (defArgs s__law_spec) (defBody s__law_spec) (defScope s__law_spec) .none kV__law_spec dc__law_spec pm__law_spec an__law_spec cd__law_spec ct__law_spec), f__law_store, (PySem.W.fnOf "_law_store" "_law_store" (defArgs s__law_store) (defBody s__law_store) (defScope s__law_store) .none kV__law_store dc__law_store pm__law_store an__law_store cd__law_store ct__law_store), f__law_row, (PySem.W.fnOf "_law_row" "_law_row" (defArgs s__law_row) (defBody s__law_row) (defScope s__law_row) .none kV__law_row dc__law_row pm__law_row an__law_row cd__law_row ct__law_row), f__law_due, (PySem.W.fnOf "_law_due" "_law_due" (defArgs s__law_due) (defBody s__law_due) (defScope s__law_due) .none kV__law_due dc__law_due pm__law_due an__law_due cd__law_due ct__law_due), f__law_said, (PySem.W.fnOf "_law_said" "_law_said" (defArgs s__law_said) (defBody s__law_said) (defScope s__law_said) .none kV__law_said dc__law_said pm__law_said an__law_said cd__law_said ct__law_said), f_law, (PySem.W.fnOf "law" "law" (defArgs s_law) (defBody s_law) (defScope s_law) .none kV_law dc_law pm_law an_law (.ref c_law) ct_law), e0, e1, e2, e3, c_law, t_law⟩ : Adr)) f_Library___init__ (PySem.W.fnOf "__init__" "Library.__init__" (defArgs s_Library___init__) (defBody s_Library___init__) (defScope s_Library___init__) .none (.ref D_Library___init__) dc_Library___init__ pm_Library___init__ an_Library___init__ cd_Library___init__ ct_Library___init__) := by
    refine ⟨⟨_, _, _, _, _, _, _, _, _, _, rfl, l_Library___init__, cd1_Library___init__, .inl ⟨rfl, rfl⟩, .inr ⟨_, rfl, fun qq hq => ?_⟩⟩, kp_Library___init__⟩
    simp only [kwL, List.mem_cons, List.not_mem_nil, or_false] at hq
    rcases hq with rfl | rfl | rfl | rfl | rfl | rfl
    · exact ⟨_, kw_Library___init___0, rfl⟩
    · exact ⟨_, kw_Library___init___1, rfl⟩
    · exact ⟨_, kw_Library___init___2, rfl⟩
    · exact ⟨_, kw_Library___init___3, rfl⟩
    · exact ⟨_, kw_Library___init___4, rfl⟩
    · exact ⟨_, kw_Library___init___5, rfl⟩
  have FF_Library_row : Fun K "row" "Library.row" s_Library_row f_Library_row (PySem.W.fnOf "row" "Library.row" (defArgs s_Library_row) (defBody s_Library_row) (defScope s_Library_row) .none kV_Library_row dc_Library_row pm_Library_row an_Library_row cd_Library_row ct_Library_row) := fun_mk (st := s_Library_row) l_Library_row cd1_Library_row kp_Library_row
  have FF_Library___eq__ : Fun K "__eq__" "Library.__eq__" s_Library___eq__ f_Library___eq__ (PySem.W.fnOf "__eq__" "Library.__eq__" (defArgs s_Library___eq__) (defBody s_Library___eq__) (defScope s_Library___eq__) .none kV_Library___eq__ dc_Library___eq__ pm_Library___eq__ an_Library___eq__ cd_Library___eq__ ct_Library___eq__) := fun_mk (st := s_Library___eq__) l_Library___eq__ cd1_Library___eq__ kp_Library___eq__
  have FF_Store___init__ : Fun K "__init__" "Store.__init__" s_Store___init__ f_Store___init__ (PySem.W.fnOf "__init__" "Store.__init__" (defArgs s_Store___init__) (defBody s_Store___init__) (defScope s_Store___init__) .none kV_Store___init__ dc_Store___init__ pm_Store___init__ an_Store___init__ cd_Store___init__ ct_Store___init__) := fun_mk (st := s_Store___init__) l_Store___init__ cd1_Store___init__ kp_Store___init__
  have FF_Store___getitem__ : Fun K "__getitem__" "Store.__getitem__" s_Store___getitem__ f_Store___getitem__ (PySem.W.fnOf "__getitem__" "Store.__getitem__" (defArgs s_Store___getitem__) (defBody s_Store___getitem__) (defScope s_Store___getitem__) .none kV_Store___getitem__ dc_Store___getitem__ pm_Store___getitem__ an_Store___getitem__ cd_Store___getitem__ ct_Store___getitem__) := fun_mk (st := s_Store___getitem__) l_Store___getitem__ cd1_Store___getitem__ kp_Store___getitem__
  have FF_Store___iter__ : Fun K "__iter__" "Store.__iter__" s_Store___iter__ f_Store___iter__ (PySem.W.fnOf "__iter__" "Store.__iter__" (defArgs s_Store___iter__) (defBody s_Store___iter__) (defScope s_Store___iter__) .none kV_Store___iter__ dc_Store___iter__ pm_Store___iter__ an_Store___iter__ cd_Store___iter__ ct_Store___iter__) := fun_mk (st := s_Store___iter__) l_Store___iter__ cd1_Store___iter__ kp_Store___iter__
  have FF_Store___contains__ : Fun K "__contains__" "Store.__contains__" s_Store___contains__ f_Store___contains__ (PySem.W.fnOf "__contains__" "Store.__contains__" (defArgs s_Store___contains__) (defBody s_Store___contains__) (defScope s_Store___contains__) .none kV_Store___contains__ dc_Store___contains__ pm_Store___contains__ an_Store___contains__ cd_Store___contains__ ct_Store___contains__) := fun_mk (st := s_Store___contains__) l_Store___contains__ cd1_Store___contains__ kp_Store___contains__
  have FF_Store___len__ : Fun K "__len__" "Store.__len__" s_Store___len__ f_Store___len__ (PySem.W.fnOf "__len__" "Store.__len__" (defArgs s_Store___len__) (defBody s_Store___len__) (defScope s_Store___len__) .none kV_Store___len__ dc_Store___len__ pm_Store___len__ an_Store___len__ cd_Store___len__ ct_Store___len__) := fun_mk (st := s_Store___len__) l_Store___len__ cd1_Store___len__ kp_Store___len__
  have FF__law_well : Fun K "_law_well" "_law_well" s__law_well f__law_well (PySem.W.fnOf "_law_well" "_law_well" (defArgs s__law_well) (defBody s__law_well) (defScope s__law_well) .none kV__law_well dc__law_well pm__law_well an__law_well cd__law_well ct__law_well) := fun_mk (st := s__law_well) l__law_well cd1__law_well kp__law_well
  have FF__law_draw : Fun K "_law_draw" "_law_draw" s__law_draw f__law_draw (PySem.W.fnOf "_law_draw" "_law_draw" (defArgs s__law_draw) (defBody s__law_draw) (defScope s__law_draw) .none kV__law_draw dc__law_draw pm__law_draw an__law_draw cd__law_draw ct__law_draw) := fun_mk (st := s__law_draw) l__law_draw cd1__law_draw kp__law_draw
  have FF__law_one : Fun K "_law_one" "_law_one" s__law_one f__law_one (PySem.W.fnOf "_law_one" "_law_one" (defArgs s__law_one) (defBody s__law_one) (defScope s__law_one) .none kV__law_one dc__law_one pm__law_one an__law_one cd__law_one ct__law_one) := fun_mk (st := s__law_one) l__law_one cd1__law_one kp__law_one
  have FF__law_spec : Fun K "_law_spec" "_law_spec" s__law_spec f__law_spec (PySem.W.fnOf "_law_spec" "_law_spec" (defArgs s__law_spec) (defBody s__law_spec) (defScope s__law_spec) .none kV__law_spec dc__law_spec pm__law_spec an__law_spec cd__law_spec ct__law_spec) := fun_mk (st := s__law_spec) l__law_spec cd1__law_spec kp__law_spec
  have FF__law_store : Fun K "_law_store" "_law_store" s__law_store f__law_store (PySem.W.fnOf "_law_store" "_law_store" (defArgs s__law_store) (defBody s__law_store) (defScope s__law_store) .none kV__law_store dc__law_store pm__law_store an__law_store cd__law_store ct__law_store) := fun_mk (st := s__law_store) l__law_store cd1__law_store kp__law_store
  have FF__law_row : Fun K "_law_row" "_law_row" s__law_row f__law_row (PySem.W.fnOf "_law_row" "_law_row" (defArgs s__law_row) (defBody s__law_row) (defScope s__law_row) .none kV__law_row dc__law_row pm__law_row an__law_row cd__law_row ct__law_row) := fun_mk (st := s__law_row) l__law_row cd1__law_row kp__law_row
  have FF__law_due : Fun K "_law_due" "_law_due" s__law_due f__law_due (PySem.W.fnOf "_law_due" "_law_due" (defArgs s__law_due) (defBody s__law_due) (defScope s__law_due) .none kV__law_due dc__law_due pm__law_due an__law_due cd__law_due ct__law_due) := fun_mk (st := s__law_due) l__law_due cd1__law_due kp__law_due
  have FF__law_said : Fun K "_law_said" "_law_said" s__law_said f__law_said (PySem.W.fnOf "_law_said" "_law_said" (defArgs s__law_said) (defBody s__law_said) (defScope s__law_said) .none kV__law_said dc__law_said pm__law_said an__law_said cd__law_said ct__law_said) := fun_mk (st := s__law_said) l__law_said cd1__law_said kp__law_said
  have FF_law : Fun K "law" "law" s_law f_law (PySem.W.fnOf "law" "law" (defArgs s_law) (defBody s_law) (defScope s_law) .none kV_law dc_law pm_law an_law (.ref c_law) ct_law) := fun_mk (st := s_law) l_law cd1_law kp_law
  let AA : Adr := ⟨C_LoadError, C_NoLibrary, C_NoStore, C_NoName, C_Missing, C_NoSymbol, C_Library, C_Store, f_NoLibrary___init__, (PySem.W.fnOf "__init__" "NoLibrary.__init__" (defArgs s_NoLibrary___init__) (defBody s_NoLibrary___init__) (defScope s_NoLibrary___init__) .none kV_NoLibrary___init__ dc_NoLibrary___init__ pm_NoLibrary___init__ an_NoLibrary___init__ cd_NoLibrary___init__ ct_NoLibrary___init__), f_NoStore___init__, (PySem.W.fnOf "__init__" "NoStore.__init__" (defArgs s_NoStore___init__) (defBody s_NoStore___init__) (defScope s_NoStore___init__) .none kV_NoStore___init__ dc_NoStore___init__ pm_NoStore___init__ an_NoStore___init__ cd_NoStore___init__ ct_NoStore___init__), f_NoName___init__, (PySem.W.fnOf "__init__" "NoName.__init__" (defArgs s_NoName___init__) (defBody s_NoName___init__) (defScope s_NoName___init__) .none kV_NoName___init__ dc_NoName___init__ pm_NoName___init__ an_NoName___init__ cd_NoName___init__ ct_NoName___init__), f_Missing___init__, (PySem.W.fnOf "__init__" "Missing.__init__" (defArgs s_Missing___init__) (defBody s_Missing___init__) (defScope s_Missing___init__) .none kV_Missing___init__ dc_Missing___init__ pm_Missing___init__ an_Missing___init__ cd_Missing___init__ ct_Missing___init__), f_NoSymbol___init__, (PySem.W.fnOf "__init__" "NoSymbol.__init__" (defArgs s_NoSymbol___init__) (defBody s_NoSymbol___init__) (defScope s_NoSymbol___init__) .none kV_NoSymbol___init__ dc_NoSymbol___init__ pm_NoSymbol___init__ an_NoSymbol___init__ cd_NoSymbol___init__ ct_NoSymbol___init__), f_is_word, (PySem.W.fnOf "is_word" "is_word" (defArgs s_is_word) (defBody s_is_word) (defScope s_is_word) .none kV_is_word dc_is_word pm_is_word an_is_word cd_is_word ct_is_word), f_are_words, (PySem.W.fnOf "are_words" "are_words" (defArgs s_are_words) (defBody s_are_words) (defScope s_are_words) .none kV_are_words dc_are_words pm_are_words an_are_words cd_are_words ct_are_words), f_check_symbol, (PySem.W.fnOf "check_symbol" "check_symbol" (defArgs s_check_symbol) (defBody s_check_symbol) (defScope s_check_symbol) .none kV_check_symbol dc_check_symbol pm_check_symbol an_check_symbol cd_check_symbol ct_check_symbol), f_closure, (PySem.W.fnOf "closure" "closure" (defArgs s_closure) (defBody s_closure) (defScope s_closure) .none kV_closure dc_closure pm_closure an_closure cd_closure ct_closure), f_grown, (PySem.W.fnOf "grown" "grown" (defArgs s_grown) (defBody s_grown) (defScope s_grown) .none kV_grown dc_grown pm_grown an_grown cd_grown ct_grown), f_definers, (PySem.W.fnOf "definers" "definers" (defArgs s_definers) (defBody s_definers) (defScope s_definers) .none kV_definers dc_definers pm_definers an_definers cd_definers ct_definers), f_Library___init__, (PySem.W.fnOf "__init__" "Library.__init__" (defArgs s_Library___init__) (defBody s_Library___init__) (defScope s_Library___init__) .none (.ref D_Library___init__) dc_Library___init__ pm_Library___init__ an_Library___init__ cd_Library___init__ ct_Library___init__), f_Library_row, (PySem.W.fnOf "row" "Library.row" (defArgs s_Library_row) (defBody s_Library_row) (defScope s_Library_row) .none kV_Library_row dc_Library_row pm_Library_row an_Library_row cd_Library_row ct_Library_row), f_Library___eq__, (PySem.W.fnOf "__eq__" "Library.__eq__" (defArgs s_Library___eq__) (defBody s_Library___eq__) (defScope s_Library___eq__) .none kV_Library___eq__ dc_Library___eq__ pm_Library___eq__ an_Library___eq__ cd_Library___eq__ ct_Library___eq__), f_Store___init__, (PySem.W.fnOf "__init__" "Store.__init__" (defArgs s_Store___init__) (defBody s_Store___init__) (defScope s_Store___init__) .none kV_Store___init__ dc_Store___init__ pm_Store___init__ an_Store___init__ cd_Store___init__ ct_Store___init__), f_Store___getitem__, (PySem.W.fnOf "__getitem__" "Store.__getitem__" (defArgs s_Store___getitem__) (defBody s_Store___getitem__) (defScope s_Store___getitem__) .none kV_Store___getitem__ dc_Store___getitem__ pm_Store___getitem__ an_Store___getitem__ cd_Store___getitem__ ct_Store___getitem__), f_Store___iter__, (PySem.W.fnOf "__iter__" "Store.__iter__" (defArgs s_Store___iter__) (defBody s_Store___iter__) (defScope s_Store___iter__) .none kV_Store___iter__ dc_Store___iter__ pm_Store___iter__ an_Store___iter__ cd_Store___iter__ ct_Store___iter__), f_Store___contains__, (PySem.W.fnOf "__contains__" "Store.__contains__" (defArgs s_Store___contains__) (defBody s_Store___contains__) (defScope s_Store___contains__) .none kV_Store___contains__ dc_Store___contains__ pm_Store___contains__ an_Store___contains__ cd_Store___contains__ ct_Store___contains__), f_Store___len__, (PySem.W.fnOf "__len__" "Store.__len__" (defArgs s_Store___len__) (defBody s_Store___len__) (defScope s_Store___len__) .none kV_Store___len__ dc_Store___len__ pm_Store___len__ an_Store___len__ cd_Store___len__ ct_Store___len__), f__law_well, (PySem.W.fnOf "_law_well" "_law_well" (defArgs s__law_well) (defBody s__law_well) (defScope s__law_well) .none kV__law_well dc__law_well pm__law_well an__law_well cd__law_well ct__law_well), f__law_draw, (PySem.W.fnOf "_law_draw" "_law_draw" (defArgs s__law_draw) (defBody s__law_draw) (defScope s__law_draw) .none kV__law_draw dc__law_draw pm__law_draw an__law_draw cd__law_draw ct__law_draw), f__law_one, (PySem.W.fnOf "_law_one" "_law_one" (defArgs s__law_one) (defBody s__law_one) (defScope s__law_one) .none kV__law_one dc__law_one pm__law_one an__law_one cd__law_one ct__law_one), f__law_spec, (PySem.W.fnOf "_law_spec" "_law_spec" (defArgs s__law_spec) (defBody s__law_spec) (defScope s__law_spec) .none kV__law_spec dc__law_spec pm__law_spec an__law_spec cd__law_spec ct__law_spec), f__law_store, (PySem.W.fnOf "_law_store" "_law_store" (defArgs s__law_store) (defBody s__law_store) (defScope s__law_store) .none kV__law_store dc__law_store pm__law_store an__law_store cd__law_store ct__law_store), f__law_row, (PySem.W.fnOf "_law_row" "_law_row" (defArgs s__law_row) (defBody s__law_row) (defScope s__law_row) .none kV__law_row dc__law_row pm__law_row an__law_row cd__law_row ct__law_row), f__law_due, (PySem.W.fnOf "_law_due" "_law_due" (defArgs s__law_due) (defBody s__law_due) (defScope s__law_due) .none kV__law_due dc__law_due pm__law_due an__law_due cd__law_due ct__law_due), f__law_said, (PySem.W.fnOf "_law_said" "_law_said" (defArgs s__law_said) (defBody s__law_said) (defScope s__law_said) .none kV__law_said dc__law_said pm__law_said an__law_said cd__law_said ct__law_said), f_law, (PySem.W.fnOf "law" "law" (defArgs s_law) (defBody s_law) (defScope s_law) .none kV_law dc_law pm_law an_law (.ref c_law) ct_law), e0, e1, e2, e3, c_law, t_law⟩
  have T : Txt K mg AA := Txt.mk (PySem.W.mg_none_of X G z_ValueError)
    (PySem.W.mg_none_of X G z_all)
    (PySem.W.mg_none_of X G z_bool)
    (PySem.W.mg_none_of X G z_enumerate)
    (PySem.W.mg_none_of X G z_int)
    (PySem.W.mg_none_of X G z_isinstance)
    (PySem.W.mg_none_of X G z_len)
    (PySem.W.mg_none_of X G z_list)
    (PySem.W.mg_none_of X G z_range)
    (PySem.W.mg_none_of X G z_set)
    (PySem.W.mg_none_of X G z_sorted)
    (PySem.W.mg_none_of X G z_str)
    (PySem.W.mg_none_of X G z_tuple)
    (⟨_, PySem.W.mg_of X G cv_LETTERS, ⟨_, rfl⟩⟩)
    (⟨_, PySem.W.mg_of X G cv_MOST_LIBRARIES, ⟨_, rfl⟩⟩)
    (⟨PySem.W.mg_of X G g0_LoadError, ld_ga, ld_rd, ld_fc⟩)
    (⟨PySem.W.mg_of X G g0_NoLibrary, ⟨⟨_, _, _, _, _, _, _, _, _, _, _, _, _, _, _, xl_NoLibrary, rb_NoLibrary⟩, sa_NoLibrary, eC_NoLibrary, tC_NoLibrary, kC_NoLibrary⟩, at_NoLibrary___init__, ti_NoLibrary, nb_NoLibrary, ⟨ga_NoLibrary, gg_NoLibrary, eC_NoLibrary, hd_NoLibrary⟩, exm_sub eC_NoLibrary ic_NoLibrary tC_NoLibrary te_NoLibrary⟩)
    (⟨PySem.W.mg_of X G g0_NoStore, ⟨⟨_, _, _, _, _, _, _, _, _, _, _, _, _, _, _, xl_NoStore, rb_NoStore⟩, sa_NoStore, eC_NoStore, tC_NoStore, kC_NoStore⟩, at_NoStore___init__, ti_NoStore, nb_NoStore, ⟨ga_NoStore, gg_NoStore, eC_NoStore, hd_NoStore⟩, exm_sub eC_NoStore ic_NoStore tC_NoStore te_NoStore⟩)
    (⟨PySem.W.mg_of X G g0_NoName, ⟨⟨_, _, _, _, _, _, _, _, _, _, _, _, _, _, _, xl_NoName, rb_NoName⟩, sa_NoName, eC_NoName, tC_NoName, kC_NoName⟩, at_NoName___init__, ti_NoName, nb_NoName, ⟨ga_NoName, gg_NoName, eC_NoName, hd_NoName⟩, exm_sub eC_NoName ic_NoName tC_NoName te_NoName⟩)
    (⟨PySem.W.mg_of X G g0_Missing, ⟨⟨_, _, _, _, _, _, _, _, _, _, _, _, _, _, _, xl_Missing, rb_Missing⟩, sa_Missing, eC_Missing, tC_Missing, kC_Missing⟩, at_Missing___init__, ti_Missing, nb_Missing, ⟨ga_Missing, gg_Missing, eC_Missing, hd_Missing⟩, exm_sub eC_Missing ic_Missing tC_Missing te_Missing⟩)
    (⟨PySem.W.mg_of X G g0_NoSymbol, ⟨⟨_, _, _, _, _, _, _, _, _, _, _, _, _, _, _, xl_NoSymbol, rb_NoSymbol⟩, sa_NoSymbol, eC_NoSymbol, tC_NoSymbol, kC_NoSymbol⟩, at_NoSymbol___init__, ti_NoSymbol, nb_NoSymbol, ⟨ga_NoSymbol, gg_NoSymbol, eC_NoSymbol, hd_NoSymbol⟩, exm_sub eC_NoSymbol ic_NoSymbol tC_NoSymbol te_NoSymbol⟩)
    (PySem.W.mg_of X G g0_Library)
    (cl_Library)
    (na_Library_name)
    (na_Library_needs)
    (na_Library_defines)
    (na_Library_uses)
    (na_Library_weak)
    (na_Library_eager)
    (na_Library_own_first)
    (⟨mk_Library, at_Library___init__, if_Library, kc_Library⟩)
    (PySem.W.mg_of X G g0_Store)
    (cl_Store)
    (na_Store_kept)
    (⟨mk_Store, at_Store___init__, if_Store, kc_Store⟩)
    (FF_NoLibrary___init__)
    (FF_NoLibrary___init__.binds (ps := P_NoLibrary___init__) fun _ _ _ _ _ _ us hl => match us, hl with | [_, _], _ => rfl)
    (FF_NoStore___init__)
    (FF_NoStore___init__.binds (ps := P_NoStore___init__) fun _ _ _ _ _ _ us hl => match us, hl with | [_, _], _ => rfl)
    (FF_NoName___init__)
    (FF_NoName___init__.binds (ps := P_NoName___init__) fun _ _ _ _ _ _ us hl => match us, hl with | [_, _], _ => rfl)
    (FF_Missing___init__)
    (FF_Missing___init__.binds (ps := P_Missing___init__) fun _ _ _ _ _ _ us hl => match us, hl with | [_, _], _ => rfl)
    (FF_NoSymbol___init__)
    (FF_NoSymbol___init__.binds (ps := P_NoSymbol___init__) fun _ _ _ _ _ _ us hl => match us, hl with | [_, _], _ => rfl)
    (FF_is_word)
    (FF_is_word.binds (ps := P_is_word) fun _ _ _ _ _ _ us hl => match us, hl with | [_], _ => rfl)
    (PySem.W.mg_of X G g0_is_word)
    (kp_is_word)
    (FF_are_words)
    (FF_are_words.binds (ps := P_are_words) fun _ _ _ _ _ _ us hl => match us, hl with | [_, _], _ => rfl)
    (PySem.W.mg_of X G g0_are_words)
    (kp_are_words)
    (FF_check_symbol)
    (FF_check_symbol.binds (ps := P_check_symbol) fun _ _ _ _ _ _ us hl => match us, hl with | [_], _ => rfl)
    (PySem.W.mg_of X G g0_check_symbol)
    (kp_check_symbol)
    (FF_closure)
    (FF_closure.binds (ps := P_closure) fun _ _ _ _ _ _ us hl => match us, hl with | [_, _], _ => rfl)
    (PySem.W.mg_of X G g0_closure)
    (kp_closure)
    (FF_grown)
    (FF_grown.binds (ps := P_grown) fun _ _ _ _ _ _ us hl => match us, hl with | [_, _, _], _ => rfl)
    (PySem.W.mg_of X G g0_grown)
    (kp_grown)
    (FF_definers)
    (FF_definers.binds (ps := P_definers) fun _ _ _ _ _ _ us hl => match us, hl with | [_, _, _], _ => rfl)
    (PySem.W.mg_of X G g0_definers)
    (kp_definers)
    (FF_Library___init__)
    (FF_Library_row)
    (FF_Library_row.binds (ps := P_Library_row) fun _ _ _ _ _ _ us hl => match us, hl with | [_], _ => rfl)
    (⟨at_Library_row, if_Library_row, kp_Library_row⟩)
    (FF_Library___eq__)
    (FF_Library___eq__.binds (ps := P_Library___eq__) fun _ _ _ _ _ _ us hl => match us, hl with | [_, _], _ => rfl)
    (⟨at_Library___eq__, if_Library___eq__⟩)
    (FF_Store___init__)
    (FF_Store___init__.binds (ps := P_Store___init__) fun _ _ _ _ _ _ us hl => match us, hl with | [_, _], _ => rfl)
    (FF_Store___getitem__)
    (FF_Store___getitem__.binds (ps := P_Store___getitem__) fun _ _ _ _ _ _ us hl => match us, hl with | [_, _], _ => rfl)
    (⟨at_Store___getitem__, if_Store___getitem__⟩)
    (fi_Store___getitem__)
    (FF_Store___iter__)
    (FF_Store___iter__.binds (ps := P_Store___iter__) fun _ _ _ _ _ _ us hl => match us, hl with | [_], _ => rfl)
    (⟨at_Store___iter__, if_Store___iter__⟩)
    (FF_Store___contains__)
    (FF_Store___contains__.binds (ps := P_Store___contains__) fun _ _ _ _ _ _ us hl => match us, hl with | [_, _], _ => rfl)
    (⟨at_Store___contains__, if_Store___contains__⟩)
    (FF_Store___len__)
    (FF_Store___len__.binds (ps := P_Store___len__) fun _ _ _ _ _ _ us hl => match us, hl with | [_], _ => rfl)
    (⟨at_Store___len__, if_Store___len__⟩)
    (FF__law_well)
    (FF__law_well.binds (ps := P__law_well) fun _ _ _ _ _ _ us hl => match us, hl with | [_], _ => rfl)
    (PySem.W.mg_of X G g0__law_well)
    (kp__law_well)
    (FF__law_draw)
    (FF__law_draw.binds (ps := P__law_draw) fun _ _ _ _ _ _ us hl => match us, hl with | [_, _], _ => rfl)
    (PySem.W.mg_of X G g0__law_draw)
    (kp__law_draw)
    (FF__law_one)
    (FF__law_one.binds (ps := P__law_one) fun _ _ _ _ _ _ us hl => match us, hl with | [_, _], _ => rfl)
    (PySem.W.mg_of X G g0__law_one)
    (kp__law_one)
    (FF__law_spec)
    (FF__law_spec.binds (ps := P__law_spec) fun _ _ _ _ _ _ us hl => match us, hl with | [_, _], _ => rfl)
    (PySem.W.mg_of X G g0__law_spec)
    (kp__law_spec)
    (FF__law_store)
    (FF__law_store.binds (ps := P__law_store) fun _ _ _ _ _ _ us hl => match us, hl with | [_], _ => rfl)
    (PySem.W.mg_of X G g0__law_store)
    (kp__law_store)
    (FF__law_row)
    (FF__law_row.binds (ps := P__law_row) fun _ _ _ _ _ _ us hl => match us, hl with | [_], _ => rfl)
    (PySem.W.mg_of X G g0__law_row)
    (kp__law_row)
    (FF__law_due)
    (FF__law_due.binds (ps := P__law_due) fun _ _ _ _ _ _ us hl => match us, hl with | [_, _, _], _ => rfl)
    (PySem.W.mg_of X G g0__law_due)
    (kp__law_due)
    (FF__law_said)
    (FF__law_said.binds (ps := P__law_said) fun _ _ _ _ _ _ us hl => match us, hl with | [_], _ => rfl)
    (PySem.W.mg_of X G g0__law_said)
    (kp__law_said)
    (FF_law)
    (FF_law.binds (ps := P_law) fun _ _ _ _ _ _ us hl => match us, hl with | [_], _ => rfl)
    (PySem.W.mg_of X G g0_law)
    (kp_law)
    (fun _ => .inr ⟨_, #[], _, le_e0, rfl, rfl, Nat.zero_le _, .nil⟩)
    (fun _ => .inr ⟨_, #[], _, le_e1, rfl, rfl, Nat.zero_le _, .nil⟩)
    (fun _ => .inr ⟨_, #[], _, le_e2, rfl, rfl, Nat.zero_le _, .nil⟩)
    (fun _ => .inr ⟨_, #[], _, le_e3, rfl, rfl, Nat.zero_le _, .nil⟩)
    (fun hh => .base (.ins hh cl_Library ty1_Library ty2 ty3 ty4_Library))
    (fun hh => .base (.ins hh cl_Store ty1_Store ty2 ty3 ty4_Store))
    (exm_sub eC_Missing ic_Missing tC_Missing x_ex_NoName_Missing)
    (exm_sub eC_Missing ic_Missing tC_Missing x_ex_NoSymbol_Missing)
    (exm_sub eC_NoName ic_NoName tC_NoName x_ex_NoSymbol_NoName)
    (rfl)
  refine ⟨(PySem.W.fnOf "law" "law" (defArgs s_law) (defBody s_law) (defScope s_law) .none kV_law dc_law pm_law an_law (.ref c_law) ct_law), [(c_law, t_law)], SL.spTab K AA, List.forall_mem_cons.mpr ⟨te_law, (fun _ z => nomatch z)⟩, List.forall_mem_cons.mpr ⟨Option.isNone_iff_eq_none.mp tn_law, (fun _ z => nomatch z)⟩, List.forall_mem_cons.mpr ⟨FV.codeHd_lk X lk_law tp_law th_law, (fun _ z => nomatch z)⟩, fun s v => .of_eq rfl, fun H a ns hl _ hT hS => ⟨⟨a, ns, rfl, hS, hl, fun _ => rfl⟩, List.forall_mem_cons.mpr ⟨hT (c_law, t_law) (by simp), (fun _ z => nomatch z)⟩⟩, fun base _ _ TB => okS_law (TxtB.mk T (TB (c_law, t_law) (by simp)))⟩
theorem walk {l : PySem.W.OpenLaw} {q : Program} {loose : List Str} {XP : (Str → Option Value) → Heap → Prop} {YP : World → Heap → Prop} {d : DefRec} {K : Params → PySem.W.Frag} (hn : l.most = some 63) (hdf : d.params.defaults = [])
    (hY : ∀ (w : World) (h : Heap), YP w h → (K w.params).In h)
    (F : ∀ (w : World) (mg : Str → Option Value) (fa : Addr) (h : Heap), YP w h → (K w.params).In h → h.Ns mainGlobals mg → mg d.name = some (.ref fa) → LamX.LawAtS l w (K w.params) CX0 9 63 "_law_script" mg fa h) :
    PySem.W.WalkO q loose XP YP l.row.toRowW d [] (fun f vs => PySem.call f vs) :=
  LamX.walk_ofTs (n := 63) (k := 9) (x := "_law_script") (CX := fun _ => CX0) hn (by decide) hdf ⟨rfl, by decide, by decide⟩ hY F fun _ _ _ _ _ z => z
end SL

open PySem PySem.W PyProof.Rows in
set_option maxRecDepth 100000 in
set_option maxHeartbeats 0 in
theorem PySem.Challenge.cw_scopebind_k05_closures_holds : PySem.Challenge.rw_scopebind_k05_closures.Holds := by
  w_on; o_law; k_head; (case hw => w_witness2)
  k_fill
  first
  | refine SL.walk (l := PySem.Challenge.rw_scopebind_k05_closures) rfl rfl (fun w h Y => PySem.W.kIn_of Y) ?F
  | refine SL.walk (l := PySem.Challenge.rw_scopebind_k05_closures) rfl rfl (fun w h Y => Y.1) ?F
  case F =>
    intro w mg fa h Y KX G hmg
    refine' SL.all_mk KX G hmg ?g0_LoadError ?g0_NoLibrary ?g0_NoStore ?g0_NoName ?g0_Missing ?g0_NoSymbol ?g0_Library ?g0_Store ?at_NoLibrary___init__ ?at_NoStore___init__ ?at_NoName___init__ ?at_Missing___init__ ?at_NoSymbol___init__ ?g0_is_word ?g0_are_words ?g0_check_symbol ?g0_closure ?g0_grown ?g0_definers ?at_Library___init__ ?at_Library_row ?at_Library___eq__ ?at_Store___init__ ?at_Store___getitem__ ?at_Store___iter__ ?at_Store___contains__ ?at_Store___len__ ?g0__law_well ?g0__law_draw ?g0__law_one ?g0__law_spec ?g0__law_store ?g0__law_row ?g0__law_due ?g0__law_said ?g0_law ?l_NoLibrary___init__ ?cd1_NoLibrary___init__ ?kp_NoLibrary___init__ ?l_NoStore___init__ ?cd1_NoStore___init__ ?kp_NoStore___init__ ?l_NoName___init__ ?cd1_NoName___init__ ?kp_NoName___init__ ?l_Missing___init__ ?cd1_Missing___init__ ?kp_Missing___init__ ?l_NoSymbol___init__ ?cd1_NoSymbol___init__ ?kp_NoSymbol___init__ ?l_is_word ?cd1_is_word ?kp_is_word ?l_are_words ?cd1_are_words ?kp_are_words ?l_check_symbol ?cd1_check_symbol ?kp_check_symbol ?l_closure ?cd1_closure ?kp_closure ?l_grown ?cd1_grown ?kp_grown ?l_definers ?cd1_definers ?kp_definers ?l_Library___init__ ?cd1_Library___init__ ?kp_Library___init__ ?l_Library_row ?cd1_Library_row ?kp_Library_row ?l_Library___eq__ ?cd1_Library___eq__ ?kp_Library___eq__ ?l_Store___init__ ?cd1_Store___init__ ?kp_Store___init__ ?l_Store___getitem__ ?cd1_Store___getitem__ ?kp_Store___getitem__ ?l_Store___iter__ ?cd1_Store___iter__ ?kp_Store___iter__ ?l_Store___contains__ ?cd1_Store___contains__ ?kp_Store___contains__ ?l_Store___len__ ?cd1_Store___len__ ?kp_Store___len__ ?l__law_well ?cd1__law_well ?kp__law_well ?l__law_draw ?cd1__law_draw ?kp__law_draw ?l__law_one ?cd1__law_one ?kp__law_one ?l__law_spec ?cd1__law_spec ?kp__law_spec ?l__law_store ?cd1__law_store ?kp__law_store ?l__law_row ?cd1__law_row ?kp__law_row ?l__law_due ?cd1__law_due ?kp__law_due ?l__law_said ?cd1__law_said ?kp__law_said ?l_law ?cd1_law ?lk_law ?tp_law ?th_law ?tn_law ?te_law ?kp_law ?kw_Library___init___0 ?kw_Library___init___1 ?kw_Library___init___2 ?kw_Library___init___3 ?kw_Library___init___4 ?kw_Library___init___5 ?z_ValueError ?z_all ?z_bool ?z_enumerate ?z_int ?z_isinstance ?z_len ?z_list ?z_range ?z_set ?z_sorted ?z_str ?z_tuple ?cv_LETTERS ?cv_MOST_LIBRARIES ?ld_ga ?ld_rd ?ld_fc ?xl_NoLibrary ?rb_NoLibrary ?sa_NoLibrary ?eC_NoLibrary ?tC_NoLibrary ?kC_NoLibrary ?ti_NoLibrary ?nb_NoLibrary ?ga_NoLibrary ?gg_NoLibrary ?hd_NoLibrary ?te_NoLibrary ?ic_NoLibrary ?xl_NoStore ?rb_NoStore ?sa_NoStore ?eC_NoStore ?tC_NoStore ?kC_NoStore ?ti_NoStore ?nb_NoStore ?ga_NoStore ?gg_NoStore ?hd_NoStore ?te_NoStore ?ic_NoStore ?xl_NoName ?rb_NoName ?sa_NoName ?eC_NoName ?tC_NoName ?kC_NoName ?ti_NoName ?nb_NoName ?ga_NoName ?gg_NoName ?hd_NoName ?te_NoName ?ic_NoName ?xl_Missing ?rb_Missing ?sa_Missing ?eC_Missing ?tC_Missing ?kC_Missing ?ti_Missing ?nb_Missing ?ga_Missing ?gg_Missing ?hd_Missing ?te_Missing ?ic_Missing ?xl_NoSymbol ?rb_NoSymbol ?sa_NoSymbol ?eC_NoSymbol ?tC_NoSymbol ?kC_NoSymbol ?ti_NoSymbol ?nb_NoSymbol ?ga_NoSymbol ?gg_NoSymbol ?hd_NoSymbol ?te_NoSymbol ?ic_NoSymbol ?pg_Library ?hd_Library ?po_Library ?sa_Library ?na_Library_name ?na_Library_needs ?na_Library_defines ?na_Library_uses ?na_Library_weak ?na_Library_eager ?na_Library_own_first ?mk_Library ?if_Library ?kc_Library ?pg_Store ?hd_Store ?po_Store ?sa_Store ?na_Store_kept ?mk_Store ?if_Store ?kc_Store ?if_Library_row ?if_Library___eq__ ?if_Store___getitem__ ?fi_Store___getitem__ ?if_Store___iter__ ?if_Store___contains__ ?if_Store___len__ ?le_e0 ?le_e1 ?le_e2 ?le_e3 ?ty1_Library ?ty2 ?ty3 ?ty4_Library ?ty1_Store ?ty4_Store ?x_ex_NoName_Missing ?x_ex_NoSymbol_Missing ?x_ex_NoSymbol_NoName
    (case g0_LoadError => k_is)
    (case g0_NoLibrary => k_is)
    (case g0_NoStore => k_is)
    (case g0_NoName => k_is)
    (case g0_Missing => k_is)
    (case g0_NoSymbol => k_is)
    (case g0_Library => k_is)
    (case g0_Store => k_is)
    (case at_NoLibrary___init__ => k_is)
    (case at_NoStore___init__ => k_is)
    (case at_NoName___init__ => k_is)
    (case at_Missing___init__ => k_is)
    (case at_NoSymbol___init__ => k_is)
    (case g0_is_word => k_is)
    (case g0_are_words => k_is)
    (case g0_check_symbol => k_is)
    (case g0_closure => k_is)
    (case g0_grown => k_is)
    (case g0_definers => k_is)
    (case at_Library___init__ => k_is)
    (case at_Library_row => k_is)
    (case at_Library___eq__ => k_is)
    (case at_Store___init__ => k_is)
    (case at_Store___getitem__ => k_is)
    (case at_Store___iter__ => k_is)
    (case at_Store___contains__ => k_is)
    (case at_Store___len__ => k_is)
    (case g0__law_well => k_is)
    (case g0__law_draw => k_is)
    (case g0__law_one => k_is)
    (case g0__law_spec => k_is)
    (case g0__law_store => k_is)
    (case g0__law_row => k_is)
    (case g0__law_due => k_is)
    (case g0__law_said => k_is)
    (case g0_law => k_is)
    (case l_NoLibrary___init__ => k_is)
    (case cd1_NoLibrary___init__ => k_is)
    (case kp_NoLibrary___init__ => k_is)
    (case l_NoStore___init__ => k_is)
    (case cd1_NoStore___init__ => k_is)
    (case kp_NoStore___init__ => k_is)
    (case l_NoName___init__ => k_is)
    (case cd1_NoName___init__ => k_is)
    (case kp_NoName___init__ => k_is)
    (case l_Missing___init__ => k_is)
    (case cd1_Missing___init__ => k_is)
    (case kp_Missing___init__ => k_is)
    (case l_NoSymbol___init__ => k_is)
    (case cd1_NoSymbol___init__ => k_is)
    (case kp_NoSymbol___init__ => k_is)
    (case l_is_word => k_is)
    (case cd1_is_word => k_is)
    (case kp_is_word => k_is)
    (case l_are_words => k_is)
    (case cd1_are_words => k_is)
    (case kp_are_words => k_is)
    (case l_check_symbol => k_is)
    (case cd1_check_symbol => k_is)
    (case kp_check_symbol => k_is)
    (case l_closure => k_is)
    (case cd1_closure => k_is)
    (case kp_closure => k_is)
    (case l_grown => k_is)
    (case cd1_grown => k_is)
    (case kp_grown => k_is)
    (case l_definers => k_is)
    (case cd1_definers => k_is)
    (case kp_definers => k_is)
    (case l_Library___init__ => k_is)
    (case cd1_Library___init__ => k_is)
    (case kp_Library___init__ => k_is)
    (case l_Library_row => k_is)
    (case cd1_Library_row => k_is)
    (case kp_Library_row => k_is)
    (case l_Library___eq__ => k_is)
    (case cd1_Library___eq__ => k_is)
    (case kp_Library___eq__ => k_is)
    (case l_Store___init__ => k_is)
    (case cd1_Store___init__ => k_is)
    (case kp_Store___init__ => k_is)
    (case l_Store___getitem__ => k_is)
    (case cd1_Store___getitem__ => k_is)
    (case kp_Store___getitem__ => k_is)
    (case l_Store___iter__ => k_is)
    (case cd1_Store___iter__ => k_is)
    (case kp_Store___iter__ => k_is)
    (case l_Store___contains__ => k_is)
    (case cd1_Store___contains__ => k_is)
    (case kp_Store___contains__ => k_is)
    (case l_Store___len__ => k_is)
    (case cd1_Store___len__ => k_is)
    (case kp_Store___len__ => k_is)
    (case l__law_well => k_is)
    (case cd1__law_well => k_is)
    (case kp__law_well => k_is)
    (case l__law_draw => k_is)
    (case cd1__law_draw => k_is)
    (case kp__law_draw => k_is)
    (case l__law_one => k_is)
    (case cd1__law_one => k_is)
    (case kp__law_one => k_is)
    (case l__law_spec => k_is)
    (case cd1__law_spec => k_is)
    (case kp__law_spec => k_is)
    (case l__law_store => k_is)
    (case cd1__law_store => k_is)
    (case kp__law_store => k_is)
    (case l__law_row => k_is)
    (case cd1__law_row => k_is)
    (case kp__law_row => k_is)
    (case l__law_due => k_is)
    (case cd1__law_due => k_is)
    (case kp__law_due => k_is)
    (case l__law_said => k_is)
    (case cd1__law_said => k_is)
    (case kp__law_said => k_is)
    (case l_law => k_is)
    (case cd1_law => k_is)
    (case lk_law => k_is)
    (case tp_law => first | rfl | exact (by kernel_rfl))
    (case th_law => first | kernel_rfl | rfl | decide +kernel)
    (case tn_law => first | kernel_rfl | rfl | decide +kernel)
    (case te_law => exact Y.2 _ (by decide))
    (case kp_law => k_is)
    (case kw_Library___init___0 => k_is)
    (case kw_Library___init___1 => k_is)
    (case kw_Library___init___2 => k_is)
    (case kw_Library___init___3 => k_is)
    (case kw_Library___init___4 => k_is)
    (case kw_Library___init___5 => k_is)
    (case z_ValueError => k_is)
    (case z_all => k_is)
    (case z_bool => k_is)
    (case z_enumerate => k_is)
    (case z_int => k_is)
    (case z_isinstance => k_is)
    (case z_len => k_is)
    (case z_list => k_is)
    (case z_range => k_is)
    (case z_set => k_is)
    (case z_sorted => k_is)
    (case z_str => k_is)
    (case z_tuple => k_is)
    (case cv_LETTERS => k_is)
    (case cv_MOST_LIBRARIES => k_is)
    (case ld_ga => k_is)
    (case ld_rd => k_is)
    (case ld_fc => k_is)
    (case xl_NoLibrary => k_is)
    (case rb_NoLibrary => decide +kernel)
    (case sa_NoLibrary => k_is)
    (case eC_NoLibrary => k_is)
    (case tC_NoLibrary => k_is)
    (case kC_NoLibrary => k_is)
    (case ti_NoLibrary => k_is)
    (case nb_NoLibrary => k_is)
    (case ga_NoLibrary => k_is)
    (case gg_NoLibrary => k_is)
    (case hd_NoLibrary => k_is)
    (case te_NoLibrary => first | rfl | k_is)
    (case ic_NoLibrary => k_is)
    (case xl_NoStore => k_is)
    (case rb_NoStore => decide +kernel)
    (case sa_NoStore => k_is)
    (case eC_NoStore => k_is)
    (case tC_NoStore => k_is)
    (case kC_NoStore => k_is)
    (case ti_NoStore => k_is)
    (case nb_NoStore => k_is)
    (case ga_NoStore => k_is)
    (case gg_NoStore => k_is)
    (case hd_NoStore => k_is)
    (case te_NoStore => first | rfl | k_is)
    (case ic_NoStore => k_is)
    (case xl_NoName => k_is)
    (case rb_NoName => decide +kernel)
    (case sa_NoName => k_is)
    (case eC_NoName => k_is)
    (case tC_NoName => k_is)
    (case kC_NoName => k_is)
    (case ti_NoName => k_is)
    (case nb_NoName => k_is)
    (case ga_NoName => k_is)
    (case gg_NoName => k_is)
    (case hd_NoName => k_is)
    (case te_NoName => first | rfl | k_is)
    (case ic_NoName => k_is)
    (case xl_Missing => k_is)
    (case rb_Missing => decide +kernel)
    (case sa_Missing => k_is)
    (case eC_Missing => k_is)
    (case tC_Missing => k_is)
    (case kC_Missing => k_is)
    (case ti_Missing => k_is)
    (case nb_Missing => k_is)
    (case ga_Missing => k_is)
    (case gg_Missing => k_is)
    (case hd_Missing => k_is)
    (case te_Missing => first | rfl | k_is)
    (case ic_Missing => k_is)
    (case xl_NoSymbol => k_is)
    (case rb_NoSymbol => decide +kernel)
    (case sa_NoSymbol => k_is)
    (case eC_NoSymbol => k_is)
    (case tC_NoSymbol => k_is)
    (case kC_NoSymbol => k_is)
    (case ti_NoSymbol => k_is)
    (case nb_NoSymbol => k_is)
    (case ga_NoSymbol => k_is)
    (case gg_NoSymbol => k_is)
    (case hd_NoSymbol => k_is)
    (case te_NoSymbol => first | rfl | k_is)
    (case ic_NoSymbol => k_is)
    (case pg_Library => k_is)
    (case hd_Library => k_is)
    (case po_Library => k_is)
    (case sa_Library => k_is)
    (case na_Library_name => k_is)
    (case na_Library_needs => k_is)
    (case na_Library_defines => k_is)
    (case na_Library_uses => k_is)
    (case na_Library_weak => k_is)
    (case na_Library_eager => k_is)
    (case na_Library_own_first => k_is)
    (case mk_Library => k_is)
    (case if_Library => k_is)
    (case kc_Library => k_is)
    (case pg_Store => k_is)
    (case hd_Store => k_is)
    (case po_Store => k_is)
    (case sa_Store => k_is)
    (case na_Store_kept => k_is)
    (case mk_Store => k_is)
    (case if_Store => k_is)
    (case kc_Store => k_is)
    (case if_Library_row => k_is)
    (case if_Library___eq__ => k_is)
    (case if_Store___getitem__ => k_is)
    (case fi_Store___getitem__ => k_is)
    (case if_Store___iter__ => k_is)
    (case if_Store___contains__ => k_is)
    (case if_Store___len__ => k_is)
    (case le_e0 => k_is)
    (case le_e1 => k_is)
    (case le_e2 => k_is)
    (case le_e3 => k_is)
    (case ty1_Library => k_is)
    (case ty2 => k_is)
    (case ty3 => k_is)
    (case ty4_Library => k_is)
    (case ty1_Store => k_is)
    (case ty4_Store => k_is)
    (case x_ex_NoName_Missing => k_is)
    (case x_ex_NoSymbol_Missing => k_is)
    (case x_ex_NoSymbol_NoName => k_is)
