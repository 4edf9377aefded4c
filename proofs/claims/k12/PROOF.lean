import PyProof.Rows.All
import Wide.All
import OpenK.AllK
import Wide.FinOn
import HandS.ForMost
import HandS.ForExc
import HandS.More
import HandS.SetKeys
import HandS.Strs
import HandS.TupAny
import HandS.IsInst
import HandS.Deep
import PyProof.ReprRoads
import HandS.RaiseMore
import HandS.Walk
import HandS.TryOnly
import HandS.Zip
import HandS.Ends
import HandS.Conv
import HandS.HotCalls
import HandS.ExcIs
import HandS.Text
import KE.RegKIsAll
import KE.RegKTryMore
import PySem.Challenge.RW_fewthings_k12_whole_books_judged
set_option Elab.async false
set_option linter.all false
set_option maxRecDepth 100000
set_option  maxHeartbeats 4000000
set_option autoImplicit false
/-! Fw: sets of ints and texts, made of a list or a tuple; how many -/
namespace Fw
open PySem L2 PySem.Spec PyProof.Rows

/-- how many of the first i differ -/
def cntK (ks : List Key) : Nat → Nat
  | 0 => 0
  | i + 1 => if (ks.take i).any (fun j => decide (j = ks.getD i (.inl 0))) then cntK ks i else cntK ks i + 1
theorem cntK_le (ks : List Key) : ∀ i, cntK ks i ≤ i
  | 0 => Nat.le_refl _
  | i + 1 => by
    have h := cntK_le ks i
    unfold cntK
    split <;> omega
/-- values, their keys -/
inductive KeysAre (P : Program) (w : World) : List Value → List Key → Prop
  | nil : KeysAre P w [] []
  | cons {v : Value} {vs : List Value} {k : Key} {ks : List Key} : (mixKind P w).is k v = true → v.scannable = true → KeysAre P w vs ks → KeysAre P w (v :: vs) (k :: ks)
theorem KeysAre.at {P : Program} {w : World} : ∀ {vs : List Value} {ks : List Key}, KeysAre P w vs ks → ∀ (i : Nat) (v : Value), vs[i]? = some v → (mixKind P w).is (ks.getD i (.inl 0)) v = true ∧ v.scannable = true
  | _, _, .nil, i, v, h => by simp at h
  | _, _, .cons a b t, 0, v, h => by
    simp at h
    subst h
    exact ⟨a, b⟩
  | _, _, .cons a b t, i + 1, v, h => by
    simp only [List.getElem?_cons_succ] at h
    exact t.at i v h
theorem KeysAre.len {P : Program} {w : World} : ∀ {vs : List Value} {ks : List Key}, KeysAre P w vs ks → vs.length = ks.length
  | _, _, .nil => rfl
  | _, _, .cons _ _ t => congrArg (· + 1) t.len
section
variable {P : Program} {w : World} {A : Around} {I : Addr} {fp wr : List Addr} {G : Array GenState → Array GenState → Prop} {n : Nat} {Pi : Nat → Value → Prop} {St : Nat → Shared → Prop} {R : Result → Shared → Prop}
theorem setOf_eq {knd : KeyKind P w Key} {h : Heap} {a : Addr} {S S' : Key → Bool} {n n' : Nat} (z : h.SetOf knd a S n) (e : ∀ k, S k = S' k) (en : n = n') : h.SetOf knd a S' n' := by
  have q : S = S' := funext e
  subst q
  subst en
  exact z
abbrev seenK (ks : List Key) (i : Nat) : Key → Bool := fun j => (ks.take i).any fun k => decide (k = j)
theorem seenK_succ {ks : List Key} {i : Nat} (h : i < ks.length) (j : Key) : (seenK ks i j || decide (j = ks.getD i (.inl 0))) = seenK ks (i + 1) j := by
  have e : ks.getD i (.inl 0) = ks[i] := by simp [List.getD, h]
  unfold seenK
  rw [e, List.take_succ_eq_append_getElem h, List.any_append]
  congr 1
  simp only [List.any_cons, List.any_nil, Bool.or_false]
  exact decide_eq_decide.mpr ⟨fun x => x.symm, fun x => x.symm⟩
theorem set_loop (T : WalksS P w A.in1 I fp wr G n Pi St) (Z : Addr) (hZ : Z ∉ fp) {ks : List Key} (hl : ks.length = n)
    (hv : ∀ i v, Pi i v → (mixKind P w).is (ks.getD i (.inl 0)) v = true ∧ v.scannable = true) (hb : n + 1 < scanBound) :
    ∀ (k i : Nat) (s : Shared), n - i = k → i ≤ n → St i s → s.heap.SetOf (mixKind P w) Z (seenK ks i) (cntK ks i) →
      (∀ s', Moved (Z :: wr) G s s' → s'.heap.SetOf (mixKind P w) Z (seenK ks n) (cntK ks n) → R (.ok (.ret .none)) s') →
      codeAny (model P w) A (.builtin "set.update.loop" ⟨[.ref Z, .ref I], []⟩) R s := by
  have zw : Z ∉ wr := fun h => hZ (T.sub _ h)
  have up : ∀ b ∈ wr, b ∈ Z :: wr := fun b q => List.mem_cons_of_mem _ q
  intro k
  induction k with
  | zero =>
    intro i s hk hi hst hS hR
    obtain rfl : i = n := by omega
    refine codeAny_builtin PyProof.Rows.F.entry_set_update_loop ?_
    rw [Around.under_plainId PyProof.Rows.F.plain_set_update_loop _]
    show wpAny _ A.in1 (pyNext (.ref I) >>= _) _ _ s
    refine wpAny_bind (T.done s _ _ hst fun s' hm => ?_)
    show wpAny _ A.in1 (ret Value.none) _ _ s'
    refine wpAny_pure (hR s' (hm.mono up) ?_)
    obtain ⟨o, es, ep, t, ho, q⟩ := hS
    exact ⟨o, es, ep, t, hm.heap Z _ zw ho, q⟩
  | succ k ih =>
    intro i s hk hi hst hS hR
    have hlt : i < n := by omega
    refine codeAny_builtin PyProof.Rows.F.entry_set_update_loop ?_
    rw [Around.under_plainId PyProof.Rows.F.plain_set_update_loop _]
    show wpAny _ A.in1 (pyNext (.ref I) >>= _) _ _ s
    refine wpAny_bind (T.item i s _ _ hlt hst fun v s' hP hst' hm => ?_)
    obtain ⟨c1, c2⟩ := hv i v hP
    have hS2 : s'.heap.SetOf (mixKind P w) Z (seenK ks i) (cntK ks i) := by
      obtain ⟨o, es, ep, tb, ho, q⟩ := hS
      exact ⟨o, es, ep, tb, hm.heap Z _ zw ho, q⟩
    show wpAny _ A.in1 (holding [v] (setAdd Z v) >>= _) _ _ s'
    refine wpAny_bind (wpAny_holding ?_)
    unfold setAdd
    refine wpAny_holding (wpAny_bind ((mixKind P w).pyHash (k := ks.getD i (.inl 0)) c1 ?_))
    have room : cntK ks i + 1 < scanBound := by
      have := cntK_le ks i
      omega
    refine wpAny_setAddHashed_of (knd := mixKind P w) (s := { s' with toks := s'.toks + 1 }) c1 c2 hS2 room fun h' sb hS3 => ?_
    have hS4 : h'.SetOf (mixKind P w) Z (seenK ks (i + 1)) (cntK ks (i + 1)) := setOf_eq hS3 (fun j => seenK_succ (by omega) j) rfl
    refine wpAny_pure ⟨plainId_quiet PyProof.Rows.F.plain_set_update_loop _, ih (i + 1) _ (by omega) hlt (T.frame _ s' _ _ hst' (Nat.le_succ _) fun b q o e => ?_) hS4 fun s'' m2 z => ?_⟩
    · rw [sb.2 b fun h : b = Z => hZ (by rw [← h]; exact q)]
      exact e
    · refine hR s'' (Moved.trans T.gtrans ((hm.mono up).then_heap (Nat.le_succ _) fun b o q e => ?_) m2) z
      rw [sb.2 b fun h : b = Z => q (by rw [h]; exact List.mem_cons_self)]
      exact e
end
section
variable {P : Program} {w : World} {A : Around} {E : Value → Shared → Prop} {s : Shared}
theorem set_of_list {l : Addr} {xs : Array Value} {ks : List Key} {Q : Value → Shared → Prop}
    (hh : A.handled = none) (hl : s.heap.IsList l xs) (hi : KeysAre P w xs.toList ks) (hb : xs.size + 1 < scanBound)
    (h : ∀ (h' : Heap) (tk : Nat), h'.SetOf (mixKind P w) s.heap.objs.size (seenK ks xs.size) (cntK ks xs.size) →
      (∀ b o, b < s.heap.objs.size → s.heap.get? b = some o → h'.get? b = some o) → Q (.ref s.heap.objs.size) { s with heap := h', toks := tk }) :
    wpAny (model P w) A (call (.type "set") [.ref l]) Q E s := by
  have ct := PySem.F.called_set
  obtain ⟨c0, t0, m0⟩ := ct.mro
  have m1 := ct.made
  have m2 := ct.sub
  refine wpAny_call (codeAny_of_tree ?_)
  show wpAny _ _ (callAny (.type "set") _) _ _ _
  refine wpAny_pure
    ⟨Code.quiet_builtin _ (by decide +kernel), codeAny_builtin PySem.F.entry_type_call ?_⟩
  rw [Around.under_plain (weight_type_call_type "set" [.ref l] []) rfl]
  have m3 := ct.notType
  have m4 := ct.canCreate
  have m5 := PySem.F.typeCall_set_1 (.ref l)
  repeat (any_goals (first | assumption | wp_step))
  let ob : Bool → Obj := fun led => { cls := .type "set", dict := none, data := .set #[] 0 (.fresh 0 0 led) }
  refine codeAny_mono (code_set_new_1 (.ref l) (E := E)
    (Q₁ := fun r s₁ => ∃ led : Bool, r = .ref s.heap.objs.size ∧ s₁ = { s with heap := s.heap.push (ob led) })
    fun led => ⟨led, rfl, rfl⟩) fun r s₁ hr => ?_
  cases r with
  | error e => exact hr
  | ok fl =>
    cases fl with
    | ret z =>
      obtain ⟨led, rfl, rfl⟩ := hr
      have g1 : (s.heap.push (ob led)).get? s.heap.objs.size = some (ob led) := Heap.get?_push_size _ rfl
      have g2 : Shared.TypeIs { s with heap := s.heap.push (ob led) } (.ref s.heap.objs.size) "set" := ⟨_, g1, rfl⟩
      have m6 := ct.init.lookup
      have m7 := ct.init.bind (.ref s.heap.objs.size)
      repeat (any_goals (first | assumption | wp_step))
      refine codeAny_mono (codeAny_call_builtin (R := wants (fun r s₂ => r = .none ∧ ∃ h' tk, s₂ = { s with heap := h', toks := tk } ∧
          h'.SetOf (mixKind P w) s.heap.objs.size (seenK ks xs.size) (cntK ks xs.size) ∧
          (∀ b o, b < s.heap.objs.size → s.heap.get? b = some o → h'.get? b = some o)) E) ct.init.plain PySem.F.entry_set_init (check_set_init_1 g2 ?_)) fun r₂ s₂ hr₂ => ?_
      · obtain ⟨ol, hol, hc, nl, hd⟩ := hl
        obtain ⟨oc, od, odt, osl⟩ := ol
        simp only at hc hd
        subst hc
        subst hd
        have hol2 : (s.heap.push (ob led)).get? l = some
            { cls := .type "list", dict := od, data := .seq xs nl, slots := osl } :=
          Heap.get?_push_of_some _ hol
        have n1 := PySem.F.sub_list_set
        have n2 := PySem.F.sub_list_frozenset
        have n3 : (Value.type "list" == Value.type "dict") = false := by
          decide
        have n4 : (s.heap.push (ob led)).IsList l xs := ⟨_, hol2, rfl, nl, rfl⟩
        unfold Builtin.«set.__init__» noKeywords Builtin.Frozenset.updateFrom
        generalize hPI : pyIter = PI
        wp_walk
        subst hPI
        refine wpAny_pyIter_list n4 (wpAny_bind (wpAny_runValue ?_))
        have lt : l < s.heap.objs.size := Heap.lt_size hol
        have h3 : A.in1.in1.in1.handled = none := by
          simp [hh]
        have d1 : l ≠ (s.heap.push (ob led)).objs.size := by
          rw [Heap.size_push]
          exact Nat.ne_of_lt (Nat.lt_succ_of_lt lt)
        have d2 : s.heap.objs.size ∉ [(s.heap.push (ob led)).objs.size, l] := by
          rw [Heap.size_push]
          simp only [List.mem_cons, List.mem_singleton, List.not_mem_nil, or_false, not_or]
          exact ⟨Nat.ne_of_lt (Nat.lt_succ_self _), Nat.ne_of_gt lt⟩
        have len : ks.length = xs.size := by
          rw [← hi.len, Array.length_toList]
        refine set_loop ((Walks.list h3 _ l d1 xs).toS) s.heap.objs.size d2 len
          (fun i v hv => hi.at i v (by rw [Array.getElem?_toList]; exact hv)) hb (xs.size - 0) 0 _ (by omega) (Nat.zero_le _)
          ⟨⟨_, Heap.get?_push_size _ rfl, rfl, rfl⟩, n4.push _⟩ ?z0 ?z1
        case z0 =>
          have g3 : ((s.heap.push (ob led)).push { cls := .type "list_iterator", data := .fields #[.ref l, .int 0 0] }).get? s.heap.objs.size = some (ob led) := Heap.get?_push_of_some _ g1
          exact ⟨_, #[], 0, _, g3, ⟨rfl, rfl, rfl⟩, rfl, (fun e he => by simp at he), (fun k => by simp [seenK]), (by decide), (by rfl), rfl⟩
        case z1 =>
          intro s' hm hS'
          obtain ⟨h', gg, dd, tk', oo⟩ := s'
          have e1 : gg = s.gens := hm.gens
          have e2 : dd = s.drawn := hm.drawn
          have e3 : oo = s.os := hm.os
          subst e1
          subst e2
          subst e3
          show wpAny _ _ _ _ _ _
          refine wpAny_pure ?_
          show wpAny _ _ (ret Value.none) _ _ _
          refine wpAny_pure ⟨rfl, h', tk', rfl, hS', fun b o q e => ?_⟩
          have b1 : b ≠ s.heap.objs.size := Nat.ne_of_lt q
          have b2 : b ≠ (s.heap.push (ob led)).objs.size := by
            rw [Heap.size_push]
            exact Nat.ne_of_lt (Nat.lt_succ_of_lt q)
          refine hm.heap b o ?_ (Heap.get?_push_of_some _ (Heap.get?_push_of_some _ e))
          simp only [List.mem_cons, List.mem_singleton, List.not_mem_nil, or_false, not_or]
          exact ⟨b1, b2⟩
      · cases r₂ with
        | error e => exact hr₂
        | ok f2 =>
          cases f2 with
          | ret r =>
            obtain ⟨rfl, h', tk, rfl, y1, y2⟩ := hr₂
            repeat (any_goals (first | assumption | wp_step))
            exact h _ _ y1 y2
          | _ => exact hr₂.elim
    | _ => exact hr.elim
end
section
variable {P : Program} {w : World} {A : Around} {E : Value → Shared → Prop} {s : Shared}
theorem set_of_tuple {l : Addr} {xs : Array Value} {ks : List Key} {Q : Value → Shared → Prop}
    (hh : A.handled = none) (hl : s.heap.IsTuple l xs) (hi : KeysAre P w xs.toList ks) (hb : xs.size + 1 < scanBound)
    (h : ∀ (h' : Heap) (tk : Nat), h'.SetOf (mixKind P w) s.heap.objs.size (seenK ks xs.size) (cntK ks xs.size) →
      (∀ b o, b < s.heap.objs.size → s.heap.get? b = some o → h'.get? b = some o) → Q (.ref s.heap.objs.size) { s with heap := h', toks := tk }) :
    wpAny (model P w) A (call (.type "set") [.ref l]) Q E s := by
  have ct := PySem.F.called_set
  obtain ⟨c0, t0, m0⟩ := ct.mro
  have m1 := ct.made
  have m2 := ct.sub
  refine wpAny_call (codeAny_of_tree ?_)
  show wpAny _ _ (callAny (.type "set") _) _ _ _
  refine wpAny_pure
    ⟨Code.quiet_builtin _ (by decide +kernel), codeAny_builtin PySem.F.entry_type_call ?_⟩
  rw [Around.under_plain (weight_type_call_type "set" [.ref l] []) rfl]
  have m3 := ct.notType
  have m4 := ct.canCreate
  have m5 := PySem.F.typeCall_set_1 (.ref l)
  repeat (any_goals (first | assumption | wp_step))
  let ob : Bool → Obj := fun led => { cls := .type "set", dict := none, data := .set #[] 0 (.fresh 0 0 led) }
  refine codeAny_mono (code_set_new_1 (.ref l) (E := E)
    (Q₁ := fun r s₁ => ∃ led : Bool, r = .ref s.heap.objs.size ∧ s₁ = { s with heap := s.heap.push (ob led) })
    fun led => ⟨led, rfl, rfl⟩) fun r s₁ hr => ?_
  cases r with
  | error e => exact hr
  | ok fl =>
    cases fl with
    | ret z =>
      obtain ⟨led, rfl, rfl⟩ := hr
      have g1 : (s.heap.push (ob led)).get? s.heap.objs.size = some (ob led) := Heap.get?_push_size _ rfl
      have g2 : Shared.TypeIs { s with heap := s.heap.push (ob led) } (.ref s.heap.objs.size) "set" := ⟨_, g1, rfl⟩
      have m6 := ct.init.lookup
      have m7 := ct.init.bind (.ref s.heap.objs.size)
      repeat (any_goals (first | assumption | wp_step))
      refine codeAny_mono (codeAny_call_builtin (R := wants (fun r s₂ => r = .none ∧ ∃ h' tk, s₂ = { s with heap := h', toks := tk } ∧
          h'.SetOf (mixKind P w) s.heap.objs.size (seenK ks xs.size) (cntK ks xs.size) ∧
          (∀ b o, b < s.heap.objs.size → s.heap.get? b = some o → h'.get? b = some o)) E) ct.init.plain PySem.F.entry_set_init (check_set_init_1 g2 ?_)) fun r₂ s₂ hr₂ => ?_
      · obtain ⟨ol, hol, hc, nl, hd⟩ := hl
        obtain ⟨oc, od, odt, osl⟩ := ol
        simp only at hc hd
        subst hc
        subst hd
        have hol2 : (s.heap.push (ob led)).get? l = some
            { cls := .type "tuple", dict := od, data := .seq xs nl, slots := osl } :=
          Heap.get?_push_of_some _ hol
        have n1 := PySem.F.sub_tuple_set
        have n2 := PySem.F.sub_tuple_frozenset
        have n3 : (Value.type "tuple" == Value.type "dict") = false := by
          decide
        have n4 : (s.heap.push (ob led)).IsTuple l xs := ⟨_, hol2, rfl, nl, rfl⟩
        unfold Builtin.«set.__init__» noKeywords Builtin.Frozenset.updateFrom
        generalize hPI : pyIter = PI
        wp_walk
        subst hPI
        refine wpAny_pyIter_tuple n4 (wpAny_bind (wpAny_runValue ?_))
        have lt : l < s.heap.objs.size := Heap.lt_size hol
        have h3 : A.in1.in1.in1.handled = none := by
          simp [hh]
        have d1 : l ≠ (s.heap.push (ob led)).objs.size := by
          rw [Heap.size_push]
          exact Nat.ne_of_lt (Nat.lt_succ_of_lt lt)
        have d2 : s.heap.objs.size ∉ [(s.heap.push (ob led)).objs.size, l] := by
          rw [Heap.size_push]
          simp only [List.mem_cons, List.mem_singleton, List.not_mem_nil, or_false, not_or]
          exact ⟨Nat.ne_of_lt (Nat.lt_succ_self _), Nat.ne_of_gt lt⟩
        have len : ks.length = xs.size := by
          rw [← hi.len, Array.length_toList]
        refine set_loop ((Walks.tuple h3 _ l d1 xs).toS) s.heap.objs.size d2 len
          (fun i v hv => hi.at i v (by rw [Array.getElem?_toList]; exact hv)) hb (xs.size - 0) 0 _ (by omega) (Nat.zero_le _)
          ⟨⟨_, Heap.get?_push_size _ rfl, rfl, rfl⟩, n4.push _⟩ ?z0 ?z1
        case z0 =>
          have g3 : ((s.heap.push (ob led)).push { cls := .type "tuple_iterator", data := .fields #[.ref l, .int 0 0] }).get? s.heap.objs.size = some (ob led) := Heap.get?_push_of_some _ g1
          exact ⟨_, #[], 0, _, g3, ⟨rfl, rfl, rfl⟩, rfl, (fun e he => by simp at he), (fun k => by simp [seenK]), (by decide), (by rfl), rfl⟩
        case z1 =>
          intro s' hm hS'
          obtain ⟨h', gg, dd, tk', oo⟩ := s'
          have e1 : gg = s.gens := hm.gens
          have e2 : dd = s.drawn := hm.drawn
          have e3 : oo = s.os := hm.os
          subst e1
          subst e2
          subst e3
          show wpAny _ _ _ _ _ _
          refine wpAny_pure ?_
          show wpAny _ _ (ret Value.none) _ _ _
          refine wpAny_pure ⟨rfl, h', tk', rfl, hS', fun b o q e => ?_⟩
          have b1 : b ≠ s.heap.objs.size := Nat.ne_of_lt q
          have b2 : b ≠ (s.heap.push (ob led)).objs.size := by
            rw [Heap.size_push]
            exact Nat.ne_of_lt (Nat.lt_succ_of_lt q)
          refine hm.heap b o ?_ (Heap.get?_push_of_some _ (Heap.get?_push_of_some _ e))
          simp only [List.mem_cons, List.mem_singleton, List.not_mem_nil, or_false, not_or]
          exact ⟨b1, b2⟩
      · cases r₂ with
        | error e => exact hr₂
        | ok f2 =>
          cases f2 with
          | ret r =>
            obtain ⟨rfl, h', tk, rfl, y1, y2⟩ := hr₂
            repeat (any_goals (first | assumption | wp_step))
            exact h _ _ y1 y2
          | _ => exact hr₂.elim
    | _ => exact hr.elim
end

/-! ### len(set(xs)) -/
def tLenK (K : PySem.W.Frag) (ta : TE) : TE := fun σ H Q => ta σ H fun x H1 => ∃ (l : Addr) (ks : List Key), x = .ref l ∧ (SqL K H1 l (ks.map kV) ∨ SqT K H1 l (ks.map kV)) ∧ ks.length < 4000 ∧ Q (.int (cntK ks ks.length : Nat)) H1
theorem keysAre_of {P : Program} {w : World} : ∀ {ks : List Key} {us : List Value}, Vals (ks.map kV) us → KeysAre P w us ks
  | [], _, .nil => .nil
  | _ :: _, _, .cons r t => .cons (kV_is r) (key_scan r) (keysAre_of t)
theorem pe_lenK {X : Cx} {a : Expr} {ta : TE} {p p2 q pos : Pos} (hc : X.calm = true) (hg : Gl X "len") (hm : X.mg "len" = none) (hg2 : Gl X "set") (hm2 : X.mg "set" = none) (ha : PE X a ta)
    (na : starEach [a] X.env = (false, eval a X.env) :: starEach [] X.env := by rfl) : PE X (.Call (.Name "len" p) [.Call (.Name "set" p2) [a] [] q] [] pos) (tLenK X.K ta) := by
  refine ⟨fun pins s σ H Q I h => ?_⟩
  refine Call_ (ld_blt I hg hm boot_len ?_)
  refine PyProof.Rows.callWith_builtin1 (PyProof.Rows.args_cons ?_ rfl) rfl rfl
  refine Call_ (ld_blt I hg2 hm2 PyProof.Rows.boot_set ?_)
  refine PyProof.Rows.callWith_type1 (PyProof.Rows.args_cons (thn (ha.run pins s σ H _ I h) fun v s1 z => PyProof.Rows.args_nil ?_) na) na rfl
  obtain ⟨x, H1, I1, r1, l, ks, rfl, hq, hz, q1⟩ := z
  cases r1
  have sb : ks.length + 1 < scanBound := by
    unfold scanBound
    omega
  have fin : ∀ (its : List Value), Vals (ks.map kV) its → ∀ (h' : Heap) (tk : Nat), h'.SetOf (mixKind X.prog X.w) s1.heap.objs.size (seenK ks its.toArray.size) (cntK ks its.toArray.size) →
      (∀ b o, b < s1.heap.objs.size → s1.heap.get? b = some o → h'.get? b = some o) →
      wpAny (model X.prog X.w) X.A (spliced (backTo pos (starEach [] X.env))) (fun vs s₂ => wpAny (model X.prog X.w) X.A (call (.builtin "len") (Value.ref s1.heap.objs.size :: vs)) (EP X pins σ Q) X.xe s₂) X.xe { s1 with heap := h', toks := tk } := fun its r h' tk hS hk => by
    refine PyProof.Rows.args_nil ?_
    have hl : its.toArray.size = ks.length := by
      rw [List.size_toArray, ← r.length, List.length_map]
    rw [hl] at hS
    obtain ⟨o, es, ep, t, ho, hex, hd, _, _, _, hf, hn⟩ := hS
    have I2 : Inv X pins σ H1 { s1 with heap := h', toks := tk } := I1.kept fun b o e => hk b o (Heap.lt_size e) e
    have le := cntK_le ks ks.length
    refine call_len_set ho hex hd hf (by rw [hn]; omega) ⟨.int (cntK ks ks.length : Nat), H1, I2.tok _, ⟨_, by rw [hn]⟩, q1⟩
  rcases hq with hq | hq
  · obtain ⟨its, r, pl, _⟩ := I1.list hq
    have hl : its.toArray.size = ks.length := by
      rw [List.size_toArray, ← r.length, List.length_map]
    exact set_of_list (I1.ok.hd hc) pl.isList (by simpa using keysAre_of r) (by rw [hl]; exact sb) fun h' tk hS hk => fin its r h' tk hS hk
  · obtain ⟨its, r, pl, _⟩ := I1.tuple hq
    have hl : its.toArray.size = ks.length := by
      rw [List.size_toArray, ← r.length, List.length_map]
    exact set_of_tuple (I1.ok.hd hc) pl (by simpa using keysAre_of r) (by rw [hl]; exact sb) fun h' tk hS hk => fin its r h' tk hS hk
end Fw

set_option  maxHeartbeats 4000000
/-! Fw: a walk by values. Frozen data D, cells, owned slots; an evaluator in combinators, sound over the hand layer. -/
namespace Fw
open PySem L2

/-- data of the walk -/
inductive D where
  | non | bl (b : Bool) | int (i : Int) | str (x : Str)
  | lst (xs : List D) | tup (xs : List D)
  | dK (kvs : List (Key × D))
  | ob (C : Addr) (fs : List (Str × D))
  | scr (ns : List Int)
  | cel (n : Nat)

abbrev Fr := PySem.W.Frag
/-- where a cell's number stands in the frozen part -/
def mk (n : Nat) : HO := .met n n
def isMk : HO → Bool
  | .met _ _ => true
  | _ => false

mutual
/-- v is d, all its objects in F -/
inductive Rep (K : Fr) (F : Hp) : V → D → Prop
  | non : Rep K F .non .non
  | bl (b : Bool) : Rep K F (.bl b) (.bl b)
  | int (i : Int) : Rep K F (.int i) (.int i)
  | str (x : Str) : Rep K F (.str x) (.str x)
  | lst {a : Addr} {vs : List V} {ds : List D} : F a = some (.lst vs) → RepL K F vs ds → Rep K F (.ref a) (.lst ds)
  | tup {a : Addr} {vs : List V} {ds : List D} : SqT K F a vs → RepL K F vs ds → Rep K F (.ref a) (.tup ds)
  | dK {a : Addr} {ob : Obj} {ws : List (Key × V)} {kvs : List (Key × D)} : F a = some (.frz ob (.dK ws)) → ws.map (·.1) = kvs.map (·.1) → RepL K F (ws.map (·.2)) (kvs.map (·.2)) → Rep K F (.ref a) (.dK kvs)
  | ob {a C dx : Addr} {ws : List (Str × V)} {fs : List (Str × D)} : F a = some (.ins C dx ws) → ws.map (·.1) = fs.map (·.1) → RepL K F (ws.map (·.2)) (fs.map (·.2)) → Rep K F (.ref a) (.ob C fs)
  | scr {a : Addr} {ns : List Int} : SqL K F a (ns.map V.int) → Rep K F (.ref a) (.scr ns)
  | cel {a : Addr} {n : Nat} : F a = some (mk n) → Rep K F (.ref a) (.cel n)
inductive RepL (K : Fr) (F : Hp) : List V → List D → Prop
  | nil : RepL K F [] []
  | cons {v : V} {vs : List V} {d : D} {ds : List D} : Rep K F v d → RepL K F vs ds → RepL K F (v :: vs) (d :: ds)
end

/-- what F knows stands in H; a dict may be locked there -/
structure Sub (F H : Hp) : Prop where
  of : ∀ a o, isMk o = false → F a = some o → H a = some o ∨ ∃ kvs ob, o = .dK kvs ∧ H a = some (.frz ob o)
  mks : ∀ a o, isMk o = true → F a = some o → (H a).isSome = true

theorem sqT_same {K : Fr} {F F' : Hp} {a : Addr} {vs : List V} (e : Same F F') (h : SqT K F a vs) : SqT K F' a vs := by
  rcases h with (h | ⟨o, h⟩) | h
  · exact .inl (.inl (e _ _ h))
  · exact .inl (.inr ⟨o, e _ _ h⟩)
  · exact .inr h
theorem sqL_up {K : Fr} {F F' : Hp} {a : Addr} {vs : List V} (e : ∀ o, F a = some o → F' a = some o) (h : SqL K F a vs) : SqL K F' a vs := by
  rcases h with (h | ⟨o, h⟩) | h
  · exact .inl (.inl (e _ h))
  · exact .inl (.inr ⟨o, e _ h⟩)
  · exact .inr h
mutual
theorem Rep.mono {K : Fr} {F F' : Hp} (e : Same F F') : ∀ {v : V} {d : D}, Rep K F v d → Rep K F' v d
  | _, _, .non => .non
  | _, _, .bl b => .bl b
  | _, _, .int i => .int i
  | _, _, .str x => .str x
  | _, _, .lst h r => .lst (e _ _ h) (RepL.mono e r)
  | _, _, .tup h r => .tup (sqT_same e h) (RepL.mono e r)
  | _, _, .dK h k r => .dK (e _ _ h) k (RepL.mono e r)
  | _, _, .ob h k r => .ob (e _ _ h) k (RepL.mono e r)
  | _, _, .scr h => .scr (sqL_up (e _) h)
  | _, _, .cel h => .cel (e _ _ h)
theorem RepL.mono {K : Fr} {F F' : Hp} (e : Same F F') : ∀ {vs : List V} {ds : List D}, RepL K F vs ds → RepL K F' vs ds
  | _, _, .nil => .nil
  | _, _, .cons h r => .cons (Rep.mono e h) (RepL.mono e r)
end
section
variable {K : Fr} {F : Hp}
theorem RepL.length : ∀ {vs : List V} {ds : List D}, RepL K F vs ds → vs.length = ds.length
  | _, _, .nil => rfl
  | _, _, .cons _ r => congrArg (· + 1) (RepL.length r)
theorem RepL.get : ∀ {vs : List V} {ds : List D} {i : Nat} {d : D}, RepL K F vs ds → ds[i]? = some d → ∃ v, vs[i]? = some v ∧ Rep K F v d
  | _, _, _, _, .nil, e => by simp at e
  | _, _, 0, _, .cons r _, e => by simp at e; subst e; exact ⟨_, rfl, r⟩
  | _, _, i + 1, d, .cons _ t, e => by
    obtain ⟨v, h1, h2⟩ := RepL.get (i := i) (d := d) t (by simpa using e)
    exact ⟨v, by simpa using h1, h2⟩
theorem RepL.getV : ∀ {vs : List V} {ds : List D} {i : Nat} {v : V}, RepL K F vs ds → vs[i]? = some v → ∃ d, ds[i]? = some d ∧ Rep K F v d
  | _, _, _, _, .nil, e => by simp at e
  | _, _, 0, _, .cons r _, e => by simp at e; subst e; exact ⟨_, rfl, r⟩
  | _, _, i + 1, d, .cons _ t, e => by
    obtain ⟨v, h1, h2⟩ := RepL.getV (i := i) (v := d) t (by simpa using e)
    exact ⟨v, by simpa using h1, h2⟩
theorem RepL.append : ∀ {xs ys : List V} {us ws : List D}, RepL K F xs us → RepL K F ys ws → RepL K F (xs ++ ys) (us ++ ws)
  | _, _, _, _, .nil, s => s
  | _, _, _, _, .cons r t, s => .cons r (RepL.append t s)
theorem RepL.take : ∀ {xs : List V} {us : List D} (n : Nat), RepL K F xs us → RepL K F (xs.take n) (us.take n)
  | _, _, 0, _ => .nil
  | _, _, _ + 1, .nil => .nil
  | _, _, n + 1, .cons r t => .cons r (RepL.take n t)
theorem RepL.drop : ∀ {xs : List V} {us : List D} (n : Nat), RepL K F xs us → RepL K F (xs.drop n) (us.drop n)
  | _, _, 0, r => r
  | _, _, _ + 1, .nil => .nil
  | _, _, n + 1, .cons _ t => RepL.drop n t
theorem RepL.set {v : V} {d : D} (h : Rep K F v d) : ∀ {xs : List V} {us : List D} (n : Nat), RepL K F xs us → RepL K F (xs.set n v) (us.set n d)
  | _, _, _, .nil => .nil
  | _, _, 0, .cons _ t => .cons h t
  | _, _, n + 1, .cons r t => .cons r (RepL.set h n t)
theorem RepL.eraseIdx : ∀ {xs : List V} {us : List D} (n : Nat), RepL K F xs us → RepL K F (xs.eraseIdx n) (us.eraseIdx n)
  | _, _, _, .nil => .nil
  | _, _, 0, .cons _ t => t
  | _, _, n + 1, .cons r t => .cons r (RepL.eraseIdx n t)
theorem RepL.one {v : V} {d : D} (h : Rep K F v d) : RepL K F [v] [d] := .cons h .nil
theorem RepL.snoc {vs : List V} {ds : List D} {v : V} {d : D} (h : RepL K F vs ds) (r : Rep K F v d) : RepL K F (vs ++ [v]) (ds ++ [d]) := h.append (.one r)
end

/-! ### cells and owned slots -/
/-- what a mutable thing holds: data, its parts frozen; or no more -/
inductive Cl where
  | d (d : D) | dead | hp (ds : List D)
abbrev Sto := List Cl
/-- a slot: frozen, a cell's number, owned by the slot, a bare address -/
inductive W where
  | f (d : D) | m (n : Nat) | o (d : D) | x (a : Addr) (o : Option (Addr × Str × D))
abbrev Env := List (Option W)
abbrev Rho := List (List Addr)

/-- v is d, its own object in H, the rest in F -/
inductive RepT (K : Fr) (F H : Hp) : V → D → Prop
  | non : RepT K F H .non .non
  | bl (b : Bool) : RepT K F H (.bl b) (.bl b)
  | int (i : Int) : RepT K F H (.int i) (.int i)
  | str (x : Str) : RepT K F H (.str x) (.str x)
  | lst {a : Addr} {vs : List V} {ds : List D} : H a = some (.lst vs) → RepL K F vs ds → RepT K F H (.ref a) (.lst ds)
  | tup {a : Addr} {vs : List V} {ds : List D} : SqT K H a vs → RepL K F vs ds → RepT K F H (.ref a) (.tup ds)
  | dK {a : Addr} {ws : List (Key × V)} {kvs : List (Key × D)} : Rd H a (.dK ws) → ws.map (·.1) = kvs.map (·.1) → RepL K F (ws.map (·.2)) (kvs.map (·.2)) → RepT K F H (.ref a) (.dK kvs)
  | ob {a C dx : Addr} {ws : List (Str × V)} {fs : List (Str × D)} : H a = some (.ins C dx ws) → ws.map (·.1) = fs.map (·.1) → RepL K F (ws.map (·.2)) (fs.map (·.2)) → RepT K F H (.ref a) (.ob C fs)
  | scr {a : Addr} {ns : List Int} : SqL K H a (ns.map V.int) → RepT K F H (.ref a) (.scr ns)
  | cel {a : Addr} {n : Nat} : F a = some (mk n) → RepT K F H (.ref a) (.cel n)

theorem sqT_sub {K : Fr} {F H : Hp} {a : Addr} {vs : List V} (e : Sub F H) (h : SqT K F a vs) : SqT K H a vs := by
  rcases h with (h | ⟨o, h⟩) | h
  · rcases e.of _ _ rfl h with h | ⟨kvs, ob, z, _⟩
    · exact .inl (.inl h)
    · cases z
  · rcases e.of _ _ rfl h with h | ⟨kvs, ob, z, _⟩
    · exact .inl (.inr ⟨o, h⟩)
    · cases z
  · exact .inr h
theorem sqL_sub {K : Fr} {F H : Hp} {a : Addr} {vs : List V} (e : Sub F H) (h : SqL K F a vs) : SqL K H a vs := by
  rcases h with (h | ⟨o, h⟩) | h
  · rcases e.of _ _ rfl h with h | ⟨kvs, ob, z, _⟩
    · exact .inl (.inl h)
    · cases z
  · rcases e.of _ _ rfl h with h | ⟨kvs, ob, z, _⟩
    · exact .inl (.inr ⟨o, h⟩)
    · cases z
  · exact .inr h
theorem Rep.top {K : Fr} {F H : Hp} {v : V} {d : D} (e : Sub F H) (h : Rep K F v d) : RepT K F H v d := by
  cases h with
  | non => exact .non
  | bl b => exact .bl b
  | int i => exact .int i
  | str x => exact .str x
  | lst h r =>
    rcases e.of _ _ rfl h with h | ⟨kvs, ob, z, _⟩
    · exact .lst h r
    · cases z
  | tup h r => exact .tup (sqT_sub e h) r
  | dK h k r =>
    rcases e.of _ _ rfl h with h | ⟨kvs, ob, z, _⟩
    · exact .dK (.inr ⟨_, h⟩) k r
    · cases z
  | ob h k r =>
    rcases e.of _ _ rfl h with h | ⟨kvs, ob, z, _⟩
    · exact .ob h k r
    · cases z
  | scr h => exact .scr (sqL_sub e h)
  | cel h => exact .cel h

def ClRep (K : Fr) (F H : Hp) (as : List Addr) : Cl → Prop
  | .d d => ∃ a, as = [a] ∧ RepT K F H (.ref a) d ∧ (H a).isSome = true
  | .dead => True
  | .hp ds => as.length = ds.length ∧ as.Nodup ∧ ∀ (i : Nat) a d, as[i]? = some a → ds[i]? = some d → RepT K F H (.ref a) d ∧ (H a).isSome = true
/-- a live cell's address -/
def Live (ρ : Rho) (S : Sto) (a : Addr) : Prop := ∃ (n : Nat) (c : Cl) (as : List Addr), S[n]? = some c ∧ c ≠ Cl.dead ∧ ρ[n]? = some as ∧ a ∈ as
def isFz : HO → Bool
  | .frz _ _ => true
  | _ => false
/-- what a cell's object is in the frozen part -/
def OffF (F : Hp) (a : Addr) : Cl → Prop
  | .hp _ => ∀ o, F a = some o → isMk o = true
  | _ => F a = none
theorem OffF.no {F : Hp} {a : Addr} {c : Cl} (h : OffF F a c) {o : HO} (e : F a = some o) : isMk o = true := by
  cases c with
  | hp _ => exact h o e
  | d _ => rw [show F a = none from h] at e; cases e
  | dead => rw [show F a = none from h] at e; cases e
theorem OffF.up {F F' : Hp} {a : Addr} {c : Cl} (h : OffF F a c) (e : F' a = F a) : OffF F' a c := by
  cases c with
  | hp _ => exact fun o z => h o (e ▸ z)
  | d _ => exact e.trans h
  | dead => exact e.trans h
structure Rl (K : Fr) (ρ : Rho) (F H : Hp) (S : Sto) : Prop where
  len : ρ.length = S.length
  sub : Sub F H
  cell : ∀ (n : Nat) (c : Cl) (as : List Addr), S[n]? = some c → c ≠ Cl.dead → ρ[n]? = some as → ClRep K F H as c ∧ ∀ a ∈ as, OffF F a c ∧ (H a).isSome = true
  apart : ∀ (n m : Nat) (c c' : Cl) (as bs : List Addr), n ≠ m → S[n]? = some c → c ≠ Cl.dead → ρ[n]? = some as → S[m]? = some c' → c' ≠ Cl.dead → ρ[m]? = some bs → ∀ a ∈ as, a ∉ bs
  fz : ∀ a o, H a = some o → isFz o = true → ∃ u, F a = some u
  mks : ∀ (ds : List D) (as : List Addr), S[0]? = some (.hp ds) → ρ[0]? = some as → ∀ a n, F a = some (mk n) → as[n]? = some a
structure Nx (ρ : Rho) (F H : Hp) (S : Sto) (ρ' : Rho) (F' H' : Hp) (S' : Sto) : Prop where
  pre : ∀ (n : Nat) (as : List Addr), ρ[n]? = some as → ∃ bs : List Addr, ρ'[n]? = some bs ∧ as <+: bs
  fsub : Same F F'
  keep : ∀ a o, H a = some o → ¬ Live ρ S a → H' a = some o
  fnew : ∀ a o, F' a = some o → (∃ o, F a = some o) ∨ H a = none ∨ Live ρ S a
  cnew : ∀ a, Live ρ' S' a → Live ρ S a ∨ H a = none
  grow : ∀ a, H' a = none → H a = none
section
variable {K : Fr} {ρ ρ' ρ'' : Rho} {F F' F'' H H' H'' : Hp} {S S' S'' : Sto}
theorem Nx.refl : Nx ρ F H S ρ F H S := ⟨fun _ as h => ⟨as, h, List.prefix_refl _⟩, fun _ _ h => h, fun _ _ h _ => h, fun _ o h => .inl ⟨o, h⟩, fun _ h => .inl h, fun _ h => h⟩
theorem Nx.trans (a : Nx ρ F H S ρ' F' H' S') (b : Nx ρ' F' H' S' ρ'' F'' H'' S'') : Nx ρ F H S ρ'' F'' H'' S'' := by
  refine ⟨fun n as h => ?_, fun x o h => b.fsub x o (a.fsub x o h), fun x o h l => ?_, fun x o h => ?_, fun x h => ?_, fun x h => a.grow x (b.grow x h)⟩
  · obtain ⟨bs, h1, h2⟩ := a.pre n as h
    obtain ⟨cs, h3, h4⟩ := b.pre n bs h1
    exact ⟨cs, h3, h2.trans h4⟩
  · refine b.keep x o (a.keep x o h l) fun l' => ?_
    rcases a.cnew x l' with z | z
    · exact l z
    · rw [h] at z
      cases z
  · rcases b.fnew x o h with ⟨o', z⟩ | z | z
    · exact a.fnew x o' z
    · exact .inr (.inl (a.grow x z))
    · exact .inr ((a.cnew x z).symm)
  · rcases b.cnew x h with z | z
    · exact a.cnew x z
    · exact .inr (a.grow x z)
theorem Rl.nolive (r : Rl K ρ F H S) {a : Addr} {o : HO} (h : F a = some o) (hm : isMk o = false) : ¬ Live ρ S a := fun ⟨n, c, as, h1, h2, h3, h4⟩ => by
  have z := ((r.cell n c as h1 h2 h3).2 a h4).1.no h
  rw [hm] at z
  cases z
theorem Rl.nolive0 (r : Rl K ρ F H S) {a : Addr} (h : H a = none) : ¬ Live ρ S a := fun ⟨n, c, as, h1, h2, h3, h4⟩ => by
  have z := ((r.cell n c as h1 h2 h3).2 a h4).2
  rw [h] at z
  cases z
theorem Sub.no0 (e : Sub F H) {a : Addr} (h : H a = none) : F a = none := by
  cases q : F a with
  | none => rfl
  | some o =>
    cases m : isMk o with
    | false => rcases e.of a o m q with z | ⟨_, _, _, z⟩ <;> (rw [h] at z; cases z)
    | true =>
      have z := e.mks a o m q
      rw [h] at z
      cases z
theorem Sub.new (e : Sub F H) {p : Addr} {o : HO} (h : H p = none) : Sub F (upd H p o) := by
  have ne : ∀ a u, F a = some u → a ≠ p := fun a u q z => by
    rw [z, e.no0 h] at q
    cases q
  exact ⟨fun a u m q => by rw [upd_ne (ne a u q)]; exact e.of a u m q, fun a u m q => by rw [upd_ne (ne a u q)]; exact e.mks a u m q⟩
/-- an object laid: nothing else is changed -/
theorem Nx.new {p : Addr} {o : HO} (h : H p = none) : Nx ρ F H S ρ F (upd H p o) S :=
  ⟨fun _ as h => ⟨as, h, List.prefix_refl _⟩, fun _ _ h => h, fun a u q _ => by rw [upd_ne (ne_of_none q h)]; exact q, fun _ o h => .inl ⟨o, h⟩, fun _ h => .inl h, fun a z => by
    by_cases e : a = p
    · rw [e]; exact h
    · rw [upd_ne e] at z; exact z⟩
theorem RepT.up {v : V} {d : D} (h : RepT K F H v d) (k : ∀ a o, v = .ref a → H a = some o → H' a = some o) (f : Same F F') : RepT K F' H' v d := by
  cases h with
  | non => exact .non
  | bl b => exact .bl b
  | int i => exact .int i
  | str x => exact .str x
  | lst h r => exact .lst (k _ _ rfl h) (r.mono f)
  | tup h r =>
    refine .tup ?_ (r.mono f)
    rcases h with (h | ⟨o, h⟩) | h
    · exact .inl (.inl (k _ _ rfl h))
    · exact .inl (.inr ⟨o, k _ _ rfl h⟩)
    · exact .inr h
  | dK h g r =>
    refine .dK ?_ g (r.mono f)
    rcases h with h | ⟨o, h⟩
    · exact .inl (k _ _ rfl h)
    · exact .inr ⟨o, k _ _ rfl h⟩
  | ob h g r => exact .ob (k _ _ rfl h) g (r.mono f)
  | scr h => exact .scr (sqL_up (k _ · rfl ·) h)
  | cel h => exact .cel (f _ _ h)
theorem ClRep.up {as : List Addr} {c : Cl} (h : ClRep K F H as c) (k : ∀ a o, a ∈ as → H a = some o → H' a = some o) (f : Same F F') : ClRep K F' H' as c := by
  cases c with
  | dead => trivial
  | d d =>
    obtain ⟨a, rfl, h, hs⟩ := h
    refine ⟨a, rfl, h.up (fun b o e => ?_) f, ?_⟩
    · cases e
      exact k _ o (by simp)
    · obtain ⟨o, e⟩ := Option.isSome_iff_exists.mp hs
      rw [k a o (by simp) e]
      rfl
  | hp ds =>
    obtain ⟨h1, h2, h3⟩ := h
    refine ⟨h1, h2, fun i a d e1 e2 => ?_⟩
    obtain ⟨h4, hs⟩ := h3 i a d e1 e2
    have ha := List.mem_of_getElem? e1
    refine ⟨h4.up (fun b o e => ?_) f, ?_⟩
    · cases e
      exact k _ o ha
    · obtain ⟨o, e⟩ := Option.isSome_iff_exists.mp hs
      rw [k a o ha e]
      rfl
theorem Rl.new (r : Rl K ρ F H S) {p : Addr} {o : HO} (h : H p = none) (hz : isFz o = false := by rfl) : Rl K ρ F (upd H p o) S := by
  have k : ∀ a u, H a = some u → (upd H p o) a = some u := fun a u q => by
    rw [upd_ne (ne_of_none q h)]
    exact q
  refine ⟨r.len, r.sub.new h, fun n c as h1 h2 h3 => ?_, r.apart, fun a u q z => by
    by_cases e : a = p
    · rw [e, upd_same] at q
      cases q
      rw [hz] at z
      cases z
    · rw [upd_ne e] at q
      exact r.fz a u q z, r.mks⟩
  obtain ⟨a, b⟩ := r.cell n c as h1 h2 h3
  refine ⟨a.up (fun x u _ => k x u) fun _ _ z => z, fun x hx => ⟨(b x hx).1, ?_⟩⟩
  obtain ⟨u, e⟩ := Option.isSome_iff_exists.mp (b x hx).2
  rw [k x u e]
  rfl
end

/-! ### what a cell in data holds -/
def hpD (S : Sto) (n : Nat) : Option D := match (S[0]? : Option Cl) with
  | some (Cl.hp ds) => ds[n]?
  | _ => none
def rs (S : Sto) : D → Option D
  | .cel n => (match hpD S n with
    | some (.lst xs) => some (.lst xs)
    | some (.dK kvs) => some (.dK kvs)
    | some (.ob C fs) => some (.ob C fs)
    | _ => none)
  | .non => some .non
  | .bl b => some (.bl b)
  | .int i => some (.int i)
  | .str x => some (.str x)
  | .lst xs => some (.lst xs)
  | .tup xs => some (.tup xs)
  | .dK kvs => some (.dK kvs)
  | .ob C fs => some (.ob C fs)
  | .scr ns => some (.scr ns)
theorem hp_at {K : Fr} {ρ : Rho} {F H : Hp} {S : Sto} {a : Addr} {n : Nat} {d : D} (r : Rl K ρ F H S) (h : F a = some (mk n)) (e : hpD S n = some d) : ∃ ds as, S[0]? = some (.hp ds) ∧ ds[n]? = some d ∧ ρ[0]? = some as ∧ as[n]? = some a ∧ as.Nodup ∧ as.length = ds.length ∧ RepT K F H (.ref a) d ∧ (H a).isSome = true ∧ Live ρ S a := by
  unfold hpD at e
  split at e
  · rename_i ds h0
    have hl : 0 < S.length := (List.getElem?_eq_some_iff.mp h0).1
    have h1 : ρ[0]? = some (ρ[0]'(by rw [r.len]; exact hl)) := List.getElem?_eq_getElem _
    have h2 := r.mks ds _ h0 h1 a n h
    obtain ⟨⟨q1, q2, q3⟩, _⟩ := r.cell 0 _ _ h0 (by intro z; cases z) h1
    obtain ⟨q4, q5⟩ := q3 n a d h2 e
    exact ⟨ds, _, h0, e, h1, h2, q2, q1, q4, q5, 0, _, _, h0, (by intro z; cases z), h1, List.mem_of_getElem? h2⟩
  · cases e
theorem rs_rep {K : Fr} {ρ : Rho} {F H : Hp} {S : Sto} {v : V} {d d' : D} (r : Rl K ρ F H S) (t : RepT K F H v d) (e : rs S d = some d') : RepT K F H v d' := by
  cases t with
  | cel h =>
    rename_i a n
    have e : (match hpD S n with
      | some (.lst xs) => some (D.lst xs)
      | some (.dK kvs) => some (.dK kvs)
      | some (.ob C fs) => some (.ob C fs)
      | _ => none) = some d' := e
    have k : hpD S n = some d' := by
      split at e <;> first | (rename_i z; rw [z]; exact e) | cases e
    obtain ⟨_, _, _, _, _, _, _, _, z, _⟩ := hp_at r h k
    exact z
  | non => cases e; exact .non
  | bl b => cases e; exact .bl b
  | int i => cases e; exact .int i
  | str x => cases e; exact .str x
  | lst h l => cases e; exact .lst h l
  | tup h l => cases e; exact .tup h l
  | dK h k l => cases e; exact .dK h k l
  | ob h k l => cases e; exact .ob h k l
  | scr h => cases e; exact .scr h
def D.isTup : D → Bool
  | .tup _ => true
  | _ => false
theorem rs_tup {K : Fr} {ρ : Rho} {F H : Hp} {S : Sto} {v : V} {d d' : D} (t : Rep K F v d) (e : rs S d = some d') (h : d'.isTup = true) : Rep K F v d' := by
  cases t with
  | cel g =>
    rename_i a n
    have e : (match hpD S n with
      | some (.lst xs) => some (D.lst xs)
      | some (.dK kvs) => some (.dK kvs)
      | some (.ob C fs) => some (.ob C fs)
      | _ => none) = some d' := e
    split at e <;> cases e <;> cases h
  | non => cases e; exact .non
  | bl b => cases e; exact .bl b
  | int i => cases e; exact .int i
  | str x => cases e; exact .str x
  | lst h1 l => cases e; exact .lst h1 l
  | tup h1 l => cases e; exact .tup h1 l
  | dK h1 k l => cases e; exact .dK h1 k l
  | ob h1 k l => cases e; exact .ob h1 k l
  | scr h1 => cases e; exact .scr h1
theorem pre_head {as bs : List Addr} {a : Addr} (h : as <+: bs) (e : as.head? = some a) : bs.head? = some a := by
  obtain ⟨t, rfl⟩ := h
  cases as with
  | nil => cases e
  | cons x xs => exact e

/-! ### results -/
structure Xn where
  nm : Str
  fld : Option (Str × D)
inductive R (α : Type) where
  | ok (a : α) (S : Sto) | exc (x : Xn) (S : Sto) | no
abbrev E (α : Type) := Env → Sto → R α
def R.bind {α β : Type} (r : R α) (k : α → Sto → R β) : R β := match r with
  | .ok a S => k a S
  | .exc x S => .exc x S
  | .no => .no
def R.get {α : Type} (o : Option α) (S : Sto) : R α := match o with
  | some a => .ok a S
  | none => .no

/-- frozen; only read; new and nobody else's -/
inductive Kd where
  | frz | bor | own
def KRel (K : Fr) (k : Kd) (H0 : Hp) (ρ : Rho) (F H : Hp) (S : Sto) (v : V) (d : D) : Prop := match k with
  | .frz => Rep K F v d
  | .bor => Rep K F v d ∨ (RepT K F H v d ∧ ∀ a, v = .ref a → ¬ Live ρ S a ∧ (H a).isSome = true)
  | .own => RepT K F H v d ∧ ∀ a, v = .ref a → F a = none ∧ ¬ Live ρ S a ∧ H0 a = none ∧ (H a).isSome = true
def XRep (K : Fr) (F H : Hp) (x : Xn) (cls : Value) (dd : Option Addr) : Prop := ∃ c, PySem.W.nsIn K mainGlobals x.nm = some (some (.ref c)) ∧ cls = .ref c ∧ match x.fld with
  | none => dd = none
  | some (f, d) => ∃ a v, dd = some a ∧ F a = some (.xd [(f, v)]) ∧ Rep K F v d
/-- a caught exception: where it stands, its dict -/
def XAt (K : Fr) (F : Hp) (a : Addr) (o : Option (Addr × Str × D)) (v : V) : Prop := v = .ref a ∧ ∀ dd f d, o = some (dd, f, d) → ∃ u, F dd = some (.xd [(f, u)]) ∧ Rep K F u d
theorem XAt.mono {K : Fr} {F F' : Hp} {a : Addr} {o : Option (Addr × Str × D)} {v : V} (e : Same F F') (h : XAt K F a o v) : XAt K F' a o v := ⟨h.1, fun dd f d z => by
  obtain ⟨u, h1, h2⟩ := h.2 dd f d z
  exact ⟨u, e _ _ h1, h2.mono e⟩⟩
structure En (K : Fr) (ρ : Rho) (F H : Hp) (S : Sto) (σ : L2.St) (env : Env) : Prop where
  len : env.length = σ.length
  f : ∀ (i : Nat) d, env[i]? = some (some (.f d)) → ∃ v, σ[i]? = some (some v) ∧ Rep K F v d
  m : ∀ (i n : Nat), env[i]? = some (some (.m n)) → ∃ (a : Addr) (as : List Addr), σ[i]? = some (some (.ref a)) ∧ ρ[n]? = some as ∧ as.head? = some a
  o : ∀ (i : Nat) d, env[i]? = some (some (.o d)) → ∃ a, σ[i]? = some (some (.ref a)) ∧ RepT K F H (.ref a) d ∧ F a = none ∧ ¬ Live ρ S a ∧ (H a).isSome = true
  oo : ∀ (i j : Nat) d e a, i ≠ j → env[i]? = some (some (.o d)) → env[j]? = some (some (.o e)) → σ[i]? = some (some (.ref a)) → σ[j]? ≠ some (some (.ref a))
  x : ∀ (i : Nat) a o, env[i]? = some (some (.x a o)) → ∃ v, σ[i]? = some (some v) ∧ XAt K F a o v
/-! ### the judgements -/
/-- how a result's value stands: entry's heap, then the end's -/
abbrev Rel (α β : Type) := Hp → Rho → Hp → Hp → Sto → β → α → Prop
/-- what an evaluation's result asks -/
def Wg {α β : Type} (rel : Rel α β) (K : Fr) (ρ : Rho) (F H : Hp) (S : Sto) (Q : β → Hp → Prop) (XQ : XK) : R α → Prop
  | .ok d S' => ∀ v ρ' F' H', Nx ρ F H S ρ' F' H' S' → Rl K ρ' F' H' S' → rel H ρ' F' H' S' v d → Q v H'
  | .exc x S' => ∀ cls dd ρ' F' H', Nx ρ F H S ρ' F' H' S' → Rl K ρ' F' H' S' → XRep K F' H' x cls dd → XQ cls dd H'
  | .no => False
/-- a result that an older entry takes too -/
structure Rel.Old {α β : Type} (rel : Rel α β) : Prop where
  to : ∀ {H H' : Hp} {ρ : Rho} {F H2 : Hp} {S : Sto} {v : β} {d : α}, (∀ a, H' a = none → H a = none) → rel H' ρ F H2 S v d → rel H ρ F H2 S v d
abbrev kR (K : Fr) (k : Kd) : Rel D V := KRel K k
theorem kR.old {K : Fr} {k : Kd} : (kR K k).Old := ⟨fun {H H' ρ F H2 S v d} g h => by
  cases k with
  | frz => exact h
  | bor => exact h
  | own =>
    obtain ⟨h1, h2⟩ := h
    exact ⟨h1, fun a e => ⟨(h2 a e).1, (h2 a e).2.1, g a (h2 a e).2.2.1, (h2 a e).2.2.2⟩⟩⟩
def tG {α β : Type} (rel : Rel α β) (K : Fr) (X : WX) (fe : E α) : L2.St → Hp → (β → Hp → Prop) → Prop := fun σ H Q => ∃ ρ F S env, Rl K ρ F H S ∧ En K ρ F H S σ env ∧ Wg rel K ρ F H S Q (fun cls dd H' => X cls dd σ H') (fe env S)
def tD (K : Fr) (k : Kd) (X : WX) (fe : E D) : TE := tG (kR K k) K X fe
def bR : Rel Bool Bool := fun _ _ _ _ _ v d => v = d
theorem bR.old : bR.Old := ⟨fun _ h => h⟩
def tBl (K : Fr) (X : WX) (fe : E Bool) : TT := tG bR K X fe
/-- e is fe, its value frozen, read, new -/
def PD (X : Cx) (k : Kd) (w : WX) (e : Expr) (fe : E D) : Prop := PE X e (tD X.K k w fe)
def PB (X : Cx) (w : WX) (e : Expr) (fe : E Bool) : Prop := PT X e (tBl X.K w fe)
theorem PE.imp {X : Cx} {e : Expr} {t t' : TE} (h : PE X e t) (i : ∀ σ H Q, t' σ H Q → t σ H Q) : PE X e t' := ⟨fun pins s σ H Q I q => h.run pins s σ H Q I (i σ H Q q)⟩
theorem PT.imp {X : Cx} {e : Expr} {t t' : TT} (h : PT X e t) (i : ∀ σ H Q, t' σ H Q → t σ H Q) : PT X e t' := ⟨fun pins s σ H Q I q => h.run pins s σ H Q I (i σ H Q q)⟩
theorem PA.imp {X : Cx} {e : List Expr} {t t' : TA} (h : PA X e t) (i : ∀ σ H Q, t' σ H Q → t σ H Q) : PA X e t' := ⟨fun p pins s σ H Q I q => h.run p pins s σ H Q I (i σ H Q q)⟩
section
variable {K : Fr} {ρ ρ' ρ'' : Rho} {F F' F'' H H' H'' : Hp} {S S' S'' : Sto} {k : Kd} {XQ : XK} {σ : L2.St} {env : Env} {v : V} {d : D}
theorem Wg.later {α β : Type} {rel : Rel α β} {Q : β → Hp → Prop} {r : R α} (ho : rel.Old) (n : Nx ρ F H S ρ' F' H' S') (h : Wg rel K ρ F H S Q XQ r) : Wg rel K ρ' F' H' S' Q XQ r := by
  cases r with
  | ok d S2 => exact fun v ρ2 F2 H2 n2 r2 q => h v ρ2 F2 H2 (n.trans n2) r2 (ho.to (fun a e => n.grow a e) q)
  | exc x S2 => exact fun cls dd ρ2 F2 H2 n2 r2 q => h cls dd ρ2 F2 H2 (n.trans n2) r2 q
  | no => exact h.elim
/-- one step of an evaluation, then the rest -/
theorem Wg.step {α β γ δ : Type} {rel : Rel α β} {rel2 : Rel γ δ} {Q : δ → Hp → Prop} {P : β → Hp → Prop} {r : R α} {c : α → Sto → R γ} (ho : rel2.Old) (h : Wg rel2 K ρ F H S Q XQ (r.bind c))
    (st : ∀ d S1 v ρ1 F1 H1, Nx ρ F H S ρ1 F1 H1 S1 → Rl K ρ1 F1 H1 S1 → rel H ρ1 F1 H1 S1 v d → Wg rel2 K ρ1 F1 H1 S1 Q XQ (c d S1) → P v H1) : Wg rel K ρ F H S P XQ r := by
  cases r with
  | ok d S1 => exact fun v ρ1 F1 H1 n1 r1 q => st d S1 v ρ1 F1 H1 n1 r1 q (Wg.later ho n1 h)
  | exc x S1 => exact h
  | no => exact h.elim
theorem Wg.give {α β : Type} {rel : Rel α β} {Q : β → Hp → Prop} {v : β} {d : α} (h : Wg rel K ρ F H S Q XQ (.ok d S)) (r : Rl K ρ F H S) (q : rel H ρ F H S v d) : Q v H := h v ρ F H Nx.refl r q
/-- a new object is laid and handed on -/
theorem Wg.new {α β : Type} {rel : Rel α β} {Q : β → Hp → Prop} {v : β} {d : α} {p : Addr} {o : HO} (h : Wg rel K ρ F H S Q XQ (.ok d S)) (r : Rl K ρ F H S) (hp : H p = none) (q : rel H ρ F (upd H p o) S v d) (hz : isFz o = false := by rfl) : Q v (upd H p o) := h v ρ F _ (Nx.new hp) (r.new hp hz) q
theorem En.later (e : En K ρ F H S σ env) (n : Nx ρ F H S ρ' F' H' S') : En K ρ' F' H' S' σ env := by
  refine ⟨e.len, fun i d h => ?_, fun i m h => ?_, fun i d h => ?_, e.oo, fun i a o h => (e.x i a o h).imp fun _ z => ⟨z.1, z.2.mono n.fsub⟩⟩
  · obtain ⟨v, h1, h2⟩ := e.f i d h
    exact ⟨v, h1, h2.mono n.fsub⟩
  · obtain ⟨a, as, h1, h2, h3⟩ := e.m i m h
    obtain ⟨bs, h4, h5⟩ := n.pre _ _ h2
    exact ⟨a, bs, h1, h4, pre_head h5 h3⟩
  · obtain ⟨a, h1, h2, h3, h4, h5⟩ := e.o i d h
    obtain ⟨o, ho⟩ := Option.isSome_iff_exists.mp h5
    have k := n.keep a o ho h4
    refine ⟨a, h1, h2.up (fun b u q hb => ?_) n.fsub, ?_, fun l => ?_, by rw [k]; rfl⟩
    · cases q
      exact n.keep _ u hb h4
    · cases q : F' a with
      | none => rfl
      | some u =>
        rcases n.fnew a u q with ⟨_, z⟩ | z | z
        · rw [h3] at z
          cases z
        · rw [ho] at z
          cases z
        · exact absurd z h4
    · rcases n.cnew a l with z | z
      · exact h4 z
      · rw [ho] at z
        cases z
/-- what is read stays readable -/
theorem bor_later (n : Nx ρ F H S ρ' F' H' S') (h : KRel K .bor H'' ρ F H S v d) : KRel K .bor H'' ρ' F' H' S' v d := by
  rcases h with h | ⟨h1, h2⟩
  · exact .inl (h.mono n.fsub)
  · refine .inr ⟨h1.up (fun a o e ha => n.keep a o ha (h2 a e).1) n.fsub, fun a e => ?_⟩
    obtain ⟨a1, a2⟩ := h2 a e
    obtain ⟨o, ho⟩ := Option.isSome_iff_exists.mp a2
    refine ⟨fun l => ?_, by rw [n.keep a o ho a1]; rfl⟩
    rcases n.cnew a l with z | z
    · exact a1 z
    · rw [ho] at z
      cases z
theorem bor_top (e : Sub F H) (h : KRel K .bor H'' ρ F H S v d) : RepT K F H v d := by
  rcases h with h | h
  · exact h.top e
  · exact h.1
theorem frz_bor (h : KRel K .frz H'' ρ F H S v d) : KRel K .bor H'' ρ F H S v d := .inl h
theorem own_bor (h : KRel K .own H'' ρ F H S v d) : KRel K .bor H'' ρ F H S v d := .inr ⟨h.1, fun a e => ⟨(h.2 a e).2.1, (h.2 a e).2.2.2⟩⟩
end
theorem rs_get {α β : Type} {rel : Rel α β} {K : Fr} {ρ : Rho} {F H : Hp} {S : Sto} {XQ : XK} {Q : β → Hp → Prop} {v : V} {d : D} {g : D → Option α} (r : Rl K ρ F H S) (t : RepT K F H v d) (q : Wg rel K ρ F H S Q XQ (R.get ((rs S d).bind g) S)) : ∃ d', rs S d = some d' ∧ RepT K F H v d' ∧ Wg rel K ρ F H S Q XQ (R.get (g d') S) := by
  cases e : rs S d with
  | none => rw [e] at q; exact False.elim q
  | some d' =>
    rw [e] at q
    exact ⟨d', rfl, rs_rep r t e, q⟩
theorem Wg.rel {α β : Type} {rel rel' : Rel α β} {K : Fr} {ρ : Rho} {F H : Hp} {S : Sto} {XQ : XK} {Q : β → Hp → Prop} {r : R α} (i : ∀ {ρ' F' H' S' v d}, Rl K ρ' F' H' S' → rel' H ρ' F' H' S' v d → rel H ρ' F' H' S' v d) (h : Wg rel K ρ F H S Q XQ r) : Wg rel' K ρ F H S Q XQ r := by
  cases r with
  | ok d S2 => exact fun v ρ2 F2 H2 n2 r2 q => h v ρ2 F2 H2 n2 r2 (i r2 q)
  | exc x S2 => exact h
  | no => exact h.elim
section
variable {X : Cx} {w : WX} {e : Expr} {fe : E D}
theorem PD.bor (h : PD X .frz w e fe) : PD X .bor w e fe := PE.imp h fun σ H Q ⟨ρ, F, S, env, r, en, q⟩ => ⟨ρ, F, S, env, r, en, q.rel fun _ z => .inl z⟩
theorem PD.oBor (h : PD X .own w e fe) : PD X .bor w e fe := PE.imp h fun σ H Q ⟨ρ, F, S, env, r, en, q⟩ => ⟨ρ, F, S, env, r, en, q.rel fun _ z => own_bor z⟩
end

/-! ### an object of one's own is given away: frozen from now on -/
section
variable {K : Fr} {ρ : Rho} {F H : Hp} {S : Sto}
theorem Same.upd1 {F : Hp} {a : Addr} {o : HO} (h : F a = none) : Same F (upd F a o) := fun b u q => by
  rw [upd_ne (ne_of_none q h)]
  exact q
theorem Rl.frz (r : Rl K ρ F H S) {a : Addr} {o : HO} (hf : F a = none) (hl : ¬ Live ρ S a) (ho : H a = some o ∨ ∃ kvs ob, o = .dK kvs ∧ H a = some (.frz ob o)) (hm : isMk o = false := by rfl) : Rl K ρ (upd F a o) H S := by
  refine ⟨r.len, ⟨fun b u m q => ?_, fun b u m q => ?_⟩, fun n c as h1 h2 h3 => ?_, r.apart, fun b u q z => by
    by_cases e : b = a
    · rw [e, upd_same]
      exact ⟨o, rfl⟩
    · rw [upd_ne e]
      exact r.fz b u q z, fun ds as s1 s2 b n q => by
    by_cases e : b = a
    · rw [e, upd_same] at q
      cases q
      cases hm
    · rw [upd_ne e] at q
      exact r.mks ds as s1 s2 b n q⟩
  · by_cases e : b = a
    · subst e
      rw [upd_same] at q
      cases q
      exact ho
    · rw [upd_ne e] at q
      exact r.sub.of b u m q
  · by_cases e : b = a
    · subst e
      rw [upd_same] at q
      cases q
      rw [hm] at m
      cases m
    · rw [upd_ne e] at q
      exact r.sub.mks b u m q
  · obtain ⟨x, y⟩ := r.cell n c as h1 h2 h3
    refine ⟨x.up (fun _ _ _ z => z) (Same.upd1 hf), fun b hb => ⟨?_, (y b hb).2⟩⟩
    have e : b ≠ a := fun e => hl ⟨n, c, as, h1, h2, h3, e ▸ hb⟩
    exact (y b hb).1.up (upd_ne e)
def D.isK : D → Bool
  | .dK _ => true
  | _ => false
theorem frzAt (r : Rl K ρ F H S) {a : Addr} {d : D} (t : RepT K F H (.ref a) d) (nd : d.isK = false) (hf : F a = none) (hl : ¬ Live ρ S a) :
    ∃ F2, Same F F2 ∧ Rl K ρ F2 H S ∧ Rep K F2 (.ref a) d ∧ ∀ b o, F2 b = some o → F b = some o ∨ b = a := by
  have fin : ∀ o : HO, ∀ b u, (upd F a o) b = some u → F b = some u ∨ b = a := fun o b u q => by
    by_cases e : b = a
    · exact .inr e
    · rw [upd_ne e] at q
      exact .inl q
  cases t with
  | lst h l => exact ⟨_, Same.upd1 hf, r.frz hf hl (.inl h), .lst upd_same (l.mono (Same.upd1 hf)), fin _⟩
  | tup h l =>
    rcases h with (h | ⟨o, h⟩) | h
    · exact ⟨_, Same.upd1 hf, r.frz hf hl (.inl h), .tup (.inl (.inl upd_same)) (l.mono (Same.upd1 hf)), fin _⟩
    · exact ⟨_, Same.upd1 hf, r.frz hf hl (.inl h), .tup (.inl (.inr ⟨o, upd_same⟩)) (l.mono (Same.upd1 hf)), fin _⟩
    · exact ⟨F, fun _ _ z => z, r, .tup (.inr h) l, fun _ _ z => .inl z⟩
  | dK h k l => cases nd
  | ob h k l => exact ⟨_, Same.upd1 hf, r.frz hf hl (.inl h), .ob upd_same k (l.mono (Same.upd1 hf)), fin _⟩
  | scr h =>
    rcases h with (h | ⟨o, h⟩) | h
    · exact ⟨_, Same.upd1 hf, r.frz hf hl (.inl h), .scr (.inl (.inl upd_same)), fin _⟩
    · exact ⟨_, Same.upd1 hf, r.frz hf hl (.inl h), .scr (.inl (.inr ⟨o, upd_same⟩)), fin _⟩
    · exact ⟨F, fun _ _ z => z, r, .scr (.inr h), fun _ _ z => .inl z⟩
  | cel h => rw [hf] at h; cases h
theorem RepT.flat {v : V} {d : D} (t : RepT K F H v d) (h : ∀ a, v ≠ .ref a) : Rep K F v d := by
  cases t with
  | non => exact .non
  | bl b => exact .bl b
  | int i => exact .int i
  | str x => exact .str x
  | lst _ _ => exact absurd rfl (h _)
  | tup _ _ => exact absurd rfl (h _)
  | dK _ _ _ => exact absurd rfl (h _)
  | ob _ _ _ => exact absurd rfl (h _)
  | scr _ => exact absurd rfl (h _)
  | cel _ => exact absurd rfl (h _)
theorem Wg.give_frz {ρ0 : Rho} {F0 H0 : Hp} {S0 : Sto} {Q : VK} {XQ : XK} {v : V} {d : D} (h : Wg (kR K .frz) K ρ0 F0 H0 S0 Q XQ (.ok d S)) (n : Nx ρ0 F0 H0 S0 ρ F H S) (r : Rl K ρ F H S) (q : KRel K .own H0 ρ F H S v d) (nd : d.isK = false) : Q v H := by
  obtain ⟨t, o⟩ := q
  by_cases e : ∃ a, v = .ref a
  · obtain ⟨a, rfl⟩ := e
    obtain ⟨a1, a2, a3, a4⟩ := o a rfl
    obtain ⟨F2, s2, r2, p2, f2⟩ := frzAt r t nd a1 a2
    refine h (.ref a) ρ F2 H ⟨n.pre, fun x u z => s2 x u (n.fsub x u z), n.keep, fun x u z => ?_, n.cnew, n.grow⟩ r2 p2
    rcases f2 x u z with z | z
    · exact n.fnew x u z
    · rw [z]
      exact .inr (.inl a3)
  · exact h v ρ F H n r (t.flat fun a z => e ⟨a, z⟩)
end
end Fw

set_option  maxHeartbeats 4000000
/-! Fw: expressions -/
namespace Fw
open PySem L2

/-! ### names, constants -/
def vF (i : Nat) : E D := fun env S => match env[i]? with
  | some (some (.f d)) => .ok d S
  | _ => .no
def vB (i : Nat) : E D := fun env S => match env[i]? with
  | some (some (.f d)) => .ok d S
  | some (some (.o d)) => .ok d S
  | _ => .no
def kE (d : D) : E D := fun _ S => .ok d S
def bindE {α β : Type} (fa : E α) (k : α → E β) : E β := fun env S => (fa env S).bind fun a S1 => k a env S1
section
variable {X : Cx} {w : WX}
theorem pd_var {i : Nat} {x : Str} {pos : Pos} (hN : X.N[i]? = some x) (hv : Vis X.env.scope x) (hd : (x == ("__debug__" : Str)) = false := by decide) (hcd : (x == ("__classdict__" : Str)) = false := by decide) : PD X .frz w (.Name x pos) (vF i) := by
  refine PE.imp (pe_var hN hv hd hcd) ?_
  rintro σ H Q ⟨ρ, F, S, env, r, en, q⟩
  unfold vF at q
  split at q
  · rename_i d e
    obtain ⟨v, h1, h2⟩ := en.f i d e
    exact ⟨v, h1, Wg.give (v := v) q r h2⟩
  · exact False.elim q
theorem pd_bor {i : Nat} {x : Str} {pos : Pos} (hN : X.N[i]? = some x) (hv : Vis X.env.scope x) (hd : (x == ("__debug__" : Str)) = false := by decide) (hcd : (x == ("__classdict__" : Str)) = false := by decide) : PD X .bor w (.Name x pos) (vB i) := by
  refine PE.imp (pe_var hN hv hd hcd) ?_
  rintro σ H Q ⟨ρ, F, S, env, r, en, q⟩
  unfold vB at q
  split at q
  · rename_i d e
    obtain ⟨v, h1, h2⟩ := en.f i d e
    exact ⟨v, h1, Wg.give (v := v) q r (.inl h2)⟩
  · rename_i d e
    obtain ⟨a, h1, h2, h3, h4, h5⟩ := en.o i d e
    exact ⟨.ref a, h1, Wg.give (v := .ref a) q r (.inr ⟨h2, fun b z => by cases z; exact ⟨h4, h5⟩⟩)⟩
  · exact False.elim q
/-- a constant whose value stands in no heap, or in the written part -/
theorem pd_const {e : Expr} {v : V} {d : D} (h : PE X e (tC v)) (g : ∀ F, Rep X.K F v d) : PD X .frz w e (kE d) := PE.imp h (by
  rintro σ H Q ⟨ρ, F, S, env, r, en, q⟩
  exact Wg.give (v := v) q r (g F))
theorem pd_int {i j pos} : PD X .frz w (.Constant (.int i) j pos) (kE (.int i)) := pd_const pe_int fun _ => .int i
theorem pd_bl {b j pos} : PD X .frz w (.Constant (.bool b) j pos) (kE (.bl b)) := pd_const pe_bl fun _ => .bl b
theorem pd_non {j pos} : PD X .frz w (.Constant .none j pos) (kE .non) := pd_const pe_non fun _ => .non
theorem pd_str {x j pos} : PD X .frz w (.Constant (.str x) j pos) (kE (.str x)) := pd_const pe_str fun _ => .str x
end

/-! ### two operands -/
def opE (g : D → D → Option D) (fa fb : E D) : E D := bindE fa fun x => bindE fb fun y _ S => R.get ((rs S x).bind fun x' => (rs S y).bind fun y' => g x' y') S
def OpOk (K : Fr) (k : Kd) (r : R2) (g : D → D → Option D) : Prop := ∀ {ρ : Rho} {F H : Hp} {S : Sto} {Q : VK} {XQ : XK} {x y : V} {a b : D}, Rl K ρ F H S → RepT K F H x a → RepT K F H y b → Wg (kR K k) K ρ F H S Q XQ (R.get (g a b) S) → r x y H Q
theorem bor_top2 {K : Fr} {ρ : Rho} {F H H' : Hp} {S : Sto} {v : V} {d : D} (r : Rl K ρ F H S) (h : KRel K .bor H' ρ F H S v d) : RepT K F H v d := bor_top r.sub h
section
variable {X : Cx} {w : WX} {k : Kd} {r : R2} {g : D → D → Option D} {a b : Expr} {fa fb : E D} {pos : Pos}
theorem op_run {σ : L2.St} {H : Hp} {Q : VK} (hk : OpOk X.K k r g) (h : tD X.K k w (opE g fa fb) σ H Q) : tOp r (tD X.K .bor w fa) (tD X.K .bor w fb) σ H Q := by
  obtain ⟨ρ, F, S, env, rl, en, q⟩ := h
  refine ⟨ρ, F, S, env, rl, en, Wg.step kR.old q fun x S1 v ρ1 F1 H1 n1 r1 k1 q1 => ?_⟩
  refine ⟨ρ1, F1, S1, env, r1, en.later n1, Wg.step kR.old q1 fun y S2 u ρ2 F2 H2 n2 r2 k2 q2 => ?_⟩
  obtain ⟨x', _, t1, q3⟩ := rs_get r2 (bor_top2 r2 (bor_later n2 k1)) q2
  obtain ⟨y', _, t2, q4⟩ := rs_get r2 (bor_top2 r2 k2) q3
  exact hk r2 t1 t2 q4
theorem pd_op {op : Operator} (ho : OpR X (binaryOp op) r) (hk : OpOk X.K k r g) (ha : PD X .bor w a fa) (hb : PD X .bor w b fb) : PD X k w (.BinOp a op b pos) (opE g fa fb) := PE.imp (pe_op ho ha hb) fun _ _ _ h => op_run hk h
theorem pd_cmp {op : CmpOp} (ho : OpR X (compareOp op) r) (hk : OpOk X.K k r g) (ha : PD X .bor w a fa) (hb : PD X .bor w b fb) (hm : behindInMarks op b = false) : PD X k w (.Compare a [op] [b] pos) (opE g fa fb) := PE.imp (pe_cmpR ho ha hb hm) fun _ _ _ h => op_run hk h
theorem pd_ix (ho : IxR X r) (hk : OpOk X.K k r g) (ha : PD X .bor w a fa) (hb : PD X .bor w b fb) (hs : PlainIx b) : PD X k w (.Subscript a b pos) (opE g fa fb) := PE.imp (pe_ix ho ha hb hs) fun _ _ _ h => op_run hk h
/-- as tests -/
def asB : D → Option Bool
  | .bl b => some b
  | _ => none
def tst (fe : E D) : E Bool := bindE fe fun d _ S => R.get (asB d) S
theorem KRel.bl {K : Fr} {k : Kd} {H0 : Hp} {ρ : Rho} {F H : Hp} {S : Sto} {v : V} {c : Bool} (r : Rl K ρ F H S) (h : KRel K k H0 ρ F H S v (.bl c)) : v = .bl c := by
  cases k with
  | frz => cases h; rfl
  | bor => cases bor_top2 r h; rfl
  | own => cases h.1; rfl
theorem asB_run {K : Fr} {ρ : Rho} {F H : Hp} {S : Sto} {XQ : XK} {Q : Bool → Hp → Prop} {q : R D} (h : Wg bR K ρ F H S Q XQ (q.bind fun d S => R.get (asB d) S)) : Wg (kR K k) K ρ F H S (fun x H' => ∃ c, x = .bl c ∧ Q c H') XQ q := by
  cases q with
  | ok d S2 =>
    intro v ρ2 F2 H2 n2 r2 k2
    cases d with
    | bl c =>
      have e := KRel.bl r2 k2
      subst e
      exact ⟨c, rfl, h c ρ2 F2 H2 n2 r2 rfl⟩
    | _ => exact False.elim h
  | exc x S2 => exact h
  | no => exact False.elim h
theorem pb_cmp {op : CmpOp} (ho : OpR X (compareOp op) r) (hk : OpOk X.K .frz r g) (ha : PD X .bor w a fa) (hb : PD X .bor w b fb) (hm : behindInMarks op b = false) : PB X w (.Compare a [op] [b] pos) (tst (opE g fa fb)) := by
  refine PT.imp (pt_cmpR ho ha hb hm) ?_
  rintro σ H Q ⟨ρ, F, S, env, rl, en, q⟩
  exact op_run hk ⟨ρ, F, S, env, rl, en, asB_run q⟩
theorem pb_val {e : Expr} {fe : E D} (h : PD X k w e fe) (he : ∀ whole, isTrue e X.env whole = (do let v ← whole; standAt e.pos; holding [v] (truthy v)) := by intro _; rfl) : PB X w e (tst fe) := by
  refine PT.imp (pt_val h he) ?_
  rintro σ H Q ⟨ρ, F, S, env, rl, en, q⟩
  exact ⟨ρ, F, S, env, rl, en, asB_run q⟩
end

/-! ### and, or, not -/
def andB (fa fb : E Bool) : E Bool := bindE fa fun c => if c then fb else fun _ S => .ok false S
def orB (fa fb : E Bool) : E Bool := bindE fa fun c => if c then (fun _ S => .ok true S) else fb
def notB (fa : E Bool) : E Bool := bindE fa fun c _ S => .ok (!c) S
def andE (fa fb : E D) : E D := bindE (tst fa) fun c => if c then fb else fun _ S => .ok (.bl false) S
def orE (fa fb : E D) : E D := bindE (tst fa) fun c => if c then (fun _ S => .ok (.bl true) S) else fb
def notE (fa : E D) : E D := bindE (tst fa) fun c _ S => .ok (.bl (!c)) S
def ifE {α : Type} (fc : E Bool) (fa fb : E α) : E α := bindE fc fun c => if c then fa else fb
/-- a test whatever its whole is -/
def PBw (X : Cx) (w : WX) (e : Expr) (fe : E Bool) : Prop := PW X e (tBl X.K w fe)
theorem PW.imp {X : Cx} {e : Expr} {t t' : TT} (h : PW X e t) (i : ∀ σ H Q, t' σ H Q → t σ H Q) : PW X e t' := ⟨fun wh pins s σ H Q I q => h.run wh pins s σ H Q I (i σ H Q q)⟩
section
variable {X : Cx} {w : WX} {a b : Expr} {rest : List Expr} {fa fb : E Bool} {ga gb : E D} {pos : Pos} {k : Kd}
theorem pbw_and1 (ha : PB X w a fa) : PBw X w (.BoolOp .And [a] pos) fa := pw_and1 ha
theorem pbw_or1 (ha : PB X w a fa) : PBw X w (.BoolOp .Or [a] pos) fa := pw_or1 ha
theorem pbw_and (ha : PB X w a fa) (hb : PBw X w (.BoolOp .And (b :: rest) pos) fb) : PBw X w (.BoolOp .And (a :: b :: rest) pos) (andB fa fb) := by
  refine PW.imp (pw_and ha hb) ?_
  rintro σ H Q ⟨ρ, F, S, env, rl, en, q⟩
  refine ⟨ρ, F, S, env, rl, en, Wg.step bR.old q fun c S1 v ρ1 F1 H1 n1 r1 k1 q1 => ?_⟩
  cases k1
  cases c with
  | true => exact ⟨ρ1, F1, S1, env, r1, en.later n1, q1⟩
  | false => exact Wg.give (v := false) q1 r1 rfl
theorem pbw_or (ha : PB X w a fa) (hb : PBw X w (.BoolOp .Or (b :: rest) pos) fb) : PBw X w (.BoolOp .Or (a :: b :: rest) pos) (orB fa fb) := by
  refine PW.imp (pw_or ha hb) ?_
  rintro σ H Q ⟨ρ, F, S, env, rl, en, q⟩
  refine ⟨ρ, F, S, env, rl, en, Wg.step bR.old q fun c S1 v ρ1 F1 H1 n1 r1 k1 q1 => ?_⟩
  cases k1
  cases c with
  | false => exact ⟨ρ1, F1, S1, env, r1, en.later n1, q1⟩
  | true => exact Wg.give (v := true) q1 r1 rfl
theorem pb_w {e : Expr} {f : E Bool} (h : PBw X w e f) : PB X w e f := PW.pt h
theorem pb_not (ha : PB X w a fa) : PB X w (.UnaryOp .Not a pos) (notB fa) := by
  refine PT.imp (pt_not ha) ?_
  rintro σ H Q ⟨ρ, F, S, env, rl, en, q⟩
  refine ⟨ρ, F, S, env, rl, en, Wg.step bR.old q fun c S1 v ρ1 F1 H1 n1 r1 k1 q1 => ?_⟩
  cases k1
  exact Wg.give (v := !c) q1 r1 rfl
/-- as values; all but the last a truth -/
theorem pd_one {op} (h : PD X k w a ga) : PD X k w (.BoolOp op [a] pos) ga := pe_one h
theorem pd_and (ha : PD X .frz w a ga) (hb : PD X .frz w (.BoolOp .And (b :: rest) pos) gb) : PD X .frz w (.BoolOp .And (a :: b :: rest) pos) (andE ga gb) := by
  refine PE.imp (pe_and ha hb) ?_
  rintro σ H Q ⟨ρ, F, S, env, rl, en, q⟩
  refine ⟨ρ, F, S, env, rl, en, ?_⟩
  unfold andE bindE tst bindE at q
  refine Wg.step (rel2 := kR X.K .frz) (c := fun d S1 => (R.get (asB d) S1).bind fun c S2 => (if c then gb else fun _ S => .ok (.bl false) S) env S2) kR.old (by
    cases z : ga env S with
    | ok d S1 => rw [z] at q; exact q
    | exc x S1 => rw [z] at q; exact q
    | no => rw [z] at q; exact q) fun d S1 v ρ1 F1 H1 n1 r1 k1 q1 => ?_
  cases d with
  | bl c =>
    have e := KRel.bl r1 k1
    subst e
    refine ⟨c, rfl, ?_⟩
    cases c with
    | true => exact ⟨ρ1, F1, S1, env, r1, en.later n1, q1⟩
    | false => exact Wg.give (v := .bl false) (rel := kR X.K .frz) q1 r1 (Rep.bl false)
  | _ => exact False.elim q1
theorem pd_or (ha : PD X .frz w a ga) (hb : PD X .frz w (.BoolOp .Or (b :: rest) pos) gb) : PD X .frz w (.BoolOp .Or (a :: b :: rest) pos) (orE ga gb) := by
  refine PE.imp (pe_or ha hb) ?_
  rintro σ H Q ⟨ρ, F, S, env, rl, en, q⟩
  refine ⟨ρ, F, S, env, rl, en, ?_⟩
  unfold orE bindE tst bindE at q
  refine Wg.step (rel2 := kR X.K .frz) (c := fun d S1 => (R.get (asB d) S1).bind fun c S2 => (if c then (fun _ S => .ok (.bl true) S) else gb) env S2) kR.old (by
    cases z : ga env S with
    | ok d S1 => rw [z] at q; exact q
    | exc x S1 => rw [z] at q; exact q
    | no => rw [z] at q; exact q) fun d S1 v ρ1 F1 H1 n1 r1 k1 q1 => ?_
  cases d with
  | bl c =>
    have e := KRel.bl r1 k1
    subst e
    refine ⟨c, rfl, ?_⟩
    cases c with
    | false => exact ⟨ρ1, F1, S1, env, r1, en.later n1, q1⟩
    | true => exact Wg.give (v := .bl true) (rel := kR X.K .frz) q1 r1 (Rep.bl true)
  | _ => exact False.elim q1
theorem pd_not (ha : PD X .frz w a ga) : PD X .frz w (.UnaryOp .Not a pos) (notE ga) := by
  refine PE.imp (pe_not ha) ?_
  rintro σ H Q ⟨ρ, F, S, env, rl, en, q⟩
  refine ⟨ρ, F, S, env, rl, en, ?_⟩
  unfold notE bindE tst bindE at q
  refine Wg.step (rel2 := kR X.K .frz) (c := fun d S1 => (R.get (asB d) S1).bind fun c S2 => .ok (.bl (!c)) S2) kR.old (by
    cases z : ga env S with
    | ok d S1 => rw [z] at q; exact q
    | exc x S1 => rw [z] at q; exact q
    | no => rw [z] at q; exact q) fun d S1 v ρ1 F1 H1 n1 r1 k1 q1 => ?_
  cases d with
  | bl c =>
    have e := KRel.bl r1 k1
    subst e
    exact ⟨c, rfl, Wg.give (v := .bl (!c)) (rel := kR X.K .frz) q1 r1 (Rep.bl _)⟩
  | _ => exact False.elim q1
theorem pd_if {c : Expr} {fc : E Bool} (hc : PB X w c fc) (ha : PD X k w a ga) (hb : PD X k w b gb) : PD X k w (.IfExp c a b pos) (ifE fc ga gb) := by
  refine PE.imp (pe_ifExp hc ha hb) ?_
  rintro σ H Q ⟨ρ, F, S, env, rl, en, q⟩
  refine ⟨ρ, F, S, env, rl, en, Wg.step kR.old q fun c S1 v ρ1 F1 H1 n1 r1 k1 q1 => ?_⟩
  cases k1
  cases c with
  | true => exact ⟨ρ1, F1, S1, env, r1, en.later n1, q1⟩
  | false => exact ⟨ρ1, F1, S1, env, r1, en.later n1, q1⟩
end

/-! ### ints, texts -/
def gI (f : Int → Int → D) : D → D → Option D
  | .int i, .int j => some (f i j)
  | _, _ => none
def gIc (c : Int → Int → Bool) (f : Int → Int → D) : D → D → Option D
  | .int i, .int j => if c i j then some (f i j) else none
  | _, _ => none
def sv : D → Option V
  | .non => some .non
  | .bl b => some (.bl b)
  | .int i => some (.int i)
  | .str x => some (.str x)
  | _ => none
theorem sv_rel {K : Fr} {k : Kd} {H0 : Hp} {ρ : Rho} {F H : Hp} {S : Sto} {v : V} {d : D} (e : sv d = some v) : KRel K k H0 ρ F H S v d := by
  have h : Rep K F v d ∧ RepT K F H v d ∧ ∀ a, v ≠ .ref a := by
    cases d with
    | non => cases e; exact ⟨.non, .non, fun _ z => by cases z⟩
    | bl b => cases e; exact ⟨.bl b, .bl b, fun _ z => by cases z⟩
    | int i => cases e; exact ⟨.int i, .int i, fun _ z => by cases z⟩
    | str x => cases e; exact ⟨.str x, .str x, fun _ z => by cases z⟩
    | _ => cases e
  cases k with
  | frz => exact h.1
  | bor => exact .inl h.1
  | own => exact ⟨h.2.1, fun a z => absurd z (h.2.2 a)⟩
theorem Wg.sc {K : Fr} {k : Kd} {ρ : Rho} {F H : Hp} {S : Sto} {Q : VK} {XQ : XK} {v : V} {d : D} (h : Wg (kR K k) K ρ F H S Q XQ (.ok d S)) (r : Rl K ρ F H S) (e : sv d = some v) : Q v H := Wg.give h r (sv_rel e)
section
variable {K : Fr} {k : Kd}
theorem ok_I0 {f : Int → Int → V} {g : Int → Int → D} (hs : ∀ i j, sv (g i j) = some (f i j)) : OpOk K k (rI0 f) (gI g) := by
  intro ρ F H S Q XQ x y a b r ha hb h
  cases ha with
  | int i =>
    cases hb with
    | int j => exact ⟨i, j, rfl, rfl, h.sc r (hs i j)⟩
    | _ => exact False.elim h
  | _ => exact False.elim h
theorem ok_I {C : Int → Int → Prop} {c : Int → Int → Bool} {f : Int → Int → V} {g : Int → Int → D} (hc : ∀ i j, c i j = true → C i j) (hs : ∀ i j, sv (g i j) = some (f i j)) : OpOk K k (rI C f) (gIc c g) := by
  intro ρ F H S Q XQ x y a b r ha hb h
  cases ha with
  | int i =>
    cases hb with
    | int j =>
      cases e : c i j with
      | true =>
        have q : gIc c g (.int i) (.int j) = some (g i j) := by show (if c i j then _ else _) = _; rw [e]; rfl
        rw [q] at h
        exact ⟨i, j, rfl, rfl, hc i j e, h.sc r (hs i j)⟩
      | false =>
        have q : gIc c g (.int i) (.int j) = none := by show (if c i j then _ else _) = _; rw [e]; rfl
        rw [q] at h
        exact False.elim h
    | _ => exact False.elim h
  | _ => exact False.elim h
def addI := gI fun i j => .int (i + j)
def subI := gI fun i j => .int (i - j)
def ltI := gI fun i j => .bl (decide (i < j))
def leI := gI fun i j => .bl (decide (i ≤ j))
def gtI := gI fun i j => .bl (decide (j < i))
def geI := gI fun i j => .bl (decide (j ≤ i))
def cMul (i j : Int) : Bool := decide (i.natAbs < 18446744073709551616) || decide (j.natAbs < 18446744073709551616)
def cDiv (i j : Int) : Bool := decide (0 < j) && decide (j.natAbs < 1073741824)
def cPow (i j : Int) : Bool := decide (0 ≤ j) && decide (j.natAbs ≤ 1000000) && decide (i.natAbs < 18446744073709551616)
def mulI := gIc cMul fun i j => .int (i * j)
def divI := gIc cDiv fun i j => .int (i / j)
def modI := gIc (fun _ j => decide (0 < j)) fun i j => .int (i % j)
def powI := gIc cPow fun i j => .int (i ^ j.toNat)
theorem ok_add : OpOk K k (rI0 fun i j => .int (i + j)) addI := ok_I0 fun _ _ => rfl
theorem ok_sub : OpOk K k (rI0 fun i j => .int (i - j)) subI := ok_I0 fun _ _ => rfl
theorem ok_lt : OpOk K k (rI0 fun i j => .bl (decide (i < j))) ltI := ok_I0 fun _ _ => rfl
theorem ok_le : OpOk K k (rI0 fun i j => .bl (decide (i ≤ j))) leI := ok_I0 fun _ _ => rfl
theorem ok_gt : OpOk K k (rI0 fun i j => .bl (decide (j < i))) gtI := ok_I0 fun _ _ => rfl
theorem ok_ge : OpOk K k (rI0 fun i j => .bl (decide (j ≤ i))) geI := ok_I0 fun _ _ => rfl
theorem ok_mul : OpOk K k (rI CMul fun i j => .int (i * j)) mulI := ok_I (fun i j h => by
  unfold cMul at h
  simp only [Bool.or_eq_true, decide_eq_true_eq] at h
  rcases h with h | h
  · exact .inl ⟨by omega, by omega⟩
  · exact .inr ⟨by omega, by omega⟩) fun _ _ => rfl
theorem ok_div : OpOk K k (rI CDiv fun i j => .int (i / j)) divI := ok_I (fun i j h => by
  unfold cDiv at h
  simp only [Bool.and_eq_true, decide_eq_true_eq] at h
  exact ⟨h.1, by omega⟩) fun _ _ => rfl
theorem ok_mod : OpOk K k (rI (fun _ j => 0 < j) fun i j => .int (i % j)) modI := ok_I (fun i j h => of_decide_eq_true h) fun _ _ => rfl
theorem ok_pow : OpOk K k (rI CPow fun i j => .int (i ^ j.toNat)) powI := ok_I (fun i j h => by
  unfold cPow at h
  simp only [Bool.and_eq_true, decide_eq_true_eq] at h
  exact ⟨h.1.1, by omega, h.2⟩) fun _ _ => rfl
def addS : D → D → Option D
  | .str x, .str y => if x.length + y.length ≤ sizeLine then some (.str (x ++ y)) else none
  | _, _ => none
theorem ok_addS : OpOk K k (fun x y H Q => ∃ i j, x = V.str i ∧ y = V.str j ∧ i.length + j.length ≤ sizeLine ∧ Q (V.str (i ++ j)) H) addS := by
  intro ρ F H S Q XQ x y a b r ha hb h
  cases ha with
  | str i =>
    cases hb with
    | str j =>
      by_cases e : i.length + j.length ≤ sizeLine
      · have q : addS (.str i) (.str j) = some (.str (i ++ j)) := if_pos e
        rw [q] at h
        exact ⟨i, j, rfl, rfl, e, h.sc r rfl⟩
      · have q : addS (.str i) (.str j) = none := if_neg e
        rw [q] at h
        exact False.elim h
    | _ => exact False.elim h
  | _ => exact False.elim h
/-- one text in another -/
def inS (neg : Bool) : D → D → Option D
  | .str x, .str y => some (.bl (if neg then !(!(Builtin.Str.occurrences y x 0 y.length 1).isEmpty) else !(Builtin.Str.occurrences y x 0 y.length 1).isEmpty))
  | _, _ => none
def D.isNon : D → Bool
  | .non => true
  | _ => false
/-- is None -/
def isN (neg : Bool) : D → D → Option D
  | x, .non => some (.bl (if neg then !x.isNon else x.isNon))
  | _, _ => none
theorem RepT.non_iff {F H : Hp} {x : V} {a : D} (h : RepT K F H x a) : decide (x = .non) = a.isNon := by
  cases h <;> first | rfl | exact decide_eq_false (fun z => nomatch z)
theorem ok_isN : OpOk K k (fun x y H Q => y = .non ∧ Q (.bl (decide (x = .non))) H) (isN false) := by
  intro ρ F H S Q XQ x y a b r ha hb h
  cases hb with
  | non => exact ⟨rfl, h.sc r (show some (V.bl a.isNon) = _ by rw [← ha.non_iff])⟩
  | _ => exact False.elim h
theorem ok_notN : OpOk K k (fun x y H Q => y = .non ∧ Q (.bl (!decide (x = .non))) H) (isN true) := by
  intro ρ F H S Q XQ x y a b r ha hb h
  cases hb with
  | non => exact ⟨rfl, h.sc r (show some (V.bl (!a.isNon)) = _ by rw [← ha.non_iff])⟩
  | _ => exact False.elim h
end
end Fw

set_option  maxHeartbeats 4000000
/-! Fw: sequences, built-ins -/
namespace Fw
open PySem L2

/-! ### a new object -/
theorem own_new {K : Fr} {ρ : Rho} {F H : Hp} {S : Sto} {p : Addr} {o : HO} {d : D} (r : Rl K ρ F H S) (h : H p = none) (t : RepT K F (upd H p o) (.ref p) d) : KRel K .own H ρ F (upd H p o) S (.ref p) d :=
  ⟨t, fun a e => by
    cases e
    exact ⟨r.sub.no0 h, r.nolive0 h, h, by rw [upd_same]; rfl⟩⟩
theorem Wg.alloc {K : Fr} {ρ : Rho} {F H : Hp} {S : Sto} {Q : VK} {XQ : XK} {p : Addr} {o : HO} {d : D} (h : Wg (kR K .own) K ρ F H S Q XQ (.ok d S)) (r : Rl K ρ F H S) (hp : H p = none) (t : RepT K F (upd H p o) (.ref p) d) (hz : isFz o = false := by rfl) : Q (.ref p) (upd H p o) :=
  Wg.new h r hp (own_new r hp t) hz
theorem Wg.allocF {K : Fr} {ρ : Rho} {F H : Hp} {S : Sto} {Q : VK} {XQ : XK} {p : Addr} {o : HO} {d : D} (h : Wg (kR K .frz) K ρ F H S Q XQ (.ok d S)) (r : Rl K ρ F H S) (hp : H p = none) (t : RepT K F (upd H p o) (.ref p) d) (nd : d.isK = false := by rfl) (hz : isFz o = false := by rfl) : Q (.ref p) (upd H p o) :=
  Wg.give_frz h (Nx.new hp) (r.new hp hz) (own_new r hp t) nd

/-! ### lists of expressions -/
def nilE : E (List D) := fun _ S => .ok [] S
def consE (fa : E D) (fs : E (List D)) : E (List D) := bindE fa fun x => bindE fs fun xs _ S => .ok (x :: xs) S
/-- all frozen; all to be read -/
def lfR (K : Fr) : Rel (List D) (List V) := fun _ _ F _ _ vs ds => RepL K F vs ds
def lbR (K : Fr) : Rel (List D) (List V) := fun H0 ρ F H S vs ds => Paired (fun v d => KRel K .bor H0 ρ F H S v d) vs ds
theorem lfR.old {K : Fr} : (lfR K).Old := ⟨fun _ h => h⟩
theorem lbR.old {K : Fr} : (lbR K).Old := ⟨fun g h => Paired.mapP h fun _ _ z => kR.old.to g z⟩
def PLf (X : Cx) (w : WX) (es : List Expr) (fs : E (List D)) : Prop := PA X es (tG (lfR X.K) X.K w fs)
def PLb (X : Cx) (w : WX) (es : List Expr) (fs : E (List D)) : Prop := PA X es (tG (lbR X.K) X.K w fs)
section
variable {X : Cx} {w : WX} {e : Expr} {es : List Expr} {fa : E D} {fs : E (List D)}
theorem plf_nil : PLf X w [] nilE := PA.imp pa_nil (by
  rintro σ H Q ⟨ρ, F, S, env, r, en, q⟩
  exact Wg.give (v := []) q r .nil)
theorem plb_nil : PLb X w [] nilE := PA.imp pa_nil (by
  rintro σ H Q ⟨ρ, F, S, env, r, en, q⟩
  exact Wg.give (v := []) q r .nil)
theorem plf_cons (ha : PD X .frz w e fa) (hr : PLf X w es fs) (hs : starEach (e :: es) X.env = (false, eval e X.env) :: starEach es X.env := by rfl) : PLf X w (e :: es) (consE fa fs) := PA.imp (pa_cons ha hr hs) (by
  rintro σ H Q ⟨ρ, F, S, env, rl, en, q⟩
  refine ⟨ρ, F, S, env, rl, en, Wg.step lfR.old q fun x S1 v ρ1 F1 H1 n1 r1 k1 q1 => ?_⟩
  refine ⟨ρ1, F1, S1, env, r1, en.later n1, Wg.step lfR.old q1 fun xs S2 vs ρ2 F2 H2 n2 r2 k2 q2 => ?_⟩
  exact Wg.give q2 r2 (RepL.cons (k1.mono n2.fsub) k2))
theorem plb_cons (ha : PD X .bor w e fa) (hr : PLb X w es fs) (hs : starEach (e :: es) X.env = (false, eval e X.env) :: starEach es X.env := by rfl) : PLb X w (e :: es) (consE fa fs) := PA.imp (pa_cons ha hr hs) (by
  rintro σ H Q ⟨ρ, F, S, env, rl, en, q⟩
  refine ⟨ρ, F, S, env, rl, en, Wg.step lbR.old q fun x S1 v ρ1 F1 H1 n1 r1 k1 q1 => ?_⟩
  refine ⟨ρ1, F1, S1, env, r1, en.later n1, Wg.step lbR.old q1 fun xs S2 vs ρ2 F2 H2 n2 r2 k2 q2 => ?_⟩
  exact Wg.give q2 r2 (Paired.cons (bor_later n2 k1) (Paired.mapP k2 fun _ _ z => z)))
/-- displays -/
def sz (n : Nat) : Bool := decide (n ≤ 16777216)
theorem sz_line {n : Nat} (h : sz n = true) : n ≤ sizeLine := by
  rw [sizeLine_eq]
  exact of_decide_eq_true h
def tupE (fs : E (List D)) : E D := bindE fs fun ds _ S => if sz ds.length then .ok (.tup ds) S else .no
def lstE (fs : E (List D)) : E D := bindE fs fun ds _ S => if sz ds.length then .ok (.lst ds) S else .no
theorem if_ok {c : Bool} {α β : Type} {rel : Rel α β} {K : Fr} {ρ : Rho} {F H : Hp} {S : Sto} {Q : β → Hp → Prop} {XQ : XK} {a : R α} (h : Wg rel K ρ F H S Q XQ (if c then a else .no)) : c = true ∧ Wg rel K ρ F H S Q XQ a := by
  cases c with
  | true => exact ⟨rfl, h⟩
  | false => exact False.elim h
theorem pd_tup {pos : Pos} {x1} (h : PLf X w es fs) : PD X .own w (.Tuple es x1 pos) (tupE fs) := PE.imp (pe_tup h) (by
  rintro σ H Q ⟨ρ, F, S, env, rl, en, q⟩
  refine ⟨ρ, F, S, env, rl, en, Wg.step kR.old q fun ds S1 vs ρ1 F1 H1 n1 r1 k1 q1 => ?_⟩
  obtain ⟨hz, q1⟩ := if_ok q1
  have k1 : RepL X.K F1 vs ds := k1
  exact ⟨by rw [k1.length]; exact sz_line hz, fun p hp => q1.alloc r1 hp (.tup (.inl (.inl upd_same)) k1)⟩)
theorem pd_lst {pos : Pos} (h : PLf X w es fs) : PD X .own w (.List es pos) (lstE fs) := PE.imp (pe_lst h) (by
  rintro σ H Q ⟨ρ, F, S, env, rl, en, q⟩
  refine ⟨ρ, F, S, env, rl, en, Wg.step kR.old q fun ds S1 vs ρ1 F1 H1 n1 r1 k1 q1 => ?_⟩
  obtain ⟨hz, q1⟩ := if_ok q1
  have k1 : RepL X.K F1 vs ds := k1
  exact ⟨by rw [k1.length]; exact sz_line hz, fun p hp => q1.alloc r1 hp (.lst upd_same k1)⟩)
end

/-! ### items -/
def atD (ds : List D) (i : Int) : Option D := (ixN ds.length i).bind fun j => ds[j]?
theorem atD_rep {K : Fr} {F : Hp} {vs : List V} {ds : List D} {i : Int} {d : D} (r : RepL K F vs ds) (h : atD ds i = some d) : ∃ v, atI vs i = some v ∧ Rep K F v d := by
  unfold atD at h
  unfold atI
  rw [r.length]
  cases e : ixN ds.length i with
  | none => rw [e] at h; cases h
  | some j =>
    rw [e] at h
    exact r.get h
theorem atI_map {α β : Type} {f : α → β} {xs : List α} {i : Int} {x : α} (h : atI xs i = some x) : atI (xs.map f) i = some (f x) := by
  unfold atI at h ⊢
  rw [List.length_map]
  cases e : ixN xs.length i with
  | none => rw [e] at h; cases h
  | some j =>
    rw [e] at h
    have h : xs[j]? = some x := h
    show (xs.map f)[j]? = some (f x)
    rw [List.getElem?_map, h]
    rfl
def ixD : D → D → Option D
  | .lst ds, .int i => atD ds i
  | .tup ds, .int i => atD ds i
  | .scr ns, .int i => (atI ns i).map D.int
  | _, _ => none
def ixS : D → D → Option D
  | .str z, .int i => if sz z.length then (atI z.cps.toList i).map fun c => .str ⟨#[c]⟩ else none
  | _, _ => none
section
variable {K : Fr}
theorem ok_ix : OpOk K .frz (rIx K) ixD := by
  intro ρ F H S Q XQ x y a b r ha hb h
  cases ha with
  | lst hx l =>
    cases hb with
    | int i =>
      cases e : atD _ i with
      | none => rw [show ixD (.lst _) (.int i) = none from e] at h; exact False.elim h
      | some d =>
        rw [show ixD (.lst _) (.int i) = some d from e] at h
        obtain ⟨v, h1, h2⟩ := atD_rep l e
        exact .inl ⟨_, _, i, v, rfl, rfl, SqL.of hx, h1, Wg.give h r h2⟩
    | _ => exact False.elim h
  | tup hx l =>
    cases hb with
    | int i =>
      cases e : atD _ i with
      | none => rw [show ixD (.tup _) (.int i) = none from e] at h; exact False.elim h
      | some d =>
        rw [show ixD (.tup _) (.int i) = some d from e] at h
        obtain ⟨v, h1, h2⟩ := atD_rep l e
        exact .inr (.inl ⟨_, _, i, v, rfl, rfl, hx, h1, Wg.give h r h2⟩)
    | _ => exact False.elim h
  | scr hx =>
    cases hb with
    | int i =>
      rename_i ns
      cases e : atI ns i with
      | none => rw [show ixD (.scr _) (.int i) = none from (congrArg (Option.map D.int) e)] at h; exact False.elim h
      | some d =>
        rw [show ixD (.scr _) (.int i) = some (.int d) from (congrArg (Option.map D.int) e)] at h
        exact .inl ⟨_, _, i, .int d, rfl, rfl, hx, atI_map e, Wg.give h r (.int d)⟩
    | _ => exact False.elim h
  | _ => exact False.elim h
theorem ok_ixS : OpOk K .frz (rIx K) ixS := by
  intro ρ F H S Q XQ x y a b r ha hb h
  cases ha with
  | str z =>
    cases hb with
    | int i =>
      by_cases hz : sz z.length = true
      · rw [show ixS (.str z) (.int i) = (atI z.cps.toList i).map fun c => .str ⟨#[c]⟩ from if_pos hz] at h
        cases e : atI z.cps.toList i with
        | none => rw [e] at h; exact False.elim h
        | some c =>
          rw [e] at h
          exact .inr (.inr ⟨z, i, c, rfl, rfl, sz_line hz, e, h.sc r rfl⟩)
      · rw [show ixS (.str z) (.int i) = none from if_neg hz] at h
        exact False.elim h
    | _ => exact False.elim h
  | _ => exact False.elim h
end
section
variable {X : Cx} {w : WX} {a b : Expr} {fa fb : E D} {pos : Pos}
theorem pd_at (ha : PD X .bor w a fa) (hb : PD X .bor w b fb) (hs : PlainIx b := by exact fun _ _ => rfl) : PD X .frz w (.Subscript a b pos) (opE ixD fa fb) := pd_ix ix_seq ok_ix ha hb hs
theorem pd_atS (ha : PD X .bor w a fa) (hb : PD X .bor w b fb) (hs : PlainIx b := by exact fun _ _ => rfl) : PD X .frz w (.Subscript a b pos) (opE ixS fa fb) := pd_ix ix_seq ok_ixS ha hb hs
end

/-! ### + of lists, of tuples -/
def catL : D → D → Option D
  | .lst xs, .lst ys => if sz (xs.length + ys.length) then some (.lst (xs ++ ys)) else none
  | _, _ => none
def catT : D → D → Option D
  | .tup xs, .tup ys => if sz (xs.length + ys.length) then some (.tup (xs ++ ys)) else none
  | _, _ => none
def repL (xs : List D) (k : Int) : List D := (List.replicate k.toNat xs).flatten
/-- both operands frozen -/
def OpOkF (K : Fr) (k : Kd) (r : R2) (g : D → D → Option D) : Prop := ∀ {ρ : Rho} {F H : Hp} {S : Sto} {Q : VK} {XQ : XK} {x y : V} {a b : D}, Rl K ρ F H S → RepT K F H x a → RepT K F H y b → (a.isTup = true → Rep K F x a) → (b.isTup = true → Rep K F y b) → Wg (kR K k) K ρ F H S Q XQ (R.get (g a b) S) → r x y H Q
section
variable {X : Cx} {w : WX} {k : Kd} {r : R2} {g : D → D → Option D} {a b : Expr} {fa fb : E D} {pos : Pos}
theorem op_runF {σ : L2.St} {H : Hp} {Q : VK} (hk : OpOkF X.K k r g) (h : tD X.K k w (opE g fa fb) σ H Q) : tOp r (tD X.K .frz w fa) (tD X.K .frz w fb) σ H Q := by
  obtain ⟨ρ, F, S, env, rl, en, q⟩ := h
  refine ⟨ρ, F, S, env, rl, en, Wg.step kR.old q fun x S1 v ρ1 F1 H1 n1 r1 k1 q1 => ?_⟩
  refine ⟨ρ1, F1, S1, env, r1, en.later n1, Wg.step kR.old q1 fun y S2 u ρ2 F2 H2 n2 r2 k2 q2 => ?_⟩
  have k1' : Rep X.K F2 v x := Rep.mono n2.fsub k1
  have k2 : Rep X.K F2 u y := k2
  obtain ⟨x', e1, t1, q3⟩ := rs_get r2 (Rep.top r2.sub k1') q2
  obtain ⟨y', e2, t2, q4⟩ := rs_get r2 (Rep.top r2.sub k2) q3
  exact hk r2 t1 t2 (fun z => rs_tup (ρ := ρ2) (H := H2) k1' e1 z) (fun z => rs_tup (ρ := ρ2) (H := H2) k2 e2 z) q4
theorem pd_opF {op : Operator} (ho : OpR X (binaryOp op) r) (hk : OpOkF X.K k r g) (ha : PD X .frz w a fa) (hb : PD X .frz w b fb) : PD X k w (.BinOp a op b pos) (opE g fa fb) := PE.imp (pe_op ho ha hb) fun _ _ _ h => op_runF hk h
end
section
variable {K : Fr}
theorem ok_catL : OpOk K .own rCat catL := by
  intro ρ F H S Q XQ x y a b r ha hb h
  cases ha with
  | lst hx l =>
    cases hb with
    | lst hy m =>
      rename_i xs _ _ ys
      by_cases hz : sz (xs.length + ys.length) = true
      · rw [show catL (.lst xs) (.lst ys) = _ from if_pos hz] at h
        exact ⟨_, _, _, _, rfl, rfl, hx, hy, by rw [l.length, m.length]; exact sz_line hz, fun p hp => h.alloc r hp (.lst upd_same (l.append m))⟩
      · rw [show catL (.lst xs) (.lst ys) = _ from if_neg hz] at h
        exact False.elim h
    | _ => exact False.elim h
  | _ => exact False.elim h
theorem RepL.nil_iff {F : Hp} {vs : List V} {ds : List D} (r : RepL K F vs ds) : vs = [] ↔ ds = [] := by
  cases r with
  | nil => exact ⟨fun _ => rfl, fun _ => rfl⟩
  | cons _ _ => exact ⟨fun h => absurd h (by simp), fun h => absurd h (by simp)⟩
theorem ok_catT : OpOkF K .frz (rCatA K) catT := by
  intro ρ F H S Q XQ x y a b r ha hb ta tb h
  cases ha with
  | tup hx0 lx0 =>
    rename_i ax vx xs
    cases hb with
    | tup hy0 ly0 =>
      rename_i ay vy ys
      have ra := ta rfl
      have rb := tb rfl
      cases ra with
      | tup hx l =>
      cases rb with
      | tup hy m =>
      by_cases hz : sz (xs.length + ys.length) = true
      · rw [show catT (.tup xs) (.tup ys) = _ from if_pos hz] at h
        refine ⟨_, _, _, _, rfl, rfl, sqT_sub r.sub hx, sqT_sub r.sub hy, by rw [l.length, m.length]; exact sz_line hz, fun e => ?_, fun _ e => ?_, fun _ _ p hp => h.allocF r hp (.tup (.inl (.inl upd_same)) (l.append m))⟩
        · have e2 := l.nil_iff.mp e
          subst e2
          exact Wg.give h r (.tup hy m)
        · have e2 := m.nil_iff.mp e
          subst e2
          rw [List.append_nil] at h
          exact Wg.give h r (.tup hx l)
      · rw [show catT (.tup xs) (.tup ys) = _ from if_neg hz] at h
        exact False.elim h
    | _ => exact False.elim h
  | _ => exact False.elim h
end

/-! ### slices -/
def cutL {α : Type} (xs : List α) (lo hi : Option Int) : List α := (xs.drop (HT.sIx xs.length 0 lo)).take (HT.sIx xs.length xs.length hi - HT.sIx xs.length 0 lo)
theorem cut_rep {K : Fr} {F : Hp} {vs : List V} {ds : List D} (r : RepL K F vs ds) (lo hi : Option Int) : RepL K F (cutV vs lo hi) (cutL ds lo hi) := by
  unfold cutV cutL
  rw [r.length]
  exact (r.drop _).take _
theorem ints_repl {K : Fr} {F : Hp} : ∀ ns : List Int, RepL K F (ns.map V.int) (ns.map D.int)
  | [] => .nil
  | n :: ns => .cons (.int n) (ints_repl ns)
def asI : D → Option Int
  | .int i => some i
  | _ => none
def noPart : E (Option Int) := fun _ S => .ok none S
def partE (fe : E D) : E (Option Int) := bindE fe fun d _ S => R.get ((asI d).map some) S
def oR : Rel (Option Int) (Option Int) := fun _ _ _ _ _ v d => v = d
theorem oR.old : oR.Old := ⟨fun _ h => h⟩
def PPart (X : Cx) (w : WX) (e : Option Expr) (fe : E (Option Int)) : Prop := PO X e (tG oR X.K w fe)
theorem PO.imp {X : Cx} {e : Option Expr} {t t' : TO} (h : PO X e t) (i : ∀ σ H Q, t' σ H Q → t σ H Q) : PO X e t' := ⟨fun pins s σ H Q I q => h.run pins s σ H Q I (i σ H Q q)⟩
def slE (g : D → Option Int → Option Int → Option D) (fa : E D) (fl fh : E (Option Int)) : E D := bindE fa fun x => bindE fl fun l => bindE fh fun u _ S => R.get ((rs S x).bind fun x' => g x' l u) S
def cutLs : D → Option Int → Option Int → Option D
  | .lst ds, l, u => some (.lst (cutL ds l u))
  | .scr ns, l, u => some (.lst ((cutL ns l u).map D.int))
  | _, _, _ => none
def cutTs : D → Option Int → Option Int → Option D
  | .tup ds, l, u => some (.tup (cutL ds l u))
  | _, _, _ => none
def cutSs : D → Option Int → Option Int → Option D
  | .str z, l, u => if sz z.length then some (.str (cutS z l u)) else none
  | _, _, _ => none
section
variable {X : Cx} {w : WX} {e : Expr} {lo hi : Option Expr} {fa : E D} {fl fh : E (Option Int)} {pos p2 : Pos}
theorem pp_none : PPart X w none noPart := PO.imp po_none (by
  rintro σ H Q ⟨ρ, F, S, env, r, en, q⟩
  exact Wg.give (v := none) q r rfl)
theorem pp_some (h : PD X .frz w e fa) : PPart X w (some e) (partE fa) := PO.imp (po_some h) (by
  rintro σ H Q ⟨ρ, F, S, env, rl, en, q⟩
  refine ⟨ρ, F, S, env, rl, en, Wg.step oR.old q fun x S1 v ρ1 F1 H1 n1 r1 k1 q1 => ?_⟩
  cases x with
  | int i =>
    cases k1
    exact ⟨i, rfl, Wg.give (v := some i) q1 r1 rfl⟩
  | _ => exact False.elim q1)
theorem pd_cutL (ha : PD X .bor w e fa) (hl : PPart X w lo fl) (hh : PPart X w hi fh) : PD X .own w (.Subscript e (.Slice lo hi none p2) pos) (slE cutLs fa fl fh) := PE.imp (pe_slice sl_list ha hl hh) (by
  rintro σ H Q ⟨ρ, F, S, env, rl, en, q⟩
  refine ⟨ρ, F, S, env, rl, en, Wg.step kR.old q fun x S1 v ρ1 F1 H1 n1 r1 k1 q1 => ?_⟩
  refine ⟨ρ1, F1, S1, env, r1, en.later n1, Wg.step kR.old q1 fun l S2 l' ρ2 F2 H2 n2 r2 k2 q2 => ?_⟩
  refine ⟨ρ2, F2, S2, env, r2, (en.later n1).later n2, Wg.step kR.old q2 fun u S3 u' ρ3 F3 H3 n3 r3 k3 q3 => ?_⟩
  cases k2
  cases k3
  have t := bor_top2 r3 (bor_later n3 (bor_later n2 k1))
  obtain ⟨x', _, t, q3⟩ := rs_get r3 t q3
  cases t with
  | lst hx m => exact ⟨_, _, rfl, SqL.of hx, fun p hp => q3.alloc r3 hp (.lst upd_same (cut_rep m _ _))⟩
  | scr hx => exact ⟨_, _, rfl, hx, fun p hp => q3.alloc r3 hp (.lst upd_same (by rw [show cutV (List.map V.int _) l u = (cutL _ l u).map V.int from by unfold cutV cutL; rw [List.length_map, List.map_take, List.map_drop]]; exact ints_repl _))⟩
  | _ => exact False.elim q3)
theorem pd_cutT (ha : PD X .frz w e fa) (hl : PPart X w lo fl) (hh : PPart X w hi fh) : PD X .frz w (.Subscript e (.Slice lo hi none p2) pos) (slE cutTs fa fl fh) := PE.imp (pe_slice sl_tupA ha hl hh) (by
  rintro σ H Q ⟨ρ, F, S, env, rl, en, q⟩
  refine ⟨ρ, F, S, env, rl, en, Wg.step kR.old q fun x S1 v ρ1 F1 H1 n1 r1 k1 q1 => ?_⟩
  refine ⟨ρ1, F1, S1, env, r1, en.later n1, Wg.step kR.old q1 fun l S2 l' ρ2 F2 H2 n2 r2 k2 q2 => ?_⟩
  refine ⟨ρ2, F2, S2, env, r2, (en.later n1).later n2, Wg.step kR.old q2 fun u S3 u' ρ3 F3 H3 n3 r3 k3 q3 => ?_⟩
  cases k2
  cases k3
  have t : Rep X.K F3 v x := Rep.mono n3.fsub (Rep.mono n2.fsub k1)
  obtain ⟨x', ex, t', q3⟩ := rs_get r3 (Rep.top r3.sub t) q3
  cases t' with
  | tup h9 l9 =>
    rename_i a9 vs9 ds
    have t := rs_tup (ρ := ρ3) (H := H3) t ex rfl
    cases t with
    | tup hx m =>
      rename_i vs
      refine ⟨_, _, rfl, sqT_sub r3.sub hx, fun c => ?_, fun _ p hp => q3.allocF r3 hp (.tup (.inl (.inl upd_same)) (cut_rep m _ _))⟩
      have e1 : cutL ds l u = ds := by
        unfold cutL
        rw [← m.length, c.1, c.2, m.length, Nat.sub_zero, List.drop_zero, List.take_length]
      have q3 : Wg (kR X.K .frz) X.K ρ3 F3 H3 S3 Q (fun cls dd H' => w cls dd σ H') (R.get (some (D.tup (cutL ds l u))) S3) := q3
      rw [e1] at q3
      exact Wg.give q3 r3 (.tup hx m)
  | _ => exact False.elim q3)
theorem pd_cutS (ha : PD X .bor w e fa) (hl : PPart X w lo fl) (hh : PPart X w hi fh) : PD X .frz w (.Subscript e (.Slice lo hi none p2) pos) (slE cutSs fa fl fh) := PE.imp (pe_slice sl_str ha hl hh) (by
  rintro σ H Q ⟨ρ, F, S, env, rl, en, q⟩
  refine ⟨ρ, F, S, env, rl, en, Wg.step kR.old q fun x S1 v ρ1 F1 H1 n1 r1 k1 q1 => ?_⟩
  refine ⟨ρ1, F1, S1, env, r1, en.later n1, Wg.step kR.old q1 fun l S2 l' ρ2 F2 H2 n2 r2 k2 q2 => ?_⟩
  refine ⟨ρ2, F2, S2, env, r2, (en.later n1).later n2, Wg.step kR.old q2 fun u S3 u' ρ3 F3 H3 n3 r3 k3 q3 => ?_⟩
  cases k2
  cases k3
  have t := bor_top2 r3 (bor_later n3 (bor_later n2 k1))
  obtain ⟨x', _, t, q3⟩ := rs_get r3 t q3
  cases t with
  | str z =>
    by_cases hz : sz z.length = true
    · have q3 : Wg (kR X.K .frz) X.K ρ3 F3 H3 S3 Q (fun cls dd H' => w cls dd σ H') (R.get (cutSs (.str z) l u) S3) := q3
      rw [show cutSs (.str z) l u = _ from if_pos hz] at q3
      exact ⟨z, rfl, sz_line hz, q3.sc r3 rfl⟩
    · have q3 : Wg (kR X.K .frz) X.K ρ3 F3 H3 S3 Q (fun cls dd H' => w cls dd σ H') (R.get (cutSs (.str z) l u) S3) := q3
      rw [show cutSs (.str z) l u = _ from if_neg hz] at q3
      exact False.elim q3
  | _ => exact False.elim q3)
end
end Fw

set_option  maxHeartbeats 4000000
/-! Fw: built-in functions, methods of built-in types, ==, in -/
namespace Fw
open PySem L2

def b1E (g : D → Option D) (fa : E D) : E D := bindE fa fun x _ S => R.get ((rs S x).bind g) S
def COk (K : Fr) (k : Kd) (r : List V → Hp → VK → Prop) (g : D → Option D) : Prop := ∀ {ρ : Rho} {F H : Hp} {S : Sto} {Q : VK} {XQ : XK} {x : V} {a : D}, Rl K ρ F H S → RepT K F H x a → Wg (kR K k) K ρ F H S Q XQ (R.get (g a) S) → r [x] H Q
def COkF (K : Fr) (k : Kd) (r : List V → Hp → VK → Prop) (g : D → Option D) : Prop := ∀ {ρ : Rho} {F H : Hp} {S : Sto} {Q : VK} {XQ : XK} {x : V} {a : D}, Rl K ρ F H S → RepT K F H x a → (a.isTup = true → Rep K F x a) → Wg (kR K k) K ρ F H S Q XQ (R.get (g a) S) → r [x] H Q
def COk2 (K : Fr) (k : Kd) (r : List V → Hp → VK → Prop) (g : D → D → Option D) : Prop := OpOk K k (fun x y H Q => r [x, y] H Q) g
section
variable {X : Cx} {w : WX} {k : Kd} {r : List V → Hp → VK → Prop} {g : D → Option D} {g2 : D → D → Option D} {a b : Expr} {fa fb : E D} {x : Str} {p pos : Pos} {id T : String}
theorem b1_run {σ : L2.St} {H : Hp} {Q : VK} (hk : COk X.K k r g) (h : tD X.K k w (b1E g fa) σ H Q) : tCB r (tCons (tD X.K .bor w fa) tNil) σ H Q := by
  obtain ⟨ρ, F, S, env, rl, en, q⟩ := h
  refine ⟨ρ, F, S, env, rl, en, Wg.step kR.old q fun x S1 v ρ1 F1 H1 n1 r1 k1 q1 => ?_⟩
  obtain ⟨x', _, t, q2⟩ := rs_get r1 (bor_top2 r1 k1) q1
  exact hk r1 t q2
theorem b1_runF {σ : L2.St} {H : Hp} {Q : VK} (hk : COkF X.K k r g) (h : tD X.K k w (b1E g fa) σ H Q) : tCB r (tCons (tD X.K .frz w fa) tNil) σ H Q := by
  obtain ⟨ρ, F, S, env, rl, en, q⟩ := h
  refine ⟨ρ, F, S, env, rl, en, Wg.step kR.old q fun x S1 v ρ1 F1 H1 n1 r1 k1 q1 => ?_⟩
  have k1 : Rep X.K F1 v x := k1
  obtain ⟨x', e1, t, q2⟩ := rs_get r1 (Rep.top r1.sub k1) q1
  exact hk r1 t (fun z => rs_tup (ρ := ρ1) (H := H1) k1 e1 z) q2
theorem b2_run {σ : L2.St} {H : Hp} {Q : VK} (hk : COk2 X.K k r g2) (h : tD X.K k w (opE g2 fa fb) σ H Q) : tCB r (tCons (tD X.K .bor w fa) (tCons (tD X.K .bor w fb) tNil)) σ H Q := op_run hk h
theorem pd_b1 (hc : CallR X (.builtin id) r) (hk : COk X.K k r g) (hg : Gl X x) (hm : X.mg x = none) (hv : bootBuiltins x = some (.builtin id)) (ha : PD X .bor w a fa) (hn : x ≠ "__name__" := by decide) (hdb : (x == ("__debug__" : Str)) = false := by decide)
    (hs : starEach [a] X.env = (false, eval a X.env) :: starEach [] X.env := by rfl) : PD X k w (.Call (.Name x p) [a] [] pos) (b1E g fa) := PE.imp (pe_callB hc hg hm hv (pa_cons ha pa_nil hs) hn hdb hs rfl) fun _ _ _ h => b1_run hk h
theorem pd_t1 (hc : CallR X (.type T) r) (hk : COk X.K k r g) (hg : Gl X x) (hm : X.mg x = none) (hv : bootBuiltins x = some (.type T)) (ha : PD X .bor w a fa) (hn : x ≠ "__name__" := by decide) (hdb : (x == ("__debug__" : Str)) = false := by decide)
    (hs : starEach [a] X.env = (false, eval a X.env) :: starEach [] X.env := by rfl) : PD X k w (.Call (.Name x p) [a] [] pos) (b1E g fa) := PE.imp (pe_callTy hc hg hm hv (pa_cons ha pa_nil hs) hn hdb hs rfl) fun _ _ _ h => b1_run hk h
theorem pd_t1F (hc : CallR X (.type T) r) (hk : COkF X.K k r g) (hg : Gl X x) (hm : X.mg x = none) (hv : bootBuiltins x = some (.type T)) (ha : PD X .frz w a fa) (hn : x ≠ "__name__" := by decide) (hdb : (x == ("__debug__" : Str)) = false := by decide)
    (hs : starEach [a] X.env = (false, eval a X.env) :: starEach [] X.env := by rfl) : PD X k w (.Call (.Name x p) [a] [] pos) (b1E g fa) := PE.imp (pe_callTy hc hg hm hv (pa_cons ha pa_nil hs) hn hdb hs rfl) fun _ _ _ h => b1_runF hk h
theorem pd_b2 (hc : CallR X (.builtin id) r) (hk : COk2 X.K k r g2) (hg : Gl X x) (hm : X.mg x = none) (hv : bootBuiltins x = some (.builtin id)) (ha : PD X .bor w a fa) (hb : PD X .bor w b fb) (hn : x ≠ "__name__" := by decide) (hdb : (x == ("__debug__" : Str)) = false := by decide)
    (hs : starEach [a, b] X.env = (false, eval a X.env) :: starEach [b] X.env := by rfl) (hs2 : starEach [b] X.env = (false, eval b X.env) :: starEach [] X.env := by rfl) : PD X k w (.Call (.Name x p) [a, b] [] pos) (opE g2 fa fb) := PE.imp (pe_callB hc hg hm hv (pa_cons ha (pa_cons hb pa_nil hs2) hs) hn hdb hs (by rw [hs2]; rfl)) fun _ _ _ h => b2_run hk h
end

/-! ### len, list, tuple, abs, max, min, int, str, all, any, sum -/
def lenD : D → Option D
  | .lst ds => some (.int (ds.length : Nat))
  | .tup ds => some (.int (ds.length : Nat))
  | .scr ns => some (.int (ns.length : Nat))
  | .str z => if sz z.length then some (.int (z.length : Nat)) else none
  | _ => none
def listD : D → Option D
  | .lst ds => some (.lst ds)
  | .scr ns => some (.lst (ns.map D.int))
  | .tup ds => some (.lst ds)
  | _ => none
def tupleD : D → Option D
  | .lst ds => some (.tup ds)
  | .tup ds => some (.tup ds)
  | _ => none
def absD : D → Option D
  | .int i => some (.int (if i < 0 then -i else i))
  | _ => none
def maxI := gI fun i j => .int (if j > i then j else i)
def minI := gI fun i j => .int (if j < i then j else i)
def intD : D → Option D
  | .int i => some (.int i)
  | .bl b => some (.int (if b then 1 else 0))
  | _ => none
def strI : D → Option D
  | .int i => if decide (i.natAbs.log2 < 1920) then some (.str (toString i)) else none
  | _ => none
def blsD : List D → Option (List Bool)
  | [] => some []
  | .bl b :: r => (blsD r).map (b :: ·)
  | _ => none
def intsD : List D → Option (List Int)
  | [] => some []
  | .int b :: r => (intsD r).map (b :: ·)
  | _ => none
def strsD : List D → Option (List Str)
  | [] => some []
  | .str b :: r => (strsD r).map (b :: ·)
  | _ => none
section
variable {K : Fr} {F : Hp}
theorem bls_rep : ∀ {ds : List D} {vs : List V} {bs : List Bool}, RepL K F vs ds → blsD ds = some bs → vs = bs.map V.bl
  | [], _, _, .nil, h => by cases h; rfl
  | .bl b :: r, _, bs, .cons (.bl _) t, h => by
    have h : (blsD r).map (b :: ·) = some bs := h
    cases e : blsD r with
    | none => rw [e] at h; cases h
    | some cs =>
      rw [e] at h
      cases h
      rw [bls_rep t e]
      rfl
theorem ints_rep : ∀ {ds : List D} {vs : List V} {bs : List Int}, RepL K F vs ds → intsD ds = some bs → vs = bs.map V.int
  | [], _, _, .nil, h => by cases h; rfl
  | .int b :: r, _, bs, .cons (.int _) t, h => by
    have h : (intsD r).map (b :: ·) = some bs := h
    cases e : intsD r with
    | none => rw [e] at h; cases h
    | some cs =>
      rw [e] at h
      cases h
      rw [ints_rep t e]
      rfl
theorem strs_rep : ∀ {ds : List D} {vs : List V} {bs : List Str}, RepL K F vs ds → strsD ds = some bs → vs = bs.map V.str
  | [], _, _, .nil, h => by cases h; rfl
  | .str b :: r, _, bs, .cons (.str _) t, h => by
    have h : (strsD r).map (b :: ·) = some bs := h
    cases e : strsD r with
    | none => rw [e] at h; cases h
    | some cs =>
      rw [e] at h
      cases h
      rw [strs_rep t e]
      rfl
end
def allD : D → Option D
  | .lst ds => (blsD ds).map fun bs => .bl (bs.all id)
  | _ => none
def anyD : D → Option D
  | .lst ds => (blsD ds).map fun bs => .bl (bs.any id)
  | _ => none
def sumD : D → Option D
  | .lst ds => (intsD ds).map fun bs => .int bs.sum
  | _ => none
section
variable {K : Fr} {k : Kd}
theorem ok_len : COk K k (fun xs H Q => ∃ x n, xs = [x] ∧ LenV K x H n ∧ Q (.int (n : Nat)) H) lenD := by
  intro ρ F H S Q XQ x a r ha h
  cases ha with
  | lst hx l => exact ⟨_, _, rfl, .inl ⟨_, SqL.of hx, rfl⟩, by rw [l.length]; exact h.sc r rfl⟩
  | tup hx l => exact ⟨_, _, rfl, .inr ⟨_, hx, rfl⟩, by rw [l.length]; exact h.sc r rfl⟩
  | scr hx => exact ⟨_, _, rfl, .inl ⟨_, hx, rfl⟩, by rw [List.length_map]; exact h.sc r rfl⟩
  | str z =>
    by_cases hz : sz z.length = true
    · rw [show lenD (.str z) = _ from if_pos hz] at h
      exact ⟨_, _, rfl, ⟨sz_line hz, rfl⟩, h.sc r rfl⟩
    · rw [show lenD (.str z) = _ from if_neg hz] at h
      exact False.elim h
  | _ => exact False.elim h
theorem ok_list : COk K .own (fun xs H Q => ∃ p ys, xs = [.ref p] ∧ (SqL K H p ys ∨ SqT K H p ys) ∧ ∀ l, H l = none → Q (.ref l) (upd H l (.lst ys))) listD := by
  intro ρ F H S Q XQ x a r ha h
  cases ha with
  | lst hx l => exact ⟨_, _, rfl, .inl (SqL.of hx), fun p hp => h.alloc r hp (.lst upd_same l)⟩
  | scr hx => exact ⟨_, _, rfl, .inl hx, fun p hp => h.alloc r hp (.lst upd_same (ints_repl _))⟩
  | tup hx l => exact ⟨_, _, rfl, .inr hx, fun p hp => h.alloc r hp (.lst upd_same l)⟩
  | _ => exact False.elim h
theorem ok_tuple : COkF K .frz (fun xs H Q => ∃ p ys, xs = [.ref p] ∧ ((SqL K H p ys ∧ ∀ l, H l = none → Q (.ref l) (upd H l (.tup ys))) ∨ (SqT K H p ys ∧ Q (.ref p) H))) tupleD := by
  intro ρ F H S Q XQ x a r ha ta h
  cases ha with
  | lst hx l => exact ⟨_, _, rfl, .inl ⟨SqL.of hx, fun p hp => h.allocF r hp (.tup (.inl (.inl upd_same)) l)⟩⟩
  | tup hx0 l0 =>
    have t := ta rfl
    cases t with
    | tup hx l => exact ⟨_, _, rfl, .inr ⟨sqT_sub r.sub hx, Wg.give h r (.tup hx l)⟩⟩
  | _ => exact False.elim h
theorem ok_tupleB : COk K .frz (fun xs H Q => ∃ p ys, xs = [.ref p] ∧ ((SqL K H p ys ∧ ∀ l, H l = none → Q (.ref l) (upd H l (.tup ys))) ∨ (SqT K H p ys ∧ Q (.ref p) H))) (fun d => match d with | .lst ds => some (.tup ds) | _ => none) := by
  intro ρ F H S Q XQ x a r ha h
  cases ha with
  | lst hx l => exact ⟨_, _, rfl, .inl ⟨SqL.of hx, fun p hp => h.allocF r hp (.tup (.inl (.inl upd_same)) l)⟩⟩
  | _ => exact False.elim h
theorem ok_abs : COk K k (fun xs H Q => ∃ i : Int, xs = [.int i] ∧ Q (.int (if i < 0 then -i else i)) H) absD := by
  intro ρ F H S Q XQ x a r ha h
  cases ha with
  | int i => exact ⟨_, rfl, h.sc r rfl⟩
  | _ => exact False.elim h
theorem ok_max2 : COk2 K k (fun xs H Q => ∃ i j : Int, xs = [.int i, .int j] ∧ Q (.int (if j > i then j else i)) H) maxI := by
  intro ρ F H S Q XQ x y a b r ha hb h
  cases ha with
  | int i =>
    cases hb with
    | int j => exact ⟨_, _, rfl, h.sc r rfl⟩
    | _ => exact False.elim h
  | _ => exact False.elim h
theorem ok_min2 : COk2 K k (fun xs H Q => ∃ i j : Int, xs = [.int i, .int j] ∧ Q (.int (if j < i then j else i)) H) minI := by
  intro ρ F H S Q XQ x y a b r ha hb h
  cases ha with
  | int i =>
    cases hb with
    | int j => exact ⟨_, _, rfl, h.sc r rfl⟩
    | _ => exact False.elim h
  | _ => exact False.elim h
theorem ok_int : COk K k (fun xs H Q => (∃ i, xs = [.int i] ∧ Q (.int i) H) ∨ ∃ k : Bool, xs = [.bl k] ∧ Q (.int (if k then 1 else 0)) H) intD := by
  intro ρ F H S Q XQ x a r ha h
  cases ha with
  | int i => exact .inl ⟨_, rfl, h.sc r rfl⟩
  | bl b => exact .inr ⟨_, rfl, h.sc r rfl⟩
  | _ => exact False.elim h
theorem ok_strI : COk K k (fun xs H Q => ∃ i : Int, xs = [.int i] ∧ i.natAbs.log2 < 1920 ∧ Q (.str (toString i)) H) strI := by
  intro ρ F H S Q XQ x a r ha h
  cases ha with
  | int i =>
    by_cases hz : decide (i.natAbs.log2 < 1920) = true
    · rw [show strI (.int i) = _ from if_pos hz] at h
      exact ⟨_, rfl, of_decide_eq_true hz, h.sc r rfl⟩
    · rw [show strI (.int i) = _ from if_neg hz] at h
      exact False.elim h
  | _ => exact False.elim h
theorem ok_all : COk K k (rAll K) allD := by
  intro ρ F H S Q XQ x a r ha h
  cases ha with
  | lst hx l =>
    rename_i ad vs ds
    cases e : blsD ds with
    | none => rw [show allD (.lst ds) = none by show (blsD ds).map _ = _; rw [e]; rfl] at h; exact False.elim h
    | some bs =>
      rw [show allD (.lst ds) = some (.bl (bs.all id)) by show (blsD ds).map _ = _; rw [e]; rfl] at h
      have e2 := bls_rep l e
      subst e2
      exact ⟨_, bs, rfl, SqL.of hx, h.sc r rfl⟩
  | _ => exact False.elim h
theorem ok_any : COk K k (rAny K) anyD := by
  intro ρ F H S Q XQ x a r ha h
  cases ha with
  | lst hx l =>
    rename_i ad vs ds
    cases e : blsD ds with
    | none => rw [show anyD (.lst ds) = none by show (blsD ds).map _ = _; rw [e]; rfl] at h; exact False.elim h
    | some bs =>
      rw [show anyD (.lst ds) = some (.bl (bs.any id)) by show (blsD ds).map _ = _; rw [e]; rfl] at h
      have e2 := bls_rep l e
      subst e2
      exact ⟨_, bs, rfl, SqL.of hx, h.sc r rfl⟩
  | _ => exact False.elim h
theorem ok_sum : COk K k (rSum K) sumD := by
  intro ρ F H S Q XQ x a r ha h
  cases ha with
  | lst hx l =>
    rename_i ad vs ds
    cases e : intsD ds with
    | none => rw [show sumD (.lst ds) = none by show (intsD ds).map _ = _; rw [e]; rfl] at h; exact False.elim h
    | some bs =>
      rw [show sumD (.lst ds) = some (.int bs.sum) by show (intsD ds).map _ = _; rw [e]; rfl] at h
      have e2 := ints_rep l e
      subst e2
      exact ⟨_, bs, rfl, SqL.of hx, h.sc r rfl⟩
  | _ => exact False.elim h
end

/-! ### data for ==, repr -/
mutual
def D.py : D → PyData
  | .non => .none
  | .bl b => .bool b
  | .int i => .int i
  | .str x => .str x
  | .lst xs => .list (pyL xs)
  | .tup xs => .tuple (pyL xs)
  | .dK _ => .dict []
  | .ob _ _ => .dict []
  | .scr _ => .dict []
  | .cel _ => .dict []
def pyL : List D → List PyData
  | [] => []
  | x :: xs => x.py :: pyL xs
end
mutual
theorem Rep.dp {K : Fr} {F H : Hp} (s : Sub F H) : ∀ {v : V} {d : D}, Rep K F v d → d.py.canLay0 = true → Dp K H v d.py
  | _, _, .non, _ => .non
  | _, _, .bl b, _ => .bl b
  | _, _, .int i, _ => .int i
  | _, _, .str x, _ => .str x
  | _, _, .lst h r, c => by
    rcases s.of _ _ rfl h with h | ⟨_, _, z, _⟩
    · exact .lst (SqL.of h) (RepL.dp s r c)
    · cases z
  | _, _, .tup h r, c => .tup (sqT_sub s h) (RepL.dp s r c)
  | _, _, .dK h k r, c => by cases c
  | _, _, .ob h k r, c => by cases c
  | _, _, .scr h, c => by cases c
  | _, _, .cel h, c => by cases c
theorem RepL.dp {K : Fr} {F H : Hp} (s : Sub F H) : ∀ {vs : List V} {ds : List D}, RepL K F vs ds → PyData.canLayAll0 (pyL ds) = true → DpAll K H vs (pyL ds)
  | _, _, .nil, _ => .nil
  | _, _, .cons h r, c => by
    obtain ⟨c1, c2⟩ := Bool.and_eq_true_iff.mp (show (_ && _) = true from c)
    exact .cons (Rep.dp s h c1) (RepL.dp s r c2)
end
theorem RepT.dp {K : Fr} {F H : Hp} {v : V} {d : D} (s : Sub F H) (t : RepT K F H v d) (c : d.py.canLay0 = true) : Dp K H v d.py := by
  cases t with
  | non => exact .non
  | bl b => exact .bl b
  | int i => exact .int i
  | str x => exact .str x
  | lst h r => exact .lst (SqL.of h) (r.dp s c)
  | tup h r => exact .tup h (r.dp s c)
  | dK h k r => cases c
  | ob h k r => cases c
  | scr h => cases c
  | cel h => cases c
def eqG (neg : Bool) (x y : D) : Option D := if SeqAt.shaped x.py && SeqAt.shaped y.py then some (.bl (if neg then !PyData.eqv x.py y.py else PyData.eqv x.py y.py)) else none
section
variable {K : Fr} {k : Kd}
theorem ok_eq : OpOk K k (rEqD K) (eqG false) := by
  intro ρ F H S Q XQ x y a b r ha hb h
  unfold eqG at h
  split at h
  · rename_i c
    obtain ⟨c1, c2⟩ := Bool.and_eq_true_iff.mp c
    exact ⟨_, _, ha.dp r.sub (SeqAt.canLay_of_shaped c1), hb.dp r.sub (SeqAt.canLay_of_shaped c2), c1, c2, h.sc r rfl⟩
  · exact False.elim h
theorem ok_ne : OpOk K k (rNeD K) (eqG true) := by
  intro ρ F H S Q XQ x y a b r ha hb h
  unfold eqG at h
  split at h
  · rename_i c
    obtain ⟨c1, c2⟩ := Bool.and_eq_true_iff.mp c
    exact ⟨_, _, ha.dp r.sub (SeqAt.canLay_of_shaped c1), hb.dp r.sub (SeqAt.canLay_of_shaped c2), c1, c2, h.sc r rfl⟩
  · exact False.elim h
end
/-- x in xs: all flat -/
def flatD : D → Bool
  | .non => true | .bl _ => true | .int _ => true | .str _ => true
  | _ => false
def eqF : D → D → Bool
  | .int i, .int j => i == j
  | .int i, .bl b => i == (if b then 1 else 0)
  | .bl b, .int i => (if b then 1 else 0) == i
  | .bl a, .bl b => a == b
  | .str x, .str y => x == y
  | .non, .non => true
  | _, _ => false
theorem sv_flat {d : D} (h : flatD d = true) : ∃ v, sv d = some v ∧ flatV v = true ∧ ∀ {K : Fr} {F : Hp} {u : V}, Rep K F u d → u = v := by
  cases d with
  | non => exact ⟨_, rfl, rfl, fun h => by cases h; rfl⟩
  | bl b => exact ⟨_, rfl, rfl, fun h => by cases h; rfl⟩
  | int i => exact ⟨_, rfl, rfl, fun h => by cases h; rfl⟩
  | str x => exact ⟨_, rfl, rfl, fun h => by cases h; rfl⟩
  | _ => cases h
theorem eqF_V {K : Fr} {F G : Hp} {x y : V} {a b : D} (ha : Rep K F x a) (hb : Rep K G y b) (fa : flatD a = true) (fb : flatD b = true) : eqV x y = eqF a b := by
  cases ha with
  | non => cases hb <;> first | rfl | cases fb
  | bl _ => cases hb <;> first | rfl | cases fb
  | int _ => cases hb <;> first | rfl | cases fb
  | str _ => cases hb <;> first | rfl | cases fb
  | _ => cases fa
theorem flat_rep {K : Fr} {F : Hp} {x : V} {a : D} (ha : Rep K F x a) (fa : flatD a = true) : flatV x = true := by
  cases ha <;> first | rfl | cases fa
theorem flats_rep {K : Fr} {F : Hp} : ∀ {xs : List V} {ds : List D}, RepL K F xs ds → ds.all flatD = true → xs.all flatV = true
  | _, _, .nil, _ => rfl
  | _, _, .cons h r, f => by
    obtain ⟨f1, f2⟩ := Bool.and_eq_true_iff.mp (show (_ && _) = true from f)
    show (_ && _) = true
    rw [flat_rep h f1]
    exact flats_rep r f2
theorem inV_rep {K : Fr} {F G : Hp} {x : V} {a : D} (ha : Rep K G x a) (fa : flatD a = true) : ∀ {xs : List V} {ds : List D}, RepL K F xs ds → ds.all flatD = true → inV x xs = ds.any fun y => eqF y a
  | _, _, .nil, _ => rfl
  | _, _, .cons h r, f => by
    obtain ⟨f1, f2⟩ := Bool.and_eq_true_iff.mp (show (_ && _) = true from f)
    show (eqV _ x || inV x _) = (eqF _ a || _)
    rw [eqF_V h ha f1 fa, inV_rep ha fa r f2]
/-- x in a list or tuple of flat things -/
def inG (neg : Bool) (x y : D) : Option D := match y with
  | .lst ds => if flatD x && ds.all flatD then some (.bl (if neg then !ds.any (fun z => eqF z x) else ds.any (fun z => eqF z x))) else none
  | .tup ds => if flatD x && ds.all flatD then some (.bl (if neg then !ds.any (fun z => eqF z x) else ds.any (fun z => eqF z x))) else none
  | _ => none
theorem RepT.flat1 {K : Fr} {F H : Hp} {x : V} {a : D} (t : RepT K F H x a) (f : flatD a = true) : Rep K F x a := by
  cases t with
  | non => exact .non
  | bl b => exact .bl b
  | int i => exact .int i
  | str x => exact .str x
  | _ => cases f
theorem ok_in {K : Fr} {k : Kd} {neg : Bool} : OpOk K k (rIn K neg) (inG neg) := by
  intro ρ F H S Q XQ x y a b r ha hb h
  unfold inG at h
  cases hb with
  | lst hx l =>
    dsimp only at h
    split at h
    · rename_i c
      obtain ⟨c1, c2⟩ := Bool.and_eq_true_iff.mp c
      have ra := ha.flat1 c1
      exact ⟨_, _, rfl, .inl (SqL.of hx), flat_rep ra c1, flats_rep l c2, by rw [inV_rep ra c1 l c2]; exact h.sc r rfl⟩
    · exact False.elim h
  | tup hx l =>
    dsimp only at h
    split at h
    · rename_i c
      obtain ⟨c1, c2⟩ := Bool.and_eq_true_iff.mp c
      have ra := ha.flat1 c1
      exact ⟨_, _, rfl, .inr hx, flat_rep ra c1, flats_rep l c2, by rw [inV_rep ra c1 l c2]; exact h.sc r rfl⟩
    · exact False.elim h
  | _ => exact False.elim h
theorem ok_inS {K : Fr} {k : Kd} : OpOk K k (fun x y H Q => ∃ i j, x = V.str i ∧ y = V.str j ∧ Q (.bl (!(Builtin.Str.occurrences j i 0 j.length 1).isEmpty)) H) (inS false) := by
  intro ρ F H S Q XQ x y a b r ha hb h
  cases ha with
  | str i =>
    cases hb with
    | str j => exact ⟨i, j, rfl, rfl, h.sc r rfl⟩
    | _ => exact False.elim h
  | _ => exact False.elim h
theorem ok_ninS {K : Fr} {k : Kd} : OpOk K k (fun x y H Q => ∃ i j, x = V.str i ∧ y = V.str j ∧ Q (.bl (!(!(Builtin.Str.occurrences j i 0 j.length 1).isEmpty))) H) (inS true) := by
  intro ρ F H S Q XQ x y a b r ha hb h
  cases ha with
  | str i =>
    cases hb with
    | str j => exact ⟨i, j, rfl, rfl, h.sc r rfl⟩
    | _ => exact False.elim h
  | _ => exact False.elim h

/-! ### repr -/
def rRepr (K : Fr) : List V → Hp → VK → Prop := fun xs H Q => ∃ a d, xs = [.ref a] ∧ Dp K H (.ref a) d ∧ SeqAt.shaped d = true ∧ d.showable = true ∧ d.shown.length ≤ sizeLine ∧ Q (.str d.shown) H
theorem call_repr {X : Cx} (hg : X.A.guards = some []) (hu : X.A.units + 66 < cLine) : CallR X (.builtin "repr") (rRepr X.K) := by
  intro pins s σ H xs us Q I r h
  obtain ⟨a, d, rfl, hd, hs, hw, hz, q⟩ := h
  obtain ⟨u, rfl, ru⟩ := vals1 r
  have hc := SeqAt.canLay_of_shaped hs
  have hdp := SeqAt.depth_of_shaped hs
  obtain ⟨as, rd⟩ := Dp.reads I d _ u hd ru
  cases ru
  exact PySem.repr_of_reads' rd hw (fun z => by rw [PyData.hasDict_of_canLay d hc] at z; cases z) hg (by omega) (fun _ _ e => e) (fun h' t tk hk => ⟨.str d.shown, H, I.kept (t' := tk) hk, ⟨t, rfl⟩, q⟩) hz
def isSeq : D → Bool
  | .lst _ => true | .tup _ => true
  | _ => false
def reprD (d : D) : Option D := if isSeq d && SeqAt.shaped d.py && d.py.showable && sz d.py.shown.length then some (.str d.py.shown) else none
theorem ok_repr {K : Fr} {k : Kd} : COk K k (rRepr K) reprD := by
  intro ρ F H S Q XQ x a r ha h
  unfold reprD at h
  split at h
  · rename_i c
    obtain ⟨c12, c3⟩ := Bool.and_eq_true_iff.mp c
    obtain ⟨c01, c2⟩ := Bool.and_eq_true_iff.mp c12
    obtain ⟨c0, c1⟩ := Bool.and_eq_true_iff.mp c01
    have e : ∃ p, x = .ref p := by
      cases ha <;> first | exact ⟨_, rfl⟩ | cases c0
    obtain ⟨p, rfl⟩ := e
    exact ⟨p, _, rfl, ha.dp r.sub (SeqAt.canLay_of_shaped c1), c1, c2, sz_line c3, h.sc r rfl⟩
  · exact False.elim h
end Fw

set_option  maxHeartbeats 4000000
/-! Fw: calls of defs, statements, bodies -/
namespace Fw
open PySem L2 PySem.Spec PyProof.Rows

/-! ### a def that may be called -/
structure Cal (P : Program) (w : World) (K : Fr) (mg : Str → Option Value) (base : Heap) (k : Nat) (f : Addr) (sp : Sp) : Prop where
  run : ∀ (A : Around) (outer : List PySem.Env) (s : Shared) (H : Hp) (us : List Value) (vs : List V) (Q : VK) (E : XK), Room k A → A.guards = some [] → Env0 P w K mg base A outer s H → Vals vs us → sp vs H Q E →
    codeAny (model P w) A (.call (.ref f) ⟨us, []⟩) (CR (L2.CX P w) outer P w H s Q E) s
theorem Cal.mono {P : Program} {w : World} {K : Fr} {mg : Str → Option Value} {base : Heap} {j k : Nat} {f : Addr} {sp : Sp} (c : Cal P w K mg base j f sp) (h : j ≤ k) : Cal P w K mg base k f sp :=
  ⟨fun A outer s H us vs Q E hr => c.run A outer s H us vs Q E (hr.mono h)⟩
theorem Cal.imp {P : Program} {w : World} {K : Fr} {mg : Str → Option Value} {base : Heap} {k : Nat} {f : Addr} {sp sp' : Sp} (c : Cal P w K mg base k f sp) (h : ∀ vs H Q E, sp' vs H Q E → sp vs H Q E) : Cal P w K mg base k f sp' :=
  ⟨fun A outer s H us vs Q E hr hg he hv hs => c.run A outer s H us vs Q E hr hg he hv (h _ _ _ _ hs)⟩
section
variable {X : Cx} {w : WX} {k : Nat} {f C : Addr} {sp : Sp} {x m : Str} {p pos apos : Pos} {e o : Expr} {es : List Expr} {ta : TE} {t : TA}
theorem run_cal {pins : List (Addr × Obj)} {σ : L2.St} {H : Hp} {s : Shared} {Q : VK} {us : List Value} {vs : List V} (F : Cal X.prog X.w X.K X.mg X.base k f sp) (hr : Room k X.A) (hgd : X.A.guards = some []) (tk : Takes X w)
    (I : Inv X pins σ H s) (r : Vals vs us) (h : sp vs H Q fun cls dd H' => w cls dd σ H') : wpAny (model X.prog X.w) X.A (call (.ref f) us) (EP X pins σ Q) X.xe s := by
  refine wpAny_call (codeAny_mono (F.run X.A X.stack s H us vs Q _ hr hgd I.env0 r h) fun r s' hq => ?_)
  cases r with
  | error e => exact tk e s' (XE.of_call I (fun _ _ _ z => z) hq)
  | ok fl =>
    cases fl with
    | ret u => exact I.after hq
    | next => exact False.elim hq
    | brk => exact False.elim hq
    | cont => exact False.elim hq
def tCl (sp : Sp) (w : WX) (t : TA) : TE := fun σ H Q => t σ H fun vs H1 => sp vs H1 Q fun cls dd H' => w cls dd σ H'
theorem pe_cl (F : Cal X.prog X.w X.K X.mg X.base k f sp) (hr : Room k X.A) (hgd : X.A.guards = some []) (tk : Takes X w) (hg : Gl X x) (hm : X.mg x = some (.ref f)) (hk : PySem.W.keepIn X.K (.ref f) = true) (ha : PA X (e :: es) t)
    (hdb : (x == ("__debug__" : Str)) = false := by decide) (he : starEach (e :: es) X.env = (false, eval e X.env) :: starEach es X.env := by rfl) (hpl : (backTo pos (starEach es X.env)).any (·.1) = false := by rfl) :
    PE X (.Call (.Name x p) (e :: es) [] pos) (tCl sp w t) := by
  constructor
  intro pins s σ H Q I h
  refine wpAny_Call_Name_kw (ld_glob I hg hm ?_ hdb)
  refine PySem.W.callWith_K (h₀ := X.base) I.ok.mod.kin hk (thn (ha.run pos pins s σ H _ I h) fun us s1 z => ?_) he hpl
  obtain ⟨vs, H1, I1, r, q⟩ := z
  exact ⟨I1.kIn, run_cal F hr hgd tk I1 r q⟩
theorem pe_cl0 (F : Cal X.prog X.w X.K X.mg X.base k f sp) (hr : Room k X.A) (hgd : X.A.guards = some []) (tk : Takes X w) (hg : Gl X x) (hm : X.mg x = some (.ref f)) (hk : PySem.W.keepIn X.K (.ref f) = true)
    (hdb : (x == ("__debug__" : Str)) = false := by decide) : PE X (.Call (.Name x p) [] [] pos) (tCl sp w tNil) := by
  constructor
  intro pins s σ H Q I h
  refine wpAny_Call_Name_kw (ld_glob I hg hm ?_ hdb)
  exact PySem.W.callWith_K0 I.kIn hk (run_cal (us := []) F hr hgd tk I .nil h)
/-- a method -/
def tMl (C : Addr) (m : Str) (sp : Sp) (w : WX) (ta : TE) (t : TA) : TE := fun σ H Q => ta σ H fun x H1 => ∃ a dx fs, x = .ref a ∧ H1 a = some (.ins C dx fs) ∧ fs.lookup m = none ∧ t σ H1 fun vs H2 => sp (x :: vs) H2 Q fun cls dd H' => w cls dd σ H'
theorem pe_ml {pl : Sem Bool} (he : PE X o ta) (c : Cls X.K C) (hm : Meth X.K C m f) (F : Cal X.prog X.w X.K X.mg X.base k f sp) (hr : Room k X.A) (hgd : X.A.guards = some []) (tk : Takes X w) (ha : PA X (e :: es) t)
    (hst : starEach (e :: es) X.env = (false, eval e X.env) :: starEach es X.env := by rfl) (hpl : (backTo pos (starEach es X.env)).any (·.1) = false := by rfl)
    (ht : eval (.Call (.Attribute o m apos) (e :: es) [] pos) X.env = (do
      let ov ← eval o X.env
      standAt apos.atName
      let (f, first) ← holding [ov] (getMethod ov m pl)
      callWith pos f first (backTo pos (starEach (e :: es) X.env)) (backToKw pos (keywordEach [] X.env))) := by rfl) :
    PE X (.Call (.Attribute o m apos) (e :: es) [] pos) (tMl C m sp w ta t) := by
  constructor
  intro pins s σ H Q I h
  refine PySem.W.methodCall_KW (pl := pl) (thn (he.run pins s σ H _ I h) fun u s1 z => ?_) ht
  obtain ⟨x, H1, I1, rx, a, dx, fs, ex, ea, l, q⟩ := z
  subst ex
  cases rx
  refine getmeth_ok I1 ea c hm l ?_
  refine PySem.W.callWith_K (first := [.ref a]) (h₀ := X.base) I.ok.mod.kin hm.kp (thn (ha.run pos pins s1 σ H1 _ I1 q) fun us s2 z => ?_) hst hpl
  obtain ⟨vs, H2, I2, r, q2⟩ := z
  exact ⟨I2.kIn, run_cal (us := .ref a :: us) (vs := .ref a :: vs) F hr hgd tk I2 (.cons rfl r) q2⟩
theorem pe_ml0 {pl : Sem Bool} (he : PE X o ta) (c : Cls X.K C) (hm : Meth X.K C m f) (F : Cal X.prog X.w X.K X.mg X.base k f sp) (hr : Room k X.A) (hgd : X.A.guards = some []) (tk : Takes X w)
    (ht : eval (.Call (.Attribute o m apos) [] [] pos) X.env = (do
      let ov ← eval o X.env
      standAt apos.atName
      let (f, first) ← holding [ov] (getMethod ov m pl)
      callWith pos f first (backTo pos (starEach [] X.env)) (backToKw pos (keywordEach [] X.env))) := by rfl) :
    PE X (.Call (.Attribute o m apos) [] [] pos) (tMl C m sp w ta tNil) := by
  constructor
  intro pins s σ H Q I h
  refine PySem.W.methodCall_KW (pl := pl) (thn (he.run pins s σ H _ I h) fun u s1 z => ?_) ht
  obtain ⟨x, H1, I1, rx, a, dx, fs, ex, ea, l, q⟩ := z
  subst ex
  cases rx
  refine getmeth_ok I1 ea c hm l ?_
  exact PySem.W.callWith_K0 (first := [.ref a]) I1.kIn hm.kp (run_cal (us := [.ref a]) (vs := [.ref a]) F hr hgd tk I1 (.cons rfl .nil) q)
/-- C(..) -/
def tMk (C : Addr) (sp : Sp) (w : WX) (t : TA) : TE := fun σ H Q => t σ H fun vs H1 => ∀ x dx, H1 x = none → H1 dx = none → dx ≠ x →
  sp (.ref x :: vs) (upd (upd H1 dx (.own x)) x (.ins C dx [])) (fun v H2 => v = .non ∧ Q (.ref x) H2) fun cls dd H' => w cls dd σ H'
theorem guards_make {A : Around} {C : Addr} {us : List Value} {kw : List (Str × Value)} (h : A.guards = some []) : (A.under (.builtin "type.__call__" ⟨.ref C :: us, kw⟩)).guards = some [] := by
  show pushGuards (Code.guards (.builtin "type.__call__" ⟨.ref C :: us, kw⟩)) A.guards = some []
  rw [h]
  first | rfl | simp [pushGuards, Code.guards, Code.isGuard, guardIds]
theorem run_mk {pins : List (Addr × Obj)} {σ : L2.St} {H : Hp} {s : Shared} {Q : VK} {us : List Value} {vs : List V} (M : Mk X.K C f) (F : Cal X.prog X.w X.K X.mg X.base k f sp) (hr : Room (k + 1) X.A) (hgd : X.A.guards = some []) (tk : Takes X w)
    (I : Inv X pins σ H s) (r : Vals vs us)
    (h : ∀ x dx, H x = none → H dx = none → dx ≠ x → sp (.ref x :: vs) (upd (upd H dx (.own x)) x (.ins C dx [])) (fun v H2 => v = .non ∧ Q (.ref x) H2) fun cls dd H' => w cls dd σ H') :
    wpAny (model X.prog X.w) X.A (call (.ref C) us) (EP X pins σ Q) X.xe s := by
  have q := h (s.heap.objs.size + 1) s.heap.objs.size (I.hok.fresh (Nat.le_succ _)) (I.hok.fresh (Nat.le_refl _)) (Nat.ne_of_lt (Nat.lt_succ_self _))
  have I2 := Inv.made (C := C) I
  have r2 : Vals (V.ref (s.heap.objs.size + 1) :: vs) (Value.ref (s.heap.objs.size + 1) :: us) := .cons rfl r
  refine wpAny_call (make_map (f := f) I.kIn M.makes M.init (beq_iff_eq.mp M.fn) (codeAny_mono (F.run _ X.stack _ _ (Value.ref (s.heap.objs.size + 1) :: us) _ _ _ (hr.make C us []) (guards_make hgd) (I2.env0.make C us []) r2 q) fun rs s' hq => ?_))
  cases rs with
  | error e => exact tk e s' (XE.of_call I2 (fun _ _ _ z => z) hq)
  | ok fl =>
    cases fl with
    | ret u =>
      obtain ⟨v, H', I3, rv, ev, q3⟩ := I2.after hq
      subst ev
      exact ⟨rv, ⟨V.ref (s.heap.objs.size + 1), H', I3, rfl, q3⟩⟩
    | next => exact False.elim hq
    | brk => exact False.elim hq
    | cont => exact False.elim hq
theorem pe_mk (M : Mk X.K C f) (F : Cal X.prog X.w X.K X.mg X.base k f sp) (hr : Room (k + 1) X.A) (hgd : X.A.guards = some []) (tk : Takes X w) (hg : Gl X x) (hm : X.mg x = some (.ref C)) (ha : PA X (e :: es) t)
    (hdb : (x == ("__debug__" : Str)) = false := by decide) (he : starEach (e :: es) X.env = (false, eval e X.env) :: starEach es X.env := by rfl) (hpl : (backTo pos (starEach es X.env)).any (·.1) = false := by rfl) :
    PE X (.Call (.Name x p) (e :: es) [] pos) (tMk C sp w t) := by
  constructor
  intro pins s σ H Q I h
  refine wpAny_Call_Name_kw (ld_glob I hg hm ?_ hdb)
  refine PySem.W.callWith_K (h₀ := X.base) I.ok.mod.kin M.kp (thn (ha.run pos pins s σ H _ I h) fun us s1 z => ?_) he hpl
  obtain ⟨vs, H1, I1, r, q⟩ := z
  exact ⟨I1.kIn, run_mk M F hr hgd tk I1 r q⟩
end
/-- a def of the text keeps its promise: by its body -/
theorem cal_of {P : Program} {w : World} {K : Fr} {mg : Str → Option Value} {base : Heap} {x qual : Str} {st : Stmt} {f : Addr} {fd : FuncData} {N ps : List Str} {k : Nat} {sp : Sp} (F : L2.Fun K x qual st f fd) (S : FnScope N ps (defScope st)) (hb : Binds K fd ps [])
    (len : ∀ vs H Q E, sp vs H Q E → vs.length = ps.length)
    (hbody : ∀ (cdv : Value) (A : Around) (outer : List PySem.Env) (s : Shared) (H : Hp) (vs : List V) (Q : VK) (E : XK), Room k (A.deeper (envOfC qual (defScope st) s.heap.objs.size f cdv)) → A.guards = some [] → sp vs H Q E →
      ∃ t, PSs (cxOf (L2.CX P w) P w K mg base N qual (defScope st) f cdv A outer s H E) (defBody st) t ∧ t { nx := fun _ H' => Q .non H', rt := Q } (start N vs) H) : Cal P w K mg base (k + 1) f sp := by
  constructor
  intro A outer s H us vs Q E hr hgd e0 r hsp
  obtain ⟨oc, od, kV, doc, pm, an, cdv, ct, osl, rfl, lk, hcd⟩ := F.ex
  have hl := len _ _ _ _ hsp
  have KX : K.In s.heap := e0.mod.kin.keeps fun b o z => (e0.bs b o z).1
  have lim : s.heap.NoLimit := e0.mod.nolimit.keeps fun b o z => (e0.bs b o z).1
  have hul : (us ++ []).length = ps.length := by rw [List.append_nil, ← r.length]; exact hl
  have hb' := hb s us KX hul
  rw [List.append_nil] at hb'
  have hkind : ∀ y ∈ ps.zip us, (defScope st).names.lookup y.1 = some .local ∨ ((defScope st).names.lookup y.1 = some .cell ∧ ((cellsFrom (s.heap.objs.size + 1) (defScope st).names []).lookup y.1).isSome = true) := by
    rintro ⟨n, v⟩ hy
    rcases S.par n (List.of_mem_zip hy).1 with q | q
    · exact .inl q
    · exact .inr ⟨q, PySem.W.cellsFrom_some _ _ _ (.inl q)⟩
  refine codeAny_call_function hr.depth (KX _ _ lk) rfl S.co S.gen rfl (PySem.W.codeRec_of KX hcd) (hb' _ _ _ _ ?_)
  refine wpAny_newFunctionEnv_cells S.kind hkind fun env he s1 x => ?_
  subst he
  refine ⟨lim.keeps x.toInCall.keep, codeAny_func ?_⟩
  obtain ⟨t, ht, hq⟩ := hbody cdv A outer s H vs Q E (hr.deeper _) hgd hsp
  have I : Inv (cxOf (L2.CX P w) P w K mg base N qual (defScope st) f cdv A outer s H E) [] (start N vs) H s1 := inv_start S hr.hd e0 hl r x
  have fin : ∀ {σ' : L2.St} {H' : Hp} {v : V} {u : Value} {s' : Shared}, Inv (cxOf (L2.CX P w) P w K mg base N qual (defScope st) f cdv A outer s H E) [] σ' H' s' → RelV v u → Q v H' → CE outer P w H s Q u s' := by
    intro σ' H' v u s' J rv q
    exact ⟨v, H', J.os, J.bare, J.base, J.hok, rv, q⟩
  refine wpAny_mono (ht.run [] s1 (start N vs) H _ I hq) (fun fl s' hs => ?_) fun e s' hs => hs
  cases fl with
  | next =>
    obtain ⟨σ', H', J, q⟩ := hs
    exact fin (v := V.non) (u := Value.none) J rfl q
  | ret u =>
    obtain ⟨v, σ', H', J, rv, q⟩ := hs
    exact fin J rv q
  | brk =>
    obtain ⟨_, _, _, q⟩ := hs
    exact False.elim q
  | cont =>
    obtain ⟨_, _, _, q⟩ := hs
    exact False.elim q
end Fw

set_option  maxHeartbeats 4000000
/-! Fw: promises by values; calls; statements; bodies -/
namespace Fw
open PySem L2 PySem.Spec PyProof.Rows

/-! ### arguments: frozen, or a cell's number -/
def wR1 (K : Fr) (ρ : Rho) (F : Hp) : V → W → Prop
  | v, .f d => Rep K F v d
  | v, .m n => ∃ (a : Addr) (as : List Addr), v = .ref a ∧ ρ[n]? = some as ∧ as.head? = some a
  | _, .o _ => False
  | v, .x a o => XAt K F a o v
def wR (K : Fr) : Rel (List W) (List V) := fun _ ρ F _ _ vs ws => Paired (wR1 K ρ F) vs ws
theorem wR.old {K : Fr} : (wR K).Old := ⟨fun _ h => h⟩
def PW' (X : Cx) (w : WX) (es : List Expr) (fs : E (List W)) : Prop := PA X es (tG (wR X.K) X.K w fs)
def nilW : E (List W) := fun _ S => .ok [] S
def consF (fa : E D) (fs : E (List W)) : E (List W) := bindE fa fun x => bindE fs fun xs _ S => .ok (.f x :: xs) S
def cellV (i : Nat) : E W := fun env S => match env[i]? with
  | some (some (.m n)) => .ok (.m n) S
  | _ => .no
def consM (i : Nat) (fs : E (List W)) : E (List W) := bindE (cellV i) fun x => bindE fs fun xs _ S => .ok (x :: xs) S
theorem wR1.later {K : Fr} {ρ ρ' : Rho} {F F' H H' : Hp} {S S' : Sto} {v : V} {w : W} (n : Nx ρ F H S ρ' F' H' S') (h : wR1 K ρ F v w) : wR1 K ρ' F' v w := by
  cases w with
  | f d => exact Rep.mono n.fsub h
  | m k =>
    obtain ⟨a, as, e, h1, h2⟩ := h
    obtain ⟨bs, h3, h4⟩ := n.pre k as h1
    exact ⟨a, bs, e, h3, pre_head h4 h2⟩
  | o d => exact False.elim h
  | x a o => exact XAt.mono n.fsub h
section
variable {X : Cx} {w : WX} {e : Expr} {es : List Expr} {fa : E D} {fs : E (List W)}
theorem pw_nil : PW' X w [] nilW := PA.imp pa_nil (by
  rintro σ H Q ⟨ρ, F, S, env, r, en, q⟩
  exact Wg.give (v := []) q r .nil)
theorem pw_f (ha : PD X .frz w e fa) (hr : PW' X w es fs) (hs : starEach (e :: es) X.env = (false, eval e X.env) :: starEach es X.env := by rfl) : PW' X w (e :: es) (consF fa fs) := PA.imp (pa_cons ha hr hs) (by
  rintro σ H Q ⟨ρ, F, S, env, rl, en, q⟩
  refine ⟨ρ, F, S, env, rl, en, Wg.step wR.old q fun x S1 v ρ1 F1 H1 n1 r1 k1 q1 => ?_⟩
  refine ⟨ρ1, F1, S1, env, r1, en.later n1, Wg.step wR.old q1 fun xs S2 vs ρ2 F2 H2 n2 r2 k2 q2 => ?_⟩
  exact Wg.give q2 r2 (Paired.cons (show wR1 X.K ρ2 F2 v (.f x) from Rep.mono n2.fsub k1) k2))
theorem pw_m {i : Nat} {x : Str} {pos : Pos} (hr : PW' X w es fs) (hN : X.N[i]? = some x) (hv : Vis X.env.scope x) (hs : starEach (.Name x pos :: es) X.env = (false, eval (.Name x pos) X.env) :: starEach es X.env := by rfl)
    (hd : (x == ("__debug__" : Str)) = false := by decide) (hcd : (x == ("__classdict__" : Str)) = false := by decide) : PW' X w (.Name x pos :: es) (consM i fs) := PA.imp (pa_cons (pe_var hN hv hd hcd) hr hs) (by
  rintro σ H Q ⟨ρ, F, S, env, rl, en, q⟩
  unfold consM bindE cellV at q
  split at q
  · rename_i n ee
    obtain ⟨a, as, h1, h2, h3⟩ := en.m i n ee
    refine ⟨.ref a, h1, ρ, F, S, env, rl, en, Wg.step wR.old q fun xs S2 vs ρ2 F2 H2 n2 r2 k2 q2 => ?_⟩
    exact Wg.give q2 r2 (Paired.cons (wR1.later n2 (show wR1 X.K ρ F (.ref a) (.m n) from ⟨a, as, rfl, h2, h3⟩)) k2)
  · exact False.elim q)
end

/-! ### promises -/
abbrev Fnt := List W → Sto → R D
def spF (K : Fr) (k : Kd) (g : Fnt) : Sp := fun vs H Q E => ∃ ρ F S ws, Rl K ρ F H S ∧ Paired (wR1 K ρ F) vs ws ∧ Wg (kR K k) K ρ F H S Q E (g ws S)
def callE (g : Fnt) (fs : E (List W)) : E D := bindE fs fun ws _ S => g ws S
def obOk (C : Addr) (m : Str) : D → Bool
  | .ob A fs => decide (A = C) && (fs.lookup m).isNone
  | _ => false
/-- a method of frozen things -/
def methE (C : Addr) (m : Str) (g : Fnt) (fa : E D) (fs : E (List W)) : E D := bindE fa fun x => if obOk C m x then (bindE fs fun ws _ S => g (.f x :: ws) S) else fun _ _ => .no
theorem lookup_rep {K : Fr} {F : Hp} {f : Str} : ∀ {ws : List (Str × V)} {fs : List (Str × D)}, ws.map (·.1) = fs.map (·.1) → RepL K F (ws.map (·.2)) (fs.map (·.2)) →
    (fs.lookup f = none → ws.lookup f = none) ∧ ∀ d, fs.lookup f = some d → ∃ v, ws.lookup f = some v ∧ Rep K F v d
  | [], [], _, _ => ⟨fun _ => rfl, fun d h => nomatch h⟩
  | [], _ :: _, e, _ => nomatch e
  | _ :: _, [], e, _ => nomatch e
  | (a, v) :: ws, (b, d) :: fs, e, r => by
    have e1 : a = b := (List.cons.inj e).1
    have e2 := (List.cons.inj e).2
    subst e1
    cases r with
    | cons h t =>
      obtain ⟨i1, i2⟩ := lookup_rep (f := f) e2 t
      simp only [List.lookup_cons]
      cases hb : (f == a) with
      | true =>
        refine ⟨fun z => (by cases z), fun d' z => ?_⟩
        cases z
        exact ⟨v, rfl, h⟩
      | false => exact ⟨i1, i2⟩
section
variable {X : Cx} {w : WX} {k : Kd} {g : Fnt} {n : Nat} {f C : Addr} {x m : Str} {p pos apos : Pos} {e o : Expr} {es : List Expr} {fa : E D} {fs : E (List W)}
theorem pd_call (G : Cal X.prog X.w X.K X.mg X.base n f (spF X.K k g)) (hr : Room n X.A) (hgd : X.A.guards = some []) (tk : Takes X w) (hg : Gl X x) (hm : X.mg x = some (.ref f)) (hk : PySem.W.keepIn X.K (.ref f) = true) (ha : PW' X w (e :: es) fs)
    (hdb : (x == ("__debug__" : Str)) = false := by decide) (he : starEach (e :: es) X.env = (false, eval e X.env) :: starEach es X.env := by rfl) (hpl : (backTo pos (starEach es X.env)).any (·.1) = false := by rfl) :
    PD X k w (.Call (.Name x p) (e :: es) [] pos) (callE g fs) := PE.imp (pe_cl G hr hgd tk hg hm hk ha hdb he hpl) (by
  rintro σ H Q ⟨ρ, F, S, env, rl, en, q⟩
  refine ⟨ρ, F, S, env, rl, en, Wg.step kR.old q fun ws S1 vs ρ1 F1 H1 n1 r1 k1 q1 => ?_⟩
  exact ⟨ρ1, F1, S1, ws, r1, k1, q1⟩)
theorem pd_call0 (G : Cal X.prog X.w X.K X.mg X.base n f (spF X.K k g)) (hr : Room n X.A) (hgd : X.A.guards = some []) (tk : Takes X w) (hg : Gl X x) (hm : X.mg x = some (.ref f)) (hk : PySem.W.keepIn X.K (.ref f) = true)
    (hdb : (x == ("__debug__" : Str)) = false := by decide) : PD X k w (.Call (.Name x p) [] [] pos) (callE g nilW) := PE.imp (pe_cl0 G hr hgd tk hg hm hk hdb) (by
  rintro σ H Q ⟨ρ, F, S, env, rl, en, q⟩
  exact ⟨ρ, F, S, [], rl, .nil, q⟩)
theorem meth_run {σ : L2.St} {H : Hp} {Q : VK} {t : TA} (h : tD X.K k w (methE C m g fa fs) σ H Q)
    (ht : ∀ ρ F S env H1 (R : List V → Hp → Prop), Rl X.K ρ F H1 S → En X.K ρ F H1 S σ env → Wg (wR X.K) X.K ρ F H1 S R (fun cls dd H' => w cls dd σ H') (fs env S) → t σ H1 R) :
    tMl C m (spF X.K k g) w (tD X.K .frz w fa) t σ H Q := by
  obtain ⟨ρ, F, S, env, rl, en, q⟩ := h
  refine ⟨ρ, F, S, env, rl, en, Wg.step kR.old q fun x S1 v ρ1 F1 H1 n1 r1 k1 q1 => ?_⟩
  dsimp only at q1
  by_cases hob : obOk C m x = true
  · rw [if_pos hob] at q1
    cases x with
    | ob A kvs =>
      obtain ⟨c1, c2⟩ := Bool.and_eq_true_iff.mp (show (decide (A = C) && (kvs.lookup m).isNone) = true from hob)
      have c1 := of_decide_eq_true c1
      subst c1
      have k1 : Rep X.K F1 v (.ob A kvs) := k1
      cases id k1 with
      | ob h1 h2 h3 =>
        rcases r1.sub.of _ _ rfl h1 with h1' | ⟨_, _, z, _⟩
        · refine ⟨_, _, _, rfl, h1', (lookup_rep h2 h3).1 (by simpa using c2), ht ρ1 F1 S1 env H1 _ r1 (en.later n1) ?_⟩
          refine Wg.step kR.old q1 fun ws S2 vs ρ2 F2 H2 n2 r2 k2 q2 => ?_
          exact ⟨ρ2, F2, S2, .f (.ob A kvs) :: ws, r2, .cons (Rep.mono n2.fsub k1) k2, q2⟩
        · cases z
    | _ => cases hob
  · rw [if_neg hob] at q1
    exact False.elim q1
theorem pd_meth {pl : Sem Bool} (he : PD X .frz w o fa) (c : Cls X.K C) (hm : Meth X.K C m f) (G : Cal X.prog X.w X.K X.mg X.base n f (spF X.K k g)) (hr : Room n X.A) (hgd : X.A.guards = some []) (tk : Takes X w) (ha : PW' X w (e :: es) fs)
    (hst : starEach (e :: es) X.env = (false, eval e X.env) :: starEach es X.env := by rfl) (hpl : (backTo pos (starEach es X.env)).any (·.1) = false := by rfl)
    (ht : eval (.Call (.Attribute o m apos) (e :: es) [] pos) X.env = (do
      let ov ← eval o X.env
      standAt apos.atName
      let (f, first) ← holding [ov] (getMethod ov m pl)
      callWith pos f first (backTo pos (starEach (e :: es) X.env)) (backToKw pos (keywordEach [] X.env))) := by rfl) :
    PD X k w (.Call (.Attribute o m apos) (e :: es) [] pos) (methE C m g fa fs) := PE.imp (pe_ml he c hm G hr hgd tk ha hst hpl ht) fun _ _ _ h => meth_run h fun ρ F S env H1 R r en q => ⟨ρ, F, S, env, r, en, q⟩
theorem pd_meth0 {pl : Sem Bool} (he : PD X .frz w o fa) (c : Cls X.K C) (hm : Meth X.K C m f) (G : Cal X.prog X.w X.K X.mg X.base n f (spF X.K k g)) (hr : Room n X.A) (hgd : X.A.guards = some []) (tk : Takes X w)
    (ht : eval (.Call (.Attribute o m apos) [] [] pos) X.env = (do
      let ov ← eval o X.env
      standAt apos.atName
      let (f, first) ← holding [ov] (getMethod ov m pl)
      callWith pos f first (backTo pos (starEach [] X.env)) (backToKw pos (keywordEach [] X.env))) := by rfl) :
    PD X k w (.Call (.Attribute o m apos) [] [] pos) (methE C m g fa nilW) := PE.imp (pe_ml0 he c hm G hr hgd tk ht) fun _ _ _ h => meth_run h fun ρ F S env H1 R r en q => Wg.give (v := []) q r .nil
/-- a field of a thing -/
def fldD (C : Addr) (f : Str) : D → Option D
  | .ob A fs => if decide (A = C) then fs.lookup f else none
  | _ => none
def fldE (C : Addr) (f : Str) (fa : E D) : E D := bindE fa fun x _ S => R.get ((rs S x).bind (fldD C f)) S
theorem pd_fld {f : Str} (he : PD X .bor w o fa) (c : Cls X.K C) (na : NoAttr X.K C f) (hb : attributeBase o f X.env (eval o X.env) = eval o X.env := by rfl) : PD X .frz w (.Attribute o f pos) (fldE C f fa) := PE.imp (pe_fld he hb) (by
  rintro σ H Q ⟨ρ, F, S, env, rl, en, q⟩
  refine ⟨ρ, F, S, env, rl, en, Wg.step kR.old q fun x S1 v ρ1 F1 H1 n1 r1 k1 q1 => ?_⟩
  obtain ⟨x', ex, t, q1⟩ := rs_get r1 (bor_top2 r1 k1) q1
  clear ex
  cases t with
  | ob h1 h2 h3 =>
    rename_i a0 A dx ws fs
    have q1 : Wg (kR X.K .frz) X.K ρ1 F1 H1 S1 Q (fun cls dd H' => w cls dd σ H') (R.get (if decide (A = C) then fs.lookup f else none) S1) := q1
    by_cases ea : A = C
    · subst ea
      rw [if_pos (decide_eq_true rfl)] at q1
      cases el : fs.lookup f with
      | none => rw [el] at q1; exact False.elim q1
      | some d =>
        rw [el] at q1
        obtain ⟨u, h4, h5⟩ := (lookup_rep h2 h3).2 d el
        exact ⟨_, _, _, _, u, rfl, h1, c, na, h4, Wg.give q1 r1 h5⟩
    · rw [if_neg (by simp [ea])] at q1
      exact False.elim q1
  | _ => exact False.elim q1)
end
end Fw

set_option  maxHeartbeats 4000000
/-! Fw: statements -/
namespace Fw
open PySem L2 PySem.Spec PyProof.Rows

inductive RS where
  | nx (env : Env) (S : Sto) | rt (k : Kd) (d : D) (S : Sto) | exc (x : Xn) (env : Env) (S : Sto) | no
abbrev Stm := Env → Sto → RS
/-- where the walk stands: the entry, now -/
structure At (K : Fr) (ρ0 : Rho) (F0 H0 : Hp) (S0 : Sto) (ρ : Rho) (F H : Hp) (S : Sto) (σ : L2.St) (env : Env) : Prop where
  rl : Rl K ρ F H S
  en : En K ρ F H S σ env
  nx : Nx ρ0 F0 H0 S0 ρ F H S
  new : ∀ (i : Nat) d a, env[i]? = some (some (.o d)) → σ[i]? = some (some (.ref a)) → H0 a = none
/-- what a result of a statement asks -/
def Ws (K : Fr) (ρ0 : Rho) (F0 H0 : Hp) (S0 : Sto) (w : WX) (D' : Ends) : RS → Prop
  | .nx env' S' => ∀ ρ F H σ, At K ρ0 F0 H0 S0 ρ F H S' σ env' → D'.nx σ H
  | .rt k d S' => ∀ v ρ F H, Nx ρ0 F0 H0 S0 ρ F H S' → Rl K ρ F H S' → KRel K k H0 ρ F H S' v d → D'.rt v H
  | .exc x env' S' => ∀ cls dd ρ F H σ, At K ρ0 F0 H0 S0 ρ F H S' σ env' → XRep K F H x cls dd → w cls dd σ H
  | .no => False
def tS (K : Fr) (w : WX) (fs : Stm) : TS := fun D' σ H => ∃ ρ0 F0 H0 S0 ρ F S env, At K ρ0 F0 H0 S0 ρ F H S σ env ∧ Ws K ρ0 F0 H0 S0 w D' (fs env S)
def PSt (X : Cx) (w : WX) (st : Stmt) (fs : Stm) : Prop := PS X st (tS X.K w fs)
def PSb (X : Cx) (w : WX) (sts : List Stmt) (fs : Stm) : Prop := PSs X sts (tS X.K w fs)
theorem PS.imp {X : Cx} {e : Stmt} {t t' : TS} (h : PS X e t) (i : ∀ D' σ H, t' D' σ H → t D' σ H) : PS X e t' := ⟨fun pins s σ H D' I q => h.run pins s σ H D' I (i D' σ H q)⟩
theorem PSs.imp {X : Cx} {e : List Stmt} {t t' : TS} (h : PSs X e t) (i : ∀ D' σ H, t' D' σ H → t D' σ H) : PSs X e t' := ⟨fun pins s σ H D' I q => h.run pins s σ H D' I (i D' σ H q)⟩
def skipS : Stm := fun env S => .nx env S
def RS.bind (r : RS) (k : Stm) : RS := match r with
  | .nx env S => k env S
  | .rt k d S => .rt k d S
  | .exc x env S => .exc x env S
  | .no => .no
def seqS (a b : Stm) : Stm := fun env S => (a env S).bind b
/-- an expression's result in a statement -/
def R.st {α : Type} (r : R α) (env : Env) (k : α → Sto → RS) : RS := match r with
  | .ok a S => k a S
  | .exc x S => .exc x env S
  | .no => .no
section
variable {K : Fr} {ρ0 ρ ρ' : Rho} {F0 H0 F H F' H' : Hp} {S0 S S' : Sto} {σ : L2.St} {env : Env} {w : WX} {D' : Ends}
theorem At.later (a : At K ρ0 F0 H0 S0 ρ F H S σ env) (n : Nx ρ F H S ρ' F' H' S') (r : Rl K ρ' F' H' S') : At K ρ0 F0 H0 S0 ρ' F' H' S' σ env := ⟨r, a.en.later n, a.nx.trans n, a.new⟩
theorem Ws.bind {r : RS} {k : Stm} (h : Ws K ρ0 F0 H0 S0 w D' (r.bind k)) : Ws K ρ0 F0 H0 S0 w { D' with nx := fun σ H => tS K w k D' σ H } r := by
  cases r with
  | nx env' S' => exact fun ρ F H σ a => ⟨_, _, _, _, ρ, F, S', env', a, h⟩
  | rt k d S' => exact h
  | exc x env' S' => exact h
  | no => exact h
/-- an expression evaluated ahead of a statement's rest -/
theorem Ws.step {α β : Type} {rel : Rel α β} {r : R α} {k : α → Sto → RS} {P : β → Hp → Prop} (a : At K ρ0 F0 H0 S0 ρ F H S σ env) (h : Ws K ρ0 F0 H0 S0 w D' (r.st env k))
    (st : ∀ d S1 v ρ1 F1 H1, Nx ρ F H S ρ1 F1 H1 S1 → At K ρ0 F0 H0 S0 ρ1 F1 H1 S1 σ env → rel H ρ1 F1 H1 S1 v d → Ws K ρ0 F0 H0 S0 w D' (k d S1) → P v H1) :
    Wg rel K ρ F H S P (fun cls dd H' => w cls dd σ H') r := by
  cases r with
  | ok d S1 => exact fun v ρ1 F1 H1 n1 r1 q => st d S1 v ρ1 F1 H1 n1 (a.later n1 r1) q h
  | exc x S1 => exact fun cls dd ρ1 F1 H1 n1 r1 q => h cls dd ρ1 F1 H1 σ (a.later n1 r1) q
  | no => exact False.elim h
end
section
variable {X : Cx} {w : WX} {st : Stmt} {rest sa sb : List Stmt} {fa fb : Stm} {e c : Expr} {fe : E D} {fc : E Bool} {k : Kd} {pos : Pos}
theorem ps_nil : PSb X w [] skipS := PSs.imp pss_nil (by
  rintro D' σ H ⟨ρ0, F0, H0, S0, ρ, F, S, env, a, q⟩
  exact q ρ F H σ a)
theorem ps_cons (h1 : PSt X w st fa) (h2 : PSb X w rest fb) : PSb X w (st :: rest) (seqS fa fb) := PSs.imp (pss_cons h1 h2) (by
  rintro D' σ H ⟨ρ0, F0, H0, S0, ρ, F, S, env, a, q⟩
  exact ⟨ρ0, F0, H0, S0, ρ, F, S, env, a, Ws.bind q⟩)
theorem ps_one (h1 : PSt X w st fa) : PSb X w [st] fa := pss_one h1
theorem ps_pas {pos : Pos} : PSt X w (.Pass pos) skipS := PS.imp ps_pass (by
  rintro D' σ H ⟨ρ0, F0, H0, S0, ρ, F, S, env, a, q⟩
  exact q ρ F H σ a)
/-- an expression alone -/
def dropS (fe : E D) : Stm := fun env S => (fe env S).st env fun _ S1 => .nx env S1
theorem ps_drop (he : PD X k w e fe) (hs : swapsWith e none pos.line X.env = pure false := by rfl) : PSt X w (.Expr e pos) (dropS fe) := PS.imp (ps_expr he hs) (by
  rintro D' σ H ⟨ρ0, F0, H0, S0, ρ, F, S, env, a, q⟩
  exact ⟨ρ, F, S, env, a.rl, a.en, Ws.step a q fun d S1 v ρ1 F1 H1 n1 a1 k1 q1 => q1 ρ1 F1 H1 σ a1⟩)
def retS (k : Kd) (fe : E D) : Stm := fun env S => (fe env S).st env fun d S1 => .rt k d S1
theorem ps_retF (he : PD X .frz w e fe) : PSt X w (.Return (some e) pos) (retS .frz fe) := PS.imp (L2.ps_ret he) (by
  rintro D' σ H ⟨ρ0, F0, H0, S0, ρ, F, S, env, a, q⟩
  exact ⟨ρ, F, S, env, a.rl, a.en, Ws.step a q fun d S1 v ρ1 F1 H1 n1 a1 k1 q1 => q1 v ρ1 F1 H1 a1.nx a1.rl k1⟩)
theorem ps_retO (he : PD X .own w e fe) : PSt X w (.Return (some e) pos) (retS .own fe) := PS.imp (L2.ps_ret he) (by
  rintro D' σ H ⟨ρ0, F0, H0, S0, ρ, F, S, env, a, q⟩
  exact ⟨ρ, F, S, env, a.rl, a.en, Ws.step a q fun d S1 v ρ1 F1 H1 n1 a1 k1 q1 => q1 v ρ1 F1 H1 a1.nx a1.rl ⟨k1.1, fun b z => ⟨(k1.2 b z).1, (k1.2 b z).2.1, a.nx.grow b (k1.2 b z).2.2.1, (k1.2 b z).2.2.2⟩⟩⟩)
def retNS : Stm := fun _ S => .rt .frz .non S
theorem ps_retNone : PSt X w (.Return none pos) retNS := PS.imp ps_retN (by
  rintro D' σ H ⟨ρ0, F0, H0, S0, ρ, F, S, env, a, q⟩
  exact q .non ρ F H a.nx a.rl .non)
def iffS (fc : E Bool) (fa fb : Stm) : Stm := fun env S => (fc env S).st env fun c S1 => if c then fa env S1 else fb env S1
theorem ps_iff (hc : PB X w c fc) (ha : PSb X w sa fa) (hb : PSb X w sb fb) : PSt X w (.If c sa sb pos) (iffS fc fa fb) := PS.imp (L2.ps_if hc ha hb) (by
  rintro D' σ H ⟨ρ0, F0, H0, S0, ρ, F, S, env, a, q⟩
  refine ⟨ρ, F, S, env, a.rl, a.en, Ws.step a q fun d S1 v ρ1 F1 H1 n1 a1 k1 q1 => ?_⟩
  cases k1
  cases d with
  | true => exact ⟨ρ0, F0, H0, S0, ρ1, F1, S1, env, a1, q1⟩
  | false => exact ⟨ρ0, F0, H0, S0, ρ1, F1, S1, env, a1, q1⟩)
end

/-! ### a name is stored -/
theorem get_set {α : Type} (l : List α) (i j : Nat) (x : α) : (l.set i x)[j]? = if i = j then (if i < l.length then some x else none) else l[j]? := by
  rw [List.getElem?_set]
section
variable {K : Fr} {ρ0 ρ ρ' : Rho} {F0 H0 F H F' H' : Hp} {S0 S S' : Sto} {σ : L2.St} {env : Env} {w : WX} {D' : Ends} {i : Nat} {v : V} {d : D}
theorem set_same {α : Type} {l : List α} {i : Nat} {x y : α} (h : (l.set i x)[i]? = some y) : y = x ∧ i < l.length := by
  by_cases c : i < l.length
  · rw [List.getElem?_set_self c] at h
    exact ⟨(Option.some.inj h).symm, c⟩
  · rw [List.getElem?_eq_none_iff.mpr (by rw [List.length_set]; omega)] at h
    cases h
/-- the other slots, one being overwritten by what is not its own -/
theorem En.set (e : En K ρ F H S σ env) (x : V) (y : Option W) (hf : ∀ d, y = some (.f d) → Rep K F x d) (hm : ∀ n, y = some (.m n) → ∃ (a : Addr) (as : List Addr), x = .ref a ∧ ρ[n]? = some as ∧ as.head? = some a)
    (ho : ∀ d, y = some (.o d) → ∃ a, x = .ref a ∧ RepT K F H (.ref a) d ∧ F a = none ∧ ¬ Live ρ S a ∧ (H a).isSome = true ∧ ∀ (j : Nat) d', j ≠ i → env[j]? = some (some (.o d')) → σ[j]? ≠ some (some (.ref a))) (hx : ∀ a o, y = some (.x a o) → XAt K F a o x := by intro _ _ z; cases z) : En K ρ F H S (σ.set i (some x)) (env.set i y) := by
  have get : ∀ {j : Nat} {z : W}, (env.set i y)[j]? = some (some z) → (j = i ∧ y = some z ∧ (σ.set i (some x))[j]? = some (some x)) ∨ (j ≠ i ∧ env[j]? = some (some z) ∧ (σ.set i (some x))[j]? = σ[j]?) := by
    intro j z h
    by_cases c : j = i
    · subst c
      obtain ⟨h1, h2⟩ := set_same h
      exact .inl ⟨rfl, h1.symm, by rw [List.getElem?_set_self (by rw [← e.len]; exact h2)]⟩
    · rw [List.getElem?_set_ne (Ne.symm c)] at h
      exact .inr ⟨c, h, List.getElem?_set_ne (Ne.symm c)⟩
  refine ⟨by rw [List.length_set, List.length_set]; exact e.len, fun j d h => ?_, fun j n h => ?_, fun j d h => ?_, fun j l d d' a hjl h1 h2 h3 => ?_, fun j a o h => ?_⟩
  · rcases get h with ⟨_, h1, h2⟩ | ⟨_, h1, h2⟩
    · exact ⟨x, h2, hf d h1⟩
    · obtain ⟨u, h3, h4⟩ := e.f j d h1
      exact ⟨u, h2.trans h3, h4⟩
  · rcases get h with ⟨_, h1, h2⟩ | ⟨_, h1, h2⟩
    · obtain ⟨a, as, ex, h3, h4⟩ := hm n h1
      subst ex
      exact ⟨a, as, h2, h3, h4⟩
    · obtain ⟨a, as, h3, h4, h5⟩ := e.m j n h1
      exact ⟨a, as, h2.trans h3, h4, h5⟩
  · rcases get h with ⟨_, h1, h2⟩ | ⟨_, h1, h2⟩
    · obtain ⟨a, ex, h3, h4, h5, h6, _⟩ := ho d h1
      subst ex
      exact ⟨a, h2, h3, h4, h5, h6⟩
    · obtain ⟨a, h3, h4⟩ := e.o j d h1
      exact ⟨a, h2.trans h3, h4⟩
  · rcases get h1 with ⟨c1, g1, g2⟩ | ⟨c1, g1, g2⟩
    · obtain ⟨b, ex, _, _, _, _, h6⟩ := ho d g1
      subst ex
      rw [g2] at h3
      cases h3
      rcases get h2 with ⟨c2, _, _⟩ | ⟨c2, k1, k2⟩
      · exact absurd (c1.trans c2.symm) hjl
      · rw [k2]
        exact h6 l d' c2 k1
    · rw [g2] at h3
      rcases get h2 with ⟨c2, k1, k2⟩ | ⟨c2, k1, k2⟩
      · obtain ⟨b, ex, _, _, _, _, h6⟩ := ho d' k1
        subst ex
        rw [k2]
        intro z
        cases z
        exact h6 j d c1 g1 h3
      · rw [k2]
        exact e.oo j l d d' a hjl g1 k1 h3
  · rcases get h with ⟨_, h1, h2⟩ | ⟨_, h1, h2⟩
    · exact ⟨x, h2, hx a o h1⟩
    · rw [h2]
      exact e.x j a o h1
theorem En.setF (e : En K ρ F H S σ env) (r : Rep K F v d) : En K ρ F H S (σ.set i (some v)) (env.set i (some (.f d))) :=
  e.set v _ (fun _ z => by cases z; exact r) (fun _ z => by cases z) (fun _ z => by cases z)
theorem At.setF (a : At K ρ0 F0 H0 S0 ρ F H S σ env) (r : Rep K F v d) : At K ρ0 F0 H0 S0 ρ F H S (σ.set i (some v)) (env.set i (some (.f d))) := by
  refine ⟨a.rl, a.en.setF r, a.nx, fun j e b h1 h2 => ?_⟩
  by_cases c : j = i
  · subst c
    have z := (set_same h1).1
    cases z
  · rw [List.getElem?_set_ne (Ne.symm c)] at h1 h2
    exact a.new j e b h1 h2
theorem At.setO (a : At K ρ0 F0 H0 S0 ρ F H S σ env) {b : Addr} (t : RepT K F H (.ref b) d) (h1 : F b = none) (h2 : ¬ Live ρ S b) (h3 : (H b).isSome = true) (h4 : H0 b = none) (h5 : ∀ (j : Nat) d', j ≠ i → env[j]? = some (some (.o d')) → σ[j]? ≠ some (some (.ref b))) :
    At K ρ0 F0 H0 S0 ρ F H S (σ.set i (some (.ref b))) (env.set i (some (.o d))) := by
  refine ⟨a.rl, a.en.set (.ref b) _ (fun _ z => by cases z) (fun _ z => by cases z) (fun _ z => by cases z; exact ⟨b, rfl, t, h1, h2, h3, h5⟩), a.nx, fun j e c g1 g2 => ?_⟩
  by_cases cc : j = i
  · subst cc
    obtain ⟨_, hl⟩ := set_same g2
    rw [List.getElem?_set_self hl] at g2
    cases g2
    exact h4
  · rw [List.getElem?_set_ne (Ne.symm cc)] at g1 g2
    exact a.new j e c g1 g2
end
/-- x = e, frozen; x = e, the name's own from now on -/
def setS (i : Nat) (fe : E D) : Stm := fun env S => (fe env S).st env fun d S1 => .nx (env.set i (some (.f d))) S1
def ownS (i : Nat) (fe : E D) : Stm := fun env S => (fe env S).st env fun d S1 => if isRef d then .nx (env.set i (some (.o d))) S1 else .no
where isRef : D → Bool
  | .lst _ => true | .dK _ => true | .ob _ _ => true
  | _ => false
section
variable {X : Cx} {w : WX} {e : Expr} {fe : E D} {i : Nat} {x : Str} {pos pos' : Pos}
theorem ps_setF (hN : X.N.Nodup) (hi : X.N[i]? = some x) (hx : Loc X.env.scope x) (he : PD X .frz w e fe) (hs : swapsWith e (some (.Name x pos')) pos.line X.env = pure false := by rfl) (hf : X.fn x = true ∨ X.env.scope.names.lookup x = some .local := by first | exact .inl rfl | exact .inr rfl | assumption) :
    PSt X w (.Assign [.Name x pos'] e pos) (setS i fe) := PS.imp (L2.ps_set hN hi hx he hs hf) (by
  rintro D' σ H ⟨ρ0, F0, H0, S0, ρ, F, S, env, a, q⟩
  exact ⟨ρ, F, S, env, a.rl, a.en, Ws.step a q fun d S1 v ρ1 F1 H1 n1 a1 k1 q1 => q1 ρ1 F1 H1 _ (a1.setF k1)⟩)
theorem ps_setO (hN : X.N.Nodup) (hi : X.N[i]? = some x) (hx : Loc X.env.scope x) (he : PD X .own w e fe) (hs : swapsWith e (some (.Name x pos')) pos.line X.env = pure false := by rfl) (hf : X.fn x = true ∨ X.env.scope.names.lookup x = some .local := by first | exact .inl rfl | exact .inr rfl | assumption) :
    PSt X w (.Assign [.Name x pos'] e pos) (ownS i fe) := PS.imp (L2.ps_set hN hi hx he hs hf) (by
  rintro D' σ H ⟨ρ0, F0, H0, S0, ρ, F, S, env, a, q⟩
  refine ⟨ρ, F, S, env, a.rl, a.en, Ws.step a q fun d S1 v ρ1 F1 H1 n1 a1 k1 q1 => ?_⟩
  by_cases c : ownS.isRef d = true
  · rw [if_pos c] at q1
    have ev : ∃ b, v = .ref b := by
      have t := k1.1
      cases t <;> first | exact ⟨_, rfl⟩ | cases c
    obtain ⟨b, rfl⟩ := ev
    obtain ⟨h1, h2, h3, h4⟩ := k1.2 b rfl
    refine q1 ρ1 F1 H1 _ (a1.setO k1.1 h1 h2 h4 (a.nx.grow b h3) fun j d' cj hj z => ?_)
    obtain ⟨u, g1, g2, g3, g4, g5⟩ := a.en.o j d' hj
    rw [z] at g1
    cases g1
    rw [h3] at g5
    cases g5
  · rw [if_neg c] at q1
    exact False.elim q1)
end
end Fw

set_option  maxHeartbeats 4000000
/-! Fw: bodies of defs, of methods, of __init__ -/
namespace Fw
open PySem L2 PySem.Spec PyProof.Rows

def kOk : Kd → Kd → Bool
  | .own, .own => true
  | .frz, .frz => true
  | _, _ => false
def frame (n : Nat) (ws : List W) : Env := ws.map some ++ List.replicate (n - ws.length) none
/-- what a body hands back, its cells gone -/
def bodyF (k : Kd) (n : Nat) (body : Stm) : Fnt := fun ws S => match body (frame n ws) S with
  | .nx _ S' => .ok .non (S'.take S.length)
  | .rt j d S' => if kOk k j then .ok d (S'.take S.length) else .no
  | .exc x _ S' => .exc x (S'.take S.length)
  | .no => .no
section
variable {K : Fr} {ρ0 ρ ρ' : Rho} {F0 H0 F H F' H' : Hp} {S0 S S' : Sto} {σ : L2.St} {env : Env} {w : WX} {D' : Ends}
theorem Live.take {n : Nat} {a : Addr} (h : Live (ρ.take n) (S.take n) a) : Live ρ S a := by
  obtain ⟨j, c, as, h1, h2, h3, h4⟩ := h
  rw [List.getElem?_take] at h1 h3
  split at h1
  · rename_i hj
    rw [if_pos hj] at h3
    exact ⟨j, c, as, h1, h2, h3, h4⟩
  · cases h1
theorem Rl.take (r : Rl K ρ F H S) (n : Nat) : Rl K (ρ.take n) F H (S.take n) := by
  have g : ∀ {j : Nat} {c : Cl}, (S.take n)[j]? = some c → S[j]? = some c := fun {j c} h => by
    rw [List.getElem?_take] at h
    split at h
    · exact h
    · cases h
  have g' : ∀ {j : Nat} {c : List Addr}, (ρ.take n)[j]? = some c → ρ[j]? = some c := fun {j c} h => by
    rw [List.getElem?_take] at h
    split at h
    · exact h
    · cases h
  exact ⟨by rw [List.length_take, List.length_take, r.len], r.sub, fun j c as h1 h2 h3 => r.cell j c as (g h1) h2 (g' h3), fun i j c c' as bs h h1 h2 h3 h4 h5 h6 => r.apart i j c c' as bs h (g h1) h2 (g' h3) (g h4) h5 (g' h6), r.fz, fun ds as h1 h2 => r.mks ds as (g h1) (g' h2)⟩
theorem Nx.take (a : Nx ρ F H S ρ' F' H' S') (e : ρ.length = S.length) : Nx ρ F H S (ρ'.take S.length) F' H' (S'.take S.length) := by
  refine ⟨fun j as h => ?_, a.fsub, a.keep, a.fnew, fun x l => a.cnew x l.take, a.grow⟩
  obtain ⟨bs, h1, h2⟩ := a.pre j as h
  have hj : j < S.length := by
    rw [← e]
    exact (List.getElem?_eq_some_iff.mp h).1
  exact ⟨bs, by rw [List.getElem?_take, if_pos hj]; exact h1, h2⟩
theorem KRel.take {k : Kd} {v : V} {d : D} {n : Nat} (h : KRel K k H0 ρ F H S v d) : KRel K k H0 (ρ.take n) F H (S.take n) v d := by
  cases k with
  | frz => exact h
  | bor =>
    rcases h with h | ⟨h1, h2⟩
    · exact .inl h
    · exact .inr ⟨h1, fun a e => ⟨fun l => (h2 a e).1 l.take, (h2 a e).2⟩⟩
  | own => exact ⟨h.1, fun a e => ⟨(h.2 a e).1, fun l => (h.2 a e).2.1 l.take, (h.2 a e).2.2⟩⟩
theorem frame_get {n i : Nat} {ws : List W} {x : W} (h : (frame n ws)[i]? = some (some x)) : ws[i]? = some x := by
  unfold frame at h
  by_cases c : i < ws.length
  · rw [List.getElem?_append_left (by rw [List.length_map]; exact c), List.getElem?_map] at h
    cases e : ws[i]? with
    | none => rw [e] at h; cases h
    | some y => rw [e] at h; cases h; rfl
  · rw [List.getElem?_append_right (by rw [List.length_map]; omega), List.getElem?_replicate] at h
    split at h <;> cases h
theorem Paired.get2 {α β : Type} {G : α → β → Prop} : ∀ {xs : List α} {ys : List β} {i : Nat} {y : β}, Paired G xs ys → ys[i]? = some y → ∃ x, xs[i]? = some x ∧ G x y
  | _, _, _, _, .nil, e => by simp at e
  | _, _, 0, _, .cons r _, e => by simp at e; subst e; exact ⟨_, rfl, r⟩
  | _, _, i + 1, y, .cons _ t, e => by
    obtain ⟨x, h1, h2⟩ := Paired.get2 (i := i) (y := y) t (by simpa using e)
    exact ⟨x, by simpa using h1, h2⟩
theorem start_get {N : List Str} {vs : List V} {i : Nat} {v : V} (h : vs[i]? = some v) : (L2.start N vs)[i]? = some (some v) := by
  unfold L2.start
  have hi : i < vs.length := (List.getElem?_eq_some_iff.mp h).1
  rw [List.getElem?_append_left (by rw [List.length_map]; exact hi), List.getElem?_map, h]
  rfl
theorem frame_len {N : List Str} {vs : List V} {ws : List W} (e : vs.length = ws.length) : (frame N.length ws).length = (L2.start N vs).length := by
  unfold frame L2.start
  rw [List.length_append, List.length_append, List.length_map, List.length_map, List.length_replicate, List.length_replicate, e]
theorem En.start {N : List Str} {vs : List V} {ws : List W} (p : Paired (wR1 K ρ F) vs ws) : En K ρ F H S (L2.start N vs) (frame N.length ws) := by
  refine ⟨frame_len (Paired.length p), fun i d h => ?_, fun i n h => ?_, fun i d h => ?_, fun i j d e a _ h => ?_, fun i a o h => ?_⟩
  · obtain ⟨v, h1, h2⟩ := Paired.get2 p (frame_get h)
    exact ⟨v, start_get h1, h2⟩
  · obtain ⟨v, h1, h2⟩ := Paired.get2 p (frame_get h)
    obtain ⟨a, as, e, h3, h4⟩ := h2
    subst e
    exact ⟨a, as, start_get h1, h3, h4⟩
  · obtain ⟨v, h1, h2⟩ := Paired.get2 p (frame_get h)
    exact False.elim h2
  · obtain ⟨v, h1, h2⟩ := Paired.get2 p (frame_get h)
    exact False.elim h2
  · obtain ⟨v, h1, h2⟩ := Paired.get2 p (frame_get h)
    exact ⟨v, start_get h1, h2⟩
end
theorem spF_len {K : Fr} {k : Kd} {g : Fnt} {ps : List Str} (hg : ∀ ws S, ws.length ≠ ps.length → g ws S = .no) (vs : List V) (H : Hp) (Q : VK) (E : XK) (h : spF K k g vs H Q E) : vs.length = ps.length := by
  obtain ⟨ρ, F, S, ws, r, p, q⟩ := h
  have e := Paired.length p
  by_cases c : ws.length = ps.length
  · exact e.trans c
  · rw [hg ws S c] at q
    exact False.elim q
/-- a def of m parameters -/
def defF (k : Kd) (m n : Nat) (body : Stm) : Fnt := fun ws S => if ws.length = m then bodyF k n body ws S else .no
theorem cal_def {P : Program} {w : World} {K : Fr} {mg : Str → Option Value} {base : Heap} {x qual : Str} {st : Stmt} {f : Addr} {fd : FuncData} {N ps : List Str} {lv : Nat} {k : Kd} {body : Stm} (F : L2.Fun K x qual st f fd) (Sc : FnScope N ps (defScope st)) (hb : Binds K fd ps [])
    (h : ∀ (X : Cx) (E : XK), X.prog = P → X.w = w → X.K = K → X.mg = mg → X.base = base → X.N = N → X.env.scope = defScope st → X.calm = true → Room lv X.A → X.A.guards = some [] → X.env.scope.kind = .function → (∀ x, X.fn x = true) → X.stack = X.env :: X.outer → X.env.frame = some X.env.locals → X.ex = [] →
      Takes X (fun cls d _ H' => E cls d H') → PSb X (fun cls d _ H' => E cls d H') (defBody st) body) : Cal P w K mg base (lv + 1) f (spF K k (defF k ps.length N.length body)) := by
  refine cal_of F Sc hb (spF_len fun ws S c => if_neg c) fun cdv A outer s H vs Q E hr hgd hsp => ?_
  refine ⟨_, h (cxOf (L2.CX P w) P w K mg base N qual (defScope st) f cdv A outer s H E) E rfl rfl rfl rfl rfl rfl rfl rfl hr hgd Sc.kind (fun _ => rfl) rfl rfl rfl (takes_of rfl rfl rfl rfl), ?_⟩
  obtain ⟨ρ, F', S, ws, r, p, q⟩ := hsp
  have hl : ws.length = ps.length := by
    by_cases c : ws.length = ps.length
    · exact c
    · rw [show defF k ps.length N.length body ws S = .no from if_neg c] at q
      exact False.elim q
  rw [show defF k ps.length N.length body ws S = bodyF k N.length body ws S from if_pos hl] at q
  refine ⟨ρ, F', H, S, ρ, F', S, frame N.length ws, ⟨r, En.start p, Nx.refl, fun i d a h1 _ => ?_⟩, ?_⟩
  · obtain ⟨v, _, h2⟩ := Paired.get2 p (frame_get h1)
    exact False.elim h2
  · unfold bodyF at q
    cases e : body (frame N.length ws) S with
    | nx env' S' =>
      rw [e] at q
      exact fun ρ1 F1 H1 σ a => q .non _ F1 H1 (a.nx.take r.len) (a.rl.take _) (sv_rel rfl)
    | rt j d S' =>
      rw [e] at q
      obtain ⟨c, q⟩ := if_ok q
      intro v ρ1 F1 H1 n1 r1 k1
      cases k with
      | own =>
        cases j with
        | own => exact q v _ F1 H1 (n1.take r.len) (r1.take _) (KRel.take (k := .own) k1)
        | _ => cases c
      | frz =>
        cases j with
        | own => cases c
        | frz => exact q v _ F1 H1 (n1.take r.len) (r1.take _) k1
        | bor => cases c
      | bor => cases c
    | exc x env' S' =>
      rw [e] at q
      exact fun cls dd ρ1 F1 H1 σ a x1 => q cls dd _ F1 H1 (a.nx.take r.len) (a.rl.take _) x1
    | no =>
      rw [e] at q
      exact q
end Fw

set_option  maxHeartbeats 4000000
/-! Fw: targets, walks, for, comprehensions -/
namespace Fw
open PySem L2 PySem.Spec PyProof.Rows

/-! ### targets -/
abbrev Tgt := D → Option (List (Nat × D))
def setE (env : Env) (us : List (Nat × D)) : Env := us.foldl (fun e p => e.set p.1 (some (.f p.2))) env
def setV (σ : L2.St) (ws : List (Nat × V)) : L2.St := ws.foldl (fun s p => s.set p.1 (some p.2)) σ
def Upd (K : Fr) (F : Hp) (ws : List (Nat × V)) (us : List (Nat × D)) : Prop := Paired (fun w u => w.1 = u.1 ∧ Rep K F w.2 u.2) ws us
def tT (K : Fr) (tg : Tgt) : TG := fun v σ H Q => ∃ F d us, Sub F H ∧ Rep K F v d ∧ tg d = some us ∧ ∀ ws, Upd K F ws us → Q (setV σ ws) H
def PTg (X : Cx) (e : Expr) (tg : Tgt) : Prop := PG X e (tT X.K tg)
theorem PG.imp {X : Cx} {e : Expr} {t t' : TG} (h : PG X e t) (i : ∀ v σ H Q, t' v σ H Q → t v σ H Q) : PG X e t' := ⟨fun pins s σ H v u Q I r q => h.run pins s σ H v u Q I r (i v σ H Q q)⟩
def tgN (i : Nat) : Tgt := fun d => some [(i, d)]
def tgT (is : List Nat) : Tgt := fun d => match d with
  | .tup ds => if ds.length = is.length then some (is.zip ds) else none
  | .lst ds => if ds.length = is.length then some (is.zip ds) else none
  | _ => none
/-- the slots of a target -/
def gNames : List Nat → TGs
  | [] => fun vs σ H Q => vs = [] ∧ Q σ H
  | i :: is => fun vs σ H Q => ∃ v r, vs = v :: r ∧ gNames is r (σ.set i (some v)) H Q
section
variable {X : Cx} {i : Nat} {x : Str} {pos : Pos} {es : List Expr} {is : List Nat}
theorem ptg_name (hN : X.N.Nodup) (hi : X.N[i]? = some x) (hx : Loc X.env.scope x) (hf : X.fn x = true ∨ X.env.scope.names.lookup x = some .local := by first | exact .inl rfl | exact .inr rfl | assumption) : PTg X (.Name x pos) (tgN i) := PG.imp (pg_name hN hi hx hf) (by
  rintro v σ H Q ⟨F, d, us, s, r, e, q⟩
  cases e
  exact q [(i, v)] (.cons ⟨rfl, r⟩ .nil))
theorem pns_nil : PGs X [] (gNames []) := pgs_nil
theorem pns_cons (hN : X.N.Nodup) (hi : X.N[i]? = some x) (hx : Loc X.env.scope x) (h : PGs X es (gNames is)) (hf : X.fn x = true ∨ X.env.scope.names.lookup x = some .local := by first | exact .inl rfl | exact .inr rfl | assumption) : PGs X (.Name x pos :: es) (gNames (i :: is)) := pgs_cons (pg_name hN hi hx hf) h
theorem gNames_run {K : Fr} {F : Hp} {Q : L2.St → Hp → Prop} {H : Hp} : ∀ {is : List Nat} {vs : List V} {ds : List D} {σ : L2.St}, RepL K F vs ds → vs.length = is.length → (∀ ws, Upd K F ws (is.zip ds) → Q (setV σ ws) H) → gNames is vs σ H Q
  | [], [], ds, σ, r, _, q => ⟨rfl, by cases r; exact q [] .nil⟩
  | [], _ :: _, _, _, _, e, _ => nomatch e
  | _ :: _, [], _, _, _, e, _ => nomatch e
  | i :: is, v :: vs, ds, σ, r, e, q => by
    cases r with
    | cons h t => exact ⟨v, vs, rfl, gNames_run t (by simpa using e) fun ws u => q ((i, v) :: ws) (.cons ⟨rfl, h⟩ u)⟩
theorem PG.or {X : Cx} {e : Expr} {t t' : TG} (h : PG X e t) (h' : PG X e t') : PG X e (fun v σ H Q => t v σ H Q ∨ t' v σ H Q) := ⟨fun pins s σ H v u Q I r q => q.elim (h.run pins s σ H v u Q I r) (h'.run pins s σ H v u Q I r)⟩
theorem ptg_tup {k : Nat} (hc : X.calm = true) (h : PGs X es (gNames is)) (hl : es.length = is.length) (hn : (assignEach es X.env).length = es.length := by rfl) (hst : (assignEach es X.env).findIdx? (·.1) = none := by rfl) : PTg X (.Tuple es k pos) (tgT is) := PG.imp (PG.or (pg_tup hc h hn hst) (pg_lst hc h hn hst)) (by
  rintro v σ H Q ⟨F, d, us, s, r, e, q⟩
  cases r with
  | tup hx l =>
    have e : (if _ = is.length then some (is.zip _) else none) = some us := e
    split at e
    · rename_i c
      cases e
      exact .inl ⟨_, _, rfl, sqT_sub s hx, by rw [l.length, hl]; exact c, gNames_run l (by rw [l.length]; exact c) q⟩
    · cases e
  | lst hx l =>
    have e : (if _ = is.length then some (is.zip _) else none) = some us := e
    split at e
    · rename_i c
      cases e
      exact .inr ⟨_, _, rfl, sqL_sub s (SqL.of hx), by rw [l.length, hl]; exact c, gNames_run l (by rw [l.length]; exact c) q⟩
    · cases e
  | _ => cases e)
end
section
variable {K : Fr} {ρ0 ρ : Rho} {F0 H0 F H : Hp} {S0 S : Sto} {σ : L2.St} {env : Env}
theorem At.setUs : ∀ {us : List (Nat × D)} {ws : List (Nat × V)} {σ : L2.St} {env : Env}, At K ρ0 F0 H0 S0 ρ F H S σ env → Upd K F ws us → At K ρ0 F0 H0 S0 ρ F H S (setV σ ws) (setE env us)
  | [], [], _, _, a, _ => a
  | [], _ :: _, _, _, _, u => nomatch u
  | _ :: _, [], _, _, _, u => nomatch u
  | (i, d) :: us, (j, v) :: ws, σ, env, a, .cons ⟨e, r⟩ t => by
    have e : j = i := e
    subst e
    exact (At.setUs (σ := σ.set j (some v)) (env := env.set j (some (.f d))) (a.setF r) t : At K ρ0 F0 H0 S0 ρ F H S (setV (σ.set j (some v)) ws) (setE (env.set j (some (.f d))) us))
theorem En.setUs : ∀ {us : List (Nat × D)} {ws : List (Nat × V)} {σ : L2.St} {env : Env}, En K ρ F H S σ env → Upd K F ws us → En K ρ F H S (setV σ ws) (setE env us)
  | [], [], _, _, a, _ => a
  | [], _ :: _, _, _, _, u => nomatch u
  | _ :: _, [], _, _, _, u => nomatch u
  | (i, d) :: us, (j, v) :: ws, σ, env, a, .cons ⟨e, r⟩ t => by
    have e : j = i := e
    subst e
    exact (En.setUs (σ := σ.set j (some v)) (env := env.set j (some (.f d))) (a.setF r) t : En K ρ F H S (setV (σ.set j (some v)) ws) (setE (env.set j (some (.f d))) us))
end

/-! ### what is walked -/
structure ItD (K : Fr) (J : It) (ds : List D) (F : Hp) : Prop where
  ex : ∃ (G : Hp → Prop) (Y : Nat → Hp → V → Hp → Prop), Walk J ds.length G Y ∧ (∀ F2 H2, Same F F2 → Sub F2 H2 → G H2) ∧ ∀ (i : Nat) F2 H2 x H3, i < ds.length → Same F F2 → Sub F2 H2 → Y i H2 x H3 →
    ∃ d, ds[i]? = some d ∧ ((H3 = H2 ∧ Rep K F2 x d) ∨ ∃ T vs es, x = .ref T ∧ H2 T = none ∧ H3 = upd H2 T (.tup vs) ∧ d = .tup es ∧ RepL K F2 vs es)
def iR (K : Fr) : Rel (List D) It := fun _ _ F _ _ J ds => ItD K J ds F
theorem iR.old {K : Fr} : (iR K).Old := ⟨fun _ h => h⟩
def PIt (X : Cx) (w : WX) (tg e : Expr) (fi : E (List D)) : Prop := PI X tg e (tG (iR X.K) X.K w fi)
theorem PI.imp {X : Cx} {tg e : Expr} {t t' : TI} (h : PI X tg e t) (i : ∀ σ H Q, t' σ H Q → t σ H Q) : PI X tg e t' := ⟨fun pins s σ H Q I q => h.run pins s σ H Q I (i σ H Q q)⟩
def itemsD : D → Option (List D)
  | .lst ds => some ds
  | .scr ns => some (ns.map D.int)
  | _ => none
def itemsT : D → Option (List D)
  | .tup ds => some ds
  | _ => none
def getE {α β : Type} (g : α → Option β) (fa : E α) : E β := bindE fa fun x _ S => R.get (g x) S
def rng1 (d : D) : Option (List D) := match d with
  | .int j => if decide (j.natAbs < 4611686018427387904) then some ((List.range j.toNat).map fun i => .int (i : Nat)) else none
  | _ => none
def rng2 (d e : D) : Option (List D) := match d, e with
  | .int i, .int j => if decide (i.natAbs < 4611686018427387904) && decide (j.natAbs < 4611686018427387904) then some ((List.range (j - i).toNat).map fun k => .int (i + (k : Nat))) else none
  | _, _ => none
def signsD : D → Option (List D)
  | .str z => some (z.cps.toList.map fun c => .str ⟨#[c]⟩)
  | _ => none
section
variable {X : Cx} {w : WX} {tg e a b : Expr} {fe fa fb : E D} {p pos : Pos}
theorem pit_list (he : PD X .frz w e fe) : PIt X w tg e (getE itemsD fe) := PI.imp (pi_list he) (by
  rintro σ H R ⟨ρ, F, S, env, rl, en, q⟩
  refine ⟨ρ, F, S, env, rl, en, Wg.step iR.old q fun x S1 v ρ1 F1 H1 n1 r1 k1 q1 => ?_⟩
  have k1 : Rep X.K F1 v x := k1
  cases k1 with
  | lst hx l =>
    have sub : ∀ F2 H2, Same F1 F2 → Sub F2 H2 → SqL X.K H2 _ _ := fun F2 H2 s1 s2 => by
      rcases s2.of _ _ rfl (s1 _ _ hx) with z | ⟨_, _, z, _⟩
      · exact SqL.of z
      · cases z
    refine ⟨_, rfl, ⟨_, sub F1 H1 (fun _ _ z => z) r1.sub⟩, Wg.give q1 r1 ⟨_, _, (by rw [← l.length]; exact walk_list), sub, ?_⟩⟩
    rintro i F2 H2 x H3 hi s1 s2 ⟨rfl, hy⟩
    obtain ⟨d, h1, h2⟩ := l.getV hy
    exact ⟨d, h1, .inl ⟨rfl, h2.mono s1⟩⟩
  | scr hx =>
    have sub : ∀ F2 H2, Same F1 F2 → Sub F2 H2 → SqL X.K H2 _ _ := fun F2 H2 s1 s2 => sqL_sub s2 (sqL_up (fun o => s1 _ o) hx)
    refine ⟨_, rfl, ⟨_, sub F1 H1 (fun _ _ z => z) r1.sub⟩, Wg.give q1 r1 ⟨_, _, (by rw [List.length_map, ← List.length_map (f := V.int)]; exact walk_list), sub, ?_⟩⟩
    rintro i F2 H2 x H3 hi s1 s2 ⟨rfl, hy⟩
    obtain ⟨d, h1, h2⟩ := (ints_repl _).getV hy
    exact ⟨d, h1, .inl ⟨rfl, h2.mono s1⟩⟩
  | _ => exact False.elim q1)
theorem pit_tup (he : PD X .frz w e fe) : PIt X w tg e (getE itemsT fe) := PI.imp (pi_tup he) (by
  rintro σ H R ⟨ρ, F, S, env, rl, en, q⟩
  refine ⟨ρ, F, S, env, rl, en, Wg.step iR.old q fun x S1 v ρ1 F1 H1 n1 r1 k1 q1 => ?_⟩
  have k1 : Rep X.K F1 v x := k1
  cases k1 with
  | tup hx l =>
    have sub : ∀ F2 H2, Same F1 F2 → Sub F2 H2 → SqT X.K H2 _ _ := fun F2 H2 s1 s2 => sqT_sub s2 (sqT_same s1 hx)
    refine ⟨_, rfl, ⟨_, sub F1 H1 (fun _ _ z => z) r1.sub⟩, Wg.give q1 r1 ⟨_, _, (by rw [← l.length]; exact walk_tup), sub, ?_⟩⟩
    rintro i F2 H2 x H3 hi s1 s2 ⟨rfl, hy⟩
    obtain ⟨d, h1, h2⟩ := l.getV hy
    exact ⟨d, h1, .inl ⟨rfl, h2.mono s1⟩⟩
  | _ => exact False.elim q1)
theorem pit_str (he : PD X .frz w e fe) : PIt X w tg e (getE signsD fe) := PI.imp (pi_str he) (by
  rintro σ H R ⟨ρ, F, S, env, rl, en, q⟩
  refine ⟨ρ, F, S, env, rl, en, Wg.step iR.old q fun x S1 v ρ1 F1 H1 n1 r1 k1 q1 => ?_⟩
  have k1 : Rep X.K F1 v x := k1
  cases k1 with
  | str z =>
    refine ⟨z, rfl, Wg.give q1 r1 ⟨_, _, (by rw [List.length_map, Array.length_toList]; exact walk_str), fun _ _ _ _ => trivial, ?_⟩⟩
    rintro i F2 H2 x H3 hi s1 s2 ⟨rfl, c, hc, rfl⟩
    exact ⟨.str ⟨#[c]⟩, by rw [List.getElem?_map, Array.getElem?_toList, hc]; rfl, .inl ⟨rfl, .str _⟩⟩
  | _ => exact False.elim q1)
theorem range_items {K : Fr} {lo : Int} {n : Nat} {F : Hp} (ds : List D) (e : ds = (List.range n).map fun k => D.int (lo + (k : Nat))) : ItD K (Itr lo n) ds F := by
  subst e
  refine ⟨_, _, (by rw [List.length_map, List.length_range]; exact walk_range), fun _ _ _ _ => trivial, ?_⟩
  rintro i F2 H2 x H3 hi s1 s2 ⟨rfl, rfl⟩
  rw [List.length_map, List.length_range] at hi
  exact ⟨.int (lo + (i : Nat)), by rw [List.getElem?_map, List.getElem?_range hi]; rfl, .inl ⟨rfl, .int _⟩⟩
theorem pit_range1 (hg : Gl X "range") (hm : X.mg "range" = none) (ha : PD X .bor w a fa) (hs : starEach [a] X.env = (false, eval a X.env) :: starEach [] X.env := by rfl) : PIt X w tg (.Call (.Name "range" p) [a] [] pos) (getE rng1 fa) := PI.imp (pi_range1 hg hm (pa_cons ha pa_nil hs) hs) (by
  rintro σ H R ⟨ρ, F, S, env, rl, en, q⟩
  refine ⟨ρ, F, S, env, rl, en, Wg.step iR.old q fun x S1 v ρ1 F1 H1 n1 r1 k1 q1 => ?_⟩
  have t := bor_top2 r1 k1
  cases t with
  | int j =>
    dsimp only [rng1] at q1
    split at q1
    · rename_i c
      have c := of_decide_eq_true c
      refine ⟨j, rfl, (by omega), (by omega), Wg.give q1 r1 (range_items _ ?_)⟩
      congr 1
      funext k
      rw [Int.zero_add]
    · exact False.elim q1
  | _ => exact False.elim q1)
theorem pit_range2 (hg : Gl X "range") (hm : X.mg "range" = none) (ha : PD X .bor w a fa) (hb : PD X .bor w b fb) (hs : starEach [a, b] X.env = (false, eval a X.env) :: starEach [b] X.env := by rfl) (hs2 : starEach [b] X.env = (false, eval b X.env) :: starEach [] X.env := by rfl) :
    PIt X w tg (.Call (.Name "range" p) [a, b] [] pos) (bindE fa fun x => bindE fb fun y _ S => R.get (rng2 x y) S) := PI.imp (pi_range2 hg hm (pa_cons ha (pa_cons hb pa_nil hs2) hs) (by rw [hs, hs2]; rfl) hs2) (by
  rintro σ H R ⟨ρ, F, S, env, rl, en, q⟩
  refine ⟨ρ, F, S, env, rl, en, Wg.step iR.old q fun x S1 v ρ1 F1 H1 n1 r1 k1 q1 => ?_⟩
  refine ⟨ρ1, F1, S1, env, r1, en.later n1, Wg.step iR.old q1 fun y S2 u ρ2 F2 H2 n2 r2 k2 q2 => ?_⟩
  have t := bor_top2 r2 (bor_later n2 k1)
  have t' := bor_top2 r2 k2
  cases t with
  | int i =>
    cases t' with
    | int j =>
      dsimp only [rng2] at q2
      split at q2
      · rename_i c
        simp only [Bool.and_eq_true, decide_eq_true_eq] at c
        exact ⟨i, j, rfl, ⟨(by omega), (by omega), (by omega), (by omega)⟩, Wg.give q2 r2 (range_items _ rfl)⟩
      · exact False.elim q2
    | _ => exact False.elim q2
  | _ => exact False.elim q2)
end

/-! ### for -/
section
variable {K : Fr} {ρ0 ρ ρ' : Rho} {F0 F1 H0 F H F' H' : Hp} {S0 S1 S S' : Sto} {σ : L2.St} {env : Env} {w : WX} {D' : Ends} {ρ1 : Rho} {H1 : Hp}
theorem Nx.unbase (b : Nx ρ0 F0 H0 S0 ρ1 F1 H1 S1) (n : Nx ρ0 F1 H0 S0 ρ F H S) : Nx ρ0 F0 H0 S0 ρ F H S :=
  ⟨n.pre, fun a o h => n.fsub a o (b.fsub a o h), n.keep, fun a o h => by
    rcases n.fnew a o h with ⟨o', z⟩ | z
    · exact b.fnew a o' z
    · exact .inr z, n.cnew, n.grow⟩
theorem At.unbase (b : Nx ρ0 F0 H0 S0 ρ1 F1 H1 S1) (a : At K ρ0 F1 H0 S0 ρ F H S σ env) : At K ρ0 F0 H0 S0 ρ F H S σ env := ⟨a.rl, a.en, b.unbase a.nx, a.new⟩
theorem At.rebase (a : At K ρ0 F0 H0 S0 ρ F H S σ env) : At K ρ0 F H0 S0 ρ F H S σ env :=
  ⟨a.rl, a.en, ⟨a.nx.pre, fun _ _ z => z, a.nx.keep, fun _ o z => .inl ⟨o, z⟩, a.nx.cnew, a.nx.grow⟩, a.new⟩
theorem Ws.rebase {r : RS} {N : L2.St → Hp → Prop} {k : Stm} {D2 : Ends} (b : Nx ρ0 F0 H0 S0 ρ1 F1 H1 S1) (h : Ws K ρ0 F0 H0 S0 w D' (r.bind k)) (hr : D2.rt = D'.rt) (hN : ∀ ρ F H S σ env, At K ρ0 F1 H0 S0 ρ F H S σ env → Ws K ρ0 F0 H0 S0 w D' (k env S) → D2.nx σ H) : Ws K ρ0 F1 H0 S0 w D2 r := by
  cases r with
  | nx e S => exact fun ρ F H σ a => hN ρ F H S σ e a h
  | rt k d S =>
    intro v ρ F H n r q
    rw [hr]
    exact h v ρ F H (b.unbase n) r q
  | exc x e S => exact fun cls dd ρ F H σ a x => h cls dd ρ F H σ (At.unbase b a) x
  | no => exact h
end
def forL (tg : Tgt) (body : Stm) : List D → Stm
  | [], env, S => .nx env S
  | d :: ds, env, S => match tg d with
    | none => .no
    | some us => (body (setE env us) S).bind (forL tg body ds)
def forS (tg : Tgt) (fi : E (List D)) (body : Stm) : Stm := fun env S => (fi env S).st env fun ds S1 => forL tg body ds env S1
theorem Nx.item {K : Fr} {ρ : Rho} {F H : Hp} {S : Sto} {T : Addr} {vs : List V} {es : List D} (r : Rl K ρ F H S) (h : H T = none) (l : RepL K F vs es) :
    ∃ F2, Same F F2 ∧ Nx ρ F H S ρ F2 (upd H T (.tup vs)) S ∧ Rl K ρ F2 (upd H T (.tup vs)) S ∧ Rep K F2 (.ref T) (.tup es) := by
  have o := own_new (o := .tup vs) (d := .tup es) r h (.tup (.inl (.inl upd_same)) l)
  obtain ⟨a1, a2, a3, a4⟩ := o.2 T rfl
  obtain ⟨F2, s2, r2, p2, f2⟩ := frzAt (r.new h) o.1 rfl a1 a2
  have n : Nx ρ F H S ρ F (upd H T (.tup vs)) S := Nx.new h
  refine ⟨F2, s2, ⟨n.pre, fun x u z => s2 x u (n.fsub x u z), n.keep, fun x u z => ?_, n.cnew, n.grow⟩, r2, p2⟩
  rcases f2 x u z with z | z
  · exact n.fnew x u z
  · rw [z]
    exact .inr (.inl h)
section
variable {X : Cx} {w : WX} {tg it : Expr} {body : List Stmt} {fi : E (List D)} {fb : Stm} {tt : Tgt} {pos : Pos}
theorem ps_forS (hp : PassesOwn (model X.prog X.w) X.A X.env X.xe) (hc : X.calm = true) (hi : PIt X w tg it fi) (hg : PTg X tg tt) (hb : PSb X w body fb) (hs : ∀ x, foldedSetIterable it X.env x = pure x := by intro _; rfl) : PSt X w (.For tg it body [] pos) (forS tt fi fb) := PS.imp (ps_for hp hc hi hg hb hs) (by
  rintro D' σ H ⟨ρ0, F0, H0, S0, ρ, F, S, env, a, q⟩
  refine ⟨ρ, F, S, env, a.rl, a.en, Ws.step a q fun ds S1 J ρ1 F1 H1 n1 a1 k1 q1 => ?_⟩
  obtain ⟨G, Y, wk, hG, hY⟩ := k1.ex
  refine for_it wk (fun i σ' H' => ∃ ρ2 F2 S2 env2, At X.K ρ0 F1 H0 S0 ρ2 F2 H' S2 σ' env2 ∧ Ws X.K ρ0 F0 H0 S0 w D' (forL tt fb (ds.drop i) env2 S2)) ⟨ρ1, F1, S1, env, a1.rebase, q1⟩ ?_ ?_ ?_
  · rintro i σ' H' hi ⟨ρ2, F2, S2, env2, a2, _⟩
    exact hG F2 H' a2.nx.fsub a2.rl.sub
  · rintro i x σ' H' H3 hi ⟨ρ2, F2, S2, env2, a2, q2⟩ y
    obtain ⟨d, hd, hx⟩ := hY i F2 H' x H3 hi a2.nx.fsub a2.rl.sub y
    have ed : ds.drop i = d :: ds.drop (i + 1) := by
      obtain ⟨h1, h2⟩ := List.getElem?_eq_some_iff.mp hd
      rw [List.drop_eq_getElem_cons h1, h2]
    rw [ed] at q2
    have q3 : Ws X.K ρ0 F0 H0 S0 w D' (match tt d with | none => .no | some us => (fb (setE env2 us) S2).bind (forL tt fb (ds.drop (i + 1)))) := q2
    have go : ∀ F3 (N : L2.St → Hp → Prop) (D2 : Ends), D2.rt = D'.rt → (∀ ρ F H S σ env, At X.K ρ0 F1 H0 S0 ρ F H S σ env → Ws X.K ρ0 F0 H0 S0 w D' (forL tt fb (ds.drop (i + 1)) env S) → D2.nx σ H) → At X.K ρ0 F1 H0 S0 ρ2 F3 H3 S2 σ' env2 → Rep X.K F3 x d → tT X.K tt x σ' H3 fun σ2 H2 => tS X.K w fb D2 σ2 H2 := by
      intro F3 N D2 hr hN a3 r3
      cases et : tt d with
      | none => rw [et] at q3; exact False.elim q3
      | some us =>
        rw [et] at q3
        exact ⟨F3, d, us, a3.rl.sub, r3, et, fun ws u => ⟨ρ0, F1, H0, S0, ρ2, F3, S2, setE env2 us, a3.setUs u, Ws.rebase (N := N) a1.nx q3 hr hN⟩⟩
    rcases hx with ⟨rfl, r3⟩ | ⟨T, vs, es, rfl, hT, rfl, rfl, l⟩
    · exact go F2 (fun _ _ => True) _ rfl (fun ρ4 F4 H4 S4 σ4 e4 a4 q4 => ⟨ρ4, F4, S4, e4, a4, q4⟩) a2 r3
    · obtain ⟨F3, s3, n3, r3, p3⟩ := Nx.item a2.rl hT l
      exact go F3 (fun _ _ => True) _ rfl (fun ρ4 F4 H4 S4 σ4 e4 a4 q4 => ⟨ρ4, F4, S4, e4, a4, q4⟩) (a2.later n3 r3) p3
  · rintro σ' H' ⟨ρ2, F2, S2, env2, a2, q2⟩
    rw [List.drop_length] at q2
    exact q2 ρ2 F2 H' σ' (At.unbase a1.nx a2))
end
end Fw

set_option  maxHeartbeats 4000000
/-! Fw: comprehensions -/
namespace Fw
open PySem L2 PySem.Spec PyProof.Rows

def R.nx {α β : Type} (r : R α) (k : α → Sto → R β) : R β := match r with
  | .ok a S => k a S
  | _ => .no
def yesE : E Bool := fun _ S => .ok true S
def compL (tg : Tgt) (ft : E Bool) (fe : E D) : List D → E (List D)
  | [] => fun _ S => .ok [] S
  | d :: ds => fun env S => match tg d with
    | none => .no
    | some us => (ft (setE env us) S).nx fun b S1 => if b then (fe (setE env us) S1).nx fun x S2 => (compL tg ft fe ds env S2).nx fun xs S3 => .ok (x :: xs) S3 else compL tg ft fe ds env S1
def wipeE (env : Env) : List Nat → Env
  | [] => env
  | v :: vs => (wipeE env vs).set v none
def compE (vs : List Nat) (tg : Tgt) (fi : E (List D)) (ft : E Bool) (fe : E D) : E D := bindE fi fun ds env S => if sz ds.length then (compL tg ft fe ds (wipeE env vs) S).nx fun xs S1 => .ok (.lst xs) S1 else .no
section
variable {K : Fr} {ρ : Rho} {F H : Hp} {S : Sto} {σ : L2.St} {env : Env}
theorem En.wipe (e : En K ρ F H S σ env) : ∀ vs : List Nat, En K ρ F H S (L2.wipe σ vs) (wipeE env vs)
  | [] => e
  | v :: vs => by
    have h := e.wipe vs
    have get : ∀ {j : Nat} {z : W}, ((wipeE env vs).set v none)[j]? = some (some z) → j ≠ v ∧ (wipeE env vs)[j]? = some (some z) := by
      intro j z g
      by_cases c : j = v
      · subst c
        have q := (set_same g).1
        cases q
      · rw [List.getElem?_set_ne (Ne.symm c)] at g
        exact ⟨c, g⟩
    refine ⟨by show ((wipeE env vs).set v none).length = ((L2.wipe σ vs).set v none).length; rw [List.length_set, List.length_set]; exact h.len, fun i d g => ?_, fun i n g => ?_, fun i d g => ?_, fun i j d d' a hij g1 g2 g3 => ?_, fun i b o g => ?_⟩
    · obtain ⟨c, g⟩ := get g
      obtain ⟨x, h1, h2⟩ := h.f i d g
      exact ⟨x, (List.getElem?_set_ne (Ne.symm c)).trans h1, h2⟩
    · obtain ⟨c, g⟩ := get g
      obtain ⟨a, as, h1, h2⟩ := h.m i n g
      exact ⟨a, as, (List.getElem?_set_ne (Ne.symm c)).trans h1, h2⟩
    · obtain ⟨c, g⟩ := get g
      obtain ⟨a, h1, h2⟩ := h.o i d g
      exact ⟨a, (List.getElem?_set_ne (Ne.symm c)).trans h1, h2⟩
    · obtain ⟨c1, g1⟩ := get g1
      obtain ⟨c2, g2⟩ := get g2
      have g3 : ((L2.wipe σ vs).set v none)[i]? = some (some (.ref a)) := g3
      rw [List.getElem?_set_ne (Ne.symm c1)] at g3
      show ((L2.wipe σ vs).set v none)[j]? ≠ some (some (.ref a))
      rw [List.getElem?_set_ne (Ne.symm c2)]
      exact h.oo i j d d' a hij g1 g2 g3
    · obtain ⟨c, g⟩ := get g
      obtain ⟨x, h1, h2⟩ := h.x i b o g
      exact ⟨x, (List.getElem?_set_ne (Ne.symm c)).trans h1, h2⟩
/-- an object of nobody's that is known here is changed -/
theorem Rl.upd (r : Rl K ρ F H S) {p : Addr} {o : HO} (hf : F p = none) (hl : ¬ Live ρ S p) (hz : isFz o = false := by rfl) : Rl K ρ F (L2.upd H p o) S := by
  have ne : ∀ {a u}, F a = some u → a ≠ p := fun {a u} h e => by
    rw [e, hf] at h
    cases h
  refine ⟨r.len, ⟨fun a u m h => by rw [upd_ne (ne h)]; exact r.sub.of a u m h, fun a u m h => by rw [upd_ne (ne h)]; exact r.sub.mks a u m h⟩, fun n c as h1 h2 h3 => ?_, r.apart, fun a u q z => by
    by_cases e : a = p
    · rw [e, upd_same] at q
      cases q
      rw [hz] at z
      cases z
    · rw [upd_ne e] at q
      exact r.fz a u q z, r.mks⟩
  obtain ⟨x, y⟩ := r.cell n c as h1 h2 h3
  have na : ∀ a ∈ as, a ≠ p := fun a ha e => hl ⟨n, c, as, h1, h2, h3, e ▸ ha⟩
  refine ⟨x.up (fun a u ha h => by rw [upd_ne (na a ha)]; exact h) fun _ _ z => z, fun a ha => ⟨(y a ha).1, ?_⟩⟩
  rw [upd_ne (na a ha)]
  exact (y a ha).2
theorem En.upd (e : En K ρ F H S σ env) {p : Addr} {o : HO} (h : ∀ (i : Nat) d, env[i]? = some (some (.o d)) → σ[i]? ≠ some (some (.ref p))) : En K ρ F (L2.upd H p o) S σ env := by
  refine ⟨e.len, e.f, e.m, fun i d g => ?_, e.oo, e.x⟩
  obtain ⟨a, h1, h2, h3, h4, h5⟩ := e.o i d g
  have ne : a ≠ p := fun z => h i d g (by rw [h1, z])
  refine ⟨a, h1, h2.up (fun b u z hb => ?_) (fun _ _ z => z), h3, h4, by rw [upd_ne ne]; exact h5⟩
  cases z
  rw [upd_ne ne]
  exact hb
theorem Nx.upd {ρ' : Rho} {F' H' : Hp} {S' : Sto} (n : Nx ρ F H S ρ' F' H' S') {p : Addr} {o : HO} (h : H p = none) : Nx ρ F H S ρ' F' (L2.upd H' p o) S' :=
  ⟨n.pre, n.fsub, fun a u g l => by rw [upd_ne (ne_of_none g h)]; exact n.keep a u g l, n.fnew, n.cnew, fun a g => by
    by_cases e : a = p
    · rw [e]; exact h
    · rw [upd_ne e] at g; exact n.grow a g⟩
end
theorem wipe_set {i : Nat} {x : Option V} : ∀ {vs : List Nat} {σ : L2.St}, i ∈ vs → L2.wipe (σ.set i x) vs = L2.wipe σ vs
  | [], _, h => nomatch h
  | v :: vs, σ, h => by
    show (L2.wipe (σ.set i x) vs).set v none = (L2.wipe σ vs).set v none
    by_cases c : i ∈ vs
    · rw [wipe_set c]
    · have e : i = v := by
        rcases List.mem_cons.mp h with z | z
        · exact z
        · exact absurd z c
      subst e
      have k : ∀ (us : List Nat) (τ : L2.St), i ∉ us → L2.wipe (τ.set i x) us = (L2.wipe τ us).set i x := by
        intro us
        induction us with
        | nil => intro τ _; rfl
        | cons u us ih =>
          intro τ hu
          show (L2.wipe (τ.set i x) us).set u none = ((L2.wipe τ us).set u none).set i x
          rw [ih τ fun z => hu (List.mem_cons_of_mem _ z), List.set_comm _ _ fun z => hu (by rw [z]; exact List.mem_cons_self)]
      rw [k vs σ c, List.set_set]
theorem wipe_setV {vs : List Nat} : ∀ {ws : List (Nat × V)} {σ : L2.St}, (∀ p ∈ ws, p.1 ∈ vs) → L2.wipe (setV σ ws) vs = L2.wipe σ vs
  | [], _, _ => rfl
  | p :: ws, σ, h => by
    show L2.wipe (setV (σ.set p.1 (some p.2)) ws) vs = _
    rw [wipe_setV fun q hq => h q (List.mem_cons_of_mem _ hq), wipe_set (h p List.mem_cons_self)]
theorem wipe_wipe {vs : List Nat} {σ : L2.St} : L2.wipe (L2.wipe σ vs) vs = L2.wipe σ vs := by
  have k : ∀ us : List Nat, (∀ u ∈ us, u ∈ vs) → ∀ τ : L2.St, L2.wipe (L2.wipe τ us) vs = L2.wipe τ vs := by
    intro us
    induction us with
    | nil => intro _ τ; rfl
    | cons u us ih =>
      intro h τ
      show L2.wipe ((L2.wipe τ us).set u none) vs = _
      rw [wipe_set (h u List.mem_cons_self)]
      exact ih (fun z hz => h z (List.mem_cons_of_mem _ hz)) τ
  exact k vs (fun _ h => h) σ
theorem Upd.slots {K : Fr} {F : Hp} : ∀ {ws : List (Nat × V)} {us : List (Nat × D)} {vs : List Nat}, Upd K F ws us → (∀ p ∈ us, p.1 ∈ vs) → ∀ p ∈ ws, p.1 ∈ vs
  | _, _, _, .nil, _, _, h => nomatch h
  | _ :: _, _ :: _, vs, .cons ⟨e, _⟩ t, h, p, hp => by
    rcases List.mem_cons.mp hp with z | z
    · rw [z, e]
      exact h _ List.mem_cons_self
    · exact Upd.slots t (fun q hq => h q (List.mem_cons_of_mem _ hq)) p z
abbrev w0 : WX := fun _ _ _ _ => False
theorem R.nx_inv {α β γ δ : Type} {rel : Rel γ δ} {K : Fr} {ρ : Rho} {F H : Hp} {S : Sto} {Q : δ → Hp → Prop} {XQ : XK} {r : R α} {k : α → Sto → R β} {m : R β → R γ} (hm : m .no = .no) (h : Wg rel K ρ F H S Q XQ (m (r.nx k))) : ∃ a S1, r = .ok a S1 ∧ Wg rel K ρ F H S Q XQ (m (k a S1)) := by
  cases r with
  | ok a S1 => exact ⟨a, S1, rfl, h⟩
  | exc x S1 =>
    have h : Wg rel K ρ F H S Q XQ (m .no) := h
    rw [hm] at h
    exact False.elim h
  | no =>
    have h : Wg rel K ρ F H S Q XQ (m .no) := h
    rw [hm] at h
    exact False.elim h
theorem Wg.ok1 {α β : Type} {rel : Rel α β} {K : Fr} {ρ : Rho} {F H : Hp} {S S1 : Sto} {XQ : XK} {a : α} {r : R α} (e : r = .ok a S1) {Q : β → Hp → Prop} (h : ∀ v ρ' F' H', Nx ρ F H S ρ' F' H' S1 → Rl K ρ' F' H' S1 → rel H ρ' F' H' S1 v a → Q v H') : Wg rel K ρ F H S Q XQ r := by
  subst e
  exact h
section
variable {X : Cx} {w : WX}
theorem comp_run {σ : L2.St} {H : Hp} {Q : VK} {vs : List Nat} {tg : Tgt} {fi : E (List D)} {ft : E Bool} {fe : E D} (hsub : ∀ d us, tg d = some us → ∀ p ∈ us, p.1 ∈ vs) (h : tD X.K .own w (compE vs tg fi ft fe) σ H Q) :
    tLc (tG (iR X.K) X.K w fi) (tT X.K tg) (tBl X.K w0 ft) (tD X.K .frz w0 fe) vs σ H Q := by
  obtain ⟨ρ, F, S, env, rl, en, q⟩ := h
  refine ⟨ρ, F, S, env, rl, en, Wg.step kR.old q fun ds S1 J ρ1 F1 H1 n1 r1 k1 q1 => ?_⟩
  obtain ⟨hz, q1⟩ := if_ok q1
  intro Dl hD
  obtain ⟨G, Y, wk, hG, hY⟩ := k1.ex
  have en1 := en.later n1
  have nD : ∀ (i : Nat) d, env[i]? = some (some (.o d)) → σ[i]? ≠ some (some (.ref Dl)) := fun i d g z => by
    obtain ⟨a, h1, _, _, _, h5⟩ := en1.o i d g
    rw [z] at h1
    cases h1
    rw [hD] at h5
    cases h5
  refine lc_it wk (fun i H' => ∃ ρ2 F2 S2 acc outs, Rl X.K ρ2 F2 H' S2 ∧ En X.K ρ2 F2 H' S2 σ env ∧ Nx ρ1 F1 H1 S1 ρ2 F2 H' S2 ∧ H' Dl = some (.lst acc) ∧ F2 Dl = none ∧ ¬ Live ρ2 S2 Dl ∧ RepL X.K F2 acc outs ∧ outs.length ≤ i ∧
    Wg (kR X.K .own) X.K ρ1 F1 H1 S1 Q (fun cls dd H' => w cls dd σ H') ((compL tg ft fe (ds.drop i) (wipeE env vs) S2).nx fun xs S' => .ok (.lst (outs ++ xs)) S')) ?_ ?_ ?_ ?_
  · refine ⟨ρ1, F1, S1, [], [], r1.new hD, en1.upd nD, Nx.new hD, upd_same, r1.sub.no0 hD, r1.nolive0 hD, .nil, Nat.le_refl _, ?_⟩
    exact q1
  · rintro i H' hi ⟨ρ2, F2, S2, acc, outs, r2, e2, n2, _⟩
    exact hG F2 H' n2.fsub r2.sub
  · rintro i x H' H3 hi ⟨ρ2, F2, S2, acc, outs, r2, e2, n2, d2, f2, l2, p2, o2, q2⟩ y
    obtain ⟨d, hd, hx⟩ := hY i F2 H' x H3 hi n2.fsub r2.sub y
    have ed : ds.drop i = d :: ds.drop (i + 1) := by
      obtain ⟨g1, g2⟩ := List.getElem?_eq_some_iff.mp hd
      rw [List.drop_eq_getElem_cons g1, g2]
    rw [ed] at q2
    -- the item in hand
    have go : ∀ F3, Rl X.K ρ2 F3 H3 S2 → En X.K ρ2 F3 H3 S2 σ env → Nx ρ1 F1 H1 S1 ρ2 F3 H3 S2 → H3 Dl = some (.lst acc) → F3 Dl = none → RepL X.K F3 acc outs → Rep X.K F3 x d → tT X.K tg x (L2.wipe σ vs) H3 fun σ2 H2 => L2.wipe σ2 vs = L2.wipe σ vs ∧ tBl X.K w0 ft σ2 H2 fun b H3 =>
        if b = true then tD X.K .frz w0 fe σ2 H3 fun y H4 => ∃ acc, H4 Dl = some (.lst acc) ∧ acc.length < sizeLine ∧ ∃ ρ2 F2 S2 acc' outs, Rl X.K ρ2 F2 (L2.upd H4 Dl (.lst (acc ++ [y]))) S2 ∧ En X.K ρ2 F2 (L2.upd H4 Dl (.lst (acc ++ [y]))) S2 σ env ∧ Nx ρ1 F1 H1 S1 ρ2 F2 (L2.upd H4 Dl (.lst (acc ++ [y]))) S2 ∧ (L2.upd H4 Dl (.lst (acc ++ [y]))) Dl = some (.lst acc') ∧ F2 Dl = none ∧ ¬ Live ρ2 S2 Dl ∧ RepL X.K F2 acc' outs ∧ outs.length ≤ i + 1 ∧
          Wg (kR X.K .own) X.K ρ1 F1 H1 S1 Q (fun cls dd H' => w cls dd σ H') ((compL tg ft fe (ds.drop (i + 1)) (wipeE env vs) S2).nx fun xs S' => .ok (.lst (outs ++ xs)) S')
        else ∃ ρ2 F2 S2 acc outs, Rl X.K ρ2 F2 H3 S2 ∧ En X.K ρ2 F2 H3 S2 σ env ∧ Nx ρ1 F1 H1 S1 ρ2 F2 H3 S2 ∧ H3 Dl = some (.lst acc) ∧ F2 Dl = none ∧ ¬ Live ρ2 S2 Dl ∧ RepL X.K F2 acc outs ∧ outs.length ≤ i + 1 ∧
          Wg (kR X.K .own) X.K ρ1 F1 H1 S1 Q (fun cls dd H' => w cls dd σ H') ((compL tg ft fe (ds.drop (i + 1)) (wipeE env vs) S2).nx fun xs S' => .ok (.lst (outs ++ xs)) S') := by
      intro F3 r3 e3 n3 d3 f3 p3 px
      unfold compL at q2
      cases et : tg d with
      | none => rw [et] at q2; exact False.elim q2
      | some us =>
        rw [et] at q2
        dsimp only at q2
        refine ⟨F3, d, us, r3.sub, px, et, fun ws u => ⟨?_, ?_⟩⟩
        · rw [wipe_setV (Upd.slots u (hsub d us et)), wipe_wipe]
        · obtain ⟨b, S4, eb, q4⟩ := R.nx_inv (m := fun (r : R (List D)) => r.nx fun xs S' => R.ok (D.lst (outs ++ xs)) S') rfl q2
          refine ⟨ρ2, F3, S2, setE (wipeE env vs) us, r3, (e3.wipe vs).setUs u, Wg.ok1 eb fun b' ρ4 F4 H4 n4 r4 k4 => ?_⟩
          have k4 : b' = b := k4
          subst k4
          have d4 := n4.keep Dl _ d3 l2
          have l4 : ¬ Live ρ4 S4 Dl := fun z => by
            rcases n4.cnew Dl z with z | z
            · exact l2 z
            · rw [d3] at z; cases z
          have f4 : F4 Dl = none := by
            cases z : F4 Dl with
            | none => rfl
            | some o =>
              rcases n4.fnew Dl o z with ⟨_, z⟩ | z | z
              · rw [f3] at z; cases z
              · rw [d3] at z; cases z
              · exact absurd z l2
          cases b' with
          | false => exact ⟨ρ4, F4, S4, acc, outs, r4, e3.later n4, n3.trans n4, d4, f4, l4, p3.mono n4.fsub, Nat.le_succ_of_le o2, q4⟩
          | true =>
            rw [if_pos rfl] at q4
            obtain ⟨y', S5, ey, q5⟩ := R.nx_inv (m := fun (r : R (List D)) => r.nx fun xs S' => R.ok (D.lst (outs ++ xs)) S') rfl q4
            refine ⟨ρ4, F4, S4, setE (wipeE env vs) us, r4, ((e3.later n4).wipe vs).setUs (Paired.mapP u fun _ _ z => ⟨z.1, z.2.mono n4.fsub⟩), Wg.ok1 ey fun yv ρ5 F5 H5 n5 r5 k5 => ?_⟩
            have k5 : Rep X.K F5 yv y' := k5
            have d5 := n5.keep Dl _ d4 l4
            have l5 : ¬ Live ρ5 S5 Dl := fun z => by
              rcases n5.cnew Dl z with z | z
              · exact l4 z
              · rw [d4] at z; cases z
            have f5 : F5 Dl = none := by
              cases z : F5 Dl with
              | none => rfl
              | some o =>
                rcases n5.fnew Dl o z with ⟨_, z⟩ | z | z
                · rw [f4] at z; cases z
                · rw [d4] at z; cases z
                · exact absurd z l4
            have p5 := (p3.mono n4.fsub).mono n5.fsub
            have hl : acc.length < sizeLine := by
              rw [p5.length]
              exact Nat.lt_of_lt_of_le (Nat.lt_of_le_of_lt o2 hi) (sz_line hz)
            refine ⟨acc, d5, hl, ρ5, F5, S5, acc ++ [yv], outs ++ [y'], r5.upd f5 l5, ((e3.later n4).later n5).upd nD, ((n3.trans n4).trans n5).upd hD, upd_same, f5, l5, p5.snoc k5, by rw [List.length_append]; exact Nat.succ_le_succ o2, ?_⟩
            obtain ⟨xs, S6, ex, q6⟩ := R.nx_inv (m := fun (r : R (List D)) => r.nx fun xs S' => R.ok (D.lst (outs ++ xs)) S') rfl q5
            rw [ex]
            have e6 : outs ++ [y'] ++ xs = outs ++ (y' :: xs) := by rw [List.append_assoc]; rfl
            show Wg (kR X.K .own) X.K ρ1 F1 H1 S1 Q (fun cls dd H' => w cls dd σ H') (R.ok (D.lst (outs ++ [y'] ++ xs)) S6)
            rw [e6]
            exact q6
    rcases hx with ⟨rfl, r3⟩ | ⟨T, us, es, rfl, hT, rfl, rfl, l⟩
    · exact go F2 r2 e2 n2 d2 f2 p2 r3
    · obtain ⟨F3, s3, n3, r3, p3⟩ := Nx.item r2 hT l
      have ne : Dl ≠ T := ne_of_none d2 hT
      have f3 : F3 Dl = none := by
        cases z : F3 Dl with
        | none => rfl
        | some o =>
          rcases n3.fnew Dl o z with ⟨_, z⟩ | z | z
          · rw [f2] at z; cases z
          · rw [d2] at z; cases z
          · exact absurd z l2
      exact go F3 r3 (e2.later n3) (n2.trans n3) (n3.keep Dl _ d2 l2) f3 (p2.mono s3) p3
  · rintro H' ⟨ρ2, F2, S2, acc, outs, r2, e2, n2, d2, f2, l2, p2, o2, q2⟩
    rw [List.drop_length] at q2
    have q2 : Wg (kR X.K .own) X.K ρ1 F1 H1 S1 Q (fun cls dd H' => w cls dd σ H') (.ok (.lst (outs ++ [])) S2) := q2
    rw [List.append_nil] at q2
    exact q2 (.ref Dl) ρ2 F2 H' n2 r2 ⟨.lst d2 p2, fun a e => by cases e; exact ⟨f2, l2, hD, by rw [d2]; rfl⟩⟩
theorem pd_comp {elt tg iter : Expr} {ifs : List Expr} {scope : Scope} {own : List (Str × Nat)} {pos : Pos} {tt : Tgt} {fi : E (List D)} {ft : E Bool} {fe : E D} (hc : X.calm = true) (hN : X.N.Nodup) (hi : PIt X w tg iter fi) (ok : BlkOk X.N X.env.scope scope own)
    (hg : ∀ (s : Shared) (H : Hp) (C : Addr) (cl : List (Str × Addr)) (fp : List Addr), PTg (X.blk s H scope (compEnvC scope cl C X.env) fp) tg tt) (ht : ∀ (s : Shared) (H : Hp) (C : Addr) (cl : List (Str × Addr)) (fp : List Addr), PTs (X.blk s H scope (compEnvC scope cl C X.env) fp) ifs (tBl X.K w0 ft))
    (he : ∀ (s : Shared) (H : Hp) (C : Addr) (cl : List (Str × Addr)) (fp : List Addr), PD (X.blk s H scope (compEnvC scope cl C X.env) fp) .frz w0 elt fe) (hsub : ∀ d us, tt d = some us → ∀ p ∈ us, p.1 ∈ own.map (·.2)) (hs : ∀ x, foldedSetIterable iter X.env x = pure x := by intro _; rfl) :
    PD X .own w (.ListComp elt [⟨tg, iter, ifs, 0⟩] scope pos) (compE (own.map (·.2)) tt fi ft fe) := PE.imp (pe_lc (g := tT X.K tt) (tt := tBl X.K w0 ft) (te := tD X.K .frz w0 fe) hc hN hi ok hg ht he hs) fun _ _ _ h => comp_run hsub h
theorem pts_yes : PTs X [] (tBl X.K w0 yesE) := ⟨fun pins s σ H Q I h => by
  obtain ⟨ρ, F, S, env, rl, en, q⟩ := h
  exact pts_nil.run pins s σ H Q I (Wg.give (v := true) q rl rfl)⟩
theorem pts_if {c : Expr} {fc : E Bool} (h : PB X w0 c fc) : PTs X [c] (tBl X.K w0 fc) := pts_one h
end
end Fw

set_option  maxHeartbeats 4000000
/-! Fw: what a name owns is changed; cells -/
namespace Fw
open PySem L2 PySem.Spec PyProof.Rows

section
variable {K : Fr} {ρ0 ρ : Rho} {F0 H0 F H : Hp} {S0 S : Sto} {σ : L2.St} {env : Env} {i : Nat} {d d' : D} {a : Addr} {o : HO}
theorem env_get {env : Env} {i j : Nat} {y z : W} (g : (env.set i (some y))[j]? = some (some z)) : (j = i ∧ z = y ∧ i < env.length) ∨ (j ≠ i ∧ env[j]? = some (some z)) := by
  by_cases c : j = i
  · subst c
    obtain ⟨q, hl⟩ := set_same g
    cases q
    exact .inl ⟨rfl, rfl, hl⟩
  · rw [List.getElem?_set_ne (Ne.symm c)] at g
    exact .inr ⟨c, g⟩
/-- the i-th slot's own object is changed -/
theorem At.mut (t : At K ρ0 F0 H0 S0 ρ F H S σ env) (hi : env[i]? = some (some (.o d))) (ha : σ[i]? = some (some (.ref a))) (hr : RepT K F (upd H a o) (.ref a) d') (hz : isFz o = false := by rfl) : At K ρ0 F0 H0 S0 ρ F (upd H a o) S σ (env.set i (some (.o d'))) := by
  obtain ⟨b, h1, h2, h3, h4, h5⟩ := t.en.o i d hi
  rw [ha] at h1
  cases h1
  have ne : ∀ (j : Nat) e b, j ≠ i → env[j]? = some (some (.o e)) → σ[j]? = some (some (.ref b)) → b ≠ a := fun j e b hj hj1 hj2 z => by
    subst z
    exact t.en.oo i j d e b (Ne.symm hj) hi hj1 ha hj2
  refine ⟨t.rl.upd h3 h4 hz, ⟨by rw [List.length_set]; exact t.en.len, fun j e g => ?_, fun j n g => ?_, fun j e g => ?_, fun j l e e' b hjl g1 g2 g3 => ?_, fun j b o' g => ?_⟩, t.nx.upd (t.new i d a hi ha), fun j e b g1 g2 => ?_⟩
  · rcases env_get g with ⟨_, z, _⟩ | ⟨_, z⟩
    · cases z
    · exact t.en.f j e z
  · rcases env_get g with ⟨_, z, _⟩ | ⟨_, z⟩
    · cases z
    · exact t.en.m j n z
  · rcases env_get g with ⟨c, z, _⟩ | ⟨c, z⟩
    · cases z
      subst c
      exact ⟨a, ha, hr, h3, h4, by rw [upd_same]; rfl⟩
    · obtain ⟨b, g1, g2, g3, g4, g5⟩ := t.en.o j e z
      have nb := ne j e b c z g1
      refine ⟨b, g1, g2.up (fun x u q hx => ?_) (fun _ _ q => q), g3, g4, by rw [upd_ne nb]; exact g5⟩
      cases q
      rw [upd_ne nb]
      exact hx
  · rcases env_get g1 with ⟨c1, z1, _⟩ | ⟨c1, z1⟩
    · subst c1
      rw [ha] at g3
      cases g3
      rcases env_get g2 with ⟨c2, _, _⟩ | ⟨c2, z2⟩
      · exact absurd c2.symm hjl
      · exact fun q => t.en.oo j l d e' a hjl hi z2 ha q
    · rcases env_get g2 with ⟨c2, z2, _⟩ | ⟨c2, z2⟩
      · subst c2
        exact t.en.oo j l e d b hjl z1 hi g3
      · exact t.en.oo j l e e' b hjl z1 z2 g3
  · rcases env_get g with ⟨_, z, _⟩ | ⟨_, z⟩
    · cases z
    · exact t.en.x j b o' z
  · rcases env_get g1 with ⟨c1, z1, _⟩ | ⟨c1, z1⟩
    · subst c1
      exact t.new j d b hi g2
    · exact t.new j e b z1 g2
end
/-- what a call of a built-in method asks of its form -/
structure BmOk (X : Cx) (o : Expr) (name : Str) (e : Expr) (apos cpos : Pos) : Prop where
  base : attributeBase o name X.env (eval o X.env) = eval o X.env
  few : ((backTo cpos (starEach [e] X.env)).all (fun x => !x.1) && (backToKw cpos (keywordEach [] X.env)).all (fun x => x.1.isSome) && decide (([e] : List Expr).length + ([] : List Keyword).length + (if ([] : List Keyword).isEmpty then 0 else 1) < 30)) = true
  line : (apos.endLine == cpos.line) = true
  st : starEach [e] X.env = (false, eval e X.env) :: starEach [] X.env
  pl : (backTo cpos (starEach [] X.env)).any (·.1) = false
def SubOk (X : Cx) (o i : Expr) (sp : Pos) : Prop := ∀ v, assign (.Subscript o i sp) X.env v = (holding [v] (eval o X.env) >>= fun a => holding [v, a] (eval i X.env) >>= fun b => standAt sp >>= fun _ => holding [v, a, b] (setItem a b v) >>= fun _ => release [v, a, b] [])
structure Bm0Ok (X : Cx) (o : Expr) (name : Str) (apos cpos : Pos) : Prop where
  base : attributeBase o name X.env (eval o X.env) = eval o X.env
  line : (apos.endLine == cpos.line) = true
/-- l.append(e), l.extend(e), l being a name's own -/
def appS (i : Nat) (fe : E D) : Stm := fun env S => match env[i]? with
  | some (some (.o (.lst xs))) => (fe env S).st env fun x S1 => if sz (xs.length + 1) then .nx (env.set i (some (.o (.lst (xs ++ [x]))))) S1 else .no
  | _ => .no
def asL : D → Option (List D)
  | .lst ys => some ys
  | _ => none
def extS (i : Nat) (fe : E D) : Stm := fun env S => match env[i]? with
  | some (some (.o (.lst xs))) => (getE asL fe env S).st env fun ys S1 => if sz (xs.length + ys.length) then .nx (env.set i (some (.o (.lst (xs ++ ys))))) S1 else .no
  | _ => .no
def clrS (i : Nat) : Stm := fun env S => match env[i]? with
  | some (some (.o (.lst _))) => .nx (env.set i (some (.o (.lst [])))) S
  | _ => .no
/-- l.pop() alone; l[e] = f -/
def popS (i : Nat) : Stm := fun env S => match env[i]? with
  | some (some (.o (.lst xs))) => if xs.isEmpty then .no else .nx (env.set i (some (.o (.lst xs.dropLast)))) S
  | _ => .no
def putS (i : Nat) (fk fe : E D) : Stm := fun env S => match env[i]? with
  | some (some (.o (.lst xs))) => (fe env S).st env fun x S1 => (getE asI fk env S1).st env fun k S2 => match ixN xs.length k with
    | some j => .nx (env.set i (some (.o (.lst (xs.set j x))))) S2
    | none => .no
  | _ => .no
theorem sz_lt {n : Nat} (h : sz (n + 1) = true) : n < sizeLine := sz_line h
theorem ifs_ok {c : Bool} {K : Fr} {ρ0 : Rho} {F0 H0 : Hp} {S0 : Sto} {w : WX} {D' : Ends} {a : RS} (h : Ws K ρ0 F0 H0 S0 w D' (if c then a else .no)) : c = true ∧ Ws K ρ0 F0 H0 S0 w D' a := by
  cases c with
  | true => exact ⟨rfl, h⟩
  | false => exact False.elim h
/-- a name that owns a list, or holds one of another sort -/
theorem var_any {K : Fr} {ρ : Rho} {F H : Hp} {S : Sto} {σ : L2.St} {env : Env} {i : Nat} {d : D} (e : En K ρ F H S σ env) (h : env[i]? = some (some (.o d))) : ∃ a, σ[i]? = some (some (.ref a)) ∧ RepT K F H (.ref a) d ∧ F a = none ∧ ¬ Live ρ S a ∧ (H a).isSome = true := e.o i d h
section
variable {X : Cx} {w : WX} {e f : Expr} {fe ff : E D} {i : Nat} {x : Str} {pos xp ap cp sp : Pos}
theorem own_case {K : Fr} {ρ0 : Rho} {F0 H0 : Hp} {S0 : Sto} {D' : Ends} {r : Option (Option W)} {k : List D → RS} (h : Ws K ρ0 F0 H0 S0 w D' (match r with | some (some (.o (.lst xs))) => k xs | _ => .no)) : ∃ xs, r = some (some (.o (.lst xs))) ∧ Ws K ρ0 F0 H0 S0 w D' (k xs) := by
  split at h
  · exact ⟨_, rfl, h⟩
  · exact False.elim h
theorem ps_app (hN : X.N[i]? = some x) (hv : Vis X.env.scope x) (he : PD X .frz w e fe) (hd : (x == ("__debug__" : Str)) = false := by decide) (hcd : (x == ("__classdict__" : Str)) = false := by decide)
    (m : BmOk X (.Name x xp) "append" e ap cp := by exact ⟨rfl, rfl, rfl, rfl, rfl⟩) (hs : swapsWith (.Call (.Attribute (.Name x xp) "append" ap) [e] [] cp) none pos.line X.env = pure false := by rfl) :
    PSt X w (.Expr (.Call (.Attribute (.Name x xp) "append" ap) [e] [] cp) pos) (appS i fe) := PS.imp (L2.ps_expr (pe_bm PySem.F.plainAttrs_list PySem.F.slot_list_append PySem.F.type_list_append mt_append (pe_var hN hv hd hcd) (pa_cons he pa_nil m.st) m.base m.few m.line m.st m.pl) hs) (by
  rintro D' σ H ⟨ρ0, F0, H0, S0, ρ, F, S, env, a, q⟩
  obtain ⟨xs, ho, q⟩ := own_case q
  obtain ⟨b, h1, h2, h3, h4, h5⟩ := a.en.o i _ ho
  cases id h2 with
  | lst hb l =>
    refine ⟨.ref b, h1, .inl ⟨rfl, _, SqL.of hb⟩, ρ, F, S, env, a.rl, a.en, Ws.step a q fun d S1 v ρ1 F1 H1 n1 a1 k1 q1 => ?_⟩
    obtain ⟨hz, q1⟩ := ifs_ok q1
    have hb1 := n1.keep b _ hb h4
    refine ⟨b, _, v, rfl, rfl, hb1, by rw [l.length]; exact sz_lt hz, ?_⟩
    exact q1 ρ1 F1 _ σ (a1.mut ho h1 (.lst upd_same ((l.mono n1.fsub).snoc k1))))
theorem ps_ext (hN : X.N[i]? = some x) (hv : Vis X.env.scope x) (he : PD X .bor w e fe) (hd : (x == ("__debug__" : Str)) = false := by decide) (hcd : (x == ("__classdict__" : Str)) = false := by decide)
    (m : BmOk X (.Name x xp) "extend" e ap cp := by exact ⟨rfl, rfl, rfl, rfl, rfl⟩) (hs : swapsWith (.Call (.Attribute (.Name x xp) "extend" ap) [e] [] cp) none pos.line X.env = pure false := by rfl) :
    PSt X w (.Expr (.Call (.Attribute (.Name x xp) "extend" ap) [e] [] cp) pos) (extS i fe) := PS.imp (L2.ps_expr (pe_bm PySem.F.plainAttrs_list PySem.F.slot_list_extend PySem.F.type_list_extend mt_extend (pe_var hN hv hd hcd) (pa_cons he pa_nil m.st) m.base m.few m.line m.st m.pl) hs) (by
  rintro D' σ H ⟨ρ0, F0, H0, S0, ρ, F, S, env, a, q⟩
  obtain ⟨xs, ho, q⟩ := own_case q
  obtain ⟨b, h1, h2, h3, h4, h5⟩ := a.en.o i _ ho
  cases id h2 with
  | lst hb l =>
    refine ⟨.ref b, h1, .inl ⟨rfl, _, SqL.of hb⟩, ρ, F, S, env, a.rl, a.en, ?_⟩
    cases ee : fe env S with
    | ok d S1 =>
      have q : Ws X.K ρ0 F0 H0 S0 w D' ((((fe env S).bind fun x S1 => R.get (asL x) S1)).st env fun ys S1 => if sz (xs.length + ys.length) then .nx (env.set i (some (.o (.lst (xs ++ ys))))) S1 else .no) := q
      rw [ee] at q
      intro v ρ1 F1 H1 n1 r1 k1
      have t := bor_top2 r1 k1
      cases d with
      | lst ys =>
        cases t with
        | lst hy m =>
          obtain ⟨hz, q1⟩ := ifs_ok q
          have hb1 := n1.keep b _ hb h4
          refine ⟨b, _, _, _, rfl, rfl, hb1, hy, by rw [l.length, m.length]; exact sz_line hz, ?_⟩
          exact q1 ρ1 F1 _ σ ((a.later n1 r1).mut ho h1 (.lst upd_same ((l.mono n1.fsub).append m)))
      | _ => exact False.elim q
    | exc y S1 =>
      have q : Ws X.K ρ0 F0 H0 S0 w D' ((((fe env S).bind fun x S1 => R.get (asL x) S1)).st env fun ys S1 => if sz (xs.length + ys.length) then .nx (env.set i (some (.o (.lst (xs ++ ys))))) S1 else .no) := q
      rw [ee] at q
      exact fun cls dd ρ1 F1 H1 n1 r1 x1 => q cls dd ρ1 F1 H1 σ (a.later n1 r1) x1
    | no =>
      have q : Ws X.K ρ0 F0 H0 S0 w D' ((((fe env S).bind fun x S1 => R.get (asL x) S1)).st env fun ys S1 => if sz (xs.length + ys.length) then .nx (env.set i (some (.o (.lst (xs ++ ys))))) S1 else .no) := q
      rw [ee] at q
      exact q)
theorem ps_clr (hN : X.N[i]? = some x) (hv : Vis X.env.scope x) (hd : (x == ("__debug__" : Str)) = false := by decide) (hcd : (x == ("__classdict__" : Str)) = false := by decide)
    (m : Bm0Ok X (.Name x xp) "clear" ap cp := by exact ⟨rfl, rfl⟩) (hs : swapsWith (.Call (.Attribute (.Name x xp) "clear" ap) [] [] cp) none pos.line X.env = pure false := by rfl) :
    PSt X w (.Expr (.Call (.Attribute (.Name x xp) "clear" ap) [] [] cp) pos) (clrS i) := PS.imp (L2.ps_expr (pe_bm0 PySem.F.plainAttrs_list PySem.F.slot_list_clear PySem.F.type_list_clear mt_clear (pe_var hN hv hd hcd) m.base m.line) hs) (by
  rintro D' σ H ⟨ρ0, F0, H0, S0, ρ, F, S, env, a, q⟩
  obtain ⟨xs, ho, q⟩ := own_case (k := fun _ => .nx (env.set i (some (.o (.lst [])))) S) q
  obtain ⟨b, h1, h2, h3, h4, h5⟩ := a.en.o i _ ho
  cases id h2 with
  | lst hb l =>
    exact ⟨.ref b, h1, .inl ⟨rfl, _, SqL.of hb⟩, b, _, rfl, rfl, hb, q ρ F _ σ (a.mut ho h1 (.lst upd_same .nil))⟩)
theorem RepL.dropLast {K : Fr} {F : Hp} : ∀ {vs : List V} {ds : List D}, RepL K F vs ds → RepL K F vs.dropLast ds.dropLast
  | _, _, .nil => .nil
  | _, _, .cons _ .nil => .nil
  | _, _, .cons h (.cons h2 t) => .cons h (RepL.dropLast (.cons h2 t))
theorem ps_pop (hN : X.N[i]? = some x) (hv : Vis X.env.scope x) (hd : (x == ("__debug__" : Str)) = false := by decide) (hcd : (x == ("__classdict__" : Str)) = false := by decide)
    (m : Bm0Ok X (.Name x xp) "pop" ap cp := by exact ⟨rfl, rfl⟩) (hs : swapsWith (.Call (.Attribute (.Name x xp) "pop" ap) [] [] cp) none pos.line X.env = pure false := by rfl) :
    PSt X w (.Expr (.Call (.Attribute (.Name x xp) "pop" ap) [] [] cp) pos) (popS i) := PS.imp (L2.ps_expr (pe_bm0 PySem.F.plainAttrs_list PySem.F.slot_list_pop PySem.F.type_list_pop mt_pop (pe_var hN hv hd hcd) m.base m.line) hs) (by
  rintro D' σ H ⟨ρ0, F0, H0, S0, ρ, F, S, env, a, q⟩
  obtain ⟨xs, ho, q⟩ := own_case (k := fun xs => if xs.isEmpty then .no else .nx (env.set i (some (.o (.lst xs.dropLast)))) S) q
  obtain ⟨b, h1, h2, h3, h4, h5⟩ := a.en.o i _ ho
  cases id h2 with
  | lst hb l =>
    rename_i vs
    cases xs with
    | nil => exact False.elim q
    | cons y ys =>
      have hl : vs.length = ys.length + 1 := by rw [l.length]; rfl
      have hlt : vs.length - 1 < vs.length := by omega
      exact ⟨.ref b, h1, .inl ⟨rfl, _, SqL.of hb⟩, b, _, vs[vs.length - 1], rfl, rfl, hb, List.getElem?_eq_getElem hlt, q ρ F _ σ (a.mut ho h1 (.lst upd_same l.dropLast))⟩)
theorem ps_put (hN : X.N[i]? = some x) (hv : Vis X.env.scope x) (he : PD X .frz w e fe) (hf : PD X .frz w f ff) (hd : (x == ("__debug__" : Str)) = false := by decide) (hcd : (x == ("__classdict__" : Str)) = false := by decide)
    (hs : swapsWithSole [.Subscript (.Name x xp) f sp] e pos.line X.env = pure false := by rfl) (hw : swappedStores [.Subscript (.Name x xp) f sp] e X.env = pure none := by rfl)
    (hsub : SubOk X (.Name x xp) f sp := by exact fun _ => rfl) (h1 : (assignEach [.Subscript (.Name x xp) f sp] X.env).map (·.2) = [assign (.Subscript (.Name x xp) f sp) X.env] := by rfl) :
    PSt X w (.Assign [.Subscript (.Name x xp) f sp] e pos) (putS i ff fe) := PS.imp (ps_asg he (pg_sub (pe_var hN hv hd hcd) hf set_list hsub) hs hw h1) (by
  rintro D' σ H ⟨ρ0, F0, H0, S0, ρ, F, S, env, a, q⟩
  obtain ⟨xs, ho, q⟩ := own_case q
  obtain ⟨b, h1, h2, h3, h4, h5⟩ := a.en.o i _ ho
  cases id h2 with
  | lst hb l =>
    refine ⟨ρ, F, S, env, a.rl, a.en, Ws.step a q fun d S1 v ρ1 F1 H1 n1 a1 k1 q1 => ?_⟩
    refine ⟨.ref b, h1, ρ1, F1, S1, env, a1.rl, a1.en, ?_⟩
    cases ee : ff env S1 with
    | ok y S2 =>
      have q1 : Ws X.K ρ0 F0 H0 S0 w D' ((((ff env S1).bind fun x S1 => R.get (asI x) S1)).st env fun k S2 => match ixN xs.length k with | some j => .nx (env.set i (some (.o (.lst (xs.set j d))))) S2 | none => .no) := q1
      rw [ee] at q1
      intro u ρ2 F2 H2 n2 r2 k2
      have k2 : Rep X.K F2 u y := k2
      cases k2 with
      | int k =>
        have q1 : Ws X.K ρ0 F0 H0 S0 w D' (match ixN xs.length k with | some j => .nx (env.set i (some (.o (.lst (xs.set j d))))) S2 | none => .no) := q1
        cases ej : ixN xs.length k with
        | none => rw [ej] at q1; exact False.elim q1
        | some j =>
          rw [ej] at q1
          have hb2 := n2.keep b _ (n1.keep b _ hb h4) (fun z => by
            rcases n1.cnew b z with z | z
            · exact h4 z
            · rw [hb] at z; cases z)
          exact ⟨b, _, k, j, rfl, rfl, hb2, by rw [l.length]; exact ej, q1 ρ2 F2 _ σ ((a1.later n2 r2).mut ho h1 (.lst upd_same (((l.mono n1.fsub).mono n2.fsub).set (Rep.mono n2.fsub k1) j)))⟩
      | _ => exact False.elim q1
    | exc y S2 =>
      have q1 : Ws X.K ρ0 F0 H0 S0 w D' ((((ff env S1).bind fun x S1 => R.get (asI x) S1)).st env fun k S2 => match ixN xs.length k with | some j => .nx (env.set i (some (.o (.lst (xs.set j d))))) S2 | none => .no) := q1
      rw [ee] at q1
      exact fun cls dd ρ2 F2 H2 n2 r2 x2 => q1 cls dd ρ2 F2 H2 σ (a1.later n2 r2) x2
    | no =>
      have q1 : Ws X.K ρ0 F0 H0 S0 w D' ((((ff env S1).bind fun x S1 => R.get (asI x) S1)).st env fun k S2 => match ixN xs.length k with | some j => .nx (env.set i (some (.o (.lst (xs.set j d))))) S2 | none => .no) := q1
      rw [ee] at q1
      exact q1)
end

/-! ### cells -/
section
variable {K : Fr} {ρ : Rho} {F H : Hp} {S : Sto} {σ : L2.St} {env : Env} {n : Nat} {d d' : D} {a : Addr} {o : HO}
theorem cell_at (r : Rl K ρ F H S) (e : En K ρ F H S σ env) {i : Nat} (hi : env[i]? = some (some (.m n))) (hc : S[n]? = some (.d d)) : ∃ a, σ[i]? = some (some (.ref a)) ∧ ρ[n]? = some [a] ∧ RepT K F H (.ref a) d ∧ F a = none ∧ (H a).isSome = true := by
  obtain ⟨b, as, h1, h2, h3⟩ := e.m i n hi
  obtain ⟨⟨c, h4, h5, h6⟩, h7⟩ := r.cell n _ as hc (by intro z; cases z) h2
  subst h4
  cases h3
  exact ⟨b, h1, h2, h5, (h7 b (by simp)).1, h6⟩
theorem Live.of (hc : S[n]? = some (.d d)) (hr : ρ[n]? = some [a]) : Live ρ S a := ⟨n, _, [a], hc, (by intro z; cases z), hr, by simp⟩
theorem setcell_get {m : Nat} {c : Cl} (h : (S.set n (.d d'))[m]? = some c) : (m = n ∧ c = .d d') ∨ (m ≠ n ∧ S[m]? = some c) := by
  by_cases e : m = n
  · subst e
    exact .inl ⟨rfl, (set_same h).1⟩
  · rw [List.getElem?_set_ne (Ne.symm e)] at h
    exact .inr ⟨e, h⟩
theorem Rl.setCell (r : Rl K ρ F H S) (hc : S[n]? = some (.d d)) (hr : ρ[n]? = some [a]) (ht : RepT K F (L2.upd H a o) (.ref a) d') (hz : isFz o = false := by rfl) : Rl K ρ F (L2.upd H a o) (S.set n (.d d')) := by
  have hf : F a = none := ((r.cell n _ [a] hc (by intro z; cases z) hr).2 a (by simp)).1
  have ne : ∀ b u, F b = some u → b ≠ a := fun b u h z => by
    rw [z, hf] at h
    cases h
  refine ⟨by rw [List.length_set]; exact r.len, ⟨fun b u m h => by rw [upd_ne (ne b u h)]; exact r.sub.of b u m h, fun b u m h => by rw [upd_ne (ne b u h)]; exact r.sub.mks b u m h⟩, fun m c as h1 h2 h3 => ?_, fun m l c c' as bs hml h1 h2 h3 h4 h5 h6 => ?_, fun b u q z => by
    by_cases e : b = a
    · rw [e, upd_same] at q
      cases q
      rw [hz] at z
      cases z
    · rw [upd_ne e] at q
      exact r.fz b u q z, fun ds as h1 h2 => by
    rcases setcell_get h1 with ⟨_, e2⟩ | ⟨_, e2⟩
    · cases e2
    · exact r.mks ds as e2 h2⟩
  · rcases setcell_get h1 with ⟨e1, e2⟩ | ⟨e1, e2⟩
    · subst e1 e2
      rw [hr] at h3
      cases h3
      refine ⟨⟨a, rfl, ht, by rw [upd_same]; rfl⟩, fun b hb => ?_⟩
      cases List.mem_singleton.mp hb
      exact ⟨hf, by rw [upd_same]; rfl⟩
    · obtain ⟨x, y⟩ := r.cell m c as e2 h2 h3
      have na : ∀ b ∈ as, b ≠ a := fun b hb z => by
        subst z
        exact r.apart m n c _ as [b] e1 e2 h2 h3 hc (by intro z; cases z) hr b hb (by simp)
      refine ⟨x.up (fun b u hb h => by rw [upd_ne (na b hb)]; exact h) (fun _ _ z => z), fun b hb => ⟨(y b hb).1, ?_⟩⟩
      rw [upd_ne (na b hb)]
      exact (y b hb).2
  · have g : ∀ {m : Nat} {c : Cl}, (S.set n (.d d'))[m]? = some c → c ≠ Cl.dead → ∃ c', S[m]? = some c' ∧ c' ≠ Cl.dead := fun {m c} h1 h2 => by
      rcases setcell_get h1 with ⟨e1, e2⟩ | ⟨e1, e2⟩
      · subst e1
        exact ⟨_, hc, (by intro z; cases z)⟩
      · exact ⟨c, e2, h2⟩
    obtain ⟨c1, g1, g2⟩ := g h1 h2
    obtain ⟨c2, g3, g4⟩ := g h4 h5
    exact r.apart m l c1 c2 as bs hml g1 g2 h3 g3 g4 h6
theorem Nx.setCell (hc : S[n]? = some (.d d)) (hr : ρ[n]? = some [a]) : Nx ρ F H S ρ F (L2.upd H a o) (S.set n (.d d')) := by
  refine ⟨fun _ as h => ⟨as, h, List.prefix_refl _⟩, fun _ _ h => h, fun b u h l => ?_, fun _ u h => .inl ⟨u, h⟩, fun b l => .inl ?_, fun b h => ?_⟩
  · have ne : b ≠ a := fun z => l (z ▸ Live.of hc hr)
    rw [upd_ne ne]
    exact h
  · obtain ⟨m, c, as, h1, h2, h3, h4⟩ := l
    rcases setcell_get h1 with ⟨e1, e2⟩ | ⟨e1, e2⟩
    · subst e1
      exact ⟨m, _, as, hc, (by intro z; cases z), h3, h4⟩
    · exact ⟨m, c, as, e2, h2, h3, h4⟩
  · by_cases e : b = a
    · subst e
      rw [upd_same] at h
      cases h
    · rw [upd_ne e] at h
      exact h
end
/-- what a name's cell holds -/
def cellD (env : Env) (S : Sto) (i : Nat) : Option (Nat × D) := match env[i]? with
  | some (some (.m n)) => match S[n]? with
    | some (.d d) => some (n, d)
    | _ => none
  | _ => none
theorem cellD_some {env : Env} {S : Sto} {i n : Nat} {d : D} (h : cellD env S i = some (n, d)) : env[i]? = some (some (.m n)) ∧ S[n]? = some (.d d) := by
  unfold cellD at h
  split at h
  · rename_i m e
    split at h
    · rename_i d' e2
      cases h
      exact ⟨e, e2⟩
    · cases h
  · cases h
/-- x[e], len(x), x.pop(e) of a name's cell -/
def cIxE (i : Nat) (fk : E D) : E D := bindE fk fun k env S => match cellD env S i with
  | some (_, x) => R.get (ixD x k) S
  | none => .no
def cLenE (i : Nat) : E D := fun env S => match cellD env S i with
  | some (_, x) => R.get (lenD x) S
  | none => .no
def popD : D → D → Option (D × D)
  | .lst xs, .int k => match ixN xs.length k with
    | some j => if decide (k.natAbs < 9223372036854775808) then (xs[j]?).map fun y => (y, .lst (xs.eraseIdx j)) else none
    | none => none
  | _, _ => none
def cPopE (i : Nat) (fk : E D) : E D := bindE fk fun k env S => match cellD env S i with
  | some (n, x) => match popD x k with
    | some (y, r) => .ok y (S.set n (.d r))
    | none => .no
  | none => .no
/-- the slot's cell ahead of anything: a list -/
def isList (i : Nat) (fe : E D) : E D := fun env S => match cellD env S i with
  | some (_, .lst _) => fe env S
  | _ => .no
/-- the slot's cell ahead of anything: it must be one -/
def isCell (i : Nat) (fe : E D) : E D := fun env S => match env[i]? with
  | some (some (.m _)) => fe env S
  | _ => .no
theorem isCell_run {K : Fr} {ρ : Rho} {F H : Hp} {S : Sto} {env : Env} {i : Nat} {fe : E D} {α : Type} {rel : Rel D α} {Q : α → Hp → Prop} {XQ : XK} (h : Wg rel K ρ F H S Q XQ (isCell i fe env S)) : (∃ n, env[i]? = some (some (.m n))) ∧ Wg rel K ρ F H S Q XQ (fe env S) := by
  unfold isCell at h
  split at h
  · rename_i n e
    exact ⟨⟨n, e⟩, h⟩
  · exact False.elim h
section
variable {X : Cx} {w : WX} {e : Expr} {fe : E D} {i : Nat} {x : Str} {pos xp ap cp p : Pos}
theorem pd_cIx (hN : X.N[i]? = some x) (hv : Vis X.env.scope x) (he : PD X .frz w e fe) (hs : PlainIx e := by exact fun _ _ => rfl) (hd : (x == ("__debug__" : Str)) = false := by decide) (hcd : (x == ("__classdict__" : Str)) = false := by decide) :
    PD X .frz w (.Subscript (.Name x xp) e pos) (isCell i (cIxE i fe)) := PE.imp (pe_ix ix_seq (pe_var hN hv hd hcd) he hs) (by
  rintro σ H Q ⟨ρ, F, S, env, rl, en, q⟩
  obtain ⟨⟨n, hn⟩, q⟩ := isCell_run q
  obtain ⟨b, as, h1, h2, h3⟩ := en.m i n hn
  refine ⟨.ref b, h1, ρ, F, S, env, rl, en, Wg.step kR.old q fun k S1 v ρ1 F1 H1 n1 r1 k1 q1 => ?_⟩
  have q1 : Wg (kR X.K .frz) X.K ρ1 F1 H1 S1 Q (fun cls dd H' => w cls dd σ H') (match cellD env S1 i with | some (_, x) => R.get (ixD x k) S1 | none => .no) := q1
  cases ec : cellD env S1 i with
  | none => rw [ec] at q1; exact False.elim q1
  | some mc =>
    obtain ⟨m, c⟩ := mc
    rw [ec] at q1
    obtain ⟨g1, g2⟩ := cellD_some ec
    obtain ⟨b', h4, h5, h6, h7, h8⟩ := cell_at r1 (en.later n1) g1 g2
    rw [h1] at h4
    cases h4
    exact ok_ix r1 h6 (Rep.top r1.sub k1) q1)
theorem pd_cLen (hg : Gl X "len") (hm : X.mg "len" = none) (hN : X.N[i]? = some x) (hv : Vis X.env.scope x) (hd : (x == ("__debug__" : Str)) = false := by decide) (hcd : (x == ("__classdict__" : Str)) = false := by decide)
    (hs : starEach [.Name x xp] X.env = (false, eval (.Name x xp) X.env) :: starEach [] X.env := by rfl) : PD X .frz w (.Call (.Name "len" p) [.Name x xp] [] pos) (cLenE i) := PE.imp (pe_callB call_len hg hm PySem.boot_len (pa_cons (pe_var hN hv hd hcd) pa_nil hs) (by decide) (by decide) hs rfl) (by
  rintro σ H Q ⟨ρ, F, S, env, rl, en, q⟩
  unfold cLenE at q
  cases ec : cellD env S i with
  | none => rw [ec] at q; exact False.elim q
  | some mc =>
    obtain ⟨m, c⟩ := mc
    rw [ec] at q
    obtain ⟨g1, g2⟩ := cellD_some ec
    obtain ⟨b', h4, h5, h6, h7, h8⟩ := cell_at rl en g1 g2
    exact ⟨.ref b', h4, ok_len rl h6 q⟩)
theorem pd_cPop (hN : X.N[i]? = some x) (hv : Vis X.env.scope x) (he : PD X .frz w e fe) (hd : (x == ("__debug__" : Str)) = false := by decide) (hcd : (x == ("__classdict__" : Str)) = false := by decide)
    (m : BmOk X (.Name x xp) "pop" e ap cp := by exact ⟨rfl, rfl, rfl, rfl, rfl⟩) :
    PD X .frz w (.Call (.Attribute (.Name x xp) "pop" ap) [e] [] cp) (isList i (cPopE i fe)) := PE.imp (pe_bm PySem.F.plainAttrs_list PySem.F.slot_list_pop PySem.F.type_list_pop mt_popAt (pe_var hN hv hd hcd) (pa_cons he pa_nil m.st) m.base m.few m.line m.st m.pl) (by
  rintro σ H Q ⟨ρ, F, S, env, rl, en, q⟩
  unfold isList at q
  split at q
  · rename_i m xs em
    obtain ⟨g1, g2⟩ := cellD_some em
    obtain ⟨b, h1, h2, h3, h4, h5⟩ := cell_at rl en g1 g2
    cases id h3 with
    | lst hb l =>
      refine ⟨.ref b, h1, .inl ⟨rfl, _, SqL.of hb⟩, ρ, F, S, env, rl, en, Wg.step kR.old q fun k S1 v ρ1 F1 H1 n1 r1 k1 q1 => ?_⟩
      have q1 : Wg (kR X.K .frz) X.K ρ1 F1 H1 S1 Q (fun cls dd H' => w cls dd σ H') (match cellD env S1 i with | some (n, x) => (match popD x k with | some (y, r) => .ok y (S1.set n (.d r)) | none => .no) | none => .no) := q1
      cases ec : cellD env S1 i with
      | none => rw [ec] at q1; exact False.elim q1
      | some mc =>
        obtain ⟨m', c⟩ := mc
        rw [ec] at q1
        obtain ⟨g3, g4⟩ := cellD_some ec
        obtain ⟨b', h6, h7, h8, h9, h10⟩ := cell_at r1 (en.later n1) g3 g4
        rw [h1] at h6
        cases h6
        have k1 : Rep X.K F1 v k := k1
        cases c with
        | lst ys =>
          cases h8 with
          | lst hb1 l1 =>
            cases k1 with
            | int j =>
              have q1 : Wg (kR X.K .frz) X.K ρ1 F1 H1 S1 Q (fun cls dd H' => w cls dd σ H') (match popD (.lst ys) (.int j) with | some (y, r) => .ok y (S1.set m' (.d r)) | none => .no) := q1
              cases ep : popD (.lst ys) (.int j) with
              | none => rw [ep] at q1; exact False.elim q1
              | some yr =>
                obtain ⟨y, r⟩ := yr
                rw [ep] at q1
                unfold popD at ep
                dsimp only at ep
                split at ep
                · rename_i t et
                  split at ep
                  · rename_i hb2
                    have hb2 := of_decide_eq_true hb2
                    cases ey : ys[t]? with
                    | none => rw [ey] at ep; cases ep
                    | some y' =>
                      rw [ey] at ep
                      cases ep
                      obtain ⟨u, hu1, hu2⟩ := l1.get ey
                      obtain ⟨s1, _, _, _⟩ := ixN_seq et
                      refine ⟨b, _, j, t, u, rfl, rfl, hb1, by omega, by omega, by rw [l1.length]; exact s1, hu1, ?_⟩
                      exact q1 u ρ1 F1 _ (Nx.setCell g4 h7) (r1.setCell g4 h7 (.lst upd_same (l1.eraseIdx t))) hu2
                  · cases ep
                · cases ep
            | _ => exact False.elim q1
        | _ => exact False.elim q1
  · exact False.elim q)
end
end Fw

set_option  maxHeartbeats 4000000
/-! Fw: cells in statements; tuples taken apart; chains; what never comes -/
namespace Fw
open PySem L2 PySem.Spec PyProof.Rows

/-! ### a name's own becomes a cell -/
def celS (i : Nat) : Stm := fun env S => match env[i]? with
  | some (some (.o d)) => .nx (env.set i (some (.m S.length))) (S ++ [.d d])
  | _ => .no
section
variable {K : Fr} {ρ0 ρ : Rho} {F0 H0 F H : Hp} {S0 S : Sto} {σ : L2.St} {env : Env} {i : Nat} {d : D} {a : Addr}
theorem snoc_get {α : Type} {l : List α} {x y : α} {n : Nat} (h : (l ++ [x])[n]? = some y) : (n < l.length ∧ l[n]? = some y) ∨ (n = l.length ∧ y = x) := by
  by_cases c : n < l.length
  · rw [List.getElem?_append_left c] at h
    exact .inl ⟨c, h⟩
  · by_cases c2 : n = l.length
    · subst c2
      rw [List.getElem?_append_right (Nat.le_refl _), Nat.sub_self] at h
      exact .inr ⟨rfl, (Option.some.inj h).symm⟩
    · rw [List.getElem?_eq_none_iff.mpr (by rw [List.length_append]; simp; omega)] at h
      cases h
theorem mks_snoc {x : List Addr} (r : ∀ (ds : List D) (as : List Addr), S[0]? = some (.hp ds) → ρ[0]? = some as → ∀ a n, F a = some (mk n) → as[n]? = some a) (hl : ρ.length = S.length) (ds : List D) (as : List Addr) (h1 : (S ++ [.d d])[0]? = some (.hp ds)) (h2 : (ρ ++ [x])[0]? = some as) : ∀ a n, F a = some (mk n) → as[n]? = some a := by
  rcases snoc_get h1 with ⟨c1, g1⟩ | ⟨_, e1⟩
  · rw [List.getElem?_append_left (by omega)] at h2
    exact r ds as g1 h2
  · cases e1
theorem At.cel (t : At K ρ0 F0 H0 S0 ρ F H S σ env) (hi : env[i]? = some (some (.o d))) : ∃ a, At K ρ0 F0 H0 S0 (ρ ++ [[a]]) F H (S ++ [.d d]) σ (env.set i (some (.m S.length))) := by
  obtain ⟨a, h1, h2, h3, h4, h5⟩ := t.en.o i d hi
  have hl := t.rl.len
  have live : ∀ b, Live (ρ ++ [[a]]) (S ++ [.d d]) b → Live ρ S b ∨ b = a := by
    rintro b ⟨n, c, as, g1, g2, g3, g4⟩
    rcases snoc_get g1 with ⟨c1, g1⟩ | ⟨c1, g1⟩
    · rw [List.getElem?_append_left (by omega)] at g3
      exact .inl ⟨n, c, as, g1, g2, g3, g4⟩
    · subst c1
      rw [List.getElem?_append_right (by omega), hl, Nat.sub_self] at g3
      cases g3
      exact .inr (List.mem_singleton.mp g4)
  refine ⟨a, ⟨by rw [List.length_append, List.length_append, hl]; rfl, t.rl.sub, fun n c as g1 g2 g3 => ?_, fun n m c c' as bs hnm g1 g2 g3 g4 g5 g6 => ?_, t.rl.fz, mks_snoc t.rl.mks hl⟩, ⟨by rw [List.length_set]; exact t.en.len, fun j e g => ?_, fun j n g => ?_, fun j e g => ?_, fun j l e e' b hjl g1 g2 g3 => ?_, fun j b o' g => ?_⟩,
    ⟨fun n as g => ?_, t.nx.fsub, t.nx.keep, t.nx.fnew, fun b l => ?_, t.nx.grow⟩, fun j e b g1 g2 => ?_⟩
  · rcases snoc_get g1 with ⟨c1, g1⟩ | ⟨c1, e1⟩
    · rw [List.getElem?_append_left (by omega)] at g3
      exact t.rl.cell n c as g1 g2 g3
    · subst c1
      subst e1
      rw [List.getElem?_append_right (by omega), hl, Nat.sub_self] at g3
      cases g3
      exact ⟨⟨a, rfl, h2, h5⟩, fun b hb => by cases List.mem_singleton.mp hb; exact ⟨h3, h5⟩⟩
  · have k : ∀ {n : Nat} {c : Cl} {as : List Addr}, (S ++ [.d d])[n]? = some c → c ≠ Cl.dead → (ρ ++ [[a]])[n]? = some as → (S[n]? = some c ∧ ρ[n]? = some as) ∨ (n = S.length ∧ as = [a]) := by
      intro n c as g1 g2 g3
      rcases snoc_get g1 with ⟨c1, g1⟩ | ⟨c1, g1⟩
      · rw [List.getElem?_append_left (by omega)] at g3
        exact .inl ⟨g1, g3⟩
      · subst c1
        rw [List.getElem?_append_right (by omega), hl, Nat.sub_self] at g3
        cases g3
        exact .inr ⟨rfl, rfl⟩
    rcases k g1 g2 g3 with ⟨p1, p2⟩ | ⟨p1, p2⟩
    · rcases k g4 g5 g6 with ⟨q1, q2⟩ | ⟨q1, q2⟩
      · exact t.rl.apart n m c c' as bs hnm p1 g2 p2 q1 g5 q2
      · subst q2
        intro b hb z
        cases List.mem_singleton.mp z
        exact h4 ⟨n, c, as, p1, g2, p2, hb⟩
    · rcases k g4 g5 g6 with ⟨q1, q2⟩ | ⟨q1, q2⟩
      · subst p2
        intro b hb z
        cases List.mem_singleton.mp hb
        exact h4 ⟨m, c', bs, q1, g5, q2, z⟩
      · exact absurd (p1.trans q1.symm) hnm
  · rcases env_get g with ⟨_, z, _⟩ | ⟨_, z⟩
    · cases z
    · exact t.en.f j e z
  · rcases env_get g with ⟨c, z, _⟩ | ⟨_, z⟩
    · cases z
      subst c
      exact ⟨a, [a], h1, by rw [List.getElem?_append_right (by omega), hl, Nat.sub_self]; rfl, rfl⟩
    · obtain ⟨b, as, k1, k2, k3⟩ := t.en.m j n z
      exact ⟨b, as, k1, by rw [List.getElem?_append_left (List.getElem?_eq_some_iff.mp k2).1]; exact k2, k3⟩
  · rcases env_get g with ⟨_, z, _⟩ | ⟨c, z⟩
    · cases z
    · obtain ⟨b, k1, k2, k3, k4, k5⟩ := t.en.o j e z
      refine ⟨b, k1, k2, k3, fun l => ?_, k5⟩
      rcases live b l with y | y
      · exact k4 y
      · subst y
        exact t.en.oo i j d e b (Ne.symm c) hi z h1 k1
  · rcases env_get g1 with ⟨_, z, _⟩ | ⟨c1, z1⟩
    · cases z
    · rcases env_get g2 with ⟨_, z, _⟩ | ⟨c2, z2⟩
      · cases z
      · exact t.en.oo j l e e' b hjl z1 z2 g3
  · rcases env_get g with ⟨_, z, _⟩ | ⟨_, z⟩
    · cases z
    · exact t.en.x j b o' z
  · obtain ⟨bs, k1, k2⟩ := t.nx.pre n as g
    exact ⟨bs, by rw [List.getElem?_append_left (List.getElem?_eq_some_iff.mp k1).1]; exact k1, k2⟩
  · rcases live b l with y | y
    · exact t.nx.cnew b y
    · subst y
      exact .inr (t.new i d b hi h1)
  · rcases env_get g1 with ⟨_, z, _⟩ | ⟨c1, z1⟩
    · cases z
    · exact t.new j e b z1 g2
end
theorem ps_cel {X : Cx} {w : WX} {sts : List Stmt} {fs : Stm} (i : Nat) (h : PSb X w sts fs) : PSb X w sts (seqS (celS i) fs) := PSs.imp h (by
  rintro D' σ H ⟨ρ0, F0, H0, S0, ρ, F, S, env, a, q⟩
  unfold seqS celS at q
  split at q
  · rename_i d e
    obtain ⟨b, a2⟩ := a.cel e
    exact ⟨ρ0, F0, H0, S0, _, F, _, _, a2, q⟩
  · exact False.elim q)

/-! ### x[e] = f, x[k], y = divmod(e, f) for a cell at x -/
section
variable {K : Fr} {ρ0 ρ : Rho} {F0 H0 F H : Hp} {S0 S : Sto} {σ : L2.St} {env : Env} {n : Nat} {d d' : D} {a : Addr} {o : HO}
theorem At.setCell (t : At K ρ0 F0 H0 S0 ρ F H S σ env) (hc : S[n]? = some (.d d)) (hr : ρ[n]? = some [a]) (ht : RepT K F (L2.upd H a o) (.ref a) d') (hz : isFz o = false := by rfl) : At K ρ0 F0 H0 S0 ρ F (L2.upd H a o) (S.set n (.d d')) σ env :=
  t.later (Nx.setCell hc hr) (t.rl.setCell hc hr ht hz)
end
def cPutS (i : Nat) (fk fe : E D) : Stm := fun env S => match cellD env S i with
  | some (_, .lst _) => (fe env S).st env fun x S1 => (getE asI fk env S1).st env fun k S2 => match cellD env S2 i with
    | some (n, .lst ys) => match ixN ys.length k with
      | some j => .nx env (S2.set n (.d (.lst (ys.set j x))))
      | none => .no
    | _ => .no
  | _ => .no
section
variable {X : Cx} {w : WX} {e f a b : Expr} {fe ff fa fb : E D} {i j : Nat} {x y : Str} {pos xp yp ap cp sp p tp : Pos} {kk : Nat}
theorem ps_cPut (hN : X.N[i]? = some x) (hv : Vis X.env.scope x) (he : PD X .frz w e fe) (hf : PD X .frz w f ff) (hd : (x == ("__debug__" : Str)) = false := by decide) (hcd : (x == ("__classdict__" : Str)) = false := by decide)
    (hs : swapsWithSole [.Subscript (.Name x xp) f sp] e pos.line X.env = pure false := by rfl) (hw : swappedStores [.Subscript (.Name x xp) f sp] e X.env = pure none := by rfl)
    (hsub : SubOk X (.Name x xp) f sp := by exact fun _ => rfl) (h1 : (assignEach [.Subscript (.Name x xp) f sp] X.env).map (·.2) = [assign (.Subscript (.Name x xp) f sp) X.env] := by rfl) :
    PSt X w (.Assign [.Subscript (.Name x xp) f sp] e pos) (cPutS i ff fe) := PS.imp (ps_asg he (pg_sub (pe_var hN hv hd hcd) hf set_list hsub) hs hw h1) (by
  rintro D' σ H ⟨ρ0, F0, H0, S0, ρ, F, S, env, a, q⟩
  unfold cPutS at q
  split at q
  · rename_i m xs em
    obtain ⟨g1, g2⟩ := cellD_some em
    obtain ⟨b, h1, h2, h3, h4, h5⟩ := cell_at a.rl a.en g1 g2
    refine ⟨ρ, F, S, env, a.rl, a.en, Ws.step a q fun d S1 v ρ1 F1 H1 n1 a1 k1 q1 => ?_⟩
    refine ⟨.ref b, h1, ρ1, F1, S1, env, a1.rl, a1.en, ?_⟩
    have q1 : Ws X.K ρ0 F0 H0 S0 w D' ((((ff env S1).bind fun x S1 => R.get (asI x) S1)).st env fun k S2 => match cellD env S2 i with
      | some (n, .lst ys) => (match ixN ys.length k with | some j => .nx env (S2.set n (.d (.lst (ys.set j d)))) | none => .no)
      | _ => .no) := q1
    cases ee : ff env S1 with
    | ok y S2 =>
      rw [ee] at q1
      intro u ρ2 F2 H2 n2 r2 k2
      have k2 : Rep X.K F2 u y := k2
      cases k2 with
      | int k =>
        have q1 : Ws X.K ρ0 F0 H0 S0 w D' (match cellD env S2 i with
          | some (n, .lst ys) => (match ixN ys.length k with | some j => .nx env (S2.set n (.d (.lst (ys.set j d)))) | none => .no)
          | _ => .no) := q1
        split at q1
        · rename_i n ys en
          obtain ⟨g3, g4⟩ := cellD_some en
          have a2 := a1.later n2 r2
          obtain ⟨b', h6, h7, h8, h9, h10⟩ := cell_at r2 a2.en g3 g4
          rw [h1] at h6
          cases h6
          cases h8 with
          | lst hb l =>
            split at q1
            · rename_i j ej
              exact ⟨b, _, k, j, rfl, rfl, hb, by rw [l.length]; exact ej, q1 ρ2 F2 _ σ (a2.setCell g4 h7 (.lst upd_same (l.set (Rep.mono n2.fsub k1) j)))⟩
            · exact False.elim q1
        · exact False.elim q1
      | _ => exact False.elim q1
    | exc y S2 =>
      rw [ee] at q1
      exact fun cls dd ρ2 F2 H2 n2 r2 x2 => q1 cls dd ρ2 F2 H2 σ (a1.later n2 r2) x2
    | no =>
      rw [ee] at q1
      exact q1
  · exact False.elim q)
/-- x[k], y = divmod(a, b), k written -/
def divF (env : Env) (i : Nat) (k : Int) (j : Nat) (x : D) (S1 : Sto) : RS := match x with
  | .tup [u, v] => match cellD env S1 i with
    | some (n, .lst ys) => match ixN ys.length k with
      | some t => .nx (env.set j (some (.f v))) (S1.set n (.d (.lst (ys.set t u))))
      | none => .no
    | _ => .no
  | _ => .no
def divS (i : Nat) (k : Int) (j : Nat) (fa fb : E D) : Stm := fun env S => match cellD env S i with
  | some (_, .lst _) => (opE (gIc cDiv fun m n => .tup [.int (m / n), .int (m % n)]) fa fb env S).st env (divF env i k j)
  | _ => .no
theorem ps_div {k : Int} {c : Nat} {kp dp : Pos} (hc : X.calm = true) (hgl : Gl X "divmod") (hm : X.mg "divmod" = none) (hN : X.N[i]? = some x) (hv : Vis X.env.scope x) (nd : X.N.Nodup) (hNj : X.N[j]? = some y) (hy : Loc X.env.scope y) (ha : PD X .bor w a fa) (hb : PD X .bor w b fb)
    (hd : (x == ("__debug__" : Str)) = false := by decide) (hcd : (x == ("__classdict__" : Str)) = false := by decide)
    (hss : starEach [a, b] X.env = (false, eval a X.env) :: starEach [b] X.env := by rfl) (hs2 : starEach [b] X.env = (false, eval b X.env) :: starEach [] X.env := by rfl)
    (hs : swapsWithSole [.Tuple [.Subscript (.Name x xp) (.Constant (.int k) c kp) sp, .Name y yp] kk tp] (.Call (.Name "divmod" dp) [a, b] [] cp) pos.line X.env = pure false := by rfl)
    (hw : swappedStores [.Tuple [.Subscript (.Name x xp) (.Constant (.int k) c kp) sp, .Name y yp] kk tp] (.Call (.Name "divmod" dp) [a, b] [] cp) X.env = pure none := by rfl)
    (hf : X.fn y = true ∨ X.env.scope.names.lookup y = some .local := by first | exact .inl rfl | exact .inr rfl | assumption)
    (hsub : SubOk X (.Name x xp) (.Constant (.int k) c kp) sp := by exact fun _ => rfl) (h1 : (assignEach [(.Tuple [.Subscript (.Name x xp) (.Constant (.int k) c kp) sp, .Name y yp] kk tp)] X.env).map (·.2) = [assign (.Tuple [.Subscript (.Name x xp) (.Constant (.int k) c kp) sp, .Name y yp] kk tp) X.env] := by rfl)
    (a1 : (assignEach [.Subscript (.Name x xp) (.Constant (.int k) c kp) sp, .Name y yp] X.env).map (·.2) = assign (.Subscript (.Name x xp) (.Constant (.int k) c kp) sp) X.env :: (assignEach [.Name y yp] X.env).map (·.2) := by rfl) (a2 : (assignEach [.Name y yp] X.env).map (·.2) = assign (.Name y yp) X.env :: (assignEach [] X.env).map (·.2) := by rfl)
    (hn : (assignEach [.Subscript (.Name x xp) (.Constant (.int k) c kp) sp, .Name y yp] X.env).length = 2 := by rfl) (hst : (assignEach [.Subscript (.Name x xp) (.Constant (.int k) c kp) sp, .Name y yp] X.env).findIdx? (·.1) = none := by rfl) :
    PSt X w (.Assign [.Tuple [.Subscript (.Name x xp) (.Constant (.int k) c kp) sp, .Name y yp] kk tp] (.Call (.Name "divmod" dp) [a, b] [] cp) pos) (divS i k j fa fb) := by
  have he : PE X (.Call (.Name "divmod" dp) [a, b] [] cp) (tCB _ (tCons (tD X.K .bor w fa) (tCons (tD X.K .bor w fb) tNil))) := pe_callB call_divmod hgl hm (by decide +kernel) (pa_cons ha (pa_cons hb pa_nil hs2) hss) (by decide) (by decide) hss (by rw [hs2]; rfl)
  have hg := pg_tup (pos := tp) (k := kk) hc (pgs_cons (pg_sub (pe_var hN hv hd hcd) (pe_int (i := k) (pos := kp)) set_list hsub) (pgs_cons (pg_name nd hNj hy hf) pgs_nil a2) a1) hn hst
  refine PS.imp (ps_asg he hg hs hw h1) ?_
  rintro D' σ H ⟨ρ0, F0, H0, S0, ρ, F, S, env, t, q⟩
  unfold divS at q
  split at q
  · rename_i m xs em
    obtain ⟨g1, g2⟩ := cellD_some em
    obtain ⟨bb, h1, h2, h3, h4, h5⟩ := cell_at t.rl t.en g1 g2
    -- the value, then the stores
    have ok : COk2 X.K .frz (fun xs H Q => ∃ i j : Int, xs = [.int i, .int j] ∧ CDiv i j ∧ ∀ p, H p = none → Q (.ref p) (L2.upd H p (.tup [.int (i / j), .int (i % j)]))) (gIc cDiv fun m n => .tup [.int (m / n), .int (m % n)]) := by
      intro ρ F H S Q XQ u v a b r ha hb h
      cases ha with
      | int m =>
        cases hb with
        | int n =>
          by_cases e : cDiv m n = true
          · rw [show (gIc cDiv fun m n => D.tup [.int (m / n), .int (m % n)]) (.int m) (.int n) = some (.tup [.int (m / n), .int (m % n)]) from if_pos e] at h
            have e2 := e
            unfold cDiv at e2
            simp only [Bool.and_eq_true, decide_eq_true_eq] at e2
            have e2 : CDiv m n := ⟨e2.1, by omega⟩
            exact ⟨m, n, rfl, e2, fun p hp => h.allocF r hp (.tup (.inl (.inl upd_same)) (.cons (.int _) (.cons (.int _) .nil)))⟩
          · rw [show (gIc cDiv fun m n => D.tup [.int (m / n), .int (m % n)]) (.int m) (.int n) = none from if_neg e] at h
            exact False.elim h
        | _ => exact False.elim h
      | _ => exact False.elim h
    refine b2_run ok ⟨ρ, F, S, env, t.rl, t.en, Ws.step t q fun d S1 v ρ1 F1 H1 n1 a1 k1 q1 => ?_⟩
    unfold divF at q1
    split at q1
    · rename_i u v'
      split at q1
      · rename_i n ys en
        obtain ⟨g3, g4⟩ := cellD_some en
        obtain ⟨b', h6, h7, h8, h9, h10⟩ := cell_at a1.rl a1.en g3 g4
        rw [h1] at h6
        cases h6
        cases h8 with
        | lst hb1 l =>
          split at q1
          · rename_i t' et
            have k1 : Rep X.K F1 v (.tup [u, v']) := k1
            cases k1 with
            | tup hx lx =>
              rename_i tt us
              cases lx with
              | cons r1 lx =>
                cases lx with
                | cons r2 lx =>
                  cases lx
                  rename_i x1 x2
                  refine ⟨_, _, rfl, sqT_sub a1.rl.sub hx, rfl, x1, [x2], rfl, .ref bb, h1, bb, _, k, t', rfl, rfl, hb1, by rw [l.length]; exact et, x2, [], rfl, rfl, ?_⟩
                  exact q1 ρ1 F1 _ _ ((a1.setCell g4 h7 (.lst upd_same (l.set r1 t'))).setF r2)
          · exact False.elim q1
      · exact False.elim q1
    · exact False.elim q1
  · exact False.elim q
end

/-! ### a, b = e -/
def tupS (is : List Nat) (fe : E D) : Stm := fun env S => (fe env S).st env fun x S1 => match tgT is x with
  | some us => .nx (setE env us) S1
  | none => .no
theorem ps_tupS {X : Cx} {w : WX} {tg e : Expr} {fe : E D} {is : List Nat} {pos : Pos} (he : PD X .frz w e fe) (hg : PTg X tg (tgT is)) (hs : swapsWithSole [tg] e pos.line X.env = pure false := by rfl) (hw : swappedStores [tg] e X.env = pure none := by rfl) (h1 : (assignEach [tg] X.env).map (·.2) = [assign tg X.env] := by rfl) :
    PSt X w (.Assign [tg] e pos) (tupS is fe) := PS.imp (ps_asg he hg hs hw h1) (by
  rintro D' σ H ⟨ρ0, F0, H0, S0, ρ, F, S, env, a, q⟩
  refine ⟨ρ, F, S, env, a.rl, a.en, Ws.step a q fun d S1 v ρ1 F1 H1 n1 a1 k1 q1 => ?_⟩
  have q1 : Ws X.K ρ0 F0 H0 S0 w D' (match tgT is d with | some us => .nx (setE env us) S1 | none => .no) := q1
  cases e1 : tgT is d with
  | none => rw [e1] at q1; exact False.elim q1
  | some us =>
    rw [e1] at q1
    exact ⟨F1, d, us, a1.rl.sub, k1, e1, fun ws u => q1 ρ1 F1 H1 _ (a1.setUs u)⟩)

/-! ### a statement that never comes -/
def noS : Stm := fun _ _ => .no
theorem ps_no {X : Cx} {w : WX} {st : Stmt} : PSt X w st noS := PS.imp ps_never (by
  rintro D' σ H ⟨ρ0, F0, H0, S0, ρ, F, S, env, a, q⟩
  exact q)
theorem psb_no {X : Cx} {w : WX} {sts : List Stmt} : PSb X w sts noS := PSs.imp pss_never (by
  rintro D' σ H ⟨ρ0, F0, H0, S0, ρ, F, S, env, a, q⟩
  exact q)

/-! ### a < b < c -/
def chainE (g1 g2 : D → D → Option D) (fa fb fc : E D) : E D := bindE fa fun x => bindE fb fun y env S => match g1 x y with
  | some (.bl true) => (fc env S).bind fun z S2 => R.get (g2 y z) S2
  | some (.bl false) => .ok (.bl false) S
  | _ => .no
section
variable {X : Cx} {w : WX} {a b c : Expr} {fa fb fc : E D} {pos : Pos} {r1 r2 : R2} {g1 g2 : D → D → Option D}
/-- a comparison's rule that hands back a truth -/
structure CmpOk (K : Fr) (r : R2) (g : D → D → Option D) : Prop where
  bl : ∀ {F H : Hp} {x y : V} {a b : D} {c : Bool} {Q : VK}, Sub F H → RepT K F H x a → RepT K F H y b → g a b = some (.bl c) → Q (.bl c) H → r x y H Q
theorem CmpOk.of {K : Fr} {f : Int → Int → Bool} : CmpOk K (rI0 fun i j => .bl (f i j)) (gI fun i j => .bl (f i j)) := ⟨fun {F H x y a b c Q} s ha hb e q => by
  cases ha with
  | int i =>
    cases hb with
    | int j =>
      have e : some (D.bl (f i j)) = some (.bl c) := e
      cases e
      exact ⟨i, j, rfl, rfl, q⟩
    | _ => cases e
  | _ => cases e⟩
theorem chain_run {σ : L2.St} {H : Hp} {Q : VK} (k1 : CmpOk X.K r1 g1) (k2 : OpOk X.K .frz r2 g2) (h : tD X.K .frz w (chainE g1 g2 fa fb fc) σ H Q) : tChain r1 r2 (tD X.K .bor w fa) (tD X.K .bor w fb) (tD X.K .bor w fc) σ H Q := by
  obtain ⟨ρ, F, S, env, rl, en, q⟩ := h
  refine ⟨ρ, F, S, env, rl, en, Wg.step kR.old q fun x S1 v ρ1 F1 H1 n1 r1' k1' q1 => ?_⟩
  refine ⟨ρ1, F1, S1, env, r1', en.later n1, Wg.step kR.old q1 fun y S2 u ρ2 F2 H2 n2 r2' k2' q2 => ?_⟩
  have q2 : Wg (kR X.K .frz) X.K ρ2 F2 H2 S2 Q (fun cls dd H' => w cls dd σ H') (match g1 x y with
    | some (.bl true) => (fc env S2).bind fun z S2 => R.get (g2 y z) S2
    | some (.bl false) => .ok (.bl false) S2
    | _ => .no) := q2
  split at q2
  · rename_i e
    refine k1.bl r2'.sub (bor_top2 r2' (bor_later n2 k1')) (bor_top2 r2' k2') e ⟨true, rfl, ?_⟩
    rw [if_pos rfl]
    refine ⟨ρ2, F2, S2, env, r2', (en.later n1).later n2, Wg.step kR.old q2 fun z S3 t ρ3 F3 H3 n3 r3' k3' q3 => ?_⟩
    exact k2 r3' (bor_top2 r3' (bor_later n3 k2')) (bor_top2 r3' k3') q3
  · rename_i e
    refine k1.bl r2'.sub (bor_top2 r2' (bor_later n2 k1')) (bor_top2 r2' k2') e ⟨false, rfl, ?_⟩
    rw [if_neg Bool.false_ne_true]
    exact Wg.give q2 r2' (Rep.bl false)
  · exact False.elim q2
theorem pd_chain {op op' : CmpOp} (ho : OpR X (compareOp op) r1) (ho' : OpR X (compareOp op') r2) (k1 : CmpOk X.K r1 g1) (k2 : OpOk X.K .frz r2 g2) (ha : PD X .bor w a fa) (hb : PD X .bor w b fb) (hc : PD X .bor w c fc)
    (hm : lastMarks [op, op'] [b, c] = false := by with_unfolding_all rfl) : PD X .frz w (.Compare a [op, op'] [b, c] pos) (chainE g1 g2 fa fb fc) := PE.imp (pe_chain ho ho' ha hb hc hm) fun _ _ _ q => chain_run k1 k2 q
end
end Fw

set_option  maxHeartbeats 4000000
/-! Fw: giving away (dicts are locked then); dicts -/
namespace Fw
open PySem L2 PySem.Spec PyProof.Rows

/-! ### a thing that may be locked at an end -/
theorem PE.lockR {X : Cx} {e : Expr} {t : TE} (h : PE X e t) : PE X e (fun σ H Q => t σ H fun v H1 => Q v H1 ∨ ∃ a u, v = .ref a ∧ H1 a = some u ∧ Mut (some u) ∧ ∀ od, Q v (L2.upd H1 a (.frz od u))) := by
  refine ⟨fun pins s σ H Q I hw => ?_⟩
  refine thn (h.run pins s σ H _ I hw) fun v s1 ⟨x, H1, I1, r, q⟩ => ?_
  rcases q with q | ⟨a, u, rfl, ha, mu, q⟩
  · exact ⟨x, H1, I1, r, q⟩
  · obtain ⟨od, I2⟩ := I1.lock ha mu
    exact ⟨_, _, I2, r, q od⟩
theorem PSs.lockL {X : Cx} {sts : List Stmt} {t : TS} (h : PSs X sts t) : PSs X sts (fun D' σ H => t D' σ H ∨ ∃ a u, H a = some u ∧ Mut (some u) ∧ ∀ od, t D' σ (L2.upd H a (.frz od u))) := by
  refine ⟨fun pins s σ H D' I hw => ?_⟩
  rcases hw with q | ⟨a, u, ha, mu, q⟩
  · exact h.run pins s σ H D' I q
  · obtain ⟨od, I2⟩ := I.lock ha mu
    exact h.run pins s σ _ D' I2 (q od)
section
variable {K : Fr} {ρ : Rho} {F H : Hp} {S : Sto}
/-- an own object is frozen, if need be locked -/
structure Frzd (K : Fr) (ρ : Rho) (F H : Hp) (S : Sto) (a : Addr) (d : D) (F2 H2 : Hp) : Prop where
  same : Same F F2
  rl : Rl K ρ F2 H2 S
  rep : Rep K F2 (.ref a) d
  only : ∀ b o, F2 b = some o → F b = some o ∨ b = a
  hp : ∀ b, b ≠ a → H2 b = H b
  there : (H2 a).isSome = true
theorem Rl.lock (r : Rl K ρ F H S) {a : Addr} {ob : Obj} {u : HO} (hf : F a = none) (hl : ¬ Live ρ S a) : Rl K ρ (L2.upd F a (.frz ob u)) (L2.upd H a (.frz ob u)) S := by
  refine ⟨r.len, ⟨fun b v m q => ?_, fun b v m q => ?_⟩, fun n c as h1 h2 h3 => ?_, r.apart, fun b v q z => ?_, fun ds as s1 s2 b n q => by
    by_cases e : b = a
    · rw [e, upd_same] at q
      cases q
    · rw [upd_ne e] at q
      exact r.mks ds as s1 s2 b n q⟩
  · by_cases e : b = a
    · rw [e, upd_same] at q
      cases q
      rw [e]
      exact .inl upd_same
    · rw [upd_ne e] at q
      rw [upd_ne e]
      exact r.sub.of b v m q
  · by_cases e : b = a
    · rw [e, upd_same]
      rfl
    · rw [upd_ne e] at q
      rw [upd_ne e]
      exact r.sub.mks b v m q
  · obtain ⟨x, y⟩ := r.cell n c as h1 h2 h3
    have na : ∀ b ∈ as, b ≠ a := fun b hb e => hl ⟨n, c, as, h1, h2, h3, e ▸ hb⟩
    refine ⟨x.up (fun b v hb h => by rw [upd_ne (na b hb)]; exact h) (Same.upd1 hf), fun b hb => ?_⟩
    rw [upd_ne (na b hb)]
    exact ⟨(y b hb).1.up (upd_ne (na b hb)), (y b hb).2⟩
  · by_cases e : b = a
    · rw [e, upd_same]
      exact ⟨_, rfl⟩
    · rw [upd_ne e] at q
      rw [upd_ne e]
      exact r.fz b v q z
theorem frzAny (r : Rl K ρ F H S) {a : Addr} {d : D} (t : RepT K F H (.ref a) d) (hf : F a = none) (hl : ¬ Live ρ S a) (hs : (H a).isSome = true) :
    (∃ F2, Frzd K ρ F H S a d F2 H) ∨ ∃ u, H a = some u ∧ Mut (some u) ∧ ∀ od, ∃ F2, Frzd K ρ F H S a d F2 (L2.upd H a (.frz od u)) := by
  cases hd : d.isK with
  | false =>
    obtain ⟨F2, s2, r2, p2, f2⟩ := frzAt r t hd hf hl
    exact .inl ⟨F2, s2, r2, p2, f2, fun _ _ => rfl, hs⟩
  | true =>
    have fin : ∀ o : HO, ∀ b u, (L2.upd F a o) b = some u → F b = some u ∨ b = a := fun o b u q => by
      by_cases e : b = a
      · exact .inr e
      · rw [upd_ne e] at q
        exact .inl q
    cases t with
    | dK h k l =>
      rcases h with h | ⟨od, h⟩
      · refine .inr ⟨_, h, trivial, fun od => ⟨_, Same.upd1 hf, r.lock hf hl, .dK upd_same k (l.mono (Same.upd1 hf)), fin _, fun b hb => upd_ne hb, by rw [upd_same]; rfl⟩⟩
      · exact .inl ⟨_, Same.upd1 hf, r.frz hf hl (.inl h), .dK upd_same k (l.mono (Same.upd1 hf)), fin _, fun _ _ => rfl, hs⟩
    | _ => cases hd
end
theorem Nx.frzd {K : Fr} {ρ0 ρ : Rho} {F0 F F2 H0 H H2 : Hp} {S0 S : Sto} {a : Addr} {d : D} (n : Nx ρ0 F0 H0 S0 ρ F H S) (z : Frzd K ρ F H S a d F2 H2) (h0 : H0 a = none) : Nx ρ0 F0 H0 S0 ρ F2 H2 S := by
  refine ⟨n.pre, fun x u g => z.same x u (n.fsub x u g), fun x u g l => ?_, fun x u g => ?_, n.cnew, fun x g => ?_⟩
  · have e : x ≠ a := fun e => by rw [e, h0] at g; cases g
    rw [z.hp x e]
    exact n.keep x u g l
  · rcases z.only x u g with y | y
    · exact n.fnew x u y
    · rw [y]
      exact .inr (.inl h0)
  · by_cases e : x = a
    · have t := z.there
      rw [e] at g
      rw [g] at t
      cases t
    · rw [z.hp x e] at g
      exact n.grow x g
section
variable {X : Cx} {w : WX} {e : Expr} {fe : E D}
theorem PD.fz (h : PD X .own w e fe) : PD X .frz w e fe := PE.imp (PE.lockR h) fun σ H Q ⟨ρ, F, S, env, r, en, q⟩ => ⟨ρ, F, S, env, r, en, by
  cases z : fe env S with
  | ok d S2 =>
    rw [z] at q
    intro v ρ2 F2 H2 n2 r2 k2
    obtain ⟨t, o⟩ := k2
    by_cases e : ∃ a, v = .ref a
    · obtain ⟨a, rfl⟩ := e
      obtain ⟨a1, a2, a3, a4⟩ := o a rfl
      rcases frzAny r2 t a1 a2 a4 with ⟨F3, y⟩ | ⟨u, h1, h2, h3⟩
      · exact .inl (q (.ref a) ρ2 F3 H2 (n2.frzd y a3) y.rl y.rep)
      · refine .inr ⟨a, u, rfl, h1, h2, fun od => ?_⟩
        obtain ⟨F3, y⟩ := h3 od
        exact q (.ref a) ρ2 F3 _ (n2.frzd y a3) y.rl y.rep
    · exact .inl (q v ρ2 F2 H2 n2 r2 (t.flat fun a z => e ⟨a, z⟩))
  | exc x S2 =>
    rw [z] at q
    exact q
  | no =>
    rw [z] at q
    exact q⟩
end
/-- a ghost step: the name's own is given away -/
def frzS (i : Nat) : Stm := fun env S => match env[i]? with
  | some (some (.o d)) => .nx (env.set i (some (.f d))) S
  | some (some (.f d)) => .nx env S
  | _ => .no
theorem At.frzd {K : Fr} {ρ0 ρ : Rho} {F0 F F2 H0 H H2 : Hp} {S0 S : Sto} {σ : L2.St} {env : Env} {i : Nat} {d : D} {b : Addr} (a : At K ρ0 F0 H0 S0 ρ F H S σ env) (e : env[i]? = some (some (.o d))) (h1 : σ[i]? = some (some (.ref b))) (z : Frzd K ρ F H S b d F2 H2) :
    At K ρ0 F0 H0 S0 ρ F2 H2 S σ (env.set i (some (.f d))) := by
  have h0 := a.new i d b e h1
  have n2 := a.nx.frzd z h0
  have ne : ∀ {j : Nat} {d' : D} {c : Addr}, j ≠ i → env[j]? = some (some (.o d')) → σ[j]? = some (some (.ref c)) → c ≠ b := fun hj ej sj hc => by
    subst hc
    exact a.en.oo _ i _ d _ hj ej e sj h1
  refine ⟨z.rl, ⟨by rw [List.length_set]; exact a.en.len, fun j d' g => ?_, fun j n g => ?_, fun j d' g => ?_, fun j l d1 d2 c hjl g1 g2 g3 => ?_, fun j b o' g => ?_⟩, n2, fun j d' c g1 g2 => ?_⟩
  · rcases env_get g with ⟨c, y, _⟩ | ⟨c, y⟩
    · cases y
      subst c
      exact ⟨_, h1, z.rep⟩
    · obtain ⟨u, g1, g2⟩ := a.en.f j d' y
      exact ⟨u, g1, g2.mono z.same⟩
  · rcases env_get g with ⟨_, y, _⟩ | ⟨_, y⟩
    · cases y
    · exact a.en.m j n y
  · rcases env_get g with ⟨_, y, _⟩ | ⟨c, y⟩
    · cases y
    · obtain ⟨u, g1, g2, g3, g4, g5⟩ := a.en.o j d' y
      have nb := ne c y g1
      refine ⟨u, g1, g2.up (fun x o q hx => ?_) z.same, ?_, g4, by rw [z.hp u nb]; exact g5⟩
      · cases q
        rw [z.hp u nb]
        exact hx
      · cases q : F2 u with
        | none => rfl
        | some o =>
          rcases z.only u o q with q | q
          · rw [g3] at q; cases q
          · exact absurd q nb
  · rcases env_get g1 with ⟨_, y, _⟩ | ⟨_, z1⟩
    · cases y
    · rcases env_get g2 with ⟨_, y, _⟩ | ⟨_, z2⟩
      · cases y
      · exact a.en.oo j l d1 d2 c hjl z1 z2 g3
  · rcases env_get g with ⟨_, y, _⟩ | ⟨_, y⟩
    · cases y
    · exact (a.en.x j b o' y).imp fun _ w => ⟨w.1, w.2.mono z.same⟩
  · rcases env_get g1 with ⟨_, y, _⟩ | ⟨_, y⟩
    · cases y
    · exact a.new j d' c y g2
theorem ps_frz {X : Cx} {w : WX} {sts : List Stmt} {fs : Stm} (i : Nat) (h : PSb X w sts fs) : PSb X w sts (seqS (frzS i) fs) := PSs.imp (PSs.lockL h) (by
  rintro D' σ H ⟨ρ0, F0, H0, S0, ρ, F, S, env, a, q⟩
  unfold seqS frzS at q
  split at q
  · rename_i d e
    obtain ⟨b, h1, h2, h3, h4, h5⟩ := a.en.o i d e
    rcases frzAny a.rl h2 h3 h4 h5 with ⟨F3, y⟩ | ⟨u, u1, u2, u3⟩
    · exact .inl ⟨ρ0, F0, H0, S0, ρ, F3, S, _, a.frzd e h1 y, q⟩
    · refine .inr ⟨b, u, u1, u2, fun od => ?_⟩
      obtain ⟨F3, y⟩ := u3 od
      exact ⟨ρ0, F0, H0, S0, ρ, F3, S, _, a.frzd e h1 y, q⟩
  · exact .inl ⟨ρ0, F0, H0, S0, ρ, F, S, env, a, q⟩
  · exact False.elim q)
/-- return of a name's own -/
def retV (i : Nat) : Stm := fun env S => match env[i]? with
  | some (some (.o d)) => .rt .own d S
  | _ => .no
theorem ps_retV {X : Cx} {w : WX} {i : Nat} {x : Str} {xp pos : Pos} (hN : X.N[i]? = some x) (hv : Vis X.env.scope x) (hd : (x == ("__debug__" : Str)) = false := by decide) (hcd : (x == ("__classdict__" : Str)) = false := by decide)
    : PSt X w (.Return (some (.Name x xp)) pos) (retV i) := PS.imp (L2.ps_ret (pe_var hN hv hd hcd)) (by
  rintro D' σ H ⟨ρ0, F0, H0, S0, ρ, F, S, env, a, q⟩
  unfold retV at q
  split at q
  · rename_i d e
    obtain ⟨b, h1, h2, h3, h4, h5⟩ := a.en.o i d e
    exact ⟨.ref b, h1, q (.ref b) ρ F H a.nx a.rl ⟨h2, fun c ec => by cases ec; exact ⟨h3, h4, a.new i d b e h1, h5⟩⟩⟩
  · exact False.elim q)

/-! ### two rules for one sign -/
def orG {α β γ : Type} (g h : α → β → Option γ) : α → β → Option γ := fun a b => (g a b).orElse fun _ => h a b
theorem OpOk.or {K : Fr} {k : Kd} {r r' : R2} {g g' : D → D → Option D} (h : OpOk K k r g) (h' : OpOk K k r' g') : OpOk K k (fun x y H Q => r x y H Q ∨ r' x y H Q) (orG g g') := by
  intro ρ F H S Q XQ x y a b rl ha hb q
  unfold orG at q
  cases e : g a b with
  | some d =>
    rw [e] at q
    exact .inl (h rl ha hb (by rw [e]; exact q))
  | none =>
    rw [e] at q
    exact .inr (h' rl ha hb q)
theorem OpOkF.or {K : Fr} {k : Kd} {r r' : R2} {g g' : D → D → Option D} (h : OpOkF K k r g) (h' : OpOkF K k r' g') : OpOkF K k (fun x y H Q => r x y H Q ∨ r' x y H Q) (orG g g') := by
  intro ρ F H S Q XQ x y a b rl ha hb ta tb q
  unfold orG at q
  cases e : g a b with
  | some d =>
    rw [e] at q
    exact .inl (h rl ha hb ta tb (by rw [e]; exact q))
  | none =>
    rw [e] at q
    exact .inr (h' rl ha hb ta tb q)
theorem OpOk.toF {K : Fr} {k : Kd} {r : R2} {g : D → D → Option D} (h : OpOk K k r g) : OpOkF K k r g := fun rl ha hb _ _ q => h rl ha hb q

/-! ### dicts -/
def keyD : D → Option Key
  | .int i => some (.inl i)
  | .str x => some (.inr x)
  | _ => none
def valD (kvs : List (Key × D)) (k : Key) : Option D := (kvs.find? fun kv => decide (kv.1 = k)).map (·.2)
def putD (kvs : List (Key × D)) (k : Key) (v : D) : List (Key × D) :=
  if (kvs.any fun kv => decide (kv.1 = k)) = true then kvs.map (fun kv => if kv.1 = k then (kv.1, v) else kv) else kvs ++ [(k, v)]
theorem keyD_rep {K : Fr} {F H : Hp} {v : V} {d : D} {k : Key} (r : RepT K F H v d) (e : keyD d = some k) : v = kV k := by
  cases r <;> first | (cases e; rfl) | cases e
section
variable {K : Fr} {F : Hp}
theorem val_rep {k : Key} : ∀ {ws : List (Key × V)} {kvs : List (Key × D)}, ws.map (·.1) = kvs.map (·.1) → RepL K F (ws.map (·.2)) (kvs.map (·.2)) →
    (valD kvs k = none → valV ws k = none) ∧ ∀ d, valD kvs k = some d → ∃ v, valV ws k = some v ∧ Rep K F v d
  | [], [], _, _ => ⟨fun _ => rfl, fun d h => nomatch h⟩
  | [], _ :: _, e, _ => nomatch e
  | _ :: _, [], e, _ => nomatch e
  | (a, v) :: ws, (b, d) :: kvs, e, r => by
    have e1 : a = b := (List.cons.inj e).1
    have e2 := (List.cons.inj e).2
    subst e1
    cases r with
    | cons h t =>
      obtain ⟨i1, i2⟩ := val_rep (k := k) e2 t
      by_cases c : a = k
      · have z : valD ((a, d) :: kvs) k = some d := by simp [valD, List.find?_cons, c]
        rw [z, valV_pos c]
        exact ⟨fun q => (by cases q), fun d' q => by cases q; exact ⟨v, rfl, h⟩⟩
      · have z : valD ((a, d) :: kvs) k = valD kvs k := by simp [valD, List.find?_cons, c]
        rw [z, valV_neg c]
        exact ⟨i1, i2⟩
theorem any_keys {α β : Type} {k : Key} : ∀ {ws : List (Key × α)} {kvs : List (Key × β)}, ws.map (·.1) = kvs.map (·.1) → (ws.any fun kv => decide (kv.1 = k)) = kvs.any fun kv => decide (kv.1 = k)
  | [], [], _ => rfl
  | [], _ :: _, e => nomatch e
  | _ :: _, [], e => nomatch e
  | (a, v) :: ws, (b, d) :: kvs, e => by
    have e1 : a = b := (List.cons.inj e).1
    subst e1
    simp only [List.any_cons]
    rw [any_keys (List.cons.inj e).2]
theorem put_map {k : Key} {v : V} {d : D} (h : Rep K F v d) : ∀ {ws : List (Key × V)} {kvs : List (Key × D)}, ws.map (·.1) = kvs.map (·.1) → RepL K F (ws.map (·.2)) (kvs.map (·.2)) →
    (ws.map fun kv => if kv.1 = k then (kv.1, v) else kv).map (·.1) = (kvs.map fun kv => if kv.1 = k then (kv.1, d) else kv).map (·.1) ∧ RepL K F ((ws.map fun kv => if kv.1 = k then (kv.1, v) else kv).map (·.2)) ((kvs.map fun kv => if kv.1 = k then (kv.1, d) else kv).map (·.2))
  | [], [], _, r => ⟨rfl, r⟩
  | [], _ :: _, e, _ => nomatch e
  | _ :: _, [], e, _ => nomatch e
  | (a, x) :: ws, (b, y) :: kvs, e, r => by
    have e1 : a = b := (List.cons.inj e).1
    subst e1
    cases r with
    | cons r1 t =>
      obtain ⟨i1, i2⟩ := put_map (k := k) h (List.cons.inj e).2 t
      simp only [List.map_cons]
      by_cases c : a = k
      · rw [if_pos c, if_pos c]
        exact ⟨by rw [i1], .cons h i2⟩
      · rw [if_neg c, if_neg c]
        exact ⟨by rw [i1], .cons r1 i2⟩
theorem put_rep {k : Key} {v : V} {d : D} (h : Rep K F v d) {ws : List (Key × V)} {kvs : List (Key × D)} (e : ws.map (·.1) = kvs.map (·.1)) (r : RepL K F (ws.map (·.2)) (kvs.map (·.2))) :
    (putK ws k v).map (·.1) = (putD kvs k d).map (·.1) ∧ RepL K F ((putK ws k v).map (·.2)) ((putD kvs k d).map (·.2)) := by
  unfold putK putD
  rw [any_keys (k := k) e]
  split
  · exact put_map h e r
  · rw [List.map_append, List.map_append, List.map_append, List.map_append, e]
    exact ⟨rfl, r.append (.one h)⟩
end
def ixK : D → D → Option D
  | .dK kvs, y => (keyD y).bind (valD kvs)
  | _, _ => none
def hasK (neg : Bool) : D → D → Option D
  | y, .dK kvs => (keyD y).map fun k => .bl (if neg then !(valD kvs k).isSome else (valD kvs k).isSome)
  | _, _ => none
def rDGet : R2 := fun x y H Q => ∃ a v, x = .ref a ∧ DGet H a y (some v) ∧ Q v H
def rDIn (neg : Bool) : R2 := fun y x H Q => ∃ a o, x = .ref a ∧ DGet H a y o ∧ Q (.bl (if neg then !o.isSome else o.isSome)) H
section
variable {X : Cx}
theorem ix_dict (hu : X.A.units + 1 < cLine) : IxR X rDGet := by
  intro value slice pins s σ H x y v u Q I rx ry h hs
  obtain ⟨a, z, rfl, g, q⟩ := h
  obtain rfl : v = Value.ref a := rx
  have hT := dict_typeIs I g
  unfold subscriptTail
  refine wpAny_bind ?_
  rw [getitemInPython_of_ne hT.not_modules]
  refine wpAny_bind (wpAny_specialOf hT PySem.F.slot_dict_getitem.lookup ?_)
  have fin : wpAny (model X.prog X.w) X.A (subscripted slice false (.ref a) u) (fun r s₃ => wpAny (model X.prog X.w) X.A (letTemporaryGo value (.ref a) r >>= fun _ => pure r) (EP X pins σ Q) X.xe s₃) X.xe s := by
    rw [hs]
    exact wpAny_operating (wpAny_mono (d_getItem hu I g ry fun w' s3 I3 rw' => (⟨z, H, I3, rw', q⟩ : EP X pins σ Q w' s3)) (fun r s₃ h₃ => wpAny_bind (wpAny_letTemporaryGo (wpAny_pure h₃))) fun _ _ x => x)
  first
    | exact wpAny_pure (wpAny_bind fin)
    | exact wpAny_bind (wpAny_pure (wpAny_bind fin))
    | exact wpAny_bind fin
theorem op_dIn (hu : X.A.units + 1 < cLine) : OpR X (compareOp .In) (rDIn false) := by
  intro pins s σ H y x u v Q I ry rx h
  obtain ⟨a, o, rfl, g, q⟩ := h
  obtain rfl : v = Value.ref a := rx
  exact d_in hu I g ry fun s3 I3 => ⟨.bl o.isSome, H, I3, rfl, q⟩
theorem op_dNotIn (hu : X.A.units + 1 < cLine) : OpR X (compareOp .NotIn) (rDIn true) := by
  intro pins s σ H y x u v Q I ry rx h
  obtain ⟨a, o, rfl, g, q⟩ := h
  obtain rfl : v = Value.ref a := rx
  exact d_notIn hu I g ry fun s3 I3 => ⟨.bl (!o.isSome), H, I3, rfl, q⟩
theorem ok_ixK {K : Fr} : OpOk K .frz rDGet ixK := by
  intro ρ F H S Q XQ x y a b r ha hb h
  cases ha with
  | dK hx k l =>
    cases ek : keyD b with
    | none => rw [show ixK (.dK _) b = none by show (keyD b).bind _ = _; rw [ek]; rfl] at h; exact False.elim h
    | some key =>
      cases ev : valD _ key with
      | none => rw [show ixK (.dK _) b = none by show (keyD b).bind _ = _; rw [ek]; exact ev] at h; exact False.elim h
      | some d =>
        rw [show ixK (.dK _) b = some d by show (keyD b).bind _ = _; rw [ek]; exact ev] at h
        obtain ⟨v, h1, h2⟩ := (val_rep k l).2 d ev
        exact ⟨_, v, rfl, .inl ⟨_, key, hx, keyD_rep hb ek, h1.symm⟩, Wg.give h r h2⟩
  | _ => exact False.elim h
theorem ok_hasK {K : Fr} {k : Kd} {neg : Bool} : OpOk K k (rDIn neg) (hasK neg) := by
  intro ρ F H S Q XQ y x b a r hb ha h
  cases ha with
  | dK hx k l =>
    rename_i ws kvs
    cases ek : keyD b with
    | none => rw [show hasK neg b (.dK kvs) = none by show (keyD b).map _ = _; rw [ek]; rfl] at h; exact False.elim h
    | some key =>
      rw [show hasK neg b (.dK kvs) = some (.bl (if neg then !(valD kvs key).isSome else (valD kvs key).isSome)) by show (keyD b).map _ = _; rw [ek]; rfl] at h
      refine ⟨_, valV _ key, rfl, .inl ⟨_, key, hx, keyD_rep hb ek, rfl⟩, ?_⟩
      have e : (valV ws key).isSome = (valD kvs key).isSome := by
        cases ev : valD kvs key with
        | none => rw [(val_rep k l).1 ev]; rfl
        | some d =>
          obtain ⟨v, h1, _⟩ := (val_rep k l).2 d ev
          rw [h1]
          rfl
      rw [e]
      exact h.sc r rfl
  | _ => exact False.elim h
end
/-- all subscripts, all `in` -/
def ixG := orG ixD (orG ixS ixK)
def inA (neg : Bool) := orG (inG neg) (orG (inS neg) (hasK neg))
theorem OpOk.gen {K : Fr} {r : R2} {g : D → D → Option D} (h : OpOk K .frz r g) : OpOk K .frz r g := h
section
variable {X : Cx} {w : WX} {a b e : Expr} {fa fb fe : E D} {pos p : Pos} {i : Nat} {x : Str}
theorem pd_sub (hu : X.A.units + 1 < cLine) (ha : PD X .bor w a fa) (hb : PD X .bor w b fb) (hs : PlainIx b := by exact fun _ _ => rfl) : PD X .frz w (.Subscript a b pos) (opE ixG fa fb) := pd_ix (ix_seq.or (ix_seq.or (ix_dict hu))) (ok_ix.or (ok_ixS.or ok_ixK)) ha hb hs
theorem op_inA (hu : X.A.units + 1 < cLine) : OpR X (compareOp .In) (fun x y H Q => rIn X.K false x y H Q ∨ (∃ i j, x = V.str i ∧ y = V.str j ∧ Q (.bl (!(Builtin.Str.occurrences j i 0 j.length 1).isEmpty)) H) ∨ rDIn false x y H Q) := op_in_seq.or (op_in_str.or (op_dIn hu))
theorem op_ninA (hu : X.A.units + 1 < cLine) : OpR X (compareOp .NotIn) (fun x y H Q => rIn X.K true x y H Q ∨ (∃ i j, x = V.str i ∧ y = V.str j ∧ Q (.bl (!(!(Builtin.Str.occurrences j i 0 j.length 1).isEmpty))) H) ∨ rDIn true x y H Q) := op_notIn_seq.or (op_notIn_str.or (op_dNotIn hu))
theorem pd_in (hu : X.A.units + 1 < cLine) (ha : PD X .bor w a fa) (hb : PD X .bor w b fb) (hm : behindInMarks .In b = false) : PD X .frz w (.Compare a [.In] [b] pos) (opE (inA false) fa fb) := pd_cmp (op_inA hu) (ok_in.or (ok_inS.or ok_hasK)) ha hb hm
theorem pd_nin (hu : X.A.units + 1 < cLine) (ha : PD X .bor w a fa) (hb : PD X .bor w b fb) (hm : behindInMarks .NotIn b = false) : PD X .frz w (.Compare a [.NotIn] [b] pos) (opE (inA true) fa fb) := pd_cmp (op_ninA hu) (ok_in.or (ok_ninS.or ok_hasK)) ha hb hm
/-- + of anything frozen -/
def plusG := orG addI (orG addS (orG catL catT))
def dnewE : E D := fun _ S => .ok (.dK []) S
theorem pd_dnew : PD X .own w (.Dict [] [] pos) dnewE := PE.imp pe_dnewK (by
  rintro σ H Q ⟨ρ, F, S, env, rl, en, q⟩
  exact fun p hp => Wg.alloc q rl hp (.dK (.inl upd_same) rfl .nil))
/-- d[k] = v, d being a name's own -/
def dPutS (i : Nat) (fk fe : E D) : Stm := fun env S => (fe env S).st env fun v S1 => match env[i]? with
  | some (some (.o (.dK _))) => (fk env S1).st env fun k S2 => match env[i]?, keyD k with
    | some (some (.o (.dK kvs))), some key => if sz (kvs.length + 1) then .nx (env.set i (some (.o (.dK (putD kvs key v))))) S2 else .no
    | _, _ => .no
  | _ => .no
end
end Fw

set_option  maxHeartbeats 4000000
/-! Fw: len(set(..)) -/
namespace Fw
open PySem L2 PySem.Spec PyProof.Rows
def keysD : List D → Option (List Key)
  | [] => some []
  | x :: r => (keyD x).bind fun k => (keysD r).map (k :: ·)
theorem keys_rep {K : Fr} {F : Hp} : ∀ {ds : List D} {vs : List V} {ks : List Key}, RepL K F vs ds → keysD ds = some ks → vs = ks.map kV
  | [], _, _, .nil, h => by
    cases h
    rfl
  | d :: r, _, ks, .cons h1 t, h => by
    have h : ((keyD d).bind fun k => (keysD r).map (k :: ·)) = some ks := h
    cases e : keyD d with
    | none => rw [e] at h; cases h
    | some k =>
      rw [e] at h
      have h : (keysD r).map (k :: ·) = some ks := h
      cases e2 : keysD r with
      | none => rw [e2] at h; cases h
      | some js =>
        rw [e2] at h
        cases h
        rw [keys_rep t e2, keyD_rep (H := F) (h1.top ⟨fun a o _ z => .inl z, fun a o _ z => by rw [z]; rfl⟩) e]
        rfl
def lenKs (ds : List D) : Option D := (keysD ds).bind fun ks => if decide (ks.length < 4000) then some (.int (cntK ks ks.length : Nat)) else none
def lenK : D → Option D
  | .lst ds => lenKs ds
  | .tup ds => lenKs ds
  | _ => none
theorem lenKs_some {ds : List D} {d : D} (h : lenKs ds = some d) : ∃ ks, keysD ds = some ks ∧ ks.length < 4000 ∧ d = .int (cntK ks ks.length : Nat) := by
  unfold lenKs at h
  cases e : keysD ds with
  | none => rw [e] at h; cases h
  | some ks =>
    rw [e] at h
    have h : (if decide (ks.length < 4000) then some (D.int (cntK ks ks.length : Nat)) else none) = some d := h
    split at h
    · rename_i c
      cases h
      exact ⟨ks, rfl, of_decide_eq_true c, rfl⟩
    · cases h
theorem pd_lenK {X : Cx} {w : WX} {a : Expr} {fa : E D} {p p2 q pos : Pos} (hc : X.calm = true) (hg : Gl X "len") (hm : X.mg "len" = none) (hg2 : Gl X "set") (hm2 : X.mg "set" = none) (ha : PD X .bor w a fa)
    (na : starEach [a] X.env = (false, eval a X.env) :: starEach [] X.env := by rfl) : PD X .frz w (.Call (.Name "len" p) [.Call (.Name "set" p2) [a] [] q] [] pos) (b1E lenK fa) := PE.imp (pe_lenK hc hg hm hg2 hm2 ha na) (by
  rintro σ H Q ⟨ρ, F, S, env, rl, en, q⟩
  refine ⟨ρ, F, S, env, rl, en, Wg.step kR.old q fun x S1 v ρ1 F1 H1 n1 r1 k1 q1 => ?_⟩
  obtain ⟨x, ex, t, q1⟩ := rs_get r1 (bor_top2 r1 k1) q1
  clear ex
  cases hx : lenK x with
  | none =>
    have q1 : Wg (kR X.K .frz) X.K ρ1 F1 H1 S1 Q (fun cls dd H' => w cls dd σ H') (R.get (lenK x) S1) := q1
    rw [hx] at q1
    exact False.elim q1
  | some d =>
    have q1 : Wg (kR X.K .frz) X.K ρ1 F1 H1 S1 Q (fun cls dd H' => w cls dd σ H') (R.get (lenK x) S1) := q1
    rw [hx] at q1
    cases t with
    | lst hy l =>
      obtain ⟨ks, e1, e2, e3⟩ := lenKs_some hx
      subst e3
      exact ⟨_, ks, rfl, .inl (by rw [← keys_rep l e1]; exact SqL.of hy), e2, Wg.give q1 r1 (Rep.int _)⟩
    | tup hy l =>
      obtain ⟨ks, e1, e2, e3⟩ := lenKs_some hx
      subst e3
      exact ⟨_, ks, rfl, .inr (by rw [← keys_rep l e1]; exact hy), e2, Wg.give q1 r1 (Rep.int _)⟩
    | _ => cases hx)
end Fw

set_option  maxHeartbeats 4000000
/-! Fw: bodies in their own contexts; objects made; globals; isinstance; places in lists; dicts walked -/
namespace Fw
open PySem L2 PySem.Spec PyProof.Rows

theorem takes_w0 {X : Cx} : Takes X w0 := fun u s' ⟨_, _, _, _, _, _, _, _, _, _, _, _, _, _, _, _, h⟩ => False.elim h

/-! ### a def's promise by its body -/
abbrev cxD (P : Program) (w : World) (K : Fr) (mg : Str → Option Value) (base : Heap) (N : List Str) (qual : Str) (st : Stmt) (f : Addr) (cdv : Value) (A : Around) (outer : List PySem.Env) (s : Shared) (H : Hp) (E : XK) : Cx :=
  cxOf (L2.CX P w) P w K mg base N qual (defScope st) f cdv A outer s H E
abbrev wD (E : XK) : WX := fun cls d _ H' => E cls d H'
section
variable {P : Program} {w : World} {K : Fr} {mg : Str → Option Value} {base : Heap} {x qual : Str} {st : Stmt} {f : Addr} {fd : FuncData} {N ps : List Str} {lv m n : Nat} {k : Kd} {body : Stm}
theorem cal_fn (F : L2.Fun K x qual st f fd) (Sc : FnScope N ps (defScope st)) (hb : Binds K fd ps [])
    (h : ∀ (cdv : Value) (A : Around) (outer : List PySem.Env) (s : Shared) (H : Hp) (E : XK), Room lv (cxD P w K mg base N qual st f cdv A outer s H E).A → (cxD P w K mg base N qual st f cdv A outer s H E).A.guards = some [] →
      Takes (cxD P w K mg base N qual st f cdv A outer s H E) (wD E) → PassesOwn (model P w) (cxD P w K mg base N qual st f cdv A outer s H E).A (cxD P w K mg base N qual st f cdv A outer s H E).env (cxD P w K mg base N qual st f cdv A outer s H E).xe →
      PSb (cxD P w K mg base N qual st f cdv A outer s H E) (wD E) (defBody st) body)
    (hm : ps.length = m := by rfl) (hn : N.length = n := by rfl) : Cal P w K mg base (lv + 1) f (spF K k (defF k m n body)) := by
  subst hm
  subst hn
  refine cal_of F Sc hb (spF_len fun ws S c => if_neg c) fun cdv A outer s H vs Q E hr hgd hsp => ?_
  refine ⟨_, h cdv A outer s H E hr hgd (takes_of rfl rfl rfl rfl) (passes_of rfl), ?_⟩
  obtain ⟨ρ, F', S, ws, r, p, q⟩ := hsp
  have hl : ws.length = ps.length := by
    by_cases c : ws.length = ps.length
    · exact c
    · rw [show defF k ps.length N.length body ws S = .no from if_neg c] at q
      exact False.elim q
  rw [show defF k ps.length N.length body ws S = bodyF k N.length body ws S from if_pos hl] at q
  refine ⟨ρ, F', H, S, ρ, F', S, frame N.length ws, ⟨r, En.start p, Nx.refl, fun i d a h1 _ => ?_⟩, ?_⟩
  · obtain ⟨v, _, h2⟩ := Paired.get2 p (frame_get h1)
    exact False.elim h2
  · unfold bodyF at q
    cases e : body (frame N.length ws) S with
    | nx env' S' =>
      rw [e] at q
      exact fun ρ1 F1 H1 σ a => q .non _ F1 H1 (a.nx.take r.len) (a.rl.take _) (sv_rel rfl)
    | rt j d S' =>
      rw [e] at q
      obtain ⟨c, q⟩ := if_ok q
      intro v ρ1 F1 H1 n1 r1 k1
      cases k with
      | own =>
        cases j with
        | own => exact q v _ F1 H1 (n1.take r.len) (r1.take _) (KRel.take (k := .own) k1)
        | _ => cases c
      | frz =>
        cases j with
        | frz => exact q v _ F1 H1 (n1.take r.len) (r1.take _) k1
        | _ => cases c
      | bor => cases c
    | exc x env' S' =>
      rw [e] at q
      exact fun cls dd ρ1 F1 H1 σ a x1 => q cls dd _ F1 H1 (a.nx.take r.len) (a.rl.take _) x1
    | no =>
      rw [e] at q
      exact q

/-! ### a thing is made -/
/-- what __init__ leaves: self is the cell at S.length -/
def iniF (C : Addr) (m n : Nat) (body : Stm) : Fnt := fun ws S => if ws.length = m then match body (some (.m S.length) :: frame n ws) (S ++ [.d (.ob C [])]) with
  | .nx _ S' => match S'[S.length]? with
    | some (.d d) => .ok d (S'.take S.length)
    | _ => .no
  | .exc x _ S' => .exc x (S'.take S.length)
  | _ => .no else .no
def spI (K : Fr) (C : Addr) (g : Fnt) : Sp := fun vs H Q E => ∃ ρ F H1 S ws x dx rest, vs = V.ref x :: rest ∧ H = L2.upd (L2.upd H1 dx (.own x)) x (.ins C dx []) ∧ H1 x = none ∧ H1 dx = none ∧ dx ≠ x ∧ Rl K ρ F H1 S ∧ Paired (wR1 K ρ F) rest ws ∧
  Wg (kR K .own) K ρ F H1 S (fun v H2 => v = .ref x → Q .non H2) E (g ws S)
theorem Rl.made {ρ : Rho} {F H1 : Hp} {S : Sto} {C x dx : Addr} (r : Rl K ρ F H1 S) (hx : H1 x = none) (hd : H1 dx = none) (ne : dx ≠ x) :
    Rl K (ρ ++ [[x]]) F (L2.upd (L2.upd H1 dx (.own x)) x (.ins C dx [])) (S ++ [.d (.ob C [])]) ∧ Nx ρ F H1 S (ρ ++ [[x]]) F (L2.upd (L2.upd H1 dx (.own x)) x (.ins C dx [])) (S ++ [.d (.ob C [])]) := by
  have hl := r.len
  have r2 : Rl K ρ F (L2.upd H1 dx (.own x)) S := r.new hd
  have hx2 : (L2.upd H1 dx (.own x)) x = none := by
    rw [upd_ne (Ne.symm ne)]
    exact hx
  have r3 : Rl K ρ F (L2.upd (L2.upd H1 dx (.own x)) x (.ins C dx [])) S := r2.new hx2
  have n3 : Nx ρ F H1 S ρ F (L2.upd (L2.upd H1 dx (.own x)) x (.ins C dx [])) S := (Nx.new hd).trans (Nx.new hx2)
  have nl : ¬ Live ρ S x := r.nolive0 hx
  have fx : F x = none := r.sub.no0 hx
  have up : (L2.upd (L2.upd H1 dx (.own x)) x (.ins C dx [])) x = some (.ins C dx []) := upd_same
  have rg : ∀ {i : Nat} {as : List Addr}, i ≠ S.length → (ρ ++ [[x]])[i]? = some as → ρ[i]? = some as := fun {i as} c g => by
    by_cases c2 : i < ρ.length
    · rw [List.getElem?_append_left c2] at g
      exact g
    · rw [List.getElem?_eq_none_iff.mpr (by rw [List.length_append]; simp; omega)] at g
      cases g
  have rs : ∀ {as : List Addr}, (ρ ++ [[x]])[S.length]? = some as → as = [x] := fun {as} g => by
    rw [List.getElem?_append_right (by omega), hl, Nat.sub_self] at g
    cases g
    rfl
  have k : ∀ {i : Nat} {c : Cl} {as : List Addr}, (S ++ [.d (.ob C [])])[i]? = some c → (ρ ++ [[x]])[i]? = some as → (i ≠ S.length ∧ S[i]? = some c ∧ ρ[i]? = some as) ∨ (i = S.length ∧ c = .d (.ob C []) ∧ as = [x]) := by
    intro i c as g1 g2
    rcases snoc_get g1 with ⟨c1, g1⟩ | ⟨c1, e1⟩
    · exact .inl ⟨by omega, g1, rg (by omega) g2⟩
    · subst c1
      exact .inr ⟨rfl, e1, rs g2⟩
  refine ⟨⟨by rw [List.length_append, List.length_append, hl]; rfl, r3.sub, fun i c as g1 g2 g3 => ?_, fun i j c c' as bs hij g1 g2 g3 g4 g5 g6 => ?_, r3.fz, mks_snoc r3.mks hl⟩, ⟨fun i as g => ⟨as, ?_, List.prefix_refl _⟩, n3.fsub, n3.keep, n3.fnew, fun a l => ?_, n3.grow⟩⟩
  · rcases k g1 g3 with ⟨c1, a1, a2⟩ | ⟨c1, a1, a2⟩
    · exact r3.cell i c as a1 g2 a2
    · subst a1
      subst a2
      exact ⟨⟨x, rfl, .ob up rfl .nil, by rw [up]; rfl⟩, fun b hb => by cases List.mem_singleton.mp hb; exact ⟨fx, by rw [up]; rfl⟩⟩
  · rcases k g1 g3 with ⟨c1, a1, a2⟩ | ⟨c1, a1, a2⟩
    · rcases k g4 g6 with ⟨c2, b1, b2⟩ | ⟨c2, b1, b2⟩
      · exact r3.apart i j c c' as bs hij a1 g2 a2 b1 g5 b2
      · subst b2
        intro a ha z
        cases List.mem_singleton.mp z
        exact nl ⟨i, c, as, a1, g2, a2, ha⟩
    · rcases k g4 g6 with ⟨c2, b1, b2⟩ | ⟨c2, b1, b2⟩
      · subst a2
        intro a ha z
        cases List.mem_singleton.mp ha
        exact nl ⟨j, c', bs, b1, g5, b2, z⟩
      · exact absurd (c1.trans c2.symm) hij
  · rw [List.getElem?_append_left (List.getElem?_eq_some_iff.mp g).1]
    exact g
  · obtain ⟨i, c, as, g1, g2, g3, g4⟩ := l
    rcases k g1 g3 with ⟨c1, a1, a2⟩ | ⟨c1, a1, a2⟩
    · exact .inl ⟨i, c, as, a1, g2, a2, g4⟩
    · subst a2
      cases List.mem_singleton.mp g4
      exact .inr hx
theorem cal_ini {C : Addr} (F : L2.Fun K x qual st f fd) (Sc : FnScope N ps (defScope st)) (hb : Binds K fd ps [])
    (h : ∀ (cdv : Value) (A : Around) (outer : List PySem.Env) (s : Shared) (H : Hp) (E : XK), Room lv (cxD P w K mg base N qual st f cdv A outer s H E).A → (cxD P w K mg base N qual st f cdv A outer s H E).A.guards = some [] →
      Takes (cxD P w K mg base N qual st f cdv A outer s H E) (wD E) → PassesOwn (model P w) (cxD P w K mg base N qual st f cdv A outer s H E).A (cxD P w K mg base N qual st f cdv A outer s H E).env (cxD P w K mg base N qual st f cdv A outer s H E).xe →
      PSb (cxD P w K mg base N qual st f cdv A outer s H E) (wD E) (defBody st) body)
    (hm : ps.length = m + 1 := by rfl) (hn : N.length = n + 1 := by rfl) : Cal P w K mg base (lv + 1) f (spI K C (iniF C m n body)) := by
  refine cal_of F Sc hb ?_ fun cdv A outer s H vs Q E hr hgd hsp => ?_
  · rintro vs H Q E ⟨ρ, F', H1, S, ws, y, dx, rest, rfl, _, _, _, _, r, p, q⟩
    have e := Paired.length p
    by_cases c : ws.length = m
    · rw [List.length_cons, e, c, hm]
    · rw [show iniF C m n body ws S = .no from if_neg c] at q
      exact False.elim q
  refine ⟨_, h cdv A outer s H E hr hgd (takes_of rfl rfl rfl rfl) (passes_of rfl), ?_⟩
  obtain ⟨ρ, F', H1, S, ws, y, dx, rest, rfl, rfl, hx, hd, ne, r, p, q⟩ := hsp
  have hl : ws.length = m := by
    by_cases c : ws.length = m
    · exact c
    · rw [show iniF C m n body ws S = .no from if_neg c] at q
      exact False.elim q
  unfold iniF at q
  rw [if_pos hl] at q
  obtain ⟨r2, n2⟩ := Rl.made (C := C) r hx hd ne
  have p2 : Paired (wR1 K (ρ ++ [[y]]) F') (V.ref y :: rest) (W.m S.length :: ws) := by
    refine .cons ⟨y, [y], rfl, by rw [List.getElem?_append_right (by rw [r.len]; exact Nat.le_refl _), r.len, Nat.sub_self]; rfl, rfl⟩ (Paired.mapP p fun v z g => wR1.later n2 g)
  have ef : frame N.length (W.m S.length :: ws) = some (W.m S.length) :: frame n ws := by
    unfold frame
    rw [hn, List.length_cons, Nat.add_sub_add_right]
    rfl
  have r2 : Rl K (ρ ++ [[y]]) F' (L2.upd (L2.upd H1 dx (.own y)) y (.ins C dx [])) (S ++ [.d (.ob C [])]) := r2
  have a0 : At K (ρ ++ [[y]]) F' (L2.upd (L2.upd H1 dx (.own y)) y (.ins C dx [])) (S ++ [Cl.d (D.ob C [])]) (ρ ++ [[y]]) F' (L2.upd (L2.upd H1 dx (.own y)) y (.ins C dx [])) (S ++ [Cl.d (D.ob C [])]) (L2.start N (V.ref y :: rest)) (some (W.m S.length) :: frame n ws) :=
    ⟨r2, ef ▸ En.start p2, Nx.refl, fun i d a h1 _ => by
      rw [← ef] at h1
      obtain ⟨v, _, h2⟩ := Paired.get2 p2 (frame_get h1)
      exact False.elim h2⟩
  refine ⟨ρ ++ [[y]], F', _, S ++ [Cl.d (D.ob C [])], ρ ++ [[y]], F', S ++ [Cl.d (D.ob C [])], some (W.m S.length) :: frame n ws, a0, ?_⟩
  · cases e : body (some (W.m S.length) :: frame n ws) (S ++ [.d (.ob C [])]) with
    | nx env' S' =>
      rw [e] at q
      intro ρ1 F1 G1 σ a
      dsimp only at q
      split at q
      · rename_i d ed
        obtain ⟨bs, b1, b2⟩ := a.nx.pre S.length [y] (by rw [List.getElem?_append_right (by rw [r.len]; exact Nat.le_refl _), r.len, Nat.sub_self]; rfl)
        obtain ⟨⟨z, z1, z2, z3⟩, z4⟩ := a.rl.cell S.length _ bs ed (by intro z; cases z) b1
        subst z1
        obtain ⟨t, et⟩ := b2
        cases et
        have nt := n2.trans a.nx
        have ap : ¬ Live (ρ1.take S.length) (S'.take S.length) y := by
          rintro ⟨i, c, as, g1, g2, g3, g4⟩
          rw [List.getElem?_take] at g1 g3
          split at g1
          · rename_i hi
            rw [if_pos hi] at g3
            exact a.rl.apart i S.length c _ as [y] (by omega) g1 g2 g3 ed (by intro z; cases z) b1 y g4 (by simp)
          · cases g1
        exact q (.ref y) _ F1 G1 (nt.take r.len) (a.rl.take _) ⟨z2, fun b eb => by cases eb; exact ⟨(z4 y (by simp)).1, ap, hx, z3⟩⟩ rfl
      · exact False.elim q
    | rt j d S' => rw [e] at q; exact False.elim q
    | exc z env' S' =>
      rw [e] at q
      exact fun cls dd ρ1 F1 G1 σ a x1 => q cls dd _ F1 G1 ((n2.trans a.nx).take r.len) (a.rl.take _) x1
    | no => rw [e] at q; exact False.elim q
end
end Fw

set_option  maxHeartbeats 4000000
/-! Fw: making; fields of cells; globals; isinstance; places in lists; dicts written, walked -/
namespace Fw
open PySem L2 PySem.Spec PyProof.Rows

/-! ### C(..) -/
section
variable {X : Cx} {w : WX} {n : Nat} {f C : Addr} {x m : Str} {p pos apos : Pos} {e o : Expr} {es : List Expr} {fa : E D} {fs : E (List W)} {g : Fnt}
theorem pd_make (M : Mk X.K C f) (G : Cal X.prog X.w X.K X.mg X.base n f (spI X.K C g)) (hr : Room (n + 1) X.A) (hgd : X.A.guards = some []) (tk : Takes X w) (hg : Gl X x) (hm : X.mg x = some (.ref C)) (ha : PW' X w (e :: es) fs)
    (hdb : (x == ("__debug__" : Str)) = false := by decide) (he : starEach (e :: es) X.env = (false, eval e X.env) :: starEach es X.env := by rfl) (hpl : (backTo pos (starEach es X.env)).any (·.1) = false := by rfl) :
    PD X .own w (.Call (.Name x p) (e :: es) [] pos) (callE g fs) := PE.imp (pe_mk M G hr hgd tk hg hm ha hdb he hpl) (by
  rintro σ H Q ⟨ρ, F, S, env, rl, en, q⟩
  refine ⟨ρ, F, S, env, rl, en, Wg.step kR.old q fun ws S1 vs ρ1 F1 H1 n1 r1 k1 q1 => ?_⟩
  intro y dx hx hd ne
  refine ⟨ρ1, F1, H1, S1, ws, y, dx, vs, rfl, rfl, hx, hd, ne, r1, k1, ?_⟩
  cases z : g ws S1 with
  | ok d S2 =>
    rw [show (fun ws _ S => g ws S) ws env S1 = g ws S1 from rfl, z] at q1
    intro v ρ2 F2 H2 n2 r2 k2 ev
    subst ev
    exact ⟨rfl, q1 _ ρ2 F2 H2 n2 r2 k2⟩
  | exc y S2 =>
    rw [show (fun ws _ S => g ws S) ws env S1 = g ws S1 from rfl, z] at q1
    exact q1
  | no =>
    rw [show (fun ws _ S => g ws S) ws env S1 = g ws S1 from rfl, z] at q1
    exact q1)
end

/-! ### self.f = e, self a cell -/
def putFd (f : Str) (d : D) : List (Str × D) → List (Str × D)
  | [] => [(f, d)]
  | (g, x) :: r => if g = f then (g, d) :: r else (g, x) :: putFd f d r
theorem putF_rep {K : Fr} {F : Hp} {f : Str} {v : V} {d : D} (h : Rep K F v d) : ∀ {ws : List (Str × V)} {fs : List (Str × D)}, ws.map (·.1) = fs.map (·.1) → RepL K F (ws.map (·.2)) (fs.map (·.2)) →
    (putF f v ws).map (·.1) = (putFd f d fs).map (·.1) ∧ RepL K F ((putF f v ws).map (·.2)) ((putFd f d fs).map (·.2))
  | [], [], _, _ => ⟨rfl, .one h⟩
  | [], _ :: _, e, _ => nomatch e
  | _ :: _, [], e, _ => nomatch e
  | (a, x) :: ws, (b, y) :: fs, e, r => by
    have e1 : a = b := (List.cons.inj e).1
    subst e1
    cases r with
    | cons r1 t =>
      obtain ⟨i1, i2⟩ := putF_rep (f := f) h (List.cons.inj e).2 t
      unfold putF putFd
      by_cases c : a = f
      · rw [if_pos c, if_pos c]
        exact ⟨by rw [List.map_cons, List.map_cons, (List.cons.inj e).2], .cons h t⟩
      · rw [if_neg c, if_neg c]
        exact ⟨by rw [List.map_cons, List.map_cons, i1], .cons r1 i2⟩
def cFldS (C : Addr) (i : Nat) (f : Str) (fe : E D) : Stm := fun env S => (fe env S).st env fun d S1 => match cellD env S1 i with
  | some (n, .ob A fs) => if decide (A = C) && decide (fs.length < 1000) then .nx env (S1.set n (.d (.ob A (putFd f d fs)))) else .no
  | _ => .no
section
variable {X : Cx} {w : WX} {e : Expr} {fe : E D} {C : Addr} {i : Nat} {x f : Str} {pos xp ap : Pos}
theorem ps_cFld (hN : X.N[i]? = some x) (hv : Vis X.env.scope x) (he : PD X .frz w e fe) (c : Cls X.K C) (na : NoAttr X.K C f) (hd : (x == ("__debug__" : Str)) = false := by decide) (hcd : (x == ("__classdict__" : Str)) = false := by decide)
    (hs : swapsWith e (some (.Attribute (.Name x xp) f ap)) pos.line X.env = pure false := by rfl) : PSt X w (.Assign [.Attribute (.Name x xp) f ap] e pos) (cFldS C i f fe) := PS.imp (ps_fld (pe_var hN hv hd hcd) he hs) (by
  rintro D' σ H ⟨ρ0, F0, H0, S0, ρ, F, S, env, a, q⟩
  refine ⟨ρ, F, S, env, a.rl, a.en, Ws.step a q fun d S1 v ρ1 F1 H1 n1 a1 k1 q1 => ?_⟩
  have q1 : Ws X.K ρ0 F0 H0 S0 w D' (match cellD env S1 i with
    | some (n, .ob A fs) => if decide (A = C) && decide (fs.length < 1000) then .nx env (S1.set n (.d (.ob A (putFd f d fs)))) else .no
    | _ => .no) := q1
  split at q1
  · rename_i n A fs en
    obtain ⟨z, q2⟩ := ifs_ok q1
    clear q1
    obtain ⟨z1, z2⟩ := Bool.and_eq_true_iff.mp z
    have z1 := of_decide_eq_true z1
    have z2 := of_decide_eq_true z2
    subst z1
    obtain ⟨g3, g4⟩ := cellD_some en
    obtain ⟨b, h6, h7, h8, h9, h10⟩ := cell_at a1.rl a1.en g3 g4
    cases h8 with
    | ob hb hk hl =>
      rename_i dx ws
      have lw : ws.length < 1000 := by
        have := hl.length
        rw [List.length_map, List.length_map] at this
        omega
      obtain ⟨j1, j2⟩ := putF_rep (f := f) (show Rep X.K F1 v d from k1) hk hl
      exact ⟨.ref b, h6, b, A, dx, ws, rfl, hb, c, na, lw, q2 ρ1 F1 _ σ (a1.setCell g4 h7 (.ob upd_same j1 j2))⟩
  · exact False.elim q1)
/-- self.f read, self a cell -/
def cGetE (C : Addr) (i : Nat) (f : Str) : E D := fun env S => match cellD env S i with
  | some (_, .ob A fs) => if decide (A = C) then R.get (fs.lookup f) S else .no
  | _ => .no
theorem pd_cGet (hN : X.N[i]? = some x) (hv : Vis X.env.scope x) (c : Cls X.K C) (na : NoAttr X.K C f) (hb : attributeBase (.Name x xp) f X.env (eval (.Name x xp) X.env) = eval (.Name x xp) X.env := by rfl) (hd : (x == ("__debug__" : Str)) = false := by decide) (hcd : (x == ("__classdict__" : Str)) = false := by decide) :
    PD X .frz w (.Attribute (.Name x xp) f pos) (cGetE C i f) := PE.imp (pe_fld (pe_var hN hv hd hcd) hb) (by
  rintro σ H Q ⟨ρ, F, S, env, rl, en, q⟩
  unfold cGetE at q
  split at q
  · rename_i n A fs ec
    obtain ⟨z, q2⟩ := if_ok q
    clear q
    have z := of_decide_eq_true z
    subst z
    obtain ⟨g3, g4⟩ := cellD_some ec
    obtain ⟨b, h6, h7, h8, h9, h10⟩ := cell_at rl en g3 g4
    cases h8 with
    | ob hb hk hl =>
      cases el : fs.lookup f with
      | none => rw [el] at q2; exact False.elim q2
      | some d =>
        rw [el] at q2
        obtain ⟨u, h4, h5⟩ := (lookup_rep hk hl).2 d el
        exact ⟨.ref b, h6, b, A, _, _, u, rfl, hb, c, na, h4, Wg.give q2 rl h5⟩
  · exact False.elim q)
end

/-! ### globals -/
section
variable {X : Cx} {w : WX} {x : Str} {v : V} {d : D} {u : Value} {pos : Pos}
theorem pd_glob (hg : Gl X x) (hm : X.mg x = some u) (r : RelV v u) (hr : ∀ F, Rep X.K F v d) (hd : (x == ("__debug__" : Str)) = false := by decide) : PD X .frz w (.Name x pos) (kE d) := PE.imp (pe_glob hg hm r hd) (by
  rintro σ H Q ⟨ρ, F, S, env, rl, en, q⟩
  exact Wg.give q rl (hr F))
end

/-! ### isinstance -/
inductive Tn where
  | non | bool | int | str | list | tuple | dict
def Tn.name : Tn → String
  | .non => "NoneType" | .bool => "bool" | .int => "int" | .str => "str" | .list => "list" | .tuple => "tuple" | .dict => "dict"
def tnD : D → Option Tn
  | .non => some .non
  | .bl _ => some .bool
  | .int _ => some .int
  | .str _ => some .str
  | .lst _ => some .list
  | .tup _ => some .tuple
  | .dK _ => some .dict
  | .scr _ => some .list
  | .ob _ _ => none
  | .cel _ => none
def isT : Tn → Tn → Bool
  | .bool, .int => true
  | .bool, .bool => true
  | .int, .int => true
  | .str, .str => true
  | .list, .list => true
  | .tuple, .tuple => true
  | .dict, .dict => true
  | _, _ => false
theorem kit_isT {K : Fr} {a b : Tn} (hb : b.name ≠ "NoneType") : PySem.W.kitOne K (.type a.name) (.type b.name) = some (isT a b) := by
  refine kit_ty ?_
  cases b <;> first | exact absurd rfl hb | skip
  all_goals cases a <;> decide +kernel
theorem tnD_rep {K : Fr} {F H : Hp} {v : V} {d : D} {t : Tn} (r : RepT K F H v d) (e : tnD d = some t) : TyX K H v (.type t.name) := by
  cases r with
  | non => cases e; exact .base .non
  | bl b => cases e; exact .base (.bl b)
  | int b => cases e; exact .base (.int b)
  | str b => cases e; exact .base (.str b)
  | lst h l => cases e; exact .base (.lst h)
  | tup h l =>
    cases e
    rcases h with (h | ⟨o, h⟩) | ⟨o, its, n, h, c, _⟩
    · exact .base (.tup h)
    · exact .fTuple h
    · exact .kTuple h c
  | dK h k l =>
    cases e
    rcases h with h | ⟨o, h⟩
    · exact .base (.dK h)
    · exact .fDict h
  | ob h k l => cases e
  | scr h =>
    cases e
    rcases h with (h | ⟨o, h⟩) | ⟨o, its, n, h, c, _⟩
    · exact .base (.lst h)
    · exact .base (.frz h)
    · exact .kList h c
  | cel h => cases e
def isiD (ts : List Tn) (d : D) : Option D := (tnD d).map fun t => .bl (ts.any (isT t))
theorem kit_any {K : Fr} {t : Tn} : ∀ {ts : List Tn}, (∀ b ∈ ts, b.name ≠ "NoneType") → PySem.W.kitAny K (.type t.name) (ts.map fun b => Value.type b.name) = some (ts.any (isT t))
  | [], _ => kitAny_nil
  | b :: ts, h => by
    refine kitAny_cons (kit_isT (h b (by simp))) (fun e => ?_) fun e => ?_
    · rw [List.any_cons, e, Bool.false_or]
      exact kit_any fun c hc => h c (by simp [hc])
    · rw [List.any_cons, e, Bool.true_or]
theorem clsV_all : ∀ ts : List Tn, Paired ClsV (ts.map fun b => V.ty b.name) (ts.map fun b => Value.type b.name)
  | [] => .nil
  | b :: ts => .cons (.ty _) (clsV_all ts)
section
variable {X : Cx} {w : WX} {e c : Expr} {fe : E D} {p pos : Pos}
theorem isi_get {K : Fr} {ρ : Rho} {F H : Hp} {S : Sto} {Q : VK} {XQ : XK} {ts : List Tn} {d : D} (h : Wg (kR K .frz) K ρ F H S Q XQ (R.get (isiD ts d) S)) : ∃ t, tnD d = some t ∧ Wg (kR K .frz) K ρ F H S Q XQ (.ok (.bl (ts.any (isT t))) S) := by
  unfold isiD at h
  cases e : tnD d with
  | none => rw [e] at h; exact False.elim h
  | some t => rw [e] at h; exact ⟨t, rfl, h⟩
/-- isinstance(e, T): T a built-in type -/
theorem pd_isi1 (t : Tn) (hg : Gl X "isinstance") (hm : X.mg "isinstance" = none) (he : PD X .bor w e fe) (hc : PE X c (tC (.ty t.name))) (hn : t.name ≠ "NoneType" := by decide)
    (hs : starEach [e, c] X.env = (false, eval e X.env) :: starEach [c] X.env := by rfl) (hs2 : starEach [c] X.env = (false, eval c X.env) :: starEach [] X.env := by rfl) :
    PD X .frz w (.Call (.Name "isinstance" p) [e, c] [] pos) (b1E (isiD [t]) fe) := PE.imp (pe_callB call_isi hg hm PyProof.Rows.boot_isinstance (pa_cons he (pa_cons hc pa_nil hs2) hs) (by decide) (by decide) hs (by rw [hs2]; rfl)) (by
  rintro σ H Q ⟨ρ, F, S, env, rl, en, q⟩
  refine ⟨ρ, F, S, env, rl, en, Wg.step kR.old q fun x S1 v ρ1 F1 H1 n1 r1 k1 q1 => ?_⟩
  obtain ⟨x', _, t0, q1⟩ := rs_get r1 (bor_top2 r1 k1) q1
  obtain ⟨t', e', q1⟩ := isi_get q1
  refine ⟨v, .ty t.name, .type t'.name, .type t.name, isT t' t, rfl, .ty _, tnD_rep t0 e', kit_isT hn, ?_⟩
  have e2 : [t].any (isT t') = isT t' t := by simp
  rw [e2] at q1
  exact q1.sc r1 rfl)
/-- isinstance(e, (T1, T2)) -/
theorem pd_isi2 {c1 c2 : Expr} {k : Nat} {tp : Pos} (t1 t2 : Tn) (hg : Gl X "isinstance") (hm : X.mg "isinstance" = none) (he : PD X .frz w e fe) (h1 : PE X c1 (tC (.ty t1.name))) (h2 : PE X c2 (tC (.ty t2.name))) (hn : ∀ b ∈ [t1, t2], b.name ≠ "NoneType" := by decide)
    (hs : starEach [e, .Tuple [c1, c2] k tp] X.env = (false, eval e X.env) :: starEach [.Tuple [c1, c2] k tp] X.env := by rfl) (hs2 : starEach [.Tuple [c1, c2] k tp] X.env = (false, eval (.Tuple [c1, c2] k tp) X.env) :: starEach [] X.env := by rfl)
    (hs3 : starEach [c1, c2] X.env = (false, eval c1 X.env) :: starEach [c2] X.env := by rfl) (hs4 : starEach [c2] X.env = (false, eval c2 X.env) :: starEach [] X.env := by rfl) :
    PD X .frz w (.Call (.Name "isinstance" p) [e, .Tuple [c1, c2] k tp] [] pos) (b1E (isiD [t1, t2]) fe) := PE.imp (pe_callB call_isiT hg hm PyProof.Rows.boot_isinstance (pa_cons he (pa_cons (pe_tup (pa_cons h1 (pa_cons h2 pa_nil hs4) hs3)) pa_nil hs2) hs) (by decide) (by decide) hs (by rw [hs2]; rfl)) (by
  rintro σ H Q ⟨ρ, F, S, env, rl, en, q⟩
  refine ⟨ρ, F, S, env, rl, en, Wg.step kR.old q fun x S1 v ρ1 F1 H1 n1 r1 k1 q1 => ?_⟩
  obtain ⟨x', _, t0, q1⟩ := rs_get r1 (Rep.top r1.sub k1) q1
  obtain ⟨t', e', q1⟩ := isi_get q1
  refine ⟨by rw [sizeLine_eq]; show 2 ≤ 16777216; decide, fun T hT => ?_⟩
  have r2 := r1.new (o := .tup [.ty t1.name, .ty t2.name]) hT
  refine ⟨v, T, _, .type t'.name, [.type t1.name, .type t2.name], _, rfl, upd_same, clsV_all [t1, t2], tnD_rep (t0.up (fun a o _ h => by rw [upd_ne (ne_of_none h hT)]; exact h) (fun _ _ z => z)) e', kit_any hn, ?_⟩
  exact q1 _ ρ1 F1 _ (Nx.new hT) r2 (Rep.bl _))
end

/-! ### xs.index(y), flat things -/
def indexD : D → D → Option D
  | .lst ds, y => if flatD y && ds.all flatD then (ds.findIdx? fun z => eqF z y).map fun j => .int (j : Nat) else none
  | _, _ => none
section
variable {X : Cx} {w : WX} {o e : Expr} {fo fe : E D} {apos cpos : Pos}
theorem pd_index (ho : PD X .bor w o fo) (he : PD X .bor w e fe)
    (m : BmOk X o "index" e apos cpos := by exact ⟨rfl, rfl, rfl, rfl, rfl⟩) :
    PD X .frz w (.Call (.Attribute o "index" apos) [e] [] cpos) (bindE fo fun x => match x with | .lst _ => bindE fe fun y _ S => R.get (indexD x y) S | _ => fun _ _ => .no) := PE.imp (pe_bm PySem.F.plainAttrs_list PySem.F.slot_list_index PySem.F.type_list_index mt_index ho (pa_cons he pa_nil m.st) m.base m.few m.line m.st m.pl) (by
  rintro σ H Q ⟨ρ, F, S, env, rl, en, q⟩
  refine ⟨ρ, F, S, env, rl, en, Wg.step kR.old q fun x S1 v ρ1 F1 H1 n1 r1 k1 q1 => ?_⟩
  cases x with
  | lst ds =>
    have t1 := bor_top2 r1 k1
    refine ⟨?_, ρ1, F1, S1, env, r1, en.later n1, Wg.step kR.old q1 fun y S2 u ρ2 F2 H2 n2 r2 k2 q2 => ?_⟩
    · cases t1 with
      | lst ha l => exact .inl ⟨rfl, _, SqL.of ha⟩
    · have t2 := bor_top2 r2 (bor_later n2 k1)
      have ty := bor_top2 r2 k2
      have q2 : Wg (kR X.K .frz) X.K ρ2 F2 H2 S2 Q (fun cls dd H' => w cls dd σ H') (R.get (indexD (.lst ds) y) S2) := q2
      unfold indexD at q2
      dsimp only at q2
      split at q2
      · rename_i c
        obtain ⟨c1, c2⟩ := Bool.and_eq_true_iff.mp c
        cases ei : ds.findIdx? (fun z => eqF z y) with
        | none => rw [ei] at q2; exact False.elim q2
        | some j =>
          rw [ei] at q2
          cases t2 with
          | lst ha l =>
            have ry := ty.flat1 c1
            obtain ⟨hj, e1, e2⟩ := List.findIdx?_eq_some_iff_getElem.mp ei
            obtain ⟨z, z1, z2⟩ := l.get (List.getElem?_eq_getElem hj)
            have fl : ∀ {i : Nat} {d : D}, ds[i]? = some d → flatD d = true := fun hd => List.all_eq_true.mp c2 _ (List.mem_of_getElem? hd)
            refine ⟨_, _, u, j, z, rfl, rfl, SqL.of ha, flat_rep ry c1, flats_rep l c2, z1, by rw [eqF_V z2 ry (fl (List.getElem?_eq_getElem hj)) c1]; exact e1, fun m z' hm hz' => ?_, q2.sc r2 rfl⟩
            obtain ⟨d', d1, d2⟩ := l.getV hz'
            rw [eqF_V d2 ry (fl d1) c1]
            have lt := (List.getElem?_eq_some_iff.mp d1)
            obtain ⟨lt1, lt2⟩ := lt
            have := e2 m hm
            rw [lt2] at this
            simpa using this
      · exact False.elim q2
  | _ => exact False.elim q1)
end

/-! ### d[k] = v, d a name's own; for k in d -/
section
variable {X : Cx} {w : WX} {fk fe : E D} {i : Nat} {k e tg : Expr} {x : Str} {pos xp sp : Pos}
theorem ps_dPut (hu : X.A.units + 1 < cLine) (hN : X.N[i]? = some x) (hv : Vis X.env.scope x) (hk : PD X .frz w k fk) (he : PD X .frz w e fe) (hd : (x == ("__debug__" : Str)) = false := by decide) (hcd : (x == ("__classdict__" : Str)) = false := by decide)
    (hs : swapsWith e (some (.Subscript (.Name x xp) k sp)) pos.line X.env = pure false := by rfl) : PSt X w (.Assign [.Subscript (.Name x xp) k sp] e pos) (dPutS i fk fe) := PS.imp (ps_dput hu (pe_var hN hv hd hcd) hk he hs) (by
  rintro D' σ H ⟨ρ0, F0, H0, S0, ρ, F, S, env, a, q⟩
  refine ⟨ρ, F, S, env, a.rl, a.en, Ws.step a q fun d S1 v ρ1 F1 H1 n1 a1 k1 q1 => ?_⟩
  have q1 : Ws X.K ρ0 F0 H0 S0 w D' (match env[i]? with
    | some (some (.o (.dK _))) => (fk env S1).st env fun k S2 => match env[i]?, keyD k with
      | some (some (.o (.dK kvs))), some key => if sz (kvs.length + 1) then .nx (env.set i (some (.o (.dK (putD kvs key d))))) S2 else .no
      | _, _ => .no
    | _ => .no) := q1
  cases ei : env[i]? with
  | none => rw [ei] at q1; exact False.elim q1
  | some oi =>
    cases oi with
    | none => rw [ei] at q1; exact False.elim q1
    | some wi =>
      cases wi with
      | o dd =>
        cases dd with
        | dK kvs =>
          rw [ei] at q1
          have q1 : Ws X.K ρ0 F0 H0 S0 w D' ((fk env S1).st env fun k S2 => match (some (some (W.o (D.dK kvs))) : Option (Option W)), keyD k with
            | some (some (.o (.dK kvs))), some key => if sz (kvs.length + 1) then .nx (env.set i (some (.o (.dK (putD kvs key d))))) S2 else .no
            | _, _ => .no) := q1
          obtain ⟨b, h1, _⟩ := a1.en.o i _ ei
          refine ⟨.ref b, h1, ρ1, F1, S1, env, a1.rl, a1.en, Ws.step a1 q1 fun y S2 u ρ2 F2 H2 n2 a2 k2 q2 => ?_⟩
          have k2 : Rep X.K F2 u y := k2
          cases ek : keyD y with
          | none => rw [ek] at q2; exact False.elim q2
          | some key =>
            rw [ek] at q2
            have q2 : Ws X.K ρ0 F0 H0 S0 w D' (if sz (kvs.length + 1) then .nx (env.set i (some (.o (.dK (putD kvs key d))))) S2 else .no) := q2
            obtain ⟨hz, q2⟩ := ifs_ok q2
            obtain ⟨b', h1', h2, h3, h4, h5⟩ := a2.en.o i _ ei
            rw [h1] at h1'
            cases h1'
            cases h2 with
            | dK hb hk hl =>
              rcases hb with hb | ⟨ob, hb⟩
              · obtain ⟨j1, j2⟩ := put_rep (k := key) (show Rep X.K F2 v d from Rep.mono n2.fsub k1) hk hl
                refine ⟨b, _, rfl, .inl ⟨_, key, hb, keyD_rep (Rep.top a2.rl.sub k2) ek, ?_, rfl⟩, q2 ρ2 F2 _ σ (a2.mut ei h1 (.dK (.inl upd_same) j1 j2))⟩
                have e := congrArg List.length hk
                rw [List.length_map, List.length_map] at e
                rw [e]
                exact sz_lt hz
              · obtain ⟨u', hu'⟩ := a2.rl.fz b _ hb rfl
                rw [h3] at hu'
                cases hu'
        | _ => rw [ei] at q1; exact False.elim q1
      | _ => rw [ei] at q1; exact False.elim q1)
end
end Fw

set_option  maxHeartbeats 4000000
/-! Fw: zip of two sequences, each a list (true) or a tuple (false) -/
namespace Fw
open PySem L2 PySem.Spec PyProof.Rows

def SqB (K : Fr) (t : Bool) (H : Hp) (a : Addr) (xs : List V) : Prop := match t with
  | true => SqL K H a xs
  | false => SqT K H a xs
def IsB (t : Bool) (h : Heap) (a : Addr) (xs : Array Value) : Prop := match t with
  | true => h.IsList a xs
  | false => h.IsTuple a xs
def ItB (t : Bool) (h : Heap) (i a : Addr) (k : Nat) : Prop := match t with
  | true => h.IsListIter i a k
  | false => h.IsTupleIter i a k
def itO (t : Bool) (a : Addr) : Obj := match t with
  | true => { cls := .type "list_iterator", data := .fields #[.ref a, .int 0 0] }
  | false => { cls := .type "tuple_iterator", data := .fields #[.ref a, .int 0 0] }
section
variable {t : Bool} {h h' : Heap} {a b i : Addr} {k : Nat} {xs : Array Value}
theorem IsB.ext (x : IsB t h a xs) (s : Heap.ExtBut b h h') (n : a ≠ b) : IsB t h' a xs := by
  cases t with
  | true => exact Heap.IsList.extBut x s n
  | false => exact Heap.IsTuple.extBut x s n
theorem ItB.ext (x : ItB t h i a k) (s : Heap.ExtBut b h h') (n : i ≠ b) : ItB t h' i a k := by
  cases t with
  | true => exact Heap.IsListIter.extBut x s n
  | false => exact Heap.IsTupleIter.extBut x s n
theorem ItB.at (x : ItB t h i a k) (e : ∀ o, h.get? i = some o → h'.get? i = some o) : ItB t h' i a k := by
  cases t with
  | true => exact Heap.IsListIter.at x e
  | false => exact Heap.IsTupleIter.at x e
theorem ItB.ob (x : ItB t h i a k) : ∃ o, h.get? i = some o ∧ ∀ v, o.data ≠ .cell v := by
  cases t with
  | true =>
    obtain ⟨o, e, _, d⟩ := x
    exact ⟨o, e, fun v q => by rw [d] at q; cases q⟩
  | false =>
    obtain ⟨o, e, _, d⟩ := x
    exact ⟨o, e, fun v q => by rw [d] at q; cases q⟩
theorem ItB.lt (x : ItB t h i a k) : i < h.objs.size := by
  obtain ⟨o, e, _⟩ := x.ob
  exact Heap.lt_size e
theorem IsB.push (x : IsB t h a xs) (o : Obj) : IsB t (h.push o) a xs := by
  cases t with
  | true => exact Heap.IsList.push x o
  | false => exact Heap.IsTuple.push x o
theorem IsB.lt (x : IsB t h a xs) : a < h.objs.size := by
  cases t with
  | true =>
    obtain ⟨o, e, _⟩ := x
    exact Heap.lt_size e
  | false =>
    obtain ⟨o, e, _⟩ := x
    exact Heap.lt_size e
theorem itB_new (e : h.get? i = some (itO t a)) : ItB t h i a 0 := by
  cases t with
  | true => exact ⟨_, e, rfl, rfl⟩
  | false => exact ⟨_, e, rfl, rfl⟩
end
theorem Inv.sq {X : Cx} {pins : List (Addr × Obj)} {σ : L2.St} {H : Hp} {s : Shared} {t : Bool} {a : Addr} {xs : List V} (I : Inv X pins σ H s) (h : SqB X.K t H a xs) : ∃ its : List Value, Vals xs its ∧ IsB t s.heap a its.toArray := by
  cases t with
  | true =>
    obtain ⟨its, r, p, _⟩ := I.list h
    exact ⟨its, r, p.isList⟩
  | false =>
    obtain ⟨its, r, p, _⟩ := I.tuple h
    exact ⟨its, r, p⟩
theorem Inv.sq_inj {X : Cx} {pins : List (Addr × Obj)} {σ : L2.St} {H : Hp} {s : Shared} {t : Bool} {a : Addr} {xs ys : List V} (I : Inv X pins σ H s) (h : SqB X.K t H a xs) (h' : SqB X.K t H a ys) : xs = ys := by
  cases t with
  | true => exact I.list_inj h h'
  | false => exact I.tuple_inj h h'

/-! ### at the library's level -/
section
variable {P : Program} {w : World} {A : Around} {E : Value → Shared → Prop} {s : Shared} {t1 t2 : Bool}
theorem nextB_item {t : Bool} {i l : Addr} {k : Nat} {xs : Array Value} {x : Value} {Q : Value → Shared → Prop} (hi : ItB t s.heap i l k) (hl : IsB t s.heap l xs) (hx : xs[k]? = some x)
    (hQ : ∀ h', ItB t h' i l (k + 1) → Heap.SameBut i s.heap h' → Q x { s with heap := h' }) : wpAny (model P w) A (Builtin.SmallTypes.nextOf (.ref i)) Q E s := by
  cases t with
  | true => exact wpAny_nextOf_list_item hi hl hx hQ
  | false => exact RZ.nextOf_tuple_item hi hl hx hQ
theorem nextB_end {t : Bool} {i l : Addr} {k : Nat} {xs : Array Value} {Q : Value → Shared → Prop} (hh : A.handled = none) (hi : ItB t s.heap i l k) (hl : IsB t s.heap l xs) (hx : xs[k]? = none)
    (hE : ∀ h' e, Heap.ExtBut i s.heap h' → (∃ o, h'.get? e = some o ∧ o.cls = .type "StopIteration") → E (.ref e) { s with heap := h' }) : wpAny (model P w) A (Builtin.SmallTypes.nextOf (.ref i)) Q E s := by
  cases t with
  | true => exact wpAny_nextOf_list_end hh hi hl hx hE
  | false => exact RZ.nextOf_tuple_end hh hi hl hx hE
theorem iterB {t : Bool} {l : Addr} {xs : Array Value} {Q : Value → Shared → Prop} (hl : IsB t s.heap l xs) (hQ : Q (.ref s.heap.objs.size) { s with heap := s.heap.push (itO t l) }) : wpAny (model P w) A (pyIter (.ref l)) Q E s := by
  cases t with
  | true => exact wpAny_pyIter_list hl hQ
  | false => exact wpAny_pyIter_tuple hl hQ

variable {z TI TO i1 i2 l1 l2 : Addr} {k1 k2 : Nat} {xs ys : Array Value} {x y a b : Value}
theorem zipB_item {Q : Value → Shared → Prop} (D : ZipApart z TI TO i1 i2 l1 l2) (hz : IsZip s.heap z TI TO .none) (hI : IsPair s.heap TI (.ref i1) (.ref i2)) (hO : IsPair s.heap TO a b)
    (h1 : ItB t1 s.heap i1 l1 k1) (h2 : ItB t2 s.heap i2 l2 k2) (m1 : IsB t1 s.heap l1 xs) (m2 : IsB t2 s.heap l2 ys) (hx : xs[k1]? = some x) (hy : ys[k2]? = some y)
    (hQ : ∀ h', IsZip h' z TI TO (rawInt s.heap.objs.size) → IsPair h' TO x y → ItB t1 h' i1 l1 (k1 + 1) → ItB t2 h' i2 l2 (k2 + 1) → IsPair h' s.heap.objs.size x y → h'.objs.size = s.heap.objs.size + 1 →
      (∀ c o, c ≠ z → c ≠ TO → c ≠ i1 → c ≠ i2 → s.heap.get? c = some o → h'.get? c = some o) → Q (.ref s.heap.objs.size) { s with heap := h' }) :
    wpAny (model P w) A (Builtin.«zip.__next__» ⟨[.ref z], []⟩) (fun f s' => ∃ v, f = .done (.ret v) ∧ Q v s') E s := by
  show wpAny _ _ (field (.ref z) 2 >>= _) _ _ _
  refine wpAny_bind (wpAny_field hz rfl (x := .bool false) rfl (?_ : wpAny _ _ (field (.ref z) 3 >>= _) _ _ _))
  refine wpAny_bind (wpAny_field hz rfl (x := .ref TI) rfl (wpAny_bind (wpAny_seqItems hI rfl ?_)))
  show wpAny _ _ (Builtin.SmallTypes.ownedTupleIsFree (.ref z) >>= _) _ _ _
  refine wpAny_bind ?_
  unfold Builtin.SmallTypes.ownedTupleIsFree
  refine wpAny_bind (wpAny_field hz rfl (x := .none) rfl (wpAny_pure ?_))
  simp only [if_true]
  refine wpAny_bind (wpAny_rule (wpAny_bind (wpAny_field hz rfl (x := .ref TO) rfl
    (wpAny_bind (wpAny_setField_rec hz (by simp) fun g1 z1 s1 => ?_)))))
  replace z1 : IsZip g1 z TI TO .ellipsis := z1
  refine wpAny_bind ?_
  simp only [List.zipIdx_cons, List.zipIdx_nil, List.forIn_cons, List.forIn_nil]
  refine wpAny_bind (wpAny_bind (wpAny_onRaise (?_ : wpAny _ _ (Builtin.SmallTypes.nextOf (.ref i1) >>= _) _ _ _)))
  refine wpAny_bind (nextB_item (h1.ext s1.extBut D.i1z) (m1.ext s1.extBut D.l1z) hx fun g2 n1 s2 => wpAny_pure ?_)
  have o2 : IsPair g2 TO a b := s2.extBut _ _ D.TOi1 (s1.extBut _ _ D.TOz hO)
  refine wpAny_bind (wpAny_seqItems o2 rfl (wpAny_bind (wpAny_updateSeq_pair o2 fun g3 o3 s3 => ?_)))
  replace o3 : IsPair g3 TO x b := o3
  refine wpAny_bind (wpAny_letGo (wpAny_pure (wpAny_bind (wpAny_bind (wpAny_onRaise
    (?_ : wpAny _ _ (Builtin.SmallTypes.nextOf (.ref i2) >>= _) _ _ _))))))
  refine wpAny_bind (nextB_item (((h2.ext s1.extBut D.i2z).ext s2.extBut D.i12.symm).ext s3.extBut D.TOi2.symm)
    (((m2.ext s1.extBut D.l2z).ext s2.extBut D.l2i1).ext s3.extBut D.l2TO) hy fun g4 n2 s4 => wpAny_pure ?_)
  have o4 : IsPair g4 TO x b := s4.extBut _ _ D.TOi2 o3
  refine wpAny_bind (wpAny_seqItems o4 rfl (wpAny_bind (wpAny_updateSeq_pair o4 fun g5 o5 s5 => ?_)))
  replace o5 : IsPair g5 TO x y := o5
  refine wpAny_bind (wpAny_letGo (wpAny_pure (wpAny_pure (wpAny_bind (wpAny_seqItems o5 rfl (wpAny_bind (wpAny_newTuple ?_)))))))
  have sz : g5.objs.size = s.heap.objs.size := by
    rw [s5.1, s4.1, s3.1, s2.1, s1.1]
  have z5 : IsZip g5 z TI TO .ellipsis := s5.extBut _ _ D.TOz.symm (s4.extBut _ _ D.i2z.symm (s3.extBut _ _ D.TOz.symm
    (s2.extBut _ _ D.i1z.symm z1)))
  have up5 : ∀ c o, c ≠ z → c ≠ TO → c ≠ i1 → c ≠ i2 → s.heap.get? c = some o → g5.get? c = some o := fun c o c1 c2 c3 c4 e =>
    s5.extBut _ _ c2 (s4.extBut _ _ c4 (s3.extBut _ _ c2
      (s2.extBut _ _ c3 (s1.extBut _ _ c1 e))))
  have n15 : ItB t1 g5 i1 l1 (k1 + 1) := ((n1.ext s3.extBut D.TOi1.symm).ext s4.extBut D.i12).ext s5.extBut D.TOi1.symm
  have n25 : ItB t2 g5 i2 l2 (k2 + 1) := n2.ext s5.extBut D.TOi2.symm
  have lz : z < g5.objs.size := Heap.lt_size z5
  show wpAny _ _ (Builtin.SmallTypes.ownedTupleHandOut (.ref z) (.ref g5.objs.size) >>= _) _ _ _
  refine wpAny_bind ?_
  unfold Builtin.SmallTypes.ownedTupleHandOut
  have z6 : IsZip (g5.push { cls := .type "tuple", data := .seq #[x, y] }) z TI TO .ellipsis := Heap.get?_push_of_some _ z5
  refine wpAny_bind (wpAny_setField_rec z6 (by simp) fun g7 z7 s7 => ?_)
  replace z7 : IsZip g7 z TI TO (rawInt g5.objs.size) := z7
  refine wpAny_setField_rec z7 (by simp) fun g8 z8 s8 => ?_
  replace z8 : IsZip g8 z TI TO (rawInt g5.objs.size) := z8
  have up : ∀ c o, c ≠ z → g5.get? c = some o → g8.get? c = some o := fun c o c1 e =>
    s8.extBut _ _ c1 (s7.extBut _ _ c1 (Heap.get?_push_of_some _ e))
  have p8 : IsPair g8 g5.objs.size x y := s8.extBut _ _ (Nat.ne_of_gt lz)
    (s7.extBut _ _ (Nat.ne_of_gt lz) (Heap.get?_push_size _ rfl))
  have e8 : g8.objs.size = g5.objs.size + 1 := by
    rw [s8.1, s7.1, Heap.size_push]
  rw [sz] at z8 p8 e8
  refine wpAny_pure ⟨_, rfl, (?_ : Q (.ref g5.objs.size) _)⟩
  rw [sz]
  exact hQ g8 z8 (up _ _ D.TOz o5) (n15.at fun o e => up _ o D.i1z e) (n25.at fun o e => up _ o D.i2z e) p8 e8
    fun c o c1 c2 c3 c4 e => up c o c1 (up5 c o c1 c2 c3 c4 e)
theorem zipB_end {Q : Fin → Shared → Prop} (hh : A.handled = none) (D : ZipApart z TI TO i1 i2 l1 l2) (hz : IsZip s.heap z TI TO .none) (hI : IsPair s.heap TI (.ref i1) (.ref i2)) (hO : IsPair s.heap TO a b)
    (h1 : ItB t1 s.heap i1 l1 k1) (h2 : ItB t2 s.heap i2 l2 k2) (m1 : IsB t1 s.heap l1 xs) (m2 : IsB t2 s.heap l2 ys) (he : xs[k1]? = none ∨ ys[k2]? = none)
    (hE : ∀ h' e, (∀ c o, c ≠ z → c ≠ TO → c ≠ i1 → c ≠ i2 → s.heap.get? c = some o → h'.get? c = some o) → (∃ o, h'.get? e = some o ∧ o.cls = .type "StopIteration") → E (.ref e) { s with heap := h' }) :
    wpAny (model P w) A (Builtin.«zip.__next__» ⟨[.ref z], []⟩) Q E s := by
  show wpAny _ _ (field (.ref z) 2 >>= _) _ _ _
  refine wpAny_bind (wpAny_field hz rfl (x := .bool false) rfl (?_ : wpAny _ _ (field (.ref z) 3 >>= _) _ _ _))
  refine wpAny_bind (wpAny_field hz rfl (x := .ref TI) rfl (wpAny_bind (wpAny_seqItems hI rfl ?_)))
  show wpAny _ _ (Builtin.SmallTypes.ownedTupleIsFree (.ref z) >>= _) _ _ _
  refine wpAny_bind ?_
  unfold Builtin.SmallTypes.ownedTupleIsFree
  refine wpAny_bind (wpAny_field hz rfl (x := .none) rfl (wpAny_pure ?_))
  simp only [if_true]
  refine wpAny_bind (wpAny_rule (wpAny_bind (wpAny_field hz rfl (x := .ref TO) rfl
    (wpAny_bind (wpAny_setField_rec hz (by simp) fun g1 z1 s1 => ?_)))))
  replace z1 : IsZip g1 z TI TO .ellipsis := z1
  refine wpAny_bind ?_
  simp only [List.zipIdx_cons, List.zipIdx_nil, List.forIn_cons, List.forIn_nil]
  refine wpAny_bind (wpAny_bind (wpAny_onRaise (?_ : wpAny _ _ (Builtin.SmallTypes.nextOf (.ref i1) >>= _) _ _ _)))
  cases hx : xs[k1]? with
  | none =>
    refine wpAny_bind (nextB_end hh (h1.ext s1.extBut D.i1z) (m1.ext s1.extBut D.l1z) hx fun g2 e s2 q => ?_)
    obtain ⟨oe, q1, q2⟩ := q
    have z2 : IsZip g2 z TI TO .ellipsis := s2 _ _ D.i1z.symm z1
    have ez : e ≠ z := fun x => by
      subst x
      rw [z2] at q1
      cases q1
      simp at q2
    refine wpAny_setField_rec z2 (by simp) fun g3 _ s3 => hE g3 e (fun c o c1 _ c3 _ x =>
      s3.extBut _ _ c1 (s2 _ _ c3 (s1.extBut _ _ c1 x))) ⟨oe, s3.extBut _ _ ez q1, q2⟩
  | some x =>
    have hy : ys[k2]? = none := by
      rcases he with h | h
      · rw [hx] at h
        cases h
      · exact h
    refine wpAny_bind (nextB_item (h1.ext s1.extBut D.i1z) (m1.ext s1.extBut D.l1z) hx fun g2 n1 s2 => wpAny_pure ?_)
    have o2 : IsPair g2 TO a b := s2.extBut _ _ D.TOi1 (s1.extBut _ _ D.TOz hO)
    refine wpAny_bind (wpAny_seqItems o2 rfl (wpAny_bind (wpAny_updateSeq_pair o2 fun g3 o3 s3 => ?_)))
    refine wpAny_bind (wpAny_letGo (wpAny_pure (wpAny_bind (wpAny_bind (wpAny_onRaise
      (?_ : wpAny _ _ (Builtin.SmallTypes.nextOf (.ref i2) >>= _) _ _ _))))))
    refine wpAny_bind (nextB_end hh (((h2.ext s1.extBut D.i2z).ext s2.extBut D.i12.symm).ext s3.extBut D.TOi2.symm)
      (((m2.ext s1.extBut D.l2z).ext s2.extBut D.l2i1).ext s3.extBut D.l2TO) hy fun g4 e s4 q => ?_)
    obtain ⟨oe, q1, q2⟩ := q
    have z4 : IsZip g4 z TI TO .ellipsis := s4 _ _ D.i2z.symm (s3.extBut _ _ D.TOz.symm
      (s2.extBut _ _ D.i1z.symm z1))
    have ez : e ≠ z := fun x => by
      subst x
      rw [z4] at q1
      cases q1
      simp at q2
    refine wpAny_setField_rec z4 (by simp) fun g5 _ s5 => hE g5 e (fun c o c1 c2 c3 c4 x =>
      s5.extBut _ _ c1 (s4 _ _ c4 (s3.extBut _ _ c2 (s2.extBut _ _ c3 (s1.extBut _ _ c1 x))))) ⟨oe, s5.extBut _ _ ez q1, q2⟩
theorem turnB_item {Q : Option Value → Shared → Prop} (D : ZipApart z TI TO i1 i2 l1 l2) (hz : IsZip s.heap z TI TO .none) (hI : IsPair s.heap TI (.ref i1) (.ref i2)) (hO : IsPair s.heap TO a b)
    (h1 : ItB t1 s.heap i1 l1 k1) (h2 : ItB t2 s.heap i2 l2 k2) (m1 : IsB t1 s.heap l1 xs) (m2 : IsB t2 s.heap l2 ys) (hx : xs[k1]? = some x) (hy : ys[k2]? = some y)
    (hQ : ∀ h', IsZip h' z TI TO (rawInt s.heap.objs.size) → IsPair h' TO x y → ItB t1 h' i1 l1 (k1 + 1) → ItB t2 h' i2 l2 (k2 + 1) → IsPair h' s.heap.objs.size x y → h'.objs.size = s.heap.objs.size + 1 →
      (∀ c o, c ≠ z → c ≠ TO → c ≠ i1 → c ≠ i2 → s.heap.get? c = some o → h'.get? c = some o) → Q (some (.ref s.heap.objs.size)) { s with heap := h' }) : wpAny (model P w) A (pyNext (.ref z)) Q E s := by
  have ty : s.TypeIs (.ref z) "zip" := ⟨_, hz, rfl⟩
  unfold pyNext
  refine wpAny_bind (wpAny_attempt (wpAny_callSpecial?_slot (name := Str.ofString "__next__") ty F.slot_zip_next
    (wpAny_call_entry F.slot_zip_next ty F.entry_zip_next ?_ (F.args_zip_next_1 _))))
  exact zipB_item D hz hI hO h1 h2 m1 m2 hx hy fun h' b1 b2 b3 b4 b5 b6 b7 => wpAny_pure (hQ h' b1 b2 b3 b4 b5 b6 b7)
theorem turnB_end {Q : Option Value → Shared → Prop} (hh : A.handled = none) (D : ZipApart z TI TO i1 i2 l1 l2) (hz : IsZip s.heap z TI TO .none) (hI : IsPair s.heap TI (.ref i1) (.ref i2)) (hO : IsPair s.heap TO a b)
    (h1 : ItB t1 s.heap i1 l1 k1) (h2 : ItB t2 s.heap i2 l2 k2) (m1 : IsB t1 s.heap l1 xs) (m2 : IsB t2 s.heap l2 ys) (he : xs[k1]? = none ∨ ys[k2]? = none)
    (hQ : ∀ h', (∀ c o, c ≠ z → c ≠ TO → c ≠ i1 → c ≠ i2 → s.heap.get? c = some o → h'.get? c = some o) → Q none { s with heap := h' }) : wpAny (model P w) A (pyNext (.ref z)) Q E s := by
  have ty : s.TypeIs (.ref z) "zip" := ⟨_, hz, rfl⟩
  unfold pyNext
  refine wpAny_bind (wpAny_attempt (wpAny_callSpecial?_slot (name := Str.ofString "__next__") ty F.slot_zip_next
    (wpAny_call_entry F.slot_zip_next ty F.entry_zip_next (zipB_end hh D hz hI hO h1 h2 m1 m2 he fun h' e hk q => ?_) (F.args_zip_next_1 _))))
  obtain ⟨o, ho, hc⟩ := q
  exact wpAny_bind (wpAny_isInstance (T := "StopIteration") (b := true) ⟨o, ho, hc⟩ isSubtype_stop
    (wpAny_pure (hQ _ hk)))
end
/-- the heaps of a new zip -/
def zB1 (t1 : Bool) (h : Heap) (l1 : Addr) : Heap := h.push (itO t1 l1)
def zB2 (t1 t2 : Bool) (h : Heap) (l1 l2 : Addr) : Heap := (zB1 t1 h l1).push (itO t2 l2)
def zB3 (t1 t2 : Bool) (h : Heap) (l1 l2 : Addr) : Heap := (zB2 t1 t2 h l1 l2).push { cls := .type "tuple", data := .seq #[.ref h.objs.size, .ref (zB1 t1 h l1).objs.size] }
def zB4 (t1 t2 : Bool) (h : Heap) (l1 l2 : Addr) : Heap := (zB3 t1 t2 h l1 l2).push { cls := .type "tuple", data := .seq #[.none, .none] }
def zB5 (t1 t2 : Bool) (h : Heap) (l1 l2 : Addr) : Heap := (zB4 t1 t2 h l1 l2).push { cls := .type "zip", data := .fields #[.none, .bool false, .bool false, .ref (zB2 t1 t2 h l1 l2).objs.size, .ref (zB3 t1 t2 h l1 l2).objs.size] }
theorem meetsB_new (t1 t2 : Bool) (l1 l2 : Addr) (xs ys : Array Value) :
    Meets (Builtin.«zip.__new__» ⟨[.type "zip", .ref l1, .ref l2], []⟩) (fun _ R s => IsB t1 s.heap l1 xs ∧ IsB t2 s.heap l2 ys ∧
      R (.ok (.ret (.ref (zB4 t1 t2 s.heap l1 l2).objs.size))) { s with heap := zB5 t1 t2 s.heap l1 l2 }) :=
  .of_wp fun P w A R s h => by
    obtain ⟨hp, g, d, tk, os⟩ := s
    obtain ⟨m1, m2, h⟩ := h
    have sb := sub_zip
    have p1 : IsB t1 (Shared.heap ⟨hp, g, d, tk, os⟩) l1 xs := m1
    have p2 : IsB t2 (Shared.heap ⟨hp.push (itO t1 l1), g, d, tk, os⟩) l2 ys := m2.push _
    wp_walk using iterB p1, iterB p2
    exact ⟨_, rfl, h⟩
section
variable {P : Program} {w : World} {A : Around} {E : Value → Shared → Prop} {s : Shared} {t1 t2 : Bool}
theorem callB_zip {l1 l2 : Addr} {xs ys : Array Value} {Q : Value → Shared → Prop} (m1 : IsB t1 s.heap l1 xs) (m2 : IsB t2 s.heap l2 ys)
    (h : ∀ h', IsZip h' (s.heap.objs.size + 4) (s.heap.objs.size + 2) (s.heap.objs.size + 3) .none → IsPair h' (s.heap.objs.size + 2) (.ref s.heap.objs.size) (.ref (s.heap.objs.size + 1)) →
      IsPair h' (s.heap.objs.size + 3) .none .none → ItB t1 h' s.heap.objs.size l1 0 → ItB t2 h' (s.heap.objs.size + 1) l2 0 →
      (∀ c o, s.heap.get? c = some o → h'.get? c = some o) → Q (.ref (s.heap.objs.size + 4)) { s with heap := h' }) :
    wpAny (model P w) A (call (.type "zip") [.ref l1, .ref l2]) Q E s := by
  refine callType_new F.called_zip (by decide) (F.typeCall_zip_2 _ _) (F.newCall_zip_2 _ _) (fun o => F.args_object_init_3 o _ _) F.entry_zip_new (meetsB_new t1 t2 l1 l2 xs ys) ⟨m1, m2, ?_⟩
  have e1 : (zB1 t1 s.heap l1).objs.size = s.heap.objs.size + 1 := Heap.size_push ..
  have e2 : (zB2 t1 t2 s.heap l1 l2).objs.size = s.heap.objs.size + 2 := by
    unfold zB2
    rw [Heap.size_push, e1]
  have e3 : (zB3 t1 t2 s.heap l1 l2).objs.size = s.heap.objs.size + 3 := by
    unfold zB3
    rw [Heap.size_push, e2]
  have e4 : (zB4 t1 t2 s.heap l1 l2).objs.size = s.heap.objs.size + 4 := by
    unfold zB4
    rw [Heap.size_push, e3]
  have up5 : ∀ c o, (zB4 t1 t2 s.heap l1 l2).get? c = some o → (zB5 t1 t2 s.heap l1 l2).get? c = some o := fun c o q => Heap.get?_push_of_some _ q
  have up4 : ∀ c o, (zB3 t1 t2 s.heap l1 l2).get? c = some o → (zB5 t1 t2 s.heap l1 l2).get? c = some o := fun c o q => up5 c o (Heap.get?_push_of_some _ q)
  have up3 : ∀ c o, (zB2 t1 t2 s.heap l1 l2).get? c = some o → (zB5 t1 t2 s.heap l1 l2).get? c = some o := fun c o q => up4 c o (Heap.get?_push_of_some _ q)
  have up2 : ∀ c o, (zB1 t1 s.heap l1).get? c = some o → (zB5 t1 t2 s.heap l1 l2).get? c = some o := fun c o q => up3 c o (Heap.get?_push_of_some _ q)
  have g5 : (zB5 t1 t2 s.heap l1 l2).get? (zB4 t1 t2 s.heap l1 l2).objs.size = some _ := Heap.get?_push_size _ rfl
  have g4 : (zB5 t1 t2 s.heap l1 l2).get? (zB3 t1 t2 s.heap l1 l2).objs.size = some _ := up5 _ _ (Heap.get?_push_size _ rfl)
  have g3 : (zB5 t1 t2 s.heap l1 l2).get? (zB2 t1 t2 s.heap l1 l2).objs.size = some _ := up4 _ _ (Heap.get?_push_size _ rfl)
  have f2 : (itO t2 l2).isFreed = false := by cases t2 <;> rfl
  have f1 : (itO t1 l1).isFreed = false := by cases t1 <;> rfl
  have g2 : (zB5 t1 t2 s.heap l1 l2).get? (zB1 t1 s.heap l1).objs.size = some _ := up3 _ _ (Heap.get?_push_size _ f2)
  have g1 : (zB5 t1 t2 s.heap l1 l2).get? s.heap.objs.size = some _ := up2 _ _ (Heap.get?_push_size _ f1)
  show _ ∧ _
  rw [e2, e3, e4] at g5
  rw [e1, e2] at g3
  rw [e3] at g4
  rw [e1] at g2
  rw [e4]
  exact ⟨⟨_, g5, rfl⟩, h _ g5 g3 g4 (itB_new g1) (itB_new g2) fun c o x => up2 c o (Heap.get?_push_of_some _ x)⟩
end

/-! ### by the hand layer -/
def ItzB (K : Fr) (t1 t2 : Bool) (a b : Addr) : It :=
  ⟨fun i H => ∃ (xs ys : List V) (x y : V), SqB K t1 H a xs ∧ SqB K t2 H b ys ∧ xs[i]? = some x ∧ ys[i]? = some y,
    fun i H v H' => ∃ T x y, v = .ref T ∧ H T = none ∧ H' = L2.upd H T (.tup [x, y]) ∧ (∀ xs, SqB K t1 H a xs → xs[i]? = some x) ∧ ∀ ys, SqB K t2 H b ys → ys[i]? = some y,
    fun i H => ∃ xs ys : List V, SqB K t1 H a xs ∧ SqB K t2 H b ys ∧ (xs.length ≤ i ∨ ys.length ≤ i)⟩
theorem turnB {P : Program} {w : World} {K : Fr} {elts : List Expr} {kk : Nat} {tpos : Pos} {t1 t2 : Bool} {a b z TI TO i1 i2 : Addr} (D : ZipApart z TI TO i1 i2 a b) :
    Turn P w K (.Tuple elts kk tpos) (ItzB K t1 t2 a b) [z, TI, TO, i1, i2] z (fun i h => IsZip h z TI TO .none ∧ IsPair h TI (.ref i1) (.ref i2) ∧ (∃ x y, IsPair h TO x y) ∧ ItB t1 h i1 a i ∧ ItB t2 h i2 b i) where
  mem := by simp
  obj := fun i h st c hc => by
    obtain ⟨q1, q2, ⟨x, y, q3⟩, q4, q5⟩ := st
    have e' : c = z ∨ c = TI ∨ c = TO ∨ c = i1 ∨ c = i2 := by
      simpa using hc
    rcases e' with q | q | q | q | q
    · rw [q]
      exact ⟨_, q1, fun v q => nomatch q⟩
    · rw [q]
      exact ⟨_, q2, fun v q => nomatch q⟩
    · rw [q]
      exact ⟨_, q3, fun v q => nomatch q⟩
    · rw [q]
      exact q4.ob
    · rw [q]
      exact q5.ob
  keep := fun i h h' st k => by
    obtain ⟨q1, q2, ⟨x, y, q3⟩, q4, q5⟩ := st
    exact ⟨k z (by simp) _ q1, k TI (by simp) _ q2, ⟨x, y, k TO (by simp) _ q3⟩, q4.at fun o q => k i1 (by simp) o q, q5.at fun o q => k i2 (by simp) o q⟩
  item := by
    intro X hP hw hK hc i pins s σ H E I hf st hg
    subst hP
    subst hw
    subst hK
    obtain ⟨q1, q2, ⟨x0, y0, q3⟩, q4, q5⟩ := st
    obtain ⟨xs, ys, x, y, hqx, hqy, hx, hy⟩ := hg
    obtain ⟨its, rv, p⟩ := Inv.sq I hqx
    obtain ⟨jts, rw', p'⟩ := Inv.sq I hqy
    obtain ⟨u, hu, ru⟩ := rv.get hx
    obtain ⟨u', hu', ru'⟩ := rw'.get hy
    have zl : z < s.heap.objs.size := Heap.lt_size q1
    refine turnB_item D q1 q2 q3 q4 q5 p p' (x := u) (y := u') (by simpa using hu) (by simpa using hu') fun h' z' TO' n1 n2 hT hsz hk => ?_
    refine ⟨_, rfl, wpAny_letOwnedTupleGo_zip (s := { s with heap := h' }) z' fun h'' z'' sb => ?_⟩
    have T2 : h''.get? s.heap.objs.size = some
        { cls := .type "tuple", data := .seq #[u, u'] } := (sb.2 _ (Nat.ne_of_gt zl)).trans hT
    have new : ObjOk X.prog X.w (L2.upd H s.heap.objs.size (.tup [x, y])) h'' s.heap.objs.size (.tup [x, y]) :=
      ⟨(by show 2 ≤ sizeLine; decide), [u, u'], .cons ru (.cons ru' .nil), ⟨_, T2, rfl, _, rfl⟩⟩
    have I1 : Inv X pins σ (L2.upd H s.heap.objs.size (.tup [x, y])) { s with heap := h'' } :=
      I.turnedNew (t' := s.toks) (ch := [z, TI, TO, i1, i2]) (fun c o hb q => (sb.2 c fun r => hb (by simp [r])).trans
        (hk c o (fun r => hb (by simp [r])) (fun r => hb (by simp [r])) (fun r => hb (by simp [r])) (fun r => hb (by simp [r])) q)) hf (Nat.le_refl _) new
    refine ⟨.ref s.heap.objs.size, _, I1, rfl, ⟨_, x, y, rfl, I.hok.fresh (Nat.le_refl _), rfl, fun l hl => by rw [Inv.sq_inj I hl hqx]; exact hx, fun l hl => by rw [Inv.sq_inj I hl hqy]; exact hy⟩,
      ⟨z'', (sb.2 _ D.TIz).trans (hk _ _ D.TIz D.TITO D.TIi1 D.TIi2 q2), ⟨u, u', (sb.2 _ D.TOz).trans TO'⟩, n1.at fun o q => (sb.2 _ D.i1z).trans q, n2.at fun o q => (sb.2 _ D.i2z).trans q⟩, fun c hcm => ?_⟩
    have hlt : c < s.heap.objs.size := by
      have e' : c = z ∨ c = TI ∨ c = TO ∨ c = i1 ∨ c = i2 := by
        simpa using hcm
      rcases e' with q | q | q | q | q
      · rw [q]
        exact zl
      · rw [q]
        exact Heap.lt_size q2
      · rw [q]
        exact Heap.lt_size q3
      · rw [q]
        exact q4.lt
      · rw [q]
        exact q5.lt
    rw [upd_ne (Nat.ne_of_lt hlt)]
    exact (hf c hcm).1
  done := by
    intro X hP hw hK hc i pins s σ H E I hf st hg
    subst hP
    subst hw
    subst hK
    obtain ⟨q1, q2, ⟨x0, y0, q3⟩, q4, q5⟩ := st
    obtain ⟨xs, ys, hqx, hqy, he⟩ := hg
    obtain ⟨its, rv, p⟩ := Inv.sq I hqx
    obtain ⟨jts, rw', p'⟩ := Inv.sq I hqy
    have l1 := rv.length
    have l2 := rw'.length
    have e2 : its.toArray[i]? = none ∨ jts.toArray[i]? = none := by
      rcases he with q | q
      · exact .inl (by simp; omega)
      · exact .inr (by simp; omega)
    exact turnB_end (I.ok.hd hc) D q1 q2 q3 q4 q5 p p' e2 fun h' hk => ⟨rfl, I.turnedL (t' := s.toks) (ch := [z, TI, TO, i1, i2])
      (fun c o hb q => hk c o (fun r => hb (by simp [r])) (fun r => hb (by simp [r])) (fun r => hb (by simp [r])) (fun r => hb (by simp [r])) q) hf⟩
  self := fun A i s Q E st h => wpAny_pyIter_zip st.1 h
theorem walkB {K : Fr} {t1 t2 : Bool} {a b : Addr} {xs ys : List V} {n : Nat} (hn : n = min xs.length ys.length) : Walk (ItzB K t1 t2 a b) n (fun H => SqB K t1 H a xs ∧ SqB K t2 H b ys) (YPair (fun i => xs[i]?) (fun i => ys[i]?)) := by
  subst hn
  refine ⟨fun i _ hi q => ?_, fun _ q => ⟨xs, ys, q.1, q.2, by omega⟩, fun i H v H' _ q y => ?_⟩
  · have c1 : i < xs.length := by omega
    have c2 : i < ys.length := by omega
    exact ⟨xs, ys, xs[i], ys[i], q.1, q.2, by simp [c1], by simp [c2]⟩
  · obtain ⟨T, x, z, y1, y2, y3, y4, y5⟩ := y
    exact ⟨T, x, z, y1, y2, y3, y4 xs q.1, y5 ys q.2⟩
def iZipB (K : Fr) (ta : TA) : TI := fun σ H R => ta σ H fun vs H1 => ∃ t1 t2 a b xs ys, vs = [.ref a, .ref b] ∧ SqB K t1 H1 a xs ∧ SqB K t2 H1 b ys ∧ R (ItzB K t1 t2 a b) H1
theorem pi_zipB {X : Cx} {e e2 : Expr} {ta : TA} {p pos tpos : Pos} {elts : List Expr} {kk : Nat} (hg : Gl X "zip") (hm : X.mg "zip" = none) (ha : PA X [e, e2] ta)
    (hs : starEach [e, e2] X.env = (false, eval e X.env) :: starEach [e2] X.env := by rfl) (hpl : (backTo pos (starEach [e2] X.env)).any (·.1) = false := by rfl) :
    PI X (.Tuple elts kk tpos) (.Call (.Name "zip" p) [e, e2] [] pos) (iZipB X.K ta) := by
  refine ⟨fun pins s σ H R I h => ?_⟩
  refine Call_ (ld_blt I hg hm PyProof.Rows.boot_zip (PyProof.Rows.callWith_type1 (thn (ha.run pos pins s σ H _ I h) fun us s1 w => ?_) hs hpl))
  obtain ⟨vs, H1, I1, r1, t1, t2, a, b, xs, ys, ex, hqx, hqy, q⟩ := w
  subst ex
  obtain ⟨u1, u2, rfl, r2, r3⟩ := vals2 r1
  cases r2
  cases r3
  have n0 := s1.heap.objs.size
  have fresh5 : ∀ c, c ∈ [s1.heap.objs.size + 4, s1.heap.objs.size + 2, s1.heap.objs.size + 3, s1.heap.objs.size, s1.heap.objs.size + 1] → FpOk X pins H1 c := fun c hcm => by
    simp only [List.mem_cons, List.not_mem_nil, or_false] at hcm
    have le : s1.heap.objs.size ≤ c := by
      rcases hcm with z | z | z | z | z <;> omega
    exact I1.fpOk le (I1.hok.fresh le)
  obtain ⟨its, rv, p1⟩ := Inv.sq I1 hqx
  obtain ⟨jts, rw', p2⟩ := Inv.sq I1 hqy
  refine callB_zip p1 p2 fun h' hz hI hO n1 n2 hk => wpAny_pyIter_zip hz ?_
  have I2 : Inv X pins σ H1 { s1 with heap := h' } := I1.kept (t' := s1.toks) hk
  exact ⟨s1.heap.objs.size + 4, [s1.heap.objs.size + 4, s1.heap.objs.size + 2, s1.heap.objs.size + 3, s1.heap.objs.size, s1.heap.objs.size + 1], _, _, H1, rfl, I2,
    turnB (PySem.W.ktu_apart s1.heap.objs.size a b p1.lt p2.lt), ⟨hz, hI, ⟨_, _, hO⟩, n1, n2⟩, fresh5, q⟩

/-! ### by values -/
def seqD : D → Option (List D)
  | .lst ds => some ds
  | .tup ds => some ds
  | _ => none
def zipD (x y : D) : Option (List D) := (seqD x).bind fun xs => (seqD y).map fun ys => (xs.zip ys).map fun p => .tup [p.1, p.2]
theorem seqD_rep {K : Fr} {F : Hp} {v : V} {d : D} {ds : List D} (r : Rep K F v d) (e : seqD d = some ds) : ∃ t a vs, v = .ref a ∧ SqB K t F a vs ∧ RepL K F vs ds := by
  cases r with
  | lst h l =>
    cases e
    exact ⟨true, _, _, rfl, SqL.of h, l⟩
  | tup h l =>
    cases e
    exact ⟨false, _, _, rfl, h, l⟩
  | _ => cases e
theorem sqB_sub {K : Fr} {t : Bool} {F H : Hp} {a : Addr} {xs : List V} (s : Sub F H) (h : SqB K t F a xs) : SqB K t H a xs := by
  cases t with
  | true => exact sqL_sub s h
  | false => exact sqT_sub s h
theorem sqB_same {K : Fr} {t : Bool} {F H : Hp} {a : Addr} {xs : List V} (s : Same F H) (h : SqB K t F a xs) : SqB K t H a xs := by
  cases t with
  | true => exact sqL_up (fun o => s _ o) h
  | false => exact sqT_same s h
section
variable {X : Cx} {w : WX} {a b : Expr} {fa fb : E D} {p pos tpos : Pos} {elts : List Expr} {kk : Nat}
theorem pit_zip (hg : Gl X "zip") (hm : X.mg "zip" = none) (ha : PD X .frz w a fa) (hb : PD X .frz w b fb) (hs : starEach [a, b] X.env = (false, eval a X.env) :: starEach [b] X.env := by rfl) (hs2 : starEach [b] X.env = (false, eval b X.env) :: starEach [] X.env := by rfl) :
    PIt X w (.Tuple elts kk tpos) (.Call (.Name "zip" p) [a, b] [] pos) (bindE fa fun x => bindE fb fun y _ S => R.get (zipD x y) S) := PI.imp (pi_zipB hg hm (pa_cons ha (pa_cons hb pa_nil hs2) hs) hs (by rw [hs2]; rfl)) (by
  rintro σ H RR ⟨ρ, F, S, env, rl, en, q⟩
  refine ⟨ρ, F, S, env, rl, en, Wg.step iR.old q fun x S1 v ρ1 F1 H1 n1 r1 k1 q1 => ?_⟩
  refine ⟨ρ1, F1, S1, env, r1, en.later n1, Wg.step iR.old q1 fun y S2 u ρ2 F2 H2 n2 r2 k2 q2 => ?_⟩
  have k1 : Rep X.K F2 v x := Rep.mono n2.fsub k1
  have k2 : Rep X.K F2 u y := k2
  have q2 : Wg (iR X.K) X.K ρ2 F2 H2 S2 RR (fun cls dd H' => w cls dd σ H') (R.get (zipD x y) S2) := q2
  unfold zipD at q2
  cases ex : seqD x with
  | none => rw [ex] at q2; exact False.elim q2
  | some xs =>
    cases ey : seqD y with
    | none => rw [ex, ey] at q2; exact False.elim q2
    | some ys =>
      rw [ex, ey] at q2
      have q2 : Wg (iR X.K) X.K ρ2 F2 H2 S2 RR (fun cls dd H' => w cls dd σ H') (.ok ((xs.zip ys).map fun p => D.tup [p.1, p.2]) S2) := q2
      obtain ⟨t1, a1, vs, rfl, s1, l1⟩ := seqD_rep k1 ex
      obtain ⟨t2, a2, us, rfl, s2, l2⟩ := seqD_rep k2 ey
      have wk : Walk (ItzB X.K t1 t2 a1 a2) ((xs.zip ys).map fun p => D.tup [p.1, p.2]).length (fun H => SqB X.K t1 H a1 vs ∧ SqB X.K t2 H a2 us) (YPair (fun i => vs[i]?) (fun i => us[i]?)) := by
        rw [List.length_map, List.length_zip, ← l1.length, ← l2.length]
        exact walkB rfl
      have it : ItD X.K (ItzB X.K t1 t2 a1 a2) ((xs.zip ys).map fun p => D.tup [p.1, p.2]) F2 := by
        refine ⟨_, _, wk, fun F3 H3 m1 m2 => ⟨sqB_sub m2 (sqB_same m1 s1), sqB_sub m2 (sqB_same m1 s2)⟩, ?_⟩
        rintro i F3 H3 z H4 hi m1 m2 ⟨T, c, d, g1, g2, g3, g4, g5⟩
        obtain ⟨c', e1, e2⟩ := (l1.mono m1).getV g4
        obtain ⟨d', e3, e4⟩ := (l2.mono m1).getV g5
        refine ⟨.tup [c', d'], ?_, .inr ⟨T, [c, d], [c', d'], g1, g2, g3, rfl, .cons e2 (.cons e4 .nil)⟩⟩
        have e5 : (xs.zip ys)[i]? = some (c', d') := List.getElem?_zip_eq_some.mpr ⟨e1, e3⟩
        rw [List.getElem?_map, e5]
        rfl
      exact ⟨t1, t2, a1, a2, vs, us, rfl, sqB_sub r2.sub s1, sqB_sub r2.sub s2, Wg.give q2 r2 it⟩)
end
end Fw

set_option  maxHeartbeats 4000000
/-! Fw: dicts walked; + of anything; what is left -/
namespace Fw
open PySem L2 PySem.Spec PyProof.Rows

def dKey : Key → D
  | .inl i => .int i
  | .inr x => .str x
theorem dKey_rep {K : Fr} {F : Hp} (k : Key) : Rep K F (kV k) (dKey k) := by
  cases k with
  | inl i => exact .int i
  | inr x => exact .str x
def keysOf : D → Option (List D)
  | .dK kvs => some (kvs.map fun p => dKey p.1)
  | _ => none
def itemsOf : D → Option (List D)
  | .dK kvs => some (kvs.map fun p => .tup [dKey p.1, p.2])
  | _ => none
theorem kvs_at {K : Fr} {F : Hp} {ws : List (Key × V)} {kvs : List (Key × D)} (e : ws.map (·.1) = kvs.map (·.1)) (l : RepL K F (ws.map (·.2)) (kvs.map (·.2))) {i : Nat} {k : Key} {v : V} (h : ws[i]? = some (k, v)) : ∃ d, kvs[i]? = some (k, d) ∧ Rep K F v d := by
  have h1 : (ws.map (·.1))[i]? = some k := by rw [List.getElem?_map, h]; rfl
  have h2 : (ws.map (·.2))[i]? = some v := by rw [List.getElem?_map, h]; rfl
  obtain ⟨d, d1, d2⟩ := l.getV h2
  rw [e, List.getElem?_map] at h1
  rw [List.getElem?_map] at d1
  cases q : kvs[i]? with
  | none => rw [q] at h1; cases h1
  | some p =>
    rw [q] at h1 d1
    have h1 : some p.1 = some k := h1
    have d1 : some p.2 = some d := d1
    cases h1
    cases d1
    exact ⟨p.2, rfl, d2⟩
section
variable {X : Cx} {w : WX} {tg e : Expr} {fe : E D} {apos cpos : Pos} {elts : List Expr} {kk : Nat} {tpos : Pos}
theorem pit_keys (he : PD X .frz w e fe) : PIt X w tg e (getE keysOf fe) := PI.imp (pi_keys he) (by
  rintro σ H RR ⟨ρ, F, S, env, rl, en, q⟩
  refine ⟨ρ, F, S, env, rl, en, Wg.step iR.old q fun x S1 v ρ1 F1 H1 n1 r1 k1 q1 => ?_⟩
  have k1 : Rep X.K F1 v x := k1
  cases k1 with
  | dK hx hk hl =>
    rename_i a ob ws kvs
    have sub : ∀ F2 H2, Same F1 F2 → Sub F2 H2 → H2 a = some (.frz ob (.dK ws)) := fun F2 H2 s1 s2 => by
      rcases s2.of _ _ rfl (s1 _ _ hx) with z | ⟨_, _, z, _⟩
      · exact z
      · cases z
    have el : kvs.length = ws.length := by
      have := congrArg List.length hk
      rw [List.length_map, List.length_map] at this
      exact this.symm
    have it : ItD X.K (Itk a ob ws) (kvs.map fun p => dKey p.1) F1 := by
      refine ⟨_, _, (by rw [List.length_map, el]; exact walk_keys), sub, ?_⟩
      rintro i F2 H2 z H3 hi s1 s2 ⟨rfl, k, v, hv, rfl⟩
      obtain ⟨d, d1, d2⟩ := kvs_at hk hl hv
      exact ⟨dKey k, by rw [List.getElem?_map, d1]; rfl, .inl ⟨rfl, dKey_rep k⟩⟩
    exact ⟨a, ob, rfl, .inl ⟨ws, sub F1 H1 (fun _ _ z => z) r1.sub, Wg.give q1 r1 it⟩⟩
  | _ => exact False.elim q1)
theorem pit_items (he : PD X .frz w e fe) (hbase : attributeBase e "items" X.env (eval e X.env) = eval e X.env := by rfl) (hline : (apos.endLine == cpos.line) = true := by rfl) :
    PIt X w (.Tuple elts kk tpos) (.Call (.Attribute e "items" apos) [] [] cpos) (getE itemsOf fe) := PI.imp (pi_items he hbase hline) (by
  rintro σ H RR ⟨ρ, F, S, env, rl, en, q⟩
  refine ⟨ρ, F, S, env, rl, en, Wg.step iR.old q fun x S1 v ρ1 F1 H1 n1 r1 k1 q1 => ?_⟩
  have k1 : Rep X.K F1 v x := k1
  cases k1 with
  | dK hx hk hl =>
    rename_i a ob ws kvs
    have sub : ∀ F2 H2, Same F1 F2 → Sub F2 H2 → H2 a = some (.frz ob (.dK ws)) := fun F2 H2 s1 s2 => by
      rcases s2.of _ _ rfl (s1 _ _ hx) with z | ⟨_, _, z, _⟩
      · exact z
      · cases z
    have el : kvs.length = ws.length := by
      have := congrArg List.length hk
      rw [List.length_map, List.length_map] at this
      exact this.symm
    have it : ItD X.K (Iti a ob ws) (kvs.map fun p => .tup [dKey p.1, p.2]) F1 := by
      refine ⟨_, _, (by rw [List.length_map, el]; exact walk_items), sub, ?_⟩
      rintro i F2 H2 z H3 hi s1 s2 ⟨T, c, d, g1, g2, g3, g4, g5⟩
      have g4 : (ws[i]?.map fun kv => kV kv.1) = some c := g4
      have g5 : ws[i]?.map Prod.snd = some d := g5
      cases hv : ws[i]? with
      | none => rw [hv] at g4; cases g4
      | some p =>
        rw [hv] at g4 g5
        cases g4
        cases g5
        obtain ⟨d', d1, d2⟩ := kvs_at hk hl (k := p.1) (v := p.2) hv
        refine ⟨.tup [dKey p.1, d'], by rw [List.getElem?_map, d1]; rfl, .inr ⟨T, _, [dKey p.1, d'], g1, g2, g3, rfl, .cons (dKey_rep p.1) (.cons (d2.mono s1) .nil)⟩⟩
    exact ⟨a, ob, ws, rfl, sub F1 H1 (fun _ _ z => z) r1.sub, Wg.give q1 r1 it⟩
  | _ => exact False.elim q1)
end

/-! ### + of anything; len of anything -/
theorem ok_catLF {K : Fr} : OpOk K .frz rCat catL := by
  intro ρ F H S Q XQ x y a b r ha hb h
  cases ha with
  | lst hx l =>
    cases hb with
    | lst hy m =>
      rename_i xs _ _ ys
      by_cases hz : sz (xs.length + ys.length) = true
      · rw [show catL (.lst xs) (.lst ys) = _ from if_pos hz] at h
        exact ⟨_, _, _, _, rfl, rfl, hx, hy, by rw [l.length, m.length]; exact sz_line hz, fun p hp => h.allocF r hp (.lst upd_same (l.append m))⟩
      · rw [show catL (.lst xs) (.lst ys) = _ from if_neg hz] at h
        exact False.elim h
    | _ => exact False.elim h
  | _ => exact False.elim h
section
variable {X : Cx} {w : WX} {a b : Expr} {fa fb : E D} {pos : Pos}
theorem pd_plus (ha : PD X .frz w a fa) (hb : PD X .frz w b fb) : PD X .frz w (.BinOp a .Add b pos) (opE plusG fa fb) := pd_opF (op_add.or (op_add_str.or (op_cat.or op_catA))) (OpOkF.or (OpOk.toF ok_add) (OpOkF.or (OpOk.toF ok_addS) (OpOkF.or (OpOk.toF ok_catLF) ok_catT))) ha hb
theorem pd_catO (ha : PD X .bor w a fa) (hb : PD X .bor w b fb) : PD X .own w (.BinOp a .Add b pos) (opE catL fa fb) := pd_op op_cat ok_catL ha hb
end
def lenD2 : D → Option D
  | .dK kvs => some (.int (kvs.length : Nat))
  | d => lenD d
theorem call_lenR {X : Cx} : CallR X (.builtin "len") (fun xs H Q => ∃ a kvs, xs = [V.ref a] ∧ Rd H a (.dK kvs) ∧ Q (.int (kvs.length : Nat)) H) := by
  intro pins s σ H xs us Q I r h
  obtain ⟨a, kvs, rfl, ha, q⟩ := h
  obtain ⟨u, rfl, ru⟩ := vals1 r
  cases ru
  exact d_len I ha fun t s' I' => ⟨.int kvs.length, H, I', ⟨t, rfl⟩, q⟩
theorem ok_len2 {K : Fr} {k : Kd} : COk K k (fun xs H Q => (∃ x n, xs = [x] ∧ LenV K x H n ∧ Q (.int (n : Nat)) H) ∨ ∃ a kvs, xs = [V.ref a] ∧ Rd H a (.dK kvs) ∧ Q (.int (kvs.length : Nat)) H) lenD2 := by
  intro ρ F H S Q XQ x a r ha h
  cases a with
  | dK kvs =>
    cases ha with
    | dK hx hk hl =>
      rename_i b ws
      refine .inr ⟨b, ws, rfl, hx, ?_⟩
      have := congrArg List.length hk
      rw [List.length_map, List.length_map] at this
      rw [this]
      exact h.sc r rfl
  | _ => exact .inl (ok_len r ha h)
theorem pd_len {X : Cx} {w : WX} {a : Expr} {fa : E D} {p pos : Pos} (hg : Gl X "len") (hm : X.mg "len" = none) (ha : PD X .bor w a fa) (hs : starEach [a] X.env = (false, eval a X.env) :: starEach [] X.env := by rfl) : PD X .frz w (.Call (.Name "len" p) [a] [] pos) (b1E lenD2 fa) := pd_b1 (call_len.or call_lenR) ok_len2 hg hm boot_len ha (hs := hs)
end Fw

set_option  maxHeartbeats 4000000
/-! Fw: tests by unions; signs; the head -/
namespace Fw
open PySem L2 PySem.Spec PyProof.Rows

section
variable {X : Cx} {w : WX} {a b e : Expr} {fa fb fe : E D} {pos p : Pos} {k : Kd}
def negD : D → Option D
  | .int i => some (.int (-i))
  | _ => none
theorem pd_neg (he : PD X .bor w e fe) : PD X .frz w (.UnaryOp .USub e pos) (b1E negD fe) := PE.imp (pe_un un_neg he) (by
  rintro σ H Q ⟨ρ, F, S, env, rl, en, q⟩
  refine ⟨ρ, F, S, env, rl, en, Wg.step kR.old q fun x S1 v ρ1 F1 H1 n1 r1 k1 q1 => ?_⟩
  obtain ⟨x', _, t, q1⟩ := rs_get r1 (bor_top2 r1 k1) q1
  cases t with
  | int i => exact ⟨i, rfl, Wg.give q1 r1 (Rep.int _)⟩
  | _ => exact False.elim q1)
theorem pd_eq (ha : PD X .bor w a fa) (hb : PD X .bor w b fb) (hu : X.A.units + 64 < cLine) (hm : behindInMarks .Eq b = false := by rfl) : PD X .frz w (.Compare a [.Eq] [b] pos) (opE (eqG false) fa fb) := pd_cmp (op_eqD hu) ok_eq ha hb hm
theorem pd_ne (ha : PD X .bor w a fa) (hb : PD X .bor w b fb) (hu : X.A.units + 64 < cLine) (hm : behindInMarks .NotEq b = false := by rfl) : PD X .frz w (.Compare a [.NotEq] [b] pos) (opE (eqG true) fa fb) := pd_cmp (op_neD hu) ok_ne ha hb hm
theorem pb_eq (ha : PD X .bor w a fa) (hb : PD X .bor w b fb) (hu : X.A.units + 64 < cLine) (hm : behindInMarks .Eq b = false := by rfl) : PB X w (.Compare a [.Eq] [b] pos) (tst (opE (eqG false) fa fb)) := pb_cmp (op_eqD hu) ok_eq ha hb hm
theorem pb_ne (ha : PD X .bor w a fa) (hb : PD X .bor w b fb) (hu : X.A.units + 64 < cLine) (hm : behindInMarks .NotEq b = false := by rfl) : PB X w (.Compare a [.NotEq] [b] pos) (tst (opE (eqG true) fa fb)) := pb_cmp (op_neD hu) ok_ne ha hb hm
theorem pb_in (hu : X.A.units + 1 < cLine) (ha : PD X .bor w a fa) (hb : PD X .bor w b fb) (hm : behindInMarks .In b = false := by rfl) : PB X w (.Compare a [.In] [b] pos) (tst (opE (inA false) fa fb)) := pb_cmp (op_inA hu) (ok_in.or (ok_inS.or ok_hasK)) ha hb hm
theorem pb_nin (hu : X.A.units + 1 < cLine) (ha : PD X .bor w a fa) (hb : PD X .bor w b fb) (hm : behindInMarks .NotIn b = false := by rfl) : PB X w (.Compare a [.NotIn] [b] pos) (tst (opE (inA true) fa fb)) := pb_cmp (op_ninA hu) (ok_in.or (ok_ninS.or ok_hasK)) ha hb hm
theorem pd_inA (hu : X.A.units + 1 < cLine) (ha : PD X .bor w a fa) (hb : PD X .bor w b fb) (hm : behindInMarks .In b = false := by rfl) : PD X .frz w (.Compare a [.In] [b] pos) (opE (inA false) fa fb) := pd_in hu ha hb hm
theorem pd_ninA (hu : X.A.units + 1 < cLine) (ha : PD X .bor w a fa) (hb : PD X .bor w b fb) (hm : behindInMarks .NotIn b = false := by rfl) : PD X .frz w (.Compare a [.NotIn] [b] pos) (opE (inA true) fa fb) := pd_nin hu ha hb hm
end
theorem hu1 {n : Nat} {A : Around} (hr : Room n A) : A.units + 1 < cLine := by
  have := hr.units
  omega
theorem hu64 {n : Nat} {A : Around} (hr : Room n A) : A.units + 64 < cLine := hr.units
theorem hu66 {n : Nat} {A : Around} (hr : Room n A) : A.units + 66 < cLine := by
  have := hr.un
  omega

/-- a def of the text, what it binds -/
def Fn1 (K : Fr) (x qual : Str) (st : Stmt) (f : Addr) (ps : List Str) : Prop := ∃ fd, L2.Fun K x qual st f fd ∧ Binds K fd ps []
section
variable {P : Program} {w : World} {K : Fr} {mg : Str → Option Value} {base : Heap} {x qual : Str} {st : Stmt} {f : Addr} {N ps : List Str} {lv m n : Nat} {k : Kd} {body : Stm}
theorem Fn1.cal (F : Fn1 K x qual st f ps) (Sc : FnScope N ps (defScope st))
    (h : ∀ (cdv : Value) (A : Around) (outer : List PySem.Env) (s : Shared) (H : Hp) (E : XK), Room lv (cxD P w K mg base N qual st f cdv A outer s H E).A → (cxD P w K mg base N qual st f cdv A outer s H E).A.guards = some [] →
      Takes (cxD P w K mg base N qual st f cdv A outer s H E) (wD E) → PassesOwn (model P w) (cxD P w K mg base N qual st f cdv A outer s H E).A (cxD P w K mg base N qual st f cdv A outer s H E).env (cxD P w K mg base N qual st f cdv A outer s H E).xe →
      PSb (cxD P w K mg base N qual st f cdv A outer s H E) (wD E) (defBody st) body)
    (hm : ps.length = m := by rfl) (hn : N.length = n := by rfl) : Cal P w K mg base (lv + 1) f (spF K k (defF k m n body)) := by
  obtain ⟨fd, F, hb⟩ := F
  exact cal_fn F Sc hb h hm hn
theorem Fn1.ini {C : Addr} (F : Fn1 K x qual st f ps) (Sc : FnScope N ps (defScope st))
    (h : ∀ (cdv : Value) (A : Around) (outer : List PySem.Env) (s : Shared) (H : Hp) (E : XK), Room lv (cxD P w K mg base N qual st f cdv A outer s H E).A → (cxD P w K mg base N qual st f cdv A outer s H E).A.guards = some [] →
      Takes (cxD P w K mg base N qual st f cdv A outer s H E) (wD E) → PassesOwn (model P w) (cxD P w K mg base N qual st f cdv A outer s H E).A (cxD P w K mg base N qual st f cdv A outer s H E).env (cxD P w K mg base N qual st f cdv A outer s H E).xe →
      PSb (cxD P w K mg base N qual st f cdv A outer s H E) (wD E) (defBody st) body)
    (hm : ps.length = m + 1 := by rfl) (hn : N.length = n + 1 := by rfl) : Cal P w K mg base (lv + 1) f (spI K C (iniF C m n body)) := by
  obtain ⟨fd, F, hb⟩ := F
  exact cal_ini F Sc hb h hm hn
end

/-! ### the head: the law's def is called with the script -/
theorem only_rl {K : Fr} {H : Hp} {a : Addr} {ns : List Int} (O : Only H) (h : SqL K H a (ns.map V.int)) : Rl K [[]] H H [.hp []] ∧ Paired (wR1 K [[]] H) [V.ref a] [W.f (.scr ns)] := by
  have nm : ∀ b o, isMk o = true → H b ≠ some o := fun b o m z => by
    rcases O b with y | ⟨_, _, y⟩
    · rw [z] at y; cases y
    · rw [z] at y; cases y; cases m
  refine ⟨⟨rfl, ⟨fun _ _ _ z => .inl z, fun b o m z => absurd z (nm b o m)⟩, fun n c as h1 _ h3 => ?_, fun n m c c' as bs hnm h1 _ _ h4 _ _ => ?_, fun b o z _ => ⟨o, z⟩, fun _ _ _ _ b n z => absurd z (nm b _ rfl)⟩, .cons (Rep.scr h) .nil⟩
  · cases n with
    | zero =>
      cases h1
      cases h3
      exact ⟨⟨rfl, List.nodup_nil, fun i a d e => by simp at e⟩, fun a ha => nomatch ha⟩
    | succ n => simp at h1
  · cases n with
    | zero =>
      cases m with
      | zero => exact absurd rfl hnm
      | succ m => simp at h4
    | succ n => simp at h1
theorem cal_script {K : Fr} {g : Fnt} {n : Nat} (hg : ∀ ns : List Int, ns.length ≤ n → ∃ S', g [.f (.scr ns)] [.hp []] = .ok (.bl true) S')
    {H : Hp} {a : Addr} {ns : List Int} (hl : ns.length ≤ n) (O : Only H) (h : SqL K H a (ns.map V.int)) : spF K .frz g [.ref a] H (fun v _ => v = .bl true) fun _ _ _ => False := by
  obtain ⟨r, p⟩ := only_rl O h
  obtain ⟨S', e⟩ := hg ns hl
  refine ⟨[[]], H, [.hp []], [.f (.scr ns)], r, p, ?_⟩
  rw [e]
  intro v ρ' F' H' _ _ k
  have k : Rep K F' v (.bl true) := k
  cases k
  rfl
theorem callC {P : Program} {w : World} {K : Fr} {mg mb : Str → Option Value} {k : Nat} {fa a : Addr} {sp : Sp} {s : Shared} {vs : List Value} {ns : List Int} (KX : K.In s.heap) (h1 : s.heap.Ns mainGlobals mg) (h2 : s.heap.Ns builtinsNs mb)
    (h3 : ∀ x : Str, x ≠ "__name__" → mb x = bootBuiltins x) (h4 : s.heap.NoLimit) (h5 : s.gens = #[]) (ha : s.heap.get? a = some { cls := .type "list", data := .seq vs.toArray }) (hi : IntsAre vs ns) (hl : ns.length ≤ sizeLine) (hr : Room k callerA)
    (F : ∀ base : Heap, K.In base → base.Ns mainGlobals mg → Cal P w K mg base k fa sp) (hsp : ∀ H : Hp, Only H → SqL K H a (ns.map V.int) → sp [.ref a] H (fun v _ => v = .bl true) fun _ _ _ => False) :
    codeAny (model P w) callerA (.call (.ref fa) ⟨[.ref a], []⟩) (fun r s' => r = .ok (.ret (.bool true)) ∧ OldK s.heap s'.heap ∧ s'.os = s.os ∧ AllBare s'.gens) s := by
  have rv := vals_ints hi
  have lv := hi.length
  have main : ∀ H : Hp, Only H → SqL K H a (ns.map V.int) → HOk P w H s.heap → (∀ b, H b ≠ none → b = a) → (H a ≠ none → K.lookup a = none) →
      codeAny (model P w) callerA (.call (.ref fa) ⟨[.ref a], []⟩) (fun r s' => r = .ok (.ret (.bool true)) ∧ OldK s.heap s'.heap ∧ s'.os = s.os ∧ AllBare s'.gens) s := by
    intro H O S ok hA hK
    have down : ∀ {b : Addr} {o : Obj}, s.heap.get? b = some o → H b = none → (hidT s.heap H).get? b = some o := fun e n => hidT_get e n
    have dict : ∀ {b : Addr} {o : Obj} {es : Array DictEntry} {ep : Nat}, s.heap.get? b = some o → o.data = .dict es ep → H b = none := by
      intro b o es ep e d
      by_cases q : H b = none
      · exact q
      · obtain rfl := hA b q
        rw [ha] at e
        cases e
        cases (show Data.seq vs.toArray _ = Data.dict es ep from d)
    have ns' : ∀ {b : Addr} {m : Str → Option Value}, s.heap.Ns b m → (hidT s.heap H).Ns b m := fun {b m} z => by
      obtain ⟨o, es, ep, e, d, r⟩ := z
      exact ⟨o, es, ep, down e (dict e d), d, r⟩
    have kb : K.In (hidT s.heap H) := fun b o e => down (KX b o e) (by
      by_cases q : H b = none
      · exact q
      · obtain rfl := hA b q
        rw [hK q] at e
        cases e)
    have md : Mod K mg (hidT s.heap H) := ⟨kb, ns' h1, ⟨mb, ns' h2, h3⟩, by
      obtain ⟨mc, y1, y2⟩ := h4
      exact ⟨mc, ns' y1, y2⟩⟩
    have e0 : Env0 P w K mg (hidT s.heap H) callerA [] s H := ⟨rfl, md, fun b o e => of_hidT e, Nat.le_of_eq (hidT_size _ _), trivial, fun b hb => absurd (show b ∈ ([] : List Addr) from hb) (by simp), ok, .of_eq h5⟩
    refine codeAny_mono ((F _ kb (ns' h1)).run callerA [] s H [.ref a] [.ref a] _ _ hr rfl e0 (.cons rfl .nil) (hsp H O S)) fun r s' h => ?_
    cases r with
    | error e =>
      obtain ⟨_, _, _, _, _, _, _, _, _, _, _, z⟩ := h
      exact False.elim z.2
    | ok fl =>
      cases fl with
      | ret u =>
        obtain ⟨v, H', os, bare, un, ok', r', q⟩ := h
        have q' : v = .bl true := q
        subst q'
        obtain rfl : u = Value.bool true := r'
        refine ⟨rfl, OldK.of_keep fun b o e => ?_, os, bare⟩
        rcases O b with z | ⟨ob, xs, z⟩
        · exact un.keep b o e z (by intro y; exact absurd (show b ∈ ([] : List Addr) from y) (by simp)) (by simp)
        · obtain ⟨e1, _⟩ := ok b _ z
          obtain ⟨e2, _⟩ := ok' b _ (un.frzs b ob _ z)
          rw [e] at e1
          cases e1
          exact e2
      | next => exact False.elim h
      | brk => exact False.elim h
      | cont => exact False.elim h
  cases hk : K.lookup a with
  | some o =>
    have e := KX a o hk
    rw [ha] at e
    cases e
    have sq : SqL K (fun _ => none) a (ns.map V.int) := .inr ⟨_, vs.toArray, _, hk, rfl, rfl, rfl, by rw [List.size_toArray, lv]; exact hl, by simpa using rv⟩
    exact main (fun _ => none) (fun _ => .inl rfl) sq (fun b u z => nomatch (show (none : Option HO) = some u from z)) (fun b z => absurd rfl z) fun z => absurd rfl z
  | none =>
    let u : HO := .frz { cls := .type "list", data := .seq vs.toArray } (.lst (ns.map V.int))
    have at1 : ∀ b, (L2.upd (fun _ => none) a u) b = none ∨ (b = a ∧ (L2.upd (fun _ => none) a u) b = some u) := fun b => by
      by_cases e : b = a
      · rw [e]
        exact .inr ⟨rfl, upd_same⟩
      · exact .inl (upd_ne e)
    refine main (L2.upd (fun _ => none) a u) (fun b => ?_) (.inl (.inr ⟨_, upd_same⟩)) (fun b o z => ?_) (fun b z => ?_) fun _ => hk
    · rcases at1 b with e | ⟨_, e⟩
      · exact .inl e
      · exact .inr ⟨_, _, e⟩
    · rcases at1 b with e | ⟨rfl, e⟩
      · rw [e] at z
        cases z
      · rw [e] at z
        cases z
        exact ⟨ha, by rw [List.length_map]; exact hl, vs, _, rv, ha⟩
    · rcases at1 b with e | ⟨e, _⟩
      · exact absurd e z
      · exact e
/-- the goal that is left behind the head -/
theorem walkC {l : PySem.W.OpenLaw} {n k : Nat} {q : Program} {loose : List Str} {XP : (Str → Option Value) → Heap → Prop} {YP : World → Heap → Prop} {d : DefRec} {K : Params → Fr}
    (hn : l.most = some n) (hn2 : n ≤ sizeLine) (hdf : d.params.defaults = []) (hr : Room k callerA) (hY : ∀ (w : World) (h : Heap), YP w h → (K w.params).In h)
    (F : ∀ (w : World) (mg : Str → Option Value) (fa : Addr) (h : Heap), (K w.params).In h → h.Ns mainGlobals mg → mg d.name = some (.ref fa) →
      ∃ g : Fnt, (∀ ns : List Int, ns.length ≤ n → ∃ S', g [.f (.scr ns)] [.hp []] = .ok (.bl true) S') ∧ ∀ base : Heap, (K w.params).In base → base.Ns mainGlobals mg → Cal l.prog w (K w.params) mg base k fa (spF (K w.params) .frz g)) :
    PySem.W.WalkO q loose XP YP l.row.toRowW d [] (fun f vs => PySem.call f vs) := by
  refine Att.attach_call hn hdf fun w s₀ s₁ mg mb fa o pm cd doc a vs ns G Y ho hd hcd hmg hobj hints hlen hg => ?_
  have KX := hY w _ Y
  obtain ⟨g, hgt, hF⟩ := F w mg fa _ KX G.T.g hmg
  exact callC KX G.T.g G.T.b G.T.builtins G.T.nolimit hg hobj hints (Nat.le_trans hlen hn2) hr hF fun H hO hS => cal_script hgt hlen hO hS
end Fw

set_option  maxHeartbeats 4000000
/-! Fw: rules chosen by the value -/
namespace Fw
open PySem L2 PySem.Spec PyProof.Rows

theorem PE.or {X : Cx} {e : Expr} {t t' : TE} (h : PE X e t) (h' : PE X e t') : PE X e (fun σ H Q => t σ H Q ∨ t' σ H Q) := ⟨fun pins s σ H Q I q => q.elim (h.run pins s σ H Q I) (h'.run pins s σ H Q I)⟩
theorem PI.or {X : Cx} {tg e : Expr} {t t' : TI} (h : PI X tg e t) (h' : PI X tg e t') : PI X tg e (fun σ H Q => t σ H Q ∨ t' σ H Q) := ⟨fun pins s σ H Q I q => q.elim (h.run pins s σ H Q I) (h'.run pins s σ H Q I)⟩
/-- what may be walked -/
def seqI (d : D) : Option (List D) := match d with
  | .tup ds => some ds
  | .str z => signsD (.str z)
  | .dK kvs => keysOf (.dK kvs)
  | d => itemsD d
def rng2E (fa fb : E D) : E (List D) := bindE fa fun x => bindE fb fun y _ S => R.get (rng2 x y) S
def zipE (fa fb : E D) : E (List D) := bindE fa fun x => bindE fb fun y _ S => R.get (zipD x y) S
def indexE (fo fe : E D) : E D := bindE fo fun x => match x with
  | .lst _ => bindE fe fun y _ S => R.get (indexD x y) S
  | _ => fun _ _ => .no
def cutA (d : D) (l u : Option Int) : Option D := match d with
  | .tup ds => cutTs (.tup ds) l u
  | .str z => cutSs (.str z) l u
  | d => cutLs d l u
section
variable {X : Cx} {w : WX} {tg e : Expr} {fe : E D}
theorem getE_eq {α β : Type} {g g' : α → Option β} {fa : E α} {env : Env} {S : Sto} (h : ∀ a S1, fa env S = .ok a S1 → g a = g' a) : getE g fa env S = getE g' fa env S := by
  unfold getE bindE
  cases e : fa env S with
  | ok a S1 => exact congrArg (fun o => R.get o S1) (h a S1 e)
  | exc x S1 => rfl
  | no => rfl
theorem pit_seq (he : PD X .frz w e fe) : PIt X w tg e (getE seqI fe) := PI.imp (PI.or (pit_list he) (PI.or (pit_tup he) (PI.or (pit_str he) (pit_keys he)))) (by
  rintro σ H Q ⟨ρ, F, S, env, rl, en, q⟩
  have k : ∀ {g : D → Option (List D)}, (∀ a S1, fe env S = .ok a S1 → seqI a = g a) → tG (iR X.K) X.K w (getE g fe) σ H Q := fun {g} h => by
    rw [getE_eq h] at q
    exact ⟨ρ, F, S, env, rl, en, q⟩
  cases z : fe env S with
  | ok d S1 =>
    have nil : ∀ {g : D → Option (List D)}, seqI d = g d → ∀ a S2, fe env S = .ok a S2 → seqI a = g a := fun {g} h a S2 e => by
      rw [z] at e
      cases e
      exact h
    cases d with
    | tup ds => exact .inr (.inl (k (nil rfl)))
    | str y => exact .inr (.inr (.inl (k (nil rfl))))
    | dK kvs => exact .inr (.inr (.inr (k (nil rfl))))
    | _ => exact .inl (k (nil rfl))
  | exc x S1 => exact .inl (k fun a S2 e => by rw [z] at e; cases e)
  | no => exact .inl (k fun a S2 e => by rw [z] at e; cases e))
theorem pit_rng2 {a b : Expr} {fa fb : E D} {p pos : Pos} (hg : Gl X "range") (hm : X.mg "range" = none) (ha : PD X .bor w a fa) (hb : PD X .bor w b fb) (hs : starEach [a, b] X.env = (false, eval a X.env) :: starEach [b] X.env := by rfl) (hs2 : starEach [b] X.env = (false, eval b X.env) :: starEach [] X.env := by rfl) :
    PIt X w tg (.Call (.Name "range" p) [a, b] [] pos) (rng2E fa fb) := pit_range2 hg hm ha hb hs hs2
theorem pit_zipE {a b : Expr} {fa fb : E D} {p pos tpos : Pos} {elts : List Expr} {kk : Nat} (hg : Gl X "zip") (hm : X.mg "zip" = none) (ha : PD X .frz w a fa) (hb : PD X .frz w b fb) (hs : starEach [a, b] X.env = (false, eval a X.env) :: starEach [b] X.env := by rfl) (hs2 : starEach [b] X.env = (false, eval b X.env) :: starEach [] X.env := by rfl) :
    PIt X w (.Tuple elts kk tpos) (.Call (.Name "zip" p) [a, b] [] pos) (zipE fa fb) := pit_zip hg hm ha hb hs hs2
theorem pd_indexE {o : Expr} {fo : E D} {apos cpos : Pos} (ho : PD X .bor w o fo) (he : PD X .bor w e fe)
    (m : BmOk X o "index" e apos cpos := by exact ⟨rfl, rfl, rfl, rfl, rfl⟩) :
    PD X .frz w (.Call (.Attribute o "index" apos) [e] [] cpos) (indexE fo fe) := pd_index ho he m
/-- a slice, of what is frozen -/
theorem pd_cutF {lo hi : Option Expr} {fl fh : E (Option Int)} {pos p2 : Pos} (ha : PD X .frz w e fe) (hl : PPart X w lo fl) (hh : PPart X w hi fh) : PD X .frz w (.Subscript e (.Slice lo hi none p2) pos) (slE cutA fe fl fh) := PE.imp (PE.or (PD.fz (pd_cutL (PD.bor ha) hl hh)) (PE.or (pd_cutT ha hl hh) (pd_cutS (PD.bor ha) hl hh))) (by
  rintro σ H Q ⟨ρ, F, S, env, rl, en, q⟩
  have k : ∀ {g : D → Option Int → Option Int → Option D}, (∀ a S1, fe env S = .ok a S1 → ∀ S3 l u, ((rs S3 a).bind fun x' => cutA x' l u) = (rs S3 a).bind fun x' => g x' l u) → tD X.K .frz w (slE g fe fl fh) σ H Q := fun {g} h => by
    have e : slE cutA fe fl fh env S = slE g fe fl fh env S := by
      unfold slE bindE
      cases z : fe env S with
      | ok a S1 =>
        have := h a S1 z
        show (fl env S1).bind _ = (fl env S1).bind _
        congr 1
        funext l S2
        show (fh env S2).bind _ = (fh env S2).bind _
        congr 1
        funext u S3
        exact congrArg (fun o => R.get o S3) (this S3 l u)
      | exc x S1 => rfl
      | no => rfl
    rw [e] at q
    exact ⟨ρ, F, S, env, rl, en, q⟩
  cases z : fe env S with
  | ok d S1 =>
    have nil : ∀ {g : D → Option Int → Option Int → Option D}, (∀ S3 l u, ((rs S3 d).bind fun x' => cutA x' l u) = (rs S3 d).bind fun x' => g x' l u) → ∀ a S2, fe env S = .ok a S2 → ∀ S3 l u, ((rs S3 a).bind fun x' => cutA x' l u) = (rs S3 a).bind fun x' => g x' l u := fun {g} h a S2 e => by
      rw [z] at e
      cases e
      exact h
    cases d with
    | cel n =>
      refine .inl (k (nil fun S3 l u => ?_))
      cases e : rs S3 (.cel n) with
      | none => rfl
      | some c =>
        have e : (match hpD S3 n with
          | some (.lst xs) => some (D.lst xs)
          | some (.dK kvs) => some (.dK kvs)
          | some (.ob C fs) => some (.ob C fs)
          | _ => none) = some c := e
        split at e <;> cases e <;> rfl
    | tup ds => exact .inr (.inl (k (nil fun _ _ _ => rfl)))
    | str y => exact .inr (.inr (k (nil fun _ _ _ => rfl)))
    | _ => exact .inl (k (nil fun _ _ _ => rfl))
  | exc x S1 => exact .inl (k fun a S2 e => by rw [z] at e; cases e)
  | no => exact .inl (k fun a S2 e => by rw [z] at e; cases e))
end
/-! ### list(range(..)) -/
def rgD (x y : D) : Option D := match x, y with
  | .int a, .int b => if decide (a.natAbs < 4611686018427387904) && decide (b.natAbs < 4611686018427387904) && decide ((b - a).toNat ≤ 16777216) then some (.lst ((List.range (b - a).toNat).map fun i => .int (a + (i : Nat)))) else none
  | _, _ => none
theorem rgD_rep {K : Fr} {F : Hp} {a b : Int} : RepL K F (rgV a b) ((List.range (b - a).toNat).map fun i => D.int (a + (i : Nat))) := by
  have k : ∀ l : List Nat, RepL K F (l.map fun i => V.int (a + (i : Nat))) (l.map fun i => D.int (a + (i : Nat))) := fun l => by
    induction l with
    | nil => exact .nil
    | cons x l ih => exact .cons (.int _) ih
  exact k _
theorem rg_run {K : Fr} {ρ : Rho} {F H : Hp} {S : Sto} {Q : VK} {XQ : XK} {a b : Int} (r : Rl K ρ F H S) (h : Wg (kR K .own) K ρ F H S Q XQ (R.get (rgD (.int a) (.int b)) S)) : RgOk a b ∧ ∀ q, H q = none → Q (.ref q) (L2.upd H q (.lst (rgV a b))) := by
  unfold rgD at h
  dsimp only at h
  split at h
  · rename_i c
    simp only [Bool.and_eq_true, decide_eq_true_eq] at c
    obtain ⟨⟨c1, c2⟩, c3⟩ := c
    exact ⟨⟨by omega, by omega, by omega, by omega, by omega⟩, fun q hq => Wg.alloc h r hq (.lst upd_same rgD_rep)⟩
  · exact False.elim h
section
variable {X : Cx} {w : WX} {a b : Expr} {fa fb : E D} {p p2 pos pos2 : Pos}
theorem pd_listRg1 (hc : X.calm = true) (hg : Gl X "list") (hm : X.mg "list" = none) (hg2 : Gl X "range") (hm2 : X.mg "range" = none) (ha : PD X .bor w a fa) (hs : starEach [a] X.env = (false, eval a X.env) :: starEach [] X.env := by rfl)
    (na : starEach [.Call (.Name "range" p2) [a] [] pos2] X.env = (false, eval (.Call (.Name "range" p2) [a] [] pos2) X.env) :: starEach [] X.env := by rfl) :
    PD X .own w (.Call (.Name "list" p) [.Call (.Name "range" p2) [a] [] pos2] [] pos) (b1E (rgD (.int 0)) fa) := PE.imp (pe_listRg hc hg hm (prg_1 hg2 hm2 ha hs) na) (by
  rintro σ H Q ⟨ρ, F, S, env, rl, en, q⟩
  refine ⟨ρ, F, S, env, rl, en, Wg.step kR.old q fun x S1 v ρ1 F1 H1 n1 r1 k1 q1 => ?_⟩
  obtain ⟨x', _, t, q1⟩ := rs_get r1 (bor_top2 r1 k1) q1
  cases t with
  | int j => exact ⟨j, rfl, rg_run r1 q1⟩
  | _ => exact False.elim q1)
theorem pd_listRg2 (hc : X.calm = true) (hg : Gl X "list") (hm : X.mg "list" = none) (hg2 : Gl X "range") (hm2 : X.mg "range" = none) (ha : PD X .bor w a fa) (hb : PD X .bor w b fb) (hs : starEach [a, b] X.env = (false, eval a X.env) :: starEach [b] X.env := by rfl)
    (hs2 : starEach [b] X.env = (false, eval b X.env) :: starEach [] X.env := by rfl) (na : starEach [.Call (.Name "range" p2) [a, b] [] pos2] X.env = (false, eval (.Call (.Name "range" p2) [a, b] [] pos2) X.env) :: starEach [] X.env := by rfl) :
    PD X .own w (.Call (.Name "list" p) [.Call (.Name "range" p2) [a, b] [] pos2] [] pos) (opE rgD fa fb) := PE.imp (pe_listRg hc hg hm (prg_2 hg2 hm2 ha hb hs hs2 (by rw [hs2]; rfl)) na) (by
  rintro σ H Q ⟨ρ, F, S, env, rl, en, q⟩
  refine ⟨ρ, F, S, env, rl, en, Wg.step kR.old q fun x S1 v ρ1 F1 H1 n1 r1 k1 q1 => ?_⟩
  refine ⟨ρ1, F1, S1, env, r1, en.later n1, Wg.step kR.old q1 fun y S2 u ρ2 F2 H2 n2 r2 k2 q2 => ?_⟩
  obtain ⟨x', _, t, q2⟩ := rs_get r2 (bor_top2 r2 (bor_later n2 k1)) q2
  obtain ⟨y', _, t', q2⟩ := rs_get r2 (bor_top2 r2 k2) q2
  cases t with
  | int i =>
    cases t' with
    | int j => exact ⟨i, j, rfl, rfl, rg_run r2 q2⟩
    | _ => exact False.elim q2
  | _ => exact False.elim q2)
end
/-! ### x = [.. for ..] on one row -/
theorem ps_setLcO {X : Cx} {w : WX} {i : Nat} {y : Str} {py : Pos} {elt tg iter : Expr} {ifs : List Expr} {scope : Scope} {own : List (Str × Nat)} {pos spos : Pos} {tt : Tgt} {fi : E (List D)} {ft : E Bool} {fe : E D} (hc : X.calm = true) (hN : X.N.Nodup) (hy : X.N[i]? = some y) (hyl : X.env.scope.names.lookup y = some .local)
    (hi : PIt X w tg iter fi) (ok : BlkOk X.N X.env.scope scope own) (hg : ∀ (s : Shared) (H : Hp) (C : Addr) (cl : List (Str × Addr)) (fp : List Addr), PTg (X.blk s H scope (compEnvC scope cl C X.env) fp) tg tt)
    (ht : ∀ (s : Shared) (H : Hp) (C : Addr) (cl : List (Str × Addr)) (fp : List Addr), PTs (X.blk s H scope (compEnvC scope cl C X.env) fp) ifs (tBl X.K w0 ft)) (he : ∀ (s : Shared) (H : Hp) (C : Addr) (cl : List (Str × Addr)) (fp : List Addr), PD (X.blk s H scope (compEnvC scope cl C X.env) fp) .frz w0 elt fe)
    (hsub : ∀ d us, tt d = some us → ∀ p ∈ us, p.1 ∈ own.map (·.2)) (hk : X.env.scope.kind = .function := by rfl) (hl : (py.line == pos.line) = true := by rfl) (ha : (scope.names.any fun (n, k) => n == y && (k == .local || k == .cell)) = false := by rfl) (hs : ∀ x, foldedSetIterable iter X.env x = pure x := by intro _; rfl) :
    PSt X w (.Assign [.Name y py] (.ListComp elt [⟨tg, iter, ifs, 0⟩] scope pos) spos) (ownS i (compE (own.map (·.2)) tt fi ft fe)) := PS.imp (ps_setLc (g := tT X.K tt) (tt := tBl X.K w0 ft) (te := tD X.K .frz w0 fe) hc hN hy hyl (sw_true hk hyl hl ha) hi ok hg ht he hs) (by
  rintro D' σ H ⟨ρ0, F0, H0, S0, ρ, F, S, env, a, q⟩
  refine comp_run (w := w) hsub ⟨ρ, F, S, env, a.rl, a.en, Ws.step a q fun d S1 v ρ1 F1 H1 n1 a1 k1 q1 => ?_⟩
  by_cases c : ownS.isRef d = true
  · rw [if_pos c] at q1
    have ev : ∃ b, v = .ref b := by
      have t := k1.1
      cases t <;> first | exact ⟨_, rfl⟩ | cases c
    obtain ⟨b, rfl⟩ := ev
    obtain ⟨h1, h2, h3, h4⟩ := k1.2 b rfl
    refine q1 ρ1 F1 H1 _ (a1.setO k1.1 h1 h2 h4 (a.nx.grow b h3) fun j d' cj hj z => ?_)
    obtain ⟨u, g1, g2, g3, g4, g5⟩ := a.en.o j d' hj
    rw [z] at g1
    cases g1
    rw [h3] at g5
    cases g5
  · rw [if_neg c] at q1
    exact False.elim q1)
theorem tg_sub_n {i : Nat} {d : D} {us : List (Nat × D)} {p : Nat × D} (h : tgN i d = some us) (hp : p ∈ us) : p.1 ∈ [i] := by
  cases h
  cases List.mem_singleton.mp hp
  simp
theorem tg_sub_t {is : List Nat} {d : D} {us : List (Nat × D)} {p : Nat × D} (h : tgT is d = some us) (hp : p ∈ us) : p.1 ∈ is := by
  unfold tgT at h
  split at h
  · split at h
    · cases h
      exact (List.of_mem_zip hp).1
    · cases h
  · split at h
    · cases h
      exact (List.of_mem_zip hp).1
    · cases h
  · cases h
end Fw

set_option  maxHeartbeats 4000000
/-! Fw: exceptions -/
namespace Fw
open PySem L2 PySem.Spec PyProof.Rows

/-! ### raise C('text') -/
def raiseS (nm : Str) : Stm := fun env S => .exc ⟨nm, none⟩ env S
section
variable {X : Cx} {w : WX} {C : Addr} {bmB : List Value} {B newId initId : String} {x m : Str} {j : Nat} {p p2 pos pos' : Pos}
theorem ps_raiseC (hc : X.calm = true) (tk : Takes X w) (F : ExcBaseFacts B newId initId bmB) (q : PySem.W.excIn X.K C bmB newId = true) (gC : X.mg x = some (.ref C)) (kC : PySem.W.keepIn X.K (.ref C) = true) (r : Raises X (.ref C)) (hg : Gl X x)
    (hx : PySem.W.nsIn X.K mainGlobals x = some (some (.ref C))) (hdb : (x == ("__debug__" : Str)) = false := by decide) : PSt X w (.Raise (some (.Call (.Name x p) [.Constant (.str m) j p2] [] pos)) none pos') (raiseS x) := PS.imp (L2.ps_raise hc tk (L2.pmk_own F q gC kC r hg hdb)) (by
  rintro D' σ H ⟨ρ0, F0, H0, S0, ρ, F, S, env, a, q⟩
  exact q (.ref C) none ρ F H σ a ⟨C, hx, rfl, rfl⟩)
end

/-! ### a def called from an except suite; nothing is raised there -/
structure CalX (P : Program) (w : World) (K : Fr) (mg : Str → Option Value) (base : Heap) (k : Nat) (p : Addr × Obj) (f : Addr) (sp : Sp) : Prop where
  run : ∀ (A : Around) (outer : List PySem.Env) (s : Shared) (H : Hp) (us : List Value) (vs : List V) (Q : VK) (E : XK), L2H.RoomH k A → A.guards = some [] → L2H.PinOk outer H s p → Env0 P w K mg base A outer s H → Vals vs us → sp vs H Q E →
    codeAny (model P w) A (.call (.ref f) ⟨us, []⟩) (CR (L2.CX P w) outer P w H s Q E) s
theorem calx_of {P : Program} {w : World} {K : Fr} {mg : Str → Option Value} {base : Heap} {x qual : Str} {st : Stmt} {f : Addr} {fd : FuncData} {N ps : List Str} {k : Nat} {p : Addr × Obj} {sp : Sp} (F : L2.Fun K x qual st f fd) (S : FnScope N ps (defScope st)) (hb : Binds K fd ps [])
    (len : ∀ vs H Q E, sp vs H Q E → vs.length = ps.length)
    (hbody : ∀ (cdv : Value) (A : Around) (outer : List PySem.Env) (s : Shared) (H : Hp) (vs : List V) (Q : VK) (E : XK), L2H.RoomH k (A.deeper (envOfC qual (defScope st) s.heap.objs.size f cdv)) → A.guards = some [] → sp vs H Q E →
      ∃ t, PSs (L2H.cxH (L2.CX P w) P w K mg base N qual (defScope st) f cdv A outer s H E p) (defBody st) t ∧ t { nx := fun _ H' => Q .non H', rt := Q } (start N vs) H) : CalX P w K mg base (k + 1) p f sp := by
  constructor
  intro A outer s H us vs Q E hr hgd hpin e0 r hsp
  obtain ⟨oc, od, kV, doc, pm, an, cdv, ct, osl, rfl, lk, hcd⟩ := F.ex
  have hl := len _ _ _ _ hsp
  have KX : K.In s.heap := e0.mod.kin.keeps fun b o z => (e0.bs b o z).1
  have lim : s.heap.NoLimit := e0.mod.nolimit.keeps fun b o z => (e0.bs b o z).1
  have hul : (us ++ []).length = ps.length := by rw [List.append_nil, ← r.length]; exact hl
  have hb' := hb s us KX hul
  rw [List.append_nil] at hb'
  have hkind : ∀ y ∈ ps.zip us, (defScope st).names.lookup y.1 = some .local ∨ ((defScope st).names.lookup y.1 = some .cell ∧ ((cellsFrom (s.heap.objs.size + 1) (defScope st).names []).lookup y.1).isSome = true) := by
    rintro ⟨n, v⟩ hy
    rcases S.par n (List.of_mem_zip hy).1 with q | q
    · exact .inl q
    · exact .inr ⟨q, PySem.W.cellsFrom_some _ _ _ (.inl q)⟩
  refine codeAny_call_function hr.depth (KX _ _ lk) rfl S.co S.gen rfl (PySem.W.codeRec_of KX hcd) (hb' _ _ _ _ ?_)
  refine wpAny_newFunctionEnv_cells S.kind hkind fun env he s1 x => ?_
  subst he
  refine ⟨lim.keeps x.toInCall.keep, codeAny_func ?_⟩
  obtain ⟨t, ht, hq⟩ := hbody cdv A outer s H vs Q E (hr.deeper _) hgd hsp
  have I : Inv (L2H.cxH (L2.CX P w) P w K mg base N qual (defScope st) f cdv A outer s H E p) [] (start N vs) H s1 := L2H.inv_startH S hpin e0 hl r x
  have fin : ∀ {σ' : L2.St} {H' : Hp} {v : V} {u : Value} {s' : Shared}, Inv (L2H.cxH (L2.CX P w) P w K mg base N qual (defScope st) f cdv A outer s H E p) [] σ' H' s' → RelV v u → Q v H' → CE outer P w H s Q u s' := by
    intro σ' H' v u s' J rv q
    exact ⟨v, H', J.os, J.bare, J.base, J.hok, rv, q⟩
  refine wpAny_mono (ht.run [] s1 (start N vs) H _ I hq) (fun fl s' hs => ?_) fun e s' hs => hs
  cases fl with
  | next =>
    obtain ⟨σ', H', J, q⟩ := hs
    exact fin (v := V.non) (u := Value.none) J rfl q
  | ret u =>
    obtain ⟨v, σ', H', J, rv, q⟩ := hs
    exact fin J rv q
  | brk =>
    obtain ⟨_, _, _, q⟩ := hs
    exact False.elim q
  | cont =>
    obtain ⟨_, _, _, q⟩ := hs
    exact False.elim q
section
variable {X : Cx} {w : WX} {k : Nat} {p : Addr × Obj} {f : Addr} {sp : Sp} {x : Str} {q pos : Pos} {e : Expr} {es : List Expr} {t : TA}
theorem run_calx {pins : List (Addr × Obj)} {σ : L2.St} {H : Hp} {s : Shared} {Q : VK} {us : List Value} {vs : List V} (F : CalX X.prog X.w X.K X.mg X.base k p f sp) (hr : L2H.RoomH k X.A) (hgd : X.A.guards = some []) (hp : p ∈ X.pn) (tk : Takes X w)
    (I : Inv X pins σ H s) (r : Vals vs us) (h : sp vs H Q fun cls dd H' => w cls dd σ H') : wpAny (model X.prog X.w) X.A (call (.ref f) us) (EP X pins σ Q) X.xe s := by
  have P1 := I.pin p (List.mem_append_left _ hp)
  have hpin : L2H.PinOk X.stack H s p := ⟨P1.1, P1.2.1, fun hm => (List.mem_cons.mp (I.stkSub p.1 hm)).elim P1.2.2.1 P1.2.2.2.1, P1.2.2.2.2⟩
  refine wpAny_call (codeAny_mono (F.run X.A X.stack s H us vs Q _ hr hgd hpin I.env0 r h) fun r s' hq => ?_)
  cases r with
  | error e => exact tk e s' (XE.of_call I (fun _ _ _ z => z) hq)
  | ok fl =>
    cases fl with
    | ret u => exact I.after hq
    | next => exact False.elim hq
    | brk => exact False.elim hq
    | cont => exact False.elim hq
theorem pe_clx (F : CalX X.prog X.w X.K X.mg X.base k p f sp) (hr : L2H.RoomH k X.A) (hgd : X.A.guards = some []) (hp : p ∈ X.pn) (tk : Takes X w) (hg : Gl X x) (hm : X.mg x = some (.ref f)) (hk : PySem.W.keepIn X.K (.ref f) = true) (ha : PA X (e :: es) t)
    (hdb : (x == ("__debug__" : Str)) = false := by decide) (he : starEach (e :: es) X.env = (false, eval e X.env) :: starEach es X.env := by rfl) (hpl : (backTo pos (starEach es X.env)).any (·.1) = false := by rfl) :
    PE X (.Call (.Name x q) (e :: es) [] pos) (tCl sp w t) := by
  constructor
  intro pins s σ H Q I h
  refine wpAny_Call_Name_kw (ld_glob I hg hm ?_ hdb)
  refine PySem.W.callWith_K (h₀ := X.base) I.ok.mod.kin hk (thn (ha.run pos pins s σ H _ I h) fun us s1 z => ?_) he hpl
  obtain ⟨vs, H1, I1, r, q⟩ := z
  exact ⟨I1.kIn, run_calx F hr hgd hp tk I1 r q⟩
end

/-! ### the caught exception as an argument -/
def cellX (i : Nat) : E W := fun env S => match env[i]? with
  | some (some (.x a o)) => .ok (.x a o) S
  | _ => .no
def consX (i : Nat) (fs : E (List W)) : E (List W) := bindE (cellX i) fun x => bindE fs fun xs _ S => .ok (x :: xs) S
section
variable {X : Cx} {w : WX} {es : List Expr} {fs : E (List W)}
theorem pw_x {i : Nat} {x : Str} {pos : Pos} (hr : PW' X w es fs) (hN : X.N[i]? = some x) (hv : Vis X.env.scope x) (hs : starEach (.Name x pos :: es) X.env = (false, eval (.Name x pos) X.env) :: starEach es X.env := by rfl)
    (hd : (x == ("__debug__" : Str)) = false := by decide) (hcd : (x == ("__classdict__" : Str)) = false := by decide) : PW' X w (.Name x pos :: es) (consX i fs) := PA.imp (pa_cons (pe_var hN hv hd hcd) hr hs) (by
  rintro σ H Q ⟨ρ, F, S, env, rl, en, q⟩
  unfold consX bindE cellX at q
  split at q
  · rename_i a o ee
    obtain ⟨v, h1, hx⟩ := en.x i a o ee
    refine ⟨v, h1, ρ, F, S, env, rl, en, Wg.step wR.old q fun xs S2 vs ρ2 F2 H2 n2 r2 k2 q2 => ?_⟩
    exact Wg.give q2 r2 (Paired.cons (show wR1 X.K ρ2 F2 v (.x a o) from hx.mono n2.fsub) k2)
  · exact False.elim q)
end

/-! ### isinstance of the caught exception -/
theorem call_isP {X : Cx} {a C : Addr} {oe : Obj} (hp : (a, oe) ∈ X.pn) (c : ExcC X.K C) (hz : Zc (.ref C) none oe) (hf : ∃ vs, oe.data = .fields vs) : CallR X (.builtin "isinstance") (rIsE X.K C a) := by
  intro pins s σ H xs us Q I r h
  obtain ⟨k, cv, b, rfl, hcv, e, q⟩ := h
  obtain ⟨u1, u2, rfl, r1, r2⟩ := vals2 r
  cases (show u1 = Value.ref a from r1)
  cases hcv _ r2
  obtain ⟨hget, _⟩ := I.pin (a, oe) (List.mem_append_left _ hp)
  obtain ⟨vs, hv⟩ := hf
  have J : PySem.W.InstAt s.heap a oe C none := by
    obtain ⟨oc, od, oda, osl⟩ := oe
    obtain ⟨h1, h2⟩ := hz
    dsimp only at h1 h2 hv
    subst h1 h2 hv
    exact ⟨hget, rfl, rfl, trivial⟩
  exact PySem.W.kia_one (PySem.W.handS_kitx_exc c.hg c.hk c.hs c.hd c.ha c.hn c.ht c.hm) I.kIn J e (fun z => nomatch z) fun tk => ⟨.bl b, H, I.kept (t' := tk) fun _ _ z => z, rfl, q⟩
def rIsET (K : Fr) (C a : Addr) : List V → Hp → VK → Prop := fun xs H Q => ∃ (tp : Addr) (cs : List V) (us : List Value) (b : Bool), xs = [.ref a, .ref tp] ∧ H tp = some (.tup cs) ∧ Paired ClsV cs us ∧ PySem.W.kitAny K (.ref C) us = some b ∧ Q (.bl b) H
theorem call_isPT {X : Cx} {a C : Addr} {oe : Obj} (hp : (a, oe) ∈ X.pn) (c : ExcC X.K C) (hz : Zc (.ref C) none oe) (hf : ∃ vs, oe.data = .fields vs) : CallR X (.builtin "isinstance") (rIsET X.K C a) := by
  intro pins s σ H xs us Q I r h
  obtain ⟨tp, cs, ws, b, rfl, hT, k, e, q⟩ := h
  obtain ⟨u1, u2, rfl, r1, r2⟩ := vals2 r
  cases (show u1 = Value.ref a from r1)
  cases (show u2 = Value.ref tp from r2)
  obtain ⟨hget, _⟩ := I.pin (a, oe) (List.mem_append_left _ hp)
  obtain ⟨vs, hv⟩ := hf
  have J : PySem.W.InstAt s.heap a oe C none := by
    obtain ⟨oc, od, oda, osl⟩ := oe
    obtain ⟨h1, h2⟩ := hz
    dsimp only at h1 h2 hv
    subst h1 h2 hv
    exact ⟨hget, rfl, rfl, trivial⟩
  obtain ⟨_, its, rv, o, h1, h2, n, h3⟩ := (show ObjOk X.prog X.w H s.heap tp (.tup cs) from I.hok tp _ hT)
  have e3 := ClsV.all k rv
  subst e3
  obtain ⟨oc, od, dt, sl⟩ := o
  simp only at h2 h3
  subst h2 h3
  exact PySem.W.kia_tup (PySem.W.handS_kitx_exc c.hg c.hk c.hs c.hd c.ha c.hn c.ht c.hm) I.kIn J h1 e (fun z => nomatch z) fun tk => ⟨.bl b, H, I.tok tk, rfl, q⟩
/-- classes and types written out -/
def PCs (X : Cx) (es : List Expr) (cs : List V) : Prop := PA X es (fun _ H Q => Q cs H)
section
variable {X : Cx} {w : WX} {e c : Expr} {es : List Expr} {cs : List V} {v : V} {us : List Value} {u : Value}
theorem pcs_nil : PCs X [] [] := PA.imp pa_nil fun _ _ _ h => h
theorem pcs_cons (h : PE X e (tC v)) (r : PCs X es cs) (hs : starEach (e :: es) X.env = (false, eval e X.env) :: starEach es X.env := by rfl) : PCs X (e :: es) (v :: cs) := PA.imp (pa_cons h r hs) fun _ _ _ q => q
/-- isinstance(n, ..): n's slot bears the caught exception; its answer is b -/
def isXE (a : Addr) (b : Bool) (i : Nat) : E D := fun env S => match env[i]? with
  | some (some (.x a' _)) => if a' = a then .ok (.bl b) S else .no
  | _ => .no
variable {a C : Addr} {oe : Obj} {b : Bool} {i k : Nat} {n : Str} {p np tp pos : Pos}
theorem pd_isx1 (hp : (a, oe) ∈ X.pn) (cc : ExcC X.K C) (hz : Zc (.ref C) none oe) (hf : ∃ vs, oe.data = .fields vs) (hg : Gl X "isinstance") (hm : X.mg "isinstance" = none) (hN : X.N[i]? = some n) (hv : Vis X.env.scope n) (hc : PE X c (tC v)) (kc : ClsV v u) (hk : PySem.W.kitOne X.K (.ref C) u = some b)
    (hd : (n == ("__debug__" : Str)) = false := by decide) (hcd : (n == ("__classdict__" : Str)) = false := by decide) (hs : starEach [.Name n np, c] X.env = (false, eval (.Name n np) X.env) :: starEach [c] X.env := by rfl) (hs2 : starEach [c] X.env = (false, eval c X.env) :: starEach [] X.env := by rfl) :
    PD X .frz w (.Call (.Name "isinstance" p) [.Name n np, c] [] pos) (isXE a b i) := PE.imp (pe_callB (call_isP hp cc hz hf) hg hm PyProof.Rows.boot_isinstance (pa_cons (pe_var hN hv hd hcd) (pa_cons hc pa_nil hs2) hs) (by decide) (by decide) hs (by rw [hs2]; rfl)) (by
  rintro σ H Q ⟨ρ, F, S, env, rl, en, q⟩
  unfold isXE at q
  split at q
  · rename_i a' o' ee
    obtain ⟨v0, h1, rfl, hx⟩ := en.x i a' o' ee
    by_cases ea : a' = a
    · rw [if_pos ea] at q
      subst ea
      exact ⟨.ref a', h1, v, u, b, rfl, fun z r => kc.eq r, hk, q.sc rl rfl⟩
    · rw [if_neg ea] at q
      exact False.elim q
  · exact False.elim q)
theorem pd_isxT (hp : (a, oe) ∈ X.pn) (cc : ExcC X.K C) (hz : Zc (.ref C) none oe) (hf : ∃ vs, oe.data = .fields vs) (hg : Gl X "isinstance") (hm : X.mg "isinstance" = none) (hN : X.N[i]? = some n) (hv : Vis X.env.scope n) (hc : PCs X es cs) (kc : Paired ClsV cs us) (hl : cs.length ≤ 16777216) (hk : PySem.W.kitAny X.K (.ref C) us = some b)
    (hd : (n == ("__debug__" : Str)) = false := by decide) (hcd : (n == ("__classdict__" : Str)) = false := by decide) (hs : starEach [.Name n np, .Tuple es k tp] X.env = (false, eval (.Name n np) X.env) :: starEach [.Tuple es k tp] X.env := by rfl) (hs2 : starEach [.Tuple es k tp] X.env = (false, eval (.Tuple es k tp) X.env) :: starEach [] X.env := by rfl) :
    PD X .frz w (.Call (.Name "isinstance" p) [.Name n np, .Tuple es k tp] [] pos) (isXE a b i) := PE.imp (pe_callB (call_isPT hp cc hz hf) hg hm PyProof.Rows.boot_isinstance (pa_cons (pe_var hN hv hd hcd) (pa_cons (pe_tup hc) pa_nil hs2) hs) (by decide) (by decide) hs (by rw [hs2]; rfl)) (by
  rintro σ H Q ⟨ρ, F, S, env, rl, en, q⟩
  unfold isXE at q
  split at q
  · rename_i a' o' ee
    obtain ⟨v0, h1, rfl, hx⟩ := en.x i a' o' ee
    by_cases ea : a' = a
    · rw [if_pos ea] at q
      subst ea
      refine ⟨.ref a', h1, by rw [sizeLine_eq]; exact hl, fun T hT => ?_⟩
      refine ⟨T, cs, us, b, rfl, upd_same, kc, hk, ?_⟩
      exact q _ ρ F _ (Nx.new hT) (rl.new hT) (Rep.bl _)
    · rw [if_neg ea] at q
      exact False.elim q
  · exact False.elim q)
end

/-! ### try, except C as n -/
open Classical in
noncomputable def sameS (f : Addr → Addr → RS) : RS := if ∀ a dd, f a dd = f 0 0 then f 0 0 else .no
def RS.gone (i : Nat) : RS → RS
  | .nx env S => .nx (env.set i none) S
  | .rt k d S => .rt k d S
  | _ => .no
def xSlot (a dd : Addr) (x : Xn) : W := .x a (x.fld.map fun p => (dd, p.1, p.2))
noncomputable def tryS (body : Stm) (i : Nat) (cat : Str → Option Bool) (h : Addr → Xn → Stm) : Stm := fun env S => match body env S with
  | .exc x env' S' => (match cat x.nm with
    | some true => sameS fun a dd => (h a x (env'.set i (some (xSlot a dd x))) S').gone i
    | some false => .exc x env' S'
    | none => .no)
  | r => r
theorem sameS_eq {f : Addr → Addr → RS} {r : RS} (h : ∀ a dd, f a dd = r) : sameS f = r := by
  unfold sameS
  rw [if_pos fun a dd => (h a dd).trans (h 0 0).symm]
  exact h 0 0
theorem sameS_at {f : Addr → Addr → RS} {K : Fr} {ρ0 : Rho} {F0 H0 : Hp} {S0 : Sto} {w : WX} {D' : Ends} (h : Ws K ρ0 F0 H0 S0 w D' (sameS f)) (a dd : Addr) : Ws K ρ0 F0 H0 S0 w D' (f a dd) := by
  unfold sameS at h
  split at h
  · rename_i e
    rw [e a dd]
    exact h
  · exact False.elim h
section
variable {K : Fr} {ρ0 ρ : Rho} {F0 H0 F H : Hp} {S0 S : Sto} {σ : L2.St} {env : Env} {i : Nat}
theorem At.setX (a : At K ρ0 F0 H0 S0 ρ F H S σ env) {b : Addr} {o : Option (Addr × Str × D)} (h : XAt K F b o (.ref b)) : At K ρ0 F0 H0 S0 ρ F H S (σ.set i (some (.ref b))) (env.set i (some (.x b o))) := by
  refine ⟨a.rl, a.en.set (.ref b) _ (fun _ z => by cases z) (fun _ z => by cases z) (fun _ z => by cases z) (fun _ _ z => by cases z; exact h), a.nx, fun j e c g1 g2 => ?_⟩
  rcases env_get g1 with ⟨_, z, _⟩ | ⟨n, z⟩
  · cases z
  · rw [List.getElem?_set_ne (Ne.symm n)] at g2
    exact a.new j e c z g2
theorem At.gone (a : At K ρ0 F0 H0 S0 ρ F H S σ env) : At K ρ0 F0 H0 S0 ρ F H S (σ.set i none) (env.set i none) := by
  refine ⟨a.rl, a.en.wipe [i], a.nx, fun j e c g1 g2 => ?_⟩
  by_cases n : j = i
  · subst n
    have q := (set_same g1).1
    cases q
  · rw [List.getElem?_set_ne (Ne.symm n)] at g1 g2
    exact a.new j e c g1 g2
end
section
variable {X : Cx} {W : WX} {x n : Str} {c : Value} {i : Nat} {body suite : List Stmt} {b0 : Stmt} {np pos pos' : Pos} {fb : Stm} {cat : Str → Option Bool} {h : Addr → Xn → Stm}
theorem ps_tryS (hs : X.stack = X.env :: X.outer) (hf : X.env.frame = some X.env.locals) (hN : X.N.Nodup) (hi : X.N[i]? = some n) (hln : X.env.kindOf n = some .local) (hc : Names X x c) (tk : Takes X W)
    (hb : ∀ (W' : WX) (pn : List (Addr × Obj)) (xe : Value → Shared → Prop), Takes (X.tr pn xe) W' → PassesOwn (model X.prog X.w) X.A X.env xe → PSb (X.tr pn xe) W' body fb)
    (hcat : ∀ nm b C, cat nm = some b → PySem.W.nsIn X.K mainGlobals nm = some (some (.ref C)) → PySem.W.exmOne X.K (.ref C) c = some b)
    (hsu : ∀ (a : Addr) (oe : Obj) (C : Addr) (d : Option Addr) (pn : List (Addr × Obj)) (x : Xn), cat x.nm = some true → PySem.W.nsIn X.K mainGlobals x.nm = some (some (.ref C)) → Zc (.ref C) d oe → (∃ vs, oe.data = .fields vs) → (x.fld = none → d = none) → (x.fld ≠ none → d ≠ none) →
      PSb (X.suite a ((a, oe) :: pn)) w0 (b0 :: suite) (h a x)) :
    PSt X W (.Try body [.ExceptHandler (some (.Name x np)) (some n) (b0 :: suite) pos'] [] [] pos) (tryS fb i cat h) := by
  refine PS.imp (L2.ps_try_as (tb := fun W' => tS X.K W' fb) (ts := fun a cls d D σ H => ∃ (xn : Xn) (C : Addr), cls = .ref C ∧ cat xn.nm = some true ∧ PySem.W.nsIn X.K mainGlobals xn.nm = some (some (.ref C)) ∧ (xn.fld = none → d = none) ∧ (xn.fld ≠ none → d ≠ none) ∧ tS X.K w0 (h a xn) D σ H) hs hf hN hi hln hc tk hb ?_) ?_
  · intro a oe cls d pn hz hv
    refine ⟨fun pins s σ H D' I q => ?_⟩
    obtain ⟨xn, C, e1, e2, e3, e4, e5, q⟩ := q
    subst e1
    exact (hsu a oe C d pn xn e2 e3 hz hv e4 e5).run pins s σ H D' I q
  · rintro D' σ H ⟨ρ0, F0, H0, S0, ρ, F, S, env, a, q⟩
    refine ⟨ρ0, F0, H0, S0, ρ, F, S, env, a, ?_⟩
    unfold tryS at q
    cases e : fb env S with
    | nx env' S' => rw [e] at q; exact q
    | rt k d S' => rw [e] at q; exact q
    | no => rw [e] at q; exact False.elim q
    | exc xn env' S' =>
      rw [e] at q
      intro cls dd ρ1 F1 H1 σ1 a1 xr
      obtain ⟨C, x1, rfl, x2⟩ := id xr
      dsimp only at q
      cases ec : cat xn.nm with
      | none => rw [ec] at q; exact False.elim q
      | some b =>
        rw [ec] at q
        refine ⟨b, hcat _ _ _ ec x1, fun eb a na => ?_, fun eb => ?_⟩
        · subst eb
          have fld : (xn.fld = none → dd = none) ∧ (xn.fld ≠ none → dd ≠ none) := by
            cases ef : xn.fld with
            | none => rw [ef] at x2; exact ⟨fun _ => x2, fun z => absurd rfl z⟩
            | some p =>
              rw [ef] at x2
              obtain ⟨p1, p2⟩ := p
              obtain ⟨ad, v, z, _⟩ := x2
              exact ⟨(fun y => nomatch y), fun _ => by rw [z]; exact Option.some_ne_none _⟩
          have q2 := sameS_at q a (dd.getD 0)
          have xa : XAt X.K F1 a (xn.fld.map fun p => (dd.getD 0, p.1, p.2)) (.ref a) := by
            refine ⟨rfl, fun d1 f1 e1 z => ?_⟩
            cases ef : xn.fld with
            | none => rw [ef] at z; cases z
            | some p =>
              rw [ef] at z x2
              obtain ⟨p1, p2⟩ := p
              obtain ⟨ad, v, z1, z2, z3⟩ := x2
              subst z1
              cases z
              exact ⟨v, z2, z3⟩
          refine ⟨xn, C, rfl, ec, x1, fld.1, fld.2, ρ0, F0, H0, S0, ρ1, F1, S', env'.set i (some (xSlot a (dd.getD 0) xn)), a1.setX xa, ?_⟩
          · cases eh : h a xn (env'.set i (some (xSlot a (dd.getD 0) xn))) S' with
            | nx env2 S2 =>
              rw [eh] at q2
              exact fun ρ2 F2 H2 σ2 a2 => q2 ρ2 F2 H2 _ a2.gone
            | rt k d S2 => rw [eh] at q2; exact q2
            | exc y env2 S2 => rw [eh] at q2; exact False.elim q2
            | no => rw [eh] at q2; exact False.elim q2
        · subst eb
          exact q (.ref C) dd ρ1 F1 H1 σ1 a1 xr
end

/-! ### a def called in a suite, its promise by its body -/
section
variable {P : Program} {w : World} {K : Fr} {mg : Str → Option Value} {base : Heap} {x qual : Str} {st : Stmt} {f : Addr} {N ps : List Str} {lv m n : Nat} {k : Kd} {body : Stm} {p : Addr × Obj}
abbrev cxX (P : Program) (w : World) (K : Fr) (mg : Str → Option Value) (base : Heap) (N : List Str) (qual : Str) (st : Stmt) (f : Addr) (cdv : Value) (A : Around) (outer : List PySem.Env) (s : Shared) (H : Hp) (E : XK) (p : Addr × Obj) : Cx :=
  L2H.cxH (L2.CX P w) P w K mg base N qual (defScope st) f cdv A outer s H E p
theorem Fn1.calx (F : Fn1 K x qual st f ps) (Sc : FnScope N ps (defScope st))
    (h : ∀ (cdv : Value) (A : Around) (outer : List PySem.Env) (s : Shared) (H : Hp) (E : XK), L2H.RoomH lv (cxX P w K mg base N qual st f cdv A outer s H E p).A → (cxX P w K mg base N qual st f cdv A outer s H E p).A.guards = some [] →
      Takes (cxX P w K mg base N qual st f cdv A outer s H E p) (wD E) → PassesOwn (model P w) (cxX P w K mg base N qual st f cdv A outer s H E p).A (cxX P w K mg base N qual st f cdv A outer s H E p).env (cxX P w K mg base N qual st f cdv A outer s H E p).xe →
      PSb (cxX P w K mg base N qual st f cdv A outer s H E p) (wD E) (defBody st) body)
    (hm : ps.length = m := by rfl) (hn : N.length = n := by rfl) : CalX P w K mg base (lv + 1) p f (spF K k (defF k m n body)) := by
  obtain ⟨fd, F, hb⟩ := F
  subst hm
  subst hn
  refine calx_of F Sc hb (spF_len fun ws S c => if_neg c) fun cdv A outer s H vs Q E hr hgd hsp => ?_
  refine ⟨_, h cdv A outer s H E hr hgd (takes_of rfl rfl rfl rfl) (passes_of rfl), ?_⟩
  obtain ⟨ρ, F', S, ws, r, p, q⟩ := hsp
  have hl : ws.length = ps.length := by
    by_cases c : ws.length = ps.length
    · exact c
    · rw [show defF k ps.length N.length body ws S = .no from if_neg c] at q
      exact False.elim q
  rw [show defF k ps.length N.length body ws S = bodyF k N.length body ws S from if_pos hl] at q
  refine ⟨ρ, F', H, S, ρ, F', S, frame N.length ws, ⟨r, En.start p, Nx.refl, fun i d a h1 _ => ?_⟩, ?_⟩
  · obtain ⟨v, _, h2⟩ := Paired.get2 p (frame_get h1)
    exact False.elim h2
  · unfold bodyF at q
    cases e : body (frame N.length ws) S with
    | nx env' S' =>
      rw [e] at q
      exact fun ρ1 F1 H1 σ a => q .non _ F1 H1 (a.nx.take r.len) (a.rl.take _) (sv_rel rfl)
    | rt j d S' =>
      rw [e] at q
      obtain ⟨c, q⟩ := if_ok q
      intro v ρ1 F1 H1 n1 r1 k1
      cases k with
      | own =>
        cases j with
        | own => exact q v _ F1 H1 (n1.take r.len) (r1.take _) (KRel.take (k := .own) k1)
        | _ => cases c
      | frz =>
        cases j with
        | frz => exact q v _ F1 H1 (n1.take r.len) (r1.take _) k1
        | _ => cases c
      | bor => cases c
    | exc x env' S' =>
      rw [e] at q
      exact fun cls dd ρ1 F1 H1 σ a x1 => q cls dd _ F1 H1 (a.nx.take r.len) (a.rl.take _) x1
    | no =>
      rw [e] at q
      exact q
end
section
variable {X : Cx} {w : WX} {n k0 : Nat} {k : Kd} {p : Addr × Obj} {f : Addr} {g : Fnt} {x : Str} {q pos : Pos} {e : Expr} {es : List Expr} {fs : E (List W)}
theorem pd_callX (G : CalX X.prog X.w X.K X.mg X.base n p f (spF X.K k g)) (hr : L2H.RoomH n X.A) (hgd : X.A.guards = some []) (hp : p ∈ X.pn) (tk : Takes X w) (hg : Gl X x) (hm : X.mg x = some (.ref f)) (hk : PySem.W.keepIn X.K (.ref f) = true) (ha : PW' X w (e :: es) fs)
    (hdb : (x == ("__debug__" : Str)) = false := by decide) (he : starEach (e :: es) X.env = (false, eval e X.env) :: starEach es X.env := by rfl) (hpl : (backTo pos (starEach es X.env)).any (·.1) = false := by rfl) :
    PD X k w (.Call (.Name x q) (e :: es) [] pos) (callE g fs) := PE.imp (pe_clx G hr hgd hp tk hg hm hk ha hdb he hpl) (by
  rintro σ H Q ⟨ρ, F, S, env, rl, en, q⟩
  refine ⟨ρ, F, S, env, rl, en, Wg.step kR.old q fun ws S1 vs ρ1 F1 H1 n1 r1 k1 q1 => ?_⟩
  exact ⟨ρ1, F1, S1, ws, r1, k1, q1⟩)
theorem roomH_mark {A : Around} {v : Option Value} (h : L2H.RoomH n A) : L2H.RoomH n (A.mark v) := ⟨h.dp, h.un⟩
end
end Fw

set_option  maxHeartbeats 4000000
/-! Fw: cells within data: made, changed, walked -/
namespace Fw
open PySem L2 PySem.Spec PyProof.Rows

def hpSet (S : Sto) (n : Nat) (d : D) : Sto := match (S[0]? : Option Cl) with
  | some (Cl.hp ds) => S.set 0 (Cl.hp (ds.set n d))
  | _ => S
section
variable {K : Fr} {ρ : Rho} {F H : Hp} {S : Sto} {n : Nat} {d d' : D} {a : Addr} {o : HO} {ds ds1 : List D} {as : List Addr}
theorem set0_get {m : Nat} {c : Cl} (h : (S.set 0 (Cl.hp ds1))[m]? = some c) : (m = 0 ∧ c = .hp ds1) ∨ (m ≠ 0 ∧ S[m]? = some c) := by
  by_cases e : m = 0
  · subst e
    exact .inl ⟨rfl, (set_same h).1⟩
  · rw [List.getElem?_set_ne (Ne.symm e)] at h
    exact .inr ⟨e, h⟩
theorem hpSet_eq (h0 : S[0]? = some (Cl.hp ds)) : hpSet S n d = S.set 0 (Cl.hp (ds.set n d)) := by
  unfold hpSet
  rw [h0]
theorem Rl.hpSet (r : Rl K ρ F H S) (h : F a = some (Fw.mk n)) (e : hpD S n = some d) (ht : RepT K F (L2.upd H a o) (.ref a) d') (hz : isFz o = false := by rfl) : Rl K ρ F (L2.upd H a o) (hpSet S n d') ∧ Nx ρ F H S ρ F (L2.upd H a o) (hpSet S n d') := by
  obtain ⟨ds, as, h0, h1, h2, h3, nd, hl, t, hs, lv⟩ := hp_at r h e
  rw [hpSet_eq h0]
  have old : ∀ {m : Nat} {c : Cl}, (S.set 0 (Cl.hp (ds.set n d')))[m]? = some c → c ≠ Cl.dead → ∃ c', S[m]? = some c' ∧ c' ≠ Cl.dead := fun {m c} g1 g2 => by
    rcases set0_get g1 with ⟨e1, e2⟩ | ⟨e1, e2⟩
    · subst e1
      exact ⟨_, h0, (by intro z; cases z)⟩
    · exact ⟨c, e2, g2⟩
  have ne : ∀ b u, isMk u = false → F b = some u → b ≠ a := fun b u m g z => by
    subst z
    rw [h] at g
    cases g
    cases m
  refine ⟨⟨by rw [List.length_set]; exact r.len, ⟨fun b u m g => by rw [upd_ne (ne b u m g)]; exact r.sub.of b u m g, fun b u m g => ?_⟩, fun m c cs g1 g2 g3 => ?_, fun i j c c' bs cs hij g1 g2 g3 g4 g5 g6 => ?_, fun b u q z => ?_, fun ds2 as2 g1 g2 => ?_⟩, fun _ bs g => ⟨bs, g, List.prefix_refl _⟩, fun _ _ g => g, fun b u g l => ?_, fun _ u g => .inl ⟨u, g⟩, fun b l => .inl ?_, fun b g => ?_⟩
  · by_cases c : b = a
    · rw [c, upd_same]; rfl
    · rw [upd_ne c]; exact r.sub.mks b u m g
  · rcases set0_get g1 with ⟨e1, e2⟩ | ⟨e1, e2⟩
    · subst e1 e2
      rw [h2] at g3
      cases g3
      obtain ⟨⟨q1, q2, q3⟩, q4⟩ := r.cell 0 _ _ h0 (by intro z; cases z) h2
      refine ⟨⟨by rw [List.length_set]; exact q1, q2, fun i b dd k1 k2 => ?_⟩, fun b hb => ⟨(q4 b hb).1, ?_⟩⟩
      · by_cases ci : i = n
        · subst ci
          rw [h3] at k1
          cases k1
          have k3 := (set_same k2).1
          subst k3
          exact ⟨ht, by rw [upd_same]; rfl⟩
        · rw [List.getElem?_set_ne (Ne.symm ci)] at k2
          have nb : b ≠ a := fun z => by
            subst z
            obtain ⟨l1, l2⟩ := List.getElem?_eq_some_iff.mp k1
            obtain ⟨l3, l4⟩ := List.getElem?_eq_some_iff.mp h3
            exact ci ((List.getElem_inj q2).mp (l2.trans l4.symm))
          obtain ⟨k4, k5⟩ := q3 i b dd k1 k2
          refine ⟨k4.up (fun x u e hx => by cases e; rw [upd_ne nb]; exact hx) (fun _ _ z => z), by rw [upd_ne nb]; exact k5⟩
      · by_cases c : b = a
        · rw [c, upd_same]; rfl
        · rw [upd_ne c]; exact (q4 b hb).2
    · obtain ⟨x, y⟩ := r.cell m c cs e2 g2 g3
      have na : ∀ b ∈ cs, b ≠ a := fun b hb z => by
        subst z
        exact r.apart m 0 c _ cs as e1 e2 g2 g3 h0 (by intro z; cases z) h2 b hb (List.mem_of_getElem? h3)
      refine ⟨x.up (fun b u hb g => by rw [upd_ne (na b hb)]; exact g) (fun _ _ z => z), fun b hb => ⟨(y b hb).1, ?_⟩⟩
      rw [upd_ne (na b hb)]
      exact (y b hb).2
  · obtain ⟨c1, k1, k2⟩ := old g1 g2
    obtain ⟨c2, k3, k4⟩ := old g4 g5
    exact r.apart i j c1 c2 bs cs hij k1 k2 g3 k3 k4 g6
  · by_cases c : b = a
    · rw [c, upd_same] at q
      cases q
      rw [hz] at z
      cases z
    · rw [upd_ne c] at q
      exact r.fz b u q z
  · rw [h2] at g2
    cases g2
    exact r.mks ds _ h0 h2
  · have nb : b ≠ a := fun z => l (z ▸ lv)
    rw [upd_ne nb]
    exact g
  · obtain ⟨m, c, cs, g1, g2, g3, g4⟩ := l
    obtain ⟨c1, k1, k2⟩ := old g1 g2
    exact ⟨m, c1, cs, k1, k2, g3, g4⟩
  · by_cases c : b = a
    · subst c
      rw [upd_same] at g
      cases g
    · rw [upd_ne c] at g
      exact g
/-- an own object becomes a cell -/
theorem Rl.celNew (r : Rl K ρ F H S) (h0 : S[0]? = some (Cl.hp ds)) (hf : F a = none) (nl : ¬ Live ρ S a) (t : RepT K F H (.ref a) d) (hs : (H a).isSome = true) : ∃ ρ', Rl K ρ' (L2.upd F a (Fw.mk ds.length)) H (S.set 0 (Cl.hp (ds ++ [d]))) ∧
    ∀ {ρ0 F0 H0 S0}, Nx ρ0 F0 H0 S0 ρ F H S → H0 a = none → Nx ρ0 F0 H0 S0 ρ' (L2.upd F a (Fw.mk ds.length)) H (S.set 0 (Cl.hp (ds ++ [d]))) := by
  have hl : 0 < S.length := (List.getElem?_eq_some_iff.mp h0).1
  have hl2 : 0 < ρ.length := by rw [r.len]; exact hl
  obtain ⟨as, h2⟩ : ∃ as, ρ[0]? = some as := ⟨_, List.getElem?_eq_getElem hl2⟩
  obtain ⟨⟨q1, q2, q3⟩, q4⟩ := r.cell 0 _ _ h0 (by intro z; cases z) h2
  have na : a ∉ as := fun z => nl ⟨0, _, _, h0, (by intro z; cases z), h2, z⟩
  have up : Same F (L2.upd F a (Fw.mk ds.length)) := Same.upd1 hf
  have rg : ∀ {m : Nat} {bs : List Addr}, (ρ.set 0 (as ++ [a]))[m]? = some bs → (m = 0 ∧ bs = as ++ [a]) ∨ (m ≠ 0 ∧ ρ[m]? = some bs) := fun {m bs} g => by
    by_cases e : m = 0
    · subst e
      exact .inl ⟨rfl, (set_same g).1⟩
    · rw [List.getElem?_set_ne (Ne.symm e)] at g
      exact .inr ⟨e, g⟩
  have live : ∀ {b : Addr}, Live (ρ.set 0 (as ++ [a])) (S.set 0 (Cl.hp (ds ++ [d]))) b → Live ρ S b ∨ b = a := by
    rintro b ⟨m, c, cs, g1, g2, g3, g4⟩
    rcases set0_get g1 with ⟨e1, e2⟩ | ⟨e1, e2⟩
    · subst e1
      rcases rg g3 with ⟨_, e3⟩ | ⟨e3, _⟩
      · subst e3
        rcases List.mem_append.mp g4 with z | z
        · exact .inl ⟨0, _, as, h0, (by intro z; cases z), h2, z⟩
        · exact .inr (List.mem_singleton.mp z)
      · exact absurd rfl e3
    · rcases rg g3 with ⟨e3, _⟩ | ⟨_, e3⟩
      · exact absurd e3 e1
      · exact .inl ⟨m, c, cs, e2, g2, e3, g4⟩
  refine ⟨ρ.set 0 (as ++ [a]), ⟨by rw [List.length_set, List.length_set]; exact r.len, ⟨fun b u m g => ?_, fun b u m g => ?_⟩, fun m c cs g1 g2 g3 => ?_, fun i j c c' bs cs hij g1 g2 g3 g4 g5 g6 => ?_, fun b u q z => ?_, fun ds2 as2 g1 g2 b k g => ?_⟩, fun {ρ0 F0 H0 S0} n0 ha => ⟨fun m bs g => ?_, fun b u g => up b u (n0.fsub b u g), n0.keep, fun b u g => ?_, fun b l => ?_, n0.grow⟩⟩
  · by_cases c : b = a
    · rw [c, upd_same] at g; cases g; cases m
    · rw [upd_ne c] at g; exact r.sub.of b u m g
  · by_cases c : b = a
    · rw [c]; exact hs
    · rw [upd_ne c] at g; exact r.sub.mks b u m g
  · rcases set0_get g1 with ⟨e1, e2⟩ | ⟨e1, e2⟩
    · subst e1 e2
      rcases rg g3 with ⟨_, e3⟩ | ⟨e3, _⟩
      · subst e3
        refine ⟨⟨by rw [List.length_append, List.length_append, q1]; rfl, ?_, fun i b dd k1 k2 => ?_⟩, fun b hb => ?_⟩
        · exact List.nodup_append.mpr ⟨q2, by simp, fun x hx y hy z => by cases List.mem_singleton.mp hy; exact na (z ▸ hx)⟩
        · by_cases c : i < as.length
          · rw [List.getElem?_append_left c] at k1
            rw [List.getElem?_append_left (by omega)] at k2
            obtain ⟨k4, k5⟩ := q3 i b dd k1 k2
            exact ⟨k4.up (fun _ _ _ z => z) up, k5⟩
          · rw [List.getElem?_append_right (by omega)] at k1 k2
            rw [q1] at k1
            cases e : i - ds.length with
            | zero =>
              rw [e] at k1 k2
              cases k1
              cases k2
              exact ⟨t.up (fun _ _ _ z => z) up, hs⟩
            | succ p => rw [e] at k1; simp at k1
        · rcases List.mem_append.mp hb with z | z
          · have nb : b ≠ a := fun y => na (y ▸ z)
            exact ⟨(q4 b z).1.up (upd_ne nb), (q4 b z).2⟩
          · cases List.mem_singleton.mp z
            exact ⟨fun u g => by rw [upd_same] at g; cases g; rfl, hs⟩
      · exact absurd rfl e3
    · rcases rg g3 with ⟨e3, _⟩ | ⟨_, e3⟩
      · exact absurd e3 e1
      · obtain ⟨x, y⟩ := r.cell m c cs e2 g2 e3
        have nb : ∀ b ∈ cs, b ≠ a := fun b hb z => nl ⟨m, c, cs, e2, g2, e3, z ▸ hb⟩
        exact ⟨x.up (fun _ _ _ z => z) up, fun b hb => ⟨(y b hb).1.up (upd_ne (nb b hb)), (y b hb).2⟩⟩
  · have k : ∀ {m : Nat} {c : Cl} {es : List Addr}, (S.set 0 (Cl.hp (ds ++ [d])))[m]? = some c → c ≠ Cl.dead → (ρ.set 0 (as ++ [a]))[m]? = some es → ∃ c' fs, S[m]? = some c' ∧ c' ≠ Cl.dead ∧ ρ[m]? = some fs ∧ (es = fs ∨ (m = 0 ∧ es = fs ++ [a])) := fun {m c es} g1 g2 g3 => by
      rcases set0_get g1 with ⟨e1, e2⟩ | ⟨e1, e2⟩
      · subst e1
        rcases rg g3 with ⟨_, e3⟩ | ⟨e3, _⟩
        · exact ⟨_, as, h0, (by intro z; cases z), h2, .inr ⟨rfl, e3⟩⟩
        · exact absurd rfl e3
      · rcases rg g3 with ⟨e3, _⟩ | ⟨_, e3⟩
        · exact absurd e3 e1
        · exact ⟨c, es, e2, g2, e3, .inl rfl⟩
    obtain ⟨c1, f1, k1, k2, k3, k4⟩ := k g1 g2 g3
    obtain ⟨c2, f2, k5, k6, k7, k8⟩ := k g4 g5 g6
    have ap := r.apart i j c1 c2 f1 f2 hij k1 k2 k3 k5 k6 k7
    rcases k4 with e4 | ⟨e4, e5⟩
    · subst e4
      rcases k8 with e8 | ⟨e8, e9⟩
      · subst e8
        exact ap
      · subst e9
        intro b hb z
        rcases List.mem_append.mp z with z | z
        · exact ap b hb z
        · cases List.mem_singleton.mp z
          exact nl ⟨i, c1, _, k1, k2, k3, hb⟩
    · subst e5
      rcases k8 with e8 | ⟨e8, _⟩
      · subst e8
        intro b hb z
        rcases List.mem_append.mp hb with y | y
        · exact ap b y z
        · cases List.mem_singleton.mp y
          exact nl ⟨j, c2, _, k5, k6, k7, z⟩
      · exact absurd (e4.trans e8.symm) hij
  · obtain ⟨w, g⟩ := r.fz b u q z
    exact ⟨w, up b w g⟩
  · rcases set0_get g1 with ⟨_, e2⟩ | ⟨e1, _⟩
    · rcases rg g2 with ⟨_, e3⟩ | ⟨e3, _⟩
      · subst e3
        by_cases c : b = a
        · subst c
          rw [upd_same] at g
          have ek : k = ds.length := by
            have g : some (Fw.mk ds.length) = some (Fw.mk k) := g
            unfold Fw.mk at g
            cases g
            rfl
          subst ek
          rw [← q1, List.getElem?_append_right (Nat.le_refl _), Nat.sub_self]
          rfl
        · rw [upd_ne c] at g
          have z := r.mks ds as h0 h2 b k g
          rw [List.getElem?_append_left (List.getElem?_eq_some_iff.mp z).1]
          exact z
      · exact absurd rfl e3
    · exact absurd rfl e1
  · obtain ⟨cs, k1, k2⟩ := n0.pre m bs g
    by_cases c : m = 0
    · subst c
      rw [h2] at k1
      cases k1
      exact ⟨as ++ [a], by rw [List.getElem?_set_self hl2], k2.trans (List.prefix_append _ _)⟩
    · exact ⟨cs, by rw [List.getElem?_set_ne (Ne.symm c)]; exact k1, k2⟩
  · by_cases c : b = a
    · rw [c]; exact .inr (.inl ha)
    · rw [upd_ne c] at g; exact n0.fnew b u g
  · rcases live l with z | z
    · exact n0.cnew b z
    · rw [z]; exact .inr ha
end

/-- e, new, becomes a cell -/
def celE (fe : E D) : E D := bindE fe fun d _ S => match (S[0]? : Option Cl) with
  | some (Cl.hp ds) => if ownS.isRef d then .ok (.cel ds.length) (S.set 0 (Cl.hp (ds ++ [d]))) else .no
  | _ => .no
theorem pd_cel {X : Cx} {w : WX} {e : Expr} {fe : E D} (h : PD X .own w e fe) : PD X .frz w e (celE fe) := PE.imp h (by
  rintro σ H Q ⟨ρ, F, S, env, rl, en, q⟩
  refine ⟨ρ, F, S, env, rl, en, ?_⟩
  unfold celE bindE at q
  cases z : fe env S with
  | ok d S2 =>
    rw [z] at q
    intro v ρ2 F2 H2 n2 r2 k2
    have q : Wg (kR X.K .frz) X.K ρ F H S Q (fun cls dd H' => w cls dd σ H') (match (S2[0]? : Option Cl) with
      | some (Cl.hp ds) => if ownS.isRef d then .ok (.cel ds.length) (S2.set 0 (Cl.hp (ds ++ [d]))) else .no
      | _ => .no) := q
    split at q
    · rename_i ds h0
      obtain ⟨hr, q⟩ := if_ok q
      obtain ⟨t, ow⟩ := k2
      have ev : ∃ b, v = .ref b := by
        cases t <;> first | exact ⟨_, rfl⟩ | cases hr
      obtain ⟨b, rfl⟩ := ev
      obtain ⟨a1, a2, a3, a4⟩ := ow b rfl
      obtain ⟨ρ3, r3, n3⟩ := r2.celNew h0 a1 a2 t a4
      exact q (.ref b) ρ3 _ H2 (n3 n2 a3) r3 (Rep.cel upd_same)
    · exact False.elim q
  | exc x S2 => rw [z] at q; exact q
  | no => rw [z] at q; exact q)
end Fw

set_option  maxHeartbeats 4000000
/-! Fw: cells within data: statements, walks, deep reading -/
namespace Fw
open PySem L2 PySem.Spec PyProof.Rows

section
variable {K : Fr} {ρ0 ρ : Rho} {F0 H0 F H : Hp} {S0 S : Sto} {σ : L2.St} {env : Env} {n : Nat} {d d' : D} {a : Addr} {o : HO}
theorem At.hpSet (t : At K ρ0 F0 H0 S0 ρ F H S σ env) (h : F a = some (Fw.mk n)) (e : hpD S n = some d) (ht : RepT K F (L2.upd H a o) (.ref a) d') (hz : isFz o = false := by rfl) : At K ρ0 F0 H0 S0 ρ F (L2.upd H a o) (hpSet S n d') σ env := by
  obtain ⟨r, x⟩ := t.rl.hpSet h e ht hz
  exact t.later x r
theorem hp_lst {n : Nat} {xs : List D} (r : Rl K ρ F H S) (h : F a = some (Fw.mk n)) (e : hpD S n = some (.lst xs)) : ∃ vs, H a = some (.lst vs) ∧ RepL K F vs xs := by
  obtain ⟨_, _, _, _, _, _, _, _, t, _⟩ := hp_at r h e
  cases t with
  | lst h1 l => exact ⟨_, h1, l⟩
end
/-! ### o.append(e), o.clear(), o.pop(), o[k] = e : o a cell -/
def celN : D → Option Nat
  | .cel n => some n
  | _ => none
def hpL (S : Sto) (n : Nat) : Option (List D) := match hpD S n with
  | some (.lst xs) => some xs
  | _ => none
theorem hpL_some {S : Sto} {n : Nat} {xs : List D} (h : hpL S n = some xs) : hpD S n = some (.lst xs) := by
  unfold hpL at h
  split at h
  · rename_i e; cases h; exact e
  · cases h
def appC (fo fe : E D) : Stm := fun env S => (fo env S).st env fun d S1 => match celN d with
  | some n => (match hpL S1 n with
    | some _ => (fe env S1).st env fun x S2 => (match hpL S2 n with
      | some xs => if sz (xs.length + 1) then .nx env (hpSet S2 n (.lst (xs ++ [x]))) else .no
      | none => .no)
    | none => .no)
  | none => .no
def clrC (fo : E D) : Stm := fun env S => (fo env S).st env fun d S1 => match celN d with
  | some n => (match hpL S1 n with
    | some _ => .nx env (hpSet S1 n (.lst []))
    | none => .no)
  | none => .no
def popC (fo : E D) : E D := bindE fo fun d _ S1 => match celN d with
  | some n => (match hpL S1 n with
    | some xs => (match xs[xs.length - 1]? with
      | some x => .ok x (hpSet S1 n (.lst xs.dropLast))
      | none => .no)
    | none => .no)
  | none => .no
def putC (fo fk fe : E D) : Stm := fun env S => (fe env S).st env fun x S0 => (fo env S0).st env fun d S1 => match celN d with
  | some n => (match hpL S1 n with
    | some _ => (getE asI fk env S1).st env fun k S2 => (match hpL S2 n with
      | some xs => (match ixN xs.length k with
        | some j => .nx env (hpSet S2 n (.lst (xs.set j x)))
        | none => .no)
      | none => .no)
    | none => .no)
  | none => .no
section
variable {X : Cx} {w : WX} {o e f : Expr} {fo fe ff : E D} {pos ap cp sp : Pos}
theorem cel_case {K : Fr} {ρ0 : Rho} {F0 H0 : Hp} {S0 : Sto} {D' : Ends} {d : D} {k : Nat → RS} (h : Ws K ρ0 F0 H0 S0 w D' (match celN d with | some n => k n | none => .no)) : ∃ n, d = .cel n ∧ Ws K ρ0 F0 H0 S0 w D' (k n) := by
  cases d <;> first | exact ⟨_, rfl, h⟩ | exact False.elim h
theorem hp_case {K : Fr} {ρ0 : Rho} {F0 H0 : Hp} {S0 : Sto} {D' : Ends} {S : Sto} {n : Nat} {k : List D → RS} (h : Ws K ρ0 F0 H0 S0 w D' (match hpL S n with | some xs => k xs | none => .no)) : ∃ xs, hpD S n = some (.lst xs) ∧ Ws K ρ0 F0 H0 S0 w D' (k xs) := by
  cases e : hpL S n with
  | none => rw [e] at h; exact False.elim h
  | some xs => rw [e] at h; exact ⟨xs, hpL_some e, h⟩
theorem cel_rep {K : Fr} {F : Hp} {v : V} {n : Nat} (h : Rep K F v (.cel n)) : ∃ b, v = .ref b ∧ F b = some (Fw.mk n) := by
  cases h with
  | cel h => exact ⟨_, rfl, h⟩
theorem ps_appC (ho : PD X .frz w o fo) (he : PD X .frz w e fe) (m : BmOk X o "append" e ap cp := by exact ⟨rfl, rfl, rfl, rfl, rfl⟩) (hs : swapsWith (.Call (.Attribute o "append" ap) [e] [] cp) none pos.line X.env = pure false := by rfl) :
    PSt X w (.Expr (.Call (.Attribute o "append" ap) [e] [] cp) pos) (appC fo fe) := PS.imp (L2.ps_expr (pe_bm PySem.F.plainAttrs_list PySem.F.slot_list_append PySem.F.type_list_append mt_append ho (pa_cons he pa_nil m.st) m.base m.few m.line m.st m.pl) hs) (by
  rintro D' σ H ⟨ρ0, F0, H0, S0, ρ, F, S, env, a, q⟩
  refine ⟨ρ, F, S, env, a.rl, a.en, Ws.step a q fun d S1 v ρ1 F1 H1 n1 a1 k1 q1 => ?_⟩
  obtain ⟨n, rfl, q1⟩ := cel_case q1
  obtain ⟨xs0, hx0, q1⟩ := hp_case q1
  obtain ⟨b, rfl, hb⟩ := cel_rep k1
  obtain ⟨vs0, hv0, _⟩ := hp_lst a1.rl hb hx0
  refine ⟨.inl ⟨rfl, _, SqL.of hv0⟩, ρ1, F1, S1, env, a1.rl, a1.en, Ws.step a1 q1 fun x S2 u ρ2 F2 H2 n2 a2 k2 q2 => ?_⟩
  obtain ⟨xs, hx, q2⟩ := hp_case q2
  obtain ⟨hz, q2⟩ := ifs_ok q2
  have hb2 := n2.fsub _ _ hb
  obtain ⟨vs, hv, l⟩ := hp_lst a2.rl hb2 hx
  refine ⟨b, _, u, rfl, rfl, hv, by rw [l.length]; exact sz_lt hz, ?_⟩
  exact q2 ρ2 F2 _ σ (a2.hpSet hb2 hx (.lst upd_same (l.snoc k2))))
theorem ps_clrC (ho : PD X .frz w o fo) (m : Bm0Ok X o "clear" ap cp := by exact ⟨rfl, rfl⟩) (hs : swapsWith (.Call (.Attribute o "clear" ap) [] [] cp) none pos.line X.env = pure false := by rfl) :
    PSt X w (.Expr (.Call (.Attribute o "clear" ap) [] [] cp) pos) (clrC fo) := PS.imp (L2.ps_expr (pe_bm0 PySem.F.plainAttrs_list PySem.F.slot_list_clear PySem.F.type_list_clear mt_clear ho m.base m.line) hs) (by
  rintro D' σ H ⟨ρ0, F0, H0, S0, ρ, F, S, env, a, q⟩
  refine ⟨ρ, F, S, env, a.rl, a.en, Ws.step a q fun d S1 v ρ1 F1 H1 n1 a1 k1 q1 => ?_⟩
  obtain ⟨n, rfl, q1⟩ := cel_case q1
  obtain ⟨xs0, hx0, q1⟩ := hp_case (k := fun _ => .nx env (hpSet S1 n (.lst []))) q1
  obtain ⟨b, rfl, hb⟩ := cel_rep k1
  obtain ⟨vs0, hv0, _⟩ := hp_lst a1.rl hb hx0
  exact ⟨.inl ⟨rfl, _, SqL.of hv0⟩, b, _, rfl, rfl, hv0, q1 ρ1 F1 _ σ (a1.hpSet hb hx0 (.lst upd_same .nil))⟩)
theorem pd_popC (ho : PD X .frz w o fo) (m : Bm0Ok X o "pop" ap cp := by exact ⟨rfl, rfl⟩) : PD X .frz w (.Call (.Attribute o "pop" ap) [] [] cp) (popC fo) := PE.imp (pe_bm0 PySem.F.plainAttrs_list PySem.F.slot_list_pop PySem.F.type_list_pop mt_pop ho m.base m.line) (by
  rintro σ H Q ⟨ρ, F, S, env, rl, en, q⟩
  refine ⟨ρ, F, S, env, rl, en, Wg.step kR.old q fun d S1 v ρ1 F1 H1 n1 r1 k1 q1 => ?_⟩
  have q1 : Wg (kR X.K .frz) X.K ρ1 F1 H1 S1 Q (fun cls dd H' => w cls dd σ H') (match celN d with
    | some n => (match hpL S1 n with
      | some xs => (match xs[xs.length - 1]? with
        | some x => .ok x (hpSet S1 n (.lst xs.dropLast))
        | none => .no)
      | none => .no)
    | none => .no) := q1
  cases d with
  | cel n =>
    dsimp only [celN] at q1
    cases e : hpL S1 n with
    | none => rw [e] at q1; exact False.elim q1
    | some xs =>
      rw [e] at q1
      dsimp only at q1
      cases ex : xs[xs.length - 1]? with
      | none => rw [ex] at q1; exact False.elim q1
      | some x =>
        rw [ex] at q1
        obtain ⟨b, rfl, hb⟩ := cel_rep k1
        obtain ⟨vs, hv, l⟩ := hp_lst r1 hb (hpL_some e)
        obtain ⟨u, hu1, hu2⟩ := l.get ex
        obtain ⟨r2, n2⟩ := r1.hpSet (o := .lst vs.dropLast) (d' := .lst xs.dropLast) hb (hpL_some e) (.lst upd_same l.dropLast)
        rw [← l.length] at hu1
        exact ⟨.inl ⟨rfl, _, SqL.of hv⟩, b, _, u, rfl, rfl, hv, hu1, q1 u ρ1 F1 _ n2 r2 hu2⟩
  | _ => exact False.elim q1)
end

/-! ### walks: what is walked may be a cell; it stays as it is -/
mutual
def D.beq : D → D → Bool
  | .non, .non => true
  | .bl a, .bl b => a == b
  | .int a, .int b => a == b
  | .str a, .str b => a == b
  | .lst a, .lst b => beqL a b
  | .tup a, .tup b => beqL a b
  | .cel a, .cel b => a == b
  | _, _ => false
def beqL : List D → List D → Bool
  | [], [] => true
  | a :: r, b :: s => D.beq a b && beqL r s
  | _, _ => false
end
mutual
theorem beq_eq : ∀ {a b : D}, D.beq a b = true → a = b
  | .non, b, h => by cases b <;> first | rfl | (simp [D.beq] at h)
  | .bl a, b, h => by cases b <;> first | (simp [D.beq] at h; done) | (simp [D.beq] at h; rw [h])
  | .int a, b, h => by cases b <;> first | (simp [D.beq] at h; done) | (simp [D.beq] at h; rw [h])
  | .str a, b, h => by cases b <;> first | (simp [D.beq] at h; done) | (simp [D.beq] at h; rw [h])
  | .lst a, b, h => by
    cases b with
    | lst b => rw [beqL_eq (a := a) (b := b) (by simpa [D.beq] using h)]
    | _ => simp [D.beq] at h
  | .tup a, b, h => by
    cases b with
    | tup b => rw [beqL_eq (a := a) (b := b) (by simpa [D.beq] using h)]
    | _ => simp [D.beq] at h
  | .dK _, b, h => by cases b <;> simp [D.beq] at h
  | .ob _ _, b, h => by cases b <;> simp [D.beq] at h
  | .scr _, b, h => by cases b <;> simp [D.beq] at h
  | .cel a, b, h => by cases b <;> first | (simp [D.beq] at h; done) | (simp [D.beq] at h; rw [h])
theorem beqL_eq : ∀ {a b : List D}, beqL a b = true → a = b
  | [], [], _ => rfl
  | [], _ :: _, h => by simp [beqL] at h
  | _ :: _, [], h => by simp [beqL] at h
  | a :: r, b :: s, h => by
    simp only [beqL, Bool.and_eq_true] at h
    rw [beq_eq h.1, beqL_eq h.2]
end
abbrev TgtS := Sto → Tgt
def tgNS (i : Nat) : TgtS := fun _ => tgN i
def tgTS (is : List Nat) : TgtS := fun S d => (rs S d).bind (tgT is)
def chkL (n : Nat) (ds : List D) (S : Sto) : Bool := match hpL S n with
  | some es => beqL es ds
  | none => false
def noChk : Sto → Bool := fun _ => true
def forLC (chk : Sto → Bool) (tg : TgtS) (body : Stm) : List D → Stm
  | [] => fun env S => if chk S then .nx env S else .no
  | d :: ds => fun env S => if chk S then (match tg S d with | none => .no | some us => (body (setE env us) S).bind (forLC chk tg body ds)) else .no
def forX (tg : TgtS) (fe : E D) (body : Stm) : Stm := fun env S => (fe env S).st env fun d S1 => match celN d with
  | some n => (match hpL S1 n with
    | some ds => forLC (chkL n ds) tg body ds env S1
    | none => .no)
  | none => (match seqI d with
    | some ds => forLC noChk tg body ds env S1
    | none => .no)
/-- how a target takes what may be a cell -/
def tTS (K : Fr) (tg : TgtS) : TG := fun v σ H Q => ∃ ρ F S d us, Rl K ρ F H S ∧ Rep K F v d ∧ tg S d = some us ∧ ∀ ws, Upd K F ws us → Q (setV σ ws) H
def PTgS (X : Cx) (e : Expr) (tg : TgtS) : Prop := PG X e (tTS X.K tg)
section
variable {X : Cx} {i : Nat} {x : Str} {pos : Pos} {es : List Expr} {is : List Nat}
theorem ptgs_name (hN : X.N.Nodup) (hi : X.N[i]? = some x) (hx : Loc X.env.scope x) (hf : X.fn x = true ∨ X.env.scope.names.lookup x = some .local := by first | exact .inl rfl | exact .inr rfl | assumption) : PTgS X (.Name x pos) (tgNS i) := PG.imp (pg_name hN hi hx hf) (by
  rintro v σ H Q ⟨ρ, F, S, d, us, rl, r, e, q⟩
  cases e
  exact q [(i, v)] (.cons ⟨rfl, r⟩ .nil))
theorem ptgs_tup {k : Nat} (hc : X.calm = true) (h : PGs X es (gNames is)) (hl : es.length = is.length) (hn : (assignEach es X.env).length = es.length := by rfl) (hst : (assignEach es X.env).findIdx? (·.1) = none := by rfl) : PTgS X (.Tuple es k pos) (tgTS is) := PG.imp (PG.or (pg_tup hc h hn hst) (pg_lst hc h hn hst)) (by
  rintro v σ H Q ⟨ρ, F, S, d, us, rl, r, e, q⟩
  unfold tgTS at e
  cases er : rs S d with
  | none => rw [er] at e; cases e
  | some d' =>
    rw [er] at e
    have t := rs_rep rl (Rep.top rl.sub r) er
    cases t with
    | tup hx l =>
      have e : (if _ = is.length then some (is.zip _) else none) = some us := e
      split at e
      · rename_i c
        cases e
        exact .inl ⟨_, _, rfl, hx, by rw [l.length, hl]; exact c, gNames_run l (by rw [l.length]; exact c) q⟩
      · cases e
    | lst hx l =>
      have e : (if _ = is.length then some (is.zip _) else none) = some us := e
      split at e
      · rename_i c
        cases e
        exact .inr ⟨_, _, rfl, SqL.of hx, by rw [l.length, hl]; exact c, gNames_run l (by rw [l.length]; exact c) q⟩
      · cases e
    | _ => cases e)
end
/-- what is walked, with a look at the store -/
structure ItC (K : Fr) (J : It) (chk : Sto → Bool) (ds : List D) (F : Hp) : Prop where
  ex : ∃ (G : Hp → Prop) (Y : Nat → Hp → V → Hp → Prop), Walk J ds.length G Y ∧ (∀ ρ2 F2 H2 S2, Same F F2 → Rl K ρ2 F2 H2 S2 → chk S2 = true → G H2) ∧ ∀ (i : Nat) ρ2 F2 H2 S2 x H3, i < ds.length → Same F F2 → Rl K ρ2 F2 H2 S2 → chk S2 = true → Y i H2 x H3 →
    ∃ d, ds[i]? = some d ∧ ((H3 = H2 ∧ Rep K F2 x d) ∨ ∃ T vs es, x = .ref T ∧ H2 T = none ∧ H3 = upd H2 T (.tup vs) ∧ d = .tup es ∧ RepL K F2 vs es)
theorem ItD.toC {K : Fr} {J : It} {ds : List D} {F : Hp} (h : ItD K J ds F) : ItC K J noChk ds F := by
  obtain ⟨G, Y, w, h1, h2⟩ := h.ex
  exact ⟨G, Y, w, fun ρ2 F2 H2 S2 s r _ => h1 F2 H2 s r.sub, fun i ρ2 F2 H2 S2 x H3 hi s r _ y => h2 i F2 H2 x H3 hi s r.sub y⟩
theorem itC_cel {K : Fr} {F : Hp} {b : Addr} {n : Nat} {ds : List D} (hb : F b = some (Fw.mk n)) : ItC K (Itl K b) (chkL n ds) ds F := by
  have at_ : ∀ {ρ2 F2 H2 S2}, Same F F2 → Rl K ρ2 F2 H2 S2 → chkL n ds S2 = true → ∃ vs, H2 b = some (.lst vs) ∧ RepL K F2 vs ds := fun {ρ2 F2 H2 S2} s r c => by
    unfold chkL at c
    cases e : hpL S2 n with
    | none => rw [e] at c; cases c
    | some es =>
      rw [e] at c
      have ee := beqL_eq c
      subst ee
      exact hp_lst r (s _ _ hb) (hpL_some e)
  refine ⟨fun H => ∃ vs, SqL K H b vs ∧ vs.length = ds.length, fun i H x H' => H' = H ∧ ∀ vs, SqL K H b vs → vs[i]? = some x, ⟨fun i H hi q => ?_, fun H q => ?_, fun i H x H' _ _ y => y⟩, fun ρ2 F2 H2 S2 s r c => ?_, fun i ρ2 F2 H2 S2 x H3 hi s r c y => ?_⟩
  · obtain ⟨vs, h1, h2⟩ := q
    exact ⟨vs, vs[i]'(by omega), h1, List.getElem?_eq_getElem _⟩
  · obtain ⟨vs, h1, h2⟩ := q
    exact ⟨vs, h1, by omega⟩
  · obtain ⟨vs, h1, l⟩ := at_ s r c
    exact ⟨vs, SqL.of h1, l.length⟩
  · obtain ⟨vs, h1, l⟩ := at_ s r c
    obtain ⟨rfl, y⟩ := y
    obtain ⟨d, e1, e2⟩ := l.getV (y vs (SqL.of h1))
    exact ⟨d, e1, .inl ⟨rfl, e2⟩⟩
theorem forLC_chk {K : Fr} {ρ0 : Rho} {F0 H0 : Hp} {S0 : Sto} {w : WX} {D' : Ends} {chk : Sto → Bool} {tg : TgtS} {fb : Stm} {ds : List D} {env : Env} {S : Sto} (h : Ws K ρ0 F0 H0 S0 w D' (forLC chk tg fb ds env S)) : chk S = true := by
  cases ds with
  | nil => exact (ifs_ok h).1
  | cons d ds => exact (ifs_ok h).1
theorem forLC_run {X : Cx} {w : WX} {ρ0 ρ1 : Rho} {F0 H0 F1 H1 : Hp} {S0 S1 : Sto} {σ : L2.St} {env : Env} {D' : Ends} {J : It} {chk : Sto → Bool} {ds : List D} {tt : TgtS} {fb : Stm} (k : ItC X.K J chk ds F1) (a1 : At X.K ρ0 F0 H0 S0 ρ1 F1 H1 S1 σ env) (q1 : Ws X.K ρ0 F0 H0 S0 w D' (forLC chk tt fb ds env S1)) :
    ∃ W : Nat → Nat → L2.St → Hp → Prop, (∃ m, W 0 m σ H1) ∧ ∀ i m σ H, W i m σ H → (J.stop i H ∧ D'.nx σ H) ∨ (J.go i H ∧ ∃ N : L2.St → Hp → Prop, (∀ σ' H', N σ' H' → ∃ m', m' < m ∧ W (i + 1) m' σ' H') ∧ ∀ x H', J.yld i H x H' → tTS X.K tt x σ H' fun σ2 H2 => tS X.K w fb { D' with nx := N, ct := N, bk := D'.nx } σ2 H2) := by
  obtain ⟨G, Y, wk, hG, hY⟩ := k.ex
  refine for_it wk (fun i σ' H' => ∃ ρ2 F2 S2 env2, At X.K ρ0 F1 H0 S0 ρ2 F2 H' S2 σ' env2 ∧ Ws X.K ρ0 F0 H0 S0 w D' (forLC chk tt fb (ds.drop i) env2 S2)) ⟨ρ1, F1, S1, env, a1.rebase, q1⟩ ?_ ?_ ?_
  · rintro i σ' H' hi ⟨ρ2, F2, S2, env2, a2, q2⟩
    exact hG ρ2 F2 H' S2 a2.nx.fsub a2.rl (forLC_chk q2)
  · rintro i x σ' H' H3 hi ⟨ρ2, F2, S2, env2, a2, q2⟩ y
    have c2 := forLC_chk q2
    obtain ⟨d, hd, hx⟩ := hY i ρ2 F2 H' S2 x H3 hi a2.nx.fsub a2.rl c2 y
    have ed : ds.drop i = d :: ds.drop (i + 1) := by
      obtain ⟨h1, h2⟩ := List.getElem?_eq_some_iff.mp hd
      rw [List.drop_eq_getElem_cons h1, h2]
    rw [ed] at q2
    have q3 : Ws X.K ρ0 F0 H0 S0 w D' (match tt S2 d with | none => .no | some us => (fb (setE env2 us) S2).bind (forLC chk tt fb (ds.drop (i + 1)))) := (ifs_ok q2).2
    have go : ∀ F3 (N : L2.St → Hp → Prop) (D2 : Ends), D2.rt = D'.rt → (∀ ρ F H S σ env, At X.K ρ0 F1 H0 S0 ρ F H S σ env → Ws X.K ρ0 F0 H0 S0 w D' (forLC chk tt fb (ds.drop (i + 1)) env S) → D2.nx σ H) → At X.K ρ0 F1 H0 S0 ρ2 F3 H3 S2 σ' env2 → Rep X.K F3 x d → tTS X.K tt x σ' H3 fun σ2 H2 => tS X.K w fb D2 σ2 H2 := by
      intro F3 N D2 hr hN a3 r3
      cases et : tt S2 d with
      | none => rw [et] at q3; exact False.elim q3
      | some us =>
        rw [et] at q3
        exact ⟨ρ2, F3, S2, d, us, a3.rl, r3, et, fun ws u => ⟨ρ0, F1, H0, S0, ρ2, F3, S2, setE env2 us, a3.setUs u, Ws.rebase (N := N) a1.nx q3 hr hN⟩⟩
    rcases hx with ⟨rfl, r3⟩ | ⟨T, vs, es, rfl, hT, rfl, rfl, l⟩
    · exact go F2 (fun _ _ => True) _ rfl (fun ρ4 F4 H4 S4 σ4 e4 a4 q4 => ⟨ρ4, F4, S4, e4, a4, q4⟩) a2 r3
    · obtain ⟨F3, s3, n3, r3, p3⟩ := Nx.item a2.rl hT l
      exact go F3 (fun _ _ => True) _ rfl (fun ρ4 F4 H4 S4 σ4 e4 a4 q4 => ⟨ρ4, F4, S4, e4, a4, q4⟩) (a2.later n3 r3) p3
  · rintro σ' H' ⟨ρ2, F2, S2, env2, a2, q2⟩
    rw [List.drop_length] at q2
    exact (ifs_ok q2).2 ρ2 F2 H' σ' (At.unbase a1.nx a2)
section
variable {X : Cx} {w : WX} {tg it : Expr} {body : List Stmt} {fe : E D} {fb : Stm} {tt : TgtS} {pos : Pos}
theorem ps_forX (hp : PassesOwn (model X.prog X.w) X.A X.env X.xe) (hc : X.calm = true) (he : PD X .frz w it fe) (hg : PTgS X tg tt) (hb : PSb X w body fb) (hs : ∀ x, foldedSetIterable it X.env x = pure x := by intro _; rfl) : PSt X w (.For tg it body [] pos) (forX tt fe fb) := PS.imp (ps_for hp hc (PI.or (pit_seq he) (pi_list he)) hg hb hs) (by
  rintro D' σ H ⟨ρ0, F0, H0, S0, ρ, F, S, env, a, q⟩
  unfold forX at q
  cases z : fe env S with
  | ok d S1 =>
    cases ec : celN d with
    | none =>
      refine .inl ⟨ρ, F, S, env, a.rl, a.en, ?_⟩
      unfold getE bindE
      rw [z]
      rw [z] at q
      have q : Ws X.K ρ0 F0 H0 S0 w D' (match celN d with
        | some n => (match hpL S1 n with
          | some ds => forLC (chkL n ds) tt fb ds env S1
          | none => .no)
        | none => (match seqI d with
          | some ds => forLC noChk tt fb ds env S1
          | none => .no)) := q
      rw [ec] at q
      dsimp only at q
      cases es : seqI d with
      | none => rw [es] at q; exact False.elim q
      | some ds =>
        rw [es] at q
        have ge : (R.ok d S1).bind (fun a S1 => (fun a _ S => R.get (seqI a) S) a env S1) = R.ok ds S1 := by
          show R.get (seqI d) S1 = _
          rw [es]
          rfl
        rw [ge]
        intro J ρ1 F1 H1 n1 r1 k1
        have k1 : ItD X.K J ds F1 := k1
        exact forLC_run k1.toC (a.later n1 r1) q
    | some n =>
      have ed : d = .cel n := by
        cases d <;> first | (cases ec; rfl) | cases ec
      subst ed
      refine .inr ⟨ρ, F, S, env, a.rl, a.en, ?_⟩
      rw [z]
      rw [z] at q
      obtain ⟨ds, hx, q⟩ := hp_case (S := S1) (n := n) (k := fun ds => forLC (chkL n ds) tt fb ds env S1) q
      intro v ρ1 F1 H1 n1 r1 k1
      obtain ⟨b, rfl, hb⟩ := cel_rep k1
      obtain ⟨vs, hv, _⟩ := hp_lst r1 hb hx
      exact ⟨b, rfl, ⟨vs, SqL.of hv⟩, forLC_run (itC_cel hb) (a.later n1 r1) q⟩
  | exc x S1 =>
    refine .inl ⟨ρ, F, S, env, a.rl, a.en, ?_⟩
    unfold getE bindE
    rw [z]
    rw [z] at q
    exact fun cls dd ρ1 F1 H1 n1 r1 x1 => q cls dd ρ1 F1 H1 σ (a.later n1 r1) x1
  | no =>
    rw [z] at q
    exact False.elim q)
end
end Fw

set_option  maxHeartbeats 4000000
/-! Fw: comprehensions over what may be a cell; data read through cells; enumerate, lists repeated -/
namespace Fw
open PySem L2 PySem.Spec PyProof.Rows

def compLC (chk : Sto → Bool) (tg : TgtS) (ft : E Bool) (fe : E D) : List D → E (List D)
  | [] => fun _ S => if chk S then .ok [] S else .no
  | d :: ds => fun env S => if chk S then (match tg S d with
    | none => .no
    | some us => (ft (setE env us) S).nx fun b S1 => if b then (fe (setE env us) S1).nx fun x S2 => (compLC chk tg ft fe ds env S2).nx fun xs S3 => .ok (x :: xs) S3 else compLC chk tg ft fe ds env S1) else .no
def compB (chk : Sto → Bool) (vs : List Nat) (tg : TgtS) (ft : E Bool) (fe : E D) (ds : List D) : E D := fun env S => if sz ds.length then (compLC chk tg ft fe ds (wipeE env vs) S).nx fun xs S1 => .ok (.lst xs) S1 else .no
def compX (vs : List Nat) (tg : TgtS) (fi : E D) (ft : E Bool) (fe : E D) : E D := bindE fi fun d env S => match celN d with
  | some n => (match hpL S n with
    | some ds => compB (chkL n ds) vs tg ft fe ds env S
    | none => .no)
  | none => (match seqI d with
    | some ds => compB noChk vs tg ft fe ds env S
    | none => .no)
section
variable {X : Cx} {w : WX}
theorem compLC_chk {chk : Sto → Bool} {tg : TgtS} {ft : E Bool} {fe : E D} {ds : List D} {env : Env} {S : Sto} {α β γ : Type} {rel : Rel α β} {K : Fr} {ρ : Rho} {F H : Hp} {S0 : Sto} {Q : β → Hp → Prop} {XQ : XK} {k : List D → Sto → R α} (h : Wg rel K ρ F H S0 Q XQ ((compLC chk tg ft fe ds env S).nx k)) : chk S = true := by
  cases c : chk S with
  | true => rfl
  | false =>
    cases ds with
    | nil => unfold compLC at h; rw [c] at h; exact False.elim h
    | cons d ds => unfold compLC at h; rw [c] at h; exact False.elim h
theorem compC_run {σ : L2.St} {Q : VK} {vs : List Nat} {tg : TgtS} {chk : Sto → Bool} {ft : E Bool} {fe : E D} {ds : List D} {J : It} {ρ1 : Rho} {F1 H1 : Hp} {S1 : Sto} {env : Env} (hsub : ∀ S d us, tg S d = some us → ∀ p ∈ us, p.1 ∈ vs) (k1 : ItC X.K J chk ds F1) (r1 : Rl X.K ρ1 F1 H1 S1) (en1 : En X.K ρ1 F1 H1 S1 σ env)
    (q1 : Wg (kR X.K .own) X.K ρ1 F1 H1 S1 Q (fun cls dd H' => w cls dd σ H') (compB chk vs tg ft fe ds env S1)) :
    ∀ Dl, H1 Dl = none → ∃ W : Nat → Nat → Hp → Prop, (∃ m, W 0 m (L2.upd H1 Dl (.lst []))) ∧ ∀ i m H, W i m H →
      (J.stop i H ∧ Q (.ref Dl) H) ∨ (J.go i H ∧ ∃ Nx : Hp → Prop, (∀ H', Nx H' → ∃ m', m' < m ∧ W (i + 1) m' H') ∧ ∀ x H', J.yld i H x H' → tTS X.K tg x (L2.wipe σ vs) H' fun σ2 H2 => L2.wipe σ2 vs = L2.wipe σ vs ∧ tBl X.K w0 ft σ2 H2 fun b H3 =>
        if b = true then tD X.K .frz w0 fe σ2 H3 fun y H4 => ∃ acc, H4 Dl = some (.lst acc) ∧ acc.length < sizeLine ∧ Nx (L2.upd H4 Dl (.lst (acc ++ [y]))) else Nx H3) := by
  obtain ⟨hz, q1⟩ := if_ok q1
  intro Dl hD
  obtain ⟨G, Y, wk, hG, hY⟩ := k1.ex
  have nD : ∀ (i : Nat) d, env[i]? = some (some (.o d)) → σ[i]? ≠ some (some (.ref Dl)) := fun i d g z => by
    obtain ⟨a, h1, _, _, _, h5⟩ := en1.o i d g
    rw [z] at h1
    cases h1
    rw [hD] at h5
    cases h5
  refine lc_it wk (fun i H' => ∃ ρ2 F2 S2 acc outs, Rl X.K ρ2 F2 H' S2 ∧ En X.K ρ2 F2 H' S2 σ env ∧ Nx ρ1 F1 H1 S1 ρ2 F2 H' S2 ∧ H' Dl = some (.lst acc) ∧ F2 Dl = none ∧ ¬ Live ρ2 S2 Dl ∧ RepL X.K F2 acc outs ∧ outs.length ≤ i ∧
    Wg (kR X.K .own) X.K ρ1 F1 H1 S1 Q (fun cls dd H' => w cls dd σ H') ((compLC chk tg ft fe (ds.drop i) (wipeE env vs) S2).nx fun xs S' => .ok (.lst (outs ++ xs)) S')) ?_ ?_ ?_ ?_
  · refine ⟨ρ1, F1, S1, [], [], r1.new hD, en1.upd nD, Nx.new hD, upd_same, r1.sub.no0 hD, r1.nolive0 hD, .nil, Nat.le_refl _, ?_⟩
    exact q1
  · rintro i H' hi ⟨ρ2, F2, S2, acc, outs, r2, e2, n2, d2, f2, l2, p2, o2, q2⟩
    exact hG ρ2 F2 H' S2 n2.fsub r2 (compLC_chk (γ := Nat) q2)
  · rintro i x H' H3 hi ⟨ρ2, F2, S2, acc, outs, r2, e2, n2, d2, f2, l2, p2, o2, q2⟩ y
    have c2 := compLC_chk (γ := Nat) q2
    obtain ⟨d, hd, hx⟩ := hY i ρ2 F2 H' S2 x H3 hi n2.fsub r2 c2 y
    have ed : ds.drop i = d :: ds.drop (i + 1) := by
      obtain ⟨g1, g2⟩ := List.getElem?_eq_some_iff.mp hd
      rw [List.drop_eq_getElem_cons g1, g2]
    rw [ed] at q2
    -- the item in hand
    have go : ∀ F3, Rl X.K ρ2 F3 H3 S2 → En X.K ρ2 F3 H3 S2 σ env → Nx ρ1 F1 H1 S1 ρ2 F3 H3 S2 → H3 Dl = some (.lst acc) → F3 Dl = none → RepL X.K F3 acc outs → Rep X.K F3 x d → tTS X.K tg x (L2.wipe σ vs) H3 fun σ2 H2 => L2.wipe σ2 vs = L2.wipe σ vs ∧ tBl X.K w0 ft σ2 H2 fun b H3 =>
        if b = true then tD X.K .frz w0 fe σ2 H3 fun y H4 => ∃ acc, H4 Dl = some (.lst acc) ∧ acc.length < sizeLine ∧ ∃ ρ2 F2 S2 acc' outs, Rl X.K ρ2 F2 (L2.upd H4 Dl (.lst (acc ++ [y]))) S2 ∧ En X.K ρ2 F2 (L2.upd H4 Dl (.lst (acc ++ [y]))) S2 σ env ∧ Nx ρ1 F1 H1 S1 ρ2 F2 (L2.upd H4 Dl (.lst (acc ++ [y]))) S2 ∧ (L2.upd H4 Dl (.lst (acc ++ [y]))) Dl = some (.lst acc') ∧ F2 Dl = none ∧ ¬ Live ρ2 S2 Dl ∧ RepL X.K F2 acc' outs ∧ outs.length ≤ i + 1 ∧
          Wg (kR X.K .own) X.K ρ1 F1 H1 S1 Q (fun cls dd H' => w cls dd σ H') ((compLC chk tg ft fe (ds.drop (i + 1)) (wipeE env vs) S2).nx fun xs S' => .ok (.lst (outs ++ xs)) S')
        else ∃ ρ2 F2 S2 acc outs, Rl X.K ρ2 F2 H3 S2 ∧ En X.K ρ2 F2 H3 S2 σ env ∧ Nx ρ1 F1 H1 S1 ρ2 F2 H3 S2 ∧ H3 Dl = some (.lst acc) ∧ F2 Dl = none ∧ ¬ Live ρ2 S2 Dl ∧ RepL X.K F2 acc outs ∧ outs.length ≤ i + 1 ∧
          Wg (kR X.K .own) X.K ρ1 F1 H1 S1 Q (fun cls dd H' => w cls dd σ H') ((compLC chk tg ft fe (ds.drop (i + 1)) (wipeE env vs) S2).nx fun xs S' => .ok (.lst (outs ++ xs)) S') := by
      intro F3 r3 e3 n3 d3 f3 p3 px
      unfold compLC at q2
      rw [if_pos c2] at q2
      cases et : tg S2 d with
      | none => rw [et] at q2; exact False.elim q2
      | some us =>
        rw [et] at q2
        dsimp only at q2
        refine ⟨ρ2, F3, S2, d, us, r3, px, et, fun ws u => ⟨?_, ?_⟩⟩
        · rw [wipe_setV (Upd.slots u (hsub S2 d us et)), wipe_wipe]
        · obtain ⟨b, S4, eb, q4⟩ := R.nx_inv (m := fun (r : R (List D)) => r.nx fun xs S' => R.ok (D.lst (outs ++ xs)) S') rfl q2
          refine ⟨ρ2, F3, S2, setE (wipeE env vs) us, r3, (e3.wipe vs).setUs u, Wg.ok1 eb fun b' ρ4 F4 H4 n4 r4 k4 => ?_⟩
          have k4 : b' = b := k4
          subst k4
          have d4 := n4.keep Dl _ d3 l2
          have l4 : ¬ Live ρ4 S4 Dl := fun z => by
            rcases n4.cnew Dl z with z | z
            · exact l2 z
            · rw [d3] at z; cases z
          have f4 : F4 Dl = none := by
            cases z : F4 Dl with
            | none => rfl
            | some o =>
              rcases n4.fnew Dl o z with ⟨_, z⟩ | z | z
              · rw [f3] at z; cases z
              · rw [d3] at z; cases z
              · exact absurd z l2
          cases b' with
          | false => exact ⟨ρ4, F4, S4, acc, outs, r4, e3.later n4, n3.trans n4, d4, f4, l4, p3.mono n4.fsub, Nat.le_succ_of_le o2, q4⟩
          | true =>
            rw [if_pos rfl] at q4
            obtain ⟨y', S5, ey, q5⟩ := R.nx_inv (m := fun (r : R (List D)) => r.nx fun xs S' => R.ok (D.lst (outs ++ xs)) S') rfl q4
            refine ⟨ρ4, F4, S4, setE (wipeE env vs) us, r4, ((e3.later n4).wipe vs).setUs (Paired.mapP u fun _ _ z => ⟨z.1, z.2.mono n4.fsub⟩), Wg.ok1 ey fun yv ρ5 F5 H5 n5 r5 k5 => ?_⟩
            have k5 : Rep X.K F5 yv y' := k5
            have d5 := n5.keep Dl _ d4 l4
            have l5 : ¬ Live ρ5 S5 Dl := fun z => by
              rcases n5.cnew Dl z with z | z
              · exact l4 z
              · rw [d4] at z; cases z
            have f5 : F5 Dl = none := by
              cases z : F5 Dl with
              | none => rfl
              | some o =>
                rcases n5.fnew Dl o z with ⟨_, z⟩ | z | z
                · rw [f4] at z; cases z
                · rw [d4] at z; cases z
                · exact absurd z l4
            have p5 := (p3.mono n4.fsub).mono n5.fsub
            have hl : acc.length < sizeLine := by
              rw [p5.length]
              exact Nat.lt_of_lt_of_le (Nat.lt_of_le_of_lt o2 hi) (sz_line hz)
            refine ⟨acc, d5, hl, ρ5, F5, S5, acc ++ [yv], outs ++ [y'], r5.upd f5 l5, ((e3.later n4).later n5).upd nD, ((n3.trans n4).trans n5).upd hD, upd_same, f5, l5, p5.snoc k5, by rw [List.length_append]; exact Nat.succ_le_succ o2, ?_⟩
            obtain ⟨xs, S6, ex, q6⟩ := R.nx_inv (m := fun (r : R (List D)) => r.nx fun xs S' => R.ok (D.lst (outs ++ xs)) S') rfl q5
            rw [ex]
            have e6 : outs ++ [y'] ++ xs = outs ++ (y' :: xs) := by rw [List.append_assoc]; rfl
            show Wg (kR X.K .own) X.K ρ1 F1 H1 S1 Q (fun cls dd H' => w cls dd σ H') (R.ok (D.lst (outs ++ [y'] ++ xs)) S6)
            rw [e6]
            exact q6
    rcases hx with ⟨rfl, r3⟩ | ⟨T, us, es, rfl, hT, rfl, rfl, l⟩
    · exact go F2 r2 e2 n2 d2 f2 p2 r3
    · obtain ⟨F3, s3, n3, r3, p3⟩ := Nx.item r2 hT l
      have ne : Dl ≠ T := ne_of_none d2 hT
      have f3 : F3 Dl = none := by
        cases z : F3 Dl with
        | none => rfl
        | some o =>
          rcases n3.fnew Dl o z with ⟨_, z⟩ | z | z
          · rw [f2] at z; cases z
          · rw [d2] at z; cases z
          · exact absurd z l2
      exact go F3 r3 (e2.later n3) (n2.trans n3) (n3.keep Dl _ d2 l2) f3 (p2.mono s3) p3
  · rintro H' ⟨ρ2, F2, S2, acc, outs, r2, e2, n2, d2, f2, l2, p2, o2, q2⟩
    have c2 := compLC_chk (γ := Nat) q2
    rw [List.drop_length] at q2
    unfold compLC at q2
    rw [if_pos c2] at q2
    have q2 : Wg (kR X.K .own) X.K ρ1 F1 H1 S1 Q (fun cls dd H' => w cls dd σ H') (.ok (.lst (outs ++ [])) S2) := q2
    rw [List.append_nil] at q2
    exact q2 (.ref Dl) ρ2 F2 H' n2 r2 ⟨.lst d2 p2, fun a e => by cases e; exact ⟨f2, l2, hD, by rw [d2]; rfl⟩⟩
theorem compX_run {vs : List Nat} {tt : TgtS} {fi : E D} {ft : E Bool} {fe : E D} (hsub : ∀ S d us, tt S d = some us → ∀ p ∈ us, p.1 ∈ vs) : ∀ (σ : L2.St) (H : Hp) (Q : VK), tD X.K .own w (compX vs tt fi ft fe) σ H Q → tLc (fun σ H R => tG (iR X.K) X.K w (getE seqI fi) σ H R ∨ iList X.K (tD X.K .frz w fi) σ H R) (tTS X.K tt) (tBl X.K w0 ft) (tD X.K .frz w0 fe) vs σ H Q := by
  rintro σ H Q ⟨ρ, F, S, env, rl, en, q⟩
  unfold compX bindE at q
  cases z : fi env S with
  | ok d S1 =>
    rw [z] at q
    have q : Wg (kR X.K .own) X.K ρ F H S Q (fun cls dd H' => w cls dd σ H') (match celN d with
      | some n => (match hpL S1 n with
        | some ds => compB (chkL n ds) vs tt ft fe ds env S1
        | none => .no)
      | none => (match seqI d with
        | some ds => compB noChk vs tt ft fe ds env S1
        | none => .no)) := q
    cases ec : celN d with
    | none =>
      rw [ec] at q
      dsimp only at q
      cases es : seqI d with
      | none => rw [es] at q; exact False.elim q
      | some ds =>
        rw [es] at q
        refine .inl ⟨ρ, F, S, env, rl, en, ?_⟩
        unfold getE bindE
        rw [z]
        have ge : (R.ok d S1).bind (fun a S1 => (fun a _ S => R.get (seqI a) S) a env S1) = R.ok ds S1 := by
          show R.get (seqI d) S1 = _
          rw [es]
          rfl
        rw [ge]
        intro J ρ1 F1 H1 n1 r1 k1
        have k1 : ItD X.K J ds F1 := k1
        exact compC_run hsub k1.toC r1 (en.later n1) (Wg.later kR.old n1 q)
    | some n =>
      rw [ec] at q
      dsimp only at q
      have ed : d = .cel n := by
        cases d <;> first | (cases ec; rfl) | cases ec
      subst ed
      have q : Wg (kR X.K .own) X.K ρ F H S Q (fun cls dd H' => w cls dd σ H') (match hpL S1 n with
        | some ds => compB (chkL n ds) vs tt ft fe ds env S1
        | none => .no) := q
      cases eh : hpL S1 n with
      | none => rw [eh] at q; exact False.elim q
      | some ds =>
        rw [eh] at q
        refine .inr ⟨ρ, F, S, env, rl, en, ?_⟩
        rw [z]
        intro v ρ1 F1 H1 n1 r1 k1
        obtain ⟨b, rfl, hb⟩ := cel_rep k1
        obtain ⟨vs, hv, _⟩ := hp_lst r1 hb (hpL_some eh)
        exact ⟨b, rfl, ⟨vs, SqL.of hv⟩, compC_run hsub (itC_cel hb) r1 (en.later n1) (Wg.later kR.old n1 q)⟩
  | exc x S1 =>
    refine .inl ⟨ρ, F, S, env, rl, en, ?_⟩
    unfold getE bindE
    rw [z]
    rw [z] at q
    exact q
  | no =>
    rw [z] at q
    exact False.elim q
theorem pd_compX {elt tg iter : Expr} {ifs : List Expr} {scope : Scope} {own : List (Str × Nat)} {pos : Pos} {tt : TgtS} {fi : E D} {ft : E Bool} {fe : E D} (hc : X.calm = true) (hN : X.N.Nodup) (hi : PD X .frz w iter fi) (ok : BlkOk X.N X.env.scope scope own)
    (hg : ∀ (s : Shared) (H : Hp) (C : Addr) (cl : List (Str × Addr)) (fp : List Addr), PTgS (X.blk s H scope (compEnvC scope cl C X.env) fp) tg tt) (ht : ∀ (s : Shared) (H : Hp) (C : Addr) (cl : List (Str × Addr)) (fp : List Addr), PTs (X.blk s H scope (compEnvC scope cl C X.env) fp) ifs (tBl X.K w0 ft))
    (he : ∀ (s : Shared) (H : Hp) (C : Addr) (cl : List (Str × Addr)) (fp : List Addr), PD (X.blk s H scope (compEnvC scope cl C X.env) fp) .frz w0 elt fe) (hsub : ∀ S d us, tt S d = some us → ∀ p ∈ us, p.1 ∈ own.map (·.2)) (hs : ∀ x, foldedSetIterable iter X.env x = pure x := by intro _; rfl) :
    PD X .own w (.ListComp elt [⟨tg, iter, ifs, 0⟩] scope pos) (compX (own.map (·.2)) tt fi ft fe) := PE.imp (pe_lc (g := tTS X.K tt) (tt := tBl X.K w0 ft) (te := tD X.K .frz w0 fe) hc hN (PI.or (pit_seq hi) (pi_list hi)) ok hg ht he hs) (compX_run hsub)
end
theorem tgs_sub_n {i : Nat} {S : Sto} {d : D} {us : List (Nat × D)} {p : Nat × D} (h : tgNS i S d = some us) (hp : p ∈ us) : p.1 ∈ [i] := tg_sub_n h hp
theorem tgs_sub_t {is : List Nat} {S : Sto} {d : D} {us : List (Nat × D)} {p : Nat × D} (h : tgTS is S d = some us) (hp : p ∈ us) : p.1 ∈ is := by
  unfold tgTS at h
  cases e : rs S d with
  | none => rw [e] at h; cases h
  | some d' => rw [e] at h; exact tg_sub_t h hp

/-! ### read through all cells -/
def mapO {α β : Type} (g : α → Option β) : List α → Option (List β)
  | [] => some []
  | x :: xs => (g x).bind fun y => (mapO g xs).map (y :: ·)
def rsd1 (g : D → Option D) : D → Option D
  | .lst ds => (mapO g ds).map .lst
  | .tup ds => (mapO g ds).map .tup
  | .non => some .non
  | .bl b => some (.bl b)
  | .int i => some (.int i)
  | .str x => some (.str x)
  | _ => none
def rsd (S : Sto) : Nat → D → Option D
  | 0, _ => none
  | f + 1, d => (rs S d).bind (rsd1 (rsd S f))
theorem rsd_dp {K : Fr} {ρ : Rho} {F H : Hp} {S : Sto} (r : Rl K ρ F H S) : ∀ (f : Nat) {v : V} {d d' : D}, RepT K F H v d → rsd S f d = some d' → d'.py.canLay0 = true → Dp K H v d'.py
  | 0, _, _, _, _, e, _ => by cases e
  | f + 1, v, d, d', t, e, c => by
    have ih : ∀ {v : V} {d d' : D}, RepT K F H v d → rsd S f d = some d' → d'.py.canLay0 = true → Dp K H v d'.py := fun {v d d'} => rsd_dp r f
    have all : ∀ {vs : List V} {ds ds' : List D}, RepL K F vs ds → mapO (rsd S f) ds = some ds' → PyData.canLayAll0 (pyL ds') = true → DpAll K H vs (pyL ds') := by
      intro vs ds
      induction ds generalizing vs with
      | nil => intro ds' l e c; cases l; cases e; exact .nil
      | cons x xs ih2 =>
        intro ds' l e c
        cases l with
        | cons h l =>
          simp only [mapO] at e
          cases e1 : rsd S f x with
          | none => rw [e1] at e; cases e
          | some x' =>
            rw [e1] at e
            cases e2 : mapO (rsd S f) xs with
            | none => rw [e2] at e; cases e
            | some xs' =>
              rw [e2] at e
              cases e
              obtain ⟨c1, c2⟩ := Bool.and_eq_true_iff.mp (show (_ && _) = true from c)
              exact .cons (ih (Rep.top r.sub h) e1 c1) (ih2 l e2 c2)
    unfold rsd at e
    cases e1 : rs S d with
    | none => rw [e1] at e; cases e
    | some d1 =>
      rw [e1] at e
      have t1 := rs_rep r t e1
      replace e : rsd1 (rsd S f) d1 = some d' := e
      clear e1 t
      cases t1 with
      | lst h l =>
        rename_i ad vs ds
        have e : (mapO (rsd S f) ds).map D.lst = some d' := e
        cases e2 : mapO (rsd S f) ds with
        | none => rw [e2] at e; cases e
        | some xs =>
          rw [e2] at e
          cases e
          exact .lst (SqL.of h) (all l e2 c)
      | tup h l =>
        rename_i ad vs ds
        have e : (mapO (rsd S f) ds).map D.tup = some d' := e
        cases e2 : mapO (rsd S f) ds with
        | none => rw [e2] at e; cases e
        | some xs =>
          rw [e2] at e
          cases e
          exact .tup h (all l e2 c)
      | non => cases e; exact .non
      | bl b => cases e; exact .bl b
      | int i => cases e; exact .int i
      | str x => cases e; exact .str x
      | dK h k l => cases e
      | ob h k l => cases e
      | scr h => cases e
      | cel h => cases e
theorem isSeq_ref {K : Fr} {F H : Hp} {v : V} {d : D} {S : Sto} {f : Nat} {d' : D} (t : RepT K F H v d) (e : rsd S f d = some d') (h : isSeq d' = true) : ∃ p, v = .ref p := by
  cases t <;> first | exact ⟨_, rfl⟩ | (cases f <;> first | (cases e; done) | (cases e; cases h))
/-- ==, != of data within which cells may stand -/
def eqDE (neg : Bool) (fa fb : E D) : E D := bindE fa fun x => bindE fb fun y _ S => R.get ((rsd S 8 x).bind fun x' => (rsd S 8 y).bind fun y' => eqG neg x' y') S
def reprDE (fa : E D) : E D := bindE fa fun x _ S => R.get ((rsd S 8 x).bind reprD) S
section
variable {X : Cx} {w : WX} {a b : Expr} {fa fb : E D} {pos p : Pos}
theorem eqD_run {neg : Bool} {r : R2} (hr : ∀ {x y : V} {H : Hp} {Q : VK} {d1 d2 : PyData}, Dp X.K H x d1 → Dp X.K H y d2 → SeqAt.shaped d1 = true → SeqAt.shaped d2 = true → Q (.bl (if neg then !PyData.eqv d1 d2 else PyData.eqv d1 d2)) H → r x y H Q) {σ : L2.St} {H : Hp} {Q : VK} (h : tD X.K .frz w (eqDE neg fa fb) σ H Q) : tOp r (tD X.K .bor w fa) (tD X.K .bor w fb) σ H Q := by
  obtain ⟨ρ, F, S, env, rl, en, q⟩ := h
  refine ⟨ρ, F, S, env, rl, en, Wg.step kR.old q fun x S1 v ρ1 F1 H1 n1 r1 k1 q1 => ?_⟩
  refine ⟨ρ1, F1, S1, env, r1, en.later n1, Wg.step kR.old q1 fun y S2 u ρ2 F2 H2 n2 r2 k2 q2 => ?_⟩
  have t1 := bor_top2 r2 (bor_later n2 k1)
  have t2 := bor_top2 r2 k2
  have q2 : Wg (kR X.K .frz) X.K ρ2 F2 H2 S2 Q (fun cls dd H' => w cls dd σ H') (R.get ((rsd S2 8 x).bind fun x' => (rsd S2 8 y).bind fun y' => eqG neg x' y') S2) := q2
  cases e1 : rsd S2 8 x with
  | none => rw [e1] at q2; exact False.elim q2
  | some x' =>
    cases e2 : rsd S2 8 y with
    | none => rw [e1, e2] at q2; exact False.elim q2
    | some y' =>
      rw [e1, e2] at q2
      have q2 : Wg (kR X.K .frz) X.K ρ2 F2 H2 S2 Q (fun cls dd H' => w cls dd σ H') (R.get (eqG neg x' y') S2) := q2
      unfold eqG at q2
      split at q2
      · rename_i c
        obtain ⟨c1, c2⟩ := Bool.and_eq_true_iff.mp c
        exact hr (rsd_dp r2 8 t1 e1 (SeqAt.canLay_of_shaped c1)) (rsd_dp r2 8 t2 e2 (SeqAt.canLay_of_shaped c2)) c1 c2 (q2.sc r2 rfl)
      · exact False.elim q2
theorem pd_eqDE (ha : PD X .bor w a fa) (hb : PD X .bor w b fb) (hu : X.A.units + 64 < cLine) (hm : behindInMarks .Eq b = false := by rfl) : PD X .frz w (.Compare a [.Eq] [b] pos) (eqDE false fa fb) := PE.imp (pe_cmpR (op_eqD hu) ha hb hm) fun _ _ _ h => eqD_run (fun d1 d2 c1 c2 q => ⟨_, _, d1, d2, c1, c2, q⟩) h
theorem pd_neDE (ha : PD X .bor w a fa) (hb : PD X .bor w b fb) (hu : X.A.units + 64 < cLine) (hm : behindInMarks .NotEq b = false := by rfl) : PD X .frz w (.Compare a [.NotEq] [b] pos) (eqDE true fa fb) := PE.imp (pe_cmpR (op_neD hu) ha hb hm) fun _ _ _ h => eqD_run (fun d1 d2 c1 c2 q => ⟨_, _, d1, d2, c1, c2, q⟩) h
theorem pd_reprDE (hgd : X.A.guards = some []) (hu : X.A.units + 66 < cLine) (hg : Gl X "repr") (hm : X.mg "repr" = none) (ha : PD X .bor w a fa) (hs : starEach [a] X.env = (false, eval a X.env) :: starEach [] X.env := by rfl) : PD X .frz w (.Call (.Name "repr" p) [a] [] pos) (reprDE fa) :=
  PE.imp (pe_callB (call_repr hgd hu) hg hm PyProof.Rows.boot_repr (pa_cons ha pa_nil hs) (by decide) (by decide) hs rfl) (by
  rintro σ H Q ⟨ρ, F, S, env, rl, en, q⟩
  refine ⟨ρ, F, S, env, rl, en, Wg.step kR.old q fun x S1 v ρ1 F1 H1 n1 r1 k1 q1 => ?_⟩
  have t1 := bor_top2 r1 k1
  have q1 : Wg (kR X.K .frz) X.K ρ1 F1 H1 S1 Q (fun cls dd H' => w cls dd σ H') (R.get ((rsd S1 8 x).bind reprD) S1) := q1
  cases e1 : rsd S1 8 x with
  | none => rw [e1] at q1; exact False.elim q1
  | some x' =>
    rw [e1] at q1
    have q1 : Wg (kR X.K .frz) X.K ρ1 F1 H1 S1 Q (fun cls dd H' => w cls dd σ H') (R.get (reprD x') S1) := q1
    unfold reprD at q1
    split at q1
    · rename_i c
      obtain ⟨c12, c3⟩ := Bool.and_eq_true_iff.mp c
      obtain ⟨c01, c2⟩ := Bool.and_eq_true_iff.mp c12
      obtain ⟨c0, c1⟩ := Bool.and_eq_true_iff.mp c01
      obtain ⟨p, rfl⟩ := isSeq_ref t1 e1 c0
      exact ⟨p, _, rfl, rsd_dp r1 8 t1 e1 (SeqAt.canLay_of_shaped c1), c1, c2, sz_line c3, q1.sc r1 rfl⟩
    · exact False.elim q1)
end

/-! ### enumerate; a list repeated -/
def enumL : Nat → List D → List D
  | _, [] => []
  | i, d :: ds => .tup [.int (i : Nat), d] :: enumL (i + 1) ds
theorem enumL_len : ∀ (i : Nat) (ds : List D), (enumL i ds).length = ds.length
  | _, [] => rfl
  | i, _ :: ds => congrArg (· + 1) (enumL_len (i + 1) ds)
theorem enumL_get : ∀ (i : Nat) (ds : List D) (j : Nat) (d : D), ds[j]? = some d → (enumL i ds)[j]? = some (.tup [.int ((i + j : Nat) : Int), d])
  | _, [], j, d, h => by simp at h
  | i, x :: ds, 0, d, h => by
    simp at h
    subst h
    simp [enumL]
  | i, x :: ds, j + 1, d, h => by
    have := enumL_get (i + 1) ds j d (by simpa using h)
    simp only [enumL, List.getElem?_cons_succ]
    rw [this]
    congr 4
    omega
def enumD : D → Option (List D)
  | .lst ds => some (enumL 0 ds)
  | _ => none
section
variable {X : Cx} {w : WX} {e : Expr} {fe : E D} {p pos tpos : Pos} {elts : List Expr} {kk : Nat}
theorem pit_enum (hg : Gl X "enumerate") (hm : X.mg "enumerate" = none) (he : PD X .frz w e fe) (hs : starEach [e] X.env = [(false, eval e X.env)] := by rfl) (hs2 : starEach [e] X.env = (false, eval e X.env) :: starEach [] X.env := by rfl) : PIt X w (.Tuple elts kk tpos) (.Call (.Name "enumerate" p) [e] [] pos) (getE enumD fe) := PI.imp (pi_enum hg hm (pa_cons he pa_nil hs2) hs) (by
  rintro σ H RR ⟨ρ, F, S, env, rl, en, q⟩
  refine ⟨ρ, F, S, env, rl, en, Wg.step iR.old q fun x S1 v ρ1 F1 H1 n1 r1 k1 q1 => ?_⟩
  have k1 : Rep X.K F1 v x := k1
  cases k1 with
  | lst hx l =>
    rename_i a vs ds
    have sub : ∀ F2 H2, Same F1 F2 → Sub F2 H2 → SqL X.K H2 a vs := fun F2 H2 s1 s2 => by
      rcases s2.of _ _ rfl (s1 _ _ hx) with z | ⟨_, _, z, _⟩
      · exact SqL.of z
      · cases z
    refine ⟨a, vs, rfl, sub F1 H1 (fun _ _ z => z) r1.sub, Wg.give q1 r1 ⟨_, _, (by rw [enumL_len, ← l.length]; exact walk_enum), sub, ?_⟩⟩
    rintro i F2 H2 z H3 hi s1 s2 ⟨T, c, d, g1, g2, g3, g4, g5⟩
    have g4 : some (V.int (i : Nat)) = some c := g4
    cases g4
    obtain ⟨d', e1, e2⟩ := l.getV g5
    refine ⟨.tup [.int (i : Nat), d'], ?_, .inr ⟨T, _, [.int (i : Nat), d'], g1, g2, g3, rfl, .cons (.int _) (.cons (e2.mono s1) .nil)⟩⟩
    have := enumL_get 0 ds i d' e1
    rwa [Nat.zero_add] at this
  | _ => exact False.elim q1)
end
def repD : D → D → Option D
  | .lst xs, .int k => if decide (k.natAbs < 9223372036854775808) && sz (xs.length * k.toNat) then some (.lst (repL xs k)) else none
  | _, _ => none
theorem rep_rep {K : Fr} {F : Hp} {vs : List V} {ds : List D} (l : RepL K F vs ds) : ∀ n : Nat, RepL K F (List.replicate n vs).flatten (List.replicate n ds).flatten
  | 0 => .nil
  | n + 1 => by
    rw [List.replicate_succ, List.replicate_succ, List.flatten_cons, List.flatten_cons]
    exact l.append (rep_rep l n)
theorem ok_rep {K : Fr} : OpOk K .own rRep repD := by
  intro ρ F H S Q XQ x y a b r ha hb h
  cases ha with
  | lst hx l =>
    cases hb with
    | int k =>
      rename_i xs
      by_cases hz : (decide (k.natAbs < 9223372036854775808) && sz (xs.length * k.toNat)) = true
      · rw [show repD (.lst xs) (.int k) = _ from if_pos hz] at h
        obtain ⟨h1, h2⟩ := Bool.and_eq_true_iff.mp hz
        have h1 := of_decide_eq_true h1
        exact ⟨_, k, _, rfl, rfl, hx, by omega, by omega, by rw [l.length]; exact sz_line h2, fun p hp => h.alloc r hp (.lst upd_same (rep_rep l _))⟩
      · rw [show repD (.lst xs) (.int k) = _ from if_neg hz] at h
        exact False.elim h
    | _ => exact False.elim h
  | _ => exact False.elim h
theorem pd_repL {X : Cx} {w : WX} {a b : Expr} {fa fb : E D} {pos : Pos} (ha : PD X .bor w a fa) (hb : PD X .bor w b fb) : PD X .own w (.BinOp a .Mult b pos) (opE repD fa fb) := pd_op op_rep ok_rep ha hb
end Fw

set_option  maxHeartbeats 4000000
/-! Fw: texts joined; an object made stands as a cell -/
namespace Fw
open PySem L2 PySem.Spec PyProof.Rows

def joinD (a : Str) : D → Option D
  | .lst ds => (strsD ds).bind fun ys => if decide ((ys.map (·.length)).sum + ys.length * a.length ≤ 16777216) then some (.str (Txt.join a ys)) else none
  | .tup ds => (strsD ds).bind fun ys => if decide ((ys.map (·.length)).sum + ys.length * a.length ≤ 16777216) then some (.str (Txt.join a ys)) else none
  | _ => none
section
variable {X : Cx} {w : WX} {e : Expr} {fe : E D} {apos pos p : Pos} {j : Nat} {a : Str}
theorem pd_join (he : PD X .bor w e fe) (hs : starEach [e] X.env = [(false, eval e X.env)] := by rfl) (hbase : attributeBase (.Constant (.str a) j p) "join" X.env (eval (.Constant (.str a) j p) X.env) = eval (.Constant (.str a) j p) X.env := by rfl) (hline : (apos.endLine == pos.line) = true := by rfl) : PD X .frz w (.Call (.Attribute (.Constant (.str a) j p) "join" apos) [e] [] pos) (b1E (joinD a) fe) := PE.imp (pe_join pe_str he hs hbase hline) (by
  rintro σ H Q ⟨ρ, F, S, env, rl, en, q⟩
  refine ⟨⟨a, rfl⟩, ρ, F, S, env, rl, en, Wg.step kR.old q fun x S1 v ρ1 F1 H1 n1 r1 k1 q1 => ?_⟩
  obtain ⟨x', ex, t, q1⟩ := rs_get r1 (bor_top2 r1 k1) q1
  have fin : ∀ {ds : List D} {vs : List V} {b : Addr}, RepL X.K F1 vs ds → (SqL X.K H1 b vs ∨ SqT X.K H1 b vs) → Wg (kR X.K .frz) X.K ρ1 F1 H1 S1 Q (fun cls dd H' => w cls dd σ H') (R.get ((strsD ds).bind fun ys => if decide ((ys.map (·.length)).sum + ys.length * a.length ≤ 16777216) then some (D.str (Txt.join a ys)) else none) S1) →
      ∃ a' p, ∃ ys : List Str, V.str a = .str a' ∧ [V.ref b] = [.ref p] ∧ (SqL X.K H1 p (ys.map V.str) ∨ SqT X.K H1 p (ys.map V.str)) ∧ (ys.map (·.length)).sum + ys.length * a'.length ≤ 16777216 ∧ Q (.str (Txt.join a' ys)) H1 := by
    intro ds vs b l hs q
    cases es : strsD ds with
    | none => rw [es] at q; exact False.elim q
    | some ys =>
      rw [es] at q
      have q : Wg (kR X.K .frz) X.K ρ1 F1 H1 S1 Q (fun cls dd H' => w cls dd σ H') (R.get (if decide ((ys.map (·.length)).sum + ys.length * a.length ≤ 16777216) then some (D.str (Txt.join a ys)) else none) S1) := q
      by_cases c : decide ((ys.map (·.length)).sum + ys.length * a.length ≤ 16777216) = true
      · rw [if_pos c] at q
        have ev := strs_rep l es
        subst ev
        exact ⟨a, b, ys, rfl, rfl, hs, of_decide_eq_true c, q.sc r1 rfl⟩
      · rw [if_neg c] at q
        exact False.elim q
  cases t with
  | lst h l => exact fin l (.inl (SqL.of h)) q1
  | tup h l => exact fin l (.inr h) q1
  | _ => exact False.elim q1)
end
theorem ps_setLcOX {X : Cx} {w : WX} {i : Nat} {y : Str} {py : Pos} {elt tg iter : Expr} {ifs : List Expr} {scope : Scope} {own : List (Str × Nat)} {pos spos : Pos} {tt : TgtS} {fi : E D} {ft : E Bool} {fe : E D} (hc : X.calm = true) (hN : X.N.Nodup) (hy : X.N[i]? = some y) (hyl : X.env.scope.names.lookup y = some .local)
    (hi : PD X .frz w iter fi) (ok : BlkOk X.N X.env.scope scope own) (hg : ∀ (s : Shared) (H : Hp) (C : Addr) (cl : List (Str × Addr)) (fp : List Addr), PTgS (X.blk s H scope (compEnvC scope cl C X.env) fp) tg tt)
    (ht : ∀ (s : Shared) (H : Hp) (C : Addr) (cl : List (Str × Addr)) (fp : List Addr), PTs (X.blk s H scope (compEnvC scope cl C X.env) fp) ifs (tBl X.K w0 ft)) (he : ∀ (s : Shared) (H : Hp) (C : Addr) (cl : List (Str × Addr)) (fp : List Addr), PD (X.blk s H scope (compEnvC scope cl C X.env) fp) .frz w0 elt fe)
    (hsub : ∀ S d us, tt S d = some us → ∀ p ∈ us, p.1 ∈ own.map (·.2)) (hk : X.env.scope.kind = .function := by rfl) (hl : (py.line == pos.line) = true := by rfl) (ha : (scope.names.any fun (n, k) => n == y && (k == .local || k == .cell)) = false := by rfl) (hs : ∀ x, foldedSetIterable iter X.env x = pure x := by intro _; rfl) :
    PSt X w (.Assign [.Name y py] (.ListComp elt [⟨tg, iter, ifs, 0⟩] scope pos) spos) (ownS i (compX (own.map (·.2)) tt fi ft fe)) := PS.imp (ps_setLc (g := tTS X.K tt) (tt := tBl X.K w0 ft) (te := tD X.K .frz w0 fe) hc hN hy hyl (sw_true hk hyl hl ha) (PI.or (pit_seq hi) (pi_list hi)) ok hg ht he hs) (by
  rintro D' σ H ⟨ρ0, F0, H0, S0, ρ, F, S, env, a, q⟩
  refine compX_run (w := w) hsub _ _ _ ⟨ρ, F, S, env, a.rl, a.en, Ws.step a q fun d S1 v ρ1 F1 H1 n1 a1 k1 q1 => ?_⟩
  by_cases c : ownS.isRef d = true
  · rw [if_pos c] at q1
    have ev : ∃ b, v = .ref b := by
      have t := k1.1
      cases t <;> first | exact ⟨_, rfl⟩ | cases c
    obtain ⟨b, rfl⟩ := ev
    obtain ⟨h1, h2, h3, h4⟩ := k1.2 b rfl
    refine q1 ρ1 F1 H1 _ (a1.setO k1.1 h1 h2 h4 (a.nx.grow b h3) fun j d' cj hj z => ?_)
    obtain ⟨u, g1, g2, g3, g4, g5⟩ := a.en.o j d' hj
    rw [z] at g1
    cases g1
    rw [h3] at g5
    cases g5
  · rw [if_neg c] at q1
    exact False.elim q1)
end Fw

set_option  maxHeartbeats 4000000
/-! Fw: the text of data that hold dicts -/
namespace Fw
open PySem L2 PySem.Spec PyProof.Rows

/-! ### data in the heap; no dict is the one of the modules -/
mutual
inductive Hq (h : Heap) : Value → PyData → Prop
  | non : Hq h .none .none
  | bl (b : Bool) : Hq h (.bool b) (.bool b)
  | int (i : Int) (t : Tok) : Hq h (.int i t) (.int i)
  | str (x : Str) (t : Tok) : Hq h (.str x t) (.str x)
  | lst {a : Addr} {o : Obj} {us : Array Value} {n : Nat} {ds : List PyData} : h.get? a = some o → o.cls = .type "list" → o.data = .seq us n → HqL h us.toList ds → Hq h (.ref a) (.list ds)
  | tup {a : Addr} {o : Obj} {us : Array Value} {n : Nat} {ds : List PyData} : h.get? a = some o → o.cls = .type "tuple" → o.data = .seq us n → HqL h us.toList ds → Hq h (.ref a) (.tuple ds)
  | dict {a : Addr} {o : Obj} {es : Array DictEntry} {n : Nat} {kvs : List (PyData × PyData)} : (a == sysModules) = false → h.get? a = some o → o.cls = .type "dict" → o.data = .dict es n →
      HqL h (es.toList.map (·.key)) (kvs.map (·.1)) → HqL h (es.toList.map (·.val)) (kvs.map (·.2)) → Hq h (.ref a) (.dict kvs)
inductive HqL (h : Heap) : List Value → List PyData → Prop
  | nil : HqL h [] []
  | cons {v : Value} {vs : List Value} {d : PyData} {ds : List PyData} : Hq h v d → HqL h vs ds → HqL h (v :: vs) (d :: ds)
end
section
variable {h : Heap}
mutual
theorem Hq.rd : ∀ {v : Value} {d : PyData}, Hq h v d → ∃ as, Reads h v d as
  | _, _, .non => ⟨_, .none⟩
  | _, _, .bl b => ⟨_, .bool b⟩
  | _, _, .int i t => ⟨_, .int i t⟩
  | _, _, .str x t => ⟨_, .str x t⟩
  | _, _, .lst h1 h2 h3 l => let ⟨_, q⟩ := HqL.rd l; ⟨_, .list h1 h2 h3 q⟩
  | _, _, .tup h1 h2 h3 l => let ⟨_, q⟩ := HqL.rd l; ⟨_, .tuple h1 h2 h3 q⟩
  | _, _, .dict _ h1 h2 h3 k l => let ⟨_, p⟩ := HqL.rd k; let ⟨_, q⟩ := HqL.rd l; ⟨_, .dict h1 h2 h3 p q⟩
theorem HqL.rd : ∀ {vs : List Value} {ds : List PyData}, HqL h vs ds → ∃ as, ReadsAll h vs ds as
  | _, _, .nil => ⟨_, .nil⟩
  | _, _, .cons a l => let ⟨_, p⟩ := Hq.rd a; let ⟨_, q⟩ := HqL.rd l; ⟨_, .cons p q⟩
end
variable {prog : Program} {w : World}
/-- how a text is made of it -/
def ShwR (prog : Program) (w : World) (h : Heap) (v : Value) (d : PyData) : Prop := ∃ bs, ReadAtMost h d.depth bs ∧ ReprK prog w bs h d.depth v d.shown
def ShwRL (prog : Program) (w : World) (h : Heap) (vs : List Value) (ds : List PyData) : Prop := ∃ bs, ReadAtMost h (PyData.depthAll ds) bs ∧ ReprAllK prog w bs h (PyData.depthAll ds) vs (PyData.shownAll ds)
theorem mkL_two {es : List DictEntry} {kvs : List (PyData × PyData)} (k : ShwRL prog w h (es.map (·.key)) (kvs.map (·.1))) (l : ShwRL prog w h (es.map (·.val)) (kvs.map (·.2))) :
    ∃ bs, ReadAtMost h (PyData.depthKv kvs) bs ∧ ReprEntriesK prog w bs h (PyData.depthKv kvs) es (PyData.shownKv kvs) := by
  obtain ⟨bs, p1, p2⟩ := k
  obtain ⟨cs, q1, q2⟩ := l
  refine ⟨bs ++ cs, (p1.mono (PyData.depthAll_keys_le kvs)).append (q1.mono (PyData.depthAll_vals_le kvs)), ?_⟩
  rw [PyData.shownKv_eq]
  exact .of_two es _ _ (p2.more_le (fun b m => List.mem_append_left _ m) (PyData.depthAll_keys_le kvs)) (q2.more_le (fun b m => List.mem_append_right _ m) (PyData.depthAll_vals_le kvs))
theorem kv_sizes {kvs : List (PyData × PyData)} (hz : (dictText (PyData.shownKv kvs)).length ≤ sizeLine) : (∀ t ∈ PyData.shownAll (kvs.map (·.1)), t.length ≤ sizeLine) ∧ ∀ t ∈ PyData.shownAll (kvs.map (·.2)), t.length ≤ sizeLine := by
  constructor <;> intro t m
  · obtain ⟨p, m2, l⟩ := PyData.shownKv_key_le kvs t m
    exact Nat.le_trans l (Nat.le_trans (dictText_mem_le m2) hz)
  · obtain ⟨p, m2, l⟩ := PyData.shownKv_val_le kvs t m
    exact Nat.le_trans l (Nat.le_trans (dictText_mem_le m2) hz)
mutual
theorem Hq.mk : ∀ {v : Value} {d : PyData}, Hq h v d → d.showable = true → d.shown.length ≤ sizeLine → ShwR prog w h v d
  | _, _, .non, _, _ => ⟨[], (fun _ m => by cases m), by rw [PyData.shown]; exact .of_is ReprIs.none _ _ _⟩
  | _, _, .bl b, _, _ => ⟨[], (fun _ m => by cases m), by rw [PyData.shown]; exact .of_is (ReprIs.bool b) _ _ _⟩
  | _, _, .int i t, c, _ => ⟨[], (fun _ m => by cases m), by rw [PyData.shown]; exact .of_is (ReprIs.int t (by simpa [PyData.showable] using c)) _ _ _⟩
  | _, _, .str x t, _, z => ⟨[], (fun _ m => by cases m), by rw [PyData.shown] at z ⊢; exact .of_is (ReprIs.str x t z) _ _ _⟩
  | _, _, .lst (a := a) (us := us) (ds := ds) h1 h2 h3 l, c, z => by
    rw [PyData.shown] at z
    obtain ⟨bs, p, q⟩ := HqL.mk l (by rw [PyData.showable] at c; exact c) fun t m => Nat.le_trans (listText_mem_le m) z
    obtain ⟨_, rd⟩ := Hq.rd (.lst h1 h2 h3 l)
    have hd : PyData.depthAll ds < (PyData.list ds).depth := by rw [PyData.depth]; omega
    refine ⟨a :: bs, ReadAtMost.cons rd (Nat.le_refl _) (p.mono (Nat.le_of_lt hd)), ?_⟩
    have na : a ∉ bs := not_mem_of_deeper rd hd p
    rw [PyData.depth, PyData.shown]
    rcases us with ⟨_ | ⟨u, us⟩⟩
    · have l : HqL h [] ds := l
      cases l
      rw [PyData.shownAll, listText_nil]
      exact .listEmpty h1 h2 h3
    · exact .list h1 h2 h3 na (by simpa using q.length_eq) fun i y e => q.item i y (by simpa using e)
  | _, _, .tup (a := a) (us := us) (ds := ds) h1 h2 h3 l, c, z => by
    rw [PyData.shown] at z
    obtain ⟨bs, p, q⟩ := HqL.mk l (by rw [PyData.showable] at c; exact c) fun t m => Nat.le_trans (tupleText_mem_le m) z
    obtain ⟨_, rd⟩ := Hq.rd (.tup h1 h2 h3 l)
    have hd : PyData.depthAll ds < (PyData.tuple ds).depth := by rw [PyData.depth]; omega
    refine ⟨a :: bs, ReadAtMost.cons rd (Nat.le_refl _) (p.mono (Nat.le_of_lt hd)), ?_⟩
    have na : a ∉ bs := not_mem_of_deeper rd hd p
    rw [PyData.depth, PyData.shown]
    exact .tuple h1 h2 h3 na q
  | _, _, .dict (a := a) (es := es) (kvs := kvs) s h1 h2 h3 k l, c, z => by
    rw [PyData.shown] at z
    obtain ⟨c1, c2⟩ := PyData.showableKv_split kvs (by rw [PyData.showable] at c; exact c)
    obtain ⟨z1, z2⟩ := kv_sizes z
    obtain ⟨bs, p, q⟩ := mkL_two (HqL.mk k c1 z1) (HqL.mk l c2 z2)
    obtain ⟨_, rd⟩ := Hq.rd (.dict s h1 h2 h3 k l)
    have hd : PyData.depthKv kvs < (PyData.dict kvs).depth := by rw [PyData.depth]; omega
    refine ⟨a :: bs, ReadAtMost.cons rd (Nat.le_refl _) (p.mono (Nat.le_of_lt hd)), ?_⟩
    have na : a ∉ bs := not_mem_of_deeper rd hd p
    rw [PyData.depth, PyData.shown]
    exact .dict h1 h2 h3 s na q
theorem HqL.mk : ∀ {vs : List Value} {ds : List PyData}, HqL h vs ds → PyData.showableAll ds = true → (∀ t ∈ PyData.shownAll ds, t.length ≤ sizeLine) → ShwRL prog w h vs ds
  | _, _, .nil, _, _ => ⟨[], (fun _ m => by cases m), by rw [PyData.shownAll]; exact .nil⟩
  | _, _, .cons (d := d) (ds := ds) x l, c, z => by
    rw [PyData.shownAll] at z
    have c : (d.showable && PyData.showableAll ds) = true := by rw [PyData.showableAll] at c; exact c
    obtain ⟨c1, c2⟩ := Bool.and_eq_true_iff.mp c
    obtain ⟨bs, p1, p2⟩ := Hq.mk x c1 (z _ (List.mem_cons_self ..))
    obtain ⟨cs, q1, q2⟩ := HqL.mk l c2 fun t m => z t (List.mem_cons_of_mem _ m)
    have d1 : d.depth ≤ PyData.depthAll (d :: ds) := by rw [PyData.depthAll]; exact Nat.le_max_left _ _
    have d2 : PyData.depthAll ds ≤ PyData.depthAll (d :: ds) := by rw [PyData.depthAll]; exact Nat.le_max_right _ _
    refine ⟨bs ++ cs, (p1.mono d1).append (q1.mono d2), ?_⟩
    rw [PyData.shownAll]
    exact .cons ((p2.more fun b m => List.mem_append_left _ m).level_le d1) (q2.more_le (fun b m => List.mem_append_right _ m) d2)
end
end

/-! ### its call -/
section
variable {prog : Program} {w : World} {h : Heap} {a : Addr} {d : PyData} {A : Around} {E : Value → Shared → Prop} {s : Shared} {Q : Value → Shared → Prop}
theorem Hq.call (q : Hq h (.ref a) d) (c : d.showable = true) (z : d.shown.length ≤ sizeLine) (hg : A.guards = some []) (hu : A.units + (d.depth + 1) < cLine) (kp : ∀ b o, h.get? b = some o → s.heap.get? b = some o)
    (hQ : ∀ h' u tk, (∀ b o, s.heap.get? b = some o → h'.get? b = some o) → Q (.str d.shown u) { s with heap := h', toks := tk }) : wpAny (model prog w) A (PySem.call (.builtin "repr") [.ref a]) Q E s := by
  obtain ⟨_, rd⟩ := q.rd
  have z0 := z
  have hQ' : ∀ h' u tk, (∀ b o, s.heap.get? b = some o → h'.get? b = some o) → ∃ x t, Value.str d.shown u = .str x t ∧ Q (.str d.shown u) { s with heap := h', toks := tk } := fun h' u tk k => ⟨_, _, rfl, hQ h' u tk k⟩
  cases q with
  | lst h1 h2 h3 l =>
    rename_i o us n ds
    rw [PyData.depth] at hu
    rw [PyData.shown] at z hQ'
    obtain ⟨bs, p, q⟩ := HqL.mk (prog := prog) (w := w) l (by rw [PyData.showable] at c; exact c) fun t m => Nat.le_trans (listText_mem_le m) z
    have na : a ∉ bs := not_mem_of_deeper rd (by rw [PyData.depth]; omega) p
    refine call_repr_slot (by omega) ⟨o, kp _ _ h1, h2⟩ F.slot_list_repr.toG ?_
    rcases us with ⟨_ | ⟨u, us⟩⟩
    · have l : HqL h [] ds := l
      cases l
      rw [PyData.shownAll, listText_nil] at hQ'
      exact call_list_repr_empty ⟨o, kp _ _ h1, h2⟩ (kp _ _ h1) h3 (hQ' s.heap _ _ fun _ _ e => e)
    · exact call_list_reprK h1 h2 h3 na (by simpa using q.length_eq) (fun i y e => q.item i y (by simpa using e)) hg (fun b _ => Clear.nil b) (by show A.units + 1 + _ < _; omega) kp hQ' z
  | tup h1 h2 h3 l =>
    rename_i o us n ds
    rw [PyData.depth] at hu
    rw [PyData.shown] at z hQ'
    obtain ⟨bs, p, q⟩ := HqL.mk (prog := prog) (w := w) l (by rw [PyData.showable] at c; exact c) fun t m => Nat.le_trans (tupleText_mem_le m) z
    have na : a ∉ bs := not_mem_of_deeper rd (by rw [PyData.depth]; omega) p
    refine call_repr_slot (by omega) ⟨o, kp _ _ h1, h2⟩ F.slot_tuple_repr ?_
    exact call_tuple_reprK h1 h2 h3 na q hg (fun b _ => Clear.nil b) (by show A.units + 1 + _ < _; omega) kp hQ' z
  | dict sm h1 h2 h3 k l =>
    rename_i o es n kvs
    rw [PyData.depth] at hu
    rw [PyData.shown] at z hQ'
    obtain ⟨c1, c2⟩ := PyData.showableKv_split kvs (by rw [PyData.showable] at c; exact c)
    obtain ⟨z1, z2⟩ := kv_sizes z
    obtain ⟨bs, p, q⟩ := mkL_two (HqL.mk (prog := prog) (w := w) k c1 z1) (HqL.mk l c2 z2)
    have na : a ∉ bs := not_mem_of_deeper rd (by rw [PyData.depth]; omega) p
    refine call_repr_slot (by omega) ⟨o, kp _ _ h1, h2⟩ F.slot_dict_repr ?_
    exact call_dict_reprK h1 h2 h3 sm na q hg (fun b _ => Clear.nil b) (by show A.units + 1 + _ < _; omega) kp hQ' z
end

/-! ### of my data -/
def keyP : Key → PyData
  | .inl i => .int i
  | .inr x => .str x
mutual
def D.pq : D → PyData
  | .non => .none
  | .bl b => .bool b
  | .int i => .int i
  | .str x => .str x
  | .lst xs => .list (pqL xs)
  | .tup xs => .tuple (pqL xs)
  | .dK kvs => .dict (pqK kvs)
  | .ob _ _ => .none
  | .scr _ => .none
  | .cel _ => .none
def pqL : List D → List PyData
  | [] => []
  | x :: xs => x.pq :: pqL xs
def pqK : List (Key × D) → List (PyData × PyData)
  | [] => []
  | (k, x) :: xs => (keyP k, x.pq) :: pqK xs
end
mutual
/-- plain data: no object, no script, no cell -/
def D.pl : D → Bool
  | .lst xs => plL xs
  | .tup xs => plL xs
  | .dK kvs => plK kvs
  | .ob _ _ => false
  | .scr _ => false
  | .cel _ => false
  | _ => true
def plL : List D → Bool
  | [] => true
  | x :: xs => x.pl && plL xs
def plK : List (Key × D) → Bool
  | [] => true
  | (_, x) :: xs => x.pl && plK xs
end
theorem pqK_1 : ∀ kvs : List (Key × D), (pqK kvs).map (·.1) = (kvs.map (·.1)).map keyP
  | [] => rfl
  | (_, x) :: xs => by rw [pqK, List.map_cons, List.map_cons, List.map_cons, pqK_1 xs]
theorem hq_keys {P : Program} {w : World} {h : Heap} {es : List DictEntry} {vs : List (Key × Value)} (p : Pairs (mixKind P w) es vs) : HqL h (es.map (·.key)) ((vs.map (·.1)).map keyP) ∧ es.map (·.val) = vs.map (·.2) := by
  induction p with
  | nil => exact ⟨.nil, rfl⟩
  | cons a b c ih =>
    obtain ⟨i1, i2⟩ := ih
    refine ⟨.cons ?_ i1, by rw [List.map_cons, List.map_cons, i2, b]⟩
    rename_i e kv _ _
    obtain ⟨k, v⟩ := kv
    rcases keyIs_shape (show keyIs k e.key = true from a) with ⟨i, t, rfl, q⟩ | ⟨x, t, rfl, q⟩
    · show Hq h e.key _; rw [q]; exact .int i t
    · show Hq h e.key _; rw [q]; exact .str x t
section
variable {X : Cx} {pins : List (Addr × Obj)} {σ : L2.St} {H : Hp} {s : Shared}
theorem kv_vals {kvs : List (Key × V)} {vs : List (Key × Value)} (h : KV kvs vs) : kvs.map (·.1) = vs.map (·.1) ∧ Vals (kvs.map (·.2)) (vs.map (·.2)) := by
  induction h with
  | nil => exact ⟨rfl, .nil⟩
  | cons a b ih =>
    obtain ⟨i1, i2⟩ := ih
    exact ⟨by rw [List.map_cons, List.map_cons, i1, a.1], .cons a.2 i2⟩
mutual
theorem Rep.hq (I : Inv X pins σ H s) {F : Hp} (sb : Sub F H) : ∀ (d : D) {v : V} {u : Value}, Rep X.K F v d → d.pl = true → RelV v u → Hq s.heap u d.pq
  | .non, _, _, r, _, e => by cases r; cases e; exact .non
  | .bl b, _, _, r, _, e => by cases r; cases e; exact .bl b
  | .int i, _, _, r, _, e => by cases r; obtain ⟨t, rfl⟩ := e; exact .int i t
  | .str x, _, _, r, _, e => by cases r; obtain ⟨t, rfl⟩ := e; exact .str x t
  | .lst xs, _, _, r, c, e => by
    have t := Rep.top sb r
    cases t with
    | lst h1 l =>
      cases e
      obtain ⟨its, rv, ⟨o, n, ho, hc, _, hd⟩, _⟩ := I.list (SqL.of h1)
      exact .lst ho hc hd (RepL.hq I sb xs l c rv)
  | .tup xs, _, _, r, c, e => by
    have t := Rep.top sb r
    cases t with
    | tup h1 l =>
      cases e
      obtain ⟨its, rv, ⟨o, ho, hc, n, hd⟩, _⟩ := I.tuple h1
      exact .tup ho hc hd (RepL.hq I sb xs l c rv)
  | .dK kvs, _, _, r, c, e => by
    have t := Rep.top sb r
    cases t with
    | dK h1 k l =>
      cases e
      obtain ⟨_, sm, vs, rel, o, es, ep, ho, hx, hd, _, pr, _⟩ := dk_rd I.hok h1
      obtain ⟨k1, k2⟩ := kv_vals rel
      obtain ⟨q1, q2⟩ := hq_keys (h := s.heap) pr
      refine .dict sm ho hx.1 hd ?_ ?_
      · rw [pqK_1, ← k, k1]
        exact q1
      · rw [q2]
        exact RepK.hq I sb kvs l c k2
  | .ob _ _, _, _, _, c, _ => by cases c
  | .scr _, _, _, _, c, _ => by cases c
  | .cel _, _, _, _, c, _ => by cases c
theorem RepL.hq (I : Inv X pins σ H s) {F : Hp} (sb : Sub F H) : ∀ (ds : List D) {vs : List V} {us : List Value}, RepL X.K F vs ds → plL ds = true → Vals vs us → HqL s.heap us (pqL ds)
  | [], _, _, l, _, e => by cases l; cases e; exact .nil
  | d :: ds, _, _, l, c, e => by
    cases l with
    | cons a l =>
      cases e with
      | cons x y =>
        obtain ⟨c1, c2⟩ := Bool.and_eq_true_iff.mp (show (_ && _) = true from c)
        exact .cons (Rep.hq I sb d a c1 x) (RepL.hq I sb ds l c2 y)
theorem RepK.hq (I : Inv X pins σ H s) {F : Hp} (sb : Sub F H) : ∀ (kvs : List (Key × D)) {vs : List V} {us : List Value}, RepL X.K F vs (kvs.map (·.2)) → plK kvs = true → Vals vs us → HqL s.heap us ((pqK kvs).map (·.2))
  | [], _, _, l, _, e => by cases l; cases e; exact .nil
  | (k, d) :: ds, _, _, l, c, e => by
    cases l with
    | cons a l =>
      cases e with
      | cons x y =>
        obtain ⟨c1, c2⟩ := Bool.and_eq_true_iff.mp (show (_ && _) = true from c)
        exact .cons (Rep.hq I sb d a c1 x) (RepK.hq I sb ds l c2 y)
end
end
/-- repr of plain data -/
def rReprQ (K : Fr) : List V → Hp → VK → Prop := fun xs H Q => ∃ F a d, xs = [.ref a] ∧ Sub F H ∧ Rep K F (.ref a) d ∧ d.pl = true ∧ d.pq.depth ≤ 64 ∧ d.pq.showable = true ∧ d.pq.shown.length ≤ sizeLine ∧ Q (.str d.pq.shown) H
theorem call_reprQ {X : Cx} (hg : X.A.guards = some []) (hu : X.A.units + 66 < cLine) : CallR X (.builtin "repr") (rReprQ X.K) := by
  intro pins s σ H xs us Q I r h
  obtain ⟨F, a, d, rfl, sb, rp, c, dp, w, z, q⟩ := h
  obtain ⟨u, rfl, ru⟩ := vals1 r
  have hq := rp.hq I sb d c ru
  cases ru
  exact hq.call w z hg (by omega) (fun _ _ e => e) fun h' t tk hk => ⟨.str d.pq.shown, H, I.kept (t' := tk) hk, ⟨t, rfl⟩, q⟩
def isSeqK : D → Bool
  | .lst _ => true | .tup _ => true | .dK _ => true
  | _ => false
def reprQ (d : D) : Option D := if isSeqK d && d.pl && decide (d.pq.depth ≤ 64) && d.pq.showable && sz d.pq.shown.length then some (.str d.pq.shown) else none
/-- the text of frozen data, dicts within it, too -/
def reprQE (fa : E D) : E D := bindE fa fun x _ S => R.get (reprQ x) S
section
variable {X : Cx} {w : WX} {a : Expr} {fa : E D} {pos p : Pos}
theorem pd_reprQ (hgd : X.A.guards = some []) (hu : X.A.units + 66 < cLine) (hg : Gl X "repr") (hm : X.mg "repr" = none) (ha : PD X .frz w a fa) (hs : starEach [a] X.env = (false, eval a X.env) :: starEach [] X.env := by rfl) : PD X .frz w (.Call (.Name "repr" p) [a] [] pos) (reprQE fa) :=
  PE.imp (pe_callB (call_reprQ hgd hu) hg hm PyProof.Rows.boot_repr (pa_cons ha pa_nil hs) (by decide) (by decide) hs rfl) (by
  rintro σ H Q ⟨ρ, F, S, env, rl, en, q⟩
  refine ⟨ρ, F, S, env, rl, en, Wg.step kR.old q fun x S1 v ρ1 F1 H1 n1 r1 k1 q1 => ?_⟩
  have k1 : Rep X.K F1 v x := k1
  have q1 : Wg (kR X.K .frz) X.K ρ1 F1 H1 S1 Q (fun cls dd H' => w cls dd σ H') (R.get (reprQ x) S1) := q1
  unfold reprQ at q1
  split at q1
  · rename_i c
    obtain ⟨c, c5⟩ := Bool.and_eq_true_iff.mp c
    obtain ⟨c, c4⟩ := Bool.and_eq_true_iff.mp c
    obtain ⟨c, c3⟩ := Bool.and_eq_true_iff.mp c
    obtain ⟨c1, c2⟩ := Bool.and_eq_true_iff.mp c
    obtain ⟨b, rfl⟩ : ∃ b, v = .ref b := by
      cases k1 <;> first | exact ⟨_, rfl⟩ | cases c1
    exact ⟨F1, b, x, rfl, r1.sub, k1, c2, of_decide_eq_true c3, c4, sz_line c5, q1.sc r1 rfl⟩
  · exact False.elim q1)
end

/-! ### {'a': 1} -/
def dispE (x : Str) (i : Int) : E D := fun _ S => .ok (.dK [(.inr x, .int i)]) S
theorem pd_disp {X : Cx} {w : WX} {x : Str} {i : Int} {j j' : Nat} {p p' pos : Pos} : PD X .own w (.Dict [some (.Constant (.str x) j p)] [.Constant (.int i) j' p'] pos) (dispE x i) := PE.imp (pe_disp (pps_cons pe_str pe_int pps_nil) rfl rfl (by simp) (by simp)) (by
  rintro σ H Q ⟨ρ, F, S, env, rl, en, q⟩
  intro p hp
  refine ⟨upd_same, [(.inr x, .int i)], rfl, (by simp), ?_⟩
  rw [upd_upd]
  exact Wg.alloc q rl hp (.dK (.inl upd_same) rfl (.cons (.int i) .nil)))

/-! ### except C as n, C one class of the program -/
def cat1 (y : Str) (nm : Str) : Option Bool := if nm = y then some true else none
/-- an exception without a field alone -/
def noFld (x : Xn) (s : Stm) : Stm := match x.fld with | none => s | some _ => noS
theorem cat1_ok {K : Fr} {y : Str} {A : Addr} (h : PySem.W.nsIn K mainGlobals y = some (some (.ref A))) (e : PySem.W.exmOne K (.ref A) (.ref A) = some true) : ∀ nm b C, cat1 y nm = some b → PySem.W.nsIn K mainGlobals nm = some (some (.ref C)) → PySem.W.exmOne K (.ref C) (.ref A) = some b := by
  intro nm b C c g
  unfold cat1 at c
  split at c
  · rename_i n
    subst n
    cases c
    rw [h] at g
    cases g
    exact e
  · cases c
theorem suite1 {X : Cx} {y : Str} {A C : Addr} {d : Option Addr} {oe : Obj} {x : Xn} {sts : List Stmt} {st : Stm} (h : PySem.W.nsIn X.K mainGlobals y = some (some (.ref A))) (c : cat1 y x.nm = some true) (g : PySem.W.nsIn X.K mainGlobals x.nm = some (some (.ref C))) (hz : Zc (.ref C) d oe) (h1 : x.fld = none → d = none)
    (k : Zc (.ref A) none oe → PSb X w0 sts st) : PSb X w0 sts (noFld x st) := by
  unfold cat1 at c
  split at c
  · rename_i n
    rw [n, h] at g
    cases g
    unfold noFld
    cases e : x.fld with
    | none =>
      rw [h1 e] at hz
      exact k hz
    | some p => exact psb_no
  · cases c
theorem roomH_of {k : Nat} {A : Around} (h : L2.Room k A) : L2H.RoomH k A := ⟨h.dp, h.un⟩
theorem roomH_mk {k : Nat} {A : Around} {v : Option Value} (h : L2.Room k A) : L2H.RoomH k (A.mark v) := ⟨h.dp, h.un⟩
/-- a chain as a test -/
theorem pb_chain {X : Cx} {w : WX} {a b c : Expr} {fa fb fc : E D} {pos : Pos} {r1 r2 : R2} {g1 g2 : D → D → Option D} {op op' : CmpOp} (ho : OpR X (compareOp op) r1) (ho' : OpR X (compareOp op') r2) (k1 : CmpOk X.K r1 g1) (k2 : OpOk X.K .frz r2 g2) (ha : PD X .bor w a fa) (hb : PD X .bor w b fb) (hc : PD X .bor w c fc)
    (hm : lastMarks [op, op'] [b, c] = false := by with_unfolding_all rfl) : PB X w (.Compare a [op, op'] [b, c] pos) (tst (chainE g1 g2 fa fb fc)) := by
  refine PT.imp (pt_chain ho ho' ha hb hc hm) ?_
  rintro σ H Q ⟨ρ, F, S, env, rl, en, q⟩
  exact chain_run k1 k2 ⟨ρ, F, S, env, rl, en, asB_run q⟩
theorem bootX_ValueError : bootBuiltins "ValueError" = some (.type "ValueError") := by decide +kernel
theorem bootX_Exception : bootBuiltins "Exception" = some (.type "Exception") := by decide +kernel
end Fw

set_option  maxHeartbeats 4000000
/-! the walk of law_k12_whole_books_judged: printed by fwgen.py -/
namespace Fw
open PySem L2 PySem.Spec PyProof.Rows

structure Cs where
  Signs : Addr
def B_l_pot (cs : Cs) : Stm := (retS .own (lstE (consE (opE maxI (kE (.int 0)) (opE subI (b1E absD (vB 0)) (opE powI (kE (.int 10)) (kE (.int 18))))) (consE (opE plusG (opE modI (b1E absD (vB 0)) (kE (.int 2147483629))) (kE (.int 1))) (consE (kE (.int 0)) nilE)))))
def F_l_pot (cs : Cs) : Fnt := defF .own 1 1 (B_l_pot cs)
def B_l_draw (cs : Cs) : Stm := (seqS (iffS (tst (opE gtI (isCell 0 (cIxE 0 (kE (.int 0)))) (kE (.int 0)))) (seqS (divS 0 0 2 (isCell 0 (cIxE 0 (kE (.int 0)))) (vB 1)) (retS .frz (vF 2))) skipS) (seqS (cPutS 0 (kE (.int 1)) (opE modI (opE plusG (opE mulI (isCell 0 (cIxE 0 (kE (.int 1)))) (kE (.int 48271))) (kE (.int 11))) (kE (.int 2147483647)))) (retS .frz (opE modI (opE divI (opE modI (opE mulI (isCell 0 (cIxE 0 (kE (.int 1)))) (isCell 0 (cIxE 0 (kE (.int 1))))) (kE (.int 2147483629))) (kE (.int 3))) (vB 1)))))
def F_l_draw (cs : Cs) : Fnt := defF .frz 2 3 (B_l_draw cs)
def B_l_unlike (cs : Cs) : Stm := (seqS (ownS 3 (b1E listD (vB 2))) (seqS (celS 3) (retS .own (compE [4] (tgN 4) (getE rng1 (vB 1)) yesE (isList 3 (cPopE 3 (callE (F_l_draw cs) (consM 0 (consF (cLenE 3) nilW)))))))))
def F_l_unlike (cs : Cs) : Fnt := defF .own 3 5 (B_l_unlike cs)
def B_l_book (cs : Cs) : Stm := (seqS (setS 3 (lstE (consE (kE (.str "a")) (consE (kE (.str "b")) (consE (kE (.str "c")) (consE (kE (.str "all")) (consE (kE (.str "not")) (consE (kE (.str "x")) (consE (kE (.str "kind")) (consE (kE (.str "size")) (consE (kE (.str "r")) (consE (kE (.str "f")) (consE (kE (.str "abcdefghijkl")) nilE))))))))))))) (seqS (setS 4 (callE (F_l_unlike cs) (consM 0 (consF (opE plusG (kE (.int 1)) (callE (F_l_draw cs) (consM 0 (consF (vF 1) nilW)))) (consF (vF 3) nilW))))) (seqS (setS 3 (lstE (consE (kE (.str "r")) (consE (kE (.str "s")) (consE (kE (.str "q")) (consE (kE (.str "f")) (consE (kE (.str "g")) (consE (kE (.str "c")) (consE (kE (.str "x")) (consE (kE (.str "say")) (consE (kE (.str "holds")) (consE (kE (.str "none")) (consE (kE (.str "tie")) (consE (kE (.str "next")) (consE (kE (.str "zyxwvutsrqpo")) nilE))))))))))))))) (seqS (setS 5 (callE (F_l_unlike cs) (consM 0 (consF (callE (F_l_draw cs) (consM 0 (consF (opE plusG (vF 2) (kE (.int 1))) nilW))) (consF (vF 3) nilW))))) (seqS (ownS 6 (lstE nilE)) (seqS (ownS 7 (lstE nilE)) (seqS (forX (tgNS 8) (vF 5) (seqS (ownS 9 (compE [10] (tgN 10) (getE rng1 (opE ixG (lstE (consE (kE (.int 0)) (consE (kE (.int 1)) (consE (kE (.int 1)) (consE (kE (.int 2)) nilE))))) (callE (F_l_draw cs) (consM 0 (consF (kE (.int 4)) nilW))))) yesE (opE ixG (vB 4) (callE (F_l_draw cs) (consM 0 (consF (b1E lenD2 (vB 4)) nilW)))))) (seqS (frzS 9) (iffS (tst (opE ltI (callE (F_l_draw cs) (consM 0 (consF (kE (.int 5)) nilW))) (kE (.int 3)))) (appS 6 (tupE (consE (vF 8) (consE (vF 9) nilE)))) (appS 7 (tupE (consE (vF 8) (consE (vF 9) (consE (opE ixG (vB 4) (callE (F_l_draw cs) (consM 0 (consF (b1E lenD2 (vB 4)) nilW)))) nilE))))))))) (seqS (frzS 6) (seqS (frzS 7) (retS .frz (tupE (consE (vF 4) (consE (vF 6) (consE (vF 7) nilE))))))))))))))
def F_l_book (cs : Cs) : Fnt := defF .frz 3 11 (B_l_book cs)
def B_l_cell (cs : Cs) : Stm := (seqS (iffS (tst (opE ltI (vB 1) (b1E lenD2 (vB 0)))) (retS .frz (opE ixG (vB 0) (vB 1))) skipS) (retS .frz (kE (.int 0))))
def F_l_cell (cs : Cs) : Fnt := defF .frz 2 2 (B_l_cell cs)
def B_l_row (cs : Cs) : Stm := (retS .frz (b1E (isiD [.list, .tuple]) (vF 0)))
def F_l_row (cs : Cs) : Fnt := defF .frz 1 1 (B_l_row cs)
def B_l_name (cs : Cs) : Stm := (seqS (iffS (orB (notB (tst (b1E (isiD [.str]) (vB 0)))) (notB (tst (chainE leI leI (kE (.int 1)) (b1E lenD2 (vB 0)) (kE (.int 12)))))) (retS .frz (kE (.bl false))) skipS) (retS .frz (b1E allD (compX [1] (tgNS 1) (vF 0) yesE (opE (inA false) (vB 1) (kE (.str "abcdefghijklmnopqrstuvwxyz")))))))
def F_l_name (cs : Cs) : Fnt := defF .frz 1 2 (B_l_name cs)
def B_l_sign (cs : Cs) : Stm := (seqS (iffS (orB (notB (tst (callE (F_l_row cs) (consF (vF 1) nilW)))) (orB (tst (opE (eqG true) (b1E lenD2 (vB 1)) (vB 2))) (notB (tst (callE (F_l_name cs) (consF (opE ixG (vB 1) (kE (.int 0))) nilW)))))) (retS .frz (kE (.bl false))) skipS) (seqS (iffS (orB (tst (opE (inA false) (opE ixG (vB 1) (kE (.int 0))) (tupE (consE (kE (.str "all")) (consE (kE (.str "some")) (consE (kE (.str "not")) (consE (kE (.str "and")) (consE (kE (.str "or")) nilE)))))))) (orB (notB (tst (callE (F_l_row cs) (consF (opE ixG (vB 1) (kE (.int 1))) nilW)))) (tst (opE gtI (b1E lenD2 (opE ixG (vB 1) (kE (.int 1)))) (kE (.int 2)))))) (retS .frz (kE (.bl false))) skipS) (seqS (setS 3 (opE plusG (b1E listD (opE ixG (vB 1) (kE (.int 1)))) (b1E listD (slE cutA (vF 1) (partE (kE (.int 2))) noPart)))) (retS .frz (b1E allD (compX [4] (tgNS 4) (vF 3) yesE (andE (b1E (isiD [.str]) (vB 4)) (opE (inA false) (vB 4) (vB 0)))))))))
def F_l_sign (cs : Cs) : Fnt := defF .frz 3 5 (B_l_sign cs)
def B_l_is_book (cs : Cs) : Stm := (seqS (iffS (orB (notB (tst (callE (F_l_row cs) (consF (vF 0) nilW)))) (orB (notB (tst (chainE leI leI (kE (.int 1)) (b1E lenD2 (vB 0)) (kE (.int 4))))) (notB (tst (b1E allD (compX [3] (tgNS 3) (vF 0) yesE (callE (F_l_name cs) (consF (vF 3) nilW)))))))) (retS .frz (kE (.bl false))) skipS) (seqS (iffS (orB (notB (tst (callE (F_l_row cs) (consF (vF 1) nilW)))) (orB (notB (tst (callE (F_l_row cs) (consF (vF 2) nilW)))) (tst (opE gtI (opE plusG (b1E lenD2 (vB 1)) (b1E lenD2 (vB 2))) (kE (.int 8)))))) (retS .frz (kE (.bl false))) skipS) (seqS (iffS (notB (tst (b1E allD (compX [4] (tgNS 4) (vF 1) yesE (callE (F_l_sign cs) (consF (vF 0) (consF (vF 4) (consF (kE (.int 2)) nilW)))))))) (retS .frz (kE (.bl false))) skipS) (seqS (iffS (notB (tst (b1E allD (compX [5] (tgNS 5) (vF 2) yesE (callE (F_l_sign cs) (consF (vF 0) (consF (vF 5) (consF (kE (.int 3)) nilW)))))))) (retS .frz (kE (.bl false))) skipS) (seqS (setS 6 (compX [7] (tgNS 7) (opE plusG (b1E listD (vB 1)) (b1E listD (vB 2))) yesE (opE ixG (vB 7) (kE (.int 0))))) (seqS (ownS 8 (compE [9, 10] (tgT [9, 10]) (getE enumD (vF 6)) (tst (opE (inA true) (vB 10) (slE cutA (vF 6) noPart (partE (vF 9))))) (vF 10))) (seqS (frzS 8) (retS .frz (andE (opE (eqG false) (vB 8) (vB 6)) (b1E allD (compE [9, 3] (tgT [9, 3]) (getE enumD (vF 0)) yesE (opE (inA true) (vB 3) (slE cutA (vF 0) noPart (partE (vF 9)))))))))))))))
def F_l_is_book (cs : Cs) : Fnt := defF .frz 3 11 (B_l_is_book cs)
def B_l_put (cs : Cs) : Stm := (seqS (ownS 3 (b1E listD (vB 1))) (seqS (iffS (tst (opE (eqG false) (vB 3) (lstE nilE))) (retS .own (lstE (consE (vF 2) nilE))) skipS) (seqS (putS 3 (callE (F_l_draw cs) (consM 0 (consF (b1E lenD2 (vB 3)) nilW))) (vF 2)) (retV 3))))
def F_l_put (cs : Cs) : Fnt := defF .own 3 4 (B_l_put cs)
def B_l_list_odd (cs : Cs) : Stm := (seqS (setS 1 (lstE (consE (kE .non) (consE (kE (.int 7)) (consE (kE (.str "ab")) (consE dnewE (consE (dispE "a" 1) (consE (kE (.bl true)) (consE (kE (.str "")) (consE (lstE (consE (lstE nilE) nilE)) (consE (lstE (consE (kE .non) nilE)) (consE (lstE (consE (kE (.int 7)) nilE)) (consE (lstE (consE (kE (.str "a")) (consE (kE (.str "a")) nilE))) (consE (tupE (consE (kE (.str "a")) (consE (kE (.str "b")) (consE (kE (.str "c")) (consE (kE (.str "d")) (consE (kE (.str "e")) nilE)))))) (consE (lstE nilE) (consE (tupE nilE) nilE)))))))))))))))) (retS .frz (opE ixG (vB 1) (callE (F_l_draw cs) (consM 0 (consF (b1E lenD2 (vB 1)) nilW))))))
def F_l_list_odd (cs : Cs) : Fnt := defF .frz 1 2 (B_l_list_odd cs)
def B_l_odd (cs : Cs) : Stm := (seqS (setS 1 (lstE (consE (kE (.str "")) (consE (kE (.str "A")) (consE (kE (.str "abcdefghijklm")) (consE (kE (.str "a b")) (consE (kE (.str "b1")) (consE (kE (.str "a_")) (consE (kE (.str "a\n")) (consE (kE (.str "=")) (consE (kE (.str "all")) (consE (kE (.str "some")) (consE (kE (.str "not")) (consE (kE (.str "and")) (consE (kE (.str "or")) (consE (kE (.str "a")) (consE (kE (.str "zz")) nilE))))))))))))))))) (seqS (setS 1 (opE plusG (vF 1) (lstE (consE (kE (.int 7)) (consE (kE (.bl true)) (consE (kE .non) (consE (tupE (consE (kE (.str "a")) nilE)) (consE (lstE (consE (kE (.str "a")) nilE)) (consE dnewE (consE (kE (.str "abcdefghijkl")) (consE (kE (.str "aA")) (consE (kE (.str "-")) nilE)))))))))))) (retS .frz (opE ixG (vB 1) (callE (F_l_draw cs) (consM 0 (consF (b1E lenD2 (vB 1)) nilW)))))))
def F_l_odd (cs : Cs) : Fnt := defF .frz 1 2 (B_l_odd cs)
def B_l_spoilt_sign (cs : Cs) : Stm := (seqS (iffS (tst (opE (eqG false) (b1E lenD2 (vB 1)) (kE (.int 0)))) (retS .own (lstE (consE (callE (F_l_odd cs) (consM 0 nilW)) nilE))) skipS) (seqS (setS 3 (callE (F_l_draw cs) (consM 0 (consF (b1E lenD2 (vB 1)) nilW)))) (seqS (ownS 4 (b1E listD (opE ixG (vB 1) (vB 3)))) (seqS (setS 5 (callE (F_l_draw cs) (consM 0 (consF (kE (.int 7)) nilW)))) (seqS (iffS (tst (opE (eqG false) (vB 5) (kE (.int 0)))) (putS 4 (kE (.int 0)) (callE (F_l_odd cs) (consM 0 nilW))) (iffS (tst (opE (eqG false) (vB 5) (kE (.int 1)))) (putS 4 (kE (.int 1)) (callE (F_l_list_odd cs) (consM 0 nilW))) (iffS (tst (opE (eqG false) (vB 5) (kE (.int 2)))) (putS 4 (kE (.int 1)) (callE (F_l_put cs) (consM 0 (consF (opE ixG (vB 4) (kE (.int 1))) (consF (callE (F_l_odd cs) (consM 0 nilW)) nilW))))) (iffS (tst (opE (eqG false) (vB 5) (kE (.int 3)))) (putS 4 (kE (.int 1)) (opE plusG (b1E listD (opE ixG (vB 4) (kE (.int 1)))) (opE repD (lstE (consE (opE ixG (vB 2) (kE (.int 0))) nilE)) (opE plusG (kE (.int 1)) (callE (F_l_draw cs) (consM 0 (consF (kE (.int 3)) nilW))))))) (iffS (tst (opE (eqG false) (vB 5) (kE (.int 4)))) (appS 4 (callE (F_l_odd cs) (consM 0 nilW))) (iffS (tst (opE (eqG false) (vB 5) (kE (.int 5)))) (popS 4) (putS 4 (b1E negD (kE (.int 1))) (callE (F_l_odd cs) (consM 0 nilW))))))))) (seqS (ownS 6 (b1E listD (vB 1))) (seqS (frzS 4) (seqS (putS 6 (vF 3) (opE ixG (lstE (consE (b1E tupleD (vF 4)) (consE (vF 4) (consE (callE (F_l_list_odd cs) (consM 0 nilW)) nilE)))) (callE (F_l_draw cs) (consM 0 (consF (kE (.int 3)) nilW))))) (retV 6)))))))))
def F_l_spoilt_sign (cs : Cs) : Fnt := defF .own 3 7 (B_l_spoilt_sign cs)
def B_l_spoilt (cs : Cs) : Stm := (seqS (tupS [2, 3, 4] (vF 1)) (seqS (setS 5 (callE (F_l_draw cs) (consM 0 (consF (kE (.int 9)) nilW)))) (seqS (iffS (tst (opE (eqG false) (vB 5) (kE (.int 0)))) (retS .frz (tupE (consE (callE (F_l_put cs) (consM 0 (consF (vF 2) (consF (callE (F_l_odd cs) (consM 0 nilW)) nilW)))) (consE (vF 3) (consE (vF 4) nilE))))) skipS) (seqS (iffS (tst (opE (eqG false) (vB 5) (kE (.int 1)))) (retS .frz (tupE (consE (opE plusG (b1E listD (vB 2)) (slE cutA (lstE (consE (kE (.str "e")) (consE (kE (.str "d")) (consE (kE (.str "h")) nilE)))) noPart (partE (opE plusG (kE (.int 1)) (callE (F_l_draw cs) (consM 0 (consF (kE (.int 3)) nilW))))))) (consE (vF 3) (consE (vF 4) nilE))))) skipS) (seqS (iffS (tst (opE (eqG false) (vB 5) (kE (.int 2)))) (retS .frz (tupE (consE (opE plusG (b1E listD (vB 2)) (lstE (consE (opE ixG (vB 2) (callE (F_l_draw cs) (consM 0 (consF (b1E lenD2 (vB 2)) nilW)))) nilE))) (consE (vF 3) (consE (vF 4) nilE))))) skipS) (seqS (iffS (tst (opE (eqG false) (vB 5) (kE (.int 3)))) (retS .frz (opE ixG (lstE (consE (tupE (consE (callE (F_l_list_odd cs) (consM 0 nilW)) (consE (vF 3) (consE (vF 4) nilE)))) (consE (tupE (consE (vF 2) (consE (callE (F_l_list_odd cs) (consM 0 nilW)) (consE (vF 4) nilE)))) nilE))) (callE (F_l_draw cs) (consM 0 (consF (kE (.int 2)) nilW))))) skipS) (seqS (iffS (tst (opE (eqG false) (vB 5) (kE (.int 4)))) (retS .frz (tupE (consE (vF 2) (consE (vF 3) (consE (callE (F_l_list_odd cs) (consM 0 nilW)) nilE))))) skipS) (seqS (iffS (tst (opE (eqG false) (vB 5) (kE (.int 5)))) (retS .frz (tupE (consE (vF 2) (consE (callE (F_l_spoilt_sign cs) (consM 0 (consF (vF 3) (consF (vF 2) nilW)))) (consE (vF 4) nilE))))) skipS) (seqS (iffS (tst (opE (eqG false) (vB 5) (kE (.int 6)))) (retS .frz (tupE (consE (vF 2) (consE (vF 3) (consE (callE (F_l_spoilt_sign cs) (consM 0 (consF (vF 4) (consF (vF 2) nilW)))) nilE))))) skipS) (seqS (iffS (tst (opE (eqG false) (vB 5) (kE (.int 7)))) (retS .frz (tupE (consE (vF 2) (consE (vF 3) (consE (opE plusG (b1E listD (vB 4)) (compX [6] (tgNS 6) (slE cutA (vF 3) noPart (partE (kE (.int 1)))) yesE (tupE (consE (opE ixG (vB 6) (kE (.int 0))) (consE (opE ixG (vB 6) (kE (.int 1))) (consE (opE ixG (vB 2) (kE (.int 0))) nilE)))))) nilE))))) skipS) (seqS (ownS 7 (compE [8] (tgN 8) (getE rng1 (callE (F_l_draw cs) (consM 0 (consF (kE (.int 9)) nilW)))) yesE (tupE (consE (opE plusG (kE (.str "m")) (opE ixG (kE (.str "abcdefgh")) (vB 8))) (consE (lstE nilE) nilE))))) (seqS (frzS 7) (retS .frz (tupE (consE (vF 2) (consE (opE plusG (b1E listD (vB 3)) (vF 7)) (consE (vF 4) nilE)))))))))))))))))
def F_l_spoilt (cs : Cs) : Fnt := defF .frz 2 9 (B_l_spoilt cs)
def B_is_listed (cs : Cs) : Stm := (retS .frz (b1E (isiD [.list, .tuple]) (vF 0)))
def F_is_listed (cs : Cs) : Fnt := defF .frz 1 1 (B_is_listed cs)
def B_is_name (cs : Cs) : Stm := (seqS (iffS (orB (notB (tst (b1E (isiD [.str]) (vB 0)))) (orB (tst (opE (eqG false) (vB 0) (kE (.str "")))) (tst (opE gtI (b1E lenD2 (vB 0)) (kE (.int 12)))))) (retS .frz (kE (.bl false))) skipS) (retS .frz (b1E allD (compX [1] (tgNS 1) (vF 0) yesE (opE (inA false) (vB 1) (kE (.str "abcdefghijklmnopqrstuvwxyz")))))))
def F_is_name (cs : Cs) : Fnt := defF .frz 1 2 (B_is_name cs)
def B_are_kinds (cs : Cs) : Stm := (seqS (iffS (orB (notB (tst (callE (F_is_listed cs) (consF (vF 0) nilW)))) (orB (tst (opE ltI (b1E lenD2 (vB 0)) (kE (.int 1)))) (tst (opE gtI (b1E lenD2 (vB 0)) (kE (.int 4)))))) (retS .frz (kE (.bl false))) skipS) (retS .frz (andE (b1E allD (compX [1] (tgNS 1) (vF 0) yesE (callE (F_is_name cs) (consF (vF 1) nilW)))) (opE (eqG false) (b1E lenK (vB 0)) (b1E lenD2 (vB 0))))))
def F_are_kinds (cs : Cs) : Fnt := defF .frz 1 2 (B_are_kinds cs)
def B_is_sign_name (cs : Cs) : Stm := (retS .frz (andE (callE (F_is_name cs) (consF (vF 0) nilW)) (opE (inA true) (vB 0) (kE (.tup [(.str "all"), (.str "some"), (.str "not"), (.str "and"), (.str "or")])))))
def F_is_sign_name (cs : Cs) : Fnt := defF .frz 1 1 (B_is_sign_name cs)
def B_is_kind (cs : Cs) : Stm := (retS .frz (andE (b1E (isiD [.str]) (vB 1)) (opE (inA false) (vB 1) (vB 0))))
def F_is_kind (cs : Cs) : Fnt := defF .frz 2 2 (B_is_kind cs)
def B_are_places (cs : Cs) : Stm := (seqS (iffS (orB (notB (tst (callE (F_is_listed cs) (consF (vF 1) nilW)))) (tst (opE gtI (b1E lenD2 (vB 1)) (kE (.int 2))))) (retS .frz (kE (.bl false))) skipS) (retS .frz (b1E allD (compX [2] (tgNS 2) (vF 1) yesE (callE (F_is_kind cs) (consF (vF 0) (consF (vF 2) nilW)))))))
def F_are_places (cs : Cs) : Fnt := defF .frz 2 3 (B_are_places cs)
def B_is_tie (cs : Cs) : Stm := (seqS (iffS (orB (notB (tst (callE (F_is_listed cs) (consF (vF 1) nilW)))) (tst (opE (eqG true) (b1E lenD2 (vB 1)) (kE (.int 2))))) (retS .frz (kE (.bl false))) skipS) (retS .frz (andE (callE (F_is_sign_name cs) (consF (opE ixG (vB 1) (kE (.int 0))) nilW)) (callE (F_are_places cs) (consF (vF 0) (consF (opE ixG (vB 1) (kE (.int 1))) nilW))))))
def F_is_tie (cs : Cs) : Fnt := defF .frz 2 2 (B_is_tie cs)
def B_is_function (cs : Cs) : Stm := (seqS (iffS (orB (notB (tst (callE (F_is_listed cs) (consF (vF 1) nilW)))) (tst (opE (eqG true) (b1E lenD2 (vB 1)) (kE (.int 3))))) (retS .frz (kE (.bl false))) skipS) (retS .frz (andE (callE (F_is_sign_name cs) (consF (opE ixG (vB 1) (kE (.int 0))) nilW)) (andE (callE (F_are_places cs) (consF (vF 0) (consF (opE ixG (vB 1) (kE (.int 1))) nilW))) (callE (F_is_kind cs) (consF (vF 0) (consF (opE ixG (vB 1) (kE (.int 2))) nilW)))))))
def F_is_function (cs : Cs) : Fnt := defF .frz 2 2 (B_is_function cs)
def B_are_signs (cs : Cs) : Stm := (seqS (iffS (orB (notB (tst (callE (F_is_listed cs) (consF (vF 1) nilW)))) (orB (notB (tst (callE (F_is_listed cs) (consF (vF 2) nilW)))) (tst (opE gtI (opE plusG (b1E lenD2 (vB 1)) (b1E lenD2 (vB 2))) (kE (.int 8)))))) (retS .frz (kE (.bl false))) skipS) (seqS (iffS (notB (tst (b1E allD (compX [3] (tgNS 3) (vF 1) yesE (callE (F_is_tie cs) (consF (vF 0) (consF (vF 3) nilW))))))) (retS .frz (kE (.bl false))) skipS) (seqS (iffS (notB (tst (b1E allD (compX [4] (tgNS 4) (vF 2) yesE (callE (F_is_function cs) (consF (vF 0) (consF (vF 4) nilW))))))) (retS .frz (kE (.bl false))) skipS) (seqS (setS 5 (opE plusG (compX [6] (tgNS 6) (vF 1) yesE (opE ixG (vB 6) (kE (.int 0)))) (compX [6] (tgNS 6) (vF 2) yesE (opE ixG (vB 6) (kE (.int 0)))))) (retS .frz (opE (eqG false) (b1E lenK (vB 5)) (b1E lenD2 (vB 5))))))))
def F_are_signs (cs : Cs) : Fnt := defF .frz 3 7 (B_are_signs cs)
def B_Signs_ini (cs : Cs) : Stm := (seqS (iffS (orB (notB (tst (callE (F_are_kinds cs) (consF (vF 1) nilW)))) (notB (tst (callE (F_are_signs cs) (consF (vF 1) (consF (vF 2) (consF (vF 3) nilW))))))) (raiseS "NoSigns") skipS) (seqS (cFldS cs.Signs 0 "own_kinds" (b1E listD (vB 1))) (seqS (cFldS cs.Signs 0 "own_ties" (compX [4, 5] (tgTS [4, 5]) (vF 2) yesE (tupE (consE (vF 4) (consE (b1E tupleD (vF 5)) nilE))))) (cFldS cs.Signs 0 "own_functions" (compX [4, 5, 6] (tgTS [4, 5, 6]) (vF 3) yesE (tupE (consE (vF 4) (consE (b1E tupleD (vF 5)) (consE (vF 6) nilE)))))))))
def F_Signs_ini (cs : Cs) : Fnt := iniF cs.Signs 3 6 (B_Signs_ini cs)
def B_l_just_NoSigns (cs : Cs) (a : Addr) : Stm := (seqS (iffS (orB (notB (tst (isXE a true 0))) (notB (tst (isXE a true 0)))) (retS .frz (kE (.bl false))) skipS) (retS .frz (notE (isXE a false 0))))
def F_l_just_NoSigns (cs : Cs) (a : Addr) : Fnt := defF .frz 1 1 (B_l_just_NoSigns cs a)
noncomputable def B_l_told (cs : Cs) : Stm := (seqS (setS 1 (kE (.int 1))) (seqS (tryS (dropS (callE (F_Signs_ini cs) (consF (opE ixG (vB 0) (kE (.int 0))) (consF (opE ixG (vB 0) (kE (.int 1))) (consF (opE ixG (vB 0) (kE (.int 2))) nilW))))) 2 (cat1 "NoSigns") fun a x => noFld x (setS 1 (ifE (tst (callE (F_l_just_NoSigns cs a) (consX 2 nilW))) (kE (.int 0)) (kE (.int 2))))) (retS .frz (vF 1))))
noncomputable def F_l_told (cs : Cs) : Fnt := defF .frz 1 3 (B_l_told cs)
noncomputable def B_law (cs : Cs) : Stm := (seqS (forX (tgNS 1) (opE plusG (lstE (consE (callE (F_l_cell cs) (consF (vF 0) (consF (kE (.int 0)) nilW))) nilE)) (slE cutA (vF 0) (partE (kE (.int 1))) (partE (kE (.int 8))))) (seqS (ownS 2 (callE (F_l_pot cs) (consF (vF 1) nilW))) (seqS (celS 2) (seqS (setS 3 (callE (F_l_book cs) (consM 2 (consF (kE (.int 4)) (consF (kE (.int 8)) nilW))))) (seqS (forS (tgN 4) (getE rng1 (callE (F_l_draw cs) (consM 2 (consF (kE (.int 3)) nilW)))) (iffS (tst (callE (F_l_is_book cs) (consF (opE ixG (vB 3) (kE (.int 0))) (consF (opE ixG (vB 3) (kE (.int 1))) (consF (opE ixG (vB 3) (kE (.int 2))) nilW))))) (setS 3 (callE (F_l_spoilt cs) (consM 2 (consF (vF 3) nilW)))) skipS)) (seqS (setS 5 (reprQE (vF 3))) (iffS (orB (tst (opE (eqG true) (callE (F_l_told cs) (consF (vF 3) nilW)) (b1E intD (callE (F_l_is_book cs) (consF (opE ixG (vB 3) (kE (.int 0))) (consF (opE ixG (vB 3) (kE (.int 1))) (consF (opE ixG (vB 3) (kE (.int 2))) nilW))))))) (tst (opE (eqG true) (reprQE (vF 3)) (vB 5)))) (retS .frz (kE (.bl false))) skipS))))))) (retS .frz (kE (.bl true))))
noncomputable def F_law (cs : Cs) : Fnt := defF .frz 1 6 (B_law cs)
def top (i : Nat) : Stmt := PySem.Challenge.pw_fewthings_k12_whole_books_judged.main.body.getD i (.Pass ⟨0, 0, 0, 0⟩)
abbrev s_l_pot : Stmt := top 31
abbrev s_l_draw : Stmt := top 32
abbrev s_l_unlike : Stmt := top 33
abbrev s_l_book : Stmt := top 34
abbrev s_l_cell : Stmt := top 30
abbrev s_l_row : Stmt := top 40
abbrev s_l_name : Stmt := top 41
abbrev s_l_sign : Stmt := top 42
abbrev s_l_is_book : Stmt := top 43
abbrev s_l_put : Stmt := top 37
abbrev s_l_list_odd : Stmt := top 36
abbrev s_l_odd : Stmt := top 35
abbrev s_l_spoilt_sign : Stmt := top 38
abbrev s_l_spoilt : Stmt := top 39
abbrev s_is_listed : Stmt := top 21
abbrev s_is_name : Stmt := top 19
abbrev s_are_kinds : Stmt := top 22
abbrev s_is_sign_name : Stmt := top 20
abbrev s_is_kind : Stmt := top 23
abbrev s_are_places : Stmt := top 24
abbrev s_is_tie : Stmt := top 25
abbrev s_is_function : Stmt := top 26
abbrev s_are_signs : Stmt := top 27
abbrev s_Signs_ini : Stmt := inClass (top 28) 0
abbrev s_l_just : Stmt := top 44
abbrev s_l_told : Stmt := top 45
abbrev s_law : Stmt := top 46
/-- what the written part says -/
structure Txt (K : Fr) (mg : Str → Option Value) (cs : Cs) where
  a_l_pot : Addr
  f_l_pot : Fn1 K "_law_pot" "_law_pot" s_l_pot a_l_pot ["_law_cell_here"]
  m_l_pot : mg "_law_pot" = some (.ref a_l_pot)
  k_l_pot : PySem.W.keepIn K (.ref a_l_pot) = true
  a_l_draw : Addr
  f_l_draw : Fn1 K "_law_draw" "_law_draw" s_l_draw a_l_draw ["_law_pot_here", "_law_many"]
  m_l_draw : mg "_law_draw" = some (.ref a_l_draw)
  k_l_draw : PySem.W.keepIn K (.ref a_l_draw) = true
  a_l_unlike : Addr
  f_l_unlike : Fn1 K "_law_unlike" "_law_unlike" s_l_unlike a_l_unlike ["_law_pot_here", "_law_many", "_law_menu"]
  m_l_unlike : mg "_law_unlike" = some (.ref a_l_unlike)
  k_l_unlike : PySem.W.keepIn K (.ref a_l_unlike) = true
  a_l_book : Addr
  f_l_book : Fn1 K "_law_book" "_law_book" s_l_book a_l_book ["_law_pot_here", "_law_most_kinds", "_law_most_signs"]
  m_l_book : mg "_law_book" = some (.ref a_l_book)
  k_l_book : PySem.W.keepIn K (.ref a_l_book) = true
  a_l_cell : Addr
  f_l_cell : Fn1 K "_law_cell" "_law_cell" s_l_cell a_l_cell ["_law_script", "_law_k"]
  m_l_cell : mg "_law_cell" = some (.ref a_l_cell)
  k_l_cell : PySem.W.keepIn K (.ref a_l_cell) = true
  a_l_row : Addr
  f_l_row : Fn1 K "_law_row" "_law_row" s_l_row a_l_row ["_law_thing"]
  m_l_row : mg "_law_row" = some (.ref a_l_row)
  k_l_row : PySem.W.keepIn K (.ref a_l_row) = true
  a_l_name : Addr
  f_l_name : Fn1 K "_law_name" "_law_name" s_l_name a_l_name ["_law_thing"]
  m_l_name : mg "_law_name" = some (.ref a_l_name)
  k_l_name : PySem.W.keepIn K (.ref a_l_name) = true
  a_l_sign : Addr
  f_l_sign : Fn1 K "_law_sign" "_law_sign" s_l_sign a_l_sign ["_law_kinds", "_law_thing", "_law_many"]
  m_l_sign : mg "_law_sign" = some (.ref a_l_sign)
  k_l_sign : PySem.W.keepIn K (.ref a_l_sign) = true
  a_l_is_book : Addr
  f_l_is_book : Fn1 K "_law_is_book" "_law_is_book" s_l_is_book a_l_is_book ["_law_kinds", "_law_ties", "_law_functions"]
  m_l_is_book : mg "_law_is_book" = some (.ref a_l_is_book)
  k_l_is_book : PySem.W.keepIn K (.ref a_l_is_book) = true
  a_l_put : Addr
  f_l_put : Fn1 K "_law_put" "_law_put" s_l_put a_l_put ["_law_pot_here", "_law_rows", "_law_thing"]
  m_l_put : mg "_law_put" = some (.ref a_l_put)
  k_l_put : PySem.W.keepIn K (.ref a_l_put) = true
  a_l_list_odd : Addr
  f_l_list_odd : Fn1 K "_law_list_odd" "_law_list_odd" s_l_list_odd a_l_list_odd ["_law_pot_here"]
  m_l_list_odd : mg "_law_list_odd" = some (.ref a_l_list_odd)
  k_l_list_odd : PySem.W.keepIn K (.ref a_l_list_odd) = true
  a_l_odd : Addr
  f_l_odd : Fn1 K "_law_odd" "_law_odd" s_l_odd a_l_odd ["_law_pot_here"]
  m_l_odd : mg "_law_odd" = some (.ref a_l_odd)
  k_l_odd : PySem.W.keepIn K (.ref a_l_odd) = true
  a_l_spoilt_sign : Addr
  f_l_spoilt_sign : Fn1 K "_law_spoilt_sign" "_law_spoilt_sign" s_l_spoilt_sign a_l_spoilt_sign ["_law_pot_here", "_law_signs", "_law_kinds"]
  m_l_spoilt_sign : mg "_law_spoilt_sign" = some (.ref a_l_spoilt_sign)
  k_l_spoilt_sign : PySem.W.keepIn K (.ref a_l_spoilt_sign) = true
  a_l_spoilt : Addr
  f_l_spoilt : Fn1 K "_law_spoilt" "_law_spoilt" s_l_spoilt a_l_spoilt ["_law_pot_here", "_law_book_here"]
  m_l_spoilt : mg "_law_spoilt" = some (.ref a_l_spoilt)
  k_l_spoilt : PySem.W.keepIn K (.ref a_l_spoilt) = true
  a_is_listed : Addr
  f_is_listed : Fn1 K "is_listed" "is_listed" s_is_listed a_is_listed ["thing"]
  m_is_listed : mg "is_listed" = some (.ref a_is_listed)
  k_is_listed : PySem.W.keepIn K (.ref a_is_listed) = true
  a_is_name : Addr
  f_is_name : Fn1 K "is_name" "is_name" s_is_name a_is_name ["thing"]
  m_is_name : mg "is_name" = some (.ref a_is_name)
  k_is_name : PySem.W.keepIn K (.ref a_is_name) = true
  a_are_kinds : Addr
  f_are_kinds : Fn1 K "are_kinds" "are_kinds" s_are_kinds a_are_kinds ["thing"]
  m_are_kinds : mg "are_kinds" = some (.ref a_are_kinds)
  k_are_kinds : PySem.W.keepIn K (.ref a_are_kinds) = true
  a_is_sign_name : Addr
  f_is_sign_name : Fn1 K "is_sign_name" "is_sign_name" s_is_sign_name a_is_sign_name ["thing"]
  m_is_sign_name : mg "is_sign_name" = some (.ref a_is_sign_name)
  k_is_sign_name : PySem.W.keepIn K (.ref a_is_sign_name) = true
  a_is_kind : Addr
  f_is_kind : Fn1 K "is_kind" "is_kind" s_is_kind a_is_kind ["kinds", "thing"]
  m_is_kind : mg "is_kind" = some (.ref a_is_kind)
  k_is_kind : PySem.W.keepIn K (.ref a_is_kind) = true
  a_are_places : Addr
  f_are_places : Fn1 K "are_places" "are_places" s_are_places a_are_places ["kinds", "thing"]
  m_are_places : mg "are_places" = some (.ref a_are_places)
  k_are_places : PySem.W.keepIn K (.ref a_are_places) = true
  a_is_tie : Addr
  f_is_tie : Fn1 K "is_tie" "is_tie" s_is_tie a_is_tie ["kinds", "thing"]
  m_is_tie : mg "is_tie" = some (.ref a_is_tie)
  k_is_tie : PySem.W.keepIn K (.ref a_is_tie) = true
  a_is_function : Addr
  f_is_function : Fn1 K "is_function" "is_function" s_is_function a_is_function ["kinds", "thing"]
  m_is_function : mg "is_function" = some (.ref a_is_function)
  k_is_function : PySem.W.keepIn K (.ref a_is_function) = true
  a_are_signs : Addr
  f_are_signs : Fn1 K "are_signs" "are_signs" s_are_signs a_are_signs ["kinds", "ties", "functions"]
  m_are_signs : mg "are_signs" = some (.ref a_are_signs)
  k_are_signs : PySem.W.keepIn K (.ref a_are_signs) = true
  a_Signs_ini : Addr
  f_Signs_ini : Fn1 K "__init__" "Signs.__init__" s_Signs_ini a_Signs_ini ["self", "kinds", "ties", "functions"]
  a_l_just : Addr
  f_l_just : Fn1 K "_law_just" "_law_just" s_l_just a_l_just ["_law_e"]
  m_l_just : mg "_law_just" = some (.ref a_l_just)
  k_l_just : PySem.W.keepIn K (.ref a_l_just) = true
  a_l_told : Addr
  f_l_told : Fn1 K "_law_told" "_law_told" s_l_told a_l_told ["_law_book_here"]
  m_l_told : mg "_law_told" = some (.ref a_l_told)
  k_l_told : PySem.W.keepIn K (.ref a_l_told) = true
  a_law : Addr
  f_law : Fn1 K "law" "law" s_law a_law ["_law_script"]
  m_law : mg "law" = some (.ref a_law)
  k_law : PySem.W.keepIn K (.ref a_law) = true
  c_Signs : Cls K cs.Signs
  m_Signs : mg "Signs" = some (.ref cs.Signs)
  mk_Signs : Mk K cs.Signs a_Signs_ini
  xa_FewError : Addr
  xm_FewError : mg "FewError" = some (.ref xa_FewError)
  xg_FewError : PySem.W.nsIn K mainGlobals "FewError" = some (some (.ref xa_FewError))
  xa_NoNaming : Addr
  xm_NoNaming : mg "NoNaming" = some (.ref xa_NoNaming)
  xg_NoNaming : PySem.W.nsIn K mainGlobals "NoNaming" = some (some (.ref xa_NoNaming))
  xa_NoPart : Addr
  xm_NoPart : mg "NoPart" = some (.ref xa_NoPart)
  xg_NoPart : PySem.W.nsIn K mainGlobals "NoPart" = some (some (.ref xa_NoPart))
  xa_NoRow : Addr
  xm_NoRow : mg "NoRow" = some (.ref xa_NoRow)
  xg_NoRow : PySem.W.nsIn K mainGlobals "NoRow" = some (some (.ref xa_NoRow))
  xa_NoSaying : Addr
  xm_NoSaying : mg "NoSaying" = some (.ref xa_NoSaying)
  xg_NoSaying : PySem.W.nsIn K mainGlobals "NoSaying" = some (some (.ref xa_NoSaying))
  xa_NoSigns : Addr
  xm_NoSigns : mg "NoSigns" = some (.ref xa_NoSigns)
  xg_NoSigns : PySem.W.nsIn K mainGlobals "NoSigns" = some (some (.ref xa_NoSigns))
  xa_NoSize : Addr
  xm_NoSize : mg "NoSize" = some (.ref xa_NoSize)
  xg_NoSize : PySem.W.nsIn K mainGlobals "NoSize" = some (some (.ref xa_NoSize))
  xa_NoText : Addr
  xm_NoText : mg "NoText" = some (.ref xa_NoText)
  xg_NoText : PySem.W.nsIn K mainGlobals "NoText" = some (some (.ref xa_NoText))
  xa_NoWorld : Addr
  xm_NoWorld : mg "NoWorld" = some (.ref xa_NoWorld)
  xg_NoWorld : PySem.W.nsIn K mainGlobals "NoWorld" = some (some (.ref xa_NoWorld))
  xa_TooMany : Addr
  xm_TooMany : mg "TooMany" = some (.ref xa_TooMany)
  xg_TooMany : PySem.W.nsIn K mainGlobals "TooMany" = some (some (.ref xa_TooMany))
  xk_NoSigns : PySem.W.keepIn K (.ref xa_NoSigns) = true
  xi_NoSigns : PySem.W.excIn K xa_NoSigns [.type "ValueError", .type "Exception", .type "BaseException", .type "object"] "ValueError.__new__" = true
  xs_NoSigns : PySem.W.subIn K (.ref xa_NoSigns) (.type "BaseException") = some true
  xt_NoSigns : PySem.W.typeIn K (.ref xa_NoSigns) = some (.type "type")
  ec_NoSigns : ExcC K xa_NoSigns
  xe_NoSigns : PySem.W.exmOne K (.ref xa_NoSigns) (.ref xa_NoSigns) = some true
  kt_NoSigns_FewError : PySem.W.kitOne K (.ref xa_NoSigns) (.ref xa_FewError) = some true
  kt_NoSigns_NoNaming_NoPart_NoRow_NoSaying_NoSize_NoText_NoWorld_TooMany : PySem.W.kitAny K (.ref xa_NoSigns) [.ref xa_NoNaming, .ref xa_NoPart, .ref xa_NoRow, .ref xa_NoSaying, .ref xa_NoSize, .ref xa_NoText, .ref xa_NoWorld, .ref xa_TooMany] = some false
  kt_NoSigns_ValueError : PySem.W.kitOne K (.ref xa_NoSigns) (.type "ValueError") = some true
  na_Signs_own_functions : NoAttr K cs.Signs "own_functions"
  na_Signs_own_kinds : NoAttr K cs.Signs "own_kinds"
  na_Signs_own_ties : NoAttr K cs.Signs "own_ties"
  z_ValueError : mg "ValueError" = none
  z_abs : mg "abs" = none
  z_all : mg "all" = none
  z_divmod : mg "divmod" = none
  z_enumerate : mg "enumerate" = none
  z_int : mg "int" = none
  z_isinstance : mg "isinstance" = none
  z_len : mg "len" = none
  z_list : mg "list" = none
  z_max : mg "max" = none
  z_range : mg "range" = none
  z_repr : mg "repr" = none
  z_set : mg "set" = none
  z_str : mg "str" = none
  z_tuple : mg "tuple" = none
  u_LETTERS : Value
  w_LETTERS : V
  v_LETTERS : mg "LETTERS" = some u_LETTERS
  r_LETTERS : RelV w_LETTERS u_LETTERS
  q_LETTERS : ∀ F, Rep K F w_LETTERS (D.str "abcdefghijklmnopqrstuvwxyz")
  u_MOST_KINDS : Value
  w_MOST_KINDS : V
  v_MOST_KINDS : mg "MOST_KINDS" = some u_MOST_KINDS
  r_MOST_KINDS : RelV w_MOST_KINDS u_MOST_KINDS
  q_MOST_KINDS : ∀ F, Rep K F w_MOST_KINDS (D.int 4)
  u_MOST_LETTERS : Value
  w_MOST_LETTERS : V
  v_MOST_LETTERS : mg "MOST_LETTERS" = some u_MOST_LETTERS
  r_MOST_LETTERS : RelV w_MOST_LETTERS u_MOST_LETTERS
  q_MOST_LETTERS : ∀ F, Rep K F w_MOST_LETTERS (D.int 12)
  u_MOST_PLACES : Value
  w_MOST_PLACES : V
  v_MOST_PLACES : mg "MOST_PLACES" = some u_MOST_PLACES
  r_MOST_PLACES : RelV w_MOST_PLACES u_MOST_PLACES
  q_MOST_PLACES : ∀ F, Rep K F w_MOST_PLACES (D.int 2)
  u_MOST_SIGNS : Value
  w_MOST_SIGNS : V
  v_MOST_SIGNS : mg "MOST_SIGNS" = some u_MOST_SIGNS
  r_MOST_SIGNS : RelV w_MOST_SIGNS u_MOST_SIGNS
  q_MOST_SIGNS : ∀ F, Rep K F w_MOST_SIGNS (D.int 8)
  u_TAKEN : Value
  w_TAKEN : V
  v_TAKEN : mg "TAKEN" = some u_TAKEN
  r_TAKEN : RelV w_TAKEN u_TAKEN
  q_TAKEN : ∀ F, Rep K F w_TAKEN (D.tup [(.str "all"), (.str "some"), (.str "not"), (.str "and"), (.str "or")])
section
variable {P : Program} {w : World} {K : Fr} {mg : Str → Option Value} {base : Heap} {cs : Cs}
theorem sc_l_pot : FnScope ["_law_cell_here"] ["_law_cell_here"] (defScope s_l_pot) := ⟨rfl, rfl, rfl, by decide +kernel, rfl, by decide +kernel, by decide +kernel⟩
theorem ok_l_pot (T : Txt K mg cs) : Cal P w K mg base 1 T.a_l_pot (spF K .own (F_l_pot cs)) := T.f_l_pot.cal sc_l_pot fun cdv A outer s H E hr hgd tk hp =>
  (ps_one (ps_retO (pd_lst (plf_cons (pd_b2 (call_max2 rfl) ok_max2 rfl T.z_max PyProof.Rows.boot_max (PD.bor pd_int) (PD.bor (pd_op op_sub ok_sub (PD.bor (pd_b1 call_abs ok_abs rfl T.z_abs PyProof.Rows.boot_abs (pd_bor rfl (.inl rfl)))) (PD.bor (pd_op op_pow ok_pow (PD.bor pd_int) (PD.bor pd_int)))))) (plf_cons (pd_plus (pd_op op_mod ok_mod (PD.bor (pd_b1 call_abs ok_abs rfl T.z_abs PyProof.Rows.boot_abs (pd_bor rfl (.inl rfl)))) (PD.bor pd_int)) pd_int) (plf_cons pd_int plf_nil))))))
theorem sc_l_draw : FnScope ["_law_pot_here", "_law_many", "_law_digit"] ["_law_pot_here", "_law_many"] (defScope s_l_draw) := ⟨rfl, rfl, rfl, by decide +kernel, rfl, by decide +kernel, by decide +kernel⟩
theorem ok_l_draw (T : Txt K mg cs) : Cal P w K mg base 1 T.a_l_draw (spF K .frz (F_l_draw cs)) := T.f_l_draw.cal sc_l_draw fun cdv A outer s H E hr hgd tk hp =>
  (ps_cons (ps_iff (pb_cmp op_gt ok_gt (PD.bor (pd_cIx rfl (.inl rfl) pd_int)) (PD.bor pd_int) rfl) (ps_cons (ps_div rfl rfl T.z_divmod rfl (.inl rfl) sc_l_draw.nd rfl (.inl rfl) (PD.bor (pd_cIx rfl (.inl rfl) pd_int)) (pd_bor rfl (.inl rfl))) (ps_one (ps_retF (pd_var rfl (.inl rfl))))) ps_nil) (ps_cons (ps_cPut rfl (.inl rfl) (pd_op op_mod ok_mod (PD.bor (pd_plus (pd_op op_mul ok_mul (PD.bor (pd_cIx rfl (.inl rfl) pd_int)) (PD.bor pd_int)) pd_int)) (PD.bor pd_int)) pd_int) (ps_one (ps_retF (pd_op op_mod ok_mod (PD.bor (pd_op op_fdiv ok_div (PD.bor (pd_op op_mod ok_mod (PD.bor (pd_op op_mul ok_mul (PD.bor (pd_cIx rfl (.inl rfl) pd_int)) (PD.bor (pd_cIx rfl (.inl rfl) pd_int)))) (PD.bor pd_int))) (PD.bor pd_int))) (pd_bor rfl (.inl rfl)))))))
theorem sc_l_unlike : FnScope ["_law_pot_here", "_law_many", "_law_menu", "_law_left", "_law_k"] ["_law_pot_here", "_law_many", "_law_menu"] (defScope s_l_unlike) := ⟨rfl, rfl, rfl, by decide +kernel, rfl, by decide +kernel, by decide +kernel⟩
theorem ok_l_unlike (T : Txt K mg cs) : Cal P w K mg base 2 T.a_l_unlike (spF K .own (F_l_unlike cs)) := T.f_l_unlike.cal sc_l_unlike fun cdv A outer s H E hr hgd tk hp =>
  (ps_cons (ps_setO sc_l_unlike.nd rfl (.inr rfl) (pd_t1 call_list_of ok_list rfl T.z_list PyProof.Rows.boot_list (pd_bor rfl (.inl rfl)))) (ps_cel 3 (ps_one (ps_retO (pd_comp (own := [("_law_k", 4)]) rfl sc_l_unlike.nd (pit_range1 rfl T.z_range (pd_bor rfl (.inl rfl))) (blkOk_by rfl) (fun _ _ _ _ _ => (ptg_name sc_l_unlike.nd rfl (.inl rfl))) (fun _ _ _ _ _ => pts_yes) (fun _ _ _ _ _ => (pd_cPop rfl (.inr (.inl rfl)) (pd_call (ok_l_draw T) (hr.mono (by decide)) hgd takes_w0 rfl T.m_l_draw T.k_l_draw (pw_m (pw_f (pd_cLen rfl T.z_len rfl (.inr (.inl rfl))) pw_nil) rfl (.inr (.inl rfl)))))) (fun d us h p hp => tg_sub_n h hp))))))
theorem sc_l_book : FnScope ["_law_pot_here", "_law_most_kinds", "_law_most_signs", "_law_menu", "_law_kinds", "_law_names", "_law_ties", "_law_functions", "_law_name_here", "_law_places", "_law_k"] ["_law_pot_here", "_law_most_kinds", "_law_most_signs"] (defScope s_l_book) := ⟨rfl, rfl, rfl, by decide +kernel, rfl, by decide +kernel, by decide +kernel⟩
theorem ok_l_book (T : Txt K mg cs) : Cal P w K mg base 3 T.a_l_book (spF K .frz (F_l_book cs)) := T.f_l_book.cal sc_l_book fun cdv A outer s H E hr hgd tk hp =>
  (ps_cons (ps_setF sc_l_book.nd rfl (.inl rfl) (PD.fz (pd_lst (plf_cons pd_str (plf_cons pd_str (plf_cons pd_str (plf_cons pd_str (plf_cons pd_str (plf_cons pd_str (plf_cons pd_str (plf_cons pd_str (plf_cons pd_str (plf_cons pd_str (plf_cons pd_str plf_nil)))))))))))))) (ps_cons (ps_setF sc_l_book.nd rfl (.inr rfl) (PD.fz (pd_call (ok_l_unlike T) (hr.mono (by decide)) hgd tk rfl T.m_l_unlike T.k_l_unlike (pw_m (pw_f (pd_plus pd_int (pd_call (ok_l_draw T) (hr.mono (by decide)) hgd tk rfl T.m_l_draw T.k_l_draw (pw_m (pw_f (pd_var rfl (.inl rfl)) pw_nil) rfl (.inr (.inl rfl))))) (pw_f (pd_var rfl (.inl rfl)) pw_nil)) rfl (.inr (.inl rfl)))))) (ps_cons (ps_setF sc_l_book.nd rfl (.inl rfl) (PD.fz (pd_lst (plf_cons pd_str (plf_cons pd_str (plf_cons pd_str (plf_cons pd_str (plf_cons pd_str (plf_cons pd_str (plf_cons pd_str (plf_cons pd_str (plf_cons pd_str (plf_cons pd_str (plf_cons pd_str (plf_cons pd_str (plf_cons pd_str plf_nil)))))))))))))))) (ps_cons (ps_setF sc_l_book.nd rfl (.inl rfl) (PD.fz (pd_call (ok_l_unlike T) (hr.mono (by decide)) hgd tk rfl T.m_l_unlike T.k_l_unlike (pw_m (pw_f (pd_call (ok_l_draw T) (hr.mono (by decide)) hgd tk rfl T.m_l_draw T.k_l_draw (pw_m (pw_f (pd_plus (pd_var rfl (.inl rfl)) pd_int) pw_nil) rfl (.inr (.inl rfl)))) (pw_f (pd_var rfl (.inl rfl)) pw_nil)) rfl (.inr (.inl rfl)))))) (ps_cons (ps_setO sc_l_book.nd rfl (.inl rfl) (pd_lst plf_nil)) (ps_cons (ps_setO sc_l_book.nd rfl (.inl rfl) (pd_lst plf_nil)) (ps_cons (ps_forX hp rfl (pd_var rfl (.inl rfl)) (ptgs_name sc_l_book.nd rfl (.inl rfl)) (ps_cons (ps_setLcO (own := [("_law_k", 10)]) rfl sc_l_book.nd rfl rfl (pit_range1 rfl T.z_range (PD.bor (pd_sub (hu1 hr) (PD.oBor (pd_lst (plf_cons pd_int (plf_cons pd_int (plf_cons pd_int (plf_cons pd_int plf_nil)))))) (PD.bor (pd_call (ok_l_draw T) (hr.mono (by decide)) hgd tk rfl T.m_l_draw T.k_l_draw (pw_m (pw_f pd_int pw_nil) rfl (.inr (.inl rfl)))))))) (blkOk_by rfl) (fun _ _ _ _ _ => (ptg_name sc_l_book.nd rfl (.inl rfl))) (fun _ _ _ _ _ => pts_yes) (fun _ _ _ _ _ => (pd_sub (hu1 hr) (pd_bor rfl (.inr (.inl rfl))) (PD.bor (pd_call (ok_l_draw T) (hr.mono (by decide)) hgd takes_w0 rfl T.m_l_draw T.k_l_draw (pw_m (pw_f (pd_len rfl T.z_len (pd_bor rfl (.inr (.inl rfl)))) pw_nil) rfl (.inr (.inl rfl))))))) (fun d us h p hp => tg_sub_n h hp)) (ps_frz 9 (ps_one (ps_iff (pb_cmp op_lt ok_lt (PD.bor (pd_call (ok_l_draw T) (hr.mono (by decide)) hgd tk rfl T.m_l_draw T.k_l_draw (pw_m (pw_f pd_int pw_nil) rfl (.inr (.inl rfl))))) (PD.bor pd_int) rfl) (ps_one (ps_app rfl (.inl rfl) (PD.fz (pd_tup (plf_cons (pd_var rfl (.inl rfl)) (plf_cons (pd_var rfl (.inl rfl)) plf_nil)))))) (ps_one (ps_app rfl (.inl rfl) (PD.fz (pd_tup (plf_cons (pd_var rfl (.inl rfl)) (plf_cons (pd_var rfl (.inl rfl)) (plf_cons (pd_sub (hu1 hr) (pd_bor rfl (.inr (.inl rfl))) (PD.bor (pd_call (ok_l_draw T) (hr.mono (by decide)) hgd tk rfl T.m_l_draw T.k_l_draw (pw_m (pw_f (pd_len rfl T.z_len (pd_bor rfl (.inr (.inl rfl)))) pw_nil) rfl (.inr (.inl rfl)))))) plf_nil)))))))))))) (ps_frz 6 (ps_frz 7 (ps_one (ps_retF (PD.fz (pd_tup (plf_cons (pd_var rfl (.inr (.inl rfl))) (plf_cons (pd_var rfl (.inl rfl)) (plf_cons (pd_var rfl (.inl rfl)) plf_nil))))))))))))))))
theorem sc_l_cell : FnScope ["_law_script", "_law_k"] ["_law_script", "_law_k"] (defScope s_l_cell) := ⟨rfl, rfl, rfl, by decide +kernel, rfl, by decide +kernel, by decide +kernel⟩
theorem ok_l_cell (T : Txt K mg cs) : Cal P w K mg base 1 T.a_l_cell (spF K .frz (F_l_cell cs)) := T.f_l_cell.cal sc_l_cell fun cdv A outer s H E hr hgd tk hp =>
  (ps_cons (ps_iff (pb_cmp op_lt ok_lt (pd_bor rfl (.inl rfl)) (PD.bor (pd_len rfl T.z_len (pd_bor rfl (.inl rfl)))) rfl) (ps_one (ps_retF (pd_sub (hu1 hr) (pd_bor rfl (.inl rfl)) (pd_bor rfl (.inl rfl))))) ps_nil) (ps_one (ps_retF pd_int)))
theorem sc_l_row : FnScope ["_law_thing"] ["_law_thing"] (defScope s_l_row) := ⟨rfl, rfl, rfl, by decide +kernel, rfl, by decide +kernel, by decide +kernel⟩
theorem ok_l_row (T : Txt K mg cs) : Cal P w K mg base 1 T.a_l_row (spF K .frz (F_l_row cs)) := T.f_l_row.cal sc_l_row fun cdv A outer s H E hr hgd tk hp =>
  (ps_one (ps_retF (pd_isi2 .list .tuple rfl T.z_isinstance (pd_var rfl (.inl rfl)) (pe_bltn rfl T.z_list PyProof.Rows.boot_list rfl) (pe_bltn rfl T.z_tuple PyProof.Rows.boot_tuple rfl))))
theorem sc_l_name : FnScope ["_law_thing", "_law_sign_here"] ["_law_thing"] (defScope s_l_name) := ⟨rfl, rfl, rfl, by decide +kernel, rfl, by decide +kernel, by decide +kernel⟩
theorem ok_l_name (T : Txt K mg cs) : Cal P w K mg base 1 T.a_l_name (spF K .frz (F_l_name cs)) := T.f_l_name.cal sc_l_name fun cdv A outer s H E hr hgd tk hp =>
  (ps_cons (ps_iff (pb_w (pbw_or (pb_not (pb_val (k := .frz) (pd_isi1 .str rfl T.z_isinstance (pd_bor rfl (.inl rfl)) (pe_bltn rfl T.z_str PyProof.Rows.boot_str rfl)))) (pbw_or1 (pb_not (pb_chain op_le op_le CmpOk.of ok_le (PD.bor pd_int) (PD.bor (pd_len rfl T.z_len (pd_bor rfl (.inl rfl)))) (PD.bor pd_int)))))) (ps_one (ps_retF pd_bl)) ps_nil) (ps_one (ps_retF (pd_b1 (cr_all rfl) ok_all rfl T.z_all PyProof.Rows.boot_all (PD.oBor (pd_compX (own := [("_law_sign_here", 1)]) rfl sc_l_name.nd (pd_var rfl (.inl rfl)) (blkOk_by rfl) (fun _ _ _ _ _ => (ptgs_name sc_l_name.nd rfl (.inl rfl))) (fun _ _ _ _ _ => pts_yes) (fun _ _ _ _ _ => (pd_inA (hu1 hr) (pd_bor rfl (.inl rfl)) (PD.bor pd_str))) (fun S d us h p hp => tgs_sub_n h hp)))))))
theorem sc_l_sign : FnScope ["_law_kinds", "_law_thing", "_law_many", "_law_named", "_law_kind"] ["_law_kinds", "_law_thing", "_law_many"] (defScope s_l_sign) := ⟨rfl, rfl, rfl, by decide +kernel, rfl, by decide +kernel, by decide +kernel⟩
theorem ok_l_sign (T : Txt K mg cs) : Cal P w K mg base 2 T.a_l_sign (spF K .frz (F_l_sign cs)) := T.f_l_sign.cal sc_l_sign fun cdv A outer s H E hr hgd tk hp =>
  (ps_cons (ps_iff (pb_w (pbw_or (pb_not (pb_val (k := .frz) (pd_call (ok_l_row T) (hr.mono (by decide)) hgd tk rfl T.m_l_row T.k_l_row (pw_f (pd_var rfl (.inl rfl)) pw_nil)))) (pbw_or (pb_ne (PD.bor (pd_len rfl T.z_len (pd_bor rfl (.inl rfl)))) (pd_bor rfl (.inl rfl)) (hu64 hr)) (pbw_or1 (pb_not (pb_val (k := .frz) (pd_call (ok_l_name T) (hr.mono (by decide)) hgd tk rfl T.m_l_name T.k_l_name (pw_f (pd_sub (hu1 hr) (pd_bor rfl (.inl rfl)) (PD.bor pd_int)) pw_nil)))))))) (ps_one (ps_retF pd_bl)) ps_nil) (ps_cons (ps_iff (pb_w (pbw_or (pb_in (hu1 hr) (PD.bor (pd_sub (hu1 hr) (pd_bor rfl (.inl rfl)) (PD.bor pd_int))) (PD.oBor (pd_tup (plf_cons pd_str (plf_cons pd_str (plf_cons pd_str (plf_cons pd_str (plf_cons pd_str plf_nil)))))))) (pbw_or (pb_not (pb_val (k := .frz) (pd_call (ok_l_row T) (hr.mono (by decide)) hgd tk rfl T.m_l_row T.k_l_row (pw_f (pd_sub (hu1 hr) (pd_bor rfl (.inl rfl)) (PD.bor pd_int)) pw_nil)))) (pbw_or1 (pb_cmp op_gt ok_gt (PD.bor (pd_len rfl T.z_len (PD.bor (pd_sub (hu1 hr) (pd_bor rfl (.inl rfl)) (PD.bor pd_int))))) (PD.bor pd_int) rfl))))) (ps_one (ps_retF pd_bl)) ps_nil) (ps_cons (ps_setF sc_l_sign.nd rfl (.inl rfl) (pd_plus (PD.fz (pd_t1 call_list_of ok_list rfl T.z_list PyProof.Rows.boot_list (PD.bor (pd_sub (hu1 hr) (pd_bor rfl (.inl rfl)) (PD.bor pd_int))))) (PD.fz (pd_t1 call_list_of ok_list rfl T.z_list PyProof.Rows.boot_list (PD.bor (pd_cutF (pd_var rfl (.inl rfl)) (pp_some pd_int) pp_none)))))) (ps_one (ps_retF (pd_b1 (cr_all rfl) ok_all rfl T.z_all PyProof.Rows.boot_all (PD.oBor (pd_compX (own := [("_law_kind", 4)]) rfl sc_l_sign.nd (pd_var rfl (.inl rfl)) (blkOk_by rfl) (fun _ _ _ _ _ => (ptgs_name sc_l_sign.nd rfl (.inl rfl))) (fun _ _ _ _ _ => pts_yes) (fun _ _ _ _ _ => (pd_and (pd_isi1 .str rfl T.z_isinstance (pd_bor rfl (.inl rfl)) (pe_bltn rfl T.z_str PyProof.Rows.boot_str rfl)) (pd_one (pd_inA (hu1 hr) (pd_bor rfl (.inl rfl)) (pd_bor rfl (.inr (.inl rfl))))))) (fun S d us h p hp => tgs_sub_n h hp)))))))))
theorem sc_l_is_book : FnScope ["_law_kinds", "_law_ties", "_law_functions", "_law_kind", "_law_tie", "_law_function", "_law_names", "_law_sign_here", "_law_unlike_here", "_law_k", "_law_name_here"] ["_law_kinds", "_law_ties", "_law_functions"] (defScope s_l_is_book) := ⟨rfl, rfl, rfl, by decide +kernel, rfl, by decide +kernel, by decide +kernel⟩
theorem ok_l_is_book (T : Txt K mg cs) : Cal P w K mg base 3 T.a_l_is_book (spF K .frz (F_l_is_book cs)) := T.f_l_is_book.cal sc_l_is_book fun cdv A outer s H E hr hgd tk hp =>
  (ps_cons (ps_iff (pb_w (pbw_or (pb_not (pb_val (k := .frz) (pd_call (ok_l_row T) (hr.mono (by decide)) hgd tk rfl T.m_l_row T.k_l_row (pw_f (pd_var rfl (.inr (.inl rfl))) pw_nil)))) (pbw_or (pb_not (pb_chain op_le op_le CmpOk.of ok_le (PD.bor pd_int) (PD.bor (pd_len rfl T.z_len (pd_bor rfl (.inr (.inl rfl))))) (PD.bor pd_int))) (pbw_or1 (pb_not (pb_val (k := .frz) (pd_b1 (cr_all rfl) ok_all rfl T.z_all PyProof.Rows.boot_all (PD.oBor (pd_compX (own := [("_law_kind", 3)]) rfl sc_l_is_book.nd (pd_var rfl (.inr (.inl rfl))) (blkOk_by rfl) (fun _ _ _ _ _ => (ptgs_name sc_l_is_book.nd rfl (.inl rfl))) (fun _ _ _ _ _ => pts_yes) (fun _ _ _ _ _ => (pd_call (ok_l_name T) (hr.mono (by decide)) hgd takes_w0 rfl T.m_l_name T.k_l_name (pw_f (pd_var rfl (.inl rfl)) pw_nil))) (fun S d us h p hp => tgs_sub_n h hp)))))))))) (ps_one (ps_retF pd_bl)) ps_nil) (ps_cons (ps_iff (pb_w (pbw_or (pb_not (pb_val (k := .frz) (pd_call (ok_l_row T) (hr.mono (by decide)) hgd tk rfl T.m_l_row T.k_l_row (pw_f (pd_var rfl (.inl rfl)) pw_nil)))) (pbw_or (pb_not (pb_val (k := .frz) (pd_call (ok_l_row T) (hr.mono (by decide)) hgd tk rfl T.m_l_row T.k_l_row (pw_f (pd_var rfl (.inl rfl)) pw_nil)))) (pbw_or1 (pb_cmp op_gt ok_gt (PD.bor (pd_plus (pd_len rfl T.z_len (pd_bor rfl (.inl rfl))) (pd_len rfl T.z_len (pd_bor rfl (.inl rfl))))) (PD.bor pd_int) rfl))))) (ps_one (ps_retF pd_bl)) ps_nil) (ps_cons (ps_iff (pb_not (pb_val (k := .frz) (pd_b1 (cr_all rfl) ok_all rfl T.z_all PyProof.Rows.boot_all (PD.oBor (pd_compX (own := [("_law_tie", 4)]) rfl sc_l_is_book.nd (pd_var rfl (.inl rfl)) (blkOk_by rfl) (fun _ _ _ _ _ => (ptgs_name sc_l_is_book.nd rfl (.inl rfl))) (fun _ _ _ _ _ => pts_yes) (fun _ _ _ _ _ => (pd_call (ok_l_sign T) (hr.mono (by decide)) hgd takes_w0 rfl T.m_l_sign T.k_l_sign (pw_f (pd_var rfl (.inr (.inl rfl))) (pw_f (pd_var rfl (.inl rfl)) (pw_f pd_int pw_nil))))) (fun S d us h p hp => tgs_sub_n h hp)))))) (ps_one (ps_retF pd_bl)) ps_nil) (ps_cons (ps_iff (pb_not (pb_val (k := .frz) (pd_b1 (cr_all rfl) ok_all rfl T.z_all PyProof.Rows.boot_all (PD.oBor (pd_compX (own := [("_law_function", 5)]) rfl sc_l_is_book.nd (pd_var rfl (.inl rfl)) (blkOk_by rfl) (fun _ _ _ _ _ => (ptgs_name sc_l_is_book.nd rfl (.inl rfl))) (fun _ _ _ _ _ => pts_yes) (fun _ _ _ _ _ => (pd_call (ok_l_sign T) (hr.mono (by decide)) hgd takes_w0 rfl T.m_l_sign T.k_l_sign (pw_f (pd_var rfl (.inr (.inl rfl))) (pw_f (pd_var rfl (.inl rfl)) (pw_f pd_int pw_nil))))) (fun S d us h p hp => tgs_sub_n h hp)))))) (ps_one (ps_retF pd_bl)) ps_nil) (ps_cons (ps_setF sc_l_is_book.nd rfl (.inr rfl) (PD.fz (pd_compX (own := [("_law_sign_here", 7)]) rfl sc_l_is_book.nd (pd_plus (PD.fz (pd_t1 call_list_of ok_list rfl T.z_list PyProof.Rows.boot_list (pd_bor rfl (.inl rfl)))) (PD.fz (pd_t1 call_list_of ok_list rfl T.z_list PyProof.Rows.boot_list (pd_bor rfl (.inl rfl))))) (blkOk_by rfl) (fun _ _ _ _ _ => (ptgs_name sc_l_is_book.nd rfl (.inl rfl))) (fun _ _ _ _ _ => pts_yes) (fun _ _ _ _ _ => (pd_sub (hu1 hr) (pd_bor rfl (.inl rfl)) (PD.bor pd_int))) (fun S d us h p hp => tgs_sub_n h hp)))) (ps_cons (ps_setLcO (own := [("_law_k", 9), ("_law_name_here", 10)]) rfl sc_l_is_book.nd rfl rfl (pit_enum rfl T.z_enumerate (pd_var rfl (.inr (.inl rfl)))) (blkOk_by rfl) (fun _ _ _ _ _ => (ptg_tup rfl (pns_cons sc_l_is_book.nd rfl (.inl rfl) (pns_cons sc_l_is_book.nd rfl (.inl rfl) pns_nil)) rfl)) (fun _ _ _ _ _ => (pts_if (pb_nin (hu1 hr) (pd_bor rfl (.inl rfl)) (PD.bor (pd_cutF (pd_var rfl (.inr (.inl rfl))) pp_none (pp_some (pd_var rfl (.inl rfl)))))))) (fun _ _ _ _ _ => (pd_var rfl (.inl rfl))) (fun d us h p hp => tg_sub_t h hp)) (ps_frz 8 (ps_one (ps_retF (pd_and (pd_eq (pd_bor rfl (.inl rfl)) (pd_bor rfl (.inr (.inl rfl))) (hu64 hr)) (pd_one (pd_b1 (cr_all rfl) ok_all rfl T.z_all PyProof.Rows.boot_all (PD.oBor (pd_comp (own := [("_law_k", 9), ("_law_kind", 3)]) rfl sc_l_is_book.nd (pit_enum rfl T.z_enumerate (pd_var rfl (.inr (.inl rfl)))) (blkOk_by rfl) (fun _ _ _ _ _ => (ptg_tup rfl (pns_cons sc_l_is_book.nd rfl (.inl rfl) (pns_cons sc_l_is_book.nd rfl (.inl rfl) pns_nil)) rfl)) (fun _ _ _ _ _ => pts_yes) (fun _ _ _ _ _ => (pd_ninA (hu1 hr) (pd_bor rfl (.inl rfl)) (PD.bor (pd_cutF (pd_var rfl (.inr (.inl rfl))) pp_none (pp_some (pd_var rfl (.inl rfl))))))) (fun d us h p hp => tg_sub_t h hp)))))))))))))))
theorem sc_l_put : FnScope ["_law_pot_here", "_law_rows", "_law_thing", "_law_made"] ["_law_pot_here", "_law_rows", "_law_thing"] (defScope s_l_put) := ⟨rfl, rfl, rfl, by decide +kernel, rfl, by decide +kernel, by decide +kernel⟩
theorem ok_l_put (T : Txt K mg cs) : Cal P w K mg base 2 T.a_l_put (spF K .own (F_l_put cs)) := T.f_l_put.cal sc_l_put fun cdv A outer s H E hr hgd tk hp =>
  (ps_cons (ps_setO sc_l_put.nd rfl (.inl rfl) (pd_t1 call_list_of ok_list rfl T.z_list PyProof.Rows.boot_list (pd_bor rfl (.inl rfl)))) (ps_cons (ps_iff (pb_eq (pd_bor rfl (.inl rfl)) (PD.oBor (pd_lst plf_nil)) (hu64 hr)) (ps_one (ps_retO (pd_lst (plf_cons (pd_var rfl (.inl rfl)) plf_nil)))) ps_nil) (ps_cons (ps_put rfl (.inl rfl) (pd_var rfl (.inl rfl)) (pd_call (ok_l_draw T) (hr.mono (by decide)) hgd tk rfl T.m_l_draw T.k_l_draw (pw_m (pw_f (pd_len rfl T.z_len (pd_bor rfl (.inl rfl))) pw_nil) rfl (.inl rfl)))) (ps_one (ps_retV rfl (.inl rfl))))))
theorem sc_l_list_odd : FnScope ["_law_pot_here", "_law_menu"] ["_law_pot_here"] (defScope s_l_list_odd) := ⟨rfl, rfl, rfl, by decide +kernel, rfl, by decide +kernel, by decide +kernel⟩
theorem ok_l_list_odd (T : Txt K mg cs) : Cal P w K mg base 2 T.a_l_list_odd (spF K .frz (F_l_list_odd cs)) := T.f_l_list_odd.cal sc_l_list_odd fun cdv A outer s H E hr hgd tk hp =>
  (ps_cons (ps_setF sc_l_list_odd.nd rfl (.inl rfl) (PD.fz (pd_lst (plf_cons pd_non (plf_cons pd_int (plf_cons pd_str (plf_cons (PD.fz pd_dnew) (plf_cons (PD.fz pd_disp) (plf_cons pd_bl (plf_cons pd_str (plf_cons (PD.fz (pd_lst (plf_cons (PD.fz (pd_lst plf_nil)) plf_nil))) (plf_cons (PD.fz (pd_lst (plf_cons pd_non plf_nil))) (plf_cons (PD.fz (pd_lst (plf_cons pd_int plf_nil))) (plf_cons (PD.fz (pd_lst (plf_cons pd_str (plf_cons pd_str plf_nil)))) (plf_cons (PD.fz (pd_tup (plf_cons pd_str (plf_cons pd_str (plf_cons pd_str (plf_cons pd_str (plf_cons pd_str plf_nil))))))) (plf_cons (PD.fz (pd_lst plf_nil)) (plf_cons (PD.fz (pd_tup plf_nil)) plf_nil))))))))))))))))) (ps_one (ps_retF (pd_sub (hu1 hr) (pd_bor rfl (.inl rfl)) (PD.bor (pd_call (ok_l_draw T) (hr.mono (by decide)) hgd tk rfl T.m_l_draw T.k_l_draw (pw_m (pw_f (pd_len rfl T.z_len (pd_bor rfl (.inl rfl))) pw_nil) rfl (.inl rfl))))))))
theorem sc_l_odd : FnScope ["_law_pot_here", "_law_menu"] ["_law_pot_here"] (defScope s_l_odd) := ⟨rfl, rfl, rfl, by decide +kernel, rfl, by decide +kernel, by decide +kernel⟩
theorem ok_l_odd (T : Txt K mg cs) : Cal P w K mg base 2 T.a_l_odd (spF K .frz (F_l_odd cs)) := T.f_l_odd.cal sc_l_odd fun cdv A outer s H E hr hgd tk hp =>
  (ps_cons (ps_setF sc_l_odd.nd rfl (.inl rfl) (PD.fz (pd_lst (plf_cons pd_str (plf_cons pd_str (plf_cons pd_str (plf_cons pd_str (plf_cons pd_str (plf_cons pd_str (plf_cons pd_str (plf_cons pd_str (plf_cons pd_str (plf_cons pd_str (plf_cons pd_str (plf_cons pd_str (plf_cons pd_str (plf_cons pd_str (plf_cons pd_str plf_nil)))))))))))))))))) (ps_cons (ps_setF sc_l_odd.nd rfl (.inl rfl) (pd_plus (pd_var rfl (.inl rfl)) (PD.fz (pd_lst (plf_cons pd_int (plf_cons pd_bl (plf_cons pd_non (plf_cons (PD.fz (pd_tup (plf_cons pd_str plf_nil))) (plf_cons (PD.fz (pd_lst (plf_cons pd_str plf_nil))) (plf_cons (PD.fz pd_dnew) (plf_cons pd_str (plf_cons pd_str (plf_cons pd_str plf_nil))))))))))))) (ps_one (ps_retF (pd_sub (hu1 hr) (pd_bor rfl (.inl rfl)) (PD.bor (pd_call (ok_l_draw T) (hr.mono (by decide)) hgd tk rfl T.m_l_draw T.k_l_draw (pw_m (pw_f (pd_len rfl T.z_len (pd_bor rfl (.inl rfl))) pw_nil) rfl (.inl rfl)))))))))
theorem sc_l_spoilt_sign : FnScope ["_law_pot_here", "_law_signs", "_law_kinds", "_law_at", "_law_sign_here", "_law_way", "_law_made"] ["_law_pot_here", "_law_signs", "_law_kinds"] (defScope s_l_spoilt_sign) := ⟨rfl, rfl, rfl, by decide +kernel, rfl, by decide +kernel, by decide +kernel⟩
theorem ok_l_spoilt_sign (T : Txt K mg cs) : Cal P w K mg base 3 T.a_l_spoilt_sign (spF K .own (F_l_spoilt_sign cs)) := T.f_l_spoilt_sign.cal sc_l_spoilt_sign fun cdv A outer s H E hr hgd tk hp =>
  (ps_cons (ps_iff (pb_eq (PD.bor (pd_len rfl T.z_len (pd_bor rfl (.inl rfl)))) (PD.bor pd_int) (hu64 hr)) (ps_one (ps_retO (pd_lst (plf_cons (pd_call (ok_l_odd T) (hr.mono (by decide)) hgd tk rfl T.m_l_odd T.k_l_odd (pw_m pw_nil rfl (.inl rfl))) plf_nil)))) ps_nil) (ps_cons (ps_setF sc_l_spoilt_sign.nd rfl (.inl rfl) (pd_call (ok_l_draw T) (hr.mono (by decide)) hgd tk rfl T.m_l_draw T.k_l_draw (pw_m (pw_f (pd_len rfl T.z_len (pd_bor rfl (.inl rfl))) pw_nil) rfl (.inl rfl)))) (ps_cons (ps_setO sc_l_spoilt_sign.nd rfl (.inl rfl) (pd_t1 call_list_of ok_list rfl T.z_list PyProof.Rows.boot_list (PD.bor (pd_sub (hu1 hr) (pd_bor rfl (.inl rfl)) (pd_bor rfl (.inl rfl)))))) (ps_cons (ps_setF sc_l_spoilt_sign.nd rfl (.inl rfl) (pd_call (ok_l_draw T) (hr.mono (by decide)) hgd tk rfl T.m_l_draw T.k_l_draw (pw_m (pw_f pd_int pw_nil) rfl (.inl rfl)))) (ps_cons (ps_iff (pb_eq (pd_bor rfl (.inl rfl)) (PD.bor pd_int) (hu64 hr)) (ps_one (ps_put rfl (.inl rfl) (pd_call (ok_l_odd T) (hr.mono (by decide)) hgd tk rfl T.m_l_odd T.k_l_odd (pw_m pw_nil rfl (.inl rfl))) pd_int)) (ps_one (ps_iff (pb_eq (pd_bor rfl (.inl rfl)) (PD.bor pd_int) (hu64 hr)) (ps_one (ps_put rfl (.inl rfl) (pd_call (ok_l_list_odd T) (hr.mono (by decide)) hgd tk rfl T.m_l_list_odd T.k_l_list_odd (pw_m pw_nil rfl (.inl rfl))) pd_int)) (ps_one (ps_iff (pb_eq (pd_bor rfl (.inl rfl)) (PD.bor pd_int) (hu64 hr)) (ps_one (ps_put rfl (.inl rfl) (PD.fz (pd_call (ok_l_put T) (hr.mono (by decide)) hgd tk rfl T.m_l_put T.k_l_put (pw_m (pw_f (pd_sub (hu1 hr) (pd_bor rfl (.inl rfl)) (PD.bor pd_int)) (pw_f (pd_call (ok_l_odd T) (hr.mono (by decide)) hgd tk rfl T.m_l_odd T.k_l_odd (pw_m pw_nil rfl (.inl rfl))) pw_nil)) rfl (.inl rfl)))) pd_int)) (ps_one (ps_iff (pb_eq (pd_bor rfl (.inl rfl)) (PD.bor pd_int) (hu64 hr)) (ps_one (ps_put rfl (.inl rfl) (pd_plus (PD.fz (pd_t1 call_list_of ok_list rfl T.z_list PyProof.Rows.boot_list (PD.bor (pd_sub (hu1 hr) (pd_bor rfl (.inl rfl)) (PD.bor pd_int))))) (PD.fz (pd_repL (PD.oBor (pd_lst (plf_cons (pd_sub (hu1 hr) (pd_bor rfl (.inl rfl)) (PD.bor pd_int)) plf_nil))) (PD.bor (pd_plus pd_int (pd_call (ok_l_draw T) (hr.mono (by decide)) hgd tk rfl T.m_l_draw T.k_l_draw (pw_m (pw_f pd_int pw_nil) rfl (.inl rfl)))))))) pd_int)) (ps_one (ps_iff (pb_eq (pd_bor rfl (.inl rfl)) (PD.bor pd_int) (hu64 hr)) (ps_one (ps_app rfl (.inl rfl) (pd_call (ok_l_odd T) (hr.mono (by decide)) hgd tk rfl T.m_l_odd T.k_l_odd (pw_m pw_nil rfl (.inl rfl))))) (ps_one (ps_iff (pb_eq (pd_bor rfl (.inl rfl)) (PD.bor pd_int) (hu64 hr)) (ps_one (ps_pop rfl (.inl rfl))) (ps_one (ps_put rfl (.inl rfl) (pd_call (ok_l_odd T) (hr.mono (by decide)) hgd tk rfl T.m_l_odd T.k_l_odd (pw_m pw_nil rfl (.inl rfl))) (pd_neg (PD.bor pd_int))))))))))))))) (ps_cons (ps_setO sc_l_spoilt_sign.nd rfl (.inl rfl) (pd_t1 call_list_of ok_list rfl T.z_list PyProof.Rows.boot_list (pd_bor rfl (.inl rfl)))) (ps_frz 4 (ps_cons (ps_put rfl (.inl rfl) (pd_sub (hu1 hr) (PD.oBor (pd_lst (plf_cons (pd_t1F call_tuple_of ok_tuple rfl T.z_tuple PyProof.Rows.boot_tuple (pd_var rfl (.inl rfl))) (plf_cons (pd_var rfl (.inl rfl)) (plf_cons (pd_call (ok_l_list_odd T) (hr.mono (by decide)) hgd tk rfl T.m_l_list_odd T.k_l_list_odd (pw_m pw_nil rfl (.inl rfl))) plf_nil))))) (PD.bor (pd_call (ok_l_draw T) (hr.mono (by decide)) hgd tk rfl T.m_l_draw T.k_l_draw (pw_m (pw_f pd_int pw_nil) rfl (.inl rfl))))) (pd_var rfl (.inl rfl))) (ps_one (ps_retV rfl (.inl rfl)))))))))))
theorem sc_l_spoilt : FnScope ["_law_pot_here", "_law_book_here", "_law_kinds", "_law_ties", "_law_functions", "_law_way", "_law_tie", "_law_more", "_law_k"] ["_law_pot_here", "_law_book_here"] (defScope s_l_spoilt) := ⟨rfl, rfl, rfl, by decide +kernel, rfl, by decide +kernel, by decide +kernel⟩
theorem ok_l_spoilt (T : Txt K mg cs) : Cal P w K mg base 4 T.a_l_spoilt (spF K .frz (F_l_spoilt cs)) := T.f_l_spoilt.cal sc_l_spoilt fun cdv A outer s H E hr hgd tk hp =>
  (ps_cons (ps_tupS (pd_var rfl (.inl rfl)) (ptg_tup rfl (pns_cons sc_l_spoilt.nd rfl (.inr rfl) (pns_cons sc_l_spoilt.nd rfl (.inl rfl) (pns_cons sc_l_spoilt.nd rfl (.inl rfl) pns_nil))) rfl)) (ps_cons (ps_setF sc_l_spoilt.nd rfl (.inl rfl) (pd_call (ok_l_draw T) (hr.mono (by decide)) hgd tk rfl T.m_l_draw T.k_l_draw (pw_m (pw_f pd_int pw_nil) rfl (.inl rfl)))) (ps_cons (ps_iff (pb_eq (pd_bor rfl (.inl rfl)) (PD.bor pd_int) (hu64 hr)) (ps_one (ps_retF (PD.fz (pd_tup (plf_cons (PD.fz (pd_call (ok_l_put T) (hr.mono (by decide)) hgd tk rfl T.m_l_put T.k_l_put (pw_m (pw_f (pd_var rfl (.inr (.inl rfl))) (pw_f (pd_call (ok_l_odd T) (hr.mono (by decide)) hgd tk rfl T.m_l_odd T.k_l_odd (pw_m pw_nil rfl (.inl rfl))) pw_nil)) rfl (.inl rfl)))) (plf_cons (pd_var rfl (.inl rfl)) (plf_cons (pd_var rfl (.inl rfl)) plf_nil))))))) ps_nil) (ps_cons (ps_iff (pb_eq (pd_bor rfl (.inl rfl)) (PD.bor pd_int) (hu64 hr)) (ps_one (ps_retF (PD.fz (pd_tup (plf_cons (pd_plus (PD.fz (pd_t1 call_list_of ok_list rfl T.z_list PyProof.Rows.boot_list (pd_bor rfl (.inr (.inl rfl))))) (pd_cutF (PD.fz (pd_lst (plf_cons pd_str (plf_cons pd_str (plf_cons pd_str plf_nil))))) pp_none (pp_some (pd_plus pd_int (pd_call (ok_l_draw T) (hr.mono (by decide)) hgd tk rfl T.m_l_draw T.k_l_draw (pw_m (pw_f pd_int pw_nil) rfl (.inl rfl))))))) (plf_cons (pd_var rfl (.inl rfl)) (plf_cons (pd_var rfl (.inl rfl)) plf_nil))))))) ps_nil) (ps_cons (ps_iff (pb_eq (pd_bor rfl (.inl rfl)) (PD.bor pd_int) (hu64 hr)) (ps_one (ps_retF (PD.fz (pd_tup (plf_cons (pd_plus (PD.fz (pd_t1 call_list_of ok_list rfl T.z_list PyProof.Rows.boot_list (pd_bor rfl (.inr (.inl rfl))))) (PD.fz (pd_lst (plf_cons (pd_sub (hu1 hr) (pd_bor rfl (.inr (.inl rfl))) (PD.bor (pd_call (ok_l_draw T) (hr.mono (by decide)) hgd tk rfl T.m_l_draw T.k_l_draw (pw_m (pw_f (pd_len rfl T.z_len (pd_bor rfl (.inr (.inl rfl)))) pw_nil) rfl (.inl rfl))))) plf_nil)))) (plf_cons (pd_var rfl (.inl rfl)) (plf_cons (pd_var rfl (.inl rfl)) plf_nil))))))) ps_nil) (ps_cons (ps_iff (pb_eq (pd_bor rfl (.inl rfl)) (PD.bor pd_int) (hu64 hr)) (ps_one (ps_retF (pd_sub (hu1 hr) (PD.oBor (pd_lst (plf_cons (PD.fz (pd_tup (plf_cons (pd_call (ok_l_list_odd T) (hr.mono (by decide)) hgd tk rfl T.m_l_list_odd T.k_l_list_odd (pw_m pw_nil rfl (.inl rfl))) (plf_cons (pd_var rfl (.inl rfl)) (plf_cons (pd_var rfl (.inl rfl)) plf_nil))))) (plf_cons (PD.fz (pd_tup (plf_cons (pd_var rfl (.inr (.inl rfl))) (plf_cons (pd_call (ok_l_list_odd T) (hr.mono (by decide)) hgd tk rfl T.m_l_list_odd T.k_l_list_odd (pw_m pw_nil rfl (.inl rfl))) (plf_cons (pd_var rfl (.inl rfl)) plf_nil))))) plf_nil)))) (PD.bor (pd_call (ok_l_draw T) (hr.mono (by decide)) hgd tk rfl T.m_l_draw T.k_l_draw (pw_m (pw_f pd_int pw_nil) rfl (.inl rfl))))))) ps_nil) (ps_cons (ps_iff (pb_eq (pd_bor rfl (.inl rfl)) (PD.bor pd_int) (hu64 hr)) (ps_one (ps_retF (PD.fz (pd_tup (plf_cons (pd_var rfl (.inr (.inl rfl))) (plf_cons (pd_var rfl (.inl rfl)) (plf_cons (pd_call (ok_l_list_odd T) (hr.mono (by decide)) hgd tk rfl T.m_l_list_odd T.k_l_list_odd (pw_m pw_nil rfl (.inl rfl))) plf_nil))))))) ps_nil) (ps_cons (ps_iff (pb_eq (pd_bor rfl (.inl rfl)) (PD.bor pd_int) (hu64 hr)) (ps_one (ps_retF (PD.fz (pd_tup (plf_cons (pd_var rfl (.inr (.inl rfl))) (plf_cons (PD.fz (pd_call (ok_l_spoilt_sign T) (hr.mono (by decide)) hgd tk rfl T.m_l_spoilt_sign T.k_l_spoilt_sign (pw_m (pw_f (pd_var rfl (.inl rfl)) (pw_f (pd_var rfl (.inr (.inl rfl))) pw_nil)) rfl (.inl rfl)))) (plf_cons (pd_var rfl (.inl rfl)) plf_nil))))))) ps_nil) (ps_cons (ps_iff (pb_eq (pd_bor rfl (.inl rfl)) (PD.bor pd_int) (hu64 hr)) (ps_one (ps_retF (PD.fz (pd_tup (plf_cons (pd_var rfl (.inr (.inl rfl))) (plf_cons (pd_var rfl (.inl rfl)) (plf_cons (PD.fz (pd_call (ok_l_spoilt_sign T) (hr.mono (by decide)) hgd tk rfl T.m_l_spoilt_sign T.k_l_spoilt_sign (pw_m (pw_f (pd_var rfl (.inl rfl)) (pw_f (pd_var rfl (.inr (.inl rfl))) pw_nil)) rfl (.inl rfl)))) plf_nil))))))) ps_nil) (ps_cons (ps_iff (pb_eq (pd_bor rfl (.inl rfl)) (PD.bor pd_int) (hu64 hr)) (ps_one (ps_retF (PD.fz (pd_tup (plf_cons (pd_var rfl (.inr (.inl rfl))) (plf_cons (pd_var rfl (.inl rfl)) (plf_cons (pd_plus (PD.fz (pd_t1 call_list_of ok_list rfl T.z_list PyProof.Rows.boot_list (pd_bor rfl (.inl rfl)))) (PD.fz (pd_compX (own := [("_law_tie", 6)]) rfl sc_l_spoilt.nd (pd_cutF (pd_var rfl (.inl rfl)) pp_none (pp_some pd_int)) (blkOk_by rfl) (fun _ _ _ _ _ => (ptgs_name sc_l_spoilt.nd rfl (.inl rfl))) (fun _ _ _ _ _ => pts_yes) (fun _ _ _ _ _ => (PD.fz (pd_tup (plf_cons (pd_sub (hu1 hr) (pd_bor rfl (.inl rfl)) (PD.bor pd_int)) (plf_cons (pd_sub (hu1 hr) (pd_bor rfl (.inl rfl)) (PD.bor pd_int)) (plf_cons (pd_sub (hu1 hr) (pd_bor rfl (.inr (.inl rfl))) (PD.bor pd_int)) plf_nil)))))) (fun S d us h p hp => tgs_sub_n h hp)))) plf_nil))))))) ps_nil) (ps_cons (ps_setLcO (own := [("_law_k", 8)]) rfl sc_l_spoilt.nd rfl rfl (pit_range1 rfl T.z_range (PD.bor (pd_call (ok_l_draw T) (hr.mono (by decide)) hgd tk rfl T.m_l_draw T.k_l_draw (pw_m (pw_f pd_int pw_nil) rfl (.inl rfl))))) (blkOk_by rfl) (fun _ _ _ _ _ => (ptg_name sc_l_spoilt.nd rfl (.inl rfl))) (fun _ _ _ _ _ => pts_yes) (fun _ _ _ _ _ => (PD.fz (pd_tup (plf_cons (pd_plus pd_str (pd_sub (hu1 hr) (PD.bor pd_str) (pd_bor rfl (.inl rfl)))) (plf_cons (PD.fz (pd_lst plf_nil)) plf_nil))))) (fun d us h p hp => tg_sub_n h hp)) (ps_frz 7 (ps_one (ps_retF (PD.fz (pd_tup (plf_cons (pd_var rfl (.inr (.inl rfl))) (plf_cons (pd_plus (PD.fz (pd_t1 call_list_of ok_list rfl T.z_list PyProof.Rows.boot_list (pd_bor rfl (.inl rfl)))) (pd_var rfl (.inl rfl))) (plf_cons (pd_var rfl (.inl rfl)) plf_nil)))))))))))))))))))
theorem sc_is_listed : FnScope ["thing"] ["thing"] (defScope s_is_listed) := ⟨rfl, rfl, rfl, by decide +kernel, rfl, by decide +kernel, by decide +kernel⟩
theorem ok_is_listed (T : Txt K mg cs) : Cal P w K mg base 1 T.a_is_listed (spF K .frz (F_is_listed cs)) := T.f_is_listed.cal sc_is_listed fun cdv A outer s H E hr hgd tk hp =>
  (ps_one (ps_retF (pd_isi2 .list .tuple rfl T.z_isinstance (pd_var rfl (.inl rfl)) (pe_bltn rfl T.z_list PyProof.Rows.boot_list rfl) (pe_bltn rfl T.z_tuple PyProof.Rows.boot_tuple rfl))))
theorem sc_is_name : FnScope ["thing", "sign"] ["thing"] (defScope s_is_name) := ⟨rfl, rfl, rfl, by decide +kernel, rfl, by decide +kernel, by decide +kernel⟩
theorem ok_is_name (T : Txt K mg cs) : Cal P w K mg base 1 T.a_is_name (spF K .frz (F_is_name cs)) := T.f_is_name.cal sc_is_name fun cdv A outer s H E hr hgd tk hp =>
  (ps_cons (ps_iff (pb_w (pbw_or (pb_not (pb_val (k := .frz) (pd_isi1 .str rfl T.z_isinstance (pd_bor rfl (.inl rfl)) (pe_bltn rfl T.z_str PyProof.Rows.boot_str rfl)))) (pbw_or (pb_eq (pd_bor rfl (.inl rfl)) (PD.bor pd_str) (hu64 hr)) (pbw_or1 (pb_cmp op_gt ok_gt (PD.bor (pd_len rfl T.z_len (pd_bor rfl (.inl rfl)))) (PD.bor (pd_glob rfl T.v_MOST_LETTERS T.r_MOST_LETTERS T.q_MOST_LETTERS)) rfl))))) (ps_one (ps_retF pd_bl)) ps_nil) (ps_one (ps_retF (pd_b1 (cr_all rfl) ok_all rfl T.z_all PyProof.Rows.boot_all (PD.oBor (pd_compX (own := [("sign", 1)]) rfl sc_is_name.nd (pd_var rfl (.inl rfl)) (blkOk_by rfl) (fun _ _ _ _ _ => (ptgs_name sc_is_name.nd rfl (.inl rfl))) (fun _ _ _ _ _ => pts_yes) (fun _ _ _ _ _ => (pd_inA (hu1 hr) (pd_bor rfl (.inl rfl)) (PD.bor (pd_glob rfl T.v_LETTERS T.r_LETTERS T.q_LETTERS)))) (fun S d us h p hp => tgs_sub_n h hp)))))))
theorem sc_are_kinds : FnScope ["thing", "kind"] ["thing"] (defScope s_are_kinds) := ⟨rfl, rfl, rfl, by decide +kernel, rfl, by decide +kernel, by decide +kernel⟩
theorem ok_are_kinds (T : Txt K mg cs) : Cal P w K mg base 2 T.a_are_kinds (spF K .frz (F_are_kinds cs)) := T.f_are_kinds.cal sc_are_kinds fun cdv A outer s H E hr hgd tk hp =>
  (ps_cons (ps_iff (pb_w (pbw_or (pb_not (pb_val (k := .frz) (pd_call (ok_is_listed T) (hr.mono (by decide)) hgd tk rfl T.m_is_listed T.k_is_listed (pw_f (pd_var rfl (.inl rfl)) pw_nil)))) (pbw_or (pb_cmp op_lt ok_lt (PD.bor (pd_len rfl T.z_len (pd_bor rfl (.inl rfl)))) (PD.bor pd_int) rfl) (pbw_or1 (pb_cmp op_gt ok_gt (PD.bor (pd_len rfl T.z_len (pd_bor rfl (.inl rfl)))) (PD.bor (pd_glob rfl T.v_MOST_KINDS T.r_MOST_KINDS T.q_MOST_KINDS)) rfl))))) (ps_one (ps_retF pd_bl)) ps_nil) (ps_one (ps_retF (pd_and (pd_b1 (cr_all rfl) ok_all rfl T.z_all PyProof.Rows.boot_all (PD.oBor (pd_compX (own := [("kind", 1)]) rfl sc_are_kinds.nd (pd_var rfl (.inl rfl)) (blkOk_by rfl) (fun _ _ _ _ _ => (ptgs_name sc_are_kinds.nd rfl (.inl rfl))) (fun _ _ _ _ _ => pts_yes) (fun _ _ _ _ _ => (pd_call (ok_is_name T) (hr.mono (by decide)) hgd takes_w0 rfl T.m_is_name T.k_is_name (pw_f (pd_var rfl (.inl rfl)) pw_nil))) (fun S d us h p hp => tgs_sub_n h hp)))) (pd_one (pd_eq (PD.bor (pd_lenK rfl rfl T.z_len rfl T.z_set (pd_bor rfl (.inl rfl)))) (PD.bor (pd_len rfl T.z_len (pd_bor rfl (.inl rfl)))) (hu64 hr)))))))
theorem sc_is_sign_name : FnScope ["thing"] ["thing"] (defScope s_is_sign_name) := ⟨rfl, rfl, rfl, by decide +kernel, rfl, by decide +kernel, by decide +kernel⟩
theorem ok_is_sign_name (T : Txt K mg cs) : Cal P w K mg base 2 T.a_is_sign_name (spF K .frz (F_is_sign_name cs)) := T.f_is_sign_name.cal sc_is_sign_name fun cdv A outer s H E hr hgd tk hp =>
  (ps_one (ps_retF (pd_and (pd_call (ok_is_name T) (hr.mono (by decide)) hgd tk rfl T.m_is_name T.k_is_name (pw_f (pd_var rfl (.inl rfl)) pw_nil)) (pd_one (pd_ninA (hu1 hr) (pd_bor rfl (.inl rfl)) (PD.bor (pd_glob rfl T.v_TAKEN T.r_TAKEN T.q_TAKEN)))))))
theorem sc_is_kind : FnScope ["kinds", "thing"] ["kinds", "thing"] (defScope s_is_kind) := ⟨rfl, rfl, rfl, by decide +kernel, rfl, by decide +kernel, by decide +kernel⟩
theorem ok_is_kind (T : Txt K mg cs) : Cal P w K mg base 1 T.a_is_kind (spF K .frz (F_is_kind cs)) := T.f_is_kind.cal sc_is_kind fun cdv A outer s H E hr hgd tk hp =>
  (ps_one (ps_retF (pd_and (pd_isi1 .str rfl T.z_isinstance (pd_bor rfl (.inl rfl)) (pe_bltn rfl T.z_str PyProof.Rows.boot_str rfl)) (pd_one (pd_inA (hu1 hr) (pd_bor rfl (.inl rfl)) (pd_bor rfl (.inl rfl)))))))
theorem sc_are_places : FnScope ["kinds", "thing", "kind"] ["kinds", "thing"] (defScope s_are_places) := ⟨rfl, rfl, rfl, by decide +kernel, rfl, by decide +kernel, by decide +kernel⟩
theorem ok_are_places (T : Txt K mg cs) : Cal P w K mg base 2 T.a_are_places (spF K .frz (F_are_places cs)) := T.f_are_places.cal sc_are_places fun cdv A outer s H E hr hgd tk hp =>
  (ps_cons (ps_iff (pb_w (pbw_or (pb_not (pb_val (k := .frz) (pd_call (ok_is_listed T) (hr.mono (by decide)) hgd tk rfl T.m_is_listed T.k_is_listed (pw_f (pd_var rfl (.inl rfl)) pw_nil)))) (pbw_or1 (pb_cmp op_gt ok_gt (PD.bor (pd_len rfl T.z_len (pd_bor rfl (.inl rfl)))) (PD.bor (pd_glob rfl T.v_MOST_PLACES T.r_MOST_PLACES T.q_MOST_PLACES)) rfl)))) (ps_one (ps_retF pd_bl)) ps_nil) (ps_one (ps_retF (pd_b1 (cr_all rfl) ok_all rfl T.z_all PyProof.Rows.boot_all (PD.oBor (pd_compX (own := [("kind", 2)]) rfl sc_are_places.nd (pd_var rfl (.inl rfl)) (blkOk_by rfl) (fun _ _ _ _ _ => (ptgs_name sc_are_places.nd rfl (.inl rfl))) (fun _ _ _ _ _ => pts_yes) (fun _ _ _ _ _ => (pd_call (ok_is_kind T) (hr.mono (by decide)) hgd takes_w0 rfl T.m_is_kind T.k_is_kind (pw_f (pd_var rfl (.inr (.inl rfl))) (pw_f (pd_var rfl (.inl rfl)) pw_nil)))) (fun S d us h p hp => tgs_sub_n h hp)))))))
theorem sc_is_tie : FnScope ["kinds", "thing"] ["kinds", "thing"] (defScope s_is_tie) := ⟨rfl, rfl, rfl, by decide +kernel, rfl, by decide +kernel, by decide +kernel⟩
theorem ok_is_tie (T : Txt K mg cs) : Cal P w K mg base 3 T.a_is_tie (spF K .frz (F_is_tie cs)) := T.f_is_tie.cal sc_is_tie fun cdv A outer s H E hr hgd tk hp =>
  (ps_cons (ps_iff (pb_w (pbw_or (pb_not (pb_val (k := .frz) (pd_call (ok_is_listed T) (hr.mono (by decide)) hgd tk rfl T.m_is_listed T.k_is_listed (pw_f (pd_var rfl (.inl rfl)) pw_nil)))) (pbw_or1 (pb_ne (PD.bor (pd_len rfl T.z_len (pd_bor rfl (.inl rfl)))) (PD.bor pd_int) (hu64 hr))))) (ps_one (ps_retF pd_bl)) ps_nil) (ps_one (ps_retF (pd_and (pd_call (ok_is_sign_name T) (hr.mono (by decide)) hgd tk rfl T.m_is_sign_name T.k_is_sign_name (pw_f (pd_sub (hu1 hr) (pd_bor rfl (.inl rfl)) (PD.bor pd_int)) pw_nil)) (pd_one (pd_call (ok_are_places T) (hr.mono (by decide)) hgd tk rfl T.m_are_places T.k_are_places (pw_f (pd_var rfl (.inl rfl)) (pw_f (pd_sub (hu1 hr) (pd_bor rfl (.inl rfl)) (PD.bor pd_int)) pw_nil))))))))
theorem sc_is_function : FnScope ["kinds", "thing"] ["kinds", "thing"] (defScope s_is_function) := ⟨rfl, rfl, rfl, by decide +kernel, rfl, by decide +kernel, by decide +kernel⟩
theorem ok_is_function (T : Txt K mg cs) : Cal P w K mg base 3 T.a_is_function (spF K .frz (F_is_function cs)) := T.f_is_function.cal sc_is_function fun cdv A outer s H E hr hgd tk hp =>
  (ps_cons (ps_iff (pb_w (pbw_or (pb_not (pb_val (k := .frz) (pd_call (ok_is_listed T) (hr.mono (by decide)) hgd tk rfl T.m_is_listed T.k_is_listed (pw_f (pd_var rfl (.inl rfl)) pw_nil)))) (pbw_or1 (pb_ne (PD.bor (pd_len rfl T.z_len (pd_bor rfl (.inl rfl)))) (PD.bor pd_int) (hu64 hr))))) (ps_one (ps_retF pd_bl)) ps_nil) (ps_one (ps_retF (pd_and (pd_call (ok_is_sign_name T) (hr.mono (by decide)) hgd tk rfl T.m_is_sign_name T.k_is_sign_name (pw_f (pd_sub (hu1 hr) (pd_bor rfl (.inl rfl)) (PD.bor pd_int)) pw_nil)) (pd_and (pd_call (ok_are_places T) (hr.mono (by decide)) hgd tk rfl T.m_are_places T.k_are_places (pw_f (pd_var rfl (.inl rfl)) (pw_f (pd_sub (hu1 hr) (pd_bor rfl (.inl rfl)) (PD.bor pd_int)) pw_nil))) (pd_one (pd_call (ok_is_kind T) (hr.mono (by decide)) hgd tk rfl T.m_is_kind T.k_is_kind (pw_f (pd_var rfl (.inl rfl)) (pw_f (pd_sub (hu1 hr) (pd_bor rfl (.inl rfl)) (PD.bor pd_int)) pw_nil)))))))))
theorem sc_are_signs : FnScope ["kinds", "ties", "functions", "tie", "function", "names", "sign"] ["kinds", "ties", "functions"] (defScope s_are_signs) := ⟨rfl, rfl, rfl, by decide +kernel, rfl, by decide +kernel, by decide +kernel⟩
theorem ok_are_signs (T : Txt K mg cs) : Cal P w K mg base 4 T.a_are_signs (spF K .frz (F_are_signs cs)) := T.f_are_signs.cal sc_are_signs fun cdv A outer s H E hr hgd tk hp =>
  (ps_cons (ps_iff (pb_w (pbw_or (pb_not (pb_val (k := .frz) (pd_call (ok_is_listed T) (hr.mono (by decide)) hgd tk rfl T.m_is_listed T.k_is_listed (pw_f (pd_var rfl (.inl rfl)) pw_nil)))) (pbw_or (pb_not (pb_val (k := .frz) (pd_call (ok_is_listed T) (hr.mono (by decide)) hgd tk rfl T.m_is_listed T.k_is_listed (pw_f (pd_var rfl (.inl rfl)) pw_nil)))) (pbw_or1 (pb_cmp op_gt ok_gt (PD.bor (pd_plus (pd_len rfl T.z_len (pd_bor rfl (.inl rfl))) (pd_len rfl T.z_len (pd_bor rfl (.inl rfl))))) (PD.bor (pd_glob rfl T.v_MOST_SIGNS T.r_MOST_SIGNS T.q_MOST_SIGNS)) rfl))))) (ps_one (ps_retF pd_bl)) ps_nil) (ps_cons (ps_iff (pb_not (pb_val (k := .frz) (pd_b1 (cr_all rfl) ok_all rfl T.z_all PyProof.Rows.boot_all (PD.oBor (pd_compX (own := [("tie", 3)]) rfl sc_are_signs.nd (pd_var rfl (.inl rfl)) (blkOk_by rfl) (fun _ _ _ _ _ => (ptgs_name sc_are_signs.nd rfl (.inl rfl))) (fun _ _ _ _ _ => pts_yes) (fun _ _ _ _ _ => (pd_call (ok_is_tie T) (hr.mono (by decide)) hgd takes_w0 rfl T.m_is_tie T.k_is_tie (pw_f (pd_var rfl (.inr (.inl rfl))) (pw_f (pd_var rfl (.inl rfl)) pw_nil)))) (fun S d us h p hp => tgs_sub_n h hp)))))) (ps_one (ps_retF pd_bl)) ps_nil) (ps_cons (ps_iff (pb_not (pb_val (k := .frz) (pd_b1 (cr_all rfl) ok_all rfl T.z_all PyProof.Rows.boot_all (PD.oBor (pd_compX (own := [("function", 4)]) rfl sc_are_signs.nd (pd_var rfl (.inl rfl)) (blkOk_by rfl) (fun _ _ _ _ _ => (ptgs_name sc_are_signs.nd rfl (.inl rfl))) (fun _ _ _ _ _ => pts_yes) (fun _ _ _ _ _ => (pd_call (ok_is_function T) (hr.mono (by decide)) hgd takes_w0 rfl T.m_is_function T.k_is_function (pw_f (pd_var rfl (.inr (.inl rfl))) (pw_f (pd_var rfl (.inl rfl)) pw_nil)))) (fun S d us h p hp => tgs_sub_n h hp)))))) (ps_one (ps_retF pd_bl)) ps_nil) (ps_cons (ps_setF sc_are_signs.nd rfl (.inl rfl) (pd_plus (PD.fz (pd_compX (own := [("sign", 6)]) rfl sc_are_signs.nd (pd_var rfl (.inl rfl)) (blkOk_by rfl) (fun _ _ _ _ _ => (ptgs_name sc_are_signs.nd rfl (.inl rfl))) (fun _ _ _ _ _ => pts_yes) (fun _ _ _ _ _ => (pd_sub (hu1 hr) (pd_bor rfl (.inl rfl)) (PD.bor pd_int))) (fun S d us h p hp => tgs_sub_n h hp))) (PD.fz (pd_compX (own := [("sign", 6)]) rfl sc_are_signs.nd (pd_var rfl (.inl rfl)) (blkOk_by rfl) (fun _ _ _ _ _ => (ptgs_name sc_are_signs.nd rfl (.inl rfl))) (fun _ _ _ _ _ => pts_yes) (fun _ _ _ _ _ => (pd_sub (hu1 hr) (pd_bor rfl (.inl rfl)) (PD.bor pd_int))) (fun S d us h p hp => tgs_sub_n h hp))))) (ps_one (ps_retF (pd_eq (PD.bor (pd_lenK rfl rfl T.z_len rfl T.z_set (pd_bor rfl (.inl rfl)))) (PD.bor (pd_len rfl T.z_len (pd_bor rfl (.inl rfl)))) (hu64 hr))))))))
theorem sc_Signs_ini : FnScope ["self", "kinds", "ties", "functions", "name", "places", "kind"] ["self", "kinds", "ties", "functions"] (defScope s_Signs_ini) := ⟨rfl, rfl, rfl, by decide +kernel, rfl, by decide +kernel, by decide +kernel⟩
theorem ok_Signs_ini (T : Txt K mg cs) : Cal P w K mg base 5 T.a_Signs_ini (spI K cs.Signs (F_Signs_ini cs)) := T.f_Signs_ini.ini sc_Signs_ini fun cdv A outer s H E hr hgd tk hp =>
  (ps_cons (ps_iff (pb_w (pbw_or (pb_not (pb_val (k := .frz) (pd_call (ok_are_kinds T) (hr.mono (by decide)) hgd tk rfl T.m_are_kinds T.k_are_kinds (pw_f (pd_var rfl (.inl rfl)) pw_nil)))) (pbw_or1 (pb_not (pb_val (k := .frz) (pd_call (ok_are_signs T) (hr.mono (by decide)) hgd tk rfl T.m_are_signs T.k_are_signs (pw_f (pd_var rfl (.inl rfl)) (pw_f (pd_var rfl (.inl rfl)) (pw_f (pd_var rfl (.inl rfl)) pw_nil))))))))) (ps_one (ps_raiseC rfl tk PySem.F.excBase_ValueError T.xi_NoSigns T.xm_NoSigns T.xk_NoSigns (raises_own T.xs_NoSigns T.xt_NoSigns) rfl T.xg_NoSigns)) ps_nil) (ps_cons (ps_cFld rfl (.inl rfl) (PD.fz (pd_t1 call_list_of ok_list rfl T.z_list PyProof.Rows.boot_list (pd_bor rfl (.inl rfl)))) T.c_Signs T.na_Signs_own_kinds) (ps_cons (ps_cFld rfl (.inl rfl) (PD.fz (pd_compX (own := [("name", 4), ("places", 5)]) rfl sc_Signs_ini.nd (pd_var rfl (.inl rfl)) (blkOk_by rfl) (fun _ _ _ _ _ => (ptgs_tup rfl (pns_cons sc_Signs_ini.nd rfl (.inl rfl) (pns_cons sc_Signs_ini.nd rfl (.inl rfl) pns_nil)) rfl)) (fun _ _ _ _ _ => pts_yes) (fun _ _ _ _ _ => (PD.fz (pd_tup (plf_cons (pd_var rfl (.inl rfl)) (plf_cons (pd_t1F call_tuple_of ok_tuple rfl T.z_tuple PyProof.Rows.boot_tuple (pd_var rfl (.inl rfl))) plf_nil))))) (fun S d us h p hp => tgs_sub_t h hp))) T.c_Signs T.na_Signs_own_ties) (ps_one (ps_cFld rfl (.inl rfl) (PD.fz (pd_compX (own := [("name", 4), ("places", 5), ("kind", 6)]) rfl sc_Signs_ini.nd (pd_var rfl (.inl rfl)) (blkOk_by rfl) (fun _ _ _ _ _ => (ptgs_tup rfl (pns_cons sc_Signs_ini.nd rfl (.inl rfl) (pns_cons sc_Signs_ini.nd rfl (.inl rfl) (pns_cons sc_Signs_ini.nd rfl (.inl rfl) pns_nil))) rfl)) (fun _ _ _ _ _ => pts_yes) (fun _ _ _ _ _ => (PD.fz (pd_tup (plf_cons (pd_var rfl (.inl rfl)) (plf_cons (pd_t1F call_tuple_of ok_tuple rfl T.z_tuple PyProof.Rows.boot_tuple (pd_var rfl (.inl rfl))) (plf_cons (pd_var rfl (.inl rfl)) plf_nil)))))) (fun S d us h p hp => tgs_sub_t h hp))) T.c_Signs T.na_Signs_own_functions)))))
theorem sc_l_just : FnScope ["_law_e"] ["_law_e"] (defScope s_l_just) := ⟨rfl, rfl, rfl, by decide +kernel, rfl, by decide +kernel, by decide +kernel⟩
theorem okx_l_just_NoSigns (T : Txt K mg cs) {a : Addr} {oe : Obj} (hz : Zc (.ref T.xa_NoSigns) none oe) (hf : ∃ vs, oe.data = .fields vs) : CalX P w K mg base 1 (a, oe) T.a_l_just (spF K .frz (F_l_just_NoSigns cs a)) := T.f_l_just.calx sc_l_just fun cdv A outer s H E hr hgd tk hp =>
  (ps_cons (ps_iff (pb_w (pbw_or (pb_not (pb_val (k := .frz) (pd_isx1 (List.mem_cons_self ..) T.ec_NoSigns hz hf rfl T.z_isinstance rfl (.inl rfl) (pe_bltn (v := .ty "ValueError") rfl T.z_ValueError bootX_ValueError rfl) (.ty _) T.kt_NoSigns_ValueError))) (pbw_or1 (pb_not (pb_val (k := .frz) (pd_isx1 (List.mem_cons_self ..) T.ec_NoSigns hz hf rfl T.z_isinstance rfl (.inl rfl) (pe_glob (v := .ref T.xa_FewError) rfl T.xm_FewError rfl) (.own _) T.kt_NoSigns_FewError)))))) (ps_one (ps_retF pd_bl)) ps_nil) (ps_one (ps_retF (pd_not (pd_isxT (List.mem_cons_self ..) T.ec_NoSigns hz hf rfl T.z_isinstance rfl (.inl rfl) (pcs_cons (pe_glob (v := .ref T.xa_NoNaming) rfl T.xm_NoNaming rfl) (pcs_cons (pe_glob (v := .ref T.xa_NoPart) rfl T.xm_NoPart rfl) (pcs_cons (pe_glob (v := .ref T.xa_NoRow) rfl T.xm_NoRow rfl) (pcs_cons (pe_glob (v := .ref T.xa_NoSaying) rfl T.xm_NoSaying rfl) (pcs_cons (pe_glob (v := .ref T.xa_NoSize) rfl T.xm_NoSize rfl) (pcs_cons (pe_glob (v := .ref T.xa_NoText) rfl T.xm_NoText rfl) (pcs_cons (pe_glob (v := .ref T.xa_NoWorld) rfl T.xm_NoWorld rfl) (pcs_cons (pe_glob (v := .ref T.xa_TooMany) rfl T.xm_TooMany rfl) pcs_nil)))))))) (.cons (.own _) (.cons (.own _) (.cons (.own _) (.cons (.own _) (.cons (.own _) (.cons (.own _) (.cons (.own _) (.cons (.own _) .nil)))))))) (by simp) T.kt_NoSigns_NoNaming_NoPart_NoRow_NoSaying_NoSize_NoText_NoWorld_TooMany)))))
theorem sc_l_told : FnScope ["_law_book_here", "_law_told_here", "_law_e"] ["_law_book_here"] (defScope s_l_told) := ⟨rfl, rfl, rfl, by decide +kernel, rfl, by decide +kernel, by decide +kernel⟩
theorem ok_l_told (T : Txt K mg cs) : Cal P w K mg base 7 T.a_l_told (spF K .frz (F_l_told cs)) := T.f_l_told.cal sc_l_told fun cdv A outer s H E hr hgd tk hp =>
  (ps_cons (ps_setF sc_l_told.nd rfl (.inl rfl) pd_int) (ps_cons (ps_tryS rfl rfl sc_l_told.nd rfl rfl ⟨rfl, by decide, .inl T.xm_NoSigns⟩ tk (fun W2 pn xe tk hp => (ps_one (ps_drop (PD.fz (pd_make T.mk_Signs (ok_Signs_ini T) (hr.mono (by decide)) hgd tk rfl T.m_Signs (pw_f (pd_sub (hu1 hr) (pd_bor rfl (.inl rfl)) (PD.bor pd_int)) (pw_f (pd_sub (hu1 hr) (pd_bor rfl (.inl rfl)) (PD.bor pd_int)) (pw_f (pd_sub (hu1 hr) (pd_bor rfl (.inl rfl)) (PD.bor pd_int)) pw_nil)))))))) (cat1_ok T.xg_NoSigns T.xe_NoSigns) (fun a oe C d pn x hc hx hz hv h1 h2 => suite1 T.xg_NoSigns hc hx hz h1 fun hz => (ps_one (ps_setF sc_l_told.nd rfl (.inl rfl) (pd_if (pb_val (k := .frz) (pd_callX (okx_l_just_NoSigns T hz hv) (roomH_mk (hr.mono (by decide))) hgd (List.mem_cons_self ..) takes_w0 rfl T.m_l_just T.k_l_just (pw_x pw_nil rfl (.inl rfl)))) pd_int pd_int))))) (ps_one (ps_retF (pd_var rfl (.inl rfl))))))
theorem sc_law : FnScope ["_law_script", "_law_number", "_law_pot_here", "_law_book_here", "_law_k", "_law_before"] ["_law_script"] (defScope s_law) := ⟨rfl, rfl, rfl, by decide +kernel, rfl, by decide +kernel, by decide +kernel⟩
theorem ok_law (T : Txt K mg cs) : Cal P w K mg base 8 T.a_law (spF K .frz (F_law cs)) := T.f_law.cal sc_law fun cdv A outer s H E hr hgd tk hp =>
  (ps_cons (ps_forX hp rfl (pd_plus (PD.fz (pd_lst (plf_cons (pd_call (ok_l_cell T) (hr.mono (by decide)) hgd tk rfl T.m_l_cell T.k_l_cell (pw_f (pd_var rfl (.inl rfl)) (pw_f pd_int pw_nil))) plf_nil))) (pd_cutF (pd_var rfl (.inl rfl)) (pp_some pd_int) (pp_some pd_int))) (ptgs_name sc_law.nd rfl (.inl rfl)) (ps_cons (ps_setO sc_law.nd rfl (.inl rfl) (pd_call (ok_l_pot T) (hr.mono (by decide)) hgd tk rfl T.m_l_pot T.k_l_pot (pw_f (pd_var rfl (.inl rfl)) pw_nil))) (ps_cel 2 (ps_cons (ps_setF sc_law.nd rfl (.inl rfl) (pd_call (ok_l_book T) (hr.mono (by decide)) hgd tk rfl T.m_l_book T.k_l_book (pw_m (pw_f pd_int (pw_f pd_int pw_nil)) rfl (.inl rfl)))) (ps_cons (ps_forS hp rfl (pit_range1 rfl T.z_range (PD.bor (pd_call (ok_l_draw T) (hr.mono (by decide)) hgd tk rfl T.m_l_draw T.k_l_draw (pw_m (pw_f pd_int pw_nil) rfl (.inl rfl))))) (ptg_name sc_law.nd rfl (.inl rfl)) (ps_one (ps_iff (pb_val (k := .frz) (pd_call (ok_l_is_book T) (hr.mono (by decide)) hgd tk rfl T.m_l_is_book T.k_l_is_book (pw_f (pd_sub (hu1 hr) (pd_bor rfl (.inl rfl)) (PD.bor pd_int)) (pw_f (pd_sub (hu1 hr) (pd_bor rfl (.inl rfl)) (PD.bor pd_int)) (pw_f (pd_sub (hu1 hr) (pd_bor rfl (.inl rfl)) (PD.bor pd_int)) pw_nil))))) (ps_one (ps_setF sc_law.nd rfl (.inl rfl) (pd_call (ok_l_spoilt T) (hr.mono (by decide)) hgd tk rfl T.m_l_spoilt T.k_l_spoilt (pw_m (pw_f (pd_var rfl (.inl rfl)) pw_nil) rfl (.inl rfl))))) ps_nil))) (ps_cons (ps_setF sc_law.nd rfl (.inl rfl) (pd_reprQ hgd (hu66 hr) rfl T.z_repr (pd_var rfl (.inl rfl)))) (ps_one (ps_iff (pb_w (pbw_or (pb_ne (PD.bor (pd_call (ok_l_told T) (hr.mono (by decide)) hgd tk rfl T.m_l_told T.k_l_told (pw_f (pd_var rfl (.inl rfl)) pw_nil))) (PD.bor (pd_t1 call_int1 ok_int rfl T.z_int PyProof.Rows.boot_int (PD.bor (pd_call (ok_l_is_book T) (hr.mono (by decide)) hgd tk rfl T.m_l_is_book T.k_l_is_book (pw_f (pd_sub (hu1 hr) (pd_bor rfl (.inl rfl)) (PD.bor pd_int)) (pw_f (pd_sub (hu1 hr) (pd_bor rfl (.inl rfl)) (PD.bor pd_int)) (pw_f (pd_sub (hu1 hr) (pd_bor rfl (.inl rfl)) (PD.bor pd_int)) pw_nil))))))) (hu64 hr)) (pbw_or1 (pb_ne (PD.bor (pd_reprQ hgd (hu66 hr) rfl T.z_repr (pd_var rfl (.inl rfl)))) (pd_bor rfl (.inl rfl)) (hu64 hr))))) (ps_one (ps_retF pd_bl)) ps_nil)))))))) (ps_one (ps_retF pd_bl)))
end
/-- the facts, out of the written part -/
def mkT {K : Fr} {h : Heap} {mg : Str → Option Value} (X : K.In h) (G : h.Ns mainGlobals mg)
    {C_Signs : Addr}
    {f_l_pot : Addr} {od_l_pot an_l_pot : Option Addr} {sl_l_pot : Array (Option Value)} {oc_l_pot kV_l_pot dc_l_pot pm_l_pot cd_l_pot ct_l_pot : Value}
    {f_l_draw : Addr} {od_l_draw an_l_draw : Option Addr} {sl_l_draw : Array (Option Value)} {oc_l_draw kV_l_draw dc_l_draw pm_l_draw cd_l_draw ct_l_draw : Value}
    {f_l_unlike : Addr} {od_l_unlike an_l_unlike : Option Addr} {sl_l_unlike : Array (Option Value)} {oc_l_unlike kV_l_unlike dc_l_unlike pm_l_unlike cd_l_unlike ct_l_unlike : Value}
    {f_l_book : Addr} {od_l_book an_l_book : Option Addr} {sl_l_book : Array (Option Value)} {oc_l_book kV_l_book dc_l_book pm_l_book cd_l_book ct_l_book : Value}
    {f_l_cell : Addr} {od_l_cell an_l_cell : Option Addr} {sl_l_cell : Array (Option Value)} {oc_l_cell kV_l_cell dc_l_cell pm_l_cell cd_l_cell ct_l_cell : Value}
    {f_l_row : Addr} {od_l_row an_l_row : Option Addr} {sl_l_row : Array (Option Value)} {oc_l_row kV_l_row dc_l_row pm_l_row cd_l_row ct_l_row : Value}
    {f_l_name : Addr} {od_l_name an_l_name : Option Addr} {sl_l_name : Array (Option Value)} {oc_l_name kV_l_name dc_l_name pm_l_name cd_l_name ct_l_name : Value}
    {f_l_sign : Addr} {od_l_sign an_l_sign : Option Addr} {sl_l_sign : Array (Option Value)} {oc_l_sign kV_l_sign dc_l_sign pm_l_sign cd_l_sign ct_l_sign : Value}
    {f_l_is_book : Addr} {od_l_is_book an_l_is_book : Option Addr} {sl_l_is_book : Array (Option Value)} {oc_l_is_book kV_l_is_book dc_l_is_book pm_l_is_book cd_l_is_book ct_l_is_book : Value}
    {f_l_put : Addr} {od_l_put an_l_put : Option Addr} {sl_l_put : Array (Option Value)} {oc_l_put kV_l_put dc_l_put pm_l_put cd_l_put ct_l_put : Value}
    {f_l_list_odd : Addr} {od_l_list_odd an_l_list_odd : Option Addr} {sl_l_list_odd : Array (Option Value)} {oc_l_list_odd kV_l_list_odd dc_l_list_odd pm_l_list_odd cd_l_list_odd ct_l_list_odd : Value}
    {f_l_odd : Addr} {od_l_odd an_l_odd : Option Addr} {sl_l_odd : Array (Option Value)} {oc_l_odd kV_l_odd dc_l_odd pm_l_odd cd_l_odd ct_l_odd : Value}
    {f_l_spoilt_sign : Addr} {od_l_spoilt_sign an_l_spoilt_sign : Option Addr} {sl_l_spoilt_sign : Array (Option Value)} {oc_l_spoilt_sign kV_l_spoilt_sign dc_l_spoilt_sign pm_l_spoilt_sign cd_l_spoilt_sign ct_l_spoilt_sign : Value}
    {f_l_spoilt : Addr} {od_l_spoilt an_l_spoilt : Option Addr} {sl_l_spoilt : Array (Option Value)} {oc_l_spoilt kV_l_spoilt dc_l_spoilt pm_l_spoilt cd_l_spoilt ct_l_spoilt : Value}
    {f_is_listed : Addr} {od_is_listed an_is_listed : Option Addr} {sl_is_listed : Array (Option Value)} {oc_is_listed kV_is_listed dc_is_listed pm_is_listed cd_is_listed ct_is_listed : Value}
    {f_is_name : Addr} {od_is_name an_is_name : Option Addr} {sl_is_name : Array (Option Value)} {oc_is_name kV_is_name dc_is_name pm_is_name cd_is_name ct_is_name : Value}
    {f_are_kinds : Addr} {od_are_kinds an_are_kinds : Option Addr} {sl_are_kinds : Array (Option Value)} {oc_are_kinds kV_are_kinds dc_are_kinds pm_are_kinds cd_are_kinds ct_are_kinds : Value}
    {f_is_sign_name : Addr} {od_is_sign_name an_is_sign_name : Option Addr} {sl_is_sign_name : Array (Option Value)} {oc_is_sign_name kV_is_sign_name dc_is_sign_name pm_is_sign_name cd_is_sign_name ct_is_sign_name : Value}
    {f_is_kind : Addr} {od_is_kind an_is_kind : Option Addr} {sl_is_kind : Array (Option Value)} {oc_is_kind kV_is_kind dc_is_kind pm_is_kind cd_is_kind ct_is_kind : Value}
    {f_are_places : Addr} {od_are_places an_are_places : Option Addr} {sl_are_places : Array (Option Value)} {oc_are_places kV_are_places dc_are_places pm_are_places cd_are_places ct_are_places : Value}
    {f_is_tie : Addr} {od_is_tie an_is_tie : Option Addr} {sl_is_tie : Array (Option Value)} {oc_is_tie kV_is_tie dc_is_tie pm_is_tie cd_is_tie ct_is_tie : Value}
    {f_is_function : Addr} {od_is_function an_is_function : Option Addr} {sl_is_function : Array (Option Value)} {oc_is_function kV_is_function dc_is_function pm_is_function cd_is_function ct_is_function : Value}
    {f_are_signs : Addr} {od_are_signs an_are_signs : Option Addr} {sl_are_signs : Array (Option Value)} {oc_are_signs kV_are_signs dc_are_signs pm_are_signs cd_are_signs ct_are_signs : Value}
    {f_Signs_ini : Addr} {od_Signs_ini an_Signs_ini : Option Addr} {sl_Signs_ini : Array (Option Value)} {oc_Signs_ini kV_Signs_ini dc_Signs_ini pm_Signs_ini cd_Signs_ini ct_Signs_ini : Value}
    {f_l_just : Addr} {od_l_just an_l_just : Option Addr} {sl_l_just : Array (Option Value)} {oc_l_just kV_l_just dc_l_just pm_l_just cd_l_just ct_l_just : Value}
    {f_l_told : Addr} {od_l_told an_l_told : Option Addr} {sl_l_told : Array (Option Value)} {oc_l_told kV_l_told dc_l_told pm_l_told cd_l_told ct_l_told : Value}
    {f_law : Addr} {od_law an_law : Option Addr} {sl_law : Array (Option Value)} {oc_law kV_law dc_law pm_law cd_law ct_law : Value}
    {XC_FewError : Addr}
    {XC_NoNaming : Addr}
    {XC_NoPart : Addr}
    {XC_NoRow : Addr}
    {XC_NoSaying : Addr}
    {XC_NoSigns : Addr}
    {XC_NoSize : Addr}
    {XC_NoText : Addr}
    {XC_NoWorld : Addr}
    {XC_TooMany : Addr}
    {tk_LETTERS : Tok}
    {tk_MOST_KINDS : Tok}
    {tk_MOST_LETTERS : Tok}
    {tk_MOST_PLACES : Tok}
    {tk_MOST_SIGNS : Tok}
    {at_TAKEN : Addr} {dd_TAKEN : Option Addr} {nn_TAKEN : Nat} {sl_TAKEN : Array (Option Value)} {tk_TAKEN0 tk_TAKEN1 tk_TAKEN2 tk_TAKEN3 tk_TAKEN4 : Tok}
    (aC_Signs : PySem.W.nsIn K mainGlobals "Signs" = some (some (.ref C_Signs)))
    (a_l_pot : PySem.W.nsIn K mainGlobals "_law_pot" = some (some (.ref f_l_pot)))
    (l_l_pot : K.lookup f_l_pot = some ⟨oc_l_pot, od_l_pot, .func (PySem.W.fnOf "_law_pot" "_law_pot" (defArgs s_l_pot) (defBody s_l_pot) (defScope s_l_pot) .none kV_l_pot dc_l_pot pm_l_pot an_l_pot cd_l_pot ct_l_pot), sl_l_pot⟩)
    (c_l_pot : PySem.W.codeIn K cd_l_pot "_law_pot" = true)
    (k_l_pot : PySem.W.keepIn K (.ref f_l_pot) = true)
    (a_l_draw : PySem.W.nsIn K mainGlobals "_law_draw" = some (some (.ref f_l_draw)))
    (l_l_draw : K.lookup f_l_draw = some ⟨oc_l_draw, od_l_draw, .func (PySem.W.fnOf "_law_draw" "_law_draw" (defArgs s_l_draw) (defBody s_l_draw) (defScope s_l_draw) .none kV_l_draw dc_l_draw pm_l_draw an_l_draw cd_l_draw ct_l_draw), sl_l_draw⟩)
    (c_l_draw : PySem.W.codeIn K cd_l_draw "_law_draw" = true)
    (k_l_draw : PySem.W.keepIn K (.ref f_l_draw) = true)
    (a_l_unlike : PySem.W.nsIn K mainGlobals "_law_unlike" = some (some (.ref f_l_unlike)))
    (l_l_unlike : K.lookup f_l_unlike = some ⟨oc_l_unlike, od_l_unlike, .func (PySem.W.fnOf "_law_unlike" "_law_unlike" (defArgs s_l_unlike) (defBody s_l_unlike) (defScope s_l_unlike) .none kV_l_unlike dc_l_unlike pm_l_unlike an_l_unlike cd_l_unlike ct_l_unlike), sl_l_unlike⟩)
    (c_l_unlike : PySem.W.codeIn K cd_l_unlike "_law_unlike" = true)
    (k_l_unlike : PySem.W.keepIn K (.ref f_l_unlike) = true)
    (a_l_book : PySem.W.nsIn K mainGlobals "_law_book" = some (some (.ref f_l_book)))
    (l_l_book : K.lookup f_l_book = some ⟨oc_l_book, od_l_book, .func (PySem.W.fnOf "_law_book" "_law_book" (defArgs s_l_book) (defBody s_l_book) (defScope s_l_book) .none kV_l_book dc_l_book pm_l_book an_l_book cd_l_book ct_l_book), sl_l_book⟩)
    (c_l_book : PySem.W.codeIn K cd_l_book "_law_book" = true)
    (k_l_book : PySem.W.keepIn K (.ref f_l_book) = true)
    (a_l_cell : PySem.W.nsIn K mainGlobals "_law_cell" = some (some (.ref f_l_cell)))
    (l_l_cell : K.lookup f_l_cell = some ⟨oc_l_cell, od_l_cell, .func (PySem.W.fnOf "_law_cell" "_law_cell" (defArgs s_l_cell) (defBody s_l_cell) (defScope s_l_cell) .none kV_l_cell dc_l_cell pm_l_cell an_l_cell cd_l_cell ct_l_cell), sl_l_cell⟩)
    (c_l_cell : PySem.W.codeIn K cd_l_cell "_law_cell" = true)
    (k_l_cell : PySem.W.keepIn K (.ref f_l_cell) = true)
    (a_l_row : PySem.W.nsIn K mainGlobals "_law_row" = some (some (.ref f_l_row)))
    (l_l_row : K.lookup f_l_row = some ⟨oc_l_row, od_l_row, .func (PySem.W.fnOf "_law_row" "_law_row" (defArgs s_l_row) (defBody s_l_row) (defScope s_l_row) .none kV_l_row dc_l_row pm_l_row an_l_row cd_l_row ct_l_row), sl_l_row⟩)
    (c_l_row : PySem.W.codeIn K cd_l_row "_law_row" = true)
    (k_l_row : PySem.W.keepIn K (.ref f_l_row) = true)
    (a_l_name : PySem.W.nsIn K mainGlobals "_law_name" = some (some (.ref f_l_name)))
    (l_l_name : K.lookup f_l_name = some ⟨oc_l_name, od_l_name, .func (PySem.W.fnOf "_law_name" "_law_name" (defArgs s_l_name) (defBody s_l_name) (defScope s_l_name) .none kV_l_name dc_l_name pm_l_name an_l_name cd_l_name ct_l_name), sl_l_name⟩)
    (c_l_name : PySem.W.codeIn K cd_l_name "_law_name" = true)
    (k_l_name : PySem.W.keepIn K (.ref f_l_name) = true)
    (a_l_sign : PySem.W.nsIn K mainGlobals "_law_sign" = some (some (.ref f_l_sign)))
    (l_l_sign : K.lookup f_l_sign = some ⟨oc_l_sign, od_l_sign, .func (PySem.W.fnOf "_law_sign" "_law_sign" (defArgs s_l_sign) (defBody s_l_sign) (defScope s_l_sign) .none kV_l_sign dc_l_sign pm_l_sign an_l_sign cd_l_sign ct_l_sign), sl_l_sign⟩)
    (c_l_sign : PySem.W.codeIn K cd_l_sign "_law_sign" = true)
    (k_l_sign : PySem.W.keepIn K (.ref f_l_sign) = true)
    (a_l_is_book : PySem.W.nsIn K mainGlobals "_law_is_book" = some (some (.ref f_l_is_book)))
    (l_l_is_book : K.lookup f_l_is_book = some ⟨oc_l_is_book, od_l_is_book, .func (PySem.W.fnOf "_law_is_book" "_law_is_book" (defArgs s_l_is_book) (defBody s_l_is_book) (defScope s_l_is_book) .none kV_l_is_book dc_l_is_book pm_l_is_book an_l_is_book cd_l_is_book ct_l_is_book), sl_l_is_book⟩)
    (c_l_is_book : PySem.W.codeIn K cd_l_is_book "_law_is_book" = true)
    (k_l_is_book : PySem.W.keepIn K (.ref f_l_is_book) = true)
    (a_l_put : PySem.W.nsIn K mainGlobals "_law_put" = some (some (.ref f_l_put)))
    (l_l_put : K.lookup f_l_put = some ⟨oc_l_put, od_l_put, .func (PySem.W.fnOf "_law_put" "_law_put" (defArgs s_l_put) (defBody s_l_put) (defScope s_l_put) .none kV_l_put dc_l_put pm_l_put an_l_put cd_l_put ct_l_put), sl_l_put⟩)
    (c_l_put : PySem.W.codeIn K cd_l_put "_law_put" = true)
    (k_l_put : PySem.W.keepIn K (.ref f_l_put) = true)
    (a_l_list_odd : PySem.W.nsIn K mainGlobals "_law_list_odd" = some (some (.ref f_l_list_odd)))
    (l_l_list_odd : K.lookup f_l_list_odd = some ⟨oc_l_list_odd, od_l_list_odd, .func (PySem.W.fnOf "_law_list_odd" "_law_list_odd" (defArgs s_l_list_odd) (defBody s_l_list_odd) (defScope s_l_list_odd) .none kV_l_list_odd dc_l_list_odd pm_l_list_odd an_l_list_odd cd_l_list_odd ct_l_list_odd), sl_l_list_odd⟩)
    (c_l_list_odd : PySem.W.codeIn K cd_l_list_odd "_law_list_odd" = true)
    (k_l_list_odd : PySem.W.keepIn K (.ref f_l_list_odd) = true)
    (a_l_odd : PySem.W.nsIn K mainGlobals "_law_odd" = some (some (.ref f_l_odd)))
    (l_l_odd : K.lookup f_l_odd = some ⟨oc_l_odd, od_l_odd, .func (PySem.W.fnOf "_law_odd" "_law_odd" (defArgs s_l_odd) (defBody s_l_odd) (defScope s_l_odd) .none kV_l_odd dc_l_odd pm_l_odd an_l_odd cd_l_odd ct_l_odd), sl_l_odd⟩)
    (c_l_odd : PySem.W.codeIn K cd_l_odd "_law_odd" = true)
    (k_l_odd : PySem.W.keepIn K (.ref f_l_odd) = true)
    (a_l_spoilt_sign : PySem.W.nsIn K mainGlobals "_law_spoilt_sign" = some (some (.ref f_l_spoilt_sign)))
    (l_l_spoilt_sign : K.lookup f_l_spoilt_sign = some ⟨oc_l_spoilt_sign, od_l_spoilt_sign, .func (PySem.W.fnOf "_law_spoilt_sign" "_law_spoilt_sign" (defArgs s_l_spoilt_sign) (defBody s_l_spoilt_sign) (defScope s_l_spoilt_sign) .none kV_l_spoilt_sign dc_l_spoilt_sign pm_l_spoilt_sign an_l_spoilt_sign cd_l_spoilt_sign ct_l_spoilt_sign), sl_l_spoilt_sign⟩)
    (c_l_spoilt_sign : PySem.W.codeIn K cd_l_spoilt_sign "_law_spoilt_sign" = true)
    (k_l_spoilt_sign : PySem.W.keepIn K (.ref f_l_spoilt_sign) = true)
    (a_l_spoilt : PySem.W.nsIn K mainGlobals "_law_spoilt" = some (some (.ref f_l_spoilt)))
    (l_l_spoilt : K.lookup f_l_spoilt = some ⟨oc_l_spoilt, od_l_spoilt, .func (PySem.W.fnOf "_law_spoilt" "_law_spoilt" (defArgs s_l_spoilt) (defBody s_l_spoilt) (defScope s_l_spoilt) .none kV_l_spoilt dc_l_spoilt pm_l_spoilt an_l_spoilt cd_l_spoilt ct_l_spoilt), sl_l_spoilt⟩)
    (c_l_spoilt : PySem.W.codeIn K cd_l_spoilt "_law_spoilt" = true)
    (k_l_spoilt : PySem.W.keepIn K (.ref f_l_spoilt) = true)
    (a_is_listed : PySem.W.nsIn K mainGlobals "is_listed" = some (some (.ref f_is_listed)))
    (l_is_listed : K.lookup f_is_listed = some ⟨oc_is_listed, od_is_listed, .func (PySem.W.fnOf "is_listed" "is_listed" (defArgs s_is_listed) (defBody s_is_listed) (defScope s_is_listed) .none kV_is_listed dc_is_listed pm_is_listed an_is_listed cd_is_listed ct_is_listed), sl_is_listed⟩)
    (c_is_listed : PySem.W.codeIn K cd_is_listed "is_listed" = true)
    (k_is_listed : PySem.W.keepIn K (.ref f_is_listed) = true)
    (a_is_name : PySem.W.nsIn K mainGlobals "is_name" = some (some (.ref f_is_name)))
    (l_is_name : K.lookup f_is_name = some ⟨oc_is_name, od_is_name, .func (PySem.W.fnOf "is_name" "is_name" (defArgs s_is_name) (defBody s_is_name) (defScope s_is_name) .none kV_is_name dc_is_name pm_is_name an_is_name cd_is_name ct_is_name), sl_is_name⟩)
    (c_is_name : PySem.W.codeIn K cd_is_name "is_name" = true)
    (k_is_name : PySem.W.keepIn K (.ref f_is_name) = true)
    (a_are_kinds : PySem.W.nsIn K mainGlobals "are_kinds" = some (some (.ref f_are_kinds)))
    (l_are_kinds : K.lookup f_are_kinds = some ⟨oc_are_kinds, od_are_kinds, .func (PySem.W.fnOf "are_kinds" "are_kinds" (defArgs s_are_kinds) (defBody s_are_kinds) (defScope s_are_kinds) .none kV_are_kinds dc_are_kinds pm_are_kinds an_are_kinds cd_are_kinds ct_are_kinds), sl_are_kinds⟩)
    (c_are_kinds : PySem.W.codeIn K cd_are_kinds "are_kinds" = true)
    (k_are_kinds : PySem.W.keepIn K (.ref f_are_kinds) = true)
    (a_is_sign_name : PySem.W.nsIn K mainGlobals "is_sign_name" = some (some (.ref f_is_sign_name)))
    (l_is_sign_name : K.lookup f_is_sign_name = some ⟨oc_is_sign_name, od_is_sign_name, .func (PySem.W.fnOf "is_sign_name" "is_sign_name" (defArgs s_is_sign_name) (defBody s_is_sign_name) (defScope s_is_sign_name) .none kV_is_sign_name dc_is_sign_name pm_is_sign_name an_is_sign_name cd_is_sign_name ct_is_sign_name), sl_is_sign_name⟩)
    (c_is_sign_name : PySem.W.codeIn K cd_is_sign_name "is_sign_name" = true)
    (k_is_sign_name : PySem.W.keepIn K (.ref f_is_sign_name) = true)
    (a_is_kind : PySem.W.nsIn K mainGlobals "is_kind" = some (some (.ref f_is_kind)))
    (l_is_kind : K.lookup f_is_kind = some ⟨oc_is_kind, od_is_kind, .func (PySem.W.fnOf "is_kind" "is_kind" (defArgs s_is_kind) (defBody s_is_kind) (defScope s_is_kind) .none kV_is_kind dc_is_kind pm_is_kind an_is_kind cd_is_kind ct_is_kind), sl_is_kind⟩)
    (c_is_kind : PySem.W.codeIn K cd_is_kind "is_kind" = true)
    (k_is_kind : PySem.W.keepIn K (.ref f_is_kind) = true)
    (a_are_places : PySem.W.nsIn K mainGlobals "are_places" = some (some (.ref f_are_places)))
    (l_are_places : K.lookup f_are_places = some ⟨oc_are_places, od_are_places, .func (PySem.W.fnOf "are_places" "are_places" (defArgs s_are_places) (defBody s_are_places) (defScope s_are_places) .none kV_are_places dc_are_places pm_are_places an_are_places cd_are_places ct_are_places), sl_are_places⟩)
    (c_are_places : PySem.W.codeIn K cd_are_places "are_places" = true)
    (k_are_places : PySem.W.keepIn K (.ref f_are_places) = true)
    (a_is_tie : PySem.W.nsIn K mainGlobals "is_tie" = some (some (.ref f_is_tie)))
    (l_is_tie : K.lookup f_is_tie = some ⟨oc_is_tie, od_is_tie, .func (PySem.W.fnOf "is_tie" "is_tie" (defArgs s_is_tie) (defBody s_is_tie) (defScope s_is_tie) .none kV_is_tie dc_is_tie pm_is_tie an_is_tie cd_is_tie ct_is_tie), sl_is_tie⟩)
    (c_is_tie : PySem.W.codeIn K cd_is_tie "is_tie" = true)
    (k_is_tie : PySem.W.keepIn K (.ref f_is_tie) = true)
    (a_is_function : PySem.W.nsIn K mainGlobals "is_function" = some (some (.ref f_is_function)))
    (l_is_function : K.lookup f_is_function = some ⟨oc_is_function, od_is_function, .func (PySem.W.fnOf "is_function" "is_function" (defArgs s_is_function) (defBody s_is_function) (defScope s_is_function) .none kV_is_function dc_is_function pm_is_function an_is_function cd_is_function ct_is_function), sl_is_function⟩)
    (c_is_function : PySem.W.codeIn K cd_is_function "is_function" = true)
    (k_is_function : PySem.W.keepIn K (.ref f_is_function) = true)
    (a_are_signs : PySem.W.nsIn K mainGlobals "are_signs" = some (some (.ref f_are_signs)))
    (l_are_signs : K.lookup f_are_signs = some ⟨oc_are_signs, od_are_signs, .func (PySem.W.fnOf "are_signs" "are_signs" (defArgs s_are_signs) (defBody s_are_signs) (defScope s_are_signs) .none kV_are_signs dc_are_signs pm_are_signs an_are_signs cd_are_signs ct_are_signs), sl_are_signs⟩)
    (c_are_signs : PySem.W.codeIn K cd_are_signs "are_signs" = true)
    (k_are_signs : PySem.W.keepIn K (.ref f_are_signs) = true)
    (a_Signs_ini : PySem.W.findIn K (.ref C_Signs) "__init__" = some (some (.ref f_Signs_ini)))
    (i_Signs_ini : PySem.W.isFn K (.ref f_Signs_ini) = true)
    (l_Signs_ini : K.lookup f_Signs_ini = some ⟨oc_Signs_ini, od_Signs_ini, .func (PySem.W.fnOf "__init__" "Signs.__init__" (defArgs s_Signs_ini) (defBody s_Signs_ini) (defScope s_Signs_ini) .none kV_Signs_ini dc_Signs_ini pm_Signs_ini an_Signs_ini cd_Signs_ini ct_Signs_ini), sl_Signs_ini⟩)
    (c_Signs_ini : PySem.W.codeIn K cd_Signs_ini "Signs.__init__" = true)
    (k_Signs_ini : PySem.W.keepIn K (.ref f_Signs_ini) = true)
    (a_l_just : PySem.W.nsIn K mainGlobals "_law_just" = some (some (.ref f_l_just)))
    (l_l_just : K.lookup f_l_just = some ⟨oc_l_just, od_l_just, .func (PySem.W.fnOf "_law_just" "_law_just" (defArgs s_l_just) (defBody s_l_just) (defScope s_l_just) .none kV_l_just dc_l_just pm_l_just an_l_just cd_l_just ct_l_just), sl_l_just⟩)
    (c_l_just : PySem.W.codeIn K cd_l_just "_law_just" = true)
    (k_l_just : PySem.W.keepIn K (.ref f_l_just) = true)
    (a_l_told : PySem.W.nsIn K mainGlobals "_law_told" = some (some (.ref f_l_told)))
    (l_l_told : K.lookup f_l_told = some ⟨oc_l_told, od_l_told, .func (PySem.W.fnOf "_law_told" "_law_told" (defArgs s_l_told) (defBody s_l_told) (defScope s_l_told) .none kV_l_told dc_l_told pm_l_told an_l_told cd_l_told ct_l_told), sl_l_told⟩)
    (c_l_told : PySem.W.codeIn K cd_l_told "_law_told" = true)
    (k_l_told : PySem.W.keepIn K (.ref f_l_told) = true)
    (a_law : PySem.W.nsIn K mainGlobals "law" = some (some (.ref f_law)))
    (l_law : K.lookup f_law = some ⟨oc_law, od_law, .func (PySem.W.fnOf "law" "law" (defArgs s_law) (defBody s_law) (defScope s_law) .none kV_law dc_law pm_law an_law cd_law ct_law), sl_law⟩)
    (c_law : PySem.W.codeIn K cd_law "law" = true)
    (k_law : PySem.W.keepIn K (.ref f_law) = true)
    (pg_Signs : PySem.W.plainGet K C_Signs Str.empty = true)
    (hd_Signs : PySem.W.hasDictIn K C_Signs = true)
    (po_Signs : PySem.W.plainOver K C_Signs = true)
    (sa_Signs : PySem.W.findIn K (.ref C_Signs) "__setattr__" = some (some (.builtin "object.__setattr__")))
    (mk_Signs : PySem.W.makesIn K C_Signs = true)
    (kc_Signs : PySem.W.keepIn K (.ref C_Signs) = true)
    (xg_FewError : PySem.W.nsIn K mainGlobals "FewError" = some (some (.ref XC_FewError)))
    (xg_NoNaming : PySem.W.nsIn K mainGlobals "NoNaming" = some (some (.ref XC_NoNaming)))
    (xg_NoPart : PySem.W.nsIn K mainGlobals "NoPart" = some (some (.ref XC_NoPart)))
    (xg_NoRow : PySem.W.nsIn K mainGlobals "NoRow" = some (some (.ref XC_NoRow)))
    (xg_NoSaying : PySem.W.nsIn K mainGlobals "NoSaying" = some (some (.ref XC_NoSaying)))
    (xg_NoSigns : PySem.W.nsIn K mainGlobals "NoSigns" = some (some (.ref XC_NoSigns)))
    (xg_NoSize : PySem.W.nsIn K mainGlobals "NoSize" = some (some (.ref XC_NoSize)))
    (xg_NoText : PySem.W.nsIn K mainGlobals "NoText" = some (some (.ref XC_NoText)))
    (xg_NoWorld : PySem.W.nsIn K mainGlobals "NoWorld" = some (some (.ref XC_NoWorld)))
    (xg_TooMany : PySem.W.nsIn K mainGlobals "TooMany" = some (some (.ref XC_TooMany)))
    (xk_NoSigns : PySem.W.keepIn K (.ref XC_NoSigns) = true)
    (xi_NoSigns : PySem.W.excIn K XC_NoSigns [.type "ValueError", .type "Exception", .type "BaseException", .type "object"] "ValueError.__new__" = true)
    (xs_NoSigns : PySem.W.subIn K (.ref XC_NoSigns) (.type "BaseException") = some true)
    (xt_NoSigns : PySem.W.typeIn K (.ref XC_NoSigns) = some (.type "type"))
    (ehg_NoSigns : PySem.W.findIn K (.ref XC_NoSigns) "__getattribute__" = some (some (.builtin "BaseException.__getattribute__")))
    (ehk_NoSigns : PySem.W.findIn K (.ref XC_NoSigns) "__getattr__" = some none)
    (ehs_NoSigns : PySem.W.subIn K (.ref XC_NoSigns) (.type "BaseException") = some true)
    (ehd_NoSigns : PySem.W.hasDictIn K XC_NoSigns = true)
    (eha_NoSigns : PySem.W.findIn K (.ref XC_NoSigns) "__class__" = some (some (.builtin "object.__class__")))
    (ehn_NoSigns : PySem.W.specialIn K (.builtin "object.__class__") "__get__" = some (some (.builtin "getset_descriptor.__get__")))
    (eht_NoSigns : PySem.W.takesIn K (.builtin "object.__class__") = some true)
    (ehm_NoSigns : PySem.W.mroIn K XC_NoSigns (.type "object") = some true)
    (xe_NoSigns : PySem.W.exmOne K (.ref XC_NoSigns) (.ref XC_NoSigns) = some true)
    (kt_NoSigns_FewError : PySem.W.kitOne K (.ref XC_NoSigns) (.ref XC_FewError) = some true)
    (kt_NoSigns_NoNaming_NoPart_NoRow_NoSaying_NoSize_NoText_NoWorld_TooMany : PySem.W.kitAny K (.ref XC_NoSigns) [.ref XC_NoNaming, .ref XC_NoPart, .ref XC_NoRow, .ref XC_NoSaying, .ref XC_NoSize, .ref XC_NoText, .ref XC_NoWorld, .ref XC_TooMany] = some false)
    (kt_NoSigns_ValueError : PySem.W.kitOne K (.ref XC_NoSigns) (.type "ValueError") = some true)
    (na_Signs_own_functions : PySem.W.findIn K (.ref C_Signs) "own_functions" = some none)
    (na_Signs_own_kinds : PySem.W.findIn K (.ref C_Signs) "own_kinds" = some none)
    (na_Signs_own_ties : PySem.W.findIn K (.ref C_Signs) "own_ties" = some none)
    (z_ValueError : PySem.W.nsIn K mainGlobals "ValueError" = some none)
    (z_abs : PySem.W.nsIn K mainGlobals "abs" = some none)
    (z_all : PySem.W.nsIn K mainGlobals "all" = some none)
    (z_divmod : PySem.W.nsIn K mainGlobals "divmod" = some none)
    (z_enumerate : PySem.W.nsIn K mainGlobals "enumerate" = some none)
    (z_int : PySem.W.nsIn K mainGlobals "int" = some none)
    (z_isinstance : PySem.W.nsIn K mainGlobals "isinstance" = some none)
    (z_len : PySem.W.nsIn K mainGlobals "len" = some none)
    (z_list : PySem.W.nsIn K mainGlobals "list" = some none)
    (z_max : PySem.W.nsIn K mainGlobals "max" = some none)
    (z_range : PySem.W.nsIn K mainGlobals "range" = some none)
    (z_repr : PySem.W.nsIn K mainGlobals "repr" = some none)
    (z_set : PySem.W.nsIn K mainGlobals "set" = some none)
    (z_str : PySem.W.nsIn K mainGlobals "str" = some none)
    (z_tuple : PySem.W.nsIn K mainGlobals "tuple" = some none)
    (v_LETTERS : PySem.W.nsIn K mainGlobals "LETTERS" = some (some (.str (Str.ofString "abcdefghijklmnopqrstuvwxyz") tk_LETTERS)))
    (v_MOST_KINDS : PySem.W.nsIn K mainGlobals "MOST_KINDS" = some (some (.int 4 tk_MOST_KINDS)))
    (v_MOST_LETTERS : PySem.W.nsIn K mainGlobals "MOST_LETTERS" = some (some (.int 12 tk_MOST_LETTERS)))
    (v_MOST_PLACES : PySem.W.nsIn K mainGlobals "MOST_PLACES" = some (some (.int 2 tk_MOST_PLACES)))
    (v_MOST_SIGNS : PySem.W.nsIn K mainGlobals "MOST_SIGNS" = some (some (.int 8 tk_MOST_SIGNS)))
    (v_TAKEN : PySem.W.nsIn K mainGlobals "TAKEN" = some (some (.ref at_TAKEN)))
    (o_TAKEN : K.lookup at_TAKEN = some ⟨.type "tuple", dd_TAKEN, .seq #[.str (Str.ofString "all") tk_TAKEN0, .str (Str.ofString "some") tk_TAKEN1, .str (Str.ofString "not") tk_TAKEN2, .str (Str.ofString "and") tk_TAKEN3, .str (Str.ofString "or") tk_TAKEN4] nn_TAKEN, sl_TAKEN⟩)
    : Txt K mg (Cs.mk C_Signs) where
  a_l_pot := f_l_pot
  f_l_pot := ⟨_, fun_mk (st := s_l_pot) l_l_pot c_l_pot k_l_pot, (fun_mk (st := s_l_pot) l_l_pot c_l_pot k_l_pot).binds (ps := ["_law_cell_here"]) fun _ _ _ _ _ _ us hl => match us, hl with | [_], _ => rfl⟩
  m_l_pot := PySem.W.mg_of X G a_l_pot
  k_l_pot := k_l_pot
  a_l_draw := f_l_draw
  f_l_draw := ⟨_, fun_mk (st := s_l_draw) l_l_draw c_l_draw k_l_draw, (fun_mk (st := s_l_draw) l_l_draw c_l_draw k_l_draw).binds (ps := ["_law_pot_here", "_law_many"]) fun _ _ _ _ _ _ us hl => match us, hl with | [_, _], _ => rfl⟩
  m_l_draw := PySem.W.mg_of X G a_l_draw
  k_l_draw := k_l_draw
  a_l_unlike := f_l_unlike
  f_l_unlike := ⟨_, fun_mk (st := s_l_unlike) l_l_unlike c_l_unlike k_l_unlike, (fun_mk (st := s_l_unlike) l_l_unlike c_l_unlike k_l_unlike).binds (ps := ["_law_pot_here", "_law_many", "_law_menu"]) fun _ _ _ _ _ _ us hl => match us, hl with | [_, _, _], _ => rfl⟩
  m_l_unlike := PySem.W.mg_of X G a_l_unlike
  k_l_unlike := k_l_unlike
  a_l_book := f_l_book
  f_l_book := ⟨_, fun_mk (st := s_l_book) l_l_book c_l_book k_l_book, (fun_mk (st := s_l_book) l_l_book c_l_book k_l_book).binds (ps := ["_law_pot_here", "_law_most_kinds", "_law_most_signs"]) fun _ _ _ _ _ _ us hl => match us, hl with | [_, _, _], _ => rfl⟩
  m_l_book := PySem.W.mg_of X G a_l_book
  k_l_book := k_l_book
  a_l_cell := f_l_cell
  f_l_cell := ⟨_, fun_mk (st := s_l_cell) l_l_cell c_l_cell k_l_cell, (fun_mk (st := s_l_cell) l_l_cell c_l_cell k_l_cell).binds (ps := ["_law_script", "_law_k"]) fun _ _ _ _ _ _ us hl => match us, hl with | [_, _], _ => rfl⟩
  m_l_cell := PySem.W.mg_of X G a_l_cell
  k_l_cell := k_l_cell
  a_l_row := f_l_row
  f_l_row := ⟨_, fun_mk (st := s_l_row) l_l_row c_l_row k_l_row, (fun_mk (st := s_l_row) l_l_row c_l_row k_l_row).binds (ps := ["_law_thing"]) fun _ _ _ _ _ _ us hl => match us, hl with | [_], _ => rfl⟩
  m_l_row := PySem.W.mg_of X G a_l_row
  k_l_row := k_l_row
  a_l_name := f_l_name
  f_l_name := ⟨_, fun_mk (st := s_l_name) l_l_name c_l_name k_l_name, (fun_mk (st := s_l_name) l_l_name c_l_name k_l_name).binds (ps := ["_law_thing"]) fun _ _ _ _ _ _ us hl => match us, hl with | [_], _ => rfl⟩
  m_l_name := PySem.W.mg_of X G a_l_name
  k_l_name := k_l_name
  a_l_sign := f_l_sign
  f_l_sign := ⟨_, fun_mk (st := s_l_sign) l_l_sign c_l_sign k_l_sign, (fun_mk (st := s_l_sign) l_l_sign c_l_sign k_l_sign).binds (ps := ["_law_kinds", "_law_thing", "_law_many"]) fun _ _ _ _ _ _ us hl => match us, hl with | [_, _, _], _ => rfl⟩
  m_l_sign := PySem.W.mg_of X G a_l_sign
  k_l_sign := k_l_sign
  a_l_is_book := f_l_is_book
  f_l_is_book := ⟨_, fun_mk (st := s_l_is_book) l_l_is_book c_l_is_book k_l_is_book, (fun_mk (st := s_l_is_book) l_l_is_book c_l_is_book k_l_is_book).binds (ps := ["_law_kinds", "_law_ties", "_law_functions"]) fun _ _ _ _ _ _ us hl => match us, hl with | [_, _, _], _ => rfl⟩
  m_l_is_book := PySem.W.mg_of X G a_l_is_book
  k_l_is_book := k_l_is_book
  a_l_put := f_l_put
  f_l_put := ⟨_, fun_mk (st := s_l_put) l_l_put c_l_put k_l_put, (fun_mk (st := s_l_put) l_l_put c_l_put k_l_put).binds (ps := ["_law_pot_here", "_law_rows", "_law_thing"]) fun _ _ _ _ _ _ us hl => match us, hl with | [_, _, _], _ => rfl⟩
  m_l_put := PySem.W.mg_of X G a_l_put
  k_l_put := k_l_put
  a_l_list_odd := f_l_list_odd
  f_l_list_odd := ⟨_, fun_mk (st := s_l_list_odd) l_l_list_odd c_l_list_odd k_l_list_odd, (fun_mk (st := s_l_list_odd) l_l_list_odd c_l_list_odd k_l_list_odd).binds (ps := ["_law_pot_here"]) fun _ _ _ _ _ _ us hl => match us, hl with | [_], _ => rfl⟩
  m_l_list_odd := PySem.W.mg_of X G a_l_list_odd
  k_l_list_odd := k_l_list_odd
  a_l_odd := f_l_odd
  f_l_odd := ⟨_, fun_mk (st := s_l_odd) l_l_odd c_l_odd k_l_odd, (fun_mk (st := s_l_odd) l_l_odd c_l_odd k_l_odd).binds (ps := ["_law_pot_here"]) fun _ _ _ _ _ _ us hl => match us, hl with | [_], _ => rfl⟩
  m_l_odd := PySem.W.mg_of X G a_l_odd
  k_l_odd := k_l_odd
  a_l_spoilt_sign := f_l_spoilt_sign
  f_l_spoilt_sign := ⟨_, fun_mk (st := s_l_spoilt_sign) l_l_spoilt_sign c_l_spoilt_sign k_l_spoilt_sign, (fun_mk (st := s_l_spoilt_sign) l_l_spoilt_sign c_l_spoilt_sign k_l_spoilt_sign).binds (ps := ["_law_pot_here", "_law_signs", "_law_kinds"]) fun _ _ _ _ _ _ us hl => match us, hl with | [_, _, _], _ => rfl⟩
  m_l_spoilt_sign := PySem.W.mg_of X G a_l_spoilt_sign
  k_l_spoilt_sign := k_l_spoilt_sign
  a_l_spoilt := f_l_spoilt
  f_l_spoilt := ⟨_, fun_mk (st := s_l_spoilt) l_l_spoilt c_l_spoilt k_l_spoilt, (fun_mk (st := s_l_spoilt) l_l_spoilt c_l_spoilt k_l_spoilt).binds (ps := ["_law_pot_here", "_law_book_here"]) fun _ _ _ _ _ _ us hl => match us, hl with | [_, _], _ => rfl⟩
  m_l_spoilt := PySem.W.mg_of X G a_l_spoilt
  k_l_spoilt := k_l_spoilt
  a_is_listed := f_is_listed
  f_is_listed := ⟨_, fun_mk (st := s_is_listed) l_is_listed c_is_listed k_is_listed, (fun_mk (st := s_is_listed) l_is_listed c_is_listed k_is_listed).binds (ps := ["thing"]) fun _ _ _ _ _ _ us hl => match us, hl with | [_], _ => rfl⟩
  m_is_listed := PySem.W.mg_of X G a_is_listed
  k_is_listed := k_is_listed
  a_is_name := f_is_name
  f_is_name := ⟨_, fun_mk (st := s_is_name) l_is_name c_is_name k_is_name, (fun_mk (st := s_is_name) l_is_name c_is_name k_is_name).binds (ps := ["thing"]) fun _ _ _ _ _ _ us hl => match us, hl with | [_], _ => rfl⟩
  m_is_name := PySem.W.mg_of X G a_is_name
  k_is_name := k_is_name
  a_are_kinds := f_are_kinds
  f_are_kinds := ⟨_, fun_mk (st := s_are_kinds) l_are_kinds c_are_kinds k_are_kinds, (fun_mk (st := s_are_kinds) l_are_kinds c_are_kinds k_are_kinds).binds (ps := ["thing"]) fun _ _ _ _ _ _ us hl => match us, hl with | [_], _ => rfl⟩
  m_are_kinds := PySem.W.mg_of X G a_are_kinds
  k_are_kinds := k_are_kinds
  a_is_sign_name := f_is_sign_name
  f_is_sign_name := ⟨_, fun_mk (st := s_is_sign_name) l_is_sign_name c_is_sign_name k_is_sign_name, (fun_mk (st := s_is_sign_name) l_is_sign_name c_is_sign_name k_is_sign_name).binds (ps := ["thing"]) fun _ _ _ _ _ _ us hl => match us, hl with | [_], _ => rfl⟩
  m_is_sign_name := PySem.W.mg_of X G a_is_sign_name
  k_is_sign_name := k_is_sign_name
  a_is_kind := f_is_kind
  f_is_kind := ⟨_, fun_mk (st := s_is_kind) l_is_kind c_is_kind k_is_kind, (fun_mk (st := s_is_kind) l_is_kind c_is_kind k_is_kind).binds (ps := ["kinds", "thing"]) fun _ _ _ _ _ _ us hl => match us, hl with | [_, _], _ => rfl⟩
  m_is_kind := PySem.W.mg_of X G a_is_kind
  k_is_kind := k_is_kind
  a_are_places := f_are_places
  f_are_places := ⟨_, fun_mk (st := s_are_places) l_are_places c_are_places k_are_places, (fun_mk (st := s_are_places) l_are_places c_are_places k_are_places).binds (ps := ["kinds", "thing"]) fun _ _ _ _ _ _ us hl => match us, hl with | [_, _], _ => rfl⟩
  m_are_places := PySem.W.mg_of X G a_are_places
  k_are_places := k_are_places
  a_is_tie := f_is_tie
  f_is_tie := ⟨_, fun_mk (st := s_is_tie) l_is_tie c_is_tie k_is_tie, (fun_mk (st := s_is_tie) l_is_tie c_is_tie k_is_tie).binds (ps := ["kinds", "thing"]) fun _ _ _ _ _ _ us hl => match us, hl with | [_, _], _ => rfl⟩
  m_is_tie := PySem.W.mg_of X G a_is_tie
  k_is_tie := k_is_tie
  a_is_function := f_is_function
  f_is_function := ⟨_, fun_mk (st := s_is_function) l_is_function c_is_function k_is_function, (fun_mk (st := s_is_function) l_is_function c_is_function k_is_function).binds (ps := ["kinds", "thing"]) fun _ _ _ _ _ _ us hl => match us, hl with | [_, _], _ => rfl⟩
  m_is_function := PySem.W.mg_of X G a_is_function
  k_is_function := k_is_function
  a_are_signs := f_are_signs
  f_are_signs := ⟨_, fun_mk (st := s_are_signs) l_are_signs c_are_signs k_are_signs, (fun_mk (st := s_are_signs) l_are_signs c_are_signs k_are_signs).binds (ps := ["kinds", "ties", "functions"]) fun _ _ _ _ _ _ us hl => match us, hl with | [_, _, _], _ => rfl⟩
  m_are_signs := PySem.W.mg_of X G a_are_signs
  k_are_signs := k_are_signs
  a_Signs_ini := f_Signs_ini
  f_Signs_ini := ⟨_, fun_mk (st := s_Signs_ini) l_Signs_ini c_Signs_ini k_Signs_ini, (fun_mk (st := s_Signs_ini) l_Signs_ini c_Signs_ini k_Signs_ini).binds (ps := ["self", "kinds", "ties", "functions"]) fun _ _ _ _ _ _ us hl => match us, hl with | [_, _, _, _], _ => rfl⟩
  a_l_just := f_l_just
  f_l_just := ⟨_, fun_mk (st := s_l_just) l_l_just c_l_just k_l_just, (fun_mk (st := s_l_just) l_l_just c_l_just k_l_just).binds (ps := ["_law_e"]) fun _ _ _ _ _ _ us hl => match us, hl with | [_], _ => rfl⟩
  m_l_just := PySem.W.mg_of X G a_l_just
  k_l_just := k_l_just
  a_l_told := f_l_told
  f_l_told := ⟨_, fun_mk (st := s_l_told) l_l_told c_l_told k_l_told, (fun_mk (st := s_l_told) l_l_told c_l_told k_l_told).binds (ps := ["_law_book_here"]) fun _ _ _ _ _ _ us hl => match us, hl with | [_], _ => rfl⟩
  m_l_told := PySem.W.mg_of X G a_l_told
  k_l_told := k_l_told
  a_law := f_law
  f_law := ⟨_, fun_mk (st := s_law) l_law c_law k_law, (fun_mk (st := s_law) l_law c_law k_law).binds (ps := ["_law_script"]) fun _ _ _ _ _ _ us hl => match us, hl with | [_], _ => rfl⟩
  m_law := PySem.W.mg_of X G a_law
  k_law := k_law
  c_Signs := ⟨pg_Signs, hd_Signs, po_Signs, sa_Signs⟩
  m_Signs := PySem.W.mg_of X G aC_Signs
  mk_Signs := ⟨mk_Signs, a_Signs_ini, i_Signs_ini, kc_Signs⟩
  xa_FewError := XC_FewError
  xm_FewError := PySem.W.mg_of X G xg_FewError
  xg_FewError := xg_FewError
  xa_NoNaming := XC_NoNaming
  xm_NoNaming := PySem.W.mg_of X G xg_NoNaming
  xg_NoNaming := xg_NoNaming
  xa_NoPart := XC_NoPart
  xm_NoPart := PySem.W.mg_of X G xg_NoPart
  xg_NoPart := xg_NoPart
  xa_NoRow := XC_NoRow
  xm_NoRow := PySem.W.mg_of X G xg_NoRow
  xg_NoRow := xg_NoRow
  xa_NoSaying := XC_NoSaying
  xm_NoSaying := PySem.W.mg_of X G xg_NoSaying
  xg_NoSaying := xg_NoSaying
  xa_NoSigns := XC_NoSigns
  xm_NoSigns := PySem.W.mg_of X G xg_NoSigns
  xg_NoSigns := xg_NoSigns
  xa_NoSize := XC_NoSize
  xm_NoSize := PySem.W.mg_of X G xg_NoSize
  xg_NoSize := xg_NoSize
  xa_NoText := XC_NoText
  xm_NoText := PySem.W.mg_of X G xg_NoText
  xg_NoText := xg_NoText
  xa_NoWorld := XC_NoWorld
  xm_NoWorld := PySem.W.mg_of X G xg_NoWorld
  xg_NoWorld := xg_NoWorld
  xa_TooMany := XC_TooMany
  xm_TooMany := PySem.W.mg_of X G xg_TooMany
  xg_TooMany := xg_TooMany
  xk_NoSigns := xk_NoSigns
  xi_NoSigns := xi_NoSigns
  xs_NoSigns := xs_NoSigns
  xt_NoSigns := xt_NoSigns
  ec_NoSigns := ⟨ehg_NoSigns, ehk_NoSigns, ehs_NoSigns, ehd_NoSigns, eha_NoSigns, ehn_NoSigns, eht_NoSigns, ehm_NoSigns⟩
  xe_NoSigns := xe_NoSigns
  kt_NoSigns_FewError := kt_NoSigns_FewError
  kt_NoSigns_NoNaming_NoPart_NoRow_NoSaying_NoSize_NoText_NoWorld_TooMany := kt_NoSigns_NoNaming_NoPart_NoRow_NoSaying_NoSize_NoText_NoWorld_TooMany
  kt_NoSigns_ValueError := kt_NoSigns_ValueError
  na_Signs_own_functions := na_Signs_own_functions
  na_Signs_own_kinds := na_Signs_own_kinds
  na_Signs_own_ties := na_Signs_own_ties
  z_ValueError := PySem.W.mg_none_of X G z_ValueError
  z_abs := PySem.W.mg_none_of X G z_abs
  z_all := PySem.W.mg_none_of X G z_all
  z_divmod := PySem.W.mg_none_of X G z_divmod
  z_enumerate := PySem.W.mg_none_of X G z_enumerate
  z_int := PySem.W.mg_none_of X G z_int
  z_isinstance := PySem.W.mg_none_of X G z_isinstance
  z_len := PySem.W.mg_none_of X G z_len
  z_list := PySem.W.mg_none_of X G z_list
  z_max := PySem.W.mg_none_of X G z_max
  z_range := PySem.W.mg_none_of X G z_range
  z_repr := PySem.W.mg_none_of X G z_repr
  z_set := PySem.W.mg_none_of X G z_set
  z_str := PySem.W.mg_none_of X G z_str
  z_tuple := PySem.W.mg_none_of X G z_tuple
  u_LETTERS := .str "abcdefghijklmnopqrstuvwxyz" tk_LETTERS
  w_LETTERS := .str "abcdefghijklmnopqrstuvwxyz"
  v_LETTERS := PySem.W.mg_of X G v_LETTERS
  r_LETTERS := ⟨_, rfl⟩
  q_LETTERS := fun _ => .str _
  u_MOST_KINDS := .int 4 tk_MOST_KINDS
  w_MOST_KINDS := .int 4
  v_MOST_KINDS := PySem.W.mg_of X G v_MOST_KINDS
  r_MOST_KINDS := ⟨_, rfl⟩
  q_MOST_KINDS := fun _ => .int _
  u_MOST_LETTERS := .int 12 tk_MOST_LETTERS
  w_MOST_LETTERS := .int 12
  v_MOST_LETTERS := PySem.W.mg_of X G v_MOST_LETTERS
  r_MOST_LETTERS := ⟨_, rfl⟩
  q_MOST_LETTERS := fun _ => .int _
  u_MOST_PLACES := .int 2 tk_MOST_PLACES
  w_MOST_PLACES := .int 2
  v_MOST_PLACES := PySem.W.mg_of X G v_MOST_PLACES
  r_MOST_PLACES := ⟨_, rfl⟩
  q_MOST_PLACES := fun _ => .int _
  u_MOST_SIGNS := .int 8 tk_MOST_SIGNS
  w_MOST_SIGNS := .int 8
  v_MOST_SIGNS := PySem.W.mg_of X G v_MOST_SIGNS
  r_MOST_SIGNS := ⟨_, rfl⟩
  q_MOST_SIGNS := fun _ => .int _
  u_TAKEN := .ref at_TAKEN
  w_TAKEN := .ref at_TAKEN
  v_TAKEN := PySem.W.mg_of X G v_TAKEN
  r_TAKEN := rfl
  q_TAKEN := fun _ => .tup (.inr ⟨_, _, _, o_TAKEN, rfl, rfl, (by rw [sizeLine_eq]; show 5 ≤ 16777216; decide), ((.cons ⟨_, rfl⟩ (.cons ⟨_, rfl⟩ (.cons ⟨_, rfl⟩ (.cons ⟨_, rfl⟩ (.cons ⟨_, rfl⟩ .nil))))) : Vals [.str (Str.ofString "all"), .str (Str.ofString "some"), .str (Str.ofString "not"), .str (Str.ofString "and"), .str (Str.ofString "or")] [.str (Str.ofString "all") tk_TAKEN0, .str (Str.ofString "some") tk_TAKEN1, .str (Str.ofString "not") tk_TAKEN2, .str (Str.ofString "and") tk_TAKEN3, .str (Str.ofString "or") tk_TAKEN4])⟩) (.cons (.str _) (.cons (.str _) (.cons (.str _) (.cons (.str _) (.cons (.str _) .nil)))))
theorem finish {P : Program} {w : World} {K : Fr} {h : Heap} {mg : Str → Option Value} {fa : Addr} (X : K.In h) (G : h.Ns mainGlobals mg) (hfa : mg "law" = some (.ref fa)) (hp : ∀ (cs : Cs) (ns : List Int), ns.length ≤ 63 → ∃ S2, F_law cs [.f (.scr ns)] [.hp []] = .ok (.bl true) S2)
    {C_Signs : Addr}
    {f_l_pot : Addr} {od_l_pot an_l_pot : Option Addr} {sl_l_pot : Array (Option Value)} {oc_l_pot kV_l_pot dc_l_pot pm_l_pot cd_l_pot ct_l_pot : Value}
    {f_l_draw : Addr} {od_l_draw an_l_draw : Option Addr} {sl_l_draw : Array (Option Value)} {oc_l_draw kV_l_draw dc_l_draw pm_l_draw cd_l_draw ct_l_draw : Value}
    {f_l_unlike : Addr} {od_l_unlike an_l_unlike : Option Addr} {sl_l_unlike : Array (Option Value)} {oc_l_unlike kV_l_unlike dc_l_unlike pm_l_unlike cd_l_unlike ct_l_unlike : Value}
    {f_l_book : Addr} {od_l_book an_l_book : Option Addr} {sl_l_book : Array (Option Value)} {oc_l_book kV_l_book dc_l_book pm_l_book cd_l_book ct_l_book : Value}
    {f_l_cell : Addr} {od_l_cell an_l_cell : Option Addr} {sl_l_cell : Array (Option Value)} {oc_l_cell kV_l_cell dc_l_cell pm_l_cell cd_l_cell ct_l_cell : Value}
    {f_l_row : Addr} {od_l_row an_l_row : Option Addr} {sl_l_row : Array (Option Value)} {oc_l_row kV_l_row dc_l_row pm_l_row cd_l_row ct_l_row : Value}
    {f_l_name : Addr} {od_l_name an_l_name : Option Addr} {sl_l_name : Array (Option Value)} {oc_l_name kV_l_name dc_l_name pm_l_name cd_l_name ct_l_name : Value}
    {f_l_sign : Addr} {od_l_sign an_l_sign : Option Addr} {sl_l_sign : Array (Option Value)} {oc_l_sign kV_l_sign dc_l_sign pm_l_sign cd_l_sign ct_l_sign : Value}
    {f_l_is_book : Addr} {od_l_is_book an_l_is_book : Option Addr} {sl_l_is_book : Array (Option Value)} {oc_l_is_book kV_l_is_book dc_l_is_book pm_l_is_book cd_l_is_book ct_l_is_book : Value}
    {f_l_put : Addr} {od_l_put an_l_put : Option Addr} {sl_l_put : Array (Option Value)} {oc_l_put kV_l_put dc_l_put pm_l_put cd_l_put ct_l_put : Value}
    {f_l_list_odd : Addr} {od_l_list_odd an_l_list_odd : Option Addr} {sl_l_list_odd : Array (Option Value)} {oc_l_list_odd kV_l_list_odd dc_l_list_odd pm_l_list_odd cd_l_list_odd ct_l_list_odd : Value}
    {f_l_odd : Addr} {od_l_odd an_l_odd : Option Addr} {sl_l_odd : Array (Option Value)} {oc_l_odd kV_l_odd dc_l_odd pm_l_odd cd_l_odd ct_l_odd : Value}
    {f_l_spoilt_sign : Addr} {od_l_spoilt_sign an_l_spoilt_sign : Option Addr} {sl_l_spoilt_sign : Array (Option Value)} {oc_l_spoilt_sign kV_l_spoilt_sign dc_l_spoilt_sign pm_l_spoilt_sign cd_l_spoilt_sign ct_l_spoilt_sign : Value}
    {f_l_spoilt : Addr} {od_l_spoilt an_l_spoilt : Option Addr} {sl_l_spoilt : Array (Option Value)} {oc_l_spoilt kV_l_spoilt dc_l_spoilt pm_l_spoilt cd_l_spoilt ct_l_spoilt : Value}
    {f_is_listed : Addr} {od_is_listed an_is_listed : Option Addr} {sl_is_listed : Array (Option Value)} {oc_is_listed kV_is_listed dc_is_listed pm_is_listed cd_is_listed ct_is_listed : Value}
    {f_is_name : Addr} {od_is_name an_is_name : Option Addr} {sl_is_name : Array (Option Value)} {oc_is_name kV_is_name dc_is_name pm_is_name cd_is_name ct_is_name : Value}
    {f_are_kinds : Addr} {od_are_kinds an_are_kinds : Option Addr} {sl_are_kinds : Array (Option Value)} {oc_are_kinds kV_are_kinds dc_are_kinds pm_are_kinds cd_are_kinds ct_are_kinds : Value}
    {f_is_sign_name : Addr} {od_is_sign_name an_is_sign_name : Option Addr} {sl_is_sign_name : Array (Option Value)} {oc_is_sign_name kV_is_sign_name dc_is_sign_name pm_is_sign_name cd_is_sign_name ct_is_sign_name : Value}
    {f_is_kind : Addr} {od_is_kind an_is_kind : Option Addr} {sl_is_kind : Array (Option Value)} {oc_is_kind kV_is_kind dc_is_kind pm_is_kind cd_is_kind ct_is_kind : Value}
    {f_are_places : Addr} {od_are_places an_are_places : Option Addr} {sl_are_places : Array (Option Value)} {oc_are_places kV_are_places dc_are_places pm_are_places cd_are_places ct_are_places : Value}
    {f_is_tie : Addr} {od_is_tie an_is_tie : Option Addr} {sl_is_tie : Array (Option Value)} {oc_is_tie kV_is_tie dc_is_tie pm_is_tie cd_is_tie ct_is_tie : Value}
    {f_is_function : Addr} {od_is_function an_is_function : Option Addr} {sl_is_function : Array (Option Value)} {oc_is_function kV_is_function dc_is_function pm_is_function cd_is_function ct_is_function : Value}
    {f_are_signs : Addr} {od_are_signs an_are_signs : Option Addr} {sl_are_signs : Array (Option Value)} {oc_are_signs kV_are_signs dc_are_signs pm_are_signs cd_are_signs ct_are_signs : Value}
    {f_Signs_ini : Addr} {od_Signs_ini an_Signs_ini : Option Addr} {sl_Signs_ini : Array (Option Value)} {oc_Signs_ini kV_Signs_ini dc_Signs_ini pm_Signs_ini cd_Signs_ini ct_Signs_ini : Value}
    {f_l_just : Addr} {od_l_just an_l_just : Option Addr} {sl_l_just : Array (Option Value)} {oc_l_just kV_l_just dc_l_just pm_l_just cd_l_just ct_l_just : Value}
    {f_l_told : Addr} {od_l_told an_l_told : Option Addr} {sl_l_told : Array (Option Value)} {oc_l_told kV_l_told dc_l_told pm_l_told cd_l_told ct_l_told : Value}
    {f_law : Addr} {od_law an_law : Option Addr} {sl_law : Array (Option Value)} {oc_law kV_law dc_law pm_law cd_law ct_law : Value}
    {XC_FewError : Addr}
    {XC_NoNaming : Addr}
    {XC_NoPart : Addr}
    {XC_NoRow : Addr}
    {XC_NoSaying : Addr}
    {XC_NoSigns : Addr}
    {XC_NoSize : Addr}
    {XC_NoText : Addr}
    {XC_NoWorld : Addr}
    {XC_TooMany : Addr}
    {tk_LETTERS : Tok}
    {tk_MOST_KINDS : Tok}
    {tk_MOST_LETTERS : Tok}
    {tk_MOST_PLACES : Tok}
    {tk_MOST_SIGNS : Tok}
    {at_TAKEN : Addr} {dd_TAKEN : Option Addr} {nn_TAKEN : Nat} {sl_TAKEN : Array (Option Value)} {tk_TAKEN0 tk_TAKEN1 tk_TAKEN2 tk_TAKEN3 tk_TAKEN4 : Tok}
    (aC_Signs : PySem.W.nsIn K mainGlobals "Signs" = some (some (.ref C_Signs)))
    (a_l_pot : PySem.W.nsIn K mainGlobals "_law_pot" = some (some (.ref f_l_pot)))
    (l_l_pot : K.lookup f_l_pot = some ⟨oc_l_pot, od_l_pot, .func (PySem.W.fnOf "_law_pot" "_law_pot" (defArgs s_l_pot) (defBody s_l_pot) (defScope s_l_pot) .none kV_l_pot dc_l_pot pm_l_pot an_l_pot cd_l_pot ct_l_pot), sl_l_pot⟩)
    (c_l_pot : PySem.W.codeIn K cd_l_pot "_law_pot" = true)
    (k_l_pot : PySem.W.keepIn K (.ref f_l_pot) = true)
    (a_l_draw : PySem.W.nsIn K mainGlobals "_law_draw" = some (some (.ref f_l_draw)))
    (l_l_draw : K.lookup f_l_draw = some ⟨oc_l_draw, od_l_draw, .func (PySem.W.fnOf "_law_draw" "_law_draw" (defArgs s_l_draw) (defBody s_l_draw) (defScope s_l_draw) .none kV_l_draw dc_l_draw pm_l_draw an_l_draw cd_l_draw ct_l_draw), sl_l_draw⟩)
    (c_l_draw : PySem.W.codeIn K cd_l_draw "_law_draw" = true)
    (k_l_draw : PySem.W.keepIn K (.ref f_l_draw) = true)
    (a_l_unlike : PySem.W.nsIn K mainGlobals "_law_unlike" = some (some (.ref f_l_unlike)))
    (l_l_unlike : K.lookup f_l_unlike = some ⟨oc_l_unlike, od_l_unlike, .func (PySem.W.fnOf "_law_unlike" "_law_unlike" (defArgs s_l_unlike) (defBody s_l_unlike) (defScope s_l_unlike) .none kV_l_unlike dc_l_unlike pm_l_unlike an_l_unlike cd_l_unlike ct_l_unlike), sl_l_unlike⟩)
    (c_l_unlike : PySem.W.codeIn K cd_l_unlike "_law_unlike" = true)
    (k_l_unlike : PySem.W.keepIn K (.ref f_l_unlike) = true)
    (a_l_book : PySem.W.nsIn K mainGlobals "_law_book" = some (some (.ref f_l_book)))
    (l_l_book : K.lookup f_l_book = some ⟨oc_l_book, od_l_book, .func (PySem.W.fnOf "_law_book" "_law_book" (defArgs s_l_book) (defBody s_l_book) (defScope s_l_book) .none kV_l_book dc_l_book pm_l_book an_l_book cd_l_book ct_l_book), sl_l_book⟩)
    (c_l_book : PySem.W.codeIn K cd_l_book "_law_book" = true)
    (k_l_book : PySem.W.keepIn K (.ref f_l_book) = true)
    (a_l_cell : PySem.W.nsIn K mainGlobals "_law_cell" = some (some (.ref f_l_cell)))
    (l_l_cell : K.lookup f_l_cell = some ⟨oc_l_cell, od_l_cell, .func (PySem.W.fnOf "_law_cell" "_law_cell" (defArgs s_l_cell) (defBody s_l_cell) (defScope s_l_cell) .none kV_l_cell dc_l_cell pm_l_cell an_l_cell cd_l_cell ct_l_cell), sl_l_cell⟩)
    (c_l_cell : PySem.W.codeIn K cd_l_cell "_law_cell" = true)
    (k_l_cell : PySem.W.keepIn K (.ref f_l_cell) = true)
    (a_l_row : PySem.W.nsIn K mainGlobals "_law_row" = some (some (.ref f_l_row)))
    (l_l_row : K.lookup f_l_row = some ⟨oc_l_row, od_l_row, .func (PySem.W.fnOf "_law_row" "_law_row" (defArgs s_l_row) (defBody s_l_row) (defScope s_l_row) .none kV_l_row dc_l_row pm_l_row an_l_row cd_l_row ct_l_row), sl_l_row⟩)
    (c_l_row : PySem.W.codeIn K cd_l_row "_law_row" = true)
    (k_l_row : PySem.W.keepIn K (.ref f_l_row) = true)
    (a_l_name : PySem.W.nsIn K mainGlobals "_law_name" = some (some (.ref f_l_name)))
    (l_l_name : K.lookup f_l_name = some ⟨oc_l_name, od_l_name, .func (PySem.W.fnOf "_law_name" "_law_name" (defArgs s_l_name) (defBody s_l_name) (defScope s_l_name) .none kV_l_name dc_l_name pm_l_name an_l_name cd_l_name ct_l_name), sl_l_name⟩)
    (c_l_name : PySem.W.codeIn K cd_l_name "_law_name" = true)
    (k_l_name : PySem.W.keepIn K (.ref f_l_name) = true)
    (a_l_sign : PySem.W.nsIn K mainGlobals "_law_sign" = some (some (.ref f_l_sign)))
    (l_l_sign : K.lookup f_l_sign = some ⟨oc_l_sign, od_l_sign, .func (PySem.W.fnOf "_law_sign" "_law_sign" (defArgs s_l_sign) (defBody s_l_sign) (defScope s_l_sign) .none kV_l_sign dc_l_sign pm_l_sign an_l_sign cd_l_sign ct_l_sign), sl_l_sign⟩)
    (c_l_sign : PySem.W.codeIn K cd_l_sign "_law_sign" = true)
    (k_l_sign : PySem.W.keepIn K (.ref f_l_sign) = true)
    (a_l_is_book : PySem.W.nsIn K mainGlobals "_law_is_book" = some (some (.ref f_l_is_book)))
    (l_l_is_book : K.lookup f_l_is_book = some ⟨oc_l_is_book, od_l_is_book, .func (PySem.W.fnOf "_law_is_book" "_law_is_book" (defArgs s_l_is_book) (defBody s_l_is_book) (defScope s_l_is_book) .none kV_l_is_book dc_l_is_book pm_l_is_book an_l_is_book cd_l_is_book ct_l_is_book), sl_l_is_book⟩)
    (c_l_is_book : PySem.W.codeIn K cd_l_is_book "_law_is_book" = true)
    (k_l_is_book : PySem.W.keepIn K (.ref f_l_is_book) = true)
    (a_l_put : PySem.W.nsIn K mainGlobals "_law_put" = some (some (.ref f_l_put)))
    (l_l_put : K.lookup f_l_put = some ⟨oc_l_put, od_l_put, .func (PySem.W.fnOf "_law_put" "_law_put" (defArgs s_l_put) (defBody s_l_put) (defScope s_l_put) .none kV_l_put dc_l_put pm_l_put an_l_put cd_l_put ct_l_put), sl_l_put⟩)
    (c_l_put : PySem.W.codeIn K cd_l_put "_law_put" = true)
    (k_l_put : PySem.W.keepIn K (.ref f_l_put) = true)
    (a_l_list_odd : PySem.W.nsIn K mainGlobals "_law_list_odd" = some (some (.ref f_l_list_odd)))
    (l_l_list_odd : K.lookup f_l_list_odd = some ⟨oc_l_list_odd, od_l_list_odd, .func (PySem.W.fnOf "_law_list_odd" "_law_list_odd" (defArgs s_l_list_odd) (defBody s_l_list_odd) (defScope s_l_list_odd) .none kV_l_list_odd dc_l_list_odd pm_l_list_odd an_l_list_odd cd_l_list_odd ct_l_list_odd), sl_l_list_odd⟩)
    (c_l_list_odd : PySem.W.codeIn K cd_l_list_odd "_law_list_odd" = true)
    (k_l_list_odd : PySem.W.keepIn K (.ref f_l_list_odd) = true)
    (a_l_odd : PySem.W.nsIn K mainGlobals "_law_odd" = some (some (.ref f_l_odd)))
    (l_l_odd : K.lookup f_l_odd = some ⟨oc_l_odd, od_l_odd, .func (PySem.W.fnOf "_law_odd" "_law_odd" (defArgs s_l_odd) (defBody s_l_odd) (defScope s_l_odd) .none kV_l_odd dc_l_odd pm_l_odd an_l_odd cd_l_odd ct_l_odd), sl_l_odd⟩)
    (c_l_odd : PySem.W.codeIn K cd_l_odd "_law_odd" = true)
    (k_l_odd : PySem.W.keepIn K (.ref f_l_odd) = true)
    (a_l_spoilt_sign : PySem.W.nsIn K mainGlobals "_law_spoilt_sign" = some (some (.ref f_l_spoilt_sign)))
    (l_l_spoilt_sign : K.lookup f_l_spoilt_sign = some ⟨oc_l_spoilt_sign, od_l_spoilt_sign, .func (PySem.W.fnOf "_law_spoilt_sign" "_law_spoilt_sign" (defArgs s_l_spoilt_sign) (defBody s_l_spoilt_sign) (defScope s_l_spoilt_sign) .none kV_l_spoilt_sign dc_l_spoilt_sign pm_l_spoilt_sign an_l_spoilt_sign cd_l_spoilt_sign ct_l_spoilt_sign), sl_l_spoilt_sign⟩)
    (c_l_spoilt_sign : PySem.W.codeIn K cd_l_spoilt_sign "_law_spoilt_sign" = true)
    (k_l_spoilt_sign : PySem.W.keepIn K (.ref f_l_spoilt_sign) = true)
    (a_l_spoilt : PySem.W.nsIn K mainGlobals "_law_spoilt" = some (some (.ref f_l_spoilt)))
    (l_l_spoilt : K.lookup f_l_spoilt = some ⟨oc_l_spoilt, od_l_spoilt, .func (PySem.W.fnOf "_law_spoilt" "_law_spoilt" (defArgs s_l_spoilt) (defBody s_l_spoilt) (defScope s_l_spoilt) .none kV_l_spoilt dc_l_spoilt pm_l_spoilt an_l_spoilt cd_l_spoilt ct_l_spoilt), sl_l_spoilt⟩)
    (c_l_spoilt : PySem.W.codeIn K cd_l_spoilt "_law_spoilt" = true)
    (k_l_spoilt : PySem.W.keepIn K (.ref f_l_spoilt) = true)
    (a_is_listed : PySem.W.nsIn K mainGlobals "is_listed" = some (some (.ref f_is_listed)))
    (l_is_listed : K.lookup f_is_listed = some ⟨oc_is_listed, od_is_listed, .func (PySem.W.fnOf "is_listed" "is_listed" (defArgs s_is_listed) (defBody s_is_listed) (defScope s_is_listed) .none kV_is_listed dc_is_listed pm_is_listed an_is_listed cd_is_listed ct_is_listed), sl_is_listed⟩)
    (c_is_listed : PySem.W.codeIn K cd_is_listed "is_listed" = true)
    (k_is_listed : PySem.W.keepIn K (.ref f_is_listed) = true)
    (a_is_name : PySem.W.nsIn K mainGlobals "is_name" = some (some (.ref f_is_name)))
    (l_is_name : K.lookup f_is_name = some ⟨oc_is_name, od_is_name, .func (PySem.W.fnOf "is_name" "is_name" (defArgs s_is_name) (defBody s_is_name) (defScope s_is_name) .none kV_is_name dc_is_name pm_is_name an_is_name cd_is_name ct_is_name), sl_is_name⟩)
    (c_is_name : PySem.W.codeIn K cd_is_name "is_name" = true)
    (k_is_name : PySem.W.keepIn K (.ref f_is_name) = true)
    (a_are_kinds : PySem.W.nsIn K mainGlobals "are_kinds" = some (some (.ref f_are_kinds)))
    (l_are_kinds : K.lookup f_are_kinds = some ⟨oc_are_kinds, od_are_kinds, .func (PySem.W.fnOf "are_kinds" "are_kinds" (defArgs s_are_kinds) (defBody s_are_kinds) (defScope s_are_kinds) .none kV_are_kinds dc_are_kinds pm_are_kinds an_are_kinds cd_are_kinds ct_are_kinds), sl_are_kinds⟩)
    (c_are_kinds : PySem.W.codeIn K cd_are_kinds "are_kinds" = true)
    (k_are_kinds : PySem.W.keepIn K (.ref f_are_kinds) = true)
    (a_is_sign_name : PySem.W.nsIn K mainGlobals "is_sign_name" = some (some (.ref f_is_sign_name)))
    (l_is_sign_name : K.lookup f_is_sign_name = some ⟨oc_is_sign_name, od_is_sign_name, .func (PySem.W.fnOf "is_sign_name" "is_sign_name" (defArgs s_is_sign_name) (defBody s_is_sign_name) (defScope s_is_sign_name) .none kV_is_sign_name dc_is_sign_name pm_is_sign_name an_is_sign_name cd_is_sign_name ct_is_sign_name), sl_is_sign_name⟩)
    (c_is_sign_name : PySem.W.codeIn K cd_is_sign_name "is_sign_name" = true)
    (k_is_sign_name : PySem.W.keepIn K (.ref f_is_sign_name) = true)
    (a_is_kind : PySem.W.nsIn K mainGlobals "is_kind" = some (some (.ref f_is_kind)))
    (l_is_kind : K.lookup f_is_kind = some ⟨oc_is_kind, od_is_kind, .func (PySem.W.fnOf "is_kind" "is_kind" (defArgs s_is_kind) (defBody s_is_kind) (defScope s_is_kind) .none kV_is_kind dc_is_kind pm_is_kind an_is_kind cd_is_kind ct_is_kind), sl_is_kind⟩)
    (c_is_kind : PySem.W.codeIn K cd_is_kind "is_kind" = true)
    (k_is_kind : PySem.W.keepIn K (.ref f_is_kind) = true)
    (a_are_places : PySem.W.nsIn K mainGlobals "are_places" = some (some (.ref f_are_places)))
    (l_are_places : K.lookup f_are_places = some ⟨oc_are_places, od_are_places, .func (PySem.W.fnOf "are_places" "are_places" (defArgs s_are_places) (defBody s_are_places) (defScope s_are_places) .none kV_are_places dc_are_places pm_are_places an_are_places cd_are_places ct_are_places), sl_are_places⟩)
    (c_are_places : PySem.W.codeIn K cd_are_places "are_places" = true)
    (k_are_places : PySem.W.keepIn K (.ref f_are_places) = true)
    (a_is_tie : PySem.W.nsIn K mainGlobals "is_tie" = some (some (.ref f_is_tie)))
    (l_is_tie : K.lookup f_is_tie = some ⟨oc_is_tie, od_is_tie, .func (PySem.W.fnOf "is_tie" "is_tie" (defArgs s_is_tie) (defBody s_is_tie) (defScope s_is_tie) .none kV_is_tie dc_is_tie pm_is_tie an_is_tie cd_is_tie ct_is_tie), sl_is_tie⟩)
    (c_is_tie : PySem.W.codeIn K cd_is_tie "is_tie" = true)
    (k_is_tie : PySem.W.keepIn K (.ref f_is_tie) = true)
    (a_is_function : PySem.W.nsIn K mainGlobals "is_function" = some (some (.ref f_is_function)))
    (l_is_function : K.lookup f_is_function = some ⟨oc_is_function, od_is_function, .func (PySem.W.fnOf "is_function" "is_function" (defArgs s_is_function) (defBody s_is_function) (defScope s_is_function) .none kV_is_function dc_is_function pm_is_function an_is_function cd_is_function ct_is_function), sl_is_function⟩)
    (c_is_function : PySem.W.codeIn K cd_is_function "is_function" = true)
    (k_is_function : PySem.W.keepIn K (.ref f_is_function) = true)
    (a_are_signs : PySem.W.nsIn K mainGlobals "are_signs" = some (some (.ref f_are_signs)))
    (l_are_signs : K.lookup f_are_signs = some ⟨oc_are_signs, od_are_signs, .func (PySem.W.fnOf "are_signs" "are_signs" (defArgs s_are_signs) (defBody s_are_signs) (defScope s_are_signs) .none kV_are_signs dc_are_signs pm_are_signs an_are_signs cd_are_signs ct_are_signs), sl_are_signs⟩)
    (c_are_signs : PySem.W.codeIn K cd_are_signs "are_signs" = true)
    (k_are_signs : PySem.W.keepIn K (.ref f_are_signs) = true)
    (a_Signs_ini : PySem.W.findIn K (.ref C_Signs) "__init__" = some (some (.ref f_Signs_ini)))
    (i_Signs_ini : PySem.W.isFn K (.ref f_Signs_ini) = true)
    (l_Signs_ini : K.lookup f_Signs_ini = some ⟨oc_Signs_ini, od_Signs_ini, .func (PySem.W.fnOf "__init__" "Signs.__init__" (defArgs s_Signs_ini) (defBody s_Signs_ini) (defScope s_Signs_ini) .none kV_Signs_ini dc_Signs_ini pm_Signs_ini an_Signs_ini cd_Signs_ini ct_Signs_ini), sl_Signs_ini⟩)
    (c_Signs_ini : PySem.W.codeIn K cd_Signs_ini "Signs.__init__" = true)
    (k_Signs_ini : PySem.W.keepIn K (.ref f_Signs_ini) = true)
    (a_l_just : PySem.W.nsIn K mainGlobals "_law_just" = some (some (.ref f_l_just)))
    (l_l_just : K.lookup f_l_just = some ⟨oc_l_just, od_l_just, .func (PySem.W.fnOf "_law_just" "_law_just" (defArgs s_l_just) (defBody s_l_just) (defScope s_l_just) .none kV_l_just dc_l_just pm_l_just an_l_just cd_l_just ct_l_just), sl_l_just⟩)
    (c_l_just : PySem.W.codeIn K cd_l_just "_law_just" = true)
    (k_l_just : PySem.W.keepIn K (.ref f_l_just) = true)
    (a_l_told : PySem.W.nsIn K mainGlobals "_law_told" = some (some (.ref f_l_told)))
    (l_l_told : K.lookup f_l_told = some ⟨oc_l_told, od_l_told, .func (PySem.W.fnOf "_law_told" "_law_told" (defArgs s_l_told) (defBody s_l_told) (defScope s_l_told) .none kV_l_told dc_l_told pm_l_told an_l_told cd_l_told ct_l_told), sl_l_told⟩)
    (c_l_told : PySem.W.codeIn K cd_l_told "_law_told" = true)
    (k_l_told : PySem.W.keepIn K (.ref f_l_told) = true)
    (a_law : PySem.W.nsIn K mainGlobals "law" = some (some (.ref f_law)))
    (l_law : K.lookup f_law = some ⟨oc_law, od_law, .func (PySem.W.fnOf "law" "law" (defArgs s_law) (defBody s_law) (defScope s_law) .none kV_law dc_law pm_law an_law cd_law ct_law), sl_law⟩)
    (c_law : PySem.W.codeIn K cd_law "law" = true)
    (k_law : PySem.W.keepIn K (.ref f_law) = true)
    (pg_Signs : PySem.W.plainGet K C_Signs Str.empty = true)
    (hd_Signs : PySem.W.hasDictIn K C_Signs = true)
    (po_Signs : PySem.W.plainOver K C_Signs = true)
    (sa_Signs : PySem.W.findIn K (.ref C_Signs) "__setattr__" = some (some (.builtin "object.__setattr__")))
    (mk_Signs : PySem.W.makesIn K C_Signs = true)
    (kc_Signs : PySem.W.keepIn K (.ref C_Signs) = true)
    (xg_FewError : PySem.W.nsIn K mainGlobals "FewError" = some (some (.ref XC_FewError)))
    (xg_NoNaming : PySem.W.nsIn K mainGlobals "NoNaming" = some (some (.ref XC_NoNaming)))
    (xg_NoPart : PySem.W.nsIn K mainGlobals "NoPart" = some (some (.ref XC_NoPart)))
    (xg_NoRow : PySem.W.nsIn K mainGlobals "NoRow" = some (some (.ref XC_NoRow)))
    (xg_NoSaying : PySem.W.nsIn K mainGlobals "NoSaying" = some (some (.ref XC_NoSaying)))
    (xg_NoSigns : PySem.W.nsIn K mainGlobals "NoSigns" = some (some (.ref XC_NoSigns)))
    (xg_NoSize : PySem.W.nsIn K mainGlobals "NoSize" = some (some (.ref XC_NoSize)))
    (xg_NoText : PySem.W.nsIn K mainGlobals "NoText" = some (some (.ref XC_NoText)))
    (xg_NoWorld : PySem.W.nsIn K mainGlobals "NoWorld" = some (some (.ref XC_NoWorld)))
    (xg_TooMany : PySem.W.nsIn K mainGlobals "TooMany" = some (some (.ref XC_TooMany)))
    (xk_NoSigns : PySem.W.keepIn K (.ref XC_NoSigns) = true)
    (xi_NoSigns : PySem.W.excIn K XC_NoSigns [.type "ValueError", .type "Exception", .type "BaseException", .type "object"] "ValueError.__new__" = true)
    (xs_NoSigns : PySem.W.subIn K (.ref XC_NoSigns) (.type "BaseException") = some true)
    (xt_NoSigns : PySem.W.typeIn K (.ref XC_NoSigns) = some (.type "type"))
    (ehg_NoSigns : PySem.W.findIn K (.ref XC_NoSigns) "__getattribute__" = some (some (.builtin "BaseException.__getattribute__")))
    (ehk_NoSigns : PySem.W.findIn K (.ref XC_NoSigns) "__getattr__" = some none)
    (ehs_NoSigns : PySem.W.subIn K (.ref XC_NoSigns) (.type "BaseException") = some true)
    (ehd_NoSigns : PySem.W.hasDictIn K XC_NoSigns = true)
    (eha_NoSigns : PySem.W.findIn K (.ref XC_NoSigns) "__class__" = some (some (.builtin "object.__class__")))
    (ehn_NoSigns : PySem.W.specialIn K (.builtin "object.__class__") "__get__" = some (some (.builtin "getset_descriptor.__get__")))
    (eht_NoSigns : PySem.W.takesIn K (.builtin "object.__class__") = some true)
    (ehm_NoSigns : PySem.W.mroIn K XC_NoSigns (.type "object") = some true)
    (xe_NoSigns : PySem.W.exmOne K (.ref XC_NoSigns) (.ref XC_NoSigns) = some true)
    (kt_NoSigns_FewError : PySem.W.kitOne K (.ref XC_NoSigns) (.ref XC_FewError) = some true)
    (kt_NoSigns_NoNaming_NoPart_NoRow_NoSaying_NoSize_NoText_NoWorld_TooMany : PySem.W.kitAny K (.ref XC_NoSigns) [.ref XC_NoNaming, .ref XC_NoPart, .ref XC_NoRow, .ref XC_NoSaying, .ref XC_NoSize, .ref XC_NoText, .ref XC_NoWorld, .ref XC_TooMany] = some false)
    (kt_NoSigns_ValueError : PySem.W.kitOne K (.ref XC_NoSigns) (.type "ValueError") = some true)
    (na_Signs_own_functions : PySem.W.findIn K (.ref C_Signs) "own_functions" = some none)
    (na_Signs_own_kinds : PySem.W.findIn K (.ref C_Signs) "own_kinds" = some none)
    (na_Signs_own_ties : PySem.W.findIn K (.ref C_Signs) "own_ties" = some none)
    (z_ValueError : PySem.W.nsIn K mainGlobals "ValueError" = some none)
    (z_abs : PySem.W.nsIn K mainGlobals "abs" = some none)
    (z_all : PySem.W.nsIn K mainGlobals "all" = some none)
    (z_divmod : PySem.W.nsIn K mainGlobals "divmod" = some none)
    (z_enumerate : PySem.W.nsIn K mainGlobals "enumerate" = some none)
    (z_int : PySem.W.nsIn K mainGlobals "int" = some none)
    (z_isinstance : PySem.W.nsIn K mainGlobals "isinstance" = some none)
    (z_len : PySem.W.nsIn K mainGlobals "len" = some none)
    (z_list : PySem.W.nsIn K mainGlobals "list" = some none)
    (z_max : PySem.W.nsIn K mainGlobals "max" = some none)
    (z_range : PySem.W.nsIn K mainGlobals "range" = some none)
    (z_repr : PySem.W.nsIn K mainGlobals "repr" = some none)
    (z_set : PySem.W.nsIn K mainGlobals "set" = some none)
    (z_str : PySem.W.nsIn K mainGlobals "str" = some none)
    (z_tuple : PySem.W.nsIn K mainGlobals "tuple" = some none)
    (v_LETTERS : PySem.W.nsIn K mainGlobals "LETTERS" = some (some (.str (Str.ofString "abcdefghijklmnopqrstuvwxyz") tk_LETTERS)))
    (v_MOST_KINDS : PySem.W.nsIn K mainGlobals "MOST_KINDS" = some (some (.int 4 tk_MOST_KINDS)))
    (v_MOST_LETTERS : PySem.W.nsIn K mainGlobals "MOST_LETTERS" = some (some (.int 12 tk_MOST_LETTERS)))
    (v_MOST_PLACES : PySem.W.nsIn K mainGlobals "MOST_PLACES" = some (some (.int 2 tk_MOST_PLACES)))
    (v_MOST_SIGNS : PySem.W.nsIn K mainGlobals "MOST_SIGNS" = some (some (.int 8 tk_MOST_SIGNS)))
    (v_TAKEN : PySem.W.nsIn K mainGlobals "TAKEN" = some (some (.ref at_TAKEN)))
    (o_TAKEN : K.lookup at_TAKEN = some ⟨.type "tuple", dd_TAKEN, .seq #[.str (Str.ofString "all") tk_TAKEN0, .str (Str.ofString "some") tk_TAKEN1, .str (Str.ofString "not") tk_TAKEN2, .str (Str.ofString "and") tk_TAKEN3, .str (Str.ofString "or") tk_TAKEN4] nn_TAKEN, sl_TAKEN⟩)
    : ∃ g : Fnt, (∀ ns : List Int, ns.length ≤ 63 → ∃ S2, g [.f (.scr ns)] [.hp []] = .ok (.bl true) S2) ∧ ∀ base : Heap, K.In base → base.Ns mainGlobals mg → Cal P w K mg base 8 fa (spF K .frz g) := by
  have T := mkT X G aC_Signs a_l_pot l_l_pot c_l_pot k_l_pot a_l_draw l_l_draw c_l_draw k_l_draw a_l_unlike l_l_unlike c_l_unlike k_l_unlike a_l_book l_l_book c_l_book k_l_book a_l_cell l_l_cell c_l_cell k_l_cell a_l_row l_l_row c_l_row k_l_row a_l_name l_l_name c_l_name k_l_name a_l_sign l_l_sign c_l_sign k_l_sign a_l_is_book l_l_is_book c_l_is_book k_l_is_book a_l_put l_l_put c_l_put k_l_put a_l_list_odd l_l_list_odd c_l_list_odd k_l_list_odd a_l_odd l_l_odd c_l_odd k_l_odd a_l_spoilt_sign l_l_spoilt_sign c_l_spoilt_sign k_l_spoilt_sign a_l_spoilt l_l_spoilt c_l_spoilt k_l_spoilt a_is_listed l_is_listed c_is_listed k_is_listed a_is_name l_is_name c_is_name k_is_name a_are_kinds l_are_kinds c_are_kinds k_are_kinds a_is_sign_name l_is_sign_name c_is_sign_name k_is_sign_name a_is_kind l_is_kind c_is_kind k_is_kind a_are_places l_are_places c_are_places k_are_places a_is_tie l_is_tie c_is_tie k_is_tie a_is_function l_is_function c_is_function k_is_function a_are_signs l_are_signs c_are_signs k_are_signs a_Signs_ini i_Signs_ini l_Signs_ini c_Signs_ini k_Signs_ini a_l_just l_l_just c_l_just k_l_just a_l_told l_l_told c_l_told k_l_told a_law l_law c_law k_law pg_Signs hd_Signs po_Signs sa_Signs mk_Signs kc_Signs xg_FewError xg_NoNaming xg_NoPart xg_NoRow xg_NoSaying xg_NoSigns xg_NoSize xg_NoText xg_NoWorld xg_TooMany xk_NoSigns xi_NoSigns xs_NoSigns xt_NoSigns ehg_NoSigns ehk_NoSigns ehs_NoSigns ehd_NoSigns eha_NoSigns ehn_NoSigns eht_NoSigns ehm_NoSigns xe_NoSigns kt_NoSigns_FewError kt_NoSigns_NoNaming_NoPart_NoRow_NoSaying_NoSize_NoText_NoWorld_TooMany kt_NoSigns_ValueError na_Signs_own_functions na_Signs_own_kinds na_Signs_own_ties z_ValueError z_abs z_all z_divmod z_enumerate z_int z_isinstance z_len z_list z_max z_range z_repr z_set z_str z_tuple v_LETTERS v_MOST_KINDS v_MOST_LETTERS v_MOST_PLACES v_MOST_SIGNS v_TAKEN o_TAKEN
  have e := hfa.symm.trans T.m_law
  cases e
  exact ⟨F_law _, hp _, fun base _ _ => ok_law T⟩
end Fw

set_option  maxHeartbeats 4000000
namespace Fw
open PySem L2

/-! ### what is no cell is read as it is -/
@[simp] theorem rs_non {S : Sto} : rs S .non = some .non := rfl
@[simp] theorem rs_bl {S : Sto} {b : Bool} : rs S (.bl b) = some (.bl b) := rfl
@[simp] theorem rs_int {S : Sto} {i : Int} : rs S (.int i) = some (.int i) := rfl
@[simp] theorem rs_str {S : Sto} {x : Str} : rs S (.str x) = some (.str x) := rfl
@[simp] theorem rs_lst {S : Sto} {xs : List D} : rs S (.lst xs) = some (.lst xs) := rfl
@[simp] theorem rs_tupl {S : Sto} {xs : List D} : rs S (.tup xs) = some (.tup xs) := rfl
@[simp] theorem rs_dK {S : Sto} {kvs : List (Key × D)} : rs S (.dK kvs) = some (.dK kvs) := rfl
@[simp] theorem rs_ob {S : Sto} {C : Addr} {fs : List (Str × D)} : rs S (.ob C fs) = some (.ob C fs) := rfl
@[simp] theorem rs_scr {S : Sto} {ns : List Int} : rs S (.scr ns) = some (.scr ns) := rfl

/-! ### loops -/
theorem compL_pure {tg : Tgt} {fe : E D} {env : Env} {S : Sto} (g : D → D) (us : D → List (Nat × D)) : ∀ {ds : List D}, (∀ d ∈ ds, tg d = some (us d) ∧ fe (setE env (us d)) S = .ok (g d) S) → compL tg yesE fe ds env S = .ok (ds.map g) S
  | [], _ => rfl
  | d :: ds, h => by
    obtain ⟨h1, h2⟩ := h d (by simp)
    have ih := compL_pure g us (ds := ds) fun x hx => h x (by simp [hx])
    simp [compL, h1, h2, yesE, R.nx, ih]
theorem compE_pure {vs : List Nat} {tg : Tgt} {fi : E (List D)} {fe : E D} {env : Env} {S : Sto} {ds : List D} (g : D → D) (us : D → List (Nat × D)) (hi : fi env S = .ok ds S) (hz : sz ds.length = true) (h : ∀ d ∈ ds, tg d = some (us d) ∧ fe (setE (wipeE env vs) (us d)) S = .ok (g d) S) :
    compE vs tg fi yesE fe env S = .ok (.lst (ds.map g)) S := by
  unfold compE bindE
  rw [hi]
  show (if sz ds.length then _ else _) = _
  rw [hz, if_pos rfl, compL_pure g us h]
  rfl
theorem forL_inv {tg : Tgt} {body : Stm} (I : Nat → Env → Sto → Prop) : ∀ (ds : List D) (k : Nat) (env : Env) (S : Sto), (∀ i d env S, ds[i]? = some d → I (k + i) env S → ∃ us env' S', tg d = some us ∧ body (setE env us) S = .nx env' S' ∧ I (k + i + 1) env' S') → I k env S →
    ∃ env' S', forL tg body ds env S = .nx env' S' ∧ I (k + ds.length) env' S'
  | [], k, env, S, _, h0 => ⟨env, S, rfl, h0⟩
  | d :: ds, k, env, S, h, h0 => by
    obtain ⟨us, e1, S1, h1, h2, h3⟩ := h 0 d env S rfl h0
    obtain ⟨e2, S2, h4, h5⟩ := forL_inv I ds (k + 1) e1 S1 (fun i d env S hi hI => by
      have q := h (i + 1) d env S hi
      rw [show k + 1 + i = k + (i + 1) by omega] at hI ⊢
      exact q hI) h3
    refine ⟨e2, S2, ?_, ?_⟩
    · simp [forL, h1, h2, RS.bind, h4]
    · rw [show k + (d :: ds).length = k + 1 + ds.length by simp; omega]
      exact h5
theorem forS_inv {tg : Tgt} {body : Stm} {fi : E (List D)} {env : Env} {S : Sto} {ds : List D} (I : Nat → Env → Sto → Prop) (hi : fi env S = .ok ds S) (h0 : I 0 env S) (h : ∀ i d env S, ds[i]? = some d → I i env S → ∃ us env' S', tg d = some us ∧ body (setE env us) S = .nx env' S' ∧ I (i + 1) env' S') :
    ∃ env' S', forS tg fi body env S = .nx env' S' ∧ I ds.length env' S' := by
  obtain ⟨e, S', h1, h2⟩ := forL_inv (tg := tg) (body := body) I ds 0 env S (fun i d env S hd hI => by
    rw [Nat.zero_add] at hI ⊢
    exact h i d env S hd hI) h0
  refine ⟨e, S', ?_, by rwa [Nat.zero_add] at h2⟩
  unfold forS
  rw [hi]
  exact h1

/-! ### what is drawn -/
abbrev Pot := Int × Int
def potC (p : Pot) : Cl := .d (.lst [.int p.1, .int p.2, .int 0])
def mixI (b : Int) : Int := (b * 48271 + 11) % 2147483647
def drawI (p : Pot) (m : Int) : Int := if 0 < p.1 then p.1 % m else mixI p.2 * mixI p.2 % 2147483629 / 3 % m
def drawP (p : Pot) (m : Int) : Pot := if 0 < p.1 then (p.1 / m, p.2) else (p.1, mixI p.2)
theorem mixI_lt (b : Int) : 0 ≤ mixI b ∧ mixI b < 2147483647 := ⟨Int.emod_nonneg _ (by decide), Int.emod_lt_of_pos _ (by decide)⟩
theorem drawI_lt (p : Pot) {m : Int} (h : 0 < m) : 0 ≤ drawI p m ∧ drawI p m < m := by
  unfold drawI
  split <;> exact ⟨Int.emod_nonneg _ (by omega), Int.emod_lt_of_pos _ h⟩
theorem take_set {α : Type} (S : List α) (n : Nat) (x : α) : (S.set n x).take S.length = S.set n x := List.take_of_length_le (by rw [List.length_set]; exact Nat.le_refl _)
theorem cMul_c (b : Int) : cMul b 48271 = true := by
  unfold cMul
  rw [decide_eq_true (p := (48271 : Int).natAbs < 18446744073709551616) (by decide), Bool.or_true]
theorem cMul_b {b : Int} (h : 0 ≤ b) (h2 : b < 2147483647) : cMul b b = true := by
  have : b.natAbs < 18446744073709551616 := by omega
  unfold cMul
  rw [decide_eq_true this]
  rfl
theorem cDiv_of {m : Int} (n : Int) (h0 : 0 < m) (h1 : m < 1073741824) : cDiv n m = true := by
  unfold cDiv
  rw [decide_eq_true h0, decide_eq_true (p := m.natAbs < 1073741824) (by omega)]
  rfl
theorem sz_of {k : Nat} (h : k ≤ 16777216) : sz k = true := decide_eq_true h
theorem rng1_nat {k : Nat} (h : k ≤ 16777216) : rng1 (.int k) = some ((List.range k).map fun i => D.int (i : Nat)) := by
  have h1 : (k : Int).natAbs < 4611686018427387904 := by omega
  unfold rng1
  dsimp only
  rw [decide_eq_true h1]
  rfl
theorem draw_ok (cs : Cs) (n : Nat) (p : Pot) (m : Int) (S : Sto) (hS : S[n]? = some (potC p)) (h0 : 0 < m) (h1 : m < 1073741824) : F_l_draw cs [.m n, .f (.int m)] S = .ok (.int (drawI p m)) (S.set n (potC (drawP p m))) := by
  have hn : n < S.length := (List.getElem?_eq_some_iff.mp hS).1
  obtain ⟨m1, m2⟩ := mixI_lt p.2
  unfold potC at hS
  by_cases c : 0 < p.1
  · simp [F_l_draw, B_l_draw, defF, bodyF, frame, seqS, iffS, RS.bind, R.st, tst, opE, bindE, kE, R.bind, R.get, vB, vF, retS, retV, kOk, skipS, callE, consF, consM, cellV, nilW, b1E, asB, setS, ownS, ownS.isRef, frzS, tupE, lstE, consE, nilE, partE, noPart, isCell, cIxE, cellD, hS, ixD, atD, ixN, gtI, gI, asB, c, divS, divF, gIc, cDiv_of _ h0 h1, h0, h1, drawI, drawP, potC, take_set]
  · have g : ∀ x : Cl, (S.set n x)[n]? = some x := fun x => List.getElem?_set_self hn
    have e := cMul_b m1 m2
    unfold mixI at e
    simp [F_l_draw, B_l_draw, defF, bodyF, frame, seqS, iffS, RS.bind, R.st, tst, opE, bindE, kE, R.bind, R.get, vB, vF, retS, retV, kOk, skipS, callE, consF, consM, cellV, nilW, b1E, asB, setS, ownS, ownS.isRef, frzS, tupE, lstE, consE, nilE, partE, noPart, isCell, cIxE, cellD, hS, ixD, atD, ixN, gtI, gI, c, gIc, cDiv_of _ (show (0 : Int) < 3 by decide) (by decide), h0, drawI, drawP, potC, take_set, cPutS, plusG, orG, addI, mulI, modI, divI, getE, asI, cMul_c, g, e, mixI]
theorem pot_ok (cs : Cs) (x : Int) (S : Sto) : ∃ p : Pot, F_l_pot cs [.f (.int x)] S = .ok (.lst [.int p.1, .int p.2, .int 0]) S := by
  simp [F_l_pot, B_l_pot, defF, bodyF, frame, seqS, iffS, RS.bind, R.st, tst, opE, bindE, kE, R.bind, R.get, vB, vF, retS, retV, kOk, skipS, callE, consF, consM, cellV, nilW, b1E, asB, setS, ownS, ownS.isRef, frzS, tupE, lstE, consE, nilE, partE, noPart, sz, plusG, orG, addI, subI, mulI, divI, modI, powI, ltI, leI, gtI, geI, gI, gIc, maxI, absD, cPow]
theorem cell_ok (cs : Cs) (ns : List Int) (S : Sto) : ∃ x, F_l_cell cs [.f (.scr ns), .f (.int 0)] S = .ok (.int x) S := by
  cases ns with
  | nil => simp [F_l_cell, B_l_cell, defF, bodyF, frame, seqS, iffS, RS.bind, R.st, tst, opE, bindE, kE, R.bind, R.get, vB, vF, retS, retV, kOk, skipS, callE, consF, consM, cellV, nilW, b1E, asB, setS, ownS, ownS.isRef, frzS, tupE, lstE, consE, nilE, partE, noPart, ltI, gI, lenD2, lenD]
  | cons n ns => simp [F_l_cell, B_l_cell, defF, bodyF, frame, seqS, iffS, RS.bind, R.st, tst, opE, bindE, kE, R.bind, R.get, vB, vF, retS, retV, kOk, skipS, callE, consF, consM, cellV, nilW, b1E, asB, setS, ownS, ownS.isRef, frzS, tupE, lstE, consE, nilE, partE, noPart, ltI, gI, lenD2, lenD, ixG, ixD, ixS, ixK, atD, ixN, orG, atI]

/-! ### a menu drawn from -/
section
variable (S0 : Sto) (n : Nat)
def Ts (p : Pot) (left : List D) : Sto := S0.set n (potC p) ++ [.d (.lst left)]
variable {S0 n} {p q : Pot} {left r : List D}
theorem Ts_n (hn : n < S0.length) : (Ts S0 n p left)[n]? = some (potC p) := by
  unfold Ts
  rw [List.getElem?_append_left (by simpa using hn), List.getElem?_set_self hn]
theorem Ts_l : (Ts S0 n p left)[S0.length]? = some (.d (.lst left)) := by
  unfold Ts
  rw [List.getElem?_append_right (by simp), List.length_set, Nat.sub_self]
  rfl
theorem Ts_set_n (hn : n < S0.length) : (Ts S0 n p left).set n (potC q) = Ts S0 n q left := by
  unfold Ts
  rw [List.set_append_left _ _ (by simpa using hn), List.set_set]
theorem Ts_set_l : (Ts S0 n p left).set S0.length (.d (.lst r)) = Ts S0 n p r := by
  unfold Ts
  rw [List.set_append_right _ _ (by simp), List.length_set, Nat.sub_self]
  rfl
theorem Ts_take : (Ts S0 n p left).take S0.length = S0.set n (potC p) := by
  unfold Ts
  rw [List.take_append_of_le_length (by simp), take_set]
end
theorem unlike_step (cs : Cs) {S0 : Sto} {n : Nat} (hn : n < S0.length) (k : Int) (menu : D) : ∀ (ds : List D) (env : Env) (p : Pot) (left : List D), env[0]? = some (some (.m n)) → env[3]? = some (some (.m S0.length)) → 5 ≤ env.length → ds.length ≤ left.length → left.length < 1073741824 →
    ∃ xs q r, compL (tgN 4) yesE (isList 3 (cPopE 3 (callE (F_l_draw cs) (consM 0 (consF (cLenE 3) nilW))))) ds env (Ts S0 n p left) = .ok xs (Ts S0 n q r) ∧ xs.length = ds.length ∧ (xs ++ r).Perm left
  | [], env, p, left, _, _, _, _, _ => ⟨[], p, left, rfl, rfl, List.Perm.refl _⟩
  | d :: ds, env, p, left, e0, e3, el, hl, hb => by
    have hl : ds.length + 1 ≤ left.length := hl
    have l0 : (0 : Int) < left.length := by omega
    obtain ⟨j0, j1⟩ := drawI_lt p l0
    have dr := draw_ok cs n p left.length (Ts S0 n p left) (Ts_n hn) l0 (by omega)
    rw [Ts_set_n hn] at dr
    have s0 : (setE env [(4, d)])[0]? = some (some (.m n)) := by
      simp [setE, e0]
    have s3 : (setE env [(4, d)])[3]? = some (some (.m S0.length)) := by
      simp [setE, e3]
    have jb : (drawI p left.length).toNat < left.length := by omega
    have step : isList 3 (cPopE 3 (callE (F_l_draw cs) (consM 0 (consF (cLenE 3) nilW)))) (setE env [(4, d)]) (Ts S0 n p left) = .ok left[(drawI p left.length).toNat] (Ts S0 n (drawP p left.length) (left.eraseIdx (drawI p left.length).toNat)) := by
      have b1 : (drawI p left.length).natAbs < 9223372036854775808 := by omega
      simp [isList, cPopE, cellD, cLenE, s0, s3, Ts_l, defF, bodyF, frame, seqS, iffS, RS.bind, R.st, tst, opE, bindE, kE, R.bind, R.get, vB, vF, retS, retV, kOk, skipS, callE, consF, consM, cellV, nilW, b1E, asB, setS, ownS, ownS.isRef, frzS, tupE, lstE, consE, nilE, partE, noPart, lenD, dr, popD, ixN, j0, j1, b1, List.getElem?_eq_getElem jb, Ts_set_l]
    have hlen : (left.eraseIdx (drawI p left.length).toNat).length = left.length - 1 := by
      rw [List.length_eraseIdx, if_pos jb]
    obtain ⟨xs, q, r, h1, h2, h3⟩ := unlike_step cs hn k menu ds env (drawP p left.length) (left.eraseIdx (drawI p left.length).toNat) e0 e3 el (by omega) (by omega)
    refine ⟨left[(drawI p left.length).toNat] :: xs, q, r, ?_, by simp [h2], ?_⟩
    · simp [compL, tgN, yesE, R.nx, step, h1]
    · exact (List.Perm.cons _ h3).trans (erase_perm left _ _ (List.getElem?_eq_getElem jb))
theorem unlike_ok (cs : Cs) {S : Sto} {n : Nat} {p : Pot} (hS : S[n]? = some (potC p)) (k : Nat) (menu : List D) (hk : k ≤ menu.length) (hb : menu.length < 16777216) :
    ∃ xs q r, F_l_unlike cs [.m n, .f (.int k), .f (.lst menu)] S = .ok (.lst xs) (S.set n (potC q)) ∧ xs.length = k ∧ (xs ++ r).Perm menu := by
  have hn : n < S.length := (List.getElem?_eq_some_iff.mp hS).1
  have eS : S = S.set n (potC p) := by
    apply List.ext_getElem?
    intro i
    rw [List.getElem?_set]
    split
    · rename_i h
      subst h
      simp [hS]
    · rfl
  have e1 : S ++ [Cl.d (.lst menu)] = Ts S n p menu := by
    unfold Ts
    rw [← eS]
  obtain ⟨xs, q, r, h1, h2, h3⟩ := unlike_step cs hn k (.lst menu) ((List.range k).map fun i => D.int (i : Nat)) [some (.m n), some (.f (.int k)), some (.f (.lst menu)), some (.m S.length), none] p menu rfl rfl (by simp) (by simpa using hk) (by omega)
  refine ⟨xs, q, r, ?_, by simpa using h2, h3⟩
  have kb := rng1_nat (k := k) (by omega)
  have kb3 : sz k = true := sz_of (by omega)
  unfold F_l_unlike B_l_unlike
  generalize isList 3 (cPopE 3 (callE (F_l_draw cs) (consM 0 (consF (cLenE 3) nilW)))) = fe at h1 ⊢
  simp [defF, bodyF, frame, seqS, iffS, RS.bind, R.st, tst, opE, bindE, kE, R.bind, R.get, vB, vF, retS, retV, kOk, skipS, callE, consF, consM, cellV, nilW, b1E, asB, setS, ownS, ownS.isRef, frzS, tupE, lstE, consE, nilE, partE, noPart, listD, celS, e1, compE, getE, kb, kb3, wipeE, h1, R.nx, Ts_take]

/-! ### texts out of a menu -/
def unS : D → Str
  | .str x => x
  | _ => ""
theorem menu_part {xs r : List D} {m : List Str} (h : (xs ++ r).Perm (m.map D.str)) : ∃ ks rs : List Str, xs = ks.map D.str ∧ (ks ++ rs).Perm m := by
  have all : ∀ d ∈ xs ++ r, D.str (unS d) = d := fun d hd => by
    obtain ⟨x, _, rfl⟩ := List.mem_map.mp (h.mem_iff.mp hd)
    rfl
  refine ⟨xs.map unS, r.map unS, ?_, ?_⟩
  · rw [List.map_map]
    have e : xs.map (D.str ∘ unS) = xs.map id := List.map_congr_left fun d hd => all d (List.mem_append_left _ hd)
    rw [e, List.map_id]
  · have q := h.map unS
    rw [List.map_map, show (unS ∘ D.str) = id from rfl, List.map_id, List.map_append] at q
    exact q
structure Bk where
  kinds : List Str
  ties : List (Str × List Str)
  funs : List (Str × List Str × Str)
def txL (xs : List Str) : D := .lst (xs.map .str)
def tieL (t : Str × List Str) : D := .tup [.str t.1, txL t.2]
def funL (f : Str × List Str × Str) : D := .tup [.str f.1, txL f.2.1, .str f.2.2]
def bkD (b : Bk) : D := .tup [txL b.kinds, .lst (b.ties.map tieL), .lst (b.funs.map funL)]
def Bk.names (b : Bk) : List Str := b.ties.map (·.1) ++ b.funs.map (·.1)
def Pl (ks ps : List Str) : Prop := ps.length ≤ 2 ∧ ∀ k ∈ ps, k ∈ ks
structure Bk.Ok (N M : Str → Prop) (b : Bk) : Prop where
  k1 : 1 ≤ b.kinds.length
  k4 : b.kinds.length ≤ 4
  kn : b.kinds.Nodup
  km : ∀ k ∈ b.kinds, N k
  s8 : b.names.length ≤ 8
  sn : b.names.Nodup
  sm : ∀ x ∈ b.names, M x
  tp : ∀ t ∈ b.ties, Pl b.kinds t.2
  fp : ∀ f ∈ b.funs, Pl b.kinds f.2.1 ∧ f.2.2 ∈ b.kinds
def menuN : List Str := ["a", "b", "c", "all", "not", "x", "kind", "size", "r", "f", "abcdefghijkl"]
def menuM : List Str := ["r", "s", "q", "f", "g", "c", "x", "say", "holds", "none", "tie", "next", "zyxwvutsrqpo"]
/-- one of the kinds is drawn -/
theorem kind_ok (cs : Cs) {S : Sto} {n : Nat} {p : Pot} (hS : S[n]? = some (potC p)) (ks : List Str) (k1 : 1 ≤ ks.length) (k4 : ks.length ≤ 4) {env : Env} (e0 : env[0]? = some (some (.m n))) (e4 : env[4]? = some (some (.f (txL ks)))) :
    ∃ k q, opE ixG (vB 4) (callE (F_l_draw cs) (consM 0 (consF (b1E lenD2 (vB 4)) nilW))) env S = .ok (.str k) (S.set n (potC q)) ∧ k ∈ ks := by
  have l0 : (0 : Int) < ks.length := by omega
  obtain ⟨j0, j1⟩ := drawI_lt p l0
  have dr := draw_ok cs n p ks.length S hS l0 (by omega)
  have jb : (drawI p ks.length).toNat < ks.length := by omega
  refine ⟨ks[(drawI p ks.length).toNat], drawP p ks.length, ?_, List.getElem_mem _⟩
  simp [defF, bodyF, frame, seqS, iffS, RS.bind, R.st, tst, opE, bindE, kE, R.bind, R.get, vB, vF, retS, retV, kOk, skipS, callE, consF, consM, cellV, nilW, b1E, asB, setS, ownS, ownS.isRef, frzS, tupE, lstE, consE, nilE, partE, noPart, e0, e4, txL, lenD2, lenD, dr, ixG, ixD, ixS, ixK, atD, ixN, orG, j0, j1, List.getElem?_eq_getElem jb]
theorem set_set' {α : Type} (S : List α) (n : Nat) (x y : α) : (S.set n x).set n y = S.set n y := List.set_set ..
theorem places_step (cs : Cs) {n : Nat} (ks : List Str) (k1 : 1 ≤ ks.length) (k4 : ks.length ≤ 4) : ∀ (ds : List D) (env : Env) (S : Sto) (p : Pot), n < S.length → env[0]? = some (some (.m n)) → env[4]? = some (some (.f (txL ks))) →
    ∃ (ps : List Str) (q : Pot), compL (tgN 10) yesE (opE ixG (vB 4) (callE (F_l_draw cs) (consM 0 (consF (b1E lenD2 (vB 4)) nilW)))) ds env (S.set n (potC p)) = .ok (ps.map D.str) (S.set n (potC q)) ∧ ps.length = ds.length ∧ ∀ k ∈ ps, k ∈ ks
  | [], env, S, p, _, _, _ => ⟨[], p, rfl, rfl, fun _ h => nomatch h⟩
  | d :: ds, env, S, p, hn, e0, e4 => by
    have s0 : (setE env [(10, d)])[0]? = some (some (.m n)) := by
      simp [setE, e0]
    have s4 : (setE env [(10, d)])[4]? = some (some (.f (txL ks))) := by
      simp [setE, e4]
    obtain ⟨k, q, h1, h2⟩ := kind_ok cs (S := S.set n (potC p)) (n := n) (p := p) (List.getElem?_set_self hn) ks k1 k4 s0 s4
    rw [set_set'] at h1
    obtain ⟨ps, q', h3, h4, h5⟩ := places_step cs ks k1 k4 ds env S q hn e0 e4
    refine ⟨k :: ps, q', ?_, by simp [h4], fun x hx => ?_⟩
    · simp [compL, tgN, yesE, R.nx, h1, h3]
    · rcases List.mem_cons.mp hx with e | e
      · rw [e]
        exact h2
      · exact h5 x e
theorem four_ix (j : Int) (h0 : 0 ≤ j) (h1 : j < 4) : ∃ m : Nat, ixG (.lst [.int 0, .int 1, .int 1, .int 2]) (.int j) = some (.int (m : Nat)) ∧ m ≤ 2 := by
  have : j = 0 ∨ j = 1 ∨ j = 2 ∨ j = 3 := by omega
  rcases this with e | e | e | e <;> subst e
  · exact ⟨0, rfl, by omega⟩
  · exact ⟨1, rfl, by omega⟩
  · exact ⟨1, rfl, by omega⟩
  · exact ⟨2, rfl, by omega⟩

/-! ### the book -/
def bookE (n : Nat) (a b c : D) (ks : List Str) (nm : D) (ts : List (Str × List Str)) (fs : List (Str × List Str × Str)) (e8 e9 e10 : Option W) : Env :=
  [some (.m n), some (.f a), some (.f b), some (.f c), some (.f (txL ks)), some (.f nm), some (.o (.lst (ts.map tieL))), some (.o (.lst (fs.map funL))), e8, e9, e10]
def dr4 (cs : Cs) (k : Int) : E D := callE (F_l_draw cs) (consM 0 (consF (kE (.int k)) nilW))
def oneK (cs : Cs) : E D := opE ixG (vB 4) (callE (F_l_draw cs) (consM 0 (consF (b1E lenD2 (vB 4)) nilW)))
def bookL (cs : Cs) : Stm := (seqS (ownS 9 (compE [10] (tgN 10) (getE rng1 (opE ixG (lstE (consE (kE (.int 0)) (consE (kE (.int 1)) (consE (kE (.int 1)) (consE (kE (.int 2)) nilE))))) (dr4 cs 4))) yesE (oneK cs))) (seqS (frzS 9) (iffS (tst (opE ltI (dr4 cs 5) (kE (.int 3)))) (appS 6 (tupE (consE (vF 8) (consE (vF 9) nilE)))) (appS 7 (tupE (consE (vF 8) (consE (vF 9) (consE (oneK cs) nilE))))))))
theorem dr4_ok (cs : Cs) {S : Sto} {n : Nat} {p : Pot} {env : Env} (k : Int) (hn : n < S.length) (e0 : env[0]? = some (some (.m n))) (h0 : 0 < k) (h1 : k < 1073741824) : dr4 cs k env (S.set n (potC p)) = .ok (.int (drawI p k)) (S.set n (potC (drawP p k))) := by
  have d := draw_ok cs n p k (S.set n (potC p)) (List.getElem?_set_self hn) h0 h1
  rw [set_set'] at d
  simp [dr4, defF, bodyF, frame, seqS, iffS, RS.bind, R.st, tst, opE, bindE, kE, R.bind, R.get, vB, vF, retS, retV, kOk, skipS, callE, consF, consM, cellV, nilW, b1E, asB, setS, ownS, ownS.isRef, frzS, tupE, lstE, consE, nilE, partE, noPart, e0, d]
theorem book_step (cs : Cs) {S : Sto} {n : Nat} {p : Pot} (hn : n < S.length) {a b c nm : D} {ks : List Str} (k1 : 1 ≤ ks.length) (k4 : ks.length ≤ 4) {ts : List (Str × List Str)} {fs : List (Str × List Str × Str)} (x : Str) (ht : ts.length ≤ 100) (hf : fs.length ≤ 100) (e8 e9 e10 : Option W) :
    ∃ (ps : List Str) (q : Pot) (e9' e10' : Option W), Pl ks ps ∧ (bookL cs (bookE n a b c ks nm ts fs (some (.f (.str x))) e9 e10) (S.set n (potC p)) = .nx (bookE n a b c ks nm (ts ++ [(x, ps)]) fs (some (.f (.str x))) e9' e10') (S.set n (potC q)) ∨
      ∃ k ∈ ks, bookL cs (bookE n a b c ks nm ts fs (some (.f (.str x))) e9 e10) (S.set n (potC p)) = .nx (bookE n a b c ks nm ts (fs ++ [(x, ps, k)]) (some (.f (.str x))) e9' e10') (S.set n (potC q))) := by
  obtain ⟨j0, j1⟩ := drawI_lt p (show (0 : Int) < 4 by decide)
  obtain ⟨m, m1, m2⟩ := four_ix _ j0 j1
  have r1 := rng1_nat (k := m) (by omega)
  have d4 := fun (env : Env) e0 => dr4_ok cs (S := S) (n := n) (p := p) (env := env) 4 hn e0 (by decide) (by decide)
  obtain ⟨ps, q, h1, h2, h3⟩ := places_step cs ks k1 k4 ((List.range m).map fun i => D.int (i : Nat)) (bookE n a b c ks nm ts fs (some (.f (.str x))) e9 none) S (drawP p 4) hn rfl rfl
  have d5 := fun (env : Env) e0 => dr4_ok cs (S := S) (n := n) (p := q) (env := env) 5 hn e0 (by decide) (by decide)
  have kd : ∀ env : Env, env[0]? = some (some (.m n)) → env[4]? = some (some (.f (txL ks))) → ∃ k q', oneK cs env (S.set n (potC (drawP q 5))) = .ok (.str k) (S.set n (potC q')) ∧ k ∈ ks := fun env g0 g4 => by
    obtain ⟨k, q', z1, z2⟩ := kind_ok cs (S := S.set n (potC (drawP q 5))) (n := n) (List.getElem?_set_self hn) ks k1 k4 g0 g4
    rw [set_set'] at z1
    exact ⟨k, q', z1, z2⟩
  obtain ⟨k, q', z1, z2⟩ := kd (bookE n a b c ks nm ts fs (some (.f (.str x))) (some (.f (txL ps))) e10) rfl rfl
  have sm : sz ((List.range m).map fun i => D.int (i : Nat)).length = true := sz_of (by simp; omega)
  have pl : Pl ks ps := ⟨by rw [h2]; simpa using m2, h3⟩
  have first : ownS 9 (compE [10] (tgN 10) (getE rng1 (opE ixG (lstE (consE (kE (.int 0)) (consE (kE (.int 1)) (consE (kE (.int 1)) (consE (kE (.int 2)) nilE))))) (dr4 cs 4))) yesE (oneK cs)) (bookE n a b c ks nm ts fs (some (.f (.str x))) e9 e10) (S.set n (potC p)) =
      .nx (bookE n a b c ks nm ts fs (some (.f (.str x))) (some (.o (txL ps))) e10) (S.set n (potC q)) := by
    have i1 : getE rng1 (opE ixG (lstE (consE (kE (.int 0)) (consE (kE (.int 1)) (consE (kE (.int 1)) (consE (kE (.int 2)) nilE))))) (dr4 cs 4)) (bookE n a b c ks nm ts fs (some (.f (.str x))) e9 e10) (S.set n (potC p)) = .ok ((List.range m).map fun i => D.int (i : Nat)) (S.set n (potC (drawP p 4))) := by
      have e := d4 (bookE n a b c ks nm ts fs (some (.f (.str x))) e9 e10) rfl
      generalize dr4 cs 4 = f4 at e ⊢
      simp [getE, opE, lstE, consE, nilE, bindE, kE, R.bind, R.get, sz, e, m1, r1]
    have i2 : compE [10] (tgN 10) (getE rng1 (opE ixG (lstE (consE (kE (.int 0)) (consE (kE (.int 1)) (consE (kE (.int 1)) (consE (kE (.int 2)) nilE))))) (dr4 cs 4))) yesE (oneK cs) (bookE n a b c ks nm ts fs (some (.f (.str x))) e9 e10) (S.set n (potC p)) = .ok (txL ps) (S.set n (potC q)) := by
      unfold compE bindE
      rw [i1]
      show (if sz _ then _ else _) = _
      rw [sm, if_pos rfl]
      rw [show wipeE (bookE n a b c ks nm ts fs (some (.f (.str x))) e9 e10) [10] = bookE n a b c ks nm ts fs (some (.f (.str x))) e9 none from rfl]
      unfold oneK
      rw [h1]
      rfl
    unfold ownS
    rw [i2]
    rfl
  have lt : sz ((ts.map tieL).length + 1) = true := sz_of (by simp; omega)
  have lf : sz ((fs.map funL).length + 1) = true := sz_of (by simp; omega)
  have s2 : sz 2 = true := sz_of (by omega)
  have s3 : sz 3 = true := sz_of (by omega)
  have e5 := d5 (bookE n a b c ks nm ts fs (some (.f (.str x))) (some (.f (txL ps))) e10) rfl
  by_cases c5 : drawI q 5 < 3
  · refine ⟨ps, drawP q 5, some (.f (txL ps)), e10, pl, .inl ?_⟩
    unfold bookL
    generalize oneK cs = f1 at *
    generalize dr4 cs 5 = f5 at *
    unfold seqS
    rw [first]
    unfold bookE at e5
    simp only [List.length_map] at lt
    simp [RS.bind, frzS, bookE, iffS, R.st, tst, opE, bindE, e5, R.bind, kE, R.get, ltI, gI, asB, c5, appS, tupE, consE, nilE, vF, s2, lt, tieL]
  · refine ⟨ps, q', some (.f (txL ps)), e10, pl, .inr ⟨k, z2, ?_⟩⟩
    unfold bookL
    generalize oneK cs = f1 at *
    generalize dr4 cs 5 = f5 at *
    unfold seqS
    rw [first]
    unfold bookE at e5 z1
    simp only [List.length_map] at lf
    simp [RS.bind, frzS, bookE, iffS, R.st, tst, opE, bindE, e5, R.bind, kE, R.get, ltI, gI, asB, c5, appS, tupE, consE, nilE, vF, s3, lf, funL, z1]

/-- what is known of the ties and functions made of the names so far -/
structure Half (ks nm : List Str) (ts : List (Str × List Str)) (fs : List (Str × List Str × Str)) : Prop where
  pm : (ts.map (·.1) ++ fs.map (·.1)).Perm nm
  tp : ∀ t ∈ ts, Pl ks t.2
  fp : ∀ f ∈ fs, Pl ks f.2.1 ∧ f.2.2 ∈ ks
theorem Half.tie {ks nm : List Str} {ts : List (Str × List Str)} {fs : List (Str × List Str × Str)} (h : Half ks nm ts fs) (x : Str) {ps : List Str} (hp : Pl ks ps) : Half ks (nm ++ [x]) (ts ++ [(x, ps)]) fs := by
  refine ⟨?_, fun t ht => ?_, h.fp⟩
  · rw [List.map_append, List.append_assoc]
    exact (List.perm_append_comm_assoc _ _ _).symm.trans (List.Perm.symm ((List.perm_append_comm).trans (List.Perm.cons x h.pm.symm)))
  · rcases List.mem_append.mp ht with e | e
    · exact h.tp t e
    · rw [List.mem_singleton.mp e]
      exact hp
theorem Half.fn {ks nm : List Str} {ts : List (Str × List Str)} {fs : List (Str × List Str × Str)} (h : Half ks nm ts fs) (x : Str) {ps : List Str} {k : Str} (hp : Pl ks ps) (hk : k ∈ ks) : Half ks (nm ++ [x]) ts (fs ++ [(x, ps, k)]) := by
  refine ⟨?_, h.tp, fun t ht => ?_⟩
  · rw [List.map_append, ← List.append_assoc]
    exact h.pm.append_right _
  · rcases List.mem_append.mp ht with e | e
    · exact h.fp t e
    · rw [List.mem_singleton.mp e]
      exact ⟨hp, hk⟩
theorem book_loop (cs : Cs) {S : Sto} {n : Nat} (hn : n < S.length) {a b c nm : D} {ks : List Str} (k1 : 1 ≤ ks.length) (k4 : ks.length ≤ 4) : ∀ (xs done : List Str) (ts : List (Str × List Str)) (fs : List (Str × List Str × Str)) (p : Pot) (e8 e9 e10 : Option W), Half ks done ts fs → done.length + xs.length ≤ 100 →
    ∃ ts' fs' q e8' e9' e10', forL (tgN 8) (bookL cs) (xs.map D.str) (bookE n a b c ks nm ts fs e8 e9 e10) (S.set n (potC p)) = .nx (bookE n a b c ks nm ts' fs' e8' e9' e10') (S.set n (potC q)) ∧ Half ks (done ++ xs) ts' fs'
  | [], done, ts, fs, p, e8, e9, e10, h, _ => ⟨ts, fs, p, e8, e9, e10, rfl, by simpa using h⟩
  | x :: xs, done, ts, fs, p, e8, e9, e10, h, hl => by
    have hl : done.length + (xs.length + 1) ≤ 100 := hl
    have len : ts.length + fs.length = done.length := by
      have := h.pm.length_eq
      simpa using this
    obtain ⟨ps, q, e9', e10', pl, z⟩ := book_step cs hn (p := p) (a := a) (b := b) (c := c) (nm := nm) k1 k4 x (ts := ts) (fs := fs) (by omega) (by omega) e8 e9 e10
    have st : setE (bookE n a b c ks nm ts fs e8 e9 e10) [(8, .str x)] = bookE n a b c ks nm ts fs (some (.f (.str x))) e9 e10 := rfl
    rcases z with z | ⟨k, hk, z⟩
    · obtain ⟨ts', fs', q', f8, f9, f10, g1, g2⟩ := book_loop cs hn k1 k4 (a := a) (b := b) (c := c) (nm := nm) xs (done ++ [x]) _ _ q (some (.f (.str x))) e9' e10' (h.tie x pl) (by simp; omega)
      refine ⟨ts', fs', q', f8, f9, f10, ?_, by simpa using g2⟩
      simp [forL, tgN, st, z, RS.bind, g1]
    · obtain ⟨ts', fs', q', f8, f9, f10, g1, g2⟩ := book_loop cs hn k1 k4 (a := a) (b := b) (c := c) (nm := nm) xs (done ++ [x]) _ _ q (some (.f (.str x))) e9' e10' (h.fn x pl hk) (by simp; omega)
      refine ⟨ts', fs', q', f8, f9, f10, ?_, by simpa using g2⟩
      simp [forL, tgN, st, z, RS.bind, g1]
def menuE (xs : List Str) : E D := lstE (xs.foldr (fun x t => consE (kE (.str x)) t) nilE)
theorem menuE_ok {xs : List Str} {env : Env} {S : Sto} (h : sz xs.length = true) : menuE xs env S = .ok (.lst (xs.map D.str)) S := by
  have k : ∀ xs : List Str, (xs.foldr (fun x t => consE (kE (.str x)) t) nilE) env S = .ok (xs.map D.str) S := fun xs => by
    induction xs with
    | nil => rfl
    | cons x xs ih =>
      rw [List.foldr_cons]
      generalize List.foldr (fun x t => consE (kE (.str x)) t) nilE xs = f at ih ⊢
      simp [consE, bindE, kE, R.bind, ih]
  simp [menuE, lstE, bindE, k, R.bind, h]
end Fw

set_option  maxHeartbeats 4000000
namespace Fw
open PySem L2

/-! ### walks of what is no cell -/
theorem forLC_no (tg : Tgt) (body : Stm) : ∀ ds : List D, forLC noChk (fun _ => tg) body ds = forL tg body ds
  | [] => rfl
  | d :: ds => by
    funext env S
    show (match tg d with | none => RS.no | some us => (body (setE env us) S).bind (forLC noChk (fun _ => tg) body ds)) = _
    rw [forLC_no tg body ds]
    rfl
theorem forX_L {tg : Tgt} {fe : E D} {body : Stm} {env : Env} {S S1 : Sto} {d : D} {ds : List D} (h : fe env S = .ok d S1) (h1 : celN d = none) (h2 : seqI d = some ds) : forX (fun _ => tg) fe body env S = forL tg body ds env S1 := by
  unfold forX
  rw [h]
  show (match celN d with
  | some n => (match hpL S1 n with
    | some ds => forLC (chkL n ds) (fun _ => tg) body ds env S1
    | none => .no)
  | none => (match seqI d with
    | some ds => forLC noChk (fun _ => tg) body ds env S1
    | none => .no)) = _
  rw [h1, h2, ← forLC_no]

/-! ### names, signs -/
theorem eqG_int (neg : Bool) (i j : Int) : eqG neg (.int i) (.int j) = some (.bl (if neg then !(i == j) else i == j)) := rfl
theorem shaped_str {x : Str} (h : PyData.strOk x = true) : SeqAt.shaped (D.py (.str x)) = true := by
  show (PyData.strOk x && true) = true
  rw [h]; rfl
theorem eqG_str (neg : Bool) {x y : Str} (hx : PyData.strOk x = true) (hy : PyData.strOk y = true) : eqG neg (.str x) (.str y) = some (.bl (if neg then !(x == y) else x == y)) := by
  unfold eqG
  rw [shaped_str hx, shaped_str hy]
  rfl
def letters : Str := "abcdefghijklmnopqrstuvwxyz"
def nameB (x : Str) : Bool := PyData.strOk x && !(x == "") && decide (x.length ≤ 12) && x.cps.toList.all fun c => !(Builtin.Str.occurrences letters ⟨#[c]⟩ 0 letters.length 1).isEmpty
def taken : List Str := ["all", "some", "not", "and", "or"]
def signB (x : Str) : Bool := nameB x && !(taken.any fun t => t == x)
theorem flat_strs (xs : List Str) : (xs.map D.str).all flatD = true := by
  induction xs with
  | nil => rfl
  | cons x xs ih => exact ih
theorem any_strs (xs : List Str) (k : Str) : ((xs.map D.str).any fun z => eqF z (.str k)) = xs.any fun x => x == k := by
  rw [List.any_map]
  rfl
theorem inA_sq (xs : List Str) (k : Str) (neg t : Bool) : inA neg (.str k) (if t then .tup (xs.map D.str) else .lst (xs.map D.str)) = some (.bl (if neg then !(xs.any fun x => x == k) else xs.any fun x => x == k)) := by
  have e : (flatD (D.str k) && (xs.map D.str).all flatD) = true := by rw [flat_strs]; rfl
  have k1 : inG neg (.str k) (.lst (xs.map D.str)) = some (.bl (if neg then !(xs.any fun x => x == k) else xs.any fun x => x == k)) := by
    unfold inG
    dsimp only
    rw [if_pos e, any_strs]
  have k2 : inG neg (.str k) (.tup (xs.map D.str)) = some (.bl (if neg then !(xs.any fun x => x == k) else xs.any fun x => x == k)) := by
    unfold inG
    dsimp only
    rw [if_pos e, any_strs]
  unfold inA orG
  cases t
  · rw [if_neg Bool.false_ne_true, k1]; rfl
  · rw [if_pos rfl, k2]; rfl
theorem inA_taken (neg : Bool) (k : Str) : inA neg (.str k) (.tup [.str "all", .str "some", .str "not", .str "and", .str "or"]) = some (.bl (if neg then !(taken.any fun t => t == k) else taken.any fun t => t == k)) := inA_sq taken k neg true
/-- lower letters -/
def Low (x : Str) : Prop := ∀ c ∈ x.cps.toList, 97 ≤ c ∧ c < 123
theorem low_app {x y : Str} (h : Low x) (g : Low y) : Low (x ++ y) := fun c hc => by
  have : c ∈ (x.cps ++ y.cps).toList := hc
  rw [Array.toList_append] at this
  rcases List.mem_append.mp this with z | z
  · exact h c z
  · exact g c z
theorem low_occ : ∀ c : Nat, 97 ≤ c → c < 123 → (!(Builtin.Str.occurrences letters ⟨#[c]⟩ 0 letters.length 1).isEmpty) = true := by
  have k : ∀ i : Fin 26, (!(Builtin.Str.occurrences letters ⟨#[97 + i.val]⟩ 0 letters.length 1).isEmpty) = true := by decide +kernel
  intro c h1 h2
  have := k ⟨c - 97, by omega⟩
  rwa [show 97 + (c - 97) = c by omega] at this
theorem low_ok {x : Str} (h : Low x) : PyData.strOk x = true := by
  unfold PyData.strOk
  rw [Array.all_eq_true']
  intro c hc
  have := h c (by simpa using hc)
  exact decide_eq_true (by omega)
theorem low_name {x : Str} (h : Low x) (h0 : 0 < x.length) (h1 : x.length ≤ 12) : nameB x = true := by
  have e : (x == ("" : Str)) = false := by
    cases q : x == ("" : Str) with
    | false => rfl
    | true =>
      rw [eq_of_beq q] at h0
      exact absurd h0 (by decide)
  unfold nameB
  rw [low_ok h, e, decide_eq_true h1]
  simp only [Bool.not_false, Bool.true_and]
  rw [List.all_eq_true]
  exact fun c hc => low_occ c (h c hc).1 (h c hc).2
theorem letters_cps : letters.cps.toList = (List.range 26).map (97 + ·) := by decide +kernel
theorem letters_len : letters.length = 26 := by decide +kernel
theorem letter_ix {j : Int} (h0 : 0 ≤ j) (h1 : j < 26) : ixG (.str letters) (.int j) = some (.str ⟨#[97 + j.toNat]⟩) := by
  have hj : j.toNat < 26 := by omega
  have : ixS (.str letters) (.int j) = some (.str ⟨#[97 + j.toNat]⟩) := by
    show (if sz letters.length then (atI letters.cps.toList j).map fun c => D.str ⟨#[c]⟩ else none) = _
    rw [letters_len, show sz 26 = true from sz_of (by omega), if_pos rfl]
    unfold atI
    rw [letters_cps]
    simp [ixN, h0, h1, hj]
  unfold ixG orG
  rw [this]
  rfl
/-! ### words -/
/-- names in general -/
def NmP (x : Str) : Prop := nameB x = true ∧ Low x
def SgP (x : Str) : Prop := signB x = true ∧ Low x
theorem sg_nm {x : Str} (h : signB x = true) : nameB x = true := (Bool.and_eq_true_iff.mp h).1
theorem SgP.nm {x : Str} (h : SgP x) : NmP x := ⟨sg_nm h.1, h.2⟩
theorem nil_cps : (Str.ofString "").cps = #[] := by decide +kernel
theorem nil_len : (Str.ofString "").length = 0 := by decide +kernel
theorem nil_low : Low (Str.ofString "") := fun c hc => by
  rw [nil_cps] at hc
  simp at hc
theorem glued_low {ys : List Str} (h : ∀ y ∈ ys, ∃ c, y = ⟨#[c]⟩ ∧ 97 ≤ c ∧ c < 123) : Low (Txt.join "" ys) ∧ (Txt.join "" ys).length = ys.length := by
  have k : ∀ ys : List Str, (∀ y ∈ ys, ∃ c, y = ⟨#[c]⟩ ∧ 97 ≤ c ∧ c < 123) → Low (Str.join "" ys) ∧ (Str.join "" ys).length = ys.length := by
    intro ys
    induction ys with
    | nil => intro _; exact ⟨fun c hc => by simp [Str.join, Str.empty] at hc, rfl⟩
    | cons y ys ih =>
      intro h
      obtain ⟨c, e, h1, h2⟩ := h y (by simp)
      have ly : Low y := fun d hd => by
        rw [e] at hd
        have : d = c := by simpa using hd
        rw [this]
        exact ⟨h1, h2⟩
      have ll : y.length = 1 := by rw [e]; rfl
      cases ys with
      | nil => exact ⟨ly, ll⟩
      | cons z r =>
        obtain ⟨i1, i2⟩ := ih fun u hu => h u (by simp [hu])
        refine ⟨low_app (low_app ly nil_low) i1, ?_⟩
        show (y ++ "" ++ Str.join "" (z :: r)).length = _
        rw [Str.length_append, Str.length_append, i2, ll, nil_len]
        simp only [List.length_cons]
        omega
  have e : Txt.join "" ys = Str.join "" ys := by
    unfold Txt.join
    exact StrLaws.glued_eq_join _ _
  rw [e]
  exact k ys h
end Fw

set_option  maxHeartbeats 4000000
namespace Fw
open PySem L2

theorem hN0 : ∀ x ∈ menuN, (nameB x && x.cps.toList.all fun c => decide (97 ≤ c) && decide (c < 123)) = true := by decide +kernel
theorem hM0 : ∀ x ∈ menuM, (signB x && x.cps.toList.all fun c => decide (97 ≤ c) && decide (c < 123)) = true := by decide +kernel
theorem low_of {x : Str} (h : (x.cps.toList.all fun c => decide (97 ≤ c) && decide (c < 123)) = true) : Low x := fun c hc => by
  have := List.all_eq_true.mp h c hc
  simpa using this
theorem hN (x : Str) (h : x ∈ menuN) : NmP x := by
  obtain ⟨a, b⟩ := Bool.and_eq_true_iff.mp (hN0 x h)
  exact ⟨a, low_of b⟩
theorem hM (x : Str) (h : x ∈ menuM) : SgP x := by
  obtain ⟨a, b⟩ := Bool.and_eq_true_iff.mp (hM0 x h)
  exact ⟨a, low_of b⟩
/-- the names drawn, or words in their stead -/
theorem book_ok (cs : Cs) {S : Sto} {n : Nat} {p : Pot} (hS : S[n]? = some (potC p)) (mk ms : Nat) (h1 : 1 ≤ mk) (h2 : mk ≤ 4) (h3 : ms ≤ 8) :
    ∃ (b : Bk) (q : Pot), F_l_book cs [.m n, .f (.int mk), .f (.int ms)] S = .ok (bkD b) (S.set n (potC q)) ∧ b.Ok NmP SgP ∧ b.kinds.length ≤ mk ∧ b.names.length ≤ ms := by
  have hn : n < S.length := (List.getElem?_eq_some_iff.mp hS).1
  obtain ⟨j0, j1⟩ := drawI_lt p (show (0 : Int) < mk by omega)
  have d1 := draw_ok cs n p mk S hS (by omega) (by omega)
  obtain ⟨kn, ek⟩ : ∃ kn : Nat, 1 + drawI p mk = kn := ⟨(1 + drawI p mk).toNat, by omega⟩
  obtain ⟨xs, q1, r1, u1, u2, u3⟩ := unlike_ok cs (S := S.set n (potC (drawP p mk))) (n := n) (p := drawP p mk) (List.getElem?_set_self hn) kn (menuN.map D.str) (by simp [menuN]; omega) (by simp [menuN])
  obtain ⟨ks, rs0, e1, pm1⟩ := menu_part u3
  subst e1
  rw [set_set'] at u1
  have kl0 : ks.length = kn := by simpa using u2
  have nd1 : ks.Nodup := (List.nodup_append.mp (pm1.nodup_iff.mpr (by decide))).1
  obtain ⟨l0, l1⟩ := drawI_lt q1 (show (0 : Int) < (ms : Int) + 1 by omega)
  have d2 := draw_ok cs n q1 ((ms : Int) + 1) (S.set n (potC q1)) (List.getElem?_set_self hn) (by omega) (by omega)
  rw [set_set'] at d2
  obtain ⟨sn, es⟩ : ∃ sn : Nat, drawI q1 ((ms : Int) + 1) = sn := ⟨(drawI q1 ((ms : Int) + 1)).toNat, by omega⟩
  rw [es] at d2
  obtain ⟨ys, q3, r2, v1, v2, v3⟩ := unlike_ok cs (S := S.set n (potC (drawP q1 ((ms : Int) + 1)))) (n := n) (p := drawP q1 ((ms : Int) + 1)) (List.getElem?_set_self hn) sn (menuM.map D.str) (by simp [menuM]; omega) (by simp [menuM])
  obtain ⟨nm, rs2, e2, pm2⟩ := menu_part v3
  subst e2
  rw [set_set'] at v1
  have nl0 : nm.length = sn := by simpa using v2
  have nd2 : nm.Nodup := (List.nodup_append.mp (pm2.nodup_iff.mpr (by decide))).1
  obtain ⟨ts, fs, q5, e8, e9, e10, y1, y2⟩ := book_loop cs hn (a := .int mk) (b := .int ms) (c := .lst (menuM.map D.str)) (nm := .lst (nm.map D.str)) (ks := ks) (by omega) (by omega) nm [] [] [] q3 none none none ⟨.nil, (fun _ h => nomatch h), (fun _ h => nomatch h)⟩ (by simp; omega)
  have s3 : sz 3 = true := sz_of (by omega)
  have s0 : sz 0 = true := sz_of (by omega)
  have body : B_l_book cs [some (.m n), some (.f (.int mk)), some (.f (.int ms)), none, none, none, none, none, none, none, none] S = .rt .frz (bkD ⟨ks, ts, fs⟩) (S.set n (potC q5)) := by
    have eB : B_l_book cs = seqS (setS 3 (menuE menuN)) (seqS (setS 4 (callE (F_l_unlike cs) (consM 0 (consF (opE plusG (kE (.int 1)) (callE (F_l_draw cs) (consM 0 (consF (vF 1) nilW)))) (consF (vF 3) nilW)))))
      (seqS (setS 3 (menuE menuM)) (seqS (setS 5 (callE (F_l_unlike cs) (consM 0 (consF (callE (F_l_draw cs) (consM 0 (consF (opE plusG (vF 2) (kE (.int 1))) nilW))) (consF (vF 3) nilW)))))
      (seqS (ownS 6 (lstE nilE)) (seqS (ownS 7 (lstE nilE)) (seqS (forX (tgNS 8) (vF 5) (bookL cs)) (seqS (frzS 6) (seqS (frzS 7) (retS .frz (tupE (consE (vF 4) (consE (vF 6) (consE (vF 7) nilE))))))))))))) := rfl
    have m1 := fun env S => menuE_ok (env := env) (S := S) (xs := menuN) (sz_of (by decide))
    have m2 := fun env S => menuE_ok (env := env) (S := S) (xs := menuM) (sz_of (by decide))
    have fx : ∀ env S1, env[5]? = some (some (.f (.lst (nm.map D.str)))) → forX (tgNS 8) (vF 5) (bookL cs) env S1 = forL (tgN 8) (bookL cs) (nm.map D.str) env S1 := fun env S1 h => forX_L (d := .lst (nm.map D.str)) (by unfold vF; rw [h]) rfl rfl
    rw [eB]
    unfold bookE txL at y1
    simp only [List.map_nil] at y1
    have fx2 := fun S1 => fx [some (.m n), some (.f (.int mk)), some (.f (.int ms)), some (.f (.lst (menuM.map D.str))), some (.f (.lst (ks.map D.str))), some (.f (.lst (nm.map D.str))), some (.o (.lst [])), some (.o (.lst [])), none, none, none] S1 rfl
    generalize forX (tgNS 8) (vF 5) (bookL cs) = fo at fx2 ⊢
    generalize bookL cs = bl at y1 fx2
    simp [defF, bodyF, frame, seqS, iffS, RS.bind, R.st, tst, opE, bindE, kE, R.bind, R.get, vB, vF, retS, retV, kOk, skipS, callE, consF, consM, cellV, nilW, b1E, asB, setS, ownS, ownS.isRef, frzS, tupE, lstE, consE, nilE, partE, noPart, m1, m2, plusG, orG, addI, subI, mulI, divI, modI, powI, ltI, leI, gtI, geI, gI, gIc, d1, ek, u1, d2, v1, fx2, s0, y1, s3, bkD, txL]
  refine ⟨⟨ks, ts, fs⟩, q5, ?_, ⟨by show 1 ≤ ks.length; omega, by show ks.length ≤ 4; omega, nd1, (fun x hx => hN x (pm1.mem_iff.mp (List.mem_append_left _ hx))), ?_, ?_, fun x hx => ?_, y2.tp, y2.fp⟩, by show ks.length ≤ mk; omega, ?_⟩
  · simp [F_l_book, defF, bodyF, frame, body, kOk, take_set]
  · have := y2.pm.length_eq
    show (ts.map (·.1) ++ fs.map (·.1)).length ≤ 8
    rw [this]
    simp
    omega
  · exact y2.pm.nodup_iff.mpr (by simpa using nd2)
  · have := y2.pm.mem_iff.mp hx
    exact hM x (pm2.mem_iff.mp (List.mem_append_left _ (by simpa using this)))
  · have := y2.pm.length_eq
    show (ts.map (·.1) ++ fs.map (·.1)).length ≤ ms
    rw [this]
    simp
    omega
end Fw

set_option  maxHeartbeats 4000000
namespace Fw
open PySem L2

/-! ### rows of things, cells or not -/
def Sq (S : Sto) (d : D) (xs : List D) : Prop := (rs S d = some (.lst xs) ∨ rs S d = some (.tup xs)) ∧ beqL xs xs = true
theorem beqL_of {xs : List D} (h : ∀ x ∈ xs, D.beq x x = true) : beqL xs xs = true := by
  induction xs with
  | nil => rfl
  | cons x xs ih =>
    show (D.beq x x && beqL xs xs) = true
    rw [h x (by simp), ih fun y hy => h y (by simp [hy])]
    rfl
theorem beq_str (x : Str) : D.beq (.str x) (.str x) = true := by simp [D.beq]
theorem beq_cel (n : Nat) : D.beq (.cel n) (.cel n) = true := by simp [D.beq]
theorem beq_tup {xs : List D} (h : beqL xs xs = true) : D.beq (.tup xs) (.tup xs) = true := by simpa [D.beq] using h
theorem beqL_strs (xs : List Str) : beqL (xs.map D.str) (xs.map D.str) = true := beqL_of fun x hx => by
  obtain ⟨y, _, rfl⟩ := List.mem_map.mp hx
  exact beq_str y
/-- what a walk over d goes through -/
def It (S : Sto) (d : D) (xs : List D) : Prop := (celN d = none ∧ seqI d = some xs) ∨ ∃ n, d = .cel n ∧ hpL S n = some xs ∧ beqL xs xs = true
theorem rs_cel {S : Sto} {n : Nat} {d : D} (h : rs S (.cel n) = some d) : hpD S n = some d ∧ d.isTup = false := by
  have h : (match hpD S n with
      | some (.lst xs) => some (D.lst xs)
      | some (.dK kvs) => some (.dK kvs)
      | some (.ob C fs) => some (.ob C fs)
      | _ => none) = some d := h
  split at h <;> first | (rename_i z; cases h; exact ⟨z, rfl⟩) | cases h
theorem Sq.it {S : Sto} {d : D} {xs : List D} (h : Sq S d xs) : It S d xs := by
  obtain ⟨h, b⟩ := h
  cases d with
  | cel n =>
    rcases h with h | h
    · obtain ⟨z, _⟩ := rs_cel h
      refine .inr ⟨n, rfl, ?_, b⟩
      unfold hpL
      rw [z]
    · obtain ⟨_, z⟩ := rs_cel h
      cases z
  | lst ys => rcases h with h | h <;> cases h; exact .inl ⟨rfl, rfl⟩
  | tup ys => rcases h with h | h <;> cases h; exact .inl ⟨rfl, rfl⟩
  | _ => rcases h with h | h <;> cases h
theorem Sq.bq {S : Sto} {d : D} {xs : List D} (h : Sq S d xs) : D.beq d d = true := by
  obtain ⟨h, b⟩ := h
  cases d with
  | cel n => exact beq_cel n
  | lst ys => rcases h with h | h <;> cases h; simpa [D.beq] using b
  | tup ys => rcases h with h | h <;> cases h; simpa [D.beq] using b
  | _ => rcases h with h | h <;> cases h
theorem compLC_rel {chk : Sto → Bool} {tg : TgtS} {fe : E D} {env : Env} {S : Sto} (hc : chk S = true) (Q : D → D → Prop) (h : ∀ x y, Q x y → ∃ us, tg S x = some us ∧ fe (setE env us) S = .ok y S) : ∀ {xs ys : List D}, Paired Q xs ys → compLC chk tg yesE fe xs env S = .ok ys S
  | _, _, .nil => by
    unfold compLC
    rw [hc]
    rfl
  | _, _, .cons r t => by
    obtain ⟨us, h1, h2⟩ := h _ _ r
    have ih := compLC_rel hc Q h t
    unfold compLC
    rw [hc, h1]
    simp [yesE, R.nx, h2, ih]
theorem compX_rel {vs : List Nat} {tg : TgtS} {fi fe : E D} {env : Env} {S : Sto} {d : D} {xs ys : List D} (Q : D → D → Prop) (hi : fi env S = .ok d S) (hq : It S d xs) (hz : sz xs.length = true) (hp : Paired Q xs ys)
    (h : ∀ x y, Q x y → ∃ us, tg S x = some us ∧ fe (setE (wipeE env vs) us) S = .ok y S) : compX vs tg fi yesE fe env S = .ok (.lst ys) S := by
  have go : ∀ chk : Sto → Bool, chk S = true → compB chk vs tg yesE fe xs env S = .ok (.lst ys) S := fun chk hc => by
    unfold compB
    rw [hz, if_pos rfl, compLC_rel hc Q h hp]
    rfl
  unfold compX bindE
  rw [hi]
  show (match celN d with
    | some n => (match hpL S n with
      | some ds => compB (chkL n ds) vs tg yesE fe ds env S
      | none => .no)
    | none => (match seqI d with
      | some ds => compB noChk vs tg yesE fe ds env S
      | none => .no)) = _
  rcases hq with ⟨h1, h2⟩ | ⟨n, rfl, h1, h2⟩
  · rw [h1, h2]
    exact go noChk rfl
  · show (match hpL S n with
      | some ds => compB (chkL n ds) vs tg yesE fe ds env S
      | none => .no) = _
    rw [h1]
    exact go _ (by unfold chkL; rw [h1]; exact h2)
theorem paired_const {xs : List D} (y : D) {P : D → Prop} (h : ∀ x ∈ xs, P x) : Paired (fun x z => P x ∧ z = y) xs (xs.map fun _ => y) := by
  induction xs with
  | nil => exact .nil
  | cons x xs ih => exact .cons ⟨h x (by simp), rfl⟩ (ih fun z hz => h z (by simp [hz]))
theorem Paired.mapR {α β γ : Type} {R : α → β → Prop} {f : β → γ} : ∀ {xs : List α} {ys : List β}, Paired R xs ys → Paired (fun x z => ∃ y ∈ ys, R x y ∧ z = f y) xs (ys.map f)
  | _, _, .nil => .nil
  | _, _, .cons (a := x) (b := y) r t => .cons ⟨y, by simp, r, rfl⟩ (Paired.mapP (Paired.mapR t) fun a b ⟨y, hy, h⟩ => ⟨y, by simp [hy], h⟩)
theorem Paired.len {α β : Type} {R : α → β → Prop} : ∀ {xs : List α} {ys : List β}, Paired R xs ys → xs.length = ys.length
  | _, _, .nil => rfl
  | _, _, .cons _ t => congrArg (· + 1) (Paired.len t)
theorem all_true {α : Type} (l : List α) : allD (.lst (l.map fun _ => D.bl true)) = some (.bl true) := by
  have k : blsD (l.map fun _ => D.bl true) = some (l.map fun _ => true) := by
    induction l with
    | nil => rfl
    | cons x l ih =>
      show (blsD (l.map fun _ => D.bl true)).map (true :: ·) = _
      rw [ih]
      rfl
  show (blsD _).map _ = _
  rw [k]
  show some (D.bl ((l.map fun _ => true).all id)) = _
  rw [List.all_eq_true.mpr]
  intro b hb
  obtain ⟨_, _, rfl⟩ := List.mem_map.mp hb
  rfl

/-! ### names, signs are let -/
theorem is_name_ok (cs : Cs) {x : Str} (h : nameB x = true) (S : Sto) : F_is_name cs [.f (.str x)] S = .ok (.bl true) S := by
  unfold nameB at h
  simp only [Bool.and_eq_true, List.all_eq_true, decide_eq_true_eq] at h
  obtain ⟨⟨⟨h1, h2⟩, h3⟩, h4⟩ := h
  have e1 := eqG_str false h1 (y := "") (by decide +kernel)
  have h2' : (x == "") = false := by simpa using h2
  rw [h2'] at e1
  have lx : sz x.length = true := sz_of (by omega)
  have e2 : ¬ ((12 : Int) < (x.length : Nat)) := by omega
  have lc : x.cps.toList.length = x.length := by simp [Str.length]
  have hc : compX [1] (tgNS 1) (vF 0) yesE (opE (inA false) (vB 1) (kE (.str "abcdefghijklmnopqrstuvwxyz"))) [some (.f (.str x)), none] S = .ok (.lst ((x.cps.toList.map fun c => D.str ⟨#[c]⟩).map fun _ => D.bl true)) S := by
    refine compX_rel (d := .str x) _ rfl (.inl ⟨rfl, rfl⟩) (by rw [List.length_map, lc]; exact lx) (paired_const (.bl true) (P := fun d => ∃ c ∈ x.cps.toList, d = D.str ⟨#[c]⟩) fun d hd => ?_) ?_
    · obtain ⟨c, hc, rfl⟩ := List.mem_map.mp hd
      exact ⟨c, hc, rfl⟩
    · rintro _ _ ⟨⟨c, hc, rfl⟩, rfl⟩
      refine ⟨_, rfl, ?_⟩
      have q : (Builtin.Str.occurrences letters ⟨#[c]⟩ 0 letters.length 1).isEmpty = false := by simpa using h4 c hc
      unfold letters at q
      simp [opE, bindE, vB, setE, wipeE, R.bind, kE, inA, orG, inG, inS, R.get, q]
  unfold F_is_name B_is_name
  generalize compX [1] (tgNS 1) (vF 0) yesE (opE (inA false) (vB 1) (kE (.str "abcdefghijklmnopqrstuvwxyz"))) = ce at hc ⊢
  simp only [List.map_map] at hc
  have al := all_true x.cps.toList
  simp [defF, bodyF, frame, seqS, iffS, RS.bind, R.st, tst, opE, bindE, kE, R.bind, R.get, vB, vF, retS, retV, kOk, skipS, callE, consF, consM, cellV, nilW, b1E, asB, setS, ownS, ownS.isRef, frzS, tupE, lstE, consE, nilE, partE, noPart, andE, orE, notE, andB, orB, notB, ifE, isiD, tnD, isT, e1, lenD2, lenD, lx, gtI, gI, e2, hc, Function.comp_def, al]
theorem any_mem {xs : List Str} {k : Str} (h : k ∈ xs) : (xs.any fun x => x == k) = true := List.any_eq_true.mpr ⟨k, h, beq_self_eq_true k⟩
theorem inA_L (xs : List Str) (k : Str) (neg : Bool) : inA neg (.str k) (.lst (xs.map D.str)) = some (.bl (if neg then !(xs.any fun x => x == k) else xs.any fun x => x == k)) := inA_sq xs k neg false
theorem inA_T (xs : List Str) (k : Str) (neg : Bool) : inA neg (.str k) (.tup (xs.map D.str)) = some (.bl (if neg then !(xs.any fun x => x == k) else xs.any fun x => x == k)) := inA_sq xs k neg true
theorem is_sign_name_ok (cs : Cs) {x : Str} (h : signB x = true) (S : Sto) : F_is_sign_name cs [.f (.str x)] S = .ok (.bl true) S := by
  unfold signB at h
  obtain ⟨h1, h2⟩ := Bool.and_eq_true_iff.mp h
  have h2 : taken.any (fun t => t == x) = false := by simpa using h2
  have tk := inA_taken true x
  rw [h2] at tk
  simp [F_is_sign_name, B_is_sign_name, defF, bodyF, frame, seqS, iffS, RS.bind, R.st, tst, opE, bindE, kE, R.bind, R.get, vB, vF, retS, retV, kOk, skipS, callE, consF, consM, cellV, nilW, b1E, asB, setS, ownS, ownS.isRef, frzS, tupE, lstE, consE, nilE, partE, noPart, andE, orE, notE, andB, orB, notB, ifE, is_name_ok cs h1, tk]
theorem is_kind_ok (cs : Cs) {ks : List Str} {k : Str} (h : k ∈ ks) {S : Sto} {d : D} (hd : Sq S d (ks.map D.str)) : F_is_kind cs [.f d, .f (.str k)] S = .ok (.bl true) S := by
  have a := any_mem h
  rcases hd.1 with e | e <;> simp [F_is_kind, B_is_kind, defF, bodyF, frame, seqS, iffS, RS.bind, R.st, tst, opE, bindE, kE, R.bind, R.get, vB, vF, retS, retV, kOk, skipS, callE, consF, consM, cellV, nilW, b1E, asB, setS, ownS, ownS.isRef, frzS, tupE, lstE, consE, nilE, partE, noPart, andE, orE, notE, andB, orB, notB, ifE, isiD, tnD, isT, e, inA_L, inA_T, a]
theorem listed_ok (cs : Cs) {S : Sto} {d : D} {xs : List D} (h : Sq S d xs) : F_is_listed cs [.f d] S = .ok (.bl true) S := by
  rcases h.1 with e | e <;> simp [F_is_listed, B_is_listed, defF, bodyF, frame, seqS, iffS, RS.bind, R.st, tst, opE, bindE, kE, R.bind, R.get, vB, vF, retS, retV, kOk, skipS, callE, consF, consM, cellV, nilW, b1E, asB, setS, ownS, ownS.isRef, frzS, tupE, lstE, consE, nilE, partE, noPart, isiD, tnD, isT, e]
theorem len_sq {S : Sto} {d : D} {xs : List D} (h : Sq S d xs) : (rs S d).bind lenD2 = some (.int (xs.length : Nat)) := by
  rcases h.1 with e | e <;> rw [e] <;> rfl
theorem ix_sq {S : Sto} {d : D} {xs : List D} (h : Sq S d xs) (i : Nat) {x : D} (hx : xs[i]? = some x) : ((rs S d).bind fun x' => ixG x' (.int (i : Nat))) = some x := by
  have hl : i < xs.length := (List.getElem?_eq_some_iff.mp hx).1
  have e0 : (0 : Int) ≤ (i : Nat) := by omega
  have e1 : ((i : Nat) : Int) < (xs.length : Nat) := by omega
  have at_ : atD xs (i : Nat) = some x := by
    unfold atD ixN
    simp [hl, (List.getElem?_eq_some_iff.mp hx).2]
  have l1 : ixG (.lst xs) (.int (i : Nat)) = some x := by
    have : ixD (.lst xs) (.int (i : Nat)) = some x := at_
    unfold ixG orG
    rw [this]
    rfl
  have l2 : ixG (.tup xs) (.int (i : Nat)) = some x := by
    have : ixD (.tup xs) (.int (i : Nat)) = some x := at_
    unfold ixG orG
    rw [this]
    rfl
  rcases h.1 with e | e <;> rw [e] <;> first | exact l1 | exact l2
theorem are_places_ok (cs : Cs) {ks ps : List Str} (h : Pl ks ps) {S : Sto} {d p : D} (hd : Sq S d (ks.map D.str)) (hp : Sq S p (ps.map D.str)) : F_are_places cs [.f d, .f p] S = .ok (.bl true) S := by
  obtain ⟨h1, h2⟩ := h
  have hc : compX [2] (tgNS 2) (vF 1) yesE (callE (F_is_kind cs) (consF (vF 0) (consF (vF 2) nilW))) [some (.f d), some (.f p), none] S = .ok (.lst ((ps.map D.str).map fun _ => D.bl true)) S := by
    refine compX_rel (d := p) _ rfl hp.it (by rw [List.length_map]; exact sz_of (by omega)) (paired_const (.bl true) (P := fun d => ∃ k ∈ ks, d = D.str k) fun d hd => ?_) ?_
    · obtain ⟨k, hk, rfl⟩ := List.mem_map.mp hd
      exact ⟨k, h2 k hk, rfl⟩
    · rintro _ _ ⟨⟨k, hk, rfl⟩, rfl⟩
      refine ⟨_, rfl, ?_⟩
      simp [defF, bodyF, frame, seqS, iffS, RS.bind, R.st, tst, opE, bindE, kE, R.bind, R.get, vB, vF, retS, retV, kOk, skipS, callE, consF, consM, cellV, nilW, b1E, asB, setS, ownS, ownS.isRef, frzS, tupE, lstE, consE, nilE, partE, noPart, setE, wipeE, is_kind_ok cs hk hd]
  have l2 : ¬ ((2 : Int) < (ps.length : Nat)) := by omega
  have ln := len_sq hp
  rw [List.length_map] at ln
  unfold F_are_places B_are_places
  generalize compX [2] (tgNS 2) (vF 1) yesE (callE (F_is_kind cs) (consF (vF 0) (consF (vF 2) nilW))) = ce at hc ⊢
  have al := all_true (ps.map D.str)
  simp only [List.map_map] at hc al
  simp [defF, bodyF, frame, seqS, iffS, RS.bind, R.st, tst, opE, bindE, kE, R.bind, R.get, vB, vF, retS, retV, kOk, skipS, callE, consF, consM, cellV, nilW, b1E, asB, setS, ownS, ownS.isRef, frzS, tupE, lstE, consE, nilE, partE, noPart, andE, orE, notE, andB, orB, notB, ifE, listed_ok cs hp, ln, gtI, gI, l2, hc, al]
/-- a tie, a function handed in -/
def SgT (S : Sto) (d : D) (t : Str × List Str) : Prop := ∃ p, Sq S d [.str t.1, p] ∧ Sq S p (t.2.map D.str)
def SgF (S : Sto) (d : D) (f : Str × List Str × Str) : Prop := ∃ p, Sq S d [.str f.1, p, .str f.2.2] ∧ Sq S p (f.2.1.map D.str)
theorem tie_ok (cs : Cs) {ks : List Str} {t : Str × List Str} (h1 : signB t.1 = true) (h2 : Pl ks t.2) {S : Sto} {kd d : D} (hk : Sq S kd (ks.map D.str)) (h : SgT S d t) : F_is_tie cs [.f kd, .f d] S = .ok (.bl true) S := by
  obtain ⟨p, hd, hp⟩ := h
  have ln := len_sq hd
  have i0 := ix_sq hd 0 rfl
  have i1 := ix_sq hd 1 rfl
  simp only [List.length_cons, List.length_nil, Option.bind_some] at ln i0 i1
  simp only [Int.cast_ofNat_Int] at i0 i1
  simp [F_is_tie, B_is_tie, defF, bodyF, frame, seqS, iffS, RS.bind, R.st, tst, opE, bindE, kE, R.bind, R.get, vB, vF, retS, retV, kOk, skipS, callE, consF, consM, cellV, nilW, b1E, asB, setS, ownS, ownS.isRef, frzS, tupE, lstE, consE, nilE, partE, noPart, andE, orE, notE, andB, orB, notB, ifE, listed_ok cs hd, ln, eqG_int, i0, i1, is_sign_name_ok cs h1, are_places_ok cs h2 hk hp]
theorem fun_ok (cs : Cs) {ks : List Str} {t : Str × List Str × Str} (h1 : signB t.1 = true) (h2 : Pl ks t.2.1) (h3 : t.2.2 ∈ ks) {S : Sto} {kd d : D} (hk : Sq S kd (ks.map D.str)) (h : SgF S d t) : F_is_function cs [.f kd, .f d] S = .ok (.bl true) S := by
  obtain ⟨p, hd, hp⟩ := h
  have ln := len_sq hd
  have i0 := ix_sq hd 0 rfl
  have i1 := ix_sq hd 1 rfl
  have i2 := ix_sq hd 2 rfl
  simp only [List.length_cons, List.length_nil, Option.bind_some] at ln i0 i1 i2
  simp only [Int.cast_ofNat_Int] at i0 i1 i2
  simp [F_is_function, B_is_function, defF, bodyF, frame, seqS, iffS, RS.bind, R.st, tst, opE, bindE, kE, R.bind, R.get, vB, vF, retS, retV, kOk, skipS, callE, consF, consM, cellV, nilW, b1E, asB, setS, ownS, ownS.isRef, frzS, tupE, lstE, consE, nilE, partE, noPart, andE, orE, notE, andB, orB, notB, ifE, listed_ok cs hd, ln, eqG_int, i0, i1, i2, is_sign_name_ok cs h1, are_places_ok cs h2 hk hp, is_kind_ok cs h3 hk]
end Fw

set_option  maxHeartbeats 4000000
namespace Fw
open PySem L2

theorem cnt_nodup {ks : List Key} (h : ks.Nodup) : ∀ i, i ≤ ks.length → cntK ks i = i
  | 0, _ => rfl
  | i + 1, hi => by
    have ih := cnt_nodup h i (by omega)
    have hlt : i < ks.length := by omega
    have e : ks.getD i (.inl 0) = ks[i] := by simp [List.getD, hlt]
    have no : (ks.take i).any (fun j => decide (j = ks.getD i (.inl 0))) = false := by
      rw [List.any_eq_false]
      intro x hx c
      have c := of_decide_eq_true c
      rw [e] at c
      obtain ⟨j, hj, ej⟩ := List.getElem_of_mem hx
      rw [List.length_take] at hj
      rw [List.getElem_take] at ej
      exact (List.pairwise_iff_getElem.mp h) j i (by omega) hlt (by omega) (by rw [ej, c])
    unfold cntK
    rw [no, ih]
    rfl
theorem keys_strs : ∀ xs : List Str, keysD (xs.map D.str) = some (xs.map Sum.inr)
  | [] => rfl
  | x :: xs => by
    simp [keysD, keyD, keys_strs xs]
theorem lenK_strs {xs : List Str} (h : xs.Nodup) (hl : xs.length < 4000) : lenK (.lst (xs.map D.str)) = some (.int (xs.length : Nat)) ∧ lenK (.tup (xs.map D.str)) = some (.int (xs.length : Nat)) := by
  have nd : (xs.map (Sum.inr : Str → Key)).Nodup := List.Pairwise.map _ (fun a b n e => n (Sum.inr.inj e)) h
  have c := cnt_nodup nd (xs.map (Sum.inr : Str → Key)).length (Nat.le_refl _)
  have k : lenKs (xs.map D.str) = some (.int (xs.length : Nat)) := by
    unfold lenKs
    simp only [keys_strs, Option.bind_some, c]
    rw [List.length_map, decide_eq_true hl]
    rfl
  exact ⟨k, k⟩
theorem lenK_sq {S : Sto} {d : D} {xs : List Str} (h : Sq S d (xs.map D.str)) (nd : xs.Nodup) (hl : xs.length < 4000) : (rs S d).bind lenK = some (.int (xs.length : Nat)) := by
  obtain ⟨a, b⟩ := lenK_strs nd hl
  rcases h.1 with e | e <;> rw [e] <;> first | exact a | exact b
theorem are_kinds_ok (cs : Cs) {ks : List Str} (h1 : 1 ≤ ks.length) (h2 : ks.length ≤ 4) (h3 : ks.Nodup) (h4 : ∀ k ∈ ks, nameB k = true) {S : Sto} {d : D} (hd : Sq S d (ks.map D.str)) : F_are_kinds cs [.f d] S = .ok (.bl true) S := by
  have hc : compX [1] (tgNS 1) (vF 0) yesE (callE (F_is_name cs) (consF (vF 1) nilW)) [some (.f d), none] S = .ok (.lst ((ks.map D.str).map fun _ => D.bl true)) S := by
    refine compX_rel (d := d) _ rfl hd.it (by rw [List.length_map]; exact sz_of (by omega)) (paired_const (.bl true) (P := fun d => ∃ k ∈ ks, d = D.str k) fun d hd => ?_) ?_
    · obtain ⟨k, hk, rfl⟩ := List.mem_map.mp hd
      exact ⟨k, hk, rfl⟩
    · rintro _ _ ⟨⟨k, hk, rfl⟩, rfl⟩
      refine ⟨_, rfl, ?_⟩
      simp [defF, bodyF, frame, seqS, iffS, RS.bind, R.st, tst, opE, bindE, kE, R.bind, R.get, vB, vF, retS, retV, kOk, skipS, callE, consF, consM, cellV, nilW, b1E, asB, setS, ownS, ownS.isRef, frzS, tupE, lstE, consE, nilE, partE, noPart, setE, wipeE, is_name_ok cs (h4 k hk)]
  have l1 : ¬ ((ks.length : Nat) : Int) < 1 := by omega
  have l2 : ¬ ((4 : Int) < (ks.length : Nat)) := by omega
  have lk := lenK_sq hd h3 (by omega)
  have ln := len_sq hd
  rw [List.length_map] at ln
  have al := all_true (ks.map D.str)
  unfold F_are_kinds B_are_kinds
  generalize compX [1] (tgNS 1) (vF 0) yesE (callE (F_is_name cs) (consF (vF 1) nilW)) = ce at hc ⊢
  simp only [List.map_map] at hc al
  simp [defF, bodyF, frame, seqS, iffS, RS.bind, R.st, tst, opE, bindE, kE, R.bind, R.get, vB, vF, retS, retV, kOk, skipS, callE, consF, consM, cellV, nilW, b1E, asB, setS, ownS, ownS.isRef, frzS, tupE, lstE, consE, nilE, partE, noPart, andE, orE, notE, andB, orB, notB, ifE, listed_ok cs hd, ln, gtI, ltI, gI, l1, l2, hc, al, lk, eqG_int]
theorem plusG_L {xs ys : List D} (h : sz (xs.length + ys.length) = true) : plusG (.lst xs) (.lst ys) = some (.lst (xs ++ ys)) := by
  have e : catL (.lst xs) (.lst ys) = some (.lst (xs ++ ys)) := if_pos h
  simp [plusG, orG, addI, gI, addS, e]
theorem plusG_T {xs ys : List D} (h : sz (xs.length + ys.length) = true) : plusG (.tup xs) (.tup ys) = some (.tup (xs ++ ys)) := by
  have e : catT (.tup xs) (.tup ys) = some (.tup (xs ++ ys)) := if_pos h
  simp [plusG, orG, addI, gI, addS, catL, e]
theorem plusG_I (i j : Int) : plusG (.int i) (.int j) = some (.int (i + j)) := rfl
theorem ix0 {S : Sto} {d : D} {x : D} {xs : List D} (h : Sq S d (x :: xs)) : ((rs S d).bind fun x' => ixG x' (.int 0)) = some x := ix_sq h 0 rfl
theorem are_signs_ok (cs : Cs) {b : Bk} {N M : Str → Prop} (ok : b.Ok N M) (hM : ∀ x, M x → signB x = true) {S : Sto} {kd td fd : D} {ts fs : List D} (hk : Sq S kd (b.kinds.map D.str)) (ht : Sq S td ts) (pt : Paired (SgT S) ts b.ties) (hf : Sq S fd fs) (pf : Paired (SgF S) fs b.funs) :
    F_are_signs cs [.f kd, .f td, .f fd] S = .ok (.bl true) S := by
  have nl := ok.s8
  unfold Bk.names at nl
  rw [List.length_append, List.length_map, List.length_map] at nl
  have lt := Paired.len pt
  have lf := Paired.len pf
  have sg : ∀ x ∈ b.names, signB x = true := fun x hx => hM x (ok.sm x hx)
  have tn : ∀ t ∈ b.ties, signB t.1 = true := fun t ht => sg t.1 (List.mem_append_left _ (List.mem_map.mpr ⟨t, ht, rfl⟩))
  have fn : ∀ f ∈ b.funs, signB f.1 = true := fun f hf => sg f.1 (List.mem_append_right _ (List.mem_map.mpr ⟨f, hf, rfl⟩))
  let e0 : Env := [some (.f kd), some (.f td), some (.f fd), none, none, none, none]
  have c1 : compX [3] (tgNS 3) (vF 1) yesE (callE (F_is_tie cs) (consF (vF 0) (consF (vF 3) nilW))) e0 S = .ok (.lst (b.ties.map fun _ => D.bl true)) S := by
    refine compX_rel (d := td) _ rfl ht.it (sz_of (by omega)) (Paired.mapR pt) ?_
    rintro d _ ⟨t, mt, h, rfl⟩
    refine ⟨_, rfl, ?_⟩
    simp [defF, bodyF, frame, seqS, iffS, RS.bind, R.st, tst, opE, bindE, kE, R.bind, R.get, vB, vF, retS, retV, kOk, skipS, callE, consF, consM, cellV, nilW, b1E, asB, setS, ownS, ownS.isRef, frzS, tupE, lstE, consE, nilE, partE, noPart, setE, wipeE, e0, tie_ok cs (tn t mt) (ok.tp t mt) hk h]
  have c2 : compX [4] (tgNS 4) (vF 2) yesE (callE (F_is_function cs) (consF (vF 0) (consF (vF 4) nilW))) e0 S = .ok (.lst (b.funs.map fun _ => D.bl true)) S := by
    refine compX_rel (d := fd) _ rfl hf.it (sz_of (by omega)) (Paired.mapR pf) ?_
    rintro d _ ⟨t, mt, h, rfl⟩
    refine ⟨_, rfl, ?_⟩
    simp [defF, bodyF, frame, seqS, iffS, RS.bind, R.st, tst, opE, bindE, kE, R.bind, R.get, vB, vF, retS, retV, kOk, skipS, callE, consF, consM, cellV, nilW, b1E, asB, setS, ownS, ownS.isRef, frzS, tupE, lstE, consE, nilE, partE, noPart, setE, wipeE, e0, fun_ok cs (fn t mt) (ok.fp t mt).1 (ok.fp t mt).2 hk h]
  have c3 : compX [6] (tgNS 6) (vF 1) yesE (opE ixG (vB 6) (kE (.int 0))) e0 S = .ok (.lst (b.ties.map fun t => D.str t.1)) S := by
    refine compX_rel (d := td) _ rfl ht.it (sz_of (by omega)) (Paired.mapR pt) ?_
    rintro d _ ⟨t, mt, ⟨p, h, _⟩, rfl⟩
    refine ⟨_, rfl, ?_⟩
    simp [defF, bodyF, frame, seqS, iffS, RS.bind, R.st, tst, opE, bindE, kE, R.bind, R.get, vB, vF, retS, retV, kOk, skipS, callE, consF, consM, cellV, nilW, b1E, asB, setS, ownS, ownS.isRef, frzS, tupE, lstE, consE, nilE, partE, noPart, setE, wipeE, e0, ix0 h]
  have c4 : compX [6] (tgNS 6) (vF 2) yesE (opE ixG (vB 6) (kE (.int 0))) e0 S = .ok (.lst (b.funs.map fun t => D.str t.1)) S := by
    refine compX_rel (d := fd) _ rfl hf.it (sz_of (by omega)) (Paired.mapR pf) ?_
    rintro d _ ⟨t, mt, ⟨p, h, _⟩, rfl⟩
    refine ⟨_, rfl, ?_⟩
    simp [defF, bodyF, frame, seqS, iffS, RS.bind, R.st, tst, opE, bindE, kE, R.bind, R.get, vB, vF, retS, retV, kOk, skipS, callE, consF, consM, cellV, nilW, b1E, asB, setS, ownS, ownS.isRef, frzS, tupE, lstE, consE, nilE, partE, noPart, setE, wipeE, e0, ix0 h]
  have nm : (b.ties.map fun t => D.str t.1) ++ (b.funs.map fun t => D.str t.1) = b.names.map D.str := by
    unfold Bk.names
    rw [List.map_append, List.map_map, List.map_map]
    rfl
  have sl : sz ((b.ties.map fun t => D.str t.1).length + (b.funs.map fun t => D.str t.1).length) = true := by
    rw [List.length_map, List.length_map]
    exact sz_of (by omega)
  have lk := (lenK_strs ok.sn (by have := ok.s8; omega)).1
  have l8 : ¬ ((8 : Int) < ((b.ties.length : Nat) : Int) + ((b.funs.length : Nat) : Int)) := by omega
  have l1 := len_sq ht
  have l2 := len_sq hf
  rw [lt] at l1
  rw [lf] at l2
  have a1 := all_true b.ties
  have a2 := all_true b.funs
  unfold F_are_signs B_are_signs
  generalize compX [3] (tgNS 3) (vF 1) yesE (callE (F_is_tie cs) (consF (vF 0) (consF (vF 3) nilW))) = f1 at c1 ⊢
  generalize compX [4] (tgNS 4) (vF 2) yesE (callE (F_is_function cs) (consF (vF 0) (consF (vF 4) nilW))) = f2 at c2 ⊢
  generalize compX [6] (tgNS 6) (vF 1) yesE (opE ixG (vB 6) (kE (.int 0))) = f3 at c3 ⊢
  generalize compX [6] (tgNS 6) (vF 2) yesE (opE ixG (vB 6) (kE (.int 0))) = f4 at c4 ⊢
  simp only [e0] at c1 c2 c3 c4
  have pg : plusG (.lst (b.ties.map fun t => D.str t.1)) (.lst (b.funs.map fun t => D.str t.1)) = some (.lst (b.names.map D.str)) := by
    rw [plusG_L sl, nm]
  have pi : ∀ i j : Int, plusG (.int i) (.int j) = some (.int (i + j)) := fun _ _ => rfl
  simp [defF, bodyF, frame, seqS, iffS, RS.bind, R.st, tst, opE, bindE, kE, R.bind, R.get, vB, vF, retS, retV, kOk, skipS, callE, consF, consM, cellV, nilW, b1E, asB, setS, ownS, ownS.isRef, frzS, tupE, lstE, consE, nilE, partE, noPart, andE, orE, notE, andB, orB, notB, ifE, listed_ok cs ht, listed_ok cs hf, l1, l2, lenD2, lenD, gtI, gI, pi, l8, c1, c2, c3, c4, a1, a2, pg, lk, eqG_int]

/-! ### a book made -/
def tpL (xs : List Str) : D := .tup (xs.map .str)
def tieT (t : Str × List Str) : D := .tup [.str t.1, tpL t.2]
def funT (f : Str × List Str × Str) : D := .tup [.str f.1, tpL f.2.1, .str f.2.2]
def sgD (cs : Cs) (b : Bk) : D := .ob cs.Signs [("own_kinds", txL b.kinds), ("own_ties", .lst (b.ties.map tieT)), ("own_functions", .lst (b.funs.map funT))]
theorem rs_at {S T : Sto} (h : T[0]? = S[0]?) (d : D) : rs T d = rs S d := by
  cases d <;> first | rfl | skip
  rename_i n
  have e : hpD T n = hpD S n := by
    unfold hpD
    rw [h]
  show (match hpD T n with
      | some (.lst xs) => some (D.lst xs)
      | some (.dK kvs) => some (.dK kvs)
      | some (.ob C fs) => some (.ob C fs)
      | _ => none) = _
  rw [e]
  rfl
theorem Sq.at {S T : Sto} {d : D} {xs : List D} (h : T[0]? = S[0]?) (q : Sq S d xs) : Sq T d xs := by
  refine ⟨?_, q.2⟩
  rw [rs_at h]
  exact q.1
theorem SgT.at {S T : Sto} {d : D} {t : Str × List Str} (h : T[0]? = S[0]?) (q : SgT S d t) : SgT T d t := by
  obtain ⟨p, a, b⟩ := q
  exact ⟨p, a.at h, b.at h⟩
theorem SgF.at {S T : Sto} {d : D} {t : Str × List Str × Str} (h : T[0]? = S[0]?) (q : SgF S d t) : SgF T d t := by
  obtain ⟨p, a, b⟩ := q
  exact ⟨p, a.at h, b.at h⟩
theorem tuple_sq {S : Sto} {d : D} {xs : List D} (h : Sq S d xs) : (rs S d).bind tupleD = some (.tup xs) := by
  rcases h.1 with e | e <;> rw [e] <;> rfl
theorem list_sq {S : Sto} {d : D} {xs : List D} (h : Sq S d xs) : (rs S d).bind listD = some (.lst xs) := by
  rcases h.1 with e | e <;> rw [e] <;> rfl
theorem tg_sq {S : Sto} {d : D} {xs : List D} (h : Sq S d xs) (is : List Nat) (hl : xs.length = is.length) : tgTS is S d = some (is.zip xs) := by
  unfold tgTS
  rcases h.1 with e | e <;> rw [e] <;> simp [tgT, hl]
theorem ini_ok (cs : Cs) {b : Bk} {N M : Str → Prop} (ok : b.Ok N M) (hN : ∀ x, N x → nameB x = true) (hM : ∀ x, M x → signB x = true) {S : Sto} (hS : 0 < S.length) {kd td fd : D} {ts fs : List D} (hk : Sq S kd (b.kinds.map D.str)) (ht : Sq S td ts) (pt : Paired (SgT S) ts b.ties) (hf : Sq S fd fs) (pf : Paired (SgF S) fs b.funs) :
    F_Signs_ini cs [.f kd, .f td, .f fd] S = .ok (sgD cs b) S := by
  have nl := ok.s8
  unfold Bk.names at nl
  rw [List.length_append, List.length_map, List.length_map] at nl
  have lt := Paired.len pt
  have lf := Paired.len pf
  have s2 : sz 2 = true := sz_of (by omega)
  have s3 : sz 3 = true := sz_of (by omega)
  have at0 : ∀ c : Cl, (S ++ [c])[0]? = S[0]? := fun c => List.getElem?_append_left hS
  have ak := fun T (h : T[0]? = S[0]?) => are_kinds_ok cs ok.k1 ok.k4 ok.kn (fun k hk => hN k (ok.km k hk)) (hk.at (T := T) h)
  have as := fun T (h : T[0]? = S[0]?) => are_signs_ok cs ok hM (hk.at (T := T) h) (ht.at h) (Paired.mapP pt fun _ _ z => z.at h) (hf.at h) (Paired.mapP pf fun _ _ z => z.at h)
  have c1 : ∀ T : Sto, T[0]? = S[0]? → compX [4, 5] (tgTS [4, 5]) (vF 2) yesE (tupE (consE (vF 4) (consE (b1E tupleD (vF 5)) nilE))) [some (.m S.length), some (.f kd), some (.f td), some (.f fd), none, none, none] T = .ok (.lst (b.ties.map tieT)) T := fun T h => by
    refine compX_rel (d := td) _ rfl (ht.at h).it (sz_of (by omega)) (Paired.mapR pt) ?_
    rintro d _ ⟨t, mt, ⟨p, h1, h2⟩, rfl⟩
    refine ⟨_, tg_sq (h1.at h) [4, 5] rfl, ?_⟩
    have tp := tuple_sq (h2.at h)
    simp [defF, bodyF, frame, seqS, iffS, RS.bind, R.st, tst, opE, bindE, kE, R.bind, R.get, vB, vF, retS, retV, kOk, skipS, callE, consF, consM, cellV, nilW, b1E, asB, setS, ownS, ownS.isRef, frzS, tupE, lstE, consE, nilE, partE, noPart, setE, wipeE, tp, s2, tieT, tpL]
  have c2 : ∀ T : Sto, T[0]? = S[0]? → compX [4, 5, 6] (tgTS [4, 5, 6]) (vF 3) yesE (tupE (consE (vF 4) (consE (b1E tupleD (vF 5)) (consE (vF 6) nilE)))) [some (.m S.length), some (.f kd), some (.f td), some (.f fd), none, none, none] T = .ok (.lst (b.funs.map funT)) T := fun T h => by
    refine compX_rel (d := fd) _ rfl (hf.at h).it (sz_of (by omega)) (Paired.mapR pf) ?_
    rintro d _ ⟨t, mt, ⟨p, h1, h2⟩, rfl⟩
    refine ⟨_, tg_sq (h1.at h) [4, 5, 6] rfl, ?_⟩
    have tp := tuple_sq (h2.at h)
    simp [defF, bodyF, frame, seqS, iffS, RS.bind, R.st, tst, opE, bindE, kE, R.bind, R.get, vB, vF, retS, retV, kOk, skipS, callE, consF, consM, cellV, nilW, b1E, asB, setS, ownS, ownS.isRef, frzS, tupE, lstE, consE, nilE, partE, noPart, setE, wipeE, tp, s3, funT, tpL]
  have kl := fun T (h : T[0]? = S[0]?) => list_sq (hk.at (T := T) h)
  have at1 : ∀ c : Cl, (S ++ [c])[S.length]? = some c := fun c => by simp
  have st1 : ∀ c d : Cl, (S ++ [c]).set S.length d = S ++ [d] := fun c d => by simp
  have tk1 : ∀ c : Cl, (S ++ [c]).take S.length = S := fun c => by simp
  have n1 : ¬ (("own_kinds" : Str) = "own_ties") := by decide +kernel
  have n2 : ¬ (("own_kinds" : Str) = "own_functions") := by decide +kernel
  have n3 : ¬ (("own_ties" : Str) = "own_functions") := by decide +kernel
  have ak := fun c => ak _ (at0 c)
  have as := fun c => as _ (at0 c)
  have c1 := fun c => c1 _ (at0 c)
  have c2 := fun c => c2 _ (at0 c)
  have kl := fun c => kl _ (at0 c)
  unfold F_Signs_ini B_Signs_ini
  generalize compX [4, 5] (tgTS [4, 5]) (vF 2) yesE (tupE (consE (vF 4) (consE (b1E tupleD (vF 5)) nilE))) = f1 at c1 ⊢
  generalize compX [4, 5, 6] (tgTS [4, 5, 6]) (vF 3) yesE (tupE (consE (vF 4) (consE (b1E tupleD (vF 5)) (consE (vF 6) nilE)))) = f2 at c2 ⊢
  simp [iniF, defF, bodyF, frame, seqS, iffS, RS.bind, R.st, tst, opE, bindE, kE, R.bind, R.get, vB, vF, retS, retV, kOk, skipS, callE, consF, consM, cellV, nilW, b1E, asB, setS, ownS, ownS.isRef, frzS, tupE, lstE, consE, nilE, partE, noPart, andE, orE, notE, andB, orB, notB, ifE, ak, as, cFldS, kl, cellD, at1, st1, tk1, putFd, c1, c2, n1, n2, n3, sgD, txL]
end Fw

set_option  maxHeartbeats 4000000
namespace Fw
open PySem L2

/-! ### texts that are shown -/
def Gd (n : Nat) (x : Str) : Prop := x.length ≤ n ∧ PyData.strOk x = true
theorem Gd.mono {m n : Nat} {x : Str} (g : Gd m x) (h : m ≤ n) : Gd n x := ⟨Nat.le_trans g.1 h, g.2⟩
theorem Gd.app {m n : Nat} {x y : Str} (g : Gd m x) (h : Gd n y) : Gd (m + n) (x ++ y) := by
  refine ⟨by rw [strLen_append]; exact Nat.add_le_add g.1 h.1, ?_⟩
  have a := g.2
  have b := h.2
  unfold PyData.strOk at a b ⊢
  show (x.cps ++ y.cps).all (fun c => decide (c < 1114112)) = true
  rw [Array.all_append, a, b]
  rfl
theorem gd_lit {n : Nat} {x : Str} (h : (decide (x.length ≤ n) && PyData.strOk x) = true) : Gd n x := by
  obtain ⟨a, b⟩ := Bool.and_eq_true_iff.mp h
  exact ⟨of_decide_eq_true a, b⟩
theorem text_ok {m : Nat} : ∀ (ts : List Str) (k : Nat) (acc : Str) (a : Nat), Gd a acc → (∀ t ∈ ts, Gd m t) → Gd (a + ts.length * (m + 2)) (textFrom k acc ts)
  | [], k, acc, a, h, _ => by simpa [textFrom] using h
  | t :: ts, k, acc, a, h, ht => by
    have sp : Gd 2 (if k > 0 then ", " else "" : String) := by
      split
      · exact gd_lit (by decide +kernel)
      · exact gd_lit (by decide +kernel)
    have n := text_ok ts (k + 1) _ _ ((h.app sp).app (ht t (by simp))) fun u hu => ht u (by simp [hu])
    refine Gd.mono n ?_
    rw [List.length_cons, Nat.succ_mul]
    omega
theorem listText_ok {m : Nat} {ts : List Str} (h : ∀ t ∈ ts, Gd m t) : Gd (2 + ts.length * (m + 2)) (listText ts) := by
  have a := (text_ok ts 0 "[" 1 (gd_lit (by decide +kernel)) h).app (gd_lit (n := 1) (x := "]") (by decide +kernel))
  exact a.mono (by omega)
theorem join_ok {m : Nat} : ∀ (ts : List Str), (∀ t ∈ ts, Gd m t) → Gd (ts.length * (m + 2)) (Str.join ", " ts)
  | [], _ => gd_lit (by simp [Str.join]; decide +kernel)
  | [t], h => (h t (by simp)).mono (by simp)
  | t :: u :: r, h => by
    have a := ((h t (by simp)).app (gd_lit (n := 2) (x := ", ") (by decide +kernel))).app (join_ok (u :: r) fun v hv => h v (by simp [hv]))
    refine Gd.mono a ?_
    rw [List.length_cons (a := t), Nat.succ_mul]
    omega
theorem tupleText_ok {m : Nat} {ts : List Str} (h : ∀ t ∈ ts, Gd m t) : Gd (3 + ts.length * (m + 2)) (tupleText ts) := by
  have e : Gd 2 (if ts.length == 1 then ",)" else ")" : String) := by
    split
    · exact gd_lit (by decide +kernel)
    · exact gd_lit (by decide +kernel)
  have a := ((gd_lit (n := 1) (x := "(") (by decide +kernel)).app (join_ok ts h)).app e
  exact a.mono (by omega)
theorem low_char : ∀ c : Nat, 97 ≤ c → c < 123 → ((Builtin.Str.reprChar 39 c).all (fun z => decide (z < 1114112)) && (Builtin.Str.reprChar 34 c).all fun z => decide (z < 1114112)) = true := by
  have : ∀ i < 26, ((Builtin.Str.reprChar 39 (97 + i)).all (fun z => decide (z < 1114112)) && (Builtin.Str.reprChar 34 (97 + i)).all fun z => decide (z < 1114112)) = true := by decide +kernel
  intro c h0 h1
  have := this (c - 97) (by omega)
  rwa [show 97 + (c - 97) = c by omega] at this
theorem fold_ok {q : Nat} (hq : q = 39 ∨ q = 34) : ∀ (l : List Nat) (acc : Array Nat), (∀ c ∈ l, 97 ≤ c ∧ c < 123) → (acc.all fun c => decide (c < 1114112)) = true → ((l.foldl (fun out c => out ++ (Builtin.Str.reprChar q c).toArray) acc).all fun c => decide (c < 1114112)) = true
  | [], _, _, h => h
  | c :: l, acc, hl, h => by
    refine fold_ok hq l _ (fun d hd => hl d (List.mem_cons_of_mem _ hd)) ?_
    rw [Array.all_append, h]
    obtain ⟨a, b⟩ := Bool.and_eq_true_iff.mp (low_char c (hl c (List.mem_cons_self ..)).1 (hl c (List.mem_cons_self ..)).2)
    rcases hq with e | e <;> subst e <;> simp only [List.all_eq_true] at a b <;> simp <;> first | exact fun z hz => of_decide_eq_true (a z hz) | exact fun z hz => of_decide_eq_true (b z hz)
theorem low_gd {x : Str} (h : Low x) (hl : x.length ≤ 12) : Gd 140 (PyData.shown (.str x)) := by
  refine ⟨?_, ?_⟩
  · have := PySem.StrLaws.reprText_len x fun c hc => by have := h c hc; omega
    show (PySem.reprText x).length ≤ 140
    omega
  · show PyData.strOk (PySem.reprText x) = true
    have hq : reprQuote x = 39 ∨ reprQuote x = 34 := by
      unfold reprQuote
      split
      · exact .inr rfl
      · exact .inl rfl
    unfold PySem.reprText PyData.strOk
    rw [← Array.foldl_toList]
    show ((Array.push _ _).all fun c => decide (c < 1114112)) = true
    have q := fold_ok hq x.cps.toList #[reprQuote x] h (by rcases hq with e | e <;> rw [e] <;> simp)
    rw [Array.all_push, q]
    rcases hq with e | e <;> rw [e] <;> rfl
theorem shownAll_Q : ∀ l : List D, PyData.shownAll (pqL l) = l.map fun x => x.pq.shown
  | [] => rfl
  | x :: l => by rw [pqL, PyData.shownAll, shownAll_Q l]; rfl
/-- plain data of a depth, whose text is short -/
def TxQ (k n : Nat) (d : D) : Prop := Gd n d.pq.shown ∧ d.pq.showable = true ∧ d.pl = true ∧ d.pq.depth ≤ k
theorem TxQ.mono {k k' n n' : Nat} {d : D} (h : TxQ k n d) (hk : k ≤ k') (hn : n ≤ n') : TxQ k' n' d := ⟨h.1.mono hn, h.2.1, h.2.2.1, Nat.le_trans h.2.2.2 hk⟩
theorem tqAll {k n : Nat} : ∀ {l : List D}, (∀ x ∈ l, TxQ k n x) → PyData.showableAll (pqL l) = true ∧ plL l = true ∧ PyData.depthAll (pqL l) ≤ k
  | [], _ => ⟨rfl, rfl, Nat.zero_le _⟩
  | x :: l, h => by
    obtain ⟨a, b, c⟩ := tqAll (l := l) fun y hy => h y (by simp [hy])
    obtain ⟨_, x2, x3, x4⟩ := h x (by simp)
    rw [pqL, PyData.showableAll, PyData.depthAll, plL, x2, a, x3, b]
    exact ⟨rfl, rfl, Nat.max_le.mpr ⟨x4, c⟩⟩
theorem TxQ.lst {k n m : Nat} {l : List D} (h : ∀ x ∈ l, TxQ k n x) (hl : l.length ≤ m) : TxQ (k + 1) (3 + m * (n + 2)) (.lst l) := by
  obtain ⟨a, b, c⟩ := tqAll h
  unfold TxQ
  rw [D.pq, PyData.shown, PyData.showable, PyData.depth, D.pl]
  refine ⟨?_, a, b, by omega⟩
  have q := listText_ok (m := n) (ts := PyData.shownAll (pqL l)) (by
    rw [shownAll_Q]
    intro t ht
    obtain ⟨x, hx, rfl⟩ := List.mem_map.mp ht
    exact (h x hx).1)
  refine Gd.mono q ?_
  rw [shownAll_Q, List.length_map]
  have := Nat.mul_le_mul_right (n + 2) hl
  omega
theorem TxQ.tup {k n m : Nat} {l : List D} (h : ∀ x ∈ l, TxQ k n x) (hl : l.length ≤ m) : TxQ (k + 1) (3 + m * (n + 2)) (.tup l) := by
  obtain ⟨a, b, c⟩ := tqAll h
  unfold TxQ
  rw [D.pq, PyData.shown, PyData.showable, PyData.depth, D.pl]
  refine ⟨?_, a, b, by omega⟩
  have q := tupleText_ok (m := n) (ts := PyData.shownAll (pqL l)) (by
    rw [shownAll_Q]
    intro t ht
    obtain ⟨x, hx, rfl⟩ := List.mem_map.mp ht
    exact (h x hx).1)
  refine Gd.mono q ?_
  rw [shownAll_Q, List.length_map]
  have := Nat.mul_le_mul_right (n + 2) hl
  omega
theorem repr_tq {k n : Nat} {d : D} (h : TxQ k n d) (hs : isSeqK d = true) (hk : k ≤ 64) (hn : n ≤ 16777216) : ∃ t, reprQ d = some (.str t) ∧ PyData.strOk t = true := by
  obtain ⟨h1, h2, h3, h4⟩ := h
  have z : sz d.pq.shown.length = true := sz_of (Nat.le_trans h1.1 hn)
  refine ⟨_, ?_, h1.2⟩
  unfold reprQ
  rw [hs, h3, h2, z, decide_eq_true (Nat.le_trans h4 hk)]
  rfl
end Fw

set_option  maxHeartbeats 4000000
namespace Fw
open PySem L2

/-! ### what may stand in a book -/
inductive Atm : D → Prop
  | str {x : Str} : PyData.strOk x = true → x.length ≤ 13 → Gd 140 (PyData.shown (.str x)) → Atm (.str x)
  | int : Atm (.int 7)
  | bl : Atm (.bl true)
  | non : Atm .non
  | d0 : Atm (.dK [])
  | d1 : Atm (.dK [(.inr "a", .int 1)])
def wid (k : Nat) : Nat := if k < 3 then 6 else 20
theorem wid_20 (k : Nat) : wid k ≤ 20 := by unfold wid; split <;> omega
theorem wid_up (k : Nat) : wid k ≤ wid (k + 1) := by unfold wid; split <;> split <;> omega
inductive Uv : Nat → D → Prop
  | at {k : Nat} {d : D} : Atm d → Uv k d
  | lst {k : Nat} {xs : List D} : xs.length ≤ wid k → (∀ x ∈ xs, Uv k x) → Uv (k + 1) (.lst xs)
  | tup {k : Nat} {xs : List D} : xs.length ≤ wid k → (∀ x ∈ xs, Uv k x) → Uv (k + 1) (.tup xs)
theorem Uv.up {k : Nat} {d : D} (h : Uv k d) : Uv (k + 1) d := by
  induction h with
  | «at» a => exact .at a
  | lst l _ ih => exact .lst (Nat.le_trans l (wid_up _)) ih
  | tup l _ ih => exact .tup (Nat.le_trans l (wid_up _)) ih
def rowO : D → Option (List D)
  | .lst xs => some xs
  | .tup xs => some xs
  | _ => none
def isS : D → Bool
  | .str _ => true
  | _ => false
section
variable {k : Nat} {d : D} {xs : List D}
theorem Uv.rs (h : Uv k d) (S : Sto) : Fw.rs S d = some d := by
  cases h with
  | «at» a => cases a <;> rfl
  | lst _ _ => rfl
  | tup _ _ => rfl
theorem Uv.isl (h : Uv k d) : isiD [.list, .tuple] d = some (.bl (rowO d).isSome) := by
  cases h with
  | «at» a => cases a <;> rfl
  | lst _ _ => rfl
  | tup _ _ => rfl
theorem Uv.iss (h : Uv k d) : isiD [.str] d = some (.bl (isS d)) := by
  cases h with
  | «at» a => cases a <;> rfl
  | lst _ _ => rfl
  | tup _ _ => rfl
theorem Uv.row (h : Uv k d) (e : rowO d = some xs) : xs.length ≤ 20 ∧ ∀ x ∈ xs, Uv k x := by
  cases h with
  | «at» a => cases a <;> cases e
  | lst l g => cases e; exact ⟨Nat.le_trans l (wid_20 _), fun x hx => (g x hx).up⟩
  | tup l g => cases e; exact ⟨Nat.le_trans l (wid_20 _), fun x hx => (g x hx).up⟩
theorem row_cases (e : rowO d = some xs) : d = .lst xs ∨ d = .tup xs := by
  cases d <;> cases e
  · exact .inl rfl
  · exact .inr rfl
theorem row_len (e : rowO d = some xs) : lenD2 d = some (.int (xs.length : Nat)) := by
  rcases row_cases e with rfl | rfl <;> rfl
theorem row_it (e : rowO d = some xs) : celN d = none ∧ seqI d = some xs := by
  rcases row_cases e with rfl | rfl <;> exact ⟨rfl, rfl⟩
theorem row_ix (e : rowO d = some xs) (i : Nat) {x : D} (hx : xs[i]? = some x) : ixG d (.int (i : Nat)) = some x := by
  have hl : i < xs.length := (List.getElem?_eq_some_iff.mp hx).1
  have at_ : atD xs (i : Nat) = some x := by
    unfold atD ixN
    simp [hl, (List.getElem?_eq_some_iff.mp hx).2]
  rcases row_cases e with rfl | rfl
  · have : ixD (.lst xs) (.int (i : Nat)) = some x := at_
    unfold ixG orG
    rw [this]
    rfl
  · have : ixD (.tup xs) (.int (i : Nat)) = some x := at_
    unfold ixG orG
    rw [this]
    rfl
theorem row_list (e : rowO d = some xs) : listD d = some (.lst xs) := by
  rcases row_cases e with rfl | rfl <;> rfl
end
theorem paired_self {xs : List D} (g : D → D) : Paired (fun x y => x ∈ xs ∧ y = g x) xs (xs.map g) := by
  have : ∀ ys : List D, (∀ y ∈ ys, y ∈ xs) → Paired (fun x y => x ∈ xs ∧ y = g x) ys (ys.map g) := by
    intro ys
    induction ys with
    | nil => exact fun _ => .nil
    | cons y ys ih => exact fun h => .cons ⟨h y (by simp), rfl⟩ (ih fun z hz => h z (by simp [hz]))
  exact this xs fun _ h => h
theorem compX_seq {i : Nat} {fi fe : E D} {env : Env} {S : Sto} {d : D} {xs : List D} (e : celN d = none ∧ seqI d = some xs) (hl : xs.length ≤ 100) (g : D → D) (hi : fi env S = .ok d S) (h : ∀ x ∈ xs, fe (setE (wipeE env [i]) [(i, x)]) S = .ok (g x) S) :
    compX [i] (tgNS i) fi yesE fe env S = .ok (.lst (xs.map g)) S := by
  refine compX_rel (d := d) _ hi (.inl e) (sz_of (by omega)) (paired_self g) ?_
  rintro x _ ⟨hx, rfl⟩
  exact ⟨_, rfl, h x hx⟩
theorem all_map {α : Type} (p : α → Bool) (l : List α) : allD (.lst (l.map fun x => D.bl (p x))) = some (.bl (l.all p)) := by
  have k : blsD (l.map fun x => D.bl (p x)) = some (l.map p) := by
    induction l with
    | nil => rfl
    | cons x l ih =>
      show (blsD (l.map fun x => D.bl (p x))).map (p x :: ·) = _
      rw [ih]
      rfl
  show (blsD _).map _ = _
  rw [k]
  show some (D.bl ((l.map p).all id)) = _
  rw [List.all_map]
  rfl
section
variable {k : Nat} {d : D}
theorem listed_u (cs : Cs) (h : Uv k d) (S : Sto) : F_is_listed cs [.f d] S = .ok (.bl (rowO d).isSome) S := by
  simp [F_is_listed, B_is_listed, defF, bodyF, frame, seqS, iffS, RS.bind, R.st, tst, opE, bindE, kE, R.bind, R.get, vB, vF, retS, retV, kOk, skipS, callE, consF, consM, cellV, nilW, b1E, asB, setS, ownS, ownS.isRef, frzS, tupE, lstE, consE, nilE, partE, noPart, h.rs, h.isl]
theorem lrow_u (cs : Cs) (h : Uv k d) (S : Sto) : F_l_row cs [.f d] S = .ok (.bl (rowO d).isSome) S := by
  simp [F_l_row, B_l_row, defF, bodyF, frame, seqS, iffS, RS.bind, R.st, tst, opE, bindE, kE, R.bind, R.get, vB, vF, retS, retV, kOk, skipS, callE, consF, consM, cellV, nilW, b1E, asB, setS, ownS, ownS.isRef, frzS, tupE, lstE, consE, nilE, partE, noPart, h.rs, h.isl]
end
/-! ### names -/
def chB (c : D) : Bool := match c with
  | .str y => !(Builtin.Str.occurrences letters y 0 letters.length 1).isEmpty
  | _ => false
def nmB : D → Bool
  | .str x => nameB x
  | _ => false
def sgnB : D → Bool
  | .str x => signB x
  | _ => false
theorem chars_u {x : Str} (hl : x.length ≤ 13) (i : Nat) (env : Env) (S : Sto) (hi : vF 0 env S = .ok (.str x) S) (h2 : ∀ c, vB i (setE (wipeE env [i]) [(i, c)]) S = .ok c S) : compX [i] (tgNS i) (vF 0) yesE (opE (inA false) (vB i) (kE (.str "abcdefghijklmnopqrstuvwxyz"))) env S = .ok (.lst ((x.cps.toList.map fun c => D.str ⟨#[c]⟩).map fun c => D.bl (chB c))) S := by
  have lc : x.cps.toList.length = x.length := by simp [Str.length]
  refine compX_seq (d := .str x) ⟨rfl, rfl⟩ (by rw [List.length_map, lc]; omega) (fun c => D.bl (chB c)) hi fun c hc => ?_
  obtain ⟨c, _, rfl⟩ := List.mem_map.mp hc
  have := h2 (.str ⟨#[c]⟩)
  simp [opE, bindE, this, R.bind, kE, inA, orG, inG, inS, R.get, chB, letters]
theorem chars_all (x : Str) : (x.cps.toList.map fun c => D.str ⟨#[c]⟩).all chB = x.cps.toList.all fun c => !(Builtin.Str.occurrences letters ⟨#[c]⟩ 0 letters.length 1).isEmpty := by
  rw [List.all_map]
  rfl
section
variable {k : Nat} {d : D}
theorem name_u (cs : Cs) (h : Uv k d) (S : Sto) : F_is_name cs [.f d] S = .ok (.bl (nmB d)) S := by
  have hs := h.iss
  have hr := h.rs
  unfold F_is_name B_is_name
  cases es : isS d with
  | false =>
    have : nmB d = false := by cases d <;> first | rfl | cases es
    rw [es] at hs
    simp [defF, bodyF, frame, seqS, iffS, RS.bind, R.st, tst, opE, bindE, kE, R.bind, R.get, vB, vF, retS, retV, kOk, skipS, callE, consF, consM, cellV, nilW, b1E, asB, setS, ownS, ownS.isRef, frzS, tupE, lstE, consE, nilE, partE, noPart, andE, orE, notE, andB, orB, notB, ifE, hr, hs, this]
  | true =>
    obtain ⟨x, rfl⟩ : ∃ x, d = .str x := by cases d <;> first | exact ⟨_, rfl⟩ | cases es
    obtain ⟨h1, hl⟩ : PyData.strOk x = true ∧ x.length ≤ 13 := by
      cases h with
      | «at» a => cases a with
        | str a b _ => exact ⟨a, b⟩
    have e1 := eqG_str false h1 (y := "") (by decide +kernel)
    have lx : sz x.length = true := sz_of (by omega)
    have hc := chars_u hl 1 [some (.f (.str x)), none] S rfl fun _ => rfl
    have al := all_map chB (x.cps.toList.map fun c => D.str ⟨#[c]⟩)
    rw [chars_all] at al
    rw [es] at hs
    generalize compX [1] (tgNS 1) (vF 0) yesE (opE (inA false) (vB 1) (kE (.str "abcdefghijklmnopqrstuvwxyz"))) = ce at hc ⊢
    cases e2 : (x == ("" : Str)) with
    | true =>
      rw [e2] at e1
      have : nmB (.str x) = false := by
        show nameB x = false
        unfold nameB
        rw [e2]
        simp
      simp [defF, bodyF, frame, seqS, iffS, RS.bind, R.st, tst, opE, bindE, kE, R.bind, R.get, vB, vF, retS, retV, kOk, skipS, callE, consF, consM, cellV, nilW, b1E, asB, setS, ownS, ownS.isRef, frzS, tupE, lstE, consE, nilE, partE, noPart, andE, orE, notE, andB, orB, notB, ifE, hs, e1, this]
    | false =>
      rw [e2] at e1
      by_cases l12 : x.length ≤ 12
      · have l12' : ¬ ((12 : Int) < (x.length : Nat)) := by omega
        have : nmB (.str x) = x.cps.toList.all fun c => !(Builtin.Str.occurrences letters ⟨#[c]⟩ 0 letters.length 1).isEmpty := by
          show nameB x = _
          unfold nameB
          rw [e2, h1, decide_eq_true l12]
          rfl
        rw [← this] at al
        simp only [List.map_map] at hc al
        simp [defF, bodyF, frame, seqS, iffS, RS.bind, R.st, tst, opE, bindE, kE, R.bind, R.get, vB, vF, retS, retV, kOk, skipS, callE, consF, consM, cellV, nilW, b1E, asB, setS, ownS, ownS.isRef, frzS, tupE, lstE, consE, nilE, partE, noPart, andE, orE, notE, andB, orB, notB, ifE, hs, e1, lenD2, lenD, lx, gtI, gI, l12', hc, al]
      · have l12' : (12 : Int) < (x.length : Nat) := by omega
        have : nmB (.str x) = false := by
          show nameB x = false
          unfold nameB
          rw [decide_eq_false l12]
          simp
        simp [defF, bodyF, frame, seqS, iffS, RS.bind, R.st, tst, opE, bindE, kE, R.bind, R.get, vB, vF, retS, retV, kOk, skipS, callE, consF, consM, cellV, nilW, b1E, asB, setS, ownS, ownS.isRef, frzS, tupE, lstE, consE, nilE, partE, noPart, andE, orE, notE, andB, orB, notB, ifE, hs, e1, lenD2, lenD, lx, gtI, gI, l12', this]
theorem lname_u (cs : Cs) (h : Uv k d) (S : Sto) : F_l_name cs [.f d] S = .ok (.bl (nmB d)) S := by
  have hs := h.iss
  have hr := h.rs
  unfold F_l_name B_l_name
  cases es : isS d with
  | false =>
    have : nmB d = false := by cases d <;> first | rfl | cases es
    rw [es] at hs
    simp [defF, bodyF, frame, seqS, iffS, RS.bind, R.st, tst, opE, bindE, kE, R.bind, R.get, vB, vF, retS, retV, kOk, skipS, callE, consF, consM, cellV, nilW, b1E, asB, setS, ownS, ownS.isRef, frzS, tupE, lstE, consE, nilE, partE, noPart, andE, orE, notE, andB, orB, notB, ifE, hr, hs, this]
  | true =>
    obtain ⟨x, rfl⟩ : ∃ x, d = .str x := by cases d <;> first | exact ⟨_, rfl⟩ | cases es
    obtain ⟨h1, hl⟩ : PyData.strOk x = true ∧ x.length ≤ 13 := by
      cases h with
      | «at» a => cases a with
        | str a b _ => exact ⟨a, b⟩
    have lx : sz x.length = true := sz_of (by omega)
    have hc := chars_u hl 1 [some (.f (.str x)), none] S rfl fun _ => rfl
    have al := all_map chB (x.cps.toList.map fun c => D.str ⟨#[c]⟩)
    rw [chars_all] at al
    rw [es] at hs
    generalize compX [1] (tgNS 1) (vF 0) yesE (opE (inA false) (vB 1) (kE (.str "abcdefghijklmnopqrstuvwxyz"))) = ce at hc ⊢
    cases e2 : (x == ("" : Str)) with
    | true =>
      have : nmB (.str x) = false := by
        show nameB x = false
        unfold nameB
        rw [e2]
        simp
      have l0 : x.length = 0 := by
        have := eq_of_beq e2
        subst this
        decide +kernel
      have l1 : ¬ ((1 : Int) ≤ (x.length : Nat)) := by omega
      simp [defF, bodyF, frame, seqS, iffS, RS.bind, R.st, tst, opE, bindE, kE, R.bind, R.get, vB, vF, retS, retV, kOk, skipS, callE, consF, consM, cellV, nilW, b1E, asB, setS, ownS, ownS.isRef, frzS, tupE, lstE, consE, nilE, partE, noPart, andE, orE, notE, andB, orB, notB, ifE, hs, chainE, lenD2, lenD, lx, leI, gI, l1, this]
    | false =>
      have l1 : (1 : Int) ≤ (x.length : Nat) := by
        have : x.length ≠ 0 := fun z => by
          have : x = ("" : Str) := by
            obtain ⟨c⟩ := x
            have : c = #[] := Array.eq_empty_of_size_eq_zero z
            subst this
            decide +kernel
          subst this
          exact absurd e2 (by decide +kernel)
        omega
      by_cases l12 : x.length ≤ 12
      · have l12' : ((x.length : Nat) : Int) ≤ 12 := by omega
        have : nmB (.str x) = x.cps.toList.all fun c => !(Builtin.Str.occurrences letters ⟨#[c]⟩ 0 letters.length 1).isEmpty := by
          show nameB x = _
          unfold nameB
          rw [e2, h1, decide_eq_true l12]
          rfl
        rw [← this] at al
        simp only [List.map_map] at hc al
        simp [defF, bodyF, frame, seqS, iffS, RS.bind, R.st, tst, opE, bindE, kE, R.bind, R.get, vB, vF, retS, retV, kOk, skipS, callE, consF, consM, cellV, nilW, b1E, asB, setS, ownS, ownS.isRef, frzS, tupE, lstE, consE, nilE, partE, noPart, andE, orE, notE, andB, orB, notB, ifE, hs, chainE, lenD2, lenD, lx, leI, gI, l1, l12', hc, al]
      · have l12' : ¬ ((x.length : Nat) : Int) ≤ 12 := by omega
        have : nmB (.str x) = false := by
          show nameB x = false
          unfold nameB
          rw [decide_eq_false l12]
          simp
        simp [defF, bodyF, frame, seqS, iffS, RS.bind, R.st, tst, opE, bindE, kE, R.bind, R.get, vB, vF, retS, retV, kOk, skipS, callE, consF, consM, cellV, nilW, b1E, asB, setS, ownS, ownS.isRef, frzS, tupE, lstE, consE, nilE, partE, noPart, andE, orE, notE, andB, orB, notB, ifE, hs, chainE, lenD2, lenD, lx, leI, gI, l1, l12', this]
end
end Fw

set_option  maxHeartbeats 4000000
namespace Fw
open PySem L2

/-! ### signs judged by the program -/
def kdB (ks : List Str) : D → Bool
  | .str x => ks.any fun k => k == x
  | _ => false
def plB (ks : List Str) (p : D) : Bool := match rowO p with
  | some ps => decide (ps.length ≤ 2) && ps.all (kdB ks)
  | none => false
def tieB (ks : List Str) (d : D) : Bool := match rowO d with
  | some [n, p] => sgnB n && plB ks p
  | _ => false
def funB (ks : List Str) (d : D) : Bool := match rowO d with
  | some [n, p, k] => sgnB n && (plB ks p && kdB ks k)
  | _ => false
section
variable {k m : Nat} {d p K : D} {ks : List Str}
theorem inA_row (hK : rowO K = some (ks.map D.str)) (x : Str) (neg : Bool) : inA neg (.str x) K = some (.bl (if neg then !(ks.any fun k => k == x) else ks.any fun k => k == x)) := by
  rcases row_cases hK with rfl | rfl
  · exact inA_L ks x neg
  · exact inA_T ks x neg
theorem row_rs (hK : rowO K = some (ks.map D.str)) (S : Sto) : rs S K = some K := by
  rcases row_cases hK with rfl | rfl <;> rfl
theorem kind_u (cs : Cs) (hK : rowO K = some (ks.map D.str)) (h : Uv k d) (S : Sto) : F_is_kind cs [.f K, .f d] S = .ok (.bl (kdB ks d)) S := by
  have hs := h.iss
  have hr := h.rs
  have rK := row_rs hK
  cases es : isS d with
  | false =>
    have : kdB ks d = false := by cases d <;> first | rfl | cases es
    rw [es] at hs
    simp [F_is_kind, B_is_kind, defF, bodyF, frame, seqS, iffS, RS.bind, R.st, tst, opE, bindE, kE, R.bind, R.get, vB, vF, retS, retV, kOk, skipS, callE, consF, consM, cellV, nilW, b1E, asB, setS, ownS, ownS.isRef, frzS, tupE, lstE, consE, nilE, partE, noPart, andE, orE, notE, andB, orB, notB, ifE, hr, rK, hs, this]
  | true =>
    obtain ⟨x, rfl⟩ : ∃ x, d = .str x := by cases d <;> first | exact ⟨_, rfl⟩ | cases es
    rw [es] at hs
    have := inA_row hK x false
    simp [F_is_kind, B_is_kind, defF, bodyF, frame, seqS, iffS, RS.bind, R.st, tst, opE, bindE, kE, R.bind, R.get, vB, vF, retS, retV, kOk, skipS, callE, consF, consM, cellV, nilW, b1E, asB, setS, ownS, ownS.isRef, frzS, tupE, lstE, consE, nilE, partE, noPart, andE, orE, notE, andB, orB, notB, ifE, hr, rK, hs, this, kdB]
theorem places_u (cs : Cs) (hK : rowO K = some (ks.map D.str)) (h : Uv k p) (S : Sto) : F_are_places cs [.f K, .f p] S = .ok (.bl (plB ks p)) S := by
  have hl := listed_u cs h S
  have hr := h.rs
  unfold F_are_places B_are_places
  cases er : rowO p with
  | none =>
    rw [er] at hl
    have : plB ks p = false := by unfold plB; rw [er]
    simp [defF, bodyF, frame, seqS, iffS, RS.bind, R.st, tst, opE, bindE, kE, R.bind, R.get, vB, vF, retS, retV, kOk, skipS, callE, consF, consM, cellV, nilW, b1E, asB, setS, ownS, ownS.isRef, frzS, tupE, lstE, consE, nilE, partE, noPart, andE, orE, notE, andB, orB, notB, ifE, hl, this]
  | some ps =>
    rw [er] at hl
    obtain ⟨h20, hu⟩ := h.row er
    have hn := row_len er
    have hc := compX_seq (i := 2) (fi := vF 1) (fe := callE (F_is_kind cs) (consF (vF 0) (consF (vF 2) nilW))) (env := [some (.f K), some (.f p), none]) (S := S) (row_it er) (by omega) (fun x => D.bl (kdB ks x)) rfl fun x hx => by
      have := kind_u cs hK (hu x hx) S
      simp [defF, bodyF, frame, seqS, iffS, RS.bind, R.st, tst, opE, bindE, kE, R.bind, R.get, vB, vF, retS, retV, kOk, skipS, callE, consF, consM, cellV, nilW, b1E, asB, setS, ownS, ownS.isRef, frzS, tupE, lstE, consE, nilE, partE, noPart, setE, wipeE, this]
    have al := all_map (kdB ks) ps
    by_cases h2 : ps.length ≤ 2
    · have h2' : ¬ ((2 : Int) < (ps.length : Nat)) := by omega
      have e : plB ks p = ps.all (kdB ks) := by
        unfold plB
        rw [er]
        show (decide (ps.length ≤ 2) && _) = _
        rw [decide_eq_true h2]
        rfl
      generalize compX [2] (tgNS 2) (vF 1) yesE (callE (F_is_kind cs) (consF (vF 0) (consF (vF 2) nilW))) = ce at hc ⊢
      simp [defF, bodyF, frame, seqS, iffS, RS.bind, R.st, tst, opE, bindE, kE, R.bind, R.get, vB, vF, retS, retV, kOk, skipS, callE, consF, consM, cellV, nilW, b1E, asB, setS, ownS, ownS.isRef, frzS, tupE, lstE, consE, nilE, partE, noPart, andE, orE, notE, andB, orB, notB, ifE, hl, hr, hn, gtI, gI, h2', hc, al, e]
    · have h2' : (2 : Int) < (ps.length : Nat) := by omega
      have e : plB ks p = false := by
        unfold plB
        rw [er]
        show (decide (ps.length ≤ 2) && _) = _
        rw [decide_eq_false h2]
        rfl
      simp [defF, bodyF, frame, seqS, iffS, RS.bind, R.st, tst, opE, bindE, kE, R.bind, R.get, vB, vF, retS, retV, kOk, skipS, callE, consF, consM, cellV, nilW, b1E, asB, setS, ownS, ownS.isRef, frzS, tupE, lstE, consE, nilE, partE, noPart, andE, orE, notE, andB, orB, notB, ifE, hl, hr, hn, gtI, gI, h2', e]
theorem sgname_u (cs : Cs) (h : Uv k d) (S : Sto) : F_is_sign_name cs [.f d] S = .ok (.bl (sgnB d)) S := by
  have hn := name_u cs h S
  have hr := h.rs
  cases e : nmB d with
  | false =>
    rw [e] at hn
    have : sgnB d = false := by
      cases d <;> first | rfl | skip
      show signB _ = false
      unfold signB
      rw [show nameB _ = false from e]
      rfl
    simp [F_is_sign_name, B_is_sign_name, defF, bodyF, frame, seqS, iffS, RS.bind, R.st, tst, opE, bindE, kE, R.bind, R.get, vB, vF, retS, retV, kOk, skipS, callE, consF, consM, cellV, nilW, b1E, asB, setS, ownS, ownS.isRef, frzS, tupE, lstE, consE, nilE, partE, noPart, andE, orE, notE, andB, orB, notB, ifE, hn, this]
  | true =>
    obtain ⟨x, rfl⟩ : ∃ x, d = .str x := by cases d <;> first | exact ⟨_, rfl⟩ | cases e
    rw [e] at hn
    have e1 := inA_taken true x
    have : sgnB (.str x) = !(taken.any fun t => t == x) := by
      show signB x = _
      unfold signB
      rw [show nameB x = true from e]
      rfl
    simp [F_is_sign_name, B_is_sign_name, defF, bodyF, frame, seqS, iffS, RS.bind, R.st, tst, opE, bindE, kE, R.bind, R.get, vB, vF, retS, retV, kOk, skipS, callE, consF, consM, cellV, nilW, b1E, asB, setS, ownS, ownS.isRef, frzS, tupE, lstE, consE, nilE, partE, noPart, andE, orE, notE, andB, orB, notB, ifE, hn, hr, e1, this]
theorem ix_0 {xs : List D} {n : D} (e : rowO d = some (n :: xs)) : ixG d (.int 0) = some n := row_ix e 0 rfl
theorem ix_1 {xs : List D} {n p : D} (e : rowO d = some (n :: p :: xs)) : ixG d (.int 1) = some p := row_ix e 1 rfl
theorem ix_2 {xs : List D} {n p q : D} (e : rowO d = some (n :: p :: q :: xs)) : ixG d (.int 2) = some q := row_ix e 2 rfl
theorem tie_u (cs : Cs) (hK : rowO K = some (ks.map D.str)) (h : Uv k d) (S : Sto) : F_is_tie cs [.f K, .f d] S = .ok (.bl (tieB ks d)) S := by
  have hl := listed_u cs h S
  have hr := h.rs
  unfold F_is_tie B_is_tie
  cases er : rowO d with
  | none =>
    rw [er] at hl
    have : tieB ks d = false := by unfold tieB; rw [er]
    simp [defF, bodyF, frame, seqS, iffS, RS.bind, R.st, tst, opE, bindE, kE, R.bind, R.get, vB, vF, retS, retV, kOk, skipS, callE, consF, consM, cellV, nilW, b1E, asB, setS, ownS, ownS.isRef, frzS, tupE, lstE, consE, nilE, partE, noPart, andE, orE, notE, andB, orB, notB, ifE, hl, this]
  | some xs =>
    rw [er] at hl
    obtain ⟨h20, hu⟩ := h.row er
    have hn := row_len er
    have e1 := eqG_int true (xs.length : Nat) 2
    by_cases h2 : xs.length = 2
    · obtain ⟨n, p, rfl⟩ : ∃ n p, xs = [n, p] := by
        rcases xs with _ | ⟨n, _ | ⟨p, _ | _⟩⟩ <;> first | exact ⟨_, _, rfl⟩ | cases h2
      have : tieB ks d = (sgnB n && plB ks p) := by unfold tieB; rw [er]
      have i0 := ix_0 er
      have i1 := ix_1 er
      have s1 := sgname_u cs (hu n (by simp)) S
      have s2 := places_u cs hK (hu p (by simp)) S
      have e2 : eqG true (.int 2) (.int 2) = some (.bl false) := rfl
      cases q : sgnB n <;> rw [q] at s1 this <;> simp [defF, bodyF, frame, seqS, iffS, RS.bind, R.st, tst, opE, bindE, kE, R.bind, R.get, vB, vF, retS, retV, kOk, skipS, callE, consF, consM, cellV, nilW, b1E, asB, setS, ownS, ownS.isRef, frzS, tupE, lstE, consE, nilE, partE, noPart, andE, orE, notE, andB, orB, notB, ifE, hl, hr, hn, e2, i0, i1, s1, s2, this]
    · have : tieB ks d = false := by
        unfold tieB
        rw [er]
        rcases xs with _ | ⟨n, _ | ⟨p, _ | _⟩⟩ <;> first | rfl | exact absurd rfl h2
      have e2 : ((((xs.length : Nat) : Int)) == 2) = false := by
        rw [beq_eq_false_iff_ne]
        omega
      rw [e2] at e1
      simp [defF, bodyF, frame, seqS, iffS, RS.bind, R.st, tst, opE, bindE, kE, R.bind, R.get, vB, vF, retS, retV, kOk, skipS, callE, consF, consM, cellV, nilW, b1E, asB, setS, ownS, ownS.isRef, frzS, tupE, lstE, consE, nilE, partE, noPart, andE, orE, notE, andB, orB, notB, ifE, hl, hr, hn, e1, this]
theorem fun_u (cs : Cs) (hK : rowO K = some (ks.map D.str)) (h : Uv k d) (S : Sto) : F_is_function cs [.f K, .f d] S = .ok (.bl (funB ks d)) S := by
  have hl := listed_u cs h S
  have hr := h.rs
  unfold F_is_function B_is_function
  cases er : rowO d with
  | none =>
    rw [er] at hl
    have : funB ks d = false := by unfold funB; rw [er]
    simp [defF, bodyF, frame, seqS, iffS, RS.bind, R.st, tst, opE, bindE, kE, R.bind, R.get, vB, vF, retS, retV, kOk, skipS, callE, consF, consM, cellV, nilW, b1E, asB, setS, ownS, ownS.isRef, frzS, tupE, lstE, consE, nilE, partE, noPart, andE, orE, notE, andB, orB, notB, ifE, hl, this]
  | some xs =>
    rw [er] at hl
    obtain ⟨h20, hu⟩ := h.row er
    have hn := row_len er
    have e1 := eqG_int true (xs.length : Nat) 3
    by_cases h2 : xs.length = 3
    · obtain ⟨n, p, q, rfl⟩ : ∃ n p q, xs = [n, p, q] := by
        rcases xs with _ | ⟨n, _ | ⟨p, _ | ⟨q, _ | _⟩⟩⟩ <;> first | exact ⟨_, _, _, rfl⟩ | cases h2
      have : funB ks d = (sgnB n && (plB ks p && kdB ks q)) := by unfold funB; rw [er]
      have i0 := ix_0 er
      have i1 := ix_1 er
      have i2 := ix_2 er
      have s1 := sgname_u cs (hu n (by simp)) S
      have s2 := places_u cs hK (hu p (by simp)) S
      have s3 := kind_u cs hK (hu q (by simp)) S
      have e2 : eqG true (.int 3) (.int 3) = some (.bl false) := rfl
      cases q1 : sgnB n <;> rw [q1] at s1 this <;> cases q2 : plB ks p <;> rw [q2] at s2 this <;> simp [defF, bodyF, frame, seqS, iffS, RS.bind, R.st, tst, opE, bindE, kE, R.bind, R.get, vB, vF, retS, retV, kOk, skipS, callE, consF, consM, cellV, nilW, b1E, asB, setS, ownS, ownS.isRef, frzS, tupE, lstE, consE, nilE, partE, noPart, andE, orE, notE, andB, orB, notB, ifE, hl, hr, hn, e2, i0, i1, i2, s1, s2, s3, this]
    · have : funB ks d = false := by
        unfold funB
        rw [er]
        rcases xs with _ | ⟨n, _ | ⟨p, _ | ⟨q, _ | _⟩⟩⟩ <;> first | rfl | exact absurd rfl h2
      have e2 : ((((xs.length : Nat) : Int)) == 3) = false := by
        rw [beq_eq_false_iff_ne]
        omega
      rw [e2] at e1
      simp [defF, bodyF, frame, seqS, iffS, RS.bind, R.st, tst, opE, bindE, kE, R.bind, R.get, vB, vF, retS, retV, kOk, skipS, callE, consF, consM, cellV, nilW, b1E, asB, setS, ownS, ownS.isRef, frzS, tupE, lstE, consE, nilE, partE, noPart, andE, orE, notE, andB, orB, notB, ifE, hl, hr, hn, e1, this]
end
/-! ### like ones -/
def ndB : List Str → List Str → Bool
  | _, [] => true
  | pre, x :: r => !(pre.any fun k => k == x) && ndB (pre ++ [x]) r
theorem ndB_iff : ∀ (r pre : List Str), ndB pre r = true ↔ (∀ x ∈ r, x ∉ pre) ∧ r.Nodup
  | [], pre => by simp [ndB]
  | x :: r, pre => by
    have a : (pre.any fun k => k == x) = true ↔ x ∈ pre := by
      rw [List.any_eq_true]
      exact ⟨fun ⟨y, h1, h2⟩ => by rw [← eq_of_beq h2]; exact h1, fun h => ⟨x, h, beq_self_eq_true x⟩⟩
    show (!(pre.any fun k => k == x) && ndB (pre ++ [x]) r) = true ↔ _
    rw [Bool.and_eq_true, ndB_iff r, Bool.not_eq_true', ← Bool.not_eq_true, a]
    simp only [List.mem_append, List.nodup_cons, List.mem_cons, List.not_mem_nil, or_false]
    constructor
    · rintro ⟨h1, h2, h3⟩
      refine ⟨?_, fun h => (h2 x h) (.inr rfl), h3⟩
      rintro y (rfl | h)
      · exact h1
      · exact fun z => h2 y h (.inl z)
    · rintro ⟨h1, h2, h3⟩
      refine ⟨h1 x (.inl rfl), fun y hy z => ?_, h3⟩
      rcases z with z | z
      · exact h1 y (.inr hy) z
      · subst z; exact h2 hy
theorem nd_iff (r : List Str) : ndB [] r = true ↔ r.Nodup := by
  rw [ndB_iff]
  simp
theorem cnt_full {ks : List Key} : ∀ i, i ≤ ks.length → cntK ks i = i → (ks.take i).Nodup
  | 0, _, _ => by simp
  | i + 1, hi, h => by
    have hlt : i < ks.length := by omega
    have le := cntK_le ks i
    have e : ks.getD i (.inl 0) = ks[i] := by simp [List.getD, hlt]
    unfold cntK at h
    split at h
    · omega
    · rename_i no
      have ih := cnt_full (ks := ks) i (by omega) (by omega)
      rw [List.take_succ_eq_append_getElem hlt, List.nodup_append]
      refine ⟨ih, by simp, ?_⟩
      rintro a ha b hb rfl
      rw [List.mem_singleton] at hb
      apply no
      rw [List.any_eq_true]
      exact ⟨a, ha, decide_eq_true (by rw [e]; exact hb)⟩
theorem lenK_eq (ys : List Str) (hl : ys.length < 4000) : ∃ c : Nat, lenK (.lst (ys.map D.str)) = some (.int c) ∧ lenK (.tup (ys.map D.str)) = some (.int c) ∧ ((c : Int) == (ys.length : Nat)) = ndB [] ys := by
  let ks := ys.map (Sum.inr : Str → Key)
  have k : lenKs (ys.map D.str) = some (.int (cntK ks ks.length : Nat)) := by
    unfold lenKs
    simp only [keys_strs, Option.bind_some]
    rw [List.length_map, decide_eq_true hl]
    rfl
  refine ⟨cntK ks ks.length, k, k, ?_⟩
  have lk : ks.length = ys.length := List.length_map ..
  cases e : ndB [] ys with
  | true =>
    have nd : ks.Nodup := List.Pairwise.map _ (fun a b n e => n (Sum.inr.inj e)) ((nd_iff ys).mp e)
    rw [cnt_nodup nd ks.length (Nat.le_refl _), lk]
    simp
  | false =>
    rw [beq_eq_false_iff_ne]
    intro c
    have c : cntK ks ks.length = ks.length := by omega
    have nd := cnt_full ks.length (Nat.le_refl _) c
    rw [List.take_length] at nd
    have nd : ys.Nodup := (List.pairwise_map.mp nd).imp fun h z => h (by rw [z])
    rw [(nd_iff ys).mpr nd] at e
    cases e
end Fw

set_option  maxHeartbeats 4000000
namespace Fw
open PySem L2

theorem strsD_map : ∀ ys : List Str, strsD (ys.map D.str) = some ys
  | [] => rfl
  | y :: ys => by
    rw [List.map_cons]
    simp [strsD, strsD_map ys]
def undup (xs : List D) : Bool := match strsD xs with
  | some ys => ndB [] ys
  | none => false
theorem undup_map (ys : List Str) : undup (ys.map D.str) = ndB [] ys := by
  unfold undup
  rw [strsD_map]
def kindsB (K : D) : Bool := match rowO K with
  | some xs => decide (1 ≤ xs.length) && (decide (xs.length ≤ 4) && (xs.all nmB && undup xs))
  | none => false
def fst (d : D) : D := match rowO d with
  | some (n :: _) => n
  | _ => .non
def signsB (ks : List Str) (T F : D) : Bool := match rowO T with
  | some ts => (match rowO F with
    | some fs => decide (ts.length + fs.length ≤ 8) && (ts.all (tieB ks) && (fs.all (funB ks) && undup (ts.map fst ++ fs.map fst)))
    | none => false)
  | none => false
theorem names_of {p : D → Bool} (hp : ∀ d, p d = true → ∃ x, d = .str x) : ∀ {xs : List D}, xs.all p = true → ∃ ks : List Str, xs = ks.map D.str ∧ ∀ k ∈ ks, p (.str k) = true
  | [], _ => ⟨[], rfl, fun _ h => by cases h⟩
  | x :: xs, h => by
    obtain ⟨h1, h2⟩ := Bool.and_eq_true_iff.mp (show (p x && xs.all p) = true by rw [List.all_cons] at h; exact h)
    obtain ⟨ks, e, g⟩ := names_of hp h2
    obtain ⟨y, rfl⟩ := hp x h1
    refine ⟨y :: ks, by rw [e]; rfl, fun k hk => ?_⟩
    rcases List.mem_cons.mp hk with z | z
    · rw [z]; exact h1
    · exact g k z
theorem nmB_str (d : D) (h : nmB d = true) : ∃ x, d = .str x := by
  cases d <;> first | exact ⟨_, rfl⟩ | cases h
theorem sgnB_str (d : D) (h : sgnB d = true) : ∃ x, d = .str x := by
  cases d <;> first | exact ⟨_, rfl⟩ | cases h
section
variable {k : Nat} {d K T F : D} {ks : List Str}
theorem kinds_u (cs : Cs) (h : Uv k K) (S : Sto) : F_are_kinds cs [.f K] S = .ok (.bl (kindsB K)) S := by
  have hl := listed_u cs h S
  have hr := h.rs
  unfold F_are_kinds B_are_kinds
  cases er : rowO K with
  | none =>
    rw [er] at hl
    have : kindsB K = false := by unfold kindsB; rw [er]
    simp [defF, bodyF, frame, seqS, iffS, RS.bind, R.st, tst, opE, bindE, kE, R.bind, R.get, vB, vF, retS, retV, kOk, skipS, callE, consF, consM, cellV, nilW, b1E, asB, setS, ownS, ownS.isRef, frzS, tupE, lstE, consE, nilE, partE, noPart, andE, orE, notE, andB, orB, notB, ifE, hl, this]
  | some xs =>
    rw [er] at hl
    obtain ⟨h20, hu⟩ := h.row er
    have hn := row_len er
    have kb : kindsB K = (decide (1 ≤ xs.length) && (decide (xs.length ≤ 4) && (xs.all nmB && undup xs))) := by unfold kindsB; rw [er]
    by_cases l1 : 1 ≤ xs.length
    · by_cases l4 : xs.length ≤ 4
      · have l1' : ¬ (((xs.length : Nat) : Int) < 1) := by omega
        have l4' : ¬ ((4 : Int) < (xs.length : Nat)) := by omega
        have hc := compX_seq (i := 1) (fi := vF 0) (fe := callE (F_is_name cs) (consF (vF 1) nilW)) (env := [some (.f K), none]) (S := S) (row_it er) (by omega) (fun x => D.bl (nmB x)) rfl fun x hx => by
          have := name_u cs (hu x hx) S
          simp [defF, bodyF, frame, seqS, iffS, RS.bind, R.st, tst, opE, bindE, kE, R.bind, R.get, vB, vF, retS, retV, kOk, skipS, callE, consF, consM, cellV, nilW, b1E, asB, setS, ownS, ownS.isRef, frzS, tupE, lstE, consE, nilE, partE, noPart, setE, wipeE, this]
        have al := all_map nmB xs
        rw [decide_eq_true l1, decide_eq_true l4] at kb
        generalize compX [1] (tgNS 1) (vF 0) yesE (callE (F_is_name cs) (consF (vF 1) nilW)) = ce at hc ⊢
        cases ea : xs.all nmB with
        | false =>
          rw [ea] at al kb
          simp [defF, bodyF, frame, seqS, iffS, RS.bind, R.st, tst, opE, bindE, kE, R.bind, R.get, vB, vF, retS, retV, kOk, skipS, callE, consF, consM, cellV, nilW, b1E, asB, setS, ownS, ownS.isRef, frzS, tupE, lstE, consE, nilE, partE, noPart, andE, orE, notE, andB, orB, notB, ifE, hl, hr, hn, gtI, ltI, gI, l1', l4', hc, al, kb]
        | true =>
          obtain ⟨ys, rfl, _⟩ := names_of nmB_str ea
          obtain ⟨c, c1, c2, c3⟩ := lenK_eq ys (by simpa using Nat.lt_of_le_of_lt h20 (by omega))
          have lk : lenK K = some (.int c) := by
            rcases row_cases er with z | z <;> rw [z] <;> assumption
          have e1 := eqG_int false c (ys.length : Nat)
          rw [c3] at e1
          rw [ea, undup_map] at kb
          rw [ea] at al
          rw [List.length_map] at hn l1' l4'
          simp only [List.map_map] at hc al
          simp [defF, bodyF, frame, seqS, iffS, RS.bind, R.st, tst, opE, bindE, kE, R.bind, R.get, vB, vF, retS, retV, kOk, skipS, callE, consF, consM, cellV, nilW, b1E, asB, setS, ownS, ownS.isRef, frzS, tupE, lstE, consE, nilE, partE, noPart, andE, orE, notE, andB, orB, notB, ifE, hl, hr, hn, gtI, ltI, gI, l1', l4', hc, al, lk, e1, kb]
      · have l1' : ¬ (((xs.length : Nat) : Int) < 1) := by omega
        have l4' : (4 : Int) < (xs.length : Nat) := by omega
        rw [decide_eq_false l4] at kb
        simp [defF, bodyF, frame, seqS, iffS, RS.bind, R.st, tst, opE, bindE, kE, R.bind, R.get, vB, vF, retS, retV, kOk, skipS, callE, consF, consM, cellV, nilW, b1E, asB, setS, ownS, ownS.isRef, frzS, tupE, lstE, consE, nilE, partE, noPart, andE, orE, notE, andB, orB, notB, ifE, hl, hr, hn, gtI, ltI, gI, l1', l4', kb]
    · have l1' : ((xs.length : Nat) : Int) < 1 := by omega
      rw [decide_eq_false l1] at kb
      simp [defF, bodyF, frame, seqS, iffS, RS.bind, R.st, tst, opE, bindE, kE, R.bind, R.get, vB, vF, retS, retV, kOk, skipS, callE, consF, consM, cellV, nilW, b1E, asB, setS, ownS, ownS.isRef, frzS, tupE, lstE, consE, nilE, partE, noPart, andE, orE, notE, andB, orB, notB, ifE, hl, hr, hn, gtI, ltI, gI, l1', kb]
theorem tieB_fst {d : D} (h : tieB ks d = true) : ∃ n p, rowO d = some [n, p] ∧ fst d = n ∧ sgnB n = true ∧ plB ks p = true := by
  unfold tieB at h
  split at h
  · rename_i n p e
    obtain ⟨a, b⟩ := Bool.and_eq_true_iff.mp h
    exact ⟨n, p, e, by unfold fst; rw [e], a, b⟩
  · cases h
theorem funB_fst {d : D} (h : funB ks d = true) : ∃ n p q, rowO d = some [n, p, q] ∧ fst d = n ∧ sgnB n = true ∧ plB ks p = true ∧ kdB ks q = true := by
  unfold funB at h
  split at h
  · rename_i n p q e
    obtain ⟨a, b⟩ := Bool.and_eq_true_iff.mp h
    obtain ⟨b, c⟩ := Bool.and_eq_true_iff.mp b
    exact ⟨n, p, q, e, by unfold fst; rw [e], a, b, c⟩
  · cases h
theorem fsts {p : D → Bool} (hp : ∀ d, p d = true → sgnB (fst d) = true) {xs : List D} (h : xs.all p = true) : ∃ ns : List Str, xs.map fst = ns.map D.str ∧ ∀ n ∈ ns, signB n = true := by
  have : (xs.map fst).all sgnB = true := by
    rw [List.all_map, List.all_eq_true]
    intro x hx
    exact hp x (List.all_eq_true.mp h x hx)
  obtain ⟨ns, a, b⟩ := names_of sgnB_str this
  exact ⟨ns, a, b⟩
theorem tie_fst (d : D) (h : tieB ks d = true) : sgnB (fst d) = true := by
  obtain ⟨n, p, _, e, a, _⟩ := tieB_fst h
  rw [e]; exact a
theorem fun_fst (d : D) (h : funB ks d = true) : sgnB (fst d) = true := by
  obtain ⟨n, p, q, _, e, a, _⟩ := funB_fst h
  rw [e]; exact a
theorem signs_u (cs : Cs) (hK : rowO K = some (ks.map D.str)) (hT : Uv k T) (hF : Uv k F) (S : Sto) : F_are_signs cs [.f K, .f T, .f F] S = .ok (.bl (signsB ks T F)) S := by
  have l1 := listed_u cs hT S
  have l2 := listed_u cs hF S
  have r1 := hT.rs
  have r2 := hF.rs
  unfold F_are_signs B_are_signs
  cases et : rowO T with
  | none =>
    rw [et] at l1
    have : signsB ks T F = false := by unfold signsB; rw [et]
    simp [defF, bodyF, frame, seqS, iffS, RS.bind, R.st, tst, opE, bindE, kE, R.bind, R.get, vB, vF, retS, retV, kOk, skipS, callE, consF, consM, cellV, nilW, b1E, asB, setS, ownS, ownS.isRef, frzS, tupE, lstE, consE, nilE, partE, noPart, andE, orE, notE, andB, orB, notB, ifE, l1, this]
  | some ts =>
    rw [et] at l1
    cases ef : rowO F with
    | none =>
      rw [ef] at l2
      have : signsB ks T F = false := by unfold signsB; rw [et]; dsimp only; rw [ef]
      simp [defF, bodyF, frame, seqS, iffS, RS.bind, R.st, tst, opE, bindE, kE, R.bind, R.get, vB, vF, retS, retV, kOk, skipS, callE, consF, consM, cellV, nilW, b1E, asB, setS, ownS, ownS.isRef, frzS, tupE, lstE, consE, nilE, partE, noPart, andE, orE, notE, andB, orB, notB, ifE, l1, l2, this]
    | some fs =>
      rw [ef] at l2
      obtain ⟨t20, tu⟩ := hT.row et
      obtain ⟨f20, fu⟩ := hF.row ef
      have n1 := row_len et
      have n2 := row_len ef
      have sb : signsB ks T F = (decide (ts.length + fs.length ≤ 8) && (ts.all (tieB ks) && (fs.all (funB ks) && undup (ts.map fst ++ fs.map fst)))) := by unfold signsB; rw [et]; dsimp only; rw [ef]
      have pi := plusG_I (ts.length : Nat) (fs.length : Nat)
      by_cases l8 : ts.length + fs.length ≤ 8
      · have l8' : ¬ ((8 : Int) < ((ts.length : Nat) : Int) + ((fs.length : Nat) : Int)) := by omega
        rw [decide_eq_true l8] at sb
        let e0 : Env := [some (.f K), some (.f T), some (.f F), none, none, none, none]
        have c1 := compX_seq (i := 3) (fi := vF 1) (fe := callE (F_is_tie cs) (consF (vF 0) (consF (vF 3) nilW))) (env := e0) (S := S) (row_it et) (by omega) (fun x => D.bl (tieB ks x)) rfl fun x hx => by
          have := tie_u cs hK (tu x hx) S
          simp [defF, bodyF, frame, seqS, iffS, RS.bind, R.st, tst, opE, bindE, kE, R.bind, R.get, vB, vF, retS, retV, kOk, skipS, callE, consF, consM, cellV, nilW, b1E, asB, setS, ownS, ownS.isRef, frzS, tupE, lstE, consE, nilE, partE, noPart, setE, wipeE, e0, this]
        have c2 := compX_seq (i := 4) (fi := vF 2) (fe := callE (F_is_function cs) (consF (vF 0) (consF (vF 4) nilW))) (env := e0) (S := S) (row_it ef) (by omega) (fun x => D.bl (funB ks x)) rfl fun x hx => by
          have := fun_u cs hK (fu x hx) S
          simp [defF, bodyF, frame, seqS, iffS, RS.bind, R.st, tst, opE, bindE, kE, R.bind, R.get, vB, vF, retS, retV, kOk, skipS, callE, consF, consM, cellV, nilW, b1E, asB, setS, ownS, ownS.isRef, frzS, tupE, lstE, consE, nilE, partE, noPart, setE, wipeE, e0, this]
        have a1 := all_map (tieB ks) ts
        have a2 := all_map (funB ks) fs
        have c3 : ts.all (tieB ks) = true → compX [6] (tgNS 6) (vF 1) yesE (opE ixG (vB 6) (kE (.int 0))) e0 S = .ok (.lst (ts.map fst)) S := fun ha => compX_seq (i := 6) (S := S) (row_it et) (by omega) fst rfl fun x hx => by
          obtain ⟨n, p, e, e2, _⟩ := tieB_fst (List.all_eq_true.mp ha x hx)
          have i0 := ix_0 e
          have rx := (tu x hx).rs
          simp [defF, bodyF, frame, seqS, iffS, RS.bind, R.st, tst, opE, bindE, kE, R.bind, R.get, vB, vF, retS, retV, kOk, skipS, callE, consF, consM, cellV, nilW, b1E, asB, setS, ownS, ownS.isRef, frzS, tupE, lstE, consE, nilE, partE, noPart, setE, wipeE, e0, rx, i0, e2]
        have c4 : fs.all (funB ks) = true → compX [6] (tgNS 6) (vF 2) yesE (opE ixG (vB 6) (kE (.int 0))) e0 S = .ok (.lst (fs.map fst)) S := fun ha => compX_seq (i := 6) (S := S) (row_it ef) (by omega) fst rfl fun x hx => by
          obtain ⟨n, p, q, e, e2, _⟩ := funB_fst (List.all_eq_true.mp ha x hx)
          have i0 := ix_0 e
          have rx := (fu x hx).rs
          simp [defF, bodyF, frame, seqS, iffS, RS.bind, R.st, tst, opE, bindE, kE, R.bind, R.get, vB, vF, retS, retV, kOk, skipS, callE, consF, consM, cellV, nilW, b1E, asB, setS, ownS, ownS.isRef, frzS, tupE, lstE, consE, nilE, partE, noPart, setE, wipeE, e0, rx, i0, e2]
        simp only [e0] at c1 c2 c3 c4
        generalize compX [3] (tgNS 3) (vF 1) yesE (callE (F_is_tie cs) (consF (vF 0) (consF (vF 3) nilW))) = f1 at c1 ⊢
        generalize compX [4] (tgNS 4) (vF 2) yesE (callE (F_is_function cs) (consF (vF 0) (consF (vF 4) nilW))) = f2 at c2 ⊢
        generalize compX [6] (tgNS 6) (vF 1) yesE (opE ixG (vB 6) (kE (.int 0))) = f3 at c3 ⊢
        generalize compX [6] (tgNS 6) (vF 2) yesE (opE ixG (vB 6) (kE (.int 0))) = f4 at c4 ⊢
        cases ea : ts.all (tieB ks) with
        | false =>
          rw [ea] at a1 sb
          simp [defF, bodyF, frame, seqS, iffS, RS.bind, R.st, tst, opE, bindE, kE, R.bind, R.get, vB, vF, retS, retV, kOk, skipS, callE, consF, consM, cellV, nilW, b1E, asB, setS, ownS, ownS.isRef, frzS, tupE, lstE, consE, nilE, partE, noPart, andE, orE, notE, andB, orB, notB, ifE, l1, l2, r1, r2, n1, n2, pi, gtI, gI, l8', c1, a1, sb]
        | true =>
          cases eb : fs.all (funB ks) with
          | false =>
            rw [ea] at a1 sb
            rw [eb] at a2 sb
            simp [defF, bodyF, frame, seqS, iffS, RS.bind, R.st, tst, opE, bindE, kE, R.bind, R.get, vB, vF, retS, retV, kOk, skipS, callE, consF, consM, cellV, nilW, b1E, asB, setS, ownS, ownS.isRef, frzS, tupE, lstE, consE, nilE, partE, noPart, andE, orE, notE, andB, orB, notB, ifE, l1, l2, r1, r2, n1, n2, pi, gtI, gI, l8', c1, a1, c2, a2, sb]
          | true =>
            have c3 := c3 ea
            have c4 := c4 eb
            obtain ⟨n1s, q1, _⟩ := fsts tie_fst ea
            obtain ⟨n2s, q2, _⟩ := fsts fun_fst eb
            have ll1 : n1s.length = ts.length := by have := congrArg List.length q1; simpa using this.symm
            have ll2 : n2s.length = fs.length := by have := congrArg List.length q2; simpa using this.symm
            rw [ea, eb, q1, q2, ← List.map_append, undup_map] at sb
            rw [ea] at a1
            rw [eb] at a2
            rw [q1] at c3
            rw [q2] at c4
            obtain ⟨c, d1, _, d3⟩ := lenK_eq (n1s ++ n2s) (by rw [List.length_append]; omega)
            have pg : plusG (.lst (n1s.map D.str)) (.lst (n2s.map D.str)) = some (.lst ((n1s ++ n2s).map D.str)) := by
              rw [List.map_append]
              exact plusG_L (sz_of (by rw [List.length_map, List.length_map]; omega))
            have e1 := eqG_int false c ((n1s ++ n2s).length : Nat)
            rw [d3] at e1
            have n3 : lenD2 (.lst ((n1s ++ n2s).map D.str)) = some (.int ((n1s ++ n2s).length : Nat)) := by
              have := row_len (d := .lst ((n1s ++ n2s).map D.str)) rfl
              rwa [List.length_map] at this
            generalize n1s ++ n2s = ns at *
            simp [defF, bodyF, frame, seqS, iffS, RS.bind, R.st, tst, opE, bindE, kE, R.bind, R.get, vB, vF, retS, retV, kOk, skipS, callE, consF, consM, cellV, nilW, b1E, asB, setS, ownS, ownS.isRef, frzS, tupE, lstE, consE, nilE, partE, noPart, andE, orE, notE, andB, orB, notB, ifE, l1, l2, r1, r2, n1, n2, pi, gtI, gI, l8', c1, a1, c2, a2, c3, c4, pg, d1, n3, e1, sb]
      · have l8' : (8 : Int) < ((ts.length : Nat) : Int) + ((fs.length : Nat) : Int) := by omega
        rw [decide_eq_false l8] at sb
        simp [defF, bodyF, frame, seqS, iffS, RS.bind, R.st, tst, opE, bindE, kE, R.bind, R.get, vB, vF, retS, retV, kOk, skipS, callE, consF, consM, cellV, nilW, b1E, asB, setS, ownS, ownS.isRef, frzS, tupE, lstE, consE, nilE, partE, noPart, andE, orE, notE, andB, orB, notB, ifE, l1, l2, r1, r2, n1, n2, pi, gtI, gI, l8', sb]
end
end Fw

set_option  maxHeartbeats 4000000
namespace Fw
open PySem L2

/-! ### signs judged by the law -/
def lsB (ks : List Str) (m : Nat) (d : D) : Bool := match rowO d with
  | some (n :: p :: tl) => decide (tl.length + 2 = m) && (sgnB n && (match rowO p with | some ps => decide (ps.length ≤ 2) && (ps ++ tl).all (kdB ks) | none => false))
  | _ => false
theorem lsB_tie (ks : List Str) (d : D) : lsB ks 2 d = tieB ks d := by
  unfold lsB tieB
  cases rowO d with
  | none => rfl
  | some xs =>
    rcases xs with _ | ⟨n, _ | ⟨p, _ | ⟨q, tl⟩⟩⟩
    · rfl
    · rfl
    · cases ep : rowO p <;> simp [plB, ep, List.all_append, Bool.and_assoc]
    · show (decide (tl.length + 1 + 2 = 2) && _) = _
      rw [decide_eq_false (by omega)]
      rfl
theorem lsB_fun (ks : List Str) (d : D) : lsB ks 3 d = funB ks d := by
  unfold lsB funB
  cases rowO d with
  | none => rfl
  | some xs =>
    rcases xs with _ | ⟨n, _ | ⟨p, _ | ⟨q, _ | ⟨r, tl⟩⟩⟩⟩
    · rfl
    · rfl
    · rfl
    · cases ep : rowO p <;> simp [plB, ep, List.all_append, Bool.and_assoc]
    · show (decide (tl.length + 1 + 1 + 2 = 3) && _) = _
      rw [decide_eq_false (by omega)]
      first | done | rfl
theorem cut2 {d n p : D} {tl : List D} (e : rowO d = some (n :: p :: tl)) : (cutA d (some 2) none).bind listD = some (.lst tl) := by
  have c : cutL (n :: p :: tl) (some 2) none = tl := by
    unfold cutL
    simp [HT.sIx]
  rcases row_cases e with rfl | rfl
  · show some (D.lst (cutL (n :: p :: tl) (some 2) none)) = _
    rw [c]
  · show some (D.lst (cutL (n :: p :: tl) (some 2) none)) = _
    rw [c]
section
variable {k : Nat} {d K T F : D} {ks : List Str}
theorem lsign_u (cs : Cs) (hK : rowO K = some (ks.map D.str)) (h : Uv k d) (m : Nat) (h2m : 2 ≤ m) (S : Sto) : F_l_sign cs [.f K, .f d, .f (.int m)] S = .ok (.bl (lsB ks m d)) S := by
  have hl := lrow_u cs h S
  have hr := h.rs
  have rK := row_rs hK
  unfold F_l_sign B_l_sign
  cases er : rowO d with
  | none =>
    rw [er] at hl
    have : lsB ks m d = false := by unfold lsB; rw [er]
    simp [defF, bodyF, frame, seqS, iffS, RS.bind, R.st, tst, opE, bindE, kE, R.bind, R.get, vB, vF, retS, retV, kOk, skipS, callE, consF, consM, cellV, nilW, b1E, asB, setS, ownS, ownS.isRef, frzS, tupE, lstE, consE, nilE, partE, noPart, andE, orE, notE, andB, orB, notB, ifE, hl, this]
  | some xs =>
    rw [er] at hl
    obtain ⟨h20, hu⟩ := h.row er
    have hn := row_len er
    have e1 := eqG_int true (xs.length : Nat) m
    by_cases hm : xs.length = m
    · obtain ⟨n, p, tl, rfl, htl⟩ : ∃ n p tl, xs = n :: p :: tl ∧ tl.length + 2 = m := by
        rcases xs with _ | ⟨n, _ | ⟨p, tl⟩⟩
        · simp at hm; omega
        · simp at hm; omega
        · exact ⟨n, p, tl, rfl, by simpa using hm⟩
      have e2 : eqG true (.int (m : Nat)) (.int (m : Nat)) = some (.bl false) := by
        rw [eqG_int]
        simp
      rw [hm] at hn
      have i0 := ix_0 er
      have i1 := ix_1 er
      have un := hu n (by simp)
      have up := hu p (by simp)
      have s1 := lname_u cs un S
      have s2 := lrow_u cs up S
      have rn := un.rs
      have rp := up.rs
      have c2 := cut2 er
      have lb : lsB ks m d = (sgnB n && (match rowO p with | some ps => decide (ps.length ≤ 2) && (ps ++ tl).all (kdB ks) | none => false)) := by
        unfold lsB
        rw [er]
        show (decide (tl.length + 2 = m) && _) = _
        rw [decide_eq_true htl]
        rfl
      have s5 : sz 5 = true := sz_of (by omega)
      cases en : nmB n with
      | false =>
        rw [en] at s1
        have : sgnB n = false := by
          cases n <;> first | rfl | skip
          show signB _ = false
          unfold signB
          rw [show nameB _ = false from en]
          rfl
        rw [this] at lb
        simp [defF, bodyF, frame, seqS, iffS, RS.bind, R.st, tst, opE, bindE, kE, R.bind, R.get, vB, vF, retS, retV, kOk, skipS, callE, consF, consM, cellV, nilW, b1E, asB, setS, ownS, ownS.isRef, frzS, tupE, lstE, consE, nilE, partE, noPart, andE, orE, notE, andB, orB, notB, ifE, hl, hr, hn, e2, i0, s1, lb]
      | true =>
        rw [en] at s1
        obtain ⟨x, rfl⟩ := nmB_str n en
        have tk := inA_taken false x
        have sg : sgnB (.str x) = !(taken.any fun t => t == x) := by
          show signB x = _
          unfold signB
          rw [show nameB x = true from en]
          rfl
        cases et : (taken.any fun t => t == x) with
        | true =>
          rw [et] at tk sg
          rw [sg] at lb
          simp [defF, bodyF, frame, seqS, iffS, RS.bind, R.st, tst, opE, bindE, kE, R.bind, R.get, vB, vF, retS, retV, kOk, skipS, callE, consF, consM, cellV, nilW, b1E, asB, setS, ownS, ownS.isRef, frzS, tupE, lstE, consE, nilE, partE, noPart, andE, orE, notE, andB, orB, notB, ifE, hl, hr, hn, e2, i0, s1, s5, tk, lb]
        | false =>
          rw [et] at tk sg
          rw [sg] at lb
          cases ep : rowO p with
          | none =>
            rw [ep] at s2 lb
            simp [defF, bodyF, frame, seqS, iffS, RS.bind, R.st, tst, opE, bindE, kE, R.bind, R.get, vB, vF, retS, retV, kOk, skipS, callE, consF, consM, cellV, nilW, b1E, asB, setS, ownS, ownS.isRef, frzS, tupE, lstE, consE, nilE, partE, noPart, andE, orE, notE, andB, orB, notB, ifE, hl, hr, hn, e2, i0, s1, s5, tk, i1, rp, s2, lb]
          | some ps =>
            rw [ep] at s2 lb
            dsimp only at lb
            obtain ⟨p20, pu⟩ := up.row ep
            have np := row_len ep
            by_cases h2 : ps.length ≤ 2
            · have h2' : ¬ ((2 : Int) < (ps.length : Nat)) := by omega
              rw [decide_eq_true h2] at lb
              have lp := row_list ep
              have tl20 : tl.length ≤ 20 := by simp at h20; omega
              have pg : plusG (.lst ps) (.lst tl) = some (.lst (ps ++ tl)) := plusG_L (sz_of (by omega))
              have hc := compX_seq (i := 4) (fi := vF 3) (fe := andE (b1E (isiD [.str]) (vB 4)) (opE (inA false) (vB 4) (vB 0))) (env := [some (.f K), some (.f d), some (.f (.int m)), some (.f (.lst (ps ++ tl))), none]) (S := S) (d := .lst (ps ++ tl)) ⟨rfl, rfl⟩ (by rw [List.length_append]; omega) (fun x => D.bl (kdB ks x)) rfl fun z hz => by
                have uz : Uv k z := by
                  rcases List.mem_append.mp hz with q | q
                  · exact pu z q
                  · exact hu z (by simp [q])
                have is := uz.iss
                have rz := uz.rs
                cases es : isS z with
                | false =>
                  have : kdB ks z = false := by cases z <;> first | rfl | cases es
                  rw [es] at is
                  simp [defF, bodyF, frame, seqS, iffS, RS.bind, R.st, tst, opE, bindE, kE, R.bind, R.get, vB, vF, retS, retV, kOk, skipS, callE, consF, consM, cellV, nilW, b1E, asB, setS, ownS, ownS.isRef, frzS, tupE, lstE, consE, nilE, partE, noPart, andE, orE, notE, andB, orB, notB, ifE, setE, wipeE, rz, is, this]
                | true =>
                  obtain ⟨y, rfl⟩ : ∃ y, z = .str y := by cases z <;> first | exact ⟨_, rfl⟩ | cases es
                  rw [es] at is
                  have := inA_row hK y false
                  simp [defF, bodyF, frame, seqS, iffS, RS.bind, R.st, tst, opE, bindE, kE, R.bind, R.get, vB, vF, retS, retV, kOk, skipS, callE, consF, consM, cellV, nilW, b1E, asB, setS, ownS, ownS.isRef, frzS, tupE, lstE, consE, nilE, partE, noPart, andE, orE, notE, andB, orB, notB, ifE, setE, wipeE, rK, is, this, kdB]
              have al := all_map (kdB ks) (ps ++ tl)
              generalize compX [4] (tgNS 4) (vF 3) yesE (andE (b1E (isiD [.str]) (vB 4)) (opE (inA false) (vB 4) (vB 0))) = ce at hc ⊢
              generalize ps ++ tl = zs at *
              have c3 : ((cutA d (some 2) none).bind fun x => listD x) = some (.lst tl) := c2
              cases ec : cutA d (some 2) none with
              | none => rw [ec] at c2; cases c2
              | some dc =>
                rw [ec] at c2
                have c2 : listD dc = some (.lst tl) := c2
                have rdc : ∀ S, rs S dc = some dc := fun S => by
                  cases dc <;> first | rfl | cases c2
                simp [defF, bodyF, frame, seqS, iffS, RS.bind, R.st, tst, opE, bindE, kE, R.bind, R.get, vB, vF, retS, retV, kOk, skipS, callE, consF, consM, cellV, nilW, b1E, asB, setS, ownS, ownS.isRef, frzS, tupE, lstE, consE, nilE, partE, noPart, andE, orE, notE, andB, orB, notB, ifE, slE, asI, hl, hr, hn, e2, i0, s1, s5, tk, i1, rp, s2, np, gtI, gI, h2', lp, ec, rdc, c2, pg, hc, al, lb]
            · have h2' : (2 : Int) < (ps.length : Nat) := by omega
              rw [decide_eq_false h2] at lb
              simp [defF, bodyF, frame, seqS, iffS, RS.bind, R.st, tst, opE, bindE, kE, R.bind, R.get, vB, vF, retS, retV, kOk, skipS, callE, consF, consM, cellV, nilW, b1E, asB, setS, ownS, ownS.isRef, frzS, tupE, lstE, consE, nilE, partE, noPart, andE, orE, notE, andB, orB, notB, ifE, hl, hr, hn, e2, i0, s1, s5, tk, i1, rp, s2, np, gtI, gI, h2', lb]
    · have : lsB ks m d = false := by
        unfold lsB
        rw [er]
        rcases xs with _ | ⟨n, _ | ⟨p, tl⟩⟩
        · rfl
        · rfl
        · show (decide (tl.length + 2 = m) && _) = _
          rw [decide_eq_false (fun z => hm (by simpa using z))]
          rfl
      have e2 : ((((xs.length : Nat) : Int)) == (m : Nat)) = false := by
        rw [beq_eq_false_iff_ne]
        omega
      rw [e2] at e1
      simp [defF, bodyF, frame, seqS, iffS, RS.bind, R.st, tst, opE, bindE, kE, R.bind, R.get, vB, vF, retS, retV, kOk, skipS, callE, consF, consM, cellV, nilW, b1E, asB, setS, ownS, ownS.isRef, frzS, tupE, lstE, consE, nilE, partE, noPart, andE, orE, notE, andB, orB, notB, ifE, hl, hr, hn, e1, this]
end
/-! ### lists of texts compared -/
theorem eqv_strs : ∀ xs ys : List Str, PyData.eqvAll (pyL (xs.map D.str)) (pyL (ys.map D.str)) = (xs == ys)
  | [], [] => rfl
  | [], _ :: _ => rfl
  | _ :: _, [] => rfl
  | x :: xs, y :: ys => by
    show (PyData.eqv (.str x) (.str y) && PyData.eqvAll (pyL (xs.map D.str)) (pyL (ys.map D.str))) = _
    rw [eqv_strs xs ys]
    have : PyData.eqv (.str x) (.str y) = (x == y) := by simp [PyData.eqv]
    rw [this]
    rfl
theorem shaped_strs {xs : List Str} (h : ∀ x ∈ xs, PyData.strOk x = true) : SeqAt.shaped (D.py (.lst (xs.map D.str))) = true := by
  have a : ∀ l : List Str, (∀ x ∈ l, PyData.strOk x = true) → PyData.canLayAll0 (pyL (l.map D.str)) = true ∧ PyData.depthAll (pyL (l.map D.str)) ≤ 0 := by
    intro l
    induction l with
    | nil => exact fun _ => ⟨rfl, Nat.le_refl _⟩
    | cons x l ih =>
      intro g
      obtain ⟨p, q⟩ := ih fun y hy => g y (by simp [hy])
      refine ⟨?_, ?_⟩
      · show (PyData.strOk x && PyData.canLayAll0 (pyL (l.map D.str))) = true
        rw [g x (by simp), p]
        rfl
      · show max 0 (PyData.depthAll (pyL (l.map D.str))) ≤ 0
        omega
  obtain ⟨p, q⟩ := a xs h
  unfold SeqAt.shaped
  rw [Bool.and_eq_true]
  refine ⟨p, decide_eq_true ?_⟩
  show PyData.depthAll (pyL (xs.map D.str)) + 1 ≤ 64
  omega
theorem eqG_strs (neg : Bool) {xs ys : List Str} (h : ∀ x ∈ xs, PyData.strOk x = true) (g : ∀ x ∈ ys, PyData.strOk x = true) : eqG neg (.lst (xs.map D.str)) (.lst (ys.map D.str)) = some (.bl (if neg then !(xs == ys) else xs == ys)) := by
  have e : PyData.eqv (D.py (.lst (xs.map D.str))) (D.py (.lst (ys.map D.str))) = (xs == ys) := eqv_strs xs ys
  unfold eqG
  rw [shaped_strs h, shaped_strs g, e]
  rfl
/-! ### like ones, as the law looks for them -/
def unl : List Str → List Str → List Str
  | _, [] => []
  | pre, x :: r => if pre.any fun k => k == x then unl (pre ++ [x]) r else x :: unl (pre ++ [x]) r
theorem unl_len : ∀ r pre : List Str, (unl pre r).length ≤ r.length
  | [], _ => Nat.le_refl _
  | x :: r, pre => by
    have := unl_len r (pre ++ [x])
    unfold unl
    split <;> simp <;> omega
theorem unl_mem : ∀ (r pre : List Str) (y : Str), y ∈ unl pre r → y ∈ r
  | [], _, _, h => h
  | x :: r, pre, y, h => by
    unfold unl at h
    split at h
    · exact List.mem_cons_of_mem _ (unl_mem r _ y h)
    · rcases List.mem_cons.mp h with z | z
      · rw [z]; simp
      · exact List.mem_cons_of_mem _ (unl_mem r _ y z)
theorem unl_eq : ∀ r pre : List Str, (unl pre r == r) = ndB pre r
  | [], _ => rfl
  | x :: r, pre => by
    have ih := unl_eq r (pre ++ [x])
    have ln := unl_len r (pre ++ [x])
    unfold unl ndB
    split
    · rename_i c
      rw [c]
      show _ = false
      rw [beq_eq_false_iff_ne]
      intro z
      have := congrArg List.length z
      simp at this
      omega
    · rename_i c
      rw [Bool.not_eq_true] at c
      rw [c]
      show ((x == x) && (unl (pre ++ [x]) r == r)) = _
      rw [ih]
      simp
theorem cutN (xs : List D) (i : Nat) (h : i ≤ xs.length) : cutA (.lst xs) none (some (i : Nat)) = some (.lst (xs.take i)) := by
  show some (D.lst (cutL xs none (some (i : Int)))) = _
  unfold cutL
  have n0 : ¬ ((i : Int) < 0) := by omega
  have m0 : min i xs.length = i := Nat.min_eq_left h
  simp [HT.sIx, n0, m0]

/-! ### is it a book? by the law -/
def bookB (K T F : D) : Bool := kindsB K && (match rowO K with
  | some xs => (match strsD xs with
    | some ks => signsB ks T F
    | none => false)
  | none => false)
def unlE : E Bool := tst (opE (inA true) (vB 10) (slE cutA (vF 6) noPart (partE (vF 9))))
theorem unl_run (a0 a1 a2 a3 a4 a5 a7 a8 a9 a10 : Option W) (S : Sto) (ns : List Str) : ∀ (suf pre : List Str), ns = pre ++ suf → compL (tgT [9, 10]) unlE (vF 10) (enumL pre.length (suf.map D.str)) [a0, a1, a2, a3, a4, a5, some (.f (.lst (ns.map D.str))), a7, a8, a9, a10] S = .ok ((unl pre suf).map D.str) S
  | [], _, _ => rfl
  | x :: r, pre, e => by
    have ih := unl_run a0 a1 a2 a3 a4 a5 a7 a8 a9 a10 S ns r (pre ++ [x]) (by rw [e]; simp)
    rw [List.length_append] at ih
    have ih : compL (tgT [9, 10]) unlE (vF 10) (enumL (pre.length + 1) (r.map D.str)) [a0, a1, a2, a3, a4, a5, some (.f (.lst (ns.map D.str))), a7, a8, a9, a10] S = .ok ((unl (pre ++ [x]) r).map D.str) S := ih
    have ct : cutA (.lst (ns.map D.str)) none (some (pre.length : Nat)) = some (.lst (pre.map D.str)) := by
      rw [cutN _ _ (by rw [e]; simp), ← List.map_take, e, List.take_left]
    have ia := inA_L pre x true
    have te : unlE (setE [a0, a1, a2, a3, a4, a5, some (.f (.lst (ns.map D.str))), a7, a8, a9, a10] [(9, .int (pre.length : Nat)), (10, .str x)]) S = .ok (!(pre.any fun k => k == x)) S := by
      simp [unlE, defF, bodyF, frame, seqS, iffS, RS.bind, R.st, tst, opE, bindE, kE, R.bind, R.get, vB, vF, retS, retV, kOk, skipS, callE, consF, consM, cellV, nilW, b1E, asB, setS, ownS, ownS.isRef, frzS, tupE, lstE, consE, nilE, partE, noPart, slE, asI, setE, ct, ia]
    rw [List.map_cons]
    show (match tgT [9, 10] (.tup [.int (pre.length : Nat), .str x]) with
      | none => R.no
      | some us => (unlE (setE [a0, a1, a2, a3, a4, a5, some (.f (.lst (ns.map D.str))), a7, a8, a9, a10] us) S).nx fun b S1 => if b then (vF 10 (setE [a0, a1, a2, a3, a4, a5, some (.f (.lst (ns.map D.str))), a7, a8, a9, a10] us) S1).nx fun x S2 => (compL (tgT [9, 10]) unlE (vF 10) (enumL (pre.length + 1) (r.map D.str)) [a0, a1, a2, a3, a4, a5, some (.f (.lst (ns.map D.str))), a7, a8, a9, a10] S2).nx fun xs S3 => .ok (x :: xs) S3 else compL (tgT [9, 10]) unlE (vF 10) (enumL (pre.length + 1) (r.map D.str)) [a0, a1, a2, a3, a4, a5, some (.f (.lst (ns.map D.str))), a7, a8, a9, a10] S1) = _
    rw [show tgT [9, 10] (.tup [.int (pre.length : Nat), .str x]) = some [(9, .int (pre.length : Nat)), (10, .str x)] from rfl]
    dsimp only
    rw [te]
    show (if (!(pre.any fun k => k == x)) = true then _ else _) = _
    unfold unl
    cases c : (pre.any fun k => k == x) with
    | true => exact ih
    | false =>
      show ((compL (tgT [9, 10]) unlE (vF 10) (enumL (pre.length + 1) (r.map D.str)) [a0, a1, a2, a3, a4, a5, some (.f (.lst (ns.map D.str))), a7, a8, a9, a10] S).nx fun xs S3 => .ok (.str x :: xs) S3) = _
      rw [ih]
      rfl
def apE : E D := opE (inA true) (vB 3) (slE cutA (vF 0) noPart (partE (vF 9)))
def apL : List Str → List Str → List Bool
  | _, [] => []
  | pre, x :: r => (!(pre.any fun k => k == x)) :: apL (pre ++ [x]) r
theorem apL_all : ∀ r pre : List Str, (apL pre r).all id = ndB pre r
  | [], _ => rfl
  | x :: r, pre => by
    show ((!(pre.any fun k => k == x)) && (apL (pre ++ [x]) r).all id) = _
    rw [apL_all r]
    rfl
theorem ap_run (a1 a2 a3 a4 a5 a6 a7 a8 a9 a10 : Option W) (S : Sto) (ns : List Str) : ∀ (suf pre : List Str), ns = pre ++ suf → compL (tgT [9, 3]) yesE apE (enumL pre.length (suf.map D.str)) [some (.f (.lst (ns.map D.str))), a1, a2, a3, a4, a5, a6, a7, a8, a9, a10] S = .ok ((apL pre suf).map D.bl) S
  | [], _, _ => rfl
  | x :: r, pre, e => by
    have ih := ap_run a1 a2 a3 a4 a5 a6 a7 a8 a9 a10 S ns r (pre ++ [x]) (by rw [e]; simp)
    rw [List.length_append] at ih
    have ih : compL (tgT [9, 3]) yesE apE (enumL (pre.length + 1) (r.map D.str)) [some (.f (.lst (ns.map D.str))), a1, a2, a3, a4, a5, a6, a7, a8, a9, a10] S = .ok ((apL (pre ++ [x]) r).map D.bl) S := ih
    have ct : cutA (.lst (ns.map D.str)) none (some (pre.length : Nat)) = some (.lst (pre.map D.str)) := by
      rw [cutN _ _ (by rw [e]; simp), ← List.map_take, e, List.take_left]
    have ia := inA_L pre x true
    have te : apE (setE [some (.f (.lst (ns.map D.str))), a1, a2, a3, a4, a5, a6, a7, a8, a9, a10] [(9, .int (pre.length : Nat)), (3, .str x)]) S = .ok (.bl (!(pre.any fun k => k == x))) S := by
      simp [apE, defF, bodyF, frame, seqS, iffS, RS.bind, R.st, tst, opE, bindE, kE, R.bind, R.get, vB, vF, retS, retV, kOk, skipS, callE, consF, consM, cellV, nilW, b1E, asB, setS, ownS, ownS.isRef, frzS, tupE, lstE, consE, nilE, partE, noPart, slE, asI, setE, ct, ia]
    rw [List.map_cons]
    show (match tgT [9, 3] (.tup [.int (pre.length : Nat), .str x]) with
      | none => R.no
      | some us => (apE (setE [some (.f (.lst (ns.map D.str))), a1, a2, a3, a4, a5, a6, a7, a8, a9, a10] us) S).nx fun x S2 => (compL (tgT [9, 3]) yesE apE (enumL (pre.length + 1) (r.map D.str)) [some (.f (.lst (ns.map D.str))), a1, a2, a3, a4, a5, a6, a7, a8, a9, a10] S2).nx fun xs S3 => .ok (x :: xs) S3) = _
    rw [show tgT [9, 3] (.tup [.int (pre.length : Nat), .str x]) = some [(9, .int (pre.length : Nat)), (3, .str x)] from rfl]
    dsimp only
    rw [te]
    show ((compL (tgT [9, 3]) yesE apE (enumL (pre.length + 1) (r.map D.str)) [some (.f (.lst (ns.map D.str))), a1, a2, a3, a4, a5, a6, a7, a8, a9, a10] S).nx fun xs S3 => .ok (.bl (!(pre.any fun k => k == x)) :: xs) S3) = _
    rw [ih]
    rfl
end Fw

set_option  maxHeartbeats 4000000
namespace Fw
open PySem L2

theorem compE_of {vs : List Nat} {tg : Tgt} {fi : E (List D)} {ft : E Bool} {fe : E D} {env : Env} {S : Sto} {ds ys : List D} (hi : fi env S = .ok ds S) (hl : ds.length ≤ 100) (h : compL tg ft fe ds (wipeE env vs) S = .ok ys S) : compE vs tg fi ft fe env S = .ok (.lst ys) S := by
  unfold compE bindE
  rw [hi]
  show (if sz ds.length then _ else _) = _
  rw [if_pos (sz_of (by omega))]
  rw [h]
  rfl
def cUnl : E D := compE [9, 10] (tgT [9, 10]) (getE enumD (vF 6)) unlE (vF 10)
def cAp : E D := compE [9, 3] (tgT [9, 3]) (getE enumD (vF 0)) yesE apE
def cNam : E D := compX [7] (tgNS 7) (opE plusG (b1E listD (vB 1)) (b1E listD (vB 2))) yesE (opE ixG (vB 7) (kE (.int 0)))
def cNm (cs : Cs) : E D := compX [3] (tgNS 3) (vF 0) yesE (callE (F_l_name cs) (consF (vF 3) nilW))
def cTi (cs : Cs) : E D := compX [4] (tgNS 4) (vF 1) yesE (callE (F_l_sign cs) (consF (vF 0) (consF (vF 4) (consF (kE (.int 2)) nilW))))
def cFu (cs : Cs) : E D := compX [5] (tgNS 5) (vF 2) yesE (callE (F_l_sign cs) (consF (vF 0) (consF (vF 5) (consF (kE (.int 3)) nilW))))
theorem eB_is_book (cs : Cs) : B_l_is_book cs = seqS (iffS (orB (notB (tst (callE (F_l_row cs) (consF (vF 0) nilW)))) (orB (notB (tst (chainE leI leI (kE (.int 1)) (b1E lenD2 (vB 0)) (kE (.int 4))))) (notB (tst (b1E allD (cNm cs)))))) (retS .frz (kE (.bl false))) skipS)
    (seqS (iffS (orB (notB (tst (callE (F_l_row cs) (consF (vF 1) nilW)))) (orB (notB (tst (callE (F_l_row cs) (consF (vF 2) nilW)))) (tst (opE gtI (opE plusG (b1E lenD2 (vB 1)) (b1E lenD2 (vB 2))) (kE (.int 8)))))) (retS .frz (kE (.bl false))) skipS)
    (seqS (iffS (notB (tst (b1E allD (cTi cs)))) (retS .frz (kE (.bl false))) skipS) (seqS (iffS (notB (tst (b1E allD (cFu cs)))) (retS .frz (kE (.bl false))) skipS)
    (seqS (setS 6 cNam) (seqS (ownS 8 cUnl) (seqS (frzS 8) (retS .frz (andE (opE (eqG false) (vB 8) (vB 6)) (b1E allD cAp))))))))) := rfl
section
variable {k : Nat} {K T F : D}
theorem is_book_u (cs : Cs) (hK : Uv k K) (hT : Uv k T) (hF : Uv k F) (hKt : ∀ xs, K = .tup xs → xs.length = 0 ∨ 5 ≤ xs.length) (S : Sto) : F_l_is_book cs [.f K, .f T, .f F] S = .ok (.bl (bookB K T F)) S := by
  have lK := lrow_u cs hK S
  have lT := lrow_u cs hT S
  have lF := lrow_u cs hF S
  have rK := hK.rs
  have rT := hT.rs
  have rF := hF.rs
  unfold F_l_is_book
  rw [eB_is_book]
  cases eK : rowO K with
  | none =>
    rw [eK] at lK
    have : bookB K T F = false := by unfold bookB kindsB; rw [eK]; rfl
    simp [defF, bodyF, frame, seqS, iffS, RS.bind, R.st, tst, opE, bindE, kE, R.bind, R.get, vB, vF, retS, retV, kOk, skipS, callE, consF, consM, cellV, nilW, b1E, asB, setS, ownS, ownS.isRef, frzS, tupE, lstE, consE, nilE, partE, noPart, andE, orE, notE, andB, orB, notB, ifE, lK, this]
  | some xs =>
    rw [eK] at lK
    obtain ⟨h20, hu⟩ := hK.row eK
    have nK := row_len eK
    have kb : kindsB K = (decide (1 ≤ xs.length) && (decide (xs.length ≤ 4) && (xs.all nmB && undup xs))) := by unfold kindsB; rw [eK]
    have kf : kindsB K = false → bookB K T F = false := fun z => by unfold bookB; rw [z]; rfl
    by_cases l1 : 1 ≤ xs.length
    · by_cases l4 : xs.length ≤ 4
      · have l1' : (1 : Int) ≤ (xs.length : Nat) := by omega
        have l4' : ((xs.length : Nat) : Int) ≤ 4 := by omega
        rw [decide_eq_true l1, decide_eq_true l4] at kb
        have cN : cNm cs [some (.f K), some (.f T), some (.f F), none, none, none, none, none, none, none, none] S = .ok (.lst (xs.map fun x => D.bl (nmB x))) S := compX_seq (i := 3) (row_it eK) (by omega) (fun x => D.bl (nmB x)) rfl fun x hx => by
          have := lname_u cs (hu x hx) S
          simp [defF, bodyF, frame, seqS, iffS, RS.bind, R.st, tst, opE, bindE, kE, R.bind, R.get, vB, vF, retS, retV, kOk, skipS, callE, consF, consM, cellV, nilW, b1E, asB, setS, ownS, ownS.isRef, frzS, tupE, lstE, consE, nilE, partE, noPart, setE, wipeE, this]
        have aN := all_map nmB xs
        generalize cNm cs = fN at cN ⊢
        cases ea : xs.all nmB with
        | false =>
          rw [ea] at aN kb
          have := kf kb
          simp [defF, bodyF, frame, seqS, iffS, RS.bind, R.st, tst, opE, bindE, kE, R.bind, R.get, vB, vF, retS, retV, kOk, skipS, callE, consF, consM, cellV, nilW, b1E, asB, setS, ownS, ownS.isRef, frzS, tupE, lstE, consE, nilE, partE, noPart, andE, orE, notE, andB, orB, notB, ifE, lK, rK, nK, chainE, leI, gI, l1', l4', cN, aN, this]
        | true =>
          obtain ⟨ks, rfl, nks⟩ := names_of nmB_str ea
          rw [ea] at aN kb
          rw [undup_map] at kb
          have KL : K = .lst (ks.map D.str) := by
            rcases row_cases eK with z | z
            · exact z
            · have := hKt _ z
              omega
          have bk : bookB K T F = (ndB [] ks && signsB ks T F) := by
            unfold bookB
            rw [eK]
            dsimp only
            rw [strsD_map, kb]
            simp
          rw [List.length_map] at nK l1' l4'
          simp only [List.map_map] at cN aN
          cases eT : rowO T with
          | none =>
            rw [eT] at lT
            have : signsB ks T F = false := by unfold signsB; rw [eT]
            rw [this, Bool.and_false] at bk
            simp [defF, bodyF, frame, seqS, iffS, RS.bind, R.st, tst, opE, bindE, kE, R.bind, R.get, vB, vF, retS, retV, kOk, skipS, callE, consF, consM, cellV, nilW, b1E, asB, setS, ownS, ownS.isRef, frzS, tupE, lstE, consE, nilE, partE, noPart, andE, orE, notE, andB, orB, notB, ifE, lK, rK, nK, chainE, leI, gI, l1', l4', cN, aN, lT, bk]
          | some ts =>
            rw [eT] at lT
            cases eF : rowO F with
            | none =>
              rw [eF] at lF
              have : signsB ks T F = false := by unfold signsB; rw [eT]; dsimp only; rw [eF]
              rw [this, Bool.and_false] at bk
              simp [defF, bodyF, frame, seqS, iffS, RS.bind, R.st, tst, opE, bindE, kE, R.bind, R.get, vB, vF, retS, retV, kOk, skipS, callE, consF, consM, cellV, nilW, b1E, asB, setS, ownS, ownS.isRef, frzS, tupE, lstE, consE, nilE, partE, noPart, andE, orE, notE, andB, orB, notB, ifE, lK, rK, nK, chainE, leI, gI, l1', l4', cN, aN, lT, lF, bk]
            | some fs =>
              rw [eF] at lF
              obtain ⟨t20, tu⟩ := hT.row eT
              obtain ⟨f20, fu⟩ := hF.row eF
              have nT := row_len eT
              have nF := row_len eF
              have sb : signsB ks T F = (decide (ts.length + fs.length ≤ 8) && (ts.all (tieB ks) && (fs.all (funB ks) && undup (ts.map fst ++ fs.map fst)))) := by unfold signsB; rw [eT]; dsimp only; rw [eF]
              have pi := plusG_I (ts.length : Nat) (fs.length : Nat)
              by_cases l8 : ts.length + fs.length ≤ 8
              · have l8' : ¬ ((8 : Int) < ((ts.length : Nat) : Int) + ((fs.length : Nat) : Int)) := by omega
                rw [decide_eq_true l8] at sb
                have cT : cTi cs [some (.f K), some (.f T), some (.f F), none, none, none, none, none, none, none, none] S = .ok (.lst (ts.map fun x => D.bl (tieB ks x))) S := compX_seq (i := 4) (row_it eT) (by omega) (fun x => D.bl (tieB ks x)) rfl fun x hx => by
                  have := lsign_u cs eK (tu x hx) 2 (by omega) S
                  rw [lsB_tie] at this
                  have this : F_l_sign cs [.f K, .f x, .f (.int 2)] S = _ := this
                  simp [defF, bodyF, frame, seqS, iffS, RS.bind, R.st, tst, opE, bindE, kE, R.bind, R.get, vB, vF, retS, retV, kOk, skipS, callE, consF, consM, cellV, nilW, b1E, asB, setS, ownS, ownS.isRef, frzS, tupE, lstE, consE, nilE, partE, noPart, setE, wipeE, this]
                have cF : cFu cs [some (.f K), some (.f T), some (.f F), none, none, none, none, none, none, none, none] S = .ok (.lst (fs.map fun x => D.bl (funB ks x))) S := compX_seq (i := 5) (row_it eF) (by omega) (fun x => D.bl (funB ks x)) rfl fun x hx => by
                  have := lsign_u cs eK (fu x hx) 3 (by omega) S
                  rw [lsB_fun] at this
                  have this : F_l_sign cs [.f K, .f x, .f (.int 3)] S = _ := this
                  simp [defF, bodyF, frame, seqS, iffS, RS.bind, R.st, tst, opE, bindE, kE, R.bind, R.get, vB, vF, retS, retV, kOk, skipS, callE, consF, consM, cellV, nilW, b1E, asB, setS, ownS, ownS.isRef, frzS, tupE, lstE, consE, nilE, partE, noPart, setE, wipeE, this]
                have aT := all_map (tieB ks) ts
                have aF := all_map (funB ks) fs
                generalize cTi cs = fT at cT ⊢
                generalize cFu cs = fF at cF ⊢
                cases et : ts.all (tieB ks) with
                | false =>
                  rw [et] at aT sb
                  rw [sb] at bk
                  simp at bk
                  simp [defF, bodyF, frame, seqS, iffS, RS.bind, R.st, tst, opE, bindE, kE, R.bind, R.get, vB, vF, retS, retV, kOk, skipS, callE, consF, consM, cellV, nilW, b1E, asB, setS, ownS, ownS.isRef, frzS, tupE, lstE, consE, nilE, partE, noPart, andE, orE, notE, andB, orB, notB, ifE, lK, rK, nK, chainE, leI, gI, gtI, l1', l4', cN, aN, lT, lF, rT, rF, nT, nF, pi, l8', cT, aT, bk]
                | true =>
                  cases ef : fs.all (funB ks) with
                  | false =>
                    rw [et] at aT sb
                    rw [ef] at aF sb
                    rw [sb] at bk
                    simp at bk
                    simp [defF, bodyF, frame, seqS, iffS, RS.bind, R.st, tst, opE, bindE, kE, R.bind, R.get, vB, vF, retS, retV, kOk, skipS, callE, consF, consM, cellV, nilW, b1E, asB, setS, ownS, ownS.isRef, frzS, tupE, lstE, consE, nilE, partE, noPart, andE, orE, notE, andB, orB, notB, ifE, lK, rK, nK, chainE, leI, gI, gtI, l1', l4', cN, aN, lT, lF, rT, rF, nT, nF, pi, l8', cT, aT, cF, aF, bk]
                  | true =>
                    obtain ⟨n1s, q1, g1⟩ := fsts tie_fst et
                    obtain ⟨n2s, q2, g2⟩ := fsts fun_fst ef
                    have ll1 : n1s.length = ts.length := by have := congrArg List.length q1; simpa using this.symm
                    have ll2 : n2s.length = fs.length := by have := congrArg List.length q2; simpa using this.symm
                    rw [et, ef, q1, q2, ← List.map_append, undup_map] at sb
                    rw [et] at aT
                    rw [ef] at aF
                    rw [sb] at bk
                    have so : ∀ n ∈ n1s ++ n2s, PyData.strOk n = true := fun n hn => by
                      have : signB n = true := by
                        rcases List.mem_append.mp hn with z | z
                        · exact g1 n z
                        · exact g2 n z
                      have := sg_nm this
                      unfold nameB at this
                      simp only [Bool.and_eq_true] at this
                      exact this.1.1.1
                    have fi : opE plusG (b1E listD (vB 1)) (b1E listD (vB 2)) [some (.f K), some (.f T), some (.f F), none, none, none, none, none, none, none, none] S = .ok (.lst (ts ++ fs)) S := by
                      have a := row_list eT
                      have b := row_list eF
                      have pg : plusG (.lst ts) (.lst fs) = some (.lst (ts ++ fs)) := plusG_L (sz_of (by omega))
                      simp [defF, bodyF, frame, seqS, iffS, RS.bind, R.st, tst, opE, bindE, kE, R.bind, R.get, vB, vF, retS, retV, kOk, skipS, callE, consF, consM, cellV, nilW, b1E, asB, setS, ownS, ownS.isRef, frzS, tupE, lstE, consE, nilE, partE, noPart, rT, rF, a, b, pg]
                    have cM : cNam [some (.f K), some (.f T), some (.f F), none, none, none, none, none, none, none, none] S = .ok (.lst ((ts ++ fs).map fst)) S := compX_seq (i := 7) (d := .lst (ts ++ fs)) ⟨rfl, rfl⟩ (by rw [List.length_append]; omega) fst fi fun x hx => by
                      have ux : ∃ n tl, rowO x = some (n :: tl) ∧ fst x = n ∧ ∀ S, rs S x = some x := by
                        rcases List.mem_append.mp hx with z | z
                        · obtain ⟨n, p, e, e2, _⟩ := tieB_fst (List.all_eq_true.mp et x z)
                          exact ⟨n, _, e, e2, (tu x z).rs⟩
                        · obtain ⟨n, p, q, e, e2, _⟩ := funB_fst (List.all_eq_true.mp ef x z)
                          exact ⟨n, _, e, e2, (fu x z).rs⟩
                      obtain ⟨n, tl, e, e2, rx⟩ := ux
                      have i0 := ix_0 e
                      simp [defF, bodyF, frame, seqS, iffS, RS.bind, R.st, tst, opE, bindE, kE, R.bind, R.get, vB, vF, retS, retV, kOk, skipS, callE, consF, consM, cellV, nilW, b1E, asB, setS, ownS, ownS.isRef, frzS, tupE, lstE, consE, nilE, partE, noPart, setE, wipeE, rx, i0, e2]
                    rw [List.map_append, q1, q2, ← List.map_append] at cM
                    have ln : (n1s ++ n2s).length ≤ 8 := by rw [List.length_append]; omega
                    generalize n1s ++ n2s = ns at *
                    have cU : cUnl [some (.f K), some (.f T), some (.f F), none, none, none, some (.f (.lst (ns.map D.str))), none, none, none, none] S = .ok (.lst ((unl [] ns).map D.str)) S := compE_of (ds := enumL 0 (ns.map D.str)) rfl (by rw [enumL_len, List.length_map]; omega) (unl_run (some (.f K)) (some (.f T)) (some (.f F)) none none none none none none none S ns ns [] rfl)
                    have cA : ∀ w8 : Option W, cAp [some (.f K), some (.f T), some (.f F), none, none, none, some (.f (.lst (ns.map D.str))), none, w8, none, none] S = .ok (.lst ((apL [] ks).map D.bl)) S := fun w8 => by
                      subst KL
                      exact compE_of (ds := enumL 0 (ks.map D.str)) rfl (by rw [enumL_len, List.length_map]; simp at l4; omega) (ap_run (some (.f T)) (some (.f F)) none none none (some (.f (.lst (ns.map D.str)))) none w8 none none S ks ks [] rfl)
                    have aA := all_map id (apL [] ks)
                    rw [apL_all] at aA
                    have aA : allD (.lst ((apL [] ks).map D.bl)) = some (.bl (ndB [] ks)) := aA
                    have eu := eqG_strs false (xs := unl [] ns) (ys := ns) (fun x hx => so x (unl_mem ns [] x hx)) so
                    rw [unl_eq] at eu
                    generalize cNam = fM at cM ⊢
                    generalize cUnl = fU at cU ⊢
                    generalize cAp = fA at cA ⊢
                    cases e1 : ndB [] ns <;> rw [e1] at eu bk <;> cases e2 : ndB [] ks <;> rw [e2] at aA bk <;> simp at bk <;>
                      simp [defF, bodyF, frame, seqS, iffS, RS.bind, R.st, tst, opE, bindE, kE, R.bind, R.get, vB, vF, retS, retV, kOk, skipS, callE, consF, consM, cellV, nilW, b1E, asB, setS, ownS, ownS.isRef, frzS, tupE, lstE, consE, nilE, partE, noPart, andE, orE, notE, andB, orB, notB, ifE, lK, rK, nK, chainE, leI, gI, gtI, l1', l4', cN, aN, lT, lF, rT, rF, nT, nF, pi, l8', cT, aT, cF, aF, cM, cU, cA, aA, eu, bk]
              · have l8' : (8 : Int) < ((ts.length : Nat) : Int) + ((fs.length : Nat) : Int) := by omega
                rw [decide_eq_false l8] at sb
                rw [sb] at bk
                simp at bk
                simp [defF, bodyF, frame, seqS, iffS, RS.bind, R.st, tst, opE, bindE, kE, R.bind, R.get, vB, vF, retS, retV, kOk, skipS, callE, consF, consM, cellV, nilW, b1E, asB, setS, ownS, ownS.isRef, frzS, tupE, lstE, consE, nilE, partE, noPart, andE, orE, notE, andB, orB, notB, ifE, lK, rK, nK, chainE, leI, gI, gtI, l1', l4', cN, aN, lT, lF, rT, rF, nT, nF, pi, l8', bk]
      · have l1' : (1 : Int) ≤ (xs.length : Nat) := by omega
        have l4' : ¬ ((xs.length : Nat) : Int) ≤ 4 := by omega
        rw [decide_eq_false l4] at kb
        have := kf (by rw [kb]; simp)
        simp [defF, bodyF, frame, seqS, iffS, RS.bind, R.st, tst, opE, bindE, kE, R.bind, R.get, vB, vF, retS, retV, kOk, skipS, callE, consF, consM, cellV, nilW, b1E, asB, setS, ownS, ownS.isRef, frzS, tupE, lstE, consE, nilE, partE, noPart, andE, orE, notE, andB, orB, notB, ifE, lK, rK, nK, chainE, leI, gI, l1', l4', this]
    · have l1' : ¬ (1 : Int) ≤ (xs.length : Nat) := by omega
      rw [decide_eq_false l1] at kb
      have := kf (by rw [kb]; simp)
      simp [defF, bodyF, frame, seqS, iffS, RS.bind, R.st, tst, opE, bindE, kE, R.bind, R.get, vB, vF, retS, retV, kOk, skipS, callE, consF, consM, cellV, nilW, b1E, asB, setS, ownS, ownS.isRef, frzS, tupE, lstE, consE, nilE, partE, noPart, andE, orE, notE, andB, orB, notB, ifE, lK, rK, nK, chainE, leI, gI, l1', this]
end
end Fw

set_option  maxHeartbeats 4000000
namespace Fw
open PySem L2

def TieR (d : D) (t : Str × List Str) : Prop := ∃ p, rowO d = some [.str t.1, p] ∧ rowO p = some (t.2.map D.str)
def FunR (d : D) (f : Str × List Str × Str) : Prop := ∃ p, rowO d = some [.str f.1, p, .str f.2.2] ∧ rowO p = some (f.2.1.map D.str)
structure Bok (K T F : D) (b : Bk) : Prop where
  ok : b.Ok (fun x => nameB x = true) (fun x => signB x = true)
  k : rowO K = some (b.kinds.map D.str)
  t : ∃ ts, rowO T = some ts ∧ Paired TieR ts b.ties
  f : ∃ fs, rowO F = some fs ∧ Paired FunR fs b.funs
theorem kd_of {ks : List Str} {d : D} (h : kdB ks d = true) : ∃ x, d = .str x ∧ x ∈ ks := by
  cases d <;> first | cases h | skip
  rename_i x
  obtain ⟨y, hy, e⟩ := List.any_eq_true.mp (show (ks.any fun k => k == x) = true from h)
  exact ⟨x, rfl, by rw [← eq_of_beq e]; exact hy⟩
theorem pl_of {ks : List Str} {p : D} (h : plB ks p = true) : ∃ qs, rowO p = some (qs.map D.str) ∧ Pl ks qs := by
  unfold plB at h
  split at h
  · rename_i ps e
    obtain ⟨h1, h2⟩ := Bool.and_eq_true_iff.mp h
    obtain ⟨qs, rfl, g⟩ := names_of (p := kdB ks) (fun d hd => let ⟨x, e, _⟩ := kd_of hd; ⟨x, e⟩) h2
    refine ⟨qs, e, by simpa using h1, fun q hq => ?_⟩
    obtain ⟨x, e1, e2⟩ := kd_of (g q hq)
    cases e1
    exact e2
  · cases h
theorem ties_of {ks : List Str} : ∀ {ts : List D}, ts.all (tieB ks) = true → ∃ us : List (Str × List Str), Paired TieR ts us ∧ (∀ u ∈ us, signB u.1 = true ∧ Pl ks u.2) ∧ ts.map fst = (us.map (·.1)).map D.str
  | [], _ => ⟨[], .nil, (fun _ h => by cases h), rfl⟩
  | d :: ts, h => by
    obtain ⟨h1, h2⟩ := Bool.and_eq_true_iff.mp (show (tieB ks d && ts.all (tieB ks)) = true by rw [List.all_cons] at h; exact h)
    obtain ⟨us, p, g, e⟩ := ties_of h2
    obtain ⟨n, q, r1, r2, r3, r4⟩ := tieB_fst h1
    obtain ⟨x, rfl⟩ := sgnB_str n r3
    obtain ⟨qs, s1, s2⟩ := pl_of r4
    refine ⟨(x, qs) :: us, .cons ⟨q, r1, s1⟩ p, fun u hu => ?_, by rw [List.map_cons, r2, e]; rfl⟩
    rcases List.mem_cons.mp hu with z | z
    · rw [z]; exact ⟨r3, s2⟩
    · exact g u z
theorem funs_of {ks : List Str} : ∀ {ts : List D}, ts.all (funB ks) = true → ∃ us : List (Str × List Str × Str), Paired FunR ts us ∧ (∀ u ∈ us, signB u.1 = true ∧ Pl ks u.2.1 ∧ u.2.2 ∈ ks) ∧ ts.map fst = (us.map (·.1)).map D.str
  | [], _ => ⟨[], .nil, (fun _ h => by cases h), rfl⟩
  | d :: ts, h => by
    obtain ⟨h1, h2⟩ := Bool.and_eq_true_iff.mp (show (funB ks d && ts.all (funB ks)) = true by rw [List.all_cons] at h; exact h)
    obtain ⟨us, p, g, e⟩ := funs_of h2
    obtain ⟨n, q, k, r1, r2, r3, r4, r5⟩ := funB_fst h1
    obtain ⟨x, rfl⟩ := sgnB_str n r3
    obtain ⟨qs, s1, s2⟩ := pl_of r4
    obtain ⟨y, rfl, s3⟩ := kd_of r5
    refine ⟨(x, qs, y) :: us, .cons ⟨q, r1, s1⟩ p, fun u hu => ?_, by rw [List.map_cons, r2, e]; rfl⟩
    rcases List.mem_cons.mp hu with z | z
    · rw [z]; exact ⟨r3, s2, s3⟩
    · exact g u z
theorem kinds_of {K : D} (h : kindsB K = true) : ∃ ks : List Str, rowO K = some (ks.map D.str) ∧ 1 ≤ ks.length ∧ ks.length ≤ 4 ∧ ks.Nodup ∧ ∀ x ∈ ks, nameB x = true := by
  unfold kindsB at h
  split at h
  · rename_i xs e
    simp only [Bool.and_eq_true, decide_eq_true_eq] at h
    obtain ⟨h1, h2, h3, h4⟩ := h
    obtain ⟨ks, rfl, g⟩ := names_of nmB_str h3
    rw [undup_map] at h4
    rw [List.length_map] at h1 h2
    exact ⟨ks, e, h1, h2, (nd_iff ks).mp h4, g⟩
  · cases h
theorem book_inv {K T F : D} (h : bookB K T F = true) : ∃ b, Bok K T F b := by
  unfold bookB at h
  obtain ⟨h1, h2⟩ := Bool.and_eq_true_iff.mp h
  obtain ⟨ks, e, k1, k4, kn, kg⟩ := kinds_of h1
  rw [e] at h2
  dsimp only at h2
  rw [strsD_map] at h2
  dsimp only at h2
  unfold signsB at h2
  split at h2
  · rename_i ts et
    split at h2
    · rename_i fs ef
      simp only [Bool.and_eq_true, decide_eq_true_eq] at h2
      obtain ⟨l8, a1, a2, nd⟩ := h2
      obtain ⟨us, p1, g1, m1⟩ := ties_of a1
      obtain ⟨vs, p2, g2, m2⟩ := funs_of a2
      rw [m1, m2, ← List.map_append, undup_map] at nd
      have q1 := Paired.len p1
      have q2 := Paired.len p2
      refine ⟨⟨ks, us, vs⟩, ⟨k1, k4, kn, kg, ?_, (nd_iff _).mp nd, fun x hx => ?_, fun u hu => (g1 u hu).2, fun u hu => ⟨(g2 u hu).2.1, (g2 u hu).2.2⟩⟩, e, ⟨ts, et, p1⟩, ⟨fs, ef, p2⟩⟩
      · show (us.map (·.1) ++ vs.map (·.1)).length ≤ 8
        rw [List.length_append, List.length_map, List.length_map]
        omega
      · rcases List.mem_append.mp (show x ∈ us.map (·.1) ++ vs.map (·.1) from hx) with z | z
        · obtain ⟨u, hu, rfl⟩ := List.mem_map.mp z
          exact (g1 u hu).1
        · obtain ⟨u, hu, rfl⟩ := List.mem_map.mp z
          exact (g2 u hu).1
    · cases h2
  · cases h2
theorem beq_lst {xs : List D} (h : beqL xs xs = true) : D.beq (.lst xs) (.lst xs) = true := by simpa [D.beq] using h
theorem row_sq {S : Sto} {d : D} {xs : List D} (e : rowO d = some xs) (b : beqL xs xs = true) : Sq S d xs := by
  refine ⟨?_, b⟩
  rcases row_cases e with rfl | rfl
  · exact .inl rfl
  · exact .inr rfl
theorem row_bq {d : D} {xs : List D} (e : rowO d = some xs) (b : beqL xs xs = true) : D.beq d d = true := by
  rcases row_cases e with rfl | rfl
  · exact beq_lst b
  · exact beq_tup b
theorem tieR_sg (S : Sto) {d : D} {t : Str × List Str} (h : TieR d t) : SgT S d t := by
  obtain ⟨p, h1, h2⟩ := h
  refine ⟨p, row_sq h1 ?_, row_sq h2 (beqL_strs _)⟩
  show (D.beq (.str t.1) (.str t.1) && (D.beq p p && true)) = true
  rw [beq_str, row_bq h2 (beqL_strs _)]
  rfl
theorem funR_sg (S : Sto) {d : D} {t : Str × List Str × Str} (h : FunR d t) : SgF S d t := by
  obtain ⟨p, h1, h2⟩ := h
  refine ⟨p, row_sq h1 ?_, row_sq h2 (beqL_strs _)⟩
  show (D.beq (.str t.1) (.str t.1) && (D.beq p p && (D.beq (.str t.2.2) (.str t.2.2) && true))) = true
  rw [beq_str, row_bq h2 (beqL_strs _), beq_str]
  rfl
theorem tieR_bq {d : D} {t : Str × List Str} (h : TieR d t) : D.beq d d = true := (tieR_sg [] h).elim fun p q => q.1.bq
theorem funR_bq {d : D} {t : Str × List Str × Str} (h : FunR d t) : D.beq d d = true := (funR_sg [] h).elim fun p q => q.1.bq
theorem paired_bq {α : Type} {R : D → α → Prop} (hR : ∀ d t, R d t → D.beq d d = true) : ∀ {xs : List D} {ys : List α}, Paired R xs ys → beqL xs xs = true
  | _, _, .nil => rfl
  | _, _, .cons (a := a) (l₁ := l) h p => by
    show (D.beq a a && beqL l l) = true
    rw [hR _ _ h, paired_bq hR p]
    rfl
section
variable {k : Nat} {K T F : D}
theorem ini_yes (cs : Cs) {b : Bk} (h : Bok K T F b) {S : Sto} (hS : 0 < S.length) : F_Signs_ini cs [.f K, .f T, .f F] S = .ok (sgD cs b) S := by
  obtain ⟨ts, e1, p1⟩ := h.t
  obtain ⟨fs, e2, p2⟩ := h.f
  exact ini_ok cs h.ok (fun _ z => z) (fun _ z => z) hS (row_sq h.k (beqL_strs _)) (row_sq e1 (paired_bq (fun _ _ => tieR_bq) p1)) (Paired.mapP p1 fun _ _ z => tieR_sg S z) (row_sq e2 (paired_bq (fun _ _ => funR_bq) p2)) (Paired.mapP p2 fun _ _ z => funR_sg S z)
theorem ini_no (cs : Cs) (hK : Uv k K) (hT : Uv k T) (hF : Uv k F) (h : bookB K T F = false) (S : Sto) : F_Signs_ini cs [.f K, .f T, .f F] S = .exc ⟨"NoSigns", none⟩ S := by
  have a := fun S => kinds_u cs hK S
  unfold F_Signs_ini B_Signs_ini
  cases ek : kindsB K with
  | false =>
    rw [ek] at a
    simp [iniF, defF, bodyF, frame, seqS, iffS, RS.bind, R.st, tst, opE, bindE, kE, R.bind, R.get, vB, vF, retS, retV, kOk, skipS, callE, consF, consM, cellV, nilW, b1E, asB, setS, ownS, ownS.isRef, frzS, tupE, lstE, consE, nilE, partE, noPart, andE, orE, notE, andB, orB, notB, ifE, a, raiseS]
  | true =>
    rw [ek] at a
    obtain ⟨ks, e, _⟩ := kinds_of ek
    have b := fun S => signs_u cs e hT hF S
    have : signsB ks T F = false := by
      unfold bookB at h
      rw [ek, e] at h
      dsimp only at h
      rw [strsD_map] at h
      simpa using h
    rw [this] at b
    simp [iniF, defF, bodyF, frame, seqS, iffS, RS.bind, R.st, tst, opE, bindE, kE, R.bind, R.get, vB, vF, retS, retV, kOk, skipS, callE, consF, consM, cellV, nilW, b1E, asB, setS, ownS, ownS.isRef, frzS, tupE, lstE, consE, nilE, partE, noPart, andE, orE, notE, andB, orB, notB, ifE, a, b, raiseS]
end
end Fw

set_option  maxHeartbeats 4000000
namespace Fw
open PySem L2

def bookT (K T F : D) : D := .tup [K, T, F]
section
variable {k : Nat} {K T F : D}
theorem just_ok (cs : Cs) (a : Addr) (o : Option (Addr × Str × D)) (S : Sto) : F_l_just_NoSigns cs a [.x a o] S = .ok (.bl true) S := by
  simp [F_l_just_NoSigns, B_l_just_NoSigns, defF, bodyF, frame, seqS, iffS, RS.bind, R.st, tst, opE, bindE, kE, R.bind, R.get, vB, vF, retS, retV, kOk, skipS, callE, consF, consM, cellV, nilW, b1E, asB, setS, ownS, ownS.isRef, frzS, tupE, lstE, consE, nilE, partE, noPart, andE, orE, notE, andB, orB, notB, ifE, isXE]
def toldB (cs : Cs) : Stm := dropS (callE (F_Signs_ini cs) (consF (opE ixG (vB 0) (kE (.int 0))) (consF (opE ixG (vB 0) (kE (.int 1))) (consF (opE ixG (vB 0) (kE (.int 2))) nilW))))
def toldH (cs : Cs) (a : Addr) : Stm := setS 1 (ifE (tst (callE (F_l_just_NoSigns cs a) (consX 2 nilW))) (kE (.int 0)) (kE (.int 2)))
theorem told_ok (cs : Cs) (hK : Uv k K) (hT : Uv k T) (hF : Uv k F) {S : Sto} (hS : 0 < S.length) : F_l_told cs [.f (bookT K T F)] S = .ok (.int (if bookB K T F then 1 else 0)) S := by
  have eB : B_l_told cs = seqS (setS 1 (kE (.int 1))) (seqS (tryS (toldB cs) 2 (cat1 "NoSigns") fun a x => noFld x (toldH cs a)) (retS .frz (vF 1))) := rfl
  have i0 : ixG (bookT K T F) (.int 0) = some K := rfl
  have i1 : ixG (bookT K T F) (.int 1) = some T := rfl
  have i2 : ixG (bookT K T F) (.int 2) = some F := rfl
  have rb : ∀ S, rs S (bookT K T F) = some (bookT K T F) := fun _ => rfl
  cases e : bookB K T F with
  | true =>
    obtain ⟨b, hb⟩ := book_inv e
    have q := ini_yes cs hb hS
    have t : tryS (toldB cs) 2 (cat1 "NoSigns") (fun a x => noFld x (toldH cs a)) [some (.f (bookT K T F)), some (.f (.int 1)), none] S = .nx [some (.f (bookT K T F)), some (.f (.int 1)), none] S := by
      have : toldB cs [some (.f (bookT K T F)), some (.f (.int 1)), none] S = .nx [some (.f (bookT K T F)), some (.f (.int 1)), none] S := by
        simp [toldB, dropS, defF, bodyF, frame, seqS, iffS, RS.bind, R.st, tst, opE, bindE, kE, R.bind, R.get, vB, vF, retS, retV, kOk, skipS, callE, consF, consM, cellV, nilW, b1E, asB, setS, ownS, ownS.isRef, frzS, tupE, lstE, consE, nilE, partE, noPart, rb, i0, i1, i2, q]
      unfold tryS
      rw [this]
    unfold F_l_told
    rw [eB]
    generalize tryS (toldB cs) 2 (cat1 "NoSigns") (fun a x => noFld x (toldH cs a)) = f1 at t ⊢
    simp [defF, bodyF, frame, seqS, iffS, RS.bind, R.st, tst, opE, bindE, kE, R.bind, R.get, vB, vF, retS, retV, kOk, skipS, callE, consF, consM, cellV, nilW, b1E, asB, setS, ownS, ownS.isRef, frzS, tupE, lstE, consE, nilE, partE, noPart, t]
  | false =>
    have q := ini_no cs hK hT hF e S
    have t : tryS (toldB cs) 2 (cat1 "NoSigns") (fun a x => noFld x (toldH cs a)) [some (.f (bookT K T F)), some (.f (.int 1)), none] S = .nx [some (.f (bookT K T F)), some (.f (.int 0)), none] S := by
      have : toldB cs [some (.f (bookT K T F)), some (.f (.int 1)), none] S = .exc ⟨"NoSigns", none⟩ [some (.f (bookT K T F)), some (.f (.int 1)), none] S := by
        simp [toldB, dropS, defF, bodyF, frame, seqS, iffS, RS.bind, R.st, tst, opE, bindE, kE, R.bind, R.get, vB, vF, retS, retV, kOk, skipS, callE, consF, consM, cellV, nilW, b1E, asB, setS, ownS, ownS.isRef, frzS, tupE, lstE, consE, nilE, partE, noPart, rb, i0, i1, i2, q]
      unfold tryS
      rw [this]
      dsimp only
      rw [show cat1 "NoSigns" "NoSigns" = some true from if_pos rfl]
      refine sameS_eq fun a dd => ?_
      have j := fun o => just_ok cs a o S
      simp [noFld, toldH, defF, bodyF, frame, seqS, iffS, RS.bind, R.st, tst, opE, bindE, kE, R.bind, R.get, vB, vF, retS, retV, kOk, skipS, callE, consF, consM, cellV, nilW, b1E, asB, setS, ownS, ownS.isRef, frzS, tupE, lstE, consE, nilE, partE, noPart, ifE, consX, cellX, xSlot, j, RS.gone]
    unfold F_l_told
    rw [eB]
    generalize tryS (toldB cs) 2 (cat1 "NoSigns") (fun a x => noFld x (toldH cs a)) = f1 at t ⊢
    simp [defF, bodyF, frame, seqS, iffS, RS.bind, R.st, tst, opE, bindE, kE, R.bind, R.get, vB, vF, retS, retV, kOk, skipS, callE, consF, consM, cellV, nilW, b1E, asB, setS, ownS, ownS.isRef, frzS, tupE, lstE, consE, nilE, partE, noPart, t]
end
/-! ### its text -/
def bnd : Nat → Nat
  | 0 => 140
  | k + 1 => 3 + wid k * (bnd k + 2)
theorem bnd_140 : ∀ k, 140 ≤ bnd k
  | 0 => Nat.le_refl _
  | k + 1 => by
    have := bnd_140 k
    have w : 6 ≤ wid k := by unfold wid; split <;> omega
    have := Nat.mul_le_mul w (Nat.le_refl (bnd k + 2))
    show 140 ≤ 3 + wid k * (bnd k + 2)
    omega
theorem atm_tx {d : D} (h : Atm d) : TxQ 2 140 d := by
  cases h with
  | str a b c =>
    unfold TxQ
    rw [D.pq, PyData.showable, PyData.depth]
    exact ⟨c, rfl, rfl, by omega⟩
  | int => exact ⟨gd_lit (by decide +kernel), by decide +kernel, rfl, by decide +kernel⟩
  | bl => exact ⟨gd_lit (by decide +kernel), by decide +kernel, rfl, by decide +kernel⟩
  | non => exact ⟨gd_lit (by decide +kernel), by decide +kernel, rfl, by decide +kernel⟩
  | d0 => exact ⟨gd_lit (by decide +kernel), by decide +kernel, by decide +kernel, by decide +kernel⟩
  | d1 => exact ⟨gd_lit (by decide +kernel), by decide +kernel, by decide +kernel, by decide +kernel⟩
theorem uv_tx {k : Nat} {d : D} (h : Uv k d) : TxQ (k + 2) (bnd k) d := by
  induction h with
  | «at» a => exact (atm_tx a).mono (by omega) (bnd_140 _)
  | lst l _ ih => exact TxQ.lst ih l
  | tup l _ ih => exact TxQ.tup ih l
theorem book_repr {K T F : D} (hK : Uv 4 K) (hT : Uv 4 T) (hF : Uv 4 F) : ∃ t, reprQ (bookT K T F) = some (.str t) ∧ PyData.strOk t = true := by
  refine repr_tq (k := 7) (n := 3 + 3 * (bnd 4 + 2)) (TxQ.tup (fun x hx => ?_) (Nat.le_refl _)) rfl (by decide) (by decide +kernel)
  rcases List.mem_cons.mp hx with e | hx
  · rw [e]; exact uv_tx hK
  · rcases List.mem_cons.mp hx with e | hx
    · rw [e]; exact uv_tx hT
    · rw [List.mem_singleton.mp hx]; exact uv_tx hF
end Fw

set_option  maxHeartbeats 4000000
namespace Fw
open PySem L2

theorem draw_set (cs : Cs) {S : Sto} {n : Nat} {p : Pot} (hn : n < S.length) (m : Int) (h0 : 0 < m) (h1 : m < 1073741824) : F_l_draw cs [.m n, .f (.int m)] (S.set n (potC p)) = .ok (.int (drawI p m)) (S.set n (potC (drawP p m))) := by
  have := draw_ok cs n p m (S.set n (potC p)) (List.getElem?_set_self hn) h0 h1
  rwa [set_set'] at this
theorem take_set2 {α : Type} (S : List α) (n : Nat) (x y : α) : (S.set n x).take (S.set n y).length = S.set n x := List.take_of_length_le (by rw [List.length_set, List.length_set]; exact Nat.le_refl _)
theorem ix_in {xs : List D} {j : Int} (h0 : 0 ≤ j) (h1 : j < (xs.length : Nat)) : ∃ d ∈ xs, ixG (.lst xs) (.int j) = some d := by
  obtain ⟨i, rfl⟩ := Int.eq_ofNat_of_zero_le h0
  have hi : i < xs.length := by omega
  exact ⟨xs[i], List.getElem_mem hi, row_ix (d := .lst xs) rfl i (List.getElem?_eq_getElem hi)⟩
/-! ### odd things -/
def atmB (x : Str) : Bool := PyData.strOk x && (decide (x.length ≤ 13) && (decide ((PyData.shown (.str x)).length ≤ 140) && PyData.strOk (PyData.shown (.str x))))
theorem atm_of {x : Str} (h : atmB x = true) : Atm (.str x) := by
  unfold atmB at h
  simp only [Bool.and_eq_true, decide_eq_true_eq] at h
  exact .str h.1 h.2.1 h.2.2
def oddS : List Str :=
  ["", "A",
   "abcdefghijklm",
   "a b", "b1",
   "a_", "a\n", "=",
   "all", "some",
   "not", "and",
   "or", "a", "zz"]
def odd2 : List D := [.int 7, .bl true, .non, .tup [.str "a"], .lst [.str "a"], .dK [], .str "abcdefghijkl", .str "aA", .str "-"]
def oddE : E D := lstE (consE (kE (.int 7)) (consE (kE (.bl true)) (consE (kE .non) (consE (tupE (consE (kE (.str "a")) nilE)) (consE (lstE (consE (kE (.str "a")) nilE)) (consE dnewE (consE (kE (.str "abcdefghijkl")) (consE (kE (.str "aA")) (consE (kE (.str "-")) nilE)))))))))
theorem odd_uv : ∀ d ∈ oddS.map D.str ++ odd2, Uv 1 d := by
  have aA : Atm (.str "a") := atm_of (by decide +kernel)
  have one : ∀ x ∈ ([.str "a"] : List D), Uv 0 x := fun x hx => by
    rw [List.mem_singleton.mp hx]
    exact .at aA
  intro d hd
  rcases List.mem_append.mp hd with h | h
  · obtain ⟨x, hx, rfl⟩ := List.mem_map.mp h
    have : ∀ x ∈ oddS, atmB x = true := by decide +kernel
    exact .at (atm_of (this x hx))
  · unfold odd2 at h
    simp only [List.mem_cons, List.not_mem_nil, or_false] at h
    rcases h with rfl | rfl | rfl | rfl | rfl | rfl | rfl | rfl | rfl
    · exact .at .int
    · exact .at .bl
    · exact .at .non
    · exact .tup (by decide) one
    · exact .lst (by decide) one
    · exact .at .d0
    · exact .at (atm_of (by decide +kernel))
    · exact .at (atm_of (by decide +kernel))
    · exact .at (atm_of (by decide +kernel))
section
variable {S : Sto} {n : Nat} {p : Pot}
theorem odd_ok (cs : Cs) (hn : n < S.length) : ∃ (d : D) (q : Pot), F_l_odd cs [.m n] (S.set n (potC p)) = .ok d (S.set n (potC q)) ∧ Uv 1 d := by
  have eB : B_l_odd cs = seqS (setS 1 (menuE oddS)) (seqS (setS 1 (opE plusG (vF 1) oddE)) (retS .frz (opE ixG (vB 1) (callE (F_l_draw cs) (consM 0 (consF (b1E lenD2 (vB 1)) nilW)))))) := rfl
  have m1 := fun env S => menuE_ok (env := env) (S := S) (xs := oddS) (sz_of (by decide))
  have s1 : sz 1 = true := sz_of (by omega)
  have s9 : sz 9 = true := sz_of (by omega)
  have e2 : ∀ env S, oddE env S = .ok (.lst odd2) S := fun env S => by
    simp [oddE, defF, bodyF, frame, seqS, iffS, RS.bind, R.st, tst, opE, bindE, kE, R.bind, R.get, vB, vF, retS, retV, kOk, skipS, callE, consF, consM, cellV, nilW, b1E, asB, setS, ownS, ownS.isRef, frzS, tupE, lstE, consE, nilE, partE, noPart, dnewE, s1, s9, odd2]
  have pg : plusG (.lst (oddS.map D.str)) (.lst odd2) = some (.lst (oddS.map D.str ++ odd2)) := plusG_L (sz_of (by decide))
  have ln : lenD2 (.lst (oddS.map D.str ++ odd2)) = some (.int 24) := rfl
  obtain ⟨j0, j1⟩ := drawI_lt p (show (0 : Int) < 24 by decide)
  have dr := draw_set cs (p := p) hn 24 (by decide) (by decide)
  obtain ⟨d, hd, ix⟩ := ix_in (xs := oddS.map D.str ++ odd2) j0 (by rw [show (oddS.map D.str ++ odd2).length = 24 from rfl]; exact j1)
  refine ⟨d, drawP p 24, ?_, odd_uv d hd⟩
  unfold F_l_odd
  rw [eB]
  generalize menuE oddS = f1 at m1 ⊢
  generalize oddE = f2 at e2 ⊢
  generalize oddS.map D.str ++ odd2 = xs at pg ln ix
  simp [defF, bodyF, frame, seqS, iffS, RS.bind, R.st, tst, opE, bindE, kE, R.bind, R.get, vB, vF, retS, retV, kOk, skipS, callE, consF, consM, cellV, nilW, b1E, asB, setS, ownS, ownS.isRef, frzS, tupE, lstE, consE, nilE, partE, noPart, m1, e2, pg, ln, dr, ix, take_set]
def lodd : List D := [.non, .int 7, .str "ab", .dK [], .dK [(.inr "a", .int 1)], .bl true, .str "", .lst [.lst []], .lst [.non], .lst [.int 7], .lst [.str "a", .str "a"], .tup [.str "a", .str "b", .str "c", .str "d", .str "e"], .lst [], .tup []]
def loddE : E D := lstE (consE (kE .non) (consE (kE (.int 7)) (consE (kE (.str "ab")) (consE dnewE (consE (dispE "a" 1) (consE (kE (.bl true)) (consE (kE (.str "")) (consE (lstE (consE (lstE nilE) nilE)) (consE (lstE (consE (kE .non) nilE)) (consE (lstE (consE (kE (.int 7)) nilE)) (consE (lstE (consE (kE (.str "a")) (consE (kE (.str "a")) nilE))) (consE (tupE (consE (kE (.str "a")) (consE (kE (.str "b")) (consE (kE (.str "c")) (consE (kE (.str "d")) (consE (kE (.str "e")) nilE)))))) (consE (lstE nilE) (consE (tupE nilE) nilE))))))))))))))
/-- a tuple of it is no row of kinds -/
def NoT (d : D) : Prop := ∀ xs, d = .tup xs → xs.length = 0 ∨ 5 ≤ xs.length
theorem lodd_uv : ∀ d ∈ lodd, Uv 2 d ∧ NoT d := by
  have st : ∀ x ∈ (["a", "b", "c", "d", "e", "ab", ""] : List Str), Atm (.str x) := by
    have : ∀ x ∈ (["a", "b", "c", "d", "e", "ab", ""] : List Str), atmB x = true := by decide +kernel
    exact fun x hx => atm_of (this x hx)
  intro d hd
  unfold lodd at hd
  simp only [List.mem_cons, List.not_mem_nil, or_false] at hd
  rcases hd with rfl | rfl | rfl | rfl | rfl | rfl | rfl | rfl | rfl | rfl | rfl | rfl | rfl | rfl
  · exact ⟨.at .non, fun _ h => by cases h⟩
  · exact ⟨.at .int, fun _ h => by cases h⟩
  · exact ⟨.at (st _ (by simp)), fun _ h => by cases h⟩
  · exact ⟨.at .d0, fun _ h => by cases h⟩
  · exact ⟨.at .d1, fun _ h => by cases h⟩
  · exact ⟨.at .bl, fun _ h => by cases h⟩
  · exact ⟨.at (st _ (by simp)), fun _ h => by cases h⟩
  · exact ⟨.lst (by decide) (fun x hx => by rw [List.mem_singleton.mp hx]; exact .lst (by decide) (fun _ h => by cases h)), fun _ h => by cases h⟩
  · exact ⟨.lst (by decide) fun x hx => by rw [List.mem_singleton.mp hx]; exact .at .non, fun _ h => by cases h⟩
  · exact ⟨.lst (by decide) fun x hx => by rw [List.mem_singleton.mp hx]; exact .at .int, fun _ h => by cases h⟩
  · refine ⟨.lst (by decide) fun x hx => ?_, fun _ h => by cases h⟩
    simp only [List.mem_cons, List.not_mem_nil, or_false, or_self] at hx
    rw [hx]; exact .at (st _ (by simp))
  · refine ⟨.tup (by decide) fun x hx => ?_, fun _ h => by cases h; exact .inr (by decide)⟩
    simp only [List.mem_cons, List.not_mem_nil, or_false] at hx
    rcases hx with rfl | rfl | rfl | rfl | rfl <;> exact .at (st _ (by simp))
  · exact ⟨.lst (by decide) (fun _ h => by cases h), fun _ h => by cases h⟩
  · exact ⟨.tup (by decide) (fun _ h => by cases h), fun _ h => by cases h; exact .inl rfl⟩
theorem list_odd_ok (cs : Cs) (hn : n < S.length) : ∃ (d : D) (q : Pot), F_l_list_odd cs [.m n] (S.set n (potC p)) = .ok d (S.set n (potC q)) ∧ Uv 2 d ∧ NoT d := by
  have eB : B_l_list_odd cs = seqS (setS 1 loddE) (retS .frz (opE ixG (vB 1) (callE (F_l_draw cs) (consM 0 (consF (b1E lenD2 (vB 1)) nilW))))) := rfl
  have s0 : sz 0 = true := sz_of (by omega)
  have s1 : sz 1 = true := sz_of (by omega)
  have s2 : sz 2 = true := sz_of (by omega)
  have s5 : sz 5 = true := sz_of (by omega)
  have s14 : sz 14 = true := sz_of (by omega)
  have e2 : ∀ env S, loddE env S = .ok (.lst lodd) S := fun env S => by
    simp [loddE, defF, bodyF, frame, seqS, iffS, RS.bind, R.st, tst, opE, bindE, kE, R.bind, R.get, vB, vF, retS, retV, kOk, skipS, callE, consF, consM, cellV, nilW, b1E, asB, setS, ownS, ownS.isRef, frzS, tupE, lstE, consE, nilE, partE, noPart, dnewE, dispE, s0, s1, s2, s5, s14, lodd]
  have ln : lenD2 (.lst lodd) = some (.int 14) := rfl
  obtain ⟨j0, j1⟩ := drawI_lt p (show (0 : Int) < 14 by decide)
  have dr := draw_set cs (p := p) hn 14 (by decide) (by decide)
  obtain ⟨d, hd, ix⟩ := ix_in (xs := lodd) j0 j1
  obtain ⟨u1, u2⟩ := lodd_uv d hd
  refine ⟨d, drawP p 14, ?_, u1, u2⟩
  unfold F_l_list_odd
  rw [eB]
  generalize loddE = f2 at e2 ⊢
  generalize lodd = xs at ln ix e2
  simp [defF, bodyF, frame, seqS, iffS, RS.bind, R.st, tst, opE, bindE, kE, R.bind, R.get, vB, vF, retS, retV, kOk, skipS, callE, consF, consM, cellV, nilW, b1E, asB, setS, ownS, ownS.isRef, frzS, tupE, lstE, consE, nilE, partE, noPart, e2, ln, dr, ix, take_set]
/-! ### one thing put in another's stead -/
theorem put_ok (cs : Cs) (hn : n < S.length) {rows thing : D} {xs : List Str} (e : rowO rows = some (xs.map D.str)) (hx : ∀ x ∈ xs, PyData.strOk x = true) (hl : xs.length ≤ 20) :
    ∃ (ys : List D) (q : Pot), F_l_put cs [.m n, .f rows, .f thing] (S.set n (potC p)) = .ok (.lst ys) (S.set n (potC q)) ∧ ys.length ≤ max 1 xs.length ∧ ∀ y ∈ ys, y = thing ∨ y ∈ xs.map D.str := by
  have rr := row_rs e
  have rl := row_list e
  have e0 := eqG_strs false (xs := xs) (ys := []) hx (fun _ h => by cases h)
  have s0 : sz 0 = true := sz_of (by omega)
  have s1 : sz 1 = true := sz_of (by omega)
  unfold F_l_put B_l_put
  by_cases hz : xs = []
  · subst hz
    refine ⟨[thing], p, ?_, by simp, fun y hy => .inl (List.mem_singleton.mp hy)⟩
    have e0 : eqG false (.lst []) (.lst []) = some (.bl true) := e0
    have rl : listD rows = some (.lst []) := rl
    simp [defF, bodyF, frame, seqS, iffS, RS.bind, R.st, tst, opE, bindE, kE, R.bind, R.get, vB, vF, retS, retV, kOk, skipS, callE, consF, consM, cellV, nilW, b1E, asB, setS, ownS, ownS.isRef, frzS, tupE, lstE, consE, nilE, partE, noPart, rr, rl, e0, s0, s1, take_set]
  · have e1 : (xs == []) = false := by
      rw [beq_eq_false_iff_ne]; exact hz
    rw [e1] at e0
    have e0 : eqG false (.lst (xs.map D.str)) (.lst []) = some (.bl false) := e0
    have l0 : 0 < xs.length := List.length_pos_iff.mpr hz
    have ln : lenD2 (.lst (xs.map D.str)) = some (.int (xs.length : Nat)) := by
      have := row_len (d := .lst (xs.map D.str)) rfl
      rwa [List.length_map] at this
    obtain ⟨j0, j1⟩ := drawI_lt p (show (0 : Int) < (xs.length : Nat) by omega)
    have dr := draw_set cs (p := p) hn (xs.length : Nat) (by omega) (by omega)
    obtain ⟨i, ei⟩ := Int.eq_ofNat_of_zero_le j0
    rw [ei] at j1
    have hi : i < xs.length := by omega
    have ixn : ixN xs.length ((i : Nat) : Int) = some i := by
      unfold ixN
      simp [hi]
    refine ⟨(xs.map D.str).set i thing, drawP p (xs.length : Nat), ?_, by simp; omega, fun y hy => ?_⟩
    · simp [defF, bodyF, frame, seqS, iffS, RS.bind, R.st, tst, opE, bindE, kE, R.bind, R.get, vB, vF, retS, retV, kOk, skipS, callE, consF, consM, cellV, nilW, b1E, asB, setS, ownS, ownS.isRef, frzS, tupE, lstE, consE, nilE, partE, noPart, rr, rl, e0, s0, putS, ln, dr, ei, getE, asI, ixn, take_set]
    · rcases List.mem_or_eq_of_mem_set hy with z | z
      · exact .inr z
      · exact .inl z
end
end Fw

set_option  maxHeartbeats 4000000
namespace Fw
open PySem L2

/-! ### a sign spoilt -/
def SgnR (x : D) : Prop := ∃ (nm p : D) (tl : List D), rowO x = some (nm :: p :: tl) ∧ Atm nm ∧ (∃ ps : List Str, rowO p = some (ps.map D.str) ∧ ps.length ≤ 2 ∧ ∀ q ∈ ps, Atm (.str q)) ∧ tl.length ≤ 1 ∧ ∀ y ∈ tl, Atm y
theorem Uv.le {k : Nat} {d : D} (h : Uv k d) : ∀ j, Uv (k + j) d
  | 0 => h
  | j + 1 => (h.le j).up
theorem atm_ok {x : Str} (h : Atm (.str x)) : PyData.strOk x = true := by
  cases h; assumption
theorem strs_uv {ps : List Str} (h : ∀ q ∈ ps, Atm (.str q)) (k : Nat) : ∀ x ∈ ps.map D.str, Uv k x := fun x hx => by
  obtain ⟨q, hq, rfl⟩ := List.mem_map.mp hx
  exact .at (h q hq)
theorem row_uv {p : D} {xs : List D} {k : Nat} (e : rowO p = some xs) (hl : xs.length ≤ wid k) (h : ∀ x ∈ xs, Uv k x) : Uv (k + 1) p := by
  rcases row_cases e with rfl | rfl
  · exact .lst hl h
  · exact .tup hl h
def wayB (cs : Cs) : Stm := (iffS (tst (opE (eqG false) (vB 5) (kE (.int 0)))) (putS 4 (kE (.int 0)) (callE (F_l_odd cs) (consM 0 nilW))) (iffS (tst (opE (eqG false) (vB 5) (kE (.int 1)))) (putS 4 (kE (.int 1)) (callE (F_l_list_odd cs) (consM 0 nilW))) (iffS (tst (opE (eqG false) (vB 5) (kE (.int 2)))) (putS 4 (kE (.int 1)) (callE (F_l_put cs) (consM 0 (consF (opE ixG (vB 4) (kE (.int 1))) (consF (callE (F_l_odd cs) (consM 0 nilW)) nilW))))) (iffS (tst (opE (eqG false) (vB 5) (kE (.int 3)))) (putS 4 (kE (.int 1)) (opE plusG (b1E listD (opE ixG (vB 4) (kE (.int 1)))) (opE repD (lstE (consE (opE ixG (vB 2) (kE (.int 0))) nilE)) (opE plusG (kE (.int 1)) (callE (F_l_draw cs) (consM 0 (consF (kE (.int 3)) nilW))))))) (iffS (tst (opE (eqG false) (vB 5) (kE (.int 4)))) (appS 4 (callE (F_l_odd cs) (consM 0 nilW))) (iffS (tst (opE (eqG false) (vB 5) (kE (.int 5)))) (popS 4) (putS 4 (b1E negD (kE (.int 1))) (callE (F_l_odd cs) (consM 0 nilW)))))))))
section
variable {S : Sto} {n : Nat} {p : Pot}
theorem set_mem {L : List D} {i : Nat} {d : D} {P : D → Prop} (h : ∀ y ∈ L, P y) (hd : P d) : ∀ y ∈ L.set i d, P y := fun y hy => by
  rcases List.mem_or_eq_of_mem_set hy with z | z
  · exact h y z
  · rw [z]; exact hd
theorem way_ok (cs : Cs) (hn : n < S.length) {T K : D} {ks : List Str} {nm pl : D} {tl : List D} {ps : List Str} (eK : rowO K = some (ks.map D.str)) (k1 : 1 ≤ ks.length) (ka : ∀ x ∈ ks, Atm (.str x))
    (a1 : Atm nm) (ep : rowO pl = some (ps.map D.str)) (p2 : ps.length ≤ 2) (pa : ∀ q ∈ ps, Atm (.str q)) (t1 : tl.length ≤ 1) (ta : ∀ y ∈ tl, Atm y) (w3 : Option W) (w : Int) (w0 : 0 ≤ w) (w7 : w < 7) :
    ∃ (L : List D) (q : Pot), wayB cs [some (.m n), some (.f T), some (.f K), w3, some (.o (.lst (nm :: pl :: tl))), some (.f (.int w)), none] (S.set n (potC p)) = .nx [some (.m n), some (.f T), some (.f K), w3, some (.o (.lst L)), some (.f (.int w)), none] (S.set n (potC q)) ∧ L.length ≤ 4 ∧ ∀ y ∈ L, Uv 2 y := by
  have ul : ∀ y ∈ nm :: pl :: tl, Uv 2 y := fun y hy => by
    rcases List.mem_cons.mp hy with z | z
    · rw [z]; exact .at a1
    · rcases List.mem_cons.mp z with z | z
      · rw [z]
        exact row_uv ep (by rw [List.length_map]; exact Nat.le_trans p2 (by decide)) (strs_uv pa 1)
      · exact .at (ta y z)
  have x0 : ixN (tl.length + 1 + 1) 0 = some 0 := by
    unfold ixN
    simp
    omega
  have x1 : ixN (tl.length + 1 + 1) 1 = some 1 := by
    unfold ixN
    have : (1 : Int) < ((tl.length : Nat) : Int) + 1 + 1 := by omega
    simp [this]
  have xm : ixN (tl.length + 1 + 1) (-1) = some (tl.length + 1) := by
    unfold ixN
    have h1 : ¬ (0 : Int) ≤ -1 := by omega
    simp [h1]
    omega
  have ng : negD (.int 1) = some (.int (-1)) := rfl
  have i1 : ixG (.lst (nm :: pl :: tl)) (.int 1) = some pl := ix_1 (d := .lst (nm :: pl :: tl)) rfl
  have rp := row_rs ep
  have rK := row_rs eK
  have : w = 0 ∨ w = 1 ∨ w = 2 ∨ w = 3 ∨ w = 4 ∨ w = 5 ∨ w = 6 := by omega
  rcases this with rfl | rfl | rfl | rfl | rfl | rfl | rfl
  · obtain ⟨d, q, h, u⟩ := odd_ok (p := p) cs hn
    refine ⟨(nm :: pl :: tl).set 0 d, q, ?_, by simp; omega, set_mem ul (u.le 1)⟩
    simp [wayB, defF, bodyF, frame, seqS, iffS, RS.bind, R.st, tst, opE, bindE, kE, R.bind, R.get, vB, vF, retS, retV, kOk, skipS, callE, consF, consM, cellV, nilW, b1E, asB, setS, ownS, ownS.isRef, frzS, tupE, lstE, consE, nilE, partE, noPart, eqG_int, putS, h, getE, asI, x0]
  · obtain ⟨d, q, h, u, _⟩ := list_odd_ok (p := p) cs hn
    refine ⟨(nm :: pl :: tl).set 1 d, q, ?_, by simp; omega, set_mem ul u⟩
    simp [wayB, defF, bodyF, frame, seqS, iffS, RS.bind, R.st, tst, opE, bindE, kE, R.bind, R.get, vB, vF, retS, retV, kOk, skipS, callE, consF, consM, cellV, nilW, b1E, asB, setS, ownS, ownS.isRef, frzS, tupE, lstE, consE, nilE, partE, noPart, eqG_int, putS, h, getE, asI, x1]
  · obtain ⟨d, q, h, u⟩ := odd_ok (p := p) cs hn
    obtain ⟨ys, q2, h2, l2, u2⟩ := put_ok (p := q) cs hn (thing := d) ep (fun x hx => atm_ok (pa x hx)) (by omega)
    refine ⟨(nm :: pl :: tl).set 1 (.lst ys), q2, ?_, by simp; omega, set_mem ul (.lst (by have : wid 1 = 6 := rfl; omega) fun y hy => ?_)⟩
    · simp [wayB, defF, bodyF, frame, seqS, iffS, RS.bind, R.st, tst, opE, bindE, kE, R.bind, R.get, vB, vF, retS, retV, kOk, skipS, callE, consF, consM, cellV, nilW, b1E, asB, setS, ownS, ownS.isRef, frzS, tupE, lstE, consE, nilE, partE, noPart, eqG_int, putS, i1, rp, h, h2, getE, asI, x1]
    · rcases u2 y hy with z | z
      · rw [z]; exact u
      · exact strs_uv pa 1 y z
  · obtain ⟨j0, j1⟩ := drawI_lt p (show (0 : Int) < 3 by decide)
    have dr := draw_set cs (p := p) hn 3 (by decide) (by decide)
    obtain ⟨k0, kr, rfl⟩ : ∃ k0 kr, ks = k0 :: kr := by
      cases ks with
      | nil => simp at k1
      | cons a b => exact ⟨a, b, rfl⟩
    have i0 : ixG K (.int 0) = some (.str k0) := ix_0 eK
    have lp := row_list ep
    have s1 : sz 1 = true := sz_of (by omega)
    have rep : ∃ m : Nat, m ≤ 3 ∧ repD (.lst [.str k0]) (.int (1 + drawI p 3)) = some (.lst (List.replicate m (.str k0))) := by
      have : drawI p 3 = 0 ∨ drawI p 3 = 1 ∨ drawI p 3 = 2 := by omega
      rcases this with e | e | e <;> rw [e]
      · exact ⟨1, by omega, rfl⟩
      · exact ⟨2, by omega, rfl⟩
      · exact ⟨3, by omega, rfl⟩
    obtain ⟨m, m3, rep⟩ := rep
    have pi := plusG_I 1 (drawI p 3)
    have pg : plusG (.lst (ps.map D.str)) (.lst (List.replicate m (.str k0))) = some (.lst (ps.map D.str ++ List.replicate m (.str k0))) := plusG_L (sz_of (by simp; omega))
    refine ⟨(nm :: pl :: tl).set 1 (.lst (ps.map D.str ++ List.replicate m (.str k0))), drawP p 3, ?_, by simp; omega, set_mem ul (.lst (by have : wid 1 = 6 := rfl; simp; omega) fun y hy => ?_)⟩
    · simp [wayB, defF, bodyF, frame, seqS, iffS, RS.bind, R.st, tst, opE, bindE, kE, R.bind, R.get, vB, vF, retS, retV, kOk, skipS, callE, consF, consM, cellV, nilW, b1E, asB, setS, ownS, ownS.isRef, frzS, tupE, lstE, consE, nilE, partE, noPart, eqG_int, putS, i1, rp, lp, i0, rK, s1, dr, pi, rep, pg, getE, asI, x1]
    · rcases List.mem_append.mp hy with z | z
      · exact strs_uv pa 1 y z
      · rw [List.eq_of_mem_replicate z]
        exact .at (ka k0 (by simp))
  · obtain ⟨d, q, h, u⟩ := odd_ok (p := p) cs hn
    have s4 : sz (tl.length + 1 + 1 + 1) = true := sz_of (by omega)
    refine ⟨(nm :: pl :: tl) ++ [d], q, ?_, by simp; omega, fun y hy => ?_⟩
    · simp [wayB, defF, bodyF, frame, seqS, iffS, RS.bind, R.st, tst, opE, bindE, kE, R.bind, R.get, vB, vF, retS, retV, kOk, skipS, callE, consF, consM, cellV, nilW, b1E, asB, setS, ownS, ownS.isRef, frzS, tupE, lstE, consE, nilE, partE, noPart, eqG_int, appS, h, s4]
    · rcases List.mem_append.mp hy with z | z
      · exact ul y z
      · rw [List.mem_singleton.mp z]; exact u.le 1
  · refine ⟨(nm :: pl :: tl).dropLast, p, ?_, by simp; omega, fun y hy => ul y (List.dropLast_subset _ hy)⟩
    simp [wayB, defF, bodyF, frame, seqS, iffS, RS.bind, R.st, tst, opE, bindE, kE, R.bind, R.get, vB, vF, retS, retV, kOk, skipS, callE, consF, consM, cellV, nilW, b1E, asB, setS, ownS, ownS.isRef, frzS, tupE, lstE, consE, nilE, partE, noPart, eqG_int, popS]
  · obtain ⟨d, q, h, u⟩ := odd_ok (p := p) cs hn
    refine ⟨(nm :: pl :: tl).set (tl.length + 1) d, q, ?_, by simp; omega, set_mem ul (u.le 1)⟩
    simp [wayB, defF, bodyF, frame, seqS, iffS, RS.bind, R.st, tst, opE, bindE, kE, R.bind, R.get, vB, vF, retS, retV, kOk, skipS, callE, consF, consM, cellV, nilW, b1E, asB, setS, ownS, ownS.isRef, frzS, tupE, lstE, consE, nilE, partE, noPart, eqG_int, putS, h, getE, asI, xm, ng]
theorem spoilt_sign_ok (cs : Cs) (hn : n < S.length) {T K : D} {ts : List D} {ks : List Str} (eT : rowO T = some ts) (h8 : ts.length ≤ 8) (hs : ∀ x ∈ ts, SgnR x ∧ Uv 3 x) (eK : rowO K = some (ks.map D.str)) (k1 : 1 ≤ ks.length) (ka : ∀ x ∈ ks, Atm (.str x)) :
    ∃ (ys : List D) (q : Pot), F_l_spoilt_sign cs [.m n, .f T, .f K] (S.set n (potC p)) = .ok (.lst ys) (S.set n (potC q)) ∧ ys.length ≤ 8 ∧ ∀ y ∈ ys, Uv 3 y := by
  have eB : B_l_spoilt_sign cs = seqS (iffS (tst (opE (eqG false) (b1E lenD2 (vB 1)) (kE (.int 0)))) (retS .own (lstE (consE (callE (F_l_odd cs) (consM 0 nilW)) nilE))) skipS)
    (seqS (setS 3 (callE (F_l_draw cs) (consM 0 (consF (b1E lenD2 (vB 1)) nilW)))) (seqS (ownS 4 (b1E listD (opE ixG (vB 1) (vB 3)))) (seqS (setS 5 (callE (F_l_draw cs) (consM 0 (consF (kE (.int 7)) nilW))))
    (seqS (wayB cs) (seqS (ownS 6 (b1E listD (vB 1))) (seqS (frzS 4) (seqS (putS 6 (vF 3) (opE ixG (lstE (consE (b1E tupleD (vF 4)) (consE (vF 4) (consE (callE (F_l_list_odd cs) (consM 0 nilW)) nilE)))) (callE (F_l_draw cs) (consM 0 (consF (kE (.int 3)) nilW))))) (retV 6)))))))) := rfl
  have nT := row_len eT
  have rT : ∀ S, rs S T = some T := fun S => by rcases row_cases eT with rfl | rfl <;> rfl
  have lT := row_list eT
  have s1 : sz 1 = true := sz_of (by omega)
  have s3 : sz 3 = true := sz_of (by omega)
  unfold F_l_spoilt_sign
  rw [eB]
  by_cases hz : ts = []
  · subst hz
    obtain ⟨d, q, h, u⟩ := odd_ok (p := p) cs hn
    refine ⟨[d], q, ?_, by simp, fun y hy => by rw [List.mem_singleton.mp hy]; exact u.le 2⟩
    have nT : lenD2 T = some (.int 0) := nT
    generalize wayB cs = fw
    simp [defF, bodyF, frame, seqS, iffS, RS.bind, R.st, tst, opE, bindE, kE, R.bind, R.get, vB, vF, retS, retV, kOk, skipS, callE, consF, consM, cellV, nilW, b1E, asB, setS, ownS, ownS.isRef, frzS, tupE, lstE, consE, nilE, partE, noPart, rT, nT, eqG_int, h, s1, take_set]
  · have l0 : 0 < ts.length := List.length_pos_iff.mpr hz
    obtain ⟨j0, j1⟩ := drawI_lt p (show (0 : Int) < (ts.length : Nat) by omega)
    have dr := draw_set cs (p := p) hn (ts.length : Nat) (by omega) (by omega)
    obtain ⟨i, ei⟩ := Int.eq_ofNat_of_zero_le j0
    rw [ei] at j1 dr
    have hi : i < ts.length := by omega
    have ixt : ixG T (.int (i : Nat)) = some ts[i] := row_ix eT i (List.getElem?_eq_getElem hi)
    obtain ⟨⟨nm, pl, tl, er, a1, ⟨ps, ep, p2, pa⟩, t1, ta⟩, ux⟩ := hs ts[i] (List.getElem_mem hi)
    have lx := row_list er
    have rx := ux.rs
    have e0 : eqG false (.int (ts.length : Nat)) (.int 0) = some (.bl false) := by
      rw [eqG_int]
      have : (((ts.length : Nat) : Int) == 0) = false := by rw [beq_eq_false_iff_ne]; omega
      rw [this]
      rfl
    obtain ⟨v0, v1⟩ := drawI_lt (drawP p (ts.length : Nat)) (show (0 : Int) < 7 by decide)
    have dr2 := draw_set cs (p := drawP p (ts.length : Nat)) hn 7 (by decide) (by decide)
    obtain ⟨L, q, hw, l4, uL⟩ := way_ok (p := drawP (drawP p (ts.length : Nat)) 7) cs hn (T := T) (K := K) eK k1 ka a1 ep p2 pa t1 ta (some (.f (.int (i : Nat)))) _ v0 v1
    obtain ⟨ld, q2, h2, u2, _⟩ := list_odd_ok (p := q) cs hn
    obtain ⟨z0, z1⟩ := drawI_lt q2 (show (0 : Int) < 3 by decide)
    have dr3 := draw_set cs (p := q2) hn 3 (by decide) (by decide)
    obtain ⟨e, he, ie⟩ := ix_in (xs := [.tup L, .lst L, ld]) z0 z1
    have ue : Uv 3 e := by
      simp only [List.mem_cons, List.not_mem_nil, or_false] at he
      have l6 : L.length ≤ wid 2 := by have : wid 2 = 6 := rfl; omega
      rcases he with rfl | rfl | rfl
      · exact .tup l6 uL
      · exact .lst l6 uL
      · exact u2.up
    have ixn : ixN ts.length ((i : Nat) : Int) = some i := by
      unfold ixN
      simp [hi]
    have tL : tupleD (.lst L) = some (.tup L) := rfl
    refine ⟨ts.set i e, drawP q2 3, ?_, by simp; omega, set_mem (fun y hy => (hs y hy).2) ue⟩
    generalize wayB cs = fw at hw ⊢
    simp [defF, bodyF, frame, seqS, iffS, RS.bind, R.st, tst, opE, bindE, kE, R.bind, R.get, vB, vF, retS, retV, kOk, skipS, callE, consF, consM, cellV, nilW, b1E, asB, setS, ownS, ownS.isRef, frzS, tupE, lstE, consE, nilE, partE, noPart, rT, nT, e0, dr, ei, ixt, rx, lx, dr2, hw, lT, putS, tL, h2, s3, dr3, ie, getE, asI, ixn, take_set]
end
end Fw

set_option  maxHeartbeats 4000000
namespace Fw
open PySem L2

/-! ### a book spoilt -/
def R0 (cs : Cs) : E D := (tupE (consE (callE (F_l_put cs) (consM 0 (consF (vF 2) (consF (callE (F_l_odd cs) (consM 0 nilW)) nilW)))) (consE (vF 3) (consE (vF 4) nilE))))
def R1 (cs : Cs) : E D := (tupE (consE (opE plusG (b1E listD (vB 2)) (slE cutA (lstE (consE (kE (.str "e")) (consE (kE (.str "d")) (consE (kE (.str "h")) nilE)))) noPart (partE (opE plusG (kE (.int 1)) (callE (F_l_draw cs) (consM 0 (consF (kE (.int 3)) nilW))))))) (consE (vF 3) (consE (vF 4) nilE))))
def R2 (cs : Cs) : E D := (tupE (consE (opE plusG (b1E listD (vB 2)) (lstE (consE (opE ixG (vB 2) (callE (F_l_draw cs) (consM 0 (consF (b1E lenD2 (vB 2)) nilW)))) nilE))) (consE (vF 3) (consE (vF 4) nilE))))
def R3 (cs : Cs) : E D := (opE ixG (lstE (consE (tupE (consE (callE (F_l_list_odd cs) (consM 0 nilW)) (consE (vF 3) (consE (vF 4) nilE)))) (consE (tupE (consE (vF 2) (consE (callE (F_l_list_odd cs) (consM 0 nilW)) (consE (vF 4) nilE)))) nilE))) (callE (F_l_draw cs) (consM 0 (consF (kE (.int 2)) nilW))))
def R4 (cs : Cs) : E D := (tupE (consE (vF 2) (consE (vF 3) (consE (callE (F_l_list_odd cs) (consM 0 nilW)) nilE))))
def R5 (cs : Cs) : E D := (tupE (consE (vF 2) (consE (callE (F_l_spoilt_sign cs) (consM 0 (consF (vF 3) (consF (vF 2) nilW)))) (consE (vF 4) nilE))))
def R6 (cs : Cs) : E D := (tupE (consE (vF 2) (consE (vF 3) (consE (callE (F_l_spoilt_sign cs) (consM 0 (consF (vF 4) (consF (vF 2) nilW)))) nilE))))
def R7 (cs : Cs) : E D := (tupE (consE (vF 2) (consE (vF 3) (consE (opE plusG (b1E listD (vB 4)) (compX [6] (tgNS 6) (slE cutA (vF 3) noPart (partE (kE (.int 1)))) yesE (tupE (consE (opE ixG (vB 6) (kE (.int 0))) (consE (opE ixG (vB 6) (kE (.int 1))) (consE (opE ixG (vB 2) (kE (.int 0))) nilE)))))) nilE))))
def R8 (cs : Cs) : Stm := (seqS (ownS 7 (compE [8] (tgN 8) (getE rng1 (callE (F_l_draw cs) (consM 0 (consF (kE (.int 9)) nilW)))) yesE (tupE (consE (opE plusG (kE (.str "m")) (opE ixG (kE (.str "abcdefgh")) (vB 8))) (consE (lstE nilE) nilE))))) (seqS (frzS 7) (retS .frz (tupE (consE (vF 2) (consE (opE plusG (b1E listD (vB 3)) (vF 7)) (consE (vF 4) nilE)))))))
def isW (c : Int) : E Bool := tst (opE (eqG false) (vB 5) (kE (.int c)))
def spB (cs : Cs) : Stm := seqS (iffS (isW 0) (retS .frz (R0 cs)) skipS) (seqS (iffS (isW 1) (retS .frz (R1 cs)) skipS) (seqS (iffS (isW 2) (retS .frz (R2 cs)) skipS) (seqS (iffS (isW 3) (retS .frz (R3 cs)) skipS) (seqS (iffS (isW 4) (retS .frz (R4 cs)) skipS) (seqS (iffS (isW 5) (retS .frz (R5 cs)) skipS) (seqS (iffS (isW 6) (retS .frz (R6 cs)) skipS) (seqS (iffS (isW 7) (retS .frz (R7 cs)) skipS) (R8 cs))))))))
theorem eB_spoilt (cs : Cs) : B_l_spoilt cs = seqS (tupS [2, 3, 4] (vF 1)) (seqS (setS 5 (callE (F_l_draw cs) (consM 0 (consF (kE (.int 9)) nilW)))) (spB cs)) := rfl
theorem Uv.row' {k : Nat} {d : D} {xs : List D} (h : Uv (k + 1) d) (e : rowO d = some xs) : xs.length ≤ wid k ∧ ∀ x ∈ xs, Uv k x := by
  cases h with
  | «at» a => cases a <;> cases e
  | lst l g => cases e; exact ⟨l, g⟩
  | tup l g => cases e; exact ⟨l, g⟩
theorem uv_atm {k : Nat} {x : Str} (h : Uv k (.str x)) : Atm (.str x) := by
  cases h; assumption
theorem paired_left {α β : Type} {R : α → β → Prop} : ∀ {xs : List α} {ys : List β}, Paired R xs ys → ∀ x ∈ xs, ∃ y ∈ ys, R x y
  | _, _, .cons (a := a) (b := b) h p, x, hx => by
    rcases List.mem_cons.mp hx with z | z
    · rw [z]; exact ⟨b, by simp, h⟩
    · obtain ⟨y, hy, r⟩ := paired_left p x z
      exact ⟨y, by simp [hy], r⟩
/-- a book as it may be spoilt -/
structure Fine (K T F : D) : Prop where
  uK : Uv 4 K
  uT : Uv 4 T
  uF : Uv 4 F
  nK : NoT K
structure Rows (K T F : D) (ks : List Str) (ts fs : List D) : Prop where
  k : rowO K = some (ks.map D.str)
  k1 : 1 ≤ ks.length
  k4 : ks.length ≤ 4
  ka : ∀ x ∈ ks, Atm (.str x)
  t : rowO T = some ts
  t8 : ts.length ≤ 8
  ta : ∀ x ∈ ts, SgnR x ∧ Uv 3 x
  f : rowO F = some fs
  f8 : fs.length ≤ 8
  fa : ∀ x ∈ fs, SgnR x ∧ Uv 3 x
theorem rows_of {K T F : D} {b : Bk} (h : Fine K T F) (bo : Bok K T F b) : ∃ ks ts fs, Rows K T F ks ts fs := by
  obtain ⟨ts, et, pt⟩ := bo.t
  obtain ⟨fs, ef, pf⟩ := bo.f
  have ln := bo.ok.s8
  unfold Bk.names at ln
  rw [List.length_append, List.length_map, List.length_map, ← Paired.len pt, ← Paired.len pf] at ln
  obtain ⟨_, gk⟩ := h.uK.row' bo.k
  obtain ⟨_, gt⟩ := h.uT.row' et
  obtain ⟨_, gf⟩ := h.uF.row' ef
  refine ⟨b.kinds, ts, fs, ⟨bo.k, bo.ok.k1, bo.ok.k4, fun x hx => uv_atm (gk _ (List.mem_map.mpr ⟨x, hx, rfl⟩)), et, by omega, fun x hx => ⟨?_, gt x hx⟩, ef, by omega, fun x hx => ⟨?_, gf x hx⟩⟩⟩
  · obtain ⟨t, ht, p, r1, r2⟩ := paired_left pt x hx
    obtain ⟨_, g1⟩ := (gt x hx).row' r1
    obtain ⟨_, g2⟩ := (g1 p (by simp)).row' r2
    exact ⟨_, p, [], r1, uv_atm (g1 _ (by simp)), ⟨t.2, r2, (bo.ok.tp t ht).1, fun q hq => uv_atm (g2 _ (List.mem_map.mpr ⟨q, hq, rfl⟩))⟩, by simp, fun _ z => by cases z⟩
  · obtain ⟨t, ht, p, r1, r2⟩ := paired_left pf x hx
    obtain ⟨_, g1⟩ := (gf x hx).row' r1
    obtain ⟨_, g2⟩ := (g1 p (by simp)).row' r2
    refine ⟨_, p, [.str t.2.2], r1, uv_atm (g1 _ (by simp)), ⟨t.2.1, r2, (bo.ok.fp t ht).1.1, fun q hq => uv_atm (g2 _ (List.mem_map.mpr ⟨q, hq, rfl⟩))⟩, by simp, fun y hy => ?_⟩
    rw [List.mem_singleton.mp hy]
    exact uv_atm (g1 _ (by simp))
theorem noT_lst (xs : List D) : NoT (.lst xs) := fun _ h => by cases h
section
variable {S : Sto} {n : Nat} {p : Pot} {K T F : D} {ks : List Str} {ts fs : List D}
abbrev spE (n : Nat) (K T F : D) (w : Int) : Env := [some (.m n), some (.f (bookT K T F)), some (.f K), some (.f T), some (.f F), some (.f (.int w)), none, none, none]
/-- an end that is fine -/
def FineE (r : R D) (S : Sto) (n : Nat) : Prop := ∃ (K' T' F' : D) (q : Pot), r = .ok (bookT K' T' F') (S.set n (potC q)) ∧ Fine K' T' F'
theorem s3t : sz 3 = true := sz_of (by omega)
theorem r0 (cs : Cs) (hn : n < S.length) (hf : Fine K T F) (h : Rows K T F ks ts fs) (w : Int) : FineE (R0 cs (spE n K T F w) (S.set n (potC p))) S n := by
  obtain ⟨d, q, h1, u1⟩ := odd_ok (p := p) cs hn
  obtain ⟨ys, q2, h2, l2, u2⟩ := put_ok (p := q) cs hn (thing := d) h.k (fun x hx => atm_ok (h.ka x hx)) (by have := h.k4; omega)
  refine ⟨.lst ys, T, F, q2, ?_, ⟨.lst (by have := h.k4; have w3 : wid 3 = 20 := rfl; omega) fun y hy => ?_, hf.uT, hf.uF, noT_lst _⟩⟩
  · simp [R0, defF, bodyF, frame, seqS, iffS, RS.bind, R.st, tst, opE, bindE, kE, R.bind, R.get, vB, vF, retS, retV, kOk, skipS, callE, consF, consM, cellV, nilW, b1E, asB, setS, ownS, ownS.isRef, frzS, tupE, lstE, consE, nilE, partE, noPart, h1, h2, s3t, bookT]
  · rcases u2 y hy with z | z
    · rw [z]; exact u1.le 2
    · exact strs_uv h.ka 3 y z
theorem r1 (cs : Cs) (hn : n < S.length) (hf : Fine K T F) (h : Rows K T F ks ts fs) (w : Int) : FineE (R1 cs (spE n K T F w) (S.set n (potC p))) S n := by
  obtain ⟨j0, j1⟩ := drawI_lt p (show (0 : Int) < 3 by decide)
  have dr := draw_set cs (p := p) hn 3 (by decide) (by decide)
  obtain ⟨i, ei⟩ := Int.eq_ofNat_of_zero_le j0
  rw [ei] at dr j1
  have pi := plusG_I 1 (i : Nat)
  have e1 : (1 : Int) + (i : Nat) = ((1 + i : Nat) : Int) := by omega
  have ct := cutN [.str "e", .str "d", .str "h"] (1 + i) (by show 1 + i ≤ 3; omega)
  rw [← e1] at ct
  have rK := row_rs h.k
  have lK := row_list h.k
  have pg : plusG (.lst (ks.map D.str)) (.lst (([.str "e", .str "d", .str "h"] : List D).take (1 + i))) = some (.lst (ks.map D.str ++ ([.str "e", .str "d", .str "h"] : List D).take (1 + i))) := plusG_L (sz_of (by have := h.k4; simp; omega))
  have st : ∀ x ∈ (["e", "d", "h"] : List Str), Atm (.str x) := by
    have : ∀ x ∈ (["e", "d", "h"] : List Str), atmB x = true := by decide +kernel
    exact fun x hx => atm_of (this x hx)
  refine ⟨.lst (ks.map D.str ++ ([.str "e", .str "d", .str "h"] : List D).take (1 + i)), T, F, drawP p 3, ?_, ⟨.lst (by have := h.k4; have w3 : wid 3 = 20 := rfl; simp; omega) fun y hy => ?_, hf.uT, hf.uF, noT_lst _⟩⟩
  · generalize ([.str "e", .str "d", .str "h"] : List D).take (1 + i) = zs at ct pg ⊢
    simp [R1, defF, bodyF, frame, seqS, iffS, RS.bind, R.st, tst, opE, bindE, kE, R.bind, R.get, vB, vF, retS, retV, kOk, skipS, callE, consF, consM, cellV, nilW, b1E, asB, setS, ownS, ownS.isRef, frzS, tupE, lstE, consE, nilE, partE, noPart, slE, rK, lK, dr, pi, asI, ct, pg, s3t, bookT]
  · rcases List.mem_append.mp hy with z | z
    · exact strs_uv h.ka 3 y z
    · exact strs_uv (ps := ["e", "d", "h"]) st 3 y (List.take_subset _ _ z)
theorem r2 (cs : Cs) (hn : n < S.length) (hf : Fine K T F) (h : Rows K T F ks ts fs) (w : Int) : FineE (R2 cs (spE n K T F w) (S.set n (potC p))) S n := by
  have k1 := h.k1
  have k4 := h.k4
  obtain ⟨j0, j1⟩ := drawI_lt p (show (0 : Int) < (ks.length : Nat) by omega)
  have dr := draw_set cs (p := p) hn (ks.length : Nat) (by omega) (by omega)
  obtain ⟨i, ei⟩ := Int.eq_ofNat_of_zero_le j0
  rw [ei] at dr j1
  have hi : i < ks.length := by omega
  have ix : ixG K (.int (i : Nat)) = some (.str ks[i]) := row_ix h.k i (by rw [List.getElem?_map, List.getElem?_eq_getElem hi]; rfl)
  have rK := row_rs h.k
  have lK := row_list h.k
  have nK : lenD2 K = some (.int (ks.length : Nat)) := by
    have := row_len h.k
    rwa [List.length_map] at this
  have s1 : sz 1 = true := sz_of (by omega)
  have pg : plusG (.lst (ks.map D.str)) (.lst [.str ks[i]]) = some (.lst (ks.map D.str ++ [.str ks[i]])) := plusG_L (sz_of (by simp; omega))
  refine ⟨.lst (ks.map D.str ++ [.str ks[i]]), T, F, drawP p (ks.length : Nat), ?_, ⟨.lst (by have w3 : wid 3 = 20 := rfl; simp; omega) fun y hy => ?_, hf.uT, hf.uF, noT_lst _⟩⟩
  · simp [R2, defF, bodyF, frame, seqS, iffS, RS.bind, R.st, tst, opE, bindE, kE, R.bind, R.get, vB, vF, retS, retV, kOk, skipS, callE, consF, consM, cellV, nilW, b1E, asB, setS, ownS, ownS.isRef, frzS, tupE, lstE, consE, nilE, partE, noPart, rK, lK, nK, dr, ix, s1, pg, s3t, bookT]
  · rcases List.mem_append.mp hy with z | z
    · exact strs_uv h.ka 3 y z
    · rw [List.mem_singleton.mp z]; exact .at (h.ka _ (List.getElem_mem hi))
theorem r3 (cs : Cs) (hn : n < S.length) (hf : Fine K T F) (w : Int) : FineE (R3 cs (spE n K T F w) (S.set n (potC p))) S n := by
  obtain ⟨d1, q1, h1, u1, n1⟩ := list_odd_ok (p := p) cs hn
  obtain ⟨d2, q2, h2, u2, n2⟩ := list_odd_ok (p := q1) cs hn
  obtain ⟨j0, j1⟩ := drawI_lt q2 (show (0 : Int) < 2 by decide)
  have dr := draw_set cs (p := q2) hn 2 (by decide) (by decide)
  have s2 : sz 2 = true := sz_of (by omega)
  have : drawI q2 2 = 0 ∨ drawI q2 2 = 1 := by omega
  rcases this with e | e <;> rw [e] at dr
  · have ix : ixG (.lst [.tup [d1, T, F], .tup [K, d2, F]]) (.int 0) = some (bookT d1 T F) := rfl
    exact ⟨d1, T, F, drawP q2 2, by simp [R3, defF, bodyF, frame, seqS, iffS, RS.bind, R.st, tst, opE, bindE, kE, R.bind, R.get, vB, vF, retS, retV, kOk, skipS, callE, consF, consM, cellV, nilW, b1E, asB, setS, ownS, ownS.isRef, frzS, tupE, lstE, consE, nilE, partE, noPart, h1, h2, dr, s3t, s2, ix], ⟨u1.le 2, hf.uT, hf.uF, n1⟩⟩
  · have ix : ixG (.lst [.tup [d1, T, F], .tup [K, d2, F]]) (.int 1) = some (bookT K d2 F) := rfl
    exact ⟨K, d2, F, drawP q2 2, by simp [R3, defF, bodyF, frame, seqS, iffS, RS.bind, R.st, tst, opE, bindE, kE, R.bind, R.get, vB, vF, retS, retV, kOk, skipS, callE, consF, consM, cellV, nilW, b1E, asB, setS, ownS, ownS.isRef, frzS, tupE, lstE, consE, nilE, partE, noPart, h1, h2, dr, s3t, s2, ix], ⟨hf.uK, u2.le 2, hf.uF, hf.nK⟩⟩
theorem r4 (cs : Cs) (hn : n < S.length) (hf : Fine K T F) (w : Int) : FineE (R4 cs (spE n K T F w) (S.set n (potC p))) S n := by
  obtain ⟨d1, q1, h1, u1, n1⟩ := list_odd_ok (p := p) cs hn
  exact ⟨K, T, d1, q1, by simp [R4, defF, bodyF, frame, seqS, iffS, RS.bind, R.st, tst, opE, bindE, kE, R.bind, R.get, vB, vF, retS, retV, kOk, skipS, callE, consF, consM, cellV, nilW, b1E, asB, setS, ownS, ownS.isRef, frzS, tupE, lstE, consE, nilE, partE, noPart, h1, s3t, bookT], ⟨hf.uK, hf.uT, u1.le 2, hf.nK⟩⟩
theorem r5 (cs : Cs) (hn : n < S.length) (hf : Fine K T F) (h : Rows K T F ks ts fs) (w : Int) : FineE (R5 cs (spE n K T F w) (S.set n (potC p))) S n := by
  obtain ⟨ys, q, h1, l1, u1⟩ := spoilt_sign_ok (p := p) cs hn h.t h.t8 h.ta h.k h.k1 h.ka
  exact ⟨K, .lst ys, F, q, by simp [R5, defF, bodyF, frame, seqS, iffS, RS.bind, R.st, tst, opE, bindE, kE, R.bind, R.get, vB, vF, retS, retV, kOk, skipS, callE, consF, consM, cellV, nilW, b1E, asB, setS, ownS, ownS.isRef, frzS, tupE, lstE, consE, nilE, partE, noPart, h1, s3t, bookT], ⟨hf.uK, .lst (by have w3 : wid 3 = 20 := rfl; omega) u1, hf.uF, hf.nK⟩⟩
theorem r6 (cs : Cs) (hn : n < S.length) (hf : Fine K T F) (h : Rows K T F ks ts fs) (w : Int) : FineE (R6 cs (spE n K T F w) (S.set n (potC p))) S n := by
  obtain ⟨ys, q, h1, l1, u1⟩ := spoilt_sign_ok (p := p) cs hn h.f h.f8 h.fa h.k h.k1 h.ka
  exact ⟨K, T, .lst ys, q, by simp [R6, defF, bodyF, frame, seqS, iffS, RS.bind, R.st, tst, opE, bindE, kE, R.bind, R.get, vB, vF, retS, retV, kOk, skipS, callE, consF, consM, cellV, nilW, b1E, asB, setS, ownS, ownS.isRef, frzS, tupE, lstE, consE, nilE, partE, noPart, h1, s3t, bookT], ⟨hf.uK, hf.uT, .lst (by have w3 : wid 3 = 20 := rfl; omega) u1, hf.nK⟩⟩
end
end Fw

set_option  maxHeartbeats 4000000
namespace Fw
open PySem L2

theorem cut1 {d : D} {xs : List D} (e : rowO d = some xs) : ∃ d1, cutA d none (some 1) = some d1 ∧ rowO d1 = some (xs.take 1) := by
  have c : cutL xs none (some 1) = xs.take 1 := by
    unfold cutL
    cases xs <;> simp [HT.sIx]
  rcases row_cases e with rfl | rfl
  · exact ⟨.lst (cutL xs none (some 1)), rfl, by rw [c]; rfl⟩
  · exact ⟨.tup (cutL xs none (some 1)), rfl, by rw [c]; rfl⟩
def snd (d : D) : D := match rowO d with
  | some (_ :: p :: _) => p
  | _ => .non
def abc8 : Str := "abcdefgh"
theorem abc8_cps : abc8.cps.toList = (List.range 8).map (97 + ·) := by decide +kernel
theorem abc8_len : abc8.length = 8 := by decide +kernel
theorem abc8_ix {i : Nat} (h : i < 8) : ixG (.str abc8) (.int (i : Nat)) = some (.str ⟨#[97 + i]⟩) := by
  have e : ixS (.str abc8) (.int (i : Nat)) = some (.str ⟨#[97 + i]⟩) := by
    show (if sz abc8.length then (atI abc8.cps.toList (i : Nat)).map fun c => D.str ⟨#[c]⟩ else none) = _
    rw [abc8_len, if_pos (sz_of (by omega)), abc8_cps]
    unfold atI
    have : ixN ((List.range 8).map (97 + ·)).length ((i : Nat) : Int) = some i := by
      unfold ixN
      simp
      omega
    rw [this]
    simp [h]
  show (orG ixD (orG ixS ixK)) _ _ = _
  unfold orG
  show (none : Option D).orElse _ = _
  show (ixS (.str abc8) (.int (i : Nat))).orElse _ = _
  rw [e]
  rfl
theorem m_atm : ∀ i < 8, Atm (.str (("m" : Str) ++ ⟨#[97 + i]⟩)) := by
  have : ∀ i : Fin 8, atmB (("m" : Str) ++ ⟨#[97 + i.val]⟩) = true := by decide +kernel
  exact fun i hi => atm_of (this ⟨i, hi⟩)
theorem plusG_str {x y : Str} (h : x.length + y.length ≤ 16777216) : plusG (.str x) (.str y) = some (.str (x ++ y)) := by
  have h : x.length + y.length ≤ sizeLine := by rw [sizeLine_eq]; exact h
  have e : addS (.str x) (.str y) = some (.str (x ++ y)) := if_pos h
  unfold plusG orG
  rw [e]
  rfl
theorem compE_of2 {vs : List Nat} {tg : Tgt} {fi : E (List D)} {ft : E Bool} {fe : E D} {env : Env} {S S1 : Sto} {ds ys : List D} (hi : fi env S = .ok ds S1) (hl : ds.length ≤ 100) (h : compL tg ft fe ds (wipeE env vs) S1 = .ok ys S1) : compE vs tg fi ft fe env S = .ok (.lst ys) S1 := by
  unfold compE bindE
  rw [hi]
  show (if sz ds.length then _ else _) = _
  rw [if_pos (sz_of (by omega))]
  rw [h]
  rfl
section
variable {S : Sto} {n : Nat} {p : Pot} {K T F : D} {ks : List Str} {ts fs : List D}
theorem r7 (cs : Cs) (hf : Fine K T F) (h : Rows K T F ks ts fs) (w : Int) : FineE (R7 cs (spE n K T F w) (S.set n (potC p))) S n := by
  obtain ⟨d1, c1, e1⟩ := cut1 h.t
  obtain ⟨k0, kr, rfl⟩ : ∃ k0 kr, ks = k0 :: kr := by
    have := h.k1
    cases ks with
    | nil => simp at this
    | cons a b => exact ⟨a, b, rfl⟩
  have i0 : ixG K (.int 0) = some (.str k0) := ix_0 h.k
  have rK := row_rs h.k
  have rT := hf.uT.rs
  have rF := hf.uF.rs
  have lF := row_list h.f
  have t1 : (ts.take 1).length ≤ 1 := by simp; omega
  have mt : ∀ x ∈ ts.take 1, x ∈ ts := fun x hx => List.take_subset _ _ hx
  have hc : compX [6] (tgNS 6) (slE cutA (vF 3) noPart (partE (kE (.int 1)))) yesE (tupE (consE (opE ixG (vB 6) (kE (.int 0))) (consE (opE ixG (vB 6) (kE (.int 1))) (consE (opE ixG (vB 2) (kE (.int 0))) nilE)))) (spE n K T F w) (S.set n (potC p)) = .ok (.lst ((ts.take 1).map fun x => .tup [fst x, snd x, .str k0])) (S.set n (potC p)) := by
    refine compX_seq (d := d1) (row_it e1) (by omega) (fun x => .tup [fst x, snd x, .str k0]) ?_ fun x hx => ?_
    · simp [defF, bodyF, frame, seqS, iffS, RS.bind, R.st, tst, opE, bindE, kE, R.bind, R.get, vB, vF, retS, retV, kOk, skipS, callE, consF, consM, cellV, nilW, b1E, asB, setS, ownS, ownS.isRef, frzS, tupE, lstE, consE, nilE, partE, noPart, slE, asI, rT, c1]
    · obtain ⟨⟨nm, pl, tl, er, _⟩, ux⟩ := h.ta x (mt x hx)
      have j0 := ix_0 er
      have j1 := ix_1 er
      have rx := ux.rs
      have f1 : fst x = nm := by unfold fst; rw [er]
      have f2 : snd x = pl := by unfold snd; rw [er]
      simp [defF, bodyF, frame, seqS, iffS, RS.bind, R.st, tst, opE, bindE, kE, R.bind, R.get, vB, vF, retS, retV, kOk, skipS, callE, consF, consM, cellV, nilW, b1E, asB, setS, ownS, ownS.isRef, frzS, tupE, lstE, consE, nilE, partE, noPart, setE, wipeE, rx, j0, j1, rK, i0, s3t, f1, f2]
  have pg : plusG (.lst fs) (.lst ((ts.take 1).map fun x => .tup [fst x, snd x, .str k0])) = some (.lst (fs ++ (ts.take 1).map fun x => .tup [fst x, snd x, .str k0])) := plusG_L (sz_of (by have := h.f8; rw [List.length_map]; omega))
  refine ⟨K, T, .lst (fs ++ (ts.take 1).map fun x => .tup [fst x, snd x, .str k0]), p, ?_, ⟨hf.uK, hf.uT, .lst ?_ fun y hy => ?_, hf.nK⟩⟩
  · unfold R7
    generalize compX [6] (tgNS 6) (slE cutA (vF 3) noPart (partE (kE (.int 1)))) yesE (tupE (consE (opE ixG (vB 6) (kE (.int 0))) (consE (opE ixG (vB 6) (kE (.int 1))) (consE (opE ixG (vB 2) (kE (.int 0))) nilE)))) = f1 at hc ⊢
    generalize ((ts.take 1).map fun x => D.tup [fst x, snd x, .str k0]) = zs at hc pg ⊢
    simp [defF, bodyF, frame, seqS, iffS, RS.bind, R.st, tst, opE, bindE, kE, R.bind, R.get, vB, vF, retS, retV, kOk, skipS, callE, consF, consM, cellV, nilW, b1E, asB, setS, ownS, ownS.isRef, frzS, tupE, lstE, consE, nilE, partE, noPart, rF, lF, hc, pg, s3t, bookT]
  · have w3 : wid 3 = 20 := rfl
    have := h.f8
    rw [List.length_append, List.length_map]
    omega
  · rcases List.mem_append.mp hy with z | z
    · exact (h.fa y z).2
    · obtain ⟨x, hx, rfl⟩ := List.mem_map.mp z
      obtain ⟨⟨nm, pl, tl, er, a1, _⟩, ux⟩ := h.ta x (mt x hx)
      have f1 : fst x = nm := by unfold fst; rw [er]
      have f2 : snd x = pl := by unfold snd; rw [er]
      obtain ⟨_, g⟩ := ux.row' er
      refine .tup (by have : wid 2 = 6 := rfl; simp; omega) fun v hv => ?_
      rcases List.mem_cons.mp hv with q | hv
      · rw [q, f1]; exact .at a1
      · rcases List.mem_cons.mp hv with q | hv
        · rw [q, f2]; exact g pl (by simp)
        · rw [List.mem_singleton.mp hv]; exact .at (h.ka k0 (by simp))
def mG (d : D) : D := match d with
  | .int i => .tup [.str (("m" : Str) ++ ⟨#[97 + i.toNat]⟩), .lst []]
  | _ => .non
theorem r8 (cs : Cs) (hn : n < S.length) (hf : Fine K T F) (h : Rows K T F ks ts fs) (w : Int) : ∃ (K' T' F' : D) (q : Pot), R8 cs (spE n K T F w) (S.set n (potC p)) = .rt .frz (bookT K' T' F') (S.set n (potC q)) ∧ Fine K' T' F' := by
  obtain ⟨j0, j1⟩ := drawI_lt p (show (0 : Int) < 9 by decide)
  have dr := draw_set cs (p := p) hn 9 (by decide) (by decide)
  obtain ⟨m, em⟩ := Int.eq_ofNat_of_zero_le j0
  rw [em] at dr j1
  have hm : m ≤ 8 := by omega
  have s0 : sz 0 = true := sz_of (by omega)
  have s2 : sz 2 = true := sz_of (by omega)
  have rg := rng1_nat (k := m) (by omega)
  let fe : E D := tupE (consE (opE plusG (kE (.str "m")) (opE ixG (kE (.str "abcdefgh")) (vB 8))) (consE (lstE nilE) nilE))
  have hc : compE [8] (tgN 8) (getE rng1 (callE (F_l_draw cs) (consM 0 (consF (kE (.int 9)) nilW)))) yesE fe (spE n K T F w) (S.set n (potC p)) = .ok (.lst (((List.range m).map fun i => D.int (i : Nat)).map mG)) (S.set n (potC (drawP p 9))) := by
    refine compE_of2 (ds := (List.range m).map fun i => D.int (i : Nat)) ?_ (by simp; omega) (compL_pure mG (fun d => [(8, d)]) fun d hd => ⟨rfl, ?_⟩)
    · simp [getE, defF, bodyF, frame, seqS, iffS, RS.bind, R.st, tst, opE, bindE, kE, R.bind, R.get, vB, vF, retS, retV, kOk, skipS, callE, consF, consM, cellV, nilW, b1E, asB, setS, ownS, ownS.isRef, frzS, tupE, lstE, consE, nilE, partE, noPart, dr, rg]
    · obtain ⟨i, hi, rfl⟩ := List.mem_map.mp hd
      have hi : i < 8 := by have := List.mem_range.mp hi; omega
      have ix : ixG (.str "abcdefgh") (.int (i : Nat)) = some (.str ⟨#[97 + i]⟩) := abc8_ix hi
      have pg : plusG (.str "m") (.str ⟨#[97 + i]⟩) = some (.str (("m" : Str) ++ ⟨#[97 + i]⟩)) := plusG_str (by
        have : ("m" : Str).length = 1 := by decide +kernel
        rw [this]
        show 1 + 1 ≤ _
        omega)
      simp [fe, defF, bodyF, frame, seqS, iffS, RS.bind, R.st, tst, opE, bindE, kE, R.bind, R.get, vB, vF, retS, retV, kOk, skipS, callE, consF, consM, cellV, nilW, b1E, asB, setS, ownS, ownS.isRef, frzS, tupE, lstE, consE, nilE, partE, noPart, setE, wipeE, ix, pg, s0, s2, mG]
  have rT := hf.uT.rs
  have lT := row_list h.t
  have pg : plusG (.lst ts) (.lst (((List.range m).map fun i => D.int (i : Nat)).map mG)) = some (.lst (ts ++ ((List.range m).map fun i => D.int (i : Nat)).map mG)) := plusG_L (sz_of (by have := h.t8; simp; omega))
  have eB : R8 cs = seqS (ownS 7 (compE [8] (tgN 8) (getE rng1 (callE (F_l_draw cs) (consM 0 (consF (kE (.int 9)) nilW)))) yesE fe)) (seqS (frzS 7) (retS .frz (tupE (consE (vF 2) (consE (opE plusG (b1E listD (vB 3)) (vF 7)) (consE (vF 4) nilE)))))) := rfl
  refine ⟨K, .lst (ts ++ ((List.range m).map fun i => D.int (i : Nat)).map mG), F, drawP p 9, ?_, ⟨hf.uK, .lst ?_ fun y hy => ?_, hf.uF, hf.nK⟩⟩
  · rw [eB]
    generalize compE [8] (tgN 8) (getE rng1 (callE (F_l_draw cs) (consM 0 (consF (kE (.int 9)) nilW)))) yesE fe = f1 at hc ⊢
    generalize ((List.range m).map fun i => D.int (i : Nat)).map mG = zs at hc pg ⊢
    simp [defF, bodyF, frame, seqS, iffS, RS.bind, R.st, tst, opE, bindE, kE, R.bind, R.get, vB, vF, retS, retV, kOk, skipS, callE, consF, consM, cellV, nilW, b1E, asB, setS, ownS, ownS.isRef, frzS, tupE, lstE, consE, nilE, partE, noPart, hc, rT, lT, pg, s3t, bookT]
  · have w3 : wid 3 = 20 := rfl
    have := h.t8
    simp
    omega
  · rcases List.mem_append.mp hy with z | z
    · exact (h.ta y z).2
    · obtain ⟨d, hd, rfl⟩ := List.mem_map.mp z
      obtain ⟨i, hi, rfl⟩ := List.mem_map.mp hd
      have hi : i < 8 := by have := List.mem_range.mp hi; omega
      refine .tup (by have : wid 2 = 6 := rfl; simp; omega) fun v hv => ?_
      rcases List.mem_cons.mp hv with q | hv
      · rw [q]; exact .at (m_atm i hi)
      · rw [List.mem_singleton.mp hv]; exact .lst (by decide) fun _ q => by cases q
theorem sp_ret (cs : Cs) {w c : Int} {Rr : E D} {rest : Stm} {d : D} {S1 S2 : Sto} (e : w = c) (h : Rr (spE n K T F w) S1 = .ok d S2) : seqS (iffS (isW c) (retS .frz Rr) skipS) rest (spE n K T F w) S1 = .rt .frz d S2 := by
  subst e
  have e0 : eqG false (.int w) (.int w) = some (.bl true) := by rw [eqG_int]; simp
  simp [isW, defF, bodyF, frame, seqS, iffS, RS.bind, R.st, tst, opE, bindE, kE, R.bind, R.get, vB, vF, retS, retV, kOk, skipS, callE, consF, consM, cellV, nilW, b1E, asB, setS, ownS, ownS.isRef, frzS, tupE, lstE, consE, nilE, partE, noPart, e0, h]
theorem sp_skip (cs : Cs) {w c : Int} {Rr : E D} {rest : Stm} {S1 : Sto} (e : w ≠ c) : seqS (iffS (isW c) (retS .frz Rr) skipS) rest (spE n K T F w) S1 = rest (spE n K T F w) S1 := by
  have e0 : eqG false (.int w) (.int c) = some (.bl false) := by
    rw [eqG_int]
    simp [e]
  simp [isW, defF, bodyF, frame, seqS, iffS, RS.bind, R.st, tst, opE, bindE, kE, R.bind, R.get, vB, vF, retS, retV, kOk, skipS, callE, consF, consM, cellV, nilW, b1E, asB, setS, ownS, ownS.isRef, frzS, tupE, lstE, consE, nilE, partE, noPart, e0]
theorem sp_ok (cs : Cs) (hn : n < S.length) (hf : Fine K T F) (h : Rows K T F ks ts fs) (w : Int) (w0 : 0 ≤ w) (w9 : w < 9) : ∃ (K' T' F' : D) (q : Pot), spB cs (spE n K T F w) (S.set n (potC p)) = .rt .frz (bookT K' T' F') (S.set n (potC q)) ∧ Fine K' T' F' := by
  unfold spB
  by_cases e0 : w = 0
  · obtain ⟨a, b, c, q, r, f⟩ := r0 (p := p) cs hn hf h w
    exact ⟨a, b, c, q, sp_ret cs e0 r, f⟩
  rw [sp_skip cs e0]
  by_cases e1 : w = 1
  · obtain ⟨a, b, c, q, r, f⟩ := r1 (p := p) cs hn hf h w
    exact ⟨a, b, c, q, sp_ret cs e1 r, f⟩
  rw [sp_skip cs e1]
  by_cases e2 : w = 2
  · obtain ⟨a, b, c, q, r, f⟩ := r2 (p := p) cs hn hf h w
    exact ⟨a, b, c, q, sp_ret cs e2 r, f⟩
  rw [sp_skip cs e2]
  by_cases e3 : w = 3
  · obtain ⟨a, b, c, q, r, f⟩ := r3 (p := p) cs hn hf w
    exact ⟨a, b, c, q, sp_ret cs e3 r, f⟩
  rw [sp_skip cs e3]
  by_cases e4 : w = 4
  · obtain ⟨a, b, c, q, r, f⟩ := r4 (p := p) cs hn hf w
    exact ⟨a, b, c, q, sp_ret cs e4 r, f⟩
  rw [sp_skip cs e4]
  by_cases e5 : w = 5
  · obtain ⟨a, b, c, q, r, f⟩ := r5 (p := p) cs hn hf h w
    exact ⟨a, b, c, q, sp_ret cs e5 r, f⟩
  rw [sp_skip cs e5]
  by_cases e6 : w = 6
  · obtain ⟨a, b, c, q, r, f⟩ := r6 (p := p) cs hn hf h w
    exact ⟨a, b, c, q, sp_ret cs e6 r, f⟩
  rw [sp_skip cs e6]
  by_cases e7 : w = 7
  · obtain ⟨a, b, c, q, r, f⟩ := r7 (S := S) (n := n) (p := p) cs hf h w
    exact ⟨a, b, c, q, sp_ret cs e7 r, f⟩
  rw [sp_skip cs e7]
  exact r8 cs hn hf h w
theorem spoilt_ok (cs : Cs) (hn : n < S.length) (hf : Fine K T F) (hb : bookB K T F = true) : ∃ (K' T' F' : D) (q : Pot), F_l_spoilt cs [.m n, .f (bookT K T F)] (S.set n (potC p)) = .ok (bookT K' T' F') (S.set n (potC q)) ∧ Fine K' T' F' := by
  obtain ⟨b, bo⟩ := book_inv hb
  obtain ⟨ks, ts, fs, rows⟩ := rows_of hf bo
  obtain ⟨j0, j1⟩ := drawI_lt p (show (0 : Int) < 9 by decide)
  have dr := draw_set cs (p := p) hn 9 (by decide) (by decide)
  obtain ⟨a, b, c, q, r, f⟩ := sp_ok (p := drawP p 9) cs hn hf rows (drawI p 9) j0 j1
  refine ⟨a, b, c, q, ?_, f⟩
  have tg : tgT [2, 3, 4] (bookT K T F) = some [(2, K), (3, T), (4, F)] := rfl
  unfold F_l_spoilt
  rw [eB_spoilt]
  generalize spB cs = f1 at r ⊢
  simp only [spE] at r
  simp [defF, bodyF, frame, seqS, iffS, RS.bind, R.st, tst, opE, bindE, kE, R.bind, R.get, vB, vF, retS, retV, kOk, skipS, callE, consF, consM, cellV, nilW, b1E, asB, setS, ownS, ownS.isRef, frzS, tupE, lstE, consE, nilE, partE, noPart, tupS, tg, setE, dr, r, take_set]
end
end Fw

set_option  maxHeartbeats 4000000
namespace Fw
open PySem L2

/-! ### a book drawn is fine -/
theorem nmP_atm {x : Str} (h : NmP x) : Atm (.str x) := by
  have l : x.length ≤ 12 := by
    have := h.1
    unfold nameB at this
    simp only [Bool.and_eq_true, List.all_eq_true, decide_eq_true_eq] at this
    exact this.1.2
  exact .str (low_ok h.2) (by omega) (low_gd h.2 l)
theorem drawn_fine {b : Bk} (ok : b.Ok NmP SgP) : Fine (txL b.kinds) (.lst (b.ties.map tieL)) (.lst (b.funs.map funL)) := by
  have ln := ok.s8
  unfold Bk.names at ln
  rw [List.length_append, List.length_map, List.length_map] at ln
  have w0 : wid 0 = 6 := rfl
  have w1 : wid 1 = 6 := rfl
  have w2 : wid 2 = 6 := rfl
  have w3 : wid 3 = 20 := rfl
  have k4 := ok.k4
  have ka : ∀ x ∈ b.kinds, Atm (.str x) := fun x hx => nmP_atm (ok.km x hx)
  have pl : ∀ ps : List Str, Pl b.kinds ps → Uv 2 (txL ps) := fun ps h => .lst (by have := h.1; simp; omega) (strs_uv (fun q hq => ka q (h.2 q hq)) 1)
  refine ⟨.lst (by simp; omega) (strs_uv ka 3), .lst (by simp; omega) fun y hy => ?_, .lst (by simp; omega) fun y hy => ?_, noT_lst _⟩
  · obtain ⟨t, ht, rfl⟩ := List.mem_map.mp hy
    refine .tup (by simp; omega) fun v hv => ?_
    rcases List.mem_cons.mp hv with q | hv
    · rw [q]; exact .at (nmP_atm (ok.sm t.1 (List.mem_append_left _ (List.mem_map.mpr ⟨t, ht, rfl⟩))).nm)
    · rw [List.mem_singleton.mp hv]; exact pl t.2 (ok.tp t ht)
  · obtain ⟨t, ht, rfl⟩ := List.mem_map.mp hy
    refine .tup (by simp; omega) fun v hv => ?_
    rcases List.mem_cons.mp hv with q | hv
    · rw [q]; exact .at (nmP_atm (ok.sm t.1 (List.mem_append_right _ (List.mem_map.mpr ⟨t, ht, rfl⟩))).nm)
    · rcases List.mem_cons.mp hv with q | hv
      · rw [q]; exact pl t.2.1 (ok.fp t ht).1
      · rw [List.mem_singleton.mp hv]; exact .at (ka _ (ok.fp t ht).2)
theorem seq_nx {a b : Stm} {env env' : Env} {S S' : Sto} (h : a env S = .nx env' S') : seqS a b env S = b env' S' := by
  show (a env S).bind b = _
  rw [h]
  rfl
theorem forL_one {tg : Tgt} {body : Stm} {d : D} {xs : List D} {env env' : Env} {S S' : Sto} {us : List (Nat × D)} (ht : tg d = some us) (hb : body (setE env us) S = .nx env' S') : forL tg body (d :: xs) env S = forL tg body xs env' S' := by
  show (match tg d with | none => RS.no | some us => (body (setE env us) S).bind (forL tg body xs)) = _
  rw [ht]
  dsimp only
  rw [hb]
  rfl
/-! ### a turn -/
def isBk (cs : Cs) : E D := callE (F_l_is_book cs) (consF (opE ixG (vB 3) (kE (.int 0))) (consF (opE ixG (vB 3) (kE (.int 1))) (consF (opE ixG (vB 3) (kE (.int 2))) nilW)))
def innB (cs : Cs) : Stm := iffS (tst (isBk cs)) (setS 3 (callE (F_l_spoilt cs) (consM 2 (consF (vF 3) nilW)))) skipS
def L1 (cs : Cs) : Stm := ownS 2 (callE (F_l_pot cs) (consF (vF 1) nilW))
def L3 (cs : Cs) : Stm := setS 3 (callE (F_l_book cs) (consM 2 (consF (kE (.int 4)) (consF (kE (.int 8)) nilW))))
def L4 (cs : Cs) : Stm := forS (tgN 4) (getE rng1 (callE (F_l_draw cs) (consM 2 (consF (kE (.int 3)) nilW)))) (innB cs)
def L5 : Stm := setS 5 (reprQE (vF 3))
noncomputable def L6 (cs : Cs) : Stm := iffS (orB (tst (opE (eqG true) (callE (F_l_told cs) (consF (vF 3) nilW)) (b1E intD (isBk cs)))) (tst (opE (eqG true) (reprQE (vF 3)) (vB 5)))) (retS .frz (kE (.bl false))) skipS
noncomputable def trn (cs : Cs) : Stm := seqS (L1 cs) (seqS (celS 2) (seqS (L3 cs) (seqS (L4 cs) (seqS L5 (L6 cs)))))
abbrev lE (scr : D) (w1 w2 w3 w4 w5 : Option W) : Env := [some (.f scr), w1, w2, w3, w4, w5]
section
variable {S : Sto} {n : Nat} {p : Pot} {K T F scr : D} {w1 w2 w3 w4 w5 : Option W}
theorem isBk_ok (cs : Cs) (hf : Fine K T F) (S : Sto) : isBk cs (lE scr w1 w2 (some (.f (bookT K T F))) w4 w5) S = .ok (.bl (bookB K T F)) S := by
  have h := is_book_u cs hf.uK hf.uT hf.uF hf.nK S
  have i0 : ixG (bookT K T F) (.int 0) = some K := rfl
  have i1 : ixG (bookT K T F) (.int 1) = some T := rfl
  have i2 : ixG (bookT K T F) (.int 2) = some F := rfl
  have rb : ∀ S, rs S (bookT K T F) = some (bookT K T F) := fun _ => rfl
  simp [isBk, defF, bodyF, frame, seqS, iffS, RS.bind, R.st, tst, opE, bindE, kE, R.bind, R.get, vB, vF, retS, retV, kOk, skipS, callE, consF, consM, cellV, nilW, b1E, asB, setS, ownS, ownS.isRef, frzS, tupE, lstE, consE, nilE, partE, noPart, rb, i0, i1, i2, h]
theorem inn_ok (cs : Cs) (hn : n < S.length) (hf : Fine K T F) : ∃ (K' T' F' : D) (q : Pot), innB cs (lE scr w1 (some (.m n)) (some (.f (bookT K T F))) w4 w5) (S.set n (potC p)) = .nx (lE scr w1 (some (.m n)) (some (.f (bookT K' T' F'))) w4 w5) (S.set n (potC q)) ∧ Fine K' T' F' := by
  have h := isBk_ok (scr := scr) (w1 := w1) (w2 := some (.m n)) (w4 := w4) (w5 := w5) cs hf (S.set n (potC p))
  unfold innB
  cases e : bookB K T F with
  | false =>
    rw [e] at h
    refine ⟨K, T, F, p, ?_, hf⟩
    generalize isBk cs = f1 at h ⊢
    simp [defF, bodyF, frame, seqS, iffS, RS.bind, R.st, tst, opE, bindE, kE, R.bind, R.get, vB, vF, retS, retV, kOk, skipS, callE, consF, consM, cellV, nilW, b1E, asB, setS, ownS, ownS.isRef, frzS, tupE, lstE, consE, nilE, partE, noPart, h]
  | true =>
    rw [e] at h
    obtain ⟨K', T', F', q, r, f⟩ := spoilt_ok (p := p) cs hn hf e
    refine ⟨K', T', F', q, ?_, f⟩
    generalize isBk cs = f1 at h ⊢
    simp [defF, bodyF, frame, seqS, iffS, RS.bind, R.st, tst, opE, bindE, kE, R.bind, R.get, vB, vF, retS, retV, kOk, skipS, callE, consF, consM, cellV, nilW, b1E, asB, setS, ownS, ownS.isRef, frzS, tupE, lstE, consE, nilE, partE, noPart, h, r]
theorem inns_ok (cs : Cs) (hn : n < S.length) : ∀ (ds : List D) (K T F : D) (p : Pot) (w4 : Option W), Fine K T F → ∃ (K' T' F' : D) (q : Pot) (w4' : Option W), forL (tgN 4) (innB cs) ds (lE scr w1 (some (.m n)) (some (.f (bookT K T F))) w4 w5) (S.set n (potC p)) = .nx (lE scr w1 (some (.m n)) (some (.f (bookT K' T' F'))) w4' w5) (S.set n (potC q)) ∧ Fine K' T' F'
  | [], K, T, F, p, w4, hf => ⟨K, T, F, p, w4, rfl, hf⟩
  | d :: ds, K, T, F, p, w4, hf => by
    obtain ⟨K1, T1, F1, q1, h1, f1⟩ := inn_ok (scr := scr) (w1 := w1) (w4 := some (.f d)) (w5 := w5) (p := p) cs hn hf
    obtain ⟨K2, T2, F2, q2, v4, h2, f2⟩ := inns_ok cs hn ds K1 T1 F1 q1 (some (.f d)) f1
    exact ⟨K2, T2, F2, q2, v4, (forL_one (us := [(4, d)]) rfl h1).trans h2, f2⟩
theorem trn_ok (cs : Cs) (S : Sto) (x : Int) : ∃ (S' : Sto) (v2 v3 v4 v5 : Option W), trn cs (lE scr (some (.f (.int x))) w2 w3 w4 w5) S = .nx (lE scr (some (.f (.int x))) v2 v3 v4 v5) S' := by
  obtain ⟨p0, hp⟩ := pot_ok cs x S
  have h1 : L1 cs (lE scr (some (.f (.int x))) w2 w3 w4 w5) S = .nx (lE scr (some (.f (.int x))) (some (.o (.lst [.int p0.1, .int p0.2, .int 0]))) w3 w4 w5) S := by
    simp [L1, defF, bodyF, frame, seqS, iffS, RS.bind, R.st, tst, opE, bindE, kE, R.bind, R.get, vB, vF, retS, retV, kOk, skipS, callE, consF, consM, cellV, nilW, b1E, asB, setS, ownS, ownS.isRef, frzS, tupE, lstE, consE, nilE, partE, noPart, hp]
  let S1 : Sto := S ++ [potC p0]
  have h2 : celS 2 (lE scr (some (.f (.int x))) (some (.o (.lst [.int p0.1, .int p0.2, .int 0]))) w3 w4 w5) S = .nx (lE scr (some (.f (.int x))) (some (.m S.length)) w3 w4 w5) S1 := rfl
  have hS1 : S1[S.length]? = some (potC p0) := by simp [S1]
  have hn : S.length < S1.length := by simp [S1]
  obtain ⟨b, q1, hb, ok, _⟩ := book_ok cs hS1 4 8 (by decide) (by decide) (by decide)
  have hb : F_l_book cs [.m S.length, .f (.int 4), .f (.int 8)] S1 = .ok (bookT (txL b.kinds) (.lst (b.ties.map tieL)) (.lst (b.funs.map funL))) (S1.set S.length (potC q1)) := hb
  have hf := drawn_fine ok
  generalize txL b.kinds = K at hb hf
  generalize D.lst (b.ties.map tieL) = T at hb hf
  generalize D.lst (b.funs.map funL) = F at hb hf
  have h3 : L3 cs (lE scr (some (.f (.int x))) (some (.m S.length)) w3 w4 w5) S1 = .nx (lE scr (some (.f (.int x))) (some (.m S.length)) (some (.f (bookT K T F))) w4 w5) (S1.set S.length (potC q1)) := by
    generalize S1 = S2 at hb ⊢
    simp [L3, defF, bodyF, frame, seqS, iffS, RS.bind, R.st, tst, opE, bindE, kE, R.bind, R.get, vB, vF, retS, retV, kOk, skipS, callE, consF, consM, cellV, nilW, b1E, asB, setS, ownS, ownS.isRef, frzS, tupE, lstE, consE, nilE, partE, noPart, hb]
  obtain ⟨j0, j1⟩ := drawI_lt q1 (show (0 : Int) < 3 by decide)
  have dr := draw_set cs (p := q1) hn 3 (by decide) (by decide)
  obtain ⟨m, em⟩ := Int.eq_ofNat_of_zero_le j0
  rw [em] at dr j1
  have rg := rng1_nat (k := m) (by omega)
  obtain ⟨K', T', F', q2, v4, hl, ff⟩ := inns_ok (scr := scr) (w1 := some (.f (.int x))) (w5 := w5) cs hn ((List.range m).map fun i => D.int (i : Nat)) K T F (drawP q1 3) w4 hf
  have h4 : L4 cs (lE scr (some (.f (.int x))) (some (.m S.length)) (some (.f (bookT K T F))) w4 w5) (S1.set S.length (potC q1)) = .nx (lE scr (some (.f (.int x))) (some (.m S.length)) (some (.f (bookT K' T' F'))) v4 w5) (S1.set S.length (potC q2)) := by
    unfold L4 forS
    have : getE rng1 (callE (F_l_draw cs) (consM 2 (consF (kE (.int 3)) nilW))) (lE scr (some (.f (.int x))) (some (.m S.length)) (some (.f (bookT K T F))) w4 w5) (S1.set S.length (potC q1)) = .ok ((List.range m).map fun i => D.int (i : Nat)) (S1.set S.length (potC (drawP q1 3))) := by
      simp [getE, defF, bodyF, frame, seqS, iffS, RS.bind, R.st, tst, opE, bindE, kE, R.bind, R.get, vB, vF, retS, retV, kOk, skipS, callE, consF, consM, cellV, nilW, b1E, asB, setS, ownS, ownS.isRef, frzS, tupE, lstE, consE, nilE, partE, noPart, dr, rg]
    rw [this]
    exact hl
  obtain ⟨t, ht, so⟩ := book_repr ff.uK ff.uT ff.uF
  let Se := S1.set S.length (potC q2)
  have hr : ∀ w5 : Option W, reprQE (vF 3) (lE scr (some (.f (.int x))) (some (.m S.length)) (some (.f (bookT K' T' F'))) v4 w5) Se = .ok (.str t) Se := fun w5 => by
    show R.get (reprQ (bookT K' T' F')) Se = _
    rw [ht]
    rfl
  have h5 : L5 (lE scr (some (.f (.int x))) (some (.m S.length)) (some (.f (bookT K' T' F'))) v4 w5) Se = .nx (lE scr (some (.f (.int x))) (some (.m S.length)) (some (.f (bookT K' T' F'))) v4 (some (.f (.str t)))) Se := by
    unfold L5
    have hr := hr w5
    generalize reprQE (vF 3) = f1 at hr ⊢
    generalize Se = S2 at hr ⊢
    simp [defF, bodyF, frame, seqS, iffS, RS.bind, R.st, tst, opE, bindE, kE, R.bind, R.get, vB, vF, retS, retV, kOk, skipS, callE, consF, consM, cellV, nilW, b1E, asB, setS, ownS, ownS.isRef, frzS, tupE, lstE, consE, nilE, partE, noPart, hr]
  have hz : 0 < Se.length := by simp [Se, S1]
  have td := told_ok cs ff.uK ff.uT ff.uF hz
  have ib := isBk_ok (scr := scr) (w1 := some (.f (.int x))) (w2 := some (.m S.length)) (w4 := v4) (w5 := some (.f (.str t))) cs ff Se
  have it : intD (.bl (bookB K' T' F')) = some (.int (if bookB K' T' F' then 1 else 0)) := by
    cases bookB K' T' F' <;> rfl
  have e0 : eqG true (.int (if bookB K' T' F' then 1 else 0)) (.int (if bookB K' T' F' then 1 else 0)) = some (.bl false) := by
    rw [eqG_int]; simp
  have es := eqG_str true so so
  have h6 : L6 cs (lE scr (some (.f (.int x))) (some (.m S.length)) (some (.f (bookT K' T' F'))) v4 (some (.f (.str t)))) Se = .nx (lE scr (some (.f (.int x))) (some (.m S.length)) (some (.f (bookT K' T' F'))) v4 (some (.f (.str t)))) Se := by
    unfold L6
    have hr := hr (some (.f (.str t)))
    generalize reprQE (vF 3) = f1 at hr ⊢
    generalize isBk cs = f2 at ib ⊢
    generalize Se = S2 at hr ib td ⊢
    generalize (if bookB K' T' F' then (1 : Int) else 0) = v at it e0 td
    simp [defF, bodyF, frame, seqS, iffS, RS.bind, R.st, tst, opE, bindE, kE, R.bind, R.get, vB, vF, retS, retV, kOk, skipS, callE, consF, consM, cellV, nilW, b1E, asB, setS, ownS, ownS.isRef, frzS, tupE, lstE, consE, nilE, partE, noPart, andE, orE, notE, andB, orB, notB, ifE, td, ib, it, e0, hr, es]
  refine ⟨Se, some (.m S.length), some (.f (bookT K' T' F')), v4, some (.f (.str t)), ?_⟩
  unfold trn
  rw [seq_nx h1, seq_nx h2, seq_nx h3, seq_nx h4, seq_nx h5, h6]
theorem trns_ok (cs : Cs) : ∀ (xs : List Int) (S : Sto) (w1 w2 w3 w4 w5 : Option W), ∃ (env' : Env) (S' : Sto), forL (tgN 1) (trn cs) (xs.map D.int) (lE scr w1 w2 w3 w4 w5) S = .nx env' S'
  | [], S, w1, w2, w3, w4, w5 => ⟨_, _, rfl⟩
  | x :: xs, S, w1, w2, w3, w4, w5 => by
    obtain ⟨S1, v2, v3, v4, v5, h⟩ := trn_ok (scr := scr) (w2 := w2) (w3 := w3) (w4 := w4) (w5 := w5) cs S x
    obtain ⟨env', S', h2⟩ := trns_ok cs xs S1 (some (.f (.int x))) v2 v3 v4 v5
    exact ⟨env', S', by rw [List.map_cons, forL_one (us := [(1, .int x)]) rfl h]; exact h2⟩
end
theorem plain (cs : Cs) (ns : List Int) (hn : ns.length ≤ 63) : ∃ S2, F_law cs [.f (.scr ns)] [.hp []] = .ok (.bl true) S2 := by
  obtain ⟨x0, hc⟩ := cell_ok cs ns [.hp []]
  let fe : E D := opE plusG (lstE (consE (callE (F_l_cell cs) (consF (vF 0) (consF (kE (.int 0)) nilW))) nilE)) (slE cutA (vF 0) (partE (kE (.int 1))) (partE (kE (.int 8))))
  have eB : B_law cs = seqS (forX (tgNS 1) fe (trn cs)) (retS .frz (kE (.bl true))) := rfl
  let env0 : Env := [some (.f (.scr ns)), none, none, none, none, none]
  have hf : ∃ xs : List Int, fe env0 [.hp []] = .ok (.lst (xs.map D.int)) [.hp []] := by
    have ct : cutA (.scr ns) (some 1) (some 8) = some (.lst ((cutL ns (some 1) (some 8)).map D.int)) := rfl
    have cl : (cutL ns (some 1) (some 8)).length ≤ 63 := by
      unfold cutL
      rw [List.length_take, List.length_drop]
      omega
    generalize cutL ns (some 1) (some 8) = ys at ct cl
    have pl : plusG (.lst [.int x0]) (.lst (ys.map D.int)) = some (.lst ((x0 :: ys).map D.int)) := plusG_L (sz_of (by rw [List.length_map]; show 1 + _ ≤ _; omega))
    have s1 : sz 1 = true := sz_of (by omega)
    refine ⟨x0 :: ys, ?_⟩
    simp only [fe, env0]
    simp [defF, bodyF, frame, seqS, iffS, RS.bind, R.st, tst, opE, bindE, kE, R.bind, R.get, vB, vF, retS, retV, kOk, skipS, callE, consF, consM, cellV, nilW, b1E, asB, setS, ownS, ownS.isRef, frzS, tupE, lstE, consE, nilE, partE, noPart, slE, hc, s1, asI, ct, pl]
  obtain ⟨xs, hf⟩ := hf
  obtain ⟨env', S', h⟩ := trns_ok (scr := .scr ns) cs xs [.hp []] none none none none none
  have fx : forX (tgNS 1) fe (trn cs) env0 [.hp []] = forL (tgN 1) (trn cs) (xs.map D.int) env0 [.hp []] := forX_L (d := .lst (xs.map D.int)) hf rfl rfl
  rw [h] at fx
  refine ⟨S'.take 1, ?_⟩
  unfold F_law
  rw [eB]
  generalize forX (tgNS 1) fe (trn cs) = fo at fx ⊢
  simp only [env0] at fx
  simp [defF, bodyF, frame, seqS, iffS, RS.bind, R.st, tst, opE, bindE, kE, R.bind, R.get, vB, vF, retS, retV, kOk, skipS, callE, consF, consM, cellV, nilW, b1E, asB, setS, ownS, ownS.isRef, frzS, tupE, lstE, consE, nilE, partE, noPart, fx]
end Fw

open PySem PySem.W PyProof.Rows in
set_option maxRecDepth 100000 in
set_option maxHeartbeats 0 in
theorem PySem.Challenge.cw_fewthings_k12_whole_books_judged_holds : PySem.Challenge.rw_fewthings_k12_whole_books_judged.Holds := by
  w_on; o_law; k_head; (case hw => w_witness2)
  k_fill
  refine Fw.walkC (l := PySem.Challenge.rw_fewthings_k12_whole_books_judged) (n := 63) (k := 8) rfl (by decide) rfl ⟨rfl, by decide, by decide⟩ (fun w h Y => PySem.W.kIn_of Y) ?F
  case F =>
    intro w mg fa h KX G hmg
    refine' Fw.finish KX G hmg Fw.plain ?aC_Signs ?a_l_pot ?l_l_pot ?c_l_pot ?k_l_pot ?a_l_draw ?l_l_draw ?c_l_draw ?k_l_draw ?a_l_unlike ?l_l_unlike ?c_l_unlike ?k_l_unlike ?a_l_book ?l_l_book ?c_l_book ?k_l_book ?a_l_cell ?l_l_cell ?c_l_cell ?k_l_cell ?a_l_row ?l_l_row ?c_l_row ?k_l_row ?a_l_name ?l_l_name ?c_l_name ?k_l_name ?a_l_sign ?l_l_sign ?c_l_sign ?k_l_sign ?a_l_is_book ?l_l_is_book ?c_l_is_book ?k_l_is_book ?a_l_put ?l_l_put ?c_l_put ?k_l_put ?a_l_list_odd ?l_l_list_odd ?c_l_list_odd ?k_l_list_odd ?a_l_odd ?l_l_odd ?c_l_odd ?k_l_odd ?a_l_spoilt_sign ?l_l_spoilt_sign ?c_l_spoilt_sign ?k_l_spoilt_sign ?a_l_spoilt ?l_l_spoilt ?c_l_spoilt ?k_l_spoilt ?a_is_listed ?l_is_listed ?c_is_listed ?k_is_listed ?a_is_name ?l_is_name ?c_is_name ?k_is_name ?a_are_kinds ?l_are_kinds ?c_are_kinds ?k_are_kinds ?a_is_sign_name ?l_is_sign_name ?c_is_sign_name ?k_is_sign_name ?a_is_kind ?l_is_kind ?c_is_kind ?k_is_kind ?a_are_places ?l_are_places ?c_are_places ?k_are_places ?a_is_tie ?l_is_tie ?c_is_tie ?k_is_tie ?a_is_function ?l_is_function ?c_is_function ?k_is_function ?a_are_signs ?l_are_signs ?c_are_signs ?k_are_signs ?a_Signs_ini ?i_Signs_ini ?l_Signs_ini ?c_Signs_ini ?k_Signs_ini ?a_l_just ?l_l_just ?c_l_just ?k_l_just ?a_l_told ?l_l_told ?c_l_told ?k_l_told ?a_law ?l_law ?c_law ?k_law ?pg_Signs ?hd_Signs ?po_Signs ?sa_Signs ?mk_Signs ?kc_Signs ?xg_FewError ?xg_NoNaming ?xg_NoPart ?xg_NoRow ?xg_NoSaying ?xg_NoSigns ?xg_NoSize ?xg_NoText ?xg_NoWorld ?xg_TooMany ?xk_NoSigns ?xi_NoSigns ?xs_NoSigns ?xt_NoSigns ?ehg_NoSigns ?ehk_NoSigns ?ehs_NoSigns ?ehd_NoSigns ?eha_NoSigns ?ehn_NoSigns ?eht_NoSigns ?ehm_NoSigns ?xe_NoSigns ?kt_NoSigns_FewError ?kt_NoSigns_NoNaming_NoPart_NoRow_NoSaying_NoSize_NoText_NoWorld_TooMany ?kt_NoSigns_ValueError ?na_Signs_own_functions ?na_Signs_own_kinds ?na_Signs_own_ties ?z_ValueError ?z_abs ?z_all ?z_divmod ?z_enumerate ?z_int ?z_isinstance ?z_len ?z_list ?z_max ?z_range ?z_repr ?z_set ?z_str ?z_tuple ?v_LETTERS ?v_MOST_KINDS ?v_MOST_LETTERS ?v_MOST_PLACES ?v_MOST_SIGNS ?v_TAKEN ?o_TAKEN
    (case aC_Signs => k_is)
    (case a_l_pot => k_is)
    (case l_l_pot => k_is)
    (case c_l_pot => k_is)
    (case k_l_pot => k_is)
    (case a_l_draw => k_is)
    (case l_l_draw => k_is)
    (case c_l_draw => k_is)
    (case k_l_draw => k_is)
    (case a_l_unlike => k_is)
    (case l_l_unlike => k_is)
    (case c_l_unlike => k_is)
    (case k_l_unlike => k_is)
    (case a_l_book => k_is)
    (case l_l_book => k_is)
    (case c_l_book => k_is)
    (case k_l_book => k_is)
    (case a_l_cell => k_is)
    (case l_l_cell => k_is)
    (case c_l_cell => k_is)
    (case k_l_cell => k_is)
    (case a_l_row => k_is)
    (case l_l_row => k_is)
    (case c_l_row => k_is)
    (case k_l_row => k_is)
    (case a_l_name => k_is)
    (case l_l_name => k_is)
    (case c_l_name => k_is)
    (case k_l_name => k_is)
    (case a_l_sign => k_is)
    (case l_l_sign => k_is)
    (case c_l_sign => k_is)
    (case k_l_sign => k_is)
    (case a_l_is_book => k_is)
    (case l_l_is_book => k_is)
    (case c_l_is_book => k_is)
    (case k_l_is_book => k_is)
    (case a_l_put => k_is)
    (case l_l_put => k_is)
    (case c_l_put => k_is)
    (case k_l_put => k_is)
    (case a_l_list_odd => k_is)
    (case l_l_list_odd => k_is)
    (case c_l_list_odd => k_is)
    (case k_l_list_odd => k_is)
    (case a_l_odd => k_is)
    (case l_l_odd => k_is)
    (case c_l_odd => k_is)
    (case k_l_odd => k_is)
    (case a_l_spoilt_sign => k_is)
    (case l_l_spoilt_sign => k_is)
    (case c_l_spoilt_sign => k_is)
    (case k_l_spoilt_sign => k_is)
    (case a_l_spoilt => k_is)
    (case l_l_spoilt => k_is)
    (case c_l_spoilt => k_is)
    (case k_l_spoilt => k_is)
    (case a_is_listed => k_is)
    (case l_is_listed => k_is)
    (case c_is_listed => k_is)
    (case k_is_listed => k_is)
    (case a_is_name => k_is)
    (case l_is_name => k_is)
    (case c_is_name => k_is)
    (case k_is_name => k_is)
    (case a_are_kinds => k_is)
    (case l_are_kinds => k_is)
    (case c_are_kinds => k_is)
    (case k_are_kinds => k_is)
    (case a_is_sign_name => k_is)
    (case l_is_sign_name => k_is)
    (case c_is_sign_name => k_is)
    (case k_is_sign_name => k_is)
    (case a_is_kind => k_is)
    (case l_is_kind => k_is)
    (case c_is_kind => k_is)
    (case k_is_kind => k_is)
    (case a_are_places => k_is)
    (case l_are_places => k_is)
    (case c_are_places => k_is)
    (case k_are_places => k_is)
    (case a_is_tie => k_is)
    (case l_is_tie => k_is)
    (case c_is_tie => k_is)
    (case k_is_tie => k_is)
    (case a_is_function => k_is)
    (case l_is_function => k_is)
    (case c_is_function => k_is)
    (case k_is_function => k_is)
    (case a_are_signs => k_is)
    (case l_are_signs => k_is)
    (case c_are_signs => k_is)
    (case k_are_signs => k_is)
    (case a_Signs_ini => k_is)
    (case i_Signs_ini => k_is)
    (case l_Signs_ini => k_is)
    (case c_Signs_ini => k_is)
    (case k_Signs_ini => k_is)
    (case a_l_just => k_is)
    (case l_l_just => k_is)
    (case c_l_just => k_is)
    (case k_l_just => k_is)
    (case a_l_told => k_is)
    (case l_l_told => k_is)
    (case c_l_told => k_is)
    (case k_l_told => k_is)
    (case a_law => k_is)
    (case l_law => k_is)
    (case c_law => k_is)
    (case k_law => k_is)
    (case pg_Signs => k_is)
    (case hd_Signs => k_is)
    (case po_Signs => k_is)
    (case sa_Signs => k_is)
    (case mk_Signs => k_is)
    (case kc_Signs => k_is)
    (case xg_FewError => k_is)
    (case xg_NoNaming => k_is)
    (case xg_NoPart => k_is)
    (case xg_NoRow => k_is)
    (case xg_NoSaying => k_is)
    (case xg_NoSigns => k_is)
    (case xg_NoSize => k_is)
    (case xg_NoText => k_is)
    (case xg_NoWorld => k_is)
    (case xg_TooMany => k_is)
    (case xk_NoSigns => k_is)
    (case xi_NoSigns => k_exc)
    (case xs_NoSigns => k_is)
    (case xt_NoSigns => k_is)
    (case ehg_NoSigns => k_is)
    (case ehk_NoSigns => k_is)
    (case ehs_NoSigns => k_is)
    (case ehd_NoSigns => k_is)
    (case eha_NoSigns => k_is)
    (case ehn_NoSigns => k_is)
    (case eht_NoSigns => k_is)
    (case ehm_NoSigns => k_is)
    (case xe_NoSigns => kts_exm)
    (case kt_NoSigns_FewError => kit_is)
    (case kt_NoSigns_NoNaming_NoPart_NoRow_NoSaying_NoSize_NoText_NoWorld_TooMany => kit_is)
    (case kt_NoSigns_ValueError => kit_is)
    (case na_Signs_own_functions => k_is)
    (case na_Signs_own_kinds => k_is)
    (case na_Signs_own_ties => k_is)
    (case z_ValueError => k_is)
    (case z_abs => k_is)
    (case z_all => k_is)
    (case z_divmod => k_is)
    (case z_enumerate => k_is)
    (case z_int => k_is)
    (case z_isinstance => k_is)
    (case z_len => k_is)
    (case z_list => k_is)
    (case z_max => k_is)
    (case z_range => k_is)
    (case z_repr => k_is)
    (case z_set => k_is)
    (case z_str => k_is)
    (case z_tuple => k_is)
    (case v_LETTERS => k_is)
    (case v_MOST_KINDS => k_is)
    (case v_MOST_LETTERS => k_is)
    (case v_MOST_PLACES => k_is)
    (case v_MOST_SIGNS => k_is)
    (case v_TAKEN => k_is)
    (case o_TAKEN => k_is)

