import PyProof.Rows.All
import Wide.All
import OpenK.AllK
import Wide.FinOn
import HandS.ForMost
import PyProof.Rows.SetFrom
import HandS.Iter
import KE.GoesEnum
import HandS.TupAny
import KE.KRevSl
import KE.SortData
import KE.SortLaws
import KE.LtData
import HandS.TupMul
import HandS.IsInst
import HandS.Style
import HandS.Conv
import HandS.Deep
import PyProof.StrBlock2
import PyProof.Rows.IntBool
import HandS.ForExc
import HandS.Zip
import HandS.CallSlots
import HandS.Defaults
import HandS.Ends
import HandS.HeadHook1
import HandS.HeadHook2
import PyProof.StrBlockL
import PyProof.Rows.StrFit
import KE.DatumOrd
import KE.KStateDown
import Lean
import HandS.Codes
import HandS.Words
import HandS.WordsExc
import HandS.Head0
import HandS.Head1
import HandS.Head2
import HandS.HeadEnd
import PySem.Challenge.RW_twigstore_k64_whole_shapes_made_here_tak
set_option Elab.async false
set_option linter.all false
set_option autoImplicit false
set_option maxRecDepth 100000
set_option maxHeartbeats 4000000
/-! VM0: set(list of texts and ints). -/
namespace VM
open PySem PySem.Spec PyProof.Rows L2
theorem keyBeq_inl (a b : Int) : ((Sum.inl a : Key) == Sum.inl b) = (a == b) := rfl
theorem keyBeq_inr (a b : Str) : ((Sum.inr a : Key) == Sum.inr b) = (a == b) := rfl
instance : LawfulBEq Key where
  eq_of_beq {a b} h := by
    cases a with
    | inl x => cases b with
      | inl y => rw [keyBeq_inl] at h; rw [eq_of_beq h]
      | inr y => cases h
    | inr x => cases b with
      | inl y => cases h
      | inr y => rw [keyBeq_inr] at h; rw [eq_of_beq h]
  rfl {a} := by
    cases a with
    | inl x => rw [keyBeq_inl]; exact beq_self_eq_true x
    | inr x => rw [keyBeq_inr]; exact beq_self_eq_true x
def stepK (σ : List Key) (v : Key) : List Key := if σ.any (· == v) = true then σ else σ ++ [v]
def dedK (ks : List Key) : List Key := ks.foldl stepK []

def metK (val : Nat → Key) (i : Nat) : List Key := ((List.range i).map val).foldl stepK []
theorem metK_succ (val : Nat → Key) (i : Nat) : metK val (i + 1) = stepK (metK val i) (val i) := by
  unfold metK; rw [List.range_succ, List.map_append, List.foldl_append]; rfl
theorem metK_length_le (val : Nat → Key) : ∀ i, (metK val i).length ≤ i
  | 0 => Nat.le_refl _
  | i + 1 => by
    rw [metK_succ]; unfold stepK
    have ih := metK_length_le val i
    split
    · omega
    · rw [List.length_append, List.length_singleton]; omega
theorem stepK_any (σ : List Key) (v k : Key) : (stepK σ v).any (· == k) = (σ.any (· == k) || decide (k = v)) := by
  unfold stepK
  by_cases h : σ.any (· == v) = true
  · rw [if_pos h]
    by_cases e : k = v
    · subst e; rw [h]; simp
    · simp [e]
  · rw [if_neg h, List.any_append]
    by_cases e : k = v
    · subst e; simp
    · have hb : (v == k) = false := by simpa [beq_iff_eq] using (fun h' : v = k => e h'.symm)
      simp [hb, e]
theorem stepK_length (σ : List Key) (v : Key) : (stepK σ v).length = if σ.any (· == v) then σ.length else σ.length + 1 := by
  unfold stepK; split <;> simp
section
variable {prog : Program} {w : World} {A : Around} {R : Result → Shared → Prop} {I : Addr} {fp wr : List Addr} {G : Array GenState → Array GenState → Prop} {n : Nat} {P : Nat → Value → Prop} {St : Nat → Shared → Prop}

theorem set_loopK (W : WalksS prog w A.in1 I fp wr G n P St) (S : Addr) (hSf : S ∉ fp)
    (val : Nat → Key) (hval : ∀ i v, P i v → keyIs (val i) v = true) (hb : n + 1 < scanBound) :
    ∀ (k i : Nat) (s : Shared), n - i = k → i ≤ n → St i s →
      s.heap.SetOf (mixKind prog w) S (fun k' => (metK val i).any (· == k')) (metK val i).length →
      (∀ s', Moved (S :: wr) G s s' → s'.heap.SetOf (mixKind prog w) S (fun k' => (metK val n).any (· == k')) (metK val n).length → R (.ok (.ret .none)) s') →
      codeAny (model prog w) A (.builtin "set.update.loop" ⟨[.ref S, .ref I], []⟩) R s := by
  have hSw : S ∉ wr := fun h => hSf (W.sub _ h)
  have hsub : ∀ b ∈ wr, b ∈ S :: wr := fun b hb => List.mem_cons_of_mem _ hb
  intro k
  induction k with
  | zero =>
    intro i s hk hi hst hS hR
    have hin : i = n := by omega
    subst hin
    refine codeAny_builtin PyProof.Rows.F.entry_set_update_loop ?_
    rw [Around.under_plainId PyProof.Rows.F.plain_set_update_loop _]
    show wpAny _ A.in1 (pyNext (.ref I) >>= _) _ _ s
    refine wpAny_bind (W.done s _ _ hst fun s' hm => ?_)
    show wpAny _ A.in1 (ret Value.none) _ _ s'
    exact wpAny_pure (hR s' (hm.mono hsub) (by
      obtain ⟨o, es, ep, t, ho, rest⟩ := hS
      exact ⟨o, es, ep, t, hm.heap S _ hSw ho, rest⟩))
  | succ k ih =>
    intro i s hk hi hst hS hR
    have hlt : i < n := by omega
    refine codeAny_builtin PyProof.Rows.F.entry_set_update_loop ?_
    rw [Around.under_plainId PyProof.Rows.F.plain_set_update_loop _]
    show wpAny _ A.in1 (pyNext (.ref I) >>= _) _ _ s
    refine wpAny_bind (W.item i s _ _ hlt hst fun v s' hP hst' hm => ?_)
    have hk : (mixKind prog w).is (val i) v = true := hval i v hP
    have hS' : s'.heap.SetOf (mixKind prog w) S (fun k' => (metK val i).any (· == k')) (metK val i).length := by
      obtain ⟨o, es, ep, tb, ho, rest⟩ := hS
      exact ⟨o, es, ep, tb, hm.heap S _ hSw ho, rest⟩
    show wpAny _ A.in1 (holding [v] (setAdd S v) >>= _) _ _ s'
    refine wpAny_bind (wpAny_holding ?_)
    unfold setAdd
    refine wpAny_holding ?_
    refine wpAny_bind ((mixKind prog w).pyHash (k := val i) hk ?_)
    have hroom : (metK val i).length + 1 < scanBound := by have := metK_length_le val i; omega
    refine wpAny_setAddHashed_of (knd := mixKind prog w) (s := { s' with toks := s'.toks + 1 }) hk (by rcases keyIs_shape hk with ⟨_, _, _, rfl⟩ | ⟨_, _, _, rfl⟩ <;> rfl) hS' hroom fun h' hsb hS2 => ?_

    have hSi : h'.SetOf (mixKind prog w) S (fun k' => (metK val (i + 1)).any (· == k')) (metK val (i + 1)).length :=
      SetOf_congr hS2 (fun k' => by rw [metK_succ, stepK_any]) (by rw [metK_succ, stepK_length])
    refine wpAny_pure ⟨plainId_quiet PyProof.Rows.F.plain_set_update_loop _, ih (i + 1) _ (by omega) hlt (W.frame _ s' _ _ hst' (Nat.le_succ _) fun b hb o e => ?_) hSi fun s'' hm'' hS'' => ?_⟩
    · rw [hsb.2 b (fun h : b = S => hSf (by rw [← h]; exact hb))]; exact e
    · refine hR s'' (Moved.trans W.gtrans ((hm.mono hsub).then_heap (Nat.le_succ _) fun b o hb e => ?_) hm'') hS''
      rw [hsb.2 b (fun h : b = S => hb (by rw [h]; exact List.mem_cons_self))]; exact e
end
section
variable {prog : Program} {w : World} {A : Around} {E : Value → Shared → Prop} {s : Shared}
set_option maxHeartbeats 3200000 in
theorem call_set_listK {l : Addr} {items : Array Value} {ks : List Key} {Q : Value → Shared → Prop}
    (hh : A.handled = none) (hl : s.heap.IsList l items) (hi : ∀ (i : Nat) (v : Value), items[i]? = some v → keyIs (ks.getD i (.inl 0)) v = true) (hb : items.size + 1 < scanBound)
    (h : ∀ (h' : Heap) (tk : Nat), h'.SetOf (mixKind prog w) s.heap.objs.size (fun k' => (metK (fun i => ks.getD i (.inl 0)) items.size).any (· == k')) (metK (fun i => ks.getD i (.inl 0)) items.size).length →
      (∀ b o, b < s.heap.objs.size → s.heap.get? b = some o → h'.get? b = some o) → Q (.ref s.heap.objs.size) { s with heap := h', toks := tk }) :
    wpAny (model prog w) A (call (.type "set") [.ref l]) Q E s := by
  obtain ⟨c, tl, hmro⟩ := PySem.F.called_set.mro
  have hmade := PySem.F.called_set.made
  have hsub := PySem.F.called_set.sub
  refine wpAny_call (codeAny_of_tree ?_)
  show wpAny _ _ (callAny (.type "set") _) _ _ _
  refine wpAny_pure ⟨Code.quiet_builtin _ (by decide +kernel), codeAny_builtin PySem.F.entry_type_call ?_⟩
  rw [Around.under_plain (weight_type_call_type "set" [.ref l] []) rfl]
  have h1 := PySem.F.called_set.notType
  have h2 := PySem.F.called_set.canCreate
  have hct := PySem.F.typeCall_set_1 (.ref l)
  repeat (any_goals (first | assumption | wp_step))

  refine codeAny_mono (code_set_new_1 (.ref l) (E := E) (Q₁ := fun obj s₁ => ∃ led : Bool, obj = .ref s.heap.objs.size ∧ s₁ = { s with heap := s.heap.push { cls := .type "set", dict := none, data := .set #[] 0 (.fresh 0 0 led) } }) fun led => ⟨led, rfl, rfl⟩) fun r s₁ hr => ?_
  cases r with
  | error e => exact hr
  | ok fl =>
    cases fl with
    | ret obj =>
      obtain ⟨led, rfl, rfl⟩ := hr
      have hS : (s.heap.push { cls := .type "set", dict := none, data := .set #[] 0 (.fresh 0 0 led) }).get? s.heap.objs.size = some { cls := .type "set", dict := none, data := .set #[] 0 (.fresh 0 0 led) } := Heap.get?_push_size _ rfl
      have hT : Shared.TypeIs { s with heap := s.heap.push { cls := .type "set", dict := none, data := .set #[] 0 (.fresh 0 0 led) } } (.ref s.heap.objs.size) "set" := ⟨_, hS, rfl⟩
      have hli := PySem.F.called_set.init.lookup
      have hbi := PySem.F.called_set.init.bind (.ref s.heap.objs.size)
      repeat (any_goals (first | assumption | wp_step))

      refine codeAny_mono (codeAny_call_builtin (R := wants (fun r s₂ => r = .none ∧ ∃ h' tk, s₂ = { s with heap := h', toks := tk } ∧
          h'.SetOf (mixKind prog w) s.heap.objs.size (fun k' => (metK (fun i => ks.getD i (.inl 0)) items.size).any (· == k')) (metK (fun i => ks.getD i (.inl 0)) items.size).length ∧
          (∀ b o, b < s.heap.objs.size → s.heap.get? b = some o → h'.get? b = some o)) E) PySem.F.called_set.init.plain PySem.F.entry_set_init (check_set_init_1 hT ?_)) fun r₂ s₂ hr₂ => ?_
      · obtain ⟨ol, hol, hcl, nl, hdl⟩ := hl
        obtain ⟨ocls, odict, odata, oslots⟩ := ol
        simp only at hcl hdl
        subst hcl; subst hdl
        have hol' : (s.heap.push { cls := .type "set", dict := none, data := .set #[] 0 (.fresh 0 0 led) }).get? l = some { cls := .type "list", dict := odict, data := .seq items nl, slots := oslots } := Heap.get?_push_of_some _ hol
        have hsls := PySem.F.sub_list_set
        have hslf := PySem.F.sub_list_frozenset
        have hne : (Value.type "list" == Value.type "dict") = false := by decide
        have hl1 : (s.heap.push { cls := .type "set", dict := none, data := .set #[] 0 (.fresh 0 0 led) }).IsList l items := ⟨_, hol', rfl, nl, rfl⟩
        unfold Builtin.«set.__init__» noKeywords Builtin.Frozenset.updateFrom
        generalize hPI : pyIter = PI
        wp_walk
        subst hPI

        refine wpAny_pyIter_list hl1 ?_
        refine wpAny_bind (wpAny_runValue ?_)
        have hlS : l < s.heap.objs.size := Heap.lt_size hol
        have hh3 : A.in1.in1.in1.handled = none := by simp [hh]
        have hneI : l ≠ (s.heap.push { cls := .type "set", dict := none, data := .set #[] 0 (.fresh 0 0 led) }).objs.size := by
          rw [Heap.size_push]; exact Nat.ne_of_lt (Nat.lt_succ_of_lt hlS)
        have hSf : s.heap.objs.size ∉ [(s.heap.push { cls := .type "set", dict := none, data := .set #[] 0 (.fresh 0 0 led) }).objs.size, l] := by
          rw [Heap.size_push]; simp only [List.mem_cons, List.mem_singleton, List.not_mem_nil, or_false, not_or]
          exact ⟨Nat.ne_of_lt (Nat.lt_succ_self _), Nat.ne_of_gt hlS⟩
        have hval : ∀ (i : Nat) (v : Value), items[i]? = some v → keyIs ((fun i => ks.getD i (.inl 0)) i) v = true := hi
        refine set_loopK ((Walks.list hh3 _ l hneI items).toS) s.heap.objs.size
          hSf (fun i => ks.getD i (.inl 0)) hval hb (items.size - 0) 0 _ (by omega) (Nat.zero_le _)
          ⟨⟨_, Heap.get?_push_size _ rfl, rfl, rfl⟩, (hl1.push _)⟩ ?hS0 ?hR
        case hS0 =>
          have hget : ((s.heap.push { cls := .type "set", dict := none, data := .set #[] 0 (.fresh 0 0 led) }).push { cls := .type "list_iterator", data := .fields #[.ref l, .int 0 0] }).get? s.heap.objs.size
              = some { cls := .type "set", dict := none, data := .set #[] 0 (.fresh 0 0 led) } := Heap.get?_push_of_some _ hS
          exact PyProof.Rows.SetOf_congr ((PyProof.Rows.setObjOf_fresh (knd := mixKind prog w) led).setOf hget (by unfold scanBound; omega)) (fun _ => rfl) rfl
        case hR =>
          intro s' hm hS'
          obtain ⟨h', g', d', tk', os'⟩ := s'
          have eg : g' = s.gens := hm.gens
          have ed : d' = s.drawn := hm.drawn
          have eo : os' = s.os := hm.os
          subst eg; subst ed; subst eo
          show wpAny _ _ _ _ _ _
          refine wpAny_pure ?_
          show wpAny _ _ (ret Value.none) _ _ _
          refine wpAny_pure ⟨rfl, h', tk', rfl, hS', fun b o hb e => ?_⟩
          have hb1 : b ≠ s.heap.objs.size := Nat.ne_of_lt hb
          have hb2 : b ≠ (s.heap.push { cls := .type "set", dict := none, data := .set #[] 0 (.fresh 0 0 led) }).objs.size := by
            rw [Heap.size_push]; exact Nat.ne_of_lt (Nat.lt_succ_of_lt hb)
          exact hm.heap b o (by simp only [List.mem_cons, List.mem_singleton, List.not_mem_nil, or_false, not_or]; exact ⟨hb1, hb2⟩) (Heap.get?_push_of_some _ (Heap.get?_push_of_some _ e))

      · cases r₂ with
        | error e => exact hr₂
        | ok fl₂ =>
          cases fl₂ with
          | ret r =>
            obtain ⟨rfl, h', tk, rfl, hS', hk'⟩ := hr₂
            repeat (any_goals (first | assumption | wp_step))
            exact h _ _ hS' hk'
          | _ => exact hr₂.elim
    | _ => exact hr.elim
end
end VM

set_option linter.all false
set_option autoImplicit false
set_option maxRecDepth 100000
set_option maxHeartbeats 4000000
/-! VM0e: enumerate(a tuple). -/
namespace VM
open PySem PySem.Spec PyProof.Rows L2
theorem meets_enumT {v : Value} {o : Obj} {H : Heap → Prop} (B : Begins v o H) :
    Meets (Builtin.«enumerate.__new__» ⟨[.type "enumerate", v], []⟩) (fun _ R s => H s.heap ∧
      R (.ok (.ret (.ref (s.heap.push o).objs.size))) { s with heap := (s.heap.push o).push { cls := .type "enumerate", data := .fields #[.none, .bool false, .ref s.heap.objs.size, rawInt 0, .none, .none] } }) :=
  .of_wp fun prog w A R s h => by
    obtain ⟨hp, g, d, tk, os⟩ := s; obtain ⟨h1, h⟩ := h
    have hsub := sub_enumerate
    have q1 : ∀ {A' : Around} {E : Value → Shared → Prop} {Q : Value → Shared → Prop}, Q (.ref hp.objs.size) ⟨hp.push o, g, d, tk, os⟩ → wpAny (model prog w) A' (pyIter v) Q E ⟨hp, g, d, tk, os⟩ :=
      fun q => B.iter prog w _ _ ⟨hp, g, d, tk, os⟩ _ h1 q
    wp_walk using q1
    refine wpAny_stack_any fun st => wpAny_pure ?_
    split
    · rename_i c _ _ _ _ _
      cases (c == Value.type "enumerate")
      · wp_walk using q1
        exact ⟨_, rfl, h⟩
      · wp_walk using q1
        exact ⟨_, rfl, h⟩
    · wp_walk using q1
      exact ⟨_, rfl, h⟩
theorem call_enumT {prog : Program} {w : World} {A : Around} {E : Value → Shared → Prop} {s : Shared} {v : Value} {o : Obj} {H : Heap → Prop} {Q : Value → Shared → Prop} (B : Begins v o H) (h1 : H s.heap)
    (h : ∀ h', IsEnum h' (s.heap.objs.size + 1) s.heap.objs.size 0 .none → h'.get? s.heap.objs.size = some o → h'.objs.size = s.heap.objs.size + 2 →
      (∀ b o, s.heap.get? b = some o → h'.get? b = some o) → Q (.ref (s.heap.objs.size + 1)) { s with heap := h' }) :
    wpAny (model prog w) A (call (.type "enumerate") [v]) Q E s := by
  refine callType_new PySem.F.called_enumerate (by decide) (PySem.F.typeCall_enumerate_1 _) (PySem.F.newCall_enumerate_1 _) (fun obj => PySem.F.args_object_init_2 obj _) PySem.F.entry_enumerate_new
    (meets_enumT B) ⟨h1, ?_⟩
  have hz : (s.heap.push o).objs.size = s.heap.objs.size + 1 := Heap.size_push ..
  show _ ∧ _
  rw [hz]
  have he : IsEnum ((s.heap.push o).push { cls := .type "enumerate", data := .fields #[.none, .bool false, .ref s.heap.objs.size, rawInt 0, .none, .none] }) (s.heap.objs.size + 1) s.heap.objs.size 0 .none := by
    have := Heap.get?_push_size (s.heap.push o) (o := { cls := .type "enumerate", data := .fields #[.none, .bool false, .ref s.heap.objs.size, rawInt 0, .none, .none] }) rfl
    rw [hz] at this; exact this
  exact ⟨⟨_, he, rfl⟩, h _ he (Heap.get?_push_of_some _ (Heap.get?_push_size _ B.free)) (by rw [Heap.size_push, hz]) fun b o x => Heap.get?_push_of_some _ (Heap.get?_push_of_some _ x)⟩
def IteT (K : PySem.W.Frag) (a : Addr) : It :=
  ⟨fun i H => ∃ (xs : List V) (x : V), SqT K H a xs ∧ xs[i]? = some x, fun i H v H' => ∃ T x, v = .ref T ∧ H T = none ∧ H' = upd H T (.tup [.int (i : Nat), x]) ∧ ∀ xs, SqT K H a xs → xs[i]? = some x, fun i H => ∃ xs : List V, SqT K H a xs ∧ xs.length ≤ i⟩
theorem turn_enumT {P : Program} {w : World} {K : PySem.W.Frag} {elts : List Expr} {kk : Nat} {tpos : Pos} (a e it : Addr) (hia : a ≠ it) (hea : a ≠ e) :
    Turn P w K (.Tuple elts kk tpos) (IteT K a) [e, it] e (fun i h => (∃ old, IsEnum h e it ((i : Nat) : Int) old) ∧ h.IsTupleIter it a i ∧ e ≠ it) where
  mem := by simp
  obj := fun i h st b hb => by
    obtain ⟨⟨old, he⟩, ⟨o, ho, hc, hd⟩, _⟩ := st
    have e' : b = e ∨ b = it := by simpa using hb
    rcases e' with z | z
    · rw [z]; exact ⟨_, he, fun v q => nomatch q⟩
    · rw [z]; exact ⟨o, ho, fun v q => by rw [hd] at q; cases q⟩
  keep := fun i h h' st k => let ⟨⟨old, he⟩, hi, hne⟩ := st; ⟨⟨old, k e (by simp) _ he⟩, hi.at fun o q => k it (by simp) o q, hne⟩
  item := by
    intro X hP hw hK hc i pins s σ H E I hf st hg
    subst hP hw hK
    obtain ⟨⟨old, he⟩, hit, hne⟩ := st
    obtain ⟨xs, x, hq, hx⟩ := hg
    obtain ⟨its, rv, p, hz⟩ := I.tuple hq
    obtain ⟨u, hu, ru⟩ := rv.get hx
    have hel : e < s.heap.objs.size := Heap.lt_size he
    have hil : it < s.heap.objs.size := by obtain ⟨_, q, _⟩ := hit; exact Heap.lt_size q
    have hlt : i < its.toArray.size := by
      obtain ⟨q, _⟩ := List.getElem?_eq_some_iff.mp hu
      simpa using q
    have D := Draws.tuple (prog := X.prog) (w := X.w) (A := X.A.in1) (by simp [I.ok.hd hc]) it a hia its.toArray
    refine wpAny_pyNext_enum_itemD D he ⟨hit, show s.heap.IsTuple a its.toArray from p⟩ hlt hne (by simp only [List.mem_cons, List.not_mem_nil, or_false, not_or]; exact ⟨hne, Ne.symm hea⟩) fun y h' tk hP ho hst' hT hsz hk => ?_
    have hP : its.toArray[i]? = some y := hP
    have ey : y = u := by
      have e1 : its.toArray[i]? = some u := by simpa using hu
      rw [hP] at e1
      exact Option.some.inj e1
    subst ey
    refine ⟨_, rfl, wpAny_letOwnedTupleGo_enum (s := { s with heap := h', toks := tk + 1 }) ho fun h'' he' sb => ?_⟩
    have hT2 : h''.get? s.heap.objs.size = some { cls := .type "tuple", data := .seq #[.int i tk, y] } := (sb.2 _ (Nat.ne_of_gt hel)).trans hT
    have new : ObjOk X.prog X.w (upd H s.heap.objs.size (.tup [.int (i : Nat), x])) h'' s.heap.objs.size (.tup [.int (i : Nat), x]) :=
      ⟨by show 2 ≤ sizeLine; decide, [.int i tk, y], .cons ⟨_, rfl⟩ (.cons ru .nil), ⟨_, hT2, rfl, _, rfl⟩⟩
    have I1 : Inv X pins σ (upd H s.heap.objs.size (.tup [.int (i : Nat), x])) { s with heap := h'', toks := tk + 1 } :=
      I.turnedNew (ch := [e, it]) (fun b ob hb q => (sb.2 b (fun z => hb (by simp [z]))).trans (hk b ob (fun z => hb (by simp [z])) (fun z => hb (by simp [z])) q)) hf (Nat.le_refl _) new
    refine ⟨.ref s.heap.objs.size, _, I1, rfl, ⟨_, x, rfl, I.hok.fresh (Nat.le_refl _), rfl, fun ys hy => by rw [I.tuple_inj hy hq]; exact hx⟩, ⟨⟨y, ?_⟩, hst'.1.at fun o q => (sb.2 it (Ne.symm hne)).trans q, hne⟩, fun b hb => ?_⟩
    · have e1 : ((i + 1 : Nat) : Int) = (i : Int) + 1 := by omega
      rw [e1]; exact he'
    · have hb' : b < s.heap.objs.size := by
        have e' : b = e ∨ b = it := by simpa using hb
        rcases e' with z | z
        · rw [z]; exact hel
        · rw [z]; exact hil
      rw [upd_ne (Nat.ne_of_lt hb')]
      exact (hf b hb).1
  done := by
    intro X hP hw hK hc i pins s σ H E I hf st hg
    subst hP hw hK
    obtain ⟨⟨old, he⟩, hit, hne⟩ := st
    obtain ⟨xs, hq, hx⟩ := hg
    obtain ⟨its, rv, p, hz⟩ := I.tuple hq
    obtain ⟨f0, f1, f2, f3, f4, f5⟩ := hf it (by simp)
    have hl := rv.length
    have hsz : its.toArray.size ≤ i := by simp; omega
    unfold pyNext
    have hT : s.TypeIs (.ref e) "enumerate" := ⟨_, he, rfl⟩
    refine wpAny_bind (wpAny_attempt (wpAny_callSpecial?_slot (name := Str.ofString "__next__") hT PySem.F.slot_enumerate_next
      (wpAny_call_entry PySem.F.slot_enumerate_next hT PySem.F.entry_enumerate_next ?_ (PySem.F.args_enumerate_next_1 _))))
    show wpAny _ _ (field (.ref e) 2 >>= _) _ _ _
    refine wpAny_bind (wpAny_field he rfl (x := .ref it) rfl ?_)
    refine wpAny_bind (wpAny_nextOf_tuple_end (by simp [I.ok.hd hc]) hit (show s.heap.IsTuple a its.toArray from p) (by rw [Array.getElem?_eq_none hsz]) fun h' x he' hx' => ?_)
    obtain ⟨o, ho, hc⟩ := hx'
    refine wpAny_bind (wpAny_isInstance (T := "StopIteration") (b := true) ⟨o, ho, hc⟩ isSubtype_stop ?_)
    exact wpAny_pure ⟨rfl, I.turned (t' := s.toks) (fun b o hb q => he' b o hb q) f0 f1 f3 f4 f5⟩
  self := fun A i s Q E st h => let ⟨⟨_, he⟩, _⟩ := st; wpAny_pyIter_enum he h
def iEnumT (K : PySem.W.Frag) (ta : TA) : TI := fun σ H R => ta σ H fun vs H1 => ∃ a xs, vs = [.ref a] ∧ SqT K H1 a xs ∧ R (IteT K a) H1
theorem pi_enumT {X : Cx} {e : Expr} {ta : TA} {p pos tpos : Pos} {elts : List Expr} {kk : Nat} (hg : Gl X "enumerate") (hm : X.mg "enumerate" = none) (ha : PA X [e] ta) (hs : starEach [e] X.env = [(false, eval e X.env)]) :
    PI X (.Tuple elts kk tpos) (.Call (.Name "enumerate" p) [e] [] pos) (iEnumT X.K ta) := by
  refine ⟨fun pins s σ H R I h => ?_⟩
  refine Call_ (ld_blt I hg hm boot_enumerate (PyProof.Rows.callWith_type1 (thn (ha.run pos pins s σ H _ I h) fun us s1 ⟨vs, H1, I1, r1, q1⟩ => ?_) hs rfl))
  obtain ⟨a, xs, ex, hq, q⟩ := q1
  subst ex
  cases r1 with
  | cons r rr =>
    cases rr
    cases r
    obtain ⟨its, rv, p', hz⟩ := I1.tuple hq
    have ha' : a < s1.heap.objs.size := by obtain ⟨o, ho, _⟩ := id p'; exact Heap.lt_size ho
    refine call_enumT (begins_tuple a its.toArray) (show s1.heap.IsTuple a its.toArray from p') fun h' he hit hsz hk => wpAny_pyIter_enum he ?_
    have I2 : Inv X pins σ H1 { s1 with heap := h' } := I1.kept (t' := s1.toks) hk
    refine ⟨s1.heap.objs.size + 1, [s1.heap.objs.size + 1, s1.heap.objs.size], _, _, H1, rfl, I2, turn_enumT a (s1.heap.objs.size + 1) s1.heap.objs.size (Nat.ne_of_lt ha') (Nat.ne_of_lt (Nat.lt_succ_of_lt ha')), ⟨⟨.none, he⟩, ⟨_, hit, rfl, rfl⟩, Nat.succ_ne_self _⟩, fun b hb => ?_, q⟩
    have e' : b = s1.heap.objs.size + 1 ∨ b = s1.heap.objs.size := by simpa using hb
    have hle : s1.heap.objs.size ≤ b := by
      rcases e' with z | z
      · rw [z]; exact Nat.le_add_right _ _
      · rw [z]; exact Nat.le_refl _
    exact I1.fpOk hle (I1.hok.fresh hle)
end VM

set_option linter.all false
set_option autoImplicit false
set_option maxRecDepth 100000
set_option maxHeartbeats 4000000
/-! VM0r: t[::-1], t a tuple. -/
namespace VM
open PySem PySem.Spec PyProof.Rows L2
theorem adjust_rev (n : Nat) : Builtin.Slice.sliceAdjust none none (-1) (n : Int) = ((n : Int) - 1, -1) := by
  unfold Builtin.Slice.sliceAdjust
  simp
theorem places_rev (n : Nat) : Builtin.Slice.slicePlaces ((n : Int) - 1) (-1) (-1) = n := by
  unfold Builtin.Slice.slicePlaces
  have h1 : ¬ ((-1 : Int) > 0) := by decide
  have h2 : (- (-1 : Int)) = 1 := by decide
  simp only [h1, if_false, h2, Int.ediv_one]
  split <;> omega
section
variable {prog : Program} {w : World} {A : Around} {E : Value → Shared → Prop} {s : Shared}
theorem applied_rev {sl : Addr} {vk : Value} {n : Nat} {Q : Int × Int × Nat → Shared → Prop} (hs : s.heap.IsSliceOf sl .none .none vk) (pk : IsPart vk (some (-1)))
    (h : Q ((n : Int) - 1, -1, n) s) : wpAny (model prog w) A (Builtin.Slice.sliceApplied (.ref sl) (pure (n : Int))) Q E s := by
  obtain ⟨os, hos, hcs, hds⟩ := id hs
  unfold Builtin.Slice.sliceApplied Builtin.Slice.sliceFields
  refine wpAny_bind (wpAny_bind (wpAny_field hos hds (x := .none) rfl (wpAny_bind (wpAny_field hos hds (x := .none) rfl (wpAny_bind (wpAny_field hos hds (x := vk) rfl (wpAny_pure ?_)))))))
  refine wpAny_bind (HT.slicePart_ pk ?_)
  show wpAny _ _ (if ((-1 : Int) == 0) = true then _ else _) _ _ s
  rw [if_neg (by decide)]
  refine wpAny_bind (slicePart_none (wpAny_bind (slicePart_none (wpAny_bind (wpAny_pure ?_)))))
  show wpAny _ _ (match Builtin.Slice.sliceAdjust none none (-1) (n : Int) with | (lo, hi) => pure (lo, (-1 : Int), Builtin.Slice.slicePlaces lo hi (-1))) _ _ s
  rw [adjust_rev]
  show wpAny _ _ (pure ((n : Int) - 1, (-1 : Int), Builtin.Slice.slicePlaces ((n : Int) - 1) (-1) (-1))) _ _ s
  rw [places_rev]
  exact wpAny_pure h
theorem filterMap_cong {α β : Type} {f g : α → Option β} : ∀ {l : List α}, (∀ x ∈ l, f x = g x) → l.filterMap f = l.filterMap g
  | [], _ => rfl
  | x :: l, h => by
    rw [List.filterMap_cons, List.filterMap_cons, h x (List.mem_cons_self ..), filterMap_cong fun y hy => h y (List.mem_cons_of_mem _ hy)]
theorem pick_rev (xs : Array Value) : ((List.range xs.size).filterMap fun (m : Nat) => xs[((xs.size : Int) - 1 + (m : Int) * (-1)).toNat]?).toArray = xs.toList.reverse.toArray := by
  have e : (List.range xs.size).filterMap (fun (m : Nat) => xs[((xs.size : Int) - 1 + (m : Int) * (-1)).toNat]?) = ((List.range xs.size).map (fun k => xs.size - 1 - k)).filterMap (xs[·]?) := by
    rw [List.filterMap_map]
    apply filterMap_cong
    intro m hm
    have := List.mem_range.mp hm
    show xs[((xs.size : Int) - 1 + (m : Int) * (-1)).toNat]? = xs[xs.size - 1 - m]?
    have e2 : ((xs.size : Int) - 1 + (m : Int) * (-1)).toNat = xs.size - 1 - m := by omega
    rw [e2]
  rw [e, PySem.W.krv_range, List.filterMap_reverse, PySem.W.krv_all]
theorem getItem_tuple_rev {t sl : Addr} {items : Array Value} {vk : Value} {Q : Value → Shared → Prop} (ht : IsTup s.heap t items) (hs : s.heap.IsSliceOf sl .none .none vk) (pk : IsPart vk (some (-1)))
    (h : Q (.ref s.heap.objs.size) { s with heap := s.heap.push { cls := .type "tuple", data := .seq items.toList.reverse.toArray } })
    (hsz : items.size ≤ sizeLine) : wpAny (model prog w) A (getItem (.ref t) (.ref sl)) Q E s := by
  have htake : sizeOk (.seq items.toList.reverse.toArray) := by
    show items.toList.reverse.toArray.size ≤ sizeLine
    rw [List.size_toArray, List.length_reverse, Array.length_toList]
    exact hsz
  obtain ⟨os, hos, hcs, hds⟩ := id hs
  have hTs : s.TypeIs (.ref sl) "slice" := ⟨os, hos, hcs⟩
  unfold getItem
  try with_reducible refine wpAny_holding ?_
  first | refine wpAny_bind (wpAny_pure ?_) | skip
  refine wpAny_bind (wpAny_sequenceKey ht.typeIs (by decide) ?_)
  refine wpAny_bind (wpAny_callSpecial?_slot (name := Str.ofString "__getitem__") ht.typeIs PyProof.Rows.slot_tuple_getitem
    (wpAny_call_entry PyProof.Rows.slot_tuple_getitem ht.typeIs entry_tuple_getitem ?_ (args_tuple_getitem _ _)))
  show wpAny _ _ (Builtin.Tuple.tupleItemsOf (.ref t) >>= _) _ _ s
  refine wpAny_bind (tupleItemsOf_ ht ?_)
  refine wpAny_bind (wpAny_typeOf hTs ?_)
  rw [if_pos (by decide)]
  refine wpAny_bind (applied_rev hs pk ?_)
  have hno : ¬ ((((items.size : Int) - 1) == 0 && (-1 : Int) == 1 && items.size == items.size) = true) := by
    intro q
    rw [Bool.and_eq_true, Bool.and_eq_true] at q
    exact absurd (eq_of_beq q.1.2) (by decide)
  show wpAny _ _ (if (((items.size : Int) - 1) == 0 && (-1 : Int) == 1 && items.size == items.size) = true then _ else _) _ _ s
  rw [if_neg hno, pick_rev]
  first
    | exact wpAny_bind (m := Builtin.Tuple.tupleExact _) (wpAny_newObj_type (wpAny_pure ⟨_, rfl, wpAny_pure h⟩) htake)
    | exact wpAny_bind (m := Builtin.Tuple.tupleExact _) (wpAny_newObj_type (wpAny_bind (wpAny_pure (wpAny_pure ⟨_, rfl, wpAny_pure h⟩))) htake)
    | exact wpAny_bind (wpAny_bind (m := Builtin.Tuple.tupleExact _) (wpAny_newObj_type (wpAny_pure (wpAny_pure ⟨_, rfl, wpAny_pure h⟩)) htake))
    | exact wpAny_bind (wpAny_bind (m := Builtin.Tuple.tupleExact _) (wpAny_newObj_type (wpAny_pure ⟨_, rfl, wpAny_pure h⟩) htake))
end
def tRevT (K : PySem.W.Frag) (te : TE) : TE := fun σ H Q => te σ H fun x H1 => ∃ a xs, x = .ref a ∧ SqT K H1 a xs ∧ ∀ p, H1 p = none → Q (.ref p) (upd H1 p (.tup xs.reverse))
theorem pe_revT {X : Cx} {e : Expr} {te : TE} {k : Nat} {p1 p2 p3 pos : Pos} (he : PE X e te) : PE X (.Subscript e (.Slice none none (some (.UnaryOp .USub (.Constant (.int 1) k p1) p2)) p3) pos) (tRevT X.K te) := by
  refine ⟨fun pins s σ H Q I h => ?_⟩
  refine Subscript_ (thn (he.run pins s σ H _ I h) fun v s1 ⟨x, H1, I1, r1, q1⟩ => ?_)
  obtain ⟨a, xs, ex, hx, q⟩ := q1
  subst ex
  cases r1
  have hst : PO X (some (.UnaryOp .USub (.Constant (.int 1) k p1) p2)) (tPart (tUn (rU fun i => .int (-i)) (tC (.int 1)))) := po_some (pe_un un_neg pe_int)
  refine wpAny_Slice (thn (po_none.run pins s1 σ H1 (fun o H2 => o = none ∧ H2 = H1) I1 ⟨rfl, rfl⟩) fun vl s2 ⟨l, H2, I2, pl, el, e2⟩ => ?_)
  subst el e2
  refine thn (po_none.run pins s2 σ H2 (fun o H3 => o = none ∧ H3 = H2) I2 ⟨rfl, rfl⟩) fun vu s3 ⟨u, H3, I3, pu, eu, e3⟩ => ?_
  subst eu e3
  refine thn (hst.run pins s3 σ H3 (fun o H4 => o = some (-1) ∧ H4 = H3) I3 ⟨1, rfl, -1, rfl, rfl, rfl⟩) fun vs s4 ⟨o, H4, I4, ps, eo, e4⟩ => ?_
  subst eo e4
  have I5 : Inv X pins σ H4 { s4 with heap := s4.heap.push { cls := .type "slice", data := .fields #[vl, vu, vs] } } := I4.kept (t' := s4.toks) fun b ob q => Heap.get?_push_of_some _ q
  obtain ⟨its, r, ht, hz⟩ := I5.tuple hx
  have hlen := r.length
  cases pl
  cases pu
  show wpAny (model X.prog X.w) X.A (subscriptTail e (.Slice none none (some (.UnaryOp .USub (.Constant (.int 1) k p1) p2)) p3) (.ref a) (.ref s4.heap.objs.size)) (EP X pins σ Q) X.xe { s4 with heap := s4.heap.push { cls := .type "slice", data := .fields #[.none, .none, vs] } }
  refine tail_any (ops := [.ref a, .ref s4.heap.objs.size]) ht.typeIs (PyProof.Rows.slot_tuple_getitem.lookup) ?_ (by with_unfolding_all rfl)
  refine getItem_tuple_rev ht (Heap.IsSliceOf.new _ .none .none vs) ps ?_ (by rw [List.size_toArray]; omega)
  refine ⟨.ref _, _, I5.laid (t' := s4.toks) (o := .tup xs.reverse) (fun b ob q => Heap.get?_push_of_some _ q) (Nat.le_refl _) ?_, rfl, q _ (I5.hok.fresh (Nat.le_refl _))⟩
  exact ⟨by rw [List.length_reverse]; exact hz, _, r.reverse, IsTup.new _ _⟩
end VM

set_option autoImplicit true
set_option linter.all false
set_option maxRecDepth 100000
set_option maxHeartbeats 4000000
/-! VM1: mini syntax and the evaluator over a virtual heap. -/
namespace VM
open PySem PySem.Spec PyProof.Rows L2

/-! ### values, objects, heaps -/
inductive W where
  | non | bl (b : Bool) | int (i : Int) | str (s : Str) | tup (ws : List W) | ref (n : Nat)
  | lit (ws : List W)          -- a list that is only read (the script)
  | fz (ws : List W)           -- a list that is written no more, by value
  | exn (c : Nat) (w : W)

def W.isNon : W → Bool
  | .non => true
  | _ => false

inductive Ob where
  | lst (ws : List W)
  | dic (lk : Bool) (kvs : List (Key × W))
  | ins (c : Nat) (fs : List (Nat × W))

structure VH where
  n : Nat
  f : Nat → Option Ob

def VH.get (h : VH) (i : Nat) : Option Ob := h.f i
def VH.alloc (h : VH) (o : Ob) : VH := ⟨h.n + 1, fun i => if i = h.n then some o else h.f i⟩
def VH.set (h : VH) (a : Nat) (o : Ob) : VH := ⟨h.n, fun i => if i = a then some o else h.f i⟩
def VH.kill (h : VH) (a : Nat) : VH := ⟨h.n, fun i => if i = a then none else h.f i⟩
/-! ### what a value refers to -/
mutual
def refsLt (n : Nat) : W → Bool
  | .tup ws => refsLts n ws
  | .lit ws => refsLts n ws
  | .fz ws => refsLts n ws
  | .ref m => decide (m < n)
  | .exn _ w => refsLt n w
  | .non => true
  | .bl _ => true
  | .int _ => true
  | .str _ => true
def refsLts (n : Nat) : List W → Bool
  | [] => true
  | w :: ws => refsLt n w && refsLts n ws
end
def obLt (n : Nat) : Ob → Bool
  | .lst ws => refsLts n ws
  | .dic _ kvs => kvs.all fun kv => refsLt n kv.2
  | .ins _ fs => fs.all fun p => refsLt n p.2
/-- what is new since may go -/
def TrimOk (h : VH) (w : W) (h1 : VH) : Prop := refsLt h.n w = true ∧ ∀ i, i < h.n → h1.f i = h.f i ∨ ∀ o, h1.f i = some o → obLt h.n o = true
def trim (h h1 : VH) : VH := ⟨h.n, fun i => if i < h.n then h1.f i else h.f i⟩

inductive R (α : Type) where
  | ok (a : α) (h : VH)
  | exc (c : Nat) (w : W) (h : VH)
  | bad

def R.bind {α β : Type} : R α → (α → VH → R β) → R β
  | .ok a h, f => f a h
  | .exc c w h, _ => .exc c w h
  | .bad, _ => .bad
@[simp] theorem R.bind_ok {α β : Type} (a : α) (h : VH) (f : α → VH → R β) : (R.ok a h).bind f = f a h := rfl
@[simp] theorem R.bind_exc {α β : Type} (c : Nat) (w : W) (h : VH) (f : α → VH → R β) : (R.exc c w h).bind f = .exc c w h := rfl
@[simp] theorem R.bind_bad {α β : Type} (f : α → VH → R β) : (R.bad : R α).bind f = .bad := rfl
theorem R.bind_bind {α β γ : Type} (m : R α) (f : α → VH → R β) (g : β → VH → R γ) : (m.bind f).bind g = m.bind fun a h => (f a h).bind g := by
  cases m <;> rfl
/-- no exception is served here -/
def R.nx {α : Type} : R α → R α
  | .ok a h => .ok a h
  | _ => .bad
@[simp] theorem R.nx_ok {α : Type} (a : α) (h : VH) : (R.ok a h).nx = .ok a h := rfl
/-- an optional value, as an answer -/
def R.of {α : Type} (h : VH) : Option α → R α
  | some a => .ok a h
  | none => .bad
open Classical in
noncomputable def trimR (h : VH) (w : W) (h1 : VH) : R W := if TrimOk h w h1 then .ok w (trim h h1) else .ok w h1
/-- a list is written no more -/
noncomputable def frzW (h : VH) (w : W) (h1 : VH) : R W := match w with
  | .ref n => match h1.f n with
    | some (.lst ws) => trimR h (.fz ws) (h1.kill n)
    | _ => .bad
  | .bl _ => .bad
  | w => trimR h w h1
noncomputable def frzR (h : VH) : R W → R W
  | .ok w h1 => frzW h w h1
  | .exc c w h1 => .exc c w h1
  | .bad => .bad
@[simp] theorem R.of_some {α : Type} (h : VH) (a : α) : R.of h (some a) = .ok a h := rfl
@[simp] theorem R.of_none {α : Type} (h : VH) : (R.of h (none : Option α)) = .bad := rfl

/-! ### the syntax -/
inductive BOp where | add | sub | mul | fdiv | mod | pow
inductive COp where | eq | ne | lt | le | gt | ge | isin | notin
inductive Ty where | int | bool | str | tuple | list
inductive Bi where
  | len | abs | max2 | min2 | max1 | min1 | sum | all | any | int | str | tuple | list | dict | sorted | sortedD | lenset | sortedset | listrange (k : Nat) | isinst (t : Ty)
inductive Bm where
  | append | extend | pop | popAt | popKey | index | count | join | split | get1 | get2 | update | upper
inductive P where
  | nm (i : Nat) | tp (ps : P) | nil | cons (p ps : P)
inductive Ik where | seq | keys | rng | zip | enum

inductive E where
  | nil | cons (e es : E)
  | var (i : Nat) | cst (w : W) | glb (g : Nat)
  | bin (o : BOp) (a b : E) | neg (a : E) | not (a : E)
  | cmp (o : COp) (a b : E) | chn (o o' : COp) (a b c : E)
  | isn (a : E) | isnn (a : E) | eqd (ng : Bool) (a : E)
  | and (a b : E) | or (a b : E) | ite (c a b : E)
  | tup (es : E) | lst (es : E) | dic0
  | fld (a : E) (f : Nat)
  | idx (a b : E) | slc (a : E) (lo hi : E) | rev (a : E)
  | call (f : Nat) (es : E) | meth (a : E) (m : Nat) (es : E) | make (c : Nat) (es : E)
  | bi (b : Bi) (es : E) | bm (a : E) (m : Bm) (es : E)
  | comp (elt : E) (tg : P) (k : Ik) (src ifs : E) (own : List Nat)
  | frz (e : E)
  | never

inductive S where
  | nil | cons (s ss : S)
  | pass | exp (e : E) | setN (i : Nat) (e : E) | setP (p : P) (e : E) | setF (a : E) (f : Nat) (e : E) | setI (a i e : E)
  | setFs (a a' : E) (f f' : Nat) (e : E)
  | par (i j : Nat) (a b : E)
  | setLc (i : Nat) (e : E)
  | ret (e : E) | retN
  | ite (c : E) (a b : S) | whl (c : E) (b : S) | for_ (p : P) (k : Ik) (src : E) (b : S)
  | frzS (i : Nat) (b : S)
  | cont | tryT (b : S) | never

@[simp] def P.L : List P → P
  | [] => .nil
  | p :: ps => .cons p (P.L ps)
@[simp] def E.L : List E → E
  | [] => .nil
  | p :: ps => .cons p (E.L ps)
@[simp] def S.L : List S → S
  | [] => .nil
  | p :: ps => .cons p (S.L ps)
abbrev VS := List (Option W)

/-! ### tables -/
structure Fd where
  np : Nat          -- parameters
  ns : Nat          -- slots
  dfl : List W      -- defaults of the last ones
  body : S
structure Tab where
  fn : Nat → Option Fd
  meth : Nat → Nat → Option Nat      -- class, method: def
  init : Nat → Option Nat            -- class: its __init__
  glb : Nat → Option W               -- module constants
  base : Nat → Nat → Bool            -- exception classes: is the first one (under) the second
  fl : Nat → Nat → Bool              -- class, field: is it one of its own

/-! ### data -/
mutual
def pdW (g : Nat → Option PyData) : W → Option PyData
  | .non => some .none
  | .bl b => some (.bool b)
  | .int i => some (.int i)
  | .str s => some (.str s)
  | .tup ws => (pdL g ws).map PyData.tuple
  | .ref n => g n
  | .lit _ => none
  | .exn _ _ => none
  | .fz ws => (pdL g ws).map PyData.list
def pdL (g : Nat → Option PyData) : List W → Option (List PyData)
  | [] => some []
  | w :: ws => match pdW g w, pdL g ws with
    | some d, some ds => some (d :: ds)
    | _, _ => none
end
/-- what a list says, as items -/
def Ob.items : Ob → Option (List W)
  | .lst ws => some ws
  | _ => none
def pdR (h : VH) : Nat → Nat → Option PyData
  | 0, _ => none
  | k + 1, n => ((h.f n).bind Ob.items).bind fun ws => (pdL (pdR h k) ws).map PyData.list
def pd (h : VH) (w : W) : Option PyData := pdW (pdR h 8) w
def pds (h : VH) (ws : List W) : Option (List PyData) := pdL (pdR h 8) ws
def small (d : PyData) : Bool := decide (d.depth ≤ 60)

def eqW (h : VH) : W → W → Option Bool
  | .int i, .int j => some (decide (i = j))
  | .str i, .str j => some (decide (i = j))
  | .bl i, .bl j => some (decide (i = j))
  | a, b => match pd h a, pd h b with
    | some x, some y => if small x && small y then some (PyData.eqv x y) else none
    | _, _ => none
def ltW (h : VH) : W → W → Option Bool
  | .int i, .int j => some (decide (i < j))
  | a, b => match pd h a, pd h b with
    | some (.tuple xs), some (.tuple ys) => if PySem.W.alike (.tuple xs) (.tuple ys) && (small (.tuple xs) && small (.tuple ys)) then some (PySem.W.dataLt (.tuple xs) (.tuple ys)) else none
    | _, _ => none
/-- items that can be sorted: their data, alike -/
def okSort (ds : List PyData) : Bool :=
  (ds.all fun d => ds.all fun e => PySem.W.alike d e) && (ds.all fun d => small d) &&
    ((ds.all fun d => match d with | .tuple (_ :: _) => true | _ => false) || (ds.all fun d => match d with | .none => false | .tuple _ => false | _ => true))
/-- the datum of a value (none: none) -/
def encD (h : VH) (w : W) : PyData := (pd h w).getD .none
def sortW (h : VH) (ws : List W) : Option (List W) := match pds h ws with
  | some ds => if okSort ds && decide (ws.length ≤ 16777216) then some (ws.mergeSort (PySem.W.dataLe false (encD h))) else none
  | none => none

/-! ### tables of pairs -/
def kvGet (kvs : List (Key × W)) (k : Key) : Option W := (kvs.find? fun kv => decide (kv.1 = k)).map (·.2)
def kvPut (kvs : List (Key × W)) (k : Key) (w : W) : List (Key × W) :=
  if (kvs.any fun kv => decide (kv.1 = k)) = true then kvs.map (fun kv => if kv.1 = k then (kv.1, w) else kv) else kvs ++ [(k, w)]
def kvDrop (kvs : List (Key × W)) (k : Key) : List (Key × W) := kvs.filter fun kv => decide (kv.1 ≠ k)
def keyW : W → Option Key
  | .int i => some (.inl i)
  | .str s => some (.inr s)
  | _ => none
/-- pairs of a key and a value -/
def kvOf : W → Option (Key × W)
  | .tup [k, w] => (keyW k).map fun k => (k, w)
  | _ => none
def kvsOf : List W → Option (List (Key × W))
  | [] => some []
  | w :: ws => match kvOf w, kvsOf ws with
    | some p, some r => some (p :: r)
    | _, _ => none
def wKey : Key → W
  | .inl i => .int i
  | .inr s => .str s
def fGet (f : Nat) (fs : List (Nat × W)) : Option W := fs.lookup f
def fPut (f : Nat) (w : W) : List (Nat × W) → List (Nat × W)
  | [] => [(f, w)]
  | (g, x) :: r => if g = f then (g, w) :: r else (g, x) :: fPut f w r

/-! ### operators -/
def one (c : Nat) : W := .str ⟨#[c]⟩
def atW (ws : List W) (i : Int) : Option W := atI ws i
def cutL {α : Type} (xs : List α) (lo hi : Option Int) : List α := (xs.drop (HT.sIx xs.length 0 lo)).take (HT.sIx xs.length xs.length hi - HT.sIx xs.length 0 lo)

def lstW (h : VH) : W → Option (List W)
  | .ref n => match h.f n with
    | some (.lst ws) => some ws
    | _ => none
  | .fz ws => some ws
  | _ => none
def binW : BOp → W → W → VH → R W
  | .add, .int i, .int j, h => .ok (.int (i + j)) h
  | .add, .str s, .str t, h => if s.length + t.length ≤ 16777216 then .ok (.str (s ++ t)) h else .bad
  | .add, .tup xs, .tup ys, h => if xs.length + ys.length ≤ 16777216 then .ok (.tup (xs ++ ys)) h else .bad
  | .add, .bl b, .int j, h => .ok (.int ((if b = true then (1 : Int) else 0) + j)) h
  | .add, a, b, h => match lstW h a, lstW h b with
    | some xs, some ys => if xs.length + ys.length ≤ 16777216 then .ok (.ref h.n) (h.alloc (.lst (xs ++ ys))) else .bad
    | _, _ => .bad
  | .sub, .int i, .int j, h => .ok (.int (i - j)) h
  | .sub, .bl b, .int j, h => .ok (.int ((if b = true then (1 : Int) else 0) - j)) h
  | .mul, .int i, .int j, h => if (-(2 ^ 64) < i ∧ i < 2 ^ 64) ∨ (-(2 ^ 64) < j ∧ j < 2 ^ 64) then .ok (.int (i * j)) h else .bad
  | .mul, .str s, .int j, h => if -1000 ≤ j ∧ j ≤ 1000 ∧ s.length ≤ 1000 then .ok (.str (Txt.mul s j)) h else .bad
  | .mul, .tup xs, .int j, h => if xs ≠ [] ∧ 1 ≤ j ∧ j ≤ 1000 ∧ xs.length ≤ 1000 then .ok (.tup (List.replicate j.toNat xs).flatten) h else .bad
  | .mul, .ref a, .int j, h => match h.f a with
    | some (.lst xs) => if 0 ≤ j ∧ j < 2 ^ 62 ∧ xs.length * j.toNat ≤ 16777216 then .ok (.ref h.n) (h.alloc (.lst (List.replicate j.toNat xs).flatten)) else .bad
    | _ => .bad
  | .fdiv, .int i, .int j, h => if 0 < j ∧ j < 1073741824 then .ok (.int (i / j)) h else .bad
  | .mod, .int i, .int j, h => if 0 < j then .ok (.int (i % j)) h else .bad
  | .pow, .int i, .int j, h => if 0 ≤ j ∧ j ≤ 1000000 ∧ i.natAbs < 2 ^ 64 then .ok (.int (i ^ j.toNat)) h else .bad
  | _, _, _, _ => .bad

/-- x in the items -/
def inItems (h : VH) (w : W) (ws : List W) : Option Bool := match pd h w, pds h ws with
  | some d, some ds => if small d && ds.all small then some (ds.any fun z => PyData.eqv z d) else none
  | _, _ => none
def inW (h : VH) : W → W → Option Bool
  | .str s, .str z => match s.cps.toList with
    | [c] => some (decide (c ∈ z.cps.toList))
    | _ => none
  | a, .tup ws => inItems h a ws
  | a, .fz ws => inItems h a ws
  | a, .ref n => match h.f n with
    | some (.lst ws) => inItems h a ws
    | some (.dic _ kvs) => (keyW a).map fun k => (kvGet kvs k).isSome
    | _ => none
  | _, _ => none
def cmpW (h : VH) : COp → W → W → Option Bool
  | .eq, a, b => eqW h a b
  | .ne, a, b => (eqW h a b).map (!·)
  | .lt, a, b => ltW h a b
  | .le, .int i, .int j => some (decide (i ≤ j))
  | .gt, .int i, .int j => some (decide (j < i))
  | .ge, .int i, .int j => some (decide (j ≤ i))
  | .isin, a, b => inW h a b
  | .notin, a, b => (inW h a b).map (!·)
  | _, _, _ => none

def idxW (h : VH) : W → W → Option W
  | .tup ws, .int i => atW ws i
  | .lit ws, .int i => atW ws i
  | .fz ws, .int i => atW ws i
  | .str z, .int i => (atI z.cps.toList i).map one
  | .ref n, w => match h.f n, w with
    | some (.lst ws), .int i => atW ws i
    | some (.dic _ kvs), w => (keyW w).bind fun k => kvGet kvs k
    | _, _ => none
  | _, _ => none
def slcW (a : W) (lo hi : Option Int) (h : VH) : R W := match a with
  | .tup ws => .ok (.tup (cutL ws lo hi)) h
  | .lit ws => .ok (.ref h.n) (h.alloc (.lst (cutL ws lo hi)))
  | .fz ws => .ok (.ref h.n) (h.alloc (.lst (cutL ws lo hi)))
  | .str z => .ok (.str (cutS z lo hi)) h
  | .ref n => match (h.f n).bind Ob.items with
    | some ws => .ok (.ref h.n) (h.alloc (.lst (cutL ws lo hi)))
    | none => .bad
  | _ => .bad
def revW (a : W) (h : VH) : R W := match a with
  | .tup ws => .ok (.tup ws.reverse) h
  | .ref n => match h.f n with
    | some (.lst ws) => .ok (.ref h.n) (h.alloc (.lst ws.reverse))
    | _ => .bad
  | .fz ws => .ok (.ref h.n) (h.alloc (.lst ws.reverse))
  | _ => .bad

/-! ### built-in functions -/
def lenW (h : VH) : W → Option Nat
  | .tup ws => some ws.length
  | .lit ws => some ws.length
  | .fz ws => some ws.length
  | .str z => some z.length
  | .ref n => match h.f n with
    | some (.lst ws) => some ws.length
    | some (.dic _ kvs) => some kvs.length
    | _ => none
  | _ => none
def intsW : List W → Option (List Int)
  | [] => some []
  | .int i :: ws => (intsW ws).map (i :: ·)
  | _ => none
def blsW : List W → Option (List Bool)
  | [] => some []
  | .bl i :: ws => (blsW ws).map (i :: ·)
  | _ => none
def strsW : List W → Option (List Str)
  | [] => some []
  | .str i :: ws => (strsW ws).map (i :: ·)
  | _ => none
/-- a list's or a tuple's items -/
def seqW (h : VH) : W → Option (List W)
  | .tup ws => some ws
  | .lit ws => some ws
  | .fz ws => some ws
  | .ref n => (h.f n).bind Ob.items
  | _ => none
def maxI : List Int → Option Int
  | [] => none
  | i :: is => some (is.foldl (fun m j => if j > m then j else m) i)
def minI : List Int → Option Int
  | [] => none
  | i :: is => some (is.foldl (fun m j => if j < m then j else m) i)
def isInst (t : Ty) (h : VH) (w : W) : Option Bool := match w with
  | .non => some false
  | .bl _ => some (match t with | .int => true | .bool => true | _ => false)
  | .int _ => some (match t with | .int => true | _ => false)
  | .str _ => some (match t with | .str => true | _ => false)
  | .tup _ => some (match t with | .tuple => true | _ => false)
  | .ref n => match h.f n with
    | some (.lst _) => some (match t with | .list => true | _ => false)
    | some (.dic _ _) => some false
    | _ => none
  | .lit _ => none
  | .exn _ _ => none
  | .fz _ => some (match t with | .list => true | _ => false)
def biW (b : Bi) (ws : List W) (h : VH) : R W := match b, ws with
  | .len, [a] => R.of h ((lenW h a).map fun n => .int (n : Nat))
  | .abs, [.int i] => .ok (.int (if i < 0 then -i else i)) h
  | .max2, [.int i, .int j] => .ok (.int (if j > i then j else i)) h
  | .min2, [.int i, .int j] => .ok (.int (if j < i then j else i)) h
  | .max1, [a] => R.of h ((((lstW h a).bind intsW).bind maxI).map W.int)
  | .min1, [a] => R.of h ((((lstW h a).bind intsW).bind minI).map W.int)
  | .sum, [a] => R.of h (((lstW h a).bind intsW).map fun is => .int is.sum)
  | .all, [a] => R.of h (((lstW h a).bind blsW).map fun bs => .bl (bs.all id))
  | .any, [a] => R.of h (((lstW h a).bind blsW).map fun bs => .bl (bs.any id))
  | .int, [.int i] => .ok (.int i) h
  | .int, [.bl b] => .ok (.int (if b then 1 else 0)) h
  | .int, [.str s] => if s.length ≤ 640 then R.of h ((PySem.intText? s).map W.int) else .bad
  | .str, [.bl b] => .ok (.str (if b = true then "True" else "False")) h
  | .str, [.int i] => if i.natAbs.log2 < 1920 then .ok (.str (toString i)) h else .bad
  | .tuple, [a] => R.of h ((seqW h a).map W.tup)
  | .list, [a] => match seqW h a with
    | some ws => .ok (.ref h.n) (h.alloc (.lst ws))
    | none => .bad
  | .dict, [.fz ws] => match kvsOf ws with
    | some kvs => .ok (.ref h.n) (h.alloc (.dic false (kvs.foldl (fun a p => kvPut a p.1 p.2) [])))
    | none => .bad
  | .sorted, [a] => match (lstW h a).bind (sortW h) with
    | some ws => .ok (.ref h.n) (h.alloc (.lst ws))
    | none => .bad
  | .sortedD, [.ref n] => match h.f n with
    | some (.dic _ kvs) => match sortW h (kvs.map fun kv => wKey kv.1) with
      | some ws => .ok (.ref h.n) (h.alloc (.lst ws))
      | none => .bad
    | _ => .bad
  | .lenset, [a] => R.of h (((lstW h a).bind fun ws => if (ws.all fun w => (keyW w).isSome) && decide (ws.length ≤ 4000) then some (dedK (ws.filterMap keyW)).length else none).map fun n => .int (n : Nat))
  | .sortedset, [a] => match (lstW h a).bind fun ws => if ws.all fun w => (keyW w).isSome then sortW h ((dedK (ws.filterMap keyW)).map wKey) else none with
    | some ws => .ok (.ref h.n) (h.alloc (.lst ws))
    | none => .bad
  | .listrange _, [.int i] => if 0 ≤ i ∧ i ≤ 16777216 then .ok (.ref h.n) (h.alloc (.lst ((List.range i.toNat).map fun k => .int (k : Nat)))) else .bad
  | .listrange _, [.int i, .int j] => if -(2 ^ 60) < i ∧ i < 2 ^ 60 ∧ -(2 ^ 60) < j ∧ j < 2 ^ 60 ∧ (j - i).toNat ≤ 16777216 then .ok (.ref h.n) (h.alloc (.lst ((List.range (j - i).toNat).map fun k => .int (i + (k : Nat))))) else .bad
  | .isinst t, [a] => R.of h ((isInst t h a).map W.bl)
  | _, _ => .bad

/-! ### built-in methods -/
def idxOf (h : VH) (w : W) (ws : List W) : Option Nat := match pd h w, pds h ws with
  | some d, some ds => if small d && ds.all small then ds.findIdx? (fun z => PyData.eqv z d) else none
  | _, _ => none
def cntOf (h : VH) (w : W) (ws : List W) : Option Nat := match w with
  | .int i => (intsW ws).map fun is => is.count i
  | _ => none
/-- what the method's owner is -/
def bmK (m : Bm) (a : W) (h : VH) : Bool := match m, a with
  | .join, .str _ => true
  | .split, .str _ => true
  | .upper, .str _ => true
  | .append, .ref n => (h.f n).bind Ob.items |>.isSome
  | .extend, .ref n => (h.f n).bind Ob.items |>.isSome
  | .pop, .ref n => (h.f n).bind Ob.items |>.isSome
  | .popAt, .ref n => (h.f n).bind Ob.items |>.isSome
  | .index, .ref n => (h.f n).bind Ob.items |>.isSome
  | .index, .fz _ => true
  | .count, .ref n => (h.f n).bind Ob.items |>.isSome
  | .popKey, .ref n => (match h.f n with | some (.dic false _) => true | _ => false)
  | .get1, .ref n => (match h.f n with | some (.dic false _) => true | _ => false)
  | .get2, .ref n => (match h.f n with | some (.dic false _) => true | _ => false)
  | .update, .ref n => (match h.f n with | some (.dic false _) => true | _ => false)
  | _, _ => false
def bmW (m : Bm) (a : W) (ws : List W) (h : VH) : R W := match m, a, ws with
  | .append, .ref n, [w] => match h.f n with
    | some (.lst xs) => if xs.length < 16777216 then .ok .non (h.set n (.lst (xs ++ [w]))) else .bad
    | _ => .bad
  | .extend, .ref n, [b] => match h.f n, lstW h b with
    | some (.lst xs), some ys => if xs.length + ys.length ≤ 16777216 then .ok .non (h.set n (.lst (xs ++ ys))) else .bad
    | _, _ => .bad
  | .pop, .ref n, [] => match h.f n with
    | some (.lst xs) => match xs.getLast? with
      | some w => .ok w (h.set n (.lst xs.dropLast))
      | none => .bad
    | _ => .bad
  | .popAt, .ref n, [.int i] => match h.f n with
    | some (.lst xs) => if 0 ≤ i ∧ i < (xs.length : Int) ∧ i < 2 ^ 60 then (match xs[i.toNat]? with
      | some w => .ok w (h.set n (.lst (xs.eraseIdx i.toNat)))
      | none => .bad) else .bad
    | _ => .bad
  | .popKey, .ref n, [w] => match h.f n with
    | some (.dic false kvs) => match (keyW w).bind fun k => (kvGet kvs k).map fun v => (k, v) with
      | some (k, v) => .ok v (h.set n (.dic false (kvDrop kvs k)))
      | none => .bad
    | _ => .bad
  | .index, a, [w] => R.of h (((lstW h a).bind (idxOf h w)).map fun n => .int (n : Nat))
  | .count, a, [w] => R.of h (((lstW h a).bind (cntOf h w)).map fun n => .int (n : Nat))
  | .join, .str z, [a] => match (seqW h a).bind strsW with
    | some ys => if (ys.map (·.length)).sum + ys.length * z.length ≤ 16777216 then .ok (.str (Txt.join z ys)) h else .bad
    | none => .bad
  | .split, .str s, [.str z] => if z.length ≠ 0 ∧ s.length + 2 ≤ 16777216 then .ok (.ref h.n) (h.alloc (.lst ((Txt.split s z).map W.str))) else .bad
  | .get1, .ref n, [w] => match h.f n with
    | some (.dic _ kvs) => R.of h ((keyW w).map fun k => (kvGet kvs k).getD .non)
    | _ => .bad
  | .get2, .ref n, [w, d] => match h.f n with
    | some (.dic _ kvs) => R.of h ((keyW w).map fun k => (kvGet kvs k).getD d)
    | _ => .bad
  | .update, .ref n, [.ref b] => match h.f n, h.f b with
    | some (.dic false kvs), some (.dic _ more) => if n = b then .bad else .ok .non (h.set n (.dic false (more.foldl (fun acc kv => kvPut acc kv.1 kv.2) kvs)))
    | _, _ => .bad
  | .upper, .str s, [] => if s.length ≤ 5592405 ∧ (PyData.strOk (Txt.upper s) = true ∧ (Txt.upper s).length ≤ 16777216) then .ok (.str (Txt.upper s)) h else .bad
  | _, _, _ => .bad

/-! ### targets -/
mutual
@[simp] def asg : P → W → VS → Option VS
  | .nm i, w, s => some (s.set i (some w))
  | .tp ps, w, s => match w with
    | .tup ws => asgs ps ws s
    | _ => none
  | _, _, _ => none
@[simp] def asgs : P → List W → VS → Option VS
  | .nil, [], s => some s
  | .cons p ps, w :: ws, s => (asg p w s).bind fun s1 => asgs ps ws s1
  | _, _, _ => none
end
def wipeV (s : VS) : List Nat → VS
  | [] => s
  | v :: vs => (wipeV s vs).set v none

/-! ### walks -/
inductive Fl where
  | nx (s : VS) | rt (w : W) | ct (s : VS)
open Classical in
/-- a for's turns; g: what is walked stands still -/
noncomputable def forGo (g : VH → Prop) (f : W → VS → VH → R Fl) : List W → VS → VH → R Fl
  | [], s, h => if g h then .ok (.nx s) h else .bad
  | w :: ws, s, h => if g h then (f w s h).bind fun fl h1 => match fl with
    | .nx s1 => forGo g f ws s1 h1
    | .ct s1 => forGo g f ws s1 h1
    | .rt v => .ok (.rt v) h1 else .bad
def consO : Option W → List W → List W
  | some y, ys => y :: ys
  | none, ys => ys
open Classical in
noncomputable def compGo (g : VH → Prop) (f : W → VH → R (Option W)) : List W → VH → R (List W)
  | [], h => if g h then .ok [] h else .bad
  | w :: ws, h => if g h then (f w h).nx.bind fun o h1 => (compGo g f ws h1).bind fun ys h2 => .ok (consO o ys) h2 else .bad
def whGo (c : VS → VH → R Bool) (b : VS → VH → R Fl) : Nat → VS → VH → Option (R Fl)
  | 0, _, _ => none
  | k + 1, s, h => match c s h with
    | .ok false h1 => some (.ok (.nx s) h1)
    | .ok true h1 => (match b s h1 with
      | .ok (.nx s1) h2 => whGo c b k s1 h2
      | .ok (.ct s1) h2 => whGo c b k s1 h2
      | .ok (.rt w) h2 => some (.ok (.rt w) h2)
      | .exc x w h2 => some (.exc x w h2)
      | .bad => some .bad)
    | .exc x w h1 => some (.exc x w h1)
    | .bad => some .bad
open Classical in
noncomputable def whR (c : VS → VH → R Bool) (b : VS → VH → R Fl) (s : VS) (h : VH) : R Fl :=
  if e : ∃ k r, whGo c b k s h = some r then e.choose_spec.choose else .bad
def zipW : List W → List W → List W
  | x :: xs, y :: ys => .tup [x, y] :: zipW xs ys
  | _, _ => []
def enumW : Nat → List W → List W
  | _, [] => []
  | k, x :: xs => .tup [.int (k : Nat), x] :: enumW (k + 1) xs
/-- the items that are walked, and what must stand still -/
def srcW (k : Ik) (ws : List W) (h : VH) : Option (List W × (VH → Prop)) := match k, ws with
  | .seq, [.tup xs] => some (xs, fun _ => True)
  | .seq, [.lit xs] => some (xs, fun _ => True)
  | .seq, [.fz xs] => some (xs, fun _ => True)
  | .seq, [.str z] => some (z.cps.toList.map one, fun _ => True)
  | .seq, [.ref n] => match h.f n with
    | some (.lst xs) => some (xs, fun h' => h'.f n = some (.lst xs))
    | _ => none
  | .keys, [.ref n] => match h.f n with
    | some (.dic true kvs) => some (kvs.map fun kv => wKey kv.1, fun h' => h'.f n = some (.dic true kvs))
    | _ => none
  | .rng, [.int j] => if -(2 ^ 62) ≤ j ∧ j < 2 ^ 62 then some ((List.range j.toNat).map fun (k : Nat) => .int k, fun _ => True) else none
  | .rng, [.int i, .int j] => if (-(2 ^ 62) ≤ i ∧ i < 2 ^ 62) ∧ (-(2 ^ 62) ≤ j ∧ j < 2 ^ 62) then some ((List.range (j - i).toNat).map fun (k : Nat) => .int (i + k), fun _ => True) else none
  | .rng, [.int i, .int j, .int c] => if c = -1 ∧ (-(2 ^ 60) ≤ i ∧ i < 2 ^ 60) ∧ (-(2 ^ 60) ≤ j ∧ j < 2 ^ 60) then some ((List.range (i - j).toNat).map fun (k : Nat) => .int (i - k), fun _ => True) else none
  | .zip, [.tup xs, .tup ys] => some (zipW xs ys, fun _ => True)
  | .zip, [.fz xs, .fz ys] => some (zipW xs ys, fun _ => True)
  | .zip, [.ref n, .ref m] => match h.f n, h.f m with
    | some (.lst xs), some (.lst ys) => some (zipW xs ys, fun h' => h'.f n = some (.lst xs) ∧ h'.f m = some (.lst ys))
    | _, _ => none
  | .enum, [.tup xs] => some (enumW 0 xs, fun _ => True)
  | .enum, [.fz xs] => some (enumW 0 xs, fun _ => True)
  | .enum, [.ref n] => match h.f n with
    | some (.lst xs) => some (enumW 0 xs, fun h' => h'.f n = some (.lst xs))
    | _ => none
  | _, _ => none
/-- the dict that is walked, locked -/
def lockW (k : Ik) (ws : List W) (h : VH) : Option (Nat × List (Key × W)) := match k, ws with
  | .keys, [.ref n] => match h.f n with
    | some (.dic false kvs) => some (n, kvs)
    | _ => none
  | _, _ => none

def preW (k : Ik) (r : R (List W)) (h : VH) : Option (Nat × List (Key × W)) := match r with
  | .ok xs _ => lockW k xs h
  | _ => none
/-- a comprehension's turns -/
noncomputable def compB (k : Ik) (src : VH → R (List W)) (f : W → VH → R (Option W)) (h : VH) : R (List W) := (src h).bind fun xs h1 => match srcW k xs h1 with
  | some (its, g) => if its.length ≤ 16777216 then compGo g f its h1 else .bad
  | none => .bad
noncomputable def compL (k : Ik) (src : VH → R (List W)) (f : W → VH → R (Option W)) (h : VH) : R W := match preW k (src h) h with
  | some (n, kvs) => (compB k src f (h.set n (.dic true kvs))).nx.bind fun ys h2 => .ok (.ref h2.n) ((h2.alloc (.lst ys)).set n (.dic false kvs))
  | none => (compB k src f h).bind fun ys h2 => .ok (.ref h2.n) (h2.alloc (.lst ys))
noncomputable def forB (k : Ik) (src : VH → R (List W)) (f : W → VS → VH → R Fl) (s : VS) (h : VH) : R Fl := (src h).bind fun xs h1 => match srcW k xs h1 with
  | some (its, g) => forGo g f its s h1
  | none => .bad
noncomputable def forL (k : Ik) (src : VH → R (List W)) (f : W → VS → VH → R Fl) (s : VS) (h : VH) : R Fl := match preW k (src h) h with
  | some (n, kvs) => (forB k src f s (h.set n (.dic true kvs))).nx.bind fun fl h2 => .ok fl (h2.set n (.dic false kvs))
  | none => forB k src f s h

/-! ### the evaluator -/
def blR {α : Type} (w : W) (h : VH) (f : Bool → R α) : R α := match w with
  | .bl b => f b
  | _ => .bad
def intO : W → Option Int
  | .int i => some i
  | _ => none
section
variable (T : Tab) (c1 c2 : Nat → List W → VH → R W)
mutual
@[simp] noncomputable def ev : E → VS → VH → R W
  | .var i, s, h => R.of h (s[i]?).join
  | .cst w, _, h => .ok w h
  | .glb g, _, h => R.of h (T.glb g)
  | .bin o a b, s, h => (ev a s h).bind fun x h1 => (ev b s h1).bind fun y h2 => binW o x y h2
  | .neg a, s, h => (ev a s h).bind fun x h1 => match x with | .int i => .ok (.int (-i)) h1 | _ => .bad
  | .not a, s, h => (ev a s h).bind fun x h1 => blR x h1 fun b => .ok (.bl (!b)) h1
  | .cmp o a b, s, h => (ev a s h).bind fun x h1 => (ev b s h1).bind fun y h2 => R.of h2 ((cmpW h2 o x y).map W.bl)
  | .chn o o' a b c, s, h => (ev a s h).bind fun x h1 => (ev b s h1).bind fun y h2 => match cmpW h2 o x y with
    | some true => (ev c s h2).bind fun z h3 => R.of h3 ((cmpW h3 o' y z).map W.bl)
    | some false => .ok (.bl false) h2
    | none => .bad
  | .isn a, s, h => (ev a s h).bind fun x h1 => .ok (.bl x.isNon) h1
  | .isnn a, s, h => (ev a s h).bind fun x h1 => .ok (.bl (!x.isNon)) h1
  | .eqd ng a, s, h => (ev a s h).bind fun x h1 => match x with
    | .ref n => (match h1.f n with
      | some (.dic _ kvs) => .ok (.bl (if ng then !kvs.isEmpty else kvs.isEmpty)) h1
      | _ => .bad)
    | _ => .bad
  | .and a b, s, h => (ev a s h).bind fun x h1 => blR x h1 fun c => if c then ev b s h1 else .ok (.bl false) h1
  | .or a b, s, h => (ev a s h).bind fun x h1 => blR x h1 fun c => if c then .ok (.bl true) h1 else ev b s h1
  | .ite c a b, s, h => (ev c s h).bind fun x h1 => blR x h1 fun c => if c then ev a s h1 else ev b s h1
  | .tup es, s, h => (evs es s h).bind fun ws h1 => if ws.length ≤ 16777216 then .ok (.tup ws) h1 else .bad
  | .lst es, s, h => (evs es s h).bind fun ws h1 => if ws.length ≤ 16777216 then .ok (.ref h1.n) (h1.alloc (.lst ws)) else .bad
  | .dic0, _, h => .ok (.ref h.n) (h.alloc (.dic false []))
  | .fld a f, s, h => (ev a s h).bind fun x h1 => match x with
    | .ref n => (match h1.f n with
      | some (.ins _ fs) => R.of h1 (fGet f fs)
      | _ => .bad)
    | _ => .bad
  | .idx a b, s, h => (ev a s h).bind fun x h1 => (ev b s h1).bind fun y h2 => R.of h2 (idxW h2 x y)
  | .slc a lo hi, s, h => (ev a s h).bind fun x h1 => (evo lo s h1).bind fun l h2 => (evo hi s h2).bind fun u h3 => slcW x l u h3
  | .rev a, s, h => (ev a s h).bind fun x h1 => revW x h1
  | .call f es, s, h => (evs es s h).bind fun ws h1 => c1 f ws h1
  | .meth a m es, s, h => (ev a s h).bind fun x h1 => match x with
    | .ref n => (match h1.f n with
      | some (.ins c _) => (match T.meth c m with
        | some f => (evs es s h1).bind fun ws h2 => c1 f (.ref n :: ws) h2
        | none => .bad)
      | _ => .bad)
    | _ => .bad
  | .make c es, s, h => (evs es s h).bind fun ws h1 => match T.init c with
    | some f => (c2 f (.ref h1.n :: ws) (h1.alloc (.ins c []))).bind fun w h2 => match w with
      | .non => .ok (.ref h1.n) h2
      | _ => .bad
    | none => .bad
  | .bi b es, s, h => (evs es s h).bind fun ws h1 => biW b ws h1
  | .bm a m es, s, h => (ev a s h).bind fun x h1 => if bmK m x h1 then (evs es s h1).bind fun ws h2 => bmW m x ws h2 else .bad
  | .comp elt tg k src ifs own, s, h => compL k (evs src s) (fun w h2 => match asg tg w (wipeV s own) with
      | some s2 => (evi ifs s2 h2).bind fun b h3 => if b then (ev elt s2 h3).bind fun y h4 => .ok (some y) h4 else .ok none h3
      | none => .bad) h
  | .frz a, s, h => frzR h (ev a s h)
  | _, _, _ => .bad
@[simp] noncomputable def evs : E → VS → VH → R (List W)
  | .nil, _, h => .ok [] h
  | .cons e es, s, h => (ev e s h).bind fun w h1 => (evs es s h1).bind fun ws h2 => .ok (w :: ws) h2
  | _, _, _ => .bad
/-- the tests of a comprehension -/
@[simp] noncomputable def evi : E → VS → VH → R Bool
  | .nil, _, h => .ok true h
  | .cons e .nil, s, h => (ev e s h).bind fun w h1 => blR w h1 fun b => .ok b h1
  | _, _, _ => .bad
/-- a part of a slice -/
@[simp] noncomputable def evo : E → VS → VH → R (Option Int)
  | .nil, _, h => .ok none h
  | .cons e .nil, s, h => (ev e s h).bind fun w h1 => R.of h1 ((intO w).map some)
  | _, _, _ => .bad
end
end

section
variable (T : Tab) (c1 c2 : Nat → List W → VH → R W)
@[simp] noncomputable def exS : S → VS → VH → R Fl
  | .nil, s, h => .ok (.nx s) h
  | .cons a b, s, h => (exS a s h).bind fun fl h1 => match fl with
    | .nx s1 => exS b s1 h1
    | .ct s1 => .ok (.ct s1) h1
    | .rt w => .ok (.rt w) h1
  | .pass, s, h => .ok (.nx s) h
  | .exp e, s, h => (ev T c1 c2 e s h).bind fun _ h1 => .ok (.nx s) h1
  | .setN i e, s, h => (ev T c1 c2 e s h).bind fun w h1 => .ok (.nx (s.set i (some w))) h1
  | .setLc i e, s, h => (ev T c1 c2 e s h).bind fun w h1 => .ok (.nx (s.set i (some w))) h1
  | .setP p e, s, h => (ev T c1 c2 e s h).bind fun w h1 => match asg p w s with
    | some s1 => .ok (.nx s1) h1
    | none => .bad
  | .par i j a b, s, h => (ev T c1 c2 a s h).bind fun x h1 => (ev T c1 c2 b s h1).bind fun y h2 => .ok (.nx ((s.set i (some x)).set j (some y))) h2
  | .setF a f e, s, h => (ev T c1 c2 e s h).bind fun w h1 => (ev T c1 c2 a s h1).bind fun x h2 => match x with
    | .ref n => (match h2.f n with
      | some (.ins c fs) => if fs.length < 1000 ∧ T.fl c f = true then .ok (.nx s) (h2.set n (.ins c (fPut f w fs))) else .bad
      | _ => .bad)
    | _ => .bad
  | .setI a i e, s, h => (ev T c1 c2 e s h).bind fun w h1 => (ev T c1 c2 a s h1).bind fun x h2 => (ev T c1 c2 i s h2).bind fun y h3 => match x with
    | .ref n => (match h3.f n, y with
      | some (.lst xs), .int k => (match ixN xs.length k with
        | some j => .ok (.nx s) (h3.set n (.lst (xs.set j w)))
        | none => .bad)
      | some (.dic false kvs), y => (match keyW y with
        | some k => if kvs.length < 16777216 then .ok (.nx s) (h3.set n (.dic false (kvPut kvs k w))) else .bad
        | none => .bad)
      | _, _ => .bad)
    | _ => .bad
  | .setFs a a' f f' e, s, h => (ev T c1 c2 e s h).bind fun w h1 => match w with
    | .tup [u, v] => (ev T c1 c2 a s h1).bind fun x h2 => (match x with
      | .ref n => (match h2.f n with
        | some (.ins c fs) => if fs.length < 1000 ∧ T.fl c f = true then (ev T c1 c2 a' s (h2.set n (.ins c (fPut f u fs)))).bind fun x' h3 => (match x' with
          | .ref n' => (match h3.f n' with
            | some (.ins c' fs') => if fs'.length < 1000 ∧ T.fl c' f' = true then .ok (.nx s) (h3.set n' (.ins c' (fPut f' v fs'))) else .bad
            | _ => .bad)
          | _ => .bad) else .bad
        | _ => .bad)
      | _ => .bad)
    | _ => .bad
  | .ret e, s, h => (ev T c1 c2 e s h).bind fun w h1 => .ok (.rt w) h1
  | .retN, _, h => .ok (.rt .non) h
  | .ite c a b, s, h => (ev T c1 c2 c s h).bind fun x h1 => blR x h1 fun t => if t then exS a s h1 else exS b s h1
  | .whl c b, s, h => whR (fun s h => (ev T c1 c2 c s h).bind fun x h1 => blR x h1 fun t => .ok t h1) (exS b) s h
  | .for_ p k src b, s, h => forL k (evs T c1 c2 src s) (fun w s2 h2 => match asg p w s2 with
      | some s3 => exS b s3 h2
      | none => .bad) s h
  | .cont, s, h => .ok (.ct s) h
  | .tryT b, s, h => exS b s h
  | .frzS i b, s, h => (exS b s h).bind fun fl h1 => match fl with
    | .nx s1 => (match (s1[i]?).join with
      | some (.ref n) => (match h1.f n with
        | some (.lst ws) => .ok (.nx (s1.set i (some (.fz ws)))) (h1.kill n)
        | _ => .bad)
      | _ => .bad)
    | .ct s1 => .ok (.ct s1) h1
    | .rt w => .ok (.rt w) h1
  | .never, _, _ => .bad
end

@[simp] def startV (d : Fd) (ws : List W) : VS := ws.map some ++ List.replicate (d.ns - ws.length) none
def fillW (d : Fd) (ws : List W) : List W := ws ++ d.dfl.drop (d.dfl.length - (d.np - ws.length))
/-- a call, with so many levels below -/
noncomputable def callF (T : Tab) : Nat → Nat → List W → VH → R W
  | 0, _, _, _ => .bad
  | k + 1, f, ws, h => match T.fn f with
    | none => .bad
    | some d => if (fillW d ws).length = d.np then (exS T (callF T k) (callF T (k - 1)) d.body (startV d (fillW d ws)) h).bind fun fl h1 => (match fl with
      | .rt w => trimR h w h1
      | .nx _ => trimR h .non h1
      | .ct _ => .bad) else .bad
end VM

set_option autoImplicit true
set_option linter.all false
set_option maxRecDepth 100000
set_option maxHeartbeats 4000000
/-! VM2: how the virtual heap stands for the hand layer's heap. -/
namespace VM
open PySem PySem.Spec PyProof.Rows L2

/-! ### relations -/
abbrev Rho := Nat → Option Addr
def SOk (s : Str) : Prop := PySem.PyData.strOk s = true ∧ s.length ≤ 16777216
/-- a tuple, a list that stands in the written part -/
def KT (K : PySem.W.Frag) (T : String) (a : Addr) (xs : List V) : Prop :=
  ∃ (o : Obj) (its : Array Value) (n : Nat), K.lookup a = some o ∧ o.cls = .type T ∧ (T = "list" → o.dict = none) ∧ o.data = .seq its n ∧ its.size ≤ sizeLine ∧ Vals xs its.toList
def TupAt (K : PySem.W.Frag) (H : Hp) (a : Addr) (xs : List V) : Prop := H a = some (.tup xs) ∨ KT K "tuple" a xs
def LitAt (K : PySem.W.Frag) (H : Hp) (a : Addr) (xs : List V) : Prop := (∃ o, H a = some (.frz o (.lst xs))) ∨ KT K "list" a xs
theorem TupAt.sq {K : PySem.W.Frag} {H : Hp} {a : Addr} {xs : List V} (h : TupAt K H a xs) : SqT K H a xs := by
  rcases h with h | ⟨o, its, n, h1, h2, _, h3, h4, h5⟩
  · exact .inl (.inl h)
  · exact .inr ⟨o, its, n, h1, h2, h3, h4, h5⟩
theorem LitAt.sq {K : PySem.W.Frag} {H : Hp} {a : Addr} {xs : List V} (h : LitAt K H a xs) : SqL K H a xs := by
  rcases h with h | ⟨o, its, n, h1, h2, h0, h3, h4, h5⟩
  · exact .inl (.inr h)
  · exact .inr ⟨o, its, n, h1, h2, h0 rfl, h3, h4, h5⟩

section
variable (K : PySem.W.Frag) (ρ : Rho) (H : Hp)
mutual
def RV : W → V → Prop
  | .non, v => v = .non
  | .bl b, v => v = .bl b
  | .int i, v => v = .int i
  | .str s, v => v = .str s ∧ SOk s
  | .tup ws, v => ∃ a vs, v = .ref a ∧ TupAt K H a vs ∧ RVs ws vs
  | .lit ws, v => ∃ a vs, v = .ref a ∧ LitAt K H a vs ∧ RVs ws vs
  | .ref n, v => ∃ a, ρ n = some a ∧ v = .ref a
  | .exn _ _, _ => False
  | .fz ws, v => ∃ a vs, v = .ref a ∧ (∃ o, H a = some (.frz o (.lst vs))) ∧ RVs ws vs
def RVs : List W → List V → Prop
  | [], vs => vs = []
  | w :: ws, vs => ∃ v r, vs = v :: r ∧ RV w v ∧ RVs ws r
end
end
/-- what is static: classes' addresses, fields' names -/
structure Sta where
  ca : Nat → Addr
  fnm : Nat → Str
  fl : Nat → Nat → Bool
def RKv (K : PySem.W.Frag) (ρ : Rho) (H : Hp) : List (Key × W) → List (Key × V) → Prop := Paired fun p q => p.1 = q.1 ∧ RV K ρ H p.2 q.2 ∧ (∀ s, p.1 = .inr s → SOk s)
def RFs (K : PySem.W.Frag) (G : Sta) (ρ : Rho) (H : Hp) : List (Nat × W) → List (Str × V) → Prop := Paired fun p q => G.fnm p.1 = q.1 ∧ RV K ρ H p.2 q.2
def OR (K : PySem.W.Frag) (G : Sta) (ρ : Rho) (H : Hp) (a : Addr) : Ob → Prop
  | .lst ws => ∃ vs, H a = some (.lst vs) ∧ RVs K ρ H ws vs
  | .dic lk kvs => ∃ kvs', RKv K ρ H kvs kvs' ∧ if lk then ∃ o, H a = some (.frz o (.dK kvs')) else H a = some (.dK kvs')
  | .ins c fs => ∃ dx fs', H a = some (.ins (G.ca c) dx fs') ∧ RFs K G ρ H fs fs' ∧ ∀ p ∈ fs, G.fl c p.1 = true
structure Rl (K : PySem.W.Frag) (G : Sta) (ρ : Rho) (h : VH) (H : Hp) : Prop where
  inj : ∀ i j a, ρ i = some a → ρ j = some a → i = j
  lt : ∀ i a, ρ i = some a → i < h.n
  tot : ∀ i, i < h.n → ∃ a, ρ i = some a
  wf : ∀ i o, h.f i = some o → i < h.n
  tr : ∀ i a, ρ i = some a → H a ≠ none
  nt : ∀ i a, ρ i = some a → ∀ xs, H a ≠ some (.tup xs)
  obj : ∀ i o, h.f i = some o → ∃ a, ρ i = some a ∧ OR K G ρ H a o
structure Le (ρ : Rho) (H : Hp) (ρ' : Rho) (H' : Hp) : Prop where
  ext : ∀ i a, ρ i = some a → ρ' i = some a
  fr : ∀ a o, H a = some o → (∀ i, ρ i ≠ some a) → H' a = some o
  new : ∀ i a, ρ' i = some a → ρ i = some a ∨ H a = none
  there : ∀ a, H' a = none → H a = none
  tp : ∀ a xs, H a = some (.tup xs) → H' a = some (.tup xs)
  tf : ∀ a o u, H a = some (.frz o u) → H' a = some (.frz o u)
theorem Le.refl {ρ : Rho} {H : Hp} : Le ρ H ρ H := ⟨fun _ _ e => e, fun _ _ e _ => e, fun _ _ e => .inl e, fun _ e => e, fun _ _ e => e, fun _ _ _ e => e⟩
theorem Le.trans {ρ ρ1 ρ2 : Rho} {H H1 H2 : Hp} (a : Le ρ H ρ1 H1) (b : Le ρ1 H1 ρ2 H2) : Le ρ H ρ2 H2 where
  ext := fun i x e => b.ext i x (a.ext i x e)
  fr := fun x o e n => b.fr x o (a.fr x o e n) fun i z => by
    rcases a.new i x z with q | q
    · exact n i q
    · rw [e] at q; cases q
  new := fun i x e => by
    rcases b.new i x e with q | q
    · exact a.new i x q
    · exact .inr (a.there x q)
  there := fun x e => a.there x (b.there x e)
  tp := fun x xs e => b.tp x xs (a.tp x xs e)
  tf := fun x o xs e => b.tf x o xs (a.tf x o xs e)

section
variable {K : PySem.W.Frag} {G : Sta} {ρ ρ' : Rho} {H H' : Hp} {h h' : VH}
/-- what values live by -/
structure Lw (ρ : Rho) (H : Hp) (ρ' : Rho) (H' : Hp) : Prop where
  ext : ∀ i a, ρ i = some a → ρ' i = some a
  tp : ∀ a xs, H a = some (.tup xs) → H' a = some (.tup xs)
  tf : ∀ a o xs, H a = some (.frz o (.lst xs)) → H' a = some (.frz o (.lst xs))
theorem Le.w (l : Le ρ H ρ' H') : Lw ρ H ρ' H' := ⟨l.ext, l.tp, fun a o xs e => l.tf a o _ e⟩
theorem TupAt.mono {a : Addr} {xs : List V} (l : Le ρ H ρ' H') (t : TupAt K H a xs) : TupAt K H' a xs := t.imp (l.tp a xs) id
theorem LitAt.mono {a : Addr} {xs : List V} (l : Le ρ H ρ' H') (t : LitAt K H a xs) : LitAt K H' a xs := t.imp (fun ⟨o, e⟩ => ⟨o, l.tf a o _ e⟩) id
mutual
theorem RV.monoW (l : Lw ρ H ρ' H') : ∀ (w : W) (v : V), RV K ρ H w v → RV K ρ' H' w v
  | .non, _, e => e
  | .bl _, _, e => e
  | .int _, _, e => e
  | .str _, _, e => e
  | .tup ws, v, e => by
    unfold RV at e ⊢
    obtain ⟨a, vs, e1, t, r⟩ := e
    exact ⟨a, vs, e1, t.imp (l.tp a vs) id, RVs.monoW l ws vs r⟩
  | .lit ws, v, e => by
    unfold RV at e ⊢
    obtain ⟨a, vs, e1, t, r⟩ := e
    exact ⟨a, vs, e1, t.imp (fun ⟨o, e⟩ => ⟨o, l.tf a o vs e⟩) id, RVs.monoW l ws vs r⟩
  | .ref n, _, ⟨a, e, q⟩ => ⟨a, l.ext n a e, q⟩
  | .exn _ _, _, e => e.elim
  | .fz ws, v, e => by
    unfold RV at e ⊢
    obtain ⟨a, vs, e1, ⟨o, t⟩, r⟩ := e
    exact ⟨a, vs, e1, ⟨o, l.tf a o vs t⟩, RVs.monoW l ws vs r⟩
theorem RVs.monoW (l : Lw ρ H ρ' H') : ∀ (ws : List W) (vs : List V), RVs K ρ H ws vs → RVs K ρ' H' ws vs
  | [], _, e => e
  | w :: ws, vs, e => by
    unfold RVs at e ⊢
    obtain ⟨v, r, e1, a, b⟩ := e
    exact ⟨v, r, e1, RV.monoW l w v a, RVs.monoW l ws r b⟩
end
theorem RV.mono (l : Le ρ H ρ' H') (w : W) (v : V) (r : RV K ρ H w v) : RV K ρ' H' w v := RV.monoW l.w w v r
theorem RVs.mono (l : Le ρ H ρ' H') (ws : List W) (vs : List V) (r : RVs K ρ H ws vs) : RVs K ρ' H' ws vs := RVs.monoW l.w ws vs r
theorem Paired.imp2 {α β : Type} {F F' : α → β → Prop} : ∀ {xs : List α} {ys : List β}, Paired F xs ys → (∀ x y, F x y → F' x y) → Paired F' xs ys
  | _, _, .nil, _ => .nil
  | _, _, .cons a r, f => .cons (f _ _ a) (Paired.imp2 r f)
theorem RKv.mono (l : Le ρ H ρ' H') {a b} (r : RKv K ρ H a b) : RKv K ρ' H' a b := Paired.imp2 r fun _ _ q => ⟨q.1, q.2.1.mono l, q.2.2⟩
theorem RFs.mono (l : Le ρ H ρ' H') {a b} (r : RFs K G ρ H a b) : RFs K G ρ' H' a b := Paired.imp2 r fun _ _ q => ⟨q.1, q.2.mono l⟩
theorem RKv.monoW (l : Lw ρ H ρ' H') {a b} (r : RKv K ρ H a b) : RKv K ρ' H' a b := Paired.imp2 r fun _ _ q => ⟨q.1, q.2.1.monoW l, q.2.2⟩
theorem RFs.monoW (l : Lw ρ H ρ' H') {a b} (r : RFs K G ρ H a b) : RFs K G ρ' H' a b := Paired.imp2 r fun _ _ q => ⟨q.1, q.2.monoW l⟩
theorem OR.monoW {a : Addr} {o : Ob} (l : Lw ρ H ρ' H') (e : H' a = H a) (r : OR K G ρ H a o) : OR K G ρ' H' a o := by
  cases o with
  | lst ws => obtain ⟨vs, q, r⟩ := r; exact ⟨vs, by rw [e]; exact q, r.monoW l⟩
  | dic lk kvs =>
    obtain ⟨vs, r, q⟩ := r
    refine ⟨vs, r.monoW l, ?_⟩
    rw [e]; exact q
  | ins c fs => obtain ⟨dx, vs, q, r, z⟩ := r; exact ⟨dx, vs, by rw [e]; exact q, r.monoW l, z⟩
theorem OR.mono {a : Addr} {o : Ob} (l : Le ρ H ρ' H') (e : H' a = H a) (r : OR K G ρ H a o) : OR K G ρ' H' a o := r.monoW l.w e

theorem RVs.len : ∀ {ws : List W} {vs : List V}, RVs K ρ H ws vs → ws.length = vs.length
  | [], _, e => by cases e; rfl
  | w :: ws, _, ⟨v, r, e, _, b⟩ => by subst e; simp [RVs.len b]
theorem RVs.get : ∀ {ws : List W} {vs : List V} {i : Nat} {w : W}, RVs K ρ H ws vs → ws[i]? = some w → ∃ v, vs[i]? = some v ∧ RV K ρ H w v
  | w :: ws, _, 0, _, ⟨v, r, e, a, b⟩, q => by
    subst e; simp at q; subst q; exact ⟨v, rfl, a⟩
  | w :: ws, _, i + 1, x, ⟨v, r, e, a, b⟩, q => by
    subst e
    obtain ⟨v', q1, q2⟩ := RVs.get b (i := i) (w := x) (by simpa using q)
    exact ⟨v', by simpa using q1, q2⟩
theorem RVs.get' : ∀ {ws : List W} {vs : List V} {i : Nat} {v : V}, RVs K ρ H ws vs → vs[i]? = some v → ∃ w, ws[i]? = some w ∧ RV K ρ H w v
  | [], _, _, _, e, q => by cases e; simp at q
  | w :: ws, _, 0, _, ⟨v, r, e, a, b⟩, q => by
    subst e; simp at q; subst q; exact ⟨w, rfl, a⟩
  | w :: ws, _, i + 1, x, ⟨v, r, e, a, b⟩, q => by
    subst e
    obtain ⟨v', q1, q2⟩ := RVs.get' b (i := i) (v := x) (by simpa using q)
    exact ⟨v', by simpa using q1, q2⟩
theorem RVs.app : ∀ {ws ws' : List W} {vs vs' : List V}, RVs K ρ H ws vs → RVs K ρ H ws' vs' → RVs K ρ H (ws ++ ws') (vs ++ vs')
  | [], _, _, _, e, q => by cases e; exact q
  | w :: ws, _, _, _, ⟨v, r, e, a, b⟩, q => by subst e; exact ⟨v, _, rfl, a, RVs.app b q⟩
theorem RVs.cons {w : W} {ws : List W} {v : V} {vs : List V} (a : RV K ρ H w v) (b : RVs K ρ H ws vs) : RVs K ρ H (w :: ws) (v :: vs) := ⟨v, vs, rfl, a, b⟩
theorem RVs.drop : ∀ {ws : List W} {vs : List V} (n : Nat), RVs K ρ H ws vs → RVs K ρ H (ws.drop n) (vs.drop n)
  | _, _, 0, e => by simpa using e
  | [], _, n + 1, e => by cases e; simp [RVs]
  | w :: ws, _, n + 1, ⟨v, r, e, a, b⟩ => by subst e; simpa using RVs.drop n b
theorem RVs.take : ∀ {ws : List W} {vs : List V} (n : Nat), RVs K ρ H ws vs → RVs K ρ H (ws.take n) (vs.take n)
  | _, _, 0, e => by simp [RVs]
  | [], _, n + 1, e => by cases e; simp [RVs]
  | w :: ws, _, n + 1, ⟨v, r, e, a, b⟩ => by subst e; exact ⟨v, _, rfl, a, RVs.take n b⟩
theorem RVs.of_get : ∀ {ws : List W} {vs : List V}, ws.length = vs.length → (∀ (i : Nat) w v, ws[i]? = some w → vs[i]? = some v → RV K ρ H w v) → RVs K ρ H ws vs
  | [], [], _, _ => rfl
  | [], _ :: _, e, _ => by simp at e
  | _ :: _, [], e, _ => by simp at e
  | w :: ws, v :: vs, e, f => ⟨v, vs, rfl, f 0 w v rfl rfl, RVs.of_get (by simpa using e) fun i x y a b => f (i + 1) x y (by simpa using a) (by simpa using b)⟩
theorem RVs.reverse {ws : List W} {vs : List V} (r : RVs K ρ H ws vs) : RVs K ρ H ws.reverse vs.reverse := by
  induction ws generalizing vs with
  | nil => cases r; exact rfl
  | cons w ws ih =>
    obtain ⟨v, r', e, a, b⟩ := r
    subst e
    rw [List.reverse_cons, List.reverse_cons]
    exact (ih b).app ⟨v, [], rfl, a, rfl⟩
theorem RVs.set : ∀ {ws : List W} {vs : List V} {w : W} {v : V} (i : Nat), RV K ρ H w v → RVs K ρ H ws vs → RVs K ρ H (ws.set i w) (vs.set i v)
  | [], _, _, _, _, _, e => by cases e; exact rfl
  | w :: ws, _, _, _, 0, q, ⟨v, r, e, a, b⟩ => by subst e; exact ⟨_, _, rfl, q, b⟩
  | w :: ws, _, _, _, i + 1, q, ⟨v, r, e, a, b⟩ => by subst e; exact ⟨_, _, rfl, a, RVs.set i q b⟩
theorem RVs.erase : ∀ {ws : List W} {vs : List V} (i : Nat), RVs K ρ H ws vs → RVs K ρ H (ws.eraseIdx i) (vs.eraseIdx i)
  | [], _, _, e => by cases e; simp [RVs]
  | w :: ws, _, 0, ⟨v, r, e, a, b⟩ => by subst e; exact b
  | w :: ws, _, i + 1, ⟨v, r, e, a, b⟩ => by subst e; exact ⟨_, _, rfl, a, RVs.erase i b⟩
theorem RVs.dropLast {ws : List W} {vs : List V} (r : RVs K ρ H ws vs) : RVs K ρ H ws.dropLast vs.dropLast := by
  rw [List.dropLast_eq_take, List.dropLast_eq_take, r.len]; exact r.take _
theorem RVs.rep {ws : List W} {vs : List V} (r : RVs K ρ H ws vs) : ∀ n, RVs K ρ H (List.replicate n ws).flatten (List.replicate n vs).flatten
  | 0 => rfl
  | n + 1 => by simp only [List.replicate_succ, List.flatten_cons]; exact r.app (RVs.rep r n)

/-! ### the heap's changes -/
theorem OR.not_tup {a : Addr} {o : Ob} (r : OR K G ρ H a o) {xs : List V} : H a ≠ some (.tup xs) := by
  intro e
  cases o with
  | lst ws => obtain ⟨vs, q, _⟩ := r; rw [e] at q; cases q
  | dic lk kvs =>
    obtain ⟨vs, _, q⟩ := r
    cases lk with
    | true => obtain ⟨o, q⟩ := q; rw [e] at q; cases q
    | false => simp only [Bool.false_eq_true, if_false] at q; rw [e] at q; cases q
  | ins c fs => obtain ⟨dx, vs, q, _⟩ := r; rw [e] at q; cases q
theorem OR.not_lit {a : Addr} {o : Ob} (r : OR K G ρ H a o) {ob : Obj} {xs : List V} : H a ≠ some (.frz ob (.lst xs)) := by
  intro e
  cases o with
  | lst ws => obtain ⟨vs, q, _⟩ := r; rw [e] at q; cases q
  | dic lk kvs =>
    obtain ⟨vs, _, q⟩ := r
    cases lk with
    | true => obtain ⟨o, q⟩ := q; rw [e] at q; cases q
    | false => simp only [Bool.false_eq_true, if_false] at q; rw [e] at q; cases q
  | ins c fs => obtain ⟨dx, vs, q, _⟩ := r; rw [e] at q; cases q
theorem OR.there {a : Addr} {o : Ob} (r : OR K G ρ H a o) : H a ≠ none := by
  cases o with
  | lst ws => obtain ⟨vs, q, _⟩ := r; rw [q]; simp
  | dic lk kvs =>
    obtain ⟨vs, _, q⟩ := r
    cases lk with
    | true => obtain ⟨o, q⟩ := q; rw [q]; simp
    | false => simp only [Bool.false_eq_true, if_false] at q; rw [q]; simp
  | ins c fs => obtain ⟨dx, vs, q, _⟩ := r; rw [q]; simp
theorem Rl.at (r : Rl K G ρ h H) {i : Nat} {a : Addr} {o : Ob} (e : ρ i = some a) (q : h.f i = some o) : OR K G ρ H a o := by
  obtain ⟨b, e', z⟩ := r.obj i o q
  rw [e] at e'; cases e'
  exact z
theorem Rl.tracked (r : Rl K G ρ h H) {i : Nat} {a : Addr} (e : ρ i = some a) : H a ≠ none := r.tr i a e
theorem Rl.fresh (r : Rl K G ρ h H) : ρ h.n = none := by
  cases e : ρ h.n with
  | none => rfl
  | some a => exact absurd (r.lt _ _ e) (Nat.lt_irrefl _)

/-- something new that isn't in the virtual heap (a tuple) -/
theorem Le.new1 {p : Addr} {o : HO} (hp : H p = none) : Le ρ H ρ (upd H p o) where
  ext := fun _ _ e => e
  fr := fun a u e _ => by rw [upd_ne (ne_of_none e hp)]; exact e
  new := fun _ _ e => .inl e
  there := fun a e => by
    by_cases z : a = p
    · rw [z, hp]
    · rw [upd_ne z] at e; exact e
  tp := fun a xs e => by rw [upd_ne (ne_of_none e hp)]; exact e
  tf := fun a u xs e => by rw [upd_ne (ne_of_none e hp)]; exact e
theorem Rl.new1 {p : Addr} {o : HO} (r : Rl K G ρ h H) (hp : H p = none) : Rl K G ρ h (upd H p o) where
  inj := r.inj
  lt := r.lt
  tot := r.tot
  wf := r.wf
  tr := fun i a e => by rw [upd_ne fun y => r.tr i a e (by rw [y]; exact hp)]; exact r.tr i a e
  nt := fun i a e => by rw [upd_ne fun y => r.tr i a e (by rw [y]; exact hp)]; exact r.nt i a e
  obj := fun i ob e => by
    obtain ⟨a, q, z⟩ := r.obj i ob e
    refine ⟨a, q, z.mono (Le.new1 hp) (upd_ne fun y => ?_)⟩
    exact z.there (by rw [y]; exact hp)
/-- .. where it is -/
def rhoAt (ρ : Rho) (n : Nat) (p : Addr) : Rho := fun i => if i = n then some p else ρ i
theorem rhoAt_same {n : Nat} {p : Addr} : rhoAt ρ n p n = some p := by simp [rhoAt]
theorem rhoAt_ne {n i : Nat} {p : Addr} (h : i ≠ n) : rhoAt ρ n p i = ρ i := by simp [rhoAt, h]
theorem Le.newO {p : Addr} {o : HO} (r : Rl K G ρ h H) (hp : H p = none) : Le ρ H (rhoAt ρ h.n p) (upd H p o) where
  ext := fun i a e => by
    have : i ≠ h.n := fun z => by rw [z, r.fresh] at e; cases e
    rw [rhoAt_ne this]; exact e
  fr := fun a u e _ => by rw [upd_ne (ne_of_none e hp)]; exact e
  new := fun i a e => by
    by_cases z : i = h.n
    · subst z; rw [rhoAt_same] at e; cases e; exact .inr hp
    · rw [rhoAt_ne z] at e; exact .inl e
  there := fun a e => by
    by_cases z : a = p
    · rw [z, hp]
    · rw [upd_ne z] at e; exact e
  tp := fun a xs e => by rw [upd_ne (ne_of_none e hp)]; exact e
  tf := fun a u xs e => by rw [upd_ne (ne_of_none e hp)]; exact e
theorem Rl.newO {p : Addr} {o : HO} {ob : Ob} (r : Rl K G ρ h H) (hp : H p = none) (z : OR K G (rhoAt ρ h.n p) (upd H p o) p ob) : Rl K G (rhoAt ρ h.n p) (h.alloc ob) (upd H p o) where
  inj := fun i j a e1 e2 => by
    have key : ∀ i, rhoAt ρ h.n p i = some p → i = h.n := fun i e => by
      by_cases z : i = h.n
      · exact z
      · rw [rhoAt_ne z] at e; exact absurd hp (r.tracked e)
    by_cases z : i = h.n
    · subst z; rw [rhoAt_same] at e1; cases e1; exact (key j e2).symm
    · by_cases y : j = h.n
      · subst y; rw [rhoAt_same] at e2; cases e2; exact key i e1
      · rw [rhoAt_ne z] at e1; rw [rhoAt_ne y] at e2; exact r.inj i j a e1 e2
  lt := fun i a e => by
    by_cases z : i = h.n
    · subst z; exact Nat.lt_succ_self _
    · rw [rhoAt_ne z] at e
      exact Nat.lt_succ_of_lt (r.lt i a e)
  tot := fun i hi => by
    by_cases z : i = h.n
    · exact ⟨p, by rw [z]; exact rhoAt_same⟩
    · obtain ⟨a, q⟩ := r.tot i (by have : i < h.n + 1 := hi; omega)
      exact ⟨a, by rw [rhoAt_ne z]; exact q⟩
  wf := fun i o e => by
    by_cases z : i = h.n
    · subst z; exact Nat.lt_succ_self _
    · simp only [VH.alloc, z, if_false] at e
      exact Nat.lt_succ_of_lt (r.wf i o e)
  tr := fun i a e => by
    by_cases y : i = h.n
    · subst y; rw [rhoAt_same] at e; cases e; exact z.there
    · rw [rhoAt_ne y] at e; rw [upd_ne fun y => r.tr i a e (by rw [y]; exact hp)]; exact r.tr i a e
  nt := fun i a e xs => by
    by_cases y : i = h.n
    · subst y; rw [rhoAt_same] at e; cases e; exact z.not_tup
    · rw [rhoAt_ne y] at e; rw [upd_ne fun y => r.tr i a e (by rw [y]; exact hp)]; exact r.nt i a e xs
  obj := fun i o' e => by
    by_cases y : i = h.n
    · subst y
      simp only [VH.alloc, if_true] at e
      cases e
      exact ⟨p, rhoAt_same, z⟩
    · simp only [VH.alloc, y, if_false] at e
      obtain ⟨a, q, x⟩ := r.obj i o' e
      refine ⟨a, by rw [rhoAt_ne y]; exact q, x.mono (Le.newO r hp) (upd_ne fun t => ?_)⟩
      exact x.there (by rw [t]; exact hp)
/-- an object of the virtual heap is changed -/
theorem Le.setO {n : Nat} {a : Addr} {o : HO} (r : Rl K G ρ h H) (e : ρ n = some a) (nz : ∀ ob u, H a ≠ some (.frz ob u)) : Le ρ H ρ (upd H a o) where
  ext := fun _ _ e => e
  fr := fun b u q z => by rw [upd_ne fun y => z n (by rw [y]; exact e)]; exact q
  new := fun _ _ e => .inl e
  there := fun b q => by
    by_cases z : b = a
    · rw [z, upd_same] at q; cases q
    · rw [upd_ne z] at q; exact q
  tp := fun b xs q => by
    rw [upd_ne fun y => r.nt n a e xs (by rw [← y]; exact q)]; exact q
  tf := fun b u xs q => by
    rw [upd_ne fun y => nz u xs (by rw [← y]; exact q)]; exact q
theorem Rl.setW {n : Nat} {a : Addr} {o : HO} {ob : Ob} (r : Rl K G ρ h H) (e : ρ n = some a) (lw : Lw ρ H ρ (upd H a o)) (z : OR K G ρ (upd H a o) a ob) : Rl K G ρ (h.set n ob) (upd H a o) where
  inj := r.inj
  lt := r.lt
  tot := r.tot
  wf := fun i o' q => by
    by_cases y : i = n
    · rw [y]; exact r.lt _ _ e
    · simp only [VH.set, y, if_false] at q; exact r.wf i o' q
  tr := fun i b q => by
    by_cases y : b = a
    · subst y; exact z.there
    · rw [upd_ne y]; exact r.tr i b q
  nt := fun i b q xs => by
    by_cases y : b = a
    · subst y; exact z.not_tup
    · rw [upd_ne y]; exact r.nt i b q xs
  obj := fun i o' q => by
    by_cases y : i = n
    · subst y
      simp only [VH.set, if_true] at q
      cases q
      exact ⟨a, e, z⟩
    · simp only [VH.set, y, if_false] at q
      obtain ⟨b, w, x⟩ := r.obj i o' q
      refine ⟨b, w, x.monoW lw (upd_ne fun t => y ?_)⟩
      exact r.inj i n a (by rw [← t]; exact w) e
theorem Rl.setO {n : Nat} {a : Addr} {o : HO} {ob : Ob} (r : Rl K G ρ h H) (e : ρ n = some a) (nz : ∀ ob u, H a ≠ some (.frz ob u)) (z : OR K G ρ (upd H a o) a ob) : Rl K G ρ (h.set n ob) (upd H a o) := r.setW e (Le.setO r e nz).w z
/-- an object of one's own beside it is changed -/
theorem Le.updD {ρ0 : Rho} {H0 : Hp} {D : Addr} {o : HO} (l : Le ρ0 H0 ρ H) (hD : H0 D = none) : Le ρ0 H0 ρ (upd H D o) where
  ext := l.ext
  fr := fun a u e n => by rw [upd_ne (ne_of_none e hD)]; exact l.fr a u e n
  new := l.new
  there := fun a e => by
    by_cases z : a = D
    · rw [z]; exact hD
    · rw [upd_ne z] at e; exact l.there a e
  tp := fun a xs e => by rw [upd_ne (ne_of_none e hD)]; exact l.tp a xs e
  tf := fun a u xs e => by rw [upd_ne (ne_of_none e hD)]; exact l.tf a u xs e
theorem Lw.updD {D : Addr} {xs : List V} {o : HO} (e : H D = some (.lst xs)) : Lw ρ H ρ (upd H D o) where
  ext := fun _ _ e => e
  tp := fun a ys q => by
    rw [upd_ne fun z => by rw [z, e] at q; cases q]; exact q
  tf := fun a u ys q => by
    rw [upd_ne fun z => by rw [z, e] at q; cases q]; exact q
theorem Rl.updD {D : Addr} {xs : List V} {o : HO} (r : Rl K G ρ h H) (hn : ∀ j, ρ j ≠ some D) (e : H D = some (.lst xs)) : Rl K G ρ h (upd H D o) where
  inj := r.inj
  lt := r.lt
  tot := r.tot
  wf := r.wf
  tr := fun i a e1 => by rw [upd_ne fun y => hn i (by rw [← y]; exact e1)]; exact r.tr i a e1
  nt := fun i a e1 => by rw [upd_ne fun y => hn i (by rw [← y]; exact e1)]; exact r.nt i a e1
  obj := fun i ob q => by
    obtain ⟨a, e1, z⟩ := r.obj i ob q
    exact ⟨a, e1, z.monoW (Lw.updD e) (upd_ne fun y => hn i (by rw [← y]; exact e1))⟩
/-- .. becomes one of the virtual heap -/
theorem Lw.adopt {n : Nat} {D : Addr} (hf : ρ n = none) : Lw ρ H (rhoAt ρ n D) H := ⟨fun i a e => by
  rw [rhoAt_ne fun z => by rw [z, hf] at e; cases e]; exact e, fun _ _ e => e, fun _ _ _ e => e⟩
theorem Le.adopt {ρ0 : Rho} {H0 : Hp} {D : Addr} {n : Nat} (l : Le ρ0 H0 ρ H) (hf : ρ n = none) (hD : H0 D = none) : Le ρ0 H0 (rhoAt ρ n D) H where
  ext := fun i a e => (Lw.adopt (H := H) hf).ext i a (l.ext i a e)
  fr := l.fr
  new := fun i a e => by
    by_cases z : i = n
    · subst z; rw [rhoAt_same] at e; cases e; exact .inr hD
    · rw [rhoAt_ne z] at e; exact l.new i a e
  there := l.there
  tp := l.tp
  tf := l.tf
theorem Rl.adopt {D : Addr} {ob : Ob} (r : Rl K G ρ h H) (hn : ∀ j, ρ j ≠ some D) (z : OR K G (rhoAt ρ h.n D) H D ob) : Rl K G (rhoAt ρ h.n D) (h.alloc ob) H where
  inj := fun i j a e1 e2 => by
    have key : ∀ i, rhoAt ρ h.n D i = some D → i = h.n := fun i e => by
      by_cases z : i = h.n
      · exact z
      · rw [rhoAt_ne z] at e; exact absurd e (hn i)
    by_cases z : i = h.n
    · subst z; rw [rhoAt_same] at e1; cases e1; exact (key j e2).symm
    · by_cases y : j = h.n
      · subst y; rw [rhoAt_same] at e2; cases e2; exact key i e1
      · rw [rhoAt_ne z] at e1; rw [rhoAt_ne y] at e2; exact r.inj i j a e1 e2
  lt := fun i a e => by
    by_cases z : i = h.n
    · subst z; exact Nat.lt_succ_self _
    · rw [rhoAt_ne z] at e
      exact Nat.lt_succ_of_lt (r.lt i a e)
  tot := fun i hi => by
    by_cases z : i = h.n
    · exact ⟨D, by rw [z]; exact rhoAt_same⟩
    · obtain ⟨a, q⟩ := r.tot i (by have : i < h.n + 1 := hi; omega)
      exact ⟨a, by rw [rhoAt_ne z]; exact q⟩
  wf := fun i o e => by
    by_cases z : i = h.n
    · subst z; exact Nat.lt_succ_self _
    · simp only [VH.alloc, z, if_false] at e
      exact Nat.lt_succ_of_lt (r.wf i o e)
  tr := fun i a e => by
    by_cases y : i = h.n
    · subst y; rw [rhoAt_same] at e; cases e; exact z.there
    · rw [rhoAt_ne y] at e; exact r.tr i a e
  nt := fun i a e xs => by
    by_cases y : i = h.n
    · subst y; rw [rhoAt_same] at e; cases e; exact z.not_tup
    · rw [rhoAt_ne y] at e; exact r.nt i a e xs
  obj := fun i o' e => by
    by_cases y : i = h.n
    · subst y
      simp only [VH.alloc, if_true] at e
      cases e
      exact ⟨D, rhoAt_same, z⟩
    · simp only [VH.alloc, y, if_false] at e
      obtain ⟨a, q, x⟩ := r.obj i o' e
      exact ⟨a, by rw [rhoAt_ne y]; exact q, x.monoW (Lw.adopt r.fresh) rfl⟩
/-- a dict that was locked is unlocked -/
theorem Le.unlock {n : Nat} {d : Addr} {u : HO} {od : Obj} (e : ρ n = some d) (hd : H d = some u) (nt : ∀ xs, u ≠ .tup xs) (nf : ∀ o x, u ≠ .frz o x) (l : Le ρ (upd H d (.frz od u)) ρ' H') : Le ρ H ρ' (upd H' d u) where
  ext := l.ext
  fr := fun a o q z => by
    have h1 : a ≠ d := fun y => z n (by rw [y]; exact e)
    rw [upd_ne h1]
    exact l.fr a o (by rw [upd_ne h1]; exact q) z
  new := fun i a q => by
    rcases l.new i a q with z | z
    · exact .inl z
    · right
      by_cases y : a = d
      · rw [y, upd_same] at z; cases z
      · rw [upd_ne y] at z; exact z
  there := fun a q => by
    by_cases y : a = d
    · rw [y, upd_same] at q; cases q
    · rw [upd_ne y] at q
      have := l.there a q
      rw [upd_ne y] at this
      exact this
  tp := fun a xs q => by
    have h1 : a ≠ d := fun y => by rw [y, hd] at q; exact nt xs (Option.some.inj q)
    rw [upd_ne h1]
    exact l.tp a xs (by rw [upd_ne h1]; exact q)
  tf := fun a o x q => by
    have h1 : a ≠ d := fun y => by rw [y, hd] at q; exact nf o x (Option.some.inj q)
    rw [upd_ne h1]
    exact l.tf a o x (by rw [upd_ne h1]; exact q)

/-! ### a list is written no more -/
theorem Le.frz {n : Nat} {a : Addr} {vs : List V} {o : Obj} (e : ρ n = some a) (hz : H a = some (.lst vs)) : Le ρ H ρ (upd H a (.frz o (.lst vs))) where
  ext := fun _ _ e => e
  fr := fun b u q z => by rw [upd_ne fun y => z n (by rw [y]; exact e)]; exact q
  new := fun _ _ e => .inl e
  there := fun b q => by
    by_cases z : b = a
    · rw [z, upd_same] at q; cases q
    · rw [upd_ne z] at q; exact q
  tp := fun b xs q => by
    rw [upd_ne fun y => by rw [y, hz] at q; cases q]; exact q
  tf := fun b u xs q => by
    rw [upd_ne fun y => by rw [y, hz] at q; cases q]; exact q
theorem Rl.frz {n : Nat} {a : Addr} {vs : List V} {o : Obj} (r : Rl K G ρ h H) (e : ρ n = some a) (hz : H a = some (.lst vs)) : Rl K G ρ (h.kill n) (upd H a (.frz o (.lst vs))) where
  inj := r.inj
  lt := r.lt
  tot := r.tot
  wf := fun i o' q => by
    by_cases y : i = n
    · simp [VH.kill, y] at q
    · simp only [VH.kill, y, if_false] at q; exact r.wf i o' q
  tr := fun i b q => by
    by_cases y : b = a
    · subst y; rw [upd_same]; exact fun z => nomatch z
    · rw [upd_ne y]; exact r.tr i b q
  nt := fun i b q xs => by
    by_cases y : b = a
    · subst y; rw [upd_same]; exact fun z => nomatch z
    · rw [upd_ne y]; exact r.nt i b q xs
  obj := fun i o' q => by
    by_cases y : i = n
    · simp [VH.kill, y] at q
    · simp only [VH.kill, y, if_false] at q
      obtain ⟨b, w, x⟩ := r.obj i o' q
      refine ⟨b, w, x.monoW (Le.frz e hz).w (upd_ne fun t => y ?_)⟩
      exact r.inj i n a (by rw [← t]; exact w) e
/-! ### what is new may go -/
mutual
theorem RV.back {n : Nat} (hb : ∀ i a, i < n → ρ' i = some a → ρ i = some a) : ∀ (w : W) (v : V), refsLt n w = true → RV K ρ' H' w v → RV K ρ H' w v
  | .non, _, _, e => e
  | .bl _, _, _, e => e
  | .int _, _, _, e => e
  | .str _, _, _, e => e
  | .tup ws, v, c, e => by
    unfold RV at e ⊢
    unfold refsLt at c
    obtain ⟨a, vs, e1, t, r⟩ := e
    exact ⟨a, vs, e1, t, RVs.back hb ws vs c r⟩
  | .lit ws, v, c, e => by
    unfold RV at e ⊢
    unfold refsLt at c
    obtain ⟨a, vs, e1, t, r⟩ := e
    exact ⟨a, vs, e1, t, RVs.back hb ws vs c r⟩
  | .fz ws, v, c, e => by
    unfold RV at e ⊢
    unfold refsLt at c
    obtain ⟨a, vs, e1, t, r⟩ := e
    exact ⟨a, vs, e1, t, RVs.back hb ws vs c r⟩
  | .ref m, _, c, ⟨a, e, q⟩ => ⟨a, hb m a (by unfold refsLt at c; exact of_decide_eq_true c) e, q⟩
  | .exn _ _, _, _, e => e.elim
theorem RVs.back {n : Nat} (hb : ∀ i a, i < n → ρ' i = some a → ρ i = some a) : ∀ (ws : List W) (vs : List V), refsLts n ws = true → RVs K ρ' H' ws vs → RVs K ρ H' ws vs
  | [], _, _, e => e
  | w :: ws, vs, c, e => by
    unfold RVs at e ⊢
    unfold refsLts at c
    simp only [Bool.and_eq_true] at c
    obtain ⟨v, r, e1, a, b⟩ := e
    exact ⟨v, r, e1, RV.back hb w v c.1 a, RVs.back hb ws r c.2 b⟩
end
mutual
theorem RV.refs {n : Nat} (hl : ∀ i a, ρ i = some a → i < n) : ∀ (w : W) (v : V), RV K ρ H w v → refsLt n w = true
  | .non, _, _ => by unfold refsLt; rfl
  | .bl _, _, _ => by unfold refsLt; rfl
  | .int _, _, _ => by unfold refsLt; rfl
  | .str _, _, _ => by unfold refsLt; rfl
  | .tup ws, v, e => by
    unfold RV at e
    unfold refsLt
    obtain ⟨a, vs, e1, t, r⟩ := e
    exact RVs.refs hl ws vs r
  | .lit ws, v, e => by
    unfold RV at e
    unfold refsLt
    obtain ⟨a, vs, e1, t, r⟩ := e
    exact RVs.refs hl ws vs r
  | .fz ws, v, e => by
    unfold RV at e
    unfold refsLt
    obtain ⟨a, vs, e1, t, r⟩ := e
    exact RVs.refs hl ws vs r
  | .ref m, _, ⟨a, e, q⟩ => by unfold refsLt; exact decide_eq_true (hl m a e)
  | .exn _ _, _, e => e.elim
theorem RVs.refs {n : Nat} (hl : ∀ i a, ρ i = some a → i < n) : ∀ (ws : List W) (vs : List V), RVs K ρ H ws vs → refsLts n ws = true
  | [], _, _ => by unfold refsLts; rfl
  | w :: ws, vs, e => by
    unfold RVs at e
    unfold refsLts
    obtain ⟨v, r, e1, a, b⟩ := e
    rw [RV.refs hl w v a, RVs.refs hl ws r b]; rfl
end
theorem RKv.refs {n : Nat} (hl : ∀ i a, ρ i = some a → i < n) : ∀ {a : List (Key × W)} {b : List (Key × V)}, RKv K ρ H a b → (a.all fun kv => refsLt n kv.2) = true
  | _, _, .nil => rfl
  | (k, w) :: a, _, .cons p q => by
    rw [List.all_cons, RKv.refs hl q, RV.refs hl _ _ p.2.1]; rfl
theorem RFs.refs {n : Nat} (hl : ∀ i a, ρ i = some a → i < n) : ∀ {a : List (Nat × W)} {b : List (Str × V)}, RFs K G ρ H a b → (a.all fun kv => refsLt n kv.2) = true
  | _, _, .nil => rfl
  | (k, w) :: a, _, .cons p q => by
    rw [List.all_cons, RFs.refs hl q, RV.refs hl _ _ p.2]; rfl
theorem OR.refs {n : Nat} (hl : ∀ i a, ρ i = some a → i < n) {a : Addr} {o : Ob} (r : OR K G ρ H a o) : obLt n o = true := by
  cases o with
  | lst ws => obtain ⟨vs, _, q⟩ := r; exact RVs.refs hl ws vs q
  | dic lk kvs => obtain ⟨vs, q, _⟩ := r; exact RKv.refs hl q
  | ins c fs => obtain ⟨dx, vs, _, q, _⟩ := r; exact RFs.refs hl q
theorem RKv.back {n : Nat} (hb : ∀ i a, i < n → ρ' i = some a → ρ i = some a) : ∀ {a : List (Key × W)} {b : List (Key × V)}, (a.all fun kv => refsLt n kv.2) = true → RKv K ρ' H' a b → RKv K ρ H' a b
  | _, _, _, .nil => .nil
  | (k, w) :: a, _, c, .cons p q => by
    rw [List.all_cons, Bool.and_eq_true] at c
    exact .cons ⟨p.1, RV.back hb _ _ c.1 p.2.1, p.2.2⟩ (RKv.back hb c.2 q)
theorem RFs.back {n : Nat} (hb : ∀ i a, i < n → ρ' i = some a → ρ i = some a) : ∀ {a : List (Nat × W)} {b : List (Str × V)}, (a.all fun kv => refsLt n kv.2) = true → RFs K G ρ' H' a b → RFs K G ρ H' a b
  | _, _, _, .nil => .nil
  | (k, w) :: a, _, c, .cons p q => by
    rw [List.all_cons, Bool.and_eq_true] at c
    exact .cons ⟨p.1, RV.back hb _ _ c.1 p.2⟩ (RFs.back hb c.2 q)
theorem OR.back {n : Nat} (hb : ∀ i a, i < n → ρ' i = some a → ρ i = some a) {a : Addr} {o : Ob} (c : obLt n o = true) (r : OR K G ρ' H' a o) : OR K G ρ H' a o := by
  cases o with
  | lst ws => obtain ⟨vs, e, q⟩ := r; exact ⟨vs, e, RVs.back hb ws vs c q⟩
  | dic lk kvs => obtain ⟨vs, q, e⟩ := r; exact ⟨vs, RKv.back hb c q, e⟩
  | ins c' fs => obtain ⟨dx, vs, e, q, z⟩ := r; exact ⟨dx, vs, e, RFs.back hb c q, z⟩
theorem Le.down (l : Le ρ H ρ' H') : Le ρ H ρ H' := ⟨fun _ _ e => e, l.fr, fun _ _ e => .inl e, l.there, l.tp, l.tf⟩
theorem Rl.backs {h1 : VH} (r0 : Rl K G ρ h H) (l : Le ρ H ρ' H') : ∀ i a, i < h.n → ρ' i = some a → ρ i = some a := fun i a hi e => by
  obtain ⟨b, e2⟩ := r0.tot i hi
  rw [l.ext i b e2] at e
  rw [e2, e]
theorem Rl.trim {h1 : VH} {w : W} (r0 : Rl K G ρ h H) (l : Le ρ H ρ' H') (r1 : Rl K G ρ' h1 H') (c : TrimOk h w h1) : Rl K G ρ (VM.trim h h1) H' where
  inj := r0.inj
  lt := r0.lt
  tot := r0.tot
  wf := fun i o e => by
    by_cases hi : i < h.n
    · exact hi
    · simp only [VM.trim, hi, if_false] at e; exact r0.wf i o e
  tr := fun i a e z => r0.tr i a e (l.there a z)
  nt := fun i a e => r1.nt i a (l.ext i a e)
  obj := fun i o e => by
    by_cases hi : i < h.n
    · simp only [VM.trim, hi, if_true] at e
      obtain ⟨a, e1, z⟩ := r1.obj i o e
      refine ⟨a, r0.backs (h1 := h1) l i a hi e1, OR.back (n := h.n) (r0.backs (h1 := h1) l) ?_ z⟩
      rcases c.2 i hi with q | q
      · rw [e] at q
        obtain ⟨b, _, y⟩ := r0.obj i o q.symm
        exact y.refs r0.lt
      · exact q o e
    · simp only [VM.trim, hi, if_false] at e
      exact absurd (r0.wf i o e) hi
end
end VM

set_option autoImplicit true
set_option linter.all false
set_option maxRecDepth 100000
set_option maxHeartbeats 4000000
/-! VM3: the operators and built-ins of the evaluator, by values, are those of the model. -/
namespace VM
open PySem PySem.Spec PyProof.Rows L2

/-! ### outcomes -/
def OutR {α : Type} (P : α → VH → Prop) (PX : Nat → W → VH → Prop) : R α → Prop
  | .ok a h => P a h
  | .exc c w h => PX c w h
  | .bad => False
section
variable (K : PySem.W.Frag) (G : Sta)
/-- an exception stands for one of the evaluator's -/
def XR (ρ : Rho) (H : Hp) (c : Nat) (w : W) (cls : Value) (d : Option Addr) : Prop :=
  cls = .ref (G.ca c) ∧ match w with
    | .non => d = none
    | w => ∃ dd f v, d = some dd ∧ H dd = some (.xd [(f, v)]) ∧ RV K ρ H w v
def Fin (ρ : Rho) (H : Hp) (Q : VK) (w : W) (h' : VH) : Prop := ∀ ρ' H' v, Le ρ H ρ' H' → Rl K G ρ' h' H' → RV K ρ' H' w v → Q v H'
def FinX (ρ : Rho) (H : Hp) (E : XK) (c : Nat) (w : W) (h' : VH) : Prop := ∀ ρ' H' cls d, Le ρ H ρ' H' → Rl K G ρ' h' H' → XR K G ρ' H' c w cls d → E cls d H'
end
section
variable {K : PySem.W.Frag} {G : Sta} {ρ ρ1 : Rho} {H H1 : Hp} {h h' : VH}
theorem Fin.le {Q : VK} {w : W} (l : Le ρ H ρ1 H1) (f : Fin K G ρ H Q w h') : Fin K G ρ1 H1 Q w h' := fun ρ' H' v l' r q => f ρ' H' v (l.trans l') r q
theorem FinX.le {E : XK} {c : Nat} {w : W} (l : Le ρ H ρ1 H1) (f : FinX K G ρ H E c w h') : FinX K G ρ1 H1 E c w h' := fun ρ' H' v d l' r q => f ρ' H' v d (l.trans l') r q
/-- the value is there as it stands -/
theorem Fin.now {Q : VK} {w : W} {v : V} (f : Fin K G ρ H Q w h) (r : Rl K G ρ h H) (q : RV K ρ H w v) : Q v H := f ρ H v Le.refl r q
/-- a new tuple -/
theorem Fin.tup {Q : VK} {ws : List W} {vs : List V} {p : Addr} (f : Fin K G ρ H Q (.tup ws) h) (r : Rl K G ρ h H) (q : RVs K ρ H ws vs) (hp : H p = none) : Q (.ref p) (upd H p (.tup vs)) :=
  f ρ _ _ (Le.new1 hp) (r.new1 hp) ⟨p, vs, rfl, .inl upd_same, q.mono (Le.new1 hp)⟩
/-- a new list -/
theorem Fin.lst {Q : VK} {ws : List W} {vs : List V} {p : Addr} (f : Fin K G ρ H Q (.ref h.n) (h.alloc (.lst ws))) (r : Rl K G ρ h H) (q : RVs K ρ H ws vs) (hp : H p = none) : Q (.ref p) (upd H p (.lst vs)) :=
  f _ _ _ (Le.newO r hp) (r.newO hp ⟨vs, upd_same, q.mono (Le.newO r hp)⟩) ⟨p, rhoAt_same, rfl⟩
/-- a list that is changed -/
theorem Fin.setL {Q : VK} {n : Nat} {a : Addr} {ws : List W} {vs : List V} {w : W} {v : V} (f : Fin K G ρ H Q w (h.set n (.lst ws))) (r : Rl K G ρ h H) (e : ρ n = some a) {vs0 : List V} (hz : H a = some (.lst vs0)) (q : RVs K ρ H ws vs) (qw : RV K ρ H w v) :
    Q v (upd H a (.lst vs)) :=
  have nz : ∀ ob u, H a ≠ some (.frz ob u) := fun _ _ z => by rw [hz] at z; cases z
  f _ _ _ (Le.setO r e nz) (r.setO e nz ⟨vs, upd_same, q.mono (Le.setO r e nz)⟩) (qw.mono (Le.setO r e nz))
/-- the objects -/
theorem Rl.lst {n : Nat} {a : Addr} {ws : List W} (r : Rl K G ρ h H) (e : ρ n = some a) (q : h.f n = some (.lst ws)) : ∃ vs, H a = some (.lst vs) ∧ RVs K ρ H ws vs := by
  exact r.at e q
theorem Rl.dic {n : Nat} {a : Addr} {lk : Bool} {kvs : List (Key × W)} (r : Rl K G ρ h H) (e : ρ n = some a) (q : h.f n = some (.dic lk kvs)) :
    ∃ kvs', RKv K ρ H kvs kvs' ∧ if lk then ∃ o, H a = some (.frz o (.dK kvs')) else H a = some (.dK kvs') := by
  exact r.at e q
theorem Rl.ins {n : Nat} {a : Addr} {c : Nat} {fs : List (Nat × W)} (r : Rl K G ρ h H) (e : ρ n = some a) (q : h.f n = some (.ins c fs)) : ∃ dx fs', H a = some (.ins (G.ca c) dx fs') ∧ RFs K G ρ H fs fs' ∧ ∀ p ∈ fs, G.fl c p.1 = true := by
  exact r.at e q
/-- a list, read -/
theorem lstW_rel {h : VH} {w : W} {ws : List W} {v : V} (r : Rl K G ρ h H) (q : RV K ρ H w v) (e : lstW h w = some ws) : ∃ a vs, v = .ref a ∧ Rd H a (.lst vs) ∧ RVs K ρ H ws vs := by
  unfold lstW at e
  split at e
  · split at e
    · rename_i hf
      cases e
      obtain ⟨a, ea, rfl⟩ := q
      obtain ⟨vs, h1, qs⟩ := r.lst ea hf
      exact ⟨a, vs, rfl, .inl h1, qs⟩
    · cases e
  · cases e
    obtain ⟨a, vs, rfl, h1, qs⟩ := q
    exact ⟨a, vs, rfl, .inr h1, qs⟩
  · cases e
/-- the new may go -/
theorem Fin.trim {Q : VK} {w : W} {h1 : VH} (r0 : Rl K G ρ h H) (t : TrimOk h w h1) (f : Fin K G ρ H Q w (trim h h1)) : Fin K G ρ H Q w h1 := fun ρ' H' v l r q =>
  f ρ H' v l.down (r0.trim l r t) (RV.back (n := h.n) (r0.backs (h1 := h1) l) w v t.1 q)
theorem trimR_out {Q : VK} {w : W} {h1 : VH} {PX : Nat → W → VH → Prop} (r0 : Rl K G ρ h H) (o : OutR (Fin K G ρ H Q) PX (trimR h w h1)) : Fin K G ρ H Q w h1 := by
  unfold trimR at o
  split at o
  · exact Fin.trim r0 (by assumption) o
  · exact o
theorem Rl.dicR {n : Nat} {a : Addr} {lk : Bool} {kvs : List (Key × W)} (r : Rl K G ρ h H) (e : ρ n = some a) (q : h.f n = some (.dic lk kvs)) :
    ∃ kvs', RKv K ρ H kvs kvs' ∧ Rd H a (.dK kvs') := by
  obtain ⟨kvs', z, y⟩ := r.dic e q
  refine ⟨kvs', z, ?_⟩
  cases lk with
  | true => exact .inr y
  | false => exact .inl y
end

/-! ### strings -/
theorem SOk.app {s t : Str} (a : SOk s) (b : SOk t) (h : s.length + t.length ≤ 16777216) : SOk (s ++ t) := by
  refine ⟨?_, ?_⟩
  · have ha := a.1; have hb := b.1
    unfold PyData.strOk at *
    show ((s.cps ++ t.cps).all _) = true
    rw [Array.all_append, ha, hb]; rfl
  · show (s.cps ++ t.cps).size ≤ _
    rw [Array.size_append]; exact h
theorem SOk.one {c : Nat} (h : c < 1114112) : SOk ⟨#[c]⟩ := ⟨by simp [PyData.strOk, h], by simp [Str.length]⟩
theorem sOk_iff {s : Str} : PyData.strOk s = true ↔ ∀ c ∈ s.cps.toList, c < 1114112 := by
  unfold PyData.strOk
  rw [← Array.all_toList, List.all_eq_true]
  simp
theorem SOk.at {s : Str} {i : Int} {c : Nat} (a : SOk s) (h : atI s.cps.toList i = some c) : SOk ⟨#[c]⟩ := by
  obtain ⟨j, _, e, _⟩ := atI_get h
  exact SOk.one (sOk_iff.mp a.1 c (List.mem_of_getElem? e))
theorem SOk.cut {s : Str} (a : SOk s) (lo hi : Option Int) : SOk (cutS s lo hi) := by
  refine ⟨sOk_iff.mpr fun c hc => ?_, ?_⟩
  · unfold cutS at hc
    simp only [List.toList_toArray] at hc
    exact sOk_iff.mp a.1 c (List.mem_of_mem_drop (List.mem_of_mem_take hc))
  · have h2 := a.2
    unfold cutS
    show (List.toArray _).size ≤ _
    rw [List.size_toArray, List.length_take, List.length_drop]
    have : s.cps.toList.length = s.length := by simp [Str.length]
    omega

/-! ### lists by places -/
theorem flen {ws : List W} {vs : List V} {K : PySem.W.Frag} {ρ : Rho} {H : Hp} (r : RVs K ρ H ws vs) : vs.length = ws.length := r.len.symm
theorem RVs.cut {K : PySem.W.Frag} {ρ : Rho} {H : Hp} {ws : List W} {vs : List V} (r : RVs K ρ H ws vs) (lo hi : Option Int) : RVs K ρ H (cutL ws lo hi) (cutV vs lo hi) := by
  unfold cutL cutV
  rw [r.len]
  exact (r.drop _).take _
theorem RVs.atI {K : PySem.W.Frag} {ρ : Rho} {H : Hp} {ws : List W} {vs : List V} {i : Int} {w : W} (r : RVs K ρ H ws vs) (h : L2.atI ws i = some w) : ∃ v, L2.atI vs i = some v ∧ RV K ρ H w v := by
  unfold L2.atI at h ⊢
  rw [← r.len]
  cases e : ixN ws.length i with
  | none => rw [e] at h; cases h
  | some j =>
    rw [e] at h
    simp only [Option.bind_some] at h ⊢
    exact r.get h

/-! ### tuple * 1 -/
theorem tuple_mul1 (l : Addr) (items : Array Value) (n : Nat) (dd : Option Addr) (sl : Array (Option Value)) (u : Tok) :
    Meets (Builtin.«tuple.__mul__» ⟨[.ref l, .int 1 u], []⟩) (fun _ R s => s.heap.get? l = some { cls := .type "tuple", dict := dd, data := .seq items n, slots := sl } ∧ R (.ok (.ret (Value.ref l))) s) :=
  .of_wp fun prog w A R s h => by
    obtain ⟨hp, g, d, tk, os⟩ := s
    obtain ⟨hl, h⟩ := h
    have f1 := AutoSeq1.idx_int
    have c0 : (decide ((1 : Int) < -(2 ^ 63)) || decide ((1 : Int) ≥ 2 ^ 63)) = false := by decide
    have c1 : (items.isEmpty || (1 : Int) == 1) = true := by simp
    wp_walk using wpAny_loadPart' hl
    repeat (first
      | (refine wpAny_ite_false (decide_eq_false (by rw [c0]; exact Bool.false_ne_true)) ?_; wp_walk using wpAny_loadPart' hl)
      | (refine wpAny_ite_true (decide_eq_true c1) ?_; wp_walk using wpAny_loadPart' hl))
    exact ⟨_, rfl, h⟩

section
variable {X : Cx}
theorem op_repT1 : OpR X (binaryOp .Mult) (fun x y H Q => ∃ l xs, x = .ref l ∧ y = .int 1 ∧ SqT X.K H l xs ∧ Q (.ref l) H) := by
  intro pins s σ H x y v u Q I rx ry h
  obtain ⟨l, xs, rfl, rfl, hT, q⟩ := h
  cases rx
  obtain ⟨t, rfl⟩ := ry
  obtain ⟨its, r, ⟨⟨cls, dd, data, sl⟩, ho, hc, n, hd⟩, hs⟩ := I.tuple hT
  simp only at hc hd
  subst hc hd
  refine wpAny_binaryOp_repeat_ref (T := "tuple") (U := "int") (by decide) ⟨_, ho, rfl⟩ (fun s' => typeIs_int s' 1 t) noFill_tuple_mul F.fills_int_mul F.slot_int_rmul repeat_tuple F.slot_int_index.lookup
    (call_meets F.slot_int_rmul (typeIs_int s 1 t) F.entry_int_rmul (F.args_int_rmul_2 _ _) (int_rmul_tuple 1 t l its.toArray n dd sl)
      ⟨ho, rfl, ⟨_, ho, rfl⟩, call_meets F.slot_tuple_mul ⟨_, ho, rfl⟩ F.entry_tuple_mul (F.args_tuple_mul_2 _ _) (tuple_mul1 l its.toArray n dd sl t) ⟨ho, ?_⟩⟩)
  exact ⟨.ref l, H, I, rfl, q⟩
theorem op_mulS : OpR X (binaryOp .Mult) (fun x y H Q => ∃ z k, x = .str z ∧ y = .int k ∧ -1000 ≤ k ∧ k ≤ 1000 ∧ z.length ≤ 1000 ∧ Q (.str (Txt.mul z k)) H) := by
  intro pins s σ H x y v u Q I rx ry h
  obtain ⟨z, k, rfl, rfl, h0, h1, h2, q⟩ := h
  obtain ⟨t, rfl⟩ := rx
  obtain ⟨t', rfl⟩ := ry
  refine SB.mul ⟨?_, fun a _ => ?_, fun a _ => ?_⟩ fun t' k' => ⟨.str _, H, I.tok _, ⟨_, rfl⟩, q⟩
  · rw [decide_eq_false (by omega), decide_eq_false (by omega)]; rfl
  · have h0 : 0 ≤ k := by omega
    have : (z.length : Int) * k ≤ 1000 * 1000 := Int.mul_le_mul (by omega) h1 h0 (by omega)
    have : (z.length : Int) ≤ (2 ^ 63 - 1) / k := by
      rw [Int.le_ediv_iff_mul_le (by omega)]; omega
    omega
  · have : z.length * k.toNat ≤ 1000 * 1000 := Nat.mul_le_mul h2 (by omega)
    unfold Builtin.Str.tooLong
    rw [sizeLine_eq]
    exact decide_eq_false (by omega)
theorem SOk.mul {z : Str} {k : Int} (a : SOk z) (h1 : k ≤ 1000) (h2 : z.length ≤ 1000) : SOk (Txt.mul z k) := by
  unfold Txt.mul
  split
  · exact ⟨by simp [PyData.strOk, Str.empty], by simp [Str.empty, Str.length]⟩
  · split
    · exact a
    · have e : ∀ (n : Nat) (acc : Array Nat), (List.replicate n z.cps).foldl (· ++ ·) acc = acc ++ ((List.replicate n z.cps.toList).flatten).toArray := by
        intro n
        induction n with
        | zero => intro acc; simp
        | succ n ih => intro acc; rw [List.replicate_succ, List.foldl_cons, ih, List.replicate_succ, List.flatten_cons]; apply Array.ext'; simp
      rw [e]
      refine ⟨sOk_iff.mpr fun c hc => ?_, ?_⟩
      · simp only [Array.toList_append, List.mem_append, List.mem_flatten, List.mem_replicate] at hc
        rcases hc with hc | ⟨l, ⟨_, rfl⟩, hc⟩
        · simp at hc
        · exact sOk_iff.mp a.1 c hc
      · show (_ : Array Nat).size ≤ _
        simp only [Array.size_append, List.size_toArray, List.length_flatten, List.map_replicate, List.sum_replicate_nat]
        have : k.toNat * z.cps.toList.length ≤ 1000 * 1000 := Nat.mul_le_mul (by omega) (by simpa [Str.length] using h2)
        show 0 + _ ≤ _
        omega

/-- list + list, written or not -/
def rCatL : R2 := fun x y H Q => ∃ l b xs zs, x = .ref l ∧ y = .ref b ∧ Rd H l (.lst xs) ∧ Rd H b (.lst zs) ∧ xs.length + zs.length ≤ sizeLine ∧ ∀ p, H p = none → Q (.ref p) (upd H p (.lst (xs ++ zs)))
theorem op_catL : OpR X (binaryOp .Add) rCatL := by
  intro pins s σ H x y v u Q I rx ry h
  obtain ⟨l, b, xs, zs, rfl, rfl, hH, hB, hz, q⟩ := h
  cases rx
  cases ry
  obtain ⟨z, its, n, r, e⟩ := hH.ok I.hok
  obtain ⟨z2, its2, n2, r2, e2⟩ := hB.ok I.hok
  have hl := r.length
  have hl2 := r2.length
  refine PySem.P.add_list e e2 ?_ (by rw [List.size_toArray, List.size_toArray]; omega)
  have ea : its.toArray ++ its2.toArray = (its ++ its2).toArray := by simp
  rw [ea]
  exact ⟨.ref _, _, I.lnew (t' := s.toks) (r.append r2) (by rw [List.length_append]; omega), rfl, q _ I.fresh⟩
def b2j (b : Bool) : Int := if b = true then 1 else 0
theorem op_add_bi : OpR X (binaryOp .Add) (fun x y H Q => ∃ k i, x = .bl k ∧ y = .int i ∧ Q (.int ((if k = true then (1 : Int) else 0) + i)) H) := by
  intro pins s σ H x y v u Q I rx ry h
  obtain ⟨k, i, rfl, rfl, q⟩ := h
  obtain ⟨t, rfl⟩ := ry
  cases rx
  exact PySem.IntBool.add_bool_int ⟨.int _, H, I.tok _, ⟨_, rfl⟩, q⟩
theorem op_sub_bi : OpR X (binaryOp .Sub) (fun x y H Q => ∃ k i, x = .bl k ∧ y = .int i ∧ Q (.int ((if k = true then (1 : Int) else 0) - i)) H) := by
  intro pins s σ H x y v u Q I rx ry h
  obtain ⟨k, i, rfl, rfl, q⟩ := h
  obtain ⟨t, rfl⟩ := ry
  cases rx
  exact PySem.IntBool.sub_bool_int ⟨.int _, H, I.tok _, ⟨_, rfl⟩, q⟩
def bopX : BOp → Operator
  | .add => .Add | .sub => .Sub | .mul => .Mult | .fdiv => .FloorDiv | .mod => .Mod | .pow => .Pow
def rBin (K : PySem.W.Frag) (G : Sta) (o : BOp) : R2 := fun x y H Q => ∃ ρ h wx wy, Rl K G ρ h H ∧ RV K ρ H wx x ∧ RV K ρ H wy y ∧ OutR (Fin K G ρ H Q) (fun _ _ _ => False) (binW o wx wy h)
theorem op_bin (G : Sta) (o : BOp) : OpR X (binaryOp (bopX o)) (rBin X.K G o) := by
  intro pins s σ H x y v u Q I rx ry hyp
  obtain ⟨ρ, h, wx, wy, rl, r1, r2, out⟩ := hyp
  unfold binW at out
  split at out
  · cases r1; cases r2
    exact op_add pins s σ H _ _ v u Q I rx ry ⟨_, _, rfl, rfl, Fin.now out rl rfl⟩
  · obtain ⟨rfl, k1⟩ := r1
    obtain ⟨rfl, k2⟩ := r2
    split at out
    · rename_i hz
      exact op_add_str pins s σ H _ _ v u Q I rx ry ⟨_, _, rfl, rfl, by rw [sizeLine_eq]; exact hz, Fin.now out rl ⟨rfl, k1.app k2 hz⟩⟩
    · exact out.elim
  · split at out
    · rename_i xs ys hz
      obtain ⟨a, vs, rfl, t1, q1⟩ := r1
      obtain ⟨b, us, rfl, t2, q2⟩ := r2
      refine op_catA pins s σ H _ _ v u Q I rx ry ⟨a, b, vs, us, rfl, rfl, t1.sq, t2.sq, by rw [sizeLine_eq, ← q1.len, ← q2.len]; exact hz, fun e => ?_, fun _ e => ?_, fun _ _ p hp => ?_⟩
      · subst e
        obtain rfl : xs = [] := List.eq_nil_of_length_eq_zero q1.len
        exact Fin.now out rl ⟨b, us, rfl, t2, by simpa using q2⟩
      · subst e
        obtain rfl : ys = [] := List.eq_nil_of_length_eq_zero q2.len
        exact Fin.now out rl ⟨a, vs, rfl, t1, by simpa using q1⟩
      · exact Fin.tup out rl (q1.app q2) hp
    · exact out.elim
  · cases r1; cases r2
    exact op_add_bi pins s σ H _ _ v u Q I rx ry ⟨_, _, rfl, rfl, Fin.now out rl rfl⟩
  · split at out
    · rename_i xs ys f1 f2
      split at out
      · rename_i hz
        obtain ⟨a, vs, rfl, h1, q1⟩ := lstW_rel rl r1 f1
        obtain ⟨b, us, rfl, h2, q2⟩ := lstW_rel rl r2 f2
        exact op_catL pins s σ H _ _ v u Q I rx ry ⟨a, b, vs, us, rfl, rfl, h1, h2, by rw [sizeLine_eq, ← q1.len, ← q2.len]; exact hz, fun p hp => Fin.lst out rl (q1.app q2) hp⟩
      · exact out.elim
    · exact out.elim
  · cases r1; cases r2
    exact op_sub pins s σ H _ _ v u Q I rx ry ⟨_, _, rfl, rfl, Fin.now out rl rfl⟩
  · cases r1; cases r2
    exact op_sub_bi pins s σ H _ _ v u Q I rx ry ⟨_, _, rfl, rfl, Fin.now out rl rfl⟩
  · cases r1; cases r2
    split at out
    · rename_i hz
      exact op_mul pins s σ H _ _ v u Q I rx ry ⟨_, _, rfl, rfl, hz, Fin.now out rl rfl⟩
    · exact out.elim
  · obtain ⟨rfl, k1⟩ := r1
    cases r2
    split at out
    · rename_i hz
      exact op_mulS pins s σ H _ _ v u Q I rx ry ⟨_, _, rfl, rfl, hz.1, hz.2.1, hz.2.2, Fin.now out rl ⟨rfl, k1.mul hz.2.1 hz.2.2⟩⟩
    · exact out.elim
  · obtain ⟨a, vs, rfl, t1, q1⟩ := r1
    cases r2
    split at out
    · rename_i xs j hz
      by_cases hj : j = 1
      · subst hj
        refine op_repT1 pins s σ H _ _ v u Q I rx ry ⟨a, vs, rfl, rfl, t1.sq, Fin.now out rl ⟨a, vs, rfl, t1, ?_⟩⟩
        show RVs _ _ _ (List.replicate 1 xs).flatten vs
        simpa using q1
      · exact op_repT pins s σ H _ _ v u Q I rx ry ⟨a, j, vs, rfl, rfl, t1.sq, fun e => hz.1 (List.eq_nil_of_length_eq_zero (by rw [q1.len, e]; rfl)), by omega, hz.2.2.1, by rw [← q1.len]; exact hz.2.2.2, fun p hp => Fin.tup out rl (q1.rep _) hp⟩
    · exact out.elim
  · obtain ⟨a, e1, rfl⟩ := r1
    cases r2
    split at out
    · rename_i xs f1
      split at out
      · rename_i hz
        obtain ⟨vs, h1, q1⟩ := rl.lst e1 f1
        exact op_rep pins s σ H _ _ v u Q I rx ry ⟨a, _, vs, rfl, rfl, h1, by omega, by omega, by rw [sizeLine_eq, ← q1.len]; exact hz.2.2, fun p hp => Fin.lst out rl (q1.rep _) hp⟩
      · exact out.elim
    · exact out.elim
  · cases r1; cases r2
    split at out
    · rename_i hz
      exact op_fdiv pins s σ H _ _ v u Q I rx ry ⟨_, _, rfl, rfl, hz, Fin.now out rl rfl⟩
    · exact out.elim
  · cases r1; cases r2
    split at out
    · rename_i hz
      exact op_mod pins s σ H _ _ v u Q I rx ry ⟨_, _, rfl, rfl, hz, Fin.now out rl rfl⟩
    · exact out.elim
  · cases r1; cases r2
    split at out
    · rename_i hz
      exact op_pow pins s σ H _ _ v u Q I rx ry ⟨_, _, rfl, rfl, hz, Fin.now out rl rfl⟩
    · exact out.elim
  · exact out.elim
end
end VM

set_option autoImplicit true
set_option linter.all false
set_option maxRecDepth 100000
set_option maxHeartbeats 4000000
/-! VM3b: comparisons, sorting: data. -/
namespace VM
open PySem PySem.Spec PyProof.Rows L2

theorem opt_map_some {α β : Type} {f : α → β} {o : Option α} {b : β} (h : o.map f = some b) : ∃ a, o = some a ∧ f a = b := by
  cases o with
  | none => cases h
  | some a => exact ⟨a, rfl, Option.some.inj h⟩
theorem opt_bind_some {α β : Type} {f : α → Option β} {o : Option α} {b : β} (h : o.bind f = some b) : ∃ a, o = some a ∧ f a = some b := by
  cases o with
  | none => cases h
  | some a => exact ⟨a, rfl, h⟩
theorem pdL_cons {g : Nat → Option PyData} {w : W} {ws : List W} {ds : List PyData} (h : pdL g (w :: ws) = some ds) : ∃ d r, ds = d :: r ∧ pdW g w = some d ∧ pdL g ws = some r := by
  unfold pdL at h
  split at h
  · rename_i d r h1 h2
    exact ⟨d, r, (Option.some.inj h).symm, h1, h2⟩
  · cases h
section
variable {K : PySem.W.Frag} {G : Sta} {ρ : Rho} {H : Hp} {h : VH}
/-- what refs read as -/
def RefOk (K : PySem.W.Frag) (ρ : Rho) (H : Hp) (g : Nat → Option PyData) : Prop := ∀ n d a, g n = some d → ρ n = some a → Dp K H (.ref a) d ∧ d.canLay0 = true
mutual
theorem RV.dp' {g : Nat → Option PyData} (hg : RefOk K ρ H g) : ∀ (w : W) (v : V) (d : PyData), RV K ρ H w v → pdW g w = some d → Dp K H v d ∧ d.canLay0 = true
  | .non, _, _, r, e => by cases r; cases e; exact ⟨.non, rfl⟩
  | .bl b, _, _, r, e => by cases r; cases e; exact ⟨.bl b, rfl⟩
  | .int b, _, _, r, e => by cases r; cases e; exact ⟨.int b, rfl⟩
  | .str s, _, _, r, e => by
    obtain ⟨rfl, k⟩ := r
    cases e
    exact ⟨.str s, by simpa [PyData.canLay0] using k.1⟩
  | .tup ws, v, d, r, e => by
    unfold RV at r
    obtain ⟨a, vs, rfl, t, q⟩ := r
    unfold pdW at e
    obtain ⟨ds, e1, rfl⟩ := opt_map_some e
    obtain ⟨q1, q2⟩ := RVs.dp' hg ws vs ds q e1
    exact ⟨.tup t.sq q1, by simpa [PyData.canLay0] using q2⟩
  | .lit ws, v, d, r, e => by simp [pdW] at e
  | .ref n, v, d, r, e => by
    obtain ⟨a, q, rfl⟩ := r
    exact hg n d a e q
  | .exn _ _, _, _, r, _ => r.elim
  | .fz ws, v, d, r, e => by
    unfold RV at r
    obtain ⟨a, vs, rfl, t, q⟩ := r
    unfold pdW at e
    obtain ⟨ds, e1, rfl⟩ := opt_map_some e
    obtain ⟨q1, q2⟩ := RVs.dp' hg ws vs ds q e1
    exact ⟨.lst (.inl (.inr t)) q1, by simpa [PyData.canLay0] using q2⟩
theorem RVs.dp' {g : Nat → Option PyData} (hg : RefOk K ρ H g) : ∀ (ws : List W) (vs : List V) (ds : List PyData), RVs K ρ H ws vs → pdL g ws = some ds → DpAll K H vs ds ∧ PyData.canLayAll0 ds = true
  | [], _, _, r, e => by cases r; cases e; exact ⟨.nil, rfl⟩
  | w :: ws, vs, ds, r, e => by
    unfold RVs at r
    obtain ⟨v, r', rfl, a, b⟩ := r
    obtain ⟨d, dr, rfl, e1, e2⟩ := pdL_cons e
    obtain ⟨a1, a2⟩ := RV.dp' hg w v d a e1
    obtain ⟨b1, b2⟩ := RVs.dp' hg ws r' dr b e2
    exact ⟨.cons a1 b1, by simp [PyData.canLayAll0, a2, b2]⟩
end
theorem refOk (rl : Rl K G ρ h H) : ∀ k, RefOk K ρ H (pdR h k)
  | 0 => fun n d a e _ => by cases e
  | k + 1 => fun n d a e q => by
    unfold pdR at e
    obtain ⟨ws, e1, e2⟩ := opt_bind_some e
    obtain ⟨o, e3, e4⟩ := opt_bind_some e1
    cases o with
    | lst xs =>
      have e5 : xs = ws := Option.some.inj e4
      subst e5
      obtain ⟨vs, h1, h2⟩ := rl.lst q e3
      obtain ⟨ds, e5, rfl⟩ := opt_map_some e2
      obtain ⟨q1, q2⟩ := RVs.dp' (refOk rl k) xs vs ds h2 e5
      exact ⟨.lst (SqL.of h1) q1, by simpa [PyData.canLay0] using q2⟩
    | dic lk kvs => cases e4
    | ins c fs => cases e4
theorem RV.dp (rl : Rl K G ρ h H) {w : W} {v : V} {d : PyData} (r : RV K ρ H w v) (e : pd h w = some d) : Dp K H v d ∧ d.canLay0 = true := RV.dp' (refOk rl 8) w v d r e
theorem RVs.dp (rl : Rl K G ρ h H) {ws : List W} {vs : List V} {ds : List PyData} (r : RVs K ρ H ws vs) (e : pds h ws = some ds) : DpAll K H vs ds ∧ PyData.canLayAll0 ds = true := RVs.dp' (refOk rl 8) ws vs ds r e
end

theorem eqW_some {h : VH} {a b : W} {r : Bool} (e : eqW h a b = some r) : ∃ x y, pd h a = some x ∧ pd h b = some y ∧ small x = true ∧ small y = true ∧ r = PyData.eqv x y := by
  unfold eqW at e
  split at e
  · rename_i i j
    refine ⟨.int i, .int j, rfl, rfl, rfl, rfl, ?_⟩
    cases e
    simp [PyData.eqv, Bool.beq_eq_decide_eq]
  · rename_i i j
    refine ⟨.str i, .str j, rfl, rfl, rfl, rfl, ?_⟩
    cases e
    simp [PyData.eqv, Bool.beq_eq_decide_eq]
  · rename_i i j
    refine ⟨.bool i, .bool j, rfl, rfl, rfl, rfl, ?_⟩
    cases e
    cases i <;> cases j <;> rfl
  · split at e
    · rename_i x y h1 h2
      split at e
      · rename_i hs
        cases e
        simp only [Bool.and_eq_true] at hs
        exact ⟨x, y, h1, h2, hs.1, hs.2, rfl⟩
      · cases e
    · cases e
theorem shaped_of {d : PyData} (a : d.canLay0 = true) (b : small d = true) : SeqAt.shaped d = true := by
  unfold SeqAt.shaped
  rw [a, Bool.true_and]
  have := of_decide_eq_true b
  exact decide_eq_true (by omega)

/-- the tests of values -/
def rCmp (K : PySem.W.Frag) (G : Sta) (o : COp) : R2 := fun x y H Q => ∃ ρ h wx wy b, Rl K G ρ h H ∧ RV K ρ H wx x ∧ RV K ρ H wy y ∧ cmpW h o wx wy = some b ∧ Q (.bl b) H
def copX : COp → CmpOp
  | .eq => .Eq | .ne => .NotEq | .lt => .Lt | .le => .LtE | .gt => .Gt | .ge => .GtE | .isin => .In | .notin => .NotIn
section
variable {X : Cx} {G : Sta}
theorem op_eqW (hu : X.A.units + 64 < cLine) : OpR X (compareOp .Eq) (rCmp X.K G .eq) := by
  intro pins s σ H x y v u Q I rx ry hyp
  obtain ⟨ρ, h, wx, wy, b, rl, r1, r2, e, q⟩ := hyp
  obtain ⟨d1, d2, e1, e2, s1, s2, rfl⟩ := eqW_some (show eqW h wx wy = some b from e)
  obtain ⟨p1, l1⟩ := r1.dp rl e1
  obtain ⟨p2, l2⟩ := r2.dp rl e2
  exact op_eqD hu pins s σ H x y v u Q I rx ry ⟨d1, d2, p1, p2, shaped_of l1 s1, shaped_of l2 s2, q⟩
theorem op_neW (hu : X.A.units + 64 < cLine) : OpR X (compareOp .NotEq) (rCmp X.K G .ne) := by
  intro pins s σ H x y v u Q I rx ry hyp
  obtain ⟨ρ, h, wx, wy, b, rl, r1, r2, e, q⟩ := hyp
  obtain ⟨b', e', rfl⟩ := opt_map_some (show (eqW h wx wy).map (!·) = some b from e)
  obtain ⟨d1, d2, e1, e2, s1, s2, rfl⟩ := eqW_some e'
  obtain ⟨p1, l1⟩ := r1.dp rl e1
  obtain ⟨p2, l2⟩ := r2.dp rl e2
  exact op_neD hu pins s σ H x y v u Q I rx ry ⟨d1, d2, p1, p2, shaped_of l1 s1, shaped_of l2 s2, q⟩
theorem op_ltW (hu : X.A.units + 64 < cLine) : OpR X (compareOp .Lt) (rCmp X.K G .lt) := by
  intro pins s σ H x y v u Q I rx ry hyp
  obtain ⟨ρ, h, wx, wy, b, rl, r1, r2, e, q⟩ := hyp
  have e : ltW h wx wy = some b := e
  unfold ltW at e
  split at e
  · cases e; cases r1; cases r2
    exact op_lt pins s σ H _ _ v u Q I rx ry ⟨_, _, rfl, rfl, q⟩
  · split at e
    · rename_i xs ys e1 e2
      split at e
      · rename_i hs
        cases e
        simp only [Bool.and_eq_true] at hs
        obtain ⟨p1, l1⟩ := r1.dp rl e1
        obtain ⟨p2, l2⟩ := r2.dp rl e2
        obtain ⟨as, rd1⟩ := Dp.reads I _ _ v p1 rx
        obtain ⟨bs, rd2⟩ := Dp.reads I _ _ u p2 ry
        have hd : (PyData.tuple xs).depth ≤ 60 := of_decide_eq_true hs.2.1
        have hm := Nat.min_le_left (PyData.tuple xs).depth (PyData.tuple ys).depth
        exact PySem.W.rcLt_alike (.tuple xs) (.tuple ys) X.A s v u as bs rd1 rd2 hs.1 (fun z => nomatch z) (by omega) X.prog X.w X.xe _ ⟨.bl _, H, I, rfl, q⟩
      · cases e
    · cases e

theorem depthAll_small : ∀ {ds : List PyData}, ds.all small = true → PyData.depthAll ds ≤ 60
  | [], _ => by simp [PyData.depthAll]
  | d :: ds, h => by
    simp only [List.all_cons, Bool.and_eq_true] at h
    have h1 : d.depth ≤ 60 := of_decide_eq_true h.1
    have h2 := depthAll_small h.2
    simp only [PyData.depthAll]
    omega
theorem shaped_list {ds : List PyData} (a : PyData.canLayAll0 ds = true) (b : ds.all small = true) : SeqAt.shaped (.list ds) = true := by
  have := depthAll_small b
  unfold SeqAt.shaped
  simp only [PyData.canLay0, a, Bool.true_and, PyData.depth]
  exact decide_eq_true (by omega)
theorem inItems_some {h : VH} {w : W} {ws : List W} {b : Bool} (e : inItems h w ws = some b) :
    ∃ d ds, pd h w = some d ∧ pds h ws = some ds ∧ small d = true ∧ ds.all small = true ∧ b = ds.any fun z => PyData.eqv z d := by
  unfold inItems at e
  split at e
  · rename_i d ds e1 e2
    split at e
    · rename_i hs
      simp only [Bool.and_eq_true] at hs
      cases e
      exact ⟨d, ds, e1, e2, hs.1, hs.2, rfl⟩
    · cases e
  · cases e
theorem key_rel {K : PySem.W.Frag} {ρ : Rho} {H : Hp} {w : W} {v : V} {k : Key} (r : RV K ρ H w v) (e : keyW w = some k) : v = kV k ∧ ∀ s, k = .inr s → SOk s := by
  cases w with
  | int i => cases e; cases r; exact ⟨rfl, fun s z => by cases z⟩
  | str s => cases e; obtain ⟨rfl, k⟩ := r; exact ⟨rfl, fun s z => by cases z; exact k⟩
  | _ => cases e
theorem RKv.get {K : PySem.W.Frag} {ρ : Rho} {H : Hp} {k : Key} : ∀ {a : List (Key × W)} {b : List (Key × V)}, RKv K ρ H a b → (match kvGet a k, valV b k with
    | some w, some v => RV K ρ H w v
    | none, none => True
    | _, _ => False)
  | _, _, .nil => trivial
  | (k1, w) :: a, (k2, v) :: b, .cons p q => by
    obtain ⟨e, r, _⟩ := p
    have e : k1 = k2 := e
    subst e
    have ih := RKv.get (k := k) q
    unfold kvGet valV at *
    by_cases z : k1 = k
    · simp only [List.find?_cons, decide_eq_true z, Option.map_some]; exact r
    · simp only [List.find?_cons, decide_eq_false z]; exact ih
theorem RKv.some_get {K : PySem.W.Frag} {ρ : Rho} {H : Hp} {k : Key} {a : List (Key × W)} {b : List (Key × V)} (r : RKv K ρ H a b) : (kvGet a k).isSome = (valV b k).isSome := by
  have := r.get (k := k)
  cases e1 : kvGet a k <;> cases e2 : valV b k <;> rw [e1, e2] at this <;> first | rfl | exact this.elim
theorem inW_some {h : VH} {a b : W} {r : Bool} (e : inW h a b = some r) :
    (∃ s z c, a = .str s ∧ b = .str z ∧ s.cps.toList = [c] ∧ r = decide (c ∈ z.cps.toList)) ∨
    (∃ ws, b = .tup ws ∧ inItems h a ws = some r) ∨ (∃ ws, lstW h b = some ws ∧ inItems h a ws = some r) ∨
    (∃ n lk kvs k, b = .ref n ∧ h.f n = some (.dic lk kvs) ∧ keyW a = some k ∧ r = (kvGet kvs k).isSome) := by
  unfold inW at e
  split at e
  · rename_i s z
    split at e
    · rename_i c hc
      cases e
      exact .inl ⟨s, z, c, rfl, rfl, hc, rfl⟩
    · cases e
  · exact .inr (.inl ⟨_, rfl, e⟩)
  · exact .inr (.inr (.inl ⟨_, rfl, e⟩))
  · split at e
    · rename_i ws hf
      exact .inr (.inr (.inl ⟨ws, by simp [lstW, hf], e⟩))
    · rename_i lk kvs hf
      obtain ⟨k, e1, e2⟩ := opt_map_some e
      exact .inr (.inr (.inr ⟨_, lk, kvs, k, rfl, hf, e1, e2.symm⟩))
    · cases e
  · cases e
theorem room_small {A : Around} {d : PyData} {n : Nat} (h : small d = true) (hu : A.units + 65 < cLine) : A.units + 1 + min n d.depth < cLine := by
  have h1 : d.depth ≤ 60 := of_decide_eq_true h
  have := Nat.min_le_right n d.depth
  omega
/-- in, not in: the answer b, turned by ng -/
theorem in_core (hu : X.A.units + 65 < cLine) (ng : Bool) : OpR X (compareOp (if ng then .NotIn else .In)) (fun x y H Q => ∃ ρ h wx wy b, Rl X.K G ρ h H ∧ RV X.K ρ H wx x ∧ RV X.K ρ H wy y ∧ inW h wx wy = some b ∧ Q (.bl (if ng then !b else b)) H) := by
  intro pins s σ H x y v u Q I rx ry hyp
  obtain ⟨ρ, h, wx, wy, b, rl, r1, r2, e0, q⟩ := hyp
  rcases inW_some e0 with ⟨st, z, c, rfl, rfl, hc, rfl⟩ | ⟨ws, rfl, e⟩ | ⟨ws, hf, e⟩ | ⟨n, lk, kvs, k, rfl, hf, hk, rfl⟩
  · obtain ⟨rfl, _⟩ := r1
    obtain ⟨rfl, _⟩ := r2
    have es : st = ⟨#[c]⟩ := by
      obtain ⟨cps⟩ := st
      have : cps = #[c] := by apply Array.ext'; simpa using hc
      rw [this]
    subst es
    cases ng with
    | false => exact op_in_sign pins s σ H _ _ v u Q I rx ry ⟨c, z, rfl, rfl, q⟩
    | true => exact op_notIn_sign pins s σ H _ _ v u Q I rx ry ⟨c, z, rfl, rfl, q⟩
  · obtain ⟨d, ds, e1, e2, s1, s2, rfl⟩ := inItems_some e
    obtain ⟨p1, l1⟩ := r1.dp rl e1
    obtain ⟨a, vs, rfl, t, qs⟩ := r2
    obtain ⟨p2, l2⟩ := qs.dp rl e2
    obtain ⟨as, rd1⟩ := Dp.reads I _ _ v p1 rx
    obtain ⟨bs, rd2⟩ := Dp.reads I _ _ u (.tup t.sq p2) ry
    cases ng with
    | false => exact SeqAt.in_tuple_reads rd2 rd1 l2 l1 (room_small s1 hu) ⟨.bl _, H, I, rfl, q⟩
    | true => exact SeqAt.notIn_tuple_reads rd2 rd1 l2 l1 (room_small s1 hu) ⟨.bl _, H, I, rfl, q⟩
  · obtain ⟨d, ds, e1, e2, s1, s2, rfl⟩ := inItems_some e
    obtain ⟨p1, l1⟩ := r1.dp rl e1
    obtain ⟨a, vs, rfl, h1, qs⟩ := lstW_rel rl r2 hf
    obtain ⟨p2, l2⟩ := qs.dp rl e2
    cases ng with
    | false => exact op_inD hu pins s σ H _ _ v u Q I rx ry ⟨d, ds, p1, .lst (.inl h1) p2, shaped_of l1 s1, shaped_list l2 s2, q⟩
    | true => exact op_notInD hu pins s σ H _ _ v u Q I rx ry ⟨d, ds, p1, .lst (.inl h1) p2, shaped_of l1 s1, shaped_list l2 s2, q⟩
  · obtain ⟨rfl, _⟩ := key_rel r1 hk
    obtain ⟨a, ea, rfl⟩ := r2
    obtain ⟨kvs', rk, rd⟩ := rl.dicR ea hf
    rw [rk.some_get] at q
    obtain rfl : u = Value.ref a := ry
    cases ng with
    | false => exact d_in (by omega) I (.inl ⟨kvs', k, rd, rfl, rfl⟩) rx fun s3 I3 => ⟨.bl _, H, I3, rfl, q⟩
    | true => exact d_notIn (by omega) I (.inl ⟨kvs', k, rd, rfl, rfl⟩) rx fun s3 I3 => ⟨.bl _, H, I3, rfl, q⟩
def cmpI (i j : Int) : COp → Bool
  | .le => decide (i ≤ j)
  | .gt => decide (j < i)
  | _ => decide (j ≤ i)
theorem cmp_ints {o : COp} {h : VH} {a b : W} {r : Bool} (ho : o = .le ∨ o = .gt ∨ o = .ge) (e : cmpW h o a b = some r) :
    ∃ i j, a = .int i ∧ b = .int j ∧ r = cmpI i j o := by
  rcases ho with rfl | rfl | rfl <;> cases a <;> first | (cases b <;> first | (cases e; exact ⟨_, _, rfl, rfl, rfl⟩) | cases e) | cases e
theorem op_cmpW (hu : X.A.units + 65 < cLine) (o : COp) : OpR X (compareOp (copX o)) (rCmp X.K G o) := by
  have hu' : X.A.units + 64 < cLine := by omega
  cases o with
  | eq => exact op_eqW hu'
  | ne => exact op_neW hu'
  | lt => exact op_ltW hu'
  | le =>
    intro pins s σ H x y v u Q I rx ry ⟨ρ, h, wx, wy, b, rl, r1, r2, e, q⟩
    obtain ⟨i, j, rfl, rfl, rfl⟩ := cmp_ints (.inl rfl) e
    cases r1; cases r2
    exact op_le pins s σ H _ _ v u Q I rx ry ⟨_, _, rfl, rfl, q⟩
  | gt =>
    intro pins s σ H x y v u Q I rx ry ⟨ρ, h, wx, wy, b, rl, r1, r2, e, q⟩
    obtain ⟨i, j, rfl, rfl, rfl⟩ := cmp_ints (.inr (.inl rfl)) e
    cases r1; cases r2
    exact op_gt pins s σ H _ _ v u Q I rx ry ⟨_, _, rfl, rfl, q⟩
  | ge =>
    intro pins s σ H x y v u Q I rx ry ⟨ρ, h, wx, wy, b, rl, r1, r2, e, q⟩
    obtain ⟨i, j, rfl, rfl, rfl⟩ := cmp_ints (.inr (.inr rfl)) e
    cases r1; cases r2
    exact op_ge pins s σ H _ _ v u Q I rx ry ⟨_, _, rfl, rfl, q⟩
  | isin => exact fun pins s σ H x y v u Q I rx ry ⟨ρ, h, wx, wy, b, rl, r1, r2, e, q⟩ => in_core (G := G) hu false pins s σ H x y v u Q I rx ry ⟨ρ, h, wx, wy, b, rl, r1, r2, e, q⟩
  | notin =>
    intro pins s σ H x y v u Q I rx ry ⟨ρ, h, wx, wy, b, rl, r1, r2, e, q⟩
    obtain ⟨b', e', rfl⟩ := opt_map_some (show (inW h wx wy).map (!·) = some b from e)
    exact in_core (G := G) hu true pins s σ H x y v u Q I rx ry ⟨ρ, h, wx, wy, b', rl, r1, r2, e', q⟩
end
end VM

set_option autoImplicit true
set_option linter.all false
set_option maxRecDepth 100000
set_option maxHeartbeats 4000000
/-! VM3c: subscripts, built-in functions and methods. -/
namespace VM
open PySem PySem.Spec PyProof.Rows L2
section
variable {X : Cx} {G : Sta}
/-! ### subscripts -/
def rIdx (K : PySem.W.Frag) (G : Sta) : R2 := fun x y H Q => ∃ ρ h wx wy w, Rl K G ρ h H ∧ RV K ρ H wx x ∧ RV K ρ H wy y ∧ idxW h wx wy = some w ∧ Fin K G ρ H Q w h
/-- what isn't a dict -/
def IsSq (h : VH) : W → Prop
  | .ref n => ∃ ws, h.f n = some (.lst ws)
  | _ => True
theorem ix_W : IxR X (fun x y H Q => ∃ ρ h wx wy w, Rl X.K G ρ h H ∧ RV X.K ρ H wx x ∧ RV X.K ρ H wy y ∧ idxW h wx wy = some w ∧ IsSq h wx ∧ Fin X.K G ρ H Q w h) := by
  intro value slice pins s σ H x y v u Q I rx ry hyp hs
  obtain ⟨ρ, h, wx, wy, w, rl, r1, r2, e, sq, q⟩ := hyp
  unfold idxW at e
  split at e
  · obtain ⟨a, vs, rfl, t, qs⟩ := r1
    cases r2
    obtain ⟨v', e1, rv⟩ := qs.atI e
    exact ix_tup value slice pins s σ H _ _ v u Q I rx ry ⟨a, vs, _, v', rfl, rfl, t.sq, e1, q.now rl rv⟩ hs
  · obtain ⟨a, vs, rfl, t, qs⟩ := r1
    cases r2
    obtain ⟨v', e1, rv⟩ := qs.atI e
    exact ix_list value slice pins s σ H _ _ v u Q I rx ry ⟨a, vs, _, v', rfl, rfl, t.sq, e1, q.now rl rv⟩ hs
  · obtain ⟨a, vs, rfl, t, qs⟩ := r1
    cases r2
    obtain ⟨v', e1, rv⟩ := qs.atI e
    exact ix_list value slice pins s σ H _ _ v u Q I rx ry ⟨a, vs, _, v', rfl, rfl, .inl (.inr t), e1, q.now rl rv⟩ hs
  · obtain ⟨rfl, k⟩ := r1
    cases r2
    obtain ⟨c, e1, rfl⟩ := opt_map_some e
    exact ix_str value slice pins s σ H _ _ v u Q I rx ry ⟨_, _, c, rfl, rfl, by rw [sizeLine_eq]; exact k.2, e1, q.now rl ⟨rfl, k.at e1⟩⟩ hs
  · obtain ⟨a, ea, rfl⟩ := r1
    split at e
    · rename_i hf
      cases r2
      obtain ⟨vs, h1, qs⟩ := rl.lst ea hf
      obtain ⟨v', e1, rv⟩ := qs.atI e
      exact ix_list value slice pins s σ H _ _ v u Q I rx ry ⟨a, vs, _, v', rfl, rfl, SqL.of h1, e1, q.now rl rv⟩ hs
    · rename_i hf
      obtain ⟨ws, z⟩ := sq
      rw [hf] at z; cases z
    · cases e
  · cases e
/-- a[lo:hi] -/
theorem sl_W : SlR X (fun x lo hi H Q => ∃ ρ h w, Rl X.K G ρ h H ∧ RV X.K ρ H w x ∧ OutR (Fin X.K G ρ H Q) (fun _ _ _ => False) (slcW w lo hi h)) := by
  intro pins s σ H x v vl vu lo hi sl Q I rx hs pl pu hyp
  obtain ⟨ρ, h, w, rl, r, out⟩ := hyp
  unfold slcW at out
  split at out
  · rename_i ws
    obtain ⟨a, vs, rfl, t, qs⟩ := r
    refine sl_tupA pins s σ H _ v vl vu lo hi sl Q I rx hs pl pu ⟨a, vs, rfl, t.sq, fun e => ?_, fun _ p hp => Fin.tup out rl (qs.cut lo hi) hp⟩
    refine Fin.now out rl ⟨a, vs, rfl, t, ?_⟩
    have hq := qs.cut lo hi
    have e2 : cutV vs lo hi = vs := by unfold cutV; rw [e.1, e.2]; simp
    rw [e2] at hq
    exact hq
  · obtain ⟨a, vs, rfl, t, qs⟩ := r
    exact sl_list pins s σ H _ v vl vu lo hi sl Q I rx hs pl pu ⟨a, vs, rfl, t.sq, fun p hp => Fin.lst out rl (qs.cut lo hi) hp⟩
  · obtain ⟨a, vs, rfl, t, qs⟩ := r
    exact sl_list pins s σ H _ v vl vu lo hi sl Q I rx hs pl pu ⟨a, vs, rfl, .inl (.inr t), fun p hp => Fin.lst out rl (qs.cut lo hi) hp⟩
  · obtain ⟨rfl, k⟩ := r
    exact sl_str pins s σ H _ v vl vu lo hi sl Q I rx hs pl pu ⟨_, rfl, by rw [sizeLine_eq]; exact k.2, Fin.now out rl ⟨rfl, k.cut lo hi⟩⟩
  · obtain ⟨a, ea, rfl⟩ := r
    split at out
    · rename_i ws e
      obtain ⟨o, e1, e2⟩ := opt_bind_some e
      cases o with
      | lst xs =>
        have e5 : xs = ws := Option.some.inj e2
        subst e5
        obtain ⟨vs, h1, qs⟩ := rl.lst ea e1
        exact sl_list pins s σ H _ v vl vu lo hi sl Q I rx hs pl pu ⟨a, vs, rfl, SqL.of h1, fun p hp => Fin.lst out rl (qs.cut lo hi) hp⟩
      | dic _ _ => cases e2
      | ins _ _ => cases e2
    · exact out.elim
  · exact out.elim

/-! ### calls of built-ins -/
theorem RVs.one {K : PySem.W.Frag} {ρ : Rho} {H : Hp} {w : W} {vs : List V} (r : RVs K ρ H [w] vs) : ∃ v, vs = [v] ∧ RV K ρ H w v := by
  obtain ⟨v, r', rfl, a, b⟩ := r
  cases b
  exact ⟨v, rfl, a⟩
theorem RVs.two {K : PySem.W.Frag} {ρ : Rho} {H : Hp} {w w' : W} {vs : List V} (r : RVs K ρ H [w, w'] vs) : ∃ v v', vs = [v, v'] ∧ RV K ρ H w v ∧ RV K ρ H w' v' := by
  obtain ⟨v, r', rfl, a, b⟩ := r
  obtain ⟨v', e2, b2⟩ := b.one
  subst e2
  exact ⟨v, v', rfl, a, b2⟩
theorem of_some {α : Type} {P : α → VH → Prop} {PX : Nat → W → VH → Prop} {h : VH} {o : Option α} (x : OutR P PX (R.of h o)) : ∃ a, o = some a ∧ P a h := by
  cases o with
  | none => exact x.elim
  | some a => exact ⟨a, rfl, x⟩
theorem seqW_some {K : PySem.W.Frag} {ρ : Rho} {H : Hp} {h : VH} {w : W} {ws : List W} {v : V} (rl : Rl K G ρ h H) (r : RV K ρ H w v) (e : seqW h w = some ws) :
    ∃ a vs, v = .ref a ∧ (SqL K H a vs ∨ TupAt K H a vs) ∧ RVs K ρ H ws vs := by
  unfold seqW at e
  split at e
  · cases e
    obtain ⟨a, vs, rfl, t, qs⟩ := r
    exact ⟨a, vs, rfl, .inr t, qs⟩
  · cases e
    obtain ⟨a, vs, rfl, t, qs⟩ := r
    exact ⟨a, vs, rfl, .inl t.sq, qs⟩
  · cases e
    obtain ⟨a, vs, rfl, t, qs⟩ := r
    exact ⟨a, vs, rfl, .inl (.inl (.inr t)), qs⟩
  · obtain ⟨a, ea, rfl⟩ := r
    obtain ⟨o, e1, e2⟩ := opt_bind_some e
    cases o with
    | lst xs =>
      have e5 : xs = ws := Option.some.inj e2
      subst e5
      obtain ⟨vs, h1, qs⟩ := rl.lst ea e1
      exact ⟨a, vs, rfl, .inl (SqL.of h1), qs⟩
    | dic _ _ => cases e2
    | ins _ _ => cases e2
  · cases e
theorem RVs.ints {K : PySem.W.Frag} {ρ : Rho} {H : Hp} : ∀ {ws : List W} {vs : List V} {is : List Int}, RVs K ρ H ws vs → intsW ws = some is → vs = is.map V.int
  | [], _, _, r, e => by cases r; cases e; rfl
  | w :: ws, _, is, ⟨v, r, hv, a, b⟩, e => by
    subst hv
    cases w <;> try cases e
    rename_i i
    obtain ⟨js, e1, rfl⟩ := opt_map_some (show (intsW ws).map (i :: ·) = some is from e)
    cases a
    rw [RVs.ints b e1]; rfl
theorem RVs.bls {K : PySem.W.Frag} {ρ : Rho} {H : Hp} : ∀ {ws : List W} {vs : List V} {is : List Bool}, RVs K ρ H ws vs → blsW ws = some is → vs = is.map V.bl
  | [], _, _, r, e => by cases r; cases e; rfl
  | w :: ws, _, is, ⟨v, r, hv, a, b⟩, e => by
    subst hv
    cases w <;> try cases e
    rename_i i
    obtain ⟨js, e1, rfl⟩ := opt_map_some (show (blsW ws).map (i :: ·) = some is from e)
    cases a
    rw [RVs.bls b e1]; rfl
theorem RVs.strs {K : PySem.W.Frag} {ρ : Rho} {H : Hp} : ∀ {ws : List W} {vs : List V} {is : List Str}, RVs K ρ H ws vs → strsW ws = some is → vs = is.map V.str ∧ ∀ s ∈ is, SOk s
  | [], _, _, r, e => by cases r; cases e; exact ⟨rfl, fun s h => by cases h⟩
  | w :: ws, _, is, ⟨v, r, hv, a, b⟩, e => by
    subst hv
    cases w <;> try cases e
    rename_i i
    obtain ⟨js, e1, rfl⟩ := opt_map_some (show (strsW ws).map (i :: ·) = some is from e)
    obtain ⟨rfl, k⟩ := a
    obtain ⟨e2, k2⟩ := RVs.strs b e1
    rw [e2]
    exact ⟨rfl, fun s hs => by rcases List.mem_cons.mp hs with rfl | hs; exact k; exact k2 s hs⟩
theorem foldl_max : ∀ (is : List Int) (m : Int), (is.foldl (fun m j => if j > m then j else m) m ∈ m :: is) ∧ ∀ y ∈ m :: is, y ≤ is.foldl (fun m j => if j > m then j else m) m
  | [], m => ⟨by simp, fun y hy => by simp only [List.mem_singleton] at hy; simp only [List.foldl_nil]; omega⟩
  | i :: is, m => by
    simp only [List.foldl_cons]
    by_cases c : i > m
    · rw [if_pos c]
      obtain ⟨h1, h2⟩ := foldl_max is i
      refine ⟨List.mem_cons_of_mem _ h1, fun y hy => ?_⟩
      rcases List.mem_cons.mp hy with rfl | hy
      · have := h2 i (List.mem_cons_self ..); omega
      · exact h2 y hy
    · rw [if_neg c]
      obtain ⟨h1, h2⟩ := foldl_max is m
      refine ⟨?_, fun y hy => ?_⟩
      · rcases List.mem_cons.mp h1 with e | e
        · rw [e]; simp
        · exact List.mem_cons_of_mem _ (List.mem_cons_of_mem _ e)
      · have h0 := h2 m (List.mem_cons_self ..)
        rcases List.mem_cons.mp hy with rfl | hy
        · exact h0
        · rcases List.mem_cons.mp hy with rfl | hy
          · omega
          · exact h2 y (List.mem_cons_of_mem _ hy)
theorem foldl_min : ∀ (is : List Int) (m : Int), (is.foldl (fun m j => if j < m then j else m) m ∈ m :: is) ∧ ∀ y ∈ m :: is, is.foldl (fun m j => if j < m then j else m) m ≤ y
  | [], m => ⟨by simp, fun y hy => by simp only [List.mem_singleton] at hy; simp only [List.foldl_nil]; omega⟩
  | i :: is, m => by
    simp only [List.foldl_cons]
    by_cases c : i < m
    · rw [if_pos c]
      obtain ⟨h1, h2⟩ := foldl_min is i
      refine ⟨List.mem_cons_of_mem _ h1, fun y hy => ?_⟩
      rcases List.mem_cons.mp hy with rfl | hy
      · have := h2 i (List.mem_cons_self ..); omega
      · exact h2 y hy
    · rw [if_neg c]
      obtain ⟨h1, h2⟩ := foldl_min is m
      refine ⟨?_, fun y hy => ?_⟩
      · rcases List.mem_cons.mp h1 with e | e
        · rw [e]; simp
        · exact List.mem_cons_of_mem _ (List.mem_cons_of_mem _ e)
      · have h0 := h2 m (List.mem_cons_self ..)
        rcases List.mem_cons.mp hy with rfl | hy
        · exact h0
        · rcases List.mem_cons.mp hy with rfl | hy
          · omega
          · exact h2 y (List.mem_cons_of_mem _ hy)
theorem maxI_spec {is : List Int} {m : Int} (e : maxI is = some m) : m ∈ is ∧ ∀ y ∈ is, y ≤ m := by
  cases is with
  | nil => cases e
  | cons i is => cases e; exact foldl_max is i
theorem minI_spec {is : List Int} {m : Int} (e : minI is = some m) : m ∈ is ∧ ∀ y ∈ is, m ≤ y := by
  cases is with
  | nil => cases e
  | cons i is => cases e; exact foldl_min is i
/-- the built-in function that a word stands for -/
def biV : Bi → Value
  | .len => .builtin "len" | .abs => .builtin "abs" | .max2 => .builtin "max" | .min2 => .builtin "min" | .max1 => .builtin "max" | .min1 => .builtin "min"
  | .sum => .builtin "sum" | .all => .builtin "all" | .any => .builtin "any" | .int => .type "int" | .str => .type "str" | .tuple => .type "tuple" | .list => .type "list"
  | .dict => .type "dict" | .sorted => .builtin "sorted" | .sortedD => .builtin "sorted" | _ => .none
def rBi (K : PySem.W.Frag) (G : Sta) (b : Bi) : List V → Hp → VK → Prop := fun xs H Q => ∃ ρ h ws, Rl K G ρ h H ∧ RVs K ρ H ws xs ∧ OutR (Fin K G ρ H Q) (fun _ _ _ => False) (biW b ws h)
theorem bi_len : CallR X (.builtin "len") (rBi X.K G .len) := by
  intro pins s σ H xs us Q I rs ⟨ρ, h, ws, rl, r, out⟩
  rcases ws with _ | ⟨w, _ | ⟨w2, ws⟩⟩
  · exact out.elim
  · obtain ⟨v, rfl, rw⟩ := r.one
    obtain ⟨w', e0, q⟩ := of_some (show OutR (Fin X.K G ρ H Q) (fun _ _ _ => False) (R.of h ((lenW h w).map fun n => VM.W.int (n : Nat))) from out)
    obtain ⟨n, e, rfl⟩ := opt_map_some e0
    have q : Q (.int n) H := q.now rl rfl
    unfold lenW at e
    split at e
    · cases e
      obtain ⟨a, vs, rfl, t, qs⟩ := rw
      exact call_len_seq pins s σ H _ us Q I rs ⟨a, vs, rfl, .inr t.sq, by rw [← qs.len]; exact q⟩
    · cases e
      obtain ⟨a, vs, rfl, t, qs⟩ := rw
      exact call_len_seq pins s σ H _ us Q I rs ⟨a, vs, rfl, .inl t.sq, by rw [← qs.len]; exact q⟩
    · cases e
      obtain ⟨a, vs, rfl, t, qs⟩ := rw
      exact call_len_seq pins s σ H _ us Q I rs ⟨a, vs, rfl, .inl (.inl (.inr t)), by rw [← qs.len]; exact q⟩
    · cases e
      obtain ⟨rfl, k⟩ := rw
      exact call_len_str pins s σ H _ us Q I rs ⟨_, rfl, by rw [sizeLine_eq]; exact k.2, q⟩
    · obtain ⟨a, ea, rfl⟩ := rw
      split at e
      · cases e
        obtain ⟨vs, h1, qs⟩ := rl.lst ea (by assumption)
        exact call_len_seq pins s σ H _ us Q I rs ⟨a, vs, rfl, .inl (SqL.of h1), by rw [← qs.len]; exact q⟩
      · cases e
        obtain ⟨kvs', rk, rd⟩ := rl.dicR ea (by assumption)
        obtain rfl := rs.ref1
        rw [Paired.length rk] at q
        exact d_len I rd fun t s' I' => ⟨.int _, H, I', ⟨t, rfl⟩, q⟩
      · cases e
    · cases e
  · exact out.elim
/-- one argument that is a list of the virtual heap -/
theorem one_lst {K : PySem.W.Frag} {ρ : Rho} {H : Hp} {h : VH} {α : Type} {w : W} {v : V} {f : List W → Option α} {y : α} (rl : Rl K G ρ h H) (r : RV K ρ H w v) (e : (lstW h w).bind f = some y) :
    ∃ a ws vs, v = .ref a ∧ Rd H a (.lst vs) ∧ RVs K ρ H ws vs ∧ f ws = some y := by
  obtain ⟨ws, e1, e2⟩ := opt_bind_some e
  obtain ⟨a, vs, rfl, h1, qs⟩ := lstW_rel rl r e1
  exact ⟨a, ws, vs, rfl, h1, qs, e2⟩
theorem bi_abs : CallR X (.builtin "abs") (rBi X.K G .abs) := by
  intro pins s σ H xs us Q I rs ⟨ρ, h, ws, rl, r, out⟩
  rcases ws with _ | ⟨w, _ | ⟨w2, ws⟩⟩
  · exact out.elim
  · obtain ⟨v, rfl, rw⟩ := r.one
    cases w with
    | int i => cases rw; exact call_abs pins s σ H _ us Q I rs ⟨i, rfl, Fin.now out rl rfl⟩
    | _ => exact out.elim
  · cases w <;> exact out.elim
theorem bi_max2 (hc : X.calm = true) : CallR X (.builtin "max") (rBi X.K G .max2) := by
  intro pins s σ H xs us Q I rs ⟨ρ, h, ws, rl, r, out⟩
  rcases ws with _ | ⟨w, _ | ⟨w2, _ | ⟨w3, ws⟩⟩⟩
  · exact out.elim
  · cases w <;> exact out.elim
  · obtain ⟨v, v', rfl, rw1, rw2⟩ := r.two
    cases w <;> try exact out.elim
    cases w2 <;> try exact out.elim
    cases rw1; cases rw2
    exact call_max2 hc pins s σ H _ us Q I rs ⟨_, _, rfl, Fin.now out rl rfl⟩
  · cases w <;> cases w2 <;> exact out.elim
theorem bi_min2 (hc : X.calm = true) : CallR X (.builtin "min") (rBi X.K G .min2) := by
  intro pins s σ H xs us Q I rs ⟨ρ, h, ws, rl, r, out⟩
  rcases ws with _ | ⟨w, _ | ⟨w2, _ | ⟨w3, ws⟩⟩⟩
  · exact out.elim
  · cases w <;> exact out.elim
  · obtain ⟨v, v', rfl, rw1, rw2⟩ := r.two
    cases w <;> try exact out.elim
    cases w2 <;> try exact out.elim
    cases rw1; cases rw2
    exact call_min2 hc pins s σ H _ us Q I rs ⟨_, _, rfl, Fin.now out rl rfl⟩
  · cases w <;> cases w2 <;> exact out.elim
theorem bi_max1 (hc : X.calm = true) : CallR X (.builtin "max") (rBi X.K G .max1) := by
  intro pins s σ H xs us Q I rs ⟨ρ, h, ws, rl, r, out⟩
  rcases ws with _ | ⟨w, _ | ⟨w2, ws⟩⟩
  · exact out.elim
  · obtain ⟨v, rfl, rw⟩ := r.one
    obtain ⟨y, e0, q⟩ := of_some out
    obtain ⟨m, e1, rfl⟩ := opt_map_some e0
    obtain ⟨is, e, em⟩ := opt_bind_some e1
    obtain ⟨a, ws, vs, rfl, h1, qs, e2⟩ := one_lst rl rw e
    obtain ⟨hm, hle⟩ := maxI_spec em
    refine cr_max hc pins s σ H _ us Q I rs ⟨a, is, rfl, by rw [← qs.ints e2]; exact .inl h1, ?_, fun m' h1 h2 => ?_⟩
    · cases is with
      | nil => cases em
      | cons _ _ => simp
    · have : m' = m := Int.le_antisymm (hle m' h1) (h2 m hm)
      subst this
      exact q.now rl rfl
  · exact out.elim
theorem bi_min1 (hc : X.calm = true) : CallR X (.builtin "min") (rBi X.K G .min1) := by
  intro pins s σ H xs us Q I rs ⟨ρ, h, ws, rl, r, out⟩
  rcases ws with _ | ⟨w, _ | ⟨w2, ws⟩⟩
  · exact out.elim
  · obtain ⟨v, rfl, rw⟩ := r.one
    obtain ⟨y, e0, q⟩ := of_some out
    obtain ⟨m, e1, rfl⟩ := opt_map_some e0
    obtain ⟨is, e, em⟩ := opt_bind_some e1
    obtain ⟨a, ws, vs, rfl, h1, qs, e2⟩ := one_lst rl rw e
    obtain ⟨hm, hle⟩ := minI_spec em
    refine cr_min hc pins s σ H _ us Q I rs ⟨a, is, rfl, by rw [← qs.ints e2]; exact .inl h1, ?_, fun m' h1 h2 => ?_⟩
    · cases is with
      | nil => cases em
      | cons _ _ => simp
    · have : m' = m := Int.le_antisymm (h2 m hm) (hle m' h1)
      subst this
      exact q.now rl rfl
  · exact out.elim
theorem bi_sum (hc : X.calm = true) : CallR X (.builtin "sum") (rBi X.K G .sum) := by
  intro pins s σ H xs us Q I rs ⟨ρ, h, ws, rl, r, out⟩
  rcases ws with _ | ⟨w, _ | ⟨w2, ws⟩⟩
  · exact out.elim
  · obtain ⟨v, rfl, rw⟩ := r.one
    obtain ⟨y, e0, q⟩ := of_some out
    obtain ⟨is, e, rfl⟩ := opt_map_some e0
    obtain ⟨a, ws, vs, rfl, h1, qs, e2⟩ := one_lst rl rw e
    exact cr_sum hc pins s σ H _ us Q I rs ⟨a, is, rfl, by rw [← qs.ints e2]; exact .inl h1, q.now rl rfl⟩
  · exact out.elim
theorem bi_all (hc : X.calm = true) : CallR X (.builtin "all") (rBi X.K G .all) := by
  intro pins s σ H xs us Q I rs ⟨ρ, h, ws, rl, r, out⟩
  rcases ws with _ | ⟨w, _ | ⟨w2, ws⟩⟩
  · exact out.elim
  · obtain ⟨v, rfl, rw⟩ := r.one
    obtain ⟨y, e0, q⟩ := of_some out
    obtain ⟨is, e, rfl⟩ := opt_map_some e0
    obtain ⟨a, ws, vs, rfl, h1, qs, e2⟩ := one_lst rl rw e
    exact cr_all hc pins s σ H _ us Q I rs ⟨a, is, rfl, by rw [← qs.bls e2]; exact .inl h1, q.now rl rfl⟩
  · exact out.elim
theorem bi_any (hc : X.calm = true) : CallR X (.builtin "any") (rBi X.K G .any) := by
  intro pins s σ H xs us Q I rs ⟨ρ, h, ws, rl, r, out⟩
  rcases ws with _ | ⟨w, _ | ⟨w2, ws⟩⟩
  · exact out.elim
  · obtain ⟨v, rfl, rw⟩ := r.one
    obtain ⟨y, e0, q⟩ := of_some out
    obtain ⟨is, e, rfl⟩ := opt_map_some e0
    obtain ⟨a, ws, vs, rfl, h1, qs, e2⟩ := one_lst rl rw e
    exact cr_any hc pins s σ H _ us Q I rs ⟨a, is, rfl, by rw [← qs.bls e2]; exact .inl h1, q.now rl rfl⟩
  · exact out.elim
theorem bi_int : CallR X (.type "int") (rBi X.K G .int) := by
  intro pins s σ H xs us Q I rs ⟨ρ, h, ws, rl, r, out⟩
  rcases ws with _ | ⟨w, _ | ⟨w2, ws⟩⟩
  · exact out.elim
  · obtain ⟨v, rfl, rw⟩ := r.one
    cases w with
    | int i => cases rw; exact call_int1 pins s σ H _ us Q I rs (.inl ⟨i, rfl, Fin.now out rl rfl⟩)
    | bl i => cases rw; exact call_int1 pins s σ H _ us Q I rs (.inr ⟨i, rfl, Fin.now out rl rfl⟩)
    | str z =>
      obtain ⟨rfl, k⟩ := rw
      have out : OutR (Fin X.K G ρ H Q) (fun _ _ _ => False) (if z.length ≤ 640 then R.of h ((PySem.intText? z).map W.int) else .bad) := out
      split at out
      · obtain ⟨y, e0, q⟩ := of_some out
        obtain ⟨n, e, rfl⟩ := opt_map_some e0
        exact call_int_str pins s σ H _ us Q I rs ⟨z, n, rfl, e, by assumption, q.now rl rfl⟩
      · exact out.elim
    | _ => exact out.elim
  · cases w <;> exact out.elim
theorem strOk_int (i : Int) (h : i.natAbs.log2 < 1920) : SOk (toString i) := by
  refine ⟨sOk_iff.mpr fun c hc => ?_, ?_⟩
  · rw [show (toString i : Str) = Str.ofString (toString i) from rfl, Str.ofString_eq_toList] at hc
    simp only [List.toList_toArray, List.mem_map] at hc
    obtain ⟨ch, _, rfl⟩ := hc
    have := ch.valid
    rcases this with h | h
    · have : ch.toNat < 55296 := h
      omega
    · exact h.2
  · have := PySem.int_text_fits h
    rw [sizeLine_eq] at this
    exact this
theorem call_str_bl : CallR X (.type "str") (fun xs H Q => ∃ b : Bool, xs = [.bl b] ∧ Q (.str (if b = true then "True" else "False")) H) := by
  intro pins s σ H xs us Q I r h
  obtain ⟨b, rfl, q⟩ := h
  obtain ⟨u, rfl, r1⟩ := vals1 r
  cases r1
  exact PySem.P.str_of_bool ⟨.str _, H, I.tok _, ⟨_, by cases b <;> rfl⟩, q⟩
theorem bi_str : CallR X (.type "str") (rBi X.K G .str) := by
  intro pins s σ H xs us Q I rs ⟨ρ, h, ws, rl, r, out⟩
  rcases ws with _ | ⟨w, _ | ⟨w2, ws⟩⟩
  · exact out.elim
  · obtain ⟨v, rfl, rw⟩ := r.one
    cases w with
    | bl b =>
      cases rw
      have out : Fin X.K G ρ H Q (.str (if b = true then "True" else "False")) h := out
      exact call_str_bl pins s σ H _ us Q I rs ⟨b, rfl, Fin.now out rl ⟨rfl, by cases b <;> exact ⟨by decide +kernel, by decide +kernel⟩⟩⟩
    | int i =>
      cases rw
      have out : OutR (Fin X.K G ρ H Q) (fun _ _ _ => False) (if i.natAbs.log2 < 1920 then .ok (.str (toString i)) h else .bad) := out
      split at out
      · exact call_str_int pins s σ H _ us Q I rs ⟨i, rfl, by assumption, Fin.now out rl ⟨rfl, strOk_int i (by assumption)⟩⟩
      · exact out.elim
    | _ => exact out.elim
  · cases w <;> exact out.elim
theorem bi_tuple : CallR X (.type "tuple") (rBi X.K G .tuple) := by
  intro pins s σ H xs us Q I rs ⟨ρ, h, ws, rl, r, out⟩
  rcases ws with _ | ⟨w, _ | ⟨w2, ws⟩⟩
  · exact out.elim
  · obtain ⟨v, rfl, rw⟩ := r.one
    obtain ⟨y, e0, q⟩ := of_some out
    obtain ⟨ws, e, rfl⟩ := opt_map_some e0
    obtain ⟨a, vs, rfl, t, qs⟩ := seqW_some rl rw e
    rcases t with t | t
    · exact call_tuple_of pins s σ H _ us Q I rs ⟨a, vs, rfl, .inl ⟨t, fun p hp => Fin.tup q rl qs hp⟩⟩
    · exact call_tuple_of pins s σ H _ us Q I rs ⟨a, vs, rfl, .inr ⟨t.sq, q.now rl ⟨a, vs, rfl, t, qs⟩⟩⟩
  · exact out.elim
theorem bi_list : CallR X (.type "list") (rBi X.K G .list) := by
  intro pins s σ H xs us Q I rs ⟨ρ, h, ws, rl, r, out⟩
  rcases ws with _ | ⟨w, _ | ⟨w2, ws⟩⟩
  · exact out.elim
  · obtain ⟨v, rfl, rw⟩ := r.one
    have out : OutR (Fin X.K G ρ H Q) (fun _ _ _ => False) (match seqW h w with
      | some ws => .ok (.ref h.n) (h.alloc (.lst ws))
      | none => .bad) := out
    split at out
    · rename_i ws e
      obtain ⟨a, vs, rfl, t, qs⟩ := seqW_some rl rw e
      exact call_list_of pins s σ H _ us Q I rs ⟨a, vs, rfl, t.imp id TupAt.sq, fun p hp => Fin.lst out rl qs hp⟩
    · exact out.elim
  · exact out.elim

/-! ### sorted -/
theorem mem_pds {h : VH} : ∀ {ws : List W} {ds : List PyData}, pds h ws = some ds → ds = ws.map (encD h) ∧ ∀ w ∈ ws, pd h w = some (encD h w)
  | [], _, e => by cases e; exact ⟨rfl, fun w hw => by cases hw⟩
  | w :: ws, ds, e => by
    obtain ⟨d, r, rfl, e1, e2⟩ := pdL_cons e
    obtain ⟨a, b⟩ := mem_pds e2
    have e3 : pd h w = some d := e1
    have e4 : encD h w = d := by unfold encD; rw [e3]; rfl
    refine ⟨by rw [List.map_cons, e4, ← a], fun x hx => ?_⟩
    rcases List.mem_cons.mp hx with rfl | hx
    · rw [e4]; exact e3
    · exact b x hx
theorem sorted_core {pins : List (Addr × Obj)} {s : Shared} {σ : L2.St} {H : Hp} {ρ : Rho} {h : VH} {ws ws' : List W} {vs : List V} {its : List Value} {l : Addr} {Q : VK}
    (I : Inv X pins σ H s) (hr : X.A.units + 200 < cLine) (rl : Rl X.K G ρ h H) (qs : RVs X.K ρ H ws vs) (rv : Vals vs its) (hl : s.heap.IsList l its.toArray) (e : sortW h ws = some ws')
    (q : ∀ vs', RVs X.K ρ H ws' vs' → ∀ p, H p = none → Q (.ref p) (upd H p (.lst vs'))) : wpAny (model X.prog X.w) X.A (call (.builtin "sorted") [.ref l]) (EP X pins σ Q) X.xe s := by
  unfold sortW at e
  split at e
  · rename_i ds e1
    split at e
    · rename_i hs
      cases e
      simp only [Bool.and_eq_true] at hs
      obtain ⟨hs, hlen⟩ := hs
      have hlen : ws.length ≤ 16777216 := of_decide_eq_true hlen
      unfold okSort at hs
      simp only [Bool.and_eq_true] at hs
      obtain ⟨⟨hal, hsm⟩, hkind⟩ := hs
      obtain ⟨rfl, hpd⟩ := mem_pds e1
      have eachR : ∀ (ws : List W) (vs : List V) (its : List Value), (∀ w ∈ ws, pd h w = some (encD h w)) → RVs X.K ρ H ws vs → Vals vs its →
          PySem.W.EachIs (fun v w => ∃ x, RelV x v ∧ RV X.K ρ H w x) its ws ∧ PySem.W.EachIs (fun v w => ∃ as, Reads s.heap v (encD h w) as) its ws := by
        intro ws
        induction ws with
        | nil => intro vs its _ q r; cases q; cases r; exact ⟨.nil, .nil⟩
        | cons w ws ih =>
          intro vs its hp q r
          obtain ⟨v, r', rfl, a, b⟩ := q
          cases r with
          | cons r1 r2 =>
            obtain ⟨i1, i2⟩ := ih _ _ (fun x hx => hp x (List.mem_cons_of_mem _ hx)) b r2
            refine ⟨.cons ⟨v, r1, a⟩ i1, .cons ?_ i2⟩
            obtain ⟨p, _⟩ := a.dp rl (hp w (List.mem_cons_self ..))
            exact Dp.reads I _ _ _ p r1
      obtain ⟨er1, er2⟩ := eachR ws vs its hpd qs rv
      refine PySem.W.sorted_data (enc := encD h) hl er1 er2 ?_ ?_ (by rw [sizeLine_eq]; exact hlen) ?_ fun out ho hout => ?_
      · intro d hd d' hd'
        exact List.all_eq_true.mp (List.all_eq_true.mp hal d hd) d' hd'
      · simp only [Bool.or_eq_true] at hkind
        rcases hkind with hk | hk
        · refine .inl fun d hd => ?_
          have := List.all_eq_true.mp hk d hd
          split at this
          · exact ⟨_, _, rfl⟩
          · cases this
        · refine .inr fun d hd => ?_
          have := List.all_eq_true.mp hk d hd
          split at this
          · cases this
          · cases this
          · rename_i h1 h2
            exact ⟨h1, fun xs => h2 xs⟩
      · intro b hb
        have := of_decide_eq_true (List.all_eq_true.mp hsm (encD h b) (List.mem_map_of_mem hb))
        omega
      · have back : ∀ (out : List Value) (zs : List W), PySem.W.EachIs (fun v w => ∃ x, RelV x v ∧ RV X.K ρ H w x) out zs → ∃ vs', Vals vs' out ∧ RVs X.K ρ H zs vs' := by
          intro out zs e
          induction e with
          | nil => exact ⟨[], .nil, rfl⟩
          | cons a _ ih =>
            obtain ⟨x, r1, r2⟩ := a
            obtain ⟨vs', i1, i2⟩ := ih
            exact ⟨x :: vs', .cons r1 i1, RVs.cons r2 i2⟩
        obtain ⟨vs', v1, v2⟩ := back _ _ hout
        obtain ⟨c, hc⟩ := sortedAll_at s.heap its out.toArray
        have hfr : H (s.heap.objs.size + 1) = none := I.hok.fresh (Nat.le_succ _)
        refine ⟨.ref (s.heap.objs.size + 1), _, I.laid (t' := s.toks) (o := .lst vs') (fun _ _ q => sortedAll_old q) (Nat.le_succ _) ⟨?_, out, c, v1, hc⟩, rfl, q vs' v2 _ hfr⟩
        rw [v1.length, ho, sizeLine_eq]
        exact hlen
    · cases e
  · cases e
theorem bi_sorted (hr : X.A.units + 200 < cLine) : CallR X (.builtin "sorted") (rBi X.K G .sorted) := by
  intro pins s σ H xs us Q I rs ⟨ρ, h, ws, rl, r, out⟩
  rcases ws with _ | ⟨w, _ | ⟨w2, ws⟩⟩
  · exact out.elim
  · obtain ⟨v, rfl, rw⟩ := r.one
    have out : OutR (Fin X.K G ρ H Q) (fun _ _ _ => False) (match (lstW h w).bind (sortW h) with
      | some ws => .ok (.ref h.n) (h.alloc (.lst ws))
      | none => .bad) := out
    split at out
    · rename_i ws' e
      obtain ⟨a, ws, vs, rfl, h1, qs, e2⟩ := one_lst rl rw e
      obtain ⟨its, rv, hl, _⟩ := I.list (.inl h1)
      obtain rfl := rs.ref1
      exact sorted_core I hr rl qs rv hl.isList e2 fun vs' q p hp => Fin.lst out rl q hp
    · exact out.elim
  · exact out.elim
end
end VM

set_option linter.all false
set_option autoImplicit false
set_option maxRecDepth 100000
set_option maxHeartbeats 4000000
/-! VM3d: len(set(list of texts and ints)). -/
namespace VM
open PySem PySem.Spec PyProof.Rows L2
/-! ### len(set(xs)) -/
theorem metK_take {ks : List Key} (n : Nat) (h : n = ks.length) : metK (fun i => ks.getD i (.inl 0)) n = dedK ks := by
  unfold metK dedK
  congr 1
  subst h
  apply List.ext_getElem?
  intro i
  by_cases hi : i < ks.length
  · simp [hi, List.getD]
  · simp [hi]
section
variable {X : Cx} {G : Sta}
def tLenSetK (K : PySem.W.Frag) (ta : TE) : TE := fun σ H Q => ta σ H fun x H1 => ∃ (l : Addr) (ks : List Key), x = .ref l ∧ SqL K H1 l (ks.map kV) ∧ ks.length ≤ 4000 ∧ Q (.int ((dedK ks).length : Nat)) H1
theorem keys_vals (P : Program) (w : World) : ∀ {ks : List Key} {us : List Value}, Vals (ks.map kV) us → ∀ (i : Nat) (v : Value), us[i]? = some v → keyIs (ks.getD i (.inl 0)) v = true
  | [], _, .nil, i, v, e => by simp at e
  | k :: ks, _, .cons r t, 0, v, e => by
    simp at e; subst e
    exact kV_is (P := P) (w := w) r
  | k :: ks, _, .cons r t, i + 1, v, e => by
    simp only [List.getElem?_cons_succ] at e
    have := keys_vals P w t i v e
    simpa using this
theorem pe_lenSetK {a : Expr} {ta : TE} {p p2 q pos : Pos} (hg : Gl X "len") (hm : X.mg "len" = none) (hg2 : Gl X "set") (hm2 : X.mg "set" = none) (ha : PE X a ta) (hc : X.calm = true)
    (na : starEach [a] X.env = (false, eval a X.env) :: starEach [] X.env) : PE X (.Call (.Name "len" p) [.Call (.Name "set" p2) [a] [] q] [] pos) (tLenSetK X.K ta) := by
  refine ⟨fun pins s σ H Q I h => ?_⟩
  refine Call_ (ld_blt I hg hm boot_len ?_)
  refine PyProof.Rows.callWith_builtin1 (PyProof.Rows.args_cons ?_ rfl) rfl rfl
  refine Call_ (ld_blt I hg2 hm2 boot_set ?_)
  refine PyProof.Rows.callWith_type1 (PyProof.Rows.args_cons (thn (ha.run pins s σ H _ I h) fun v s1 ⟨x, H1, I1, r1, q1⟩ => PyProof.Rows.args_nil ?_) na) na rfl
  obtain ⟨l, ks, rfl, hq, hl, q1⟩ := q1
  cases r1
  obtain ⟨its, r, pl, hz⟩ := I1.list hq
  have hlen : its.toArray.size = ks.length := by rw [List.size_toArray, ← r.length, List.length_map]
  refine call_set_listK (ks := ks) (I1.ok.hd hc) pl.isList (fun i v e => keys_vals X.prog X.w r i v (by simpa using e)) (by rw [hlen]; unfold scanBound; omega) fun h' tk hS hk => ?_
  refine PyProof.Rows.args_nil ?_
  rw [metK_take _ hlen] at hS
  have hle : (dedK ks).length ≤ 4000 := by
    have := metK_length_le (fun i => ks.getD i (.inl 0)) ks.length
    rw [metK_take _ rfl] at this
    omega
  obtain ⟨o, es, ep, t, ho, hex, hd, _, _, _, hf, hn⟩ := hS
  have I2 : Inv X pins σ H1 { s1 with heap := h', toks := tk } := I1.kept fun b o e => hk b o (Heap.lt_size e) e
  exact call_len_set ho hex hd hf (by rw [hn] <;> omega) ⟨.int (dedK ks).length, H1, I2.tok _, ⟨_, by rw [hn]⟩, q1⟩
end
theorem RKv.any {K : PySem.W.Frag} {ρ : Rho} {H : Hp} {k : Key} {a : List (Key × VM.W)} {b : List (Key × V)} (r : RKv K ρ H a b) : (a.any fun kv => decide (kv.1 = k)) = (b.any fun kv => decide (kv.1 = k)) := by
  induction r with
  | nil => rfl
  | cons p _ ih => simp only [List.any_cons, ih, p.1]
theorem RKv.put {K : PySem.W.Frag} {ρ : Rho} {H : Hp} {k : Key} {w : VM.W} {v : V} {a : List (Key × VM.W)} {b : List (Key × V)} (r : RKv K ρ H a b) (rv : RV K ρ H w v) (hk : ∀ s, k = .inr s → SOk s) : RKv K ρ H (kvPut a k w) (putK b k v) := by
  unfold kvPut putK
  rw [r.any]
  split
  · have : ∀ {a : List (Key × VM.W)} {b : List (Key × V)}, RKv K ρ H a b → RKv K ρ H (a.map fun kv => if kv.1 = k then (kv.1, w) else kv) (b.map fun kv => if kv.1 = k then (kv.1, v) else kv) := by
      intro a b r
      induction r with
      | nil => exact .nil
      | cons p _ ih =>
        rename_i x y _ _ _
        obtain ⟨p1, p2, p3⟩ := p
        simp only [List.map_cons]
        refine .cons ?_ ih
        by_cases e : x.1 = k
        · rw [if_pos e, if_pos (by rw [← p1]; exact e)]
          exact ⟨p1, rv, p3⟩
        · rw [if_neg e, if_neg (by rw [← p1]; exact e)]
          exact ⟨p1, p2, p3⟩
    exact this r
  · have : ∀ {a : List (Key × VM.W)} {b : List (Key × V)}, RKv K ρ H a b → RKv K ρ H (a ++ [(k, w)]) (b ++ [(k, v)]) := by
      intro a b r
      induction r with
      | nil => exact .cons ⟨rfl, rv, hk⟩ .nil
      | cons p _ ih => exact .cons p ih
    exact this r
theorem kvsOf_ok {K : PySem.W.Frag} {ρ : Rho} {H : Hp} : ∀ {ws : List VM.W} {kvs : List (Key × VM.W)} {vs : List V}, kvsOf ws = some kvs → RVs K ρ H ws vs → ∃ (ps : List Addr) (kvs' : List (Key × V)), vs = ps.map V.ref ∧ Paired (fun p kv => SqT K H p [kV kv.1, kv.2]) ps kvs' ∧ RKv K ρ H kvs kvs'
  | [], kvs, vs, e, r => by
    cases e
    simp only [RVs] at r
    exact ⟨[], [], by rw [r]; rfl, .nil, .nil⟩
  | w :: ws, kvs, vs, e, r => by
    unfold kvsOf at e
    split at e
    · rename_i p q e1 e2
      cases e
      simp only [RVs] at r
      obtain ⟨v, vs', rfl, rv, rr⟩ := r
      obtain ⟨ps, kvs', rfl, i1, i2⟩ := kvsOf_ok e2 rr
      unfold kvOf at e1
      split at e1
      · rename_i k w
        cases ek : keyW k with
        | none => rw [ek] at e1; cases e1
        | some key =>
          rw [ek] at e1
          cases e1
          simp only [RV] at rv
          obtain ⟨a, us, rfl, t, ru⟩ := rv
          simp only [RVs] at ru
          obtain ⟨vk, us2, rfl, rk, vw, us3, rfl, rw', rfl⟩ := ru
          have hk : vk = kV key ∧ ∀ s, key = .inr s → SOk s := by
            cases k <;> first | (cases ek; done) | skip
            · cases ek
              simp only [RV] at rk
              exact ⟨rk, fun s z => by cases z⟩
            · cases ek
              simp only [RV] at rk
              exact ⟨rk.1, fun s z => by cases z; exact rk.2⟩
          obtain ⟨rfl, hs⟩ := hk
          exact ⟨a :: ps, (key, vw) :: kvs', rfl, .cons t.sq i1, .cons ⟨rfl, rw', hs⟩ i2⟩
      · cases e1
    · cases e
theorem RKv.merge {K : PySem.W.Frag} {ρ : Rho} {H : Hp} {more : List (Key × VM.W)} {more' : List (Key × V)} (m : RKv K ρ H more more') : ∀ {a : List (Key × VM.W)} {b : List (Key × V)}, RKv K ρ H a b → RKv K ρ H (more.foldl (fun a p => kvPut a p.1 p.2) a) (mergeK b more') := by
  unfold mergeK
  induction m with
  | nil => intro a b r; exact r
  | cons p _ ih =>
    intro a b r
    simp only [List.foldl_cons]
    rw [← p.1]
    exact ih (r.put p.2.1 p.2.2)
section
variable {X : Cx} {G : Sta}
theorem bi_dict (hc : X.calm = true) : CallR X (.type "dict") (rBi X.K G .dict) := by
  intro pins s σ H xs us Q I rs ⟨ρ, h, ws, rl, r, out⟩
  rcases ws with _ | ⟨w, _ | ⟨w2, ws⟩⟩
  · exact out.elim
  · obtain ⟨v, rfl, rw⟩ := r.one
    cases w <;> first | (exact out.elim) | skip
    rename_i ws
    have out : OutR (Fin X.K G ρ H Q) (fun _ _ _ => False) (match kvsOf ws with
      | some kvs => .ok (.ref h.n) (h.alloc (.dic false (kvs.foldl (fun a p => kvPut a p.1 p.2) [])))
      | none => .bad) := out
    split at out
    · rename_i kvs e
      simp only [RV] at rw
      obtain ⟨a, vs, rfl, ⟨o, t⟩, qs⟩ := rw
      obtain ⟨ps, kvs', rfl, i1, i2⟩ := kvsOf_ok e qs
      refine call_dictP hc pins s σ H _ us Q I rs ⟨a, ps, kvs', rfl, .inl (.inr ⟨o, t⟩), i1, fun p hp => ?_⟩
      have out : Fin X.K G ρ H Q (.ref h.n) (h.alloc (.dic false (kvs.foldl (fun a p => kvPut a p.1 p.2) []))) := out
      exact out _ _ _ (Le.newO rl hp) (rl.newO hp ⟨_, (i2.merge .nil).mono (Le.newO rl hp), upd_same⟩) ⟨p, rhoAt_same, rfl⟩
    · exact out.elim
  · cases w <;> exact out.elim
end
end VM

set_option autoImplicit true
set_option linter.all false
set_option maxRecDepth 100000
set_option maxHeartbeats 4000000
/-! VM4: the given text matches the mini text: a checker; expressions are what the evaluator says. -/
namespace VM
open PySem PySem.Spec PyProof.Rows L2

/-! ### what the text may be made of -/
def okX : Expr → Bool
  | .Name .. => true | .Constant .. => true | .BinOp .. => true | .UnaryOp .. => true | .BoolOp .. => true | .Compare .. => true | .Call .. => true
  | .IfExp .. => true | .Attribute .. => true | .Subscript .. => true | .List .. => true | .Tuple .. => true | .Dict .. => true | .ListComp .. => true
  | _ => false
theorem star_ok {e : Expr} {es : List Expr} {env : Env} (h : okX e = true) : starEach (e :: es) env = (false, eval e env) :: starEach es env := by
  cases e <;> first | rfl | cases h
theorem stars_ok : ∀ {es : List Expr} {env : Env} {pos : Pos}, es.all okX = true → (backTo pos (starEach es env)).any (·.1) = false
  | [], _, _, _ => rfl
  | e :: es, env, pos, h => by
    simp only [List.all_cons, Bool.and_eq_true] at h
    rw [star_ok h.1]
    have := stars_ok (pos := pos) (env := env) h.2
    simp only [backTo, List.map_cons, List.any_cons, Bool.false_or]
    exact this
theorem behind_ok {op : CmpOp} {b : Expr} (h : okX b = true) : behindInMarks op b = false := by
  cases b <;> first | rfl | cases h
theorem last_ok {op op' : CmpOp} {b c : Expr} (h : okX c = true) : lastMarks [op, op'] [b, c] = false := behind_ok h
theorem plain_ok {b : Expr} (h : okX b = true) : PlainIx b := by
  cases b <;> first | (intro _ _; rfl) | cases h
theorem folded_ok {e : Expr} {env : Env} (h : okX e = true) : ∀ x, foldedSetIterable e env x = pure x := by
  cases e <;> first | (intro _; rfl) | cases h
/-- no call without arguments of a name -/
def noSup : Expr → Bool
  | .Call (.Name _ _) [] [] _ => false
  | _ => true
theorem base_ok {o : Expr} {f : Str} {env : Env} (h : noSup o = true) : attributeBase o f env (eval o env) = eval o env := by
  cases o with
  | Call fn args kws pos =>
    cases fn <;> first | rfl | skip
    cases args with
    | cons _ _ => rfl
    | nil =>
      cases kws with
      | cons _ _ => rfl
      | nil => cases h
  | _ => rfl
/-- no comprehension -/
def noLc : Expr → Bool
  | .ListComp .. => false
  | e => okX e
theorem swaps_ok {e : Expr} {t : Option Expr} {l : Nat} {env : Env} (h : noLc e = true) : swapsWith e t l env = pure false := by
  cases e <;> first | rfl | cases h
theorem noLc_ok {e : Expr} (h : noLc e = true) : okX e = true := by
  cases e <;> first | rfl | cases h

structure Nms where
  fn : Nat → Str
  cl : Nat → Str
  mt : Nat → Str
  fl : Nat → Str
  gl : Nat → Str
def visB (sc : Scope) (x : Str) : Bool := match sc.names.lookup x with
  | some .local => true
  | some .cell => true
  | some .free => true
  | _ => false
def locB (sc : Scope) (x : Str) : Bool := match sc.names.lookup x with
  | some .local => true
  | some .cell => true
  | _ => false
def loc1B (sc : Scope) (x : Str) : Bool := match sc.names.lookup x with
  | some .local => true
  | _ => false
def glB (sc : Scope) (x : Str) : Bool := match sc.names.lookup x with
  | some .globalImplicit => !(x == ("__debug__" : Str))
  | _ => false
theorem visB_ok {sc : Scope} {x : Str} (h : visB sc x = true) : Vis sc x := by
  unfold visB at h
  split at h
  · exact .inl (by assumption)
  · exact .inr (.inl (by assumption))
  · exact .inr (.inr (by assumption))
  · cases h
theorem locB_ok {sc : Scope} {x : Str} (h : locB sc x = true) : L2.Loc sc x := by
  unfold locB at h
  split at h
  · exact .inl (by assumption)
  · exact .inr (by assumption)
  · cases h
theorem loc1B_ok {sc : Scope} {x : Str} (h : loc1B sc x = true) : sc.names.lookup x = some .local := by
  unfold loc1B at h
  split at h
  · assumption
  · cases h
theorem glB_ok {X : Cx} {x : Str} (h : glB X.env.scope x = true) : Gl X x ∧ (x == ("__debug__" : Str)) = false := by
  unfold glB at h
  split at h
  · rename_i e
    exact ⟨e, by simpa using h⟩
  · cases h
/-- the scope that runs, and the one whose cells are one's own -/
structure Cs where
  sc : Scope
  fs : Scope
def fnB (c : Cs) (x : Str) : Bool := c.fs.names.lookup x == some .cell
structure Fit (X : Cx) (N : List Str) (c : Cs) : Prop where
  N : X.N = N
  sc : X.env.scope = c.sc
  fn : ∀ x, fnB c x = true → X.fn x = true
def blkS (c : Cs) (scope : Scope) : Cs := ⟨relS scope c.sc, scope⟩
def biN : Bi → Str
  | .len => "len" | .abs => "abs" | .max2 => "max" | .min2 => "min" | .max1 => "max" | .min1 => "min" | .sum => "sum" | .all => "all" | .any => "any"
  | .int => "int" | .str => "str" | .tuple => "tuple" | .list => "list" | .dict => "dict" | .sorted => "sorted" | .sortedD => "sorted" | .isinst _ => "isinstance" | .lenset => "len"
  | .sortedset => "sorted" | .listrange _ => "list"
/-- those that are served as plain calls; how many arguments -/
def biA : Bi → Option Nat
  | .len => some 1 | .abs => some 1 | .max2 => some 2 | .min2 => some 2 | .max1 => some 1 | .min1 => some 1 | .sum => some 1 | .all => some 1 | .any => some 1
  | .int => some 1 | .str => some 1 | .tuple => some 1 | .list => some 1 | .dict => some 1 | .sorted => some 1
  | _ => none
def tyN : Ty → String
  | .int => "int" | .bool => "bool" | .str => "str" | .tuple => "tuple" | .list => "list"
def bmN : Bm → Str
  | .append => "append" | .extend => "extend" | .pop => "pop" | .popAt => "pop" | .popKey => "pop" | .index => "index" | .count => "count" | .join => "join" | .split => "split"
  | .get1 => "get" | .get2 => "get" | .update => "update" | .upper => "upper"
def bmA : Bm → Option Nat
  | .append => some 1 | .popAt => some 1 | .index => some 1 | .join => some 1 | .extend => some 1 | .pop => some 0 | .upper => some 0
  | _ => none
def chkK (w : W) (c : Const) : Bool := match w, c with
  | .non, .none => true
  | .bl b, .bool c => b == c
  | .int i, .int j => decide (i = j)
  | .str s, .str t => decide (s = t) && (PyData.strOk t && decide (t.length ≤ 16777216))
  | _, _ => false

section
variable (M : Nms) (N : List Str)
mutual
/-- a target of names and tuples of names -/
def chkP : Cs → P → Expr → Bool
  | c, .nm i, ex => match ex with
    | .Name x _ => decide (N[i]? = some x) && (loc1B c.sc x || (locB c.sc x && fnB c x))
    | _ => false
  | c, .tp ps, ex => match ex with
    | .Tuple es _ _ => chkPs c ps es
    | _ => false
  | _, _, _ => false
def chkPs : Cs → P → List Expr → Bool
  | _, .nil, xs => match xs with
    | [] => true
    | _ => false
  | c, .cons p ps, xs => match xs with
    | x :: r => chkP c p x && chkPs c ps r
    | [] => false
  | _, _, _ => false
end
/-- the slots that a target sets are among these -/
def ownAll : P → List Nat → Bool
  | .nm i, own => own.contains i
  | .tp ps, own => ownAll ps own
  | .nil, _ => true
  | .cons p ps, own => ownAll p own && ownAll ps own
def isTp : P → Bool
  | .tp _ => true
  | _ => false
/-- a source of a walk -/
def chkI (sc : Cs) (k : Ik) (f : List Expr → Bool) (tg : P) (x : Expr) : Bool := match k with
  | .seq => f [x]
  | .keys => f [x]
  | .rng => match x with
    | .Call (.Name y _) args [] _ => decide (y = Str.ofString "range") && (glB sc.sc y && (decide (1 ≤ args.length) && (decide (args.length ≤ 3) && f args)))
    | _ => false
  | .zip => match x with
    | .Call (.Name y _) args [] _ => decide (y = Str.ofString "zip") && (glB sc.sc y && (decide (args.length = 2) && (isTp tg && f args)))
    | _ => false
  | .enum => match x with
    | .Call (.Name y _) args [] _ => decide (y = Str.ofString "enumerate") && (glB sc.sc y && (decide (args.length = 1) && (isTp tg && f args)))
    | _ => false
mutual
def chkE : Cs → E → Expr → Bool
  | sc, .var i, ex => match ex with
    | .Name x _ => decide (N[i]? = some x) && (visB sc.sc x && (!(x == ("__debug__" : Str)) && !(x == ("__classdict__" : Str))))
    | _ => false
  | _, .cst w, ex => match ex with
    | .Constant c _ _ => chkK w c
    | _ => false
  | sc, .glb g, ex => match ex with
    | .Name x _ => decide (M.gl g = x) && glB sc.sc x
    | _ => false
  | sc, .bin o a b, ex => match ex with
    | .BinOp x op y _ => decide (op = bopX o) && (chkE sc a x && chkE sc b y)
    | _ => false
  | sc, .neg a, ex => match ex with
    | .UnaryOp .USub x _ => chkE sc a x
    | _ => false
  | sc, .not a, ex => match ex with
    | .UnaryOp .Not x _ => chkE sc a x
    | _ => false
  | sc, .cmp o a b, ex => match ex with
    | .Compare x [op] [y] _ => decide (op = copX o) && (chkE sc a x && chkE sc b y)
    | _ => false
  | sc, .chn o o' a b c, ex => match ex with
    | .Compare x [op, op'] [y, z] _ => decide (op = copX o) && (decide (op' = copX o') && (chkE sc a x && (chkE sc b y && chkE sc c z)))
    | _ => false
  | sc, .isn a, ex => match ex with
    | .Compare x [.Is] [.Constant .none _ _] _ => chkE sc a x
    | _ => false
  | sc, .isnn a, ex => match ex with
    | .Compare x [.IsNot] [.Constant .none _ _] _ => chkE sc a x
    | _ => false
  | sc, .and a b, ex => match ex with
    | .BoolOp .And [x, y] _ => chkE sc a x && chkE sc b y
    | .BoolOp .And (x :: y :: z :: r) pos => chkE sc a x && chkE sc b (.BoolOp .And (y :: z :: r) pos)
    | _ => false
  | sc, .or a b, ex => match ex with
    | .BoolOp .Or [x, y] _ => chkE sc a x && chkE sc b y
    | .BoolOp .Or (x :: y :: z :: r) pos => chkE sc a x && chkE sc b (.BoolOp .Or (y :: z :: r) pos)
    | _ => false
  | sc, .ite c a b, ex => match ex with
    | .IfExp t x y _ => chkE sc c t && (chkE sc a x && chkE sc b y)
    | _ => false
  | sc, .tup es, ex => match ex with
    | .Tuple xs _ _ => chkEs sc es xs
    | _ => false
  | sc, .lst es, ex => match ex with
    | .List xs _ => chkEs sc es xs
    | _ => false
  | _, .dic0, ex => match ex with
    | .Dict [] [] _ => true
    | _ => false
  | sc, .fld a f, ex => match ex with
    | .Attribute o x _ => decide (M.fl f = x) && (noSup o && chkE sc a o)
    | _ => false
  | sc, .idx a b, ex => match ex with
    | .Subscript x y _ => chkE sc a x && chkE sc b y
    | _ => false
  | sc, .slc a lo hi, ex => match ex with
    | .Subscript x (.Slice l u none _) _ => chkE sc a x && (chkO sc lo l && chkO sc hi u)
    | _ => false
  | sc, .rev a, ex => match ex with
    | .Subscript x (.Slice none none (some (.UnaryOp .USub (.Constant (.int 1) _ _) _)) _) _ => chkE sc a x
    | _ => false
  | sc, .comp elt tg k src ifs own, ex => match ex with
    | .ListComp eltx [⟨tgx, iter, ifsx, 0⟩] scope _ => okX iter && (chkI sc k (fun xs => chkEs sc src xs) tg iter && (blkC N sc.sc scope (own.map fun i => ((N[i]?).getD Str.empty, i)) && (chkP N (blkS sc scope) tg tgx && (chkEs (blkS sc scope) ifs ifsx && (decide (ifsx.length ≤ 1) && (ownAll tg own && chkE (blkS sc scope) elt eltx))))))
    | _ => false
  | sc, .call f es, ex => match ex with
    | .Call (.Name x _) args [] _ => decide (M.fn f = x) && (decide (x ≠ Str.empty) && (glB sc.sc x && chkEs sc es args))
    | _ => false
  | sc, .meth a m es, ex => match ex with
    | .Call (.Attribute o x apos) args [] pos => (decide (M.mt m = x) && decide (x ≠ Str.empty)) && ((apos.endLine == pos.line) && (noSup o && (chkE sc a o && (decide (args.length < 30) && chkEs sc es args))))
    | _ => false
  | sc, .make c es, ex => match ex with
    | .Call (.Name x _) args [] _ => decide (M.cl c = x) && (decide (x ≠ Str.empty) && (glB sc.sc x && chkEs sc es args))
    | _ => false
  | sc, .bi b es, ex => match ex with
    | .Call (.Name x _) args [] _ => decide (biN b = x) && (glB sc.sc x && (match b, es, args with
      | .isinst t, .cons e .nil, [a, .Name y _] => chkE sc e a && (decide (y = Str.ofString (tyN t)) && glB sc.sc y)
      | .lenset, .cons e .nil, [.Call (.Name y _) [a] [] _] => chkE sc e a && (decide (y = Str.ofString "set") && glB sc.sc y)
      | .listrange _, .cons e .nil, [.Call (.Name y _) [a] [] _] => chkE sc e a && (decide (y = Str.ofString "range") && glB sc.sc y)
      | .listrange _, .cons e (.cons e' .nil), [.Call (.Name y _) [a, a'] [] _] => chkE sc e a && (chkE sc e' a' && (decide (y = Str.ofString "range") && glB sc.sc y))
      | b, es, args => decide (biA b = some args.length) && chkEs sc es args))
    | _ => false
  | sc, .bm a m es, ex => match ex with
    | .Call (.Attribute o x apos) args [] pos => decide (bmN m = x) && ((apos.endLine == pos.line) && (noSup o && (chkE sc a o && (decide (bmA m = some args.length) && chkEs sc es args))))
    | _ => false
  | sc, .frz a, ex => chkE sc a ex
  | _, _, _ => false
def chkEs : Cs → E → List Expr → Bool
  | _, .nil, xs => match xs with
    | [] => true
    | _ => false
  | sc, .cons e es, xs => match xs with
    | x :: r => chkE sc e x && chkEs sc es r
    | [] => false
  | _, _, _ => false
def chkO : Cs → E → Option Expr → Bool
  | _, .nil, none => true
  | sc, .cons e .nil, some x => chkE sc e x
  | _, _, _ => false
end
end
theorem chkE_ok {M : Nms} {N : List Str} {sc : Cs} {x : Expr} : ∀ {e : E} (h : chkE M N sc e x = true), okX x = true
  | .frz e, h => chkE_ok (e := e) (by unfold chkE at h; exact h)
  | .var _, h => by unfold chkE at h; (split at h <;> first | rfl | cases h)
  | .cst _, h => by unfold chkE at h; (split at h <;> first | rfl | cases h)
  | .glb _, h => by unfold chkE at h; (split at h <;> first | rfl | cases h)
  | .bin .., h => by unfold chkE at h; (split at h <;> first | rfl | cases h)
  | .neg .., h => by unfold chkE at h; (split at h <;> first | rfl | cases h)
  | .not .., h => by unfold chkE at h; (split at h <;> first | rfl | cases h)
  | .cmp .., h => by unfold chkE at h; (split at h <;> first | rfl | cases h)
  | .chn .., h => by unfold chkE at h; (split at h <;> first | rfl | cases h)
  | .isn .., h => by unfold chkE at h; (split at h <;> first | rfl | cases h)
  | .isnn .., h => by unfold chkE at h; (split at h <;> first | rfl | cases h)
  | .and .., h => by unfold chkE at h; (split at h <;> first | rfl | cases h)
  | .or .., h => by unfold chkE at h; (split at h <;> first | rfl | cases h)
  | .ite .., h => by unfold chkE at h; (split at h <;> first | rfl | cases h)
  | .tup .., h => by unfold chkE at h; (split at h <;> first | rfl | cases h)
  | .lst .., h => by unfold chkE at h; (split at h <;> first | rfl | cases h)
  | .dic0, h => by unfold chkE at h; (split at h <;> first | rfl | cases h)
  | .fld .., h => by unfold chkE at h; (split at h <;> first | rfl | cases h)
  | .idx .., h => by unfold chkE at h; (split at h <;> first | rfl | cases h)
  | .slc .., h => by unfold chkE at h; (split at h <;> first | rfl | cases h)
  | .rev .., h => by unfold chkE at h; (split at h <;> first | rfl | cases h)
  | .comp .., h => by unfold chkE at h; (split at h <;> first | rfl | cases h)
  | .call .., h => by unfold chkE at h; (split at h <;> first | rfl | cases h)
  | .meth .., h => by unfold chkE at h; (split at h <;> first | rfl | cases h)
  | .make .., h => by unfold chkE at h; (split at h <;> first | rfl | cases h)
  | .bi .., h => by unfold chkE at h; (split at h <;> first | rfl | cases h)
  | .bm .., h => by unfold chkE at h; (split at h <;> first | rfl | cases h)
  | .eqd .., h => by simp [chkE] at h
  | .never, h => by simp [chkE] at h
  | .nil, h => by simp [chkE] at h
  | .cons .., h => by simp [chkE] at h
theorem chkEs_ok {M : Nms} {N : List Str} {sc : Cs} : ∀ {e : E} {xs : List Expr}, chkEs M N sc e xs = true → xs.all okX = true
  | .nil, xs, h => by
    cases xs with
    | nil => rfl
    | cons _ _ => simp [chkEs] at h
  | .cons e es, xs, h => by
    cases xs with
    | nil => simp [chkEs] at h
    | cons x r =>
      simp only [chkEs, Bool.and_eq_true] at h
      simp only [List.all_cons, chkE_ok h.1, chkEs_ok h.2, Bool.and_self]
  | .var _, _, h => nomatch h
  | .cst _, _, h => nomatch h
  | .glb _, _, h => nomatch h
  | .bin .., _, h => nomatch h
  | .neg .., _, h => nomatch h
  | .not .., _, h => nomatch h
  | .cmp .., _, h => nomatch h
  | .chn .., _, h => nomatch h
  | .isn .., _, h => nomatch h
  | .isnn .., _, h => nomatch h
  | .eqd .., _, h => nomatch h
  | .and .., _, h => nomatch h
  | .or .., _, h => nomatch h
  | .ite .., _, h => nomatch h
  | .tup .., _, h => nomatch h
  | .lst .., _, h => nomatch h
  | .dic0, _, h => nomatch h
  | .fld .., _, h => nomatch h
  | .idx .., _, h => nomatch h
  | .slc .., _, h => nomatch h
  | .rev .., _, h => nomatch h
  | .call .., _, h => nomatch h
  | .meth .., _, h => nomatch h
  | .make .., _, h => nomatch h
  | .bi .., _, h => nomatch h
  | .bm .., _, h => nomatch h
  | .comp .., _, h => nomatch h
  | .frz .., _, h => nomatch h
  | .never, _, h => nomatch h
end VM

set_option autoImplicit true
set_option linter.all false
set_option maxRecDepth 100000
set_option maxHeartbeats 4000000
/-! VM5: expressions. -/
namespace VM
open PySem PySem.Spec PyProof.Rows L2

theorem PE.imp {X : Cx} {e : Expr} {t t' : TE} (p : PE X e t) (h : ∀ σ H Q, t' σ H Q → t σ H Q) : PE X e t' := ⟨fun pins s σ H Q I q => p.run pins s σ H Q I (h σ H Q q)⟩
theorem PA.imp {X : Cx} {e : List Expr} {t t' : TA} (p : PA X e t) (h : ∀ σ H Q, t' σ H Q → t σ H Q) : PA X e t' := ⟨fun pos pins s σ H Q I q => p.run pos pins s σ H Q I (h σ H Q q)⟩
theorem PT.imp {X : Cx} {e : Expr} {t t' : TT} (p : PT X e t) (h : ∀ σ H Q, t' σ H Q → t σ H Q) : PT X e t' := ⟨fun pins s σ H Q I q => p.run pins s σ H Q I (h σ H Q q)⟩
theorem PW.imp {X : Cx} {e : Expr} {t t' : TT} (p : PW X e t) (h : ∀ σ H Q, t' σ H Q → t σ H Q) : PW X e t' := ⟨fun wh pins s σ H Q I q => p.run wh pins s σ H Q I (h σ H Q q)⟩
theorem PO.imp {X : Cx} {e : Option Expr} {t t' : TO} (p : PO X e t) (h : ∀ σ H Q, t' σ H Q → t σ H Q) : PO X e t' := ⟨fun pins s σ H Q I q => p.run pins s σ H Q I (h σ H Q q)⟩
theorem PE.any {X : Cx} {e : Expr} {ι : Type} {t : ι → TE} (p : ∀ i, PE X e (t i)) : PE X e (fun σ H Q => ∃ i, t i σ H Q) := ⟨fun pins s σ H Q I ⟨i, q⟩ => (p i).run pins s σ H Q I q⟩
/-- only where it is needed -/
theorem PE.iff {X : Cx} {e : Expr} {c : Prop} {t : TE} (p : c → PE X e t) : PE X e (fun σ H Q => c ∧ t σ H Q) := ⟨fun pins s σ H Q I ⟨i, q⟩ => (p i).run pins s σ H Q I q⟩

section
variable (K : PySem.W.Frag) (G : Sta)
def RS (ρ : Rho) (H : Hp) (s : VS) (σ : L2.St) : Prop := s.length = σ.length ∧ ∀ (i : Nat) w, s[i]? = some (some w) → ∃ v, σ[i]? = some (some v) ∧ RV K ρ H w v
abbrev WXs (W : WX) (σ : L2.St) : XK := fun c d H => W c d σ H
def Lft (W : WX) (f : VS → VH → R W') : L2.St → Hp → (Rho → Hp → W' → VH → Prop) → Prop := fun σ H P => ∃ ρ s h, Rl K G ρ h H ∧ RS K ρ H s σ ∧ OutR (P ρ H) (FinX K G ρ H (WXs W σ)) (f s h)
def FinA (ρ : Rho) (H : Hp) (Q : List V → Hp → Prop) (ws : List W) (h' : VH) : Prop := ∀ ρ' H' vs, Le ρ H ρ' H' → Rl K G ρ' h' H' → RVs K ρ' H' ws vs → Q vs H'
def FinT (ρ : Rho) (H : Hp) (Q : Bool → Hp → Prop) (b : Bool) (h' : VH) : Prop := ∀ ρ' H', Le ρ H ρ' H' → Rl K G ρ' h' H' → Q b H'
def FinO (ρ : Rho) (H : Hp) (Q : Option Int → Hp → Prop) (b : Option Int) (h' : VH) : Prop := ∀ ρ' H', Le ρ H ρ' H' → Rl K G ρ' h' H' → Q b H'
def lE (W : WX) (f : VS → VH → R VM.W) : TE := fun σ H Q => Lft K G W f σ H fun ρ H => Fin K G ρ H Q
def lA (W : WX) (f : VS → VH → R (List VM.W)) : TA := fun σ H Q => Lft K G W f σ H fun ρ H => FinA K G ρ H Q
def lT (W : WX) (f : VS → VH → R Bool) : TT := fun σ H Q => Lft K G W f σ H fun ρ H => FinT K G ρ H Q
def lO (W : WX) (f : VS → VH → R (Option Int)) : TO := fun σ H Q => Lft K G W f σ H fun ρ H => FinO K G ρ H Q
end
section
variable {K : PySem.W.Frag} {G : Sta} {ρ ρ1 : Rho} {H H1 : Hp} {h : VH} {s : VS} {σ : L2.St} {W : WX}
theorem RS.le (l : Le ρ H ρ1 H1) (r : RS K ρ H s σ) : RS K ρ1 H1 s σ := ⟨r.1, fun i w e => let ⟨v, a, b⟩ := r.2 i w e; ⟨v, a, b.mono l⟩⟩
theorem FinA.le {Q : List V → Hp → Prop} {w : List VM.W} {h' : VH} (l : Le ρ H ρ1 H1) (f : FinA K G ρ H Q w h') : FinA K G ρ1 H1 Q w h' := fun ρ' H' v l' r q => f ρ' H' v (l.trans l') r q
theorem FinT.le {Q : Bool → Hp → Prop} {w : Bool} {h' : VH} (l : Le ρ H ρ1 H1) (f : FinT K G ρ H Q w h') : FinT K G ρ1 H1 Q w h' := fun ρ' H' l' r => f ρ' H' (l.trans l') r
theorem FinO.le {Q : Option Int → Hp → Prop} {w : Option Int} {h' : VH} (l : Le ρ H ρ1 H1) (f : FinO K G ρ H Q w h') : FinO K G ρ1 H1 Q w h' := fun ρ' H' l' r => f ρ' H' (l.trans l') r
theorem OutR.imp {α : Type} {P P' : α → VH → Prop} {PX PX' : Nat → VM.W → VH → Prop} {r : R α} (o : OutR P PX r) (h1 : ∀ a h, P a h → P' a h) (h2 : ∀ c w h, PX c w h → PX' c w h) : OutR P' PX' r := by
  cases r with
  | ok a h => exact h1 a h o
  | exc c w h => exact h2 c w h o
  | bad => exact o
/-- the outcome, from a later heap on -/
theorem outE {Q : VK} {E : XK} {r : R VM.W} (l : Le ρ H ρ1 H1) (o : OutR (Fin K G ρ H Q) (FinX K G ρ H E) r) : OutR (Fin K G ρ1 H1 Q) (FinX K G ρ1 H1 E) r := o.imp (fun _ _ => Fin.le l) fun _ _ _ => FinX.le l
theorem outA {Q : List V → Hp → Prop} {E : XK} {r : R (List VM.W)} (l : Le ρ H ρ1 H1) (o : OutR (FinA K G ρ H Q) (FinX K G ρ H E) r) : OutR (FinA K G ρ1 H1 Q) (FinX K G ρ1 H1 E) r := o.imp (fun _ _ => FinA.le l) fun _ _ _ => FinX.le l
theorem outT {Q : Bool → Hp → Prop} {E : XK} {r : R Bool} (l : Le ρ H ρ1 H1) (o : OutR (FinT K G ρ H Q) (FinX K G ρ H E) r) : OutR (FinT K G ρ1 H1 Q) (FinX K G ρ1 H1 E) r := o.imp (fun _ _ => FinT.le l) fun _ _ _ => FinX.le l
theorem outO {Q : Option Int → Hp → Prop} {E : XK} {r : R (Option Int)} (l : Le ρ H ρ1 H1) (o : OutR (FinO K G ρ H Q) (FinX K G ρ H E) r) : OutR (FinO K G ρ1 H1 Q) (FinX K G ρ1 H1 E) r := o.imp (fun _ _ => FinO.le l) fun _ _ _ => FinX.le l
/-- first one thing, then what hangs on it -/
theorem seqE {α : Type} {f : VS → VH → R VM.W} {g : VM.W → VH → R α} {P : α → VH → Prop} {Q : VK} (rl : Rl K G ρ h H) (rs : RS K ρ H s σ) (o : OutR P (FinX K G ρ H (WXs W σ)) ((f s h).bind g))
    (k : ∀ w h1 ρ1 H1 v, Le ρ H ρ1 H1 → Rl K G ρ1 h1 H1 → RS K ρ1 H1 s σ → RV K ρ1 H1 w v → OutR P (FinX K G ρ H (WXs W σ)) (g w h1) → Q v H1) : lE K G W f σ H Q := by
  refine ⟨ρ, s, h, rl, rs, ?_⟩
  cases e : f s h with
  | ok a h1 => rw [e] at o; exact fun ρ' H' v l r q => k a h1 ρ' H' v l r (rs.le l) q o
  | exc c w h1 => rw [e] at o; exact o
  | bad => rw [e] at o; exact o
theorem seqA {α : Type} {f : VS → VH → R (List VM.W)} {g : List VM.W → VH → R α} {P : α → VH → Prop} {Q : List V → Hp → Prop} (rl : Rl K G ρ h H) (rs : RS K ρ H s σ) (o : OutR P (FinX K G ρ H (WXs W σ)) ((f s h).bind g))
    (k : ∀ w h1 ρ1 H1 v, Le ρ H ρ1 H1 → Rl K G ρ1 h1 H1 → RS K ρ1 H1 s σ → RVs K ρ1 H1 w v → OutR P (FinX K G ρ H (WXs W σ)) (g w h1) → Q v H1) : lA K G W f σ H Q := by
  refine ⟨ρ, s, h, rl, rs, ?_⟩
  cases e : f s h with
  | ok a h1 => rw [e] at o; exact fun ρ' H' v l r q => k a h1 ρ' H' v l r (rs.le l) q o
  | exc c w h1 => rw [e] at o; exact o
  | bad => rw [e] at o; exact o
theorem seqT {α : Type} {f : VS → VH → R Bool} {g : Bool → VH → R α} {P : α → VH → Prop} {Q : Bool → Hp → Prop} (rl : Rl K G ρ h H) (rs : RS K ρ H s σ) (o : OutR P (FinX K G ρ H (WXs W σ)) ((f s h).bind g))
    (k : ∀ w h1 ρ1 H1, Le ρ H ρ1 H1 → Rl K G ρ1 h1 H1 → RS K ρ1 H1 s σ → OutR P (FinX K G ρ H (WXs W σ)) (g w h1) → Q w H1) : lT K G W f σ H Q := by
  refine ⟨ρ, s, h, rl, rs, ?_⟩
  cases e : f s h with
  | ok a h1 => rw [e] at o; exact fun ρ' H' l r => k a h1 ρ' H' l r (rs.le l) o
  | exc c w h1 => rw [e] at o; exact o
  | bad => rw [e] at o; exact o
theorem seqO {α : Type} {f : VS → VH → R (Option Int)} {g : Option Int → VH → R α} {P : α → VH → Prop} {Q : Option Int → Hp → Prop} (rl : Rl K G ρ h H) (rs : RS K ρ H s σ) (o : OutR P (FinX K G ρ H (WXs W σ)) ((f s h).bind g))
    (k : ∀ w h1 ρ1 H1, Le ρ H ρ1 H1 → Rl K G ρ1 h1 H1 → RS K ρ1 H1 s σ → OutR P (FinX K G ρ H (WXs W σ)) (g w h1) → Q w H1) : lO K G W f σ H Q := by
  refine ⟨ρ, s, h, rl, rs, ?_⟩
  cases e : f s h with
  | ok a h1 => rw [e] at o; exact fun ρ' H' l r => k a h1 ρ' H' l r (rs.le l) o
  | exc c w h1 => rw [e] at o; exact o
  | bad => rw [e] at o; exact o
/-- no exception comes of it -/
theorem OutR.noX {α : Type} {P : α → VH → Prop} {PX : Nat → VM.W → VH → Prop} {r : R α} (o : OutR P PX r) (n : ∀ c w h, r ≠ .exc c w h) : OutR P (fun _ _ _ => False) r := by
  cases r with
  | ok a h => exact o
  | exc c w h => exact absurd rfl (n c w h)
  | bad => exact o
theorem blR_some {α : Type} {P : α → VH → Prop} {PX : Nat → VM.W → VH → Prop} {w : VM.W} {h : VH} {f : Bool → R α} (o : OutR P PX (blR w h f)) : ∃ b, w = .bl b ∧ OutR P PX (f b) := by
  cases w with
  | bl b => exact ⟨b, rfl, o⟩
  | _ => exact o.elim
end
theorem binW_noX (o : BOp) (a b : W) (h : VH) (c : Nat) (w : W) (h' : VH) : binW o a b h ≠ .exc c w h' := by
  unfold binW
  split <;> first | (intro z; cases z) | (split <;> first | (intro z; cases z) | (split <;> (intro z; cases z)))
theorem R.of_noX {α : Type} {h : VH} {o : Option α} (c : Nat) (w : W) (h' : VH) : R.of h o ≠ .exc c w h' := by
  cases o <;> (intro z; cases z)
end VM

set_option linter.all false
set_option autoImplicit false
set_option maxRecDepth 100000
set_option maxHeartbeats 4000000
/-! VM6: expressions: soundness. -/
namespace VM
open PySem PySem.Spec PyProof.Rows L2

def bNames : List Str := ["len", "abs", "max", "min", "sum", "all", "any", "int", "str", "tuple", "list", "dict", "sorted", "isinstance", "bool", "set", "range", "zip", "enumerate"]
/-- a call of a value that is known, with what it may raise -/
def CallX (X : Cx) (W : WX) (f : Value) (r : List V → Hp → VK → XK → Prop) : Prop :=
  ∀ (pins : List (Addr × Obj)) (s : Shared) (σ : L2.St) (H : Hp) (xs : List V) (us : List Value) (Q : VK), Inv X pins σ H s → Vals xs us → r xs H Q (WXs W σ) →
    wpAny (model X.prog X.w) X.A (call f us) (EP X pins σ Q) X.xe s
def rCall (K : PySem.W.Frag) (G : Sta) (c : List W → VH → R W) : List V → Hp → VK → XK → Prop := fun xs H Q E =>
  ∃ ρ h ws, Rl K G ρ h H ∧ RVs K ρ H ws xs ∧ OutR (Fin K G ρ H Q) (FinX K G ρ H E) (c ws h)
def mkR (T : Tab) (c2 : Nat → List W → VH → R W) (c : Nat) (ws : List W) (h1 : VH) : R W := match T.init c with
    | some f => (c2 f (.ref h1.n :: ws) (h1.alloc (.ins c []))).bind fun w h2 => match w with
      | .non => .ok (.ref h1.n) h2
      | _ => .bad
    | none => .bad
structure XG (T : Tab) (M : Nms) (G : Sta) (c1 c2 : Nat → List VM.W → VH → R VM.W) (X : Cx) (W : WX) : Prop where
  nd : X.N.Nodup
  calm : X.calm = true
  room : X.A.units + 200 < cLine
  free : ∀ x ∈ bNames, X.mg x = none
  fn : ∀ f, M.fn f ≠ Str.empty → ∃ fa, X.mg (M.fn f) = some (.ref fa) ∧ PySem.W.keepIn X.K (.ref fa) = true ∧ CallX X W (.ref fa) (rCall X.K G (c1 f))
  mt : ∀ c m f, T.meth c m = some f → ∃ fa, Cls X.K (G.ca c) ∧ Meth X.K (G.ca c) (M.mt m) fa ∧ CallX X W (.ref fa) (rCall X.K G (c1 f))
  mts : ∀ m, M.mt m ≠ Str.empty → ∃ c f, T.meth c m = some f
  mk_ : ∀ c, M.cl c ≠ Str.empty → X.mg (M.cl c) = some (.ref (G.ca c)) ∧ PySem.W.keepIn X.K (.ref (G.ca c)) = true ∧ CallX X W (.ref (G.ca c)) (rCall X.K G (mkR T c2 c))
  glb : ∀ g w, T.glb g = some w → ∃ u v, X.mg (M.gl g) = some u ∧ RelV v u ∧ ∀ ρ H, RV X.K ρ H w v
  fl : G.fl = T.fl
  nm : G.fnm = M.fl
  at_ : ∀ c f, G.fl c f = true → Cls X.K (G.ca c) ∧ NoAttr X.K (G.ca c) (G.fnm f)
  inj : ∀ c f g, G.fl c f = true → G.fl c g = true → G.fnm f = G.fnm g → f = g
  dis : ∀ c m f, (T.meth c m).isSome = true → G.fl c f = true → G.fnm f ≠ M.mt m

section
variable {T : Tab} {M : Nms} {G : Sta} {c1 c2 : Nat → List VM.W → VH → R VM.W} {X : Cx} {W : WX}
abbrev lEx (T : Tab) (G : Sta) (c1 c2 : Nat → List VM.W → VH → R VM.W) (X : Cx) (W : WX) (e : E) : TE := lE X.K G W (ev T c1 c2 e)
variable {a b c es : E} {x y z : Expr} {pos : Pos}
theorem ev_bin (g : XG T M G c1 c2 X W) (o : BOp) (ha : PE X x (lEx T G c1 c2 X W a)) (hb : PE X y (lEx T G c1 c2 X W b)) : PE X (.BinOp x (bopX o) y pos) (lEx T G c1 c2 X W (.bin o a b)) := by
  refine PE.imp (pe_op (op_bin G o) ha hb) fun σ H Q ⟨ρ, s, h, rl, rs, out⟩ => ?_
  refine seqE rl rs (by simpa only [ev] using out) fun w1 h1 ρ1 H1 v1 l1 rl1 rs1 r1 o1 => ?_
  refine seqE rl1 rs1 (P := Fin X.K G ρ1 H1 Q) (outE l1 o1) fun w2 h2 ρ2 H2 v2 l2 rl2 rs2 r2 o2 => ?_
  exact ⟨ρ2, h2, w1, w2, rl2, r1.mono l2, r2, (outE l2 o2).noX (binW_noX o w1 w2 h2)⟩
theorem ev_cmp (g : XG T M G c1 c2 X W) (o : COp) (ha : PE X x (lEx T G c1 c2 X W a)) (hb : PE X y (lEx T G c1 c2 X W b)) (oy : okX y = true) : PE X (.Compare x [copX o] [y] pos) (lEx T G c1 c2 X W (.cmp o a b)) := by
  refine PE.imp (pe_cmpR (op_cmpW (G := G) (by have := g.room; omega) o) ha hb (behind_ok oy)) fun σ H Q ⟨ρ, s, h, rl, rs, out⟩ => ?_
  refine seqE rl rs (by simpa only [ev] using out) fun w1 h1 ρ1 H1 v1 l1 rl1 rs1 r1 o1 => ?_
  refine seqE rl1 rs1 (P := Fin X.K G ρ1 H1 Q) (outE l1 o1) fun w2 h2 ρ2 H2 v2 l2 rl2 rs2 r2 o2 => ?_
  obtain ⟨w, e0, q⟩ := of_some ((outE l2 o2).noX R.of_noX)
  obtain ⟨b, e, rfl⟩ := opt_map_some e0
  exact ⟨ρ2, h2, w1, w2, b, rl2, r1.mono l2, r2, e, q.now rl2 rfl⟩
theorem ev_chn (g : XG T M G c1 c2 X W) (o o' : COp) (ha : PE X x (lEx T G c1 c2 X W a)) (hb : PE X y (lEx T G c1 c2 X W b)) (hc : PE X z (lEx T G c1 c2 X W c)) (oz : okX z = true) :
    PE X (.Compare x [copX o, copX o'] [y, z] pos) (lEx T G c1 c2 X W (.chn o o' a b c)) := by
  have hu : X.A.units + 65 < cLine := by have := g.room; omega
  refine PE.imp (pe_chain (op_cmpW (G := G) hu o) (op_cmpW (G := G) hu o') ha hb hc (last_ok oz)) fun σ H Q ⟨ρ, s, h, rl, rs, out⟩ => ?_
  refine seqE rl rs (by simpa only [ev] using out) fun w1 h1 ρ1 H1 v1 l1 rl1 rs1 r1 o1 => ?_
  refine seqE rl1 rs1 (P := Fin X.K G ρ1 H1 Q) (outE l1 o1) fun w2 h2 ρ2 H2 v2 l2 rl2 rs2 r2 o2 => ?_
  have o2 := outE l2 o2
  cases e : cmpW h2 o w1 w2 with
  | none => rw [e] at o2; exact o2.elim
  | some k =>
    rw [e] at o2
    refine ⟨ρ2, h2, w1, w2, k, rl2, r1.mono l2, r2, e, k, rfl, ?_⟩
    cases k with
    | false => exact Fin.now o2 rl2 rfl
    | true =>
      refine seqE rl2 rs2 (P := Fin X.K G ρ2 H2 Q) o2 fun w3 h3 ρ3 H3 v3 l3 rl3 rs3 r3 o3 => ?_
      obtain ⟨w, e0, q⟩ := of_some ((outE l3 o3).noX R.of_noX)
      obtain ⟨b, e1, rfl⟩ := opt_map_some e0
      exact ⟨ρ3, h3, w2, w3, b, rl3, r2.mono l3, r3, e1, q.now rl3 rfl⟩
theorem RV.isNon {K : PySem.W.Frag} {ρ : Rho} {H : Hp} {w : VM.W} {v : V} (r : RV K ρ H w v) : decide (v = .non) = w.isNon := by
  cases w with
  | non => cases r; rfl
  | bl b => cases r; rfl
  | int b => cases r; rfl
  | str b => obtain ⟨rfl, _⟩ := r; rfl
  | tup b => obtain ⟨a, _, rfl, _⟩ := r; rfl
  | lit b => obtain ⟨a, _, rfl, _⟩ := r; rfl
  | fz b => obtain ⟨a, _, rfl, _⟩ := r; rfl
  | ref n => obtain ⟨a, _, rfl⟩ := r; rfl
  | exn _ _ => exact r.elim
theorem ev_isn (ha : PE X x (lEx T G c1 c2 X W a)) {j p} : PE X (.Compare x [.Is] [.Constant .none j p] pos) (lEx T G c1 c2 X W (.isn a)) := by
  refine PE.imp (pe_cmp (pc_isN ha) rfl) fun σ H Q ⟨ρ, s, h, rl, rs, out⟩ => ?_
  refine seqE rl rs (by simpa only [ev] using out) fun w1 h1 ρ1 H1 v1 l1 rl1 rs1 r1 o1 => ?_
  rw [r1.isNon]
  exact Fin.now (outE l1 o1) rl1 rfl
theorem ev_isnn (ha : PE X x (lEx T G c1 c2 X W a)) {j p} : PE X (.Compare x [.IsNot] [.Constant .none j p] pos) (lEx T G c1 c2 X W (.isnn a)) := by
  refine PE.imp (pe_cmp (pc_notN ha) rfl) fun σ H Q ⟨ρ, s, h, rl, rs, out⟩ => ?_
  refine seqE rl rs (by simpa only [ev] using out) fun w1 h1 ρ1 H1 v1 l1 rl1 rs1 r1 o1 => ?_
  rw [r1.isNon]
  exact Fin.now (outE l1 o1) rl1 rfl
/-- what is made may be frozen -/
theorem pe_frz {X : Cx} {e : Expr} {t : TE} (p : PE X e t) : PE X e (fun σ H Q => t σ H fun v H1 => Q v H1 ∨ ∃ a xs, v = .ref a ∧ H1 a = some (.lst xs) ∧ ∀ o, Q v (upd H1 a (.frz o (.lst xs)))) := by
  refine ⟨fun pins s σ H Q I hw => ?_⟩
  refine thn (p.run pins s σ _ _ I hw) fun v s1 ⟨x, H1, I2, r, q⟩ => ?_
  rcases q with q | ⟨a, xs, rfl, e, q⟩
  · exact ⟨x, H1, I2, r, q⟩
  · obtain ⟨od, I3⟩ := I2.lock e trivial
    exact ⟨_, _, I3, r, q od⟩
theorem ev_frz (ha : PE X x (lEx T G c1 c2 X W a)) : PE X x (lEx T G c1 c2 X W (.frz a)) := by
  refine PE.imp (pe_frz ha) fun σ H Q ⟨ρ, s, h, rl, rs, out⟩ => ?_
  refine ⟨ρ, s, h, rl, rs, ?_⟩
  have out : OutR (Fin X.K G ρ H Q) (FinX X.K G ρ H (WXs W σ)) (frzR h (ev T c1 c2 a s h)) := by simpa only [ev] using out
  cases e : ev T c1 c2 a s h with
  | bad => rw [e] at out; exact out
  | exc c w h1 => rw [e] at out; exact out
  | ok w h1 =>
    rw [e] at out
    have out : OutR (Fin X.K G ρ H Q) (FinX X.K G ρ H (WXs W σ)) (frzW h w h1) := out
    unfold frzW at out
    intro ρ' H' v l r rv
    split at out
    · split at out
      · rename_i ws hf
        have f := trimR_out rl out
        obtain ⟨p, ep, rfl⟩ := rv
        obtain ⟨vs, hz, qs⟩ := r.lst ep hf
        refine .inr ⟨p, vs, rfl, hz, fun o => ?_⟩
        exact f ρ' _ _ (l.trans (Le.frz ep hz)) (r.frz ep hz) ⟨p, vs, rfl, ⟨o, upd_same⟩, qs.mono (Le.frz ep hz)⟩
      · exact out.elim
    · exact out.elim
    · exact .inl (trimR_out rl out ρ' H' v l r rv)
theorem frz_noBl {h : VH} {r : R VM.W} {α : Type} {f : Bool → VH → R α} {P : α → VH → Prop} {PX : Nat → VM.W → VH → Prop} (o : OutR P PX ((frzR h r).bind fun x h1 => blR x h1 fun b => f b h1)) : ∃ c w h1, r = .exc c w h1 ∧ PX c w h1 := by
  cases r with
  | bad => exact o.elim
  | exc c w h1 => exact ⟨c, w, h1, rfl, o⟩
  | ok w h1 =>
    exfalso
    have o : OutR P PX ((frzW h w h1).bind fun x h1 => blR x h1 fun b => f b h1) := o
    unfold frzW at o
    split at o
    · split at o
      · unfold trimR at o
        split at o <;> exact o
      · exact o
    · exact o
    · rename_i n1 n2
      unfold trimR at o
      split at o <;> (cases w <;> first | exact o | exact n2 _ rfl)
theorem ev_neg (ha : PE X x (lEx T G c1 c2 X W a)) : PE X (.UnaryOp .USub x pos) (lEx T G c1 c2 X W (.neg a)) := by
  refine PE.imp (pe_un un_neg ha) fun σ H Q ⟨ρ, s, h, rl, rs, out⟩ => ?_
  refine seqE rl rs (by simpa only [ev] using out) fun w1 h1 ρ1 H1 v1 l1 rl1 rs1 r1 o1 => ?_
  have o1 := outE l1 o1
  cases w1 with
  | int i => cases r1; exact ⟨i, rfl, Fin.now o1 rl1 rfl⟩
  | _ => exact o1.elim
theorem ev_not (ha : PE X x (lEx T G c1 c2 X W a)) : PE X (.UnaryOp .Not x pos) (lEx T G c1 c2 X W (.not a)) := by
  refine PE.imp (pe_not ha) fun σ H Q ⟨ρ, s, h, rl, rs, out⟩ => ?_
  refine seqE rl rs (by simpa only [ev] using out) fun w1 h1 ρ1 H1 v1 l1 rl1 rs1 r1 o1 => ?_
  obtain ⟨b, rfl, o1⟩ := blR_some o1
  cases r1
  exact ⟨b, rfl, Fin.now (outE l1 o1) rl1 rfl⟩
theorem ev_and {r : List Expr} (ha : PE X x (lEx T G c1 c2 X W a)) (hb : PE X (.BoolOp .And (y :: r) pos) (lEx T G c1 c2 X W b)) : PE X (.BoolOp .And (x :: y :: r) pos) (lEx T G c1 c2 X W (.and a b)) := by
  refine PE.imp (pe_and ha hb) fun σ H Q ⟨ρ, s, h, rl, rs, out⟩ => ?_
  refine seqE rl rs (by simpa only [ev] using out) fun w1 h1 ρ1 H1 v1 l1 rl1 rs1 r1 o1 => ?_
  obtain ⟨b, rfl, o1⟩ := blR_some o1
  cases r1
  refine ⟨b, rfl, ?_⟩
  cases b with
  | true => exact ⟨ρ1, s, h1, rl1, rs1, outE l1 o1⟩
  | false => exact Fin.now (outE l1 o1) rl1 rfl
theorem ev_or {r : List Expr} (ha : PE X x (lEx T G c1 c2 X W a)) (hb : PE X (.BoolOp .Or (y :: r) pos) (lEx T G c1 c2 X W b)) : PE X (.BoolOp .Or (x :: y :: r) pos) (lEx T G c1 c2 X W (.or a b)) := by
  refine PE.imp (pe_or ha hb) fun σ H Q ⟨ρ, s, h, rl, rs, out⟩ => ?_
  refine seqE rl rs (by simpa only [ev] using out) fun w1 h1 ρ1 H1 v1 l1 rl1 rs1 r1 o1 => ?_
  obtain ⟨b, rfl, o1⟩ := blR_some o1
  cases r1
  refine ⟨b, rfl, ?_⟩
  cases b with
  | false => exact ⟨ρ1, s, h1, rl1, rs1, outE l1 o1⟩
  | true => exact Fin.now (outE l1 o1) rl1 rfl
/-- a test: the value is a bool -/
noncomputable def evB (T : Tab) (c1 c2 : Nat → List VM.W → VH → R VM.W) (e : E) : VS → VH → R Bool := fun s h => (ev T c1 c2 e s h).bind fun w h1 => blR w h1 fun b => .ok b h1
abbrev lTx (T : Tab) (G : Sta) (c1 c2 : Nat → List VM.W → VH → R VM.W) (X : Cx) (W : WX) (e : E) : TT := lT X.K G W (evB T c1 c2 e)
theorem ev_ite (hc : PT X z (lTx T G c1 c2 X W c)) (ha : PE X x (lEx T G c1 c2 X W a)) (hb : PE X y (lEx T G c1 c2 X W b)) : PE X (.IfExp z x y pos) (lEx T G c1 c2 X W (.ite c a b)) := by
  refine PE.imp (pe_ifExp hc ha hb) fun σ H Q ⟨ρ, s, h, rl, rs, out⟩ => ?_
  have e : ev T c1 c2 (.ite c a b) s h = (evB T c1 c2 c s h).bind fun t h1 => if t then ev T c1 c2 a s h1 else ev T c1 c2 b s h1 := by
    unfold evB
    rw [R.bind_bind]
    simp only [ev]
    congr 1
    funext w h1
    cases w <;> rfl
  rw [e] at out
  refine seqT rl rs out fun t h1 ρ1 H1 l1 rl1 rs1 o1 => ?_
  cases t with
  | true => exact ⟨ρ1, s, h1, rl1, rs1, outE l1 o1⟩
  | false => exact ⟨ρ1, s, h1, rl1, rs1, outE l1 o1⟩
theorem ev_tup {xs : List Expr} {k : Nat} (ha : PA X xs (lA X.K G W (evs T c1 c2 es))) : PE X (.Tuple xs k pos) (lEx T G c1 c2 X W (.tup es)) := by
  refine PE.imp (pe_tup ha) fun σ H Q ⟨ρ, s, h, rl, rs, out⟩ => ?_
  refine seqA rl rs (by simpa only [ev] using out) fun w1 h1 ρ1 H1 v1 l1 rl1 rs1 r1 o1 => ?_
  have o1 := outE l1 o1
  split at o1
  · exact ⟨by rw [sizeLine_eq, ← r1.len]; assumption, fun p hp => Fin.tup o1 rl1 r1 hp⟩
  · exact o1.elim
theorem ev_lst {xs : List Expr} (ha : PA X xs (lA X.K G W (evs T c1 c2 es))) : PE X (.List xs pos) (lEx T G c1 c2 X W (.lst es)) := by
  refine PE.imp (pe_lst ha) fun σ H Q ⟨ρ, s, h, rl, rs, out⟩ => ?_
  refine seqA rl rs (by simpa only [ev] using out) fun w1 h1 ρ1 H1 v1 l1 rl1 rs1 r1 o1 => ?_
  have o1 := outE l1 o1
  split at o1
  · exact ⟨by rw [sizeLine_eq, ← r1.len]; assumption, fun p hp => Fin.lst o1 rl1 r1 hp⟩
  · exact o1.elim
theorem ev_dic0 : PE X (.Dict [] [] pos) (lEx T G c1 c2 X W .dic0) := by
  refine PE.imp pe_dnewK fun σ H Q ⟨ρ, s, h, rl, rs, out⟩ p hp => ?_
  exact out _ _ _ (Le.newO rl hp) (rl.newO hp ⟨[], .nil, upd_same⟩) ⟨p, rhoAt_same, rfl⟩
theorem ev_var {i : Nat} {n : Str} (hN : X.N[i]? = some n) (hv : Vis X.env.scope n) (h1 : (n == ("__debug__" : Str)) = false) (h2 : (n == ("__classdict__" : Str)) = false) : PE X (.Name n pos) (lEx T G c1 c2 X W (.var i)) := by
  refine PE.imp (pe_var hN hv h1 h2) fun σ H Q ⟨ρ, s, h, rl, rs, out⟩ => ?_
  have out : OutR (Fin X.K G ρ H Q) (FinX X.K G ρ H (WXs W σ)) (R.of h (s[i]?).join) := by simpa only [ev] using out
  obtain ⟨w, e, q⟩ := of_some (out.noX R.of_noX)
  have e : s[i]? = some (some w) := by
    cases e1 : s[i]? with
    | none => rw [e1] at e; cases e
    | some o => rw [e1] at e; cases o with
      | none => cases e
      | some w' => cases e; rfl
  obtain ⟨v, e1, r⟩ := rs.2 i w e
  exact ⟨v, e1, q.now rl r⟩
theorem ev_cst {w : VM.W} {k : Const} {j : Nat} (h : chkK w k = true) : PE X (.Constant k j pos) (lEx T G c1 c2 X W (.cst w)) := by
  unfold chkK at h
  split at h
  · exact PE.imp pe_non fun σ H Q ⟨ρ, s, h, rl, rs, out⟩ => Fin.now out rl rfl
  · obtain rfl := eq_of_beq h
    exact PE.imp pe_bl fun σ H Q ⟨ρ, s, h, rl, rs, out⟩ => Fin.now out rl rfl
  · obtain rfl := of_decide_eq_true h
    exact PE.imp pe_int fun σ H Q ⟨ρ, s, h, rl, rs, out⟩ => Fin.now out rl rfl
  · simp only [Bool.and_eq_true, decide_eq_true_eq] at h
    obtain ⟨rfl, h1, h2⟩ := h
    exact PE.imp pe_str fun σ H Q ⟨ρ, s, h, rl, rs, out⟩ => Fin.now out rl ⟨rfl, h1, h2⟩
  · cases h
theorem ev_glb (g : XG T M G c1 c2 X W) {i : Nat} (hg : Gl X (M.gl i)) (hd : (M.gl i == ("__debug__" : Str)) = false) : PE X (.Name (M.gl i) pos) (lEx T G c1 c2 X W (.glb i)) := by
  refine ⟨fun pins s0 σ H Q I ⟨ρ, s, h, rl, rs, out⟩ => ?_⟩
  have out : OutR (Fin X.K G ρ H Q) (FinX X.K G ρ H (WXs W σ)) (R.of h (T.glb i)) := by simpa only [ev] using out
  obtain ⟨w, e, q⟩ := of_some (out.noX R.of_noX)
  obtain ⟨u, v, hm, r, rv⟩ := g.glb i w e
  exact (pe_glob hg hm r hd).run pins s0 σ H Q I (q.now rl (rv ρ H))
theorem lookup_fs {K : PySem.W.Frag} {ρ : Rho} {H : Hp} {cl f : Nat} {w : VM.W} (inj : ∀ g', G.fl cl g' = true → G.fnm g' = G.fnm f → g' = f) :
    ∀ {fs : List (Nat × VM.W)} {fs' : List (Str × V)}, RFs K G ρ H fs fs' → (∀ p ∈ fs, G.fl cl p.1 = true) → fGet f fs = some w → ∃ v, fs'.lookup (G.fnm f) = some v ∧ RV K ρ H w v
  | _, _, .nil, _, e => by cases e
  | (k, x) :: fs, (n, v) :: fs', .cons p q, hf, e => by
    obtain ⟨e0, r⟩ := p
    have e1 : G.fnm k = n := e0
    subst e1
    unfold fGet at e
    rw [List.lookup_cons] at e ⊢
    by_cases z : f = k
    · subst z
      simp only [beq_self_eq_true] at e
      cases e
      simp only [beq_self_eq_true]
      exact ⟨v, rfl, r⟩
    · have z1 : (f == k) = false := by simpa using z
      rw [z1] at e
      have z2 : (G.fnm f == G.fnm k) = false := by
        simp only [beq_eq_false_iff_ne]
        exact fun y => z (inj k (hf (k, x) (List.mem_cons_self ..)) y.symm).symm
      rw [z2]
      exact lookup_fs inj q (fun p hp => hf p (List.mem_cons_of_mem _ hp)) e
theorem fGet_mem {f : Nat} {w : VM.W} : ∀ {fs : List (Nat × VM.W)}, fGet f fs = some w → (f, w) ∈ fs
  | [], e => by cases e
  | (k, x) :: fs, e => by
    unfold fGet at e
    rw [List.lookup_cons] at e
    by_cases z : f = k
    · subst z
      simp only [beq_self_eq_true] at e
      cases e
      exact List.mem_cons_self ..
    · have z1 : (f == k) = false := by simpa using z
      rw [z1] at e
      exact List.mem_cons_of_mem _ (fGet_mem e)
theorem ev_fld (g : XG T M G c1 c2 X W) {f : Nat} (ha : PE X x (lEx T G c1 c2 X W a)) (hn : noSup x = true) : PE X (.Attribute x (M.fl f) pos) (lEx T G c1 c2 X W (.fld a f)) := by
  refine PE.imp (pe_fld ha (base_ok hn)) fun σ H Q ⟨ρ, s, h, rl, rs, out⟩ => ?_
  refine seqE rl rs (by simpa only [ev] using out) fun w1 h1 ρ1 H1 v1 l1 rl1 rs1 r1 o1 => ?_
  have o1 := outE l1 o1
  cases w1 with
  | ref n =>
    obtain ⟨p, ep, rfl⟩ := r1
    cases hf : h1.f n with
    | none => simp only [hf] at o1; exact o1.elim
    | some ob =>
      simp only [hf] at o1
      cases ob with
      | ins cl fs =>
        obtain ⟨w, e, q⟩ := of_some (o1.noX R.of_noX)
        obtain ⟨dx, fs', h2, rf, hfl⟩ := rl1.ins ep hf
        have hfc : G.fl cl f = true := hfl _ (fGet_mem e)
        obtain ⟨cc, na⟩ := g.at_ cl f hfc
        obtain ⟨v, e1, rv⟩ := lookup_fs (fun g' a b => g.inj cl g' f a hfc b) rf hfl e
        rw [← g.nm]
        exact ⟨p, _, dx, fs', v, rfl, h2, cc, na, e1, q.now rl1 rv⟩
      | lst _ => exact o1.elim
      | dic _ _ => exact o1.elim
  | _ => exact o1.elim
end
end VM

set_option linter.all false
set_option autoImplicit false
set_option maxRecDepth 100000
set_option maxHeartbeats 4000000
/-! VM6b: calls, subscripts. -/
namespace VM
open PySem PySem.Spec PyProof.Rows L2
section
variable {T : Tab} {M : Nms} {G : Sta} {c1 c2 : Nat → List VM.W → VH → R VM.W} {X : Cx} {W : WX}
variable {a b c es : E} {x y z : Expr} {xs : List Expr} {pos p apos : Pos}
/-! ### arguments -/
theorem ev_nil : PA X [] (lA X.K G W (evs T c1 c2 .nil)) := PA.imp pa_nil fun σ H Q ⟨ρ, s, h, rl, rs, out⟩ => out ρ H [] Le.refl rl rfl
theorem ev_cons (ha : PE X x (lEx T G c1 c2 X W a)) (hb : PA X xs (lA X.K G W (evs T c1 c2 es))) (ox : okX x = true) : PA X (x :: xs) (lA X.K G W (evs T c1 c2 (.cons a es))) := by
  refine PA.imp (pa_cons ha hb (star_ok ox)) fun σ H Q ⟨ρ, s, h, rl, rs, out⟩ => ?_
  refine seqE rl rs (by simpa only [evs] using out) fun w1 h1 ρ1 H1 v1 l1 rl1 rs1 r1 o1 => ?_
  refine seqA rl1 rs1 (P := FinA X.K G ρ1 H1 Q) (outA l1 o1) fun w2 h2 ρ2 H2 v2 l2 rl2 rs2 r2 o2 => ?_
  exact outA l2 o2 ρ2 H2 (v1 :: v2) Le.refl rl2 (RVs.cons (r1.mono l2) r2)
/-! ### tests -/
theorem evB_eq {e : E} {s : VS} {h : VH} {α : Type} (g : Bool → VH → R α) : (evB T c1 c2 e s h).bind g = (ev T c1 c2 e s h).bind fun w h1 => blR w h1 fun b => g b h1 := by
  unfold evB
  rw [R.bind_bind]
  congr 1
  funext w h1
  cases w <;> rfl
theorem ev_test (ha : PE X x (lEx T G c1 c2 X W a)) (he : ∀ whole, isTrue x X.env whole = (do let v ← whole; standAt x.pos; holding [v] (truthy v))) : PT X x (lTx T G c1 c2 X W a) := by
  refine PT.imp (pt_val ha he) fun σ H Q ⟨ρ, s, h, rl, rs, out⟩ => ?_
  refine seqE rl rs (P := FinT X.K G ρ H Q) (by unfold evB at out; exact out) fun w1 h1 ρ1 H1 v1 l1 rl1 rs1 r1 o1 => ?_
  obtain ⟨b, rfl, o1⟩ := blR_some o1
  cases r1
  exact ⟨b, rfl, o1 ρ1 H1 l1 rl1⟩
theorem evT_cmp (g : XG T M G c1 c2 X W) (o : COp) (ha : PE X x (lEx T G c1 c2 X W a)) (hb : PE X y (lEx T G c1 c2 X W b)) (oy : okX y = true) : PT X (.Compare x [copX o] [y] pos) (lTx T G c1 c2 X W (.cmp o a b)) := by
  refine PT.imp (pt_cmpR (op_cmpW (G := G) (by have := g.room; omega) o) ha hb (behind_ok oy)) fun σ H Q ⟨ρ, s, h, rl, rs, out⟩ => ?_
  unfold evB at out
  simp only [ev, R.bind_bind] at out
  refine seqE rl rs out fun w1 h1 ρ1 H1 v1 l1 rl1 rs1 r1 o1 => ?_
  refine seqE rl1 rs1 (P := FinT X.K G ρ1 H1 Q) (outT l1 o1) fun w2 h2 ρ2 H2 v2 l2 rl2 rs2 r2 o2 => ?_
  have o2 := outT l2 o2
  cases e : cmpW h2 o w1 w2 with
  | none => rw [e] at o2; exact o2.elim
  | some k =>
    rw [e] at o2
    exact ⟨ρ2, h2, w1, w2, k, rl2, r1.mono l2, r2, e, k, rfl, o2 ρ2 H2 Le.refl rl2⟩
theorem evT_chn (g : XG T M G c1 c2 X W) (o o' : COp) (ha : PE X x (lEx T G c1 c2 X W a)) (hb : PE X y (lEx T G c1 c2 X W b)) (hc : PE X z (lEx T G c1 c2 X W c)) (oz : okX z = true) :
    PT X (.Compare x [copX o, copX o'] [y, z] pos) (lTx T G c1 c2 X W (.chn o o' a b c)) := by
  have hu : X.A.units + 65 < cLine := by have := g.room; omega
  refine PT.imp (pt_chain (op_cmpW (G := G) hu o) (op_cmpW (G := G) hu o') ha hb hc (last_ok oz)) fun σ H Q ⟨ρ, s, h, rl, rs, out⟩ => ?_
  unfold evB at out
  simp only [ev, R.bind_bind] at out
  refine seqE rl rs out fun w1 h1 ρ1 H1 v1 l1 rl1 rs1 r1 o1 => ?_
  refine seqE rl1 rs1 (P := FinT X.K G ρ1 H1 Q) (outT l1 o1) fun w2 h2 ρ2 H2 v2 l2 rl2 rs2 r2 o2 => ?_
  have o2 := outT l2 o2
  cases e : cmpW h2 o w1 w2 with
  | none => rw [e] at o2; exact o2.elim
  | some k =>
    rw [e] at o2
    refine ⟨ρ2, h2, w1, w2, k, rl2, r1.mono l2, r2, e, k, rfl, ?_⟩
    cases k with
    | false => exact ⟨false, rfl, o2 ρ2 H2 Le.refl rl2⟩
    | true =>
      simp only [R.bind_bind] at o2
      refine seqE rl2 rs2 (P := FinT X.K G ρ2 H2 Q) o2 fun w3 h3 ρ3 H3 v3 l3 rl3 rs3 r3 o3 => ?_
      have o3 := outT l3 o3
      cases e' : cmpW h3 o' w2 w3 with
      | none => rw [e'] at o3; exact o3.elim
      | some k' =>
        rw [e'] at o3
        exact ⟨ρ3, h3, w2, w3, k', rl3, r2.mono l3, r3, e', k', rfl, o3 ρ3 H3 Le.refl rl3⟩
theorem evT_isn (ha : PE X x (lEx T G c1 c2 X W a)) {j p} : PT X (.Compare x [.Is] [.Constant .none j p] pos) (lTx T G c1 c2 X W (.isn a)) := by
  refine PT.imp (pt_cmp (pc_isN ha) rfl) fun σ H Q ⟨ρ, s, h, rl, rs, out⟩ => ?_
  unfold evB at out
  simp only [ev, R.bind_bind] at out
  refine seqE rl rs out fun w1 h1 ρ1 H1 v1 l1 rl1 rs1 r1 o1 => ?_
  rw [r1.isNon]
  exact ⟨_, rfl, o1 ρ1 H1 l1 rl1⟩
theorem evT_isnn (ha : PE X x (lEx T G c1 c2 X W a)) {j p} : PT X (.Compare x [.IsNot] [.Constant .none j p] pos) (lTx T G c1 c2 X W (.isnn a)) := by
  refine PT.imp (pt_cmp (pc_notN ha) rfl) fun σ H Q ⟨ρ, s, h, rl, rs, out⟩ => ?_
  unfold evB at out
  simp only [ev, R.bind_bind] at out
  refine seqE rl rs out fun w1 h1 ρ1 H1 v1 l1 rl1 rs1 r1 o1 => ?_
  rw [r1.isNon]
  exact ⟨_, rfl, o1 ρ1 H1 l1 rl1⟩
theorem evT_not (ha : PT X x (lTx T G c1 c2 X W a)) : PT X (.UnaryOp .Not x pos) (lTx T G c1 c2 X W (.not a)) := by
  refine PT.imp (pt_not ha) fun σ H Q ⟨ρ, s, h, rl, rs, out⟩ => ?_
  have e : evB T c1 c2 (.not a) s h = (evB T c1 c2 a s h).bind fun t h1 => .ok (!t) h1 := by
    rw [evB_eq]
    unfold evB
    simp only [ev, R.bind_bind]
    congr 1
    funext w h1
    cases w <;> rfl
  rw [e] at out
  exact seqT rl rs out fun t h1 ρ1 H1 l1 rl1 rs1 o1 => o1 ρ1 H1 l1 rl1
theorem evT_and {r : List Expr} (ha : PT X x (lTx T G c1 c2 X W a)) (hb : PW X (.BoolOp .And (y :: r) pos) (lTx T G c1 c2 X W b)) : PW X (.BoolOp .And (x :: y :: r) pos) (lTx T G c1 c2 X W (.and a b)) := by
  refine PW.imp (pw_and ha hb) fun σ H Q ⟨ρ, s, h, rl, rs, out⟩ => ?_
  have e : evB T c1 c2 (.and a b) s h = (evB T c1 c2 a s h).bind fun t h1 => if t then evB T c1 c2 b s h1 else .ok false h1 := by
    rw [evB_eq]
    unfold evB
    simp only [ev, R.bind_bind]
    congr 1
    funext w h1
    cases w with
    | bl t => cases t <;> rfl
    | _ => rfl
  rw [e] at out
  refine seqT rl rs out fun t h1 ρ1 H1 l1 rl1 rs1 o1 => ?_
  cases t with
  | true => exact ⟨ρ1, s, h1, rl1, rs1, outT l1 o1⟩
  | false => exact o1 ρ1 H1 l1 rl1
theorem evT_or {r : List Expr} (ha : PT X x (lTx T G c1 c2 X W a)) (hb : PW X (.BoolOp .Or (y :: r) pos) (lTx T G c1 c2 X W b)) : PW X (.BoolOp .Or (x :: y :: r) pos) (lTx T G c1 c2 X W (.or a b)) := by
  refine PW.imp (pw_or ha hb) fun σ H Q ⟨ρ, s, h, rl, rs, out⟩ => ?_
  have e : evB T c1 c2 (.or a b) s h = (evB T c1 c2 a s h).bind fun t h1 => if t then .ok true h1 else evB T c1 c2 b s h1 := by
    rw [evB_eq]
    unfold evB
    simp only [ev, R.bind_bind]
    congr 1
    funext w h1
    cases w with
    | bl t => cases t <;> rfl
    | _ => rfl
  rw [e] at out
  refine seqT rl rs out fun t h1 ρ1 H1 l1 rl1 rs1 o1 => ?_
  cases t with
  | false => exact ⟨ρ1, s, h1, rl1, rs1, outT l1 o1⟩
  | true => exact o1 ρ1 H1 l1 rl1
/-! ### subscripts -/
theorem ix_dic (hu : X.A.units + 1 < cLine) : IxR X (fun x y H Q => ∃ a v, x = .ref a ∧ DGet H a y (some v) ∧ Q v H) := by
  intro value slice pins s σ H x y v u Q I rx ry ⟨a, v', ex, g, q⟩ hs
  subst ex
  obtain rfl : v = Value.ref a := rx
  exact tail_any (dict_typeIs I g) PySem.F.slot_dict_getitem.lookup (d_getItem hu I g ry fun w' s3 I3 rw' => ⟨v', H, I3, rw', q⟩) hs
theorem ix_all (hu : X.A.units + 1 < cLine) : IxR X (rIdx X.K G) := by
  intro value slice pins s σ H x y v u Q I rx ry ⟨ρ, h, wx, wy, w, rl, r1, r2, e, q⟩ hs
  cases wx with
  | ref n =>
    cases hf : h.f n with
    | none => simp only [idxW, hf] at e; cases e
    | some ob =>
      cases ob with
      | lst ws => exact ix_W (G := G) value slice pins s σ H x y v u Q I rx ry ⟨ρ, h, _, wy, w, rl, r1, r2, e, ⟨ws, hf⟩, q⟩ hs
      | ins _ _ => simp only [idxW, hf] at e; cases e
      | dic lk kvs =>
        simp only [idxW, hf] at e
        obtain ⟨k, hk, e⟩ := opt_bind_some e
        obtain ⟨p, ep, rfl⟩ := r1
        obtain ⟨kvs', rk, rd⟩ := rl.dicR ep hf
        obtain ⟨rfl, _⟩ := key_rel r2 hk
        have hg := rk.get (k := k)
        rw [e] at hg
        cases hv : valV kvs' k with
        | none => rw [hv] at hg; exact hg.elim
        | some v' =>
          rw [hv] at hg
          exact ix_dic hu value slice pins s σ H _ _ v u Q I rx ry ⟨p, v', rfl, .inl ⟨kvs', k, rd, rfl, hv.symm⟩, q.now rl hg⟩ hs
  | tup ws => exact ix_W (G := G) value slice pins s σ H x y v u Q I rx ry ⟨ρ, h, _, wy, w, rl, r1, r2, e, trivial, q⟩ hs
  | lit ws => exact ix_W (G := G) value slice pins s σ H x y v u Q I rx ry ⟨ρ, h, _, wy, w, rl, r1, r2, e, trivial, q⟩ hs
  | fz ws => exact ix_W (G := G) value slice pins s σ H x y v u Q I rx ry ⟨ρ, h, _, wy, w, rl, r1, r2, e, trivial, q⟩ hs
  | str z => exact ix_W (G := G) value slice pins s σ H x y v u Q I rx ry ⟨ρ, h, _, wy, w, rl, r1, r2, e, trivial, q⟩ hs
  | non => cases e
  | bl _ => cases e
  | int _ => cases e
  | exn _ _ => cases e
theorem ev_idx (g : XG T M G c1 c2 X W) (ha : PE X x (lEx T G c1 c2 X W a)) (hb : PE X y (lEx T G c1 c2 X W b)) (oy : okX y = true) : PE X (.Subscript x y pos) (lEx T G c1 c2 X W (.idx a b)) := by
  refine PE.imp (pe_ix (ix_all (G := G) (by have := g.room; omega)) ha hb (plain_ok oy)) fun σ H Q ⟨ρ, s, h, rl, rs, out⟩ => ?_
  refine seqE rl rs (by simpa only [ev] using out) fun w1 h1 ρ1 H1 v1 l1 rl1 rs1 r1 o1 => ?_
  refine seqE rl1 rs1 (P := Fin X.K G ρ1 H1 Q) (outE l1 o1) fun w2 h2 ρ2 H2 v2 l2 rl2 rs2 r2 o2 => ?_
  obtain ⟨w, e, q⟩ := of_some ((outE l2 o2).noX R.of_noX)
  exact ⟨ρ2, h2, w1, w2, w, rl2, r1.mono l2, r2, e, q⟩
theorem ev_none : PO X none (lO X.K G W (evo T c1 c2 .nil)) := PO.imp po_none fun σ H Q ⟨ρ, s, h, rl, rs, out⟩ => out ρ H Le.refl rl
theorem ev_part (ha : PE X x (lEx T G c1 c2 X W a)) : PO X (some x) (lO X.K G W (evo T c1 c2 (.cons a .nil))) := by
  refine PO.imp (po_some ha) fun σ H Q ⟨ρ, s, h, rl, rs, out⟩ => ?_
  refine seqE rl rs (by simpa only [evo] using out) fun w1 h1 ρ1 H1 v1 l1 rl1 rs1 r1 o1 => ?_
  have o1 := outO l1 o1
  cases w1 with
  | int i => cases r1; exact ⟨i, rfl, o1 ρ1 H1 Le.refl rl1⟩
  | _ => exact o1.elim
theorem slcW_noX (w : VM.W) (lo hi : Option Int) (h : VH) (c : Nat) (v : VM.W) (h' : VH) : slcW w lo hi h ≠ .exc c v h' := by
  unfold slcW
  split <;> first | (intro z; cases z) | (split <;> (intro z; cases z))
theorem ev_slc {lo hi : E} {l u : Option Expr} {p2 : Pos} (ha : PE X x (lEx T G c1 c2 X W a)) (hl : PO X l (lO X.K G W (evo T c1 c2 lo))) (hh : PO X u (lO X.K G W (evo T c1 c2 hi))) :
    PE X (.Subscript x (.Slice l u none p2) pos) (lEx T G c1 c2 X W (.slc a lo hi)) := by
  refine PE.imp (pe_slice (sl_W (G := G)) ha hl hh) fun σ H Q ⟨ρ, s, h, rl, rs, out⟩ => ?_
  refine seqE rl rs (by simpa only [ev] using out) fun w1 h1 ρ1 H1 v1 l1 rl1 rs1 r1 o1 => ?_
  refine seqO rl1 rs1 (P := Fin X.K G ρ1 H1 Q) (outE l1 o1) fun i2 h2 ρ2 H2 l2 rl2 rs2 o2 => ?_
  refine seqO rl2 rs2 (P := Fin X.K G ρ2 H2 Q) (outE l2 o2) fun i3 h3 ρ3 H3 l3 rl3 rs3 o3 => ?_
  exact ⟨ρ3, h3, w1, rl3, (r1.mono l2).mono l3, (outE l3 o3).noX (slcW_noX w1 i2 i3 h3)⟩
/-! ### calls -/
def tCallX (r : List V → Hp → VK → XK → Prop) (W : WX) (t : TA) : TE := fun σ H Q => t σ H fun vs H1 => r vs H1 Q (WXs W σ)
theorem pe_callX {n : Str} {fa : Addr} {r : List V → Hp → VK → XK → Prop} {t : TA} {e : Expr} {es : List Expr} (hc : CallX X W (.ref fa) r) (hg : Gl X n) (hd : (n == ("__debug__" : Str)) = false) (hm : X.mg n = some (.ref fa)) (hk : PySem.W.keepIn X.K (.ref fa) = true)
    (ha : PA X (e :: es) t) (ox : (e :: es).all okX = true) : PE X (.Call (.Name n p) (e :: es) [] pos) (tCallX r W t) := by
  simp only [List.all_cons, Bool.and_eq_true] at ox
  refine ⟨fun pins s σ H Q I h => ?_⟩
  refine wpAny_Call_Name_kw (ld_glob I hg hm ?_ hd)
  refine PySem.W.callWith_K (h₀ := X.base) I.ok.mod.kin hk (thn (ha.run pos pins s σ H _ I h) fun us s1 ⟨vs, H1, I1, r, q⟩ => ⟨I1.kIn, ?_⟩) (star_ok ox.1) (stars_ok ox.2)
  exact hc pins s1 σ H1 vs us Q I1 r q
theorem pe_callX0 {n : Str} {fa : Addr} {r : List V → Hp → VK → XK → Prop} (hc : CallX X W (.ref fa) r) (hg : Gl X n) (hd : (n == ("__debug__" : Str)) = false) (hm : X.mg n = some (.ref fa)) (hk : PySem.W.keepIn X.K (.ref fa) = true) :
    PE X (.Call (.Name n p) [] [] pos) (fun σ H Q => r [] H Q (WXs W σ)) := by
  refine ⟨fun pins s σ H Q I h => ?_⟩
  refine wpAny_Call_Name_kw (ld_glob I hg hm ?_ hd)
  exact PySem.W.callWith_K0 I.kIn hk (hc pins s σ H [] [] Q I .nil h)
theorem form_ok {es : List Expr} {env : Env} {pos : Pos} (ox : es.all okX = true) (hl : es.length < 30) : methodCallForm (es.length + ([] : List Keyword).length) (backTo pos (starEach es env)) (backToKw pos (keywordEach [] env)) = true := by
  have h1 : (backTo pos (starEach es env)).all (fun x => !x.1) = true := by
    have := stars_ok (pos := pos) (env := env) ox
    rw [List.all_eq_true]
    intro x hx
    rw [List.any_eq_false] at this
    simpa using this x hx
  unfold methodCallForm
  rw [h1]
  simp only [keywordEach, backToKw, List.map_nil, List.all_nil, Bool.true_and, List.length_nil, Nat.add_zero, List.isEmpty_nil, if_true]
  exact decide_eq_true hl
theorem meth_eq {es : List Expr} {m : Str} (hn : noSup x = true) (ox : es.all okX = true) (hl : es.length < 30) (hp : (apos.endLine == pos.line) = true) : ∃ pl : Sem Bool, eval (.Call (.Attribute x m apos) es [] pos) X.env = (do
      let ov ← eval x X.env
      standAt apos.atName
      let (f, first) ← holding [ov] (getMethod ov m pl)
      callWith pos f first (backTo pos (starEach es X.env)) (backToKw pos (keywordEach [] X.env))) := by
  refine ⟨?_, ?_⟩
  rotate_left
  · show (do
      let ov ← attributeBase x m X.env (eval x X.env)
      standAt apos.atName
      methodCall x m apos pos X.env ov (es.length + ([] : List Keyword).length) (backTo pos (starEach es X.env)) (backToKw pos (keywordEach [] X.env))) = _
    rw [base_ok hn]
    unfold methodCall
    rw [form_ok ox hl]
    unfold methodCallPos
    simp only [hp, Bool.not_true, Bool.false_or, if_true]
    rfl
def tMethX (C : Addr) (m : Str) (r : List V → Hp → VK → XK → Prop) (W : WX) (ta : TE) (t : TA) : TE := fun σ H Q => ta σ H fun x H1 => ∃ a dx fs, x = .ref a ∧ H1 a = some (.ins C dx fs) ∧ fs.lookup m = none ∧
  t σ H1 fun vs H2 => r (x :: vs) H2 Q (WXs W σ)
theorem pe_methX {C fa : Addr} {m : Str} {r : List V → Hp → VK → XK → Prop} {ta : TE} {t : TA} {e : Expr} {es : List Expr} (hc : CallX X W (.ref fa) r) (he : PE X x ta) (c : Cls X.K C) (hm : Meth X.K C m fa) (hn : noSup x = true)
    (ha : PA X (e :: es) t) (ox0 : (e :: es).all okX = true) (hlen : (e :: es).length < 30) (hp : (apos.endLine == pos.line) = true) : PE X (.Call (.Attribute x m apos) (e :: es) [] pos) (tMethX C m r W ta t) := by
  have ox := ox0
  simp only [List.all_cons, Bool.and_eq_true] at ox
  refine ⟨fun pins s σ H Q I h => ?_⟩
  obtain ⟨pl, hpl⟩ := meth_eq (X := X) (m := m) hn ox0 hlen hp
  refine PySem.W.methodCall_KW (thn (he.run pins s σ H _ I h) fun u s1 ⟨x', H1, I1, rx, a, dx, fs, ex, ea, l, q⟩ => ?_) hpl
  subst ex
  obtain rfl : u = Value.ref a := rx
  refine getmeth_ok I1 ea c hm l ?_
  refine PySem.W.callWith_K (first := [.ref a]) (h₀ := X.base) I.ok.mod.kin hm.kp (thn (ha.run pos pins s1 σ H1 _ I1 q) fun us s2 ⟨vs, H2, I2, r, q2⟩ => ⟨I2.kIn, ?_⟩) (star_ok ox.1) (stars_ok ox.2)
  exact hc pins s2 σ H2 (.ref a :: vs) (.ref a :: us) Q I2 (.cons rfl r) q2
theorem pe_methX0 {C fa : Addr} {m : Str} {r : List V → Hp → VK → XK → Prop} {ta : TE} (hc : CallX X W (.ref fa) r) (he : PE X x ta) (c : Cls X.K C) (hm : Meth X.K C m fa) (hn : noSup x = true) (hp : (apos.endLine == pos.line) = true) :
    PE X (.Call (.Attribute x m apos) [] [] pos) (tMethX C m r W ta tNil) := by
  refine ⟨fun pins s σ H Q I h => ?_⟩
  obtain ⟨pl, hpl⟩ := meth_eq (X := X) (m := m) (es := []) hn rfl (by decide) hp
  refine PySem.W.methodCall_KW (thn (he.run pins s σ H _ I h) fun u s1 ⟨x', H1, I1, rx, a, dx, fs, ex, ea, l, q⟩ => ?_) hpl
  subst ex
  obtain rfl : u = Value.ref a := rx
  refine getmeth_ok I1 ea c hm l ?_
  exact PySem.W.callWith_K0 (first := [.ref a]) I1.kIn hm.kp (hc pins s1 σ H1 [.ref a] [.ref a] Q I1 (.cons rfl .nil) q)
end
end VM

set_option linter.all false
set_option autoImplicit false
set_option maxRecDepth 100000
set_option maxHeartbeats 4000000
/-! VM6c: calls of defs, methods, classes, built-ins. -/
namespace VM
open PySem PySem.Spec PyProof.Rows L2
section
variable {T : Tab} {M : Nms} {G : Sta} {c1 c2 : Nat → List VM.W → VH → R VM.W} {X : Cx} {W : WX}
variable {a b c es : E} {x y z : Expr} {xs : List Expr} {pos p apos : Pos}
theorem nil_of {N : List Str} {sc : Cs} (h : chkEs M N sc es [] = true) : es = .nil := by
  cases es <;> first | rfl | cases h
theorem ev_call (g : XG T M G c1 c2 X W) {f : Nat} (hne : M.fn f ≠ Str.empty) (hg : Gl X (M.fn f)) (hd : (M.fn f == ("__debug__" : Str)) = false) (ha : PA X xs (lA X.K G W (evs T c1 c2 es))) (ox : xs.all okX = true) (h0 : xs = [] → es = .nil) :
    PE X (.Call (.Name (M.fn f) p) xs [] pos) (lEx T G c1 c2 X W (.call f es)) := by
  obtain ⟨fa, hm, hk, hc⟩ := g.fn f hne
  cases xs with
  | nil =>
    obtain rfl := h0 rfl
    refine PE.imp (pe_callX0 hc hg hd hm hk) fun σ H Q ⟨ρ, s, h, rl, rs, out⟩ => ?_
    exact ⟨ρ, h, [], rl, rfl, by simpa only [ev, evs, R.bind_ok] using out⟩
  | cons e r =>
    refine PE.imp (pe_callX hc hg hd hm hk ha ox) fun σ H Q ⟨ρ, s, h, rl, rs, out⟩ => ?_
    refine seqA rl rs (by simpa only [ev] using out) fun w1 h1 ρ1 H1 v1 l1 rl1 rs1 r1 o1 => ?_
    exact ⟨ρ1, h1, w1, rl1, r1, outE l1 o1⟩
theorem ev_make (g : XG T M G c1 c2 X W) {f : Nat} (hne : M.cl f ≠ Str.empty) (hg : Gl X (M.cl f)) (hd : (M.cl f == ("__debug__" : Str)) = false) (ha : PA X xs (lA X.K G W (evs T c1 c2 es))) (ox : xs.all okX = true) (h0 : xs = [] → es = .nil) :
    PE X (.Call (.Name (M.cl f) p) xs [] pos) (lEx T G c1 c2 X W (.make f es)) := by
  obtain ⟨hm, hk, hc⟩ := g.mk_ f hne
  have key : ∀ s h, ev T c1 c2 (.make f es) s h = (evs T c1 c2 es s h).bind fun ws h1 => mkR T c2 f ws h1 := fun s h => by simp only [ev]; rfl
  cases xs with
  | nil =>
    obtain rfl := h0 rfl
    refine PE.imp (pe_callX0 hc hg hd hm hk) fun σ H Q ⟨ρ, s, h, rl, rs, out⟩ => ?_
    rw [key] at out
    exact ⟨ρ, h, [], rl, rfl, by simpa only [evs, R.bind_ok] using out⟩
  | cons e r =>
    refine PE.imp (pe_callX hc hg hd hm hk ha ox) fun σ H Q ⟨ρ, s, h, rl, rs, out⟩ => ?_
    rw [key] at out
    refine seqA rl rs out fun w1 h1 ρ1 H1 v1 l1 rl1 rs1 r1 o1 => ?_
    exact ⟨ρ1, h1, w1, rl1, r1, outE l1 o1⟩
theorem no_lookup {K : PySem.W.Frag} {ρ : Rho} {H : Hp} {m : Str} {cl : Nat} (hd : ∀ f, G.fl cl f = true → G.fnm f ≠ m) : ∀ {fs : List (Nat × VM.W)} {fs' : List (Str × V)}, RFs K G ρ H fs fs' → (∀ p ∈ fs, G.fl cl p.1 = true) → fs'.lookup m = none
  | _, _, .nil, _ => rfl
  | (k, x) :: fs, (n, v) :: fs', .cons p q, hf => by
    obtain ⟨e0, r⟩ := p
    have e1 : G.fnm k = n := e0
    subst e1
    rw [List.lookup_cons]
    have z2 : (m == G.fnm k) = false := by
      simp only [beq_eq_false_iff_ne]
      exact fun y => hd k (hf (k, x) (List.mem_cons_self ..)) y.symm
    rw [z2]
    exact no_lookup hd q fun p hp => hf p (List.mem_cons_of_mem _ hp)
theorem ev_meth (g : XG T M G c1 c2 X W) {m : Nat} (hne : M.mt m ≠ Str.empty) (ha : PE X x (lEx T G c1 c2 X W a)) (hn : noSup x = true) (hb : PA X xs (lA X.K G W (evs T c1 c2 es))) (ox : xs.all okX = true) (h0 : xs = [] → es = .nil) (hlen : xs.length < 30) (hp : (apos.endLine == pos.line) = true) :
    PE X (.Call (.Attribute x (M.mt m) apos) xs [] pos) (lEx T G c1 c2 X W (.meth a m es)) := by
  -- for each class that has the method
  have one : ∀ (cf : {q : Nat × Nat // T.meth q.1 m = some q.2}), PE X (.Call (.Attribute x (M.mt m) apos) xs [] pos) (fun σ H Q => tMethX (G.ca cf.1.1) (M.mt m) (rCall X.K G (c1 cf.1.2)) W (lEx T G c1 c2 X W a) (lA X.K G W (evs T c1 c2 es)) σ H Q) := by
    rintro ⟨⟨cl, f⟩, hq⟩
    obtain ⟨fa, cc, hm, hc⟩ := g.mt cl m f hq
    cases xs with
    | nil =>
      obtain rfl := h0 rfl
      refine PE.imp (pe_methX0 hc ha cc hm hn hp) fun σ H Q hyp => ?_
      obtain ⟨ρ, s, h, rl, rs, out⟩ := hyp
      refine ⟨ρ, s, h, rl, rs, out.imp (fun w h' fin ρ' H' v l r q => ?_) fun _ _ _ q => q⟩
      obtain ⟨a', dx, fs, e1, e2, e3, ρ2, s2, h2, rl2, rs2, out2⟩ := fin ρ' H' v l r q
      exact ⟨a', dx, fs, e1, e2, e3, out2 ρ2 H' [] Le.refl rl2 rfl⟩
    | cons e r => exact pe_methX hc ha cc hm hn hb ox hlen hp
  refine PE.imp (PE.any one) fun σ H Q ⟨ρ, s, h, rl, rs, out⟩ => ?_
  have key : ∀ s h, ev T c1 c2 (.meth a m es) s h = (ev T c1 c2 a s h).bind fun x h1 => match x with
    | .ref n => (match h1.f n with
      | some (.ins c _) => (match T.meth c m with
        | some f => (evs T c1 c2 es s h1).bind fun ws h2 => c1 f (.ref n :: ws) h2
        | none => .bad)
      | _ => .bad)
    | _ => .bad := fun s h => by simp only [ev]; try rfl
  rw [key] at out
  -- which class it is
  have pick : ∃ cf : {q : Nat × Nat // T.meth q.1 m = some q.2}, ∀ w h1, ev T c1 c2 a s h = .ok w h1 → ∃ n fs, w = .ref n ∧ h1.f n = some (.ins cf.1.1 fs) := by
    cases e : ev T c1 c2 a s h with
    | bad => rw [e] at out; exact out.elim
    | exc c w h1 =>
      obtain ⟨c', f', q⟩ := g.mts m hne
      exact ⟨⟨(c', f'), q⟩, fun w h1 z => by cases z⟩
    | ok w h1 =>
      rw [e] at out
      simp only [R.bind_ok] at out
      cases w with
      | ref n =>
        simp only at out
        cases e1 : h1.f n with
        | none => rw [e1] at out; exact out.elim
        | some o =>
          rw [e1] at out
          cases o with
          | ins c fs =>
            simp only at out
            cases e2 : T.meth c m with
            | none => rw [e2] at out; exact out.elim
            | some f => exact ⟨⟨(c, f), e2⟩, fun w h2 z => by cases z; exact ⟨n, fs, rfl, e1⟩⟩
          | _ => exact out.elim
      | _ => exact out.elim
  obtain ⟨cf, hcf⟩ := pick
  refine ⟨cf, ?_⟩
  have hd : ∀ f, G.fl cf.1.1 f = true → G.fnm f ≠ M.mt m := fun f hf => g.dis cf.1.1 m f (by rw [cf.2]; rfl) hf
  refine ⟨ρ, s, h, rl, rs, ?_⟩
  cases e : ev T c1 c2 a s h with
  | bad => rw [e] at out; exact out
  | exc c w h1 => rw [e] at out; exact out
  | ok w h1 =>
    rw [e] at out
    obtain ⟨n, fs, rfl, hf⟩ := hcf w h1 e
    intro ρ1 H1 v l1 rl1 r1
    obtain ⟨p', ep, rfl⟩ := r1
    simp only [R.bind_ok, hf, cf.2] at out
    obtain ⟨dx, fs', h2, rf, hfl⟩ := rl1.ins ep hf
    refine ⟨p', dx, fs', rfl, h2, no_lookup hd rf hfl, ?_⟩
    refine seqA rl1 (rs.le l1) (P := Fin X.K G ρ1 H1 Q) (outE l1 out) fun w2 h2 ρ2 H2 v2 l2 rl2 rs2 r2 o2 => ?_
    exact ⟨ρ2, h2, .ref n :: w2, rl2, RVs.cons ⟨p', l2.ext n p' ep, rfl⟩ r2, outE l2 o2⟩
end
end VM

set_option linter.all false
set_option autoImplicit false
set_option maxRecDepth 100000
set_option maxHeartbeats 4000000
/-! VM6d: calls of built-in functions and methods. -/
namespace VM
open PySem PySem.Spec PyProof.Rows L2
theorem biW_noX (b : Bi) (ws : List VM.W) (h : VH) (c : Nat) (w : VM.W) (h' : VH) : biW b ws h ≠ .exc c w h' := by
  unfold biW
  split <;> first | exact R.of_noX c w h' | (intro z; cases z) | (split <;> first | exact R.of_noX c w h' | (intro z; cases z) | (split <;> first | exact R.of_noX c w h' | (intro z; cases z)))
theorem boot_b (x : Str) (id : String) (h : bootBuiltins x = some (.builtin id)) : bootBuiltins x = some (.builtin id) := h
section
variable {T : Tab} {M : Nms} {G : Sta} {c1 c2 : Nat → List VM.W → VH → R VM.W} {X : Cx} {W : WX}
variable {a b c es : E} {x y z e : Expr} {xs : List Expr} {pos p apos : Pos} {id : String}
theorem toBi {b : Bi} {σ : L2.St} {H : Hp} {Q : VK} (h : lEx T G c1 c2 X W (.bi b es) σ H Q) : tCB (rBi X.K G b) (lA X.K G W (evs T c1 c2 es)) σ H Q := by
  obtain ⟨ρ, s, h, rl, rs, out⟩ := h
  refine seqA rl rs (by simpa only [ev] using out) fun w1 h1 ρ1 H1 v1 l1 rl1 rs1 r1 o1 => ?_
  exact ⟨ρ1, h1, w1, rl1, r1, (outE l1 o1).noX (biW_noX _ _ _)⟩
theorem ev_biB {b : Bi} (hc : CallR X (.builtin id) (rBi X.K G b)) (hv : bootBuiltins (biN b) = some (.builtin id)) (hm : X.mg (biN b) = none) (hg : Gl X (biN b)) (hn : biN b ≠ "__name__") (hd : (biN b == ("__debug__" : Str)) = false)
    (ha : PA X (e :: xs) (lA X.K G W (evs T c1 c2 es))) (ox : (e :: xs).all okX = true) : PE X (.Call (.Name (biN b) p) (e :: xs) [] pos) (lEx T G c1 c2 X W (.bi b es)) := by
  simp only [List.all_cons, Bool.and_eq_true] at ox
  exact PE.imp (pe_callB hc hg hm hv ha hn hd (star_ok ox.1) (stars_ok ox.2)) fun σ H Q => toBi
theorem ev_biT {b : Bi} (hc : CallR X (.type id) (rBi X.K G b)) (hv : bootBuiltins (biN b) = some (.type id)) (hm : X.mg (biN b) = none) (hg : Gl X (biN b)) (hn : biN b ≠ "__name__") (hd : (biN b == ("__debug__" : Str)) = false)
    (ha : PA X (e :: xs) (lA X.K G W (evs T c1 c2 es))) (ox : (e :: xs).all okX = true) : PE X (.Call (.Name (biN b) p) (e :: xs) [] pos) (lEx T G c1 c2 X W (.bi b es)) := by
  simp only [List.all_cons, Bool.and_eq_true] at ox
  exact PE.imp (pe_callTy hc hg hm hv ha hn hd (star_ok ox.1) (stars_ok ox.2)) fun σ H Q => toBi
theorem ev_bi (g : XG T M G c1 c2 X W) {b : Bi} (hA : biA b = some xs.length) (hg : Gl X (biN b)) (ha : PA X xs (lA X.K G W (evs T c1 c2 es))) (ox : xs.all okX = true) :
    PE X (.Call (.Name (biN b) p) xs [] pos) (lEx T G c1 c2 X W (.bi b es)) := by
  have fr : ∀ {b : Bi}, biN b ∈ bNames → X.mg (biN b) = none := fun h => g.free _ h
  cases xs with
  | nil => cases b <;> cases hA
  | cons e r =>
    cases b with
    | len => exact ev_biB bi_len (by decide +kernel) (g.free _ (by decide)) hg (by decide) (by decide) ha ox
    | abs => exact ev_biB bi_abs (by decide +kernel) (g.free _ (by decide)) hg (by decide) (by decide) ha ox
    | max2 => exact ev_biB (bi_max2 g.calm) (by decide +kernel) (g.free _ (by decide)) hg (by decide) (by decide) ha ox
    | min2 => exact ev_biB (bi_min2 g.calm) (by decide +kernel) (g.free _ (by decide)) hg (by decide) (by decide) ha ox
    | max1 => exact ev_biB (bi_max1 g.calm) (by decide +kernel) (g.free _ (by decide)) hg (by decide) (by decide) ha ox
    | min1 => exact ev_biB (bi_min1 g.calm) (by decide +kernel) (g.free _ (by decide)) hg (by decide) (by decide) ha ox
    | sum => exact ev_biB (bi_sum g.calm) (by decide +kernel) (g.free _ (by decide)) hg (by decide) (by decide) ha ox
    | all => exact ev_biB (bi_all g.calm) (by decide +kernel) (g.free _ (by decide)) hg (by decide) (by decide) ha ox
    | any => exact ev_biB (bi_any g.calm) (by decide +kernel) (g.free _ (by decide)) hg (by decide) (by decide) ha ox
    | int => exact ev_biT bi_int (by decide +kernel) (g.free _ (by decide)) hg (by decide) (by decide) ha ox
    | str => exact ev_biT bi_str (by decide +kernel) (g.free _ (by decide)) hg (by decide) (by decide) ha ox
    | tuple => exact ev_biT bi_tuple (by decide +kernel) (g.free _ (by decide)) hg (by decide) (by decide) ha ox
    | list => exact ev_biT bi_list (by decide +kernel) (g.free _ (by decide)) hg (by decide) (by decide) ha ox
    | sorted => exact ev_biB (bi_sorted g.room) (by decide +kernel) (g.free _ (by decide)) hg (by decide) (by decide) ha ox
    | dict => exact ev_biT (bi_dict g.calm) (by decide +kernel) (g.free _ (by decide)) hg (by decide) (by decide) ha ox
    | sortedD => cases hA
    | lenset => cases hA
    | sortedset => cases hA
    | listrange _ => cases hA
    | isinst _ => cases hA
/-! ### isinstance(x, T) -/
theorem ty_boot (t : Ty) : bootBuiltins (Str.ofString (tyN t)) = some (.type (tyN t)) := by cases t <;> decide +kernel
theorem rv_ty {K : PySem.W.Frag} {ρ : Rho} {H : Hp} {h : VH} {w : VM.W} {v : V} {t : Ty} {r : Bool} (rl : Rl K G ρ h H) (rv : RV K ρ H w v) (e : isInst t h w = some r) : ∃ n : String, TyX K H v (.type n) ∧ kitB n (tyN t) = some r := by
  unfold isInst at e
  split at e
  · cases rv; cases e; exact ⟨_, .base .non, by cases t <;> decide +kernel⟩
  · cases rv; cases e; exact ⟨_, .base (.bl _), by cases t <;> decide +kernel⟩
  · cases rv; cases e; exact ⟨_, .base (.int _), by cases t <;> decide +kernel⟩
  · obtain ⟨rfl, _⟩ := rv; cases e; exact ⟨_, .base (.str _), by cases t <;> decide +kernel⟩
  · obtain ⟨a, vs, rfl, k, _⟩ := rv
    cases e
    rcases k with k | ⟨o, its, n, h1, h2, _⟩
    · exact ⟨_, .base (.tup k), by cases t <;> decide +kernel⟩
    · exact ⟨_, .kTuple h1 h2, by cases t <;> decide +kernel⟩
  · obtain ⟨p, ep, rfl⟩ := rv
    split at e
    · rename_i hf
      cases e
      obtain ⟨vs, h1, _⟩ := rl.lst ep hf
      exact ⟨_, .base (.lst h1), by cases t <;> decide +kernel⟩
    · rename_i lk kvs hf
      cases e
      obtain ⟨kvs', _, q⟩ := rl.dic ep hf
      cases lk with
      | true => obtain ⟨o, q⟩ := q; exact ⟨_, .fDict q, by cases t <;> decide +kernel⟩
      | false => exact ⟨_, .base (.dK q), by cases t <;> decide +kernel⟩
    · cases e
  · cases e
  · cases e
  · obtain ⟨a, vs, rfl, ⟨o, k⟩, _⟩ := rv
    cases e
    exact ⟨_, .base (.frz k), by cases t <;> decide +kernel⟩
theorem ev_isinst (g : XG T M G c1 c2 X W) {t : Ty} {p2 : Pos} (hg : Gl X "isinstance") (hg2 : Gl X (Str.ofString (tyN t))) (ha : PE X x (lEx T G c1 c2 X W a)) (ox : okX x = true) :
    PE X (.Call (.Name "isinstance" p) [x, .Name (Str.ofString (tyN t)) p2] [] pos) (lEx T G c1 c2 X W (.bi (.isinst t) (.cons a .nil))) := by
  have hty : PE X (.Name (Str.ofString (tyN t)) p2) (tC (.ty (tyN t))) := pe_bltn hg2 (g.free _ (by cases t <;> decide)) (ty_boot t) rfl (by cases t <;> decide) (by cases t <;> decide)
  refine PE.imp (pe_callB call_isi hg (g.free _ (by decide)) (by decide +kernel) (pa_cons ha (pa_cons hty pa_nil rfl) (star_ok ox)) (by decide) (by decide) (star_ok ox) rfl) fun σ H Q ⟨ρ, s, h, rl, rs, out⟩ => ?_
  have key : ∀ s h, ev T c1 c2 (.bi (.isinst t) (.cons a .nil)) s h = (ev T c1 c2 a s h).bind fun x h1 => R.of h1 ((isInst t h1 x).map VM.W.bl) := fun s h => by
    simp only [ev, evs, R.bind_bind]
    rfl
  rw [key] at out
  refine seqE rl rs out fun w1 h1 ρ1 H1 v1 l1 rl1 rs1 r1 o1 => ?_
  obtain ⟨w, e0, q⟩ := of_some ((outE l1 o1).noX R.of_noX)
  obtain ⟨r, e, rfl⟩ := opt_map_some e0
  obtain ⟨n, ty, k⟩ := rv_ty rl1 r1 e
  exact ⟨v1, .ty (tyN t), .type n, .type (tyN t), r, rfl, .ty _, ty, kit_ty k, q.now rl1 rfl⟩
end
end VM

set_option linter.all false
set_option autoImplicit false
set_option maxRecDepth 100000
set_option maxHeartbeats 4000000
/-! VM6e: methods of lists and texts; len(set(..)), list(range(..)), [::-1]. -/
namespace VM
open PySem PySem.Spec PyProof.Rows L2
theorem bmW_noX (b : Bm) (a : VM.W) (ws : List VM.W) (h : VH) (c : Nat) (w : VM.W) (h' : VH) : bmW b a ws h ≠ .exc c w h' := by
  unfold bmW
  split <;> first | exact R.of_noX c w h' | (intro z; cases z) | (split <;> first | exact R.of_noX c w h' | (intro z; cases z) | (split <;> first | exact R.of_noX c w h' | (intro z; cases z) | (split <;> first | exact R.of_noX c w h' | (intro z; cases z))))
def rBm (K : PySem.W.Frag) (G : Sta) (m : Bm) : V → List V → Hp → VK → Prop := fun x xs H Q => ∃ ρ h w ws, Rl K G ρ h H ∧ RV K ρ H w x ∧ RVs K ρ H ws xs ∧ OutR (Fin K G ρ H Q) (fun _ _ _ => False) (bmW m w ws h)
section
variable {T : Tab} {M : Nms} {G : Sta} {c1 c2 : Nat → List VM.W → VH → R VM.W} {X : Cx} {W : WX}
variable {a b c es : E} {x y z e : Expr} {xs : List Expr} {pos p apos : Pos} {id : String}
theorem bm_append : MtR X "list.append" (rBm X.K G .append) := by
  intro pins s σ H x xs v us Q I rx rs ⟨ρ, h, w, ws, rl, r, rw, out⟩
  cases w <;> (rcases ws with _ | ⟨w', _ | ⟨w2, ws2⟩⟩) <;> first | exact False.elim out | skip
  rename_i n
  have out : OutR (Fin X.K G ρ H Q) (fun _ _ _ => False) (match h.f n with
    | some (.lst xs) => if xs.length < 16777216 then .ok .non (h.set n (.lst (xs ++ [w']))) else .bad
    | _ => .bad) := out
  split at out <;> first | exact out.elim | skip
  split at out <;> first | exact out.elim | skip
  rename_i ys hf hz
  obtain ⟨a, ea, rfl⟩ := r
  obtain ⟨v', rfl, rv⟩ := rw.one
  obtain ⟨vs, h1, qs⟩ := rl.lst ea hf
  exact mt_append pins s σ H _ _ v us Q I rx rs ⟨a, vs, v', rfl, rfl, h1, by rw [sizeLine_eq, ← qs.len]; exact hz, Fin.setL out rl ea h1 (qs.app ⟨v', [], rfl, rv, rfl⟩) rfl⟩
theorem mt_extendL : MtM X "list.extend" (fun x vs H Q => ∃ l b xs zs, x = .ref l ∧ vs = [.ref b] ∧ H l = some (.lst xs) ∧ Rd H b (.lst zs) ∧ xs.length + zs.length ≤ sizeLine ∧ Q .non (upd H l (.lst (xs ++ zs)))) := by
  intro pins s σ H x vs v us Q I rx rv h
  obtain ⟨l, b, xs, zs, rfl, rfl, hH, hB, hz, q⟩ := h
  cases rx
  obtain ⟨u, rfl, ru⟩ := rv.one
  cases ru
  obtain ⟨z, its, n, r, hl, e⟩ := I.lstM hH
  obtain ⟨z2, its2, n2, r2, e2⟩ := hB.ok I.hok
  have hl2 := r2.length
  have hsz : its.toArray.size + its2.toArray.size ≤ sizeLine := by rw [List.size_toArray, List.size_toArray]; omega
  have hlong : ¬ (!its.toArray.isEmpty && Builtin.List.listTooLong (its.toArray.size + its2.toArray.size)) = true := by
    rw [notLongL hsz, Bool.and_false]
    exact Bool.false_ne_true
  refine call_meets F.slot_list_extend ⟨_, e, rfl⟩ F.entry_list_extend (F.args_list_extend_2 _ _)
    (AutoSeq1.list_extend_list_list_0 l its.toArray n b its2.toArray n2 hlong (by rw [List.size_toArray]; omega) (by omega)) ⟨e, e2, ?_⟩
  refine ⟨.non, _, I.lset (its' := its ++ its2) hH e (by simp) (r.append r2) ?_, rfl, q⟩
  rw [List.length_append]
  omega
theorem bm_extend : MtR X "list.extend" (rBm X.K G .extend) := by
  intro pins s σ H x xs v us Q I rx rs ⟨ρ, h, w, ws, rl, r, rw, out⟩
  cases w <;> (rcases ws with _ | ⟨w', _ | ⟨w2, ws2⟩⟩) <;> first | exact False.elim out | skip
  rename_i n
  have out : OutR (Fin X.K G ρ H Q) (fun _ _ _ => False) (match h.f n, lstW h w' with
    | some (.lst xs), some ys => if xs.length + ys.length ≤ 16777216 then .ok .non (h.set n (.lst (xs ++ ys))) else .bad
    | _, _ => .bad) := out
  split at out <;> first | exact out.elim | skip
  split at out <;> first | exact out.elim | skip
  rename_i ys zs hf hg hz
  obtain ⟨a, ea, rfl⟩ := r
  obtain ⟨v', rfl, rv⟩ := rw.one
  obtain ⟨b, vs2, rfl, h2, qs2⟩ := lstW_rel rl rv hg
  obtain ⟨vs, h1, qs⟩ := rl.lst ea hf
  exact mt_extendL pins s σ H _ _ v us Q I rx rs ⟨a, b, vs, vs2, rfl, rfl, h1, h2, by rw [sizeLine_eq, ← qs.len, ← qs2.len]; exact hz, Fin.setL out rl ea h1 (qs.app qs2) rfl⟩
theorem getLast_ix {α : Type} (xs : List α) : xs.getLast? = xs[xs.length - 1]? := by
  rw [List.getLast?_eq_getElem?]
theorem bm_pop : MtR X "list.pop" (rBm X.K G .pop) := by
  intro pins s σ H x xs v us Q I rx rs ⟨ρ, h, w, ws, rl, r, rw, out⟩
  cases w <;> (rcases ws with _ | ⟨w', _ | ⟨w2, ws2⟩⟩) <;> first | exact False.elim out | skip
  rename_i n
  have out : OutR (Fin X.K G ρ H Q) (fun _ _ _ => False) (match h.f n with
    | some (.lst xs) => match xs.getLast? with
      | some w => .ok w (h.set n (.lst xs.dropLast))
      | none => .bad
    | _ => .bad) := out
  split at out <;> first | exact out.elim | skip
  split at out <;> first | exact out.elim | skip
  rename_i ys hf _ w' hz
  obtain ⟨a, ea, rfl⟩ := r
  cases rw
  obtain ⟨vs, h1, qs⟩ := rl.lst ea hf
  rw [getLast_ix, qs.len] at hz
  obtain ⟨v', e1, rv⟩ := qs.get hz
  exact mt_pop pins s σ H _ _ v us Q I rx rs ⟨a, vs, v', rfl, rfl, h1, e1, Fin.setL out rl ea h1 qs.dropLast rv⟩
theorem bm_popAt : MtR X "list.pop" (rBm X.K G .popAt) := by
  intro pins s σ H x xs v us Q I rx rs ⟨ρ, h, w, ws, rl, r, rw, out⟩
  cases w <;> (rcases ws with _ | ⟨w', _ | ⟨w2, ws2⟩⟩) <;> first | exact False.elim out | (cases w' <;> exact False.elim out) | skip
  rename_i n
  cases w' <;> first | exact False.elim out | skip
  rename_i i
  have out : OutR (Fin X.K G ρ H Q) (fun _ _ _ => False) (match h.f n with
    | some (.lst xs) => if 0 ≤ i ∧ i < (xs.length : Int) ∧ i < 2 ^ 60 then (match xs[i.toNat]? with
      | some w => .ok w (h.set n (.lst (xs.eraseIdx i.toNat)))
      | none => .bad) else .bad
    | _ => .bad) := out
  split at out <;> first | exact out.elim | skip
  split at out <;> first | exact out.elim | skip
  split at out <;> first | exact out.elim | skip
  rename_i ys hf hz _ w' hw
  obtain ⟨a, ea, rfl⟩ := r
  obtain ⟨v', rfl, rv⟩ := rw.one
  cases rv
  obtain ⟨vs, h1, qs⟩ := rl.lst ea hf
  obtain ⟨v', e1, rv⟩ := qs.get hw
  obtain ⟨z0, z1, z2⟩ := hz
  have hl := qs.len
  refine mt_popAt pins s σ H _ _ v us Q I rx rs ⟨a, vs, i, i.toNat, v', rfl, rfl, h1, by omega, by omega, ?_, e1, Fin.setL out rl ea h1 (qs.erase _) rv⟩
  unfold seqIndex?
  have h1 : ¬ i < 0 := by omega
  simp only [h1, if_false]
  rw [if_pos (by simp only [Bool.and_eq_true, decide_eq_true_eq]; exact ⟨z0, by omega⟩)]
theorem idxOf_some {ds : List PyData} {d : PyData} {k : Nat} (h : ds.findIdx? (fun z => PyData.eqv z d) = some k) : ∃ z, ds[k]? = some z ∧ PyData.eqv z d = true ∧ ∀ (m : Nat) (z' : PyData), m < k → ds[m]? = some z' → PyData.eqv z' d = false := by
  rw [List.findIdx?_eq_some_iff_getElem] at h
  obtain ⟨hk, h1, h2⟩ := h
  refine ⟨ds[k], List.getElem?_eq_getElem hk, h1, fun m z' hm e => ?_⟩
  have := h2 m hm
  rw [List.getElem?_eq_getElem (by omega)] at e
  cases e
  simpa using this
theorem bm_index (hu : X.A.units + 65 < cLine) : MtR X "list.index" (rBm X.K G .index) := by
  intro pins s σ H x xs v us Q I rx rs ⟨ρ, h, w, ws, rl, r, rw, out⟩
  rcases ws with _ | ⟨w', _ | ⟨w2, ws2⟩⟩
  · cases w <;> exact False.elim out
  · have out : OutR (Fin X.K G ρ H Q) (fun _ _ _ => False) (R.of h (((lstW h w).bind (idxOf h w')).map fun n => VM.W.int (n : Nat))) := by cases w <;> exact out
    obtain ⟨w2, e0, q⟩ := of_some out
    obtain ⟨k, e, rfl⟩ := opt_map_some e0
    obtain ⟨ys, e1, e2⟩ := opt_bind_some e
    unfold idxOf at e2
    split at e2
    · rename_i d ds hd hds
      split at e2
      · rename_i hs
        simp only [Bool.and_eq_true] at hs
        obtain ⟨s1, s2⟩ := hs
        obtain ⟨z, z1, z2, z3⟩ := idxOf_some e2
        obtain ⟨v', rfl, rv⟩ := rw.one
        obtain ⟨a, vs, rfl, h1, qs⟩ := lstW_rel rl r e1
        obtain ⟨p1, c1⟩ := rv.dp rl hd
        obtain ⟨p2, c2⟩ := qs.dp rl hds
        refine mt_indexD hu pins s σ H _ _ v us Q I rx rs ⟨a, v', d, ds, k, z, rfl, rfl, .lst (.inl h1) p2, p1, ?_, ?_, z1, z2, z3, q.now rl rfl⟩
        · exact shaped_list c2 s2
        · exact shaped_of c1 s1
      · cases e2
    · cases e2
  · cases w <;> exact False.elim out
theorem strOk_app {s t : Str} (a : PyData.strOk s = true) (b : PyData.strOk t = true) : PyData.strOk (s ++ t) = true := by
  unfold PyData.strOk at *
  show ((s.cps ++ t.cps).all _) = true
  rw [Array.all_append, a, b]; rfl
theorem str_len_app (s t : Str) : (s ++ t).length = s.length + t.length := by
  show (s.cps ++ t.cps).size = _
  rw [Array.size_append]; rfl
theorem join_ok {y : Str} (k : SOk y) : ∀ {parts : List Str}, (∀ s ∈ parts, SOk s) → PyData.strOk (Str.join y parts) = true ∧ (Str.join y parts).length ≤ (parts.map (·.length)).sum + parts.length * y.length
  | [], _ => ⟨by unfold Str.join; simp [Str.empty, PyData.strOk], by unfold Str.join; exact Nat.zero_le _⟩
  | [p], h => ⟨(h p (List.mem_singleton.mpr rfl)).1, by
    show p.length ≤ _
    simp⟩
  | p :: q :: r, h => by
    obtain ⟨a, b⟩ := join_ok k (parts := q :: r) fun s hs => h s (List.mem_cons_of_mem _ hs)
    have hp := h p (List.mem_cons_self ..)
    refine ⟨strOk_app (strOk_app hp.1 k.1) a, ?_⟩
    show (p ++ y ++ Str.join y (q :: r)).length ≤ _
    rw [str_len_app, str_len_app]
    simp only [List.map_cons, List.sum_cons, List.length_cons, Nat.add_mul, Nat.one_mul] at b ⊢
    omega
theorem SOk.join {y : Str} {parts : List Str} (k : SOk y) (h : ∀ s ∈ parts, SOk s) (hz : (parts.map (·.length)).sum + parts.length * y.length ≤ 16777216) : SOk (Txt.join y parts) := by
  rw [TL.join_eq]
  obtain ⟨a, b⟩ := join_ok k h
  exact ⟨a, Nat.le_trans b hz⟩
theorem bm_join : MtR X "str.join" (rBm X.K G .join) := by
  intro pins s σ H x xs v us Q I rx rs ⟨ρ, h, w, ws, rl, r, rw, out⟩
  cases w <;> (rcases ws with _ | ⟨w', _ | ⟨w2, ws2⟩⟩) <;> first | exact False.elim out | skip
  rename_i z
  have out : OutR (Fin X.K G ρ H Q) (fun _ _ _ => False) (match (seqW h w').bind strsW with
    | some ys => if (ys.map (·.length)).sum + ys.length * z.length ≤ 16777216 then .ok (.str (Txt.join z ys)) h else .bad
    | none => .bad) := out
  split at out <;> first | exact out.elim | skip
  split at out <;> first | exact out.elim | skip
  rename_i ys e hz
  obtain ⟨rfl, k⟩ := r
  obtain ⟨v', rfl, rv⟩ := rw.one
  obtain ⟨ws', e1, e2⟩ := opt_bind_some e
  obtain ⟨a, vs, rfl, t, qs⟩ := seqW_some rl rv e1
  obtain ⟨rfl, ok⟩ := qs.strs e2
  exact mt_join pins s σ H _ _ v us Q I rx rs ⟨z, a, ys, rfl, rfl, t.imp id TupAt.sq, hz, Fin.now out rl ⟨rfl, SOk.join k ok hz⟩⟩
theorem bm_upper : MtR X "str.upper" (rBm X.K G .upper) := by
  intro pins s σ H x xs v us Q I rx rs ⟨ρ, h, w, ws, rl, r, rw, out⟩
  cases w <;> (rcases ws with _ | ⟨w', _ | ⟨w2, ws2⟩⟩) <;> first | exact False.elim out | skip
  rename_i z
  have out : OutR (Fin X.K G ρ H Q) (fun _ _ _ => False) (if z.length ≤ 5592405 ∧ (PyData.strOk (Txt.upper z) = true ∧ (Txt.upper z).length ≤ 16777216) then .ok (.str (Txt.upper z)) h else .bad) := out
  split at out <;> first | exact out.elim | skip
  rename_i hz
  obtain ⟨rfl, k⟩ := r
  cases rw
  exact mt_upper pins s σ H _ _ v us Q I rx rs ⟨z, rfl, rfl, hz.1, Fin.now out rl ⟨rfl, hz.2⟩⟩
/-! ### calls of methods -/
def bmT (m : Bm) : String := match m with
    | .join => "str" | .split => "str" | .upper => "str" | .popKey => "dict" | .get1 => "dict" | .get2 => "dict" | .update => "dict" | _ => "list"
theorem ty_of {m : Bm} {ρ : Rho} {H : Hp} {h : VH} {w : VM.W} {v : V} {T' : String} (rl : Rl X.K G ρ h H) (r : RV X.K ρ H w v) (e : bmK m w h = true) (hT : T' = bmT m) : tyV X.K T' v H := by
  subst hT
  have sq : ∀ {n : Nat} {a : Addr}, ρ n = some a → ((h.f n).bind Ob.items).isSome = true → (∃ xs, SqL X.K H a xs) := fun {n a} ea e => by
    cases hf : h.f n with
    | none => rw [hf] at e; cases e
    | some o => rw [hf] at e; cases o with
      | lst ws => obtain ⟨vs, h1, _⟩ := rl.lst ea hf; exact ⟨vs, SqL.of h1⟩
      | dic _ _ => cases e
      | ins _ _ => cases e
  have dc : ∀ {n : Nat} {a : Addr}, ρ n = some a → (match h.f n with | some (.dic false _) => true | _ => false) = true → ∃ kvs, H a = some (.dK kvs) := fun {n a} ea e => by
    split at e
    · rename_i hf
      obtain ⟨kvs', _, q⟩ := rl.dic ea hf
      exact ⟨kvs', q⟩
    · cases e
  cases m <;> cases w <;> first | (cases e; done) | skip
  all_goals first
    | (obtain ⟨rfl, _⟩ := r; rfl)
    | (obtain ⟨a, vs, rfl, z, _⟩ := r; exact .inl ⟨rfl, vs, .inl (.inr z)⟩)
    | (obtain ⟨a, ea, rfl⟩ := r; exact .inl ⟨rfl, sq ea e⟩)
    | (obtain ⟨a, ea, rfl⟩ := r; exact .inr (.inr (.inl ⟨rfl, .inl (dc ea e)⟩)))
theorem toBm {m : Bm} {σ : L2.St} {H : Hp} {Q : VK} {T' : String} (hT : T' = bmT m)
    (h : lEx T G c1 c2 X W (.bm a m es) σ H Q) : tBM X.K T' (rBm X.K G m) (lEx T G c1 c2 X W a) (lA X.K G W (evs T c1 c2 es)) σ H Q := by
  obtain ⟨ρ, s, h, rl, rs, out⟩ := h
  refine seqE rl rs (by simpa only [ev] using out) fun w1 h1 ρ1 H1 v1 l1 rl1 rs1 r1 o1 => ?_
  have o1 := outE l1 o1
  split at o1
  · rename_i hk
    refine ⟨ty_of rl1 r1 hk hT, seqA rl1 rs1 o1 fun w2 h2 ρ2 H2 v2 l2 rl2 rs2 r2 o2 => ?_⟩
    exact ⟨ρ2, h2, w1, w2, rl2, r1.mono l2, r2, (outE l2 o2).noX (bmW_noX _ _ _ _)⟩
  · exact o1.elim
theorem ev_bmG {m : Bm} {T' : String} (hT : T' = bmT m) (pa : PlainAttrs T') (slot : Slot T' (bmN m) id) (hty : typeOf (.builtin id) = pure (.type "method_descriptor"))
    (hm : MtR X id (rBm X.K G m)) (ho : PE X x (lEx T G c1 c2 X W a)) (ha : PA X (e :: xs) (lA X.K G W (evs T c1 c2 es))) (ox : (e :: xs).all okX = true) (hn : noSup x = true) (hl : (e :: xs).length < 30) (hp : (apos.endLine == pos.line) = true) :
    PE X (.Call (.Attribute x (bmN m) apos) (e :: xs) [] pos) (lEx T G c1 c2 X W (.bm a m es)) := by
  have ox' := ox
  simp only [List.all_cons, Bool.and_eq_true] at ox'
  refine PE.imp (pe_bm pa slot hty hm ho ha (base_ok hn) ?_ hp (star_ok ox'.1) (stars_ok ox'.2)) fun σ H Q => toBm hT
  have := form_ok (env := X.env) (pos := pos) ox hl
  exact this
theorem ev_bmG0 {m : Bm} {T' : String} (hT : T' = bmT m) (pa : PlainAttrs T') (slot : Slot T' (bmN m) id) (hty : typeOf (.builtin id) = pure (.type "method_descriptor"))
    (hm : MtR X id (rBm X.K G m)) (ho : PE X x (lEx T G c1 c2 X W a)) (hn : noSup x = true) (hp : (apos.endLine == pos.line) = true) :
    PE X (.Call (.Attribute x (bmN m) apos) [] [] pos) (lEx T G c1 c2 X W (.bm a m .nil)) := by
  refine PE.imp (pe_bm0 pa slot hty hm ho (base_ok hn) hp) fun σ H Q h => ?_
  obtain ⟨ρ, s, h, rl, rs, out⟩ := toBm hT h
  refine ⟨ρ, s, h, rl, rs, out.imp (fun w h' fin ρ' H' v l r q => ?_) fun _ _ _ q => q⟩
  obtain ⟨ty, ρ2, s2, h2, rl2, rs2, out2⟩ := fin ρ' H' v l r q
  exact ⟨ty, out2 ρ2 H' [] Le.refl rl2 rfl⟩
theorem ev_bm (g : XG T M G c1 c2 X W) {m : Bm} (hA : bmA m = some xs.length) (ho : PE X x (lEx T G c1 c2 X W a)) (ha : PA X xs (lA X.K G W (evs T c1 c2 es))) (h0 : xs = [] → es = .nil) (ox : xs.all okX = true) (hn : noSup x = true) (hp : (apos.endLine == pos.line) = true) :
    PE X (.Call (.Attribute x (bmN m) apos) xs [] pos) (lEx T G c1 c2 X W (.bm a m es)) := by
  cases xs with
  | nil =>
    obtain rfl := h0 rfl
    cases m with
    | pop => exact ev_bmG0 rfl PySem.F.plainAttrs_list PySem.F.slot_list_pop PySem.F.type_list_pop bm_pop ho hn hp
    | upper => exact ev_bmG0 rfl PySem.F.plainAttrs_str PySem.F.slot_str_upper PySem.F.type_str_upper bm_upper ho hn hp
    | _ => cases hA
  | cons e r =>
    have hr : r = [] := by
      cases r with
      | nil => rfl
      | cons _ _ => cases m <;> simp [bmA] at hA
    subst hr
    cases m with
    | append => exact ev_bmG rfl PySem.F.plainAttrs_list PySem.F.slot_list_append PySem.F.type_list_append bm_append ho ha ox hn (by simp) hp
    | extend => exact ev_bmG rfl PySem.F.plainAttrs_list PySem.F.slot_list_extend PySem.F.type_list_extend bm_extend ho ha ox hn (by simp) hp
    | popAt => exact ev_bmG rfl PySem.F.plainAttrs_list PySem.F.slot_list_pop PySem.F.type_list_pop bm_popAt ho ha ox hn (by simp) hp
    | index => exact ev_bmG rfl PySem.F.plainAttrs_list PySem.F.slot_list_index PySem.F.type_list_index (bm_index (by have := g.room; omega)) ho ha ox hn (by simp) hp
    | join => exact ev_bmG rfl PySem.F.plainAttrs_str PySem.F.slot_str_join PySem.F.type_str_join bm_join ho ha ox hn (by simp) hp
    | _ => cases hA
/-! ### len(set(xs)), list(range(..)) -/
theorem keys_of {K : PySem.W.Frag} {ρ : Rho} {H : Hp} : ∀ {ws : List VM.W} {vs : List V}, RVs K ρ H ws vs → (ws.all fun w => (keyW w).isSome) = true → vs = (ws.filterMap keyW).map kV
  | [], _, r, _ => by cases r; rfl
  | w :: ws, _, ⟨v, r, hv, a, b⟩, e => by
    subst hv
    simp only [List.all_cons, Bool.and_eq_true] at e
    have ih := keys_of b e.2
    cases w with
    | int i => cases a; simp only [List.filterMap_cons, keyW, List.map_cons]; rw [← ih]; rfl
    | str i => obtain ⟨rfl, _⟩ := a; simp only [List.filterMap_cons, keyW, List.map_cons]; rw [← ih]; rfl
    | _ => simp [keyW] at e
theorem filterMap_len {ws : List VM.W} : (ws.filterMap keyW).length ≤ ws.length := List.length_filterMap_le ..
theorem ev_lenset (g : XG T M G c1 c2 X W) {p2 q : Pos} (hg : Gl X "len") (hg2 : Gl X "set") (ha : PE X x (lEx T G c1 c2 X W a)) (ox : okX x = true) :
    PE X (.Call (.Name "len" p) [.Call (.Name "set" p2) [x] [] q] [] pos) (lEx T G c1 c2 X W (.bi .lenset (.cons a .nil))) := by
  refine PE.imp (pe_lenSetK hg (g.free _ (by decide)) hg2 (g.free _ (by decide)) ha g.calm (star_ok ox)) fun σ H Q ⟨ρ, s, h, rl, rs, out⟩ => ?_
  have key : ∀ s h, ev T c1 c2 (.bi .lenset (.cons a .nil)) s h = (ev T c1 c2 a s h).bind fun x h1 => R.of h1 (((lstW h1 x).bind fun ws => if (ws.all fun w => (keyW w).isSome) && decide (ws.length ≤ 4000) then some (dedK (ws.filterMap keyW)).length else none).map fun n => VM.W.int (n : Nat)) := fun s h => by
    simp only [ev, evs, R.bind_bind]
    rfl
  rw [key] at out
  refine seqE rl rs out fun w1 h1 ρ1 H1 v1 l1 rl1 rs1 r1 o1 => ?_
  obtain ⟨w, e0, qq⟩ := of_some ((outE l1 o1).noX R.of_noX)
  obtain ⟨n, e, rfl⟩ := opt_map_some e0
  obtain ⟨ws, e1, e2⟩ := opt_bind_some e
  split at e2
  · rename_i hz
    simp only [Bool.and_eq_true, decide_eq_true_eq] at hz
    cases e2
    obtain ⟨l, vs, rfl, h2, qs⟩ := lstW_rel rl1 r1 e1
    have hk := keys_of qs hz.1
    exact ⟨l, ws.filterMap keyW, rfl, by rw [← hk]; exact .inl h2, Nat.le_trans filterMap_len hz.2, qq.now rl1 rfl⟩
  · cases e2
theorem rvs_range {K : PySem.W.Frag} {ρ : Rho} {H : Hp} (f : Nat → Int) : ∀ (n : List Nat), RVs K ρ H (n.map fun k => VM.W.int (f k)) (n.map fun k => V.int (f k))
  | [] => rfl
  | k :: n => RVs.cons rfl (rvs_range f n)
theorem ev_lrg1 (g : XG T M G c1 c2 X W) {p2 q : Pos} (hg : Gl X "list") (hg2 : Gl X "range") (ha : PE X x (lEx T G c1 c2 X W a)) (ox : okX x = true) {k : Nat} :
    PE X (.Call (.Name "list" p) [.Call (.Name "range" p2) [x] [] q] [] pos) (lEx T G c1 c2 X W (.bi (.listrange k) (.cons a .nil))) := by
  refine PE.imp (pe_listRg g.calm hg (g.free _ (by decide)) (prg_1 hg2 (g.free _ (by decide)) ha (star_ok ox)) rfl) fun σ H Q ⟨ρ, s, h, rl, rs, out⟩ => ?_
  have key : ∀ s h, ev T c1 c2 (.bi (.listrange k) (.cons a .nil)) s h = (ev T c1 c2 a s h).bind fun x h1 => biW (.listrange k) [x] h1 := fun s h => by
    simp only [ev, evs, R.bind_bind]
    rfl
  rw [key] at out
  refine seqE rl rs out fun w1 h1 ρ1 H1 v1 l1 rl1 rs1 r1 o1 => ?_
  have o1 := outE l1 o1
  cases w1 with
  | int i =>
    cases r1
    refine ⟨i, rfl, ?_⟩
    have o1 : OutR (Fin X.K G ρ1 H1 Q) (FinX X.K G ρ1 H1 (WXs W σ)) (if 0 ≤ i ∧ i ≤ 16777216 then .ok (.ref h1.n) (h1.alloc (.lst ((List.range i.toNat).map fun k => .int (k : Nat)))) else .bad) := o1
    split at o1
    · rename_i hz
      refine ⟨⟨by omega, by omega, by omega, by omega, by omega⟩, fun p hp => Fin.lst o1 rl1 ?_ hp⟩
      have e1 : (i - 0).toNat = i.toNat := by omega
      unfold rgV
      rw [e1]
      have := rvs_range (K := X.K) (ρ := ρ1) (H := H1) (fun k => (k : Int)) (List.range i.toNat)
      simpa using this
    · exact o1.elim
  | _ => exact o1.elim
theorem ev_lrg2 (g : XG T M G c1 c2 X W) {p2 q : Pos} (hg : Gl X "list") (hg2 : Gl X "range") (ha : PE X x (lEx T G c1 c2 X W a)) (hb : PE X y (lEx T G c1 c2 X W b)) (ox : okX x = true) (oy : okX y = true) {k : Nat} :
    PE X (.Call (.Name "list" p) [.Call (.Name "range" p2) [x, y] [] q] [] pos) (lEx T G c1 c2 X W (.bi (.listrange k) (.cons a (.cons b .nil)))) := by
  refine PE.imp (pe_listRg g.calm hg (g.free _ (by decide)) (prg_2 hg2 (g.free _ (by decide)) ha hb (star_ok ox) (star_ok oy) (stars_ok (by simp [oy]))) rfl) fun σ H Q ⟨ρ, s, h, rl, rs, out⟩ => ?_
  have key : ∀ s h, ev T c1 c2 (.bi (.listrange k) (.cons a (.cons b .nil))) s h = (ev T c1 c2 a s h).bind fun x h1 => (ev T c1 c2 b s h1).bind fun y h2 => biW (.listrange k) [x, y] h2 := fun s h => by
    simp only [ev, evs, R.bind_bind]
    rfl
  rw [key] at out
  refine seqE rl rs out fun w1 h1 ρ1 H1 v1 l1 rl1 rs1 r1 o1 => ?_
  refine seqE rl1 rs1 (P := Fin X.K G ρ1 H1 Q) (outE l1 o1) fun w2 h2 ρ2 H2 v2 l2 rl2 rs2 r2 o2 => ?_
  have o2 := outE l2 o2
  cases w1 with
  | int i =>
    cases w2 with
    | int j =>
      cases r1; cases r2
      refine ⟨i, j, rfl, rfl, ?_⟩
      have o2 : OutR (Fin X.K G ρ2 H2 Q) (FinX X.K G ρ2 H2 (WXs W σ)) (if -(2 ^ 60) < i ∧ i < 2 ^ 60 ∧ -(2 ^ 60) < j ∧ j < 2 ^ 60 ∧ (j - i).toNat ≤ 16777216 then .ok (.ref h2.n) (h2.alloc (.lst ((List.range (j - i).toNat).map fun k => .int (i + (k : Nat))))) else .bad) := o2
      split at o2
      · rename_i hz
        refine ⟨⟨by omega, by omega, by omega, by omega, by omega⟩, fun p hp => Fin.lst o2 rl2 ?_ hp⟩
        unfold rgV
        exact rvs_range (fun k => i + (k : Int)) _
      · exact o2.elim
    | _ => exact o2.elim
  | _ => exact o2.elim
end
end VM

set_option linter.all false
set_option autoImplicit false
set_option maxRecDepth 100000
set_option maxHeartbeats 4000000
/-! VM6f: what is walked; targets; list comprehensions. -/
namespace VM
open PySem PySem.Spec PyProof.Rows L2
/-- the iterator at J walks these -/
def ItOk (K : PySem.W.Frag) (G : Sta) (J : It) (ρ0 : Rho) (H0 : Hp) (its : List VM.W) (g : VH → Prop) : Prop :=
  ∀ ρ h H, Le ρ0 H0 ρ H → Rl K G ρ h H → g h → (∀ i w, its[i]? = some w → J.go i H ∧ ∀ x H', J.yld i H x H' → Le ρ H ρ H' ∧ Rl K G ρ h H' ∧ RV K ρ H' w x ∧ ∀ a o, H a = some o → H' a = some o) ∧ J.stop its.length H
def FinI (K : PySem.W.Frag) (G : Sta) (ρ : Rho) (H : Hp) (R : It → Hp → Prop) (its : List VM.W) (g : VH → Prop) (h' : VH) : Prop :=
  ∀ ρ' H' J, Le ρ H ρ' H' → Rl K G ρ' h' H' → ItOk K G J ρ' H' its g → R J H'
theorem FinI.le {K : PySem.W.Frag} {G : Sta} {ρ ρ1 : Rho} {H H1 : Hp} {R : It → Hp → Prop} {its : List VM.W} {g : VH → Prop} {h' : VH} (l : Le ρ H ρ1 H1) (f : FinI K G ρ H R its g h') : FinI K G ρ1 H1 R its g h' := fun ρ' H' J l' r q => f ρ' H' J (l.trans l') r q
/-- a source's turns -/
def srcP (K : PySem.W.Frag) (G : Sta) (k : Ik) (ρ : Rho) (H : Hp) (R : It → Hp → Prop) (xs : List VM.W) (h : VH) : Prop := match srcW k xs h with
  | some (its, g) => FinI K G ρ H R its g h
  | none => False
theorem srcP.le {K : PySem.W.Frag} {G : Sta} {k : Ik} {ρ ρ1 : Rho} {H H1 : Hp} {R : It → Hp → Prop} {xs : List VM.W} {h : VH} (l : Le ρ H ρ1 H1) (f : srcP K G k ρ H R xs h) : srcP K G k ρ1 H1 R xs h := by
  unfold srcP at *
  split at f
  · exact FinI.le l f
  · exact f
def lI (K : PySem.W.Frag) (G : Sta) (W : WX) (k : Ik) (f : VS → VH → R (List VM.W)) : TI := fun σ H R => Lft K G W f σ H fun ρ H => srcP K G k ρ H R
theorem PI.imp {X : Cx} {tg e : Expr} {t t' : TI} (p : PI X tg e t) (h : ∀ σ H R, t' σ H R → t σ H R) : PI X tg e t' := ⟨fun pins s σ H R I q => p.run pins s σ H R I (h σ H R q)⟩
theorem PI.any {X : Cx} {tg e : Expr} {ι : Type} {t : ι → TI} (p : ∀ i, PI X tg e (t i)) : PI X tg e (fun σ H R => ∃ i, t i σ H R) := ⟨fun pins s σ H R I ⟨i, q⟩ => (p i).run pins s σ H R I q⟩
section
variable {K : PySem.W.Frag} {G : Sta} {ρ : Rho} {H : Hp} {h : VH}
theorem Itt_ok {a : Addr} {ws : List VM.W} {vs : List V} (t : TupAt K H a vs) (q : RVs K ρ H ws vs) : ItOk K G (Itt K a) ρ H ws (fun _ => True) := by
  intro ρ1 h1 H1 l rl _
  have t1 := t.mono l
  have q1 := q.mono l
  refine ⟨fun i w e => ?_, ⟨vs, t1.sq, by rw [q.len]; exact Nat.le_refl _⟩⟩
  obtain ⟨v, e1, rv⟩ := q1.get e
  refine ⟨⟨vs, v, t1.sq, e1⟩, fun x H' y => ?_⟩
  obtain ⟨rfl, y⟩ := y
  have e2 := y vs t1.sq
  rw [e1] at e2
  cases e2
  exact ⟨Le.refl, rl, rv, fun _ _ z => z⟩
theorem Itl_ok {a : Addr} {ws : List VM.W} {vs : List V} (t : LitAt K H a vs) (q : RVs K ρ H ws vs) : ItOk K G (Itl K a) ρ H ws (fun _ => True) := by
  intro ρ1 h1 H1 l rl _
  have t1 := t.mono l
  have q1 := q.mono l
  refine ⟨fun i w e => ?_, ⟨vs, t1.sq, by rw [q.len]; exact Nat.le_refl _⟩⟩
  obtain ⟨v, e1, rv⟩ := q1.get e
  refine ⟨⟨vs, v, t1.sq, e1⟩, fun x H' y => ?_⟩
  obtain ⟨rfl, y⟩ := y
  have e2 := y vs t1.sq
  rw [e1] at e2
  cases e2
  exact ⟨Le.refl, rl, rv, fun _ _ z => z⟩
theorem Itr_ok {n : Nat} {a : Addr} {ws : List VM.W} (e : ρ n = some a) : ItOk K G (Itl K a) ρ H ws (fun h' => h'.f n = some (.lst ws)) := by
  intro ρ1 h1 H1 l rl g
  obtain ⟨vs, h2, q1⟩ := rl.lst (l.ext n a e) g
  refine ⟨fun i w e => ?_, ⟨vs, SqL.of h2, by rw [q1.len]; exact Nat.le_refl _⟩⟩
  obtain ⟨v, e1, rv⟩ := q1.get e
  refine ⟨⟨vs, v, SqL.of h2, e1⟩, fun x H' y => ?_⟩
  obtain ⟨rfl, y⟩ := y
  have e2 := y vs (SqL.of h2)
  rw [e1] at e2
  cases e2
  exact ⟨Le.refl, rl, rv, fun _ _ z => z⟩
theorem Its_ok {z : Str} (k : SOk z) : ItOk K G (Its z) ρ H (z.cps.toList.map one) (fun _ => True) := by
  intro ρ1 h1 H1 l rl _
  refine ⟨fun i w e => ?_, by simp [Its]⟩
  rw [List.getElem?_map] at e
  obtain ⟨c, e1, rfl⟩ := opt_map_some e
  have hi : i < z.cps.size := by
    obtain ⟨q, _⟩ := List.getElem?_eq_some_iff.mp e1
    simpa using q
  refine ⟨hi, fun x H' y => ?_⟩
  obtain ⟨rfl, c', e2, rfl⟩ := y
  rw [Array.getElem?_toList] at e1
  rw [e1] at e2
  cases e2
  refine ⟨Le.refl, rl, ⟨rfl, SOk.one (sOk_iff.mp k.1 c ?_)⟩, fun _ _ z => z⟩
  exact List.mem_of_getElem? (i := i) (by rw [Array.getElem?_toList]; exact e1)
theorem Itg_ok {lo : Int} {n : Nat} : ItOk K G (Itr lo n) ρ H ((List.range n).map fun (k : Nat) => VM.W.int (lo + k)) (fun _ => True) := by
  intro ρ1 h1 H1 l rl _
  refine ⟨fun i w e => ?_, by simp [Itr]⟩
  rw [List.getElem?_map] at e
  obtain ⟨k, e1, rfl⟩ := opt_map_some e
  obtain ⟨q, e2⟩ := List.getElem?_eq_some_iff.mp e1
  simp only [List.length_range] at q
  simp only [List.getElem_range] at e2
  subst e2
  exact ⟨q, fun x H' y => by obtain ⟨rfl, rfl⟩ := y; exact ⟨Le.refl, rl, rfl, fun _ _ z => z⟩⟩
theorem Itc_ok {lo : Int} {n : Nat} : ItOk K G (Itc lo (-1) n) ρ H ((List.range n).map fun (k : Nat) => VM.W.int (lo - k)) (fun _ => True) := by
  intro ρ1 h1 H1 l rl _
  refine ⟨fun i w e => ?_, by simp [Itc]⟩
  rw [List.getElem?_map] at e
  obtain ⟨k, e1, rfl⟩ := opt_map_some e
  obtain ⟨q, e2⟩ := List.getElem?_eq_some_iff.mp e1
  simp only [List.length_range] at q
  simp only [List.getElem_range] at e2
  subst e2
  refine ⟨q, fun x H' y => ?_⟩
  obtain ⟨rfl, rfl⟩ := y
  refine ⟨Le.refl, rl, ?_, fun _ _ z => z⟩
  show V.int _ = V.int _
  congr 1
  omega
/-- enumerate(list) -/
theorem enumW_get : ∀ {ws : List VM.W} {k i : Nat} {w : VM.W}, (enumW k ws)[i]? = some w → ∃ x, ws[i]? = some x ∧ w = .tup [.int ((k + i : Nat) : Int), x]
  | [], _, _, _, e => by simp [enumW] at e
  | x :: ws, k, 0, w, e => by simp [enumW] at e; exact ⟨x, rfl, by simpa using e.symm⟩
  | x :: ws, k, i + 1, w, e => by
    simp only [enumW, List.getElem?_cons_succ] at e
    obtain ⟨y, e1, e2⟩ := enumW_get e
    refine ⟨y, by simpa using e1, ?_⟩
    rw [e2]
    have : k + 1 + i = k + (i + 1) := by omega
    rw [this]
theorem enumW_len : ∀ {ws : List VM.W} {k : Nat}, (enumW k ws).length = ws.length
  | [], _ => rfl
  | x :: ws, k => by simp [enumW, enumW_len]
theorem pairRV {ρ1 : Rho} {H1 : Hp} {a : Addr} {w x : VM.W} {v u : V} (hp : H1 a = none) (r1 : RV K ρ1 H1 w v) (r2 : RV K ρ1 H1 x u) : RV K ρ1 (upd H1 a (.tup [v, u])) (.tup [w, x]) (.ref a) :=
  ⟨a, [v, u], rfl, .inl upd_same, RVs.cons (r1.mono (Le.new1 hp)) (RVs.cons (r2.mono (Le.new1 hp)) rfl)⟩
theorem upd_kept {H1 : Hp} {a : Addr} {o : HO} (hp : H1 a = none) : ∀ b u, H1 b = some u → upd H1 a o b = some u := fun b u e => by
  rw [upd_ne (ne_of_none e hp)]; exact e
theorem Ite_ok {n : Nat} {a : Addr} {ws : List VM.W} (e : ρ n = some a) : ItOk K G (Ite K a) ρ H (enumW 0 ws) (fun h' => h'.f n = some (.lst ws)) := by
  intro ρ1 h1 H1 l rl g
  obtain ⟨vs, h2, q1⟩ := rl.lst (l.ext n a e) g
  refine ⟨fun i w e => ?_, ⟨vs, SqL.of h2, by rw [enumW_len, q1.len]; exact Nat.le_refl _⟩⟩
  obtain ⟨x, e0, rfl⟩ := enumW_get e
  obtain ⟨v, e1, rv⟩ := q1.get e0
  refine ⟨⟨vs, v, SqL.of h2, e1⟩, fun y H' yy => ?_⟩
  obtain ⟨p, x', rfl, hp, rfl, yy⟩ := yy
  have e2 := yy vs (SqL.of h2)
  rw [e1] at e2
  cases e2
  refine ⟨Le.new1 hp, rl.new1 hp, pairRV hp ?_ rv, upd_kept hp⟩
  simp only [Nat.zero_add]
  rfl
theorem IteF_ok {a : Addr} {ws : List VM.W} {vs : List V} (t : ∃ o, H a = some (.frz o (.lst vs))) (q : RVs K ρ H ws vs) : ItOk K G (Ite K a) ρ H (enumW 0 ws) (fun _ => True) := by
  intro ρ1 h1 H1 l rl _
  have q1 := q.mono l
  have h2 : SqL K H1 a vs := .inl (.inr (t.imp fun o e => l.tf a o _ e))
  refine ⟨fun i w e => ?_, ⟨vs, h2, by rw [enumW_len, q1.len]; exact Nat.le_refl _⟩⟩
  obtain ⟨x, e0, rfl⟩ := enumW_get e
  obtain ⟨v, e1, rv⟩ := q1.get e0
  refine ⟨⟨vs, v, h2, e1⟩, fun y H' yy => ?_⟩
  obtain ⟨p, x', rfl, hp, rfl, yy⟩ := yy
  have e2 := yy vs h2
  rw [e1] at e2
  cases e2
  refine ⟨Le.new1 hp, rl.new1 hp, pairRV hp ?_ rv, upd_kept hp⟩
  simp only [Nat.zero_add]
  rfl
/-- zip -/
theorem zipW_get : ∀ {ws xs : List VM.W} {i : Nat} {w : VM.W}, (zipW ws xs)[i]? = some w → ∃ x y, ws[i]? = some x ∧ xs[i]? = some y ∧ w = .tup [x, y]
  | [], _, _, _, e => by simp [zipW] at e
  | _ :: _, [], _, _, e => by simp [zipW] at e
  | x :: ws, y :: xs, 0, w, e => by simp [zipW] at e; exact ⟨x, y, rfl, rfl, e.symm⟩
  | x :: ws, y :: xs, i + 1, w, e => by
    simp only [zipW, List.getElem?_cons_succ] at e
    obtain ⟨a, b, e1, e2, e3⟩ := zipW_get e
    exact ⟨a, b, by simpa using e1, by simpa using e2, e3⟩
theorem zipW_len : ∀ {ws xs : List VM.W}, (zipW ws xs).length = min ws.length xs.length
  | [], _ => by simp [zipW]
  | _ :: _, [] => by simp [zipW]
  | x :: ws, y :: xs => by simp only [zipW, List.length_cons, zipW_len]; omega
theorem Itz_ok {n m : Nat} {a b : Addr} {ws xs : List VM.W} (e : ρ n = some a) (e' : ρ m = some b) : ItOk K G (Itz K a b) ρ H (zipW ws xs) (fun h' => h'.f n = some (.lst ws) ∧ h'.f m = some (.lst xs)) := by
  intro ρ1 h1 H1 l rl ⟨g, g'⟩
  obtain ⟨vs, h2, q1⟩ := rl.lst (l.ext n a e) g
  obtain ⟨us, h3, q2⟩ := rl.lst (l.ext m b e') g'
  have l1 := q1.len
  have l2 := q2.len
  refine ⟨fun i w e => ?_, ⟨vs, us, SqL.of h2, SqL.of h3, by rw [zipW_len]; omega⟩⟩
  obtain ⟨x, y, e0, e0', rfl⟩ := zipW_get e
  obtain ⟨v, e1, rv⟩ := q1.get e0
  obtain ⟨u, e2, ru⟩ := q2.get e0'
  refine ⟨⟨vs, us, v, u, SqL.of h2, SqL.of h3, e1, e2⟩, fun y' H' yy => ?_⟩
  obtain ⟨p, x', y'', rfl, hp, rfl, y1, y2⟩ := yy
  have e3 := y1 vs (SqL.of h2)
  have e4 := y2 us (SqL.of h3)
  rw [e1] at e3; rw [e2] at e4
  cases e3; cases e4
  exact ⟨Le.new1 hp, rl.new1 hp, pairRV hp rv ru, upd_kept hp⟩
theorem ItzT_ok {a b : Addr} {ws xs : List VM.W} {vs us : List V} (t : TupAt K H a vs) (t' : TupAt K H b us) (q : RVs K ρ H ws vs) (q' : RVs K ρ H xs us) : ItOk K G (RZ.ItzT K a b) ρ H (zipW ws xs) (fun _ => True) := by
  intro ρ1 h1 H1 l rl _
  have l1 := q.len
  have l2 := q'.len
  have q1 := q.mono l
  have q2 := q'.mono l
  have h2 := (t.mono l).sq
  have h3 := (t'.mono l).sq
  refine ⟨fun i w e => ?_, ⟨vs, us, h2, h3, by rw [zipW_len]; omega⟩⟩
  obtain ⟨x, y, e0, e0', rfl⟩ := zipW_get e
  obtain ⟨v, e1, rv⟩ := q1.get e0
  obtain ⟨u, e2, ru⟩ := q2.get e0'
  refine ⟨⟨vs, us, v, u, h2, h3, e1, e2⟩, fun y' H' yy => ?_⟩
  obtain ⟨p, x', y'', rfl, hp, rfl, y1, y2⟩ := yy
  have e3 := y1 vs h2
  have e4 := y2 us h3
  rw [e1] at e3; rw [e2] at e4
  cases e3; cases e4
  exact ⟨Le.new1 hp, rl.new1 hp, pairRV hp rv ru, upd_kept hp⟩
theorem ItzF_ok {a b : Addr} {ws xs : List VM.W} {vs us : List V} (t : ∃ o, H a = some (.frz o (.lst vs))) (t' : ∃ o, H b = some (.frz o (.lst us))) (q : RVs K ρ H ws vs) (q' : RVs K ρ H xs us) : ItOk K G (Itz K a b) ρ H (zipW ws xs) (fun _ => True) := by
  intro ρ1 h1 H1 l rl _
  have l1 := q.len
  have l2 := q'.len
  have q1 := q.mono l
  have q2 := q'.mono l
  have h2 : SqL K H1 a vs := .inl (.inr (t.imp fun o e => l.tf a o _ e))
  have h3 : SqL K H1 b us := .inl (.inr (t'.imp fun o e => l.tf b o _ e))
  refine ⟨fun i w e => ?_, ⟨vs, us, h2, h3, by rw [zipW_len]; omega⟩⟩
  obtain ⟨x, y, e0, e0', rfl⟩ := zipW_get e
  obtain ⟨v, e1, rv⟩ := q1.get e0
  obtain ⟨u, e2, ru⟩ := q2.get e0'
  refine ⟨⟨vs, us, v, u, h2, h3, e1, e2⟩, fun y' H' yy => ?_⟩
  obtain ⟨p, x', y'', rfl, hp, rfl, y1, y2⟩ := yy
  have e3 := y1 vs h2
  have e4 := y2 us h3
  rw [e1] at e3; rw [e2] at e4
  cases e3; cases e4
  exact ⟨Le.new1 hp, rl.new1 hp, pairRV hp rv ru, upd_kept hp⟩
/-- a dict's keys -/
theorem Itk_ok {n : Nat} {d : Addr} {kvs : List (Key × VM.W)} (rl0 : Rl K G ρ h H) (e : ρ n = some d) (hf : h.f n = some (.dic true kvs)) :
    ∃ o kvs', H d = some (.frz o (.dK kvs')) ∧ ItOk K G (Itk d o kvs') ρ H (kvs.map fun kv => wKey kv.1) (fun h' => h'.f n = some (.dic true kvs)) := by
  obtain ⟨kvs', rk, o, q⟩ := rl0.dic e hf
  refine ⟨o, kvs', q, fun ρ1 h1 H1 l rl g => ?_⟩
  have q1 := l.tf d o _ q
  have hl : kvs.length = kvs'.length := Paired.length rk
  refine ⟨fun i w e => ?_, ⟨q1, by rw [List.length_map, hl]; exact Nat.le_refl _⟩⟩
  rw [List.getElem?_map] at e
  obtain ⟨kv, e1, rfl⟩ := opt_map_some e
  obtain ⟨hi, _⟩ := List.getElem?_eq_some_iff.mp e1
  refine ⟨⟨q1, by omega⟩, fun x H' y => ?_⟩
  obtain ⟨rfl, k, v, e2, rfl⟩ := y
  obtain ⟨k1, k2, k3⟩ : kv.1 = k ∧ RV K ρ H kv.2 v ∧ (∀ s, kv.1 = .inr s → SOk s) := by
    have get : ∀ {kvs : List (Key × VM.W)} {kvs' : List (Key × V)}, RKv K ρ H kvs kvs' → ∀ (i : Nat), kvs[i]? = some kv → kvs'[i]? = some (k, v) → kv.1 = k ∧ RV K ρ H kv.2 v ∧ (∀ s, kv.1 = .inr s → SOk s) := by
      intro kvs kvs' r
      induction r with
      | nil => intro i e; simp at e
      | cons a _ ih =>
        intro i e e'
        cases i with
        | zero => simp at e e'; subst e; subst e'; exact a
        | succ i => exact ih i (by simpa using e) (by simpa using e')
    exact get rk i e1 e2
  refine ⟨Le.refl, rl, ?_, fun _ _ z => z⟩
  rw [← k1]
  cases hk : kv.1 with
  | inl i => exact rfl
  | inr s => exact ⟨rfl, k3 s hk⟩
end
end VM

set_option linter.all false
set_option autoImplicit false
set_option maxRecDepth 100000
set_option maxHeartbeats 4000000
/-! VM6g: sources of walks. -/
namespace VM
open PySem PySem.Spec PyProof.Rows L2
theorem IteT_ok {K : PySem.W.Frag} {G : Sta} {ρ : Rho} {H : Hp} {a : Addr} {ws : List VM.W} {vs : List V} (t : TupAt K H a vs) (q : RVs K ρ H ws vs) : ItOk K G (IteT K a) ρ H (enumW 0 ws) (fun _ => True) := by
  intro ρ1 h1 H1 l rl _
  have q1 := q.mono l
  have h2 := (t.mono l).sq
  refine ⟨fun i w e => ?_, ⟨vs, h2, by rw [enumW_len, q1.len]; exact Nat.le_refl _⟩⟩
  obtain ⟨x, e0, rfl⟩ := enumW_get e
  obtain ⟨v, e1, rv⟩ := q1.get e0
  refine ⟨⟨vs, v, h2, e1⟩, fun y H' yy => ?_⟩
  obtain ⟨p, x', rfl, hp, rfl, yy⟩ := yy
  have e2 := yy vs h2
  rw [e1] at e2
  cases e2
  refine ⟨Le.new1 hp, rl.new1 hp, pairRV hp ?_ rv, upd_kept hp⟩
  simp only [Nat.zero_add]
  rfl
section
variable {T : Tab} {M : Nms} {G : Sta} {c1 c2 : Nat → List VM.W → VH → R VM.W} {X : Cx} {W : WX}
variable {a b c es : E} {x y z e tg : Expr} {xs : List Expr} {pos p apos : Pos} {k : Ik} {R : It → Hp → Prop} {σ : L2.St} {H : Hp}
/-- a source, by its arguments -/
theorem toArgs (h : lI X.K G W k (evs T c1 c2 es) σ H R) : lA X.K G W (evs T c1 c2 es) σ H fun vs H1 => ∃ ρ1 h1 ws, Rl X.K G ρ1 h1 H1 ∧ RVs X.K ρ1 H1 ws vs ∧ srcP X.K G k ρ1 H1 R ws h1 := by
  obtain ⟨ρ, s, h, rl, rs, out⟩ := h
  refine ⟨ρ, s, h, rl, rs, out.imp (fun ws h1 q => ?_) fun _ _ _ q => q⟩
  intro ρ1 H1 vs l1 rl1 r1
  exact ⟨ρ1, h1, ws, rl1, r1, srcP.le l1 q⟩
theorem toOne (h : lI X.K G W k (evs T c1 c2 (.cons a .nil)) σ H R) : lEx T G c1 c2 X W a σ H fun v H1 => ∃ ρ1 h1 w, Rl X.K G ρ1 h1 H1 ∧ RV X.K ρ1 H1 w v ∧ srcP X.K G k ρ1 H1 R [w] h1 := by
  obtain ⟨ρ, s, h, rl, rs, out⟩ := h
  have key : evs T c1 c2 (.cons a .nil) s h = (ev T c1 c2 a s h).bind fun w h1 => .ok [w] h1 := by
    simp only [evs]
    rfl
  rw [key] at out
  refine ⟨ρ, s, h, rl, rs, ?_⟩
  cases e : ev T c1 c2 a s h with
  | bad => rw [e] at out; exact out
  | exc c w h1 => rw [e] at out; exact out
  | ok w h1 =>
    rw [e] at out
    exact fun ρ1 H1 v l1 rl1 r1 => ⟨ρ1, h1, w, rl1, r1, srcP.le l1 out⟩
theorem src_seq (ha : PE X x (lEx T G c1 c2 X W a)) : PI X tg x (lI X.K G W .seq (evs T c1 c2 (.cons a .nil))) := by
  have one : ∀ i : Nat, PI X tg x (match i with | 0 => iTup X.K (lEx T G c1 c2 X W a) | 1 => iList X.K (lEx T G c1 c2 X W a) | _ => iStr (lEx T G c1 c2 X W a)) := fun i => match i with
    | 0 => pi_tup ha
    | 1 => pi_list ha
    | _ + 2 => pi_str ha
  refine PI.imp (PI.any one) fun σ H R ⟨ρ, s, h, rl, rs, out⟩ => ?_
  have key : evs T c1 c2 (.cons a .nil) s h = (ev T c1 c2 a s h).bind fun w h1 => .ok [w] h1 := by
    simp only [evs]
    rfl
  rw [key] at out
  cases e : ev T c1 c2 a s h with
  | bad => rw [e] at out; exact out.elim
  | exc c w h1 => rw [e] at out; exact ⟨0, ρ, s, h, rl, rs, by rw [e]; exact out⟩
  | ok w h1 =>
    rw [e] at out
    have out : srcP X.K G .seq ρ H R [w] h1 := out
    cases w with
    | tup ws =>
      refine ⟨0, ρ, s, h, rl, rs, ?_⟩
      rw [e]
      intro ρ1 H1 v l1 rl1 r1
      obtain ⟨a, vs, rfl, t, qs⟩ := r1
      exact ⟨a, rfl, ⟨vs, t.sq⟩, out ρ1 H1 _ l1 rl1 (Itt_ok t qs)⟩
    | lit ws =>
      refine ⟨1, ρ, s, h, rl, rs, ?_⟩
      rw [e]
      intro ρ1 H1 v l1 rl1 r1
      obtain ⟨a, vs, rfl, t, qs⟩ := r1
      exact ⟨a, rfl, ⟨vs, t.sq⟩, out ρ1 H1 _ l1 rl1 (Itl_ok t qs)⟩
    | fz ws =>
      refine ⟨1, ρ, s, h, rl, rs, ?_⟩
      rw [e]
      intro ρ1 H1 v l1 rl1 r1
      obtain ⟨a, vs, rfl, t, qs⟩ := r1
      exact ⟨a, rfl, ⟨vs, .inl (.inr t)⟩, out ρ1 H1 _ l1 rl1 (Itl_ok (.inl t) qs)⟩
    | str z =>
      refine ⟨2, ρ, s, h, rl, rs, ?_⟩
      rw [e]
      intro ρ1 H1 v l1 rl1 r1
      obtain ⟨rfl, k⟩ := r1
      exact ⟨z, rfl, out ρ1 H1 _ l1 rl1 (Its_ok k)⟩
    | ref n =>
      refine ⟨1, ρ, s, h, rl, rs, ?_⟩
      rw [e]
      intro ρ1 H1 v l1 rl1 r1
      obtain ⟨a, ea, rfl⟩ := r1
      unfold srcP at out
      cases hf : h1.f n with
      | none => simp only [srcW, hf] at out
      | some o =>
        cases o with
        | lst ws =>
          simp only [srcW, hf] at out
          obtain ⟨vs, h2, _⟩ := rl1.lst ea hf
          exact ⟨a, rfl, ⟨vs, SqL.of h2⟩, out ρ1 H1 _ l1 rl1 (Itr_ok ea)⟩
        | dic _ _ => simp only [srcW, hf] at out
        | ins _ _ => simp only [srcW, hf] at out
    | _ => exact False.elim out
theorem src_keys (ha : PE X x (lEx T G c1 c2 X W a)) : PI X tg x (lI X.K G W .keys (evs T c1 c2 (.cons a .nil))) := by
  refine PI.imp (pi_keys ha) fun σ H R h => ?_
  obtain ⟨ρ, s, h, rl, rs, out⟩ := toOne h
  refine ⟨ρ, s, h, rl, rs, out.imp (fun w h1 fin ρ1 H1 v l1 rl1 r1 => ?_) fun _ _ _ q => q⟩
  obtain ⟨ρ2, h2, w2, rl2, r2, q⟩ := fin ρ1 H1 v l1 rl1 r1
  unfold srcP at q
  cases w2 <;> first | exact False.elim q | skip
  rename_i n
  cases hf : h2.f n with
  | none => simp only [srcW, hf] at q
  | some o =>
    cases o with
    | dic lk kvs =>
      cases lk with
      | true =>
        simp only [srcW, hf] at q
        obtain ⟨d, ed, rfl⟩ := r2
        obtain ⟨o, kvs', e1, ok⟩ := Itk_ok rl2 ed hf
        exact ⟨d, o, rfl, .inl ⟨kvs', e1, q ρ2 H1 _ Le.refl rl2 ok⟩⟩
      | false => simp only [srcW, hf] at q
    | lst _ => simp only [srcW, hf] at q
    | ins _ _ => simp only [srcW, hf] at q
theorem starEach1 (ox : okX x = true) {env : Env} : starEach [x] env = [(false, eval x env)] := star_ok ox
def cntE : E → Nat
  | .cons _ es => cntE es + 1
  | _ => 0
theorem evs_len : ∀ (es : E) (s : VS) (h h1 : VH) (ws : List VM.W), evs T c1 c2 es s h = .ok ws h1 → ws.length = cntE es
  | .nil, s, h, h1, ws, e => by simp only [evs] at e; cases e; rfl
  | .cons a es, s, h, h1, ws, e => by
    simp only [evs] at e
    cases e1 : ev T c1 c2 a s h with
    | bad => rw [e1] at e; cases e
    | exc _ _ _ => rw [e1] at e; cases e
    | ok w h2 =>
      rw [e1] at e
      simp only [R.bind_ok] at e
      cases e2 : evs T c1 c2 es s h2 with
      | bad => rw [e2] at e; cases e
      | exc _ _ _ => rw [e2] at e; cases e
      | ok ws' h3 =>
        rw [e2] at e
        cases e
        simp only [List.length_cons, cntE, evs_len es s h2 _ ws' e2]
  | .var _, _, _, _, _, e => by simp [evs] at e
  | .cst _, _, _, _, _, e => by simp [evs] at e
  | .glb _, _, _, _, _, e => by simp [evs] at e
  | .bin .., _, _, _, _, e => by simp [evs] at e
  | .neg .., _, _, _, _, e => by simp [evs] at e
  | .not .., _, _, _, _, e => by simp [evs] at e
  | .cmp .., _, _, _, _, e => by simp [evs] at e
  | .chn .., _, _, _, _, e => by simp [evs] at e
  | .isn .., _, _, _, _, e => by simp [evs] at e
  | .isnn .., _, _, _, _, e => by simp [evs] at e
  | .eqd .., _, _, _, _, e => by simp [evs] at e
  | .and .., _, _, _, _, e => by simp [evs] at e
  | .or .., _, _, _, _, e => by simp [evs] at e
  | .ite .., _, _, _, _, e => by simp [evs] at e
  | .tup .., _, _, _, _, e => by simp [evs] at e
  | .lst .., _, _, _, _, e => by simp [evs] at e
  | .dic0, _, _, _, _, e => by simp [evs] at e
  | .fld .., _, _, _, _, e => by simp [evs] at e
  | .idx .., _, _, _, _, e => by simp [evs] at e
  | .slc .., _, _, _, _, e => by simp [evs] at e
  | .rev .., _, _, _, _, e => by simp [evs] at e
  | .call .., _, _, _, _, e => by simp [evs] at e
  | .meth .., _, _, _, _, e => by simp [evs] at e
  | .make .., _, _, _, _, e => by simp [evs] at e
  | .bi .., _, _, _, _, e => by simp [evs] at e
  | .bm .., _, _, _, _, e => by simp [evs] at e
  | .comp .., _, _, _, _, e => by simp [evs] at e
  | .frz .., _, _, _, _, e => by simp [evs] at e
  | .never, _, _, _, _, e => by simp [evs] at e
theorem toA {P : List V → Hp → (It → Hp → Prop) → Prop} (f : ∀ (ρ1 : Rho) (h1 : VH) (H1 : Hp) (ws : List VM.W) (vs : List V) (R : It → Hp → Prop), Rl X.K G ρ1 h1 H1 → RVs X.K ρ1 H1 ws vs → ws.length = cntE es → srcP X.K G k ρ1 H1 R ws h1 → P vs H1 R)
    (h : lI X.K G W k (evs T c1 c2 es) σ H R) : lA X.K G W (evs T c1 c2 es) σ H fun vs H1 => P vs H1 R := by
  obtain ⟨ρ, s, h, rl, rs, out⟩ := h
  refine ⟨ρ, s, h, rl, rs, ?_⟩
  cases e : evs T c1 c2 es s h with
  | bad => rw [e] at out; exact out
  | exc c w h1 => rw [e] at out; exact out
  | ok ws h1 =>
    rw [e] at out
    exact fun ρ1 H1 vs l1 rl1 r1 => f ρ1 h1 H1 ws vs R rl1 r1 (evs_len es s h h1 ws e) (srcP.le l1 out)
theorem len1 {α : Type} {l : List α} (h : l.length = 1) : ∃ a, l = [a] := by
  match l, h with
  | [a], _ => exact ⟨a, rfl⟩
theorem len2 {α : Type} {l : List α} (h : l.length = 2) : ∃ a b, l = [a, b] := by
  match l, h with
  | [a, b], _ => exact ⟨a, b, rfl⟩
theorem len3 {α : Type} {l : List α} (h : l.length = 3) : ∃ a b c, l = [a, b, c] := by
  match l, h with
  | [a, b, c], _ => exact ⟨a, b, c, rfl⟩
theorem src_rng1 (g : XG T M G c1 c2 X W) (hg : Gl X "range") (hn : cntE es = 1) (ha : PA X [x] (lA X.K G W (evs T c1 c2 es))) (ox : okX x = true) : PI X tg (.Call (.Name "range" p) [x] [] pos) (lI X.K G W .rng (evs T c1 c2 es)) := by
  refine PI.imp (pi_range1 hg (g.free _ (by decide)) ha (starEach1 ox)) fun σ H R => toA (P := fun vs H1 R => ∃ j : Int, vs = [.int j] ∧ -(2 ^ 62) ≤ j ∧ j < 2 ^ 62 ∧ R (Itr 0 j.toNat) H1) fun ρ1 h1 H1 ws vs R rl r hl q => ?_
  rw [hn] at hl
  obtain ⟨w, rfl⟩ := len1 hl
  unfold srcP at q
  cases w <;> first | exact False.elim q | skip
  rename_i j
  obtain ⟨v, rfl, rv⟩ := r.one
  cases rv
  simp only [srcW] at q
  split at q
  · rename_i its g e
    split at e
    · rename_i hz
      cases e
      have hI : ItOk X.K G (Itr 0 j.toNat) ρ1 H1 ((List.range j.toNat).map fun (k : Nat) => VM.W.int k) (fun _ => True) := by
        have := Itg_ok (K := X.K) (G := G) (ρ := ρ1) (H := H1) (lo := 0) (n := j.toNat)
        simpa using this
      exact ⟨j, rfl, hz.1, hz.2, q ρ1 H1 _ Le.refl rl hI⟩
    · cases e
  · exact q.elim
theorem src_rng2 (g : XG T M G c1 c2 X W) (hg : Gl X "range") (hn : cntE es = 2) (ha : PA X [x, y] (lA X.K G W (evs T c1 c2 es))) (ox : okX x = true) (oy : okX y = true) : PI X tg (.Call (.Name "range" p) [x, y] [] pos) (lI X.K G W .rng (evs T c1 c2 es)) := by
  refine PI.imp (pi_range2 hg (g.free _ (by decide)) ha (by rw [star_ok ox, starEach1 oy]) (starEach1 oy)) fun σ H R => toA (P := fun vs H1 R => ∃ i j : Int, vs = [.int i, .int j] ∧ (-(2 ^ 62) ≤ i ∧ i < 2 ^ 62 ∧ -(2 ^ 62) ≤ j ∧ j < 2 ^ 62) ∧ R (Itr i (j - i).toNat) H1) fun ρ1 h1 H1 ws vs R rl r hl q => ?_
  rw [hn] at hl
  obtain ⟨w, w', rfl⟩ := len2 hl
  unfold srcP at q
  cases w <;> cases w' <;> first | exact False.elim q | skip
  rename_i i j
  obtain ⟨v, v', rfl, rv, rv'⟩ := r.two
  cases rv; cases rv'
  simp only [srcW] at q
  split at q
  · rename_i its g e
    split at e
    · rename_i hz
      cases e
      exact ⟨i, j, rfl, ⟨hz.1.1, hz.1.2, hz.2.1, hz.2.2⟩, q ρ1 H1 _ Le.refl rl Itg_ok⟩
    · cases e
  · exact q.elim
theorem src_rng3 (g : XG T M G c1 c2 X W) (hg : Gl X "range") (hn : cntE es = 3) (ha : PA X [x, y, z] (lA X.K G W (evs T c1 c2 es))) (ox : okX x = true) (oy : okX y = true) (oz : okX z = true) : PI X tg (.Call (.Name "range" p) [x, y, z] [] pos) (lI X.K G W .rng (evs T c1 c2 es)) := by
  refine PI.imp (pi_range3 hg (g.free _ (by decide)) ha (star_ok ox) (stars_ok (by simp [oy, oz]))) fun σ H R => toA (P := fun vs H1 R => ∃ (i j c : Int) (n : Nat), vs = [.int i, .int j, .int c] ∧ RgC i j c n ∧ R (Itc i c n) H1) fun ρ1 h1 H1 ws vs R rl r hl q => ?_
  rw [hn] at hl
  obtain ⟨w, w', w'', rfl⟩ := len3 hl
  unfold srcP at q
  cases w <;> cases w' <;> cases w'' <;> first | exact False.elim q | skip
  rename_i i j c
  obtain ⟨v, vs, rfl, rv, r⟩ := r
  obtain ⟨v', v'', rfl, rv', rv''⟩ := RVs.two r
  cases rv; cases rv'; cases rv''
  simp only [srcW] at q
  split at q
  · rename_i its g e
    split at e
    · rename_i hz
      cases e
      obtain ⟨rfl, h1, h2⟩ := hz
      exact ⟨i, j, -1, (i - j).toNat, rfl, RgC.neg (by omega) (by omega) (by omega) (by omega), q ρ1 H1 _ Le.refl rl Itc_ok⟩
    · cases e
  · exact q.elim
theorem src_zip {elts : List Expr} {kk : Nat} {tpos : Pos} (g : XG T M G c1 c2 X W) (hg : Gl X "zip") (hn : cntE es = 2) (ha : PA X [x, y] (lA X.K G W (evs T c1 c2 es))) (ox : okX x = true) (oy : okX y = true) : PI X (.Tuple elts kk tpos) (.Call (.Name "zip" p) [x, y] [] pos) (lI X.K G W .zip (evs T c1 c2 es)) := by
  refine PI.imp (RZ.pi_zipA hg (g.free _ (by decide)) ha (star_ok ox) (stars_ok (by simp [oy]))) fun σ H R => toA (P := fun vs H1 R => ∃ a b xs ys, vs = [.ref a, .ref b] ∧ ((SqL X.K H1 a xs ∧ SqL X.K H1 b ys ∧ R (Itz X.K a b) H1) ∨ (SqT X.K H1 a xs ∧ SqT X.K H1 b ys ∧ R (RZ.ItzT X.K a b) H1))) fun ρ1 h1 H1 ws vs R rl r hl q => ?_
  rw [hn] at hl
  obtain ⟨w, w', rfl⟩ := len2 hl
  unfold srcP at q
  obtain ⟨v, v', rfl, rv, rv'⟩ := r.two
  cases w with
  | tup ws1 =>
    cases w' with
    | tup ws2 =>
      obtain ⟨a, vs1, rfl, t1, q1⟩ := rv
      obtain ⟨b, vs2, rfl, t2, q2⟩ := rv'
      exact ⟨a, b, vs1, vs2, rfl, .inr ⟨t1.sq, t2.sq, q ρ1 H1 _ Le.refl rl (ItzT_ok t1 t2 q1 q2)⟩⟩
    | _ => exact False.elim q
  | fz ws1 =>
    cases w' with
    | fz ws2 =>
      obtain ⟨a, vs1, rfl, t1, q1⟩ := rv
      obtain ⟨b, vs2, rfl, t2, q2⟩ := rv'
      exact ⟨a, b, vs1, vs2, rfl, .inl ⟨.inl (.inr t1), .inl (.inr t2), q ρ1 H1 _ Le.refl rl (ItzF_ok t1 t2 q1 q2)⟩⟩
    | _ => exact False.elim q
  | ref n =>
    cases w' with
    | ref m =>
      obtain ⟨a, ea, rfl⟩ := rv
      obtain ⟨b, eb, rfl⟩ := rv'
      simp only [srcW] at q
      split at q
      · rename_i its g e
        split at e
        · rename_i ws1 ws2 h2 h3
          cases e
          obtain ⟨vs1, e1, _⟩ := rl.lst ea h2
          obtain ⟨vs2, e2, _⟩ := rl.lst eb h3
          exact ⟨a, b, vs1, vs2, rfl, .inl ⟨SqL.of e1, SqL.of e2, q ρ1 H1 _ Le.refl rl (Itz_ok ea eb)⟩⟩
        · cases e
      · exact q.elim
    | _ => exact False.elim q
  | _ => cases w' <;> exact False.elim q
theorem src_enum {elts : List Expr} {kk : Nat} {tpos : Pos} (g : XG T M G c1 c2 X W) (hg : Gl X "enumerate") (ha : PA X [x] (lA X.K G W (evs T c1 c2 es))) (hn : cntE es = 1) (ox : okX x = true) : PI X (.Tuple elts kk tpos) (.Call (.Name "enumerate" p) [x] [] pos) (lI X.K G W .enum (evs T c1 c2 es)) := by
  have one : ∀ i : Bool, PI X (.Tuple elts kk tpos) (.Call (.Name "enumerate" p) [x] [] pos) (if i = true then iEnumT X.K (lA X.K G W (evs T c1 c2 es)) else iEnum X.K (lA X.K G W (evs T c1 c2 es))) := fun i => match i with
    | true => pi_enumT hg (g.free _ (by decide)) ha (starEach1 ox)
    | false => pi_enum hg (g.free _ (by decide)) ha (starEach1 ox)
  refine PI.imp (PI.any one) fun σ H R ⟨ρ, s, h, rl, rs, out⟩ => ?_
  cases e : evs T c1 c2 es s h with
  | bad => rw [e] at out; exact out.elim
  | exc c w h1 => rw [e] at out; exact ⟨true, ρ, s, h, rl, rs, by rw [e]; exact out⟩
  | ok ws h1 =>
    rw [e] at out
    have hl := evs_len es s h h1 ws e
    rw [hn] at hl
    obtain ⟨w, rfl⟩ := len1 hl
    have out : srcP X.K G .enum ρ H R [w] h1 := out
    cases w with
    | tup ws =>
      refine ⟨true, ρ, s, h, rl, rs, ?_⟩
      rw [e]
      intro ρ1 H1 vs l1 rl1 r1
      obtain ⟨v, rfl, rv⟩ := r1.one
      obtain ⟨a, vs, rfl, t, qs⟩ := rv
      exact ⟨a, vs, rfl, t.sq, out ρ1 H1 _ l1 rl1 (IteT_ok t qs)⟩
    | fz ws =>
      refine ⟨false, ρ, s, h, rl, rs, ?_⟩
      rw [e]
      intro ρ1 H1 vs l1 rl1 r1
      obtain ⟨v, rfl, rv⟩ := r1.one
      obtain ⟨a, vs, rfl, t, qs⟩ := rv
      exact ⟨a, vs, rfl, .inl (.inr t), out ρ1 H1 _ l1 rl1 (IteF_ok t qs)⟩
    | ref n =>
      refine ⟨false, ρ, s, h, rl, rs, ?_⟩
      rw [e]
      intro ρ1 H1 vs l1 rl1 r1
      obtain ⟨v, rfl, rv⟩ := r1.one
      obtain ⟨a, ea, rfl⟩ := rv
      unfold srcP at out
      cases hf : h1.f n with
      | none => simp only [srcW, hf] at out
      | some o =>
        cases o with
        | lst ws =>
          simp only [srcW, hf] at out
          obtain ⟨vs, h2, _⟩ := rl1.lst ea hf
          exact ⟨a, vs, rfl, SqL.of h2, out ρ1 H1 _ l1 rl1 (Ite_ok ea)⟩
        | dic _ _ => simp only [srcW, hf] at out
        | ins _ _ => simp only [srcW, hf] at out
    | _ => exact False.elim out
end
end VM

set_option linter.all false
set_option autoImplicit false
set_option maxRecDepth 100000
set_option maxHeartbeats 4000000
/-! VM6h: targets, [::-1], list comprehensions. -/
namespace VM
open PySem PySem.Spec PyProof.Rows L2
/-! ### wiped slots -/
theorem wipe_get {σ : L2.St} {vs : List Nat} {i : Nat} : (wipe σ vs)[i]? = if i ∈ vs ∧ i < σ.length then some none else σ[i]? := by
  induction vs with
  | nil => simp [wipe]
  | cons v vs ih =>
    unfold wipe
    rw [List.getElem?_set, ih]
    have hl := wipe_length σ vs
    by_cases h : v = i
    · subst h
      by_cases h2 : v < σ.length
      · simp [h2, hl]
      · simp [h2, hl]
    · have h3 : ¬ i = v := fun e => h e.symm
      simp [h, h3]
theorem wipeV_len {s : VS} : ∀ {vs : List Nat}, (wipeV s vs).length = s.length
  | [] => rfl
  | v :: vs => by unfold wipeV; rw [List.length_set, wipeV_len]
theorem wipeV_get {s : VS} {vs : List Nat} {i : Nat} : (wipeV s vs)[i]? = if i ∈ vs ∧ i < s.length then some none else s[i]? := by
  induction vs with
  | nil => simp [wipeV]
  | cons v vs ih =>
    unfold wipeV
    rw [List.getElem?_set, ih]
    have hl := wipeV_len (s := s) (vs := vs)
    by_cases h : v = i
    · subst h
      by_cases h2 : v < s.length
      · simp [h2, hl]
      · simp [h2, hl]
    · have h3 : ¬ i = v := fun e => h e.symm
      simp [h, h3]
theorem wipe_set {σ : L2.St} {vs : List Nat} {i : Nat} {x : Option V} (h : i ∈ vs) : wipe (σ.set i x) vs = wipe σ vs := by
  apply List.ext_getElem?
  intro j
  rw [wipe_get, wipe_get, List.length_set, List.getElem?_set]
  by_cases hj : i = j
  · subst hj
    by_cases h2 : i < σ.length
    · simp [h, h2]
    · simp [h, h2]
  · simp [hj]
theorem wipe_idem {σ : L2.St} {vs : List Nat} : wipe (wipe σ vs) vs = wipe σ vs := by
  apply List.ext_getElem?
  intro j
  rw [wipe_get, wipe_get, wipe_length]
  by_cases h : j ∈ vs ∧ j < σ.length
  · simp [h]
  · simp [h]
theorem RS.wipe {K : PySem.W.Frag} {ρ : Rho} {H : Hp} {s : VS} {σ : L2.St} (r : RS K ρ H s σ) (vs : List Nat) : RS K ρ H (wipeV s vs) (L2.wipe σ vs) := by
  refine ⟨by rw [wipeV_len, wipe_length]; exact r.1, fun i w e => ?_⟩
  rw [wipeV_get] at e
  rw [wipe_get]
  split at e
  · cases e
  · rename_i h
    obtain ⟨v, e1, rv⟩ := r.2 i w e
    rw [if_neg (by rw [← r.1]; exact h)]
    exact ⟨v, e1, rv⟩
theorem RS.set {K : PySem.W.Frag} {ρ : Rho} {H : Hp} {s : VS} {σ : L2.St} {w : VM.W} {v : V} (r : RS K ρ H s σ) (i : Nat) (rv : RV K ρ H w v) : RS K ρ H (s.set i (some w)) (σ.set i (some v)) := by
  refine ⟨by rw [List.length_set, List.length_set]; exact r.1, fun j w' e => ?_⟩
  rw [List.getElem?_set] at e ⊢
  by_cases h : i = j
  · subst h
    simp only [if_true] at e ⊢
    rw [← r.1]
    split at e
    · cases e; rename_i h2; rw [if_pos h2]; exact ⟨v, rfl, rv⟩
    · cases e
  · rw [if_neg h] at e ⊢
    exact r.2 j w' e
/-! ### targets -/
def lenP : P → Nat
  | .cons _ ps => lenP ps + 1
  | _ => 0
mutual
def gP (K : PySem.W.Frag) : P → TG
  | .nm i => gName i
  | .tp ps => gTup K (lenP ps) (gPs K ps)
  | _ => fun _ _ _ _ => False
def gPs (K : PySem.W.Frag) : P → TGs
  | .nil => gNil
  | .cons p ps => gCons (gP K p) (gPs K ps)
  | _ => fun _ _ _ _ => False
end
theorem chkP_ok {N : List Str} {c : Cs} {p : P} {x : Expr} (h : chkP N c p x = true) : okX x = true := by
  cases p <;> (unfold chkP at h; first | (split at h <;> first | rfl | cases h) | cases h)
theorem asg_ok {x : Expr} {xs : List Expr} {env : Env} (h : okX x = true) : assignEach (x :: xs) env = (false, assign x env) :: assignEach xs env := by
  cases x <;> first | rfl | cases h
theorem chkPs_ok {N : List Str} {c : Cs} {env : Env} : ∀ {p : P} {xs : List Expr}, chkPs N c p xs = true → (assignEach xs env).length = lenP p ∧ (assignEach xs env).findIdx? (·.1) = none
  | .nil, xs, h => by
    cases xs with
    | nil => exact ⟨rfl, rfl⟩
    | cons _ _ => simp [chkPs] at h
  | .cons p ps, xs, h => by
    cases xs with
    | nil => simp [chkPs] at h
    | cons x r =>
      simp only [chkPs, Bool.and_eq_true] at h
      obtain ⟨i1, i2⟩ := chkPs_ok (env := env) h.2
      rw [asg_ok (chkP_ok h.1)]
      exact ⟨by simp [lenP, i1], by simp [List.findIdx?_cons, i2]⟩
  | .nm _, _, h => nomatch h
  | .tp _, _, h => nomatch h
mutual
theorem pg_P {X : Cx} {N : List Str} {c : Cs} (ft : Fit X N c) (hc : X.calm = true) (nd : X.N.Nodup) : ∀ (p : P) (x : Expr), chkP N c p x = true → PG X x (gP X.K p)
  | .nm i, x, h => by
    unfold chkP at h
    split at h
    · rename_i n q
      simp only [Bool.and_eq_true, Bool.or_eq_true, decide_eq_true_eq] at h
      unfold gP
      have hi : X.N[i]? = some n := by rw [ft.N]; exact h.1
      rcases h.2 with h2 | h2
      · have := loc1B_ok h2
        rw [← ft.sc] at this
        exact pg_name nd hi (.inl this) (.inr this)
      · have := locB_ok h2.1
        rw [← ft.sc] at this
        exact pg_name nd hi this (.inl (ft.fn n h2.2))
    · cases h
  | .tp ps, x, h => by
    unfold chkP at h
    split at h
    · unfold gP
      obtain ⟨h1, h2⟩ := chkPs_ok (env := X.env) h
      exact pg_tup hc (pgs_P ft hc nd ps _ h) h1 h2
    · cases h
  | .nil, x, h => by simp [chkP] at h
  | .cons _ _, x, h => by simp [chkP] at h
theorem pgs_P {X : Cx} {N : List Str} {c : Cs} (ft : Fit X N c) (hc : X.calm = true) (nd : X.N.Nodup) : ∀ (p : P) (xs : List Expr), chkPs N c p xs = true → PGs X xs (gPs X.K p)
  | .nil, xs, h => by
    cases xs with
    | nil => unfold gPs; exact pgs_nil
    | cons _ _ => simp [chkPs] at h
  | .cons p ps, xs, h => by
    cases xs with
    | nil => simp [chkPs] at h
    | cons x r =>
      simp only [chkPs, Bool.and_eq_true] at h
      unfold gPs
      exact pgs_cons (pg_P ft hc nd p x h.1) (pgs_P ft hc nd ps r h.2) (by rw [asg_ok (chkP_ok h.1)]; rfl)
  | .nm _, _, h => nomatch h
  | .tp _, _, h => nomatch h
end
mutual
theorem gP_ok {K : PySem.W.Frag} {ρ : Rho} {H : Hp} : ∀ (p : P) (w : VM.W) (v : V) (s s' : VS) (σ : L2.St) (Q : L2.St → Hp → Prop), RV K ρ H w v → RS K ρ H s σ → asg p w s = some s' →
    (∀ σ', RS K ρ H s' σ' → (∀ own, ownAll p own = true → wipe σ' own = wipe σ own) → Q σ' H) → gP K p v σ H Q
  | .nm i, w, v, s, s', σ, Q, rv, rs, e, k => by
    unfold asg at e
    cases e
    unfold gP gName
    exact k _ (rs.set i rv) fun own h => wipe_set (by simpa [ownAll] using h)
  | .tp ps, w, v, s, s', σ, Q, rv, rs, e, k => by
    unfold asg at e
    split at e
    · obtain ⟨a, vs, rfl, t, qs⟩ := rv
      unfold gP
      refine ⟨a, vs, rfl, t.sq, ?_, gPs_ok ps _ vs s s' σ Q qs rs e fun σ' r h => k σ' r fun own ho => h own (by simpa [ownAll] using ho)⟩
      rw [← qs.len]
      exact asgs_len e
    · cases e
  | .nil, w, v, s, s', σ, Q, rv, rs, e, k => by simp [asg] at e
  | .cons _ _, w, v, s, s', σ, Q, rv, rs, e, k => by simp [asg] at e
theorem gPs_ok {K : PySem.W.Frag} {ρ : Rho} {H : Hp} : ∀ (p : P) (ws : List VM.W) (vs : List V) (s s' : VS) (σ : L2.St) (Q : L2.St → Hp → Prop), RVs K ρ H ws vs → RS K ρ H s σ → asgs p ws s = some s' →
    (∀ σ', RS K ρ H s' σ' → (∀ own, ownAll p own = true → wipe σ' own = wipe σ own) → Q σ' H) → gPs K p vs σ H Q
  | .nil, ws, vs, s, s', σ, Q, rv, rs, e, k => by
    cases ws with
    | nil =>
      unfold asgs at e
      cases e
      cases rv
      unfold gPs
      exact ⟨rfl, k σ rs fun _ _ => rfl⟩
    | cons _ _ => simp [asgs] at e
  | .cons p ps, ws, vs, s, s', σ, Q, rv, rs, e, k => by
    cases ws with
    | nil => simp [asgs] at e
    | cons w ws =>
      unfold asgs at e
      obtain ⟨s1, e1, e2⟩ := opt_bind_some e
      obtain ⟨v, r, rfl, a, b⟩ := rv
      unfold gPs
      refine ⟨v, r, rfl, gP_ok p w v s s1 σ _ a rs e1 fun σ1 rs1 h1 => ?_⟩
      refine gPs_ok ps ws r s1 s' σ1 Q b rs1 e2 fun σ2 rs2 h2 => k σ2 rs2 fun own ho => ?_
      simp only [ownAll, Bool.and_eq_true] at ho
      rw [h2 own ho.2, h1 own ho.1]
  | .nm _, ws, vs, s, s', σ, Q, rv, rs, e, k => by cases ws <;> simp [asgs] at e
  | .tp _, ws, vs, s, s', σ, Q, rv, rs, e, k => by cases ws <;> simp [asgs] at e
theorem asgs_len : ∀ {p : P} {ws : List VM.W} {s s' : VS}, asgs p ws s = some s' → ws.length = lenP p
  | .nil, ws, s, s', e => by
    cases ws with
    | nil => rfl
    | cons _ _ => simp [asgs] at e
  | .cons p ps, ws, s, s', e => by
    cases ws with
    | nil => simp [asgs] at e
    | cons w ws =>
      unfold asgs at e
      obtain ⟨s1, e1, e2⟩ := opt_bind_some e
      simp [lenP, asgs_len e2]
  | .nm _, ws, s, s', e => by cases ws <;> simp [asgs] at e
  | .tp _, ws, s, s', e => by cases ws <;> simp [asgs] at e
end
section
variable {T : Tab} {M : Nms} {G : Sta} {c1 c2 : Nat → List VM.W → VH → R VM.W} {X : Cx} {W : WX}
variable {a b c es : E} {x y z e : Expr} {xs : List Expr} {pos p apos : Pos}
/-! ### [::-1] -/
theorem revW_noX (w : VM.W) (h : VH) (c : Nat) (v : VM.W) (h' : VH) : revW w h ≠ .exc c v h' := by
  unfold revW
  split <;> first | (intro z; cases z) | (split <;> (intro z; cases z))
theorem ev_rev {k : Nat} {p1 p2 p3 : Pos} (ha : PE X x (lEx T G c1 c2 X W a)) : PE X (.Subscript x (.Slice none none (some (.UnaryOp .USub (.Constant (.int 1) k p1) p2)) p3) pos) (lEx T G c1 c2 X W (.rev a)) := by
  have one : ∀ i : Bool, PE X (.Subscript x (.Slice none none (some (.UnaryOp .USub (.Constant (.int 1) k p1) p2)) p3) pos) (if i = true then tRevT X.K (lEx T G c1 c2 X W a) else tRevL X.K (lEx T G c1 c2 X W a)) := fun i => match i with
    | true => pe_revT ha
    | false => pe_revL ha
  refine PE.imp (PE.any one) fun σ H Q ⟨ρ, s, h, rl, rs, out⟩ => ?_
  have key : ∀ s h, ev T c1 c2 (.rev a) s h = (ev T c1 c2 a s h).bind fun x h1 => revW x h1 := fun s h => by simp only [ev]
  rw [key] at out
  cases e : ev T c1 c2 a s h with
  | bad => rw [e] at out; exact out.elim
  | exc c w h1 => rw [e] at out; exact ⟨true, ρ, s, h, rl, rs, by rw [e]; exact out⟩
  | ok w h1 =>
    rw [e] at out
    have out : OutR (Fin X.K G ρ H Q) (FinX X.K G ρ H (WXs W σ)) (revW w h1) := out
    cases w with
    | tup ws =>
      refine ⟨true, ρ, s, h, rl, rs, ?_⟩
      rw [e]
      intro ρ1 H1 v l1 rl1 r1
      obtain ⟨a, vs, rfl, t, qs⟩ := r1
      exact ⟨a, vs, rfl, t.sq, fun p hp => Fin.tup (Fin.le l1 out) rl1 qs.reverse hp⟩
    | fz ws =>
      refine ⟨false, ρ, s, h, rl, rs, ?_⟩
      rw [e]
      intro ρ1 H1 v l1 rl1 r1
      obtain ⟨a, vs, rfl, t, qs⟩ := r1
      exact ⟨a, vs, rfl, .inl (.inr t), fun p hp => Fin.lst (Fin.le l1 out) rl1 qs.reverse hp⟩
    | ref n =>
      refine ⟨false, ρ, s, h, rl, rs, ?_⟩
      rw [e]
      intro ρ1 H1 v l1 rl1 r1
      obtain ⟨a, ea, rfl⟩ := r1
      simp only [revW] at out
      split at out
      · rename_i ws hf
        obtain ⟨vs, h2, qs⟩ := rl1.lst ea hf
        exact ⟨a, vs, rfl, SqL.of h2, fun p hp => Fin.lst (Fin.le l1 out) rl1 qs.reverse hp⟩
      · exact out.elim
    | _ => exact out.elim
/-! ### comprehensions -/
def Wf : WX := fun _ _ _ _ => False
theorem OutR.unbind {α β : Type} {P : β → VH → Prop} {PX : Nat → VM.W → VH → Prop} {r : R α} {k : α → VH → R β} (o : OutR P PX (r.bind k)) : OutR (fun a h => OutR P PX (k a h)) PX r := by
  cases r <;> exact o
theorem nx_some {α β : Type} {P : β → VH → Prop} {PX : Nat → VM.W → VH → Prop} {r : R α} {k : α → VH → R β} (o : OutR P PX (r.nx.bind k)) : ∃ a h, r = .ok a h ∧ OutR P PX (k a h) := by
  cases r with
  | ok a h => exact ⟨a, h, rfl, o⟩
  | _ => exact o.elim
variable {k : Ik} {src : VH → R (List VM.W)} {tg : P} {elt ifs srcE : E} {own : List Nat}
/-- one turn of a comprehension -/
noncomputable def compF (T : Tab) (c1 c2 : Nat → List VM.W → VH → R VM.W) (elt ifs : E) (tg : P) (own : List Nat) (s : VS) : VM.W → VH → R (Option VM.W) := fun w h2 => match asg tg w (wipeV s own) with
  | some s2 => (evi T c1 c2 ifs s2 h2).bind fun b h3 => if b then (ev T c1 c2 elt s2 h3).bind fun y h4 => .ok (some y) h4 else .ok none h3
  | none => .bad
/-- the turns, from the i-th on -/
structure CInv (K : PySem.W.Frag) (G : Sta) (ρ1 : Rho) (H1 : Hp) (D : Addr) (P : List VM.W → VH → Prop) (g : VH → Prop) (f : VM.W → VH → R (Option VM.W)) (its : List VM.W) (n : Nat) (Hs : Hp) : Prop where
  mk :: (ex : ∃ (ρi : Rho) (hi : VH) (acc : List V) (ys : List VM.W), Le ρ1 H1 ρi Hs ∧ Rl K G ρi hi Hs ∧ Hs D = some (.lst acc) ∧ (∀ j, ρi j ≠ some D) ∧ RVs K ρi Hs ys acc ∧ acc.length ≤ n ∧
    OutR (fun zs h2 => P (ys ++ zs) h2) (fun _ _ _ => False) (compGo g f its hi))
theorem compGo_noX {g : VH → Prop} {f : VM.W → VH → R (Option VM.W)} : ∀ (ws : List VM.W) (h : VH) (c : Nat) (w : VM.W) (h' : VH), compGo g f ws h ≠ .exc c w h'
  | [], h, c, w, h' => by
    unfold compGo
    split <;> (intro z; cases z)
  | x :: ws, h, c, w, h' => by
    unfold compGo
    split
    · cases f x h with
      | ok o h1 =>
        simp only [R.nx_ok, R.bind_ok]
        cases e : compGo g f ws h1 with
        | ok ys h2 => intro z; cases z
        | exc c' w' h2 => exact absurd e (compGo_noX ws h1 c' w' h2)
        | bad => intro z; cases z
      | exc _ _ _ => intro z; cases z
      | bad => intro z; cases z
    · intro z; cases z
theorem compGo_cons {g : VH → Prop} {f : VM.W → VH → R (Option VM.W)} {w : VM.W} {ws : List VM.W} {h : VH} {P : List VM.W → VH → Prop} {PX : Nat → VM.W → VH → Prop} (o : OutR P PX (compGo g f (w :: ws) h)) :
    g h ∧ ∃ y h1, f w h = .ok y h1 ∧ OutR (fun zs h2 => P (consO y zs) h2) PX (compGo g f ws h1) := by
  unfold compGo at o
  split at o
  · rename_i hg
    obtain ⟨y, h1, e, o⟩ := nx_some o
    exact ⟨hg, y, h1, e, OutR.unbind o⟩
  · exact o.elim
theorem compGo_nil {g : VH → Prop} {f : VM.W → VH → R (Option VM.W)} {h : VH} {P : List VM.W → VH → Prop} {PX : Nat → VM.W → VH → Prop} (o : OutR P PX (compGo g f [] h)) : g h ∧ P [] h := by
  unfold compGo at o
  split at o
  · exact ⟨by assumption, o⟩
  · exact o.elim
/-- the comprehension, nothing locked: what is to be shown of it -/
theorem lc_of {ownx : List (Str × Nat)} (ho : ownx.map (·.2) = own) (hown : ownAll tg own = true) {σ : L2.St} {H : Hp} {Q : VK}
    (hyp : lE X.K G W (fun s h => (compB k (evs T c1 c2 srcE s) (compF T c1 c2 elt ifs tg own s) h).bind fun ys h2 => .ok (.ref h2.n) (h2.alloc (.lst ys))) σ H Q) :
    tLc (lI X.K G W k (evs T c1 c2 srcE)) (gP X.K tg) (lT X.K G Wf (evi T c1 c2 ifs)) (lE X.K G Wf (ev T c1 c2 elt)) (ownx.map (·.2)) σ H Q := by
  obtain ⟨ρ, s, h, rl, rs, out⟩ := hyp
  rw [ho]
  simp only [compB, R.bind_bind] at out
  refine ⟨ρ, s, h, rl, rs, ?_⟩
  cases e : evs T c1 c2 srcE s h with
  | bad => rw [e] at out; exact out
  | exc c w h1 => rw [e] at out; exact out
  | ok xs h1 =>
    rw [e] at out
    simp only [R.bind_ok] at out
    show srcP X.K G k ρ H _ xs h1
    unfold srcP
    split at out
    rotate_left
    · exact out.elim
    rename_i its g esrc
    try rw [esrc]
    split at out
    rotate_left
    · exact out.elim
    rename_i hlen
    intro ρ1 H1 J l1 rl1 itok D hD
    have o1 : OutR (fun ys h2 => Fin X.K G ρ1 H1 Q (.ref h2.n) (h2.alloc (.lst ys))) (fun _ _ _ => False) (compGo g (compF T c1 c2 elt ifs tg own s) its h1) := (OutR.unbind (outE l1 out)).noX (compGo_noX its h1)
    generalize hP : (fun (ys : List VM.W) (h2 : VH) => Fin X.K G ρ1 H1 Q (.ref h2.n) (h2.alloc (.lst ys))) = P at o1
    refine ⟨fun i m Hs => m = its.length - i ∧ i ≤ its.length ∧ CInv X.K G ρ1 H1 D P g (compF T c1 c2 elt ifs tg own s) (its.drop i) i Hs, ⟨its.length, by simp, Nat.zero_le _, ⟨ρ1, h1, [], [], (Le.refl.updD hD), rl1.new1 hD, upd_same, fun j ej => rl1.tracked ej hD, rfl, Nat.le_refl _, by simpa using o1⟩⟩, ?_⟩
    rintro i m Hs ⟨rfl, hi, ⟨ρi, hv, acc, ys, li, rli, eD, nD, qs, hacc, oi⟩⟩
    by_cases hlt : i < its.length
    · right
      have ew : its[i]? = some its[i] := List.getElem?_eq_getElem hlt
      rw [List.drop_eq_getElem_cons hlt] at oi
      obtain ⟨hg', y, h2, ef, oi⟩ := compGo_cons oi
      obtain ⟨each, _⟩ := itok ρi hv Hs li rli hg'
      obtain ⟨hgo, hy⟩ := each i _ ew
      refine ⟨hgo, fun H' => CInv X.K G ρ1 H1 D P g (compF T c1 c2 elt ifs tg own s) (its.drop (i + 1)) (i + 1) H', fun H' nx => ⟨its.length - (i + 1), by omega, rfl, hlt, nx⟩, fun x H' yy => ?_⟩
      obtain ⟨l2, rl2, rx, kept⟩ := hy x H' yy
      have rs2 : RS X.K ρi H' s σ := rs.le (l1.trans (li.trans l2))
      unfold compF at ef
      split at ef
      rotate_left
      · cases ef
      rename_i s2 ea
      refine gP_ok tg its[i] x _ s2 _ _ rx (rs2.wipe own) ea fun σ2 rs3 hw => ⟨by rw [hw own hown, wipe_idem], ρi, s2, hv, rl2, rs3, ?_⟩
      have eD2 : H' D = some (.lst acc) := kept D _ eD
      cases et : evi T c1 c2 ifs s2 hv with
      | bad => rw [et] at ef; cases ef
      | exc _ _ _ => rw [et] at ef; cases ef
      | ok b h3 =>
        rw [et] at ef
        simp only [R.bind_ok] at ef
        intro ρ3 H3 l3 rl3
        have nD3 : ∀ j, ρ3 j ≠ some D := fun j ej => by
          rcases l3.new j D ej with q | q
          · exact nD j q
          · rw [eD2] at q; cases q
        have eD3 : H3 D = some (.lst acc) := l3.fr D _ eD2 nD
        cases b with
        | false =>
          simp only [Bool.false_eq_true, if_false] at ef ⊢
          cases ef
          exact ⟨ρ3, _, acc, ys, li.trans (l2.trans l3), rl3, eD3, nD3, qs.mono (l2.trans l3), by omega, oi⟩
        | true =>
          simp only [if_true] at ef ⊢
          refine ⟨ρ3, s2, h3, rl3, rs3.le l3, ?_⟩
          cases ee : ev T c1 c2 elt s2 h3 with
          | bad => rw [ee] at ef; cases ef
          | exc _ _ _ => rw [ee] at ef; cases ef
          | ok y' h4 =>
            rw [ee] at ef
            simp only [R.bind_ok] at ef
            cases ef
            intro ρ4 H4 v l4 rl4 rv
            have nD4 : ∀ j, ρ4 j ≠ some D := fun j ej => by
              rcases l4.new j D ej with q | q
              · exact nD3 j q
              · rw [eD3] at q; cases q
            have eD4 : H4 D = some (.lst acc) := l4.fr D _ eD3 nD3
            refine ⟨acc, eD4, by rw [sizeLine_eq]; omega, ⟨ρ4, _, acc ++ [v], ys ++ [y'], (li.trans (l2.trans (l3.trans l4))).updD hD, rl4.updD nD4 eD4, upd_same, nD4, ?_, by simp; omega, ?_⟩⟩
            · have q1 : RVs X.K ρ4 H4 ys acc := qs.mono (l2.trans (l3.trans l4))
              exact RVs.monoW (Lw.updD eD4) _ _ (q1.app (ws' := [y']) (vs' := [v]) (RVs.cons rv rfl))
            · refine oi.imp (fun zs h5 q => ?_) fun _ _ _ q => q
              rw [List.append_assoc]
              exact q
    · left
      have e2 : i = its.length := by omega
      subst e2
      rw [List.drop_length] at oi
      obtain ⟨hg', oi⟩ := compGo_nil oi
      obtain ⟨_, hstop⟩ := itok ρi hv Hs li rli hg'
      refine ⟨hstop, ?_⟩
      rw [← hP] at oi
      simp only [List.append_nil] at oi
      exact oi _ _ _ (li.adopt rli.fresh hD) (rli.adopt nD ⟨acc, eD, qs.monoW (Lw.adopt rli.fresh)⟩) ⟨D, rhoAt_same, rfl⟩
/-- .. as a value -/
theorem ev_comp0 {eltx tgx iter : Expr} {ifsx : List Expr} {scope : Scope} {ownx : List (Str × Nat)} (hc : X.calm = true) (nd : X.N.Nodup) (hi : PI X tgx iter (lI X.K G W k (evs T c1 c2 srcE))) (ok : BlkOk X.N X.env.scope scope ownx) (ho : ownx.map (·.2) = own) (hown : ownAll tg own = true)
    (hg : ∀ (s : Shared) (H : Hp) (C : Addr) (cl : List (Str × Addr)) (fp : List Addr), PG (X.blk s H scope (compEnvC scope cl C X.env) fp) tgx (gP X.K tg))
    (ht : ∀ (s : Shared) (H : Hp) (C : Addr) (cl : List (Str × Addr)) (fp : List Addr), PTs (X.blk s H scope (compEnvC scope cl C X.env) fp) ifsx (lT X.K G Wf (evi T c1 c2 ifs)))
    (he : ∀ (s : Shared) (H : Hp) (C : Addr) (cl : List (Str × Addr)) (fp : List Addr), PE (X.blk s H scope (compEnvC scope cl C X.env) fp) eltx (lE X.K G Wf (ev T c1 c2 elt))) (hs : okX iter = true) :
    PE X (.ListComp eltx [⟨tgx, iter, ifsx, 0⟩] scope pos) (lE X.K G W fun s h => (compB k (evs T c1 c2 srcE s) (compF T c1 c2 elt ifs tg own s) h).bind fun ys h2 => .ok (.ref h2.n) (h2.alloc (.lst ys))) := by
  exact PE.imp (pe_lc hc nd hi ok hg ht he (folded_ok hs)) fun σ H Q q => lc_of ho hown q
end
end VM

set_option linter.all false
set_option autoImplicit false
set_option maxRecDepth 100000
set_option maxHeartbeats 4000000
/-! VM6i: walks over a dict that is locked. -/
namespace VM
open PySem PySem.Spec PyProof.Rows L2
section
variable {T : Tab} {M : Nms} {G : Sta} {c1 c2 : Nat → List VM.W → VH → R VM.W} {X : Cx} {W : WX}
variable {k : Ik} {srcE : E}
theorem lockW_some {xs : List VM.W} {h : VH} {n : Nat} {kvs : List (Key × VM.W)} (e : lockW k xs h = some (n, kvs)) : h.f n = some (.dic false kvs) := by
  unfold lockW at e
  split at e
  · split at e
    · cases e; assumption
    · cases e
  · cases e
/-- what holds when the dict is locked -/
structure Lk (K : PySem.W.Frag) (G : Sta) (ρ : Rho) (h : VH) (H : Hp) (n : Nat) (kvs : List (Key × VM.W)) (d : Addr) (u : HO) : Prop where
  at_ : ρ n = some d
  hd : H d = some u
  mu : Mut (some u)
  nt : ∀ xs, u ≠ .tup xs
  nf : ∀ o x, u ≠ .frz o x
  nl : ∀ xs, u ≠ .lst xs
  lock : ∀ od, Le ρ H ρ (upd H d (.frz od u)) ∧ Rl K G ρ (h.set n (.dic true kvs)) (upd H d (.frz od u))
  back : ∀ od ρ' h' H', Le ρ (upd H d (.frz od u)) ρ' H' → Rl K G ρ' h' H' → Rl K G ρ' (h'.set n (.dic false kvs)) (upd H' d u)
theorem Lk.mk' {K : PySem.W.Frag} {ρ : Rho} {h : VH} {H : Hp} {n : Nat} {kvs : List (Key × VM.W)} (rl : Rl K G ρ h H) (hf : h.f n = some (.dic false kvs)) : ∃ d u, Lk K G ρ h H n kvs d u := by
  obtain ⟨d, ed, kvs', rk, hd⟩ := rl.obj n _ hf
  simp only [Bool.false_eq_true, if_false] at hd
  have nz : ∀ ob u, H d ≠ some (.frz ob u) := fun _ _ z => by rw [hd] at z; cases z
  refine ⟨d, .dK kvs', ⟨ed, hd, trivial, (fun _ z => nomatch z), (fun _ _ z => nomatch z), (fun _ z => nomatch z), (fun od => ⟨Le.setO rl ed nz, ?_⟩), (fun od ρ' h' H' l r => ?_)⟩⟩
  · refine rl.setO ed nz ⟨kvs', rk.mono (Le.setO rl ed nz), ?_⟩
    simp only [if_true]
    exact ⟨od, upd_same⟩
  · have e' := l.ext n d ed
    have hd' : H' d = some (.frz od (.dK kvs')) := l.tf d od _ upd_same
    have lw : Lw ρ' H' ρ' (upd H' d (.dK kvs')) := ⟨fun _ _ e => e, fun a xs q => by
      rw [upd_ne fun y => by rw [y, hd'] at q; cases q]; exact q, fun a o xs q => by
      rw [upd_ne fun y => by rw [y, hd'] at q; cases q]; exact q⟩
    refine r.setW e' lw ⟨kvs', ?_, ?_⟩
    · exact RKv.monoW lw (RKv.mono l (rk.mono (Le.setO rl ed nz)))
    · simp only [Bool.false_eq_true, if_false]
      exact upd_same
theorem ev_compL {eltx : Expr} {f : VS → VM.W → VH → R (Option VM.W)} (base : PE X eltx (lE X.K G W fun s h => (compB k (evs T c1 c2 srcE s) (f s) h).bind fun ys h2 => .ok (.ref h2.n) (h2.alloc (.lst ys)))) :
    PE X eltx (lE X.K G W fun s h => compL k (evs T c1 c2 srcE s) (f s) h) := by
  generalize hb : (fun (s : VS) (h : VH) => (compB k (evs T c1 c2 srcE s) (f s) h).bind fun ys h2 => (R.ok (VM.W.ref h2.n) (h2.alloc (.lst ys)) : R VM.W)) = bs at base
  have one : ∀ i : Bool, PE X eltx (if i = true then tLockE (lE X.K G W bs) else lE X.K G W bs) := fun i => match i with
    | true => pe_lock base
    | false => base
  refine PE.imp (PE.any one) fun σ H Q ⟨ρ, s, h, rl, rs, out⟩ => ?_
  simp only [compL] at out
  split at out
  · rename_i n kvs e
    refine ⟨true, ?_⟩
    have hf : h.f n = some (.dic false kvs) := by
      unfold preW at e
      split at e
      · exact lockW_some e
      · cases e
    obtain ⟨d, u, lk⟩ := Lk.mk' (H := H) rl hf
    refine ⟨d, u, lk.hd, lk.mu, fun od => ?_⟩
    obtain ⟨l1, rl1⟩ := lk.lock od
    obtain ⟨ys, h2, ec, o⟩ := nx_some out
    refine ⟨ρ, s, h.set n (.dic true kvs), rl1, rs.le l1, ?_⟩
    rw [← hb]
    simp only [ec, R.bind_ok]
    intro ρ' H' v l' r' rv
    have o : Fin X.K G ρ H Q (.ref h2.n) ((h2.alloc (.lst ys)).set n (.dic false kvs)) := o
    obtain ⟨a, ea, rfl⟩ := rv
    exact ⟨l'.tf d od u upd_same, o ρ' _ _ (Le.unlock lk.at_ lk.hd lk.nt lk.nf l') (lk.back od ρ' _ H' l' r') ⟨a, ea, rfl⟩⟩
  · refine ⟨false, ρ, s, h, rl, rs, ?_⟩
    rw [← hb]
    exact out
end
end VM

set_option linter.all false
set_option autoImplicit false
set_option maxRecDepth 100000
set_option maxHeartbeats 8000000
/-! VM6j: what the checker passes is what the evaluator says: expressions. -/
namespace VM
open PySem PySem.Spec PyProof.Rows L2
structure Fam (T : Tab) (M : Nms) (G : Sta) (c1 c2 : Nat → List VM.W → VH → R VM.W) (Good : Cx → WX → Prop) : Prop where
  xg : ∀ X W, Good X W → XG T M G c1 c2 X W
  blk : ∀ X W (s : Shared) (H : Hp) (scope : Scope) (cl : List (Str × Addr)) (C : Addr) (fp : List Addr), Good X W → Good (X.blk s H scope (compEnvC scope cl C X.env) fp) Wf
structure Snd (T : Tab) (M : Nms) (G : Sta) (c1 c2 : Nat → List VM.W → VH → R VM.W) (Good : Cx → WX → Prop) (e : E) : Prop where
  pe : ∀ X W N c x, Good X W → Fit X N c → chkE M N c e x = true → PE X x (lEx T G c1 c2 X W e)
  pt : ∀ X W N c x, Good X W → Fit X N c → chkE M N c e x = true → PT X x (lTx T G c1 c2 X W e)
  pa : ∀ X W N c xs, Good X W → Fit X N c → chkEs M N c e xs = true → PA X xs (lA X.K G W (evs T c1 c2 e))
  po : ∀ X W N c o, Good X W → Fit X N c → chkO M N c e o = true → PO X o (lO X.K G W (evo T c1 c2 e))
  pi : ∀ X W N c xs, Good X W → Fit X N c → chkEs M N c e xs = true → xs.length ≤ 1 → PTs X xs (lT X.K G W (evi T c1 c2 e))
  hd : ∀ a es, e = .cons a es → ∀ X W N c x, Good X W → Fit X N c → chkE M N c a x = true → PE X x (lEx T G c1 c2 X W a)
  hd2 : ∀ a b es, e = .cons a (.cons b es) → ∀ X W N c x, Good X W → Fit X N c → chkE M N c b x = true → PE X x (lEx T G c1 c2 X W b)
/-- tests that are asked as values -/
def plainT : Expr → Bool
  | .Name .. => true | .Constant .. => true | .BinOp .. => true | .UnaryOp .USub _ _ => true | .Call .. => true
  | .Attribute .. => true | .Subscript .. => true | .List .. => true | .Tuple .. => true | .Dict .. => true | .ListComp .. => true
  | _ => false
theorem plainT_ok {x : Expr} {env : Env} (h : plainT x = true) : ∀ whole, isTrue x env whole = (do let v ← whole; standAt x.pos; holding [v] (truthy v)) := by
  cases x <;> first | (intro _; rfl) | cases h | skip
  rename_i op _ _
  cases op <;> first | (intro _; rfl) | cases h
def defT : E → Bool
  | .not _ => false | .and .. => false | .or .. => false | .cmp .. => false | .chn .. => false | .isn _ => false | .isnn _ => false | .ite .. => false
  | .frz _ => false
  | _ => true
theorem chkE_plain {M : Nms} {N : List Str} {sc : Cs} {e : E} {x : Expr} (d : defT e = true) (h : chkE M N sc e x = true) : plainT x = true := by
  cases e <;> first | (cases d; done) | (unfold chkE at h; first | (split at h <;> first | rfl | cases h) | cases h)
section
variable {T : Tab} {M : Nms} {G : Sta} {c1 c2 : Nat → List VM.W → VH → R VM.W} {Good : Cx → WX → Prop}
theorem noNil {e : E} {N : List Str} {c : Cs} {xs : List Expr} (h : chkEs M N c e xs = true) : (e = .nil ∧ xs = []) ∨ ∃ a es x r, e = .cons a es ∧ xs = x :: r ∧ chkE M N c a x = true ∧ chkEs M N c es r = true := by
  cases e <;> first | (cases xs <;> first | exact .inl ⟨rfl, rfl⟩ | (simp [chkEs] at h; done)) | (cases xs <;> first | (simp [chkEs] at h; done) | (simp only [chkEs, Bool.and_eq_true] at h; exact .inr ⟨_, _, _, _, rfl, rfl, h.1, h.2⟩)) | (exact nomatch h)
theorem noO {e : E} {N : List Str} {c : Cs} {o : Option Expr} (h : chkO M N c e o = true) : (e = .nil ∧ o = none) ∨ ∃ a x, e = .cons a .nil ∧ o = some x ∧ chkE M N c a x = true := by
  unfold chkO at h
  split at h
  · exact .inl ⟨rfl, rfl⟩
  · exact .inr ⟨_, _, rfl, rfl, h⟩
  · cases h
/-- all but the value itself -/
theorem Snd.of {e : E} (hn : e ≠ .nil) (hc : ∀ a es, e ≠ .cons a es) (pe : ∀ X W N c x, Good X W → Fit X N c → chkE M N c e x = true → PE X x (lEx T G c1 c2 X W e)) (d : defT e = true) : Snd T M G c1 c2 Good e where
  pe := pe
  pt := fun X W N c x g f h => ev_test (pe X W N c x g f h) (plainT_ok (chkE_plain d h))
  pa := fun X W N c xs g f h => by
    rcases noNil h with ⟨z, _⟩ | ⟨a, es, _, _, z, _⟩
    · exact absurd z hn
    · exact absurd z (hc a es)
  po := fun X W N c o g f h => by
    rcases noO h with ⟨z, _⟩ | ⟨a, _, z, _⟩
    · exact absurd z hn
    · exact absurd z (hc a _)
  pi := fun X W N c xs g f h => by
    rcases noNil h with ⟨z, _⟩ | ⟨a, es, _, _, z, _⟩
    · exact absurd z hn
    · exact absurd z (hc a es)
  hd := fun a es z => absurd z (hc a es)
  hd2 := fun a b es z => absurd z (hc a _)
theorem Snd.ofT {e : E} (hn : e ≠ .nil) (hc : ∀ a es, e ≠ .cons a es) (pe : ∀ X W N c x, Good X W → Fit X N c → chkE M N c e x = true → PE X x (lEx T G c1 c2 X W e))
    (pt : ∀ X W N c x, Good X W → Fit X N c → chkE M N c e x = true → PT X x (lTx T G c1 c2 X W e)) : Snd T M G c1 c2 Good e where
  pe := pe
  pt := pt
  pa := fun X W N c xs g f h => by
    rcases noNil h with ⟨z, _⟩ | ⟨a, es, _, _, z, _⟩
    · exact absurd z hn
    · exact absurd z (hc a es)
  po := fun X W N c o g f h => by
    rcases noO h with ⟨z, _⟩ | ⟨a, _, z, _⟩
    · exact absurd z hn
    · exact absurd z (hc a _)
  pi := fun X W N c xs g f h => by
    rcases noNil h with ⟨z, _⟩ | ⟨a, es, _, _, z, _⟩
    · exact absurd z hn
    · exact absurd z (hc a es)
  hd := fun a es z => absurd z (hc a es)
  hd2 := fun a b es z => absurd z (hc a _)
theorem chkEs_nil {e : E} {N : List Str} {c : Cs} {xs : List Expr} (h : chkEs M N c e xs = true) : xs = [] → e = .nil := by
  rintro rfl
  rcases noNil h with ⟨z, _⟩ | ⟨_, _, _, _, _, z, _⟩
  · exact z
  · cases z
theorem chkEs_cnt {N : List Str} {c : Cs} : ∀ {e : E} {xs : List Expr}, chkEs M N c e xs = true → cntE e = xs.length
  | e, xs, h => by
    rcases noNil h with ⟨rfl, rfl⟩ | ⟨a, es, x, r, rfl, rfl, _, h2⟩
    · rfl
    · simp only [cntE, List.length_cons, chkEs_cnt h2]
theorem glX {X : Cx} {N : List Str} {c : Cs} {x : Str} (f : Fit X N c) (h : glB c.sc x = true) : Gl X x ∧ (x == ("__debug__" : Str)) = false := by
  rw [← f.sc] at h
  exact glB_ok h
theorem pw_of_pt {X : Cx} {o : PySem.BoolOp} {vs : List Expr} {pos : Pos} {t : TT} (h : PT X (.BoolOp o vs pos) t) : PW X (.BoolOp o vs pos) t := ⟨fun wh pins s σ H Q I hw => h.run pins s σ H Q I hw⟩
theorem pt_ifE {X : Cx} {z x y : Expr} {pos : Pos} {tc ta tb : TT} (hc : PT X z tc) (ha : PT X x ta) (hb : PT X y tb) : PT X (.IfExp z x y pos) (fun σ H Q => tc σ H fun b H1 => if b = true then ta σ H1 Q else tb σ H1 Q) := by
  refine ⟨fun pins s σ H Q I h => ?_⟩
  show wpAny _ _ (isTrue z X.env (eval z X.env) >>= fun b => if b = true then isTrue x X.env (eval x X.env) else isTrue y X.env (eval y X.env)) _ _ s
  refine wpAny_bind (thn (hc.run pins s σ H _ I h) fun b s1 ⟨H1, I1, q⟩ => ?_)
  cases b with
  | true => exact ha.run pins s1 σ H1 Q I1 q
  | false => exact hb.run pins s1 σ H1 Q I1 q
theorem evT_ite {X : Cx} {W : WX} {c a b : E} {z x y : Expr} {pos : Pos} (hc : PT X z (lTx T G c1 c2 X W c)) (ha : PT X x (lTx T G c1 c2 X W a)) (hb : PT X y (lTx T G c1 c2 X W b)) : PT X (.IfExp z x y pos) (lTx T G c1 c2 X W (.ite c a b)) := by
  refine PT.imp (pt_ifE hc ha hb) fun σ H Q ⟨ρ, s, h, rl, rs, out⟩ => ?_
  have e : evB T c1 c2 (.ite c a b) s h = (evB T c1 c2 c s h).bind fun t h1 => if t then evB T c1 c2 a s h1 else evB T c1 c2 b s h1 := by
    rw [evB_eq]
    unfold evB
    simp only [ev, R.bind_bind]
    congr 1
    funext w h1
    cases w with
    | bl t => cases t <;> rfl
    | _ => rfl
  rw [e] at out
  refine seqT rl rs out fun t h1 ρ1 H1 l1 rl1 rs1 o1 => ?_
  cases t with
  | true => exact ⟨ρ1, s, h1, rl1, rs1, outT l1 o1⟩
  | false => exact ⟨ρ1, s, h1, rl1, rs1, outT l1 o1⟩
theorem evi_one {X : Cx} {W : WX} {a : E} {x : Expr} (h : PT X x (lTx T G c1 c2 X W a)) : PTs X [x] (lT X.K G W (evi T c1 c2 (.cons a .nil))) := by
  refine ⟨fun pins s σ H Q I hw => ?_⟩
  refine (pts_one h).run pins s σ H Q I ?_
  obtain ⟨ρ, s1, h1, rl, rs, out⟩ := hw
  refine ⟨ρ, s1, h1, rl, rs, ?_⟩
  have key : evB T c1 c2 a s1 h1 = evi T c1 c2 (.cons a .nil) s1 h1 := by
    unfold evB
    simp only [evi]
  rw [key]
  exact out
theorem evi_nil {X : Cx} {W : WX} : PTs X [] (lT X.K G W (evi T c1 c2 .nil)) := by
  refine ⟨fun pins s σ H Q I hw => ?_⟩
  refine pts_nil.run pins s σ H Q I ?_
  obtain ⟨ρ, s1, h1, rl, rs, out⟩ := hw
  have out : OutR (FinT X.K G ρ H Q) (FinX X.K G ρ H (WXs W σ)) (.ok true h1) := by simpa only [evi] using out
  exact out ρ H Le.refl rl
/-- sources -/
theorem chkI_ok {X : Cx} {W : WX} {N : List Str} {c : Cs} {k : Ik} {src : E} {tg : P} {tgx iter : Expr} (g : XG T M G c1 c2 X W) (f : Fit X N c) (hs : ∀ xs, chkEs M N c src xs = true → PA X xs (lA X.K G W (evs T c1 c2 src)))
    (h1 : ∀ a x, src = .cons a .nil → chkE M N c a x = true → PE X x (lEx T G c1 c2 X W a))
    (ht : isTp tg = true → ∃ elts kk tpos, tgx = .Tuple elts kk tpos) (h : chkI c k (fun xs => chkEs M N c src xs) tg iter = true) : PI X tgx iter (lI X.K G W k (evs T c1 c2 src)) := by
  unfold chkI at h
  split at h
  · rcases noNil h with ⟨_, z⟩ | ⟨a, es, x, r, rfl, z, h2, h3⟩
    · cases z
    · cases z
      obtain rfl := chkEs_nil h3 rfl
      exact src_seq (h1 a _ rfl h2)
  · rcases noNil h with ⟨_, z⟩ | ⟨a, es, x, r, rfl, z, h2, h3⟩
    · cases z
    · cases z
      obtain rfl := chkEs_nil h3 rfl
      exact src_keys (h1 a _ rfl h2)
  · split at h
    · rename_i y p0 args pos0
      simp only [Bool.and_eq_true, decide_eq_true_eq] at h
      obtain ⟨rfl, h3, h4, h5, h6⟩ := h
      have gl := (glX f h3).1
      have ok := chkEs_ok h6
      have cnt := chkEs_cnt h6
      have pa := hs _ h6
      match args, h4, h5 with
      | [x], _, _ => exact src_rng1 g gl cnt pa (by simpa using ok)
      | [x, y], _, _ =>
        simp only [List.all_cons, List.all_nil, Bool.and_true, Bool.and_eq_true] at ok
        exact src_rng2 g gl cnt pa ok.1 ok.2
      | [x, y, z], _, _ =>
        simp only [List.all_cons, List.all_nil, Bool.and_true, Bool.and_eq_true] at ok
        exact src_rng3 g gl cnt pa ok.1 ok.2.1 ok.2.2
      | _ :: _ :: _ :: _ :: _, _, h5 => simp at h5
    · cases h
  · split at h
    · rename_i y p0 args pos0
      simp only [Bool.and_eq_true, decide_eq_true_eq] at h
      obtain ⟨rfl, h3, h4, h5, h6⟩ := h
      obtain ⟨elts, kk, tpos, rfl⟩ := ht h5
      have gl := (glX f h3).1
      have ok := chkEs_ok h6
      have cnt := chkEs_cnt h6
      have pa := hs _ h6
      match args, h4 with
      | [x, y], _ =>
        simp only [List.all_cons, List.all_nil, Bool.and_true, Bool.and_eq_true] at ok
        exact src_zip g gl cnt pa ok.1 ok.2
    · cases h
  · split at h
    · rename_i y p0 args pos0
      simp only [Bool.and_eq_true, decide_eq_true_eq] at h
      obtain ⟨rfl, h3, h4, h5, h6⟩ := h
      obtain ⟨elts, kk, tpos, rfl⟩ := ht h5
      have gl := (glX f h3).1
      have ok := chkEs_ok h6
      have cnt := chkEs_cnt h6
      have pa := hs _ h6
      match args, h4 with
      | [x], _ => exact src_enum g gl pa cnt (by simpa using ok)
    · cases h
theorem tp_tuple {N : List Str} {c : Cs} {p : P} {x : Expr} (h : chkP N c p x = true) : isTp p = true → ∃ elts kk tpos, x = .Tuple elts kk tpos := by
  intro ht
  cases p <;> first | cases ht | skip
  unfold chkP at h
  split at h
  · exact ⟨_, _, _, rfl⟩
  · cases h
theorem snd (F : Fam T M G c1 c2 Good) : ∀ e, Snd T M G c1 c2 Good e := by
  intro e
  induction e with
  | nil => exact {
      pe := fun X W N c x g f h => by simp [chkE] at h
      pt := fun X W N c x g f h => by simp [chkE] at h
      pa := fun X W N c xs g f h => by
        cases xs with
        | nil => exact ev_nil
        | cons _ _ => simp [chkEs] at h
      po := fun X W N c o g f h => by
        cases o with
        | none => exact ev_none
        | some _ => simp [chkO] at h
      pi := fun X W N c xs g f h hl => by
        cases xs with
        | nil => exact evi_nil
        | cons _ _ => simp [chkEs] at h
      hd := fun a es z => by cases z
      hd2 := fun a b es z => by cases z }
  | cons a es iha ihb => exact {
      pe := fun X W N c x g f h => by simp [chkE] at h
      pt := fun X W N c x g f h => by simp [chkE] at h
      pa := fun X W N c xs g f h => by
        rcases noNil h with ⟨z, _⟩ | ⟨_, _, x, r, z, rfl, h1, h2⟩
        · cases z
        · cases z
          exact ev_cons (iha.pe X W N c x g f h1) (ihb.pa X W N c r g f h2) (chkE_ok h1)
      po := fun X W N c o g f h => by
        rcases noO h with ⟨z, _⟩ | ⟨_, x, z, rfl, h1⟩
        · cases z
        · cases z
          exact ev_part (iha.pe X W N c x g f h1)
      pi := fun X W N c xs g f h hl => by
        rcases noNil h with ⟨z, _⟩ | ⟨_, _, x, r, z, rfl, h1, h2⟩
        · cases z
        · cases z
          have hr : r = [] := by
            cases r with
            | nil => rfl
            | cons _ _ => simp at hl
          subst hr
          obtain rfl := chkEs_nil h2 rfl
          exact evi_one (iha.pt X W N c x g f h1)
      hd := fun a' es' z => by cases z; exact iha.pe
      hd2 := fun a' b' es' z => by cases z; exact ihb.hd _ _ rfl }
  | var i =>
    refine .of (by simp) (by simp) (fun X W N c x g f h => ?_) rfl
    unfold chkE at h
    split at h
    · simp only [Bool.and_eq_true, decide_eq_true_eq, Bool.not_eq_true'] at h
      refine ev_var (by rw [f.N]; exact h.1) ?_ h.2.2.1 h.2.2.2
      have := visB_ok h.2.1
      rw [← f.sc] at this
      exact this
    · cases h
  | cst w =>
    refine .of (by simp) (by simp) (fun X W N c x g f h => ?_) rfl
    unfold chkE at h
    split at h
    · exact ev_cst h
    · cases h
  | glb i =>
    refine .of (by simp) (by simp) (fun X W N c x g f h => ?_) rfl
    unfold chkE at h
    split at h
    · simp only [Bool.and_eq_true, decide_eq_true_eq] at h
      obtain ⟨rfl, h⟩ := h
      obtain ⟨a, b⟩ := glX f h
      exact ev_glb (F.xg X W g) a b
    · cases h
  | bin o a b iha ihb =>
    refine .of (by simp) (by simp) (fun X W N c x g f h => ?_) rfl
    unfold chkE at h
    split at h
    · simp only [Bool.and_eq_true, decide_eq_true_eq] at h
      obtain ⟨rfl, h1, h2⟩ := h
      exact ev_bin (F.xg X W g) o (iha.pe X W N c _ g f h1) (ihb.pe X W N c _ g f h2)
    · cases h
  | neg a iha =>
    refine .of (by simp) (by simp) (fun X W N c x g f h => ?_) rfl
    unfold chkE at h
    split at h
    · exact ev_neg (iha.pe X W N c _ g f h)
    · cases h
  | not a iha =>
    refine .ofT (by simp) (by simp) (fun X W N c x g f h => ?_) (fun X W N c x g f h => ?_)
    · unfold chkE at h
      split at h
      · exact ev_not (iha.pe X W N c _ g f h)
      · cases h
    · unfold chkE at h
      split at h
      · exact evT_not (iha.pt X W N c _ g f h)
      · cases h
  | cmp o a b iha ihb =>
    refine .ofT (by simp) (by simp) (fun X W N c x g f h => ?_) (fun X W N c x g f h => ?_)
    · unfold chkE at h
      split at h
      · simp only [Bool.and_eq_true, decide_eq_true_eq] at h
        obtain ⟨rfl, h1, h2⟩ := h
        exact ev_cmp (F.xg X W g) o (iha.pe X W N c _ g f h1) (ihb.pe X W N c _ g f h2) (chkE_ok h2)
      · cases h
    · unfold chkE at h
      split at h
      · simp only [Bool.and_eq_true, decide_eq_true_eq] at h
        obtain ⟨rfl, h1, h2⟩ := h
        exact evT_cmp (F.xg X W g) o (iha.pe X W N c _ g f h1) (ihb.pe X W N c _ g f h2) (chkE_ok h2)
      · cases h
  | chn o o' a b c iha ihb ihc =>
    refine .ofT (by simp) (by simp) (fun X W N c x g f h => ?_) (fun X W N c x g f h => ?_)
    · unfold chkE at h
      split at h
      · simp only [Bool.and_eq_true, decide_eq_true_eq] at h
        obtain ⟨rfl, rfl, h1, h2, h3⟩ := h
        exact ev_chn (F.xg X W g) o o' (iha.pe X W N c _ g f h1) (ihb.pe X W N c _ g f h2) (ihc.pe X W N c _ g f h3) (chkE_ok h3)
      · cases h
    · unfold chkE at h
      split at h
      · simp only [Bool.and_eq_true, decide_eq_true_eq] at h
        obtain ⟨rfl, rfl, h1, h2, h3⟩ := h
        exact evT_chn (F.xg X W g) o o' (iha.pe X W N c _ g f h1) (ihb.pe X W N c _ g f h2) (ihc.pe X W N c _ g f h3) (chkE_ok h3)
      · cases h
  | isn a iha =>
    refine .ofT (by simp) (by simp) (fun X W N c x g f h => ?_) (fun X W N c x g f h => ?_)
    · unfold chkE at h
      split at h
      · exact ev_isn (iha.pe X W N c _ g f h)
      · cases h
    · unfold chkE at h
      split at h
      · exact evT_isn (iha.pe X W N c _ g f h)
      · cases h
  | isnn a iha =>
    refine .ofT (by simp) (by simp) (fun X W N c x g f h => ?_) (fun X W N c x g f h => ?_)
    · unfold chkE at h
      split at h
      · exact ev_isnn (iha.pe X W N c _ g f h)
      · cases h
    · unfold chkE at h
      split at h
      · exact evT_isnn (iha.pe X W N c _ g f h)
      · cases h
  | eqd ng a _ => exact .of (by simp) (by simp) (fun X W N c x g f h => by simp [chkE] at h) rfl
  | and a b iha ihb =>
    refine .ofT (by simp) (by simp) (fun X W N c x g f h => ?_) (fun X W N c x g f h => ?_)
    · unfold chkE at h
      split at h
      · simp only [Bool.and_eq_true] at h
        exact ev_and (iha.pe X W N c _ g f h.1) (pe_one (ihb.pe X W N c _ g f h.2))
      · simp only [Bool.and_eq_true] at h
        exact ev_and (iha.pe X W N c _ g f h.1) (ihb.pe X W N c _ g f h.2)
      · cases h
    · unfold chkE at h
      split at h
      · simp only [Bool.and_eq_true] at h
        exact (evT_and (iha.pt X W N c _ g f h.1) (pw_and1 (ihb.pt X W N c _ g f h.2))).pt
      · simp only [Bool.and_eq_true] at h
        exact (evT_and (iha.pt X W N c _ g f h.1) (pw_of_pt (ihb.pt X W N c _ g f h.2))).pt
      · cases h
  | or a b iha ihb =>
    refine .ofT (by simp) (by simp) (fun X W N c x g f h => ?_) (fun X W N c x g f h => ?_)
    · unfold chkE at h
      split at h
      · simp only [Bool.and_eq_true] at h
        exact ev_or (iha.pe X W N c _ g f h.1) (pe_one (ihb.pe X W N c _ g f h.2))
      · simp only [Bool.and_eq_true] at h
        exact ev_or (iha.pe X W N c _ g f h.1) (ihb.pe X W N c _ g f h.2)
      · cases h
    · unfold chkE at h
      split at h
      · simp only [Bool.and_eq_true] at h
        exact (evT_or (iha.pt X W N c _ g f h.1) (pw_or1 (ihb.pt X W N c _ g f h.2))).pt
      · simp only [Bool.and_eq_true] at h
        exact (evT_or (iha.pt X W N c _ g f h.1) (pw_of_pt (ihb.pt X W N c _ g f h.2))).pt
      · cases h
  | ite t a b iht iha ihb =>
    refine .ofT (by simp) (by simp) (fun X W N c x g f h => ?_) (fun X W N c x g f h => ?_)
    · unfold chkE at h
      split at h
      · simp only [Bool.and_eq_true] at h
        exact ev_ite (iht.pt X W N c _ g f h.1) (iha.pe X W N c _ g f h.2.1) (ihb.pe X W N c _ g f h.2.2)
      · cases h
    · unfold chkE at h
      split at h
      · simp only [Bool.and_eq_true] at h
        exact evT_ite (iht.pt X W N c _ g f h.1) (iha.pt X W N c _ g f h.2.1) (ihb.pt X W N c _ g f h.2.2)
      · cases h
  | tup es ih =>
    refine .of (by simp) (by simp) (fun X W N c x g f h => ?_) rfl
    unfold chkE at h
    split at h
    · exact ev_tup (ih.pa X W N c _ g f h)
    · cases h
  | lst es ih =>
    refine .of (by simp) (by simp) (fun X W N c x g f h => ?_) rfl
    unfold chkE at h
    split at h
    · exact ev_lst (ih.pa X W N c _ g f h)
    · cases h
  | dic0 =>
    refine .of (by simp) (by simp) (fun X W N c x g f h => ?_) rfl
    unfold chkE at h
    split at h
    · exact ev_dic0
    · cases h
  | fld a i iha =>
    refine .of (by simp) (by simp) (fun X W N c x g f h => ?_) rfl
    unfold chkE at h
    split at h
    · simp only [Bool.and_eq_true, decide_eq_true_eq] at h
      obtain ⟨rfl, h1, h2⟩ := h
      exact ev_fld (F.xg X W g) (iha.pe X W N c _ g f h2) h1
    · cases h
  | idx a b iha ihb =>
    refine .of (by simp) (by simp) (fun X W N c x g f h => ?_) rfl
    unfold chkE at h
    split at h
    · simp only [Bool.and_eq_true] at h
      exact ev_idx (F.xg X W g) (iha.pe X W N c _ g f h.1) (ihb.pe X W N c _ g f h.2) (chkE_ok h.2)
    · cases h
  | slc a lo hi iha ihl ihh =>
    refine .of (by simp) (by simp) (fun X W N c x g f h => ?_) rfl
    unfold chkE at h
    split at h
    · simp only [Bool.and_eq_true] at h
      exact ev_slc (iha.pe X W N c _ g f h.1) (ihl.po X W N c _ g f h.2.1) (ihh.po X W N c _ g f h.2.2)
    · cases h
  | rev a iha =>
    refine .of (by simp) (by simp) (fun X W N c x g f h => ?_) rfl
    unfold chkE at h
    split at h
    · exact ev_rev (iha.pe X W N c _ g f h)
    · cases h
  | call i es ih =>
    refine .of (by simp) (by simp) (fun X W N c x g f h => ?_) rfl
    unfold chkE at h
    split at h
    · simp only [Bool.and_eq_true, decide_eq_true_eq] at h
      obtain ⟨rfl, h1, h2, h3⟩ := h
      obtain ⟨a, b⟩ := glX f h2
      exact ev_call (F.xg X W g) h1 a b (ih.pa X W N c _ g f h3) (chkEs_ok h3) (chkEs_nil h3)
    · cases h
  | meth a m es iha ih =>
    refine .of (by simp) (by simp) (fun X W N c x g f h => ?_) rfl
    unfold chkE at h
    split at h
    · simp only [Bool.and_eq_true, decide_eq_true_eq] at h
      obtain ⟨⟨rfl, h0⟩, h1, h2, h3, h4, h5⟩ := h
      exact ev_meth (F.xg X W g) h0 (iha.pe X W N c _ g f h3) h2 (ih.pa X W N c _ g f h5) (chkEs_ok h5) (chkEs_nil h5) h4 h1
    · cases h
  | make i es ih =>
    refine .of (by simp) (by simp) (fun X W N c x g f h => ?_) rfl
    unfold chkE at h
    split at h
    · simp only [Bool.and_eq_true, decide_eq_true_eq] at h
      obtain ⟨rfl, h1, h2, h3⟩ := h
      obtain ⟨a, b⟩ := glX f h2
      exact ev_make (F.xg X W g) h1 a b (ih.pa X W N c _ g f h3) (chkEs_ok h3) (chkEs_nil h3)
    · cases h
  | bi b es ih =>
    refine .of (by simp) (by simp) (fun X W N c x g f h => ?_) rfl
    unfold chkE at h
    split at h
    · rename_i y p0 args pos0
      simp only [Bool.and_eq_true, decide_eq_true_eq] at h
      obtain ⟨rfl, h2, h3⟩ := h
      have gl := (glX f h2).1
      have xg := F.xg X W g
      split at h3
      · simp only [Bool.and_eq_true, decide_eq_true_eq] at h3
        obtain ⟨h4, rfl, h6⟩ := h3
        exact ev_isinst xg gl (glX f h6).1 (ih.hd _ _ rfl X W N c _ g f h4) (chkE_ok h4)
      · simp only [Bool.and_eq_true, decide_eq_true_eq] at h3
        obtain ⟨h4, rfl, h6⟩ := h3
        exact ev_lenset xg gl (glX f h6).1 (ih.hd _ _ rfl X W N c _ g f h4) (chkE_ok h4)
      · simp only [Bool.and_eq_true, decide_eq_true_eq] at h3
        obtain ⟨h4, rfl, h6⟩ := h3
        exact ev_lrg1 xg gl (glX f h6).1 (ih.hd _ _ rfl X W N c _ g f h4) (chkE_ok h4)
      · simp only [Bool.and_eq_true, decide_eq_true_eq] at h3
        obtain ⟨h4, h5, rfl, h6⟩ := h3
        exact ev_lrg2 xg gl (glX f h6).1 (ih.hd _ _ rfl X W N c _ g f h4) (ih.hd2 _ _ _ rfl X W N c _ g f h5) (chkE_ok h4) (chkE_ok h5)
      · simp only [Bool.and_eq_true, decide_eq_true_eq] at h3
        exact ev_bi xg h3.1 gl (ih.pa X W N c _ g f h3.2) (chkEs_ok h3.2)
    · cases h
  | bm a m es iha ih =>
    refine .of (by simp) (by simp) (fun X W N c x g f h => ?_) rfl
    unfold chkE at h
    split at h
    · simp only [Bool.and_eq_true, decide_eq_true_eq] at h
      obtain ⟨rfl, h1, h2, h3, h4, h5⟩ := h
      exact ev_bm (F.xg X W g) h4 (iha.pe X W N c _ g f h3) (ih.pa X W N c _ g f h5) (chkEs_nil h5) (chkEs_ok h5) h2 h1
    · cases h
  | comp elt tg k src ifs own ihe ihs ihi =>
    refine .of (by simp) (by simp) (fun X W N c x g f h => ?_) rfl
    unfold chkE at h
    split at h
    · rename_i eltx tgx iter ifsx scope pos
      simp only [Bool.and_eq_true, decide_eq_true_eq] at h
      obtain ⟨h1, h2, h3, h4, h5, h6, h7, h8⟩ := h
      have xg := F.xg X W g
      have gb := fun (s : Shared) (H : Hp) (C : Addr) (cl : List (Str × Addr)) (fp : List Addr) => F.blk X W s H scope cl C fp g
      have fb : ∀ (s : Shared) (H : Hp) (C : Addr) (cl : List (Str × Addr)) (fp : List Addr), Fit (X.blk s H scope (compEnvC scope cl C X.env) fp) N (blkS c scope) := fun s H C cl fp => ⟨f.N, by show relS scope X.env.scope = relS scope c.sc; rw [f.sc], fun x h => h⟩
      refine PE.imp (ev_compL (f := fun s => compF T c1 c2 elt ifs tg own s) (ev_comp0 xg.calm xg.nd (chkI_ok xg f (fun xs hx => ihs.pa X W N c xs g f hx) ?_ (tp_tuple h4) h2) (blkOk_by (by rw [f.N, f.sc]; exact h3)) ?_ h7 ?_ ?_ ?_ h1)) fun σ H Q q => ?_
      · exact fun a x z hx => ihs.hd a .nil z X W N c x g f hx
      · rw [List.map_map]
        exact List.map_id' _
      · exact fun s H C cl fp => pg_P (fb s H C cl fp) (F.xg _ _ (gb s H C cl fp)).calm (F.xg _ _ (gb s H C cl fp)).nd tg tgx h4
      · exact fun s H C cl fp => ihi.pi _ Wf N _ ifsx (gb s H C cl fp) (fb s H C cl fp) h5 h6
      · exact fun s H C cl fp => ihe.pe _ Wf N _ eltx (gb s H C cl fp) (fb s H C cl fp) h8
      · have key : ev T c1 c2 (.comp elt tg k src ifs own) = fun s h => compL k (evs T c1 c2 src s) (compF T c1 c2 elt ifs tg own s) h := by
          funext s h
          simp only [ev]
          rfl
        have q : lE X.K G W (ev T c1 c2 (.comp elt tg k src ifs own)) σ H Q := q
        rw [key] at q
        exact q
    · cases h
  | frz a iha =>
    refine .ofT (by simp) (by simp) (fun X W N c x g f h => ev_frz (iha.pe X W N c _ g f (by unfold chkE at h; exact h))) (fun X W N c x g f h => ?_)
    refine PT.imp (iha.pt X W N c _ g f (by unfold chkE at h; exact h)) fun σ H Q ⟨ρ, s, h, rl, rs, out⟩ => ⟨ρ, s, h, rl, rs, ?_⟩
    unfold evB at out ⊢
    simp only [ev] at out
    obtain ⟨c, w, h1, e, q⟩ := frz_noBl out
    rw [e]
    exact q
  | never => exact .of (by simp) (by simp) (fun X W N c x g f h => by simp [chkE] at h) rfl
end
end VM

set_option linter.all false
set_option autoImplicit false
set_option maxRecDepth 100000
set_option maxHeartbeats 8000000
/-! VM7: statements: rules. -/
namespace VM
open PySem PySem.Spec PyProof.Rows L2
abbrev WXa (W : WX) : XK := fun c d H => ∀ σ, W c d σ H
section
variable (K : PySem.W.Frag) (G : Sta)
def PF (ρ : Rho) (H : Hp) (D : Ends) : Fl → VH → Prop
  | .nx s1, h' => ∀ ρ' H' σ', Le ρ H ρ' H' → Rl K G ρ' h' H' → RS K ρ' H' s1 σ' → D.nx σ' H'
  | .rt w, h' => ∀ ρ' H' v, Le ρ H ρ' H' → Rl K G ρ' h' H' → RV K ρ' H' w v → D.rt v H'
  | .ct s1, h' => ∀ ρ' H' σ', Le ρ H ρ' H' → Rl K G ρ' h' H' → RS K ρ' H' s1 σ' → D.ct σ' H'
def lS (W : WX) (f : VS → VH → R Fl) : TS := fun D σ H => ∃ ρ s h, Rl K G ρ h H ∧ RS K ρ H s σ ∧ OutR (PF K G ρ H D) (FinX K G ρ H (WXa W)) (f s h)
end
theorem PS.imp {X : Cx} {e : Stmt} {t t' : TS} (p : PS X e t) (h : ∀ D σ H, t' D σ H → t D σ H) : PS X e t' := ⟨fun pins s σ H D I q => p.run pins s σ H D I (h D σ H q)⟩
theorem PSs.imp {X : Cx} {e : List Stmt} {t t' : TS} (p : PSs X e t) (h : ∀ D σ H, t' D σ H → t D σ H) : PSs X e t' := ⟨fun pins s σ H D I q => p.run pins s σ H D I (h D σ H q)⟩
theorem PS.any {X : Cx} {e : Stmt} {ι : Type} {t : ι → TS} (p : ∀ i, PS X e (t i)) : PS X e (fun D σ H => ∃ i, t i D σ H) := ⟨fun pins s σ H D I ⟨i, q⟩ => (p i).run pins s σ H D I q⟩
section
variable {K : PySem.W.Frag} {G : Sta} {ρ ρ1 : Rho} {H H1 : Hp} {h : VH} {s : VS} {σ : L2.St} {W : WX} {D : Ends}
theorem PF.le {fl : Fl} {h' : VH} (l : Le ρ H ρ1 H1) (f : PF K G ρ H D fl h') : PF K G ρ1 H1 D fl h' := by
  cases fl with
  | nx s1 => exact fun ρ' H' σ' l' r q => f ρ' H' σ' (l.trans l') r q
  | rt w => exact fun ρ' H' v l' r q => f ρ' H' v (l.trans l') r q
  | ct s1 => exact fun ρ' H' σ' l' r q => f ρ' H' σ' (l.trans l') r q
theorem outS {E : XK} {r : R Fl} (l : Le ρ H ρ1 H1) (o : OutR (PF K G ρ H D) (FinX K G ρ H E) r) : OutR (PF K G ρ1 H1 D) (FinX K G ρ1 H1 E) r := o.imp (fun _ _ => PF.le l) fun _ _ _ => FinX.le l
theorem FinX.toS {c : Nat} {w : VM.W} {h' : VH} (f : FinX K G ρ H (WXa W) c w h') : FinX K G ρ H (WXs W σ) c w h' := fun ρ' H' cls d l r x => f ρ' H' cls d l r x σ
theorem seqES {α : Type} {f : VS → VH → R VM.W} {g : VM.W → VH → R α} {P : α → VH → Prop} {Q : VK} (rl : Rl K G ρ h H) (rs : RS K ρ H s σ) (o : OutR P (FinX K G ρ H (WXa W)) ((f s h).bind g))
    (k : ∀ w h1 ρ1 H1 v, Le ρ H ρ1 H1 → Rl K G ρ1 h1 H1 → RS K ρ1 H1 s σ → RV K ρ1 H1 w v → OutR P (FinX K G ρ H (WXa W)) (g w h1) → Q v H1) : lE K G W f σ H Q := by
  refine ⟨ρ, s, h, rl, rs, ?_⟩
  cases e : f s h with
  | ok a h1 => rw [e] at o; exact fun ρ' H' v l r q => k a h1 ρ' H' v l r (rs.le l) q o
  | exc c w h1 => rw [e] at o; exact FinX.toS o
  | bad => rw [e] at o; exact o
theorem seqTS {α : Type} {f : VS → VH → R Bool} {g : Bool → VH → R α} {P : α → VH → Prop} {Q : Bool → Hp → Prop} (rl : Rl K G ρ h H) (rs : RS K ρ H s σ) (o : OutR P (FinX K G ρ H (WXa W)) ((f s h).bind g))
    (k : ∀ w h1 ρ1 H1, Le ρ H ρ1 H1 → Rl K G ρ1 h1 H1 → RS K ρ1 H1 s σ → OutR P (FinX K G ρ H (WXa W)) (g w h1) → Q w H1) : lT K G W f σ H Q := by
  refine ⟨ρ, s, h, rl, rs, ?_⟩
  cases e : f s h with
  | ok a h1 => rw [e] at o; exact fun ρ' H' l r => k a h1 ρ' H' l r (rs.le l) o
  | exc c w h1 => rw [e] at o; exact FinX.toS o
  | bad => rw [e] at o; exact o
theorem PF.nxt {fl : Fl} {h' : VH} {D1 D2 : Ends} (f : PF K G ρ H D1 fl h') (h1 : ∀ s1, fl = .nx s1 → PF K G ρ H D1 fl h' → PF K G ρ H D2 fl h') (h2 : D1.rt = D2.rt) (h3 : D1.ct = D2.ct) : PF K G ρ H D2 fl h' := by
  cases fl with
  | nx s1 => exact h1 s1 rfl f
  | rt w => exact fun ρ' H' v l' r q => h2 ▸ f ρ' H' v l' r q
  | ct s1 => exact fun ρ' H' σ' l' r q => h3 ▸ f ρ' H' σ' l' r q
end
section
variable {T : Tab} {M : Nms} {G : Sta} {c1 c2 : Nat → List VM.W → VH → R VM.W} {X : Cx} {W : WX}
variable {a b : S} {e e1 e2 : E} {x y z : Expr} {pos pos' p : Pos} {st : Stmt} {sts : List Stmt}
abbrev lSx (T : Tab) (G : Sta) (c1 c2 : Nat → List VM.W → VH → R VM.W) (X : Cx) (W : WX) (b : S) : TS := lS X.K G W (exS T c1 c2 b)
theorem st_nil : PSs X [] (lSx T G c1 c2 X W .nil) := by
  refine PSs.imp pss_nil fun D σ H ⟨ρ, s, h, rl, rs, out⟩ => ?_
  have out : OutR (PF X.K G ρ H D) (FinX X.K G ρ H (WXa W)) (.ok (.nx s) h) := by simpa only [exS] using out
  exact out ρ H σ Le.refl rl rs
theorem st_cons (ha : PS X st (lSx T G c1 c2 X W a)) (hb : PSs X sts (lSx T G c1 c2 X W b)) : PSs X (st :: sts) (lSx T G c1 c2 X W (.cons a b)) := by
  refine PSs.imp (pss_cons ha hb) fun D σ H ⟨ρ, s, h, rl, rs, out⟩ => ?_
  refine ⟨ρ, s, h, rl, rs, ?_⟩
  have key : exS T c1 c2 (.cons a b) s h = (exS T c1 c2 a s h).bind fun fl h1 => match fl with
    | .nx s1 => exS T c1 c2 b s1 h1
    | .ct s1 => .ok (.ct s1) h1
    | .rt w => .ok (.rt w) h1 := by
    simp only [exS]
    try rfl
  rw [key] at out
  cases ea : exS T c1 c2 a s h with
  | bad => rw [ea] at out; exact out
  | exc c w h1 => rw [ea] at out; exact out
  | ok fl h1 =>
    rw [ea] at out
    cases fl with
    | nx s1 => exact fun ρ' H' σ' l r q => ⟨ρ', s1, h1, r, q, outS l out⟩
    | rt w => exact out
    | ct s1 => exact out
/-- a statement, and then a list is written no more -/
theorem ps_frz {t : TS} (h : PS X st t) : PS X st (fun D σ H => t ⟨fun σ' H' => D.nx σ' H' ∨ ∃ a xs, H' a = some (.lst xs) ∧ ∀ o, D.nx σ' (upd H' a (.frz o (.lst xs))), D.rt, D.bk, D.ct⟩ σ H) := by
  refine ⟨fun pins s σ H D I hw => ?_⟩
  refine thn (h.run pins s σ _ _ I hw) fun f s1 q => ?_
  cases f with
  | next =>
    obtain ⟨σ', H', I2, q⟩ := q
    rcases q with q | ⟨a, xs, e, q⟩
    · exact ⟨σ', H', I2, q⟩
    · obtain ⟨od, I3⟩ := I2.lock e trivial
      exact ⟨σ', _, I3, q od⟩
  | brk => exact q
  | cont => exact q
  | ret v => exact q
theorem st_frz {i : Nat} (ha : PS X st (lSx T G c1 c2 X W a)) : PS X st (lSx T G c1 c2 X W (.frzS i a)) := by
  refine PS.imp (ps_frz ha) fun D σ H ⟨ρ, s, h, rl, rs, out⟩ => ?_
  refine ⟨ρ, s, h, rl, rs, ?_⟩
  simp only [exS] at out
  cases e : exS T c1 c2 a s h with
  | bad => rw [e] at out; exact out
  | exc c w h1 => rw [e] at out; exact out
  | ok fl h1 =>
    rw [e] at out
    cases fl with
    | rt w => exact out
    | ct s1 => exact out
    | nx s1 =>
      simp only [R.bind_ok] at out
      split at out
      · rename_i n hn
        split at out
        · rename_i ws hf
          intro ρ' H' σ' l r q
          have hs : s1[i]? = some (some (.ref n)) := by
            cases z : s1[i]? with
            | none => rw [z] at hn; cases hn
            | some o => rw [z] at hn; cases o with
              | none => cases hn
              | some w => cases hn; rfl
          obtain ⟨v, hv, a, ea, rfl⟩ := q.2 i _ hs
          obtain ⟨vs, hz, qs⟩ := r.lst ea hf
          refine .inr ⟨a, vs, hz, fun o => ?_⟩
          refine out ρ' _ σ' (l.trans (Le.frz ea hz)) (r.frz ea hz) ⟨by rw [List.length_set]; exact q.1, fun j w ej => ?_⟩
          by_cases hj : i = j
          · subst hj
            have hi : i < s1.length := (List.getElem?_eq_some_iff.mp hs).1
            rw [List.getElem?_set_self hi] at ej
            cases ej
            exact ⟨_, hv, a, vs, rfl, ⟨o, upd_same⟩, qs.mono (Le.frz ea hz)⟩
          · rw [List.getElem?_set_ne hj] at ej
            obtain ⟨v, hv, rv⟩ := q.2 j w ej
            exact ⟨v, hv, rv.mono (Le.frz ea hz)⟩
        · exact out.elim
      · exact out.elim
theorem st_pass : PS X (.Pass pos) (lSx T G c1 c2 X W .pass) := by
  refine PS.imp ps_pass fun D σ H ⟨ρ, s, h, rl, rs, out⟩ => ?_
  have out : OutR (PF X.K G ρ H D) (FinX X.K G ρ H (WXa W)) (.ok (.nx s) h) := by simpa only [exS] using out
  exact out ρ H σ Le.refl rl rs
theorem st_cont : PS X (.Continue pos) (lSx T G c1 c2 X W .cont) := by
  refine PS.imp ps_continue fun D σ H ⟨ρ, s, h, rl, rs, out⟩ => ?_
  have out : OutR (PF X.K G ρ H D) (FinX X.K G ρ H (WXa W)) (.ok (.ct s) h) := by simpa only [exS] using out
  exact out ρ H σ Le.refl rl rs
theorem st_never : PS X st (lSx T G c1 c2 X W .never) := PS.imp ps_never fun D σ H ⟨ρ, s, h, rl, rs, out⟩ => by
  have out : OutR (PF X.K G ρ H D) (FinX X.K G ρ H (WXa W)) .bad := by simpa only [exS] using out
  exact out
theorem st_exp (ha : PE X x (lEx T G c1 c2 X W e)) (hs : swapsWith x none pos.line X.env = pure false) : PS X (.Expr x pos) (lSx T G c1 c2 X W (.exp e)) := by
  refine PS.imp (ps_expr ha hs) fun D σ H ⟨ρ, s, h, rl, rs, out⟩ => ?_
  refine seqES rl rs (by simpa only [exS] using out) fun w1 h1 ρ1 H1 v1 l1 rl1 rs1 r1 o1 => ?_
  exact outS l1 o1 ρ1 H1 σ Le.refl rl1 rs1
theorem st_ret (ha : PE X x (lEx T G c1 c2 X W e)) : PS X (.Return (some x) pos) (lSx T G c1 c2 X W (.ret e)) := by
  refine PS.imp (ps_ret ha) fun D σ H ⟨ρ, s, h, rl, rs, out⟩ => ?_
  refine seqES rl rs (by simpa only [exS] using out) fun w1 h1 ρ1 H1 v1 l1 rl1 rs1 r1 o1 => ?_
  exact outS l1 o1 ρ1 H1 v1 Le.refl rl1 r1
theorem st_retN : PS X (.Return none pos) (lSx T G c1 c2 X W .retN) := by
  refine PS.imp ps_retN fun D σ H ⟨ρ, s, h, rl, rs, out⟩ => ?_
  have out : OutR (PF X.K G ρ H D) (FinX X.K G ρ H (WXa W)) (.ok (.rt .non) h) := by simpa only [exS] using out
  exact out ρ H .non Le.refl rl rfl
theorem st_setN {i : Nat} {n : Str} (hN : X.N.Nodup) (hi : X.N[i]? = some n) (hx : Loc X.env.scope n) (hf : X.fn n = true ∨ X.env.scope.names.lookup n = some .local) (ha : PE X x (lEx T G c1 c2 X W e)) (hs : swapsWith x (some (.Name n pos')) pos.line X.env = pure false) :
    PS X (.Assign [.Name n pos'] x pos) (lSx T G c1 c2 X W (.setN i e)) := by
  refine PS.imp (ps_set hN hi hx ha hs hf) fun D σ H ⟨ρ, s, h, rl, rs, out⟩ => ?_
  refine seqES rl rs (by simpa only [exS] using out) fun w1 h1 ρ1 H1 v1 l1 rl1 rs1 r1 o1 => ?_
  exact outS l1 o1 ρ1 H1 _ Le.refl rl1 (rs1.set i r1)
theorem st_setP {q : P} {tgx : Expr} (hg : PG X tgx (gP X.K q)) (ha : PE X x (lEx T G c1 c2 X W e)) (hs : swapsWithSole [tgx] x pos.line X.env = pure false) (hw : swappedStores [tgx] x X.env = pure none) (h1 : (assignEach [tgx] X.env).map (·.2) = [assign tgx X.env]) :
    PS X (.Assign [tgx] x pos) (lSx T G c1 c2 X W (.setP q e)) := by
  refine PS.imp (ps_asg ha hg hs hw h1) fun D σ H ⟨ρ, s, h, rl, rs, out⟩ => ?_
  refine seqES rl rs (by simpa only [exS] using out) fun w1 h1 ρ1 H1 v1 l1 rl1 rs1 r1 o1 => ?_
  have o1 := outS l1 o1
  cases ea : asg q w1 s with
  | none => rw [ea] at o1; exact o1.elim
  | some s1 =>
    rw [ea] at o1
    exact gP_ok q w1 v1 s s1 σ D.nx r1 rs1 ea fun σ' rs' _ => o1 ρ1 H1 σ' Le.refl rl1 rs'
theorem st_par {i j : Nat} {n m : Str} {px py pt : Pos} {kt k2 : Nat} {pt2 : Pos} (hc : X.calm = true) (hN : X.N.Nodup) (hi : X.N[i]? = some n) (hj : X.N[j]? = some m) (hij : i ≠ j)
    (hx : X.env.scope.names.lookup n = some .local) (hy : X.env.scope.names.lookup m = some .local) (ha : PA X [x, y] (lA X.K G W (evs T c1 c2 (.cons e1 (.cons e2 .nil)))))
    (hw : swappedStores [.Tuple [.Name n px, .Name m py] kt pt] (.Tuple [x, y] k2 pt2) X.env = pure (some [n, m])) :
    PS X (.Assign [.Tuple [.Name n px, .Name m py] kt pt] (.Tuple [x, y] k2 pt2) pos) (lSx T G c1 c2 X W (.par i j e1 e2)) := by
  refine PS.imp (ps_par hc hN hi hj hij hx hy ha hw) fun D σ H ⟨ρ, s, h, rl, rs, out⟩ => ?_
  have key : exS T c1 c2 (.par i j e1 e2) s h = (evs T c1 c2 (.cons e1 (.cons e2 .nil)) s h).bind fun ws h2 => match ws with
    | [x, y] => .ok (.nx ((s.set i (some x)).set j (some y))) h2
    | _ => .bad := by
    simp only [exS, evs, R.bind_bind]
    try rfl
  rw [key] at out
  refine ⟨ρ, s, h, rl, rs, ?_⟩
  cases ee : evs T c1 c2 (.cons e1 (.cons e2 .nil)) s h with
  | bad => rw [ee] at out; exact out
  | exc c w h1 => rw [ee] at out; exact FinX.toS out
  | ok ws h1 =>
    rw [ee] at out
    obtain ⟨w, w', rfl⟩ := len2 (evs_len _ s h h1 ws ee)
    intro ρ1 H1 vs l1 rl1 r1
    obtain ⟨v, v', rfl, rv, rv'⟩ := r1.two
    exact ⟨v, v', rfl, out ρ1 H1 _ l1 rl1 (((rs.le l1).set i rv).set j rv')⟩
/-- what writing a field does to the fields -/
theorem putF_rel {ρ : Rho} {H : Hp} {cl f : Nat} {w : VM.W} {v : V} (inj : ∀ g', G.fl cl g' = true → G.fnm g' = G.fnm f → g' = f) (rv : RV X.K ρ H w v) :
    ∀ {fs : List (Nat × VM.W)} {fs' : List (Str × V)}, RFs X.K G ρ H fs fs' → (∀ p ∈ fs, G.fl cl p.1 = true) → RFs X.K G ρ H (fPut f w fs) (putF (G.fnm f) v fs')
  | _, _, .nil, _ => .cons ⟨rfl, rv⟩ .nil
  | (k, x) :: fs, (n, u) :: fs', .cons p q, hf => by
    obtain ⟨e0, r⟩ := p
    have e1 : G.fnm k = n := e0
    subst e1
    unfold fPut putF
    by_cases z : k = f
    · subst z
      simp only [if_true, beq_self_eq_true]
      exact .cons ⟨rfl, rv⟩ q
    · have z2 : (G.fnm k == G.fnm f) = false := by
        simp only [beq_eq_false_iff_ne]
        exact fun y => z (inj k (hf (k, x) (List.mem_cons_self ..)) y)
      rw [if_neg z]
      have e3 : (if G.fnm k = G.fnm f then (G.fnm k, v) :: fs' else (G.fnm k, u) :: putF (G.fnm f) v fs') = (G.fnm k, u) :: putF (G.fnm f) v fs' := if_neg (by simpa using z2)
      first
        | (rw [e3]; exact Paired.cons ⟨rfl, r⟩ (putF_rel inj rv q fun p hp => hf p (List.mem_cons_of_mem _ hp)))
        | (simp only [z2, Bool.false_eq_true, if_false]; exact Paired.cons ⟨rfl, r⟩ (putF_rel inj rv q fun p hp => hf p (List.mem_cons_of_mem _ hp)))
theorem fPut_mem {cl f : Nat} {w : VM.W} (hf : G.fl cl f = true) : ∀ {fs : List (Nat × VM.W)}, (∀ p ∈ fs, G.fl cl p.1 = true) → ∀ p ∈ fPut f w fs, G.fl cl p.1 = true
  | [], _, p, hp => by
    simp only [fPut, List.mem_singleton] at hp
    subst hp; exact hf
  | (k, x) :: fs, h, p, hp => by
    unfold fPut at hp
    split at hp
    · rename_i z
      rcases List.mem_cons.mp hp with rfl | hp
      · exact h (k, x) (List.mem_cons_self ..)
      · exact h p (List.mem_cons_of_mem _ hp)
    · rcases List.mem_cons.mp hp with rfl | hp
      · exact h (k, x) (List.mem_cons_self ..)
      · exact fPut_mem hf (fun p hp => h p (List.mem_cons_of_mem _ hp)) p hp
theorem fPut_len {f : Nat} {w : VM.W} : ∀ {fs : List (Nat × VM.W)}, True
  | _ => trivial
theorem st_setF (g : XG T M G c1 c2 X W) {f : Nat} (ho : PE X x (lEx T G c1 c2 X W e1)) (hv : PE X y (lEx T G c1 c2 X W e2)) (hs : swapsWith y (some (.Attribute x (M.fl f) pos')) pos.line X.env = pure false) :
    PS X (.Assign [.Attribute x (M.fl f) pos'] y pos) (lSx T G c1 c2 X W (.setF e1 f e2)) := by
  refine PS.imp (ps_fld ho hv hs) fun D σ H ⟨ρ, s, h, rl, rs, out⟩ => ?_
  refine seqES rl rs (by simpa only [exS] using out) fun w1 h1 ρ1 H1 v1 l1 rl1 rs1 r1 o1 => ?_
  refine seqES rl1 rs1 (P := PF X.K G ρ1 H1 D) (outS l1 o1) fun w2 h2 ρ2 H2 v2 l2 rl2 rs2 r2 o2 => ?_
  have o2 := outS l2 o2
  cases w2 with
  | ref n =>
    obtain ⟨p, ep, rfl⟩ := r2
    simp only at o2
    cases hf : h2.f n with
    | none => simp only [hf] at o2; exact o2.elim
    | some ob =>
      simp only [hf] at o2
      cases ob with
      | ins cl fs =>
        simp only at o2
        split at o2
        rotate_left
        · exact o2.elim
        rename_i hz
        obtain ⟨hl, hfl⟩ := hz
        obtain ⟨dx, fs', e2, rf, hfa⟩ := rl2.ins ep hf
        have hfl' : G.fl cl f = true := by rw [g.fl]; exact hfl
        obtain ⟨cc, na⟩ := g.at_ cl f hfl'
        have en : G.fnm f = M.fl f := by rw [g.nm]
        have nz : ∀ ob u, H2 p ≠ some (.frz ob u) := fun _ _ z => by rw [e2] at z; cases z
        have hlen : fs.length = fs'.length := Paired.length rf
        refine ⟨p, _, dx, fs', rfl, e2, cc, by rw [← en]; exact na, by omega, ?_⟩
        have inj := fun g' a b => g.inj cl g' f a hfl' b
        have lo := Le.setO (o := .ins (G.ca cl) dx (putF (M.fl f) v1 fs')) rl2 ep nz
        refine o2 ρ2 _ σ lo (rl2.setO ep nz ⟨dx, _, upd_same, ?_, fPut_mem hfl' hfa⟩) (rs2.le lo)
        rw [← en]
        exact (putF_rel inj (r1.mono l2) rf hfa).mono (by rw [← en] at lo; exact lo)
      | lst _ => exact o2.elim
      | dic _ _ => exact o2.elim
  | _ => exact o2.elim
theorem st_ite {c : E} (hc : PT X x (lTx T G c1 c2 X W c)) (ha : PSs X sts (lSx T G c1 c2 X W a)) {sts' : List Stmt} (hb : PSs X sts' (lSx T G c1 c2 X W b)) : PS X (.If x sts sts' pos) (lSx T G c1 c2 X W (.ite c a b)) := by
  refine PS.imp (ps_if hc ha hb) fun D σ H ⟨ρ, s, h, rl, rs, out⟩ => ?_
  have key : exS T c1 c2 (.ite c a b) s h = (evB T c1 c2 c s h).bind fun t h1 => if t then exS T c1 c2 a s h1 else exS T c1 c2 b s h1 := by
    rw [evB_eq]
    simp only [exS]
  rw [key] at out
  refine seqTS rl rs out fun t h1 ρ1 H1 l1 rl1 rs1 o1 => ?_
  cases t with
  | true => exact ⟨ρ1, s, h1, rl1, rs1, outS l1 o1⟩
  | false => exact ⟨ρ1, s, h1, rl1, rs1, outS l1 o1⟩
end
end VM

set_option linter.all false
set_option autoImplicit false
set_option maxRecDepth 100000
set_option maxHeartbeats 8000000
/-! VM7b: statements: items, loops. -/
namespace VM
open PySem PySem.Spec PyProof.Rows L2
section
variable {T : Tab} {M : Nms} {G : Sta} {c1 c2 : Nat → List VM.W → VH → R VM.W} {X : Cx} {W : WX}
variable {a b : S} {e e1 e2 e3 : E} {x y z : Expr} {pos pos' p : Pos} {st : Stmt} {sts : List Stmt}
theorem sub_ok {o i : Expr} {p : Pos} {env : Env} (h : okX i = true) : ∀ v, assign (.Subscript o i p) env v = (do
      let ov ← holding [v] (eval o env)
      let iv ← holding [v, ov] (eval i env)
      standAt p
      holding [v, ov, iv] (setItem ov iv v)
      release [v, ov, iv] []) := by
  cases i <;> first | (intro _; rfl) | cases h
theorem st_setI (g : XG T M G c1 c2 X W) (oy : okX y = true) (ho : PE X x (lEx T G c1 c2 X W e1)) (hi : PE X y (lEx T G c1 c2 X W e2)) (hv : PE X z (lEx T G c1 c2 X W e3)) (hs : swapsWith z (some (.Subscript x y pos')) pos.line X.env = pure false) (hw : swappedStores [.Subscript x y pos'] z X.env = pure none) :
    PS X (.Assign [.Subscript x y pos'] z pos) (lSx T G c1 c2 X W (.setI e1 e2 e3)) := by
  have one : ∀ i : Bool, PS X (.Assign [.Subscript x y pos'] z pos) (if i = true then sDPut (lEx T G c1 c2 X W e1) (lEx T G c1 c2 X W e2) (lEx T G c1 c2 X W e3) else tAsg (lEx T G c1 c2 X W e3) (gSub (lEx T G c1 c2 X W e1) (lEx T G c1 c2 X W e2) rSetL)) := fun i => match i with
    | true => ps_dput (by have := g.room; omega) ho hi hv hs
    | false => ps_asg hv (pg_sub ho hi set_list (sub_ok oy)) hs hw
  refine PS.imp (PS.any one) fun D σ H ⟨ρ, s, h, rl, rs, out⟩ => ?_
  have key : exS T c1 c2 (.setI e1 e2 e3) s h = (ev T c1 c2 e3 s h).bind fun w h1 => (ev T c1 c2 e1 s h1).bind fun x h2 => (ev T c1 c2 e2 s h2).bind fun y h3 => match x with
    | .ref n => (match h3.f n, y with
      | some (.lst xs), .int k => (match ixN xs.length k with
        | some j => .ok (.nx s) (h3.set n (.lst (xs.set j w)))
        | none => .bad)
      | some (.dic false kvs), y => (match keyW y with
        | some k => if kvs.length < 16777216 then .ok (.nx s) (h3.set n (.dic false (kvPut kvs k w))) else .bad
        | none => .bad)
      | _, _ => .bad)
    | _ => .bad := by
    simp only [exS]
    try rfl
  rw [key] at out
  -- how it goes
  have go : ∀ i : Bool, (∀ w h1 x h2 y h3, ev T c1 c2 e3 s h = .ok w h1 → ev T c1 c2 e1 s h1 = .ok x h2 → ev T c1 c2 e2 s h2 = .ok y h3 → ∃ n, x = .ref n ∧ (if i = true then ∃ kvs, h3.f n = some (.dic false kvs) else ∃ xs, h3.f n = some (.lst xs))) →
      (if i = true then sDPut (lEx T G c1 c2 X W e1) (lEx T G c1 c2 X W e2) (lEx T G c1 c2 X W e3) else tAsg (lEx T G c1 c2 X W e3) (gSub (lEx T G c1 c2 X W e1) (lEx T G c1 c2 X W e2) rSetL)) D σ H := by
    intro i hk
    cases i with
    | true =>
      simp only [if_true] at hk ⊢
      refine ⟨ρ, s, h, rl, rs, ?_⟩
      cases ev3 : ev T c1 c2 e3 s h with
      | bad => rw [ev3] at out; exact out
      | exc c w h1 => rw [ev3] at out; exact FinX.toS out
      | ok w h1 =>
        rw [ev3] at out
        simp only [R.bind_ok] at out
        intro ρ1 H1 v1 l1 rl1 r1
        refine ⟨ρ1, s, h1, rl1, rs.le l1, ?_⟩
        have out := outS l1 out
        cases ev1 : ev T c1 c2 e1 s h1 with
        | bad => rw [ev1] at out; exact out
        | exc c w h1 => rw [ev1] at out; exact FinX.toS out
        | ok w' h2 =>
          rw [ev1] at out
          simp only [R.bind_ok] at out
          intro ρ2 H2 v2 l2 rl2 r2
          refine ⟨ρ2, s, h2, rl2, (rs.le l1).le l2, ?_⟩
          have out := outS l2 out
          cases ev2 : ev T c1 c2 e2 s h2 with
          | bad => rw [ev2] at out; exact out
          | exc c w h1 => rw [ev2] at out; exact FinX.toS out
          | ok y h3 =>
            rw [ev2] at out
            simp only [R.bind_ok] at out
            intro ρ3 H3 v3 l3 rl3 r3
            have out := outS l3 out
            obtain ⟨n, rfl, kvs, hf⟩ := hk w h1 w' h2 y h3 ev3 ev1 ev2
            simp only [hf] at out
            cases hy : keyW y with
            | none => rw [hy] at out; exact out.elim
            | some k =>
              rw [hy] at out
              simp only at out
              split at out
              rotate_left
              · exact out.elim
              rename_i hz
              obtain ⟨d, ed, rfl⟩ := r2.mono l3
              obtain ⟨kvs', rk, hd⟩ := rl3.dic ed hf
              simp only [Bool.false_eq_true, if_false] at hd
              obtain ⟨rfl, hks⟩ := key_rel r3 hy
              have hlen : kvs.length = kvs'.length := Paired.length rk
              have nz : ∀ ob u, H3 d ≠ some (.frz ob u) := fun _ _ z => by rw [hd] at z; cases z
              refine ⟨d, _, rfl, DPut.k hd (by rw [sizeLine_eq]; omega), ?_⟩
              have lo := Le.setO (o := .dK (putK kvs' k v1)) rl3 ed nz
              refine out ρ3 _ σ lo (rl3.setO ed nz ⟨putK kvs' k v1, (rk.put ((r1.mono l2).mono l3) hks).mono lo, ?_⟩) ((((rs.le l1).le l2).le l3).le lo)
              simp only [Bool.false_eq_true, if_false]
              exact upd_same
    | false =>
      simp only [Bool.false_eq_true, if_false] at hk ⊢
      refine ⟨ρ, s, h, rl, rs, ?_⟩
      cases ev3 : ev T c1 c2 e3 s h with
      | bad => rw [ev3] at out; exact out
      | exc c w h1 => rw [ev3] at out; exact FinX.toS out
      | ok w h1 =>
        rw [ev3] at out
        simp only [R.bind_ok] at out
        intro ρ1 H1 v1 l1 rl1 r1
        refine ⟨ρ1, s, h1, rl1, rs.le l1, ?_⟩
        have out := outS l1 out
        cases ev1 : ev T c1 c2 e1 s h1 with
        | bad => rw [ev1] at out; exact out
        | exc c w h1 => rw [ev1] at out; exact FinX.toS out
        | ok w' h2 =>
          rw [ev1] at out
          simp only [R.bind_ok] at out
          intro ρ2 H2 v2 l2 rl2 r2
          refine ⟨ρ2, s, h2, rl2, (rs.le l1).le l2, ?_⟩
          have out := outS l2 out
          cases ev2 : ev T c1 c2 e2 s h2 with
          | bad => rw [ev2] at out; exact out
          | exc c w h1 => rw [ev2] at out; exact FinX.toS out
          | ok y h3 =>
            rw [ev2] at out
            simp only [R.bind_ok] at out
            intro ρ3 H3 v3 l3 rl3 r3
            have out := outS l3 out
            obtain ⟨n, rfl, xs, hf⟩ := hk w h1 w' h2 y h3 ev3 ev1 ev2
            simp only [hf] at out
            cases y with
            | int k =>
              simp only at out
              cases hx : ixN xs.length k with
              | none => rw [hx] at out; exact out.elim
              | some j =>
                rw [hx] at out
                obtain ⟨d, ed, rfl⟩ := r2.mono l3
                obtain ⟨vs, hd, qs⟩ := rl3.lst ed hf
                cases r3
                have nz : ∀ ob u, H3 d ≠ some (.frz ob u) := fun _ _ z => by rw [hd] at z; cases z
                have lo := Le.setO (o := .lst (vs.set j v1)) rl3 ed nz
                refine ⟨d, vs, k, j, rfl, rfl, hd, by rw [← qs.len]; exact hx, ?_⟩
                exact out ρ3 _ σ lo (rl3.setO ed nz ⟨_, upd_same, (qs.set j ((r1.mono l2).mono l3)).mono lo⟩) ((((rs.le l1).le l2).le l3).le lo)
            | _ => exact out.elim
  cases ev3 : ev T c1 c2 e3 s h with
  | bad => rw [ev3] at out; exact out.elim
  | exc c w h1 => exact ⟨true, go true fun _ _ _ _ _ _ z => by rw [ev3] at z; cases z⟩
  | ok w h1 =>
    rw [ev3] at out
    simp only [R.bind_ok] at out
    cases ev1 : ev T c1 c2 e1 s h1 with
    | bad => rw [ev1] at out; exact out.elim
    | exc c w h1 => exact ⟨true, go true fun _ _ _ _ _ _ z z1 => by rw [ev3] at z; cases z; rw [ev1] at z1; cases z1⟩
    | ok w' h2 =>
      rw [ev1] at out
      simp only [R.bind_ok] at out
      cases ev2 : ev T c1 c2 e2 s h2 with
      | bad => rw [ev2] at out; exact out.elim
      | exc c w h1 => exact ⟨true, go true fun _ _ _ _ _ _ z z1 z2 => by rw [ev3] at z; cases z; rw [ev1] at z1; cases z1; rw [ev2] at z2; cases z2⟩
      | ok y h3 =>
        rw [ev2] at out
        simp only [R.bind_ok] at out
        cases w' with
        | ref n =>
          simp only at out
          cases hf : h3.f n with
          | none => simp only [hf] at out; exact out.elim
          | some ob =>
            cases ob with
            | lst xs =>
              exact ⟨false, go false fun _ _ _ _ _ _ z z1 z2 => by
                rw [ev3] at z; cases z; rw [ev1] at z1; cases z1; rw [ev2] at z2; cases z2
                exact ⟨n, rfl, by simp only [Bool.false_eq_true, if_false]; exact ⟨xs, hf⟩⟩⟩
            | dic lk kvs =>
              cases lk with
              | true => simp only [hf] at out; exact out.elim
              | false =>
                exact ⟨true, go true fun _ _ _ _ _ _ z z1 z2 => by
                  rw [ev3] at z; cases z; rw [ev1] at z1; cases z1; rw [ev2] at z2; cases z2
                  exact ⟨n, rfl, by simp only [if_true]; exact ⟨kvs, hf⟩⟩⟩
            | ins _ _ => simp only [hf] at out; exact out.elim
        | _ => exact out.elim
/-! ### while -/
theorem whR_some {P : Fl → VH → Prop} {PX : Nat → VM.W → VH → Prop} {c : VS → VH → R Bool} {b : VS → VH → R Fl} {s : VS} {h : VH} (o : OutR P PX (whR c b s h)) : ∃ k r, whGo c b k s h = some r ∧ OutR P PX r := by
  unfold whR at o
  split at o
  · rename_i e
    exact ⟨_, _, e.choose_spec.choose_spec, o⟩
  · exact o.elim
theorem st_whl {c : E} (hp : PassesOwn (model X.prog X.w) X.A X.env X.xe) (hc : PT X x (lTx T G c1 c2 X W c)) (hb : PSs X sts (lSx T G c1 c2 X W b)) : PS X (.While x sts [] pos) (lSx T G c1 c2 X W (.whl c b)) := by
  refine PS.imp (ps_while hp hc hb) fun D σ H ⟨ρ, s, h, rl, rs, out⟩ => ?_
  have key : exS T c1 c2 (.whl c b) s h = whR (evB T c1 c2 c) (exS T c1 c2 b) s h := by
    simp only [exS]
    try rfl
  rw [key] at out
  obtain ⟨k0, r0, e0, o0⟩ := whR_some out
  refine ⟨fun m σ' H' => ∃ ρ' s' h' r, Rl X.K G ρ' h' H' ∧ RS X.K ρ' H' s' σ' ∧ whGo (evB T c1 c2 c) (exS T c1 c2 b) m s' h' = some r ∧ OutR (PF X.K G ρ' H' D) (FinX X.K G ρ' H' (WXa W)) r, ⟨k0, ρ, s, h, r0, rl, rs, e0, o0⟩, ?_⟩
  rintro m σ' H' ⟨ρ', s', h', r, rl', rs', e, o⟩
  cases m with
  | zero => simp [whGo] at e
  | succ m =>
    unfold whGo at e
    refine ⟨ρ', s', h', rl', rs', ?_⟩
    cases ec : evB T c1 c2 c s' h' with
    | bad => rw [ec] at e; cases e; exact o
    | exc cc w h1 => rw [ec] at e; cases e; exact FinX.toS o
    | ok t h1 =>
      rw [ec] at e
      intro ρ1 H1 l1 rl1
      cases t with
      | false =>
        simp only at e
        cases e
        exact o ρ1 H1 σ' l1 rl1 (rs'.le l1)
      | true =>
        simp only [if_true] at e ⊢
        refine ⟨fun σ2 H2 => ∃ ρ' s' h' r, Rl X.K G ρ' h' H2 ∧ RS X.K ρ' H2 s' σ2 ∧ whGo (evB T c1 c2 c) (exS T c1 c2 b) m s' h' = some r ∧ OutR (PF X.K G ρ' H2 D) (FinX X.K G ρ' H2 (WXa W)) r, fun σ2 H2 w => ⟨m, Nat.lt_succ_self _, w⟩, ?_⟩
        refine ⟨ρ1, s', h1, rl1, rs'.le l1, ?_⟩
        have o := outS l1 o
        cases eb : exS T c1 c2 b s' h1 with
        | bad => rw [eb] at e; cases e; exact o
        | exc cc w h2 => rw [eb] at e; cases e; exact o
        | ok fl h2 =>
          rw [eb] at e
          cases fl with
          | nx s1 => exact fun ρ2 H2 σ2 l2 rl2 rs2 => ⟨ρ2, s1, h2, r, rl2, rs2, e, outS l2 o⟩
          | ct s1 => exact fun ρ2 H2 σ2 l2 rl2 rs2 => ⟨ρ2, s1, h2, r, rl2, rs2, e, outS l2 o⟩
          | rt w => cases e; exact o
/-! ### for -/
variable {k : Ik} {tg : P} {srcE : E}
/-- a body's turn -/
noncomputable def forF (T : Tab) (c1 c2 : Nat → List VM.W → VH → R VM.W) (p : P) (b : S) : VM.W → VS → VH → R Fl := fun w s2 h2 => match asg p w s2 with
  | some s3 => exS T c1 c2 b s3 h2
  | none => .bad
theorem st_for0 {tgx iter : Expr} (hp : PassesOwn (model X.prog X.w) X.A X.env X.xe) (hc : X.calm = true) (hi : PI X tgx iter (lI X.K G W k (evs T c1 c2 srcE))) (hg : PG X tgx (gP X.K tg)) (hb : PSs X sts (lSx T G c1 c2 X W b)) (hs : okX iter = true) :
    PS X (.For tgx iter sts [] pos) (lS X.K G W fun s h => forB k (evs T c1 c2 srcE s) (forF T c1 c2 tg b) s h) := by
  refine PS.imp (ps_for hp hc hi hg hb (folded_ok hs)) fun D σ H ⟨ρ, s, h, rl, rs, out⟩ => ?_
  simp only [forB] at out
  refine ⟨ρ, s, h, rl, rs, ?_⟩
  cases e : evs T c1 c2 srcE s h with
  | bad => rw [e] at out; exact out
  | exc c w h1 => rw [e] at out; exact FinX.toS out
  | ok xs h1 =>
    rw [e] at out
    simp only [R.bind_ok] at out
    show srcP X.K G k ρ H _ xs h1
    unfold srcP
    split at out
    rotate_left
    · exact out.elim
    rename_i its g esrc
    try rw [esrc]
    intro ρ1 H1 J l1 rl1 itok
    have o1 := outS l1 out
    refine ⟨fun i m σi Hi => m = its.length - i ∧ i ≤ its.length ∧ ∃ ρi si hi, Le ρ1 H1 ρi Hi ∧ Rl X.K G ρi hi Hi ∧ RS X.K ρi Hi si σi ∧ OutR (PF X.K G ρi Hi D) (FinX X.K G ρi Hi (WXa W)) (forGo g (forF T c1 c2 tg b) (its.drop i) si hi),
      ⟨its.length, by simp, Nat.zero_le _, ρ1, s, h1, Le.refl, rl1, rs.le l1, by simpa using o1⟩, ?_⟩
    rintro i m σi Hi ⟨rfl, hi, ρi, si, hv, li, rli, rsi, oi⟩
    by_cases hlt : i < its.length
    · right
      have ew : its[i]? = some its[i] := List.getElem?_eq_getElem hlt
      rw [List.drop_eq_getElem_cons hlt] at oi
      unfold forGo at oi
      split at oi
      rotate_left
      · exact oi.elim
      rename_i hg'
      obtain ⟨each, _⟩ := itok ρi hv Hi li rli hg'
      obtain ⟨hgo, hy⟩ := each i _ ew
      refine ⟨hgo, fun σ' H' => ∃ ρi si hi, Le ρ1 H1 ρi H' ∧ Rl X.K G ρi hi H' ∧ RS X.K ρi H' si σ' ∧ OutR (PF X.K G ρi H' D) (FinX X.K G ρi H' (WXa W)) (forGo g (forF T c1 c2 tg b) (its.drop (i + 1)) si hi), fun σ' H' nx => ⟨its.length - (i + 1), by omega, rfl, hlt, nx⟩, fun x H' yy => ?_⟩
      obtain ⟨l2, rl2, rx, _⟩ := hy x H' yy
      have oi := outS l2 oi
      cases ea : asg tg its[i] si with
      | none =>
        have : forF T c1 c2 tg b its[i] si hv = .bad := by unfold forF; rw [ea]
        rw [this] at oi
        exact oi.elim
      | some s3 =>
        have ef : forF T c1 c2 tg b its[i] si hv = exS T c1 c2 b s3 hv := by unfold forF; rw [ea]
        rw [ef] at oi
        refine gP_ok tg its[i] x si s3 σi _ rx (rsi.le l2) ea fun σ2 rs2 _ => ⟨ρi, s3, hv, rl2, rs2, ?_⟩
        cases eb : exS T c1 c2 b s3 hv with
        | bad => rw [eb] at oi; exact oi
        | exc _ _ _ => rw [eb] at oi; exact oi
        | ok fl h3 =>
          rw [eb] at oi
          simp only [R.bind_ok] at oi
          cases fl with
          | nx s4 => exact fun ρ3 H3 σ3 l3 rl3 rs3 => ⟨ρ3, s4, h3, li.trans (l2.trans l3), rl3, rs3, outS l3 oi⟩
          | ct s4 => exact fun ρ3 H3 σ3 l3 rl3 rs3 => ⟨ρ3, s4, h3, li.trans (l2.trans l3), rl3, rs3, outS l3 oi⟩
          | rt w => exact oi
    · left
      have e2 : i = its.length := by omega
      subst e2
      rw [List.drop_length] at oi
      unfold forGo at oi
      split at oi
      · rename_i hg'
        obtain ⟨_, hstop⟩ := itok ρi hv Hi li rli hg'
        exact ⟨hstop, oi ρi Hi σi Le.refl rli rsi⟩
      · exact oi.elim
/-- a statement that may lock the dict it walks -/
theorem st_lock {base : VS → VH → R Fl} {n? : VS → VH → Option (Nat × List (Key × VM.W))} (hn : ∀ s h n kvs, n? s h = some (n, kvs) → h.f n = some (.dic false kvs)) (hb : PS X st (lS X.K G W base)) :
    PS X st (lS X.K G W fun s h => match n? s h with
      | some (n, kvs) => (base s (h.set n (.dic true kvs))).nx.bind fun fl h2 => .ok fl (h2.set n (.dic false kvs))
      | none => base s h) := by
  have one : ∀ i : Bool, PS X st (if i = true then tLock (lS X.K G W base) else lS X.K G W base) := fun i => match i with
    | true => ps_lock hb
    | false => hb
  refine PS.imp (PS.any one) fun D σ H ⟨ρ, s, h, rl, rs, out⟩ => ?_
  simp only at out
  split at out
  · rename_i n kvs e
    refine ⟨true, ?_⟩
    have hf := hn s h n kvs e
    obtain ⟨d, u, lk⟩ := Lk.mk' (H := H) rl hf
    refine ⟨d, u, lk.hd, lk.mu, fun od => ?_⟩
    obtain ⟨l1, rl1⟩ := lk.lock od
    obtain ⟨fl, h2, ec, o⟩ := nx_some out
    refine ⟨ρ, s, h.set n (.dic true kvs), rl1, rs.le l1, ?_⟩
    rw [ec]
    have o : PF X.K G ρ H D fl (h2.set n (.dic false kvs)) := o
    have lw : ∀ {ρ' H'}, Le ρ (upd H d (.frz od u)) ρ' H' → H' d = some (.frz od u) → Lw ρ' H' ρ' (upd H' d u) := fun {ρ' H'} l' hd' => ⟨fun _ _ e => e, fun a xs q => by
      rw [upd_ne fun y => by rw [y, hd'] at q; cases q]; exact q, fun a o xs q => by
      rw [upd_ne fun y => by
        rw [y, hd'] at q
        have := Option.some.inj q
        cases this
        exact lk.nl xs rfl]; exact q⟩
    cases fl with
    | nx s1 =>
      intro ρ' H' σ' l' r' rs'
      have hd' := l'.tf d od u upd_same
      exact ⟨hd', o ρ' _ σ' (Le.unlock lk.at_ lk.hd lk.nt lk.nf l') (lk.back od ρ' h2 H' l' r') ⟨rs'.1, fun i w e => let ⟨v, e1, rv⟩ := rs'.2 i w e; ⟨v, e1, rv.monoW (lw l' hd')⟩⟩⟩
    | ct s1 =>
      intro ρ' H' σ' l' r' rs'
      have hd' := l'.tf d od u upd_same
      exact ⟨hd', o ρ' _ σ' (Le.unlock lk.at_ lk.hd lk.nt lk.nf l') (lk.back od ρ' h2 H' l' r') ⟨rs'.1, fun i w e => let ⟨v, e1, rv⟩ := rs'.2 i w e; ⟨v, e1, rv.monoW (lw l' hd')⟩⟩⟩
    | rt w =>
      intro ρ' H' v l' r' rv
      have hd' := l'.tf d od u upd_same
      exact ⟨hd', o ρ' _ v (Le.unlock lk.at_ lk.hd lk.nt lk.nf l') (lk.back od ρ' h2 H' l' r') (rv.monoW (lw l' hd'))⟩
  · exact ⟨false, ρ, s, h, rl, rs, out⟩
theorem st_for {tgx iter : Expr} (hp : PassesOwn (model X.prog X.w) X.A X.env X.xe) (hc : X.calm = true) (hi : PI X tgx iter (lI X.K G W k (evs T c1 c2 srcE))) (hg : PG X tgx (gP X.K tg)) (hb : PSs X sts (lSx T G c1 c2 X W b)) (hs : okX iter = true) :
    PS X (.For tgx iter sts [] pos) (lSx T G c1 c2 X W (.for_ tg k srcE b)) := by
  have base := st_for0 (pos := pos) hp hc hi hg hb hs
  refine PS.imp (st_lock (n? := fun s h => preW k (evs T c1 c2 srcE s h) h) (fun s h n kvs e => ?_) base) fun D σ H q => ?_
  · unfold preW at e
    split at e
    · exact lockW_some e
    · cases e
  · obtain ⟨ρ, s, h, rl, rs, out⟩ := q
    refine ⟨ρ, s, h, rl, rs, ?_⟩
    have key : exS T c1 c2 (.for_ tg k srcE b) s h = forL k (evs T c1 c2 srcE s) (forF T c1 c2 tg b) s h := by
      simp only [exS]
      rfl
    rw [key] at out
    unfold forL at out
    exact out
end
end VM

set_option linter.all false
set_option autoImplicit false
set_option maxRecDepth 100000
set_option maxHeartbeats 8000000
/-! VM7c: what the checker passes is what the evaluator says: statements. -/
namespace VM
open PySem PySem.Spec PyProof.Rows L2
/-! ### stores that aren't exchanged -/
def swOk (c : Cs) (t : Option Expr) (x : Expr) : Bool := noLc x || (okX x && (match t with
  | some (.Name n _) => c.sc.names.lookup n == some .cell
  | some _ => true
  | none => false))
theorem swOk_ok {c : Cs} {env : Env} {t : Option Expr} {x : Expr} {l : Nat} (e : env.scope = c.sc) (h : swOk c t x = true) : swapsWith x t l env = pure false := by
  unfold swOk at h
  rw [Bool.or_eq_true] at h
  rcases h with h | h
  · exact swaps_ok h
  · rw [Bool.and_eq_true] at h
    obtain ⟨h1, h2⟩ := h
    split at h2
    · rename_i n p
      have hk : env.kindOf n = some .cell := by
        unfold Env.kindOf
        rw [e]
        exact eq_of_beq h2
      cases x <;> first | (cases h1; done) | rfl | skip
      unfold swapsWith
      simp only [hk]
      have : (some NameKind.cell == some NameKind.local) = false := by decide
      simp only [this, Bool.and_false, Bool.false_and]
    · rename_i t' hx
      cases t' <;> first | (exact absurd rfl (hx _ _)) | (cases x <;> first | (cases h1; done) | rfl)
    · cases h2
/-- no exchange of stores -/
def swN (c : Cs) (tg x : Expr) : Bool := match x with
  | .Tuple vs _ _ => (match tg with
    | .Tuple ts _ _ => vs.all (foldedForSure 8) || ts.any (fun t => match t with
      | .Name n _ => !(c.sc.names.lookup n == some .local)
      | _ => true)
    | .Name .. => true
    | .Subscript .. => true
    | _ => false)
  | x => okX x
theorem filterMap_short {α β : Type} {f : α → Option β} : ∀ {l : List α}, (l.any fun x => (f x).isNone) = true → (l.filterMap f).length < l.length
  | [], h => by simp at h
  | x :: l, h => by
    rw [List.filterMap_cons]
    cases e : f x with
    | none => simp only [List.length_cons]; exact Nat.lt_succ_of_le (List.length_filterMap_le ..)
    | some y =>
      simp only [List.any_cons, e, Option.isNone_some, Bool.false_or] at h
      simp only [List.length_cons]
      exact Nat.succ_lt_succ (filterMap_short h)
theorem swN_ok {c : Cs} {env : Env} {tg x : Expr} (e : env.scope = c.sc) (h : swN c tg x = true) : swappedStores [tg] x env = pure none := by
  unfold swN at h
  split at h
  · rename_i vs k p
    split at h
    · rename_i ts k2 p2
      unfold swappedStores
      simp only
      split
      · rfl
      · split
        · rfl
        · split
          · rfl
          · rename_i hn
            split
            · rfl
            · rename_i hv
              exfalso
              rw [Bool.or_eq_true] at h
              rcases h with h | h
              · exact hv h
              · apply hn
                rw [Bool.or_eq_true]
                left
                have := filterMap_short (f := fun (x : Expr) => match x with
                  | .Name id pos => if (env.kindOf id == some NameKind.local && pos.line == (ts.head?.map (·.pos.line)).getD 0) = true then some id else none
                  | _ => none) (l := ts) (by
                    rw [List.any_eq_true] at h ⊢
                    obtain ⟨t, ht, hh⟩ := h
                    refine ⟨t, ht, ?_⟩
                    split at hh
                    · rename_i n _
                      have hk : (env.kindOf n == some NameKind.local) = false := by
                        unfold Env.kindOf
                        rw [e]
                        simpa using hh
                      simp only [hk, Bool.false_and, Bool.false_eq_true, if_false, Option.isNone_none]
                    · rename_i hx
                      cases t <;> first | (exact absurd rfl (hx _ _)) | rfl)
                simp only [bne_iff_ne, ne_eq]
                intro z
                exact Nat.ne_of_lt this z
    · rfl
    · rfl
    · cases h
  · rename_i hx
    cases x <;> first | (exact absurd rfl (hx _ _ _)) | (cases h; done) | (cases tg <;> rfl)
/-- two stores exchanged -/
def swP (c : Cs) (n m : Str) (px py : Pos) (x y : Expr) : Bool := loc1B c.sc n && (loc1B c.sc m && (!(n == m) && ((py.line == px.line) && ((match c.sc.kind with | .function => true | _ => false) && (okX x && (okX y && (!([x, y].all (foldedForSure 8)) && !([x, y].all (constantsAlone 8)))))))))
theorem swP_ok {c : Cs} {env : Env} {n m : Str} {px py pt : Pos} {x y : Expr} {kt k2 : Nat} {pt2 : Pos} (e : env.scope = c.sc) (h : swP c n m px py x y = true) : swappedStores [.Tuple [.Name n px, .Name m py] kt pt] (.Tuple [x, y] k2 pt2) env = pure (some [n, m]) := by
  unfold swP at h
  simp only [Bool.and_eq_true, Bool.not_eq_true'] at h
  obtain ⟨h1, h2, h3, h4, h5, h6, h7, h8, h9⟩ := h
  have k1 : env.kindOf n = some .local := by unfold Env.kindOf; rw [e]; exact loc1B_ok h1
  have k2 : env.kindOf m = some .local := by unfold Env.kindOf; rw [e]; exact loc1B_ok h2
  have hb : env.blockKind = .function := by
    unfold Env.blockKind
    rw [e]
    split at h5
    · rename_i q; rw [q]; rfl
    · cases h5
  have nostar : ∀ {x : Expr}, okX x = true → (match x with | .Starred .. => true | _ => false) = false := fun {x} h => by
    cases x <;> first | rfl | cases h
  unfold swappedStores
  have hne : n ≠ m := by simpa using h3
  simp only [hb, k1, k2, List.length_cons, List.length_nil, List.any_cons, List.any_nil, nostar h6, nostar h7, List.head?_cons, Option.map_some, Option.getD_some, Expr.pos, h4, h8, h9, List.filterMap_cons, List.filterMap_nil, beq_self_eq_true, Bool.and_self, if_true]
  have hmn : (m == n) = false := by
    simp only [beq_eq_false_iff_ne]
    exact fun z => hne z.symm
  have hed : [n, m].eraseDups.length = 0 + 1 + 1 := by
    simp [List.eraseDups, List.eraseDupsBy, List.eraseDupsBy.loop, hmn]
  rw [if_neg (by decide)]
  split
  · cases h6
  · split
    · cases h7
    · rw [if_neg (by decide), hed, if_neg (by decide), if_neg (by decide), if_neg (by decide)]
def noFrz : E → Bool
  | .frz _ => false
  | _ => true
section
variable (M : Nms) (N : List Str)
mutual
def chkS (c : Cs) : S → Stmt → Bool
  | .never, _ => true
  | .pass, st => match st with
    | .Pass _ => true
    | _ => false
  | .cont, st => match st with
    | .Continue _ => true
    | _ => false
  | .exp e, st => match st with
    | .Expr x _ => noLc x && chkE M N c e x
    | _ => false
  | .setN i e, st => match st with
    | .Assign [.Name n p] x _ => decide (N[i]? = some n) && ((loc1B c.sc n || (locB c.sc n && fnB c n)) && (swOk c (some (.Name n p)) x && chkE M N c e x))
    | _ => false
  | .setLc i e, st => match st with
    | .Assign [.Name n py] (.ListComp eltx gs scope lp) _ => decide (N[i]? = some n) && (loc1B c.sc n && ((py.line == lp.line) && ((match c.sc.kind with | .function => true | _ => false) &&
        (!(scope.names.any fun (z, k) => z == n && (k == .local || k == .cell)) && (noFrz e && chkE M N c e (.ListComp eltx gs scope lp))))))
    | _ => false
  | .setP p e, st => match st with
    | .Assign [tgx] x _ => isTp p && (chkP N c p tgx && (noLc x && (swN c tgx x && chkE M N c e x)))
    | _ => false
  | .par i j e e', st => match st with
    | .Assign [.Tuple [.Name n px, .Name m py] _ _] (.Tuple [x, y] _ _) _ => decide (N[i]? = some n) && (decide (N[j]? = some m) && (swP c n m px py x y && (chkE M N c e x && chkE M N c e' y)))
    | _ => false
  | .setF a f e, st => match st with
    | .Assign [.Attribute o x _] v _ => decide (M.fl f = x) && (okX v && (chkE M N c a o && chkE M N c e v))
    | _ => false
  | .setI a i e, st => match st with
    | .Assign [.Subscript o ix _] v _ => noLc v && (chkE M N c a o && (chkE M N c i ix && chkE M N c e v))
    | _ => false
  | .ret e, st => match st with
    | .Return (some x) _ => chkE M N c e x
    | _ => false
  | .retN, st => match st with
    | .Return none _ => true
    | _ => false
  | .ite t a b, st => match st with
    | .If x sa sb _ => chkE M N c t x && (chkSs c a sa && chkSs c b sb)
    | _ => false
  | .whl t b, st => match st with
    | .While x sb [] _ => chkE M N c t x && chkSs c b sb
    | _ => false
  | .for_ p k src b, st => match st with
    | .For tgx iter sb [] _ => chkP N c p tgx && (okX iter && (chkI c k (fun xs => chkEs M N c src xs) p iter && chkSs c b sb))
    | _ => false
  | .frzS _ b, st => chkS c b st
  | _, _ => false
def chkSs (c : Cs) : S → List Stmt → Bool
  | .never, _ => true
  | .nil, sts => match sts with
    | [] => true
    | _ => false
  | .cons a b, sts => match sts with
    | st :: r => chkS c a st && chkSs c b r
    | [] => false
  | _, _ => false
end
end
/-! ### soundness -/
structure FamS (T : Tab) (M : Nms) (G : Sta) (c1 c2 : Nat → List VM.W → VH → R VM.W) (Good GoodS : Cx → WX → Prop) : Prop where
  fam : Fam T M G c1 c2 Good
  gs : ∀ X W, GoodS X W → Good X W
  ps : ∀ X W, GoodS X W → PassesOwn (model X.prog X.w) X.A X.env X.xe
structure SndS (T : Tab) (M : Nms) (G : Sta) (c1 c2 : Nat → List VM.W → VH → R VM.W) (GoodS : Cx → WX → Prop) (b : S) : Prop where
  ps : ∀ X W N c st, GoodS X W → Fit X N c → chkS M N c b st = true → PS X st (lSx T G c1 c2 X W b)
  pss : ∀ X W N c sts, GoodS X W → Fit X N c → chkSs M N c b sts = true → PSs X sts (lSx T G c1 c2 X W b)
section
variable {T : Tab} {M : Nms} {G : Sta} {c1 c2 : Nat → List VM.W → VH → R VM.W} {Good GoodS : Cx → WX → Prop}
theorem noNilS {b : S} {N : List Str} {c : Cs} {sts : List Stmt} (h : chkSs M N c b sts = true) : b = .never ∨ (b = .nil ∧ sts = []) ∨ ∃ a r st rs, b = .cons a r ∧ sts = st :: rs ∧ chkS M N c a st = true ∧ chkSs M N c r rs = true := by
  cases b <;> first | exact .inl rfl | (cases sts <;> first | exact .inr (.inl ⟨rfl, rfl⟩) | (simp [chkSs] at h; done)) | (cases sts <;> first | (simp [chkSs] at h; done) | (simp only [chkSs, Bool.and_eq_true] at h; exact .inr (.inr ⟨_, _, _, _, rfl, rfl, h.1, h.2⟩))) | (exact nomatch h)
theorem SndS.of {b : S} (h0 : b ≠ .never) (hn : b ≠ .nil) (hc : ∀ a r, b ≠ .cons a r) (ps : ∀ X W N c st, GoodS X W → Fit X N c → chkS M N c b st = true → PS X st (lSx T G c1 c2 X W b)) : SndS T M G c1 c2 GoodS b where
  ps := ps
  pss := fun X W N c sts g f h => by
    rcases noNilS h with z | ⟨z, _⟩ | ⟨a, r, _, _, z, _⟩
    · exact absurd z h0
    · exact absurd z hn
    · exact absurd z (hc a r)
theorem pss_neverL {X : Cx} {W : WX} {sts : List Stmt} : PSs X sts (lSx T G c1 c2 X W .never) := PSs.imp pss_never fun D σ H ⟨ρ, s, h, rl, rs, out⟩ => by
  have out : OutR (PF X.K G ρ H D) (FinX X.K G ρ H (WXa W)) .bad := by simpa only [exS] using out
  exact out
theorem tgt_ok {X : Cx} {N : List Str} {c : Cs} {n : Str} (f : Fit X N c) (h : (loc1B c.sc n || (locB c.sc n && fnB c n)) = true) : L2.Loc X.env.scope n ∧ (X.fn n = true ∨ X.env.scope.names.lookup n = some .local) := by
  rw [Bool.or_eq_true] at h
  rcases h with h | h
  · have := loc1B_ok h
    rw [← f.sc] at this
    exact ⟨.inl this, .inr this⟩
  · rw [Bool.and_eq_true] at h
    have := locB_ok h.1
    rw [← f.sc] at this
    exact ⟨this, .inl (f.fn n h.2)⟩
theorem sw_any {x t : Expr} {l : Nat} {env : Env} (h : okX x = true) (ht : ∀ n p, t ≠ .Name n p) : swapsWith x (some t) l env = pure false := by
  cases t <;> first | (exact absurd rfl (ht _ _)) | (cases x <;> first | (cases h; done) | rfl)
theorem asg1 {tg : Expr} {env : Env} (h : okX tg = true) : (assignEach [tg] env).map (·.2) = [assign tg env] := by
  rw [asg_ok h]
  rfl
theorem st_setLc {X : Cx} {W : WX} {i : Nat} {st : Stmt} {elt ifs srcE : VM.E} {tg : P} {k : Ik} {own : List Nat} {ownx : List (Str × Nat)} (ho : ownx.map (·.2) = own) (hown : ownAll tg own = true)
    (base : PS X st (tAsg (tLc (lI X.K G W k (evs T c1 c2 srcE)) (gP X.K tg) (lT X.K G Wf (evi T c1 c2 ifs)) (lE X.K G Wf (ev T c1 c2 elt)) (ownx.map (·.2))) (gName i))) :
    PS X st (lSx T G c1 c2 X W (.setLc i (.comp elt tg k srcE ifs own))) := by
  have b0 : PS X st (lS X.K G W fun s h => ((compB k (evs T c1 c2 srcE s) (compF T c1 c2 elt ifs tg own s) h).bind fun ys h2 => (.ok (.ref h2.n) (h2.alloc (.lst ys)) : R VM.W)).bind fun w h1 => .ok (.nx (s.set i (some w))) h1) := by
    refine PS.imp base fun D σ H ⟨ρ, s, h, rl, rs, out⟩ => ?_
    refine lc_of ho hown (seqES (f := fun s h => (compB k (evs T c1 c2 srcE s) (compF T c1 c2 elt ifs tg own s) h).bind fun ys h2 => (.ok (.ref h2.n) (h2.alloc (.lst ys)) : R VM.W)) rl rs out fun w1 h1 ρ1 H1 v1 l1 rl1 rs1 r1 o1 => ?_)
    exact outS l1 o1 ρ1 H1 _ Le.refl rl1 (rs1.set i r1)
  refine PS.imp (st_lock (n? := fun s h => preW k (evs T c1 c2 srcE s h) h) (fun s h n kvs e => ?_) b0) fun D σ H q => ?_
  · unfold preW at e
    split at e
    · exact lockW_some e
    · cases e
  · obtain ⟨ρ, s, h, rl, rs, out⟩ := q
    refine ⟨ρ, s, h, rl, rs, ?_⟩
    have key : exS T c1 c2 (.setLc i (.comp elt tg k srcE ifs own)) s h = (compL k (evs T c1 c2 srcE s) (compF T c1 c2 elt ifs tg own s) h).bind fun w h1 => .ok (.nx (s.set i (some w))) h1 := by
      simp only [exS, ev]
      rfl
    rw [key] at out
    unfold compL at out
    split at out
    · rename_i n kvs e
      simp only [e]
      cases ec : compB k (evs T c1 c2 srcE s) (compF T c1 c2 elt ifs tg own s) (h.set n (.dic true kvs)) with
      | bad => rw [ec] at out; exact out
      | exc _ _ _ => rw [ec] at out; exact out
      | ok ys h2 => rw [ec] at out; exact out
    · rename_i e
      simp only [e]
      exact out
theorem sndS (F : FamS T M G c1 c2 Good GoodS) : ∀ b, SndS T M G c1 c2 GoodS b := by
  intro b
  have E := fun e => snd F.fam e
  induction b with
  | nil => exact {
      ps := fun X W N c st g f h => by simp [chkS] at h
      pss := fun X W N c sts g f h => by
        cases sts with
        | nil => exact st_nil
        | cons _ _ => simp [chkSs] at h }
  | cons a b iha ihb => exact {
      ps := fun X W N c st g f h => by simp [chkS] at h
      pss := fun X W N c sts g f h => by
        rcases noNilS h with z | ⟨z, _⟩ | ⟨_, _, st, rs, z, rfl, h1, h2⟩
        · cases z
        · cases z
        · cases z
          exact st_cons (iha.ps X W N c st g f h1) (ihb.pss X W N c rs g f h2) }
  | pass =>
    refine .of (by simp) (by simp) (by simp) (fun X W N c st g f h => ?_)
    unfold chkS at h
    split at h
    · exact st_pass
    · cases h
  | cont =>
    refine .of (by simp) (by simp) (by simp) (fun X W N c st g f h => ?_)
    unfold chkS at h
    split at h
    · exact st_cont
    · cases h
  | exp e =>
    refine .of (by simp) (by simp) (by simp) (fun X W N c st g f h => ?_)
    unfold chkS at h
    split at h
    · simp only [Bool.and_eq_true] at h
      exact st_exp ((E e).pe X W N c _ (F.gs X W g) f h.2) (swaps_ok h.1)
    · cases h
  | setN i e =>
    refine .of (by simp) (by simp) (by simp) (fun X W N c st g f h => ?_)
    unfold chkS at h
    split at h
    · simp only [Bool.and_eq_true, decide_eq_true_eq] at h
      obtain ⟨h1, h2, h3, h4⟩ := h
      obtain ⟨l1, l2⟩ := tgt_ok f h2
      exact st_setN (F.fam.xg X W (F.gs X W g)).nd (by rw [f.N]; exact h1) l1 l2 ((E e).pe X W N c _ (F.gs X W g) f h4) (swOk_ok f.sc h3)
    · cases h
  | setP p e =>
    refine .of (by simp) (by simp) (by simp) (fun X W N c st g f h => ?_)
    unfold chkS at h
    split at h
    · rename_i tgx x pos
      simp only [Bool.and_eq_true] at h
      obtain ⟨h1, h2, h3, h4, h5⟩ := h
      have xg := F.fam.xg X W (F.gs X W g)
      obtain ⟨elts, kk, tpos, rfl⟩ := tp_tuple h2 h1
      exact st_setP (pg_P f xg.calm xg.nd p _ h2) ((E e).pe X W N c _ (F.gs X W g) f h5) (show swapsWithSole [_] _ _ _ = _ from sw_any (env := X.env) (l := pos.line) (t := .Tuple elts kk tpos) (noLc_ok h3) (by simp)) (swN_ok f.sc h4) (asg1 rfl)
    · cases h
  | setF a i e =>
    refine .of (by simp) (by simp) (by simp) (fun X W N c st g f h => ?_)
    unfold chkS at h
    split at h
    · simp only [Bool.and_eq_true, decide_eq_true_eq] at h
      obtain ⟨rfl, h1, h2, h3⟩ := h
      exact st_setF (F.fam.xg X W (F.gs X W g)) ((E a).pe X W N c _ (F.gs X W g) f h2) ((E e).pe X W N c _ (F.gs X W g) f h3) (sw_any h1 (by simp))
    · cases h
  | setI a i e =>
    refine .of (by simp) (by simp) (by simp) (fun X W N c st g f h => ?_)
    unfold chkS at h
    split at h
    · simp only [Bool.and_eq_true] at h
      obtain ⟨h1, h2, h3, h4⟩ := h
      refine st_setI (F.fam.xg X W (F.gs X W g)) (chkE_ok h3) ((E a).pe X W N c _ (F.gs X W g) f h2) ((E i).pe X W N c _ (F.gs X W g) f h3) ((E e).pe X W N c _ (F.gs X W g) f h4) (sw_any (noLc_ok h1) (by simp)) (swN_ok (c := c) f.sc ?_)
      unfold swN
      split
      · rfl
      · exact noLc_ok h1
    · cases h
  | setFs a a' i i' e => exact .of (by simp) (by simp) (by simp) (fun X W N c st g f h => by simp [chkS] at h)
  | par i j e e' =>
    refine .of (by simp) (by simp) (by simp) (fun X W N c st g f h => ?_)
    unfold chkS at h
    split at h
    · rename_i n px m py k0 p0 x y k1 p1 p2
      simp only [Bool.and_eq_true, decide_eq_true_eq] at h
      obtain ⟨h1, h2, h3, h4, h5⟩ := h
      have xg := F.fam.xg X W (F.gs X W g)
      have hw := swP_ok (pt := p0) (kt := k0) (k2 := k1) (pt2 := p1) f.sc h3
      unfold swP at h3
      simp only [Bool.and_eq_true, Bool.not_eq_true'] at h3
      have hl1 := loc1B_ok h3.1
      have hl2 := loc1B_ok h3.2.1
      rw [← f.sc] at hl1 hl2
      refine st_par xg.calm xg.nd (by rw [f.N]; exact h1) (by rw [f.N]; exact h2) ?_ hl1 hl2 (ev_cons ((E e).pe X W N c _ (F.gs X W g) f h4) (ev_cons ((E e').pe X W N c _ (F.gs X W g) f h5) ev_nil (chkE_ok h5)) (chkE_ok h4)) hw
      rintro rfl
      rw [h1] at h2
      cases h2
      have := h3.2.2.1
      simp at this
    · cases h
  | setLc i e =>
    refine .of (by simp) (by simp) (by simp) (fun X W N c st g f h => ?_)
    unfold chkS at h
    split at h
    · rename_i n py eltx gs scope lp pos
      simp only [Bool.and_eq_true, decide_eq_true_eq, Bool.not_eq_true'] at h
      obtain ⟨h1, h2, h3, h4, h5, hF, h6⟩ := h
      have hl := loc1B_ok h2
      rw [← f.sc] at hl
      cases e <;> first | (simp [chkE] at h6; done) | (cases hF; done) | skip
      rename_i elt tg k src ifs own
      unfold chkE at h6
      split at h6
      · rename_i eltx' tgx iter ifsx scope' pos' hx
        cases hx
        simp only [Bool.and_eq_true, decide_eq_true_eq] at h6
        obtain ⟨a1, a2, a3, a4, a5, a6, a7, a8⟩ := h6
        have gd := F.gs X W g
        have xg := F.fam.xg X W gd
        have gb := fun (s : Shared) (H : Hp) (C : Addr) (cl : List (Str × Addr)) (fp : List Addr) => F.fam.blk X W s H scope cl C fp gd
        have fb : ∀ (s : Shared) (H : Hp) (C : Addr) (cl : List (Str × Addr)) (fp : List Addr), Fit (X.blk s H scope (compEnvC scope cl C X.env) fp) N (blkS c scope) := fun s H C cl fp => ⟨f.N, by show relS scope X.env.scope = relS scope c.sc; rw [f.sc], fun x h => h⟩
        have hkind : X.env.scope.kind = .function := by
          rw [f.sc]
          split at h4
          · assumption
          · cases h4
        have hown : (own.map fun i => ((N[i]?).getD Str.empty, i)).map (·.2) = own := by
          rw [List.map_map]
          exact List.map_id' _
        have base := ps_setLc (spos := pos) (i := i) (py := py) (pos := lp) (te := lE X.K G Wf (ev T c1 c2 elt)) (tt := lT X.K G Wf (evi T c1 c2 ifs)) (g := gP X.K tg) (elt := eltx) xg.calm xg.nd (by rw [f.N]; exact h1) hl (sw_true hkind hl h3 h5)
          (chkI_ok xg f (fun xs hx => (E src).pa X W N c xs gd f hx) (fun a x z hx => (E src).hd a .nil z X W N c x gd f hx) (tp_tuple a4) a2) (blkOk_by (by rw [f.N, f.sc]; exact a3))
          (fun s H C cl fp => pg_P (fb s H C cl fp) (F.fam.xg _ _ (gb s H C cl fp)).calm (F.fam.xg _ _ (gb s H C cl fp)).nd tg tgx a4)
          (fun s H C cl fp => (E ifs).pi _ Wf N _ ifsx (gb s H C cl fp) (fb s H C cl fp) a5 a6)
          (fun s H C cl fp => (E elt).pe _ Wf N _ eltx (gb s H C cl fp) (fb s H C cl fp) a8) (folded_ok a1)
        exact st_setLc hown a7 base
      · cases h6
    · cases h
  | ret e =>
    refine .of (by simp) (by simp) (by simp) (fun X W N c st g f h => ?_)
    unfold chkS at h
    split at h
    · exact st_ret ((E e).pe X W N c _ (F.gs X W g) f h)
    · cases h
  | retN =>
    refine .of (by simp) (by simp) (by simp) (fun X W N c st g f h => ?_)
    unfold chkS at h
    split at h
    · exact st_retN
    · cases h
  | ite t a b iha ihb =>
    refine .of (by simp) (by simp) (by simp) (fun X W N c st g f h => ?_)
    unfold chkS at h
    split at h
    · simp only [Bool.and_eq_true] at h
      exact st_ite ((E t).pt X W N c _ (F.gs X W g) f h.1) (iha.pss X W N c _ g f h.2.1) (ihb.pss X W N c _ g f h.2.2)
    · cases h
  | whl t b ihb =>
    refine .of (by simp) (by simp) (by simp) (fun X W N c st g f h => ?_)
    unfold chkS at h
    split at h
    · simp only [Bool.and_eq_true] at h
      exact st_whl (F.ps X W g) ((E t).pt X W N c _ (F.gs X W g) f h.1) (ihb.pss X W N c _ g f h.2)
    · cases h
  | for_ p k src b ihb =>
    refine .of (by simp) (by simp) (by simp) (fun X W N c st g f h => ?_)
    unfold chkS at h
    split at h
    · simp only [Bool.and_eq_true] at h
      obtain ⟨h1, h2, h3, h4⟩ := h
      have xg := F.fam.xg X W (F.gs X W g)
      exact st_for (F.ps X W g) xg.calm (chkI_ok xg f (fun xs hx => (E src).pa X W N c xs (F.gs X W g) f hx) (fun a x z hx => (E src).hd a .nil z X W N c x (F.gs X W g) f hx) (tp_tuple h1) h3) (pg_P f xg.calm xg.nd p _ h1) (ihb.pss X W N c _ g f h4) h2
    · cases h
  | frzS i b ihb =>
    refine .of (by simp) (by simp) (by simp) (fun X W N c st g f h => ?_)
    unfold chkS at h
    exact st_frz (ihb.ps X W N c st g f h)
  | tryT b _ => exact .of (by simp) (by simp) (by simp) (fun X W N c st g f h => by simp [chkS] at h)
  | never => exact {
      ps := fun X W N c st g f h => st_never
      pss := fun X W N c sts g f h => pss_neverL }
end
end VM

set_option linter.all false
set_option autoImplicit false
set_option maxRecDepth 100000
set_option maxHeartbeats 8000000
/-! VM8: defs. -/
namespace VM
open PySem PySem.Spec PyProof.Rows L2
/-- a def's text -/
structure Dn where
  name : Str
  qual : Str
  params : Arguments
  body : List Stmt
  scope : Scope
  N : List Str
  ps : List Str
/-- what stands when the top has run -/
structure Stat (K : PySem.W.Frag) (mg : Str → Option Value) (T : Tab) (M : Nms) (G : Sta) (D : Nat → Dn) (fa : Nat → Addr) : Prop where
  df : ∀ f d, T.fn f = some d → ∃ fd dvs, FunD K (D f).name (D f).qual (D f).params (D f).body (D f).scope dvs [] (fa f) fd ∧ FnScope (D f).N (D f).ps (D f).scope ∧ d.np = (D f).ps.length ∧ d.ns = (D f).N.length ∧
    chkSs M (D f).N ⟨(D f).scope, (D f).scope⟩ d.body (D f).body = true ∧ (∀ j, ∃ vs ds, (∀ ρ H, RVs K ρ H (d.dfl.drop j) vs) ∧ Vals vs ds ∧ Binds K fd (D f).ps ds)
  free : ∀ x ∈ bNames, mg x = none
  fn : ∀ f, M.fn f ≠ Str.empty → (∃ d, T.fn f = some d) ∧ mg (M.fn f) = some (.ref (fa f))
  mt : ∀ c m f, T.meth c m = some f → (∃ d, T.fn f = some d) ∧ Cls K (G.ca c) ∧ Meth K (G.ca c) (M.mt m) (fa f)
  mts : ∀ m, M.mt m ≠ Str.empty → ∃ c f, T.meth c m = some f
  mk_ : ∀ c, M.cl c ≠ Str.empty → mg (M.cl c) = some (.ref (G.ca c)) ∧ PySem.W.keepIn K (.ref (G.ca c)) = true ∧ ∀ f, T.init c = some f → (∃ d, T.fn f = some d) ∧ Mk K (G.ca c) (fa f)
  glb : ∀ g w, T.glb g = some w → ∃ u v, mg (M.gl g) = some u ∧ RelV v u ∧ ∀ ρ H, RV K ρ H w v
  fl : G.fl = T.fl
  nm : G.fnm = M.fl
  at_ : ∀ c f, G.fl c f = true → Cls K (G.ca c) ∧ NoAttr K (G.ca c) (G.fnm f)
  inj : ∀ c f g, G.fl c f = true → G.fl c g = true → G.fnm f = G.fnm g → f = g
  dis : ∀ c m f, (T.meth c m).isSome = true → G.fl c f = true → G.fnm f ≠ M.mt m
def spOf (K : PySem.W.Frag) (T : Tab) (G : Sta) (np : Nat) (k f : Nat) : Sp := fun vs H Q E => vs.length = np ∧ ∃ ρ h ws, Rl K G ρ h H ∧ RVs K ρ H ws vs ∧ OutR (Fin K G ρ H Q) (FinX K G ρ H E) (callF T k f ws h)
structure Gd (P : Program) (w : World) (K : PySem.W.Frag) (mg : Str → Option Value) (base : Heap) (k : Nat) (X : Cx) (W : WX) : Prop where
  prog : X.prog = P
  w : X.w = w
  K : X.K = K
  mg : X.mg = mg
  base : X.base = base
  room : Room k X.A
  calm : X.calm = true
  nd : X.N.Nodup
  tk : Takes X W
theorem fill_len {d : Fd} {ws : List VM.W} (h : (fillW d ws).length = d.np) : fillW d (fillW d ws) = fillW d ws := by
  have e : d.np - (fillW d ws).length = 0 := by omega
  show (fillW d ws) ++ d.dfl.drop (d.dfl.length - (d.np - (fillW d ws).length)) = fillW d ws
  rw [e]
  simp
theorem callF_fill {T : Tab} {k f : Nat} {d : Fd} {ws : List VM.W} {h : VH} (hd : T.fn f = some d) (hl : (fillW d ws).length = d.np) : callF T (k + 1) f (fillW d ws) h = callF T (k + 1) f ws h := by
  unfold callF
  simp only [hd, fill_len hl]
section
variable {P : Program} {w : World} {K : PySem.W.Frag} {mg : Str → Option Value} {base : Heap} {T : Tab} {M : Nms} {G : Sta} {D : Nat → Dn} {fa : Nat → Addr}
theorem callF_len {k f : Nat} {d : Fd} {ws : List VM.W} {h : VH} {PP : VM.W → VH → Prop} {PX : Nat → VM.W → VH → Prop} (hd : T.fn f = some d) (o : OutR PP PX (callF T (k + 1) f ws h)) : (fillW d ws).length = d.np := by
  unfold callF at o
  simp only [hd] at o
  split at o
  · assumption
  · exact o.elim
/-- a def may be called -/
theorem call_of (S : Stat K mg T M G D fa) {k f : Nat} {d : Fd} {X : Cx} {W : WX} (g : Gd P w K mg base k X W) (hd : T.fn f = some d)
    (ih : ∀ f d, T.fn f = some d → ∀ fd dvs, FunD K (D f).name (D f).qual (D f).params (D f).body (D f).scope dvs [] (fa f) fd → FnOk P w K mg base (L2.CX P w) k (fa f) fd (D f).ps (spOf K T G (D f).ps.length k f)) :
    CallX X W (.ref (fa f)) (rCall X.K G (callF T k f)) := by
  intro pins s σ H xs us Q I r ⟨ρ, h, ws, rl, rs, out⟩
  have eP := g.prog
  have ew := g.w
  have eK := g.K
  have emg := g.mg
  have eb := g.base
  cases k with
  | zero => unfold callF at out; exact out.elim
  | succ k =>
    obtain ⟨fd, dvs, FD, sc, hnp, hns, hchk, hb⟩ := S.df f d hd
    have F := ih f d hd fd dvs FD
    have hl := callF_len hd out
    obtain ⟨vs, ds, hv, hds, hbd⟩ := hb (d.dfl.length - (d.np - ws.length))
    rw [← eP, ← ew, ← eK, ← emg, ← eb] at F
    rw [← eK] at hbd
    refine run_fnSD (dvs := vs) (ds := ds) (E := WE W) F g.room hbd hds (passAt g.tk σ) I r ?_
    have rs2 : RVs X.K ρ H (fillW d ws) (xs ++ vs) := rs.app (by rw [eK]; exact hv ρ H)
    refine ⟨by rw [← rs2.len, hl, hnp], ρ, h, fillW d ws, rl, rs2, ?_⟩
    rw [callF_fill hd hl]
    exact out
theorem run_makeS {X : Cx} {CX : CXT} {k : Nat} {f C : Addr} {fd : FuncData} {ps : List Str} {sp : Sp} {dvs : List V} {ds : List Value} {E : L2.St → XK} {pins : List (Addr × Obj)} {σ : L2.St} {H : Hp} {s : Shared} {Q : VK} {us : List Value} {vs : List V} (M : Mk X.K C f) (F : FnOk X.prog X.w X.K X.mg X.base CX k f fd ps sp) (hr : Room (k + 1) X.A) (hb : Binds X.K fd ps ds) (hd : Vals dvs ds)
    (hx : PassesAt CX X σ (E σ)) (I : Inv X pins σ H s) (r : Vals vs us)
    (h : ∀ x dx, H x = none → H dx = none → dx ≠ x → sp (.ref x :: (vs ++ dvs)) (upd (upd H dx (.own x)) x (.ins C dx [])) (fun v H2 => v = .non ∧ Q (.ref x) H2) (E σ)) :
    wpAny (model X.prog X.w) X.A (call (.ref C) us) (EP X pins σ Q) X.xe s := by
  have hq := h (s.heap.objs.size + 1) s.heap.objs.size (I.hok.fresh (Nat.le_succ _)) (I.hok.fresh (Nat.le_refl _)) (Nat.ne_of_lt (Nat.lt_succ_self _))
  have I2 := Inv.made (C := C) I
  have r2 : Vals (V.ref (s.heap.objs.size + 1) :: (vs ++ dvs)) (Value.ref (s.heap.objs.size + 1) :: (us ++ ds)) := .cons rfl (r.append hd)
  have hl : (Value.ref (s.heap.objs.size + 1) :: us ++ ds).length = ps.length := by
    have e := r2.length
    rw [F.len _ _ _ _ hq] at e
    exact e.symm
  refine wpAny_call (make_map (f := f) I.kIn M.makes M.init (beq_iff_eq.mp M.fn) (codeAny_mono (F.run _ X.stack _ _ ⟨Value.ref (s.heap.objs.size + 1) :: us, []⟩ (Value.ref (s.heap.objs.size + 1) :: (us ++ ds)) _ _ (E σ) (hr.make C us [])
    (I2.env0.make C us []) (hb _ (Value.ref (s.heap.objs.size + 1) :: us) I2.kIn hl) r2 hq) fun r s' hq' => ?_))
  cases r with
  | error e => exact hx pins _ _ e s' I2 hq'
  | ok fl =>
    cases fl with
    | ret u =>
      obtain ⟨v, H', I3, rv, ev, q3⟩ := I2.after hq'
      subst ev
      exact ⟨rv, ⟨V.ref (s.heap.objs.size + 1), H', I3, rfl, q3⟩⟩
    | next => exact False.elim hq'
    | brk => exact False.elim hq'
    | cont => exact False.elim hq'
/-- a class may be made -/
theorem make_of (S : Stat K mg T M G D fa) {k c : Nat} {X : Cx} {W : WX} (g : Gd P w K mg base k X W) (hc : M.cl c ≠ Str.empty)
    (ih : ∀ f d, T.fn f = some d → ∀ fd dvs, FunD K (D f).name (D f).qual (D f).params (D f).body (D f).scope dvs [] (fa f) fd → FnOk P w K mg base (L2.CX P w) (k - 1) (fa f) fd (D f).ps (spOf K T G (D f).ps.length (k - 1) f)) :
    CallX X W (.ref (G.ca c)) (rCall X.K G (mkR T (callF T (k - 1)) c)) := by
  intro pins s σ H xs us Q I r ⟨ρ, h, ws, rl, rs, out⟩
  have eP := g.prog
  have ew := g.w
  have eK := g.K
  have emg := g.mg
  have eb := g.base
  unfold mkR at out
  cases hi : T.init c with
  | none => simp only [hi] at out; exact out.elim
  | some f =>
    simp only [hi] at out
    obtain ⟨_, _, h3⟩ := S.mk_ c hc
    obtain ⟨⟨d, hd⟩, mk⟩ := h3 f hi
    cases k with
    | zero =>
      have e0 : callF T (0 - 1) f (.ref h.n :: ws) (h.alloc (.ins c [])) = .bad := by
        show callF T 0 f _ _ = _
        unfold callF
        rfl
      rw [e0] at out
      exact out.elim
    | succ k =>
      simp only [Nat.add_sub_cancel] at ih out
      cases k with
      | zero =>
        have e0 : callF T 0 f (.ref h.n :: ws) (h.alloc (.ins c [])) = .bad := by
          unfold callF
          rfl
        rw [e0] at out
        exact out.elim
      | succ k =>
        obtain ⟨fd, dvs, FD, sc, hnp, hns, hchk, hb⟩ := S.df f d hd
        have F := ih f d hd fd dvs FD
        have o1 := OutR.unbind out
        have hl := callF_len hd o1
        obtain ⟨vs, ds, hv, hds, hbd⟩ := hb (d.dfl.length - (d.np - (VM.W.ref h.n :: ws).length))
        rw [← eP, ← ew, ← eK, ← emg, ← eb] at F
        rw [← eK] at hbd mk
        refine run_makeS (dvs := vs) (ds := ds) (E := WE W) mk F g.room hbd hds (passAt g.tk σ) I r fun x dx hx hdx hne => ?_
        have hx1 : upd H dx (.own x) x = none := by rw [upd_ne (Ne.symm hne)]; exact hx
        have rl1 := rl.new1 (p := dx) (o := .own x) hdx
        have l1 : Le ρ H ρ (upd H dx (.own x)) := Le.new1 hdx
        have l2 := Le.newO (o := .ins (G.ca c) dx []) rl1 hx1
        have rl2 := rl1.newO (o := .ins (G.ca c) dx []) (ob := .ins c []) hx1 ⟨dx, [], upd_same, .nil, fun p hp => by cases hp⟩
        have rs2 : RVs X.K (rhoAt ρ h.n x) (upd (upd H dx (.own x)) x (.ins (G.ca c) dx [])) (fillW d (.ref h.n :: ws)) (.ref x :: (xs ++ vs)) := by
          have q1 := (rs.mono l1).mono l2
          have q2 : RVs X.K (rhoAt ρ h.n x) (upd (upd H dx (.own x)) x (.ins (G.ca c) dx [])) (.ref h.n :: ws) (.ref x :: xs) := RVs.cons ⟨x, rhoAt_same, rfl⟩ q1
          exact q2.app (by rw [eK]; exact hv _ _)
        refine ⟨by rw [← rs2.len, hl, hnp], _, _, fillW d (.ref h.n :: ws), rl2, rs2, ?_⟩
        rw [callF_fill hd hl]
        refine o1.imp (fun v h2 q => ?_) fun cc v h2 q => FinX.le (l1.trans l2) q
        intro ρ' H' v' l r' rv
        cases v with
        | non =>
          cases rv
          exact ⟨rfl, q ρ' H' (.ref x) ((l1.trans l2).trans l) r' ⟨x, l.ext _ _ rhoAt_same, rfl⟩⟩
        | _ => exact q.elim
theorem takes_blk {X : Cx} {s : Shared} {H : Hp} {scope : Scope} {env : Env} {fp : List Addr} : Takes (X.blk s H scope env fp) Wf := fun u s' ⟨_, _, _, _, _, _, _, _, _, _, _, _, _, _, _, _, w⟩ => w.elim
theorem fam_of (S : Stat K mg T M G D fa) {k : Nat}
    (ih : ∀ f d, T.fn f = some d → ∀ fd dvs, FunD K (D f).name (D f).qual (D f).params (D f).body (D f).scope dvs [] (fa f) fd → FnOk P w K mg base (L2.CX P w) k (fa f) fd (D f).ps (spOf K T G (D f).ps.length k f))
    (ih1 : ∀ f d, T.fn f = some d → ∀ fd dvs, FunD K (D f).name (D f).qual (D f).params (D f).body (D f).scope dvs [] (fa f) fd → FnOk P w K mg base (L2.CX P w) (k - 1) (fa f) fd (D f).ps (spOf K T G (D f).ps.length (k - 1) f)) :
    Fam T M G (callF T k) (callF T (k - 1)) (Gd P w K mg base k) where
  xg := fun X W g => {
    nd := g.nd
    calm := g.calm
    room := by have := g.room.un; omega
    free := fun x hx => by rw [g.mg]; exact S.free x hx
    fn := fun f hf => by
      obtain ⟨⟨d, hd⟩, hm⟩ := S.fn f hf
      obtain ⟨fd, dvs, FD, _⟩ := S.df f d hd
      exact ⟨fa f, by rw [g.mg]; exact hm, by rw [g.K]; exact FD.kp, call_of S g hd ih⟩
    mt := fun c m f h => by
      obtain ⟨⟨d, hd⟩, h1, h2⟩ := S.mt c m f h
      exact ⟨fa f, by rw [g.K]; exact h1, by rw [g.K]; exact h2, call_of S g hd ih⟩
    mts := S.mts
    mk_ := fun c hc => by
      obtain ⟨h1, h2, _⟩ := S.mk_ c hc
      exact ⟨by rw [g.mg]; exact h1, by rw [g.K]; exact h2, make_of S g hc ih1⟩
    glb := fun i v h => by
      obtain ⟨u, v', h1, h2, h3⟩ := S.glb i v h
      exact ⟨u, v', by rw [g.mg]; exact h1, h2, by rw [g.K]; exact h3⟩
    fl := S.fl
    nm := S.nm
    at_ := fun c f h => by rw [g.K]; exact S.at_ c f h
    inj := S.inj
    dis := S.dis }
  blk := fun X W s H scope cl C fp g => ⟨g.prog, g.w, g.K, g.mg, g.base, g.room, g.calm, g.nd, takes_blk⟩
/-- every def, with so many levels below -/
theorem fnok (S : Stat K mg T M G D fa) : ∀ k f d, T.fn f = some d → ∀ fd dvs, FunD K (D f).name (D f).qual (D f).params (D f).body (D f).scope dvs [] (fa f) fd → FnOk P w K mg base (L2.CX P w) k (fa f) fd (D f).ps (spOf K T G (D f).ps.length k f) := by
  intro k
  induction k using Nat.strongRecOn with
  | _ k ih =>
    intro f d hd fd dvs FD
    cases k with
    | zero => exact ⟨fun vs H Q E h => h.1, fun A outer s H args us vs Q E _ _ _ _ ⟨_, ρ, h, ws, _, _, o⟩ => by unfold callF at o; exact o.elim⟩
    | succ k =>
      obtain ⟨fd', dvs', _, sc, hnp, hns, hchk, _⟩ := S.df f d hd
      have fam : Fam T M G (callF T k) (callF T (k - 1)) (Gd P w K mg base k) := fam_of S (ih k (Nat.lt_succ_self _)) (ih (k - 1) (Nat.lt_succ_of_le (Nat.sub_le _ _)))
      have famS : FamS T M G (callF T k) (callF T (k - 1)) (Gd P w K mg base k) (fun X W => Gd P w K mg base k X W ∧ PassesOwn (model X.prog X.w) X.A X.env X.xe) := ⟨fam, fun _ _ g => g.1, fun _ _ g => g.2⟩
      refine FD.ok sc (fun vs H Q E h => h.1) fun cdv A outer s H vs Q E hr ⟨hlen, ρ, h, ws, rl, rs, out⟩ => ?_
      have hwl : ws.length = d.np := by rw [rs.len, hlen, hnp]
      have hfl : fillW d ws = ws := by
        unfold fillW
        have : d.np - ws.length = 0 := by omega
        rw [this]
        simp
      have gd : Gd P w K mg base k (cxOf (L2.CX P w) P w K mg base (D f).N (D f).qual (D f).scope (fa f) cdv A outer s H E) (fun cls d _ H => E cls d H) :=
        ⟨rfl, rfl, rfl, rfl, rfl, hr, rfl, sc.nd, takes_of rfl rfl rfl rfl⟩
      have fit : Fit (cxOf (L2.CX P w) P w K mg base (D f).N (D f).qual (D f).scope (fa f) cdv A outer s H E) (D f).N ⟨(D f).scope, (D f).scope⟩ := ⟨rfl, rfl, fun _ _ => rfl⟩
      refine ⟨_, (sndS famS d.body).pss _ _ _ _ _ ⟨gd, passes_of rfl⟩ fit hchk, ?_⟩
      refine ⟨ρ, startV d ws, h, rl, ⟨?_, fun i w' e => ?_⟩, ?_⟩
      · unfold startV L2.start
        simp [rs.len, hns]
      · unfold startV at e
        unfold L2.start
        by_cases hi : i < ws.length
        · rw [List.getElem?_append_left (by simpa using hi), List.getElem?_map] at e
          obtain ⟨w2, e1, e2⟩ := opt_map_some e
          cases e2
          obtain ⟨v, e3, rv⟩ := rs.get e1
          refine ⟨v, ?_, rv⟩
          rw [List.getElem?_append_left (by simp [← rs.len, hi]), List.getElem?_map, e3]
          rfl
        · rw [List.getElem?_append_right (by simpa using hi), List.getElem?_replicate] at e
          split at e <;> cases e
      · unfold callF at out
        simp only [hd, hfl, hwl, if_true] at out
        refine (OutR.unbind out).imp (fun fl h1 q => ?_) fun c v h1 q ρ' H' cls dd l r x _ => q ρ' H' cls dd l r x
        cases fl with
        | nx s1 => exact fun ρ' H' σ' l r _ => trimR_out rl q ρ' H' .non l r rfl
        | rt v => exact fun ρ' H' v' l r rv => trimR_out rl q ρ' H' v' l r rv
        | ct s1 => exact q.elim
end
end VM

set_option linter.all false
set_option autoImplicit false
set_option maxRecDepth 100000
set_option maxHeartbeats 8000000
/-! VM9: the law's end. -/
namespace VM
open PySem PySem.Spec PyProof.Rows L2
def h0 : VH := ⟨0, fun _ => none⟩
def CXw (P : Program) : CXT := fun outer H s E e s' => ∃ w, L2.CX P w outer H s E e s'
theorem FnOk.cx {P : Program} {w : World} {K : PySem.W.Frag} {mg : Str → Option Value} {base : Heap} {k : Nat} {f : Addr} {fd : FuncData} {ps : List Str} {sp : Sp} (F : FnOk P w K mg base (L2.CX P w) k f fd ps sp) : FnOk P w K mg base (CXw P) k f fd ps sp :=
  ⟨F.len, fun A outer s H args us vs Q E hr he hb hv hs => codeAny_mono (F.run A outer s H args us vs Q E hr he hb hv hs) fun r s' h => by
    cases r with
    | error e => exact ⟨w, h⟩
    | ok fl =>
      cases fl with
      | ret u => exact h
      | next => exact h
      | brk => exact h
      | cont => exact h⟩
theorem CXw.no {P : Program} (H : Hp) (s : Shared) (e : Value) (s' : Shared) (h : CXw P [] H s (fun _ _ _ => False) e s') : False := by
  obtain ⟨w, a, B, H', cls, d, _, _, _, _, _, _, _, z⟩ := h
  exact z
theorem rvs_ints {K : PySem.W.Frag} {ρ : Rho} {H : Hp} : ∀ ns : List Int, RVs K ρ H (ns.map VM.W.int) (ns.map V.int)
  | [] => rfl
  | n :: ns => RVs.cons rfl (rvs_ints ns)
theorem lit_of {K : PySem.W.Frag} {H : Hp} {a : Addr} {xs : List V} (hO : Only H) (hS : SqL K H a xs) (hl : xs.length ≤ 63) : LitAt K H a xs := by
  rcases hS with (h | h) | ⟨o, its, n, h1, h2, h3, h4, h5⟩
  · rcases hO a with z | ⟨o, ys, z⟩
    · rw [z] at h; cases h
    · rw [z] at h; cases h
  · exact .inl h
  · exact .inr ⟨o, its, n, h1, h2, fun _ => h3, h4, h5.1, h5.2⟩
theorem end_of {P : Program} {w : World} {K : PySem.W.Frag} {mg : Str → Option Value} {T : Tab} {M : Nms} {G : Sta} {D : Nat → Dn} {fa : Nat → Addr} (S : Stat K mg T M G D fa) {f : Nat} {d : Fd} (hd : T.fn f = some d) {x : Str} (hps : (D f).ps = [x]) (k : Nat)
    {fd : FuncData} {dvs : List V} (FD : FunD K (D f).name (D f).qual (D f).params (D f).body (D f).scope dvs [] (fa f) fd) (hb : ∀ (s : Shared) (u : Value), BindsTo s fd ⟨[u], []⟩ [(x, u)])
    (law : ∀ ns : List Int, ns.length ≤ 63 → ∃ h', callF T k f [.lit (ns.map VM.W.int)] h0 = .ok (.bl true) h') :
    ∃ (sp : Sp),
      (∀ (H : Hp) (a : Addr) (ns : List Int), ns.length ≤ 63 → Only H → SqL K H a (ns.map V.int) → sp [.ref a] H (fun v _ => v = .bl true) fun _ _ _ => False) ∧
      ∀ base : Heap, K.In base → base.Ns mainGlobals mg → FnOk P w K mg base (CXw P) k (fa f) fd [x] sp := by
  refine ⟨spOf K T G 1 k f, fun H a ns hl hO hS => ⟨rfl, fun _ => none, h0, [.lit (ns.map VM.W.int)], ⟨fun i j a e => (by cases e), fun i a e => (by cases e), fun i e => absurd e (Nat.not_lt_zero i), fun i o e => (by cases e), fun i a e => (by cases e), fun i a e => (by cases e), fun i o e => (by cases e)⟩, ?_, ?_⟩, fun base hK hN => ?_⟩
  · exact RVs.cons ⟨a, ns.map V.int, rfl, lit_of hO hS (by simpa using hl), rvs_ints ns⟩ rfl
  · obtain ⟨h', e⟩ := law ns hl
    rw [e]
    intro ρ' H' v l r rv
    exact rv
  · have F := fnok (P := P) (w := w) (base := base) S k f d hd fd dvs FD
    rw [hps] at F
    exact FnOk.cx F
end VM

set_option linter.all false
set_option autoImplicit false
set_option maxRecDepth 100000
set_option maxHeartbeats 4000000
/-! VMh: a hook of facts, with one more look (tables of the top that are tuples). -/
namespace VM
open PySem PySem.Spec PyProof.Rows L2
def obsE (n : Nat) (fa : List He.Fa) (fn : List He.DefD) (ex : PySem.W.Frag → Bool) (g : Addr → Option Obj) : He.AlD × Bool := (He.obsD fa fn (He.frG g (He.asD g n)), ex (He.frG g (He.asD g n)))
def SaysE (fa : List He.Fa) (fn : List He.DefD) (ex : PySem.W.Frag → Bool) (K : PySem.W.Frag) : Prop := He.SaysD fa fn K ∧ ex K = true
def hookE (n : Nat) (fa : List He.Fa) (fn : List He.DefD) (ex : PySem.W.Frag → Bool) : PySem.W.Hook where
  α := He.AlD × Bool
  obs := fun s => obsE n fa fn ex s.heap.get?
  val := fun _ => (He.valD fn, true)
  says := fun _ h => ∃ K : PySem.W.Frag, K.In h ∧ SaysE fa fn ex K
  of := fun _ _ e => ⟨_, He.frG_in, congrArg (fun z : He.AlD × Bool => z.1) e, congrArg (fun z : He.AlD × Bool => z.2) e⟩
  keeps := fun _ _ _ ⟨K, hK, c⟩ k => ⟨K, PySem.W.Frag.In.keeps hK k, c⟩
theorem obsE_eq {n : Nat} {fa : List He.Fa} {fn : List He.DefD} {ex : PySem.W.Frag → Bool} {g : Addr → Option Obj} {s : Shared} (h : ∀ a, g a = s.heap.get? a) : obsE n fa fn ex g = (hookE n fa fn ex).obs s := by
  have e : g = s.heap.get? := funext h
  rw [e] <;> rfl
theorem KT_of {K : PySem.W.Frag} {x : Str} {vs : List He.Dv} (h : He.tupB K x vs = true) : KT K "tuple" (He.ga K x) (vs.map (He.Dv.v K)) := by
  rcases He.tupB_ok h (fun _ => none) with q | ⟨o, its, n, h1, h2, h3, h4, h5⟩
  · rcases q with q | ⟨o, q⟩ <;> cases q
  · exact ⟨o, its, n, h1, h2, (fun z => absurd z (by decide)), h3, h4, h5⟩
/-- texts -/
theorem RVs_strs {K : PySem.W.Frag} {ρ : Rho} {H : Hp} : ∀ {xs : List Str}, (xs.all fun x => PySem.PyData.strOk x && decide (x.length ≤ 16777216)) = true → RVs K ρ H (xs.map VM.W.str) ((xs.map He.Dv.str).map (He.Dv.v K))
  | [], _ => by simp [RVs]
  | x :: xs, h => by
    simp only [List.all_cons, Bool.and_eq_true, decide_eq_true_eq] at h
    have ih := RVs_strs (K := K) (ρ := ρ) (H := H) (xs := xs) (by simp only [List.all_eq_true, Bool.and_eq_true, decide_eq_true_eq]; simpa using h.2)
    simp only [List.map_cons, RVs]
    exact ⟨_, _, rfl, by simp only [RV]; exact ⟨rfl, h.1.1, h.1.2⟩, ih⟩
end VM

set_option linter.all false
set_option autoImplicit false
set_option maxRecDepth 100000
set_option maxHeartbeats 4000000
/-! VMs: how one reasons about the evaluator: what an answer comes to. -/
namespace VM
open PySem PySem.Spec PyProof.Rows L2
/-- it answers, and so -/
def Tr {α : Type} (r : R α) (Q : α → VH → Prop) : Prop := match r with
  | .ok a h => Q a h
  | _ => False
section
variable {α β : Type} {Q : α → VH → Prop} {P : β → VH → Prop} {h : VH}
@[simp] theorem Tr_ok {a : α} : Tr (.ok a h) Q = Q a h := rfl
@[simp] theorem Tr_bad : Tr (.bad : R α) Q = False := rfl
@[simp] theorem Tr_exc {c : Nat} {w : W} : Tr (.exc c w h : R α) Q = False := rfl
@[simp] theorem Tr_bind {r : R α} {f : α → VH → R β} : Tr (r.bind f) P = Tr r fun a h => Tr (f a h) P := by
  cases r <;> rfl
@[simp] theorem Tr_nx {r : R α} : Tr r.nx Q = Tr r Q := by cases r <;> rfl
@[simp] theorem Tr_of {o : Option α} : Tr (R.of h o) Q = ∃ a, o = some a ∧ Q a h := by
  cases o with
  | none => simp [R.of]
  | some a => simp [R.of]
@[simp] theorem Tr_bl {b : Bool} {f : Bool → R α} : Tr (blR (.bl b) h f) Q = Tr (f b) Q := rfl
theorem Tr.imp {Q' : α → VH → Prop} {r : R α} (t : Tr r Q) (i : ∀ a h, Q a h → Q' a h) : Tr r Q' := by
  cases r with
  | ok a h => exact i a h t
  | _ => exact t
theorem Tr.ok {r : R α} (t : Tr r Q) : ∃ a h, r = .ok a h ∧ Q a h := by
  cases r with
  | ok a h => exact ⟨a, h, rfl, t⟩
  | _ => exact t.elim
theorem Tr.of_eq {r : R α} {a : α} (e : r = .ok a h) (q : Q a h) : Tr r Q := by rw [e]; exact q
theorem Tr_ite {c : Prop} [Decidable c] {r r' : R α} : Tr (if c then r else r') Q = if c then Tr r Q else Tr r' Q := by
  split <;> rfl
end
/-! ### heaps that grow -/
structure Ext (h h' : VH) : Prop where
  le : h.n ≤ h'.n
  eq : ∀ i, i < h.n → h'.f i = h.f i
def WfH (h : VH) : Prop := ∀ i, h.n ≤ i → h.f i = none
theorem Ext.refl {h : VH} : Ext h h := ⟨Nat.le_refl _, fun _ _ => rfl⟩
theorem Ext.trans {h h1 h2 : VH} (a : Ext h h1) (b : Ext h1 h2) : Ext h h2 := ⟨Nat.le_trans a.le b.le, fun i hi => (b.eq i (Nat.lt_of_lt_of_le hi a.le)).trans (a.eq i hi)⟩
theorem Ext.alloc {h : VH} (o : Ob) : Ext h (h.alloc o) := ⟨Nat.le_succ _, fun i hi => by simp [VH.alloc, Nat.ne_of_lt hi]⟩
theorem Ext.get {h h' : VH} {i : Nat} {o : Ob} (e : Ext h h') (w : WfH h) (q : h.f i = some o) : h'.f i = some o := by
  by_cases hi : i < h.n
  · rw [e.eq i hi]; exact q
  · rw [w i (by omega)] at q; cases q
theorem WfH.alloc {h : VH} (w : WfH h) (o : Ob) : WfH (h.alloc o) := fun i hi => by
  have : h.n + 1 ≤ i := hi
  have h1 : i ≠ h.n := by omega
  simp only [VH.alloc, h1, if_false]
  exact w i (by omega)
@[simp] theorem alloc_n {h : VH} {o : Ob} : (h.alloc o).n = h.n + 1 := by rw [VH.alloc]
@[simp] theorem alloc_at {h : VH} {o : Ob} : (h.alloc o).f h.n = some o := by simp [VH.alloc]
theorem alloc_ne {h : VH} {o : Ob} {i : Nat} (hi : i ≠ h.n) : (h.alloc o).f i = h.f i := by simp [VH.alloc, hi]
@[simp] theorem set_n {h : VH} {o : Ob} {i : Nat} : (h.set i o).n = h.n := by rw [VH.set]
@[simp] theorem set_at {h : VH} {o : Ob} {i : Nat} : (h.set i o).f i = some o := by simp [VH.set]
theorem set_ne {h : VH} {o : Ob} {i j : Nat} (hi : j ≠ i) : (h.set i o).f j = h.f j := by simp [VH.set, hi]
theorem WfH.set {h : VH} (w : WfH h) {i : Nat} (o : Ob) (hi : i < h.n) : WfH (h.set i o) := fun j hj => by
  have : h.n ≤ j := hj
  rw [set_ne (by omega)]
  exact w j this
theorem WfH.lt {h : VH} {i : Nat} {o : Ob} (w : WfH h) (q : h.f i = some o) : i < h.n := by
  rcases Nat.lt_or_ge i h.n with z | z
  · exact z
  · rw [w i z] at q; cases q
/-! ### loops -/
section
variable {g : VH → Prop}
theorem forGo_tr {f : W → VS → VH → R Fl} {Q : Fl → VH → Prop} (I : Nat → VS → VH → Prop) : ∀ (ws : List W) (n : Nat) (s : VS) (h : VH), I n s h → (∀ i s h, n ≤ i → I i s h → g h) →
    (∀ i w s h, ws[i]? = some w → I (n + i) s h → Tr (f w s h) fun fl h' => match fl with
      | .nx s' => I (n + i + 1) s' h'
      | .ct s' => I (n + i + 1) s' h'
      | .rt v => Q (.rt v) h') → (∀ s h, I (n + ws.length) s h → Q (.nx s) h) → Tr (forGo g f ws s h) Q
  | [], n, s, h, h0, hg, st, fin => by
    unfold forGo
    rw [if_pos (hg n s h (Nat.le_refl _) h0)]
    exact fin s h h0
  | w :: ws, n, s, h, h0, hg, st, fin => by
    unfold forGo
    rw [if_pos (hg n s h (Nat.le_refl _) h0), Tr_bind]
    refine (st 0 w s h rfl h0).imp fun fl h1 q => ?_
    have next : ∀ s1, I (n + 0 + 1) s1 h1 → Tr (forGo g f ws s1 h1) Q := fun s1 q => forGo_tr I ws (n + 1) s1 h1 q (fun i s h hi => hg i s h (by omega)) (fun i w s h e q => by
      have := st (i + 1) w s h (by simpa using e) (by rw [show n + (i + 1) = n + 1 + i by omega]; exact q)
      rw [show n + (i + 1) + 1 = n + 1 + i + 1 by omega] at this
      exact this) (fun s h q => fin s h (by rw [List.length_cons, show n + (ws.length + 1) = n + 1 + ws.length by omega]; exact q))
    cases fl with
    | nx s1 => exact next s1 q
    | ct s1 => exact next s1 q
    | rt v => exact q
/-- a for loop, by its turns -/
theorem for_tr {f : W → VS → VH → R Fl} {Q : Fl → VH → Prop} (I : Nat → VS → VH → Prop) {ws : List W} {s : VS} {h : VH} (h0 : I 0 s h) (hg : ∀ i s h, I i s h → g h)
    (st : ∀ i w s h, ws[i]? = some w → I i s h → Tr (f w s h) fun fl h' => match fl with
      | .nx s' => I (i + 1) s' h'
      | .ct s' => I (i + 1) s' h'
      | .rt v => Q (.rt v) h') (fin : ∀ s h, I ws.length s h → Q (.nx s) h) : Tr (forGo g f ws s h) Q :=
  forGo_tr I ws 0 s h h0 (fun i s h _ => hg i s h) (fun i w s h e q => by simp only [Nat.zero_add] at q ⊢; exact st i w s h e q) (fun s h q => fin s h (by simpa using q))
theorem compGo_tr {f : W → VH → R (Option W)} (I : Nat → List W → VH → Prop) : ∀ (ws : List W) (n : Nat) (acc : List W) (h : VH) (Q : List W → VH → Prop), I n acc h → (∀ i ys h, n ≤ i → I i ys h → g h) →
    (∀ i w ys h, ws[i]? = some w → I (n + i) ys h → Tr (f w h) fun o h' => I (n + i + 1) (ys ++ o.toList) h') → (∀ ys h, I (n + ws.length) (acc ++ ys) h → Q ys h) → Tr (compGo g f ws h) Q
  | [], n, acc, h, Q, h0, hg, st, fin => by
    unfold compGo
    rw [if_pos (hg n acc h (Nat.le_refl _) h0)]
    exact fin [] h (by simpa using h0)
  | w :: ws, n, acc, h, Q, h0, hg, st, fin => by
    unfold compGo
    rw [if_pos (hg n acc h (Nat.le_refl _) h0), Tr_bind, Tr_nx]
    refine (st 0 w acc h rfl h0).imp fun o h1 q => ?_
    rw [Tr_bind]
    refine compGo_tr I ws (n + 1) (acc ++ o.toList) h1 _ q (fun i s h hi => hg i s h (by omega)) (fun i w ys h e q => by
      have := st (i + 1) w ys h (by simpa using e) (by rw [show n + (i + 1) = n + 1 + i by omega]; exact q)
      rw [show n + (i + 1) + 1 = n + 1 + i + 1 by omega] at this
      exact this) (fun ys h q => ?_)
    rw [Tr_ok]
    refine fin _ h ?_
    rw [List.length_cons, show n + (ws.length + 1) = n + 1 + ws.length by omega]
    cases o with
    | none => simpa [consO] using q
    | some y => simpa [consO] using q
/-- a comprehension, by its turns -/
theorem comp_tr {f : W → VH → R (Option W)} {Q : List W → VH → Prop} (I : Nat → List W → VH → Prop) {ws : List W} {h : VH} (h0 : I 0 [] h) (hg : ∀ i ys h, I i ys h → g h)
    (st : ∀ i w ys h, ws[i]? = some w → I i ys h → Tr (f w h) fun o h' => I (i + 1) (ys ++ o.toList) h') (fin : ∀ ys h, I ws.length ys h → Q ys h) : Tr (compGo g f ws h) Q :=
  compGo_tr I ws 0 [] h Q h0 (fun i s h _ => hg i s h) (fun i w ys h e q => by simp only [Nat.zero_add] at q ⊢; exact st i w ys h e q) (fun ys h q => fin ys h (by simpa using q))
/-- .. each item by itself, nothing changed -/
theorem comp_pure {f : W → VH → R (Option W)} (φ : W → Option W) : ∀ {ws : List W} {h : VH}, g h → (∀ w ∈ ws, f w h = .ok (φ w) h) → compGo g f ws h = .ok (ws.filterMap φ) h
  | [], h, hg, _ => by unfold compGo; rw [if_pos hg]; rfl
  | w :: ws, h, hg, st => by
    unfold compGo
    rw [if_pos hg, st w (List.mem_cons_self ..), R.nx_ok, R.bind_ok, comp_pure φ hg fun x hx => st x (List.mem_cons_of_mem _ hx), R.bind_ok, List.filterMap_cons]
    cases φ w <;> rfl
end
/-! ### while -/
theorem whGo_mono {c : VS → VH → R Bool} {b : VS → VH → R Fl} : ∀ {k : Nat} {s : VS} {h : VH} {r : R Fl}, whGo c b k s h = some r → ∀ j, whGo c b (k + j) s h = some r
  | 0, s, h, r, e, j => by simp [whGo] at e
  | k + 1, s, h, r, e, j => by
    rw [show k + 1 + j = (k + j) + 1 by omega]
    unfold whGo at e ⊢
    cases ec : c s h with
    | bad => rw [ec] at e; exact e
    | exc _ _ _ => rw [ec] at e; exact e
    | ok t h1 =>
      rw [ec] at e
      cases t with
      | false => exact e
      | true =>
        simp only at e ⊢
        cases eb : b s h1 with
        | bad => rw [eb] at e; exact e
        | exc _ _ _ => rw [eb] at e; exact e
        | ok fl h2 =>
          rw [eb] at e
          cases fl with
          | nx s1 => exact whGo_mono e j
          | ct s1 => exact whGo_mono e j
          | rt w => exact e
theorem whR_eq {c : VS → VH → R Bool} {b : VS → VH → R Fl} {k : Nat} {s : VS} {h : VH} {r : R Fl} (e : whGo c b k s h = some r) : whR c b s h = r := by
  unfold whR
  have ex : ∃ k r, whGo c b k s h = some r := ⟨k, r, e⟩
  rw [dif_pos ex]
  have h2 := ex.choose_spec.choose_spec
  have a := whGo_mono e ex.choose
  have b' := whGo_mono h2 k
  rw [Nat.add_comm] at b'
  rw [a] at b'
  exact (Option.some.inj b').symm
theorem wh_tr {c : VS → VH → R Bool} {b : VS → VH → R Fl} {Q : Fl → VH → Prop} (I : Nat → VS → VH → Prop)
    (st : ∀ m s h, I m s h → Tr (c s h) fun t h1 => if t = true then Tr (b s h1) fun fl h2 => match fl with
      | .nx s' => ∃ m', m' < m ∧ I m' s' h2
      | .ct s' => ∃ m', m' < m ∧ I m' s' h2
      | .rt v => Q (.rt v) h2 else Q (.nx s) h1) : ∀ (m : Nat) (s : VS) (h : VH), I m s h → Tr (whR c b s h) Q := by
  have go : ∀ (m : Nat) (s : VS) (h : VH), I m s h → ∃ k r, whGo c b k s h = some r ∧ Tr r Q := by
    intro m
    induction m using Nat.strongRecOn with
    | _ m ih =>
      intro s h i
      obtain ⟨t, h1, ec, q⟩ := (st m s h i).ok
      cases t with
      | false =>
        refine ⟨1, .ok (.nx s) h1, ?_, by simpa using q⟩
        simp [whGo, ec]
      | true =>
        simp only [if_true] at q
        obtain ⟨fl, h2, eb, q⟩ := q.ok
        cases fl with
        | nx s1 =>
          obtain ⟨m', hm, i'⟩ := q
          obtain ⟨k, r, e, t⟩ := ih m' hm s1 h2 i'
          exact ⟨k + 1, r, by simp [whGo, ec, eb, e], t⟩
        | ct s1 =>
          obtain ⟨m', hm, i'⟩ := q
          obtain ⟨k, r, e, t⟩ := ih m' hm s1 h2 i'
          exact ⟨k + 1, r, by simp [whGo, ec, eb, e], t⟩
        | rt w => exact ⟨1, .ok (.rt w) h2, by simp [whGo, ec, eb], q⟩
  intro m s h i
  obtain ⟨k, r, e, t⟩ := go m s h i
  rw [whR_eq e]
  exact t
/-! ### running -/
theorem cal_ex : ∃ f : Tab → Nat → Nat → List VM.W → VH → R VM.W, f = callF := ⟨_, rfl⟩
/-- a call, sealed (so that nothing looks into it) -/
noncomputable def cal : Tab → Nat → Nat → List VM.W → VH → R VM.W := cal_ex.choose
theorem cal_eq : cal = callF := cal_ex.choose_spec
/-- a def's body runs -/
theorem cal_run {T : Tab} {k f : Nat} {d : Fd} {ws : List VM.W} {h : VH} (hd : T.fn f = some d) (hl : d.dfl = []) (hn : ws.length = d.np) : cal T (k + 1) f ws h = (exS T (cal T k) (cal T (k - 1)) d.body (startV d ws) h).bind fun fl h1 => (match fl with
      | .rt w => trimR h w h1
      | .nx _ => trimR h .non h1
      | .ct _ => .bad) := by
  have e : fillW d ws = ws := by unfold fillW; rw [hl]; simp
  rw [cal_eq, callF]
  simp only [hd, e, hn, if_true]
  try rfl
def isTy (t : Ty) (h : VH) (w : VM.W) : Bool := (VM.isInst t h w).getD false
/-- a datum -/
def Dat (h : VH) (w : VM.W) : Prop := match w with
  | .ref n => ∃ o, h.f n = some o ∧ (match o with | .ins _ _ => False | _ => True)
  | .lit _ => False
  | .exn _ _ => False
  | _ => True
theorem Dat.isInst {h : VH} {w : VM.W} (d : Dat h w) (t : Ty) : VM.isInst t h w = some (isTy t h w) := by
  unfold isTy
  cases w with
  | ref n =>
    obtain ⟨o, e, q⟩ := d
    unfold VM.isInst
    simp only [e]
    cases o with
    | ins _ _ => exact q.elim
    | _ => rfl
  | lit _ => exact d.elim
  | exn _ _ => exact d.elim
  | _ => rfl
@[simp] theorem R_map_some {α β : Type} {h : VH} {a : α} {f : α → β} : R.of h (Option.map f (some a)) = .ok (f a) h := rfl
@[simp] theorem blR_bl {α : Type} {b : Bool} {h : VH} {f : Bool → R α} : blR (.bl b) h f = f b := rfl
theorem bi_isinst {t : Ty} {w : VM.W} {h : VH} (d : Dat h w) : biW (.isinst t) [w] h = .ok (.bl (isTy t h w)) h := by
  show R.of h ((VM.isInst t h w).map VM.W.bl) = _
  rw [d.isInst t]; rfl
@[simp] theorem R_of_map {α β : Type} {h : VH} {o : Option α} {f : α → β} : R.of h (o.map f) = (R.of h o).bind fun a h1 => .ok (f a) h1 := by cases o <;> rfl
theorem atI_pos {α : Type} {xs : List α} {i : Int} (h : 0 ≤ i) : L2.atI xs i = xs[i.toNat]? := by
  unfold L2.atI L2.ixN
  rw [if_pos h]
  by_cases hi : i < (xs.length : Int)
  · rw [if_pos hi]; rfl
  · rw [if_neg hi, List.getElem?_eq_none (by omega)]; rfl
theorem mul_l {i j : Int} {h : VH} (c : -(2 ^ 64) < i ∧ i < 2 ^ 64) : binW .mul (.int i) (.int j) h = .ok (.int (i * j)) h := if_pos (.inl c)
theorem mul_r {i j : Int} {h : VH} (c : -(2 ^ 64) < j ∧ j < 2 ^ 64) : binW .mul (.int i) (.int j) h = .ok (.int (i * j)) h := if_pos (.inr c)
@[simp] theorem add_ii {i j : Int} {h : VH} : binW .add (.int i) (.int j) h = .ok (.int (i + j)) h := rfl
@[simp] theorem sub_ii {i j : Int} {h : VH} : binW .sub (.int i) (.int j) h = .ok (.int (i - j)) h := rfl
theorem mod_ii {i j : Int} {h : VH} (c : 0 < j) : binW .mod (.int i) (.int j) h = .ok (.int (i % j)) h := if_pos c
theorem fdiv_ii {i j : Int} {h : VH} (c : 0 < j ∧ j < 1073741824) : binW .fdiv (.int i) (.int j) h = .ok (.int (i / j)) h := if_pos c
@[simp] theorem forL_seq {src : VH → R (List VM.W)} {f : VM.W → VS → VH → R Fl} {s : VS} {h : VH} : forL .seq src f s h = forB .seq src f s h := by
  unfold forL preW
  cases src h <;> rfl
@[simp] theorem forL_rng {src : VH → R (List VM.W)} {f : VM.W → VS → VH → R Fl} {s : VS} {h : VH} : forL .rng src f s h = forB .rng src f s h := by
  unfold forL preW
  cases src h <;> rfl
@[simp] theorem forL_enum {src : VH → R (List VM.W)} {f : VM.W → VS → VH → R Fl} {s : VS} {h : VH} : forL .enum src f s h = forB .enum src f s h := by
  unfold forL preW
  cases src h <;> rfl
@[simp] theorem forL_zip {src : VH → R (List VM.W)} {f : VM.W → VS → VH → R Fl} {s : VS} {h : VH} : forL .zip src f s h = forB .zip src f s h := by
  unfold forL preW
  cases src h <;> rfl
theorem for_seq {src : VH → R (List VM.W)} {f : VM.W → VS → VH → R Fl} {Q : Fl → VH → Prop} {s : VS} {h h1 : VH} {n : Nat} {xs : List VM.W} (e : src h = .ok [.ref n] h1) (hf : h1.f n = some (.lst xs)) (I : Nat → VS → VH → Prop) (h0 : I 0 s h1) (hg : ∀ i s h', I i s h' → h'.f n = some (.lst xs))
    (st : ∀ i w s h, xs[i]? = some w → I i s h → Tr (f w s h) fun fl h' => match fl with
      | .nx s' => I (i + 1) s' h'
      | .ct s' => I (i + 1) s' h'
      | .rt v => Q (.rt v) h') (fin : ∀ s h, I xs.length s h → Q (.nx s) h) : Tr (forB .seq src f s h) Q := by
  unfold forB
  rw [e]
  simp only [R.bind_ok, srcW, hf]
  exact for_tr I h0 hg st fin
@[simp] theorem intO_int {i : Int} : intO (.int i) = some i := rfl
@[simp] theorem slc_lit {ws : List W} {lo hi : Option Int} {h : VH} : slcW (.lit ws) lo hi h = .ok (.ref h.n) (h.alloc (.lst (cutL ws lo hi))) := rfl
@[simp] theorem slc_tup {ws : List W} {lo hi : Option Int} {h : VH} : slcW (.tup ws) lo hi h = .ok (.tup (cutL ws lo hi)) h := rfl
theorem slc_ref {n : Nat} {ws : List W} {lo hi : Option Int} {h : VH} (e : h.f n = some (.lst ws)) : slcW (.ref n) lo hi h = .ok (.ref h.n) (h.alloc (.lst (cutL ws lo hi))) := by
  unfold slcW
  simp [e, Ob.items]
theorem cut_take {α : Type} {xs : List α} {i : Int} (h : 0 ≤ i) : cutL xs none (some i) = xs.take i.toNat := by
  unfold cutL
  have e1 : HT.sIx xs.length 0 none = 0 := rfl
  have e2 : HT.sIx xs.length xs.length (some i) = min i.toNat xs.length := by
    show (if i < 0 then (i + (xs.length : Int)).toNat else min i.toNat xs.length) = _
    rw [if_neg (by omega)]
  rw [e1, e2]
  simp only [List.drop_zero, Nat.sub_zero]
  rw [List.take_eq_take_iff]
  omega
theorem cut_drop {α : Type} {xs : List α} {i : Int} (h : 0 ≤ i) : cutL xs (some i) none = xs.drop i.toNat := by
  unfold cutL
  have e1 : HT.sIx xs.length xs.length none = xs.length := rfl
  have e2 : HT.sIx xs.length 0 (some i) = min i.toNat xs.length := by
    show (if i < 0 then (i + (xs.length : Int)).toNat else min i.toNat xs.length) = _
    rw [if_neg (by omega)]
  rw [e1, e2]
  by_cases hi : i.toNat ≤ xs.length
  · rw [Nat.min_eq_left hi, List.take_of_length_le (by simp)]
  · rw [Nat.min_eq_right (by omega), List.drop_eq_nil_of_le (Nat.le_refl _), List.drop_eq_nil_of_le (by omega)]
    simp
/-! ### built-ins, comparisons at given values -/
section
variable {h : VH} {i j : Int} {n : Nat} {ws : List W}
@[simp] theorem bi_absI : biW .abs [.int i] h = .ok (.int (if i < 0 then -i else i)) h := rfl
@[simp] theorem bi_intB {b : Bool} : biW .int [.bl b] h = .ok (.int (if b = true then 1 else 0)) h := rfl
@[simp] theorem bi_intI : biW .int [.int i] h = .ok (.int i) h := rfl
@[simp] theorem bi_max2I : biW .max2 [.int i, .int j] h = .ok (.int (if j > i then j else i)) h := rfl
@[simp] theorem bi_min2I : biW .min2 [.int i, .int j] h = .ok (.int (if j < i then j else i)) h := rfl
@[simp] theorem bi_lenT : biW .len [.tup ws] h = .ok (.int (ws.length : Nat)) h := rfl
@[simp] theorem bi_lenL : biW .len [.lit ws] h = .ok (.int (ws.length : Nat)) h := rfl
@[simp] theorem bi_lenS {z : Str} : biW .len [.str z] h = .ok (.int (z.length : Nat)) h := rfl
theorem bi_lenR (e : h.f n = some (.lst ws)) : biW .len [.ref n] h = .ok (.int (ws.length : Nat)) h := by
  show R.of h ((lenW h (.ref n)).map _) = _
  simp [lenW, e]
@[simp] theorem cmp_ltI : cmpW h .lt (.int i) (.int j) = some (decide (i < j)) := rfl
@[simp] theorem cmp_leI : cmpW h .le (.int i) (.int j) = some (decide (i ≤ j)) := rfl
@[simp] theorem cmp_gtI : cmpW h .gt (.int i) (.int j) = some (decide (j < i)) := rfl
@[simp] theorem cmp_geI : cmpW h .ge (.int i) (.int j) = some (decide (j ≤ i)) := rfl
@[simp] theorem cmp_eqI : cmpW h .eq (.int i) (.int j) = some (decide (i = j)) := rfl
@[simp] theorem cmp_neI : cmpW h .ne (.int i) (.int j) = some (!decide (i = j)) := rfl
@[simp] theorem idx_T : idxW h (.tup ws) (.int i) = L2.atI ws i := rfl
@[simp] theorem idx_L : idxW h (.lit ws) (.int i) = L2.atI ws i := rfl
theorem idx_R (e : h.f n = some (.lst ws)) : idxW h (.ref n) (.int i) = L2.atI ws i := by simp [idxW, e, atW]
@[simp] theorem bmK_ref {m : Bm} (hm : m = .append ∨ m = .extend ∨ m = .pop ∨ m = .popAt ∨ m = .index) (e : h.f n = some (.lst ws)) : bmK m (.ref n) h = true := by
  rcases hm with rfl | rfl | rfl | rfl | rfl <;> simp [bmK, e, Ob.items]
theorem bm_app {w : W} (e : h.f n = some (.lst ws)) (hl : ws.length < 16777216) : bmW .append (.ref n) [w] h = .ok .non (h.set n (.lst (ws ++ [w]))) := by
  simp [bmW, e, hl]
end
theorem map_get {α β : Type} {f : α → β} {l : List α} {i : Nat} {w : β} (e : (l.map f)[i]? = some w) : ∃ c, l[i]? = some c ∧ f c = w := by
  rw [List.getElem?_map] at e
  cases q : l[i]? with
  | none => rw [q] at e; cases e
  | some c => rw [q] at e; exact ⟨c, rfl, Option.some.inj e⟩
theorem Ext.setNew {h h' : VH} {k : Nat} {o : Ob} (e : Ext h h') (hk : h.n ≤ k) : Ext h (h'.set k o) := ⟨e.le, fun i hi => by rw [set_ne (by omega)]; exact e.eq i hi⟩
theorem for_rng {src : VH → R (List VM.W)} {f : VM.W → VS → VH → R Fl} {Q : Fl → VH → Prop} {s : VS} {h h1 : VH} {j : Int} (e : src h = .ok [.int j] h1) (hj : -(2 ^ 62) ≤ j ∧ j < 2 ^ 62) (I : Nat → VS → VH → Prop) (h0 : I 0 s h1)
    (st : ∀ i s h, i < j.toNat → I i s h → Tr (f (.int (i : Nat)) s h) fun fl h' => match fl with
      | .nx s' => I (i + 1) s' h'
      | .ct s' => I (i + 1) s' h'
      | .rt v => Q (.rt v) h') (fin : ∀ s h, I j.toNat s h → Q (.nx s) h) : Tr (forB .rng src f s h) Q := by
  unfold forB
  rw [e]
  simp only [R.bind_ok, srcW, if_pos hj]
  refine for_tr I h0 (fun _ _ _ _ => trivial) (fun i w s h e q => ?_) (fun s h q => fin s h (by simpa using q))
  rw [List.getElem?_map] at e
  cases q2 : (List.range j.toNat)[i]? with
  | none => rw [q2] at e; cases e
  | some c =>
    rw [q2] at e
    obtain ⟨h1, h2⟩ := List.getElem?_eq_some_iff.mp q2
    simp only [List.length_range] at h1
    simp only [List.getElem_range] at h2
    subst h2
    cases e
    exact st i s h h1 q
/-! ### comprehensions -/
section
variable {src : VH → R (List W)} {f : W → VH → R (Option W)} {h h1 : VH}
@[simp] theorem compL_seq : compL .seq src f h = (compB .seq src f h).bind fun ys h2 => .ok (.ref h2.n) (h2.alloc (.lst ys)) := by
  unfold compL preW
  cases src h <;> rfl
@[simp] theorem compL_rng : compL .rng src f h = (compB .rng src f h).bind fun ys h2 => .ok (.ref h2.n) (h2.alloc (.lst ys)) := by
  unfold compL preW
  cases src h <;> rfl
@[simp] theorem compL_zip : compL .zip src f h = (compB .zip src f h).bind fun ys h2 => .ok (.ref h2.n) (h2.alloc (.lst ys)) := by
  unfold compL preW
  cases src h <;> rfl
@[simp] theorem compL_enum : compL .enum src f h = (compB .enum src f h).bind fun ys h2 => .ok (.ref h2.n) (h2.alloc (.lst ys)) := by
  unfold compL preW
  cases src h <;> rfl
theorem comp_rngP {j : Int} (e : src h = .ok [.int j] h1) (hj : 0 ≤ j ∧ j ≤ 16777216) (φ : Nat → W) (st : ∀ i, i < j.toNat → f (.int (i : Nat)) h1 = .ok (some (φ i)) h1) : compB .rng src f h = .ok ((List.range j.toNat).map φ) h1 := by
  unfold compB
  rw [e]
  have hb : -(2 ^ 62) ≤ j ∧ j < 2 ^ 62 := by omega
  have hl : ((List.range j.toNat).map fun (k : Nat) => W.int k).length ≤ 16777216 := by simp; omega
  simp only [R.bind_ok, srcW, if_pos hb, if_pos hl]
  have := comp_pure (g := fun _ => True) (f := f) (h := h1) (fun w => match w with | .int i => some (φ i.toNat) | _ => none) (ws := (List.range j.toNat).map fun (k : Nat) => W.int k) trivial (fun w hw => by
    obtain ⟨i, hi, rfl⟩ := List.mem_map.mp hw
    simpa using st i (List.mem_range.mp hi))
  rw [this, List.filterMap_map]
  congr 1
  have : ((fun w => match w with | W.int i => some (φ i.toNat) | _ => none) ∘ fun (k : Nat) => W.int (k : Int)) = fun k => some (φ k) := by
    funext k
    simp
  rw [this]
  simp
/-- over a list or a tuple, each item by itself -/
theorem comp_tupP {ws : List W} (e : src h = .ok [.tup ws] h1) (hl : ws.length ≤ 16777216) (φ : W → Option W) (st : ∀ w ∈ ws, f w h1 = .ok (φ w) h1) : compB .seq src f h = .ok (ws.filterMap φ) h1 := by
  unfold compB
  rw [e]
  simp only [R.bind_ok, srcW, if_pos hl]
  exact comp_pure (g := fun _ => True) φ trivial st
theorem comp_lstP {n : Nat} {ws : List W} (e : src h = .ok [.ref n] h1) (hf : h1.f n = some (.lst ws)) (hl : ws.length ≤ 16777216) (φ : W → Option W) (st : ∀ w ∈ ws, f w h1 = .ok (φ w) h1) : compB .seq src f h = .ok (ws.filterMap φ) h1 := by
  unfold compB
  rw [e]
  simp only [R.bind_ok, srcW, hf, if_pos hl]
  exact comp_pure (g := fun h' => h'.f n = some (.lst ws)) φ hf st
theorem comp_strP {z : Str} (e : src h = .ok [.str z] h1) (hl : z.length ≤ 16777216) (φ : W → Option W) (st : ∀ c ∈ z.cps.toList, f (one c) h1 = .ok (φ (one c)) h1) : compB .seq src f h = .ok ((z.cps.toList.map one).filterMap φ) h1 := by
  unfold compB
  rw [e]
  have hl' : (z.cps.toList.map one).length ≤ 16777216 := by simpa [Str.length] using hl
  simp only [R.bind_ok, srcW, if_pos hl']
  exact comp_pure (g := fun _ => True) φ trivial fun w hw => by
    obtain ⟨c, hc, rfl⟩ := List.mem_map.mp hw
    exact st c hc
theorem bi_tupR {n : Nat} {ws : List W} (e : h.f n = some (.lst ws)) : biW .tuple [.ref n] h = .ok (.tup ws) h := by
  show R.of h ((seqW h (.ref n)).map W.tup) = _
  simp [seqW, e, Ob.items]
theorem bi_allR {n : Nat} {bs : List Bool} (e : h.f n = some (.lst (bs.map W.bl))) : biW .all [.ref n] h = .ok (.bl (bs.all id)) h := by
  have q : ∀ bs : List Bool, blsW (bs.map W.bl) = some bs := fun bs => by induction bs <;> simp [blsW, *]
  show R.of h (((lstW h (.ref n)).bind blsW).map fun bs => W.bl (bs.all id)) = _
  simp [lstW, e, q]
end
/-! ### values without refs -/
def noRef (w : VM.W) : Bool := refsLt 0 w
def noRefs (ws : List VM.W) : Bool := refsLts 0 ws
mutual
theorem refsLt_up {n m : Nat} (hm : n ≤ m) : ∀ (w : VM.W), refsLt n w = true → refsLt m w = true
  | .non, _ => by unfold refsLt; rfl
  | .bl _, _ => by unfold refsLt; rfl
  | .int _, _ => by unfold refsLt; rfl
  | .str _, _ => by unfold refsLt; rfl
  | .tup ws, e => by unfold refsLt at e ⊢; exact refsLts_up hm ws e
  | .lit ws, e => by unfold refsLt at e ⊢; exact refsLts_up hm ws e
  | .fz ws, e => by unfold refsLt at e ⊢; exact refsLts_up hm ws e
  | .ref k, e => by
    unfold refsLt at e ⊢
    have := of_decide_eq_true e
    exact decide_eq_true (by omega)
  | .exn _ w, e => by unfold refsLt at e ⊢; exact refsLt_up hm w e
theorem refsLts_up {n m : Nat} (hm : n ≤ m) : ∀ (ws : List VM.W), refsLts n ws = true → refsLts m ws = true
  | [], _ => by unfold refsLts; rfl
  | w :: ws, e => by
    unfold refsLts at e ⊢
    simp only [Bool.and_eq_true] at e ⊢
    exact ⟨refsLt_up hm w e.1, refsLts_up hm ws e.2⟩
end
@[simp] theorem nr_non : noRef .non = true := by unfold noRef; rw [refsLt]
@[simp] theorem nr_bl {b : Bool} : noRef (.bl b) = true := by unfold noRef; rw [refsLt]
@[simp] theorem nr_int {b : Int} : noRef (.int b) = true := by unfold noRef; rw [refsLt]
@[simp] theorem nr_str {b : Str} : noRef (.str b) = true := by unfold noRef; rw [refsLt]
@[simp] theorem nr_tup {ws : List VM.W} : noRef (.tup ws) = noRefs ws := by unfold noRef; rw [refsLt]; rfl
@[simp] theorem nr_fz {ws : List VM.W} : noRef (.fz ws) = noRefs ws := by unfold noRef; rw [refsLt]; rfl
@[simp] theorem nr_lit {ws : List VM.W} : noRef (.lit ws) = noRefs ws := by unfold noRef; rw [refsLt]; rfl
@[simp] theorem nr_one {c : Nat} : noRef (one c) = true := by unfold noRef one; rw [refsLt]
@[simp] theorem nrs_nil : noRefs [] = true := by unfold noRefs; rw [refsLts]
@[simp] theorem nrs_cons {w : VM.W} {ws : List VM.W} : noRefs (w :: ws) = (noRef w && noRefs ws) := by unfold noRefs; rw [refsLts]; rfl
theorem nrs_iff : ∀ {ws : List VM.W}, noRefs ws = true ↔ ∀ w ∈ ws, noRef w = true
  | [] => by simp
  | w :: ws => by simp [nrs_iff (ws := ws)]
@[simp] theorem nrs_app {ws vs : List VM.W} : noRefs (ws ++ vs) = (noRefs ws && noRefs vs) := by
  induction ws with
  | nil => simp
  | cons w ws ih => simp [ih, Bool.and_assoc]
@[simp] theorem nrs_mapI {is : List Int} : noRefs (is.map VM.W.int) = true := nrs_iff.mpr fun w hw => by obtain ⟨i, _, rfl⟩ := List.mem_map.mp hw; simp
@[simp] theorem nrs_mapS {is : List Str} : noRefs (is.map VM.W.str) = true := nrs_iff.mpr fun w hw => by obtain ⟨i, _, rfl⟩ := List.mem_map.mp hw; simp
@[simp] theorem nrs_mapB {is : List Bool} : noRefs (is.map VM.W.bl) = true := nrs_iff.mpr fun w hw => by obtain ⟨i, _, rfl⟩ := List.mem_map.mp hw; simp
theorem nrs_map {α : Type} {xs : List α} {f : α → VM.W} (h : ∀ x ∈ xs, noRef (f x) = true) : noRefs (xs.map f) = true := nrs_iff.mpr fun w hw => by obtain ⟨i, hi, rfl⟩ := List.mem_map.mp hw; exact h i hi
@[simp] theorem nrs_mapA {α : Type} {xs : List α} {f : α → VM.W} (h : ∀ x, noRef (f x) = true) : noRefs (xs.map f) = true := nrs_map fun x _ => h x
theorem nrs_sub {ws vs : List VM.W} (h : noRefs ws = true) (s : ∀ w ∈ vs, w ∈ ws) : noRefs vs = true := nrs_iff.mpr fun w hw => nrs_iff.mp h w (s w hw)
@[simp] theorem nrs_take {ws : List VM.W} {k : Nat} (h : noRefs ws = true) : noRefs (ws.take k) = true := nrs_sub h fun _ => List.mem_of_mem_take
@[simp] theorem nrs_drop {ws : List VM.W} {k : Nat} (h : noRefs ws = true) : noRefs (ws.drop k) = true := nrs_sub h fun _ => List.mem_of_mem_drop
@[simp] theorem nrs_rev {ws : List VM.W} (h : noRefs ws = true) : noRefs ws.reverse = true := nrs_sub h fun _ => List.mem_reverse.mp
@[simp] theorem nrs_cut {ws : List VM.W} {lo hi : Option Int} (h : noRefs ws = true) : noRefs (cutL ws lo hi) = true := nrs_take (nrs_drop h)
/-! ### what is new goes -/
@[simp] theorem kill_n {h : VH} {i : Nat} : (h.kill i).n = h.n := by rw [VH.kill]
@[simp] theorem kill_at {h : VH} {i : Nat} : (h.kill i).f i = none := by simp [VH.kill]
theorem kill_ne {h : VH} {i j : Nat} (hi : j ≠ i) : (h.kill i).f j = h.f j := by simp [VH.kill, hi]
@[simp] theorem alloc_set {h : VH} {o p : Ob} : (h.alloc o).set h.n p = h.alloc p := by
  unfold VH.alloc VH.set
  simp only [VH.mk.injEq, true_and]
  funext i
  by_cases hi : i = h.n <;> simp [hi]
@[simp] theorem set_set {h : VH} {i : Nat} {o p : Ob} : (h.set i o).set i p = h.set i p := by
  unfold VH.set
  simp only [VH.mk.injEq, true_and]
  funext j
  by_cases hj : j = i <;> simp [hj]
@[simp] theorem Ext_refl {h : VH} : Ext h h := Ext.refl
@[simp] theorem Ext_alloc {h h1 : VH} {o : Ob} (e : Ext h h1) : Ext h (h1.alloc o) := e.trans (Ext.alloc o)
@[simp] theorem Ext_set {h h1 : VH} {o : Ob} {i : Nat} (e : Ext h h1) (hi : h.n ≤ i) : Ext h (h1.set i o) := e.setNew hi
@[simp] theorem Ext_kill {h h1 : VH} {i : Nat} (e : Ext h h1) (hi : h.n ≤ i) : Ext h (h1.kill i) := ⟨e.le, fun j hj => by rw [kill_ne (by omega)]; exact e.eq j hj⟩
@[simp] theorem Ext_a {h : VH} {o : Ob} : Ext h (h.alloc o) := Ext.alloc o
@[simp] theorem Ext_aa {h : VH} {o p : Ob} : Ext h ((h.alloc o).alloc p) := Ext_alloc Ext_a
@[simp] theorem Ext_ak {h : VH} {n : Nat} {o : Ob} (hn : h.n ≤ n) : Ext h ((h.alloc o).kill n) := Ext_kill Ext_a hn
theorem trim_eq {h h1 h2 : VH} (e : Ext h2 h1) (hn : h2.n = h.n) (ho : ∀ i, h.n ≤ i → h2.f i = h.f i) : trim h h1 = h2 := by
  obtain ⟨n2, f2⟩ := h2
  simp only at hn
  subst hn
  unfold trim
  simp only [VH.mk.injEq, true_and]
  funext i
  by_cases hi : i < h.n
  · simp only [hi, if_true]; exact e.eq i hi
  · simp only [hi, if_false]; exact (ho i (by omega)).symm
theorem trimR_of {h h1 : VH} {w : VM.W} (e : Ext h h1) (hw : noRef w = true) : trimR h w h1 = .ok w h := by
  unfold trimR
  rw [if_pos ⟨refsLt_up (Nat.zero_le _) w hw, fun i hi => .inl (e.eq i hi)⟩, trim_eq e rfl fun _ _ => rfl]
@[simp] theorem trimR_ext {h h1 : VH} {w : VM.W} (hw : noRef w = true) (e : Ext h h1) : trimR h w h1 = .ok w h := trimR_of e hw
/-- .. one thing that stood is another now -/
theorem trimR_set {h h1 : VH} {w : VM.W} {i : Nat} {o : Ob} (hw : noRef w = true) (hi : i < h.n) (ho : obLt 0 o = true) (e : Ext (h.set i o) h1) : trimR h w h1 = .ok w (h.set i o) := by
  unfold trimR
  have up : ∀ o : Ob, obLt 0 o = true → obLt h.n o = true := fun o q => by
    cases o with
    | lst ws => exact refsLts_up (Nat.zero_le _) ws q
    | dic lk kvs => exact List.all_eq_true.mpr fun kv hk => refsLt_up (Nat.zero_le _) _ (List.all_eq_true.mp q kv hk)
    | ins c fs => exact List.all_eq_true.mpr fun kv hk => refsLt_up (Nat.zero_le _) _ (List.all_eq_true.mp q kv hk)
  have t : TrimOk h w h1 := by
    refine ⟨refsLt_up (Nat.zero_le _) w hw, fun j hj => ?_⟩
    by_cases hji : j = i
    · subst hji
      right
      intro o' ho'
      rw [e.eq j hj, set_at] at ho'
      cases ho'
      exact up _ ho
    · left
      rw [e.eq j hj, set_ne hji]
  rw [if_pos t, trim_eq (h := h) e rfl fun j hj => set_ne (by omega)]
@[simp] theorem frzR_ok {h h1 : VH} {w : VM.W} : frzR h (.ok w h1) = frzW h w h1 := rfl
@[simp] theorem frzR_bad {h : VH} : frzR h .bad = .bad := rfl
theorem frzW_ref {h h1 : VH} {n : Nat} {ws : List VM.W} (hn : h.n ≤ n) (hf : h1.f n = some (.lst ws)) (e : Ext h h1) (hw : noRefs ws = true) : frzW h (.ref n) h1 = .ok (.fz ws) h := by
  unfold frzW
  simp only [hf]
  exact trimR_of (Ext_kill e hn) (by simpa using hw)
@[simp] theorem frzW_new {h : VH} {n : Nat} {ws : List VM.W} (hn : n = h.n) (hw : noRefs ws = true) : frzW h (.ref n) (h.alloc (.lst ws)) = .ok (.fz ws) h := by
  subst hn
  exact frzW_ref (Nat.le_refl _) alloc_at (Ext.alloc _) hw
@[simp] theorem frzW_fz {h : VH} {ws : List VM.W} (hw : noRefs ws = true) : frzW h (.fz ws) h = .ok (.fz ws) h := trimR_of Ext.refl (by simpa using hw)
@[simp] theorem frzW_tup {h : VH} {ws : List VM.W} (hw : noRefs ws = true) : frzW h (.tup ws) h = .ok (.tup ws) h := trimR_of Ext.refl (by simpa using hw)
@[simp] theorem frzW_str {h : VH} {s : Str} : frzW h (.str s) h = .ok (.str s) h := trimR_of Ext.refl rfl
theorem Tr_eq {α : Type} {r : R α} {a : α} {h : VH} : Tr r (fun b h' => b = a ∧ h' = h) ↔ r = .ok a h := by
  cases r with
  | ok b h' => simp [Tr]
  | exc _ _ _ => simp [Tr]
  | bad => simp [Tr]
/-! ### sources, walks -/
section
variable {h : VH} {xs ys : List VM.W}
@[simp] theorem src_tup : srcW .seq [.tup xs] h = some (xs, fun _ => True) := rfl
@[simp] theorem src_lit : srcW .seq [.lit xs] h = some (xs, fun _ => True) := rfl
@[simp] theorem src_fz : srcW .seq [.fz xs] h = some (xs, fun _ => True) := rfl
@[simp] theorem src_str {z : Str} : srcW .seq [.str z] h = some (z.cps.toList.map one, fun _ => True) := rfl
@[simp] theorem src_zipT : srcW .zip [.tup xs, .tup ys] h = some (zipW xs ys, fun _ => True) := rfl
@[simp] theorem src_zipF : srcW .zip [.fz xs, .fz ys] h = some (zipW xs ys, fun _ => True) := rfl
@[simp] theorem src_enumT : srcW .enum [.tup xs] h = some (enumW 0 xs, fun _ => True) := rfl
@[simp] theorem src_enumF : srcW .enum [.fz xs] h = some (enumW 0 xs, fun _ => True) := rfl
theorem src_rng {j : Int} (hj : -(2 ^ 62) ≤ j ∧ j < 2 ^ 62) : srcW .rng [.int j] h = some ((List.range j.toNat).map fun (k : Nat) => .int k, fun _ => True) := if_pos hj
theorem src_rngB {i j : Int} (hj : (-(2 ^ 62) ≤ i ∧ i < 2 ^ 62) ∧ (-(2 ^ 62) ≤ j ∧ j < 2 ^ 62)) : srcW .rng [.int i, .int j] h = some ((List.range (j - i).toNat).map fun (k : Nat) => .int (i + k), fun _ => True) := if_pos hj
end
section
variable {k : Ik} {src : VH → R (List VM.W)} {h h1 : VH} {ws its : List VM.W}
theorem forB_of {f : VM.W → VS → VH → R Fl} {s : VS} {g : VH → Prop} (e : src h = .ok ws h1) (hs : srcW k ws h1 = some (its, g)) : forB k src f s h = forGo g f its s h1 := by
  unfold forB
  rw [e]
  simp only [R.bind_ok, hs]
theorem for_trB {f : VM.W → VS → VH → R Fl} {s : VS} {g : VH → Prop} {Q : Fl → VH → Prop} (e : src h = .ok ws h1) (hs : srcW k ws h1 = some (its, g)) (t : Tr (forGo g f its s h1) Q) : Tr (forB k src f s h) Q := by
  rw [forB_of e hs]; exact t
theorem compB_of {f : VM.W → VH → R (Option VM.W)} {g : VH → Prop} (e : src h = .ok ws h1) (hs : srcW k ws h1 = some (its, g)) (hl : its.length ≤ 16777216) : compB k src f h = compGo g f its h1 := by
  unfold compB
  rw [e]
  simp only [R.bind_ok, hs, if_pos hl]
/-- a comprehension over encoded things, nothing changed -/
theorem comp_enc {α : Type} {xs : List α} {enc : α → VM.W} {f : VM.W → VH → R (Option VM.W)} (ψ : α → VM.W) (e : src h = .ok ws h1) (hs : srcW k ws h1 = some (xs.map enc, fun _ => True)) (hl : xs.length ≤ 16777216) (st : ∀ x ∈ xs, f (enc x) h1 = .ok (some (ψ x)) h1) : compB k src f h = .ok (xs.map ψ) h1 := by
  rw [compB_of e hs (by simpa using hl)]
  have go : ∀ xs : List α, (∀ x ∈ xs, f (enc x) h1 = .ok (some (ψ x)) h1) → compGo (fun _ => True) f (xs.map enc) h1 = .ok (xs.map ψ) h1 := by
    intro xs
    induction xs with
    | nil => intro _; simp [compGo]
    | cons x xs ih =>
      intro st
      simp only [List.map_cons]
      unfold compGo
      rw [if_pos trivial, st x (List.mem_cons_self ..), R.nx_ok, R.bind_ok, ih fun y hy => st y (List.mem_cons_of_mem _ hy)]
      rfl
  exact go xs st
/-- .. with a test -/
theorem comp_encT {α : Type} {xs : List α} {enc : α → VM.W} {f : VM.W → VH → R (Option VM.W)} (ψ : α → Option VM.W) (e : src h = .ok ws h1) (hs : srcW k ws h1 = some (xs.map enc, fun _ => True)) (hl : xs.length ≤ 16777216) (st : ∀ x ∈ xs, f (enc x) h1 = .ok (ψ x) h1) : compB k src f h = .ok (xs.filterMap ψ) h1 := by
  rw [compB_of e hs (by simpa using hl)]
  have go : ∀ xs : List α, (∀ x ∈ xs, f (enc x) h1 = .ok (ψ x) h1) → compGo (fun _ => True) f (xs.map enc) h1 = .ok (xs.filterMap ψ) h1 := by
    intro xs
    induction xs with
    | nil => intro _; simp [compGo]
    | cons x xs ih =>
      intro st
      simp only [List.map_cons]
      unfold compGo
      rw [if_pos trivial, st x (List.mem_cons_self ..), R.nx_ok, R.bind_ok, ih fun y hy => st y (List.mem_cons_of_mem _ hy)]
      simp only [R.bind_ok, List.filterMap_cons]
      cases ψ x <;> rfl
  exact go xs st
end
/-! ### built-ins on lists by value -/
section
variable {h : VH} {ws vs : List VM.W} {i : Int}
@[simp] theorem bi_lenF : biW .len [.fz ws] h = .ok (.int (ws.length : Nat)) h := rfl
@[simp] theorem idx_F : idxW h (.fz ws) (.int i) = L2.atI ws i := rfl
@[simp] theorem slc_fz {lo hi : Option Int} : slcW (.fz ws) lo hi h = .ok (.ref h.n) (h.alloc (.lst (cutL ws lo hi))) := rfl
@[simp] theorem slc_strW {z : Str} {lo hi : Option Int} : slcW (.str z) lo hi h = .ok (.str (cutS z lo hi)) h := rfl
@[simp] theorem rev_fz : revW (.fz ws) h = .ok (.ref h.n) (h.alloc (.lst ws.reverse)) := rfl
@[simp] theorem rev_tup : revW (.tup ws) h = .ok (.tup ws.reverse) h := rfl
@[simp] theorem bi_tupF : biW .tuple [.fz ws] h = .ok (.tup ws) h := rfl
@[simp] theorem bi_tupT : biW .tuple [.tup ws] h = .ok (.tup ws) h := rfl
@[simp] theorem bi_listF : biW .list [.fz ws] h = .ok (.ref h.n) (h.alloc (.lst ws)) := rfl
@[simp] theorem bi_listT : biW .list [.tup ws] h = .ok (.ref h.n) (h.alloc (.lst ws)) := rfl
theorem cat_ff (hl : ws.length + vs.length ≤ 16777216) : binW .add (.fz ws) (.fz vs) h = .ok (.ref h.n) (h.alloc (.lst (ws ++ vs))) := if_pos hl
theorem cat_tt (hl : ws.length + vs.length ≤ 16777216) : binW .add (.tup ws) (.tup vs) h = .ok (.tup (ws ++ vs)) h := if_pos hl
theorem cat_ss {s t : Str} (hl : s.length + t.length ≤ 16777216) : binW .add (.str s) (.str t) h = .ok (.str (s ++ t)) h := if_pos hl
theorem blsW_map : ∀ bs : List Bool, blsW (bs.map VM.W.bl) = some bs := fun bs => by induction bs <;> simp [blsW, *]
theorem intsW_map : ∀ bs : List Int, intsW (bs.map VM.W.int) = some bs := fun bs => by induction bs <;> simp [intsW, *]
theorem strsW_map : ∀ bs : List Str, strsW (bs.map VM.W.str) = some bs := fun bs => by induction bs <;> simp [strsW, *]
@[simp] theorem bi_allF {bs : List Bool} : biW .all [.fz (bs.map VM.W.bl)] h = .ok (.bl (bs.all id)) h := by
  show R.of h (((lstW h (.fz (bs.map VM.W.bl))).bind blsW).map fun bs => VM.W.bl (bs.all id)) = _
  simp [lstW, blsW_map]
@[simp] theorem bi_allM {α : Type} {xs : List α} {f : α → Bool} : biW .all [.fz (xs.map fun x => VM.W.bl (f x))] h = .ok (.bl (xs.all f)) h := by
  have e : (xs.map fun x => VM.W.bl (f x)) = (xs.map f).map VM.W.bl := by rw [List.map_map]; rfl
  rw [e, bi_allF, List.all_map]
  rfl
@[simp] theorem bi_sumF {bs : List Int} : biW .sum [.fz (bs.map VM.W.int)] h = .ok (.int bs.sum) h := by
  show R.of h (((lstW h (.fz (bs.map VM.W.int))).bind intsW).map fun bs => VM.W.int bs.sum) = _
  simp [lstW, intsW_map]
@[simp] theorem bmK_fz : bmK .index (.fz ws) h = true := rfl
end
theorem bind_ite {α β : Type} {c : Prop} [Decidable c] {r r' : R α} {f : α → VH → R β} : (if c then r else r').bind f = if c then r.bind f else r'.bind f := by split <;> rfl
theorem ite_bl {c : Prop} [Decidable c] {d : Bool} {h : VH} : (if c then R.ok (VM.W.bl d) h else R.ok (VM.W.bl false) h) = R.ok (VM.W.bl (decide c && d)) h := by by_cases hc : c <;> simp [hc]
theorem eqv_tt {xs ys : List PyData} : PyData.eqv (.tuple xs) (.tuple ys) = PyData.eqvAll xs ys := by rw [PyData.eqv]
theorem eqva_cc {x y : PyData} {xs ys : List PyData} : PyData.eqvAll (x :: xs) (y :: ys) = (PyData.eqv x y && PyData.eqvAll xs ys) := by rw [PyData.eqvAll]
theorem eqva_cn {x : PyData} {xs : List PyData} : PyData.eqvAll (x :: xs) [] = false := by rw [PyData.eqvAll]
theorem eqva_nc {x : PyData} {xs : List PyData} : PyData.eqvAll [] (x :: xs) = false := by rw [PyData.eqvAll]
theorem eqva_nn : PyData.eqvAll [] [] = true := by rw [PyData.eqvAll]
end VM

set_option linter.all false
set_option autoImplicit false
set_option maxRecDepth 100000
set_option maxHeartbeats 4000000
/-! VMt: texts as lists of numbers. -/
namespace VM
open PySem PySem.Spec PyProof.Rows L2
def S8 (l : List Nat) : Str := ⟨l.toArray⟩
@[simp] theorem S8_cps {l : List Nat} : (S8 l).cps.toList = l := by simp [S8]
@[simp] theorem S8_len {l : List Nat} : (S8 l).length = l.length := by simp [S8, Str.length]
theorem S8_inj {l m : List Nat} : S8 l = S8 m ↔ l = m := by
  constructor
  · intro h
    have := congrArg (fun s => s.cps.toList) h
    simpa using this
  · rintro rfl; rfl
theorem S8_of (s : Str) : S8 s.cps.toList = s := by simp [S8]
theorem S8_app {l m : List Nat} : S8 l ++ S8 m = S8 (l ++ m) := by
  show Str.append _ _ = _
  simp [S8, Str.append]
theorem S8_cut {l : List Nat} {lo hi : Option Int} : cutS (S8 l) lo hi = S8 (cutL l lo hi) := by
  unfold cutS cutL
  rw [S8_cps]
  rfl
theorem empty_S8 : (Str.ofString "") = S8 [] := by decide +kernel
theorem emptyS_S8 : Str.empty = S8 [] := rfl
/-- a letter -/
def ltr (i : Int) : Nat := 97 + i.toNat
def abc : Str := "abcdefghijklmnopqrstuvwxyz"
theorem abc_eq : abc = S8 ((List.range 26).map (97 + ·)) := by decide +kernel
theorem abc_at {i : Int} (hi : 0 ≤ i ∧ i < 26) : L2.atI abc.cps.toList i = some (ltr i) := by
  rw [abc_eq, S8_cps, atI_pos hi.1, List.getElem?_map, List.getElem?_range (by omega)]
  rfl
theorem ltr_in {i : Int} (hi : 0 ≤ i ∧ i < 26) : 97 ≤ ltr i ∧ ltr i ≤ 122 := by unfold ltr; omega
theorem ltr_inj {i j : Int} (hi : 0 ≤ i) (hj : 0 ≤ j) : ltr i = ltr j ↔ i = j := by unfold ltr; omega
@[simp] theorem one_S8 {c : Nat} : one c = .str (S8 [c]) := rfl
@[simp] theorem idx_str {h : VH} {z : Str} {i : Int} : idxW h (.str z) (.int i) = (L2.atI z.cps.toList i).map one := rfl
/-- "".join -/
theorem join_S8 : ∀ (ls : List (List Nat)), Txt.join (S8 []) (ls.map S8) = S8 ls.flatten := by
  intro ls
  show Builtin.Str.glued (S8 []) (ls.map S8) = _
  rw [StrLaws.glued_eq_join]
  induction ls with
  | nil => rfl
  | cons l ls ih =>
    cases ls with
    | nil => simp [Str.join]
    | cons m ms =>
      simp only [List.map_cons] at ih ⊢
      show S8 l ++ S8 [] ++ Str.join (S8 []) (S8 m :: ms.map S8) = _
      rw [ih, S8_app, S8_app]
      simp
theorem bm_joinS {h : VH} {z : Str} {ys : List Str} (hl : (ys.map (·.length)).sum + ys.length * z.length ≤ 16777216) : bmW .join (.str z) [.fz (ys.map VM.W.str)] h = .ok (.str (Txt.join z ys)) h := by
  show (match (seqW h (.fz (ys.map VM.W.str))).bind strsW with
    | some ys => if (ys.map (·.length)).sum + ys.length * z.length ≤ 16777216 then .ok (.str (Txt.join z ys)) h else .bad
    | none => .bad : R VM.W) = _
  simp only [seqW, Option.bind_some, strsW_map, if_pos hl]
@[simp] theorem bmK_join {h : VH} {z : Str} : bmK .join (.str z) h = true := rfl
@[simp] theorem bmK_upper {h : VH} {z : Str} : bmK .upper (.str z) h = true := rfl
/-- single signs joined -/
theorem bm_join1 {h : VH} {cs : List Nat} (hl : cs.length ≤ 1000) : bmW .join (.str (Str.ofString "")) [.fz (cs.map fun c => .str (S8 [c]))] h = .ok (.str (S8 cs)) h := by
  have e : (cs.map fun c => VM.W.str (S8 [c])) = ((cs.map fun c => S8 [c]).map VM.W.str) := by simp
  have hz : (Str.ofString "").length = 0 := by decide
  have hs : ∀ cs : List Nat, ((cs.map fun c => S8 [c]).map (·.length)).sum = cs.length := fun cs => by
    induction cs with
    | nil => rfl
    | cons c cs ih =>
      rw [List.map_cons, List.map_cons, List.sum_cons, ih, S8_len, List.length_cons, List.length_cons, List.length_nil]
      omega
  have hf : ∀ cs : List Nat, (cs.map fun c => [c]).flatten = cs := fun cs => by
    induction cs with
    | nil => rfl
    | cons c cs ih => rw [List.map_cons, List.flatten_cons, ih]; rfl
  rw [e, bm_joinS (by rw [hz, hs]; simp; omega), empty_S8]
  have : (cs.map fun c => S8 [c]) = (cs.map fun c => [c]).map S8 := by simp
  rw [this, join_S8, hf]
theorem mul_S8 (c : Nat) (n : Int) : Txt.mul (S8 [c]) n = S8 (List.replicate n.toNat c) := by
  unfold Txt.mul
  by_cases h1 : n < 1
  · rw [if_pos h1]
    have : n.toNat = 0 := by omega
    rw [this]; rfl
  · rw [if_neg h1]
    by_cases h2 : n = 1
    · subst h2; rfl
    · have : (n == 1 || (S8 [c]).length == 0) = false := by simp [h2]
      rw [this]
      simp only [Bool.false_eq_true, if_false]
      unfold S8
      congr 1
      have go : ∀ (m : Nat) (a : Array Nat), List.foldl (· ++ ·) a (List.replicate m [c].toArray) = a ++ (List.replicate m c).toArray := by
        intro m
        induction m with
        | zero => intro a; simp
        | succ m ih =>
          intro a
          rw [List.replicate_succ, List.foldl_cons, ih, List.replicate_succ]
          apply Array.ext'
          simp
      have := go n.toNat #[]
      simpa using this
theorem mul_str {h : VH} {c : Nat} {j : Int} (hj : -1000 ≤ j ∧ j ≤ 1000) : binW .mul (.str (S8 [c])) (.int j) h = .ok (.str (S8 (List.replicate j.toNat c))) h := by
  show (if -1000 ≤ j ∧ j ≤ 1000 ∧ (S8 [c]).length ≤ 1000 then R.ok (VM.W.str (Txt.mul (S8 [c]) j)) h else .bad) = _
  rw [if_pos ⟨hj.1, hj.2, by simp⟩, mul_S8]
theorem cat_S8 {h : VH} {l m : List Nat} (hl : l.length + m.length ≤ 16777216) : binW .add (.str (S8 l)) (.str (S8 m)) h = .ok (.str (S8 (l ++ m))) h := by
  rw [cat_ss (by simpa using hl), S8_app]
theorem pow_ii {i j : Int} {h : VH} (c : 0 ≤ j ∧ j ≤ 1000000 ∧ i.natAbs < 2 ^ 64) : binW .pow (.int i) (.int j) h = .ok (.int (i ^ j.toNat)) h := if_pos c
theorem mul_ls {i j : Int} {h : VH} (c : -1000000000000 < i ∧ i < 1000000000000) : binW .mul (.int i) (.int j) h = .ok (.int (i * j)) h := mul_l ⟨by omega, by omega⟩
theorem mul_rs {i j : Int} {h : VH} (c : -1000000000000 < j ∧ j < 1000000000000) : binW .mul (.int i) (.int j) h = .ok (.int (i * j)) h := mul_r ⟨by omega, by omega⟩
theorem src_rngs {h : VH} {j : Int} (hj : -1000000000000 < j ∧ j < 1000000000000) : srcW .rng [.int j] h = some ((List.range j.toNat).map fun (k : Nat) => .int k, fun _ => True) := src_rng ⟨by omega, by omega⟩
theorem src_rngs2 {h : VH} {i j : Int} (hi : -1000000000000 < i ∧ i < 1000000000000) (hj : -1000000000000 < j ∧ j < 1000000000000) : srcW .rng [.int i, .int j] h = some ((List.range (j - i).toNat).map fun (k : Nat) => .int (i + k), fun _ => True) := src_rngB ⟨⟨by omega, by omega⟩, by omega, by omega⟩
@[simp] theorem add_bi {b : Bool} {j : Int} {h : VH} : binW .add (.bl b) (.int j) h = .ok (.int ((if b = true then (1 : Int) else 0) + j)) h := rfl
@[simp] theorem sub_bi {b : Bool} {j : Int} {h : VH} : binW .sub (.bl b) (.int j) h = .ok (.int ((if b = true then (1 : Int) else 0) - j)) h := rfl
@[simp] theorem bi_strB {b : Bool} {h : VH} : biW .str [.bl b] h = .ok (.str (if b = true then "True" else "False")) h := rfl
theorem bi_strI {i : Int} {h : VH} (hi : i.natAbs.log2 < 1920) : biW .str [.int i] h = .ok (.str (toString i)) h := if_pos hi
theorem bm_upperS {s : Str} {h : VH} (hs : s.length ≤ 5592405) (ho : PyData.strOk (Txt.upper s) = true) : bmW .upper (.str s) [] h = .ok (.str (Txt.upper s)) h := if_pos ⟨hs, ho, by have := PyProof.Rows.len_upper s; omega⟩
end VM

set_option linter.all false
set_option autoImplicit false
set_option maxRecDepth 100000
set_option maxHeartbeats 4000000
/-! VMd: values that stand for things of a Lean type. -/
namespace VM
open PySem PySem.Spec PyProof.Rows L2
open PySem.W (Datum DatumOrd Tup)
def datW (w : VM.W) : Option PyData := pdW (fun _ => none) w
def datL (ws : List VM.W) : Option (List PyData) := pdL (fun _ => none) ws
mutual
theorem pdW_up {g : Nat → Option PyData} : ∀ (w : VM.W) (d : PyData), pdW (fun _ => none) w = some d → pdW g w = some d
  | .non, d, e => by unfold pdW at e ⊢; exact e
  | .bl _, d, e => by unfold pdW at e ⊢; exact e
  | .int _, d, e => by unfold pdW at e ⊢; exact e
  | .str _, d, e => by unfold pdW at e ⊢; exact e
  | .tup ws, d, e => by
    unfold pdW at e ⊢
    cases h : pdL (fun _ => none) ws with
    | none => rw [h] at e; cases e
    | some ds => rw [h] at e; rw [pdL_up ws ds h]; exact e
  | .ref n, d, e => by unfold pdW at e; cases e
  | .lit ws, d, e => by unfold pdW at e; cases e
  | .exn _ _, d, e => by unfold pdW at e; cases e
  | .fz ws, d, e => by
    unfold pdW at e ⊢
    cases h : pdL (fun _ => none) ws with
    | none => rw [h] at e; cases e
    | some ds => rw [h] at e; rw [pdL_up ws ds h]; exact e
theorem pdL_up {g : Nat → Option PyData} : ∀ (ws : List VM.W) (ds : List PyData), pdL (fun _ => none) ws = some ds → pdL g ws = some ds
  | [], ds, e => by unfold pdL at e ⊢; exact e
  | w :: ws, ds, e => by
    unfold pdL at e
    split at e
    · rename_i d r h1 h2
      unfold pdL
      rw [pdW_up w d h1, pdL_up ws r h2]
      exact e
    · cases e
end
theorem pdL_consI {g : Nat → Option PyData} {w : VM.W} {ws : List VM.W} {ds : List PyData} (h : pdL g (w :: ws) = some ds) : ∃ d r, ds = d :: r ∧ pdW g w = some d ∧ pdL g ws = some r := by
  unfold pdL at h
  split at h
  · rename_i d r h1 h2
    exact ⟨d, r, (Option.some.inj h).symm, h1, h2⟩
  · cases h
theorem pd_dat {h : VH} {w : VM.W} {d : PyData} (e : datW w = some d) : pd h w = some d := pdW_up w d e
theorem pds_dat {h : VH} {ws : List VM.W} {ds : List PyData} (e : datL ws = some ds) : pds h ws = some ds := pdL_up ws ds e
theorem small_of {d : PyData} (e : d.depth ≤ 60) : small d = true := decide_eq_true e
theorem eqW_pd {h : VH} {a b : VM.W} {x y : PyData} (ea : pd h a = some x) (eb : pd h b = some y) (sx : x.depth ≤ 60) (sy : y.depth ≤ 60) : eqW h a b = some (PyData.eqv x y) := by
  unfold eqW
  split
  · unfold pd pdW at ea eb; cases ea; cases eb
    simp only [PyData.eqv]
    congr 1
  · unfold pd pdW at ea eb; cases ea; cases eb
    simp only [PyData.eqv]
    congr 1
  · unfold pd pdW at ea eb; cases ea; cases eb
    simp only [PyData.eqv]
    congr 1
  · rw [ea, eb]
    simp only [small_of sx, small_of sy, Bool.and_self, if_true]
theorem eqW_dat {h : VH} {a b : VM.W} {x y : PyData} (ea : datW a = some x) (eb : datW b = some y) (sx : x.depth ≤ 60) (sy : y.depth ≤ 60) : eqW h a b = some (PyData.eqv x y) := eqW_pd (pd_dat ea) (pd_dat eb) sx sy
theorem inItems_dat {h : VH} {w : VM.W} {ws : List VM.W} {d : PyData} {ds : List PyData} (e : datW w = some d) (es : datL ws = some ds) (s : d.depth ≤ 60) (ss : ∀ z ∈ ds, z.depth ≤ 60) : inItems h w ws = some (ds.any fun z => PyData.eqv z d) := by
  unfold inItems
  rw [pd_dat e, pds_dat es]
  have : ds.all small = true := List.all_eq_true.mpr fun z hz => small_of (ss z hz)
  simp only [small_of s, this, Bool.and_self, if_true]
theorem idxOf_dat {h : VH} {w : VM.W} {ws : List VM.W} {d : PyData} {ds : List PyData} (e : datW w = some d) (es : datL ws = some ds) (s : d.depth ≤ 60) (ss : ∀ z ∈ ds, z.depth ≤ 60) : idxOf h w ws = ds.findIdx? fun z => PyData.eqv z d := by
  unfold idxOf
  rw [pd_dat e, pds_dat es]
  have : ds.all small = true := List.all_eq_true.mpr fun z hz => small_of (ss z hz)
  simp only [small_of s, this, Bool.and_self, if_true]
theorem datW_tup {ws : List VM.W} {ds : List PyData} (e : datL ws = some ds) : datW (.tup ws) = some (.tuple ds) := by
  unfold datW pdW
  show (datL ws).map _ = _
  rw [e]; rfl
theorem datW_fz {ws : List VM.W} {ds : List PyData} (e : datL ws = some ds) : datW (.fz ws) = some (.list ds) := by
  unfold datW pdW
  show (datL ws).map _ = _
  rw [e]; rfl
@[simp] theorem datL_nil : datL [] = some [] := by unfold datL; rw [pdL]
theorem datL_cons {w : VM.W} {ws : List VM.W} {d : PyData} {ds : List PyData} (e : datW w = some d) (es : datL ws = some ds) : datL (w :: ws) = some (d :: ds) := by
  unfold datL pdL
  show (match datW w, datL ws with | some d, some ds => some (d :: ds) | _, _ => none) = _
  rw [e, es]
/-! ### things of a type -/
class Enc (α : Type) [DecidableEq α] [Datum α] where
  enc : α → VM.W
  dat : ∀ a, datW (enc a) = some (Datum.toD a)
  nr : ∀ a, noRef (enc a) = true
open Enc (enc)
instance : Enc Int where
  enc := .int
  dat a := by unfold datW; rw [pdW]; rfl
  nr a := by simp
instance : Enc Bool where
  enc := .bl
  dat a := by unfold datW; rw [pdW]; rfl
  nr a := by simp
instance : Enc Str where
  enc := .str
  dat a := by unfold datW; rw [pdW]; rfl
  nr a := by simp
/-- three things together -/
structure T3 (α β γ : Type) where
  a : α
  b : β
  c : γ
deriving DecidableEq
section
variable {α β γ : Type} [DecidableEq α] [Datum α] [DecidableEq β] [Datum β] [DecidableEq γ] [Datum γ]
instance : Datum (T3 α β γ) where
  toD t := .tuple [Datum.toD t.a, Datum.toD t.b, Datum.toD t.c]
  plain t := by simp only [PyData.plain, PyData.plainAll, Datum.plain, Bool.and_self]
  eqv t u := by
    simp only [PyData.eqv, PyData.eqvAll, Datum.eqv, Bool.and_true, ← Bool.decide_and]
    exact decide_eq_decide.mpr ⟨fun e => by cases t; cases u; simp_all, fun e => by subst e; exact ⟨rfl, rfl, rfl⟩⟩
  depth := max (max (Datum.depth α) (Datum.depth β)) (Datum.depth γ) + 1
  depth_le t := by
    have h1 := Datum.depth_le t.a
    have h2 := Datum.depth_le t.b
    have h3 := Datum.depth_le t.c
    simp only [PyData.depth, PyData.depthAll]
    omega
variable [Enc α] [Enc β] [Enc γ]
theorem datL_enc : ∀ xs : List α, datL (xs.map enc) = some (xs.map Datum.toD)
  | [] => by simp
  | x :: xs => datL_cons (Enc.dat x) (datL_enc xs)
@[simp] theorem nr_enc {a : α} : noRef (enc a) = true := Enc.nr a
theorem nrs_enc {xs : List α} : noRefs (xs.map enc) = true := nrs_map fun x _ => Enc.nr x
instance : Enc (List α) where
  enc xs := .fz (xs.map enc)
  dat xs := datW_fz (datL_enc xs)
  nr xs := by rw [nr_fz]; exact nrs_enc
instance : Enc (Tup α) where
  enc t := .tup (t.items.map enc)
  dat t := datW_tup (datL_enc t.items)
  nr xs := by rw [nr_tup]; exact nrs_enc
instance : Enc (α × β) where
  enc p := .tup [enc p.1, enc p.2]
  dat p := datW_tup (datL_cons (Enc.dat p.1) (datL_cons (Enc.dat p.2) datL_nil))
  nr p := by simp
instance : Enc (T3 α β γ) where
  enc p := .tup [enc p.a, enc p.b, enc p.c]
  dat p := datW_tup (datL_cons (Enc.dat p.a) (datL_cons (Enc.dat p.b) (datL_cons (Enc.dat p.c) datL_nil)))
  nr p := by simp
@[simp] theorem enc_int (i : Int) : enc i = VM.W.int i := rfl
@[simp] theorem enc_bool (i : Bool) : enc i = VM.W.bl i := rfl
@[simp] theorem enc_str (i : Str) : enc i = VM.W.str i := rfl
theorem enc_list (xs : List α) : enc xs = VM.W.fz (xs.map enc) := rfl
theorem enc_tup (t : Tup α) : enc t = VM.W.tup (t.items.map enc) := rfl
theorem enc_pair (p : α × β) : enc p = VM.W.tup [enc p.1, enc p.2] := rfl
theorem enc_t3 (p : T3 α β γ) : enc p = VM.W.tup [enc p.a, enc p.b, enc p.c] := rfl
variable {h : VH}
theorem toD_small {xs : List α} (hd : Datum.depth α ≤ 60) : ∀ z ∈ xs.map (Datum.toD (α := α)), z.depth ≤ 60 := fun z hz => by
  obtain ⟨a, _, rfl⟩ := List.mem_map.mp hz
  exact Nat.le_trans (Datum.depth_le a) hd
theorem eqW_enc (hd : Datum.depth α ≤ 60) (a b : α) : eqW h (enc a) (enc b) = some (decide (a = b)) := by
  rw [eqW_dat (Enc.dat a) (Enc.dat b) (Nat.le_trans (Datum.depth_le a) hd) (Nat.le_trans (Datum.depth_le b) hd), Datum.eqv]
theorem cmp_eqE (hd : Datum.depth α ≤ 60) (a b : α) : cmpW h .eq (enc a) (enc b) = some (decide (a = b)) := eqW_enc hd a b
theorem cmp_neE (hd : Datum.depth α ≤ 60) (a b : α) : cmpW h .ne (enc a) (enc b) = some (!decide (a = b)) := by
  show (eqW h (enc a) (enc b)).map _ = _
  rw [eqW_enc hd]; rfl
theorem any_enc (a : α) (xs : List α) : ((xs.map Datum.toD).any fun z => PyData.eqv z (Datum.toD a)) = decide (a ∈ xs) := by
  induction xs with
  | nil => simp
  | cons x xs ih =>
    rw [List.map_cons, List.any_cons, ih, Datum.eqv]
    rw [Bool.eq_iff_iff]
    simp only [Bool.or_eq_true, decide_eq_true_eq, List.mem_cons]
    constructor
    · rintro (e | e)
      · exact .inl e.symm
      · exact .inr e
    · rintro (e | e)
      · exact .inl e.symm
      · exact .inr e
theorem inItems_enc (hd : Datum.depth α ≤ 60) (a : α) (xs : List α) : inItems h (enc a) (xs.map enc) = some (decide (a ∈ xs)) := by
  rw [inItems_dat (Enc.dat a) (datL_enc xs) (Nat.le_trans (Datum.depth_le a) hd) (toD_small hd), any_enc]
theorem inW_fz {a : VM.W} {ws : List VM.W} : inW h a (.fz ws) = inItems h a ws := by cases a <;> rfl
theorem cmp_inE (hd : Datum.depth α ≤ 60) (a : α) (xs : List α) : cmpW h .isin (enc a) (.fz (xs.map enc)) = some (decide (a ∈ xs)) := by
  show inW h (enc a) (.fz (xs.map enc)) = _
  rw [inW_fz]
  exact inItems_enc hd a xs
theorem cmp_ninE (hd : Datum.depth α ≤ 60) (a : α) (xs : List α) : cmpW h .notin (enc a) (.fz (xs.map enc)) = some (!decide (a ∈ xs)) := by
  show (cmpW h .isin (enc a) (.fz (xs.map enc))).map _ = _
  rw [cmp_inE hd]; rfl
theorem findIdx_enc (a : α) (xs : List α) : ((xs.map Datum.toD).findIdx? fun z => PyData.eqv z (Datum.toD a)) = xs.findIdx? fun x => decide (x = a) := by
  rw [List.findIdx?_map]
  congr 1
  funext x
  show PyData.eqv _ _ = _
  rw [Datum.eqv]
theorem idxOf_enc (hd : Datum.depth α ≤ 60) (a : α) (xs : List α) : idxOf h (enc a) (xs.map enc) = xs.findIdx? fun x => decide (x = a) := by
  rw [idxOf_dat (Enc.dat a) (datL_enc xs) (Nat.le_trans (Datum.depth_le a) hd) (toD_small hd), findIdx_enc]
theorem bm_indexE (hd : Datum.depth α ≤ 60) (a : α) (xs : List α) : bmW .index (.fz (xs.map enc)) [enc a] h = R.of h ((xs.findIdx? fun x => decide (x = a)).map fun n => VM.W.int (n : Nat)) := by
  show R.of h (((lstW h (.fz (xs.map enc))).bind (idxOf h (enc a))).map _) = _
  simp only [lstW, Option.bind_some, idxOf_enc hd]
end
/-! ### sorting -/
section
variable {α β γ : Type} [DecidableEq α] [DatumOrd α] [DecidableEq β] [DatumOrd β] [DecidableEq γ] [DatumOrd γ]
instance : DatumOrd (T3 α β γ) where
  lt p q := if p.a = q.a then (if p.b = q.b then DatumOrd.lt p.c q.c else DatumOrd.lt p.b q.b) else DatumOrd.lt p.a q.a
  alike p q := by
    show PySem.W.alike (.tuple [_, _, _]) (.tuple [_, _, _]) = true
    simp only [PySem.W.alike, PySem.W.alikeAll, DatumOrd.alike, Bool.and_self]
  notNone a := fun e => by cases e
  lt_eq p q := by
    refine (PySem.W.dataLt_tuple _ _).trans ?_
    by_cases h : p.a = q.a
    · rw [if_pos h, PySem.W.dataLt_all_yes (DatumOrd.alike p.a q.a) (by rw [Datum.eqv, decide_eq_true_eq]; exact h)]
      by_cases h2 : p.b = q.b
      · rw [if_pos h2, PySem.W.dataLt_all_yes (DatumOrd.alike p.b q.b) (by rw [Datum.eqv, decide_eq_true_eq]; exact h2)]
        by_cases h3 : p.c = q.c
        · rw [PySem.W.dataLt_all_yes (DatumOrd.alike p.c q.c) (by rw [Datum.eqv, decide_eq_true_eq]; exact h3), lex_irrefl, h3]
          exact ((PySem.W.dataLt_self _).symm.trans (DatumOrd.lt_eq q.c q.c))
        · rw [PySem.W.dataLt_all_no (DatumOrd.alike p.c q.c) (by rw [Datum.eqv, decide_eq_false_iff_not]; exact h3)]
          exact DatumOrd.lt_eq p.c q.c
      · rw [if_neg h2, PySem.W.dataLt_all_no (DatumOrd.alike p.b q.b) (by rw [Datum.eqv, decide_eq_false_iff_not]; exact h2)]
        exact DatumOrd.lt_eq p.b q.b
    · rw [if_neg h, PySem.W.dataLt_all_no (DatumOrd.alike p.a q.a) (by rw [Datum.eqv, decide_eq_false_iff_not]; exact h)]
      exact DatumOrd.lt_eq p.a q.a
/-- in order, those alike as they stood -/
def sortE (xs : List α) : List α := xs.mergeSort fun a b => !DatumOrd.lt b a
theorem sortE_mem {xs : List α} {a : α} : a ∈ sortE xs ↔ a ∈ xs := List.mem_mergeSort
theorem sortE_perm (xs : List α) : (sortE xs).Perm xs := List.mergeSort_perm ..
@[simp] theorem sortE_len (xs : List α) : (sortE xs).length = xs.length := List.length_mergeSort ..
variable [Enc α] {h : VH}
theorem enc_of (a : α) : VM.encD h (Enc.enc a) = Datum.toD a := by
  unfold VM.encD
  rw [pd_dat (Enc.dat a)]; rfl
theorem sortW_enc (hd : Datum.depth α ≤ 60) (hk : (∀ a : α, ∃ x r, Datum.toD a = .tuple (x :: r)) ∨ ∀ (a : α) ds, Datum.toD a ≠ .tuple ds) {xs : List α} (hl : xs.length ≤ 16777216) : sortW h (xs.map Enc.enc) = some ((sortE xs).map Enc.enc) := by
  unfold sortW
  rw [pds_dat (datL_enc xs)]
  have ok : okSort (xs.map Datum.toD) = true := by
    unfold okSort
    simp only [Bool.and_eq_true]
    refine ⟨⟨List.all_eq_true.mpr fun d hd' => List.all_eq_true.mpr fun e he => ?_, List.all_eq_true.mpr fun d hd' => small_of (toD_small hd d hd')⟩, ?_⟩
    · obtain ⟨a, _, rfl⟩ := List.mem_map.mp hd'
      obtain ⟨b, _, rfl⟩ := List.mem_map.mp he
      exact DatumOrd.alike a b
    · rw [Bool.or_eq_true]
      rcases hk with hk | hk
      · left
        refine List.all_eq_true.mpr fun d hd' => ?_
        obtain ⟨a, _, rfl⟩ := List.mem_map.mp hd'
        obtain ⟨x, r, e⟩ := hk a
        rw [e]
      · right
        refine List.all_eq_true.mpr fun d hd' => ?_
        obtain ⟨a, _, rfl⟩ := List.mem_map.mp hd'
        split
        · rename_i e; exact absurd e (DatumOrd.notNone a)
        · rename_i e; exact absurd e (hk a _)
        · rfl
  simp only [ok, List.length_map, decide_eq_true hl, Bool.and_self, if_true]
  congr 1
  unfold sortE
  refine (List.map_mergeSort fun a _ b _ => ?_).symm
  rw [PySem.W.dataLe_eq]
  show (!DatumOrd.lt b a) = !PySem.W.dataLt (VM.encD h (Enc.enc b)) (VM.encD h (Enc.enc a))
  rw [enc_of, enc_of, DatumOrd.lt_eq]
theorem bi_sortedE (hd : Datum.depth α ≤ 60) (hk : (∀ a : α, ∃ x r, Datum.toD a = .tuple (x :: r)) ∨ ∀ (a : α) ds, Datum.toD a ≠ .tuple ds) {xs : List α} (hl : xs.length ≤ 16777216) : biW .sorted [.fz (xs.map Enc.enc)] h = .ok (.ref h.n) (h.alloc (.lst ((sortE xs).map Enc.enc))) := by
  show (match (lstW h (.fz (xs.map Enc.enc))).bind (sortW h) with
    | some ws => .ok (.ref h.n) (h.alloc (.lst ws))
    | none => .bad : R VM.W) = _
  simp only [lstW, Option.bind_some, sortW_enc hd hk hl]
/-- the orders are orders -/
class OrdOk (α : Type) [DecidableEq α] [DatumOrd α] : Prop where
  trans : ∀ a b c : α, DatumOrd.lt a b = true → DatumOrd.lt b c = true → DatumOrd.lt a c = true
  tot : ∀ a b : α, a ≠ b → DatumOrd.lt a b = true ∨ DatumOrd.lt b a = true
  irr : ∀ a : α, DatumOrd.lt a a = false
end
instance : OrdOk Int where
  trans a b c h1 h2 := by
    have h1 : a < b := of_decide_eq_true h1
    have h2 : b < c := of_decide_eq_true h2
    exact decide_eq_true (by omega)
  tot a b h := by
    rcases Int.lt_or_gt_of_ne h with z | z
    · exact .inl (decide_eq_true z)
    · exact .inr (decide_eq_true z)
  irr a := decide_eq_false (by omega)
theorem cps_inj {a b : Str} (h : a.cps.toList = b.cps.toList) : a = b := PySem.W.str_of_cps h
instance : OrdOk Str where
  trans a b c h1 h2 := by
    have h1 : a.cps.toList < b.cps.toList := of_decide_eq_true h1
    have h2 : b.cps.toList < c.cps.toList := of_decide_eq_true h2
    exact decide_eq_true (List.lt_trans h1 h2)
  tot a b h := by
    by_cases z : a.cps.toList < b.cps.toList
    · exact .inl (decide_eq_true z)
    · right
      refine decide_eq_true ?_
      rcases List.le_iff_lt_or_eq.mp (List.not_lt.mp z) with q | q
      · exact q
      · exact absurd (cps_inj q.symm) h
  irr a := decide_eq_false (List.lt_irrefl _)
section
variable {α β γ : Type} [DecidableEq α] [DatumOrd α] [DecidableEq β] [DatumOrd β] [DecidableEq γ] [DatumOrd γ] [OrdOk α] [OrdOk β] [OrdOk γ]
theorem lt_ne {a b : α} (h : DatumOrd.lt a b = true) : a ≠ b := fun e => by rw [e, OrdOk.irr] at h; cases h
theorem lt_asym {a b : α} (h : DatumOrd.lt a b = true) : DatumOrd.lt b a = false := by
  cases z : DatumOrd.lt b a with
  | false => rfl
  | true => have := OrdOk.trans a b a h z; rw [OrdOk.irr] at this; cases this
instance : OrdOk (α × β) where
  irr p := by
    show (if p.1 = p.1 then DatumOrd.lt p.2 p.2 else _) = false
    rw [if_pos rfl]; exact OrdOk.irr _
  tot p q h := by
    show (if p.1 = q.1 then DatumOrd.lt p.2 q.2 else DatumOrd.lt p.1 q.1) = true ∨ (if q.1 = p.1 then DatumOrd.lt q.2 p.2 else DatumOrd.lt q.1 p.1) = true
    by_cases e : p.1 = q.1
    · rw [if_pos e, if_pos e.symm]
      exact OrdOk.tot _ _ fun e2 => h (Prod.ext e e2)
    · rw [if_neg e, if_neg (Ne.symm e)]
      exact OrdOk.tot _ _ e
  trans p q r h1 h2 := by
    have h1 : (if p.1 = q.1 then DatumOrd.lt p.2 q.2 else DatumOrd.lt p.1 q.1) = true := h1
    have h2 : (if q.1 = r.1 then DatumOrd.lt q.2 r.2 else DatumOrd.lt q.1 r.1) = true := h2
    show (if p.1 = r.1 then DatumOrd.lt p.2 r.2 else DatumOrd.lt p.1 r.1) = true
    split at h1 <;> split at h2
    · rename_i e1 e2; rw [if_pos (e1.trans e2)]; exact OrdOk.trans _ _ _ h1 h2
    · rename_i e1 e2; rw [e1, if_neg e2]; exact h2
    · rename_i e1 e2; rw [← e2, if_neg e1]; exact h1
    · have h3 := OrdOk.trans _ _ _ h1 h2
      rw [if_neg (lt_ne h3)]; exact h3
instance : OrdOk (T3 α β γ) where
  irr p := by
    show (if p.a = p.a then (if p.b = p.b then DatumOrd.lt p.c p.c else _) else _) = false
    rw [if_pos rfl, if_pos rfl]; exact OrdOk.irr _
  tot p q h := by
    show (if p.a = q.a then (if p.b = q.b then DatumOrd.lt p.c q.c else DatumOrd.lt p.b q.b) else DatumOrd.lt p.a q.a) = true ∨ (if q.a = p.a then (if q.b = p.b then DatumOrd.lt q.c p.c else DatumOrd.lt q.b p.b) else DatumOrd.lt q.a p.a) = true
    by_cases e : p.a = q.a
    · rw [if_pos e, if_pos e.symm]
      by_cases e' : p.b = q.b
      · rw [if_pos e', if_pos e'.symm]
        refine OrdOk.tot _ _ fun e2 => h ?_
        cases p; cases q; simp_all
      · rw [if_neg e', if_neg (Ne.symm e')]
        exact OrdOk.tot _ _ e'
    · rw [if_neg e, if_neg (Ne.symm e)]
      exact OrdOk.tot _ _ e
  trans p q r h1 h2 := by
    have h1 : (if p.a = q.a then (if p.b = q.b then DatumOrd.lt p.c q.c else DatumOrd.lt p.b q.b) else DatumOrd.lt p.a q.a) = true := h1
    have h2 : (if q.a = r.a then (if q.b = r.b then DatumOrd.lt q.c r.c else DatumOrd.lt q.b r.b) else DatumOrd.lt q.a r.a) = true := h2
    show (if p.a = r.a then (if p.b = r.b then DatumOrd.lt p.c r.c else DatumOrd.lt p.b r.b) else DatumOrd.lt p.a r.a) = true
    by_cases e1 : p.a = q.a
    · by_cases e2 : q.a = r.a
      · rw [if_pos e1] at h1
        rw [if_pos e2] at h2
        rw [if_pos (e1.trans e2)]
        split at h1 <;> split at h2
        · rename_i e1 e2; rw [if_pos (e1.trans e2)]; exact OrdOk.trans _ _ _ h1 h2
        · rename_i e1 e2; rw [e1, if_neg e2]; exact h2
        · rename_i e1 e2; rw [← e2, if_neg e1]; exact h1
        · have h3 := OrdOk.trans _ _ _ h1 h2
          rw [if_neg (lt_ne h3)]; exact h3
      · rw [if_neg e2] at h2
        rw [e1, if_neg e2]; exact h2
    · rw [if_neg e1] at h1
      by_cases e2 : q.a = r.a
      · rw [← e2, if_neg e1]; exact h1
      · rw [if_neg e2] at h2
        have h3 := OrdOk.trans _ _ _ h1 h2
        rw [if_neg (lt_ne h3)]; exact h3
theorem sortE_pw (xs : List α) : (sortE xs).Pairwise fun a b => DatumOrd.lt b a = false := by
  have := List.pairwise_mergeSort (le := fun a b : α => !DatumOrd.lt b a) (fun a b c h1 h2 => by
    simp only [Bool.not_eq_true'] at h1 h2 ⊢
    cases z : DatumOrd.lt c a with
    | false => rfl
    | true =>
      by_cases e : a = b
      · subst e; rw [z] at h2; cases h2
      · rcases OrdOk.tot a b e with q | q
        · have := OrdOk.trans c a b z q; rw [this] at h2; cases h2
        · rw [q] at h1; cases h1) (fun a b => by
    cases z : DatumOrd.lt b a with
    | false => rfl
    | true => rw [lt_asym z]; rfl) xs
  exact this.imp fun h => by simpa using h
theorem sortE_of {xs ys : List α} (p : ys.Perm xs) (s : ys.Pairwise fun a b => DatumOrd.lt b a = false) : sortE xs = ys := by
  refine List.Perm.eq_of_pairwise (le := fun a b : α => DatumOrd.lt b a = false) (fun a b _ _ h1 h2 => ?_) (sortE_pw xs) s ((sortE_perm xs).trans p.symm)
  by_cases e : a = b
  · exact e
  · rcases OrdOk.tot a b e with q | q
    · rw [q] at h2; cases h2
    · rw [q] at h1; cases h1
theorem sortE_congr {xs ys : List α} (p : xs.Perm ys) : sortE xs = sortE ys := sortE_of ((sortE_perm ys).trans p.symm) (sortE_pw ys)
end
section
variable {α : Type} [DecidableEq α] [Datum α] [Enc α] {h : VH} {r : Nat} {xs ys : List α}
theorem pd_ref {ws : List VM.W} {ds : List PyData} (e : h.f r = some (.lst ws)) (es : datL ws = some ds) : pd h (.ref r) = some (.list ds) := by
  unfold pd
  rw [pdW, pdR, e]
  show ((pdL (pdR h 7) ws).map PyData.list) = _
  rw [pdL_up ws ds es]; rfl
theorem depthAll_le {ds : List PyData} {k : Nat} (hd : ∀ d ∈ ds, d.depth ≤ k) : PyData.depthAll ds ≤ k := by
  induction ds with
  | nil => simp [PyData.depthAll]
  | cons d ds ih =>
    simp only [PyData.depthAll]
    have h1 := hd d (List.mem_cons_self ..)
    have h2 := ih fun x hx => hd x (List.mem_cons_of_mem _ hx)
    omega
theorem eqW_refE (hd : Datum.depth α ≤ 59) (e : h.f r = some (.lst (xs.map enc))) : eqW h (.ref r) (.fz (ys.map enc)) = some (decide (xs = ys)) := by
  have h2 : ∀ zs : List α, (PyData.list (zs.map Datum.toD)).depth ≤ 60 := fun zs => by
    simp only [PyData.depth]
    have := depthAll_le (k := 59) (ds := zs.map Datum.toD) fun d hd' => by
      obtain ⟨a, _, rfl⟩ := List.mem_map.mp hd'
      exact Nat.le_trans (Datum.depth_le a) hd
    omega
  rw [eqW_pd (pd_ref e (datL_enc xs)) (pd_dat (datW_fz (datL_enc ys))) (h2 xs) (h2 ys)]
  exact congrArg some (Datum.eqv xs ys)
theorem ne_nil_ref (hd : Datum.depth α ≤ 59) (e : h.f r = some (.lst (xs.map enc))) : cmpW h .ne (.ref r) (.fz []) = some (!decide (xs = [])) := by
  show (eqW h (.ref r) (.fz (([] : List α).map enc))).map _ = _
  rw [eqW_refE hd e]; rfl
theorem eq_nil_ref (hd : Datum.depth α ≤ 59) (e : h.f r = some (.lst (xs.map enc))) : cmpW h .eq (.ref r) (.fz []) = some (decide (xs = [])) := by
  show (eqW h (.ref r) (.fz (([] : List α).map enc))) = _
  rw [eqW_refE hd e]
theorem eq_nil_fz (hd : Datum.depth α ≤ 59) : cmpW h .eq (.fz (xs.map enc)) (.fz []) = some (decide (xs = [])) := by
  have : Datum.depth (List α) ≤ 60 := by show Datum.depth α + 1 ≤ 60; omega
  exact cmp_eqE this xs []
theorem eq_fzE (hd : Datum.depth α ≤ 59) : cmpW h .eq (.fz (xs.map enc)) (.fz (ys.map enc)) = some (decide (xs = ys)) := by
  have : Datum.depth (List α) ≤ 60 := by show Datum.depth α + 1 ≤ 60; omega
  exact cmp_eqE this xs ys
end
/-! ### len(set(..)) -/
theorem ded_go : ∀ (ks acc : List Key), acc.Nodup → (ks.foldl stepK acc).Nodup ∧ (ks.foldl stepK acc).length ≤ acc.length + ks.length ∧ ((ks.foldl stepK acc).length = acc.length + ks.length ↔ (acc ++ ks).Nodup)
  | [], acc, h => by simp [h]
  | k :: ks, acc, h => by
    rw [List.foldl_cons]
    by_cases hk : k ∈ acc
    · have e : stepK acc k = acc := by simp [stepK, hk]
      rw [e]
      obtain ⟨h1, h2, h3⟩ := ded_go ks acc h
      refine ⟨h1, by simp only [List.length_cons]; omega, ?_⟩
      constructor
      · intro z; simp only [List.length_cons] at z; omega
      · intro z
        rw [List.nodup_append] at z
        exact absurd rfl (z.2.2 k hk k (List.mem_cons_self ..))
    · have e : stepK acc k = acc ++ [k] := by simp [stepK, hk]
      rw [e]
      have hn : (acc ++ [k]).Nodup := by
        rw [List.nodup_append]
        refine ⟨h, by simp, fun a ha b hb => ?_⟩
        simp only [List.mem_singleton] at hb
        subst hb
        exact fun z => hk (z ▸ ha)
      obtain ⟨h1, h2, h3⟩ := ded_go ks (acc ++ [k]) hn
      refine ⟨h1, by simp only [List.length_append, List.length_cons, List.length_nil] at h2 ⊢; omega, ?_⟩
      rw [List.append_assoc] at h3
      simp only [List.length_append, List.length_cons, List.length_nil] at h3 ⊢
      have e9 : acc ++ k :: ks = acc ++ ([k] ++ ks) := rfl
      rw [e9, ← h3]
      omega
theorem ded_len (ks : List Key) : (dedK ks).length = ks.length ↔ ks.Nodup := by
  have := (ded_go ks [] (List.nodup_nil)).2.2
  unfold dedK
  simpa using this
theorem lenset_of {h : VH} {ws : List VM.W} {ks : List Key} (hk : ws.map keyW = ks.map some) (hl : ws.length ≤ 4000) : biW .lenset [.fz ws] h = .ok (.int ((dedK ks).length : Nat)) h := by
  have e1 : ws.all (fun w => (keyW w).isSome) = true := by
    rw [List.all_eq_true]
    intro w hw
    have : keyW w ∈ ws.map keyW := List.mem_map_of_mem hw
    rw [hk] at this
    obtain ⟨k, _, e⟩ := List.mem_map.mp this
    rw [← e]; rfl
  have e2 : ws.filterMap keyW = ks := by
    have : ws.filterMap keyW = (ws.map keyW).filterMap id := by rw [List.filterMap_map]; rfl
    rw [this, hk, List.filterMap_map]
    simp
  show R.of h (((lstW h (.fz ws)).bind fun ws => if (ws.all fun w => (keyW w).isSome) && decide (ws.length ≤ 4000) then some (dedK (ws.filterMap keyW)).length else none).map fun n => VM.W.int (n : Nat)) = _
  simp only [lstW, Option.bind_some, e1, decide_eq_true hl, Bool.and_self, if_true, e2]
  rfl
theorem lenset_str {α : Type} {h : VH} {xs : List α} {f : α → Str} (hl : xs.length ≤ 4000) : biW .lenset [.fz (xs.map fun x => .str (f x))] h = .ok (.int ((dedK (xs.map fun x => (Sum.inr (f x) : Key))).length : Nat)) h :=
  lenset_of (by rw [List.map_map, List.map_map]; rfl) (by simpa using hl)
theorem lenset_int {h : VH} {xs : List Int} (hl : xs.length ≤ 4000) : biW .lenset [.fz (xs.map VM.W.int)] h = .ok (.int ((dedK (xs.map fun x => (Sum.inl x : Key))).length : Nat)) h :=
  lenset_of (by rw [List.map_map, List.map_map]; rfl) (by simpa using hl)
theorem nodup_inr {α : Type} {xs : List α} {f : α → Str} : (xs.map fun x => (Sum.inr (f x) : Key)).Nodup ↔ (xs.map f).Nodup := by
  have : (xs.map fun x => (Sum.inr (f x) : Key)) = (xs.map f).map Sum.inr := by rw [List.map_map]; rfl
  rw [this]
  unfold List.Nodup
  rw [List.pairwise_map]
  simp
theorem nodup_inl {xs : List Int} : (xs.map fun x => (Sum.inl x : Key)).Nodup ↔ xs.Nodup := by
  unfold List.Nodup
  rw [List.pairwise_map]
  simp
theorem cmp_bi1 {b : Bool} {h : VH} : cmpW h .eq (.bl b) (.int 1) = some b := by
  show eqW h (.bl b) (.int 1) = _
  rw [eqW_dat (x := .bool b) (y := .int 1) (by unfold datW; rw [pdW]) (by unfold datW; rw [pdW]) (by simp [PyData.depth]) (by simp [PyData.depth]), PyData.eqv]
  cases b <;> rfl
end VM

set_option linter.all false
set_option autoImplicit false
set_option maxRecDepth 100000
set_option maxHeartbeats 4000000
namespace LW
section
open PySem PySem.Spec PyProof.Rows L2 VM
open PySem.W (Datum DatumOrd Tup)
open VM.Enc (enc)
/-- is_whole(thing) -/
def b0 : S := .L [.ret (.and (.bi (.isinst .int) (.L [.var 0])) (.not (.bi (.isinst .bool) (.L [.var 0]))))]
/-- is_span(thing) -/
def b1 : S := .L [.ite (.or (.not (.bi (.isinst .tuple) (.L [.var 0]))) (.or (.cmp .ne (.bi .len (.L [.var 0])) (.cst (.int 2))) (.or (.not (.call 0 (.L [.idx (.var 0) (.cst (.int 0))]))) (.not (.call 0 (.L [.idx (.var 0) (.cst (.int 1))])))))) (.L [.ret (.cst (.bl false))]) (.nil), .ret (.cmp .lt (.idx (.var 0) (.cst (.int 0))) (.idx (.var 0) (.cst (.int 1))))]
/-- spans_meet(one, other) -/
def b2 : S := .L [.ret (.and (.cmp .lt (.idx (.var 0) (.cst (.int 0))) (.idx (.var 1) (.cst (.int 1)))) (.cmp .lt (.idx (.var 1) (.cst (.int 0))) (.idx (.var 0) (.cst (.int 1)))))]
/-- span_within(one, other) -/
def b3 : S := .L [.ret (.and (.cmp .le (.idx (.var 1) (.cst (.int 0))) (.idx (.var 0) (.cst (.int 0)))) (.cmp .le (.idx (.var 0) (.cst (.int 1))) (.idx (.var 1) (.cst (.int 1)))))]
/-- is_box(thing, keys) -/
def b4_0 : E := .call 1 (.L [.var 2])
def b4 : S := .L [.ret (.and (.bi (.isinst .tuple) (.L [.var 0])) (.and (.cmp .eq (.bi .len (.L [.var 0])) (.var 1)) (.bi .all (.L [.frz (.comp b4_0 (.nm 2) .seq (.L [.var 0]) .nil [2])]))))]
/-- is_spot(thing, keys) -/
def b5_0 : E := .call 0 (.L [.var 2])
def b5 : S := .L [.ret (.and (.bi (.isinst .tuple) (.L [.var 0])) (.and (.cmp .eq (.bi .len (.L [.var 0])) (.var 1)) (.bi .all (.L [.frz (.comp b5_0 (.nm 2) .seq (.L [.var 0]) .nil [2])]))))]
/-- has_spot(box, spot) -/
def b6_0 : E := .chn .le .lt (.idx (.var 2) (.cst (.int 0))) (.var 3) (.idx (.var 2) (.cst (.int 1)))
def b6 : S := .L [.ret (.bi .all (.L [.frz (.comp b6_0 (.tp (.L [.nm 2, .nm 3])) .zip (.L [.var 0, .var 1]) .nil [2, 3])]))]
/-- boxes_meet(one, other) -/
def b7_0 : E := .call 2 (.L [.var 2, .var 3])
def b7 : S := .L [.ret (.bi .all (.L [.frz (.comp b7_0 (.tp (.L [.nm 2, .nm 3])) .zip (.L [.var 0, .var 1]) .nil [2, 3])]))]
/-- box_within(one, other) -/
def b8_0 : E := .call 3 (.L [.var 2, .var 3])
def b8 : S := .L [.ret (.bi .all (.L [.frz (.comp b8_0 (.tp (.L [.nm 2, .nm 3])) .zip (.L [.var 0, .var 1]) .nil [2, 3])]))]
/-- is_number(thing) -/
def b9 : S := .L [.ret (.and (.bi (.isinst .int) (.L [.var 0])) (.not (.bi (.isinst .bool) (.L [.var 0]))))]
/-- are_keys(thing) -/
def b10 : S := .L [.ret (.and (.call 9 (.L [.var 0])) (.chn .le .le (.cst (.int 1)) (.var 0) (.glb 2)))]
/-- is_named(thing) -/
def b11_0 : E := .cmp .isin (.var 1) (.glb 1)
def b11 : S := .L [.ret (.and (.bi (.isinst .str) (.L [.var 0])) (.and (.chn .le .le (.cst (.int 1)) (.bi .len (.L [.var 0])) (.cst (.int 8))) (.bi .all (.L [.frz (.comp b11_0 (.nm 1) .seq (.L [.var 0]) .nil [1])]))))]
/-- is_item(thing, keys) -/
def b12 : S := .L [.ret (.and (.bi (.isinst .tuple) (.L [.var 0])) (.and (.cmp .eq (.bi .len (.L [.var 0])) (.cst (.int 2))) (.and (.call 11 (.L [.idx (.var 0) (.cst (.int 0))])) (.call 4 (.L [.idx (.var 0) (.cst (.int 1)), .var 1])))))]
/-- are_items(thing, keys) -/
def b13_0 : E := .call 12 (.L [.var 2, .var 1])
def b13_1 : E := .var 3
def b13 : S := .L [.ite (.or (.not (.bi (.isinst .list) (.L [.var 0]))) (.not (.bi .all (.L [.frz (.comp b13_0 (.nm 2) .seq (.L [.var 0]) .nil [2])])))) (.L [.ret (.cst (.bl false))]) (.nil), .ret (.cmp .eq (.bi .lenset (.L [.frz (.comp b13_1 (.tp (.L [.nm 3, .nm 4])) .seq (.L [.var 0]) .nil [3, 4])])) (.bi .len (.L [.var 0])))]
/-- is_asked_for(word, keys, thing) -/
def b14 : S := .L [.ite (.cmp .eq (.var 0) (.cst (.str "over"))) (.L [.ret (.call 5 (.L [.var 2, .var 1]))]) (.nil), .ret (.call 4 (.L [.var 2, .var 1]))]
/-- is_answer(word, box, thing) -/
def b15 : S := .L [.ite (.cmp .eq (.var 0) (.cst (.str "over"))) (.L [.ret (.call 6 (.L [.var 1, .var 2]))]) (.nil), .ite (.cmp .eq (.var 0) (.cst (.str "meeting"))) (.L [.ret (.call 7 (.L [.var 1, .var 2]))]) (.nil), .ite (.cmp .eq (.var 0) (.cst (.str "within"))) (.L [.ret (.call 8 (.L [.var 1, .var 2]))]) (.nil), .ret (.call 8 (.L [.var 2, .var 1]))]
/-- answers_due(word, items, thing) -/
def b16_0 : E := .tup (.L [.var 5, .var 4])
def b16_1 : E := .tup (.L [.var 4, .var 5])
def b16_2 : E := .L [.call 15 (.L [.var 0, .var 5, .var 2])]
def b16 : S := .L [.setN 3 (.frz (.bi .sorted (.L [.frz (.comp b16_0 (.tp (.L [.nm 4, .nm 5])) .seq (.L [.var 1]) .nil [4, 5])]))), .ret (.frz (.comp b16_1 (.tp (.L [.nm 5, .nm 4])) .seq (.L [.var 3]) b16_2 [5, 4]))]
/-- pairs_due(word, thing) -/
def b17_0 : E := .tup (.L [.bin .add (.var 2) (.cst (.int 1)), .var 2])
def b17_1 : E := .tup (.L [.var 4, .var 3])
def b17_2 : E := .tup (.L [.bin .add (.var 3) (.cst (.int 1)), .bin .sub (.var 4) (.cst (.int 1))])
def b17 : S := .L [.ite (.cmp .eq (.var 0) (.cst (.str "over"))) (.L [.ret (.frz (.comp b17_0 (.nm 2) .seq (.L [.var 1]) .nil [2]))]) (.nil), .ite (.cmp .eq (.var 0) (.cst (.str "meeting"))) (.L [.ret (.frz (.comp b17_1 (.tp (.L [.nm 3, .nm 4])) .seq (.L [.var 1]) .nil [3, 4]))]) (.nil), .ite (.cmp .eq (.var 0) (.cst (.str "around"))) (.L [.ret (.frz (.comp b17_2 (.tp (.L [.nm 3, .nm 4])) .seq (.L [.var 1]) .nil [3, 4]))]) (.nil), .ret (.frz (.bi .list (.L [.var 1])))]
/-- entry_of(item, layer) -/
def b18 : S := .L [.setP (.tp (.L [.nm 2, .nm 3])) (.var 0), .setP (.tp (.L [.nm 4, .nm 5])) (.idx (.var 3) (.bin .fdiv (.bin .sub (.var 1) (.cst (.int 1))) (.cst (.int 2)))), .ite (.cmp .eq (.bin .mod (.var 1) (.cst (.int 2))) (.cst (.int 1))) (.L [.ret (.tup (.L [.var 4, .var 5, .var 2]))]) (.nil), .ret (.tup (.L [.var 5, .var 4, .var 2]))]
/-- is_entry(thing) -/
def b19 : S := .L [.ite (.or (.not (.bi (.isinst .tuple) (.L [.var 0]))) (.cmp .ne (.bi .len (.L [.var 0])) (.cst (.int 3)))) (.L [.ret (.cst (.bl false))]) (.nil), .ret (.and (.call 9 (.L [.idx (.var 0) (.cst (.int 0))])) (.and (.call 9 (.L [.idx (.var 0) (.cst (.int 1))])) (.bi (.isinst .str) (.L [.idx (.var 0) (.cst (.int 2))]))))]
/-- height_in(shape) -/
def b20 : S := .L [.ite (.isn (.var 0)) (.L [.ret (.cst (.int 0))]) (.nil), .ret (.idx (.var 0) (.cst (.int 3)))]
/-- is_head(shape, size, entries, numbers) -/
def b21 : S := .L [.ite (.or (.not (.bi (.isinst .tuple) (.L [.var 0]))) (.or (.cmp .ne (.bi .len (.L [.var 0])) (.var 1)) (.or (.not (.call 19 (.L [.idx (.var 0) (.cst (.int 1))]))) (.cmp .notin (.idx (.var 0) (.cst (.int 1))) (.var 2))))) (.L [.ret (.cst (.bl false))]) (.nil), .setP (.tp (.L [.nm 4, .nm 5, .nm 6, .nm 7])) (.slc (.var 0) .nil (.cons (.cst (.int 4)) .nil)), .ite (.or (.not (.call 9 (.L [.var 4]))) (.or (.cmp .lt (.var 4) (.cst (.int 1))) (.or (.cmp .isin (.var 4) (.var 3)) (.or (.not (.call 9 (.L [.var 6]))) (.not (.call 9 (.L [.var 7]))))))) (.L [.ret (.cst (.bl false))]) (.nil), .setI (.var 3) (.var 4) (.cst (.bl true)), .ret (.cmp .eq (.var 6) (.bi .len (.L [.var 2])))]
/-- are_upright(shape, left, right) -/
def b22 : S := .L [.par 3 4 (.call 20 (.L [.var 1])) (.call 20 (.L [.var 2])), .ret (.and (.cmp .eq (.idx (.var 0) (.cst (.int 3))) (.bin .add (.cst (.int 1)) (.bi .max2 (.L [.var 3, .var 4])))) (.cmp .lt (.bi .abs (.L [.bin .sub (.var 3) (.var 4)])) (.cst (.int 2))))]
/-- is_tree(shape, entries, numbers) -/
def b23 : S := .L [.ite (.cmp .eq (.var 1) (.frz (.lst .nil))) (.L [.ret (.isn (.var 0))]) (.nil), .ite (.not (.call 21 (.L [.var 0, .cst (.int 6), .var 1, .var 2]))) (.L [.ret (.cst (.bl false))]) (.nil), .setN 3 (.bm (.var 1) .index (.L [.idx (.var 0) (.cst (.int 1))])), .ite (.or (.not (.call 23 (.L [.idx (.var 0) (.cst (.int 4)), .frz (.slc (.var 1) .nil (.cons (.var 3) .nil)), .var 2]))) (.not (.call 23 (.L [.idx (.var 0) (.cst (.int 5)), .frz (.slc (.var 1) (.cons (.bin .add (.var 3) (.cst (.int 1))) .nil) .nil), .var 2])))) (.L [.ret (.cst (.bl false))]) (.nil), .ret (.call 22 (.L [.var 0, .idx (.var 0) (.cst (.int 4)), .idx (.var 0) (.cst (.int 5))]))]
/-- are_ends(shape, entries) -/
def b24_0 : E := .idx (.var 3) (.cst (.int 1))
def b24 : S := .L [.frzS 2 (.setLc 2 (.comp b24_0 (.nm 3) .seq (.L [.var 1]) .nil [3])), .ret (.and (.call 9 (.L [.idx (.var 0) (.cst (.int 4))])) (.and (.call 9 (.L [.idx (.var 0) (.cst (.int 5))])) (.cmp .eq (.slc (.var 0) (.cons (.cst (.int 4)) .nil) (.cons (.cst (.int 6)) .nil)) (.tup (.L [.bi .min1 (.L [.var 2]), .bi .max1 (.L [.var 2])])))))]
/-- is_layer(shape, items, layer, last, numbers) -/
def b25_0 : E := .tup (.L [.call 18 (.L [.var 7, .var 2]), .var 7])
def b25_1 : E := .idx (.var 6) (.cst (.int 1))
def b25_2 : E := .call 18 (.L [.var 7, .var 2])
def b25 : S := .L [.ite (.cmp .eq (.var 1) (.frz (.lst .nil))) (.L [.ret (.isn (.var 0))]) (.nil), .frzS 5 (.setLc 5 (.comp b25_1 (.nm 6) .seq (.L [.frz (.bi .sorted (.L [.frz (.comp b25_0 (.nm 7) .seq (.L [.var 1]) .nil [7])]))]) .nil [6])), .frzS 8 (.setLc 8 (.comp b25_2 (.nm 7) .seq (.L [.var 5]) .nil [7])), .ite (.not (.call 21 (.L [.var 0, .bin .add (.cst (.int 7)) (.bi .int (.L [.cmp .eq (.var 2) (.var 3)])), .var 8, .var 4]))) (.L [.ret (.cst (.bl false))]) (.nil), .setN 9 (.bm (.var 8) .index (.L [.idx (.var 0) (.cst (.int 1))])), .setP (.tp (.L [.nm 10, .nm 11])) (.slc (.var 0) (.cons (.bin .add (.cst (.int 4)) (.bin .mul (.cst (.int 2)) (.bi .int (.L [.cmp .eq (.var 2) (.var 3)])))) .nil) (.cons (.bin .add (.cst (.int 6)) (.bin .mul (.cst (.int 2)) (.bi .int (.L [.cmp .eq (.var 2) (.var 3)])))) .nil)), .ite (.not (.call 25 (.L [.var 10, .frz (.slc (.var 5) .nil (.cons (.var 9) .nil)), .var 2, .var 3, .var 4]))) (.L [.ret (.cst (.bl false))]) (.nil), .ite (.or (.not (.call 25 (.L [.var 11, .frz (.slc (.var 5) (.cons (.bin .add (.var 9) (.cst (.int 1))) .nil) .nil), .var 2, .var 3, .var 4]))) (.not (.call 22 (.L [.var 0, .var 10, .var 11])))) (.L [.ret (.cst (.bl false))]) (.nil), .ite (.cmp .eq (.var 2) (.var 3)) (.L [.ret (.call 24 (.L [.var 0, .var 8]))]) (.nil), .ret (.call 25 (.L [.idx (.var 0) (.cst (.int 6)), .var 1, .bin .add (.var 2) (.cst (.int 1)), .var 3, .var 4]))]
/-- looks_across(shape, x, y) -/
def b26 : S := .L [.ite (.or (.isn (.var 0)) (.cmp .le (.idx (.var 0) (.cst (.int 5))) (.var 2))) (.L [.ret (.frz (.lst .nil))]) (.nil), .setN 3 (.bin .add (.frz (.lst (.L [.idx (.var 0) (.cst (.int 0))]))) (.call 26 (.L [.idx (.var 0) (.cst (.int 6)), .var 1, .var 2]))), .frzS 3 (.ite (.cmp .lt (.idx (.idx (.var 0) (.cst (.int 1))) (.cst (.int 0))) (.var 1)) (.L [.exp (.bm (.var 3) .extend (.L [.call 26 (.L [.idx (.var 0) (.cst (.int 7)), .var 1, .var 2])]))]) (.nil)), .ret (.var 3)]
/-- looks_inside(shape, x, y) -/
def b27 : S := .L [.ite (.or (.isn (.var 0)) (.cmp .gt (.idx (.var 0) (.cst (.int 4))) (.var 2))) (.L [.ret (.frz (.lst .nil))]) (.nil), .setN 3 (.lst (.L [.idx (.var 0) (.cst (.int 0))])), .frzS 3 (.ite (.cmp .ge (.idx (.idx (.var 0) (.cst (.int 1))) (.cst (.int 0))) (.var 1)) (.L [.exp (.bm (.var 3) .extend (.L [.call 27 (.L [.idx (.var 0) (.cst (.int 6)), .var 1, .var 2])]))]) (.nil)), .ret (.frz (.bin .add (.var 3) (.call 27 (.L [.idx (.var 0) (.cst (.int 7)), .var 1, .var 2]))))]
/-- fits(first, layer, x, y, inside) -/
def b28 : S := .L [.ite (.cmp .eq (.bin .mod (.var 1) (.cst (.int 2))) (.cst (.int 1))) (.L [.ret (.cmp .ne (.cmp .lt (.var 0) (.var 2)) (.var 4))]) (.nil), .ret (.cmp .ne (.cmp .gt (.var 0) (.var 3)) (.var 4))]
/-- looks_due(shape, layer, last, pairs, inside) -/
def b29_0 : S := .L [.exp (.bm (.var 7) .append (.L [.idx (.var 0) (.cst (.int 0))])), .setP (.tp (.L [.nm 8, .nm 9])) (.slc (.var 0) (.cons (.cst (.int 4)) .nil) (.cons (.cst (.int 6)) .nil)), .ite (.cmp .eq (.cmp .eq (.bin .mod (.var 1) (.cst (.int 2))) (.cst (.int 1))) (.var 4)) (.L [.par 8 9 (.var 9) (.var 8)]) (.nil), .ite (.call 28 (.L [.idx (.idx (.var 0) (.cst (.int 1))) (.cst (.int 0)), .var 1, .var 5, .var 6, .var 4])) (.L [.ite (.isnn (.var 8)) (.L [.exp (.bm (.var 7) .extend (.L [.call 29 (.L [.idx (.var 8) (.cst (.int 6)), .bin .add (.var 1) (.cst (.int 1)), .var 2, .var 3, .var 4])]))]) (.nil), .setN 0 (.var 9)]) (.L [.setN 0 (.var 8)])]
def b29 : S := .L [.setP (.tp (.L [.nm 5, .nm 6])) (.idx (.var 3) (.bin .fdiv (.bin .sub (.var 1) (.cst (.int 1))) (.cst (.int 2)))), .ite (.and (.cmp .eq (.var 1) (.var 2)) (.var 4)) (.L [.ret (.call 27 (.L [.var 0, .var 5, .var 6]))]) (.nil), .ite (.cmp .eq (.var 1) (.var 2)) (.L [.ret (.call 26 (.L [.var 0, .var 5, .var 6]))]) (.nil), .setN 7 (.lst .nil), .frzS 7 (.whl (.isnn (.var 0)) b29_0), .ret (.var 7)]
/-- is_claim(claim) -/
def b30 : S := .L [.ite (.or (.not (.bi (.isinst .tuple) (.L [.var 0]))) (.cmp .ne (.bi .len (.L [.var 0])) (.cst (.int 5)))) (.L [.ret (.cst (.bl false))]) (.nil), .setP (.tp (.L [.nm 1, .nm 2, .nm 3, .nm 4, .nm 5])) (.var 0), .ite (.or (.not (.bi (.isinst .str) (.L [.var 1]))) (.or (.cmp .notin (.var 1) (.glb 0)) (.or (.not (.call 10 (.L [.var 2]))) (.not (.call 13 (.L [.var 3, .var 2])))))) (.L [.ret (.cst (.bl false))]) (.nil), .ite (.or (.not (.call 14 (.L [.var 1, .var 2, .var 4]))) (.not (.call 13 (.L [.var 5, .var 2])))) (.L [.ret (.cst (.bl false))]) (.nil), .ret (.cmp .eq (.var 5) (.call 16 (.L [.var 1, .var 3, .var 4])))]
/-- answers_taken(claim, paper) -/
def b31_0 : E := .call 9 (.L [.var 10])
def b31 : S := .L [.ite (.or (.not (.call 30 (.L [.var 0]))) (.or (.not (.bi (.isinst .tuple) (.L [.var 1]))) (.cmp .ne (.bi .len (.L [.var 1])) (.cst (.int 2))))) (.L [.ret (.cst (.bl false))]) (.nil), .setP (.tp (.L [.nm 2, .nm 3, .nm 4, .nm 5, .nm 6])) (.var 0), .setP (.tp (.L [.nm 7, .nm 8])) (.var 1), .setN 9 (.bin .sub (.bin .mul (.cst (.int 2)) (.var 3)) (.cst (.int 1))), .ite (.not (.call 25 (.L [.var 7, .var 4, .cst (.int 1), .var 9, .dic0]))) (.L [.ret (.cst (.bl false))]) (.nil), .ite (.or (.not (.bi (.isinst .list) (.L [.var 8]))) (.not (.bi .all (.L [.frz (.comp b31_0 (.nm 10) .seq (.L [.var 8]) .nil [10])])))) (.L [.ret (.cst (.bl false))]) (.nil), .ret (.cmp .eq (.var 8) (.call 29 (.L [.var 7, .cst (.int 1), .var 9, .call 17 (.L [.var 2, .var 5]), .cmp .eq (.var 2) (.cst (.str "within"))])))]
/-- sides_taken(keys, items, sides) -/
def b32_0 : E := .call 18 (.L [.var 8, .bin .add (.bin .mul (.cst (.int 2)) (.var 4)) (.cst (.int 1))])
def b32_1 : E := .call 18 (.L [.var 8, .bin .add (.bin .mul (.cst (.int 2)) (.var 4)) (.cst (.int 2))])
def b32_2 : S := .L [.ite (.or (.not (.bi (.isinst .tuple) (.L [.var 5]))) (.cmp .ne (.bi .len (.L [.var 5])) (.cst (.int 2)))) (.L [.ret (.cst (.bl false))]) (.nil), .setN 6 (.frz (.bi .sorted (.L [.frz (.comp b32_0 (.nm 8) .seq (.L [.var 1]) .nil [8])]))), .setN 7 (.frz (.bi .sorted (.L [.frz (.comp b32_1 (.nm 8) .seq (.L [.var 1]) .nil [8])]))), .ite (.or (.not (.call 23 (.L [.idx (.var 5) (.cst (.int 0)), .var 6, .var 3]))) (.not (.call 23 (.L [.idx (.var 5) (.cst (.int 1)), .var 7, .var 3])))) (.L [.ret (.cst (.bl false))]) (.nil)]
def b32 : S := .L [.ite (.or (.not (.call 10 (.L [.var 0]))) (.or (.not (.call 13 (.L [.var 1, .var 0]))) (.or (.not (.bi (.isinst .tuple) (.L [.var 2]))) (.cmp .ne (.bi .len (.L [.var 2])) (.var 0))))) (.L [.ret (.cst (.bl false))]) (.nil), .setN 3 (.dic0), .for_ (.tp (.L [.nm 4, .nm 5])) .enum (.L [.var 2]) b32_2, .ret (.cst (.bl true))]
/-- _law_cell(_law_script, _law_k) -/
def b33_0 : S := .L [.setN 2 (.bin .mod (.bin .add (.bin .mul (.var 2) (.cst (.int 69621))) (.var 3)) (.cst (.int 2147483647)))]
def b33 : S := .L [.ite (.cmp .lt (.var 1) (.bi .len (.L [.var 0]))) (.L [.ret (.idx (.var 0) (.var 1))]) (.nil), .setN 2 (.bin .mod (.bin .mul (.cst (.int 48271)) (.bin .add (.bin .add (.bin .mul (.var 1) (.var 1)) (.bin .mul (.cst (.int 7)) (.var 1))) (.cst (.int 11)))) (.cst (.int 2147483647))), .for_ (.nm 3) .seq (.L [.frz (.slc (.var 0) .nil (.cons (.cst (.int 3)) .nil))]) b33_0, .ret (.var 2)]
/-- _law_numbers(_law_cell_here, _law_many) -/
def b34_0 : S := .L [.setN 3 (.bin .mod (.bin .add (.bin .add (.bin .mul (.var 3) (.bin .add (.bin .mod (.var 3) (.cst (.int 65521))) (.cst (.int 40487)))) (.bin .mul (.cst (.int 7)) (.var 5))) (.cst (.int 5))) (.cst (.int 1999999973))), .exp (.bm (.var 2) .append (.L [.idx (.frz (.lst (.L [.var 3, .bin .mod (.var 4) (.cst (.int 1000000))]))) (.bi .int (.L [.cmp .gt (.var 4) (.cst (.int 0))]))])), .setN 4 (.bin .fdiv (.var 4) (.cst (.int 1000000)))]
def b34 : S := .L [.setN 2 (.lst .nil), .setN 3 (.bin .mod (.bin .mul (.bin .add (.bin .mod (.var 0) (.cst (.int 1999999973))) (.cst (.int 31))) (.cst (.int 765432101))) (.cst (.int 1999999973))), .setN 4 (.cst (.int 0)), .ite (.or (.cmp .lt (.var 0) (.cst (.int 0))) (.cmp .ge (.var 0) (.bin .pow (.cst (.int 10)) (.cst (.int 18))))) (.L [.setN 4 (.bi .abs (.L [.var 0]))]) (.nil), .frzS 2 (.for_ (.nm 5) .rng (.L [.var 1]) b34_0), .ret (.var 2)]
/-- _law_names(_law_xs) -/
def b35_0 : E := .idx (.var 1) (.bin .mod (.bin .fdiv (.idx (.var 0) (.var 3)) (.cst (.int 40))) (.cst (.int 26)))
def b35_1 : E := .idx (.var 1) (.bin .mod (.bin .fdiv (.bin .fdiv (.idx (.var 0) (.var 3)) (.cst (.int 8))) (.bin .add (.var 10) (.cst (.int 1)))) (.cst (.int 26)))
def b35_2 : S := .L [.setN 8 (.idx (.var 1) (.bin .mod (.bin .add (.var 3) (.idx (.var 0) (.cst (.int 4)))) (.cst (.int 10)))), .setN 9 (.bin .add (.bin .add (.slc (.var 2) .nil (.cons (.var 4) .nil)) (.var 8)) (.slc (.var 2) (.cons (.var 4) .nil) .nil)), .ite (.cmp .eq (.bin .mod (.idx (.var 0) (.cst (.int 5))) (.cst (.int 3))) (.cst (.int 1))) (.L [.setN 9 (.idx (.frz (.lst (.L [.bin .mul (.var 5) (.bin .add (.var 3) (.cst (.int 1))), .bin .mul (.var 6) (.bin .sub (.var 3) (.cst (.int 7)))]))) (.bi .int (.L [.cmp .gt (.var 3) (.cst (.int 7))])))]) (.nil), .ite (.cmp .eq (.bin .mod (.idx (.var 0) (.cst (.int 5))) (.cst (.int 3))) (.cst (.int 2))) (.L [.setN 9 (.bin .add (.var 8) (.bm (.cst (.str "")) .join (.L [.frz (.comp b35_1 (.nm 10) .rng (.L [.bin .mod (.idx (.var 0) (.var 3)) (.cst (.int 8))]) .nil [10])])))]) (.nil), .exp (.bm (.var 7) .append (.L [.var 9]))]
def b35 : S := .L [.setN 1 (.cst (.str "abcdefghijklmnopqrstuvwxyz")), .setN 2 (.bm (.cst (.str "")) .join (.L [.frz (.comp b35_0 (.nm 3) .rng (.L [.bin .mod (.idx (.var 0) (.cst (.int 0))) (.cst (.int 7))]) .nil [3])])), .setN 4 (.bin .mod (.idx (.var 0) (.cst (.int 1))) (.bin .add (.bi .len (.L [.var 2])) (.cst (.int 1)))), .setN 5 (.idx (.var 1) (.bin .mod (.bin .fdiv (.idx (.var 0) (.cst (.int 2))) (.cst (.int 40))) (.cst (.int 10)))), .setN 6 (.idx (.var 1) (.bin .mod (.bin .add (.bin .add (.bin .fdiv (.idx (.var 0) (.cst (.int 2))) (.cst (.int 40))) (.cst (.int 1))) (.bin .mod (.idx (.var 0) (.cst (.int 3))) (.cst (.int 9)))) (.cst (.int 10)))), .setN 7 (.lst .nil), .frzS 7 (.for_ (.nm 3) .rng (.L [.cst (.int 10)]) b35_2), .ret (.var 7)]
/-- _law_span(_law_x, _law_y, _law_mode) -/
def b36 : S := .L [.par 3 4 (.bin .mod (.var 0) (.cst (.int 13))) (.bin .add (.cst (.int 1)) (.bin .mod (.var 1) (.cst (.int 5)))), .ite (.cmp .eq (.bin .mod (.var 2) (.cst (.int 8))) (.cst (.int 1))) (.L [.par 3 4 (.bin .sub (.bin .mod (.var 0) (.cst (.int 2000001))) (.cst (.int 1000000))) (.bin .add (.cst (.int 1)) (.bin .mod (.var 1) (.cst (.int 1000))))]) (.nil), .ite (.cmp .eq (.bin .mod (.var 2) (.cst (.int 8))) (.cst (.int 2))) (.L [.par 3 4 (.bin .mod (.var 0) (.cst (.int 4))) (.bin .add (.cst (.int 1)) (.bin .mod (.var 1) (.cst (.int 2))))]) (.nil), .ite (.cmp .eq (.bin .mod (.var 2) (.cst (.int 8))) (.cst (.int 3))) (.L [.par 3 4 (.bin .mul (.bin .sub (.bin .mod (.var 0) (.cst (.int 13))) (.cst (.int 6))) (.bin .pow (.cst (.int 10)) (.cst (.int 11)))) (.bin .add (.cst (.int 1)) (.bin .mul (.bin .mod (.var 1) (.cst (.int 3))) (.bin .pow (.cst (.int 10)) (.cst (.int 11)))))]) (.nil), .ret (.tup (.L [.var 3, .bin .add (.var 3) (.var 4)]))]
/-- _law_box(_law_xs, _law_keys, _law_mode) -/
def b37_0 : E := .call 36 (.L [.idx (.var 0) (.bin .mul (.cst (.int 2)) (.var 3)), .idx (.var 0) (.bin .add (.bin .mul (.cst (.int 2)) (.var 3)) (.cst (.int 1))), .var 2])
def b37 : S := .L [.ret (.bi .tuple (.L [.frz (.comp b37_0 (.nm 3) .rng (.L [.var 1]) .nil [3])]))]
/-- _law_sorted(_law_stands) -/
def b38_0 : E := .tup (.L [.idx (.var 0) (.var 2), .var 2])
def b38_1 : E := .tup (.L [.var 2, .var 1])
def b38 : S := .L [.ret (.frz (.comp b38_1 (.tp (.L [.nm 1, .nm 2])) .seq (.L [.frz (.bi .sorted (.L [.frz (.comp b38_0 (.nm 2) .keys (.L [.var 0]) .nil [2])]))]) .nil [1, 2]))]
/-- _law_is_asked(_law_word, _law_box_here, _law_thing) -/
def b39_0 : S := .L [.setP (.tp (.L [.nm 4, .nm 5])) (.idx (.var 1) (.var 3)), .ite (.and (.cmp .eq (.var 0) (.cst (.str "over"))) (.not (.chn .le .lt (.var 4) (.idx (.var 2) (.var 3)) (.var 5)))) (.L [.ret (.cst (.bl false))]) (.nil), .ite (.and (.cmp .eq (.var 0) (.cst (.str "meeting"))) (.not (.and (.cmp .lt (.var 4) (.idx (.idx (.var 2) (.var 3)) (.cst (.int 1)))) (.cmp .lt (.idx (.idx (.var 2) (.var 3)) (.cst (.int 0))) (.var 5))))) (.L [.ret (.cst (.bl false))]) (.nil), .ite (.and (.cmp .eq (.var 0) (.cst (.str "within"))) (.not (.and (.cmp .le (.idx (.idx (.var 2) (.var 3)) (.cst (.int 0))) (.var 4)) (.cmp .le (.var 5) (.idx (.idx (.var 2) (.var 3)) (.cst (.int 1))))))) (.L [.ret (.cst (.bl false))]) (.nil), .ite (.and (.cmp .eq (.var 0) (.cst (.str "around"))) (.not (.and (.cmp .le (.var 4) (.idx (.idx (.var 2) (.var 3)) (.cst (.int 0)))) (.cmp .le (.idx (.idx (.var 2) (.var 3)) (.cst (.int 1))) (.var 5))))) (.L [.ret (.cst (.bl false))]) (.nil)]
def b39 : S := .L [.for_ (.nm 3) .rng (.L [.bi .len (.L [.var 1])]) b39_0, .ret (.cst (.bl true))]
/-- _law_plain(_law_stands, _law_word, _law_thing) -/
def b40_0 : E := .tup (.L [.var 3, .var 4])
def b40_1 : E := .L [.call 39 (.L [.var 1, .var 4, .var 2])]
def b40 : S := .L [.ret (.frz (.comp b40_0 (.tp (.L [.nm 3, .nm 4])) .seq (.L [.call 38 (.L [.var 0])]) b40_1 [3, 4]))]
/-- _law_entry(_law_item, _law_level) -/
def b41 : S := .L [.setP (.tp (.L [.nm 2, .nm 3])) (.var 0), .setP (.tp (.L [.nm 4, .nm 5])) (.idx (.var 3) (.bin .fdiv (.bin .sub (.var 1) (.cst (.int 1))) (.cst (.int 2)))), .ite (.cmp .eq (.bin .mod (.var 1) (.cst (.int 2))) (.cst (.int 0))) (.L [.ret (.tup (.L [.var 5, .var 4, .var 2]))]) (.nil), .ret (.tup (.L [.var 4, .var 5, .var 2]))]
/-- _law_last_looks(_law_shape, _law_pair, _law_side) -/
def b42 : S := .L [.ite (.isn (.var 0)) (.L [.ret (.frz (.lst .nil))]) (.nil), .setP (.tp (.L [.nm 3, .nm 4, .nm 5, .nm 6, .nm 7, .nm 8, .nm 9, .nm 10])) (.var 0), .ite (.cmp .eq (.var 2) (.cst (.str "across"))) (.L [.ite (.cmp .le (.var 8) (.idx (.var 1) (.cst (.int 1)))) (.L [.ret (.frz (.lst .nil))]) (.nil), .setN 11 (.frz (.bin .add (.frz (.lst (.L [.var 3]))) (.call 42 (.L [.var 9, .var 1, .var 2])))), .ite (.cmp .lt (.idx (.var 4) (.cst (.int 0))) (.idx (.var 1) (.cst (.int 0)))) (.L [.setN 11 (.frz (.bin .add (.var 11) (.call 42 (.L [.var 10, .var 1, .var 2]))))]) (.nil), .ret (.var 11)]) (.nil), .ite (.cmp .gt (.var 7) (.idx (.var 1) (.cst (.int 1)))) (.L [.ret (.frz (.lst .nil))]) (.nil), .setN 11 (.frz (.lst (.L [.var 3]))), .ite (.cmp .ge (.idx (.var 4) (.cst (.int 0))) (.idx (.var 1) (.cst (.int 0)))) (.L [.setN 11 (.frz (.bin .add (.var 11) (.call 42 (.L [.var 9, .var 1, .var 2]))))]) (.nil), .ret (.frz (.bin .add (.var 11) (.call 42 (.L [.var 10, .var 1, .var 2]))))]
/-- _law_fits(_law_first, _law_level, _law_pair, _law_side) -/
def b43 : S := .L [.ite (.cmp .eq (.bin .mod (.var 1) (.cst (.int 2))) (.cst (.int 1))) (.L [.ret (.cmp .eq (.cmp .lt (.var 0) (.idx (.var 2) (.cst (.int 0)))) (.cmp .eq (.var 3) (.cst (.str "across"))))]) (.nil), .ret (.cmp .eq (.cmp .gt (.var 0) (.idx (.var 2) (.cst (.int 1)))) (.cmp .eq (.var 3) (.cst (.str "across"))))]
/-- _law_looks(_law_shape, _law_level, _law_last, _law_pairs_here, _law_side) -/
def b44_0 : S := .L [.exp (.bm (.var 6) .append (.L [.idx (.var 0) (.cst (.int 0))])), .par 7 8 (.idx (.var 0) (.cst (.int 4))) (.idx (.var 0) (.cst (.int 5))), .ite (.cmp .ne (.cmp .eq (.bin .mod (.var 1) (.cst (.int 2))) (.cst (.int 1))) (.cmp .eq (.var 4) (.cst (.str "across")))) (.L [.par 7 8 (.idx (.var 0) (.cst (.int 5))) (.idx (.var 0) (.cst (.int 4)))]) (.nil), .ite (.call 43 (.L [.idx (.idx (.var 0) (.cst (.int 1))) (.cst (.int 0)), .var 1, .var 5, .var 4])) (.L [.ite (.isnn (.var 7)) (.L [.setN 6 (.bin .add (.var 6) (.call 44 (.L [.idx (.var 7) (.cst (.int 6)), .bin .add (.var 1) (.cst (.int 1)), .var 2, .var 3, .var 4])))]) (.nil), .setN 0 (.var 8)]) (.L [.setN 0 (.var 7)])]
def b44 : S := .L [.setN 5 (.idx (.var 3) (.bin .fdiv (.bin .sub (.var 1) (.cst (.int 1))) (.cst (.int 2)))), .ite (.cmp .eq (.var 1) (.var 2)) (.L [.ret (.call 42 (.L [.var 0, .var 5, .var 4]))]) (.nil), .setN 6 (.lst .nil), .frzS 6 (.whl (.isnn (.var 0)) b44_0), .ret (.var 6)]
/-- _law_pairs(_law_word, _law_thing) -/
def b45_0 : E := .tup (.L [.bin .add (.var 2) (.cst (.int 1)), .var 2])
def b45_1 : E := .tup (.L [.var 4, .var 3])
def b45_2 : E := .tup (.L [.bin .add (.var 3) (.cst (.int 1)), .bin .sub (.var 4) (.cst (.int 1))])
def b45_3 : E := .tup (.L [.var 3, .var 4])
def b45 : S := .L [.ite (.cmp .eq (.var 0) (.cst (.str "over"))) (.L [.ret (.frz (.comp b45_0 (.nm 2) .seq (.L [.var 1]) .nil [2]))]) (.nil), .ite (.cmp .eq (.var 0) (.cst (.str "meeting"))) (.L [.ret (.frz (.comp b45_1 (.tp (.L [.nm 3, .nm 4])) .seq (.L [.var 1]) .nil [3, 4]))]) (.nil), .ite (.cmp .eq (.var 0) (.cst (.str "around"))) (.L [.ret (.frz (.comp b45_2 (.tp (.L [.nm 3, .nm 4])) .seq (.L [.var 1]) .nil [3, 4]))]) (.nil), .ret (.frz (.comp b45_3 (.tp (.L [.nm 3, .nm 4])) .seq (.L [.var 1]) .nil [3, 4]))]
/-- _law_items(_law_script, _law_keys) -/
def b46_0 : S := .L [.setN 6 (.call 34 (.L [.call 33 (.L [.var 0, .bin .add (.var 5) (.cst (.int 1))]), .cst (.int 7)])), .setN 7 (.call 37 (.L [.var 6, .var 1, .idx (.var 2) (.cst (.int 11))])), .ite (.and (.cmp .eq (.bin .mod (.idx (.var 6) (.cst (.int 6))) (.cst (.int 4))) (.cst (.int 1))) (.cmp .ne (.var 4) (.frz (.lst .nil)))) (.L [.setN 7 (.idx (.idx (.var 4) (.neg (.cst (.int 1)))) (.cst (.int 1)))]) (.nil), .exp (.bm (.var 4) .append (.L [.tup (.L [.idx (.var 3) (.var 5), .var 7])]))]
def b46 : S := .L [.setN 2 (.call 34 (.L [.call 33 (.L [.var 0, .cst (.int 0)]), .cst (.int 13)])), .setN 3 (.call 35 (.L [.var 2])), .setN 4 (.lst .nil), .frzS 4 (.for_ (.nm 5) .rng (.L [.bin .mod (.idx (.var 2) (.cst (.int 10))) (.idx (.frz (.lst (.L [.cst (.int 9), .cst (.int 6), .cst (.int 4)]))) (.bin .sub (.var 1) (.cst (.int 1))))]) b46_0), .ret (.var 4)]
/-- _law_next_number(_law_numbers_here) -/
def b47 : S := .L [.setI (.var 0) (.cst (.int 0)) (.bin .add (.bin .add (.idx (.var 0) (.cst (.int 0))) (.cst (.int 1))) (.bin .mod (.idx (.var 0) (.cst (.int 0))) (.idx (.var 0) (.cst (.int 1))))), .ret (.idx (.var 0) (.cst (.int 0)))]
/-- _law_high(_law_shape) -/
def b48 : S := .L [.ite (.isn (.var 0)) (.L [.ret (.cst (.int 0))]) (.nil), .ret (.idx (.var 0) (.cst (.int 3)))]
/-- _law_half(_law_many, _law_numbers_here) -/
def b49 : S := .L [.ret (.bin .fdiv (.bin .sub (.var 0) (.bin .mod (.idx (.var 1) (.cst (.int 2))) (.cst (.int 2)))) (.cst (.int 2)))]
/-- _law_made_layer(_law_items_here, _law_level, _law_last, _law_numbers_here) -/
def b50_0 : E := .tup (.L [.call 41 (.L [.var 6, .var 1]), .var 6])
def b50_1 : E := .idx (.var 5) (.cst (.int 1))
def b50_2 : E := .idx (.call 41 (.L [.var 6, .var 1])) (.cst (.int 1))
def b50 : S := .L [.ite (.cmp .eq (.var 0) (.frz (.lst .nil))) (.L [.ret (.cst .non)]) (.nil), .frzS 4 (.setLc 4 (.comp b50_1 (.nm 5) .seq (.L [.frz (.bi .sorted (.L [.frz (.comp b50_0 (.nm 6) .seq (.L [.var 0]) .nil [6])]))]) .nil [5])), .setN 7 (.call 49 (.L [.bi .len (.L [.var 4]), .var 3])), .setN 8 (.call 47 (.L [.var 3])), .setN 9 (.call 50 (.L [.frz (.slc (.var 4) .nil (.cons (.var 7) .nil)), .var 1, .var 2, .var 3])), .setN 10 (.call 50 (.L [.frz (.slc (.var 4) (.cons (.bin .add (.var 7) (.cst (.int 1))) .nil) .nil), .var 1, .var 2, .var 3])), .setN 11 (.tup (.L [.var 8, .call 41 (.L [.idx (.var 4) (.var 7), .var 1]), .bi .len (.L [.var 4]), .bin .add (.cst (.int 1)) (.bi .max2 (.L [.call 48 (.L [.var 9]), .call 48 (.L [.var 10])]))])), .ite (.cmp .eq (.var 1) (.var 2)) (.L [.frzS 12 (.setLc 12 (.comp b50_2 (.nm 6) .seq (.L [.var 4]) .nil [6])), .ret (.bin .add (.var 11) (.tup (.L [.bi .min1 (.L [.var 12]), .bi .max1 (.L [.var 12]), .var 9, .var 10])))]) (.nil), .ret (.bin .add (.var 11) (.tup (.L [.var 9, .var 10, .call 50 (.L [.var 4, .bin .add (.var 1) (.cst (.int 1)), .var 2, .var 3])])))]
/-- _law_made_tree(_law_entries, _law_numbers_here) -/
def b51 : S := .L [.ite (.cmp .eq (.var 0) (.frz (.lst .nil))) (.L [.ret (.cst .non)]) (.nil), .setN 2 (.call 49 (.L [.bi .len (.L [.var 0]), .var 1])), .setN 3 (.call 47 (.L [.var 1])), .par 4 5 (.call 51 (.L [.frz (.slc (.var 0) .nil (.cons (.var 2) .nil)), .var 1])) (.call 51 (.L [.frz (.slc (.var 0) (.cons (.bin .add (.var 2) (.cst (.int 1))) .nil) .nil), .var 1])), .ret (.tup (.L [.var 3, .idx (.var 0) (.var 2), .bi .len (.L [.var 0]), .bin .add (.cst (.int 1)) (.bi .max2 (.L [.call 48 (.L [.var 4]), .call 48 (.L [.var 5])])), .var 4, .var 5]))]
/-- _law_made_sides(_law_items_here, _law_keys, _law_numbers_here) -/
def b52_0 : E := .call 41 (.L [.var 7, .bin .add (.bin .mul (.cst (.int 2)) (.var 4)) (.cst (.int 1))])
def b52_1 : E := .call 41 (.L [.var 7, .bin .add (.bin .mul (.cst (.int 2)) (.var 4)) (.cst (.int 2))])
def b52_2 : S := .L [.setN 5 (.frz (.bi .sorted (.L [.frz (.comp b52_0 (.nm 7) .seq (.L [.var 0]) .nil [7])]))), .setN 6 (.frz (.bi .sorted (.L [.frz (.comp b52_1 (.nm 7) .seq (.L [.var 0]) .nil [7])]))), .exp (.bm (.var 3) .append (.L [.tup (.L [.call 51 (.L [.var 5, .var 2]), .call 51 (.L [.var 6, .var 2])])]))]
def b52 : S := .L [.setN 3 (.lst .nil), .frzS 3 (.for_ (.nm 4) .rng (.L [.var 1]) b52_2), .ret (.bi .tuple (.L [.var 3]))]
/-- _law_bent(_law_shape, _law_way, _law_last) -/
def b53 : S := .L [.setP (.tp (.L [.nm 3, .nm 4, .nm 5, .nm 6])) (.slc (.var 0) .nil (.cons (.cst (.int 4)) .nil)), .ite (.cmp .eq (.var 1) (.cst (.int 0))) (.L [.ret (.bin .add (.tup (.L [.cst (.int 0)])) (.slc (.var 0) (.cons (.cst (.int 1)) .nil) .nil))]) (.nil), .ite (.cmp .eq (.var 1) (.cst (.int 1))) (.L [.ret (.bin .add (.tup (.L [.var 3, .tup (.L [.idx (.var 4) (.cst (.int 0)), .bin .add (.idx (.var 4) (.cst (.int 1))) (.cst (.int 1)), .idx (.var 4) (.cst (.int 2))]), .var 5, .var 6])) (.slc (.var 0) (.cons (.cst (.int 4)) .nil) .nil))]) (.nil), .ite (.cmp .eq (.var 1) (.cst (.int 2))) (.L [.ret (.bin .add (.tup (.L [.var 3, .var 4, .bin .add (.var 5) (.cst (.int 1)), .var 6])) (.slc (.var 0) (.cons (.cst (.int 4)) .nil) .nil))]) (.nil), .ite (.cmp .eq (.var 1) (.cst (.int 3))) (.L [.ret (.bin .add (.tup (.L [.var 3, .var 4, .var 5, .bin .add (.var 6) (.cst (.int 1))])) (.slc (.var 0) (.cons (.cst (.int 4)) .nil) .nil))]) (.nil), .ite (.cmp .eq (.var 1) (.cst (.int 4))) (.L [.ret (.frz (.bi .list (.L [.var 0])))]) (.nil), .ite (.and (.cmp .eq (.var 1) (.cst (.int 5))) (.cmp .eq (.var 2) (.cst (.int 1)))) (.L [.ret (.bin .add (.bin .add (.slc (.var 0) .nil (.cons (.cst (.int 4)) .nil)) (.tup (.L [.bin .sub (.idx (.var 0) (.cst (.int 4))) (.cst (.int 1))]))) (.slc (.var 0) (.cons (.cst (.int 5)) .nil) .nil))]) (.nil), .ite (.cmp .eq (.var 1) (.cst (.int 5))) (.L [.ret (.bin .add (.slc (.var 0) .nil (.cons (.cst (.int 6)) .nil)) (.tup (.L [.cst .non])))]) (.nil), .ret (.bin .add (.slc (.var 0) .nil (.cons (.cst (.int 4)) .nil)) (.tup (.L [.slc (.var 0) (.cons (.cst (.int 4)) .nil) .nil])))]
/-- _law_changed(_law_word, _law_keys, _law_items_here, _law_thing, _law_answers, _law_shape, _law_looked, _law_x) -/
def b54 : S := .L [.setN 8 (.tup (.L [.var 0, .var 1, .var 2, .var 3, .var 4])), .setN 9 (.bin .mod (.var 7) (.cst (.int 10))), .ite (.and (.cmp .lt (.var 9) (.cst (.int 7))) (.isnn (.var 5))) (.L [.ret (.tup (.L [.var 8, .tup (.L [.call 53 (.L [.var 5, .var 9, .bin .sub (.bin .mul (.cst (.int 2)) (.var 1)) (.cst (.int 1))]), .var 6])]))]) (.nil), .ite (.cmp .eq (.var 9) (.cst (.int 7))) (.L [.ret (.tup (.L [.tup (.L [.var 0, .var 1, .var 2, .var 3, .frz (.bin .add (.var 4) (.frz (.lst (.L [.tup (.L [.cst (.str "zz"), .ite (.cmp .ne (.var 2) (.frz (.lst .nil))) (.idx (.idx (.var 2) (.cst (.int 0))) (.cst (.int 1))) (.var 3)])]))))]), .tup (.L [.var 5, .var 6])]))]) (.nil), .ite (.and (.cmp .eq (.var 9) (.cst (.int 8))) (.cmp .ne (.var 4) (.frz (.lst .nil)))) (.L [.ret (.tup (.L [.tup (.L [.var 0, .var 1, .var 2, .var 3, .frz (.slc (.var 4) (.cons (.cst (.int 1)) .nil) .nil)]), .tup (.L [.var 5, .var 6])]))]) (.nil), .ite (.cmp .ne (.var 6) (.frz (.lst .nil))) (.L [.ret (.tup (.L [.var 8, .tup (.L [.var 5, .frz (.slc (.var 6) .nil (.cons (.neg (.cst (.int 1))) .nil))])]))]) (.nil), .ret (.tup (.L [.var 8, .tup (.L [.var 5, .frz (.lst (.L [.cst (.int 1)]))])]))]
/-- law(_law_script) -/
def b55_0 : E := .idx (.var 17) (.cst (.int 0))
def b55_1 : E := .tup (.L [.var 18, .bi .min2 (.L [.bin .pow (.cst (.int 10)) (.cst (.int 12)), .bin .add (.var 19) (.bin .mul (.cst (.int 4)) (.bin .sub (.var 19) (.var 18)))])])
def b55_2 : S := .L [.setN 10 (.idx (.frz (.lst (.L [.cst (.str "over"), .cst (.str "meeting"), .cst (.str "within"), .cst (.str "around")]))) (.var 9)), .setN 11 (.var 8), .ite (.cmp .eq (.var 10) (.cst (.str "over"))) (.L [.setN 11 (.bi .tuple (.L [.frz (.comp b55_0 (.nm 17) .seq (.L [.var 8]) .nil [17])]))]) (.nil), .ite (.cmp .eq (.var 10) (.cst (.str "within"))) (.L [.setN 11 (.bi .tuple (.L [.frz (.comp b55_1 (.tp (.L [.nm 18, .nm 19])) .seq (.L [.var 8]) .nil [18, 19])]))]) (.nil), .setN 12 (.call 40 (.L [.var 4, .var 10, .var 11])), .setN 13 (.idx (.frz (.lst (.L [.cst (.str "across"), .cst (.str "inside")]))) (.bi .int (.L [.cmp .eq (.var 10) (.cst (.str "within"))]))), .setN 14 (.call 44 (.L [.var 6, .cst (.int 1), .bin .sub (.bin .mul (.cst (.int 2)) (.var 2)) (.cst (.int 1)), .call 45 (.L [.var 10, .var 11]), .var 13])), .ite (.cmp .ne (.call 31 (.L [.tup (.L [.var 10, .var 2, .frz (.bi .list (.L [.var 3])), .var 11, .var 12]), .tup (.L [.var 6, .var 14])])) (.cst (.bl true))) (.L [.ret (.cst (.bl false))]) (.nil), .setP (.tp (.L [.nm 15, .nm 16])) (.call 54 (.L [.var 10, .var 2, .frz (.bi .list (.L [.var 3])), .var 11, .var 12, .var 6, .var 14, .idx (.var 1) (.bin .add (.cst (.int 22)) (.var 9))])), .ite (.cmp .ne (.call 31 (.L [.var 15, .var 16])) (.cst (.bl false))) (.L [.ret (.cst (.bl false))]) (.nil)]
def b55 : S := .L [.setN 1 (.call 34 (.L [.call 33 (.L [.var 0, .cst (.int 0)]), .cst (.int 26)])), .setN 2 (.bin .add (.cst (.int 1)) (.bin .mod (.idx (.var 1) (.cst (.int 12))) (.cst (.int 3)))), .setN 3 (.call 46 (.L [.var 0, .var 2])), .setN 4 (.bi .dict (.L [.var 3])), .setN 5 (.lst (.L [.bin .mod (.idx (.var 1) (.cst (.int 13))) (.cst (.int 10)), .bin .add (.cst (.int 1)) (.bin .mod (.idx (.var 1) (.cst (.int 14))) (.cst (.int 3))), .idx (.var 1) (.cst (.int 15))])), .setN 6 (.call 50 (.L [.var 3, .cst (.int 1), .bin .sub (.bin .mul (.cst (.int 2)) (.var 2)) (.cst (.int 1)), .var 5])), .frzS 5 (.setN 7 (.call 52 (.L [.var 3, .var 2, .var 5]))), .ite (.or (.cmp .ne (.call 32 (.L [.var 2, .frz (.bi .list (.L [.var 3])), .var 7])) (.cst (.bl true))) (.cmp .ne (.call 32 (.L [.var 2, .frz (.bi .list (.L [.var 3])), .slc (.var 7) .nil (.cons (.neg (.cst (.int 1))) .nil)])) (.cst (.bl false)))) (.L [.ret (.cst (.bl false))]) (.nil), .setN 8 (.call 37 (.L [.frz (.slc (.var 1) (.cons (.cst (.int 16)) .nil) .nil), .var 2, .idx (.var 1) (.cst (.int 11))])), .for_ (.nm 9) .rng (.L [.cst (.int 4)]) b55_2, .ret (.cst (.bl true))]
def fds : List Fd := ([⟨1, 1, [], b0⟩, ⟨1, 1, [], b1⟩, ⟨2, 2, [], b2⟩, ⟨2, 2, [], b3⟩, ⟨2, 3, [], b4⟩, ⟨2, 3, [], b5⟩, ⟨2, 4, [], b6⟩, ⟨2, 4, [], b7⟩, ⟨2, 4, [], b8⟩, ⟨1, 1, [], b9⟩, ⟨1, 1, [], b10⟩, ⟨1, 2, [], b11⟩, ⟨2, 2, [], b12⟩, ⟨2, 5, [], b13⟩, ⟨3, 3, [], b14⟩, ⟨3, 3, [], b15⟩] : List Fd) ++ ([⟨3, 6, [], b16⟩, ⟨2, 5, [], b17⟩, ⟨2, 6, [], b18⟩, ⟨1, 1, [], b19⟩, ⟨1, 1, [], b20⟩, ⟨4, 8, [], b21⟩, ⟨3, 5, [], b22⟩, ⟨3, 4, [], b23⟩, ⟨2, 4, [], b24⟩, ⟨5, 12, [], b25⟩, ⟨3, 4, [], b26⟩, ⟨3, 4, [], b27⟩, ⟨5, 5, [], b28⟩, ⟨5, 10, [], b29⟩, ⟨1, 6, [], b30⟩, ⟨2, 11, [], b31⟩] : List Fd) ++ ([⟨3, 9, [], b32⟩, ⟨2, 4, [], b33⟩, ⟨2, 6, [], b34⟩, ⟨1, 11, [], b35⟩, ⟨3, 5, [], b36⟩, ⟨3, 4, [], b37⟩, ⟨1, 3, [], b38⟩, ⟨3, 6, [], b39⟩, ⟨3, 5, [], b40⟩, ⟨2, 6, [], b41⟩, ⟨3, 12, [], b42⟩, ⟨4, 4, [], b43⟩, ⟨5, 9, [], b44⟩, ⟨2, 5, [], b45⟩, ⟨2, 8, [], b46⟩, ⟨1, 1, [], b47⟩] : List Fd) ++ ([⟨1, 1, [], b48⟩, ⟨2, 2, [], b49⟩, ⟨4, 13, [], b50⟩, ⟨2, 6, [], b51⟩, ⟨3, 8, [], b52⟩, ⟨3, 7, [], b53⟩, ⟨8, 10, [], b54⟩, ⟨1, 20, [], b55⟩] : List Fd)
def glbs : List VM.W := [.tup ((["over", "meeting", "within", "around"] : List Str).map VM.W.str), .str "abcdefghijklmnopqrstuvwxyz", .int 3]
def T : Tab := ⟨fun f => fds[f]?, fun _ _ => none, fun _ => none, fun g => glbs[g]?, fun _ _ => false, fun _ _ => false⟩
def lawi : Nat := 55
def depth : Nat := 60
theorem glb0 : T.glb 0 = some (.tup ((["over", "meeting", "within", "around"] : List Str).map VM.W.str)) := rfl
theorem glb1 : T.glb 1 = some (.str "abcdefghijklmnopqrstuvwxyz") := rfl
theorem glb2 : T.glb 2 = some (.int 3) := rfl
theorem fn0 : T.fn 0 = some ⟨1, 1, [], b0⟩ := rfl
theorem fn1 : T.fn 1 = some ⟨1, 1, [], b1⟩ := rfl
theorem fn2 : T.fn 2 = some ⟨2, 2, [], b2⟩ := rfl
theorem fn3 : T.fn 3 = some ⟨2, 2, [], b3⟩ := rfl
theorem fn4 : T.fn 4 = some ⟨2, 3, [], b4⟩ := rfl
theorem fn5 : T.fn 5 = some ⟨2, 3, [], b5⟩ := rfl
theorem fn6 : T.fn 6 = some ⟨2, 4, [], b6⟩ := rfl
theorem fn7 : T.fn 7 = some ⟨2, 4, [], b7⟩ := rfl
theorem fn8 : T.fn 8 = some ⟨2, 4, [], b8⟩ := rfl
theorem fn9 : T.fn 9 = some ⟨1, 1, [], b9⟩ := rfl
theorem fn10 : T.fn 10 = some ⟨1, 1, [], b10⟩ := rfl
theorem fn11 : T.fn 11 = some ⟨1, 2, [], b11⟩ := rfl
theorem fn12 : T.fn 12 = some ⟨2, 2, [], b12⟩ := rfl
theorem fn13 : T.fn 13 = some ⟨2, 5, [], b13⟩ := rfl
theorem fn14 : T.fn 14 = some ⟨3, 3, [], b14⟩ := rfl
theorem fn15 : T.fn 15 = some ⟨3, 3, [], b15⟩ := rfl
theorem fn16 : T.fn 16 = some ⟨3, 6, [], b16⟩ := rfl
theorem fn17 : T.fn 17 = some ⟨2, 5, [], b17⟩ := rfl
theorem fn18 : T.fn 18 = some ⟨2, 6, [], b18⟩ := rfl
theorem fn19 : T.fn 19 = some ⟨1, 1, [], b19⟩ := rfl
theorem fn20 : T.fn 20 = some ⟨1, 1, [], b20⟩ := rfl
theorem fn21 : T.fn 21 = some ⟨4, 8, [], b21⟩ := rfl
theorem fn22 : T.fn 22 = some ⟨3, 5, [], b22⟩ := rfl
theorem fn23 : T.fn 23 = some ⟨3, 4, [], b23⟩ := rfl
theorem fn24 : T.fn 24 = some ⟨2, 4, [], b24⟩ := rfl
theorem fn25 : T.fn 25 = some ⟨5, 12, [], b25⟩ := rfl
theorem fn26 : T.fn 26 = some ⟨3, 4, [], b26⟩ := rfl
theorem fn27 : T.fn 27 = some ⟨3, 4, [], b27⟩ := rfl
theorem fn28 : T.fn 28 = some ⟨5, 5, [], b28⟩ := rfl
theorem fn29 : T.fn 29 = some ⟨5, 10, [], b29⟩ := rfl
theorem fn30 : T.fn 30 = some ⟨1, 6, [], b30⟩ := rfl
theorem fn31 : T.fn 31 = some ⟨2, 11, [], b31⟩ := rfl
theorem fn32 : T.fn 32 = some ⟨3, 9, [], b32⟩ := rfl
theorem fn33 : T.fn 33 = some ⟨2, 4, [], b33⟩ := rfl
theorem fn34 : T.fn 34 = some ⟨2, 6, [], b34⟩ := rfl
theorem fn35 : T.fn 35 = some ⟨1, 11, [], b35⟩ := rfl
theorem fn36 : T.fn 36 = some ⟨3, 5, [], b36⟩ := rfl
theorem fn37 : T.fn 37 = some ⟨3, 4, [], b37⟩ := rfl
theorem fn38 : T.fn 38 = some ⟨1, 3, [], b38⟩ := rfl
theorem fn39 : T.fn 39 = some ⟨3, 6, [], b39⟩ := rfl
theorem fn40 : T.fn 40 = some ⟨3, 5, [], b40⟩ := rfl
theorem fn41 : T.fn 41 = some ⟨2, 6, [], b41⟩ := rfl
theorem fn42 : T.fn 42 = some ⟨3, 12, [], b42⟩ := rfl
theorem fn43 : T.fn 43 = some ⟨4, 4, [], b43⟩ := rfl
theorem fn44 : T.fn 44 = some ⟨5, 9, [], b44⟩ := rfl
theorem fn45 : T.fn 45 = some ⟨2, 5, [], b45⟩ := rfl
theorem fn46 : T.fn 46 = some ⟨2, 8, [], b46⟩ := rfl
theorem fn47 : T.fn 47 = some ⟨1, 1, [], b47⟩ := rfl
theorem fn48 : T.fn 48 = some ⟨1, 1, [], b48⟩ := rfl
theorem fn49 : T.fn 49 = some ⟨2, 2, [], b49⟩ := rfl
theorem fn50 : T.fn 50 = some ⟨4, 13, [], b50⟩ := rfl
theorem fn51 : T.fn 51 = some ⟨2, 6, [], b51⟩ := rfl
theorem fn52 : T.fn 52 = some ⟨3, 8, [], b52⟩ := rfl
theorem fn53 : T.fn 53 = some ⟨3, 7, [], b53⟩ := rfl
theorem fn54 : T.fn 54 = some ⟨8, 10, [], b54⟩ := rfl
theorem fn55 : T.fn 55 = some ⟨1, 20, [], b55⟩ := rfl
def cellV (ns : List Int) (k : Int) : Int := match ns[k.toNat]? with
  | some v => v
  | none => (ns.take 3).foldl (fun s c => (s * 69621 + c) % 2147483647) (48271 * (k * k + 7 * k + 11) % 2147483647)
theorem law_cell {n : Nat} {ns : List Int} {k : Int} {h : VH} (hk : 0 ≤ k ∧ k < 2 ^ 20) :
    cal T (n + 1) 33 [.lit (ns.map VM.W.int), .int k] h = .ok (.int (cellV ns k)) h := by
  rw [← Tr_eq, cal_run fn33 rfl rfl]
  simp -implicitDefEqProofs [b33]
  by_cases hlt : k < (ns.length : Int)
  · have hi : k.toNat < ns.length := by omega
    simp [hlt, atI_pos hk.1, hi, cellV]
  · have e1 : binW .mul (.int k) (.int k) h = .ok (.int (k * k)) h := mul_l (by omega)
    simp [hlt, mul_l, mod_ii, e1, cut_take]
    rw [forB_of rfl src_fz]
    refine Tr.imp (for_tr (fun i s h' => ∃ x o, s = [some (.lit (ns.map VM.W.int)), some (.int k), some (.int x), o] ∧ x = ((ns.take 3).take i).foldl (fun s c => (s * 69621 + c) % 2147483647) (48271 * (k * k + 7 * k + 11) % 2147483647) ∧ h' = h) ⟨_, _, rfl, by simp, rfl⟩ (fun _ _ _ _ => trivial) ?_ ?_
      (Q := fun fl h' => ∃ x o, fl = .nx [some (.lit (ns.map VM.W.int)), some (.int k), some (.int x), o] ∧ x = cellV ns k ∧ h' = h)) ?_
    · rintro i w s h' e ⟨x, o, rfl, hx, rfl⟩
      rw [← List.map_take] at e
      obtain ⟨c, e1, rfl⟩ := map_get e
      simp -implicitDefEqProofs [b33_0, mul_r, mod_ii]
      rw [List.take_add_one, List.foldl_append, e1, ← hx]
      rfl
    · rintro s h' ⟨x, o, rfl, hx, rfl⟩
      refine ⟨x, o, rfl, ?_, rfl⟩
      rw [hx, ← List.map_take, List.length_map, List.take_length]
      unfold cellV
      rw [List.getElem?_eq_none (by omega)]
    · rintro fl h' ⟨x, o, rfl, rfl, rfl⟩
      simp
def numS (c : Int) : Nat → Int × Int
  | 0 => ((c % 1999999973 + 31) * 765432101 % 1999999973, if c < 0 ∨ 10 ^ 18 ≤ c then (if c < 0 then -c else c) else 0)
  | i + 1 => (((numS c i).1 * ((numS c i).1 % 65521 + 40487) + 7 * (i : Int) + 5) % 1999999973, (numS c i).2 / 1000000)
def numI (c : Int) (i : Nat) : Int := if 0 < (numS c i).2 then (numS c i).2 % 1000000 else (numS c (i + 1)).1
def numsV (c : Int) (m : Nat) : List Int := (List.range m).map (numI c)
@[simp] theorem numsV_len {c : Int} {m : Nat} : (numsV c m).length = m := by simp [numsV]
theorem numS_lt (c : Int) : ∀ i, 0 ≤ (numS c i).1 ∧ (numS c i).1 < 1999999973
  | 0 => ⟨Int.emod_nonneg _ (by decide), Int.emod_lt_of_pos _ (by decide)⟩
  | i + 1 => ⟨Int.emod_nonneg _ (by decide), Int.emod_lt_of_pos _ (by decide)⟩
theorem numI_lt (c : Int) (i : Nat) : 0 ≤ numI c i ∧ numI c i < 1999999973 := by
  unfold numI
  split
  · omega
  · exact numS_lt c (i + 1)
theorem numsV_at {c : Int} {m i : Nat} (hi : i < m) : (numsV c m)[i]? = some (numI c i) := by
  unfold numsV
  rw [List.getElem?_map, List.getElem?_range hi]
  rfl
theorem numsV_W {c : Int} {m i : Nat} (hi : i < m) : ((numsV c m).map VM.W.int)[i]? = some (.int (numI c i)) := by
  rw [List.getElem?_map, numsV_at hi]
  rfl
theorem law_numbers {n : Nat} {c m : Int} {h : VH} (hm : 0 ≤ m ∧ m < 2 ^ 20) :
    cal T (n + 1) 34 [.int c, .int m] h = .ok (.fz ((numsV c m.toNat).map VM.W.int)) h := by
  have pw : binW .pow (.int 10) (.int 18) (h.alloc (.lst [])) = .ok (.int (10 ^ 18)) (h.alloc (.lst [])) := rfl
  have loop : ∀ d : Int, d = (numS c 0).2 → Tr (forB Ik.rng (fun x => (R.of x ([some (VM.W.int c), some (.int m), some (.ref h.n), some (.int ((c % 1999999973 + 31) * 765432101 % 1999999973)), some (.int d), none] : VS)[1]?.join).bind fun w h1 => R.ok [w] h1)
      (fun w s2 h2 => exS T (cal T n) (cal T (n - 1)) b34_0 (List.set s2 5 (some w)) h2) [some (.int c), some (.int m), some (.ref h.n), some (.int ((c % 1999999973 + 31) * 765432101 % 1999999973)), some (.int d), none] (h.alloc (.lst [])))
      fun fl h' => ∃ x d o, fl = .nx [some (.int c), some (.int m), some (.ref h.n), x, d, o] ∧ h' = h.alloc (.lst ((numsV c m.toNat).map VM.W.int)) := by
    intro d hd
    refine for_trB rfl (src_rng (by omega)) ?_
    refine for_tr (fun i s h' => i ≤ m.toNat ∧ ∃ o, s = [some (.int c), some (.int m), some (.ref h.n), some (.int (numS c i).1), some (.int (numS c i).2), o] ∧ h' = h.alloc (.lst ((numsV c i).map VM.W.int))) ⟨Nat.zero_le _, none, by rw [hd]; rfl, by simp [numsV]⟩ (fun _ _ _ _ => trivial) ?_ ?_
    · rintro i w s h' e ⟨_, o, rfl, rfl⟩
      obtain ⟨k, e1, rfl⟩ := map_get e
      obtain ⟨q1, q2⟩ := List.getElem?_eq_some_iff.mp e1
      simp only [List.length_range] at q1
      simp only [List.getElem_range] at q2
      subst q2
      obtain ⟨s1, s2⟩ := numS_lt c i
      have mul1 : ∀ y hh, binW .mul (.int (numS c i).1) (.int y) hh = .ok (.int ((numS c i).1 * y)) hh := fun y hh => mul_l (by omega)
      have hl : ((numsV c i).map VM.W.int).length < 16777216 := by simp; omega
      simp -implicitDefEqProofs [b34_0, mul1, mul_l, mod_ii, fdiv_ii, bmK_ref (m := .append) (.inl rfl) alloc_at, bm_app alloc_at hl]
      refine ⟨.int (numI c i), ?_, by omega, ⟨rfl, rfl⟩, by simp [numsV, List.range_succ]⟩
      unfold numI
      by_cases hd : 0 < (numS c i).2
      · simp only [hd, if_true]; rfl
      · simp only [hd, if_false]; rfl
    · rintro s h' ⟨_, o, rfl, rfl⟩
      refine ⟨_, _, _, rfl, by simp⟩
  rw [← Tr_eq, cal_run fn34 rfl rfl]
  simp -implicitDefEqProofs [b34, mul_r, mul_l, mod_ii, pw]
  by_cases h1 : c < 0
  · simp [h1]
    refine (loop (-c) (by simp [numS, h1])).imp ?_
    rintro fl h' ⟨x, d, o, rfl, rfl⟩
    simp
  · by_cases h2 : (1000000000000000000 : Int) ≤ c
    · simp [h1, h2]
      refine (loop c (by simp [numS, h1, h2])).imp ?_
      rintro fl h' ⟨x, d, o, rfl, rfl⟩
      simp
    · simp [h1, h2]
      refine (loop 0 (by simp [numS, h1, h2])).imp ?_
      rintro fl h' ⟨x, d, o, rfl, rfl⟩
      simp

theorem at_mapI {zs : List Int} {i : Int} (hi : 0 ≤ i ∧ i < zs.length) : L2.atI (zs.map VM.W.int) i = some (.int (zs.getD i.toNat 0)) := by
  rw [atI_pos hi.1, List.getElem?_map, List.getElem?_eq_getElem (by omega), List.getD_eq_getElem?_getD, List.getElem?_eq_getElem (by omega)]
  rfl
def stemL (g : Nat → Int) : List Nat := (List.range (g 0 % 7).toNat).map fun k => ltr (g k / 40 % 26)
def atN (g : Nat → Int) : Int := g 1 % ((stemL g).length + 1)
def oneL (g : Nat → Int) : Nat := ltr (g 2 / 40 % 10)
def othL (g : Nat → Int) : Nat := ltr ((g 2 / 40 + 1 + g 3 % 9) % 10)
def markL (g : Nat → Int) (k : Nat) : Nat := ltr ((k + g 4) % 10)
def tailL (x : Int) : List Nat := (List.range (x % 8).toNat).map fun (j : Nat) => ltr (x / 8 / ((j : Int) + 1) % 26)
def nameL (g : Nat → Int) (k : Nat) : List Nat :=
  if g 5 % 3 = 2 then [markL g k] ++ tailL (g k)
  else if g 5 % 3 = 1 then (if 7 < k then List.replicate (k - 7) (othL g) else List.replicate (k + 1) (oneL g))
  else (stemL g).take (atN g).toNat ++ [markL g k] ++ (stemL g).drop (atN g).toNat
theorem stemL_len (g : Nat → Int) : (stemL g).length ≤ 6 := by
  unfold stemL
  rw [List.length_map, List.length_range]
  omega
theorem tailL_len (x : Int) : (tailL x).length ≤ 7 := by
  unfold tailL
  rw [List.length_map, List.length_range]
  omega
theorem law_names {n : Nat} {zs : List Int} {g : Nat → Int} {h : VH} (hg : ∀ i, i < 10 → zs[i]? = some (g i)) :
    cal T (n + 1) 35 [.fz (zs.map VM.W.int)] h = .ok (.fz ((List.range 10).map fun k => .str (S8 (nameL g k)))) h := by
  rw [← Tr_eq, cal_run fn35 rfl rfl]
  have ab : (Str.ofString "abcdefghijklmnopqrstuvwxyz") = abc := rfl
  have a26 : ∀ x : Int, L2.atI abc.cps.toList (x % 26) = some (ltr (x % 26)) := fun x => abc_at (by omega)
  have a10 : ∀ x : Int, L2.atI abc.cps.toList (x % 10) = some (ltr (x % 10)) := fun x => abc_at (by omega)
  have hsl := stemL_len g
  have ag : ∀ i : Int, 0 ≤ i ∧ i < 10 → L2.atI (zs.map VM.W.int) i = some (.int (g i.toNat)) := fun i hi => by
    rw [atI_pos hi.1, List.getElem?_map, hg _ (by omega)]
    rfl
  simp -implicitDefEqProofs [b35, ab]
  rw [comp_enc (xs := List.range (g 0 % 7).toNat) (enc := fun k : Nat => VM.W.int k) (fun k => VM.W.str (S8 [ltr (g k / 40 % 26)])) (ws := [.int (g 0 % 7)]) (h1 := h) (by simp [ag, mod_ii]) (src_rng (by omega)) (by simp; omega) (fun k hk => by
    have hk := List.mem_range.mp hk
    have : k < 7 := by omega
    simp -implicitDefEqProofs [b35_0, wipeV, ag, mod_ii, fdiv_ii, show k < 10 by omega, show (k : Int) < 10 by omega, a26])]
  have es : ((List.range (g 0 % 7).toNat).map fun k => VM.W.str (S8 [ltr (g k / 40 % 26)])) = (stemL g).map fun c => VM.W.str (S8 [c]) := by
    unfold stemL; rw [List.map_map]; rfl
  rw [es]
  have hat : 0 < ((stemL g).length : Int) + 1 := by omega
  simp [nrs_map fun x _ => nr_str, bm_join1 (show (stemL g).length ≤ 1000 by omega), ag, mod_ii, fdiv_ii, hat, a10]
  refine Tr.imp (Q := fun fl h' => ∃ o1 o2 o3 o4, fl = Fl.nx [some (.fz (zs.map VM.W.int)), some (.str abc), some (.str (S8 (stemL g))), o1, some (.int (atN g)), some (.str (S8 [oneL g])), some (.str (S8 [othL g])), some (.ref h.n), o2, o3, o4] ∧ h' = h.alloc (.lst ((List.range 10).map fun k => .str (S8 (nameL g k))))) (for_trB rfl (src_rng (by omega)) (for_tr (fun i s h' => i ≤ 10 ∧ ∃ o1 o2 o3 o4, s = [some (.fz (zs.map VM.W.int)), some (.str abc), some (.str (S8 (stemL g))), o1, some (.int (atN g)), some (.str (S8 [oneL g])), some (.str (S8 [othL g])), some (.ref h.n), o2, o3, o4] ∧ h' = h.alloc (.lst ((List.range i).map fun k => .str (S8 (nameL g k))))) ⟨by omega, _, _, _, _, rfl, rfl⟩ (fun _ _ _ _ => trivial) ?_ ?_)) ?_
  · rintro i w s h' e ⟨_, o1, o2, o3, o4, rfl, rfl⟩
    obtain ⟨k, e1, rfl⟩ := map_get e
    obtain ⟨q1, q2⟩ := List.getElem?_eq_some_iff.mp e1
    have q1 : i < 10 := by simpa using q1
    simp only [List.getElem_range] at q2
    subst q2
    have hlen : ((List.range i).map fun k => VM.W.str (S8 (nameL g k))).length < 16777216 := by simp; omega
    have hn0 : 0 ≤ atN g := Int.emod_nonneg _ (by omega)
    have c1 : ∀ h, binW .add (.str (S8 ((stemL g).take (atN g).toNat))) (.str (S8 [markL g i])) h = .ok (.str (S8 ((stemL g).take (atN g).toNat ++ [markL g i]))) h := fun h => cat_S8 (by simp; omega)
    have c2 : ∀ h, binW .add (.str (S8 ((stemL g).take (atN g).toNat ++ [markL g i]))) (.str (S8 ((stemL g).drop (atN g).toNat))) h = .ok (.str (S8 ((stemL g).take (atN g).toNat ++ [markL g i] ++ (stemL g).drop (atN g).toNat))) h := fun h => cat_S8 (by simp; omega)
    have mk : ltr (((i : Int) + g 4) % 10) = markL g i := rfl
    have r3 : g 5 % 3 = 0 ∨ g 5 % 3 = 1 ∨ g 5 % 3 = 2 := by omega
    rcases r3 with r3 | r3 | r3
    · have en : nameL g i = (stemL g).take (atN g).toNat ++ [markL g i] ++ (stemL g).drop (atN g).toNat := by unfold nameL; rw [if_neg (by omega), if_neg (by omega)]
      simp -implicitDefEqProofs [b35_2, ag, mod_ii, a10, S8_cut, cut_take, cut_drop, hn0, r3, mk, -List.append_assoc, c1, c2, bmK_ref (m := .append) (.inl rfl) alloc_at, bm_app alloc_at hlen]
      exact ⟨by omega, by simp [List.range_succ, en]⟩
    · have en : nameL g i = (if 7 < i then List.replicate (i - 7) (othL g) else List.replicate (i + 1) (oneL g)) := by unfold nameL; rw [if_neg (by omega), if_pos r3]
      have m1 : ∀ h, binW .mul (.str (S8 [oneL g])) (.int ((i : Int) + 1)) h = .ok (.str (S8 (List.replicate ((i : Int) + 1).toNat (oneL g)))) h := fun h => mul_str (by omega)
      have m2 : ∀ h, binW .mul (.str (S8 [othL g])) (.int ((i : Int) - 7)) h = .ok (.str (S8 (List.replicate ((i : Int) - 7).toNat (othL g)))) h := fun h => mul_str (by omega)
      have e1 : ((i : Int) + 1).toNat = i + 1 := by omega
      have e2 : ((i : Int) - 7).toNat = i - 7 := by omega
      by_cases h7 : 7 < i
      · have h7' : (7 : Int) < i := by omega
        simp -implicitDefEqProofs [b35_2, ag, mod_ii, a10, S8_cut, cut_take, cut_drop, hn0, r3, mk, -List.append_assoc, c1, c2, m1, m2, h7', atI_pos, bmK_ref (m := .append) (.inl rfl) alloc_at, bm_app alloc_at hlen]
        exact ⟨by omega, by simp [List.range_succ, en, h7, e2]⟩
      · have h7' : ¬ (7 : Int) < i := by omega
        simp -implicitDefEqProofs [b35_2, ag, mod_ii, a10, S8_cut, cut_take, cut_drop, hn0, r3, mk, -List.append_assoc, c1, c2, m1, m2, h7', atI_pos, bmK_ref (m := .append) (.inl rfl) alloc_at, bm_app alloc_at hlen]
        exact ⟨by omega, by simp [List.range_succ, en, h7, e1]⟩
    · have en : nameL g i = [markL g i] ++ tailL (g i) := by unfold nameL; rw [if_pos r3]
      have htl := tailL_len (g i)
      simp -implicitDefEqProofs [b35_2, ag, mod_ii, a10, S8_cut, cut_take, cut_drop, hn0, r3, mk, -List.append_assoc, c1, c2, q1, show (i : Int) < 10 by omega]
      rw [comp_enc (xs := List.range (g i % 8).toNat) (enc := fun k : Nat => VM.W.int k) (fun (j : Nat) => VM.W.str (S8 [ltr (g i / 8 / ((j : Int) + 1) % 26)])) (ws := [.int (g i % 8)]) (h1 := h.alloc (.lst ((List.range i).map fun k => .str (S8 (nameL g k))))) (by simp [ag, mod_ii, q1, show (i : Int) < 10 by omega]) (src_rng (by omega)) (by simp; omega) (fun j hj => by
        have hj := List.mem_range.mp hj
        simp -implicitDefEqProofs [b35_1, wipeV, ag, mod_ii, fdiv_ii, q1, show (i : Int) < 10 by omega, show (0 : Int) < (j : Int) + 1 by omega, show (j : Int) + 1 < 1073741824 by omega, a26])]
      have es : ((List.range (g i % 8).toNat).map fun (j : Nat) => VM.W.str (S8 [ltr (g i / 8 / ((j : Int) + 1) % 26)])) = (tailL (g i)).map fun c => VM.W.str (S8 [c]) := by
        unfold tailL; rw [List.map_map]; rfl
      rw [es]
      have c3 : ∀ h, binW .add (.str (S8 [markL g i])) (.str (S8 (tailL (g i)))) h = .ok (.str (S8 ([markL g i] ++ tailL (g i)))) h := fun h => cat_S8 (by simp; omega)
      have c3' : ∀ h, binW .add (.str (S8 [markL g i])) (.str (S8 (tailL (g i)))) h = .ok (.str (S8 (markL g i :: tailL (g i)))) h := c3
      simp [nrs_map fun x _ => nr_str, bm_join1 (show (tailL (g i)).length ≤ 1000 by omega), c3', bmK_ref (m := .append) (.inl rfl) alloc_at, bm_app alloc_at hlen]
      exact ⟨by omega, by simp [List.range_succ, en]⟩
  · rintro s h' ⟨_, o1, o2, o3, o4, rfl, rfl⟩
    exact ⟨_, _, _, _, rfl, by simp⟩
  · rintro fl h' ⟨o1, o2, o3, o4, rfl, rfl⟩
    simp

def spanV (x y m : Int) : Int × Int :=
  if m % 8 = 1 then (x % 2000001 - 1000000, 1 + y % 1000)
  else if m % 8 = 2 then (x % 4, 1 + y % 2)
  else if m % 8 = 3 then ((x % 13 - 6) * 10 ^ 11, 1 + y % 3 * 10 ^ 11)
  else (x % 13, 1 + y % 5)
def spW (p : Int × Int) : VM.W := .tup [.int p.1, .int p.2]
@[simp] theorem nr_spW {p : Int × Int} : noRef (spW p) = true := by simp [spW]
def spanP (x y m : Int) : Int × Int := ((spanV x y m).1, (spanV x y m).1 + (spanV x y m).2)
theorem law_span {n : Nat} {x y m : Int} {h : VH} : cal T (n + 1) 36 [.int x, .int y, .int m] h = .ok (spW (spanP x y m)) h := by
  rw [cal_run fn36 rfl rfl]
  have p11 : ∀ h, binW .pow (.int 10) (.int 11) h = .ok (.int (10 ^ 11)) h := fun h => rfl
  unfold spW spanP spanV
  by_cases h1 : m % 8 = 1
  · simp -implicitDefEqProofs [b36, mod_ii, h1]
  · by_cases h2 : m % 8 = 2
    · simp -implicitDefEqProofs [b36, mod_ii, h2]
    · by_cases h3 : m % 8 = 3
      · simp -implicitDefEqProofs [b36, mod_ii, h3, p11, mul_r]
      · simp -implicitDefEqProofs [b36, mod_ii, h1, h2, h3]
theorem spanV_pos (x y m : Int) : 0 < (spanV x y m).2 := by
  unfold spanV
  split
  · show 0 < 1 + y % 1000
    omega
  · split
    · show 0 < 1 + y % 2
      omega
    · split
      · show 0 < 1 + y % 3 * 10 ^ 11
        omega
      · show 0 < 1 + y % 5
        omega
theorem spanP_lt (x y m : Int) : (spanP x y m).1 < (spanP x y m).2 := by
  have := spanV_pos x y m
  unfold spanP
  simp only
  omega
theorem spanP_bd (x y m : Int) : -(10 ^ 13) < (spanP x y m).1 ∧ (spanP x y m).2 < 10 ^ 13 := by
  unfold spanP spanV
  simp only
  split
  · constructor <;> (simp only; omega)
  · split
    · constructor <;> (simp only; omega)
    · split <;> constructor <;> (simp only; omega)

def boxW (ps : List (Int × Int)) : VM.W := .tup (ps.map spW)
@[simp] theorem nr_boxW {ps : List (Int × Int)} : noRef (boxW ps) = true := by simp [boxW]
def boxP (g : Nat → Int) (k : Nat) (m : Int) : List (Int × Int) := (List.range k).map fun i => spanP (g (2 * i)) (g (2 * i + 1)) m
theorem law_box {n : Nat} {zs : List Int} {g : Nat → Int} {k : Nat} {m : Int} {h : VH} (hk : k ≤ 3) (hg : ∀ i, i < 2 * k → zs[i]? = some (g i)) :
    cal T (n + 2) 37 [.fz (zs.map VM.W.int), .int (k : Nat), .int m] h = .ok (boxW (boxP g k m)) h := by
  rw [cal_run fn37 rfl rfl]
  simp -implicitDefEqProofs [b37]
  have ag : ∀ i : Int, 0 ≤ i ∧ i < 2 * (k : Int) → L2.atI (zs.map VM.W.int) i = some (.int (g i.toNat)) := fun i hi => by
    rw [atI_pos hi.1, List.getElem?_map, hg _ (by omega)]
    rfl
  rw [comp_enc (xs := List.range k) (enc := fun k : Nat => VM.W.int k) (fun i => spW (spanP (g (2 * i)) (g (2 * i + 1)) m)) (ws := [.int (k : Nat)]) (h1 := h) rfl (src_rng (by omega)) (by simp; omega) (fun i hi => by
    have hi := List.mem_range.mp hi
    have e1 : (2 * (i : Int)).toNat = 2 * i := by omega
    have e2 : (2 * (i : Int) + 1).toNat = 2 * i + 1 := by omega
    simp -implicitDefEqProofs [b37_0, wipeV, mul_l, ag (2 * (i : Int)) (by omega), ag (2 * (i : Int) + 1) (by omega), e1, e2, law_span])]
  have e : ((List.range k).map fun i => spW (spanP (g (2 * i)) (g (2 * i + 1)) m)) = (boxP g k m).map spW := by
    unfold boxP; rw [List.map_map]; rfl
  rw [e]
  simp [boxW]
def moreL (nm : Nat → List Nat) (k : Nat) : List Nat := if k < 10 then nm k else [107 + (k - 10)]
abbrev IT := Str × Tup (Int × Int)
theorem boxW_enc (ps : List (Int × Int)) : boxW ps = enc (Tup.mk ps) := rfl
theorem spW_enc (p : Int × Int) : spW p = enc p := rfl
theorem IT_depth : Datum.depth IT ≤ 59 := by decide
def drawn (x : Nat → Int) (y : Nat → Nat → Int) (nm : Nat → List Nat) (keys : Nat) : Nat → List IT
  | 0 => []
  | k + 1 => drawn x y nm keys k ++ [(S8 (moreL nm k), if x 13 % 4 = 1 ∧ drawn x y nm keys k ≠ [] then ((drawn x y nm keys k).getD (y k 0 % ((drawn x y nm keys k).length : Nat)).toNat (Str.empty, Tup.mk [])).2 else Tup.mk (boxP (y k) keys (x 12)))]
@[simp] theorem drawn_len (x : Nat → Int) (y : Nat → Nat → Int) (nm : Nat → List Nat) (keys : Nat) : ∀ k, (drawn x y nm keys k).length = k
  | 0 => rfl
  | k + 1 => by rw [drawn, List.length_append, drawn_len]; rfl
def dX (ns : List Int) (a : Nat) (i : Nat) : Int := numI (cellV ns a) i
def dY (ns : List Int) (a : Nat) (k i : Nat) : Int := numI (cellV ns (a + 1) + 7 * k * k) i
def dKeys (ns : List Int) (a : Nat) : Nat := (1 + dX ns a 0 % 3).toNat
def mxm (k : Nat) : Int := if k = 1 then 15 else if k = 2 then 9 else 6
theorem mxm_in (k : Nat) : 0 < mxm k ∧ mxm k ≤ 15 := by
  unfold mxm
  split
  · omega
  · split <;> omega
def dMany (ns : List Int) (a most : Nat) : Nat := min ((dX ns a 1 % (mxm (dKeys ns a))).toNat) most
def dNm (ns : List Int) (a : Nat) : Nat → List Nat := nameL fun i => dX ns a (2 + i)
def dFound (ns : List Int) (a most : Nat) : List IT := drawn (dX ns a) (dY ns a) (dNm ns a) (dKeys ns a) (dMany ns a most)
def dTurn (ns : List Int) (a most : Nat) : Nat := (dX ns a 14 % (max 1 (dMany ns a most) : Nat)).toNat
def dItems (ns : List Int) (a most : Nat) : List IT := (dFound ns a most).drop (dTurn ns a most) ++ (dFound ns a most).take (dTurn ns a most)
theorem dKeys_in (ns : List Int) (a : Nat) : dKeys ns a = 1 ∨ dKeys ns a = 2 ∨ dKeys ns a = 3 := by unfold dKeys; omega
theorem dMany_le (ns : List Int) (a most : Nat) : dMany ns a most ≤ 14 := by
  unfold dMany
  have h1 := mxm_in (dKeys ns a)
  have h2 := Int.emod_lt_of_pos (dX ns a 1) h1.1
  omega
/-- values that are data at the top -/
def val : VM.W → Bool
  | .non => true | .bl _ => true | .int _ => true | .str _ => true | .tup _ => true | .fz _ => true
  | _ => false
def tyW (t : Ty) : VM.W → Bool
  | .bl _ => (match t with | .int => true | .bool => true | _ => false)
  | .int _ => (match t with | .int => true | _ => false)
  | .str _ => (match t with | .str => true | _ => false)
  | .tup _ => (match t with | .tuple => true | _ => false)
  | .fz _ => (match t with | .list => true | _ => false)
  | _ => false
theorem isInst_val {t : Ty} {h : VH} {w : VM.W} (v : val w = true) : VM.isInst t h w = some (tyW t w) := by
  cases w <;> first | rfl | cases v
theorem bi_is {t : Ty} {h : VH} {w : VM.W} (v : val w = true) : biW (.isinst t) [w] h = .ok (.bl (tyW t w)) h := by
  show R.of h ((VM.isInst t h w).map VM.W.bl) = _
  rw [isInst_val v]; rfl
theorem val_enc {α : Type} [DecidableEq α] [Datum α] [Enc α] (a : α) : val (enc a) = true := by
  have h := Enc.dat a
  generalize enc a = w at *
  cases w <;> first | rfl | (unfold datW at h; rw [pdW] at h; cases h)
def whole : VM.W → Bool
  | .int _ => true
  | _ => false
theorem whole_int {i : Int} : whole (.int i) = true := by unfold whole; rfl
theorem whole_ty {w : VM.W} : (tyW .int w && !tyW .bool w) = whole w := by cases w <;> rfl
theorem is_whole {k : Nat} {w : VM.W} {h : VH} (d : val w = true) : cal T (k + 1) 0 [w] h = .ok (.bl (whole w)) h := by
  rw [cal_run fn0 rfl rfl]
  simp -implicitDefEqProofs [b0, bi_is d, ← whole_ty]
  cases tyW .int w <;> simp -implicitDefEqProofs
theorem is_number {k : Nat} {w : VM.W} {h : VH} (d : val w = true) : cal T (k + 1) 9 [w] h = .ok (.bl (whole w)) h := by
  rw [cal_run fn9 rfl rfl]
  simp -implicitDefEqProofs [b9, bi_is d, ← whole_ty]
  cases tyW .int w <;> simp -implicitDefEqProofs
theorem is_span {k : Nat} {a b : Int} {h : VH} : cal T (k + 2) 1 [.tup [.int a, .int b]] h = .ok (.bl (decide (a < b))) h := by
  rw [cal_run fn1 rfl rfl]
  have d : val (.tup [.int a, .int b]) = true := rfl
  have d1 : ∀ i, val (.int i) = true := fun _ => rfl
  simp -implicitDefEqProofs [b1, bi_is d, tyW, atI_pos, is_whole (d1 _), whole]
theorem is_box {k n : Nat} {ps : List (Int × Int)} {h : VH} (hl : ps.length ≤ 100) :
    cal T (k + 3) 4 [boxW ps, .int (n : Nat)] h = .ok (.bl (decide (ps.length = n) && ps.all fun p => decide (p.1 < p.2))) h := by
  rw [cal_run fn4 rfl rfl]
  have d : val (.tup (ps.map spW)) = true := rfl
  have e : ((ps.length : Int) = (n : Int)) ↔ ps.length = n := by omega
  simp -implicitDefEqProofs [b4, boxW, bi_is d, tyW, e]
  by_cases hn : ps.length = n
  · simp -implicitDefEqProofs [hn]
    rw [comp_enc (xs := ps) (enc := spW) (fun p => .bl (decide (p.1 < p.2))) (ws := [.tup (ps.map spW)]) (h1 := h) rfl src_tup (by omega) (fun p _ => by simp -implicitDefEqProofs [b4_0, wipeV, spW, is_span])]
    simp -implicitDefEqProofs
  · simp -implicitDefEqProofs [hn]
theorem are_keys {k : Nat} {i : Int} {h : VH} : cal T (k + 2) 10 [.int i] h = .ok (.bl (decide (1 ≤ i ∧ i ≤ 3))) h := by
  rw [cal_run fn10 rfl rfl]
  have d : val (.int i) = true := rfl
  simp -implicitDefEqProofs [b10, is_number d, whole, glb2]
  by_cases h1 : 1 ≤ i
  · simp -implicitDefEqProofs [h1]
  · simp -implicitDefEqProofs [h1]
def small8 (l : List Nat) : Bool := decide (1 ≤ l.length) && decide (l.length ≤ 8) && l.all fun c => decide (97 ≤ c ∧ c ≤ 122)
theorem abc_in {c : Nat} {h : VH} : cmpW h .isin (.str (S8 [c])) (.str abc) = some (decide (97 ≤ c ∧ c ≤ 122)) := by
  show inW h (.str (S8 [c])) (.str abc) = _
  unfold inW
  simp only [S8_cps]
  rw [abc_eq, S8_cps]
  congr 1
  rw [decide_eq_decide]
  simp only [List.mem_map, List.mem_range]
  constructor
  · rintro ⟨a, ha, rfl⟩; omega
  · intro hc; exact ⟨c - 97, by omega, by omega⟩
theorem is_named {k : Nat} {l : List Nat} {h : VH} (hl : l.length ≤ 1000) : cal T (k + 1) 11 [.str (S8 l)] h = .ok (.bl (small8 l)) h := by
  rw [cal_run fn11 rfl rfl]
  have d : val (.str (S8 l)) = true := rfl
  have ab : (Str.ofString "abcdefghijklmnopqrstuvwxyz") = abc := rfl
  simp -implicitDefEqProofs [b11, bi_is d, tyW, glb1]
  by_cases h1 : 1 ≤ l.length
  · by_cases h8 : l.length ≤ 8
    · have h1' : (1 : Int) ≤ l.length := by omega
      have h8' : (l.length : Int) ≤ 8 := by omega
      simp -implicitDefEqProofs [h1', h8']
      rw [comp_enc (xs := l) (enc := one) (fun c => .bl (decide (97 ≤ c ∧ c ≤ 122))) (ws := [.str (S8 l)]) (h1 := h) rfl (by rw [src_str, S8_cps]) (by omega) (fun c _ => by simp -implicitDefEqProofs [b11_0, wipeV, glb1, ab, abc_in])]
      simp -implicitDefEqProofs [small8, h1, h8]
    · have h1' : (1 : Int) ≤ l.length := by omega
      have h8' : ¬ (l.length : Int) ≤ 8 := by omega
      simp -implicitDefEqProofs [h1', h8', small8, h8]
  · have h1' : ¬ (1 : Int) ≤ l.length := by omega
    simp -implicitDefEqProofs [h1', small8, h1]

def itemOk (keys : Nat) (it : IT) : Bool := small8 it.1.cps.toList && (decide (it.2.items.length = keys) && it.2.items.all fun p => decide (p.1 < p.2))
theorem is_item {k n : Nat} {it : IT} {h : VH} (h1 : it.1.length ≤ 1000) (h2 : it.2.items.length ≤ 100) : cal T (k + 4) 12 [enc it, .int (n : Nat)] h = .ok (.bl (itemOk n it)) h := by
  obtain ⟨nm, ⟨ps⟩⟩ := it
  rw [cal_run fn12 rfl rfl]
  have d : val (enc ((nm, Tup.mk ps) : IT)) = true := rfl
  have e0 : enc ((nm, Tup.mk ps) : IT) = .tup [.str nm, boxW ps] := rfl
  have en : nm = S8 nm.cps.toList := (S8_of nm).symm
  have q1 : ∀ h, cal T (k + 3) 11 [.str nm] h = .ok (.bl (small8 nm.cps.toList)) h := fun h => by
    conv => lhs; rw [en]
    exact is_named (by simpa [Str.length] using h1)
  have q2 : ∀ h, cal T (k + 3) 4 [boxW ps, .int (n : Nat)] h = .ok (.bl (decide (ps.length = n) && ps.all fun p => decide (p.1 < p.2))) h := fun h => is_box h2
  rw [e0] at d ⊢
  simp -implicitDefEqProofs [b12, bi_is d, tyW, atI_pos, q1, q2, itemOk]
  cases small8 nm.cps.toList <;> simp -implicitDefEqProofs
def itemsOk (keys : Nat) (its : List IT) : Bool := (its.all fun it => itemOk keys it) && decide ((its.map (·.1)).Nodup)
theorem are_items {k n : Nat} {its : List IT} {h : VH} (h1 : ∀ it ∈ its, it.1.length ≤ 1000 ∧ it.2.items.length ≤ 100) (hl : its.length ≤ 1000) : cal T (k + 5) 13 [.fz (its.map enc), .int (n : Nat)] h = .ok (.bl (itemsOk n its)) h := by
  rw [cal_run fn13 rfl rfl]
  have d : val (.fz (its.map enc)) = true := rfl
  simp -implicitDefEqProofs [b13, bi_is d, tyW]
  rw [comp_enc (xs := its) (enc := enc) (fun it => .bl (itemOk n it)) (ws := [.fz (its.map enc)]) (h1 := h) rfl src_fz (by omega) (fun it hi => by simp -implicitDefEqProofs [b13_0, wipeV, is_item (k := k) (h1 it hi).1 (h1 it hi).2])]
  simp -implicitDefEqProofs
  unfold itemsOk
  cases hg : its.all fun it => itemOk n it
  · simp -implicitDefEqProofs
  · simp -implicitDefEqProofs
    rw [comp_enc (xs := its) (enc := enc) (fun it => .str it.1) (ws := [.fz (its.map enc)]) (h1 := h) rfl src_fz (by omega) (fun it hi => by
      simp -implicitDefEqProofs [b13_1, wipeV, enc_pair])]
    simp -implicitDefEqProofs [lenset_str (f := fun it : IT => it.1) (show its.length ≤ 4000 by omega)]
    have e := ded_len (its.map fun it => (Sum.inr it.1 : Key))
    rw [List.length_map] at e
    have e2 : (its.map fun it => (Sum.inr it.1 : Key)).Nodup ↔ (its.map (·.1)).Nodup := nodup_inr
    have e3 : (((dedK (its.map fun it => (Sum.inr it.1 : Key))).length : Nat) : Int) = (its.length : Nat) ↔ (its.map (·.1)).Nodup := by rw [← e2, ← e]; omega
    exact e3
abbrev ET := T3 Int Int Str
/-- a box's entry by key j: lows, highs -/
def entLo (j : Nat) (it : IT) : ET := ⟨(it.2.items.getD j (0, 0)).1, (it.2.items.getD j (0, 0)).2, it.1⟩
def entHi (j : Nat) (it : IT) : ET := ⟨(it.2.items.getD j (0, 0)).2, (it.2.items.getD j (0, 0)).1, it.1⟩
theorem box_at {it : IT} {j : Nat} (hj : j < it.2.items.length) : L2.atI (it.2.items.map enc) (j : Int) = some (.tup [.int (it.2.items.getD j (0, 0)).1, .int (it.2.items.getD j (0, 0)).2]) := by
  rw [atI_pos (by omega), Int.toNat_natCast, List.getElem?_map, List.getD_eq_getElem?_getD, List.getElem?_eq_getElem hj]
  rfl
theorem entry_lo {k j : Nat} {it : IT} {h : VH} (hj : j < it.2.items.length) : cal T (k + 1) 18 [enc it, .int (2 * (j : Int) + 1)] h = .ok (enc (entLo j it)) h := by
  rw [cal_run fn18 rfl rfl]
  have e1 : (2 * (j : Int) + 1 - 1) / 2 = (j : Int) := by omega
  have e2 : (2 * (j : Int) + 1) % 2 = 1 := by omega
  simp -implicitDefEqProofs [b18, enc_pair, enc_tup, enc_t3, entLo, mod_ii, fdiv_ii, e1, e2, box_at hj]
theorem entry_hi {k j : Nat} {it : IT} {h : VH} (hj : j < it.2.items.length) : cal T (k + 1) 18 [enc it, .int (2 * (j : Int) + 2)] h = .ok (enc (entHi j it)) h := by
  rw [cal_run fn18 rfl rfl]
  have e1 : (2 * (j : Int) + 2 - 1) / 2 = (j : Int) := by omega
  have e2 : (2 * (j : Int) + 2) % 2 = 0 := by omega
  simp -implicitDefEqProofs [b18, enc_pair, enc_tup, enc_t3, entHi, mod_ii, fdiv_ii, e1, e2, box_at hj]
theorem law_entry_lo {k j : Nat} {it : IT} {h : VH} (hj : j < it.2.items.length) : cal T (k + 1) 41 [enc it, .int (2 * (j : Int) + 1)] h = .ok (enc (entLo j it)) h := by
  rw [cal_run fn41 rfl rfl]
  have e1 : (2 * (j : Int) + 1 - 1) / 2 = (j : Int) := by omega
  have e2 : (2 * (j : Int) + 1) % 2 = 1 := by omega
  simp -implicitDefEqProofs [b41, enc_pair, enc_tup, enc_t3, entLo, mod_ii, fdiv_ii, e1, e2, box_at hj]
theorem law_entry_hi {k j : Nat} {it : IT} {h : VH} (hj : j < it.2.items.length) : cal T (k + 1) 41 [enc it, .int (2 * (j : Int) + 2)] h = .ok (enc (entHi j it)) h := by
  rw [cal_run fn41 rfl rfl]
  have e1 : (2 * (j : Int) + 2 - 1) / 2 = (j : Int) := by omega
  have e2 : (2 * (j : Int) + 2) % 2 = 0 := by omega
  simp -implicitDefEqProofs [b41, enc_pair, enc_tup, enc_t3, entHi, mod_ii, fdiv_ii, e1, e2, box_at hj]
theorem ET_depth : Datum.depth ET ≤ 59 := by decide
theorem ET_tup : (∀ a : ET, ∃ x r, Datum.toD a = .tuple (x :: r)) ∨ ∀ (a : ET) ds, Datum.toD a ≠ .tuple ds := .inl fun a => ⟨_, _, rfl⟩
/-- entry of a level (from 1 on) -/
def entL (lev : Nat) (it : IT) : ET := if lev % 2 = 1 then entLo ((lev - 1) / 2) it else entHi ((lev - 1) / 2) it
def entsL (lev : Nat) (its : List IT) : List ET := sortE (its.map (entL lev))
theorem law_entryL {k lev : Nat} {it : IT} {h : VH} (h0 : 1 ≤ lev) (hj : (lev - 1) / 2 < it.2.items.length) : cal T (k + 1) 41 [enc it, .int (lev : Nat)] h = .ok (enc (entL lev it)) h := by
  unfold entL
  by_cases e : lev % 2 = 1
  · rw [if_pos e]
    have := law_entry_lo (k := k) (h := h) hj
    have e2 : 2 * (((lev - 1) / 2 : Nat) : Int) + 1 = (lev : Nat) := by omega
    rw [e2] at this; exact this
  · rw [if_neg e]
    have := law_entry_hi (k := k) (h := h) hj
    have e2 : 2 * (((lev - 1) / 2 : Nat) : Int) + 2 = (lev : Nat) := by omega
    rw [e2] at this; exact this
theorem entryL {k lev : Nat} {it : IT} {h : VH} (h0 : 1 ≤ lev) (hj : (lev - 1) / 2 < it.2.items.length) : cal T (k + 1) 18 [enc it, .int (lev : Nat)] h = .ok (enc (entL lev it)) h := by
  unfold entL
  by_cases e : lev % 2 = 1
  · rw [if_pos e]
    have := entry_lo (k := k) (h := h) hj
    have e2 : 2 * (((lev - 1) / 2 : Nat) : Int) + 1 = (lev : Nat) := by omega
    rw [e2] at this; exact this
  · rw [if_neg e]
    have := entry_hi (k := k) (h := h) hj
    have e2 : 2 * (((lev - 1) / 2 : Nat) : Int) + 2 = (lev : Nat) := by omega
    rw [e2] at this; exact this
/-- data, not too deep -/
def Dt (w : VM.W) : Prop := ∃ d, datW w = some d ∧ d.depth ≤ 60
theorem Dt.val {w : VM.W} (d : Dt w) : val w = true := by
  obtain ⟨d, e, _⟩ := d
  cases w <;> first | rfl | (unfold datW at e; rw [pdW] at e; cases e)
theorem datL_mem : ∀ {ws : List VM.W} {ds : List PyData}, datL ws = some ds → (∀ w ∈ ws, ∃ d ∈ ds, datW w = some d) ∧ ds.length = ws.length
  | [], ds, e => by
    rw [datL_nil] at e
    cases e
    exact ⟨fun w hw => (List.not_mem_nil hw).elim, rfl⟩
  | w :: ws, ds, e => by
    unfold datL pdL at e
    split at e
    · rename_i d r h1 h2
      cases e
      obtain ⟨i1, i2⟩ := datL_mem (ws := ws) (ds := r) h2
      refine ⟨fun x hx => ?_, by simp [i2]⟩
      rcases List.mem_cons.mp hx with rfl | hx
      · exact ⟨d, List.mem_cons_self .., h1⟩
      · obtain ⟨d', q1, q2⟩ := i1 x hx
        exact ⟨d', List.mem_cons_of_mem _ q1, q2⟩
    · cases e
theorem datW_tupI {ws : List VM.W} {d : PyData} (e : datW (.tup ws) = some d) : ∃ ds, datL ws = some ds ∧ d = .tuple ds := by
  unfold datW at e
  rw [pdW] at e
  cases h : pdL (fun _ => none) ws with
  | none => rw [h] at e; cases e
  | some ds => rw [h] at e; cases e; exact ⟨ds, h, rfl⟩
theorem depth_mem {ds : List PyData} {d : PyData} (hd : d ∈ ds) : d.depth ≤ PyData.depthAll ds := by
  induction ds with
  | nil => cases hd
  | cons x xs ih =>
    simp only [PyData.depthAll]
    rcases List.mem_cons.mp hd with rfl | hd
    · omega
    · have := ih hd; omega
theorem Dt.mem {ws : List VM.W} (d : Dt (.tup ws)) {w : VM.W} (hw : w ∈ ws) : Dt w := by
  obtain ⟨d, e, hd⟩ := d
  obtain ⟨ds, e2, rfl⟩ := datW_tupI e
  obtain ⟨x, hx, e3⟩ := (datL_mem e2).1 w hw
  refine ⟨x, e3, ?_⟩
  have := depth_mem hx
  simp only [PyData.depth] at hd
  omega
mutual
theorem dat_nr : ∀ (w : VM.W) (d : PyData), datW w = some d → noRef w = true
  | .non, _, _ => by simp
  | .bl _, _, _ => by simp
  | .int _, _, _ => by simp
  | .str _, _, _ => by simp
  | .tup ws, d, e => by
    rw [nr_tup]
    unfold datW at e
    rw [pdW] at e
    cases q : pdL (fun _ => none) ws with
    | none => rw [q] at e; cases e
    | some ds => exact dat_nrs ws ds q
  | .fz ws, d, e => by
    rw [nr_fz]
    unfold datW at e
    rw [pdW] at e
    cases q : pdL (fun _ => none) ws with
    | none => rw [q] at e; cases e
    | some ds => exact dat_nrs ws ds q
  | .ref _, d, e => by unfold datW at e; rw [pdW] at e; cases e
  | .lit _, d, e => by unfold datW at e; rw [pdW] at e; cases e
  | .exn _ _, d, e => by unfold datW at e; rw [pdW] at e; cases e
theorem dat_nrs : ∀ (ws : List VM.W) (ds : List PyData), datL ws = some ds → noRefs ws = true
  | [], _, _ => by simp
  | w :: ws, ds, e => by
    obtain ⟨d, r, _, h1, h2⟩ := pdL_consI e
    rw [nrs_cons, dat_nr w d h1, dat_nrs ws r h2]; rfl
end
theorem Dt.nr {w : VM.W} (d : Dt w) : noRef w = true := by
  obtain ⟨d, e, _⟩ := d
  exact dat_nr w d e
theorem enc_Dt {α : Type} [DecidableEq α] [Datum α] [Enc α] (hd : Datum.depth α ≤ 60) (a : α) : Dt (enc a) := ⟨_, Enc.dat a, Nat.le_trans (Datum.depth_le a) hd⟩
theorem enc_inj {α : Type} [DecidableEq α] [Datum α] [Enc α] {a b : α} (e : enc a = enc b) : a = b := by
  have h1 := Enc.dat a
  rw [e, Enc.dat b] at h1
  have h2 := Datum.eqv a b
  rw [← Option.some.inj h1, Datum.eqv b b] at h2
  simp at h2
  first | exact h2 | exact h2.symm
def entryOk : VM.W → Bool
  | .tup [.int _, .int _, .str _] => true
  | _ => false
theorem entryOk_enc {w : VM.W} : entryOk w = true ↔ ∃ t : ET, w = enc t := by
  constructor
  · intro h
    unfold entryOk at h
    split at h
    · exact ⟨⟨_, _, _⟩, rfl⟩
    · cases h
  · rintro ⟨t, rfl⟩; rfl
theorem is_entry {k : Nat} {w : VM.W} {h : VH} (p : Dt w) : cal T (k + 2) 19 [w] h = .ok (.bl (entryOk w)) h := by
  rw [cal_run fn19 rfl rfl]
  simp -implicitDefEqProofs [b19, bi_is p.val]
  by_cases ht : ∃ ws, w = .tup ws
  · obtain ⟨ws, rfl⟩ := ht
    simp -implicitDefEqProofs [tyW]
    by_cases hl : ws.length = 3
    · obtain ⟨a, b, c, rfl⟩ : ∃ a b c, ws = [a, b, c] := by
        match ws, hl with
        | [a, b, c], _ => exact ⟨a, b, c, rfl⟩
      have pa := (p.mem (w := a) (by simp)).val
      have pb := (p.mem (w := b) (by simp)).val
      have pc := (p.mem (w := c) (by simp)).val
      simp -implicitDefEqProofs [atI_pos, is_number pa, is_number pb, bi_is pc]
      cases a <;> simp -implicitDefEqProofs [whole, entryOk] <;> cases b <;> simp -implicitDefEqProofs [whole, entryOk] <;> cases c <;> simp -implicitDefEqProofs [tyW, entryOk]
    · have e1 : ¬ ((ws.length : Int) = 3) := by omega
      have e2 : entryOk (.tup ws) = false := by
        unfold entryOk
        split
        · rename_i q
          cases q
          simp at hl
        · rfl
      simp -implicitDefEqProofs [e1, e2]
  · have e0 : tyW .tuple w = false := by
      cases w <;> first | rfl | exact absurd ⟨_, rfl⟩ ht
    have e2 : entryOk w = false := by
      unfold entryOk
      split
      · exact absurd ⟨_, rfl⟩ ht
      · rfl
    simp -implicitDefEqProofs [e0, e2]
/-! ### heights -/
def htOf : VM.W → Option Int
  | .non => some 0
  | .tup (_ :: _ :: _ :: .int i :: _) => some i
  | _ => none
theorem height_in {k : Nat} {w : VM.W} {i : Int} {h : VH} (p : Dt w) (e : htOf w = some i) : cal T (k + 1) 20 [w] h = .ok (.int i) h := by
  rw [cal_run fn20 rfl rfl]
  unfold htOf at e
  split at e
  · cases e; simp -implicitDefEqProofs [b20, W.isNon]
  · cases e; simp -implicitDefEqProofs [b20, W.isNon, atI_pos]
  · cases e
def upright (x a b : Int) : Bool := decide (x = 1 + (if b > a then b else a)) && decide ((if a - b < 0 then -(a - b) else a - b) < 2)
theorem are_upright {k : Nat} {l r a b c : VM.W} {rest : List VM.W} {x i j : Int} {h : VH} (pl : Dt l) (pr : Dt r) (el : htOf l = some i) (er : htOf r = some j) : cal T (k + 2) 22 [.tup (a :: b :: c :: .int x :: rest), l, r] h = .ok (.bl (upright x i j)) h := by
  rw [cal_run fn22 rfl rfl]
  simp -implicitDefEqProofs [b22, height_in pl el, height_in pr er, atI_pos, upright]
  by_cases h1 : x = 1 + (if i < j then j else i)
  · simp -implicitDefEqProofs [h1]
  · simp -implicitDefEqProofs [h1]
/-! ### the numbers that were there -/
def dk (ks : List Int) : List (Key × VM.W) := ks.map fun n => (Sum.inl n, .bl true)
theorem dk_get {ks : List Int} {n : Int} : (kvGet (dk ks) (.inl n)).isSome = decide (n ∈ ks) := by
  unfold kvGet dk
  induction ks with
  | nil => rfl
  | cons x xs ih =>
    rw [List.map_cons, List.find?_cons]
    by_cases h : x = n
    · subst h; simp
    · have : decide ((Sum.inl x : Key) = Sum.inl n) = false := by simp [h]
      rw [this]
      simp only
      rw [ih]
      have h' : ¬ n = x := fun e => h e.symm
      simp [h']
theorem dk_put {ks : List Int} {n : Int} (hn : n ∉ ks) : kvPut (dk ks) (.inl n) (.bl true) = dk (ks ++ [n]) := by
  unfold kvPut
  have e : ((dk ks).any fun kv => decide (kv.1 = .inl n)) = false := by
    rw [List.any_eq_false]
    intro kv hkv
    obtain ⟨x, hx, rfl⟩ := List.mem_map.mp hkv
    have : x ≠ n := fun e => hn (e ▸ hx)
    simp [this]
  rw [e]
  simp [dk]
@[simp] theorem dk_len {ks : List Int} : (dk ks).length = ks.length := by simp [dk]
theorem dk_ob {ks : List Int} {lk : Bool} : obLt 0 (.dic lk (dk ks)) = true := by
  show (dk ks).all _ = true
  rw [List.all_eq_true]
  intro kv hkv
  obtain ⟨x, hx, rfl⟩ := List.mem_map.mp hkv
  show refsLt 0 (VM.W.bl true) = true
  rw [refsLt]
theorem set_self {h : VH} {d : Nat} {o : Ob} (e : h.f d = some o) : h.set d o = h := by
  obtain ⟨n, f⟩ := h
  unfold VH.set
  simp only [VH.mk.injEq, true_and]
  funext i
  by_cases hi : i = d
  · subst hi; simp; exact e.symm
  · simp [hi]
theorem in_dk {h : VH} {d : Nat} {lk : Bool} {ks : List Int} {n : Int} (e : h.f d = some (.dic lk (dk ks))) : cmpW h .isin (.int n) (.ref d) = some (decide (n ∈ ks)) := by
  show inW h (.int n) (.ref d) = _
  unfold inW
  simp only [e, keyW, Option.map_some, dk_get]
theorem head_inj {a c x c' x' : VM.W} {n' : Int} {t t' : ET} {rest rest' : List VM.W} (e : VM.W.tup (a :: enc t :: c :: x :: rest) = .tup (.int n' :: enc t' :: c' :: x' :: rest')) : a = .int n' ∧ t = t' ∧ c = c' ∧ x = x' ∧ rest = rest' := by
  simp only [VM.W.tup.injEq, List.cons.injEq] at e
  exact ⟨e.1, enc_inj e.2.1, e.2.2.1, e.2.2.2.1, e.2.2.2.2⟩
theorem is_head {k s d : Nat} {w : VM.W} {E : List ET} {ks : List Int} {h : VH} (p : Dt w) (hs : 4 ≤ s) (hd : h.f d = some (.dic false (dk ks))) (hdn : d < h.n) (hk : ks.length < 10000000) :
    ∃ b ks', cal T (k + 3) 21 [w, .int (s : Nat), .fz (E.map enc), .ref d] h = .ok (.bl b) (h.set d (.dic false (dk ks'))) ∧
      (b = true → ∃ n t ht rest, w = .tup (.int n :: enc t :: .int (E.length : Nat) :: .int ht :: rest) ∧ rest.length + 4 = s ∧ t ∈ E ∧ 1 ≤ n ∧ n ∉ ks ∧ ks' = ks ++ [n]) ∧
      (b = false → ¬ ∃ n t ht rest, w = .tup (.int n :: enc t :: .int (E.length : Nat) :: .int ht :: rest) ∧ rest.length + 4 = s ∧ t ∈ E ∧ 1 ≤ n ∧ n ∉ ks) := by
  rw [cal_run fn21 rfl rfl]
  by_cases ht : ∃ ws, w = .tup ws
  · obtain ⟨ws, rfl⟩ := ht
    by_cases hl : ws.length = s
    · obtain ⟨a, e, c, x, rest, rfl⟩ : ∃ a e c x rest, ws = a :: e :: c :: x :: rest := by
        match ws, hl with
        | [], hl => exact absurd (show (0 : Nat) = s from hl) (by omega)
        | [_], hl => exact absurd (show (1 : Nat) = s from hl) (by omega)
        | [_, _], hl => exact absurd (show (2 : Nat) = s from hl) (by omega)
        | [_, _, _], hl => exact absurd (show (3 : Nat) = s from hl) (by omega)
        | a :: b :: c :: d :: r, _ => exact ⟨a, b, c, d, r, rfl⟩
      have pv := p.val
      have pe := p.mem (w := e) (by simp)
      have hlen : ((rest.length : Int) + 1 + 1 + 1 + 1) = (s : Nat) := by rw [← hl]; simp
      have hrest : rest.length + 4 = s := by rw [← hl]; simp
      by_cases he : ∃ t : ET, e = enc t
      · obtain ⟨t, rfl⟩ := he
        have eo : entryOk (enc t) = true := entryOk_enc.mpr ⟨t, rfl⟩
        by_cases hE : t ∈ E
        · have pa := (p.mem (w := a) (by simp)).val
          have pc := (p.mem (w := c) (by simp)).val
          have px := (p.mem (w := x) (by simp)).val
          have hin := cmp_ninE (h := h) (show Datum.depth ET ≤ 60 by decide) t E
          have hcut : cutL (a :: enc t :: c :: x :: rest) none (some 4) = [a, enc t, c, x] := by rw [cut_take (by omega)]; rfl
          by_cases hn : ∃ n, a = .int n ∧ 1 ≤ n ∧ n ∉ ks
          · obtain ⟨n, rfl, hn1, hnk⟩ := hn
            have hn1' : ¬ n < 1 := by omega
            by_cases hc : ∃ i j, c = .int i ∧ x = .int j
            · obtain ⟨i, j, rfl, rfl⟩ := hc
              refine ⟨decide (i = (E.length : Nat)), ks ++ [n], ?_, ?_, ?_⟩
              · simp -implicitDefEqProofs [b21, bi_is pv, tyW, hlen, atI_pos, is_entry pe, eo, hin, hE, hcut, is_number pa, is_number pc, is_number px, whole_int, hn1', in_dk hd, hnk, hd, keyW, show ks.length < 16777216 by omega, dk_put hnk, trimR_set nr_bl hdn dk_ob Ext_refl]
              · intro hb
                have hb := of_decide_eq_true hb
                subst hb
                exact ⟨n, t, j, rest, rfl, hrest, hE, hn1, hnk, rfl⟩
              · intro hb
                have hb := of_decide_eq_false hb
                rintro ⟨n', t', ht', rest', e1, _⟩
                obtain ⟨_, _, e2, _⟩ := head_inj e1
                cases e2
                exact hb rfl
            · refine ⟨false, ks, ?_, (fun z => nomatch z), fun _ => ?_⟩
              · rw [set_self hd]
                by_cases hci : ∃ i, c = .int i
                · obtain ⟨i, rfl⟩ := hci
                  have hx : whole x = false := by
                    cases x <;> first | rfl | exact absurd ⟨_, _, rfl, rfl⟩ hc
                  simp -implicitDefEqProofs [b21, bi_is pv, tyW, hlen, atI_pos, is_entry pe, eo, hin, hE, hcut, is_number pa, is_number pc, is_number px, whole_int, hn1', in_dk hd, hnk, hx]
                · have hx : whole c = false := by
                    cases c <;> first | rfl | exact absurd ⟨_, rfl⟩ hci
                  simp -implicitDefEqProofs [b21, bi_is pv, tyW, hlen, atI_pos, is_entry pe, eo, hin, hE, hcut, is_number pa, is_number pc, is_number px, whole_int, hn1', in_dk hd, hnk, hx]
              · rintro ⟨n', t', ht', rest', e1, _⟩
                obtain ⟨_, _, e2, e3, _⟩ := head_inj e1
                exact hc ⟨_, _, e2, e3⟩
          · refine ⟨false, ks, ?_, (fun z => nomatch z), fun _ => ?_⟩
            · rw [set_self hd]
              by_cases hai : ∃ n, a = .int n
              · obtain ⟨n, rfl⟩ := hai
                by_cases h1 : n < 1
                · simp -implicitDefEqProofs [b21, bi_is pv, tyW, hlen, atI_pos, is_entry pe, eo, hin, hE, hcut, is_number pa, whole_int, h1]
                · have hk' : n ∈ ks := by
                    by_cases z : n ∈ ks
                    · exact z
                    · exact absurd ⟨n, rfl, by omega, z⟩ hn
                  simp -implicitDefEqProofs [b21, bi_is pv, tyW, hlen, atI_pos, is_entry pe, eo, hin, hE, hcut, is_number pa, whole_int, h1, in_dk hd, hk']
              · have hx : whole a = false := by
                  cases a <;> first | rfl | exact absurd ⟨_, rfl⟩ hai
                simp -implicitDefEqProofs [b21, bi_is pv, tyW, hlen, atI_pos, is_entry pe, eo, hin, hE, hcut, is_number pa, hx]
            · rintro ⟨n', t', ht', rest', e1, _, _, q1, q2⟩
              obtain ⟨e2, _⟩ := head_inj e1
              exact hn ⟨_, e2, q1, q2⟩
        · refine ⟨false, ks, ?_, (fun z => nomatch z), fun _ => ?_⟩
          · rw [set_self hd]
            have hin := cmp_ninE (h := h) (show Datum.depth ET ≤ 60 by decide) t E
            simp -implicitDefEqProofs [b21, bi_is pv, tyW, hlen, atI_pos, is_entry pe, eo, hin, hE]
          · rintro ⟨n', t', ht', rest', e1, _, q, _⟩
            obtain ⟨_, e2, _⟩ := head_inj e1
            exact hE (e2 ▸ q)
      · have eo : entryOk e = false := by
          cases z : entryOk e with
          | false => rfl
          | true => exact absurd (entryOk_enc.mp z) he
        refine ⟨false, ks, ?_, (fun z => nomatch z), fun _ => ?_⟩
        · rw [set_self hd]
          simp -implicitDefEqProofs [b21, bi_is pv, tyW, hlen, atI_pos, is_entry pe, eo]
        · rintro ⟨n', t', ht', rest', e1, _⟩
          injection e1 with e1
          injection e1 with _ e1
          injection e1 with e1 _
          exact he ⟨t', e1⟩
    · refine ⟨false, ks, ?_, (fun z => nomatch z), fun _ => ?_⟩
      · rw [set_self hd]
        have e1 : ¬ ((ws.length : Int) = (s : Nat)) := by omega
        simp -implicitDefEqProofs [b21, bi_is p.val, tyW, e1]
      · rintro ⟨n', t', ht', rest', e1, e2, _⟩
        cases e1
        simp at hl
        omega
  · refine ⟨false, ks, ?_, (fun z => nomatch z), fun _ => ?_⟩
    · rw [set_self hd]
      have e0 : tyW .tuple w = false := by
        cases w <;> first | rfl | exact absurd ⟨_, rfl⟩ ht
      simp -implicitDefEqProofs [b21, bi_is p.val, e0]
    · rintro ⟨n', t', ht', rest', e1, _⟩
      exact ht ⟨_, e1⟩

/-- the shape of a tree of these entries, with these numbers; entries told by R -/
inductive ShG (R : VM.W → ET → Prop) : VM.W → List ET → List Int → Prop
  | nil : ShG R .non [] []
  | node {n ht i j : Int} {e wl wr : VM.W} {t : ET} {l r : List ET} {nl nr : List Int} : 1 ≤ n → R e t → ShG R wl l nl → ShG R wr r nr → htOf wl = some i → htOf wr = some j → upright ht i j = true →
      ShG R (.tup [.int n, e, .int ((l ++ t :: r).length : Nat), .int ht, wl, wr]) (l ++ t :: r) (n :: (nl ++ nr))
abbrev Sh := ShG fun e t => e = enc t
theorem split_at {E l r : List ET} {t : ET} (hE : E.Nodup) (e : E = l ++ t :: r) : E.findIdx? (fun x => decide (x = t)) = some l.length ∧ E.take l.length = l ∧ E.drop (l.length + 1) = r := by
  subst e
  refine ⟨?_, by simp, ?_⟩
  · rw [List.findIdx?_append]
    have h1 : l.findIdx? (fun x => decide (x = t)) = none := by
      rw [List.findIdx?_eq_none_iff]
      intro x hx
      have : x ≠ t := fun z => by
        rw [List.nodup_append] at hE
        exact hE.2.2 x hx t (List.mem_cons_self ..) z
      simp [this]
    rw [h1]
    simp [List.findIdx?_cons]
  · rw [show l.length + 1 = l.length + 1 from rfl, List.drop_append]
    simp
theorem ShG.inv {R : VM.W → ET → Prop} {w : VM.W} {E : List ET} {ns : List Int} (s : ShG R w E ns) : (w = .non ∧ E = [] ∧ ns = []) ∨ ∃ n ht i j e wl wr t l r nl nr, w = .tup [.int n, e, .int (E.length : Nat), .int ht, wl, wr] ∧ E = l ++ t :: r ∧ ns = n :: (nl ++ nr) ∧ 1 ≤ n ∧ R e t ∧ ShG R wl l nl ∧ ShG R wr r nr ∧ htOf wl = some i ∧ htOf wr = some j ∧ upright ht i j = true := by
  cases s with
  | nil => exact .inl ⟨rfl, rfl, rfl⟩
  | node h1 h2 h3 h4 h5 h6 h7 => exact .inr ⟨_, _, _, _, _, _, _, _, _, _, _, _, rfl, rfl, rfl, h1, h2, h3, h4, h5, h6, h7⟩
theorem ShG.ht {R : VM.W → ET → Prop} {w : VM.W} {E : List ET} {ns : List Int} (s : ShG R w E ns) : ∃ i, htOf w = some i := by
  cases s with
  | nil => exact ⟨0, rfl⟩
  | node => exact ⟨_, rfl⟩
theorem Sh.det {w : VM.W} {E : List ET} {ns : List Int} (s : Sh w E ns) : ∀ {ns' : List Int}, E.Nodup → Sh w E ns' → ns = ns' := by
  induction s with
  | nil =>
    intro ns' _ s'
    rcases s'.inv with ⟨_, _, rfl⟩ | ⟨_, _, _, _, _, _, _, t, l, r, _, _, e, _⟩
    · rfl
    · cases e
  | @node n ht i j e wl wr t l r nl nr h1 h2 h3 h4 h5 h6 h7 ih1 ih2 =>
    intro ns' nd s'
    rcases s'.inv with ⟨e, _, _⟩ | ⟨n', ht', i', j', e', wl', wr', t', l', r', nl', nr', e1, e2, e3, q1, q2, s1, s2, _⟩
    · cases e
    · subst e3
      subst h2
      subst q2
      obtain ⟨z1, z2, _, _, z5⟩ := head_inj e1
      subst z2
      cases z1
      cases z5
      obtain ⟨a1, a2, a3⟩ := split_at nd rfl
      obtain ⟨b1, b2, b3⟩ := split_at nd e2
      rw [a1] at b1
      have hll : l.length = l'.length := Option.some.inj b1
      rw [← hll, a2] at b2
      rw [← hll, a3] at b3
      subst b2
      subst b3
      rw [List.nodup_append] at nd
      rw [ih1 nd.1 s1, ih2 (List.nodup_cons.mp nd.2.1).2 s2]
theorem slice_lo {h : VH} {E : List ET} {i : Nat} : frzR h (slcW (.fz (E.map enc)) none (some (i : Int)) h) = .ok (.fz ((E.take i).map enc)) h := by
  rw [slc_fz, frzR_ok, cut_take (by omega), Int.toNat_natCast, ← List.map_take]
  exact frzW_new rfl nrs_enc
theorem slice_hi {h : VH} {E : List ET} {i : Nat} : frzR h (slcW (.fz (E.map enc)) (some ((i : Int) + 1)) none h) = .ok (.fz ((E.drop (i + 1)).map enc)) h := by
  rw [slc_fz, frzR_ok, cut_drop (by omega), show ((i : Int) + 1).toNat = i + 1 by omega, ← List.map_drop]
  exact frzW_new rfl nrs_enc
theorem E_nil {h : VH} {E : List ET} : cmpW h .eq (.fz (E.map enc)) (.fz []) = some (decide (E = [])) := eq_nil_fz ET_depth
theorem is_tree : ∀ (m k d : Nat) (w : VM.W) (E : List ET) (ks : List Int) (h : VH), E.length ≤ m → m + 4 ≤ k → E.Nodup → Dt w → h.f d = some (.dic false (dk ks)) → d < h.n → ks.length + E.length < 900 →
    ∃ b ks', cal T k 23 [w, .fz (E.map enc), .ref d] h = .ok (.bl b) (h.set d (.dic false (dk ks'))) ∧
      (b = true → ∃ ns, Sh w E ns ∧ ns.Nodup ∧ (∀ n ∈ ns, n ∉ ks) ∧ ks' = ks ++ ns ∧ ns.length = E.length) ∧
      (b = false → ¬ ∃ ns, Sh w E ns ∧ ns.Nodup ∧ ∀ n ∈ ns, n ∉ ks) := by
  intro m
  induction m with
  | zero =>
    intro k d w E ks h hm hk hE p hd hdn hl
    obtain rfl : E = [] := List.eq_nil_of_length_eq_zero (by omega)
    obtain ⟨k, rfl⟩ := Nat.exists_eq_add_of_le' (show 1 ≤ k by omega)
    refine ⟨w.isNon, ks, ?_, ?_, ?_⟩
    · rw [cal_run fn23 rfl rfl, set_self hd]
      have e0 := E_nil (h := h) (E := [])
      simp -implicitDefEqProofs at e0
      simp -implicitDefEqProofs [b23, e0]
    · intro hb
      cases w <;> first | exact ⟨[], .nil, List.nodup_nil, fun n hn => absurd hn (List.not_mem_nil), by simp, rfl⟩ | cases hb
    · rintro hb ⟨ns, s, _⟩
      rcases s.inv with ⟨rfl, _⟩ | ⟨_, _, _, _, _, _, _, t, l, r, _, _, _, e, _⟩
      · cases hb
      · cases l <;> cases e
  | succ m ih =>
    intro k d w E ks h hm hk hE p hd hdn hl
    obtain ⟨k, rfl⟩ := Nat.exists_eq_add_of_le' (show 4 ≤ k by omega)
    by_cases hnil : E = []
    · subst hnil
      refine ⟨w.isNon, ks, ?_, ?_, ?_⟩
      · rw [cal_run fn23 rfl rfl, set_self hd]
        have e0 := E_nil (h := h) (E := [])
        simp -implicitDefEqProofs at e0
        simp -implicitDefEqProofs [b23, e0]
      · intro hb
        cases w <;> first | exact ⟨[], .nil, List.nodup_nil, fun n hn => absurd hn (List.not_mem_nil), by simp, rfl⟩ | cases hb
      · rintro hb ⟨ns, s, _⟩
        rcases s.inv with ⟨rfl, _⟩ | ⟨_, _, _, _, _, _, _, t, l, r, _, _, _, e, _⟩
        · cases hb
        · cases l <;> cases e
    · have e0 := E_nil (h := h) (E := E)
      obtain ⟨b1, ks1, c1, t1, f1⟩ := is_head (k := k) (s := 6) (E := E) p (by omega) hd hdn (by omega)
      have c1 : cal T (k + 3) 21 [w, .int 6, .fz (E.map enc), .ref d] h = .ok (.bl b1) (h.set d (.dic false (dk ks1))) := c1
      cases b1 with
      | false =>
        refine ⟨false, ks1, ?_, (fun z => nomatch z), fun _ => ?_⟩
        · rw [cal_run fn23 rfl rfl]
          simp -implicitDefEqProofs [b23, e0, hnil, c1, trimR_set nr_bl hdn dk_ob Ext_refl]
        · rintro ⟨ns, s, nd, dj⟩
          rcases s.inv with ⟨_, q, _⟩ | ⟨n, ht, i, j, e, wl, wr, t, l, r, nl, nr, rfl, rfl, rfl, q1, rfl, _⟩
          · exact hnil q
          · exact f1 rfl ⟨n, t, ht, [wl, wr], rfl, rfl, by simp, q1, dj n (List.mem_cons_self ..)⟩
      | true =>
        obtain ⟨n, t, ht, rest, rfl, hr, hmem, hn1, hnk, rfl⟩ := t1 rfl
        obtain ⟨wl, wr, rfl⟩ : ∃ wl wr, rest = [wl, wr] := by
          match rest, hr with
          | [a, b], _ => exact ⟨a, b, rfl⟩
        obtain ⟨l, r, eE⟩ := List.append_of_mem hmem
        obtain ⟨ix, tk, dr⟩ := split_at hE eE
        have hlen : E.length = l.length + (r.length + 1) := by rw [eE]; simp
        have pl : Dt wl := p.mem (by simp)
        have pr : Dt wr := p.mem (by simp)
        have ndE := hE
        rw [eE, List.nodup_append] at ndE
        have hix := fun h : VH => bm_indexE (h := h) (show Datum.depth ET ≤ 60 by decide) t E
        have sl := fun h : VH => slice_lo (h := h) (E := E) (i := l.length)
        have sh := fun h : VH => slice_hi (h := h) (E := E) (i := l.length)
        simp -implicitDefEqProofs only [tk, dr, ix, slc_fz] at sl sh hix
        have hd1 : (h.set d (.dic false (dk (ks ++ [n])))).f d = some (.dic false (dk (ks ++ [n]))) := set_at
        obtain ⟨b2, ks2, c2, t2, f2⟩ := ih (k + 3) d wl l (ks ++ [n]) (h.set d (.dic false (dk (ks ++ [n])))) (by omega) (by omega) ndE.1 pl hd1 (by simpa using hdn) (by simp; omega)
        rw [set_set] at c2
        have wlr : ∀ n' ht' (i j : Int) wl' wr' (t' : ET) (l' r' : List ET) (nl nr : List Int), VM.W.tup [.int n, enc t, .int (E.length : Nat), .int ht, wl, wr] = .tup [.int n', enc t', .int (E.length : Nat), .int ht', wl', wr'] → E = l' ++ t' :: r' → n' = n ∧ ht' = ht ∧ wl' = wl ∧ wr' = wr ∧ t' = t ∧ l' = l ∧ r' = r := by
          intro n' ht' i j wl' wr' t' l' r' nl nr e1 e2
          obtain ⟨q1, q2, _, q4, q5⟩ := head_inj e1
          subst q2
          obtain ⟨ix', tk', dr'⟩ := split_at hE e2
          rw [ix] at ix'
          have hll : l.length = l'.length := Option.some.inj ix'
          rw [← hll, tk] at tk'
          rw [← hll, dr] at dr'
          cases q1; cases q4; cases q5
          exact ⟨rfl, rfl, rfl, rfl, rfl, tk'.symm, dr'.symm⟩
        cases b2 with
        | false =>
          refine ⟨false, ks2, ?_, (fun z => nomatch z), fun _ => ?_⟩
          · rw [cal_run fn23 rfl rfl]
            simp -implicitDefEqProofs [b23, e0, hnil, c1, atI_pos, hix, sl, c2, trimR_set nr_bl hdn dk_ob Ext_refl]
          · rintro ⟨ns, s, nd, dj⟩
            rcases s.inv with ⟨_, q, _⟩ | ⟨n', ht', i, j, e, wl', wr', t', l', r', nl, nr, e1, e2, rfl, q1, rfl, sl', sr', _⟩
            · exact hnil q
            · obtain ⟨rfl, rfl, rfl, rfl, rfl, rfl, rfl⟩ := wlr _ _ i j _ _ _ _ _ nl nr e1 e2
              refine f2 rfl ⟨nl, sl', ?_, ?_⟩
              · exact ((List.nodup_cons.mp nd).2.sublist (List.sublist_append_left nl nr))
              · intro x hx hx2
                rcases List.mem_append.mp hx2 with z | z
                · exact dj x (List.mem_cons_of_mem _ (List.mem_append_left _ hx)) z
                · simp only [List.mem_singleton] at z
                  subst z
                  exact (List.nodup_cons.mp nd).1 (List.mem_append_left _ hx)
        | true =>
          obtain ⟨nl, s2, nd2, dj2, rfl, len2⟩ := t2 rfl
          have hd2 : (h.set d (.dic false (dk (ks ++ [n] ++ nl)))).f d = some (.dic false (dk (ks ++ [n] ++ nl))) := set_at
          obtain ⟨b3, ks3, c3, t3, f3⟩ := ih (k + 3) d wr r (ks ++ [n] ++ nl) (h.set d (.dic false (dk (ks ++ [n] ++ nl)))) (by omega) (by omega) (List.nodup_cons.mp ndE.2.1).2 pr hd2 (by simpa using hdn) (by simp; omega)
          rw [set_set] at c3
          cases b3 with
          | false =>
            refine ⟨false, ks3, ?_, (fun z => nomatch z), fun _ => ?_⟩
            · rw [cal_run fn23 rfl rfl]
              simp -implicitDefEqProofs [b23, e0, hnil, c1, atI_pos, hix, sl, sh, c2, c3, -List.append_assoc, trimR_set nr_bl hdn dk_ob Ext_refl]
            · rintro ⟨ns, s, nd, dj⟩
              rcases s.inv with ⟨_, q, _⟩ | ⟨n', ht', i, j, e, wl', wr', t', l', r', nl', nr, e1, e2, rfl, q1, rfl, sl', sr', _⟩
              · exact hnil q
              · obtain ⟨rfl, rfl, rfl, rfl, rfl, rfl, rfl⟩ := wlr _ _ i j _ _ _ _ _ nl' nr e1 e2
                obtain rfl : nl' = nl := Sh.det sl' ndE.1 s2
                refine f3 rfl ⟨nr, sr', ?_, ?_⟩
                · exact ((List.nodup_cons.mp nd).2.sublist (List.sublist_append_right nl' nr))
                · intro x hx hx2
                  rcases List.mem_append.mp hx2 with z | z
                  · rcases List.mem_append.mp z with z | z
                    · exact dj x (List.mem_cons_of_mem _ (List.mem_append_right _ hx)) z
                    · simp only [List.mem_singleton] at z
                      subst z
                      exact (List.nodup_cons.mp nd).1 (List.mem_append_right _ hx)
                  · exact (List.nodup_append.mp (List.nodup_cons.mp nd).2).2.2 x z x hx rfl
          | true =>
            obtain ⟨nr, s3, nd3, dj3, rfl, len3⟩ := t3 rfl
            obtain ⟨i, hi⟩ := s2.ht
            obtain ⟨j, hj⟩ := s3.ht
            have c4 := fun h : VH => are_upright (k := k + 1) (a := .int n) (b := enc t) (c := .int (E.length : Nat)) (rest := [wl, wr]) (x := ht) (h := h) pl pr hi hj
            refine ⟨upright ht i j, ks ++ [n] ++ nl ++ nr, ?_, ?_, ?_⟩
            · rw [cal_run fn23 rfl rfl]
              simp -implicitDefEqProofs [b23, e0, hnil, c1, atI_pos, hix, sl, sh, c2, c3, c4, -List.append_assoc, trimR_set nr_bl hdn dk_ob Ext_refl]
            · intro hb
              refine ⟨n :: (nl ++ nr), ?_, ?_, ?_, by simp, by simp [len2, len3, hlen]; omega⟩
              · have := ShG.node (R := fun e t => e = enc t) (t := t) hn1 rfl s2 s3 hi hj hb
                rw [← eE] at this
                exact this
              · rw [List.nodup_cons, List.nodup_append]
                refine ⟨fun z => ?_, nd2, nd3, fun a ha b hb' e => ?_⟩
                · rcases List.mem_append.mp z with z | z
                  · exact dj2 n z (by simp)
                  · exact dj3 n z (by simp)
                · subst e
                  exact dj3 a hb' (by simp [ha])
              · intro x hx
                rcases List.mem_cons.mp hx with rfl | hx
                · exact hnk
                · rcases List.mem_append.mp hx with z | z
                  · exact fun y => dj2 x z (by simp [y])
                  · exact fun y => dj3 x z (by simp [y])
            · rintro hb ⟨ns, s, _⟩
              rcases s.inv with ⟨_, q, _⟩ | ⟨n', ht', i', j', e, wl', wr', t', l', r', nl', nr', e1, e2, rfl, q1, rfl, sl', sr', z1, z2, z3⟩
              · exact hnil q
              · obtain ⟨rfl, rfl, rfl, rfl, rfl, rfl, rfl⟩ := wlr _ _ i' j' _ _ _ _ _ nl' nr' e1 e2
                rw [hi] at z1
                rw [hj] at z2
                cases z1
                cases z2
                rw [z3] at hb
                cases hb

/-- what an entry is taken for -/
def numL : VM.W → Option Int
  | .int i => some i
  | .bl b => some (if b = true then 1 else 0)
  | _ => none
def Like (e : VM.W) (t : ET) : Prop := ∃ x y, e = .tup [x, y, .str t.c] ∧ numL x = some t.a ∧ numL y = some t.b
theorem eqv_int {i : Int} {d : PyData} {w : VM.W} (e : datW w = some d) : PyData.eqv (.int i) d = true ↔ numL w = some i := by
  cases w <;> (unfold datW at e; rw [pdW] at e)
  · cases e; simp [PyData.eqv, numL]
  · cases e; simp [PyData.eqv, numL]; constructor <;> intro z <;> exact z.symm
  · cases e; simp [PyData.eqv, numL]; constructor <;> intro z <;> exact z.symm
  · cases e; simp [PyData.eqv, numL]
  · cases q : pdL (fun _ => none) ‹List VM.W› <;> rw [q] at e <;> cases e <;> simp [PyData.eqv, numL]
  · cases e
  · cases e
  · cases q : pdL (fun _ => none) ‹List VM.W› <;> rw [q] at e <;> cases e <;> simp [PyData.eqv, numL]
  · cases e
theorem eqv_str {s : Str} {d : PyData} {w : VM.W} (e : datW w = some d) : PyData.eqv (.str s) d = true ↔ w = .str s := by
  cases w <;> (unfold datW at e; rw [pdW] at e)
  · cases e; simp [PyData.eqv]
  · cases e; simp [PyData.eqv]
  · cases e; simp [PyData.eqv]
  · cases e; simp [PyData.eqv]; constructor <;> intro z <;> exact z.symm
  · cases q : pdL (fun _ => none) ‹List VM.W› <;> rw [q] at e <;> cases e <;> simp [PyData.eqv]
  · cases e
  · cases e
  · cases q : pdL (fun _ => none) ‹List VM.W› <;> rw [q] at e <;> cases e <;> simp [PyData.eqv]
  · cases e
theorem like_iff {t : ET} {d : PyData} {w : VM.W} (e : datW w = some d) : PyData.eqv (Datum.toD t) d = true ↔ Like w t := by
  have e0 := e
  constructor
  · intro h
    have h : PyData.eqv (.tuple [.int t.a, .int t.b, .str t.c]) d = true := h
    cases w <;> (unfold datW at e; rw [pdW] at e)
    · cases e; simp [PyData.eqv] at h
    · cases e; simp [PyData.eqv] at h
    · cases e; simp [PyData.eqv] at h
    · cases e; simp [PyData.eqv] at h
    · rename_i ws
      obtain ⟨ds, e1, rfl⟩ := datW_tupI e0
      match ws, ds, e1, h with
      | [], [], e1, h => simp [eqv_tt, eqva_cc, eqva_cn, eqva_nc] at h
      | [x], ds, e1, h =>
        have := (datL_mem e1).2
        match ds, this with
        | [_], _ => simp [eqv_tt, eqva_cc, eqva_cn, eqva_nc] at h
      | [x, y], ds, e1, h =>
        have := (datL_mem e1).2
        match ds, this with
        | [_, _], _ => simp [eqv_tt, eqva_cc, eqva_cn, eqva_nc] at h
      | [x, y, z], ds, e1, h =>
        have hl := (datL_mem e1).2
        match ds, hl with
        | [dx, dy, dz], _ =>
          unfold datL at e1
          obtain ⟨d1, r1, q1, q2, q3⟩ := pdL_consI e1
          obtain ⟨d2, r2, q4, q5, q6⟩ := pdL_consI q3
          obtain ⟨d3, r3, q7, q8, q9⟩ := pdL_consI q6
          cases q1; cases q4; cases q7
          simp only [eqv_tt, eqva_cc, eqva_nn, Bool.and_true, Bool.and_eq_true] at h
          refine ⟨x, y, ?_, (eqv_int q2).mp h.1, (eqv_int q5).mp h.2.1⟩
          rw [(eqv_str q8).mp h.2.2]
      | _ :: _ :: _ :: _ :: _, ds, e1, h =>
        have := (datL_mem e1).2
        match ds, this with
        | _ :: _ :: _ :: _ :: _, _ => simp [eqv_tt, eqva_cc, eqva_cn, eqva_nc] at h
    · cases e
    · cases e
    · cases q : pdL (fun _ => none) ‹List VM.W› <;> rw [q] at e <;> cases e <;> simp [PyData.eqv] at h
    · cases e
  · rintro ⟨x, y, rfl, h1, h2⟩
    obtain ⟨ds, e1, rfl⟩ := datW_tupI e0
    have hl := (datL_mem e1).2
    match ds, hl with
    | [dx, dy, dz], _ =>
      unfold datL at e1
      obtain ⟨d1, r1, q1, q2, q3⟩ := pdL_consI e1
      obtain ⟨d2, r2, q4, q5, q6⟩ := pdL_consI q3
      obtain ⟨d3, r3, q7, q8, q9⟩ := pdL_consI q6
      cases q1; cases q4; cases q7
      show PyData.eqv (.tuple [.int t.a, .int t.b, .str t.c]) _ = true
      simp only [eqv_tt, eqva_cc, eqva_nn, Bool.and_true, Bool.and_eq_true]
      refine ⟨?_, ?_, ?_⟩
      · exact (eqv_int q2).mpr h1
      · exact (eqv_int q5).mpr h2
      · exact (eqv_str (s := t.c) q8).mpr rfl
theorem Like.uniq {e : VM.W} {t t' : ET} (a : Like e t) (b : Like e t') : t = t' := by
  obtain ⟨x, y, rfl, h1, h2⟩ := a
  obtain ⟨x', y', e2, h3, h4⟩ := b
  simp only [VM.W.tup.injEq, List.cons.injEq, VM.W.str.injEq] at e2
  obtain ⟨rfl, rfl, e3, _⟩ := e2
  rw [h1] at h3
  rw [h2] at h4
  cases t; cases t'
  cases h3; cases h4; cases e3
  rfl
theorem Like.enc (t : ET) : Like (enc t) t := ⟨_, _, rfl, rfl, rfl⟩
theorem in_like {h : VH} {e : VM.W} {E : List ET} (p : Dt e) : ∃ b, cmpW h .notin e (.fz (E.map enc)) = some (!b) ∧ (b = true → ∃ t ∈ E, Like e t) ∧ (b = false → ¬ ∃ t ∈ E, Like e t) := by
  obtain ⟨d, hd, hs⟩ := p
  refine ⟨(E.map Datum.toD).any fun z => PyData.eqv z d, ?_, ?_, ?_⟩
  · show (inW h e (.fz (E.map enc))).map _ = _
    rw [inW_fz, inItems_dat hd (datL_enc E) hs (toD_small (by decide))]
    rfl
  · intro hb
    obtain ⟨z, hz, q⟩ := List.any_eq_true.mp hb
    obtain ⟨t, ht, rfl⟩ := List.mem_map.mp hz
    exact ⟨t, ht, (like_iff hd).mp q⟩
  · rintro hb ⟨t, ht, q⟩
    rw [List.any_eq_false] at hb
    exact hb _ (List.mem_map_of_mem ht) ((like_iff hd).mpr q)
theorem ix_like {h : VH} {e : VM.W} {E l r : List ET} {t : ET} (p : Dt e) (q : Like e t) (hE : E.Nodup) (eE : E = l ++ t :: r) : bmW .index (.fz (E.map enc)) [e] h = .ok (.int (l.length : Nat)) h := by
  obtain ⟨d, hd, hs⟩ := p
  show R.of h (((lstW h (.fz (E.map enc))).bind (idxOf h e)).map _) = _
  simp only [lstW, Option.bind_some]
  rw [idxOf_dat hd (datL_enc E) hs (toD_small (by decide)), List.findIdx?_map]
  have : ((fun z => PyData.eqv z d) ∘ (Datum.toD : ET → PyData)) = fun x => decide (x = t) := by
    funext x
    show PyData.eqv (Datum.toD x) d = _
    rw [Bool.eq_iff_iff, decide_eq_true_eq, like_iff hd]
    constructor
    · intro z; exact z.uniq q
    · rintro rfl; exact q
  rw [this, (split_at hE eE).1]
  rfl

theorem Like.det {w : VM.W} {n n' c c' ht ht' : Int} {e e' wl wr wl' wr' : VM.W} (h : VM.W.tup [.int n, e, .int c, .int ht, wl, wr] = .tup [.int n', e', .int c', .int ht', wl', wr']) : n = n' ∧ e = e' ∧ c = c' ∧ ht = ht' ∧ wl = wl' ∧ wr = wr' := by
  simp only [VM.W.tup.injEq, List.cons.injEq, VM.W.int.injEq] at h
  obtain ⟨h1, h2, h3, h4, h5, h6, _⟩ := h
  exact ⟨h1, h2, h3, h4, h5, h6⟩
/-- what is walked there, in two turns -/
theorem go_two {f : VM.W → VS → VH → R Fl} {a b : VM.W} {s : VS} {h : VH} : forGo (fun _ => True) f [a, b] s h = (f a s h).bind fun fl h1 => match fl with
    | .nx s1 => (f b s1 h1).bind fun fl h2 => (match fl with
      | .nx s2 => .ok (.nx s2) h2
      | .ct s2 => .ok (.nx s2) h2
      | .rt v => .ok (.rt v) h2)
    | .ct s1 => (f b s1 h1).bind fun fl h2 => (match fl with
      | .nx s2 => .ok (.nx s2) h2
      | .ct s2 => .ok (.nx s2) h2
      | .rt v => .ok (.rt v) h2)
    | .rt v => .ok (.rt v) h1 := by
  unfold forGo
  rw [if_pos trivial]
  congr 1
  funext fl h1
  cases fl with
  | rt v => rfl
  | nx s1 =>
    show forGo (fun _ => True) f [b] s1 h1 = _
    unfold forGo
    rw [if_pos trivial]
    congr 1
    funext fl h2
    cases fl <;> first | rfl | (show forGo (fun _ => True) f [] _ h2 = _; unfold forGo; rw [if_pos trivial])
  | ct s1 =>
    show forGo (fun _ => True) f [b] s1 h1 = _
    unfold forGo
    rw [if_pos trivial]
    congr 1
    funext fl h2
    cases fl <;> first | rfl | (show forGo (fun _ => True) f [] _ h2 = _; unfold forGo; rw [if_pos trivial])
theorem comp_two {f : VM.W → VH → R (Option VM.W)} {a b x y : VM.W} {h : VH} (h1 : f a h = .ok (some x) h) (h2 : f b h = .ok (some y) h) : compGo (fun _ => True) f [a, b] h = .ok [x, y] h := by
  unfold compGo
  rw [if_pos trivial, h1, R.nx_ok, R.bind_ok]
  unfold compGo
  rw [if_pos trivial, h2, R.nx_ok, R.bind_ok]
  unfold compGo
  rw [if_pos trivial]
  rfl
theorem ty_non : tyW .tuple .non = false := by unfold tyW; rfl
theorem isNT {w : VM.W} {E : List ET} {ns : List Int} (s : Sh w E ns) : (w = .non ∧ ns = []) ∨ (tyW .tuple w = true ∧ w.isNon = false) := by
  cases s with
  | nil => exact .inl ⟨rfl, rfl⟩
  | node => exact .inr ⟨rfl, rfl⟩
/-- the sides of these boxes, from key k on, with their numbers -/
inductive SS (its : List IT) : Nat → List VM.W → List Int → Prop
  | nil {k : Nat} : SS its k [] []
  | cons {k : Nat} {a b : VM.W} {ws : List VM.W} {na nb ns : List Int} : Sh a (entsL (2 * k + 1) its) na → Sh b (entsL (2 * k + 2) its) nb → SS its (k + 1) ws ns → SS its k (.tup [a, b] :: ws) (na ++ (nb ++ ns))
def sidesOk (keys : Nat) (its : List IT) (w : VM.W) : Prop := ∃ ws ns, w = .tup ws ∧ ws.length = keys ∧ SS its 0 ws ns ∧ ns.Nodup
theorem SS.split {its : List IT} {k : Nat} {ws : List VM.W} {ns : List Int} (s : SS its k ws ns) : ∀ {i : Nat} {x : VM.W}, ws[i]? = some x → ∃ a b ns1 na nb ns2, x = .tup [a, b] ∧ SS its k (ws.take i) ns1 ∧ Sh a (entsL (2 * (k + i) + 1) its) na ∧ Sh b (entsL (2 * (k + i) + 2) its) nb ∧ ns = ns1 ++ (na ++ (nb ++ ns2)) := by
  induction s with
  | nil => intro i x e; simp at e
  | @cons k a b ws na nb ns h1 h2 h3 ih =>
    intro i x e
    cases i with
    | zero =>
      simp at e
      subst e
      exact ⟨a, b, [], na, nb, ns, rfl, .nil, h1, h2, rfl⟩
    | succ i =>
      simp at e
      obtain ⟨a', b', ns1, na', nb', ns2, rfl, q1, q2, q3, rfl⟩ := ih e
      refine ⟨a', b', na ++ (nb ++ ns1), na', nb', ns2, rfl, .cons h1 h2 q1, ?_, ?_, by simp⟩
      · rw [show k + (i + 1) = k + 1 + i by omega]; exact q2
      · rw [show k + (i + 1) = k + 1 + i by omega]; exact q3
theorem SS.snoc {its : List IT} {k : Nat} {ws : List VM.W} {ns : List Int} (s : SS its k ws ns) : ∀ {a b : VM.W} {na nb : List Int}, Sh a (entsL (2 * (k + ws.length) + 1) its) na → Sh b (entsL (2 * (k + ws.length) + 2) its) nb → SS its k (ws ++ [.tup [a, b]]) (ns ++ (na ++ nb)) := by
  induction s with
  | nil =>
    intro a b na nb h1 h2
    have := SS.cons (k := ‹Nat›) (its := its) (by simpa using h1) (by simpa using h2) (SS.nil (k := _ + 1))
    simpa using this
  | @cons k a b ws na nb ns h1 h2 h3 ih =>
    intro a' b' na' nb' q1 q2
    have := ih (a := a') (b := b') (na := na') (nb := nb') (by rw [show k + 1 + ws.length = k + (ws.length + 1) by omega]; exact q1) (by rw [show k + 1 + ws.length = k + (ws.length + 1) by omega]; exact q2)
    have := SS.cons h1 h2 this
    simpa using this
theorem SS.det {its : List IT} (hn : ∀ lev, (entsL lev its).Nodup) {k : Nat} {ws : List VM.W} {ns : List Int} (s : SS its k ws ns) : ∀ {ns' : List Int}, SS its k ws ns' → ns = ns' := by
  induction s with
  | nil => intro ns' s'; cases s'; rfl
  | cons h1 h2 h3 ih =>
    intro ns' s'
    cases s' with
    | cons q1 q2 q3 => rw [h1.det (hn _) q1, h2.det (hn _) q2, ih q3]
theorem entL_inj {lev : Nat} {a b : IT} (h : entL lev a = entL lev b) : a.1 = b.1 := by
  unfold entL at h
  split at h <;> exact congrArg T3.c h
theorem ents_nodup {its : List IT} (h : (its.map (·.1)).Nodup) (lev : Nat) : (entsL lev its).Nodup := by
  unfold entsL
  refine (sortE_perm _).nodup_iff.mpr ?_
  unfold List.Nodup at h ⊢
  rw [List.pairwise_map] at h ⊢
  exact h.imp fun hab e => hab (entL_inj e)
theorem ents_len {its : List IT} {lev : Nat} : (entsL lev its).length = its.length := by simp [entsL]
theorem entL_odd (i : Nat) : entL (2 * i + 1) = entLo i := by
  funext it
  unfold entL
  rw [if_pos (by omega), show (2 * i + 1 - 1) / 2 = i by omega]
theorem entL_even (i : Nat) : entL (2 * i + 2) = entHi i := by
  funext it
  unfold entL
  rw [if_neg (by omega), show (2 * i + 2 - 1) / 2 = i by omega]
theorem enumG : ∀ {ws : List VM.W} {k i : Nat} {w : VM.W}, (enumW k ws)[i]? = some w → ∃ x, ws[i]? = some x ∧ w = .tup [.int ((k + i : Nat) : Int), x]
  | [], _, _, _, e => by simp [enumW] at e
  | x :: ws, k, 0, w, e => by simp [enumW] at e; exact ⟨x, rfl, by simpa using e.symm⟩
  | x :: ws, k, i + 1, w, e => by
    simp only [enumW, List.getElem?_cons_succ] at e
    obtain ⟨y, e1, e2⟩ := enumG e
    refine ⟨y, by simpa using e1, ?_⟩
    rw [e2]
    have : k + 1 + i = k + (i + 1) := by omega
    rw [this]
theorem enumL : ∀ {ws : List VM.W} {k : Nat}, (enumW k ws).length = ws.length
  | [], _ => rfl
  | x :: ws, k => by simp [enumW, enumL]
theorem its_box {keys : Nat} {its : List IT} (ok : itemsOk keys its = true) : ∀ it ∈ its, it.2.items.length = keys := by
  unfold itemsOk at ok
  simp only [Bool.and_eq_true, List.all_eq_true] at ok
  intro it hi
  have := ok.1 it hi
  unfold itemOk at this
  simp only [Bool.and_eq_true, decide_eq_true_eq] at this
  exact this.2.1
theorem its_nodup {keys : Nat} {its : List IT} (ok : itemsOk keys its = true) : (its.map (·.1)).Nodup := by
  unfold itemsOk at ok
  simp only [Bool.and_eq_true, decide_eq_true_eq] at ok
  exact ok.2
theorem its_short {keys : Nat} {its : List IT} (ok : itemsOk keys its = true) (hk : keys ≤ 100) : ∀ it ∈ its, it.1.length ≤ 1000 ∧ it.2.items.length ≤ 100 := by
  intro it hi
  refine ⟨?_, by rw [its_box ok it hi]; exact hk⟩
  unfold itemsOk at ok
  simp only [Bool.and_eq_true, List.all_eq_true] at ok
  have := ok.1 it hi
  unfold itemOk small8 at this
  simp only [Bool.and_eq_true, decide_eq_true_eq] at this
  have h8 := this.1.1.2
  simp [Str.length] at h8 ⊢
  omega
theorem take_one {α : Type} {ws : List α} {i : Nat} {x : α} (e : ws[i]? = some x) : ws.take (i + 1) = ws.take i ++ [x] := by
  rw [List.take_add_one, e]; rfl
theorem sides_taken {n keys : Nat} {its : List IT} {w : VM.W} {h : VH} (hk : 1 ≤ keys ∧ keys ≤ 3) (ok : itemsOk keys its = true) (hl : its.length ≤ 14) (p : Dt w) :
    ∃ b, cal T (n + 20) 32 [.int (keys : Nat), .fz (its.map enc), w] h = .ok (.bl b) h ∧ (b = true ↔ sidesOk keys its w) := by
  have hb := its_box ok
  have hnd := its_nodup ok
  have ai := fun h : VH => are_items (k := n + 14) (n := keys) (h := h) (its_short ok (by omega)) (show its.length ≤ 1000 by omega)
  rw [ok] at ai
  have ak : ∀ h : VH, cal T (n + 19) 10 [.int (keys : Nat)] h = .ok (.bl true) h := fun h => by
    have := are_keys (k := n + 17) (i := (keys : Nat)) (h := h)
    rw [this, decide_eq_true (by omega)]
  by_cases hw : ∃ ws, w = .tup ws ∧ ws.length = keys
  · obtain ⟨ws, rfl, hlen⟩ := hw
    have hlen' : ((ws.length : Nat) : Int) = (keys : Nat) := by omega
    have key : Tr (cal T (n + 20) 32 [.int (keys : Nat), .fz (its.map enc), .tup ws] h) fun v h' => h' = h ∧ ((v = .bl true ∧ sidesOk keys its (.tup ws)) ∨ (v = .bl false ∧ ¬ sidesOk keys its (.tup ws))) := by
      rw [cal_run fn32 rfl rfl]
      simp -implicitDefEqProofs [b32, ak, ai, bi_is p.val, tyW, hlen']
      rw [forB_of (k := .enum) (ws := [.tup ws]) rfl src_enumT]
      refine Tr.imp (Q := fun fl h' => (∃ o1 o2 o3 o4 o5 ks, fl = Fl.nx [some (.int (keys : Nat)), some (.fz (its.map enc)), some (.tup ws), some (.ref h.n), o1, o2, o3, o4, o5] ∧ h' = h.alloc (.dic false (dk ks)) ∧ SS its 0 ws ks ∧ ks.Nodup) ∨ ∃ ks, fl = Fl.rt (.bl false) ∧ h' = h.alloc (.dic false (dk ks)) ∧ ¬ sidesOk keys its (.tup ws))
        (for_tr (fun i s h' => ∃ o1 o2 o3 o4 o5 ks, s = [some (.int (keys : Nat)), some (.fz (its.map enc)), some (.tup ws), some (.ref h.n), o1, o2, o3, o4, o5] ∧ h' = h.alloc (.dic false (dk ks)) ∧ SS its 0 (ws.take i) ks ∧ ks.Nodup ∧ ks.length ≤ i * 28 ∧ i ≤ 3) ⟨_, _, _, _, _, [], rfl, rfl, .nil, List.nodup_nil, by simp, by omega⟩ (fun _ _ _ _ => trivial) ?_ ?_) ?_
      · rintro i x s h' e ⟨o1, o2, o3, o4, o5, ks, rfl, rfl, hss, hksn, hksl, hi3⟩
        obtain ⟨side, e1, rfl⟩ := enumG e
        have hi : i < ws.length := (List.getElem?_eq_some_iff.mp e1).1
        have ps : Dt side := p.mem (List.mem_of_getElem? e1)
        have nope : (¬ ∃ a b na nb, side = .tup [a, b] ∧ Sh a (entsL (2 * i + 1) its) na ∧ Sh b (entsL (2 * i + 2) its) nb ∧ (ks ++ (na ++ nb)).Nodup) → ¬ sidesOk keys its (.tup ws) := by
          rintro hno ⟨ws', ns, e2, _, s2, nd⟩
          cases e2
          obtain ⟨a, b, ns1, na, nb, ns2, rfl, q1, q2, q3, rfl⟩ := s2.split e1
          obtain rfl := hss.det (ents_nodup hnd) q1
          rw [Nat.zero_add] at q2 q3
          refine hno ⟨a, b, na, nb, rfl, q2, q3, ?_⟩
          refine nd.sublist ?_
          exact (List.Sublist.refl _).append (by rw [← List.append_assoc]; exact List.sublist_append_left _ _)
        by_cases hside : ∃ a b, side = .tup [a, b]
        · obtain ⟨a, b, rfl⟩ := hside
          have srt := fun (xs : List ET) (hx : xs.length ≤ 16777216) (h : VH) => bi_sortedE (h := h) (show Datum.depth ET ≤ 60 by decide) ET_tup hx
          have m1 : ∀ h, binW .mul (.int 2) (.int (i : Int)) h = .ok (.int (2 * (i : Int))) h := fun h => mul_ls (by omega)
          have el : sortE (its.map (entLo i)) = entsL (2 * i + 1) its := by unfold entsL; rw [entL_odd]
          have eh : sortE (its.map (entHi i)) = entsL (2 * i + 2) its := by unfold entsL; rw [entL_even]
          obtain ⟨b1, ks1, c1, t1, f1⟩ := is_tree 14 (n + 19) h.n a (entsL (2 * i + 1) its) ks (h.alloc (.dic false (dk ks))) (by rw [ents_len]; exact hl) (by omega) (ents_nodup hnd _) (ps.mem (by simp)) alloc_at (by simp) (by rw [ents_len]; omega)
          rw [alloc_set] at c1
          have psv := ps.val
          simp -implicitDefEqProofs [b32_2, bi_is psv, tyW, m1]
          rw [comp_enc (xs := its) (enc := enc) (fun it => enc (entLo i it)) (ws := [.fz (its.map enc)]) (h1 := h.alloc (.dic false (dk ks))) rfl src_fz (by omega) (fun it hit => by
            simp -implicitDefEqProofs [b32_0, wipeV, m1, entry_lo (show i < it.2.items.length by rw [hb it hit]; omega)])]
          have em : (its.map fun it => enc (entLo i it)) = (its.map (entLo i)).map enc := by rw [List.map_map]; rfl
          have em2 : (its.map fun it => enc (entHi i it)) = (its.map (entHi i)).map enc := by rw [List.map_map]; rfl
          rw [em]
          simp -implicitDefEqProofs only [R.bind_ok, frzR_ok, frzW_new rfl nrs_enc, srt (its.map (entLo i)) (by simp; omega), el, Tr_ok]
          rw [comp_enc (xs := its) (enc := enc) (fun it => enc (entHi i it)) (ws := [.fz (its.map enc)]) (h1 := h.alloc (.dic false (dk ks))) rfl src_fz (by omega) (fun it hit => by
            simp -implicitDefEqProofs [b32_1, wipeV, m1, entry_hi (show i < it.2.items.length by rw [hb it hit]; omega)])]
          rw [em2]
          simp -implicitDefEqProofs only [R.bind_ok, frzR_ok, frzW_new rfl nrs_enc, srt (its.map (entHi i)) (by simp; omega), eh, Tr_ok]
          cases b1 with
          | false =>
            simp -implicitDefEqProofs [atI_pos, c1]
            exact ⟨⟨_, rfl⟩, nope (by
              rintro ⟨a', b', na, nb, e2, q2, q3, nd⟩
              cases e2
              refine f1 rfl ⟨na, q2, ?_, ?_⟩
              · rw [List.nodup_append] at nd
                exact nd.2.1.sublist (List.sublist_append_left _ _)
              · intro x hx hx2
                rw [List.nodup_append] at nd
                exact nd.2.2 x hx2 x (List.mem_append_left _ hx) rfl)⟩
          | true =>
            obtain ⟨na, s1, nd1, dj1, rfl, len1⟩ := t1 rfl
            rw [ents_len] at len1
            obtain ⟨b2, ks2, c2, t2, f2⟩ := is_tree 14 (n + 19) h.n b (entsL (2 * i + 2) its) (ks ++ na) (h.alloc (.dic false (dk (ks ++ na)))) (by rw [ents_len]; exact hl) (by omega) (ents_nodup hnd _) (ps.mem (by simp)) alloc_at (by simp) (by rw [ents_len]; simp; omega)
            rw [alloc_set] at c2
            cases b2 with
            | false =>
              simp -implicitDefEqProofs [atI_pos, c1, c2]
              exact ⟨⟨_, rfl⟩, nope (by
                rintro ⟨a', b', na', nb, e2, q2, q3, nd⟩
                cases e2
                obtain rfl := s1.det (ents_nodup hnd _) q2
                rw [← List.append_assoc, List.nodup_append] at nd
                exact f2 rfl ⟨nb, q3, nd.2.1, fun x hx hx2 => nd.2.2 x hx2 x hx rfl⟩)⟩
            | true =>
              obtain ⟨nb, s2, nd2, dj2, rfl, len2⟩ := t2 rfl
              rw [ents_len] at len2
              simp -implicitDefEqProofs [atI_pos, c1, c2]
              refine ⟨ks ++ (na ++ nb), by simp, ?_, ?_, by simp; omega, by omega⟩
              · rw [take_one e1]
                have hti : (ws.take i).length = i := by rw [List.length_take]; omega
                exact hss.snoc (by rw [hti, Nat.zero_add]; exact s1) (by rw [hti, Nat.zero_add]; exact s2)
              · rw [← List.append_assoc, List.nodup_append, List.nodup_append]
                refine ⟨⟨hksn, nd1, fun x hx y hy e => ?_⟩, nd2, fun x hx y hy e => ?_⟩
                · subst e; exact dj1 x hy hx
                · subst e; exact dj2 x hy hx
        · refine Tr.imp (Q := fun fl h' => fl = Fl.rt (.bl false) ∧ h' = h.alloc (.dic false (dk ks))) ?_ ?_
          · by_cases ht : ∃ zs, side = .tup zs
            · obtain ⟨zs, rfl⟩ := ht
              have h2 : ¬ ((zs.length : Nat) : Int) = 2 := fun z => hside (by
                match zs, (show zs.length = 2 by omega) with
                | [a, b], _ => exact ⟨a, b, rfl⟩)
              simp -implicitDefEqProofs [b32_2, bi_is ps.val, tyW, h2]
            · have e0 : tyW .tuple side = false := by
                cases side <;> first | rfl | exact absurd ⟨_, rfl⟩ ht
              simp -implicitDefEqProofs [b32_2, bi_is ps.val, e0]
          · rintro fl h' ⟨rfl, rfl⟩
            exact .inr ⟨ks, rfl, rfl, nope (by rintro ⟨a, b, _, _, e, _⟩; exact hside ⟨a, b, e⟩)⟩
      · rintro s h' ⟨o1, o2, o3, o4, o5, ks, rfl, rfl, hss, hksn, _, _⟩
        rw [enumL, List.take_length] at hss
        exact .inl ⟨_, _, _, _, _, ks, rfl, rfl, hss, hksn⟩
      · rintro fl h' (⟨o1, o2, o3, o4, o5, ks, rfl, rfl, hss, hksn⟩ | ⟨ks, rfl, rfl, hno⟩)
        · have : sidesOk keys its (.tup ws) := ⟨ws, ks, rfl, hlen, hss, hksn⟩
          simp -implicitDefEqProofs [this]
        · simp -implicitDefEqProofs [hno]
    obtain ⟨v, h', e, rfl, q⟩ := key.ok
    rcases q with ⟨rfl, q⟩ | ⟨rfl, q⟩
    · exact ⟨true, e, by simp [q]⟩
    · exact ⟨false, e, by simp [q]⟩
  · refine ⟨false, ?_, ?_⟩
    · rw [cal_run fn32 rfl rfl]
      by_cases ht : ∃ ws, w = .tup ws
      · obtain ⟨ws, rfl⟩ := ht
        have hlen' : ¬ ((ws.length : Nat) : Int) = (keys : Nat) := fun z => hw ⟨ws, rfl, by omega⟩
        simp -implicitDefEqProofs [b32, ak, ai, bi_is p.val, tyW, hlen']
      · have e0 : tyW .tuple w = false := by
          cases w <;> first | rfl | exact absurd ⟨_, rfl⟩ ht
        simp -implicitDefEqProofs [b32, ak, ai, bi_is p.val, e0]
    · constructor
      · intro z; cases z
      · rintro ⟨ws, ns, rfl, e, _⟩
        exact absurd ⟨ws, rfl, e⟩ hw

theorem zipW_map {α β : Type} {f : α → VM.W} {g : β → VM.W} : ∀ {xs : List α} {ys : List β}, zipW (xs.map f) (ys.map g) = (xs.zip ys).map fun p => .tup [f p.1, g p.2]
  | [], ys => by cases ys <;> rfl
  | x :: xs, [] => rfl
  | x :: xs, y :: ys => by simp [zipW, zipW_map (xs := xs) (ys := ys)]
theorem spans_meet {k : Nat} {p q : Int × Int} {h : VH} : cal T (k + 1) 2 [spW p, spW q] h = .ok (.bl (decide (p.1 < q.2) && decide (q.1 < p.2))) h := by
  rw [cal_run fn2 rfl rfl]
  by_cases e : p.1 < q.2 <;> simp -implicitDefEqProofs [b2, spW, atI_pos, e]
theorem span_within {k : Nat} {p q : Int × Int} {h : VH} : cal T (k + 1) 3 [spW p, spW q] h = .ok (.bl (decide (q.1 ≤ p.1) && decide (p.2 ≤ q.2))) h := by
  rw [cal_run fn3 rfl rfl]
  by_cases e : q.1 ≤ p.1 <;> simp -implicitDefEqProofs [b3, spW, atI_pos, e]
def meetP (ps qs : List (Int × Int)) : Bool := (ps.zip qs).all fun p => decide (p.1.1 < p.2.2) && decide (p.2.1 < p.1.2)
def withinP (ps qs : List (Int × Int)) : Bool := (ps.zip qs).all fun p => decide (p.2.1 ≤ p.1.1) && decide (p.1.2 ≤ p.2.2)
def overP (ps : List (Int × Int)) (xs : List Int) : Bool := (ps.zip xs).all fun p => decide (p.1.1 ≤ p.2) && decide (p.2 < p.1.2)
theorem zip_short {α β : Type} {xs : List α} {ys : List β} {n : Nat} (h : xs.length ≤ n) : (xs.zip ys).length ≤ n := by rw [List.length_zip]; omega
theorem boxes_meet {k : Nat} {ps qs : List (Int × Int)} {h : VH} (hl : ps.length ≤ 100) : cal T (k + 2) 7 [boxW ps, boxW qs] h = .ok (.bl (meetP ps qs)) h := by
  rw [cal_run fn7 rfl rfl]
  simp -implicitDefEqProofs [b7, boxW]
  rw [comp_enc (xs := ps.zip qs) (enc := fun p => .tup [spW p.1, spW p.2]) (fun p => .bl (decide (p.1.1 < p.2.2) && decide (p.2.1 < p.1.2))) (ws := [.tup (ps.map spW), .tup (qs.map spW)]) (h1 := h) rfl (by rw [src_zipT, zipW_map]) (Nat.le_trans (zip_short hl) (by decide)) (fun p _ => by simp -implicitDefEqProofs [b7_0, wipeV, spans_meet])]
  simp -implicitDefEqProofs [meetP]
theorem box_within {k : Nat} {ps qs : List (Int × Int)} {h : VH} (hl : ps.length ≤ 100) : cal T (k + 2) 8 [boxW ps, boxW qs] h = .ok (.bl (withinP ps qs)) h := by
  rw [cal_run fn8 rfl rfl]
  simp -implicitDefEqProofs [b8, boxW]
  rw [comp_enc (xs := ps.zip qs) (enc := fun p => .tup [spW p.1, spW p.2]) (fun p => .bl (decide (p.2.1 ≤ p.1.1) && decide (p.1.2 ≤ p.2.2))) (ws := [.tup (ps.map spW), .tup (qs.map spW)]) (h1 := h) rfl (by rw [src_zipT, zipW_map]) (Nat.le_trans (zip_short hl) (by decide)) (fun p _ => by simp -implicitDefEqProofs [b8_0, wipeV, span_within])]
  simp -implicitDefEqProofs [withinP]
theorem has_spot {k : Nat} {ps : List (Int × Int)} {xs : List Int} {h : VH} (hl : ps.length ≤ 100) : cal T (k + 1) 6 [boxW ps, .tup (xs.map VM.W.int)] h = .ok (.bl (overP ps xs)) h := by
  rw [cal_run fn6 rfl rfl]
  simp -implicitDefEqProofs [b6, boxW]
  rw [comp_enc (xs := ps.zip xs) (enc := fun p => .tup [spW p.1, .int p.2]) (fun p => .bl (decide (p.1.1 ≤ p.2) && decide (p.2 < p.1.2))) (ws := [.tup (ps.map spW), .tup (xs.map VM.W.int)]) (h1 := h) rfl (by rw [src_zipT, zipW_map]) (Nat.le_trans (zip_short hl) (by decide)) (fun p _ => by by_cases e : p.1.1 ≤ p.2 <;> simp -implicitDefEqProofs [b6_0, wipeV, spW, atI_pos, e])]
  simp -implicitDefEqProofs [overP]
theorem is_spot {k n : Nat} {xs : List Int} {h : VH} (hl : xs.length ≤ 100) : cal T (k + 2) 5 [.tup (xs.map VM.W.int), .int (n : Nat)] h = .ok (.bl (decide (xs.length = n))) h := by
  rw [cal_run fn5 rfl rfl]
  have d : val (.tup (xs.map VM.W.int)) = true := rfl
  have d1 : ∀ i, val (.int i) = true := fun _ => rfl
  have e : ((xs.length : Int) = (n : Int)) ↔ xs.length = n := by omega
  simp -implicitDefEqProofs [b5, bi_is d, tyW, e]
  by_cases hn : xs.length = n
  · simp -implicitDefEqProofs [hn]
    rw [comp_enc (xs := xs) (enc := VM.W.int) (fun _ => .bl true) (ws := [.tup (xs.map VM.W.int)]) (h1 := h) rfl src_tup (by omega) (fun p _ => by simp -implicitDefEqProofs [b5_0, wipeV, is_whole (d1 _), whole])]
    have ba : ∀ h, biW .all [.fz (xs.map fun _ => VM.W.bl true)] h = .ok (.bl true) h := fun h => by
      have := bi_allM (h := h) (f := fun _ : Int => true) (xs := xs)
      simpa using this
    simp -implicitDefEqProofs [ba]
  · simp -implicitDefEqProofs [hn]

/-- what is asked: a word and a thing -/
inductive Qn where | over (xs : List Int) | meet (qs : List (Int × Int)) | within (qs : List (Int × Int)) | around (qs : List (Int × Int))
def Qn.word : Qn → Str
  | .over _ => "over" | .meet _ => "meeting" | .within _ => "within" | .around _ => "around"
def Qn.thing : Qn → VM.W
  | .over xs => .tup (xs.map VM.W.int) | .meet qs => boxW qs | .within qs => boxW qs | .around qs => boxW qs
def Qn.size : Qn → Nat
  | .over xs => xs.length | .meet qs => qs.length | .within qs => qs.length | .around qs => qs.length
def Qn.ans (ps : List (Int × Int)) : Qn → Bool
  | .over xs => overP ps xs | .meet qs => meetP ps qs | .within qs => withinP ps qs | .around qs => withinP qs ps
theorem is_answer {k : Nat} {q : Qn} {ps : List (Int × Int)} {h : VH} (hl : ps.length ≤ 100) (hq : q.size ≤ 100) : cal T (k + 3) 15 [.str q.word, boxW ps, q.thing] h = .ok (.bl (q.ans ps)) h := by
  rw [cal_run fn15 rfl rfl]
  have e : ∀ s t : Str, ∀ h, cmpW h .eq (.str s) (.str t) = some (decide (s = t)) := fun s t h => rfl
  have w1 : decide ((Str.ofString "meeting") = Str.ofString "over") = false := by decide +kernel
  have w2 : decide ((Str.ofString "within") = Str.ofString "over") = false := by decide +kernel
  have w3 : decide ((Str.ofString "around") = Str.ofString "over") = false := by decide +kernel
  have w4 : decide ((Str.ofString "within") = Str.ofString "meeting") = false := by decide +kernel
  have w5 : decide ((Str.ofString "around") = Str.ofString "meeting") = false := by decide +kernel
  have w6 : decide ((Str.ofString "around") = Str.ofString "within") = false := by decide +kernel
  simp only [decide_eq_false_iff_not] at w1 w2 w3 w4 w5 w6
  cases q with
  | over xs => simp -implicitDefEqProofs [b15, e, Qn.word, Qn.thing, Qn.ans, has_spot hl]
  | meet qs => simp -implicitDefEqProofs [b15, e, Qn.word, Qn.thing, Qn.ans, w1, boxes_meet hl]
  | within qs => simp -implicitDefEqProofs [b15, e, Qn.word, Qn.thing, Qn.ans, w2, w4, box_within hl]
  | around qs =>
    have hq : qs.length ≤ 100 := hq
    simp -implicitDefEqProofs [b15, e, Qn.word, Qn.thing, Qn.ans, w3, w5, w6, box_within hq]

/-- a well formed thing for so many keys -/
def Qn.ok (n : Nat) : Qn → Bool
  | .over xs => decide (xs.length = n)
  | .meet qs => decide (qs.length = n) && qs.all fun p => decide (p.1 < p.2)
  | .within qs => decide (qs.length = n) && qs.all fun p => decide (p.1 < p.2)
  | .around qs => decide (qs.length = n) && qs.all fun p => decide (p.1 < p.2)
theorem is_asked_for {k n : Nat} {q : Qn} {h : VH} (hq : q.size ≤ 100) : cal T (k + 4) 14 [.str q.word, .int (n : Nat), q.thing] h = .ok (.bl (q.ok n)) h := by
  rw [cal_run fn14 rfl rfl]
  have e : ∀ s t : Str, ∀ h, cmpW h .eq (.str s) (.str t) = some (decide (s = t)) := fun s t h => rfl
  have w1 : decide ((Str.ofString "meeting") = Str.ofString "over") = false := by decide +kernel
  have w2 : decide ((Str.ofString "within") = Str.ofString "over") = false := by decide +kernel
  have w3 : decide ((Str.ofString "around") = Str.ofString "over") = false := by decide +kernel
  simp only [decide_eq_false_iff_not] at w1 w2 w3
  cases q with
  | over xs =>
    have hq : xs.length ≤ 100 := hq
    simp -implicitDefEqProofs [b14, e, Qn.word, Qn.thing, Qn.ok, is_spot hq]
  | meet qs =>
    have hq : qs.length ≤ 100 := hq
    simp -implicitDefEqProofs [b14, e, Qn.word, Qn.thing, Qn.ok, w1, is_box hq]
  | within qs =>
    have hq : qs.length ≤ 100 := hq
    simp -implicitDefEqProofs [b14, e, Qn.word, Qn.thing, Qn.ok, w2, is_box hq]
  | around qs =>
    have hq : qs.length ≤ 100 := hq
    simp -implicitDefEqProofs [b14, e, Qn.word, Qn.thing, Qn.ok, w3, is_box hq]

abbrev BT := Tup (Int × Int) × Str
theorem BT_depth : Datum.depth BT ≤ 59 := by decide
theorem BT_tup : (∀ a : BT, ∃ x r, Datum.toD a = .tuple (x :: r)) ∨ ∀ (a : BT) ds, Datum.toD a ≠ .tuple ds := .inl fun a => ⟨_, _, rfl⟩
def flipI (it : IT) : BT := (it.2, it.1)
/-- boxes in their order, with names -/
def ordB (its : List IT) : List BT := sortE (its.map flipI)
/-- what going through tells -/
def dueL (q : Qn) (its : List IT) : List IT := ((ordB its).filter fun p => q.ans p.1.items).map fun p => (p.2, p.1)
theorem ordB_mem {its : List IT} {p : BT} (h : p ∈ ordB its) : (p.2, p.1) ∈ its := by
  unfold ordB at h
  rw [sortE_mem] at h
  obtain ⟨it, hit, rfl⟩ := List.mem_map.mp h
  exact hit
theorem filterMap_if {α : Type} {f : α → Bool} {g : α → VM.W} : ∀ {xs : List α}, (xs.filterMap fun x => if f x = true then some (g x) else none) = (xs.filter f).map g
  | [] => rfl
  | x :: xs => by
    by_cases h : f x = true <;> simp [h, filterMap_if (xs := xs)]
theorem answers_due {k : Nat} {q : Qn} {its : List IT} {h : VH} (hl : its.length ≤ 1000) (hb : ∀ it ∈ its, it.2.items.length ≤ 100) (hq : q.size ≤ 100) : cal T (k + 4) 16 [.str q.word, .fz (its.map enc), q.thing] h = .ok (.fz ((dueL q its).map enc)) h := by
  rw [cal_run fn16 rfl rfl]
  simp -implicitDefEqProofs [b16]
  rw [comp_enc (xs := its) (enc := enc) (fun it => enc (flipI it)) (ws := [.fz (its.map enc)]) (h1 := h) rfl src_fz (by omega) (fun it hi => by simp -implicitDefEqProofs [b16_0, wipeV, enc_pair, flipI])]
  have e1 : (its.map fun it => enc (flipI it)) = (its.map flipI).map enc := by rw [List.map_map]; rfl
  have so : ∀ H : VH, biW .sorted [.fz ((its.map flipI).map enc)] H = .ok (.ref H.n) (H.alloc (.lst ((ordB its).map enc))) := fun H => bi_sortedE (α := BT) (Nat.le_trans BT_depth (by decide)) BT_tup (by simp; omega)
  have n1 : noRefs ((its.map flipI).map enc) = true := nrs_enc
  simp only [List.map_map] at so n1
  rw [e1]
  simp -implicitDefEqProofs [nrs_enc, so, n1]
  have hol : (ordB its).length ≤ 1000 := by simp [ordB]; exact hl
  rw [comp_encT (xs := ordB its) (enc := enc) (fun p => if q.ans p.1.items = true then some (enc ((p.2, p.1) : IT)) else none) (ws := [.fz ((ordB its).map enc)]) (h1 := h) rfl src_fz (by omega) (fun p hp => by
    have hbp : p.1.items.length ≤ 100 := hb _ (ordB_mem hp)
    have ia : ∀ H : VH, cal T (k + 3) 15 [.str q.word, enc p.1, q.thing] H = .ok (.bl (q.ans p.1.items)) H := fun H => is_answer (q := q) (ps := p.1.items) hbp hq
    by_cases c : q.ans p.1.items = true <;> simp -implicitDefEqProofs [b16_1, b16_2, wipeV, enc_pair, ia, c])]
  rw [filterMap_if]
  have e2 : (((ordB its).filter fun p => q.ans p.1.items).map fun p => enc ((p.2, p.1) : IT)) = (dueL q its).map enc := by unfold dueL; rw [List.map_map]; rfl
  rw [e2]
  simp -implicitDefEqProofs [nrs_enc]

/-- the pairs that looks are told by -/
def Qn.pairs : Qn → List (Int × Int)
  | .over xs => xs.map fun x => (x + 1, x)
  | .meet qs => qs.map fun p => (p.2, p.1)
  | .within qs => qs
  | .around qs => qs.map fun p => (p.1 + 1, p.2 - 1)
theorem nrs_spW {ps : List (Int × Int)} : noRefs (ps.map spW) = true := nrs_map fun x _ => nr_spW
theorem pairs_due {k : Nat} {q : Qn} {h : VH} (hq : q.size ≤ 100) : cal T (k + 1) 17 [.str q.word, q.thing] h = .ok (.fz (q.pairs.map spW)) h := by
  rw [cal_run fn17 rfl rfl]
  have e : ∀ s t : Str, ∀ h, cmpW h .eq (.str s) (.str t) = some (decide (s = t)) := fun s t h => rfl
  have w1 : decide ((Str.ofString "meeting") = Str.ofString "over") = false := by decide +kernel
  have w2 : decide ((Str.ofString "within") = Str.ofString "over") = false := by decide +kernel
  have w3 : decide ((Str.ofString "around") = Str.ofString "over") = false := by decide +kernel
  have w4 : decide ((Str.ofString "within") = Str.ofString "meeting") = false := by decide +kernel
  have w5 : decide ((Str.ofString "around") = Str.ofString "meeting") = false := by decide +kernel
  have w6 : decide ((Str.ofString "within") = Str.ofString "around") = false := by decide +kernel
  simp only [decide_eq_false_iff_not] at w1 w2 w3 w4 w5 w6
  cases q with
  | over xs =>
    have hq : xs.length ≤ 100 := hq
    simp -implicitDefEqProofs [b17, e, Qn.word, Qn.thing]
    rw [comp_enc (xs := xs) (enc := VM.W.int) (fun x => spW (x + 1, x)) (ws := [.tup (xs.map VM.W.int)]) (h1 := h) rfl src_tup (by omega) (fun p _ => by simp -implicitDefEqProofs [b17_0, wipeV, spW])]
    have n1 : noRefs (xs.map fun x => spW (x + 1, x)) = true := nrs_map fun x _ => nr_spW
    simp -implicitDefEqProofs [n1, Qn.pairs]
    try rfl
  | meet qs =>
    have hq : qs.length ≤ 100 := hq
    simp -implicitDefEqProofs [b17, e, Qn.word, Qn.thing, w1, boxW]
    rw [comp_enc (xs := qs) (enc := spW) (fun p => spW (p.2, p.1)) (ws := [.tup (qs.map spW)]) (h1 := h) rfl src_tup (by omega) (fun p _ => by simp -implicitDefEqProofs [b17_1, wipeV, spW])]
    have n1 : noRefs (qs.map fun p => spW (p.2, p.1)) = true := nrs_map fun x _ => nr_spW
    simp -implicitDefEqProofs [n1, Qn.pairs]
    try rfl
  | within qs =>
    have hq : qs.length ≤ 100 := hq
    simp -implicitDefEqProofs [b17, e, Qn.word, Qn.thing, w2, w4, w6, boxW, nrs_spW, Qn.pairs]
  | around qs =>
    have hq : qs.length ≤ 100 := hq
    simp -implicitDefEqProofs [b17, e, Qn.word, Qn.thing, w3, w5, boxW]
    rw [comp_enc (xs := qs) (enc := spW) (fun p => spW (p.1 + 1, p.2 - 1)) (ws := [.tup (qs.map spW)]) (h1 := h) rfl src_tup (by omega) (fun p _ => by simp -implicitDefEqProofs [b17_2, wipeV, spW])]
    have n1 : noRefs (qs.map fun p => spW (p.1 + 1, p.2 - 1)) = true := nrs_map fun x _ => nr_spW
    simp -implicitDefEqProofs [n1, Qn.pairs]
    try rfl

/-- a layered tree, as its shape tells it: the last layer's twigs, the inner layers' twigs -/
inductive LT where
  | nil
  | last (n : Int) (e : ET) (c ht lo hi : Int) (l r : LT)
  | inner (n : Int) (e : ET) (c ht : Int) (l r i : LT)
def LT.w : LT → VM.W
  | .nil => .non
  | .last n e c ht lo hi l r => .tup [.int n, enc e, .int c, .int ht, .int lo, .int hi, l.w, r.w]
  | .inner n e c ht l r i => .tup [.int n, enc e, .int c, .int ht, l.w, r.w, i.w]
def LT.ht : LT → Int
  | .nil => 0
  | .last _ _ _ ht _ _ _ _ => ht
  | .inner _ _ _ ht _ _ _ => ht
def LT.nums : LT → List Int
  | .nil => []
  | .last n _ _ _ _ _ l r => n :: (l.nums ++ r.nums)
  | .inner n _ _ _ l r i => n :: (l.nums ++ r.nums ++ i.nums)
theorem LT.htOf (t : LT) : htOf t.w = some t.ht := by cases t <;> rfl
theorem LT.w_inj : ∀ {t t' : LT}, t.w = t'.w → t = t'
  | .nil, .nil, _ => rfl
  | .nil, .last .., e => by simp [LT.w] at e
  | .nil, .inner .., e => by simp [LT.w] at e
  | .last .., .nil, e => by simp [LT.w] at e
  | .inner .., .nil, e => by simp [LT.w] at e
  | .last .., .inner .., e => by simp [LT.w] at e
  | .inner .., .last .., e => by simp [LT.w] at e
  | .last n e c ht lo hi l r, .last n' e' c' ht' lo' hi' l' r', q => by
    simp only [LT.w, VM.W.tup.injEq, List.cons.injEq, VM.W.int.injEq, and_true] at q
    obtain ⟨rfl, q1, rfl, rfl, rfl, rfl, q2, q3⟩ := q
    rw [enc_inj q1, LT.w_inj q2, LT.w_inj q3]
  | .inner n e c ht l r i, .inner n' e' c' ht' l' r' i', q => by
    simp only [LT.w, VM.W.tup.injEq, List.cons.injEq, VM.W.int.injEq, and_true] at q
    obtain ⟨rfl, q1, rfl, rfl, q2, q3, q4⟩ := q
    rw [enc_inj q1, LT.w_inj q2, LT.w_inj q3, LT.w_inj q4]
abbrev OT := ET × IT
theorem OT_depth : Datum.depth OT ≤ 59 := by decide
theorem OT_tup : (∀ a : OT, ∃ x r, Datum.toD a = .tuple (x :: r)) ∨ ∀ (a : OT) ds, Datum.toD a ≠ .tuple ds := .inl fun a => ⟨_, _, rfl⟩
/-- items in the order of a level -/
def ordL (lev : Nat) (its : List IT) : List IT := (sortE (its.map fun it => (entL lev it, it))).map (·.2)
theorem ordL_perm (lev : Nat) (its : List IT) : (ordL lev its).Perm its := by
  unfold ordL
  refine ((sortE_perm (its.map fun it => ((entL lev it, it) : OT))).map Prod.snd).trans ?_
  rw [List.map_map]
  exact List.Perm.of_eq (List.map_id' _)
@[simp] theorem ordL_len (lev : Nat) (its : List IT) : (ordL lev its).length = its.length := (ordL_perm lev its).length_eq
theorem ordL_mem {lev : Nat} {its : List IT} {it : IT} : it ∈ ordL lev its ↔ it ∈ its := (ordL_perm lev its).mem_iff
/-- entries of the items in their order -/
def entO (lev : Nat) (its : List IT) : List ET := (ordL lev its).map (entL lev)
theorem entO_nodup {its : List IT} (h : (its.map (·.1)).Nodup) (lev : Nat) : (entO lev its).Nodup := by
  unfold entO
  have h2 : ((ordL lev its).map (·.1)).Nodup := ((ordL_perm lev its).map _).nodup_iff.mpr h
  unfold List.Nodup at h2 ⊢
  rw [List.pairwise_map] at h2 ⊢
  exact h2.imp fun hab e => hab (entL_inj e)
theorem entO_len (lev : Nat) (its : List IT) : (entO lev its).length = its.length := by simp [entO]
theorem ordL_nodup {its : List IT} (h : (its.map (·.1)).Nodup) (lev : Nat) : ((ordL lev its).map (·.1)).Nodup := ((ordL_perm lev its).map _).nodup_iff.mpr h
/-- the least and the greatest second number -/
def ends (lev : Nat) (its : List IT) (lo hi : Int) : Prop := minI ((entO lev its).map (·.b)) = some lo ∧ maxI ((entO lev its).map (·.b)) = some hi
/-- a right shape of these items -/
def LGood (last : Nat) : LT → Nat → List IT → Prop
  | .nil, _, its => its = []
  | .last n e c ht lo hi l r, lev, its => lev = last ∧ 1 ≤ n ∧ c = (its.length : Nat) ∧ upright ht l.ht r.ht = true ∧ ends lev its lo hi ∧
      ∃ L it R, ordL lev its = L ++ it :: R ∧ e = entL lev it ∧ LGood last l lev L ∧ LGood last r lev R
  | .inner n e c ht l r i, lev, its => lev ≠ last ∧ 1 ≤ n ∧ c = (its.length : Nat) ∧ upright ht l.ht r.ht = true ∧ LGood last i (lev + 1) its ∧
      ∃ L it R, ordL lev its = L ++ it :: R ∧ e = entL lev it ∧ LGood last l lev L ∧ LGood last r lev R
/-- at most so many numbers -/
def mostN : Nat → Nat → Nat
  | 0, n => n
  | d + 1, n => n * (1 + mostN d n)
theorem mostN_mono : ∀ (d : Nat) {a b : Nat}, a ≤ b → mostN d a ≤ mostN d b
  | 0, a, b, h => h
  | d + 1, a, b, h => by
    unfold mostN
    exact Nat.mul_le_mul h (Nat.add_le_add_left (mostN_mono d h) 1)
theorem mostN_split (d : Nat) {a b : Nat} : mostN (d + 1) a + mostN (d + 1) b + 1 + mostN d (a + b + 1) ≤ mostN (d + 1) (a + b + 1) := by
  have h1 := mostN_mono d (show a ≤ a + b + 1 by omega)
  have h2 := mostN_mono d (show b ≤ a + b + 1 by omega)
  simp only [mostN]
  generalize mostN d (a + b + 1) = z at *
  have e1 : a * (1 + mostN d a) ≤ a * (1 + z) := Nat.mul_le_mul_left _ (by omega)
  have e2 : b * (1 + mostN d b) ≤ b * (1 + z) := Nat.mul_le_mul_left _ (by omega)
  have e3 : (a + b + 1) * (1 + z) = a * (1 + z) + b * (1 + z) + (1 + z) := by rw [Nat.add_mul, Nat.add_mul, Nat.one_mul]
  omega
theorem split_len {its L R : List IT} {it : IT} {lev : Nat} (e : ordL lev its = L ++ it :: R) : its.length = L.length + (R.length + 1) := by
  have := congrArg List.length e
  simpa using this
theorem split_uniq {its : List IT} {lev : Nat} {L L' R R' : List IT} {it it' : IT} (nd : (its.map (·.1)).Nodup) (e : ordL lev its = L ++ it :: R) (e' : ordL lev its = L' ++ it' :: R') (q : entL lev it = entL lev it') : L' = L ∧ it' = it ∧ R' = R := by
  have nE := entO_nodup nd lev
  have h1 : entO lev its = L.map (entL lev) ++ entL lev it :: R.map (entL lev) := by unfold entO; rw [e]; simp
  have h2 : entO lev its = L'.map (entL lev) ++ entL lev it :: R'.map (entL lev) := by unfold entO; rw [e', q]; simp
  obtain ⟨a1, _, _⟩ := split_at nE h1
  obtain ⟨b1, _, _⟩ := split_at nE h2
  rw [a1] at b1
  have hl : L.length = L'.length := by simpa using Option.some.inj b1
  rw [e] at e'
  obtain ⟨q1, q2⟩ := List.append_inj e' hl
  simp only [List.cons.injEq] at q2
  exact ⟨q1.symm, q2.1.symm, q2.2.symm⟩
/-! ### orders, evaluated -/
theorem nil_eqE {α : Type} [DecidableEq α] [Datum α] [Enc α] (hd : Datum.depth α ≤ 59) {h : VH} {xs : List α} : cmpW h .eq (.fz (xs.map enc)) (.fz []) = some (decide (xs = [])) := eq_nil_fz hd
theorem cutE_lo {α : Type} [DecidableEq α] [Datum α] [Enc α] {h : VH} {E : List α} {i : Nat} : frzR h (slcW (.fz (E.map enc)) none (some (i : Int)) h) = .ok (.fz ((E.take i).map enc)) h := by
  rw [slc_fz, frzR_ok, cut_take (by omega), Int.toNat_natCast, ← List.map_take]
  exact frzW_new rfl nrs_enc
theorem cutE_hi {α : Type} [DecidableEq α] [Datum α] [Enc α] {h : VH} {E : List α} {i : Nat} : frzR h (slcW (.fz (E.map enc)) (some ((i : Int) + 1)) none h) = .ok (.fz ((E.drop (i + 1)).map enc)) h := by
  rw [slc_fz, frzR_ok, cut_drop (by omega), show ((i : Int) + 1).toNat = i + 1 by omega, ← List.map_drop]
  exact frzW_new rfl nrs_enc
theorem ord_sort {lev : Nat} {its : List IT} {H : VH} (hl : its.length ≤ 1000) : biW .sorted [.fz (its.map fun it => enc ((entL lev it, it) : OT))] H = .ok (.ref H.n) (H.alloc (.lst ((sortE (its.map fun it => (entL lev it, it))).map enc))) := by
  have e : (its.map fun it => enc ((entL lev it, it) : OT)) = (its.map fun it => ((entL lev it, it) : OT)).map enc := by rw [List.map_map]; rfl
  rw [e]
  exact bi_sortedE (α := OT) (Nat.le_trans OT_depth (by decide)) OT_tup (by simp; omega)
theorem ord_ord {lev : Nat} {its : List IT} : (sortE (its.map fun it => ((entL lev it, it) : OT))).map (fun p => enc p.2) = (ordL lev its).map enc := by
  unfold ordL
  rw [List.map_map]; rfl
theorem ent_ent {lev : Nat} {its : List IT} : (its.map fun it => enc (entL lev it)) = (its.map (entL lev)).map enc := by rw [List.map_map]; rfl

theorem minF {H : VH} {x : Int} {is : List Int} (e : minI is = some x) : biW .min1 [.fz (is.map VM.W.int)] H = .ok (.int x) H := by
  show R.of H (((((lstW H (.fz (is.map VM.W.int))).bind intsW).bind minI)).map VM.W.int) = _
  simp only [lstW, Option.bind_some, intsW_map, e]
  rfl
theorem maxF {H : VH} {x : Int} {is : List Int} (e : maxI is = some x) : biW .max1 [.fz (is.map VM.W.int)] H = .ok (.int x) H := by
  show R.of H (((((lstW H (.fz (is.map VM.W.int))).bind intsW).bind maxI)).map VM.W.int) = _
  simp only [lstW, Option.bind_some, intsW_map, e]
  rfl
theorem are_ends {k : Nat} {a e c x lo hi wl wr : VM.W} {E : List ET} {h : VH} (p : Dt (.tup [a, e, c, x, lo, hi, wl, wr])) (hE : E ≠ []) (hl : E.length ≤ 1000) : ∃ b, cal T (k + 2) 24 [.tup [a, e, c, x, lo, hi, wl, wr], .fz (E.map enc)] h = .ok (.bl b) h ∧
    (b = true ↔ ∃ i j, lo = .int i ∧ hi = .int j ∧ minI (E.map (·.b)) = some i ∧ maxI (E.map (·.b)) = some j) := by
  have plo := (p.mem (w := lo) (by simp)).val
  have phi := (p.mem (w := hi) (by simp)).val
  have e1 : (E.map fun t => VM.W.int t.b) = (E.map (·.b)).map VM.W.int := by rw [List.map_map]; rfl
  have hcut : cutL [a, e, c, x, lo, hi, wl, wr] (some 4) (some 6) = [lo, hi] := by
    unfold cutL
    simp [HT.sIx]
  obtain ⟨mn, r1⟩ : ∃ mn, minI (E.map (·.b)) = some mn := by cases E with | nil => exact absurd rfl hE | cons t E => exact ⟨_, rfl⟩
  obtain ⟨mx, r2⟩ : ∃ mn, maxI (E.map (·.b)) = some mn := by cases E with | nil => exact absurd rfl hE | cons t E => exact ⟨_, rfl⟩
  have q1 : ∀ H, biW .min1 [.fz ((E.map (·.b)).map VM.W.int)] H = .ok (.int mn) H := fun H => minF r1
  have q2 : ∀ H, biW .max1 [.fz ((E.map (·.b)).map VM.W.int)] H = .ok (.int mx) H := fun H => maxF r2
  generalize hM : E.map (·.b) = M at *
  have run : ∀ b, (∀ H : VH, (whole lo = true → whole hi = true → cmpW H .eq (.tup [lo, hi]) (.tup [.int mn, .int mx]) = some b) ∧ ((whole lo = false ∨ whole hi = false) → b = false)) → cal T (k + 2) 24 [.tup [a, e, c, x, lo, hi, wl, wr], .fz (E.map enc)] h = .ok (.bl b) h := by
    intro b hb
    rw [cal_run fn24 rfl rfl]
    simp -implicitDefEqProofs [b24]
    rw [comp_enc (xs := E) (enc := enc) (fun t => .int t.b) (ws := [.fz (E.map enc)]) (h1 := h) rfl src_fz (by omega) (fun t _ => by simp -implicitDefEqProofs [b24_0, wipeV, enc_t3, atI_pos]), e1]
    cases h1 : whole lo with
    | false =>
      obtain rfl := (hb h).2 (.inl h1)
      simp -implicitDefEqProofs [atI_pos, is_number plo, h1]
    | true =>
      cases h2 : whole hi with
      | false =>
        obtain rfl := (hb h).2 (.inr h2)
        simp -implicitDefEqProofs [atI_pos, is_number plo, is_number phi, h1, h2]
      | true =>
        have h3 := fun H => (hb H).1 h1 h2
        simp -implicitDefEqProofs [atI_pos, is_number plo, is_number phi, h1, h2, hcut, q1, q2, h3]
  by_cases hlo : ∃ i, lo = .int i
  · obtain ⟨i, rfl⟩ := hlo
    by_cases hhi : ∃ j, hi = .int j
    · obtain ⟨j, rfl⟩ := hhi
      refine ⟨decide ((i, j) = (mn, mx)), run _ fun H => ⟨fun _ _ => cmp_eqE (α := Int × Int) (by decide) (i, j) (mn, mx), fun z => by rw [whole_int, whole_int] at z; rcases z with z | z <;> cases z⟩, ?_⟩
      rw [r1, r2]
      simp only [decide_eq_true_eq, Prod.mk.injEq, VM.W.int.injEq, Option.some.injEq]
      constructor
      · rintro ⟨rfl, rfl⟩; exact ⟨_, _, rfl, rfl, rfl, rfl⟩
      · rintro ⟨_, _, rfl, rfl, rfl, rfl⟩; exact ⟨rfl, rfl⟩
    · have hx : whole hi = false := by cases hi <;> first | rfl | exact absurd ⟨_, rfl⟩ hhi
      exact ⟨false, run _ fun H => ⟨fun _ z => by (rw [hx] at z; cases z), fun _ => rfl⟩, ⟨fun z => (nomatch z), fun ⟨_, j, _, q, _⟩ => absurd ⟨j, q⟩ hhi⟩⟩
  · have hx : whole lo = false := by cases lo <;> first | rfl | exact absurd ⟨_, rfl⟩ hlo
    exact ⟨false, run _ fun H => ⟨fun z => by (rw [hx] at z; cases z), fun _ => rfl⟩, ⟨fun z => (nomatch z), fun ⟨i, _, q, _⟩ => absurd ⟨i, q⟩ hlo⟩⟩

/-- what is told of an answer -/
def LayQ (last lev : Nat) (w : VM.W) (its : List IT) (ks : List Int) (d : Nat) (h : VH) (v : VM.W) (h' : VH) : Prop := ∃ b ks', v = .bl b ∧ h' = h.set d (.dic false (dk ks')) ∧
      (b = true → ∃ t, w = LT.w t ∧ LGood last t lev its ∧ t.nums.Nodup ∧ (∀ n ∈ t.nums, n ∉ ks) ∧ ks' = ks ++ t.nums ∧ t.nums.length ≤ mostN (last - lev) its.length) ∧
      (b = false → ¬ ∃ t, w = LT.w t ∧ LGood last t lev its ∧ t.nums.Nodup ∧ ∀ n ∈ t.nums, n ∉ ks)
theorem LGood.inv {last lev : Nat} {t : LT} {its : List IT} (g : LGood last t lev its) (hne : its ≠ []) : (lev = last ∧ ∃ n e c ht lo hi l r, t = .last n e c ht lo hi l r) ∨ (lev ≠ last ∧ ∃ n e c ht l r i, t = .inner n e c ht l r i) := by
  cases t with
  | nil => exact absurd g hne
  | last n e c ht lo hi l r => exact .inl ⟨g.1, _, _, _, _, _, _, _, _, rfl⟩
  | inner n e c ht l r i => exact .inr ⟨g.1, _, _, _, _, _, _, _, rfl⟩
theorem LGood.nil' {last lev : Nat} {t : LT} (g : LGood last t lev []) : t = .nil := by
  cases t with
  | nil => rfl
  | last n e c ht lo hi l r =>
    obtain ⟨_, _, _, _, _, L, it, R, e, _⟩ := g
    have := split_len e
    simp at this
  | inner n e c ht l r i =>
    obtain ⟨_, _, _, _, _, L, it, R, e, _⟩ := g
    have := split_len e
    simp at this
theorem Ext_set2 {h H : VH} {i : Nat} {o : Ob} (e : Ext h H) (hi : i < h.n) : Ext (h.set i o) (H.set i o) := ⟨e.le, fun j hj => by
    by_cases z : j = i
    · subst z; rw [set_at, set_at]
    · rw [set_ne z, set_ne z]; exact e.eq j hj⟩
theorem LGood.head {last lev : Nat} {t : LT} {its : List IT} (g : LGood last t lev its) (hne : its ≠ []) : ∃ n e ht rest, t.w = .tup (.int n :: enc e :: .int ((entO lev its).length : Nat) :: .int ht :: rest) ∧ rest.length + 4 = (if lev = last then 8 else 7) ∧ e ∈ entO lev its ∧ 1 ≤ n ∧ n ∈ t.nums := by
  rcases g.inv hne with ⟨hl, n, e, c, ht, lo, hi, l, r, rfl⟩ | ⟨hl, n, e, c, ht, l, r, i, rfl⟩
  · obtain ⟨_, h1, rfl, _, _, L, it, R, e1, rfl, _⟩ := g
    refine ⟨n, _, ht, [.int lo, .int hi, l.w, r.w], by rw [LT.w, entO_len], by rw [if_pos hl]; rfl, ?_, h1, by simp [LT.nums]⟩
    unfold entO
    rw [e1]
    simp
  · obtain ⟨_, h1, rfl, _, _, L, it, R, e1, rfl, _⟩ := g
    refine ⟨n, _, ht, [l.w, r.w, i.w], by rw [LT.w, entO_len], by rw [if_neg hl]; rfl, ?_, h1, by simp [LT.nums]⟩
    unfold entO
    rw [e1]
    simp
theorem LGood.last_inv {last lev : Nat} {t : LT} {its L R : List IT} {it : IT} {n : Int} {c x lo hi wl wr : VM.W} (nd : (its.map (·.1)).Nodup) (e0 : ordL lev its = L ++ it :: R) (g : LGood last t lev its) (e : .tup [.int n, enc (entL lev it), c, x, lo, hi, wl, wr] = t.w) :
    ∃ c' ht' lo' hi' l r, t = .last n (entL lev it) c' ht' lo' hi' l r ∧ wl = l.w ∧ wr = r.w ∧ x = .int ht' ∧ lo = .int lo' ∧ hi = .int hi' ∧ LGood last l lev L ∧ LGood last r lev R ∧ upright ht' l.ht r.ht = true ∧ ends lev its lo' hi' := by
  cases t with
  | nil => simp [LT.w] at e
  | inner _ _ _ _ _ _ _ => simp [LT.w] at e
  | last n' e' c' ht' lo' hi' l r =>
    simp only [LT.w, VM.W.tup.injEq, List.cons.injEq, VM.W.int.injEq, and_true] at e
    obtain ⟨rfl, q1, rfl, rfl, rfl, rfl, rfl, rfl⟩ := e
    obtain rfl := enc_inj q1
    obtain ⟨_, _, _, up, en, L', it', R', e1, e2, gl, gr⟩ := g
    obtain ⟨rfl, rfl, rfl⟩ := split_uniq nd e0 e1 e2
    exact ⟨_, _, _, _, _, _, rfl, rfl, rfl, rfl, rfl, rfl, gl, gr, up, en⟩
theorem LGood.inner_inv {last lev : Nat} {t : LT} {its L R : List IT} {it : IT} {n : Int} {c x wi wl wr : VM.W} (nd : (its.map (·.1)).Nodup) (e0 : ordL lev its = L ++ it :: R) (g : LGood last t lev its) (e : .tup [.int n, enc (entL lev it), c, x, wl, wr, wi] = t.w) :
    ∃ c' ht' l r i, t = .inner n (entL lev it) c' ht' l r i ∧ wl = l.w ∧ wr = r.w ∧ wi = i.w ∧ x = .int ht' ∧ LGood last l lev L ∧ LGood last r lev R ∧ upright ht' l.ht r.ht = true ∧ LGood last i (lev + 1) its := by
  cases t with
  | nil => simp [LT.w] at e
  | last _ _ _ _ _ _ _ _ => simp [LT.w] at e
  | inner n' e' c' ht' l r i =>
    simp only [LT.w, VM.W.tup.injEq, List.cons.injEq, VM.W.int.injEq, and_true] at e
    obtain ⟨rfl, q1, rfl, rfl, rfl, rfl, rfl⟩ := e
    obtain rfl := enc_inj q1
    obtain ⟨_, _, _, up, gi, L', it', R', e1, e2, gl, gr⟩ := g
    obtain ⟨rfl, rfl, rfl⟩ := split_uniq nd e0 e1 e2
    exact ⟨_, _, _, _, _, rfl, rfl, rfl, rfl, rfl, gl, gr, up, gi⟩
theorem layer_nil {k d last lev : Nat} {w : VM.W} {ks : List Int} {h : VH} (hd : h.f d = some (.dic false (dk ks))) (hdn : d < h.n) : Tr (cal T (k + 1) 25 [w, .fz (([] : List IT).map enc), .int (lev : Nat), .int (last : Nat), .ref d] h) (LayQ last lev w [] ks d h) := by
  have e0 := nil_eqE (h := h) IT_depth (xs := ([] : List IT))
  refine Tr.of_eq (a := .bl w.isNon) (h := h) ?_ ⟨w.isNon, ks, rfl, (set_self hd).symm, fun hb => ?_, fun hb => ?_⟩
  · rw [cal_run fn25 rfl rfl]
    simp -implicitDefEqProofs at e0
    simp -implicitDefEqProofs [b25, e0]
  · cases w <;> first | exact ⟨.nil, rfl, rfl, List.nodup_nil, fun n hn => absurd hn (List.not_mem_nil), by simp [LT.nums], by simp [LT.nums]⟩ | cases hb
  · rintro ⟨t, rfl, g, _⟩
    rw [g.nil'] at hb
    cases hb
theorem is_layer : ∀ (m k d lev last : Nat) (w : VM.W) (its : List IT) (ks : List Int) (h : VH), its.length + (last - lev) < m → m + 4 ≤ k → 1 ≤ lev → lev ≤ last → (∀ it ∈ its, last < 2 * it.2.items.length) → (its.map (·.1)).Nodup → its.length ≤ 100 → last < 1000 → Dt w →
    h.f d = some (.dic false (dk ks)) → d < h.n → ks.length + mostN (last - lev) its.length < 10000000 → Tr (cal T k 25 [w, .fz (its.map enc), .int (lev : Nat), .int (last : Nat), .ref d] h) (LayQ last lev w its ks d h) := by
  intro m
  induction m with
  | zero => intro k d lev last w its ks h hm; omega
  | succ m ih =>
    intro k d lev last w its ks h hm hk h1 h2 hbx hnd hl hlast p hd hdn hks
    obtain ⟨k, rfl⟩ := Nat.exists_eq_add_of_le' (show 4 ≤ k by omega)
    by_cases hnil : its = []
    · subst hnil
      exact layer_nil (k := k + 3) hd hdn
    · have e0 := nil_eqE (h := h) IT_depth (xs := its)
      have hb : ∀ it ∈ its, (lev - 1) / 2 < it.2.items.length := fun it hit => by have := hbx it hit; omega
      have en : ∀ it ∈ its, ∀ H : VH, cal T (k + 3) 18 [enc it, .int (lev : Nat)] H = .ok (enc (entL lev it)) H := fun it hit H => entryL h1 (hb it hit)
      have hso := fun H : VH => ord_sort (lev := lev) (its := its) (H := H) (by omega)
      have n1 : noRefs (its.map fun it => enc ((entL lev it, it) : OT)) = true := nrs_map fun x _ => Enc.nr _
      have n2 : noRefs ((sortE (its.map fun it => ((entL lev it, it) : OT))).map enc) = true := nrs_enc
      have n3 : noRefs ((ordL lev its).map enc) = true := nrs_enc
      have n4 : noRefs ((entO lev its).map enc) = true := nrs_enc
      have eO : ((ordL lev its).map fun it => enc (entL lev it)) = (entO lev its).map enc := ent_ent
      rw [cal_run fn25 rfl rfl]
      simp -implicitDefEqProofs [b25, e0, hnil]
      rw [comp_enc (xs := sortE (its.map fun it => ((entL lev it, it) : OT))) (enc := enc) (fun p => enc p.2) (ws := [.fz ((sortE (its.map fun it => ((entL lev it, it) : OT))).map enc)]) (h1 := h) (by
        rw [comp_enc (xs := its) (enc := enc) (fun it => enc ((entL lev it, it) : OT)) (ws := [.fz (its.map enc)]) (h1 := h) rfl src_fz (by omega) (fun it hit => by
          have e2 : enc ((entL lev it, it) : OT) = .tup [enc (entL lev it), enc it] := rfl
          rw [e2]
          simp -implicitDefEqProofs [b25_0, wipeV, en it hit])]
        simp -implicitDefEqProofs [n1, n2, hso]) src_fz (by simp; omega) (fun p _ => by simp -implicitDefEqProofs [b25_1, wipeV, enc_pair, atI_pos]), ord_ord]
      simp -implicitDefEqProofs
      generalize hH1 : (h.alloc (.lst ((ordL lev its).map enc))).kill h.n = H1
      have ex1 : Ext h H1 := by rw [← hH1]; exact Ext_ak (Nat.le_refl _)
      rw [comp_enc (xs := ordL lev its) (enc := enc) (fun it => enc (entL lev it)) (ws := [.fz ((ordL lev its).map enc)]) (h1 := H1) rfl src_fz (by simp; omega) (fun it hit => by simp -implicitDefEqProofs [b25_2, wipeV, en it (ordL_mem.mp hit)]), eO]
      simp -implicitDefEqProofs
      generalize hH2 : (H1.alloc (.lst ((entO lev its).map enc))).kill H1.n = H
      have ex : Ext h H := by rw [← hH2]; exact ex1.trans (Ext_ak (Nat.le_refl _))
      clear hH1 hH2 ex1 H1
      have hdH : H.f d = some (.dic false (dk ks)) := by rw [ex.eq d hdn]; exact hd
      have hnH : d < H.n := Nat.lt_of_lt_of_le hdn ex.le
      have tr : ∀ b ks', trimR h (.bl b) (H.set d (.dic false (dk ks'))) = .ok (.bl b) (h.set d (.dic false (dk ks'))) := fun b ks' => trimR_set nr_bl hdn dk_ob (Ext_set2 ex hdn)
      by_cases hlev : lev = last
      · obtain ⟨b1, ks1, c1, t1, f1⟩ := is_head (k := k) (s := 8) (E := entO lev its) p (by omega) hdH hnH (by omega)
        have hlev' : ((lev : Nat) : Int) = (last : Nat) := by omega
        have c1 : cal T (k + 3) 21 [w, .int 8, .fz ((entO lev its).map enc), .ref d] H = .ok (.bl b1) (H.set d (.dic false (dk ks1))) := c1
        subst hlev
        cases b1 with
        | false =>
          simp -implicitDefEqProofs [c1, tr]
          refine ⟨false, ks1, rfl, rfl, (fun z => nomatch z), ?_⟩
          rintro _ ⟨t, rfl, g, nd, dj⟩
          obtain ⟨n, e, ht, rest, q1, q2, q3, q4, q5⟩ := g.head hnil
          rw [if_pos rfl] at q2
          exact f1 rfl ⟨n, e, ht, rest, q1, q2, q3, q4, dj n q5⟩
        | true =>
          obtain ⟨n, t, ht, rest, rfl, hr, hmem, hn1, hnk, rfl⟩ := t1 rfl
          obtain ⟨lo, hi, wl, wr, rfl⟩ : ∃ lo hi wl wr, rest = [lo, hi, wl, wr] := by
            match rest, hr with
            | [a, b, c, d], _ => exact ⟨a, b, c, d, rfl⟩
          obtain ⟨it, hit, rfl⟩ := List.mem_map.mp hmem
          obtain ⟨L, R, eO2⟩ := List.append_of_mem hit
          have hlen := split_len eO2
          have nE := entO_nodup hnd lev
          have hE2 : entO lev its = L.map (entL lev) ++ entL lev it :: R.map (entL lev) := by unfold entO; rw [eO2]; simp
          obtain ⟨ix, _, _⟩ := split_at nE hE2
          rw [List.length_map] at ix
          have hix := fun H : VH => bm_indexE (h := H) (show Datum.depth ET ≤ 60 by decide) (entL lev it) (entO lev its)
          have tk : (ordL lev its).take L.length = L := by rw [eO2]; simp
          have dr : (ordL lev its).drop (L.length + 1) = R := by rw [eO2, List.drop_append]; simp
          have sl := fun H : VH => cutE_lo (h := H) (E := ordL lev its) (i := L.length)
          have sh := fun H : VH => cutE_hi (h := H) (E := ordL lev its) (i := L.length)
          simp -implicitDefEqProofs only [tk, dr, ix, slc_fz] at sl sh hix
          have pl : Dt wl := p.mem (by simp)
          have pr : Dt wr := p.mem (by simp)
          have subL : ∀ x ∈ L, x ∈ its := fun x hx => ordL_mem.mp (by rw [eO2]; simp [hx])
          have subR : ∀ x ∈ R, x ∈ its := fun x hx => ordL_mem.mp (by rw [eO2]; simp [hx])
          have ndO := ordL_nodup hnd lev
          rw [eO2, List.map_append, List.map_cons, List.nodup_append] at ndO
          have ndL : (L.map (·.1)).Nodup := ndO.1
          have ndR : (R.map (·.1)).Nodup := (List.nodup_cons.mp ndO.2.1).2
          have m21 : ∀ H : VH, binW .mul (.int 2) (.int 1) H = .ok (.int 2) H := fun H => rfl
          have hcut : cutL [.int n, enc (entL lev it), .int ((entO lev its).length : Nat), .int ht, lo, hi, wl, wr] (some 6) (some 8) = [wl, wr] := by
            unfold cutL
            simp [HT.sIx]
          rw [Nat.sub_self] at hks hm
          simp only [mostN] at hks
          have m0 : ∀ n, mostN (lev - lev) n = n := fun n => by rw [Nat.sub_self, mostN]
          obtain ⟨v2, h2', c2, b2, ks2, rfl, rfl, t2, f2⟩ := (ih (k + 3) d lev lev wl L (ks ++ [n]) (H.set d (.dic false (dk (ks ++ [n])))) (by omega) (by omega) h1 h2 (fun x hx => hbx x (subL x hx)) ndL (by omega) hlast pl set_at (by simpa using hnH) (by rw [m0]; simp; omega)).ok
          rw [set_set] at c2
          cases b2 with
          | false =>
            simp -implicitDefEqProofs [c1, atI_pos, hix, m21, hcut, sl, c2, tr]
            refine ⟨false, ks2, rfl, rfl, (fun z => nomatch z), ?_⟩
            rintro _ ⟨t, e, g, nd, dj⟩
            obtain ⟨_, _, _, _, l, r, rfl, rfl, rfl, _, _, _, gl, _⟩ := g.last_inv hnd eO2 e
            have nd := nd
            simp only [LT.nums, List.nodup_cons, List.nodup_append] at nd dj
            refine f2 rfl ⟨l, rfl, gl, nd.2.1, fun x hx hx2 => ?_⟩
            rcases List.mem_append.mp hx2 with z | z
            · exact dj x (List.mem_cons_of_mem _ (List.mem_append_left _ hx)) z
            · simp only [List.mem_singleton] at z
              subst z
              exact nd.1 (List.mem_append_left _ hx)
          | true =>
            obtain ⟨tl, rfl, gl, ndl, djl, rfl, ll⟩ := t2 rfl
            rw [m0] at ll
            obtain ⟨v3, h3', c3, b3, ks3, rfl, rfl, t3, f3⟩ := (ih (k + 3) d lev lev wr R (ks ++ [n] ++ tl.nums) (H.set d (.dic false (dk (ks ++ [n] ++ tl.nums)))) (by omega) (by omega) h1 h2 (fun x hx => hbx x (subR x hx)) ndR (by omega) hlast pr set_at (by simpa using hnH) (by rw [m0]; simp; omega)).ok
            rw [set_set] at c3
            cases b3 with
            | false =>
              simp -implicitDefEqProofs [c1, atI_pos, hix, m21, hcut, sl, sh, c2, c3, -List.append_assoc, tr]
              refine ⟨false, ks3, rfl, rfl, (fun z => nomatch z), ?_⟩
              rintro _ ⟨t, e, g, nd, dj⟩
              obtain ⟨_, _, _, _, l, r, rfl, e5, rfl, _, _, _, gl, gr, _⟩ := g.last_inv hnd eO2 e
              obtain rfl := LT.w_inj e5
              simp only [LT.nums, List.nodup_cons, List.nodup_append] at nd dj
              refine f3 rfl ⟨r, rfl, gr, nd.2.2.1, fun x hx hx2 => ?_⟩
              rcases List.mem_append.mp hx2 with z | z
              · rcases List.mem_append.mp z with z | z
                · exact dj x (List.mem_cons_of_mem _ (List.mem_append_right _ hx)) z
                · simp only [List.mem_singleton] at z
                  subst z
                  exact nd.1 (List.mem_append_right _ hx)
              · exact nd.2.2.2 x z x hx rfl
            | true =>
              obtain ⟨tt, rfl, gr, ndr, djr, rfl, lr⟩ := t3 rfl
              rw [m0] at lr
              have c4 := fun H : VH => are_upright (k := k + 1) (a := .int n) (b := enc (entL lev it)) (c := .int ((entO lev its).length : Nat)) (rest := [lo, hi, tl.w, tt.w]) (x := ht) (h := H) pl pr tl.htOf tt.htOf
              cases hup : upright ht tl.ht tt.ht with
              | false =>
                rw [hup] at c4
                simp -implicitDefEqProofs [c1, atI_pos, hix, m21, hcut, sl, sh, c2, c3, c4, -List.append_assoc, tr]
                refine ⟨false, _, rfl, rfl, (fun z => nomatch z), ?_⟩
                rintro _ ⟨t, e, g, nd, dj⟩
                obtain ⟨_, _, _, _, l, r, rfl, e5, e6, e7, _, _, gl, gr, up, _⟩ := g.last_inv hnd eO2 e
                obtain rfl := LT.w_inj e5
                obtain rfl := LT.w_inj e6
                cases e7
                rw [hup] at up
                cases up
              | true =>
                rw [hup] at c4
                have pE : entO lev its ≠ [] := fun z => hnil (List.eq_nil_of_length_eq_zero (by rw [← entO_len lev, z]; rfl))
                obtain ⟨b5, c5, i5⟩ := are_ends (k := k + 1) (h := H.set d (.dic false (dk (ks ++ [n] ++ tl.nums ++ tt.nums)))) p pE (by rw [entO_len]; omega)
                simp -implicitDefEqProofs [c1, atI_pos, hix, m21, hcut, sl, sh, c2, c3, c4, c5, -List.append_assoc, tr]
                refine ⟨b5, _, rfl, rfl, ?_, ?_⟩
                · intro hb5
                  obtain ⟨lo', hi', rfl, rfl, q1, q2⟩ := i5.mp hb5
                  refine ⟨.last n (entL lev it) ((entO lev its).length : Nat) ht lo' hi' tl tt, rfl, ⟨rfl, hn1, by rw [entO_len], hup, ⟨q1, q2⟩, L, it, R, eO2, rfl, gl, gr⟩, ?_, ?_, by simp [LT.nums], ?_⟩
                  · simp only [LT.nums, List.nodup_cons, List.nodup_append]
                    refine ⟨fun z => ?_, ndl, ndr, fun a ha b hb' e => ?_⟩
                    · rcases List.mem_append.mp z with z | z
                      · exact djl n z (by simp)
                      · exact djr n z (by simp)
                    · subst e
                      exact djr a hb' (by simp [ha])
                  · intro x hx
                    simp only [LT.nums] at hx
                    rcases List.mem_cons.mp hx with rfl | hx
                    · exact hnk
                    · rcases List.mem_append.mp hx with z | z
                      · exact fun y => djl x z (by simp [y])
                      · exact fun y => djr x z (by simp [y])
                  · rw [m0]
                    simp only [LT.nums, List.length_cons, List.length_append]
                    omega
                · rintro hb5 ⟨t, e, g, nd, dj⟩
                  obtain ⟨_, _, lo', hi', l, r, rfl, e5, e6, e7, e8, e9, gl, gr, up, en⟩ := g.last_inv hnd eO2 e
                  have := i5.mpr ⟨_, _, e8, e9, en.1, en.2⟩
                  rw [this] at hb5
                  cases hb5
      · obtain ⟨b1, ks1, c1, t1, f1⟩ := is_head (k := k) (s := 7) (E := entO lev its) p (by omega) hdH hnH (by omega)
        have hlev' : ¬ ((lev : Nat) : Int) = (last : Nat) := by omega
        have c1 : cal T (k + 3) 21 [w, .int 7, .fz ((entO lev its).map enc), .ref d] H = .ok (.bl b1) (H.set d (.dic false (dk ks1))) := c1
        cases b1 with
        | false =>
          simp -implicitDefEqProofs [hlev', c1, tr]
          refine ⟨false, ks1, rfl, rfl, (fun z => nomatch z), ?_⟩
          rintro _ ⟨t, rfl, g, nd, dj⟩
          obtain ⟨n, e, ht, rest, q1, q2, q3, q4, q5⟩ := g.head hnil
          rw [if_neg hlev] at q2
          exact f1 rfl ⟨n, e, ht, rest, q1, q2, q3, q4, dj n q5⟩
        | true =>
          obtain ⟨n, t, ht, rest, rfl, hr, hmem, hn1, hnk, rfl⟩ := t1 rfl
          obtain ⟨wl, wr, wi, rfl⟩ : ∃ wl wr wi, rest = [wl, wr, wi] := by
            match rest, hr with
            | [a, b, c], _ => exact ⟨a, b, c, rfl⟩
          obtain ⟨it, hit, rfl⟩ := List.mem_map.mp hmem
          obtain ⟨L, R, eO2⟩ := List.append_of_mem hit
          have hlen := split_len eO2
          have nE := entO_nodup hnd lev
          have hE2 : entO lev its = L.map (entL lev) ++ entL lev it :: R.map (entL lev) := by unfold entO; rw [eO2]; simp
          obtain ⟨ix, _, _⟩ := split_at nE hE2
          rw [List.length_map] at ix
          have hix := fun H : VH => bm_indexE (h := H) (show Datum.depth ET ≤ 60 by decide) (entL lev it) (entO lev its)
          have tk : (ordL lev its).take L.length = L := by rw [eO2]; simp
          have dr : (ordL lev its).drop (L.length + 1) = R := by rw [eO2, List.drop_append]; simp
          have sl := fun H : VH => cutE_lo (h := H) (E := ordL lev its) (i := L.length)
          have sh := fun H : VH => cutE_hi (h := H) (E := ordL lev its) (i := L.length)
          simp -implicitDefEqProofs only [tk, dr, ix, slc_fz] at sl sh hix
          have pl : Dt wl := p.mem (by simp)
          have pr : Dt wr := p.mem (by simp)
          have pi : Dt wi := p.mem (by simp)
          have subL : ∀ x ∈ L, x ∈ its := fun x hx => ordL_mem.mp (by rw [eO2]; simp [hx])
          have subR : ∀ x ∈ R, x ∈ its := fun x hx => ordL_mem.mp (by rw [eO2]; simp [hx])
          have ndO := ordL_nodup hnd lev
          rw [eO2, List.map_append, List.map_cons, List.nodup_append] at ndO
          have ndL : (L.map (·.1)).Nodup := ndO.1
          have ndR : (R.map (·.1)).Nodup := (List.nodup_cons.mp ndO.2.1).2
          have m20 : ∀ H : VH, binW .mul (.int 2) (.int 0) H = .ok (.int 0) H := fun H => rfl
          have hcut : cutL [.int n, enc (entL lev it), .int ((entO lev its).length : Nat), .int ht, wl, wr, wi] (some 4) (some 6) = [wl, wr] := by
            unfold cutL
            simp [HT.sIx]
          have dsub : last - lev = (last - (lev + 1)) + 1 := by omega
          have msum := mostN_split (last - (lev + 1)) (a := L.length) (b := R.length)
          rw [← dsub, show L.length + R.length + 1 = its.length by omega] at msum
          have clev : ((lev : Nat) : Int) + 1 = ((lev + 1 : Nat) : Int) := by omega
          obtain ⟨v2, h2', c2, b2, ks2, rfl, rfl, t2, f2⟩ := (ih (k + 3) d lev last wl L (ks ++ [n]) (H.set d (.dic false (dk (ks ++ [n])))) (by omega) (by omega) h1 h2 (fun x hx => hbx x (subL x hx)) ndL (by omega) hlast pl set_at (by simpa using hnH) (by simp; omega)).ok
          rw [set_set] at c2
          cases b2 with
          | false =>
            simp -implicitDefEqProofs [hlev', c1, atI_pos, hix, m20, hcut, sl, c2, tr]
            refine ⟨false, ks2, rfl, rfl, (fun z => nomatch z), ?_⟩
            rintro _ ⟨t, e, g, nd, dj⟩
            obtain ⟨_, _, l, r, i, rfl, rfl, rfl, rfl, _, gl, _⟩ := g.inner_inv hnd eO2 e
            have nd := nd
            simp only [LT.nums, List.nodup_cons, List.nodup_append] at nd dj
            refine f2 rfl ⟨l, rfl, gl, nd.2.1.1, fun x hx hx2 => ?_⟩
            rcases List.mem_append.mp hx2 with z | z
            · exact dj x (by simp [hx]) z
            · simp only [List.mem_singleton] at z
              subst z
              exact nd.1 (by simp [hx])
          | true =>
            obtain ⟨tl, rfl, gl, ndl, djl, rfl, ll⟩ := t2 rfl
            obtain ⟨v3, h3', c3, b3, ks3, rfl, rfl, t3, f3⟩ := (ih (k + 3) d lev last wr R (ks ++ [n] ++ tl.nums) (H.set d (.dic false (dk (ks ++ [n] ++ tl.nums)))) (by omega) (by omega) h1 h2 (fun x hx => hbx x (subR x hx)) ndR (by omega) hlast pr set_at (by simpa using hnH) (by simp; omega)).ok
            rw [set_set] at c3
            cases b3 with
            | false =>
              simp -implicitDefEqProofs [hlev', c1, atI_pos, hix, m20, hcut, sl, sh, c2, c3, -List.append_assoc, tr]
              refine ⟨false, ks3, rfl, rfl, (fun z => nomatch z), ?_⟩
              rintro _ ⟨t, e, g, nd, dj⟩
              obtain ⟨_, _, l, r, i, rfl, e5, rfl, rfl, _, gl, gr, _⟩ := g.inner_inv hnd eO2 e
              obtain rfl := LT.w_inj e5
              simp only [LT.nums, List.nodup_cons, List.nodup_append] at nd dj
              refine f3 rfl ⟨r, rfl, gr, nd.2.1.2.1, fun x hx hx2 => ?_⟩
              rcases List.mem_append.mp hx2 with z | z
              · rcases List.mem_append.mp z with z | z
                · exact dj x (by simp [hx]) z
                · simp only [List.mem_singleton] at z
                  subst z
                  exact nd.1 (by simp [hx])
              · exact nd.2.1.2.2 x z x hx rfl
            | true =>
              obtain ⟨tt, rfl, gr, ndr, djr, rfl, lr⟩ := t3 rfl
              have c4 := fun H : VH => are_upright (k := k + 1) (a := .int n) (b := enc (entL lev it)) (c := .int ((entO lev its).length : Nat)) (rest := [tl.w, tt.w, wi]) (x := ht) (h := H) pl pr tl.htOf tt.htOf
              cases hup : upright ht tl.ht tt.ht with
              | false =>
                rw [hup] at c4
                simp -implicitDefEqProofs [hlev', c1, atI_pos, hix, m20, hcut, sl, sh, c2, c3, c4, -List.append_assoc, tr]
                refine ⟨false, _, rfl, rfl, (fun z => nomatch z), ?_⟩
                rintro _ ⟨t, e, g, nd, dj⟩
                obtain ⟨_, _, l, r, i, rfl, e5, e6, _, e7, gl, gr, up, _⟩ := g.inner_inv hnd eO2 e
                obtain rfl := LT.w_inj e5
                obtain rfl := LT.w_inj e6
                cases e7
                rw [hup] at up
                cases up
              | true =>
                rw [hup] at c4
                obtain ⟨v5, h5', c5, b5, ks5, rfl, rfl, t5, f5⟩ := (ih (k + 3) d (lev + 1) last wi its (ks ++ [n] ++ tl.nums ++ tt.nums) (H.set d (.dic false (dk (ks ++ [n] ++ tl.nums ++ tt.nums)))) (by omega) (by omega) (by omega) (by omega) hbx hnd hl hlast pi set_at (by simpa using hnH) (by simp; omega)).ok
                rw [set_set, ← clev] at c5
                simp -implicitDefEqProofs [hlev', c1, atI_pos, hix, m20, hcut, sl, sh, c2, c3, c4, c5, -List.append_assoc, tr]
                refine ⟨b5, _, rfl, rfl, ?_, ?_⟩
                · intro hb5
                  obtain ⟨ti, rfl, gi, ndi, dji, rfl, li⟩ := t5 hb5
                  refine ⟨.inner n (entL lev it) ((entO lev its).length : Nat) ht tl tt ti, rfl, ⟨hlev, hn1, by rw [entO_len], hup, gi, L, it, R, eO2, rfl, gl, gr⟩, ?_, ?_, by simp [LT.nums], ?_⟩
                  · simp only [LT.nums, List.nodup_cons, List.nodup_append]
                    refine ⟨fun z => ?_, ⟨ndl, ndr, fun a ha b hb' e => ?_⟩, ndi, fun a ha b hb' e => ?_⟩
                    · rcases List.mem_append.mp z with z | z
                      · rcases List.mem_append.mp z with z | z
                        · exact djl n z (by simp)
                        · exact djr n z (by simp)
                      · exact dji n z (by simp)
                    · subst e
                      exact djr a hb' (by simp [ha])
                    · subst e
                      rcases List.mem_append.mp ha with z | z
                      · exact dji a hb' (by simp [z])
                      · exact dji a hb' (by simp [z])
                  · intro x hx
                    simp only [LT.nums] at hx
                    rcases List.mem_cons.mp hx with rfl | hx
                    · exact hnk
                    · rcases List.mem_append.mp hx with z | z
                      · rcases List.mem_append.mp z with z | z
                        · exact fun y => djl x z (by simp [y])
                        · exact fun y => djr x z (by simp [y])
                      · exact fun y => dji x z (by simp [y])
                  · simp only [LT.nums, List.length_cons, List.length_append]
                    omega
                · rintro hb5 ⟨t, e, g, nd, dj⟩
                  obtain ⟨_, _, l, r, i, rfl, e5, e6, e7, _, gl, gr, up, gi⟩ := g.inner_inv hnd eO2 e
                  obtain rfl := LT.w_inj e5
                  obtain rfl := LT.w_inj e6
                  simp only [LT.nums, List.nodup_cons, List.nodup_append] at nd dj
                  refine f5 hb5 ⟨i, e7, gi, nd.2.2.1, fun x hx hx2 => ?_⟩
                  rcases List.mem_append.mp hx2 with z | z
                  · rcases List.mem_append.mp z with z | z
                    · rcases List.mem_append.mp z with z | z
                      · exact dj x (by simp [hx]) z
                      · simp only [List.mem_singleton] at z
                        subst z
                        exact nd.1 (by simp [hx])
                    · exact nd.2.2.2 x (by simp [z]) x hx rfl
                  · exact nd.2.2.2 x (by simp [z]) x hx rfl

/-- which twigs stand where: so many levels below -/
def LT.shp : LT → Nat → Prop
  | .nil, _ => True
  | .last _ _ _ _ _ _ l r, d => d = 0 ∧ l.shp d ∧ r.shp d
  | .inner _ _ _ _ l r i, d => d ≠ 0 ∧ l.shp d ∧ r.shp d ∧ i.shp (d - 1)
def LT.dep : LT → Nat
  | .nil => 0
  | .last _ _ _ _ _ _ l r => 1 + max l.dep r.dep
  | .inner _ _ _ _ l r i => 1 + max (max l.dep r.dep) i.dep
def LT.siz : LT → Nat
  | .nil => 0
  | .last _ _ _ _ _ _ l r => 1 + l.siz + r.siz
  | .inner _ _ _ _ l r i => 1 + l.siz + r.siz + i.siz
theorem LT.siz_nums : ∀ t : LT, t.nums.length = t.siz
  | .nil => rfl
  | .last n e c ht lo hi l r => by simp only [nums, siz, List.length_cons, List.length_append, siz_nums l, siz_nums r]; omega
  | .inner n e c ht l r i => by simp only [nums, siz, List.length_cons, List.length_append, siz_nums l, siz_nums r, siz_nums i]; omega
theorem LGood.shp {last : Nat} : ∀ {t : LT} {lev : Nat} {its : List IT}, lev ≤ last → LGood last t lev its → t.shp (last - lev)
  | .nil, _, _, _, _ => trivial
  | .last n e c ht lo hi l r, lev, its, hl, g => by
    obtain ⟨h0, _, _, _, _, L, it, R, _, _, gl, gr⟩ := g
    exact ⟨by omega, gl.shp hl, gr.shp hl⟩
  | .inner n e c ht l r i, lev, its, hl, g => by
    obtain ⟨h0, _, _, _, gi, L, it, R, _, _, gl, gr⟩ := g
    exact ⟨by omega, gl.shp hl, gr.shp hl, by
      have := LGood.shp (show lev + 1 ≤ last by omega) gi
      rw [show last - (lev + 1) = last - lev - 1 by omega] at this
      exact this⟩
theorem LGood.dep {last : Nat} : ∀ {t : LT} {lev : Nat} {its : List IT}, lev ≤ last → LGood last t lev its → t.dep ≤ its.length + (last - lev)
  | .nil, _, _, _, _ => by simp [LT.dep]
  | .last n e c ht lo hi l r, lev, its, hl, g => by
    obtain ⟨h0, _, _, _, _, L, it, R, e, _, gl, gr⟩ := g
    have := split_len e
    have h1 := gl.dep hl
    have h2 := gr.dep hl
    simp only [LT.dep]
    omega
  | .inner n e c ht l r i, lev, its, hl, g => by
    obtain ⟨h0, _, _, _, gi, L, it, R, e, _, gl, gr⟩ := g
    have := split_len e
    have h1 := gl.dep hl
    have h2 := gr.dep hl
    have h3 := gi.dep (show lev + 1 ≤ last by omega)
    simp only [LT.dep]
    omega
/-- the twigs looked at in a last layer -/
def lastA (x y : Int) : LT → List Int
  | .last n e _ _ _ hi l r => if hi ≤ y then [] else n :: (lastA x y l ++ if e.a < x then lastA x y r else [])
  | _ => []
def lastI (x y : Int) : LT → List Int
  | .last n e _ _ lo _ l r => if y < lo then [] else n :: ((if x ≤ e.a then lastI x y l else []) ++ lastI x y r)
  | _ => []
theorem lastA_len (x y : Int) : ∀ t : LT, (lastA x y t).length ≤ t.siz
  | .nil => by simp [lastA, LT.siz]
  | .inner .. => by simp [lastA]
  | .last n e c ht lo hi l r => by
    have h1 := lastA_len x y l
    have h2 := lastA_len x y r
    simp only [lastA, LT.siz]
    split
    · simp
    · split <;> simp <;> omega
theorem lastI_len (x y : Int) : ∀ t : LT, (lastI x y t).length ≤ t.siz
  | .nil => by simp [lastI, LT.siz]
  | .inner .. => by simp [lastI]
  | .last n e c ht lo hi l r => by
    have h1 := lastI_len x y l
    have h2 := lastI_len x y r
    simp only [lastI, LT.siz]
    split
    · simp
    · split <;> simp <;> omega
theorem cat1 {H : VH} {n : Int} {is : List Int} (hl : is.length ≤ 10000000) : binW .add (.fz [.int n]) (.fz (is.map VM.W.int)) H = .ok (.ref H.n) (H.alloc (.lst ((n :: is).map VM.W.int))) := by
  rw [cat_ff (by simp; omega)]; rfl
theorem bm_ext {h : VH} {n : Nat} {xs ys : List VM.W} (e : h.f n = some (.lst xs)) (hl : xs.length + ys.length ≤ 16777216) : bmW .extend (.ref n) [.fz ys] h = .ok .non (h.set n (.lst (xs ++ ys))) := by
  simp [bmW, e, lstW, hl]
theorem looks_across {x y : Int} : ∀ (m k : Nat) (t : LT) (h : VH), t.shp 0 → t.dep ≤ m → m + 2 ≤ k → t.siz ≤ 10000000 → cal T k 26 [t.w, .int x, .int y] h = .ok (.fz ((lastA x y t).map VM.W.int)) h := by
  intro m
  induction m with
  | zero =>
    intro k t h hs hd hk _
    obtain ⟨k, rfl⟩ := Nat.exists_eq_add_of_le' (show 1 ≤ k by omega)
    cases t with
    | nil =>
      rw [cal_run fn26 rfl rfl]
      simp -implicitDefEqProofs [b26, LT.w, W.isNon, lastA]
    | last _ _ _ _ _ _ _ _ => simp [LT.dep] at hd
    | inner _ _ _ _ _ _ _ => simp [LT.dep] at hd
  | succ m ih =>
    intro k t h hs hd hk hz
    obtain ⟨k, rfl⟩ := Nat.exists_eq_add_of_le' (show 1 ≤ k by omega)
    cases t with
    | nil =>
      rw [cal_run fn26 rfl rfl]
      simp -implicitDefEqProofs [b26, LT.w, W.isNon, lastA]
    | inner _ _ _ _ _ _ _ => exact absurd rfl hs.1
    | last n e c ht lo hi l r =>
      obtain ⟨_, sl, sr⟩ := hs
      simp only [LT.dep] at hd
      simp only [LT.siz] at hz
      have cl := fun H => ih k l H sl (by omega) (by omega) (by omega)
      have cr := fun H => ih k r H sr (by omega) (by omega) (by omega)
      have ll := lastA_len x y l
      have lr := lastA_len x y r
      have k1 := fun H : VH => cat1 (H := H) (n := n) (is := lastA x y l) (by omega)
      have ea : idxW h (enc e) (.int 0) = some (.int e.a) := rfl
      by_cases h1 : hi ≤ y
      · rw [cal_run fn26 rfl rfl]
        simp -implicitDefEqProofs [b26, LT.w, W.isNon, lastA, atI_pos, h1]
      · simp only [lastA, if_neg h1]
        generalize lastA x y l = A at *
        generalize lastA x y r = B at *
        rw [cal_run fn26 rfl rfl]
        by_cases h2 : e.a < x
        · have ex := fun H : VH => bm_ext (h := H.alloc (.lst ((n :: A).map VM.W.int))) (n := H.n) (ys := B.map VM.W.int) alloc_at (by simp; omega)
          simp only [List.map_cons] at k1 ex
          simp -implicitDefEqProofs [b26, LT.w, W.isNon, atI_pos, h1, cl, k1, enc_t3, h2, cr, bmK_ref (m := .extend) (.inr (.inl rfl)) alloc_at, ex]
        · simp only [List.map_cons] at k1
          simp -implicitDefEqProofs [b26, LT.w, W.isNon, atI_pos, h1, cl, k1, enc_t3, h2]

theorem cat_rf {H : VH} {r : Nat} {xs ys : List VM.W} (e : H.f r = some (.lst xs)) (hl : xs.length + ys.length ≤ 16777216) : binW .add (.ref r) (.fz ys) H = .ok (.ref H.n) (H.alloc (.lst (xs ++ ys))) := by
  simp [binW, lstW, e, hl]
theorem looks_inside {x y : Int} : ∀ (m k : Nat) (t : LT) (h : VH), t.shp 0 → t.dep ≤ m → m + 2 ≤ k → t.siz ≤ 10000000 → cal T k 27 [t.w, .int x, .int y] h = .ok (.fz ((lastI x y t).map VM.W.int)) h := by
  intro m
  induction m with
  | zero =>
    intro k t h hs hd hk _
    obtain ⟨k, rfl⟩ := Nat.exists_eq_add_of_le' (show 1 ≤ k by omega)
    cases t with
    | nil =>
      rw [cal_run fn27 rfl rfl]
      simp -implicitDefEqProofs [b27, LT.w, W.isNon, lastI]
    | last _ _ _ _ _ _ _ _ => simp [LT.dep] at hd
    | inner _ _ _ _ _ _ _ => simp [LT.dep] at hd
  | succ m ih =>
    intro k t h hs hd hk hz
    obtain ⟨k, rfl⟩ := Nat.exists_eq_add_of_le' (show 1 ≤ k by omega)
    cases t with
    | nil =>
      rw [cal_run fn27 rfl rfl]
      simp -implicitDefEqProofs [b27, LT.w, W.isNon, lastI]
    | inner _ _ _ _ _ _ _ => exact absurd rfl hs.1
    | last n e c ht lo hi l r =>
      obtain ⟨_, sl, sr⟩ := hs
      simp only [LT.dep] at hd
      simp only [LT.siz] at hz
      have cl := fun H => ih k l H sl (by omega) (by omega) (by omega)
      have cr := fun H => ih k r H sr (by omega) (by omega) (by omega)
      have ll := lastI_len x y l
      have lr := lastI_len x y r
      by_cases h1 : y < lo
      · rw [cal_run fn27 rfl rfl]
        simp -implicitDefEqProofs [b27, LT.w, W.isNon, lastI, atI_pos, h1]
      · simp only [lastI, if_neg h1]
        generalize lastI x y l = A at *
        generalize lastI x y r = B at *
        rw [cal_run fn27 rfl rfl]
        by_cases h2 : x ≤ e.a
        · have ex := fun H : VH => bm_ext (h := H.alloc (.lst [.int n])) (n := H.n) (ys := A.map VM.W.int) alloc_at (by simp; omega)
          have k1 := fun H : VH => cat_ff (ws := (n :: A).map VM.W.int) (vs := B.map VM.W.int) (h := H) (by simp; omega)
          simp only [List.map_cons, List.cons_append, List.nil_append] at ex k1
          simp -implicitDefEqProofs [b27, LT.w, W.isNon, atI_pos, h1, cl, enc_t3, h2, cr, bmK_ref (m := .extend) (.inr (.inl rfl)) alloc_at, ex, k1]
        · have k1 := fun H : VH => cat1 (H := H) (n := n) (is := B) (by omega)
          simp only [List.map_cons] at k1
          simp -implicitDefEqProofs [b27, LT.w, W.isNon, atI_pos, h1, cr, k1, enc_t3, h2]
def fitsV (a : Int) (lev : Nat) (x y : Int) (ins : Bool) : Bool := if lev % 2 = 1 then decide (a < x) != ins else decide (y < a) != ins
theorem cmp_eqB {h : VH} {a b : Bool} : cmpW h .eq (.bl a) (.bl b) = some (decide (a = b)) := rfl
theorem cmp_neB {h : VH} {a b : Bool} : cmpW h .ne (.bl a) (.bl b) = some (!decide (a = b)) := rfl
theorem fits {k lev : Nat} {a x y : Int} {ins : Bool} {h : VH} : cal T (k + 1) 28 [.int a, .int (lev : Nat), .int x, .int y, .bl ins] h = .ok (.bl (fitsV a lev x y ins)) h := by
  rw [cal_run fn28 rfl rfl]
  have bb : ∀ b c : Bool, (!decide (b = c)) = (b != c) := by decide
  by_cases e : lev % 2 = 1
  · have e' : ((lev : Nat) : Int) % 2 = 1 := by omega
    simp -implicitDefEqProofs [b28, mod_ii, e', cmp_neB, fitsV, e, bb]
  · have e' : ((lev : Nat) : Int) % 2 = 0 := by omega
    simp -implicitDefEqProofs [b28, mod_ii, e', cmp_neB, fitsV, e, bb]
/-- the twigs looked at: in a tree, and in the next layer of its top -/
def lookP (ps : List (Int × Int)) (ins : Bool) : LT → Nat → List Int × List Int
  | .nil, _ => ([], [])
  | .last n e c ht lo hi l r, lev => (if ins then lastI (ps.getD ((lev - 1) / 2) (0, 0)).1 (ps.getD ((lev - 1) / 2) (0, 0)).2 (.last n e c ht lo hi l r) else lastA (ps.getD ((lev - 1) / 2) (0, 0)).1 (ps.getD ((lev - 1) / 2) (0, 0)).2 (.last n e c ht lo hi l r), [])
  | .inner n e _ _ l r i, lev =>
    (n :: (if fitsV e.a lev (ps.getD ((lev - 1) / 2) (0, 0)).1 (ps.getD ((lev - 1) / 2) (0, 0)).2 ins then
      (if decide (lev % 2 = 1) = ins then (lookP ps ins r lev).2 ++ (lookP ps ins l lev).1 else (lookP ps ins l lev).2 ++ (lookP ps ins r lev).1)
      else (if decide (lev % 2 = 1) = ins then (lookP ps ins r lev).1 else (lookP ps ins l lev).1)), (lookP ps ins i (lev + 1)).1)
theorem lookP_len (ps : List (Int × Int)) (ins : Bool) : ∀ (t : LT) (lev : Nat), (lookP ps ins t lev).1.length ≤ t.siz ∧ (lookP ps ins t lev).2.length ≤ t.siz ∧ (lookP ps ins t lev).1.length + (lookP ps ins t lev).2.length ≤ t.siz
  | .nil, _ => by simp [lookP]
  | .last n e c ht lo hi l r, lev => by
    have h1 := lastI_len (ps.getD ((lev - 1) / 2) (0, 0)).1 (ps.getD ((lev - 1) / 2) (0, 0)).2 (.last n e c ht lo hi l r)
    have h2 := lastA_len (ps.getD ((lev - 1) / 2) (0, 0)).1 (ps.getD ((lev - 1) / 2) (0, 0)).2 (.last n e c ht lo hi l r)
    simp only [lookP, List.length_nil, Nat.add_zero]
    split <;> omega
  | .inner n e c ht l r i, lev => by
    have h1 := lookP_len ps ins l lev
    have h2 := lookP_len ps ins r lev
    have h3 := lookP_len ps ins i (lev + 1)
    simp only [lookP, LT.siz, List.length_cons]
    split <;> split <;> (try simp only [List.length_append]) <;> omega

theorem pair_atF {ps : List (Int × Int)} {lev : Nat} (h1 : 1 ≤ lev) (hp : (lev - 1) / 2 < ps.length) : L2.atI (ps.map spW) (((lev : Nat) : Int) / 2 - 0) = L2.atI (ps.map spW) (((lev : Nat) : Int) / 2 - 0) := rfl
theorem spW_at {ps : List (Int × Int)} {lev : Nat} (h1 : 1 ≤ lev) (hp : (lev - 1) / 2 < ps.length) : L2.atI (ps.map spW) ((((lev : Nat) : Int) - 1) / 2) = some (.tup [.int (ps.getD ((lev - 1) / 2) (0, 0)).1, .int (ps.getD ((lev - 1) / 2) (0, 0)).2]) := by
  have e : (((lev : Nat) : Int) - 1) / 2 = (((lev - 1) / 2 : Nat) : Int) := by omega
  rw [e, atI_pos (by omega), Int.toNat_natCast, List.getElem?_map, List.getD_eq_getElem?_getD, List.getElem?_eq_getElem hp]
  rfl
theorem LT.nonN {t : LT} : t.w.isNon = true ↔ t = .nil := by cases t <;> simp [LT.w, W.isNon]
theorem looks_due {ps : List (Int × Int)} {ins : Bool} {last : Nat} (hps : ∀ lev, 1 ≤ lev → lev ≤ last → (lev - 1) / 2 < ps.length) (hlast : last < 1000) : ∀ (d k lev : Nat) (t : LT) (h : VH), lev + d = last → 1 ≤ lev → t.shp d → t.dep + d + 4 ≤ k → t.siz ≤ 10000000 →
    cal T k 29 [t.w, .int (lev : Nat), .int (last : Nat), .fz (ps.map spW), .bl ins] h = .ok (.fz ((lookP ps ins t lev).1.map VM.W.int)) h := by
  intro d
  induction d with
  | zero =>
    intro k lev t h hl h1 hs hk hz
    obtain ⟨k, rfl⟩ := Nat.exists_eq_add_of_le' (show 1 ≤ k by omega)
    obtain rfl : lev = last := by omega
    have at1 := spW_at h1 (hps lev h1 (by omega))
    rw [cal_run fn29 rfl rfl]
    cases ins with
    | true =>
      have e := fun H : VH => looks_inside (x := (ps.getD ((lev - 1) / 2) (0, 0)).1) (y := (ps.getD ((lev - 1) / 2) (0, 0)).2) t.dep k t H hs (Nat.le_refl _) (by omega) hz
      have q : (lookP ps true t lev).1 = lastI (ps.getD ((lev - 1) / 2) (0, 0)).1 (ps.getD ((lev - 1) / 2) (0, 0)).2 t := by
        cases t with
        | nil => rfl
        | last _ _ _ _ _ _ _ _ => rfl
        | inner _ _ _ _ _ _ _ => exact absurd rfl hs.1
      rw [q]
      generalize (ps.getD ((lev - 1) / 2) (0, 0)).1 = x at *
      generalize (ps.getD ((lev - 1) / 2) (0, 0)).2 = y at *
      simp -implicitDefEqProofs [b29, fdiv_ii, at1, e]
    | false =>
      have e := fun H : VH => looks_across (x := (ps.getD ((lev - 1) / 2) (0, 0)).1) (y := (ps.getD ((lev - 1) / 2) (0, 0)).2) t.dep k t H hs (Nat.le_refl _) (by omega) hz
      have q : (lookP ps false t lev).1 = lastA (ps.getD ((lev - 1) / 2) (0, 0)).1 (ps.getD ((lev - 1) / 2) (0, 0)).2 t := by
        cases t with
        | nil => rfl
        | last _ _ _ _ _ _ _ _ => rfl
        | inner _ _ _ _ _ _ _ => exact absurd rfl hs.1
      rw [q]
      generalize (ps.getD ((lev - 1) / 2) (0, 0)).1 = x at *
      generalize (ps.getD ((lev - 1) / 2) (0, 0)).2 = y at *
      simp -implicitDefEqProofs [b29, fdiv_ii, at1, e]
  | succ d ih =>
    intro k lev t h hl h1 hs hk hz
    obtain ⟨k, rfl⟩ := Nat.exists_eq_add_of_le' (show 1 ≤ k by omega)
    have at1 := spW_at h1 (hps lev h1 (by omega))
    have hne : ¬ ((lev : Nat) : Int) = (last : Nat) := by omega
    have clev : ((lev : Nat) : Int) + 1 = ((lev + 1 : Nat) : Int) := by omega
    have inn : ∀ (t' : LT) (H : VH), t'.shp d → t'.dep + d + 4 ≤ k → t'.siz ≤ 10000000 → cal T k 29 [t'.w, .int ((lev : Int) + 1), .int (last : Nat), .fz (ps.map spW), .bl ins] H = .ok (.fz ((lookP ps ins t' (lev + 1)).1.map VM.W.int)) H := fun t' H q1 q2 q3 => by
      rw [clev]
      exact ih k (lev + 1) t' H (by omega) (by omega) q1 q2 q3
    generalize hx : (ps.getD ((lev - 1) / 2) (0, 0)).1 = x at *
    generalize hy : (ps.getD ((lev - 1) / 2) (0, 0)).2 = y at *
    have lk : ∀ (n : Int) (e : ET) (c ht : Int) (l r i : LT), lookP ps ins (.inner n e c ht l r i) lev = (n :: (if fitsV e.a lev x y ins then
      (if decide (lev % 2 = 1) = ins then (lookP ps ins r lev).2 ++ (lookP ps ins l lev).1 else (lookP ps ins l lev).2 ++ (lookP ps ins r lev).1)
      else (if decide (lev % 2 = 1) = ins then (lookP ps ins r lev).1 else (lookP ps ins l lev).1)), (lookP ps ins i (lev + 1)).1) := fun n e c ht l r i => by
      simp only [lookP, hx, hy]
    have len := lookP_len ps ins
    have fi := fun (a : Int) (H : VH) => fits (k := k - 1) (lev := lev) (a := a) (x := x) (y := y) (ins := ins) (h := H)
    have ek : k - 1 + 1 = k := by omega
    rw [ek] at fi
    rw [← Tr_eq, cal_run fn29 rfl rfl]
    simp -implicitDefEqProofs [b29, fdiv_ii, at1, hne]
    refine Tr.imp (Q := fun fl h' => ∃ o0 o8 o9, fl = Fl.nx [o0, some (.int (lev : Nat)), some (.int (last : Nat)), some (.fz (ps.map spW)), some (.bl ins), some (.int x), some (.int y), some (.ref h.n), o8, o9] ∧ h' = h.alloc (.lst ((lookP ps ins t lev).1.map VM.W.int)))
      (wh_tr (fun m s h' => ∃ t' acc o8 o9, s = [some t'.w, some (.int (lev : Nat)), some (.int (last : Nat)), some (.fz (ps.map spW)), some (.bl ins), some (.int x), some (.int y), some (.ref h.n), o8, o9] ∧ h' = h.alloc (.lst (acc.map VM.W.int)) ∧ acc ++ (lookP ps ins t' lev).1 = (lookP ps ins t lev).1 ∧ t'.shp (d + 1) ∧ t'.dep ≤ t.dep ∧ t'.siz ≤ t.siz ∧ m = t'.siz) ?_ t.siz _ _ ⟨t, [], none, none, rfl, rfl, rfl, hs, Nat.le_refl _, Nat.le_refl _, rfl⟩) ?_
    · rintro m s h' ⟨t', acc, o8, o9, rfl, rfl, eq, hs', hd', hz', rfl⟩
      cases t' with
      | nil =>
        simp -implicitDefEqProofs [LT.w, W.isNon]
        rw [← eq]
        simp [lookP]
      | last _ _ _ _ _ _ _ _ => exact absurd hs'.1 (by omega)
      | inner n e c ht l r i =>
        obtain ⟨_, sl, sr, si⟩ := hs'
        have lt := len t lev
        rw [lk] at eq
        simp only [LT.dep, LT.siz] at hd' hz'
        have hacc : acc.length + (1 + (if fitsV e.a lev x y ins then
      (if decide (lev % 2 = 1) = ins then (lookP ps ins r lev).2 ++ (lookP ps ins l lev).1 else (lookP ps ins l lev).2 ++ (lookP ps ins r lev).1)
      else (if decide (lev % 2 = 1) = ins then (lookP ps ins r lev).1 else (lookP ps ins l lev).1)).length) ≤ 10000000 := by
          have := congrArg List.length eq
          simp only [List.length_append, List.length_cons] at this
          omega
        have ap := fun H : VH => bm_app (h := H.alloc (.lst (acc.map VM.W.int))) (n := H.n) (w := .int n) alloc_at (by simp; omega)
        have hcm : ∀ H : VH, cmpW H .eq (.int ((lev : Int) % 2)) (.int 1) = some (decide (lev % 2 = 1)) := fun H => by
          rw [cmp_eqI]
          congr 1
          rw [decide_eq_decide]
          omega
        have hcut : ∀ wc wd u v w : VM.W, cutL [.int n, enc e, wc, wd, u, v, w] (some 4) (some 6) = [u, v] := fun wc wd u v w => by
          unfold cutL
          simp [HT.sIx]
        have ea : ∀ H : VH, idxW H (enc e) (.int 0) = some (.int e.a) := fun H => rfl
        have fa := fi e.a
        have bme := fun (X : List VM.W) (H : VH) => bmK_ref (m := .extend) (h := H.alloc (.lst X)) (.inr (.inl rfl)) alloc_at
        have bma := fun (X : List VM.W) (H : VH) => bmK_ref (m := .append) (h := H.alloc (.lst X)) (.inl rfl) alloc_at
        generalize fitsV e.a lev x y ins = f at *
        generalize hpb : decide (lev % 2 = 1) = pb at *
        -- what comes of a twig, and of the one beside
        have go : ∀ near far : LT, near.shp (d + 1) → far.shp (d + 1) → near.dep + 1 ≤ t.dep → far.dep + 1 ≤ t.dep → near.siz + 1 ≤ t.siz → far.siz + 1 ≤ t.siz → near.siz < (LT.inner n e c ht l r i).siz → far.siz < (LT.inner n e c ht l r i).siz →
            (if decide (pb = ins) = true then (r, l) else (l, r)) = (near, far) → acc ++ n :: (if f then (lookP ps ins near lev).2 ++ (lookP ps ins far lev).1 else (lookP ps ins near lev).1) = (lookP ps ins t lev).1 → acc.length + (1 + (if f then (lookP ps ins near lev).2 ++ (lookP ps ins far lev).1 else (lookP ps ins near lev).1).length) ≤ 10000000 →
            Tr (exS T (cal T k) (cal T (k - 1)) b29_0 [some (LT.inner n e c ht l r i).w, some (.int (lev : Nat)), some (.int (last : Nat)), some (.fz (ps.map spW)), some (.bl ins), some (.int x), some (.int y), some (.ref h.n), o8, o9] (h.alloc (.lst (acc.map VM.W.int)))) fun fl h2 => match fl with
              | .nx s' => ∃ m', m' < (LT.inner n e c ht l r i).siz ∧ ∃ t' acc o8 o9, s' = [some t'.w, some (.int (lev : Nat)), some (.int (last : Nat)), some (.fz (ps.map spW)), some (.bl ins), some (.int x), some (.int y), some (.ref h.n), o8, o9] ∧ h2 = h.alloc (.lst (acc.map VM.W.int)) ∧ acc ++ (lookP ps ins t' lev).1 = (lookP ps ins t lev).1 ∧ t'.shp (d + 1) ∧ t'.dep ≤ t.dep ∧ t'.siz ≤ t.siz ∧ m' = t'.siz
              | .ct s' => ∃ m', m' < (LT.inner n e c ht l r i).siz ∧ ∃ t' acc o8 o9, s' = [some t'.w, some (.int (lev : Nat)), some (.int (last : Nat)), some (.fz (ps.map spW)), some (.bl ins), some (.int x), some (.int y), some (.ref h.n), o8, o9] ∧ h2 = h.alloc (.lst (acc.map VM.W.int)) ∧ acc ++ (lookP ps ins t' lev).1 = (lookP ps ins t lev).1 ∧ t'.shp (d + 1) ∧ t'.dep ≤ t.dep ∧ t'.siz ≤ t.siz ∧ m' = t'.siz
              | .rt v => False := by
          intro near far sn sf dn df zn zf mn mf enf eq hl2
          have L0 : ∀ t2 : LT, [some t2.w, some (.int (lev : Nat)), some (.int (last : Nat)), some (.fz (ps.map spW)), some (.bl ins), some (.int x), some (.int y), some (.ref h.n), some near.w, some far.w] = ([some t2.w, some (.int (lev : Nat)), some (.int (last : Nat)), some (.fz (ps.map spW)), some (.bl ins), some (.int x), some (.int y), some (.ref h.n), some near.w, some far.w] : VS) := fun _ => rfl
          have run : ∃ t2 acc2, exS T (cal T k) (cal T (k - 1)) b29_0 [some (LT.inner n e c ht l r i).w, some (.int (lev : Nat)), some (.int (last : Nat)), some (.fz (ps.map spW)), some (.bl ins), some (.int x), some (.int y), some (.ref h.n), o8, o9] (h.alloc (.lst (acc.map VM.W.int))) = .ok (.nx [some (LT.w t2), some (.int (lev : Nat)), some (.int (last : Nat)), some (.fz (ps.map spW)), some (.bl ins), some (.int x), some (.int y), some (.ref h.n), some near.w, some far.w]) (h.alloc (.lst (acc2.map VM.W.int))) ∧ (t2 = near ∨ t2 = far) ∧ acc2 ++ (lookP ps ins t2 lev).1 = (lookP ps ins t lev).1 := by
            cases f with
            | false =>
              simp only [Bool.false_eq_true, if_false] at eq
              refine ⟨near, acc ++ [n], ?_, .inl rfl, by rw [← eq]; simp⟩
              by_cases hp : pb = ins
              · rw [if_pos (decide_eq_true hp)] at enf
                cases enf
                simp -implicitDefEqProofs [b29_0, LT.w, bma, atI_pos, ap, hcut, mod_ii, -cmp_eqI, hcm, cmp_eqB, hp, ea, fa]
              · rw [decide_eq_false hp] at enf
                cases enf
                simp -implicitDefEqProofs [b29_0, LT.w, bma, atI_pos, ap, hcut, mod_ii, -cmp_eqI, hcm, cmp_eqB, hp, ea, fa]
            | true =>
              simp only [if_true] at eq hl2
              cases near with
              | nil =>
                refine ⟨far, acc ++ [n], ?_, .inr rfl, by rw [← eq]; simp [lookP]⟩
                by_cases hp : pb = ins
                · rw [if_pos (decide_eq_true hp)] at enf
                  cases enf
                  simp -implicitDefEqProofs [b29_0, LT.w, bma, atI_pos, ap, hcut, mod_ii, -cmp_eqI, hcm, cmp_eqB, hp, ea, fa, W.isNon]
                · rw [decide_eq_false hp] at enf
                  cases enf
                  simp -implicitDefEqProofs [b29_0, LT.w, bma, atI_pos, ap, hcut, mod_ii, -cmp_eqI, hcm, cmp_eqB, hp, ea, fa, W.isNon]
              | last _ _ _ _ _ _ _ _ => exact absurd sn.1 (by omega)
              | inner n' e' c' ht' l' r' i' =>
                obtain ⟨_, _, _, si'⟩ := sn
                simp only [LT.dep, LT.siz] at dn zn
                have ci := fun H => inn i' H si' (by omega) (by omega)
                have e2 : (lookP ps ins (.inner n' e' c' ht' l' r' i') lev).2 = (lookP ps ins i' (lev + 1)).1 := by rw [lk]
                rw [e2] at eq hl2
                generalize (lookP ps ins i' (lev + 1)).1 = I at *
                have ex := fun H : VH => bm_ext (h := H.alloc (.lst ((acc ++ [n]).map VM.W.int))) (n := H.n) (ys := I.map VM.W.int) alloc_at (by simp at hl2 ⊢; omega)
                refine ⟨far, acc ++ n :: I, ?_, .inr rfl, by rw [← eq]; simp⟩
                simp only [List.map_append, List.map_cons, List.map_nil] at ex
                by_cases hp : pb = ins
                · rw [if_pos (decide_eq_true hp)] at enf
                  cases enf
                  simp -implicitDefEqProofs [b29_0, LT.w, bma, bme, atI_pos, ap, hcut, mod_ii, -cmp_eqI, hcm, cmp_eqB, hp, ea, fa, W.isNon, ci, ex]
                · rw [decide_eq_false hp] at enf
                  cases enf
                  simp -implicitDefEqProofs [b29_0, LT.w, bma, bme, atI_pos, ap, hcut, mod_ii, -cmp_eqI, hcm, cmp_eqB, hp, ea, fa, W.isNon, ci, ex]
          obtain ⟨t2, acc2, er, ht2, eq2⟩ := run
          rw [er, Tr_ok]
          rcases ht2 with rfl | rfl
          · exact ⟨_, mn, _, acc2, _, _, rfl, rfl, eq2, sn, by omega, by omega, rfl⟩
          · exact ⟨_, mf, _, acc2, _, _, rfl, rfl, eq2, sf, by omega, by omega, rfl⟩
        have fin : ∀ near far : LT, (if decide (pb = ins) = true then (r, l) else (l, r)) = (near, far) → near.shp (d + 1) → far.shp (d + 1) → near.dep + 1 ≤ t.dep → far.dep + 1 ≤ t.dep → near.siz + 1 ≤ t.siz → far.siz + 1 ≤ t.siz → near.siz < (LT.inner n e c ht l r i).siz → far.siz < (LT.inner n e c ht l r i).siz → acc ++ n :: (if f then (lookP ps ins near lev).2 ++ (lookP ps ins far lev).1 else (lookP ps ins near lev).1) = (lookP ps ins t lev).1 → acc.length + (1 + (if f then (lookP ps ins near lev).2 ++ (lookP ps ins far lev).1 else (lookP ps ins near lev).1).length) ≤ 10000000 → _ := fun near far a1 a2 a3 a4 a5 a6 a7 a8 a9 a10 a11 => go near far a2 a3 a4 a5 a6 a7 a8 a9 a1 a10 a11
        have cond : Tr (.ok true (h.alloc (.lst (acc.map VM.W.int))) : R Bool) fun t h1 => t = true := rfl
        by_cases hp : pb = ins
        · have hp' := decide_eq_true hp
          have g := fin r l (by rw [if_pos hp']) sr sl (by omega) (by omega) (by omega) (by omega) (by simp only [LT.siz]; omega) (by simp only [LT.siz]; omega) (by simpa [hp] using eq) (by simpa [hp] using hacc)
          simp -implicitDefEqProofs [LT.w, W.isNon] at g ⊢
          exact g.imp fun fl h2 q => by cases fl <;> exact q
        · have hp' := decide_eq_false hp
          have g := fin l r (by rw [hp']; rfl) sl sr (by omega) (by omega) (by omega) (by omega) (by simp only [LT.siz]; omega) (by simp only [LT.siz]; omega) (by simpa [hp] using eq) (by simpa [hp] using hacc)
          simp -implicitDefEqProofs [LT.w, W.isNon] at g ⊢
          exact g.imp fun fl h2 q => by cases fl <;> exact q
    · rintro fl h' ⟨o0, o8, o9, rfl, rfl⟩
      simp -implicitDefEqProofs

def Qn.ins : Qn → Bool
  | .within _ => true
  | _ => false
theorem Qn.sz {q : Qn} {n : Nat} (h : q.ok n = true) : q.size = n := by
  cases q <;> (unfold Qn.ok at h; simp only [Bool.and_eq_true, decide_eq_true_eq] at h; unfold Qn.size; first | exact h | exact h.1)
theorem Qn.pairs_len (q : Qn) : q.pairs.length = q.size := by cases q <;> simp [Qn.pairs, Qn.size]
theorem Qn.thing_val (q : Qn) : val q.thing = true := by cases q <;> rfl
theorem Qn.thing_nr (q : Qn) : noRef q.thing = true := by cases q <;> simp [Qn.thing]
theorem dueL_ok {keys : Nat} {q : Qn} {its : List IT} (ok : itemsOk keys its = true) : itemsOk keys (dueL q its) = true := by
  unfold itemsOk at ok ⊢
  simp only [Bool.and_eq_true, decide_eq_true_eq, List.all_eq_true] at ok ⊢
  have hp : ((ordB its).map fun p : BT => ((p.2, p.1) : IT)).Perm its := by
    unfold ordB
    refine ((sortE_perm (its.map flipI)).map fun p : BT => ((p.2, p.1) : IT)).trans ?_
    rw [List.map_map]
    exact List.Perm.of_eq (List.map_id' _)
  have hs : (dueL q its).Sublist ((ordB its).map fun p : BT => ((p.2, p.1) : IT)) := List.filter_sublist.map _
  refine ⟨fun it hit => ok.1 it (hp.mem_iff.mp (hs.subset hit)), ?_⟩
  exact (hs.map _).nodup ((hp.map (·.1)).nodup_iff.mpr ok.2)
theorem words_in {q : Qn} {H : VH} : cmpW H .notin (.str q.word) (.tup ((["over", "meeting", "within", "around"] : List Str).map VM.W.str)) = some false := by
  have := inItems_enc (h := H) (α := Str) (by decide) q.word ["over", "meeting", "within", "around"]
  show (inItems H (enc q.word) ((["over", "meeting", "within", "around"] : List Str).map enc)).map _ = _
  rw [this]
  cases q <;> rfl
theorem dueL_len {q : Qn} {its : List IT} : (dueL q its).length ≤ its.length := by
  unfold dueL
  rw [List.length_map]
  refine Nat.le_trans (List.length_filter_le _ _) ?_
  simp [ordB]
theorem is_claim {n keys : Nat} {q : Qn} {its ans : List IT} {h : VH} (hk : 1 ≤ keys ∧ keys ≤ 3) (ok : itemsOk keys its = true) (hl : its.length ≤ 1000) (hq : q.ok keys = true) (ha : ∀ it ∈ ans, it.1.length ≤ 1000 ∧ it.2.items.length ≤ 100) (hal : ans.length ≤ 1000) :
    cal T (n + 10) 30 [.tup [.str q.word, .int (keys : Nat), .fz (its.map enc), q.thing, .fz (ans.map enc)]] h = .ok (.bl (decide (ans = dueL q its))) h := by
  have hsz := Qn.sz hq
  have ai := fun H : VH => are_items (k := n + 4) (n := keys) (h := H) (its_short ok (by omega)) hl
  rw [ok] at ai
  have aa := fun H : VH => are_items (k := n + 4) (n := keys) (h := H) ha hal
  have ak : ∀ H : VH, cal T (n + 9) 10 [.int (keys : Nat)] H = .ok (.bl true) H := fun H => by
    rw [are_keys, decide_eq_true (by omega)]
  have as := fun H : VH => is_asked_for (k := n + 5) (n := keys) (q := q) (h := H) (by omega)
  rw [hq] at as
  have ad := fun H : VH => answers_due (k := n + 5) (q := q) (its := its) (h := H) hl (fun it hit => (its_short ok (by omega) it hit).2) (by omega)
  have eqf := fun H : VH => eq_fzE (h := H) (α := IT) IT_depth (xs := ans) (ys := dueL q its)
  have wi := fun H : VH => words_in (q := q) (H := H)
  have t5 : val (.tup [.str q.word, .int (keys : Nat), .fz (its.map enc), q.thing, .fz (ans.map enc)]) = true := rfl
  have ts : val (.str q.word) = true := rfl
  have key : ans = dueL q its → itemsOk keys ans = true := fun e => by rw [e]; exact dueL_ok ok
  generalize dueL q its = D at *
  rw [cal_run fn30 rfl rfl]
  cases hA : itemsOk keys ans with
  | false =>
    have hne : ¬ ans = D := fun e => by rw [key e] at hA; cases hA
    rw [hA] at aa
    simp only [List.map_cons, List.map_nil] at wi
    simp -implicitDefEqProofs [b30, bi_is t5, bi_is ts, tyW, glb0, wi, ak, ai, as, aa, hne]
  | true =>
    rw [hA] at aa
    simp only [List.map_cons, List.map_nil] at wi
    simp -implicitDefEqProofs [b30, bi_is t5, bi_is ts, tyW, glb0, wi, ak, ai, as, aa, ad, eqf]
theorem answers_taken {n keys : Nat} {q : Qn} {its ans : List IT} {w : VM.W} {looked : List Int} {h : VH} (hk : 1 ≤ keys ∧ keys ≤ 3) (ok : itemsOk keys its = true) (hl : its.length ≤ 100) (hz : mostN (2 * keys - 2) its.length < 10000000) (hq : q.ok keys = true) (ha : ∀ it ∈ ans, it.1.length ≤ 1000 ∧ it.2.items.length ≤ 100) (hal : ans.length ≤ 1000) (p : Dt w) (hn : its.length + 20 ≤ n) (hlk : looked.length ≤ 10000000) :
    ∃ b, cal T (n + 11) 31 [.tup [.str q.word, .int (keys : Nat), .fz (its.map enc), q.thing, .fz (ans.map enc)], .tup [w, .fz (looked.map VM.W.int)]] h = .ok (.bl b) h ∧
      (b = true ↔ ans = dueL q its ∧ ∃ t, w = LT.w t ∧ LGood (2 * keys - 1) t 1 its ∧ t.nums.Nodup ∧ looked = (lookP q.pairs q.ins t 1).1) := by
  have hsz := Qn.sz hq
  have cl := fun H : VH => is_claim (n := n) (q := q) (its := its) (ans := ans) (h := H) hk ok (by omega) hq ha hal
  have c3 : 2 * ((keys : Nat) : Int) - 1 = ((2 * keys - 1 : Nat) : Int) := by omega
  have m2 : ∀ H, binW .mul (.int 2) (.int (keys : Int)) H = .ok (.int (2 * (keys : Int))) H := fun H => mul_ls (by omega)
  have d0 : (h.alloc (.dic false [])).f h.n = some (.dic false (dk [])) := alloc_at
  obtain ⟨v, h', ly, b1, ks', rfl, rfl, t1, f1⟩ := (is_layer (its.length + (2 * keys - 1)) (n + 10) h.n 1 (2 * keys - 1) w its [] (h.alloc (.dic false [])) (by omega) (by omega) (by omega) (by omega) (fun it hit => by rw [its_box ok it hit]; omega) (its_nodup ok) hl (by omega) p d0 (by simp) (by rw [show 2 * keys - 1 - 1 = 2 * keys - 2 by omega]; simpa using hz)).ok
  rw [alloc_set] at ly
  have ly : cal T (n + 10) 25 [w, .fz (its.map enc), .int 1, .int ((2 * keys - 1 : Nat) : Int), .ref h.n] (h.alloc (.dic false [])) = .ok (.bl b1) (h.alloc (.dic false (dk ks'))) := ly
  have tp : val (.tup [w, .fz (looked.map VM.W.int)]) = true := rfl
  have tl : val (.fz (looked.map VM.W.int)) = true := rfl
  by_cases hD : ans = dueL q its
  · rw [decide_eq_true hD] at cl
    cases b1 with
    | false =>
      refine ⟨false, ?_, (fun z => nomatch z), ?_⟩
      · rw [cal_run fn31 rfl rfl]
        simp -implicitDefEqProofs [b31, cl, bi_is tp, tyW, m2, c3, ly]
      · rintro ⟨_, t, e, g, nd, _⟩
        exact absurd ⟨t, e, g, nd, fun n hn => List.not_mem_nil⟩ (f1 rfl)
    | true =>
      obtain ⟨t, rfl, g, nd, _, _, ln⟩ := t1 rfl
      have sh := g.shp (show 1 ≤ 2 * keys - 1 by omega)
      have dp := g.dep (show 1 ≤ 2 * keys - 1 by omega)
      rw [LT.siz_nums, show 2 * keys - 1 - 1 = 2 * keys - 2 by omega] at ln
      have pd := fun H : VH => pairs_due (k := n + 9) (q := q) (h := H) (by omega)
      have ld := fun H : VH => looks_due (ps := q.pairs) (ins := q.ins) (last := 2 * keys - 1) (fun lev _ _ => by rw [Qn.pairs_len, hsz]; omega) (by omega) (2 * keys - 1 - 1) (n + 10) 1 t H (by omega) (by omega) sh (by omega) (by omega)
      have ll := (lookP_len q.pairs q.ins t 1).1
      have ld : ∀ H : VH, cal T (n + 10) 29 [t.w, .int 1, .int ((2 * keys - 1 : Nat) : Int), .fz (q.pairs.map spW), .bl q.ins] H = .ok (.fz ((lookP q.pairs q.ins t 1).1.map VM.W.int)) H := ld
      have wn : ∀ H : VH, cmpW H .eq (.str q.word) (.str (Str.ofString "within")) = some q.ins := fun H => by
        show some (decide (q.word = Str.ofString "within")) = some q.ins
        have w1 : ¬ (Str.ofString "meeting") = Str.ofString "within" := by decide +kernel
        have w2 : ¬ (Str.ofString "over") = Str.ofString "within" := by decide +kernel
        have w3 : ¬ (Str.ofString "around") = Str.ofString "within" := by decide +kernel
        cases q with
        | over xs => exact congrArg some (decide_eq_false w2)
        | meet qs => exact congrArg some (decide_eq_false w1)
        | within qs => exact congrArg some (decide_eq_true rfl)
        | around qs => exact congrArg some (decide_eq_false w3)
      have eqf := fun H : VH => eq_fzE (h := H) (α := Int) (by decide) (xs := looked) (ys := (lookP q.pairs q.ins t 1).1)
      refine ⟨decide (looked = (lookP q.pairs q.ins t 1).1), ?_, ?_⟩
      · generalize (lookP q.pairs q.ins t 1).1 = X at *
        have eqf : ∀ H : VH, cmpW H .eq (.fz (looked.map VM.W.int)) (.fz (X.map VM.W.int)) = some (decide (looked = X)) := eqf
        rw [cal_run fn31 rfl rfl]
        simp -implicitDefEqProofs [b31, cl, bi_is tp, bi_is tl, tyW, m2, c3, ly]
        rw [comp_enc (xs := looked) (enc := VM.W.int) (fun _ => .bl true) (ws := [.fz (looked.map VM.W.int)]) (h1 := h.alloc (.dic false (dk ks'))) rfl src_fz (by omega) (fun i _ => by simp -implicitDefEqProofs [b31_0, wipeV, is_number (show val (.int i) = true from rfl), whole_int])]
        have ba : ∀ h, biW .all [.fz (looked.map fun _ => VM.W.bl true)] h = .ok (.bl true) h := fun h => by
          have := bi_allM (h := h) (f := fun _ : Int => true) (xs := looked)
          simpa using this
        simp -implicitDefEqProofs [ba, pd, wn, ld, eqf]
      · rw [decide_eq_true_eq]
        constructor
        · intro e
          exact ⟨hD, t, rfl, g, nd, e⟩
        · rintro ⟨_, t', e, g', _, e'⟩
          obtain rfl := LT.w_inj e
          exact e'
  · refine ⟨false, ?_, (fun z => nomatch z), fun z => absurd z.1 hD⟩
    rw [decide_eq_false hD] at cl
    rw [cal_run fn31 rfl rfl]
    simp -implicitDefEqProofs [b31, cl]

section
variable {α : Type} [DecidableEq α] [PySem.W.DatumOrd α] [OrdOk α]
theorem listLt_irr : ∀ xs : List α, PySem.W.listLt xs xs = false
  | [] => rfl
  | x :: xs => by rw [PySem.W.listLt, if_pos rfl]; exact listLt_irr xs
theorem listLt_tot : ∀ xs ys : List α, xs ≠ ys → PySem.W.listLt xs ys = true ∨ PySem.W.listLt ys xs = true
  | [], [], h => absurd rfl h
  | [], y :: ys, _ => .inl rfl
  | x :: xs, [], _ => .inr rfl
  | x :: xs, y :: ys, h => by
    rw [PySem.W.listLt, PySem.W.listLt]
    by_cases e : x = y
    · rw [if_pos e, if_pos e.symm]
      exact listLt_tot xs ys fun z => h (by rw [e, z])
    · rw [if_neg e, if_neg (Ne.symm e)]
      exact OrdOk.tot _ _ e
theorem listLt_trans : ∀ xs ys zs : List α, PySem.W.listLt xs ys = true → PySem.W.listLt ys zs = true → PySem.W.listLt xs zs = true
  | [], [], zs, h, _ => by cases h
  | [], y :: ys, [], _, h => by cases h
  | [], y :: ys, z :: zs, _, _ => rfl
  | x :: xs, [], zs, h, _ => by cases h
  | x :: xs, y :: ys, [], _, h => by cases h
  | x :: xs, y :: ys, z :: zs, h1, h2 => by
    rw [PySem.W.listLt] at h1 h2 ⊢
    split at h1 <;> split at h2
    · rename_i e1 e2; rw [if_pos (e1.trans e2)]; exact listLt_trans _ _ _ h1 h2
    · rename_i e1 e2; rw [e1, if_neg e2]; exact h2
    · rename_i e1 e2; rw [← e2, if_neg e1]; exact h1
    · have h3 := OrdOk.trans _ _ _ h1 h2
      rw [if_neg (lt_ne h3)]; exact h3
instance : OrdOk (PySem.W.Tup α) where
  irr t := listLt_irr t.items
  tot t u h := listLt_tot t.items u.items fun e => h (by cases t; cases u; cases e; rfl)
  trans t u v := listLt_trans t.items u.items v.items
end
theorem ordL_congr {lev : Nat} {its its' : List IT} (p : its.Perm its') : ordL lev its = ordL lev its' := by
  unfold ordL
  rw [sortE_congr (p.map fun it => ((entL lev it, it) : OT))]
theorem LGood.congr {last : Nat} : ∀ {t : LT} {lev : Nat} {its its' : List IT}, its.Perm its' → LGood last t lev its → LGood last t lev its'
  | .nil, lev, its, its', p, g => by
    have g : its = [] := g
    subst g
    exact p.nil_eq.symm
  | .last n e c ht lo hi l r, lev, its, its', p, g => by
    obtain ⟨h0, h1, h2, h3, h4, g⟩ := g
    unfold ends entO at h4
    rw [ordL_congr p] at h4 g
    exact ⟨h0, h1, by rw [h2, p.length_eq], h3, h4, g⟩
  | .inner n e c ht l r i, lev, its, its', p, g => by
    obtain ⟨h0, h1, h2, h3, h4, g⟩ := g
    rw [ordL_congr p] at g
    exact ⟨h0, h1, by rw [h2, p.length_eq], h3, h4.congr p, g⟩
/-! ### made by halves -/
def nxt (p s : Int) : Int := s + 1 + s % p
/-- a list of items that is in order, each ahead of the next -/
def madeL (p : Int) (q : Nat) (last : Nat) : Nat → Nat → List IT → Int → LT × Int
  | 0, _, _, s => (.nil, s)
  | m + 1, lev, its, s => if its = [] then (.nil, s) else
    let O := ordL lev its
    let a := (its.length - q) / 2
    let L := madeL p q last m lev (O.take a) (nxt p s)
    let R := madeL p q last m lev (O.drop (a + 1)) L.2
    let e := entL lev (O.getD a (Str.empty, Tup.mk []))
    let ht := 1 + (if R.1.ht > L.1.ht then R.1.ht else L.1.ht)
    if lev = last then (.last (nxt p s) e (its.length : Nat) ht ((minI ((O.map (entL lev)).map (·.b))).getD 0) ((maxI ((O.map (entL lev)).map (·.b))).getD 0) L.1 R.1, R.2)
    else ((.inner (nxt p s) e (its.length : Nat) ht L.1 R.1 (madeL p q last m (lev + 1) O R.2).1), (madeL p q last m (lev + 1) O R.2).2)
/-- all numbers lie between -/
structure Btw (s : Int) (t : LT) (s' : Int) : Prop where
  le : s ≤ s'
  rng : ∀ n ∈ t.nums, s < n ∧ n ≤ s'
  nd : t.nums.Nodup
def hF2 (n : Nat) : Nat := if n = 0 then 0 else if n < 2 then 1 else if n < 4 then 2 else if n < 8 then 3 else if n < 16 then 4 else 5
theorem hF2_ok (m a : Nat) (hm : m < 32) (h0 : 0 < m) (h : a = m / 2 ∨ (m % 2 = 0 ∧ a = m / 2 - 1)) : upright (hF2 m : Nat) (hF2 a : Nat) (hF2 (m - 1 - a) : Nat) = true ∧ (1 + (if ((hF2 (m - 1 - a) : Nat) : Int) > (hF2 a : Nat) then ((hF2 (m - 1 - a) : Nat) : Int) else (hF2 a : Nat))) = (hF2 m : Nat) := by
  have key : ∀ m, m < 32 → 0 < m → ∀ a, a < 32 → (a = m / 2 ∨ (m % 2 = 0 ∧ a = m / 2 - 1)) → upright (hF2 m : Nat) (hF2 a : Nat) (hF2 (m - 1 - a) : Nat) = true ∧ (1 + (if ((hF2 (m - 1 - a) : Nat) : Int) > (hF2 a : Nat) then ((hF2 (m - 1 - a) : Nat) : Int) else (hF2 a : Nat))) = (hF2 m : Nat) := by decide +kernel
  exact key m hm h0 a (by omega) h
theorem nxt_gt {p s : Int} (hp : 0 < p) : s < nxt p s := by
  unfold nxt
  have := Int.emod_nonneg s (show p ≠ 0 by omega)
  omega
theorem madeL_ok {p : Int} {q last : Nat} (hp : 0 < p) (hq : q ≤ 1) : ∀ (m lev : Nat) (its : List IT) (s : Int), its.length + (last - lev) < m → lev ≤ last → its.length < 32 → 0 ≤ s →
    Btw s (madeL p q last m lev its s).1 (madeL p q last m lev its s).2 ∧ LGood last (madeL p q last m lev its s).1 lev its ∧ (madeL p q last m lev its s).1.ht = (hF2 its.length : Nat)
  | 0, lev, its, s, h, _, _, _ => by omega
  | m + 1, lev, its, s, h, hl, h32, hs => by
    by_cases hn : its = []
    · subst hn
      simp only [madeL, if_true]
      exact ⟨⟨Int.le_refl _, fun n hn => absurd hn List.not_mem_nil, List.nodup_nil⟩, rfl, rfl⟩
    · have hpos : 0 < its.length := List.length_pos_iff.mpr hn
      have ha : (its.length - q) / 2 < its.length := by omega
      have hcase : (its.length - q) / 2 = its.length / 2 ∨ (its.length % 2 = 0 ∧ (its.length - q) / 2 = its.length / 2 - 1) := by omega
      have hO : (ordL lev its).length = its.length := ordL_len lev its
      generalize hadef : (its.length - q) / 2 = a at *
      have lT : ((ordL lev its).take a).length = a := by rw [List.length_take]; omega
      have lD : ((ordL lev its).drop (a + 1)).length = its.length - 1 - a := by rw [List.length_drop]; omega
      have hg := nxt_gt (s := s) hp
      obtain ⟨b1, g1, t1⟩ := madeL_ok hp hq m lev ((ordL lev its).take a) (nxt p s) (by omega) hl (by omega) (by omega)
      rw [lT] at t1
      have b1le := b1.le
      obtain ⟨b2, g2, t2⟩ := madeL_ok hp hq m lev ((ordL lev its).drop (a + 1)) (madeL p q last m lev ((ordL lev its).take a) (nxt p s)).2 (by omega) hl (by omega) (by omega)
      rw [lD] at t2
      have b2le := b2.le
      have e0 : ordL lev its = (ordL lev its).take a ++ (ordL lev its).getD a (Str.empty, Tup.mk []) :: (ordL lev its).drop (a + 1) := by
        rw [List.getD_eq_getElem?_getD, List.getElem?_eq_getElem (show a < (ordL lev its).length by omega)]
        show _ = _ ++ (ordL lev its)[a] :: _
        rw [List.getElem_cons_drop, List.take_append_drop]
      obtain ⟨up, hv⟩ := hF2_ok its.length a h32 hpos hcase
      have nE : (ordL lev its).map (entL lev) ≠ [] := fun z => hn (List.eq_nil_of_length_eq_zero (by rw [← hO, ← List.length_map (f := entL lev), z]; rfl))
      have hlo : ∃ x, minI (((ordL lev its).map (entL lev)).map (·.b)) = some x := by
        cases h : (ordL lev its).map (entL lev) with
        | nil => exact absurd h nE
        | cons x xs => exact ⟨_, rfl⟩
      have hhi : ∃ x, maxI (((ordL lev its).map (entL lev)).map (·.b)) = some x := by
        cases h : (ordL lev its).map (entL lev) with
        | nil => exact absurd h nE
        | cons x xs => exact ⟨_, rfl⟩
      obtain ⟨lo, hlo⟩ := hlo
      obtain ⟨hi, hhi⟩ := hhi
      by_cases hlev : lev = last
      · have eq : madeL p q last (m + 1) lev its s = (.last (nxt p s) (entL lev ((ordL lev its).getD a (Str.empty, Tup.mk []))) (its.length : Nat) (1 + (if (madeL p q last m lev ((ordL lev its).drop (a + 1)) (madeL p q last m lev ((ordL lev its).take a) (nxt p s)).2).1.ht > (madeL p q last m lev ((ordL lev its).take a) (nxt p s)).1.ht then (madeL p q last m lev ((ordL lev its).drop (a + 1)) (madeL p q last m lev ((ordL lev its).take a) (nxt p s)).2).1.ht else (madeL p q last m lev ((ordL lev its).take a) (nxt p s)).1.ht)) lo hi (madeL p q last m lev ((ordL lev its).take a) (nxt p s)).1 (madeL p q last m lev ((ordL lev its).drop (a + 1)) (madeL p q last m lev ((ordL lev its).take a) (nxt p s)).2).1, (madeL p q last m lev ((ordL lev its).drop (a + 1)) (madeL p q last m lev ((ordL lev its).take a) (nxt p s)).2).2) := by
          rw [madeL, if_neg hn]
          simp only [hlev, if_true, hadef]
          rw [hlev] at hlo hhi
          rw [hlo, hhi]
          rfl
        rw [eq]
        generalize madeL p q last m lev ((ordL lev its).take a) (nxt p s) = L at *
        generalize madeL p q last m lev ((ordL lev its).drop (a + 1)) L.2 = R at *
        rw [t1, t2, hv]
        refine ⟨⟨by show s ≤ R.2; omega, fun n hn => ?_, ?_⟩, ⟨hlev, by omega, rfl, ?_, ⟨hlo, hhi⟩, _, _, _, e0, rfl, g1, g2⟩, rfl⟩
        · show s < n ∧ n ≤ R.2
          simp only [LT.nums] at hn
          rcases List.mem_cons.mp hn with rfl | hn
          · omega
          · rcases List.mem_append.mp hn with z | z
            · have := b1.rng n z; omega
            · have := b2.rng n z; omega
        · simp only [LT.nums, List.nodup_cons, List.nodup_append]
          refine ⟨fun z => ?_, b1.nd, b2.nd, fun x hx y hy e => ?_⟩
          · rcases List.mem_append.mp z with z | z
            · have := b1.rng _ z; omega
            · have := b2.rng _ z; omega
          · have h1 := b1.rng x hx
            have h2 := b2.rng y hy
            omega
        · rw [t1, t2]; exact up
      · have eq : madeL p q last (m + 1) lev its s = (.inner (nxt p s) (entL lev ((ordL lev its).getD a (Str.empty, Tup.mk []))) (its.length : Nat) (1 + (if (madeL p q last m lev ((ordL lev its).drop (a + 1)) (madeL p q last m lev ((ordL lev its).take a) (nxt p s)).2).1.ht > (madeL p q last m lev ((ordL lev its).take a) (nxt p s)).1.ht then (madeL p q last m lev ((ordL lev its).drop (a + 1)) (madeL p q last m lev ((ordL lev its).take a) (nxt p s)).2).1.ht else (madeL p q last m lev ((ordL lev its).take a) (nxt p s)).1.ht)) (madeL p q last m lev ((ordL lev its).take a) (nxt p s)).1 (madeL p q last m lev ((ordL lev its).drop (a + 1)) (madeL p q last m lev ((ordL lev its).take a) (nxt p s)).2).1 (madeL p q last m (lev + 1) (ordL lev its) (madeL p q last m lev ((ordL lev its).drop (a + 1)) (madeL p q last m lev ((ordL lev its).take a) (nxt p s)).2).2).1, (madeL p q last m (lev + 1) (ordL lev its) (madeL p q last m lev ((ordL lev its).drop (a + 1)) (madeL p q last m lev ((ordL lev its).take a) (nxt p s)).2).2).2) := by
          rw [madeL, if_neg hn]
          simp only [if_neg hlev, hadef]
        rw [eq]
        generalize madeL p q last m lev ((ordL lev its).take a) (nxt p s) = L at *
        generalize madeL p q last m lev ((ordL lev its).drop (a + 1)) L.2 = R at *
        obtain ⟨b3, g3, t3⟩ := madeL_ok (last := last) hp hq m (lev + 1) (ordL lev its) R.2 (by omega) (by omega) (by omega) (by omega)
        generalize madeL p q last m (lev + 1) (ordL lev its) R.2 = I at *
        have b3le := b3.le
        rw [t1, t2, hv]
        refine ⟨⟨by show s ≤ I.2; omega, fun n hn => ?_, ?_⟩, ⟨hlev, by omega, rfl, ?_, g3.congr (ordL_perm lev its), _, _, _, e0, rfl, g1, g2⟩, rfl⟩
        · show s < n ∧ n ≤ I.2
          simp only [LT.nums] at hn
          rcases List.mem_cons.mp hn with rfl | hn
          · omega
          · rcases List.mem_append.mp hn with z | z
            · rcases List.mem_append.mp z with z | z
              · have := b1.rng n z; omega
              · have := b2.rng n z; omega
            · have := b3.rng n z; omega
        · simp only [LT.nums, List.nodup_cons, List.nodup_append]
          refine ⟨fun z => ?_, ⟨b1.nd, b2.nd, fun x hx y hy e => ?_⟩, b3.nd, fun x hx y hy e => ?_⟩
          · rcases List.mem_append.mp z with z | z
            · rcases List.mem_append.mp z with z | z
              · have := b1.rng _ z; omega
              · have := b2.rng _ z; omega
            · have := b3.rng _ z; omega
          · have h1 := b1.rng x hx
            have h2 := b2.rng y hy
            omega
          · have h2 := b3.rng y hy
            rcases List.mem_append.mp hx with z | z
            · have h1 := b1.rng x z; omega
            · have h1 := b2.rng x z; omega
        · rw [t1, t2]; exact up

/-- the three numbers that are handed on -/
def tri (s p z : Int) : List VM.W := [.int s, .int p, .int z]
theorem tri_ob (s p z : Int) : obLt 0 (.lst (tri s p z)) = true := by
  show refsLts 0 _ = true
  have : noRefs (tri s p z) = true := by simp [tri]
  exact this
theorem law_next {n r : Nat} {s p z : Int} {h : VH} (hr : h.f r = some (.lst (tri s p z))) (hrn : r < h.n) (hp : 0 < p) : cal T (n + 1) 47 [.ref r] h = .ok (.int (nxt p s)) (h.set r (.lst (tri (nxt p s) p z))) := by
  rw [cal_run fn47 rfl rfl]
  have a0 : L2.atI (tri s p z) 0 = some (.int s) := rfl
  have a1 : L2.atI (tri s p z) 1 = some (.int p) := rfl
  have s0 : L2.ixN (tri s p z).length 0 = some 0 := rfl
  have st : (tri s p z).set 0 (.int (s + 1 + s % p)) = tri (nxt p s) p z := rfl
  have a2 : L2.atI (tri (nxt p s) p z) 0 = some (.int (nxt p s)) := rfl
  simp -implicitDefEqProofs [b47, idx_R hr, a0, a1, mod_ii hp, hr, s0, st, idx_R set_at, a2, trimR_set nr_int hrn (tri_ob _ _ _) Ext_refl]
theorem law_high {n : Nat} {w : VM.W} {i : Int} {h : VH} (e : htOf w = some i) : cal T (n + 1) 48 [w] h = .ok (.int i) h := by
  rw [cal_run fn48 rfl rfl]
  unfold htOf at e
  split at e
  · cases e; simp -implicitDefEqProofs [b48, W.isNon]
  · cases e; simp -implicitDefEqProofs [b48, W.isNon, atI_pos]
  · cases e
theorem law_half {n r many : Nat} {s p z : Int} {h : VH} (hr : h.f r = some (.lst (tri s p z))) (hm : 0 < many) : cal T (n + 1) 49 [.int (many : Nat), .ref r] h = .ok (.int (((many - (z % 2).toNat) / 2 : Nat) : Int)) h := by
  rw [cal_run fn49 rfl rfl]
  have a2 : L2.atI (tri s p z) 2 = some (.int z) := rfl
  have e : ((many : Int) - z % 2) / 2 = (((many - (z % 2).toNat) / 2 : Nat) : Int) := by
    have := Int.emod_nonneg z (show (2 : Int) ≠ 0 by decide)
    have := Int.emod_lt_of_pos z (show (0 : Int) < 2 by decide)
    omega
  simp -implicitDefEqProofs [b49, idx_R hr, a2, mod_ii, fdiv_ii, e]
theorem LT.nr : ∀ t : LT, noRef t.w = true
  | .nil => by simp [LT.w]
  | .last n e c ht lo hi l r => by simp [LT.w, LT.nr l, LT.nr r]
  | .inner n e c ht l r i => by simp [LT.w, LT.nr l, LT.nr r, LT.nr i]
theorem made_layer {p z : Int} {last r : Nat} (hp : 0 < p) (hlast : last < 1000) : ∀ (m k lev : Nat) (its : List IT) (s : Int) (h : VH), m + 3 ≤ k → 1 ≤ lev → its.length ≤ 100 → (∀ it ∈ its, last < 2 * it.2.items.length) → lev ≤ last → its.length + (last - lev) < m → h.f r = some (.lst (tri s p z)) → r < h.n →
    cal T k 50 [.fz (its.map enc), .int (lev : Nat), .int (last : Nat), .ref r] h = .ok (madeL p (z % 2).toNat last m lev its s).1.w (h.set r (.lst (tri (madeL p (z % 2).toNat last m lev its s).2 p z))) := by
  intro m
  induction m with
  | zero => intro k lev its s h hk h1 hl hb hll hm; omega
  | succ m ih =>
    intro k lev its s h hk h1 hl hbx hll hm hr hrn
    obtain ⟨k, rfl⟩ := Nat.exists_eq_add_of_le' (show 4 ≤ k by omega)
    have e0 := nil_eqE (h := h) IT_depth (xs := its)
    by_cases hn : its = []
    · subst hn
      simp only [madeL, if_true]
      rw [set_self hr, cal_run fn50 rfl rfl]
      simp -implicitDefEqProofs at e0
      simp -implicitDefEqProofs [b50, e0, LT.w]
    · have hpos : 0 < its.length := List.length_pos_iff.mpr hn
      have hb : ∀ it ∈ its, (lev - 1) / 2 < it.2.items.length := fun it hit => by have := hbx it hit; omega
      have en : ∀ it ∈ its, ∀ H : VH, cal T (k + 3) 41 [enc it, .int (lev : Nat)] H = .ok (enc (entL lev it)) H := fun it hit H => law_entryL h1 (hb it hit)
      have hso := fun H : VH => ord_sort (lev := lev) (its := its) (H := H) (by omega)
      have n1 : noRefs (its.map fun it => enc ((entL lev it, it) : OT)) = true := nrs_map fun x _ => Enc.nr _
      have n2 : noRefs ((sortE (its.map fun it => ((entL lev it, it) : OT))).map enc) = true := nrs_enc
      have hO : (ordL lev its).length = its.length := ordL_len lev its
      have hmem : ∀ x, x ∈ ordL lev its → x ∈ its := fun x => ordL_mem.mp
      rw [← Tr_eq, cal_run fn50 rfl rfl]
      simp -implicitDefEqProofs [b50, e0, hn]
      rw [comp_enc (xs := sortE (its.map fun it => ((entL lev it, it) : OT))) (enc := enc) (fun p => enc p.2) (ws := [.fz ((sortE (its.map fun it => ((entL lev it, it) : OT))).map enc)]) (h1 := h) (by
        rw [comp_enc (xs := its) (enc := enc) (fun it => enc ((entL lev it, it) : OT)) (ws := [.fz (its.map enc)]) (h1 := h) rfl src_fz (by omega) (fun it hit => by
          have e2 : enc ((entL lev it, it) : OT) = .tup [enc (entL lev it), enc it] := rfl
          rw [e2]
          simp -implicitDefEqProofs [b50_0, wipeV, en it hit])]
        simp -implicitDefEqProofs [n1, n2, hso]) src_fz (by simp; omega) (fun p _ => by simp -implicitDefEqProofs [b50_1, wipeV, enc_pair, atI_pos]), ord_ord]
      simp -implicitDefEqProofs
      generalize hH1 : (h.alloc (.lst ((ordL lev its).map enc))).kill h.n = H
      have ex : Ext h H := by rw [← hH1]; exact Ext_ak (Nat.le_refl _)
      clear hH1
      have hrH : H.f r = some (.lst (tri s p z)) := by rw [ex.eq r hrn]; exact hr
      have hnH : r < H.n := Nat.lt_of_lt_of_le hrn ex.le
      have cl : ((ordL lev its).map (enc : IT → VM.W)).length = its.length := by simp
      have ch := fun H : VH => fun q => law_half (n := k + 2) (r := r) (many := its.length) (s := s) (p := p) (z := z) (h := H) q hpos
      have cn := fun H : VH => fun q1 q2 => law_next (n := k + 2) (r := r) (s := s) (p := p) (z := z) (h := H) q1 q2 hp
      have ha : (its.length - (z % 2).toNat) / 2 < its.length := by omega
      rw [madeL, if_neg hn]
      simp only
      have sl := fun H : VH => cutE_lo (h := H) (E := ordL lev its) (i := (its.length - (z % 2).toNat) / 2)
      have sh := fun H : VH => cutE_hi (h := H) (E := ordL lev its) (i := (its.length - (z % 2).toNat) / 2)
      simp -implicitDefEqProofs only [slc_fz] at sl sh
      have hcL := fun q1 q2 => ih (k + 3) lev ((ordL lev its).take ((its.length - (z % 2).toNat) / 2)) (nxt p s) (H.set r (.lst (tri (nxt p s) p z))) (by omega) h1 (by rw [List.length_take]; omega) (fun x hx => hbx x (hmem x (List.mem_of_mem_take hx))) hll (by rw [List.length_take]; omega) q1 q2
      have cL := hcL set_at (by simpa using hnH)
      rw [set_set] at cL
      clear hcL
      have ea : L2.atI ((ordL lev its).map enc) (((its.length - (z % 2).toNat) / 2 : Nat) : Int) = some (enc ((ordL lev its).getD ((its.length - (z % 2).toNat) / 2) (Str.empty, Tup.mk []))) := by
        rw [atI_pos (by omega), List.getElem?_map, Int.toNat_natCast, List.getD_eq_getElem?_getD, List.getElem?_eq_getElem (by omega)]
        rfl
      have en1 := fun H : VH => en ((ordL lev its).getD ((its.length - (z % 2).toNat) / 2) (Str.empty, Tup.mk [])) (by
        rw [List.getD_eq_getElem?_getD, List.getElem?_eq_getElem (show (its.length - (z % 2).toNat) / 2 < (ordL lev its).length by omega)]
        exact hmem _ (List.getElem_mem _)) H
      generalize (its.length - (z % 2).toNat) / 2 = a at *
      generalize madeL p (z % 2).toNat last m lev ((ordL lev its).take a) (nxt p s) = L at *
      have cR := ih (k + 3) lev ((ordL lev its).drop (a + 1)) L.2 (H.set r (.lst (tri L.2 p z))) (by omega) h1 (by rw [List.length_drop]; omega) (fun x hx => hbx x (hmem x (List.mem_of_mem_drop hx))) hll (by rw [List.length_drop]; omega) set_at (by simpa using hnH)
      rw [set_set] at cR
      generalize madeL p (z % 2).toNat last m lev ((ordL lev its).drop (a + 1)) L.2 = R at *
      generalize (ordL lev its).take a = OL at *
      generalize (ordL lev its).drop (a + 1) = OR at *
      have hL := fun H : VH => law_high (n := k + 2) (h := H) L.1.htOf
      have hR := fun H : VH => law_high (n := k + 2) (h := H) R.1.htOf
      generalize (ordL lev its).getD a (Str.empty, Tup.mk []) = it at *
      have nL := L.1.nr
      have nR := R.1.nr
      have c4 : ∀ (w1 w2 w3 w4 w5 w6 w7 : VM.W) (H : VH), binW .add (.tup [w1, w2, w3, w4]) (.tup [w5, w6, w7]) H = .ok (.tup [w1, w2, w3, w4, w5, w6, w7]) H := fun _ _ _ _ _ _ _ H => cat_tt (by simp)
      have c5 : ∀ (w1 w2 w3 w4 w5 w6 w7 w8 : VM.W) (H : VH), binW .add (.tup [w1, w2, w3, w4]) (.tup [w5, w6, w7, w8]) H = .ok (.tup [w1, w2, w3, w4, w5, w6, w7, w8]) H := fun _ _ _ _ _ _ _ _ H => cat_tt (by simp)
      by_cases hlev : lev = last
      · subst hlev
        have eb : ((ordL lev its).map fun it => VM.W.int (entL lev it).b) = (((ordL lev its).map (entL lev)).map (·.b)).map VM.W.int := by rw [List.map_map, List.map_map]; rfl
        have nE : (ordL lev its).map (entL lev) ≠ [] := fun z => hn (List.eq_nil_of_length_eq_zero (by rw [← hO, ← List.length_map (f := entL lev), z]; rfl))
        obtain ⟨lo, hlo⟩ : ∃ x, minI (((ordL lev its).map (entL lev)).map (·.b)) = some x := by
          cases h : (ordL lev its).map (entL lev) with
          | nil => exact absurd h nE
          | cons x xs => exact ⟨_, rfl⟩
        obtain ⟨hi, hhi⟩ : ∃ x, maxI (((ordL lev its).map (entL lev)).map (·.b)) = some x := by
          cases h : (ordL lev its).map (entL lev) with
          | nil => exact absurd h nE
          | cons x xs => exact ⟨_, rfl⟩
        have q1 := fun H : VH => minF (H := H) hlo
        have q2 := fun H : VH => maxF (H := H) hhi
        rw [if_pos rfl, hlo, hhi]
        generalize hM : ((ordL lev its).map (entL lev)).map (·.b) = M at *
        simp -implicitDefEqProofs [ch H hrH, cn H hrH hnH, sl, sh, cL, cR, ea, en1, hL, hR]
        rw [comp_enc (xs := ordL lev its) (enc := enc) (fun it => VM.W.int (entL lev it).b) (ws := [.fz ((ordL lev its).map enc)]) (h1 := H.set r (.lst (tri R.2 p z))) rfl src_fz (by omega) (fun it hit => by
          have e3 : ∀ H, idxW H (enc (entL lev it)) (.int 1) = some (.int (entL lev it).b) := fun _ => rfl
          simp -implicitDefEqProofs [b50_2, wipeV, en it (hmem it hit), e3])]
        rw [eb]
        generalize hw : LT.w (.last (nxt p s) (entL lev it) (its.length : Nat) (1 + (if R.1.ht > L.1.ht then R.1.ht else L.1.ht)) lo hi L.1 R.1) = w
        have nw : noRef w = true := by rw [← hw]; exact LT.nr _
        have tr := trimR_set (h := h) (h1 := ((H.set r (.lst (tri R.2 p z))).alloc (.lst (M.map VM.W.int))).kill H.n) (w := w) (i := r) (o := .lst (tri R.2 p z)) nw hrn (tri_ob _ _ _) ((Ext_set2 ex hrn).trans (Ext_ak (by simp)))
        rw [← hw] at tr ⊢
        simp only [LT.w] at tr ⊢
        simp -implicitDefEqProofs [q1, q2, c5, tr]
      · have hlev' : ¬ ((lev : Nat) : Int) = (last : Nat) := by omega
        have clev : ((lev : Nat) : Int) + 1 = ((lev + 1 : Nat) : Int) := by omega
        have cI := ih (k + 3) (lev + 1) (ordL lev its) R.2 (H.set r (.lst (tri R.2 p z))) (by omega) (by omega) (by omega) (fun x hx => hbx x (hmem x hx)) (by omega) (by omega) set_at (by simpa using hnH)
        rw [set_set, ← clev] at cI
        rw [if_neg hlev]
        generalize madeL p (z % 2).toNat last m (lev + 1) (ordL lev its) R.2 = I at *
        generalize hw : LT.w (.inner (nxt p s) (entL lev it) (its.length : Nat) (1 + (if R.1.ht > L.1.ht then R.1.ht else L.1.ht)) L.1 R.1 I.1) = w
        have nw : noRef w = true := by rw [← hw]; exact LT.nr _
        have tr := trimR_set (h := h) (h1 := H.set r (.lst (tri I.2 p z))) (w := w) (i := r) (o := .lst (tri I.2 p z)) nw hrn (tri_ob _ _ _) (Ext_set2 ex hrn)
        rw [← hw] at tr ⊢
        simp only [LT.w] at tr ⊢
        simp -implicitDefEqProofs [ch H hrH, cn H hrH hnH, sl, sh, cL, cR, ea, en1, hL, hR, hlev', cI, c4, tr]

def hgt0 (w : VM.W) : Int := (htOf w).getD 0
/-- a side tree by halves -/
def madeT (p : Int) (q : Nat) : Nat → List ET → Int → VM.W × Int
  | 0, _, s => (.non, s)
  | m + 1, E, s => if E = [] then (.non, s) else
    let a := (E.length - q) / 2
    let L := madeT p q m (E.take a) (nxt p s)
    let R := madeT p q m (E.drop (a + 1)) L.2
    (.tup [.int (nxt p s), enc (E.getD a ⟨0, 0, Str.empty⟩), .int (E.length : Nat), .int (1 + (if hgt0 R.1 > hgt0 L.1 then hgt0 R.1 else hgt0 L.1)), L.1, R.1], R.2)
theorem madeT_ok {p : Int} {q : Nat} (hp : 0 < p) (hq : q ≤ 1) : ∀ (m : Nat) (E : List ET) (s : Int), E.length ≤ m → E.length < 32 → 0 ≤ s →
    ∃ ns, Sh (madeT p q m E s).1 E ns ∧ (s ≤ (madeT p q m E s).2 ∧ ∀ n ∈ ns, s < n ∧ n ≤ (madeT p q m E s).2) ∧ ns.Nodup ∧ htOf (madeT p q m E s).1 = some ((hF2 E.length : Nat) : Int) ∧ ∃ d, datW (madeT p q m E s).1 = some d ∧ d.depth ≤ m + 2
  | 0, E, s, h, _, _ => by
    obtain rfl : E = [] := List.eq_nil_of_length_eq_zero (by omega)
    exact ⟨[], by simpa [madeT] using ShG.nil, by simp [madeT], List.nodup_nil, by simp [madeT, htOf, hF2], .none, by simp only [madeT]; unfold datW; rw [pdW], by simp [PyData.depth]⟩
  | m + 1, E, s, h, h32, hs => by
    by_cases he : E = []
    · subst he
      exact ⟨[], by simpa [madeT] using ShG.nil, by simp [madeT], List.nodup_nil, by simp [madeT, htOf, hF2], .none, by simp only [madeT, if_true]; unfold datW; rw [pdW], by simp [PyData.depth]⟩
    · have hpos : 0 < E.length := List.length_pos_iff.mpr he
      have ha : (E.length - q) / 2 < E.length := by omega
      have hcase : (E.length - q) / 2 = E.length / 2 ∨ (E.length % 2 = 0 ∧ (E.length - q) / 2 = E.length / 2 - 1) := by omega
      rw [madeT, if_neg he]
      simp only
      generalize (E.length - q) / 2 = a at *
      have lT : (E.take a).length = a := by rw [List.length_take]; omega
      have lD : (E.drop (a + 1)).length = E.length - 1 - a := by rw [List.length_drop]; omega
      have hg := nxt_gt (s := s) hp
      obtain ⟨n1, s1, ⟨l1, r1⟩, d1, t1, D1, k1, e1⟩ := madeT_ok hp hq m (E.take a) (nxt p s) (by omega) (by omega) (by omega)
      generalize madeT p q m (E.take a) (nxt p s) = L at *
      obtain ⟨n2, s2, ⟨l2, r2⟩, d2, t2, D2, k2, e2⟩ := madeT_ok hp hq m (E.drop (a + 1)) L.2 (by omega) (by omega) (by omega)
      generalize madeT p q m (E.drop (a + 1)) L.2 = R at *
      rw [lT] at t1
      rw [lD] at t2
      have e0 : E = E.take a ++ E.getD a ⟨0, 0, Str.empty⟩ :: E.drop (a + 1) := by
        rw [List.getD_eq_getElem?_getD, List.getElem?_eq_getElem ha]
        show E = E.take a ++ E[a] :: E.drop (a + 1)
        rw [List.getElem_cons_drop, List.take_append_drop]
      obtain ⟨up, hv⟩ := hF2_ok E.length a h32 hpos hcase
      have g1 : hgt0 L.1 = (hF2 a : Nat) := by unfold hgt0; rw [t1]; rfl
      have g2 : hgt0 R.1 = (hF2 (E.length - 1 - a) : Nat) := by unfold hgt0; rw [t2]; rfl
      rw [g1, g2, hv]
      refine ⟨nxt p s :: (n1 ++ n2), ?_, ⟨by omega, fun n hn => ?_⟩, ?_, rfl, ?_⟩
      · have := ShG.node (R := fun e t => e = enc t) (t := E.getD a ⟨0, 0, Str.empty⟩) (n := nxt p s) (by omega) rfl s1 s2 t1 t2 up
        rw [← e0] at this
        exact this
      · rcases List.mem_cons.mp hn with rfl | hn
        · omega
        · rcases List.mem_append.mp hn with z | z
          · have := r1 n z; omega
          · have := r2 n z; omega
      · simp only [List.nodup_cons, List.nodup_append]
        refine ⟨fun z => ?_, d1, d2, fun x hx y hy e => ?_⟩
        · rcases List.mem_append.mp z with z | z
          · have := r1 _ z; omega
          · have := r2 _ z; omega
        · have h1 := r1 x hx
          have h2 := r2 y hy
          omega
      · have hi : ∀ i : Int, datW (.int i) = some (.int i) := fun i => by unfold datW; rw [pdW]
        have he := Enc.dat (E.getD a ⟨0, 0, Str.empty⟩)
        refine ⟨_, datW_tup (datL_cons (hi _) (datL_cons he (datL_cons (hi _) (datL_cons (hi _) (datL_cons k1 (datL_cons k2 datL_nil)))))), ?_⟩
        have h3 := Datum.depth_le (E.getD a ⟨0, 0, Str.empty⟩)
        have h4 : Datum.depth ET = 1 := rfl
        simp only [PyData.depth, PyData.depthAll]
        omega
theorem made_tree {p z : Int} {r : Nat} (hp : 0 < p) : ∀ (m k : Nat) (E : List ET) (s : Int) (h : VH), m + 3 ≤ k → E.length ≤ m → E.length < 32 → 0 ≤ s → h.f r = some (.lst (tri s p z)) → r < h.n →
    cal T k 51 [.fz (E.map enc), .ref r] h = .ok (madeT p (z % 2).toNat m E s).1 (h.set r (.lst (tri (madeT p (z % 2).toNat m E s).2 p z))) := by
  intro m
  induction m with
  | zero =>
    intro k E s h hk hm _ _ hr hrn
    obtain ⟨k, rfl⟩ := Nat.exists_eq_add_of_le' (show 3 ≤ k by omega)
    obtain rfl : E = [] := List.eq_nil_of_length_eq_zero (by omega)
    have e0 := E_nil (h := h) (E := [])
    simp only [madeT]
    rw [set_self hr, cal_run fn51 rfl rfl]
    simp -implicitDefEqProofs at e0
    simp -implicitDefEqProofs [b51, e0]
  | succ m ih =>
    intro k E s h hk hm h32 hs hr hrn
    obtain ⟨k, rfl⟩ := Nat.exists_eq_add_of_le' (show 4 ≤ k by omega)
    have e0 := E_nil (h := h) (E := E)
    by_cases he : E = []
    · subst he
      simp only [madeT, if_true]
      rw [set_self hr, cal_run fn51 rfl rfl]
      simp -implicitDefEqProofs at e0
      simp -implicitDefEqProofs [b51, e0]
    · have hpos : 0 < E.length := List.length_pos_iff.mpr he
      have ch := fun H : VH => fun q => law_half (n := k + 2) (r := r) (many := E.length) (s := s) (p := p) (z := z) (h := H) q hpos
      have cn := fun H : VH => fun q1 q2 => law_next (n := k + 2) (r := r) (s := s) (p := p) (z := z) (h := H) q1 q2 hp
      have hz : (z % 2).toNat ≤ 1 := by omega
      have ha : (E.length - (z % 2).toNat) / 2 < E.length := by omega
      have ok := madeT_ok hp hz (m + 1) E s hm h32 hs
      obtain ⟨_, _, _, _, _, _, kd, _⟩ := ok
      rw [madeT, if_neg he] at kd ⊢
      simp only at kd ⊢
      have sl := fun H : VH => slice_lo (h := H) (E := E) (i := (E.length - (z % 2).toNat) / 2)
      have sh := fun H : VH => slice_hi (h := H) (E := E) (i := (E.length - (z % 2).toNat) / 2)
      simp -implicitDefEqProofs only [slc_fz] at sl sh
      have cL := ih (k + 3) (E.take ((E.length - (z % 2).toNat) / 2)) (nxt p s) (h.set r (.lst (tri (nxt p s) p z))) (by omega) (by rw [List.length_take]; omega) (by rw [List.length_take]; omega) (by have := nxt_gt (s := s) hp; omega) set_at (by simpa using hrn)
      rw [set_set] at cL
      have okL := madeT_ok hp hz m (E.take ((E.length - (z % 2).toNat) / 2)) (nxt p s) (by rw [List.length_take]; omega) (by rw [List.length_take]; omega) (by have := nxt_gt (s := s) hp; omega)
      have ea : L2.atI (E.map enc) (((E.length - (z % 2).toNat) / 2 : Nat) : Int) = some (enc (E.getD ((E.length - (z % 2).toNat) / 2) ⟨0, 0, Str.empty⟩)) := by
        rw [atI_pos (by omega), List.getElem?_map, Int.toNat_natCast, List.getD_eq_getElem?_getD, List.getElem?_eq_getElem (by omega)]
        rfl
      generalize (E.length - (z % 2).toNat) / 2 = a at *
      generalize madeT p (z % 2).toNat m (E.take a) (nxt p s) = L at *
      obtain ⟨_, _, ⟨lL, _⟩, _, tL, _⟩ := okL
      have hg := nxt_gt (s := s) hp
      have okR := madeT_ok hp hz m (E.drop (a + 1)) L.2 (by rw [List.length_drop]; omega) (by rw [List.length_drop]; omega) (by omega)
      have cR := ih (k + 3) (E.drop (a + 1)) L.2 (h.set r (.lst (tri L.2 p z))) (by omega) (by rw [List.length_drop]; omega) (by rw [List.length_drop]; omega) (by omega) set_at (by simpa using hrn)
      rw [set_set] at cR
      generalize madeT p (z % 2).toNat m (E.drop (a + 1)) L.2 = R at *
      obtain ⟨_, _, _, _, tR, _⟩ := okR
      have gL : hgt0 L.1 = ((hF2 (E.take a).length : Nat) : Int) := by unfold hgt0; rw [tL]; rfl
      have gR : hgt0 R.1 = ((hF2 (E.drop (a + 1)).length : Nat) : Int) := by unfold hgt0; rw [tR]; rfl
      have hL := fun H : VH => law_high (n := k + 2) (h := H) tL
      have hR := fun H : VH => law_high (n := k + 2) (h := H) tR
      rw [← gL] at hL
      rw [← gR] at hR
      generalize E.take a = EL at *
      generalize E.drop (a + 1) = ER at *
      generalize E.getD a ⟨0, 0, Str.empty⟩ = t at *
      have nr : noRef (.tup [.int (nxt p s), enc t, .int (E.length : Nat), .int (1 + (if hgt0 R.1 > hgt0 L.1 then hgt0 R.1 else hgt0 L.1)), L.1, R.1]) = true := by
        exact dat_nr _ _ kd
      have sl1 := sl (h.set r (.lst (tri (nxt p s) p z)))
      have sh1 := sh (h.set r (.lst (tri L.2 p z)))
      simp -implicitDefEqProofs at sl1 sh1
      have tr := trimR_set (h := h) (h1 := h.set r (.lst (tri R.2 p z))) (i := r) (o := .lst (tri R.2 p z)) nr hrn (tri_ob _ _ _) Ext_refl
      rw [cal_run fn51 rfl rfl]
      simp -implicitDefEqProofs at tr
      simp -implicitDefEqProofs [b51, e0, he, ch h hr, cn h hr hrn, sl1, sh1, cL, cR, ea, hL, hR, tr]

theorem alloc_setr {h : VH} {r : Nat} {o p : Ob} (hr : r < h.n) : (h.alloc o).set r p = (h.set r p).alloc o := by
  unfold VH.alloc VH.set
  simp only [VH.mk.injEq, true_and]
  funext i
  by_cases hi : i = r
  · subst hi
    have : ¬ i = h.n := by omega
    simp [this]
  · simp [hi]
theorem alloc_setn {h : VH} {n : Nat} {o p : Ob} (hn : n = h.n) : (h.alloc o).set n p = h.alloc p := by subst hn; exact alloc_set
/-- all sides by halves -/
def madeS (p : Int) (q : Nat) (its : List IT) : Nat → Int → List VM.W × Int
  | 0, s => ([], s)
  | i + 1, s =>
    let P := madeS p q its i s
    let A := madeT p q its.length (entsL (2 * i + 1) its) P.2
    let B := madeT p q its.length (entsL (2 * i + 2) its) A.2
    (P.1 ++ [.tup [A.1, B.1]], B.2)
theorem madeS_ok {p : Int} {q : Nat} {its : List IT} (hp : 0 < p) (hq : q ≤ 1) (h32 : its.length < 32) : ∀ (i : Nat) (s : Int), 0 ≤ s →
    s ≤ (madeS p q its i s).2 ∧ (madeS p q its i s).1.length = i ∧ (∃ us, SS its 0 (madeS p q its i s).1 us ∧ us.Nodup ∧ ∀ n ∈ us, s < n ∧ n ≤ (madeS p q its i s).2) ∧ ∃ ds, datL (madeS p q its i s).1 = some ds ∧ ∀ d ∈ ds, d.depth ≤ its.length + 3
  | 0, s, hs => ⟨Int.le_refl _, rfl, ⟨[], .nil, List.nodup_nil, fun n hn => absurd hn List.not_mem_nil⟩, [], by simp [madeS], by simp⟩
  | i + 1, s, hs => by
    obtain ⟨l0, i2, ⟨us, ss, nd, rg⟩, ds, e, hd⟩ := madeS_ok hp hq h32 i s hs
    rw [madeS]
    simp only
    generalize madeS p q its i s = P at *
    obtain ⟨n1, s1, ⟨l1, r1⟩, d1, _, D1, k1, e1⟩ := madeT_ok hp hq its.length (entsL (2 * i + 1) its) P.2 (by rw [ents_len]; omega) (by rw [ents_len]; omega) (by omega)
    generalize madeT p q its.length (entsL (2 * i + 1) its) P.2 = A at *
    obtain ⟨n2, s2, ⟨l2, r2⟩, d2, _, D2, k2, e2⟩ := madeT_ok hp hq its.length (entsL (2 * i + 2) its) A.2 (by rw [ents_len]; omega) (by rw [ents_len]; omega) (by omega)
    generalize madeT p q its.length (entsL (2 * i + 2) its) A.2 = B at *
    refine ⟨by omega, by simp [i2], ⟨us ++ (n1 ++ n2), ss.snoc (by rw [i2, Nat.zero_add]; exact s1) (by rw [i2, Nat.zero_add]; exact s2), ?_, fun n hn => ?_⟩, ?_⟩
    · rw [List.nodup_append, List.nodup_append]
      refine ⟨nd, ⟨d1, d2, fun x hx y hy e => ?_⟩, fun x hx y hy e => ?_⟩
      · have := r1 x hx
        have := r2 y hy
        omega
      · have h1 := rg x hx
        rcases List.mem_append.mp hy with z | z
        · have := r1 y z; omega
        · have := r2 y z; omega
    · rcases List.mem_append.mp hn with z | z
      · have := rg n z; omega
      · rcases List.mem_append.mp z with z | z
        · have := r1 n z; omega
        · have := r2 n z; omega
    · have app : ∀ (ws : List VM.W) (ds : List PyData) (w : VM.W) (d : PyData), datL ws = some ds → datW w = some d → datL (ws ++ [w]) = some (ds ++ [d]) := by
        intro ws
        induction ws with
        | nil => intro ds w d h1 h2; rw [datL_nil] at h1; cases h1; exact datL_cons h2 datL_nil
        | cons x xs ih =>
          intro ds w d h1 h2
          obtain ⟨dx, r, rfl, q1, q2⟩ := pdL_consI h1
          exact datL_cons q1 (ih r w d q2 h2)
      refine ⟨ds ++ [.tuple [D1, D2]], app _ _ _ _ e (datW_tup (datL_cons k1 (datL_cons k2 datL_nil))), fun d hd' => ?_⟩
      rcases List.mem_append.mp hd' with z | z
      · exact hd d z
      · simp only [List.mem_singleton] at z
        subst z
        simp only [PyData.depth, PyData.depthAll]
        omega
theorem made_sides {p z : Int} {r n keys : Nat} {its : List IT} {s : Int} {h : VH} (hp : 0 < p) (hk : keys ≤ 3) (hb : ∀ it ∈ its, it.2.items.length = keys) (h32 : its.length < 32) (hs : 0 ≤ s) (hr : h.f r = some (.lst (tri s p z))) (hrn : r < h.n) :
    cal T (its.length + n + 5) 52 [.fz (its.map enc), .int (keys : Nat), .ref r] h = .ok (.tup (madeS p (z % 2).toNat its keys s).1) (h.set r (.lst (tri (madeS p (z % 2).toNat its keys s).2 p z))) := by
  have hz : (z % 2).toNat ≤ 1 := by omega
  have fr : ∀ X Y : Ob, ((h.set r X).alloc Y).f r = some X := fun X Y => by
    have : r ≠ (h.set r X).n := by simp; omega
    rw [alloc_ne this]; exact set_at
  rw [← Tr_eq, cal_run fn52 rfl rfl]
  simp -implicitDefEqProofs [b52]
  rw [forB_of (k := .rng) (ws := [.int (keys : Nat)]) rfl (src_rngs (by omega))]
  refine Tr.imp (Q := fun fl h' => ∃ o4 o5 o6, fl = Fl.nx [some (.fz (its.map enc)), some (.int (keys : Nat)), some (.ref r), some (.ref h.n), o4, o5, o6, none] ∧ h' = (h.set r (.lst (tri (madeS p (z % 2).toNat its keys s).2 p z))).alloc (.lst (madeS p (z % 2).toNat its keys s).1))
    (for_tr (fun i st h' => i ≤ keys ∧ ∃ o4 o5 o6, st = [some (.fz (its.map enc)), some (.int (keys : Nat)), some (.ref r), some (.ref h.n), o4, o5, o6, none] ∧ h' = (h.set r (.lst (tri (madeS p (z % 2).toNat its i s).2 p z))).alloc (.lst (madeS p (z % 2).toNat its i s).1)) ⟨Nat.zero_le _, none, none, none, rfl, by simp only [madeS]; rw [set_self hr]⟩ (fun _ _ _ _ => trivial) ?_ ?_) ?_
  · rintro i w st h' e ⟨hi, o4, o5, o6, rfl, rfl⟩
    obtain ⟨k', e0, rfl⟩ := map_get e
    obtain ⟨q1, q2⟩ := List.getElem?_eq_some_iff.mp e0
    have q1 : i < keys := by simpa using q1
    simp only [List.getElem_range] at q2
    subst q2
    obtain ⟨l0, i2, _, ds, eD, _⟩ := madeS_ok hp hz h32 i s hs
    have eS : madeS p (z % 2).toNat its (i + 1) s = ((madeS p (z % 2).toNat its i s).1 ++ [.tup [(madeT p (z % 2).toNat its.length (entsL (2 * i + 1) its) (madeS p (z % 2).toNat its i s).2).1, (madeT p (z % 2).toNat its.length (entsL (2 * i + 2) its) (madeT p (z % 2).toNat its.length (entsL (2 * i + 1) its) (madeS p (z % 2).toNat its i s).2).2).1]], (madeT p (z % 2).toNat its.length (entsL (2 * i + 2) its) (madeT p (z % 2).toNat its.length (entsL (2 * i + 1) its) (madeS p (z % 2).toNat its i s).2).2).2) := rfl
    rw [eS]
    generalize madeS p (z % 2).toNat its i s = P at *
    have srt := fun (xs : List ET) (hx : xs.length ≤ 16777216) (h : VH) => bi_sortedE (h := h) (show Datum.depth ET ≤ 60 by decide) ET_tup hx
    have m1 : ∀ h, binW .mul (.int 2) (.int (i : Int)) h = .ok (.int (2 * (i : Int))) h := fun h => mul_ls (by omega)
    have el : sortE (its.map (entLo i)) = entsL (2 * i + 1) its := by unfold entsL; rw [entL_odd]
    have eh : sortE (its.map (entHi i)) = entsL (2 * i + 2) its := by unfold entsL; rw [entL_even]
    have em : (its.map fun it => enc (entLo i it)) = (its.map (entLo i)).map enc := by rw [List.map_map]; rfl
    have em2 : (its.map fun it => enc (entHi i it)) = (its.map (entHi i)).map enc := by rw [List.map_map]; rfl
    have lA := ents_len (its := its) (lev := 2 * i + 1)
    have lB := ents_len (its := its) (lev := 2 * i + 2)
    have mA := made_tree (z := z) hp its.length (its.length + n + 4) (entsL (2 * i + 1) its) P.2 ((h.set r (.lst (tri P.2 p z))).alloc (.lst P.1)) (by omega) (by omega) (by omega) (by omega) (fr _ _) (by simp; omega)
    rw [alloc_setr (by simpa using hrn), set_set] at mA
    obtain ⟨_, _, ⟨l1, _⟩, _, _, _, k1, _⟩ := madeT_ok hp hz its.length (entsL (2 * i + 1) its) P.2 (by omega) (by omega) (by omega)
    generalize madeT p (z % 2).toNat its.length (entsL (2 * i + 1) its) P.2 = A at *
    have mB := made_tree (z := z) hp its.length (its.length + n + 4) (entsL (2 * i + 2) its) A.2 ((h.set r (.lst (tri A.2 p z))).alloc (.lst P.1)) (by omega) (by omega) (by omega) (by omega) (fr _ _) (by simp; omega)
    rw [alloc_setr (by simpa using hrn), set_set] at mB
    generalize madeT p (z % 2).toNat its.length (entsL (2 * i + 2) its) A.2 = B at *
    have fH : ((h.set r (.lst (tri P.2 p z))).alloc (.lst P.1)).f h.n = some (.lst P.1) := by
      have : h.n = (h.set r (.lst (tri P.2 p z))).n := by simp
      rw [this]; exact alloc_at
    generalize hH : (h.set r (.lst (tri P.2 p z))).alloc (.lst P.1) = H at *
    simp -implicitDefEqProofs [b52_2, m1]
    rw [comp_enc (xs := its) (enc := enc) (fun it => enc (entLo i it)) (ws := [.fz (its.map enc)]) (h1 := H) rfl src_fz (by omega) (fun it hit => by
      simp -implicitDefEqProofs [b52_0, wipeV, m1, law_entry_lo (show i < it.2.items.length by rw [hb it hit]; omega)])]
    rw [em]
    simp -implicitDefEqProofs only [R.bind_ok, frzR_ok, frzW_new rfl nrs_enc, srt (its.map (entLo i)) (by simp; omega), el, Tr_ok]
    rw [comp_enc (xs := its) (enc := enc) (fun it => enc (entHi i it)) (ws := [.fz (its.map enc)]) (h1 := H) rfl src_fz (by omega) (fun it hit => by
      simp -implicitDefEqProofs [b52_1, wipeV, m1, law_entry_hi (show i < it.2.items.length by rw [hb it hit]; omega)])]
    rw [em2]
    simp -implicitDefEqProofs only [R.bind_ok, frzR_ok, frzW_new rfl nrs_enc, srt (its.map (entHi i)) (by simp; omega), eh, Tr_ok]
    have fh : ((h.set r (.lst (tri B.2 p z))).alloc (.lst P.1)).f h.n = some (.lst P.1) := by
      have : h.n = (h.set r (.lst (tri B.2 p z))).n := by simp
      rw [this]; exact alloc_at
    have ap := bm_app (w := .tup [A.1, B.1]) fh (by rw [i2]; omega)
    rw [alloc_setn (by simp)] at ap
    simp -implicitDefEqProofs [mA, mB, bmK_ref (m := .append) (.inl rfl) fH, ap]
    omega
  · rintro st h' ⟨hi, o4, o5, o6, rfl, rfl⟩
    rw [List.length_map, List.length_range, Int.toNat_natCast]
    exact ⟨_, _, _, rfl, rfl⟩
  · rintro fl h' ⟨o4, o5, o6, rfl, rfl⟩
    obtain ⟨_, _, _, ds, eD, _⟩ := madeS_ok hp hz h32 keys s hs
    have nr := dat_nrs _ _ eD
    generalize madeS p (z % 2).toNat its keys s = P at *
    have fh : ((h.set r (.lst (tri P.2 p z))).alloc (.lst P.1)).f h.n = some (.lst P.1) := by
      have : h.n = (h.set r (.lst (tri P.2 p z))).n := by simp
      rw [this]; exact alloc_at
    have tr := trimR_set (h := h) (h1 := ((h.set r (.lst (tri P.2 p z))).alloc (.lst P.1)).kill h.n) (w := .tup P.1) (i := r) (o := .lst (tri P.2 p z)) (by simpa using nr) hrn (tri_ob _ _ _) (Ext_ak (by simp))
    simp -implicitDefEqProofs [fh, tr]

def smL (l : List Nat) : Prop := ∀ c ∈ l, 97 ≤ c ∧ c ≤ 122
theorem smL_ltr {i : Int} {n : Int} (hn : 0 < n ∧ n ≤ 26) : 97 ≤ ltr (i % n) ∧ ltr (i % n) ≤ 122 := by
  have h0 := Int.emod_nonneg i (show n ≠ 0 by omega)
  have h1 := Int.emod_lt_of_pos i hn.1
  exact ltr_in ⟨h0, by omega⟩
theorem stem_sm (g : Nat → Int) : smL (stemL g) := by
  intro c hc
  unfold stemL at hc
  obtain ⟨k, _, rfl⟩ := List.mem_map.mp hc
  exact smL_ltr (by decide)
theorem tail_sm (x : Int) : smL (tailL x) := by
  intro c hc
  unfold tailL at hc
  obtain ⟨k, _, rfl⟩ := List.mem_map.mp hc
  exact smL_ltr (by decide)
theorem mark_in (g : Nat → Int) (k : Nat) : 97 ≤ markL g k ∧ markL g k ≤ 106 := by unfold markL ltr; omega
theorem one_in (g : Nat → Int) : 97 ≤ oneL g ∧ oneL g ≤ 106 := by unfold oneL ltr; omega
theorem oth_in (g : Nat → Int) : 97 ≤ othL g ∧ othL g ≤ 106 := by unfold othL ltr; omega
theorem one_oth (g : Nat → Int) : oneL g ≠ othL g := by unfold oneL othL ltr; omega
theorem mark_inj (g : Nat → Int) {i j : Nat} (hi : i < 10) (hj : j < 10) (e : markL g i = markL g j) : i = j := by unfold markL ltr at e; omega
theorem name_low (g : Nat → Int) {k : Nat} : ∃ c ∈ nameL g k, 97 ≤ c ∧ c ≤ 106 := by
  unfold nameL
  split
  · exact ⟨markL g k, by simp, mark_in g k⟩
  · split
    · split
      · exact ⟨othL g, by rw [List.mem_replicate]; exact ⟨by omega, rfl⟩, oth_in g⟩
      · exact ⟨oneL g, by rw [List.mem_replicate]; exact ⟨by omega, rfl⟩, one_in g⟩
    · exact ⟨markL g k, by simp, mark_in g k⟩
theorem name_sm (g : Nat → Int) {k : Nat} (hk : k < 10) : smL (nameL g k) ∧ 1 ≤ (nameL g k).length ∧ (nameL g k).length ≤ 8 := by
  have hm := mark_in g k
  have ho := one_in g
  have ht := oth_in g
  unfold nameL
  split
  · have := tailL_len (g k)
    refine ⟨fun c hc => ?_, by simp, by simp; omega⟩
    rcases List.mem_append.mp hc with z | z
    · rw [List.mem_singleton] at z; subst z; omega
    · exact tail_sm _ c z
  · split
    · split
      · refine ⟨fun c hc => ?_, by simp; omega, by simp; omega⟩
        obtain ⟨_, rfl⟩ := List.mem_replicate.mp hc
        omega
      · refine ⟨fun c hc => ?_, by simp, by simp; omega⟩
        obtain ⟨_, rfl⟩ := List.mem_replicate.mp hc
        omega
    · have := stemL_len g
      refine ⟨fun c hc => ?_, by simp; omega, by simp; omega⟩
      rcases List.mem_append.mp hc with z | z
      · rcases List.mem_append.mp z with z | z
        · exact stem_sm g c (List.mem_of_mem_take z)
        · rw [List.mem_singleton] at z; subst z; omega
      · exact stem_sm g c (List.mem_of_mem_drop z)
theorem name_inj (g : Nat → Int) {i j : Nat} (hi : i < 10) (hj : j < 10) (e : nameL g i = nameL g j) : i = j := by
  unfold nameL at e
  split at e
  · simp only [List.cons_append, List.nil_append, List.cons.injEq] at e
    exact mark_inj g hi hj e.1
  · split at e
    · have hne := one_oth g
      split at e <;> split at e
      · have hl := congrArg List.length e
        simp only [List.length_replicate] at hl
        omega
      · exfalso
        have h1 : othL g ∈ List.replicate (i - 7) (othL g) := by rw [List.mem_replicate]; exact ⟨by omega, rfl⟩
        rw [e] at h1
        exact hne (List.mem_replicate.mp h1).2.symm
      · exfalso
        have h1 : oneL g ∈ List.replicate (i + 1) (oneL g) := by rw [List.mem_replicate]; exact ⟨by omega, rfl⟩
        rw [e] at h1
        exact hne (List.mem_replicate.mp h1).2
      · have hl := congrArg List.length e
        simp only [List.length_replicate] at hl
        omega
    · rw [List.append_cancel_right_eq, List.append_cancel_left_eq] at e
      simp only [List.cons.injEq, and_true] at e
      exact mark_inj g hi hj e
theorem more_sm (g : Nat → Int) {k : Nat} (hk : k < 14) : small8 (moreL (nameL g) k) = true := by
  have : smL (moreL (nameL g) k) ∧ 1 ≤ (moreL (nameL g) k).length ∧ (moreL (nameL g) k).length ≤ 8 := by
    unfold moreL
    split
    · exact name_sm g ‹_›
    · refine ⟨fun c hc => ?_, by simp, by simp⟩
      rw [List.mem_singleton] at hc
      omega
  unfold small8
  simp only [Bool.and_eq_true, decide_eq_true_eq, List.all_eq_true]
  exact ⟨⟨this.2.1, this.2.2⟩, this.1⟩
theorem more_inj (g : Nat → Int) {i j : Nat} (hi : i < 14) (hj : j < 14) (e : moreL (nameL g) i = moreL (nameL g) j) : i = j := by
  unfold moreL at e
  split at e <;> split at e
  · exact name_inj g ‹_› ‹_› e
  · exfalso
    obtain ⟨c, hc, hb⟩ := name_low g (k := i)
    rw [e, List.mem_singleton] at hc
    omega
  · exfalso
    obtain ⟨c, hc, hb⟩ := name_low g (k := j)
    rw [← e, List.mem_singleton] at hc
    omega
  · simp at e; omega
/-- boxes of so many stretches, their numbers within bounds -/
def boxOk (keys : Nat) (b : Tup (Int × Int)) : Prop := b.items.length = keys ∧ ∀ p ∈ b.items, p.1 < p.2 ∧ -(10 ^ 13) < p.1 ∧ p.2 < 10 ^ 13
theorem boxP_ok (g : Nat → Int) (k : Nat) (m : Int) : boxOk k (Tup.mk (boxP g k m)) := by
  refine ⟨by simp [boxP], fun p hp => ?_⟩
  simp only [boxP, List.mem_map] at hp
  obtain ⟨i, _, rfl⟩ := hp
  exact ⟨spanP_lt _ _ _, spanP_bd _ _ _⟩
theorem drawn_box (x : Nat → Int) (y : Nat → Nat → Int) (nm : Nat → List Nat) (keys : Nat) : ∀ k, ∀ it ∈ drawn x y nm keys k, boxOk keys it.2
  | 0, it, h => by rw [drawn] at h; cases h
  | k + 1, it, h => by
    rw [drawn] at h
    rcases List.mem_append.mp h with z | z
    · exact drawn_box x y nm keys k it z
    · rw [List.mem_singleton] at z
      subst z
      simp only
      split
      · rename_i hc
        have hl : 0 < (drawn x y nm keys k).length := List.length_pos_iff.mpr hc.2
        have h0 := Int.emod_nonneg (y k 0) (show (((drawn x y nm keys k).length : Nat) : Int) ≠ 0 by omega)
        have h1 := Int.emod_lt_of_pos (y k 0) (show (0 : Int) < ((drawn x y nm keys k).length : Nat) by omega)
        rw [List.getD_eq_getElem?_getD, List.getElem?_eq_getElem (by omega)]
        exact drawn_box x y nm keys k _ (List.getElem_mem _)
      · exact boxP_ok _ _ _
theorem drawn_names (x : Nat → Int) (y : Nat → Nat → Int) (nm : Nat → List Nat) (keys : Nat) : ∀ k, (drawn x y nm keys k).map (·.1) = (List.range k).map fun i => S8 (moreL nm i)
  | 0 => rfl
  | k + 1 => by
    rw [drawn, List.map_append, drawn_names x y nm keys k, List.range_succ, List.map_append]
    rfl
theorem dFound_names (ns : List Int) (a most : Nat) : ((dFound ns a most).map (·.1)).Nodup := by
  unfold dFound
  rw [drawn_names]
  have hm := dMany_le ns a most
  unfold List.Nodup
  rw [List.pairwise_map]
  refine List.Pairwise.imp_of_mem (R := (· < ·)) ?_ List.pairwise_lt_range
  intro i j hi hj hlt e
  rw [List.mem_range] at hi hj
  rw [S8_inj] at e
  have := more_inj _ (show i < 14 by omega) (show j < 14 by omega) e
  omega
theorem dFound_sm (ns : List Int) (a most : Nat) : ∀ it ∈ dFound ns a most, small8 it.1.cps.toList = true := by
  intro it hit
  have : it.1 ∈ (dFound ns a most).map (·.1) := List.mem_map_of_mem hit
  unfold dFound at this
  rw [drawn_names] at this
  obtain ⟨k, hk, e⟩ := List.mem_map.mp this
  rw [List.mem_range] at hk
  have hm := dMany_le ns a most
  rw [← e, S8_cps]
  exact more_sm _ (by omega)
theorem dItems_perm (ns : List Int) (a most : Nat) : (dItems ns a most).Perm (dFound ns a most) := by
  unfold dItems
  refine List.perm_append_comm.trans ?_
  rw [List.take_append_drop]
theorem dItems_len (ns : List Int) (a most : Nat) : (dItems ns a most).length ≤ 14 := by
  rw [(dItems_perm ns a most).length_eq]
  unfold dFound
  rw [drawn_len]
  exact dMany_le ns a most
theorem dItems_box (ns : List Int) (a most : Nat) : ∀ it ∈ dItems ns a most, boxOk (dKeys ns a) it.2 := fun it hit => drawn_box _ _ _ _ _ it ((dItems_perm ns a most).mem_iff.mp hit)
theorem dItems_sm (ns : List Int) (a most : Nat) : ∀ it ∈ dItems ns a most, small8 it.1.cps.toList = true := fun it hit => dFound_sm ns a most it ((dItems_perm ns a most).mem_iff.mp hit)
theorem dItems_ok (ns : List Int) (a most : Nat) : itemsOk (dKeys ns a) (dItems ns a most) = true := by
  unfold itemsOk
  simp only [Bool.and_eq_true, decide_eq_true_eq, List.all_eq_true]
  refine ⟨fun it hit => ?_, ((dItems_perm ns a most).map _).nodup_iff.mpr (dFound_names ns a most)⟩
  have b := dItems_box ns a most it hit
  unfold itemOk
  simp only [Bool.and_eq_true, decide_eq_true_eq, List.all_eq_true]
  exact ⟨dItems_sm ns a most it hit, b.1, fun p hp => (b.2 p hp).1⟩
theorem itemsOk_perm {keys : Nat} {its its' : List IT} (p : its.Perm its') (ok : itemsOk keys its = true) : itemsOk keys its' = true := by
  unfold itemsOk at ok ⊢
  simp only [Bool.and_eq_true, decide_eq_true_eq, List.all_eq_true] at ok ⊢
  exact ⟨fun it hit => ok.1 it (p.mem_iff.mpr hit), (p.map _).nodup_iff.mp ok.2⟩

/-- the boxes of this law -/
def gIt (ns : List Int) (keys : Nat) : Nat → List IT
  | 0 => []
  | k + 1 => gIt ns keys k ++ [(S8 (nameL (numI (cellV ns 0)) k), if numI (cellV ns ((k : Int) + 1)) 6 % 4 = 1 ∧ gIt ns keys k ≠ [] then ((gIt ns keys k).getLast?.getD (Str.empty, Tup.mk [])).2 else Tup.mk (boxP (numI (cellV ns ((k : Int) + 1))) keys (numI (cellV ns 0) 11)))]
def gMost (k : Nat) : Int := if k = 1 then 9 else if k = 2 then 6 else 4
def gMany (ns : List Int) (keys : Nat) : Nat := (numI (cellV ns 0) 10 % gMost keys).toNat
def gItems (ns : List Int) (keys : Nat) : List IT := gIt ns keys (gMany ns keys)
theorem gMost_in (k : Nat) : 4 ≤ gMost k ∧ gMost k ≤ 9 := by
  unfold gMost
  split
  · omega
  · split <;> omega
theorem gMany_lt (ns : List Int) (keys : Nat) : gMany ns keys < 9 := by
  unfold gMany
  have h := gMost_in keys
  have h1 := Int.emod_lt_of_pos (numI (cellV ns 0) 10) (show 0 < gMost keys by omega)
  omega
@[simp] theorem gIt_len (ns : List Int) (keys : Nat) : ∀ k, (gIt ns keys k).length = k
  | 0 => rfl
  | k + 1 => by rw [gIt, List.length_append, gIt_len]; rfl
theorem gIt_box (ns : List Int) (keys : Nat) : ∀ k, ∀ it ∈ gIt ns keys k, boxOk keys it.2
  | 0, it, h => by rw [gIt] at h; cases h
  | k + 1, it, h => by
    rw [gIt] at h
    rcases List.mem_append.mp h with z | z
    · exact gIt_box ns keys k it z
    · rw [List.mem_singleton] at z
      subst z
      simp only
      split
      · rename_i hc
        cases e : (gIt ns keys k).getLast? with
        | none => exact absurd (List.getLast?_eq_none_iff.mp e) hc.2
        | some it => exact gIt_box ns keys k it (List.mem_of_getLast? e)
      · exact boxP_ok _ _ _
theorem gIt_names (ns : List Int) (keys : Nat) : ∀ k, (gIt ns keys k).map (·.1) = (List.range k).map fun i => S8 (nameL (numI (cellV ns 0)) i)
  | 0 => rfl
  | k + 1 => by
    rw [gIt, List.map_append, gIt_names ns keys k, List.range_succ, List.map_append]
    rfl
theorem name_small (g : Nat → Int) {k : Nat} (hk : k < 10) : small8 (nameL g k) = true := by
  have := name_sm g hk
  unfold small8
  simp only [Bool.and_eq_true, decide_eq_true_eq, List.all_eq_true]
  exact ⟨⟨this.2.1, this.2.2⟩, this.1⟩
theorem gItems_len (ns : List Int) (keys : Nat) : (gItems ns keys).length < 9 := by
  unfold gItems
  rw [gIt_len]
  exact gMany_lt ns keys
theorem gItems_ok (ns : List Int) (keys : Nat) : itemsOk keys (gItems ns keys) = true := by
  have hm := gMany_lt ns keys
  unfold itemsOk
  simp only [Bool.and_eq_true, decide_eq_true_eq, List.all_eq_true]
  refine ⟨fun it hit => ?_, ?_⟩
  · have b := gIt_box ns keys _ it hit
    have hn : it.1 ∈ (gItems ns keys).map (·.1) := List.mem_map_of_mem hit
    unfold gItems at hn
    rw [gIt_names] at hn
    obtain ⟨k, hk, e⟩ := List.mem_map.mp hn
    rw [List.mem_range] at hk
    unfold itemOk
    simp only [Bool.and_eq_true, decide_eq_true_eq, List.all_eq_true]
    refine ⟨?_, b.1, fun p hp => (b.2 p hp).1⟩
    rw [← e, S8_cps]
    exact name_small _ (by omega)
  · unfold gItems
    rw [gIt_names]
    unfold List.Nodup
    rw [List.pairwise_map]
    refine List.Pairwise.imp_of_mem (R := (· < ·)) ?_ List.pairwise_lt_range
    intro i j hi hj hlt e
    rw [List.mem_range] at hi hj
    rw [S8_inj] at e
    have := name_inj _ (show i < 10 by omega) (show j < 10 by omega) e
    omega
theorem atI_last {α : Type} {xs : List α} {x : α} (h : xs.getLast? = some x) : L2.atI xs (-1) = some x := by
  have hne : xs ≠ [] := fun e => by rw [e] at h; cases h
  have hl : 0 < xs.length := List.length_pos_iff.mpr hne
  unfold L2.atI L2.ixN
  rw [List.getLast?_eq_getElem?] at h
  have e1 : ¬ (0 : Int) ≤ -1 := by omega
  rw [if_neg e1]
  have e2 : (-1 : Int) + (xs.length : Int) = ((xs.length - 1 : Nat) : Int) := by omega
  simp only [e2]
  first
    | exact h
    | (split
       · first | exact h | (simp; exact h)
       · omega)
theorem law_items {n keys : Nat} {ns : List Int} {h : VH} (hk : 1 ≤ keys ∧ keys ≤ 3) : cal T (n + 3) 46 [.lit (ns.map VM.W.int), .int (keys : Nat)] h = .ok (.fz ((gItems ns keys).map enc)) h := by
  rw [← Tr_eq, cal_run fn46 rfl rfl]
  have c0 : ∀ h, cal T (n + 2) 33 [.lit (ns.map VM.W.int), .int 0] h = .ok (.int (cellV ns 0)) h := fun h => law_cell (by omega)
  have n13 : ∀ h, cal T (n + 2) 34 [.int (cellV ns 0), .int 13] h = .ok (.fz ((numsV (cellV ns 0) 13).map VM.W.int)) h := fun h => law_numbers (by decide)
  have nm : ∀ h, cal T (n + 2) 35 [.fz ((numsV (cellV ns 0) 13).map VM.W.int)] h = .ok (.fz ((List.range 10).map fun k => .str (S8 (nameL (numI (cellV ns 0)) k)))) h := fun h => law_names fun i hi => numsV_at (by omega)
  have x10 : L2.atI ((numsV (cellV ns 0) 13).map VM.W.int) 10 = some (.int (numI (cellV ns 0) 10)) := by
    rw [atI_pos (by omega), numsV_W (by decide)]; rfl
  have x11 : L2.atI ((numsV (cellV ns 0) 13).map VM.W.int) 11 = some (.int (numI (cellV ns 0) 11)) := by
    rw [atI_pos (by omega), numsV_W (by decide)]; rfl
  have ek : L2.atI [VM.W.int 9, .int 6, .int 4] ((keys : Int) - 1) = some (.int (gMost keys)) := by
    rcases (show keys = 1 ∨ keys = 2 ∨ keys = 3 by omega) with q | q | q <;> rw [q] <;> rfl
  have hm0 := (gMost_in keys).1
  have hmany : numI (cellV ns 0) 10 % gMost keys = (gMany ns keys : Nat) := by
    have h0 := Int.emod_nonneg (numI (cellV ns 0) 10) (show gMost keys ≠ 0 by omega)
    unfold gMany
    omega
  simp -implicitDefEqProofs [b46, c0, n13, nm, x10, ek, mod_ii, show 0 < gMost keys by omega, hmany]
  have hlt := gMany_lt ns keys
  rw [forB_of (k := .rng) (ws := [.int (gMany ns keys : Nat)]) rfl (src_rngs (by omega))]
  generalize hzx : (numsV (cellV ns 0) 13).map VM.W.int = zx at *
  generalize hzn : ((List.range 10).map fun k => VM.W.str (S8 (nameL (numI (cellV ns 0)) k))) = zn at *
  refine Tr.imp (Q := fun fl h' => ∃ o5 o6 o7, fl = Fl.nx [some (.lit (ns.map VM.W.int)), some (.int (keys : Nat)), some (.fz zx), some (.fz zn), some (.ref h.n), o5, o6, o7] ∧ h' = h.alloc (.lst ((gItems ns keys).map enc)))
    (for_tr (fun i s h' => i ≤ gMany ns keys ∧ ∃ o5 o6 o7, s = [some (.lit (ns.map VM.W.int)), some (.int (keys : Nat)), some (.fz zx), some (.fz zn), some (.ref h.n), o5, o6, o7] ∧ h' = h.alloc (.lst ((gIt ns keys i).map enc))) ⟨Nat.zero_le _, none, none, none, rfl, by rw [gIt, List.map_nil]⟩ (fun _ _ _ _ => trivial) ?_ ?_) ?_
  · rintro i w s h' e ⟨hi, o5, o6, o7, rfl, rfl⟩
    obtain ⟨k', e0, rfl⟩ := map_get e
    obtain ⟨q1, q2⟩ := List.getElem?_eq_some_iff.mp e0
    have q1 : i < gMany ns keys := by simpa using q1
    simp only [List.getElem_range] at q2
    subst q2
    have ci : ∀ h, cal T (n + 2) 33 [.lit (ns.map VM.W.int), .int ((i : Int) + 1)] h = .ok (.int (cellV ns ((i : Int) + 1))) h := fun h => law_cell (by omega)
    have n7 : ∀ h, cal T (n + 2) 34 [.int (cellV ns ((i : Int) + 1)), .int 7] h = .ok (.fz ((numsV (cellV ns ((i : Int) + 1)) 7).map VM.W.int)) h := fun h => law_numbers (by decide)
    have bx : ∀ h, cal T (n + 2) 37 [.fz ((numsV (cellV ns ((i : Int) + 1)) 7).map VM.W.int), .int (keys : Nat), .int (numI (cellV ns 0) 11)] h = .ok (boxW (boxP (numI (cellV ns ((i : Int) + 1))) keys (numI (cellV ns 0) 11))) h := fun h => law_box hk.2 fun j hj => numsV_at (by omega)
    have y6 : L2.atI ((numsV (cellV ns ((i : Int) + 1)) 7).map VM.W.int) 6 = some (.int (numI (cellV ns ((i : Int) + 1)) 6)) := by
      rw [atI_pos (by omega), numsV_W (by decide)]; rfl
    have zi : L2.atI zn (i : Int) = some (.str (S8 (nameL (numI (cellV ns 0)) i))) := by
      rw [← hzn, atI_pos (by omega), List.getElem?_map, Int.toNat_natCast, List.getElem?_range (by omega)]; rfl
    have nn := ne_nil_ref (h := h.alloc (.lst ((gIt ns keys i).map enc))) (r := h.n) (xs := gIt ns keys i) IT_depth alloc_at
    rw [gIt]
    generalize hF : gIt ns keys i = F at *
    have hFl : F.length = i := by rw [← hF, gIt_len]
    have ap := fun w : VM.W => bm_app (h := h.alloc (.lst (F.map enc))) (w := w) alloc_at (by simp; omega)
    generalize numI (cellV ns ((i : Int) + 1)) = y at *
    generalize (numsV (cellV ns ((i : Int) + 1)) 7).map VM.W.int = zy at *
    generalize numI (cellV ns 0) = x at *
    have r4 : y 6 % 4 = 1 ∨ y 6 % 4 ≠ 1 := by omega
    rcases r4 with r4 | r4
    · by_cases hnil : F = []
      · subst hnil
        simp -implicitDefEqProofs at nn ap
        simp -implicitDefEqProofs [b46_0, ci, n7, x11, bx, y6, mod_ii, r4, nn, zi, bmK_ref (m := .append) (.inl rfl) alloc_at, ap]
        exact ⟨by omega, by simp [enc_pair, ← boxW_enc]⟩
      · obtain ⟨it, hlast⟩ : ∃ it, F.getLast? = some it := by
          cases e : F.getLast? with
          | none => exact absurd (List.getLast?_eq_none_iff.mp e) hnil
          | some it => exact ⟨it, rfl⟩
        have al : L2.atI (F.map enc) (-1) = some (enc it) := atI_last (by rw [List.getLast?_map, hlast]; rfl)
        have a1 : ∀ H, idxW H (enc it) (.int 1) = some (enc it.2) := fun H => rfl
        simp -implicitDefEqProofs [b46_0, ci, n7, x11, bx, y6, mod_ii, r4, nn, hnil, zi, idx_R alloc_at, al, a1, bmK_ref (m := .append) (.inl rfl) alloc_at, ap]
        exact ⟨by omega, by simp [enc_pair, hlast]⟩
    · simp -implicitDefEqProofs [b46_0, ci, n7, x11, bx, y6, mod_ii, r4, zi, bmK_ref (m := .append) (.inl rfl) alloc_at, ap]
      exact ⟨by omega, by simp [enc_pair, ← boxW_enc]⟩
  · rintro s h' ⟨_, o5, o6, o7, rfl, rfl⟩
    rw [List.length_map, List.length_range, Int.toNat_natCast]
    exact ⟨_, _, _, rfl, rfl⟩
  · rintro fl h' ⟨o5, o6, o7, rfl, rfl⟩
    simp -implicitDefEqProofs [nrs_enc]

/-! ### a dict of boxes by names -/
def kvI (its : List IT) : List (Key × VM.W) := its.map fun it => (Sum.inr it.1, enc it.2)
@[simp] theorem kvI_len (its : List IT) : (kvI its).length = its.length := by simp [kvI]
theorem kvPut_new {kvs : List (Key × VM.W)} {k : Key} {w : VM.W} (h : ∀ p ∈ kvs, p.1 ≠ k) : kvPut kvs k w = kvs ++ [(k, w)] := by
  unfold kvPut
  have e : (kvs.any fun kv => decide (kv.1 = k)) = false := by
    rw [List.any_eq_false]
    intro kv hkv
    simp [h kv hkv]
  rw [e]
  simp
theorem fold_put : ∀ (ks acc : List (Key × VM.W)), ((acc ++ ks).map (·.1)).Nodup → ks.foldl (fun a p => kvPut a p.1 p.2) acc = acc ++ ks
  | [], acc, _ => by simp
  | k :: ks, acc, h => by
    rw [List.foldl_cons, kvPut_new (fun p hp e => by
      rw [List.map_append, List.nodup_append] at h
      exact h.2.2 p.1 (List.mem_map_of_mem hp) k.1 (by simp) e), fold_put ks _ (by simpa using h)]
    simp
theorem kvs_of (its : List IT) : VM.kvsOf (its.map enc) = some (kvI its) := by
  induction its with
  | nil => rfl
  | cons it its ih =>
    have e : kvOf (enc it) = some (Sum.inr it.1, enc it.2) := rfl
    rw [List.map_cons, VM.kvsOf, e, ih]
    rfl
theorem bi_dictI {its : List IT} {H : VH} (nd : (its.map (·.1)).Nodup) : biW .dict [.fz (its.map enc)] H = .ok (.ref H.n) (H.alloc (.dic false (kvI its))) := by
  show (match VM.kvsOf (its.map enc) with
    | some kvs => .ok (.ref H.n) (H.alloc (.dic false (kvs.foldl (fun a p => kvPut a p.1 p.2) [])))
    | none => .bad : R VM.W) = _
  rw [kvs_of]
  simp only
  rw [fold_put _ _ (by
    simp only [kvI, List.nil_append, List.map_map]
    have : (its.map ((fun x : Key × VM.W => x.1) ∘ fun it => (Sum.inr it.1, enc it.2))) = its.map fun it => (Sum.inr it.1 : Key) := rfl
    rw [this, nodup_inr]
    exact nd)]
  rfl
theorem kvGet_I {its : List IT} (nd : (its.map (·.1)).Nodup) : ∀ it ∈ its, kvGet (kvI its) (.inr it.1) = some (enc it.2) := by
  induction its with
  | nil => intro it h; cases h
  | cons x xs ih =>
    intro it hit
    rw [List.map_cons, List.nodup_cons] at nd
    unfold kvGet kvI
    rw [List.map_cons, List.find?_cons]
    rcases List.mem_cons.mp hit with rfl | hit
    · simp
    · have hne : x.1 ≠ it.1 := fun e => nd.1 (e ▸ List.mem_map_of_mem hit)
      have : decide ((Sum.inr x.1 : Key) = Sum.inr it.1) = false := by simp [hne]
      simp only [this]
      exact ih nd.2 it hit
theorem set_setB {h : VH} {n : Nat} {o p : Ob} : (h.set n o).set n p = h.set n p := set_set
/-- a comprehension over a dict's keys -/
theorem compL_keys {src : VH → R (List VM.W)} {f : VM.W → VH → R (Option VM.W)} {h : VH} {n : Nat} {kvs : List (Key × VM.W)} (ψ : Key × VM.W → VM.W) (hf : h.f n = some (.dic false kvs)) (hn : n < h.n) (e : src h = .ok [.ref n] h) (e' : src (h.set n (.dic true kvs)) = .ok [.ref n] (h.set n (.dic true kvs))) (hl : kvs.length ≤ 16777216)
    (st : ∀ kv ∈ kvs, f (wKey kv.1) (h.set n (.dic true kvs)) = .ok (some (ψ kv)) (h.set n (.dic true kvs))) : compL .keys src f h = .ok (.ref h.n) (h.alloc (.lst (kvs.map ψ))) := by
  have hp : preW .keys (src h) h = some (n, kvs) := by
    rw [e]
    show lockW .keys [.ref n] h = _
    unfold lockW
    simp only [hf]
  have hs : srcW .keys [.ref n] (h.set n (.dic true kvs)) = some (kvs.map fun kv => wKey kv.1, fun h' => h'.f n = some (.dic true kvs)) := by
    unfold srcW
    simp only [set_at]
  have go : ∀ ks : List (Key × VM.W), (∀ kv ∈ ks, f (wKey kv.1) (h.set n (.dic true kvs)) = .ok (some (ψ kv)) (h.set n (.dic true kvs))) → compGo (fun h' => h'.f n = some (.dic true kvs)) f (ks.map fun kv => wKey kv.1) (h.set n (.dic true kvs)) = .ok (ks.map ψ) (h.set n (.dic true kvs)) := by
    intro ks
    induction ks with
    | nil => intro _; simp [compGo]
    | cons k ks ih =>
      intro st
      simp only [List.map_cons]
      unfold compGo
      rw [if_pos set_at, st k (List.mem_cons_self ..), R.nx_ok, R.bind_ok, ih fun y hy => st y (List.mem_cons_of_mem _ hy)]
      rfl
  unfold compL
  rw [hp]
  simp only
  rw [compB_of e' hs (by simpa using hl), go kvs st]
  simp only [R.nx_ok, R.bind_ok, set_n]
  congr 1
  rw [alloc_setr (by simpa using hn), set_set, set_self hf]
theorem R_ok2 {α : Type} {a : α} {h h' : VH} : R.ok a h = R.ok a h' ↔ h = h' := by simp
/-- boxes with names, in order -/
def sortedI (its : List IT) : List IT := (ordB its).map fun p => (p.2, p.1)
theorem law_sorted {k n : Nat} {its : List IT} {h : VH} (nd : (its.map (·.1)).Nodup) (hl : its.length ≤ 1000) (hf : h.f n = some (.dic false (kvI its))) (hn : n < h.n) : cal T (k + 1) 38 [.ref n] h = .ok (.fz ((sortedI its).map enc)) h := by
  rw [cal_run fn38 rfl rfl]
  simp -implicitDefEqProofs [b38]
  rw [comp_enc (xs := ordB its) (enc := enc) (fun p => enc ((p.2, p.1) : IT)) (ws := [.fz ((ordB its).map enc)]) (h1 := h) (by
    rw [compL_keys (fun kv => .tup [kv.2, wKey kv.1]) hf hn rfl rfl (by simp; omega) (fun kv hkv => by
      obtain ⟨it, hit, rfl⟩ := List.mem_map.mp hkv
      have g := kvGet_I nd it hit
      have ix : idxW (h.set n (.dic true (kvI its))) (.ref n) (.str it.1) = some (enc it.2) := by
        unfold idxW
        simp only [set_at, keyW, Option.bind_some]
        exact g
      simp -implicitDefEqProofs [b38_0, wipeV, wKey, ix])]
    have e1 : (kvI its).map (fun kv => VM.W.tup [kv.2, wKey kv.1]) = (its.map flipI).map enc := by
      unfold kvI
      rw [List.map_map, List.map_map]
      rfl
    rw [e1]
    have so : ∀ H : VH, biW .sorted [.fz ((its.map flipI).map enc)] H = .ok (.ref H.n) (H.alloc (.lst ((ordB its).map enc))) := fun H => bi_sortedE (α := BT) (Nat.le_trans BT_depth (by decide)) BT_tup (by simp; omega)
    have n1 : noRefs ((its.map flipI).map enc) = true := nrs_enc
    have n2 : noRefs ((ordB its).map enc) = true := nrs_enc
    simp only [List.map_map] at so n1
    simp -implicitDefEqProofs [n1, n2, so]) src_fz (by simp [ordB]; omega) (fun p hp => by simp -implicitDefEqProofs [b38_1, wipeV, enc_pair])]
  have e2 : ((ordB its).map fun p => enc ((p.2, p.1) : IT)) = (sortedI its).map enc := by unfold sortedI; rw [List.map_map]; rfl
  rw [e2]
  simp -implicitDefEqProofs [nrs_enc]

/-- one key of a question -/
def Qn.at (ps : List (Int × Int)) (i : Nat) : Qn → Bool
  | .over xs => decide ((ps.getD i (0, 0)).1 ≤ xs.getD i 0) && decide (xs.getD i 0 < (ps.getD i (0, 0)).2)
  | .meet qs => decide ((ps.getD i (0, 0)).1 < (qs.getD i (0, 0)).2) && decide ((qs.getD i (0, 0)).1 < (ps.getD i (0, 0)).2)
  | .within qs => decide ((qs.getD i (0, 0)).1 ≤ (ps.getD i (0, 0)).1) && decide ((ps.getD i (0, 0)).2 ≤ (qs.getD i (0, 0)).2)
  | .around qs => decide ((ps.getD i (0, 0)).1 ≤ (qs.getD i (0, 0)).1) && decide ((qs.getD i (0, 0)).2 ≤ (ps.getD i (0, 0)).2)
theorem zip_range {α β : Type} (d : α) (d' : β) (f : α × β → Bool) : ∀ (xs : List α) (ys : List β), xs.length = ys.length → (xs.zip ys).all f = (List.range xs.length).all fun i => f (xs.getD i d, ys.getD i d')
  | [], [], _ => rfl
  | x :: xs, y :: ys, h => by
    rw [List.zip_cons_cons, List.all_cons, List.length_cons, List.range_succ_eq_map, List.all_cons, List.all_map, zip_range d d' f xs ys (by simpa using h)]
    congr 1
  | [], _ :: _, h => by simp at h
  | _ :: _, [], h => by simp at h
theorem Qn.ans_at {q : Qn} {ps : List (Int × Int)} (h : q.size = ps.length) : q.ans ps = (List.range ps.length).all fun i => q.at ps i := by
  cases q with
  | over xs => exact zip_range (0, 0) 0 _ ps xs h.symm
  | meet qs => exact zip_range (0, 0) (0, 0) _ ps qs h.symm
  | within qs => exact zip_range (0, 0) (0, 0) _ ps qs h.symm
  | around qs =>
    have h : qs.length = ps.length := h
    have := zip_range ((0 : Int), (0 : Int)) ((0 : Int), (0 : Int)) (fun p => decide (p.2.1 ≤ p.1.1) && decide (p.1.2 ≤ p.2.2)) qs ps h
    rw [h] at this
    exact this
theorem spW_atN {ps : List (Int × Int)} {i : Nat} (hi : i < ps.length) : L2.atI (ps.map spW) (i : Int) = some (.tup [.int (ps.getD i (0, 0)).1, .int (ps.getD i (0, 0)).2]) := by
  rw [atI_pos (by omega), Int.toNat_natCast, List.getElem?_map, List.getD_eq_getElem?_getD, List.getElem?_eq_getElem hi]
  rfl
theorem int_atN {xs : List Int} {i : Nat} (hi : i < xs.length) : L2.atI (xs.map VM.W.int) (i : Int) = some (.int (xs.getD i 0)) := by
  rw [atI_pos (by omega), Int.toNat_natCast, List.getElem?_map, List.getD_eq_getElem?_getD, List.getElem?_eq_getElem hi]
  rfl
theorem is_asked_step {c1 c2 : Nat → List VM.W → VH → R VM.W} {q : Qn} {ps : List (Int × Int)} {i : Nat} {o4 o5 : Option VM.W} {H : VH} (hi : i < ps.length) (hs : q.size = ps.length) {bb : Bool} (hb : q.at ps i = bb) :
    exS T c1 c2 b39_0 [some (.str q.word), some (boxW ps), some q.thing, some (.int (i : Nat)), o4, o5] H = .ok (if bb then .nx [some (.str q.word), some (boxW ps), some q.thing, some (.int (i : Nat)), some (.int (ps.getD i (0, 0)).1), some (.int (ps.getD i (0, 0)).2)] else .rt (.bl false)) H := by
  have e : ∀ s t : Str, ∀ h, cmpW h .eq (.str s) (.str t) = some (decide (s = t)) := fun s t h => rfl
  have w1 : decide ((Str.ofString "over") = Str.ofString "meeting") = false := by decide +kernel
  have w2 : decide ((Str.ofString "over") = Str.ofString "within") = false := by decide +kernel
  have w3 : decide ((Str.ofString "over") = Str.ofString "around") = false := by decide +kernel
  have w4 : decide ((Str.ofString "meeting") = Str.ofString "over") = false := by decide +kernel
  have w5 : decide ((Str.ofString "meeting") = Str.ofString "within") = false := by decide +kernel
  have w6 : decide ((Str.ofString "meeting") = Str.ofString "around") = false := by decide +kernel
  have w7 : decide ((Str.ofString "within") = Str.ofString "over") = false := by decide +kernel
  have w8 : decide ((Str.ofString "within") = Str.ofString "meeting") = false := by decide +kernel
  have w9 : decide ((Str.ofString "within") = Str.ofString "around") = false := by decide +kernel
  have w10 : decide ((Str.ofString "around") = Str.ofString "over") = false := by decide +kernel
  have w11 : decide ((Str.ofString "around") = Str.ofString "meeting") = false := by decide +kernel
  have w12 : decide ((Str.ofString "around") = Str.ofString "within") = false := by decide +kernel
  simp only [decide_eq_false_iff_not] at w1 w2 w3 w4 w5 w6 w7 w8 w9 w10 w11 w12
  have p1 := spW_atN hi
  cases q with
  | over xs =>
    have hs : xs.length = ps.length := hs
    have p2 := int_atN (show i < xs.length by omega)
    simp only [Qn.at] at hb
    generalize (ps.getD i (0, 0)).1 = lo at *
    generalize (ps.getD i (0, 0)).2 = hi' at *
    generalize xs.getD i 0 = x at *
    by_cases c1 : lo ≤ x
    · by_cases c2 : x < hi'
      · simp only [c1, c2, decide_true, Bool.and_self] at hb
        subst hb
        simp -implicitDefEqProofs [b39_0, boxW, p1, p2, e, Qn.word, Qn.thing, w1, w2, w3, c1, c2]
      · simp only [c1, c2, decide_true, decide_false, Bool.and_false] at hb
        subst hb
        simp -implicitDefEqProofs [b39_0, boxW, p1, p2, e, Qn.word, Qn.thing, w1, w2, w3, c1, c2]
    · simp only [c1, decide_false, Bool.false_and] at hb
      subst hb
      simp -implicitDefEqProofs [b39_0, boxW, p1, p2, e, Qn.word, Qn.thing, w1, w2, w3, c1]
  | meet qs =>
    have hs : qs.length = ps.length := hs
    have p2 := spW_atN (show i < qs.length by omega)
    simp only [Qn.at] at hb
    generalize (ps.getD i (0, 0)).1 = lo at *
    generalize (ps.getD i (0, 0)).2 = hi' at *
    generalize (qs.getD i (0, 0)).1 = x at *
    generalize (qs.getD i (0, 0)).2 = y at *
    by_cases c1 : lo < y
    · by_cases c2 : x < hi'
      · simp only [c1, c2, decide_true, Bool.and_self] at hb
        subst hb
        simp -implicitDefEqProofs [b39_0, boxW, p1, p2, e, Qn.word, Qn.thing, w4, w5, w6, c1, c2, atI_pos]
      · simp only [c1, c2, decide_true, decide_false, Bool.and_false] at hb
        subst hb
        simp -implicitDefEqProofs [b39_0, boxW, p1, p2, e, Qn.word, Qn.thing, w4, w5, w6, c1, c2, atI_pos]
    · simp only [c1, decide_false, Bool.false_and] at hb
      subst hb
      simp -implicitDefEqProofs [b39_0, boxW, p1, p2, e, Qn.word, Qn.thing, w4, w5, w6, c1, atI_pos]
  | within qs =>
    have hs : qs.length = ps.length := hs
    have p2 := spW_atN (show i < qs.length by omega)
    simp only [Qn.at] at hb
    generalize (ps.getD i (0, 0)).1 = lo at *
    generalize (ps.getD i (0, 0)).2 = hi' at *
    generalize (qs.getD i (0, 0)).1 = x at *
    generalize (qs.getD i (0, 0)).2 = y at *
    by_cases c1 : x ≤ lo
    · by_cases c2 : hi' ≤ y
      · simp only [c1, c2, decide_true, Bool.and_self] at hb
        subst hb
        simp -implicitDefEqProofs [b39_0, boxW, p1, p2, e, Qn.word, Qn.thing, w7, w8, w9, c1, c2, atI_pos]
      · simp only [c1, c2, decide_true, decide_false, Bool.and_false] at hb
        subst hb
        simp -implicitDefEqProofs [b39_0, boxW, p1, p2, e, Qn.word, Qn.thing, w7, w8, w9, c1, c2, atI_pos]
    · simp only [c1, decide_false, Bool.false_and] at hb
      subst hb
      simp -implicitDefEqProofs [b39_0, boxW, p1, p2, e, Qn.word, Qn.thing, w7, w8, w9, c1, atI_pos]
  | around qs =>
    have hs : qs.length = ps.length := hs
    have p2 := spW_atN (show i < qs.length by omega)
    simp only [Qn.at] at hb
    generalize (ps.getD i (0, 0)).1 = lo at *
    generalize (ps.getD i (0, 0)).2 = hi' at *
    generalize (qs.getD i (0, 0)).1 = x at *
    generalize (qs.getD i (0, 0)).2 = y at *
    by_cases c1 : lo ≤ x
    · by_cases c2 : y ≤ hi'
      · simp only [c1, c2, decide_true, Bool.and_self] at hb
        subst hb
        simp -implicitDefEqProofs [b39_0, boxW, p1, p2, e, Qn.word, Qn.thing, w10, w11, w12, c1, c2, atI_pos]
      · simp only [c1, c2, decide_true, decide_false, Bool.and_false] at hb
        subst hb
        simp -implicitDefEqProofs [b39_0, boxW, p1, p2, e, Qn.word, Qn.thing, w10, w11, w12, c1, c2, atI_pos]
    · simp only [c1, decide_false, Bool.false_and] at hb
      subst hb
      simp -implicitDefEqProofs [b39_0, boxW, p1, p2, e, Qn.word, Qn.thing, w10, w11, w12, c1, atI_pos]
theorem law_is_asked {k : Nat} {q : Qn} {ps : List (Int × Int)} {h : VH} (hs : q.size = ps.length) (hl : ps.length ≤ 100) : cal T (k + 1) 39 [.str q.word, boxW ps, q.thing] h = .ok (.bl (q.ans ps)) h := by
  rw [← Tr_eq, cal_run fn39 rfl rfl]
  rw [Qn.ans_at hs]
  simp -implicitDefEqProofs [b39]
  have ln : ∀ H, biW .len [boxW ps] H = .ok (.int (ps.length : Nat)) H := fun H => by unfold boxW; simp -implicitDefEqProofs
  rw [forB_of (k := .rng) (ws := [.int (ps.length : Nat)]) (h1 := h) (by simp -implicitDefEqProofs [ln]) (src_rngs (by omega))]
  refine Tr.imp (Q := fun fl h' => h' = h ∧ ((∃ s, fl = Fl.nx s ∧ ∀ i < ps.length, q.at ps i = true) ∨ (fl = Fl.rt (.bl false) ∧ ∃ i < ps.length, q.at ps i = false)))
    (for_tr (fun i s h' => h' = h ∧ (∀ j < i, q.at ps j = true) ∧ ∃ o3 o4 o5, s = [some (.str q.word), some (boxW ps), some q.thing, o3, o4, o5]) ⟨rfl, fun j hj => absurd hj (Nat.not_lt_zero _), none, none, none, rfl⟩ (fun _ _ _ _ => trivial) ?_ ?_) ?_
  · rintro i w s h' e ⟨rfl, hall, o3, o4, o5, rfl⟩
    obtain ⟨k', e0, rfl⟩ := map_get e
    obtain ⟨q1, q2⟩ := List.getElem?_eq_some_iff.mp e0
    have q1 : i < ps.length := by simpa using q1
    simp only [List.getElem_range] at q2
    subst q2
    cases hq : q.at ps i with
    | true =>
      have st := is_asked_step (c1 := cal T k) (c2 := cal T (k - 1)) (o4 := o4) (o5 := o5) (H := h') q1 hs hq
      simp -implicitDefEqProofs [st]
      intro j hj
      rcases Nat.lt_or_ge j i with z | z
      · exact hall j z
      · obtain rfl : j = i := by omega
        exact hq
    | false =>
      have st := is_asked_step (c1 := cal T k) (c2 := cal T (k - 1)) (o4 := o4) (o5 := o5) (H := h') q1 hs hq
      simp -implicitDefEqProofs [st]
      exact ⟨i, q1, hq⟩
  · rintro s h' ⟨rfl, hall, o3, o4, o5, rfl⟩
    rw [List.length_map, List.length_range, Int.toNat_natCast] at hall
    exact ⟨rfl, .inl ⟨_, rfl, hall⟩⟩
  · rintro fl h' ⟨rfl, q⟩
    rcases q with ⟨s, rfl, hall⟩ | ⟨rfl, i, hi, hq⟩
    · simp -implicitDefEqProofs
      exact fun i hi => hall i hi
    · simp -implicitDefEqProofs
      exact ⟨i, hi, hq⟩
theorem sortedI_perm (its : List IT) : (sortedI its).Perm its := by
  unfold sortedI ordB
  refine ((sortE_perm (its.map flipI)).map fun p : BT => ((p.2, p.1) : IT)).trans ?_
  rw [List.map_map]
  exact List.Perm.of_eq (List.map_id' _)
theorem dueL_sorted {q : Qn} {its : List IT} : (sortedI its).filter (fun it => q.ans it.2.items) = dueL q its := by
  unfold sortedI dueL
  rw [List.filter_map]
  rfl
theorem law_plain {k n : Nat} {q : Qn} {its : List IT} {h : VH} (nd : (its.map (·.1)).Nodup) (hl : its.length ≤ 1000) (hf : h.f n = some (.dic false (kvI its))) (hn : n < h.n) (hb : ∀ it ∈ its, it.2.items.length = q.size) (hq : q.size ≤ 100) :
    cal T (k + 2) 40 [.ref n, .str q.word, q.thing] h = .ok (.fz ((dueL q its).map enc)) h := by
  rw [cal_run fn40 rfl rfl]
  have sr := law_sorted (k := k) nd hl hf hn
  simp -implicitDefEqProofs [b40]
  rw [comp_encT (xs := sortedI its) (enc := enc) (fun it => if q.ans it.2.items = true then some (enc it) else none) (ws := [.fz ((sortedI its).map enc)]) (h1 := h) (by simp -implicitDefEqProofs [sr]) src_fz (by rw [(sortedI_perm its).length_eq]; omega) (fun it hit => by
    have hb' := hb it ((sortedI_perm its).mem_iff.mp hit)
    have ia : ∀ H : VH, cal T (k + 1) 39 [.str q.word, enc it.2, q.thing] H = .ok (.bl (q.ans it.2.items)) H := fun H => law_is_asked (ps := it.2.items) hb'.symm (by omega)
    by_cases c : q.ans it.2.items = true <;> simp -implicitDefEqProofs [b40_0, b40_1, wipeV, enc_pair, ia, c])]
  rw [filterMap_if, dueL_sorted]
  simp -implicitDefEqProofs [nrs_enc]

def sideS (ins : Bool) : Str := if ins then "inside" else "across"
theorem side_eq {ins : Bool} {H : VH} : cmpW H .eq (.str (sideS ins)) (.str (Str.ofString "across")) = some (!ins) := by
  show some (decide (sideS ins = Str.ofString "across")) = _
  cases ins <;> decide +kernel
theorem law_last_looks {x y : Int} {ins : Bool} : ∀ (m k : Nat) (t : LT) (h : VH), t.shp 0 → t.dep ≤ m → m + 2 ≤ k → t.siz ≤ 10000000 → cal T k 42 [t.w, .tup [.int x, .int y], .str (sideS ins)] h = .ok (.fz ((if ins then lastI x y t else lastA x y t).map VM.W.int)) h := by
  intro m
  induction m with
  | zero =>
    intro k t h hs hd hk _
    obtain ⟨k, rfl⟩ := Nat.exists_eq_add_of_le' (show 1 ≤ k by omega)
    cases t with
    | nil =>
      rw [cal_run fn42 rfl rfl]
      cases ins <;> simp -implicitDefEqProofs [b42, LT.w, W.isNon, lastI, lastA]
    | last _ _ _ _ _ _ _ _ => simp [LT.dep] at hd
    | inner _ _ _ _ _ _ _ => simp [LT.dep] at hd
  | succ m ih =>
    intro k t h hs hd hk hz
    obtain ⟨k, rfl⟩ := Nat.exists_eq_add_of_le' (show 1 ≤ k by omega)
    cases t with
    | nil =>
      rw [cal_run fn42 rfl rfl]
      cases ins <;> simp -implicitDefEqProofs [b42, LT.w, W.isNon, lastI, lastA]
    | inner _ _ _ _ _ _ _ => exact absurd rfl hs.1
    | last n e c ht lo hi l r =>
      obtain ⟨_, sl, sr⟩ := hs
      simp only [LT.dep] at hd
      simp only [LT.siz] at hz
      have cl := fun H => ih k l H sl (by omega) (by omega) (by omega)
      have cr := fun H => ih k r H sr (by omega) (by omega) (by omega)
      have se := fun H : VH => side_eq (ins := ins) (H := H)
      cases ins with
      | false =>
        simp only [Bool.false_eq_true, if_false] at cl cr ⊢
        have ll := lastA_len x y l
        have lr := lastA_len x y r
        by_cases h1 : hi ≤ y
        · rw [cal_run fn42 rfl rfl]
          simp -implicitDefEqProofs [b42, LT.w, W.isNon, lastA, atI_pos, h1, se]
        · simp only [lastA, if_neg h1]
          generalize lastA x y l = A at *
          generalize lastA x y r = B at *
          have k1 := fun H : VH => cat1 (H := H) (n := n) (is := A) (by omega)
          have k2 := fun H : VH => cat_ff (ws := (n :: A).map VM.W.int) (vs := B.map VM.W.int) (h := H) (by simp; omega)
          simp only [List.map_cons, List.cons_append] at k1 k2
          rw [cal_run fn42 rfl rfl]
          by_cases h2 : e.a < x <;> simp -implicitDefEqProofs [b42, LT.w, W.isNon, atI_pos, h1, se, cl, k1, enc_t3, h2, cr, k2]
      | true =>
        simp only [if_true] at cl cr ⊢
        have ll := lastI_len x y l
        have lr := lastI_len x y r
        by_cases h1 : y < lo
        · rw [cal_run fn42 rfl rfl]
          simp -implicitDefEqProofs [b42, LT.w, W.isNon, lastI, atI_pos, h1, se]
        · simp only [lastI, if_neg h1]
          generalize lastI x y l = A at *
          generalize lastI x y r = B at *
          have k1 := fun H : VH => cat1 (H := H) (n := n) (is := A) (by omega)
          have k3 := fun H : VH => cat1 (H := H) (n := n) (is := B) (by omega)
          have k2 := fun H : VH => cat_ff (ws := (n :: A).map VM.W.int) (vs := B.map VM.W.int) (h := H) (by simp; omega)
          simp only [List.map_cons, List.cons_append] at k1 k2 k3
          rw [cal_run fn42 rfl rfl]
          by_cases h2 : x ≤ e.a <;> simp -implicitDefEqProofs [b42, LT.w, W.isNon, atI_pos, h1, se, cl, k1, enc_t3, h2, cr, k2, k3]
theorem law_fits {k lev : Nat} {a x y : Int} {ins : Bool} {h : VH} : cal T (k + 1) 43 [.int a, .int (lev : Nat), .tup [.int x, .int y], .str (sideS ins)] h = .ok (.bl (fitsV a lev x y ins)) h := by
  rw [cal_run fn43 rfl rfl]
  have bb : ∀ b c : Bool, decide (b = !c) = (b != c) := by decide
  have se := fun H : VH => side_eq (ins := ins) (H := H)
  by_cases e : lev % 2 = 1
  · have e' : ((lev : Nat) : Int) % 2 = 1 := by omega
    simp -implicitDefEqProofs [b43, mod_ii, e', cmp_eqB, fitsV, e, bb, se, atI_pos]
  · have e' : ((lev : Nat) : Int) % 2 = 0 := by omega
    simp -implicitDefEqProofs [b43, mod_ii, e', cmp_eqB, fitsV, e, bb, se, atI_pos]
theorem law_pairs {k : Nat} {q : Qn} {h : VH} (hq : q.size ≤ 100) : cal T (k + 1) 45 [.str q.word, q.thing] h = .ok (.fz (q.pairs.map spW)) h := by
  rw [cal_run fn45 rfl rfl]
  have e : ∀ s t : Str, ∀ h, cmpW h .eq (.str s) (.str t) = some (decide (s = t)) := fun s t h => rfl
  have w1 : decide ((Str.ofString "meeting") = Str.ofString "over") = false := by decide +kernel
  have w2 : decide ((Str.ofString "within") = Str.ofString "over") = false := by decide +kernel
  have w3 : decide ((Str.ofString "around") = Str.ofString "over") = false := by decide +kernel
  have w4 : decide ((Str.ofString "within") = Str.ofString "meeting") = false := by decide +kernel
  have w5 : decide ((Str.ofString "around") = Str.ofString "meeting") = false := by decide +kernel
  have w6 : decide ((Str.ofString "within") = Str.ofString "around") = false := by decide +kernel
  simp only [decide_eq_false_iff_not] at w1 w2 w3 w4 w5 w6
  cases q with
  | over xs =>
    have hq : xs.length ≤ 100 := hq
    simp -implicitDefEqProofs [b45, e, Qn.word, Qn.thing]
    rw [comp_enc (xs := xs) (enc := VM.W.int) (fun x => spW (x + 1, x)) (ws := [.tup (xs.map VM.W.int)]) (h1 := h) rfl src_tup (by omega) (fun p _ => by simp -implicitDefEqProofs [b45_0, wipeV, spW])]
    have n1 : noRefs (xs.map fun x => spW (x + 1, x)) = true := nrs_map fun x _ => nr_spW
    simp -implicitDefEqProofs [n1, Qn.pairs]
    try rfl
  | meet qs =>
    have hq : qs.length ≤ 100 := hq
    simp -implicitDefEqProofs [b45, e, Qn.word, Qn.thing, w1, boxW]
    rw [comp_enc (xs := qs) (enc := spW) (fun p => spW (p.2, p.1)) (ws := [.tup (qs.map spW)]) (h1 := h) rfl src_tup (by omega) (fun p _ => by simp -implicitDefEqProofs [b45_1, wipeV, spW])]
    have n1 : noRefs (qs.map fun p => spW (p.2, p.1)) = true := nrs_map fun x _ => nr_spW
    simp -implicitDefEqProofs [n1, Qn.pairs]
    try rfl
  | within qs =>
    have hq : qs.length ≤ 100 := hq
    simp -implicitDefEqProofs [b45, e, Qn.word, Qn.thing, w2, w4, w6, boxW]
    rw [comp_enc (xs := qs) (enc := spW) spW (ws := [.tup (qs.map spW)]) (h1 := h) rfl src_tup (by omega) (fun p _ => by simp -implicitDefEqProofs [b45_3, wipeV, spW])]
    simp -implicitDefEqProofs [nrs_spW, Qn.pairs]
  | around qs =>
    have hq : qs.length ≤ 100 := hq
    simp -implicitDefEqProofs [b45, e, Qn.word, Qn.thing, w3, w5, boxW]
    rw [comp_enc (xs := qs) (enc := spW) (fun p => spW (p.1 + 1, p.2 - 1)) (ws := [.tup (qs.map spW)]) (h1 := h) rfl src_tup (by omega) (fun p _ => by simp -implicitDefEqProofs [b45_2, wipeV, spW])]
    have n1 : noRefs (qs.map fun p => spW (p.1 + 1, p.2 - 1)) = true := nrs_map fun x _ => nr_spW
    simp -implicitDefEqProofs [n1, Qn.pairs]
    try rfl

theorem law_looks {ps : List (Int × Int)} {ins : Bool} {last : Nat} (hps : ∀ lev, 1 ≤ lev → lev ≤ last → (lev - 1) / 2 < ps.length) (hlast : last < 1000) : ∀ (d k lev : Nat) (t : LT) (h : VH), lev + d = last → 1 ≤ lev → t.shp d → t.dep + d + 4 ≤ k → t.siz ≤ 10000000 →
    cal T k 44 [t.w, .int (lev : Nat), .int (last : Nat), .fz (ps.map spW), .str (sideS ins)] h = .ok (.fz ((lookP ps ins t lev).1.map VM.W.int)) h := by
  intro d
  induction d with
  | zero =>
    intro k lev t h hl h1 hs hk hz
    obtain ⟨k, rfl⟩ := Nat.exists_eq_add_of_le' (show 1 ≤ k by omega)
    obtain rfl : lev = last := by omega
    have at1 := spW_at h1 (hps lev h1 (by omega))
    have e := fun H : VH => law_last_looks (ins := ins) (x := (ps.getD ((lev - 1) / 2) (0, 0)).1) (y := (ps.getD ((lev - 1) / 2) (0, 0)).2) t.dep k t H hs (Nat.le_refl _) (by omega) hz
    have q : (lookP ps ins t lev).1 = if ins then lastI (ps.getD ((lev - 1) / 2) (0, 0)).1 (ps.getD ((lev - 1) / 2) (0, 0)).2 t else lastA (ps.getD ((lev - 1) / 2) (0, 0)).1 (ps.getD ((lev - 1) / 2) (0, 0)).2 t := by
      cases t with
      | nil => cases ins <;> rfl
      | last _ _ _ _ _ _ _ _ => rfl
      | inner _ _ _ _ _ _ _ => exact absurd rfl hs.1
    rw [q, cal_run fn44 rfl rfl]
    generalize (ps.getD ((lev - 1) / 2) (0, 0)).1 = x at *
    generalize (ps.getD ((lev - 1) / 2) (0, 0)).2 = y at *
    generalize (if ins = true then lastI x y t else lastA x y t) = A at *
    simp -implicitDefEqProofs [b44, fdiv_ii, at1, e]
  | succ d ih =>
    intro k lev t h hl h1 hs hk hz
    obtain ⟨k, rfl⟩ := Nat.exists_eq_add_of_le' (show 1 ≤ k by omega)
    have at1 := spW_at h1 (hps lev h1 (by omega))
    have hne : ¬ ((lev : Nat) : Int) = (last : Nat) := by omega
    have clev : ((lev : Nat) : Int) + 1 = ((lev + 1 : Nat) : Int) := by omega
    have inn : ∀ (t' : LT) (H : VH), t'.shp d → t'.dep + d + 4 ≤ k → t'.siz ≤ 10000000 → cal T k 44 [t'.w, .int ((lev : Int) + 1), .int (last : Nat), .fz (ps.map spW), .str (sideS ins)] H = .ok (.fz ((lookP ps ins t' (lev + 1)).1.map VM.W.int)) H := fun t' H q1 q2 q3 => by
      rw [clev]
      exact ih k (lev + 1) t' H (by omega) (by omega) q1 q2 q3
    generalize hx : (ps.getD ((lev - 1) / 2) (0, 0)).1 = x at *
    generalize hy : (ps.getD ((lev - 1) / 2) (0, 0)).2 = y at *
    have lk : ∀ (n : Int) (e : ET) (c ht : Int) (l r i : LT), lookP ps ins (.inner n e c ht l r i) lev = (n :: (if fitsV e.a lev x y ins then
      (if decide (lev % 2 = 1) = ins then (lookP ps ins r lev).2 ++ (lookP ps ins l lev).1 else (lookP ps ins l lev).2 ++ (lookP ps ins r lev).1)
      else (if decide (lev % 2 = 1) = ins then (lookP ps ins r lev).1 else (lookP ps ins l lev).1)), (lookP ps ins i (lev + 1)).1) := fun n e c ht l r i => by
      simp only [lookP, hx, hy]
    have len := lookP_len ps ins
    have fi := fun (a : Int) (H : VH) => law_fits (k := k - 1) (lev := lev) (a := a) (x := x) (y := y) (ins := ins) (h := H)
    have ek : k - 1 + 1 = k := by omega
    rw [ek] at fi
    have se := fun H : VH => side_eq (ins := ins) (H := H)
    rw [← Tr_eq, cal_run fn44 rfl rfl]
    simp -implicitDefEqProofs [b44, fdiv_ii, at1, hne]
    refine Tr.imp (Q := fun fl h' => ∃ o0 r' o7 o8, fl = Fl.nx [o0, some (.int (lev : Nat)), some (.int (last : Nat)), some (.fz (ps.map spW)), some (.str (sideS ins)), some (.tup [.int x, .int y]), some (.ref r'), o7, o8] ∧ h'.f r' = some (.lst ((lookP ps ins t lev).1.map VM.W.int)) ∧ h.n ≤ r' ∧ Ext h h')
      (wh_tr (fun m s h' => ∃ t' acc r' o7 o8, s = [some t'.w, some (.int (lev : Nat)), some (.int (last : Nat)), some (.fz (ps.map spW)), some (.str (sideS ins)), some (.tup [.int x, .int y]), some (.ref r'), o7, o8] ∧ h'.f r' = some (.lst (acc.map VM.W.int)) ∧ h.n ≤ r' ∧ Ext h h' ∧ acc ++ (lookP ps ins t' lev).1 = (lookP ps ins t lev).1 ∧ t'.shp (d + 1) ∧ t'.dep ≤ t.dep ∧ t'.siz ≤ t.siz ∧ m = t'.siz) ?_ t.siz _ _ ⟨t, [], h.n, none, none, rfl, alloc_at, Nat.le_refl _, Ext_a, rfl, hs, Nat.le_refl _, Nat.le_refl _, rfl⟩) ?_
    · rintro m s h' ⟨t', acc, r', o7, o8, rfl, hr, hrn, hex, eq, hs', hd', hz', rfl⟩
      cases t' with
      | nil =>
        simp -implicitDefEqProofs [LT.w, W.isNon]
        rw [← eq]
        simp only [lookP, List.append_nil]
        exact ⟨_, _, ⟨rfl, rfl⟩, hr, hrn, hex⟩
      | last _ _ _ _ _ _ _ _ => exact absurd hs'.1 (by omega)
      | inner n e c ht l r i =>
        obtain ⟨_, sl, sr, si⟩ := hs'
        have lt := len t lev
        rw [lk] at eq
        simp only [LT.dep, LT.siz] at hd' hz'
        have hacc : acc.length + (1 + (if fitsV e.a lev x y ins then
      (if decide (lev % 2 = 1) = ins then (lookP ps ins r lev).2 ++ (lookP ps ins l lev).1 else (lookP ps ins l lev).2 ++ (lookP ps ins r lev).1)
      else (if decide (lev % 2 = 1) = ins then (lookP ps ins r lev).1 else (lookP ps ins l lev).1)).length) ≤ 10000000 := by
          have := congrArg List.length eq
          simp only [List.length_append, List.length_cons] at this
          omega
        have ap := bm_app (w := .int n) hr (by simp; omega)
        have hcm : ∀ H : VH, cmpW H .eq (.int ((lev : Int) % 2)) (.int 1) = some (decide (lev % 2 = 1)) := fun H => by
          rw [cmp_eqI]
          congr 1
          rw [decide_eq_decide]
          omega
        have ea : ∀ H : VH, idxW H (enc e) (.int 0) = some (.int e.a) := fun H => rfl
        have fa := fi e.a
        have bma := bmK_ref (m := .append) (.inl rfl) hr
        have ex2 : Ext h (h'.set r' (.lst ((acc ++ [n]).map VM.W.int))) := hex.setNew hrn
        have hr2 : (h'.set r' (.lst ((acc ++ [n]).map VM.W.int))).f r' = some (.lst ((acc ++ [n]).map VM.W.int)) := set_at
        have ap2 : bmW .append (.ref r') [.int n] h' = .ok .non (h'.set r' (.lst ((acc ++ [n]).map VM.W.int))) := by rw [ap, List.map_append]; rfl
        generalize hHH : h'.set r' (.lst ((acc ++ [n]).map VM.W.int)) = H2 at *
        generalize fitsV e.a lev x y ins = f at *
        generalize hpb : decide (lev % 2 = 1) = pb at *
        have bn : (pb = !ins) ↔ ¬ pb = ins := by cases pb <;> cases ins <;> decide
        have go : ∀ near far : LT, (if decide (pb = ins) = true then (r, l) else (l, r)) = (near, far) → near.shp (d + 1) → far.shp (d + 1) → near.dep + 1 ≤ t.dep → far.dep + 1 ≤ t.dep → near.siz + 1 ≤ t.siz → far.siz + 1 ≤ t.siz → near.siz < (LT.inner n e c ht l r i).siz → far.siz < (LT.inner n e c ht l r i).siz → acc ++ n :: (if f then (lookP ps ins near lev).2 ++ (lookP ps ins far lev).1 else (lookP ps ins near lev).1) = (lookP ps ins t lev).1 → acc.length + (1 + (if f then (lookP ps ins near lev).2 ++ (lookP ps ins far lev).1 else (lookP ps ins near lev).1).length) ≤ 10000000 →
            Tr (exS T (cal T k) (cal T (k - 1)) b44_0 [some (LT.inner n e c ht l r i).w, some (.int (lev : Nat)), some (.int (last : Nat)), some (.fz (ps.map spW)), some (.str (sideS ins)), some (.tup [.int x, .int y]), some (.ref r'), o7, o8] h') fun fl h2 => match fl with
              | .nx s' => ∃ m', m' < (LT.inner n e c ht l r i).siz ∧ ∃ t' acc r' o7 o8, s' = [some (LT.w t'), some (.int (lev : Nat)), some (.int (last : Nat)), some (.fz (ps.map spW)), some (.str (sideS ins)), some (.tup [.int x, .int y]), some (.ref r'), o7, o8] ∧ h2.f r' = some (.lst (acc.map VM.W.int)) ∧ h.n ≤ r' ∧ Ext h h2 ∧ acc ++ (lookP ps ins t' lev).1 = (lookP ps ins t lev).1 ∧ t'.shp (d + 1) ∧ t'.dep ≤ t.dep ∧ t'.siz ≤ t.siz ∧ m' = t'.siz
              | .ct s' => ∃ m', m' < (LT.inner n e c ht l r i).siz ∧ ∃ t' acc r' o7 o8, s' = [some (LT.w t'), some (.int (lev : Nat)), some (.int (last : Nat)), some (.fz (ps.map spW)), some (.str (sideS ins)), some (.tup [.int x, .int y]), some (.ref r'), o7, o8] ∧ h2.f r' = some (.lst (acc.map VM.W.int)) ∧ h.n ≤ r' ∧ Ext h h2 ∧ acc ++ (lookP ps ins t' lev).1 = (lookP ps ins t lev).1 ∧ t'.shp (d + 1) ∧ t'.dep ≤ t.dep ∧ t'.siz ≤ t.siz ∧ m' = t'.siz
              | .rt v => False := by
          intro near far enf sn sf dn df zn zf mn mf eq hl2
          have run : ∃ t2 acc2 r2 h2, exS T (cal T k) (cal T (k - 1)) b44_0 [some (LT.inner n e c ht l r i).w, some (.int (lev : Nat)), some (.int (last : Nat)), some (.fz (ps.map spW)), some (.str (sideS ins)), some (.tup [.int x, .int y]), some (.ref r'), o7, o8] h' = .ok (.nx [some (LT.w t2), some (.int (lev : Nat)), some (.int (last : Nat)), some (.fz (ps.map spW)), some (.str (sideS ins)), some (.tup [.int x, .int y]), some (.ref r2), some near.w, some far.w]) h2 ∧ h2.f r2 = some (.lst (acc2.map VM.W.int)) ∧ h.n ≤ r2 ∧ Ext h h2 ∧ (t2 = near ∨ t2 = far) ∧ acc2 ++ (lookP ps ins t2 lev).1 = (lookP ps ins t lev).1 := by
            cases f with
            | false =>
              simp only [Bool.false_eq_true, if_false] at eq
              refine ⟨near, acc ++ [n], r', H2, ?_, hr2, hrn, ex2, .inl rfl, by rw [← eq]; simp⟩
              by_cases hp : pb = ins
              · rw [if_pos (decide_eq_true hp)] at enf
                cases enf
                simp -implicitDefEqProofs [b44_0, LT.w, bma, atI_pos, ap2, mod_ii, -cmp_eqI, hcm, se, cmp_neB, bn, hp, ea, fa]
              · rw [decide_eq_false hp] at enf
                cases enf
                simp -implicitDefEqProofs [b44_0, LT.w, bma, atI_pos, ap2, mod_ii, -cmp_eqI, hcm, se, cmp_neB, bn, hp, ea, fa]
            | true =>
              simp only [if_true] at eq hl2
              cases near with
              | nil =>
                refine ⟨far, acc ++ [n], r', H2, ?_, hr2, hrn, ex2, .inr rfl, by rw [← eq]; simp [lookP]⟩
                by_cases hp : pb = ins
                · rw [if_pos (decide_eq_true hp)] at enf
                  cases enf
                  simp -implicitDefEqProofs [b44_0, LT.w, bma, atI_pos, ap2, mod_ii, -cmp_eqI, hcm, se, cmp_neB, bn, hp, ea, fa, W.isNon]
                · rw [decide_eq_false hp] at enf
                  cases enf
                  simp -implicitDefEqProofs [b44_0, LT.w, bma, atI_pos, ap2, mod_ii, -cmp_eqI, hcm, se, cmp_neB, bn, hp, ea, fa, W.isNon]
              | last _ _ _ _ _ _ _ _ => exact absurd sn.1 (by omega)
              | inner n' e' c' ht' l' r'' i' =>
                obtain ⟨_, _, _, si'⟩ := sn
                simp only [LT.dep, LT.siz] at dn zn
                have ci := fun H => inn i' H si' (by omega) (by omega)
                have e2 : (lookP ps ins (.inner n' e' c' ht' l' r'' i') lev).2 = (lookP ps ins i' (lev + 1)).1 := by rw [lk]
                rw [e2] at eq hl2
                generalize (lookP ps ins i' (lev + 1)).1 = I at *
                have k1 := cat_rf (ys := I.map VM.W.int) hr2 (by simp at hl2 ⊢; omega)
                have e3 : (acc ++ [n]).map VM.W.int ++ I.map VM.W.int = (acc ++ n :: I).map VM.W.int := by simp
                rw [e3] at k1
                refine ⟨far, acc ++ n :: I, H2.n, H2.alloc (.lst ((acc ++ n :: I).map VM.W.int)), ?_, alloc_at, ex2.le, Ext_alloc ex2, .inr rfl, by rw [← eq]; simp⟩
                simp only [List.map_append, List.map_cons] at k1 ⊢
                by_cases hp : pb = ins
                · rw [if_pos (decide_eq_true hp)] at enf
                  cases enf
                  simp -implicitDefEqProofs [b44_0, LT.w, bma, atI_pos, ap2, mod_ii, -cmp_eqI, hcm, se, cmp_neB, bn, hp, ea, fa, W.isNon, ci, k1]
                · rw [decide_eq_false hp] at enf
                  cases enf
                  simp -implicitDefEqProofs [b44_0, LT.w, bma, atI_pos, ap2, mod_ii, -cmp_eqI, hcm, se, cmp_neB, bn, hp, ea, fa, W.isNon, ci, k1]
          obtain ⟨t2, acc2, r2, h2, er, q1, q2, q3, ht2, eq2⟩ := run
          rw [er, Tr_ok]
          rcases ht2 with rfl | rfl
          · exact ⟨_, mn, _, acc2, r2, _, _, rfl, q1, q2, q3, eq2, sn, by omega, by omega, rfl⟩
          · exact ⟨_, mf, _, acc2, r2, _, _, rfl, q1, q2, q3, eq2, sf, by omega, by omega, rfl⟩
        by_cases hp : pb = ins
        · have hp' := decide_eq_true hp
          have g := go r l (by rw [if_pos hp']) sr sl (by omega) (by omega) (by omega) (by omega) (by simp only [LT.siz]; omega) (by simp only [LT.siz]; omega) (by simpa [hp] using eq) (by simpa [hp] using hacc)
          simp -implicitDefEqProofs [LT.w, W.isNon] at g ⊢
          exact g.imp fun fl h2 q => by cases fl <;> first | exact q | exact q.elim
        · have hp' := decide_eq_false hp
          have g := go l r (by rw [hp']; rfl) sl sr (by omega) (by omega) (by omega) (by omega) (by simp only [LT.siz]; omega) (by simp only [LT.siz]; omega) (by simpa [hp] using eq) (by simpa [hp] using hacc)
          simp -implicitDefEqProofs [LT.w, W.isNon] at g ⊢
          exact g.imp fun fl h2 q => by cases fl <;> first | exact q | exact q.elim
    · rintro fl h' ⟨o0, r', o7, o8, rfl, hr, hrn, hex⟩
      have ek : Ext h (h'.kill r') := Ext_kill hex hrn
      simp -implicitDefEqProofs [hr, ek]

theorem LT.dat : ∀ t : LT, ∃ d, datW t.w = some d ∧ d.depth ≤ t.dep + 3
  | .nil => ⟨.none, by unfold LT.w datW; rw [pdW], by simp [PyData.depth]⟩
  | .last n e c ht lo hi l r => by
    obtain ⟨d1, e1, h1⟩ := LT.dat l
    obtain ⟨d2, e2, h2⟩ := LT.dat r
    have hi' : ∀ i : Int, datW (.int i) = some (.int i) := fun i => by unfold datW; rw [pdW]
    refine ⟨_, datW_tup (datL_cons (hi' _) (datL_cons (Enc.dat e) (datL_cons (hi' _) (datL_cons (hi' _) (datL_cons (hi' _) (datL_cons (hi' _) (datL_cons e1 (datL_cons e2 datL_nil)))))))), ?_⟩
    have h3 := Datum.depth_le e
    have h4 : Datum.depth ET = 1 := rfl
    simp only [PyData.depth, PyData.depthAll, LT.dep]
    omega
  | .inner n e c ht l r i => by
    obtain ⟨d1, e1, h1⟩ := LT.dat l
    obtain ⟨d2, e2, h2⟩ := LT.dat r
    obtain ⟨d3, e3, h3⟩ := LT.dat i
    have hi' : ∀ i : Int, datW (.int i) = some (.int i) := fun i => by unfold datW; rw [pdW]
    refine ⟨_, datW_tup (datL_cons (hi' _) (datL_cons (Enc.dat e) (datL_cons (hi' _) (datL_cons (hi' _) (datL_cons e1 (datL_cons e2 (datL_cons e3 datL_nil))))))), ?_⟩
    have h5 := Datum.depth_le e
    have h4 : Datum.depth ET = 1 := rfl
    simp only [PyData.depth, PyData.depthAll, LT.dep]
    omega
theorem LT.Dt {t : LT} (h : t.dep ≤ 50) : Dt t.w := by
  obtain ⟨d, e, h1⟩ := LT.dat t
  exact ⟨d, e, by omega⟩
theorem Dt_int {i : Int} : Dt (.int i) := ⟨.int i, by unfold datW; rw [pdW], by simp [PyData.depth]⟩
theorem Dt_non : Dt .non := ⟨.none, by unfold datW; rw [pdW], by simp [PyData.depth]⟩
/-- data, so deep at most -/
def DtK (k : Nat) (w : VM.W) : Prop := ∃ d, datW w = some d ∧ d.depth ≤ k
theorem DtK.dt {k : Nat} {w : VM.W} (h : DtK k w) (hk : k ≤ 60) : Dt w := by
  obtain ⟨d, e, h⟩ := h
  exact ⟨d, e, by omega⟩
theorem DtK.up {k m : Nat} {w : VM.W} (h : DtK k w) (hk : k ≤ m) : DtK m w := by
  obtain ⟨d, e, h⟩ := h
  exact ⟨d, e, by omega⟩
theorem dtk_list {k : Nat} : ∀ {ws : List VM.W}, (∀ w ∈ ws, DtK k w) → ∃ ds, datL ws = some ds ∧ ∀ d ∈ ds, d.depth ≤ k
  | [], _ => ⟨[], datL_nil, fun d hd => absurd hd List.not_mem_nil⟩
  | w :: ws, h => by
    obtain ⟨d, e, hd⟩ := h w (List.mem_cons_self ..)
    obtain ⟨ds, e2, hds⟩ := dtk_list (k := k) (ws := ws) fun x hx => h x (List.mem_cons_of_mem _ hx)
    refine ⟨d :: ds, datL_cons e e2, fun x hx => ?_⟩
    rcases List.mem_cons.mp hx with rfl | hx
    · exact hd
    · exact hds x hx
theorem dtk_tup {k : Nat} {ws : List VM.W} (h : ∀ w ∈ ws, DtK k w) : DtK (k + 1) (.tup ws) := by
  obtain ⟨ds, e, hd⟩ := dtk_list h
  refine ⟨_, datW_tup e, ?_⟩
  simp only [PyData.depth]
  have := depthAll_le hd
  omega
theorem dtk_fz {k : Nat} {ws : List VM.W} (h : ∀ w ∈ ws, DtK k w) : DtK (k + 1) (.fz ws) := by
  obtain ⟨ds, e, hd⟩ := dtk_list h
  refine ⟨_, datW_fz e, ?_⟩
  simp only [PyData.depth]
  have := depthAll_le hd
  omega
theorem dtk_int {k : Nat} {i : Int} : DtK k (.int i) := ⟨.int i, by unfold datW; rw [pdW], by simp [PyData.depth]⟩
theorem dtk_non {k : Nat} : DtK k .non := ⟨.none, by unfold datW; rw [pdW], by simp [PyData.depth]⟩
theorem dtk_str {k : Nat} {s : Str} : DtK k (.str s) := ⟨.str s, by unfold datW; rw [pdW], by simp [PyData.depth]⟩
theorem dtk_enc {α : Type} [DecidableEq α] [Datum α] [Enc α] {k : Nat} (hd : Datum.depth α ≤ k) (a : α) : DtK k (enc a) := ⟨_, Enc.dat a, Nat.le_trans (Datum.depth_le a) hd⟩
theorem dtk_LT {t : LT} {k : Nat} (h : t.dep + 3 ≤ k) : DtK k t.w := by
  obtain ⟨d, e, h1⟩ := LT.dat t
  exact ⟨d, e, by omega⟩
theorem entL_name {lev : Nat} {it : IT} : (entL lev it).c = it.1 := by
  unfold entL
  split <;> rfl
theorem ent_name {its : List IT} {lev : Nat} {a b : IT} (nd : (its.map (·.1)).Nodup) (ha : a ∈ its) (hb : b ∈ its) (e : (entL lev a).c = (entL lev b).c) : entL lev a = entL lev b := by
  rw [entL_name, entL_name] at e
  have : a = b := by
    induction its with
    | nil => cases ha
    | cons x xs ih =>
      rw [List.map_cons, List.nodup_cons] at nd
      rcases List.mem_cons.mp ha with ea | ha'
      · rcases List.mem_cons.mp hb with eb | hb'
        · rw [ea, eb]
        · exact absurd (by rw [← ea, e]; exact List.mem_map_of_mem hb') nd.1
      · rcases List.mem_cons.mp hb with eb | hb'
        · exact absurd (by rw [← eb, ← e]; exact List.mem_map_of_mem ha') nd.1
        · exact ih nd.2 ha' hb'
  rw [this]
theorem upright_one {x a b : Int} (h : upright x a b = true) : upright (x + 1) a b = false := by
  unfold upright at *
  simp only [Bool.and_eq_true, decide_eq_true_eq] at h
  have : ¬ (x + 1 = 1 + (if b > a then b else a)) := by omega
  rw [decide_eq_false this, Bool.false_and]
theorem LGood.it {last lev : Nat} {t : LT} {its : List IT} (g : LGood last t lev its) : t = .nil ∨ ∃ it ∈ its, (∃ n c ht lo hi l r, t = .last n (entL lev it) c ht lo hi l r) ∨ ∃ n c ht l r i, t = .inner n (entL lev it) c ht l r i := by
  cases t with
  | nil => exact .inl rfl
  | last n e c ht lo hi l r =>
    obtain ⟨_, _, _, _, _, L, it, R, e0, rfl, _⟩ := g
    exact .inr ⟨it, ordL_mem.mp (by rw [e0]; simp), .inl ⟨_, _, _, _, _, _, _, rfl⟩⟩
  | inner n e c ht l r i =>
    obtain ⟨_, _, _, _, _, L, it, R, e0, rfl, _⟩ := g
    exact .inr ⟨it, ordL_mem.mp (by rw [e0]; simp), .inr ⟨_, _, _, _, _, _, rfl⟩⟩
theorem cuts8 {α : Type} (a b c d e f g h : α) : cutL [a, b, c, d, e, f, g, h] none (some 4) = [a, b, c, d] ∧ cutL [a, b, c, d, e, f, g, h] (some 1) none = [b, c, d, e, f, g, h] ∧ cutL [a, b, c, d, e, f, g, h] (some 4) none = [e, f, g, h] ∧ cutL [a, b, c, d, e, f, g, h] (some 5) none = [f, g, h] := by
  refine ⟨?_, ?_, ?_, ?_⟩ <;> (unfold cutL; simp [HT.sIx])
theorem cuts7 {α : Type} (a b c d e f g : α) : cutL [a, b, c, d, e, f, g] none (some 4) = [a, b, c, d] ∧ cutL [a, b, c, d, e, f, g] (some 1) none = [b, c, d, e, f, g] ∧ cutL [a, b, c, d, e, f, g] (some 4) none = [e, f, g] ∧ cutL [a, b, c, d, e, f, g] none (some 6) = [a, b, c, d, e, f] := by
  refine ⟨?_, ?_, ?_, ?_⟩ <;> (unfold cutL; simp [HT.sIx])
theorem law_bent8 {k : Nat} {n : Int} {e : ET} {c ht lo hi : Int} {l r : LT} {its : List IT} {x : Int} {h : VH} (nd : (its.map (·.1)).Nodup) (g : LGood 1 (.last n e c ht lo hi l r) 1 its) (hdep : (LT.last n e c ht lo hi l r).dep ≤ 40) (hx : 0 ≤ x ∧ x < 7) :
    ∃ w, cal T (k + 1) 53 [(LT.last n e c ht lo hi l r).w, .int x, .int 1] h = .ok w h ∧ Dt w ∧ ∀ t', LGood 1 t' 1 its → w ≠ LT.w t' := by
  obtain ⟨k1, k2, k3, k4⟩ := cuts8 (VM.W.int n) (enc e) (.int c) (.int ht) (.int lo) (.int hi) l.w r.w
  have tv : val (.tup [VM.W.int n, enc e, .int c, .int ht, .int lo, .int hi, l.w, r.w]) = true := rfl
  simp only [LT.dep] at hdep
  have dl : DtK 50 l.w := dtk_LT (by omega)
  have dr : DtK 50 r.w := dtk_LT (by omega)
  have de : DtK 50 (enc e) := dtk_enc (by decide) e
  have nl := l.nr
  have nrr := r.nr
  have c17 : ∀ (H : VH) (a b c d e f g h : VM.W), binW .add (.tup [a]) (.tup [b, c, d, e, f, g, h]) H = .ok (.tup [a, b, c, d, e, f, g, h]) H := fun H a b c d e f g h => cat_tt (by simp)
  have c44 : ∀ (H : VH) (a b c d e f g h : VM.W), binW .add (.tup [a, b, c, d]) (.tup [e, f, g, h]) H = .ok (.tup [a, b, c, d, e, f, g, h]) H := fun H a b c d e f g h => cat_tt (by simp)
  have c41 : ∀ (H : VH) (a b c d e : VM.W), binW .add (.tup [a, b, c, d]) (.tup [e]) H = .ok (.tup [a, b, c, d, e]) H := fun H a b c d e => cat_tt (by simp)
  have c53 : ∀ (H : VH) (a b c d e f g h : VM.W), binW .add (.tup [a, b, c, d, e]) (.tup [f, g, h]) H = .ok (.tup [a, b, c, d, e, f, g, h]) H := fun H a b c d e f g h => cat_tt (by simp)
  have mem8 : ∀ {a b c d e f g h : VM.W}, DtK 50 a → DtK 50 b → DtK 50 c → DtK 50 d → DtK 50 e → DtK 50 f → DtK 50 g → DtK 50 h → Dt (.tup [a, b, c, d, e, f, g, h]) := fun h1 h2 h3 h4 h5 h6 h7 h8 => (dtk_tup (k := 50) fun w hw => by
    simp only [List.mem_cons, List.not_mem_nil, or_false] at hw
    rcases hw with rfl | rfl | rfl | rfl | rfl | rfl | rfl | rfl <;> assumption).dt (by omega)
  have i0 : ∀ (H : VH) (e : ET), idxW H (enc e) (.int 0) = some (.int e.a) := fun _ _ => rfl
  have i1 : ∀ (H : VH) (e : ET), idxW H (enc e) (.int 1) = some (.int e.b) := fun _ _ => rfl
  have i2 : ∀ (H : VH) (e : ET), idxW H (enc e) (.int 2) = some (.str e.c) := fun _ _ => rfl
  obtain ⟨_, g1, g2, g3, g4, L, it, R, e0, rfl, gl, gr⟩ := g
  have hit : it ∈ its := ordL_mem.mp (by rw [e0]; simp)
  have r7 : x = 0 ∨ x = 1 ∨ x = 2 ∨ x = 3 ∨ x = 4 ∨ x = 5 ∨ x = 6 := by omega
  rcases r7 with rfl | rfl | rfl | rfl | rfl | rfl | rfl
  · refine ⟨.tup [.int 0, enc (entL 1 it), .int c, .int ht, .int lo, .int hi, l.w, r.w], ?_, mem8 dtk_int de dtk_int dtk_int dtk_int dtk_int dl dr, ?_⟩
    · rw [cal_run fn53 rfl rfl]
      simp -implicitDefEqProofs [b53, LT.w, k1, k2, c17, nl, nrr]
    · intro t' g' e'
      cases t' with
      | nil => simp [LT.w] at e'
      | inner _ _ _ _ _ _ _ => simp [LT.w] at e'
      | last n' _ _ _ _ _ _ _ =>
        simp only [LT.w, VM.W.tup.injEq, List.cons.injEq, VM.W.int.injEq] at e'
        have := g'.2.1
        omega
  · refine ⟨.tup [.int n, .tup [.int (entL 1 it).a, .int ((entL 1 it).b + 1), .str (entL 1 it).c], .int c, .int ht, .int lo, .int hi, l.w, r.w], ?_, mem8 dtk_int (dtk_enc (α := ET) (by decide) ⟨(entL 1 it).a, (entL 1 it).b + 1, (entL 1 it).c⟩) dtk_int dtk_int dtk_int dtk_int dl dr, ?_⟩
    · rw [cal_run fn53 rfl rfl]
      simp -implicitDefEqProofs [b53, LT.w, k1, k3, c44, nl, nrr, i0, i1, i2]
    · intro t' g' e'
      rcases g'.it with rfl | ⟨it', hit', ⟨_, _, _, _, _, _, _, rfl⟩ | ⟨_, _, _, _, _, _, rfl⟩⟩
      · simp [LT.w] at e'
      · simp only [LT.w, VM.W.tup.injEq, List.cons.injEq] at e'
        have e3 : (⟨(entL 1 it).a, (entL 1 it).b + 1, (entL 1 it).c⟩ : ET) = entL 1 it' := enc_inj e'.2.1
        have e4 := ent_name (lev := 1) nd hit hit' (by rw [← e3])
        rw [← e4] at e3
        have := congrArg T3.b e3
        simp only at this
        omega
      · simp [LT.w] at e'
  · refine ⟨.tup [.int n, enc (entL 1 it), .int (c + 1), .int ht, .int lo, .int hi, l.w, r.w], ?_, mem8 dtk_int de dtk_int dtk_int dtk_int dtk_int dl dr, ?_⟩
    · rw [cal_run fn53 rfl rfl]
      simp -implicitDefEqProofs [b53, LT.w, k1, k3, c44, nl, nrr]
    · intro t' g' e'
      cases t' with
      | nil => simp [LT.w] at e'
      | inner _ _ _ _ _ _ _ => simp [LT.w] at e'
      | last n' _ _ _ _ _ _ _ =>
        simp only [LT.w, VM.W.tup.injEq, List.cons.injEq, VM.W.int.injEq] at e'
        have := g'.2.2.1
        omega
  · refine ⟨.tup [.int n, enc (entL 1 it), .int c, .int (ht + 1), .int lo, .int hi, l.w, r.w], ?_, mem8 dtk_int de dtk_int dtk_int dtk_int dtk_int dl dr, ?_⟩
    · rw [cal_run fn53 rfl rfl]
      simp -implicitDefEqProofs [b53, LT.w, k1, k3, c44, nl, nrr]
    · intro t' g' e'
      cases t' with
      | nil => simp [LT.w] at e'
      | inner _ _ _ _ _ _ _ => simp [LT.w] at e'
      | last n' _ _ ht' _ _ l' r' =>
        simp only [LT.w, VM.W.tup.injEq, List.cons.injEq, VM.W.int.injEq, and_true] at e'
        obtain ⟨_, _, _, rfl, _, _, q1, q2⟩ := e'
        obtain rfl := LT.w_inj q1
        obtain rfl := LT.w_inj q2
        have := g'.2.2.2.1
        rw [upright_one g3] at this
        cases this
  · refine ⟨.fz [.int n, enc (entL 1 it), .int c, .int ht, .int lo, .int hi, l.w, r.w], ?_, ?_, ?_⟩
    · rw [cal_run fn53 rfl rfl]
      simp -implicitDefEqProofs [b53, LT.w, k1, k3, nl, nrr]
    · exact (dtk_fz (k := 50) fun w hw => by
        simp only [List.mem_cons, List.not_mem_nil, or_false] at hw
        rcases hw with rfl | rfl | rfl | rfl | rfl | rfl | rfl | rfl <;> first | exact dtk_int | assumption).dt (by omega)
    · intro t' g' e'
      cases t' <;> simp [LT.w] at e'
  · refine ⟨.tup [.int n, enc (entL 1 it), .int c, .int ht, .int (lo - 1), .int hi, l.w, r.w], ?_, mem8 dtk_int de dtk_int dtk_int dtk_int dtk_int dl dr, ?_⟩
    · rw [cal_run fn53 rfl rfl]
      simp -implicitDefEqProofs [b53, LT.w, k1, k4, c41, c53, nl, nrr, atI_pos]
    · intro t' g' e'
      cases t' with
      | nil => simp [LT.w] at e'
      | inner _ _ _ _ _ _ _ => simp [LT.w] at e'
      | last n' _ _ ht' lo' _ l' r' =>
        simp only [LT.w, VM.W.tup.injEq, List.cons.injEq, VM.W.int.injEq, and_true] at e'
        have h1 := g'.2.2.2.2.1.1
        rw [g4.1] at h1
        have := Option.some.inj h1
        omega
  · refine ⟨.tup [.int n, enc (entL 1 it), .int c, .int ht, .tup [.int lo, .int hi, l.w, r.w]], ?_, ?_, ?_⟩
    · rw [cal_run fn53 rfl rfl]
      simp -implicitDefEqProofs [b53, LT.w, k1, k3, c41, nl, nrr]
    · refine (dtk_tup (k := 51) fun w hw => ?_).dt (by omega)
      simp only [List.mem_cons, List.not_mem_nil, or_false] at hw
      rcases hw with rfl | rfl | rfl | rfl | rfl
      · exact dtk_int
      · exact de.up (by omega)
      · exact dtk_int
      · exact dtk_int
      · exact dtk_tup fun w hw => by
          simp only [List.mem_cons, List.not_mem_nil, or_false] at hw
          rcases hw with rfl | rfl | rfl | rfl <;> first | exact dtk_int | assumption
    · intro t' g' e'
      cases t' <;> simp [LT.w] at e'

theorem law_bent7 {k : Nat} {n : Int} {e : ET} {c ht : Int} {l r j : LT} {last : Nat} {its : List IT} {x : Int} {h : VH} (nd : (its.map (·.1)).Nodup) (g : LGood last (.inner n e c ht l r j) 1 its) (hlast : last ≠ 1) (hne : its ≠ []) (hdep : (LT.inner n e c ht l r j).dep ≤ 40) (hx : 0 ≤ x ∧ x < 7) :
    ∃ w, cal T (k + 1) 53 [(LT.inner n e c ht l r j).w, .int x, .int (last : Nat)] h = .ok w h ∧ Dt w ∧ ∀ t', LGood last t' 1 its → w ≠ LT.w t' := by
  obtain ⟨k1, k2, k3, k4⟩ := cuts7 (VM.W.int n) (enc e) (.int c) (.int ht) l.w r.w j.w
  have hl1 : ¬ ((last : Nat) : Int) = 1 := by omega
  simp only [LT.dep] at hdep
  have dl : DtK 50 l.w := dtk_LT (by omega)
  have dr : DtK 50 r.w := dtk_LT (by omega)
  have dj : DtK 50 j.w := dtk_LT (by omega)
  have nj := j.nr
  have de : DtK 50 (enc e) := dtk_enc (by decide) e
  have nl := l.nr
  have nrr := r.nr
  have c16 : ∀ (H : VH) (a b c d e f g : VM.W), binW .add (.tup [a]) (.tup [b, c, d, e, f, g]) H = .ok (.tup [a, b, c, d, e, f, g]) H := fun H a b c d e f g => cat_tt (by simp)
  have c43 : ∀ (H : VH) (a b c d e f g : VM.W), binW .add (.tup [a, b, c, d]) (.tup [e, f, g]) H = .ok (.tup [a, b, c, d, e, f, g]) H := fun H a b c d e f g => cat_tt (by simp)
  have c41 : ∀ (H : VH) (a b c d e : VM.W), binW .add (.tup [a, b, c, d]) (.tup [e]) H = .ok (.tup [a, b, c, d, e]) H := fun H a b c d e => cat_tt (by simp)
  have c61 : ∀ (H : VH) (a b c d e f g : VM.W), binW .add (.tup [a, b, c, d, e, f]) (.tup [g]) H = .ok (.tup [a, b, c, d, e, f, g]) H := fun H a b c d e f g => cat_tt (by simp)
  have mem7 : ∀ {a b c d e f g : VM.W}, DtK 50 a → DtK 50 b → DtK 50 c → DtK 50 d → DtK 50 e → DtK 50 f → DtK 50 g → Dt (.tup [a, b, c, d, e, f, g]) := fun h1 h2 h3 h4 h5 h6 h7 => (dtk_tup (k := 50) fun w hw => by
    simp only [List.mem_cons, List.not_mem_nil, or_false] at hw
    rcases hw with rfl | rfl | rfl | rfl | rfl | rfl | rfl <;> assumption).dt (by omega)
  have i0 : ∀ (H : VH) (e : ET), idxW H (enc e) (.int 0) = some (.int e.a) := fun _ _ => rfl
  have i1 : ∀ (H : VH) (e : ET), idxW H (enc e) (.int 1) = some (.int e.b) := fun _ _ => rfl
  have i2 : ∀ (H : VH) (e : ET), idxW H (enc e) (.int 2) = some (.str e.c) := fun _ _ => rfl
  obtain ⟨_, g1, g2, g3, g4, L, it, R, e0, rfl, gl, gr⟩ := g
  have hit : it ∈ its := ordL_mem.mp (by rw [e0]; simp)
  have r7 : x = 0 ∨ x = 1 ∨ x = 2 ∨ x = 3 ∨ x = 4 ∨ x = 5 ∨ x = 6 := by omega
  rcases r7 with rfl | rfl | rfl | rfl | rfl | rfl | rfl
  · refine ⟨.tup [.int 0, enc (entL 1 it), .int c, .int ht, l.w, r.w, j.w], ?_, mem7 dtk_int de dtk_int dtk_int dl dr dj, ?_⟩
    · rw [cal_run fn53 rfl rfl]
      simp -implicitDefEqProofs [b53, LT.w, k1, k2, c16, nl, nrr, nj]
    · intro t' g' e'
      cases t' with
      | nil => simp [LT.w] at e'
      | last _ _ _ _ _ _ _ _ => simp [LT.w] at e'
      | inner n' _ _ _ _ _ _ =>
        simp only [LT.w, VM.W.tup.injEq, List.cons.injEq, VM.W.int.injEq] at e'
        have := g'.2.1
        omega
  · refine ⟨.tup [.int n, .tup [.int (entL 1 it).a, .int ((entL 1 it).b + 1), .str (entL 1 it).c], .int c, .int ht, l.w, r.w, j.w], ?_, mem7 dtk_int (dtk_enc (α := ET) (by decide) ⟨(entL 1 it).a, (entL 1 it).b + 1, (entL 1 it).c⟩) dtk_int dtk_int dl dr dj, ?_⟩
    · rw [cal_run fn53 rfl rfl]
      simp -implicitDefEqProofs [b53, LT.w, k1, k3, c43, nl, nrr, nj, i0, i1, i2]
    · intro t' g' e'
      rcases g'.it with rfl | ⟨it', hit', ⟨_, _, _, _, _, _, _, rfl⟩ | ⟨_, _, _, _, _, _, rfl⟩⟩
      · simp [LT.w] at e'
      · simp [LT.w] at e'
      · simp only [LT.w, VM.W.tup.injEq, List.cons.injEq] at e'
        have e3 : (⟨(entL 1 it).a, (entL 1 it).b + 1, (entL 1 it).c⟩ : ET) = entL 1 it' := enc_inj e'.2.1
        have e4 := ent_name (lev := 1) nd hit hit' (by rw [← e3])
        rw [← e4] at e3
        have := congrArg T3.b e3
        simp only at this
        omega
  · refine ⟨.tup [.int n, enc (entL 1 it), .int (c + 1), .int ht, l.w, r.w, j.w], ?_, mem7 dtk_int de dtk_int dtk_int dl dr dj, ?_⟩
    · rw [cal_run fn53 rfl rfl]
      simp -implicitDefEqProofs [b53, LT.w, k1, k3, c43, nl, nrr, nj]
    · intro t' g' e'
      cases t' with
      | nil => simp [LT.w] at e'
      | last _ _ _ _ _ _ _ _ => simp [LT.w] at e'
      | inner n' _ _ _ _ _ _ =>
        simp only [LT.w, VM.W.tup.injEq, List.cons.injEq, VM.W.int.injEq] at e'
        have := g'.2.2.1
        omega
  · refine ⟨.tup [.int n, enc (entL 1 it), .int c, .int (ht + 1), l.w, r.w, j.w], ?_, mem7 dtk_int de dtk_int dtk_int dl dr dj, ?_⟩
    · rw [cal_run fn53 rfl rfl]
      simp -implicitDefEqProofs [b53, LT.w, k1, k3, c43, nl, nrr, nj]
    · intro t' g' e'
      cases t' with
      | nil => simp [LT.w] at e'
      | last _ _ _ _ _ _ _ _ => simp [LT.w] at e'
      | inner n' _ _ ht' l' r' _ =>
        simp only [LT.w, VM.W.tup.injEq, List.cons.injEq, VM.W.int.injEq, and_true] at e'
        obtain ⟨_, _, _, rfl, q1, q2, _⟩ := e'
        obtain rfl := LT.w_inj q1
        obtain rfl := LT.w_inj q2
        have := g'.2.2.2.1
        rw [upright_one g3] at this
        cases this
  · refine ⟨.fz [.int n, enc (entL 1 it), .int c, .int ht, l.w, r.w, j.w], ?_, ?_, ?_⟩
    · rw [cal_run fn53 rfl rfl]
      simp -implicitDefEqProofs [b53, LT.w, k1, k3, nl, nrr, nj]
    · exact (dtk_fz (k := 50) fun w hw => by
        simp only [List.mem_cons, List.not_mem_nil, or_false] at hw
        rcases hw with rfl | rfl | rfl | rfl | rfl | rfl | rfl <;> first | exact dtk_int | assumption).dt (by omega)
    · intro t' g' e'
      cases t' <;> simp [LT.w] at e'
  · refine ⟨.tup [.int n, enc (entL 1 it), .int c, .int ht, l.w, r.w, .non], ?_, mem7 dtk_int de dtk_int dtk_int dl dr dtk_non, ?_⟩
    · rw [cal_run fn53 rfl rfl]
      simp -implicitDefEqProofs [b53, LT.w, k1, k4, c61, nl, nrr, nj, hl1]
    · intro t' g' e'
      cases t' with
      | nil => simp [LT.w] at e'
      | last _ _ _ _ _ _ _ _ => simp [LT.w] at e'
      | inner n' _ _ ht' l' r' i' =>
        simp only [LT.w, VM.W.tup.injEq, List.cons.injEq, VM.W.int.injEq, and_true] at e'
        have e5 : i' = .nil := LT.w_inj (by rw [← e'.2.2.2.2.2.2]; rfl)
        have h1 := g'.2.2.2.2.1
        rw [e5] at h1
        exact hne h1
  · refine ⟨.tup [.int n, enc (entL 1 it), .int c, .int ht, .tup [l.w, r.w, j.w]], ?_, ?_, ?_⟩
    · rw [cal_run fn53 rfl rfl]
      simp -implicitDefEqProofs [b53, LT.w, k1, k3, c41, nl, nrr, nj]
    · refine (dtk_tup (k := 51) fun w hw => ?_).dt (by omega)
      simp only [List.mem_cons, List.not_mem_nil, or_false] at hw
      rcases hw with rfl | rfl | rfl | rfl | rfl
      · exact dtk_int
      · exact de.up (by omega)
      · exact dtk_int
      · exact dtk_int
      · exact dtk_tup fun w hw => by
          simp only [List.mem_cons, List.not_mem_nil, or_false] at hw
          rcases hw with rfl | rfl | rfl <;> assumption
    · intro t' g' e'
      cases t' <;> simp [LT.w] at e'

theorem cut_m1 {α : Type} {xs : List α} : cutL xs none (some (-1)) = xs.dropLast := by
  unfold cutL
  have e1 : HT.sIx xs.length 0 none = 0 := rfl
  have e2 : HT.sIx xs.length xs.length (some (-1)) = xs.length - 1 := by
    show (if (-1 : Int) < 0 then (-1 + (xs.length : Int)).toNat else min (-1 : Int).toNat xs.length) = _
    rw [if_pos (by decide)]
    omega
  rw [e1, e2, List.drop_zero, Nat.sub_zero, List.dropLast_eq_take]
theorem cut_1 {α : Type} {xs : List α} : cutL xs (some 1) none = xs.drop 1 := by rw [cut_drop (by omega)]; rfl
theorem is_span_int {k : Nat} {i : Int} {h : VH} : cal T (k + 2) 1 [.int i] h = .ok (.bl false) h := by
  rw [cal_run fn1 rfl rfl]
  have d : val (.int i) = true := rfl
  simp -implicitDefEqProofs [b1, bi_is d, tyW]
theorem is_box_ints {k : Nat} {xs : List Int} {h : VH} (hl : xs.length ≤ 100) (h1 : 1 ≤ xs.length) : cal T (k + 3) 4 [.tup (xs.map VM.W.int), .int (xs.length : Nat)] h = .ok (.bl false) h := by
  rw [cal_run fn4 rfl rfl]
  have d : val (.tup (xs.map VM.W.int)) = true := rfl
  simp -implicitDefEqProofs [b4, bi_is d, tyW]
  rw [comp_enc (xs := xs) (enc := VM.W.int) (fun _ => .bl false) (ws := [.tup (xs.map VM.W.int)]) (h1 := h) rfl src_tup (by omega) (fun i _ => by simp -implicitDefEqProofs [b4_0, wipeV, is_span_int])]
  have ba : ∀ h, biW .all [.fz (xs.map fun _ => VM.W.bl false)] h = .ok (.bl false) h := fun h => by
    have := bi_allM (h := h) (f := fun _ : Int => false) (xs := xs)
    have e : (xs.all fun _ => false) = false := by
      cases xs with
      | nil => simp at h1
      | cons x xs => rfl
    rw [e] at this
    exact this
  simp -implicitDefEqProofs [ba]
theorem zz_S8 : (Str.ofString "zz") = S8 [122, 122] := by decide +kernel
theorem odd_claim {n : Nat} {xs : List Int} {its : List IT} {w : VM.W} {looked : List Int} {h : VH} (hk : 1 ≤ xs.length ∧ xs.length ≤ 3) (ok : itemsOk xs.length its = true) (hl : its.length ≤ 100) :
    cal T (n + 12) 31 [.tup [.str (Qn.over xs).word, .int (xs.length : Nat), .fz (its.map enc), (Qn.over xs).thing, .fz [.tup [.str (S8 [122, 122]), .tup (xs.map VM.W.int)]]], .tup [w, .fz (looked.map VM.W.int)]] h = .ok (.bl false) h := by
  have ai := fun H : VH => are_items (k := n + 5) (n := xs.length) (h := H) (its_short ok (by omega)) (show its.length ≤ 1000 by omega)
  rw [ok] at ai
  have ak : ∀ H : VH, cal T (n + 10) 10 [.int (xs.length : Nat)] H = .ok (.bl true) H := fun H => by
    rw [are_keys, decide_eq_true (by omega)]
  have as := fun H : VH => is_asked_for (k := n + 6) (n := xs.length) (q := .over xs) (h := H) (by show xs.length ≤ 100; omega)
  have hq : (Qn.over xs).ok xs.length = true := by simp [Qn.ok]
  rw [hq] at as
  have wi := fun H : VH => words_in (q := .over xs) (H := H)
  simp only [List.map_cons, List.map_nil] at wi
  have t5 : val (.tup [.str (Qn.over xs).word, .int (xs.length : Nat), .fz (its.map enc), (Qn.over xs).thing, .fz [.tup [.str (S8 [122, 122]), .tup (xs.map VM.W.int)]]]) = true := rfl
  have ts : val (.str (Qn.over xs).word) = true := rfl
  have ib := fun H : VH => is_box_ints (k := n + 5) (xs := xs) (h := H) (by omega) hk.1
  have na : ∀ H : VH, cal T (n + 8) 11 [.str (S8 [122, 122])] H = .ok (.bl true) H := fun H => by
    rw [is_named (by decide)]
    rfl
  have ti : val (.tup [.str (S8 [122, 122]), .tup (xs.map VM.W.int)]) = true := rfl
  have it1 : ∀ H : VH, cal T (n + 9) 12 [.tup [.str (S8 [122, 122]), .tup (xs.map VM.W.int)], .int (xs.length : Nat)] H = .ok (.bl false) H := fun H => by
    rw [cal_run fn12 rfl rfl]
    simp -implicitDefEqProofs [b12, bi_is ti, tyW, atI_pos, na, ib]
  have tz : val (.fz [.tup [.str (S8 [122, 122]), .tup (xs.map VM.W.int)]]) = true := rfl
  have aa : ∀ H : VH, cal T (n + 10) 13 [.fz [.tup [.str (S8 [122, 122]), .tup (xs.map VM.W.int)]], .int (xs.length : Nat)] H = .ok (.bl false) H := fun H => by
    rw [cal_run fn13 rfl rfl]
    simp -implicitDefEqProofs [b13, bi_is tz, tyW]
    rw [comp_enc (xs := [()]) (enc := fun _ => .tup [.str (S8 [122, 122]), .tup (xs.map VM.W.int)]) (fun _ => .bl false) (ws := [.fz [.tup [.str (S8 [122, 122]), .tup (xs.map VM.W.int)]]]) (h1 := H) rfl src_fz (by simp) (fun i _ => by simp -implicitDefEqProofs [b13_0, wipeV, it1])]
    have ba : ∀ h, biW .all [.fz [VM.W.bl false]] h = .ok (.bl false) h := fun h => bi_allF (h := h) (bs := [false])
    simp -implicitDefEqProofs [ba]
  have cl : ∀ H : VH, cal T (n + 11) 30 [.tup [.str (Qn.over xs).word, .int (xs.length : Nat), .fz (its.map enc), (Qn.over xs).thing, .fz [.tup [.str (S8 [122, 122]), .tup (xs.map VM.W.int)]]]] H = .ok (.bl false) H := fun H => by
    generalize (Qn.over xs).thing = th at *
    generalize (Qn.over xs).word = wo at *
    rw [cal_run fn30 rfl rfl]
    simp -implicitDefEqProofs [b30, bi_is t5, bi_is ts, tyW, glb0, wi, ak, ai, as, aa]
  generalize (Qn.over xs).thing = th at *
  generalize (Qn.over xs).word = wo at *
  rw [cal_run fn31 rfl rfl]
  simp -implicitDefEqProofs [b31, cl]
theorem law_changed {n keys : Nat} {q : Qn} {its : List IT} {t : LT} {x : Int} {h : VH} (hk : 1 ≤ keys ∧ keys ≤ 3) (ok : itemsOk keys its = true) (hl : its.length ≤ 20) (hz : mostN (2 * keys - 2) its.length < 10000000) (hq : q.ok keys = true) (g : LGood (2 * keys - 1) t 1 its) (hn : its.length + 20 ≤ n) (hlk : (lookP q.pairs q.ins t 1).1.length ≤ 10000000) :
    ∃ c p, cal T (n + 12) 54 [.str q.word, .int (keys : Nat), .fz (its.map enc), q.thing, .fz ((dueL q its).map enc), t.w, .fz ((lookP q.pairs q.ins t 1).1.map VM.W.int), .int x] h = .ok (.tup [c, p]) h ∧ ∀ H, cal T (n + 12) 31 [c, p] H = .ok (.bl false) H := by
  have hsz := Qn.sz hq
  have nd := its_nodup ok
  have hdep := g.dep (show 1 ≤ 2 * keys - 1 by omega)
  have dt := LT.Dt (t := t) (by omega)
  have hdu := dueL_ok (q := q) ok
  have hdl := dueL_len (q := q) (its := its)
  have tn := q.thing_nr
  have wn := t.nr
  have nits : noRefs (its.map enc) = true := nrs_enc
  have ndue : noRefs ((dueL q its).map enc) = true := nrs_enc
  have m2 : ∀ H, binW .mul (.int 2) (.int (keys : Int)) H = .ok (.int (2 * (keys : Int))) H := fun H => mul_ls (by omega)
  have c3 : 2 * ((keys : Nat) : Int) - 1 = ((2 * keys - 1 : Nat) : Int) := by omega
  have sh : ∀ it ∈ dueL q its, it.1.length ≤ 1000 ∧ it.2.items.length ≤ 100 := its_short hdu (by omega)
  have neI := fun H : VH => (cmp_neE (h := H) (α := List IT) (by decide) its [])
  have neA := fun H : VH => (cmp_neE (h := H) (α := List IT) (by decide) (dueL q its) [])
  have neL := fun H : VH => (cmp_neE (h := H) (α := List Int) (by decide) (lookP q.pairs q.ins t 1).1 [])
  have neI : ∀ H : VH, cmpW H .ne (.fz (its.map enc)) (.fz []) = some (!decide (its = [])) := neI
  have neA : ∀ H : VH, cmpW H .ne (.fz ((dueL q its).map enc)) (.fz []) = some (!decide (dueL q its = [])) := neA
  have neL : ∀ H : VH, cmpW H .ne (.fz ((lookP q.pairs q.ins t 1).1.map VM.W.int)) (.fz []) = some (!decide ((lookP q.pairs q.ins t 1).1 = [])) := neL
  -- what answers_taken says
  have at_ := fun (ans : List IT) (w : VM.W) (lk : List Int) (h1 : ∀ it ∈ ans, it.1.length ≤ 1000 ∧ it.2.items.length ≤ 100) (h2 : ans.length ≤ 1000) (p : Dt w) (h3 : lk.length ≤ 10000000) (no : ¬ (ans = dueL q its ∧ ∃ t, w = LT.w t ∧ LGood (2 * keys - 1) t 1 its ∧ t.nums.Nodup ∧ lk = (lookP q.pairs q.ins t 1).1)) (H : VH) => (by
    obtain ⟨b, e, iff⟩ := answers_taken (n := n + 1) (q := q) (its := its) (ans := ans) (w := w) (looked := lk) (h := H) hk ok (by omega) hz hq h1 h2 p (by omega) h3
    cases b with
    | false => exact e
    | true => exact absurd (iff.mp rfl) no : cal T (n + 12) 31 [.tup [.str q.word, .int (keys : Nat), .fz (its.map enc), q.thing, .fz (ans.map enc)], .tup [w, .fz (lk.map VM.W.int)]] H = .ok (.bl false) H)
  generalize hLk : (lookP q.pairs q.ins t 1).1 = lk at *
  have last : (its = [] → lk = []) := fun e => by
    subst e
    rw [← hLk, g.nil']
    rfl
  have fin : ∀ H : VH, ((0 ≤ x % 10 ∧ x % 10 < 7 ∧ its ≠ []) ∨ x % 10 = 7 ∨ (x % 10 = 8 ∧ dueL q its ≠ [])) ∨ (¬ (x % 10 < 7 ∧ its ≠ []) ∧ ¬ x % 10 = 7 ∧ ¬ (x % 10 = 8 ∧ dueL q its ≠ [])) := fun _ => by
    have h0 := Int.emod_nonneg x (show (10 : Int) ≠ 0 by decide)
    by_cases a1 : x % 10 < 7 ∧ its ≠ []
    · exact .inl (.inl ⟨h0, a1.1, a1.2⟩)
    · by_cases a2 : x % 10 = 7
      · exact .inl (.inr (.inl a2))
      · by_cases a3 : x % 10 = 8 ∧ dueL q its ≠ []
        · exact .inl (.inr (.inr a3))
        · exact .inr ⟨a1, a2, a3⟩
  have isn : t.w.isNon = decide (its = []) := by
    by_cases e : its = []
    · subst e
      rw [g.nil']
      rfl
    · rw [decide_eq_false e]
      cases t with
      | nil => exact absurd g e
      | last _ _ _ _ _ _ _ _ => rfl
      | inner _ _ _ _ _ _ _ => rfl
  have md : ∀ H, binW .mod (.int x) (.int 10) H = .ok (.int (x % 10)) H := fun H => mod_ii (by decide)
  rcases fin h with (⟨h0, h7, hne⟩ | h7 | ⟨h8, hA⟩) | ⟨no7, n7, no8⟩
  · -- the shape bent
    have bent : ∃ w, cal T (n + 11) 53 [t.w, .int (x % 10), .int ((2 * keys - 1 : Nat) : Int)] h = .ok w h ∧ Dt w ∧ ∀ t', LGood (2 * keys - 1) t' 1 its → w ≠ LT.w t' := by
      rcases g.inv hne with ⟨hl1, _, _, _, _, _, _, _, _, rfl⟩ | ⟨hl1, _, _, _, _, _, _, _, rfl⟩
      · have e1 : 2 * keys - 1 = 1 := hl1.symm
        rw [e1] at g ⊢
        exact law_bent8 (k := n + 10) nd g (by omega) ⟨h0, h7⟩
      · exact law_bent7 (k := n + 10) nd g (fun z => hl1 z.symm) hne (by omega) ⟨h0, h7⟩
    obtain ⟨w, e, dw, no⟩ := bent
    have nw := dw.nr
    refine ⟨.tup [.str q.word, .int (keys : Nat), .fz (its.map enc), q.thing, .fz ((dueL q its).map enc)], .tup [w, .fz (lk.map VM.W.int)], ?_, at_ _ w lk sh (by omega) dw hlk fun z => ?_⟩
    · rw [cal_run fn54 rfl rfl]
      generalize q.thing = th at *
      generalize q.word = wo at *
      simp -implicitDefEqProofs [b54, md, h7, isn, hne, m2, c3, e, nw, tn, nits, ndue]
    · obtain ⟨_, t', e', g', _⟩ := z
      exact no t' g' e'
  · -- an answer more
    have l7 : ¬ x % 10 < 7 := by omega
    by_cases hne : its = []
    · subst hne
      have hD : dueL q [] = [] := by simp [dueL, ordB, sortE]
      have kOver : ∀ xs : List Int, q = .over xs → ∃ c p, cal T (n + 12) 54 [.str q.word, .int (keys : Nat), .fz (([] : List IT).map enc), q.thing, .fz ((dueL q []).map enc), t.w, .fz (lk.map VM.W.int), .int x] h = .ok (.tup [c, p]) h ∧ ∀ H, cal T (n + 12) 31 [c, p] H = .ok (.bl false) H := by
        rintro xs rfl
        have hlen : xs.length = keys := hsz
        subst hlen
        refine ⟨.tup [.str (Qn.over xs).word, .int (xs.length : Nat), .fz (([] : List IT).map enc), (Qn.over xs).thing, .fz [.tup [.str (S8 [122, 122]), .tup (xs.map VM.W.int)]]], .tup [t.w, .fz (lk.map VM.W.int)], ?_, fun H => odd_claim (n := n) hk ok (by simp)⟩
        have eth : (Qn.over xs).thing = .tup (xs.map VM.W.int) := rfl
        have cc := fun H : VH => cat_ff (ws := ([] : List VM.W)) (vs := [.tup [.str (S8 [122, 122]), .tup (xs.map VM.W.int)]]) (h := H) (by simp)
        rw [hD, cal_run fn54 rfl rfl]
        rw [eth] at tn ⊢
        simp -implicitDefEqProofs at neI cc
        generalize (Qn.over xs).word = wo at *
        simp -implicitDefEqProofs [b54, md, h7, isn, neI, zz_S8, cc, wn]
      have kBox : ∀ qs : List (Int × Int), q.thing = boxW qs → qs.length ≤ 100 → ∃ c p, cal T (n + 12) 54 [.str q.word, .int (keys : Nat), .fz (([] : List IT).map enc), q.thing, .fz ((dueL q []).map enc), t.w, .fz (lk.map VM.W.int), .int x] h = .ok (.tup [c, p]) h ∧ ∀ H, cal T (n + 12) 31 [c, p] H = .ok (.bl false) H := by
        intro qs eth hql
        refine ⟨_, _, ?_, at_ [(S8 [122, 122], Tup.mk qs)] t.w lk (fun it hit => by
          rw [List.mem_singleton] at hit
          subst hit
          exact ⟨by simp, hql⟩) (by simp) dt hlk fun z => by (have z := z.1; rw [hD] at z; cases z)⟩
        have cc := fun H : VH => cat_ff (ws := ([] : List VM.W)) (vs := [.tup [.str (S8 [122, 122]), boxW qs]]) (h := H) (by simp)
        have een : enc ((S8 [122, 122], Tup.mk qs) : IT) = .tup [.str (S8 [122, 122]), boxW qs] := rfl
        rw [hD, cal_run fn54 rfl rfl]
        simp only [List.map_cons, List.map_nil, een]
        rw [eth] at tn ⊢
        simp -implicitDefEqProofs at neI cc
        generalize boxW qs = bw at *
        generalize q.word = wo at *
        simp -implicitDefEqProofs [b54, md, h7, isn, neI, zz_S8, cc, wn, tn]
      cases q with
      | over xs => exact kOver xs rfl
      | meet qs => exact kBox qs rfl (by have : qs.length = keys := hsz; omega)
      | within qs => exact kBox qs rfl (by have : qs.length = keys := hsz; omega)
      | around qs => exact kBox qs rfl (by have : qs.length = keys := hsz; omega)
    · obtain ⟨i0, ir, rfl⟩ := List.exists_cons_of_ne_nil hne
      have hb0 := its_short ok (by omega) i0 (List.mem_cons_self ..)
      refine ⟨_, _, ?_, at_ (dueL q (i0 :: ir) ++ [(S8 [122, 122], i0.2)]) t.w lk (fun it hit => by
        rcases List.mem_append.mp hit with z | z
        · exact sh it z
        · rw [List.mem_singleton] at z
          subst z
          exact ⟨by simp, hb0.2⟩) (by simp; simp at hl hdl; omega) dt hlk fun z => by
            have z := congrArg List.length z.1
            simp at z⟩
      have cc := fun H : VH => cat_ff (ws := (dueL q (i0 :: ir)).map enc) (vs := [.tup [.str (S8 [122, 122]), enc i0.2]]) (h := H) (by simp; simp at hl hdl; omega)
      have een : enc ((S8 [122, 122], i0.2) : IT) = .tup [.str (S8 [122, 122]), enc i0.2] := rfl
      have a0 : L2.atI ((i0 :: ir).map (enc : IT → VM.W)) 0 = some (enc i0) := by rw [atI_pos (by omega)]; rfl
      have a1 : ∀ H, idxW H (enc i0) (.int 1) = some (enc i0.2) := fun H => rfl
      have n2 : noRefs ((dueL q (i0 :: ir)).map enc ++ [.tup [.str (S8 [122, 122]), enc i0.2]]) = true := by
        rw [nrs_app, ndue]; simp
      have eap : (dueL q (i0 :: ir) ++ [((S8 [122, 122], i0.2) : IT)]).map (enc : IT → VM.W) = (dueL q (i0 :: ir)).map enc ++ [.tup [.str (S8 [122, 122]), enc i0.2]] := by rw [List.map_append]; rfl
      rw [eap]
      generalize dueL q (i0 :: ir) = D at *
      generalize (i0 :: ir).map (enc : IT → VM.W) = its' at *
      rw [cal_run fn54 rfl rfl]
      generalize q.thing = th at *
      generalize q.word = wo at *
      generalize D.map enc = Dm at *
      simp -implicitDefEqProofs [b54, md, h7, neI, zz_S8, a0, a1, cc, n2, wn, tn, nits]
  · -- an answer fewer
    have l7 : ¬ x % 10 < 7 := by omega
    refine ⟨_, _, ?_, at_ ((dueL q its).drop 1) t.w lk (fun it hit => sh it (List.mem_of_mem_drop hit)) (by simp; omega) dt hlk fun z => by
      have z := congrArg List.length z.1
      have : 0 < (dueL q its).length := List.length_pos_iff.mpr hA
      rw [List.length_drop] at z
      omega⟩
    have sc : ∀ H : VH, frzR H (slcW (.fz ((dueL q its).map enc)) (some 1) none H) = .ok (.fz (((dueL q its).drop 1).map enc)) H := fun H => by
      rw [slc_fz, frzR_ok, cut_1, ← List.map_drop]
      exact frzW_new rfl nrs_enc
    have n2 : noRefs (((dueL q its).drop 1).map enc) = true := nrs_enc
    simp -implicitDefEqProofs only [slc_fz] at sc
    generalize (dueL q its).drop 1 = D1 at *
    rw [cal_run fn54 rfl rfl]
    generalize q.thing = th at *
    generalize q.word = wo at *
    simp -implicitDefEqProofs only [frzR_ok] at sc
    simp -implicitDefEqProofs [b54, md, h8, isn, neA, hA, sc, n2, wn, tn, nits]
  · -- the looks
    have l78 : ¬ (x % 10 = 8 ∧ ¬ dueL q its = []) := no8
    by_cases hlk0 : lk = []
    · refine ⟨_, _, ?_, at_ (dueL q its) t.w [1] sh (by omega) dt (by simp) fun z => by
        obtain ⟨_, t', e', _, _, z⟩ := z
        obtain rfl := LT.w_inj e'
        rw [hLk, hlk0] at z
        cases z⟩
      rw [cal_run fn54 rfl rfl]
      clear at_
      generalize q.thing = th at *
      generalize q.word = wo at *
      generalize its.map (enc : IT → VM.W) = im at *
      generalize (dueL q its).map (enc : IT → VM.W) = dm at *
      generalize lk.map VM.W.int = lm at *
      by_cases a1 : x % 10 < 7
      · have a2 : its = [] := by
          by_cases z : its = []
          · exact z
          · exact absurd ⟨a1, z⟩ no7
        have a8 : ¬ x % 10 = 8 := by omega
        simp -implicitDefEqProofs [b54, md, a1, isn, a2, n7, a8, neL, hlk0, ndue, wn, tn, nits]
      · by_cases a8 : x % 10 = 8
        · have a3 : dueL q its = [] := by
            by_cases z : dueL q its = []
            · exact z
            · exact absurd ⟨a8, z⟩ no8
          simp -implicitDefEqProofs [b54, md, a1, isn, n7, a8, neA, a3, neL, hlk0, ndue, wn, tn, nits]
        · simp -implicitDefEqProofs [b54, md, a1, isn, n7, a8, neL, hlk0, ndue, wn, tn, nits]
    · have a2 : its ≠ [] := fun z => hlk0 (last z)
      have a1 : ¬ x % 10 < 7 := fun z => no7 ⟨z, a2⟩
      refine ⟨_, _, ?_, at_ (dueL q its) t.w lk.dropLast sh (by omega) dt (by rw [List.length_dropLast]; omega) fun z => by
        obtain ⟨_, t', e', _, _, z⟩ := z
        obtain rfl := LT.w_inj e'
        rw [hLk] at z
        have := congrArg List.length z
        have h0 : 0 < lk.length := List.length_pos_iff.mpr hlk0
        rw [List.length_dropLast] at this
        omega⟩
      have sc : ∀ H : VH, frzR H (slcW (.fz (lk.map VM.W.int)) none (some (-1)) H) = .ok (.fz (lk.dropLast.map VM.W.int)) H := fun H => by
        rw [slc_fz, frzR_ok, cut_m1, ← List.map_dropLast]
        exact frzW_new rfl nrs_mapI
      simp -implicitDefEqProofs only [slc_fz, frzR_ok] at sc
      rw [cal_run fn54 rfl rfl]
      clear at_
      generalize q.thing = th at *
      generalize q.word = wo at *
      generalize its.map (enc : IT → VM.W) = im at *
      generalize (dueL q its).map (enc : IT → VM.W) = dm at *
      generalize lk.map VM.W.int = lm at *
      have n2 : noRefs (lk.dropLast.map VM.W.int) = true := nrs_mapI
      generalize hdl' : lk.dropLast.map VM.W.int = dl at *
      by_cases a8 : x % 10 = 8
      · have a3 : dueL q its = [] := by
          by_cases z : dueL q its = []
          · exact z
          · exact absurd ⟨a8, z⟩ no8
        simp -implicitDefEqProofs [b54, md, a1, isn, n7, a8, neA, a3, neL, hlk0, sc, n2, ndue, wn, tn, nits]
      · simp -implicitDefEqProofs [b54, md, a1, isn, n7, a8, neL, hlk0, sc, n2, ndue, wn, tn, nits]

theorem spanP_lo (x y m : Int) : (spanP x y m).1 < 1000000000000 := by
  unfold spanP spanV
  simp only
  split
  · simp only; omega
  · split
    · simp only; omega
    · split <;> (simp only; omega)
/-- the four questions -/
def q4 (ps : List (Int × Int)) (k : Nat) : Qn := match k with
  | 0 => .over (ps.map (·.1))
  | 1 => .meet ps
  | 2 => .within (ps.map fun p => (p.1, if p.2 + 4 * (p.2 - p.1) < 1000000000000 then p.2 + 4 * (p.2 - p.1) else 1000000000000))
  | _ => .around ps
theorem q4_ok {g : Nat → Int} {keys : Nat} {m : Int} (k : Nat) : (q4 (boxP g keys m) k).ok keys = true := by
  have hl : (boxP g keys m).length = keys := by simp [boxP]
  have hlt : ∀ p ∈ boxP g keys m, p.1 < p.2 ∧ p.1 < 1000000000000 := fun p hp => by
    simp only [boxP, List.mem_map] at hp
    obtain ⟨i, _, rfl⟩ := hp
    exact ⟨spanP_lt _ _ _, spanP_lo _ _ _⟩
  unfold q4
  split
  · simp [Qn.ok, hl]
  · simp only [Qn.ok, hl, decide_true, Bool.true_and, List.all_eq_true, decide_eq_true_eq]
    exact fun p hp => (hlt p hp).1
  · simp only [Qn.ok, List.length_map, hl, decide_true, Bool.true_and, List.all_eq_true, decide_eq_true_eq, List.mem_map]
    rintro p ⟨p0, hp, rfl⟩
    have := hlt p0 hp
    simp only
    split <;> omega
  · simp only [Qn.ok, hl, decide_true, Bool.true_and, List.all_eq_true, decide_eq_true_eq]
    exact fun p hp => (hlt p hp).1
theorem mostN_k {keys : Nat} (hk : 1 ≤ keys ∧ keys ≤ 3) {n : Nat} (hn : n < 9) : mostN (2 * keys - 2) n < 10000000 := by
  refine Nat.lt_of_le_of_lt (mostN_mono _ (show n ≤ 8 by omega)) ?_
  rcases (show keys = 1 ∨ keys = 2 ∨ keys = 3 by omega) with rfl | rfl | rfl <;> decide
/-- what is known of a question, at the numbers of this law -/
structure Know (H : VH) (keys : Nat) (its : List IT) (t : LT) (r : Nat) (q : Qn) (x : Int) : Prop where
  plain : cal T 59 40 [.ref r, .str q.word, q.thing] H = .ok (.fz ((dueL q its).map enc)) H
  pairs : cal T 59 45 [.str q.word, q.thing] H = .ok (.fz (q.pairs.map spW)) H
  looks : cal T 59 44 [t.w, .int 1, .int (2 * (keys : Int) - 1), .fz (q.pairs.map spW), .str (sideS q.ins)] H = .ok (.fz ((lookP q.pairs q.ins t 1).1.map VM.W.int)) H
  taken : cal T 59 31 [.tup [.str q.word, .int (keys : Nat), .fz (its.map enc), q.thing, .fz ((dueL q its).map enc)], .tup [t.w, .fz ((lookP q.pairs q.ins t 1).1.map VM.W.int)]] H = .ok (.bl true) H
  changed : ∃ c p, cal T 59 54 [.str q.word, .int (keys : Nat), .fz (its.map enc), q.thing, .fz ((dueL q its).map enc), t.w, .fz ((lookP q.pairs q.ins t 1).1.map VM.W.int), .int x] H = .ok (.tup [c, p]) H ∧ cal T 59 31 [c, p] H = .ok (.bl false) H
  within : ∀ H : VH, cmpW H .eq (.str q.word) (.str (Str.ofString "within")) = some q.ins
theorem know {H : VH} {keys : Nat} {its : List IT} {t : LT} {r : Nat} {q : Qn} {x : Int} (hk : 1 ≤ keys ∧ keys ≤ 3) (ok : itemsOk keys its = true) (hl : its.length < 9) (g : LGood (2 * keys - 1) t 1 its) (nd : t.nums.Nodup) (hq : q.ok keys = true) (hf : H.f r = some (.dic false (kvI its))) (hr : r < H.n) (hz : t.siz ≤ 10000000) : Know H keys its t r q x where
  plain := law_plain (k := 57) (its_nodup ok) (by omega) hf hr (fun it hit => by rw [its_box ok it hit, Qn.sz hq]) (by rw [Qn.sz hq]; omega)
  pairs := law_pairs (k := 58) (by rw [Qn.sz hq]; omega)
  looks := by
    have c3 : 2 * ((keys : Nat) : Int) - 1 = ((2 * keys - 1 : Nat) : Int) := by omega
    rw [c3]
    exact law_looks (ps := q.pairs) (ins := q.ins) (last := 2 * keys - 1) (fun lev _ _ => by rw [Qn.pairs_len, Qn.sz hq]; omega) (by omega) (2 * keys - 1 - 1) 59 1 t H (by omega) (by omega) (g.shp (by omega)) (by have := g.dep (show 1 ≤ 2 * keys - 1 by omega); omega) hz
  taken := by
    obtain ⟨b, e, iff⟩ := answers_taken (n := 48) (q := q) (its := its) (ans := dueL q its) (w := t.w) (looked := (lookP q.pairs q.ins t 1).1) (h := H) hk ok (by omega) (mostN_k hk hl) hq (its_short (dueL_ok ok) (by omega)) (by have := dueL_len (q := q) (its := its); omega) (LT.Dt (by have := g.dep (show 1 ≤ 2 * keys - 1 by omega); omega)) (by omega) (by have := (lookP_len q.pairs q.ins t 1).1; omega)
    rw [iff.mpr ⟨rfl, t, rfl, g, nd, rfl⟩] at e
    exact e
  changed := by
    obtain ⟨c, p, e, z⟩ := law_changed (n := 47) (q := q) (its := its) (t := t) (x := x) (h := H) hk ok (by omega) (mostN_k hk hl) hq g (by omega) (by have := (lookP_len q.pairs q.ins t 1).1; omega)
    exact ⟨c, p, e, z H⟩
  within := fun H => by
    show some (decide (q.word = Str.ofString "within")) = some q.ins
    have w1 : ¬ (Str.ofString "meeting") = Str.ofString "within" := by decide +kernel
    have w2 : ¬ (Str.ofString "over") = Str.ofString "within" := by decide +kernel
    have w3 : ¬ (Str.ofString "around") = Str.ofString "within" := by decide +kernel
    cases q with
    | over xs => exact congrArg some (decide_eq_false w2)
    | meet qs => exact congrArg some (decide_eq_false w1)
    | within qs => exact congrArg some (decide_eq_true rfl)
    | around qs => exact congrArg some (decide_eq_false w3)
theorem law_step {H : VH} {keys : Nat} {its : List IT} {t : LT} {r k : Nat} {ps : List (Int × Int)} {s0 zx sd : VM.W} {tr : List VM.W} {o9 o10 o11 o12 o13 o14 o15 o16 : Option VM.W} {x : Int} (hk : k < 4) (hps : ps.length ≤ 100) (hx : L2.atI tr (22 + (k : Int)) = some (.int x)) (kn : Know H keys its t r (q4 ps k) x) (hkk : keys ≤ 3) :
    Tr (exS T (cal T 59) (cal T 58) b55_2 [some s0, some (.fz tr), some (.int (keys : Nat)), some (.fz (its.map enc)), some (.ref r), some zx, some t.w, some sd, some (boxW ps), some (.int (k : Nat)), o10, o11, o12, o13, o14, o15, o16, none, none, none] H) fun fl h' => h' = H ∧ ∃ p9 p10 p11 p12 p13 p14 p15 p16, fl = .nx [some s0, some (.fz tr), some (.int (keys : Nat)), some (.fz (its.map enc)), some (.ref r), some zx, some t.w, some sd, some (boxW ps), p9, p10, p11, p12, p13, p14, p15, p16, none, none, none] := by
  have m2 : ∀ H, binW .mul (.int 2) (.int (keys : Int)) H = .ok (.int (2 * (keys : Int))) H := fun H => mul_ls (by omega)
  have p12 : ∀ h, binW .pow (.int 10) (.int 12) h = .ok (.int 1000000000000) h := fun h => rfl
  have nits : noRefs (its.map enc) = true := nrs_enc
  have e : ∀ s t : Str, ∀ h, cmpW h .eq (.str s) (.str t) = some (decide (s = t)) := fun s t h => rfl
  have w1 : decide ((Str.ofString "meeting") = Str.ofString "over") = false := by decide +kernel
  have w2 : decide ((Str.ofString "within") = Str.ofString "over") = false := by decide +kernel
  have w3 : decide ((Str.ofString "around") = Str.ofString "over") = false := by decide +kernel
  have w4 : decide ((Str.ofString "over") = Str.ofString "within") = false := by decide +kernel
  have w5 : decide ((Str.ofString "meeting") = Str.ofString "within") = false := by decide +kernel
  have w6 : decide ((Str.ofString "around") = Str.ofString "within") = false := by decide +kernel
  simp only [decide_eq_false_iff_not] at w1 w2 w3 w4 w5 w6
  obtain ⟨k1, k2, k3, k4, ⟨c, p, k5, k6⟩, k7⟩ := kn
  generalize its.map (enc : IT → VM.W) = im at *
  generalize t.w = tw at *
  rcases (show k = 0 ∨ k = 1 ∨ k = 2 ∨ k = 3 by omega) with rfl | rfl | rfl | rfl
  · simp only [q4, Qn.ins, sideS, Bool.false_eq_true, if_false] at k1 k2 k3 k4 k5
    generalize hD : (dueL (.over (ps.map (·.1))) its).map (enc : IT → VM.W) = D at *
    generalize (lookP (Qn.over (ps.map (·.1))).pairs false t 1).1.map VM.W.int = LK at *
    generalize (Qn.over (ps.map (·.1))).pairs.map spW = PR at *
    simp only [Qn.word, Qn.thing] at k1 k2 k3 k4 k5
    have hx : tr[22]? = some (.int x) := by
      have q : L2.atI tr 22 = some (.int x) := hx
      rw [atI_pos (by decide)] at q
      exact q
    have n1 : noRefs ((ps.map (·.1)).map VM.W.int) = true := nrs_mapI
    have e1 : (ps.map fun p => VM.W.int p.1) = (ps.map (·.1)).map VM.W.int := by rw [List.map_map]; rfl
    simp -implicitDefEqProofs [b55_2, atI_pos, e, w4]
    rw [comp_enc (xs := ps) (enc := spW) (fun p => .int p.1) (ws := [boxW ps]) (h1 := H) rfl src_tup (by omega) (fun p _ => by simp -implicitDefEqProofs [b55_0, wipeV, spW, atI_pos]), e1]
    generalize (ps.map (·.1)).map VM.W.int = th at *
    simp -implicitDefEqProofs [n1, atI_pos, e, w4, k1, k2, k3, k4, k5, k6, m2, nits, cmp_neB, hx]
  · simp only [q4, Qn.ins, sideS, Bool.false_eq_true, if_false] at k1 k2 k3 k4 k5
    generalize hD : (dueL (.meet ps) its).map (enc : IT → VM.W) = D at *
    generalize (lookP (Qn.meet ps).pairs false t 1).1.map VM.W.int = LK at *
    generalize (Qn.meet ps).pairs.map spW = PR at *
    simp only [Qn.word, Qn.thing] at k1 k2 k3 k4 k5
    have hx : tr[23]? = some (.int x) := by
      have q : L2.atI tr 23 = some (.int x) := hx
      rw [atI_pos (by decide)] at q
      exact q
    generalize boxW ps = th at *
    simp -implicitDefEqProofs [b55_2, atI_pos, e, w1, w5, k1, k2, k3, k4, k5, k6, m2, nits, cmp_neB, hx]
  · simp only [q4, Qn.ins, sideS, if_true] at k1 k2 k3 k4 k5
    generalize hqs : (ps.map fun p : Int × Int => (p.1, if p.2 + 4 * (p.2 - p.1) < 1000000000000 then p.2 + 4 * (p.2 - p.1) else 1000000000000)) = qs at *
    generalize hD : (dueL (.within qs) its).map (enc : IT → VM.W) = D at *
    generalize (lookP (Qn.within qs).pairs true t 1).1.map VM.W.int = LK at *
    generalize (Qn.within qs).pairs.map spW = PR at *
    simp only [Qn.word, Qn.thing] at k1 k2 k3 k4 k5
    have hx : tr[24]? = some (.int x) := by
      have q : L2.atI tr 24 = some (.int x) := hx
      rw [atI_pos (by decide)] at q
      exact q
    have n1 : noRefs (qs.map spW) = true := nrs_spW
    have e1 : (ps.map fun p => spW (p.1, if p.2 + 4 * (p.2 - p.1) < 1000000000000 then p.2 + 4 * (p.2 - p.1) else 1000000000000)) = qs.map spW := by rw [← hqs, List.map_map]; rfl
    simp -implicitDefEqProofs [b55_2, atI_pos, e, w2]
    rw [comp_enc (xs := ps) (enc := spW) (fun p => spW (p.1, if p.2 + 4 * (p.2 - p.1) < 1000000000000 then p.2 + 4 * (p.2 - p.1) else 1000000000000)) (ws := [boxW ps]) (h1 := H) rfl src_tup (by omega) (fun p _ => by
      have m4 : ∀ H, binW .mul (.int 4) (.int (p.2 - p.1)) H = .ok (.int (4 * (p.2 - p.1))) H := fun H => mul_ls (by omega)
      simp -implicitDefEqProofs [b55_1, wipeV, spW, p12, m4]), e1]
    have bw : VM.W.tup (qs.map spW) = boxW qs := rfl
    simp -implicitDefEqProofs [n1, bw]
    generalize boxW qs = th at *
    simp -implicitDefEqProofs [atI_pos, e, k1, k2, k3, k4, k5, k6, m2, nits, cmp_neB, hx]
  · simp only [q4, Qn.ins, sideS, Bool.false_eq_true, if_false] at k1 k2 k3 k4 k5
    generalize hD : (dueL (.around ps) its).map (enc : IT → VM.W) = D at *
    generalize (lookP (Qn.around ps).pairs false t 1).1.map VM.W.int = LK at *
    generalize (Qn.around ps).pairs.map spW = PR at *
    simp only [Qn.word, Qn.thing] at k1 k2 k3 k4 k5
    have hx : tr[25]? = some (.int x) := by
      have q : L2.atI tr 25 = some (.int x) := hx
      rw [atI_pos (by decide)] at q
      exact q
    generalize boxW ps = th at *
    simp -implicitDefEqProofs [b55_2, atI_pos, e, w3, w6, k1, k2, k3, k4, k5, k6, m2, nits, cmp_neB, hx]

theorem sz_ok {last : Nat} {t : LT} {its : List IT} {keys : Nat} (hk : 1 ≤ keys ∧ keys ≤ 3) (hl : its.length < 9) (g : LGood last t 1 its) (h : last = 2 * keys - 1) : t.siz ≤ mostN (last - 1) its.length := by
  have key : ∀ {t : LT} {lev : Nat} {its : List IT}, lev ≤ last → LGood last t lev its → t.siz ≤ mostN (last - lev) its.length := by
    intro t
    induction t with
    | nil => intro lev its _ _; simp [LT.siz]
    | last n e c ht lo hi l r ihl ihr =>
      intro lev its hl g
      obtain ⟨h0, _, _, _, _, L, it, R, e0, _, gl, gr⟩ := g
      subst h0
      have := split_len e0
      have h1 := ihl hl gl
      have h2 := ihr hl gr
      rw [Nat.sub_self] at h1 h2 ⊢
      simp only [mostN, LT.siz] at *
      omega
    | inner n e c ht l r i ihl ihr ihi =>
      intro lev its hl g
      obtain ⟨h0, _, _, _, gi, L, it, R, e0, _, gl, gr⟩ := g
      have hle := split_len e0
      have h1 := ihl hl gl
      have h2 := ihr hl gr
      have h3 := ihi (show lev + 1 ≤ last by omega) gi
      have dsub : last - lev = (last - (lev + 1)) + 1 := by omega
      have msum := mostN_split (last - (lev + 1)) (a := L.length) (b := R.length)
      rw [← dsub, show L.length + R.length + 1 = its.length by omega] at msum
      simp only [LT.siz]
      omega
  exact key (by omega) g
theorem law_run {ns : List Int} {h : VH} (hn : ns.length ≤ 63) : Tr (cal T 60 55 [.lit (ns.map VM.W.int)] h) fun v h' => v = .bl true ∧ h' = h := by
  have c0 : ∀ h, cal T 59 33 [.lit (ns.map VM.W.int), .int 0] h = .ok (.int (cellV ns 0)) h := fun h => law_cell (n := 58) (by omega)
  have n26 : ∀ h, cal T 59 34 [.int (cellV ns 0), .int 26] h = .ok (.fz ((numsV (cellV ns 0) 26).map VM.W.int)) h := fun h => law_numbers (n := 58) (by decide)
  have xv : ∀ i : Nat, i < 26 → L2.atI ((numsV (cellV ns 0) 26).map VM.W.int) (i : Int) = some (.int (numI (cellV ns 0) i)) := fun i hi => by
    rw [atI_pos (by omega), Int.toNat_natCast, numsV_W hi]
  have x11 := xv 11 (by decide)
  have x12 := xv 12 (by decide)
  have x13 := xv 13 (by decide)
  have x14 := xv 14 (by decide)
  have x15 := xv 15 (by decide)
  have lit := fun {keys : Nat} (hk : 1 ≤ keys ∧ keys ≤ 3) (H : VH) => law_items (n := 56) (ns := ns) (h := H) hk
  have hxs : ∀ i, i < 10 → ((numsV (cellV ns 0) 26).drop 16)[i]? = some (numI (cellV ns 0) (16 + i)) := fun i hi => by
    rw [List.getElem?_drop, numsV_at (by omega)]
  have hcut : cutL ((numsV (cellV ns 0) 26).map VM.W.int) (some 16) none = ((numsV (cellV ns 0) 26).drop 16).map VM.W.int := by
    rw [cut_drop (by omega), List.map_drop]; rfl
  have bx := fun {keys : Nat} (hk : 1 ≤ keys ∧ keys ≤ 3) (H : VH) => law_box (n := 57) (zs := (numsV (cellV ns 0) 26).drop 16) (g := fun i => numI (cellV ns 0) (16 + i)) (k := keys) (m := numI (cellV ns 0) 11) (h := H) hk.2 (fun i hi => hxs i (by omega))
  have f16 : ∀ H : VH, frzW H (.ref H.n) (H.alloc (.lst (((numsV (cellV ns 0) 26).drop 16).map VM.W.int))) = .ok (.fz (((numsV (cellV ns 0) 26).drop 16).map VM.W.int)) H := fun H => frzW_new rfl nrs_mapI
  have hx0 := numI_lt (cellV ns 0)
  have hkeys : ∃ keys : Nat, 1 + numI (cellV ns 0) 12 % 3 = (keys : Int) ∧ 1 ≤ keys ∧ keys ≤ 3 := ⟨(1 + numI (cellV ns 0) 12 % 3).toNat, by omega, by omega, by omega⟩
  obtain ⟨keys, ekeys, hk⟩ := hkeys
  have lit := lit hk
  have bx := bx hk
  have ok := gItems_ok ns keys
  have hl := gItems_len ns keys
  generalize hits : gItems ns keys = its at *
  have nd := its_nodup ok
  have hbox := its_box ok
  generalize numsV (cellV ns 0) 26 = zx at *
  generalize numI (cellV ns 0) = x at *
  generalize hz16 : (zx.drop 16).map VM.W.int = z16 at *
  generalize hzm : zx.map VM.W.int = zm at *
  have hp : 0 < 1 + x 14 % 3 := by omega
  have hs : 0 ≤ x 13 % 10 := by omega
  have hq : (x 15 % 2).toNat ≤ 1 := by omega
  have m2 : ∀ H, binW .mul (.int 2) (.int (keys : Int)) H = .ok (.int (2 * (keys : Int))) H := fun H => mul_ls (by omega)
  have c3 : 2 * ((keys : Nat) : Int) - 1 = ((2 * keys - 1 : Nat) : Int) := by omega
  have dI := fun H : VH => bi_dictI (its := its) (H := H) nd
  -- the heaps
  have ml := made_layer (p := 1 + x 14 % 3) (z := x 15) (last := 2 * keys - 1) (r := h.n + 1) hp (by omega) (its.length + 2 * keys) 59 1 its (x 13 % 10) ((h.alloc (.dic false (kvI its))).alloc (.lst (tri (x 13 % 10) (1 + x 14 % 3) (x 15)))) (by omega) (by omega) (by omega) (fun it hit => by rw [hbox it hit]; omega) (by omega) (by omega) (by
    have := @alloc_at (h.alloc (.dic false (kvI its))) (.lst (tri (x 13 % 10) (1 + x 14 % 3) (x 15)))
    rw [alloc_n] at this
    exact this) (by simp)
  rw [alloc_setn (by simp)] at ml
  have mok := madeL_ok (last := 2 * keys - 1) hp hq (its.length + 2 * keys) 1 its (x 13 % 10) (by omega) (by omega) (by omega) hs
  generalize madeL (1 + x 14 % 3) (x 15 % 2).toNat (2 * keys - 1) (its.length + 2 * keys) 1 its (x 13 % 10) = L at *
  obtain ⟨⟨l1, _, nums⟩, good, _⟩ := mok
  have ms := made_sides (p := 1 + x 14 % 3) (z := x 15) (r := h.n + 1) (n := 54 - its.length) (keys := keys) (its := its) (s := L.2) (h := (h.alloc (.dic false (kvI its))).alloc (.lst (tri L.2 (1 + x 14 % 3) (x 15)))) hp hk.2 hbox (by omega) (by omega) (by
    have := @alloc_at (h.alloc (.dic false (kvI its))) (.lst (tri L.2 (1 + x 14 % 3) (x 15)))
    rw [alloc_n] at this
    exact this) (by simp)
  rw [alloc_setn (by simp), show its.length + (54 - its.length) + 5 = 59 by omega] at ms
  obtain ⟨_, slen, ⟨us, ss, und, _⟩, ds, sdat, sdep⟩ := madeS_ok (p := 1 + x 14 % 3) (q := (x 15 % 2).toNat) (its := its) hp hq (by omega) keys L.2 (by omega)
  generalize madeS (1 + x 14 % 3) (x 15 % 2).toNat its keys L.2 = P at *
  have sdt : Dt (.tup P.1) := ⟨_, datW_tup sdat, by
    simp only [PyData.depth]
    have := depthAll_le sdep
    omega⟩
  have sdt2 : Dt (.tup P.1.dropLast) := by
    have : ∀ {ws : List VM.W} {ds : List PyData}, datL ws = some ds → datL ws.dropLast = some ds.dropLast := by
      intro ws
      induction ws with
      | nil => intro ds e; rw [datL_nil] at e; cases e; simp
      | cons w ws ih =>
        intro ds e
        obtain ⟨d, r, rfl, q1, q2⟩ := pdL_consI e
        have q3 : datL ws = some r := q2
        cases ws with
        | nil => rw [datL_nil] at q3; cases q3; simp
        | cons w2 ws =>
          have := ih q3
          have hr : r ≠ [] := fun z => by subst z; have := (datL_mem q3).2; simp at this
          obtain ⟨d2, r2, rfl⟩ := List.exists_cons_of_ne_nil hr
          exact datL_cons q1 this
    refine ⟨_, datW_tup (this sdat), ?_⟩
    simp only [PyData.depth]
    have := depthAll_le (k := its.length + 3) (ds := ds.dropLast) fun d hd => sdep d ((List.dropLast_sublist ds).subset hd)
    omega
  have t1 : ∀ H : VH, cal T 59 32 [.int (keys : Nat), .fz (its.map enc), .tup P.1] H = .ok (.bl true) H := fun H => by
    obtain ⟨b, e, q⟩ := sides_taken (n := 39) (h := H) hk ok (by omega) sdt
    rw [q.mpr ⟨_, us, rfl, slen, ss, und⟩] at e
    exact e
  have t2 : ∀ H : VH, cal T 59 32 [.int (keys : Nat), .fz (its.map enc), .tup P.1.dropLast] H = .ok (.bl false) H := fun H => by
    obtain ⟨b, e, q⟩ := sides_taken (n := 39) (h := H) hk ok (by omega) sdt2
    cases b with
    | false => exact e
    | true =>
      obtain ⟨ws, _, e1, e2, _⟩ := q.mp rfl
      cases e1
      rw [List.length_dropLast] at e2
      omega
  have siz := sz_ok hk hl good rfl
  have mk := mostN_k hk hl
  rw [show 2 * keys - 1 - 1 = 2 * keys - 2 by omega] at siz
  have nits : noRefs (its.map enc) = true := nrs_enc
  have nP : noRefs P.1 = true := dat_nrs _ _ sdat
  have hqk := fun k => q4_ok (g := fun i => x (16 + i)) (keys := keys) (m := x 11) k
  have hpl : (boxP (fun i => x (16 + i)) keys (x 11)).length ≤ 100 := by simp [boxP]; omega
  have xat : ∀ k : Nat, k < 4 → L2.atI zm (22 + (k : Int)) = some (.int (x (22 + k))) := fun k hk => by
    have := xv (22 + k) (by omega)
    rw [← this]
    congr 1
  generalize boxP (fun i => x (16 + i)) keys (x 11) = ps at *
  have dHf : ∀ o : Ob, ((h.alloc (.dic false (kvI its))).alloc o).f h.n = some (.dic false (kvI its)) := fun o => by
    rw [alloc_ne (by simp)]
    exact alloc_at
  generalize hH3 : ((h.alloc (.dic false (kvI its))).alloc (.lst (tri P.2 (1 + x 14 % 3) (x 15)))).kill (h.n + 1) = H3
  have H3f : H3.f h.n = some (.dic false (kvI its)) := by rw [← hH3, kill_ne (by omega)]; exact dHf _
  have H3n : h.n < H3.n := by rw [← hH3]; simp; omega
  have ex3 : Ext h H3 := by rw [← hH3]; exact Ext_kill Ext_aa (by omega)
  have kn := fun (k : Nat) (xx : Int) => know (x := xx) hk ok hl good nums (hqk k) H3f H3n (by omega)
  have fP : ((h.alloc (.dic false (kvI its))).alloc (.lst (tri P.2 (1 + x 14 % 3) (x 15)))).f (h.n + 1) = some (.lst (tri P.2 (1 + x 14 % 3) (x 15))) := by
    have := @alloc_at (h.alloc (.dic false (kvI its))) (.lst (tri P.2 (1 + x 14 % 3) (x 15)))
    rw [alloc_n] at this
    exact this
  have x12' : L2.atI zm 12 = some (.int (x 12)) := x12
  have x13' : L2.atI zm 13 = some (.int (x 13)) := x13
  have x14' : L2.atI zm 14 = some (.int (x 14)) := x14
  have x15' : L2.atI zm 15 = some (.int (x 15)) := x15
  have x11' : L2.atI zm 11 = some (.int (x 11)) := x11
  have tri_eq : ∀ a b c : Int, [VM.W.int a, .int b, .int c] = tri a b c := fun _ _ _ => rfl
  have slP : ∀ H : VH, slcW (.tup P.1) none (some (-1)) H = .ok (.tup P.1.dropLast) H := fun H => by rw [slc_tup, cut_m1]
  have w1 : ((1 : Nat) : Int) = 1 := rfl
  rw [w1] at ml
  have lH : ∀ H : VH, biW .list [.fz (its.map enc)] H = .ok (.ref H.n) (H.alloc (.lst (its.map enc))) := fun H => bi_listF
  generalize htw : L.1.w = tw at *
  generalize him : its.map (enc : IT → VM.W) = im at *
  rw [cal_run fn55 rfl rfl]
  have tl : ∀ a b c : Int, (tri a b c).length ≤ 16777216 := fun _ _ _ => by simp [tri]
  simp -implicitDefEqProofs only [slc_tup] at slP
  simp -implicitDefEqProofs [b55, c0, n26, x12', x13', x14', x15', x11', mod_ii, ekeys, lit, dI, m2, c3, tri_eq, tl, ml, ms, fP, hH3, nits, t1, t2, slP, nP, cmp_neB, hcut, f16, bx]
  rw [forB_of (k := .rng) (ws := [.int 4]) rfl (src_rngs (by omega))]
  refine Tr.imp (Q := fun fl h' => h' = H3 ∧ ∃ s, fl = .nx s)
    (for_tr (fun i s h' => h' = H3 ∧ ∃ p9 p10 p11 p12 p13 p14 p15 p16, s = [some (.lit (ns.map VM.W.int)), some (.fz zm), some (.int (keys : Nat)), some (.fz im), some (.ref h.n), some (.fz (tri P.2 (1 + x 14 % 3) (x 15))), some tw, some (.tup P.1), some (boxW ps), p9, p10, p11, p12, p13, p14, p15, p16, none, none, none]) ⟨rfl, _, _, _, _, _, _, _, _, rfl⟩ (fun _ _ _ _ => trivial) ?_ ?_) ?_
  · rintro i w s h' e ⟨rfl, p9, p10, p11, p12, p13, p14, p15, p16, rfl⟩
    obtain ⟨k', e0, rfl⟩ := map_get e
    obtain ⟨q1, q2⟩ := List.getElem?_eq_some_iff.mp e0
    have q1 : i < 4 := by simpa using q1
    simp only [List.getElem_range] at q2
    subst q2
    have st := law_step (H := h') (keys := keys) (its := its) (t := L.1) (r := h.n) (ps := ps) (s0 := .lit (ns.map VM.W.int)) (zx := .fz (tri P.2 (1 + x 14 % 3) (x 15))) (sd := .tup P.1) (tr := zm) (o9 := p9) (o10 := p10) (o11 := p11) (o12 := p12) (o13 := p13) (o14 := p14) (o15 := p15) (o16 := p16) (x := x (22 + i)) q1 hpl (xat i q1) (kn i _) hk.2
    rw [htw, him] at st
    refine Tr.imp (r := exS T (cal T 59) (cal T (59 - 1)) b55_2 _ h') st ?_
    rintro fl h2 ⟨rfl, r9, r10, r11, r12, r13, r14, r15, r16, rfl⟩
    exact ⟨rfl, _, _, _, _, _, _, _, _, rfl⟩
  · rintro s h' ⟨rfl, p9, p10, p11, p12, p13, p14, p15, p16, rfl⟩
    exact ⟨rfl, _, rfl⟩
  · rintro fl h' ⟨rfl, s, rfl⟩
    simp -implicitDefEqProofs [ex3]
theorem law : ∀ ns : List Int, ns.length ≤ 63 → ∃ h', callF T depth lawi [.lit (ns.map .int)] ⟨0, fun _ => none⟩ = .ok (.bl true) h' := by
  intro ns hn
  obtain ⟨v, h', e, rfl, rfl⟩ := (law_run (h := ⟨0, fun _ => none⟩) hn).ok
  exact ⟨_, by rw [← cal_eq]; exact e⟩

end
end LW
set_option Elab.async false
set_option linter.all false
set_option maxRecDepth 100000
set_option maxHeartbeats 0
namespace LW
open PySem PySem.Spec PyProof.Rows L2 VM
theorem fact_mem {fa : List He.Fa} {fn : List He.DefD} {K : PySem.W.Frag} (c : He.SaysD fa fn K) {f : He.Fa} (h : f ∈ fa) : f.ok K = true := by
  obtain ⟨i, hi⟩ := List.getElem?_of_mem h
  exact c.fact i hi
def DfOk (K : PySem.W.Frag) (M : Nms) (D : Nat → Dn) (fa : Nat → Addr) (f : Nat) (d : Fd) : Prop := ∃ fd dvs, FunD K (D f).name (D f).qual (D f).params (D f).body (D f).scope dvs [] (fa f) fd ∧ FnScope (D f).N (D f).ps (D f).scope ∧ d.np = (D f).ps.length ∧ d.ns = (D f).N.length ∧
    chkSs M (D f).N ⟨(D f).scope, (D f).scope⟩ d.body (D f).body = true ∧ (∀ j, ∃ vs ds, (∀ ρ H, RVs K ρ H (d.dfl.drop j) vs) ∧ Vals vs ds ∧ Binds K fd (D f).ps ds)
theorem DfOk.mk0 {K : PySem.W.Frag} {M : Nms} {D : Nat → Dn} {fa : Nat → Addr} {f np ns : Nat} {b : VM.S} {fd : FuncData} (F : FunD K (D f).name (D f).qual (D f).params (D f).body (D f).scope [] [] (fa f) fd) (S : FnScope (D f).N (D f).ps (D f).scope) (h1 : np = (D f).ps.length) (h2 : ns = (D f).N.length)
    (h3 : chkSs M (D f).N ⟨(D f).scope, (D f).scope⟩ b (D f).body = true) (h4 : Binds K fd (D f).ps []) : DfOk K M D fa f ⟨np, ns, [], b⟩ := ⟨fd, [], F, S, h1, h2, h3, fun j => ⟨[], [], fun _ _ => by simp [RVs], .nil, h4⟩⟩

def top (i : Nat) : Stmt := PySem.Challenge.pw_twigstore_k64_whole_shapes_made_here_tak.main.body.getD i (.Pass ⟨0, 0, 0, 0⟩)
def names : List Str := (["is_whole", "is_span", "spans_meet", "span_within", "is_box", "is_spot", "has_spot", "boxes_meet", "box_within", "is_number", "are_keys", "is_named", "is_item", "are_items", "is_asked_for", "is_answer"] : List Str) ++ (["answers_due", "pairs_due", "entry_of", "is_entry", "height_in", "is_head", "are_upright", "is_tree", "are_ends", "is_layer", "looks_across", "looks_inside", "fits", "looks_due", "is_claim", "answers_taken"] : List Str) ++ (["sides_taken", "_law_cell", "_law_numbers", "_law_names", "_law_span", "_law_box", "_law_sorted", "_law_is_asked", "_law_plain", "_law_entry", "_law_last_looks", "_law_fits", "_law_looks", "_law_pairs", "_law_items", "_law_next_number"] : List Str) ++ (["_law_high", "_law_half", "_law_made_layer", "_law_made_tree", "_law_made_sides", "_law_bent", "_law_changed", "law"] : List Str)
def gnames : List Str := ["WORDS", "SMALL", "MOST_KEYS"]
def M : Nms := ⟨fun f => (names[f]?).getD Str.empty, fun _ => Str.empty, fun _ => Str.empty, fun _ => Str.empty, fun g => (gnames[g]?).getD Str.empty⟩
def d0 : He.DefD := ⟨("is_whole", none), "is_whole", "is_whole", defArgs (top 1), defBody (top 1), defScope (top 1), [], []⟩
def d1 : He.DefD := ⟨("is_span", none), "is_span", "is_span", defArgs (top 2), defBody (top 2), defScope (top 2), [], []⟩
def d2 : He.DefD := ⟨("spans_meet", none), "spans_meet", "spans_meet", defArgs (top 3), defBody (top 3), defScope (top 3), [], []⟩
def d3 : He.DefD := ⟨("span_within", none), "span_within", "span_within", defArgs (top 4), defBody (top 4), defScope (top 4), [], []⟩
def d4 : He.DefD := ⟨("is_box", none), "is_box", "is_box", defArgs (top 6), defBody (top 6), defScope (top 6), [], []⟩
def d5 : He.DefD := ⟨("is_spot", none), "is_spot", "is_spot", defArgs (top 7), defBody (top 7), defScope (top 7), [], []⟩
def d6 : He.DefD := ⟨("has_spot", none), "has_spot", "has_spot", defArgs (top 8), defBody (top 8), defScope (top 8), [], []⟩
def d7 : He.DefD := ⟨("boxes_meet", none), "boxes_meet", "boxes_meet", defArgs (top 9), defBody (top 9), defScope (top 9), [], []⟩
def d8 : He.DefD := ⟨("box_within", none), "box_within", "box_within", defArgs (top 10), defBody (top 10), defScope (top 10), [], []⟩
def d9 : He.DefD := ⟨("is_number", none), "is_number", "is_number", defArgs (top 15), defBody (top 15), defScope (top 15), [], []⟩
def d10 : He.DefD := ⟨("are_keys", none), "are_keys", "are_keys", defArgs (top 16), defBody (top 16), defScope (top 16), [], []⟩
def d11 : He.DefD := ⟨("is_named", none), "is_named", "is_named", defArgs (top 17), defBody (top 17), defScope (top 17), [], []⟩
def d12 : He.DefD := ⟨("is_item", none), "is_item", "is_item", defArgs (top 18), defBody (top 18), defScope (top 18), [], []⟩
def d13 : He.DefD := ⟨("are_items", none), "are_items", "are_items", defArgs (top 19), defBody (top 19), defScope (top 19), [], []⟩
def d14 : He.DefD := ⟨("is_asked_for", none), "is_asked_for", "is_asked_for", defArgs (top 20), defBody (top 20), defScope (top 20), [], []⟩
def d15 : He.DefD := ⟨("is_answer", none), "is_answer", "is_answer", defArgs (top 21), defBody (top 21), defScope (top 21), [], []⟩
def d16 : He.DefD := ⟨("answers_due", none), "answers_due", "answers_due", defArgs (top 22), defBody (top 22), defScope (top 22), [], []⟩
def d17 : He.DefD := ⟨("pairs_due", none), "pairs_due", "pairs_due", defArgs (top 23), defBody (top 23), defScope (top 23), [], []⟩
def d18 : He.DefD := ⟨("entry_of", none), "entry_of", "entry_of", defArgs (top 24), defBody (top 24), defScope (top 24), [], []⟩
def d19 : He.DefD := ⟨("is_entry", none), "is_entry", "is_entry", defArgs (top 25), defBody (top 25), defScope (top 25), [], []⟩
def d20 : He.DefD := ⟨("height_in", none), "height_in", "height_in", defArgs (top 26), defBody (top 26), defScope (top 26), [], []⟩
def d21 : He.DefD := ⟨("is_head", none), "is_head", "is_head", defArgs (top 27), defBody (top 27), defScope (top 27), [], []⟩
def d22 : He.DefD := ⟨("are_upright", none), "are_upright", "are_upright", defArgs (top 28), defBody (top 28), defScope (top 28), [], []⟩
def d23 : He.DefD := ⟨("is_tree", none), "is_tree", "is_tree", defArgs (top 29), defBody (top 29), defScope (top 29), [], []⟩
def d24 : He.DefD := ⟨("are_ends", none), "are_ends", "are_ends", defArgs (top 30), defBody (top 30), defScope (top 30), [], []⟩
def d25 : He.DefD := ⟨("is_layer", none), "is_layer", "is_layer", defArgs (top 31), defBody (top 31), defScope (top 31), [], []⟩
def d26 : He.DefD := ⟨("looks_across", none), "looks_across", "looks_across", defArgs (top 32), defBody (top 32), defScope (top 32), [], []⟩
def d27 : He.DefD := ⟨("looks_inside", none), "looks_inside", "looks_inside", defArgs (top 33), defBody (top 33), defScope (top 33), [], []⟩
def d28 : He.DefD := ⟨("fits", none), "fits", "fits", defArgs (top 34), defBody (top 34), defScope (top 34), [], []⟩
def d29 : He.DefD := ⟨("looks_due", none), "looks_due", "looks_due", defArgs (top 35), defBody (top 35), defScope (top 35), [], []⟩
def d30 : He.DefD := ⟨("is_claim", none), "is_claim", "is_claim", defArgs (top 36), defBody (top 36), defScope (top 36), [], []⟩
def d31 : He.DefD := ⟨("answers_taken", none), "answers_taken", "answers_taken", defArgs (top 37), defBody (top 37), defScope (top 37), [], []⟩
def d32 : He.DefD := ⟨("sides_taken", none), "sides_taken", "sides_taken", defArgs (top 38), defBody (top 38), defScope (top 38), [], []⟩
def d33 : He.DefD := ⟨("_law_cell", none), "_law_cell", "_law_cell", defArgs (top 40), defBody (top 40), defScope (top 40), [], []⟩
def d34 : He.DefD := ⟨("_law_numbers", none), "_law_numbers", "_law_numbers", defArgs (top 41), defBody (top 41), defScope (top 41), [], []⟩
def d35 : He.DefD := ⟨("_law_names", none), "_law_names", "_law_names", defArgs (top 42), defBody (top 42), defScope (top 42), [], []⟩
def d36 : He.DefD := ⟨("_law_span", none), "_law_span", "_law_span", defArgs (top 43), defBody (top 43), defScope (top 43), [], []⟩
def d37 : He.DefD := ⟨("_law_box", none), "_law_box", "_law_box", defArgs (top 44), defBody (top 44), defScope (top 44), [], []⟩
def d38 : He.DefD := ⟨("_law_sorted", none), "_law_sorted", "_law_sorted", defArgs (top 45), defBody (top 45), defScope (top 45), [], []⟩
def d39 : He.DefD := ⟨("_law_is_asked", none), "_law_is_asked", "_law_is_asked", defArgs (top 46), defBody (top 46), defScope (top 46), [], []⟩
def d40 : He.DefD := ⟨("_law_plain", none), "_law_plain", "_law_plain", defArgs (top 47), defBody (top 47), defScope (top 47), [], []⟩
def d41 : He.DefD := ⟨("_law_entry", none), "_law_entry", "_law_entry", defArgs (top 48), defBody (top 48), defScope (top 48), [], []⟩
def d42 : He.DefD := ⟨("_law_last_looks", none), "_law_last_looks", "_law_last_looks", defArgs (top 49), defBody (top 49), defScope (top 49), [], []⟩
def d43 : He.DefD := ⟨("_law_fits", none), "_law_fits", "_law_fits", defArgs (top 50), defBody (top 50), defScope (top 50), [], []⟩
def d44 : He.DefD := ⟨("_law_looks", none), "_law_looks", "_law_looks", defArgs (top 51), defBody (top 51), defScope (top 51), [], []⟩
def d45 : He.DefD := ⟨("_law_pairs", none), "_law_pairs", "_law_pairs", defArgs (top 52), defBody (top 52), defScope (top 52), [], []⟩
def d46 : He.DefD := ⟨("_law_items", none), "_law_items", "_law_items", defArgs (top 53), defBody (top 53), defScope (top 53), [], []⟩
def d47 : He.DefD := ⟨("_law_next_number", none), "_law_next_number", "_law_next_number", defArgs (top 54), defBody (top 54), defScope (top 54), [], []⟩
def d48 : He.DefD := ⟨("_law_high", none), "_law_high", "_law_high", defArgs (top 55), defBody (top 55), defScope (top 55), [], []⟩
def d49 : He.DefD := ⟨("_law_half", none), "_law_half", "_law_half", defArgs (top 56), defBody (top 56), defScope (top 56), [], []⟩
def d50 : He.DefD := ⟨("_law_made_layer", none), "_law_made_layer", "_law_made_layer", defArgs (top 57), defBody (top 57), defScope (top 57), [], []⟩
def d51 : He.DefD := ⟨("_law_made_tree", none), "_law_made_tree", "_law_made_tree", defArgs (top 58), defBody (top 58), defScope (top 58), [], []⟩
def d52 : He.DefD := ⟨("_law_made_sides", none), "_law_made_sides", "_law_made_sides", defArgs (top 59), defBody (top 59), defScope (top 59), [], []⟩
def d53 : He.DefD := ⟨("_law_bent", none), "_law_bent", "_law_bent", defArgs (top 60), defBody (top 60), defScope (top 60), [], []⟩
def d54 : He.DefD := ⟨("_law_changed", none), "_law_changed", "_law_changed", defArgs (top 61), defBody (top 61), defScope (top 61), [], []⟩
def d55 : He.DefD := ⟨("law", none), "law", "law", defArgs (top 62), defBody (top 62), defScope (top 62), [], []⟩
def fn : List He.DefD := ([d0, d1, d2, d3, d4, d5, d6, d7, d8, d9, d10, d11, d12, d13, d14, d15] : List He.DefD) ++ ([d16, d17, d18, d19, d20, d21, d22, d23, d24, d25, d26, d27, d28, d29, d30, d31] : List He.DefD) ++ ([d32, d33, d34, d35, d36, d37, d38, d39, d40, d41, d42, d43, d44, d45, d46, d47] : List He.DefD) ++ ([d48, d49, d50, d51, d52, d53, d54, d55] : List He.DefD)
def facts : List He.Fa := [.glo "WORDS", .str "SMALL" "abcdefghijklmnopqrstuvwxyz", .int "MOST_KEYS" 3]
def fa : List He.Fa := bNames.map He.Fa.free ++ (names.map He.Fa.glo ++ facts)
def Ns : List (List Str) := ([(["thing"] : List Str), (["thing"] : List Str), (["one", "other"] : List Str), (["one", "other"] : List Str), (["thing", "keys", "span"] : List Str), (["thing", "keys", "number"] : List Str), (["box", "spot", "span", "number"] : List Str), (["one", "other", "here", "there"] : List Str), (["one", "other", "here", "there"] : List Str), (["thing"] : List Str), (["thing"] : List Str), (["thing", "sign"] : List Str), (["thing", "keys"] : List Str), (["thing", "keys", "item", "name", "box"] : List Str), (["word", "keys", "thing"] : List Str), (["word", "box", "thing"] : List Str)] : List (List Str)) ++ ([(["word", "items", "thing", "order", "name", "box"] : List Str), (["word", "thing", "spot", "low", "high"] : List Str), (["item", "layer", "name", "box", "low", "high"] : List Str), (["thing"] : List Str), (["shape"] : List Str), (["shape", "size", "entries", "numbers", "number", "entry", "count", "height"] : List Str), (["shape", "left", "right", "one", "other"] : List Str), (["shape", "entries", "numbers", "at"] : List Str), (["shape", "entries", "highs", "entry"] : List Str), (["shape", "items", "layer", "last", "numbers", "order", "pair", "item", "entries", "at", "left", "right"] : List Str), (["shape", "x", "y", "found"] : List Str), (["shape", "x", "y", "found"] : List Str), (["first", "layer", "x", "y", "inside"] : List Str), (["shape", "layer", "last", "pairs", "inside", "x", "y", "found", "near", "far"] : List Str), (["claim", "word", "keys", "items", "thing", "answers"] : List Str), (["claim", "paper", "word", "keys", "items", "thing", "answers", "shape", "looked", "last", "number"] : List Str)] : List (List Str)) ++ ([(["keys", "items", "sides", "numbers", "key", "side", "lows", "highs", "item"] : List Str), (["_law_script", "_law_k", "_law_state", "_law_cell_here"] : List Str), (["_law_cell_here", "_law_many", "_law_found", "_law_state", "_law_digits", "_law_k"] : List Str), (["_law_xs", "_law_letters", "_law_stem", "_law_k", "_law_at", "_law_one", "_law_other", "_law_found", "_law_mark", "_law_name", "_law_j"] : List Str), (["_law_x", "_law_y", "_law_mode", "_law_low", "_law_wide"] : List Str), (["_law_xs", "_law_keys", "_law_mode", "_law_k"] : List Str), (["_law_stands", "_law_box_here", "_law_name"] : List Str), (["_law_word", "_law_box_here", "_law_thing", "_law_k", "_law_low", "_law_high_here"] : List Str), (["_law_stands", "_law_word", "_law_thing", "_law_name", "_law_box_here"] : List Str), (["_law_item", "_law_level", "_law_name", "_law_box_here", "_law_low", "_law_high_here"] : List Str), (["_law_shape", "_law_pair", "_law_side", "_law_number", "_law_entry_here", "_law_count", "_law_height", "_law_least", "_law_greatest", "_law_left", "_law_right", "_law_found"] : List Str), (["_law_first", "_law_level", "_law_pair", "_law_side"] : List Str), (["_law_shape", "_law_level", "_law_last", "_law_pairs_here", "_law_side", "_law_pair", "_law_found", "_law_one", "_law_other"] : List Str), (["_law_word", "_law_thing", "_law_spot", "_law_low", "_law_high_here"] : List Str), (["_law_script", "_law_keys", "_law_head", "_law_names_here", "_law_found", "_law_k", "_law_xs", "_law_box_here"] : List Str), (["_law_numbers_here"] : List Str)] : List (List Str)) ++ ([(["_law_shape"] : List Str), (["_law_many", "_law_numbers_here"] : List Str), (["_law_items_here", "_law_level", "_law_last", "_law_numbers_here", "_law_order", "_law_pair", "_law_item", "_law_at", "_law_number", "_law_left", "_law_right", "_law_head", "_law_highs"] : List Str), (["_law_entries", "_law_numbers_here", "_law_at", "_law_number", "_law_left", "_law_right"] : List Str), (["_law_items_here", "_law_keys", "_law_numbers_here", "_law_found", "_law_key", "_law_lows", "_law_highs", "_law_item"] : List Str), (["_law_shape", "_law_way", "_law_last", "_law_number", "_law_entry_here", "_law_count", "_law_height"] : List Str), (["_law_word", "_law_keys", "_law_items_here", "_law_thing", "_law_answers", "_law_shape", "_law_looked", "_law_x", "_law_claim", "_law_way"] : List Str), (["_law_script", "_law_head", "_law_keys", "_law_items_here", "_law_stands", "_law_numbers_here", "_law_shape", "_law_sides", "_law_box_here", "_law_k", "_law_word", "_law_thing", "_law_answers", "_law_side", "_law_looked", "_law_claim", "_law_paper", "_law_span_here", "_law_low", "_law_high_here"] : List Str)] : List (List Str))
def pss : List (List Str) := ([(["thing"] : List Str), (["thing"] : List Str), (["one", "other"] : List Str), (["one", "other"] : List Str), (["thing", "keys"] : List Str), (["thing", "keys"] : List Str), (["box", "spot"] : List Str), (["one", "other"] : List Str), (["one", "other"] : List Str), (["thing"] : List Str), (["thing"] : List Str), (["thing"] : List Str), (["thing", "keys"] : List Str), (["thing", "keys"] : List Str), (["word", "keys", "thing"] : List Str), (["word", "box", "thing"] : List Str)] : List (List Str)) ++ ([(["word", "items", "thing"] : List Str), (["word", "thing"] : List Str), (["item", "layer"] : List Str), (["thing"] : List Str), (["shape"] : List Str), (["shape", "size", "entries", "numbers"] : List Str), (["shape", "left", "right"] : List Str), (["shape", "entries", "numbers"] : List Str), (["shape", "entries"] : List Str), (["shape", "items", "layer", "last", "numbers"] : List Str), (["shape", "x", "y"] : List Str), (["shape", "x", "y"] : List Str), (["first", "layer", "x", "y", "inside"] : List Str), (["shape", "layer", "last", "pairs", "inside"] : List Str), (["claim"] : List Str), (["claim", "paper"] : List Str)] : List (List Str)) ++ ([(["keys", "items", "sides"] : List Str), (["_law_script", "_law_k"] : List Str), (["_law_cell_here", "_law_many"] : List Str), (["_law_xs"] : List Str), (["_law_x", "_law_y", "_law_mode"] : List Str), (["_law_xs", "_law_keys", "_law_mode"] : List Str), (["_law_stands"] : List Str), (["_law_word", "_law_box_here", "_law_thing"] : List Str), (["_law_stands", "_law_word", "_law_thing"] : List Str), (["_law_item", "_law_level"] : List Str), (["_law_shape", "_law_pair", "_law_side"] : List Str), (["_law_first", "_law_level", "_law_pair", "_law_side"] : List Str), (["_law_shape", "_law_level", "_law_last", "_law_pairs_here", "_law_side"] : List Str), (["_law_word", "_law_thing"] : List Str), (["_law_script", "_law_keys"] : List Str), (["_law_numbers_here"] : List Str)] : List (List Str)) ++ ([(["_law_shape"] : List Str), (["_law_many", "_law_numbers_here"] : List Str), (["_law_items_here", "_law_level", "_law_last", "_law_numbers_here"] : List Str), (["_law_entries", "_law_numbers_here"] : List Str), (["_law_items_here", "_law_keys", "_law_numbers_here"] : List Str), (["_law_shape", "_law_way", "_law_last"] : List Str), (["_law_word", "_law_keys", "_law_items_here", "_law_thing", "_law_answers", "_law_shape", "_law_looked", "_law_x"] : List Str), (["_law_script"] : List Str)] : List (List Str))
def D (f : Nat) : Dn := match fn[f]?, Ns[f]?, pss[f]? with
  | some d, some N, some ps => ⟨d.name, d.qual, d.params, d.body, d.scope, N, ps⟩
  | _, _, _ => ⟨Str.empty, Str.empty, defArgs (top 0), [], defScope (top 0), [], []⟩
abbrev R : PySem.W.OpenRow := PySem.W.OpenLaw.row PySem.Challenge.rw_twigstore_k64_whole_shapes_made_here_tak
def loose : List Str := (["is_whole", "is_span", "spans_meet", "span_within", "is_box", "is_spot", "has_spot", "boxes_meet", "box_within", "WORDS", "SMALL", "MOST_KEYS", "is_number", "are_keys", "is_named", "is_item", "are_items", "is_asked_for"] : List Str) ++ (["is_answer", "answers_due", "pairs_due", "entry_of", "is_entry", "height_in", "is_head", "are_upright", "is_tree", "are_ends", "is_layer", "looks_across", "looks_inside", "fits", "looks_due", "is_claim", "answers_taken", "sides_taken"] : List Str) ++ (["_law_cell", "_law_numbers", "_law_names", "_law_span", "_law_box", "_law_sorted", "_law_is_asked", "_law_plain", "_law_entry", "_law_last_looks", "_law_fits", "_law_looks", "_law_pairs", "_law_items", "_law_next_number", "_law_high", "_law_half", "_law_made_layer"] : List Str) ++ (["_law_made_tree", "_law_made_sides", "_law_bent", "_law_changed"] : List Str)
def exB (K : PySem.W.Frag) : Bool := He.tupB K "WORDS" ((["over", "meeting", "within", "around"] : List Str).map He.Dv.str) && true
abbrev hk : PySem.W.Hook := VM.hookE 2 fa fn exB
def ob (s : PySem.W.SharedT) : He.AlD × Bool := VM.obsE 2 fa fn exB (HandSHeadRun.getT s)
theorem ob_eq (s : PySem.W.SharedT) : ob s = hk.obs s.abs := VM.obsE_eq (HandSHeadRun.getT_eq s)
theorem run (w : World) : HandSHeadRun.RunEq R (PySem.W.view R.prog [62]) hk ob 3000 loose w := by
  intro os
  kernel_rfl
abbrev Dk (K : PySem.W.Frag) (f : Nat) (d : Fd) : Prop := DfOk K M D (fun f => He.ga K (M.fn f)) f d
section
variable {K : PySem.W.Frag}
theorem k0 : chkSs M ["thing"] ⟨defScope (top 1), defScope (top 1)⟩ b0 (defBody (top 1)) = true := by kernel_rfl
theorem df0 (c : He.SaysD fa fn K) : Dk K 0 ⟨1, 1, [], b0⟩ := by
  obtain ⟨fd, F⟩ := c.def_ 0 (d := d0) rfl
  exact DfOk.mk0 F (C8.fnScope_by (by kernel_rfl)) rfl rfl k0 (FunD.bindsN F fun _ _ _ _ _ _ us hl => match us, hl with | [_], _ => rfl)
theorem k1 : chkSs M ["thing"] ⟨defScope (top 2), defScope (top 2)⟩ b1 (defBody (top 2)) = true := by kernel_rfl
theorem df1 (c : He.SaysD fa fn K) : Dk K 1 ⟨1, 1, [], b1⟩ := by
  obtain ⟨fd, F⟩ := c.def_ 1 (d := d1) rfl
  exact DfOk.mk0 F (C8.fnScope_by (by kernel_rfl)) rfl rfl k1 (FunD.bindsN F fun _ _ _ _ _ _ us hl => match us, hl with | [_], _ => rfl)
theorem k2 : chkSs M ["one", "other"] ⟨defScope (top 3), defScope (top 3)⟩ b2 (defBody (top 3)) = true := by kernel_rfl
theorem df2 (c : He.SaysD fa fn K) : Dk K 2 ⟨2, 2, [], b2⟩ := by
  obtain ⟨fd, F⟩ := c.def_ 2 (d := d2) rfl
  exact DfOk.mk0 F (C8.fnScope_by (by kernel_rfl)) rfl rfl k2 (FunD.bindsN F fun _ _ _ _ _ _ us hl => match us, hl with | [_, _], _ => rfl)
theorem k3 : chkSs M ["one", "other"] ⟨defScope (top 4), defScope (top 4)⟩ b3 (defBody (top 4)) = true := by kernel_rfl
theorem df3 (c : He.SaysD fa fn K) : Dk K 3 ⟨2, 2, [], b3⟩ := by
  obtain ⟨fd, F⟩ := c.def_ 3 (d := d3) rfl
  exact DfOk.mk0 F (C8.fnScope_by (by kernel_rfl)) rfl rfl k3 (FunD.bindsN F fun _ _ _ _ _ _ us hl => match us, hl with | [_, _], _ => rfl)
theorem k4 : chkSs M ["thing", "keys", "span"] ⟨defScope (top 6), defScope (top 6)⟩ b4 (defBody (top 6)) = true := by kernel_rfl
theorem df4 (c : He.SaysD fa fn K) : Dk K 4 ⟨2, 3, [], b4⟩ := by
  obtain ⟨fd, F⟩ := c.def_ 4 (d := d4) rfl
  exact DfOk.mk0 F (C8.fnScope_by (by kernel_rfl)) rfl rfl k4 (FunD.bindsN F fun _ _ _ _ _ _ us hl => match us, hl with | [_, _], _ => rfl)
theorem k5 : chkSs M ["thing", "keys", "number"] ⟨defScope (top 7), defScope (top 7)⟩ b5 (defBody (top 7)) = true := by kernel_rfl
theorem df5 (c : He.SaysD fa fn K) : Dk K 5 ⟨2, 3, [], b5⟩ := by
  obtain ⟨fd, F⟩ := c.def_ 5 (d := d5) rfl
  exact DfOk.mk0 F (C8.fnScope_by (by kernel_rfl)) rfl rfl k5 (FunD.bindsN F fun _ _ _ _ _ _ us hl => match us, hl with | [_, _], _ => rfl)
theorem k6 : chkSs M ["box", "spot", "span", "number"] ⟨defScope (top 8), defScope (top 8)⟩ b6 (defBody (top 8)) = true := by kernel_rfl
theorem df6 (c : He.SaysD fa fn K) : Dk K 6 ⟨2, 4, [], b6⟩ := by
  obtain ⟨fd, F⟩ := c.def_ 6 (d := d6) rfl
  exact DfOk.mk0 F (C8.fnScope_by (by kernel_rfl)) rfl rfl k6 (FunD.bindsN F fun _ _ _ _ _ _ us hl => match us, hl with | [_, _], _ => rfl)
theorem k7 : chkSs M ["one", "other", "here", "there"] ⟨defScope (top 9), defScope (top 9)⟩ b7 (defBody (top 9)) = true := by kernel_rfl
theorem df7 (c : He.SaysD fa fn K) : Dk K 7 ⟨2, 4, [], b7⟩ := by
  obtain ⟨fd, F⟩ := c.def_ 7 (d := d7) rfl
  exact DfOk.mk0 F (C8.fnScope_by (by kernel_rfl)) rfl rfl k7 (FunD.bindsN F fun _ _ _ _ _ _ us hl => match us, hl with | [_, _], _ => rfl)
theorem k8 : chkSs M ["one", "other", "here", "there"] ⟨defScope (top 10), defScope (top 10)⟩ b8 (defBody (top 10)) = true := by kernel_rfl
theorem df8 (c : He.SaysD fa fn K) : Dk K 8 ⟨2, 4, [], b8⟩ := by
  obtain ⟨fd, F⟩ := c.def_ 8 (d := d8) rfl
  exact DfOk.mk0 F (C8.fnScope_by (by kernel_rfl)) rfl rfl k8 (FunD.bindsN F fun _ _ _ _ _ _ us hl => match us, hl with | [_, _], _ => rfl)
theorem k9 : chkSs M ["thing"] ⟨defScope (top 15), defScope (top 15)⟩ b9 (defBody (top 15)) = true := by kernel_rfl
theorem df9 (c : He.SaysD fa fn K) : Dk K 9 ⟨1, 1, [], b9⟩ := by
  obtain ⟨fd, F⟩ := c.def_ 9 (d := d9) rfl
  exact DfOk.mk0 F (C8.fnScope_by (by kernel_rfl)) rfl rfl k9 (FunD.bindsN F fun _ _ _ _ _ _ us hl => match us, hl with | [_], _ => rfl)
theorem k10 : chkSs M ["thing"] ⟨defScope (top 16), defScope (top 16)⟩ b10 (defBody (top 16)) = true := by kernel_rfl
theorem df10 (c : He.SaysD fa fn K) : Dk K 10 ⟨1, 1, [], b10⟩ := by
  obtain ⟨fd, F⟩ := c.def_ 10 (d := d10) rfl
  exact DfOk.mk0 F (C8.fnScope_by (by kernel_rfl)) rfl rfl k10 (FunD.bindsN F fun _ _ _ _ _ _ us hl => match us, hl with | [_], _ => rfl)
theorem k11 : chkSs M ["thing", "sign"] ⟨defScope (top 17), defScope (top 17)⟩ b11 (defBody (top 17)) = true := by kernel_rfl
theorem df11 (c : He.SaysD fa fn K) : Dk K 11 ⟨1, 2, [], b11⟩ := by
  obtain ⟨fd, F⟩ := c.def_ 11 (d := d11) rfl
  exact DfOk.mk0 F (C8.fnScope_by (by kernel_rfl)) rfl rfl k11 (FunD.bindsN F fun _ _ _ _ _ _ us hl => match us, hl with | [_], _ => rfl)
theorem k12 : chkSs M ["thing", "keys"] ⟨defScope (top 18), defScope (top 18)⟩ b12 (defBody (top 18)) = true := by kernel_rfl
theorem df12 (c : He.SaysD fa fn K) : Dk K 12 ⟨2, 2, [], b12⟩ := by
  obtain ⟨fd, F⟩ := c.def_ 12 (d := d12) rfl
  exact DfOk.mk0 F (C8.fnScope_by (by kernel_rfl)) rfl rfl k12 (FunD.bindsN F fun _ _ _ _ _ _ us hl => match us, hl with | [_, _], _ => rfl)
theorem k13 : chkSs M ["thing", "keys", "item", "name", "box"] ⟨defScope (top 19), defScope (top 19)⟩ b13 (defBody (top 19)) = true := by kernel_rfl
theorem df13 (c : He.SaysD fa fn K) : Dk K 13 ⟨2, 5, [], b13⟩ := by
  obtain ⟨fd, F⟩ := c.def_ 13 (d := d13) rfl
  exact DfOk.mk0 F (C8.fnScope_by (by kernel_rfl)) rfl rfl k13 (FunD.bindsN F fun _ _ _ _ _ _ us hl => match us, hl with | [_, _], _ => rfl)
theorem k14 : chkSs M ["word", "keys", "thing"] ⟨defScope (top 20), defScope (top 20)⟩ b14 (defBody (top 20)) = true := by kernel_rfl
theorem df14 (c : He.SaysD fa fn K) : Dk K 14 ⟨3, 3, [], b14⟩ := by
  obtain ⟨fd, F⟩ := c.def_ 14 (d := d14) rfl
  exact DfOk.mk0 F (C8.fnScope_by (by kernel_rfl)) rfl rfl k14 (FunD.bindsN F fun _ _ _ _ _ _ us hl => match us, hl with | [_, _, _], _ => rfl)
theorem k15 : chkSs M ["word", "box", "thing"] ⟨defScope (top 21), defScope (top 21)⟩ b15 (defBody (top 21)) = true := by kernel_rfl
theorem df15 (c : He.SaysD fa fn K) : Dk K 15 ⟨3, 3, [], b15⟩ := by
  obtain ⟨fd, F⟩ := c.def_ 15 (d := d15) rfl
  exact DfOk.mk0 F (C8.fnScope_by (by kernel_rfl)) rfl rfl k15 (FunD.bindsN F fun _ _ _ _ _ _ us hl => match us, hl with | [_, _, _], _ => rfl)
theorem k16 : chkSs M ["word", "items", "thing", "order", "name", "box"] ⟨defScope (top 22), defScope (top 22)⟩ b16 (defBody (top 22)) = true := by kernel_rfl
theorem df16 (c : He.SaysD fa fn K) : Dk K 16 ⟨3, 6, [], b16⟩ := by
  obtain ⟨fd, F⟩ := c.def_ 16 (d := d16) rfl
  exact DfOk.mk0 F (C8.fnScope_by (by kernel_rfl)) rfl rfl k16 (FunD.bindsN F fun _ _ _ _ _ _ us hl => match us, hl with | [_, _, _], _ => rfl)
theorem k17 : chkSs M ["word", "thing", "spot", "low", "high"] ⟨defScope (top 23), defScope (top 23)⟩ b17 (defBody (top 23)) = true := by kernel_rfl
theorem df17 (c : He.SaysD fa fn K) : Dk K 17 ⟨2, 5, [], b17⟩ := by
  obtain ⟨fd, F⟩ := c.def_ 17 (d := d17) rfl
  exact DfOk.mk0 F (C8.fnScope_by (by kernel_rfl)) rfl rfl k17 (FunD.bindsN F fun _ _ _ _ _ _ us hl => match us, hl with | [_, _], _ => rfl)
theorem k18 : chkSs M ["item", "layer", "name", "box", "low", "high"] ⟨defScope (top 24), defScope (top 24)⟩ b18 (defBody (top 24)) = true := by kernel_rfl
theorem df18 (c : He.SaysD fa fn K) : Dk K 18 ⟨2, 6, [], b18⟩ := by
  obtain ⟨fd, F⟩ := c.def_ 18 (d := d18) rfl
  exact DfOk.mk0 F (C8.fnScope_by (by kernel_rfl)) rfl rfl k18 (FunD.bindsN F fun _ _ _ _ _ _ us hl => match us, hl with | [_, _], _ => rfl)
theorem k19 : chkSs M ["thing"] ⟨defScope (top 25), defScope (top 25)⟩ b19 (defBody (top 25)) = true := by kernel_rfl
theorem df19 (c : He.SaysD fa fn K) : Dk K 19 ⟨1, 1, [], b19⟩ := by
  obtain ⟨fd, F⟩ := c.def_ 19 (d := d19) rfl
  exact DfOk.mk0 F (C8.fnScope_by (by kernel_rfl)) rfl rfl k19 (FunD.bindsN F fun _ _ _ _ _ _ us hl => match us, hl with | [_], _ => rfl)
theorem k20 : chkSs M ["shape"] ⟨defScope (top 26), defScope (top 26)⟩ b20 (defBody (top 26)) = true := by kernel_rfl
theorem df20 (c : He.SaysD fa fn K) : Dk K 20 ⟨1, 1, [], b20⟩ := by
  obtain ⟨fd, F⟩ := c.def_ 20 (d := d20) rfl
  exact DfOk.mk0 F (C8.fnScope_by (by kernel_rfl)) rfl rfl k20 (FunD.bindsN F fun _ _ _ _ _ _ us hl => match us, hl with | [_], _ => rfl)
theorem k21 : chkSs M ["shape", "size", "entries", "numbers", "number", "entry", "count", "height"] ⟨defScope (top 27), defScope (top 27)⟩ b21 (defBody (top 27)) = true := by kernel_rfl
theorem df21 (c : He.SaysD fa fn K) : Dk K 21 ⟨4, 8, [], b21⟩ := by
  obtain ⟨fd, F⟩ := c.def_ 21 (d := d21) rfl
  exact DfOk.mk0 F (C8.fnScope_by (by kernel_rfl)) rfl rfl k21 (FunD.bindsN F fun _ _ _ _ _ _ us hl => match us, hl with | [_, _, _, _], _ => rfl)
theorem k22 : chkSs M ["shape", "left", "right", "one", "other"] ⟨defScope (top 28), defScope (top 28)⟩ b22 (defBody (top 28)) = true := by kernel_rfl
theorem df22 (c : He.SaysD fa fn K) : Dk K 22 ⟨3, 5, [], b22⟩ := by
  obtain ⟨fd, F⟩ := c.def_ 22 (d := d22) rfl
  exact DfOk.mk0 F (C8.fnScope_by (by kernel_rfl)) rfl rfl k22 (FunD.bindsN F fun _ _ _ _ _ _ us hl => match us, hl with | [_, _, _], _ => rfl)
theorem k23 : chkSs M ["shape", "entries", "numbers", "at"] ⟨defScope (top 29), defScope (top 29)⟩ b23 (defBody (top 29)) = true := by kernel_rfl
theorem df23 (c : He.SaysD fa fn K) : Dk K 23 ⟨3, 4, [], b23⟩ := by
  obtain ⟨fd, F⟩ := c.def_ 23 (d := d23) rfl
  exact DfOk.mk0 F (C8.fnScope_by (by kernel_rfl)) rfl rfl k23 (FunD.bindsN F fun _ _ _ _ _ _ us hl => match us, hl with | [_, _, _], _ => rfl)
theorem k24 : chkSs M ["shape", "entries", "highs", "entry"] ⟨defScope (top 30), defScope (top 30)⟩ b24 (defBody (top 30)) = true := by kernel_rfl
theorem df24 (c : He.SaysD fa fn K) : Dk K 24 ⟨2, 4, [], b24⟩ := by
  obtain ⟨fd, F⟩ := c.def_ 24 (d := d24) rfl
  exact DfOk.mk0 F (C8.fnScope_by (by kernel_rfl)) rfl rfl k24 (FunD.bindsN F fun _ _ _ _ _ _ us hl => match us, hl with | [_, _], _ => rfl)
theorem k25 : chkSs M ["shape", "items", "layer", "last", "numbers", "order", "pair", "item", "entries", "at", "left", "right"] ⟨defScope (top 31), defScope (top 31)⟩ b25 (defBody (top 31)) = true := by kernel_rfl
theorem df25 (c : He.SaysD fa fn K) : Dk K 25 ⟨5, 12, [], b25⟩ := by
  obtain ⟨fd, F⟩ := c.def_ 25 (d := d25) rfl
  exact DfOk.mk0 F (C8.fnScope_by (by kernel_rfl)) rfl rfl k25 (FunD.bindsN F fun _ _ _ _ _ _ us hl => match us, hl with | [_, _, _, _, _], _ => rfl)
theorem k26 : chkSs M ["shape", "x", "y", "found"] ⟨defScope (top 32), defScope (top 32)⟩ b26 (defBody (top 32)) = true := by kernel_rfl
theorem df26 (c : He.SaysD fa fn K) : Dk K 26 ⟨3, 4, [], b26⟩ := by
  obtain ⟨fd, F⟩ := c.def_ 26 (d := d26) rfl
  exact DfOk.mk0 F (C8.fnScope_by (by kernel_rfl)) rfl rfl k26 (FunD.bindsN F fun _ _ _ _ _ _ us hl => match us, hl with | [_, _, _], _ => rfl)
theorem k27 : chkSs M ["shape", "x", "y", "found"] ⟨defScope (top 33), defScope (top 33)⟩ b27 (defBody (top 33)) = true := by kernel_rfl
theorem df27 (c : He.SaysD fa fn K) : Dk K 27 ⟨3, 4, [], b27⟩ := by
  obtain ⟨fd, F⟩ := c.def_ 27 (d := d27) rfl
  exact DfOk.mk0 F (C8.fnScope_by (by kernel_rfl)) rfl rfl k27 (FunD.bindsN F fun _ _ _ _ _ _ us hl => match us, hl with | [_, _, _], _ => rfl)
theorem k28 : chkSs M ["first", "layer", "x", "y", "inside"] ⟨defScope (top 34), defScope (top 34)⟩ b28 (defBody (top 34)) = true := by kernel_rfl
theorem df28 (c : He.SaysD fa fn K) : Dk K 28 ⟨5, 5, [], b28⟩ := by
  obtain ⟨fd, F⟩ := c.def_ 28 (d := d28) rfl
  exact DfOk.mk0 F (C8.fnScope_by (by kernel_rfl)) rfl rfl k28 (FunD.bindsN F fun _ _ _ _ _ _ us hl => match us, hl with | [_, _, _, _, _], _ => rfl)
theorem k29 : chkSs M ["shape", "layer", "last", "pairs", "inside", "x", "y", "found", "near", "far"] ⟨defScope (top 35), defScope (top 35)⟩ b29 (defBody (top 35)) = true := by kernel_rfl
theorem df29 (c : He.SaysD fa fn K) : Dk K 29 ⟨5, 10, [], b29⟩ := by
  obtain ⟨fd, F⟩ := c.def_ 29 (d := d29) rfl
  exact DfOk.mk0 F (C8.fnScope_by (by kernel_rfl)) rfl rfl k29 (FunD.bindsN F fun _ _ _ _ _ _ us hl => match us, hl with | [_, _, _, _, _], _ => rfl)
theorem k30 : chkSs M ["claim", "word", "keys", "items", "thing", "answers"] ⟨defScope (top 36), defScope (top 36)⟩ b30 (defBody (top 36)) = true := by kernel_rfl
theorem df30 (c : He.SaysD fa fn K) : Dk K 30 ⟨1, 6, [], b30⟩ := by
  obtain ⟨fd, F⟩ := c.def_ 30 (d := d30) rfl
  exact DfOk.mk0 F (C8.fnScope_by (by kernel_rfl)) rfl rfl k30 (FunD.bindsN F fun _ _ _ _ _ _ us hl => match us, hl with | [_], _ => rfl)
theorem k31 : chkSs M ["claim", "paper", "word", "keys", "items", "thing", "answers", "shape", "looked", "last", "number"] ⟨defScope (top 37), defScope (top 37)⟩ b31 (defBody (top 37)) = true := by kernel_rfl
theorem df31 (c : He.SaysD fa fn K) : Dk K 31 ⟨2, 11, [], b31⟩ := by
  obtain ⟨fd, F⟩ := c.def_ 31 (d := d31) rfl
  exact DfOk.mk0 F (C8.fnScope_by (by kernel_rfl)) rfl rfl k31 (FunD.bindsN F fun _ _ _ _ _ _ us hl => match us, hl with | [_, _], _ => rfl)
theorem k32 : chkSs M ["keys", "items", "sides", "numbers", "key", "side", "lows", "highs", "item"] ⟨defScope (top 38), defScope (top 38)⟩ b32 (defBody (top 38)) = true := by kernel_rfl
theorem df32 (c : He.SaysD fa fn K) : Dk K 32 ⟨3, 9, [], b32⟩ := by
  obtain ⟨fd, F⟩ := c.def_ 32 (d := d32) rfl
  exact DfOk.mk0 F (C8.fnScope_by (by kernel_rfl)) rfl rfl k32 (FunD.bindsN F fun _ _ _ _ _ _ us hl => match us, hl with | [_, _, _], _ => rfl)
theorem k33 : chkSs M ["_law_script", "_law_k", "_law_state", "_law_cell_here"] ⟨defScope (top 40), defScope (top 40)⟩ b33 (defBody (top 40)) = true := by kernel_rfl
theorem df33 (c : He.SaysD fa fn K) : Dk K 33 ⟨2, 4, [], b33⟩ := by
  obtain ⟨fd, F⟩ := c.def_ 33 (d := d33) rfl
  exact DfOk.mk0 F (C8.fnScope_by (by kernel_rfl)) rfl rfl k33 (FunD.bindsN F fun _ _ _ _ _ _ us hl => match us, hl with | [_, _], _ => rfl)
theorem k34 : chkSs M ["_law_cell_here", "_law_many", "_law_found", "_law_state", "_law_digits", "_law_k"] ⟨defScope (top 41), defScope (top 41)⟩ b34 (defBody (top 41)) = true := by kernel_rfl
theorem df34 (c : He.SaysD fa fn K) : Dk K 34 ⟨2, 6, [], b34⟩ := by
  obtain ⟨fd, F⟩ := c.def_ 34 (d := d34) rfl
  exact DfOk.mk0 F (C8.fnScope_by (by kernel_rfl)) rfl rfl k34 (FunD.bindsN F fun _ _ _ _ _ _ us hl => match us, hl with | [_, _], _ => rfl)
theorem k35 : chkSs M ["_law_xs", "_law_letters", "_law_stem", "_law_k", "_law_at", "_law_one", "_law_other", "_law_found", "_law_mark", "_law_name", "_law_j"] ⟨defScope (top 42), defScope (top 42)⟩ b35 (defBody (top 42)) = true := by kernel_rfl
theorem df35 (c : He.SaysD fa fn K) : Dk K 35 ⟨1, 11, [], b35⟩ := by
  obtain ⟨fd, F⟩ := c.def_ 35 (d := d35) rfl
  exact DfOk.mk0 F (C8.fnScope_by (by kernel_rfl)) rfl rfl k35 (FunD.bindsN F fun _ _ _ _ _ _ us hl => match us, hl with | [_], _ => rfl)
theorem k36 : chkSs M ["_law_x", "_law_y", "_law_mode", "_law_low", "_law_wide"] ⟨defScope (top 43), defScope (top 43)⟩ b36 (defBody (top 43)) = true := by kernel_rfl
theorem df36 (c : He.SaysD fa fn K) : Dk K 36 ⟨3, 5, [], b36⟩ := by
  obtain ⟨fd, F⟩ := c.def_ 36 (d := d36) rfl
  exact DfOk.mk0 F (C8.fnScope_by (by kernel_rfl)) rfl rfl k36 (FunD.bindsN F fun _ _ _ _ _ _ us hl => match us, hl with | [_, _, _], _ => rfl)
theorem k37 : chkSs M ["_law_xs", "_law_keys", "_law_mode", "_law_k"] ⟨defScope (top 44), defScope (top 44)⟩ b37 (defBody (top 44)) = true := by kernel_rfl
theorem df37 (c : He.SaysD fa fn K) : Dk K 37 ⟨3, 4, [], b37⟩ := by
  obtain ⟨fd, F⟩ := c.def_ 37 (d := d37) rfl
  exact DfOk.mk0 F (C8.fnScope_by (by kernel_rfl)) rfl rfl k37 (FunD.bindsN F fun _ _ _ _ _ _ us hl => match us, hl with | [_, _, _], _ => rfl)
theorem k38 : chkSs M ["_law_stands", "_law_box_here", "_law_name"] ⟨defScope (top 45), defScope (top 45)⟩ b38 (defBody (top 45)) = true := by kernel_rfl
theorem df38 (c : He.SaysD fa fn K) : Dk K 38 ⟨1, 3, [], b38⟩ := by
  obtain ⟨fd, F⟩ := c.def_ 38 (d := d38) rfl
  exact DfOk.mk0 F (C8.fnScope_by (by kernel_rfl)) rfl rfl k38 (FunD.bindsN F fun _ _ _ _ _ _ us hl => match us, hl with | [_], _ => rfl)
theorem k39 : chkSs M ["_law_word", "_law_box_here", "_law_thing", "_law_k", "_law_low", "_law_high_here"] ⟨defScope (top 46), defScope (top 46)⟩ b39 (defBody (top 46)) = true := by kernel_rfl
theorem df39 (c : He.SaysD fa fn K) : Dk K 39 ⟨3, 6, [], b39⟩ := by
  obtain ⟨fd, F⟩ := c.def_ 39 (d := d39) rfl
  exact DfOk.mk0 F (C8.fnScope_by (by kernel_rfl)) rfl rfl k39 (FunD.bindsN F fun _ _ _ _ _ _ us hl => match us, hl with | [_, _, _], _ => rfl)
theorem k40 : chkSs M ["_law_stands", "_law_word", "_law_thing", "_law_name", "_law_box_here"] ⟨defScope (top 47), defScope (top 47)⟩ b40 (defBody (top 47)) = true := by kernel_rfl
theorem df40 (c : He.SaysD fa fn K) : Dk K 40 ⟨3, 5, [], b40⟩ := by
  obtain ⟨fd, F⟩ := c.def_ 40 (d := d40) rfl
  exact DfOk.mk0 F (C8.fnScope_by (by kernel_rfl)) rfl rfl k40 (FunD.bindsN F fun _ _ _ _ _ _ us hl => match us, hl with | [_, _, _], _ => rfl)
theorem k41 : chkSs M ["_law_item", "_law_level", "_law_name", "_law_box_here", "_law_low", "_law_high_here"] ⟨defScope (top 48), defScope (top 48)⟩ b41 (defBody (top 48)) = true := by kernel_rfl
theorem df41 (c : He.SaysD fa fn K) : Dk K 41 ⟨2, 6, [], b41⟩ := by
  obtain ⟨fd, F⟩ := c.def_ 41 (d := d41) rfl
  exact DfOk.mk0 F (C8.fnScope_by (by kernel_rfl)) rfl rfl k41 (FunD.bindsN F fun _ _ _ _ _ _ us hl => match us, hl with | [_, _], _ => rfl)
theorem k42 : chkSs M ["_law_shape", "_law_pair", "_law_side", "_law_number", "_law_entry_here", "_law_count", "_law_height", "_law_least", "_law_greatest", "_law_left", "_law_right", "_law_found"] ⟨defScope (top 49), defScope (top 49)⟩ b42 (defBody (top 49)) = true := by kernel_rfl
theorem df42 (c : He.SaysD fa fn K) : Dk K 42 ⟨3, 12, [], b42⟩ := by
  obtain ⟨fd, F⟩ := c.def_ 42 (d := d42) rfl
  exact DfOk.mk0 F (C8.fnScope_by (by kernel_rfl)) rfl rfl k42 (FunD.bindsN F fun _ _ _ _ _ _ us hl => match us, hl with | [_, _, _], _ => rfl)
theorem k43 : chkSs M ["_law_first", "_law_level", "_law_pair", "_law_side"] ⟨defScope (top 50), defScope (top 50)⟩ b43 (defBody (top 50)) = true := by kernel_rfl
theorem df43 (c : He.SaysD fa fn K) : Dk K 43 ⟨4, 4, [], b43⟩ := by
  obtain ⟨fd, F⟩ := c.def_ 43 (d := d43) rfl
  exact DfOk.mk0 F (C8.fnScope_by (by kernel_rfl)) rfl rfl k43 (FunD.bindsN F fun _ _ _ _ _ _ us hl => match us, hl with | [_, _, _, _], _ => rfl)
theorem k44 : chkSs M ["_law_shape", "_law_level", "_law_last", "_law_pairs_here", "_law_side", "_law_pair", "_law_found", "_law_one", "_law_other"] ⟨defScope (top 51), defScope (top 51)⟩ b44 (defBody (top 51)) = true := by kernel_rfl
theorem df44 (c : He.SaysD fa fn K) : Dk K 44 ⟨5, 9, [], b44⟩ := by
  obtain ⟨fd, F⟩ := c.def_ 44 (d := d44) rfl
  exact DfOk.mk0 F (C8.fnScope_by (by kernel_rfl)) rfl rfl k44 (FunD.bindsN F fun _ _ _ _ _ _ us hl => match us, hl with | [_, _, _, _, _], _ => rfl)
theorem k45 : chkSs M ["_law_word", "_law_thing", "_law_spot", "_law_low", "_law_high_here"] ⟨defScope (top 52), defScope (top 52)⟩ b45 (defBody (top 52)) = true := by kernel_rfl
theorem df45 (c : He.SaysD fa fn K) : Dk K 45 ⟨2, 5, [], b45⟩ := by
  obtain ⟨fd, F⟩ := c.def_ 45 (d := d45) rfl
  exact DfOk.mk0 F (C8.fnScope_by (by kernel_rfl)) rfl rfl k45 (FunD.bindsN F fun _ _ _ _ _ _ us hl => match us, hl with | [_, _], _ => rfl)
theorem k46 : chkSs M ["_law_script", "_law_keys", "_law_head", "_law_names_here", "_law_found", "_law_k", "_law_xs", "_law_box_here"] ⟨defScope (top 53), defScope (top 53)⟩ b46 (defBody (top 53)) = true := by kernel_rfl
theorem df46 (c : He.SaysD fa fn K) : Dk K 46 ⟨2, 8, [], b46⟩ := by
  obtain ⟨fd, F⟩ := c.def_ 46 (d := d46) rfl
  exact DfOk.mk0 F (C8.fnScope_by (by kernel_rfl)) rfl rfl k46 (FunD.bindsN F fun _ _ _ _ _ _ us hl => match us, hl with | [_, _], _ => rfl)
theorem k47 : chkSs M ["_law_numbers_here"] ⟨defScope (top 54), defScope (top 54)⟩ b47 (defBody (top 54)) = true := by kernel_rfl
theorem df47 (c : He.SaysD fa fn K) : Dk K 47 ⟨1, 1, [], b47⟩ := by
  obtain ⟨fd, F⟩ := c.def_ 47 (d := d47) rfl
  exact DfOk.mk0 F (C8.fnScope_by (by kernel_rfl)) rfl rfl k47 (FunD.bindsN F fun _ _ _ _ _ _ us hl => match us, hl with | [_], _ => rfl)
theorem k48 : chkSs M ["_law_shape"] ⟨defScope (top 55), defScope (top 55)⟩ b48 (defBody (top 55)) = true := by kernel_rfl
theorem df48 (c : He.SaysD fa fn K) : Dk K 48 ⟨1, 1, [], b48⟩ := by
  obtain ⟨fd, F⟩ := c.def_ 48 (d := d48) rfl
  exact DfOk.mk0 F (C8.fnScope_by (by kernel_rfl)) rfl rfl k48 (FunD.bindsN F fun _ _ _ _ _ _ us hl => match us, hl with | [_], _ => rfl)
theorem k49 : chkSs M ["_law_many", "_law_numbers_here"] ⟨defScope (top 56), defScope (top 56)⟩ b49 (defBody (top 56)) = true := by kernel_rfl
theorem df49 (c : He.SaysD fa fn K) : Dk K 49 ⟨2, 2, [], b49⟩ := by
  obtain ⟨fd, F⟩ := c.def_ 49 (d := d49) rfl
  exact DfOk.mk0 F (C8.fnScope_by (by kernel_rfl)) rfl rfl k49 (FunD.bindsN F fun _ _ _ _ _ _ us hl => match us, hl with | [_, _], _ => rfl)
theorem k50 : chkSs M ["_law_items_here", "_law_level", "_law_last", "_law_numbers_here", "_law_order", "_law_pair", "_law_item", "_law_at", "_law_number", "_law_left", "_law_right", "_law_head", "_law_highs"] ⟨defScope (top 57), defScope (top 57)⟩ b50 (defBody (top 57)) = true := by kernel_rfl
theorem df50 (c : He.SaysD fa fn K) : Dk K 50 ⟨4, 13, [], b50⟩ := by
  obtain ⟨fd, F⟩ := c.def_ 50 (d := d50) rfl
  exact DfOk.mk0 F (C8.fnScope_by (by kernel_rfl)) rfl rfl k50 (FunD.bindsN F fun _ _ _ _ _ _ us hl => match us, hl with | [_, _, _, _], _ => rfl)
theorem k51 : chkSs M ["_law_entries", "_law_numbers_here", "_law_at", "_law_number", "_law_left", "_law_right"] ⟨defScope (top 58), defScope (top 58)⟩ b51 (defBody (top 58)) = true := by kernel_rfl
theorem df51 (c : He.SaysD fa fn K) : Dk K 51 ⟨2, 6, [], b51⟩ := by
  obtain ⟨fd, F⟩ := c.def_ 51 (d := d51) rfl
  exact DfOk.mk0 F (C8.fnScope_by (by kernel_rfl)) rfl rfl k51 (FunD.bindsN F fun _ _ _ _ _ _ us hl => match us, hl with | [_, _], _ => rfl)
theorem k52 : chkSs M ["_law_items_here", "_law_keys", "_law_numbers_here", "_law_found", "_law_key", "_law_lows", "_law_highs", "_law_item"] ⟨defScope (top 59), defScope (top 59)⟩ b52 (defBody (top 59)) = true := by kernel_rfl
theorem df52 (c : He.SaysD fa fn K) : Dk K 52 ⟨3, 8, [], b52⟩ := by
  obtain ⟨fd, F⟩ := c.def_ 52 (d := d52) rfl
  exact DfOk.mk0 F (C8.fnScope_by (by kernel_rfl)) rfl rfl k52 (FunD.bindsN F fun _ _ _ _ _ _ us hl => match us, hl with | [_, _, _], _ => rfl)
theorem k53 : chkSs M ["_law_shape", "_law_way", "_law_last", "_law_number", "_law_entry_here", "_law_count", "_law_height"] ⟨defScope (top 60), defScope (top 60)⟩ b53 (defBody (top 60)) = true := by kernel_rfl
theorem df53 (c : He.SaysD fa fn K) : Dk K 53 ⟨3, 7, [], b53⟩ := by
  obtain ⟨fd, F⟩ := c.def_ 53 (d := d53) rfl
  exact DfOk.mk0 F (C8.fnScope_by (by kernel_rfl)) rfl rfl k53 (FunD.bindsN F fun _ _ _ _ _ _ us hl => match us, hl with | [_, _, _], _ => rfl)
theorem k54 : chkSs M ["_law_word", "_law_keys", "_law_items_here", "_law_thing", "_law_answers", "_law_shape", "_law_looked", "_law_x", "_law_claim", "_law_way"] ⟨defScope (top 61), defScope (top 61)⟩ b54 (defBody (top 61)) = true := by kernel_rfl
theorem df54 (c : He.SaysD fa fn K) : Dk K 54 ⟨8, 10, [], b54⟩ := by
  obtain ⟨fd, F⟩ := c.def_ 54 (d := d54) rfl
  exact DfOk.mk0 F (C8.fnScope_by (by kernel_rfl)) rfl rfl k54 (FunD.bindsN F fun _ _ _ _ _ _ us hl => match us, hl with | [_, _, _, _, _, _, _, _], _ => rfl)
theorem k55 : chkSs M ["_law_script", "_law_head", "_law_keys", "_law_items_here", "_law_stands", "_law_numbers_here", "_law_shape", "_law_sides", "_law_box_here", "_law_k", "_law_word", "_law_thing", "_law_answers", "_law_side", "_law_looked", "_law_claim", "_law_paper", "_law_span_here", "_law_low", "_law_high_here"] ⟨defScope (top 62), defScope (top 62)⟩ b55 (defBody (top 62)) = true := by kernel_rfl
theorem df55 (c : He.SaysD fa fn K) : Dk K 55 ⟨1, 20, [], b55⟩ := by
  obtain ⟨fd, F⟩ := c.def_ 55 (d := d55) rfl
  exact DfOk.mk0 F (C8.fnScope_by (by kernel_rfl)) rfl rfl k55 (FunD.bindsN F fun _ _ _ _ _ _ us hl => match us, hl with | [_], _ => rfl)
theorem df (c : He.SaysD fa fn K) : ∀ f d, T.fn f = some d → Dk K f d
  | 0, _, h => by cases h; exact df0 c
  | 1, _, h => by cases h; exact df1 c
  | 2, _, h => by cases h; exact df2 c
  | 3, _, h => by cases h; exact df3 c
  | 4, _, h => by cases h; exact df4 c
  | 5, _, h => by cases h; exact df5 c
  | 6, _, h => by cases h; exact df6 c
  | 7, _, h => by cases h; exact df7 c
  | 8, _, h => by cases h; exact df8 c
  | 9, _, h => by cases h; exact df9 c
  | 10, _, h => by cases h; exact df10 c
  | 11, _, h => by cases h; exact df11 c
  | 12, _, h => by cases h; exact df12 c
  | 13, _, h => by cases h; exact df13 c
  | 14, _, h => by cases h; exact df14 c
  | 15, _, h => by cases h; exact df15 c
  | 16, _, h => by cases h; exact df16 c
  | 17, _, h => by cases h; exact df17 c
  | 18, _, h => by cases h; exact df18 c
  | 19, _, h => by cases h; exact df19 c
  | 20, _, h => by cases h; exact df20 c
  | 21, _, h => by cases h; exact df21 c
  | 22, _, h => by cases h; exact df22 c
  | 23, _, h => by cases h; exact df23 c
  | 24, _, h => by cases h; exact df24 c
  | 25, _, h => by cases h; exact df25 c
  | 26, _, h => by cases h; exact df26 c
  | 27, _, h => by cases h; exact df27 c
  | 28, _, h => by cases h; exact df28 c
  | 29, _, h => by cases h; exact df29 c
  | 30, _, h => by cases h; exact df30 c
  | 31, _, h => by cases h; exact df31 c
  | 32, _, h => by cases h; exact df32 c
  | 33, _, h => by cases h; exact df33 c
  | 34, _, h => by cases h; exact df34 c
  | 35, _, h => by cases h; exact df35 c
  | 36, _, h => by cases h; exact df36 c
  | 37, _, h => by cases h; exact df37 c
  | 38, _, h => by cases h; exact df38 c
  | 39, _, h => by cases h; exact df39 c
  | 40, _, h => by cases h; exact df40 c
  | 41, _, h => by cases h; exact df41 c
  | 42, _, h => by cases h; exact df42 c
  | 43, _, h => by cases h; exact df43 c
  | 44, _, h => by cases h; exact df44 c
  | 45, _, h => by cases h; exact df45 c
  | 46, _, h => by cases h; exact df46 c
  | 47, _, h => by cases h; exact df47 c
  | 48, _, h => by cases h; exact df48 c
  | 49, _, h => by cases h; exact df49 c
  | 50, _, h => by cases h; exact df50 c
  | 51, _, h => by cases h; exact df51 c
  | 52, _, h => by cases h; exact df52 c
  | 53, _, h => by cases h; exact df53 c
  | 54, _, h => by cases h; exact df54 c
  | 55, _, h => by cases h; exact df55 c
  | n + 56, _, h => by cases h
theorem glbOk {h : Heap} {mg : Str → Option Value} (X : K.In h) (G : h.Ns mainGlobals mg) (c : He.SaysD fa fn K) (ce : exB K = true) : ∀ g w, T.glb g = some w → ∃ u v, mg (M.gl g) = some u ∧ RelV v u ∧ ∀ ρ H, RV K ρ H w v
  | 0, _, h => by
    cases h
    have e := He.glo_ok X G (fact_mem c (f := .glo "WORDS") (by simp [fa, facts]))
    have q := (Bool.and_eq_true_iff.mp (show (_ && _) = true from ce)).1
    refine ⟨_, .ref (He.ga K "WORDS"), e, rfl, fun ρ H => ?_⟩
    simp only [RV]
    exact ⟨_, _, rfl, .inr (KT_of q), RVs_strs (by decide +kernel)⟩
  | 1, _, h => by
    cases h
    obtain ⟨t, e⟩ := He.str_ok X G (fact_mem c (f := .str "SMALL" "abcdefghijklmnopqrstuvwxyz") (by simp [fa, facts]))
    exact ⟨_, .str "abcdefghijklmnopqrstuvwxyz", e, ⟨t, rfl⟩, fun _ _ => ⟨rfl, by decide +kernel, by decide +kernel⟩⟩
  | 2, _, h => by
    cases h
    obtain ⟨t, e⟩ := He.int_ok X G (fact_mem c (f := .int "MOST_KEYS" 3) (by simp [fa, facts]))
    exact ⟨_, .int 3, e, ⟨t, rfl⟩, fun _ _ => rfl⟩
  | n + 3, _, h => by cases h
def G (K : PySem.W.Frag) : Sta := ⟨fun _ => 0, M.fl, T.fl⟩
theorem stat {h : Heap} {mg : Str → Option Value} (X : K.In h) (Gm : h.Ns mainGlobals mg) (c : He.SaysD fa fn K) (ce : exB K = true) : Stat K mg T M (G K) D (fun f => He.ga K (M.fn f)) where
  df := df c
  free := fun x hx => He.free_ok X Gm (fact_mem c (List.mem_append_left _ (List.mem_map_of_mem hx)))
  fn := fun f hf => by
    obtain ⟨x, hx, e⟩ : ∃ x, names[f]? = some x ∧ M.fn f = x := by
      show ∃ x, names[f]? = some x ∧ (names[f]?).getD Str.empty = x
      cases e : names[f]? with
      | none => exact absurd (show M.fn f = Str.empty by show (names[f]?).getD Str.empty = _; rw [e]; rfl) hf
      | some x => exact ⟨x, rfl, rfl⟩
    have hl : f < fds.length := by
      obtain ⟨q, _⟩ := List.getElem?_eq_some_iff.mp hx
      exact q
    refine ⟨⟨fds[f], List.getElem?_eq_getElem hl⟩, ?_⟩
    rw [e]
    exact He.glo_ok X Gm (fact_mem c (List.mem_append_right _ (List.mem_append_left _ (List.mem_map_of_mem (List.mem_of_getElem? hx)))))
  mt := fun _ _ _ h => by cases h
  mts := fun m h => absurd rfl h
  mk_ := fun m h => absurd rfl h
  glb := glbOk X Gm c ce
  fl := rfl
  nm := rfl
  at_ := fun _ _ h => by cases h
  inj := fun _ _ _ h => by cases h
  dis := fun _ _ _ h => by cases h
end
end LW

open PySem PySem.W PySem.Calls PyProof.Rows in
theorem PySem.Challenge.cw_twigstore_k64_whole_shapes_made_here_tak_holds : PySem.Challenge.rw_twigstore_k64_whole_shapes_made_here_tak.Holds := by
  w_on; o_law
  refine HandSHeadRun.head_any (r := OpenLaw.row PySem.Challenge.rw_twigstore_k64_whole_shapes_made_here_tak) (q := view (OpenLaw.row PySem.Challenge.rw_twigstore_k64_whole_shapes_made_here_tak).prog [62]) (H := LW.hk) (ob := LW.ob) (M := 3000) (loose := LW.loose) (d := HandSHeadRun.topDef (OpenLaw.row PySem.Challenge.rw_twigstore_k64_whole_shapes_made_here_tak).prog 62) (kwd := []) LW.ob_eq
    (by kernel_rfl) (fun s => by kernel_rfl) LW.run (by kernel_rfl) (by kernel_rfl) (by kernel_rfl) (by rfl) (by first | assumption | decide +kernel) (by decide +kernel) ⟨rfl, rfl, rfl, rfl, rfl, by decide +kernel⟩ ?hw ?hc
  case hw => w_witness2
  case hc =>
    refine L2.walk_ofE (l := PySem.Challenge.rw_twigstore_k64_whole_shapes_made_here_tak) (n := 63) (k := LW.depth) (x := "_law_script") (CX := VM.CXw (PySem.Challenge.rw_twigstore_k64_whole_shapes_made_here_tak).prog) rfl (by decide) (by kernel_rfl) ⟨rfl, by decide, by decide⟩ ?F (fun _ _ _ _ z => VM.CXw.no _ _ _ _ z)
    intro w mg fa h Y G hmg0
    obtain ⟨K, KX, c, ce⟩ := Y
    have hmg : mg ("law" : PySem.Str) = some (.ref fa) := by
      have e : (HandSHeadRun.topDef (OpenLaw.row PySem.Challenge.rw_twigstore_k64_whole_shapes_made_here_tak).prog 62).name = ("law" : PySem.Str) := by kernel_rfl
      rw [← e]
      exact hmg0
    have S := LW.stat KX G c ce
    have e := hmg.symm.trans (S.fn LW.lawi (by decide +kernel)).2
    cases e
    obtain ⟨fd, Fl⟩ := c.def_ LW.lawi (d := LW.d55) rfl
    have hb : ∀ (s : Shared) (u : Value), BindsTo s fd ⟨[u], []⟩ [("_law_script", u)] := fun s u => L2.FunD.bindsA (ps := ["_law_script"]) Fl (fun _ _ _ _ _ _ us hl => match us, hl with | [_], _ => rfl) s [u] rfl
    obtain ⟨sp, hsp, hF⟩ := VM.end_of (P := (PySem.Challenge.rw_twigstore_k64_whole_shapes_made_here_tak).prog) (w := w) S (f := LW.lawi) rfl (x := "_law_script") rfl LW.depth Fl hb LW.law
    exact ⟨K, fd, sp, KX, hb, hsp, hF⟩

