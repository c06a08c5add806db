import PyProof.Rows.All
import HandS.Zip
import HandS.SetFor
import HandS.Style
import HandS.Text
import Wide.All
import OpenK.AllK
import Wide.FinOn
import HandS.ForMost
import HandS.ForExc
import HandS.CallSlots
import HandS.Wide
import HandS.IsInst
import KE.KDictKeyed
import HandS.Deep
import HandS.TupAny
import HandS.Dict
import HandS.List
import HandS.WordsDict
import HandS.Iter
import KE.KDictDisplayH
import HandS.Call
import KE.KEqDict
import KE.SortData
import PyProof.CollectStr
import HandS.ExcValue
import PyProof.StrBlock
import HandS.RevTup
import HandS.Conv
import HandS.Rev
import HandS.Codes
import HandS.Replace
import HandS.MapJoin
import HandS.ExcInit
import HandS.ExcOwn
import HandS.ExcIs
import HandS.ExcField
import HandS.HotCalls
import HandS.TryOnly
import HandS.TryMany
import HandS.WordsExc
import HandS.Defaults
import KE.KExcIs
import HandS.ClsMeth
import HandS.MakeKw
import HandS.MakeKwOnly
import HandS.Flow
import KE.KUnpack
import HandS.Hot
import HandS.Ends
import HandS.HeadHook2
import PySem.Challenge.RW_dialecthall_k91_rows_of_dialects
set_option Elab.async false
set_option linter.all false
set_option maxRecDepth 100000
set_option maxHeartbeats 4000000
namespace DM
open PySem L2 PySem.Spec PyProof.Rows
section
variable {K : Type} [DecidableEq K]
def stepK (σ : List K) (v : K) : List K := if σ.any (fun k => decide (k = v)) then σ else σ ++ [v]
def metK (val : Nat → K) (i : Nat) : List K := ((List.range i).map val).foldl stepK []
theorem metK_succ (val : Nat → K) (i : Nat) : metK val (i + 1) = stepK (metK val i) (val i) := by
  unfold metK; rw [List.range_succ, List.map_append, List.foldl_append]; rfl
theorem metK_length_le (val : Nat → K) : ∀ i, (metK val i).length ≤ i
  | 0 => Nat.le_refl _
  | i + 1 => by
    rw [metK_succ]; unfold stepK
    have ih := metK_length_le val i
    split
    · omega
    · rw [List.length_append, List.length_singleton]; omega
theorem stepK_any (σ : List K) (v k : K) : (stepK σ v).any (fun x => decide (x = k)) = (σ.any (fun x => decide (x = k)) || decide (k = v)) := by
  unfold stepK
  by_cases h : σ.any (fun k => decide (k = v)) = true
  · rw [if_pos h]
    by_cases e : k = v
    · subst e; rw [h]; simp
    · simp [e]
  · rw [if_neg h, List.any_append]
    by_cases e : k = v
    · subst e; simp
    · have hb : ¬ v = k := fun h' => e h'.symm
      simp [hb, e]
theorem stepK_length (σ : List K) (v : K) : (stepK σ v).length = if σ.any (fun x => decide (x = v)) then σ.length else σ.length + 1 := by
  unfold stepK; split <;> simp
theorem setOf_congrK {prog : Program} {w : World} {knd : KeyKind prog w K} {h : Heap} {a : Addr} {S S' : K → Bool} {n n' : Nat}
    (hS : h.SetOf knd a S n) (e : ∀ k, S k = S' k) (en : n = n') : h.SetOf knd a S' n' := by
  have : S = S' := funext e
  subst this; subst en; exact hS
variable {prog : Program} {w : World} {knd : KeyKind prog w K} {A : Around} {R : Result → Shared → Prop} {I : Addr} {fp wr : List Addr} {G : Array GenState → Array GenState → Prop} {n : Nat} {P : Nat → Value → Prop} {St : Nat → Shared → Prop}
theorem set_update_loopK (W : WalksS prog w A.in1 I fp wr G n P St) (S : Addr) (hSf : S ∉ fp)
    (val : Nat → K) (hval : ∀ i v, P i v → knd.is (val i) v = true ∧ v.scannable = true) (hb : n + 1 < scanBound) :
    ∀ (k i : Nat) (s : Shared), n - i = k → i ≤ n → St i s →
      s.heap.SetOf knd S (fun k' => (metK val i).any fun x => decide (x = k')) (metK val i).length →
      (∀ s', Moved (S :: wr) G s s' → s'.heap.SetOf knd S (fun k' => (metK val n).any fun x => decide (x = k')) (metK val n).length → R (.ok (.ret .none)) s') →
      codeAny (model prog w) A (.builtin "set.update.loop" ⟨[.ref S, .ref I], []⟩) R s := by
  have hSw : S ∉ wr := fun h => hSf (W.sub _ h)
  have hsub : ∀ b ∈ wr, b ∈ S :: wr := fun b hb => List.mem_cons_of_mem _ hb
  intro k
  induction k with
  | zero =>
    intro i s hk hi hst hS hR
    have hin : i = n := by omega
    subst hin
    refine codeAny_builtin F.entry_set_update_loop ?_
    rw [Around.under_plainId F.plain_set_update_loop _]
    show wpAny _ A.in1 (pyNext (.ref I) >>= _) _ _ s
    refine wpAny_bind (W.done s _ _ hst fun s' hm => ?_)
    show wpAny _ A.in1 (ret Value.none) _ _ s'
    exact wpAny_pure (hR s' (hm.mono hsub) (by
      obtain ⟨o, es, ep, t, ho, rest⟩ := hS
      exact ⟨o, es, ep, t, hm.heap S _ hSw ho, rest⟩))
  | succ k ih =>
    intro i s hk hi hst hS hR
    have hlt : i < n := by omega
    refine codeAny_builtin F.entry_set_update_loop ?_
    rw [Around.under_plainId F.plain_set_update_loop _]
    show wpAny _ A.in1 (pyNext (.ref I) >>= _) _ _ s
    refine wpAny_bind (W.item i s _ _ hlt hst fun v s' hP hst' hm => ?_)
    obtain ⟨hk1, hk2⟩ := hval i v hP
    have hS' : s'.heap.SetOf knd S (fun k' => (metK val i).any fun x => decide (x = k')) (metK val i).length := by
      obtain ⟨o, es, ep, tb, ho, rest⟩ := hS
      exact ⟨o, es, ep, tb, hm.heap S _ hSw ho, rest⟩
    show wpAny _ A.in1 (holding [v] (setAdd S v) >>= _) _ _ s'
    refine wpAny_bind (wpAny_holding ?_)
    unfold setAdd
    refine wpAny_holding ?_
    refine wpAny_bind (knd.pyHash (k := val i) hk1 ?_)
    have hroom : (metK val i).length + 1 < scanBound := by have := metK_length_le val i; omega
    refine wpAny_setAddHashed_of (knd := knd) (s := { s' with toks := s'.toks + 1 }) hk1 hk2 hS' hroom fun h' hsb hS2 => ?_
    have hSi : h'.SetOf knd S (fun k' => (metK val (i + 1)).any fun x => decide (x = k')) (metK val (i + 1)).length :=
      setOf_congrK hS2 (fun k' => by rw [metK_succ, stepK_any]) (by rw [metK_succ, stepK_length])
    refine wpAny_pure ⟨plainId_quiet F.plain_set_update_loop _, ih (i + 1) _ (by omega) hlt (W.frame _ s' _ _ hst' (Nat.le_succ _) fun b hb o e => ?_) hSi fun s'' hm'' hS'' => ?_⟩
    · rw [hsb.2 b (fun h : b = S => hSf (by rw [← h]; exact hb))]; exact e
    · refine hR s'' (Moved.trans W.gtrans ((hm.mono hsub).then_heap (Nat.le_succ _) fun b o hb e => ?_) hm'') hS''
      rw [hsb.2 b (fun h : b = S => hb (by rw [h]; exact List.mem_cons_self))]; exact e
end
section
variable {prog : Program} {w : World} {A : Around} {E : Value → Shared → Prop} {s : Shared}
/-- the i-th sign of a text -/
def sgnAt (x : Str) (i : Nat) : Str := match x.cps[i]? with | some c => ⟨#[c]⟩ | none => ⟨#[]⟩
theorem signAt_is {x : Str} {i : Nat} {v : Value} (h : SignAt x i v) : (strKind prog w).is (sgnAt x i) v = true ∧ v.scannable = true := by
  obtain ⟨c, u, hc, rfl⟩ := h
  unfold sgnAt
  rw [hc]
  exact ⟨strKind_is _ _ _ _, rfl⟩
theorem call_set_str {x : Str} {t : Tok} {Q : Value → Shared → Prop}
    (hh : A.handled = none) (hb : x.cps.size + 1 < scanBound)
    (h : ∀ (h' : Heap) (tk : Nat), h'.SetOf (strKind prog w) s.heap.objs.size (fun k' => (metK (sgnAt x) x.cps.size).any fun z => decide (z = k')) (metK (sgnAt x) x.cps.size).length →
      (∀ b o, b < s.heap.objs.size → s.heap.get? b = some o → h'.get? b = some o) → Q (.ref s.heap.objs.size) { s with heap := h', toks := tk }) :
    wpAny (model prog w) A (call (.type "set") [.str x t]) Q E s := by
  obtain ⟨c, tl, hmro⟩ := F.called_set.mro
  have hmade := F.called_set.made
  have hsub := F.called_set.sub
  refine wpAny_call (codeAny_of_tree ?_)
  show wpAny _ _ (callAny (.type "set") _) _ _ _
  refine wpAny_pure ⟨Code.quiet_builtin _ (by decide +kernel), codeAny_builtin F.entry_type_call ?_⟩
  rw [Around.under_plain (weight_type_call_type "set" [.str x t] []) rfl]
  have h1 := F.called_set.notType
  have h2 := F.called_set.canCreate
  have hct := F.typeCall_set_1 (.str x t)
  repeat (any_goals (first | assumption | wp_step))
  refine codeAny_mono (code_set_new_1 (.str x t) (E := E) (Q₁ := fun obj s₁ => ∃ led : Bool, obj = .ref s.heap.objs.size ∧ s₁ = { s with heap := s.heap.push { cls := .type "set", dict := none, data := .set #[] 0 (.fresh 0 0 led) } }) fun led => ⟨led, rfl, rfl⟩) fun r s₁ hr => ?_
  cases r with
  | error e => exact hr
  | ok fl =>
    cases fl with
    | ret obj =>
      obtain ⟨led, rfl, rfl⟩ := hr
      have hS : (s.heap.push { cls := .type "set", dict := none, data := .set #[] 0 (.fresh 0 0 led) }).get? s.heap.objs.size = some { cls := .type "set", dict := none, data := .set #[] 0 (.fresh 0 0 led) } := Heap.get?_push_size _ rfl
      have hT : Shared.TypeIs { s with heap := s.heap.push { cls := .type "set", dict := none, data := .set #[] 0 (.fresh 0 0 led) } } (.ref s.heap.objs.size) "set" := ⟨_, hS, rfl⟩
      have hli := F.called_set.init.lookup
      have hbi := F.called_set.init.bind (.ref s.heap.objs.size)
      repeat (any_goals (first | assumption | wp_step))
      refine codeAny_mono (codeAny_call_builtin (R := wants (fun r s₂ => r = .none ∧ ∃ h' tk, s₂ = { s with heap := h', toks := tk } ∧
          h'.SetOf (strKind prog w) s.heap.objs.size (fun k' => (metK (sgnAt x) x.cps.size).any fun z => decide (z = k')) (metK (sgnAt x) x.cps.size).length ∧
          (∀ b o, b < s.heap.objs.size → s.heap.get? b = some o → h'.get? b = some o)) E) F.called_set.init.plain F.entry_set_init (check_set_init_1 hT ?_)) fun r₂ s₂ hr₂ => ?_
      · have hsls := PySem.F.sub_str_set
        have hslf := PySem.F.sub_str_frozenset
        have hne : (Value.type "str" == Value.type "dict") = false := by decide
        unfold Builtin.«set.__init__» noKeywords Builtin.Frozenset.updateFrom
        generalize hPI : pyIter = PI
        wp_walk
        subst hPI
        refine wpAny_pyIter_str fun o St hW hst => ?_
        refine wpAny_bind (wpAny_runValue ?_)
        have hh3 : A.in1.in1.in1.handled = none := by simp [hh]
        have hSf : s.heap.objs.size ∉ [(s.heap.push { cls := .type "set", dict := none, data := .set #[] 0 (.fresh 0 0 led) }).objs.size] := by
          rw [Heap.size_push]; simp only [List.mem_singleton]
          exact Nat.ne_of_lt (Nat.lt_succ_self _)
        refine set_update_loopK (knd := strKind prog w) ((hW _ hh3).toS) s.heap.objs.size
          hSf (sgnAt x) (fun i v hv => signAt_is hv) hb (x.cps.size - 0) 0 _ (by omega) (Nat.zero_le _)
          hst ?hS0 ?hR
        case hS0 =>
          have hget : ((s.heap.push { cls := .type "set", dict := none, data := .set #[] 0 (.fresh 0 0 led) }).push o).get? s.heap.objs.size
              = some { cls := .type "set", dict := none, data := .set #[] 0 (.fresh 0 0 led) } := Heap.get?_push_of_some _ hS
          exact setOf_congrK ((PyProof.Rows.setObjOf_fresh (knd := strKind prog w) led).setOf hget (by unfold scanBound; omega)) (fun _ => rfl) rfl
        case hR =>
          intro s' hm hS'
          obtain ⟨h', g', d', tk', os'⟩ := s'
          have eg : g' = s.gens := hm.gens
          have ed : d' = s.drawn := hm.drawn
          have eo : os' = s.os := hm.os
          subst eg; subst ed; subst eo
          show wpAny _ _ _ _ _ _
          refine wpAny_pure ?_
          show wpAny _ _ (ret Value.none) _ _ _
          refine wpAny_pure ⟨rfl, h', tk', rfl, hS', fun b o hb e => ?_⟩
          have hb1 : b ≠ s.heap.objs.size := Nat.ne_of_lt hb
          have hb2 : b ≠ (s.heap.push { cls := .type "set", dict := none, data := .set #[] 0 (.fresh 0 0 led) }).objs.size := by
            rw [Heap.size_push]; exact Nat.ne_of_lt (Nat.lt_succ_of_lt hb)
          exact hm.heap b o (by simp only [List.mem_cons, List.mem_singleton, List.not_mem_nil, or_false, not_or]; exact ⟨hb1, hb2⟩) (Heap.get?_push_of_some _ (Heap.get?_push_of_some _ e))
      · cases r₂ with
        | error e => exact hr₂
        | ok fl₂ =>
          cases fl₂ with
          | ret r =>
            obtain ⟨rfl, h', tk, rfl, hS', hk'⟩ := hr₂
            repeat (any_goals (first | assumption | wp_step))
            exact h _ _ hS' hk'
          | _ => exact hr₂.elim
    | _ => exact hr.elim
end
section
variable {X : Cx}
open RZ
def tLenSetS (ta : TE) : TE := fun σ H Q => ta σ H fun x H1 => ∃ y, x = .str y ∧ y.cps.size ≤ 4000 ∧ Q (.int ((metK (sgnAt y) y.cps.size).length : Nat)) H1
theorem pe_lenSetS {a : Expr} {ta : TE} {p p2 q pos : Pos} (hc : X.calm = true) (hg : Gl X "len") (hm : X.mg "len" = none) (hg2 : Gl X "set") (hm2 : X.mg "set" = none) (ha : PE X a ta)
    (na : starEach [a] X.env = (false, eval a X.env) :: starEach [] X.env) : PE X (.Call (.Name "len" p) [.Call (.Name "set" p2) [a] [] q] [] pos) (tLenSetS ta) := by
  refine ⟨fun pins s σ H Q I h => ?_⟩
  refine Call_ (ld_blt I hg hm boot_len ?_)
  refine PyProof.Rows.callWith_builtin1 (PyProof.Rows.args_cons ?_ rfl) rfl rfl
  refine Call_ (ld_blt I hg2 hm2 boot_set ?_)
  refine PyProof.Rows.callWith_type1 (PyProof.Rows.args_cons (thn (ha.run pins s σ H _ I h) fun v s1 ⟨x, H1, I1, r1, q1⟩ => PyProof.Rows.args_nil ?_) na) na rfl
  obtain ⟨y, rfl, hl, q1⟩ := q1
  obtain ⟨t, rfl⟩ := r1
  refine call_set_str (I1.ok.hd hc) (by unfold scanBound; omega) fun h' tk hS hk => ?_
  refine PyProof.Rows.args_nil ?_
  obtain ⟨o, es, ep, t, ho, hex, hd, _, _, _, hf, hn⟩ := hS
  have hle := metK_length_le (sgnAt y) y.cps.size
  have I2 : Inv X pins σ H1 { s1 with heap := h', toks := tk } := I1.kept fun b o e => hk b o (Heap.lt_size e) e
  exact call_len_set ho hex hd hf (by rw [hn] <;> omega) ⟨.int (metK (sgnAt y) y.cps.size).length, H1, I2.tok _, ⟨_, by rw [hn]⟩, q1⟩
end
section
variable {X : Cx}
open PyProof.Rows
/-- a text turned about -/
def revS (z : Str) : Str := ⟨z.cps.toList.reverse.toArray⟩
theorem rev_idx (z : Str) : ((Builtin.Str.strSliceIndices none none (-1) z.length).filterMap (z.cps[·]?)) = z.cps.toList.reverse := by
  show (sliceRange ((z.cps.size : Int) - 1) (-1) (-1)).filterMap (z.cps[·]?) = _
  rw [PySem.W.krv_sliceRange, PySem.W.krv_range, List.filterMap_reverse, PySem.W.krv_all]
def tRevB (K : PySem.W.Frag) (te : TE) : TE := fun σ H Q => te σ H fun x H1 => (∃ a xs, x = .ref a ∧ SqL K H1 a xs ∧ ∀ p, H1 p = none → Q (.ref p) (upd H1 p (.lst xs.reverse))) ∨ (∃ z, x = .str z ∧ z.length ≤ sizeLine ∧ Q (.str (revS z)) H1)
theorem pe_revB {e : Expr} {te : TE} {k : Nat} {p1 p2 p3 pos : Pos} (he : PE X e te) : PE X (.Subscript e (.Slice none none (some (.UnaryOp .USub (.Constant (.int 1) k p1) p2)) p3) pos) (tRevB X.K te) := by
  refine ⟨fun pins s σ H Q I h => ?_⟩
  refine Subscript_ (thn (he.run pins s σ H _ I h) fun v s1 ⟨x, H1, I1, r1, q1⟩ => ?_)
  have hst : PO X (some (.UnaryOp .USub (.Constant (.int 1) k p1) p2)) (tPart (tUn (rU fun i => .int (-i)) (tC (.int 1)))) := po_some (pe_un un_neg pe_int)
  refine wpAny_Slice (thn (po_none.run pins s1 σ H1 (fun o H2 => o = none ∧ H2 = H1) I1 ⟨rfl, rfl⟩) fun vl s2 ⟨l, H2, I2, pl, el, e2⟩ => ?_)
  subst el e2
  refine thn (po_none.run pins s2 σ H2 (fun o H3 => o = none ∧ H3 = H2) I2 ⟨rfl, rfl⟩) fun vu s3 ⟨u, H3, I3, pu, eu, e3⟩ => ?_
  subst eu e3
  refine thn (hst.run pins s3 σ H3 (fun o H4 => o = some (-1) ∧ H4 = H3) I3 ⟨1, rfl, -1, rfl, rfl, rfl⟩) fun vs s4 ⟨o, H4, I4, ps, eo, e4⟩ => ?_
  subst eo e4
  have I5 : Inv X pins σ H4 { s4 with heap := s4.heap.push { cls := .type "slice", data := .fields #[vl, vu, vs] } } := I4.kept (t' := s4.toks) fun b ob q => Heap.get?_push_of_some _ q
  rcases q1 with ⟨a, xs, ex, hx, q⟩ | ⟨z, ex, hz, q⟩
  · subst ex
    cases r1
    obtain ⟨its, r, ht, hz⟩ := I5.list hx
    have hlen := r.length
    show wpAny (model X.prog X.w) X.A (subscriptTail e (.Slice none none (some (.UnaryOp .USub (.Constant (.int 1) k p1) p2)) p3) (.ref a) (.ref s4.heap.objs.size)) (EP X pins σ Q) X.xe { s4 with heap := s4.heap.push { cls := .type "slice", data := .fields #[vl, vu, vs] } }
    refine tail_any (ops := [.ref a, .ref s4.heap.objs.size]) ht.isList.typeIs (PySem.slot_list_getitem.lookup) ?_ (by with_unfolding_all rfl)
    refine wpAny_getItem_list_slice ht.isList (Heap.IsSliceOf.new _ vl vu vs) pl pu ps (by decide) ?_ (by rw [List.size_toArray]; omega)
    rw [PySem.W.krv_pick]
    refine ⟨.ref _, _, I5.laid (t' := s4.toks) (o := .lst xs.reverse) (fun b ob q => Heap.get?_push_of_some _ q) (Nat.le_refl _) ?_, rfl, q _ (I5.hok.fresh (Nat.le_refl _))⟩
    exact ⟨by rw [List.length_reverse]; exact hz, _, 0, r.reverse, Heap.get?_push_size _ rfl⟩
  · subst ex
    obtain ⟨t, rfl⟩ := r1
    show wpAny (model X.prog X.w) X.A (subscriptTail e (.Slice none none (some (.UnaryOp .USub (.Constant (.int 1) k p1) p2)) p3) (.str z t) (.ref s4.heap.objs.size)) (EP X pins σ Q) X.xe { s4 with heap := s4.heap.push { cls := .type "slice", data := .fields #[vl, vu, vs] } }
    obtain ⟨l, rfl, hl⟩ := IsPart.raw pl
    obtain ⟨u, rfl, hu⟩ := IsPart.raw pu
    obtain ⟨sp, rfl, hp⟩ := IsPart.raw ps
    cases l with
    | some _ => cases hl
    | none =>
      cases u with
      | some _ => cases hu
      | none =>
        cases sp with
        | none => cases hp
        | some sp =>
          obtain ⟨sv, st⟩ := sp
          have hp : (-1 : Int) = sv := by simpa using hp.symm
          subst hp
          refine tail_any (T := "str") (ops := [.str z t, .ref s4.heap.objs.size]) (typeIs_str _ _ _) PySem.F.slot_str_getitem.lookup ?_ (by with_unfolding_all rfl)
          refine wpAny_getItem_str_slice (l := none) (u := none) (st := some (-1, st)) ⟨_, Heap.get?_push_size _ rfl, rfl, rfl⟩ rfl ?_
          have e1 : revS z = ⟨((Builtin.Str.strSliceIndices none none (-1) z.length).filterMap (z.cps[·]?)).toArray⟩ := by rw [rev_idx]; rfl
          have hl : (revS z).length ≤ sizeLine := by
            have : (revS z).length = z.length := by simp [revS, Str.length]
            omega
          rw [e1] at q hl
          show Made.post (if ((-1 : Int) == 1 && (Builtin.Str.strSliceIndices none none (-1) z.length).length == z.length) = true then Made.val (.str z t)
            else Made.str ⟨((Builtin.Str.strSliceIndices none none (-1) z.length).filterMap (z.cps[·]?)).toArray⟩) (EP X pins σ Q) _
          rw [if_neg (by simp)]
          exact ⟨hl, .str _, H4, I5.tok _, ⟨_, rfl⟩, q⟩
end
theorem strsAre_vals : ∀ {ys : List Str} {us : List Value}, Vals (ys.map V.str) us → StrsAre us ys
  | [], _, .nil => .nil
  | y :: ys, _, .cons r t => by
    obtain ⟨k, rfl⟩ := r
    exact .cons y k (strsAre_vals t)
theorem isStrOf_count {k : Str} : ∀ {us : List Value} {ys : List Str}, StrsAre us ys → us.countP (isStrOf k) = ys.count k
  | _, _, .nil => rfl
  | _, _, .cons n t h => by
    have ih := isStrOf_count (k := k) h
    rw [List.countP_cons, List.count_cons, ih] <;> rfl
def rCntS (K : PySem.W.Frag) : V → List V → Hp → VK → Prop := fun x xs H Q => ∃ (p : Addr) (ys : List Str) (k : Str), x = .ref p ∧ xs = [.str k] ∧ SqL K H p (ys.map V.str) ∧ Q (.int (ys.count k : Nat)) H
theorem mt_lcountS {X : Cx} : MtR X "list.count" (rCntS X.K) := by
  intro pins s σ H x xs v us Q I rx rxs h
  obtain ⟨p, ys, k, rfl, rfl, hs, q⟩ := h
  cases rx
  obtain ⟨u, rfl, ru⟩ := rxs.one
  obtain ⟨t, rfl⟩ := ru
  obtain ⟨its, rv, ⟨⟨cls, dd, data, sl⟩, n, ho, hc, hdn, hd⟩, hlen⟩ := I.list hs
  simp only at hc hd
  subst hc hd
  have hi := strsAre_vals rv
  refine call_meets PySem.F.slot_list_count ⟨_, ho, rfl⟩ PySem.F.entry_list_count (PySem.F.args_list_count_2 _ _)
    (SeqAt.list_countAt p its.toArray n dd sl (.str k t) (isStrOf k)) ⟨ho, fun y hy => (eq_isStrOf k t hi y (by simpa using hy)).at _ _, ?_⟩
  have ec : its.toArray.toList.countP (isStrOf k) = ys.count k := isStrOf_count hi
  refine ⟨.int (ys.count k : Nat), H, I.tok _, ⟨s.toks, ?_⟩, q⟩
  show Value.int ((its.toArray.toList.countP (isStrOf k) : Nat) : Int) s.toks = Value.int ((ys.count k : Nat) : Int) s.toks
  rw [ec]
def isBlOf (b : Bool) : Value → Bool
  | .bool c => c == b
  | _ => false
theorem bls_vals : ∀ {bs : List Bool} {us : List Value}, Vals (bs.map V.bl) us → us = bs.map Value.bool
  | [], _, .nil => rfl
  | b :: bs, _, .cons r t => by
    cases r
    rw [bls_vals t]; rfl
def rCntB (K : PySem.W.Frag) : V → List V → Hp → VK → Prop := fun x xs H Q => ∃ (p : Addr) (bs : List Bool) (b : Bool), x = .ref p ∧ xs = [.bl b] ∧ SqL K H p (bs.map V.bl) ∧ Q (.int (bs.count b : Nat)) H
theorem mt_lcountB {X : Cx} : MtR X "list.count" (rCntB X.K) := by
  intro pins s σ H x xs v us Q I rx rxs h
  obtain ⟨p, bs, b, rfl, rfl, hs, q⟩ := h
  cases rx
  obtain ⟨u, rfl, ru⟩ := rxs.one
  cases ru
  obtain ⟨its, rv, ⟨⟨cls, dd, data, sl⟩, n, ho, hc, hdn, hd⟩, hlen⟩ := I.list hs
  simp only at hc hd
  subst hc hd
  have hi := bls_vals rv
  refine call_meets PySem.F.slot_list_count ⟨_, ho, rfl⟩ PySem.F.entry_list_count (PySem.F.args_list_count_2 _ _)
    (SeqAt.list_countAt p its.toArray n dd sl (.bool b) (isBlOf b)) ⟨ho, fun y hy => ?_, ?_⟩
  · have hy : y ∈ its := by simpa using hy
    rw [hi] at hy
    obtain ⟨c, _, rfl⟩ := List.mem_map.mp hy
    exact SeqAt.EqAt.bool_bool c b
  · have ec : its.toArray.toList.countP (isBlOf b) = bs.count b := by
      rw [hi]
      show (bs.map Value.bool).countP (isBlOf b) = _
      rw [List.countP_map, List.count]
      rfl
    refine ⟨.int (bs.count b : Nat), H, I.tok _, ⟨s.toks, ?_⟩, q⟩
    show Value.int ((its.toArray.toList.countP (isBlOf b) : Nat) : Int) s.toks = Value.int ((bs.count b : Nat) : Int) s.toks
    rw [ec]
end DM
set_option Elab.async false
set_option linter.all false
set_option maxRecDepth 100000
set_option maxHeartbeats 4000000
namespace DM
open PySem L2 PySem.Spec PyProof.Rows
/-- data; cel n: what changes, the n-th cell of the memory -/
inductive D where
  | non | bl (b : Bool) | int (i : Int) | str (x : List Nat) | lst (xs : List D) | tup (xs : List D)
  | dct (ks vs : List D) | ins (c : Nat) (fs : List D) | exc (c : Nat) (fs : List D) | cel (n : Nat)
abbrev Mem := List (Option D)
mutual
/-- neither a list nor anything else that may change -/
def imm : D → Bool
  | .non => true | .bl _ => true | .int _ => true | .str _ => true
  | .lst _ => false | .dct _ _ => false | .ins _ _ => false | .exc _ _ => false | .cel _ => false
  | .tup xs => imms xs
def imms : List D → Bool
  | [] => true
  | x :: xs => imm x && imms xs
end
mutual
/-- no cell within -/
def cf : D → Bool
  | .non => true | .bl _ => true | .int _ => true | .str _ => true
  | .lst xs => cfs xs | .tup xs => cfs xs | .dct ks vs => cfs ks && cfs vs | .ins _ xs => cfs xs | .exc _ xs => cfs xs | .cel _ => false
def cfs : List D → Bool
  | [] => true
  | x :: xs => cf x && cfs xs
end
def okS (x : List Nat) : Bool := x.all fun c => decide (c < 1114112)
def mkS (x : List Nat) : Str := ⟨x.toArray⟩
/-- the classes of the text, by number: where, and the names of the fields in order -/
structure Cls0 where
  f : Nat → Option (Addr × List Str)
  /-- the classes of exceptions -/
  x : Nat → Option (Addr × List Str) := fun _ => none
  /-- how keys hash -/
  hs : NestedKey → Int := fun _ => 0
instance : CoeFun Cls0 fun _ => Nat → Option (Addr × List Str) := ⟨Cls0.f⟩
/-- a thing that is known by its object -/
abbrev isAt (a : Addr) (o : Obj) : HO := .ext fun h => h.get? a = some o
/-- a list of the module's own -/
def KL (K : PySem.W.Frag) (a : Addr) (vs : List V) : Prop := ∃ (its : Array Value) (n : Nat), K.lookup a = some { cls := .type "list", data := .seq its n } ∧ its.size ≤ sizeLine ∧ Vals vs its.toList
def SL (K : PySem.W.Frag) (H : Hp) (a : Addr) (vs : List V) : Prop := Rd H a (.lst vs) ∨ KL K a vs
theorem sl_sq {K : PySem.W.Frag} {H : Hp} {a : Addr} {vs : List V} (h : SL K H a vs) : SqL K H a vs := by
  rcases h with h | ⟨its, n, h, hz, r⟩
  · exact .inl h
  · exact .inr ⟨_, its, n, h, rfl, rfl, rfl, hz, r⟩
/-- a key as data -/
def kD : Key → D
  | .inl i => .int i
  | .inr x => .str x.cps.toList
def okK : Key → Bool
  | .inl _ => true
  | .inr x => okS x.cps.toList
/-- a dict's content -/
def DC (o : HO) (ks : List D) (ws : List V) : Prop := ∃ kvs : List (Key × V), o = .dK kvs ∧ ks = kvs.map (fun p => kD p.1) ∧ (∀ p ∈ kvs, okK p.1 = true) ∧ ws = kvs.map (·.2)
mutual
def kN : D → Option NestedKey
  | .non => some .none | .bl b => some (.num (if b = true then 1 else 0)) | .int i => some (.num i) | .str x => some (.text (mkS x))
  | .lst _ => none | .dct _ _ => none | .ins _ _ => none | .exc _ _ => none | .cel _ => none
  | .tup xs => (kNs xs).map .tup
def kNs : List D → Option (List NestedKey)
  | [] => some []
  | x :: xs => match kN x, kNs xs with | some a, some b => some (a :: b) | _, _ => none
end
/-- a tuple that is a key -/
def tupK : D → Bool
  | .tup xs => match kN (.tup xs) with | some k => decide (k.depth ≤ 8) | none => false
  | _ => false
def mixD : D → Bool | .int _ => true | .str _ => true | _ => false
def tkB (ks : List D) : Bool := !ks.isEmpty && ks.all tupK
/-- an entry: the key, its own value, what is kept -/
abbrev Ent := NestedKey × V × V
def EntR (x : Ent) (y : NestedKey × Value × Value) : Prop := x.1 = y.1 ∧ RelV x.2.1 y.2.1 ∧ RelV x.2.2 y.2.2
/-- the object of a dict with these entries -/
def DicF (hs : NestedKey → Int) (o : Obj) (xs : List Ent) : Prop :=
  o.ExactDict ∧ xs.length ≤ sizeLine ∧ (xs.map (·.1)).Nodup ∧ ∃ es ep, o.data = .dict es ep ∧ ∃ ys : List (NestedKey × Value × Value), Paired EntR xs ys ∧ es.toList = ys.map fun y => ⟨hs y.1, y.2.1, y.2.2⟩
/-- an exception's dict -/
def Xd (H : Hp) (ns : List Str) (dd : Option Addr) (vs : List V) : Prop := (ns = [] ∧ dd = none) ∨ (ns ≠ [] ∧ ∃ d, dd = some d ∧ H d = some (.xd (ns.zip vs)))
theorem Xd.keep {H H' : Hp} {ns : List Str} {dd : Option Addr} {vs : List V} (x : Xd H ns dd vs) (k : ∀ a fs, H a = some (.xd fs) → H' a = some (.xd fs)) : Xd H' ns dd vs := by
  rcases x with x | ⟨n, d, e, h⟩
  · exact .inl x
  · exact .inr ⟨n, d, e, k _ _ h⟩
section
variable (cl : Cls0) (K : PySem.W.Frag) (φ : List Addr) (H : Hp) (X : Addr → Prop)
mutual
inductive Rp : V → D → Prop
  | non : Rp .non .non
  | bl (b : Bool) : Rp (.bl b) (.bl b)
  | int (i : Int) : Rp (.int i) (.int i)
  | str (x : List Nat) (h : okS x = true) : Rp (.str ⟨x.toArray⟩) (.str x)
  | lst {a : Addr} {vs : List V} {ds : List D} (h : Rd H a (.lst vs)) (n : ¬ X a) (r : Rps vs ds) : Rp (.ref a) (.lst ds)
  | lstK {a : Addr} {vs : List V} {ds : List D} (h : KL K a vs) (r : Rps vs ds) : Rp (.ref a) (.lst ds)
  | tup {a : Addr} {vs : List V} {ds : List D} (h : SqT K H a vs) (r : Rps vs ds) : Rp (.ref a) (.tup ds)
  | dct {a : Addr} {o : HO} {ws : List V} {ks vs : List D} (h : Rd H a o) (n : ¬ X a) (k : DC o ks ws) (r : Rps ws vs) : Rp (.ref a) (.dct ks vs)
  | ins {a C dx : Addr} {c : Nat} {ns : List Str} {vs : List V} {ds : List D} (hc : cl c = some (C, ns)) (h : H a = some (.ins C dx ((ns.take vs.length).zip vs))) (n : ¬ X a) (hl : vs.length ≤ ns.length) (r : Rps vs ds) : Rp (.ref a) (.ins c ds)
  | dcn {a : Addr} {o : Obj} {xs : List Ent} {ks vs : List D} (h : H a = some (isAt a o)) (n : ¬ X a) (hd : (a == sysModules) = false) (f : DicF cl.hs o xs) (t : tkB ks = true) (k : kNs ks = some (xs.map (·.1))) (kr : Rps (xs.map (·.2.1)) ks) (r : Rps (xs.map (·.2.2)) vs) : Rp (.ref a) (.dct ks vs)
  | exc {a C : Addr} {c : Nat} {ns : List Str} {oe : Obj} {dd : Option Addr} {vs : List V} {ds : List D} (h : H a = some (isAt a oe)) (nx : ¬ X a) (hc : cl.x c = some (C, ns)) (z : Zc (.ref C) dd oe) (f : ∃ vs, oe.data = .fields vs) (hd : Xd H ns dd vs) (hl : ns.length = vs.length) (r : Rps vs ds) : Rp (.ref a) (.exc c ds)
  | cel {a : Addr} {n : Nat} (h : φ[n]? = some a) : Rp (.ref a) (.cel n)
inductive Rps : List V → List D → Prop
  | nil : Rps [] []
  | cons {v : V} {vs : List V} {d : D} {ds : List D} (h : Rp v d) (r : Rps vs ds) : Rps (v :: vs) (d :: ds)
end
end
section
variable {cl : Cls0} {K : PySem.W.Frag} {φ φ' : List Addr} {H H' : Hp} {X X' : Addr → Prop}
/-- φ' knows what φ knows -/
def Px (φ φ' : List Addr) : Prop := ∀ (n : Nat) (a : Addr), φ[n]? = some a → φ'[n]? = some a
theorem Px.refl : Px φ φ := fun _ _ h => h
theorem Px.trans {φ'' : List Addr} (a : Px φ φ') (b : Px φ' φ'') : Px φ φ'' := fun n x h => b n x (a n x h)
theorem Px.app {r : List Addr} : Px φ (φ ++ r) := fun n a h => by
  rw [List.getElem?_append_left (List.getElem?_eq_some_iff.mp h).1]; exact h
/-- what may hold a datum's parts -/
def NoMut : HO → Prop
  | .tup _ => True | .frz _ _ => True | .xd _ => True | _ => False
mutual
/-- THE FRAME: what is not shunned stays as it was -/
theorem Rp.fm (p : Px φ φ') (k : ∀ a o, H a = some o → (¬ X a ∨ NoMut o) → H' a = some o) (x : ∀ a o, H a = some o → X' a → X a) : ∀ (d : D) (v : V), Rp cl K φ H X v d → Rp cl K φ' H' X' v d
  | .non, _, .non => .non
  | .bl b, _, .bl _ => .bl b
  | .int i, _, .int _ => .int i
  | .str s, _, .str _ h => .str s h
  | .lst ds, _, .lst h n r => .lst (by
      rcases h with h | ⟨u, h⟩
      · exact .inl (k _ _ h (.inl n))
      · exact .inr ⟨u, k _ _ h (.inl n)⟩) (fun z => n (by
      rcases h with h | ⟨u, h⟩
      · exact x _ _ h z
      · exact x _ _ h z)) (Rps.fm p k x ds _ r)
  | .lst ds, _, .lstK h r => .lstK h (Rps.fm p k x ds _ r)
  | .tup ds, _, .tup h r => .tup (by
      rcases h with h | h
      · refine .inl ?_
        rcases h with h | ⟨u, h⟩
        · exact .inl (k _ _ h (.inr trivial))
        · exact .inr ⟨u, k _ _ h (.inr trivial)⟩
      · exact .inr h) (Rps.fm p k x ds _ r)
  | .dct ks vs, _, .dct h n q r => .dct (by
      rcases h with h | ⟨u, h⟩
      · exact .inl (k _ _ h (.inl n))
      · exact .inr ⟨u, k _ _ h (.inl n)⟩) (fun z => n (by
      rcases h with h | ⟨u, h⟩
      · exact x _ _ h z
      · exact x _ _ h z)) q (Rps.fm p k x vs _ r)
  | .ins c ds, _, .ins hc h n hl r => .ins hc (k _ _ h (.inl n)) (fun z => n (x _ _ h z)) hl (Rps.fm p k x ds _ r)
  | .dct ks vs, _, .dcn h n hd f t q kr r => .dcn (k _ _ h (.inl n)) (fun z => n (x _ _ h z)) hd f t q (Rps.fm p k x ks _ kr) (Rps.fm p k x vs _ r)
  | .exc c ds, _, .exc h nx hc z f hd hl r => .exc (k _ _ h (.inl nx)) (fun z => nx (x _ _ h z)) hc z f (hd.keep fun a fs q => k a _ q (.inr trivial)) hl (Rps.fm p k x ds _ r)
  | .cel n, _, .cel h => .cel (p _ _ h)
theorem Rps.fm (p : Px φ φ') (k : ∀ a o, H a = some o → (¬ X a ∨ NoMut o) → H' a = some o) (x : ∀ a o, H a = some o → X' a → X a) : ∀ (ds : List D) (vs : List V), Rps cl K φ H X vs ds → Rps cl K φ' H' X' vs ds
  | [], _, .nil => .nil
  | d :: ds, _, .cons h r => .cons (Rp.fm p k x d _ h) (Rps.fm p k x ds _ r)
end
theorem Rp.mono (e : Same H H') (x : ∀ a o, H a = some o → X' a → X a) (d : D) (v : V) (h : Rp cl K φ H X v d) : Rp cl K φ H' X' v d := Rp.fm Px.refl (fun a o h _ => e a o h) x d v h
theorem Rps.mono (e : Same H H') (x : ∀ a o, H a = some o → X' a → X a) (d : List D) (v : List V) (h : Rps cl K φ H X v d) : Rps cl K φ H' X' v d := Rps.fm Px.refl (fun a o h _ => e a o h) x d v h
theorem Rp.any (h : Rp cl K φ H X v d) : Rp cl K φ H (fun _ => False) v d := Rp.mono (Same.refl H) (fun _ _ _ z => z.elim) _ _ h
theorem Rps.any (h : Rps cl K φ H X v d) : Rps cl K φ H (fun _ => False) v d := Rps.mono (Same.refl H) (fun _ _ _ z => z.elim) _ _ h
mutual
/-- what has nothing that changes shuns all -/
theorem Rp.imm : ∀ (d : D) (v : V), imm d = true → Rp cl K φ H X v d → Rp cl K φ' H X' v d
  | .non, _, _, .non => .non
  | .bl b, _, _, .bl _ => .bl b
  | .int i, _, _, .int _ => .int i
  | .str s, _, _, .str _ h => .str s h
  | .lst ds, _, q, _ => by simp [DM.imm] at q
  | .dct _ _, _, q, _ => by simp [DM.imm] at q
  | .ins c ds, _, q, _ => by simp [DM.imm] at q
  | .exc c ds, _, q, _ => by simp [DM.imm] at q
  | .cel _, _, q, _ => by simp [DM.imm] at q
  | .tup ds, _, q, .tup h r => .tup h (Rps.imm ds _ (by simpa [DM.imm] using q) r)
theorem Rps.imm : ∀ (ds : List D) (vs : List V), imms ds = true → Rps cl K φ H X vs ds → Rps cl K φ' H X' vs ds
  | [], _, _, .nil => .nil
  | d :: ds, _, q, .cons h r => by
    have q' : DM.imm d = true ∧ imms ds = true := by simpa [imms] using q
    exact .cons (Rp.imm d _ q'.1 h) (Rps.imm ds _ q'.2 r)
end
mutual
/-- what has no cell knows no φ -/
theorem Rp.cf : ∀ (d : D) (v : V), cf d = true → Rp cl K φ H X v d → Rp cl K φ' H X v d
  | .non, _, _, .non => .non
  | .bl b, _, _, .bl _ => .bl b
  | .int i, _, _, .int _ => .int i
  | .str s, _, _, .str _ h => .str s h
  | .lst ds, _, q, .lst h n r => .lst h n (Rps.cf ds _ (by simpa [DM.cf] using q) r)
  | .lst ds, _, q, .lstK h r => .lstK h (Rps.cf ds _ (by simpa [DM.cf] using q) r)
  | .dct ks ds, _, q, .dct h n k r => .dct h n k (Rps.cf ds _ (by simp [DM.cf] at q; exact q.2) r)
  | .ins c ds, _, q, .ins hc h n hl r => .ins hc h n hl (Rps.cf ds _ (by simpa [DM.cf] using q) r)
  | .dct ks ds, _, q, .dcn h n hd f t k kr r => .dcn h n hd f t k (Rps.cf ks _ (by simp [DM.cf] at q; exact q.1) kr) (Rps.cf ds _ (by simp [DM.cf] at q; exact q.2) r)
  | .exc c ds, _, q, .exc h nx hc z f hd hl r => .exc h nx hc z f hd hl (Rps.cf ds _ (by simpa [DM.cf] using q) r)
  | .cel _, _, q, _ => by simp [DM.cf] at q
  | .tup ds, _, q, .tup h r => .tup h (Rps.cf ds _ (by simpa [DM.cf] using q) r)
theorem Rps.cf : ∀ (ds : List D) (vs : List V), cfs ds = true → Rps cl K φ H X vs ds → Rps cl K φ' H X vs ds
  | [], _, _, .nil => .nil
  | d :: ds, _, q, .cons h r => by
    have q' : DM.cf d = true ∧ cfs ds = true := by simpa [cfs] using q
    exact .cons (Rp.cf d _ q'.1 h) (Rps.cf ds _ q'.2 r)
end
theorem Rps.length : ∀ {ds : List D} {vs : List V}, Rps cl K φ H X vs ds → vs.length = ds.length
  | [], _, .nil => rfl
  | _ :: _, _, .cons _ r => by simp [Rps.length r]
theorem Rps.append : ∀ {ds es : List D} {vs ws : List V}, Rps cl K φ H X vs ds → Rps cl K φ H X ws es → Rps cl K φ H X (vs ++ ws) (ds ++ es)
  | [], _, _, _, .nil, s => s
  | _ :: _, _, _, _, .cons h r, s => .cons h (Rps.append r s)
theorem Rps.get : ∀ {ds : List D} {vs : List V} {i : Nat} {d : D}, Rps cl K φ H X vs ds → ds[i]? = some d → ∃ v, vs[i]? = some v ∧ Rp cl K φ H X v d
  | [], _, _, _, .nil, e => by simp at e
  | _ :: _, _, 0, d, .cons h _, e => by simp at e; subst e; exact ⟨_, rfl, h⟩
  | _ :: _, _, i + 1, d, .cons _ r, e => by
    obtain ⟨v, h1, h2⟩ := Rps.get (i := i) (d := d) r (by simpa using e)
    exact ⟨v, by simpa using h1, h2⟩
theorem Rps.take : ∀ {ds : List D} {vs : List V} (n : Nat), Rps cl K φ H X vs ds → Rps cl K φ H X (vs.take n) (ds.take n)
  | _, _, 0, _ => .nil
  | [], _, _ + 1, .nil => .nil
  | _ :: _, _, n + 1, .cons h r => .cons h (Rps.take n r)
theorem Rps.drop : ∀ {ds : List D} {vs : List V} (n : Nat), Rps cl K φ H X vs ds → Rps cl K φ H X (vs.drop n) (ds.drop n)
  | _, _, 0, r => r
  | [], _, _ + 1, .nil => .nil
  | _ :: _, _, n + 1, .cons _ r => Rps.drop n r
theorem Rps.set : ∀ {ds : List D} {vs : List V} {d : D} {v : V} (i : Nat), Rps cl K φ H X vs ds → Rp cl K φ H X v d → Rps cl K φ H X (vs.set i v) (ds.set i d)
  | [], _, _, _, _, .nil, _ => .nil
  | _ :: _, _, _, _, 0, .cons _ r, q => .cons q r
  | _ :: _, _, _, _, i + 1, .cons h r, q => .cons h (Rps.set i r q)
theorem Rps.reverse {ds : List D} {vs : List V} (r : Rps cl K φ H X vs ds) : Rps cl K φ H X vs.reverse ds.reverse := by
  induction ds generalizing vs with
  | nil => cases r; exact .nil
  | cons d ds ih =>
    cases r with
    | cons h r => rw [List.reverse_cons, List.reverse_cons]; exact (ih r).append (.cons h .nil)
theorem Rps.rep {ds : List D} {vs : List V} (r : Rps cl K φ H X vs ds) : ∀ k : Nat, Rps cl K φ H X (List.replicate k vs).flatten (List.replicate k ds).flatten
  | 0 => .nil
  | k + 1 => by rw [List.replicate_succ, List.flatten_cons, List.replicate_succ, List.flatten_cons]; exact r.append (Rps.rep r k)
theorem rps_ints : ∀ {vs : List V} {ns : List Int}, Rps cl K φ H X vs (ns.map D.int) → vs = ns.map V.int
  | _, [], .nil => rfl
  | _, n :: ns, .cons h r => by cases h; rw [rps_ints r]; rfl
theorem rps_bls : ∀ {vs : List V} {ns : List Bool}, Rps cl K φ H X vs (ns.map D.bl) → vs = ns.map V.bl
  | _, [], .nil => rfl
  | _, n :: ns, .cons h r => by cases h; rw [rps_bls r]; rfl
theorem rps_strs : ∀ {vs : List V} {ns : List (List Nat)}, Rps cl K φ H X vs (ns.map D.str) → vs = ns.map (fun x => V.str (mkS x))
  | _, [], .nil => rfl
  | _, n :: ns, .cons h r => by cases h; rw [rps_strs r]; rfl
end
mutual
def toP : D → PyData
  | .non => .none | .bl b => .bool b | .int i => .int i | .str x => .str (mkS x)
  | .lst xs => .list (toPs xs) | .tup xs => .tuple (toPs xs) | .ins _ _ => .none | .dct _ _ => .none | .exc _ _ => .none | .cel _ => .none
def toPs : List D → List PyData
  | [] => []
  | x :: xs => toP x :: toPs xs
end
mutual
/-- plain data within -/
def pure0 : D → Bool
  | .lst xs => pures xs | .tup xs => pures xs | .non => true | .bl _ => true | .int _ => true | .str _ => true
  | .ins _ _ => false | .dct _ _ => false | .exc _ _ => false | .cel _ => false
def pures : List D → Bool
  | [] => true
  | x :: xs => pure0 x && pures xs
end
mutual
/-- nested to at most n -/
def deep : Nat → D → Bool
  | 0, .lst _ => false | 0, .tup _ => false
  | n + 1, .lst xs => deeps n xs | n + 1, .tup xs => deeps n xs
  | _, _ => true
def deeps : Nat → List D → Bool
  | _, [] => true
  | n, x :: xs => deep n x && deeps n xs
end
mutual
/-- Python's == of data -/
def eqD : D → D → Bool
  | .non, .non => true
  | .bl a, .bl b => a == b
  | .bl a, .int j => (if a then 1 else 0) == j
  | .int i, .bl b => i == (if b then 1 else 0)
  | .int i, .int j => i == j
  | .str x, .str y => x == y
  | .lst xs, .lst ys => eqDs xs ys
  | .tup xs, .tup ys => eqDs xs ys
  | _, _ => false
def eqDs : List D → List D → Bool
  | [], [] => true
  | x :: xs, y :: ys => eqD x y && eqDs xs ys
  | _, _ => false
end
/-- the datum, or its cell's content -/
def top (μ : Mem) : D → D
  | .cel n => match μ[n]? with | some (some d) => d | _ => .cel n
  | d => d
mutual
/-- all cells' contents put in, to k cells deep -/
def resD (μ : Mem) : Nat → D → D
  | k, .lst xs => .lst (resDs μ k xs)
  | k, .tup xs => .tup (resDs μ k xs)
  | k, .dct ks vs => .dct ks (resDs μ k vs)
  | k, .ins c fs => .ins c (resDs μ k fs)
  | k, .exc c fs => .exc c (resDs μ k fs)
  | 0, .cel n => .cel n
  | k + 1, .cel n => match μ[n]? with | some (some d) => resD μ k d | _ => .cel n
  | _, .non => .non | _, .bl b => .bl b | _, .int i => .int i | _, .str x => .str x
termination_by k d => (k, sizeOf d)
def resDs (μ : Mem) : Nat → List D → List D
  | _, [] => []
  | k, x :: xs => resD μ k x :: resDs μ k xs
termination_by k ds => (k, sizeOf ds)
end
def res (μ : Mem) (d : D) : D := resD μ 8 d
mutual
theorem resD_cf (μ : Mem) : ∀ (d : D) (k : Nat), cf d = true → resD μ k d = d
  | .non, k, _ => by simp [resD] | .bl _, k, _ => by simp [resD] | .int _, k, _ => by simp [resD] | .str _, k, _ => by simp [resD]
  | .lst xs, k, h => by simp only [resD]; rw [resDs_cf μ xs k (by simpa [cf] using h)]
  | .tup xs, k, h => by simp only [resD]; rw [resDs_cf μ xs k (by simpa [cf] using h)]
  | .dct ks xs, k, h => by simp only [resD]; rw [resDs_cf μ xs k (by simp [cf] at h; exact h.2)]
  | .ins c xs, k, h => by simp only [resD]; rw [resDs_cf μ xs k (by simpa [cf] using h)]
  | .exc c xs, k, h => by simp only [resD]; rw [resDs_cf μ xs k (by simpa [cf] using h)]
  | .cel _, k, h => by simp [cf] at h
theorem resDs_cf (μ : Mem) : ∀ (ds : List D) (k : Nat), cfs ds = true → resDs μ k ds = ds
  | [], k, _ => by simp [resDs]
  | x :: xs, k, h => by
    have h' : cf x = true ∧ cfs xs = true := by simpa [cfs] using h
    simp only [resDs]; rw [resD_cf μ x k h'.1, resDs_cf μ xs k h'.2]
end
theorem res_cf {μ : Mem} {d : D} (h : cf d = true) : res μ d = d := resD_cf μ d 8 h
end DM
set_option Elab.async false
set_option linter.all false
set_option maxRecDepth 100000
set_option maxHeartbeats 4000000
namespace DM
open PySem L2 PySem.Spec PyProof.Rows
/-- a cell in a list given up -/
def frz (μ : Mem) (d : D) : D := match d with | .cel m => (match μ[m]? with | some (some e) => if cf e = true then e else .cel m | _ => .cel m) | d => d
def drp (μ : Mem) (d : D) : Mem := match d with | .cel m => (match μ[m]? with | some (some e) => if cf e = true then μ.set m none else μ | _ => μ) | _ => μ
def fzs : List D → Mem → List D × Mem
  | [], μ => ([], μ)
  | d :: ds, μ => (frz μ d :: (fzs ds (drp μ d)).1, (fzs ds (drp μ d)).2)
/-- a list's cells given up too -/
def dpz (d : D) (μ : Mem) : D × Mem := match d with | .lst ds => (.lst (fzs ds μ).1, (fzs ds μ).2) | d => (d, μ)
structure Gc where
  cl : Cls0
  K : PySem.W.Frag
  /-- others' things that may change -/
  X : Addr → Prop
  /-- the exception that is handled -/
  hot : Option Addr
/-- a tracked exception of which the context is None -/
def HotT (H : Hp) (a : Addr) : Prop := ∃ (oe : Obj) (vs : Array Value), H a = some (isAt a oe) ∧ oe.data = .fields vs ∧ vs[2]? = some .none
/-- where live cells stand -/
def Lv (φ : List Addr) (μ : Mem) (a : Addr) : Prop := ∃ (n : Nat) (d : D), μ[n]? = some (some d) ∧ φ[n]? = some a
def Gc.N (G : Gc) (φ : List Addr) (μ : Mem) (a : Addr) : Prop := Lv φ μ a ∨ G.X a
abbrev Gc.rp (G : Gc) (φ : List Addr) (μ : Mem) (H : Hp) (v : V) (d : D) : Prop := Rp G.cl G.K φ H (G.N φ μ) v d
abbrev Gc.rps (G : Gc) (φ : List Addr) (μ : Mem) (H : Hp) (vs : List V) (ds : List D) : Prop := Rps G.cl G.K φ H (G.N φ μ) vs ds
/-- a dict known by its object -/
def CnD (cl : Cls0) (K : PySem.W.Frag) (φ : List Addr) (H : Hp) (X : Addr → Prop) (a : Addr) (ks ds : List D) : Prop :=
  ∃ (o : Obj) (xs : List Ent), H a = some (isAt a o) ∧ (a == sysModules) = false ∧ DicF cl.hs o xs ∧ tkB ks = true ∧ kNs ks = some (xs.map (·.1)) ∧ Rps cl K φ H X (xs.map (·.2.1)) ks ∧ Rps cl K φ H X (xs.map (·.2.2)) ds
theorem CnD.fm {cl : Cls0} {K : PySem.W.Frag} {φ φ' : List Addr} {H H' : Hp} {X X' : Addr → Prop} {a : Addr} {ks ds : List D} (c : CnD cl K φ H X a ks ds) (h0 : ∀ o, H a = some o → H' a = some o) (h1 : ∀ vs es, Rps cl K φ H X vs es → Rps cl K φ' H' X' vs es) : CnD cl K φ' H' X' a ks ds := by
  obtain ⟨o, xs, c1, c2, c3, ct, c4, c5, c6⟩ := c
  exact ⟨o, xs, h0 _ c1, c2, c3, ct, c4, h1 _ _ c5, h1 _ _ c6⟩
theorem CnD.rp {cl : Cls0} {K : PySem.W.Frag} {φ : List Addr} {H : Hp} {X : Addr → Prop} {a : Addr} {ks ds : List D} (c : CnD cl K φ H X a ks ds) (n : ¬ X a) : Rp cl K φ H X (.ref a) (.dct ks ds) := by
  obtain ⟨o, xs, c1, c2, c3, ct, c4, c5, c6⟩ := c
  exact .dcn c1 n c2 c3 ct c4 c5 c6
/-- a live cell's content -/
def Cn (cl : Cls0) (K : PySem.W.Frag) (φ : List Addr) (H : Hp) (X : Addr → Prop) (a : Addr) (d : D) : Prop :=
  match d with
  | .lst ds => ∃ vs, H a = some (.lst vs) ∧ Rps cl K φ H X vs ds
  | .dct ks ds => (∃ o ws, H a = some o ∧ DC o ks ws ∧ Rps cl K φ H X ws ds) ∨ CnD cl K φ H X a ks ds
  | .ins c ds => ∃ C dx ns vs, cl c = some (C, ns) ∧ vs.length ≤ ns.length ∧ H a = some (.ins C dx ((ns.take vs.length).zip vs)) ∧ Rps cl K φ H X vs ds
  | _ => False
structure Ms (G : Gc) (φ : List Addr) (μ : Mem) (H : Hp) : Prop where
  len : φ.length = μ.length
  live : ∀ (n : Nat) (d : D) (a : Addr), μ[n]? = some (some d) → φ[n]? = some a → Cn G.cl G.K φ H (G.N φ μ) a d
  inj : ∀ (n m : Nat) (d e : D) (a : Addr), μ[n]? = some (some d) → μ[m]? = some (some e) → φ[n]? = some a → φ[m]? = some a → n = m
  xs : ∀ a, G.X a → H a ≠ none
  nx : ∀ a, Lv φ μ a → ¬ G.X a
theorem Ms.re {G : Gc} {φ : List Addr} {μ : Mem} {H : Hp} (h : Option Addr) (m : Ms G φ μ H) : Ms ⟨G.cl, G.K, G.X, h⟩ φ μ H := ⟨m.len, m.live, m.inj, m.xs, m.nx⟩
theorem Ms.unre {G : Gc} {φ : List Addr} {μ : Mem} {H : Hp} {h : Option Addr} (m : Ms ⟨G.cl, G.K, G.X, h⟩ φ μ H) : Ms G φ μ H := ⟨m.len, m.live, m.inj, m.xs, m.nx⟩
/-- from one state to a later one -/
structure Ex (φ : List Addr) (μ : Mem) (H : Hp) (φ' : List Addr) (μ' : Mem) (H' : Hp) : Prop where
  px : Px φ φ'
  keep : ∀ a o, H a = some o → ¬ Lv φ μ a → H' a = some o
  lv : ∀ a, Lv φ' μ' a → Lv φ μ a ∨ H a = none
  there : ∀ a, H a ≠ none → H' a ≠ none
section
variable {cl : Cls0} {K : PySem.W.Frag} {G : Gc} {φ φ' φ'' : List Addr} {μ μ' μ'' : Mem} {H H' H'' : Hp} {a p : Addr} {v : V} {vs : List V} {d : D} {ds : List D} {X X' : Addr → Prop}
theorem Ex.trans (e : Ex φ μ H φ' μ' H') (f : Ex φ' μ' H' φ'' μ'' H'') : Ex φ μ H φ'' μ'' H'' where
  px := e.px.trans f.px
  keep := fun a o h n => f.keep a o (e.keep a o h n) fun z => by
    rcases e.lv a z with z | z
    · exact n z
    · rw [h] at z; cases z
  lv := fun a z => by
    rcases f.lv a z with z | z
    · exact e.lv a z
    · by_cases q : H a = none
      · exact .inr q
      · exact absurd z (e.there a q)
  there := fun a h => f.there a (e.there a h)
theorem Ex.same (e : Same H H') : Ex φ μ H φ μ H' := ⟨Px.refl, fun a o h _ => e a o h, fun _ h => .inl h, fun a h => by
  cases q : H a with
  | none => exact absurd q h
  | some o => rw [e a o q]; exact fun z => by cases z⟩
theorem Ex.refl : Ex φ μ H φ μ H := Ex.same (Same.refl H)
theorem same_upd {o : HO} (h : H p = none) : Same H (upd H p o) := fun b u e => by rw [upd_ne (ne_of_none e h)]; exact e
theorem Cn.mut (h : Cn cl K φ H X a d) : ∃ o, H a = some o ∧ ¬ NoMut o := by
  cases d with
  | lst ds => obtain ⟨vs, h, _⟩ := h; exact ⟨_, h, fun z => z⟩
  | dct ks ds =>
    rcases h with ⟨o, ws, h, ⟨kvs, rfl, _⟩, _⟩ | ⟨o, xs, h, _⟩
    · exact ⟨_, h, fun z => z⟩
    · exact ⟨_, h, fun z => z⟩
  | ins c ds => obtain ⟨C, dx, ns, vs, _, _, h, _⟩ := h; exact ⟨_, h, fun z => z⟩
  | _ => exact h.elim
theorem Ms.lvmut (m : Ms G φ μ H) (h : Lv φ μ a) : ∃ o, H a = some o ∧ ¬ NoMut o := by
  obtain ⟨n, d, h1, h2⟩ := h
  exact (m.live n d a h1 h2).mut
theorem Ms.nlv (m : Ms G φ μ H) {o : HO} (h : H a = some o) (q : ¬ G.N φ μ a ∨ NoMut o) : ¬ Lv φ μ a := by
  rcases q with q | q
  · exact fun z => q (.inl z)
  · intro z
    obtain ⟨u, h2, n⟩ := m.lvmut z
    rw [h] at h2; cases h2; exact n q
theorem Ex.nx (e : Ex φ μ H φ' μ' H') {o : HO} (h : H a = some o) (z : G.N φ' μ' a) : G.N φ μ a := by
  rcases z with z | z
  · rcases e.lv a z with z | z
    · exact .inl z
    · rw [h] at z; cases z
  · exact .inr z
/-- THE FRAME for the states -/
theorem Rp.ex (m : Ms G φ μ H) (e : Ex φ μ H φ' μ' H') (h : G.rp φ μ H v d) : G.rp φ' μ' H' v d :=
  Rp.fm e.px (fun a o h n => e.keep a o h (m.nlv h n)) (fun a o h z => e.nx h z) _ _ h
theorem Rps.ex (m : Ms G φ μ H) (e : Ex φ μ H φ' μ' H') (h : G.rps φ μ H vs ds) : G.rps φ' μ' H' vs ds :=
  Rps.fm e.px (fun a o h n => e.keep a o h (m.nlv h n)) (fun a o h z => e.nx h z) _ _ h
theorem Cn.same (e : Same H H') (x : ∀ a o, H a = some o → X' a → X a) (h : Cn cl K φ H X a d) : Cn cl K φ H' X' a d := by
  cases d with
  | lst ds => obtain ⟨vs, h, r⟩ := h; exact ⟨vs, e _ _ h, Rps.mono e x _ _ r⟩
  | dct ks ds =>
    rcases h with ⟨o, ws, h, k, r⟩ | h
    · exact .inl ⟨o, ws, e _ _ h, k, Rps.mono e x _ _ r⟩
    · exact .inr (h.fm (fun _ q => e _ _ q) fun vs es r => Rps.mono e x _ _ r)
  | ins c ds => obtain ⟨C, dx, ns, vs, h1, h2, h3, r⟩ := h; exact ⟨C, dx, ns, vs, h1, h2, e _ _ h3, Rps.mono e x _ _ r⟩
  | _ => exact h.elim
theorem Ms.same (m : Ms G φ μ H) (e : Same H H') : Ms G φ μ H' := ⟨m.len, fun n d a h1 h2 => (m.live n d a h1 h2).same e fun _ _ _ z => z, m.inj, fun a h => (Ex.same (φ := φ) (μ := μ) e).there a (m.xs a h), m.nx⟩
/-- a fresh list, dict, instance: nobody else knows it -/
def TF (G : Gc) (H : Hp) (φ' : List Addr) (μ' : Mem) (H' : Hp) (v : V) (d : D) : Prop :=
  (match d with | .lst _ => True | .dct _ _ => True | .ins _ _ => True | _ => False) → ∃ a, v = .ref a ∧ H a = none ∧ ¬ G.N φ' μ' a ∧ Cn G.cl G.K φ' H' (fun b => G.N φ' μ' b ∨ b = a) a d ∧
    ∀ (n : Nat) (e : D) (b : Addr), μ'[n]? = some (some e) → φ'[n]? = some b → Cn G.cl G.K φ' H' (fun b => G.N φ' μ' b ∨ b = a) b e
theorem TF.back (t : TF G H' φ'' μ'' H'' v d) (e : Ex φ μ H φ' μ' H') : TF G H φ'' μ'' H'' v d := fun z => by
  obtain ⟨a, h1, h2, h3⟩ := t z
  refine ⟨a, h1, ?_, h3⟩
  by_cases q : H a = none
  · exact q
  · exact absurd h2 (e.there a q)
/-- what a value's taker must be ready for -/
def QQ (G : Gc) (φ : List Addr) (μ : Mem) (H : Hp) (μ' : Mem) (fr : Bool) (d : D) (Q : VK) : Prop := ∀ v H' φ', Ex φ μ H φ' μ' H' → Ms G φ' μ' H' → G.rp φ' μ' H' v d → (fr = true → TF G H φ' μ' H' v d) → Q v H'
variable {fr : Bool} {Q : VK}
theorem QQ.back (q : QQ G φ μ H μ'' fr d Q) (e : Ex φ μ H φ' μ' H') : QQ G φ' μ' H' μ'' fr d Q := fun v H2 φ2 e2 m r t => q v H2 φ2 (e.trans e2) m r fun z => (t z).back e
theorem tf_imm (i : imm d = true) : TF G H φ' μ' H' v d := fun z => by cases d <;> first | exact z.elim | cases i
theorem qq_at (m : Ms G φ μ H) (r : G.rp φ μ H v d) (q : QQ G φ μ H μ fr d Q) (t : fr = true → TF G H φ μ H v d) : Q v H := q v H φ Ex.refl m r t
theorem qq_imm (m : Ms G φ μ H) (i : imm d = true) {X : Addr → Prop} (q : QQ G φ μ H μ fr d Q) (h : Rp G.cl G.K φ H X v d) : Q v H := q v H φ Ex.refl m (Rp.imm _ _ i h) (fun _ => tf_imm i)
theorem qq_bl (m : Ms G φ μ H) {b : Bool} (q : QQ G φ μ H μ fr (.bl b) Q) : Q (.bl b) H := qq_imm m rfl q (X := fun _ => False) (.bl b)
theorem qq_int (m : Ms G φ μ H) {b : Int} (q : QQ G φ μ H μ fr (.int b) Q) : Q (.int b) H := qq_imm m rfl q (X := fun _ => False) (.int b)
theorem qq_str (m : Ms G φ μ H) {x : List Nat} (h : okS x = true) (q : QQ G φ μ H μ fr (.str x) Q) : Q (.str (mkS x)) H := qq_imm m rfl q (X := fun _ => False) (.str x h)
theorem Ms.fresh (m : Ms G φ μ H) (hp : H p = none) : ¬ G.N φ μ p := fun z => by
  rcases z with z | z
  · obtain ⟨o, h, _⟩ := m.lvmut z
    rw [hp] at h; cases h
  · exact m.xs p z hp
theorem new_any (m : Ms G φ μ H) {o : HO} (hp : H p = none) (i : match d with | .lst _ => True | .dct _ _ => True | .ins _ _ => True | _ => False)
    (r : G.rp φ μ (upd H p o) (.ref p) d) (c : Cn G.cl G.K φ (upd H p o) (fun b => G.N φ μ b ∨ b = p) p d) (q : QQ G φ μ H μ fr d Q) : Q (.ref p) (upd H p o) :=
  q _ _ φ (Ex.same (same_upd hp)) (m.same (same_upd hp)) r fun _ _ => ⟨p, rfl, hp, m.fresh hp, c, fun n e b h1 h2 => (m.live n e b h1 h2).same (same_upd hp) fun a u ha z => by
    rcases z with z | z
    · exact z
    · rw [z, hp] at ha; cases ha⟩
theorem rps_new (m : Ms G φ μ H) {o : HO} (hp : H p = none) (r : G.rps φ μ H vs ds) : Rps G.cl G.K φ (upd H p o) (fun b => G.N φ μ b ∨ b = p) vs ds :=
  Rps.mono (same_upd hp) (fun a u ha z => by
    rcases z with z | z
    · exact z
    · rw [z, hp] at ha; cases ha) _ _ r
theorem new_list (m : Ms G φ μ H) (r : G.rps φ μ H vs ds) (q : QQ G φ μ H μ fr (.lst ds) Q) : ∀ p, H p = none → Q (.ref p) (upd H p (.lst vs)) := fun p hp =>
  new_any m hp trivial (.lst (.inl upd_same) (m.fresh hp) (Rps.mono (same_upd hp) (fun _ _ _ z => z) _ _ r)) ⟨vs, upd_same, rps_new m hp r⟩ q
theorem new_dct (m : Ms G φ μ H) {kvs : List (Key × V)} {ks ds : List D} {ws : List V} (hk : DC (.dK kvs) ks ws) (r : G.rps φ μ H ws ds) (q : QQ G φ μ H μ fr (.dct ks ds) Q) : ∀ p, H p = none → Q (.ref p) (upd H p (.dK kvs)) := fun p hp =>
  new_any m hp trivial (.dct (.inl upd_same) (m.fresh hp) hk (Rps.mono (same_upd hp) (fun _ _ _ z => z) _ _ r)) (.inl ⟨.dK kvs, ws, upd_same, hk, rps_new m hp r⟩) q
theorem new_tup (m : Ms G φ μ H) (r : G.rps φ μ H vs ds) (q : QQ G φ μ H μ fr (.tup ds) Q) : ∀ p, H p = none → Q (.ref p) (upd H p (.tup vs)) := fun p hp =>
  q _ _ φ (Ex.same (same_upd hp)) (m.same (same_upd hp)) (.tup (.inl (.inl upd_same)) (Rps.mono (same_upd hp) (fun _ _ _ z => z) _ _ r)) fun _ z => z.elim
theorem top_lst (m : Ms G φ μ H) (h : G.rp φ μ H v d) (e : top μ d = .lst ds) : ∃ a vs, v = .ref a ∧ SL G.K H a vs ∧ G.rps φ μ H vs ds := by
  cases h with
  | lst h n r => cases e; exact ⟨_, _, rfl, .inl h, r⟩
  | lstK h r => cases e; exact ⟨_, _, rfl, .inr h, r⟩
  | cel h =>
    simp only [top] at e
    split at e
    · rename_i q
      subst e
      obtain ⟨vs, h2, r⟩ := m.live _ _ _ q h
      exact ⟨_, vs, rfl, .inl (.inl h2), r⟩
    · cases e
  | _ => cases e
theorem top_dct (m : Ms G φ μ H) {ks : List D} (h : G.rp φ μ H v d) (e : top μ d = .dct ks ds) : ∃ a, v = .ref a ∧ ((∃ o ws, Rd H a o ∧ DC o ks ws ∧ G.rps φ μ H ws ds) ∨ CnD G.cl G.K φ H (G.N φ μ) a ks ds) := by
  cases h with
  | dct h n k r => cases e; exact ⟨_, rfl, .inl ⟨_, _, h, k, r⟩⟩
  | dcn h n hd f t k kr r => cases e; exact ⟨_, rfl, .inr ⟨_, _, h, hd, f, t, k, kr, r⟩⟩
  | cel h =>
    simp only [top] at e
    split at e
    · rename_i q
      subst e
      rcases m.live _ _ _ q h with ⟨o, ws, h2, k, r⟩ | c
      · exact ⟨_, rfl, .inl ⟨o, ws, .inl h2, k, r⟩⟩
      · exact ⟨_, rfl, .inr c⟩
    · cases e
  | _ => cases e
theorem top_ins (m : Ms G φ μ H) {c : Nat} (h : G.rp φ μ H v d) (e : top μ d = .ins c ds) : ∃ a C dx ns vs, v = .ref a ∧ G.cl c = some (C, ns) ∧ vs.length ≤ ns.length ∧ H a = some (.ins C dx ((ns.take vs.length).zip vs)) ∧ G.rps φ μ H vs ds := by
  cases h with
  | ins hc h n hl r =>
    cases e
    exact ⟨_, _, _, _, _, rfl, hc, hl, h, r⟩
  | cel h =>
    simp only [top] at e
    split at e
    · rename_i q
      subst e
      obtain ⟨C, dx, ns, vs, h1, h2, h3, r⟩ := m.live _ _ _ q h
      exact ⟨_, C, dx, ns, vs, rfl, h1, h2, h3, r⟩
    · cases e
  | _ => cases e
theorem Ms.notP (m : Ms G φ μ H) {n : Nat} (h : φ[n]? = some a) (q : μ[n]? = some (some d)) : (∃ ds, d = .lst ds) ∨ (∃ ks ds, d = .dct ks ds) ∨ ∃ c ds, d = .ins c ds := by
  have := m.live _ _ _ q h
  cases d <;> first | exact .inl ⟨_, rfl⟩ | exact .inr (.inl ⟨_, _, rfl⟩) | exact .inr (.inr ⟨_, _, rfl⟩) | exact this.elim
theorem top_tup (m : Ms G φ μ H) (h : G.rp φ μ H v d) (e : top μ d = .tup ds) : ∃ a vs, v = .ref a ∧ SqT G.K H a vs ∧ G.rps φ μ H vs ds := by
  cases h with
  | tup h r => cases e; exact ⟨_, _, rfl, h, r⟩
  | cel h =>
    simp only [top] at e
    split at e
    · rename_i q
      subst e
      rcases m.notP h q with ⟨_, z⟩ | ⟨_, _, z⟩ | ⟨_, _, z⟩ <;> cases z
    · cases e
  | _ => cases e
theorem top_imm (m : Ms G φ μ H) (h : G.rp φ μ H v d) {e : D} (q : top μ d = e) (i : match e with | .non => True | .bl _ => True | .int _ => True | .str _ => True | _ => False) : G.rp φ μ H v e := by
  cases h with
  | cel h =>
    simp only [top] at q
    split at q
    · rename_i k
      subst q
      rcases m.notP h k with ⟨_, z⟩ | ⟨_, _, z⟩ | ⟨_, _, z⟩ <;> subst z <;> exact i.elim
    · subst q; exact i.elim
  | lst => subst q; exact i.elim
  | lstK => subst q; exact i.elim
  | tup => subst q; exact i.elim
  | dct => subst q; exact i.elim
  | dcn => subst q; exact i.elim
  | ins => subst q; exact i.elim
  | exc => subst q; exact i.elim
  | non => subst q; exact .non
  | bl b => subst q; exact .bl b
  | int b => subst q; exact .int b
  | str b h => subst q; exact .str b h
theorem top_int (m : Ms G φ μ H) {i : Int} (h : G.rp φ μ H v d) (e : top μ d = .int i) : v = .int i := by
  have := top_imm m h e trivial; cases this; rfl
theorem top_bl (m : Ms G φ μ H) {i : Bool} (h : G.rp φ μ H v d) (e : top μ d = .bl i) : v = .bl i := by
  have := top_imm m h e trivial; cases this; rfl
theorem top_non (m : Ms G φ μ H) (h : G.rp φ μ H v d) (e : top μ d = .non) : v = .non := by
  have := top_imm m h e trivial; cases this; rfl
theorem top_str (m : Ms G φ μ H) {x : List Nat} (h : G.rp φ μ H v d) (e : top μ d = .str x) : v = .str (mkS x) ∧ okS x = true := by
  have := top_imm m h e trivial
  cases this with
  | str _ k => exact ⟨rfl, k⟩
theorem top_exc (m : Ms G φ μ H) {c : Nat} (h : G.rp φ μ H v d) (e : top μ d = .exc c ds) : ∃ a oe C ns dd vs, v = .ref a ∧ H a = some (isAt a oe) ∧ G.cl.x c = some (C, ns) ∧ Zc (.ref C) dd oe ∧ (∃ vs, oe.data = .fields vs) ∧ Xd H ns dd vs ∧ ns.length = vs.length ∧ G.rps φ μ H vs ds := by
  cases h with
  | exc h nx hc z f hd hl r => cases e; exact ⟨_, _, _, _, _, _, rfl, h, hc, z, f, hd, hl, r⟩
  | cel h =>
    simp only [top] at e
    split at e
    · rename_i q
      subst e
      rcases m.notP h q with ⟨_, z⟩ | ⟨_, _, z⟩ | ⟨_, _, z⟩ <;> cases z
    · cases e
  | _ => cases e
/-- read to the ground -/
abbrev Rq (G : Gc) (φ : List Addr) (H : Hp) (v : V) (d : D) : Prop := Rp G.cl G.K φ H (fun _ => False) v d
theorem Cn.rq {dd : D} (c : Cn cl K φ H X a dd) : Rp cl K φ H (fun _ => False) (.ref a) dd := by
  cases dd with
  | lst ds => obtain ⟨vs, h1, r⟩ := c; exact .lst (.inl h1) (fun z => z) r.any
  | dct ks ds =>
    rcases c with ⟨o, ws, h1, q, r⟩ | ⟨o, xs, h1, hd, f, t, q, kr, r⟩
    · exact .dct (.inl h1) (fun z => z) q r.any
    · exact .dcn h1 (fun z => z) hd f t q kr.any r.any
  | ins c' ds => obtain ⟨C, dx, ns, vs, h1, h2, h3, r⟩ := c; exact .ins h1 h3 (fun z => z) h2 r.any
  | _ => exact c.elim
mutual
theorem res_rq (m : Ms G φ μ H) : ∀ (k : Nat) (d : D) (v : V), Rq G φ H v d → Rq G φ H v (resD μ k d)
  | k, .non, _, .non => by simp only [resD]; exact .non
  | k, .bl b, _, .bl _ => by simp only [resD]; exact .bl b
  | k, .int b, _, .int _ => by simp only [resD]; exact .int b
  | k, .str x, _, .str _ h => by simp only [resD]; exact .str x h
  | k, .lst xs, _, .lst h n r => by simp only [resD]; exact .lst h n (res_rqs m k xs _ r)
  | k, .lst xs, _, .lstK h r => by simp only [resD]; exact .lstK h (res_rqs m k xs _ r)
  | k, .tup xs, _, .tup h r => by simp only [resD]; exact .tup h (res_rqs m k xs _ r)
  | k, .dct ks xs, _, .dct h n q r => by simp only [resD]; exact .dct h n q (res_rqs m k xs _ r)
  | k, .ins c xs, _, .ins hc h n hl r => by simp only [resD]; exact .ins hc h n hl (res_rqs m k xs _ r)
  | k, .dct ks xs, _, .dcn h n hd f t q kr r => by simp only [resD]; exact .dcn h n hd f t q kr (res_rqs m k xs _ r)
  | k, .exc c xs, _, .exc h nx hc z f hd hl r => by simp only [resD]; exact .exc h nx hc z f hd hl (res_rqs m k xs _ r)
  | 0, .cel n, _, .cel h => by simp only [resD]; exact .cel h
  | k + 1, .cel n, _, .cel h => by
    simp only [resD]
    split
    · rename_i q
      exact res_rq m k _ _ (m.live _ _ _ q h).rq
    · exact .cel h
termination_by k d => (k, sizeOf d)
theorem res_rqs (m : Ms G φ μ H) : ∀ (k : Nat) (ds : List D) (vs : List V), Rps G.cl G.K φ H (fun _ => False) vs ds → Rps G.cl G.K φ H (fun _ => False) vs (resDs μ k ds)
  | k, [], _, .nil => by simp only [resDs]; exact .nil
  | k, x :: xs, _, .cons h r => by simp only [resDs]; exact .cons (res_rq m k x _ h) (res_rqs m k xs _ r)
termination_by k ds => (k, sizeOf ds)
end
theorem res_ok (m : Ms G φ μ H) (h : G.rp φ μ H v d) : Rq G φ H v (res μ d) := res_rq m 8 d v h.any
end
end DM
set_option Elab.async false
set_option linter.all false
set_option maxRecDepth 100000
set_option maxHeartbeats 4000000
namespace DM
open PySem L2 PySem.Spec PyProof.Rows
mutual
/-- the value v is the key k -/
inductive KIs (K : PySem.W.Frag) (H : Hp) : NestedKey → V → Prop
  | none : KIs K H .none .non
  | bl (b : Bool) : KIs K H (.num (if b = true then 1 else 0)) (.bl b)
  | int (i : Int) : KIs K H (.num i) (.int i)
  | str (x : Str) : KIs K H (.text x) (.str x)
  | tup {a : Addr} {vs : List V} {ks : List NestedKey} (h : SqT K H a vs) (r : KIz K H ks vs) : KIs K H (.tup ks) (.ref a)
inductive KIz (K : PySem.W.Frag) (H : Hp) : List NestedKey → List V → Prop
  | nil : KIz K H [] []
  | cons {k : NestedKey} {v : V} {ks : List NestedKey} {vs : List V} (h : KIs K H k v) (r : KIz K H ks vs) : KIz K H (k :: ks) (v :: vs)
end
mutual
theorem rp_kis {cl : Cls0} {K : PySem.W.Frag} {φ : List Addr} {H : Hp} {X : Addr → Prop} : ∀ (d : D) (v : V) (k : NestedKey), kN d = some k → Rp cl K φ H X v d → KIs K H k v
  | .non, _, _, e, .non => by cases e; exact .none
  | .bl b, _, _, e, .bl _ => by cases e; exact .bl b
  | .int i, _, _, e, .int _ => by cases e; exact .int i
  | .str x, _, _, e, .str _ h => by cases e; exact .str _
  | .tup xs, _, k, e, .tup h r => by
    rw [kN] at e
    cases e2 : kNs xs with
    | none => rw [e2] at e; cases e
    | some ks => rw [e2] at e; cases e; exact .tup h (rps_kiz xs _ ks e2 r)
  | .lst _, _, _, e, _ => by cases e
  | .dct _ _, _, _, e, _ => by cases e
  | .ins _ _, _, _, e, _ => by cases e
  | .exc _ _, _, _, e, _ => by cases e
  | .cel _, _, _, e, _ => by cases e
theorem rps_kiz {cl : Cls0} {K : PySem.W.Frag} {φ : List Addr} {H : Hp} {X : Addr → Prop} : ∀ (ds : List D) (vs : List V) (ks : List NestedKey), kNs ds = some ks → Rps cl K φ H X vs ds → KIz K H ks vs
  | [], _, _, e, .nil => by cases e; exact .nil
  | d :: ds, _, ks, e, .cons h r => by
    rw [kNs] at e
    cases e1 : kN d with
    | none => rw [e1] at e; cases e
    | some k =>
      cases e2 : kNs ds with
      | none => rw [e1, e2] at e; cases e
      | some ks' => rw [e1, e2] at e; cases e; exact .cons (rp_kis d _ k e1 h) (rps_kiz ds _ ks' e2 r)
end
section
variable {P : Program} {w : World} {K : PySem.W.Frag} {H : Hp} {h : Heap}
mutual
theorem kis_ok (ok : HOk P w H h) (kin : K.In h) : ∀ (k : NestedKey) (v : V) (u : Value), KIs K H k v → RelV v u → NestedIs h k u
  | .none, _, u, .none, r => by cases r; exact .none
  | .num _, _, u, .bl b, r => by cases r; exact .bool rfl
  | .num _, _, u, .int i, r => by obtain ⟨t, rfl⟩ := r; exact .int i t
  | .text _, _, u, .str x, r => by obtain ⟨t, rfl⟩ := r; exact .text x t
  | .tup ks, _, u, .tup hq q, r => by
    cases r
    rcases hq with hq | ⟨o, its, n, hk, hc, hd, hz, r⟩
    · obtain ⟨z, its, r, o, e1, e2, n, e3⟩ := (show ObjOk P w H h _ (.tup _) from hq.ok ok)
      exact .tup e1 e2 e3 (kiz_ok ok kin ks _ _ q (by simpa using r))
    · exact .tup (kin _ _ hk) hc hd (kiz_ok ok kin ks _ _ q r)
theorem kiz_ok (ok : HOk P w H h) (kin : K.In h) : ∀ (ks : List NestedKey) (vs : List V) (us : List Value), KIz K H ks vs → Vals vs us → NestedAll h ks us
  | [], _, us, .nil, r => by cases r; exact .nil
  | k :: ks, _, us, .cons h1 h2, r => by
    cases r with
    | cons r1 r2 => exact .cons (kis_ok ok kin k _ _ h1 r1) (kiz_ok ok kin ks _ _ h2 r2)
end
end
/-- where a tuple stands -/
theorem KIs.ref {K : PySem.W.Frag} {H : Hp} {ks : List NestedKey} {v : V} (h : KIs K H (.tup ks) v) : ∃ b, v = .ref b := by
  cases h with | tup _ _ => exact ⟨_, rfl⟩
def tupN : NestedKey → Bool | .tup ks => decide ((NestedKey.tup ks).depth ≤ 8) | _ => false
/-- what an entry is in the heap -/
def KeyE (K : PySem.W.Frag) (H : Hp) (x : Ent) : Prop := tupN x.1 = true ∧ KIs K H x.1 x.2.1
def valX (xs : List Ent) (k : NestedKey) : Option V := (xs.find? fun x => decide (x.1 = k)).map (·.2.2)
def putX (xs : List Ent) (k : NestedKey) (kv v : V) : List Ent := if (valX xs k).isSome then xs.map (fun x => if x.1 = k then (x.1, x.2.1, v) else x) else xs ++ [(k, kv, v)]
/-- entries as the heap has them -/
abbrev HR : List Ent → List (NestedKey × Addr × Value) → Prop := Paired fun x y => x.1 = y.1 ∧ x.2.1 = .ref y.2.1 ∧ RelV x.2.2 y.2.2
theorem HR.val {xs : List Ent} {ys : List (NestedKey × Addr × Value)} (r : HR xs ys) (k : NestedKey) : RelO (valX xs k) ((atKey ys k).map (·.2)) := by
  induction r with
  | nil => exact True.intro
  | @cons p q ps qs h t ih =>
    obtain ⟨h1, _, h2⟩ := h
    by_cases e : p.1 = k
    · have e' : q.1 = k := h1.symm.trans e
      have b : atKey (q :: qs) k = some q.2 := by simp [atKey, List.find?_cons, e']
      have b2 : valX (p :: ps) k = some p.2.2 := by simp [valX, List.find?_cons, e]
      rw [b2, b]; exact h2
    · have e' : ¬ q.1 = k := fun z => e (h1.trans z)
      have b : atKey (q :: qs) k = atKey qs k := by simp [atKey, List.find?_cons, e']
      have b2 : valX (p :: ps) k = valX ps k := by simp [valX, List.find?_cons, e]
      rw [b2, b]; exact ih
theorem HR.put {xs : List Ent} {ys : List (NestedKey × Addr × Value)} (r : HR xs ys) (k : NestedKey) {b : Addr} {v : V} {u : Value} (rv : RelV v u) : HR (putX xs k (.ref b) v) (storedH ys k b u) := by
  have e : (valX xs k).isSome = (atKey ys k).isSome := by rw [(r.val k).isSome_eq, Option.isSome_map]
  unfold putX storedH
  rw [e]
  by_cases q : (atKey ys k).isSome = true
  · rw [if_pos q, if_pos q]
    clear e q
    induction r with
    | nil => exact .nil
    | @cons p y ps qs h t ih =>
      rw [List.map_cons, List.map_cons]
      refine .cons ?_ ih
      obtain ⟨h1, h2, h3⟩ := h
      unfold putAt
      by_cases e : p.1 = k
      · rw [if_pos e, if_pos (h1.symm.trans e)]; exact ⟨h1, h2, rv⟩
      · rw [if_neg e, if_neg (fun z => e (h1.trans z))]; exact ⟨h1, h2, h3⟩
  · rw [if_neg q, if_neg q]; exact Paired.snoc r ⟨rfl, rfl, rv⟩
theorem putX_len (xs : List Ent) (k : NestedKey) (kv v : V) : (putX xs k kv v).length ≤ xs.length + 1 := by
  unfold putX
  split
  · rw [List.length_map]; omega
  · rw [List.length_append]; simp
theorem HR.keys {xs : List Ent} {ys : List (NestedKey × Addr × Value)} (r : HR xs ys) : xs.map (·.1) = ys.map (·.1) := by
  induction r with
  | nil => rfl
  | cons h _ ih => rw [List.map_cons, List.map_cons, h.1, ih]
section
variable {P : Program} {w : World} {K : PySem.W.Frag} {H : Hp} {h : Heap} {a : Addr} {o : Obj} {xs : List Ent}
/-- .. from the object -/
theorem hr_of (ok : HOk P w H h) (kin : K.In h) : ∀ {xs : List Ent} {zs : List (NestedKey × Value × Value)}, Paired EntR xs zs → (∀ x ∈ xs, KeyE K H x) →
    ∃ ys : List (NestedKey × Addr × Value), HR xs ys ∧ zs = ys.map (fun y => (y.1, .ref y.2.1, y.2.2)) ∧ ∀ y ∈ ys, (nestedKind P w).is h y.1 y.2.1 := by
  intro xs zs r
  induction r with
  | nil => exact fun _ => ⟨[], .nil, rfl, fun y hy => by cases hy⟩
  | @cons p q ps qs e t ih =>
    intro hk
    obtain ⟨ys, i1, i2, i3⟩ := ih fun x hx => hk x (List.mem_cons_of_mem _ hx)
    obtain ⟨k1, k2⟩ := hk p List.mem_cons_self
    obtain ⟨e1, e2, e3⟩ := e
    obtain ⟨kp, kv, v⟩ := p
    obtain ⟨kq, ku, u⟩ := q
    simp only at e1 e2 e3 k1 k2
    subst e1
    cases kp with
    | tup ks =>
      obtain ⟨b, rfl⟩ := k2.ref
      cases e2
      refine ⟨(.tup ks, b, u) :: ys, .cons ⟨rfl, rfl, e3⟩ i1, by rw [i2]; rfl, fun y hy => ?_⟩
      rcases List.mem_cons.mp hy with z | z
      · subst z
        exact ⟨kis_ok ok kin _ _ _ k2 rfl, by simpa [tupN] using k1⟩
      · exact i3 y z
    | _ => cases k1
theorem n_view (ok : HOk P w H h) (kin : K.In h) (ho : h.get? a = some o) (f : DicF (fun k => k.hash w) o xs) (hk : ∀ x ∈ xs, KeyE K H x) : ∃ ys, HR xs ys ∧ h.DictOfH (nestedKind P w) a ys := by
  obtain ⟨hx, hz, hn, es, ep, hd, zs, r, he⟩ := f
  obtain ⟨ys, r1, r2, r3⟩ := hr_of (P := P) (w := w) ok kin r hk
  refine ⟨ys, r1, o, es, ep, ho, hx, hd, ?_, r3, by rw [← r1.keys]; exact hn⟩
  rw [he, r2, List.map_map]
  rfl
/-- .. and back -/
theorem n_back {ys : List (NestedKey × Addr × Value)} (r : HR xs ys) (hz : xs.length ≤ sizeLine) (d : h.DictOfH (nestedKind P w) a ys) : ∃ o, h.get? a = some o ∧ DicF (fun k => k.hash w) o xs := by
  obtain ⟨o, es, ep, ho, hx, hd, he, hi, hn⟩ := d
  refine ⟨o, ho, hx, hz, by rw [r.keys]; exact hn, es, ep, hd, ys.map fun y => (y.1, .ref y.2.1, y.2.2), ?_, ?_⟩
  · clear hi hn he hz
    induction r with
    | nil => exact .nil
    | @cons p q ps qs e t ih =>
      rw [List.map_cons]
      refine .cons ⟨e.1, ?_, e.2.2⟩ ih
      show RelV p.2.1 (.ref q.2.1)
      rw [e.2.1]; rfl
  · rw [he, List.map_map]; rfl
theorem isAt_get (ok : HOk P w H h) (e : H a = some (isAt a o)) : h.get? a = some o := by
  have := (ok a _ e : ObjOk P w H h a (.ext fun h => h.get? a = some o))
  exact this.1
theorem isAt_new {H' : Hp} (e : h.get? a = some o) : ObjOk P w H' h a (isAt a o) := ⟨e, ⟨o, e⟩, fun h1 h2 q k => k _ q⟩
end
/-- what the dict at a, known by its object, holds at the key y -/
def NAt (hs : NestedKey → Int) (H : Hp) (a : Addr) (xs : List Ent) : Prop := (∃ o, H a = some (isAt a o) ∧ (a == sysModules) = false ∧ DicF hs o xs) ∨ (Rd H a (.dK []) ∧ xs = [])
def NGet (K : PySem.W.Frag) (hs : NestedKey → Int) (H : Hp) (a : Addr) (y : V) (r : Option V) : Prop :=
  ∃ (xs : List Ent) (k : NestedKey), NAt hs H a xs ∧ (∀ x ∈ xs, KeyE K H x) ∧ tupN k = true ∧ KIs K H k y ∧ r = valX xs k
section
variable {X : Cx} {pins : List (Addr × Obj)} {σ : L2.St} {H : Hp} {s : Shared} {a : Addr} {y v : V} {u r : Value} {o : Option V} {E : Value → Shared → Prop}
theorem nk_of {k : NestedKey} (I : Inv X pins σ H s) (t : tupN k = true) (q : KIs X.K H k y) (ry : RelV y u) : ∃ b, y = .ref b ∧ u = .ref b ∧ (nestedKind X.prog X.w).is s.heap k b := by
  cases k with
  | tup ks =>
    obtain ⟨b, rfl⟩ := q.ref
    cases ry
    exact ⟨b, rfl, rfl, kis_ok I.hok I.kIn _ _ _ q rfl, by simpa [tupN] using t⟩
  | _ => cases t
theorem n_room (hu : X.A.units + 65 < cLine) : (nestedKind X.prog X.w).room X.A.in1 := by
  show X.A.units + 1 + 8 < cLine
  omega
theorem n_at {xs : List Ent} (I : Inv X pins σ H s) (n : NAt (fun k => k.hash X.w) H a xs) (hk : ∀ x ∈ xs, KeyE X.K H x) : (a == sysModules) = false ∧ ∃ ys, HR xs ys ∧ s.heap.DictOfH (nestedKind X.prog X.w) a ys := by
  rcases n with ⟨o, e, hd, f⟩ | ⟨e, rfl⟩
  · exact ⟨hd, n_view (P := X.prog) I.hok I.kIn (isAt_get I.hok e) f hk⟩
  · obtain ⟨z, hd, vs, rel, dd⟩ := dk_rd I.hok e
    cases rel
    obtain ⟨o, es, ep, ho, hx, hdt, _, hp, _⟩ := dd
    have he : es.toList = [] := by cases hp' : es.toList with
      | nil => rfl
      | cons _ _ => rw [hp'] at hp; cases hp
    exact ⟨hd, [], .nil, o, es, ep, ho, hx, hdt, by rw [he]; rfl, fun x hx => (by cases hx), List.nodup_nil⟩
theorem n_getItem {Q : Value → Shared → Prop} (hu : X.A.units + 65 < cLine) (I : Inv X pins σ H s) (g : NGet X.K (fun k => k.hash X.w) H a y (some v)) (ry : RelV y u) (h : ∀ w' s', Inv X pins σ H s' → RelV v w' → Q w' s') : wpAny (model X.prog X.w) X.A (getItem (.ref a) u) Q E s := by
  obtain ⟨xs, k, n, hk, t, q, l⟩ := g
  obtain ⟨b, rfl, rfl, kb⟩ := nk_of I t q ry
  obtain ⟨hd, ys, r1, dd⟩ := n_at I n hk
  obtain ⟨w', hw, rw'⟩ := RelO.some_of (v := v) (o := (atKey ys k).map (·.2)) (by rw [l]; exact r1.val k)
  obtain ⟨p, hp, hp2⟩ := Option.map_eq_some_iff.mp hw
  refine wpAny_getItem_heap (n_room hu) kb dd hp ?_
  rw [hp2]
  exact h w' _ (I.tok _) rw'
theorem n_in {Q : Value → Shared → Prop} (hu : X.A.units + 65 < cLine) (I : Inv X pins σ H s) (g : NGet X.K (fun k => k.hash X.w) H a y o) (ry : RelV y u) (h : ∀ s', Inv X pins σ H s' → Q (.bool o.isSome) s') : wpAny (model X.prog X.w) X.A (compareOp .In u (.ref a)) Q E s := by
  obtain ⟨xs, k, n, hk, t, q, l⟩ := g
  obtain ⟨b, rfl, rfl, kb⟩ := nk_of I t q ry
  obtain ⟨hd, ys, r1, dd⟩ := n_at I n hk
  refine wpAny_in_heap (n_room hu) kb hd dd ?_
  have q := (r1.val k).isSome_eq
  rw [Option.isSome_map] at q
  rw [← q, ← l]
  exact h _ (I.tok _)
theorem n_notIn {Q : Value → Shared → Prop} (hu : X.A.units + 65 < cLine) (I : Inv X pins σ H s) (g : NGet X.K (fun k => k.hash X.w) H a y o) (ry : RelV y u) (h : ∀ s', Inv X pins σ H s' → Q (.bool (!o.isSome)) s') : wpAny (model X.prog X.w) X.A (compareOp .NotIn u (.ref a)) Q E s := by
  obtain ⟨xs, k, n, hk, t, q, l⟩ := g
  obtain ⟨b, rfl, rfl, kb⟩ := nk_of I t q ry
  obtain ⟨hd, ys, r1, dd⟩ := n_at I n hk
  refine wpAny_notIn_heap (n_room hu) kb hd dd ?_
  have q := (r1.val k).isSome_eq
  rw [Option.isSome_map] at q
  rw [← q, ← l]
  exact h _ (I.tok _)
/-- a[y] = v: the dict is one known by its object, or an empty one -/
def NPut (K : PySem.W.Frag) (hs : NestedKey → Int) (H : Hp) (a : Addr) (y v : V) (Q : Hp → Prop) : Prop :=
  ∃ (xs : List Ent) (k : NestedKey), NAt hs H a xs ∧ Mut (H a) ∧ (∀ x ∈ xs, KeyE K H x) ∧ tupN k = true ∧ KIs K H k y ∧ xs.length < sizeLine ∧ ∀ o', (a == sysModules) = false → DicF hs o' (putX xs k y v) → Q (upd H a (isAt a o'))
theorem n_setItem {Q : Hp → Prop} {R : Unit → Shared → Prop} (hu : X.A.units + 65 < cLine) (I : Inv X pins σ H s) (g : NPut X.K (fun k => k.hash X.w) H a y v Q) (ry : RelV y u) (rv : RelV v r) (h : ∀ H' s', Inv X pins σ H' s' → Q H' → R () s') : wpAny (model X.prog X.w) X.A (setItem (.ref a) u r) R E s := by
  obtain ⟨xs, k, n, hm, hk, t, q, hl, hQ⟩ := g
  obtain ⟨b, rfl, rfl, kb⟩ := nk_of I t q ry
  obtain ⟨hd, ys, r1, dd⟩ := n_at I n hk
  have hz : ys.length ≤ sizeLine := by rw [← Paired.length r1]; omega
  refine wpAny_setItem_heap (hsz := hz) (n_room hu) kb dd fun h' dd' hs => ?_
  have lx := putX_len xs k (.ref b) v
  obtain ⟨o', ho', f'⟩ := n_back (P := X.prog) (w := X.w) (r1.put k (b := b) rv) (by omega) dd'
  exact h _ _ (d_write I hm hs ⟨o', ho'⟩ (isAt_new ho')) (hQ o' hd f')
theorem n_len {Q : Value → Shared → Prop} {ob : Obj} {xs : List Ent} (I : Inv X pins σ H s) (e : H a = some (isAt a ob)) (hd : (a == sysModules) = false) (f : DicF (fun k => k.hash X.w) ob xs) (hk : ∀ x ∈ xs, KeyE X.K H x) (h : ∀ t s', Inv X pins σ H s' → Q (.int xs.length t) s') :
    wpAny (model X.prog X.w) X.A (call (.builtin "len") [.ref a]) Q E s := by
  obtain ⟨ys, r1, dd⟩ := n_view (P := X.prog) I.hok I.kIn (isAt_get I.hok e) f hk
  have hm : s.heap.DictKeyed (nestedKind X.prog X.w) a (pairsH ys) := ⟨ys, dd, rfl⟩
  have hl : (pairsH ys).length = xs.length := by rw [pairsH_length]; exact (Paired.length r1).symm
  have hz := f.2.1
  rw [sizeLine_eq] at hz
  refine PyProof.Rows.call_len_slot (n := (pairsH ys).length) hm.typeIs F.slot_dict_len (fun Q' hq => len_keyed hd hm hq) (by omega) (by omega) ?_
  rw [hl]
  exact h _ _ (I.tok _)
theorem n_typeIs {ob : Obj} {xs : List Ent} (I : Inv X pins σ H s) (e : H a = some (isAt a ob)) (f : DicF (fun k => k.hash X.w) ob xs) : s.TypeIs (.ref a) "dict" := ⟨ob, isAt_get I.hok e, f.1.1⟩
theorem at_typeIs {xs : List Ent} (I : Inv X pins σ H s) (n : NAt (fun k => k.hash X.w) H a xs) : s.TypeIs (.ref a) "dict" := by
  rcases n with ⟨o, e, hd, f⟩ | ⟨e, rfl⟩
  · exact n_typeIs I e f
  · obtain ⟨z, hd, vs, rel, dd⟩ := dk_rd I.hok e
    exact dd.typeIs
/-- list(d) -/
theorem n_dlist {Q : VK} {E : Value → Shared → Prop} {ob : Obj} {xs : List Ent} (hc : X.calm = true) (I : Inv X pins σ H s) (e : H a = some (isAt a ob)) (hd : (a == sysModules) = false) (f : DicF (fun k => k.hash X.w) ob xs)
    (h : ∀ p, H p = none → Q (.ref p) (upd H p (.lst (xs.map (·.2.1))))) : wpAny (model X.prog X.w) X.A (call (.type "list") [.ref a]) (EP X pins σ Q) E s := by
  obtain ⟨hx, hz, hn, es, ep, hdt, zs, r, he⟩ := f
  have raw : s.heap.DictRaw a es ep := ⟨ob, isAt_get I.hok e, hx, hdt⟩
  have hl : es.size = xs.length := by rw [← Array.length_toList, he, List.length_map]; exact (Paired.length r).symm
  refine PySem.W.kdl_call (KdlSrc.rawDict (prog := X.prog) (w := X.w) (es := es) (ep := ep) hd) (I.ok.hd hc) raw (by rw [hl]; exact hz) fun h' tk acc c' hk hD hacc => ?_
  have hv : Vals (xs.map (·.2.1)) acc.toList := by
    have h1 : acc.toList.length = zs.length := by rw [Array.length_toList, hacc.1, ← Array.length_toList, he, List.length_map]
    have h2 : ∀ (j : Nat) (v : Value), acc.toList[j]? = some v → ∃ z, zs[j]? = some z ∧ v = z.2.1 := fun j v e1 => by
      obtain ⟨hi, e2⟩ := hacc.2 j v (by rw [← Array.getElem?_toList]; exact e1)
      have e3 : es.toList[j]? = some es[j] := by rw [Array.getElem?_toList, Array.getElem?_eq_getElem hi]
      rw [he, List.getElem?_map] at e3
      obtain ⟨z, hz1, hz2⟩ := Option.map_eq_some_iff.mp e3
      exact ⟨z, hz1, by rw [e2, ← hz2]⟩
    clear hD hacc hk raw hl he hdt hx hz hn e h
    generalize acc.toList = l at h1 h2
    induction r generalizing l with
    | nil => cases l with | nil => exact .nil | cons _ _ => cases h1
    | @cons p q ps qs e t ih =>
      cases l with
      | nil => cases h1
      | cons v l =>
        obtain ⟨z, hz1, hz2⟩ := h2 0 v rfl
        cases hz1
        rw [hz2]
        exact .cons e.2.1 (ih l (by simpa using h1) fun j v' hv' => by
          obtain ⟨z, k1, k2⟩ := h2 (j + 1) v' (by simpa using hv')
          exact ⟨z, by simpa using k1, k2⟩)
  exact ⟨.ref s.heap.objs.size, upd H s.heap.objs.size (.lst (xs.map (·.2.1))), I.laid (t' := tk) hk (Nat.le_refl _)
    (show ObjOk X.prog X.w _ _ _ (.lst (xs.map (·.2.1))) from ⟨by rw [List.length_map]; exact hz, acc.toList, c', hv, by rw [Array.toArray_toList]; exact hD⟩), rfl, h _ (I.hok.fresh (Nat.le_refl _))⟩
end
def dOk (k : D) (ks : List D) : Bool := (tupK k && ks.all tupK) || (mixD k && ks.all mixD)
def dIx (k : D) (ks : List D) : Option Nat := ks.findIdx? fun x => eqD x k
def dGet (k : D) (ks vs : List D) : Option D := (dIx k ks).bind fun i => vs[i]?
def dPut (k v : D) (ks vs : List D) : List D × List D := match dIx k ks with | some i => (ks, vs.set i v) | none => (ks ++ [k], vs ++ [v])
mutual
theorem eqD_kN : ∀ (a b : D) (ka kb : NestedKey), kN a = some ka → kN b = some kb → eqD a b = decide (ka = kb)
  | .non, b, ka, kb, h1, h2 => by cases h1; cases b <;> simp [kN] at h2 <;> first | (subst h2; simp [eqD]) | (obtain ⟨_, _, rfl⟩ := h2; simp [eqD])
  | .bl x, b, ka, kb, h1, h2 => by
    cases h1
    cases b <;> simp [kN] at h2 <;> first | (subst h2; simp [eqD]; done) | (obtain ⟨_, _, rfl⟩ := h2; simp [eqD]; done) | skip
    all_goals (subst h2; rename_i y; cases x <;> first | (cases y <;> simp [eqD]; done) | (simp only [eqD, if_true, Bool.false_eq_true, if_false]; rw [Bool.beq_eq_decide_eq]; simp [NestedKey.num.injEq]; try (exact eq_comm)))
  | .int x, b, ka, kb, h1, h2 => by
    cases h1
    cases b <;> simp [kN] at h2 <;> first | (subst h2; simp [eqD]; done) | (obtain ⟨_, _, rfl⟩ := h2; simp [eqD]; done) | skip
    all_goals (subst h2; rename_i y; simp only [eqD]; rw [Bool.beq_eq_decide_eq]; simp [NestedKey.num.injEq])
  | .str x, b, ka, kb, h1, h2 => by
    cases h1
    cases b <;> simp [kN] at h2 <;> first | (subst h2; simp [eqD]; done) | (obtain ⟨_, _, rfl⟩ := h2; simp [eqD]; done) | skip
    · subst h2
      rename_i y
      rw [eqD]
      by_cases e : x = y
      · subst e; simp
      · have : ¬ (NestedKey.text (mkS x) = NestedKey.text (mkS y)) := fun z => e (by
          have := NestedKey.text.inj z
          have := congrArg (fun s => s.cps.toList) this
          simpa [mkS] using this)
        simp [e, this]
  | .tup xs, b, ka, kb, h1, h2 => by
    rw [kN] at h1
    obtain ⟨kxs, e1, rfl⟩ := Option.map_eq_some_iff.mp h1
    cases b with
    | tup ys =>
      rw [kN] at h2
      obtain ⟨kys, e2, rfl⟩ := Option.map_eq_some_iff.mp h2
      rw [eqD, eqDs_kN xs ys kxs kys e1 e2]
      simp
    | non => cases h2; simp [eqD]
    | bl _ => cases h2; simp [eqD]
    | int _ => cases h2; simp [eqD]
    | str _ => cases h2; simp [eqD]
    | _ => cases h2
  | .lst _, _, _, _, h1, _ => by cases h1
  | .dct _ _, _, _, _, h1, _ => by cases h1
  | .ins _ _, _, _, _, h1, _ => by cases h1
  | .exc _ _, _, _, _, h1, _ => by cases h1
  | .cel _, _, _, _, h1, _ => by cases h1
theorem eqDs_kN : ∀ (as bs : List D) (ka kb : List NestedKey), kNs as = some ka → kNs bs = some kb → eqDs as bs = decide (ka = kb)
  | [], bs, ka, kb, h1, h2 => by
    cases h1
    cases bs with
    | nil => cases h2; simp [eqDs]
    | cons b bs =>
      rw [kNs] at h2
      split at h2
      · cases h2; simp [eqDs]
      · cases h2
  | a :: as, bs, ka, kb, h1, h2 => by
    rw [kNs] at h1
    split at h1
    · rename_i k1 k2 e1 e2
      cases h1
      cases bs with
      | nil => cases h2; simp [eqDs]
      | cons b bs =>
        rw [kNs] at h2
        split at h2
        · rename_i l1 l2 f1 f2
          cases h2
          rw [eqDs, eqD_kN a b _ _ e1 f1, eqDs_kN as bs _ _ e2 f2]
          simp
        · cases h2
    · cases h1
end
theorem tupK_N {d : D} {k : NestedKey} (h : tupK d = true) (e : kN d = some k) : tupN k = true := by
  cases d with
  | tup xs =>
    have h' : (match kN (.tup xs) with | some k => decide (k.depth ≤ 8) | none => false) = true := h
    rw [e] at h'
    rw [kN] at e
    obtain ⟨ks, _, rfl⟩ := Option.map_eq_some_iff.mp e
    exact h'
  | _ => cases h
theorem tupK_some {d : D} (h : tupK d = true) : ∃ k, kN d = some k := by
  cases d with
  | tup xs =>
    have h' : (match kN (.tup xs) with | some k => decide (k.depth ≤ 8) | none => false) = true := h
    cases e : kN (.tup xs) with
    | none => rw [e] at h'; cases h'
    | some k => exact ⟨k, rfl⟩
  | _ => cases h
theorem kNs_cons {d : D} {ds : List D} {ks : List NestedKey} (h : kNs (d :: ds) = some ks) : ∃ k r, ks = k :: r ∧ kN d = some k ∧ kNs ds = some r := by
  rw [kNs] at h
  split at h
  · rename_i e1 e2; cases h; exact ⟨_, _, rfl, e1, e2⟩
  · cases h
theorem kNs_snoc {d : D} {k : NestedKey} (hd : kN d = some k) : ∀ {ds : List D} {ks : List NestedKey}, kNs ds = some ks → kNs (ds ++ [d]) = some (ks ++ [k])
  | [], ks, h => by cases h; simp [kNs, hd]
  | x :: ds, ks, h => by
    obtain ⟨k1, r, rfl, e1, e2⟩ := kNs_cons h
    rw [List.cons_append, kNs, e1, kNs_snoc hd e2]; rfl
section
variable {cl : Cls0} {K : PySem.W.Frag} {φ : List Addr} {H : Hp} {Y : Addr → Prop}
theorem keyE_of : ∀ {xs : List Ent} {ks : List D}, ks.all tupK = true → kNs ks = some (xs.map (·.1)) → Rps cl K φ H Y (xs.map (·.2.1)) ks → ∀ x ∈ xs, KeyE K H x
  | [], _, _, _, _, x, hx => by cases hx
  | p :: ps, ks, t, e, r, x, hx => by
    cases ks with
    | nil => cases e
    | cons d ds =>
      obtain ⟨k1, r1, e0, e1, e2⟩ := kNs_cons e
      cases e0
      rw [List.all_cons, Bool.and_eq_true] at t
      cases r with
      | cons h r =>
        rcases List.mem_cons.mp hx with z | z
        · subst z; exact ⟨tupK_N t.1 e1, rp_kis _ _ _ e1 h⟩
        · exact keyE_of t.2 e2 r x z
theorem val_ix {k : D} {kk : NestedKey} (hk : kN k = some kk) : ∀ {xs : List Ent} {ks vs : List D}, kNs ks = some (xs.map (·.1)) → Rps cl K φ H Y (xs.map (·.2.2)) vs →
    (dIx k ks = none ∧ valX xs kk = none) ∨ ∃ i v d, dIx k ks = some i ∧ valX xs kk = some v ∧ vs[i]? = some d ∧ Rp cl K φ H Y v d
  | [], ks, vs, e, r => by
    cases ks with
    | nil => exact .inl ⟨rfl, rfl⟩
    | cons d ds => obtain ⟨_, _, e0, _⟩ := kNs_cons e; cases e0
  | p :: ps, ks, vs, e, r => by
    cases ks with
    | nil => cases e
    | cons d ds =>
      obtain ⟨k1, r1, e0, e1, e2⟩ := kNs_cons e
      cases e0
      cases r with
      | @cons _ _ dv dvs h r =>
        have q := eqD_kN d k _ _ e1 hk
        by_cases z : p.1 = kk
        · refine .inr ⟨0, p.2.2, dv, ?_, ?_, rfl, h⟩
          · unfold dIx; rw [List.findIdx?_cons, q, decide_eq_true z]; rfl
          · simp [valX, List.find?_cons, z]
        · have q2 : dIx k (d :: ds) = (dIx k ds).map (· + 1) := by unfold dIx; rw [List.findIdx?_cons, q, decide_eq_false z]; rfl
          have q3 : valX (p :: ps) kk = valX ps kk := by simp [valX, List.find?_cons, z]
          rw [q2, q3]
          rcases val_ix hk e2 r with ⟨a, b⟩ | ⟨i, v, d', a, b, c, c2⟩
          · exact .inl ⟨by rw [a]; rfl, b⟩
          · exact .inr ⟨i + 1, v, d', by rw [a]; rfl, b, by simpa using c, c2⟩
theorem not_any {xs : List Ent} {kk : NestedKey} (v : V) (h : kk ∉ xs.map (·.1)) : xs.map (fun x => if x.1 = kk then (x.1, x.2.1, v) else x) = xs := by
  induction xs with
  | nil => rfl
  | cons p ps ih =>
    rw [List.map_cons, List.mem_cons, not_or] at h
    rw [List.map_cons, if_neg (fun z => h.1 z.symm), ih h.2]
theorem put_ix {k v : D} {kk : NestedKey} {y u : V} (hk : kN k = some kk) (ry : Rp cl K φ H Y y k) (ru : Rp cl K φ H Y u v) : ∀ {xs : List Ent} {ks vs : List D}, (xs.map (·.1)).Nodup → kNs ks = some (xs.map (·.1)) → Rps cl K φ H Y (xs.map (·.2.1)) ks → Rps cl K φ H Y (xs.map (·.2.2)) vs →
    kNs (dPut k v ks vs).1 = some ((putX xs kk y u).map (·.1)) ∧ Rps cl K φ H Y ((putX xs kk y u).map (·.2.1)) (dPut k v ks vs).1 ∧ Rps cl K φ H Y ((putX xs kk y u).map (·.2.2)) (dPut k v ks vs).2 := by
  intro xs ks vs nd e r1 r2
  rcases val_ix hk e r2 with ⟨a, b⟩ | ⟨i, v', d', a, b, c, c2⟩
  · have e3 : dPut k v ks vs = (ks ++ [k], vs ++ [v]) := by unfold dPut; rw [a]
    have e4 : putX xs kk y u = xs ++ [(kk, y, u)] := by unfold putX; rw [b]; rfl
    rw [e3, e4]
    simp only [List.map_append, List.map_cons, List.map_nil]
    exact ⟨kNs_snoc hk e, r1.append (.cons ry .nil), r2.append (.cons ru .nil)⟩
  · have e3 : dPut k v ks vs = (ks, vs.set i v) := by unfold dPut; rw [a]
    have e4 : putX xs kk y u = xs.map fun x => if x.1 = kk then (x.1, x.2.1, u) else x := by unfold putX; rw [b]; rfl
    rw [e3, e4]
    have k1 : (xs.map fun x => if x.1 = kk then (x.1, x.2.1, u) else x).map (·.1) = xs.map (·.1) := by
      rw [List.map_map]; refine List.map_congr_left fun x _ => ?_
      simp only [Function.comp]; split <;> rfl
    have k2 : (xs.map fun x => if x.1 = kk then (x.1, x.2.1, u) else x).map (·.2.1) = xs.map (·.2.1) := by
      rw [List.map_map]; refine List.map_congr_left fun x _ => ?_
      simp only [Function.comp]; split <;> rfl
    refine ⟨by rw [k1]; exact e, by rw [k2]; exact r1, ?_⟩
    clear e3 e4 k1 k2 b c c2 r1
    induction xs generalizing ks vs i with
    | nil =>
      cases ks with
      | nil => cases a
      | cons d ds => obtain ⟨_, _, e0, _⟩ := kNs_cons e; cases e0
    | cons p ps ih =>
      cases ks with
      | nil => cases e
      | cons d ds =>
        obtain ⟨k1, r1, e0, e1, e2⟩ := kNs_cons e
        cases e0
        rw [List.map_cons, List.nodup_cons] at nd
        cases r2 with
        | cons h r2 =>
          have q := eqD_kN d k _ _ e1 hk
          by_cases z : p.1 = kk
          · have : i = 0 := by
              unfold dIx at a; rw [List.findIdx?_cons, q, decide_eq_true z] at a; simpa using a.symm
            subst this
            rw [List.map_cons, if_pos z, not_any u (z ▸ nd.1)]
            exact .cons ru r2
          · have q2 : dIx k (d :: ds) = (dIx k ds).map (· + 1) := by unfold dIx; rw [List.findIdx?_cons, q, decide_eq_false z]; rfl
            rw [q2] at a
            obtain ⟨j, a1, rfl⟩ := Option.map_eq_some_iff.mp a
            rw [List.map_cons, if_neg z]
            exact .cons h (ih nd.2 e2 r2 j a1)
theorem eqD_kD (a b : Key) : eqD (kD a) (kD b) = decide (a = b) := by
  cases a with
  | inl i => cases b with
    | inl j => simp only [kD, eqD]; rw [Bool.beq_eq_decide_eq]; simp
    | inr y => simp [kD, eqD]
  | inr x => cases b with
    | inl j => simp [kD, eqD]
    | inr y =>
      simp only [kD, eqD]
      by_cases e : x = y
      · subst e; simp
      · have : ¬ (x.cps.toList = y.cps.toList) := fun z => e (by
          have := Array.toList_inj.mp z
          cases x; cases y; simp only at this; rw [this])
        have t2 : ¬ x.cps = y.cps := fun z => this (by rw [z])
        simp [e, t2]
theorem val_dk (k : Key) : ∀ {kvs : List (Key × V)} {vs : List D}, Rps cl K φ H Y (kvs.map (·.2)) vs →
    (dIx (kD k) (kvs.map fun p => kD p.1) = none ∧ valV kvs k = none) ∨ ∃ i v d, dIx (kD k) (kvs.map fun p => kD p.1) = some i ∧ valV kvs k = some v ∧ vs[i]? = some d ∧ Rp cl K φ H Y v d
  | [], vs, r => .inl ⟨rfl, rfl⟩
  | p :: ps, vs, r => by
    cases r with
    | @cons _ _ dv dvs h r =>
      have q := eqD_kD p.1 k
      by_cases z : p.1 = k
      · refine .inr ⟨0, p.2, dv, ?_, valV_pos z, rfl, h⟩
        unfold dIx; rw [List.map_cons, List.findIdx?_cons, q, decide_eq_true z]; rfl
      · have q2 : dIx (kD k) ((p :: ps).map fun p => kD p.1) = (dIx (kD k) (ps.map fun p => kD p.1)).map (· + 1) := by unfold dIx; rw [List.map_cons, List.findIdx?_cons, q, decide_eq_false z]; rfl
        rw [q2, valV_neg z]
        rcases val_dk k r with ⟨a, b⟩ | ⟨i, v, d', a, b, c, c2⟩
        · exact .inl ⟨by rw [a]; rfl, b⟩
        · exact .inr ⟨i + 1, v, d', by rw [a]; rfl, b, by simpa using c, c2⟩
theorem put_dk (k : Key) {v : D} {u : V} (ru : Rp cl K φ H Y u v) : ∀ {kvs : List (Key × V)} {vs : List D}, (kvs.map (·.1)).Nodup → Rps cl K φ H Y (kvs.map (·.2)) vs →
    (dPut (kD k) v (kvs.map fun p => kD p.1) vs).1 = (putK kvs k u).map (fun p => kD p.1) ∧ Rps cl K φ H Y ((putK kvs k u).map (·.2)) (dPut (kD k) v (kvs.map fun p => kD p.1) vs).2 := by
  intro kvs vs nd r2
  rcases val_dk k r2 with ⟨a, b⟩ | ⟨i, v', d', a, b, c, c2⟩
  · have e3 : dPut (kD k) v (kvs.map fun p => kD p.1) vs = ((kvs.map fun p => kD p.1) ++ [kD k], vs ++ [v]) := by unfold dPut; rw [a]
    rw [e3, putK_new u b]
    simp only [List.map_append, List.map_cons, List.map_nil]
    exact ⟨trivial, r2.append (.cons ru .nil)⟩
  · have e3 : dPut (kD k) v (kvs.map fun p => kD p.1) vs = (kvs.map fun p => kD p.1, vs.set i v) := by unfold dPut; rw [a]
    have e4 : putK kvs k u = kvs.map fun kv => if kv.1 = k then (kv.1, u) else kv := by unfold putK; rw [valV_any, b]; rfl
    rw [e3, e4]
    refine ⟨by rw [List.map_map]; refine List.map_congr_left fun x _ => ?_; simp only [Function.comp]; split <;> rfl, ?_⟩
    clear e3 e4 b c c2
    induction kvs generalizing vs i with
    | nil => cases a
    | cons p ps ih =>
      rw [List.map_cons, List.nodup_cons] at nd
      cases r2 with
      | cons h r2 =>
        have q := eqD_kD p.1 k
        by_cases z : p.1 = k
        · have : i = 0 := by
            unfold dIx at a; rw [List.map_cons, List.findIdx?_cons, q, decide_eq_true z] at a; simpa using a.symm
          subst this
          rw [List.map_cons, if_pos z]
          have na : ∀ {l : List (Key × V)}, k ∉ l.map (·.1) → l.map (fun kv => if kv.1 = k then (kv.1, u) else kv) = l := by
            intro l
            induction l with
            | nil => exact fun _ => rfl
            | cons p ps ih =>
              intro h
              rw [List.map_cons, List.mem_cons, not_or] at h
              rw [List.map_cons, if_neg (fun z => h.1 z.symm), ih h.2]
          rw [na (z ▸ nd.1)]
          exact .cons ru r2
        · have q2 : dIx (kD k) ((p :: ps).map fun p => kD p.1) = (dIx (kD k) (ps.map fun p => kD p.1)).map (· + 1) := by unfold dIx; rw [List.map_cons, List.findIdx?_cons, q, decide_eq_false z]; rfl
          rw [q2] at a
          obtain ⟨j, a1, rfl⟩ := Option.map_eq_some_iff.mp a
          rw [List.map_cons, if_neg z]
          exact .cons h (ih nd.2 r2 j a1)
end
/-- a dict's look-up, whatever its keys -/
def DG (K : PySem.W.Frag) (hs : NestedKey → Int) (H : Hp) (a : Addr) (y : V) (o : Option V) : Prop := DGet H a y o ∨ NGet K hs H a y o
section
variable {G : Gc} {φ : List Addr} {μ : Mem} {H : Hp} {x : Addr} {y : V} {d1 k : D} {ks vs : List D}
theorem mix_key {cl : Cls0} {K : PySem.W.Frag} {Y : Addr → Prop} (h : Rp cl K φ H Y y k) (q : mixD k = true) : ∃ kk : Key, y = kV kk ∧ k = kD kk ∧ okK kk = true := by
  cases h with
  | int i => exact ⟨.inl i, rfl, rfl, rfl⟩
  | str s h => exact ⟨.inr ⟨s.toArray⟩, rfl, by simp [kD], by simpa [okK] using h⟩
  | _ => cases q
theorem mix_tup {k : Key} : tupK (kD k) = false := by cases k <;> rfl
theorem all_nil {ks : List D} (h1 : ks.all tupK = true) (h2 : ks.all mixD = true) : ks = [] := by
  cases ks with
  | nil => rfl
  | cons x xs =>
    rw [List.all_cons, Bool.and_eq_true] at h1 h2
    have a := h1.1; have b := h2.1
    cases x <;> first | cases a | cases b
theorem dg_of {Y : Addr → Prop} (hx : (∃ o ws, Rd H x o ∧ DC o ks ws ∧ Rps G.cl G.K φ H Y ws vs) ∨ CnD G.cl G.K φ H Y x ks vs) (hk : Rp G.cl G.K φ H Y y k) (ok : dOk k ks = true) :
    ∃ o, DG G.K G.cl.hs H x y o ∧ o.isSome = (dIx k ks).isSome ∧ ∀ d, dGet k ks vs = some d → ∃ v, o = some v ∧ Rp G.cl G.K φ H Y v d := by
  unfold dOk at ok
  rw [Bool.or_eq_true, Bool.and_eq_true, Bool.and_eq_true] at ok
  have fin : ∀ {o : Option V}, ((dIx k ks = none ∧ o = none) ∨ ∃ i v d, dIx k ks = some i ∧ o = some v ∧ vs[i]? = some d ∧ Rp G.cl G.K φ H Y v d) → o.isSome = (dIx k ks).isSome ∧ ∀ d, dGet k ks vs = some d → ∃ v, o = some v ∧ Rp G.cl G.K φ H Y v d := by
    intro o h
    rcases h with ⟨a, b⟩ | ⟨i, v, d, a, b, c, c2⟩
    · exact ⟨by rw [a, b]; rfl, fun d e => by unfold dGet at e; rw [a] at e; cases e⟩
    · refine ⟨by rw [a, b]; rfl, fun d' e => ?_⟩
      unfold dGet at e; rw [a] at e
      have e : vs[i]? = some d' := e
      rw [c] at e; cases e
      exact ⟨v, b, c2⟩
  rcases hx with ⟨ob, ws, hr, ⟨kvs, rfl, e1, e2, e3⟩, r⟩ | ⟨ob, xs, h1, h2, h3, h4, h5, h6, h7⟩
  · rcases ok with ⟨t1, t2⟩ | ⟨t1, t2⟩
    · have hn : ks = [] := by
        cases hq : kvs with
        | nil => rw [e1, hq]; rfl
        | cons p ps =>
          rw [e1, hq, List.map_cons, List.all_cons, mix_tup] at t2; cases t2
      have hkv : kvs = [] := by rw [hn] at e1; exact List.map_eq_nil_iff.mp e1.symm
      subst hkv
      obtain ⟨kk, hkk⟩ := tupK_some t1
      refine ⟨none, .inr ⟨[], kk, .inr ⟨hr, rfl⟩, (fun x hx => by cases hx), tupK_N t1 hkk, rp_kis _ _ _ hkk hk, rfl⟩, ?_⟩
      rw [hn]
      exact ⟨rfl, fun d e => by cases e⟩
    · obtain ⟨kk, rfl, rfl, _⟩ := mix_key hk t1
      subst e1 e3
      exact ⟨valV kvs kk, .inl (.inl ⟨kvs, kk, hr, rfl, rfl⟩), fin (val_dk kk r)⟩
  · unfold tkB at h4
    rw [Bool.and_eq_true] at h4
    rcases ok with ⟨t1, t2⟩ | ⟨t1, t2⟩
    · obtain ⟨kk, hkk⟩ := tupK_some t1
      exact ⟨valX xs kk, .inr ⟨xs, kk, .inl ⟨ob, h1, h2, h3⟩, keyE_of t2 h5 h6, tupK_N t1 hkk, rp_kis _ _ _ hkk hk, rfl⟩, fin (val_ix hkk h5 h7)⟩
    · rw [all_nil h4.2 t2] at h4; cases h4.1
end
section
variable {X : Cx} {pins : List (Addr × Obj)} {σ : L2.St} {H : Hp} {s : Shared} {a : Addr} {y v : V} {u r : Value} {o : Option V}
theorem dg_typeIs (I : Inv X pins σ H s) (g : DG X.K (fun k => k.hash X.w) H a y o) : s.TypeIs (.ref a) "dict" := by
  rcases g with g | ⟨xs, k, n, _⟩
  · exact dict_typeIs I g
  · exact at_typeIs I n
def rDin (K : PySem.W.Frag) (hs : NestedKey → Int) : R2 := fun x y H Q => ∃ a o, y = .ref a ∧ DG K hs H a x o ∧ Q (.bl o.isSome) H
def rDnin (K : PySem.W.Frag) (hs : NestedKey → Int) : R2 := fun x y H Q => ∃ a o, y = .ref a ∧ DG K hs H a x o ∧ Q (.bl (!o.isSome)) H
theorem op_din (hu : X.A.units + 65 < cLine) : OpR X (compareOp .In) (rDin X.K fun k => k.hash X.w) := by
  intro pins s σ H x y v u Q I rx ry h
  obtain ⟨a, o, rfl, g, q⟩ := h
  cases ry
  rcases g with g | g
  · exact d_in (by omega) I g rx fun s3 I3 => ⟨.bl o.isSome, H, I3, rfl, q⟩
  · exact n_in hu I g rx fun s3 I3 => ⟨.bl o.isSome, H, I3, rfl, q⟩
theorem op_dnin (hu : X.A.units + 65 < cLine) : OpR X (compareOp .NotIn) (rDnin X.K fun k => k.hash X.w) := by
  intro pins s σ H x y v u Q I rx ry h
  obtain ⟨a, o, rfl, g, q⟩ := h
  cases ry
  rcases g with g | g
  · exact d_notIn (by omega) I g rx fun s3 I3 => ⟨.bl (!o.isSome), H, I3, rfl, q⟩
  · exact n_notIn hu I g rx fun s3 I3 => ⟨.bl (!o.isSome), H, I3, rfl, q⟩
def rDget (K : PySem.W.Frag) (hs : NestedKey → Int) : R2 := fun x y H Q => ∃ a v, x = .ref a ∧ DG K hs H a y (some v) ∧ Q v H
theorem ix_dict (hu : X.A.units + 65 < cLine) : IxR X (rDget X.K fun k => k.hash X.w) := by
  intro value slice pins s σ H x y v u Q I rx ry h hs
  obtain ⟨a, z, rfl, g, q⟩ := h
  cases rx
  have ti := dg_typeIs I g
  unfold subscriptTail
  refine wpAny_bind ?_
  rw [getitemInPython_of_ne ti.not_modules]
  refine wpAny_bind (wpAny_specialOf ti PySem.F.slot_dict_getitem.lookup ?_)
  have main : wpAny (model X.prog X.w) X.A (getItem (.ref a) u) (fun w' s' => Inv X pins σ H s' ∧ RelV z w') X.xe s := by
    rcases g with g | g
    · exact d_getItem (by omega) I g ry fun w' s3 I3 rw' => ⟨I3, rw'⟩
    · exact n_getItem hu I g ry fun w' s3 I3 rw' => ⟨I3, rw'⟩
  have fin : wpAny (model X.prog X.w) X.A (subscripted slice false (.ref a) u) (fun r s₃ => wpAny (model X.prog X.w) X.A (letTemporaryGo value (.ref a) r >>= fun _ => pure r) (EP X pins σ Q) X.xe s₃) X.xe s := by
    rw [hs]
    exact wpAny_operating (wpAny_mono main (fun r s₃ h₃ => wpAny_bind (wpAny_letTemporaryGo (wpAny_pure ⟨z, H, h₃.1, h₃.2, q⟩))) fun _ _ x => x)
  first
    | exact wpAny_pure (wpAny_bind fin)
    | exact wpAny_bind (wpAny_pure (wpAny_bind fin))
    | exact wpAny_bind fin
end
def rSetD (K : PySem.W.Frag) (hs : NestedKey → Int) : V → V → V → Hp → (Hp → Prop) → Prop := fun o i v H Q => ∃ a, o = .ref a ∧ ((∃ kvs k, H a = some (.dK kvs) ∧ i = kV k ∧ kvs.length < sizeLine ∧ ((kvs.map (·.1)).Nodup → Q (upd H a (.dK (putK kvs k v))))) ∨ NPut K hs H a i v Q)
theorem set_dict {X : Cx} (hu : X.A.units + 65 < cLine) : PSet X (rSetD X.K fun k => k.hash X.w) := by
  intro pins s σ H o i v ov iv u Q I ro ri rv h
  obtain ⟨a, rfl, h⟩ := h
  cases ro
  rcases h with ⟨kvs, k, e, rfl, hl, q⟩ | g
  · have nd : (kvs.map (·.1)).Nodup := by
      obtain ⟨z, hd, vs, rel, dd⟩ := dk_of I.hok e
      obtain ⟨ob, es, ep, h1, h2, h3, h4, h5, h6⟩ := dd
      rw [rel.keys]; exact h6
    exact d_setItem (by omega) I (DPut.k e hl) ri rv fun s' I' => ⟨_, I', q nd⟩
  · exact n_setItem hu I g ri rv fun H' s' I' q => ⟨H', I', q⟩
def tDispN (K : PySem.W.Frag) (hs : NestedKey → Int) (tk tv : TE) : TE := fun σ H Q => ∀ p, H p = none → tk σ (upd H p (.dK [])) fun x H1 => tv σ H1 fun y H2 => H2 p = some (.dK []) ∧ ∃ k, tupN k = true ∧ KIs K H2 k x ∧
  ∀ o', (p == sysModules) = false → DicF hs o' [(k, x, y)] → Q (.ref p) (upd H2 p (isAt p o'))
section
variable {X : Cx} {ke ve : Expr} {tk tv : TE} {pos : Pos}
theorem pe_dispN (hu : X.A.units + 65 < cLine) (hk : PE X ke tk) (hv : PE X ve tv) : PE X (.Dict [some ke] [ve] pos) (tDispN X.K (fun k => k.hash X.w) tk tv) := by
  refine ⟨fun pins s σ H Q I q => ?_⟩
  have hn := I.hok.fresh (Nat.le_refl s.heap.objs.size)
  have I1 := I.laid (a := s.heap.objs.size) (o := .dK []) (h' := s.heap.push { cls := .type "dict", data := .dict #[] }) (t' := s.toks) (fun _ _ q => Heap.get?_push_of_some _ q) (Nat.le_refl _) (dk_empty s.heap I.big)
  have hp : PPs X pos [some ke] [ve] [(tk, tv)] := pps_cons hk hv pps_nil
  have hl : (pairTrees [some ke] [ve] X.env pos).length = 1 := pairTrees_length _ _ _ _ rfl rfl
  have room : (nestedKind X.prog X.w).room X.A := by
    show X.A.units + 8 < cLine
    omega
  rw [arm_eval_Dict, zip_pairTrees [some ke] [ve] X.env pos rfl rfl, dictDisplay_pairs _ (fun z => by rw [z] at hl; cases hl) (by omega)]
  let a := s.heap.objs.size
  let Qf : List (V × V) → Hp → Prop := fun ps H2 => match ps with
    | [(x, y)] => H2 a = some (.dK []) ∧ ∃ k, tupN k = true ∧ KIs X.K H2 k x ∧ ∀ o', (a == sysModules) = false → DicF (fun k => k.hash X.w) o' [(k, x, y)] → Q (.ref a) (upd H2 a (isAt a o'))
    | _ => False
  have q0 : tPairs [(tk, tv)] σ (upd H a (.dK [])) Qf := q _ hn
  refine wpAny_bind (wpAny_standAt (wpAny_bind (wpAny_subDictH (knd := nestedKind X.prog X.w) (Q := fun d s' => wpAny (model X.prog X.w) X.A (pure (Value.ref d)) (EP X pins σ Q) X.xe s') room (by omega) (thn (hp.run pins _ σ _ Qf I1 q0) ?_))))
  intro ws s2 ⟨ps, H2, I2, rel, qf⟩
  cases rel with
  | nil => exact qf.elim
  | @cons p1 w1 _ _ h0 r =>
    cases r with
    | cons _ _ => exact qf.elim
    | nil =>
    obtain ⟨p1, p2⟩ := p1
    obtain ⟨e, k, t, kx, q2⟩ := qf
    obtain ⟨u1, u2⟩ := w1
    obtain ⟨b, e1, e2, kb⟩ := nk_of (y := _) I2 t kx h0.1
    simp only at e1 e2 h0
    subst e2
    obtain ⟨hd, ys, r1, dd⟩ := n_at (xs := []) I2 (.inr ⟨.inl e, rfl⟩) (fun x hx => by cases hx)
    cases r1
    refine ⟨[(k, b, u2)], ⟨rfl, rfl, kb, True.intro⟩, dd, fun h' tk' dd' hs => wpAny_pure ?_⟩
    have hr : HR [(k, .ref b, _)] (storedAllH [] [(k, b, u2)]) := .cons ⟨rfl, rfl, h0.2⟩ .nil
    obtain ⟨o', ho', f'⟩ := n_back (P := X.prog) (w := X.w) hr (by rw [sizeLine_eq]; simp) dd'
    refine ⟨.ref s.heap.objs.size, _, d_write I2 (by rw [e]; exact True.intro) hs ⟨o', ho'⟩ (isAt_new ho'), rfl, q2 o' hd ?_⟩
    rw [e1]
    exact f'
end
def ItN (d : Addr) (o : Obj) (xs : List Ent) : It :=
  ⟨fun i H => H d = some (isAt d o) ∧ i < xs.length, fun i H x H' => H' = H ∧ ∃ e, xs[i]? = some e ∧ x = e.2.1, fun i H => H d = some (isAt d o) ∧ xs.length ≤ i⟩
theorem ents_get {xs : List Ent} {zs : List (NestedKey × Value × Value)} (r : Paired EntR xs zs) : ∀ {i : Nat} {e : Ent}, xs[i]? = some e → ∃ z, zs[i]? = some z ∧ RelV e.2.1 z.2.1 := by
  induction r with
  | nil => intro i e h; simp at h
  | cons h t ih =>
    intro i e hi
    cases i with
    | zero => cases hi; exact ⟨_, rfl, h.2.1⟩
    | succ i => exact ih hi
theorem turn_N {P : Program} {w : World} {K : PySem.W.Frag} {tg : Expr} {d : Addr} {o : Obj} {es : Array DictEntry} {ep : Nat} {xs : List Ent} (it : Addr) (hs : NestedKey → Int) (f : DicF hs o xs) (hod : o.data = .dict es ep) : Turn P w K tg (ItN d o xs) [it] it (fun i h => h.IsKeyIter it d i xs.length ep) where
  mem := by simp
  obj := fun i h st b hb => by
    have e : b = it := by simpa using hb
    subst e
    obtain ⟨oi, e, c, dd⟩ := st
    exact ⟨oi, e, fun v z => by rw [dd] at z; cases z⟩
  keep := fun i h h' st k => st.at fun oi e => k it (by simp) oi e
  item := by
    intro X hP hw hK hc i pins s σ H E I hf st hg
    subst hP hw hK
    obtain ⟨hd, hi⟩ := hg
    obtain ⟨f0, f1, f2, f3, f4, f5⟩ := hf it (by simp)
    obtain ⟨hx, hz, hn, es', ep', hdt, zs, r, he⟩ := f
    obtain ⟨rfl, rfl⟩ := dict_ep hod hdt
    obtain ⟨e, hxe⟩ : ∃ p, xs[i]? = some p := ⟨xs[i], List.getElem?_eq_getElem hi⟩
    obtain ⟨z, hz1, hz2⟩ := ents_get r hxe
    have hen : es'[i]? = some ⟨hs z.1, z.2.1, z.2.2⟩ := by rw [← Array.getElem?_toList, he, List.getElem?_map, hz1]; rfl
    have hl : es'.size = xs.length := by rw [← Array.length_toList, he, List.length_map]; exact (Paired.length r).symm
    refine next_key_item st (isAt_get I.hok hd) hdt hl hen fun h' st' sb => ?_
    have I1 : Inv X pins σ H { s with heap := h' } := I.turned (t' := s.toks) (fun b ob hb e => (sb.2 b hb).trans e) f0 f1 f3 f4 f5
    obtain ⟨oi, e2, c, dd⟩ := id st'
    exact ⟨z.2.1, rfl, go_of (s := { s with heap := h' }) e2 c dd (by decide) ⟨e.2.1, H, I1, hz2, ⟨rfl, e, hxe, rfl⟩, st', fun b hb => (hf b hb).1⟩⟩
  done := by
    intro X hP hw hK hc i pins s σ H E I hf st hg
    subst hP hw hK
    obtain ⟨hd, hi⟩ := hg
    obtain ⟨f0, f1, f2, f3, f4, f5⟩ := hf it (by simp)
    obtain ⟨hx, hz, hn, es', ep', hdt, zs, r, he⟩ := f
    obtain ⟨rfl, rfl⟩ := dict_ep hod hdt
    have hl : es'.size = xs.length := by rw [← Array.length_toList, he, List.length_map]; exact (Paired.length r).symm
    exact next_key_end (I.ok.hd hc) st (isAt_get I.hok hd) hdt hl hi fun h' eb => ⟨rfl, I.turned (t' := s.toks) (fun b ob hb e => eb b ob hb e) f0 f1 f3 f4 f5⟩
  self := fun A i s Q E st h => wpAny_pyIter_keyiter st h
/-- its iterator -/
theorem iter_N {X : Cx} {pins : List (Addr × Obj)} {σ : L2.St} {H : Hp} {s : Shared} {tg : Expr} {R : It → Hp → Prop} {d : Addr} {o : Obj} {xs : List Ent} {hs : NestedKey → Int} (I : Inv X pins σ H s) (h1 : H d = some (isAt d o)) (h2 : (d == sysModules) = false) (f : DicF hs o xs) (q : R (ItN d o xs) H) :
    wpAny (model X.prog X.w) X.A (pyIter (.ref d)) (PIE X pins σ tg R) X.xe s := by
  obtain ⟨hx, hz, hn, es, ep, hdt, zs, r, he⟩ := id f
  have hl : es.size = xs.length := by rw [← Array.length_toList, he, List.length_map]; exact (Paired.length r).symm
  refine iter_keys h2 (isAt_get I.hok h1) hx hdt (pi_one (tk := s.toks) I _ (turn_N _ hs f hdt) ⟨_, Heap.get?_push_size _ rfl, rfl, ?_⟩ q)
  rw [hl] <;> rfl
end DM
set_option Elab.async false
set_option linter.all false
set_option maxRecDepth 100000
set_option maxHeartbeats 4000000
namespace DM
open PySem L2 PySem.Spec PyProof.Rows
def isTru (b : Bool) : D → Bool | .bl c => decide (c = b) | _ => false
/-- values of data -/
def PlnV (x : V) : Prop := x = .non ∨ (∃ c, x = .bl c) ∨ (∃ i, x = .int i) ∨ (∃ s, x = .str s) ∨ ∃ a, x = .ref a
section
variable {X : Cx}
theorem is_bl_gen {M : Model} {A : Around} {E : Value → Shared → Prop} {s : Shared} {Q : Value → Shared → Prop} {v : Value} {b : Bool} (hv : ∀ p, v ≠ .builtin p) (h : Q (.bool (v == .bool b)) s) : wpAny M A (compareOp .Is v (.bool b)) Q E s := by
  cases v <;> first | exact wpAny_pure h | exact absurd rfl (hv _)
theorem isnot_bl_gen {M : Model} {A : Around} {E : Value → Shared → Prop} {s : Shared} {Q : Value → Shared → Prop} {v : Value} {b : Bool} (hv : ∀ p, v ≠ .builtin p) (h : Q (.bool (!(v == .bool b))) s) : wpAny M A (compareOp .IsNot v (.bool b)) Q E s := by
  cases v <;> first | exact wpAny_pure h | exact absurd rfl (hv _)
theorem op_isB : OpR X (compareOp .Is) (fun x y H Q => ∃ b, y = .bl b ∧ PlnV x ∧ Q (.bl (decide (x = .bl b))) H) := by
  intro pins s σ H x y v u Q I rx ry h
  obtain ⟨b, rfl, p, q⟩ := h
  cases (show u = Value.bool b from ry)
  rcases p with rfl | ⟨c, rfl⟩ | ⟨i, rfl⟩ | ⟨x, rfl⟩ | ⟨a, rfl⟩
  · cases rx; exact is_bl_gen (fun _ z => nomatch z) (fin_bl I q rfl)
  · cases (show v = Value.bool c from rx)
    exact is_bl_gen (fun _ z => nomatch z) (fin_bl I q (by cases b <;> cases c <;> rfl))
  · obtain ⟨t, rfl⟩ := rx; exact is_bl_gen (fun _ z => nomatch z) (fin_bl I q rfl)
  · obtain ⟨t, rfl⟩ := rx; exact is_bl_gen (fun _ z => nomatch z) (fin_bl I q rfl)
  · cases rx; exact is_bl_gen (fun _ z => nomatch z) (fin_bl I q rfl)
theorem op_notB : OpR X (compareOp .IsNot) (fun x y H Q => ∃ b, y = .bl b ∧ PlnV x ∧ Q (.bl (!decide (x = .bl b))) H) := by
  intro pins s σ H x y v u Q I rx ry h
  obtain ⟨b, rfl, p, q⟩ := h
  cases (show u = Value.bool b from ry)
  rcases p with rfl | ⟨c, rfl⟩ | ⟨i, rfl⟩ | ⟨x, rfl⟩ | ⟨a, rfl⟩
  · cases rx; exact isnot_bl_gen (fun _ z => nomatch z) (fin_bl I q rfl)
  · cases (show v = Value.bool c from rx)
    exact isnot_bl_gen (fun _ z => nomatch z) (fin_bl I q (by cases b <;> cases c <;> rfl))
  · obtain ⟨t, rfl⟩ := rx; exact isnot_bl_gen (fun _ z => nomatch z) (fin_bl I q rfl)
  · obtain ⟨t, rfl⟩ := rx; exact isnot_bl_gen (fun _ z => nomatch z) (fin_bl I q rfl)
  · cases rx; exact isnot_bl_gen (fun _ z => nomatch z) (fin_bl I q rfl)
end
end DM
set_option Elab.async false
set_option linter.all false
set_option maxRecDepth 100000
set_option maxHeartbeats 4000000
namespace DM
open PySem L2 PySem.Spec PyProof.Rows
theorem okS_str {x : List Nat} : PyData.strOk (mkS x) = okS x := by
  unfold PyData.strOk okS mkS
  rw [← Array.all_toList]
theorem deep_tuple {n : Nat} {ds : List D} (h : deep n (.tup ds) = true) : ∃ m, n = m + 1 ∧ deeps m ds = true := by
  cases n with
  | zero => simp [deep] at h
  | succ m => exact ⟨m, rfl, by simpa [deep] using h⟩
theorem deep_list {n : Nat} {ds : List D} (h : deep n (.lst ds) = true) : ∃ m, n = m + 1 ∧ deeps m ds = true := by
  cases n with
  | zero => simp [deep] at h
  | succ m => exact ⟨m, rfl, by simpa [deep] using h⟩
mutual
theorem depth_le : ∀ (d : D) (n : Nat), deep n d = true → (toP d).depth ≤ n
  | .non, n, _ => by simp [toP, PyData.depth]
  | .bl _, n, _ => by simp [toP, PyData.depth]
  | .int _, n, _ => by simp [toP, PyData.depth]
  | .str _, n, _ => by simp [toP, PyData.depth]
  | .ins _ _, n, _ => by simp [toP, PyData.depth]
  | .dct _ _, n, _ => by simp [toP, PyData.depth]
  | .exc _ _, n, _ => by simp [toP, PyData.depth]
  | .cel _, n, _ => by simp [toP, PyData.depth]
  | .lst ds, n, h => by
    obtain ⟨m, rfl, h⟩ := deep_list h
    have := depths_le ds m h
    simp only [toP, PyData.depth]; omega
  | .tup ds, n, h => by
    obtain ⟨m, rfl, h⟩ := deep_tuple h
    have := depths_le ds m h
    simp only [toP, PyData.depth]; omega
theorem depths_le : ∀ (ds : List D) (n : Nat), deeps n ds = true → PyData.depthAll (toPs ds) ≤ n
  | [], n, _ => by simp [toPs, PyData.depthAll]
  | d :: ds, n, h => by
    have h' : deep n d = true ∧ deeps n ds = true := by simpa [deeps] using h
    have a := depth_le d n h'.1
    have b := depths_le ds n h'.2
    simp only [toPs, PyData.depthAll]; omega
end
section
variable {cl : Cls0} {K : PySem.W.Frag} {φ : List Addr} {H : Hp} {X : Addr → Prop}
mutual
theorem lay_of : ∀ (d : D) (v : V), Rp cl K φ H X v d → (toP d).canLay0 = true
  | .non, _, _ => by simp [toP, PyData.canLay0]
  | .bl _, _, _ => by simp [toP, PyData.canLay0]
  | .int _, _, _ => by simp [toP, PyData.canLay0]
  | .str _, _, .str _ h => by simp only [toP, PyData.canLay0]; rw [okS_str]; exact h
  | .ins _ _, _, _ => by simp [toP, PyData.canLay0]
  | .dct _ _, _, _ => by simp [toP, PyData.canLay0]
  | .exc _ _, _, _ => by simp [toP, PyData.canLay0]
  | .cel _, _, _ => by simp [toP, PyData.canLay0]
  | .lst ds, _, .lst h n r => by simp only [toP, PyData.canLay0]; exact lays_of ds _ r
  | .lst ds, _, .lstK h r => by simp only [toP, PyData.canLay0]; exact lays_of ds _ r
  | .tup ds, _, .tup h r => by simp only [toP, PyData.canLay0]; exact lays_of ds _ r
theorem lays_of : ∀ (ds : List D) (vs : List V), Rps cl K φ H X vs ds → PyData.canLayAll0 (toPs ds) = true
  | [], _, _ => by simp [toPs, PyData.canLayAll0]
  | d :: ds, _, .cons h r => by simp only [toPs, PyData.canLayAll0, lay_of d _ h, lays_of ds _ r, Bool.and_self]
end
mutual
theorem dp_of : ∀ (d : D) (v : V), pure0 d = true → Rp cl K φ H X v d → Dp K H v (toP d)
  | .non, _, _, .non => .non
  | .bl b, _, _, .bl _ => .bl b
  | .int i, _, _, .int _ => .int i
  | .str x, _, _, .str _ _ => .str _
  | .ins _ _, _, q, _ => by simp [pure0] at q
  | .dct _ _, _, q, _ => by simp [pure0] at q
  | .exc _ _, _, q, _ => by simp [pure0] at q
  | .cel _, _, q, _ => by simp [pure0] at q
  | .lst ds, _, q, .lst h n r => .lst (.inl h) (dps_of ds _ (by simpa [pure0] using q) r)
  | .lst ds, _, q, .lstK h r => .lst (sl_sq (H := H) (.inr h)) (dps_of ds _ (by simpa [pure0] using q) r)
  | .tup ds, _, q, .tup h r => .tup h (dps_of ds _ (by simpa [pure0] using q) r)
theorem dps_of : ∀ (ds : List D) (vs : List V), pures ds = true → Rps cl K φ H X vs ds → DpAll K H vs (toPs ds)
  | [], _, _, .nil => .nil
  | d :: ds, _, q, .cons h r => by
    have q' : pure0 d = true ∧ pures ds = true := by simpa [pures] using q
    exact .cons (dp_of d _ q'.1 h) (dps_of ds _ q'.2 r)
end
end
theorem mkS_inj {x y : List Nat} : (mkS x == mkS y) = (x == y) := by
  by_cases h : x = y
  · subst h; simp
  · have : mkS x ≠ mkS y := fun z => h (by have := congrArg (fun s : Str => s.cps.toList) z; simpa [mkS] using this)
    rw [beq_eq_false_iff_ne.mpr this, beq_eq_false_iff_ne.mpr h]
mutual
theorem eqv_toP : ∀ (d e : D), pure0 d = true → pure0 e = true → PyData.eqv (toP d) (toP e) = eqD d e
  | d, .ins _ _, _, q => by simp [pure0] at q
  | d, .dct _ _, _, q => by simp [pure0] at q
  | d, .exc _ _, _, q => by simp [pure0] at q
  | d, .cel _, _, q => by simp [pure0] at q
  | .ins _ _, _, q, _ => by simp [pure0] at q
  | .dct _ _, _, q, _ => by simp [pure0] at q
  | .exc _ _, _, q, _ => by simp [pure0] at q
  | .cel _, _, q, _ => by simp [pure0] at q
  | .lst xs, .lst ys, p, q => by simp only [toP, PyData.eqv, eqD]; exact eqvs_toP xs ys (by simpa [pure0] using p) (by simpa [pure0] using q)
  | .tup xs, .tup ys, p, q => by simp only [toP, PyData.eqv, eqD]; exact eqvs_toP xs ys (by simpa [pure0] using p) (by simpa [pure0] using q)
  | .str x, .str y, _, _ => by simp only [toP, PyData.eqv, eqD]; exact mkS_inj
  | .non, .non, _, _ => by simp [toP, PyData.eqv, eqD]
  | .non, .bl _, _, _ => by simp [toP, PyData.eqv, eqD]
  | .non, .int _, _, _ => by simp [toP, PyData.eqv, eqD]
  | .non, .str _, _, _ => by simp [toP, PyData.eqv, eqD]
  | .non, .lst _, _, _ => by simp [toP, PyData.eqv, eqD]
  | .non, .tup _, _, _ => by simp [toP, PyData.eqv, eqD]
  | .bl _, .non, _, _ => by simp [toP, PyData.eqv, eqD]
  | .bl _, .bl _, _, _ => by simp [toP, PyData.eqv, eqD]
  | .bl _, .int _, _, _ => by simp [toP, PyData.eqv, eqD]
  | .bl _, .str _, _, _ => by simp [toP, PyData.eqv, eqD]
  | .bl _, .lst _, _, _ => by simp [toP, PyData.eqv, eqD]
  | .bl _, .tup _, _, _ => by simp [toP, PyData.eqv, eqD]
  | .int _, .non, _, _ => by simp [toP, PyData.eqv, eqD]
  | .int _, .bl _, _, _ => by simp [toP, PyData.eqv, eqD]
  | .int _, .int _, _, _ => by simp [toP, PyData.eqv, eqD]
  | .int _, .str _, _, _ => by simp [toP, PyData.eqv, eqD]
  | .int _, .lst _, _, _ => by simp [toP, PyData.eqv, eqD]
  | .int _, .tup _, _, _ => by simp [toP, PyData.eqv, eqD]
  | .str _, .non, _, _ => by simp [toP, PyData.eqv, eqD]
  | .str _, .bl _, _, _ => by simp [toP, PyData.eqv, eqD]
  | .str _, .int _, _, _ => by simp [toP, PyData.eqv, eqD]
  | .str _, .lst _, _, _ => by simp [toP, PyData.eqv, eqD]
  | .str _, .tup _, _, _ => by simp [toP, PyData.eqv, eqD]
  | .lst _, .non, _, _ => by simp [toP, PyData.eqv, eqD]
  | .lst _, .bl _, _, _ => by simp [toP, PyData.eqv, eqD]
  | .lst _, .int _, _, _ => by simp [toP, PyData.eqv, eqD]
  | .lst _, .str _, _, _ => by simp [toP, PyData.eqv, eqD]
  | .lst _, .tup _, _, _ => by simp [toP, PyData.eqv, eqD]
  | .tup _, .non, _, _ => by simp [toP, PyData.eqv, eqD]
  | .tup _, .bl _, _, _ => by simp [toP, PyData.eqv, eqD]
  | .tup _, .int _, _, _ => by simp [toP, PyData.eqv, eqD]
  | .tup _, .str _, _, _ => by simp [toP, PyData.eqv, eqD]
  | .tup _, .lst _, _, _ => by simp [toP, PyData.eqv, eqD]
theorem eqvs_toP : ∀ (ds es : List D), pures ds = true → pures es = true → PyData.eqvAll (toPs ds) (toPs es) = eqDs ds es
  | [], [], _, _ => by simp [toPs, PyData.eqvAll, eqDs]
  | [], _ :: _, _, _ => by simp [toPs, PyData.eqvAll, eqDs]
  | _ :: _, [], _, _ => by simp [toPs, PyData.eqvAll, eqDs]
  | d :: ds, e :: es, p, q => by
    have p' : pure0 d = true ∧ pures ds = true := by simpa [pures] using p
    have q' : pure0 e = true ∧ pures es = true := by simpa [pures] using q
    simp only [toPs, PyData.eqvAll, eqDs, eqv_toP d e p'.1 q'.1, eqvs_toP ds es p'.2 q'.2]
end
theorem shaped_of {v : V} {d : D} {cl : Cls0} {K : PySem.W.Frag} {φ : List Addr} {H : Hp} {X : Addr → Prop} (h : Rp cl K φ H X v d) (dp : deep 64 d = true) : SeqAt.shaped (toP d) = true := by
  unfold SeqAt.shaped
  rw [lay_of d v h, decide_eq_true (depth_le d 64 dp)]
  rfl
mutual
/-- plain data, nested to at most n -/
def pd : Nat → D → Bool
  | n, .lst xs => (match n with | 0 => false | n + 1 => pds n xs)
  | n, .tup xs => (match n with | 0 => false | n + 1 => pds n xs)
  | _, .non => true | _, .bl _ => true | _, .int _ => true | _, .str _ => true
  | _, .ins _ _ => false | _, .dct _ _ => false | _, .exc _ _ => false | _, .cel _ => false
def pds : Nat → List D → Bool
  | _, [] => true
  | n, x :: xs => pd n x && pds n xs
end
mutual
theorem pd_inv : ∀ (n : Nat) (d : D), pd n d = true → pure0 d = true ∧ deep n d = true
  | 0, .lst _, h => by simp [pd] at h
  | 0, .tup _, h => by simp [pd] at h
  | n + 1, .lst xs, h => by simp only [pure0, deep]; exact pds_inv n xs (by simpa [pd] using h)
  | n + 1, .tup xs, h => by simp only [pure0, deep]; exact pds_inv n xs (by simpa [pd] using h)
  | n, .non, _ => by cases n <;> exact ⟨by simp [pure0], by simp [deep]⟩
  | n, .bl _, _ => by cases n <;> exact ⟨by simp [pure0], by simp [deep]⟩
  | n, .int _, _ => by cases n <;> exact ⟨by simp [pure0], by simp [deep]⟩
  | n, .str _, _ => by cases n <;> exact ⟨by simp [pure0], by simp [deep]⟩
  | n, .ins _ _, h => by cases n <;> simp [pd] at h
  | n, .dct _ _, h => by cases n <;> simp [pd] at h
  | n, .exc _ _, h => by cases n <;> simp [pd] at h
  | n, .cel _, h => by cases n <;> simp [pd] at h
theorem pds_inv : ∀ (n : Nat) (ds : List D), pds n ds = true → pures ds = true ∧ deeps n ds = true
  | n, [], _ => by simp [pures, deeps]
  | n, x :: xs, h => by
    have h' : pd n x = true ∧ pds n xs = true := by simpa [pds] using h
    have a := pd_inv n x h'.1
    have b := pds_inv n xs h'.2
    simp [pures, deeps, a, b]
end
structure Exn where
  c : Nat
  fs : List D
inductive R (α : Type) where | ok (a : α) | ex (x : Exn) (μ : Mem) | bad
def R.bind {α β : Type} : R α → (α → R β) → R β
  | .ok a, f => f a
  | .ex x μ, _ => .ex x μ
  | .bad, _ => .bad
abbrev Rd0 := R (D × Mem)
inductive BO where | add | sub | mul | fdiv | mod | pow
inductive CO where | xne | eq | ne | lt | le | gt | ge | isin | notin | isN | notN | din | dnin
def BO.op : BO → Operator
  | .add => .Add | .sub => .Sub | .mul => .Mult | .fdiv => .FloorDiv | .mod => .Mod | .pow => .Pow
def CO.op : CO → CmpOp
  | .xne => .NotEq | .eq => .Eq | .ne => .NotEq | .lt => .Lt | .le => .LtE | .gt => .Gt | .ge => .GtE | .isin => .In | .notin => .NotIn | .isN => .Is | .notN => .IsNot | .din => .In | .dnin => .NotIn
def isNon : D → Bool | .non => true | _ => false
/-- over natAbs: else the kernel, that looks at a cast length, counts the bound down -/
def smallI (i : Int) : Bool := Nat.blt i.natAbs 18446744073709551616
theorem smallI_iff {i : Int} : smallI i = true ↔ -18446744073709551616 < i ∧ i < 18446744073709551616 := by
  unfold smallI
  rw [Nat.blt_eq]
  omega
def repD (xs : List D) (k : Nat) : List D := (List.replicate k xs).flatten
def repS (xs : List Nat) (k : Nat) : List Nat := (List.replicate k xs).flatten
def powOk (i j : Int) : Bool := decide (0 ≤ j) && decide (j ≤ 1000000) && decide (i.natAbs < 18446744073709551616)
/-- operators: none where it is not known -/
def binE (o : BO) (d1 d2 : D) : Option D :=
  match o, d1, d2 with
  | .add, .int i, .int j => some (.int (i + j))
  | .sub, .int i, .int j => some (.int (i - j))
  | .mul, .int i, .int j => if smallI i || smallI j then some (.int (i * j)) else none
  | .fdiv, .int i, .int j => if 0 < j ∧ j < 1073741824 then some (.int (i / j)) else none
  | .mod, .int i, .int j => if 0 < j then some (.int (i % j)) else none
  | .pow, .int i, .int j => if powOk i j then some (.int (i ^ j.toNat)) else none
  | .add, .str x, .str y => if x.length + y.length ≤ 16777216 then some (.str (x ++ y)) else none
  | .add, .lst x, .lst y => if x.length + y.length ≤ 16777216 then some (.lst (x ++ y)) else none
  | .add, .tup x, .tup y => if x.length + y.length ≤ 16777216 then some (.tup (x ++ y)) else none
  | .mul, .lst x, .int j => if -2147483648 < j ∧ j < 2147483648 ∧ x.length * j.toNat ≤ 16777216 then some (.lst (repD x j.toNat)) else none
  | .mul, .str x, .int j => if -2147483648 < j ∧ j < 2147483648 ∧ x.length * j.toNat ≤ 16777216 then some (.str (repS x j.toNat)) else none
  | _, _, _ => none
/-- one dict and the same again: none or one entry, a text and a truth -/
def dctE : D → D → Bool
  | .dct [] [], .dct [] [] => true
  | .dct [.str x] [.bl b], .dct [.str y] [.bl c] => decide (x = y) && decide (b = c)
  | _, _ => false
def cmpE (o : CO) (d1 d2 : D) : Option D :=
  match o, d1, d2 with
  | .xne, d, e => if dctE d e then some (.bl false) else if pd 64 d && pd 64 e then some (.bl (!eqD d e)) else none
  | .lt, .int i, .int j => some (.bl (decide (i < j)))
  | .le, .int i, .int j => some (.bl (decide (i ≤ j)))
  | .gt, .int i, .int j => some (.bl (decide (j < i)))
  | .ge, .int i, .int j => some (.bl (decide (j ≤ i)))
  | .eq, d, e => if pd 64 d && pd 64 e then some (.bl (eqD d e)) else none
  | .ne, d, e => if pd 64 d && pd 64 e then some (.bl (!eqD d e)) else none
  | .isN, d, .non => some (.bl (isNon d))
  | .notN, d, .non => some (.bl (!isNon d))
  | .isN, d, .bl b => some (.bl (isTru b d))
  | .notN, d, .bl b => some (.bl (!isTru b d))
  | .isin, .str [c], .str y => some (.bl (decide (c ∈ y)))
  | .notin, .str [c], .str y => some (.bl (!decide (c ∈ y)))
  | .isin, d, .lst es => if pd 64 d && pd 64 (.lst es) then some (.bl (es.any fun e => eqD e d)) else none
  | .notin, d, .lst es => if pd 64 d && pd 64 (.lst es) then some (.bl (!es.any fun e => eqD e d)) else none
  | .isin, d, .tup es => if pd 64 d && pd 64 (.tup es) then some (.bl (es.any fun e => eqD e d)) else none
  | .notin, d, .tup es => if pd 64 d && pd 64 (.tup es) then some (.bl (!es.any fun e => eqD e d)) else none
  | .din, d, .dct ks _ => if dOk d ks then some (.bl (dIx d ks).isSome) else none
  | .dnin, d, .dct ks _ => if dOk d ks then some (.bl (!(dIx d ks).isSome)) else none
  | _, _, _ => none
section
variable {X : Cx} {pins : List (Addr × Obj)} {σ : L2.St} {H : Hp} {s : Shared}
theorem rd_lst (I : Inv X pins σ H s) {l : Addr} {xs : List V} (hH : SL X.K H l xs) : xs.length ≤ sizeLine ∧ ∃ (its : List Value) (n : Nat), Vals xs its ∧ xs.length = its.length ∧ s.heap.get? l = some { cls := .type "list", data := .seq its.toArray n } := by
  rcases hH with hH | ⟨its, n, hk, hz, r⟩
  · obtain ⟨z, its, n, r, e⟩ := hH.ok I.hok
    exact ⟨z, its, n, r, r.length, e⟩
  · have hl := r.length
    exact ⟨by rw [hl, Array.length_toList]; exact hz, its.toList, n, r, hl, by simpa using I.kIn l _ hk⟩
def rCatR (K : PySem.W.Frag) : R2 := fun x y H Q => ∃ l b xs zs, x = .ref l ∧ y = .ref b ∧ SL K H l xs ∧ SL K H b zs ∧ xs.length + zs.length ≤ sizeLine ∧ ∀ p, H p = none → Q (.ref p) (upd H p (.lst (xs ++ zs)))
theorem op_catR : OpR X (binaryOp .Add) (rCatR X.K) := by
  intro pins s σ H x y v u Q I rx ry h
  obtain ⟨l, b, xs, zs, rfl, rfl, hH, hB, hz, q⟩ := h
  cases rx
  cases ry
  obtain ⟨z, its, n, r, hl, e⟩ := rd_lst I hH
  obtain ⟨z2, its2, n2, r2, hl2, e2⟩ := rd_lst I hB
  refine PySem.P.add_list e e2 ?_ (by rw [List.size_toArray, List.size_toArray]; omega)
  have ea : its.toArray ++ its2.toArray = (its ++ its2).toArray := by simp
  rw [ea]
  exact ⟨.ref _, _, I.lnew (t' := s.toks) (r.append r2) (by rw [List.length_append]; omega), rfl, q _ I.fresh⟩
def rRepR (K : PySem.W.Frag) : R2 := fun x y H Q => ∃ l k xs, x = .ref l ∧ y = .int k ∧ SL K H l xs ∧ -(2 ^ 63) ≤ k ∧ k < 2 ^ 63 ∧ xs.length * k.toNat ≤ sizeLine ∧
  ∀ p, H p = none → Q (.ref p) (upd H p (.lst (List.replicate k.toNat xs).flatten))
theorem op_repR : OpR X (binaryOp .Mult) (rRepR X.K) := by
  intro pins s σ H x y v u Q I rx ry h
  obtain ⟨l, k, xs, rfl, rfl, hH, h1, h2, hz, q⟩ := h
  cases rx
  obtain ⟨t, rfl⟩ := ry
  obtain ⟨z, its, n, r, hl, e⟩ := rd_lst I hH
  have hlen : its.toArray.size * k.toNat ≤ sizeLine := by rw [List.size_toArray, ← hl]; exact hz
  have hcap : ¬ its.toArray.size * k.toNat > (2 ^ 63 - 1) / 8 := by
    have : (sizeLine : Nat) ≤ (2 ^ 63 - 1) / 8 := by decide
    omega
  have hfit : ¬ (!Builtin.List.listFitsIndex k) = true := by
    rw [fitsIndex_both h1 h2]
    exact Bool.false_ne_true
  have hlong : ¬ Builtin.List.listTooLong (its.toArray.size * k.toNat) = true := by
    rw [notLongL hlen]
    exact Bool.false_ne_true
  have hnew : List.foldl (fun x1 x2 => x1 ++ x2) #[] (List.replicate (if its.toArray.isEmpty = true then 0 else k.toNat) its.toArray) = (List.replicate k.toNat its).flatten.toArray := by
    have f0 : ∀ m : Nat, List.foldl (fun x1 x2 => x1 ++ x2) #[] (List.replicate m its.toArray) = (List.replicate m its).flatten.toArray := fun m => by
      have := foldl_rep its m []
      rw [List.nil_append] at this
      exact this
    rw [f0]
    cases its with
    | nil => simp
    | cons a r' => rw [if_neg (by simp)]
  refine wpAny_binaryOp_repeat_ref (T := "list") (U := "int") (by decide) ⟨_, e, rfl⟩ (fun s' => typeIs_int s' k t) noFill_list_mul F.fills_int_mul F.slot_int_rmul repeat_list F.slot_int_index.lookup
    (call_meets F.slot_int_rmul (typeIs_int s k t) F.entry_int_rmul (F.args_int_rmul_2 _ _) (int___rmul___int_list k t l its.toArray n)
      ⟨e, rfl, ⟨_, e, rfl⟩, call_meets F.slot_list_mul ⟨_, e, rfl⟩ F.entry_list_mul (F.args_list_mul_2 _ _) (AutoListH.list___mul___list_int_3 l its.toArray n k t hfit hcap hlong) ⟨e, ?_⟩⟩)
  rw [hnew]
  exact ⟨.ref _, _, I.lnew (t' := s.toks) (r.rep k.toNat) (by rw [PyProof.Rows.lm_len_rep_flat, Nat.mul_comm]; exact hz), rfl, q _ I.fresh⟩
def rMulS : R2 := fun x y H Q => ∃ (x' : List Nat) (j : Int), x = .str (mkS x') ∧ y = .int j ∧ -2147483648 < j ∧ j < 2147483648 ∧ x'.length * j.toNat ≤ 16777216 ∧ Q (.str (mkS (repS x' j.toNat))) H
theorem foldl_cps (x : List Nat) : ∀ (k : Nat) (acc : List Nat), (List.replicate k x.toArray).foldl (· ++ ·) acc.toArray = (acc ++ (List.replicate k x).flatten).toArray
  | 0, acc => by simp
  | k + 1, acc => by
    rw [List.replicate_succ, List.foldl_cons]
    have : acc.toArray ++ x.toArray = (acc ++ x).toArray := by simp
    rw [this, foldl_cps x k (acc ++ x), List.replicate_succ, List.flatten_cons, List.append_assoc]
theorem mulS_eq (x : List Nat) (j : Int) : Txt.mul (mkS x) j = mkS (repS x j.toNat) := by
  unfold Txt.mul repS
  split
  · rename_i h
    have : j.toNat = 0 := by omega
    rw [this]; rfl
  · split
    · rename_i h1 h
      rw [Bool.or_eq_true] at h
      rcases h with h | h
      · have : j = 1 := by simpa using h
        subst this
        simp [List.replicate]
      · have hx : x = [] := by
          have : x.length = 0 := by simpa [mkS, Str.length] using h
          exact List.length_eq_zero_iff.mp this
        subst hx
        simp [mkS]
    · rename_i h1 h
      have := foldl_cps x j.toNat []
      simp only [List.nil_append] at this
      unfold mkS
      rw [← this]
theorem op_mulS : OpR X (binaryOp .Mult) rMulS := by
  intro pins s σ H x y v u Q I rx ry h
  obtain ⟨x', j, rfl, rfl, h1, h2, hz, q⟩ := h
  obtain ⟨t, rfl⟩ := rx
  obtain ⟨t', rfl⟩ := ry
  have hl : (mkS x').length = x'.length := by simp [mkS, Str.length]
  refine PySem.SB.mul ⟨?_, fun a b => ?_, fun a b => ?_⟩ fun t' k => ?_
  · simp only [Bool.or_eq_false_iff, decide_eq_false_iff_not]; omega
  · rw [hl]
    intro z
    have hj : (j.toNat : Int) = j := by omega
    have z1 : ((2 ^ 63 - 1) / j : Int) < x'.length := by omega
    have z2 : (2 ^ 63 - 1 : Int) < x'.length * j := (Int.ediv_lt_iff_lt_mul (by omega)).mp z1
    have z3 : ((x'.length * j.toNat : Nat) : Int) = x'.length * j := by rw [Int.natCast_mul, hj]
    omega
  · rw [hl]
    unfold Builtin.Str.tooLong
    simp only [decide_eq_false_iff_not]
    rw [sizeLine_eq]
    omega
  · rw [mulS_eq]
    exact ⟨.str _, H, I.tok _, ⟨_, rfl⟩, q⟩
end
def rBin (K : PySem.W.Frag) : BO → R2
  | .add => fun x y H Q => rI0 (fun i j => .int (i + j)) x y H Q ∨ (∃ i j, x = .str i ∧ y = .str j ∧ i.length + j.length ≤ sizeLine ∧ Q (.str (i ++ j)) H) ∨ rCatR K x y H Q ∨ rCatA K x y H Q
  | .sub => rI0 fun i j => .int (i - j)
  | .mul => fun x y H Q => rI CMul (fun i j => .int (i * j)) x y H Q ∨ rRepR K x y H Q ∨ rMulS x y H Q
  | .fdiv => rI CDiv fun i j => .int (i / j)
  | .mod => rI (fun _ j => 0 < j) fun i j => .int (i % j)
  | .pow => rI CPow fun i j => .int (i ^ j.toNat)
theorem opR_bin {X : Cx} (o : BO) : OpR X (binaryOp o.op) (rBin X.K o) := by
  cases o with
  | add => exact op_add.or (op_add_str.or (op_catR.or op_catA))
  | sub => exact op_sub
  | mul => exact op_mul.or (op_repR.or op_mulS)
  | fdiv => exact op_fdiv
  | mod => exact op_mod
  | pow => exact op_pow
section
variable {G : Gc} {φ : List Addr} {μ : Mem} {H : Hp} {x y : V} {d d1 d2 : D} {fr : Bool} {Q : VK}
theorem okS_append {x y : List Nat} (a : okS x = true) (b : okS y = true) : okS (x ++ y) = true := by
  unfold okS at *; rw [List.all_append, a, b]; rfl
theorem okS_rep {x : List Nat} (a : okS x = true) : ∀ k, okS (repS x k) = true
  | 0 => rfl
  | k + 1 => by
    have e : repS x (k + 1) = x ++ repS x k := by unfold repS; rw [List.replicate_succ, List.flatten_cons]
    rw [e]; exact okS_append a (okS_rep a k)
theorem mkS_append (x y : List Nat) : mkS x ++ mkS y = mkS (x ++ y) := by
  refine PySem.Str.ext' ?_
  have := TL.tl_append (mkS x) (mkS y)
  simp only [TL.tl] at this
  exact Array.toList_inj.mp (by rw [this]; simp [mkS])
theorem mkS_len (x : List Nat) : (mkS x).length = x.length := by simp [mkS, Str.length]
theorem bin_ok (m : Ms G φ μ H) {o : BO} (h1 : G.rp φ μ H x d1) (h2 : G.rp φ μ H y d2) (e : binE o (top μ d1) (top μ d2) = some d) (q : QQ G φ μ H μ fr d Q) : rBin G.K o x y H Q := by
  have hs : sizeLine = 16777216 := sizeLine_eq
  generalize e1 : top μ d1 = t1 at e
  generalize e2 : top μ d2 = t2 at e
  unfold binE at e
  split at e
  · obtain rfl := top_int m h1 e1; obtain rfl := top_int m h2 e2
    cases Option.some.inj e
    exact .inl ⟨_, _, rfl, rfl, qq_int m q⟩
  · obtain rfl := top_int m h1 e1; obtain rfl := top_int m h2 e2
    cases Option.some.inj e
    exact ⟨_, _, rfl, rfl, qq_int m q⟩
  · obtain rfl := top_int m h1 e1; obtain rfl := top_int m h2 e2
    split at e
    · rename_i z
      cases Option.some.inj e
      refine .inl ⟨_, _, rfl, rfl, ?_, qq_int m q⟩
      unfold CMul
      simp only [smallI_iff, Bool.or_eq_true] at z
      rcases z with z | z
      · exact .inl ⟨by omega, by omega⟩
      · exact .inr ⟨by omega, by omega⟩
    · cases e
  · obtain rfl := top_int m h1 e1; obtain rfl := top_int m h2 e2
    split at e
    · rename_i z
      cases Option.some.inj e
      exact ⟨_, _, rfl, rfl, z, qq_int m q⟩
    · cases e
  · obtain rfl := top_int m h1 e1; obtain rfl := top_int m h2 e2
    split at e
    · rename_i z
      cases Option.some.inj e
      exact ⟨_, _, rfl, rfl, z, qq_int m q⟩
    · cases e
  · obtain rfl := top_int m h1 e1; obtain rfl := top_int m h2 e2
    split at e
    · rename_i z
      cases Option.some.inj e
      simp only [powOk, Bool.and_eq_true, decide_eq_true_eq] at z
      exact ⟨_, _, rfl, rfl, ⟨z.1.1, z.1.2, by omega⟩, qq_int m q⟩
    · cases e
  · obtain ⟨rfl, k1⟩ := top_str m h1 e1; obtain ⟨rfl, k2⟩ := top_str m h2 e2
    split at e
    · rename_i z
      cases Option.some.inj e
      refine .inr (.inl ⟨_, _, rfl, rfl, ?_, ?_⟩)
      · rw [mkS_len, mkS_len]; omega
      · rw [mkS_append]; exact qq_str m (okS_append k1 k2) q
    · cases e
  · obtain ⟨a, vs, rfl, ra, r1⟩ := top_lst m h1 e1; obtain ⟨b, ws, rfl, rb, r2⟩ := top_lst m h2 e2
    split at e
    · rename_i z
      cases Option.some.inj e
      exact .inr (.inr (.inl ⟨a, b, vs, ws, rfl, rfl, ra, rb, by rw [r1.length, r2.length]; omega, new_list m (r1.append r2) q⟩))
    · cases e
  · obtain ⟨a, vs, rfl, ra, r1⟩ := top_tup m h1 e1; obtain ⟨b, ws, rfl, rb, r2⟩ := top_tup m h2 e2
    split at e
    · rename_i z
      cases Option.some.inj e
      have l1 := r1.length
      have l2 := r2.length
      refine .inr (.inr (.inr ⟨a, b, vs, ws, rfl, rfl, ra, rb, by omega, fun n => ?_, fun n1 n2 => ?_, fun n1 n2 => new_tup m (r1.append r2) q⟩))
      · subst n
        cases r1
        exact qq_at m (.tup rb r2) q fun _ z => z.elim
      · subst n2
        cases r2
        simp only [List.append_nil] at q
        exact qq_at m (.tup ra r1) q fun _ z => z.elim
    · cases e
  · obtain ⟨a, vs, rfl, ra, r1⟩ := top_lst m h1 e1; obtain rfl := top_int m h2 e2
    split at e
    · rename_i z
      cases Option.some.inj e
      have l1 := r1.length
      exact .inr (.inl ⟨a, _, vs, rfl, rfl, ra, by omega, by omega, by rw [l1]; omega, new_list m (r1.rep _) q⟩)
    · cases e
  · obtain ⟨rfl, k1⟩ := top_str m h1 e1; obtain rfl := top_int m h2 e2
    split at e
    · rename_i z
      cases Option.some.inj e
      exact .inr (.inr ⟨_, _, rfl, rfl, z.1, z.2.1, z.2.2, qq_str m (okS_rep k1 _) q⟩)
    · cases e
  · cases e
end
theorem one_of {α β : Type} {f : α → β} {d : β} {l : List α} (h : [d] = l.map f) : ∃ p, l = [p] := by
  match l, h with
  | [p], _ => exact ⟨p, rfl⟩
/-- a dict that is not unlike itself -/
def rNeK : R2 := fun x y H Q => ∃ a b kvs1 kvs2, x = .ref a ∧ y = .ref b ∧ Rd H a (.dK kvs1) ∧ Rd H b (.dK kvs2) ∧ ((kvs1 = [] ∧ kvs2 = []) ∨ ∃ (k : Key) (t : Bool), kvs1 = [(k, .bl t)] ∧ kvs2 = [(k, .bl t)]) ∧ Q (.bl false) H
theorem op_neK {X : Cx} (hu : X.A.units + 65 < cLine) : OpR X (compareOp .NotEq) rNeK := by
  intro pins s σ H x y v u Q I rx ry h
  obtain ⟨a, b, k1, k2, rfl, rfl, ha, hb, hc, q⟩ := h
  obtain rfl : v = Value.ref a := rx
  obtain rfl : u = Value.ref b := ry
  obtain ⟨_, na, vs1, r1, d1⟩ := dk_rd I.hok ha
  obtain ⟨_, nb, vs2, r2, d2⟩ := dk_rd I.hok hb
  have fin : vs1.length = vs2.length ∧ PySem.W.KeqHits X.A.in1 s vs2 vs1 true := by
    rcases hc with ⟨rfl, rfl⟩ | ⟨k, t, rfl, rfl⟩
    · cases r1; cases r2; exact ⟨rfl, .nil⟩
    · cases r1 with
      | @cons p1 q1 _ _ h1 t1 =>
        cases t1
        cases r2 with
        | @cons p2 q2 _ _ h2 t2 =>
          cases t2
          obtain ⟨a1, b1⟩ := q1
          obtain ⟨a2, b2⟩ := q2
          obtain ⟨e1, e2⟩ := h1
          obtain ⟨e3, e4⟩ := h2
          simp only at e1 e2 e3 e4
          subst e1 e3
          obtain rfl : b1 = Value.bool t := e2
          obtain rfl : b2 = Value.bool t := e4
          exact ⟨rfl, PySem.W.KeqHits.hit (e := true) (b := true) (by simp [valueAt]) (SeqAt.EqAt.same _) .nil⟩
  refine PySem.W.keq_ne na nb d1 d2 (by omega) (fun _ => fin.2) ?_
  rw [fin.1]
  simp only [beq_self_eq_true, Bool.and_self, Bool.not_true]
  exact ⟨.bl false, H, I, rfl, q⟩
/-- x in a tuple, by data -/
def rInT (K : PySem.W.Frag) : R2 := fun x y H Q => ∃ d ds, Dp K H x d ∧ Dp K H y (.tuple ds) ∧ SeqAt.shaped d = true ∧ SeqAt.shaped (.tuple ds) = true ∧ Q (.bl (ds.any fun z => PyData.eqv z d)) H
def rNotInT (K : PySem.W.Frag) : R2 := fun x y H Q => ∃ d ds, Dp K H x d ∧ Dp K H y (.tuple ds) ∧ SeqAt.shaped d = true ∧ SeqAt.shaped (.tuple ds) = true ∧ Q (.bl (!ds.any fun z => PyData.eqv z d)) H
section
variable {X : Cx}
theorem op_inT (hu : X.A.units + 65 < cLine) : OpR X (compareOp .In) (rInT X.K) := by
  intro pins s σ H x y v u Q I rx ry h
  obtain ⟨d, ds, hd, he, sd, se, q⟩ := h
  obtain ⟨as, r1⟩ := Dp.reads I d x v hd rx
  obtain ⟨bs, r2⟩ := Dp.reads I (.tuple ds) y u he ry
  exact SeqAt.in_tuple_reads r2 r1 (SeqAt.canLay_of_shaped se) (SeqAt.canLay_of_shaped sd) (room_in_shaped sd hu) ⟨.bl _, H, I, rfl, q⟩
theorem op_notInT (hu : X.A.units + 65 < cLine) : OpR X (compareOp .NotIn) (rNotInT X.K) := by
  intro pins s σ H x y v u Q I rx ry h
  obtain ⟨d, ds, hd, he, sd, se, q⟩ := h
  obtain ⟨as, r1⟩ := Dp.reads I d x v hd rx
  obtain ⟨bs, r2⟩ := Dp.reads I (.tuple ds) y u he ry
  exact SeqAt.notIn_tuple_reads r2 r1 (SeqAt.canLay_of_shaped se) (SeqAt.canLay_of_shaped sd) (room_in_shaped sd hu) ⟨.bl _, H, I, rfl, q⟩
end
def rCmp (K : PySem.W.Frag) (hs : NestedKey → Int) : CO → R2
  | .din => rDin K hs
  | .dnin => rDnin K hs
  | .xne => fun x y H Q => rNeD K x y H Q ∨ rNeK x y H Q
  | .lt => rI0 fun i j => .bl (decide (i < j))
  | .le => rI0 fun i j => .bl (decide (i ≤ j))
  | .gt => rI0 fun i j => .bl (decide (j < i))
  | .ge => rI0 fun i j => .bl (decide (j ≤ i))
  | .eq => rEqD K
  | .ne => rNeD K
  | .isN => fun x y H Q => (y = .non ∧ Q (.bl (decide (x = .non))) H) ∨ ∃ b, y = .bl b ∧ PlnV x ∧ Q (.bl (decide (x = .bl b))) H
  | .notN => fun x y H Q => (y = .non ∧ Q (.bl (!decide (x = .non))) H) ∨ ∃ b, y = .bl b ∧ PlnV x ∧ Q (.bl (!decide (x = .bl b))) H
  | .isin => fun x y H Q => (∃ (c : Nat) (z : Str), x = .str ⟨#[c]⟩ ∧ y = .str z ∧ Q (.bl (decide (c ∈ z.cps.toList))) H) ∨ rInD K x y H Q ∨ rInT K x y H Q
  | .notin => fun x y H Q => (∃ (c : Nat) (z : Str), x = .str ⟨#[c]⟩ ∧ y = .str z ∧ Q (.bl (!decide (c ∈ z.cps.toList))) H) ∨ rNotInD K x y H Q ∨ rNotInT K x y H Q
theorem opR_cmp {X : Cx} (hu : X.A.units + 65 < cLine) (o : CO) : OpR X (compareOp o.op) (rCmp X.K (fun k => k.hash X.w) o) := by
  cases o with
  | din => exact op_din hu
  | dnin => exact op_dnin hu
  | lt => exact op_lt
  | le => exact op_le
  | gt => exact op_gt
  | ge => exact op_ge
  | xne => exact (op_neD (by omega)).or (op_neK hu)
  | eq => exact op_eqD (by omega)
  | ne => exact op_neD (by omega)
  | isN => exact op_isN.or op_isB
  | notN => exact op_notN.or op_notB
  | isin => exact op_in_sign.or ((op_inD hu).or (op_inT hu))
  | notin => exact op_notIn_sign.or ((op_notInD hu).or (op_notInT hu))
section
variable {G : Gc} {φ : List Addr} {μ : Mem} {H : Hp} {x y : V} {d d1 d2 : D} {fr : Bool} {Q : VK}
theorem toPs_any (d : D) (p : pure0 d = true) : ∀ es : List D, pures es = true → ((toPs es).any fun z => PyData.eqv z (toP d)) = es.any fun e => eqD e d
  | [], _ => rfl
  | e :: es, q => by
    have q' : pure0 e = true ∧ pures es = true := by simpa [pures] using q
    rw [toPs, List.any_cons, List.any_cons, eqv_toP e d q'.1 p, toPs_any d p es q'.2]
/-- what a comparison asks of its data -/
def cmpX (o : CO) (μ : Mem) (d : D) : D := match o with | .xne => res μ d | .eq => res μ d | .ne => res μ d | .isin => res μ d | .notin => res μ d | _ => top μ d
theorem rq_imm {d : D} {v : V} (h : Rq G φ H v d) : (∀ i, d = .int i → v = .int i) ∧ (∀ x, d = .str x → v = .str (mkS x) ∧ okS x = true) := by
  refine ⟨fun i e => ?_, fun x e => ?_⟩
  · subst e; cases h; rfl
  · subst e; cases h with | str _ k => exact ⟨rfl, k⟩
theorem is_non (m : Ms G φ μ H) (h : G.rp φ μ H x d) : decide (x = V.non) = isNon (top μ d) := by
  cases h with
  | cel h =>
    rename_i a n
    simp only [top]
    split
    · rename_i k
      rcases m.notP h k with ⟨_, z⟩ | ⟨_, _, z⟩ | ⟨_, _, z⟩ <;> (subst z; simp [isNon])
    · simp [isNon]
  | _ => simp [isNon, top]
theorem pln_of (h : G.rp φ μ H x d) : PlnV x := by
  cases h with
  | non => exact .inl rfl
  | bl b => exact .inr (.inl ⟨b, rfl⟩)
  | int i => exact .inr (.inr (.inl ⟨i, rfl⟩))
  | str x h => exact .inr (.inr (.inr (.inl ⟨_, rfl⟩)))
  | _ => exact .inr (.inr (.inr (.inr ⟨_, rfl⟩)))
theorem is_tru {b : Bool} (m : Ms G φ μ H) (h : G.rp φ μ H x d) : decide (x = V.bl b) = isTru b (top μ d) := by
  cases h with
  | cel h =>
    rename_i a n
    simp only [top]
    split
    · rename_i k
      rcases m.notP h k with ⟨_, z⟩ | ⟨_, _, z⟩ | ⟨_, _, z⟩ <;> (subst z; simp [isTru])
    · simp [isTru]
  | bl c => simp [isTru, top]
  | _ => simp [isTru, top]
/-- a key is no cell -/
theorem top_key {k : D} {ks : List D} (m : Ms G φ μ H) (h : G.rp φ μ H x d1) (e : top μ d1 = k) (ok : dOk k ks = true) : G.rp φ μ H x k := by
  cases h with
  | cel h =>
    exfalso
    simp only [top] at e
    split at e
    · rename_i q
      rcases m.notP h q with ⟨_, z⟩ | ⟨_, _, z⟩ | ⟨_, _, z⟩ <;> (subst z; subst e; simp [dOk, tupK, mixD] at ok)
    · subst e; simp [dOk, tupK, mixD] at ok
  | non => subst e; exact .non
  | bl b => subst e; exact .bl b
  | int b => subst e; exact .int b
  | str b h => subst e; exact .str b h
  | tup h r => subst e; exact .tup h r
  | _ => subst e; simp [dOk, tupK, mixD, top] at ok
theorem cmp_ok (m : Ms G φ μ H) {o : CO} (h1 : G.rp φ μ H x d1) (h2 : G.rp φ μ H y d2) (e : cmpE o (cmpX o μ d1) (cmpX o μ d2) = some d) (q : QQ G φ μ H μ fr d Q) : rCmp G.K G.cl.hs o x y H Q := by
  have eqs : ∀ t1 t2 : D, Rq G φ H x t1 → Rq G φ H y t2 → pd 64 t1 = true → pd 64 t2 = true → ∃ a b, Dp G.K H x a ∧ Dp G.K H y b ∧ SeqAt.shaped a = true ∧ SeqAt.shaped b = true ∧ PyData.eqv a b = eqD t1 t2 := fun t1 t2 r1 r2 p1 p2 => by
    obtain ⟨a1, a2⟩ := pd_inv _ _ p1
    obtain ⟨b1, b2⟩ := pd_inv _ _ p2
    exact ⟨_, _, dp_of _ _ a1 r1, dp_of _ _ b1 r2, shaped_of r1 a2, shaped_of r2 b2, eqv_toP _ _ a1 b1⟩
  cases o
  case xne =>
    have r1 := res_ok m h1; have r2 := res_ok m h2
    simp only [cmpX] at e
    generalize res μ d1 = t1 at e r1
    generalize res μ d2 = t2 at e r2
    simp only [cmpE] at e
    split at e
    · rename_i z
      cases Option.some.inj e
      refine .inr ?_
      unfold dctE at z
      split at z
      · cases r1 with
        | dcn h n hd f t k kr r => cases t
        | dct h n k r =>
          cases r2 with
          | dcn h n hd f t k kr r => cases t
          | dct h' n' k' r' =>
            obtain ⟨kv1, rfl, e1, _, _⟩ := k
            obtain ⟨kv2, rfl, e2, _, _⟩ := k'
            have z1 : kv1 = [] := List.map_eq_nil_iff.mp e1.symm
            have z2 : kv2 = [] := List.map_eq_nil_iff.mp e2.symm
            exact ⟨_, _, _, _, rfl, rfl, h, h', .inl ⟨z1, z2⟩, qq_bl m q⟩
      · simp only [Bool.and_eq_true, decide_eq_true_eq] at z
        obtain ⟨rfl, rfl⟩ := z
        cases r1 with
        | dcn h n hd f t k kr r => cases t
        | dct h n k r =>
          cases r2 with
          | dcn h n hd f t k kr r => cases t
          | dct h' n' k' r' =>
            obtain ⟨kv1, rfl, e1, o1, w1⟩ := k
            obtain ⟨kv2, rfl, e2, o2, w2⟩ := k'
            obtain ⟨⟨p1, v1⟩, rfl⟩ := one_of e1
            obtain ⟨⟨p2, v2⟩, rfl⟩ := one_of e2
            simp only [List.map_cons, List.map_nil, List.cons.injEq, and_true] at e1 e2 w1 w2
            have pe : p1 = p2 := by
              have e3 := e1.symm.trans e2
              cases p1 with
              | inl i => cases e1
              | inr x1 =>
                cases p2 with
                | inl i => cases e2
                | inr x2 =>
                  simp only [kD, D.str.injEq] at e3
                  have : x1.cps = x2.cps := Array.toList_inj.mp e3
                  cases x1; cases x2; simp only at this; rw [this]
            subst w1 w2 pe
            cases r with
            | cons a1 _ => cases a1; cases r' with
              | cons a2 _ => cases a2; exact ⟨_, _, _, _, rfl, rfl, h, h', .inr ⟨_, _, rfl, rfl⟩, qq_bl m q⟩
      · cases z
    · split at e
      · rename_i z
        rw [Bool.and_eq_true] at z
        cases Option.some.inj e
        obtain ⟨a, b, k1, k2, k3, k4, k5⟩ := eqs _ _ r1 r2 z.1 z.2
        exact .inl ⟨a, b, k1, k2, k3, k4, by rw [k5]; exact qq_bl m q⟩
      · cases e
  case eq =>
    have r1 := res_ok m h1; have r2 := res_ok m h2
    simp only [cmpX] at e
    generalize res μ d1 = t1 at e r1
    generalize res μ d2 = t2 at e r2
    simp only [cmpE] at e
    split at e
    · rename_i z
      rw [Bool.and_eq_true] at z
      cases Option.some.inj e
      obtain ⟨a, b, k1, k2, k3, k4, k5⟩ := eqs _ _ r1 r2 z.1 z.2
      exact ⟨a, b, k1, k2, k3, k4, by rw [k5]; exact qq_bl m q⟩
    · cases e
  case ne =>
    have r1 := res_ok m h1; have r2 := res_ok m h2
    simp only [cmpX] at e
    generalize res μ d1 = t1 at e r1
    generalize res μ d2 = t2 at e r2
    simp only [cmpE] at e
    split at e
    · rename_i z
      rw [Bool.and_eq_true] at z
      cases Option.some.inj e
      obtain ⟨a, b, k1, k2, k3, k4, k5⟩ := eqs _ _ r1 r2 z.1 z.2
      exact ⟨a, b, k1, k2, k3, k4, by rw [k5]; exact qq_bl m q⟩
    · cases e
  case isin =>
    have r1 := res_ok m h1; have r2 := res_ok m h2
    simp only [cmpX] at e
    generalize res μ d1 = t1 at e r1
    generalize res μ d2 = t2 at e r2
    unfold cmpE at e
    split at e <;> rename_i zz <;> try cases zz
    · cases Option.some.inj e
      obtain ⟨rfl, _⟩ := (rq_imm r1).2 _ rfl
      obtain ⟨rfl, _⟩ := (rq_imm r2).2 _ rfl
      exact .inl ⟨_, _, rfl, rfl, qq_bl m q⟩
    · split at e
      · rename_i z
        rw [Bool.and_eq_true] at z
        cases Option.some.inj e
        obtain ⟨a1, a2⟩ := pd_inv _ _ z.1
        obtain ⟨b1, b2⟩ := pd_inv _ _ z.2
        have b1' := b1; simp only [pure0] at b1'
        refine .inr (.inl ⟨_, _, dp_of _ _ a1 r1, dp_of (.lst _) _ b1 r2, shaped_of r1 a2, shaped_of (d := .lst _) r2 b2, ?_⟩)
        rw [toPs_any _ a1 _ b1']
        exact qq_bl m q
      · cases e
    · split at e
      · rename_i z
        rw [Bool.and_eq_true] at z
        cases Option.some.inj e
        obtain ⟨a1, a2⟩ := pd_inv _ _ z.1
        obtain ⟨b1, b2⟩ := pd_inv _ _ z.2
        have b1' := b1; simp only [pure0] at b1'
        refine .inr (.inr ⟨_, _, dp_of _ _ a1 r1, dp_of (.tup _) _ b1 r2, shaped_of r1 a2, shaped_of (d := .tup _) r2 b2, ?_⟩)
        rw [toPs_any _ a1 _ b1']
        exact qq_bl m q
      · cases e
    · cases e
  case notin =>
    have r1 := res_ok m h1; have r2 := res_ok m h2
    simp only [cmpX] at e
    generalize res μ d1 = t1 at e r1
    generalize res μ d2 = t2 at e r2
    unfold cmpE at e
    split at e <;> rename_i zz <;> try cases zz
    · cases Option.some.inj e
      obtain ⟨rfl, _⟩ := (rq_imm r1).2 _ rfl
      obtain ⟨rfl, _⟩ := (rq_imm r2).2 _ rfl
      exact .inl ⟨_, _, rfl, rfl, qq_bl m q⟩
    · split at e
      · rename_i z
        rw [Bool.and_eq_true] at z
        cases Option.some.inj e
        obtain ⟨a1, a2⟩ := pd_inv _ _ z.1
        obtain ⟨b1, b2⟩ := pd_inv _ _ z.2
        have b1' := b1; simp only [pure0] at b1'
        refine .inr (.inl ⟨_, _, dp_of _ _ a1 r1, dp_of (.lst _) _ b1 r2, shaped_of r1 a2, shaped_of (d := .lst _) r2 b2, ?_⟩)
        rw [toPs_any _ a1 _ b1']
        exact qq_bl m q
      · cases e
    · split at e
      · rename_i z
        rw [Bool.and_eq_true] at z
        cases Option.some.inj e
        obtain ⟨a1, a2⟩ := pd_inv _ _ z.1
        obtain ⟨b1, b2⟩ := pd_inv _ _ z.2
        have b1' := b1; simp only [pure0] at b1'
        refine .inr (.inr ⟨_, _, dp_of _ _ a1 r1, dp_of (.tup _) _ b1 r2, shaped_of r1 a2, shaped_of (d := .tup _) r2 b2, ?_⟩)
        rw [toPs_any _ a1 _ b1']
        exact qq_bl m q
      · cases e
    · cases e
  all_goals
    simp only [cmpX] at e
    generalize e1 : top μ d1 = t1 at e
    generalize e2 : top μ d2 = t2 at e
    unfold cmpE at e
    split at e <;> rename_i zz <;> try cases zz
  · obtain rfl := top_int m h1 e1; obtain rfl := top_int m h2 e2
    cases Option.some.inj e
    exact ⟨_, _, rfl, rfl, qq_bl m q⟩
  · cases e
  · obtain rfl := top_int m h1 e1; obtain rfl := top_int m h2 e2
    cases Option.some.inj e
    exact ⟨_, _, rfl, rfl, qq_bl m q⟩
  · cases e
  · obtain rfl := top_int m h1 e1; obtain rfl := top_int m h2 e2
    cases Option.some.inj e
    exact ⟨_, _, rfl, rfl, qq_bl m q⟩
  · cases e
  · obtain rfl := top_int m h1 e1; obtain rfl := top_int m h2 e2
    cases Option.some.inj e
    exact ⟨_, _, rfl, rfl, qq_bl m q⟩
  · cases e
  · obtain rfl := top_non m h2 e2
    cases Option.some.inj e
    refine .inl ⟨rfl, ?_⟩
    have k := is_non m h1; rw [e1] at k
    rw [k]; exact qq_bl m q
  · obtain rfl := top_bl m h2 e2
    cases Option.some.inj e
    refine .inr ⟨_, rfl, pln_of h1, ?_⟩
    have k := is_tru (b := ‹Bool›) m h1; rw [e1] at k
    rw [k]; exact qq_bl m q
  · cases e
  · obtain rfl := top_non m h2 e2
    cases Option.some.inj e
    refine .inl ⟨rfl, ?_⟩
    have k := is_non m h1; rw [e1] at k
    rw [k]; exact qq_bl m q
  · obtain rfl := top_bl m h2 e2
    cases Option.some.inj e
    refine .inr ⟨_, rfl, pln_of h1, ?_⟩
    have k := is_tru (b := ‹Bool›) m h1; rw [e1] at k
    rw [k]; exact qq_bl m q
  · cases e
  · split at e
    · rename_i ok
      cases Option.some.inj e
      obtain ⟨a, rfl, hx⟩ := top_dct m h2 e2
      have hk : Rp G.cl G.K φ H (G.N φ μ) x _ := top_key m h1 e1 ok
      obtain ⟨o, g, hs, _⟩ := dg_of hx hk ok
      exact ⟨a, o, rfl, g, by rw [hs]; exact qq_bl m q⟩
    · cases e
  · cases e
  · split at e
    · rename_i ok
      cases Option.some.inj e
      obtain ⟨a, rfl, hx⟩ := top_dct m h2 e2
      have hk : Rp G.cl G.K φ H (G.N φ μ) x _ := top_key m h1 e1 ok
      obtain ⟨o, g, hs, _⟩ := dg_of hx hk ok
      exact ⟨a, o, rfl, g, by rw [hs]; exact qq_bl m q⟩
    · cases e
  · cases e
end
end DM
set_option Elab.async false
set_option linter.all false
set_option maxRecDepth 100000
set_option maxHeartbeats 4000000
namespace DM
open PySem L2 PySem.Spec PyProof.Rows PySem.W PySem.Calls
def alkB (ds : List D) : Bool := ds.all fun d => ds.all fun e => alike (toP d) (toP e)
def tupB : D → Bool | .tup (_ :: _) => true | _ => false
def othB : D → Bool | .bl _ => true | .int _ => true | .str _ => true | .lst _ => true | _ => false
def srtOk (ds : List D) : Bool := pds 60 ds && alkB ds && (ds.all tupB || ds.all othB) && decide (ds.length ≤ 16777216)
def srtD (ds : List D) : List D := ds.mergeSort (dataLe false toP)
def srtC (x : List Nat) : List Nat := x.mergeSort (dataLe false fun c => PyData.str ⟨#[c]⟩)
mutual
theorem depth_of : ∀ (n : Nat) (d : D), pd n d = true → (toP d).depth ≤ n
  | n, .non, _ => by simp [toP, PyData.depth]
  | n, .bl _, _ => by simp [toP, PyData.depth]
  | n, .int _, _ => by simp [toP, PyData.depth]
  | n, .str _, _ => by simp [toP, PyData.depth]
  | n, .ins _ _, h => by simp [pd] at h
  | n, .dct _ _, h => by simp [pd] at h
  | n, .exc _ _, h => by simp [pd] at h
  | n, .cel _, h => by simp [pd] at h
  | 0, .lst xs, h => by simp [pd] at h
  | 0, .tup xs, h => by simp [pd] at h
  | n + 1, .lst xs, h => by
    have := depths_of n xs (by simpa [pd] using h)
    simp only [toP, PyData.depth]; omega
  | n + 1, .tup xs, h => by
    have := depths_of n xs (by simpa [pd] using h)
    simp only [toP, PyData.depth]; omega
theorem depths_of : ∀ (n : Nat) (ds : List D), pds n ds = true → PyData.depthAll (toPs ds) ≤ n
  | n, [], _ => by simp [toPs, PyData.depthAll]
  | n, x :: xs, h => by
    have h' : pd n x = true ∧ pds n xs = true := by simpa [pds] using h
    have h1 := depth_of n x h'.1
    have h2 := depths_of n xs h'.2
    simp only [toPs, PyData.depthAll]; omega
end
theorem pds_mem : ∀ {n : Nat} {ds : List D}, pds n ds = true → ∀ d ∈ ds, pd n d = true
  | n, [], _, d, hd => by cases hd
  | n, x :: xs, h, d, hd => by
    have h' : pd n x = true ∧ pds n xs = true := by simpa [pds] using h
    rcases List.mem_cons.mp hd with e | e
    · rw [e]; exact h'.1
    · exact pds_mem h'.2 d e
theorem eachis_mem {α β : Type} {R R' : α → β → Prop} {vs : List α} {bs : List β} (h : EachIs R vs bs) (k : ∀ v b, b ∈ bs → R v b → R' v b) : EachIs R' vs bs := by
  induction h with
  | nil => exact .nil
  | cons h1 t ih => exact .cons (k _ _ (by simp) h1) (ih fun v b hb => k v b (by simp [hb]))
theorem vals_each {β : Type} {f : β → V} : ∀ {bs : List β} {us : List Value}, Vals (bs.map f) us → EachIs (fun u b => RelV (f b) u) us bs
  | [], us, h => by
    have h' : Vals [] us := h
    cases h'; exact .nil
  | b :: bs, us, h => by
    have h' : Vals (f b :: bs.map f) us := h
    cases h' with
    | cons h1 t => exact .cons h1 (vals_each t)
theorem each_vals {β : Type} {f : β → V} : ∀ {bs : List β} {us : List Value}, EachIs (fun u b => RelV (f b) u) us bs → Vals (bs.map f) us
  | _, _, .nil => .nil
  | _, _, .cons h t => .cons h (each_vals t)
def rSrt (K : PySem.W.Frag) : List V → Hp → VK → Prop := fun xs H Q =>
  (∃ (a : Addr) (bs : List (V × D)), xs = [.ref a] ∧ SqL K H a (bs.map (·.1)) ∧ (∀ b ∈ bs, Dp K H b.1 (toP b.2)) ∧ srtOk (bs.map (·.2)) = true ∧
    ∀ p, H p = none → Q (.ref p) (upd H p (.lst ((bs.mergeSort (dataLe false fun b => toP b.2)).map (·.1))))) ∨
  (∃ x : List Nat, xs = [.str (mkS x)] ∧ x.length ≤ 16777216 ∧ ∀ p, H p = none → Q (.ref p) (upd H p (.lst ((srtC x).map fun c => V.str ⟨#[c]⟩))))
section
variable {prog : Program} {w : World} {A : Around} {E : Value → Shared → Prop} {s : Shared}
theorem strs_alike (x : List Nat) : AllAlike (x.map fun c => PyData.str ⟨#[c]⟩) := AllAlike.of fun _ _ => rfl
theorem sorted_str {x : Str} {t : Tok} {Q : Value → Shared → Prop} (hh : A.handled = none) (hn : x.cps.size ≤ sizeLine) (hu : A.units + 3 < cLine)
    (h : ∀ a h' tk c (out : List Value), (∀ b o, s.heap.get? b = some o → h'.get? b = some o) → s.heap.get? a = none → h'.get? a = some (listOf out.toArray c) → EachIs (fun v c => ∃ u, v = .str ⟨#[c]⟩ u) out (x.cps.toList.mergeSort (dataLe false fun c => PyData.str ⟨#[c]⟩)) → Q (.ref a) { s with heap := h', toks := tk }) :
    wpAny (model prog w) A (call (.builtin "sorted") [.str x t]) Q E s := by
  refine call_function_entry_kw kind_sorted plain_sorted entry_sorted (args_sorted1 _) ?_
  unfold Builtin.«sorted»
  refine wpAny_bind (m := checkCount "sorted" 1 1 _) (wpAny_pure ?_)
  refine wpAny_bind (wpAny_collect_str (by exact hh) x t (fun s' acc hk hg hd ho hi => ?_) hn)
  obtain ⟨hp, g, d, tk, os⟩ := s'
  dsimp only at hk hg hd ho
  subst hg hd ho
  have hsz : acc.toList.length = x.cps.size := by rw [Array.length_toList]; exact hi.1
  refine wpAny_bind (wpAny_newList ?_ (by rw [hsz]; exact hn))
  have ev : EachIs (fun v c => ∃ u, v = Value.str ⟨#[c]⟩ u) acc.toList x.cps.toList := by
    have go : ∀ (us : List Value) (cs : List Nat), us.length = cs.length → (∀ (j : Nat) v, us[j]? = some v → ∃ c u, cs[j]? = some c ∧ v = .str ⟨#[c]⟩ u) → EachIs (fun v c => ∃ u, v = Value.str ⟨#[c]⟩ u) us cs := by
      intro us
      induction us with
      | nil => intro cs e _; cases cs with
        | nil => exact .nil
        | cons c cs => cases e
      | cons u us ih => intro cs e hj; cases cs with
        | nil => cases e
        | cons c cs =>
          refine .cons ?_ (ih cs (by simpa using e) fun j v hv => hj (j + 1) v (by simpa using hv))
          obtain ⟨c', u', e1, e2⟩ := hj 0 u rfl
          simp only [List.getElem?_cons_zero, Option.some.injEq] at e1
          subst e1
          exact ⟨u', e2⟩
    refine go _ _ (by simpa using hsz) fun j v hj => ?_
    rw [Array.getElem?_toList] at hj
    obtain ⟨c, u, e1, e2⟩ := hi.2 j v hj
    exact ⟨c, u, by rw [Array.getElem?_toList]; exact e1, e2⟩
  have ha : (hp.push (seqObj "list" acc.toList.toArray 0)).get? hp.objs.size = some (seqObj "list" acc.toList.toArray 0) := Heap.get?_push_size _ rfl
  refine wpAny_bind (wpAny_holding ?_)
  refine list_sort_data (bs := x.cps.toList) (enc := fun c => PyData.str ⟨#[c]⟩) (R := fun v c => ∃ u, v = Value.str ⟨#[c]⟩ u) (n := 0) (vs := acc.toList) ha ev (ev.mono fun v c z => by
      obtain ⟨u, rfl⟩ := z
      exact ⟨[], Reads.str _ _, by simp⟩) (strs_alike _) (Sortable.others fun c => ⟨by simp, by simp⟩) (by rw [Array.length_toList]; exact hn) (fun c _ => by simp only [PyData.depth]; show A.units + 1 + 1 + 0 < cLine; omega) fun out hl eo => ?_
  obtain ⟨c, hc⟩ := sortedHeap_at (vs := acc.toList) (out := out.toArray) ha
  refine wpAny_pure ⟨_, rfl, ?_⟩
  refine h hp.objs.size _ _ c out (fun b o e => ?_) ?_ hc eo
  · have lt := Heap.lt_size (hk b o e)
    rw [sortedHeap_old (Nat.ne_of_lt lt) (by rw [Heap.size_push]; exact Nat.lt_succ_of_lt lt)]
    exact Heap.get?_push_of_some _ (hk b o e)
  · cases e : s.heap.get? hp.objs.size with
    | none => rfl
    | some o => exact absurd (Heap.lt_size (hk _ o e)) (Nat.lt_irrefl _)
end
section
variable {X : Cx}
theorem sortable_of {ds : List D} (h : (ds.all tupB || ds.all othB) = true) : Sortable (ds.map toP) := by
  rw [Bool.or_eq_true] at h
  rcases h with h | h
  · refine .inl fun d hd => ?_
    obtain ⟨e, he, rfl⟩ := List.mem_map.mp hd
    have := List.all_eq_true.mp h e he
    unfold tupB at this
    split at this
    · rename_i x r; exact ⟨toP x, toPs r, by simp [toP, toPs]⟩
    · cases this
  · refine .inr fun d hd => ?_
    obtain ⟨e, he, rfl⟩ := List.mem_map.mp hd
    have := List.all_eq_true.mp h e he
    unfold othB at this
    split at this <;> first | (cases this; done) | exact ⟨by simp [toP], by simp [toP]⟩
theorem alike_of {ds : List D} (h : alkB ds = true) : AllAlike (ds.map toP) := fun d hd e he => by
  obtain ⟨a, ha, rfl⟩ := List.mem_map.mp hd
  obtain ⟨b, hb, rfl⟩ := List.mem_map.mp he
  exact List.all_eq_true.mp (List.all_eq_true.mp h a ha) b hb
theorem callR_srt (hc : X.calm = true) (hu : X.A.units + 65 < cLine) : CallR X (.builtin "sorted") (rSrt X.K) := by
  intro pins s σ H xs us Q I r h
  rcases h with ⟨a, bs, rfl, hs, hd, ok, q⟩ | ⟨x, rfl, hx, q⟩
  · unfold srtOk at ok
    simp only [Bool.and_eq_true, decide_eq_true_eq] at ok
    obtain ⟨⟨⟨k1, k2⟩, k3⟩, k4⟩ := ok
    obtain ⟨its, rv, hl, _⟩ := I.list hs
    rw [Vals.ref1 r]
    have ev := vals_each (f := fun b : V × D => b.1) rv
    have hal : AllAlike (bs.map fun b => toP b.2) := by
      have := alike_of k2
      rw [List.map_map] at this
      exact this
    have hk : Sortable (bs.map fun b => toP b.2) := by
      have := sortable_of k3
      rw [List.map_map] at this
      exact this
    rw [List.length_map] at k4
    refine sorted_data (bs := bs) (enc := fun b => toP b.2) (R := fun u b => RelV b.1 u) hl.isList ev (eachis_mem ev fun u b hb z => (hd b hb).reads I _ _ _ z) hal hk (by rw [sizeLine_eq]; exact k4) (fun b hb => ?_) fun out ho eo => ?_
    · have := depth_of 60 b.2 (pds_mem k1 _ (List.mem_map.mpr ⟨b, hb, rfl⟩))
      omega
    · obtain ⟨ep, he'⟩ := PyProof.Rows.sortedAll_at s.heap its out.toArray
      refine ⟨.ref _, upd H (s.heap.objs.size + 1) (.lst ((bs.mergeSort (dataLe false fun b => toP b.2)).map (·.1))), I.laid (t' := s.toks) (fun _ _ => PyProof.Rows.sortedAll_old) (Nat.le_succ _) ⟨?_, out, ep, each_vals eo, he'⟩, rfl, q _ (I.hok.fresh (Nat.le_succ _))⟩
      rw [List.length_map, List.length_mergeSort, sizeLine_eq]; exact k4
  · obtain ⟨u, rfl, t, rfl⟩ : ∃ u, us = [u] ∧ ∃ t, u = Value.str (mkS x) t := by
      cases r with
      | cons a b => cases b; exact ⟨_, rfl, a⟩
    have e0 : (mkS x).cps.toList = x := by simp [mkS]
    have e1 : (mkS x).cps.size = x.length := by simp [mkS]
    refine sorted_str (I.ok.hd hc) (by rw [e1, sizeLine_eq]; exact hx) (by omega) fun a h' tk c out hk hp ha eo => ?_
    have hn : H a = none := I.hok.gone hp
    rw [e0] at eo
    refine ⟨.ref a, _, Inv.laidN (t' := tk) (o := .lst ((srtC x).map fun c => V.str ⟨#[c]⟩)) I hk hp hn ⟨?_, out, c, ?_, ha⟩, rfl, q a hn⟩
    · unfold srtC
      rw [List.length_map, List.length_mergeSort, sizeLine_eq]; exact hx
    · exact each_vals (f := fun c : Nat => V.str ⟨#[c]⟩) (eo.mono fun v c z => z)
end
end DM
set_option Elab.async false
set_option linter.all false
set_option maxRecDepth 100000
set_option maxHeartbeats 4000000
namespace DM
open PySem L2 PySem.Spec PyProof.Rows RT
theorem norev_str : typeLookup (.type "str") "__reversed__" = pure none := by rw [typeLookup_type, builtinLookup_eq_fast]; kernel_rfl
theorem nolen_rt : typeLookup (.type "reversed") "__len__" = pure none := by rw [typeLookup_type, builtinLookup_eq_fast]; kernel_rfl
theorem hint_rt : typeLookup (.type "reversed") "__length_hint__" = pure (some (.builtin "reversed.__length_hint__")) := by rw [typeLookup_type, builtinLookup_eq_fast]; kernel_rfl
def rsObj (x : Str) (t : Tok) (i : Int) : Obj := { cls := .type "reversed", data := .fields #[.str x t, rawInt i] }
/-- reversed(text), the next place i -/
def IsRs (h : Heap) (a : Addr) (x : Str) (t : Tok) (i : Int) : Prop := ∃ o, h.get? a = some o ∧ o.cls = .type "reversed" ∧ o.data = .fields #[.str x t, rawInt i]
theorem IsRs.at {h h' : Heap} {a : Addr} {x : Str} {t : Tok} {i : Int} (y : IsRs h a x t i) (e : ∀ o, h.get? a = some o → h'.get? a = some o) : IsRs h' a x t i := let ⟨o, ho, r⟩ := y; ⟨o, e _ ho, r⟩
section
variable {prog : Program} {w : World} {A : Around} {E : Value → Shared → Prop} {s : Shared} {x : Str} {t : Tok}
theorem IsRs.typeIs {a : Addr} {i : Int} (y : IsRs s.heap a x t i) : s.TypeIs (.ref a) "reversed" := let ⟨o, ho, hc, _⟩ := y; ⟨o, ho, hc⟩
theorem code_reversed_str {Q₁ : Value → Shared → Prop} (hx : x.length ≤ sizeLine)
    (h : Q₁ (.ref s.heap.objs.size) { s with heap := s.heap.push (rsObj x t ((x.length : Int) - 1)), toks := s.toks + 1 + 1 }) :
    codeAny (model prog w) A (.call (.builtin "reversed.__new__") ⟨[.type "reversed", .str x t], []⟩) (wants Q₁ E) s := by
  have hT : s.TypeIs (.str x t) "str" := typeIs_str s x t
  refine codeAny_of_tree ?_
  show wpAny _ A.in1 (do checkBuiltinCall "reversed.__new__" ⟨[.type "reversed", .str x t], []⟩; again (.builtin "reversed.__new__" ⟨[.type "reversed", .str x t], []⟩)) _ _ s
  refine wpAny_bind (wpAny_of_eq (F.newCall_reversed_1 _) (wpAny_pure ⟨plainId_quiet F.plain_reversed_new _, codeAny_builtin F.entry_reversed_new ?_⟩))
  rw [Around.under_plainId F.plain_reversed_new _]
  unfold Builtin.«reversed.__new__»
  refine wpAny_bind (wpAny_of_eq (newClass_reversed _) ?_)
  try dsimp only
  refine wpAny_bind (wpAny_of_eq (a := ()) (by first | rfl | kernel_rfl) ?_)
  try dsimp only
  refine wpAny_bind (wpAny_of_eq (a := ()) (by first | rfl | kernel_rfl) ?_)
  try dsimp only
  refine wpAny_bind (wpAny_specialOf hT norev_str ?_)
  try dsimp only
  refine wpAny_bind ?_
  wp_delta
  refine wpAny_bind (wpAny_isInstance (T := "str") (U := "dict") (b := false) hT PySem.F.sub_str_dict ?_)
  try dsimp only
  try rw [if_neg Bool.false_ne_true]
  try dsimp only
  refine wpAny_bind (wpAny_specialOf hT F.slot_str_getitem.lookup ?_)
  try dsimp only
  try rw [if_pos (by decide +kernel)]
  refine wpAny_pure ?_
  try dsimp only
  try rw [if_neg (by decide)]
  try dsimp only
  have h63 : (x.length : Int) < 2 ^ 63 := by rw [sizeLine_eq] at hx; omega
  refine wpAny_bind (len_str (by omega) ?_)
  refine wpAny_bind (wpAny_of_eq (a := some ((x.length : Nat) : Int)) rfl ?_)
  try dsimp only
  refine wpAny_bind ?_
  show wpAny _ _ (newObj (.type "reversed") (.fields #[.str x t, rawInt ((x.length : Int) - 1)])) _ _ _
  refine wpAny_newObj_type ?_
  exact wpAny_pure h
theorem slot_rt_hint : Slot "reversed" "__length_hint__" "reversed.__length_hint__" :=
  .of (owner := "reversed") (n := "__length_hint__") (by rw [typeLookup_type, builtinLookup_eq_fast]; kernel_rfl) (by decide +kernel) (by decide +kernel) (by decide +kernel)
    (by first | exact .inl (by decide +kernel) | exact .inr (by decide +kernel)) (by rw [isSubtype_type]; kernel_rfl)
theorem entry_rt_hint : entryFor table "reversed.__length_hint__" = some Builtin.«reversed.__length_hint__» := entryFor_of_tree (by kernel_rfl)
theorem args_rt_hint (a : Value) : argsOk "reversed.__length_hint__" ⟨[a], []⟩ := by
  unfold argsOk; rw [signature?_of (id := "reversed.__length_hint__") (n := ['_', '_', 't', 'n', 'i', 'h', '_', 'h', 't', 'g', 'n', 'e', 'l', '_', '_']) (o := ['d', 'e', 's', 'r', 'e', 'v', 'e', 'r']) (by kernel_rfl) owner_rt]; kernel_rfl
theorem call_reversed_str {Q : Value → Shared → Prop} (hx : x.length ≤ sizeLine)
    (h : Q (.ref s.heap.objs.size) { s with heap := s.heap.push (rsObj x t ((x.length : Int) - 1)), toks := s.toks + 1 + 1 }) : wpAny (model prog w) A (call (.type "reversed") [.str x t]) Q E s := by
  refine callType_codes (Q₁ := fun obj s₁ => s₁.TypeIs obj "reversed" ∧ Q obj s₁) called_rt (F.typeCall_reversed_1 _) F.entry_object_init
    (code_reversed_str (A := A.in1) hx ⟨⟨_, Heap.get?_push_size _ rfl, rfl⟩, h⟩) fun obj s₁ h₁ => ?_
  exact ⟨h₁.1, F.args_object_init_2 obj _, object_init_meets called_rt.init.lookup called_rt.made (by decide) prog w A.in1 _ s₁ ⟨h₁.1, rfl, h₁.2⟩⟩
theorem next_rs_item {it : Addr} {i : Nat} {c : Nat} {Q : Option Value → Shared → Prop} (hit : IsRs s.heap it x t (i : Int)) (hc : x.cps[i]? = some c) (hsz : x.length ≤ sizeLine)
    (hQ : ∀ h' u tk, IsRs h' it x t ((i : Int) - 1) → Heap.SameBut it s.heap h' → Q (some (.str ⟨#[c]⟩ u)) { s with heap := h', toks := tk }) : wpAny (model prog w) A (pyNext (.ref it)) Q E s := by
  obtain ⟨o, ho, hcl, hd⟩ := id hit
  have hi : i < x.length := (Array.getElem?_eq_some_iff.mp hc).1
  have hT : s.TypeIs (.str x t) "str" := typeIs_str s x t
  rw [sizeLine_eq] at hsz
  unfold pyNext
  refine wpAny_bind (wpAny_attempt (wpAny_callSpecial?_slot (name := Str.ofString "__next__") hit.typeIs slot_rt_next
    (wpAny_call_entry slot_rt_next hit.typeIs entry_rt_next ?_ (args_rt_next _))))
  unfold Builtin.«reversed.__next__»
  refine wpAny_bind (wpAny_of_eq (a := (Value.ref it, [])) rfl ?_)
  try dsimp only
  refine wpAny_bind (wpAny_field ho hd (x := .str x t) rfl ?_)
  try dsimp only
  refine wpAny_bind (wpAny_field ho hd (x := rawInt (i : Int)) rfl ?_)
  show wpAny _ _ (if (i : Int) < 0 then _ else _) _ _ s
  rw [if_neg (by omega)]
  try dsimp only
  refine wpAny_bind (wpAny_specialOf hT F.slot_str_getitem.lookup ?_)
  try dsimp only
  try rw [if_neg (by decide)]
  try dsimp only
  refine wpAny_bind (wpAny_mkInt ?_)
  refine wpAny_bind (wpAny_attempt ?_)
  have fin : Txt.charAt x (i : Int) = some c := by
    unfold Txt.charAt
    have e1 : seqIndex? (i : Int) x.length = some i := seqIndex_of (by omega) (by omega)
    rw [e1]
    exact hc
  have e : Txt.item x (i : Int) = ⟨#[c]⟩ := by unfold Txt.item; rw [fin]; rfl
  refine SB.getItem (s := { s with toks := s.toks + 1 }) (fitsSsize_of (N := 16777217) (by omega) (by omega) (by decide)) (by rw [fin]; rfl) ?_
  rw [e]
  try dsimp only
  refine wpAny_bind (wpAny_field (s := { s with toks := s.toks + 1 + 1 }) ho hd (x := rawInt (i : Int)) rfl ?_)
  try dsimp only
  refine wpAny_bind (wpAny_setField (s := { s with toks := s.toks + 1 + 1 }) ho hd (by simp) ?_)
  first
  | refine wpAny_pure ⟨_, rfl, wpAny_pure (hQ _ _ _ ?_ (Heap.SameBut.update ..))⟩
  | refine wpAny_bind (wpAny_pure (wpAny_pure ⟨_, rfl, wpAny_pure (hQ _ _ _ ?_ (Heap.SameBut.update ..))⟩))
  exact ⟨_, Heap.get?_update_self _ ho (Obj.isFreed_of_fields (Obj.data_mapFields hd _)), (Obj.cls_mapFields ..).trans hcl, by
    rw [Obj.data_mapFields hd]; simp⟩
theorem next_rs_end {it : Addr} {Q : Option Value → Shared → Prop} (hh : A.handled = none) (hit : IsRs s.heap it x t (-1))
    (hQ : ∀ h', Heap.ExtBut it s.heap h' → Q none { s with heap := h' }) : wpAny (model prog w) A (pyNext (.ref it)) Q E s := by
  obtain ⟨o, ho, hc, hd⟩ := id hit
  unfold pyNext
  refine wpAny_bind (wpAny_attempt (wpAny_callSpecial?_slot (name := Str.ofString "__next__") hit.typeIs slot_rt_next
    (wpAny_call_entry slot_rt_next hit.typeIs entry_rt_next ?_ (args_rt_next _))))
  unfold Builtin.«reversed.__next__»
  refine wpAny_bind (wpAny_of_eq (a := (Value.ref it, [])) rfl ?_)
  try dsimp only
  refine wpAny_bind (wpAny_field ho hd (x := .str x t) rfl ?_)
  try dsimp only
  refine wpAny_bind (wpAny_field ho hd (x := rawInt (-1)) rfl ?_)
  show wpAny _ _ (if (-1 : Int) < 0 then _ else _) _ _ s
  rw [if_pos (by decide)]
  try dsimp only
  refine wpAny_bind (wpAny_rule ?_)
  refine wpAny_bind ?_
  wp_delta
  refine wpAny_bind (wpAny_setField ho hd (by simp) ?_)
  have ho2 := Heap.get?_update_self (Obj.mapFields (·.setIfInBounds 1 (rawInt (-1)))) ho (Obj.isFreed_of_fields (Obj.data_mapFields hd _))
  refine wpAny_setField (s := { s with heap := s.heap.update it (Obj.mapFields (·.setIfInBounds 1 (rawInt (-1)))) }) ho2 (Obj.data_mapFields hd _) (by simp) ?_
  try dsimp only
  first
  | show wpAny _ _ (newExc (.type "StopIteration") [] >>= _) _ _ _
  | (refine wpAny_bind ?_; show wpAny _ _ (newExc (.type "StopIteration") [] >>= _) _ _ _)
  | (refine wpAny_bind ?_; wp_delta; show wpAny _ _ (newExc (.type "StopIteration") [] >>= _) _ _ _)
  refine wpAny_bind ?_
  simp only [newExc, newTuple]
  refine wpAny_bind (wpAny_newObj_type ?_ (by size_fits))
  refine wpAny_bind (m := firstArgMember _ _) (wpAny_of_eq (a := Value.none) (by first | rfl | (simp only [firstArgMember]; rfl)) ?_)
  refine wpAny_newObj_type ?_ (by size_fits)
  simp only [raiseNew]
  refine wpAny_bind (wpAny_handled ?_)
  first | rw [show A.in1.handled = none from hh] | rw [hh]
  refine wpAny_bind (wpAny_pure (wpAny_throw ?_))
  refine wpAny_bind (wpAny_isInstance (T := "StopIteration") (b := true) ⟨_, Heap.get?_push_size _ rfl, rfl⟩ isSubtype_stop ?_)
  refine wpAny_pure (hQ _ ?_)
  refine ((?_ : Heap.ExtBut it s.heap _).push _).push _
  exact fun b ob hb e => (Heap.get?_update_other _ _ (Ne.symm hb)).trans ((Heap.get?_update_other _ _ (Ne.symm hb)).trans e)
theorem iter_rs {it : Addr} {i : Int} {Q : Value → Shared → Prop} (hit : IsRs s.heap it x t i) (h : Q (.ref it) s) : wpAny (model prog w) A (pyIter (.ref it)) Q E s := by
  refine wpAny_pyIter_slot hit.typeIs slot_rt_iter (wpAny_call_entry slot_rt_iter hit.typeIs entry_rt_iter ?_ (args_rt_iter _))
  show wpAny _ _ (ret (.ref it)) _ _ s
  exact wpAny_pure ⟨_, rfl, "reversed", _, hit.typeIs, slot_rt_next.lookup, h⟩
end
/-- a walk from the last sign to the first -/
theorem walk_rs {prog : Program} {w : World} {A : Around} (hh : A.handled = none) (I : Addr) (x : Str) (t : Tok) (hsz : x.length ≤ sizeLine) :
    Walks prog w A I [I] [I] x.length (fun i v => ∃ c u, x.cps[x.length - 1 - i]? = some c ∧ v = .str ⟨#[c]⟩ u) (fun i h => i ≤ x.length ∧ IsRs h I x t ((x.length : Int) - 1 - (i : Int))) where
  sub := fun b hb => hb
  frame := fun _ _ _ y hk => ⟨y.1, y.2.at fun o e => hk I (by simp) o e⟩
  item := fun i s Q E hi y hQ => by
    have e : (x.length : Int) - 1 - (i : Int) = ((x.length - 1 - i : Nat) : Int) := by omega
    have hit := y.2
    rw [e] at hit
    have hx : x.cps[x.length - 1 - i]? = some (x.cps[x.length - 1 - i]'(by show _ < x.length; omega)) := Array.getElem?_eq_getElem _
    refine next_rs_item hit hx hsz fun h' u tk hit' hs' => ?_
    have e2 : ((x.length - 1 - i : Nat) : Int) - 1 = (x.length : Int) - 1 - ((i + 1 : Nat) : Int) := by omega
    rw [e2] at hit'
    exact hQ _ h' tk ⟨_, _, hx, rfl⟩ ⟨hi, hit'⟩ fun b o hb eo => hs'.extBut b o (fun h => hb (by simp [h])) eo
  done := fun s Q E y hQ => by
    have e : (x.length : Int) - 1 - (x.length : Int) = -1 := by omega
    have hit := y.2
    rw [e] at hit
    exact next_rs_end hh hit fun h' he' => hQ h' s.toks fun b o hb eo => he' b o (fun h => hb (by simp [h])) eo
  self := fun _ _ _ _ y hQ => iter_rs y.2 hQ
section
variable {prog : Program} {w : World} {A : Around} {E : Value → Shared → Prop} {s : Shared} {x : Str} {t : Tok}
theorem asInt_int (n : Int) (u : Tok) : asInt? (.int n u) = pure (some n) := rfl
/-- the hint of how long -/
theorem hint_rs {it : Addr} {Q : Bool → Shared → Prop} (hit : IsRs s.heap it x t ((x.length : Int) - 1)) (hsz : x.length ≤ sizeLine)
    (h : ∀ tk, Q (decide (x.length ≠ 0)) { s with toks := tk }) : wpAny (model prog w) A (Builtin.List.listLengthHint (.ref it)) Q E s := by
  obtain ⟨o, ho, hc, hd⟩ := id hit
  have hT := hit.typeIs
  rw [sizeLine_eq] at hsz
  unfold Builtin.List.listLengthHint
  refine wpAny_bind (wpAny_specialOf hT nolen_rt ?_)
  try dsimp only
  refine wpAny_bind (wpAny_specialOf hT hint_rt ?_)
  generalize hid : ("reversed.__length_hint__" : String) = id0
  wp_delta
  rw [show splitId id0 = some ("reversed", "__length_hint__") from by subst hid; decide +kernel]
  subst hid
  refine wpAny_bind (wpAny_isInstance (b := true) hT (by rw [isSubtype_type]; kernel_rfl) ?_)
  rw [if_neg (by decide), if_neg (by decide +kernel)]
  refine wpAny_bind (wpAny_rule ?_)
  refine wpAny_bind (wpAny_of_eq (slot_rt_hint.bind _) ?_)
  try dsimp only
  refine wpAny_bind (wpAny_attempt (wpAny_call_entry slot_rt_hint hT entry_rt_hint ?_ (args_rt_hint _)))
  unfold Builtin.«reversed.__length_hint__»
  refine wpAny_bind (wpAny_of_eq (a := Value.ref it) rfl ?_)
  try dsimp only
  refine wpAny_bind (wpAny_field ho hd (x := .str x t) rfl ?_)
  try dsimp only
  rw [if_neg (show ¬ ((Value.str x t == Value.none) = true) from Bool.false_ne_true)]
  have h63 : (x.length : Int) < 2 ^ 63 := by omega
  refine wpAny_bind (len_str (by omega) ?_)
  refine wpAny_bind (wpAny_of_eq (a := some ((x.length : Nat) : Int)) rfl ?_)
  try dsimp only
  refine wpAny_bind (wpAny_field (s := { s with toks := s.toks + 1 + 1 }) ho hd (x := rawInt ((x.length : Int) - 1)) rfl ?_)
  show wpAny _ _ (if (x.length : Int) < (x.length : Int) - 1 + 1 then _ else _) _ _ _
  rw [if_neg (by omega)]
  have e0 : (x.length : Int) - 1 + 1 = (x.length : Int) := by omega
  rw [e0]
  unfold retInt
  refine wpAny_bind (wpAny_mkInt ?_)
  refine wpAny_pure ⟨_, rfl, ?_⟩
  dsimp only
  refine wpAny_bind ?_
  rw [asInt_int]
  refine wpAny_pure ?_
  try dsimp only
  have f1 : Builtin.List.listFitsIndex (x.length : Int) = true := fitsIndex_of (by omega) h63
  rw [if_neg (by rw [f1]; exact Bool.false_ne_true), if_neg (by omega), if_neg (by unfold Builtin.List.listTooLong; rw [decide_eq_true_eq, Int.toNat_natCast, sizeLine_eq]; omega)]
  have e1 : ((x.length : Int) != 0) = decide (x.length ≠ 0) := by
    cases x.length with
    | zero => rfl
    | succ n => simp; omega
  rw [e1]
  exact wpAny_pure (h _)
theorem extend_rs {R : Result → Shared → Prop} {it : Addr} (hh : A.handled = none) (hit : IsRs s.heap it x t ((x.length : Int) - 1)) (hn : x.length ≤ sizeLine) (S : Addr) (res : Value) (c₀ : Nat) (hS : s.heap.get? S = some { cls := .type "list", data := .seq #[] c₀ }) (hSi : S ≠ it)
    (hR : ∀ h' tk acc' c', (∀ b o, b ≠ S → b ≠ it → s.heap.get? b = some o → h'.get? b = some o) → h'.get? S = some { cls := .type "list", dict := none, data := .seq acc' c', slots := #[] } →
      ItemsOf (fun i v => ∃ c u, x.cps[x.length - 1 - i]? = some c ∧ v = .str ⟨#[c]⟩ u) acc' x.length → R (.ok (.ret res)) { s with heap := h', toks := tk }) :
    wpAny (model prog w) A.in1 (Builtin.List.listExtendWith (.ref S) (.ref it) res)
      (fun fin s' => match fin with | .done f => R (.ok f) s' | .again c' => c'.quiet = true ∧ codeAny (model prog w) A c' R s') (fun e s' => R (.error e) s') s := by
  have W := (walk_rs (prog := prog) (w := w) (A := A.in1) hh it x t hn).toS
  have hSf : S ∉ [it] := by simpa using hSi
  have hT : s.TypeIs (.ref it) "reversed" := hit.typeIs
  have h1 : Builtin.List.listSameRef (.ref S) (.ref it) = false := by simp [Builtin.List.listSameRef, hSi]
  unfold Builtin.List.listExtendWith
  refine wpAny_bind (wpAny_typeOf hT ?_)
  rw [if_neg (by rw [h1]; decide)]
  refine wpAny_bind (iter_rs hit ?_)
  refine wpAny_bind (wpAny_holding (hint_rs hit hn fun tk => ?_))
  have e0 : (x.length : Int) - 1 - ((0 : Nat) : Int) = (x.length : Int) - 1 := by omega
  have fin : ∀ (h1 : Heap) (c1 : Nat), (∀ b o, b ≠ S → s.heap.get? b = some o → h1.get? b = some o) → h1.get? S = some { cls := .type "list", data := .seq #[] c1 } →
      codeAny (model prog w) A (.builtin "list.extend.loop" ⟨[.ref S, .ref it, res], []⟩) R { s with heap := h1, toks := tk } := fun h1 c1 k1 k2 =>
    codeAny_extend_loopS W hn _ hSf _ x.length 0 _ _ _ rfl (Nat.zero_le _) ⟨Nat.zero_le _, by rw [e0]; exact hit.at fun o e => k1 _ o (Ne.symm hSi) e⟩ k2 (ItemsOf.nil _) fun s' acc' c' hm hS' hacc => by
      rw [Moved.eq_with hm]
      exact hR s'.heap s'.toks acc' c' (fun b o hb hb2 e => hm.heap b o (fun hmem => by
        rcases List.mem_cons.mp hmem with e' | hmem
        · exact hb e'
        · exact hb2 (List.mem_singleton.mp hmem)) (k1 b o hb e)) hS' hacc
  by_cases hz : x.length = 0
  · rw [if_neg (by rw [hz]; decide +kernel)]
    exact wpAny_pure ⟨plainId_quiet F.plain_extend_loop _, fin _ c₀ (fun b o _ e => e) hS⟩
  · rw [if_pos (by simp [hz])]
    refine wpAny_bind (wpAny_rule ?_)
    refine wpAny_bind ?_
    show wpAny _ A.in1 (updateSeq S (·.push .none) >>= fun _ => updateSeq S (·.pop)) _ _ _
    refine wpAny_bind (wpAny_updateSeq hS rfl ?_)
    have hS3 := Heap.get?_update_self (Obj.mapSeq (·.push Value.none)) hS rfl
    refine wpAny_updateSeq (hz := by seq_fits) hS3 rfl ?_
    have hS4 := Heap.get?_update_self (Obj.mapSeq (·.pop)) hS3 rfl
    exact wpAny_pure ⟨plainId_quiet F.plain_extend_loop _, fin _ _ (fun b o hb e => (Heap.get?_update_other _ _ (Ne.symm hb)).trans ((Heap.get?_update_other _ _ (Ne.symm hb)).trans e)) hS4⟩
theorem call_list_rs {it : Addr} {Q : Value → Shared → Prop} (hh : A.handled = none) (hit : IsRs s.heap it x t ((x.length : Int) - 1)) (hn : x.length ≤ sizeLine)
    (hQ : ∀ (h' : Heap) (tk : Nat) (acc : Array Value) (c : Nat), (∀ b o, b ≠ it → s.heap.get? b = some o → h'.get? b = some o) → h'.get? s.heap.objs.size = some { cls := .type "list", dict := none, data := .seq acc c, slots := #[] } →
      ItemsOf (fun i v => ∃ c u, x.cps[x.length - 1 - i]? = some c ∧ v = .str ⟨#[c]⟩ u) acc x.length → Q (.ref s.heap.objs.size) { s with heap := h', toks := tk }) :
    wpAny (model prog w) A (call (.type "list") [.ref it]) Q E s := by
  refine callType_codes (Q₁ := fun obj s₁ => obj = .ref s.heap.objs.size ∧ s₁ = { s with heap := s.heap.push { cls := .type "list", data := .seq #[] } }) F.called_list (F.typeCall_list_1 _) F.entry_list_init
    (code_list_new _ ⟨rfl, rfl⟩) fun obj s₁ h₁ => ?_
  obtain ⟨rfl, rfl⟩ := h₁
  have hS : (s.heap.push { cls := .type "list", data := .seq #[] }).get? s.heap.objs.size = some { cls := .type "list", data := .seq #[] } := Heap.get?_push_size _ rfl
  refine ⟨⟨_, hS, rfl⟩, F.args_list_init_2 _ _, ?_⟩
  show wpAny _ _ (do let old ← Builtin.List.listItems (.ref s.heap.objs.size); Builtin.List.listUpdate (.ref s.heap.objs.size) (fun _ => #[]); letGo old.toList.reverse; Builtin.List.listExtendWith (.ref s.heap.objs.size) (.ref it) .none) _ _ _
  refine wpAny_bind ?_
  unfold Builtin.List.listItems
  refine wpAny_bind (wpAny_seqItems hS rfl (wpAny_pure ?_))
  show wpAny _ _ (updateSeq s.heap.objs.size (fun _ => #[]) >>= fun _ => letGo (#[] : Array Value).toList.reverse >>= fun _ => Builtin.List.listExtendWith (.ref s.heap.objs.size) (.ref it) .none) _ _ _
  refine wpAny_bind (wpAny_updateSeq hS rfl ?_)
  have hS₂ := Heap.get?_update_self (Obj.mapSeq (fun _ => (#[] : Array Value))) hS rfl
  obtain ⟨oi, hoi, _⟩ := id hit
  have ni : s.heap.objs.size ≠ it := Nat.ne_of_gt (Heap.lt_size hoi)
  have oth : ∀ b o, s.heap.get? b = some o → ((s.heap.push { cls := .type "list", data := .seq #[] }).update s.heap.objs.size (Obj.mapSeq (fun _ => (#[] : Array Value)))).get? b = some o :=
    fun b o e => (Heap.get?_update_other _ _ (Nat.ne_of_gt (Heap.lt_size e))).trans (Heap.get?_push_of_some _ e)
  refine wpAny_bind (wpAny_letGo ?_)
  refine extend_rs (A := A.in1) (s := { s with heap := (s.heap.push { cls := .type "list", data := .seq #[] }).update s.heap.objs.size (Obj.mapSeq (fun _ => (#[] : Array Value))) }) hh (hit.at fun o e => oth _ o e) hn s.heap.objs.size .none _ hS₂ ni fun h' tk acc' c' hk hS' hacc => ?_
  exact ⟨rfl, hQ h' tk acc' c' (fun b o hb e => hk b o (Nat.ne_of_lt (Heap.lt_size e)) hb (oth b o e)) hS' hacc⟩
end
end DM
set_option Elab.async false
set_option linter.all false
set_option maxRecDepth 100000
set_option maxHeartbeats 4000000
namespace DM
open PySem L2 PySem.Spec PyProof.Rows
section
variable {prog : Program} {w : World} {A : Around} {E : Value → Shared → Prop} {s : Shared}
open RT in
theorem extend_rev {R : Result → Shared → Prop} {it l : Addr} {items : Array Value} (hh : A.handled = none) (hit : s.heap.IsRevIter it l ((items.size : Int) - 1)) (hl : s.heap.IsList l items) (hne : l ≠ it) (hn : items.size ≤ sizeLine) (S : Addr) (res : Value) (c₀ : Nat) (hS : s.heap.get? S = some { cls := .type "list", data := .seq #[] c₀ }) (hSi : S ≠ it) (hSl : S ≠ l)
    (hR : ∀ h' tk acc' c', (∀ b o, b ≠ S → b ≠ it → s.heap.get? b = some o → h'.get? b = some o) → h'.get? S = some { cls := .type "list", dict := none, data := .seq acc' c', slots := #[] } →
      ItemsOf (fun i v => items[items.size - 1 - i]? = some v) acc' items.size → R (.ok (.ret res)) { s with heap := h', toks := tk }) :
    wpAny (model prog w) A.in1 (Builtin.List.listExtendWith (.ref S) (.ref it) res)
      (fun fin s' => match fin with | .done f => R (.ok f) s' | .again c' => c'.quiet = true ∧ codeAny (model prog w) A c' R s') (fun e s' => R (.error e) s') s := by
  have W := (Walks.listRev (prog := prog) (w := w) (A := A.in1) hh it l hne items).toS
  have hSf : S ∉ [it, l] := by simp only [List.mem_cons, List.not_mem_nil, or_false, not_or]; exact ⟨hSi, hSl⟩
  have hT : s.TypeIs (.ref it) "list_reverseiterator" := hit.typeIs
  have h1 : Builtin.List.listSameRef (.ref S) (.ref it) = false := by simp [Builtin.List.listSameRef, hSi]
  unfold Builtin.List.listExtendWith
  refine wpAny_bind (wpAny_typeOf hT ?_)
  rw [if_neg (by rw [h1]; decide)]
  refine wpAny_bind (wpAny_pyIter_revIter hit ?_)
  refine wpAny_bind (wpAny_holding ?_)
  unfold Builtin.List.listLengthHint
  refine wpAny_bind (wpAny_specialOf hT nolen_lri ?_)
  show wpAny _ A.in1 (specialOf (Value.ref it) (Str.ofString "__length_hint__") >>= _) _ _ _
  refine wpAny_bind (wpAny_specialOf hT hint_lri ?_)
  generalize hid : ("list_reverseiterator.__length_hint__" : String) = id0
  wp_delta
  rw [show splitId id0 = some ("list_reverseiterator", "__length_hint__") from by subst hid; decide +kernel]
  subst hid
  refine wpAny_bind (wpAny_isInstance (b := true) hT (by rw [isSubtype_type]; kernel_rfl) ?_)
  refine wpAny_pure ?_
  rw [if_neg (by decide)]
  have e0 : ((items.size : Nat) : Int) - 1 - ((0 : Nat) : Int) = (items.size : Int) - 1 := by omega
  refine wpAny_pure ⟨plainId_quiet F.plain_extend_loop _, codeAny_extend_loopS W hn _ hSf _ items.size 0 _ _ _ rfl (Nat.zero_le _) ⟨Nat.zero_le _, by rw [e0]; exact hit, hl⟩ hS (ItemsOf.nil _) fun s' acc' c' hm hS' hacc => ?_⟩
  rw [Moved.eq_with hm]
  refine hR s'.heap s'.toks acc' c' (fun b o hb hb2 e => hm.heap b o (fun hmem => ?_) e) hS' hacc
  rcases List.mem_cons.mp hmem with e' | hmem
  · exact hb e'
  · exact hb2 (List.mem_singleton.mp hmem)
theorem call_list_rev {it l : Addr} {items : Array Value} {Q : Value → Shared → Prop} (hh : A.handled = none) (hit : s.heap.IsRevIter it l ((items.size : Int) - 1)) (hl : s.heap.IsList l items) (hne : l ≠ it) (hn : items.size ≤ sizeLine)
    (hQ : ∀ (h' : Heap) (tk : Nat) (acc : Array Value) (c : Nat), (∀ b o, b ≠ it → s.heap.get? b = some o → h'.get? b = some o) → h'.get? s.heap.objs.size = some { cls := .type "list", dict := none, data := .seq acc c, slots := #[] } →
      ItemsOf (fun i v => items[items.size - 1 - i]? = some v) acc items.size → Q (.ref s.heap.objs.size) { s with heap := h', toks := tk }) :
    wpAny (model prog w) A (call (.type "list") [.ref it]) Q E s := by
  refine callType_codes (Q₁ := fun obj s₁ => obj = .ref s.heap.objs.size ∧ s₁ = { s with heap := s.heap.push { cls := .type "list", data := .seq #[] } }) F.called_list (F.typeCall_list_1 _) F.entry_list_init
    (code_list_new _ ⟨rfl, rfl⟩) fun obj s₁ h₁ => ?_
  obtain ⟨rfl, rfl⟩ := h₁
  have hS : (s.heap.push { cls := .type "list", data := .seq #[] }).get? s.heap.objs.size = some { cls := .type "list", data := .seq #[] } := Heap.get?_push_size _ rfl
  refine ⟨⟨_, hS, rfl⟩, F.args_list_init_2 _ _, ?_⟩
  show wpAny _ _ (do let old ← Builtin.List.listItems (.ref s.heap.objs.size); Builtin.List.listUpdate (.ref s.heap.objs.size) (fun _ => #[]); letGo old.toList.reverse; Builtin.List.listExtendWith (.ref s.heap.objs.size) (.ref it) .none) _ _ _
  refine wpAny_bind ?_
  unfold Builtin.List.listItems
  refine wpAny_bind (wpAny_seqItems hS rfl (wpAny_pure ?_))
  show wpAny _ _ (updateSeq s.heap.objs.size (fun _ => #[]) >>= fun _ => letGo (#[] : Array Value).toList.reverse >>= fun _ => Builtin.List.listExtendWith (.ref s.heap.objs.size) (.ref it) .none) _ _ _
  refine wpAny_bind (wpAny_updateSeq hS rfl ?_)
  have hS₂ := Heap.get?_update_self (Obj.mapSeq (fun _ => (#[] : Array Value))) hS rfl
  obtain ⟨oi, hoi, _⟩ := id hit
  obtain ⟨ol, hol, _⟩ := id hl
  have ni : s.heap.objs.size ≠ it := Nat.ne_of_gt (Heap.lt_size hoi)
  have nl : s.heap.objs.size ≠ l := Nat.ne_of_gt (Heap.lt_size hol)
  have oth : ∀ b o, s.heap.get? b = some o → ((s.heap.push { cls := .type "list", data := .seq #[] }).update s.heap.objs.size (Obj.mapSeq (fun _ => (#[] : Array Value)))).get? b = some o :=
    fun b o e => (Heap.get?_update_other _ _ (Nat.ne_of_gt (Heap.lt_size e))).trans (Heap.get?_push_of_some _ e)
  refine wpAny_bind (wpAny_letGo ?_)
  refine extend_rev (A := A.in1) (s := { s with heap := (s.heap.push { cls := .type "list", data := .seq #[] }).update s.heap.objs.size (Obj.mapSeq (fun _ => (#[] : Array Value))) }) hh (hit.at fun o e => oth _ o e) ?_ hne hn s.heap.objs.size .none _ hS₂ ni nl fun h' tk acc' c' hk hS' hacc => ?_
  · obtain ⟨o, ho, r⟩ := hl
    exact ⟨o, oth _ _ ho, r⟩
  · exact ⟨rfl, hQ h' tk acc' c' (fun b o hb e => hk b o (Nat.ne_of_lt (Heap.lt_size e)) hb (oth b o e)) hS' hacc⟩
end
section
variable {X : Cx}
def tListRev (K : PySem.W.Frag) (te : TE) : TE := fun σ H Q => te σ H fun v H1 => (∃ a xs, v = .ref a ∧ SL K H1 a xs ∧ ∀ p, H1 p = none → Q (.ref p) (upd H1 p (.lst xs.reverse))) ∨ (∃ z : Str, v = .str z ∧ z.length ≤ sizeLine ∧ ∀ p, H1 p = none → Q (.ref p) (upd H1 p (.lst (z.cps.toList.reverse.map fun c => V.str ⟨#[c]⟩))))
theorem vals_rs {x : Str} {acc : Array Value} (h : ItemsOf (fun i v => ∃ c u, x.cps[x.length - 1 - i]? = some c ∧ v = .str ⟨#[c]⟩ u) acc x.length) : Vals (x.cps.toList.reverse.map fun c => V.str ⟨#[c]⟩) acc.toList := by
  have e : acc.toList.length = x.cps.toList.length := by rw [Array.length_toList, Array.length_toList]; exact h.1
  have go : ∀ (vs : List Value) (cs : List Nat), vs.length = cs.length → (∀ (j : Nat) (v : Value), vs[j]? = some v → ∃ c u, cs[j]? = some c ∧ v = .str ⟨#[c]⟩ u) → Vals (cs.map fun c => V.str ⟨#[c]⟩) vs := by
    intro vs
    induction vs with
    | nil => intro cs hl _; cases cs with | nil => exact .nil | cons c cs => cases hl
    | cons v vs ih =>
      intro cs hl hg
      cases cs with
      | nil => cases hl
      | cons c cs =>
        obtain ⟨c', u, h1, rfl⟩ := hg 0 v rfl
        cases h1
        exact .cons ⟨u, rfl⟩ (ih cs (by simpa using hl) fun j w hw => hg (j + 1) w hw)
  refine go acc.toList x.cps.toList.reverse (by rw [e, List.length_reverse]) fun j v hj => ?_
  obtain ⟨c, u, h1, h2⟩ := h.2 j v (by rw [← hj, Array.getElem?_toList])
  refine ⟨c, u, ?_, h2⟩
  have hlt : j < x.length := by
    have := (List.getElem?_eq_some_iff.mp hj).1
    rw [e, Array.length_toList] at this
    exact this
  rw [List.getElem?_reverse (by rw [Array.length_toList]; exact hlt), Array.length_toList, Array.getElem?_toList]
  exact h1
open RT in
theorem pe_listRev {e : Expr} {te : TE} {p p2 pos pos2 : Pos} (hc : X.calm = true) (hg : Gl X "list") (hm : X.mg "list" = none) (hg2 : Gl X "reversed") (hm2 : X.mg "reversed" = none) (he : PE X e te)
    (hs : starEach [e] X.env = (false, eval e X.env) :: starEach [] X.env) :
    PE X (.Call (.Name "list" p) [.Call (.Name "reversed" p2) [e] [] pos2] [] pos) (tListRev X.K te) := by
  refine ⟨fun pins s σ H Q I h => ?_⟩
  refine Call_ (ld_blt I hg hm boot_list (PyProof.Rows.callWith_type1 (args_cons (Call_ (ld_blt I hg2 hm2 PyProof.Rows.boot_reversed (PyProof.Rows.callWith_type1 (args_cons (thn (he.run pins s σ H _ I h) fun u s1 ⟨v, H1, I1, r1, q1⟩ => args_nil ?_) hs) hs rfl))) rfl) rfl rfl))
  rcases q1 with q1 | q1
  rotate_left
  · obtain ⟨z, ev, hz, q⟩ := q1
    subst ev
    obtain ⟨t, rfl⟩ := r1
    refine call_reversed_str hz (args_nil ?_)
    have k0 : ∀ b o, s1.heap.get? b = some o → (s1.heap.push (rsObj z t ((z.length : Int) - 1))).get? b = some o := fun b o e => Heap.get?_push_of_some _ e
    have I2 : Inv X pins σ H1 { s1 with heap := s1.heap.push (rsObj z t ((z.length : Int) - 1)), toks := s1.toks + 1 + 1 } := I1.kept (t' := s1.toks + 1 + 1) k0
    obtain ⟨f0, f1, f2, f3, f4, f5⟩ := I1.fpOk (H' := H1) (b := s1.heap.objs.size) (Nat.le_refl _) (I1.hok.fresh (Nat.le_refl _))
    refine call_list_rs (s := { s1 with heap := s1.heap.push (rsObj z t ((z.length : Int) - 1)), toks := s1.toks + 1 + 1 }) (I1.ok.hd hc) ⟨_, Heap.get?_push_size _ rfl, rfl, rfl⟩ hz fun h' tk acc c hk hD hi => ?_
    have fp : ∀ b ∈ [s1.heap.objs.size], FpOk X pins H1 b := fun b hb => by
      obtain rfl : b = s1.heap.objs.size := by simpa using hb
      exact ⟨f0, f1, f2, f3, f4, f5⟩
    refine ⟨.ref _, _, I2.turnedNew (t' := tk) (ch := [s1.heap.objs.size]) (T := (s1.heap.push (rsObj z t ((z.length : Int) - 1))).objs.size) (ob := .lst (z.cps.toList.reverse.map fun c => V.str ⟨#[c]⟩)) (fun b o hb e => hk b o (by simpa using hb) e) fp (Nat.le_refl _) ?_, rfl, q _ (I2.hok.fresh (Nat.le_refl _))⟩
    exact ⟨by rw [List.length_map, List.length_reverse, Array.length_toList]; exact hz, acc.toList, c, vals_rs hi, by simpa using hD⟩
  obtain ⟨a, xs, ev, hq, q⟩ := q1
  subst ev
  obtain rfl : u = Value.ref a := r1
  obtain ⟨its, rv, p', hz⟩ := I1.list (sl_sq hq)
  refine call_reversed_list p'.isList (args_nil ?_)
  have k0 : ∀ b o, s1.heap.get? b = some o → (s1.heap.push (revObj a ((its.toArray.size : Int) - 1))).get? b = some o := fun b o e => Heap.get?_push_of_some _ e
  have I2 : Inv X pins σ H1 { s1 with heap := s1.heap.push (revObj a ((its.toArray.size : Int) - 1)) } := I1.kept (t' := s1.toks) k0
  obtain ⟨f0, f1, f2, f3, f4, f5⟩ := I1.fpOk (H' := H1) (b := s1.heap.objs.size) (Nat.le_refl _) (I1.hok.fresh (Nat.le_refl _))
  have hl := p'.isList
  obtain ⟨ol, hol, _⟩ := id hl
  have hne : a ≠ s1.heap.objs.size := Nat.ne_of_lt (Heap.lt_size hol)
  have hn : its.toArray.size ≤ sizeLine := by rw [List.size_toArray, ← rv.length]; exact hz
  refine call_list_rev (s := { s1 with heap := s1.heap.push (revObj a ((its.toArray.size : Int) - 1)) }) (I1.ok.hd hc) ⟨_, Heap.get?_push_size _ rfl, rfl, rfl⟩ (hl.push _) hne hn fun h' tk acc c hk hD hi => ?_
  have fp : ∀ b ∈ [s1.heap.objs.size], FpOk X pins H1 b := fun b hb => by
    obtain rfl : b = s1.heap.objs.size := by simpa using hb
    exact ⟨f0, f1, f2, f3, f4, f5⟩
  refine ⟨.ref _, _, I2.turnedNew (t' := tk) (ch := [s1.heap.objs.size]) (T := (s1.heap.push (revObj a ((its.toArray.size : Int) - 1))).objs.size) (ob := .lst xs.reverse) (fun b o hb e => hk b o (by simpa using hb) e) fp (Nat.le_refl _) ?_, rfl, q _ (I2.hok.fresh (Nat.le_refl _))⟩
  exact ⟨by rw [List.length_reverse]; exact hz, acc.toList, c, vals_rev rv hi, by simpa using hD⟩
end
inductive Kd where | str | lst | tup | int | bool | dict
  deriving DecidableEq
def Kd.nm : Kd → String | .str => "str" | .lst => "list" | .tup => "tuple" | .int => "int" | .bool => "bool" | .dict => "dict"
def isiE : Kd → D → Option D
  | .str, .str _ => some (.bl true)
  | .lst, .lst _ => some (.bl true)
  | .tup, .tup _ => some (.bl true)
  | .int, .int _ => some (.bl true)
  | .int, .bl _ => some (.bl true)
  | .bool, .bl _ => some (.bl true)
  | k, .dct ks _ => if tkB ks then none else some (.bl (match k with | .dict => true | _ => false))
  | _, .ins _ _ => none
  | _, .exc _ _ => none
  | _, .cel _ => none
  | _, _ => some (.bl false)
def atE {α : Type} (xs : List α) (i : Int) : Option α := if 0 ≤ i then xs[i.toNat]? else if -(xs.length : Int) ≤ i then xs[(i + xs.length).toNat]? else none
def idxE0 (d i : D) : Option D :=
  match d, i with
  | .lst ds, .int i => atE ds i
  | .tup ds, .int i => atE ds i
  | .str x, .int i => if x.length ≤ 16777216 then (atE x i).map fun e => .str [e] else none
  | _, _ => none
def idxE (d i : D) : Option D := match d with | .dct ks vs => if dOk i ks then dGet i ks vs else none | d => idxE0 d i
def cutE {α : Type} (xs : List α) (lo hi : Option Int) : List α := (xs.drop (HT.sIx xs.length 0 lo)).take (HT.sIx xs.length xs.length hi - HT.sIx xs.length 0 lo)
def slcE (d : D) (lo hi : Option Int) : Option D :=
  match d with
  | .lst ds => some (.lst (cutE ds lo hi))
  | .tup ds => some (.tup (cutE ds lo hi))
  | .str x => if x.length ≤ 16777216 then some (.str (cutE x lo hi)) else none
  | _ => none
theorem atE_I {α : Type} {xs : List α} {i : Int} {e : α} (h : atE xs i = some e) : atI xs i = some e := by
  unfold atE at h
  unfold atI ixN
  split at h
  · rename_i z
    rw [if_pos z]
    have hl := (List.getElem?_eq_some_iff.mp h).1
    rw [if_pos (by omega)]
    exact h
  · rename_i z
    rw [if_neg z]
    split at h
    · rename_i z2
      rw [if_pos z2]
      exact h
    · cases h
section
variable {G : Gc} {φ : List Addr} {μ : Mem} {H : Hp} {x y : V} {d d1 d2 : D} {fr : Bool} {Q : VK}
theorem atE_rps {X : Addr → Prop} {ds : List D} {vs : List V} {i : Int} {e : D} (r : Rps G.cl G.K φ H X vs ds) (h : atE ds i = some e) : ∃ u, atI vs i = some u ∧ Rp G.cl G.K φ H X u e := by
  unfold atE at h
  split at h
  · rename_i z
    obtain ⟨u, hu, hr⟩ := r.get h
    exact ⟨u, atE_I (by unfold atE; rw [if_pos z]; exact hu), hr⟩
  · rename_i z
    split at h
    · rename_i z2
      obtain ⟨u, hu, hr⟩ := r.get h
      rw [← r.length] at hu z2
      exact ⟨u, atE_I (by unfold atE; rw [if_neg z, if_pos z2]; exact hu), hr⟩
    · cases h
theorem okS_get {x : List Nat} {n : Nat} {e : Nat} (h : okS x = true) (g : x[n]? = some e) : okS [e] = true := by
  unfold okS at *
  have := List.all_eq_true.mp h e (List.mem_of_getElem? g)
  simp [List.all_cons, this] at *
  try exact this
theorem okS_sub {x y : List Nat} (h : okS x = true) (s : ∀ e ∈ y, e ∈ x) : okS y = true := by
  unfold okS at *
  exact List.all_eq_true.mpr fun e he => List.all_eq_true.mp h e (s e he)
theorem idx_ok0 (m : Ms G φ μ H) (h1 : G.rp φ μ H x d1) (h2 : G.rp φ μ H y d2) (e : idxE0 (top μ d1) (top μ d2) = some d) (q : QQ G φ μ H μ false d Q) : rIx G.K x y H Q := by
  generalize e1 : top μ d1 = t1 at e
  generalize e2 : top μ d2 = t2 at e
  unfold idxE0 at e
  split at e
  · obtain ⟨a, vs, rfl, ra, r1⟩ := top_lst m h1 e1; obtain rfl := top_int m h2 e2
    obtain ⟨u, hu, hr⟩ := atE_rps r1 e
    exact .inl ⟨a, vs, _, u, rfl, rfl, sl_sq ra, hu, qq_at m hr q fun z => by cases z⟩
  · obtain ⟨a, vs, rfl, ra, r1⟩ := top_tup m h1 e1; obtain rfl := top_int m h2 e2
    obtain ⟨u, hu, hr⟩ := atE_rps r1 e
    exact .inr (.inl ⟨a, vs, _, u, rfl, rfl, ra, hu, qq_at m hr q fun z => by cases z⟩)
  · obtain ⟨rfl, k⟩ := top_str m h1 e1; obtain rfl := top_int m h2 e2
    split at e
    · rename_i z
      cases g : atE _ _ with
      | none => rw [g] at e; cases e
      | some c =>
        rw [g] at e
        cases Option.some.inj e
        refine .inr (.inr ⟨_, _, _, rfl, rfl, by rw [mkS_len, sizeLine_eq]; exact z, atE_I g, ?_⟩)
        refine qq_str m (x := [_]) ?_ q
        have g' := g
        unfold atE at g'
        split at g'
        · exact okS_get k g'
        · split at g'
          · exact okS_get k g'
          · cases g'
    · cases e
  · cases e
def rSlc (K : PySem.W.Frag) : V → Option Int → Option Int → Hp → VK → Prop := fun x lo hi H Q => rSlL K x lo hi H Q ∨ rSlA K x lo hi H Q ∨ rSlS x lo hi H Q
def rIxA (K : PySem.W.Frag) (hs : NestedKey → Int) : R2 := fun x y H Q => rIx K x y H Q ∨ rDget K hs x y H Q
theorem ix_all {X : Cx} (hu : X.A.units + 65 < cLine) : IxR X (rIxA X.K fun k => k.hash X.w) := by
  intro value slice pins s σ H x y v u Q I rx ry h hs
  rcases h with h | h
  · exact ix_seq value slice pins s σ H x y v u Q I rx ry h hs
  · exact ix_dict hu value slice pins s σ H x y v u Q I rx ry h hs
theorem idx_ok (m : Ms G φ μ H) (h1 : G.rp φ μ H x d1) (h2 : G.rp φ μ H y d2) (e : idxE (top μ d1) (top μ d2) = some d) (q : QQ G φ μ H μ false d Q) : rIxA G.K G.cl.hs x y H Q := by
  unfold idxE at e
  split at e
  · rename_i ks vs e1
    split at e
    · rename_i ok
      obtain ⟨a, rfl, hx⟩ := top_dct m h1 e1
      have hk : G.rp φ μ H y (top μ d2) := top_key m h2 rfl ok
      obtain ⟨o, g, _, hv⟩ := dg_of hx hk ok
      obtain ⟨v, rfl, rv⟩ := hv d e
      exact .inr ⟨a, v, rfl, g, qq_at m rv q fun z => by cases z⟩
    · cases e
  · exact .inl (idx_ok0 m h1 h2 e q)
theorem slR_all {X : Cx} : SlR X (rSlc X.K) := sl_list.or (sl_tupA.or sl_str)
theorem cut_rps {X : Addr → Prop} {ds : List D} {vs : List V} {lo hi : Option Int} (r : Rps G.cl G.K φ H X vs ds) : Rps G.cl G.K φ H X (cutV vs lo hi) (cutE ds lo hi) := by
  unfold cutV cutE
  rw [r.length]
  exact (r.drop _).take _
theorem slc_ok (m : Ms G φ μ H) {lo hi : Option Int} (h1 : G.rp φ μ H x d1) (e : slcE (top μ d1) lo hi = some d) (q : QQ G φ μ H μ fr d Q) : rSlc G.K x lo hi H Q := by
  generalize e1 : top μ d1 = t1 at e
  unfold slcE at e
  split at e
  · obtain ⟨a, vs, rfl, ra, r1⟩ := top_lst m h1 e1
    cases Option.some.inj e
    exact .inl ⟨a, vs, rfl, sl_sq ra, new_list m (cut_rps r1) q⟩
  · rename_i ds
    obtain ⟨a, vs, rfl, ra, r1⟩ := top_tup m h1 e1
    cases Option.some.inj e
    refine .inr (.inl ⟨a, vs, rfl, ra, fun z => ?_, fun _ => new_tup m (cut_rps r1) q⟩)
    have e1 : cutE ds lo hi = ds := by
      unfold cutE
      rw [r1.length] at z
      rw [z.1, z.2]
      simp
    rw [e1] at q
    exact qq_at m (.tup ra r1) q fun _ z => z.elim
  · obtain ⟨rfl, k⟩ := top_str m h1 e1
    split at e
    · rename_i z
      cases Option.some.inj e
      refine .inr (.inr ⟨_, rfl, by rw [mkS_len, sizeLine_eq]; exact z, ?_⟩)
      have e1 : ∀ x : List Nat, cutS (mkS x) lo hi = mkS (cutE x lo hi) := fun x => by
        unfold cutS cutE
        rw [mkS_len]
        rfl
      rw [e1]
      exact qq_str m (okS_sub k fun e he => by
        unfold cutE at he
        exact List.mem_of_mem_drop (List.mem_of_mem_take he)) q
    · cases e
  · cases e
end
end DM
set_option Elab.async false
set_option linter.all false
set_option maxRecDepth 100000
set_option maxHeartbeats 4000000
namespace DM
open PySem L2 PySem.Spec PyProof.Rows
def intsOf : List D → Option (List Int)
  | [] => some []
  | .int i :: r => (intsOf r).map (i :: ·)
  | _ => none
def blsOf : List D → Option (List Bool)
  | [] => some []
  | .bl i :: r => (blsOf r).map (i :: ·)
  | _ => none
def strsOf : List D → Option (List (List Nat))
  | [] => some []
  | .str i :: r => (strsOf r).map (i :: ·)
  | _ => none
theorem intsOf_eq : ∀ {ds : List D} {ns : List Int}, intsOf ds = some ns → ds = ns.map D.int
  | [], ns, h => by cases h; rfl
  | x :: r, ns, h => by
    cases x
    case int i =>
      cases e : intsOf r with
      | none => rw [intsOf, e] at h; cases h
      | some m => rw [intsOf, e] at h; cases h; rw [intsOf_eq e]; rfl
    all_goals cases h
theorem blsOf_eq : ∀ {ds : List D} {ns : List Bool}, blsOf ds = some ns → ds = ns.map D.bl
  | [], ns, h => by cases h; rfl
  | x :: r, ns, h => by
    cases x
    case bl i =>
      cases e : blsOf r with
      | none => rw [blsOf, e] at h; cases h
      | some m => rw [blsOf, e] at h; cases h; rw [blsOf_eq e]; rfl
    all_goals cases h
theorem strsOf_eq : ∀ {ds : List D} {ns : List (List Nat)}, strsOf ds = some ns → ds = ns.map D.str
  | [], ns, h => by cases h; rfl
  | x :: r, ns, h => by
    cases x
    case str i =>
      cases e : strsOf r with
      | none => rw [strsOf, e] at h; cases h
      | some m => rw [strsOf, e] at h; cases h; rw [strsOf_eq e]; rfl
    all_goals cases h
@[simp] theorem intsOf_map (ns : List Int) : intsOf (ns.map D.int) = some ns := by
  induction ns with
  | nil => rfl
  | cons n ns ih => simp [intsOf, ih]
@[simp] theorem blsOf_map (ns : List Bool) : blsOf (ns.map D.bl) = some ns := by
  induction ns with
  | nil => rfl
  | cons n ns ih => simp [blsOf, ih]
@[simp] theorem strsOf_map (ns : List (List Nat)) : strsOf (ns.map D.str) = some ns := by
  induction ns with
  | nil => rfl
  | cons n ns ih => simp [strsOf, ih]
def maxL : List Int → Int
  | [] => 0
  | [x] => x
  | x :: y :: r => if maxL (y :: r) > x then maxL (y :: r) else x
def minL : List Int → Int
  | [] => 0
  | [x] => x
  | x :: y :: r => if minL (y :: r) < x then minL (y :: r) else x
theorem maxL_max : ∀ (l : List Int), 0 < l.length → maxL l ∈ l ∧ ∀ y ∈ l, y ≤ maxL l
  | [], h => by simp at h
  | [x], _ => by simp [maxL]
  | x :: y :: r, _ => by
    obtain ⟨h1, h2⟩ := maxL_max (y :: r) (by simp)
    unfold maxL
    split
    · exact ⟨List.mem_cons_of_mem _ h1, fun z hz => by
        rcases List.mem_cons.mp hz with e | hz
        · subst e; omega
        · exact h2 z hz⟩
    · exact ⟨List.mem_cons_self, fun z hz => by
        rcases List.mem_cons.mp hz with e | hz
        · subst e; omega
        · have := h2 z hz; omega⟩
theorem minL_min : ∀ (l : List Int), 0 < l.length → minL l ∈ l ∧ ∀ y ∈ l, minL l ≤ y
  | [], h => by simp at h
  | [x], _ => by simp [minL]
  | x :: y :: r, _ => by
    obtain ⟨h1, h2⟩ := minL_min (y :: r) (by simp)
    unfold minL
    split
    · exact ⟨List.mem_cons_of_mem _ h1, fun z hz => by
        rcases List.mem_cons.mp hz with e | hz
        · subst e; omega
        · exact h2 z hz⟩
    · exact ⟨List.mem_cons_self, fun z hz => by
        rcases List.mem_cons.mp hz with e | hz
        · subst e; omega
        · have := h2 z hz; omega⟩
inductive Bi where | len | sum | all | any | mx | mn | mx2 | mn2 | int | list | tuple | srt | dm | dls | stri
def Bi.nm : Bi → String
  | .len => "len" | .sum => "sum" | .all => "all" | .any => "any" | .mx => "max" | .mn => "min" | .mx2 => "max" | .mn2 => "min" | .int => "int" | .list => "list" | .tuple => "tuple" | .srt => "sorted" | .dm => "divmod" | .dls => "list" | .stri => "str"
def Bi.isTy : Bi → Bool
  | .int => true | .list => true | .tuple => true | .dls => true | .stri => true | _ => false
def biE (b : Bi) (as : List D) : Option D :=
  match b, as with
  | .len, [.lst ds] => some (.int (ds.length : Nat))
  | .len, [.tup ds] => some (.int (ds.length : Nat))
  | .len, [.str x] => if x.length ≤ 16777216 then some (.int (x.length : Nat)) else none
  | .sum, [.lst ds] => (intsOf ds).map fun ns => .int ns.sum
  | .all, [.lst ds] => (blsOf ds).map fun ns => .bl (ns.all id)
  | .any, [.lst ds] => (blsOf ds).map fun ns => .bl (ns.any id)
  | .mx, [.lst ds] => (intsOf ds).bind fun ns => if 0 < ns.length then some (.int (maxL ns)) else none
  | .mn, [.lst ds] => (intsOf ds).bind fun ns => if 0 < ns.length then some (.int (minL ns)) else none
  | .mx2, [.int i, .int j] => some (.int (if j > i then j else i))
  | .mn2, [.int i, .int j] => some (.int (if j < i then j else i))
  | .int, [.int i] => some (.int i)
  | .int, [.bl b] => some (.int (if b then 1 else 0))
  | .list, [.lst ds] => some (.lst ds)
  | .list, [.tup ds] => some (.lst ds)
  | .tuple, [.lst ds] => some (.tup ds)
  | .tuple, [.tup ds] => some (.tup ds)
  | .srt, [.lst ds] => if srtOk ds then some (.lst (srtD ds)) else none
  | .srt, [.str x] => if x.length ≤ 16777216 then some (.lst ((srtC x).map fun c => .str [c])) else none
  | .dm, [.int i, .int j] => if 0 < j ∧ j < 1073741824 then some (.tup [.int (i / j), .int (i % j)]) else none
  | .len, [.dct ks _] => some (.int (ks.length : Nat))
  | .dls, [.dct ks _] => some (.lst ks)
  | .stri, [.int i] => if 0 ≤ i ∧ i < 1000000 then some (.str (TL.numL i.toNat)) else none
  | _, _ => none
/-- a dict, whatever its keys: how many, which -/
def DKeys (K : PySem.W.Frag) (hs : NestedKey → Int) (H : Hp) (a : Addr) (kvs : List V) : Prop := (∃ l : List (Key × V), Rd H a (.dK l) ∧ kvs = l.map fun p => kV p.1) ∨ ∃ (o : Obj) (xs : List Ent), H a = some (isAt a o) ∧ (a == sysModules) = false ∧ DicF hs o xs ∧ (∀ x ∈ xs, KeyE K H x) ∧ kvs = xs.map (·.2.1)
def rDlen (K : PySem.W.Frag) (hs : NestedKey → Int) : List V → Hp → VK → Prop := fun xs H Q => ∃ a ys, xs = [.ref a] ∧ DKeys K hs H a ys ∧ Q (.int ys.length) H
def rDls (K : PySem.W.Frag) (hs : NestedKey → Int) : List V → Hp → VK → Prop := fun xs H Q => ∃ a ys, xs = [.ref a] ∧ DKeys K hs H a ys ∧ ∀ p, H p = none → Q (.ref p) (upd H p (.lst ys))
section
variable {X : Cx}
theorem call_dlen (hu : X.A.units + 65 < cLine) : CallR X (.builtin "len") (rDlen X.K fun k => k.hash X.w) := by
  intro pins s σ H xs us Q I r q
  obtain ⟨a, ys, rfl, hk, q⟩ := q
  obtain ⟨u, rfl, rx⟩ := vals1 r
  cases rx
  rcases hk with ⟨l, hr, rfl⟩ | ⟨o, xs, h1, h2, h3, h4, rfl⟩
  · exact d_len I hr fun t s' I' => ⟨.int l.length, H, I', ⟨t, rfl⟩, by rw [List.length_map] at q; exact q⟩
  · exact n_len I h1 h2 h3 h4 fun t s' I' => ⟨.int xs.length, H, I', ⟨t, rfl⟩, by rw [List.length_map] at q; exact q⟩
theorem call_dls (hc : X.calm = true) : CallR X (.type "list") (rDls X.K fun k => k.hash X.w) := by
  intro pins s σ H xs us Q I r q
  obtain ⟨a, ys, rfl, hk, q⟩ := q
  obtain ⟨u, rfl, rx⟩ := vals1 r
  cases rx
  rcases hk with ⟨l, hr, rfl⟩ | ⟨o, xs, h1, h2, h3, h4, rfl⟩
  · exact call_listD hc pins s σ H [.ref a] [.ref a] Q I (.cons rfl .nil) ⟨a, l, rfl, hr, q⟩
  · exact n_dlist hc I h1 h2 h3 q
end
def rBi (K : PySem.W.Frag) (hs : NestedKey → Int) : Bi → List V → Hp → VK → Prop
  | .dls => rDls K hs
  | .len => fun xs H Q => ((∃ p ys, xs = [.ref p] ∧ (SqL K H p ys ∨ SqT K H p ys) ∧ Q (.int ys.length) H) ∨ (∃ z, xs = [.str z] ∧ z.length ≤ sizeLine ∧ Q (.int z.length) H)) ∨ rDlen K hs xs H Q
  | .sum => rSum K
  | .all => rAll K
  | .any => rAny K
  | .mx => rMax K
  | .mn => rMin K
  | .mx2 => fun xs H Q => ∃ i j, xs = [.int i, .int j] ∧ Q (.int (if j > i then j else i)) H
  | .mn2 => fun xs H Q => ∃ i j, xs = [.int i, .int j] ∧ Q (.int (if j < i then j else i)) H
  | .int => fun xs H Q => (∃ i, xs = [.int i] ∧ Q (.int i) H) ∨ ∃ k, xs = [.bl k] ∧ Q (.int (if k then 1 else 0)) H
  | .list => fun xs H Q => ∃ p ys, xs = [.ref p] ∧ (SqL K H p ys ∨ SqT K H p ys) ∧ ∀ l, H l = none → Q (.ref l) (upd H l (.lst ys))
  | .tuple => fun xs H Q => ∃ p ys, xs = [.ref p] ∧ ((SqL K H p ys ∧ ∀ l, H l = none → Q (.ref l) (upd H l (.tup ys))) ∨ (SqT K H p ys ∧ Q (.ref p) H))
  | .srt => rSrt K
  | .stri => fun xs H Q => ∃ i, xs = [.int i] ∧ i.natAbs.log2 < 1920 ∧ Q (.str (Str.ofString (toString i))) H
  | .dm => fun xs H Q => ∃ i j, xs = [.int i, .int j] ∧ CDiv i j ∧ ∀ p, H p = none → Q (.ref p) (upd H p (.tup [.int (i / j), .int (i % j)]))
/-- needs no calm context -/
def Bi.cold : Bi → Bool
  | .len => true | .int => true | .list => true | .tuple => true | .dm => true | .stri => true | _ => false
theorem callR_bi {X : Cx} (b : Bi) (hc : X.calm = true ∨ b.cold = true) (hu : X.A.units + 65 < cLine) : CallR X (if b.isTy then .type b.nm else .builtin b.nm) (rBi X.K (fun k => k.hash X.w) b) := by
  have c : b.cold = false → X.calm = true := fun h => by
    rcases hc with z | z
    · exact z
    · rw [h] at z; cases z
  cases b with
  | dls => exact call_dls (c rfl)
  | len => exact (call_len_seq.or call_len_str).or (call_dlen hu)
  | sum => exact cr_sum (c rfl)
  | all => exact cr_all (c rfl)
  | any => exact cr_any (c rfl)
  | mx => exact cr_max (c rfl)
  | mn => exact cr_min (c rfl)
  | mx2 => exact call_max2 (c rfl)
  | mn2 => exact call_min2 (c rfl)
  | int => exact call_int1
  | list => exact call_list_of
  | tuple => exact call_tuple_of
  | srt => exact callR_srt (c rfl) hu
  | dm => exact call_divmod
  | stri => exact call_str_int
section
variable {G : Gc} {φ : List Addr} {μ : Mem} {H : Hp} {x y : V} {d d1 d2 : D} {fr : Bool} {Q : VK}
theorem rps_one {vs : List V} {t : D} {as : List D} (h : G.rps φ μ H vs as) (e : as.map (top μ) = [t]) : ∃ v d, vs = [v] ∧ as = [d] ∧ G.rp φ μ H v d ∧ top μ d = t := by
  cases h with
  | nil => cases e
  | cons h r =>
    cases r with
    | nil =>
      simp only [List.map_cons, List.map_nil, List.cons.injEq, and_true] at e
      exact ⟨_, _, rfl, rfl, h, e⟩
    | cons h r => cases e
theorem rps_two {vs : List V} {t u : D} {as : List D} (h : G.rps φ μ H vs as) (e : as.map (top μ) = [t, u]) : ∃ v w d1 d2, vs = [v, w] ∧ as = [d1, d2] ∧ G.rp φ μ H v d1 ∧ top μ d1 = t ∧ G.rp φ μ H w d2 ∧ top μ d2 = u := by
  cases h with
  | nil => cases e
  | cons h r =>
    cases r with
    | nil => cases e
    | cons h2 r =>
      cases r with
      | nil =>
        simp only [List.map_cons, List.map_nil, List.cons.injEq, and_true] at e
        exact ⟨_, _, _, _, rfl, rfl, h, e.1, h2, e.2⟩
      | cons h r => cases e
theorem rps_ofC {X : Addr → Prop} {cl : Cls0} {K : PySem.W.Frag} : ∀ {xs : List Nat}, okS xs = true → Rps cl K φ H X (xs.map fun c => V.str ⟨#[c]⟩) (xs.map fun c => D.str [c])
  | [], _ => .nil
  | c :: xs, h => by
    unfold okS at h
    rw [List.all_cons, Bool.and_eq_true] at h
    exact .cons (.str [c] (by unfold okS; rw [List.all_cons, h.1]; rfl)) (rps_ofC (xs := xs) (by unfold okS; exact h.2))
theorem rps_fst {X : Addr → Prop} {cl : Cls0} {K : PySem.W.Frag} : ∀ {vs : List V} {ds : List D}, Rps cl K φ H X vs ds → (vs.zip ds).map (·.1) = vs
  | _, _, .nil => rfl
  | _, _, .cons h r => by rw [List.zip_cons_cons, List.map_cons, rps_fst r]
theorem rps_snd {X : Addr → Prop} {cl : Cls0} {K : PySem.W.Frag} : ∀ {vs : List V} {ds : List D}, Rps cl K φ H X vs ds → (vs.zip ds).map (·.2) = ds
  | _, _, .nil => rfl
  | _, _, .cons h r => by rw [List.zip_cons_cons, List.map_cons, rps_snd r]
theorem rps_zip {X : Addr → Prop} {cl : Cls0} {K : PySem.W.Frag} : ∀ {vs : List V} {ds : List D}, Rps cl K φ H X vs ds → ∀ b ∈ vs.zip ds, Rp cl K φ H X b.1 b.2
  | _, _, .nil, _, hb => by simp at hb
  | _, _, .cons h r, b, hb => by
    rw [List.zip_cons_cons] at hb
    rcases List.mem_cons.mp hb with e | hb
    · rw [e]; exact h
    · exact rps_zip r b hb
theorem rps_pairs {X : Addr → Prop} {cl : Cls0} {K : PySem.W.Frag} : ∀ {bs : List (V × D)}, (∀ b ∈ bs, Rp cl K φ H X b.1 b.2) → Rps cl K φ H X (bs.map (·.1)) (bs.map (·.2))
  | [], _ => .nil
  | b :: bs, h => .cons (h b (by simp)) (rps_pairs fun c hc => h c (by simp [hc]))
theorem srt_ok {a : Addr} {vs : List V} {ds : List D} (m : Ms G φ μ H) (ra : SL G.K H a vs) (r : G.rps φ μ H vs ds) (ok : srtOk ds = true) (q : QQ G φ μ H μ fr (.lst (srtD ds)) Q) :
    ∃ (a' : Addr) (bs : List (V × D)), [V.ref a] = [V.ref a'] ∧ SqL G.K H a' (bs.map (·.1)) ∧ (∀ b ∈ bs, Dp G.K H b.1 (toP b.2)) ∧ srtOk (bs.map (·.2)) = true ∧ ∀ p, H p = none → Q (.ref p) (upd H p (.lst ((bs.mergeSort (PySem.W.dataLe false fun b => toP b.2)).map (·.1)))) := by
  refine ⟨a, vs.zip ds, rfl, ?_, ?_, ?_, ?_⟩
  · rw [rps_fst r]; exact sl_sq ra
  · intro b hb
    have ok2 := ok
    unfold srtOk at ok2
    simp only [Bool.and_eq_true] at ok2
    exact dp_of _ _ (pd_inv 60 _ (pds_mem ok2.1.1.1 _ (List.of_mem_zip hb).2)).1 (rps_zip r b hb)
  · rw [rps_snd r]; exact ok
  · refine new_list m ?_ q
    have e3 : srtD ds = ((vs.zip ds).mergeSort (PySem.W.dataLe false fun b => toP b.2)).map (·.2) := by
      have := List.map_mergeSort (r := PySem.W.dataLe false fun b : V × D => toP b.2) (s := PySem.W.dataLe false toP) (f := fun b : V × D => b.2) (l := vs.zip ds) (fun _ _ _ _ => rfl)
      rw [this, rps_snd r]; rfl
    rw [e3]
    exact rps_pairs fun b hb => rps_zip r b (List.mem_mergeSort.mp hb)
theorem kD_rps {cl : Cls0} {K : PySem.W.Frag} {Y : Addr → Prop} : ∀ {kvs : List (Key × V)}, (∀ p ∈ kvs, okK p.1 = true) → Rps cl K φ H Y (kvs.map fun p => kV p.1) (kvs.map fun p => kD p.1)
  | [], _ => .nil
  | p :: ps, h => by
    refine .cons ?_ (kD_rps fun q hq => h q (List.mem_cons_of_mem _ hq))
    have h1 := h p List.mem_cons_self
    obtain ⟨k, v⟩ := p
    cases k with
    | inl i => exact .int i
    | inr x => exact .str _ h1
theorem dkeys_of {ks vs : List D} {a : Addr} {Y : Addr → Prop} (hx : (∃ o ws, Rd H a o ∧ DC o ks ws ∧ Rps G.cl G.K φ H Y ws vs) ∨ CnD G.cl G.K φ H Y a ks vs) : ∃ ys, DKeys G.K G.cl.hs H a ys ∧ Rps G.cl G.K φ H Y ys ks := by
  rcases hx with ⟨ob, ws, hr, ⟨kvs, rfl, e1, e2, e3⟩, r⟩ | ⟨ob, xs, h1, h2, h3, h4, h5, h6, h7⟩
  · subst e1
    exact ⟨_, .inl ⟨kvs, hr, rfl⟩, kD_rps e2⟩
  · unfold tkB at h4
    rw [Bool.and_eq_true] at h4
    exact ⟨_, .inr ⟨ob, xs, h1, h2, h3, keyE_of h4.2 h5 h6, rfl⟩, h6⟩
theorem num_okS (n : Nat) : okS (TL.numL n) = true := by
  unfold okS
  refine List.all_eq_true.mpr fun c hc => ?_
  have r := TL.numL_digits n c hc
  simp only [decide_eq_true_eq]
  omega
theorem bi_ok (m : Ms G φ μ H) {b : Bi} {as : List D} {vs : List V} (h : G.rps φ μ H vs as) (e : biE b (as.map (top μ)) = some d) (q : QQ G φ μ H μ fr d Q) : rBi G.K G.cl.hs b vs H Q := by
  have hs : sizeLine = 16777216 := sizeLine_eq
  generalize e0 : as.map (top μ) = ts at e
  unfold biE at e
  split at e
  · obtain ⟨v, d1, rfl, rfl, h1, e1⟩ := rps_one h e0
    obtain ⟨a, vs, rfl, ra, r⟩ := top_lst m h1 e1
    cases Option.some.inj e
    exact .inl (.inl ⟨a, vs, rfl, .inl (sl_sq ra), by rw [r.length]; exact qq_int m q⟩)
  · obtain ⟨v, d1, rfl, rfl, h1, e1⟩ := rps_one h e0
    obtain ⟨a, vs, rfl, ra, r⟩ := top_tup m h1 e1
    cases Option.some.inj e
    exact .inl (.inl ⟨a, vs, rfl, .inr ra, by rw [r.length]; exact qq_int m q⟩)
  · obtain ⟨v, d1, rfl, rfl, h1, e1⟩ := rps_one h e0
    obtain ⟨rfl, k⟩ := top_str m h1 e1
    split at e
    · cases Option.some.inj e
      exact .inl (.inr ⟨_, rfl, by rw [mkS_len]; omega, by rw [mkS_len]; exact qq_int m q⟩)
    · cases e
  · obtain ⟨v, d1, rfl, rfl, h1, e1⟩ := rps_one h e0
    obtain ⟨a, vs, rfl, ra, r⟩ := top_lst m h1 e1
    obtain ⟨ns, z, e⟩ := Option.map_eq_some_iff.mp e
    subst e
    rw [intsOf_eq z] at r
    exact ⟨a, _, rfl, by rw [← rps_ints r]; exact sl_sq ra, qq_int m q⟩
  · obtain ⟨v, d1, rfl, rfl, h1, e1⟩ := rps_one h e0
    obtain ⟨a, vs, rfl, ra, r⟩ := top_lst m h1 e1
    obtain ⟨ns, z, e⟩ := Option.map_eq_some_iff.mp e
    subst e
    rw [blsOf_eq z] at r
    exact ⟨a, _, rfl, by rw [← rps_bls r]; exact sl_sq ra, qq_bl m q⟩
  · obtain ⟨v, d1, rfl, rfl, h1, e1⟩ := rps_one h e0
    obtain ⟨a, vs, rfl, ra, r⟩ := top_lst m h1 e1
    obtain ⟨ns, z, e⟩ := Option.map_eq_some_iff.mp e
    subst e
    rw [blsOf_eq z] at r
    exact ⟨a, _, rfl, by rw [← rps_bls r]; exact sl_sq ra, qq_bl m q⟩
  · obtain ⟨v, d1, rfl, rfl, h1, e1⟩ := rps_one h e0
    obtain ⟨a, vs, rfl, ra, r⟩ := top_lst m h1 e1
    obtain ⟨ns, z, e⟩ := Option.bind_eq_some_iff.mp e
    split at e
    · rename_i z2
      cases Option.some.inj e
      rw [intsOf_eq z] at r
      refine ⟨a, ns, rfl, by rw [← rps_ints r]; exact sl_sq ra, z2, fun k h1 h2 => ?_⟩
      have := maxL_max ns z2
      have e1 : k = maxL ns := Int.le_antisymm (this.2 k h1) (h2 _ this.1)
      rw [e1]; exact qq_int m q
    · cases e
  · obtain ⟨v, d1, rfl, rfl, h1, e1⟩ := rps_one h e0
    obtain ⟨a, vs, rfl, ra, r⟩ := top_lst m h1 e1
    obtain ⟨ns, z, e⟩ := Option.bind_eq_some_iff.mp e
    split at e
    · rename_i z2
      cases Option.some.inj e
      rw [intsOf_eq z] at r
      refine ⟨a, ns, rfl, by rw [← rps_ints r]; exact sl_sq ra, z2, fun k h1 h2 => ?_⟩
      have := minL_min ns z2
      have e1 : k = minL ns := Int.le_antisymm (h2 _ this.1) (this.2 k h1)
      rw [e1]; exact qq_int m q
    · cases e
  · obtain ⟨v, u, d1, d2, rfl, rfl, h1, e1, h2, e2⟩ := rps_two h e0
    obtain rfl := top_int m h1 e1; obtain rfl := top_int m h2 e2
    cases Option.some.inj e
    exact ⟨_, _, rfl, qq_int m q⟩
  · obtain ⟨v, u, d1, d2, rfl, rfl, h1, e1, h2, e2⟩ := rps_two h e0
    obtain rfl := top_int m h1 e1; obtain rfl := top_int m h2 e2
    cases Option.some.inj e
    exact ⟨_, _, rfl, qq_int m q⟩
  · obtain ⟨v, d1, rfl, rfl, h1, e1⟩ := rps_one h e0
    obtain rfl := top_int m h1 e1
    cases Option.some.inj e
    exact .inl ⟨_, rfl, qq_int m q⟩
  · obtain ⟨v, d1, rfl, rfl, h1, e1⟩ := rps_one h e0
    obtain rfl := top_bl m h1 e1
    cases Option.some.inj e
    exact .inr ⟨_, rfl, qq_int m q⟩
  · obtain ⟨v, d1, rfl, rfl, h1, e1⟩ := rps_one h e0
    obtain ⟨a, vs, rfl, ra, r⟩ := top_lst m h1 e1
    cases Option.some.inj e
    exact ⟨a, vs, rfl, .inl (sl_sq ra), new_list m r q⟩
  · obtain ⟨v, d1, rfl, rfl, h1, e1⟩ := rps_one h e0
    obtain ⟨a, vs, rfl, ra, r⟩ := top_tup m h1 e1
    cases Option.some.inj e
    exact ⟨a, vs, rfl, .inr ra, new_list m r q⟩
  · obtain ⟨v, d1, rfl, rfl, h1, e1⟩ := rps_one h e0
    obtain ⟨a, vs, rfl, ra, r⟩ := top_lst m h1 e1
    cases Option.some.inj e
    exact ⟨a, vs, rfl, .inl ⟨sl_sq ra, new_tup m r q⟩⟩
  · obtain ⟨v, d1, rfl, rfl, h1, e1⟩ := rps_one h e0
    obtain ⟨a, vs, rfl, ra, r⟩ := top_tup m h1 e1
    cases Option.some.inj e
    exact ⟨a, vs, rfl, .inr ⟨ra, qq_at m (.tup ra r) q fun _ z => z.elim⟩⟩
  · obtain ⟨v, d1, rfl, rfl, h1, e1⟩ := rps_one h e0
    obtain ⟨a, vs, rfl, ra, r⟩ := top_lst m h1 e1
    split at e
    · rename_i ok
      cases Option.some.inj e
      exact .inl (srt_ok m ra r ok q)
    · cases e
  · obtain ⟨v, d1, rfl, rfl, h1, e1⟩ := rps_one h e0
    obtain ⟨rfl, k⟩ := top_str m h1 e1
    split at e
    · rename_i z
      cases Option.some.inj e
      refine .inr ⟨_, rfl, z, new_list m (rps_ofC ?_) q⟩
      unfold okS
      refine List.all_eq_true.mpr fun c hc => List.all_eq_true.mp k c (List.mem_mergeSort.mp hc)
    · cases e
  · obtain ⟨v, u, d1, d2, rfl, rfl, h1, e1, h2, e2⟩ := rps_two h e0
    obtain rfl := top_int m h1 e1; obtain rfl := top_int m h2 e2
    split at e
    · rename_i z
      cases Option.some.inj e
      exact ⟨_, _, rfl, z, new_tup m (.cons (.int _) (.cons (.int _) .nil)) q⟩
    · cases e
  · obtain ⟨v, d1, rfl, rfl, h1, e1⟩ := rps_one h e0
    obtain ⟨a, rfl, hx⟩ := top_dct m h1 e1
    obtain ⟨ys, k1, k2⟩ := dkeys_of hx
    cases Option.some.inj e
    exact .inr ⟨a, ys, rfl, k1, by rw [k2.length]; exact qq_int m q⟩
  · obtain ⟨v, d1, rfl, rfl, h1, e1⟩ := rps_one h e0
    obtain ⟨a, rfl, hx⟩ := top_dct m h1 e1
    obtain ⟨ys, k1, k2⟩ := dkeys_of hx
    cases Option.some.inj e
    exact ⟨a, ys, rfl, k1, new_list m k2 q⟩
  · obtain ⟨v, d1, rfl, rfl, h1, e1⟩ := rps_one h e0
    obtain rfl := top_int m h1 e1
    split at e
    · rename_i i z
      cases Option.some.inj e
      obtain ⟨n, rfl⟩ : ∃ n : Nat, i = n := ⟨i.toNat, by omega⟩
      have hn : n < 1000000 := by omega
      refine ⟨_, rfl, ?_, ?_⟩
      · rw [Int.natAbs_natCast]
        by_cases h0 : n = 0
        · subst h0; decide
        · have : n.log2 < 20 := (Nat.log2_lt h0).mpr (Nat.lt_of_lt_of_le hn (by decide))
          omega
      · have es : Str.ofString (toString ((n : Nat) : Int)) = mkS (TL.numL n) := by
          have t := TL.tl_num n
          show _ = (⟨(TL.numL n).toArray⟩ : Str)
          rw [← t]
        rw [es]
        exact qq_at m (.str _ (num_okS n)) q fun _ z => z.elim
    · cases e
  · cases e
end
/-- the signs of a text, each once -/
def dstS (x : List Nat) : List Nat := x.foldl stepK []
theorem stepK_map {α β : Type} [DecidableEq α] [DecidableEq β] (f : α → β) (hf : ∀ a b, f a = f b → a = b) (σ : List α) (v : α) : stepK (σ.map f) (f v) = (stepK σ v).map f := by
  have e : (σ.map f).any (fun k => decide (k = f v)) = σ.any (fun k => decide (k = v)) := by
    rw [List.any_map]
    congr 1
    funext k
    by_cases h : k = v
    · subst h; simp
    · have : ¬ f k = f v := fun z => h (hf _ _ z)
      simp [h, this]
  unfold stepK
  rw [e]
  split
  · rfl
  · rw [List.map_append]; rfl
theorem foldK_map {α β : Type} [DecidableEq α] [DecidableEq β] (f : α → β) (hf : ∀ a b, f a = f b → a = b) : ∀ (xs σ : List α), (xs.map f).foldl stepK (σ.map f) = (xs.foldl stepK σ).map f
  | [], _ => rfl
  | x :: xs, σ => by rw [List.map_cons, List.foldl_cons, List.foldl_cons, stepK_map f hf, foldK_map f hf xs]
theorem range_sgn (x : List Nat) : (List.range x.length).map (sgnAt (mkS x)) = x.map fun c => (⟨#[c]⟩ : Str) := by
  refine List.ext_getElem (by simp) fun i h1 h2 => ?_
  simp only [List.length_map, List.length_range] at h1
  simp [sgnAt, mkS, h1]
theorem metK_sgn (x : List Nat) : (metK (sgnAt (mkS x)) (mkS x).cps.size).length = (dstS x).length := by
  unfold metK dstS
  have e : (mkS x).cps.size = x.length := by simp [mkS]
  rw [e, range_sgn]
  have := foldK_map (fun c => (⟨#[c]⟩ : Str)) (fun a b h => by simpa using h) x []
  rw [List.map_nil] at this
  rw [this, List.length_map]
def lsetE (d : D) : Option D := match d with | .str x => if x.length ≤ 4000 then some (.int ((dstS x).length : Nat)) else none | _ => none
section
variable {G : Gc} {φ : List Addr} {μ : Mem} {H : Hp} {x y : V} {d d1 d2 : D} {fr : Bool} {Q : VK}
theorem lset_ok (m : Ms G φ μ H) (h : G.rp φ μ H x d1) (e : lsetE (top μ d1) = some d) (q : QQ G φ μ H μ fr d Q) : ∃ y, x = .str y ∧ y.cps.size ≤ 4000 ∧ Q (.int ((metK (sgnAt y) y.cps.size).length : Nat)) H := by
  generalize e1 : top μ d1 = t1 at e
  unfold lsetE at e
  split at e
  · obtain ⟨rfl, k⟩ := top_str m h e1
    split at e
    · rename_i z
      cases Option.some.inj e
      refine ⟨_, rfl, by simpa [mkS] using z, ?_⟩
      rw [metK_sgn]
      exact qq_int m q
    · cases e
  · cases e
end
def rvlE (d : D) : Option D := match d with | .lst ds => some (.lst ds.reverse) | .str x => if x.length ≤ 16777216 then some (.str x.reverse) else none | _ => none
section
variable {G : Gc} {φ : List Addr} {μ : Mem} {H : Hp} {x y : V} {d d1 d2 : D} {fr : Bool} {Q : VK}
theorem rvl_ok (m : Ms G φ μ H) (h : G.rp φ μ H x d1) (e : rvlE (top μ d1) = some d) (q : QQ G φ μ H μ fr d Q) : (∃ a xs, x = .ref a ∧ SqL G.K H a xs ∧ ∀ p, H p = none → Q (.ref p) (upd H p (.lst xs.reverse))) ∨ (∃ z, x = .str z ∧ z.length ≤ sizeLine ∧ Q (.str (revS z)) H) := by
  generalize e1 : top μ d1 = t1 at e
  unfold rvlE at e
  split at e
  · obtain ⟨a, vs, rfl, ra, r⟩ := top_lst m h e1
    cases Option.some.inj e
    exact .inl ⟨a, vs, rfl, sl_sq ra, new_list m r.reverse q⟩
  · rename_i x
    obtain ⟨rfl, k⟩ := top_str m h e1
    split at e
    · rename_i z
      cases Option.some.inj e
      refine .inr ⟨_, rfl, by rw [mkS_len, sizeLine_eq]; exact z, ?_⟩
      have e3 : revS (mkS x) = mkS x.reverse := by simp [revS, mkS]
      rw [e3]
      exact qq_str m (okS_sub k fun e he => List.mem_reverse.mp he) q
    · cases e
  · cases e
end
def lrvE (d : D) : Option D := match d with | .lst ds => some (.lst ds.reverse) | .str x => if x.length ≤ 16777216 then some (.lst (x.reverse.map fun c => .str [c])) else none | _ => none
section
variable {G : Gc} {φ : List Addr} {μ : Mem} {H : Hp} {x y : V} {d d1 d2 : D} {fr : Bool} {Q : VK}
theorem lrv_ok (m : Ms G φ μ H) (h : G.rp φ μ H x d1) (e : lrvE (top μ d1) = some d) (q : QQ G φ μ H μ fr d Q) : (∃ a xs, x = .ref a ∧ SL G.K H a xs ∧ ∀ p, H p = none → Q (.ref p) (upd H p (.lst xs.reverse))) ∨ (∃ z : Str, x = .str z ∧ z.length ≤ sizeLine ∧ ∀ p, H p = none → Q (.ref p) (upd H p (.lst (z.cps.toList.reverse.map fun c => V.str ⟨#[c]⟩)))) := by
  generalize e1 : top μ d1 = t1 at e
  unfold lrvE at e
  split at e
  · obtain ⟨a, vs, rfl, ra, r⟩ := top_lst m h e1
    cases Option.some.inj e
    exact .inl ⟨a, vs, rfl, ra, new_list m r.reverse q⟩
  · rename_i z
    obtain ⟨rfl, k⟩ := top_str m h e1
    split at e
    · rename_i hz
      cases Option.some.inj e
      refine .inr ⟨_, rfl, by rw [mkS_len, sizeLine_eq]; exact hz, new_list m ?_ q⟩
      have e3 : (mkS z).cps.toList = z := by simp [mkS]
      rw [e3]
      exact rps_ofC (okS_sub k fun e he => List.mem_reverse.mp he)
    · cases e
  · cases e
theorem rd_ty {a : Addr} {vs : List V} {K : PySem.W.Frag} (h : SL K H a vs) : TyX K H (.ref a) (.type "list") := by
  rcases h with (h | ⟨o, h⟩) | ⟨its, n, hk, _⟩
  · exact .base (.lst h)
  · exact .base (.frz h)
  · exact .kList hk rfl
theorem sqt_ty {a : Addr} {vs : List V} {K : PySem.W.Frag} (h : SqT K H a vs) : TyX K H (.ref a) (.type "tuple") := by
  rcases h with (h | ⟨o, h⟩) | ⟨o, its, n, hk, hc, _⟩
  · exact .base (.tup h)
  · exact .fTuple h
  · exact .kTuple hk hc
/-- the name of a datum's built-in type -/
def tyD : D → Option String
  | .dct ks _ => if tkB ks then none else some "dict"
  | .non => some "NoneType" | .bl _ => some "bool" | .int _ => some "int" | .str _ => some "str" | .lst _ => some "list" | .tup _ => some "tuple" | _ => none
theorem ty_of (m : Ms G φ μ H) {T : String} (h : G.rp φ μ H x d1) (e : tyD (top μ d1) = some T) : TyX G.K H x (.type T) := by
  generalize e1 : top μ d1 = t1 at e
  cases t1 with
  | non => cases e; obtain rfl := top_non m h e1; exact .base .non
  | bl b => cases e; obtain rfl := top_bl m h e1; exact .base (.bl b)
  | int i => cases e; obtain rfl := top_int m h e1; exact .base (.int i)
  | str s => cases e; obtain ⟨rfl, _⟩ := top_str m h e1; exact .base (.str _)
  | lst ds => cases e; obtain ⟨a, vs, rfl, ra, _⟩ := top_lst m h e1; exact rd_ty ra
  | tup ds => cases e; obtain ⟨a, vs, rfl, ra, _⟩ := top_tup m h e1; exact sqt_ty ra
  | dct ks ds =>
    have e : (if tkB ks = true then none else some "dict") = some T := e
    split at e
    · cases e
    · rename_i nt
      cases e
      obtain ⟨a, rfl, ⟨o, ws, ra, ⟨kvs, rfl, _⟩, _⟩ | ⟨_, _, _, _, _, t, _⟩⟩ := top_dct m h e1
      · rcases ra with ra | ⟨u, ra⟩
        · exact .base (.dK ra)
        · exact .fDict ra
      · exact absurd t nt
  | _ => cases e
theorem kit_all : ∀ (k : Kd), kitB "NoneType" k.nm = some false ∧ kitB "bool" k.nm = some (match k with | .int => true | .bool => true | _ => false) ∧ kitB "int" k.nm = some (match k with | .int => true | _ => false) ∧
    kitB "str" k.nm = some (match k with | .str => true | _ => false) ∧ kitB "list" k.nm = some (match k with | .lst => true | _ => false) ∧ kitB "tuple" k.nm = some (match k with | .tup => true | _ => false) ∧ kitB "dict" k.nm = some (match k with | .dict => true | _ => false) := by
  intro k
  cases k <;> decide +kernel
theorem isi_ok (m : Ms G φ μ H) {k : Kd} (h : G.rp φ μ H x d1) (e : isiE k (top μ d1) = some d) (q : QQ G φ μ H μ fr d Q) : rIsi G.K [x, .ty k.nm] H Q := by
  obtain ⟨T, b, hT, hb, rfl⟩ : ∃ T b, tyD (top μ d1) = some T ∧ kitB T k.nm = some b ∧ d = .bl b := by
    obtain ⟨k1, k2, k3, k4, k5, k6, k7⟩ := kit_all k
    generalize top μ d1 = t1 at e
    cases t1 with
    | non => exact ⟨_, _, rfl, k1, by cases k <;> simp [isiE] at e <;> simp [e]⟩
    | bl b => exact ⟨_, _, rfl, k2, by cases k <;> simp [isiE] at e <;> simp [e]⟩
    | int b => exact ⟨_, _, rfl, k3, by cases k <;> simp [isiE] at e <;> simp [e]⟩
    | str b => exact ⟨_, _, rfl, k4, by cases k <;> simp [isiE] at e <;> simp [e]⟩
    | lst b => exact ⟨_, _, rfl, k5, by cases k <;> simp [isiE] at e <;> simp [e]⟩
    | tup b => exact ⟨_, _, rfl, k6, by cases k <;> simp [isiE] at e <;> simp [e]⟩
    | dct ks _ =>
      have e : (if tkB ks = true then none else some (D.bl (match k with | .dict => true | _ => false))) = some d := by cases k <;> exact e
      split at e
      · cases e
      · rename_i nt
        exact ⟨"dict", _, if_neg nt, k7, (Option.some.inj e).symm.trans (by cases k <;> rfl)⟩
    | _ => cases k <;> simp [isiE] at e
  exact ⟨_, _, _, _, b, rfl, .ty _, ty_of m h hT, kit_ty hb, qq_bl m q⟩
end
inductive Sm where | join | lcount | scount | split | lcnb | sidx
def Sm.nm : Sm → Str | .join => "join" | .lcount => "count" | .scount => "count" | .split => "split" | .lcnb => "count" | .sidx => "index"
/-- is the receiver of the method's type? -/
def smT : Sm → D → Bool
  | .join, .str _ => true
  | .lcount, .lst _ => true
  | .scount, .str _ => true
  | .split, .str _ => true
  | .lcnb, .lst _ => true
  | .sidx, .str _ => true
  | _, _ => false
def smE (k : Sm) (d : D) (as : List D) : Option D :=
  match k, d, as with
  | .join, .str s, [.lst ds] => (strsOf ds).bind fun xs => if (xs.map (·.length)).sum + xs.length * s.length ≤ 16777216 then some (.str (TL.joinL s xs)) else none
  | .lcount, .lst ds, [.str x] => (strsOf ds).map fun xs => .int ((xs.count x : Nat))
  | .scount, .str x, [.str y] => some (.int (Txt.count (mkS x) (mkS y)))
  | .split, .str x, [.str y] => if (decide (y ≠ []) && y.all (· < 256) && decide (x.length ≤ 16777000)) = true then some (.lst ((TL.spl y 0 [] x).map .str)) else none
  | .lcnb, .lst ds, [.bl b] => (blsOf ds).map fun bs => .int ((bs.count b : Nat))
  | .sidx, .str x, [.str [c]] => if c ∈ x then some (.int ((x.idxOf c : Nat))) else none
  | _, _, _ => none
theorem not_idx {x : List Nat} {c i : Nat} (h : i < x.idxOf c) : ¬ x[i]? = some c := by
  induction x generalizing i with
  | nil => simp
  | cons a r ih =>
    rw [List.idxOf_cons] at h
    by_cases e : a = c
    · subst e; simp at h
    · have e' : (a == c) = false := by simpa using e
      rw [e'] at h
      simp only [cond_false] at h
      cases i with
      | zero => simpa using e
      | succ i => rw [List.getElem?_cons_succ]; exact ih (by omega)
theorem joinL_mem {s : List Nat} : ∀ {xs : List (List Nat)} {c : Nat}, c ∈ TL.joinL s xs → c ∈ s ∨ ∃ x ∈ xs, c ∈ x
  | [], _, h => by simp [TL.joinL] at h
  | [p], _, h => .inr ⟨p, by simp, h⟩
  | p :: q :: r, c, h => by
    unfold TL.joinL at h
    rcases List.mem_append.mp h with h | h
    · exact .inr ⟨p, by simp, h⟩
    · rcases List.mem_append.mp h with h | h
      · exact .inl h
      · rcases joinL_mem h with h | ⟨x, hx, h⟩
        · exact .inl h
        · exact .inr ⟨x, List.mem_cons_of_mem _ hx, h⟩
section
variable {G : Gc} {φ : List Addr} {μ : Mem} {H : Hp} {x y : V} {d d1 d2 : D} {fr : Bool} {Q : VK}
theorem rps_okS {X : Addr → Prop} {cl : Cls0} {K : PySem.W.Frag} : ∀ {vs : List V} {xs : List (List Nat)}, Rps cl K φ H X vs (xs.map D.str) → ∀ x ∈ xs, okS x = true
  | _, [], _, _, h => by simp at h
  | _, y :: ys, .cons h r, x, hx => by
    rcases List.mem_cons.mp hx with e | hx
    · subst e; cases h with | str _ k => exact k
    · exact rps_okS r x hx
theorem lcnb_ok (m : Ms G φ μ H) (h : G.rp φ μ H x d1) {as : List D} {vs : List V} (ha : G.rps φ μ H vs as) (e : smE .lcnb (top μ d1) (as.map (top μ)) = some d) (q : QQ G φ μ H μ fr d Q) : rCntB G.K x vs H Q := by
  generalize e1 : top μ d1 = t1 at e
  generalize e0 : as.map (top μ) = ts at e
  unfold smE at e
  split at e
  · exact absurd ‹Sm.lcnb = Sm.join› (by intro h; cases h)
  · exact absurd ‹Sm.lcnb = Sm.lcount› (by intro h; cases h)
  · exact absurd ‹Sm.lcnb = Sm.scount› (by intro h; cases h)
  · exact absurd ‹Sm.lcnb = Sm.split› (by intro h; cases h)
  · obtain ⟨a, us, rfl, ra, r⟩ := top_lst m h e1
    obtain ⟨v, d2, rfl, rfl, h1, e2⟩ := rps_one ha e0
    obtain rfl := top_bl m h1 e2
    obtain ⟨bs, z, rfl⟩ := Option.map_eq_some_iff.mp e
    rw [blsOf_eq z] at r
    have := rps_bls r
    subst this
    exact ⟨a, bs, _, rfl, rfl, sl_sq ra, qq_int m q⟩
  · exact absurd ‹Sm.lcnb = Sm.sidx› (by intro h; cases h)
  · cases e
/-- text.index(sign) -/
def rSidx : V → List V → Hp → VK → Prop := fun x xs H Q => ∃ a b i rest, x = .str a ∧ xs = [.str b] ∧ Builtin.Str.occurrences a b 0 a.length 1 = i :: rest ∧ Q (.int (i : Nat)) H
theorem occ_idx {x : List Nat} {c : Nat} (hc : c ∈ x) : ∃ rest, Builtin.Str.occurrences (mkS x) (mkS [c]) 0 (mkS x).length 1 = x.idxOf c :: rest := by
  have at_ : ∀ i, (i + (mkS [c]).length ≤ (mkS x).length ∧ Builtin.Str.subAt (mkS x) (mkS [c]) i = true) ↔ x[i]? = some c := fun i => StrLaws.subAt_one (mkS x) c i
  rcases StrLaws.occ_head (mkS x) (mkS [c]) 1 (Nat.le_refl _) with ⟨_, hn⟩ | ⟨i, r, e, hi, hk⟩
  · obtain ⟨i, hi⟩ := List.mem_iff_getElem?.mp hc
    exact absurd ((at_ i).mpr hi) (hn i)
  · refine ⟨r, ?_⟩
    rw [e]
    have hi' := (at_ i).mp hi
    have hl : i < x.length := (List.getElem?_eq_some_iff.mp hi').1
    have ei : x.idxOf c = i := by
      have h1 : x.idxOf c < x.length := List.idxOf_lt_length_of_mem hc
      have h2 : x[x.idxOf c]? = some c := by rw [List.getElem?_eq_getElem h1, List.getElem_idxOf h1]
      rcases Nat.lt_trichotomy (x.idxOf c) i with z | z | z
      · exact absurd ((at_ _).mpr h2) (hk _ z)
      · exact z
      · exact absurd hi' (not_idx z)
    rw [ei]
theorem sidx_ok (m : Ms G φ μ H) (h : G.rp φ μ H x d1) {as : List D} {vs : List V} (ha : G.rps φ μ H vs as) (e : smE .sidx (top μ d1) (as.map (top μ)) = some d) (q : QQ G φ μ H μ fr d Q) : rSidx x vs H Q := by
  generalize e1 : top μ d1 = t1 at e
  generalize e0 : as.map (top μ) = ts at e
  unfold smE at e
  split at e
  · exact absurd ‹Sm.sidx = Sm.join› (by intro h; cases h)
  · exact absurd ‹Sm.sidx = Sm.lcount› (by intro h; cases h)
  · exact absurd ‹Sm.sidx = Sm.scount› (by intro h; cases h)
  · exact absurd ‹Sm.sidx = Sm.split› (by intro h; cases h)
  · exact absurd ‹Sm.sidx = Sm.lcnb› (by intro h; cases h)
  · obtain ⟨rfl, k⟩ := top_str m h e1
    obtain ⟨v, d2, rfl, rfl, h1, e2⟩ := rps_one ha e0
    obtain ⟨rfl, k⟩ := top_str m h1 e2
    split at e
    · rename_i hc
      cases Option.some.inj e
      obtain ⟨r, e3⟩ := occ_idx hc
      exact ⟨_, _, _, r, rfl, rfl, e3, qq_int m q⟩
    · cases e
  · cases e
theorem lcount_ok (m : Ms G φ μ H) (h : G.rp φ μ H x d1) {as : List D} {vs : List V} (ha : G.rps φ μ H vs as) (e : smE .lcount (top μ d1) (as.map (top μ)) = some d) (q : QQ G φ μ H μ fr d Q) : rCntS G.K x vs H Q := by
  generalize e1 : top μ d1 = t1 at e
  generalize e0 : as.map (top μ) = ts at e
  unfold smE at e
  split at e
  · exact absurd ‹Sm.lcount = Sm.join› (by intro h; cases h)
  · rename_i ds x _
    obtain ⟨a, us, rfl, ra, r⟩ := top_lst m h e1
    obtain ⟨v, d2, rfl, rfl, h1, e2⟩ := rps_one ha e0
    obtain ⟨rfl, k⟩ := top_str m h1 e2
    obtain ⟨xs, z, rfl⟩ := Option.map_eq_some_iff.mp e
    rw [strsOf_eq z] at r
    have := rps_strs r
    subst this
    refine ⟨a, xs.map mkS, mkS x, rfl, rfl, ?_, ?_⟩
    · rw [List.map_map]; exact sl_sq ra
    · have ec : (xs.map mkS).count (mkS x) = xs.count x := by
        have inj : ∀ a b : List Nat, (mkS a == mkS b) = (a == b) := fun a b => by
          rw [Bool.eq_iff_iff]; simp [mkS]
        rw [List.count, List.countP_map, List.count]
        congr 1
        funext a
        exact inj a x
      rw [ec]
      exact qq_int m q
  · exact absurd ‹Sm.lcount = Sm.scount› (by intro h; cases h)
  · exact absurd ‹Sm.lcount = Sm.split› (by intro h; cases h)
  · exact absurd ‹Sm.lcount = Sm.lcnb› (by intro h; cases h)
  · exact absurd ‹Sm.lcount = Sm.sidx› (by intro h; cases h)
  · cases e
theorem scount_ok (m : Ms G φ μ H) (h : G.rp φ μ H x d1) {as : List D} {vs : List V} (ha : G.rps φ μ H vs as) (e : smE .scount (top μ d1) (as.map (top μ)) = some d) (q : QQ G φ μ H μ fr d Q) : ∃ a b, x = .str a ∧ vs = [.str b] ∧ Q (.int (Txt.count a b)) H := by
  generalize e1 : top μ d1 = t1 at e
  generalize e0 : as.map (top μ) = ts at e
  unfold smE at e
  split at e
  · exact absurd ‹Sm.scount = Sm.join› (by intro h; cases h)
  · exact absurd ‹Sm.scount = Sm.lcount› (by intro h; cases h)
  · rename_i x y _
    obtain ⟨rfl, k⟩ := top_str m h e1
    obtain ⟨v, d2, rfl, rfl, h1, e2⟩ := rps_one ha e0
    obtain ⟨rfl, k⟩ := top_str m h1 e2
    cases Option.some.inj e
    exact ⟨_, _, rfl, rfl, qq_int m q⟩
  · exact absurd ‹Sm.scount = Sm.split› (by intro h; cases h)
  · exact absurd ‹Sm.scount = Sm.lcnb› (by intro h; cases h)
  · exact absurd ‹Sm.scount = Sm.sidx› (by intro h; cases h)
  · cases e
def rJoin (K : PySem.W.Frag) : V → List V → Hp → VK → Prop := fun x xs H Q => ∃ a p, ∃ ys : List Str, x = .str a ∧ xs = [.ref p] ∧ (SqL K H p (ys.map V.str) ∨ SqT K H p (ys.map V.str)) ∧
    (ys.map (·.length)).sum + ys.length * a.length ≤ 16777216 ∧ Q (.str (Txt.join a ys)) H
theorem join_ok (m : Ms G φ μ H) (h : G.rp φ μ H x d1) {as : List D} {vs : List V} (ha : G.rps φ μ H vs as) (e : smE .join (top μ d1) (as.map (top μ)) = some d) (q : QQ G φ μ H μ fr d Q) : rJoin G.K x vs H Q := by
  generalize e1 : top μ d1 = t1 at e
  generalize e0 : as.map (top μ) = ts at e
  unfold smE at e
  split at e
  · rename_i s ds _
    obtain ⟨rfl, k⟩ := top_str m h e1
    obtain ⟨v, d2, rfl, rfl, h1, e2⟩ := rps_one ha e0
    obtain ⟨a, vs, rfl, ra, r⟩ := top_lst m h1 e2
    obtain ⟨xs, z, e⟩ := Option.bind_eq_some_iff.mp e
    split at e
    · rename_i z2
      cases Option.some.inj e
      rw [strsOf_eq z] at r
      refine ⟨mkS s, a, xs.map mkS, rfl, rfl, .inl ?_, ?_, ?_⟩
      · have := rps_strs r
        rw [List.map_map]
        subst this
        exact sl_sq ra
      · rw [List.map_map, List.length_map, mkS_len]
        have : ((fun x : Str => x.length) ∘ mkS) = fun x : List Nat => x.length := by funext x; exact mkS_len x
        rw [this]; exact z2
      · have e1 : Txt.join (mkS s) (xs.map mkS) = mkS (TL.joinL s xs) := by
          rw [TL.join_eq]
          apply TL.ext_tl
          rw [TL.tl_join, List.map_map]
          have : TL.tl ∘ mkS = id := by funext x; simp [TL.tl, mkS]
          rw [this, List.map_id]
          simp [TL.tl, mkS]
        rw [e1]
        refine qq_str m ?_ q
        unfold okS
        refine List.all_eq_true.mpr fun c hc => ?_
        rcases joinL_mem hc with h | ⟨x, hx, h⟩
        · exact List.all_eq_true.mp k c h
        · exact List.all_eq_true.mp (rps_okS r x hx) c h
    · cases e
  · exact absurd ‹Sm.join = Sm.lcount› (by intro h; cases h)
  · exact absurd ‹Sm.join = Sm.scount› (by intro h; cases h)
  · exact absurd ‹Sm.join = Sm.split› (by intro h; cases h)
  · exact absurd ‹Sm.join = Sm.lcnb› (by intro h; cases h)
  · exact absurd ‹Sm.join = Sm.sidx› (by intro h; cases h)
  · cases e
theorem spl_mem {S : List Nat} : ∀ (l : List Nat) (k : Nat) (acc p : List Nat), p ∈ TL.spl S k acc l → ∀ c ∈ p, c ∈ acc ∨ c ∈ l
  | [], k, acc, p, h, c, hc => by
    rw [TL.spl_nil, List.mem_singleton] at h
    rw [h] at hc; exact .inl hc
  | a :: r, 0, acc, p, h, c, hc => by
    cases hp : TL.pre S (a :: r) with
    | true =>
      rw [TL.spl_hit hp] at h
      rcases List.mem_cons.mp h with e | h
      · rw [e] at hc; exact .inl hc
      · rcases spl_mem r _ _ p h c hc with z | z
        · cases z
        · exact .inr (by simp [z])
    | false =>
      rw [TL.spl_miss hp] at h
      rcases spl_mem r _ _ p h c hc with z | z
      · rcases List.mem_append.mp z with z | z
        · exact .inl z
        · exact .inr (by rw [List.mem_singleton.mp z]; simp)
      · exact .inr (by simp [z])
  | a :: r, k + 1, acc, p, h, c, hc => by
    have h : p ∈ TL.spl S k acc r := by unfold TL.spl at h; exact h
    rcases spl_mem r _ _ p h c hc with z | z
    · exact .inl z
    · exact .inr (by simp [z])
theorem rps_ofS {X : Addr → Prop} {cl : Cls0} {K : PySem.W.Frag} : ∀ {xs : List (List Nat)}, (∀ x ∈ xs, okS x = true) → Rps cl K φ H X (xs.map fun x => V.str (mkS x)) (xs.map D.str)
  | [], _ => .nil
  | x :: xs, h => .cons (.str x (h x (by simp))) (rps_ofS fun y hy => h y (by simp [hy]))
def rSplit : V → List V → Hp → VK → Prop := fun x xs H Q => ∃ a b, x = .str a ∧ xs = [.str b] ∧ (b.length == 0) = false ∧ a.length + 2 ≤ sizeLine ∧ rNewStrs (Txt.split a b) H Q
theorem split_ok (m : Ms G φ μ H) (h : G.rp φ μ H x d1) {as : List D} {vs : List V} (ha : G.rps φ μ H vs as) (e : smE .split (top μ d1) (as.map (top μ)) = some d) (q : QQ G φ μ H μ fr d Q) : rSplit x vs H Q := by
  generalize e1 : top μ d1 = t1 at e
  generalize e0 : as.map (top μ) = ts at e
  unfold smE at e
  split at e
  · exact absurd ‹Sm.split = Sm.join› (by intro h; cases h)
  · exact absurd ‹Sm.split = Sm.lcount› (by intro h; cases h)
  · exact absurd ‹Sm.split = Sm.scount› (by intro h; cases h)
  · rename_i x y _
    obtain ⟨rfl, k⟩ := top_str m h e1
    obtain ⟨v, d2, rfl, rfl, h1, e2⟩ := rps_one ha e0
    obtain ⟨rfl, k2⟩ := top_str m h1 e2
    split at e
    · rename_i z
      simp only [Bool.and_eq_true, decide_eq_true_eq] at z
      obtain ⟨⟨z1, z2⟩, z3⟩ := z
      cases Option.some.inj e
      refine ⟨_, _, rfl, rfl, ?_, by rw [mkS_len, sizeLine_eq]; omega, ?_⟩
      · rw [mkS_len]
        cases y with
        | nil => exact absurd rfl z1
        | cons a y => rfl
      · have es : Txt.split (mkS x) (mkS y) = (TL.spl y 0 [] x).map mkS := SX.split_S z1 z2
        unfold rNewStrs
        rw [es, List.map_map]
        exact new_list m (rps_ofS fun p hp => by
          unfold okS
          refine List.all_eq_true.mpr fun c hc => ?_
          rcases spl_mem _ _ _ p hp c hc with w | w
          · cases w
          · exact List.all_eq_true.mp k c w) q
    · cases e
  · exact absurd ‹Sm.split = Sm.lcnb› (by intro h; cases h)
  · exact absurd ‹Sm.split = Sm.sidx› (by intro h; cases h)
  · cases e
end
end DM
set_option Elab.async false
set_option linter.all false
set_option maxRecDepth 100000
set_option maxHeartbeats 4000000
namespace DM
open PySem L2 PySem.Spec PyProof.Rows RT
section
variable {prog : Program} {w : World} {A : Around} {E : Value → Shared → Prop} {s : Shared} {x : Str} {t : Tok}
theorem collect_rs {it : Addr} {Q : List Value → Shared → Prop} (hh : A.handled = none) (hit : IsRs s.heap it x t ((x.length : Int) - 1)) (hn : x.length ≤ sizeLine)
    (hQ : ∀ (h' : Heap) (tk : Nat) (acc : Array Value), (∀ b o, b ≠ it → s.heap.get? b = some o → h'.get? b = some o) → ItemsOf (fun i v => ∃ c u, x.cps[x.length - 1 - i]? = some c ∧ v = .str ⟨#[c]⟩ u) acc x.length → Q acc.toList { s with heap := h', toks := tk }) :
    wpAny (model prog w) A (collect (.ref it)) Q E s := by
  obtain ⟨oi, hoi, _⟩ := id hit
  have ni : s.heap.objs.size ≠ it := Nat.ne_of_gt (Heap.lt_size hoi)
  unfold collect
  refine wpAny_bind (wpAny_runValue (codeAny_builtin F.entry_proto_collect ?_))
  rw [Around.under_plainId F.plain_proto_collect _]
  show wpAny _ A.in1 (newList [] >>= fun l => again (.builtin "list.__iadd__" ⟨[l, .ref it], []⟩)) _ _ s
  refine wpAny_bind (wpAny_newObj_type ?_)
  refine wpAny_pure ⟨plainId_quiet F.plain_list_iadd _, codeAny_builtin F.entry_list_iadd ?_⟩
  rw [Around.under_plainId F.plain_list_iadd _]
  show wpAny _ A.in1 (Builtin.List.listExtendWith (.ref s.heap.objs.size) (.ref it) (.ref s.heap.objs.size)) _ _ _
  have hS : (s.heap.push { cls := .type "list", data := .seq ([] : List Value).toArray }).get? s.heap.objs.size = some { cls := .type "list", data := .seq #[] 0 } := Heap.get?_push_size _ rfl
  have oth : ∀ b o, s.heap.get? b = some o → (s.heap.push { cls := .type "list", data := .seq ([] : List Value).toArray }).get? b = some o := fun b o e => Heap.get?_push_of_some _ e
  refine extend_rs (R := fun r s' => match r with
    | Except.ok (Flow.ret v) => wpAny (model prog w) A (match v with
        | Value.ref a => do
          let o ← load a
          match o.data with
          | Data.seq xs _ => pure xs.toList
          | _ => unsupported "internal:collect"
        | _ => unsupported "internal:collect") Q E s'
    | Except.ok _ => False
    | Except.error e => E e s') (A := A) (s := { s with heap := s.heap.push { cls := .type "list", data := .seq ([] : List Value).toArray } }) hh (hit.at fun o e => oth _ o e) hn s.heap.objs.size _ _ hS ni fun h' tk acc' c' hk hS' hacc => ?_
  show wpAny _ A (load s.heap.objs.size >>= _) _ _ _
  refine wpAny_bind (wpAny_load hS' ?_)
  exact wpAny_pure (hQ h' tk acc' (fun b o hb e => hk b o (Nat.ne_of_lt (Heap.lt_size e)) hb (oth b o e)) hacc)
theorem join_rs {sep : Str} {tk0 : Tok} {it : Addr} {ys : List Str} {Q : Value → Shared → Prop} (hh : A.handled = none) (hit : IsRs s.heap it x t ((x.length : Int) - 1)) (hn : x.length ≤ sizeLine)
    (hP : ∀ acc : Array Value, ItemsOf (fun i v => ∃ c u, x.cps[x.length - 1 - i]? = some c ∧ v = .str ⟨#[c]⟩ u) acc x.length → StrsAre acc.toList ys) (hok : (ys.map (·.length)).sum + ys.length * sep.length ≤ 16777216)
    (hq : ∀ h' : Heap, (∀ b o, b ≠ it → s.heap.get? b = some o → h'.get? b = some o) → ∀ t' k, Q (.str (Txt.join sep ys) t') { s with heap := h', toks := k }) :
    wpAny (model prog w) A (call (.builtin "str.join") [.str sep tk0, .ref it]) Q E s := by
  refine wpAny_call (codeAny_call_builtin F.slot_str_join.plain F.entry_str_join (F.slot_str_join.check _ _ _ _ _ _ _ _ (typeIs_str _ _ _) (F.args_str_join_2 _ _) ?_))
  rw [join_tree_other]
  refine wpAny_bind (wpAny_typeOf hit.typeIs ?_)
  show wpAny _ A.in1 ((pyIter (.ref it)).tryCatch _ >>= fun it => collect it >>= fun items => joinTail sep items) _ _ s
  refine wpAny_bind (wpAny_tryCatch (iter_rs hit ?_))
  refine wpAny_bind (collect_rs hh hit hn fun h' tk acc hk hacc => ?_)
  obtain ⟨l, hl, ht⟩ := strsAre_values (hP acc hacc)
  subst ht
  rw [hl]
  have hok' := joinOk_of hok
  unfold JoinOk at hok'
  rw [Bool.not_eq_true'] at hok'
  have g : Gives (joinTail sep (strValues l)) (joinMade sep l) := by
    have g0 := gives_joinTail sep l hok'
    cases l with
    | nil => exact g0
    | cons p r => cases r with
      | nil => exact g0
      | cons q r' => exact g0
  exact g prog w A (wants Q E) _ (post_join l ⟨joinFit_length hok', hq h' hk⟩)
end
section
variable {X : Cx}
/-- sep.join(reversed(z)) -/
def tJoinRev (to te : TE) : TE := fun σ H Q => to σ H fun x H1 => (∃ a, x = .str a) ∧ te σ H1 fun v H2 => ∃ (a z : Str), x = .str a ∧ v = .str z ∧ a.length = 0 ∧ z.length ≤ sizeLine ∧ Q (.str (Txt.join a (z.cps.toList.reverse.map fun c => (⟨#[c]⟩ : Str)))) H2
theorem strs_rs {x : Str} {acc : Array Value} (h : ItemsOf (fun i v => ∃ c u, x.cps[x.length - 1 - i]? = some c ∧ v = .str ⟨#[c]⟩ u) acc x.length) : StrsAre acc.toList (x.cps.toList.reverse.map fun c => (⟨#[c]⟩ : Str)) := by
  have h := vals_rs h
  generalize acc.toList = vs at h
  generalize x.cps.toList.reverse = cs at h
  induction cs generalizing vs with
  | nil => cases h; exact .nil
  | cons c cs ih =>
    cases h with
    | cons r rr =>
      obtain ⟨t, rfl⟩ := r
      exact .cons _ t (ih _ rr)
theorem sum_ones (cs : List Nat) : ((cs.map fun c => (⟨#[c]⟩ : Str)).map (·.length)).sum = cs.length := by
  induction cs with
  | nil => rfl
  | cons c cs ih =>
    simp only [List.map_cons, List.sum_cons, List.length_cons, ih]
    have : (⟨#[c]⟩ : Str).length = 1 := rfl
    omega
open RT in
theorem pe_joinRev {o e : Expr} {to te : TE} {apos pos p pos2 : Pos} (hc : X.calm = true) (ho : PE X o to) (hg : Gl X "reversed") (hm : X.mg "reversed" = none) (he : PE X e te)
    (hs1 : starEach [.Call (.Name "reversed" p) [e] [] pos2] X.env = [(false, eval (.Call (.Name "reversed" p) [e] [] pos2) X.env)]) (hs : starEach [e] X.env = (false, eval e X.env) :: starEach [] X.env)
    (hbase : attributeBase o "join" X.env (eval o X.env) = eval o X.env) (hline : (apos.endLine == pos.line) = true) :
    PE X (.Call (.Attribute o "join" apos) [.Call (.Name "reversed" p) [e] [] pos2] [] pos) (tJoinRev to te) := by
  refine ⟨fun pins s σ H Q I h => ?_⟩
  refine PySem.Call_method1 hbase hs1 hline (thn (ho.run pins s σ H _ I h) fun v s1 ⟨x, H1, I1, r1, q1⟩ => ?_)
  obtain ⟨⟨a, rfl⟩, q1⟩ := q1
  obtain ⟨t, rfl⟩ := _root_.id r1
  refine ⟨"str", _, F.plainAttrs_str, F.slot_str_join, F.type_str_join, typeIs_str _ _ _, (fun _ e => nomatch e), Calls.callWith_builtin rfl (Calls.evalArgs_plain (Calls.spliced_cons ?_))⟩
  refine Call_ (ld_blt I1 hg hm PyProof.Rows.boot_reversed (PyProof.Rows.callWith_type1 (args_cons (thn (he.run pins s1 σ H1 _ I1 q1) fun u s2 ⟨v, H2, I2, r2, q2⟩ => args_nil ?_) hs) hs rfl))
  obtain ⟨a', z, ea, rfl, hz0, hz, q⟩ := q2
  cases ea
  obtain ⟨tz, rfl⟩ := r2
  refine call_reversed_str hz (Calls.spliced_nil ?_)
  have k0 : ∀ b o, s2.heap.get? b = some o → (s2.heap.push (rsObj z tz ((z.length : Int) - 1))).get? b = some o := fun b o e => Heap.get?_push_of_some _ e
  refine join_rs (s := { s2 with heap := s2.heap.push (rsObj z tz ((z.length : Int) - 1)), toks := s2.toks + 1 + 1 }) (I2.ok.hd hc) ⟨_, Heap.get?_push_size _ rfl, rfl, rfl⟩ hz (fun acc hacc => strs_rs hacc) ?_ fun h' hk t' k => ?_
  · rw [sum_ones, hz0, Nat.mul_zero, Nat.add_zero, List.length_reverse, Array.length_toList]
    have : z.cps.size ≤ sizeLine := hz
    rw [sizeLine_eq] at this
    exact this
  · exact ⟨.str _, H2, I2.kept (t' := k) fun b o e => hk b o (Nat.ne_of_lt (Heap.lt_size e)) (k0 b o e), ⟨t', rfl⟩, q⟩
end
def jrvE (d e : D) : Option D := match d, e with | .str [], .str x => if x.length ≤ 16777216 then some (.str x.reverse) else none | _, _ => none
theorem joinL_ones : ∀ l : List Nat, TL.joinL [] (l.map fun c => [c]) = l
  | [] => rfl
  | [a] => rfl
  | a :: b :: r => by
    have := joinL_ones (b :: r)
    simp only [List.map_cons, TL.joinL] at this ⊢
    simp [this]
theorem join_ones (z : List Nat) : Txt.join (mkS []) (((mkS z).cps.toList.reverse.map fun c => (⟨#[c]⟩ : Str))) = mkS z.reverse := by
  have e0 : ((mkS z).cps.toList.reverse.map fun c => (⟨#[c]⟩ : Str)) = (z.reverse.map fun c => [c]).map mkS := by
    simp [mkS]
  rw [e0]
  have e1 : Txt.join (mkS []) ((z.reverse.map fun c => [c]).map mkS) = mkS (TL.joinL [] (z.reverse.map fun c => [c])) := by
    rw [TL.join_eq]
    apply TL.ext_tl
    rw [TL.tl_join, List.map_map]
    have : TL.tl ∘ mkS = id := by funext x; simp [TL.tl, mkS]
    rw [this, List.map_id]
    simp [TL.tl, mkS]
  rw [e1, joinL_ones]
end DM
set_option Elab.async false
set_option linter.all false
set_option maxRecDepth 100000
set_option maxHeartbeats 4000000
namespace DM
open PySem L2 PySem.Spec PyProof.Rows
section
variable {X : Cx} {pins : List (Addr × Obj)} {σ : L2.St} {H : Hp} {s : Shared} {a : Addr} {oe : Obj}
theorem track_ok {P : Program} {w : World} {h : Heap} (k : HOk P w H h) (ha : h.get? a = some oe) (na : H a = none) : HOk P w (upd H a (isAt a oe)) h := fun b u e => by
  by_cases q : b = a
  · subst q
    rw [upd_same] at e
    cases e
    exact ⟨ha, ⟨_, ha⟩, fun h1 h2 p st => st _ p⟩
  · rw [upd_ne q] at e
    exact (k b u e).stay (fun _ _ _ z => z) (fun c z => by rw [upd_ne (ne_of_none z na)]; exact z) fun c xs z => by rw [upd_ne (ne_of_none z na)]; exact z
theorem Inv.trackE (I : Inv X pins σ H s) (ha : s.heap.get? a = some oe) (hd : ∃ vs, oe.data = .fields vs) (na : H a = none) (nL : a ≠ X.env.locals) (n0 : X.s_0.heap.get? a = none) (np : ∀ p ∈ X.pn ++ pins, p.1 ≠ a) :
    Inv (X.suite a (X.pn ++ pins)) [] σ (upd H a (isAt a oe)) s := by
  have old : ∀ b o, X.s_0.heap.get? b = some o → b ≠ a := fun b o e z => by subst z; rw [n0] at e; cases e
  refine ⟨I.ok.suite _ _, I.os, I.bare, ⟨I.base.keep, I.base.slot, fun b o e n hx => ?_, I.base.there, fun b xs e => ?_, fun b o u e => ?_, fun b ps e => ?_⟩, I.loc, I.cell, ?_, fun x c e => ?_, fun p hp => ?_, track_ok I.hok ha na, I.len⟩
  · rw [upd_ne (old b o e)]; exact I.base.free b o e n hx
  · have q := I.base.tups b xs e
    rw [upd_ne (ne_of_none q na)]; exact q
  · have q := I.base.frzs b o u e
    rw [upd_ne (ne_of_none q na)]; exact q
  · obtain ⟨more, q⟩ := I.base.tbls b ps e
    exact ⟨more, by rw [upd_ne (ne_of_none q na)]; exact q⟩
  · show upd H a (isAt a oe) X.env.locals = none
    rw [upd_ne (Ne.symm nL)]; exact I.free
  · have ne : c ≠ a := fun z => by
      subst z
      obtain ⟨v, hv⟩ := I.cell x c e
      obtain ⟨vs, hd⟩ := hd
      obtain ⟨o, h1, h2⟩ := hv
      rw [ha] at h1; cases h1
      rw [hd] at h2; cases h2
    rw [upd_ne ne]; exact I.freeC x c e
  · have hp' : p ∈ X.pn ++ pins := by rw [List.append_nil] at hp; exact hp
    obtain ⟨p1, p2, p3⟩ := I.pin p hp'
    exact ⟨p1, by rw [upd_ne (np p hp')]; exact p2, p3⟩
theorem Inv.backE {pn' : List (Addr × Obj)} (I : Inv (X.suite a (X.pn ++ pins)) pn' σ H s) (ok : X.Ok) : Inv X pins σ H s :=
  ⟨ok, I.os, I.bare, I.base, I.loc, I.cell, I.free, I.freeC, fun p hp => I.pin p (List.mem_append_left _ hp), I.hok, I.len⟩
end
def bindN (nm : Option Nat) (a : Addr) (σ : L2.St) : L2.St := match nm with | some i => σ.set i (some (.ref a)) | none => σ
def unbN (nm : Option Nat) (σ : L2.St) : L2.St := match nm with | some i => σ.set i none | none => σ
def shutD (nm : Option Nat) (D : Ends) : Ends := { nx := fun σ H => D.nx (unbN nm σ) H, rt := D.rt, bk := fun σ H => D.bk (unbN nm σ) H, ct := fun σ H => D.ct (unbN nm σ) H }
/-- what the clauses wish of what flies -/
def wG (K : PySem.W.Frag) (Wout : WX) (D : Ends) : List (Value × Option Nat × (Addr → TS)) → WX
  | [] => Wout
  | (c, nm, ts) :: r => fun cls d σ H => ∃ b, PySem.W.exmOne K cls c = some b ∧ (b = true → ∀ a oe, H a = none → L2N.Zn cls d oe → (∃ vs, oe.data = .fields vs) → ts a (shutD nm D) (bindN nm a σ) (upd H a (isAt a oe))) ∧ (b = false → wG K Wout D r cls d σ H)
inductive HdG (X : Cx) : List ExceptHandler → List (Value × Option Nat × (Addr → TS)) → Prop
  | nil : HdG X [] []
  | cons {x : Str} {c : Value} {nm : Option Nat} {no : Option Str} {ts : Addr → TS} {b₀ : Stmt} {suite : List Stmt} {np pos' : Pos} {hds : List ExceptHandler} {l : List (Value × Option Nat × (Addr → TS))} (hc : Names X x c)
      (hn : match nm, no with | none, none => True | some i, some y => X.N[i]? = some y ∧ X.env.kindOf y = some .local | _, _ => False)
      (hsu : ∀ (a : Addr) (pn : List (Addr × Obj)), PSs (X.suite a pn) (b₀ :: suite) (ts a)) (r : HdG X hds l) : HdG X (.ExceptHandler (some (.Name x np)) no (b₀ :: suite) pos' :: hds) ((c, nm, ts) :: l)
/-- what flies over X's frame, seen from its clauses -/
structure Air (X : Cx) (pins : List (Addr × Obj)) (σ : L2.St) (H : Hp) (sI : Shared) (B : Heap) (a : Addr) (cls : Value) (d : Option Addr) (s : Shared) : Prop where
  inv : Inv X pins σ H sI
  nb : ∀ b o, sI.heap.get? b = some o → b ∉ frs X.stack → B.get? b = some o
  fl : HandSPX.FlyingZ B (X.env :: X.outer) a (L2N.Zn cls d) s.heap
  up : sI.heap.UpToSlots s.heap
  na : H a = none
  os : s.os = sI.os
  ag : AllBare s.gens
section
variable {X : Cx} {pins : List (Addr × Obj)} {σ : L2.St} {H : Hp} {sI s : Shared} {B : Heap} {a : Addr} {cls : Value} {d : Option Addr} {D : Ends} {Wout : WX}
theorem Air.turn (A : Air X pins σ H sI B a cls d s) {h : Heap} (fl : HandSPX.FlyingZ B (X.env :: X.outer) a (L2N.Zn cls d) h) (up : s.heap.UpToSlots h) : Air X pins σ H sI B a cls d { s with heap := h } :=
  ⟨A.inv, A.nb, fl, A.up.trans up, A.na, A.os, A.ag⟩
theorem Air.state (A : Air X pins σ H sI B a cls d s) : Inv X pins σ H s := A.inv.landed A.nb A.fl.1 A.up A.os A.ag
theorem Air.off (A : Air X pins σ H sI B a cls d s) (hs : X.stack = X.env :: X.outer) {oe : Obj} {vs : Array Value} (he : s.heap.get? a = some oe) (hd : oe.data = .fields vs) : a ∉ frs X.stack := fun hm => by
  rw [hs] at hm
  obtain ⟨_, o, e, hnf⟩ := A.fl.2.2.1.mem hm
  rw [he] at e; cases e
  exact hnf _ hd
/-- the exception becomes a tracked thing of the suite -/
theorem Air.suite (A : Air X pins σ H sI B a cls d s) (hs : X.stack = X.env :: X.outer) (hf : X.env.frame = some X.env.locals) (hex : X.ex = []) {oe : Obj} {vs : Array Value} (he : s.heap.get? a = some oe) (hd : oe.data = .fields vs) :
    Inv (X.suite a (X.pn ++ pins)) [] σ (upd H a (isAt a oe)) s := by
  have off := A.off hs he hd
  have low : ∀ b o, sI.heap.get? b = some o → b ≠ a := fun b o e z => by
    subst z
    have := A.nb b o e off
    rw [A.fl.2.1] at this; cases this
  refine Inv.trackE A.state he ⟨_, hd⟩ A.na (fun z => off (by rw [hs, z]; exact List.mem_filterMap.mpr ⟨X.env, List.mem_cons_self, hf⟩)) ?_ (fun p hp => low _ _ (A.inv.pin p hp).1)
  cases q : X.s_0.heap.get? a with
  | none => rfl
  | some o =>
    obtain ⟨o', e⟩ := A.inv.base.there a o q (by rw [hex]; simp)
    exact absurd rfl (low _ _ e)
/-- no clause is left: it flies on -/
theorem fly_on (A : Air X pins σ H sI B a cls d s) (hs : X.stack = X.env :: X.outer) (hf : X.env.frame = some X.env.locals) (tk : L2N.Takes X Wout) (w : Wout cls d σ H) : wpAny (model X.prog X.w) X.A (handleBy (.ref a) X.env []) (SP X pins D) X.xe s := by
  refine wpAny_handleBy_nil ?_
  obtain ⟨k1, k2, k3, oe, vs, T, oT, ts', he, hz, hd, h1, hr⟩ := id A.fl
  have go : wpAny (model X.prog X.w) X.A (setFlight (.ref a) X.env.frame) (fun _ s4 => wpAny (model X.prog X.w) X.A (throw (.ref a) : Sem Flow) (SP X pins D) X.xe s4) X.xe s := by
    rw [hf]
    exact HandSPX.setFlight_upZ A.fl fun h4 hh4 up4 => wpAny_throw (tk _ _ ⟨a, B, sI, pins, σ, H, cls, d, rfl, A.inv, A.nb, A.up.trans up4, .inr (.inr (by rw [hs]; exact hh4)), A.na, A.os, A.ag, w⟩)
  unfold PySem.passOn
  refine wpAny_bind (wpAny_field he hd h1 ?_)
  rw [if_neg (show ¬ ((Value.ref T == Value.none) = true) from by simp)]
  first
    | exact wpAny_bind (wpAny_pure (wpAny_bind go))
    | exact wpAny_bind go
theorem hds_ok (hs : X.stack = X.env :: X.outer) (hf : X.env.frame = some X.env.locals) (hex : X.ex = []) (hN : X.N.Nodup) (tk : L2N.Takes X Wout) {hds : List ExceptHandler} {l : List (Value × Option Nat × (Addr → TS))} (hh : HdG X hds l) :
    ∀ {s : Shared}, Air X pins σ H sI B a cls d s → wG X.K Wout D l cls d σ H → wpAny (model X.prog X.w) X.A (handleBy (.ref a) X.env hds) (SP X pins D) X.xe s := by
  induction hh with
  | nil => exact fun A w => fly_on A hs hf tk w
  | @cons x c nm no ts b₀ suite np pos' hds l hc hn hsu r ih =>
    intro s A w
    obtain ⟨b, hb, hyes, hno⟩ := w
    obtain ⟨oe, vs, he, hz, hd⟩ := A.fl.there
    have S3 := A.suite hs hf hex he hd
    refine wpAny_handleBy_cons (codeAny_handlers_test ?_) (by intro q; cases q)
    have LT : PySem.W.Looks (model X.prog X.w) s.heap (typeOf (.ref a)) cls := fun A' Q E s' k q => wpAny_typeOf_ref (k _ _ he) (by rw [hz.1]; exact q)
    have LM := PySem.W.exm_one (M := model X.prog X.w) A.state.kIn LT hb
    have test : ∀ {Q : Value → Shared → Prop} {E : Value → Shared → Prop}, Q c s → wpAny (model X.prog X.w) (X.A.mark (some (.ref a))) (eval (.Name x np) X.env) Q E s := fun {Q E} q => by
      obtain ⟨hg, hdbg, hm | ⟨hm, hv, hnn⟩⟩ := hc
      · exact ld_glob (X := X.suite a (X.pn ++ pins)) S3 hg hm q hdbg
      · exact ld_blt (X := X.suite a (X.pn ++ pins)) S3 hg hm hv q hnn hdbg
    refine test (LM.here ?_)
    cases b with
    | false => exact ih A (hno rfl)
    | true =>
      have ok := A.inv.ok
      cases no with
      | none =>
        cases nm with
        | some i => exact hn.elim
        | none =>
          refine codeAny_handlers_suite (HandSPX.lands_againZ A.fl fun h4 fl4 up4 => ?_)
          have A4 := A.turn fl4 up4
          obtain ⟨o4, vs4, he4, hz4, hd4⟩ := fl4.there
          refine wpAny_mono ((hsu a (X.pn ++ pins)).run [] _ _ _ _ (A4.suite hs hf hex he4 hd4) (hyes rfl a o4 A.na hz4 ⟨_, hd4⟩)) (fun f s6 hsp => ?_) (fun _ _ z => False.elim z)
          cases f with
          | next => obtain ⟨σ6, H6, S6, q6⟩ := hsp; exact ⟨_, _, Inv.backE S6 ok, q6⟩
          | brk => obtain ⟨σ6, H6, S6, q6⟩ := hsp; exact ⟨_, _, Inv.backE S6 ok, q6⟩
          | cont => obtain ⟨σ6, H6, S6, q6⟩ := hsp; exact ⟨_, _, Inv.backE S6 ok, q6⟩
          | ret u => obtain ⟨v6, σ6, H6, S6, r6, q6⟩ := hsp; exact ⟨_, _, _, Inv.backE S6 ok, r6, q6⟩
      | some y =>
        cases nm with
        | none => exact hn.elim
        | some i =>
          obtain ⟨hi, hl⟩ := hn
          refine codeAny_handlers_suite_as (HandSPX.lands_againZ A.fl fun h4 fl4 up4 => ?_)
          have A4 := A.turn fl4 up4
          obtain ⟨o4, vs4, he4, hz4, hd4⟩ := fl4.there
          refine store_ok (X := X.suite a (X.pn ++ pins)) (v := .ref a) (A4.suite hs hf hex he4 hd4) hN hi (.inl hl) rfl (fun s5 S5 => ?_) (.inr hl)
          refine wpAny_mono ((hsu a (X.pn ++ pins)).run [] s5 _ _ _ S5 (hyes rfl a o4 A.na hz4 ⟨_, hd4⟩)) (fun f s6 hsp => ?_) (fun _ _ z => False.elim z)
          have out : ∀ {σ6 : L2.St} {H6 : Hp} {Q : Shared → Prop}, Inv (X.suite a (X.pn ++ pins)) [] σ6 H6 s6 → (∀ s7, Inv X pins (σ6.set i none) H6 s7 → Q s7) →
              wpAny (model X.prog X.w) X.A (do bindName X.env y .none; unbindBehindTheSuite X.env y pos') (fun _ s7 => Q s7) X.xe s6 := fun S6 hq => gone_ok (Inv.backE S6 ok) hN hi hl hq
          cases f with
          | next => obtain ⟨σ6, H6, S6, q6⟩ := hsp; exact out S6 fun s7 J7 => ⟨_, _, J7, q6⟩
          | brk => obtain ⟨σ6, H6, S6, q6⟩ := hsp; exact out S6 fun s7 J7 => ⟨_, _, J7, q6⟩
          | cont => obtain ⟨σ6, H6, S6, q6⟩ := hsp; exact out S6 fun s7 J7 => ⟨_, _, J7, q6⟩
          | ret u => obtain ⟨v6, σ6, H6, S6, r6, q6⟩ := hsp; exact out S6 fun s7 J7 => ⟨_, _, _, J7, r6, q6⟩
end
section
variable {X : Cx} {body orelse : List Stmt} {h₀ : ExceptHandler} {hds : List ExceptHandler} {l : List (Value × Option Nat × (Addr → TS))} {pos : Pos} {tb : WX → TS} {u : TS} {Wout : WX}
theorem ps_tryG (hs : X.stack = X.env :: X.outer) (hf : X.env.frame = some X.env.locals) (hex : X.ex = []) (hN : X.N.Nodup) (tk : L2N.Takes X Wout)
    (hb : ∀ (W : WX) (pn : List (Addr × Obj)) (xe : Value → Shared → Prop), L2N.Takes (X.tr pn xe) W → PassesOwn (model X.prog X.w) X.A X.env xe → PSs (X.tr pn xe) body (tb W)) (hh : HdG X (h₀ :: hds) l) (ho : PSs X orelse u) :
    PS X (.Try body (h₀ :: hds) orelse [] pos) (fun D σ H => tb (wG X.K Wout D l) { D with nx := u D } σ H) := by
  refine ⟨fun pins s σ H D I h => wpAny_Try_except ?_⟩
  have ok := I.ok
  have hfr : X.A.frames = some (X.env :: X.outer) := by rw [ok.frames, hs]
  have catch_ : L2N.Takes (X.tr (X.pn ++ pins) fun e s₁ => wpAny (model X.prog X.w) X.A (noteFrame e X.env) (fun _ s₂ => wpAny (model X.prog X.w) X.A (setFlight e none) (fun _ s₃ =>
      wpAny (model X.prog X.w) X.A (handleBy e X.env (h₀ :: hds)) (SP X pins D) X.xe s₃) X.xe s₂) X.xe s₁) (wG X.K Wout D l) := by
    rintro v s' ⟨a, B, sI, pins', σ', H', cls, d, rfl, J', nb, up, sky, na, os, ag, w⟩
    have sky' : Sky B (X.env :: X.outer) a (L2N.Zn cls d) X.env.locals s'.heap := by rw [← hs]; exact sky
    show wpAny (model X.prog X.w) X.A (noteFrame (.ref a) X.env) _ _ _
    exact L2N.Sky.land L2N.Zn.steady hfr hf sky' fun h3 fl3 up3 => hds_ok hs hf hex hN tk hh ⟨J'.ofTry ok, nb, fl3, up.trans up3, na, os, ag⟩ w
  refine wpAny_mono ((hb _ _ _ catch_ PassesOwn.looking).run [] s σ H _ (I.toTry _) h) (fun f s1 hsp => ?_) (fun e s1 he => he)
  cases f with
  | next => obtain ⟨σ', H', J', q⟩ := hsp; exact ho.run pins s1 σ' H' D (J'.ofTry ok) q
  | brk => obtain ⟨σ', H', J', q⟩ := hsp; exact ⟨σ', H', J'.ofTry ok, q⟩
  | cont => obtain ⟨σ', H', J', q⟩ := hsp; exact ⟨σ', H', J'.ofTry ok, q⟩
  | ret u => obtain ⟨v, σ', H', J', r, q⟩ := hsp; exact ⟨v, σ', H', J'.ofTry ok, r, q⟩
end
/-- a def that may be called whatever is handled; it lets nothing out -/
structure FnC (P : Program) (w : World) (K : PySem.W.Frag) (mg : Str → Option Value) (base : Heap) (k : Nat) (f : Addr) (fd : FuncData) (ps : List Str) (sp : Sp) : Prop where
  len : ∀ vs H Q E, sp vs H Q E → vs.length = ps.length
  run : ∀ (A : Around) (outer : List Env) (s : Shared) (H : Hp) (args : Args) (us : List Value) (vs : List V) (Q : VK), L2H.RoomH k A → Env0 P w K mg base A outer s H → BindsTo s fd args (ps.zip us) → Vals vs us → sp vs H Q (fun _ _ _ => False) →
    codeAny (model P w) A (.call (.ref f) args) (CR (L2N.CX P w) outer P w H s Q (fun _ _ _ => False)) s
theorem FnC.mono {P : Program} {w : World} {K : PySem.W.Frag} {mg : Str → Option Value} {base : Heap} {j k : Nat} {f : Addr} {fd : FuncData} {ps : List Str} {sp : Sp} (F : FnC P w K mg base j f fd ps sp) (h : j ≤ k) : FnC P w K mg base k f fd ps sp :=
  ⟨F.len, fun A outer s H args us vs Q hr => F.run A outer s H args us vs Q (hr.mono h)⟩
section
variable {P : Program} {w : World} {K : PySem.W.Frag} {mg : Str → Option Value} {base : Heap}
theorem fnC_of {x qual : Str} {ag : Arguments} {bd : List Stmt} {sc : Scope} {dvs : List V} {kws : List (Str × V)} {f : Addr} {fd : FuncData} {N ps : List Str} {k : Nat} {sp : Sp} (F : FunD K x qual ag bd sc dvs kws f fd) (S : FnScope N ps sc) (len : ∀ vs H Q E, sp vs H Q E → vs.length = ps.length)
    (hbody : ∀ (cdv : Value) (A : Around) (outer : List Env) (s : Shared) (H : Hp) (vs : List V) (Q : VK) (p : Addr × Obj), L2H.RoomH k (A.deeper (envOfC qual sc s.heap.objs.size f cdv)) → sp vs H Q (fun _ _ _ => False) →
      ∃ t, PSs (L2H.cxH (L2N.CX P w) P w K mg base N qual sc f cdv A outer s H (fun _ _ _ => False) p) bd t ∧ t { nx := fun _ H' => Q .non H', rt := Q } (L2.start N vs) H) : FnC P w K mg base (k + 1) f fd ps sp := by
  obtain ⟨oc, od, dV, kV, doc, pm, an, cdv, ct, osl, rfl, lk, hcd, _, _⟩ := F.ex
  refine ⟨len, fun A outer s H args us vs Q hr e0 hb r hsp => ?_⟩
  have KX : K.In s.heap := e0.mod.kin.keeps fun b o e => (e0.bs b o e).1
  have bf := e0.mod.kin _ _ lk
  have pin : L2H.PinOk outer H s (f, _) := ⟨KX _ _ lk, (e0.bs _ _ bf).2, (fun hm => by
    have := (e0.funs.mem hm).1
    rw [bf] at this; cases this), (fun v z => by cases z)⟩
  have kind : ∀ y ∈ ps.zip us, sc.names.lookup y.1 = some .local ∨ (sc.names.lookup y.1 = some .cell ∧ ((cellsFrom (s.heap.objs.size + 1) sc.names []).lookup y.1).isSome = true) := fun ⟨n, v⟩ hy => by
    rcases S.par n (List.of_mem_zip hy).1 with q | q
    · exact .inl q
    · exact .inr ⟨q, PySem.W.cellsFrom_some _ _ _ (.inl q)⟩
  refine codeAny_call_function hr.depth (KX _ _ lk) rfl S.co S.gen rfl (PySem.W.codeRec_of KX hcd) (hb _ _ _ _ (wpAny_newFunctionEnv_cells S.kind kind fun env he s1 x => ?_))
  subst he
  refine ⟨(e0.mod.nolimit.keeps fun b o e => (e0.bs b o e).1).keeps x.toInCall.keep, codeAny_func ?_⟩
  obtain ⟨t, ht, hq⟩ := hbody cdv A outer s H vs Q _ (hr.deeper _) hsp
  refine wpAny_mono (ht.run [] s1 (L2.start N vs) H _ (L2H.inv_startH S pin e0 (len _ _ _ _ hsp) r x) hq) (fun fl s' hs => ?_) fun e s' hs => hs
  cases fl with
  | ret u => obtain ⟨v, σ', H', J, rv, q⟩ := hs; exact ⟨v, H', J.os, J.bare, J.base, J.hok, rv, q⟩
  | next => obtain ⟨σ', H', J, q⟩ := hs; exact ⟨V.non, H', J.os, J.bare, J.base, J.hok, rfl, q⟩
  | brk => obtain ⟨_, _, _, q⟩ := hs; exact False.elim q
  | cont => obtain ⟨_, _, _, q⟩ := hs; exact False.elim q
end
section
variable {X : Cx} {k : Nat} {f : Addr} {fd : FuncData} {ps : List Str} {sp : Sp} {x : Str} {p pos : Pos} {e : Expr} {es : List Expr} {t : TA}
theorem run_fnC {pins : List (Addr × Obj)} {σ : L2.St} {H : Hp} {s : Shared} {Q : VK} {us ws : List Value} {vs dvs : List V} (F : FnC X.prog X.w X.K X.mg X.base k f fd ps sp) (hr : L2H.RoomH k X.A) (hb : Binds X.K fd ps ws) (hd : Vals dvs ws)
    (I : Inv X pins σ H s) (r : Vals vs us) (h : sp (vs ++ dvs) H Q (fun _ _ _ => False)) : wpAny (model X.prog X.w) X.A (call (.ref f) us) (EP X pins σ Q) X.xe s := by
  have r2 : Vals (vs ++ dvs) (us ++ ws) := r.append hd
  refine wpAny_call (codeAny_mono (F.run X.A X.stack s H ⟨us, []⟩ (us ++ ws) (vs ++ dvs) Q hr I.env0 (hb s us I.kIn (by rw [← r2.length]; exact F.len _ _ _ _ h)) r2 h) fun q s' hq => ?_)
  cases q with
  | error e =>
    obtain ⟨_, _, _, _, _, _, _, _, _, _, _, _, z⟩ := hq
    exact False.elim z
  | ok fl =>
    cases fl with
    | ret u => exact I.after hq
    | next => exact False.elim hq
    | brk => exact False.elim hq
    | cont => exact False.elim hq
theorem pe_callC (F : FnC X.prog X.w X.K X.mg X.base k f fd ps sp) (hr : L2H.RoomH k X.A) (hg : Gl X x) (hm : X.mg x = some (.ref f)) (hk : PySem.W.keepIn X.K (.ref f) = true)
    (ha : PA X (e :: es) t) (hdb : (x == ("__debug__" : Str)) = false) (h1 : starEach (e :: es) X.env = (false, eval e X.env) :: starEach es X.env) (h2 : (backTo pos (starEach es X.env)).any (·.1) = false) :
    PE X (.Call (.Name x p) (e :: es) [] pos) (fun σ H Q => t σ H fun vs H1 => ∃ dvs us, Vals dvs us ∧ L2.Binds X.K fd ps us ∧ sp (vs ++ dvs) H1 Q (fun _ _ _ => False)) := by
  refine ⟨fun pins s σ H Q I h => ?_⟩
  refine wpAny_Call_Name_kw (ld_glob I hg hm ?_ hdb)
  exact PySem.W.callWith_K (h₀ := X.base) I.ok.mod.kin hk (thn (ha.run pos pins s σ H _ I h) fun us s1 ⟨vs, H1, I1, r, dvs, ws, hd, hb, q⟩ => ⟨I1.kIn, run_fnC F hr hb hd I1 r q⟩) h1 h2
end
/-- isinstance(e, c) -/
def rIsX (K : PySem.W.Frag) : List V → Hp → VK → Prop := fun xs H Q => ∃ a oe D dd ns ws u c b, xs = [.ref a, c] ∧ H a = some (isAt a oe) ∧ Zc (.ref D) dd oe ∧ (∃ vs, oe.data = .fields vs) ∧ Xd H ns dd ws ∧ ExcC K D ∧ ClsV c u ∧ PySem.W.kitOne K (.ref D) u = some b ∧ Q (.bl b) H
/-- isinstance(e, (c, ..)) -/
def rIsXT (K : PySem.W.Frag) : List V → Hp → VK → Prop := fun xs H Q => ∃ a oe D dd ns ws tp cs us b, xs = [.ref a, .ref tp] ∧ H a = some (isAt a oe) ∧ Zc (.ref D) dd oe ∧ (∃ vs, oe.data = .fields vs) ∧ Xd H ns dd ws ∧ ExcC K D ∧ H tp = some (.tup cs) ∧ Paired ClsV cs us ∧ PySem.W.kitAny K (.ref D) us = some b ∧ Q (.bl b) H
section
variable {X : Cx} {pins : List (Addr × Obj)} {σ : L2.St} {H : Hp} {s : Shared}
theorem exc_at (I : Inv X pins σ H s) {a D : Addr} {oe : Obj} {dd : Option Addr} (h : H a = some (isAt a oe)) (z : Zc (.ref D) dd oe) (f : ∃ vs, oe.data = .fields vs) {ns : List Str} {ws : List V} (x : Xd H ns dd ws) : ∃ od, PySem.W.InstAt s.heap a oe D od := by
  have g : ObjOk X.prog X.w H s.heap a (isAt a oe) := I.hok a _ h
  have g1 : s.heap.get? a = some oe := g.1
  obtain ⟨vs, hv⟩ := f
  obtain ⟨oc, od, oda, osl⟩ := oe
  obtain ⟨h1, h2⟩ := z
  dsimp only at h1 h2 hv
  subst h1 h2 hv
  rcases x with ⟨_, rfl⟩ | ⟨_, d, rfl, hd⟩
  · exact ⟨none, g1, rfl, rfl, trivial⟩
  · obtain ⟨mA, hns, _⟩ := (show ObjOk X.prog X.w H s.heap d (.xd (ns.zip ws)) from I.hok d _ hd)
    obtain ⟨o, ho, _⟩ := lookIn_ns hns
    exact ⟨some o, g1, rfl, rfl, ho⟩
theorem kitx_of' {K : PySem.W.Frag} {D a : Addr} {oe : Obj} {od : Option Obj} (C : ExcC K D) : PySem.W.KitX K (.ref a) (.ref D) (fun h => PySem.W.InstAt h a oe D od) :=
  PySem.W.kitx_exc (by obtain ⟨cd, hc, _⟩ := PySem.W.any_some C.hd; rw [hc]; rfl) C.hg C.hk C.hs C.ha C.hn C.ht C.hm
theorem call_isX : CallR X (.builtin "isinstance") (rIsX X.K) := by
  intro pins s σ H xs us Q I r h
  obtain ⟨a, oe, D, dd, ns, ws, u, c, b, rfl, hH, z, f, x, C, k, e, q⟩ := h
  obtain ⟨od, J⟩ := exc_at I hH z f x
  obtain ⟨u1, u2, rfl, r1, r2⟩ := vals2 r
  have e2 := k.eq r2
  subst e2
  cases (show u1 = Value.ref a from r1)
  exact PySem.W.kia_one (kitx_of' C) I.kIn J e (fun z => nomatch z) fun tk => ⟨.bl b, H, I.tok tk, rfl, q⟩
theorem call_isXT : CallR X (.builtin "isinstance") (rIsXT X.K) := by
  intro pins s σ H xs us Q I r h
  obtain ⟨a, oe, D, dd, ns, zs, tp, cs, ws, b, rfl, hH, z, f, x, C, hT, k, e, q⟩ := h
  obtain ⟨oo, J⟩ := exc_at I hH z f x
  obtain ⟨u1, u2, rfl, r1, r2⟩ := vals2 r
  cases (show u2 = Value.ref tp from r2)
  cases (show u1 = Value.ref a from r1)
  obtain ⟨_, its, rv, o, h1, h2, n, h3⟩ := (show ObjOk X.prog X.w H s.heap tp (.tup cs) from I.hok tp _ hT)
  have e3 := ClsV.all k rv
  subst e3
  obtain ⟨oc, od, dt, sl⟩ := o
  simp only at h2 h3
  subst h2 h3
  exact PySem.W.kia_tup (kitx_of' C) I.kIn J h1 e (fun z => nomatch z) fun tk => ⟨.bl b, H, I.tok tk, rfl, q⟩
theorem callR_or {v : Value} {r1 r2 : List V → Hp → VK → Prop} (h1 : CallR X v r1) (h2 : CallR X v r2) : CallR X v (fun xs H Q => r1 xs H Q ∨ r2 xs H Q) := by
  intro pins s σ H xs us Q I r h
  rcases h with h | h
  · exact h1 pins s σ H xs us Q I r h
  · exact h2 pins s σ H xs us Q I r h
/-- the names of own classes, one behind the other -/
theorem pa_names : ∀ {es : List Expr} {cs : List Addr}, Paired (fun e C => ∃ x p, e = Expr.Name x p ∧ Gl X x ∧ X.mg x = some (.ref C) ∧ (x == ("__debug__" : Str)) = false) es cs → PA X es (fun σ H Q => Q (cs.map V.ref) H)
  | _, _, .nil => pa_nil
  | _, _, .cons ⟨x, p, he, hg, hm, hdb⟩ h2 => by
    subst he
    exact pa_cons (pe_glob (v := .ref _) hg hm rfl hdb) (pa_names h2) rfl
/-- o.f, of an instance or of an exception -/
theorem pe_fldX {e : Expr} {te : TE} {n : Str} {pos : Pos} (he : PE X e te) (hb : attributeBase e n X.env (eval e X.env) = eval e X.env) :
    PE X (.Attribute e n pos) (fun σ H Q => te σ H fun x H1 => (∃ a C dx fs v, x = .ref a ∧ H1 a = some (.ins C dx fs) ∧ L2.Cls X.K C ∧ NoAttr X.K C n ∧ fs.lookup n = some v ∧ Q v H1) ∨
      ∃ a oe C dd fs v, x = .ref a ∧ H1 a = some (isAt a oe) ∧ Zc (.ref C) (some dd) oe ∧ (∃ vs, oe.data = .fields vs) ∧ XfC X.K C ∧ PySem.W.findIn X.K (.ref C) n = some none ∧ H1 dd = some (.xd fs) ∧ fs.lookup n = some v ∧ Q v H1) := by
  refine ⟨fun pins s σ H Q I h => attr_of hb (thn (he.run pins s σ H _ I h) fun u s1 hh => ?_)⟩
  obtain ⟨x, H1, I1, rx, ⟨a, C, dx, fs, v, rfl, ea, c, n, l, q⟩ | ⟨a, oe, C, dd, fs, v, rfl, hH, z, ⟨vs, hd⟩, T, hno, hx, l, q⟩⟩ := hh
  · obtain rfl : u = Value.ref a := rx
    exact getattr_ok I1 ea c n l fun u' s2 I2 ru => ⟨v, H1, I2, ru, q⟩
  · obtain rfl : u = Value.ref a := rx
    have ha : s1.heap.get? a = some oe := (show ObjOk X.prog X.w H1 s1.heap a (isAt a oe) from I1.hok a _ hH).1
    obtain ⟨mA, hns, hr⟩ := (show ObjOk X.prog X.w H1 s1.heap dd (.xd fs) from I1.hok dd _ hx)
    obtain ⟨od, ho, hl⟩ := lookIn_ns hns
    obtain ⟨u, hu, ru⟩ := RelO.some_of (v := v) (o := mA n) (by rw [← l]; exact hr n)
    have J : PySem.W.InstAt s1.heap a oe C (some od) := ⟨ha, z.1, by unfold PySem.W.notCls; rw [hd] <;> rfl, by rw [z.2]; exact ho⟩
    exact HandSPX.exc_get I1.kIn J T.ga T.gg T.exC (PySem.W.findObj_own T.hdC hno rfl (by rw [hl, hu])) (handed_of ru) ⟨v, H1, I1.tok _, ru, q⟩
end
theorem kit_cls1 {K : PySem.W.Frag} {t : Value} {C : Addr} {b : Bool} (h1 : PySem.W.hasDictIn K C = true) (h2 : PySem.W.typeIn K (.ref C) = some (.type "type")) (h3 : PySem.W.subIn K t (.ref C) = some b) (h4 : t = .ref C → b = true) : PySem.W.kitOne K t (.ref C) = some b := by
  unfold PySem.W.kitOne
  split
  · rename_i q
    rw [h4 (beq_iff_eq.mp q)]
  · obtain ⟨cd, hc, _⟩ := PySem.W.any_some h1
    show (if ((PySem.W.clsIn K C).isSome && PySem.W.typeIn K (.ref C) == some (.type "type")) = true then PySem.W.subIn K t (.ref C) else none) = some b
    rw [hc, h2, if_pos (by rfl)]
    exact h3
theorem takesN0 {X : Cx} : L2N.Takes X (fun _ _ _ _ => False) := fun _ _ ⟨_, _, _, _, _, _, _, _, _, _, _, _, _, _, _, _, z⟩ => z.elim
section
variable {X : Cx} {e : Expr} {es : List Expr} {ta : TA} {p pos : Pos}
/-- an own exception with an __init__, made where nothing is handled -/
theorem pmk_oexN {U : CXT} {x : Str} {C I0 : Addr} {k : Nat} {fd : FuncData} {ps : List Str} {sp : Sp} {ds : List Value} {dvs : List V} (T : OexC X.K C)
    (iC : PySem.W.findIn X.K (.ref C) "__init__" = some (some (.ref I0))) (tI : PySem.W.typeIn X.K (.ref I0) = some (.type "function"))
    (FI : FnOk X.prog X.w X.K X.mg X.base U k I0 fd ps sp) (hr : Room (k + 1) X.A) (hb : Binds X.K fd ps ds) (hd : Vals dvs ds)
    (hx : Passes U X (fun _ _ _ => False)) (hg : Gl X x) (hm : X.mg x = some (.ref C)) (ha : PA X (e :: es) ta)
    (hdb : (x == ("__debug__" : Str)) = false) (h1 : starEach (e :: es) X.env = (false, eval e X.env) :: starEach es X.env)
    (h2 : (backTo pos (starEach es X.env)).any (·.1) = false) : L2N.PMk X (.Call (.Name x p) (e :: es) [] pos) (tMkO C sp dvs ta) := by
  intro pins s σ H Q I0v hQ
  obtain ⟨_, _, _, _, bm, _, _, _, _, _, _, _, _, _, _, lkC, okB⟩ := T.cls
  refine wpAny_Call_Name_kw (ld_glob I0v hg hm ?_ hdb)
  have run := ha.run pos pins s σ H _ I0v hQ
  refine PySem.W.callWith_K (h₀ := X.base) I0v.ok.mod.kin T.kC (thn run fun us s1 ⟨vs, Ha, Ia, ra, small, qa⟩ => ⟨Ia.kIn, ?_⟩) h1 h2
  show wpAny _ _ (call (.ref C) us) _ _ _
  obtain ⟨M, gs, dr, tk, os⟩ := s1
  obtain ⟨n, hn⟩ : ∃ n, n = M.objs.size + 1 := ⟨_, rfl⟩
  have above : M.objs.size ≤ M.objs.size + 1 := Nat.le_succ _
  have qn := qa (M.objs.size + 1) (Ia.hok.fresh above)
  obtain ⟨M2, hM2⟩ : ∃ M2, M2 = (M.push (PySem.W.kdv_tup us)).push (PySem.HandSPX.excO C M.objs.size) := ⟨_, rfl⟩
  have kept : ∀ b o, M.get? b = some o → M2.get? b = some o := fun b o q => by
    rw [hM2]; exact Heap.get?_push_of_some _ (Heap.get?_push_of_some _ q)
  have there : M2.get? (M.objs.size + 1) = some (PySem.HandSPX.excO C M.objs.size) := by rw [hM2]; heap_get
  have Ib : Inv X pins σ (upd Ha (M.objs.size + 1) (exo (M.objs.size + 1) C none)) ⟨M2, gs, dr, tk, os⟩ :=
    Ia.laid (t' := tk) (a := M.objs.size + 1) (o := exo (M.objs.size + 1) C none) (h' := M2) kept above (exo_ok there)
  have rr : Vals (V.ref (M.objs.size + 1) :: (vs ++ dvs)) (Value.ref (M.objs.size + 1) :: (us ++ ds)) := .cons rfl (ra.append hd)
  have many : (Value.ref (M.objs.size + 1) :: us ++ ds).length = ps.length := by
    have z := rr.length
    rw [FI.len _ _ _ _ qn] at z
    exact z.symm
  have few : us.length ≤ sizeLine := by
    have z := Paired.length ra
    rw [sizeLine_eq]; omega
  subst hM2
  refine wpAny_call (PySem.HandSPX.call_own F.excBase_ValueError (fun Y => PySem.HandSPX.refsVE_contains Y bm okB) (Ia.kIn _ _ lkC) (PySem.W.looks_findIn Ia.kIn iC) (fun self => PySem.W.bind_fn Ia.kIn self tI) few ?_)
  have go := FI.run (X.A.under (.builtin "type.__call__" ⟨.ref C :: us, []⟩)) X.stack _ _ ⟨Value.ref (M.objs.size + 1) :: us, []⟩ _ _ _ (fun _ _ _ => False) (hr.make C us []) (Ib.env0.make C us []) (hb _ (Value.ref (M.objs.size + 1) :: us) Ib.kIn many) rr qn
  refine codeAny_mono go fun r s' hq => ?_
  cases r with
  | error er => exact hx pins σ _ _ er s' Ib hq
  | ok fl =>
    cases fl with
    | next => exact False.elim hq
    | brk => exact False.elim hq
    | cont => exact False.elim hq
    | ret u =>
      obtain ⟨v, Hb, so, sb, un, okb, rv, ev, d, fs, ea, ed, nd, q2⟩ := hq
      subst ev
      obtain ⟨h3, g3, d3, t3, o3⟩ := s'
      obtain ⟨t0, G, J, kG, ge, hoe, na⟩ := mk_end0 (d2 := d3) (t2 := t3) Ia above kept un okb so sb ea ed nd
      exact ⟨rv, _, _, _, ⟨G, g3, d3, t3, o3⟩, _, .ref C, some d, rfl, J, kG, ge, hoe, ⟨rfl, rfl, fun vs z => by cases z; rfl⟩, rfl, rfl, na, rfl, sb, raises_own T.exC T.tyC, q2⟩
end
end DM
set_option Elab.async false
set_option linter.all false
set_option maxRecDepth 100000
set_option maxHeartbeats 4000000
namespace DM
open PySem L2 PySem.Spec PyProof.Rows
def sTy (ty : String) : Prop := ty = "str_ascii_iterator" ∨ ty = "str_iterator"
section
variable {prog : Program} {w : World} {A : Around} {E : Value → Shared → Prop} {s : Shared} {it : Addr} {ty : String} {x : Str} {t : Tok} {i : Nat}
theorem str_turned {h : Heap} {o : Obj} (ho : h.get? it = some o) (hc : o.cls = .type ty) (hd : o.data = .fields #[.str x t, .int i 0]) : (h.update it (Obj.mapFields (·.setIfInBounds 1 (rawInt (i + 1))))).IsStrIter it ty x t (i + 1) :=
  ⟨_, Heap.get?_update_self _ ho (Obj.isFreed_of_fields (Obj.data_mapFields hd _)), (Obj.cls_mapFields ..).trans hc, by
    rw [Obj.data_mapFields hd]; simp [rawInt]⟩
theorem nextS_item {c : Nat} {Q : Value → Shared → Prop} (k : sTy ty) (hit : s.heap.IsStrIter it ty x t i) (hx : x.cps[i]? = some c)
    (hQ : ∀ h', h'.IsStrIter it ty x t (i + 1) → Heap.SameBut it s.heap h' → Q (.str ⟨#[c]⟩ s.toks) { s with heap := h', toks := s.toks + 1 }) : wpAny (model prog w) A (Builtin.SmallTypes.nextOf (.ref it)) Q E s := by
  obtain ⟨o, ho, hc, hd⟩ := id hit
  unfold Builtin.SmallTypes.nextOf
  rcases k with rfl | rfl
  · refine wpAny_bind (wpAny_callSpecial?_slot (name := Str.ofString "__next__") hit.typeIs F.slot_str_ascii_iterator_next (wpAny_call_entry F.slot_str_ascii_iterator_next hit.typeIs F.entry_str_ascii_iterator_next ?_ (F.args_str_ascii_iterator_next_1 _)))
    show wpAny _ _ (field (.ref it) 0 >>= _) _ _ s
    refine wpAny_bind (wpAny_field ho hd (x := .str x t) rfl ?_)
    show wpAny _ _ (field (.ref it) 1 >>= _) _ _ s
    refine wpAny_bind (wpAny_field ho hd (x := .int i 0) rfl ?_)
    simp only [Int.toNat_natCast, hx]
    exact wpAny_bind (wpAny_setField ho hd (by simp) (wpAny_bind (wpAny_mkStr (wpAny_pure ⟨_, rfl, wpAny_pure (hQ _ (str_turned ho hc hd) (Heap.SameBut.update ..))⟩) (by show 1 ≤ sizeLine; decide))))
  · refine wpAny_bind (wpAny_callSpecial?_slot (name := Str.ofString "__next__") hit.typeIs F.slot_str_iterator_next (wpAny_call_entry F.slot_str_iterator_next hit.typeIs F.entry_str_iterator_next ?_ (F.args_str_iterator_next_1 _)))
    show wpAny _ _ (field (.ref it) 0 >>= _) _ _ s
    refine wpAny_bind (wpAny_field ho hd (x := .str x t) rfl ?_)
    show wpAny _ _ (field (.ref it) 1 >>= _) _ _ s
    refine wpAny_bind (wpAny_field ho hd (x := .int i 0) rfl ?_)
    simp only [Int.toNat_natCast, hx]
    exact wpAny_bind (wpAny_setField ho hd (by simp) (wpAny_bind (wpAny_mkStr (wpAny_pure ⟨_, rfl, wpAny_pure (hQ _ (str_turned ho hc hd) (Heap.SameBut.update ..))⟩) (by show 1 ≤ sizeLine; decide))))
theorem nextS_end {Q : Value → Shared → Prop} (hh : A.handled = none) (k : sTy ty) (hit : s.heap.IsStrIter it ty x t i) (hx : x.cps[i]? = none)
    (hE : ∀ h' e, Heap.ExtBut it s.heap h' → (∃ o, h'.get? e = some o ∧ o.cls = .type "StopIteration") → E (.ref e) { s with heap := h' }) : wpAny (model prog w) A (Builtin.SmallTypes.nextOf (.ref it)) Q E s := by
  obtain ⟨o, ho, hc, hd⟩ := id hit
  unfold Builtin.SmallTypes.nextOf
  rcases k with rfl | rfl
  · refine wpAny_bind (wpAny_callSpecial?_slot (name := Str.ofString "__next__") hit.typeIs F.slot_str_ascii_iterator_next (wpAny_call_entry F.slot_str_ascii_iterator_next hit.typeIs F.entry_str_ascii_iterator_next ?_ (F.args_str_ascii_iterator_next_1 _)))
    show wpAny _ _ (field (.ref it) 0 >>= _) _ _ s
    refine wpAny_bind (wpAny_field ho hd (x := .str x t) rfl ?_)
    show wpAny _ _ (field (.ref it) 1 >>= _) _ _ s
    refine wpAny_bind (wpAny_field ho hd (x := .int i 0) rfl ?_)
    simp only [Int.toNat_natCast, hx]
    refine wpAny_bind (wpAny_rule (wpAny_bind (wpAny_setField ho hd (by simp) (wpAny_bind (wpAny_letGo ?_)))))
    show wpAny _ _ (newExc (.type "StopIteration") [] >>= _) _ _ _
    refine wpAny_bind ?_
    simp only [newExc, newTuple]
    refine wpAny_bind (wpAny_newObj_type ?_ (by size_fits))
    refine wpAny_bind (m := firstArgMember _ _) (wpAny_of_eq (a := Value.none) (by first | rfl | (simp only [firstArgMember]; rfl)) ?_)
    refine wpAny_newObj_type ?_ (by size_fits)
    simp only [raiseNew]
    refine wpAny_bind (wpAny_handled ?_)
    rw [show A.in1.handled = none from hh]
    exact wpAny_bind (wpAny_pure (wpAny_throw (hE _ _ (((Heap.SameBut.update ..).extBut.push _).push _) ⟨_, Heap.get?_push_size _ rfl, rfl⟩)))
  · refine wpAny_bind (wpAny_callSpecial?_slot (name := Str.ofString "__next__") hit.typeIs F.slot_str_iterator_next (wpAny_call_entry F.slot_str_iterator_next hit.typeIs F.entry_str_iterator_next ?_ (F.args_str_iterator_next_1 _)))
    show wpAny _ _ (field (.ref it) 0 >>= _) _ _ s
    refine wpAny_bind (wpAny_field ho hd (x := .str x t) rfl ?_)
    show wpAny _ _ (field (.ref it) 1 >>= _) _ _ s
    refine wpAny_bind (wpAny_field ho hd (x := .int i 0) rfl ?_)
    simp only [Int.toNat_natCast, hx]
    refine wpAny_bind (wpAny_rule (wpAny_bind (wpAny_setField ho hd (by simp) (wpAny_bind (wpAny_letGo ?_)))))
    show wpAny _ _ (newExc (.type "StopIteration") [] >>= _) _ _ _
    refine wpAny_bind ?_
    simp only [newExc, newTuple]
    refine wpAny_bind (wpAny_newObj_type ?_ (by size_fits))
    refine wpAny_bind (m := firstArgMember _ _) (wpAny_of_eq (a := Value.none) (by first | rfl | (simp only [firstArgMember]; rfl)) ?_)
    refine wpAny_newObj_type ?_ (by size_fits)
    simp only [raiseNew]
    refine wpAny_bind (wpAny_handled ?_)
    rw [show A.in1.handled = none from hh]
    exact wpAny_bind (wpAny_pure (wpAny_throw (hE _ _ (((Heap.SameBut.update ..).extBut.push _).push _) ⟨_, Heap.get?_push_size _ rfl, rfl⟩)))
end
theorem str_at {h h' : Heap} {it : Addr} {ty : String} {x : Str} {t : Tok} {i : Nat} (y : h.IsStrIter it ty x t i) (k : ∀ o, h.get? it = some o → h'.get? it = some o) : h'.IsStrIter it ty x t i := let ⟨o, ho, r⟩ := y; ⟨o, k o ho, r⟩
section
variable {prog : Program} {w : World} {A : Around} {E : Value → Shared → Prop} {s : Shared} {z TI TO i1 i2 l : Addr} {ty : String} {x : Str} {t : Tok} {i c : Nat} {ys : Array Value} {y a b : Value}
/-- zip's next turn: a sign and an item -/
theorem zipS_item {Q : Value → Shared → Prop} (D : ZipApart z TI TO i1 i2 l l) (k : sTy ty) (hz : IsZip s.heap z TI TO .none) (hTI : IsPair s.heap TI (.ref i1) (.ref i2)) (hTO : IsPair s.heap TO a b)
    (h1 : s.heap.IsStrIter i1 ty x t i) (h2 : s.heap.IsListIter i2 l i) (hl : s.heap.IsList l ys) (hx : x.cps[i]? = some c) (hy : ys[i]? = some y)
    (hQ : ∀ h' tk u, IsZip h' z TI TO (rawInt s.heap.objs.size) → IsPair h' TO (.str ⟨#[c]⟩ u) y → h'.IsStrIter i1 ty x t (i + 1) → h'.IsListIter i2 l (i + 1) → IsPair h' s.heap.objs.size (.str ⟨#[c]⟩ u) y →
      (∀ c o, c ≠ z → c ≠ TO → c ≠ i1 → c ≠ i2 → s.heap.get? c = some o → h'.get? c = some o) → Q (.ref s.heap.objs.size) { s with heap := h', toks := tk }) :
    wpAny (model prog w) A (Builtin.«zip.__next__» ⟨[.ref z], []⟩) (fun fin s' => ∃ v, fin = .done (.ret v) ∧ Q v s') E s := by
  show wpAny _ _ (field (.ref z) 2 >>= _) _ _ _
  refine wpAny_bind (wpAny_field hz rfl (x := .bool false) rfl ?_)
  show wpAny _ _ (field (.ref z) 3 >>= _) _ _ _
  refine wpAny_bind (wpAny_field hz rfl (x := .ref TI) rfl (wpAny_bind (wpAny_seqItems hTI rfl ?_)))
  show wpAny _ _ (Builtin.SmallTypes.ownedTupleIsFree (.ref z) >>= _) _ _ _
  unfold Builtin.SmallTypes.ownedTupleIsFree
  refine wpAny_bind (wpAny_bind (wpAny_field hz rfl (x := .none) rfl (wpAny_pure ?_)))
  simp only [if_true]
  refine wpAny_bind (wpAny_rule (wpAny_bind (wpAny_field hz rfl (x := .ref TO) rfl (wpAny_bind (wpAny_setField_rec hz (by simp) fun hA zA sA => ?_)))))
  replace zA : IsZip hA z TI TO .ellipsis := zA
  refine wpAny_bind ?_
  simp only [List.zipIdx_cons, List.zipIdx_nil, List.forIn_cons, List.forIn_nil]
  refine wpAny_bind (wpAny_bind (wpAny_onRaise ?_))
  show wpAny _ _ (Builtin.SmallTypes.nextOf (.ref i1) >>= _) _ _ _
  refine wpAny_bind (nextS_item k (h1.extBut sA.extBut D.i1z) hx fun hB iB sB => wpAny_pure ?_)
  have pB : IsPair hB TO a b := sB.extBut _ _ D.TOi1 (sA.extBut _ _ D.TOz hTO)
  refine wpAny_bind (wpAny_seqItems pB rfl (wpAny_bind (wpAny_updateSeq_pair pB fun hC pC sC => ?_)))
  replace pC : IsPair hC TO (.str ⟨#[c]⟩ s.toks) b := pC
  refine wpAny_bind (wpAny_letGo (wpAny_pure (wpAny_bind (wpAny_bind (wpAny_onRaise ?_)))))
  show wpAny _ _ (Builtin.SmallTypes.nextOf (.ref i2) >>= _) _ _ _
  refine wpAny_bind (wpAny_nextOf_list_item (((h2.extBut sA.extBut D.i2z).extBut sB.extBut D.i12.symm).extBut sC.extBut D.TOi2.symm) (((hl.extBut sA.extBut D.l2z).extBut sB.extBut D.l2i1).extBut sC.extBut D.l2TO) hy fun hD iD sD => wpAny_pure ?_)
  have pD : IsPair hD TO (.str ⟨#[c]⟩ s.toks) b := sD.extBut _ _ D.TOi2 pC
  refine wpAny_bind (wpAny_seqItems pD rfl (wpAny_bind (wpAny_updateSeq_pair pD fun hF pF sF => ?_)))
  replace pF : IsPair hF TO (.str ⟨#[c]⟩ s.toks) y := pF
  refine wpAny_bind (wpAny_letGo (wpAny_pure (wpAny_pure (wpAny_bind (wpAny_seqItems pF rfl (wpAny_bind (wpAny_newTuple ?_)))))))
  have hsz : hF.objs.size = s.heap.objs.size := by rw [sF.1, sD.1, sC.1, sB.1, sA.1]
  have zF : IsZip hF z TI TO .ellipsis := sF.extBut _ _ D.TOz.symm (sD.extBut _ _ D.i2z.symm (sC.extBut _ _ D.TOz.symm (sB.extBut _ _ D.i1z.symm zA)))
  have kF : ∀ c o, c ≠ z → c ≠ TO → c ≠ i1 → c ≠ i2 → s.heap.get? c = some o → hF.get? c = some o := fun c o c1 c2 c3 c4 e => sF.extBut _ _ c2 (sD.extBut _ _ c4 (sC.extBut _ _ c2 (sB.extBut _ _ c3 (sA.extBut _ _ c1 e))))
  have i1F : hF.IsStrIter i1 ty x t (i + 1) := ((iB.extBut sC.extBut D.TOi1.symm).extBut sD.extBut D.i12).extBut sF.extBut D.TOi1.symm
  have i2F : hF.IsListIter i2 l (i + 1) := iD.extBut sF.extBut D.TOi2.symm
  have zlt : z < hF.objs.size := Heap.lt_size zF
  show wpAny _ _ (Builtin.SmallTypes.ownedTupleHandOut (.ref z) (.ref hF.objs.size) >>= _) _ _ _
  unfold Builtin.SmallTypes.ownedTupleHandOut
  have zG : IsZip (hF.push { cls := .type "tuple", data := .seq #[.str ⟨#[c]⟩ s.toks, y] }) z TI TO .ellipsis := Heap.get?_push_of_some _ zF
  refine wpAny_bind (wpAny_bind (wpAny_setField_rec zG (by simp) fun hH zH sH => ?_))
  replace zH : IsZip hH z TI TO (rawInt hF.objs.size) := zH
  refine wpAny_setField_rec zH (by simp) fun hK zK sK => ?_
  replace zK : IsZip hK z TI TO (rawInt hF.objs.size) := zK
  have up : ∀ c o, c ≠ z → hF.get? c = some o → hK.get? c = some o := fun c o c1 e => sK.extBut _ _ c1 (sH.extBut _ _ c1 (Heap.get?_push_of_some _ e))
  have tK : IsPair hK hF.objs.size (.str ⟨#[c]⟩ s.toks) y := sK.extBut _ _ (Nat.ne_of_gt zlt) (sH.extBut _ _ (Nat.ne_of_gt zlt) (Heap.get?_push_size _ rfl))
  rw [hsz] at zK tK
  refine wpAny_pure ⟨_, rfl, ?_⟩
  show Q (.ref hF.objs.size) _
  rw [hsz]
  exact hQ hK _ _ zK (up _ _ D.TOz pF) (str_at i1F fun o e => up _ o D.i1z e) (i2F.at fun o e => up _ o D.i2z e) tK fun c o c1 c2 c3 c4 e => up c o c1 (kF c o c1 c2 c3 c4 e)
/-- .. or the end -/
theorem zipS_end {Q : Fin → Shared → Prop} (hh : A.handled = none) (D : ZipApart z TI TO i1 i2 l l) (k : sTy ty) (hz : IsZip s.heap z TI TO .none) (hTI : IsPair s.heap TI (.ref i1) (.ref i2)) (hTO : IsPair s.heap TO a b)
    (h1 : s.heap.IsStrIter i1 ty x t i) (h2 : s.heap.IsListIter i2 l i) (hl : s.heap.IsList l ys) (hend : x.cps[i]? = none ∨ ys[i]? = none)
    (hE : ∀ h' tk e, (∀ c o, c ≠ z → c ≠ TO → c ≠ i1 → c ≠ i2 → s.heap.get? c = some o → h'.get? c = some o) → (∃ o, h'.get? e = some o ∧ o.cls = .type "StopIteration") → E (.ref e) { s with heap := h', toks := tk }) :
    wpAny (model prog w) A (Builtin.«zip.__next__» ⟨[.ref z], []⟩) Q E s := by
  show wpAny _ _ (field (.ref z) 2 >>= _) _ _ _
  refine wpAny_bind (wpAny_field hz rfl (x := .bool false) rfl ?_)
  show wpAny _ _ (field (.ref z) 3 >>= _) _ _ _
  refine wpAny_bind (wpAny_field hz rfl (x := .ref TI) rfl (wpAny_bind (wpAny_seqItems hTI rfl ?_)))
  show wpAny _ _ (Builtin.SmallTypes.ownedTupleIsFree (.ref z) >>= _) _ _ _
  unfold Builtin.SmallTypes.ownedTupleIsFree
  refine wpAny_bind (wpAny_bind (wpAny_field hz rfl (x := .none) rfl (wpAny_pure ?_)))
  simp only [if_true]
  refine wpAny_bind (wpAny_rule (wpAny_bind (wpAny_field hz rfl (x := .ref TO) rfl (wpAny_bind (wpAny_setField_rec hz (by simp) fun hA zA sA => ?_)))))
  replace zA : IsZip hA z TI TO .ellipsis := zA
  refine wpAny_bind ?_
  simp only [List.zipIdx_cons, List.zipIdx_nil, List.forIn_cons, List.forIn_nil]
  refine wpAny_bind (wpAny_bind (wpAny_onRaise ?_))
  show wpAny _ _ (Builtin.SmallTypes.nextOf (.ref i1) >>= _) _ _ _
  cases hx : x.cps[i]? with
  | none =>
    refine wpAny_bind (nextS_end hh k (h1.extBut sA.extBut D.i1z) hx fun hB e sB he => ?_)
    obtain ⟨oe, hoe, hce⟩ := he
    have zB : IsZip hB z TI TO .ellipsis := sB _ _ D.i1z.symm zA
    have hez : e ≠ z := fun x => by subst x; rw [zB] at hoe; cases hoe; simp at hce
    exact wpAny_setField_rec zB (by simp) fun hC _ sC => hE hC s.toks e (fun c o c1 _ c3 _ x => sC.extBut _ _ c1 (sB _ _ c3 (sA.extBut _ _ c1 x))) ⟨oe, sC.extBut _ _ hez hoe, hce⟩
  | some c =>
    have hy : ys[i]? = none := by
      rcases hend with h | h
      · rw [hx] at h; cases h
      · exact h
    refine wpAny_bind (nextS_item k (h1.extBut sA.extBut D.i1z) hx fun hB iB sB => wpAny_pure ?_)
    have pB : IsPair hB TO a b := sB.extBut _ _ D.TOi1 (sA.extBut _ _ D.TOz hTO)
    refine wpAny_bind (wpAny_seqItems pB rfl (wpAny_bind (wpAny_updateSeq_pair pB fun hC pC sC => ?_)))
    refine wpAny_bind (wpAny_letGo (wpAny_pure (wpAny_bind (wpAny_bind (wpAny_onRaise ?_)))))
    show wpAny _ _ (Builtin.SmallTypes.nextOf (.ref i2) >>= _) _ _ _
    refine wpAny_bind (wpAny_nextOf_list_end hh (((h2.extBut sA.extBut D.i2z).extBut sB.extBut D.i12.symm).extBut sC.extBut D.TOi2.symm) (((hl.extBut sA.extBut D.l2z).extBut sB.extBut D.l2i1).extBut sC.extBut D.l2TO) hy fun hD e sD he => ?_)
    obtain ⟨oe, hoe, hce⟩ := he
    have zD : IsZip hD z TI TO .ellipsis := sD _ _ D.i2z.symm (sC.extBut _ _ D.TOz.symm (sB.extBut _ _ D.i1z.symm zA))
    have hez : e ≠ z := fun x => by subst x; rw [zD] at hoe; cases hoe; simp at hce
    exact wpAny_setField_rec zD (by simp) fun hF _ sF => hE hF _ e (fun c o c1 c2 c3 c4 x => sF.extBut _ _ c1 (sD _ _ c4 (sC.extBut _ _ c2 (sB.extBut _ _ c3 (sA.extBut _ _ c1 x))))) ⟨oe, sF.extBut _ _ hez hoe, hce⟩
end
/-- a text and the list at b, the items in new pairs -/
def Itzs (K : PySem.W.Frag) (x : Str) (b : Addr) : It :=
  ⟨fun i H => i < x.cps.size ∧ ∃ (ys : List V) (y : V), SqL K H b ys ∧ ys[i]? = some y,
    fun i H v H' => ∃ T c y, v = .ref T ∧ H T = none ∧ H' = upd H T (.tup [.str ⟨#[c]⟩, y]) ∧ x.cps[i]? = some c ∧ ∀ ys, SqL K H b ys → ys[i]? = some y,
    fun i H => ∃ ys : List V, SqL K H b ys ∧ (x.cps.size ≤ i ∨ ys.length ≤ i)⟩
theorem turn_zipS {P : Program} {w : World} {K : PySem.W.Frag} {elts : List Expr} {kk : Nat} {tpos : Pos} {b z TI TO i1 i2 : Addr} (x : Str) (t : Tok) (ty : String) (k : sTy ty) (D : ZipApart z TI TO i1 i2 b b) :
    Turn P w K (.Tuple elts kk tpos) (Itzs K x b) [z, TI, TO, i1, i2] z (fun i h => IsZip h z TI TO .none ∧ IsPair h TI (.ref i1) (.ref i2) ∧ (∃ u v, IsPair h TO u v) ∧ h.IsStrIter i1 ty x t i ∧ h.IsListIter i2 b i) where
  mem := by simp
  obj := fun i h st c hc => by
    obtain ⟨hz, hTI, ⟨u, v, hTO⟩, ⟨o1, e1, _, d1⟩, ⟨o2, e2, _, d2⟩⟩ := st
    have e' : c = z ∨ c = TI ∨ c = TO ∨ c = i1 ∨ c = i2 := by simpa using hc
    rcases e' with rfl | rfl | rfl | rfl | rfl
    · exact ⟨_, hz, fun v q => nomatch q⟩
    · exact ⟨_, hTI, fun v q => nomatch q⟩
    · exact ⟨_, hTO, fun v q => nomatch q⟩
    · exact ⟨o1, e1, fun v q => by rw [d1] at q; cases q⟩
    · exact ⟨o2, e2, fun v q => by rw [d2] at q; cases q⟩
  keep := fun i h h' st k => by
    obtain ⟨hz, hTI, ⟨u, v, hTO⟩, h1, h2⟩ := st
    exact ⟨k z (by simp) _ hz, k TI (by simp) _ hTI, ⟨u, v, k TO (by simp) _ hTO⟩, str_at h1 fun o q => k i1 (by simp) o q, h2.at fun o q => k i2 (by simp) o q⟩
  item := by
    intro X hP hw hK hc i pins s σ H E I hf st hg
    subst hP hw hK
    obtain ⟨hz, hTI, ⟨u0, v0, hTO⟩, h1, h2⟩ := st
    obtain ⟨hxi, ys, y, hqy, hy⟩ := hg
    obtain ⟨its2, rv2, p2, _⟩ := I.list hqy
    obtain ⟨u2, hu2, ru2⟩ := rv2.get hy
    have hx : x.cps[i]? = some x.cps[i] := Array.getElem?_eq_getElem hxi
    have hzl : z < s.heap.objs.size := Heap.lt_size hz
    have hT : s.TypeIs (.ref z) "zip" := ⟨_, hz, rfl⟩
    unfold pyNext
    refine wpAny_bind (wpAny_attempt (wpAny_callSpecial?_slot (name := Str.ofString "__next__") hT F.slot_zip_next (wpAny_call_entry F.slot_zip_next hT F.entry_zip_next
      (zipS_item D k hz hTI hTO h1 h2 p2.isList hx (y := u2) (by simpa using hu2) fun h' tk u z' TO' h1' h2' hT' hk => wpAny_pure ?_) (F.args_zip_next_1 _))))
    refine ⟨_, rfl, wpAny_letOwnedTupleGo_zip (s := { s with heap := h', toks := tk }) z' fun h'' z'' sb => ?_⟩
    have hT2 : h''.get? s.heap.objs.size = some { cls := .type "tuple", data := .seq #[.str ⟨#[x.cps[i]]⟩ u, u2] } := (sb.2 _ (Nat.ne_of_gt hzl)).trans hT'
    have new : ObjOk X.prog X.w (upd H s.heap.objs.size (.tup [.str ⟨#[x.cps[i]]⟩, y])) h'' s.heap.objs.size (.tup [.str ⟨#[x.cps[i]]⟩, y]) :=
      ⟨by show 2 ≤ sizeLine; decide, [.str ⟨#[x.cps[i]]⟩ u, u2], .cons ⟨u, rfl⟩ (.cons ru2 .nil), ⟨_, hT2, rfl, _, rfl⟩⟩
    have I1 : Inv X pins σ (upd H s.heap.objs.size (.tup [.str ⟨#[x.cps[i]]⟩, y])) { s with heap := h'', toks := tk } :=
      I.turnedNew (t' := tk) (ch := [z, TI, TO, i1, i2]) (fun c o hb q => (sb.2 c (fun q' => hb (by simp [q']))).trans (hk c o (fun q' => hb (by simp [q'])) (fun q' => hb (by simp [q'])) (fun q' => hb (by simp [q'])) (fun q' => hb (by simp [q'])) q)) hf (Nat.le_refl _) new
    refine ⟨.ref s.heap.objs.size, _, I1, rfl, ⟨_, x.cps[i], y, rfl, I.hok.fresh (Nat.le_refl _), rfl, hx, fun l hl => by rw [I.list_inj hl hqy]; exact hy⟩, ⟨z'', ?_, ⟨.str ⟨#[x.cps[i]]⟩ u, u2, ?_⟩, ?_, ?_⟩, fun c hcm => ?_⟩
    · exact (sb.2 _ D.TIz).trans (hk _ _ D.TIz D.TITO D.TIi1 D.TIi2 hTI)
    · exact (sb.2 _ D.TOz).trans TO'
    · exact str_at h1' fun o q => (sb.2 _ D.i1z).trans q
    · exact h2'.at fun o q => (sb.2 _ D.i2z).trans q
    · have hlt : c < s.heap.objs.size := by
        have e' : c = z ∨ c = TI ∨ c = TO ∨ c = i1 ∨ c = i2 := by simpa using hcm
        rcases e' with rfl | rfl | rfl | rfl | rfl
        · exact hzl
        · exact Heap.lt_size hTI
        · exact Heap.lt_size hTO
        · obtain ⟨_, e1, _⟩ := h1; exact Heap.lt_size e1
        · obtain ⟨_, e2, _⟩ := h2; exact Heap.lt_size e2
      rw [upd_ne (Nat.ne_of_lt hlt)]
      exact (hf c hcm).1
  done := by
    intro X hP hw hK hc i pins s σ H E I hf st hg
    subst hP hw hK
    obtain ⟨hz, hTI, ⟨u0, v0, hTO⟩, h1, h2⟩ := st
    obtain ⟨ys, hqy, hend⟩ := hg
    obtain ⟨its2, rv2, p2, _⟩ := I.list hqy
    have l2 := rv2.length
    have he : x.cps[i]? = none ∨ its2.toArray[i]? = none := by
      rcases hend with q | q
      · exact .inl (Array.getElem?_eq_none q)
      · exact .inr (by simp; omega)
    have hT : s.TypeIs (.ref z) "zip" := ⟨_, hz, rfl⟩
    unfold pyNext
    refine wpAny_bind (wpAny_attempt (wpAny_callSpecial?_slot (name := Str.ofString "__next__") hT F.slot_zip_next (wpAny_call_entry F.slot_zip_next hT F.entry_zip_next
      (zipS_end (I.ok.hd hc) D k hz hTI hTO h1 h2 p2.isList he fun h' tk e hk hst => ?_) (F.args_zip_next_1 _))))
    obtain ⟨o, ho, hcs⟩ := hst
    refine wpAny_bind (wpAny_isInstance (T := "StopIteration") (b := true) ⟨o, ho, hcs⟩ isSubtype_stop (wpAny_pure ⟨rfl, ?_⟩))
    exact I.turnedL (t' := tk) (ch := [z, TI, TO, i1, i2]) (fun c o hb q => hk c o (fun q' => hb (by simp [q'])) (fun q' => hb (by simp [q'])) (fun q' => hb (by simp [q'])) (fun q' => hb (by simp [q'])) q) hf
  self := fun A i s Q E st h => wpAny_pyIter_zip st.1 h
def zsH (h : Heap) (ty : String) (x : Str) (t : Tok) (l : Addr) : Heap := ((((h.push { cls := .type ty, data := .fields #[.str x t, .int 0 0] }).push { cls := .type "list_iterator", data := .fields #[.ref l, .int 0 0] }).push
  { cls := .type "tuple", data := .seq #[.ref h.objs.size, .ref (h.objs.size + 1)] }).push { cls := .type "tuple", data := .seq #[.none, .none] }).push { cls := .type "zip", data := .fields #[.none, .bool false, .bool false, .ref (h.objs.size + 2), .ref (h.objs.size + 3)] }
theorem meets_zipS (x : Str) (t : Tok) (l : Addr) (ys : Array Value) (ty : String) (hty : (ty = "str_ascii_iterator" ∧ x.cps.all (· < 128) = true) ∨ (ty = "str_iterator" ∧ x.cps.all (· < 128) = false)) :
    Meets (Builtin.«zip.__new__» ⟨[.type "zip", .str x t, .ref l], []⟩) (fun _ R s => s.heap.IsList l ys ∧ R (.ok (.ret (.ref (s.heap.objs.size + 4)))) { s with heap := zsH s.heap ty x t l }) :=
  .of_wp fun prog w A R s h => by
    obtain ⟨hp, g, d, tk, os⟩ := s; obtain ⟨hl, h⟩ := h
    have hsub := sub_zip
    have hL2 : Heap.IsList (Shared.heap ⟨hp.push { cls := .type ty, data := .fields #[.str x t, .int 0 0] }, g, d, tk, os⟩) l ys := Heap.IsList.push hl _
    simp only [zsH] at h
    rcases hty with ⟨rfl, ha⟩ | ⟨rfl, ha⟩
    · wp_walk using wpAny_pyIter_ascii ha, wpAny_pyIter_list hL2
      refine ⟨_, rfl, ?_⟩
      simp only [Heap.size_push]
      exact h
    · wp_walk using wpAny_pyIter_wide ha, wpAny_pyIter_list hL2
      refine ⟨_, rfl, ?_⟩
      simp only [Heap.size_push]
      exact h
theorem call_zipS {prog : Program} {w : World} {A : Around} {E : Value → Shared → Prop} {s : Shared} {x : Str} {t : Tok} {l : Addr} {ys : Array Value} {Q : Value → Shared → Prop} (hl : s.heap.IsList l ys)
    (h : ∀ h' ty, sTy ty → IsZip h' (s.heap.objs.size + 4) (s.heap.objs.size + 2) (s.heap.objs.size + 3) .none → IsPair h' (s.heap.objs.size + 2) (.ref s.heap.objs.size) (.ref (s.heap.objs.size + 1)) →
      IsPair h' (s.heap.objs.size + 3) .none .none → h'.IsStrIter s.heap.objs.size ty x t 0 → h'.IsListIter (s.heap.objs.size + 1) l 0 → (∀ c o, s.heap.get? c = some o → h'.get? c = some o) → Q (.ref (s.heap.objs.size + 4)) { s with heap := h' }) :
    wpAny (model prog w) A (call (.type "zip") [.str x t, .ref l]) Q E s := by
  have go : ∀ ty, ((ty = "str_ascii_iterator" ∧ x.cps.all (· < 128) = true) ∨ (ty = "str_iterator" ∧ x.cps.all (· < 128) = false)) → wpAny (model prog w) A (call (.type "zip") [.str x t, .ref l]) Q E s := fun ty hty => by
    refine callType_new F.called_zip (by decide) (F.typeCall_zip_2 _ _) (F.newCall_zip_2 _ _) (fun obj => F.args_object_init_3 obj _ _) F.entry_zip_new (meets_zipS x t l ys ty hty) ⟨hl, ?_⟩
    have g5 : (zsH s.heap ty x t l).get? (s.heap.objs.size + 4) = some _ := Heap.get?_push_at (by simp [Heap.size_push]) rfl
    have g4 : (zsH s.heap ty x t l).get? (s.heap.objs.size + 3) = some _ := Heap.get?_push_of_some _ (Heap.get?_push_at (by simp [Heap.size_push]) rfl)
    have g3 : (zsH s.heap ty x t l).get? (s.heap.objs.size + 2) = some _ := Heap.get?_push_of_some _ (Heap.get?_push_of_some _ (Heap.get?_push_at (by simp [Heap.size_push]) rfl))
    have g2 : (zsH s.heap ty x t l).get? (s.heap.objs.size + 1) = some _ := Heap.get?_push_of_some _ (Heap.get?_push_of_some _ (Heap.get?_push_of_some _ (Heap.get?_push_at (by simp [Heap.size_push]) rfl)))
    have g1 : (zsH s.heap ty x t l).get? s.heap.objs.size = some _ := Heap.get?_push_of_some _ (Heap.get?_push_of_some _ (Heap.get?_push_of_some _ (Heap.get?_push_of_some _ (Heap.get?_push_size _ rfl))))
    exact ⟨⟨_, g5, rfl⟩, h _ ty (hty.imp (·.1) (·.1)) g5 g3 g4 ⟨_, g1, rfl, rfl⟩ ⟨_, g2, rfl, rfl⟩ fun c o q =>
      Heap.get?_push_of_some _ (Heap.get?_push_of_some _ (Heap.get?_push_of_some _ (Heap.get?_push_of_some _ (Heap.get?_push_of_some _ q))))⟩
  cases ha : x.cps.all (· < 128) with
  | true => exact go _ (.inl ⟨rfl, ha⟩)
  | false => exact go _ (.inr ⟨rfl, ha⟩)
section
variable {prog : Program} {w : World} {A : Around} {E : Value → Shared → Prop} {s : Shared} {z TI TO i1 i2 l1 l : Addr} {i : Nat} {xs ys : Array Value} {x y a b : Value}
/-- zip's next turn: a list's item and a tuple's -/
theorem zipLT_item {Q : Value → Shared → Prop} (D : ZipApart z TI TO i1 i2 l1 l) (hz : IsZip s.heap z TI TO .none) (hTI : IsPair s.heap TI (.ref i1) (.ref i2)) (hTO : IsPair s.heap TO a b)
    (h1 : s.heap.IsListIter i1 l1 i) (h2 : s.heap.IsTupleIter i2 l i) (hl1 : s.heap.IsList l1 xs) (hl : s.heap.IsTuple l ys) (hx : xs[i]? = some x) (hy : ys[i]? = some y)
    (hQ : ∀ h' tk, IsZip h' z TI TO (rawInt s.heap.objs.size) → IsPair h' TO x y → h'.IsListIter i1 l1 (i + 1) → h'.IsTupleIter i2 l (i + 1) → IsPair h' s.heap.objs.size x y →
      (∀ c o, c ≠ z → c ≠ TO → c ≠ i1 → c ≠ i2 → s.heap.get? c = some o → h'.get? c = some o) → Q (.ref s.heap.objs.size) { s with heap := h', toks := tk }) :
    wpAny (model prog w) A (Builtin.«zip.__next__» ⟨[.ref z], []⟩) (fun fin s' => ∃ v, fin = .done (.ret v) ∧ Q v s') E s := by
  show wpAny _ _ (field (.ref z) 2 >>= _) _ _ _
  refine wpAny_bind (wpAny_field hz rfl (x := .bool false) rfl ?_)
  show wpAny _ _ (field (.ref z) 3 >>= _) _ _ _
  refine wpAny_bind (wpAny_field hz rfl (x := .ref TI) rfl (wpAny_bind (wpAny_seqItems hTI rfl ?_)))
  show wpAny _ _ (Builtin.SmallTypes.ownedTupleIsFree (.ref z) >>= _) _ _ _
  unfold Builtin.SmallTypes.ownedTupleIsFree
  refine wpAny_bind (wpAny_bind (wpAny_field hz rfl (x := .none) rfl (wpAny_pure ?_)))
  simp only [if_true]
  refine wpAny_bind (wpAny_rule (wpAny_bind (wpAny_field hz rfl (x := .ref TO) rfl (wpAny_bind (wpAny_setField_rec hz (by simp) fun hA zA sA => ?_)))))
  replace zA : IsZip hA z TI TO .ellipsis := zA
  refine wpAny_bind ?_
  simp only [List.zipIdx_cons, List.zipIdx_nil, List.forIn_cons, List.forIn_nil]
  refine wpAny_bind (wpAny_bind (wpAny_onRaise ?_))
  show wpAny _ _ (Builtin.SmallTypes.nextOf (.ref i1) >>= _) _ _ _
  refine wpAny_bind (wpAny_nextOf_list_item (h1.extBut sA.extBut D.i1z) (hl1.extBut sA.extBut D.l1z) hx fun hB iB sB => wpAny_pure ?_)
  have pB : IsPair hB TO a b := sB.extBut _ _ D.TOi1 (sA.extBut _ _ D.TOz hTO)
  refine wpAny_bind (wpAny_seqItems pB rfl (wpAny_bind (wpAny_updateSeq_pair pB fun hC pC sC => ?_)))
  replace pC : IsPair hC TO x b := pC
  refine wpAny_bind (wpAny_letGo (wpAny_pure (wpAny_bind (wpAny_bind (wpAny_onRaise ?_)))))
  show wpAny _ _ (Builtin.SmallTypes.nextOf (.ref i2) >>= _) _ _ _
  refine wpAny_bind (RZ.nextOf_tuple_item (((h2.extBut sA.extBut D.i2z).extBut sB.extBut D.i12.symm).extBut sC.extBut D.TOi2.symm) (((hl.extBut sA.extBut D.l2z).extBut sB.extBut D.l2i1).extBut sC.extBut D.l2TO) hy fun hD iD sD => wpAny_pure ?_)
  have pD : IsPair hD TO x b := sD.extBut _ _ D.TOi2 pC
  refine wpAny_bind (wpAny_seqItems pD rfl (wpAny_bind (wpAny_updateSeq_pair pD fun hF pF sF => ?_)))
  replace pF : IsPair hF TO x y := pF
  refine wpAny_bind (wpAny_letGo (wpAny_pure (wpAny_pure (wpAny_bind (wpAny_seqItems pF rfl (wpAny_bind (wpAny_newTuple ?_)))))))
  have hsz : hF.objs.size = s.heap.objs.size := by rw [sF.1, sD.1, sC.1, sB.1, sA.1]
  have zF : IsZip hF z TI TO .ellipsis := sF.extBut _ _ D.TOz.symm (sD.extBut _ _ D.i2z.symm (sC.extBut _ _ D.TOz.symm (sB.extBut _ _ D.i1z.symm zA)))
  have kF : ∀ c o, c ≠ z → c ≠ TO → c ≠ i1 → c ≠ i2 → s.heap.get? c = some o → hF.get? c = some o := fun c o c1 c2 c3 c4 e => sF.extBut _ _ c2 (sD.extBut _ _ c4 (sC.extBut _ _ c2 (sB.extBut _ _ c3 (sA.extBut _ _ c1 e))))
  have i1F : hF.IsListIter i1 l1 (i + 1) := ((iB.extBut sC.extBut D.TOi1.symm).extBut sD.extBut D.i12).extBut sF.extBut D.TOi1.symm
  have i2F : hF.IsTupleIter i2 l (i + 1) := iD.extBut sF.extBut D.TOi2.symm
  have zlt : z < hF.objs.size := Heap.lt_size zF
  show wpAny _ _ (Builtin.SmallTypes.ownedTupleHandOut (.ref z) (.ref hF.objs.size) >>= _) _ _ _
  unfold Builtin.SmallTypes.ownedTupleHandOut
  have zG : IsZip (hF.push { cls := .type "tuple", data := .seq #[x, y] }) z TI TO .ellipsis := Heap.get?_push_of_some _ zF
  refine wpAny_bind (wpAny_bind (wpAny_setField_rec zG (by simp) fun hH zH sH => ?_))
  replace zH : IsZip hH z TI TO (rawInt hF.objs.size) := zH
  refine wpAny_setField_rec zH (by simp) fun hK zK sK => ?_
  replace zK : IsZip hK z TI TO (rawInt hF.objs.size) := zK
  have up : ∀ c o, c ≠ z → hF.get? c = some o → hK.get? c = some o := fun c o c1 e => sK.extBut _ _ c1 (sH.extBut _ _ c1 (Heap.get?_push_of_some _ e))
  have tK : IsPair hK hF.objs.size x y := sK.extBut _ _ (Nat.ne_of_gt zlt) (sH.extBut _ _ (Nat.ne_of_gt zlt) (Heap.get?_push_size _ rfl))
  rw [hsz] at zK tK
  refine wpAny_pure ⟨_, rfl, ?_⟩
  show Q (.ref hF.objs.size) _
  rw [hsz]
  exact hQ hK _ zK (up _ _ D.TOz pF) (i1F.at fun o e => up _ o D.i1z e) (i2F.at fun o e => up _ o D.i2z e) tK fun c o c1 c2 c3 c4 e => up c o c1 (kF c o c1 c2 c3 c4 e)
/-- .. or the end -/
theorem zipLT_end {Q : Fin → Shared → Prop} (hh : A.handled = none) (D : ZipApart z TI TO i1 i2 l1 l) (hz : IsZip s.heap z TI TO .none) (hTI : IsPair s.heap TI (.ref i1) (.ref i2)) (hTO : IsPair s.heap TO a b)
    (h1 : s.heap.IsListIter i1 l1 i) (h2 : s.heap.IsTupleIter i2 l i) (hl1 : s.heap.IsList l1 xs) (hl : s.heap.IsTuple l ys) (hend : xs[i]? = none ∨ ys[i]? = none)
    (hE : ∀ h' tk e, (∀ c o, c ≠ z → c ≠ TO → c ≠ i1 → c ≠ i2 → s.heap.get? c = some o → h'.get? c = some o) → (∃ o, h'.get? e = some o ∧ o.cls = .type "StopIteration") → E (.ref e) { s with heap := h', toks := tk }) :
    wpAny (model prog w) A (Builtin.«zip.__next__» ⟨[.ref z], []⟩) Q E s := by
  show wpAny _ _ (field (.ref z) 2 >>= _) _ _ _
  refine wpAny_bind (wpAny_field hz rfl (x := .bool false) rfl ?_)
  show wpAny _ _ (field (.ref z) 3 >>= _) _ _ _
  refine wpAny_bind (wpAny_field hz rfl (x := .ref TI) rfl (wpAny_bind (wpAny_seqItems hTI rfl ?_)))
  show wpAny _ _ (Builtin.SmallTypes.ownedTupleIsFree (.ref z) >>= _) _ _ _
  unfold Builtin.SmallTypes.ownedTupleIsFree
  refine wpAny_bind (wpAny_bind (wpAny_field hz rfl (x := .none) rfl (wpAny_pure ?_)))
  simp only [if_true]
  refine wpAny_bind (wpAny_rule (wpAny_bind (wpAny_field hz rfl (x := .ref TO) rfl (wpAny_bind (wpAny_setField_rec hz (by simp) fun hA zA sA => ?_)))))
  replace zA : IsZip hA z TI TO .ellipsis := zA
  refine wpAny_bind ?_
  simp only [List.zipIdx_cons, List.zipIdx_nil, List.forIn_cons, List.forIn_nil]
  refine wpAny_bind (wpAny_bind (wpAny_onRaise ?_))
  show wpAny _ _ (Builtin.SmallTypes.nextOf (.ref i1) >>= _) _ _ _
  cases hx : xs[i]? with
  | none =>
    refine wpAny_bind (wpAny_nextOf_list_end hh (h1.extBut sA.extBut D.i1z) (hl1.extBut sA.extBut D.l1z) hx fun hB e sB he => ?_)
    obtain ⟨oe, hoe, hce⟩ := he
    have zB : IsZip hB z TI TO .ellipsis := sB _ _ D.i1z.symm zA
    have hez : e ≠ z := fun x => by subst x; rw [zB] at hoe; cases hoe; simp at hce
    exact wpAny_setField_rec zB (by simp) fun hC _ sC => hE hC s.toks e (fun c o c1 _ c3 _ x => sC.extBut _ _ c1 (sB _ _ c3 (sA.extBut _ _ c1 x))) ⟨oe, sC.extBut _ _ hez hoe, hce⟩
  | some c =>
    have hy : ys[i]? = none := by
      rcases hend with h | h
      · rw [hx] at h; cases h
      · exact h
    refine wpAny_bind (wpAny_nextOf_list_item (h1.extBut sA.extBut D.i1z) (hl1.extBut sA.extBut D.l1z) hx fun hB iB sB => wpAny_pure ?_)
    have pB : IsPair hB TO a b := sB.extBut _ _ D.TOi1 (sA.extBut _ _ D.TOz hTO)
    refine wpAny_bind (wpAny_seqItems pB rfl (wpAny_bind (wpAny_updateSeq_pair pB fun hC pC sC => ?_)))
    refine wpAny_bind (wpAny_letGo (wpAny_pure (wpAny_bind (wpAny_bind (wpAny_onRaise ?_)))))
    show wpAny _ _ (Builtin.SmallTypes.nextOf (.ref i2) >>= _) _ _ _
    refine wpAny_bind (RZ.nextOf_tuple_end hh (((h2.extBut sA.extBut D.i2z).extBut sB.extBut D.i12.symm).extBut sC.extBut D.TOi2.symm) (((hl.extBut sA.extBut D.l2z).extBut sB.extBut D.l2i1).extBut sC.extBut D.l2TO) hy fun hD e sD he => ?_)
    obtain ⟨oe, hoe, hce⟩ := he
    have zD : IsZip hD z TI TO .ellipsis := sD _ _ D.i2z.symm (sC.extBut _ _ D.TOz.symm (sB.extBut _ _ D.i1z.symm zA))
    have hez : e ≠ z := fun x => by subst x; rw [zD] at hoe; cases hoe; simp at hce
    exact wpAny_setField_rec zD (by simp) fun hF _ sF => hE hF _ e (fun c o c1 c2 c3 c4 x => sF.extBut _ _ c1 (sD _ _ c4 (sC.extBut _ _ c2 (sB.extBut _ _ c3 (sA.extBut _ _ c1 x))))) ⟨oe, sF.extBut _ _ hez hoe, hce⟩
end
/-- the list at a and the tuple at b, the items in new pairs -/
def ItzLT (K : PySem.W.Frag) (a b : Addr) : It :=
  ⟨fun i H => ∃ (xs ys : List V) (x y : V), SqL K H a xs ∧ SqT K H b ys ∧ xs[i]? = some x ∧ ys[i]? = some y,
    fun i H v H' => ∃ T x y, v = .ref T ∧ H T = none ∧ H' = upd H T (.tup [x, y]) ∧ (∀ xs, SqL K H a xs → xs[i]? = some x) ∧ ∀ ys, SqT K H b ys → ys[i]? = some y,
    fun i H => ∃ xs ys : List V, SqL K H a xs ∧ SqT K H b ys ∧ (xs.length ≤ i ∨ ys.length ≤ i)⟩
theorem turn_zipLT {P : Program} {w : World} {K : PySem.W.Frag} {elts : List Expr} {kk : Nat} {tpos : Pos} {a b z TI TO i1 i2 : Addr} (D : ZipApart z TI TO i1 i2 a b) :
    Turn P w K (.Tuple elts kk tpos) (ItzLT K a b) [z, TI, TO, i1, i2] z (fun i h => IsZip h z TI TO .none ∧ IsPair h TI (.ref i1) (.ref i2) ∧ (∃ u v, IsPair h TO u v) ∧ h.IsListIter i1 a i ∧ h.IsTupleIter i2 b i) where
  mem := by simp
  obj := fun i h st c hc => by
    obtain ⟨hz, hTI, ⟨u, v, hTO⟩, ⟨o1, e1, _, d1⟩, ⟨o2, e2, _, d2⟩⟩ := st
    have e' : c = z ∨ c = TI ∨ c = TO ∨ c = i1 ∨ c = i2 := by simpa using hc
    rcases e' with rfl | rfl | rfl | rfl | rfl
    · exact ⟨_, hz, fun v q => nomatch q⟩
    · exact ⟨_, hTI, fun v q => nomatch q⟩
    · exact ⟨_, hTO, fun v q => nomatch q⟩
    · exact ⟨o1, e1, fun v q => by rw [d1] at q; cases q⟩
    · exact ⟨o2, e2, fun v q => by rw [d2] at q; cases q⟩
  keep := fun i h h' st k => by
    obtain ⟨hz, hTI, ⟨u, v, hTO⟩, h1, h2⟩ := st
    exact ⟨k z (by simp) _ hz, k TI (by simp) _ hTI, ⟨u, v, k TO (by simp) _ hTO⟩, h1.at fun o q => k i1 (by simp) o q, h2.at fun o q => k i2 (by simp) o q⟩
  item := by
    intro X hP hw hK hc i pins s σ H E I hf st hg
    subst hP hw hK
    obtain ⟨hz, hTI, ⟨u0, v0, hTO⟩, h1, h2⟩ := st
    obtain ⟨xs, ys, x, y, hqx, hqy, hx, hy⟩ := hg
    obtain ⟨its, rv, p1, _⟩ := I.list hqx
    obtain ⟨its2, rv2, p2, _⟩ := I.tuple hqy
    obtain ⟨u1, hu1, ru1⟩ := rv.get hx
    obtain ⟨u2, hu2, ru2⟩ := rv2.get hy
    have hzl : z < s.heap.objs.size := Heap.lt_size hz
    have hT : s.TypeIs (.ref z) "zip" := ⟨_, hz, rfl⟩
    unfold pyNext
    refine wpAny_bind (wpAny_attempt (wpAny_callSpecial?_slot (name := Str.ofString "__next__") hT F.slot_zip_next (wpAny_call_entry F.slot_zip_next hT F.entry_zip_next
      (zipLT_item D hz hTI hTO h1 h2 p1.isList p2 (x := u1) (y := u2) (by simpa using hu1) (by simpa using hu2) fun h' tk z' TO' h1' h2' hT' hk => wpAny_pure ?_) (F.args_zip_next_1 _))))
    refine ⟨_, rfl, wpAny_letOwnedTupleGo_zip (s := { s with heap := h', toks := tk }) z' fun h'' z'' sb => ?_⟩
    have hT2 : h''.get? s.heap.objs.size = some { cls := .type "tuple", data := .seq #[u1, u2] } := (sb.2 _ (Nat.ne_of_gt hzl)).trans hT'
    have new : ObjOk X.prog X.w (upd H s.heap.objs.size (.tup [x, y])) h'' s.heap.objs.size (.tup [x, y]) :=
      ⟨by show 2 ≤ sizeLine; decide, [u1, u2], .cons ru1 (.cons ru2 .nil), ⟨_, hT2, rfl, _, rfl⟩⟩
    have I1 : Inv X pins σ (upd H s.heap.objs.size (.tup [x, y])) { s with heap := h'', toks := tk } :=
      I.turnedNew (t' := tk) (ch := [z, TI, TO, i1, i2]) (fun c o hb q => (sb.2 c (fun q' => hb (by simp [q']))).trans (hk c o (fun q' => hb (by simp [q'])) (fun q' => hb (by simp [q'])) (fun q' => hb (by simp [q'])) (fun q' => hb (by simp [q'])) q)) hf (Nat.le_refl _) new
    refine ⟨.ref s.heap.objs.size, _, I1, rfl, ⟨_, x, y, rfl, I.hok.fresh (Nat.le_refl _), rfl, (fun l hl => by rw [I.list_inj hl hqx]; exact hx), fun l hl => by rw [I.tuple_inj hl hqy]; exact hy⟩, ⟨z'', ?_, ⟨u1, u2, ?_⟩, ?_, ?_⟩, fun c hcm => ?_⟩
    · exact (sb.2 _ D.TIz).trans (hk _ _ D.TIz D.TITO D.TIi1 D.TIi2 hTI)
    · exact (sb.2 _ D.TOz).trans TO'
    · exact h1'.at fun o q => (sb.2 _ D.i1z).trans q
    · exact h2'.at fun o q => (sb.2 _ D.i2z).trans q
    · have hlt : c < s.heap.objs.size := by
        have e' : c = z ∨ c = TI ∨ c = TO ∨ c = i1 ∨ c = i2 := by simpa using hcm
        rcases e' with rfl | rfl | rfl | rfl | rfl
        · exact hzl
        · exact Heap.lt_size hTI
        · exact Heap.lt_size hTO
        · obtain ⟨_, e1, _⟩ := h1; exact Heap.lt_size e1
        · obtain ⟨_, e2, _⟩ := h2; exact Heap.lt_size e2
      rw [upd_ne (Nat.ne_of_lt hlt)]
      exact (hf c hcm).1
  done := by
    intro X hP hw hK hc i pins s σ H E I hf st hg
    subst hP hw hK
    obtain ⟨hz, hTI, ⟨u0, v0, hTO⟩, h1, h2⟩ := st
    obtain ⟨xs, ys, hqx, hqy, hend⟩ := hg
    obtain ⟨its, rv, p1, _⟩ := I.list hqx
    obtain ⟨its2, rv2, p2, _⟩ := I.tuple hqy
    have l1 := rv.length
    have l2 := rv2.length
    have he : its.toArray[i]? = none ∨ its2.toArray[i]? = none := by
      rcases hend with q | q
      · exact .inl (by simp; omega)
      · exact .inr (by simp; omega)
    have hT : s.TypeIs (.ref z) "zip" := ⟨_, hz, rfl⟩
    unfold pyNext
    refine wpAny_bind (wpAny_attempt (wpAny_callSpecial?_slot (name := Str.ofString "__next__") hT F.slot_zip_next (wpAny_call_entry F.slot_zip_next hT F.entry_zip_next
      (zipLT_end (I.ok.hd hc) D hz hTI hTO h1 h2 p1.isList p2 he fun h' tk e hk hst => ?_) (F.args_zip_next_1 _))))
    obtain ⟨o, ho, hcs⟩ := hst
    refine wpAny_bind (wpAny_isInstance (T := "StopIteration") (b := true) ⟨o, ho, hcs⟩ isSubtype_stop (wpAny_pure ⟨rfl, ?_⟩))
    exact I.turnedL (t' := tk) (ch := [z, TI, TO, i1, i2]) (fun c o hb q => hk c o (fun q' => hb (by simp [q'])) (fun q' => hb (by simp [q'])) (fun q' => hb (by simp [q'])) (fun q' => hb (by simp [q'])) q) hf
  self := fun A i s Q E st h => wpAny_pyIter_zip st.1 h
def zlH (h : Heap) (l1 l : Addr) : Heap := ((((h.push { cls := .type "list_iterator", data := .fields #[.ref l1, .int 0 0] }).push { cls := .type "tuple_iterator", data := .fields #[.ref l, .int 0 0] }).push
  { cls := .type "tuple", data := .seq #[.ref h.objs.size, .ref (h.objs.size + 1)] }).push { cls := .type "tuple", data := .seq #[.none, .none] }).push { cls := .type "zip", data := .fields #[.none, .bool false, .bool false, .ref (h.objs.size + 2), .ref (h.objs.size + 3)] }
theorem meets_zipLT (l1 l : Addr) (xs ys : Array Value) :
    Meets (Builtin.«zip.__new__» ⟨[.type "zip", .ref l1, .ref l], []⟩) (fun _ R s => s.heap.IsList l1 xs ∧ s.heap.IsTuple l ys ∧ R (.ok (.ret (.ref (s.heap.objs.size + 4)))) { s with heap := zlH s.heap l1 l }) :=
  .of_wp fun prog w A R s h => by
    obtain ⟨hp, g, d, tk, os⟩ := s; obtain ⟨hl1, hl, h⟩ := h
    have hsub := sub_zip
    have hL2 : Heap.IsTuple (Shared.heap ⟨hp.push { cls := .type "list_iterator", data := .fields #[.ref l1, .int 0 0] }, g, d, tk, os⟩) l ys := Heap.IsTuple.push hl _
    simp only [zlH] at h
    wp_walk using wpAny_pyIter_list hl1, wpAny_pyIter_tuple hL2
    refine ⟨_, rfl, ?_⟩
    simp only [Heap.size_push]
    exact h
theorem call_zipLT {prog : Program} {w : World} {A : Around} {E : Value → Shared → Prop} {s : Shared} {l1 l : Addr} {xs ys : Array Value} {Q : Value → Shared → Prop} (hl1 : s.heap.IsList l1 xs) (hl : s.heap.IsTuple l ys)
    (h : ∀ h', IsZip h' (s.heap.objs.size + 4) (s.heap.objs.size + 2) (s.heap.objs.size + 3) .none → IsPair h' (s.heap.objs.size + 2) (.ref s.heap.objs.size) (.ref (s.heap.objs.size + 1)) →
      IsPair h' (s.heap.objs.size + 3) .none .none → h'.IsListIter s.heap.objs.size l1 0 → h'.IsTupleIter (s.heap.objs.size + 1) l 0 → (∀ c o, s.heap.get? c = some o → h'.get? c = some o) → Q (.ref (s.heap.objs.size + 4)) { s with heap := h' }) :
    wpAny (model prog w) A (call (.type "zip") [.ref l1, .ref l]) Q E s := by
  refine callType_new F.called_zip (by decide) (F.typeCall_zip_2 _ _) (F.newCall_zip_2 _ _) (fun obj => F.args_object_init_3 obj _ _) F.entry_zip_new (meets_zipLT l1 l xs ys) ⟨hl1, hl, ?_⟩
  have g5 : (zlH s.heap l1 l).get? (s.heap.objs.size + 4) = some _ := Heap.get?_push_at (by simp [Heap.size_push]) rfl
  have g4 : (zlH s.heap l1 l).get? (s.heap.objs.size + 3) = some _ := Heap.get?_push_of_some _ (Heap.get?_push_at (by simp [Heap.size_push]) rfl)
  have g3 : (zlH s.heap l1 l).get? (s.heap.objs.size + 2) = some _ := Heap.get?_push_of_some _ (Heap.get?_push_of_some _ (Heap.get?_push_at (by simp [Heap.size_push]) rfl))
  have g2 : (zlH s.heap l1 l).get? (s.heap.objs.size + 1) = some _ := Heap.get?_push_of_some _ (Heap.get?_push_of_some _ (Heap.get?_push_of_some _ (Heap.get?_push_at (by simp [Heap.size_push]) rfl)))
  have g1 : (zlH s.heap l1 l).get? s.heap.objs.size = some _ := Heap.get?_push_of_some _ (Heap.get?_push_of_some _ (Heap.get?_push_of_some _ (Heap.get?_push_of_some _ (Heap.get?_push_size _ rfl))))
  exact ⟨⟨_, g5, rfl⟩, h _ g5 g3 g4 ⟨_, g1, rfl, rfl⟩ ⟨_, g2, rfl, rfl⟩ fun c o q =>
    Heap.get?_push_of_some _ (Heap.get?_push_of_some _ (Heap.get?_push_of_some _ (Heap.get?_push_of_some _ (Heap.get?_push_of_some _ q))))⟩
/-- zip of two lists, or of a text and a list -/
def iZipS (K : PySem.W.Frag) (ta : TA) : TI := fun σ H R => ta σ H fun vs H1 => (∃ a b xs ys, vs = [.ref a, .ref b] ∧ SqL K H1 a xs ∧ SqL K H1 b ys ∧ R (Itz K a b) H1) ∨ (∃ x b ys, vs = [.str x, .ref b] ∧ SqL K H1 b ys ∧ R (Itzs K x b) H1) ∨ ∃ a b xs ys, vs = [.ref a, .ref b] ∧ SqL K H1 a xs ∧ SqT K H1 b ys ∧ R (ItzLT K a b) H1
theorem pi_zipS {X : Cx} {e e2 : Expr} {ta : TA} {p pos tpos : Pos} {elts : List Expr} {kk : Nat} (hg : Gl X "zip") (hm : X.mg "zip" = none) (ha : PA X [e, e2] ta)
    (hs : starEach [e, e2] X.env = (false, eval e X.env) :: starEach [e2] X.env) (hpl : (backTo pos (starEach [e2] X.env)).any (·.1) = false) :
    PI X (.Tuple elts kk tpos) (.Call (.Name "zip" p) [e, e2] [] pos) (iZipS X.K ta) := by
  refine ⟨fun pins s σ H R I h => ?_⟩
  refine Call_ (ld_blt I hg hm PyProof.Rows.boot_zip (PyProof.Rows.callWith_type1 (thn (ha.run pos pins s σ H _ I h) fun us s1 ⟨vs, H1, I1, r1, q1⟩ => ?_) hs hpl))
  have fresh5 : ∀ c, c ∈ [s1.heap.objs.size + 4, s1.heap.objs.size + 2, s1.heap.objs.size + 3, s1.heap.objs.size, s1.heap.objs.size + 1] → FpOk X pins H1 c := fun c hcm => by
    have e' : c = s1.heap.objs.size + 4 ∨ c = s1.heap.objs.size + 2 ∨ c = s1.heap.objs.size + 3 ∨ c = s1.heap.objs.size ∨ c = s1.heap.objs.size + 1 := by simpa using hcm
    have hle : s1.heap.objs.size ≤ c := by rcases e' with z | z | z | z | z <;> rw [z] <;> first | exact Nat.le_add_right _ _ | exact Nat.le_refl _
    exact I1.fpOk hle (I1.hok.fresh hle)
  rcases q1 with ⟨a, b, xs, ys, ex, hqx, hqy, q⟩ | ⟨x, b, ys, ex, hqy, q⟩ | ⟨a, b, xs, ys, ex, hqx, hqy, q⟩
  · subst ex
    obtain ⟨u1, u2, rfl, r, r'⟩ := vals2 r1
    cases r; cases r'
    obtain ⟨its, rv, p1, _⟩ := I1.list hqx
    obtain ⟨its2, rv2, p2, _⟩ := I1.list hqy
    refine call_zip_2 p1.isList p2.isList fun h' hz hTI hTO h1 h2 hsz hk => wpAny_pyIter_zip hz ?_
    have I2 : Inv X pins σ H1 { s1 with heap := h' } := I1.kept (t' := s1.toks) hk
    exact ⟨s1.heap.objs.size + 4, [s1.heap.objs.size + 4, s1.heap.objs.size + 2, s1.heap.objs.size + 3, s1.heap.objs.size, s1.heap.objs.size + 1], _, _, H1, rfl, I2, turn_zip (PySem.W.ktu_apart s1.heap.objs.size a b p1.lt p2.lt), ⟨hz, hTI, ⟨_, _, hTO⟩, h1, h2⟩, fresh5, q⟩
  · subst ex
    obtain ⟨u1, u2, rfl, r, r'⟩ := vals2 r1
    obtain ⟨t, rfl⟩ := r
    cases r'
    obtain ⟨its2, rv2, p2, _⟩ := I1.list hqy
    refine call_zipS p2.isList fun h' ty k hz hTI hTO h1 h2 hk => wpAny_pyIter_zip hz ?_
    have I2 : Inv X pins σ H1 { s1 with heap := h' } := I1.kept (t' := s1.toks) hk
    exact ⟨s1.heap.objs.size + 4, [s1.heap.objs.size + 4, s1.heap.objs.size + 2, s1.heap.objs.size + 3, s1.heap.objs.size, s1.heap.objs.size + 1], _, _, H1, rfl, I2, turn_zipS x t ty k (PySem.W.ktu_apart s1.heap.objs.size b b p2.lt p2.lt), ⟨hz, hTI, ⟨_, _, hTO⟩, h1, h2⟩, fresh5, q⟩
  · subst ex
    obtain ⟨u1, u2, rfl, r, r'⟩ := vals2 r1
    cases r; cases r'
    obtain ⟨its, rv, p1, _⟩ := I1.list hqx
    obtain ⟨its2, rv2, p2, _⟩ := I1.tuple hqy
    have lt2 : b < s1.heap.objs.size := by
      obtain ⟨o, ho, _⟩ := p2
      exact Heap.lt_size ho
    refine call_zipLT p1.isList p2 fun h' hz hTI hTO h1 h2 hk => wpAny_pyIter_zip hz ?_
    have I2 : Inv X pins σ H1 { s1 with heap := h' } := I1.kept (t' := s1.toks) hk
    exact ⟨s1.heap.objs.size + 4, [s1.heap.objs.size + 4, s1.heap.objs.size + 2, s1.heap.objs.size + 3, s1.heap.objs.size, s1.heap.objs.size + 1], _, _, H1, rfl, I2, turn_zipLT (PySem.W.ktu_apart s1.heap.objs.size a b p1.lt lt2), ⟨hz, hTI, ⟨_, _, hTO⟩, h1, h2⟩, fresh5, q⟩
end DM
set_option Elab.async false
set_option linter.all false
set_option maxRecDepth 100000
set_option maxHeartbeats 4000000
namespace DM
open PySem L2 PySem.Spec PyProof.Rows
inductive Tg where | nm (i : Nat) | tp (is : List Nat)
/-- how a call takes its data: pu as they are (no cells), bw read through cells (what is handed back is plain), mm with the memory -/
inductive Ck where | pu | bw | mm
  deriving DecidableEq
mutual
inductive T
  | var (i : Nat) | lit (d : D) | glob (g : Nat)
  | bin (o : BO) (a b : T) | neg (a : T) | cmp (o : CO) (a b : T) | chn (o o' : CO) (a b c : T)
  | and (a b : T) | or (a b : T) | not (a : T) | ite (c a b : T)
  | idx (a b : T) | slc (a : T) (lo hi : TO) | att (a : T) (f : Nat)
  | tup (as : Ts) | lst (as : Ts)
  | call (k : Ck) (n : Nat) (as : Ts) | mak (k : Ck) (c : Nat) (as : Ts) | mkw (c w : Nat) (as ks : Ts) | mke (c : Nat) (as : Ts) | mth (k : Ck) (a : T) (m : Nat) (as : Ts) | ucl (k : Ck) (c m : Nat) (as : Ts)
  | bi (b : Bi) (as : Ts) | isi (a : T) (k : Kd) | isc (a : T) (c : Nat) | isv (a : T) | ist (a : T) (cs : List Nat) | lrv (a : T) | lrg (a b : T) | orv (a b : T) | dd0 | dd1 (i : Nat) (b : Bool) | dd2 (n : Bool) (k v : T) | lset (a : T) | rvl (a : T) | jrv (o a : T) | sm (m : Sm) (a : T) (as : Ts)
  | lc (tg : Tg) (it : It) (cd : TO) (elt : T)
  | new (a : T) | fz (a : T)
inductive Ts | nil | cons (a : T) (r : Ts)
inductive TO | none | some (a : T)
inductive It | seq (a : T) | r1 (a : T) | r2 (a b : T) | enm (a : T) | zp (a b : T)
end
abbrev Ev := List (Option D)
/-- what the names mean -/
structure Mn where
  fn : Nat → List D → Mem → Rd0
  gl : Nat → D
  /-- a class's fields in order; its __init__; its methods -/
  fl : Nat → List Nat
  ini : Nat → Option Nat
  mt : Nat → Nat → Option Nat
  /-- methods read off their class -/
  unb : Nat → Nat → Option Nat
  /-- which defs stand; which of them have a name of the module -/
  av : Nat → Bool
  fnd : Nat → Bool
  /-- how many parameters; the defaults of the last ones -/
  ar : Nat → Nat
  dv : Nat → List D
  /-- how many fields an exception of the class has -/
  xar : Nat → Option Nat
  /-- isinstance of an instance of the class (none: of built-in data), own classes both -/
  isk : Option Nat → Nat → Option Bool
  /-- .. with ValueError, of an exception of the class -/
  isv : Nat → Option Bool
  /-- calls of a class with keywords, by form: how many values by place, how many by name, and the rest of the parameters: a named value or a default -/
  kwp : Nat → Nat → Option (Nat × Nat × List (Option Nat)) := fun _ _ => none
/-- the parameters behind those by place -/
def kwSel {α : Type} : List (Option Nat) → List α → List α → List α
  | [], _, _ => []
  | none :: r, ds, [] => kwSel r ds []
  | none :: r, ds, z :: zs => z :: kwSel r ds zs
  | some i :: r, ds, zs => (ds[i]?).toList ++ kwSel r ds zs
def Mn.fill (S : Mn) (n : Nat) (ds : List D) : List D := ds ++ (S.dv n).drop ((S.dv n).length + ds.length - S.ar n)
def Mn.run (S : Mn) (n : Nat) (ds : List D) (μ : Mem) : Rd0 := if decide (ds.length ≤ S.ar n) && decide (S.ar n ≤ ds.length + (S.dv n).length) && S.av n then S.fn n (S.fill n ds) μ else .bad
def R.pure (r : Rd0) (μ : Mem) : Rd0 := match r with
  | .ok (d, _) => if cf d then .ok (d, μ) else .bad
  | .ex x _ => if cfs x.fs then .ex x μ else .bad
  | .bad => .bad
def R.bare (r : Rd0) (μ : Mem) : Rd0 := match r with
  | .ok (d, _) => if imm d then .ok (d, μ) else .bad
  | .ex x _ => if imms x.fs then .ex x μ else .bad
  | .bad => .bad
/-- a call -/
def callE (S : Mn) (k : Ck) (n : Nat) (ds : List D) (μ : Mem) : Rd0 := match k with
  | .pu => if cfs ds then (S.run n ds []).pure μ else .bad
  | .bw => if cfs (ds.map (res μ)) then (S.run n (ds.map (res μ)) []).bare μ else .bad
  | .mm => S.run n ds μ
/-- an instance is made -/
def makE (S : Mn) (k : Ck) (c : Nat) (ds : List D) (μ : Mem) : Rd0 := match S.ini c with
  | none => .bad
  | some n => match k with
    | .mm => (S.run n (.cel μ.length :: ds) (μ ++ [some (.ins c [])])).bind fun p => match p.1 with | .non => .ok (.cel μ.length, p.2) | _ => .bad
    | _ => if cfs ds then (match S.run n (.cel 0 :: ds) [some (.ins c [])] with
      | .ok (.non, μ') => (match μ'[0]? with
        | some (some (D.ins c' fs)) => if decide (c' = c) && decide (fs.length = (S.fl c).length) && cfs fs then .ok (.ins c fs, μ) else .bad
        | _ => .bad)
      | .ex x _ => if cfs x.fs then .ex x μ else .bad
      | _ => .bad) else .bad
def mkwE (S : Mn) (c w : Nat) (xs ys : List D) (μ : Mem) : Rd0 := match S.kwp c w, S.ini c with
  | some (np, nk, pt), some n => if decide (xs.length = np) && decide (ys.length = nk) && decide ((xs ++ kwSel pt (S.dv n) ys).length + 1 = S.ar n) then makE S .pu c (xs ++ kwSel pt (S.dv n) ys) μ else .bad
  | _, _ => .bad
def opt (o : Option D) (μ : Mem) : Rd0 := match o with | some d => .ok (d, μ) | none => .bad
def rngD (lo : Int) (n : Nat) : List D := (List.range n).map fun i => .int (lo + (i : Nat))
def binds (tg : Tg) (μ : Mem) (d : D) (ε : Ev) : Option Ev :=
  match tg with
  | .nm i => some (ε.set i (some d))
  | .tp is => match top μ d with
    | .tup ds => if ds.length = is.length then some ((is.zip ds).foldl (fun e p => e.set p.1 (some p.2)) ε) else none
    | .lst ds => if ds.length = is.length then some ((is.zip ds).foldl (fun e p => e.set p.1 (some p.2)) ε) else none
    | _ => none
def tgI : Tg → List Nat | .nm i => [i] | .tp is => is
def wipeE (ε : Ev) : List Nat → Ev
  | [] => ε
  | v :: vs => (wipeE ε vs).set v none
/-- what is walked: items known ahead, or a cell's -/
inductive Iv where | its (ds : List D) | liv (n : Nat)
/-- within a comprehension nothing may be raised -/
def R.quiet {α : Type} : R α → R α
  | .ok a => .ok a
  | _ => .bad
/-- the turns of a comprehension -/
def goLc (tg : Tg) (ε : Ev) (cd : Ev → Mem → Rd0) (elt : Ev → Mem → Rd0) : List D → Mem → R (List D × Mem)
  | [], μ => .ok ([], μ)
  | d :: r, μ => match binds tg μ d ε with
    | none => .bad
    | some ε1 => (cd ε1 μ).bind fun b => match b.1 with
      | .bl true => (elt ε1 b.2).bind fun x => (goLc tg ε cd elt r x.2).bind fun xs => .ok (x.1 :: xs.1, xs.2)
      | .bl false => goLc tg ε cd elt r b.2
      | _ => .bad
/-- an item of a cell's list -/
def livAt (μ : Mem) (n i : Nat) : Option (Option D) := match μ[n]? with | some (some (.lst ds)) => some ds[i]? | _ => none
def goLcL (tg : Tg) (ε : Ev) (cd : Ev → Mem → Rd0) (elt : Ev → Mem → Rd0) (n : Nat) : Nat → Nat → Mem → R (List D × Mem)
  | 0, _, _ => .bad
  | f + 1, i, μ => match livAt μ n i with
    | none => .bad
    | some none => .ok ([], μ)
    | some (some d) => if 16777215 ≤ i then .bad else match binds tg μ d ε with
      | none => .bad
      | some ε1 => (cd ε1 μ).bind fun b => match b.1 with
        | .bl true => (elt ε1 b.2).bind fun x => (goLcL tg ε cd elt n f (i + 1) x.2).bind fun xs => .ok (x.1 :: xs.1, xs.2)
        | .bl false => goLcL tg ε cd elt n f (i + 1) b.2
        | _ => .bad
/-- more turns than are ever taken -/
def fuelW : Nat := 1000000000000000000
def goLcI (tg : Tg) (ε : Ev) (cd : Ev → Mem → Rd0) (elt : Ev → Mem → Rd0) (w : Iv) (μ : Mem) : R (List D × Mem) := match w with
  | .its ds => goLc tg ε cd elt ds μ
  | .liv n => goLcL tg ε cd elt n fuelW 0 μ
def shortB (μ : Mem) : Iv → Bool
  | .its ds => decide (ds.length < 16777216)
  | .liv _ => true
def seqE (μ : Mem) (d : D) : Option Iv :=
  match d with
  | .lst ds => some (.its ds)
  | .tup ds => some (.its ds)
  | .str x => some (.its (x.map fun s => .str [s]))
  | .dct ks _ => if tkB ks then some (.its ks) else none
  | .cel n => match μ[n]? with | some (some (.lst _)) => some (.liv n) | _ => none
  | _ => none
def rngOk (i : Int) : Bool := decide (-(4611686018427387904) ≤ i) && decide (i < 4611686018427387904)
def enmD (ds : List D) : List D := ds.zipIdx.map fun p => .tup [.int (p.2 : Nat), p.1]
def zpD (ds es : List D) : List D := (ds.zip es).map fun p => .tup [p.1, p.2]
def zpE (d e : D) : Option (List D) := match d, e with
  | .lst ds, .lst es => some (zpD ds es)
  | .str x, .lst es => some (zpD (x.map fun s => .str [s]) es)
  | .lst ds, .tup es => some (zpD ds es)
  | _, _ => none
def optI (o : Option Iv) (μ : Mem) : R (Iv × Mem) := match o with | some d => .ok (d, μ) | none => .bad
/-- the truth of None, of a tuple -/
def truD : D → Option Bool | .non => some false | .tup xs => some (!xs.isEmpty) | _ => none
def iscE (S : Mn) (c : Nat) : D → Option D
  | .dct ks _ => if tkB ks then none else (S.isk none c).map .bl
  | .cel _ => none
  | .ins c' _ => (S.isk (some c') c).map .bl
  | .exc c' _ => (S.isk (some c') c).map .bl
  | _ => (S.isk none c).map .bl
def isvE (S : Mn) : D → Option D
  | .exc c _ => (S.isv c).map .bl
  | _ => none
def istB (S : Mn) (c' : Nat) : List Nat → Option Bool
  | [] => some false
  | c :: r => (S.isk (some c') c).bind fun b => (istB S c' r).map fun d => b || d
def istE (S : Mn) (cs : List Nat) : D → Option D
  | .exc c _ => (istB S c cs).map .bl
  | _ => none
/-- an own exception made by hand -/
def mkeE (c n : Nat) (ds : List D) : Option D := if decide (ds.length = max n 1) && decide (n < 900) then some (.exc c (ds.take n).reverse) else none
/-- {a name: a truth} -/
def dd1E (b : Bool) : D → Option D
  | .str x => some (.dct [.str x] [.bl b])
  | _ => none
/-- {a key: a value}; n: the key is a tuple -/
def dd2E (n : Bool) (k v : D) : Option D := if (if n then tupK k else mixD k) then some (.dct [k] [v]) else none
/-- list(range(a, b)) -/
def lrgE : D → D → Option D
  | .int i, .int j => if rngOk i && rngOk j && decide ((j - i).toNat ≤ 16777216) then some (.lst (rngD i (j - i).toNat)) else none
  | _, _ => none
def frB : Bi → Bool | .list => true | .srt => true | .dls => true | _ => false
/-- a new list, dict, instance whatever it holds -/
def frT : T → Bool
  | .lst _ => true | .lc _ _ _ _ => true | .lrv _ => true | .lrg _ _ => true | .dd0 => true | .dd1 _ _ => true | .dd2 _ _ _ => true | .rvl _ => true | .slc _ _ _ => true
  | .bin .add _ _ => true | .bin .mul _ _ => true | .bi b _ => frB b
  | _ => false
def isMut : D → Bool | .lst _ => true | .dct _ _ => true | .ins _ _ => true | _ => false
section
variable (S : Mn)
mutual
def ev : T → Ev → Mem → Rd0
  | .var i, ε, μ => match ε[i]? with | some (some d) => .ok (d, μ) | _ => .bad
  | .lit d, _, μ => .ok (d, μ)
  | .glob g, _, μ => .ok (S.gl g, μ)
  | .bin o a b, ε, μ => (ev a ε μ).bind fun x => (ev b ε x.2).bind fun y => opt (binE o (top y.2 x.1) (top y.2 y.1)) y.2
  | .neg a, ε, μ => (ev a ε μ).bind fun x => match x.1 with | .int i => .ok (.int (-i), x.2) | _ => .bad
  | .cmp o a b, ε, μ => (ev a ε μ).bind fun x => (ev b ε x.2).bind fun y => opt (cmpE o (cmpX o y.2 x.1) (cmpX o y.2 y.1)) y.2
  | .chn o o' a b c, ε, μ => (ev a ε μ).bind fun x => (ev b ε x.2).bind fun y => (opt (cmpE o (cmpX o y.2 x.1) (cmpX o y.2 y.1)) y.2).bind fun r => match r.1 with
    | .bl true => (ev c ε r.2).bind fun z => opt (cmpE o' (cmpX o' z.2 y.1) (cmpX o' z.2 z.1)) z.2
    | .bl false => .ok (.bl false, r.2)
    | _ => .bad
  | .and a b, ε, μ => (ev a ε μ).bind fun x => match x.1 with | .bl true => ev b ε x.2 | .bl false => .ok (.bl false, x.2) | _ => .bad
  | .or a b, ε, μ => (ev a ε μ).bind fun x => match x.1 with | .bl false => ev b ε x.2 | .bl true => .ok (.bl true, x.2) | _ => .bad
  | .not a, ε, μ => (ev a ε μ).bind fun x => match x.1 with | .bl b => .ok (.bl (!b), x.2) | _ => .bad
  | .orv a b, ε, μ => (ev a ε μ).bind fun x => match truD x.1 with | some true => .ok x | some false => ev b ε x.2 | none => .bad
  | .ite c a b, ε, μ => (ev c ε μ).bind fun x => match x.1 with | .bl true => ev a ε x.2 | .bl false => ev b ε x.2 | _ => .bad
  | .idx a b, ε, μ => (ev a ε μ).bind fun x => (ev b ε x.2).bind fun y => opt (idxE (top y.2 x.1) (top y.2 y.1)) y.2
  | .slc a lo hi, ε, μ => (ev a ε μ).bind fun x => (evo lo ε x.2).bind fun l => (evo hi ε l.2).bind fun h => opt (slcE (top h.2 x.1) l.1 h.1) h.2
  | .att a f, ε, μ => (ev a ε μ).bind fun x => match top x.2 x.1 with
    | .ins c ds => (match ((S.fl c).zip ds).lookup f with | some d => .ok (d, x.2) | none => .bad)
    | .exc c ds => (match ((S.fl c).zip ds).lookup f with | some d => .ok (d, x.2) | none => .bad)
    | _ => .bad
  | .tup as, ε, μ => (evs as ε μ).bind fun xs => .ok (.tup xs.1, xs.2)
  | .lst as, ε, μ => (evs as ε μ).bind fun xs => .ok (.lst xs.1, xs.2)
  | .call k n as, ε, μ => (evs as ε μ).bind fun xs => callE S k n xs.1 xs.2
  | .mkw c w as ks, ε, μ => (evs as ε μ).bind fun x => (evs ks ε x.2).bind fun y => mkwE S c w x.1 y.1 y.2
  | .mke c as, ε, μ => match S.xar c with | some n => (evs as ε μ).bind fun xs => opt (mkeE c n xs.1) xs.2 | none => .bad
  | .mak k c as, ε, μ => (evs as ε μ).bind fun xs => makE S k c xs.1 xs.2
  | .mth k a m as, ε, μ => (ev a ε μ).bind fun x => match top x.2 x.1 with
    | .ins c _ => match S.mt c m with | some n => if S.av n then (evs as ε x.2).bind fun xs => callE S k n (x.1 :: xs.1) xs.2 else .bad | none => .bad
    | _ => .bad
  | .ucl k c m as, ε, μ => match S.unb c m with | some n => if S.av n then (evs as ε μ).bind fun xs => callE S k n xs.1 xs.2 else .bad | none => .bad
  | .bi b as, ε, μ => (evs as ε μ).bind fun xs => opt (biE b (xs.1.map (top xs.2))) xs.2
  | .isi a k, ε, μ => (ev a ε μ).bind fun x => opt (isiE k (top x.2 x.1)) x.2
  | .isc a c, ε, μ => (ev a ε μ).bind fun x => opt (iscE S c (top x.2 x.1)) x.2
  | .isv a, ε, μ => (ev a ε μ).bind fun x => opt (isvE S (top x.2 x.1)) x.2
  | .ist a cs, ε, μ => (ev a ε μ).bind fun x => opt (istE S cs (top x.2 x.1)) x.2
  | .lrv a, ε, μ => (ev a ε μ).bind fun x => opt (lrvE (top x.2 x.1)) x.2
  | .rvl a, ε, μ => (ev a ε μ).bind fun x => opt (rvlE (top x.2 x.1)) x.2
  | .dd0, _, μ => .ok (.dct [] [], μ)
  | .dd2 n a b, ε, μ => (ev a ε μ).bind fun x => (ev b ε x.2).bind fun y => opt (dd2E n x.1 y.1) y.2
  | .dd1 i b, ε, μ => match ε[i]? with | some (some d) => opt (dd1E b d) μ | _ => .bad
  | .lrg a b, ε, μ => (ev a ε μ).bind fun x => (ev b ε x.2).bind fun y => opt (lrgE x.1 y.1) y.2
  | .lset a, ε, μ => (ev a ε μ).bind fun x => opt (lsetE (top x.2 x.1)) x.2
  | .jrv o a, ε, μ => (ev o ε μ).bind fun x => if smT .join (top x.2 x.1) then (ev a ε x.2).bind fun y => opt (jrvE (top y.2 x.1) (top y.2 y.1)) y.2 else .bad
  | .sm m a as, ε, μ => (ev a ε μ).bind fun x => if smT m (top x.2 x.1) then (evs as ε x.2).bind fun xs => opt (smE m (top xs.2 x.1) (xs.1.map (top xs.2))) xs.2 else .bad
  | .lc tg it cd elt, ε, μ => (evi it ε μ).bind fun p => if shortB p.2 p.1 then (goLcI tg (wipeE ε (tgI tg)) (evc cd) (ev elt) p.1 p.2).quiet.bind fun xs => .ok (.lst xs.1, xs.2) else .bad
  | .new a, ε, μ => (ev a ε μ).bind fun x => if frT a && isMut x.1 then .ok (.cel x.2.length, x.2 ++ [some x.1]) else .bad
  | .fz a, ε, μ => (ev a ε μ).bind fun x => match x.1 with
    | .cel n => (match x.2[n]? with | some (some d) => .ok (dpz d (x.2.set n none)) | _ => .bad)
    | d => .ok (d, x.2)
def evs : Ts → Ev → Mem → R (List D × Mem)
  | .nil, _, μ => .ok ([], μ)
  | .cons a r, ε, μ => (ev a ε μ).bind fun x => (evs r ε x.2).bind fun xs => .ok (x.1 :: xs.1, xs.2)
def evo : TO → Ev → Mem → R (Option Int × Mem)
  | .none, _, μ => .ok (none, μ)
  | .some a, ε, μ => (ev a ε μ).bind fun x => match x.1 with | .int i => .ok (some i, x.2) | _ => .bad
/-- a clause's test -/
def evc : TO → Ev → Mem → Rd0
  | .none, _, μ => .ok (.bl true, μ)
  | .some a, ε, μ => ev a ε μ
def evi : It → Ev → Mem → R (Iv × Mem)
  | .seq a, ε, μ => (ev a ε μ).bind fun x => optI (seqE x.2 x.1) x.2
  | .r1 a, ε, μ => (ev a ε μ).bind fun x => match x.1 with | .int i => if rngOk i then .ok (.its (rngD 0 i.toNat), x.2) else .bad | _ => .bad
  | .r2 a b, ε, μ => (ev a ε μ).bind fun x => (ev b ε x.2).bind fun y => match x.1, y.1 with | .int i, .int j => if rngOk i && rngOk j then .ok (.its (rngD i (j - i).toNat), y.2) else .bad | _, _ => .bad
  | .enm a, ε, μ => (ev a ε μ).bind fun x => match x.1 with | .lst ds => .ok (.its (enmD ds), x.2) | _ => .bad
  | .zp a b, ε, μ => (ev a ε μ).bind fun x => (ev b ε x.2).bind fun y => match zpE x.1 y.1 with
    | some ds => .ok (.its ds, y.2)
    | none => .bad
end
end
/-- the names of a text, by number -/
structure Sg where
  nm : Nat → Str
  gnm : Nat → Str
  cnm : Nat → Str
  anm : Nat → Str
  mnm : Nat → Str
  /-- defs that may be called while an exception is handled; classes that clauses and tuples name -/
  hot : Nat → Bool := fun _ => false
  hnd : Nat → Bool := fun _ => false
  /-- the names of a form's keywords -/
  kwn : Nat → Nat → List Str := fun _ _ => []
  kwk : Nat → Nat → Nat := fun _ _ => 0
  /-- defs (by their names) in whose except clauses ranges are walked by comprehensions -/
  lc : List Str → Bool := fun _ => false
def visB (sc : Scope) (x : Str) : Bool := match sc.names.lookup x with | some .local => true | some .cell => true | some .free => true | _ => false
def locB (sc : Scope) (x : Str) : Bool := match sc.names.lookup x with | some .local => true | some .cell => true | _ => false
def glB (sc : Scope) (x : Str) : Bool := match sc.names.lookup x with | some .globalImplicit => true | _ => false
def okNm (x : Str) : Bool := !(x == ("__debug__" : Str)) && !(x == ("__classdict__" : Str)) && !(x == ("__name__" : Str))
def BO.is : BO → Operator → Bool
  | .add, .Add => true | .sub, .Sub => true | .mul, .Mult => true | .fdiv, .FloorDiv => true | .mod, .Mod => true | .pow, .Pow => true | _, _ => false
def CO.isO : CO → CmpOp → Bool
  | .din, .In => true | .dnin, .NotIn => true | .xne, .NotEq => true | .eq, .Eq => true | .ne, .NotEq => true | .lt, .Lt => true | .le, .LtE => true | .gt, .Gt => true | .ge, .GtE => true | .isin, .In => true | .notin, .NotIn => true | .isN, .Is => true | .notN, .IsNot => true | _, _ => false
def litB : D → Const → Bool
  | .non, .none => true
  | .bl b, .bool c => b == c
  | .int i, .int j => i == j
  | .str x, .str y => decide (mkS x = y) && okS x
  | _, _ => false
/-- what is called, a name with plain arguments -/
def callN : Expr → Option (Str × List Expr)
  | .Call (.Name x _) es [] _ => if okNm x then some (x, es) else none
  | _ => none
def callM : Expr → Option (Expr × Str × List Expr)
  | .Call (.Attribute o m apos) es [] cpos => if apos.endLine == cpos.line then some (o, m, es) else none
  | _ => none
def tgB (N : List Str) (st : Str → Bool) : Tg → Expr → Bool
  | .nm i, .Name x _ => decide (N[i]? = some x) && st x
  | .tp is, .Tuple es _ _ => tgBs N st is es
  | _, _ => false
where tgBs (N : List Str) (st : Str → Bool) : List Nat → List Expr → Bool
  | [], [] => true
  | i :: is, .Name x _ :: es => decide (N[i]? = some x) && st x && tgBs N st is es
  | _, _ => false
def ownN (N : List Str) (is : List Nat) : List (Str × Nat) := is.filterMap fun i => (N[i]?).map fun x => (x, i)
end DM
set_option Elab.async false
set_option linter.all false
set_option maxRecDepth 100000
set_option maxHeartbeats 4000000
namespace DM
open PySem L2 PySem.Spec PyProof.Rows
def Gc.wx (G : Gc) (X : Addr → Prop) : Gc := { G with X := X }
structure Mt (G : Gc) (φ : List Addr) (μ : Mem) (H : Hp) (σ : L2.St) (ε : Ev) : Prop where
  ms : Ms G φ μ H
  at_ : ∀ (i : Nat) (d : D), ε[i]? = some (some d) → ∃ v, σ[i]? = some (some v) ∧ G.rp φ μ H v d
  len : σ.length = ε.length
  ho : ∀ a, G.hot = some a → HotT H a ∧ ¬ Lv φ μ a
theorem Mt.ex {G : Gc} {φ φ' : List Addr} {μ μ' : Mem} {H H' : Hp} {σ : L2.St} {ε : Ev} (m : Mt G φ μ H σ ε) (e : Ex φ μ H φ' μ' H') (m' : Ms G φ' μ' H') : Mt G φ' μ' H' σ ε :=
  ⟨m', fun i d h => let ⟨v, h1, h2⟩ := m.at_ i d h; ⟨v, h1, Rp.ex m.ms e h2⟩, m.len, fun a h => by
    obtain ⟨⟨oe, vs, h1, h2, h3⟩, nl⟩ := m.ho a h
    refine ⟨⟨oe, vs, e.keep a _ h1 nl, h2, h3⟩, fun z => ?_⟩
    rcases e.lv a z with z | z
    · exact nl z
    · rw [h1] at z; cases z⟩
/-- exceptions: by class, with the fields' names -/
abbrev Xc := Nat → Option (Addr × List Str)
def XR (xc : Xc) (G : Gc) (φ : List Addr) (μ : Mem) (H : Hp) (cls : Value) (dd : Option Addr) (x : Exn) : Prop :=
  ∃ C ns, xc x.c = some (C, ns) ∧ cls = .ref C ∧ ((ns = [] ∧ dd = none ∧ x.fs = []) ∨ (ns ≠ [] ∧ ∃ d vs, dd = some d ∧ H d = some (.xd (ns.zip vs)) ∧ ns.length = vs.length ∧ G.rps φ μ H vs x.fs))
def PX {α : Type} (xc : Xc) (G : Gc) (W : WX) (σ : L2.St) (φ : List Addr) (μ : Mem) (H : Hp) (r : R α) (k : α → Prop) : Prop :=
  match r with
  | .ok a => k a
  | .ex x μ' => ∀ cls dd H' φ', Ex φ μ H φ' μ' H' → Ms G φ' μ' H' → XR xc G φ' μ' H' cls dd x → W cls dd σ H'
  | .bad => False
section
variable {α β : Type} {xc : Xc} {G : Gc} {W : WX} {σ : L2.St} {φ φ' : List Addr} {μ μ' : Mem} {H H' : Hp} {r : R α} {k k' : α → Prop}
theorem px_bind {f : α → R β} {k : β → Prop} (p : PX xc G W σ φ μ H (r.bind f) k) : PX xc G W σ φ μ H r (fun a => PX xc G W σ φ μ H (f a) k) := by
  cases r <;> exact p
theorem px_mono (p : PX xc G W σ φ μ H r k) (h : ∀ a, k a → k' a) : PX xc G W σ φ μ H r k' := by
  cases r
  · exact h _ p
  · exact p
  · exact p
theorem px_ex (e : Ex φ μ H φ' μ' H') (p : PX xc G W σ φ μ H r k) : PX xc G W σ φ' μ' H' r k := by
  cases r
  · exact p
  · exact fun cls dd H2 φ2 e2 m x => p cls dd H2 φ2 (e.trans e2) m x
  · exact p
theorem px_opt {o : Option D} {k : D × Mem → Prop} (p : PX xc G W σ φ μ H (opt o μ') k) : ∃ d, o = some d ∧ k (d, μ') := by
  cases o with
  | none => exact p.elim
  | some d => exact ⟨d, rfl, p⟩
end
/-- a call's promise over data -/
def OutP (xc : Xc) (G : Gc) (φ : List Addr) (μ : Mem) (H : Hp) (Q : VK) (E : XK) (r : Rd0) : Prop :=
  match r with
  | .ok (d, μ') => ∀ v H' φ', Ex φ μ H φ' μ' H' → Ms G φ' μ' H' → G.rp φ' μ' H' v d → Q v H'
  | .ex x μ' => ∀ cls dd H' φ', Ex φ μ H φ' μ' H' → Ms G φ' μ' H' → XR xc G φ' μ' H' cls dd x → E cls dd H'
  | .bad => False
def spD (xc : Xc) (cl : Cls0) (K : PySem.W.Frag) (n : Nat) (F : List D → Mem → Rd0) : Sp := fun vs H Q E => ∃ (X : Addr → Prop) (φ : List Addr) (μ : Mem) (ds : List D), vs.length = n ∧ Ms ⟨cl, K, X, none⟩ φ μ H ∧ Gc.rps ⟨cl, K, X, none⟩ φ μ H vs ds ∧ OutP xc ⟨cl, K, X, none⟩ φ μ H Q E (F ds μ)
/-- a plain class of exceptions -/
structure XPl (K : PySem.W.Frag) (C : Addr) : Prop where
  ex : PySem.W.excIn K C [.type "ValueError", .type "Exception", .type "BaseException", .type "object"] "ValueError.__new__" = true
  kp : PySem.W.keepIn K (.ref C) = true
  sb : PySem.W.subIn K (.ref C) (.type "BaseException") = some true
  ty : PySem.W.typeIn K (.ref C) = some (.type "type")
/-- the promise of an exception's __init__: what is given becomes the fields, the last one first -/
def spX (C : Addr) (ns : List Str) : Sp := fun vs H Q _ => ∃ e ws, vs = .ref e :: ws ∧ H e = some (exo e C none) ∧ ws.length = ns.length ∧
  ∀ d H', H d = none → (∀ b o, b ≠ e → H b = some o → H' b = some o) → H' e = some (exo e C (some d)) → H' d = some (exd d (ns.zip ws.reverse)) → Q .non H'
def bltN : List Str := ["len", "sum", "all", "any", "max", "min", "int", "list", "tuple", "reversed", "isinstance", "str", "bool", "dict", "range", "zip", "enumerate", "set", "sorted", "divmod", "ord", "repr", "ValueError"]
/-- what is known of a def's parameters: the defaults of the last ones -/
def Dfl (K : PySem.W.Frag) (fd : FuncData) (ps : List Str) (n : Nat) (dv : List D) : Prop := ps.length = n ∧ (imms dv = true) ∧ ∀ j ≤ dv.length, ∃ (dvs : List V) (us : List Value), Vals dvs us ∧ (∀ cl φ H X, Rps cl K φ H X dvs (dv.drop j)) ∧ Binds K fd ps us
/-- what a call with keywords binds -/
def KwB (K : PySem.W.Frag) (fd : FuncData) (ps : List Str) (np : Nat) (ks : List Str) (nk : Nat) (pt : List (Option Nat)) (dv : List D) : Prop := ks.length = nk ∧ ∃ (G : List Value → List Value → List Value) (GV : List V → List V → List V) (R : List V → List V), L2.KBn K fd ps (np + 1) ks G GV ∧
  (∀ vs zs, GV vs zs = vs ++ R zs) ∧ ∀ cl φ H X zs es, Rps cl K φ H X zs es → Rps cl K φ H X (R zs) (kwSel pt dv es)
def Kws (g : Sg) (kwp : Nat → Nat → Option (Nat × Nat × List (Option Nat))) (K : PySem.W.Frag) (c : Nat) (fd : FuncData) (ps : List Str) (dv : List D) : Prop := ∀ w, g.kwn c w ≠ [] → ∃ nk pt, kwp c w = some (g.kwk c w, nk, pt) ∧ KwB K fd ps (g.kwk c w) (g.kwn c w) nk pt dv
/-- what the written part says of an own class, for isinstance of its instances -/
structure InC (K : PySem.W.Frag) (C : Addr) : Prop where
  ha : PySem.W.findIn K (.ref C) "__class__" = some (some (.builtin "object.__class__"))
  hn : PySem.W.specialIn K (.builtin "object.__class__") "__get__" = some (some (.builtin "getset_descriptor.__get__"))
  ht : PySem.W.takesIn K (.builtin "object.__class__") = some true
  hm : PySem.W.mroIn K C (.type "object") = some true
/-- what a body may lean on -/
structure Hy (g : Sg) (S : Mn) (xc : Xc) (G : Gc) (avc avg : Nat → Bool) (N : List Str) (k : Nat) (ql : Bool) (X : Cx) (W : WX) : Prop where
  hN : X.N = N
  nd : N.Nodup
  hK : X.K = G.K
  /-- ql: nothing is being handled here -/
  calm : ql = true → X.calm = true
  room : ql = true → Room (k + 1) X.A
  cool : ql = true → G.hot = none
  /-- what is handled, where a comprehension may stand all the same -/
  lch : ql = false → g.lc N = true → ∃ a, X.A.handled = some (.ref a) ∧ G.hot = some a
  un : X.A.units + 65 < cLine
  rmh : L2H.RoomH (k + 1) X.A
  cold : ql = false → ∀ c d σ H, ¬ W c d σ H
  tk : L2N.Takes X W
  hxc : G.cl.x = xc
  hhs : G.cl.hs = fun k => k.hash X.w
  hnd : ∀ c, g.hnd c = true → ∃ C, X.mg (g.cnm c) = some (.ref C)
  /-- an exception's fields, by name -/
  xfs : ∀ c C ns, xc c = some (C, ns) → S.fl c ≠ [] → ns = (S.fl c).map g.anm ∧ ns.Nodup ∧ XfC X.K C ∧ ∀ x ∈ ns, PySem.W.findIn X.K (.ref C) x = some none
  isx : ∀ c c' b C' ns, S.isk (some c') c = some b → xc c' = some (C', ns) → ExcC X.K C' ∧ ∃ C, X.mg (g.cnm c) = some (.ref C) ∧ PySem.W.kitOne X.K (.ref C') (.ref C) = some b ∧ PySem.W.exmOne X.K (.ref C') (.ref C) = some b
  isw : ∀ c' b C' ns, S.isv c' = some b → xc c' = some (C', ns) → ExcC X.K C' ∧ PySem.W.kitOne X.K (.ref C') (.type "ValueError") = some b
  hts : ∀ n, g.hot n = true → S.av n = true → ∃ f fd ps, X.mg (g.nm n) = some (.ref f) ∧ PySem.W.keepIn X.K (.ref f) = true ∧ Dfl X.K fd ps (S.ar n) (S.dv n) ∧ FnC X.prog X.w X.K X.mg X.base k f fd ps (spD xc G.cl G.K (S.ar n) (S.fn n))
  blt : ∀ x ∈ bltN, X.mg x = none
  glo : ∀ n, avg n = true → ∃ v u, X.mg (g.gnm n) = some u ∧ RelV v u ∧ ∀ φ H Y, Rp G.cl G.K φ H Y v (S.gl n)
  fns : ∀ n, S.av n = true → S.fnd n = true → ∃ f fd ps, X.mg (g.nm n) = some (.ref f) ∧ PySem.W.keepIn X.K (.ref f) = true ∧ Dfl X.K fd ps (S.ar n) (S.dv n) ∧ FnOk X.prog X.w X.K X.mg X.base (L2N.CX X.prog X.w) k f fd ps (spD xc G.cl G.K (S.ar n) (S.fn n))
  cls : ∀ c C ns, G.cl c = some (C, ns) → L2.Cls X.K C ∧ ns = (S.fl c).map g.anm ∧ ns.Nodup ∧ ns.length < 1000 ∧ (∀ x ∈ ns, NoAttr X.K C x)
  mts : ∀ c m n C ns, S.mt c m = some n → S.av n = true → G.cl c = some (C, ns) → ∃ f fd ps, Meth X.K C (g.mnm m) f ∧ Dfl X.K fd ps (S.ar n) (S.dv n) ∧ g.mnm m ∉ ns ∧ FnOk X.prog X.w X.K X.mg X.base (L2N.CX X.prog X.w) k f fd ps (spD xc G.cl G.K (S.ar n) (S.fn n))
  ubs : ∀ c m n, S.unb c m = some n → S.av n = true → ∃ C mc f fd ps, X.mg (g.cnm c) = some (.ref C) ∧ ClX.CRead X.K C mc ∧ ClX.CVal X.K C mc (g.mnm m) (.ref f) (.ref f) ∧ PySem.W.keepIn X.K (.ref f) = true ∧ Dfl X.K fd ps (S.ar n) (S.dv n) ∧ FnOk X.prog X.w X.K X.mg X.base (L2N.CX X.prog X.w) k f fd ps (spD xc G.cl G.K (S.ar n) (S.fn n))
  mks : ∀ c n, avc c = true → S.ini c = some n → S.av n = true → ∃ C ns f fd ps, G.cl c = some (C, ns) ∧ X.mg (g.cnm c) = some (.ref C) ∧ (Mk X.K C f ∧ Kws g S.kwp X.K c fd ps (S.dv n)) ∧ Dfl X.K fd ps (S.ar n) (S.dv n) ∧ FnOk X.prog X.w X.K X.mg X.base (L2N.CX X.prog X.w) k f fd ps (spD xc G.cl G.K (S.ar n) (S.fn n))
  /-- isinstance: the class asked for stands under a name; the answer for built-in data, for instances -/
  isn : ∀ c b, S.isk none c = some b → ∃ C, X.mg (g.cnm c) = some (.ref C) ∧ ∀ T ∈ ["NoneType", "bool", "int", "str", "list", "tuple", "dict"], PySem.W.kitOne X.K (.type T) (.ref C) = some b
  isi : ∀ c c' b C' ns, S.isk (some c') c = some b → G.cl c' = some (C', ns) → InC X.K C' ∧ ∃ C, X.mg (g.cnm c) = some (.ref C) ∧ PySem.W.kitOne X.K (.ref C') (.ref C) = some b
  xks : ∀ c n, S.xar c = some n → ∃ C ns, xc c = some (C, ns) ∧ ns.length = n ∧ X.mg (g.cnm c) = some (.ref C) ∧ (n = 0 → XPl X.K C) ∧
    (n ≠ 0 → ∃ f fd ps, OexC X.K C ∧ PySem.W.findIn X.K (.ref C) "__init__" = some (some (.ref f)) ∧ PySem.W.typeIn X.K (.ref f) = some (.type "function") ∧ Binds X.K fd ps [] ∧ FnOk X.prog X.w X.K X.mg X.base (L2N.CX X.prog X.w) k f fd ps (spX C ns))
section
variable (S : Mn) (xc : Xc) (G : Gc) (W : WX)
def RD (t : T) : TE := fun σ H Q => ∃ X φ μ ε, Mt (G.wx X) φ μ H σ ε ∧ PX xc (G.wx X) W σ φ μ H (ev S t ε μ) fun p => QQ (G.wx X) φ μ H p.2 (frT t) p.1 Q
def BT (G : Gc) (φ : List Addr) (μ : Mem) (H : Hp) (p : D × Mem) (Q : Bool → Hp → Prop) : Prop := ∃ b, p.1 = .bl b ∧ ∀ H' φ', Ex φ μ H φ' p.2 H' → Ms G φ' p.2 H' → Q b H'
def RDT (t : T) : TT := fun σ H Q => ∃ X φ μ ε, Mt (G.wx X) φ μ H σ ε ∧ PX xc (G.wx X) W σ φ μ H (ev S t ε μ) fun p => BT (G.wx X) φ μ H p Q
def RDC (t : TO) : TT := fun σ H Q => ∃ X φ μ ε, Mt (G.wx X) φ μ H σ ε ∧ PX xc (G.wx X) W σ φ μ H (evc S t ε μ) fun p => BT (G.wx X) φ μ H p Q
def AT (G : Gc) (φ : List Addr) (μ : Mem) (H : Hp) (as : List D × Mem) (Q : List V → Hp → Prop) : Prop := ∀ vs H' φ', Ex φ μ H φ' as.2 H' → Ms G φ' as.2 H' → G.rps φ' as.2 H' vs as.1 → Q vs H'
def RDA (ts : Ts) : TA := fun σ H Q => ∃ X φ μ ε, Mt (G.wx X) φ μ H σ ε ∧ PX xc (G.wx X) W σ φ μ H (evs S ts ε μ) fun as => AT (G.wx X) φ μ H as Q
def RDO (t : DM.TO) : L2.TO := fun σ H Q => ∃ X φ μ ε, Mt (G.wx X) φ μ H σ ε ∧ PX xc (G.wx X) W σ φ μ H (evo S t ε μ) fun o => ∀ H' φ', Ex φ μ H φ' o.2 H' → Ms (G.wx X) φ' o.2 H' → Q o.1 H'
end
section
variable {X : Cx} {e : Expr} {t t' : TE}
theorem _root_.L2.PE.imp (h : PE X e t) (k : ∀ σ H Q, t' σ H Q → t σ H Q) : PE X e t' := ⟨fun pins s σ H Q I q => h.run pins s σ H Q I (k _ _ _ q)⟩
theorem _root_.L2.PT.imp {t t' : TT} (h : PT X e t) (k : ∀ σ H Q, t' σ H Q → t σ H Q) : PT X e t' := ⟨fun pins s σ H Q I q => h.run pins s σ H Q I (k _ _ _ q)⟩
theorem _root_.L2.PA.imp {es : List Expr} {t t' : TA} (h : PA X es t) (k : ∀ σ H Q, t' σ H Q → t σ H Q) : PA X es t' := ⟨fun p pins s σ H Q I q => h.run p pins s σ H Q I (k _ _ _ q)⟩
theorem _root_.L2.PO.imp {o : Option Expr} {t t' : L2.TO} (h : PO X o t) (k : ∀ σ H Q, t' σ H Q → t σ H Q) : PO X o t' := ⟨fun pins s σ H Q I q => h.run pins s σ H Q I (k _ _ _ q)⟩
theorem _root_.L2.PI.imp {tg : Expr} {t t' : TI} (h : PI X tg e t) (k : ∀ σ H Q, t' σ H Q → t σ H Q) : PI X tg e t' := ⟨fun pins s σ H Q I q => h.run pins s σ H Q I (k _ _ _ q)⟩
end
section
variable {G : Gc} {φ φ' : List Addr} {μ μ' : Mem} {H H' : Hp} {σ : L2.St} {ε : Ev}
theorem Mt.set (m : Mt G φ μ H σ ε) {i : Nat} {d : D} {v : V} (r : G.rp φ μ H v d) : Mt G φ μ H (σ.set i (some v)) (ε.set i (some d)) := by
  refine ⟨m.ms, fun j d' h => ?_, by simpa using m.len, m.ho⟩
  by_cases e : i = j
  · subst e
    rw [List.getElem?_set] at h
    simp at h
    obtain ⟨h1, rfl⟩ := h
    exact ⟨v, by rw [List.getElem?_set_self (by rw [m.len]; exact h1)], r⟩
  · rw [List.getElem?_set_ne e] at h
    obtain ⟨u, hu, cr⟩ := m.at_ j d' h
    exact ⟨u, by rw [List.getElem?_set_ne e]; exact hu, cr⟩
theorem Mt.unset (m : Mt G φ μ H σ ε) (i : Nat) (o : Option V) : Mt G φ μ H (σ.set i o) (ε.set i none) := by
  refine ⟨m.ms, fun j d' h => ?_, by simpa using m.len, m.ho⟩
  by_cases e : i = j
  · subst e
    rw [List.getElem?_set] at h
    simp at h
  · rw [List.getElem?_set_ne e] at h
    obtain ⟨u, hu, cr⟩ := m.at_ j d' h
    exact ⟨u, by rw [List.getElem?_set_ne e]; exact hu, cr⟩
theorem Mt.wipe (m : Mt G φ μ H σ ε) : ∀ vs : List Nat, Mt G φ μ H (L2.wipe σ vs) (wipeE ε vs)
  | [] => m
  | v :: vs => (Mt.wipe m vs).unset v none
theorem wipe_get {σ : L2.St} {j : Nat} : ∀ {vs : List Nat}, (L2.wipe σ vs)[j]? = if j ∈ vs then (if j < σ.length then some none else none) else σ[j]?
  | [] => by simp [L2.wipe]
  | v :: vs => by
    unfold L2.wipe
    by_cases e : v = j
    · subst e
      rw [List.getElem?_set]
      simp [wipe_length]
    · rw [List.getElem?_set_ne e, wipe_get]
      have : (j ∈ v :: vs) ↔ j ∈ vs := ⟨fun h => by rcases List.mem_cons.mp h with z | z; exact absurd z.symm e; exact z, List.mem_cons_of_mem _⟩
      simp only [this]
theorem wipe_eq {σ σ2 : L2.St} {vs : List Nat} (hl : σ2.length = σ.length) (h : ∀ j, j ∉ vs → σ2[j]? = (L2.wipe σ vs)[j]?) : L2.wipe σ2 vs = L2.wipe σ vs := by
  refine List.ext_getElem? fun j => ?_
  rw [wipe_get, wipe_get]
  by_cases hj : j ∈ vs
  · rw [if_pos hj, if_pos hj, hl]
  · rw [if_neg hj, if_neg hj, h j hj, wipe_get, if_neg hj]
end
section
variable {G : Gc} {φ φ' : List Addr} {μ μ' : Mem} {H H' : Hp} {a : Addr} {d : D} {v : V} {n : Nat}
theorem cn_fm {cl : Cls0} {K : PySem.W.Frag} {X X' : Addr → Prop} (h0 : ∀ o, H a = some o → H' a = some o) (p : Px φ φ') (k : ∀ a o, H a = some o → (¬ X a ∨ NoMut o) → H' a = some o) (x : ∀ a o, H a = some o → X' a → X a) (c : Cn cl K φ H X a d) : Cn cl K φ' H' X' a d := by
  cases d with
  | lst ds => obtain ⟨vs, h, r⟩ := c; exact ⟨vs, h0 _ h, Rps.fm p k x _ _ r⟩
  | dct ks ds =>
    rcases c with ⟨o, ws, h, q, r⟩ | c
    · exact .inl ⟨o, ws, h0 _ h, q, Rps.fm p k x _ _ r⟩
    · exact .inr (c.fm h0 fun vs es r => Rps.fm p k x _ _ r)
  | ins c' ds => obtain ⟨C, dx, ns, vs, h1, h2, h3, r⟩ := c; exact ⟨C, dx, ns, vs, h1, h2, h0 _ h3, Rps.fm p k x _ _ r⟩
  | _ => exact c.elim
/-- a fresh thing becomes a cell -/
theorem Ms.lay (m : Ms G φ μ H) (c : Cn G.cl G.K φ H (fun b => G.N φ μ b ∨ b = a) a d) (hc : ∀ (n : Nat) (e : D) (b : Addr), μ[n]? = some (some e) → φ[n]? = some b → Cn G.cl G.K φ H (fun b => G.N φ μ b ∨ b = a) b e) (hn : ¬ G.N φ μ a) : Ms G (φ ++ [a]) (μ ++ [some d]) H := by
  have old : ∀ {n : Nat} {d' : D} {b : Addr}, (μ ++ [some d])[n]? = some (some d') → (φ ++ [a])[n]? = some b → (μ[n]? = some (some d') ∧ φ[n]? = some b) ∨ (n = μ.length ∧ d' = d ∧ b = a) := by
    intro n d' b h1 h2
    by_cases q : n < μ.length
    · rw [List.getElem?_append_left q] at h1
      rw [List.getElem?_append_left (by rw [m.len]; exact q)] at h2
      exact .inl ⟨h1, h2⟩
    · rw [List.getElem?_append_right (by omega)] at h1
      rw [List.getElem?_append_right (by rw [m.len]; omega), m.len] at h2
      have : n - μ.length = 0 := by
        rcases Nat.eq_zero_or_pos (n - μ.length) with z | z
        · exact z
        · rw [List.getElem?_eq_none (by simp; omega)] at h1; cases h1
      rw [this] at h1 h2
      simp at h1 h2
      exact .inr ⟨by omega, h1.symm, h2.symm⟩
  have lv : ∀ b, Lv (φ ++ [a]) (μ ++ [some d]) b → Lv φ μ b ∨ b = a := fun b ⟨n, d', h1, h2⟩ => by
    rcases old h1 h2 with z | z
    · exact .inl ⟨n, d', z.1, z.2⟩
    · exact .inr z.2.2
  have nn : ∀ b, G.N (φ ++ [a]) (μ ++ [some d]) b → G.N φ μ b ∨ b = a := fun b z => by
    rcases z with z | z
    · rcases lv b z with z | z
      · exact .inl (.inl z)
      · exact .inr z
    · exact .inl (.inr z)
  have ca : ∃ o, H a = some o := let ⟨o, h, _⟩ := c.mut; ⟨o, h⟩
  refine ⟨by rw [List.length_append, List.length_append, m.len]; rfl, fun n d' b h1 h2 => ?_, fun n k d1 d2 b h1 h2 h3 h4 => ?_, m.xs, fun b z => ?_⟩
  · rcases old h1 h2 with z | ⟨_, rfl, rfl⟩
    · exact cn_fm (fun _ h => h) Px.app (fun _ _ h _ => h) (fun b _ _ z => nn b z) (hc _ _ _ z.1 z.2)
    · exact cn_fm (fun _ h => h) Px.app (fun _ _ h _ => h) (fun b _ _ z => nn b z) c
  · rcases old h1 h3 with z | z
    · rcases old h2 h4 with y | y
      · exact m.inj n k d1 d2 b z.1 y.1 z.2 y.2
      · exact absurd (Or.inl ⟨n, d1, z.1, y.2.2 ▸ z.2⟩) hn
    · rcases old h2 h4 with y | y
      · exact absurd (Or.inl ⟨k, d2, y.1, z.2.2 ▸ y.2⟩) hn
      · omega
  · rcases lv b z with z | z
    · exact m.nx b z
    · subst z; exact fun q => hn (.inr q)
theorem lv_lay (hl : φ.length = μ.length) {b : Addr} (h : Lv (φ ++ [a]) (μ ++ [some d]) b) : Lv φ μ b ∨ b = a := by
  obtain ⟨n, d', h1, h2⟩ := h
  by_cases q : n < μ.length
  · rw [List.getElem?_append_left q] at h1
    rw [List.getElem?_append_left (by omega)] at h2
    exact .inl ⟨n, d', h1, h2⟩
  · rw [List.getElem?_append_right (by omega)] at h1 h2
    have : n - φ.length = 0 := by
      rcases Nat.eq_zero_or_pos (n - φ.length) with z | z
      · exact z
      · rw [List.getElem?_eq_none (by simp; omega)] at h2; cases h2
    rw [this] at h2
    simp at h2
    exact .inr h2.symm
/-- .. seen from ahead -/
theorem Ex.lay (hl : φ.length = μ.length) (hn : H a = none) (e : Ex φ' μ' H φ μ H') : Ex φ' μ' H (φ ++ [a]) (μ ++ [some d]) H' :=
  ⟨e.px.trans Px.app, e.keep, fun b z => by
    rcases lv_lay hl z with z | z
    · exact e.lv b z
    · subst z; exact .inr hn, e.there⟩
/-- a cell is given up: its content is data from now on -/
theorem lv_fz {b : Addr} (h : Lv φ (μ.set n none) b) : Lv φ μ b := by
  obtain ⟨k, d', h1, h2⟩ := h
  by_cases q : n = k
  · subst q
    rw [List.getElem?_set] at h1
    simp at h1
  · rw [List.getElem?_set_ne q] at h1
    exact ⟨k, d', h1, h2⟩
theorem Ms.fz (m : Ms G φ μ H) (hd : μ[n]? = some (some d)) (ha : φ[n]? = some a) : Ms G φ (μ.set n none) H ∧ G.rp φ (μ.set n none) H (.ref a) d ∧ Ex φ μ H φ (μ.set n none) H := by
  have nn : ∀ b, G.N φ (μ.set n none) b → G.N φ μ b := fun b z => by
    rcases z with z | z
    · exact .inl (lv_fz z)
    · exact .inr z
  have nl : ¬ G.N φ (μ.set n none) a := fun z => by
    rcases z with z | z
    · obtain ⟨k, d', h1, h2⟩ := z
      by_cases q : n = k
      · subst q
        rw [List.getElem?_set] at h1
        simp at h1
      · rw [List.getElem?_set_ne q] at h1
        exact q (m.inj n k d d' a hd h1 ha h2)
    · exact m.nx a ⟨n, d, hd, ha⟩ z
  have cn : ∀ b e, Cn G.cl G.K φ H (G.N φ μ) b e → Cn G.cl G.K φ H (G.N φ (μ.set n none)) b e := fun b e c => c.same (Same.refl H) fun b _ _ z => nn b z
  refine ⟨⟨by rw [List.length_set]; exact m.len, fun k d' b h1 h2 => ?_, fun k j d1 d2 b h1 h2 h3 h4 => ?_, m.xs, fun b z => m.nx b (lv_fz z)⟩, ?_, ⟨Px.refl, fun _ _ h _ => h, fun b z => .inl (lv_fz z), fun _ h => h⟩⟩
  · by_cases q : n = k
    · subst q
      rw [List.getElem?_set] at h1
      simp at h1
    · rw [List.getElem?_set_ne q] at h1
      exact cn _ _ (m.live _ _ _ h1 h2)
  · by_cases q : n = k
    · subst q
      rw [List.getElem?_set] at h1
      simp at h1
    · by_cases q2 : n = j
      · subst q2
        rw [List.getElem?_set] at h2
        simp at h2
      · rw [List.getElem?_set_ne q] at h1
        rw [List.getElem?_set_ne q2] at h2
        exact m.inj k j d1 d2 b h1 h2 h3 h4
  · have c := cn _ _ (m.live _ _ _ hd ha)
    cases d with
    | lst ds => obtain ⟨vs, h1, r⟩ := c; exact .lst (.inl h1) nl r
    | dct ks ds =>
      rcases c with ⟨o, ws, h1, q, r⟩ | c
      · exact .dct (.inl h1) nl q r
      · exact c.rp nl
    | ins c' ds => obtain ⟨C, dx, ns, vs, h1, h2, h3, r⟩ := c; exact .ins h1 h3 nl h2 r
    | _ => exact c.elim
theorem Ms.fzs : ∀ (ds : List D) {μ : Mem} {vs : List V}, Ms G φ μ H → G.rps φ μ H vs ds → Ms G φ (fzs ds μ).2 H ∧ G.rps φ (fzs ds μ).2 H vs (fzs ds μ).1 ∧ Ex φ μ H φ (fzs ds μ).2 H
  | [], _, _, m, r => ⟨m, r, Ex.refl⟩
  | d :: ds, μ, _, m, .cons (v := w) h r => by
    have step : Ms G φ (drp μ d) H ∧ G.rp φ (drp μ d) H w (frz μ d) ∧ Ex φ μ H φ (drp μ d) H := by
      cases d with
      | cel q =>
        cases h with
        | cel ha =>
          unfold drp frz
          simp only
          split
          · rename_i e he
            split
            · exact m.fz he ha
            · exact ⟨m, .cel ha, Ex.refl⟩
          · exact ⟨m, .cel ha, Ex.refl⟩
      | _ => exact ⟨m, h, Ex.refl⟩
    obtain ⟨m1, r1, e1⟩ := step
    obtain ⟨m2, r2, e2⟩ := Ms.fzs ds m1 (Rps.ex m e1 r)
    exact ⟨m2, .cons (Rp.ex m1 e2 r1) r2, e1.trans e2⟩
theorem Ms.dpz {v : V} (m : Ms G φ μ H) (r : G.rp φ μ H v d) : Ms G φ (dpz d μ).2 H ∧ G.rp φ (dpz d μ).2 H v (dpz d μ).1 ∧ Ex φ μ H φ (dpz d μ).2 H := by
  cases d with
  | lst ds =>
    cases r with
    | lst h n r =>
      obtain ⟨m2, r2, e2⟩ := Ms.fzs ds m r
      refine ⟨m2, .lst h (fun z => n ?_) r2, e2⟩
      rcases z with z | z
      · rcases e2.lv _ z with z | z
        · exact .inl z
        · rcases h with h | ⟨u, h⟩ <;> (rw [z] at h; cases h)
      · exact .inr z
    | lstK h r =>
      obtain ⟨m2, r2, e2⟩ := Ms.fzs ds m r
      exact ⟨m2, .lstK h r2, e2⟩
  | _ => exact ⟨m, r, Ex.refl⟩
/-- a cell's content changes -/
theorem Ms.put (m : Ms G φ μ H) {o : HO} {e : D} (hd : μ[n]? = some (some d)) (ha : φ[n]? = some a) (hm : ¬ NoMut o) (c : ∀ H', H' a = some o → (∀ b u, b ≠ a → H b = some u → H' b = some u) → Cn G.cl G.K φ H' (G.N φ μ) a e) :
    Ms G φ (μ.set n (some e)) (upd H a o) ∧ Ex φ μ H φ (μ.set n (some e)) (upd H a o) := by
  have la : Lv φ μ a := ⟨n, d, hd, ha⟩
  have hlt : n < μ.length := (List.getElem?_eq_some_iff.mp hd).1
  have lv : ∀ b, Lv φ (μ.set n (some e)) b → Lv φ μ b := fun b ⟨k, d', h1, h2⟩ => by
    by_cases q : n = k
    · subst q
      rw [ha] at h2; cases h2; exact la
    · rw [List.getElem?_set_ne q] at h1
      exact ⟨k, d', h1, h2⟩
  have lv2 : ∀ b, Lv φ μ b → Lv φ (μ.set n (some e)) b := fun b ⟨k, d', h1, h2⟩ => by
    by_cases q : n = k
    · subst q
      exact ⟨n, e, by rw [List.getElem?_set_self hlt], h2⟩
    · exact ⟨k, d', by rw [List.getElem?_set_ne q]; exact h1, h2⟩
  have nn : ∀ b, G.N φ (μ.set n (some e)) b → G.N φ μ b := fun b z => z.imp (lv b) id
  have off : ∀ b u, b ≠ a → H b = some u → (upd H a o) b = some u := fun b u h1 h2 => by rw [upd_ne h1]; exact h2
  have kp : ∀ b u, H b = some u → (¬ G.N φ μ b ∨ NoMut u) → (upd H a o) b = some u := fun b u h1 h2 => off b u (fun z => m.nlv h1 h2 (z ▸ la)) h1
  refine ⟨⟨by rw [List.length_set]; exact m.len, fun k d' b h1 h2 => ?_, fun k j d1 d2 b h1 h2 h3 h4 => ?_, fun b z => ?_, fun b z => m.nx b (lv b z)⟩, ⟨Px.refl, fun b u h1 h2 => off b u (fun z => h2 (z ▸ la)) h1, fun b z => .inl (lv b z), fun b h => ?_⟩⟩
  · by_cases q : n = k
    · subst q
      rw [List.getElem?_set_self hlt] at h1
      cases h1
      rw [ha] at h2; cases h2
      exact (c (upd H a o) upd_same off).same (Same.refl _) fun b _ _ z => nn b z
    · rw [List.getElem?_set_ne q] at h1
      have nb : b ≠ a := fun z => q (m.inj n k d d' a hd h1 ha (z ▸ h2))
      exact cn_fm (fun u h => off b u nb h) Px.refl kp (fun b _ _ z => nn b z) (m.live _ _ _ h1 h2)
  · have f : ∀ {k : Nat} {d' : D}, (μ.set n (some e))[k]? = some (some d') → ∃ d2, μ[k]? = some (some d2) := fun {k d'} h => by
      by_cases q : n = k
      · subst q; exact ⟨d, hd⟩
      · rw [List.getElem?_set_ne q] at h; exact ⟨d', h⟩
    obtain ⟨e1, k1⟩ := f h1
    obtain ⟨e2, k2⟩ := f h2
    exact m.inj k j e1 e2 b k1 k2 h3 h4
  · by_cases q : b = a
    · subst q; rw [upd_same]; exact fun z => by cases z
    · rw [upd_ne q]; exact m.xs b z
  · by_cases q : b = a
    · subst q; rw [upd_same]; exact fun z => by cases z
    · rw [upd_ne q]; exact h
end
end DM
set_option Elab.async false
set_option linter.all false
set_option maxRecDepth 100000
set_option maxHeartbeats 4000000
namespace DM
open PySem L2 PySem.Spec PyProof.Rows
def starB : Expr → Bool | .Starred .. => true | _ => false
theorem star_cons {e : Expr} {es : List Expr} {env : Env} (h : starB e = false) : starEach (e :: es) env = (false, eval e env) :: starEach es env := by
  cases e <;> first | rfl | cases h
theorem star_map {env : Env} : ∀ {es : List Expr}, es.all (fun e => !starB e) = true → starEach es env = es.map fun e => (false, eval e env)
  | [], _ => rfl
  | e :: es, h => by
    rw [List.all_cons, Bool.and_eq_true] at h
    rw [star_cons (by simpa using h.1), star_map h.2]; rfl
theorem star_any {env : Env} {es : List Expr} {pos : Pos} (h : es.all (fun e => !starB e) = true) : (backTo pos (starEach es env)).any (·.1) = false := by
  rw [star_map h]
  unfold backTo
  simp
theorem star_all {env : Env} {es : List Expr} {pos : Pos} (h : es.all (fun e => !starB e) = true) : (backTo pos (starEach es env)).all (fun x => !x.1) = true := by
  rw [star_map h]
  unfold backTo
  simp
def baseB : Expr → Bool
  | .Call (.Name _ _) [] [] _ => false
  | _ => true
theorem base_of {o : Expr} {f : Str} {env : Env} {w : Sem Value} (h : baseB o = true) : attributeBase o f env w = w := by
  cases o with
  | Call fn args kws pos =>
    cases fn with
    | Name id p =>
      cases args with
      | nil =>
        cases kws with
        | nil => cases h
        | cons _ _ => rfl
      | cons _ _ => rfl
    | _ => rfl
  | _ => rfl
theorem meth_form {o : Expr} {m : Str} {apos pos : Pos} {args : List Expr} {env : Env} (hb : baseB o = true) (hl : (apos.endLine == pos.line) = true) (hs : args.all (fun e => !starB e) = true) (hn : args.length < 30) :
    eval (.Call (.Attribute o m apos) args [] pos) env = (do
      let ov ← eval o env
      standAt apos.atName
      let (f, first) ← holding [ov] (getMethod ov m (do return (← importBound o env).getD true))
      callWith pos f first (backTo pos (starEach args env)) (backToKw pos (keywordEach [] env))) := by
  rw [arm_eval_Call, base_of hb]
  have hf : methodCallForm (args.length + ([] : List Keyword).length) (backTo pos (starEach args env)) (backToKw pos (keywordEach [] env)) = true := by
    unfold methodCallForm
    rw [star_all hs]
    simp [backToKw, keywordEach, hn]
  unfold methodCall calleeOf methodCallPos
  rw [hf, hl]
  rfl
section
variable {X : Cx} {CX : CXT} {k : Nat} {f C : Addr} {fd : FuncData} {ps : List Str} {sp : Sp} {E : L2.St → XK} {x m : Str} {p pos apos : Pos} {e o : Expr} {es : List Expr} {ta : TE} {t : TA}
/-- f(e, ..), f() -/
theorem pe_call1 (F : FnOk X.prog X.w X.K X.mg X.base CX k f fd ps sp) (hr : Room k X.A) (hg : Gl X x) (hm : X.mg x = some (.ref f)) (hk : PySem.W.keepIn X.K (.ref f) = true) (hx : ∀ σ, PassesAt CX X σ (E σ))
    (ha : PA X (e :: es) t) (hdb : (x == ("__debug__" : Str)) = false) (h1 : starB e = false) (h2 : es.all (fun e => !starB e) = true) : PE X (.Call (.Name x p) (e :: es) [] pos) (fun σ H Q => t σ H fun vs H1 => ∃ dvs us, Vals dvs us ∧ L2.Binds X.K fd ps us ∧ sp (vs ++ dvs) H1 Q (E σ)) := by
  refine ⟨fun pins s σ H Q I h => ?_⟩
  refine wpAny_Call_Name_kw (ld_glob I hg hm ?_ hdb)
  refine PySem.W.callWith_K (h₀ := X.base) I.ok.mod.kin hk (thn (ha.run pos pins s σ H _ I h) fun us s1 ⟨vs, H1, I1, r, dvs, ws, hd, hb, q⟩ => ⟨I1.kIn, ?_⟩) (star_cons h1) (star_any h2)
  exact run_fnSD F hr hb hd (hx σ) I1 r q
theorem pe_call0' (F : FnOk X.prog X.w X.K X.mg X.base CX k f fd ps sp) (hr : Room k X.A) (hg : Gl X x) (hm : X.mg x = some (.ref f)) (hk : PySem.W.keepIn X.K (.ref f) = true) (hx : ∀ σ, PassesAt CX X σ (E σ))
    (hdb : (x == ("__debug__" : Str)) = false) : PE X (.Call (.Name x p) [] [] pos) (fun σ H Q => ∃ dvs us, Vals dvs us ∧ L2.Binds X.K fd ps us ∧ sp dvs H Q (E σ)) := by
  refine ⟨fun pins s σ H Q I h => ?_⟩
  obtain ⟨dvs, ws, hd, hb, q⟩ := h
  refine wpAny_Call_Name_kw (ld_glob I hg hm ?_ hdb)
  exact PySem.W.callWith_K0 I.kIn hk (run_fnSD (us := []) (vs := []) F hr hb hd (hx σ) I .nil q)
/-- C.m(e, ..), the method read off its class -/
theorem pe_ucl1 {mc : Value} (F : FnOk X.prog X.w X.K X.mg X.base CX k f fd ps sp) (hr : Room k X.A) (hg : Gl X x) (hm : X.mg x = some (.ref C)) (r : ClX.CRead X.K C mc) (kv : ClX.CVal X.K C mc m (.ref f) (.ref f)) (hk : PySem.W.keepIn X.K (.ref f) = true) (hx : ∀ σ, PassesAt CX X σ (E σ))
    (ha : PA X (e :: es) t) (hdb : (x == ("__debug__" : Str)) = false) (hl : (apos.endLine == pos.line) = true) (h1 : starB e = false) (h2 : es.all (fun e => !starB e) = true) (hn : (e :: es).length < 30) : PE X (.Call (.Attribute (.Name x p) m apos) (e :: es) [] pos) (fun σ H Q => t σ H fun vs H1 => ∃ dvs us, Vals dvs us ∧ L2.Binds X.K fd ps us ∧ sp (vs ++ dvs) H1 Q (E σ)) := by
  refine ⟨fun pins s σ H Q I h => ?_⟩
  refine PySem.W.methodCall_KW (thn ((pe_glob (v := .ref C) hg hm rfl hdb).run pins s σ H (fun u H1 => u = .ref C ∧ H1 = H) I ⟨rfl, rfl⟩) fun u s1 ⟨y, H1, I1, ry, ey, eH⟩ => ?_) (meth_form rfl hl (by rw [List.all_cons, h1, h2]; rfl) hn)
  subst ey eH
  obtain rfl : u = Value.ref C := ry
  refine PySem.W.method_cls I1.kIn r.ga (ClX.getcval_ok I1 r kv fun s2 I2 => ?_)
  refine PySem.W.callWith_K (first := []) (h₀ := X.base) I2.ok.mod.kin hk (thn (ha.run pos pins s2 σ H1 _ I2 h) fun us s3 ⟨vs, H2, I3, rv, dvs, ws, hd, hb, q⟩ => ⟨I3.kIn, ?_⟩) (star_cons h1) (star_any h2)
  exact run_fnSD F hr hb hd (hx σ) I3 rv q
/-- o.m(e, ..), the class and the method known when o is -/
theorem pe_meth1 (he : PE X o ta) (ha : PA X (e :: es) t) (hbo : baseB o = true) (hl : (apos.endLine == pos.line) = true) (h1 : starB e = false) (h2 : es.all (fun e => !starB e) = true) (hn : (e :: es).length < 30) :
    PE X (.Call (.Attribute o m apos) (e :: es) [] pos) (fun σ H Q => ta σ H fun x H1 => ∃ a dx fs C f k fd ps, ∃ sp : Sp, ∃ E : L2.St → XK, x = .ref a ∧ H1 a = some (.ins C dx fs) ∧ fs.lookup m = none ∧ L2.Cls X.K C ∧ Meth X.K C m f ∧ FnOk X.prog X.w X.K X.mg X.base (L2N.CX X.prog X.w) k f fd ps sp ∧ Room k X.A ∧ (∀ σ, PassesAt (L2N.CX X.prog X.w) X σ (E σ)) ∧
      t σ H1 fun vs H2 => ∃ dvs us, Vals dvs us ∧ L2.Binds X.K fd ps us ∧ sp (x :: vs ++ dvs) H2 Q (E σ)) := by
  refine ⟨fun pins s σ H Q I h => ?_⟩
  refine PySem.W.methodCall_KW (thn (he.run pins s σ H _ I h) fun u s1 ⟨x, H1, I1, rx, a, dx, fs, C, f, k, fd, ps, sp, E, ex, ea, l, c, hm, F, hr, hx, q⟩ => ?_) (meth_form hbo hl (by rw [List.all_cons, h1, h2]; rfl) hn)
  subst ex
  obtain rfl : u = Value.ref a := rx
  refine getmeth_ok I1 ea c hm l ?_
  refine PySem.W.callWith_K (first := [.ref a]) (h₀ := X.base) I.ok.mod.kin hm.kp (thn (ha.run pos pins s1 σ H1 _ I1 q) fun us s2 ⟨vs, H2, I2, r, dvs, ws, hd, hb, q2⟩ => ⟨I2.kIn, ?_⟩) (star_cons h1) (star_any h2)
  exact run_fnSD (us := .ref a :: us) (vs := .ref a :: vs) F hr hb hd (hx σ) I2 (.cons rfl r) q2
theorem pe_meth0' (he : PE X o ta) (hbo : baseB o = true) (hl : (apos.endLine == pos.line) = true) :
    PE X (.Call (.Attribute o m apos) [] [] pos) (fun σ H Q => ta σ H fun x H1 => ∃ a dx fs C f k fd ps, ∃ sp : Sp, ∃ E : L2.St → XK, x = .ref a ∧ H1 a = some (.ins C dx fs) ∧ fs.lookup m = none ∧ L2.Cls X.K C ∧ Meth X.K C m f ∧ FnOk X.prog X.w X.K X.mg X.base (L2N.CX X.prog X.w) k f fd ps sp ∧ Room k X.A ∧ (∀ σ, PassesAt (L2N.CX X.prog X.w) X σ (E σ)) ∧
      ∃ dvs us, Vals dvs us ∧ L2.Binds X.K fd ps us ∧ sp ([x] ++ dvs) H1 Q (E σ)) := by
  refine ⟨fun pins s σ H Q I h => ?_⟩
  refine PySem.W.methodCall_KW (thn (he.run pins s σ H _ I h) fun u s1 ⟨x, H1, I1, rx, a, dx, fs, C, f, k, fd, ps, sp, E, ex, ea, l, c, hm, F, hr, hx, q⟩ => ?_) (meth_form hbo hl rfl (by decide))
  subst ex
  obtain rfl : u = Value.ref a := rx
  obtain ⟨dvs, ws, hd, hb, q⟩ := q
  refine getmeth_ok I1 ea c hm l ?_
  exact PySem.W.callWith_K0 (first := [.ref a]) I1.kIn hm.kp (run_fnSD (us := [.ref a]) (vs := [.ref a]) F hr hb hd (hx σ) I1 (.cons rfl .nil) q)
/-- C(e, ..) -/
theorem run_makeS {pins : List (Addr × Obj)} {σ : L2.St} {H : Hp} {s : Shared} {Q : VK} {us ws : List Value} {vs dvs : List V} {E : L2.St → XK} (M : Mk X.K C f) (F : FnOk X.prog X.w X.K X.mg X.base (L2N.CX X.prog X.w) k f fd ps sp) (hr : Room (k + 1) X.A) (hd : Vals dvs ws) (hb : L2.Binds X.K fd ps ws)
    (hx : ∀ σ, PassesAt (L2N.CX X.prog X.w) X σ (E σ)) (I : Inv X pins σ H s) (r : Vals vs us)
    (h : ∀ x dx, H x = none → H dx = none → dx ≠ x → sp (.ref x :: vs ++ dvs) (upd (upd H dx (.own x)) x (.ins C dx [])) (fun v H2 => v = .non ∧ Q (.ref x) H2) (E σ)) :
    wpAny (model X.prog X.w) X.A (call (.ref C) us) (EP X pins σ Q) X.xe s := by
  have hq := h (s.heap.objs.size + 1) s.heap.objs.size (I.hok.fresh (Nat.le_succ _)) (I.hok.fresh (Nat.le_refl _)) (Nat.ne_of_lt (Nat.lt_succ_self _))
  have I2 := Inv.made (C := C) I
  have r2 : Vals ((V.ref (s.heap.objs.size + 1) :: vs) ++ dvs) ((Value.ref (s.heap.objs.size + 1) :: us) ++ ws) := Vals.append (.cons rfl r) hd
  have hl : ((Value.ref (s.heap.objs.size + 1) :: us) ++ ws).length = ps.length := by
    have e := r2.length
    rw [F.len _ _ _ _ hq] at e
    exact e.symm
  have hbb := hb _ (Value.ref (s.heap.objs.size + 1) :: us) I2.kIn hl
  refine wpAny_call (make_map (f := f) I.kIn M.makes M.init (beq_iff_eq.mp M.fn) (codeAny_mono (F.run _ X.stack _ _ ⟨Value.ref (s.heap.objs.size + 1) :: us, []⟩ ((Value.ref (s.heap.objs.size + 1) :: us) ++ ws) _ _ (E σ) (hr.make C us [])
    (I2.env0.make C us []) hbb r2 hq) fun r s' hq' => ?_))
  cases r with
  | error e => exact hx σ pins _ _ e s' I2 hq'
  | ok fl =>
    cases fl with
    | ret u =>
      obtain ⟨v, H', I3, rv, ev, q3⟩ := I2.after hq'
      subst ev
      exact ⟨rv, ⟨V.ref (s.heap.objs.size + 1), H', I3, rfl, q3⟩⟩
    | next => exact False.elim hq'
    | brk => exact False.elim hq'
    | cont => exact False.elim hq'
theorem pe_make1 {E : L2.St → XK} (M : Mk X.K C f) (F : FnOk X.prog X.w X.K X.mg X.base (L2N.CX X.prog X.w) k f fd ps sp) (hr : Room (k + 1) X.A) (hg : Gl X x) (hm : X.mg x = some (.ref C)) (hx : ∀ σ, PassesAt (L2N.CX X.prog X.w) X σ (E σ))
    (ha : PA X (e :: es) t) (hdb : (x == ("__debug__" : Str)) = false) (h1 : starB e = false) (h2 : es.all (fun e => !starB e) = true) :
    PE X (.Call (.Name x p) (e :: es) [] pos) (fun σ H Q => t σ H fun vs H1 => ∃ dvs us, Vals dvs us ∧ L2.Binds X.K fd ps us ∧ ∀ x dx, H1 x = none → H1 dx = none → dx ≠ x → sp (.ref x :: vs ++ dvs) (upd (upd H1 dx (.own x)) x (.ins C dx [])) (fun v H2 => v = .non ∧ Q (.ref x) H2) (E σ)) := by
  refine ⟨fun pins s σ H Q I h => ?_⟩
  refine wpAny_Call_Name_kw (ld_glob I hg hm ?_ hdb)
  refine PySem.W.callWith_K (h₀ := X.base) I.ok.mod.kin M.kp (thn (ha.run pos pins s σ H _ I h) fun us s1 ⟨vs, H1, I1, r, dvs, ws, hd, hb, q⟩ => ⟨I1.kIn, ?_⟩) (star_cons h1) (star_any h2)
  exact run_makeS M F hr hd hb hx I1 r q
theorem pe_make0' {E : L2.St → XK} (M : Mk X.K C f) (F : FnOk X.prog X.w X.K X.mg X.base (L2N.CX X.prog X.w) k f fd ps sp) (hr : Room (k + 1) X.A) (hg : Gl X x) (hm : X.mg x = some (.ref C)) (hx : ∀ σ, PassesAt (L2N.CX X.prog X.w) X σ (E σ))
    (hdb : (x == ("__debug__" : Str)) = false) :
    PE X (.Call (.Name x p) [] [] pos) (fun σ H Q => ∃ dvs us, Vals dvs us ∧ L2.Binds X.K fd ps us ∧ ∀ x dx, H x = none → H dx = none → dx ≠ x → sp ([.ref x] ++ dvs) (upd (upd H dx (.own x)) x (.ins C dx [])) (fun v H2 => v = .non ∧ Q (.ref x) H2) (E σ)) := by
  refine ⟨fun pins s σ H Q I h => ?_⟩
  obtain ⟨dvs, ws, hd, hb, q⟩ := h
  refine wpAny_Call_Name_kw (ld_glob I hg hm ?_ hdb)
  exact PySem.W.callWith_K0 I.kIn M.kp (run_makeS (us := []) (vs := []) M F hr hd hb hx I .nil q)
/-- C(e, .., k = v, ..) -/
theorem kw_all {pos : Pos} {env : Env} : ∀ {kws : List Keyword} {ks : List Str}, kws.map (·.arg) = ks.map some → (backToKw pos (keywordEach kws env)).all (·.1.isSome) = true ∧ (backToKw pos (keywordEach kws env)).filterMap (·.1) = ks ∧ (backToKw pos (keywordEach kws env)).any (·.1.isNone) = false
  | [], [], _ => ⟨rfl, rfl, rfl⟩
  | [], _ :: _, h => by cases h
  | _ :: _, [], h => by cases h
  | ⟨a, e, q⟩ :: kws, k :: ks, h => by
    simp only [List.map_cons, List.cons.injEq] at h
    obtain ⟨rfl, h⟩ := h
    obtain ⟨h1, h2, h3⟩ := kw_all (pos := pos) (env := env) h
    have e0 : backToKw pos (keywordEach (⟨some k, e, q⟩ :: kws) env) = (some k, do let v ← eval e env; standAt pos; pure v) :: backToKw pos (keywordEach kws env) := rfl
    refine ⟨?_, ?_, ?_⟩
    · rw [e0, List.all_cons, h1]; rfl
    · rw [e0, List.filterMap_cons]
      show k :: List.filterMap (·.1) (backToKw pos (keywordEach kws env)) = _
      rw [h2]
    · rw [e0, List.any_cons, h3]; rfl
theorem run_makeNS {pins : List (Addr × Obj)} {σ : L2.St} {H : Hp} {s : Shared} {Q : VK} {us ws : List Value} {vs zs : List V} {E : L2.St → XK} {n : Nat} {ks : List Str} {g : List Value → List Value → List Value} {gV : List V → List V → List V} (M : Mk X.K C f) (F : FnOk X.prog X.w X.K X.mg X.base (L2N.CX X.prog X.w) k f fd ps sp) (hr : Room (k + 1) X.A) (hb : L2.KBn X.K fd ps (n + 1) ks g gV)
    (hx : ∀ σ, PassesAt (L2N.CX X.prog X.w) X σ (E σ)) (I : Inv X pins σ H s) (r : Vals vs us) (rz : Vals zs ws) (l1 : vs.length = n) (l2 : zs.length = ks.length)
    (h : ∀ x dx, H x = none → H dx = none → dx ≠ x → sp (gV (.ref x :: vs) zs) (upd (upd H dx (.own x)) x (.ins C dx [])) (fun v H2 => v = .non ∧ Q (.ref x) H2) (E σ)) :
    wpAny (model X.prog X.w) X.A (call (.ref C) us (ks.zip ws)) (EP X pins σ Q) X.xe s := by
  have hq := h (s.heap.objs.size + 1) s.heap.objs.size (I.hok.fresh (Nat.le_succ _)) (I.hok.fresh (Nat.le_refl _)) (Nat.ne_of_lt (Nat.lt_succ_self _))
  have I2 := Inv.made (C := C) I
  have r1 : Vals (V.ref (s.heap.objs.size + 1) :: vs) (Value.ref (s.heap.objs.size + 1) :: us) := .cons rfl r
  have r2 := hb.rel r1 rz
  have e1 : (Value.ref (s.heap.objs.size + 1) :: us).length = n + 1 := r1.length.symm.trans (congrArg Nat.succ l1)
  have e2 : ws.length = ks.length := rz.length.symm.trans l2
  refine wpAny_call (make_map (f := f) I.kIn M.makes M.init (beq_iff_eq.mp M.fn) (codeAny_mono (F.run _ X.stack _ _ ⟨Value.ref (s.heap.objs.size + 1) :: us, ks.zip ws⟩ (g (Value.ref (s.heap.objs.size + 1) :: us) ws) _ _ (E σ) (hr.make C us (ks.zip ws))
    (I2.env0.make C us (ks.zip ws)) (hb.to _ (Value.ref (s.heap.objs.size + 1) :: us) ws I2.kIn e1 e2) r2 hq) fun r s' hq' => ?_))
  cases r with
  | error e => exact hx σ pins _ _ e s' I2 hq'
  | ok fl =>
    cases fl with
    | ret u =>
      obtain ⟨v, H', I3, rv, ev, q3⟩ := I2.after hq'
      subst ev
      exact ⟨rv, ⟨V.ref (s.heap.objs.size + 1), H', I3, rfl, q3⟩⟩
    | next => exact False.elim hq'
    | brk => exact False.elim hq'
    | cont => exact False.elim hq'
/-- what a call with keywords asks -/
def tMkw (K : PySem.W.Frag) (fd : FuncData) (ps : List Str) (C : Addr) (n m : Nat) (R : List V → List V) (sp : Sp) (E : L2.St → XK) (t tk : TA) : TE := fun σ H Q => t σ H fun vs H1 => tk σ H1 fun zs H2 => vs.length = n ∧ zs.length = m ∧ (vs ++ R zs).length + 1 = ps.length ∧ ∃ dvs us, Vals dvs us ∧ L2.Binds K fd ps us ∧
  ∀ x dx, H2 x = none → H2 dx = none → dx ≠ x → sp (.ref x :: (vs ++ R zs) ++ dvs) (upd (upd H2 dx (.own x)) x (.ins C dx [])) (fun v H3 => v = .non ∧ Q (.ref x) H3) (E σ)
theorem mkw_full {E : L2.St → XK} {σ : L2.St} {H : Hp} {Q : VK} {vs zs dvs : List V} {R : List V → List V} {gV : List V → List V → List V} (F : FnOk X.prog X.w X.K X.mg X.base (L2N.CX X.prog X.w) k f fd ps sp) (hg : ∀ vs zs, gV vs zs = vs ++ R zs) (l : (vs ++ R zs).length + 1 = ps.length)
    (h : ∀ x dx, H x = none → H dx = none → dx ≠ x → sp (.ref x :: (vs ++ R zs) ++ dvs) (upd (upd H dx (.own x)) x (.ins C dx [])) (fun v H3 => v = .non ∧ Q (.ref x) H3) (E σ)) :
    ∀ x dx, H x = none → H dx = none → dx ≠ x → sp (gV (.ref x :: vs) zs) (upd (upd H dx (.own x)) x (.ins C dx [])) (fun v H2 => v = .non ∧ Q (.ref x) H2) (E σ) := fun x dx h1 h2 h3 => by
  have q := h x dx h1 h2 h3
  have e := F.len _ _ _ _ q
  have d0 : dvs = [] := by
    rw [List.length_append, List.length_cons] at e
    exact List.length_eq_zero_iff.mp (by omega)
  subst d0
  rw [List.append_nil] at q
  rw [hg]
  exact q
theorem pe_mkw0 {E : L2.St → XK} {kws : List Keyword} {ks : List Str} {tk : TA} {g : List Value → List Value → List Value} {gV : List V → List V → List V} {R : List V → List V} (M : Mk X.K C f) (F : FnOk X.prog X.w X.K X.mg X.base (L2N.CX X.prog X.w) k f fd ps sp) (hr : Room (k + 1) X.A) (hg : Gl X x) (hm : X.mg x = some (.ref C)) (hb : L2.KBn X.K fd ps 1 ks g gV) (hR : ∀ vs zs, gV vs zs = vs ++ R zs)
    (hx : ∀ σ, PassesAt (L2N.CX X.prog X.w) X σ (E σ)) (hkw : PK X kws tk) (hks : kws.map (·.arg) = ks.map some) (hdb : (x == ("__debug__" : Str)) = false) :
    PE X (.Call (.Name x p) [] kws pos) (tMkw X.K fd ps C 0 ks.length R sp E tNil tk) := by
  obtain ⟨k1, k2, k3⟩ := kw_all (pos := pos) (env := X.env) hks
  refine ⟨fun pins s σ H Q I h => ?_⟩
  refine wpAny_Call_Name_kw (ld_glob I hg hm ?_ hdb)
  refine PySem.W.callWith_KW0 (h₀ := X.base) I.ok.mod.kin M.kp k1 ?_ (by rw [k3]; rfl)
  refine thn (hkw.run pos pins s σ H _ I h) fun ws s2 ⟨zs, H2, I2, rz, l1, l2, l3, dvs, us, _, _, q2⟩ => ⟨I2.kIn, ?_⟩
  rw [k2]
  exact run_makeNS (us := []) (vs := []) M F hr hb hx I2 .nil rz rfl l2 (mkw_full F hR l3 q2)
theorem pe_mkw {E : L2.St → XK} {n : Nat} {kws : List Keyword} {ks : List Str} {tk : TA} {g : List Value → List Value → List Value} {gV : List V → List V → List V} {R : List V → List V} (M : Mk X.K C f) (F : FnOk X.prog X.w X.K X.mg X.base (L2N.CX X.prog X.w) k f fd ps sp) (hr : Room (k + 1) X.A) (hg : Gl X x) (hm : X.mg x = some (.ref C)) (hb : L2.KBn X.K fd ps (n + 1) ks g gV) (hR : ∀ vs zs, gV vs zs = vs ++ R zs)
    (hx : ∀ σ, PassesAt (L2N.CX X.prog X.w) X σ (E σ)) (ha : PA X (e :: es) t) (hkw : PK X kws tk) (hks : kws.map (·.arg) = ks.map some) (hdb : (x == ("__debug__" : Str)) = false) (h1 : starB e = false) (h2 : es.all (fun e => !starB e) = true) :
    PE X (.Call (.Name x p) (e :: es) kws pos) (tMkw X.K fd ps C n ks.length R sp E t tk) := by
  obtain ⟨k1, k2, k3⟩ := kw_all (pos := pos) (env := X.env) hks
  refine ⟨fun pins s σ H Q I h => ?_⟩
  refine wpAny_Call_Name_kw (ld_glob I hg hm ?_ hdb)
  refine PySem.W.callWith_KW (h₀ := X.base) I.ok.mod.kin M.kp k1 (thn (ha.run pos pins s σ H _ I h) fun us s1 ⟨vs, H1, I1, r, q⟩ => ?_) (by rw [k3, Bool.or_false]; exact star_any (by rw [List.all_cons, h1, h2]; rfl)) (star_cons h1)
  refine thn (hkw.run pos pins s1 σ H1 _ I1 q) fun ws s2 ⟨zs, H2, I2, rz, l1, l2, l3, dvs, us, _, _, q2⟩ => ⟨I2.kIn, ?_⟩
  rw [k2]
  exact run_makeNS M F hr hb hx I2 r rz l1 l2 (mkw_full F hR l3 q2)
/-- a built-in called by its name -/
theorem pe_callB1 {id : String} {r : List V → Hp → VK → Prop} {ty : Bool} (hc : CallR X (if ty then .type id else .builtin id) r) (hg : Gl X x) (hm : X.mg x = none) (hv : bootBuiltins x = some (if ty then .type id else .builtin id)) (ha : PA X (e :: es) t) (hn : x ≠ "__name__") (hdb : (x == ("__debug__" : Str)) = false)
    (h1 : starB e = false) (h2 : es.all (fun e => !starB e) = true) : PE X (.Call (.Name x p) (e :: es) [] pos) (tCB r t) := by
  cases ty with
  | true => exact pe_callTy (T := id) hc hg hm hv ha hn hdb (star_cons h1) (star_any h2)
  | false => exact pe_callB (id := id) hc hg hm hv ha hn hdb (star_cons h1) (star_any h2)
end
end DM
set_option Elab.async false
set_option linter.all false
set_option maxRecDepth 100000
set_option maxHeartbeats 4000000
namespace DM
open PySem L2 PySem.Spec PyProof.Rows
section
variable {G : Gc} {φ φ' φ'' : List Addr} {μ μ' μ'' : Mem} {H H' H'' : Hp} {p : D × Mem} {as : List D × Mem}
theorem BT.back {Q : Bool → Hp → Prop} (q : BT G φ μ H p Q) (e : Ex φ μ H φ' μ' H') : BT G φ' μ' H' p Q := let ⟨b, h, q⟩ := q; ⟨b, h, fun H2 φ2 e2 m => q H2 φ2 (e.trans e2) m⟩
theorem AT.back {Q : List V → Hp → Prop} (q : AT G φ μ H as Q) (e : Ex φ μ H φ' μ' H') : AT G φ' μ' H' as Q := fun vs H2 φ2 e2 m r => q vs H2 φ2 (e.trans e2) m r
end
section
variable {S : Mn} {xc : Xc} {G : Gc} {W : WX} {X : Cx} {e e1 e2 e3 : Expr} {a b c : T} {pos : Pos}
/-- two values one behind the other, then something on both -/
theorem two {α : Type} {H : Hp} {σ : L2.St} {Y : Addr → Prop} {φ : List Addr} {μ : Mem} {ε : Ev} {k : D × Mem → D × Mem → DM.R α} {kk : α → Prop} {R : V → V → Hp → Prop} (m : Mt (G.wx Y) φ μ H σ ε)
    (p : PX xc (G.wx Y) W σ φ μ H ((ev S a ε μ).bind fun x => (ev S b ε x.2).bind fun y => k x y) kk)
    (fin : ∀ d1 μ1 d2 μ2 v u φ2 H2, Ex φ μ H φ2 μ2 H2 → Mt (G.wx Y) φ2 μ2 H2 σ ε → (G.wx Y).rp φ2 μ2 H2 v d1 → (G.wx Y).rp φ2 μ2 H2 u d2 → PX xc (G.wx Y) W σ φ2 μ2 H2 (k (d1, μ1) (d2, μ2)) kk → R v u H2) :
    RD S xc G W a σ H fun v H1 => RD S xc G W b σ H1 fun u H2 => R v u H2 := by
  refine ⟨Y, φ, μ, ε, m, px_mono (px_bind p) fun x px => ?_⟩
  intro v H1 φ1 e1 m1 r1 _
  refine ⟨Y, φ1, x.2, ε, m.ex e1 m1, px_mono (px_bind (px_ex e1 px)) fun y py => ?_⟩
  intro u H2 φ2 e2 m2 r2 _
  exact fin x.1 x.2 y.1 y.2 v u φ2 H2 (e1.trans e2) (m.ex (e1.trans e2) m2) (Rp.ex m1 e2 r1) r2 (px_ex e2 py)
theorem s_lit {d : D} {k : Nat} {cn : Const} (h : litB d cn = true) : PE X (.Constant cn k pos) (RD S xc G W (.lit d)) := by
  have go : ∀ v : V, (∀ φ H Y, Rp G.cl G.K φ H Y v d) → imm d = true → ∀ σ H Q, RD S xc G W (.lit d) σ H Q → tC v σ H Q := fun v r i σ H Q ⟨Y, φ, μ, ε, m, p⟩ =>
    qq_imm (G := G.wx Y) m.ms i p (r φ H (fun _ => False))
  cases d <;> cases cn <;> simp [litB] at h
  · exact pe_non.imp (go _ (fun _ _ _ => .non) rfl)
  · subst h; exact pe_bl.imp (go _ (fun _ _ _ => .bl _) rfl)
  · subst h; exact pe_int.imp (go _ (fun _ _ _ => .int _) rfl)
  · obtain ⟨h, k⟩ := h
    subst h; exact pe_str.imp (go _ (fun _ _ _ => .str _ k) rfl)
theorem s_bin {o : BO} (hK : X.K = G.K) (h1 : PE X e1 (RD S xc G W a)) (h2 : PE X e2 (RD S xc G W b)) : PE X (.BinOp e1 o.op e2 pos) (RD S xc G W (.bin o a b)) :=
  (pe_op (opR_bin o) h1 h2).imp fun σ H Q ⟨Y, φ, μ, ε, m, p⟩ => two m p fun d1 μ1 d2 μ2 v u φ2 H2 e m2 r1 r2 p2 => by
    obtain ⟨d, e3, q⟩ := px_opt p2
    rw [hK]
    exact bin_ok (G := G.wx Y) m2.ms r1 r2 e3 (q.back e)
theorem s_cmp {o : CO} (hK : X.K = G.K) (hh : G.cl.hs = fun k => k.hash X.w) (hu : X.A.units + 65 < cLine) (ho : behindInMarks o.op e2 = false) (h1 : PE X e1 (RD S xc G W a)) (h2 : PE X e2 (RD S xc G W b)) : PE X (.Compare e1 [o.op] [e2] pos) (RD S xc G W (.cmp o a b)) ∧ PT X (.Compare e1 [o.op] [e2] pos) (RDT S xc G W (.cmp o a b)) := by
  refine ⟨(pe_cmpR (opR_cmp hu o) h1 h2 ho).imp fun σ H Q ⟨Y, φ, μ, ε, m, p⟩ => two m p fun d1 μ1 d2 μ2 v u φ2 H2 e m2 r1 r2 p2 => ?_, (pt_cmpR (opR_cmp hu o) h1 h2 ho).imp fun σ H Q ⟨Y, φ, μ, ε, m, p⟩ => two m p fun d1 μ1 d2 μ2 v u φ2 H2 e m2 r1 r2 p2 => ?_⟩
  · obtain ⟨d, e3, q⟩ := px_opt p2
    rw [hK, ← hh]
    exact cmp_ok (G := G.wx Y) (fr := false) m2.ms r1 r2 e3 (q.back e)
  · obtain ⟨d, e3, k, hd, q⟩ := px_opt p2
    rw [hK, ← hh]
    refine cmp_ok (G := G.wx Y) (μ := μ2) (φ := φ2) (fr := false) m2.ms r1 r2 e3 fun v' H' φ' e' m' r' _ => ?_
    simp only at hd
    subst hd
    cases r' with
    | bl => exact ⟨k, rfl, q H' φ' (e.trans e') m'⟩
theorem s_neg (h1 : PE X e1 (RD S xc G W a)) : PE X (.UnaryOp .USub e1 pos) (RD S xc G W (.neg a)) :=
  (pe_un un_neg h1).imp fun σ H Q ⟨Y, φ, μ, ε, m, p⟩ => ⟨Y, φ, μ, ε, m, px_mono (px_bind p) fun x px v H1 φ1 e1 m1 r1 _ => by
    obtain ⟨d, μ1⟩ := x
    cases d with
    | int i =>
      cases r1
      exact ⟨i, rfl, qq_int (G := G.wx Y) m1 (QQ.back px e1)⟩
    | _ => exact px.elim⟩
/-- a value that is a truth, as a test -/
theorem s_test (h : PE X e (RD S xc G W a)) (he : ∀ whole, isTrue e X.env whole = (do let v ← whole; standAt e.pos; holding [v] (truthy v))) : PT X e (RDT S xc G W a) :=
  (pt_val h he).imp fun σ H Q ⟨Y, φ, μ, ε, m, p⟩ => ⟨Y, φ, μ, ε, m, px_mono p fun x ⟨b, hb, q⟩ v H1 φ1 e1 m1 r1 _ => by
    obtain ⟨d, μ1⟩ := x
    simp only at hb
    subst hb
    cases r1
    exact ⟨b, rfl, q _ _ e1 m1⟩⟩
theorem s_not (h : PE X e (RD S xc G W a)) : PE X (.UnaryOp .Not e pos) (RD S xc G W (.not a)) :=
  (pe_not h).imp fun σ H Q ⟨Y, φ, μ, ε, m, p⟩ => ⟨Y, φ, μ, ε, m, px_mono (px_bind p) fun x px v H1 φ1 e1 m1 r1 _ => by
    obtain ⟨d, μ1⟩ := x
    cases d with
    | bl i =>
      cases r1
      exact ⟨i, rfl, qq_bl (G := G.wx Y) m1 (QQ.back px e1)⟩
    | _ => exact px.elim⟩
theorem s_notT (h : PT X e (RDT S xc G W a)) : PT X (.UnaryOp .Not e pos) (RDT S xc G W (.not a)) :=
  (pt_not h).imp fun σ H Q ⟨Y, φ, μ, ε, m, p⟩ => ⟨Y, φ, μ, ε, m, px_mono (px_bind p) fun x px => by
    obtain ⟨d, μ1⟩ := x
    cases d with
    | bl i =>
      obtain ⟨b, hb, q⟩ := px
      cases hb
      exact ⟨i, rfl, q⟩
    | _ => exact px.elim⟩
theorem s_and {rest : List Expr} (h1 : PE X e1 (RD S xc G W a)) (h2 : PE X (.BoolOp .And (e2 :: rest) pos) (RD S xc G W b)) : PE X (.BoolOp .And (e1 :: e2 :: rest) pos) (RD S xc G W (.and a b)) :=
  (pe_and h1 h2).imp fun σ H Q ⟨Y, φ, μ, ε, m, p⟩ => ⟨Y, φ, μ, ε, m, px_mono (px_bind p) fun x px v H1 φ1 e1 m1 r1 _ => by
    obtain ⟨d, μ1⟩ := x
    cases d with
    | bl i =>
      cases r1
      refine ⟨i, rfl, ?_⟩
      cases i with
      | true => exact ⟨Y, φ1, μ1, ε, m.ex e1 m1, px_mono (px_ex e1 px) fun y py v H2 φ2 e2 m2 r2 _ => py v H2 φ2 (e1.trans e2) m2 r2 (fun z => by cases z)⟩
      | false => exact qq_bl (G := G.wx Y) m1 (QQ.back px e1)
    | _ => exact px.elim⟩
theorem s_or {rest : List Expr} (h1 : PE X e1 (RD S xc G W a)) (h2 : PE X (.BoolOp .Or (e2 :: rest) pos) (RD S xc G W b)) : PE X (.BoolOp .Or (e1 :: e2 :: rest) pos) (RD S xc G W (.or a b)) :=
  (pe_or h1 h2).imp fun σ H Q ⟨Y, φ, μ, ε, m, p⟩ => ⟨Y, φ, μ, ε, m, px_mono (px_bind p) fun x px v H1 φ1 e1 m1 r1 _ => by
    obtain ⟨d, μ1⟩ := x
    cases d with
    | bl i =>
      cases r1
      refine ⟨i, rfl, ?_⟩
      cases i with
      | true => exact qq_bl (G := G.wx Y) m1 (QQ.back px e1)
      | false => exact ⟨Y, φ1, μ1, ε, m.ex e1 m1, px_mono (px_ex e1 px) fun y py v H2 φ2 e2 m2 r2 _ => py v H2 φ2 (e1.trans e2) m2 r2 (fun z => by cases z)⟩
    | _ => exact px.elim⟩
theorem s_orv (hK : X.K = G.K) (h1 : PE X e1 (RD S xc G W a)) (h2 : PE X e2 (RD S xc G W b)) : PE X (.BoolOp .Or [e1, e2] pos) (RD S xc G W (.orv a b)) :=
  (pe_orT h1 (pe_one h2)).imp fun σ H Q ⟨Y, φ, μ, ε, m, p⟩ => ⟨Y, φ, μ, ε, m, px_mono (px_bind p) fun x px v H1 φ1 e1 m1 r1 _ => by
    obtain ⟨d, μ1⟩ := x
    have snd : PX xc (G.wx Y) W σ φ μ H (ev S b ε μ1) (fun p => QQ (G.wx Y) φ μ H p.2 false p.1 Q) → RD S xc G W b σ H1 Q := fun px =>
      ⟨Y, φ1, μ1, ε, m.ex e1 m1, px_mono (px_ex e1 px) fun y py v H2 φ2 e2 m2 r2 _ => py v H2 φ2 (e1.trans e2) m2 r2 (fun z => by cases z)⟩
    cases d with
    | non =>
      cases r1
      exact ⟨false, rfl, snd px⟩
    | tup xs =>
      obtain ⟨a', vs, rfl, hS, r⟩ := top_tup (G := G.wx Y) m1 r1 rfl
      have q : TruV X.K (.ref a') H1 (!vs.isEmpty) := by
        rw [hK]
        exact .inr (.inl ⟨vs, hS, rfl⟩)
      refine ⟨!vs.isEmpty, q, ?_⟩
      cases r with
      | nil => exact snd px
      | cons h r => exact px _ H1 φ1 e1 m1 r1 (fun z => by cases z)
    | _ => exact px.elim⟩
theorem s_andT {rest : List Expr} (h1 : PT X e1 (RDT S xc G W a)) (h2 : PW X (.BoolOp .And (e2 :: rest) pos) (RDT S xc G W b)) : PW X (.BoolOp .And (e1 :: e2 :: rest) pos) (RDT S xc G W (.and a b)) := by
  refine ⟨fun wh pins s σ H Q I ⟨Y, φ, μ, ε, m, p⟩ => (pw_and h1 h2).run wh pins s σ H Q I ⟨Y, φ, μ, ε, m, px_mono (px_bind p) fun x px => ?_⟩⟩
  obtain ⟨d, μ1⟩ := x
  cases d with
  | bl i =>
    refine ⟨i, rfl, fun H1 φ1 e1 m1 => ?_⟩
    cases i with
    | true =>
      rw [if_pos rfl]
      exact ⟨Y, φ1, μ1, ε, m.ex e1 m1, px_mono (px_ex e1 px) fun y q => q.back e1⟩
    | false =>
      rw [if_neg Bool.false_ne_true]
      obtain ⟨b, hb, q⟩ := px
      cases hb
      exact q _ _ e1 m1
  | _ => exact px.elim
theorem s_orT {rest : List Expr} (h1 : PT X e1 (RDT S xc G W a)) (h2 : PW X (.BoolOp .Or (e2 :: rest) pos) (RDT S xc G W b)) : PW X (.BoolOp .Or (e1 :: e2 :: rest) pos) (RDT S xc G W (.or a b)) := by
  refine ⟨fun wh pins s σ H Q I ⟨Y, φ, μ, ε, m, p⟩ => (pw_or h1 h2).run wh pins s σ H Q I ⟨Y, φ, μ, ε, m, px_mono (px_bind p) fun x px => ?_⟩⟩
  obtain ⟨d, μ1⟩ := x
  cases d with
  | bl i =>
    refine ⟨i, rfl, fun H1 φ1 e1 m1 => ?_⟩
    cases i with
    | true =>
      rw [if_pos rfl]
      obtain ⟨b, hb, q⟩ := px
      cases hb
      exact q _ _ e1 m1
    | false =>
      rw [if_neg Bool.false_ne_true]
      exact ⟨Y, φ1, μ1, ε, m.ex e1 m1, px_mono (px_ex e1 px) fun y q => q.back e1⟩
  | _ => exact px.elim
theorem pw_of {op : BoolOp} {vs : List Expr} {t : TT} (h : PT X (.BoolOp op vs pos) t) : PW X (.BoolOp op vs pos) t := ⟨fun wh pins s σ H Q I q => h.run pins s σ H Q I q⟩
theorem s_ite (h1 : PT X e1 (RDT S xc G W c)) (h2 : PE X e2 (RD S xc G W a)) (h3 : PE X e3 (RD S xc G W b)) : PE X (.IfExp e1 e2 e3 pos) (RD S xc G W (.ite c a b)) :=
  (pe_ifExp h1 h2 h3).imp fun σ H Q ⟨Y, φ, μ, ε, m, p⟩ => ⟨Y, φ, μ, ε, m, px_mono (px_bind p) fun x px => by
    obtain ⟨d, μ1⟩ := x
    cases d with
    | bl i =>
      refine ⟨i, rfl, fun H1 φ1 e1 m1 => ?_⟩
      cases i with
      | true =>
        rw [if_pos rfl]
        exact ⟨Y, φ1, μ1, ε, m.ex e1 m1, px_mono (px_ex e1 px) fun y py v H2 φ2 e2 m2 r2 _ => py v H2 φ2 (e1.trans e2) m2 r2 (fun z => by cases z)⟩
      | false =>
        rw [if_neg Bool.false_ne_true]
        exact ⟨Y, φ1, μ1, ε, m.ex e1 m1, px_mono (px_ex e1 px) fun y py v H2 φ2 e2 m2 r2 _ => py v H2 φ2 (e1.trans e2) m2 r2 (fun z => by cases z)⟩
    | _ => exact px.elim⟩
theorem s_idx (hK : X.K = G.K) (hh : G.cl.hs = fun k => k.hash X.w) (hu : X.A.units + 65 < cLine) (hp : PlainIx e2) (h1 : PE X e1 (RD S xc G W a)) (h2 : PE X e2 (RD S xc G W b)) : PE X (.Subscript e1 e2 pos) (RD S xc G W (.idx a b)) :=
  (pe_ix (ix_all hu) h1 h2 hp).imp fun σ H Q ⟨Y, φ, μ, ε, m, p⟩ => two m p fun d1 μ1 d2 μ2 v u φ2 H2 e m2 r1 r2 p2 => by
    obtain ⟨d, e3, q⟩ := px_opt p2
    rw [hK, ← hh]
    exact idx_ok (G := G.wx Y) m2.ms r1 r2 e3 (q.back e)
theorem s_slc {lo hi : TO} {l h : Option Expr} {p2 : Pos} (hK : X.K = G.K) (h1 : PE X e1 (RD S xc G W a)) (hl : PO X l (RDO S xc G W lo)) (hh : PO X h (RDO S xc G W hi)) : PE X (.Subscript e1 (.Slice l h none p2) pos) (RD S xc G W (.slc a lo hi)) :=
  (pe_slice slR_all h1 hl hh).imp fun σ H Q ⟨Y, φ, μ, ε, m, p⟩ => ⟨Y, φ, μ, ε, m, px_mono (px_bind p) fun x px v H1 φ1 e1 m1 r1 _ => by
    refine ⟨Y, φ1, x.2, ε, m.ex e1 m1, px_mono (px_bind (px_ex e1 px)) fun y py H2 φ2 e2 m2 => ?_⟩
    refine ⟨Y, φ2, y.2, ε, m.ex (e1.trans e2) m2, px_mono (px_bind (px_ex e2 py)) fun z pz H3 φ3 e3 m3 => ?_⟩
    obtain ⟨d, e4, q⟩ := px_opt pz
    rw [hK]
    exact slc_ok (G := G.wx Y) m3 (Rp.ex m1 (e2.trans e3) r1) e4 (QQ.back q ((e1.trans e2).trans e3))⟩
theorem s_noO : PO X none (RDO S xc G W .none) := po_none.imp fun σ H Q ⟨Y, φ, μ, ε, m, p⟩ => p H φ Ex.refl m.ms
theorem s_someO (h : PE X e (RD S xc G W a)) : PO X (some e) (RDO S xc G W (.some a)) := (po_some h).imp fun σ H Q ⟨Y, φ, μ, ε, m, p⟩ => ⟨Y, φ, μ, ε, m, px_mono (px_bind p) fun x px v H1 φ1 e1 m1 r1 _ => by
  obtain ⟨d, μ1⟩ := x
  cases d with
  | int i =>
    cases r1
    exact ⟨i, rfl, px H1 φ1 e1 m1⟩
  | _ => exact px.elim⟩
theorem s_nil : PA X [] (RDA S xc G W .nil) := pa_nil.imp fun σ H Q ⟨Y, φ, μ, ε, m, p⟩ => p [] H φ Ex.refl m.ms .nil
theorem s_cons {es : List Expr} {r : Ts} (hs : starB e = false) (h1 : PE X e (RD S xc G W a)) (h2 : PA X es (RDA S xc G W r)) : PA X (e :: es) (RDA S xc G W (.cons a r)) :=
  (pa_cons h1 h2 (star_cons hs)).imp fun σ H Q ⟨Y, φ, μ, ε, m, p⟩ => ⟨Y, φ, μ, ε, m, px_mono (px_bind p) fun x px v H1 φ1 e1 m1 r1 _ =>
    ⟨Y, φ1, x.2, ε, m.ex e1 m1, px_mono (px_bind (px_ex e1 px)) fun y py vs H2 φ2 e2 m2 rs => py _ _ _ (e1.trans e2) m2 (.cons (Rp.ex m1 e2 r1) rs)⟩⟩
theorem s_knil : PK X [] (RDA S xc G W .nil) := ⟨fun pos pins s σ H Q I ⟨Y, φ, μ, ε, m, p⟩ => pk_nil.run pos pins s σ H Q I (p [] H φ Ex.refl m.ms .nil)⟩
theorem s_kcons {kws : List Keyword} {r : Ts} {nm : Option Str} {kpos : Pos} (h1 : PE X e (RD S xc G W a)) (h2 : PK X kws (RDA S xc G W r)) : PK X (⟨nm, e, kpos⟩ :: kws) (RDA S xc G W (.cons a r)) :=
  ⟨fun pos pins s σ H Q I ⟨Y, φ, μ, ε, m, p⟩ => (pk_cons h1 h2).run pos pins s σ H Q I ⟨Y, φ, μ, ε, m, px_mono (px_bind p) fun x px v H1 φ1 e1 m1 r1 _ =>
    ⟨Y, φ1, x.2, ε, m.ex e1 m1, px_mono (px_bind (px_ex e1 px)) fun y py vs H2 φ2 e2 m2 rs => py _ _ _ (e1.trans e2) m2 (.cons (Rp.ex m1 e2 r1) rs)⟩⟩⟩
theorem s_tup {es : List Expr} {as : Ts} {k : Nat} (h : PA X es (RDA S xc G W as)) (hl : es.length ≤ 1000) (ha : ∀ {ε μ xs}, evs S as ε μ = .ok xs → xs.1.length = es.length) : PE X (.Tuple es k pos) (RD S xc G W (.tup as)) :=
  (pe_tup h).imp fun σ H Q ⟨Y, φ, μ, ε, m, p⟩ => ⟨Y, φ, μ, ε, m, by
    cases e : evs S as ε μ with
    | bad => simp only [ev, e, R.bind] at p; exact p.elim
    | ex x μ' => simp only [ev, e, R.bind] at p; exact p
    | ok xs =>
      simp only [ev, e, R.bind] at p
      intro vs H' φ' e' m' rs
      have hL : sizeLine = 16777216 := sizeLine_eq
      refine ⟨?_, new_tup (G := G.wx Y) m' rs (QQ.back p e')⟩
      rw [rs.length, ha e]; omega⟩
theorem s_lst {es : List Expr} {as : Ts} (h : PA X es (RDA S xc G W as)) (hl : es.length ≤ 1000) (ha : ∀ {ε μ xs}, evs S as ε μ = .ok xs → xs.1.length = es.length) : PE X (.List es pos) (RD S xc G W (.lst as)) :=
  (pe_lst h).imp fun σ H Q ⟨Y, φ, μ, ε, m, p⟩ => ⟨Y, φ, μ, ε, m, by
    cases e : evs S as ε μ with
    | bad => simp only [ev, e, R.bind] at p; exact p.elim
    | ex x μ' => simp only [ev, e, R.bind] at p; exact p
    | ok xs =>
      simp only [ev, e, R.bind] at p
      intro vs H' φ' e' m' rs
      have hL : sizeLine = 16777216 := sizeLine_eq
      refine ⟨?_, new_list (G := G.wx Y) m' rs (QQ.back p e')⟩
      rw [rs.length, ha e]; omega⟩
/-- a fresh thing becomes a cell -/
theorem new_imp {σ : L2.St} {H : Hp} {Q : VK} : RD S xc G W (.new a) σ H Q → RD S xc G W a σ H Q := fun ⟨Y, φ, μ, ε, m, p⟩ => ⟨Y, φ, μ, ε, m, px_mono (px_bind p) fun x px v H1 φ1 e1 m1 r1 tf => by
    obtain ⟨d, μ1⟩ := x
    simp only at px
    split at px
    · rename_i hf
      rw [Bool.and_eq_true] at hf
      have px : QQ (G.wx Y) φ μ H (μ1 ++ [some d]) false (.cel μ1.length) Q := px
      obtain ⟨A, hv, hn, hN, hc, ho⟩ := tf hf.1 (by have h2 := hf.2; cases d <;> first | trivial | cases h2)
      subst hv
      refine px _ H1 (φ1 ++ [A]) (e1.lay m1.len hn) (m1.lay hc ho hN) (.cel ?_) (fun z => by cases z)
      rw [← m1.len]
      simp
    · exact px.elim⟩
theorem s_new (h : PE X e (RD S xc G W a)) : PE X e (RD S xc G W (.new a)) := h.imp fun σ H Q q => new_imp q
/-- a cell is given up -/
theorem s_fz (h : PE X e (RD S xc G W a)) : PE X e (RD S xc G W (.fz a)) :=
  h.imp fun σ H Q ⟨Y, φ, μ, ε, m, p⟩ => ⟨Y, φ, μ, ε, m, px_mono (px_bind p) fun x px v H1 φ1 e1 m1 r1 tf => by
    obtain ⟨d, μ1⟩ := x
    cases d
    case cel n =>
      simp only at px
      split at px
      · rename_i d' hd
        cases r1 with
        | cel ha =>
          obtain ⟨m2, r2, e2⟩ := m1.fz hd ha
          obtain ⟨m3, r3, e3⟩ := m2.dpz r2
          have px : QQ (G.wx Y) φ μ H (dpz d' (μ1.set n none)).2 false (dpz d' (μ1.set n none)).1 Q := px
          exact px _ H1 φ1 (e1.trans (e2.trans e3)) m3 r3 (fun z => by cases z)
      · exact px.elim
    all_goals exact px v H1 φ1 e1 m1 r1 (fun z => by cases z)⟩
end
end DM
set_option Elab.async false
set_option linter.all false
set_option maxRecDepth 100000
set_option maxHeartbeats 4000000
namespace DM
open PySem L2 PySem.Spec PyProof.Rows
/-- an item: unknown, none any more, some -/
def itAt (w : Iv) (μ : Mem) (i : Nat) : Option (Option D) := match w with | .its ds => some ds[i]? | .liv n => livAt μ n i
/-- J yields w's items, one by one, while the state goes on -/
def Wk (G : Gc) (φ : List Addr) (μ : Mem) (H : Hp) (J : L2.It) (w : Iv) : Prop :=
  ∀ φ2 μ2 H2 Y, Ex φ μ H φ2 μ2 H2 → (∀ a, G.X a → Y a) → (∀ a, Y a → G.X a ∨ H a = none) → Ms (G.wx Y) φ2 μ2 H2 → ∀ i : Nat, (∀ d, itAt w μ2 i = some (some d) → J.go i H2 ∧ ∀ x H3, J.yld i H2 x H3 → Same H2 H3 ∧ (G.wx Y).rp φ2 μ2 H3 x d) ∧ (itAt w μ2 i = some none → J.stop i H2)
def RDI (S : Mn) (xc : Xc) (G : Gc) (W : WX) (it : It) : TI := fun σ H R => ∃ X φ μ ε, Mt (G.wx X) φ μ H σ ε ∧ PX xc (G.wx X) W σ φ μ H (evi S it ε μ) fun p => ∀ J H' φ', Ex φ μ H φ' p.2 H' → Ms (G.wx X) φ' p.2 H' → Wk (G.wx X) φ' p.2 H' J p.1 → R J H'
section
variable {X : Cx} {tg e : Expr} {te : TE}
theorem pi_any (he : PE X e te) : PI X tg e (fun σ H R => te σ H fun x H1 => (∃ a xs, x = .ref a ∧ SqL X.K H1 a xs ∧ R (Itl X.K a) H1) ∨ (∃ a xs, x = .ref a ∧ SqT X.K H1 a xs ∧ R (Itt X.K a) H1) ∨ (∃ z, x = .str z ∧ R (Its z) H1) ∨ ∃ a o xs, x = .ref a ∧ H1 a = some (isAt a o) ∧ (a == sysModules) = false ∧ DicF (fun k => k.hash X.w) o xs ∧ R (ItN a o xs) H1) := by
  refine ⟨fun pins s σ H R I h => ?_⟩
  refine thn (he.run pins s σ H _ I h) fun v s1 ⟨x, H1, I1, r1, q1⟩ => ?_
  rcases q1 with ⟨a, xs, rfl, hq, q⟩ | ⟨a, xs, rfl, hq, q⟩ | ⟨z, rfl, q⟩ | ⟨a, o, xs, rfl, h1, h2, h3, q⟩
  rotate_left 3
  · cases r1
    exact iter_N I1 h1 h2 h3 q
  · cases r1
    obtain ⟨its, rv, p, hz⟩ := I1.list hq
    refine wpAny_pyIter_list p.isList ?_
    refine ⟨s1.heap.objs.size, [s1.heap.objs.size], _, _, H1, rfl, I1.kept (t' := s1.toks) fun b o e => Heap.get?_push_of_some _ e, turn_list a _, ⟨_, Heap.get?_push_size _ rfl, rfl, rfl⟩, fun b hb => ?_, q⟩
    have e : b = s1.heap.objs.size := by simpa using hb
    subst e
    exact I1.fpOk (Nat.le_refl _) (I1.hok.fresh (Nat.le_refl _))
  · cases r1
    obtain ⟨its, rv, p, hz⟩ := I1.tuple hq
    refine wpAny_pyIter_tuple (show s1.heap.IsTuple a its.toArray from p) ?_
    refine ⟨s1.heap.objs.size, [s1.heap.objs.size], _, _, H1, rfl, I1.kept (t' := s1.toks) fun b o e => Heap.get?_push_of_some _ e, turn_tuple a _, ⟨_, Heap.get?_push_size _ rfl, rfl, rfl⟩, fun b hb => ?_, q⟩
    have e : b = s1.heap.objs.size := by simpa using hb
    subst e
    exact I1.fpOk (Nat.le_refl _) (I1.hok.fresh (Nat.le_refl _))
  · obtain ⟨t, rfl⟩ := r1
    cases ha : z.cps.all (· < 128)
    · exact wpAny_pyIter_wide ha (pi_one (tk := s1.toks) I1 _ (turn_str _ z t "str_iterator" (.inr rfl)) ⟨_, Heap.get?_push_size _ rfl, rfl, rfl⟩ q)
    · exact wpAny_pyIter_ascii ha (pi_one (tk := s1.toks) I1 _ (turn_str _ z t "str_ascii_iterator" (.inl rfl)) ⟨_, Heap.get?_push_size _ rfl, rfl, rfl⟩ q)
end
section
variable {G : Gc} {φ φ2 : List Addr} {μ μ2 : Mem} {H H2 : Hp} {ds : List D} {Y : Addr → Prop}
theorem rps_wx (m : Ms G φ μ H) (e : Ex φ μ H φ2 μ2 H2) (h2 : ∀ a, Y a → G.X a ∨ H a = none) {v : List V} {d : List D} (h : G.rps φ μ H v d) : (G.wx Y).rps φ2 μ2 H2 v d :=
  Rps.fm e.px (fun a o h n => e.keep a o h (m.nlv h n)) (fun a o h z => by
    rcases z with z | z
    · rcases e.lv a z with z | z
      · exact .inl z
      · rw [h] at z; cases z
    · rcases h2 a z with z | z
      · exact .inr z
      · rw [h] at z; cases z) _ _ h
def Fz (G : Gc) (φ : List Addr) (μ : Mem) (H : Hp) (a : Addr) (vs : List V) : Prop := (Rd H a (.lst vs) ∧ ¬ G.N φ μ a) ∨ KL G.K a vs
theorem Fz.sl {a : Addr} {vs : List V} (h : Fz G φ μ H a vs) : SL G.K H a vs := h.imp (·.1) id
theorem lst_fz {v : V} (h : G.rp φ μ H v (.lst ds)) : ∃ a vs, v = .ref a ∧ Fz G φ μ H a vs ∧ G.rps φ μ H vs ds := by
  cases h with
  | lst h n r => exact ⟨_, _, rfl, .inl ⟨h, n⟩, r⟩
  | lstK h r => exact ⟨_, _, rfl, .inr h, r⟩
theorem Fz.ex {a : Addr} {vs : List V} (h : Fz G φ μ H a vs) (e : Ex φ μ H φ2 μ2 H2) : SL G.K H2 a vs := by
  rcases h with ⟨h, n⟩ | h
  · have nl : ¬ Lv φ μ a := fun z => n (.inl z)
    rcases h with h | ⟨u, h⟩
    · exact .inl (.inl (e.keep _ _ h nl))
    · exact .inl (.inr ⟨u, e.keep _ _ h nl⟩)
  · exact .inr h
theorem Fz.ms {a : Addr} {vs : List V} (h : Fz G φ μ H a vs) (m : Ms G φ μ H) (e : Ex φ μ H φ2 μ2 H2) : Fz G φ2 μ2 H2 a vs := by
  rcases h with ⟨h, n⟩ | h
  · have nl : ¬ Lv φ μ a := fun z => n (.inl z)
    rcases h with h | ⟨u, h⟩
    · exact .inl ⟨.inl (e.keep _ _ h nl), fun z => n (e.nx h z)⟩
    · exact .inl ⟨.inr ⟨u, e.keep _ _ h nl⟩, fun z => n (e.nx h z)⟩
  · exact .inr h
theorem sqt_ex (m : Ms G φ μ H) {a : Addr} {vs : List V} (h : SqT G.K H a vs) (e : Ex φ μ H φ2 μ2 H2) : SqT G.K H2 a vs := by
  rcases h with (h | ⟨u, h⟩) | h
  · exact .inl (.inl (e.keep _ _ h (m.nlv h (.inr trivial))))
  · exact .inl (.inr ⟨u, e.keep _ _ h (m.nlv h (.inr trivial))⟩)
  · exact .inr h
theorem its_some {i : Nat} {d : D} (h : itAt (.its ds) μ i = some (some d)) : ds[i]? = some d := Option.some.inj h
theorem its_none {i : Nat} (h : itAt (.its ds) μ i = some none) : ds.length ≤ i := List.getElem?_eq_none_iff.mp (Option.some.inj h)
theorem wk_list (m : Ms G φ μ H) {a : Addr} {vs : List V} (h : Fz G φ μ H a vs) (r : G.rps φ μ H vs ds) : Wk G φ μ H (Itl G.K a) (.its ds) := by
  intro φ2 μ2 H2 Y e y1 y2 m2 i
  have h2 : SqL G.K H2 a vs := sl_sq (h.ex e)
  have r2 := rps_wx m e y2 r
  refine ⟨fun d hd => ?_, fun hl => ⟨vs, h2, by rw [r.length]; exact its_none hl⟩⟩
  obtain ⟨v, hv, rv⟩ := r2.get (its_some hd)
  refine ⟨⟨vs, v, h2, hv⟩, fun x H3 y => ?_⟩
  obtain ⟨rfl, y⟩ := y
  have := y vs h2
  rw [hv] at this
  cases this
  exact ⟨Same.refl _, rv⟩
theorem wk_tup (m : Ms G φ μ H) {a : Addr} {vs : List V} (h : SqT G.K H a vs) (r : G.rps φ μ H vs ds) : Wk G φ μ H (Itt G.K a) (.its ds) := by
  intro φ2 μ2 H2 Y e y1 y2 m2 i
  have h2 : SqT G.K H2 a vs := sqt_ex m h e
  have r2 := rps_wx m e y2 r
  refine ⟨fun d hd => ?_, fun hl => ⟨vs, h2, by rw [r.length]; exact its_none hl⟩⟩
  obtain ⟨v, hv, rv⟩ := r2.get (its_some hd)
  refine ⟨⟨vs, v, h2, hv⟩, fun x H3 y => ?_⟩
  obtain ⟨rfl, y⟩ := y
  have := y vs h2
  rw [hv] at this
  cases this
  exact ⟨Same.refl _, rv⟩
theorem wk_liv {a : Addr} {n : Nat} (h : φ[n]? = some a) : Wk G φ μ H (Itl G.K a) (.liv n) := by
  intro φ2 μ2 H2 Y e y1 y2 m2 i
  have h2 := e.px _ _ h
  have key : ∀ o, livAt μ2 n i = some o → ∃ ds vs, H2 a = some (.lst vs) ∧ (G.wx Y).rps φ2 μ2 H2 vs ds ∧ ds[i]? = o := fun o ho => by
    unfold livAt at ho
    split at ho
    · rename_i ds q
      obtain ⟨vs, k1, k2⟩ := m2.live _ _ _ q h2
      exact ⟨ds, vs, k1, k2, Option.some.inj ho⟩
    · cases ho
  refine ⟨fun d hd => ?_, fun hl => ?_⟩
  · obtain ⟨ds, vs, k1, k2, k3⟩ := key _ hd
    have k4 : SqL G.K H2 a vs := .inl (.inl k1)
    obtain ⟨v, hv, rv⟩ := k2.get k3
    refine ⟨⟨vs, v, k4, hv⟩, fun x H3 y => ?_⟩
    obtain ⟨rfl, y⟩ := y
    have := y vs k4
    rw [hv] at this
    cases this
    exact ⟨Same.refl _, rv⟩
  · obtain ⟨ds, vs, k1, k2, k3⟩ := key _ hl
    refine ⟨vs, .inl (.inl k1), ?_⟩
    rw [k2.length]; exact List.getElem?_eq_none_iff.mp k3
theorem wk_str {x : List Nat} (k : okS x = true) : Wk G φ μ H (Its (mkS x)) (.its (x.map fun s => .str [s])) := by
  intro φ2 μ2 H2 Y e0 y1 y2 m2 i
  have hl : (mkS x).cps.size = x.length := by simp [mkS]
  refine ⟨fun d hd => ?_, fun h => by show (mkS x).cps.size ≤ i; rw [hl]; simpa using its_none h⟩
  have hd := its_some hd
  rw [List.getElem?_map] at hd
  cases e : x[i]? with
  | none => rw [e] at hd; cases hd
  | some s =>
    rw [e] at hd
    cases hd
    refine ⟨by show i < (mkS x).cps.size; rw [hl]; exact (List.getElem?_eq_some_iff.mp e).1, fun y H3 h => ?_⟩
    obtain ⟨rfl, u, hu, rfl⟩ := h
    have : (mkS x).cps[i]? = some s := by simpa [mkS] using e
    rw [this] at hu
    cases hu
    exact ⟨Same.refl _, .str [s] (okS_get k e)⟩
theorem wk_rng {lo : Int} {n : Nat} : Wk G φ μ H (Itr lo n) (.its (rngD lo n)) := by
  intro φ2 μ2 H2 Y e y1 y2 m2 i
  refine ⟨fun d hd => ?_, fun h => by show n ≤ i; simpa [rngD] using its_none h⟩
  have hd := its_some hd
  unfold rngD at hd
  rw [List.getElem?_map] at hd
  cases e : (List.range n)[i]? with
  | none => rw [e] at hd; cases hd
  | some s =>
    rw [e] at hd
    cases hd
    have hi : i < n := by simpa using (List.getElem?_eq_some_iff.mp e).1
    have hs : s = i := by
      rw [List.getElem?_range hi] at e
      exact (Option.some.inj e).symm
    subst hs
    refine ⟨hi, fun y H3 h => ?_⟩
    obtain ⟨rfl, rfl⟩ := h
    exact ⟨Same.refl _, .int _⟩
theorem wk_enm (m : Ms G φ μ H) {a : Addr} {vs : List V} (h : Fz G φ μ H a vs) (r : G.rps φ μ H vs ds) : Wk G φ μ H (Ite G.K a) (.its (enmD ds)) := by
  intro φ2 μ2 H2 Y e y1 y2 m2 i
  have h2 : SqL G.K H2 a vs := sl_sq (h.ex e)
  have r2 := rps_wx m e y2 r
  refine ⟨fun d hd => ?_, fun hl => ⟨vs, h2, by rw [r.length]; simpa [enmD] using its_none hl⟩⟩
  have hd := its_some hd
  unfold enmD at hd
  rw [List.getElem?_map, List.getElem?_zipIdx] at hd
  cases e : ds[i]? with
  | none => rw [e] at hd; cases hd
  | some s =>
    rw [e] at hd
    simp at hd
    subst hd
    obtain ⟨v, hv, rv⟩ := r2.get e
    refine ⟨⟨vs, v, h2, hv⟩, fun x H3 y => ?_⟩
    obtain ⟨T, x', rfl, hT, rfl, y⟩ := y
    have := y vs h2
    rw [hv] at this
    cases this
    refine ⟨same_upd hT, .tup (.inl (.inl upd_same)) (.cons (.int _) (.cons (Rp.mono (same_upd hT) (fun _ _ _ z => z) _ _ rv) .nil))⟩
theorem wk_zipS (m : Ms G φ μ H) {b : Addr} {x : List Nat} {ws : List V} {es : List D} (k : okS x = true) (h' : Fz G φ μ H b ws) (r' : G.rps φ μ H ws es) : Wk G φ μ H (Itzs G.K (mkS x) b) (.its (zpD (x.map fun s => .str [s]) es)) := by
  intro φ2 μ2 H2 Y e y1 y2 m2 i
  have h2' : SqL G.K H2 b ws := sl_sq (h'.ex e)
  have r2' := rps_wx m e y2 r'
  have hl : (mkS x).cps.size = x.length := by simp [mkS]
  refine ⟨fun d hd => ?_, fun hl2 => ⟨ws, h2', by
    have := its_none hl2
    rw [r'.length, hl]
    simp [zpD] at this
    omega⟩⟩
  have hd := its_some hd
  unfold zpD at hd
  rw [List.getElem?_map] at hd
  cases e : ((x.map fun s => D.str [s]).zip es)[i]? with
  | none => rw [e] at hd; cases hd
  | some s =>
    rw [e] at hd
    simp at hd
    subst hd
    rw [List.getElem?_zip_eq_some] at e
    obtain ⟨e1, e2⟩ := e
    rw [List.getElem?_map] at e1
    cases hx : x[i]? with
    | none => rw [hx] at e1; cases e1
    | some c =>
      rw [hx] at e1
      have e1 : D.str [c] = s.1 := Option.some.inj e1
      obtain ⟨u, hu, ru⟩ := r2'.get e2
      refine ⟨⟨by rw [hl]; exact (List.getElem?_eq_some_iff.mp hx).1, ws, u, h2', hu⟩, fun v H3 y => ?_⟩
      obtain ⟨T, c', y', rfl, hT, rfl, f1, f2⟩ := y
      have f2 := f2 ws h2'
      rw [hu] at f2; cases f2
      have : (mkS x).cps[i]? = some c := by simpa [mkS] using hx
      rw [this] at f1; cases f1
      have sm : Same H2 (upd H2 T (.tup [.str ⟨#[c]⟩, u])) := fun b o q => by rw [upd_ne (ne_of_none q hT)]; exact q
      refine ⟨sm, .tup (.inl (.inl upd_same)) (.cons ?_ (.cons (Rp.mono sm (fun _ _ _ z => z) _ _ ru) .nil))⟩
      rw [← e1]
      exact .str [c] (okS_get k hx)
theorem wk_zip (m : Ms G φ μ H) {a b : Addr} {vs ws : List V} {es : List D} (h : Fz G φ μ H a vs) (r : G.rps φ μ H vs ds) (h' : Fz G φ μ H b ws) (r' : G.rps φ μ H ws es) : Wk G φ μ H (Itz G.K a b) (.its (zpD ds es)) := by
  intro φ2 μ2 H2 Y e y1 y2 m2 i
  have h2 : SqL G.K H2 a vs := sl_sq (h.ex e)
  have h2' : SqL G.K H2 b ws := sl_sq (h'.ex e)
  have r2 := rps_wx m e y2 r
  have r2' := rps_wx m e y2 r'
  refine ⟨fun d hd => ?_, fun hl => ⟨vs, ws, h2, h2', by
    have := its_none hl
    rw [r.length, r'.length]
    simp [zpD] at this
    omega⟩⟩
  have hd := its_some hd
  unfold zpD at hd
  rw [List.getElem?_map] at hd
  cases e : (ds.zip es)[i]? with
  | none => rw [e] at hd; cases hd
  | some s =>
    rw [e] at hd
    simp at hd
    subst hd
    rw [List.getElem?_zip_eq_some] at e
    obtain ⟨v, hv, rv⟩ := r2.get e.1
    obtain ⟨u, hu, ru⟩ := r2'.get e.2
    refine ⟨⟨vs, ws, v, u, h2, h2', hv, hu⟩, fun x H3 y => ?_⟩
    obtain ⟨T, x', x2, rfl, hT, rfl, y, y2⟩ := y
    have := y vs h2
    rw [hv] at this
    cases this
    have := y2 ws h2'
    rw [hu] at this
    cases this
    exact ⟨same_upd hT, .tup (.inl (.inl upd_same)) (.cons (Rp.mono (same_upd hT) (fun _ _ _ z => z) _ _ rv) (.cons (Rp.mono (same_upd hT) (fun _ _ _ z => z) _ _ ru) .nil))⟩
theorem wk_zipLT (m : Ms G φ μ H) {a b : Addr} {vs ws : List V} {es : List D} (h : Fz G φ μ H a vs) (r : G.rps φ μ H vs ds) (h' : SqT G.K H b ws) (r' : G.rps φ μ H ws es) : Wk G φ μ H (ItzLT G.K a b) (.its (zpD ds es)) := by
  intro φ2 μ2 H2 Y e y1 y2 m2 i
  have h2 : SqL G.K H2 a vs := sl_sq (h.ex e)
  have h2' : SqT G.K H2 b ws := sqt_ex m h' e
  have r2 := rps_wx m e y2 r
  have r2' := rps_wx m e y2 r'
  refine ⟨fun d hd => ?_, fun hl => ⟨vs, ws, h2, h2', by
    have := its_none hl
    rw [r.length, r'.length]
    simp [zpD] at this
    omega⟩⟩
  have hd := its_some hd
  unfold zpD at hd
  rw [List.getElem?_map] at hd
  cases e : (ds.zip es)[i]? with
  | none => rw [e] at hd; cases hd
  | some s =>
    rw [e] at hd
    simp at hd
    subst hd
    rw [List.getElem?_zip_eq_some] at e
    obtain ⟨v, hv, rv⟩ := r2.get e.1
    obtain ⟨u, hu, ru⟩ := r2'.get e.2
    refine ⟨⟨vs, ws, v, u, h2, h2', hv, hu⟩, fun x H3 y => ?_⟩
    obtain ⟨T, x', x2, rfl, hT, rfl, y, y2⟩ := y
    have := y vs h2
    rw [hv] at this
    cases this
    have := y2 ws h2'
    rw [hu] at this
    cases this
    exact ⟨same_upd hT, .tup (.inl (.inl upd_same)) (.cons (Rp.mono (same_upd hT) (fun _ _ _ z => z) _ _ rv) (.cons (Rp.mono (same_upd hT) (fun _ _ _ z => z) _ _ ru) .nil))⟩
theorem wk_N (m : Ms G φ μ H) {a : Addr} {o : Obj} {xs : List Ent} {ks : List D} (h : H a = some (isAt a o)) (n : ¬ G.N φ μ a) (r : G.rps φ μ H (xs.map (·.2.1)) ks) : Wk G φ μ H (ItN a o xs) (.its ks) := by
  intro φ2 μ2 H2 Y e y1 y2 m2 i
  have h2 : H2 a = some (isAt a o) := e.keep _ _ h fun z => n (.inl z)
  have r2 := rps_wx m e y2 r
  have hl : xs.length = ks.length := by have := r.length; rwa [List.length_map] at this
  refine ⟨fun d hd => ?_, fun hn => ⟨h2, by rw [hl]; exact its_none hn⟩⟩
  obtain ⟨v, hv, rv⟩ := r2.get (its_some hd)
  rw [List.getElem?_map] at hv
  obtain ⟨x, hx, rfl⟩ := Option.map_eq_some_iff.mp hv
  refine ⟨⟨h2, (List.getElem?_eq_some_iff.mp hx).1⟩, fun y H3 z => ?_⟩
  obtain ⟨rfl, x', hx', rfl⟩ := z
  rw [hx] at hx'
  cases hx'
  exact ⟨Same.refl _, rv⟩
theorem seq_ok {x : V} {d : D} {w : Iv} {R : L2.It → Hp → Prop} (m : Ms G φ μ H) (h : G.rp φ μ H x d) (e : seqE μ d = some w) (q : ∀ J, Wk G φ μ H J w → R J H) :
    (∃ a xs, x = .ref a ∧ SqL G.K H a xs ∧ R (Itl G.K a) H) ∨ (∃ a xs, x = .ref a ∧ SqT G.K H a xs ∧ R (Itt G.K a) H) ∨ (∃ z, x = .str z ∧ R (Its z) H) ∨ ∃ a o xs, x = .ref a ∧ H a = some (isAt a o) ∧ (a == sysModules) = false ∧ DicF G.cl.hs o xs ∧ R (ItN a o xs) H := by
  cases d with
  | dct ks vs =>
    simp only [seqE] at e
    split at e
    · rename_i t
      cases Option.some.inj e
      cases h with
      | dcn h n hd f t k kr r => exact .inr (.inr (.inr ⟨_, _, _, rfl, h, hd, f, q _ (wk_N m h n kr)⟩))
      | dct h n k r =>
        obtain ⟨kvs, _, e1, _⟩ := k
        rw [e1] at t
        cases kvs with
        | nil => cases t
        | cons p ps =>
          obtain ⟨k, v⟩ := p
          cases k <;> simp [tkB, kD, tupK] at t
    · cases e
  | lst ds =>
    cases Option.some.inj e
    obtain ⟨a, vs, rfl, f, r⟩ := lst_fz h
    exact .inl ⟨a, vs, rfl, sl_sq f.sl, q _ (wk_list m f r)⟩
  | tup ds =>
    cases Option.some.inj e
    cases h with
    | tup h r => exact .inr (.inl ⟨_, _, rfl, h, q _ (wk_tup m h r)⟩)
  | str s =>
    cases Option.some.inj e
    cases h with
    | str _ k => exact .inr (.inr (.inl ⟨_, rfl, q _ (wk_str k)⟩))
  | cel n =>
    cases h with
    | cel h =>
      simp only [seqE] at e
      split at e
      · rename_i ds k
        cases Option.some.inj e
        obtain ⟨vs, h1, r⟩ := m.live _ _ _ k h
        exact .inl ⟨_, vs, rfl, .inl (.inl h1), q _ (wk_liv h)⟩
      · cases e
  | _ => cases e
end
/-- (a, b, ..) = a tuple or a list of that length -/
def gTL (K : PySem.W.Frag) (n : Nat) (t : TGs) : TG := fun v σ H Q => ∃ a xs, v = .ref a ∧ (SqT K H a xs ∨ SqL K H a xs) ∧ xs.length = n ∧ t xs σ H Q
theorem pg_tl {X : Cx} {pos : Pos} {es : List Expr} {k : Nat} {t : TGs} {n : Nat} (hc : X.calm = true) (h : PGs X es t)
    (hn : (assignEach es X.env).length = n) (hst : (assignEach es X.env).findIdx? (·.1) = none) : PG X (.Tuple es k pos) (gTL X.K n t) := by
  refine ⟨fun pins s σ H v u Q I r hw => ?_⟩
  obtain ⟨a, xs, e1, hq | hq, hl, hw⟩ := hw
  · exact (pg_tup hc h hn hst).run pins s σ H v u Q I r ⟨a, xs, e1, hq, hl, hw⟩
  · subst e1
    cases r
    obtain ⟨its, rv, p, hz⟩ := I.list hq
    rw [PyProof.Rows.assign_Tuple]
    refine wpAny_bind (wpAny_standAt ?_)
    unfold unpack
    rw [show (assignEach es X.env).length = its.toArray.size by simp [hn, ← hl, rv.length], hst]
    refine wpAny_bind (wpAny_holding (PySem.W.kun_itemsOf (I.ok.hd hc) p.isList fun h' hx => ?_))
    have I1 : Inv X pins σ H { s with heap := h' } := I.kept (t' := s.toks) fun b o e => hx b o (Nat.ne_of_lt (Heap.lt_size e)) e
    exact h.run pins _ σ H xs _ Q I1 (by simpa using rv) hw
/-- a target takes a value: the slots' data behind -/
def gTg (K : PySem.W.Frag) (tg : Tg) : TG := match tg with
  | .nm i => gName i
  | .tp is => gTL K is.length (gNames is)
where gNames : List Nat → TGs
  | [] => gNil
  | i :: is => gCons (gName i) (gNames is)
theorem pg_tg {X : Cx} {N : List Str} {st : Str → Bool} (hN : X.N = N) (nd : N.Nodup) (hc : X.calm = true) (hs : ∀ x, st x = true → Loc X.env.scope x ∧ (X.fn x = true ∨ X.env.scope.names.lookup x = some .local)) : ∀ {tg : Tg} {e : Expr}, tgB N st tg e = true → PG X e (gTg X.K tg)
  | .nm i, e, h => by
    cases e with
    | Name x pos =>
      simp only [tgB, Bool.and_eq_true, decide_eq_true_eq] at h
      exact pg_name (by rw [hN]; exact nd) (by rw [hN]; exact h.1) (hs x h.2).1 (hs x h.2).2
    | _ => simp [tgB] at h
  | .tp is, e, h => by
    cases e with
    | Tuple es k pos =>
      have h : tgB.tgBs N st is es = true := h
      have key : ∀ (is : List Nat) (es : List Expr), tgB.tgBs N st is es = true → PGs X es (gTg.gNames is) ∧ (assignEach es X.env).length = is.length ∧ (assignEach es X.env).findIdx? (·.1) = none ∧ True := by
        intro is
        induction is with
        | nil =>
          intro es h
          cases es with
          | nil => exact ⟨pgs_nil, rfl, rfl, trivial⟩
          | cons e es => simp [tgB.tgBs] at h
        | cons i is ih =>
          intro es h
          cases es with
          | nil => simp [tgB.tgBs] at h
          | cons e es =>
            cases e with
            | Name x pos =>
              simp only [tgB.tgBs, Bool.and_eq_true, decide_eq_true_eq] at h
              obtain ⟨h1, h2, h3, _⟩ := ih es h.2
              refine ⟨pgs_cons (pg_name (by rw [hN]; exact nd) (by rw [hN]; exact h.1.1) (hs x h.1.2).1 (hs x h.1.2).2) h1 rfl, ?_, ?_, trivial⟩
              · show (assignEach es X.env).length + 1 = _
                rw [h2]; rfl
              · show ((false, assign (.Name x pos) X.env) :: assignEach es X.env).findIdx? (·.1) = none
                rw [List.findIdx?_cons, h3]
                rfl
            | _ => simp [tgB.tgBs] at h
      obtain ⟨h1, h2, h3, _⟩ := key is es h
      exact pg_tl hc h1 h2 h3
    | _ => simp [tgB] at h
section
variable {G : Gc} {φ : List Addr} {μ : Mem} {H : Hp} {σ : L2.St} {ε ε1 : Ev} {d : D} {v : V}
theorem get_set_ne {α : Type} {l : List α} {i j : Nat} {x : α} (h : j ≠ i) : (l.set i x)[j]? = l[j]? := List.getElem?_set_ne (fun z => h z.symm)
theorem tg_ok (m : Mt G φ μ H σ ε) (r : G.rp φ μ H v d) {tg : Tg} (e : binds tg μ d ε = some ε1) {Q : L2.St → Hp → Prop} (q : ∀ σ', Mt G φ μ H σ' ε1 → σ'.length = σ.length → (∀ j, j ∉ tgI tg → σ'[j]? = σ[j]?) → Q σ' H) : gTg G.K tg v σ H Q := by
  cases tg with
  | nm i =>
    simp only [binds, Option.some.injEq] at e
    subst e
    exact q _ (m.set r) (by simp) fun j hj => get_set_ne (by simpa [tgI] using hj)
  | tp is =>
    unfold binds at e
    generalize e0 : top μ d = t at e
    have key : ∀ (is : List Nat) (ds : List D) (vs : List V) (σ : L2.St) (ε : Ev), ds.length = is.length → G.rps φ μ H vs ds → Mt G φ μ H σ ε → (∀ σ', Mt G φ μ H σ' ((is.zip ds).foldl (fun e p => e.set p.1 (some p.2)) ε) → σ'.length = σ.length → (∀ j, j ∉ is → σ'[j]? = σ[j]?) → Q σ' H) → gTg.gNames is vs σ H Q := by
      intro is
      induction is with
      | nil =>
        intro ds vs σ ε hl r m q
        cases ds with
        | nil =>
          cases r
          exact ⟨rfl, q σ m rfl fun _ _ => rfl⟩
        | cons _ _ => cases hl
      | cons i is ih =>
        intro ds vs σ ε hl r m q
        cases ds with
        | nil => cases hl
        | cons d ds =>
          cases r with
          | cons h r =>
            refine ⟨_, _, rfl, ih ds _ _ _ (by simpa using hl) r (m.set h) fun σ' m' hl' hk => q σ' m' (by rw [hl']; simp) fun j hj => ?_⟩
            rw [List.mem_cons, not_or] at hj
            rw [hk j hj.2, get_set_ne hj.1]
    cases t with
    | tup ds =>
      simp only at e
      split at e
      · rename_i hl
        cases e
        obtain ⟨a, vs, rfl, h, r⟩ := top_tup m.ms r e0
        exact ⟨a, vs, rfl, .inl h, by rw [r.length]; exact hl, key is ds vs σ ε hl r m q⟩
      · cases e
    | lst ds =>
      simp only at e
      split at e
      · rename_i hl
        cases e
        obtain ⟨a, vs, rfl, h, r⟩ := top_lst m.ms r e0
        exact ⟨a, vs, rfl, .inr (sl_sq h), by rw [r.length]; exact hl, key is ds vs σ ε hl r m q⟩
      · cases e
    | _ => cases e
end
end DM
set_option Elab.async false
set_option linter.all false
set_option maxRecDepth 100000
set_option maxHeartbeats 4000000
namespace DM
open PySem L2 PySem.Spec PyProof.Rows
section
variable {g : Sg} {avc avg : Nat → Bool} {N : List Str} {kk : Nat} {ql : Bool}
variable {S : Mn} {xc : Xc} {G : Gc} {W : WX} {X : Cx} {e e1 e2 e3 : Expr} {es : List Expr} {a b c : T} {as : Ts} {pos p : Pos} {x : Str}
theorem s_dd0 : PE X (.Dict [] [] pos) (RD S xc G W .dd0) := pe_dnewK.imp fun σ H Q ⟨Y, φ, μ, ε, m, p⟩ =>
  new_dct (G := G.wx Y) m.ms ⟨[], rfl, rfl, (fun _ h => by cases h), rfl⟩ .nil p
theorem s_dd1 {i : Nat} {b : Bool} {k : Nat} {p2 pos2 : Pos} (hN : X.N[i]? = some x) (hv : Vis X.env.scope x) (hd : (x == ("__debug__" : Str)) = false) (hcd : (x == ("__classdict__" : Str)) = false) : PE X (.Dict [some (.Name x pos2)] [.Constant (.bool b) k p2] pos) (RD S xc G W (.dd1 i b)) :=
  (pe_disp (pps_cons (pe_var hN hv hd hcd) pe_bl pps_nil) rfl rfl (by simp) (by simp)).imp fun σ H Q ⟨Y, φ, μ, ε, m, p⟩ q hq => by
    have p : PX xc (G.wx Y) W σ φ μ H (match ε[i]? with | some (some d) => opt (dd1E b d) μ | _ => .bad) fun p => QQ (G.wx Y) φ μ H p.2 true p.1 Q := p
    split at p
    · rename_i d0 hx
      obtain ⟨d, e0, p⟩ := px_opt p
      cases d0 with
      | str x =>
        cases Option.some.inj (e0 : some (D.dct [.str x] [.bl b]) = some d)
        obtain ⟨v, hv, r⟩ := m.at_ i _ hx
        cases r with
        | str _ ok =>
          refine ⟨_, hv, upd_same, [(.inr (mkS x), .bl b)], rfl, by simp, ?_⟩
          have e : mergeK [] [((.inr (mkS x) : Key), V.bl b)] = [(.inr (mkS x), .bl b)] := rfl
          have e2 : upd (upd H q (.dK [])) q (.dK [((.inr (mkS x) : Key), V.bl b)]) = upd H q (.dK [(.inr (mkS x), .bl b)]) := by
            funext a; unfold upd; split <;> rfl
          rw [e, e2]
          exact new_dct (G := G.wx Y) m.ms ⟨_, rfl, by simp [kD, mkS], (fun p hp => by rw [List.mem_singleton.mp hp]; simpa [okK, mkS] using ok), rfl⟩ (.cons (.bl b) .nil) p q hq
      | _ => cases e0
    · exact p.elim
theorem s_var {i : Nat} (hN : X.N[i]? = some x) (hv : Vis X.env.scope x) (hd : (x == ("__debug__" : Str)) = false) (hcd : (x == ("__classdict__" : Str)) = false) : PE X (.Name x pos) (RD S xc G W (.var i)) :=
  (pe_var hN hv hd hcd).imp fun σ H Q ⟨Y, φ, μ, ε, m, p⟩ => by
    have p : PX xc (G.wx Y) W σ φ μ H (match ε[i]? with | some (some d) => R.ok (d, μ) | _ => .bad) fun p => QQ (G.wx Y) φ μ H p.2 false p.1 Q := p
    split at p
    · rename_i d hq
      obtain ⟨v, hv, r⟩ := m.at_ i d hq
      exact ⟨v, hv, qq_at m.ms r p (fun z => by cases z)⟩
    · exact p.elim
theorem s_glob {n : Nat} (hg : Gl X x) {v : V} {u : Value} (hm : X.mg x = some u) (r : RelV v u) (hr : ∀ φ H Y, Rp G.cl G.K φ H Y v (S.gl n)) (hd : (x == ("__debug__" : Str)) = false) : PE X (.Name x pos) (RD S xc G W (.glob n)) :=
  (pe_glob hg hm r hd).imp fun σ H Q ⟨Y, φ, μ, ε, m, p⟩ => by
    have p : QQ (G.wx Y) φ μ H μ false (S.gl n) Q := p
    exact qq_at m.ms (hr _ _ _) p (fun z => by cases z)
theorem lookup_mem {β : Type} {z : Nat} {d : β} : ∀ {l : List Nat} {es : List β}, (l.zip es).lookup z = some d → z ∈ l
  | [], es, h => by simp at h
  | a :: l, [], h => by simp at h
  | a :: l, b :: es, h => by
    rw [List.zip_cons_cons, List.lookup_cons] at h
    by_cases q : z = a
    · subst q; simp
    · have h0 : (z == a) = false := by simpa using q
      rw [h0] at h
      exact List.mem_cons_of_mem _ (lookup_mem h)
theorem lookup_memS {β : Type} {z : Str} {d : β} : ∀ {l : List Str} {es : List β}, (l.zip es).lookup z = some d → z ∈ l
  | [], es, h => by simp at h
  | a :: l, [], h => by simp at h
  | a :: l, b :: es, h => by
    rw [List.zip_cons_cons, List.lookup_cons] at h
    by_cases q : z = a
    · subst q; simp
    · have h0 : (z == a) = false := by simpa using q
      rw [h0] at h
      exact List.mem_cons_of_mem _ (lookup_memS h)
theorem lookup_zip : ∀ {ns : List Nat} {f : Nat} {ds : List D} {d : D} {vs : List V} {φ : List Addr} {X : Addr → Prop} {cl : Cls0} {K : PySem.W.Frag} {H : Hp} {nm : Nat → Str}, (ns.map nm).Nodup → (ns.zip ds).lookup f = some d → Rps cl K φ H X vs ds → ∃ v, ((ns.map nm).zip vs).lookup (nm f) = some v ∧ Rp cl K φ H X v d
  | [], _, _, _, _, _, _, _, _, _, _, _, h, _ => by simp at h
  | n :: ns, f, [], d, vs, φ, X, cl, K, H, nm, nd, h, _ => by simp at h
  | n :: ns, f, e :: ds, d, _, φ, X, cl, K, H, nm, nd, h, .cons (v := v) r rs => by
    rw [List.zip_cons_cons, List.lookup_cons] at h
    rw [List.map_cons, List.zip_cons_cons, List.lookup_cons]
    rw [List.map_cons, List.nodup_cons] at nd
    by_cases q : f = n
    · subst q
      simp at h
      subst h
      exact ⟨v, by simp, r⟩
    · have h0 : (f == n) = false := by simpa using q
      rw [h0] at h
      obtain ⟨v', h1, h2⟩ := lookup_zip nd.2 h rs
      refine ⟨v', ?_, h2⟩
      have : (nm f == nm n) = false := beq_eq_false_iff_ne.mpr fun z => nd.1 (List.mem_map.mpr ⟨f, lookup_mem h, z⟩)
      rw [this]
      exact h1
theorem lookup_zip_none : ∀ {ns : List Str} {vs : List V} {m : Str}, m ∉ ns → (ns.zip vs).lookup m = none
  | [], _, _, _ => by simp
  | n :: ns, [], _, _ => by simp
  | n :: ns, v :: vs, m, h => by
    rw [List.mem_cons, not_or] at h
    rw [List.zip_cons_cons, List.lookup_cons]
    have : (m == n) = false := beq_eq_false_iff_ne.mpr h.1
    rw [this]
    exact lookup_zip_none h.2
theorem zip_take {ns : List Str} : ∀ {vs : List V}, (ns.take vs.length).zip vs = ns.zip vs := by
  induction ns with
  | nil => intro vs; simp
  | cons n ns ih =>
    intro vs
    cases vs with
    | nil => simp
    | cons v vs => simp [ih]
theorem s_att {f : Nat} (hxc : G.cl.x = xc) (hc : ∀ c C ns, G.cl c = some (C, ns) → L2.Cls X.K C ∧ ns = (S.fl c).map g.anm ∧ ns.Nodup ∧ ns.length < 1000 ∧ (∀ x ∈ ns, NoAttr X.K C x))
    (hx : ∀ c C ns, xc c = some (C, ns) → S.fl c ≠ [] → ns = (S.fl c).map g.anm ∧ ns.Nodup ∧ XfC X.K C ∧ ∀ x ∈ ns, PySem.W.findIn X.K (.ref C) x = some none) (hb : baseB e = true) (h : PE X e (RD S xc G W a)) : PE X (.Attribute e (g.anm f) pos) (RD S xc G W (.att a f)) :=
  (pe_fldX h (base_of hb)).imp fun σ H Q ⟨Y, φ, μ, ε, m, p⟩ => ⟨Y, φ, μ, ε, m, px_mono (px_bind p) fun x px v H1 φ1 e1 m1 r1 _ => by
    obtain ⟨d, μ1⟩ := x
    simp only at px
    generalize e0 : top μ1 d = t at px
    cases t with
    | ins c' ds =>
      simp only at px
      split at px
      · rename_i d' hl
        obtain ⟨A, C, dx, ns, vs, rfl, hcl, hln, hH, r3⟩ := top_ins m1 r1 e0
        obtain ⟨c1, c2, c3, _, c4⟩ := hc _ _ _ hcl
        rw [zip_take] at hH
        subst c2
        obtain ⟨u, hu, ru⟩ := lookup_zip c3 hl r3
        exact .inl ⟨A, C, dx, _, u, rfl, hH, c1, c4 _ (lookup_memS hu), hu, qq_at m1 ru (QQ.back px e1) (fun z => by cases z)⟩
      · exact px.elim
    | exc c' ds =>
      simp only at px
      split at px
      · rename_i d' hl
        obtain ⟨A, oe, C, ns, dd, vs, rfl, hH, hcl, hz, hf, hd, hln, r3⟩ := top_exc m1 r1 e0
        have hne : S.fl c' ≠ [] := fun z => by rw [z] at hl; simp at hl
        obtain ⟨c2, c3, c4, c5⟩ := hx _ _ _ (by rw [← hxc]; exact hcl) hne
        subst c2
        obtain ⟨u, hu, ru⟩ := lookup_zip c3 hl r3
        rcases hd with ⟨z, _⟩ | ⟨_, d2, rfl, hd⟩
        · exact absurd (List.map_eq_nil_iff.mp z) hne
        · exact .inr ⟨A, oe, C, d2, _, u, rfl, hH, hz, hf, c4, c5 _ (lookup_memS hu), hd, hu, qq_at m1 ru (QQ.back px e1) (fun z => by cases z)⟩
      · exact px.elim
    | _ => exact px.elim⟩
theorem run_ok {n : Nat} {ds : List D} {μ : Mem} (hb : S.run n ds μ ≠ .bad) : ds.length ≤ S.ar n ∧ S.ar n ≤ ds.length + (S.dv n).length ∧ S.av n = true ∧ S.run n ds μ = S.fn n (S.fill n ds) μ := by
  unfold Mn.run at hb ⊢
  split at hb
  · rename_i z
    rw [if_pos z]
    simp only [Bool.and_eq_true, decide_eq_true_eq] at z
    exact ⟨z.1.1, z.1.2, z.2, rfl⟩
  · exact absurd rfl hb
section
variable {φ : List Addr} {μ : Mem} {H : Hp} {vs : List V} {ds : List D} {Q : VK} {k : Ck} {n : Nat} {σ : L2.St}
theorem Ms.none (m : Ms G φ μ H) : Ms ⟨G.cl, G.K, G.N φ μ, Option.none⟩ [] [] H :=
  ⟨rfl, fun n d a h => by simp at h, fun n k d e a h => by simp at h, fun a z => by
    rcases z with z | z
    · obtain ⟨o, h, _⟩ := m.lvmut z
      rw [h]; exact fun q => by cases q
    · exact m.xs a z, fun a ⟨n, d, h, _⟩ => by simp at h⟩
theorem Ms.bare (m : Ms G φ μ H) : Ms ⟨G.cl, G.K, fun _ => False, Option.none⟩ [] [] H :=
  ⟨rfl, fun n d a h => by simp at h, fun n k d e a h => by simp at h, fun a z => z.elim, fun a ⟨n, d, h, _⟩ => by simp at h⟩
theorem nolv {a : Addr} (h : Lv [] [] a) : False := by obtain ⟨n, d, h, _⟩ := h; simp at h
theorem Ex.pure {φ' : List Addr} {μ' : Mem} {H' : Hp} (e : Ex [] [] H φ' μ' H') : Same H H' := fun a o h => e.keep a o h fun z => nolv z
theorem resm_rps (m : Ms G φ μ H) : ∀ {ds : List D} {vs : List V}, G.rps φ μ H vs ds → Rps G.cl G.K φ H (fun _ => False) vs (ds.map (res μ))
  | [], _, .nil => .nil
  | d :: ds, _, .cons h r => .cons (res_ok m h) (resm_rps m r)
theorem fill_len (h1 : ds.length ≤ S.ar n) (h2 : S.ar n ≤ ds.length + (S.dv n).length) : (S.fill n ds).length = S.ar n := by
  unfold Mn.fill
  rw [List.length_append, List.length_drop]; omega
/-- the promise of the def suffices for what is meant -/
theorem call_ok {fd : FuncData} {ps : List Str} (hK : X.K = G.K) (m : Ms G φ μ H) (rs : G.rps φ μ H vs ds) (p : PX xc G W σ φ μ H (callE S k n ds μ) fun p => QQ G φ μ H p.2 false p.1 Q) (hd : Dfl X.K fd ps (S.ar n) (S.dv n)) :
    ∃ dvs us, Vals dvs us ∧ L2.Binds X.K fd ps us ∧ spD xc G.cl G.K (S.ar n) (S.fn n) (vs ++ dvs) H Q (WE W σ) := by
  obtain ⟨hps, him, hd⟩ := hd
  have hlen := rs.length
  rw [hK] at hd
  rw [hK]
  unfold callE at p
  cases k with
  | pu =>
    simp only at p
    split at p
    · rename_i hcf
      have hb : S.run n ds [] ≠ .bad := fun q => by rw [q] at p; exact p.elim
      obtain ⟨h1, h2, _, h4⟩ := run_ok hb
      rw [h4] at p
      obtain ⟨dvs, us, hv, hr, hbn⟩ := hd ((S.dv n).length + ds.length - S.ar n) (by omega)
      refine ⟨dvs, us, hv, hbn, G.N φ μ, [], [], S.fill n ds, ?_, m.none, ?_, ?_⟩
      · have := (hr G.cl [] H (fun _ => False)).length
        rw [List.length_append, this, hlen, ← List.length_append]; exact fill_len h1 h2
      · exact ((Rps.cf (φ' := []) _ _ hcf rs).append (hr _ _ _ _)) |> Rps.mono (Same.refl H) (fun a _ _ z => by
          rcases z with z | z
          · exact (nolv z).elim
          · exact z) _ _
      · cases e : S.fn n (S.fill n ds) [] with
        | bad => rw [e] at p; exact p.elim
        | ok r =>
          obtain ⟨d, μ'⟩ := r
          rw [e] at p
          have p : PX xc G W σ φ μ H (if cf d then .ok (d, μ) else .bad) fun p => QQ G φ μ H p.2 false p.1 Q := p
          split at p
          · rename_i hcd
            intro v H' φ' e' m' r'
            have sm := e'.pure
            refine p v H' φ (Ex.same sm) (m.same sm) ?_ (fun z => by cases z)
            exact Rp.mono (Same.refl _) (fun a _ _ z => .inr z) _ _ (Rp.cf _ _ hcd r')
          · exact p.elim
        | ex y μ' =>
          rw [e] at p
          have p : PX xc G W σ φ μ H (if cfs y.fs then (.ex y μ : Rd0) else .bad) fun p => QQ G φ μ H p.2 false p.1 Q := p
          split at p
          · rename_i hcd
            intro cls dd H' φ' e' m' x
            have sm := e'.pure
            refine p cls dd H' φ (Ex.same sm) (m.same sm) ?_
            obtain ⟨C, ns, k1, k2, k3⟩ := x
            refine ⟨C, ns, k1, k2, k3.imp id fun ⟨q1, d, ws, q2, q3, q4, q5⟩ => ⟨q1, d, ws, q2, q3, q4, Rps.mono (Same.refl _) (fun a _ _ z => .inr z) _ _ (Rps.cf _ _ hcd q5)⟩⟩
          · exact p.elim
    · exact p.elim
  | bw =>
    simp only at p
    split at p
    · rename_i hcf
      have hb : S.run n (ds.map (res μ)) [] ≠ .bad := fun q => by rw [q] at p; exact p.elim
      obtain ⟨h1, h2, _, h4⟩ := run_ok hb
      rw [h4] at p
      obtain ⟨dvs, us, hv, hr, hbn⟩ := hd ((S.dv n).length + (ds.map (res μ)).length - S.ar n) (by omega)
      refine ⟨dvs, us, hv, hbn, fun _ => False, [], [], S.fill n (ds.map (res μ)), ?_, m.bare, ?_, ?_⟩
      · have := (hr G.cl [] H (fun _ => False)).length
        rw [List.length_append, this, hlen, ← List.length_map (f := res μ), ← List.length_append]; exact fill_len h1 h2
      · exact ((Rps.cf (φ' := []) _ _ hcf (resm_rps m rs)).append (hr _ _ _ _)) |> Rps.mono (Same.refl H) (fun a _ _ z => by
          rcases z with z | z
          · exact (nolv z).elim
          · exact z) _ _
      · cases e : S.fn n (S.fill n (ds.map (res μ))) [] with
        | bad => rw [e] at p; exact p.elim
        | ok r =>
          obtain ⟨d, μ'⟩ := r
          rw [e] at p
          have p : PX xc G W σ φ μ H (if imm d then .ok (d, μ) else .bad) fun p => QQ G φ μ H p.2 false p.1 Q := p
          split at p
          · rename_i hcd
            intro v H' φ' e' m' r'
            have sm := e'.pure
            exact p v H' φ (Ex.same sm) (m.same sm) (Rp.imm _ _ hcd r') (fun z => by cases z)
          · exact p.elim
        | ex y μ' =>
          rw [e] at p
          have p : PX xc G W σ φ μ H (if imms y.fs then (.ex y μ : Rd0) else .bad) fun p => QQ G φ μ H p.2 false p.1 Q := p
          split at p
          · rename_i hcd
            intro cls dd H' φ' e' m' x
            have sm := e'.pure
            refine p cls dd H' φ (Ex.same sm) (m.same sm) ?_
            obtain ⟨C, ns, k1, k2, k3⟩ := x
            refine ⟨C, ns, k1, k2, k3.imp id fun ⟨q1, d, ws, q2, q3, q4, q5⟩ => ⟨q1, d, ws, q2, q3, q4, Rps.imm _ _ hcd q5⟩⟩
          · exact p.elim
    · exact p.elim
  | mm =>
    have p : PX xc G W σ φ μ H (S.run n ds μ) fun p => QQ G φ μ H p.2 false p.1 Q := p
    have hb : S.run n ds μ ≠ .bad := fun q => by rw [q] at p; exact p.elim
    obtain ⟨h1, h2, _, h4⟩ := run_ok hb
    rw [h4] at p
    obtain ⟨dvs, us, hv, hr, hbn⟩ := hd ((S.dv n).length + ds.length - S.ar n) (by omega)
    refine ⟨dvs, us, hv, hbn, G.X, φ, μ, S.fill n ds, ?_, m.re none, rs.append (hr _ _ _ _), ?_⟩
    · have := (hr G.cl [] H (fun _ => False)).length
      rw [List.length_append, this, hlen, ← List.length_append]; exact fill_len h1 h2
    · cases e : S.fn n (S.fill n ds) μ with
      | bad => rw [e] at p; exact p.elim
      | ok r =>
        obtain ⟨d, μ'⟩ := r
        rw [e] at p
        exact fun v H' φ' e' m' r' => p v H' φ' e' m'.unre r' (fun z => by cases z)
      | ex y μ' =>
        rw [e] at p
        exact fun cls dd H' φ' e' m' x => p cls dd H' φ' e' m'.unre x
end
theorem s_call {k : Ck} {n : Nat} (hq : ql = true) (hy : Hy g S xc G avc avg N kk ql X W) (hx : g.nm n = x) (hg : Gl X x) (hdb : (x == ("__debug__" : Str)) = false) (hav : S.av n = true) (hfd : S.fnd n = true) (h : PA X es (RDA S xc G W as)) (h2 : es.all (fun e => !starB e) = true) (hnil : es = [] → as = .nil) : PE X (.Call (.Name x p) es [] pos) (RD S xc G W (.call k n as)) := by
  obtain ⟨f, fd, ps, hm, hk, hb, F⟩ := hy.fns n hav hfd
  rw [hx] at hm
  cases es with
  | nil =>
    rw [hnil rfl]
    refine (pe_call0' F ((hy.room hq).mono (Nat.le_succ _)) hg hm hk (fun σ => L2N.passAt hy.tk σ) hdb).imp fun σ H Q ⟨Y, φ, μ, ε, m, p⟩ => ?_
    have p : PX xc (G.wx Y) W σ φ μ H (callE S k n [] μ) fun p => QQ (G.wx Y) φ μ H p.2 false p.1 Q := p
    exact call_ok (G := G.wx Y) hy.hK (vs := []) m.ms .nil p hb
  | cons e es =>
    rw [List.all_cons, Bool.and_eq_true] at h2
    refine (pe_call1 F ((hy.room hq).mono (Nat.le_succ _)) hg hm hk (fun σ => L2N.passAt hy.tk σ) h hdb (by simpa using h2.1) h2.2).imp fun σ H Q ⟨Y, φ, μ, ε, m, p⟩ => ⟨Y, φ, μ, ε, m, px_mono (px_bind p) fun xs px vs H1 φ1 e1 m1 rs => ?_⟩
    exact call_ok (G := G.wx Y) hy.hK m1 rs (px_mono (px_ex e1 px) fun _ q => QQ.back q e1) hb
/-- a call while an exception is handled -/
theorem s_callC {k : Ck} {n : Nat} (hq : ql = false) (hh : g.hot n = true) (hy : Hy g S xc G avc avg N kk ql X W) (hx : g.nm n = x) (hg : Gl X x) (hdb : (x == ("__debug__" : Str)) = false) (hav : S.av n = true) (h : PA X (e :: es) (RDA S xc G W as)) (h2 : (e :: es).all (fun e => !starB e) = true) : PE X (.Call (.Name x p) (e :: es) [] pos) (RD S xc G W (.call k n as)) := by
  obtain ⟨f, fd, ps, hm, hk, hb, F⟩ := hy.hts n hh hav
  rw [hx] at hm
  rw [List.all_cons, Bool.and_eq_true] at h2
  refine (pe_callC F (hy.rmh.mono (Nat.le_succ _)) hg hm hk h hdb (star_cons (by simpa using h2.1)) (star_any h2.2)).imp fun σ H Q ⟨Y, φ, μ, ε, m, p⟩ => ⟨Y, φ, μ, ε, m, px_mono (px_bind p) fun xs px vs H1 φ1 e1 m1 rs => ?_⟩
  have e0 : WE W σ = fun _ _ _ => False := funext fun c => funext fun d => funext fun H => eq_false (hy.cold hq c d σ H)
  have := call_ok (G := G.wx Y) hy.hK m1 rs (px_mono (px_ex e1 px) fun _ q => QQ.back q e1) hb
  rw [e0] at this
  exact this
theorem s_ucl {k : Ck} {c m : Nat} {q : Pos} {apos : Pos} (hq : ql = true) (hy : Hy g S xc G avc avg N kk ql X W) (hx : g.cnm c = x) (hg : Gl X x) (hdb : (x == ("__debug__" : Str)) = false) (hl : (apos.endLine == pos.line) = true) (hn : (e :: es).length < 30) (h : PA X (e :: es) (RDA S xc G W as)) (h1 : starB e = false) (h2 : es.all (fun e => !starB e) = true) : PE X (.Call (.Attribute (.Name x q) (g.mnm m) apos) (e :: es) [] pos) (RD S xc G W (.ucl k c m as)) := by
  have no : (∀ ε μ, ev S (.ucl k c m as) ε μ = .bad) → PE X (.Call (.Attribute (.Name x q) (g.mnm m) apos) (e :: es) [] pos) (RD S xc G W (.ucl k c m as)) := fun hb => ⟨fun pins s σ H Q I ⟨Y, φ, μ, ε, mm, p⟩ => by rw [hb] at p; exact p.elim⟩
  cases hu : S.unb c m with
  | none => exact no fun ε μ => by simp only [ev, hu]
  | some n =>
    cases hv : S.av n with
    | false => exact no fun ε μ => by simp only [ev, hu, hv]; rfl
    | true =>
      obtain ⟨C, mc, f, fd, ps, e1, e2, e3, e4, hb, F⟩ := hy.ubs c m n hu hv
      rw [hx] at e1
      refine (pe_ucl1 F ((hy.room hq).mono (Nat.le_succ _)) hg e1 e2 e3 e4 (fun σ => L2N.passAt hy.tk σ) h hdb hl h1 h2 hn).imp fun σ H Q ⟨Y, φ, μ, ε, mm, p⟩ => ⟨Y, φ, μ, ε, mm, ?_⟩
      have p2 : PX xc (G.wx Y) W σ φ μ H ((evs S as ε μ).bind fun xs => callE S k n xs.1 xs.2) fun p => QQ (G.wx Y) φ μ H p.2 false p.1 Q := by
        simp only [ev, hu, hv, if_true] at p
        exact p
      exact px_mono (px_bind p2) fun xs px vs H1 φ1 e1 m1 rs => call_ok (G := G.wx Y) hy.hK m1 rs (px_mono (px_ex e1 px) fun _ q => QQ.back q e1) hb
theorem s_mth {k : Ck} {n : Nat} {o : Expr} {apos : Pos} (hq : ql = true) (hy : Hy g S xc G avc avg N kk ql X W) (hbo : baseB o = true) (hl : (apos.endLine == pos.line) = true) (hn : es.length < 30) (ho : PE X o (RD S xc G W a)) (h : PA X es (RDA S xc G W as)) (h2 : es.all (fun e => !starB e) = true) (hnil : es = [] → as = .nil) : PE X (.Call (.Attribute o (g.mnm n) apos) es [] pos) (RD S xc G W (.mth k a n as)) := by
  cases es with
  | nil =>
    rw [hnil rfl]
    refine (pe_meth0' ho hbo hl).imp fun σ H Q ⟨Y, φ, μ, ε, m, p⟩ => ⟨Y, φ, μ, ε, m, px_mono (px_bind p) fun x px v H1 φ1 e1 m1 r1 _ => ?_⟩
    obtain ⟨d, μ1⟩ := x
    simp only at px
    generalize e0 : top μ1 d = t at px
    cases t with
    | ins c' ds =>
      simp only at px
      split at px
      · rename_i j hj
        obtain ⟨A, C, dx, ns, vs, rfl, hcl, hln, hH, r3⟩ := top_ins m1 r1 e0
        split at px
        rotate_left
        · exact px.elim
        rename_i hav
        have px : PX xc (G.wx Y) W σ φ μ H (callE S k j [d] μ1) (fun p => QQ (G.wx Y) φ μ H p.2 false p.1 Q) := px
        obtain ⟨f, fd, ps, hm, hb, hni, F⟩ := hy.mts c' n j C ns hj hav hcl
        obtain ⟨c1, c2, c3⟩ := hy.cls c' C ns hcl
        rw [zip_take] at hH
        exact ⟨A, dx, _, C, f, kk, fd, ps, _, _, rfl, hH, lookup_zip_none hni, c1, hm, F, (hy.room hq).mono (Nat.le_succ _), fun σ => L2N.passAt hy.tk σ,
          call_ok (G := G.wx Y) hy.hK (vs := [.ref A]) m1 (.cons r1 .nil) (px_mono (px_ex e1 px) fun _ q => QQ.back q e1) hb⟩
      · exact px.elim
    | _ => exact px.elim
  | cons e es =>
    rw [List.all_cons, Bool.and_eq_true] at h2
    refine (pe_meth1 ho h hbo hl (by simpa using h2.1) h2.2 hn).imp fun σ H Q ⟨Y, φ, μ, ε, m, p⟩ => ⟨Y, φ, μ, ε, m, px_mono (px_bind p) fun x px v H1 φ1 e1 m1 r1 _ => ?_⟩
    obtain ⟨d, μ1⟩ := x
    simp only at px
    generalize e0 : top μ1 d = t at px
    cases t with
    | ins c' ds =>
      simp only at px
      split at px
      · rename_i j hj
        obtain ⟨A, C, dx, ns, vs, rfl, hcl, hln, hH, r3⟩ := top_ins m1 r1 e0
        split at px
        · rename_i hav
          obtain ⟨f, fd, ps, hm, hb, hni, F⟩ := hy.mts c' n j C ns hj hav hcl
          obtain ⟨c1, c2, c3⟩ := hy.cls c' C ns hcl
          rw [zip_take] at hH
          refine ⟨A, dx, _, C, f, kk, fd, ps, _, _, rfl, hH, lookup_zip_none hni, c1, hm, F, (hy.room hq).mono (Nat.le_succ _), fun σ => L2N.passAt hy.tk σ, Y, φ1, μ1, ε, m.ex e1 m1, px_mono (px_bind (px_ex e1 px)) fun xs p2 vs2 H2 φ2 e2 m2 rs => ?_⟩
          exact call_ok (G := G.wx Y) hy.hK (vs := .ref A :: vs2) m2 (.cons (Rp.ex m1 e2 r1) rs) (px_mono (px_ex e2 p2) fun _ q => QQ.back q (e1.trans e2)) hb
        · exact px.elim
      · exact px.elim
    | _ => exact px.elim
end
end DM
set_option Elab.async false
set_option linter.all false
set_option maxRecDepth 100000
set_option maxHeartbeats 4000000
namespace DM
open PySem L2 PySem.Spec PyProof.Rows
section
variable {g : Sg} {avc avg : Nat → Bool} {N : List Str} {kk : Nat} {ql : Bool}
variable {S : Mn} {xc : Xc} {G : Gc} {W : WX} {X : Cx} {e e1 e2 e3 : Expr} {es : List Expr} {a b c : T} {as : Ts} {pos p : Pos} {x : Str}
section
variable {φ φ' : List Addr} {μ μ' : Mem} {H H' : Hp} {vs : List V} {ds : List D} {Q : VK} {k : Ck} {n : Nat} {σ : L2.St}
theorem cn_new {cl : Cls0} {K : PySem.W.Frag} {Y : Addr → Prop} {C x dx : Addr} {ns : List Str} {c : Nat} (hcl : cl c = some (C, ns)) : Cn cl K φ (upd H x (.ins C dx [])) Y x (.ins c []) :=
  ⟨C, dx, ns, [], hcl, Nat.zero_le _, by rw [upd_same]; simp, .nil⟩
theorem mak_ok {fd : FuncData} {ps : List Str} {c : Nat} {C : Addr} {ns : List Str} {nn : Nat} (hK : X.K = G.K) (hcl : G.cl c = some (C, ns)) (hfl : ns = (S.fl c).map g.anm) (hi : S.ini c = some nn) (m : Ms G φ μ H) (rs : G.rps φ μ H vs ds) (p : PX xc G W σ φ μ H (makE S k c ds μ) fun p => QQ G φ μ H p.2 false p.1 Q) (hd : Dfl X.K fd ps (S.ar nn) (S.dv nn)) :
    ∃ dvs us, Vals dvs us ∧ L2.Binds X.K fd ps us ∧ ∀ x dx, H x = none → H dx = none → dx ≠ x → spD xc G.cl G.K (S.ar nn) (S.fn nn) (.ref x :: vs ++ dvs) (upd (upd H dx (.own x)) x (.ins C dx [])) (fun v H2 => v = .non ∧ Q (.ref x) H2) (WE W σ) := by
  obtain ⟨hps, him, hd⟩ := hd
  have hlen := rs.length
  rw [hK] at hd
  rw [hK]
  unfold makE at p
  rw [hi] at p
  simp only at p
  have sm : ∀ {x dx : Addr}, H x = none → H dx = none → Same H (upd (upd H dx (.own x)) x (.ins C dx [])) := fun {x dx} hx hdx b o e => by
    rw [upd_ne (ne_of_none e hx), upd_ne (ne_of_none e hdx)]; exact e
  have pu : PX xc G W σ φ μ H (if cfs ds then (match S.run nn (.cel 0 :: ds) [some (.ins c [])] with
      | .ok (.non, μ') => (match μ'[0]? with
        | some (some (D.ins c' fs)) => if decide (c' = c) && decide (fs.length = (S.fl c).length) && cfs fs then (.ok (.ins c fs, μ) : Rd0) else .bad
        | _ => .bad)
      | .ex x _ => if cfs x.fs then .ex x μ else .bad
      | _ => .bad) else .bad) (fun p => QQ G φ μ H p.2 false p.1 Q) → ∃ dvs us, Vals dvs us ∧ L2.Binds G.K fd ps us ∧ ∀ x dx, H x = none → H dx = none → dx ≠ x → spD xc G.cl G.K (S.ar nn) (S.fn nn) (.ref x :: vs ++ dvs) (upd (upd H dx (.own x)) x (.ins C dx [])) (fun v H2 => v = .non ∧ Q (.ref x) H2) (WE W σ) := by
    intro p
    split at p
    · rename_i hcf
      have hb : S.run nn (.cel 0 :: ds) [some (.ins c [])] ≠ .bad := fun q => by rw [q] at p; exact p.elim
      obtain ⟨h1, h2, _, h4⟩ := run_ok hb
      rw [h4] at p
      obtain ⟨dvs, us, hv, hr, hbn⟩ := hd ((S.dv nn).length + (D.cel 0 :: ds).length - S.ar nn) (by omega)
      refine ⟨dvs, us, hv, hbn, fun x dx hx hdx ne => ?_⟩
      have s1 := sm hx hdx
      have nx : ¬ G.N φ μ x := m.fresh hx
      have hN : ∀ a, Gc.N ⟨G.cl, G.K, G.N φ μ, Option.none⟩ [x] [some (.ins c [])] a → a = x ∨ G.N φ μ a := fun a z => by
        rcases z with ⟨n, d, q1, q2⟩ | z
        · cases n with
          | zero => exact .inl (by simpa using q2.symm)
          | succ n => simp at q1
        · exact .inr z
      refine ⟨G.N φ μ, [x], [some (.ins c [])], S.fill nn (.cel 0 :: ds), ?_, ⟨rfl, fun n d a q1 q2 => ?_, fun n j d e a q1 q2 q3 q4 => ?_, fun a z => ?_, fun a z => ?_⟩, ?_, ?_⟩
      · have := (hr G.cl [] H (fun _ => False)).length
        have hf := fill_len h1 h2
        unfold Mn.fill at hf
        rw [List.length_append, List.length_cons] at hf
        rw [List.cons_append, List.length_cons, List.length_append, this, hlen, List.length_cons]; omega
      · cases n with
        | zero =>
          simp at q1 q2
          subst q1; subst q2
          exact cn_new hcl
        | succ n => simp at q1
      · cases n with
        | zero =>
          cases j with
          | zero => rfl
          | succ j => simp at q2
        | succ n => simp at q1
      · have := (m.none).xs a z
        cases q : H a with
        | none => exact absurd q this
        | some o => rw [s1 a o q]; exact fun z => by cases z
      · obtain ⟨n, d, q1, q2⟩ := z
        cases n with
        | zero =>
          have e : x = a := by simpa using q2
          subst e; exact nx
        | succ n => simp at q1
      · refine .cons (.cel rfl) ?_
        refine Rps.append ?_ (hr _ _ _ _)
        exact Rps.mono s1 (fun a o ha z => by
          rcases hN a z with z | z
          · rw [z, hx] at ha; cases ha
          · exact z) _ _ (Rps.cf _ _ hcf rs)
      · cases e : S.fn nn (S.fill nn (.cel 0 :: ds)) [some (.ins c [])] with
        | bad => rw [e] at p; exact p.elim
        | ex y μ' =>
          rw [e] at p
          simp only at p
          split at p
          · rename_i hcd
            intro cls dd H' φ' e' m' xx
            have s2 : Same H H' := fun b o q => e'.keep b o (s1 b o q) (fun z => by
              rcases hN b (.inl z) with z | z
              · rw [z, hx] at q; cases q
              · obtain ⟨n, d, q1, q2⟩ := ‹Lv [x] _ b›
                cases n with
                | zero =>
                  have : x = b := by simpa using q2
                  rw [← this, hx] at q; cases q
                | succ n => simp at q1)
            refine p cls dd H' φ (Ex.same s2) (m.same s2) ?_
            obtain ⟨C', ns', k1, k2, k3⟩ := xx
            refine ⟨C', ns', k1, k2, k3.imp id fun ⟨q1, d, ws, q2, q3, q4, q5⟩ => ⟨q1, d, ws, q2, q3, q4, Rps.mono (Same.refl _) (fun a _ _ z => .inr z) _ _ (Rps.cf _ _ hcd q5)⟩⟩
          · exact p.elim
        | ok r =>
          obtain ⟨d, μ'⟩ := r
          rw [e] at p
          cases d
          case non =>
            simp only at p
            split at p
            · rename_i c' fs hmu
              split at p
              · rename_i hcd
                simp only [Bool.and_eq_true, decide_eq_true_eq] at hcd
                obtain ⟨⟨rfl, hfs⟩, hcd⟩ := hcd
                intro v H' φ' e' m' r'
                cases r'
                have s2 : Same H H' := fun b o q => e'.keep b o (s1 b o q) (fun z => by
                  obtain ⟨n, d, q1, q2⟩ := z
                  cases n with
                  | zero =>
                    have : x = b := by simpa using q2
                    rw [← this, hx] at q; cases q
                  | succ n => simp at q1)
                refine ⟨rfl, p _ H' φ (Ex.same s2) (m.same s2) ?_ (fun z => by cases z)⟩
                obtain ⟨C2, dx2, ns2, ws, k1, k2, k3, k4⟩ := m'.live 0 _ x hmu (e'.px 0 x rfl)
                exact .ins k1 k3 nx k2 (Rps.mono (Same.refl _) (fun a _ _ z => .inr z) _ _ (Rps.cf _ _ hcd k4))
              · exact p.elim
            · exact p.elim
          all_goals exact p.elim
    · exact p.elim
  cases k with
  | pu => exact pu p
  | bw => exact pu p
  | mm =>
    simp only at p
    have hb : S.run nn (.cel μ.length :: ds) (μ ++ [some (.ins c [])]) ≠ .bad := fun q => by rw [q] at p; exact p.elim
    obtain ⟨h1, h2, _, h4⟩ := run_ok hb
    rw [h4] at p
    obtain ⟨dvs, us, hv, hr, hbn⟩ := hd ((S.dv nn).length + (D.cel μ.length :: ds).length - S.ar nn) (by omega)
    refine ⟨dvs, us, hv, hbn, fun x dx hx hdx ne => ?_⟩
    have s1 := sm hx hdx
    have nx : ¬ G.N φ μ x := m.fresh hx
    have m1 : Ms G (φ ++ [x]) (μ ++ [some (.ins c [])]) (upd (upd H dx (.own x)) x (.ins C dx [])) := (m.same s1).lay (cn_new hcl) (fun n e b q1 q2 => (m.live n e b q1 q2).same s1 fun a o ha z => by
      rcases z with z | z
      · exact z
      · rw [z, hx] at ha; cases ha) nx
    have e1 : Ex φ μ H (φ ++ [x]) (μ ++ [some (.ins c [])]) (upd (upd H dx (.own x)) x (.ins C dx [])) := Ex.lay m.len hx (Ex.same s1)
    refine ⟨G.X, φ ++ [x], μ ++ [some (.ins c [])], S.fill nn (.cel μ.length :: ds), ?_, m1.re Option.none, ?_, ?_⟩
    · have := (hr G.cl [] H (fun _ => False)).length
      have hf := fill_len h1 h2
      unfold Mn.fill at hf
      rw [List.length_append, List.length_cons] at hf
      rw [List.cons_append, List.length_cons, List.length_append, this, hlen, List.length_cons]; omega
    · exact .cons (.cel (by rw [← m.len]; simp)) ((Rps.ex m e1 rs).append (hr _ _ _ _))
    · cases e : S.fn nn (S.fill nn (.cel μ.length :: ds)) (μ ++ [some (.ins c [])]) with
      | bad => rw [e] at p; exact p.elim
      | ex y μ' =>
        rw [e] at p
        exact fun cls dd H' φ' e' m' xx => p cls dd H' φ' (e1.trans e') m'.unre xx
      | ok r =>
        obtain ⟨d, μ'⟩ := r
        rw [e] at p
        cases d
        case non =>
          intro v H' φ' e' m' r'
          cases r'
          have p : QQ G φ μ H μ' false (.cel μ.length) Q := p
          refine ⟨rfl, p _ H' φ' (e1.trans e') m'.unre (.cel (e'.px _ _ (by rw [← m.len]; simp))) (fun z => by cases z)⟩
        all_goals exact p.elim
end
theorem s_mak {k : Ck} {n nn : Nat} (hq : ql = true) (hy : Hy g S xc G avc avg N kk ql X W) (hx : g.cnm n = x) (hg : Gl X x) (hdb : (x == ("__debug__" : Str)) = false) (hav : avc n = true) (hi : S.ini n = some nn) (hav2 : S.av nn = true) (h : PA X es (RDA S xc G W as)) (h2 : es.all (fun e => !starB e) = true) (hnil : es = [] → as = .nil) : PE X (.Call (.Name x p) es [] pos) (RD S xc G W (.mak k n as)) := by
  obtain ⟨C, ns, f, fd, ps, hcl, hm, ⟨M, _⟩, hb, F⟩ := hy.mks n nn hav hi hav2
  obtain ⟨_, hfl, _⟩ := hy.cls n C ns hcl
  rw [hx] at hm
  cases es with
  | nil =>
    rw [hnil rfl]
    refine (pe_make0' M F (hy.room hq) hg hm (fun σ => L2N.passAt hy.tk σ) hdb).imp fun σ H Q ⟨Y, φ, μ, ε, m, p⟩ => ?_
    have p : PX xc (G.wx Y) W σ φ μ H (makE S k n [] μ) fun p => QQ (G.wx Y) φ μ H p.2 false p.1 Q := p
    exact mak_ok (G := G.wx Y) (vs := []) hy.hK hcl hfl hi m.ms .nil p hb
  | cons e es =>
    rw [List.all_cons, Bool.and_eq_true] at h2
    refine (pe_make1 M F (hy.room hq) hg hm (fun σ => L2N.passAt hy.tk σ) h hdb (by simpa using h2.1) h2.2).imp fun σ H Q ⟨Y, φ, μ, ε, m, p⟩ => ⟨Y, φ, μ, ε, m, px_mono (px_bind p) fun xs px vs H1 φ1 e1 m1 rs => ?_⟩
    exact mak_ok (G := G.wx Y) hy.hK hcl hfl hi m1 rs (px_mono (px_ex e1 px) fun _ q => QQ.back q e1) hb
theorem s_mkw {c w nn : Nat} {ks : Ts} {kws : List Keyword} (hq : ql = true) (hy : Hy g S xc G avc avg N kk ql X W) (hx : g.cnm c = x) (hg : Gl X x) (hdb : (x == ("__debug__" : Str)) = false) (hav : avc c = true) (hne : g.kwn c w ≠ []) (hi : S.ini c = some nn) (hav2 : S.av nn = true) (h : PA X es (RDA S xc G W as)) (h2 : es.all (fun e => !starB e) = true) (hnil : es = [] → as = .nil)
    (hk : PK X kws (RDA S xc G W ks)) (hks : kws.map (·.arg) = (g.kwn c w).map some) (hlen : es.length = g.kwk c w) : PE X (.Call (.Name x p) es kws pos) (RD S xc G W (.mkw c w as ks)) := by
  obtain ⟨C, ns, f, fd, ps, hcl, hm, ⟨M, hw⟩, hb, F⟩ := hy.mks c nn hav hi hav2
  obtain ⟨_, hfl, _⟩ := hy.cls c C ns hcl
  obtain ⟨nk, pt, hkw, hnk, G2, GV, R, hB, hGV, hR⟩ := hw w hne
  generalize g.kwk c w = np at *
  rw [hy.hK] at hR
  rw [hx] at hm
  have fin : ∀ {Y : Addr → Prop} {φ φ1 φ2 : List Addr} {μ μ1 μ2 : Mem} {σ : L2.St} {H H1 H2 : Hp} {Q : VK} {xs ys : List D} {vs zs : List V}, Ex φ μ H φ2 μ2 H2 → Ex φ1 μ1 H1 φ2 μ2 H2 → Ms (G.wx Y) φ2 μ2 H2 → (G.wx Y).rps φ2 μ2 H2 vs xs → (G.wx Y).rps φ2 μ2 H2 zs ys →
      PX xc (G.wx Y) W σ φ1 μ1 H1 (mkwE S c w xs ys μ2) (fun p => QQ (G.wx Y) φ μ H p.2 false p.1 Q) →
      vs.length = np ∧ zs.length = (g.kwn c w).length ∧ (vs ++ R zs).length + 1 = ps.length ∧ ∃ dvs us, Vals dvs us ∧ L2.Binds X.K fd ps us ∧
      ∀ x dx, H2 x = none → H2 dx = none → dx ≠ x → spD xc G.cl G.K (S.ar nn) (S.fn nn) (.ref x :: (vs ++ R zs) ++ dvs) (upd (upd H2 dx (.own x)) x (.ins C dx [])) (fun v H3 => v = .non ∧ Q (.ref x) H3) (WE W σ) := by
    intro Y φ φ1 φ2 μ μ1 μ2 σ H H1 H2 Q xs ys vs zs e e' m2 rv rz p
    unfold mkwE at p
    rw [hkw, hi] at p
    simp only at p
    split at p
    · rename_i hc
      simp only [Bool.and_eq_true, decide_eq_true_eq] at hc
      obtain ⟨⟨c1, c2⟩, c3⟩ := hc
      have rr : (G.wx Y).rps φ2 μ2 H2 (vs ++ R zs) (xs ++ kwSel pt (S.dv nn) ys) := rv.append (hR _ _ _ _ _ _ rz)
      have ll := rr.length
      have p' := px_mono (px_ex e' p) fun _ q => QQ.back q e
      exact ⟨by rw [rv.length]; exact c1, by rw [rz.length, hnk]; exact c2, by rw [ll, hb.1]; exact c3, mak_ok (G := G.wx Y) hy.hK hcl hfl hi m2 rr p' hb⟩
    · exact p.elim
  cases es with
  | nil =>
    rw [hnil rfl]
    cases hlen
    refine (pe_mkw0 M F (hy.room hq) hg hm hB hGV (fun σ => L2N.passAt hy.tk σ) hk hks hdb).imp fun σ H Q ⟨Y, φ, μ, ε, m, p⟩ => ?_
    refine ⟨Y, φ, μ, ε, m, px_mono (px_bind p) fun ys py zs H2 φ2 e2 m2 rz => ?_⟩
    exact fin e2 e2 m2 .nil rz py
  | cons e es =>
    rw [List.all_cons, Bool.and_eq_true] at h2
    refine (pe_mkw M F (hy.room hq) hg hm hB hGV (fun σ => L2N.passAt hy.tk σ) h hk hks hdb (by simpa using h2.1) h2.2).imp fun σ H Q ⟨Y, φ, μ, ε, m, p⟩ => ⟨Y, φ, μ, ε, m, px_mono (px_bind p) fun xs px vs H1 φ1 e1 m1 rs => ?_⟩
    refine ⟨Y, φ1, xs.2, ε, m.ex e1 m1, px_mono (px_bind (px_ex e1 px)) fun ys py zs H2 φ2 e2 m2 rz => ?_⟩
    exact fin (e1.trans e2) e2 m2 (Rps.ex m1 e2 rs) rz py
theorem s_bi {b : Bi} (hq : (ql || b.cold) = true) (hy : Hy g S xc G avc avg N kk ql X W) (hx : Str.ofString b.nm = x) (hg : Gl X x) (h : PA X (e :: es) (RDA S xc G W as)) (h1 : starB e = false) (h2 : es.all (fun e => !starB e) = true) : PE X (.Call (.Name x p) (e :: es) [] pos) (RD S xc G W (.bi b as)) := by
  have hbt : X.mg x = none := hy.blt x (by subst hx; cases b <;> decide +kernel)
  have hv : bootBuiltins x = some (if b.isTy then .type b.nm else .builtin b.nm) := by subst hx; cases b <;> decide +kernel
  have hn : x ≠ "__name__" := by subst hx; cases b <;> decide +kernel
  have hd : (x == ("__debug__" : Str)) = false := by subst hx; cases b <;> decide +kernel
  refine (pe_callB1 (callR_bi b (by rw [Bool.or_eq_true] at hq; exact hq.imp hy.calm id) hy.un) hg hbt hv h hn hd h1 h2).imp fun σ H Q ⟨Y, φ, μ, ε, m, p⟩ => ⟨Y, φ, μ, ε, m, px_mono (px_bind p) fun xs px vs H1 φ1 e1 m1 rs => ?_⟩
  obtain ⟨d, e2, q⟩ := px_opt px
  rw [hy.hK, ← hy.hhs]
  exact bi_ok (G := G.wx Y) m1 rs e2 (QQ.back q e1)
theorem s_isi {k : Kd} {p2 : Pos} (hy : Hy g S xc G avc avg N kk ql X W) (hg : Gl X "isinstance") (hg2 : Gl X (Str.ofString k.nm)) (h : PE X e (RD S xc G W a)) (h1 : starB e = false) : PE X (.Call (.Name "isinstance" p) [e, .Name (Str.ofString k.nm) p2] [] pos) (RD S xc G W (.isi a k)) := by
  have hk : PE X (.Name (Str.ofString k.nm) p2) (tC (.ty k.nm)) := by
    refine pe_bltn (u := .type k.nm) hg2 (hy.blt _ (by cases k <;> decide +kernel)) (by cases k <;> decide +kernel) rfl (by cases k <;> decide +kernel) (by cases k <;> decide +kernel)
  refine (pe_callB call_isi hg (hy.blt _ (by decide +kernel)) (by decide +kernel) (pa_cons h (pa_cons hk pa_nil rfl) (star_cons h1)) (by decide +kernel) (by decide +kernel) (star_cons h1) rfl).imp fun σ H Q ⟨Y, φ, μ, ε, m, p⟩ => ⟨Y, φ, μ, ε, m, px_mono (px_bind p) fun x px v H1 φ1 e1 m1 r1 _ => ?_⟩
  obtain ⟨d, e2, q⟩ := px_opt px
  show rIsi X.K [v, .ty k.nm] H1 Q
  rw [hy.hK]
  exact isi_ok (G := G.wx Y) m1 r1 e2 (QQ.back q e1)
theorem kitB_in {T : String} {d : D} (h : tyD d = some T) : T ∈ ["NoneType", "bool", "int", "str", "list", "tuple", "dict"] := by
  cases d <;> simp [tyD] at h <;> first | (subst h; decide) | (obtain ⟨_, rfl⟩ := h; decide)
theorem s_isc {c : Nat} {p2 : Pos} (hy : Hy g S xc G avc avg N kk ql X W) (hg : Gl X "isinstance") (hx : g.cnm c = x) (hg2 : Gl X x) (hdb : (x == ("__debug__" : Str)) = false) (h : PE X e (RD S xc G W a)) (h1 : starB e = false) (hex : ∃ C, X.mg x = some (.ref C)) : PE X (.Call (.Name "isinstance" p) [e, .Name x p2] [] pos) (RD S xc G W (.isc a c)) := by
  obtain ⟨C, hC⟩ := hex
  have hk : PE X (.Name x p2) (tC (.ref C)) := pe_glob hg2 hC rfl hdb
  refine (pe_callB (callR_or call_isi call_isX) hg (hy.blt _ (by decide +kernel)) (by decide +kernel) (pa_cons h (pa_cons hk pa_nil rfl) (star_cons h1)) (by decide +kernel) (by decide +kernel) (star_cons h1) rfl).imp fun σ H Q ⟨Y, φ, μ, ε, m, p⟩ => ⟨Y, φ, μ, ε, m, px_mono (px_bind p) fun x0 px v H1 φ1 e1 m1 r1 _ => ?_⟩
  obtain ⟨d, e2, q⟩ := px_opt px
  obtain ⟨d0, μ1⟩ := x0
  show rIsi X.K [v, .ref C] H1 Q ∨ rIsX X.K [v, .ref C] H1 Q
  simp only at e2
  have fin : ∀ b t, d = .bl b → TyX X.K H1 v t → PySem.W.kitOne X.K t (.ref C) = some b → rIsi X.K [v, .ref C] H1 Q := fun b t hd ht hk => by
    subst hd
    exact ⟨_, _, t, _, b, rfl, .own _, ht, hk, qq_bl (G := G.wx Y) m1 (QQ.back q e1)⟩
  have base : ∀ T, tyD (top μ1 d0) = some T → (S.isk none c).map .bl = some d → rIsi X.K [v, .ref C] H1 Q := fun T hT hd => by
    obtain ⟨b, hb, rfl⟩ := Option.map_eq_some_iff.mp hd
    obtain ⟨C2, h1, h2⟩ := hy.isn c b hb
    subst hx
    rw [hC] at h1; cases h1
    exact fin b _ rfl (by rw [hy.hK]; exact ty_of (G := G.wx Y) m1 r1 hT) (h2 T (kitB_in hT))
  generalize e0 : top μ1 d0 = t at e2 base
  cases t with
  | cel n => cases e2
  | ins c' ds =>
    obtain ⟨b, hb, rfl⟩ := Option.map_eq_some_iff.mp e2
    obtain ⟨A, C', dx, ns, vs, rfl, hcl, hln, hH, r3⟩ := top_ins m1 r1 e0
    obtain ⟨ic, C2, h1, h2⟩ := hy.isi c c' b C' ns hb hcl
    obtain ⟨c1, _⟩ := hy.cls c' C' ns hcl
    subst hx
    rw [hC] at h1; cases h1
    exact .inl (fin b _ rfl (.base (.ins hH c1 ic.ha ic.hn ic.ht ic.hm)) h2)
  | exc c' ds =>
    obtain ⟨b, hb, rfl⟩ := Option.map_eq_some_iff.mp e2
    obtain ⟨A, oe, C', ns, dd, vs, rfl, hH, hcx, hz, hf, hd, _, _⟩ := top_exc m1 r1 e0
    obtain ⟨ic, C2, h1, h2, _⟩ := hy.isx c c' b C' ns hb (by rw [← hy.hxc]; exact hcx)
    subst hx
    rw [hC] at h1; cases h1
    exact .inr ⟨A, oe, C', dd, ns, vs, _, _, b, rfl, hH, hz, hf, hd, ic, .own _, h2, qq_bl (G := G.wx Y) m1 (QQ.back q e1)⟩
  | dct ks vs =>
    have e2 : (if tkB ks = true then none else (S.isk none c).map D.bl) = some d := e2
    split at e2
    · cases e2
    · rename_i nt
      exact .inl (base "dict" (if_neg nt) e2)
  | _ => exact .inl (base _ rfl e2)
/-- isinstance(e, ValueError) -/
theorem s_isv {p2 : Pos} (hy : Hy g S xc G avc avg N kk ql X W) (hg : Gl X "isinstance") (hg2 : Gl X "ValueError") (h : PE X e (RD S xc G W a)) (h1 : starB e = false) : PE X (.Call (.Name "isinstance" p) [e, .Name "ValueError" p2] [] pos) (RD S xc G W (.isv a)) := by
  have hk : PE X (.Name "ValueError" p2) (tC (.ty "ValueError")) := pe_bltn (u := .type "ValueError") hg2 (hy.blt _ (by decide +kernel)) (by decide +kernel) rfl (by decide +kernel) (by decide +kernel)
  refine (pe_callB call_isX hg (hy.blt _ (by decide +kernel)) (by decide +kernel) (pa_cons h (pa_cons hk pa_nil rfl) (star_cons h1)) (by decide +kernel) (by decide +kernel) (star_cons h1) rfl).imp fun σ H Q ⟨Y, φ, μ, ε, m, p⟩ => ⟨Y, φ, μ, ε, m, px_mono (px_bind p) fun x0 px v H1 φ1 e1 m1 r1 _ => ?_⟩
  obtain ⟨d, e2, q⟩ := px_opt px
  obtain ⟨d0, μ1⟩ := x0
  show rIsX X.K [v, .ty "ValueError"] H1 Q
  simp only at e2
  generalize e0 : top μ1 d0 = t at e2
  cases t with
  | exc c' ds =>
    obtain ⟨b, hb, rfl⟩ := Option.map_eq_some_iff.mp e2
    obtain ⟨A, oe, C', ns, dd, vs, rfl, hH, hcx, hz, hf, hd, _, _⟩ := top_exc m1 r1 e0
    obtain ⟨ic, h2⟩ := hy.isw c' b C' ns hb (by rw [← hy.hxc]; exact hcx)
    exact ⟨A, oe, C', dd, ns, vs, _, _, b, rfl, hH, hz, hf, hd, ic, .ty _, h2, qq_bl (G := G.wx Y) m1 (QQ.back q e1)⟩
  | _ => cases e2
/-- isinstance(e, (C, ..)) -/
theorem istB_any (hy : Hy g S xc G avc avg N kk ql X W) {c' : Nat} {C' : Addr} {ns : List Str} (hc : xc c' = some (C', ns)) : ∀ {cs : List Nat} {Cs : List Addr} {b : Bool}, Paired (fun c C => X.mg (g.cnm c) = some (.ref C)) cs Cs → istB S c' cs = some b → PySem.W.kitAny X.K (.ref C') (Cs.map Value.ref) = some b
  | [], _, b, .nil, h => by cases h; rfl
  | c :: cs, _, b, .cons h1 h2, h => by
    unfold istB at h
    obtain ⟨b1, hb, h⟩ := Option.bind_eq_some_iff.mp h
    obtain ⟨d, hd, rfl⟩ := Option.map_eq_some_iff.mp h
    obtain ⟨_, C2, k1, k2, _⟩ := hy.isx c c' b1 C' ns hb hc
    rw [h1] at k1; cases k1
    refine kitAny_cons k2 (fun z => ?_) (fun z => by rw [z]; rfl)
    subst z
    exact istB_any hy hc h2 hd
theorem clsV_all : ∀ Cs : List Addr, Paired ClsV (Cs.map V.ref) (Cs.map Value.ref)
  | [] => .nil
  | C :: r => .cons (.own C) (clsV_all r)
theorem s_ist {cs : List Nat} {es : List Expr} {Cs : List Addr} {k2 : Nat} {tp : Pos} (hy : Hy g S xc G avc avg N kk ql X W) (hg : Gl X "isinstance") (hns : Paired (fun e C => ∃ x p, e = Expr.Name x p ∧ Gl X x ∧ X.mg x = some (.ref C) ∧ (x == ("__debug__" : Str)) = false) es Cs) (hcs : Paired (fun c C => X.mg (g.cnm c) = some (.ref C)) cs Cs) (hne : cs ≠ []) (hl : Cs.length ≤ 1000) (h : PE X e (RD S xc G W a)) (h1 : starB e = false) : PE X (.Call (.Name "isinstance" p) [e, .Tuple es k2 tp] [] pos) (RD S xc G W (.ist a cs)) := by
  refine (pe_callB call_isXT hg (hy.blt _ (by decide +kernel)) (by decide +kernel) (pa_cons h (pa_cons (pe_tup (pa_names hns)) pa_nil rfl) (star_cons h1)) (by decide +kernel) (by decide +kernel) (star_cons h1) rfl).imp fun σ H Q ⟨Y, φ, μ, ε, m, p⟩ => ⟨Y, φ, μ, ε, m, px_mono (px_bind p) fun x0 px v H1 φ1 e1 m1 r1 _ => ?_⟩
  obtain ⟨d, e2, q⟩ := px_opt px
  obtain ⟨d0, μ1⟩ := x0
  simp only at e2
  generalize e0 : top μ1 d0 = t at e2
  cases t with
  | exc c' ds =>
    obtain ⟨b, hb, rfl⟩ := Option.map_eq_some_iff.mp e2
    refine ⟨by rw [List.length_map, sizeLine_eq]; omega, fun T hT => ?_⟩
    obtain ⟨A, oe, C', ns, dd, vs, rfl, hH, hcx, hz, hf, hd, _, _⟩ := top_exc m1 r1 e0
    have hc : xc c' = some (C', ns) := by rw [← hy.hxc]; exact hcx
    have ic : ExcC X.K C' := by
      cases cs with
      | nil => exact absurd rfl hne
      | cons c r =>
        unfold istB at hb
        obtain ⟨b1, hb, _⟩ := Option.bind_eq_some_iff.mp hb
        exact (hy.isx c c' b1 C' ns hb hc).1
    have sm : Same H1 (upd H1 T (.tup (Cs.map V.ref))) := fun b o q => by rw [upd_ne (ne_of_none q hT)]; exact q
    exact ⟨A, oe, C', dd, ns, vs, T, _, _, b, rfl, sm _ _ hH, hz, hf, hd.keep fun a fs q => sm _ _ q, ic, upd_same, clsV_all Cs, istB_any hy hc hcs hb, qq_bl (G := G.wx Y) (m1.same sm) (QQ.back q (e1.trans (Ex.same sm)))⟩
  | _ => cases e2
theorem s_lrv {p2 pos2 : Pos} (hq : ql = true) (hy : Hy g S xc G avc avg N kk ql X W) (hg : Gl X "list") (hg2 : Gl X "reversed") (h : PE X e (RD S xc G W a)) (h1 : starB e = false) : PE X (.Call (.Name "list" p) [.Call (.Name "reversed" p2) [e] [] pos2] [] pos) (RD S xc G W (.lrv a)) :=
  (pe_listRev (hy.calm hq) hg (hy.blt _ (by decide +kernel)) hg2 (hy.blt _ (by decide +kernel)) h (star_cons h1)).imp fun σ H Q ⟨Y, φ, μ, ε, m, p⟩ => ⟨Y, φ, μ, ε, m, px_mono (px_bind p) fun x px v H1 φ1 e1 m1 r1 _ => by
    obtain ⟨d, e2, q⟩ := px_opt px
    rw [hy.hK]
    exact lrv_ok (G := G.wx Y) m1 r1 e2 (QQ.back q e1)⟩
theorem rps_rg {G : Gc} {φ : List Addr} {μ : Mem} {H : Hp} {lo : Int} {n : Nat} : G.rps φ μ H ((List.range n).map fun i => V.int (lo + (i : Nat))) (rngD lo n) := by
  unfold rngD
  generalize List.range n = r
  induction r with
  | nil => exact .nil
  | cons k r ih => exact .cons (.int _) ih
theorem s_lrg {p2 pos2 : Pos} {b : T} {e2 : Expr} (hq : ql = true) (hy : Hy g S xc G avc avg N kk ql X W) (hg : Gl X "list") (hg2 : Gl X "range") (ha : PE X e (RD S xc G W a)) (hb : PE X e2 (RD S xc G W b)) (h1 : starB e = false) (h2 : starB e2 = false) : PE X (.Call (.Name "list" p) [.Call (.Name "range" p2) [e, e2] [] pos2] [] pos) (RD S xc G W (.lrg a b)) :=
  (pe_listRg (hy.calm hq) hg (hy.blt _ (by decide +kernel)) (prg_2 hg2 (hy.blt _ (by decide +kernel)) ha hb (star_cons h1) (star_cons h2) (by rw [star_cons h2]; rfl)) (star_cons rfl)).imp fun σ H J0 ⟨Y, φ, μ, ε, m, p⟩ => two m p fun d1 μ1 d2 μ2 v u φ2 H2 e m2 r1 r2 p2 => by
    obtain ⟨d, e2, q⟩ := px_opt p2
    dsimp only at e2
    unfold lrgE at e2
    split at e2
    · cases r1; cases r2
      split at e2
      · rename_i z
        simp only [rngOk, Bool.and_eq_true, decide_eq_true_eq] at z
        cases Option.some.inj e2
        refine ⟨_, _, rfl, rfl, ⟨by omega, by omega, by omega, by omega, by omega⟩, ?_⟩
        exact new_list (G := G.wx Y) m2.ms rps_rg (QQ.back q e)
      · cases e2
    · cases e2
theorem s_lset {p2 pos2 : Pos} (hq : ql = true) (hy : Hy g S xc G avc avg N kk ql X W) (hg : Gl X "len") (hg2 : Gl X "set") (h : PE X e (RD S xc G W a)) (h1 : starB e = false) : PE X (.Call (.Name "len" p) [.Call (.Name "set" p2) [e] [] pos2] [] pos) (RD S xc G W (.lset a)) :=
  (pe_lenSetS (hy.calm hq) hg (hy.blt _ (by decide +kernel)) hg2 (hy.blt _ (by decide +kernel)) h (star_cons h1)).imp fun σ H Q ⟨Y, φ, μ, ε, m, p⟩ => ⟨Y, φ, μ, ε, m, px_mono (px_bind p) fun x px v H1 φ1 e1 m1 r1 _ => by
    obtain ⟨d, e2, q⟩ := px_opt px
    exact lset_ok (G := G.wx Y) m1 r1 e2 (QQ.back q e1)⟩
theorem s_lcount {o : Expr} {apos : Pos} (hy : Hy g S xc G avc avg N kk ql X W) (hbo : baseB o = true) (hl : (apos.endLine == pos.line) = true) (hn : (e :: es).length < 30) (ho : PE X o (RD S xc G W a)) (h : PA X (e :: es) (RDA S xc G W as)) (h1 : starB e = false) (h2 : es.all (fun e => !starB e) = true) : PE X (.Call (.Attribute o "count" apos) (e :: es) [] pos) (RD S xc G W (.sm .lcount a as)) := by
  have hfew : ((backTo pos (starEach (e :: es) X.env)).all (fun x => !x.1) && (backToKw pos (keywordEach [] X.env)).all (fun x => x.1.isSome) && decide ((e :: es).length + ([] : List Keyword).length + (if ([] : List Keyword).isEmpty then 0 else 1) < 30)) = true := by
    rw [star_all (by rw [List.all_cons, h1, h2]; rfl)]
    simp only [backToKw, keywordEach, List.map_nil, List.all_nil, Bool.true_and, List.isEmpty_nil, if_true, List.length_nil, Nat.add_zero]
    exact decide_eq_true hn
  refine (pe_bm PySem.F.plainAttrs_list PySem.F.slot_list_count PySem.F.type_list_count mt_lcountS ho h (base_of hbo) hfew hl (star_cons h1) (star_any h2)).imp fun σ H Q ⟨Y, φ, μ, ε, m, p⟩ => ⟨Y, φ, μ, ε, m, px_mono (px_bind p) fun x px v H1 φ1 e1 m1 r1 _ => ?_⟩
  split at px
  · rename_i ht
    obtain ⟨d, μ1⟩ := x
    simp only at ht px
    generalize e0 : top μ1 d = t at ht
    cases t <;> simp [smT] at ht
    obtain ⟨b, us, rfl, ra, r⟩ := top_lst m1 r1 e0
    refine ⟨.inl ⟨rfl, us, by rw [hy.hK]; exact sl_sq ra⟩, Y, φ1, μ1, ε, m.ex e1 m1, px_mono (px_bind (px_ex e1 px)) fun xs p2 vs H2 φ2 e2 m2 rs => ?_⟩
    obtain ⟨d', e3, q⟩ := px_opt p2
    show rCntS X.K _ _ _ _
    rw [hy.hK]
    exact lcount_ok (G := G.wx Y) m2 (Rp.ex m1 e2 r1) rs e3 (QQ.back q (e1.trans e2))
  · exact px.elim
theorem s_scount {o : Expr} {apos : Pos} (hy : Hy g S xc G avc avg N kk ql X W) (hbo : baseB o = true) (hl : (apos.endLine == pos.line) = true) (hn : (e :: es).length < 30) (ho : PE X o (RD S xc G W a)) (h : PA X (e :: es) (RDA S xc G W as)) (h1 : starB e = false) (h2 : es.all (fun e => !starB e) = true) : PE X (.Call (.Attribute o "count" apos) (e :: es) [] pos) (RD S xc G W (.sm .scount a as)) := by
  have hfew : ((backTo pos (starEach (e :: es) X.env)).all (fun x => !x.1) && (backToKw pos (keywordEach [] X.env)).all (fun x => x.1.isSome) && decide ((e :: es).length + ([] : List Keyword).length + (if ([] : List Keyword).isEmpty then 0 else 1) < 30)) = true := by
    rw [star_all (by rw [List.all_cons, h1, h2]; rfl)]
    simp only [backToKw, keywordEach, List.map_nil, List.all_nil, Bool.true_and, List.isEmpty_nil, if_true, List.length_nil, Nat.add_zero]
    exact decide_eq_true hn
  refine (pe_bm PySem.F.plainAttrs_str PySem.F.slot_str_count PySem.F.type_str_count mt_count ho h (base_of hbo) hfew hl (star_cons h1) (star_any h2)).imp fun σ H Q ⟨Y, φ, μ, ε, m, p⟩ => ⟨Y, φ, μ, ε, m, px_mono (px_bind p) fun x px v H1 φ1 e1 m1 r1 _ => ?_⟩
  split at px
  · rename_i ht
    obtain ⟨d, μ1⟩ := x
    simp only at ht px
    generalize e0 : top μ1 d = t at ht
    cases t <;> simp [smT] at ht
    obtain ⟨rfl, k⟩ := top_str m1 r1 e0
    refine ⟨rfl, Y, φ1, μ1, ε, m.ex e1 m1, px_mono (px_bind (px_ex e1 px)) fun xs p2 vs H2 φ2 e2 m2 rs => ?_⟩
    obtain ⟨d', e3, q⟩ := px_opt p2
    exact scount_ok (G := G.wx Y) m2 (Rp.ex m1 e2 r1) rs e3 (QQ.back q (e1.trans e2))
  · exact px.elim
theorem s_lcnb {o : Expr} {apos : Pos} (hy : Hy g S xc G avc avg N kk ql X W) (hbo : baseB o = true) (hl : (apos.endLine == pos.line) = true) (hn : (e :: es).length < 30) (ho : PE X o (RD S xc G W a)) (h : PA X (e :: es) (RDA S xc G W as)) (h1 : starB e = false) (h2 : es.all (fun e => !starB e) = true) : PE X (.Call (.Attribute o "count" apos) (e :: es) [] pos) (RD S xc G W (.sm .lcnb a as)) := by
  have hfew : ((backTo pos (starEach (e :: es) X.env)).all (fun x => !x.1) && (backToKw pos (keywordEach [] X.env)).all (fun x => x.1.isSome) && decide ((e :: es).length + ([] : List Keyword).length + (if ([] : List Keyword).isEmpty then 0 else 1) < 30)) = true := by
    rw [star_all (by rw [List.all_cons, h1, h2]; rfl)]
    simp only [backToKw, keywordEach, List.map_nil, List.all_nil, Bool.true_and, List.isEmpty_nil, if_true, List.length_nil, Nat.add_zero]
    exact decide_eq_true hn
  refine (pe_bm PySem.F.plainAttrs_list PySem.F.slot_list_count PySem.F.type_list_count mt_lcountB ho h (base_of hbo) hfew hl (star_cons h1) (star_any h2)).imp fun σ H Q ⟨Y, φ, μ, ε, m, p⟩ => ⟨Y, φ, μ, ε, m, px_mono (px_bind p) fun x px v H1 φ1 e1 m1 r1 _ => ?_⟩
  split at px
  · rename_i ht
    obtain ⟨d, μ1⟩ := x
    simp only at ht px
    generalize e0 : top μ1 d = t at ht
    cases t <;> simp [smT] at ht
    obtain ⟨b, us, rfl, ra, r⟩ := top_lst m1 r1 e0
    refine ⟨.inl ⟨rfl, us, by rw [hy.hK]; exact sl_sq ra⟩, Y, φ1, μ1, ε, m.ex e1 m1, px_mono (px_bind (px_ex e1 px)) fun xs p2 vs H2 φ2 e2 m2 rs => ?_⟩
    obtain ⟨d', e3, q⟩ := px_opt p2
    show rCntB X.K _ _ _ _
    rw [hy.hK]
    exact lcnb_ok (G := G.wx Y) m2 (Rp.ex m1 e2 r1) rs e3 (QQ.back q (e1.trans e2))
  · exact px.elim
theorem s_sidx {o : Expr} {apos : Pos} (hy : Hy g S xc G avc avg N kk ql X W) (hbo : baseB o = true) (hl : (apos.endLine == pos.line) = true) (hn : (e :: es).length < 30) (ho : PE X o (RD S xc G W a)) (h : PA X (e :: es) (RDA S xc G W as)) (h1 : starB e = false) (h2 : es.all (fun e => !starB e) = true) : PE X (.Call (.Attribute o "index" apos) (e :: es) [] pos) (RD S xc G W (.sm .sidx a as)) := by
  have hfew : ((backTo pos (starEach (e :: es) X.env)).all (fun x => !x.1) && (backToKw pos (keywordEach [] X.env)).all (fun x => x.1.isSome) && decide ((e :: es).length + ([] : List Keyword).length + (if ([] : List Keyword).isEmpty then 0 else 1) < 30)) = true := by
    rw [star_all (by rw [List.all_cons, h1, h2]; rfl)]
    simp only [backToKw, keywordEach, List.map_nil, List.all_nil, Bool.true_and, List.isEmpty_nil, if_true, List.length_nil, Nat.add_zero]
    exact decide_eq_true hn
  refine (pe_bm PySem.F.plainAttrs_str PySem.F.slot_str_index PySem.F.type_str_index mt_sindex ho h (base_of hbo) hfew hl (star_cons h1) (star_any h2)).imp fun σ H Q ⟨Y, φ, μ, ε, m, p⟩ => ⟨Y, φ, μ, ε, m, px_mono (px_bind p) fun x px v H1 φ1 e1 m1 r1 _ => ?_⟩
  split at px
  · rename_i ht
    obtain ⟨d, μ1⟩ := x
    simp only at ht px
    generalize e0 : top μ1 d = t at ht
    cases t <;> simp [smT] at ht
    obtain ⟨rfl, k⟩ := top_str m1 r1 e0
    refine ⟨rfl, Y, φ1, μ1, ε, m.ex e1 m1, px_mono (px_bind (px_ex e1 px)) fun xs p2 vs H2 φ2 e2 m2 rs => ?_⟩
    obtain ⟨d', e3, q⟩ := px_opt p2
    exact sidx_ok (G := G.wx Y) m2 (Rp.ex m1 e2 r1) rs e3 (QQ.back q (e1.trans e2))
  · exact px.elim
theorem s_split {o : Expr} {apos : Pos} (hy : Hy g S xc G avc avg N kk ql X W) (hbo : baseB o = true) (hl : (apos.endLine == pos.line) = true) (hn : (e :: es).length < 30) (ho : PE X o (RD S xc G W a)) (h : PA X (e :: es) (RDA S xc G W as)) (h1 : starB e = false) (h2 : es.all (fun e => !starB e) = true) : PE X (.Call (.Attribute o "split" apos) (e :: es) [] pos) (RD S xc G W (.sm .split a as)) := by
  have hfew : ((backTo pos (starEach (e :: es) X.env)).all (fun x => !x.1) && (backToKw pos (keywordEach [] X.env)).all (fun x => x.1.isSome) && decide ((e :: es).length + ([] : List Keyword).length + (if ([] : List Keyword).isEmpty then 0 else 1) < 30)) = true := by
    rw [star_all (by rw [List.all_cons, h1, h2]; rfl)]
    simp only [backToKw, keywordEach, List.map_nil, List.all_nil, Bool.true_and, List.isEmpty_nil, if_true, List.length_nil, Nat.add_zero]
    exact decide_eq_true hn
  refine (pe_bm PySem.F.plainAttrs_str PySem.F.slot_str_split PySem.F.type_str_split mt_split ho h (base_of hbo) hfew hl (star_cons h1) (star_any h2)).imp fun σ H Q ⟨Y, φ, μ, ε, m, p⟩ => ⟨Y, φ, μ, ε, m, px_mono (px_bind p) fun x px v H1 φ1 e1 m1 r1 _ => ?_⟩
  split at px
  · rename_i ht
    obtain ⟨d, μ1⟩ := x
    simp only at ht px
    generalize e0 : top μ1 d = t at ht
    cases t <;> simp [smT] at ht
    obtain ⟨rfl, k⟩ := top_str m1 r1 e0
    refine ⟨rfl, Y, φ1, μ1, ε, m.ex e1 m1, px_mono (px_bind (px_ex e1 px)) fun xs p2 vs H2 φ2 e2 m2 rs => ?_⟩
    obtain ⟨d', e3, q⟩ := px_opt p2
    exact split_ok (G := G.wx Y) m2 (Rp.ex m1 e2 r1) rs e3 (QQ.back q (e1.trans e2))
  · exact px.elim
theorem s_rvl {k : Nat} {p1 p2 p3 : Pos} (hy : Hy g S xc G avc avg N kk ql X W) (h : PE X e (RD S xc G W a)) : PE X (.Subscript e (.Slice none none (some (.UnaryOp .USub (.Constant (.int 1) k p1) p2)) p3) pos) (RD S xc G W (.rvl a)) :=
  (pe_revB h).imp fun σ H Q ⟨Y, φ, μ, ε, m, p⟩ => ⟨Y, φ, μ, ε, m, px_mono (px_bind p) fun x px v H1 φ1 e1 m1 r1 _ => by
    obtain ⟨d, e2, q⟩ := px_opt px
    rw [hy.hK]
    exact rvl_ok (G := G.wx Y) m1 r1 e2 (QQ.back q e1)⟩
theorem s_join {o : Expr} {apos : Pos} (hy : Hy g S xc G avc avg N kk ql X W) (hbo : baseB o = true) (hl : (apos.endLine == pos.line) = true) (hn : (e :: es).length < 30) (ho : PE X o (RD S xc G W a)) (h : PA X (e :: es) (RDA S xc G W as)) (h1 : starB e = false) (h2 : es.all (fun e => !starB e) = true) : PE X (.Call (.Attribute o "join" apos) (e :: es) [] pos) (RD S xc G W (.sm .join a as)) := by
  have hfew : ((backTo pos (starEach (e :: es) X.env)).all (fun x => !x.1) && (backToKw pos (keywordEach [] X.env)).all (fun x => x.1.isSome) && decide ((e :: es).length + ([] : List Keyword).length + (if ([] : List Keyword).isEmpty then 0 else 1) < 30)) = true := by
    rw [star_all (by rw [List.all_cons, h1, h2]; rfl)]
    simp only [backToKw, keywordEach, List.map_nil, List.all_nil, Bool.true_and, List.isEmpty_nil, if_true, List.length_nil, Nat.add_zero]
    exact decide_eq_true hn
  refine (pe_bm PySem.F.plainAttrs_str PySem.F.slot_str_join PySem.F.type_str_join mt_join ho h (base_of hbo) hfew hl (star_cons h1) (star_any h2)).imp fun σ H Q ⟨Y, φ, μ, ε, m, p⟩ => ⟨Y, φ, μ, ε, m, px_mono (px_bind p) fun x px v H1 φ1 e1 m1 r1 _ => ?_⟩
  split at px
  · rename_i ht
    obtain ⟨d, μ1⟩ := x
    simp only at ht px
    generalize e0 : top μ1 d = t at ht
    cases t <;> simp [smT] at ht
    obtain ⟨rfl, k⟩ := top_str m1 r1 e0
    refine ⟨rfl, Y, φ1, μ1, ε, m.ex e1 m1, px_mono (px_bind (px_ex e1 px)) fun xs p2 vs H2 φ2 e2 m2 rs => ?_⟩
    obtain ⟨d', e3, q⟩ := px_opt p2
    show rJoin X.K _ _ _ _
    rw [hy.hK]
    exact join_ok (G := G.wx Y) m2 (Rp.ex m1 e2 r1) rs e3 (QQ.back q (e1.trans e2))
  · exact px.elim
theorem s_jrv {o : Expr} {apos p2 pos2 : Pos} (hq : ql = true) (hy : Hy g S xc G avc avg N kk ql X W) (hg : Gl X "reversed") (hbo : baseB o = true) (hl : (apos.endLine == pos.line) = true) (ho : PE X o (RD S xc G W a)) (h : PE X e (RD S xc G W b)) (h1 : starB e = false) :
    PE X (.Call (.Attribute o "join" apos) [.Call (.Name "reversed" p2) [e] [] pos2] [] pos) (RD S xc G W (.jrv a b)) := by
  refine (pe_joinRev (hy.calm hq) ho hg (hy.blt _ (by decide +kernel)) h (star_cons rfl) (star_cons h1) (base_of hbo) hl).imp fun σ H Q ⟨Y, φ, μ, ε, m, p⟩ => ⟨Y, φ, μ, ε, m, px_mono (px_bind p) fun x px v H1 φ1 e1 m1 r1 _ => ?_⟩
  split at px
  · rename_i ht
    obtain ⟨d, μ1⟩ := x
    simp only at ht px
    generalize e0 : top μ1 d = t at ht
    cases t <;> simp [smT] at ht
    rename_i s0
    obtain ⟨rfl, k⟩ := top_str m1 r1 e0
    refine ⟨⟨_, rfl⟩, Y, φ1, μ1, ε, m.ex e1 m1, px_mono (px_bind (px_ex e1 px)) fun y p2 v2 H2 φ2 e2 m2 r2 _ => ?_⟩
    obtain ⟨d', e3, q⟩ := px_opt p2
    obtain ⟨d2, μ2⟩ := y
    simp only at e3 q m2 r2 e2
    have r1' := Rp.ex m1 e2 r1
    generalize f1 : top μ2 d = t1 at e3
    generalize f2 : top μ2 d2 = t2 at e3
    unfold jrvE at e3
    split at e3
    · rename_i x'
      split at e3
      · rename_i hz
        obtain ⟨z1, k1⟩ := top_str m2 r1' f1
        obtain ⟨rfl, k2⟩ := top_str m2 r2 f2
        cases Option.some.inj e3
        refine ⟨_, _, z1, rfl, rfl, by rw [mkS_len, sizeLine_eq]; exact hz, ?_⟩
        rw [join_ones]
        exact qq_str (G := G.wx Y) m2 (okS_sub k2 fun e he => List.mem_reverse.mp he) (QQ.back q (e1.trans e2))
      · cases e3
    · cases e3
  · exact px.elim
end
end DM
set_option Elab.async false
set_option linter.all false
set_option maxRecDepth 100000
set_option maxHeartbeats 4000000
namespace DM
open PySem L2 PySem.Spec PyProof.Rows
section
variable {X : Cx} {e : Expr} {es : List Expr} {t : TA} {x : Str} {p pos : Pos} {C : Addr}
theorem isAt_ok {P : Program} {w : World} {H : Hp} {h : Heap} {a : Addr} {oe : Obj} (ht : h.get? a = some oe) : ObjOk P w H h a (isAt a oe) := ⟨ht, ⟨_, ht⟩, fun h1 h2 p st => st _ p⟩
/-- what makes an exception gives one back -/
theorem pe_pmk {w : L2.St → Hp → XK → Prop} (h : PMk X e w) : PE X e (fun σ H Q => w σ H fun cls d H' => ∀ a oe, H' a = none → Zc cls d oe → (∃ vs, oe.data = .fields vs) → Q (.ref a) (upd H' a (isAt a oe))) := by
  refine ⟨fun pins s σ H Q I hq => wpAny_mono (h pins s σ H _ I hq) (fun u s1 hu => ?_) fun _ _ x => x⟩
  obtain ⟨a, oe, vs, sI, H', cls, d, rfl, J, k, hne, ha, hz, hd, h1, na, os, ag, r, q⟩ := hu
  have K := Inv.laidN (o := isAt a oe) (t' := s1.toks) J k hne na (isAt_ok ha)
  exact ⟨.ref a, _, ⟨K.ok, os.trans J.os, ag, K.base, K.loc, K.cell, K.free, K.freeC, K.pin, K.hok, K.len⟩, rfl, q a oe na hz ⟨_, hd⟩⟩
/-- C(e), a plain class -/
theorem pe_excA {bmB : List Value} {B newId initId : String} (F : ExcBaseFacts B newId initId bmB) (q : PySem.W.excIn X.K C bmB newId = true) (gC : X.mg x = some (.ref C)) (kC : PySem.W.keepIn X.K (.ref C) = true) (hg : Gl X x)
    (ha : PA X (e :: es) t) (hdb : (x == ("__debug__" : Str)) = false) (h1 : starEach (e :: es) X.env = (false, eval e X.env) :: starEach es X.env) (h2 : (backTo pos (starEach es X.env)).any (·.1) = false) :
    PE X (.Call (.Name x p) (e :: es) [] pos) (fun σ H Q => t σ H fun vs H1 => vs.length = 1 ∧ ∀ a oe, H1 a = none → Zc (.ref C) none oe → (∃ vs, oe.data = .fields vs) → Q (.ref a) (upd H1 a (isAt a oe))) := by
  refine ⟨fun pins s σ H Q I h => ?_⟩
  refine wpAny_Call_Name_kw (ld_glob I hg gC ?_ hdb)
  refine PySem.W.callWith_K (h₀ := X.base) I.ok.mod.kin kC (thn (ha.run pos pins s σ H _ I h) fun us s1 ⟨vs, H1, I1, r1, hl, q1⟩ => ⟨I1.kIn, ?_⟩) h1 h2
  obtain ⟨u, rfl⟩ : ∃ u, us = [u] := by
    have := r1.length
    rw [hl] at this
    exact List.length_eq_one_iff.mp this.symm
  show wpAny _ _ (call (.ref C) [u]) _ _ _
  obtain ⟨bm, N, nm, qn, bs, hdct, sn, sub, ab, col, dd, k0, k1, k2, k3, k5, mN, hC, hN, hni, T⟩ := exc_obj I1.kIn q
  refine wpAny_call_exc_subT F T hC hN hni (fun h' a hm => ?_) (by show 1 ≤ sizeLine; rw [sizeLine_eq]; omega)
  have hn : H1 a = none := I1.hok.gone hm.new
  obtain ⟨t, ht, _, _⟩ := hm.there
  have K := I1.laidN (t' := s1.toks) hm.keeps hm.new hn (isAt_ok ht)
  refine ⟨.ref a, _, K, rfl, q1 a _ hn ?_ ?_⟩
  · exact ⟨rfl, rfl⟩
  · exact ⟨_, rfl⟩
end
section
variable {G : Gc} {φ : List Addr} {μ : Mem} {H : Hp} {fr : Bool} {Q : VK} {vs : List V} {ds : List D}
theorem new_exc (m : Ms G φ μ H) {a C : Addr} {c : Nat} {ns : List Str} {oe : Obj} {dd : Option Addr} (ha : H a = none) (hc : G.cl.x c = some (C, ns)) (z : Zc (.ref C) dd oe) (f : ∃ vs, oe.data = .fields vs) (hd : Xd H ns dd vs) (hl : ns.length = vs.length) (r : G.rps φ μ H vs ds) (q : QQ G φ μ H μ fr (.exc c ds) Q) : Q (.ref a) (upd H a (isAt a oe)) :=
  q _ _ φ (Ex.same (same_upd ha)) (m.same (same_upd ha)) (.exc upd_same (m.fresh ha) hc z f (hd.keep fun b fs k => same_upd ha _ _ k) hl (Rps.mono (same_upd ha) (fun _ _ _ z => z) _ _ r)) fun _ z => z.elim
end
section
variable {g : Sg} {avc avg : Nat → Bool} {N : List Str} {kk : Nat} {ql : Bool}
variable {S : Mn} {xc : Xc} {G : Gc} {W : WX} {X : Cx} {e e1 e2 e3 : Expr} {es : List Expr} {a b : T} {as : Ts} {pos p : Pos} {x : Str}
theorem s_mke {c : Nat} (hq : ql = true) (hy : Hy g S xc G avc avg N kk ql X W) (hx : g.cnm c = x) (hg : Gl X x) (hdb : (x == ("__debug__" : Str)) = false) (h : PA X (e :: es) (RDA S xc G W as)) (h1 : starB e = false) (h2 : es.all (fun e => !starB e) = true) :
    PE X (.Call (.Name x p) (e :: es) [] pos) (RD S xc G W (.mke c as)) := by
  cases h0 : S.xar c with
  | none =>
    refine ⟨fun pins s σ H Q I ⟨Y, φ, μ, ε, m, q⟩ => ?_⟩
    have q : PX xc (G.wx Y) W σ φ μ H (match S.xar c with | some n => (evs S as ε μ).bind fun xs => opt (mkeE c n xs.1) xs.2 | none => .bad) fun p => QQ (G.wx Y) φ μ H p.2 false p.1 Q := q
    rw [h0] at q
    exact q.elim
  | some n =>
    obtain ⟨C, ns, k1, k2, k3, k4, k5⟩ := hy.xks c n h0
    rw [hx] at k3
    have open_ : ∀ {σ : L2.St} {H : Hp} {Q : VK}, RD S xc G W (.mke c as) σ H Q → RDA S xc G W as σ H fun vs H1 => ∃ Y φ μ φ1 μ1 ds, Ex φ μ H φ1 μ1 H1 ∧ Ms (G.wx Y) φ1 μ1 H1 ∧ (G.wx Y).rps φ1 μ1 H1 vs ds ∧ ds.length = max n 1 ∧ n < 900 ∧ QQ (G.wx Y) φ μ H μ1 false (.exc c (ds.take n).reverse) Q := by
      intro σ H Q ⟨Y, φ, μ, ε, m, q⟩
      have q : PX xc (G.wx Y) W σ φ μ H (match S.xar c with | some n => (evs S as ε μ).bind fun xs => opt (mkeE c n xs.1) xs.2 | none => .bad) fun p => QQ (G.wx Y) φ μ H p.2 false p.1 Q := q
      rw [h0] at q
      refine ⟨Y, φ, μ, ε, m, px_mono (px_bind q) fun xs px vs H1 φ1 e1 m1 rs => ?_⟩
      obtain ⟨d, e2, q⟩ := px_opt px
      unfold mkeE at e2
      split at e2
      · rename_i z
        simp only [Bool.and_eq_true, decide_eq_true_eq] at z
        cases Option.some.inj e2
        exact ⟨Y, φ, μ, φ1, xs.2, xs.1, e1, m1, rs, z.1, z.2, q⟩
      · cases e2
    cases n with
    | zero =>
      have pl := k4 rfl
      have nz : ns = [] := List.length_eq_zero_iff.mp k2
      subst nz
      refine (pe_excA PySem.F.excBase_ValueError pl.ex k3 pl.kp hg h hdb (star_cons h1) (star_any h2)).imp fun σ H Q q => ?_
      obtain ⟨Y, φ0, μ0, ε0, m0, q0⟩ := open_ q
      refine ⟨Y, φ0, μ0, ε0, m0, px_mono q0 fun xs k vs H1 φ1 e1 m1 rs => ?_⟩
      obtain ⟨Y2, φ, μ, φ2, μ2, ds, e2, m2, r2, hl, _, qq⟩ := k vs H1 φ1 e1 m1 rs
      refine ⟨by rw [r2.length]; simpa using hl, fun a oe ha hz hf => ?_⟩
      exact new_exc (G := G.wx Y2) (vs := []) (ds := []) m2 ha (show G.cl.x c = some (C, []) by rw [hy.hxc]; exact k1) hz hf (.inl ⟨rfl, rfl⟩) rfl .nil (QQ.back (by simpa using qq) e2)
    | succ n =>
      obtain ⟨f, fd, ps, T, iC, tI, hb, F⟩ := k5 (by omega)
      refine (pe_pmk (pmk_oex (dvs := []) (ds := []) T iC tI F (hy.room hq) hb .nil (fun pins σ H s e s' I x => False.elim (by
        obtain ⟨_, _, _, _, _, _, _, _, _, _, _, _, z⟩ := x
        exact z)) hg k3 h hdb (star_cons h1) (star_any h2))).imp fun σ H Q q => ?_
      obtain ⟨Y, φ0, μ0, ε0, m0, q0⟩ := open_ q
      refine ⟨Y, φ0, μ0, ε0, m0, px_mono q0 fun xs k vs H1 φ1 e1 m1 rs => ?_⟩
      obtain ⟨Y2, φ, μ, φ2, μ2, ds, e2, m2, r2, hl, hn, qq⟩ := k vs H1 φ1 e1 m1 rs
      have hlen := r2.length
      have hl' : ds.length = n + 1 := by rw [hl]; omega
      refine ⟨by omega, fun a ha => ⟨a, vs, by simp, upd_same, by omega, fun d H' hd off he hdd => ⟨rfl, d, _, he, hdd, ?_, ?_⟩⟩⟩
      · by_cases z : d = a
        · subst z; exact ha
        · rw [upd_ne z] at hd; exact hd
      · have hd1 : H1 d = none := by
          by_cases z : d = a
          · subst z; exact ha
          · rw [upd_ne z] at hd; exact hd
        have sm : Same H1 (upd (del H' a) d (.xd (ns.zip vs.reverse))) := fun b o q => by
          have ba : b ≠ a := ne_of_none q ha
          have bd : b ≠ d := ne_of_none q hd1
          rw [upd_ne bd, del_ne ba]
          exact off b o ba (by rw [upd_ne ba]; exact q)
        intro a2 oe ha2 hz hf
        rw [List.take_of_length_le (by omega)] at qq
        refine new_exc (G := G.wx Y2) (vs := vs.reverse) (ds := ds.reverse) (m2.same sm) ha2 (show G.cl.x c = some (C, ns) by rw [hy.hxc]; exact k1) hz hf (.inr ⟨fun z => by subst z; simp at k2, d, rfl, upd_same⟩) (by rw [List.length_reverse]; omega) ?_ (QQ.back qq (e2.trans (Ex.same sm)))
        exact (Rps.mono sm (fun _ _ _ z => z) _ _ r2).reverse
theorem s_lrg1 {p2 pos2 : Pos} {b : T} {e2 : Expr} (hq : ql = true) (hy : Hy g S xc G avc avg N kk ql X W) (hg : Gl X "list") (hg2 : Gl X "range") (hb : PE X e2 (RD S xc G W b)) (h2 : starB e2 = false) : PE X (.Call (.Name "list" p) [.Call (.Name "range" p2) [e2] [] pos2] [] pos) (RD S xc G W (.lrg (.lit (.int 0)) b)) :=
  (pe_listRg (hy.calm hq) hg (hy.blt _ (by decide +kernel)) (prg_1 hg2 (hy.blt _ (by decide +kernel)) hb (star_cons h2)) (star_cons rfl)).imp fun σ H J0 ⟨Y, φ, μ, ε, m, p⟩ => ⟨Y, φ, μ, ε, m, px_mono (px_bind (show PX xc (G.wx Y) W σ φ μ H ((ev S b ε μ).bind fun y => opt (lrgE (.int 0) y.1) y.2) _ from p)) fun y px v H1 φ1 e1 m1 r1 _ => by
    obtain ⟨d, e2, q⟩ := px_opt px
    unfold lrgE at e2
    split at e2
    · rename_i i j z1 z2
      cases z1
      rw [z2] at r1
      cases r1
      split at e2
      · rename_i z
        simp only [rngOk, Bool.and_eq_true, decide_eq_true_eq] at z
        cases Option.some.inj e2
        refine ⟨_, rfl, ⟨by omega, by omega, by omega, by omega, by omega⟩, ?_⟩
        exact new_list (G := G.wx Y) m1 rps_rg (QQ.back q e1)
      · cases e2
    · cases e2⟩
end
end DM
set_option Elab.async false
set_option linter.all false
set_option maxRecDepth 100000
set_option maxHeartbeats 4000000
namespace DM
open PySem L2 PySem.Spec PyProof.Rows
theorem bind_ok {α β : Type} {r : DM.R α} {f : α → DM.R β} {b : β} (h : r.bind f = .ok b) : ∃ a, r = .ok a ∧ f a = .ok b := by
  cases r with
  | ok a => exact ⟨a, rfl, h⟩
  | ex x => cases h
  | bad => cases h
theorem r_inj {α : Type} {a b : α} (h : DM.R.ok a = DM.R.ok b) : a = b := by cases h; rfl
/-- what is left of a comprehension's turns: n bounds them -/
def Rst (tg : Tg) (ε : Ev) (cd : Ev → Mem → Rd0) (elt : Ev → Mem → Rd0) (w : Iv) (i : Nat) (μ : Mem) (n : Nat) (rest : List D × Mem) : Prop :=
  match w with
  | .its ds => n = ds.length - i ∧ i ≤ ds.length ∧ ds.length < 16777216 ∧ goLc tg ε cd elt (ds.drop i) μ = .ok rest
  | .liv k => goLcL tg ε cd elt k n i μ = .ok rest
section
variable {tg : Tg} {ε : Ev} {cd elt : Ev → Mem → Rd0} {w : Iv} {i : Nat} {μ : Mem} {n : Nat} {rest : List D × Mem}
theorem rst_step (h : Rst tg ε cd elt w i μ n rest) : (itAt w μ i = some none ∧ rest = ([], μ)) ∨ ∃ d ε1 b n', itAt w μ i = some (some d) ∧ binds tg μ d ε = some ε1 ∧ cd ε1 μ = .ok b ∧ n' < n ∧ i < 16777215 ∧
    ((b.1 = .bl true ∧ ∃ x xs, elt ε1 b.2 = .ok x ∧ Rst tg ε cd elt w (i + 1) x.2 n' xs ∧ rest = (x.1 :: xs.1, xs.2)) ∨ (b.1 = .bl false ∧ Rst tg ε cd elt w (i + 1) b.2 n' rest)) := by
  cases w with
  | its ds =>
    obtain ⟨h1, h2, h3, h4⟩ := h
    by_cases hlt : i < ds.length
    · right
      obtain ⟨d, hd⟩ : ∃ d, ds[i]? = some d := ⟨ds[i], by simp [hlt]⟩
      have hdr : ds.drop i = d :: ds.drop (i + 1) := by
        rw [List.drop_eq_getElem_cons hlt]
        have : ds[i] = d := by
          have := List.getElem?_eq_getElem hlt
          rw [hd] at this; exact (Option.some.inj this).symm
        rw [this]
      rw [hdr, goLc] at h4
      cases hb : binds tg μ d ε with
      | none => rw [hb] at h4; cases h4
      | some ε1 =>
        rw [hb] at h4
        simp only at h4
        obtain ⟨b, hcb, h4⟩ := bind_ok h4
        refine ⟨d, ε1, b, ds.length - (i + 1), by show some ds[i]? = _; rw [hd], hb, hcb, by omega, by omega, ?_⟩
        obtain ⟨db, μb⟩ := b
        cases db with
        | bl b =>
          cases b with
          | true =>
            obtain ⟨x, hx, h4⟩ := bind_ok h4
            obtain ⟨xs, hxs, h4⟩ := bind_ok h4
            exact .inl ⟨rfl, x, xs, hx, ⟨rfl, hlt, h3, hxs⟩, (r_inj h4).symm⟩
          | false => exact .inr ⟨rfl, rfl, hlt, h3, h4⟩
        | _ => cases h4
    · left
      have hi : i = ds.length := by omega
      rw [hi, List.drop_length] at h4
      exact ⟨by show some ds[i]? = _; rw [List.getElem?_eq_none (by omega)], (r_inj h4).symm⟩
  | liv k =>
    have h : goLcL tg ε cd elt k n i μ = .ok rest := h
    cases n with
    | zero => cases h
    | succ n =>
      rw [goLcL] at h
      split at h
      · cases h
      · rename_i e; exact .inl ⟨e, (r_inj h).symm⟩
      · rename_i d e
        right
        split at h
        · cases h
        · rename_i hi
          cases hb : binds tg μ d ε with
          | none => rw [hb] at h; cases h
          | some ε1 =>
            rw [hb] at h
            simp only at h
            obtain ⟨b, hcb, h⟩ := bind_ok h
            refine ⟨d, ε1, b, n, e, hb, hcb, Nat.lt_succ_self n, by omega, ?_⟩
            obtain ⟨db, μb⟩ := b
            cases db with
            | bl b =>
              cases b with
              | true =>
                obtain ⟨x, hx, h⟩ := bind_ok h
                obtain ⟨xs, hxs, h⟩ := bind_ok h
                exact .inl ⟨rfl, x, xs, hx, hxs, (r_inj h).symm⟩
              | false => exact .inr ⟨rfl, h⟩
            | _ => cases h
end
section
variable {g : Sg} {avc avg : Nat → Bool} {N : List Str} {kk : Nat} {ql : Bool}
variable {S : Mn} {xc : Xc} {G : Gc} {W : WX} {X : Cx} {e e1 e2 e3 : Expr} {es : List Expr} {a b c : T} {as : Ts} {pos p : Pos} {x : Str}
theorem s_seq (hK : X.K = G.K) (hh : G.cl.hs = fun k => k.hash X.w) {tgE : Expr} (h : PE X e (RD S xc G W a)) : PI X tgE e (RDI S xc G W (.seq a)) :=
  (pi_any h).imp fun σ H J0 ⟨Y, φ, μ, ε, m, p⟩ => ⟨Y, φ, μ, ε, m, px_mono (px_bind p) fun x px v H1 φ1 e1 m1 r1 _ => by
    cases e2 : seqE x.2 x.1 with
    | none => rw [e2] at px; exact px.elim
    | some w =>
      rw [e2] at px
      rw [hK, ← hh]
      exact seq_ok (G := G.wx Y) m1 r1 e2 fun J wk => px J H1 φ1 e1 m1 wk⟩
theorem rngOk_of {i : Int} (h : rngOk i = true) : -(2 ^ 62) ≤ i ∧ i < 2 ^ 62 := by
  simp only [rngOk, Bool.and_eq_true, decide_eq_true_eq] at h
  exact ⟨by omega, by omega⟩
theorem s_r1 (hy : Hy g S xc G avc avg N kk ql X W) (hg : Gl X "range") {tgE : Expr} (h : PE X e (RD S xc G W a)) (h1 : starB e = false) : PI X tgE (.Call (.Name "range" p) [e] [] pos) (RDI S xc G W (.r1 a)) :=
  (pi_range1 hg (hy.blt _ (by decide +kernel)) (pa_cons h pa_nil (star_cons h1)) (star_cons h1)).imp fun σ H J0 ⟨Y, φ, μ, ε, m, p⟩ => ⟨Y, φ, μ, ε, m, px_mono (px_bind p) fun x px v H1 φ1 e1 m1 r1 _ => by
    obtain ⟨d, μ1⟩ := x
    cases d with
    | int i =>
      cases r1
      simp only at px
      split at px
      · rename_i z
        obtain ⟨z1, z2⟩ := rngOk_of z
        exact ⟨i, rfl, z1, z2, px _ _ φ1 e1 m1 wk_rng⟩
      · exact px.elim
    | _ => exact px.elim⟩
theorem s_r2 (hy : Hy g S xc G avc avg N kk ql X W) (hg : Gl X "range") {tgE : Expr} (ha : PE X e (RD S xc G W a)) (hb : PE X e2 (RD S xc G W b)) (h1 : starB e = false) (h2 : starB e2 = false) : PI X tgE (.Call (.Name "range" p) [e, e2] [] pos) (RDI S xc G W (.r2 a b)) :=
  (pi_range2 hg (hy.blt _ (by decide +kernel)) (pa_cons ha (pa_cons hb pa_nil (star_cons h2)) (star_cons h1)) (by rw [star_cons h1, star_cons h2]; rfl) (star_cons h2)).imp fun σ H J0 ⟨Y, φ, μ, ε, m, p⟩ => two m p fun d1 μ1 d2 μ2 v u φ2 H2 e m2 r1 r2 p2 => by
    simp only at p2
    split at p2
    · cases r1; cases r2
      split at p2
      · rename_i z
        rw [Bool.and_eq_true] at z
        obtain ⟨z1, z2⟩ := rngOk_of z.1
        obtain ⟨z3, z4⟩ := rngOk_of z.2
        exact ⟨_, _, rfl, ⟨z1, z2, z3, z4⟩, p2 _ _ φ2 e m2.ms wk_rng⟩
      · exact p2.elim
    · exact p2.elim
theorem s_enm (hy : Hy g S xc G avc avg N kk ql X W) (hg : Gl X "enumerate") {elts : List Expr} {kk' : Nat} {tpos : Pos} (h : PE X e (RD S xc G W a)) (h1 : starB e = false) : PI X (.Tuple elts kk' tpos) (.Call (.Name "enumerate" p) [e] [] pos) (RDI S xc G W (.enm a)) :=
  (pi_enum hg (hy.blt _ (by decide +kernel)) (pa_cons h pa_nil (star_cons h1)) (star_cons h1)).imp fun σ H J0 ⟨Y, φ, μ, ε, m, p⟩ => ⟨Y, φ, μ, ε, m, px_mono (px_bind p) fun x px v H1 φ1 e1 m1 r1 _ => by
    obtain ⟨d, μ1⟩ := x
    cases d with
    | lst ds =>
      obtain ⟨A, vs, rfl, f, r⟩ := lst_fz r1
      exact ⟨A, vs, rfl, by rw [hy.hK]; exact sl_sq f.sl, by rw [hy.hK]; exact px _ _ φ1 e1 m1 (wk_enm m1 f r)⟩
    | _ => exact px.elim⟩
theorem s_zp (hy : Hy g S xc G avc avg N kk ql X W) (hg : Gl X "zip") {elts : List Expr} {kk' : Nat} {tpos : Pos} (ha : PE X e (RD S xc G W a)) (hb : PE X e2 (RD S xc G W b)) (h1 : starB e = false) (h2 : starB e2 = false) : PI X (.Tuple elts kk' tpos) (.Call (.Name "zip" p) [e, e2] [] pos) (RDI S xc G W (.zp a b)) :=
  (pi_zipS hg (hy.blt _ (by decide +kernel)) (pa_cons ha (pa_cons hb pa_nil (star_cons h2)) (star_cons h1)) (star_cons h1) (star_any (by rw [List.all_cons, h2]; rfl))).imp fun σ H J0 ⟨Y, φ, μ, ε, m, p⟩ => two m p fun d1 μ1 d2 μ2 v u φ2 H2 e m2 r1 r2 p2 => by
    simp only at p2
    cases d2 with
    | lst es =>
      obtain ⟨B, ws, rfl, f', r'⟩ := lst_fz r2
      cases d1 with
      | lst ds =>
        obtain ⟨A, vs, rfl, f, r⟩ := lst_fz r1
        exact .inl ⟨A, B, vs, ws, rfl, by rw [hy.hK]; exact sl_sq f.sl, by rw [hy.hK]; exact sl_sq f'.sl, by rw [hy.hK]; exact p2 _ _ φ2 e m2.ms (wk_zip m2.ms f r f' r')⟩
      | str x =>
        cases r1 with
        | str _ k => exact .inr (.inl ⟨_, B, ws, rfl, by rw [hy.hK]; exact sl_sq f'.sl, by rw [hy.hK]; exact p2 _ _ φ2 e m2.ms (wk_zipS m2.ms k f' r')⟩)
      | _ => exact p2.elim
    | tup es =>
      cases d1 with
      | lst ds =>
        obtain ⟨A, vs, rfl, f, r⟩ := lst_fz r1
        cases r2 with
        | tup h' r' => exact .inr (.inr ⟨A, _, vs, _, rfl, by rw [hy.hK]; exact sl_sq f.sl, by rw [hy.hK]; exact h', by rw [hy.hK]; exact p2 _ _ φ2 e m2.ms (wk_zipLT m2.ms f r h' r')⟩)
      | _ => exact p2.elim
    | _ => cases d1 <;> exact p2.elim
def setB : Expr → Bool | .Set .. => true | _ => false
theorem foldedO {iter : Expr} {env : Env} (h : setB iter = false) : ∀ x, foldedSetIterable iter env x = pure x := by
  intro x
  cases iter <;> first | rfl | cases h
theorem quiet_ok {α β : Type} {r : DM.R α} {f : α → DM.R β} {G : Gc} {σ : L2.St} {φ : List Addr} {μ : Mem} {H : Hp} {k : β → Prop} (p : PX xc G W σ φ μ H (r.quiet.bind f) k) : ∃ a, r = .ok a ∧ PX xc G W σ φ μ H (f a) k := by
  cases r with
  | ok a => exact ⟨a, rfl, p⟩
  | ex x => exact p.elim
  | bad => exact p.elim
/-- a shunned thing of one's own changes -/
theorem Ms.other {G : Gc} {φ : List Addr} {μ : Mem} {H : Hp} {D : Addr} {o o' : HO} (m : Ms G φ μ H) (hx : G.X D) (hD : H D = some o) (hm : ¬ NoMut o := by exact fun z => z) : Ms G φ μ (upd H D o') := by
  have kp : ∀ b u, H b = some u → (¬ G.N φ μ b ∨ NoMut u) → (upd H D o') b = some u := fun b u h1 h2 => by
    rw [upd_ne]; exact h1
    rintro rfl
    rcases h2 with h2 | h2
    · exact h2 (.inr hx)
    · rw [hD] at h1; cases h1; exact hm h2
  refine ⟨m.len, fun n d a h1 h2 => cn_fm (fun u h => ?_) Px.refl kp (fun _ _ _ z => z) (m.live n d a h1 h2), m.inj, fun a z => ?_, m.nx⟩
  · rw [upd_ne]; exact h
    rintro rfl
    exact m.nx _ ⟨n, d, h1, h2⟩ hx
  · by_cases q : a = D
    · subst q; rw [upd_same]; exact fun z => by cases z
    · rw [upd_ne q]; exact m.xs a z
theorem Rps.other {G : Gc} {φ : List Addr} {μ : Mem} {H : Hp} {D : Addr} {o o' : HO} {us : List V} {ds : List DM.D} (hx : G.X D) (hD : H D = some o) (r : G.rps φ μ H us ds) (hm : ¬ NoMut o := by exact fun z => z) : G.rps φ μ (upd H D o') us ds :=
  Rps.fm Px.refl (fun b u h1 h2 => by
    rw [upd_ne]; exact h1
    rintro rfl
    rcases h2 with h2 | h2
    · exact h2 (.inr hx)
    · rw [hD] at h1; cases h1; exact hm h2) (fun _ _ _ z => z) _ _ r
theorem Rp.other {G : Gc} {φ : List Addr} {μ : Mem} {H : Hp} {D : Addr} {o o' : HO} {v : V} {d : DM.D} (hx : G.X D) (hD : H D = some o) (r : G.rp φ μ H v d) (hm : ¬ NoMut o := by exact fun z => z) : G.rp φ μ (upd H D o') v d := by
  have := Rps.other (o' := o') hx hD (.cons r .nil) hm
  cases this with | cons h _ => exact h
theorem Mt.other {G : Gc} {φ : List Addr} {μ : Mem} {H : Hp} {D : Addr} {vs ws : List V} {σ : L2.St} {ε : Ev} (m : Mt G φ μ H σ ε) (hx : G.X D) (hD : H D = some (.lst vs)) : Mt G φ μ (upd H D (.lst ws)) σ ε :=
  ⟨m.ms.other hx hD, fun i d h => let ⟨v, h1, h2⟩ := m.at_ i d h; ⟨v, h1, Rp.other hx hD h2⟩, m.len, fun a h => by
    obtain ⟨⟨oe, vs, h1, h2, h3⟩, nl⟩ := m.ho a h
    refine ⟨⟨oe, vs, ?_, h2, h3⟩, nl⟩
    rw [upd_ne (fun z => by rw [z, hD] at h1; cases h1)]
    exact h1⟩
/-- more is shunned, a thing that H doesn't know -/
theorem Mt.more {G : Gc} {Y : Addr → Prop} {φ : List Addr} {μ : Mem} {H : Hp} {D : Addr} {o : HO} {σ : L2.St} {ε : Ev} (m : Mt (G.wx Y) φ μ H σ ε) (hD : H D = none) : Mt (G.wx fun a => Y a ∨ a = D) φ μ (upd H D o) σ ε := by
  have nn : ∀ a u, H a = some u → (G.wx fun a => Y a ∨ a = D).N φ μ a → (G.wx Y).N φ μ a := fun a u h z => by
    rcases z with z | z | z
    · exact .inl z
    · exact .inr z
    · rw [z, hD] at h; cases h
  refine ⟨⟨m.ms.len, fun n d a h1 h2 => (m.ms.live n d a h1 h2).same (same_upd hD) nn, m.ms.inj, fun a z => ?_, fun a z1 z2 => ?_⟩, fun i d h => let ⟨v, h1, h2⟩ := m.at_ i d h; ⟨v, h1, Rp.mono (same_upd hD) nn _ _ h2⟩, m.len, fun a h => by
    obtain ⟨⟨oe, vs, h1, h2, h3⟩, nl⟩ := m.ho a h
    exact ⟨⟨oe, vs, same_upd hD _ _ h1, h2, h3⟩, nl⟩⟩
  · by_cases q : a = D
    · subst q; rw [upd_same]; exact fun z => by cases z
    · rw [upd_ne q]
      rcases z with z | z
      · exact m.ms.xs a z
      · exact absurd z q
  · rcases z2 with z2 | z2
    · exact m.ms.nx a z1 z2
    · obtain ⟨o, h, _⟩ := m.ms.lvmut z1
      rw [z2, hD] at h; cases h
/-- the end of the walk says something of the heap, too -/
def wF (F : Hp → Prop) (wi : TI) : TI := fun σ H R => wi σ H fun J => R { J with stop := fun i H => F H ∧ J.stop i H }
theorem wF_true (wi : TI) : wF (fun _ => True) wi = wi := by
  funext σ H R
  unfold wF
  congr 1
  funext J H1
  simp only [true_and]
theorem lc_impF {F : Hp → Prop} (hF : ∀ {Y φ μ H σ ε}, Mt (G.wx Y) φ μ H σ ε → F H) {tg : Tg} {it : It} {cd : TO} {elt : T} {own : List (Str × Nat)} (hy : Hy g S xc G avc avg N kk ql X W) (hown : own.map (·.2) = tgI tg) : ∀ σ H Q, RD S xc G W (.lc tg it cd elt) σ H Q → tLc (wF F (RDI S xc G W it)) (gTg X.K tg) (RDC S xc G (fun _ _ _ _ => False) cd) (RD S xc G (fun _ _ _ _ => False) elt) (own.map (·.2)) σ H Q := by
  refine fun σ H Q ⟨Y, φ, μ, ε, m, p⟩ => ⟨Y, φ, μ, ε, m, px_mono (px_bind p) fun x px J H1 φ1 e1 ms1 wk D hD => ?_⟩
  obtain ⟨w, μ1⟩ := x
  rw [hown]
  simp only at px
  split at px
  · rename_i hsh
    obtain ⟨xs, hgo, px⟩ := quiet_ok px
    have q : QQ (G.wx Y) φ μ H xs.2 true (.lst xs.1) Q := px
    have m1 : Mt (G.wx Y) φ1 μ1 H1 σ ε := m.ex e1 ms1
    have M0 := (m1.wipe (tgI tg)).more (o := .lst []) hD
    have hst : ∃ n, Rst tg (wipeE ε (tgI tg)) (evc S cd) (ev S elt) w 0 μ1 n xs := by
      cases w with
      | its ds =>
        simp only [shortB, decide_eq_true_eq] at hsh
        exact ⟨ds.length, by omega, Nat.zero_le _, hsh, by rw [List.drop_zero]; exact hgo⟩
      | liv k => exact ⟨fuelW, hgo⟩
    obtain ⟨n0, hst⟩ := hst
    have hupd : ∀ {φ2 μ2 H2 ws}, Ex φ1 μ1 H1 φ2 μ2 H2 → Ex φ1 μ1 H1 φ2 μ2 (upd H2 D (.lst ws)) := fun {φ2 μ2 H2 ws} e => ⟨e.px, fun a o h n => by
      rw [upd_ne (ne_of_none h hD)]; exact e.keep a o h n, e.lv, fun a h => by
      by_cases z : a = D
      · subst z; rw [upd_same]; exact fun q => by cases q
      · rw [upd_ne z]; exact e.there a h⟩
    refine ⟨fun i n H2 => ∃ φ2 μ2 accs rest vs0, Ex φ1 μ1 H1 φ2 μ2 H2 ∧ Mt (G.wx fun a => Y a ∨ a = D) φ2 μ2 H2 (L2.wipe σ (tgI tg)) (wipeE ε (tgI tg)) ∧ H2 D = some (.lst vs0) ∧ (G.wx fun a => Y a ∨ a = D).rps φ2 μ2 H2 vs0 accs ∧
        Rst tg (wipeE ε (tgI tg)) (evc S cd) (ev S elt) w i μ2 n rest ∧ accs ++ rest.1 = xs.1 ∧ rest.2 = xs.2 ∧ accs.length ≤ i,
      ⟨n0, φ1, μ1, [], xs, [], hupd Ex.refl, M0, upd_same, .nil, hst, rfl, rfl, Nat.le_refl _⟩, ?_⟩
    rintro i n H2 ⟨φ2, μ2, accs, rest, vs0, sm, M, hD2, cr, hrest, hxs, hxs2, hal⟩
    obtain ⟨wgo, wst⟩ := wk φ2 μ2 H2 (fun a => Y a ∨ a = D) sm (fun a z => .inl z) (fun a z => z.imp id fun z => by rw [z]; exact hD) M.ms i
    rcases rst_step hrest with ⟨hn, hr⟩ | ⟨d, ε1, b, n', hd, hb, hcb, hnn, hi, hrest⟩
    · refine .inl ⟨⟨hF M, wst hn⟩, ?_⟩
      subst hr
      have hxs : accs = xs.1 := by simpa using hxs
      have hxs2 : μ2 = xs.2 := hxs2
      rw [← hxs, ← hxs2] at q
      have nD : ¬ (G.wx Y).N φ2 μ2 D := fun z => by
        rcases z with z | z
        · obtain ⟨k, e, k1, k2⟩ := z
          exact M.ms.nx D ⟨k, e, k1, k2⟩ (.inr rfl)
        · exact ms1.xs D z hD
      have less : ∀ a, (G.wx Y).N φ2 μ2 a → (G.wx fun a => Y a ∨ a = D).N φ2 μ2 a := fun a z => z.imp id .inl
      have more : ∀ a, (G.wx Y).N φ2 μ2 a ∨ a = D → (G.wx fun a => Y a ∨ a = D).N φ2 μ2 a := fun a z => by
        rcases z with z | z
        · exact less a z
        · exact .inr (.inr z)
      refine q _ _ φ2 (e1.trans sm) ⟨M.ms.len, fun n d a h1 h2 => (M.ms.live n d a h1 h2).same (Same.refl _) fun a _ _ z => less a z, M.ms.inj, fun a z => M.ms.xs a (.inl z), fun a z1 z2 => M.ms.nx a z1 (.inl z2)⟩ (.lst (.inl hD2) nD (Rps.mono (Same.refl _) (fun a _ _ z => less a z) _ _ cr)) fun _ _ => ?_
      refine ⟨D, rfl, ?_, nD, ⟨vs0, hD2, Rps.mono (Same.refl _) (fun a _ _ z => more a z) _ _ cr⟩, fun n e b h1 h2 => (M.ms.live n e b h1 h2).same (Same.refl _) fun a _ _ z => more a z⟩
      by_cases z : H D = none
      · exact z
      · exact absurd hD (e1.there D z)
    · refine .inr ?_
      obtain ⟨go, yl⟩ := wgo d hd
      refine ⟨go, _, fun H' h => ⟨n', hnn, h⟩, fun x H3 hy3 => ?_⟩
      obtain ⟨s3, rx⟩ := yl x H3 hy3
      have M3 := M.ex (Ex.same s3) (M.ms.same s3)
      rw [hy.hK]
      refine tg_ok (G := G.wx fun a => Y a ∨ a = D) M3 rx hb fun σ2 M2 hl2 hk2 => ?_
      refine ⟨wipe_eq (by rw [hl2, wipe_length]) (fun j hj => hk2 j hj), (fun a => Y a ∨ a = D), φ2, μ2, ε1, M2, ?_⟩
      rw [hcb]
      obtain ⟨db, μb⟩ := b
      rcases hrest with ⟨hbt, x', xs', hel, hr', hre⟩ | ⟨hbf, hr'⟩
      · simp only at hbt hel
        subst hbt
        refine ⟨true, rfl, fun H4 φ4 s4 ms4 => iteT ?_⟩
        refine ⟨(fun a => Y a ∨ a = D), φ4, μb, ε1, M2.ex s4 ms4, ?_⟩
        rw [hel]
        intro y H5 φ5 s5 ms5 ry _
        have s45 := s4.trans s5
        have s25 := (Ex.same s3).trans s45
        have hD5 : H5 D = some (.lst vs0) := s25.keep D _ hD2 fun z => M.ms.nx D z (.inr rfl)
        refine ⟨vs0, hD5, ?_, φ5, x'.2, accs ++ [x'.1], xs', vs0 ++ [y], hupd (sm.trans s25), (M.ex s25 ms5).other (.inr rfl) hD5, upd_same, Rps.append (Rps.other (.inr rfl) hD5 (Rps.ex M.ms s25 cr)) (.cons (Rp.other (.inr rfl) hD5 ry) .nil), hr', ?_, ?_, ?_⟩
        · have := cr.length
          rw [sizeLine_eq]; omega
        · rw [hre] at hxs; simpa using hxs
        · rw [hre] at hxs2; exact hxs2
        · simp; omega
      · simp only at hbf hr'
        subst hbf
        refine ⟨false, rfl, fun H4 φ4 s4 ms4 => iteF ?_⟩
        have s24 := (Ex.same s3).trans s4
        have hD4 : H4 D = some (.lst vs0) := s24.keep D _ hD2 fun z => M.ms.nx D z (.inr rfl)
        exact ⟨φ4, μb, accs, rest, vs0, sm.trans s24, M.ex s24 ms4, hD4, Rps.ex M.ms s24 cr, hr', hxs, hxs2, Nat.le_succ_of_le hal⟩
  · exact px.elim
theorem lc_imp {tg : Tg} {it : It} {cd : TO} {elt : T} {own : List (Str × Nat)} (hy : Hy g S xc G avc avg N kk ql X W) (hown : own.map (·.2) = tgI tg) : ∀ σ H Q, RD S xc G W (.lc tg it cd elt) σ H Q → tLc (RDI S xc G W it) (gTg X.K tg) (RDC S xc G (fun _ _ _ _ => False) cd) (RD S xc G (fun _ _ _ _ => False) elt) (own.map (·.2)) σ H Q := by
  have z := lc_impF (F := fun _ => True) (tg := tg) (it := it) (cd := cd) (elt := elt) (own := own) (fun _ => trivial) hy hown
  rwa [wF_true] at z
theorem s_lc {tg : Tg} {it : It} {cd : TO} {elt : T} {tgE iterE eltE : Expr} {ifs : List Expr} {scope : Scope} {own : List (Str × Nat)} (hq : ql = true) (hy : Hy g S xc G avc avg N kk ql X W) (hi : PI X tgE iterE (RDI S xc G W it)) (hset : setB iterE = false)
    (blk : BlkOk X.N X.env.scope scope own) (hown : own.map (·.2) = tgI tg)
    (hg : ∀ (s : Shared) (H : Hp) (C : Addr) (cl : List (Str × Addr)) (fp : List Addr), PG (X.blk s H scope (compEnvC scope cl C X.env) fp) tgE (gTg X.K tg))
    (ht : ∀ (s : Shared) (H : Hp) (C : Addr) (cl : List (Str × Addr)) (fp : List Addr), PTs (X.blk s H scope (compEnvC scope cl C X.env) fp) ifs (RDC S xc G (fun _ _ _ _ => False) cd))
    (he : ∀ (s : Shared) (H : Hp) (C : Addr) (cl : List (Str × Addr)) (fp : List Addr), PE (X.blk s H scope (compEnvC scope cl C X.env) fp) eltE (RD S xc G (fun _ _ _ _ => False) elt)) :
    PE X (.ListComp eltE [⟨tgE, iterE, ifs, 0⟩] scope pos) (RD S xc G W (.lc tg it cd elt)) :=
  (pe_lc (hy.calm hq) (by rw [hy.hN]; exact hy.nd) hi blk hg ht he (foldedO hset)).imp (lc_imp hy hown)
end
end DM
set_option Elab.async false
set_option linter.all false
set_option maxRecDepth 100000
set_option maxHeartbeats 4000000
namespace DM
open PySem L2 PySem.Spec PyProof.Rows
/-- p walks lo, lo + 1, .., n of them; i are behind it -/
def RgAt (p : Addr) (lo : Int) (n i : Nat) (h : Heap) : Prop := IsRangeIter h p (lo + (i : Int)) ((n : Int) - (i : Int)) 1
theorem RgAt.kept {p : Addr} {lo : Int} {n i : Nat} {h h' : Heap} (r : RgAt p lo n i h) (k : ∀ o, h.get? p = some o → h'.get? p = some o) : RgAt p lo n i h' := k _ r
theorem RgAt.there {p : Addr} {lo : Int} {n i : Nat} {h : Heap} (r : RgAt p lo n i h) : ∃ o, h.get? p = some o ∧ ∀ v, o.data ≠ .cell v :=
  ⟨_, r, fun v z => by
    have z' : Data.fields _ = Data.cell v := z
    cases z'⟩
section
variable {X : Cx} {pins : List (Addr × Obj)} {σ : L2.St} {H : Hp} {s : Shared} {p a0 : Addr} {lo : Int} {n i : Nat}
/-- one more -/
theorem rg_go {tgE : Expr} {E : Value → Shared → Prop} (I : Inv X pins σ H s) (f : FpOk X pins H p) (r : RgAt p lo n i s.heap) (hi : i < n) :
    wpAny (model X.prog X.w) X.A (pyNext (.ref p)) (fun r s1 => ∃ u, r = some u ∧ wpAny (model X.prog X.w) X.A (letOwnedTupleGo tgE (.ref p) u) (fun _ s2 => Inv X pins σ H s2 ∧ RelV (.int (lo + i)) u ∧ RgAt p lo n (i + 1) s2.heap) E s1) E s := by
  obtain ⟨g0, g1, g2, g3, g4, g5⟩ := f
  refine wpAny_pyNext_range_item r (by omega) fun h2 r2 sb => ?_
  have r3 : RgAt p lo n (i + 1) h2 := by
    have z1 : lo + (i : Int) + 1 = lo + ((i + 1 : Nat) : Int) := by omega
    have z2 : (n : Int) - (i : Int) - 1 = (n : Int) - ((i + 1 : Nat) : Int) := by omega
    unfold RgAt
    rw [← z1, ← z2]
    exact r2
  have I2 : Inv X pins σ H { s with heap := h2, toks := s.toks + 1 } := I.turned (fun b o hb e => (sb.2 b hb).trans e) g0 g1 g3 g4 g5
  exact ⟨_, rfl, go_of (s := { s with heap := h2, toks := s.toks + 1 }) (n := "range_iterator") r3 rfl rfl (by decide) ⟨I2, ⟨s.toks, rfl⟩, r3⟩⟩
/-- no more, though something is handled -/
theorem rg_end {E : Value → Shared → Prop} (hh : X.A.handled = some (.ref a0)) (hot : HotT H a0) (I : Inv X pins σ H s) (f : FpOk X pins H p) (r : RgAt p lo n i s.heap) (hi : n ≤ i) :
    wpAny (model X.prog X.w) X.A (pyNext (.ref p)) (fun r s1 => r = none ∧ Inv X pins σ H s1) E s := by
  obtain ⟨g0, g1, g2, g3, g4, g5⟩ := f
  obtain ⟨oe, vs, k1, k2, k3⟩ := hot
  have hx : HotX.HotAt X.A a0 s.heap := ⟨hh, oe, vs, (show ObjOk X.prog X.w H s.heap a0 (isAt a0 oe) from I.hok a0 _ k1).1, k2, k3⟩
  exact HotX.pyNext_range_end_hot hx r (by omega) fun h2 kp => ⟨rfl, I.turned (t' := s.toks) (fun b o _ e => kp b o e) g0 g1 g3 g4 g5⟩
/-- a range's iterator has come -/
def ItR (X : Cx) (pins : List (Addr × Obj)) (σ : L2.St) (R : L2.It → Hp → Prop) (itv : Value) (s2 : Shared) : Prop :=
  ∃ (p : Addr) (lo : Int) (n : Nat) (H2 : Hp), itv = .ref p ∧ Inv X pins σ H2 s2 ∧ RgAt p lo n 0 s2.heap ∧ FpOk X pins H2 p ∧ R (Itr lo n) H2
end
structure PIR (X : Cx) (iterE : Expr) (wi : TI) : Prop where
  run : ∀ (pins : List (Addr × Obj)) (s : Shared) (σ : L2.St) (H : Hp) (R : L2.It → Hp → Prop), Inv X pins σ H s → wi σ H R →
    wpAny (model X.prog X.w) X.A (eval iterE X.env) (fun v s1 => wpAny (model X.prog X.w) X.A (pyIter v) (ItR X pins σ R) X.xe s1) X.xe s
theorem PIR.imp {X : Cx} {e : Expr} {t t' : TI} (h : PIR X e t) (k : ∀ σ H Q, t' σ H Q → t σ H Q) : PIR X e t' := ⟨fun pins s σ H R I q => h.run pins s σ H R I (k _ _ _ q)⟩
section
variable {X : Cx}
theorem rng_come {pins : List (Addr × Obj)} {σ : L2.St} {H : Hp} {s : Shared} {R : L2.It → Hp → Prop} {E : Value → Shared → Prop} {j : Int} {t u v : Tok} {tk : Nat} (I : Inv X pins σ H s) (b1 : -(2 ^ 62) ≤ j) (b2 : j < 2 ^ 62)
    (q : R (Itr 0 j.toNat) H) : wpAny (model X.prog X.w) X.A (pyIter (.ref s.heap.objs.size)) (ItR X pins σ R) E { s with heap := s.heap.push { cls := .type "range", data := .fields #[.int 0 t, .int j u, .int 1 v] }, toks := tk } := by
  refine wpAny_pyIter_range (IsRange.new ..) (small_one (by omega) (by omega) b1 b2) ?_
  generalize hg : s.heap.push { cls := Value.type "range", data := .fields #[.int 0 t, .int j u, .int 1 v] } = g
  have kp : ∀ b o, s.heap.get? b = some o → g.get? b = some o := fun b o e => by rw [← hg]; exact Heap.get?_push_of_some _ e
  have I2 : Inv X pins σ H { s with heap := g, toks := tk } := I.kept kp
  refine ⟨g.objs.size, 0, j.toNat, H, rfl, I2.kept (t' := tk) fun b o e => Heap.get?_push_of_some _ e, ?_, I2.fpOk (Nat.le_refl _) (I2.hok.fresh (Nat.le_refl _)), q⟩
  have z2 : ((j.toNat : Nat) : Int) - ((0 : Nat) : Int) = Builtin.Range.rangeSize 0 j 1 := by rw [rangeSize_one]; split <;> omega
  unfold RgAt
  rw [z2]
  exact Heap.get?_push_size _ rfl
theorem pir_one {a : Expr} {ta : TA} {q pos : Pos} (hg : Gl X "range") (hm : X.mg "range" = none) (ha : PA X [a] ta) (st : starEach [a] X.env = [(false, eval a X.env)]) : PIR X (.Call (.Name "range" q) [a] [] pos) (iRng1 ta) := by
  refine ⟨fun pins s σ H R I h => ?_⟩
  refine Call_ (ld_blt I hg hm boot_range (PyProof.Rows.callWith_type1 (thn (ha.run pos pins s σ H _ I h) ?_) st rfl))
  rintro us s1 ⟨vs, H1, I1, r1, j, rfl, b1, b2, q1⟩
  cases r1 with
  | cons r rr =>
    cases rr
    obtain ⟨t, rfl⟩ := r
    exact call_range_1 (rng_come I1 b1 b2 q1)
end
section
variable {X : Cx} {pins : List (Addr × Obj)} {s : Shared} {σ : L2.St} {H : Hp} {Q : VK} {eltE tgE iterE : Expr} {ifs : List Expr} {scope : Scope} {own : List (Str × Nat)} {pos : Pos} {wi : TI} {gt : TG} {tt : TT} {te : TE} {a0 : Addr}
theorem pe_lcHot (hh : X.A.handled = some (.ref a0)) (nd : X.N.Nodup) (ci : PIR X iterE wi) (ok : BlkOk X.N X.env.scope scope own)
    (hg : ∀ (s : Shared) (H : Hp) (C : Addr) (cl : List (Str × Addr)) (fp : List Addr), PG (X.blk s H scope (compEnvC scope cl C X.env) fp) tgE gt) (ht : ∀ (s : Shared) (H : Hp) (C : Addr) (cl : List (Str × Addr)) (fp : List Addr), PTs (X.blk s H scope (compEnvC scope cl C X.env) fp) ifs tt)
    (he : ∀ (s : Shared) (H : Hp) (C : Addr) (cl : List (Str × Addr)) (fp : List Addr), PE (X.blk s H scope (compEnvC scope cl C X.env) fp) eltE te) (hset : ∀ x, foldedSetIterable iterE X.env x = pure x) :
    PE X (.ListComp eltE [⟨tgE, iterE, ifs, 0⟩] scope pos) (tLc (wF (fun H => HotT H a0) wi) gt tt te (own.map (·.2))) := by
  refine ⟨fun pins s σ H Q I wish => ?_⟩
  have frees : ∀ q ∈ scope.names, q.2 = .free → ∃ c, X.env.cells.lookup q.1 = some c := fun q hq z =>
    (ok.free q hq z).elim (fun k => I.ok.has _ (.inl k)) fun k => I.ok.has _ (.inr k)
  rw [eval_ListComp]
  refine wpAny_comprehension_free (use := none) rfl hset (closure_ok frees) ok.kind (fun q hq z => by rw [ok.uniq q hq, z]) ?_
  refine thn (ci.run pins s σ H _ I wish) fun xv s1 hx => thn hx fun itv s2 come => ?_
  obtain ⟨p, lo, n, H2, rfl, I2, w2, f2, wish2⟩ := come
  refine wpAny_newObj_type (newEnv_comp ?_) (by show 0 ≤ sizeLine; decide)
  obtain ⟨D, hD⟩ : ∃ D, s2.heap.objs.size = D := ⟨_, rfl⟩
  have nD : H2 D = none := I2.hok.fresh (Nat.le_of_eq hD)
  obtain ⟨Wf, ⟨k0, wf0⟩, turn⟩ := wish2 D nD
  have pD : p < D := by
    obtain ⟨o, e, _⟩ := w2.there
    rw [← hD]; exact Heap.lt_size e
  rw [hD]
  obtain ⟨s3, hs3⟩ : ∃ s3 : Shared, s3 = { s2 with heap := s2.heap.push { cls := .type "list", data := .seq ([] : List Value).toArray } } := ⟨_, rfl⟩
  obtain ⟨H3, hH3⟩ : ∃ H3, H3 = upd H2 D (.lst []) := ⟨_, rfl⟩
  have kp3 : ∀ b o, s2.heap.get? b = some o → s3.heap.get? b = some o := fun b o e => by rw [hs3]; exact Heap.get?_push_of_some _ e
  have I3 : Inv X pins σ H3 s3 := by
    rw [hs3, hH3]
    refine I2.laid (t' := s2.toks) (fun b o e => Heap.get?_push_of_some _ e) (Nat.le_of_eq hD) ⟨Nat.zero_le _, [], 0, .nil, ?_⟩
    show (s2.heap.push _).get? D = _
    rw [← hD]; exact Heap.get?_push_size _ rfl
  have f3 : FpOk X pins H3 p := ⟨by rw [hH3, upd_ne (Nat.ne_of_lt pD)]; exact f2.1, f2.2⟩
  have p3 : p < s3.heap.objs.size := by
    rw [hs3]
    show p < (s2.heap.push _).objs.size
    rw [Heap.size_push, hD]; exact Nat.lt_succ_of_lt pD
  have w3 : RgAt p lo n 0 s3.heap := w2.kept fun o e => kp3 p o e
  rw [← hs3]
  rw [← hH3] at wf0
  have I4 := block_start (fp := [p]) I3 ok nd fun b hb => by
    rw [List.mem_singleton.mp hb]; exact ⟨f3, p3⟩
  have gg := hg s3 H3 s3.heap.objs.size (cellsFrom (s3.heap.objs.size + 1) scope.names (cloFrom X.env.cells scope.names [])) [p]
  have gt' := ht s3 H3 s3.heap.objs.size (cellsFrom (s3.heap.objs.size + 1) scope.names (cloFrom X.env.cells scope.names [])) [p]
  have ge := he s3 H3 s3.heap.objs.size (cellsFrom (s3.heap.objs.size + 1) scope.names (cloFrom X.env.cells scope.names [])) [p]
  obtain ⟨ce, hce⟩ : ∃ ce, ce = compEnvC scope (cellsFrom (s3.heap.objs.size + 1) scope.names (cloFrom X.env.cells scope.names [])) s3.heap.objs.size X.env := ⟨_, rfl⟩
  show codeAny _ _ (.compStart (.ListComp eltE [⟨tgE, iterE, ifs, 0⟩] scope pos) 0 (.ref p) (.ref D) (compEnvC scope (cellsFrom (s3.heap.objs.size + 1) scope.names (cloFrom X.env.cells scope.names [])) s3.heap.objs.size X.env)) (compPost (model X.prog X.w) X.A X.xe none (EP X pins σ Q) (.ref D) s3.heap.objs.size) { s3 with heap := pushCells (s3.heap.push { cls := .type "dict", data := .dict #[] }) scope.names }
  rw [← hce] at I4 gg gt' ge ⊢
  have cL : ce.locals = s3.heap.objs.size := by rw [hce]; rfl
  obtain ⟨s4, hs4⟩ : ∃ s4 : Shared, s4 = { s3 with heap := pushCells (s3.heap.push { cls := .type "dict", data := .dict #[] }) scope.names } := ⟨_, rfl⟩
  rw [← hs4] at I4 ⊢
  have w4 : RgAt p lo n 0 s4.heap := w3.kept fun o e => by rw [hs4]; exact pushCells_keeps _ _ _ _ (Heap.get?_push_of_some _ e)
  have fpB : ∀ {σ' : L2.St} {H' : Hp} {s' : Shared}, Inv (X.blk s3 H3 scope ce [p]) [] σ' H' s' → H' p = none → FpOk (X.blk s3 H3 scope ce [p]) [] H' p := fun {σ' H' s'} J np =>
    have pin : p ∈ [p] := List.mem_singleton.mpr rfl
    ⟨np, (J.ok.exf p pin).1, J.ok.exfs p pin, .inl pin, fun x c e => (J.ok.exf p pin).2 x c e, fun z hz => by cases hz⟩
  have walk : codeAny (model X.prog X.w) X.A (.compLoop (.ListComp eltE [⟨tgE, iterE, ifs, 0⟩] scope pos) 0 (.ref p) (.ref D) ce) (compPost (model X.prog X.w) X.A X.xe none (EP X pins σ Q) (.ref D) s3.heap.objs.size) s4 := by
    refine compLoop_any (fun k s' => ∃ i H', Inv (X.blk s3 H3 scope ce [p]) [] (L2.wipe σ (own.map (·.2))) H' s' ∧ RgAt p lo n i s'.heap ∧ H' p = none ∧ Wf i k H') ?_ k0 ⟨0, H3, I4, w4, f3.1, wf0⟩
    rintro k s5 ⟨i, H5, I5, w5, n5, wf5⟩
    rcases turn i k H5 wf5 with ⟨⟨hot, stop⟩, wq⟩ | ⟨go, Nx, hNx, step⟩
    · refine thnF (rg_end (X := X.blk s3 H3 scope ce [p]) (E := fun _ _ => False) hh hot I5 (fpB I5 n5) w5 stop) ?_
      rintro r s6 ⟨rfl, I6⟩
      have I7 : Inv X pins σ H5 s6 := I3.call' (ch := [p]) I6.os I6.base I6.hok I6.bare fun b hb => by
        rw [List.mem_singleton.mp hb]
        exact ⟨f3.2.2.2.1, f3.2.1, f3.2.2.2.2.1, f3.2.2.2.2.2⟩
      have nC : H5 s3.heap.objs.size = none := by
        have z : H5 ce.locals = none := I6.free
        rwa [cL] at z
      obtain ⟨m, hm, _⟩ := I6.loc
      have hm : s6.heap.Ns ce.locals m := hm
      rw [cL] at hm
      obtain ⟨g0, g1, g2, g3, g4, g5⟩ : FpOk X pins H5 s3.heap.objs.size := I3.fpOk (Nat.le_refl _) nC
      exact ⟨m, hm, fun h8 sb => ⟨.ref D, H5, I7.turned (t' := s6.toks) (fun b o hb e => (sb.2 b hb).trans e) g0 g1 g3 g4 g5, rfl, wq⟩⟩
    · refine thnF (rg_go (X := X.blk s3 H3 scope ce [p]) (tgE := tgE) (E := fun _ _ => False) I5 (fpB I5 n5) w5 go) ?_
      rintro r s6 ⟨u, rfl, h6⟩
      refine thnF h6 ?_
      rintro _ s7 ⟨I7, r7, w7⟩
      have J7 := I7.pinned (fp := [p]) (fun b hb => by rw [List.mem_singleton.mp hb]; exact fpB I7 n5) fun b hb => by
        rw [List.mem_singleton.mp hb]; exact w7.there
      refine thnF (gg.run _ s7 _ H5 _ u _ J7 r7 (step _ H5 ⟨rfl, rfl⟩)) ?_
      rintro _ s8 ⟨σ8, H8, I8, hw8, q8⟩
      refine thnF (gt'.run _ s8 σ8 H8 _ I8 q8) ?_
      rintro b s9 ⟨H9, I9, q9⟩
      have again : ∀ {s' : Shared} {H' : Hp}, Inv (X.blk s3 H3 scope ce [p]) ([] ++ pinsAt [p] s7.heap) σ8 H' s' → Nx H' → ∃ m, m < k ∧ ∃ i H', Inv (X.blk s3 H3 scope ce [p]) [] (L2.wipe σ (own.map (·.2))) H' s' ∧ RgAt p lo n i s'.heap ∧ H' p = none ∧ Wf i m H' := by
        intro s' H' J nx
        obtain ⟨m', hm, wf'⟩ := hNx H' nx
        have pin : ∀ o, s7.heap.get? p = some o → s'.heap.get? p = some o ∧ H' p = none := fun o e =>
          have z := J.pin (p, o) (List.mem_append_right _ (List.mem_append_right _ (mem_pinsAt (List.mem_singleton.mpr rfl) e)))
          ⟨z.1, z.2.1⟩
        obtain ⟨o7, e7, _⟩ := w7.there
        exact ⟨m', hm, i + 1, H', (J.unpinned (pins := [])).weak (by rw [← hw8, wipe_length]) (fun j v e => by
          rw [← hw8] at e
          exact (wipe_some e).1), w7.kept fun o e => (pin o e).1, (pin o7 e7).2, wf'⟩
      cases b with
      | false => exact again I9 q9
      | true =>
        refine thnF (ge.run _ s9 σ8 H9 _ I9 q9) ?_
        rintro z s10 ⟨y, H10, I10, r10, acc, hD10, few, nx⟩
        exact app_ok (X := X.blk s3 H3 scope ce [p]) I10 hD10 few r10 fun s11 I11 => again I11 nx
  exact codeAny_compStart_list walk (wpAny_pyIter_rangeiter w4 walk)
end
section
variable {g : Sg} {avc avg : Nat → Bool} {N : List Str} {kk : Nat} {ql : Bool}
variable {S : Mn} {xc : Xc} {G : Gc} {W : WX} {X : Cx} {e : Expr} {a : T} {pos cpos p : Pos}
theorem s_r1H (hy : Hy g S xc G avc avg N kk ql X W) (hg : Gl X "range") (h : PE X e (RD S xc G W a)) (h1 : starB e = false) : PIR X (.Call (.Name "range" p) [e] [] pos) (RDI S xc G W (.r1 a)) :=
  (pir_one hg (hy.blt _ (by decide +kernel)) (pa_cons h pa_nil (star_cons h1)) (star_cons h1)).imp fun σ H J0 ⟨Y, φ, μ, ε, m, p⟩ => ⟨Y, φ, μ, ε, m, px_mono (px_bind p) fun x px v H1 φ1 e1 m1 r1 _ => by
    obtain ⟨d, μ1⟩ := x
    cases d with
    | int i =>
      cases r1
      simp only at px
      split at px
      · rename_i z
        obtain ⟨z1, z2⟩ := rngOk_of z
        exact ⟨i, rfl, z1, z2, px _ _ φ1 e1 m1 wk_rng⟩
      · exact px.elim
    | _ => exact px.elim⟩
theorem pg_nmH {st : Str → Bool} (hN : X.N = N) (nd : N.Nodup) (hs : ∀ x, st x = true → Loc X.env.scope x ∧ (X.fn x = true ∨ X.env.scope.names.lookup x = some .local)) {i : Nat} {e : Expr} (h : tgB N st (.nm i) e = true) : PG X e (gTg X.K (.nm i)) := by
  cases e with
  | Name x pos =>
    simp only [tgB, Bool.and_eq_true, decide_eq_true_eq] at h
    exact pg_name (by rw [hN]; exact nd) (by rw [hN]; exact h.1) (hs x h.2).1 (hs x h.2).2
  | _ => simp [tgB] at h
/-- [.. for x in range(e)] where an exception is handled -/
theorem s_lcHot {tg : Tg} {cd : TO} {elt : T} {tgE eltE : Expr} {ifs : List Expr} {scope : Scope} {own : List (Str × Nat)} (hq : ql = false) (hl : g.lc N = true) (hy : Hy g S xc G avc avg N kk ql X W) (hg0 : Gl X "range") (hi : PE X e (RD S xc G W a)) (h1 : starB e = false)
    (blk : BlkOk X.N X.env.scope scope own) (hown : own.map (·.2) = tgI tg)
    (hg : ∀ (s : Shared) (H : Hp) (C : Addr) (cl : List (Str × Addr)) (fp : List Addr), PG (X.blk s H scope (compEnvC scope cl C X.env) fp) tgE (gTg X.K tg))
    (ht : ∀ (s : Shared) (H : Hp) (C : Addr) (cl : List (Str × Addr)) (fp : List Addr), PTs (X.blk s H scope (compEnvC scope cl C X.env) fp) ifs (RDC S xc G (fun _ _ _ _ => False) cd))
    (he : ∀ (s : Shared) (H : Hp) (C : Addr) (cl : List (Str × Addr)) (fp : List Addr), PE (X.blk s H scope (compEnvC scope cl C X.env) fp) eltE (RD S xc G (fun _ _ _ _ => False) elt)) :
    PE X (.ListComp eltE [⟨tgE, .Call (.Name "range" p) [e] [] pos, ifs, 0⟩] scope cpos) (RD S xc G W (.lc tg (.r1 a) cd elt)) := by
  obtain ⟨a0, hh, hhot⟩ := hy.lch hq hl
  refine (pe_lcHot hh (by rw [hy.hN]; exact hy.nd) (s_r1H hy hg0 hi h1) blk hg ht he (foldedO rfl)).imp (lc_impF (F := fun H => HotT H a0) (fun m => (m.ho a0 hhot).1) hy hown)
end
end DM
set_option Elab.async false
set_option linter.all false
set_option maxRecDepth 100000
set_option maxHeartbeats 4000000
namespace DM
open PySem L2 PySem.Spec PyProof.Rows
section
variable {G : Gc} {Y : Addr → Prop} {φ : List Addr} {μ : Mem} {H : Hp} {D : Addr}
theorem ms_less (ms : Ms (G.wx fun a => Y a ∨ a = D) φ μ H) : Ms (G.wx Y) φ μ H :=
  ⟨ms.len, fun n d a h1 h2 => (ms.live n d a h1 h2).same (Same.refl _) fun a _ _ z => z.imp id .inl, ms.inj, fun a z => ms.xs a (.inl z), fun a z1 z2 => ms.nx a z1 (.inl z2)⟩
theorem px_more {α : Type} {xc : Xc} {W : WX} {σ : L2.St} {o : HO} {r : DM.R α} {k : α → Prop} (p : PX xc (G.wx Y) W σ φ μ H r k) (hD : H D = none) : PX xc (G.wx fun a => Y a ∨ a = D) W σ φ μ (upd H D o) r k := by
  cases r with
  | ok a => exact p
  | ex x μ' =>
    intro cls dd H' φ' e ms xr
    refine p cls dd H' φ' ((Ex.same (same_upd hD)).trans e) (ms_less ms) ?_
    obtain ⟨C, ns, h1, h2, h | ⟨n, d, vs, k1, k2, k3, k4⟩⟩ := xr
    · exact ⟨C, ns, h1, h2, .inl h⟩
    · exact ⟨C, ns, h1, h2, .inr ⟨n, d, vs, k1, k2, k3, Rps.mono (Same.refl _) (fun a _ _ z => z.imp id .inl) _ _ k4⟩⟩
  | bad => exact p
end
section
variable {g : Sg} {avc avg : Nat → Bool} {N : List Str} {kk : Nat} {ql : Bool}
variable {S : Mn} {xc : Xc} {G : Gc} {W : WX} {X : Cx} {e1 e2 : Expr} {a b : T} {pos : Pos}
/-- the new dict, filled -/
theorem new_dct2 {Y : Addr → Prop} {φ φ2 : List Addr} {μ μ2 : Mem} {H H2 : Hp} {q : Addr} {o : HO} {k v : D} {x y : V} {Q : VK} {fr : Bool} (m : Ms (G.wx Y) φ μ H) (hq : H q = none) (e : Ex φ μ (upd H q (.dK [])) φ2 μ2 H2) (m2 : Ms (G.wx fun a => Y a ∨ a = q) φ2 μ2 H2) (hq2 : H2 q = some (.dK []))
    (c : ∀ (H3 : Hp) (Z : Addr → Prop), H3 q = some o → Rp G.cl G.K φ2 H3 Z x k → Rp G.cl G.K φ2 H3 Z y v → Cn G.cl G.K φ2 H3 Z q (.dct [k] [v])) (rx : (G.wx fun a => Y a ∨ a = q).rp φ2 μ2 H2 x k) (ry : (G.wx fun a => Y a ∨ a = q).rp φ2 μ2 H2 y v)
    (p : QQ (G.wx Y) φ μ H μ2 fr (.dct [k] [v]) Q) : Q (.ref q) (upd H2 q o) := by
  have nq : ¬ (G.wx Y).N φ2 μ2 q := fun z => by
    rcases z with z | z
    · exact m2.nx q z (.inr rfl)
    · exact m.xs q z hq
  have m3 := m2.other (o' := o) (show (G.wx fun a => Y a ∨ a = q).X q from .inr rfl) hq2
  have rx3 := Rp.other (G := G.wx fun a => Y a ∨ a = q) (o' := o) (.inr rfl) hq2 rx
  have ry3 := Rp.other (G := G.wx fun a => Y a ∨ a = q) (o' := o) (.inr rfl) hq2 ry
  have less : ∀ a, (G.wx Y).N φ2 μ2 a → (G.wx fun a => Y a ∨ a = q).N φ2 μ2 a := fun a z => z.imp id .inl
  have more : ∀ a, (G.wx Y).N φ2 μ2 a ∨ a = q → (G.wx fun a => Y a ∨ a = q).N φ2 μ2 a := fun a z => by
    rcases z with z | z
    · exact less a z
    · exact .inr (.inr z)
  have up := (upd_same : upd H2 q o q = some o)
  have ex : Ex φ μ H φ2 μ2 (upd H2 q o) := by
    have e0 := (Ex.same (φ := φ) (μ := μ) (same_upd (o := .dK []) hq)).trans e
    refine ⟨e0.px, fun a u h n => ?_, e0.lv, fun a h => ?_⟩
    · rw [upd_ne (ne_of_none h hq)]; exact e0.keep a u h n
    · by_cases z : a = q
      · subst z; rw [upd_same]; exact fun z => by cases z
      · rw [upd_ne z]; exact e0.there a h
  have cn1 := c (upd H2 q o) ((G.wx Y).N φ2 μ2) up (Rp.mono (Same.refl _) (fun a _ _ z => less a z) _ _ rx3) (Rp.mono (Same.refl _) (fun a _ _ z => less a z) _ _ ry3)
  have cn2 := c (upd H2 q o) (fun b => (G.wx Y).N φ2 μ2 b ∨ b = q) up (Rp.mono (Same.refl _) (fun a _ _ z => more a z) _ _ rx3) (Rp.mono (Same.refl _) (fun a _ _ z => more a z) _ _ ry3)
  refine p _ _ φ2 ex (ms_less m3) ?_ fun _ _ => ⟨q, rfl, hq, nq, cn2, fun n d' b h1 h2 => (m3.live n d' b h1 h2).same (Same.refl _) fun a _ _ z => more a z⟩
  rcases cn1 with ⟨o', ws, k1, k2, k3⟩ | cn1
  · exact .dct (.inl k1) nq k2 k3
  · exact cn1.rp nq
theorem s_dd2N (hy : Hy g S xc G avc avg N kk ql X W) (h1 : PE X e1 (RD S xc G W a)) (h2 : PE X e2 (RD S xc G W b)) : PE X (.Dict [some e1] [e2] pos) (RD S xc G W (.dd2 true a b)) :=
  (pe_dispN hy.un h1 h2).imp fun σ H Q ⟨Y, φ, μ, ε, m, p⟩ q hq => by
    refine ⟨fun a => Y a ∨ a = q, φ, μ, ε, m.more hq, px_mono (px_bind (px_more p hq)) fun x px v H1 φ1 e1 m1 r1 _ => ?_⟩
    refine ⟨fun a => Y a ∨ a = q, φ1, x.2, ε, (m.more hq).ex e1 m1, px_mono (px_bind (px_ex e1 px)) fun y py u H2 φ2 e2 m2 r2 _ => ?_⟩
    obtain ⟨d, e3, p3⟩ := px_opt py
    unfold dd2E at e3
    rw [if_pos rfl] at e3
    split at e3
    · rename_i t
      cases Option.some.inj e3
      obtain ⟨kn, hk⟩ := tupK_some t
      have e12 := e1.trans e2
      have hq2 : H2 q = some (.dK []) := e12.keep _ _ upd_same fun z => (m.more (o := .dK []) hq).ms.nx q z (.inr rfl)
      have r1' := Rp.ex m1 e2 r1
      refine ⟨hq2, kn, tupK_N t hk, by rw [hy.hK]; exact rp_kis _ _ _ hk r1', fun o' hd f => ?_⟩
      rw [← hy.hhs] at f
      refine new_dct2 (G := G) m.ms hq e12 m2 hq2 (fun H3 Z up rx ry => .inr ⟨o', [(kn, v, u)], up, hd, f, ?_, ?_, .cons rx .nil, .cons ry .nil⟩) r1' r2 p3
      · unfold tkB
        rw [List.all_cons, t]; rfl
      · simp [kNs, hk]
    · cases e3
theorem s_dd2M (hy : Hy g S xc G avc avg N kk ql X W) (h1 : PE X e1 (RD S xc G W a)) (h2 : PE X e2 (RD S xc G W b)) : PE X (.Dict [some e1] [e2] pos) (RD S xc G W (.dd2 false a b)) :=
  (pe_disp (pps_cons h1 h2 pps_nil) rfl rfl (by simp) (by simp)).imp fun σ H Q ⟨Y, φ, μ, ε, m, p⟩ q hq => by
    refine ⟨fun a => Y a ∨ a = q, φ, μ, ε, m.more hq, px_mono (px_bind (px_more p hq)) fun x px v H1 φ1 e1 m1 r1 _ => ?_⟩
    refine ⟨fun a => Y a ∨ a = q, φ1, x.2, ε, (m.more hq).ex e1 m1, px_mono (px_bind (px_ex e1 px)) fun y py u H2 φ2 e2 m2 r2 _ => ?_⟩
    obtain ⟨d, e3, p3⟩ := px_opt py
    unfold dd2E at e3
    rw [if_neg Bool.false_ne_true] at e3
    split at e3
    · rename_i t
      cases Option.some.inj e3
      have e12 := e1.trans e2
      have hq2 : H2 q = some (.dK []) := e12.keep _ _ upd_same fun z => (m.more (o := .dK []) hq).ms.nx q z (.inr rfl)
      have r1' := Rp.ex m1 e2 r1
      obtain ⟨kn, ev, ek, hok⟩ := mix_key r1' t
      refine ⟨hq2, [(kn, u)], by rw [ev]; rfl, by simp, ?_⟩
      have em : mergeK [] [(kn, u)] = [(kn, u)] := rfl
      rw [em]
      refine new_dct2 (G := G) m.ms hq e12 m2 hq2 (fun H3 Z up rx ry => .inl ⟨_, [u], up, ⟨[(kn, u)], rfl, by rw [ek]; rfl, fun p hp => by rw [List.mem_singleton.mp hp]; exact hok, rfl⟩, .cons ry .nil⟩) r1' r2 p3
    · cases e3
theorem s_dd2 {n : Bool} (hy : Hy g S xc G avc avg N kk ql X W) (h1 : PE X e1 (RD S xc G W a)) (h2 : PE X e2 (RD S xc G W b)) : PE X (.Dict [some e1] [e2] pos) (RD S xc G W (.dd2 n a b)) := by
  cases n with
  | true => exact s_dd2N hy h1 h2
  | false => exact s_dd2M hy h1 h2
end
end DM
set_option Elab.async false
set_option linter.all false
set_option maxRecDepth 100000
set_option maxHeartbeats 4000000
namespace DM
open PySem L2 PySem.Spec PyProof.Rows
/-- as a test too -/
def tst : T → Bool
  | .and a b => tst a && tst b
  | .or a b => tst a && tst b
  | .not a => tst a
  | .ite _ _ _ => false
  | .orv _ _ => false
  | .new _ => false
  | .fz _ => false
  | _ => true
/-- the names of the classes, one by one -/
def istL (g : Sg) (sc : Scope) : List Nat → List Expr → Bool
  | [], [] => true
  | c :: cs, .Name x _ :: es => g.hnd c && decide (g.cnm c = x) && glB sc x && okNm x && istL g sc cs es
  | _, _ => false
/-- a name that walks a range -/
def hotI : Tg → It → Bool | .nm _, .r1 _ => true | _, _ => false
section
variable (g : Sg) (avf avc avg avi : Nat → Bool) (N : List Str) (ql : Bool)
mutual
def lk (sc : Scope) (t : T) (e : Expr) : Bool :=
  match t with
  | .var i => match e with | .Name x _ => decide (N[i]? = some x) && visB sc x && okNm x | _ => false
  | .lit d => match e with | .Constant c _ _ => litB d c | _ => false
  | .glob n => match e with | .Name x _ => avg n && decide (g.gnm n = x) && glB sc x && okNm x | _ => false
  | .bin o a b => match e with | .BinOp x op y _ => o.is op && lk sc a x && lk sc b y | _ => false
  | .neg a => match e with | .UnaryOp .USub x _ => lk sc a x | _ => false
  | .cmp o a b => match e with
    | .Compare x [op] [y] _ => o.isO op && !setB y && lk sc a x && lk sc b y
    | _ => false
  | .chn o o' a b c => match e with | .Compare x [op, op'] [y, z] _ => o.isO op && o'.isO op' && !setB z && lk sc a x && lk sc b y && lk sc c z | _ => false
  | .and a b => match e with
    | .BoolOp .And [x, y] _ => lk sc a x && lk sc b y
    | .BoolOp .And (x :: y :: z :: r) p => lk sc a x && lk sc b (.BoolOp .And (y :: z :: r) p)
    | _ => false
  | .or a b => match e with
    | .BoolOp .Or [x, y] _ => lk sc a x && lk sc b y
    | .BoolOp .Or (x :: y :: z :: r) p => lk sc a x && lk sc b (.BoolOp .Or (y :: z :: r) p)
    | _ => false
  | .orv a b => match e with | .BoolOp .Or [x, y] _ => lk sc a x && lk sc b y | _ => false
  | .not a => match e with | .UnaryOp .Not x _ => lk sc a x | _ => false
  | .ite c a b => match e with | .IfExp x y z _ => tst c && lk sc c x && lk sc a y && lk sc b z | _ => false
  | .idx a b => match e with | .Subscript x y _ => lk sc a x && lk sc b y | _ => false
  | .slc a lo hi => match e with | .Subscript x (.Slice l h none _) _ => lk sc a x && lkO sc lo l && lkO sc hi h | _ => false
  | .att a f => match e with | .Attribute x n _ => decide (g.anm f = n) && baseB x && lk sc a x | _ => false
  | .tup as => match e with | .Tuple es _ _ => lks sc as es && decide (es.length ≤ 1000) | _ => false
  | .lst as => match e with | .List es _ => lks sc as es && decide (es.length ≤ 1000) | _ => false
  | .call _ n as => match callN e with | some (x, es) => (ql || (g.hot n && !es.isEmpty)) && avf n && decide (g.nm n = x) && glB sc x && lks sc as es | none => false
  | .mak _ c as => match callN e with | some (x, es) => ql && avc c && decide (g.cnm c = x) && glB sc x && lks sc as es | none => false
  | .mkw c w as ks => match e with | .Call (.Name x _) es kws _ => okNm x && ql && avc c && decide (g.cnm c = x) && glB sc x && lks sc as es && lkk sc ks kws && decide (kws.map (·.arg) = (g.kwn c w).map some) && !(g.kwn c w).isEmpty && decide (es.length = g.kwk c w) | _ => false
  | .mke c as => match e with | .Call (.Name x _) (y :: ys) [] _ => okNm x && ql && decide (g.cnm c = x) && glB sc x && lks sc as (y :: ys) | _ => false
  | .mth _ a m as => match callM e with | some (o, x, es) => ql && decide (g.mnm m = x) && baseB o && decide (es.length < 30) && lk sc a o && lks sc as es | none => false
  | .ucl _ c m as => match callM e with | some (.Name x _, m', es) => ql && decide (g.cnm c = x) && glB sc x && okNm x && decide (g.mnm m = m') && decide (es.length < 30) && !es.isEmpty && lks sc as es | _ => false
  | .bi b as => match callN e with | some (x, es) => (ql || b.cold) && decide (Str.ofString b.nm = x) && glB sc x && lks sc as es && !es.isEmpty | none => false
  | .isi a k => match callN e with | some (x, [y, .Name t _]) => decide (("isinstance" : Str) = x) && glB sc x && decide (Str.ofString k.nm = t) && glB sc t && lk sc a y | _ => false
  | .isc a c => match callN e with | some (x, [y, .Name t _]) => decide (("isinstance" : Str) = x) && glB sc x && (avi c || g.hnd c) && decide (g.cnm c = t) && glB sc t && okNm t && lk sc a y | _ => false
  | .isv a => match callN e with | some (x, [y, .Name t _]) => decide (("isinstance" : Str) = x) && glB sc x && decide (("ValueError" : Str) = t) && glB sc t && lk sc a y | _ => false
  | .ist a cs => match callN e with | some (x, [y, .Tuple es _ _]) => decide (("isinstance" : Str) = x) && glB sc x && !cs.isEmpty && decide (cs.length ≤ 1000) && istL g sc cs es && lk sc a y | _ => false
  | .new a => lk sc a e
  | .fz a => lk sc a e
  | .lrv a => match callN e with | some (x, [f]) => (match callN f with | some (x', [y]) => ql && decide (("list" : Str) = x) && glB sc x && decide (("reversed" : Str) = x') && glB sc x' && lk sc a y | _ => false) | _ => false
  | .rvl a => match e with | .Subscript x (.Slice none none (some (.UnaryOp .USub (.Constant (.int 1) _ _) _)) _) _ => lk sc a x | _ => false
  | .lrg a b => match callN e with | some (x, [f]) => (match callN f with | some (x', [y, z]) => ql && decide (("list" : Str) = x) && glB sc x && decide (("range" : Str) = x') && glB sc x' && lk sc a y && lk sc b z | some (x', [z]) => (match a with | .lit (.int 0) => true | _ => false) && ql && decide (("list" : Str) = x) && glB sc x && decide (("range" : Str) = x') && glB sc x' && lk sc b z | _ => false) | _ => false
  | .dd0 => match e with | .Dict [] [] _ => true | _ => false
  | .dd2 n a b => match e with | .Dict [some x] [y] _ => lk sc a x && lk sc b y | _ => false
  | .dd1 i b => match e with | .Dict [some (.Name x _)] [.Constant (.bool c) _ _] _ => decide (N[i]? = some x) && visB sc x && okNm x && decide (b = c) | _ => false
  | .lset a => match callN e with | some (x, [f]) => (match callN f with | some (x', [y]) => ql && decide (("len" : Str) = x) && glB sc x && decide (("set" : Str) = x') && glB sc x' && lk sc a y | _ => false) | _ => false
  | .jrv a b => match callM e with | some (o, x, [f]) => (match callN f with | some (x', [y]) => ql && decide (("join" : Str) = x) && baseB o && lk sc a o && decide (("reversed" : Str) = x') && glB sc x' && lk sc b y | _ => false) | _ => false
  | .sm m a as => match callM e with | some (o, x, es) => decide (m.nm = x) && baseB o && decide (es.length < 30) && !es.isEmpty && lk sc a o && lks sc as es | none => false
  | .lc tg it cd elt => match e with
    | .ListComp x [⟨t, i, ifs, 0⟩] scope _ => (ql || (g.lc N && hotI tg it)) && blkC N sc scope (ownN N (tgI tg)) && decide ((ownN N (tgI tg)).map (·.2) = tgI tg) && tgB N (locB scope) tg t && !setB i && lkI sc it t i && lkC (relS scope sc) cd ifs && lk (relS scope sc) elt x
    | _ => false
def lks (sc : Scope) (ts : Ts) (es : List Expr) : Bool :=
  match ts with
  | .nil => match es with | [] => true | _ => false
  | .cons a r => match es with | e :: es => lk sc a e && lks sc r es | _ => false
def lkk (sc : Scope) (ts : Ts) (ks : List Keyword) : Bool :=
  match ts with
  | .nil => match ks with | [] => true | _ => false
  | .cons a r => match ks with | ⟨_, e, _⟩ :: ks => lk sc a e && lkk sc r ks | _ => false
def lkO (sc : Scope) (t : TO) (e : Option Expr) : Bool :=
  match t with
  | .none => match e with | none => true | _ => false
  | .some a => match e with | some e => lk sc a e | _ => false
def lkC (sc : Scope) (t : TO) (e : List Expr) : Bool :=
  match t with
  | .none => match e with | [] => true | _ => false
  | .some a => match e with | [e] => tst a && lk sc a e | _ => false
def lkI (sc : Scope) (t : It) (tgE e : Expr) : Bool :=
  match t with
  | .seq a => lk sc a e
  | .r1 a => match callN e with | some (x, [y]) => decide (("range" : Str) = x) && glB sc x && lk sc a y | _ => false
  | .r2 a b => match callN e with | some (x, [y, z]) => decide (("range" : Str) = x) && glB sc x && lk sc a y && lk sc b z | _ => false
  | .enm a => match callN e with | some (x, [y]) => (match tgE with | .Tuple .. => true | _ => false) && decide (("enumerate" : Str) = x) && glB sc x && lk sc a y | _ => false
  | .zp a b => match callN e with | some (x, [y, z]) => (match tgE with | .Tuple .. => true | _ => false) && decide (("zip" : Str) = x) && glB sc x && lk sc a y && lk sc b z | _ => false
end
end
theorem callN_inv {e : Expr} {x : Str} {es : List Expr} (h : callN e = some (x, es)) : ∃ p pos, e = .Call (.Name x p) es [] pos ∧ okNm x = true := by
  unfold callN at h
  split at h
  · split at h
    · cases h; exact ⟨_, _, rfl, by assumption⟩
    · cases h
  · cases h
theorem callM_inv {e o : Expr} {x : Str} {es : List Expr} (h : callM e = some (o, x, es)) : ∃ p pos, e = .Call (.Attribute o x p) es [] pos ∧ (p.endLine == pos.line) = true := by
  unfold callM at h
  split at h
  · split at h
    · cases h; exact ⟨_, _, rfl, by assumption⟩
    · cases h
  · cases h
theorem okNm_inv {x : Str} (h : okNm x = true) : (x == ("__debug__" : Str)) = false ∧ (x == ("__classdict__" : Str)) = false := by
  unfold okNm at h
  simp only [Bool.and_eq_true, Bool.not_eq_true'] at h
  exact ⟨h.1.1, h.1.2⟩
theorem visB_inv {sc : Scope} {x : Str} (h : visB sc x = true) : Vis sc x := by
  unfold visB at h
  unfold Vis
  split at h <;> first | (rename_i q; rw [q]; simp) | cases h
theorem glB_inv {X : Cx} {sc : Scope} {x : Str} (hs : X.env.scope = sc) (h : glB sc x = true) : Gl X x := by
  unfold glB at h
  subst hs
  split at h
  · assumption
  · cases h
theorem locB_inv {sc : Scope} {x : Str} (h : locB sc x = true) : sc.names.lookup x = some .local ∨ sc.names.lookup x = some .cell := by
  unfold locB at h
  split at h <;> first | exact .inl (by assumption) | exact .inr (by assumption) | cases h
section
variable {g : Sg} {avf avc avg avi : Nat → Bool} {N : List Str} {ql : Bool} {sc : Scope}
def plainE : Expr → Bool | .Starred .. => false | .Slice .. => false | _ => true
def wrapB : T → Bool | .new _ => true | .fz _ => true | _ => false
theorem lk_plain0 {t : T} (w : wrapB t = false) : ∀ {e : Expr}, lk g avf avc avg avi N ql sc t e = true → plainE e = true := by
  cases t
  case call k n as =>
    intro e h
    unfold lk at h
    split at h
    · obtain ⟨p, pos, rfl, _⟩ := callN_inv ‹_›; rfl
    · cases h
  case mak k n as =>
    intro e h
    unfold lk at h
    split at h
    · obtain ⟨p, pos, rfl, _⟩ := callN_inv ‹_›; rfl
    · cases h
  case bi n as =>
    intro e h
    unfold lk at h
    split at h
    · obtain ⟨p, pos, rfl, _⟩ := callN_inv ‹_›; rfl
    · cases h
  case mth k a m as =>
    intro e h
    unfold lk at h
    split at h
    · obtain ⟨p, pos, rfl, _⟩ := callM_inv ‹_›; rfl
    · cases h
  case ucl k c m as =>
    intro e h
    unfold lk at h
    split at h
    · obtain ⟨p, pos, rfl, _⟩ := callM_inv ‹_›; rfl
    · cases h
  case jrv a b =>
    intro e h
    unfold lk at h
    split at h
    · obtain ⟨p, pos, rfl, _⟩ := callM_inv ‹_›; rfl
    · cases h
  case sm a m as =>
    intro e h
    unfold lk at h
    split at h
    · obtain ⟨p, pos, rfl, _⟩ := callM_inv ‹_›; rfl
    · cases h
  case isi a k =>
    intro e h
    unfold lk at h
    split at h
    · obtain ⟨p, pos, rfl, _⟩ := callN_inv ‹_›; rfl
    · cases h
  case isc a k =>
    intro e h
    unfold lk at h
    split at h
    · obtain ⟨p, pos, rfl, _⟩ := callN_inv ‹_›; rfl
    · cases h
  case isv a =>
    intro e h
    unfold lk at h
    split at h
    · obtain ⟨p, pos, rfl, _⟩ := callN_inv ‹_›; rfl
    · cases h
  case ist a cs =>
    intro e h
    unfold lk at h
    split at h
    · obtain ⟨p, pos, rfl, _⟩ := callN_inv ‹_›; rfl
    · cases h
  case lrv a =>
    intro e h
    unfold lk at h
    split at h
    · obtain ⟨p, pos, rfl, _⟩ := callN_inv ‹_›; rfl
    · cases h
  case lrg a b =>
    intro e h
    unfold lk at h
    split at h
    · obtain ⟨p, pos, rfl, _⟩ := callN_inv ‹_›; rfl
    · cases h
  case lset a =>
    intro e h
    unfold lk at h
    split at h
    · obtain ⟨p, pos, rfl, _⟩ := callN_inv ‹_›; rfl
    · cases h
  case mkw c w as ks =>
    intro e h
    unfold lk at h
    split at h
    · rfl
    · cases h
  case mke c as =>
    intro e h
    unfold lk at h
    split at h
    · rfl
    · cases h
  case new a => cases w
  case fz a => cases w
  all_goals (intro e h; cases e <;> first | rfl | (unfold lk at h; cases h))
/-- what is looked at is no star, no slice, no set -/
theorem lk_plain : ∀ {t : T} {e : Expr}, lk g avf avc avg avi N ql sc t e = true → plainE e = true
  | .new a, e, h => lk_plain (t := a) (by unfold lk at h; exact h)
  | .fz a, e, h => lk_plain (t := a) (by unfold lk at h; exact h)
  | .var i, e, h => lk_plain0 rfl h
  | .lit d, e, h => lk_plain0 rfl h
  | .glob d, e, h => lk_plain0 rfl h
  | .bin o a b, e, h => lk_plain0 rfl h
  | .neg a, e, h => lk_plain0 rfl h
  | .cmp o a b, e, h => lk_plain0 rfl h
  | .chn o o' a b c, e, h => lk_plain0 rfl h
  | .and a b, e, h => lk_plain0 rfl h
  | .or a b, e, h => lk_plain0 rfl h
  | .not a, e, h => lk_plain0 rfl h
  | .ite c a b, e, h => lk_plain0 rfl h
  | .idx a b, e, h => lk_plain0 rfl h
  | .slc a lo hi, e, h => lk_plain0 rfl h
  | .att a f, e, h => lk_plain0 rfl h
  | .tup as, e, h => lk_plain0 rfl h
  | .lst as, e, h => lk_plain0 rfl h
  | .call k n as, e, h => lk_plain0 rfl h
  | .mak k n as, e, h => lk_plain0 rfl h
  | .mkw c w as ks, e, h => lk_plain0 rfl h
  | .mke c as, e, h => lk_plain0 rfl h
  | .mth k a m as, e, h => lk_plain0 rfl h
  | .ucl k c m as, e, h => lk_plain0 rfl h
  | .bi b as, e, h => lk_plain0 rfl h
  | .isi a k, e, h => lk_plain0 rfl h
  | .isc a k, e, h => lk_plain0 rfl h
  | .isv a, e, h => lk_plain0 rfl h
  | .ist a cs, e, h => lk_plain0 rfl h
  | .lrv a, e, h => lk_plain0 rfl h
  | .lrg a b, e, h => lk_plain0 rfl h
  | .orv a b, e, h => lk_plain0 rfl h
  | .dd0, e, h => lk_plain0 rfl h
  | .dd1 i b, e, h => lk_plain0 rfl h
  | .dd2 n a b, e, h => lk_plain0 rfl h
  | .lset a, e, h => lk_plain0 rfl h
  | .rvl a, e, h => lk_plain0 rfl h
  | .jrv a b, e, h => lk_plain0 rfl h
  | .sm m a as, e, h => lk_plain0 rfl h
  | .lc tg it cd elt, e, h => lk_plain0 rfl h
theorem lk_form {t : T} {e : Expr} (h : lk g avf avc avg avi N ql sc t e = true) : starB e = false ∧ PlainIx e := by
  have q := lk_plain h
  cases e <;> first | exact ⟨rfl, fun _ _ => rfl⟩ | cases q
theorem lks_star : ∀ {ts : Ts} {es : List Expr}, lks g avf avc avg avi N ql sc ts es = true → es.all (fun e => !starB e) = true
  | .nil, [], _ => rfl
  | .nil, _ :: _, h => by unfold lks at h; cases h
  | .cons _ _, [], h => by unfold lks at h; cases h
  | .cons a r, e :: es, h => by
    unfold lks at h
    rw [Bool.and_eq_true] at h
    rw [List.all_cons, lks_star h.2, (lk_form h.1).1]; rfl
theorem lks_nil {ts : Ts} {es : List Expr} (h : lks g avf avc avg avi N ql sc ts es = true) : es = [] → ts = .nil := by
  rintro rfl
  cases ts with
  | nil => rfl
  | cons _ _ => unfold lks at h; cases h
theorem lks_len {S : Mn} : ∀ {ts : Ts} {es : List Expr} {ε : Ev} {μ : Mem} {xs : List D × Mem}, lks g avf avc avg avi N ql sc ts es = true → evs S ts ε μ = .ok xs → xs.1.length = es.length
  | .nil, [], _, _, xs, _, h => by unfold evs at h; cases h; rfl
  | .nil, _ :: _, _, _, _, h, _ => by unfold lks at h; cases h
  | .cons _ _, [], _, _, _, h, _ => by unfold lks at h; cases h
  | .cons a r, e :: es, ε, μ, xs, h, h2 => by
    unfold lks at h
    rw [Bool.and_eq_true] at h
    unfold evs at h2
    obtain ⟨x, _, h2⟩ := bind_ok h2
    obtain ⟨ys, h3, h2⟩ := bind_ok h2
    cases h2
    rw [List.length_cons, List.length_cons, lks_len h.2 h3]
end
end DM
set_option Elab.async false
set_option linter.all false
set_option maxRecDepth 100000
set_option maxHeartbeats 4000000
namespace DM
open PySem L2 PySem.Spec PyProof.Rows
section
variable {g : Sg} {avf avc avg : Nat → Bool} {N : List Str} {kk : Nat} {ql : Bool} {S : Mn} {xc : Xc} {G : Gc}
theorem Hy.blk {W : WX} {X : Cx} {s : Shared} {H : Hp} {scope : Scope} {cenv : Env} {fp : List Addr} (hy : Hy g S xc G avc avg N kk ql X W) : Hy g S xc G avc avg N kk ql (X.blk s H scope cenv fp) (fun _ _ _ _ => False) :=
  { hN := hy.hN, nd := hy.nd, hK := hy.hK, calm := hy.calm, room := hy.room, cool := hy.cool, lch := hy.lch, un := hy.un, rmh := hy.rmh, cold := fun _ _ _ _ _ z => z, tk := takesN0, hxc := hy.hxc, hhs := hy.hhs, hnd := hy.hnd, xfs := hy.xfs, isx := hy.isx, isw := hy.isw, hts := hy.hts, blt := hy.blt, glo := hy.glo, fns := hy.fns, cls := hy.cls, mts := hy.mts, ubs := hy.ubs, mks := hy.mks, isn := hy.isn, isi := hy.isi, xks := hy.xks }
theorem op_is {o : BO} {op : Operator} (h : o.is op = true) : op = o.op := by
  cases o <;> cases op <;> first | rfl | cases h
theorem cop_is {o : CO} {op : CmpOp} (h : o.isO op = true) : op = o.op := by
  cases o <;> cases op <;> first | rfl | cases h
theorem behind_of {op : CmpOp} {e : Expr} (h : setB e = false) : behindInMarks op e = false := by
  cases e <;> first | rfl | cases h
/-- a truth, from a plain form -/
theorem plainT {X : Cx} {W : WX} {e : Expr} {t : T} (h : PE X e (RD S xc G W t)) (he : (match e with | .UnaryOp .Not .. => false | .BoolOp .. => false | .IfExp .. => false | .Compare .. => false | _ => true) = true) : PT X e (RDT S xc G W t) := by
  refine s_test h fun whole => ?_
  cases e
  case UnaryOp op x p => cases op <;> first | rfl | cases he
  all_goals first | rfl | cases he
theorem last_of {op op' : CmpOp} {e e' : Expr} (h : setB e' = false) : lastMarks [op, op'] [e, e'] = false := behind_of h
section
variable {X : Cx} {W : WX} {e1 e2 e3 : Expr} {a b c : T} {pos : Pos} {o o' : CO}
theorem s_chn (hK : X.K = G.K) (hh : G.cl.hs = fun k => k.hash X.w) (hu : X.A.units + 65 < cLine) (hs : setB e3 = false) (h1 : PE X e1 (RD S xc G W a)) (h2 : PE X e2 (RD S xc G W b)) (h3 : PE X e3 (RD S xc G W c)) :
    PE X (.Compare e1 [o.op, o'.op] [e2, e3] pos) (RD S xc G W (.chn o o' a b c)) ∧ PT X (.Compare e1 [o.op, o'.op] [e2, e3] pos) (RDT S xc G W (.chn o o' a b c)) := by
  have key : ∀ {σ H} {Y : Addr → Prop} {φ : List Addr} {μ : Mem} {ε : Ev} {kk : D × Mem → Prop} {Q : VK}, Mt (G.wx Y) φ μ H σ ε → PX xc (G.wx Y) W σ φ μ H (ev S (.chn o o' a b c) ε μ) kk → (∀ p φ' μ' H', Ex φ μ H φ' μ' H' → kk p → QQ (G.wx Y) φ' μ' H' p.2 false p.1 Q) → tChain (rCmp X.K (fun k => k.hash X.w) o) (rCmp X.K (fun k => k.hash X.w) o') (RD S xc G W a) (RD S xc G W b) (RD S xc G W c) σ H Q := by
    intro σ H Y φ μ ε kk Q m p fin
    refine two m p fun d1 μ1 d2 μ2 v u φ2 H2 e m2 r1 r2 p2 => ?_
    have p3 := px_bind p2
    obtain ⟨d, e3, p3⟩ := px_opt p3
    rw [hK, ← hh]
    refine cmp_ok (G := G.wx Y) (fr := false) m2.ms r1 r2 e3 fun v' H' φ' e' m' r' _ => ?_
    cases d with
    | bl i =>
      cases r'
      refine ⟨i, rfl, ?_⟩
      cases i with
      | false =>
        rw [if_neg Bool.false_ne_true]
        exact qq_bl (G := G.wx Y) m' (fin _ _ _ _ (e.trans e') p3)
      | true =>
        rw [if_pos rfl]
        refine ⟨Y, φ', μ2, ε, m2.ex e' m', px_mono (px_bind (px_ex e' p3)) fun z pz w H4 φ4 e4 m4 r4 _ => ?_⟩
        obtain ⟨d5, e5, q5⟩ := px_opt pz
        exact cmp_ok (G := G.wx Y) m4 (Rp.ex m' e4 (Rp.ex m2.ms e' r2)) r4 e5 (fin _ _ _ _ ((e.trans e').trans e4) q5)
    | _ => exact p3.elim
  refine ⟨(pe_chain (opR_cmp hu o) (opR_cmp hu o') h1 h2 h3 (last_of hs)).imp fun σ H Q ⟨Y, φ, μ, ε, m, p⟩ => key m p fun p φ' μ' H' e q => q.back e,
    (pt_chain (opR_cmp hu o) (opR_cmp hu o') h1 h2 h3 (last_of hs)).imp fun σ H Q ⟨Y, φ, μ, ε, m, p⟩ => key m p fun p φ' μ' H' e q => ?_⟩
  obtain ⟨b, hb, q⟩ := q
  intro v' H2 φ2 e2 m2 r2 _
  rw [hb] at r2
  cases r2
  exact ⟨b, rfl, q _ _ (e.trans e2) m2⟩
end
end
end DM
set_option Elab.async false
set_option linter.all false
set_option maxRecDepth 100000
set_option maxHeartbeats 4000000
namespace DM
open PySem L2 PySem.Spec PyProof.Rows
section
variable {g : Sg} {avf avc avg avi : Nat → Bool} {N : List Str} {kk : Nat} {ql : Bool} {S : Mn} {xc : Xc} {G : Gc}
theorem units_of {W : WX} {X : Cx} (hy : Hy g S xc G avc avg N kk ql X W) : X.A.units + 65 < cLine := hy.un
theorem both {X : Cx} {W : WX} {e : Expr} {t : T} (h : PE X e (RD S xc G W t)) (he : (match e with | .UnaryOp .Not .. => false | .BoolOp .. => false | .IfExp .. => false | .Compare .. => false | _ => true) = true) : PE X e (RD S xc G W t) ∧ (tst t = true → PT X e (RDT S xc G W t)) := ⟨h, fun _ => plainT h he⟩
/-- what is named in a text stands -/
structure Avs (S : Mn) (avf avc avi : Nat → Bool) : Prop where
  f : ∀ n, avf n = true → S.av n = true ∧ S.fnd n = true
  c : ∀ n, avc n = true → ∃ nn, S.ini n = some nn ∧ S.av nn = true
  i : ∀ n, avi n = true → ∃ b, S.isk none n = some b
/-- an environment's names -/
abbrev Sc (X : Cx) (sc : Scope) : Prop := X.env.scope = sc
theorem istL_inv {X : Cx} {W : WX} {sc : Scope} (hy : Hy g S xc G avc avg N kk ql X W) (hs : Sc X sc) : ∀ {cs : List Nat} {es : List Expr}, istL g sc cs es = true → ∃ Cs : List Addr, Paired (fun e C => ∃ x p, e = Expr.Name x p ∧ Gl X x ∧ X.mg x = some (.ref C) ∧ (x == ("__debug__" : Str)) = false) es Cs ∧ Paired (fun c C => X.mg (g.cnm c) = some (.ref C)) cs Cs ∧ Cs.length = cs.length
  | [], [], _ => ⟨[], .nil, .nil, rfl⟩
  | [], _ :: _, h => by simp [istL] at h
  | c :: cs, [], h => by simp [istL] at h
  | c :: cs, e :: es, h => by
    unfold istL at h
    split at h
    · rename_i heq _; cases heq
    · rename_i heq1 heq2
      cases heq1; cases heq2
      simp only [Bool.and_eq_true, decide_eq_true_eq] at h
      obtain ⟨⟨⟨⟨h1, h2⟩, h3⟩, h4⟩, h5⟩ := h
      subst h2
      obtain ⟨C, hC⟩ := hy.hnd c h1
      obtain ⟨Cs, q1, q2, q3⟩ := istL_inv hy hs h5
      exact ⟨C :: Cs, .cons ⟨_, _, rfl, glB_inv hs h3, hC, (okNm_inv h4).1⟩ q1, .cons hC q2, by simp [q3]⟩
    · cases h
mutual
theorem ok_t (hav : Avs S avf avc avi) : ∀ (t : T) {X : Cx} {W : WX} {sc : Scope} {e : Expr}, Hy g S xc G avc avg N kk ql X W → Sc X sc → lk g avf avc avg avi N ql sc t e = true → PE X e (RD S xc G W t) ∧ (tst t = true → PT X e (RDT S xc G W t))

  | .var i, X, W, sc, e, hy, hs, h => by
    unfold lk at h
    split at h <;> try cases h
    simp only [Bool.and_eq_true, decide_eq_true_eq, Bool.not_eq_true'] at h
    obtain ⟨⟨h1, h2⟩, h3⟩ := h
    obtain ⟨k1, k2⟩ := okNm_inv h3
    subst hs
    refine both (t := .var i) (s_var (by rw [hy.hN]; exact h1) (visB_inv h2) k1 k2) rfl
  | .lit d, X, W, sc, e, hy, hs, h => by
    unfold lk at h
    split at h <;> try cases h
    refine both (t := .lit d) (s_lit h) rfl
  | .glob n, X, W, sc, e, hy, hs, h => by
    unfold lk at h
    split at h <;> try cases h
    simp only [Bool.and_eq_true, decide_eq_true_eq, Bool.not_eq_true'] at h
    obtain ⟨⟨⟨h1, h2⟩, h3⟩, h4⟩ := h
    obtain ⟨k1, k2⟩ := okNm_inv h4
    obtain ⟨v, u, hm, r, hr⟩ := hy.glo n h1
    rw [h2] at hm
    refine both (t := .glob n) (s_glob (glB_inv hs h3) hm r hr k1) rfl
  | .bin o a b, X, W, sc, e, hy, hs, h => by
    unfold lk at h
    split at h <;> try cases h
    simp only [Bool.and_eq_true, decide_eq_true_eq, Bool.not_eq_true'] at h
    obtain ⟨⟨h1, h2⟩, h3⟩ := h
    obtain rfl := op_is h1
    refine both (t := .bin o a b) (s_bin hy.hK (ok_t hav a hy hs h2).1 (ok_t hav b hy hs h3).1) rfl
  | .neg a, X, W, sc, e, hy, hs, h => by
    unfold lk at h
    split at h <;> try cases h
    refine both (t := .neg a) (s_neg (ok_t hav a hy hs h).1) rfl
  | .cmp o a b, X, W, sc, e, hy, hs, h => by
    unfold lk at h
    split at h <;> try cases h
    simp only [Bool.and_eq_true, decide_eq_true_eq, Bool.not_eq_true'] at h
    rename_i pos
    obtain ⟨⟨⟨h1, h2⟩, h3⟩, h4⟩ := h
    obtain rfl := cop_is h1
    have H := s_cmp (pos := pos) (o := o) hy.hK hy.hhs (units_of hy) (behind_of h2) (ok_t hav a hy hs h3).1 (ok_t hav b hy hs h4).1
    exact ⟨H.1, fun _ => H.2⟩
  | .chn o o' a b c, X, W, sc, e, hy, hs, h => by
    unfold lk at h
    split at h <;> try cases h
    simp only [Bool.and_eq_true, decide_eq_true_eq, Bool.not_eq_true'] at h
    rename_i pos
    obtain ⟨⟨⟨⟨⟨h1, h1'⟩, h2⟩, h3⟩, h4⟩, h5⟩ := h
    obtain rfl := cop_is h1
    obtain rfl := cop_is h1'
    have H := s_chn (pos := pos) (o := o) (o' := o') hy.hK hy.hhs (units_of hy) h2 (ok_t hav a hy hs h3).1 (ok_t hav b hy hs h4).1 (ok_t hav c hy hs h5).1
    exact ⟨H.1, fun _ => H.2⟩
  | .and a b, X, W, sc, e, hy, hs, h => by
    unfold lk at h
    split at h
    · rw [Bool.and_eq_true] at h
      have h1 := ok_t hav a hy hs h.1
      have h2 := ok_t hav b hy hs h.2
      refine ⟨s_and h1.1 (pe_one h2.1), fun t => ?_⟩
      unfold tst at t
      rw [Bool.and_eq_true] at t
      exact (s_andT (h1.2 t.1) (pw_and1 (h2.2 t.2))).pt
    · rw [Bool.and_eq_true] at h
      have h1 := ok_t hav a hy hs h.1
      have h2 := ok_t hav b hy hs h.2
      refine ⟨s_and h1.1 h2.1, fun t => ?_⟩
      unfold tst at t
      rw [Bool.and_eq_true] at t
      exact (s_andT (h1.2 t.1) (pw_of (h2.2 t.2))).pt
    · cases h
  | .or a b, X, W, sc, e, hy, hs, h => by
    unfold lk at h
    split at h
    · rw [Bool.and_eq_true] at h
      have h1 := ok_t hav a hy hs h.1
      have h2 := ok_t hav b hy hs h.2
      refine ⟨s_or h1.1 (pe_one h2.1), fun t => ?_⟩
      unfold tst at t
      rw [Bool.and_eq_true] at t
      exact (s_orT (h1.2 t.1) (pw_or1 (h2.2 t.2))).pt
    · rw [Bool.and_eq_true] at h
      have h1 := ok_t hav a hy hs h.1
      have h2 := ok_t hav b hy hs h.2
      refine ⟨s_or h1.1 h2.1, fun t => ?_⟩
      unfold tst at t
      rw [Bool.and_eq_true] at t
      exact (s_orT (h1.2 t.1) (pw_of (h2.2 t.2))).pt
    · cases h
  | .not a, X, W, sc, e, hy, hs, h => by
    unfold lk at h
    split at h <;> try cases h
    have h1 := ok_t hav a hy hs h
    exact ⟨s_not h1.1, fun t => s_notT (h1.2 (by unfold tst at t; exact t))⟩
  | .orv a b, X, W, sc, e, hy, hs, h => by
    unfold lk at h
    split at h <;> try cases h
    rw [Bool.and_eq_true] at h
    exact ⟨s_orv hy.hK (ok_t hav a hy hs h.1).1 (ok_t hav b hy hs h.2).1, fun t => by unfold tst at t; cases t⟩
  | .ite c a b, X, W, sc, e, hy, hs, h => by
    unfold lk at h
    split at h <;> try cases h
    simp only [Bool.and_eq_true, decide_eq_true_eq, Bool.not_eq_true'] at h
    obtain ⟨⟨⟨h0, h1⟩, h2⟩, h3⟩ := h
    have hc := ok_t hav c hy hs h1
    exact ⟨s_ite (hc.2 h0) (ok_t hav a hy hs h2).1 (ok_t hav b hy hs h3).1, fun t => by unfold tst at t; cases t⟩
  | .idx a b, X, W, sc, e, hy, hs, h => by
    unfold lk at h
    split at h <;> try cases h
    simp only [Bool.and_eq_true, decide_eq_true_eq, Bool.not_eq_true'] at h
    obtain ⟨h1, h2⟩ := h
    refine both (t := .idx a b) (s_idx hy.hK hy.hhs (units_of hy) (lk_form h2).2 (ok_t hav a hy hs h1).1 (ok_t hav b hy hs h2).1) rfl
  | .slc a lo hi, X, W, sc, e, hy, hs, h => by
    unfold lk at h
    split at h <;> try cases h
    simp only [Bool.and_eq_true, decide_eq_true_eq, Bool.not_eq_true'] at h
    obtain ⟨⟨h1, h2⟩, h3⟩ := h
    refine both (t := .slc a lo hi) (s_slc hy.hK (ok_t hav a hy hs h1).1 (ok_o hav lo hy hs h2) (ok_o hav hi hy hs h3)) rfl
  | .att a f, X, W, sc, e, hy, hs, h => by
    unfold lk at h
    split at h <;> try cases h
    simp only [Bool.and_eq_true, decide_eq_true_eq, Bool.not_eq_true'] at h
    obtain ⟨⟨h1, h2⟩, h3⟩ := h
    subst h1
    refine both (t := .att a f) (s_att hy.hxc hy.cls hy.xfs h2 (ok_t hav a hy hs h3).1) rfl
  | .tup as, X, W, sc, e, hy, hs, h => by
    unfold lk at h
    split at h <;> try cases h
    simp only [Bool.and_eq_true, decide_eq_true_eq, Bool.not_eq_true'] at h
    obtain ⟨h1, h2⟩ := h
    refine both (t := .tup as) (s_tup (ok_a hav as hy hs h1) h2 (lks_len h1)) rfl
  | .lst as, X, W, sc, e, hy, hs, h => by
    unfold lk at h
    split at h <;> try cases h
    simp only [Bool.and_eq_true, decide_eq_true_eq, Bool.not_eq_true'] at h
    obtain ⟨h1, h2⟩ := h
    refine both (t := .lst as) (s_lst (ok_a hav as hy hs h1) h2 (lks_len h1)) rfl
  | .call k n as, X, W, sc, e, hy, hs, h => by
    unfold lk at h
    split at h <;> try cases h
    simp only [Bool.and_eq_true, decide_eq_true_eq, Bool.not_eq_true'] at h
    rename_i x es hc
    obtain ⟨p, pos, rfl, hn⟩ := callN_inv hc
    obtain ⟨⟨⟨⟨hq, h1⟩, h2⟩, h3⟩, h4⟩ := h
    by_cases hq2 : ql = true
    rotate_left
    · have hq2 : ql = false := by simpa using hq2
      rw [hq2, Bool.false_or, Bool.and_eq_true, Bool.not_eq_true'] at hq
      cases es with
      | nil => cases hq.2
      | cons e es => exact both (t := .call k n as) (s_callC hq2 hq.1 hy h2 (glB_inv hs h3) (okNm_inv hn).1 (hav.f n h1).1 (ok_a hav as hy hs h4) (lks_star h4)) rfl
    refine both (t := .call k n as) (s_call hq2 hy h2 (glB_inv hs h3) (okNm_inv hn).1 (hav.f n h1).1 (hav.f n h1).2 (ok_a hav as hy hs h4) (lks_star h4) (lks_nil h4)) rfl
  | .ucl k c m as, X, W, sc, e, hy, hs, h => by
    unfold lk at h
    split at h <;> try cases h
    simp only [Bool.and_eq_true, decide_eq_true_eq, Bool.not_eq_true'] at h
    rename_i x xp m' es hc
    obtain ⟨p, pos, rfl, hl⟩ := callM_inv hc
    obtain ⟨⟨⟨⟨⟨⟨⟨hq, h1⟩, h2⟩, h3⟩, h4⟩, h5⟩, h6⟩, h7⟩ := h
    subst h4
    cases es with
    | nil => cases h6
    | cons e es =>
      have st := lks_star h7
      rw [List.all_cons, Bool.and_eq_true] at st
      refine both (t := .ucl k c m as) (s_ucl hq hy h1 (glB_inv hs h2) (okNm_inv h3).1 hl h5 (ok_a hav as hy hs h7) (by simpa using st.1) st.2) rfl
  | .mak k n as, X, W, sc, e, hy, hs, h => by
    unfold lk at h
    split at h <;> try cases h
    simp only [Bool.and_eq_true, decide_eq_true_eq, Bool.not_eq_true'] at h
    rename_i x es hc
    obtain ⟨p, pos, rfl, hn⟩ := callN_inv hc
    obtain ⟨⟨⟨⟨hq, h1⟩, h2⟩, h3⟩, h4⟩ := h
    obtain ⟨nn, i1, i2⟩ := hav.c n h1
    refine both (t := .mak k n as) (s_mak hq hy h2 (glB_inv hs h3) (okNm_inv hn).1 h1 i1 i2 (ok_a hav as hy hs h4) (lks_star h4) (lks_nil h4)) rfl
  | .mkw c w as ks, X, W, sc, e, hy, hs, h => by
    unfold lk at h
    split at h <;> try cases h
    simp only [Bool.and_eq_true, decide_eq_true_eq, Bool.not_eq_true'] at h
    obtain ⟨⟨⟨⟨⟨⟨⟨⟨⟨hn, hq⟩, h1⟩, h2⟩, h3⟩, h4⟩, h5⟩, h6⟩, h7⟩, h8⟩ := h
    obtain ⟨nn, i1, i2⟩ := hav.c c h1
    refine both (t := .mkw c w as ks) (s_mkw hq hy h2 (glB_inv hs h3) (okNm_inv hn).1 h1 (fun z => by rw [z] at h7; cases h7) i1 i2 (ok_a hav as hy hs h4) (lks_star h4) (lks_nil h4) (ok_k hav ks hy hs h5) h6 h8) rfl
  | .mke c as, X, W, sc, e, hy, hs, h => by
    unfold lk at h
    split at h <;> try cases h
    simp only [Bool.and_eq_true, decide_eq_true_eq, Bool.not_eq_true'] at h
    obtain ⟨⟨⟨⟨hn, hq⟩, h2⟩, h3⟩, h4⟩ := h
    have st := lks_star h4
    rw [List.all_cons, Bool.and_eq_true] at st
    refine both (t := .mke c as) (s_mke hq hy h2 (glB_inv hs h3) (okNm_inv hn).1 (ok_a hav as hy hs h4) (by simpa using st.1) st.2) rfl
  | .mth k a m as, X, W, sc, e, hy, hs, h => by
    unfold lk at h
    split at h <;> try cases h
    simp only [Bool.and_eq_true, decide_eq_true_eq, Bool.not_eq_true'] at h
    rename_i o x es hc
    obtain ⟨p, pos, rfl, hl⟩ := callM_inv hc
    obtain ⟨⟨⟨⟨⟨hq, h1⟩, h2⟩, h3⟩, h4⟩, h5⟩ := h
    subst h1
    refine both (t := .mth k a m as) (s_mth hq hy h2 hl h3 (ok_t hav a hy hs h4).1 (ok_a hav as hy hs h5) (lks_star h5) (lks_nil h5)) rfl
  | .bi b as, X, W, sc, e, hy, hs, h => by
    unfold lk at h
    split at h <;> try cases h
    simp only [Bool.and_eq_true, decide_eq_true_eq, Bool.not_eq_true'] at h
    rename_i x es hc
    obtain ⟨p, pos, rfl, hn⟩ := callN_inv hc
    obtain ⟨⟨⟨⟨hq, h1⟩, h2⟩, h3⟩, h4⟩ := h
    cases es with
    | nil => cases h4
    | cons e es =>
    have st := lks_star h3
    rw [List.all_cons, Bool.and_eq_true] at st
    refine both (t := .bi b as) (s_bi hq hy h1 (glB_inv hs h2) (ok_a hav as hy hs h3) (by simpa using st.1) st.2) rfl
  | .isi a k, X, W, sc, e, hy, hs, h => by
    unfold lk at h
    split at h <;> try cases h
    simp only [Bool.and_eq_true, decide_eq_true_eq, Bool.not_eq_true'] at h
    rename_i x y t tp hc
    obtain ⟨p, pos, rfl, hn⟩ := callN_inv hc
    obtain ⟨⟨⟨⟨h1, h2⟩, h3⟩, h4⟩, h5⟩ := h
    subst h1
    subst h3
    refine both (t := .isi a k) (s_isi hy (glB_inv hs h2) (glB_inv hs h4) (ok_t hav a hy hs h5).1 (lk_form h5).1) rfl
  | .isc a c, X, W, sc, e, hy, hs, h => by
    unfold lk at h
    split at h <;> try cases h
    simp only [Bool.and_eq_true, decide_eq_true_eq, Bool.not_eq_true'] at h
    rename_i x y t tp hc
    obtain ⟨p, pos, rfl, hn⟩ := callN_inv hc
    obtain ⟨⟨⟨⟨⟨⟨h1, h2⟩, h3⟩, h4⟩, h5⟩, h6⟩, h7⟩ := h
    subst h1
    refine both (t := .isc a c) (s_isc hy (glB_inv hs h2) h4 (glB_inv hs h5) (okNm_inv h6).1 (ok_t hav a hy hs h7).1 (lk_form h7).1 ?_) rfl
    rw [Bool.or_eq_true] at h3
    rw [← h4]
    rcases h3 with h3 | h3
    · obtain ⟨b, hb⟩ := hav.i c h3
      obtain ⟨C, h, _⟩ := hy.isn c b hb
      exact ⟨C, h⟩
    · exact hy.hnd c h3
  | .new a, X, W, sc, e, hy, hs, h => ⟨s_new (ok_t hav a hy hs (by unfold lk at h; exact h)).1, fun z => by unfold tst at z; cases z⟩
  | .fz a, X, W, sc, e, hy, hs, h => ⟨s_fz (ok_t hav a hy hs (by unfold lk at h; exact h)).1, fun z => by unfold tst at z; cases z⟩
  | .isv a, X, W, sc, e, hy, hs, h => by
    unfold lk at h
    split at h <;> try cases h
    simp only [Bool.and_eq_true, decide_eq_true_eq, Bool.not_eq_true'] at h
    rename_i x y t tp hc
    obtain ⟨p, pos, rfl, hn⟩ := callN_inv hc
    obtain ⟨⟨⟨⟨h1, h2⟩, h3⟩, h4⟩, h5⟩ := h
    subst h1
    subst h3
    refine both (t := .isv a) (s_isv hy (glB_inv hs h2) (glB_inv hs h4) (ok_t hav a hy hs h5).1 (lk_form h5).1) rfl
  | .ist a cs, X, W, sc, e, hy, hs, h => by
    unfold lk at h
    split at h <;> try cases h
    simp only [Bool.and_eq_true, decide_eq_true_eq, Bool.not_eq_true'] at h
    rename_i x y es k2 tp hc
    obtain ⟨p, pos, rfl, hn⟩ := callN_inv hc
    obtain ⟨⟨⟨⟨⟨h1, h2⟩, h3⟩, h4⟩, h5⟩, h6⟩ := h
    subst h1
    obtain ⟨Cs, q1, q2, q3⟩ := istL_inv hy hs h5
    refine both (t := .ist a cs) (s_ist hy (glB_inv hs h2) q1 q2 (fun z => by rw [z] at h3; cases h3) (by omega) (ok_t hav a hy hs h6).1 (lk_form h6).1) rfl
  | .lrv a, X, W, sc, e, hy, hs, h => by
    unfold lk at h
    split at h <;> try cases h
    split at h <;> try cases h
    simp only [Bool.and_eq_true, decide_eq_true_eq, Bool.not_eq_true'] at h
    rename_i x f hc _ x' y hc'
    obtain ⟨p, pos, rfl, hn⟩ := callN_inv hc
    obtain ⟨p', pos', rfl, hn'⟩ := callN_inv hc'
    obtain ⟨⟨⟨⟨⟨hq, h1⟩, h2⟩, h3⟩, h4⟩, h5⟩ := h
    subst h1
    subst h3
    refine both (t := .lrv a) (s_lrv hq hy (glB_inv hs h2) (glB_inv hs h4) (ok_t hav a hy hs h5).1 (lk_form h5).1) rfl
  | .rvl a, X, W, sc, e, hy, hs, h => by
    unfold lk at h
    split at h <;> try cases h
    refine both (t := .rvl a) (s_rvl hy (ok_t hav a hy hs h).1) rfl
  | .lrg a b, X, W, sc, e, hy, hs, h => by
    unfold lk at h
    split at h <;> try cases h
    split at h <;> try cases h
    · simp only [Bool.and_eq_true, decide_eq_true_eq, Bool.not_eq_true'] at h
      rename_i x f hc _ x' y z hc'
      obtain ⟨p, pos, rfl, hn⟩ := callN_inv hc
      obtain ⟨p', pos', rfl, hn'⟩ := callN_inv hc'
      obtain ⟨⟨⟨⟨⟨⟨hq, h1⟩, h2⟩, h3⟩, h4⟩, h5⟩, h6⟩ := h
      subst h1
      subst h3
      refine both (t := .lrg a b) (s_lrg hq hy (glB_inv hs h2) (glB_inv hs h4) (ok_t hav a hy hs h5).1 (ok_t hav b hy hs h6).1 (lk_form h5).1 (lk_form h6).1) rfl
    · simp only [Bool.and_eq_true, decide_eq_true_eq, Bool.not_eq_true'] at h
      rename_i x f hc _ x' z hc'
      obtain ⟨p, pos, rfl, hn⟩ := callN_inv hc
      obtain ⟨p', pos', rfl, hn'⟩ := callN_inv hc'
      obtain ⟨⟨⟨⟨⟨⟨h0, hq⟩, h1⟩, h2⟩, h3⟩, h4⟩, h6⟩ := h
      subst h1
      subst h3
      split at h0 <;> try cases h0
      refine both (t := .lrg (.lit (.int 0)) b) (s_lrg1 hq hy (glB_inv hs h2) (glB_inv hs h4) (ok_t hav b hy hs h6).1 (lk_form h6).1) rfl
  | .dd0, X, W, sc, e, hy, hs, h => by
    unfold lk at h
    split at h <;> try cases h
    exact both (t := .dd0) s_dd0 rfl
  | .dd2 n a b, X, W, sc, e, hy, hs, h => by
    unfold lk at h
    split at h <;> try cases h
    rw [Bool.and_eq_true] at h
    exact both (t := .dd2 n a b) (s_dd2 hy (ok_t hav a hy hs h.1).1 (ok_t hav b hy hs h.2).1) rfl
  | .dd1 i b, X, W, sc, e, hy, hs, h => by
    unfold lk at h
    split at h <;> try cases h
    simp only [Bool.and_eq_true, decide_eq_true_eq, Bool.not_eq_true'] at h
    obtain ⟨⟨⟨h1, h2⟩, h3⟩, rfl⟩ := h
    obtain ⟨k1, k2⟩ := okNm_inv h3
    subst hs
    refine both (t := .dd1 i b) (s_dd1 (by rw [hy.hN]; exact h1) (visB_inv h2) k1 k2) rfl
  | .lset a, X, W, sc, e, hy, hs, h => by
    unfold lk at h
    split at h <;> try cases h
    split at h <;> try cases h
    simp only [Bool.and_eq_true, decide_eq_true_eq, Bool.not_eq_true'] at h
    rename_i x f hc _ x' y hc'
    obtain ⟨p, pos, rfl, hn⟩ := callN_inv hc
    obtain ⟨p', pos', rfl, hn'⟩ := callN_inv hc'
    obtain ⟨⟨⟨⟨⟨hq, h1⟩, h2⟩, h3⟩, h4⟩, h5⟩ := h
    subst h1
    subst h3
    refine both (t := .lset a) (s_lset hq hy (glB_inv hs h2) (glB_inv hs h4) (ok_t hav a hy hs h5).1 (lk_form h5).1) rfl
  | .jrv a b, X, W, sc, e, hy, hs, h => by
    unfold lk at h
    split at h <;> try cases h
    split at h <;> try cases h
    simp only [Bool.and_eq_true, decide_eq_true_eq, Bool.not_eq_true'] at h
    rename_i o x f hc _ x' y hc'
    obtain ⟨p, pos, rfl, hl⟩ := callM_inv hc
    obtain ⟨p', pos', rfl, hn'⟩ := callN_inv hc'
    obtain ⟨⟨⟨⟨⟨⟨hq, h1⟩, h2⟩, h3⟩, h4⟩, h5⟩, h6⟩ := h
    subst h1
    subst h4
    refine both (t := .jrv a b) (s_jrv hq hy (glB_inv hs h5) h2 hl (ok_t hav a hy hs h3).1 (ok_t hav b hy hs h6).1 (lk_form h6).1) rfl
  | .sm m a as, X, W, sc, e, hy, hs, h => by
    unfold lk at h
    split at h <;> try cases h
    simp only [Bool.and_eq_true, decide_eq_true_eq, Bool.not_eq_true'] at h
    rename_i o x es hc
    obtain ⟨p, pos, rfl, hl⟩ := callM_inv hc
    obtain ⟨⟨⟨⟨⟨h1, h2⟩, h3⟩, h4⟩, h5⟩, h6⟩ := h
    subst h1
    cases es with
    | nil => cases h4
    | cons e es =>
    have st := lks_star h6
    rw [List.all_cons, Bool.and_eq_true] at st
    cases m with
    | join => exact both (t := .sm .join a as) (s_join hy h2 hl h3 (ok_t hav a hy hs h5).1 (ok_a hav as hy hs h6) (by simpa using st.1) st.2) rfl
    | scount => exact both (t := .sm .scount a as) (s_scount hy h2 hl h3 (ok_t hav a hy hs h5).1 (ok_a hav as hy hs h6) (by simpa using st.1) st.2) rfl
    | split => exact both (t := .sm .split a as) (s_split hy h2 hl h3 (ok_t hav a hy hs h5).1 (ok_a hav as hy hs h6) (by simpa using st.1) st.2) rfl
    | lcount => exact both (t := .sm .lcount a as) (s_lcount hy h2 hl h3 (ok_t hav a hy hs h5).1 (ok_a hav as hy hs h6) (by simpa using st.1) st.2) rfl
    | lcnb => exact both (t := .sm .lcnb a as) (s_lcnb hy h2 hl h3 (ok_t hav a hy hs h5).1 (ok_a hav as hy hs h6) (by simpa using st.1) st.2) rfl
    | sidx => exact both (t := .sm .sidx a as) (s_sidx hy h2 hl h3 (ok_t hav a hy hs h5).1 (ok_a hav as hy hs h6) (by simpa using st.1) st.2) rfl
  | .lc tg it cd elt, X, W, sc, e, hy, hs, h => by
    unfold lk at h
    split at h <;> try cases h
    simp only [Bool.and_eq_true, decide_eq_true_eq, Bool.not_eq_true'] at h
    rename_i e x t i ifs scope pos
    obtain ⟨⟨⟨⟨⟨⟨⟨hq, h1⟩, h2⟩, h3⟩, h4⟩, h5⟩, h6⟩, h7⟩ := h
    have hb : ∀ (s : Shared) (H : Hp) (C : Addr) (cl : List (Str × Addr)) (fp : List Addr), Sc (X.blk s H scope (compEnvC scope cl C X.env) fp) (relS scope sc) := fun s H C cl fp => by subst hs; rfl
    have vis : ∀ (s : Shared) (H : Hp) (C : Addr) (cl : List (Str × Addr)) (fp : List Addr) (x : Str), locB scope x = true → Loc (X.blk s H scope (compEnvC scope cl C X.env) fp).env.scope x ∧ ((X.blk s H scope (compEnvC scope cl C X.env) fp).fn x = true ∨ (X.blk s H scope (compEnvC scope cl C X.env) fp).env.scope.names.lookup x = some .local) := fun s H C cl fp x hx => by
      have e : (compEnvC scope cl C X.env).scope = relS scope sc := by subst hs; rfl
      rcases locB_inv hx with z | z
      · have z' := lookup_relS_keep (sc := sc) (by simp) z
        exact ⟨by show Loc (compEnvC scope cl C X.env).scope x; rw [e]; exact .inl z', .inr (by show (compEnvC scope cl C X.env).scope.names.lookup x = _; rw [e]; exact z')⟩
      · have z' := lookup_relS_keep (sc := sc) (by simp) z
        exact ⟨by show Loc (compEnvC scope cl C X.env).scope x; rw [e]; exact .inr z', .inl (by show (scope.names.lookup x == some .cell) = true; rw [z]; rfl)⟩
    cases hql : ql with
    | true =>
      exact both (t := .lc tg it cd elt) (s_lc hql hy (ok_i hav it hy hs h5) h4 (blkOk_by (by rw [hy.hN]; rw [hs]; exact h1)) h2 (fun s H C cl fp => pg_tg (X := X.blk s H scope (compEnvC scope cl C X.env) fp) hy.hN hy.nd (hy.calm hql) (vis s H C cl fp) h3) (fun s H C cl fp => ok_c hav cd hy.blk (hb s H C cl fp) h6) (fun s H C cl fp => (ok_t hav elt hy.blk (hb s H C cl fp) h7).1)) rfl
    | false =>
      rw [hql, Bool.false_or, Bool.and_eq_true] at hq
      obtain ⟨hl, hhi⟩ := hq
      cases tg with
      | tp is => cases hhi
      | nm j =>
        cases it with
        | r1 a =>
          unfold lkI at h5
          split at h5
          · rename_i x y hc
            simp only [Bool.and_eq_true, decide_eq_true_eq] at h5
            obtain ⟨p, pos, rfl, hn⟩ := callN_inv hc
            obtain ⟨⟨k1, k2⟩, k3⟩ := h5
            subst k1
            exact both (t := .lc (.nm j) (.r1 a) cd elt) (s_lcHot hql hl hy (glB_inv hs k2) (ok_t hav a hy hs k3).1 (lk_form k3).1 (blkOk_by (by rw [hy.hN]; rw [hs]; exact h1)) h2 (fun s H C cl fp => pg_nmH (X := X.blk s H scope (compEnvC scope cl C X.env) fp) hy.hN hy.nd (vis s H C cl fp) h3) (fun s H C cl fp => ok_c hav cd hy.blk (hb s H C cl fp) h6) (fun s H C cl fp => (ok_t hav elt hy.blk (hb s H C cl fp) h7).1)) rfl
          · cases h5
        | _ => cases hhi
theorem ok_a (hav : Avs S avf avc avi) : ∀ (t : Ts) {X : Cx} {W : WX} {sc : Scope} {e : List Expr}, Hy g S xc G avc avg N kk ql X W → Sc X sc → lks g avf avc avg avi N ql sc t e = true → PA X e (RDA S xc G W t)
  | .nil, X, W, sc, e, hy, hs, h => by
    unfold lks at h
    split at h
    · exact s_nil
    · cases h
  | .cons a r, X, W, sc, e, hy, hs, h => by
    unfold lks at h
    split at h
    · rw [Bool.and_eq_true] at h
      exact s_cons (lk_form h.1).1 (ok_t hav a hy hs h.1).1 (ok_a hav r hy hs h.2)
    · cases h
theorem ok_k (hav : Avs S avf avc avi) : ∀ (t : Ts) {X : Cx} {W : WX} {sc : Scope} {e : List Keyword}, Hy g S xc G avc avg N kk ql X W → Sc X sc → lkk g avf avc avg avi N ql sc t e = true → PK X e (RDA S xc G W t)
  | .nil, X, W, sc, e, hy, hs, h => by
    unfold lkk at h
    split at h
    · exact s_knil
    · cases h
  | .cons a r, X, W, sc, e, hy, hs, h => by
    unfold lkk at h
    split at h
    · rw [Bool.and_eq_true] at h
      exact s_kcons (ok_t hav a hy hs h.1).1 (ok_k hav r hy hs h.2)
    · cases h
theorem ok_o (hav : Avs S avf avc avi) : ∀ (t : TO) {X : Cx} {W : WX} {sc : Scope} {e : Option Expr}, Hy g S xc G avc avg N kk ql X W → Sc X sc → lkO g avf avc avg avi N ql sc t e = true → PO X e (RDO S xc G W t)
  | .none, X, W, sc, e, hy, hs, h => by
    unfold lkO at h
    split at h
    · exact s_noO
    · cases h
  | .some a, X, W, sc, e, hy, hs, h => by
    unfold lkO at h
    split at h
    · exact s_someO (ok_t hav a hy hs h).1
    · cases h
theorem ok_c (hav : Avs S avf avc avi) : ∀ (t : TO) {X : Cx} {W : WX} {sc : Scope} {e : List Expr}, Hy g S xc G avc avg N kk ql X W → Sc X sc → lkC g avf avc avg avi N ql sc t e = true → PTs X e (RDC S xc G W t)
  | .none, X, W, sc, e, hy, hs, h => by
    unfold lkC at h
    split at h
    · refine ⟨fun pins s σ H Q I ⟨Y, φ, μ, ε, m, p⟩ => pts_nil.run pins s σ H Q I ?_⟩
      obtain ⟨b, hb, q⟩ := p
      cases hb
      exact q _ _ Ex.refl m.ms
    · cases h
  | .some a, X, W, sc, e, hy, hs, h => by
    unfold lkC at h
    split at h
    · rw [Bool.and_eq_true] at h
      exact pts_one ((ok_t hav a hy hs h.2).2 h.1)
    · cases h
theorem ok_i (hav : Avs S avf avc avi) : ∀ (t : It) {X : Cx} {W : WX} {sc : Scope} {e tgE : Expr}, Hy g S xc G avc avg N kk ql X W → Sc X sc → lkI g avf avc avg avi N ql sc t tgE e = true → PI X tgE e (RDI S xc G W t)
  | .seq a, X, W, sc, e, tgE, hy, hs, h => by
    unfold lkI at h
    exact s_seq hy.hK hy.hhs (ok_t hav a hy hs h).1
  | .r1 a, X, W, sc, e, tgE, hy, hs, h => by
    unfold lkI at h
    split at h
    · rename_i x y hc
      simp only [Bool.and_eq_true, decide_eq_true_eq] at h
      obtain ⟨p, pos, rfl, hn⟩ := callN_inv hc
      obtain ⟨⟨h1, h2⟩, h3⟩ := h
      subst h1
      exact s_r1 hy (glB_inv hs h2) (ok_t hav a hy hs h3).1 (lk_form h3).1
    · cases h
  | .r2 a b, X, W, sc, e, tgE, hy, hs, h => by
    unfold lkI at h
    split at h
    · rename_i x y z hc
      simp only [Bool.and_eq_true, decide_eq_true_eq] at h
      obtain ⟨p, pos, rfl, hn⟩ := callN_inv hc
      obtain ⟨⟨⟨h1, h2⟩, h3⟩, h4⟩ := h
      subst h1
      exact s_r2 hy (glB_inv hs h2) (ok_t hav a hy hs h3).1 (ok_t hav b hy hs h4).1 (lk_form h3).1 (lk_form h4).1
    · cases h
  | .enm a, X, W, sc, e, tgE, hy, hs, h => by
    unfold lkI at h
    split at h
    · rename_i x y hc
      simp only [Bool.and_eq_true, decide_eq_true_eq] at h
      obtain ⟨p, pos, rfl, hn⟩ := callN_inv hc
      obtain ⟨⟨⟨h0, h1⟩, h2⟩, h3⟩ := h
      subst h1
      cases tgE
      case Tuple => exact s_enm hy (glB_inv hs h2) (ok_t hav a hy hs h3).1 (lk_form h3).1
      all_goals cases h0
    · cases h
  | .zp a b, X, W, sc, e, tgE, hy, hs, h => by
    unfold lkI at h
    split at h
    · rename_i x y z hc
      simp only [Bool.and_eq_true, decide_eq_true_eq] at h
      obtain ⟨p, pos, rfl, hn⟩ := callN_inv hc
      obtain ⟨⟨⟨⟨h0, h1⟩, h2⟩, h3⟩, h4⟩ := h
      subst h1
      cases tgE
      case Tuple => exact s_zp hy (glB_inv hs h2) (ok_t hav a hy hs h3).1 (ok_t hav b hy hs h4).1 (lk_form h3).1 (lk_form h4).1
      all_goals cases h0
    · cases h
end
end
end DM
set_option Elab.async false
set_option linter.all false
set_option maxRecDepth 100000
set_option maxHeartbeats 4000000
namespace DM
open PySem L2 PySem.Spec PyProof.Rows
mutual
inductive S
  | pass | no | brk | cnt | retN
  | dem (is : List Nat)
  | asg (tg : Tg) (t : T)
  | par (is : List Nat) (ts : Ts)
  | app (o t : T) | ext (o t : T) | clr (o : T) | rev (o : T) | dlp (o : T)
  | put (o k t : T)
  | dpu (o k t : T)
  | fld (o : T) (f : Nat) (t : T)
  | inc (i : Nat) (t : T)
  | exp (t : T)
  | ret (t : T)
  | rs0 (c : Nat)
  | rse (c : Nat) (as : Ts)
  | ite (c : T) (a b : B)
  | whl (c : T) (a : B)
  | for_ (tg : Tg) (it : It) (a : B)
  | tr (b : B) (h : Hl) (e : B)
inductive B | nil | cons (s : S) (r : B)
inductive Hl | nil | cons (c : Nat) (nm : Option Nat) (a : B) (r : Hl)
end
/-- how a statement ends -/
inductive O
  | nx (ε : Ev) (μ : Mem) | bk (ε : Ev) (μ : Mem) | ct (ε : Ev) (μ : Mem)
  | rt (d : D) (μ : Mem)
  | ex (x : Exn) (ε : Ev) (μ : Mem)
  | bad
def unbE (nm : Option Nat) (ε : Ev) : Ev := match nm with | some i => ε.set i none | none => ε
def bindX (nm : Option Nat) (x : Exn) (ε : Ev) : Ev := match nm with | some i => ε.set i (some (.exc x.c x.fs)) | none => ε
/-- behind an except suite its name goes; nothing is raised in it -/
def O.shut (nm : Option Nat) : O → O
  | .nx ε μ => .nx (unbE nm ε) μ
  | .bk ε μ => .bk (unbE nm ε) μ
  | .ct ε μ => .ct (unbE nm ε) μ
  | .rt d μ => .rt d μ
  | _ => .bad
def O.seq (o : O) (k : Ev → Mem → O) : O := match o with | .nx ε μ => k ε μ | o => o
def R.thenO {α : Type} (r : R α) (ε : Ev) (k : α → O) : O := match r with | .ok a => k a | .ex x μ => .ex x ε μ | .bad => .bad
def goF (tg : Tg) (body : Ev → Mem → O) : List D → Ev → Mem → O
  | [], ε, μ => .nx ε μ
  | d :: r, ε, μ => match binds tg μ d ε with
    | none => .bad
    | some ε1 => match body ε1 μ with
      | .nx ε2 μ2 => goF tg body r ε2 μ2
      | .ct ε2 μ2 => goF tg body r ε2 μ2
      | .bk ε2 μ2 => .nx ε2 μ2
      | o => o
def goFL (tg : Tg) (body : Ev → Mem → O) (n : Nat) : Nat → Nat → Ev → Mem → O
  | 0, _, _, _ => .bad
  | f + 1, i, ε, μ => match livAt μ n i with
    | none => .bad
    | some none => .nx ε μ
    | some (some d) => match binds tg μ d ε with
      | none => .bad
      | some ε1 => match body ε1 μ with
        | .nx ε2 μ2 => goFL tg body n f (i + 1) ε2 μ2
        | .ct ε2 μ2 => goFL tg body n f (i + 1) ε2 μ2
        | .bk ε2 μ2 => .nx ε2 μ2
        | o => o
def goFI (tg : Tg) (body : Ev → Mem → O) (w : Iv) (ε : Ev) (μ : Mem) : O := match w with
  | .its ds => goF tg body ds ε μ
  | .liv n => goFL tg body n fuelW 0 ε μ
def goW (cd : Ev → Mem → Rd0) (body : Ev → Mem → O) : Nat → Ev → Mem → O
  | 0, _, _ => .bad
  | n + 1, ε, μ => (cd ε μ).thenO ε fun p => match p.1 with
    | .bl true => (match body ε p.2 with
      | .nx ε2 μ2 => goW cd body n ε2 μ2
      | .ct ε2 μ2 => goW cd body n ε2 μ2
      | .bk ε2 μ2 => .nx ε2 μ2
      | o => o)
    | .bl false => .nx ε p.2
    | _ => .bad
/-- cells at slots are given up -/
def dem1 (i : Nat) (s : Ev × Mem) : Ev × Mem := match s.1[i]? with
  | some (some (.cel n)) => (match s.2[n]? with | some (some d) => (s.1.set i (some d), s.2.set n none) | _ => s)
  | _ => s
def demE : List Nat → Ev × Mem → Ev × Mem
  | [], s => s
  | i :: is, s => demE is (dem1 i s)
def setAll : List Nat → List D → Ev → Ev
  | i :: is, p :: ps, ε => setAll is ps (ε.set i (some p))
  | _, _, ε => ε
/-- the list in a cell -/
def celL (μ : Mem) (d : D) : Option (Nat × List D) := match d with | .cel n => (match μ[n]? with | some (some (.lst ds)) => some (n, ds) | _ => none) | _ => none
/-- the dict in a cell -/
def celDc (μ : Mem) (d : D) : Option (Nat × List D × List D) := match d with | .cel n => (match μ[n]? with | some (some (.dct ks vs)) => some (n, ks, vs) | _ => none) | _ => none
/-- an instance's field stored: its fields come in their order -/
def fldE (ns : List Nat) (f : Nat) (d : D) (fs : List D) : Option (List D) := match ns.idxOf? f with
  | some j => if j < fs.length then some (fs.set j d) else if j = fs.length then some (fs ++ [d]) else none
  | none => none
section
variable (S0 : Mn)
mutual
def run : S → Ev → Mem → O
  | .pass, ε, μ => .nx ε μ
  | .no, ε, μ => .bad
  | .brk, ε, μ => .bk ε μ
  | .cnt, ε, μ => .ct ε μ
  | .retN, _, μ => .rt .non μ
  | .dem is, ε, μ => .nx (demE is (ε, μ)).1 (demE is (ε, μ)).2
  | .asg tg t, ε, μ => (ev S0 t ε μ).thenO ε fun p => match binds tg p.2 p.1 ε with | some ε1 => .nx ε1 p.2 | none => .bad
  | .par is ts, ε, μ => (evs S0 ts ε μ).thenO ε fun ps => if decide (ps.1.length = is.length) then .nx (setAll is ps.1 ε) ps.2 else .bad
  | .app o t, ε, μ => (ev S0 o ε μ).thenO ε fun x => match celL x.2 x.1 with
    | none => .bad
    | some _ => (ev S0 t ε x.2).thenO ε fun y => match celL y.2 x.1 with
      | some (n, ds) => if ds.length < 16777216 then .nx ε (y.2.set n (some (.lst (ds ++ [y.1])))) else .bad
      | none => .bad
  | .ext o t, ε, μ => (ev S0 o ε μ).thenO ε fun x => match celL x.2 x.1 with
    | none => .bad
    | some _ => (ev S0 t ε x.2).thenO ε fun y => match celL y.2 x.1, top y.2 y.1 with
      | some (n, ds), .lst es => if ds.length + es.length ≤ 16777216 then .nx ε (y.2.set n (some (.lst (ds ++ es)))) else .bad
      | _, _ => .bad
  | .clr o, ε, μ => (ev S0 o ε μ).thenO ε fun x => match celL x.2 x.1 with | some (n, _) => .nx ε (x.2.set n (some (.lst []))) | none => .bad
  | .dlp o, ε, μ => (ev S0 o ε μ).thenO ε fun x => match celL x.2 x.1 with | some (n, ds) => if ds ≠ [] then .nx ε (x.2.set n (some (.lst ds.dropLast))) else .bad | none => .bad
  | .rev o, ε, μ => (ev S0 o ε μ).thenO ε fun x => match celL x.2 x.1 with | some (n, ds) => .nx ε (x.2.set n (some (.lst ds.reverse))) | none => .bad
  | .put o k t, ε, μ => (ev S0 t ε μ).thenO ε fun p => (ev S0 o ε p.2).thenO ε fun x => (ev S0 k ε x.2).thenO ε fun q => match celL q.2 x.1, q.1 with
    | some (n, ds), .int j => (match ixN ds.length j with | some i => .nx ε (q.2.set n (some (.lst (ds.set i p.1)))) | none => .bad)
    | _, _ => .bad
  | .dpu o k t, ε, μ => (ev S0 t ε μ).thenO ε fun p => (ev S0 o ε p.2).thenO ε fun x => (ev S0 k ε x.2).thenO ε fun q => match celDc q.2 x.1 with
    | some (n, ks, vs) => if dOk q.1 ks && decide (ks.length < 16777216) then .nx ε (q.2.set n (some (.dct (dPut q.1 p.1 ks vs).1 (dPut q.1 p.1 ks vs).2))) else .bad
    | none => .bad
  | .fld o f t, ε, μ => (ev S0 t ε μ).thenO ε fun p => (ev S0 o ε p.2).thenO ε fun x => match x.1 with
    | .cel n => (match x.2[n]? with
      | some (some (.ins c fs)) => (match fldE (S0.fl c) f p.1 fs with | some gs => .nx ε (x.2.set n (some (.ins c gs))) | none => .bad)
      | _ => .bad)
    | _ => .bad
  | .inc i t, ε, μ => match ε[i]? with
    | some (some (.int a)) => (ev S0 t ε μ).thenO ε fun p => match p.1 with | .int b => .nx (ε.set i (some (.int (a + b)))) p.2 | _ => .bad
    | _ => .bad
  | .exp t, ε, μ => (ev S0 t ε μ).thenO ε fun p => .nx ε p.2
  | .ret t, ε, μ => (ev S0 t ε μ).thenO ε fun p => .rt p.1 p.2
  | .rs0 c, ε, μ => match S0.xar c with | some 0 => .ex ⟨c, []⟩ ε μ | _ => .bad
  | .rse c as, ε, μ => match S0.xar c with
    | some (n + 1) => (evs S0 as ε μ).thenO ε fun xs => if decide (xs.1.length = n + 1) && decide (n < 900) then .ex ⟨c, xs.1.reverse⟩ ε xs.2 else .bad
    | _ => .bad
  | .ite c a b, ε, μ => (ev S0 c ε μ).thenO ε fun p => match p.1 with | .bl true => runB a ε p.2 | .bl false => runB b ε p.2 | _ => .bad
  | .whl c a, ε, μ => goW (ev S0 c) (runB a) fuelW ε μ
  | .for_ tg it a, ε, μ => (evi S0 it ε μ).thenO ε fun p => goFI tg (runB a) p.1 ε p.2
  | .tr b h e, ε, μ => match runB b ε μ with
    | .nx ε1 μ1 => runB e ε1 μ1
    | .ex x ε1 μ1 => runH h x ε1 μ1
    | o => o
def runB : B → Ev → Mem → O
  | .nil, ε, μ => .nx ε μ
  | .cons s r, ε, μ => (run s ε μ).seq (runB r)
def runH : Hl → Exn → Ev → Mem → O
  | .nil, x, ε, μ => .ex x ε μ
  | .cons c nm a r, x, ε, μ => match S0.isk (some x.c) c with
    | some true => (runB a (bindX nm x ε) μ).shut nm
    | some false => runH r x ε μ
    | none => .bad
end
end
def PR (xc : Xc) (G : Gc) (W : WX) (D : Ends) (φ : List Addr) (μ : Mem) (H : Hp) (o : O) : Prop :=
  match o with
  | .nx ε μ' => ∀ σ H' φ', Ex φ μ H φ' μ' H' → Mt G φ' μ' H' σ ε → D.nx σ H'
  | .bk ε μ' => ∀ σ H' φ', Ex φ μ H φ' μ' H' → Mt G φ' μ' H' σ ε → D.bk σ H'
  | .ct ε μ' => ∀ σ H' φ', Ex φ μ H φ' μ' H' → Mt G φ' μ' H' σ ε → D.ct σ H'
  | .rt d μ' => ∀ v H' φ', Ex φ μ H φ' μ' H' → Ms G φ' μ' H' → G.rp φ' μ' H' v d → D.rt v H'
  | .ex x ε μ' => ∀ cls dd σ H' φ', Ex φ μ H φ' μ' H' → Mt G φ' μ' H' σ ε → XR xc G φ' μ' H' cls dd x → W cls dd σ H'
  | .bad => False
/-- .. while an exception is handled -/
def Gc.ht (G : Gc) (a : Addr) : Gc := { G with hot := some a }
section
variable {xc : Xc} {G : Gc} {W : WX} {D : Ends} {φ : List Addr} {μ : Mem} {H : Hp} {o : O} {σ : L2.St} {ε : Ev} {a : Addr}
theorem Ms.ht (m : Ms G φ μ H) : Ms (G.ht a) φ μ H := ⟨m.len, m.live, m.inj, m.xs, m.nx⟩
theorem Ms.unht (m : Ms (G.ht a) φ μ H) : Ms G φ μ H := ⟨m.len, m.live, m.inj, m.xs, m.nx⟩
theorem Mt.ht (m : Mt G φ μ H σ ε) (h : HotT H a) (nl : ¬ Lv φ μ a) : Mt (G.ht a) φ μ H σ ε := ⟨m.ms.ht, m.at_, m.len, fun b e => by cases e; exact ⟨h, nl⟩⟩
theorem Mt.unht (hc : G.hot = none) (m : Mt (G.ht a) φ μ H σ ε) : Mt G φ μ H σ ε := ⟨m.ms.unht, m.at_, m.len, fun b e => by rw [hc] at e; cases e⟩
theorem PR.ht (hc : G.hot = none) (p : PR xc G W D φ μ H o) : PR xc (G.ht a) W D φ μ H o := by
  cases o with
  | nx ε μ' => exact fun σ H' φ' e m => p σ H' φ' e (m.unht hc)
  | bk ε μ' => exact fun σ H' φ' e m => p σ H' φ' e (m.unht hc)
  | ct ε μ' => exact fun σ H' φ' e m => p σ H' φ' e (m.unht hc)
  | rt d μ' => exact fun v H' φ' e m r => p v H' φ' e m.unht r
  | ex x ε μ' => exact fun cls dd σ H' φ' e m r => p cls dd σ H' φ' e (m.unht hc) r
  | bad => exact p
end
def RS (S0 : Mn) (xc : Xc) (G : Gc) (W : WX) (s : S) : TS := fun D σ H => ∃ X φ μ ε, Mt (G.wx X) φ μ H σ ε ∧ PR xc (G.wx X) W D φ μ H (run S0 s ε μ)
def RSB (S0 : Mn) (xc : Xc) (G : Gc) (W : WX) (s : B) : TS := fun D σ H => ∃ X φ μ ε, Mt (G.wx X) φ μ H σ ε ∧ PR xc (G.wx X) W D φ μ H (runB S0 s ε μ)
section
variable {xc : Xc} {G : Gc} {W : WX} {D D' : Ends} {φ φ' : List Addr} {μ μ' : Mem} {H H' : Hp} {o : O} {σ : L2.St} {ε : Ev}
theorem PR.exx (e : Ex φ μ H φ' μ' H') (p : PR xc G W D φ μ H o) : PR xc G W D φ' μ' H' o := by
  cases o with
  | nx ε => exact fun σ H2 φ2 e2 m => p σ H2 φ2 (e.trans e2) m
  | bk ε => exact fun σ H2 φ2 e2 m => p σ H2 φ2 (e.trans e2) m
  | ct ε => exact fun σ H2 φ2 e2 m => p σ H2 φ2 (e.trans e2) m
  | rt d => exact fun σ H2 φ2 e2 m => p σ H2 φ2 (e.trans e2) m
  | ex x ε => exact fun cls dd σ H2 φ2 e2 m => p cls dd σ H2 φ2 (e.trans e2) m
  | bad => exact p
theorem PR.imp (p : PR xc G W D φ μ H o) (hn : ∀ ε μ', o = .nx ε μ' → PR xc G W D' φ μ H o) (hb : ∀ σ H, D.bk σ H → D'.bk σ H) (hc : ∀ σ H, D.ct σ H → D'.ct σ H) (hr : ∀ v H, D.rt v H → D'.rt v H) : PR xc G W D' φ μ H o := by
  cases o with
  | nx ε μ' => exact hn ε μ' rfl
  | bk ε => exact fun σ H2 φ2 e2 m => hb _ _ (p σ H2 φ2 e2 m)
  | ct ε => exact fun σ H2 φ2 e2 m => hc _ _ (p σ H2 φ2 e2 m)
  | rt d => exact fun v H2 φ2 e2 m r => hr _ _ (p v H2 φ2 e2 m r)
  | ex x ε => exact p
  | bad => exact p
theorem PR.px {α : Type} {r : DM.R α} {k : α → O} (m : Mt G φ μ H σ ε) (p : PR xc G W D φ μ H (r.thenO ε k)) : PX xc G W σ φ μ H r (fun a => PR xc G W D φ μ H (k a)) := by
  cases r with
  | ok a => exact p
  | ex x μ' => exact fun cls dd H' φ' e ms h => p cls dd σ H' φ' e (m.ex e ms) h
  | bad => exact p
theorem celL_inv {d : DM.D} {n : Nat} {ds : List DM.D} (h : celL μ d = some (n, ds)) : d = .cel n ∧ μ[n]? = some (some (.lst ds)) := by
  unfold celL at h
  split at h
  · split at h
    · cases h; exact ⟨rfl, by assumption⟩
    · cases h
  · cases h
/-- a cell's list, in the heap -/
theorem celL_at {v : V} {d : DM.D} {n : Nat} {ds : List DM.D} (m : Ms G φ μ H) (r : G.rp φ μ H v d) (h : celL μ d = some (n, ds)) : ∃ a vs, v = .ref a ∧ φ[n]? = some a ∧ μ[n]? = some (some (.lst ds)) ∧ H a = some (.lst vs) ∧ G.rps φ μ H vs ds := by
  obtain ⟨rfl, hm⟩ := celL_inv h
  cases r with
  | cel ha =>
    obtain ⟨vs, h1, r⟩ := m.live _ _ _ hm ha
    exact ⟨_, vs, rfl, ha, hm, h1, r⟩
theorem put_nx {a : Addr} {n : Nat} {ds es : List DM.D} {ws : List V} (m : Mt G φ μ H σ ε) (ha : φ[n]? = some a) (hm : μ[n]? = some (some (.lst ds))) (r : G.rps φ μ H ws es) (p : PR xc G W D φ μ H (.nx ε (μ.set n (some (.lst es))))) : D.nx σ (upd H a (.lst ws)) := by
  obtain ⟨m2, e2⟩ := m.ms.put (e := .lst es) (o := .lst ws) hm ha (fun z => z) fun H' h1 h2 => ⟨ws, h1, Rps.fm Px.refl (fun b u q1 q2 => h2 b u (fun z => m.ms.nlv q1 q2 (z ▸ ⟨n, _, hm, ha⟩)) q1) (fun _ _ _ z => z) _ _ r⟩
  exact p σ _ φ e2 (m.ex e2 m2)
theorem put_nxD {a : Addr} {n : Nat} {d e : DM.D} {o : HO} (m : Mt G φ μ H σ ε) (ha : φ[n]? = some a) (hm : μ[n]? = some (some d)) (nm : ¬ NoMut o) (c : ∀ H', H' a = some o → (∀ vs es, G.rps φ μ H vs es → G.rps φ μ H' vs es) → Cn G.cl G.K φ H' (G.N φ μ) a e) (p : PR xc G W D φ μ H (.nx ε (μ.set n (some e)))) : D.nx σ (upd H a o) := by
  obtain ⟨m2, e2⟩ := m.ms.put (e := e) (o := o) hm ha nm fun H' h1 h2 => c H' h1 fun vs es r => Rps.fm Px.refl (fun b u q1 q2 => h2 b u (fun z => m.ms.nlv q1 q2 (z ▸ ⟨n, _, hm, ha⟩)) q1) (fun _ _ _ z => z) _ _ r
  exact p σ _ φ e2 (m.ex e2 m2)
theorem celDc_inv {d : DM.D} {n : Nat} {ks vs : List DM.D} (h : celDc μ d = some (n, ks, vs)) : d = .cel n ∧ μ[n]? = some (some (.dct ks vs)) := by
  unfold celDc at h
  split at h
  · split at h
    · cases h; exact ⟨rfl, by assumption⟩
    · cases h
  · cases h
theorem set_get {α : Type} {l : List α} {i : Nat} {x : α} (h : l[i]? = some x) : l.set i x = l := by
  refine List.ext_getElem? fun j => ?_
  by_cases e : i = j
  · subst e
    rw [List.getElem?_set_self (List.getElem?_eq_some_iff.mp h).1, h]
  · rw [List.getElem?_set_ne e]
theorem Mt.dem1 (m : Mt G φ μ H σ ε) (i : Nat) : Ex φ μ H φ (dem1 i (ε, μ)).2 H ∧ Mt G φ (dem1 i (ε, μ)).2 H σ (dem1 i (ε, μ)).1 := by
  unfold DM.dem1
  simp only
  split
  · rename_i n hi
    split
    · rename_i d hd
      obtain ⟨v, hv, r⟩ := m.at_ i _ hi
      cases r with
      | cel ha =>
        obtain ⟨m2, r2, e2⟩ := m.ms.fz hd ha
        have m3 := m.ex e2 m2
        have := m3.set (i := i) r2
        rw [set_get hv] at this
        exact ⟨e2, this⟩
    · exact ⟨Ex.refl, m⟩
  · exact ⟨Ex.refl, m⟩
theorem Mt.dem : ∀ (is : List Nat) {ε : Ev} {μ : Mem}, Mt G φ μ H σ ε → Ex φ μ H φ (demE is (ε, μ)).2 H ∧ Mt G φ (demE is (ε, μ)).2 H σ (demE is (ε, μ)).1
  | [], ε, μ, m => ⟨Ex.refl, m⟩
  | i :: is, ε, μ, m => by
    obtain ⟨e1, m1⟩ := m.dem1 i
    obtain ⟨e2, m2⟩ := Mt.dem is (ε := (DM.dem1 i (ε, μ)).1) (μ := (DM.dem1 i (ε, μ)).2) m1
    exact ⟨e1.trans e2, m2⟩
end
end DM
set_option Elab.async false
set_option linter.all false
set_option maxRecDepth 100000
set_option maxHeartbeats 4000000
namespace DM
open PySem L2 PySem.Spec PyProof.Rows
section
variable {X : Cx}
def rExtendR (K : PySem.W.Frag) : V → List V → Hp → VK → Prop := fun x vs H Q => ∃ l b xs zs, x = .ref l ∧ vs = [.ref b] ∧ H l = some (.lst xs) ∧ SL K H b zs ∧ xs.length + zs.length ≤ sizeLine ∧ Q .non (upd H l (.lst (xs ++ zs)))
theorem mt_extendR : MtM X "list.extend" (rExtendR X.K) := by
  intro pins s σ H x vs v us Q I rx rv h
  obtain ⟨l, b, xs, zs, rfl, rfl, hH, hB, hz, q⟩ := h
  cases rx
  obtain ⟨u, rfl, ru⟩ := rv.one
  cases ru
  obtain ⟨z, its, n, r, hl, e⟩ := I.lstM hH
  obtain ⟨z2, its2, n2, r2, hl2, e2⟩ := rd_lst I hB
  have hsz : its.toArray.size + its2.toArray.size ≤ sizeLine := by rw [List.size_toArray, List.size_toArray]; omega
  have hlong : ¬ (!its.toArray.isEmpty && Builtin.List.listTooLong (its.toArray.size + its2.toArray.size)) = true := by
    rw [notLongL hsz, Bool.and_false]
    exact Bool.false_ne_true
  refine call_meets F.slot_list_extend ⟨_, e, rfl⟩ F.entry_list_extend (F.args_list_extend_2 _ _)
    (AutoSeq1.list_extend_list_list_0 l its.toArray n b its2.toArray n2 hlong (by rw [List.size_toArray]; omega) (by omega)) ⟨e, e2, ?_⟩
  refine ⟨.non, _, I.lset (its' := its ++ its2) hH e (by simp) (r.append r2) ?_, rfl, q⟩
  rw [List.length_append]
  omega
theorem _root_.L2.PS.imp {st : Stmt} {t t' : TS} (h : PS X st t) (k : ∀ D σ H, t' D σ H → t D σ H) : PS X st t' := ⟨fun pins s σ H D I q => h.run pins s σ H D I (k _ _ _ q)⟩
theorem _root_.L2.PSs.imp {st : List Stmt} {t t' : TS} (h : PSs X st t) (k : ∀ D σ H, t' D σ H → t D σ H) : PSs X st t' := ⟨fun pins s σ H D I q => h.run pins s σ H D I (k _ _ _ q)⟩
end
/-- what is left of a loop's turns -/
def RstF (tg : Tg) (body : Ev → Mem → O) (w : Iv) (i : Nat) (ε : Ev) (μ : Mem) (n : Nat) (o : O) : Prop :=
  match w with
  | .its ds => n = ds.length - i ∧ i ≤ ds.length ∧ o = goF tg body (ds.drop i) ε μ
  | .liv k => o = goFL tg body k n i ε μ
theorem rstf_step {tg : Tg} {body : Ev → Mem → O} {w : Iv} {i : Nat} {ε : Ev} {μ : Mem} {n : Nat} {o : O} (h : RstF tg body w i ε μ n o) (hb : o ≠ .bad) : (itAt w μ i = some none ∧ o = .nx ε μ) ∨ ∃ d ε1 n', ∃ k : Ev → Mem → O, itAt w μ i = some (some d) ∧ binds tg μ d ε = some ε1 ∧ n' < n ∧
    (∀ ε2 μ2, RstF tg body w (i + 1) ε2 μ2 n' (k ε2 μ2)) ∧ o = (match body ε1 μ with | .nx ε2 μ2 => k ε2 μ2 | .ct ε2 μ2 => k ε2 μ2 | .bk ε2 μ2 => .nx ε2 μ2 | o => o) := by
  cases w with
  | its ds =>
    obtain ⟨h1, h2, h3⟩ := h
    by_cases hlt : i < ds.length
    · right
      obtain ⟨d, hd⟩ : ∃ d, ds[i]? = some d := ⟨ds[i], by simp [hlt]⟩
      have hdr : ds.drop i = d :: ds.drop (i + 1) := by
        rw [List.drop_eq_getElem_cons hlt]
        have : ds[i] = d := by
          have := List.getElem?_eq_getElem hlt
          rw [hd] at this; exact (Option.some.inj this).symm
        rw [this]
      rw [hdr, goF] at h3
      cases hbd : binds tg μ d ε with
      | none => rw [hbd] at h3; exact absurd h3 hb
      | some ε1 =>
        rw [hbd] at h3
        exact ⟨d, ε1, ds.length - (i + 1), goF tg body (ds.drop (i + 1)), by show some ds[i]? = _; rw [hd], hbd, by omega, fun _ _ => ⟨rfl, hlt, rfl⟩, h3⟩
    · left
      have hi : i = ds.length := by omega
      rw [hi, List.drop_length] at h3
      exact ⟨by show some ds[i]? = _; rw [List.getElem?_eq_none (by omega)], h3⟩
  | liv k =>
    have h : o = goFL tg body k n i ε μ := h
    cases n with
    | zero => exact absurd h hb
    | succ n =>
      rw [goFL] at h
      split at h
      · exact absurd h hb
      · rename_i e; exact .inl ⟨e, h⟩
      · rename_i d e
        right
        cases hbd : binds tg μ d ε with
        | none => rw [hbd] at h; exact absurd h hb
        | some ε1 =>
          rw [hbd] at h
          exact ⟨d, ε1, n, goFL tg body k n (i + 1), e, hbd, Nat.lt_succ_self n, fun _ _ => rfl, h⟩
section
variable {S0 : Mn} {xc : Xc} {G : Gc} {W : WX} {D : Ends} {H : Hp} {σ : L2.St}
theorem PR.shut {nm : Option Nat} {φ : List Addr} {μ : Mem} {o : O} (p : PR xc G W D φ μ H (o.shut nm)) : PR xc G (fun _ _ _ _ => False) (shutD nm D) φ μ H o := by
  have un : ∀ {φ μ H σ ε}, Mt G φ μ H σ ε → Mt G φ μ H (unbN nm σ) (unbE nm ε) := fun m => by
    cases nm with
    | none => exact m
    | some i => exact m.unset i none
  cases o with
  | nx ε μ' => exact fun σ H' φ' e m => p _ H' φ' e (un m)
  | bk ε μ' => exact fun σ H' φ' e m => p _ H' φ' e (un m)
  | ct ε μ' => exact fun σ H' φ' e m => p _ H' φ' e (un m)
  | rt d μ' => exact p
  | ex x ε μ' => exact p.elim
  | bad => exact p
/-- the clauses, as the try's rule wants them -/
inductive HlL (S0 : Mn) (xc : Xc) (G : Gc) (g : Sg) (X : Cx) : Hl → List (Value × Option Nat × (Addr → TS)) → Prop
  | nil : HlL S0 xc G g X .nil []
  | cons {c : Nat} {C : Addr} {nm : Option Nat} {a : B} {r : Hl} {l : List (Value × Option Nat × (Addr → TS))} (hc : X.mg (g.cnm c) = some (.ref C)) (h : HlL S0 xc G g X r l) : HlL S0 xc G g X (.cons c nm a r) ((.ref C, nm, fun A => RSB S0 xc (G.ht A) (fun _ _ _ _ => False) a) :: l)
section
variable {g : Sg} {avc avg : Nat → Bool} {N : List Str} {kk : Nat} {ql : Bool} {X : Cx}
theorem xr_rp {φ : List Addr} {μ : Mem} {cls : Value} {dd : Option Addr} {x : Exn} {a : Addr} {oe : Obj} (hx : G.cl.x = xc) (r : XR xc G φ μ H cls dd x) (hH : H a = some (isAt a oe)) (nN : ¬ G.N φ μ a) (z : Zc cls dd oe) (f : ∃ vs, oe.data = .fields vs) : G.rp φ μ H (.ref a) (.exc x.c x.fs) := by
  obtain ⟨C, ns, h1, rfl, h | ⟨n, d, vs, rfl, h2, h3, h4⟩⟩ := r
  · obtain ⟨rfl, rfl, h⟩ := h
    rw [h]
    exact .exc (vs := []) hH nN (by rw [hx]; exact h1) z f (.inl ⟨rfl, rfl⟩) rfl .nil
  · exact .exc hH nN (by rw [hx]; exact h1) z f (.inr ⟨n, d, rfl, h2⟩) h3 h4
theorem XR.same {φ : List Addr} {μ : Mem} {H' : Hp} {cls : Value} {dd : Option Addr} {x : Exn} (m : Ms G φ μ H) (e : Same H H') (r : XR xc G φ μ H cls dd x) : XR xc G φ μ H' cls dd x := by
  obtain ⟨C, ns, h1, h2, h | ⟨n, d, vs, k1, k2, k3, k4⟩⟩ := r
  · exact ⟨C, ns, h1, h2, .inl h⟩
  · exact ⟨C, ns, h1, h2, .inr ⟨n, d, vs, k1, e _ _ k2, k3, Rps.ex m (Ex.same e) k4⟩⟩
theorem hl_wish (hco : G.hot = none) (hy : Hy g S0 xc G avc avg N kk ql X W) {Y : Addr → Prop} {φ : List Addr} {μ : Mem} {ε : Ev} {cls : Value} {dd : Option Addr} {x : Exn} {h : Hl} {l : List (Value × Option Nat × (Addr → TS))} (hl : HlL S0 xc G g X h l) (m : Mt (G.wx Y) φ μ H σ ε) (r : XR xc (G.wx Y) φ μ H cls dd x)
    (p : PR xc (G.wx Y) W D φ μ H (runH S0 h x ε μ)) : wG X.K W D l cls dd σ H := by
  induction hl with
  | nil => exact p cls dd σ H φ Ex.refl m r
  | @cons c C nm a r' l' hc hl ih =>
    unfold runH at p
    obtain ⟨C', ns, k1, k2, k3⟩ := id r
    cases hb : S0.isk (some x.c) c with
    | none => rw [hb] at p; exact p.elim
    | some b =>
      rw [hb] at p
      obtain ⟨_, C2, q1, _, q3⟩ := hy.isx c x.c b C' ns hb k1
      rw [hc] at q1; cases q1
      refine ⟨b, by rw [k2]; exact q3, fun hb1 A oe na hz hf => ?_, fun hb0 => ?_⟩
      · subst hb1
        have p : PR xc (G.wx Y) W D φ μ H ((runB S0 a (bindX nm x ε) μ).shut nm) := p
        have sm : Same H (upd H A (isAt A oe)) := fun b o q => by rw [upd_ne (ne_of_none q na)]; exact q
        have e1 : Ex φ μ H φ μ (upd H A (isAt A oe)) := Ex.same sm
        have m1 := m.ex e1 (m.ms.same sm)
        have rp : (G.wx Y).rp φ μ (upd H A (isAt A oe)) (.ref A) (.exc x.c x.fs) := xr_rp (G := G.wx Y) hy.hxc (XR.same m.ms sm r) upd_same (m.ms.fresh na) hz.zc hf
        have nl : ¬ Lv φ μ A := fun z => m.ms.fresh na (.inl z)
        obtain ⟨vs, hv⟩ := hf
        have ht : HotT (upd H A (isAt A oe)) A := ⟨oe, vs, upd_same, hv, hz.2.2 vs hv⟩
        refine ⟨Y, φ, μ, bindX nm x ε, Mt.ht (G := G.wx Y) ?_ ht nl, PR.ht (G := G.wx Y) hco ((PR.shut p).exx e1)⟩
        cases nm with
        | none => exact m1
        | some i => exact m1.set rp
      · subst hb0
        exact ih p
theorem tr_imp (hco : G.hot = none) (hy : Hy g S0 xc G avc avg N kk ql X W) {b e : B} {h : Hl} {l : List (Value × Option Nat × (Addr → TS))} (hl : HlL S0 xc G g X h l) (q : RS S0 xc G W (.tr b h e) D σ H) : RSB S0 xc G (wG X.K W D l) b { D with nx := RSB S0 xc G W e D } σ H := by
  obtain ⟨Y, φ, μ, ε, m, p⟩ := q
  refine ⟨Y, φ, μ, ε, m, ?_⟩
  have p : PR xc (G.wx Y) W D φ μ H (match runB S0 b ε μ with | .nx ε1 μ1 => runB S0 e ε1 μ1 | .ex x ε1 μ1 => runH S0 h x ε1 μ1 | o => o) := p
  cases ho : runB S0 b ε μ with
  | nx ε1 μ1 => rw [ho] at p; exact fun σ' H' φ' ex m' => ⟨Y, φ', μ1, ε1, m', PR.exx ex p⟩
  | bk ε1 μ1 => rw [ho] at p; exact p
  | ct ε1 μ1 => rw [ho] at p; exact p
  | rt d μ1 => rw [ho] at p; exact p
  | ex x ε1 μ1 => rw [ho] at p; exact fun cls dd σ' H' φ' ex m' r => hl_wish hco hy hl m' r (PR.exx ex p)
  | bad => rw [ho] at p; exact p
end
theorem val_imp {Y : Addr → Prop} {φ : List Addr} {μ : Mem} {ε : Ev} {t : T} {k : DM.D × Mem → O} {R : V → Hp → Prop} (m : Mt (G.wx Y) φ μ H σ ε) (p : PR xc (G.wx Y) W D φ μ H ((ev S0 t ε μ).thenO ε k))
    (fin : ∀ d μ1 v φ1 H1, Ex φ μ H φ1 μ1 H1 → Mt (G.wx Y) φ1 μ1 H1 σ ε → (G.wx Y).rp φ1 μ1 H1 v d → PR xc (G.wx Y) W D φ1 μ1 H1 (k (d, μ1)) → R v H1) : RD S0 xc G W t σ H R :=
  ⟨Y, φ, μ, ε, m, px_mono (p.px m) fun q pq v H1 φ1 e m1 r _ => fin q.1 q.2 v φ1 H1 e (m.ex e m1) r (pq.exx e)⟩
/-- one argument -/
theorem arg_imp {Y : Addr → Prop} {φ : List Addr} {μ : Mem} {ε : Ev} {t : T} {k : DM.D × Mem → O} {R : List V → Hp → Prop} (m : Mt (G.wx Y) φ μ H σ ε) (p : PR xc (G.wx Y) W D φ μ H ((ev S0 t ε μ).thenO ε k))
    (fin : ∀ d μ1 v φ1 H1, Ex φ μ H φ1 μ1 H1 → Mt (G.wx Y) φ1 μ1 H1 σ ε → (G.wx Y).rp φ1 μ1 H1 v d → PR xc (G.wx Y) W D φ1 μ1 H1 (k (d, μ1)) → R [v] H1) : RDA S0 xc G W (.cons t .nil) σ H R := by
  refine ⟨Y, φ, μ, ε, m, ?_⟩
  have px := p.px m
  have e0 : evs S0 (.cons t .nil) ε μ = (ev S0 t ε μ).bind fun x => .ok ([x.1], x.2) := by
    simp only [evs]; rfl
  rw [e0]
  cases hev : ev S0 t ε μ with
  | bad => rw [hev] at px; exact px
  | ex x μ' => rw [hev] at px; exact px
  | ok q =>
    rw [hev] at px
    intro us H1 φ1 e m1 rs
    cases rs with
    | cons r rr =>
      cases rr
      exact fin q.1 q.2 _ φ1 H1 e (m.ex e m1) r (PR.exx e px)
theorem asg_imp {X : Cx} {tg : Tg} {t : T} (hK : X.K = G.K) (h : RS S0 xc G W (.asg tg t) D σ H) : tAsg (RD S0 xc G W t) (gTg X.K tg) D σ H := by
  obtain ⟨Y, φ, μ, ε, m, p⟩ := h
  refine val_imp m p fun d μ1 v φ1 H1 e m1 r p1 => ?_
  simp only at p1
  split at p1
  · rename_i ε1 hε
    rw [hK]
    exact tg_ok (G := G.wx Y) m1 r hε fun σ' m' _ _ => p1 σ' H1 φ1 Ex.refl m'
  · exact p1.elim
theorem ret_imp {t : T} (h : RS S0 xc G W (.ret t) D σ H) : tRet (RD S0 xc G W t) D σ H := by
  obtain ⟨Y, φ, μ, ε, m, p⟩ := h
  exact val_imp m p fun d μ1 v φ1 H1 e m1 r p1 => p1 v H1 φ1 Ex.refl m1.ms r
theorem retN_imp (h : RS S0 xc G W .retN D σ H) : tRetN D σ H := by
  obtain ⟨Y, φ, μ, ε, m, p⟩ := h
  exact p .non H φ Ex.refl m.ms .non
theorem exp_imp {t : T} (h : RS S0 xc G W (.exp t) D σ H) : tDrop (RD S0 xc G W t) D σ H := by
  obtain ⟨Y, φ, μ, ε, m, p⟩ := h
  exact val_imp m p fun d μ1 v φ1 H1 e m1 r p1 => p1 σ H1 φ1 Ex.refl m1
theorem pass_imp (h : RS S0 xc G W .pass D σ H) : tNext D σ H := by
  obtain ⟨Y, φ, μ, ε, m, p⟩ := h
  exact p σ H φ Ex.refl m
theorem brk_imp (h : RS S0 xc G W .brk D σ H) : tBreak D σ H := by
  obtain ⟨Y, φ, μ, ε, m, p⟩ := h
  exact p σ H φ Ex.refl m
theorem cnt_imp (h : RS S0 xc G W .cnt D σ H) : tCont D σ H := by
  obtain ⟨Y, φ, μ, ε, m, p⟩ := h
  exact p σ H φ Ex.refl m
theorem app_imp {o t : T} (h : RS S0 xc G W (.app o t) D σ H) : tDrop (tBM G.K "list" rAppend (RD S0 xc G W o) (RDA S0 xc G W (.cons t .nil))) D σ H := by
  obtain ⟨Y, φ, μ, ε, m, p⟩ := h
  refine val_imp m p fun d μ1 v φ1 H1 e m1 r p1 => ?_
  simp only at p1
  split at p1
  · exact p1.elim
  · rename_i q hq
    obtain ⟨n0, ds0⟩ := q
    obtain ⟨a0, vs0, rfl, _, _, ha0, _⟩ := celL_at m1.ms r hq
    refine ⟨.inl ⟨rfl, vs0, .inl (.inl ha0)⟩, arg_imp m1 p1 fun d2 μ2 y φ2 H2 e2 m2 r2 p2 => ?_⟩
    simp only at p2
    split at p2
    · rename_i n ds hc
      obtain ⟨a, vs, e3, hφ, hμ, ha, rs⟩ := celL_at m2.ms (Rp.ex m1.ms e2 r) hc
      cases e3
      split at p2
      · rename_i hl
        refine ⟨_, vs, y, rfl, rfl, ha, by rw [sizeLine_eq, rs.length]; exact hl, put_nx m2 hφ hμ (rs.append (.cons r2 .nil)) p2⟩
      · exact p2.elim
    · exact p2.elim
theorem ext_imp {o t : T} (h : RS S0 xc G W (.ext o t) D σ H) : tDrop (tBM G.K "list" (rExtendR G.K) (RD S0 xc G W o) (RDA S0 xc G W (.cons t .nil))) D σ H := by
  obtain ⟨Y, φ, μ, ε, m, p⟩ := h
  refine val_imp m p fun d μ1 v φ1 H1 e m1 r p1 => ?_
  simp only at p1
  split at p1
  · exact p1.elim
  · rename_i q hq
    obtain ⟨n0, ds0⟩ := q
    obtain ⟨a0, vs0, rfl, _, _, ha0, _⟩ := celL_at m1.ms r hq
    refine ⟨.inl ⟨rfl, vs0, .inl (.inl ha0)⟩, arg_imp m1 p1 fun d2 μ2 y φ2 H2 e2 m2 r2 p2 => ?_⟩
    simp only at p2
    split at p2
    · rename_i n ds es hc ht
      obtain ⟨a, vs, e3, hφ, hμ, ha, rs⟩ := celL_at m2.ms (Rp.ex m1.ms e2 r) hc
      cases e3
      obtain ⟨b, ws, rfl, hb, rz⟩ := top_lst m2.ms r2 ht
      split at p2
      · rename_i hl
        refine ⟨_, b, vs, ws, rfl, rfl, ha, hb, by rw [sizeLine_eq, rs.length, rz.length]; exact hl, put_nx m2 hφ hμ (rs.append rz) p2⟩
      · exact p2.elim
    · exact p2.elim
theorem clr_imp {o : T} (h : RS S0 xc G W (.clr o) D σ H) : tDrop (tBM0 G.K "list" rClear (RD S0 xc G W o)) D σ H := by
  obtain ⟨Y, φ, μ, ε, m, p⟩ := h
  refine val_imp m p fun d μ1 v φ1 H1 e m1 r p1 => ?_
  simp only at p1
  split at p1
  · rename_i n ds hq
    obtain ⟨a, vs, rfl, hφ, hμ, ha, rs⟩ := celL_at m1.ms r hq
    exact ⟨.inl ⟨rfl, vs, .inl (.inl ha)⟩, a, vs, rfl, rfl, ha, put_nx m1 hφ hμ .nil p1⟩
  · exact p1.elim
theorem rps_last {G : Gc} {φ : List Addr} {μ : Mem} {H : Hp} : ∀ {vs : List V} {ds : List DM.D}, G.rps φ μ H vs ds → G.rps φ μ H vs.dropLast ds.dropLast
  | _, _, .nil => .nil
  | _, _, .cons (vs := []) (ds := []) _ .nil => .nil
  | _, _, .cons r (.cons r2 rr) => by
    rw [List.dropLast_cons₂, List.dropLast_cons₂]
    exact .cons r (rps_last (.cons r2 rr))
theorem dlp_imp {o : T} (h : RS S0 xc G W (.dlp o) D σ H) : tDrop (tBM0 G.K "list" rPop (RD S0 xc G W o)) D σ H := by
  obtain ⟨Y, φ, μ, ε, m, p⟩ := h
  refine val_imp m p fun d μ1 v φ1 H1 e m1 r p1 => ?_
  simp only at p1
  split at p1
  · rename_i n ds hq
    obtain ⟨a, vs, rfl, hφ, hμ, ha, rs⟩ := celL_at m1.ms r hq
    split at p1
    · rename_i hn
      have hl : vs.length ≠ 0 := fun z => by
        have := rs.length
        exact hn (List.length_eq_zero_iff.mp (by omega))
      have hg : vs[vs.length - 1]? = some (vs[vs.length - 1]'(by omega)) := List.getElem?_eq_getElem _
      exact ⟨.inl ⟨rfl, vs, .inl (.inl ha)⟩, a, vs, _, rfl, rfl, ha, hg, put_nx m1 hφ hμ (rps_last rs) p1⟩
    · exact p1.elim
  · exact p1.elim
theorem rev_imp {o : T} (h : RS S0 xc G W (.rev o) D σ H) : tDrop (tBM0 G.K "list" rReverse (RD S0 xc G W o)) D σ H := by
  obtain ⟨Y, φ, μ, ε, m, p⟩ := h
  refine val_imp m p fun d μ1 v φ1 H1 e m1 r p1 => ?_
  simp only at p1
  split at p1
  · rename_i n ds hq
    obtain ⟨a, vs, rfl, hφ, hμ, ha, rs⟩ := celL_at m1.ms r hq
    exact ⟨.inl ⟨rfl, vs, .inl (.inl ha)⟩, a, vs, rfl, rfl, ha, put_nx m1 hφ hμ rs.reverse p1⟩
  · exact p1.elim
/-- xs[k] = e -/
theorem dput_imp {g : Sg} {avc avg : Nat → Bool} {N : List Str} {kk : Nat} {ql : Bool} {X : Cx} {o k t : T} (hy : Hy g S0 xc G avc avg N kk ql X W) (h : RS S0 xc G W (.dpu o k t) D σ H) : tAsg (RD S0 xc G W t) (gSub (RD S0 xc G W o) (RD S0 xc G W k) (rSetD X.K fun k => k.hash X.w)) D σ H := by
  obtain ⟨Y, φ, μ, ε, m, p⟩ := h
  refine val_imp m p fun d μ1 v φ1 H1 e m1 r p1 => ?_
  refine val_imp m1 p1 fun d2 μ2 u φ2 H2 e2 m2 r2 p2 => ?_
  refine val_imp m2 p2 fun d3 μ3 w φ3 H3 e3 m3 r3 p3 => ?_
  simp only at p3
  split at p3
  · rename_i n ks vs hc
    split at p3
    · rename_i ok
      rw [Bool.and_eq_true, decide_eq_true_eq] at ok
      obtain ⟨ok, hl⟩ := ok
      obtain ⟨rfl, hμ⟩ := celDc_inv hc
      have ra := Rp.ex m2.ms e3 r2
      have rv := Rp.ex m1.ms (e2.trans e3) r
      cases ra with
      | @cel a _ ha =>
        have hk : (G.wx Y).rp φ3 μ3 H3 w d3 := r3
        have okd := ok
        unfold dOk at okd
        rw [Bool.or_eq_true, Bool.and_eq_true, Bool.and_eq_true] at okd
        refine ⟨a, rfl, ?_⟩
        rcases m3.ms.live _ _ _ hμ ha with ⟨ob, ws, h1, ⟨kvs, rfl, q1, q2, q3⟩, rr⟩ | ⟨ob, xs, h1, hd, f, t, hkn, kr, rr⟩
        · rcases okd with ⟨t1, t2⟩ | ⟨t1, t2⟩
          · have hkv : kvs = [] := by
              cases kvs with
              | nil => rfl
              | cons p ps => rw [q1, List.map_cons, List.all_cons, mix_tup] at t2; cases t2
            subst hkv
            have hks : ks = [] := q1
            have hws : ws = [] := q3
            subst hks hws
            cases rr
            obtain ⟨kn, hkk⟩ := tupK_some t1
            refine .inr ⟨[], kn, .inr ⟨.inl h1, rfl⟩, by rw [h1]; trivial, (fun x hx => by cases hx), tupK_N t1 hkk, by rw [hy.hK]; exact rp_kis _ _ _ hkk hk, by rw [sizeLine_eq]; simp, fun o' hd f => ?_⟩
            rw [← hy.hhs] at f
            refine put_nxD (e := .dct (dPut d3 d [] []).1 (dPut d3 d [] []).2) m3 ha hμ (fun z => z) (fun H' k1 k2 => .inr ⟨o', [(kn, w, v)], k1, hd, f, ?_, ?_, k2 _ _ (.cons hk .nil), k2 _ _ (.cons rv .nil)⟩) p3
            · show tkB [d3] = true
              unfold tkB
              rw [List.all_cons, t1]; rfl
            · show kNs [d3] = _
              simp [kNs, hkk]
          · obtain ⟨kn, ev, ek, hok⟩ := mix_key hk t1
            subst ev ek q1 q3
            refine .inl ⟨kvs, kn, h1, rfl, by rw [List.length_map] at hl; rw [sizeLine_eq]; exact hl, fun nd => ?_⟩
            obtain ⟨c1, c2⟩ := put_dk (Y := (G.wx Y).N φ3 μ3) kn rv nd rr
            refine put_nxD (e := .dct (dPut (kD kn) d (kvs.map fun p => kD p.1) vs).1 (dPut (kD kn) d (kvs.map fun p => kD p.1) vs).2) m3 ha hμ (fun z => z) (fun H' k1 k2 => .inl ⟨_, _, k1, ⟨putK kvs kn v, rfl, c1, fun p hp => ?_, rfl⟩, k2 _ _ c2⟩) p3
            have : ∀ p ∈ putK kvs kn v, p.1 = kn ∨ p.1 ∈ kvs.map (·.1) := fun p hp => by
              unfold putK at hp
              split at hp
              · obtain ⟨x, hx, rfl⟩ := List.mem_map.mp hp
                split
                · exact .inr (List.mem_map.mpr ⟨x, hx, rfl⟩)
                · exact .inr (List.mem_map.mpr ⟨x, hx, rfl⟩)
              · rcases List.mem_append.mp hp with z | z
                · exact .inr (List.mem_map.mpr ⟨p, z, rfl⟩)
                · rw [List.mem_singleton.mp z]; exact .inl rfl
            rcases this p hp with z | z
            · rw [z]; exact hok
            · obtain ⟨x, hx, e0⟩ := List.mem_map.mp z
              rw [← e0]; exact q2 x hx
        · have t' := t
          unfold tkB at t'
          rw [Bool.and_eq_true] at t'
          rcases okd with ⟨t1, t2⟩ | ⟨t1, t2⟩
          · obtain ⟨kn, hkk⟩ := tupK_some t1
            have hlx : xs.length = ks.length := by have := kr.length; rwa [List.length_map] at this
            refine .inr ⟨xs, kn, .inl ⟨ob, h1, hd, by rw [← hy.hhs]; exact f⟩, by rw [h1]; trivial, by rw [hy.hK]; exact keyE_of t2 hkn kr, tupK_N t1 hkk, by rw [hy.hK]; exact rp_kis _ _ _ hkk hk, by rw [sizeLine_eq, hlx]; exact hl, fun o' hd' f' => ?_⟩
            rw [← hy.hhs] at f'
            obtain ⟨c1, c2, c3⟩ := put_ix hkk hk rv f.2.2.1 hkn kr rr
            refine put_nxD (e := .dct (dPut d3 d ks vs).1 (dPut d3 d ks vs).2) m3 ha hμ (fun z => z) (fun H' k1 k2 => .inr ⟨o', _, k1, hd', f', ?_, c1, k2 _ _ c2, k2 _ _ c3⟩) p3
            unfold dPut
            split
            · exact t
            · unfold tkB
              simp [List.all_append, t2, t1]
          · rw [all_nil t'.2 t2] at t'; cases t'.1
    · exact p3.elim
  · exact p3.elim
theorem put_imp {o k t : T} (h : RS S0 xc G W (.put o k t) D σ H) : tAsg (RD S0 xc G W t) (gSub (RD S0 xc G W o) (RD S0 xc G W k) rSetL) D σ H := by
  obtain ⟨Y, φ, μ, ε, m, p⟩ := h
  refine val_imp m p fun d μ1 v φ1 H1 e m1 r p1 => ?_
  refine val_imp m1 p1 fun d2 μ2 u φ2 H2 e2 m2 r2 p2 => ?_
  refine val_imp m2 p2 fun d3 μ3 w φ3 H3 e3 m3 r3 p3 => ?_
  simp only at p3
  split at p3
  · rename_i n ds j hc
    split at p3
    · rename_i i hi
      obtain ⟨a, vs, e4, hφ, hμ, ha, rs⟩ := celL_at m3.ms (Rp.ex m2.ms e3 r2) hc
      subst e4
      cases r3
      exact ⟨a, vs, j, i, rfl, rfl, ha, by rw [rs.length]; exact hi, put_nx m3 hφ hμ (rs.set i (Rp.ex m1.ms (e2.trans e3) r)) p3⟩
    · exact p3.elim
  · exact p3.elim
theorem inc_imp {i : Nat} {t : T} (h : RS S0 xc G W (.inc i t) D σ H) : tAug i (RD S0 xc G W t) (ipI fun a b => a + b) D σ H := by
  obtain ⟨Y, φ, μ, ε, m, p⟩ := h
  have p : PR xc (G.wx Y) W D φ μ H (match ε[i]? with
    | some (some (.int a)) => (ev S0 t ε μ).thenO ε fun p => match p.1 with | .int b => .nx (ε.set i (some (.int (a + b)))) p.2 | _ => .bad
    | _ => .bad) := p
  split at p
  · rename_i a hε
    obtain ⟨v, hv, r⟩ := m.at_ i _ hε
    cases r
    refine ⟨.int a, hv, val_imp m p fun d2 μ2 u φ2 H2 e2 m2 r2 p2 => ?_⟩
    cases d2 with
    | int b =>
      cases r2
      exact ⟨a, b, rfl, rfl, p2 _ H2 φ2 Ex.refl (m2.set (.int _))⟩
    | _ => exact p2.elim
  · exact p.elim
theorem ite_imp {c : T} {a b : B} (h : RS S0 xc G W (.ite c a b) D σ H) : tIfS (RDT S0 xc G W c) (RSB S0 xc G W a) (RSB S0 xc G W b) D σ H := by
  obtain ⟨Y, φ, μ, ε, m, p⟩ := h
  refine ⟨Y, φ, μ, ε, m, px_mono (p.px m) fun q pq => ?_⟩
  obtain ⟨d, μ1⟩ := q
  cases d with
  | bl k =>
    refine ⟨k, rfl, fun H' φ' e ms => ?_⟩
    cases k with
    | true => rw [if_pos rfl]; exact ⟨Y, φ', μ1, ε, m.ex e ms, PR.exx e pq⟩
    | false => rw [if_neg Bool.false_ne_true]; exact ⟨Y, φ', μ1, ε, m.ex e ms, PR.exx e pq⟩
  | _ => exact pq.elim
theorem for_imp {X : Cx} {tg : Tg} {it : It} {a : B} (hK : X.K = G.K) (h : RS S0 xc G W (.for_ tg it a) D σ H) : tFor (RDI S0 xc G W it) (gTg X.K tg) (RSB S0 xc G W a) D σ H := by
  obtain ⟨Y, φ, μ, ε, m, p⟩ := h
  refine ⟨Y, φ, μ, ε, m, px_mono (p.px m) fun q pq J H1 φ1 e1 ms1 wk => ?_⟩
  obtain ⟨w, μ1⟩ := q
  have pq : PR xc (G.wx Y) W D φ μ H (goFI tg (runB S0 a) w ε μ1) := pq
  have hst : ∃ n, RstF tg (runB S0 a) w 0 ε μ1 n (goFI tg (runB S0 a) w ε μ1) := by
    cases w with
    | its ds => exact ⟨ds.length, by omega, Nat.zero_le _, by rw [List.drop_zero]; rfl⟩
    | liv k => exact ⟨fuelW, rfl⟩
  obtain ⟨n0, hst⟩ := hst
  refine ⟨fun i n σ2 H2 => ∃ φ2 μ2 ε2 o, Ex φ1 μ1 H1 φ2 μ2 H2 ∧ Mt (G.wx Y) φ2 μ2 H2 σ2 ε2 ∧ RstF tg (runB S0 a) w i ε2 μ2 n o ∧ PR xc (G.wx Y) W D φ2 μ2 H2 o,
    ⟨n0, φ1, μ1, ε, _, Ex.refl, m.ex e1 ms1, hst, pq.exx e1⟩, ?_⟩
  rintro i n σ2 H2 ⟨φ2, μ2, ε2, o, sm, M, hr, P⟩
  obtain ⟨wgo, wst⟩ := wk φ2 μ2 H2 Y sm (fun a z => z) (fun a z => .inl z) M.ms i
  rcases rstf_step hr (fun z => by subst z; exact P) with ⟨hn, ho⟩ | ⟨d, ε1, n', k, hd, hb, hnn, hk, ho⟩
  · subst ho
    exact .inl ⟨wst hn, P σ2 H2 φ2 Ex.refl M⟩
  · obtain ⟨go, yl⟩ := wgo d hd
    refine .inr ⟨go, _, fun _ _ h => h, fun x H3 hy3 => ?_⟩
    obtain ⟨s3, rx⟩ := yl x H3 hy3
    have e3 : Ex φ2 μ2 H2 φ2 μ2 H3 := Ex.same s3
    rw [hK]
    refine tg_ok (G := G.wx Y) (M.ex e3 (M.ms.same s3)) rx hb fun σ4 M4 _ _ => ⟨Y, φ2, μ2, ε1, M4, ?_⟩
    subst ho
    have again : ∀ {ε5 μ5}, PR xc (G.wx Y) W D φ2 μ2 H2 (k ε5 μ5) → ∀ σ5 H5 φ5, Ex φ2 μ2 H3 φ5 μ5 H5 → Mt (G.wx Y) φ5 μ5 H5 σ5 ε5 →
        ∃ m', m' < n ∧ ∃ φ2 μ2 ε2 o, Ex φ1 μ1 H1 φ2 μ2 H5 ∧ Mt (G.wx Y) φ2 μ2 H5 σ5 ε2 ∧ RstF tg (runB S0 a) w (i + 1) ε2 μ2 m' o ∧ PR xc (G.wx Y) W D φ2 μ2 H5 o := by
      intro ε5 μ5 P5 σ5 H5 φ5 f5 M5
      exact ⟨n', hnn, φ5, μ5, ε5, _, sm.trans (e3.trans f5), M5, hk ε5 μ5, P5.exx (e3.trans f5)⟩
    cases ho : runB S0 a ε1 μ2 with
    | nx ε5 μ5 => rw [ho] at P; exact again P
    | ct ε5 μ5 => rw [ho] at P; exact again P
    | bk ε5 μ5 => rw [ho] at P; exact fun σ5 H5 φ5 f5 M5 => P σ5 H5 φ5 (e3.trans f5) M5
    | rt d5 μ5 => rw [ho] at P; exact fun v5 H5 φ5 f5 M5 r5 => P v5 H5 φ5 (e3.trans f5) M5 r5
    | ex x5 ε5 μ5 => rw [ho] at P; exact fun cls dd σ5 H5 φ5 f5 M5 => P cls dd σ5 H5 φ5 (e3.trans f5) M5
    | bad => rw [ho] at P; exact P
theorem whl_imp {c : T} {a : B} (h : RS S0 xc G W (.whl c a) D σ H) : tWhile (RDT S0 xc G W c) (RSB S0 xc G W a) D σ H := by
  obtain ⟨Y, φ, μ, ε, m, p⟩ := h
  have p : PR xc (G.wx Y) W D φ μ H (goW (ev S0 c) (runB S0 a) fuelW ε μ) := p
  generalize fuelW = n0 at p
  refine ⟨fun n σ2 H2 => ∃ φ2 μ2 ε2, Mt (G.wx Y) φ2 μ2 H2 σ2 ε2 ∧ PR xc (G.wx Y) W D φ2 μ2 H2 (goW (ev S0 c) (runB S0 a) n ε2 μ2), ⟨n0, φ, μ, ε, m, p⟩, ?_⟩
  rintro n σ2 H2 ⟨φ2, μ2, ε2, M, P⟩
  cases n with
  | zero => rw [goW] at P; exact P.elim
  | succ n =>
    rw [goW] at P
    refine ⟨Y, φ2, μ2, ε2, M, px_mono (P.px M) fun q pq => ?_⟩
    obtain ⟨d, μ3⟩ := q
    cases d with
    | bl k =>
      refine ⟨k, rfl, fun H3 φ3 s3 ms3 => ?_⟩
      have M3 := M.ex s3 ms3
      cases k with
      | true =>
        refine iteT ?_
        simp only at pq
        refine ⟨_, fun _ _ h => h, Y, φ3, μ3, ε2, M3, ?_⟩
        have again : ∀ {ε5 μ5}, PR xc (G.wx Y) W D φ2 μ2 H2 (goW (ev S0 c) (runB S0 a) n ε5 μ5) → ∀ σ5 H5 φ5, Ex φ3 μ3 H3 φ5 μ5 H5 → Mt (G.wx Y) φ5 μ5 H5 σ5 ε5 →
            ∃ m', m' < n + 1 ∧ ∃ φ2 μ2 ε2, Mt (G.wx Y) φ2 μ2 H5 σ5 ε2 ∧ PR xc (G.wx Y) W D φ2 μ2 H5 (goW (ev S0 c) (runB S0 a) m' ε2 μ2) := by
          intro ε5 μ5 P5 σ5 H5 φ5 f5 M5
          exact ⟨n, Nat.lt_succ_self _, φ5, μ5, ε5, M5, P5.exx (s3.trans f5)⟩
        cases ho : runB S0 a ε2 μ3 with
        | nx ε5 μ5 => rw [ho] at pq; exact again pq
        | ct ε5 μ5 => rw [ho] at pq; exact again pq
        | bk ε5 μ5 => rw [ho] at pq; exact fun σ5 H5 φ5 f5 M5 => pq σ5 H5 φ5 (s3.trans f5) M5
        | rt d5 μ5 => rw [ho] at pq; exact fun v5 H5 φ5 f5 M5 r5 => pq v5 H5 φ5 (s3.trans f5) M5 r5
        | ex x5 ε5 μ5 => rw [ho] at pq; exact fun cls dd σ5 H5 φ5 f5 M5 => pq cls dd σ5 H5 φ5 (s3.trans f5) M5
        | bad => rw [ho] at pq; exact pq
      | false =>
        refine iteF ?_
        exact pq σ2 H3 φ3 s3 M3
    | _ => exact pq.elim
/-- two or three names at a time -/
theorem par2_imp {i j : Nat} {ts : Ts} (h : RS S0 xc G W (.par [i, j] ts) D σ H) : tPar i j (RDA S0 xc G W ts) D σ H := by
  obtain ⟨Y, φ, μ, ε, m, p⟩ := h
  refine ⟨Y, φ, μ, ε, m, px_mono (p.px m) fun ps pq vs H1 φ1 e ms rs => ?_⟩
  obtain ⟨ps, μ1⟩ := ps
  simp only at pq
  split at pq
  · rename_i hf
    rw [decide_eq_true_eq] at hf
    match ps, hf with
    | [d1, d2], _ =>
      cases rs with
      | cons r1 rs =>
        cases rs with
        | cons r2 rs =>
          cases rs
          exact ⟨_, _, rfl, pq _ H1 φ1 e (((m.ex e ms).set r1).set r2)⟩
  · exact pq.elim
theorem par3_imp {i j l : Nat} {ts : Ts} (h : RS S0 xc G W (.par [i, j, l] ts) D σ H) : tPar3 i j l (RDA S0 xc G W ts) D σ H := by
  obtain ⟨Y, φ, μ, ε, m, p⟩ := h
  refine ⟨Y, φ, μ, ε, m, px_mono (p.px m) fun ps pq vs H1 φ1 e ms rs => ?_⟩
  obtain ⟨ps, μ1⟩ := ps
  simp only at pq
  split at pq
  · rename_i hf
    rw [decide_eq_true_eq] at hf
    match ps, hf with
    | [d1, d2, d3], _ =>
      cases rs with
      | cons r1 rs =>
        cases rs with
        | cons r2 rs =>
          cases rs with
          | cons r3 rs =>
            cases rs
            exact ⟨_, _, _, rfl, pq _ H1 φ1 e ((((m.ex e ms).set r1).set r2).set r3)⟩
  · exact pq.elim
theorem seq_imp {s : S} {r : B} (h : RSB S0 xc G W (.cons s r) D σ H) : tSeq (RS S0 xc G W s) (RSB S0 xc G W r) D σ H := by
  obtain ⟨Y, φ, μ, ε, m, p⟩ := h
  refine ⟨Y, φ, μ, ε, m, ?_⟩
  have p : PR xc (G.wx Y) W D φ μ H ((run S0 s ε μ).seq (runB S0 r)) := p
  cases ho : run S0 s ε μ with
  | nx ε1 μ1 => rw [ho] at p; exact fun σ1 H1 φ1 f1 M1 => ⟨Y, φ1, μ1, ε1, M1, PR.exx f1 p⟩
  | bk ε1 => rw [ho] at p; exact p
  | ct ε1 => rw [ho] at p; exact p
  | rt d => rw [ho] at p; exact p
  | ex x ε1 => rw [ho] at p; exact p
  | bad => rw [ho] at p; exact p
theorem dem_imp {is : List Nat} {r : B} (h : RSB S0 xc G W (.cons (.dem is) r) D σ H) : RSB S0 xc G W r D σ H := by
  obtain ⟨Y, φ, μ, ε, m, p⟩ := h
  obtain ⟨e, m'⟩ := m.dem is
  exact ⟨Y, φ, _, _, m', PR.exx e p⟩
theorem putF_take {f : Str} {v : V} : ∀ {ns : List Str} {vs : List V}, vs.length < ns.length → ns.Nodup → ns[vs.length]? = some f → putF f v (ns.zip vs) = ns.zip (vs ++ [v])
  | [], vs, h, _, _ => by simp at h
  | n :: ns, [], h, nd, e => by
    have : n = f := by simpa using e
    subst this
    simp [putF]
  | n :: ns, u :: us, h, nd, e => by
    rw [List.nodup_cons] at nd
    have e' : ns[us.length]? = some f := by simpa using e
    have ne : n ≠ f := fun z => nd.1 (z ▸ List.mem_of_getElem? e')
    show (if n = f then (n, v) :: ns.zip us else (n, u) :: putF f v (ns.zip us)) = _
    rw [if_neg ne, putF_take (by simpa using h) nd.2 e']
    rfl
theorem putF_set {f : Str} {v : V} : ∀ {ns : List Str} {vs : List V} {j : Nat}, j < vs.length → ns.Nodup → ns[j]? = some f → putF f v (ns.zip vs) = ns.zip (vs.set j v)
  | [], vs, j, h, _, e => by simp at e
  | n :: ns, [], j, h, _, e => by simp at h
  | n :: ns, u :: us, 0, h, nd, e => by
    have : n = f := by simpa using e
    subst this
    simp [putF]
  | n :: ns, u :: us, j + 1, h, nd, e => by
    rw [List.nodup_cons] at nd
    have e' : ns[j]? = some f := by simpa using e
    have ne : n ≠ f := fun z => nd.1 (z ▸ List.mem_of_getElem? e')
    show (if n = f then (n, v) :: ns.zip us else (n, u) :: putF f v (ns.zip us)) = _
    rw [if_neg ne, putF_set (by simpa using h) nd.2 e']
    rfl
theorem idxOf_get {ns : List Nat} {f j : Nat} (h : ns.idxOf? f = some j) : ns[j]? = some f := by
  induction ns generalizing j with
  | nil => simp at h
  | cons n ns ih =>
    rw [List.idxOf?_cons] at h
    split at h
    · rename_i e
      cases h
      simp at e
      simp [e]
    · cases q : ns.idxOf? f with
      | none => rw [q] at h; cases h
      | some k => rw [q] at h; simp at h; subst h; simpa using ih q
/-- o.f = e -/
theorem fld_imp {g : Sg} {o t : T} {f : Nat} (hc : ∀ c C ns, G.cl c = some (C, ns) → L2.Cls G.K C ∧ ns = (S0.fl c).map g.anm ∧ ns.Nodup ∧ ns.length < 1000 ∧ (∀ x ∈ ns, NoAttr G.K C x)) (h : RS S0 xc G W (.fld o f t) D σ H) : sFld G.K (RD S0 xc G W o) (RD S0 xc G W t) (g.anm f) D σ H := by
  obtain ⟨Y, φ, μ, ε, m, p⟩ := h
  refine val_imp m p fun d μ1 v φ1 H1 e m1 r p1 => ?_
  refine val_imp m1 p1 fun d2 μ2 u φ2 H2 e2 m2 r2 p2 => ?_
  simp only at p2
  split at p2
  · rename_i n
    split at p2
    · rename_i c fs hμ
      split at p2
      · rename_i gs hg
        cases r2 with
        | cel hφ =>
          rename_i a
          obtain ⟨C, dx, ns, vs, k1, k2, k3, k4⟩ := m2.ms.live _ _ _ hμ hφ
          obtain ⟨c1, c2, c3, c4, c5⟩ := hc c C ns k1
          rw [zip_take] at k3
          unfold fldE at hg
          cases hj : (S0.fl c).idxOf? f with
          | none => rw [hj] at hg; cases hg
          | some j =>
            rw [hj] at hg
            have hjn : ns[j]? = some (g.anm f) := by rw [c2, List.getElem?_map, idxOf_get hj]; rfl
            have hl := k4.length
            have rv := Rp.ex m1.ms e2 r
            have fin : ∀ ws, (G.wx Y).rps φ2 μ2 H2 ws gs → ws.length ≤ ns.length → putF (g.anm f) v (ns.zip vs) = ns.zip ws → PR xc (G.wx Y) W D φ2 μ2 H2 (.nx ε (μ2.set n (some (.ins c gs)))) → D.nx σ (upd H2 a (.ins C dx (putF (g.anm f) v (ns.zip vs)))) := by
              intro ws rs hlw hp P
              obtain ⟨m3, e3⟩ := m2.ms.put (e := .ins c gs) (o := .ins C dx (putF (g.anm f) v (ns.zip vs))) hμ hφ (fun z => z) fun H' h1 h2 => ⟨C, dx, ns, ws, k1, hlw, by rw [zip_take, ← hp]; exact h1, Rps.fm Px.refl (fun b u q1 q2 => h2 b u (fun z => m2.ms.nlv q1 q2 (z ▸ ⟨n, _, hμ, hφ⟩)) q1) (fun _ _ _ z => z) _ _ rs⟩
              exact P σ _ φ2 e3 (m2.ex e3 m3)
            refine ⟨a, C, dx, ns.zip vs, rfl, k3, c1, c5 _ (List.mem_of_getElem? hjn), by rw [List.length_zip]; omega, ?_⟩
            simp only at hg
            split at hg
            · rename_i hlt
              cases hg
              exact fin (vs.set j v) (k4.set j rv) (by rw [List.length_set]; exact k2) (putF_set (by omega) c3 hjn) p2
            · split at hg
              · rename_i hne heq
                cases hg
                have hlt : vs.length < ns.length := by
                  have := (List.getElem?_eq_some_iff.mp hjn).1
                  omega
                refine fin (vs ++ [v]) (k4.append (.cons rv .nil)) (by rw [List.length_append]; simp; omega) (putF_take hlt c3 ?_) p2
                rw [hl, ← heq]; exact hjn
              · cases hg
      · exact p2.elim
    · exact p2.elim
  · exact p2.elim
end
end DM
set_option Elab.async false
set_option linter.all false
set_option maxRecDepth 100000
set_option maxHeartbeats 4000000
namespace DM
open PySem L2 PySem.Spec PyProof.Rows
def compB : Expr → Bool | .ListComp .. => true | .SetComp .. => true | .DictComp .. => true | _ => false
def compSD : Expr → Bool | .SetComp .. => true | .DictComp .. => true | _ => false
def tupX : Expr → Bool | .Tuple .. => true | _ => false
def funB (sc : Scope) : Bool := match sc.kind with | .function => true | _ => false
/-- the names at the places, all plain locals, on one line -/
def parNs (N : List Str) (sc : Scope) (line : Nat) : List Nat → List Expr → Bool
  | [], [] => true
  | i :: is, .Name x p :: es => decide (N[i]? = some x) && (match sc.names.lookup x with | some .local => true | _ => false) && (p.line == line) && parNs N sc line is es
  | _, _ => false
/-- an except clause's name -/
def hnB (N : List Str) (sc : Scope) : Option Nat → Option Str → Bool
  | none, none => true
  | some i, some y => decide (N[i]? = some y) && (match sc.names.lookup y with | some .local => true | _ => false)
  | _, _ => false
section
variable (g : Sg) (avf avc avg avi : Nat → Bool) (N : List Str)
mutual
def lkS (ql : Bool) (sc : Scope) (s : S) (st : Stmt) : Bool :=
  match s with
  | .pass => match st with | .Pass _ => true | _ => false
  | .no => true
  | .brk => match st with | .Break _ => true | _ => false
  | .cnt => match st with | .Continue _ => true | _ => false
  | .retN => match st with | .Return none _ => true | _ => false
  | .dem _ => false
  | .asg tg t => match tg with
    | .nm i => match st with | .Assign [.Name x _] e _ => decide (N[i]? = some x) && locB sc x && lk g avf avc avg avi N ql sc t e && !compSD e && (ql || !compB e) | _ => false
    | .tp is => match st with | .Assign [.Tuple es _ _] e _ => ql && tgB.tgBs N (locB sc) is es && lk g avf avc avg avi N ql sc t e && !compSD e && !tupX e | _ => false
  | .par is ts => match st with
    | .Assign [.Tuple [.Name x p, .Name y q] _ _] (.Tuple [a, b] _ _) _ => ql && funB sc && parNs N sc p.line is [.Name x p, .Name y q] && decide is.Nodup && !([a, b].all (foldedForSure 8)) && !([a, b].all (constantsAlone 8)) && lks g avf avc avg avi N ql sc ts [a, b]
    | .Assign [.Tuple [.Name x p, .Name y q, .Name z r] _ _] (.Tuple [a, b, c] _ _) _ => ql && funB sc && parNs N sc p.line is [.Name x p, .Name y q, .Name z r] && decide is.Nodup && !([a, b, c].all (foldedForSure 8)) && !([a, b, c].all (constantsAlone 8)) && lks g avf avc avg avi N ql sc ts [a, b, c]
    | _ => false
  | .app o t => match st with
    | .Expr e _ => match callM e with | some (oe, m, [a]) => decide (m = ("append" : Str)) && baseB oe && lk g avf avc avg avi N ql sc o oe && lk g avf avc avg avi N ql sc t a | _ => false
    | _ => false
  | .ext o t => match st with
    | .Expr e _ => match callM e with | some (oe, m, [a]) => decide (m = ("extend" : Str)) && baseB oe && lk g avf avc avg avi N ql sc o oe && lk g avf avc avg avi N ql sc t a | _ => false
    | _ => false
  | .clr o => match st with
    | .Expr e _ => match callM e with | some (oe, m, []) => decide (m = ("clear" : Str)) && baseB oe && lk g avf avc avg avi N ql sc o oe | _ => false
    | _ => false
  | .dlp o => match st with
    | .Expr e _ => match callM e with | some (oe, m, []) => decide (m = ("pop" : Str)) && baseB oe && lk g avf avc avg avi N ql sc o oe | _ => false
    | _ => false
  | .rev o => match st with
    | .Expr e _ => match callM e with | some (oe, m, []) => decide (m = ("reverse" : Str)) && baseB oe && lk g avf avc avg avi N ql sc o oe | _ => false
    | _ => false
  | .put o k t => match st with
    | .Assign [.Subscript oe ke _] e _ => lk g avf avc avg avi N ql sc o oe && lk g avf avc avg avi N ql sc k ke && lk g avf avc avg avi N ql sc t e
    | _ => false
  | .dpu o k t => match st with
    | .Assign [.Subscript oe ke _] e _ => lk g avf avc avg avi N ql sc o oe && lk g avf avc avg avi N ql sc k ke && lk g avf avc avg avi N ql sc t e
    | _ => false
  | .fld o f t => match st with
    | .Assign [.Attribute oe n _] e _ => decide (g.anm f = n) && lk g avf avc avg avi N ql sc o oe && lk g avf avc avg avi N ql sc t e
    | _ => false
  | .rs0 c => match st with
    | .Raise (some (.Call (.Name x _) [.Constant (.str _) _ _] [] _)) none _ => ql && decide (g.cnm c = x) && glB sc x && okNm x
    | _ => false
  | .rse c as => match st with
    | .Raise (some (.Call (.Name x _) (e :: es) [] _)) none _ => ql && decide (g.cnm c = x) && glB sc x && okNm x && lks g avf avc avg avi N ql sc as (e :: es)
    | _ => false
  | .inc i t => match st with | .AugAssign (.Name x _) .Add e _ => decide (N[i]? = some x) && locB sc x && lk g avf avc avg avi N ql sc t e | _ => false
  | .exp t => match st with | .Expr e _ => lk g avf avc avg avi N ql sc t e && !compB e | _ => false
  | .ret t => match st with | .Return (some e) _ => lk g avf avc avg avi N ql sc t e | _ => false
  | .ite c a b => match st with | .If e p q _ => tst c && lk g avf avc avg avi N ql sc c e && lkB ql sc a p && lkB ql sc b q | _ => false
  | .whl c a => match st with | .While e p [] _ => tst c && lk g avf avc avg avi N ql sc c e && lkB ql sc a p | _ => false
  | .for_ tg it a => match st with | .For t i p [] _ => ql && tgB N (locB sc) tg t && !setB i && lkI g avf avc avg avi N ql sc it t i && lkB ql sc a p | _ => false
  | .tr b h e => match st with
    | .Try body (h₀ :: hds) orelse [] _ => ql && lkB ql sc b body && lkH sc h (h₀ :: hds) && lkB ql sc e orelse
    | _ => false
def lkB (ql : Bool) (sc : Scope) (b : B) (sts : List Stmt) : Bool :=
  match b with
  | .nil => match sts with | [] => true | _ => false
  | .cons s r => match s with
    | .dem _ => lkB ql sc r sts
    | s => match sts with | st :: sts => lkS ql sc s st && lkB ql sc r sts | _ => false
def lkH (sc : Scope) (h : Hl) (hds : List ExceptHandler) : Bool :=
  match h with
  | .nil => match hds with | [] => true | _ => false
  | .cons c nm a r => match hds with
    | .ExceptHandler (some (.Name x _)) no (b₀ :: suite) _ :: hds => g.hnd c && decide (g.cnm c = x) && glB sc x && okNm x && hnB N sc nm no && lkB false sc a (b₀ :: suite) && lkH sc r hds
    | _ => false
end
end
/-- what a statement's context gives besides -/
structure Hs (X : Cx) : Prop where
  pass : PassesOwn (model X.prog X.w) X.A X.env X.xe
  fn : ∀ x, X.fn x = true
  stk : X.stack = X.env :: X.outer
  frm : X.env.frame = some X.env.locals
  nex : X.ex = []
section
variable {g : Sg} {avf avc avg avi : Nat → Bool} {N : List Str} {kk : Nat} {ql : Bool}
variable {S0 : Mn} {xc : Xc} {G : Gc} {W : WX} {X : Cx} {sc : Scope}
theorem swSole_tup {es : List Expr} {k : Nat} {p : Pos} {e : Expr} {l : Nat} {env : Env} : swapsWithSole [.Tuple es k p] e l env = pure false := by
  cases e <;> rfl
theorem swStores_tup {es : List Expr} {k : Nat} {p : Pos} {e : Expr} {env : Env} (h : tupX e = false) : swappedStores [.Tuple es k p] e env = pure none := by
  cases e <;> first | rfl | cases h
theorem swSole_sub {o i : Expr} {p : Pos} {e : Expr} {l : Nat} {env : Env} : swapsWithSole [.Subscript o i p] e l env = pure false := by
  cases e <;> rfl
theorem swStores_sub {o i : Expr} {p : Pos} {e : Expr} {env : Env} : swappedStores [.Subscript o i p] e env = pure none := by
  cases e <;> rfl
theorem sw_none {e : Expr} {l : Nat} {env : Env} (h : compB e = false) : swapsWith e none l env = pure false := by
  cases e <;> first | rfl | cases h
theorem sw_name {e : Expr} {x : Str} {p : Pos} {l : Nat} {env : Env} (h : compB e = false) : swapsWith e (some (.Name x p)) l env = pure false := by
  cases e <;> first | rfl | cases h
theorem sw_att {o : Expr} {f : Str} {p : Pos} {e : Expr} {l : Nat} {env : Env} : swapsWith e (some (.Attribute o f p)) l env = pure false := by
  cases e <;> rfl
/-- x = [.. for ..] -/
theorem set_lc (hq0 : ql = true) (hav : Avs S0 avf avc avi) (hy : Hy g S0 xc G avc avg N kk ql X W) (h2 : Hs X) (hs : Sc X sc) {i : Nat} {x : Str} {p pos cpos : Pos} {tg : Tg} {it : It} {cd : TO} {el : T} {elt : Expr} {gens : List Comprehension} {scope : Scope} (hi : N[i]? = some x) (hx : locB sc x = true) (h : lk g avf avc avg avi N ql sc (.lc tg it cd el) (.ListComp elt gens scope cpos) = true) :
    ∃ te, PS X (.Assign [.Name x p] (.ListComp elt gens scope cpos) pos) (tAsg te (gName i)) ∧ ∀ σ H Q, RD S0 xc G W (.lc tg it cd el) σ H Q → te σ H Q := by
  have hN : X.N.Nodup := by rw [hy.hN]; exact hy.nd
  have hi' : X.N[i]? = some x := by rw [hy.hN]; exact hi
  have hl : Loc X.env.scope x := by rw [hs]; exact locB_inv hx
  have T := (ok_t hav (.lc tg it cd el) hy hs h).1
  obtain ⟨b, hb⟩ : ∃ b : Bool, swapsWith (.ListComp elt gens scope cpos) (some (.Name x p)) pos.line X.env = pure b ∧ (b = true → X.env.kindOf x = some .local) := by
    refine ⟨_, rfl, fun z => ?_⟩
    simp only [Bool.and_eq_true, beq_iff_eq] at z
    exact z.1.1.2
  cases b with
  | false => exact ⟨_, ps_set hN hi' hl T hb.1 (.inl (h2.fn x)), fun _ _ _ q => q⟩
  | true =>
    unfold lk at h
    split at h
    · rename_i x' t' i' ifs sc2 pos' heq
      cases heq
      simp only [Bool.and_eq_true, decide_eq_true_eq, Bool.not_eq_true'] at h
      obtain ⟨⟨⟨⟨⟨⟨⟨_, h1⟩, h2'⟩, h3⟩, h4⟩, h5⟩, h6⟩, h7⟩ := h
      have hq := hq0
      have hbk : ∀ (s : Shared) (H : Hp) (C : Addr) (cl : List (Str × Addr)) (fp : List Addr), Sc (X.blk s H scope (compEnvC scope cl C X.env) fp) (relS scope sc) := fun s H C cl fp => by subst hs; rfl
      refine ⟨_, ps_setLc (hy.calm hq) hN hi' (hb.2 rfl) hb.1 (ok_i hav it hy hs h5) (blkOk_by (by rw [hy.hN]; rw [hs]; exact h1)) (fun s H C cl fp => pg_tg (X := X.blk s H scope (compEnvC scope cl C X.env) fp) hy.hN hy.nd (hy.calm hq) (fun x hx => ?_) h3) (fun s H C cl fp => ok_c hav cd hy.blk (hbk s H C cl fp) h6) (fun s H C cl fp => (ok_t hav el hy.blk (hbk s H C cl fp) h7).1) (foldedO h4), fun σ H Q q => lc_imp hy h2' _ _ _ q⟩
      have e : (compEnvC scope cl C X.env).scope = relS scope sc := by subst hs; rfl
      rcases locB_inv hx with z | z
      · have z' := lookup_relS_keep (sc := sc) (by simp) z
        exact ⟨by show Loc (compEnvC scope cl C X.env).scope x; rw [e]; exact .inl z', .inr (by show (compEnvC scope cl C X.env).scope.names.lookup x = _; rw [e]; exact z')⟩
      · have z' := lookup_relS_keep (sc := sc) (by simp) z
        exact ⟨by show Loc (compEnvC scope cl C X.env).scope x; rw [e]; exact .inr z', .inl (by show (scope.names.lookup x == some .cell) = true; rw [z]; rfl)⟩
    · cases h
theorem lk_lc {t : T} {elt : Expr} {gens : List Comprehension} {scope : Scope} {cpos : Pos} (h : lk g avf avc avg avi N ql sc t (.ListComp elt gens scope cpos) = true) : (∃ tg it cd el, t = .lc tg it cd el) ∨ (∃ a, t = .new a) ∨ ∃ a, t = .fz a := by
  cases t with
  | lc tg it cd el => exact .inl ⟨_, _, _, _, rfl⟩
  | new a => exact .inr (.inl ⟨a, rfl⟩)
  | fz a => exact .inr (.inr ⟨a, rfl⟩)
  | call k n as => unfold lk callN at h; cases h
  | mak k n as => unfold lk callN at h; cases h
  | mth k a n as => unfold lk callM at h; cases h
  | ucl k c n as => unfold lk callM at h; cases h
  | bi n as => unfold lk callN at h; cases h
  | isi a n => unfold lk callN at h; cases h
  | isc a n => unfold lk callN at h; cases h
  | lrv a => unfold lk callN at h; cases h
  | lrg a b => unfold lk callN at h; cases h
  | mkw c w as ks => unfold lk at h; cases h
  | mke c as => unfold lk at h; cases h
  | lset a => unfold lk callN at h; cases h
  | jrv a b => unfold lk callM at h; cases h
  | sm m a as => unfold lk callM at h; cases h
  | _ => unfold lk at h; cases h
theorem fz_imp {a : T} {H : Hp} {σ : L2.St} {Q : VK} : RD S0 xc G W (.fz a) σ H Q → RD S0 xc G W a σ H Q := fun ⟨Y, φ, μ, ε, m, p⟩ => ⟨Y, φ, μ, ε, m, px_mono (px_bind p) fun x px v H1 φ1 e1 m1 r1 tf => by
    obtain ⟨d, μ1⟩ := x
    cases d
    case cel n =>
      simp only at px
      split at px
      · rename_i d' hd
        cases r1 with
        | cel ha =>
          obtain ⟨m2, r2, e2⟩ := m1.fz hd ha
          obtain ⟨m3, r3, e3⟩ := m2.dpz r2
          have px : QQ (G.wx Y) φ μ H (dpz d' (μ1.set n none)).2 false (dpz d' (μ1.set n none)).1 Q := px
          exact px _ H1 φ1 (e1.trans (e2.trans e3)) m3 r3 (fun z => by cases z)
      · exact px.elim
    all_goals exact px v H1 φ1 e1 m1 r1 (fun z => by cases z)⟩
theorem name_rec (hq0 : ql = true) (hav : Avs S0 avf avc avi) (hy : Hy g S0 xc G avc avg N kk ql X W) (h2 : Hs X) (hs : Sc X sc) {i : Nat} {x : Str} {p pos cpos : Pos} {elt : Expr} {gens : List Comprehension} {scope : Scope} (hi : N[i]? = some x) (hx : locB sc x = true) : ∀ (t : T), lk g avf avc avg avi N ql sc t (.ListComp elt gens scope cpos) = true →
    ∃ te, PS X (.Assign [.Name x p] (.ListComp elt gens scope cpos) pos) (tAsg te (gName i)) ∧ ∀ σ H Q, RD S0 xc G W t σ H Q → te σ H Q := by
  intro t
  have go : ∀ (n : Nat) (t : T), sizeOf t ≤ n → lk g avf avc avg avi N ql sc t (.ListComp elt gens scope cpos) = true →
    ∃ te, PS X (.Assign [.Name x p] (.ListComp elt gens scope cpos) pos) (tAsg te (gName i)) ∧ ∀ σ H Q, RD S0 xc G W t σ H Q → te σ H Q := by
    intro n
    induction n with
    | zero => intro t h; cases t <;> simp at h
    | succ n ih =>
      intro t hn h
      rcases lk_lc h with ⟨tg, it, cd, el, rfl⟩ | ⟨a, rfl⟩ | ⟨a, rfl⟩
      · exact set_lc hq0 hav hy h2 hs hi hx h
      · obtain ⟨te, h1, h3⟩ := ih a (by simp at hn; omega) (by unfold lk at h; exact h)
        exact ⟨te, h1, fun σ H Q q => h3 σ H Q (new_imp q)⟩
      · obtain ⟨te, h1, h3⟩ := ih a (by simp at hn; omega) (by unfold lk at h; exact h)
        exact ⟨te, h1, fun σ H Q q => h3 σ H Q (fz_imp q)⟩
  exact go _ t (Nat.le_refl _)
/-- x = e -/
theorem name_set (hav : Avs S0 avf avc avi) (hy : Hy g S0 xc G avc avg N kk ql X W) (h2 : Hs X) (hs : Sc X sc) {i : Nat} {x : Str} {p pos : Pos} {e : Expr} (hi : N[i]? = some x) (hx : locB sc x = true) (hq0 : compB e = true → ql = true) : ∀ {t : T}, lk g avf avc avg avi N ql sc t e = true → compSD e = false →
    ∃ te, PS X (.Assign [.Name x p] e pos) (tAsg te (gName i)) ∧ ∀ σ H Q, RD S0 xc G W t σ H Q → te σ H Q := by
  have hN : X.N.Nodup := by rw [hy.hN]; exact hy.nd
  have hi' : X.N[i]? = some x := by rw [hy.hN]; exact hi
  have hl : Loc X.env.scope x := by rw [hs]; exact locB_inv hx
  intro t h hc
  by_cases hcb : compB e = true
  · cases e with
    | ListComp elt gens scope cpos => exact name_rec (hq0 rfl) hav hy h2 hs hi hx t h
    | SetComp _ _ _ _ => cases hc
    | DictComp _ _ _ _ _ => cases hc
    | _ => cases hcb
  · exact ⟨_, ps_set hN hi' hl (ok_t hav t hy hs h).1 (sw_name (by simpa using hcb)) (.inl (h2.fn x)), fun _ _ _ q => q⟩
end
end DM
set_option Elab.async false
set_option linter.all false
set_option maxRecDepth 100000
set_option maxHeartbeats 4000000
namespace DM
open PySem L2 PySem.Spec PyProof.Rows
section
variable {g : Sg} {avf avc avg avi : Nat → Bool} {N : List Str} {kk : Nat} {ql : Bool}
variable {S0 : Mn} {xc : Xc} {G : Gc} {W : WX} {X : Cx} {sc : Scope}
theorem few1 {a : Expr} {pos : Pos} (h : starB a = false) : ((backTo pos (starEach (a :: []) X.env)).all (fun x => !x.1) && (backToKw pos (keywordEach [] X.env)).all (fun x => x.1.isSome) && decide ((a :: []).length + ([] : List Keyword).length + (if ([] : List Keyword).isEmpty then 0 else 1) < 30)) = true := by
  rw [star_all (by rw [List.all_cons, h]; rfl)]
  rfl
theorem meth1 {id : String} {name : Str} {r : V → List V → Hp → VK → Prop} (slot : Slot "list" name id) (hty : typeOf (.builtin id) = pure (.type "method_descriptor")) (hm : MtM X id r) {oe : Expr} {apos pos : Pos} {a : Expr} {o t : T}
    (hav : Avs S0 avf avc avi) (hy : Hy g S0 xc G avc avg N kk ql X W) (hs : Sc X sc) (hb : baseB oe = true) (h1 : lk g avf avc avg avi N ql sc o oe = true) (hl : (apos.endLine == pos.line) = true) (h4 : lk g avf avc avg avi N ql sc t a = true) :
    PE X (.Call (.Attribute oe name apos) [a] [] pos) (tBM G.K "list" r (RD S0 xc G W o) (RDA S0 xc G W (.cons t .nil))) := by
  have st := (lk_form h4).1
  rw [← hy.hK]
  exact pe_bm PySem.F.plainAttrs_list slot hty hm (ok_t hav o hy hs h1).1 (s_cons st (ok_t hav t hy hs h4).1 s_nil) (base_of hb) (few1 st) hl (star_cons st) rfl
theorem meth0 {id : String} {name : Str} {r : V → List V → Hp → VK → Prop} (slot : Slot "list" name id) (hty : typeOf (.builtin id) = pure (.type "method_descriptor")) (hm : MtM X id r) {oe : Expr} {apos pos : Pos} {o : T}
    (hav : Avs S0 avf avc avi) (hy : Hy g S0 xc G avc avg N kk ql X W) (hs : Sc X sc) (hb : baseB oe = true) (h1 : lk g avf avc avg avi N ql sc o oe = true) (hl : (apos.endLine == pos.line) = true) :
    PE X (.Call (.Attribute oe name apos) [] [] pos) (tBM0 G.K "list" r (RD S0 xc G W o)) := by
  rw [← hy.hK]
  exact pe_bm0 PySem.F.plainAttrs_list slot hty hm (ok_t hav o hy hs h1).1 (base_of hb) hl
theorem parNs_cons {line i : Nat} {is : List Nat} {x : Str} {p : Pos} {es : List Expr} (h : parNs N sc line (i :: is) (.Name x p :: es) = true) : N[i]? = some x ∧ sc.names.lookup x = some .local ∧ (p.line == line) = true ∧ parNs N sc line is es = true := by
  unfold parNs at h
  simp only [Bool.and_eq_true, decide_eq_true_eq] at h
  obtain ⟨⟨⟨h1, h2⟩, h3⟩, h4⟩ := h
  refine ⟨h1, ?_, h3, h4⟩
  split at h2
  · assumption
  · cases h2
theorem nodup_inj : ∀ {N : List Str} {i j : Nat} {x : Str}, N.Nodup → N[i]? = some x → N[j]? = some x → i = j
  | [], i, j, x, _, h, _ => by simp at h
  | a :: N, 0, 0, x, _, _, _ => rfl
  | a :: N, 0, j + 1, x, nd, h, k => by
    simp at h k
    subst h
    exact absurd (List.mem_iff_getElem?.mpr ⟨j, k⟩) (List.nodup_cons.mp nd).1
  | a :: N, i + 1, 0, x, nd, h, k => by
    simp at h k
    subst k
    exact absurd (List.mem_iff_getElem?.mpr ⟨i, h⟩) (List.nodup_cons.mp nd).1
  | a :: N, i + 1, j + 1, x, nd, h, k => by
    simp at h k
    rw [nodup_inj (List.nodup_cons.mp nd).2 h k]
theorem nodup_ne {N : List Str} {i j : Nat} {x y : Str} (hi : N[i]? = some x) (hj : N[j]? = some y) (h : i ≠ j) (nd : N.Nodup) : x ≠ y := by
  intro e
  subst e
  obtain ⟨a, b⟩ := List.getElem?_eq_some_iff.mp hi
  obtain ⟨c, d⟩ := List.getElem?_eq_some_iff.mp hj
  exact h (nodup_inj nd hi hj)
theorem blockK {X : Cx} (hs : Sc X sc) (h : funB sc = true) : X.env.blockKind = .function := by
  unfold funB at h
  subst hs
  unfold Env.blockKind
  split at h
  · rename_i e; rw [e]; rfl
  · cases h
theorem par2_ps (hq : ql = true) (hav : Avs S0 avf avc avi) (hy : Hy g S0 xc G avc avg N kk ql X W) (hs : Sc X sc) {i j : Nat} {x y : Str} {p q tp pos : Pos} {k k2 : Nat} {vp : Pos} {a b : Expr} {ts : Ts}
    (h0 : funB sc = true) (h1 : parNs N sc p.line [i, j] [.Name x p, .Name y q] = true) (hnd : [i, j].Nodup) (h2 : ([a, b].all (foldedForSure 8)) = false) (h3 : ([a, b].all (constantsAlone 8)) = false) (h4 : lks g avf avc avg avi N ql sc ts [a, b] = true) :
    PS X (.Assign [.Tuple [.Name x p, .Name y q] k tp] (.Tuple [a, b] k2 vp) pos) (tPar i j (RDA S0 xc G W ts)) := by
  obtain ⟨n1, l1, e1, h1⟩ := parNs_cons h1
  obtain ⟨n2, l2, e2, _⟩ := parNs_cons h1
  have ij : i ≠ j := by simp only [List.nodup_cons, List.mem_singleton] at hnd; exact hnd.1
  have xy : x ≠ y := nodup_ne n1 n2 ij hy.nd
  have bk := blockK hs h0
  have kx : X.env.kindOf x = some .local := by subst hs; exact l1
  have ky : X.env.kindOf y = some .local := by subst hs; exact l2
  have stars := lks_star h4
  refine ps_par (hy.calm hq) (by rw [hy.hN]; exact hy.nd) (by rw [hy.hN]; exact n1) (by rw [hy.hN]; exact n2) ij (by subst hs; exact l1) (by subst hs; exact l2) (ok_a hav ts hy hs h4) ?_
  unfold swappedStores
  have f : ∀ e : Expr, starB e = false → (match e with | .Starred .. => true | _ => false) = false := fun e h => by cases e <;> first | rfl | cases h
  simp only [List.all_cons, List.all_nil, Bool.and_true, Bool.and_eq_true, Bool.not_eq_true'] at stars
  have fa := f a stars.1
  have fb := f b stars.2
  have hq : q.line = p.line := by simpa using e2
  have yx : (y == x) = false := beq_eq_false_iff_ne.mpr (Ne.symm xy)
  have ed : [x, y].eraseDups.length = 2 := by
    simp [List.eraseDups_cons, List.filter, yx]
  simp [bk, kx, ky, hq, h2, h3, Expr.pos, ed]
  intro z
  rcases z with z | z
  · exact Bool.noConfusion (fa.symm.trans z)
  · exact Bool.noConfusion (fb.symm.trans z)
theorem par3_ps (hq : ql = true) (hav : Avs S0 avf avc avi) (hy : Hy g S0 xc G avc avg N kk ql X W) (hs : Sc X sc) {i j l : Nat} {x y w : Str} {p q r tp pos : Pos} {k k2 : Nat} {vp : Pos} {a b c : Expr} {ts : Ts}
    (h0 : funB sc = true) (h1 : parNs N sc p.line [i, j, l] [.Name x p, .Name y q, .Name w r] = true) (hnd : [i, j, l].Nodup) (h2 : ([a, b, c].all (foldedForSure 8)) = false) (h3 : ([a, b, c].all (constantsAlone 8)) = false) (h4 : lks g avf avc avg avi N ql sc ts [a, b, c] = true) :
    PS X (.Assign [.Tuple [.Name x p, .Name y q, .Name w r] k tp] (.Tuple [a, b, c] k2 vp) pos) (tPar3 i j l (RDA S0 xc G W ts)) := by
  obtain ⟨n1, l1, e1, h1⟩ := parNs_cons h1
  obtain ⟨n2, l2, e2, h1⟩ := parNs_cons h1
  obtain ⟨n3, l3, e3, _⟩ := parNs_cons h1
  simp only [List.nodup_cons, List.mem_cons, List.mem_singleton, List.not_mem_nil, or_false, not_or] at hnd
  obtain ⟨⟨ij, il⟩, jl, _⟩ := hnd
  have xy : x ≠ y := nodup_ne n1 n2 ij hy.nd
  have xw : x ≠ w := nodup_ne n1 n3 il hy.nd
  have yw : y ≠ w := nodup_ne n2 n3 jl hy.nd
  have bk := blockK hs h0
  have kx : X.env.kindOf x = some .local := by subst hs; exact l1
  have ky : X.env.kindOf y = some .local := by subst hs; exact l2
  have kw : X.env.kindOf w = some .local := by subst hs; exact l3
  have stars := lks_star h4
  refine ps_par3 (hy.calm hq) (by rw [hy.hN]; exact hy.nd) (by rw [hy.hN]; exact n1) (by rw [hy.hN]; exact n2) (by rw [hy.hN]; exact n3) ij il jl (by subst hs; exact l1) (by subst hs; exact l2) (by subst hs; exact l3) (ok_a hav ts hy hs h4) ?_
  unfold swappedStores
  have f : ∀ e : Expr, starB e = false → (match e with | .Starred .. => true | _ => false) = false := fun e h => by cases e <;> first | rfl | cases h
  simp only [List.all_cons, List.all_nil, Bool.and_true, Bool.and_eq_true, Bool.not_eq_true'] at stars
  have fa := f a stars.1
  have fb := f b stars.2.1
  have fc := f c stars.2.2
  have hq : q.line = p.line := by simpa using e2
  have hr : r.line = p.line := by simpa using e3
  have yx : (y == x) = false := beq_eq_false_iff_ne.mpr (Ne.symm xy)
  have wx : (w == x) = false := beq_eq_false_iff_ne.mpr (Ne.symm xw)
  have wy : (w == y) = false := beq_eq_false_iff_ne.mpr (Ne.symm yw)
  have ed : [x, y, w].eraseDups.length = 3 := by
    simp [List.eraseDups_cons, List.filter, yx, wx, wy]
  simp [bk, kx, ky, kw, hq, hr, h2, h3, Expr.pos, ed]
  intro z
  rcases z with z | z | z
  · exact Bool.noConfusion (fa.symm.trans z)
  · exact Bool.noConfusion (fb.symm.trans z)
  · exact Bool.noConfusion (fc.symm.trans z)
/-- raise C('..') -/
theorem rs0_ps {c : Nat} {x m : Str} {j : Nat} {p p2 pos pos' : Pos} (hq : ql = true) (hy : Hy g S0 xc G avc avg N kk ql X W) (hs : Sc X sc) (hx : g.cnm c = x) (hg : Gl X x) (hdb : (x == ("__debug__" : Str)) = false) : PS X (.Raise (some (.Call (.Name x p) [.Constant (.str m) j p2] [] pos)) none pos') (RS S0 xc G W (.rs0 c)) := by
  by_cases h0 : S0.xar c = some 0
  · obtain ⟨C, ns, h1, h2, h3, h4, _⟩ := hy.xks c 0 h0
    have pl := h4 rfl
    rw [hx] at h3
    refine (L2N.ps_raise (hy.calm hq) hy.tk (L2N.pmk_own PySem.F.excBase_ValueError pl.ex h3 pl.kp (raises_own pl.sb pl.ty) hg hdb)).imp fun D σ H ⟨Y, φ, μ, ε, mt, p⟩ => ?_
    have p : PR xc (G.wx Y) W D φ μ H (match S0.xar c with | some 0 => .ex ⟨c, []⟩ ε μ | _ => .bad) := p
    rw [h0] at p
    refine p (.ref C) none σ H φ Ex.refl mt ⟨C, ns, h1, rfl, .inl ⟨?_, rfl, rfl⟩⟩
    exact List.length_eq_zero_iff.mp h2
  · refine ⟨fun pins s σ H D I ⟨Y, φ, μ, ε, mt, p⟩ => ?_⟩
    have p : PR xc (G.wx Y) W D φ μ H (match S0.xar c with | some 0 => .ex ⟨c, []⟩ ε μ | _ => .bad) := p
    split at p
    · exact absurd ‹_› h0
    · exact p.elim
/-- raise C(e, ..) -/
theorem rse_ps {c : Nat} {x : Str} {e : Expr} {es : List Expr} {as : Ts} {p pos pos' : Pos} (hq : ql = true) (hav : Avs S0 avf avc avi) (hy : Hy g S0 xc G avc avg N kk ql X W) (hs : Sc X sc) (hx : g.cnm c = x) (hg : Gl X x) (hdb : (x == ("__debug__" : Str)) = false) (h : lks g avf avc avg avi N ql sc as (e :: es) = true) : PS X (.Raise (some (.Call (.Name x p) (e :: es) [] pos)) none pos') (RS S0 xc G W (.rse c as)) := by
  by_cases h0 : ∃ n, S0.xar c = some (n + 1)
  · obtain ⟨n, h0⟩ := h0
    obtain ⟨C, ns, h1, h2, h3, _, h5⟩ := hy.xks c (n + 1) h0
    obtain ⟨f, fd, ps, T, iC, tI, hb, F⟩ := h5 (by omega)
    rw [hx] at h3
    have st := lks_star h
    rw [List.all_cons, Bool.and_eq_true] at st
    have st1 : starB e = false := by simpa using st.1
    refine (L2N.ps_raise (hy.calm hq) hy.tk (pmk_oexN (dvs := []) (ds := []) T iC tI F (hy.room hq) hb .nil (fun pins σ H s e s' I x => False.elim (by
      obtain ⟨_, _, _, _, _, _, _, _, _, _, _, _, z⟩ := x
      exact z)) hg h3 (ok_a hav as hy hs h) hdb (star_cons st1) (star_any st.2))).imp fun D σ H ⟨Y, φ, μ, ε, mt, p⟩ => ?_
    have p : PR xc (G.wx Y) W D φ μ H (match S0.xar c with
      | some (n + 1) => (evs S0 as ε μ).thenO ε fun xs => if decide (xs.1.length = n + 1) && decide (n < 900) then .ex ⟨c, xs.1.reverse⟩ ε xs.2 else .bad
      | _ => .bad) := p
    rw [h0] at p
    simp only at p
    refine ⟨Y, φ, μ, ε, mt, px_mono (p.px mt) fun xs px vs H1 φ1 e1 m1 rs => ?_⟩
    split at px
    · rename_i hl
      simp only [Bool.and_eq_true, decide_eq_true_eq] at hl
      have hlen := rs.length
      refine ⟨by omega, fun a ha => ⟨a, vs, by simp, upd_same, by omega, fun d H' hd off he hdd => ⟨rfl, d, _, he, hdd, ?_, ?_⟩⟩⟩
      · by_cases z : d = a
        · subst z; exact ha
        · rw [upd_ne z] at hd; exact hd
      · have hd1 : H1 d = none := by
          by_cases z : d = a
          · subst z; exact ha
          · rw [upd_ne z] at hd; exact hd
        have sm : Same H1 (upd (del H' a) d (.xd (ns.zip vs.reverse))) := fun b o q => by
          have ba : b ≠ a := ne_of_none q ha
          have bd : b ≠ d := ne_of_none q hd1
          rw [upd_ne bd, del_ne ba]
          exact off b o ba (by rw [upd_ne ba]; exact q)
        refine px (.ref C) (some d) σ _ φ1 (e1.trans (Ex.same sm)) (mt.ex (e1.trans (Ex.same sm)) (m1.same sm)) ⟨C, ns, h1, rfl, .inr ⟨fun z => by subst z; simp at h2, d, vs.reverse, rfl, upd_same, by rw [List.length_reverse]; omega, ?_⟩⟩
        exact (Rps.mono sm (fun _ _ _ z => z) _ _ rs).reverse
    · exact px.elim
  · refine ⟨fun pins s σ H D I ⟨Y, φ, μ, ε, mt, p⟩ => ?_⟩
    have p : PR xc (G.wx Y) W D φ μ H (match S0.xar c with
      | some (n + 1) => (evs S0 as ε μ).thenO ε fun xs => if decide (xs.1.length = n + 1) && decide (n < 900) then .ex ⟨c, xs.1.reverse⟩ ε xs.2 else .bad
      | _ => .bad) := p
    split at p
    · exact absurd ⟨_, ‹_›⟩ h0
    · exact p.elim
theorem Hy.tr (hy : Hy g S0 xc G avc avg N kk ql X W) {W' : WX} {pn : List (Addr × Obj)} {xe : Value → Shared → Prop} (tk : L2N.Takes (X.tr pn xe) W') (hq : ql = true) : Hy g S0 xc G avc avg N kk ql (X.tr pn xe) W' :=
  { hN := hy.hN, nd := hy.nd, hK := hy.hK, calm := hy.calm, room := hy.room, cool := hy.cool, lch := hy.lch, un := hy.un, rmh := hy.rmh, cold := fun z => absurd (hq.symm.trans z) (by decide), tk := tk, hxc := hy.hxc, hhs := hy.hhs, hnd := hy.hnd, xfs := hy.xfs, isx := hy.isx, isw := hy.isw, hts := hy.hts, blt := hy.blt, glo := hy.glo, fns := hy.fns, cls := hy.cls, mts := hy.mts, ubs := hy.ubs, mks := hy.mks, isn := hy.isn, isi := hy.isi, xks := hy.xks }
theorem Hs.tr (h : Hs X) {pn : List (Addr × Obj)} {xe : Value → Shared → Prop} (p : PassesOwn (model X.prog X.w) X.A X.env xe) : Hs (X.tr pn xe) := ⟨p, h.fn, h.stk, h.frm, h.nex⟩
theorem Hy.suite (hy : Hy g S0 xc G avc avg N kk ql X W) {a : Addr} {pn : List (Addr × Obj)} : Hy g S0 xc (G.ht a) avc avg N kk false (X.suite a pn) (fun _ _ _ _ => False) :=
  { hN := hy.hN, nd := hy.nd, hK := hy.hK, calm := fun z => Bool.noConfusion z, room := fun z => Bool.noConfusion z, cool := fun z => Bool.noConfusion z, lch := fun _ _ => ⟨a, rfl, rfl⟩, un := hy.un, rmh := ⟨hy.rmh.dp, hy.rmh.un⟩, cold := fun _ _ _ _ _ z => z, tk := takesN0, hxc := hy.hxc, hhs := hy.hhs, hnd := hy.hnd, xfs := hy.xfs, isx := hy.isx, isw := hy.isw, hts := hy.hts, blt := hy.blt, glo := hy.glo, fns := hy.fns, cls := hy.cls, mts := hy.mts, ubs := hy.ubs, mks := hy.mks, isn := hy.isn, isi := hy.isi, xks := hy.xks }
theorem Hs.suite (h : Hs X) {a : Addr} {pn : List (Addr × Obj)} : Hs (X.suite a pn) := ⟨PassesOwn.never, h.fn, h.stk, h.frm, h.nex⟩
mutual
theorem ok_s (hav : Avs S0 avf avc avi) : ∀ (s : S) {G : Gc} {ql : Bool} {X : Cx} {W : WX} {sc : Scope} {st : Stmt}, Hy g S0 xc G avc avg N kk ql X W → Hs X → Sc X sc → lkS g avf avc avg avi N ql sc s st = true → PS X st (RS S0 xc G W s)
  | .no, G, ql, X, W, sc, st, hy, h2, hs, h => by
    refine ⟨fun pins s σ H D I ⟨Y, φ, μ, ε, mt, p⟩ => ?_⟩
    exact (show False from p).elim
  | .pass, G, ql, X, W, sc, st, hy, h2, hs, h => by
    unfold lkS at h
    split at h <;> try cases h
    exact ps_pass.imp fun D σ H q => pass_imp q
  | .brk, G, ql, X, W, sc, st, hy, h2, hs, h => by
    unfold lkS at h
    split at h <;> try cases h
    exact ps_break.imp fun D σ H q => brk_imp q
  | .cnt, G, ql, X, W, sc, st, hy, h2, hs, h => by
    unfold lkS at h
    split at h <;> try cases h
    exact ps_continue.imp fun D σ H q => cnt_imp q
  | .retN, G, ql, X, W, sc, st, hy, h2, hs, h => by
    unfold lkS at h
    split at h <;> try cases h
    exact ps_retN.imp fun D σ H q => retN_imp q
  | .dem is, G, ql, X, W, sc, st, hy, h2, hs, h => by
    unfold lkS at h
    cases h
  | .asg (.nm i) t, G, ql, X, W, sc, st, hy, h2, hs, h => by
    unfold lkS at h
    simp only at h
    split at h <;> try cases h
    simp only [Bool.and_eq_true, decide_eq_true_eq, Bool.not_eq_true'] at h
    obtain ⟨⟨⟨⟨k1, k2⟩, k3⟩, k4⟩, k5⟩ := h
    obtain ⟨te, r1, r2⟩ := name_set hav hy h2 hs k1 k2 (fun hc => by rw [hc] at k5; cases ql <;> first | rfl | cases k5) k3 k4
    refine r1.imp fun D σ H q => ?_
    exact r2 _ _ _ (asg_imp (tg := .nm _) hy.hK q)
  | .asg (.tp is) t, G, ql, X, W, sc, st, hy, h2, hs, h => by
    unfold lkS at h
    simp only at h
    split at h <;> try cases h
    simp only [Bool.and_eq_true, decide_eq_true_eq, Bool.not_eq_true'] at h
    obtain ⟨⟨⟨⟨hq, k1⟩, k2⟩, k3⟩, k4⟩ := h
    rename_i es k p e pos
    refine (ps_asg (ok_t hav t hy hs k2).1 (pg_tg (tg := .tp is) (e := .Tuple es k p) hy.hN hy.nd (hy.calm hq) (st := locB sc) (fun x hx => ⟨by rw [hs]; exact locB_inv hx, .inl (h2.fn x)⟩) k1) swSole_tup (swStores_tup k4) rfl).imp fun D σ H q => asg_imp hy.hK q
  | .par is ts, G, ql, X, W, sc, st, hy, h2, hs, h => by
    unfold lkS at h
    split at h
    · simp only [Bool.and_eq_true, decide_eq_true_eq, Bool.not_eq_true'] at h
      obtain ⟨⟨⟨⟨⟨⟨hq, k0⟩, k1⟩, k2⟩, k3⟩, k4⟩, k5⟩ := h
      match is, k1, k2 with
      | [i, j], k1, k2 => exact (par2_ps hq hav hy hs k0 k1 k2 k3 k4 k5).imp fun D σ H q => par2_imp q
      | [], k1, _ => simp [parNs] at k1
      | [i], k1, _ => simp [parNs] at k1
      | i :: j :: l :: r, k1, _ => simp [parNs] at k1
    · simp only [Bool.and_eq_true, decide_eq_true_eq, Bool.not_eq_true'] at h
      obtain ⟨⟨⟨⟨⟨⟨hq, k0⟩, k1⟩, k2⟩, k3⟩, k4⟩, k5⟩ := h
      match is, k1, k2 with
      | [i, j, l], k1, k2 => exact (par3_ps hq hav hy hs k0 k1 k2 k3 k4 k5).imp fun D σ H q => par3_imp q
      | [], k1, _ => simp [parNs] at k1
      | [i], k1, _ => simp [parNs] at k1
      | [i, j], k1, _ => simp [parNs] at k1
      | i :: j :: l :: m :: r, k1, _ => simp [parNs] at k1
    · cases h
  | .app o t, G, ql, X, W, sc, st, hy, h2, hs, h => by
    unfold lkS at h
    split at h <;> try cases h
    split at h <;> try cases h
    rename_i e pos oe m a hc
    obtain ⟨ap, cp, rfl, hl⟩ := callM_inv hc
    simp only [Bool.and_eq_true, decide_eq_true_eq] at h
    obtain ⟨⟨⟨k0, k1⟩, k2⟩, k4⟩ := h
    subst k0
    exact (ps_expr (meth1 PySem.F.slot_list_append PySem.F.type_list_append mt_append hav hy hs k1 k2 hl k4) (sw_none rfl)).imp fun D σ H q => app_imp q
  | .ext o t, G, ql, X, W, sc, st, hy, h2, hs, h => by
    unfold lkS at h
    split at h <;> try cases h
    split at h <;> try cases h
    rename_i e pos oe m a hc
    obtain ⟨ap, cp, rfl, hl⟩ := callM_inv hc
    simp only [Bool.and_eq_true, decide_eq_true_eq] at h
    obtain ⟨⟨⟨k0, k1⟩, k2⟩, k4⟩ := h
    subst k0
    exact (ps_expr (meth1 PySem.F.slot_list_extend PySem.F.type_list_extend (by rw [← hy.hK]; exact mt_extendR) hav hy hs k1 k2 hl k4) (sw_none rfl)).imp fun D σ H q => ext_imp q
  | .clr o, G, ql, X, W, sc, st, hy, h2, hs, h => by
    unfold lkS at h
    split at h <;> try cases h
    split at h <;> try cases h
    rename_i e pos oe m hc
    obtain ⟨ap, cp, rfl, hl⟩ := callM_inv hc
    simp only [Bool.and_eq_true, decide_eq_true_eq] at h
    obtain ⟨⟨k0, k1⟩, k2⟩ := h
    subst k0
    exact (ps_expr (meth0 PySem.F.slot_list_clear PySem.F.type_list_clear mt_clear hav hy hs k1 k2 hl) (sw_none rfl)).imp fun D σ H q => clr_imp q
  | .dlp o, G, ql, X, W, sc, st, hy, h2, hs, h => by
    unfold lkS at h
    split at h <;> try cases h
    split at h <;> try cases h
    rename_i e pos oe m hc
    obtain ⟨ap, cp, rfl, hl⟩ := callM_inv hc
    simp only [Bool.and_eq_true, decide_eq_true_eq] at h
    obtain ⟨⟨k0, k1⟩, k2⟩ := h
    subst k0
    exact (ps_expr (meth0 PySem.F.slot_list_pop PySem.F.type_list_pop mt_pop hav hy hs k1 k2 hl) (sw_none rfl)).imp fun D σ H q => dlp_imp q
  | .rev o, G, ql, X, W, sc, st, hy, h2, hs, h => by
    unfold lkS at h
    split at h <;> try cases h
    split at h <;> try cases h
    rename_i e pos oe m hc
    obtain ⟨ap, cp, rfl, hl⟩ := callM_inv hc
    simp only [Bool.and_eq_true, decide_eq_true_eq] at h
    obtain ⟨⟨k0, k1⟩, k2⟩ := h
    subst k0
    exact (ps_expr (meth0 PySem.F.slot_list_reverse PySem.F.type_list_reverse mt_reverse hav hy hs k1 k2 hl) (sw_none rfl)).imp fun D σ H q => rev_imp q
  | .put o k t, G, ql, X, W, sc, st, hy, h2, hs, h => by
    unfold lkS at h
    split at h <;> try cases h
    rename_i oe ke sp e pos
    simp only [Bool.and_eq_true, decide_eq_true_eq] at h
    obtain ⟨⟨k1, k4⟩, k5⟩ := h
    have pl := lk_plain k4
    refine (ps_asg (ok_t hav t hy hs k5).1 (pg_sub (ok_t hav o hy hs k1).1 (ok_t hav k hy hs k4).1 set_list (fun v => ?_)) swSole_sub swStores_sub rfl).imp fun D σ H q => put_imp q
    cases ke <;> first | rfl | cases pl
  | .dpu o k t, G, ql, X, W, sc, st, hy, h2, hs, h => by
    unfold lkS at h
    split at h <;> try cases h
    rename_i oe ke sp e pos
    simp only [Bool.and_eq_true, decide_eq_true_eq] at h
    obtain ⟨⟨k1, k4⟩, k5⟩ := h
    have pl := lk_plain k4
    refine (ps_asg (ok_t hav t hy hs k5).1 (pg_sub (ok_t hav o hy hs k1).1 (ok_t hav k hy hs k4).1 (set_dict hy.un) (fun v => ?_)) swSole_sub swStores_sub rfl).imp fun D σ H q => dput_imp hy q
    cases ke <;> first | rfl | cases pl
  | .fld o f t, G, ql, X, W, sc, st, hy, h2, hs, h => by
    unfold lkS at h
    split at h <;> try cases h
    simp only [Bool.and_eq_true, decide_eq_true_eq] at h
    obtain ⟨⟨k1, k4⟩, k5⟩ := h
    subst k1
    rename_i oe p e pos
    refine (show PS X (.Assign [.Attribute oe (g.anm f) p] e pos) (sFld G.K (RD S0 xc G W o) (RD S0 xc G W t) (g.anm f)) from ?_).imp fun D σ H q => fld_imp (by rw [← hy.hK]; exact hy.cls) q
    rw [← hy.hK]
    exact ps_fld (ok_t hav o hy hs k4).1 (ok_t hav t hy hs k5).1 sw_att
  | .rs0 c, G, ql, X, W, sc, st, hy, h2, hs, h => by
    unfold lkS at h
    split at h <;> try cases h
    simp only [Bool.and_eq_true, decide_eq_true_eq] at h
    obtain ⟨⟨⟨hq, k1⟩, k2⟩, k3⟩ := h
    exact rs0_ps hq hy hs k1 (glB_inv hs k2) (okNm_inv k3).1
  | .rse c as, G, ql, X, W, sc, st, hy, h2, hs, h => by
    unfold lkS at h
    split at h <;> try cases h
    simp only [Bool.and_eq_true, decide_eq_true_eq] at h
    obtain ⟨⟨⟨⟨hq, k1⟩, k2⟩, k3⟩, k4⟩ := h
    exact rse_ps hq hav hy hs k1 (glB_inv hs k2) (okNm_inv k3).1 k4
  | .inc i t, G, ql, X, W, sc, st, hy, h2, hs, h => by
    unfold lkS at h
    split at h <;> try cases h
    simp only [Bool.and_eq_true, decide_eq_true_eq] at h
    obtain ⟨⟨k1, k2⟩, k3⟩ := h
    exact (ps_aug (by rw [hy.hN]; exact hy.nd) (by rw [hy.hN]; exact k1) (by rw [hs]; exact locB_inv k2) (ok_t hav t hy hs k3).1 ip_add (.inl (h2.fn _))).imp fun D σ H q => inc_imp q
  | .exp t, G, ql, X, W, sc, st, hy, h2, hs, h => by
    unfold lkS at h
    split at h <;> try cases h
    simp only [Bool.and_eq_true, Bool.not_eq_true'] at h
    exact (ps_expr (ok_t hav t hy hs h.1).1 (sw_none h.2)).imp fun D σ H q => exp_imp q
  | .ret t, G, ql, X, W, sc, st, hy, h2, hs, h => by
    unfold lkS at h
    split at h <;> try cases h
    exact (ps_ret (ok_t hav t hy hs h).1).imp fun D σ H q => ret_imp q
  | .ite c a b, G, ql, X, W, sc, st, hy, h2, hs, h => by
    unfold lkS at h
    split at h <;> try cases h
    simp only [Bool.and_eq_true] at h
    obtain ⟨⟨⟨k0, k1⟩, k2⟩, k3⟩ := h
    exact (ps_if ((ok_t hav c hy hs k1).2 k0) (ok_b hav a hy h2 hs k2) (ok_b hav b hy h2 hs k3)).imp fun D σ H q => ite_imp q
  | .whl c a, G, ql, X, W, sc, st, hy, h2, hs, h => by
    unfold lkS at h
    split at h <;> try cases h
    simp only [Bool.and_eq_true] at h
    obtain ⟨⟨k0, k1⟩, k2⟩ := h
    exact (ps_while h2.pass ((ok_t hav c hy hs k1).2 k0) (ok_b hav a hy h2 hs k2)).imp fun D σ H q => whl_imp q
  | .for_ tg it a, G, ql, X, W, sc, st, hy, h2, hs, h => by
    unfold lkS at h
    split at h <;> try cases h
    simp only [Bool.and_eq_true, Bool.not_eq_true'] at h
    obtain ⟨⟨⟨⟨hq, k0⟩, k1⟩, k2⟩, k3⟩ := h
    exact (ps_for h2.pass (hy.calm hq) (ok_i hav it hy hs k2) (pg_tg hy.hN hy.nd (hy.calm hq) (st := locB sc) (fun x hx => ⟨by rw [hs]; exact locB_inv hx, .inl (h2.fn x)⟩) k0) (ok_b hav a hy h2 hs k3) (foldedO k1)).imp fun D σ H q => for_imp hy.hK q
  | .tr b h e, G, ql, X, W, sc, st, hy, h2, hs, hl => by
    unfold lkS at hl
    split at hl <;> try cases hl
    simp only [Bool.and_eq_true] at hl
    obtain ⟨⟨⟨hq, k1⟩, k2⟩, k3⟩ := hl
    obtain ⟨l, q1, q2⟩ := ok_h hav h hy h2 hs k2
    have hN : X.N.Nodup := by rw [hy.hN]; exact hy.nd
    refine (ps_tryG h2.stk h2.frm h2.nex hN hy.tk (tb := fun W => RSB S0 xc G W b) (fun W' pn xe tk' pa => ok_b hav b (hy.tr tk' hq) (h2.tr pa) hs k1) q1 (ok_b hav e hy h2 hs k3)).imp fun D σ H q => tr_imp (hy.cool hq) hy q2 q
theorem ok_b (hav : Avs S0 avf avc avi) : ∀ (b : B) {G : Gc} {ql : Bool} {X : Cx} {W : WX} {sc : Scope} {sts : List Stmt}, Hy g S0 xc G avc avg N kk ql X W → Hs X → Sc X sc → lkB g avf avc avg avi N ql sc b sts = true → PSs X sts (RSB S0 xc G W b)
  | .nil, G, ql, X, W, sc, sts, hy, h2, hs, h => by
    unfold lkB at h
    split at h <;> try cases h
    exact pss_nil.imp fun D σ H ⟨Y, φ, μ, ε, m, p⟩ => p σ H φ Ex.refl m
  | .cons s r, G, ql, X, W, sc, sts, hy, h2, hs, h => by
    unfold lkB at h
    split at h
    · exact (ok_b hav r hy h2 hs h).imp fun D σ H q => dem_imp q
    · split at h
      · rw [Bool.and_eq_true] at h
        exact (pss_cons (ok_s hav s hy h2 hs h.1) (ok_b hav r hy h2 hs h.2)).imp fun D σ H q => seq_imp q
      · cases h
theorem ok_h (hav : Avs S0 avf avc avi) : ∀ (h : Hl) {G : Gc} {ql : Bool} {X : Cx} {W : WX} {sc : Scope} {hds : List ExceptHandler}, Hy g S0 xc G avc avg N kk ql X W → Hs X → Sc X sc → lkH g avf avc avg avi N sc h hds = true → ∃ l, HdG X hds l ∧ HlL S0 xc G g X h l
  | .nil, G, ql, X, W, sc, hds, hy, h2, hs, h => by
    unfold lkH at h
    split at h <;> try cases h
    exact ⟨[], .nil, .nil⟩
  | .cons c nm a r, G, ql, X, W, sc, hds, hy, h2, hs, h => by
    unfold lkH at h
    split at h <;> try cases h
    simp only [Bool.and_eq_true, decide_eq_true_eq] at h
    obtain ⟨⟨⟨⟨⟨⟨h1, h3⟩, h4⟩, h5⟩, h6⟩, h7⟩, h8⟩ := h
    subst h3
    obtain ⟨C, hC⟩ := hy.hnd c h1
    obtain ⟨l, q1, q2⟩ := ok_h hav r hy h2 hs h8
    refine ⟨_, .cons ⟨glB_inv hs h4, (okNm_inv h5).1, .inl hC⟩ ?_ (fun A pn => ok_b hav a (hy.suite (a := A) (pn := pn)) h2.suite hs h7) q1, .cons hC q2⟩
    rename_i no _ _ _ _
    cases nm with
    | none =>
      cases no with
      | none => trivial
      | some y => cases h6
    | some i =>
      cases no with
      | none => cases h6
      | some y =>
        unfold hnB at h6
        simp only [Bool.and_eq_true, decide_eq_true_eq] at h6
        refine ⟨by rw [hy.hN]; exact h6.1, ?_⟩
        have h7 := h6.2
        split at h7
        · subst hs; assumption
        · cases h7
end
end
end DM
set_option Elab.async false
set_option linter.all false
set_option maxRecDepth 100000
set_option maxHeartbeats 4000000
namespace DM
open PySem L2 PySem.Spec PyProof.Rows
structure Df where
  ps : Nat
  ns : Nat
  body : B
def ev0 (n : Nat) (ds : List D) : Ev := ds.map some ++ List.replicate (n - ds.length) none
def O.out : O → Rd0
  | .rt d μ => .ok (d, μ)
  | .nx _ μ => .ok (.non, μ)
  | .ex x _ μ => .ex x μ
  | _ => .bad
def callB (S : Mn) (f : Df) (ds : List D) (μ : Mem) : Rd0 := if ds.length = f.ps then (runB S f.body (ev0 f.ns ds) μ).out else .bad
/-- what the defs of a text may lean on -/
structure En (g : Sg) (S : Mn) (xc : Xc) (cl : Cls0) (avc avg : Nat → Bool) (P : Program) (w : World) (K : PySem.W.Frag) (mg : Str → Option Value) (base : Heap) (k : Nat) : Prop where
  hxc : cl.x = xc
  hhs : cl.hs = fun k => k.hash w
  hnd : ∀ c, g.hnd c = true → ∃ C, mg (g.cnm c) = some (.ref C)
  xfs : ∀ c C ns, xc c = some (C, ns) → S.fl c ≠ [] → ns = (S.fl c).map g.anm ∧ ns.Nodup ∧ XfC K C ∧ ∀ x ∈ ns, PySem.W.findIn K (.ref C) x = some none
  isx : ∀ c c' b C' ns, S.isk (some c') c = some b → xc c' = some (C', ns) → ExcC K C' ∧ ∃ C, mg (g.cnm c) = some (.ref C) ∧ PySem.W.kitOne K (.ref C') (.ref C) = some b ∧ PySem.W.exmOne K (.ref C') (.ref C) = some b
  isw : ∀ c' b C' ns, S.isv c' = some b → xc c' = some (C', ns) → ExcC K C' ∧ PySem.W.kitOne K (.ref C') (.type "ValueError") = some b
  hts : ∀ n, g.hot n = true → S.av n = true → ∃ f fd ps, mg (g.nm n) = some (.ref f) ∧ PySem.W.keepIn K (.ref f) = true ∧ Dfl K fd ps (S.ar n) (S.dv n) ∧ FnC P w K mg base k f fd ps (spD xc cl K (S.ar n) (S.fn n))
  blt : ∀ x ∈ bltN, mg x = none
  glo : ∀ n, avg n = true → ∃ v u, mg (g.gnm n) = some u ∧ RelV v u ∧ ∀ φ H Y, Rp cl K φ H Y v (S.gl n)
  fns : ∀ n, S.av n = true → S.fnd n = true → ∃ f fd ps, mg (g.nm n) = some (.ref f) ∧ PySem.W.keepIn K (.ref f) = true ∧ Dfl K fd ps (S.ar n) (S.dv n) ∧ FnOk P w K mg base (L2N.CX P w) k f fd ps (spD xc cl K (S.ar n) (S.fn n))
  cls : ∀ c C ns, cl c = some (C, ns) → L2.Cls K C ∧ ns = (S.fl c).map g.anm ∧ ns.Nodup ∧ ns.length < 1000 ∧ (∀ x ∈ ns, NoAttr K C x)
  mts : ∀ c m n C ns, S.mt c m = some n → S.av n = true → cl c = some (C, ns) → ∃ f fd ps, Meth K C (g.mnm m) f ∧ Dfl K fd ps (S.ar n) (S.dv n) ∧ g.mnm m ∉ ns ∧ FnOk P w K mg base (L2N.CX P w) k f fd ps (spD xc cl K (S.ar n) (S.fn n))
  ubs : ∀ c m n, S.unb c m = some n → S.av n = true → ∃ C mc f fd ps, mg (g.cnm c) = some (.ref C) ∧ ClX.CRead K C mc ∧ ClX.CVal K C mc (g.mnm m) (.ref f) (.ref f) ∧ PySem.W.keepIn K (.ref f) = true ∧ Dfl K fd ps (S.ar n) (S.dv n) ∧ FnOk P w K mg base (L2N.CX P w) k f fd ps (spD xc cl K (S.ar n) (S.fn n))
  mks : ∀ c n, avc c = true → S.ini c = some n → S.av n = true → ∃ C ns f fd ps, cl c = some (C, ns) ∧ mg (g.cnm c) = some (.ref C) ∧ (Mk K C f ∧ Kws g S.kwp K c fd ps (S.dv n)) ∧ Dfl K fd ps (S.ar n) (S.dv n) ∧ FnOk P w K mg base (L2N.CX P w) k f fd ps (spD xc cl K (S.ar n) (S.fn n))
  isn : ∀ c b, S.isk none c = some b → ∃ C, mg (g.cnm c) = some (.ref C) ∧ ∀ T ∈ ["NoneType", "bool", "int", "str", "list", "tuple", "dict"], PySem.W.kitOne K (.type T) (.ref C) = some b
  isi : ∀ c c' b C' ns, S.isk (some c') c = some b → cl c' = some (C', ns) → InC K C' ∧ ∃ C, mg (g.cnm c) = some (.ref C) ∧ PySem.W.kitOne K (.ref C') (.ref C) = some b
  xks : ∀ c n, S.xar c = some n → ∃ C ns, xc c = some (C, ns) ∧ ns.length = n ∧ mg (g.cnm c) = some (.ref C) ∧ (n = 0 → XPl K C) ∧
    (n ≠ 0 → ∃ f fd ps, OexC K C ∧ PySem.W.findIn K (.ref C) "__init__" = some (some (.ref f)) ∧ PySem.W.typeIn K (.ref f) = some (.type "function") ∧ Binds K fd ps [] ∧ FnOk P w K mg base (L2N.CX P w) k f fd ps (spX C ns))
section
variable {g : Sg} {S : Mn} {xc : Xc} {cl : Cls0} {avf avc avg avi : Nat → Bool} {P : Program} {w : World} {K : PySem.W.Frag} {mg : Str → Option Value} {base : Heap} {k : Nat}
theorem En.hy (E : En g S xc cl avc avg P w K mg base k) {ql : Bool} {G : Gc} {N : List Str} {X : Cx} {W : WX} (h1 : G.cl = cl) (h2 : G.K = K) (hP : X.prog = P) (hw : X.w = w) (hK : X.K = K) (hm : X.mg = mg) (hb : X.base = base) (hN : X.N = N) (nd : N.Nodup) (hc : ql = true → X.calm = true) (hr : ql = true → Room (k + 1) X.A) (hco : G.hot = none) (hrh : L2H.RoomH (k + 1) X.A) (cold : ql = false → ∀ c d σ H, ¬ W c d σ H) (tk : L2N.Takes X W) (hlc : ql = false → g.lc N = false) : Hy g S xc G avc avg N k ql X W := by
  subst h1 hP hw hm hb h2
  refine { hN := hN, nd := nd, hK := hK, calm := hc, room := hr, cool := fun _ => hco, lch := fun z1 z2 => (by rw [hlc z1] at z2; cases z2), un := (by have := hrh.un; omega), rmh := hrh, cold := cold, tk := tk, hxc := E.hxc, hhs := E.hhs, hnd := E.hnd, xfs := ?_, isx := ?_, isw := ?_, hts := ?_, blt := E.blt, glo := E.glo, fns := ?_, cls := ?_, mts := ?_, ubs := ?_, mks := ?_, isn := ?_, isi := ?_, xks := ?_ }
  · rw [hK]; exact E.xfs
  · rw [hK]; exact E.isx
  · rw [hK]; exact E.isw
  · rw [hK]; exact E.hts
  · rw [hK]; exact E.fns
  · rw [hK]; exact E.cls
  · rw [hK]; exact E.mts
  · rw [hK]; exact E.ubs
  · rw [hK]; exact E.mks
  · rw [hK]; exact E.isn
  · rw [hK]; exact E.isi
  · rw [hK]; exact E.xks
theorem mt_start {G : Gc} {φ : List Addr} {μ : Mem} {H : Hp} {vs : List V} {ds : List D} {N : List Str} (m : Ms G φ μ H) (r : G.rps φ μ H vs ds) (hco : G.hot = none) : Mt G φ μ H (L2.start N vs) (ev0 N.length ds) := by
  have hl := r.length
  have key : ∀ (i : Nat) (d : D), (ev0 N.length ds)[i]? = some (some d) → ds[i]? = some d := by
    intro i d h
    unfold ev0 at h
    by_cases hi : i < ds.length
    · rw [List.getElem?_append_left (by rw [List.length_map]; exact hi), List.getElem?_map] at h
      cases e : ds[i]? with
      | none => rw [e] at h; cases h
      | some d' => rw [e] at h; cases h; rfl
    · rw [List.getElem?_append_right (by rw [List.length_map]; omega)] at h
      by_cases hj : i - (ds.map some).length < N.length - ds.length
      · rw [List.getElem?_replicate_of_lt hj] at h; cases h
      · rw [List.getElem?_eq_none (by rw [List.length_replicate]; omega)] at h; cases h
  refine ⟨m, fun i d h => ?_, ?_, fun a h => by rw [hco] at h; cases h⟩
  · obtain ⟨v, hv, rv⟩ := r.get (key i d h)
    refine ⟨v, ?_, rv⟩
    unfold L2.start
    have hi : i < vs.length := (List.getElem?_eq_some_iff.mp hv).1
    rw [List.getElem?_append_left (by rw [List.length_map]; exact hi), List.getElem?_map, hv]
    rfl
  · unfold L2.start ev0
    rw [List.length_append, List.length_append, List.length_map, List.length_map, List.length_replicate, List.length_replicate, hl]
/-- a def does what its body means -/
theorem def_ok {x qual : Str} {st : Stmt} {f : Addr} {fd : FuncData} {N ps : List Str} {d : Df} {dvs : List V} {kws : List (Str × V)} (E : En g S xc cl avc avg P w K mg base k) (hav : Avs S avf avc avi)
    (F : FunD K x qual (defArgs st) (defBody st) (defScope st) dvs kws f fd) (sc : C8.scC N ps (defScope st) = true) (hn : d.ns = N.length) (hp : d.ps = ps.length) (h : lkB g avf avc avg avi N true (defScope st) d.body (defBody st) = true) :
    FnOk P w K mg base (L2N.CX P w) (k + 2) f fd ps (spD xc cl K d.ps (callB S d)) := by
  have SC := C8.fnScope_by sc
  refine F.ok SC (fun vs H Q E0 h => ?_) (fun cdv A outer s H vs Q E0 hr hsp => ?_)
  · obtain ⟨X, φ, μ, ds, h1, _⟩ := h
    rw [h1, hp]
  · obtain ⟨X, φ, μ, ds, h1, ms, hds, ho⟩ := hsp
    have hy : Hy g S xc ⟨cl, K, X, none⟩ avc avg N k true (cxOf (L2N.CX P w) P w K mg base N qual (defScope st) f cdv A outer s H E0) (fun cls d _ H => E0 cls d H) :=
      by
      refine E.hy rfl rfl rfl rfl rfl rfl rfl rfl SC.nd (fun _ => rfl) (fun _ => hr) rfl (L2H.roomH_of hr) (fun z => Bool.noConfusion z) (L2N.takes_of rfl rfl rfl rfl) (fun z => Bool.noConfusion z)
    refine ⟨_, ok_b hav d.body hy ⟨passes_of rfl, fun _ => rfl, rfl, rfl, rfl⟩ rfl h, X, φ, μ, ev0 d.ns ds, ?_, ?_⟩
    · rw [hn]
      exact mt_start (G := ⟨cl, K, X, none⟩) ms hds rfl
    · have hl : ds.length = d.ps := by rw [← hds.length, h1]
      unfold callB at ho
      rw [if_pos hl] at ho
      cases e : runB S d.body (ev0 d.ns ds) μ with
      | nx ε μ' =>
        rw [e] at ho
        intro σ' H' φ' ex m
        exact ho .non H' φ' ex m.ms .non
      | bk ε => rw [e] at ho; exact ho.elim
      | ct ε => rw [e] at ho; exact ho.elim
      | rt v μ' =>
        rw [e] at ho
        intro u H' φ' ex m r
        exact ho u H' φ' ex m r
      | ex y ε μ' =>
        rw [e] at ho
        intro cls dd σ' H' φ' ex m xr
        exact ho cls dd H' φ' ex m.ms xr
      | bad => rw [e] at ho; exact ho.elim
/-- .. whatever is handled, where its text allows it -/
theorem def_okC {x qual : Str} {st : Stmt} {f : Addr} {fd : FuncData} {N ps : List Str} {d : Df} {dvs : List V} {kws : List (Str × V)} (E : En g S xc cl avc avg P w K mg base k) (hav : Avs S avf avc avi)
    (F : FunD K x qual (defArgs st) (defBody st) (defScope st) dvs kws f fd) (sc : C8.scC N ps (defScope st) = true) (hn : d.ns = N.length) (hp : d.ps = ps.length) (h : lkB g avf avc avg avi N false (defScope st) d.body (defBody st) = true) (hlc : g.lc N = false) :
    FnC P w K mg base (k + 2) f fd ps (spD xc cl K d.ps (callB S d)) := by
  have SC := C8.fnScope_by sc
  refine fnC_of F SC (fun vs H Q E0 h => ?_) (fun cdv A outer s H vs Q p hr hsp => ?_)
  · obtain ⟨X, φ, μ, ds, h1, _⟩ := h
    rw [h1, hp]
  · obtain ⟨X, φ, μ, ds, h1, ms, hds, ho⟩ := hsp
    have hy : Hy g S xc ⟨cl, K, X, none⟩ avc avg N k false (L2H.cxH (L2N.CX P w) P w K mg base N qual (defScope st) f cdv A outer s H (fun _ _ _ => False) p) (fun _ _ _ _ => False) :=
      by
      refine E.hy rfl rfl rfl rfl rfl rfl rfl rfl SC.nd (fun z => Bool.noConfusion z) (fun z => Bool.noConfusion z) rfl hr (fun _ _ _ _ _ z => z) takesN0 (fun _ => hlc)
    refine ⟨_, ok_b hav d.body hy ⟨passes_of rfl, fun _ => rfl, rfl, rfl, rfl⟩ rfl h, X, φ, μ, ev0 d.ns ds, ?_, ?_⟩
    · rw [hn]
      exact mt_start (G := ⟨cl, K, X, none⟩) ms hds rfl
    · have hl : ds.length = d.ps := by rw [← hds.length, h1]
      unfold callB at ho
      rw [if_pos hl] at ho
      cases e : runB S d.body (ev0 d.ns ds) μ with
      | nx ε μ' => rw [e] at ho; exact fun σ' H' φ' ex m => ho .non H' φ' ex m.ms .non
      | bk ε => rw [e] at ho; exact ho.elim
      | ct ε => rw [e] at ho; exact ho.elim
      | rt v μ' => rw [e] at ho; exact fun u H' φ' ex m r => ho u H' φ' ex m r
      | ex y ε μ' => rw [e] at ho; exact fun cls dd σ' H' φ' ex m xr => ho cls dd H' φ' ex m.ms xr
      | bad => rw [e] at ho; exact ho.elim
end
/-- self.f = f, one after another -/
def xinB (N : List Str) (sc : Scope) : Nat → List Str → List Stmt → Bool
  | _, [], [] => true
  | i, f :: fs, .Assign [.Attribute (.Name x0 _) f' _] (.Name x _) _ :: sts => decide (N[0]? = some x0) && visB sc x0 && okNm x0 && decide (f' = f) && decide (N[i]? = some x) && visB sc x && okNm x && xinB N sc (i + 1) fs sts
  | _, _, _ => false
section
variable {cl : Cls0} {P : Program} {w : World} {K : PySem.W.Frag} {mg : Str → Option Value} {base : Heap}
theorem sw_att' {o : Expr} {f : Str} {p : Pos} {e : Expr} {l : Nat} {env : Env} : swapsWith e (some (.Attribute o f p)) l env = pure false := by
  cases e <;> rfl
def tXs (K : PySem.W.Frag) : Nat → List Str → TS
  | _, [] => tNext
  | i, f :: fs => tSeq (tOst K f (tVar 0) (tVar i)) (tXs K (i + 1) fs)
theorem xin_ps {X : Cx} {N : List Str} {sc : Scope} (hN : X.N = N) (hs : X.env.scope = sc) : ∀ (i : Nat) (fs : List Str) {sts : List Stmt}, xinB N sc i fs sts = true → PSs X sts (tXs X.K i fs)
  | i, [], sts, h => by
    cases sts with
    | nil => exact pss_nil
    | cons s r => simp [xinB] at h
  | i, f :: fs, sts, h => by
    unfold xinB at h
    split at h
    · rename_i heq; cases heq
    · rename_i heq
      cases heq
      simp only [Bool.and_eq_true, decide_eq_true_eq] at h
      obtain ⟨⟨⟨⟨⟨⟨⟨h1, h2⟩, h3⟩, h4⟩, h5⟩, h6⟩, h7⟩, h8⟩ := h
      subst h4
      obtain ⟨a1, a2⟩ := okNm_inv h3
      obtain ⟨b1, b2⟩ := okNm_inv h7
      refine pss_cons (ps_ost (pe_var (by rw [hN]; exact h1) (by rw [hs]; exact visB_inv h2) a1 a2) (pe_var (by rw [hN]; exact h5) (by rw [hs]; exact visB_inv h6) b1 b2) sw_att') (xin_ps hN hs _ _ h8)
    · cases h
theorem xin_ok {D : Ends} {σ : L2.St} {e C : Addr} {ns : List Str} (T : OexC K C) (hno : ∀ f ∈ ns, PySem.W.findIn K (.ref C) f = some none) (h0 : σ[0]? = some (some (.ref e))) (hl : ns.length ≤ 900) : ∀ (fs done : List Str) (us ws : List V) (i : Nat) (H : Hp) (d : Addr), done ++ fs = ns → us.length = done.length → i = done.length + 1 → (∀ j v, ws[j]? = some v → σ[i + j]? = some (some v)) → ws.length = fs.length →
    H e = some (exo e C (some d)) → H d = some (exd d (done.reverse.zip us.reverse)) → d ≠ e →
    (∀ H', H' e = some (exo e C (some d)) → H' d = some (exd d (ns.reverse.zip (us ++ ws).reverse)) → (∀ b o, b ≠ e → b ≠ d → H b = some o → H' b = some o) → D.nx σ H') → tXs K i fs D σ H
  | [], done, us, ws, i, H, d, h1, h2, h3, h4, h5, he, hd, ne, q => by
    have : ws = [] := List.length_eq_zero_iff.mp h5
    subst this
    rw [List.append_nil] at h1
    subst h1
    refine q H he ?_ (fun _ _ _ _ h => h)
    rw [List.append_nil]; exact hd
  | f :: fs, done, us, ws, i, H, d, h1, h2, h3, h4, h5, he, hd, ne, q => by
    cases ws with
    | nil => cases h5
    | cons v ws =>
      have hv := h4 0 v rfl
      rw [Nat.add_zero] at hv
      refine ⟨v, hv, .ref e, h0, e, C, rfl, T, hno f (by rw [← h1]; simp), .inr ⟨d, _, he, hd, ?_, ?_⟩⟩
      · rw [List.length_zip, List.length_reverse, List.length_reverse, h2, Nat.min_self]
        have : done.length ≤ ns.length := by rw [← h1]; simp
        omega
      · have e1 : (f, v) :: done.reverse.zip us.reverse = (done ++ [f]).reverse.zip (us ++ [v]).reverse := by simp
        rw [e1]
        refine xin_ok T hno h0 hl fs (done ++ [f]) (us ++ [v]) ws (i + 1) _ d (by rw [← h1]; simp) (by simp [h2]) (by simp [h3]) (fun j u hu => ?_) (by simpa using h5) (by rw [upd_ne (Ne.symm ne)]; exact he) upd_same ne fun H' a b c => ?_
        · have := h4 (j + 1) u (by simpa using hu)
          rw [show i + 1 + j = i + (j + 1) by omega]; exact this
        · refine q H' a (by simpa using b) (fun b' o n1 n2 hb => c b' o n1 n2 (by rw [upd_ne n2]; exact hb))
/-- an exception's __init__ keeps its promise -/
theorem xinit_ok {x qual : Str} {st : Stmt} {f C : Addr} {fd : FuncData} {N ps ns : List Str} {kws : List (Str × V)} {dvs : List V} (F : FunD K x qual (defArgs st) (defBody st) (defScope st) dvs kws f fd) (sc : C8.scC N ps (defScope st) = true) (hp : ps.length = ns.length + 1) (hN : N.length = ns.length + 1) (hne : ns ≠ []) (hl : ns.length ≤ 900)
    (T : OexC K C) (hno : ∀ f ∈ ns, PySem.W.findIn K (.ref C) f = some none) (h : xinB N (defScope st) 1 ns (defBody st) = true) : FnOk P w K mg base (L2N.CX P w) 2 f fd ps (spX C ns.reverse) := by
  have SC := C8.fnScope_by sc
  refine F.ok SC (fun vs H Q E0 h => ?_) (fun cdv A outer s H vs Q E0 hr hsp => ?_)
  · obtain ⟨e, ws, rfl, _, h2, _⟩ := h
    rw [List.length_cons, h2, hp, List.length_reverse]
  · obtain ⟨e, ws, rfl, he, hw, q⟩ := hsp
    rw [List.length_reverse] at hw
    refine ⟨_, xin_ps rfl rfl 1 ns h, ?_⟩
    have hst : ∀ (i : Nat) (v : V), (V.ref e :: ws)[i]? = some v → (L2.start N (.ref e :: ws))[i]? = some (some v) := fun i v hv => by
      unfold L2.start
      have hi : i < (V.ref e :: ws).length := (List.getElem?_eq_some_iff.mp hv).1
      rw [List.getElem?_append_left (by rw [List.length_map]; exact hi), List.getElem?_map, hv]
      rfl
    cases ns with
    | nil => exact absurd rfl hne
    | cons f1 fs =>
      cases ws with
      | nil => cases hw
      | cons v ws =>
        refine ⟨v, hst 1 v rfl, .ref e, hst 0 _ rfl, e, C, rfl, T, hno f1 (by simp), .inl ⟨he, fun d hd ne => ?_⟩⟩
        show tXs K 2 fs _ _ _
        refine xin_ok T hno (hst 0 _ rfl) hl fs [f1] [v] ws 2 _ d rfl rfl rfl (fun j u hu => ?_) (by simpa using hw) upd_same (by rw [upd_ne ne]; exact upd_same) ne fun H' a b c => ?_
        · rw [show 2 + j = j + 1 + 1 by omega]; exact hst (j + 1 + 1) u (by simpa using hu)
        · refine q d H' hd (fun b' o n1 hb => c b' o n1 (fun z => by rw [z, hd] at hb; cases hb) (by rw [upd_ne n1, upd_ne (fun z => by rw [z, hd] at hb; cases hb)]; exact hb)) a ?_
          simpa using b
end
end DM
set_option Elab.async false
set_option linter.all false
set_option maxRecDepth 100000
set_option maxHeartbeats 4000000
namespace DM
open PySem L2 PySem.Spec PyProof.Rows
/-- a text -/
structure Tb where
  dfs : List Df
  gl : Nat → D
  fl : Nat → List Nat
  ini : Nat → Option Nat
  mt : Nat → Nat → Option Nat
  unb : Nat → Nat → Option Nat
  fnd : Nat → Bool
  dv : Nat → List D
  xar : Nat → Option Nat
  isk : Option Nat → Nat → Option Bool
  isv : Nat → Option Bool := fun _ => none
  kwp : Nat → Nat → Option (Nat × Nat × List (Option Nat)) := fun _ _ => none
def Tb.ar (T : Tb) (n : Nat) : Nat := match T.dfs[n]? with | some d => d.ps | none => 0
/-- what the names mean where at most k calls are under way -/
def Tb.mn (T : Tb) : Nat → Mn
  | 0 => { fn := fun _ _ _ => .bad, gl := T.gl, fl := T.fl, ini := T.ini, mt := T.mt, unb := T.unb, av := fun n => decide (n < T.dfs.length), fnd := T.fnd, ar := T.ar, dv := T.dv, xar := fun _ => none, isk := T.isk, isv := T.isv, kwp := T.kwp }
  | k + 1 => { fn := fun n ds μ => match T.dfs[n]? with | some d => callB (T.mn k) d ds μ | none => .bad, gl := T.gl, fl := T.fl, ini := T.ini, mt := T.mt, unb := T.unb, av := fun n => decide (n < T.dfs.length), fnd := T.fnd, ar := T.ar, dv := T.dv, xar := T.xar, isk := T.isk, isv := T.isv, kwp := T.kwp }
/-- the whole look at a def's text -/
def lkD (g : Sg) (avf avc avg avi : Nat → Bool) (N ps : List Str) (d : Df) (st : Stmt) : Bool :=
  C8.scC N ps (defScope st) && (d.ns == N.length) && (d.ps == ps.length) && lkB g avf avc avg avi N true (defScope st) d.body (defBody st)
/-- .. and at an exception's __init__ -/
def lkX (N ps ns : List Str) (st : Stmt) : Bool :=
  C8.scC N ps (defScope st) && decide (ps.length = ns.length + 1) && decide (N.length = ns.length + 1) && !ns.isEmpty && decide (ns.length ≤ 900) && xinB N (defScope st) 1 ns (defBody st)
section
variable (g : Sg) (T : Tb) (cl : Cls0) (avf avc avg avi : Nat → Bool) (K : PySem.W.Frag) (mg : Str → Option Value)
/-- what the written part says of the n-th def -/
def FactD (n : Nat) (d : Df) (f : Addr) (fd : FuncData) (ps : List Str) : Prop :=
  ∃ x qual st N dvs, FunD K x qual (defArgs st) (defBody st) (defScope st) dvs [] f fd ∧ lkD g avf avc avg avi N ps d st = true ∧ (g.hot n = true → lkB g avf avc avg avi N false (defScope st) d.body (defBody st) = true ∧ g.lc N = false) ∧ Dfl K fd ps d.ps (T.dv n) ∧ (T.fnd n = true → mg (g.nm n) = some (.ref f)) ∧
    (∀ c m C ns, T.mt c m = some n → cl c = some (C, ns) → Meth K C (g.mnm m) f ∧ g.mnm m ∉ ns) ∧
    ∀ c C ns, avc c = true → T.ini c = some n → cl c = some (C, ns) → Mk K C f ∧ Kws g T.kwp K c fd ps (T.dv n)
structure Facts (xc : Xc) : Prop where
  hxc : cl.x = xc
  hnd : ∀ c, g.hnd c = true → ∃ C, mg (g.cnm c) = some (.ref C)
  xfs : ∀ c C ns, xc c = some (C, ns) → T.fl c ≠ [] → ns = (T.fl c).map g.anm ∧ ns.Nodup ∧ XfC K C ∧ ∀ x ∈ ns, PySem.W.findIn K (.ref C) x = some none
  isx : ∀ c c' b C' ns, T.isk (some c') c = some b → xc c' = some (C', ns) → ExcC K C' ∧ ∃ C, mg (g.cnm c) = some (.ref C) ∧ PySem.W.kitOne K (.ref C') (.ref C) = some b ∧ PySem.W.exmOne K (.ref C') (.ref C) = some b
  isw : ∀ c' b C' ns, T.isv c' = some b → xc c' = some (C', ns) → ExcC K C' ∧ PySem.W.kitOne K (.ref C') (.type "ValueError") = some b
  hht : ∀ n, g.hot n = true → T.fnd n = true
  blt : ∀ x ∈ bltN, mg x = none
  glo : ∀ n, avg n = true → ∃ v u, mg (g.gnm n) = some u ∧ RelV v u ∧ ∀ φ H Y, Rp cl K φ H Y v (T.gl n)
  defs : ∀ n d, T.dfs[n]? = some d → ∃ f fd ps, FactD g T cl avf avc avg avi K mg n d f fd ps
  cls : ∀ c C ns, cl c = some (C, ns) → L2.Cls K C ∧ ns = (T.fl c).map g.anm ∧ ns.Nodup ∧ ns.length < 1000 ∧ (∀ x ∈ ns, NoAttr K C x)
  mak : ∀ c, avc c = true → ∃ C ns, cl c = some (C, ns) ∧ mg (g.cnm c) = some (.ref C)
  ubs : ∀ c m n, T.unb c m = some n → ∃ C mc f fd ps d, T.dfs[n]? = some d ∧ mg (g.cnm c) = some (.ref C) ∧ ClX.CRead K C mc ∧ ClX.CVal K C mc (g.mnm m) (.ref f) (.ref f) ∧ FactD g T cl avf avc avg avi K mg n d f fd ps
  isn : ∀ c b, T.isk none c = some b → ∃ C, mg (g.cnm c) = some (.ref C) ∧ ∀ T ∈ ["NoneType", "bool", "int", "str", "list", "tuple", "dict"], PySem.W.kitOne K (.type T) (.ref C) = some b
  isi : ∀ c c' b C' ns, T.isk (some c') c = some b → cl c' = some (C', ns) → InC K C' ∧ ∃ C, mg (g.cnm c) = some (.ref C) ∧ PySem.W.kitOne K (.ref C') (.ref C) = some b
  xks : ∀ c n, T.xar c = some n → ∃ C ns, xc c = some (C, ns.reverse) ∧ ns.length = n ∧ mg (g.cnm c) = some (.ref C) ∧ (n = 0 → XPl K C) ∧
    (n ≠ 0 → ∃ x qual st N ps f fd dvs kws, OexC K C ∧ PySem.W.findIn K (.ref C) "__init__" = some (some (.ref f)) ∧ PySem.W.typeIn K (.ref f) = some (.type "function") ∧ Binds K fd ps [] ∧ FunD K x qual (defArgs st) (defBody st) (defScope st) dvs kws f fd ∧ lkX N ps ns st = true ∧ ∀ f ∈ ns, PySem.W.findIn K (.ref C) f = some none)
  hav : ∀ n, avf n = true → n < T.dfs.length ∧ T.fnd n = true
  hac : ∀ c, avc c = true → ∃ nn, T.ini c = some nn ∧ nn < T.dfs.length
  hai : ∀ c, avi c = true → ∃ b, T.isk none c = some b
end
section
variable {g : Sg} {T : Tb} {xc : Xc} {cl : Cls0} {avf avc avg avi : Nat → Bool} {P : Program} {w : World} {K : PySem.W.Frag} {mg : Str → Option Value} {base : Heap}
theorem mn_parts (k : Nat) : (T.mn k).gl = T.gl ∧ (T.mn k).fl = T.fl ∧ (T.mn k).mt = T.mt ∧ (T.mn k).fnd = T.fnd ∧ (∀ n, (T.mn k).av n = decide (n < T.dfs.length)) ∧ (T.mn k).ar = T.ar ∧ (T.mn k).dv = T.dv ∧ (T.mn k).ini = T.ini ∧ (T.mn k).isk = T.isk ∧ (T.mn k).unb = T.unb ∧ (T.mn k).isv = T.isv ∧ (∀ c n, (T.mn k).xar c = some n → T.xar c = some n ∧ 0 < k) := by
  cases k with
  | zero => exact ⟨rfl, rfl, rfl, rfl, fun _ => rfl, rfl, rfl, rfl, rfl, rfl, rfl, fun c n h => by cases h⟩
  | succ k => exact ⟨rfl, rfl, rfl, rfl, fun _ => rfl, rfl, rfl, rfl, rfl, rfl, rfl, fun c n h => ⟨h, Nat.succ_pos _⟩⟩
theorem mn_kwp (k : Nat) : (T.mn k).kwp = T.kwp := by cases k <;> rfl
/-- every def does what its text means -/
theorem all_ok (A : Facts g T cl avf avc avg avi K mg xc) (hhs : cl.hs = fun k => k.hash w) : ∀ k : Nat,
    ∀ n d f fd ps, T.dfs[n]? = some d → FactD g T cl avf avc avg avi K mg n d f fd ps → FnOk P w K mg base (L2N.CX P w) (2 * k) f fd ps (spD xc cl K d.ps ((T.mn k).fn n)) ∧ (g.hot n = true → FnC P w K mg base (2 * k) f fd ps (spD xc cl K d.ps ((T.mn k).fn n)))
  | 0 => by
    intro n d f fd ps hd fct
    refine ⟨?_, fun _ => ⟨fun vs H Q E h => ?_, fun A outer s H args us vs Q hr e0 hb r hsp => ?_⟩⟩
    rotate_left
    · obtain ⟨X, φ, μ, ds, _, _, _, ho⟩ := h
      exact ho.elim
    · obtain ⟨X, φ, μ, ds, _, _, _, ho⟩ := hsp
      exact ho.elim
    refine ⟨fun vs H Q E h => ?_, fun A outer s H args us vs Q E hr e0 hb r hsp => ?_⟩
    · obtain ⟨X, φ, μ, ds, _, _, _, ho⟩ := h
      exact ho.elim
    · obtain ⟨X, φ, μ, ds, _, _, _, ho⟩ := hsp
      exact ho.elim
  | k + 1 => by
    have ih := all_ok A hhs k
    obtain ⟨q1, q2, q3, q4, q5, q6, q7, q8, q9, q11, q12, q10⟩ := mn_parts (T := T) k
    have lt_some : ∀ {n}, n < T.dfs.length → ∃ d, T.dfs[n]? = some d := fun h => ⟨_, List.getElem?_eq_getElem h⟩
    have har : ∀ {n d}, T.dfs[n]? = some d → T.ar n = d.ps := fun {n d} h => by unfold Tb.ar; rw [h]
    have E : En g (T.mn k) xc cl avc avg P w K mg base (2 * k) := by
      refine { hxc := A.hxc, hhs := hhs, hnd := A.hnd, xfs := by rw [q2]; exact A.xfs, isx := by rw [q9]; exact A.isx, isw := by rw [q12]; exact A.isw, hts := fun n h1 h2 => ?_, blt := A.blt, glo := by rw [q1]; exact A.glo, fns := fun n h1 h2 => ?_, cls := by rw [q2]; exact A.cls, mts := fun c m n C ns h1 h2 h3 => ?_, ubs := fun c m n h1 h2 => ?_, mks := fun c n hc h1 h2 => ?_, isn := by rw [q9]; exact A.isn, isi := by rw [q9]; exact A.isi, xks := fun c n hx => ?_ }
      · rw [q5, decide_eq_true_eq] at h2
        obtain ⟨d, hd⟩ := lt_some h2
        obtain ⟨f, fd, ps, fct⟩ := A.defs n d hd
        have G := (ih n d f fd ps hd fct).2 h1
        obtain ⟨x, qual, st, N, dvs, F, _, _, hb, hm, _⟩ := fct
        exact ⟨f, fd, ps, hm (A.hht n h1), F.kp, by rw [q6, q7, har hd]; exact hb, by rw [q6, har hd]; exact G⟩
      · rw [q5, decide_eq_true_eq] at h1
        rw [q4] at h2
        obtain ⟨d, hd⟩ := lt_some h1
        obtain ⟨f, fd, ps, fct⟩ := A.defs n d hd
        have G := (ih n d f fd ps hd fct).1
        obtain ⟨x, qual, st, N, dvs, F, _, _, hb, hm, _⟩ := fct
        exact ⟨f, fd, ps, hm h2, F.kp, by rw [q6, q7, har hd]; exact hb, by rw [q6, har hd]; exact G⟩
      · rw [q3] at h1
        rw [q5, decide_eq_true_eq] at h2
        obtain ⟨d, hd⟩ := lt_some h2
        obtain ⟨f, fd, ps, fct⟩ := A.defs n d hd
        have G := (ih n d f fd ps hd fct).1
        obtain ⟨x, qual, st, N, dvs, F, _, _, hb, _, hm, _⟩ := fct
        obtain ⟨m1, m2⟩ := hm c m C ns h1 h3
        exact ⟨f, fd, ps, m1, by rw [q6, q7, har hd]; exact hb, m2, by rw [q6, har hd]; exact G⟩
      · rw [q11] at h1
        obtain ⟨C, mc, f, fd, ps, d, hd, k1, k2, k3, fct⟩ := A.ubs c m n h1
        have G := (ih n d f fd ps hd fct).1
        obtain ⟨x, qual, st, N, dvs, F, _, _, hb, _⟩ := fct
        exact ⟨C, mc, f, fd, ps, k1, k2, k3, F.kp, by rw [q6, q7, har hd]; exact hb, by rw [q6, har hd]; exact G⟩
      · rw [q8] at h1
        rw [q5, decide_eq_true_eq] at h2
        obtain ⟨C, ns, k1, k2⟩ := A.mak c hc
        obtain ⟨d, hd⟩ := lt_some h2
        obtain ⟨f, fd, ps, fct⟩ := A.defs n d hd
        have G := (ih n d f fd ps hd fct).1
        obtain ⟨x, qual, st, N, dvs, F, _, _, hb, _, _, hk⟩ := fct
        exact ⟨C, ns, f, fd, ps, k1, k2, by rw [mn_kwp, q7]; exact hk c C ns hc h1 k1, by rw [q6, q7, har hd]; exact hb, by rw [q6, har hd]; exact G⟩
      · obtain ⟨hx, hk⟩ := q10 c n hx
        obtain ⟨C, ns, k1, k2, k3, k4, k5⟩ := A.xks c n hx
        refine ⟨C, ns.reverse, k1, by rw [List.length_reverse]; exact k2, k3, k4, fun hn => ?_⟩
        obtain ⟨x, qual, st, N, ps, f, fd, dvs, kws, T', iC, tI, hb, F, hl, hno⟩ := k5 hn
        unfold lkX at hl
        simp only [Bool.and_eq_true, decide_eq_true_eq, Bool.not_eq_true'] at hl
        obtain ⟨⟨⟨⟨⟨l1, l2⟩, l3⟩, l4⟩, l5⟩, l6⟩ := hl
        have ne : ns ≠ [] := fun z => by rw [z] at l4; cases l4
        exact ⟨f, fd, ps, T', iC, tI, hb, (xinit_ok F l1 l2 l3 ne l5 T' hno l6).mono (by omega)⟩
    have hav : Avs (T.mn k) avf avc avi := by
      refine ⟨fun n h => ?_, fun c h => ?_, fun c h => ?_⟩
      · obtain ⟨h1, h2⟩ := A.hav n h
        rw [q5, q4, decide_eq_true_eq]
        exact ⟨h1, h2⟩
      · obtain ⟨nn, h1, h2⟩ := A.hac c h
        exact ⟨nn, by rw [q8]; exact h1, by rw [q5, decide_eq_true_eq]; exact h2⟩
      · rw [q9]; exact A.hai c h
    intro n d f fd ps hd fct
    obtain ⟨x, qual, st, N, dvs, F, hl, hC, hb, _⟩ := fct
    unfold lkD at hl
    simp only [Bool.and_eq_true, beq_iff_eq] at hl
    obtain ⟨⟨⟨h1, h2⟩, h3⟩, h4⟩ := hl
    have e : (T.mn (k + 1)).fn n = callB (T.mn k) d := by
      funext ds μ
      show (match T.dfs[n]? with | some d => callB (T.mn k) d ds μ | none => .bad) = _
      rw [hd]
    rw [e]
    exact ⟨def_ok E hav F h1 h2 h3 h4, fun hh => def_okC E hav F h1 h2 h3 (hC hh).1 (hC hh).2⟩
end
section
variable {K : PySem.W.Frag}
theorem dfl_none {fd : FuncData} {ps : List Str} {n : Nat} (hn : ps.length = n) (hb : Binds K fd ps []) : Dfl K fd ps n [] := ⟨hn, rfl, fun j hj => ⟨[], [], .nil, fun _ _ _ _ => by rw [show ([] : List D).drop j = [] by simp]; exact .nil, hb⟩⟩
/-- a def without defaults, as it stands in the written part -/
theorem fund_mk {x qual : Str} {st : Stmt} {f : Addr} {oc : Value} {od an : Option Addr} {osl : Array (Option Value)} {kV doc pm cdv ct : Value} (l : K.lookup f = some ⟨oc, od, .func (PySem.W.fnOf x qual (defArgs st) (defBody st) (defScope st) .none kV doc pm an cdv ct), osl⟩)
    (c : PySem.W.codeIn K cdv qual = true) (k : PySem.W.keepIn K (.ref f) = true) : FunD K x qual (defArgs st) (defBody st) (defScope st) [] [] f (PySem.W.fnOf x qual (defArgs st) (defBody st) (defScope st) .none kV doc pm an cdv ct) :=
  ⟨⟨oc, od, .none, kV, doc, pm, an, cdv, ct, osl, rfl, l, c, .inl ⟨rfl, rfl⟩, .inl rfl⟩, k⟩
end
/-- the goal that k_head leaves, from the meaning of the law's def -/
theorem walk_de {l : PySem.W.OpenLaw} {n k : Nat} {q : Program} {loose : List Str} {XP : (Str → Option Value) → Heap → Prop} {YP : World → Heap → Prop} {d : DefRec} {K : Params → PySem.W.Frag} {x : Str} {F : List D → Mem → Rd0}
    (hn : l.most = some n) (hn2 : n ≤ sizeLine) (hdf : d.params.defaults = []) (hr : Room k callerA)
    (hY : ∀ (w : World) (h : Heap), YP w h → (K w.params).In h)
    (hF : ∀ (w : World) (mg : Str → Option Value) (fa : Addr) (h : Heap), (K w.params).In h → h.Ns mainGlobals mg → mg d.name = some (.ref fa) →
      ∃ (fd : FuncData) (xc : Xc) (cl : Cls0), (∀ (s : Shared) (u : Value), BindsTo s fd ⟨[u], []⟩ [(x, u)]) ∧
        ∀ base : Heap, (K w.params).In base → base.Ns mainGlobals mg → FnOk l.prog w (K w.params) mg base (L2N.CX l.prog w) k fa fd [x] (spD xc cl (K w.params) 1 F))
    (law : ∀ ns : List Int, ns.length ≤ n → ∃ μ, F [.lst (ns.map .int)] [] = .ok (.bl true, μ)) :
    PySem.W.WalkO q loose XP YP l.row.toRowW d [] (fun f vs => PySem.call f vs) := by
  refine Att.attach_call hn hdf fun w s₀ s₁ mg mb fa o pm cd doc a vs ns G Y ho hd hcd hmg hobj hints hlen hg => ?_
  have KX := hY w _ Y
  obtain ⟨fd, xc, cl, hb, hF⟩ := hF w mg fa _ KX G.T.g hmg
  refine law_call KX G.T.g G.T.b G.T.builtins G.T.nolimit hg hobj hints (Nat.le_trans hlen hn2) hr hF hb (fun H hO hS => ?_) fun H e s' z => ?_
  · obtain ⟨μ, hc⟩ := law ns hlen
    have rI : ∀ (ns : List Int), Rps cl (K w.params) [] H (Gc.N ⟨cl, K w.params, fun _ => False, none⟩ [] []) (ns.map V.int) (ns.map D.int) := fun ns => by
      induction ns with
      | nil => exact .nil
      | cons i r ih => exact .cons (.int i) ih
    have nN : ∀ a, ¬ Gc.N ⟨cl, K w.params, fun _ => False, none⟩ [] [] a := fun a z => z.elim (fun z => nolv z) id
    refine ⟨fun _ => False, [], [], [.lst (ns.map .int)], rfl, ⟨rfl, fun n d a h => by simp at h, fun n k d e a h => by simp at h, fun a z => z.elim, fun a z => (nolv z).elim⟩, .cons ?_ .nil, ?_⟩
    · rcases hS with h | ⟨ob, its, m, hk, h1, h2, h3, hz, r⟩
      · exact .lst h (nN _) (rI ns)
      · refine .lstK ⟨its, m, ?_, hz, r⟩ (rI ns)
        have e := KX a ob hk
        rw [hobj] at e
        have e := Option.some.inj e
        subst e
        cases h3
        exact hk
    · rw [hc]
      intro v H' φ' _ _ r
      cases r
      rfl
  · obtain ⟨_, _, _, _, _, _, _, _, _, _, _, _, z⟩ := z
    exact z
end DM
set_option Elab.async false
set_option linter.all false
set_option checkBinderAnnotations false
set_option maxRecDepth 100000
set_option maxHeartbeats 4000000
namespace DM
open PySem.Spec
/-- it comes to a value of which P holds, or raises what E says -/
def Ok {α : Type} (r : R α) [P : α → Prop] [E : Exn → Mem → Prop] : Prop := match r with | .ok a => P a | .ex x μ => E x μ | .bad => False
section
variable {α β : Type} {r : R α} {P Q : α → Prop} {E F : Exn → Mem → Prop}
theorem ok_ok {a : α} : @Ok _ (.ok a) P E = P a := rfl
theorem ok_bad : @Ok _ (.bad : R α) P E = False := rfl
theorem ok_bind {f : α → R β} {P : β → Prop} : @Ok _ (r.bind f) P E = @Ok _ r (fun a => @Ok _ (f a) P E) E := by cases r <;> rfl
theorem ok_ite {c : Prop} [Decidable c] : @Ok _ (if c then r else .bad) P E = (c ∧ @Ok _ r P E) := by
  by_cases h : c <;> simp [h, ok_bad]
theorem Ok.imp (h : @Ok _ r P E) (k : ∀ a, P a → Q a) (e : ∀ x μ, E x μ → F x μ) : @Ok _ r Q F := by cases r <;> first | exact k _ h | exact e _ _ h | exact h
theorem Ok.get (h : @Ok _ r P fun _ _ => False) : ∃ a, r = .ok a ∧ P a := by cases r <;> first | exact ⟨_, rfl, h⟩ | exact h.elim
theorem Ok.of {a : α} (h : r = .ok a) (k : P a) : @Ok _ r P E := by rw [h]; exact k
end
def OptP {α : Type} (o : Option α) [P : α → Prop] : Prop := match o with | some d => P d | none => False
theorem op_some {α : Type} {P : α → Prop} {d : α} : @OptP _ (some d) P = P d := rfl
theorem op_none {α : Type} {P : α → Prop} : @OptP _ none P = False := rfl
theorem op_ite {α : Type} {c : Prop} [Decidable c] {o : Option α} {P : α → Prop} : @OptP _ (if c then o else none) P = (c ∧ @OptP _ o P) := by
  by_cases h : c <;> simp [h, op_none]
theorem op_map {α β : Type} {P : β → Prop} {f : α → β} {o : Option α} : @OptP _ (o.map f) P = @OptP _ o fun a => P (f a) := by cases o <;> rfl
theorem ok_opt {o : Option D} {μ : Mem} {P : D × Mem → Prop} {E : Exn → Mem → Prop} : @Ok _ (opt o μ) P E = @OptP _ o fun d => P (d, μ) := by cases o <;> rfl
theorem ok_optI {o : Option Iv} {μ : Mem} {P : Iv × Mem → Prop} {E : Exn → Mem → Prop} : @Ok _ (optI o μ) P E = @OptP _ o fun d => P (d, μ) := by cases o <;> rfl
/-- a truth decides -/
def tB (d : D) [A : Prop] [B : Prop] : Prop := match d with | .bl true => A | .bl false => B | _ => False
theorem tB_bl {b : Bool} {A B : Prop} : @tB (.bl b) A B = ((b = true → A) ∧ (b = false → B)) := by cases b <;> simp [tB]
/-- an int is wanted -/
def iP (d : D) (P : Int → Prop) : Prop := match d with | .int i => P i | _ => False
theorem iP_int {i : Int} {P : Int → Prop} : iP (.int i) P = P i := rfl
/-- what stands at a slot -/
def getP (o : Option (Option D)) [P : D → Prop] : Prop := match o with | some (some p) => P p | _ => False
theorem get_some {d : D} {P : D → Prop} : @getP (some (some d)) P = P d := rfl
section
variable {μ : Mem} {i : Int} {x : List Nat} {xs ks : List D} {b : Bool} {c : Nat}
theorem t_int : top μ (.int i) = .int i := rfl
theorem t_str : top μ (.str x) = .str x := rfl
theorem t_bl : top μ (.bl b) = .bl b := rfl
theorem t_lst : top μ (.lst xs) = .lst xs := rfl
theorem t_tup : top μ (.tup xs) = .tup xs := rfl
theorem t_ins : top μ (.ins c xs) = .ins c xs := rfl
theorem r_int : res μ (.int i) = .int i := by simp [res, resD]
theorem r_str : res μ (.str x) = .str x := by simp [res, resD]
theorem r_bl : res μ (.bl b) = .bl b := by simp [res, resD]
end
def attE (S : Mn) (f : Nat) (d : D) : Option D := match d with | .ins k ds => ((S.fl k).zip ds).lookup f | .exc k ds => ((S.fl k).zip ds).lookup f | _ => none
/-- a method's def -/
def mthP (S : Mn) (m : Nat) (d : D) (P : Nat → Prop) : Prop := match d with | .ins c _ => (match S.mt c m with | some n => S.av n = true ∧ P n | none => False) | _ => False
section
variable {S : Mn} {ε : Ev} {μ : Mem} {P : D × Mem → Prop} {E : Exn → Mem → Prop} {a b c : T} {as r : Ts}
theorem v_var {i : Nat} : @Ok _ (ev S (.var i) ε μ) P E = @getP ε[i]? fun d => P (d, μ) := by
  simp only [ev]
  cases ε[i]? with
  | none => rfl
  | some o => cases o <;> rfl
theorem v_lit {d : D} : @Ok _ (ev S (.lit d) ε μ) P E = P (d, μ) := rfl
theorem v_glob {n : Nat} : @Ok _ (ev S (.glob n) ε μ) P E = P (S.gl n, μ) := rfl
theorem v_bin {o : BO} : @Ok _ (ev S (.bin o a b) ε μ) P E = @Ok _ (ev S a ε μ) (fun x => @Ok _ (ev S b ε x.2) (fun y => @OptP _ (binE o (top y.2 x.1) (top y.2 y.1)) fun d => P (d, y.2)) E) E := by simp only [ev, ok_bind, ok_opt]
theorem v_cmp {o : CO} : @Ok _ (ev S (.cmp o a b) ε μ) P E = @Ok _ (ev S a ε μ) (fun x => @Ok _ (ev S b ε x.2) (fun y => @OptP _ (cmpE o (cmpX o y.2 x.1) (cmpX o y.2 y.1)) fun d => P (d, y.2)) E) E := by simp only [ev, ok_bind, ok_opt]
theorem v_neg : @Ok _ (ev S (.neg a) ε μ) P E = @Ok _ (ev S a ε μ) (fun x => iP x.1 fun i => P (.int (-i), x.2)) E := by
  simp only [ev, ok_bind]
  congr 1; funext x
  obtain ⟨d, μ1⟩ := x
  cases d <;> rfl
theorem v_and : @Ok _ (ev S (.and a b) ε μ) P E = @Ok _ (ev S a ε μ) (fun x => @tB x.1 (@Ok _ (ev S b ε x.2) P E) (P (.bl false, x.2))) E := by
  simp only [ev, ok_bind]
  congr 1; funext x
  obtain ⟨d, μ1⟩ := x
  cases d with
  | bl b => cases b <;> rfl
  | _ => rfl
theorem v_or : @Ok _ (ev S (.or a b) ε μ) P E = @Ok _ (ev S a ε μ) (fun x => @tB x.1 (P (.bl true, x.2)) (@Ok _ (ev S b ε x.2) P E)) E := by
  simp only [ev, ok_bind]
  congr 1; funext x
  obtain ⟨d, μ1⟩ := x
  cases d with
  | bl b => cases b <;> rfl
  | _ => rfl
theorem v_not : @Ok _ (ev S (.not a) ε μ) P E = @Ok _ (ev S a ε μ) (fun x => @tB x.1 (P (.bl false, x.2)) (P (.bl true, x.2))) E := by
  simp only [ev, ok_bind]
  congr 1; funext x
  obtain ⟨d, μ1⟩ := x
  cases d with
  | bl b => cases b <;> rfl
  | _ => rfl
theorem v_chn {o o' : CO} : @Ok _ (ev S (.chn o o' a b c) ε μ) P E = @Ok _ (ev S a ε μ) (fun x => @Ok _ (ev S b ε x.2) (fun y => @OptP _ (cmpE o (cmpX o y.2 x.1) (cmpX o y.2 y.1)) fun d => @tB d (@Ok _ (ev S c ε y.2) (fun z => @OptP _ (cmpE o' (cmpX o' z.2 y.1) (cmpX o' z.2 z.1)) fun d => P (d, z.2)) E) (P (.bl false, y.2))) E) E := by
  simp only [ev, ok_bind, ok_opt]
  congr 1; funext x; congr 1; funext y; congr 1; funext d
  cases d with
  | bl b => cases b <;> simp only [ok_bind, ok_opt] <;> rfl
  | _ => rfl
theorem v_idx : @Ok _ (ev S (.idx a b) ε μ) P E = @Ok _ (ev S a ε μ) (fun x => @Ok _ (ev S b ε x.2) (fun y => @OptP _ (idxE (top y.2 x.1) (top y.2 y.1)) fun d => P (d, y.2)) E) E := by simp only [ev, ok_bind, ok_opt]
theorem v_slc {lo hi : TO} : @Ok _ (ev S (.slc a lo hi) ε μ) P E = @Ok _ (ev S a ε μ) (fun x => @Ok _ (evo S lo ε x.2) (fun l => @Ok _ (evo S hi ε l.2) (fun h => @OptP _ (slcE (top h.2 x.1) l.1 h.1) fun d => P (d, h.2)) E) E) E := by simp only [ev, ok_bind, ok_opt]
theorem v_att {f : Nat} : @Ok _ (ev S (.att a f) ε μ) P E = @Ok _ (ev S a ε μ) (fun x => @OptP _ (attE S f (top x.2 x.1)) fun d => P (d, x.2)) E := by
  simp only [ev, ok_bind]
  congr 1; funext x
  obtain ⟨d, μ1⟩ := x
  simp only
  generalize top μ1 d = t
  cases t with
  | ins k ds => simp only [attE]; cases ((S.fl k).zip ds).lookup f <;> rfl
  | exc k ds => simp only [attE]; cases ((S.fl k).zip ds).lookup f <;> rfl
  | _ => rfl
theorem v_tup : @Ok _ (ev S (.tup as) ε μ) P E = @Ok _ (evs S as ε μ) (fun xs => P (.tup xs.1, xs.2)) E := by simp only [ev, ok_bind, ok_ok]
theorem v_lst : @Ok _ (ev S (.lst as) ε μ) P E = @Ok _ (evs S as ε μ) (fun xs => P (.lst xs.1, xs.2)) E := by simp only [ev, ok_bind, ok_ok]
theorem v_call {k : Ck} {n : Nat} : @Ok _ (ev S (.call k n as) ε μ) P E = @Ok _ (evs S as ε μ) (fun xs => @Ok _ (callE S k n xs.1 xs.2) P E) E := by simp only [ev, ok_bind]
theorem v_mak {k : Ck} {n : Nat} : @Ok _ (ev S (.mak k n as) ε μ) P E = @Ok _ (evs S as ε μ) (fun xs => @Ok _ (makE S k n xs.1 xs.2) P E) E := by simp only [ev, ok_bind]
theorem v_mth {k : Ck} {m : Nat} : @Ok _ (ev S (.mth k a m as) ε μ) P E = @Ok _ (ev S a ε μ) (fun x => mthP S m (top x.2 x.1) fun n => @Ok _ (evs S as ε x.2) (fun xs => @Ok _ (callE S k n (x.1 :: xs.1) xs.2) P E) E) E := by
  simp only [ev, ok_bind]
  congr 1; funext x
  obtain ⟨d, μ1⟩ := x
  simp only
  generalize top μ1 d = t
  cases t with
  | ins c ds =>
    simp only [mthP]
    cases S.mt c m with
    | none => rfl
    | some n => simp only [ok_ite, ok_bind]
  | _ => rfl
theorem v_bi {b : Bi} : @Ok _ (ev S (.bi b as) ε μ) P E = @Ok _ (evs S as ε μ) (fun xs => @OptP _ (biE b (xs.1.map (top xs.2))) fun d => P (d, xs.2)) E := by simp only [ev, ok_bind, ok_opt]
theorem v_isi {k : Kd} : @Ok _ (ev S (.isi a k) ε μ) P E = @Ok _ (ev S a ε μ) (fun x => @OptP _ (isiE k (top x.2 x.1)) fun d => P (d, x.2)) E := by simp only [ev, ok_bind, ok_opt]
theorem v_isc {k : Nat} : @Ok _ (ev S (.isc a k) ε μ) P E = @Ok _ (ev S a ε μ) (fun x => @OptP _ (iscE S k (top x.2 x.1)) fun d => P (d, x.2)) E := by simp only [ev, ok_bind, ok_opt]
theorem v_isv : @Ok _ (ev S (.isv a) ε μ) P E = @Ok _ (ev S a ε μ) (fun x => @OptP _ (isvE S (top x.2 x.1)) fun d => P (d, x.2)) E := by simp only [ev, ok_bind, ok_opt]
theorem v_ist {ks : List Nat} : @Ok _ (ev S (.ist a ks) ε μ) P E = @Ok _ (ev S a ε μ) (fun x => @OptP _ (istE S ks (top x.2 x.1)) fun d => P (d, x.2)) E := by simp only [ev, ok_bind, ok_opt]
theorem v_lset : @Ok _ (ev S (.lset a) ε μ) P E = @Ok _ (ev S a ε μ) (fun x => @OptP _ (lsetE (top x.2 x.1)) fun d => P (d, x.2)) E := by simp only [ev, ok_bind, ok_opt]
theorem v_sm {m : Sm} : @Ok _ (ev S (.sm m a as) ε μ) P E = @Ok _ (ev S a ε μ) (fun x => smT m (top x.2 x.1) = true ∧ @Ok _ (evs S as ε x.2) (fun xs => @OptP _ (smE m (top xs.2 x.1) (xs.1.map (top xs.2))) fun d => P (d, xs.2)) E) E := by simp only [ev, ok_bind, ok_ite, ok_opt]
theorem ok_quiet {α : Type} {r : R α} {P : α → Prop} : @Ok _ r.quiet P E = @Ok _ r P fun _ _ => False := by cases r <;> rfl
theorem v_lc {tg : Tg} {it : It} {cd : TO} {elt : T} : @Ok _ (ev S (.lc tg it cd elt) ε μ) P E = @Ok _ (evi S it ε μ) (fun p => shortB p.2 p.1 = true ∧ @Ok _ (goLcI tg (wipeE ε (tgI tg)) (evc S cd) (ev S elt) p.1 p.2) (fun xs => P (.lst xs.1, xs.2)) fun _ _ => False) E := by simp only [ev, ok_bind, ok_ite, ok_quiet, ok_ok]
theorem v_new : @Ok _ (ev S (.new a) ε μ) P E = @Ok _ (ev S a ε μ) (fun x => (frT a && isMut x.1) = true ∧ P (.cel x.2.length, x.2 ++ [some x.1])) E := by simp only [ev, ok_bind, ok_ite, ok_ok]
theorem v_nil {P : List D × Mem → Prop} : @Ok _ (evs S .nil ε μ) P E = P ([], μ) := rfl
theorem v_cons {P : List D × Mem → Prop} : @Ok _ (evs S (.cons a r) ε μ) P E = @Ok _ (ev S a ε μ) (fun x => @Ok _ (evs S r ε x.2) (fun xs => P (x.1 :: xs.1, xs.2)) E) E := by simp only [evs, ok_bind, ok_ok]
theorem v_no {P : Option Int × Mem → Prop} : @Ok _ (evo S .none ε μ) P E = P (none, μ) := rfl
theorem v_some {P : Option Int × Mem → Prop} : @Ok _ (evo S (.some a) ε μ) P E = @Ok _ (ev S a ε μ) (fun x => iP x.1 fun i => P (some i, x.2)) E := by
  simp only [evo, ok_bind]
  congr 1; funext x
  obtain ⟨d, μ1⟩ := x
  cases d <;> rfl
theorem v_seq {P : Iv × Mem → Prop} : @Ok _ (evi S (.seq a) ε μ) P E = @Ok _ (ev S a ε μ) (fun x => @OptP _ (seqE x.2 x.1) fun w => P (w, x.2)) E := by simp only [evi, ok_bind, ok_optI]
theorem v_r1 {P : Iv × Mem → Prop} : @Ok _ (evi S (.r1 a) ε μ) P E = @Ok _ (ev S a ε μ) (fun x => iP x.1 fun i => rngOk i = true ∧ P (.its (rngD 0 i.toNat), x.2)) E := by
  simp only [evi, ok_bind]
  congr 1; funext x
  obtain ⟨d, μ1⟩ := x
  cases d <;> first | rfl | (simp only [ok_ite, ok_ok]; rfl)
end
section
variable {i j : Int} {x y : List Nat} {xs ys : List D} {μ : Mem} {d e : D}
theorem b_add : binE .add (.int i) (.int j) = some (.int (i + j)) := rfl
theorem b_sub : binE .sub (.int i) (.int j) = some (.int (i - j)) := rfl
theorem b_mul : binE .mul (.int i) (.int j) = if (smallI i || smallI j) = true then some (.int (i * j)) else none := rfl
theorem b_fdiv : binE .fdiv (.int i) (.int j) = if 0 < j ∧ j < 1073741824 then some (.int (i / j)) else none := rfl
theorem b_mod : binE .mod (.int i) (.int j) = if 0 < j then some (.int (i % j)) else none := rfl
theorem b_pow : binE .pow (.int i) (.int j) = if powOk i j = true then some (.int (i ^ j.toNat)) else none := rfl
theorem b_adds : binE .add (.str x) (.str y) = if x.length + y.length ≤ 16777216 then some (.str (x ++ y)) else none := rfl
theorem b_addl : binE .add (.lst xs) (.lst ys) = if xs.length + ys.length ≤ 16777216 then some (.lst (xs ++ ys)) else none := rfl
theorem x_lt : cmpX .lt μ d = top μ d := rfl
theorem x_le : cmpX .le μ d = top μ d := rfl
theorem x_gt : cmpX .gt μ d = top μ d := rfl
theorem x_ge : cmpX .ge μ d = top μ d := rfl
theorem x_notN : cmpX .notN μ d = top μ d := rfl
theorem x_eq : cmpX .eq μ d = res μ d := rfl
theorem x_ne : cmpX .ne μ d = res μ d := rfl
theorem x_in : cmpX .isin μ d = res μ d := rfl
theorem x_nin : cmpX .notin μ d = res μ d := rfl
theorem c_lt : cmpE .lt (.int i) (.int j) = some (.bl (decide (i < j))) := rfl
theorem c_le : cmpE .le (.int i) (.int j) = some (.bl (decide (i ≤ j))) := rfl
theorem c_gt : cmpE .gt (.int i) (.int j) = some (.bl (decide (j < i))) := rfl
theorem c_ge : cmpE .ge (.int i) (.int j) = some (.bl (decide (j ≤ i))) := rfl
theorem c_notB {b : Bool} : cmpE .notN d (.bl b) = some (.bl (!isTru b d)) := by cases d <;> rfl
theorem c_eq : cmpE .eq d e = if (pd 64 d && pd 64 e) = true then some (.bl (eqD d e)) else none := by cases d <;> cases e <;> rfl
theorem c_ne : cmpE .ne d e = if (pd 64 d && pd 64 e) = true then some (.bl (!eqD d e)) else none := by cases d <;> cases e <;> rfl
theorem n_stri {i : Int} : biE .stri [.int i] = if 0 ≤ i ∧ i < 1000000 then some (.str (TL.numL i.toNat)) else none := rfl
theorem c_ins {s : Nat} : cmpE .isin (.str [s]) (.str y) = some (.bl (decide (s ∈ y))) := rfl
theorem c_nins {s : Nat} : cmpE .notin (.str [s]) (.str y) = some (.bl (!decide (s ∈ y))) := rfl
theorem eqD_int : eqD (.int i) (.int j) = decide (i = j) := by rw [Bool.eq_iff_iff]; simp [eqD]
theorem eqD_str : eqD (.str x) (.str y) = decide (x = y) := by rw [Bool.eq_iff_iff]; simp [eqD]
theorem i_lst : idxE (.lst xs) (.int i) = atE xs i := rfl
theorem i_tup : idxE (.tup xs) (.int i) = atE xs i := rfl
theorem i_str : idxE (.str x) (.int i) = if x.length ≤ 16777216 then (atE x i).map fun e => .str [e] else none := rfl
theorem s_lstE {lo hi : Option Int} : slcE (.lst xs) lo hi = some (.lst (cutE xs lo hi)) := rfl
theorem s_tupE {lo hi : Option Int} : slcE (.tup xs) lo hi = some (.tup (cutE xs lo hi)) := rfl
theorem s_strE {lo hi : Option Int} : slcE (.str x) lo hi = if x.length ≤ 16777216 then some (.str (cutE x lo hi)) else none := rfl
theorem n_lenl : biE .len [.lst xs] = some (.int (xs.length : Nat)) := rfl
theorem n_lent : biE .len [.tup xs] = some (.int (xs.length : Nat)) := rfl
theorem n_lens : biE .len [.str x] = if x.length ≤ 16777216 then some (.int (x.length : Nat)) else none := rfl
theorem n_intb {b : Bool} : biE .int [.bl b] = some (.int (if b then 1 else 0)) := rfl
theorem n_all : biE .all [.lst xs] = (blsOf xs).map fun ns => .bl (ns.all id) := rfl
theorem q_lst : seqE μ (.lst xs) = some (.its xs) := rfl
theorem q_tup : seqE μ (.tup xs) = some (.its xs) := rfl
theorem q_str : seqE μ (.str x) = some (.its (x.map fun s => .str [s])) := rfl
theorem m_join {s : List Nat} : smE .join (.str s) [.lst xs] = (strsOf xs).bind fun ss => if (ss.map (·.length)).sum + ss.length * s.length ≤ 16777216 then some (.str (TL.joinL s ss)) else none := rfl
theorem m_split {x y : List Nat} : smE .split (.str x) [.str y] = if (decide (y ≠ []) && y.all (· < 256) && decide (x.length ≤ 16777000)) = true then some (.lst ((TL.spl y 0 [] x).map .str)) else none := rfl
theorem m_splitT {x : List Nat} : smT .split (.str x) = true := rfl
theorem m_sidx {x : List Nat} {c : Nat} : smE .sidx (.str x) [.str [c]] = if c ∈ x then some (.int (x.idxOf c : Nat)) else none := rfl
theorem m_sidxT {x : List Nat} : smT .sidx (.str x) = true := rfl
theorem m_joinT {s : List Nat} : smT .join (.str s) = true := rfl
theorem a_ins {S : Mn} {f c : Nat} {fs : List D} : attE S f (.ins c fs) = ((S.fl c).zip fs).lookup f := rfl
end
/-- what holds behind a statement, of its result, at a break, at a continue, of what is raised -/
structure Wp where
  n : Ev → Mem → Prop
  r : D → Mem → Prop
  b : Ev → Mem → Prop
  c : Ev → Mem → Prop
  x : Exn → Ev → Mem → Prop
def wp (o : O) [w : Wp] : Prop := match o with | .nx ε μ => w.n ε μ | .rt d μ => w.r d μ | .bk ε μ => w.b ε μ | .ct ε μ => w.c ε μ | .ex x ε μ => w.x x ε μ | .bad => False
section
variable {S : Mn} {ε : Ev} {μ : Mem} {w w' : Wp} {o : O} {a b : B} {t k : T}
theorem wp_seq {k : Ev → Mem → O} : @wp (o.seq k) w = @wp o { w with n := fun ε μ => @wp (k ε μ) w } := by cases o <;> rfl
theorem wp_then {α : Type} {r : R α} {k : α → O} : @wp (r.thenO ε k) w = @Ok _ r (fun a => @wp (k a) w) fun x μ => w.x x ε μ := by cases r <;> rfl
theorem wp_nx : @wp (.nx ε μ) w = w.n ε μ := rfl
theorem wp_bad : @wp .bad w = False := rfl
theorem wp_ite {c : Prop} [Decidable c] : @wp (if c then o else .bad) w = (c ∧ @wp o w) := by by_cases h : c <;> simp [h, wp_bad]
theorem wp_imp (h : @wp o w) (h1 : ∀ ε μ, w.n ε μ → w'.n ε μ) (h2 : ∀ d μ, w.r d μ → w'.r d μ) (h3 : ∀ ε μ, w.b ε μ → w'.b ε μ) (h4 : ∀ ε μ, w.c ε μ → w'.c ε μ) (h5 : ∀ x ε μ, w.x x ε μ → w'.x x ε μ) : @wp o w' := by
  cases o with
  | nx ε μ => exact h1 _ _ h
  | rt d μ => exact h2 _ _ h
  | bk ε μ => exact h3 _ _ h
  | ct ε μ => exact h4 _ _ h
  | ex x ε μ => exact h5 _ _ _ h
  | bad => exact h
theorem w_nil : @wp (runB S .nil ε μ) w = w.n ε μ := rfl
theorem w_cons {s : DM.S} {r : B} : @wp (runB S (.cons s r) ε μ) w = @wp (run S s ε μ) { w with n := fun ε μ => @wp (runB S r ε μ) w } := by simp only [runB, wp_seq]
theorem w_bad : @wp (run S .no ε μ) w = False := rfl
theorem w_asg {tg : Tg} : @wp (run S (.asg tg t) ε μ) w = @Ok _ (ev S t ε μ) (fun p => @OptP _ (binds tg p.2 p.1 ε) fun ε1 => w.n ε1 p.2) fun x μ => w.x x ε μ := by
  simp only [run, wp_then]
  congr 1; funext p
  cases binds tg p.2 p.1 ε <;> rfl
def celQ (o : Option (Option D)) [P : List D → Prop] : Prop := match o with | some (some (.lst ds)) => P ds | _ => False
def celP (μ : Mem) (d : D) (P : Nat → List D → Prop) : Prop := match d with | .cel n => @celQ μ[n]? (P n) | _ => False
theorem celP_cel {n : Nat} {P : Nat → List D → Prop} : celP μ (.cel n) P = @celQ μ[n]? (P n) := rfl
theorem celQ_lst {ds : List D} {P : List D → Prop} : @celQ (some (some (.lst ds))) P = P ds := rfl
theorem celP_of {d : D} {P : Nat → List D → Prop} {k : Nat × List D → O} (h : ∀ n ds, @wp (k (n, ds)) w = P n ds) : @wp (match celL μ d with | none => .bad | some q => k q) w = celP μ d P := by
  unfold celL celP celQ
  cases d with
  | cel n =>
    simp only
    cases μ[n]? with
    | none => rfl
    | some o =>
      cases o with
      | none => rfl
      | some d => cases d <;> first | rfl | exact h _ _
  | _ => rfl
theorem w_app {o : T} : @wp (run S (.app o t) ε μ) w = @Ok _ (ev S o ε μ) (fun x => celP x.2 x.1 fun _ _ => @Ok _ (ev S t ε x.2) (fun y => celP y.2 x.1 fun n ds => ds.length < 16777216 ∧ w.n ε (y.2.set n (some (.lst (ds ++ [y.1]))))) fun x μ => w.x x ε μ) fun x μ => w.x x ε μ := by
  simp only [run, wp_then]
  congr 1; funext x
  refine celP_of fun n ds => ?_
  simp only [wp_then]
  congr 1; funext y
  unfold celL celP celQ
  cases x.1 with
  | cel n =>
    simp only
    cases y.2[n]? with
    | none => rfl
    | some o =>
      cases o with
      | none => rfl
      | some d => cases d <;> first | rfl | (simp only [wp_ite, wp_nx])
  | _ => rfl
theorem w_put {o : T} : @wp (run S (.put o k t) ε μ) w = @Ok _ (ev S t ε μ) (fun p => @Ok _ (ev S o ε p.2) (fun x => @Ok _ (ev S k ε x.2) (fun q => celP q.2 x.1 fun n ds => iP q.1 fun j => @OptP _ (L2.ixN ds.length j) fun i => w.n ε (q.2.set n (some (.lst (ds.set i p.1))))) fun x μ => w.x x ε μ) fun x μ => w.x x ε μ) fun x μ => w.x x ε μ := by
  simp only [run, wp_then]
  congr 1; funext p; congr 1; funext x; congr 1; funext q
  unfold celL celP celQ
  cases x.1 with
  | cel n =>
    simp only
    cases q.2[n]? with
    | none => rfl
    | some o =>
      cases o with
      | none => rfl
      | some d => cases d <;> first | rfl | (simp only; cases q.1 <;> first | rfl | (simp only [iP]; cases L2.ixN _ _ <;> rfl))
  | _ => rfl
/-- an instance in a cell -/
def insQ (o : Option (Option D)) [P : Nat → List D → Prop] : Prop := match o with | some (some (.ins c fs)) => P c fs | _ => False
theorem insQ_ins {c : Nat} {fs : List D} {P : Nat → List D → Prop} : @insQ (some (some (.ins c fs))) P = P c fs := rfl
def insP (μ : Mem) (d : D) (P : Nat → Nat → List D → Prop) : Prop := match d with | .cel n => @insQ μ[n]? (P n) | _ => False
theorem insP_cel {n : Nat} {P : Nat → Nat → List D → Prop} : insP μ (.cel n) P = @insQ μ[n]? (P n) := rfl
theorem w_fld {o : T} {f : Nat} : @wp (run S (.fld o f t) ε μ) w = @Ok _ (ev S t ε μ) (fun p => @Ok _ (ev S o ε p.2) (fun x => insP x.2 x.1 fun n c fs => @OptP _ (fldE (S.fl c) f p.1 fs) fun gs => w.n ε (x.2.set n (some (.ins c gs)))) fun x μ => w.x x ε μ) fun x μ => w.x x ε μ := by
  simp only [run, wp_then]
  congr 1; funext p; congr 1; funext x
  unfold insP
  cases x.1 with
  | cel n =>
    simp only
    cases x.2[n]? with
    | none => rfl
    | some o =>
      cases o with
      | none => rfl
      | some d => cases d <;> first | rfl | (simp only [insQ]; cases fldE _ _ _ _ <;> rfl)
  | _ => rfl
theorem w_exp : @wp (run S (.exp t) ε μ) w = @Ok _ (ev S t ε μ) (fun p => w.n ε p.2) fun x μ => w.x x ε μ := by simp only [run, wp_then]; rfl
theorem w_ret : @wp (run S (.ret t) ε μ) w = @Ok _ (ev S t ε μ) (fun p => w.r p.1 p.2) fun x μ => w.x x ε μ := by simp only [run, wp_then]; rfl
theorem w_rs0 {c : Nat} : @wp (run S (.rs0 c) ε μ) w = (S.xar c = some 0 ∧ w.x ⟨c, []⟩ ε μ) := by
  simp only [run]
  cases S.xar c with
  | none => simp [wp]
  | some n => cases n <;> simp [wp]
theorem w_ite : @wp (run S (.ite t a b) ε μ) w = @Ok _ (ev S t ε μ) (fun p => @tB p.1 (@wp (runB S a ε p.2) w) (@wp (runB S b ε p.2) w)) fun x μ => w.x x ε μ := by
  simp only [run, wp_then]
  congr 1; funext p
  obtain ⟨d, μ1⟩ := p
  cases d with
  | bl k => cases k <;> rfl
  | _ => rfl
/-- behind an except suite -/
def shutW (nm : Option Nat) (w : Wp) : Wp := { n := fun ε μ => w.n (unbE nm ε) μ, r := w.r, b := fun ε μ => w.b (unbE nm ε) μ, c := fun ε μ => w.c (unbE nm ε) μ, x := fun _ _ _ => False }
theorem wp_shut {nm : Option Nat} : @wp (o.shut nm) w = @wp o (shutW nm w) := by cases o <;> rfl
/-- does a clause take it -/
def hndP (o : Option Bool) [A : Prop] [B : Prop] : Prop := match o with | some true => A | some false => B | none => False
theorem h_true {A B : Prop} : @hndP (some true) A B = A := rfl
theorem w_tr {h : Hl} {e : B} : @wp (run S (.tr a h e) ε μ) w = @wp (runB S a ε μ) { n := fun ε μ => @wp (runB S e ε μ) w, r := w.r, b := w.b, c := w.c, x := fun x ε μ => @wp (runH S h x ε μ) w } := by
  simp only [run]
  cases runB S a ε μ <;> rfl
theorem w_hnil {x : Exn} : @wp (runH S .nil x ε μ) w = w.x x ε μ := rfl
theorem w_hcons {x : Exn} {c : Nat} {nm : Option Nat} {r : Hl} : @wp (runH S (.cons c nm a r) x ε μ) w = @hndP (S.isk (some x.c) c) (@wp (runB S a (bindX nm x ε) μ) (shutW nm w)) (@wp (runH S r x ε μ) w) := by
  simp only [runH]
  cases S.isk (some x.c) c with
  | none => rfl
  | some b => cases b with
    | true => exact wp_shut
    | false => rfl
theorem bx_none {x : Exn} : bindX none x ε = ε := rfl
theorem ub_none : unbE none ε = ε := rfl
theorem t_exc {c : Nat} {xs : List D} : top μ (.exc c xs) = .exc c xs := rfl
theorem at_exc {c f : Nat} {xs : List D} : attE S f (.exc c xs) = ((S.fl c).zip xs).lookup f := rfl
theorem is_exc {c k : Nat} {xs : List D} : iscE S k (.exc c xs) = (S.isk (some c) k).map .bl := rfl
theorem w_for {tg : Tg} {it : It} : @wp (run S (.for_ tg it a) ε μ) w = @Ok _ (evi S it ε μ) (fun p => @wp (goFI tg (runB S a) p.1 ε p.2) w) fun x μ => w.x x ε μ := by
  simp only [run, wp_then]
theorem w_its {tg : Tg} {body : Ev → Mem → O} {ds : List D} : @wp (goFI tg body (.its ds) ε μ) w = @wp (goF tg body ds ε μ) w := rfl
/-- a walk by an invariant of what was walked -/
theorem wp_goF {tg : Tg} {body : Ev → Mem → O} {ds : List D} (I : List D → Ev → Mem → Prop) (h0 : I [] ε μ)
    (hs : ∀ pre d suf ε μ, pre ++ d :: suf = ds → I pre ε μ → ∃ ε1, binds tg μ d ε = some ε1 ∧ @wp (body ε1 μ) { n := I (pre ++ [d]), c := I (pre ++ [d]), r := w.r, b := w.n, x := w.x }) (he : ∀ ε μ, I ds ε μ → w.n ε μ) : @wp (goF tg body ds ε μ) w := by
  have key : ∀ (suf pre : List D) (ε : Ev) (μ : Mem), pre ++ suf = ds → I pre ε μ → @wp (goF tg body suf ε μ) w := by
    intro suf
    induction suf with
    | nil => intro pre ε μ e i; rw [List.append_nil] at e; subst e; exact he ε μ i
    | cons d r ih =>
      intro pre ε μ e i
      obtain ⟨ε1, hb, hw⟩ := hs pre d r ε μ e i
      have e2 : goF tg body (d :: r) ε μ = (match body ε1 μ with | .nx ε2 μ2 => goF tg body r ε2 μ2 | .ct ε2 μ2 => goF tg body r ε2 μ2 | .bk ε2 μ2 => .nx ε2 μ2 | o => o) := by first | (rw [goF, hb]; done) | (rw [goF, hb]; dsimp only; generalize body ε1 μ = q; cases q <;> rfl)
      rw [e2]
      cases ho : body ε1 μ with
      | nx ε2 μ2 => rw [ho] at hw; exact ih (pre ++ [d]) ε2 μ2 (by simpa using e) hw
      | ct ε2 μ2 => rw [ho] at hw; exact ih (pre ++ [d]) ε2 μ2 (by simpa using e) hw
      | bk ε2 μ2 => rw [ho] at hw; exact hw
      | rt d μ2 => rw [ho] at hw; exact hw
      | ex x ε μ2 => rw [ho] at hw; exact hw
      | bad => rw [ho] at hw; exact hw.elim
  exact key ds [] ε μ rfl h0
/-- a def's result -/
theorem callB_ok {f : Df} {ds : List D} {P : D × Mem → Prop} {E : Exn → Mem → Prop} (hl : ds.length = f.ps) (h : @wp (runB S f.body (ev0 f.ns ds) μ) { n := fun _ μ => P (.non, μ), r := fun d μ => P (d, μ), b := fun _ _ => False, c := fun _ _ => False, x := fun x _ μ => E x μ }) : @Ok _ (callB S f ds μ) P E := by
  unfold callB
  rw [if_pos hl]
  cases e : runB S f.body (ev0 f.ns ds) μ with
  | nx ε => rw [e] at h; exact h
  | rt d => rw [e] at h; exact h
  | bk ε => rw [e] at h; exact h.elim
  | ct ε => rw [e] at h; exact h.elim
  | ex x ε => rw [e] at h; exact h
  | bad => rw [e] at h; exact h.elim
end
/-- the turns of a comprehension, item by item -/
theorem goLc_ok {tg : Tg} {ε : Ev} {μ : Mem} {cd elt : Ev → Mem → Rd0} {p : D → Bool} {f : D → D} : ∀ {ds : List D}, (∀ d ∈ ds, ∃ ε1, binds tg μ d ε = some ε1 ∧ cd ε1 μ = .ok (.bl (p d), μ) ∧ (p d = true → elt ε1 μ = .ok (f d, μ))) →
    goLc tg ε cd elt ds μ = .ok ((ds.filter p).map f, μ)
  | [], _ => rfl
  | d :: r, h => by
    obtain ⟨ε1, h1, h2, h3⟩ := h d (by simp)
    have ih := goLc_ok (tg := tg) (ε := ε) (μ := μ) (cd := cd) (elt := elt) (p := p) (f := f) (ds := r) fun e he => h e (by simp [he])
    rw [goLc, h1]
    simp only [h2, R.bind]
    cases hp : p d with
    | true =>
      have h6 := h3 hp
      simp only [h6, ih, List.filter_cons, hp, List.map_cons, if_true]
    | false => simp only [ih, List.filter_cons, hp, Bool.false_eq_true, if_false]
theorem ok_eq {α : Type} {r : R α} {a : α} : (@Ok _ r (fun b => b = a) fun _ _ => False) = (r = .ok a) := by
  cases r with
  | ok b => exact propext ⟨fun h => by rw [show b = a from h], fun h => by cases h; rfl⟩
  | ex x => exact propext ⟨fun h => h.elim, fun h => by cases h⟩
  | bad => exact propext ⟨fun h => h.elim, fun h => by cases h⟩
theorem len_rng {lo : Int} {n : Nat} : (rngD lo n).length = n := by simp [rngD]
/-- the i-th def, given as, hands back d: from c calls deep on -/
def Fn (T : Tb) (c i : Nat) (as : List D) (d : D) : Prop := as.length = T.ar i ∧ i < T.dfs.length ∧ ∀ k, c ≤ k → ∃ μ, (T.mn k).fn i as [] = .ok (d, μ)
/-- .. raises -/
def Fx (T : Tb) (c i : Nat) (as : List D) (x : Exn) : Prop := as.length = T.ar i ∧ i < T.dfs.length ∧ ∀ k, c ≤ k → ∃ μ, (T.mn k).fn i as [] = .ex x μ
section
variable {T : Tb} {c i k : Nat} {as : List D} {d : D} {f : Df} {μ : Mem}
theorem fn_def {ds : List D} (h : T.dfs[i]? = some f) : (T.mn (k + 1)).fn i ds μ = callB (T.mn k) f ds μ := by
  show (match T.dfs[i]? with | some d => callB (T.mn k) d ds μ | none => .bad) = _
  rw [h]
theorem run_all {n : Nat} {ds : List D} (h : ds.length = T.ar n) (h2 : n < T.dfs.length) : (T.mn k).run n ds μ = (T.mn k).fn n ds μ := by
  obtain ⟨_, _, _, _, q5, q6, q7, _⟩ := mn_parts (T := T) k
  unfold Mn.run Mn.fill
  rw [q5, q6, q7, h]
  simp [h2]
/-- a def's meaning, from its body -/
theorem fn_of (hf : T.dfs[i]? = some f) (hl : as.length = f.ps) (h : ∀ k, c ≤ k → @wp (runB (T.mn k) f.body (ev0 f.ns as) []) { n := fun _ _ => d = .non, r := fun e _ => e = d, b := fun _ _ => False, c := fun _ _ => False, x := fun _ _ _ => False }) : Fn T (c + 1) i as d := by
  refine ⟨by unfold Tb.ar; rw [hf]; exact hl, (List.getElem?_eq_some_iff.mp hf).1, fun k hk => ?_⟩
  obtain ⟨k, rfl⟩ : ∃ j, k = j + 1 := ⟨k - 1, by omega⟩
  rw [fn_def hf]
  have := callB_ok (P := fun p => p.1 = d) (E := fun _ _ => False) hl (wp_imp (h k (by omega)) (fun _ _ h => h.symm) (fun _ _ h => h) (fun _ _ h => h) (fun _ _ h => h) (fun _ _ _ h => h))
  obtain ⟨⟨e, μ'⟩, h1, h2⟩ := this.get
  simp only at h2
  subst h2
  exact ⟨μ', h1⟩
theorem fx_of {x : Exn} (hf : T.dfs[i]? = some f) (hl : as.length = f.ps) (h : ∀ k, c ≤ k → @wp (runB (T.mn k) f.body (ev0 f.ns as) []) { n := fun _ _ => False, r := fun _ _ => False, b := fun _ _ => False, c := fun _ _ => False, x := fun y _ _ => y = x }) : Fx T (c + 1) i as x := by
  refine ⟨by unfold Tb.ar; rw [hf]; exact hl, (List.getElem?_eq_some_iff.mp hf).1, fun k hk => ?_⟩
  obtain ⟨k, rfl⟩ : ∃ j, k = j + 1 := ⟨k - 1, by omega⟩
  rw [fn_def hf]
  have := callB_ok (P := fun _ => False) (E := fun y _ => y = x) hl (h k (by omega))
  cases e : callB (T.mn k) f as [] with
  | ok a => rw [e] at this; exact this.elim
  | ex y μ => rw [e] at this; exact ⟨μ, by rw [show y = x from this]⟩
  | bad => rw [e] at this; exact this.elim
end
end DM
set_option Elab.async false
set_option linter.all false
set_option maxRecDepth 100000
set_option maxHeartbeats 4000000
namespace DM
open PySem L2 PySem.Spec PyProof.Rows
def iV : D → V | .non => .non | .bl b => .bl b | .int i => .int i | .str x => .str (mkS x) | _ => .non
def litI : D → Bool | .non => true | .bl _ => true | .int _ => true | .str x => okS x | _ => false
section
variable {K : PySem.W.Frag}
theorem litI_rp {d : D} (h : litI d = true) {cl : Cls0} {φ : List Addr} {H : Hp} {Y : Addr → Prop} : Rp cl K φ H Y (iV d) d := by
  cases d <;> first | exact .non | exact .bl _ | exact .int _ | exact .str _ h | cases h
theorem litI_rps {cl : Cls0} {φ : List Addr} {H : Hp} {Y : Addr → Prop} : ∀ {ds : List D}, ds.all litI = true → Rps cl K φ H Y (ds.map iV) ds
  | [], _ => .nil
  | d :: r, h => by
    rw [List.all_cons, Bool.and_eq_true] at h
    exact .cons (litI_rp h.1) (litI_rps h.2)
theorem litI_imms : ∀ {ds : List D}, ds.all litI = true → imms ds = true
  | [], _ => rfl
  | d :: r, h => by
    rw [List.all_cons, Bool.and_eq_true] at h
    have := litI_imms h.2
    have h1 := h.1
    cases d <;> first | simpa [imms, imm] using this | cases h1
theorem all_drop {ds : List D} {j : Nat} (h : ds.all litI = true) : (ds.drop j).all litI = true := List.all_eq_true.mpr fun x hx => List.all_eq_true.mp h x (List.mem_of_mem_drop hx)
/-- the defaults' facts, from their bindings -/
theorem dfl_some {fd : FuncData} {ps : List Str} {n : Nat} {dv : List D} (hn : ps.length = n) (hd : dv.all litI = true) (hb : ∀ j ≤ dv.length, ∃ us, Vals ((dv.map iV).drop j) us ∧ Binds K fd ps us) : Dfl K fd ps n dv :=
  ⟨hn, litI_imms hd, fun j hj => by
    obtain ⟨us, h1, h2⟩ := hb j hj
    exact ⟨(dv.map iV).drop j, us, h1, fun cl φ H X => by rw [← List.map_drop]; exact litI_rps (all_drop hd), h2⟩⟩
/-- a def with defaults, as it stands in the written part -/
theorem fund_dv {x qual : Str} {st : Stmt} {f dT : Addr} {oc dc : Value} {od an dd : Option Addr} {osl dsl : Array (Option Value)} {kV doc pm cdv ct : Value} {dvs : List V} {its : Array Value} {dn : Nat}
    (l : K.lookup f = some ⟨oc, od, .func (PySem.W.fnOf x qual (defArgs st) (defBody st) (defScope st) (.ref dT) kV doc pm an cdv ct), osl⟩)
    (ld : K.lookup dT = some ⟨dc, dd, .seq its dn, dsl⟩) (hne : dvs ≠ []) (le : He.relAll dvs its.toList = true)
    (c : PySem.W.codeIn K cdv qual = true) (k : PySem.W.keepIn K (.ref f) = true) : FunD K x qual (defArgs st) (defBody st) (defScope st) dvs [] f (PySem.W.fnOf x qual (defArgs st) (defBody st) (defScope st) (.ref dT) kV doc pm an cdv ct) :=
  ⟨⟨oc, od, .ref dT, kV, doc, pm, an, cdv, ct, osl, rfl, l, c, .inr ⟨hne, dT, _, its.toList, dn, rfl, ld, by simp, He.relAll_ok le⟩, .inl rfl⟩, k⟩
theorem glo_rp {s : Str} {x : List Nat} (h : (okS x && decide (mkS x = s)) = true) : ∀ (cl : Cls0) (φ : List Addr) (H : Hp) (Y : Addr → Prop), Rp cl K φ H Y (.str s) (.str x) := fun cl φ H Y => by
  rw [Bool.and_eq_true, decide_eq_true_eq] at h
  obtain ⟨h1, rfl⟩ := h
  exact .str x h1
end
/-- isinstance's answers, as a table -/
def tabF (l : List (Option Nat × Nat × Bool)) (o : Option Nat) (c : Nat) : Option Bool := (l.find? fun e => e.1 == o && e.2.1 == c).map (·.2.2)
theorem tabF_mem {l : List (Option Nat × Nat × Bool)} {o : Option Nat} {c : Nat} {b : Bool} (h : tabF l o c = some b) : (o, c, b) ∈ l := by
  unfold tabF at h
  obtain ⟨⟨o', c', b'⟩, h1, h2⟩ := Option.map_eq_some_iff.mp h
  have h3 := List.find?_some h1
  have h4 := List.mem_of_find?_eq_some h1
  simp only [Bool.and_eq_true, beq_iff_eq] at h2 h3
  obtain ⟨rfl, rfl⟩ := h3
  subst h2
  exact h4
/-- an exception's class with an own __init__, as it stands in the written part -/
def oexB (C : Addr) (cd : ClassData) (sl : Array (Option Value)) : Bool := match cd.mro, sl.toList with
  | .ref C' :: bm, [_, _, _, _, some (.builtin n), _] => C' == C && n == "ValueError.__new__" && !cd.hasDel && cd.hasDict && PySem.HandSPX.refsVE bm
  | _, _ => false
theorem oex_of {K : PySem.W.Frag} {C : Addr} {dd : Option Addr} {cd : ClassData} {sl : Array (Option Value)} (l : K.lookup C = some ⟨.type "type", dd, .cls cd, sl⟩) (b : oexB C cd sl = true) (sa : PySem.W.findIn K (.ref C) "__setattr__" = some (some (.builtin "object.__setattr__")))
    (sb : PySem.W.subIn K (.ref C) (.type "BaseException") = some true) (ty : PySem.W.typeIn K (.ref C) = some (.type "type")) (kp : PySem.W.keepIn K (.ref C) = true) : OexC K C := by
  refine ⟨?_, sa, sb, ty, kp⟩
  unfold oexB at b
  split at b
  · rename_i C' bm k0 k1 k2 k3 n k5 hm hs
    simp only [Bool.and_eq_true, beq_iff_eq, Bool.not_eq_true'] at b
    obtain ⟨⟨⟨⟨b1, b2⟩, b3⟩, b4⟩, b5⟩ := b
    subst b1 b2
    obtain ⟨nm, bs, mro, ns, qn, hd, sn, sub, ab, col, del⟩ := cd
    dsimp only at hm b3 b4
    subst hm b3 b4
    obtain ⟨sl⟩ := sl
    simp only at hs
    subst hs
    exact ⟨nm, qn, _, bs, bm, sn, sub, ab, col, dd, k0, k1, k2, k3, k5, l, b5⟩
  · cases b
theorem kit_cls2 {K : PySem.W.Frag} {C' C : Addr} {b d : Bool} (h1 : PySem.W.hasDictIn K C = true) (h2 : PySem.W.typeIn K (.ref C) = some (.type "type")) (h3 : PySem.W.subIn K (.ref C') (.ref C) = some b) (h4 : (C' == C) = d) (h5 : d = true → b = true) : PySem.W.kitOne K (.ref C') (.ref C) = some b :=
  kit_cls1 h1 h2 h3 fun z => h5 (by rw [← h4, Value.ref.inj z]; simp)
theorem kit_nat {K : PySem.W.Frag} {T : String} {C : Addr} (_h : (1 : Nat) = 1) (h1 : PySem.W.hasDictIn K C = true) (h2 : PySem.W.typeIn K (.ref C) = some (.type "type")) (h3 : PySem.W.subIn K (.type T) (.ref C) = some false) : PySem.W.kitOne K (.type T) (.ref C) = some false := kit_cls1 h1 h2 h3 fun z => by cases z
theorem kit_ve {K : PySem.W.Frag} {C : Addr} (h : PySem.W.subIn K (.ref C) (.type "ValueError") = some true) : PySem.W.kitOne K (.ref C) (.type "ValueError") = some true := by
  unfold PySem.W.kitOne
  rw [if_neg (by simp)]
  show (if PySem.W.kitMeta "ValueError" = true then PySem.W.subIn K (.ref C) (.type "ValueError") else none) = some true
  rw [if_pos (by decide +kernel)]
  exact h
end DM
set_option Elab.async false
set_option linter.all false
set_option maxRecDepth 100000
set_option maxHeartbeats 400000
namespace DL
open DM
theorem call_puE {T : Tb} {c i k : Nat} {as : List D} {d : D} (h : Fn T c i as d) (hk : c ≤ k) (h1 : cfs as = true) (h2 : cf d = true) {μ : Mem} {P : D × Mem → Prop} {E : Exn → Mem → Prop} : @Ok _ (callE (T.mn k) .pu i as μ) P E = P (d, μ) := by
  obtain ⟨a1, a2, a3⟩ := h
  obtain ⟨μ', e⟩ := a3 k hk
  simp only [callE, h1, if_true, run_all a1 a2, e, R.pure, h2]
  rfl
theorem atE_nat {α : Type} {xs : List α} {k : Nat} (h : k < xs.length) : atE xs (k : Int) = some xs[k] := by
  unfold atE
  rw [if_pos (by omega), Int.toNat_natCast, List.getElem?_eq_getElem h]
theorem sm_mod {x m : Int} (h1 : 0 < m) (h2 : m < 18446744073709551616) : smallI (x % m) = true := by
  have a := Int.emod_nonneg x (Int.ne_of_gt h1)
  have b := Int.emod_lt_of_pos x h1
  exact smallI_iff.mpr ⟨by omega, by omega⟩
theorem sm_of {i : Int} (h1 : -18446744073709551616 < i) (h2 : i < 18446744073709551616) : smallI i = true := by
  exact smallI_iff.mpr ⟨h1, h2⟩
theorem sm_l {i j : Int} (h : smallI i = true) : (smallI i || smallI j) = true := by rw [h]; rfl
theorem sm_r {i j : Int} (h : smallI j = true) : (smallI i || smallI j) = true := by rw [h, Bool.or_true]
def bCellAt : B :=
 (.cons (.ite (.cmp .lt (.var 1) (.bi .len (.cons (.var 0) .nil)))
 (.cons (.ret (.idx (.var 0) (.var 1)))
 .nil)
 .nil)
 (.cons (.ret (.lit (.int 0)))
 .nil))
theorem cellAt_fn {T : Tb} {i : Nat} (h : T.dfs[i]? = some ⟨2, 2, bCellAt⟩) (ns : List Int) (k : Nat) : Fn T 1 i [.lst (ns.map .int), .int k] (.int (ns.getD k 0)) := by
  refine fn_of h rfl fun j hj => ?_
  simp only [bCellAt, ev0, List.map_cons, List.map_nil, List.length_cons, List.length_nil, Nat.reduceAdd, Nat.reduceSub, List.replicate, List.cons_append, List.nil_append, w_cons, w_nil, w_ret, v_lit, w_ite, v_idx, v_var, List.getElem?_cons_succ, List.getElem?_cons_zero, get_some, t_int, t_lst, i_lst, v_cmp, x_lt, v_bi, v_cons, v_nil, n_lenl, List.length_map, op_some, c_lt, tB_bl, decide_eq_true_eq, decide_eq_false_iff_not]
  refine ⟨fun hk => ?_, fun hk => ?_⟩
  · have hk : k < ns.length := by omega
    rw [atE_nat (by simpa using hk), op_some]
    simp [List.getD_eq_getElem?_getD, hk]
  · have hk : ¬ k < ns.length := by omega
    simp [List.getD_eq_getElem?_getD, List.getElem?_eq_none (Nat.le_of_not_lt hk)]
def bMixed : B :=
 (.cons (.asg (.nm 2) (.bin .mod (.bin .add (.bin .mul (.var 0) (.bin .add (.lit (.int 1299709)) (.bin .mul (.lit (.int 210)) (.var 1)))) (.bin .mul (.lit (.int 7919)) (.var 1))) (.lit (.int 15485863))))
 (.cons (.asg (.nm 3) (.bin .mod (.bin .add (.bin .mul (.var 2) (.var 2)) (.var 1)) (.lit (.int 32452843))))
 (.cons (.ret (.bin .mod (.bin .add (.bin .mul (.var 3) (.var 3)) (.var 2)) (.lit (.int 49979687))))
 .nil)))
def mixed (n s : Int) : Int :=
  let one := (n * (1299709 + 210 * s) + 7919 * s) % 15485863
  let two := (one * one + s) % 32452843
  (two * two + one) % 49979687
theorem mixed_fn {T : Tb} {i : Nat} (h : T.dfs[i]? = some ⟨2, 4, bMixed⟩) (n s : Int) (h3 : 0 ≤ s) (h4 : s < 1000) : Fn T 1 i [.int n, .int s] (.int (mixed n s)) := by
  refine fn_of h rfl fun j hj => ?_
  simp only [bMixed, ev0, List.map_cons, List.map_nil, List.length_cons, List.length_nil, Nat.reduceAdd, Nat.reduceSub, List.replicate, List.cons_append, List.nil_append, w_cons, w_nil, w_ret, v_bin, v_lit, t_int, v_var, w_asg, binds, op_some, List.set_cons_succ, List.set_cons_zero, List.getElem?_cons_succ, List.getElem?_cons_zero, get_some, b_mul, op_ite, b_add, b_mod]
  exact ⟨sm_l rfl, sm_r (sm_of (by omega) (by omega)), sm_l rfl, by decide, sm_l (sm_mod (by decide) (by decide)), by decide, sm_l (sm_mod (by decide) (by decide)), by decide, rfl⟩
theorem mixed_pos (n s : Int) : 0 ≤ mixed n s := Int.emod_nonneg _ (by decide)
def bNumber (m : Nat) : B :=
 (.cons (.ite (.and (.cmp .eq (.bin .mod (.var 0) (.lit (.int 2))) (.lit (.int 0))) (.cmp .ge (.var 0) (.bin .mul (.lit (.int 2)) (.bin .pow (.lit (.int 10)) (.lit (.int 18))))))
 (.cons (.ret (.bin .sub (.bin .fdiv (.var 0) (.lit (.int 2))) (.bin .pow (.lit (.int 10)) (.lit (.int 18)))))
 .nil)
 .nil)
 (.cons (.asg (.nm 2) (.bin .mod (.var 0) (.lit (.int 1000000007))))
 (.cons (.asg (.nm 3) (.bin .add (.bin .mul (.call .pu m (.cons (.var 2) (.cons (.var 1) .nil))) (.lit (.int 49979687))) (.call .pu m (.cons (.var 2) (.cons (.bin .add (.var 1) (.lit (.int 1))) .nil)))))
 (.cons (.ret (.bin .add (.bin .mul (.var 3) (.lit (.int 49979687))) (.call .pu m (.cons (.var 2) (.cons (.bin .add (.var 1) (.lit (.int 2))) .nil)))))
 .nil))))
def number (c s : Int) : Int := if c % 2 = 0 ∧ 2000000000000000000 ≤ c then c / 2 - 1000000000000000000 else
  (mixed (c % 1000000007) s * 49979687 + mixed (c % 1000000007) (s + 1)) * 49979687 + mixed (c % 1000000007) (s + 2)
theorem number_pos (c s : Int) : 0 ≤ number c s := by
  unfold number
  split
  · omega
  · have := mixed_pos (c % 1000000007) s; have := mixed_pos (c % 1000000007) (s + 1); have := mixed_pos (c % 1000000007) (s + 2); omega
theorem number_fn {T : Tb} {i m : Nat} (h : T.dfs[i]? = some ⟨2, 4, bNumber m⟩) (hm : ∀ n s : Int, 0 ≤ s → s < 1000 → Fn T 1 m [.int n, .int s] (.int (mixed n s))) (c s : Int) (h3 : 0 ≤ s) (h4 : s < 900) : Fn T 2 i [.int c, .int s] (.int (number c s)) := by
  refine fn_of h rfl fun j hj => ?_
  have e1 : ∀ {s : Int}, 0 ≤ s → s < 1000 → ∀ {μ : Mem} {P : D × Mem → Prop} {E : Exn → Mem → Prop}, @Ok _ (callE (T.mn j) .pu m [.int (c % 1000000007), .int s] μ) P E = P (.int (mixed (c % 1000000007) s), μ) := fun a b => call_puE (hm _ _ a b) hj rfl rfl
  have f1 := @e1 s h3 (by omega)
  have f2 := @e1 (s + 1) (by omega) (by omega)
  have f3 := @e1 (s + 2) (by omega) (by omega)
  simp only [bNumber, ev0, List.map_cons, List.map_nil, List.length_cons, List.length_nil, Nat.reduceAdd, Nat.reduceSub, List.replicate, List.cons_append, List.nil_append, w_cons, w_nil, w_ret, v_bin, v_call, v_cons, v_nil, v_lit, t_int, v_var, w_asg, binds, op_some, w_ite, b_pow, op_ite, List.getElem?_cons_zero, get_some, b_fdiv, b_sub, List.set_cons_succ, List.set_cons_zero, List.getElem?_cons_succ, b_add, b_mod, f3, f2, f1, b_mul, v_and, v_cmp, x_ge, c_ge, tB_bl, decide_eq_true_eq, decide_eq_false_iff_not, Bool.false_eq_true, false_implies, true_implies, true_and, x_eq, c_eq, r_int, eqD_int]
  have p : (2 : Int) * 10 ^ Int.toNat 18 = 2000000000000000000 := rfl
  have p2 : (10 : Int) ^ Int.toNat 18 = 1000000000000000000 := rfl
  rw [p, p2]
  refine ⟨by decide, rfl, fun h1 => ⟨by decide, by decide, fun h2 => ⟨by decide, by decide, ?_⟩, fun h2 => ?_⟩, fun h1 => ?_⟩
  · unfold number; rw [if_pos ⟨h1, h2⟩]
  · refine ⟨by decide, sm_r rfl, sm_r rfl, ?_⟩
    unfold number; rw [if_neg (fun z => h2 z.2)]
  · refine ⟨by decide, sm_r rfl, sm_r rfl, ?_⟩
    unfold number; rw [if_neg (fun z => h1 z.1)]
def bSome : B :=
 (.cons (.asg (.nm 3) (.lit (.str [])))
 (.cons (.for_ (.nm 4) (.r1 (.var 1))
 (.cons (.asg (.nm 5) (.idx (.var 2) (.bin .mod (.var 0) (.bi .len (.cons (.var 2) .nil)))))
 (.cons (.asg (.nm 0) (.bin .fdiv (.var 0) (.bi .len (.cons (.var 2) .nil))))
 (.cons (.ite (.cmp .notin (.var 5) (.var 3))
 (.cons (.asg (.nm 3) (.bin .add (.var 3) (.var 5)))
 .nil)
 .nil)
 .nil))))
 (.cons (.ret (.tup (.cons (.var 3) (.cons (.var 0) .nil))))
 .nil)))
/-- signs each once, of these -/
structure Role (lo hi : Nat) (M x : List Nat) : Prop where
  nd : x.Nodup
  lo : lo ≤ x.length
  hi : x.length ≤ hi
  sub : ∀ s ∈ x, s ∈ M
theorem Role.mono {lo hi lo' hi' : Nat} {M N x : List Nat} (r : Role lo hi M x) (h1 : lo' ≤ lo) (h2 : hi ≤ hi') (h3 : ∀ s ∈ M, s ∈ N) : Role lo' hi' N x := ⟨r.nd, Nat.le_trans h1 r.lo, Nat.le_trans r.hi h2, fun s hs => h3 s (r.sub s hs)⟩
def addS (x : List Nat) (s : Nat) : List Nat := if s ∈ x then x else x ++ [s]
theorem addS_role {lo hi : Nat} {M x : List Nat} {s : Nat} (r : Role lo hi M x) (hs : s ∈ M) : Role (min 1 (lo + 1)) (hi + 1) M (addS x s) := by
  unfold addS
  split
  · rename_i h
    refine ⟨r.nd, ?_, Nat.le_succ_of_le r.hi, r.sub⟩
    have : 0 < x.length := List.length_pos_of_mem h
    omega
  · rename_i h
    refine ⟨List.nodup_append.mpr ⟨r.nd, by simp, fun a ha b hb => ?_⟩, by simp, by have := r.hi; simp; omega, fun t ht => ?_⟩
    · rw [List.mem_singleton] at hb; subst hb; rintro rfl; exact h ha
    · rcases List.mem_append.mp ht with h1 | h1
      · exact r.sub t h1
      · rw [List.mem_singleton] at h1; subst h1; exact hs
def atM (M : List Nat) (z : Int) : Nat := M.getD (z % (M.length : Int)).toNat 0
theorem atM_mem {M : List Nat} {z : Int} (h : M ≠ []) : atM M z ∈ M ∧ atE M (z % (M.length : Int)) = some (atM M z) := by
  have hl : 0 < M.length := List.length_pos_iff.mpr h
  have h0 := Int.emod_nonneg z (b := (M.length : Int)) (by omega)
  have h1 := Int.emod_lt_of_pos z (b := (M.length : Int)) (by omega)
  obtain ⟨k, hk⟩ : ∃ k : Nat, z % (M.length : Int) = k := ⟨(z % (M.length : Int)).toNat, by omega⟩
  unfold atM
  rw [hk] at h1 ⊢
  have hk2 : k < M.length := by omega
  rw [atE_nat hk2, Int.toNat_natCast, List.getD_eq_getElem?_getD, List.getElem?_eq_getElem hk2]
  exact ⟨by simp, by simp⟩
def someV (M : List Nat) (n : Int) : Nat → List Nat × Int
  | 0 => ([], n)
  | k + 1 => (addS (someV M n k).1 (atM M (someV M n k).2), (someV M n k).2 / (M.length : Int))
theorem someV_ok {M : List Nat} {n : Int} (hn : 0 ≤ n) (hM : M ≠ []) : ∀ k, 0 ≤ (someV M n k).2 ∧ Role (min 1 k) k M (someV M n k).1
  | 0 => ⟨hn, List.nodup_nil, by simp, Nat.le_refl _, fun s hs => by cases hs⟩
  | k + 1 => by
    obtain ⟨h1, h2⟩ := someV_ok hn hM k
    have hl : 0 < M.length := List.length_pos_iff.mpr hM
    refine ⟨Int.ediv_nonneg h1 (by omega), ?_⟩
    have := addS_role h2 (atM_mem (z := (someV M n k).2) hM).1
    exact this.mono (by omega) (Nat.le_refl _) fun _ h => h
theorem some_fn {T : Tb} {i : Nat} (h : T.dfs[i]? = some ⟨3, 6, bSome⟩) (n : Int) (many : Nat) (M : List Nat) (hn : 0 ≤ n) (hm : many ≤ 1000) (hM : M ≠ []) (hl : M.length < 10000) : Fn T 1 i [.int n, .int many, .str M] (.tup [.str (someV M n many).1, .int (someV M n many).2]) := by
  have hl0 : 0 < M.length := List.length_pos_iff.mpr hM
  refine fn_of h rfl fun j hj => ?_
  simp only [bSome, ev0, List.map_cons, List.map_nil, List.length_cons, List.length_nil, Nat.reduceAdd, Nat.reduceSub, List.replicate, List.cons_append, List.nil_append, w_cons, w_nil, w_ret, v_tup, v_cons, v_nil, v_var, w_for, v_r1, w_its, w_asg, binds, List.set_cons_succ, List.set_cons_zero, op_some, List.getElem?_cons_succ, List.getElem?_cons_zero, get_some, iP_int, v_lit]
  refine ⟨by unfold rngOk; simp; omega, ?_⟩
  generalize hds : rngD 0 (Int.toNat (many : Int)) = ds
  have hdl : ds.length = many := by rw [← hds, len_rng]; simp
  refine wp_goF (fun pre ε μ => ∃ (o1 o2 : Option D), ε = [some (.int (someV M n pre.length).2), some (.int many), some (.str M), some (.str (someV M n pre.length).1), o1, o2]) ⟨none, none, rfl⟩ ?_ ?_
  · rintro pre d suf ε μ e ⟨o1, o2, rfl⟩
    obtain ⟨v1, v2⟩ := someV_ok hn hM pre.length
    have hp : pre.length < many := by rw [← hdl, ← e]; simp
    refine ⟨_, rfl, ?_⟩
    obtain ⟨m1, m2⟩ := atM_mem (z := (someV M n pre.length).2) hM
    generalize hz : someV M n pre.length = p at *
    obtain ⟨x, z⟩ := p
    have r1 := v2.hi
    simp only at m1 m2 v1 v2 r1
    have hM1 : M.length ≤ 16777216 := by omega
    simp only [List.set_cons_succ, List.set_cons_zero, w_cons, w_nil, w_ite, w_asg, binds, op_some, v_bin, v_var, v_cmp, x_nin, v_bi, v_cons, List.map_cons, v_nil, List.map_nil, List.getElem?_cons_zero, List.getElem?_cons_succ, get_some, t_str, r_str, n_lens, hM1, op_ite, t_int, true_and, b_fdiv, v_idx, b_mod, i_str, m2, op_map, c_nins, b_adds, List.length_cons, List.length_nil, Nat.reduceAdd, tB_bl]
    have e1 : someV M n (pre.length + 1) = (addS x (atM M z), z / (M.length : Int)) := by
      rw [someV, hz]
    refine ⟨by omega, by omega, ?_, ?_⟩
    · intro hq
      refine ⟨by simp; omega, some d, some (.str [atM M z]), ?_⟩
      rw [List.length_append, List.length_singleton, e1]
      have hq : ¬ atM M z ∈ x := by simpa using hq
      unfold addS; rw [if_neg hq]
    · intro hq
      refine ⟨some d, some (.str [atM M z]), ?_⟩
      rw [List.length_append, List.length_singleton, e1]
      have hq : atM M z ∈ x := by simpa using hq
      unfold addS; rw [if_pos hq]
  · rintro ε μ ⟨o1, o2, rfl⟩
    simp only [hdl, List.getElem?_cons_succ, List.getElem?_cons_zero, get_some]
theorem some_fnI {T : Tb} {i : Nat} (h : T.dfs[i]? = some ⟨3, 6, bSome⟩) (n many : Int) (M : List Nat) (hn : 0 ≤ n) (h0 : 0 ≤ many) (hm : many ≤ 1000) (hM : M ≠ []) (hl : M.length < 10000) : Fn T 1 i [.int n, .int many, .str M] (.tup [.str (someV M n many.toNat).1, .int (someV M n many.toNat).2]) := by
  have := some_fn h n many.toNat M hn (by omega) hM hl
  rwa [Int.toNat_of_nonneg h0] at this
end DL
set_option Elab.async false
set_option linter.all false
set_option maxRecDepth 100000
set_option maxHeartbeats 400000
namespace DL
open DM
def PR : List Nat := [97,98,99,100,101,102,103,104,105,106,107,108,109,110,111,112,113,114,115,116,117,118,119,120,121,122,65,66,67,68,69,70,71,72,73,74,75,76,77,78,79,80,81,82,83,84,85,86,87,88,89,90,48,49,50,51,52,53,54,55,56,57,32,33,34,35,36,38,39,40,41,42,43,44,45,46,47,58,59,60,61,62,63,64,91,92,93,94,95,96,123,124,125,126]
def bRole (x p : Nat) : B :=
 (.cons (.ite (.or (.not (.isi (.var 0) .str)) (.or (.not (.chn .le .le (.var 1) (.bi .len (.cons (.var 0) .nil)) (.var 2))) (.cmp .lt (.lset (.var 0)) (.bi .len (.cons (.var 0) .nil)))))
 (.cons (.rs0 x)
 .nil)
 .nil)
 (.cons (.for_ (.nm 3) (.seq (.var 0))
 (.cons (.ite (.cmp .notin (.var 3) (.glob p))
 (.cons (.rs0 x)
 .nil)
 .nil)
 .nil))
 .nil))
theorem dst_go : ∀ (x σ : List Nat), (σ ++ x).Nodup → x.foldl stepK σ = σ ++ x
  | [], σ, _ => by simp
  | a :: r, σ, h => by
    have ha : a ∉ σ := fun z => by
      rw [List.nodup_append] at h
      exact h.2.2 a z a (by simp) rfl
    have e : stepK σ a = σ ++ [a] := by
      unfold stepK
      rw [if_neg]
      intro z
      obtain ⟨k, h1, h2⟩ := List.any_eq_true.mp z
      rw [decide_eq_true_eq] at h2
      subst h2; exact ha h1
    rw [List.foldl_cons, e, dst_go r (σ ++ [a]) (by simpa using h)]
    simp
theorem dst_nodup {x : List Nat} (h : x.Nodup) : dstS x = x := by
  have := dst_go x [] (by simpa using h)
  simpa [dstS] using this
theorem mem_pr {T : Tb} {p j : Nat} (hp : T.gl p = .str PR) : (T.mn j).gl p = .str PR := by rw [(mn_parts (T := T) j).1]; exact hp
theorem role_fn {T : Tb} {i x p : Nat} (h : T.dfs[i]? = some ⟨3, 4, bRole x p⟩) (hp : T.gl p = .str PR) {lo hi : Nat} {s : List Nat} (r : Role lo hi PR s) (hh : hi ≤ 4000) : Fn T 1 i [.str s, .int lo, .int hi] .non := by
  have hl := r.hi
  have hlo := r.lo
  refine fn_of h rfl fun j hj => ?_
  have hs : s.length ≤ 16777216 := by omega
  have hs2 : s.length ≤ 4000 := by omega
  simp only [bRole, ev0, List.map_cons, List.map_nil, List.length_cons, List.length_nil, Nat.reduceAdd, Nat.reduceSub, List.replicate, List.cons_append, List.nil_append, w_cons, w_nil, w_for, v_seq, v_var, w_ite, w_rs0, List.getElem?_cons_zero, get_some, q_str, op_some, w_its, v_or, tB_bl, true_implies, Bool.true_eq_false, false_implies, and_true, v_cmp, x_lt, v_bi, v_cons, v_nil, t_str, n_lens, hs, op_ite, t_int, true_and, v_lset, lsetE, hs2, dst_nodup r.nd, c_lt, decide_eq_true_eq, decide_eq_false_iff_not, v_not, Bool.false_eq_true, v_chn, x_le, List.getElem?_cons_succ, c_le, v_isi, isiE]
  refine ⟨fun _ => ⟨fun _ => ⟨fun z => absurd z (by omega), fun _ => ?_⟩, fun z => absurd (by omega) z⟩, fun z => absurd (by omega) z⟩
  refine wp_goF (fun pre ε μ => ∃ o, ε = [some (.str s), some (.int lo), some (.int hi), o]) ⟨none, rfl⟩ ?_ (fun _ _ _ => trivial)
  rintro pre d suf ε μ e ⟨o, rfl⟩
  obtain ⟨c, hc, rfl⟩ : ∃ c ∈ s, d = .str [c] := by
    have : d ∈ s.map fun c => D.str [c] := by rw [← e]; simp
    obtain ⟨c, hc, rfl⟩ := List.mem_map.mp this
    exact ⟨c, hc, rfl⟩
  refine ⟨_, rfl, ?_⟩
  have := r.sub c hc
  simp only [List.set_cons_succ, List.set_cons_zero, w_cons, w_nil, w_ite, w_rs0, v_cmp, x_nin, v_glob, mem_pr hp, r_str, v_var, List.getElem?_cons_succ, List.getElem?_cons_zero, get_some, c_nins, this, decide_true, Bool.not_true, op_some, tB_bl, Bool.false_eq_true, false_implies, true_implies, true_and]
  exact ⟨_, rfl⟩
/-- what is told of a dialect -/
structure Tl where
  p : List Nat
  q : List Nat
  f : List Nat
  t1 : Bool
  t2 : Bool
  t3 : Bool
  t4 : Bool
def Tl.ds (t : Tl) : List D := [.str t.p, .str t.q, .str t.f, .bl t.t1, .bl t.t2, .bl t.t3, .bl t.t4]
structure Good (t : Tl) : Prop where
  p : Role 1 3 PR t.p
  q : Role 0 2 PR t.q
  f : Role 0 2 PR t.f
def bInit (r g1 g2 g3 x f0 : Nat) : B :=
 (.cons (.exp (.call .pu r (.cons (.var 1) (.cons (.lit (.int 1)) (.cons (.glob g1) .nil)))))
 (.cons (.exp (.call .pu r (.cons (.var 2) (.cons (.lit (.int 0)) (.cons (.glob g2) .nil)))))
 (.cons (.exp (.call .pu r (.cons (.var 3) (.cons (.lit (.int 0)) (.cons (.glob g3) .nil)))))
 (.cons (.for_ (.nm 8) (.seq (.lst (.cons (.var 4) (.cons (.var 5) (.cons (.var 6) (.cons (.var 7) .nil))))))
 (.cons (.ite (.not (.isi (.var 8) .bool))
 (.cons (.rs0 x)
 .nil)
 .nil)
 .nil))
 (.cons (.fld (.var 0) f0 (.var 1))
 (.cons (.fld (.var 0) (f0 + 1) (.var 2))
 (.cons (.fld (.var 0) (f0 + 2) (.var 3))
 (.cons (.fld (.var 0) (f0 + 3) (.var 4))
 (.cons (.fld (.var 0) (f0 + 4) (.var 5))
 (.cons (.fld (.var 0) (f0 + 5) (.var 6))
 (.cons (.fld (.var 0) (f0 + 6) (.var 7))
 .nil)))))))))))
theorem gl_at {T : Tb} {p j : Nat} {d : D} (hp : T.gl p = d) : (T.mn j).gl p = d := by rw [(mn_parts (T := T) j).1]; exact hp
theorem fl_at {T : Tb} {p j : Nat} {d : List Nat} (hp : T.fl p = d) : (T.mn j).fl p = d := by rw [(mn_parts (T := T) j).2.1]; exact hp
def flD (f : Nat) : List Nat := [f, f + 1, f + 2, f + 3, f + 4, f + 5, f + 6]
theorem fld0 {f : Nat} {d : D} : fldE (flD f) f d [] = some [d] := by simp [fldE, flD, List.idxOf?, List.findIdx?_cons]
theorem fld1 {f : Nat} {d a : D} : fldE (flD f) (f + 1) d [a] = some [a, d] := by simp [fldE, flD, List.idxOf?, List.findIdx?_cons]
theorem fld2 {f : Nat} {d a b : D} : fldE (flD f) (f + 2) d [a, b] = some [a, b, d] := by simp [fldE, flD, List.idxOf?, List.findIdx?_cons]
theorem fld3 {f : Nat} {d a b c : D} : fldE (flD f) (f + 3) d [a, b, c] = some [a, b, c, d] := by simp [fldE, flD, List.idxOf?, List.findIdx?_cons]
theorem fld4 {f : Nat} {d a b c e : D} : fldE (flD f) (f + 4) d [a, b, c, e] = some [a, b, c, e, d] := by simp [fldE, flD, List.idxOf?, List.findIdx?_cons]
theorem fld5 {f : Nat} {d a b c e h : D} : fldE (flD f) (f + 5) d [a, b, c, e, h] = some [a, b, c, e, h, d] := by simp [fldE, flD, List.idxOf?, List.findIdx?_cons]
theorem fld6 {f : Nat} {d a b c e h i : D} : fldE (flD f) (f + 6) d [a, b, c, e, h, i] = some [a, b, c, e, h, i, d] := by simp [fldE, flD, List.idxOf?, List.findIdx?_cons]
theorem init_go {T : Tb} {r g1 g2 g3 x f0 c j : Nat} (hr : ∀ (lo hi : Nat) (s : List Nat), Role lo hi PR s → hi ≤ 4000 → Fn T 1 r [.str s, .int lo, .int hi] .non)
    (h1 : T.gl g1 = .int 3) (h2 : T.gl g2 = .int 2) (h3 : T.gl g3 = .int 2) (hf : T.fl c = flD f0) {t : Tl} (gt : Good t) (hj : 1 ≤ j) :
    @wp (runB (T.mn j) (bInit r g1 g2 g3 x f0) (ev0 9 (.cel 0 :: t.ds)) [some (.ins c [])]) { n := fun _ μ => μ[0]? = some (some (.ins c t.ds)), r := fun _ _ => False, b := fun _ _ => False, c := fun _ _ => False, x := fun _ _ _ => False } := by
  have c1 : ∀ {μ : Mem} {P : D × Mem → Prop} {E : Exn → Mem → Prop}, @Ok _ (callE (T.mn j) .pu r [.str t.p, .int 1, .int 3] μ) P E = P (.non, μ) := call_puE (hr 1 3 _ gt.p (by omega)) hj rfl rfl
  have c2 : ∀ {μ : Mem} {P : D × Mem → Prop} {E : Exn → Mem → Prop}, @Ok _ (callE (T.mn j) .pu r [.str t.q, .int 0, .int 2] μ) P E = P (.non, μ) := call_puE (hr 0 2 _ gt.q (by omega)) hj rfl rfl
  have c3 : ∀ {μ : Mem} {P : D × Mem → Prop} {E : Exn → Mem → Prop}, @Ok _ (callE (T.mn j) .pu r [.str t.f, .int 0, .int 2] μ) P E = P (.non, μ) := call_puE (hr 0 2 _ gt.f (by omega)) hj rfl rfl
  obtain ⟨p, q, f, t1, t2, t3, t4⟩ := t
  simp only [Tl.ds] at *
  simp only [bInit, ev0, List.map_cons, List.map_nil, List.length_cons, List.length_nil, Nat.reduceAdd, Nat.reduceSub, List.replicate, List.cons_append, List.nil_append, w_cons, w_nil, w_fld, v_var, w_for, v_seq, v_lst, q_lst, op_some, w_its, v_cons, v_nil, w_exp, v_call, v_glob, gl_at h3, v_lit, gl_at h2, List.getElem?_cons_succ, List.getElem?_cons_zero, get_some, c3, c2, gl_at h1, c1]
  refine wp_goF (fun pre ε μ => ∃ o, ε = [some (.cel 0), some (.str p), some (.str q), some (.str f), some (.bl t1), some (.bl t2), some (.bl t3), some (.bl t4), o] ∧ μ = [some (.ins c [])]) ⟨none, rfl, rfl⟩ ?_ ?_
  · rintro pre d suf ε μ e ⟨o, rfl, rfl⟩
    obtain ⟨b, rfl⟩ : ∃ b, d = .bl b := by
      have : d ∈ [D.bl t1, D.bl t2, D.bl t3, D.bl t4] := by rw [← e]; simp
      simp only [List.mem_cons, List.not_mem_nil, or_false] at this
      rcases this with rfl | rfl | rfl | rfl <;> exact ⟨_, rfl⟩
    refine ⟨_, rfl, ?_⟩
    simp only [List.set_cons_succ, List.set_cons_zero, w_cons, w_nil, w_ite, w_rs0, v_not, tB_bl, Bool.false_eq_true, false_implies, true_implies, true_and, Bool.true_eq_false, and_true, v_isi, isiE, v_var, List.getElem?_cons_succ, List.getElem?_cons_zero, get_some, t_bl, op_some]
    exact ⟨_, rfl⟩
  · rintro ε μ ⟨o, rfl, rfl⟩
    simp only [List.getElem?_cons_succ, List.getElem?_cons_zero, get_some, insP_cel, List.set_cons_zero, insQ_ins, fl_at hf, fld0, op_some, fld1, fld2, fld3, fld4, fld5, fld6]
theorem make_pu {T : Tb} {r g1 g2 g3 x f0 c i : Nat} (h : T.dfs[i]? = some ⟨8, 9, bInit r g1 g2 g3 x f0⟩) (hi : T.ini c = some i) (hr : ∀ (lo hi : Nat) (s : List Nat), Role lo hi PR s → hi ≤ 4000 → Fn T 1 r [.str s, .int lo, .int hi] .non)
    (h1 : T.gl g1 = .int 3) (h2 : T.gl g2 = .int 2) (h3 : T.gl g3 = .int 2) (hf : T.fl c = flD f0) {t : Tl} (gt : Good t) {k : Nat} (hk : 2 ≤ k) {μ : Mem} {P : D × Mem → Prop} {E : Exn → Mem → Prop} :
    @Ok _ (makE (T.mn k) .pu c t.ds μ) P E = P (.ins c t.ds, μ) := by
  obtain ⟨j, rfl⟩ : ∃ j, k = j + 1 := ⟨k - 1, by omega⟩
  have hl : i < T.dfs.length := (List.getElem?_eq_some_iff.mp h).1
  have ha : T.ar i = 8 := by unfold Tb.ar; rw [h]
  have e := callB_ok (f := ⟨8, 9, bInit r g1 g2 g3 x f0⟩) (ds := .cel 0 :: t.ds) (μ := [some (.ins c [])]) (P := fun p => p.1 = .non ∧ p.2[0]? = some (some (.ins c t.ds))) (E := fun _ _ => False) rfl
    (wp_imp (init_go (x := x) (j := j) hr h1 h2 h3 hf gt (by omega)) (fun _ _ h => ⟨rfl, h⟩) (fun _ _ h => h.elim) (fun _ _ h => h) (fun _ _ h => h) (fun _ _ _ h => h))
  obtain ⟨⟨d, μ'⟩, e1, e2, e3⟩ := e.get
  simp only at e2 e3
  subst e2
  have hi' : (T.mn (j + 1)).ini c = some i := hi
  have hf' : (T.mn (j + 1)).fl c = flD f0 := hf
  have hc : cfs t.ds = true := rfl
  have hl2 : t.ds.length = (flD f0).length := rfl
  unfold makE
  rw [hi']
  simp only [hc, if_true]
  rw [run_all (by rw [ha]; rfl) hl, fn_def h, e1]
  simp only [e3, hf', hl2, hc, decide_true, Bool.and_self, if_true]
  rfl
end DL
set_option Elab.async false
set_option linter.all false
set_option maxRecDepth 100000
set_option maxHeartbeats 400000
namespace DL
open DM
section
variable {f : Nat} {a b c d e h i : D}
theorem at0 {r : List D} : atE (a :: r) 0 = some a := rfl
theorem at1 {r : List D} : atE (a :: b :: r) 1 = some b := rfl
theorem at2 {r : List D} : atE (a :: b :: c :: r) 2 = some c := rfl
theorem at3 {r : List D} : atE (a :: b :: c :: d :: r) 3 = some d := rfl
theorem at4 {r : List D} : atE (a :: b :: c :: d :: e :: r) 4 = some e := rfl
theorem at5 {r : List D} : atE (a :: b :: c :: d :: e :: h :: r) 5 = some h := rfl
theorem at6 {r : List D} : atE (a :: b :: c :: d :: e :: h :: i :: r) 6 = some i := rfl
theorem att0 : ((flD f).zip [a, b, c, d, e, h, i]).lookup f = some a := by simp [flD, List.lookup]
theorem bq {f k m : Nat} (h : k ≠ m) : (f + k == f + m) = false := by simp; omega
theorem bq0 {f k : Nat} (h : k ≠ 0) : (f + k == f) = false := by simp; omega
theorem att1 : ((flD f).zip [a, b, c, d, e, h, i]).lookup (f + 1) = some b := by simp [flD, List.lookup, bq, bq0]
theorem att2 : ((flD f).zip [a, b, c, d, e, h, i]).lookup (f + 2) = some c := by simp [flD, List.lookup, bq, bq0]
theorem att3 : ((flD f).zip [a, b, c, d, e, h, i]).lookup (f + 3) = some d := by simp [flD, List.lookup, bq, bq0]
theorem att4 : ((flD f).zip [a, b, c, d, e, h, i]).lookup (f + 4) = some e := by simp [flD, List.lookup, bq, bq0]
theorem att5 : ((flD f).zip [a, b, c, d, e, h, i]).lookup (f + 5) = some h := by simp [flD, List.lookup, bq, bq0]
theorem att6 : ((flD f).zip [a, b, c, d, e, h, i]).lookup (f + 6) = some i := by simp [flD, List.lookup, bq, bq0]
end
def bTold (f : Nat) : B :=
 (.cons (.ret (.tup (.cons (.att (.var 0) f) (.cons (.att (.var 0) (f + 1)) (.cons (.att (.var 0) (f + 2)) (.cons (.att (.var 0) (f + 3)) (.cons (.att (.var 0) (f + 4)) (.cons (.att (.var 0) (f + 5)) (.cons (.att (.var 0) (f + 6)) .nil)))))))))
 .nil)
theorem told_fn {T : Tb} {i f c : Nat} (h : T.dfs[i]? = some ⟨1, 1, bTold f⟩) (hf : T.fl c = flD f) (t : Tl) : Fn T 1 i [.ins c t.ds] (.tup t.ds) := by
  refine fn_of h rfl fun j hj => ?_
  simp only [bTold, ev0, Tl.ds, List.map_cons, List.map_nil, List.length_cons, List.length_nil, Nat.reduceAdd, Nat.reduceSub, List.replicate, List.cons_append, List.nil_append, w_cons, w_nil, w_ret, v_tup, v_cons, v_nil, v_att, v_var, List.getElem?_cons_zero, get_some, t_ins, a_ins, fl_at hf, att6, op_some, att5, att4, att3, att2, att1, att0]
def uniq (x : List Nat) : List Nat := x.foldl addS []
def bMade (c : Nat) : B :=
 (.cons (.ret (.mak .pu c (.cons (.idx (.var 0) (.lit (.int 0))) (.cons (.idx (.var 0) (.lit (.int 1))) (.cons (.idx (.var 0) (.lit (.int 2))) (.cons (.idx (.var 0) (.lit (.int 3))) (.cons (.idx (.var 0) (.lit (.int 4))) (.cons (.idx (.var 0) (.lit (.int 5))) (.cons (.idx (.var 0) (.lit (.int 6))) .nil)))))))))
 .nil)
/-- a Dialect is made of good ones -/
def Mks (T : Tb) (c : Nat) : Prop := ∀ {t : Tl}, Good t → ∀ {k : Nat}, 2 ≤ k → ∀ {μ : Mem} {P : D × Mem → Prop} {E : Exn → Mem → Prop}, @Ok _ (makE (T.mn k) .pu c t.ds μ) P E = P (.ins c t.ds, μ)
theorem made_fn {T : Tb} {i c : Nat} (h : T.dfs[i]? = some ⟨1, 1, bMade c⟩) (hm : Mks T c) {t : Tl} (g : Good t) : Fn T 3 i [.tup t.ds] (.ins c t.ds) := by
  refine fn_of h rfl fun j hj => ?_
  have e : ∀ {μ : Mem} {P : D × Mem → Prop} {E : Exn → Mem → Prop}, @Ok _ (makE (T.mn j) .pu c [.str t.p, .str t.q, .str t.f, .bl t.t1, .bl t.t2, .bl t.t3, .bl t.t4] μ) P E = P (.ins c t.ds, μ) := hm g hj
  simp only [bMade, ev0, Tl.ds, List.map_cons, List.map_nil, List.length_cons, List.length_nil, Nat.reduceAdd, Nat.reduceSub, List.replicate, List.cons_append, List.nil_append, w_cons, w_nil, w_ret, v_mak, v_cons, v_nil, v_idx, v_lit, t_int, v_var, List.getElem?_cons_zero, get_some, t_tup, i_tup, at6, op_some, at5, at4, at3, at2, at1, at0, e]
def bMenus : B :=
 (.cons (.asg (.nm 1) (.lit (.str [32,33,34,35,36,38,39,40,41,42,43,44,45,46,47,48,49,50,51,52,53,54,55,56,57,58,59,60,61,62,63,64,65,66,67,68,69,70,71,72,73,74,75,76,77,78,79,80,81,82,83,84,85,86,87,88,89,90,91,92,93,94,95,96,97,98,99,100,101,102,103,104,105,106,107,108,109,110,111,112,113,114,115,116,117,118,119,120,121,122,123,124,125,126])))
 (.cons (.ite (.cmp .eq (.var 0) (.lit (.int 0)))
 (.cons (.ret (.lst (.cons (.lit (.str [44,59,39,94,32,97,98])) (.cons (.lit (.str [44,59,39,94,32,97,98])) (.cons (.lit (.str [44,59,39,94,32,97,98])) .nil)))))
 .nil)
 .nil)
 (.cons (.ite (.cmp .eq (.var 0) (.lit (.int 1)))
 (.cons (.ret (.lst (.cons (.lit (.str [44,59,124,58,47,45,32])) (.cons (.lit (.str [39,34,96,42,35,126,33])) (.cons (.lit (.str [92,94,36,38,43,61,64])) .nil)))))
 .nil)
 .nil)
 (.cons (.ret (.lst (.cons (.var 1) (.cons (.var 1) (.cons (.var 1) .nil)))))
 .nil))))
def EVR : List Nat := [32,33,34,35,36,38,39,40,41,42,43,44,45,46,47,48,49,50,51,52,53,54,55,56,57,58,59,60,61,62,63,64,65,66,67,68,69,70,71,72,73,74,75,76,77,78,79,80,81,82,83,84,85,86,87,88,89,90,91,92,93,94,95,96,97,98,99,100,101,102,103,104,105,106,107,108,109,110,111,112,113,114,115,116,117,118,119,120,121,122,123,124,125,126]
def mnA (w : Int) : List Nat := if w = 0 then [44,59,39,94,32,97,98] else if w = 1 then [44,59,124,58,47,45,32] else EVR
def mnB (w : Int) : List Nat := if w = 0 then [44,59,39,94,32,97,98] else if w = 1 then [39,34,96,42,35,126,33] else EVR
def mnC (w : Int) : List Nat := if w = 0 then [44,59,39,94,32,97,98] else if w = 1 then [92,94,36,38,43,61,64] else EVR
structure Menu (M : List Nat) : Prop where
  ne : M ≠ []
  len : M.length < 10000
  sub : ∀ s ∈ M, s ∈ PR
theorem menu_of {M : List Nat} (h : (!M.isEmpty && decide (M.length < 10000) && M.all fun s => PR.contains s) = true) : Menu M := by
  simp only [Bool.and_eq_true, decide_eq_true_eq, Bool.not_eq_true'] at h
  obtain ⟨⟨h1, h2⟩, h3⟩ := h
  exact ⟨fun z => (by rw [z] at h1; cases h1), h2, fun s hs => by simpa using List.all_eq_true.mp h3 s hs⟩
theorem mnA_ok (w : Int) : Menu (mnA w) := by
  unfold mnA; split
  · exact menu_of (by decide +kernel)
  · split <;> exact menu_of (by decide +kernel)
theorem mnB_ok (w : Int) : Menu (mnB w) := by
  unfold mnB; split
  · exact menu_of (by decide +kernel)
  · split <;> exact menu_of (by decide +kernel)
theorem mnC_ok (w : Int) : Menu (mnC w) := by
  unfold mnC; split
  · exact menu_of (by decide +kernel)
  · split <;> exact menu_of (by decide +kernel)
theorem pd_int {n : Nat} {i : Int} : pd n (.int i) = true := by cases n <;> rfl
theorem menus_fn {T : Tb} {i : Nat} (h : T.dfs[i]? = some ⟨1, 2, bMenus⟩) (w : Int) : Fn T 1 i [.int w] (.lst [.str (mnA w), .str (mnB w), .str (mnC w)]) := by
  refine fn_of h rfl fun j hj => ?_
  simp only [bMenus, ev0, List.map_cons, List.map_nil, List.length_cons, List.length_nil, Nat.reduceAdd, Nat.reduceSub, List.replicate, List.cons_append, List.nil_append, w_cons, w_nil, w_ret, v_lst, v_cons, v_nil, v_var, w_ite, v_lit, v_cmp, x_eq, c_eq, op_ite, op_some, tB_bl, r_int, pd_int, w_asg, binds, List.set_cons_succ, List.set_cons_zero, List.getElem?_cons_zero, List.getElem?_cons_succ, get_some, Bool.and_self, eqD_int, decide_eq_true_eq, decide_eq_false_iff_not, true_and]
  refine ⟨fun h => ?_, fun h => ⟨fun h2 => ?_, fun h2 => ?_⟩⟩
  · subst h; rfl
  · subst h2; rfl
  · unfold mnA mnB mnC; rw [if_neg h, if_neg h2, if_neg h, if_neg h2, if_neg h, if_neg h2]; rfl
def bCell (n m s : Nat) : B :=
 (.cons (.asg (.nm 1) (.call .pu n (.cons (.var 0) (.cons (.lit (.int 11)) .nil))))
 (.cons (.asg (.nm 2) (.bin .mod (.var 1) (.lit (.int 16))))
 (.cons (.asg (.nm 3) (.lst (.cons (.bin .add (.lit (.int 1)) (.bin .mod (.bin .fdiv (.var 1) (.lit (.int 16))) (.lit (.int 3)))) (.cons (.bin .mod (.bin .fdiv (.var 1) (.lit (.int 48))) (.lit (.int 3))) (.cons (.bin .mod (.bin .fdiv (.var 1) (.lit (.int 144))) (.lit (.int 3))) .nil)))))
 (.cons (.asg (.nm 4) (.call .pu m (.cons (.bin .mod (.bin .fdiv (.var 1) (.lit (.int 432))) (.lit (.int 3))) .nil)))
 (.cons (.asg (.tp [6, 1]) (.call .pu s (.cons (.bin .fdiv (.var 1) (.lit (.int 1296))) (.cons (.idx (.var 3) (.lit (.int 0))) (.cons (.idx (.var 4) (.lit (.int 0))) .nil)))))
 (.cons (.asg (.tp [7, 1]) (.call .pu s (.cons (.var 1) (.cons (.idx (.var 3) (.lit (.int 1))) (.cons (.idx (.var 4) (.lit (.int 1))) .nil)))))
 (.cons (.asg (.tp [8, 1]) (.call .pu s (.cons (.var 1) (.cons (.idx (.var 3) (.lit (.int 2))) (.cons (.idx (.var 4) (.lit (.int 2))) .nil)))))
 (.cons (.asg (.nm 5) (.lst (.cons (.cmp .eq (.bin .mod (.var 2) (.lit (.int 2))) (.lit (.int 1))) (.cons (.cmp .eq (.bin .mod (.bin .fdiv (.var 2) (.lit (.int 2))) (.lit (.int 2))) (.lit (.int 1))) (.cons (.cmp .eq (.bin .mod (.bin .fdiv (.var 2) (.lit (.int 4))) (.lit (.int 2))) (.lit (.int 1))) (.cons (.cmp .eq (.bin .mod (.bin .fdiv (.var 2) (.lit (.int 8))) (.lit (.int 2))) (.lit (.int 1))) .nil))))))
 (.cons (.ret (.tup (.cons (.var 6) (.cons (.var 7) (.cons (.var 8) (.cons (.idx (.var 5) (.lit (.int 0))) (.cons (.idx (.var 5) (.lit (.int 1))) (.cons (.idx (.var 5) (.lit (.int 2))) (.cons (.idx (.var 5) (.lit (.int 3))) .nil)))))))))
 .nil)))))))))
def tellN (n : Int) : Tl :=
  let w := n / 432 % 3
  let a := someV (mnA w) (n / 1296) (1 + n / 16 % 3).toNat
  let b := someV (mnB w) a.2 (n / 48 % 3).toNat
  let c := someV (mnC w) b.2 (n / 144 % 3).toNat
  ⟨a.1, b.1, c.1, decide (n % 16 % 2 = 1), decide (n % 16 / 2 % 2 = 1), decide (n % 16 / 4 % 2 = 1), decide (n % 16 / 8 % 2 = 1)⟩
theorem tellN_good {n : Int} (h : 0 ≤ n) : Good (tellN n) := by
  have A := mnA_ok (n / 432 % 3)
  have B := mnB_ok (n / 432 % 3)
  have C := mnC_ok (n / 432 % 3)
  obtain ⟨a1, a2⟩ := someV_ok (Int.ediv_nonneg h (by decide : (0 : Int) ≤ 1296)) A.ne (1 + n / 16 % 3).toNat
  obtain ⟨b1, b2⟩ := someV_ok a1 B.ne (n / 48 % 3).toNat
  obtain ⟨c1, c2⟩ := someV_ok b1 C.ne (n / 144 % 3).toNat
  exact ⟨a2.mono (by omega) (by omega) A.sub, b2.mono (by omega) (by omega) B.sub, c2.mono (by omega) (by omega) C.sub⟩
def tell (c : Int) : Tl := tellN (number c 11)
theorem tell_good (c : Int) : Good (tell c) := tellN_good (number_pos c 11)
theorem cell_fn {T : Tb} {i n m s : Nat} (h : T.dfs[i]? = some ⟨1, 9, bCell n m s⟩) (hn : ∀ c : Int, Fn T 2 n [.int c, .int 11] (.int (number c 11))) (hm : ∀ w : Int, Fn T 1 m [.int w] (.lst [.str (mnA w), .str (mnB w), .str (mnC w)]))
    (hs : ∀ (n many : Int) (M : List Nat), 0 ≤ n → 0 ≤ many → many ≤ 1000 → M ≠ [] → M.length < 10000 → Fn T 1 s [.int n, .int many, .str M] (.tup [.str (someV M n many.toNat).1, .int (someV M n many.toNat).2])) (c : Int) : Fn T 3 i [.int c] (.tup (tell c).ds) := by
  refine fn_of h rfl fun j hj => ?_
  have n0 := number_pos c 11
  have hn := hn c
  unfold tell
  generalize number c 11 = x at *
  have A := mnA_ok (x / 432 % 3)
  have B := mnB_ok (x / 432 % 3)
  have C := mnC_ok (x / 432 % 3)
  obtain ⟨a1, a2⟩ := someV_ok (Int.ediv_nonneg n0 (by decide : (0 : Int) ≤ 1296)) A.ne (1 + x / 16 % 3).toNat
  obtain ⟨b1, b2⟩ := someV_ok a1 B.ne (x / 48 % 3).toNat
  have f1 : ∀ {μ : Mem} {P : D × Mem → Prop} {E : Exn → Mem → Prop}, @Ok _ (callE (T.mn j) .pu n [.int c, .int 11] μ) P E = P (.int x, μ) := call_puE hn hj rfl rfl
  have f2 : ∀ {μ : Mem} {P : D × Mem → Prop} {E : Exn → Mem → Prop}, @Ok _ (callE (T.mn j) .pu m [.int (x / 432 % 3)] μ) P E = P (.lst [.str (mnA (x / 432 % 3)), .str (mnB (x / 432 % 3)), .str (mnC (x / 432 % 3))], μ) := call_puE (hm _) (by omega) rfl rfl
  have g1 : ∀ {μ : Mem} {P : D × Mem → Prop} {E : Exn → Mem → Prop}, @Ok _ (callE (T.mn j) .pu s [.int (x / 1296), .int (1 + x / 16 % 3), .str (mnA (x / 432 % 3))] μ) P E = P (.tup [.str (someV (mnA (x / 432 % 3)) (x / 1296) (1 + x / 16 % 3).toNat).1, .int (someV (mnA (x / 432 % 3)) (x / 1296) (1 + x / 16 % 3).toNat).2], μ) := call_puE (hs _ _ _ (Int.ediv_nonneg n0 (by decide)) (by omega) (by omega) A.ne A.len) (by omega) rfl rfl
  have g2 := fun {μ : Mem} {P : D × Mem → Prop} {E : Exn → Mem → Prop} => call_puE (k := j) (μ := μ) (P := P) (E := E) (hs _ (x / 48 % 3) _ a1 (by omega) (by omega) B.ne B.len) (by omega) rfl rfl
  have g3 := fun {μ : Mem} {P : D × Mem → Prop} {E : Exn → Mem → Prop} => call_puE (k := j) (μ := μ) (P := P) (E := E) (hs _ (x / 144 % 3) _ b1 (by omega) (by omega) C.ne C.len) (by omega) rfl rfl
  simp only [bCell, ev0, List.map_cons, List.map_nil, List.length_cons, List.length_nil, Nat.reduceAdd, Nat.reduceSub, List.replicate, List.cons_append, List.nil_append, w_cons, w_nil, w_ret, v_tup, v_cons, v_nil, v_idx, v_lit, t_int, v_var, w_asg, binds, op_some, v_lst, v_cmp, x_eq, c_eq, op_ite, r_int, pd_int, v_bin, v_call, List.set_cons_succ, List.set_cons_zero, List.getElem?_cons_succ, List.getElem?_cons_zero, get_some, t_lst, i_lst, at0, f1, b_mod, b_fdiv, f2, b_add, g1, t_tup, List.zip_cons_cons, List.zip_nil_left, List.foldl_cons, List.foldl_nil, at1, g2, at2, g3, at3, true_and, Bool.and_self, eqD_int]
  refine ⟨by decide, by decide, by decide, by decide, by decide, by decide, by decide, by decide, by decide, by decide, ?_⟩
  exact ⟨by decide, by decide, by decide, by decide, by decide, by decide, by decide, rfl⟩
end DL
set_option Elab.async false
set_option linter.all false
set_option maxRecDepth 100000
set_option maxHeartbeats 400000
namespace DL
open DM
mutual
theorem eqD_refl : ∀ (d : D), pure0 d = true → eqD d d = true
  | .non, _ => by simp [eqD] | .bl _, _ => by simp [eqD] | .int _, _ => by simp [eqD] | .str _, _ => by simp [eqD]
  | .lst xs, h => by simp only [eqD]; exact eqDs_refl xs (by simpa [pure0] using h)
  | .tup xs, h => by simp only [eqD]; exact eqDs_refl xs (by simpa [pure0] using h)
  | .ins _ _, h => by simp [pure0] at h
  | .dct _ _, h => by simp [pure0] at h
  | .exc _ _, h => by simp [pure0] at h
  | .cel _, h => by simp [pure0] at h
theorem eqDs_refl : ∀ (ds : List D), pures ds = true → eqDs ds ds = true
  | [], _ => by simp [eqDs]
  | x :: xs, h => by
    have h' : pure0 x = true ∧ pures xs = true := by simpa [pures] using h
    simp only [eqDs, eqD_refl x h'.1, eqDs_refl xs h'.2, Bool.and_self]
end
theorem pd_refl {n : Nat} {d : D} (h : pd n d = true) : eqD d d = true := eqD_refl d (pd_inv n d h).1
/-- a state -/
def st (w q : List Nat) : D := .tup [.str w, .str q]
def wRow : List Nat := [114,111,119]
def wCell : List Nat := [99,101,108,108]
def wPlain : List Nat := [112,108,97,105,110]
def wBehind : List Nat := [98,101,104,105,110,100]
def wFreed : List Nat := [102,114,101,101,100]
def wWithin : List Nat := [119,105,116,104,105,110]
def wDoubt : List Nat := [100,111,117,98,116]
def base5 : List D := [st wRow [], st wCell [], st wPlain [], st wBehind [], st wFreed []]
def stq (s : Nat) : List D := [st wWithin [s], st wDoubt [s], st wFreed [s]]
def sts (q : List Nat) : List D := base5 ++ q.flatMap stq
end DL
set_option Elab.async false
set_option linter.all false
set_option maxRecDepth 100000
set_option maxHeartbeats 1000000
namespace DL
open DM
def kSkip : List Nat := [115,107,105,112]
def kPut : List Nat := [112,117,116]
def kEnd : List Nat := [101,110,100]
def kPart : List Nat := [112,97,114,116]
def kFault : List Nat := [102,97,117,108,116]
def fLine : List Nat := [108,105,110,101]
def fQuote : List Nat := [113,117,111,116,101]
/-- what a step tells -/
inductive Sp where | go (k w q : List Nat) | flt (w : List Nat)
def Sp.ok : Sp → Prop | .go k _ _ => k ≠ kFault | .flt _ => True
end DL
set_option Elab.async false
set_option linter.all false
set_option maxRecDepth 100000
set_option maxHeartbeats 1000000
namespace DL
open DM
def u0 : B :=
 (.cons (.fld (.var 0) 0 (.var 1))
 (.cons (.fld (.var 0) 1 (.var 2))
 .nil))
def u1 : B :=
 (.cons (.ret (.and (.cmp .eq (.var 1) (.glob 0)) (.not (.att (.att (.var 0) 0) 6))))
 .nil)
def u2 : B :=
 (.cons (.ret (.tup (.cons (.lit (.str [112,117,116])) (.cons (.glob 6) .nil))))
 .nil)
def u3 : B :=
 (.cons (.ite (.and (.cmp .isin (.var 1) (.att (.att (.var 0) 0) 3)) (.not (.att (.att (.var 0) 0) 8)))
 (.cons (.ret (.tup (.cons (.lit (.str [102,97,117,108,116])) (.cons (.lit (.str [113,117,111,116,101])) .nil))))
 .nil)
 .nil)
 (.cons (.ret (.tup (.cons (.lit (.str [112,117,116])) (.cons (.glob 6) .nil))))
 .nil))
def u4 : B :=
 (.cons (.ret (.lit (.bl false)))
 .nil)
def u5 : B :=
 (.cons (.ite (.cmp .isin (.var 1) (.att (.att (.var 0) 0) 4))
 (.cons (.ret (.tup (.cons (.lit (.str [115,107,105,112])) (.cons (.tup (.cons (.lit (.str [102,114,101,101,100])) (.cons (.lit (.str [])) .nil))) .nil))))
 .nil)
 .nil)
 (.cons (.ite (.cmp .eq (.var 1) (.glob 0))
 (.cons (.ret (.tup (.cons (.lit (.str [101,110,100])) (.cons (.glob 3) .nil))))
 .nil)
 .nil)
 (.cons (.ite (.mth .pu (.var 0) 3 (.cons (.var 1) .nil))
 (.cons (.ret (.tup (.cons (.lit (.str [115,107,105,112])) (.cons (.tup (.cons (.lit (.str [119,105,116,104,105,110])) (.cons (.var 1) .nil))) .nil))))
 .nil)
 .nil)
 (.cons (.ite (.cmp .isin (.var 1) (.att (.att (.var 0) 0) 2))
 (.cons (.ret (.tup (.cons (.lit (.str [112,97,114,116])) (.cons (.glob 5) .nil))))
 .nil)
 .nil)
 (.cons (.ret (.mth .pu (.var 0) 2 (.cons (.var 1) .nil)))
 .nil)))))
def u6 : B :=
 (.cons (.ite (.and (.cmp .eq (.var 1) (.glob 4)) (.att (.att (.var 0) 0) 7))
 (.cons (.ret (.tup (.cons (.lit (.str [115,107,105,112])) (.cons (.att (.var 0) 1) .nil))))
 .nil)
 .nil)
 (.cons (.ret (.tup (.cons (.lit (.str [112,117,116])) (.cons (.glob 6) .nil))))
 .nil))
def u7 : B :=
 (.cons (.ret (.cmp .isin (.var 1) (.att (.att (.var 0) 0) 3)))
 .nil)
def u8 : B :=
 (.cons (.asg (.nm 2) (.idx (.att (.var 0) 1) (.lit (.int 1))))
 (.cons (.ite (.cmp .isin (.var 1) (.att (.att (.var 0) 0) 4))
 (.cons (.ret (.tup (.cons (.lit (.str [115,107,105,112])) (.cons (.tup (.cons (.lit (.str [102,114,101,101,100])) (.cons (.var 2) .nil))) .nil))))
 .nil)
 .nil)
 (.cons (.ite (.cmp .eq (.var 1) (.var 2))
 (.cons (.ite (.att (.att (.var 0) 0) 5)
 (.cons (.ret (.tup (.cons (.lit (.str [115,107,105,112])) (.cons (.tup (.cons (.lit (.str [100,111,117,98,116])) (.cons (.var 2) .nil))) .nil))))
 .nil)
 .nil)
 (.cons (.ret (.tup (.cons (.lit (.str [115,107,105,112])) (.cons (.glob 7) .nil))))
 .nil))
 .nil)
 (.cons (.ite (.mth .pu (.var 0) 0 (.cons (.var 1) .nil))
 (.cons (.ret (.tup (.cons (.lit (.str [102,97,117,108,116])) (.cons (.lit (.str [108,105,110,101])) .nil))))
 .nil)
 .nil)
 (.cons (.ret (.tup (.cons (.lit (.str [112,117,116])) (.cons (.att (.var 0) 1) .nil))))
 .nil)))))
def u9 : B :=
 (.cons (.ite (.cmp .eq (.var 1) (.glob 0))
 (.cons (.ret (.tup (.cons (.lit (.str [101,110,100])) (.cons (.glob 3) .nil))))
 .nil)
 .nil)
 (.cons (.ite (.cmp .isin (.var 1) (.att (.att (.var 0) 0) 2))
 (.cons (.ret (.tup (.cons (.lit (.str [112,97,114,116])) (.cons (.glob 5) .nil))))
 .nil)
 .nil)
 (.cons (.ite (.and (.cmp .eq (.var 1) (.glob 4)) (.att (.att (.var 0) 0) 7))
 (.cons (.ret (.tup (.cons (.lit (.str [115,107,105,112])) (.cons (.glob 7) .nil))))
 .nil)
 .nil)
 (.cons (.ret (.tup (.cons (.lit (.str [102,97,117,108,116])) (.cons (.lit (.str [98,101,104,105,110,100])) .nil))))
 .nil))))
def u10 : B :=
 (.cons (.ite (.cmp .eq (.var 1) (.idx (.att (.var 0) 1) (.lit (.int 1))))
 (.cons (.ret (.tup (.cons (.lit (.str [112,117,116])) (.cons (.tup (.cons (.lit (.str [119,105,116,104,105,110])) (.cons (.var 1) .nil))) .nil))))
 .nil)
 .nil)
 (.cons (.ret (.ucl .pu 4 1 (.cons (.var 0) (.cons (.var 1) .nil))))
 .nil))
def u11 : B :=
 (.cons (.ite (.mth .pu (.var 0) 0 (.cons (.var 1) .nil))
 (.cons (.ret (.tup (.cons (.lit (.str [102,97,117,108,116])) (.cons (.lit (.str [108,105,110,101])) .nil))))
 .nil)
 .nil)
 (.cons (.ite (.cmp .eq (.idx (.att (.var 0) 1) (.lit (.int 1))) (.lit (.str [])))
 (.cons (.ret (.tup (.cons (.lit (.str [112,117,116])) (.cons (.glob 6) .nil))))
 .nil)
 .nil)
 (.cons (.ret (.tup (.cons (.lit (.str [112,117,116])) (.cons (.tup (.cons (.lit (.str [119,105,116,104,105,110])) (.cons (.idx (.att (.var 0) 1) (.lit (.int 1))) .nil))) .nil))))
 .nil)))
def u12 : B :=
 (.cons (.fld (.var 0) 0 (.var 1))
 .nil)
def u13 : B :=
 (.cons (.asg (.nm 2) (.idx (.var 1) (.lit (.int 0))))
 (.cons (.ite (.cmp .eq (.var 2) (.lit (.str [119,105,116,104,105,110])))
 (.cons (.ret (.mak .pu 3 (.cons (.att (.var 0) 0) (.cons (.var 1) .nil))))
 .nil)
 .nil)
 (.cons (.ite (.cmp .eq (.var 2) (.lit (.str [100,111,117,98,116])))
 (.cons (.ret (.mak .pu 5 (.cons (.att (.var 0) 0) (.cons (.var 1) .nil))))
 .nil)
 .nil)
 (.cons (.ite (.cmp .eq (.var 2) (.lit (.str [98,101,104,105,110,100])))
 (.cons (.ret (.mak .pu 4 (.cons (.att (.var 0) 0) (.cons (.var 1) .nil))))
 .nil)
 .nil)
 (.cons (.ite (.cmp .eq (.var 2) (.lit (.str [102,114,101,101,100])))
 (.cons (.ret (.mak .pu 6 (.cons (.att (.var 0) 0) (.cons (.var 1) .nil))))
 .nil)
 .nil)
 (.cons (.ite (.cmp .eq (.var 2) (.lit (.str [112,108,97,105,110])))
 (.cons (.ret (.mak .pu 1 (.cons (.att (.var 0) 0) (.cons (.var 1) .nil))))
 .nil)
 .nil)
 (.cons (.ret (.mak .pu 2 (.cons (.att (.var 0) 0) (.cons (.var 1) .nil))))
 .nil)))))))
def u14 : B :=
 (.cons (.ret (.mth .pu (.mth .pu (.var 0) 4 (.cons (.var 1) .nil)) 1 (.cons (.var 2) .nil)))
 .nil)
def tdf : Nat → Df
  | 0 => ⟨3, 3, u0⟩
  | 1 => ⟨2, 2, u1⟩
  | 2 => ⟨2, 2, u2⟩
  | 3 => ⟨2, 2, u3⟩
  | 4 => ⟨2, 2, u4⟩
  | 5 => ⟨2, 2, u5⟩
  | 6 => ⟨2, 2, u6⟩
  | 7 => ⟨2, 2, u7⟩
  | 8 => ⟨2, 3, u8⟩
  | 9 => ⟨2, 2, u9⟩
  | 10 => ⟨2, 2, u10⟩
  | 11 => ⟨2, 2, u11⟩
  | 12 => ⟨2, 2, u12⟩
  | 13 => ⟨2, 3, u13⟩
  | 14 => ⟨3, 3, u14⟩
  | _ => ⟨0, 0, .nil⟩
def flP : List Nat := [0, 1]
def flT : List Nat := [0]
section
variable {a b c d e h i : D}
theorem p1 : (flP.zip [a, b]).lookup 1 = some b := rfl
theorem p2 : (flT.zip [a]).lookup 0 = some a := rfl
theorem e0 : ((flD 2).zip [a, b, c, d, e, h, i]).lookup 2 = some a := att0 (f := 2)
theorem e1 : ((flD 2).zip [a, b, c, d, e, h, i]).lookup 3 = some b := att1 (f := 2)
theorem e2 : ((flD 2).zip [a, b, c, d, e, h, i]).lookup 4 = some c := att2 (f := 2)
theorem e3 : ((flD 2).zip [a, b, c, d, e, h, i]).lookup 5 = some d := att3 (f := 2)
theorem e4 : ((flD 2).zip [a, b, c, d, e, h, i]).lookup 6 = some e := att4 (f := 2)
theorem e5 : ((flD 2).zip [a, b, c, d, e, h, i]).lookup 7 = some h := att5 (f := 2)
theorem e6 : ((flD 2).zip [a, b, c, d, e, h, i]).lookup 8 = some i := att6 (f := 2)
end
/-- a text with the module turns in it -/
structure Tn (T : Tb) : Prop where
  df : ∀ i, i < 15 → T.dfs[i]? = some (tdf i)
  flp : ∀ c, c < 7 → T.fl c = flP
  flt : T.fl 7 = flT
  fld : T.fl 8 = flD 2
  inp : ∀ c, c < 7 → T.ini c = some 0
  intn : T.ini 7 = some 12
  bar : ∀ c, c < 7 → T.mt c 0 = some 1
  st1 : T.mt 1 1 = some 5
  st2 : T.mt 2 1 = some 5
  st3 : T.mt 3 1 = some 8
  st4 : T.mt 4 1 = some 9
  st5 : T.mt 5 1 = some 10
  st6 : T.mt 6 1 = some 11
  ow1 : T.mt 1 2 = some 3
  ow2 : T.mt 2 2 = some 6
  op1 : T.mt 1 3 = some 4
  op2 : T.mt 2 3 = some 7
  tst : T.mt 7 1 = some 14
  tat : T.mt 7 4 = some 13
  ub : T.unb 4 1 = some 9
  g0 : T.gl 0 = .str [10]
  g3 : T.gl 3 = st wRow []
  g4 : T.gl 4 = .str [32]
  g5 : T.gl 5 = st wCell []
  g6 : T.gl 6 = st wPlain []
  g7 : T.gl 7 = st wBehind []
theorem mth_at {T : Tb} {c m n j : Nat} {fs : List D} {P : Nat → Prop} (h : T.mt c m = some n) (hl : n < T.dfs.length) : mthP (T.mn j) m (.ins c fs) P = P n := by
  obtain ⟨_, _, q3, _, q5, _⟩ := mn_parts (T := T) j
  simp only [mthP, q3, h, q5, hl, decide_true, true_and]
section
variable {T : Tb} (N : Tn T)
theorem Tn.len (N : Tn T) {i : Nat} (h : i < 15) : i < T.dfs.length := (List.getElem?_eq_some_iff.mp (N.df i h)).1
end
end DL
set_option Elab.async false
set_option linter.all false
set_option maxRecDepth 100000
set_option maxHeartbeats 1000000
namespace DL
open DM
theorem w_gnil {tg : Tg} {body : Ev → Mem → O} {ε : Ev} {μ : Mem} {w : Wp} : @wp (goF tg body [] ε μ) w = w.n ε μ := rfl
theorem w_gcons {tg : Tg} {body : Ev → Mem → O} {ε : Ev} {μ : Mem} {w : Wp} {d : D} {r : List D} : @wp (goF tg body (d :: r) ε μ) w = @OptP _ (binds tg μ d ε) fun ε1 => @wp (body ε1 μ) { n := fun ε μ => @wp (goF tg body r ε μ) w, r := w.r, b := w.n, c := fun ε μ => @wp (goF tg body r ε μ) w, x := w.x } := by
  rw [goF]
  cases binds tg μ d ε with
  | none => rfl
  | some ε1 =>
    simp only [op_some]
    cases body ε1 μ <;> rfl
theorem cfs_ints : ∀ (ns : List Int), cfs (ns.map D.int) = true
  | [] => rfl
  | n :: r => by rw [List.map_cons]; unfold cfs; rw [cfs_ints r]; rfl
end DL
set_option Elab.async false
set_option linter.all false
set_option maxRecDepth 100000
set_option maxHeartbeats 1000000
namespace DL
open DM
end DL
set_option Elab.async false
set_option linter.all false
set_option maxRecDepth 100000
set_option maxHeartbeats 1000000
namespace DL
open DM
end DL
set_option Elab.async false
set_option linter.all false
set_option maxRecDepth 100000
set_option maxHeartbeats 1000000
namespace DL
open DM
end DL
set_option Elab.async false
set_option linter.all false
set_option maxRecDepth 100000
set_option maxHeartbeats 1000000
namespace DL
open DM
/-- the states of a dialect -/
inductive Sv (t : Tl) : List Nat → List Nat → Prop
  | row : Sv t wRow [] | cell : Sv t wCell [] | plain : Sv t wPlain [] | behind : Sv t wBehind [] | freed : Sv t wFreed []
  | within (c : Nat) (h : c ∈ t.q) : Sv t wWithin [c] | doubt (c : Nat) (h : c ∈ t.q) : Sv t wDoubt [c] | freed1 (c : Nat) (h : c ∈ t.q) : Sv t wFreed [c]
def KD : List (List Nat) := [kPut, kSkip, kPart, kEnd]
def FT : List (List Nat) := [fLine, fQuote, wBehind]
theorem rng_at {lo : Int} {n : Nat} {pre suf : List D} {d : D} (e : pre ++ d :: suf = rngD lo n) : pre.length < n ∧ d = .int (lo + (pre.length : Nat)) := by
  have h1 : pre.length < n := by
    have := congrArg List.length e
    rw [len_rng] at this
    simp at this; omega
  have h2 : (rngD lo n)[pre.length]? = some d := by rw [← e]; simp
  unfold rngD at h2
  rw [List.getElem?_map, List.getElem?_range h1] at h2
  exact ⟨h1, by simpa using h2.symm⟩
end DL
set_option Elab.async false
set_option linter.all false
set_option maxRecDepth 100000
set_option maxHeartbeats 1000000
namespace DL
open DM
/-- a walk -/
structure Wk where
  ks : List (List Nat)
  w : List Nat
  q : List Nat
  f : Option (List Nat)
/-- of n signs -/
structure OkW (t : Tl) (n : Nat) (a : Wk) : Prop where
  v : Sv t a.w a.q
  k : ∀ k ∈ a.ks, k ∈ KD
  l : a.f = none → a.ks.length = n
  lf : ∀ k, a.f = some k → a.ks.length < n ∧ k ∈ FT
theorem OkW.len {t : Tl} {n : Nat} {a : Wk} (o : OkW t n a) : a.ks.length ≤ n := by
  cases h : a.f with
  | none => exact Nat.le_of_eq (o.l h)
  | some k => exact Nat.le_of_lt (o.lf k h).1
theorem w_rse {S0 : Mn} {c n : Nat} {as : Ts} (h : S0.xar c = some (n + 1)) {ε : Ev} {μ : Mem} {w : Wp} : @wp (run S0 (.rse c as) ε μ) w = @Ok _ (evs S0 as ε μ) (fun xs => (decide (xs.1.length = n + 1) && decide (n < 900)) = true ∧ w.x ⟨c, xs.1.reverse⟩ ε xs.2) fun x μ => w.x x ε μ := by
  simp only [run, h]
  cases evs S0 as ε μ with
  | ok p =>
    show @wp (if _ then _ else _) w = _
    simp only [ok_ok]
    split
    · rename_i q; simp only [q, true_and]; rfl
    · rename_i q
      show False = _
      simp [q]
  | ex x μ => rfl
  | bad => rfl
theorem xar_at {T : Tb} {j : Nat} (h : 0 < j) : (T.mn j).xar = T.xar := by
  cases j with
  | zero => cases h
  | succ j => rfl
theorem isk_at {T : Tb} {j : Nat} : (T.mn j).isk = T.isk := by cases j <;> rfl
theorem call_pxE {T : Tb} {c i k : Nat} {as : List D} {x : Exn} (h : Fx T c i as x) (hk : c ≤ k) (h1 : cfs as = true) (h2 : cfs x.fs = true) {μ : Mem} {P : D × Mem → Prop} {E : Exn → Mem → Prop} : @Ok _ (callE (T.mn k) .pu i as μ) P E = E x μ := by
  obtain ⟨a1, a2, a3⟩ := h
  obtain ⟨μ', e⟩ := a3 k hk
  simp only [callE, h1, if_true, run_all a1 a2, e, R.pure, h2]
  rfl
end DL
set_option Elab.async false
set_option linter.all false
set_option maxRecDepth 100000
set_option maxHeartbeats 4000000
namespace LW
open PySem L2 PySem.Spec PyProof.Rows DM
def top (i : Nat) : Stmt := PySem.Challenge.pw_dialecthall_k91_rows_of_dialects.main.body.getD i (.Pass ⟨0, 0, 0, 0⟩)
def nmL : List Str := ["check_role", "", "", "is_name", "number_at", "sign_of", "numbers_told", "signs_told", "truths_told", "row_of", "dialect_in", "_law_cell_at", "_law_mixed", "_law_number", "_law_some", "_law_menus", "_law_told", "_law_made", "_law_title", "_law_row", "_law_refused", "_law_right", "law"]
def glL : List Str := ["LETTERS", "PRINTABLE", "MOST_PARTS", "MOST_QUOTES", "MOST_FREES", "SMALL", "LONGEST", "PRINTED"]
def gvL : List DM.D := [(.str [97,98,99,100,101,102,103,104,105,106,107,108,109,110,111,112,113,114,115,116,117,118,119,120,121,122,65,66,67,68,69,70,71,72,73,74,75,76,77,78,79,80,81,82,83,84,85,86,87,88,89,90,48,49,50,51,52,53,54,55,56,57]), (.str [97,98,99,100,101,102,103,104,105,106,107,108,109,110,111,112,113,114,115,116,117,118,119,120,121,122,65,66,67,68,69,70,71,72,73,74,75,76,77,78,79,80,81,82,83,84,85,86,87,88,89,90,48,49,50,51,52,53,54,55,56,57,32,33,34,35,36,38,39,40,41,42,43,44,45,46,47,58,59,60,61,62,63,64,91,92,93,94,95,96,123,124,125,126]), (.int 3), (.int 2), (.int 2), (.str [97,98,99,100,101,102,103,104,105,106,107,108,109,110,111,112,113,114,115,116,117,118,119,120,121,122]), (.int 8), (.str [32,33,34,35,36,38,39,40,41,42,43,44,45,46,47,48,49,50,51,52,53,54,55,56,57,58,59,60,61,62,63,64,65,66,67,68,69,70,71,72,73,74,75,76,77,78,79,80,81,82,83,84,85,86,87,88,89,90,91,92,93,94,95,96,97,98,99,100,101,102,103,104,105,106,107,108,109,110,111,112,113,114,115,116,117,118,119,120,121,122,123,124,125,126])]
def cnL : List Str := ["Dialect", "DialectError", "NoText", "NoTable", "NoDialect", "NoRow", "NoName"]
def anL : List Str := ["parts", "quotes", "frees", "twin", "wide", "thin", "stray", "name"]
def mnL : List Str := ["told", "special"]
def g : Sg := { nm := fun n => nmL.getD n "", gnm := fun n => glL.getD n "", cnm := fun n => cnL.getD n "", anm := fun n => anL.getD n "", mnm := fun n => mnL.getD n "", hot := fun n => [].contains n, hnd := fun n => [1, 2, 3, 4, 5, 6].contains n }
def avf (n : Nat) : Bool := decide (n < 23) && decide (nmL[n]? ≠ some "")
def avc (n : Nat) : Bool := [0].contains n
def avg (n : Nat) : Bool := [0, 1, 2, 3, 4, 5, 6, 7].contains n
def avi (n : Nat) : Bool := [0].contains n
def flF : Nat → List Nat
  | 0 => [0, 1, 2, 3, 4, 5, 6]
  | 6 => [7]
  | _ => []
def iniF : Nat → Option Nat
  | 0 => some 1
  | _ => none
def mtF : Nat → Nat → Option Nat
  | 0, 0 => some 2
  | _, _ => none
def unbF : Nat → Nat → Option Nat
  | _, _ => none
def iskL : List (Option Nat × Nat × Bool) := [(none, 0, false), (some 0, 0, true), (some 1, 1, true), (some 2, 1, true), (some 3, 1, true), (some 4, 1, true), (some 5, 1, true), (some 6, 1, true), (some 1, 2, false), (some 2, 2, true), (some 3, 2, false), (some 4, 2, false), (some 5, 2, false), (some 6, 2, false), (some 1, 3, false), (some 2, 3, false), (some 3, 3, true), (some 4, 3, false), (some 5, 3, false), (some 6, 3, false), (some 1, 4, false), (some 2, 4, false), (some 3, 4, false), (some 4, 4, true), (some 5, 4, false), (some 6, 4, false), (some 1, 5, false), (some 2, 5, false), (some 3, 5, false), (some 4, 5, false), (some 5, 5, true), (some 6, 5, false), (some 1, 6, false), (some 2, 6, false), (some 3, 6, false), (some 4, 6, false), (some 5, 6, false), (some 6, 6, true)]
def iskF : Option Nat → Nat → Option Bool := tabF iskL
def xarF : Nat → Option Nat
  | 4 => some 0
  | 5 => some 0
  | 6 => some 1
  | _ => none
def isvF : Nat → Option Bool
  | 1 => some true
  | 2 => some true
  | 3 => some true
  | 4 => some true
  | 5 => some true
  | 6 => some true
  | _ => none
def dvF : Nat → List DM.D
  | 1 => [(.str []), (.str []), (.bl false), (.bl false), (.bl false), (.bl false)]
  | _ => []
/-- 0: check_role -/
def N0 : List Str := ["thing", "least", "most", "sign"]
def ps0 : List Str := ["thing", "least", "most"]
def b0 : B :=
 (.cons (.ite (.or (.not (.isi (.var 0) .str)) (.or (.not (.chn .le .le (.var 1) (.bi .len (.cons (.var 0) .nil)) (.var 2))) (.cmp .lt (.lset (.var 0)) (.bi .len (.cons (.var 0) .nil)))))
 (.cons (.rs0 4)
 .nil)
 .nil)
 (.cons (.for_ (.nm 3) (.seq (.var 0))
 (.cons (.ite (.cmp .notin (.var 3) (.glob 1))
 (.cons (.rs0 4)
 .nil)
 .nil)
 .nil))
 .nil))
def d0 : Df := ⟨3, 4, b0⟩
/-- 1: Dialect.__init__ -/
def N1 : List Str := ["self", "parts", "quotes", "frees", "twin", "wide", "thin", "stray", "flag"]
def ps1 : List Str := ["self", "parts", "quotes", "frees", "twin", "wide", "thin", "stray"]
def b1 : B :=
 (.cons (.exp (.call .pu 0 (.cons (.var 1) (.cons (.lit (.int 1)) (.cons (.glob 2) .nil)))))
 (.cons (.exp (.call .pu 0 (.cons (.var 2) (.cons (.lit (.int 0)) (.cons (.glob 3) .nil)))))
 (.cons (.exp (.call .pu 0 (.cons (.var 3) (.cons (.lit (.int 0)) (.cons (.glob 4) .nil)))))
 (.cons (.for_ (.nm 8) (.seq (.lst (.cons (.var 4) (.cons (.var 5) (.cons (.var 6) (.cons (.var 7) .nil))))))
 (.cons (.ite (.not (.isi (.var 8) .bool))
 (.cons (.rs0 4)
 .nil)
 .nil)
 .nil))
 (.cons (.fld (.var 0) 0 (.var 1))
 (.cons (.fld (.var 0) 1 (.var 2))
 (.cons (.fld (.var 0) 2 (.var 3))
 (.cons (.fld (.var 0) 3 (.var 4))
 (.cons (.fld (.var 0) 4 (.var 5))
 (.cons (.fld (.var 0) 5 (.var 6))
 (.cons (.fld (.var 0) 6 (.var 7))
 .nil)))))))))))
def d1 : Df := ⟨8, 9, b1⟩
/-- 2: Dialect.told -/
def N2 : List Str := ["self"]
def ps2 : List Str := ["self"]
def b2 : B :=
 (.cons (.ret (.tup (.cons (.att (.var 0) 0) (.cons (.att (.var 0) 1) (.cons (.att (.var 0) 2) (.cons (.att (.var 0) 3) (.cons (.att (.var 0) 4) (.cons (.att (.var 0) 5) (.cons (.att (.var 0) 6) .nil)))))))))
 .nil)
def d2 : Df := ⟨1, 1, b2⟩
/-- 3: is_name -/
def N3 : List Str := ["thing", "sign"]
def ps3 : List Str := ["thing"]
def b3 : B :=
 (.cons (.ite (.or (.not (.isi (.var 0) .str)) (.not (.chn .le .le (.lit (.int 1)) (.bi .len (.cons (.var 0) .nil)) (.glob 6))))
 (.cons (.ret (.lit (.bl false)))
 .nil)
 .nil)
 (.cons (.ret (.bi .all (.cons (.lc (.nm 1) (.seq (.var 0)) .none (.cmp .isin (.var 1) (.glob 5))) .nil)))
 .nil))
def d3 : Df := ⟨1, 2, b3⟩
/-- 4: number_at -/
def N4 : List Str := ["place"]
def ps4 : List Str := ["place"]
def b4 : B :=
 (.cons (.ret (.bin .add (.bin .add (.lit (.int 32)) (.var 0)) (.bi .int (.cons (.cmp .gt (.var 0) (.lit (.int 4))) .nil))))
 .nil)
def d4 : Df := ⟨1, 1, b4⟩
/-- 5: sign_of -/
def N5 : List Str := ["word", "place"]
def ps5 : List Str := ["word"]
def b5 : B :=
 (.cons (.for_ (.nm 1) (.r1 (.bi .len (.cons (.glob 7) .nil)))
 (.cons (.ite (.cmp .eq (.bi .stri (.cons (.call .pu 4 (.cons (.var 1) .nil)) .nil)) (.var 0))
 (.cons (.ret (.idx (.glob 7) (.var 1)))
 .nil)
 .nil)
 .nil))
 (.cons (.rs0 5)
 .nil))
def d5 : Df := ⟨1, 2, b5⟩
/-- 6: numbers_told -/
def N6 : List Str := ["some", "sign"]
def ps6 : List Str := ["some"]
def b6 : B :=
 (.cons (.ite (.cmp .eq (.var 0) (.lit (.str [])))
 (.cons (.ret (.lit (.str [45])))
 .nil)
 .nil)
 (.cons (.ret (.sm .join (.lit (.str [43])) (.cons (.lc (.nm 1) (.seq (.var 0)) .none (.bi .stri (.cons (.call .pu 4 (.cons (.sm .sidx (.glob 7) (.cons (.var 1) .nil)) .nil)) .nil))) .nil)))
 .nil))
def d6 : Df := ⟨1, 2, b6⟩
/-- 7: signs_told -/
def N7 : List Str := ["word", "part"]
def ps7 : List Str := ["word"]
def b7 : B :=
 (.cons (.ite (.cmp .eq (.var 0) (.lit (.str [45])))
 (.cons (.ret (.lit (.str [])))
 .nil)
 .nil)
 (.cons (.ret (.sm .join (.lit (.str [])) (.cons (.lc (.nm 1) (.seq (.sm .split (.var 0) (.cons (.lit (.str [43])) .nil))) .none (.call .pu 5 (.cons (.var 1) .nil))) .nil)))
 .nil))
def d7 : Df := ⟨1, 2, b7⟩
/-- 8: truths_told -/
def N8 : List Str := ["word", "figure"]
def ps8 : List Str := ["word"]
def b8 : B :=
 (.cons (.ite (.or (.cmp .ne (.bi .len (.cons (.var 0) .nil)) (.lit (.int 4))) (.not (.bi .all (.cons (.lc (.nm 1) (.seq (.var 0)) .none (.cmp .isin (.var 1) (.lit (.str [48,49])))) .nil))))
 (.cons (.rs0 5)
 .nil)
 .nil)
 (.cons (.ret (.lc (.nm 1) (.seq (.var 0)) .none (.cmp .eq (.var 1) (.lit (.str [49])))))
 .nil))
def d8 : Df := ⟨1, 2, b8⟩
/-- 9: row_of -/
def N9 : List Str := ["name", "dialect", "told", "truths", "truth", "some"]
def ps9 : List Str := ["name", "dialect"]
def b9 : B :=
 (.cons (.ite (.not (.call .pu 3 (.cons (.var 0) .nil)))
 (.cons (.rse 6 (.cons (.var 0) .nil))
 .nil)
 .nil)
 (.cons (.asg (.nm 2) (.mth .pu (.var 1) 0 .nil))
 (.cons (.asg (.nm 3) (.sm .join (.lit (.str [])) (.cons (.lc (.nm 4) (.seq (.slc (.var 2) (.some (.lit (.int 3))) .none)) .none (.bi .stri (.cons (.bi .int (.cons (.var 4) .nil)) .nil))) .nil)))
 (.cons (.ret (.sm .join (.lit (.str [32])) (.cons (.bin .add (.bin .add (.lst (.cons (.lit (.str [100,105,97,108,101,99,116])) (.cons (.var 0) .nil))) (.lc (.nm 5) (.seq (.slc (.var 2) .none (.some (.lit (.int 3))))) .none (.call .pu 6 (.cons (.var 5) .nil)))) (.lst (.cons (.var 3) .nil))) .nil)))
 .nil))))
def d9 : Df := ⟨2, 6, b9⟩
/-- 10: dialect_in -/
def N10 : List Str := ["row", "words", "truths", "parts", "quotes", "frees", "made", "word"]
def ps10 : List Str := ["row"]
def b10 : B :=
 (.cons (.ite (.not (.isi (.var 0) .str))
 (.cons (.rs0 5)
 .nil)
 .nil)
 (.cons (.asg (.nm 1) (.sm .split (.var 0) (.cons (.lit (.str [32])) .nil)))
 (.cons (.ite (.or (.cmp .ne (.bi .len (.cons (.var 1) .nil)) (.lit (.int 6))) (.or (.cmp .ne (.idx (.var 1) (.lit (.int 0))) (.lit (.str [100,105,97,108,101,99,116]))) (.not (.call .pu 3 (.cons (.idx (.var 1) (.lit (.int 1))) .nil)))))
 (.cons (.rs0 5)
 .nil)
 .nil)
 (.cons (.asg (.tp [3, 4, 5]) (.lc (.nm 7) (.seq (.slc (.var 1) (.some (.lit (.int 2))) (.some (.lit (.int 5))))) .none (.call .pu 7 (.cons (.var 7) .nil))))
 (.cons (.asg (.nm 2) (.call .pu 8 (.cons (.idx (.var 1) (.lit (.int 5))) .nil)))
 (.cons (.tr (.cons (.asg (.nm 6) (.mak .pu 0 (.cons (.var 3) (.cons (.var 4) (.cons (.var 5) (.cons (.idx (.var 2) (.lit (.int 0))) (.cons (.idx (.var 2) (.lit (.int 1))) (.cons (.idx (.var 2) (.lit (.int 2))) (.cons (.idx (.var 2) (.lit (.int 3))) .nil)))))))))
 .nil)
 (.cons 4 none
 (.cons .no
 .nil)
 .nil)
 .nil)
 (.cons (.ret (.tup (.cons (.idx (.var 1) (.lit (.int 1))) (.cons (.var 6) .nil))))
 .nil)))))))
def d10 : Df := ⟨1, 8, b10⟩
/-- 11: cell_at -/
def N11 : List Str := ["_law_script", "_law_k"]
def ps11 : List Str := ["_law_script", "_law_k"]
def b11 : B :=
 (.cons (.ite (.cmp .lt (.var 1) (.bi .len (.cons (.var 0) .nil)))
 (.cons (.ret (.idx (.var 0) (.var 1)))
 .nil)
 .nil)
 (.cons (.ret (.lit (.int 0)))
 .nil))
def d11 : Df := ⟨2, 2, b11⟩
/-- 12: mixed -/
def N12 : List Str := ["_law_number_here", "_law_salt", "_law_one", "_law_two"]
def ps12 : List Str := ["_law_number_here", "_law_salt"]
def b12 : B :=
 (.cons (.asg (.nm 2) (.bin .mod (.bin .add (.bin .mul (.var 0) (.bin .add (.lit (.int 1299709)) (.bin .mul (.lit (.int 210)) (.var 1)))) (.bin .mul (.lit (.int 7919)) (.var 1))) (.lit (.int 15485863))))
 (.cons (.asg (.nm 3) (.bin .mod (.bin .add (.bin .mul (.var 2) (.var 2)) (.var 1)) (.lit (.int 32452843))))
 (.cons (.ret (.bin .mod (.bin .add (.bin .mul (.var 3) (.var 3)) (.var 2)) (.lit (.int 49979687))))
 .nil)))
def d12 : Df := ⟨2, 4, b12⟩
/-- 13: number -/
def N13 : List Str := ["_law_cell", "_law_salt", "_law_number_here", "_law_high"]
def ps13 : List Str := ["_law_cell", "_law_salt"]
def b13 : B :=
 (.cons (.ite (.and (.cmp .eq (.bin .mod (.var 0) (.lit (.int 2))) (.lit (.int 0))) (.cmp .ge (.var 0) (.bin .mul (.lit (.int 2)) (.bin .pow (.lit (.int 10)) (.lit (.int 18))))))
 (.cons (.ret (.bin .sub (.bin .fdiv (.var 0) (.lit (.int 2))) (.bin .pow (.lit (.int 10)) (.lit (.int 18)))))
 .nil)
 .nil)
 (.cons (.asg (.nm 2) (.bin .mod (.var 0) (.lit (.int 1000000007))))
 (.cons (.asg (.nm 3) (.bin .add (.bin .mul (.call .pu 12 (.cons (.var 2) (.cons (.var 1) .nil))) (.lit (.int 49979687))) (.call .pu 12 (.cons (.var 2) (.cons (.bin .add (.var 1) (.lit (.int 1))) .nil)))))
 (.cons (.ret (.bin .add (.bin .mul (.var 3) (.lit (.int 49979687))) (.call .pu 12 (.cons (.var 2) (.cons (.bin .add (.var 1) (.lit (.int 2))) .nil)))))
 .nil))))
def d13 : Df := ⟨2, 4, b13⟩
/-- 14: some -/
def N14 : List Str := ["_law_number_here", "_law_many", "_law_menu", "_law_found", "_law_k", "_law_sign"]
def ps14 : List Str := ["_law_number_here", "_law_many", "_law_menu"]
def b14 : B :=
 (.cons (.asg (.nm 3) (.lit (.str [])))
 (.cons (.for_ (.nm 4) (.r1 (.var 1))
 (.cons (.asg (.nm 5) (.idx (.var 2) (.bin .mod (.var 0) (.bi .len (.cons (.var 2) .nil)))))
 (.cons (.asg (.nm 0) (.bin .fdiv (.var 0) (.bi .len (.cons (.var 2) .nil))))
 (.cons (.ite (.cmp .notin (.var 5) (.var 3))
 (.cons (.asg (.nm 3) (.bin .add (.var 3) (.var 5)))
 .nil)
 .nil)
 .nil))))
 (.cons (.ret (.tup (.cons (.var 3) (.cons (.var 0) .nil))))
 .nil)))
def d14 : Df := ⟨3, 6, b14⟩
/-- 15: menus -/
def N15 : List Str := ["_law_way", "_law_every"]
def ps15 : List Str := ["_law_way"]
def b15 : B :=
 (.cons (.asg (.nm 1) (.lit (.str [32,33,34,35,36,38,39,40,41,42,43,44,45,46,47,48,49,50,51,52,53,54,55,56,57,58,59,60,61,62,63,64,65,66,67,68,69,70,71,72,73,74,75,76,77,78,79,80,81,82,83,84,85,86,87,88,89,90,91,92,93,94,95,96,97,98,99,100,101,102,103,104,105,106,107,108,109,110,111,112,113,114,115,116,117,118,119,120,121,122,123,124,125,126])))
 (.cons (.ite (.cmp .eq (.var 0) (.lit (.int 0)))
 (.cons (.ret (.lst (.cons (.lit (.str [44,59,39,94,32,97,98])) (.cons (.lit (.str [44,59,39,94,32,97,98])) (.cons (.lit (.str [44,59,39,94,32,97,98])) .nil)))))
 .nil)
 .nil)
 (.cons (.ite (.cmp .eq (.var 0) (.lit (.int 1)))
 (.cons (.ret (.lst (.cons (.lit (.str [44,59,124,58,47,45,32])) (.cons (.lit (.str [39,34,96,42,35,126,33])) (.cons (.lit (.str [92,94,36,38,43,61,64])) .nil)))))
 .nil)
 .nil)
 (.cons (.ret (.lst (.cons (.var 1) (.cons (.var 1) (.cons (.var 1) .nil)))))
 .nil))))
def d15 : Df := ⟨1, 2, b15⟩
/-- 16: told -/
def N16 : List Str := ["_law_cell", "_law_number_here", "_law_flags", "_law_sizes", "_law_menus_here", "_law_truths", "_law_parts", "_law_quotes", "_law_frees"]
def ps16 : List Str := ["_law_cell"]
def b16 : B :=
 (.cons (.asg (.nm 1) (.call .pu 13 (.cons (.var 0) (.cons (.lit (.int 11)) .nil))))
 (.cons (.asg (.nm 2) (.bin .mod (.var 1) (.lit (.int 16))))
 (.cons (.asg (.nm 3) (.lst (.cons (.bin .add (.lit (.int 1)) (.bin .mod (.bin .fdiv (.var 1) (.lit (.int 16))) (.lit (.int 3)))) (.cons (.bin .mod (.bin .fdiv (.var 1) (.lit (.int 48))) (.lit (.int 3))) (.cons (.bin .mod (.bin .fdiv (.var 1) (.lit (.int 144))) (.lit (.int 3))) .nil)))))
 (.cons (.asg (.nm 4) (.call .pu 15 (.cons (.bin .mod (.bin .fdiv (.var 1) (.lit (.int 432))) (.lit (.int 3))) .nil)))
 (.cons (.asg (.tp [6, 1]) (.call .pu 14 (.cons (.bin .fdiv (.var 1) (.lit (.int 1296))) (.cons (.idx (.var 3) (.lit (.int 0))) (.cons (.idx (.var 4) (.lit (.int 0))) .nil)))))
 (.cons (.asg (.tp [7, 1]) (.call .pu 14 (.cons (.var 1) (.cons (.idx (.var 3) (.lit (.int 1))) (.cons (.idx (.var 4) (.lit (.int 1))) .nil)))))
 (.cons (.asg (.tp [8, 1]) (.call .pu 14 (.cons (.var 1) (.cons (.idx (.var 3) (.lit (.int 2))) (.cons (.idx (.var 4) (.lit (.int 2))) .nil)))))
 (.cons (.asg (.nm 5) (.lst (.cons (.cmp .eq (.bin .mod (.var 2) (.lit (.int 2))) (.lit (.int 1))) (.cons (.cmp .eq (.bin .mod (.bin .fdiv (.var 2) (.lit (.int 2))) (.lit (.int 2))) (.lit (.int 1))) (.cons (.cmp .eq (.bin .mod (.bin .fdiv (.var 2) (.lit (.int 4))) (.lit (.int 2))) (.lit (.int 1))) (.cons (.cmp .eq (.bin .mod (.bin .fdiv (.var 2) (.lit (.int 8))) (.lit (.int 2))) (.lit (.int 1))) .nil))))))
 (.cons (.ret (.tup (.cons (.var 6) (.cons (.var 7) (.cons (.var 8) (.cons (.idx (.var 5) (.lit (.int 0))) (.cons (.idx (.var 5) (.lit (.int 1))) (.cons (.idx (.var 5) (.lit (.int 2))) (.cons (.idx (.var 5) (.lit (.int 3))) .nil)))))))))
 .nil)))))))))
def d16 : Df := ⟨1, 9, b16⟩
/-- 17: made -/
def N17 : List Str := ["_law_told_here"]
def ps17 : List Str := ["_law_told_here"]
def b17 : B :=
 (.cons (.ret (.mak .pu 0 (.cons (.idx (.var 0) (.lit (.int 0))) (.cons (.idx (.var 0) (.lit (.int 1))) (.cons (.idx (.var 0) (.lit (.int 2))) (.cons (.idx (.var 0) (.lit (.int 3))) (.cons (.idx (.var 0) (.lit (.int 4))) (.cons (.idx (.var 0) (.lit (.int 5))) (.cons (.idx (.var 0) (.lit (.int 6))) .nil)))))))))
 .nil)
def d17 : Df := ⟨1, 1, b17⟩
/-- 18: title -/
def N18 : List Str := ["_law_cell", "_law_number_here", "_law_size", "_law_name", "_law_k"]
def ps18 : List Str := ["_law_cell"]
def b18 : B :=
 (.cons (.asg (.nm 1) (.call .pu 13 (.cons (.var 0) (.cons (.lit (.int 71)) .nil))))
 (.cons (.asg (.nm 2) (.bin .add (.lit (.int 1)) (.bin .mod (.var 1) (.lit (.int 8)))))
 (.cons (.asg (.nm 1) (.bin .fdiv (.var 1) (.lit (.int 8))))
 (.cons (.asg (.nm 3) (.lit (.str [])))
 (.cons (.for_ (.nm 4) (.r1 (.var 2))
 (.cons (.asg (.nm 3) (.bin .add (.var 3) (.idx (.lit (.str [97,98,99,100,101,102,103,104,105,106,107,108,109,110,111,112,113,114,115,116,117,118,119,120,121,122])) (.bin .mod (.var 1) (.lit (.int 26))))))
 (.cons (.asg (.nm 1) (.bin .fdiv (.var 1) (.lit (.int 26))))
 .nil)))
 (.cons (.ret (.var 3))
 .nil))))))
def d18 : Df := ⟨1, 5, b18⟩
/-- 19: row -/
def N19 : List Str := ["_law_name", "_law_told_here", "_law_every", "_law_words", "_law_some_here", "_law_numbers", "_law_sign", "_law_at", "_law_truth"]
def ps19 : List Str := ["_law_name", "_law_told_here"]
def b19 : B :=
 (.cons (.asg (.nm 2) (.idx (.call .pu 15 (.cons (.lit (.int 2)) .nil)) (.lit (.int 0))))
 (.cons (.asg (.nm 3) (.new (.lst (.cons (.lit (.str [100,105,97,108,101,99,116])) (.cons (.var 0) .nil)))))
 (.cons (.for_ (.nm 4) (.seq (.slc (.var 1) .none (.some (.lit (.int 3)))))
 (.cons (.asg (.nm 5) (.new (.lst .nil)))
 (.cons (.for_ (.nm 6) (.seq (.var 4))
 (.cons (.asg (.nm 7) (.sm .sidx (.var 2) (.cons (.var 6) .nil)))
 (.cons (.app (.var 5) (.bi .stri (.cons (.idx (.lst (.cons (.bin .add (.lit (.int 32)) (.var 7)) (.cons (.bin .add (.lit (.int 33)) (.var 7)) .nil))) (.bi .int (.cons (.cmp .gt (.var 7) (.lit (.int 4))) .nil))) .nil)))
 .nil)))
 (.cons (.app (.var 3) (.sm .join (.lit (.str [43])) (.cons (.var 5) .nil)))
 (.cons (.ite (.cmp .eq (.var 4) (.lit (.str [])))
 (.cons (.put (.var 3) (.neg (.lit (.int 1))) (.lit (.str [45])))
 .nil)
 .nil)
 .nil)))))
 (.cons (.ret (.sm .join (.lit (.str [32])) (.cons (.bin .add (.var 3) (.lst (.cons (.sm .join (.lit (.str [])) (.cons (.lc (.nm 8) (.seq (.slc (.var 1) (.some (.lit (.int 3))) .none)) .none (.bi .stri (.cons (.bi .int (.cons (.var 8) .nil)) .nil))) .nil)) .nil))) .nil)))
 .nil))))
def d19 : Df := ⟨2, 9, b19⟩
/-- 20: refused -/
def N20 : List Str := ["_law_thing", "_law_made_here", "e"]
def ps20 : List Str := ["_law_thing", "_law_made_here"]
def b20 : B :=
 (.cons (.tr (.cons (.exp (.call .pu 9 (.cons (.var 0) (.cons (.var 1) .nil))))
 .nil)
 (.cons 6 (some 2)
 (.cons (.ite (.or (.ist (.var 2) [4, 5, 3, 2]) (.not (.isv (.var 2))))
 (.cons (.ret (.lit (.bl false)))
 .nil)
 .nil)
 (.cons (.ret (.and (.isc (.var 2) 1) (.and (.cmp .eq (.isi (.att (.var 2) 7) .bool) (.isi (.var 0) .bool)) (.cmp .eq (.att (.var 2) 7) (.var 0)))))
 .nil))
 .nil)
 .nil)
 (.cons (.ret (.lit (.bl false)))
 .nil))
def d20 : Df := ⟨2, 3, b20⟩
/-- 21: right -/
def N21 : List Str := ["_law_name", "_law_told_here", "_law_row_here", "_law_pair"]
def ps21 : List Str := ["_law_name", "_law_told_here"]
def b21 : B :=
 (.cons (.asg (.nm 2) (.call .pu 9 (.cons (.var 0) (.cons (.call .pu 17 (.cons (.var 1) .nil)) .nil))))
 (.cons (.ite (.or (.not (.isi (.var 2) .str)) (.or (.cmp .ne (.var 2) (.call .pu 19 (.cons (.var 0) (.cons (.var 1) .nil)))) (.cmp .notN (.call .pu 3 (.cons (.var 0) .nil)) (.lit (.bl true)))))
 (.cons (.ret (.lit (.bl false)))
 .nil)
 .nil)
 (.cons (.asg (.nm 3) (.call .pu 10 (.cons (.var 2) .nil)))
 (.cons (.ite (.or (.not (.isi (.var 3) .tup)) (.or (.cmp .ne (.bi .len (.cons (.var 3) .nil)) (.lit (.int 2))) (.or (.cmp .ne (.idx (.var 3) (.lit (.int 0))) (.var 0)) (.not (.isc (.idx (.var 3) (.lit (.int 1))) 0)))))
 (.cons (.ret (.lit (.bl false)))
 .nil)
 .nil)
 (.cons (.ret (.cmp .eq (.mth .pu (.idx (.var 3) (.lit (.int 1))) 0 .nil) (.var 1)))
 .nil)))))
def d21 : Df := ⟨2, 4, b21⟩
/-- 22: law -/
def N22 : List Str := ["_law_script", "_law_told_here", "_law_second", "_law_name", "_law_other", "_law_at", "_law_odd", "_law_thing"]
def ps22 : List Str := ["_law_script"]
def b22 : B :=
 (.cons (.asg (.nm 1) (.call .pu 16 (.cons (.call .pu 11 (.cons (.var 0) (.cons (.lit (.int 0)) .nil))) .nil)))
 (.cons (.asg (.nm 2) (.call .pu 16 (.cons (.bin .add (.call .pu 11 (.cons (.var 0) (.cons (.lit (.int 1)) .nil))) (.lit (.int 1))) .nil)))
 (.cons (.asg (.nm 3) (.call .pu 18 (.cons (.call .pu 11 (.cons (.var 0) (.cons (.lit (.int 2)) .nil))) .nil)))
 (.cons (.asg (.nm 4) (.call .pu 18 (.cons (.call .pu 11 (.cons (.var 0) (.cons (.lit (.int 3)) .nil))) .nil)))
 (.cons (.ite (.or (.not (.call .pu 21 (.cons (.var 3) (.cons (.var 1) .nil)))) (.or (.not (.call .pu 21 (.cons (.var 4) (.cons (.var 2) .nil)))) (.not (.call .pu 21 (.cons (.var 3) (.cons (.var 1) .nil))))))
 (.cons (.ret (.lit (.bl false)))
 .nil)
 .nil)
 (.cons (.asg (.nm 5) (.bin .mod (.call .pu 11 (.cons (.var 0) (.cons (.lit (.int 4)) .nil))) (.bi .len (.cons (.var 3) .nil))))
 (.cons (.asg (.nm 6) (.bin .add (.bin .add (.slc (.var 3) .none (.some (.var 5))) (.idx (.lit (.str [65,49,32,95,45,46,10])) (.bin .mod (.bin .fdiv (.call .pu 11 (.cons (.var 0) (.cons (.lit (.int 4)) .nil))) (.lit (.int 8))) (.lit (.int 7))))) (.slc (.var 3) (.some (.bin .add (.var 5) (.lit (.int 1)))) .none)))
 (.cons (.for_ (.nm 7) (.seq (.lst (.cons (.var 6) (.cons (.lit (.str [])) (.cons (.lit (.str [97,98,99,100,101,102,103,104,105])) (.cons (.bin .add (.slc (.var 3) .none (.some (.lit (.int 7)))) (.lit (.str [65]))) (.cons (.bin .add (.slc (.var 3) .none (.some (.lit (.int 7)))) (.lit (.str [49]))) (.cons (.bin .add (.slc (.var 3) .none (.some (.lit (.int 7)))) (.lit (.str [32]))) (.cons (.lit .non) (.cons (.lit (.int 7)) (.cons (.lit (.bl true)) (.cons (.lst (.cons (.var 3) .nil)) .nil))))))))))))
 (.cons (.ite (.or (.cmp .notN (.call .pu 3 (.cons (.var 7) .nil)) (.lit (.bl false))) (.not (.call .pu 20 (.cons (.var 7) (.cons (.call .pu 17 (.cons (.var 1) .nil)) .nil)))))
 (.cons (.ret (.lit (.bl false)))
 .nil)
 .nil)
 .nil))
 (.cons (.ret (.lit (.bl true)))
 .nil)))))))))
def d22 : Df := ⟨1, 8, b22⟩
def T : Tb := { dfs := [d0, d1, d2, d3, d4, d5, d6, d7, d8, d9, d10, d11, d12, d13, d14, d15, d16, d17, d18, d19, d20, d21, d22], gl := fun n => gvL.getD n .non, fl := flF, ini := iniF, mt := mtF, unb := unbF, fnd := avf, dv := dvF, xar := xarF, isk := iskF, isv := isvF }
theorem look0 : lkD g avf avc avg avi N0 ps0 d0 (top 14) = true := by decide +kernel
theorem look1 : lkD g avf avc avg avi N1 ps1 d1 (inClass (top 15) 0) = true := by decide +kernel
theorem look2 : lkD g avf avc avg avi N2 ps2 d2 (inClass (top 15) 1) = true := by decide +kernel
theorem look3 : lkD g avf avc avg avi N3 ps3 d3 (top 20) = true := by decide +kernel
theorem look4 : lkD g avf avc avg avi N4 ps4 d4 (top 21) = true := by decide +kernel
theorem look5 : lkD g avf avc avg avi N5 ps5 d5 (top 22) = true := by decide +kernel
theorem look6 : lkD g avf avc avg avi N6 ps6 d6 (top 23) = true := by decide +kernel
theorem look7 : lkD g avf avc avg avi N7 ps7 d7 (top 24) = true := by decide +kernel
theorem look8 : lkD g avf avc avg avi N8 ps8 d8 (top 25) = true := by decide +kernel
theorem look9 : lkD g avf avc avg avi N9 ps9 d9 (top 26) = true := by decide +kernel
theorem look10 : lkD g avf avc avg avi N10 ps10 d10 (top 27) = true := by decide +kernel
theorem look11 : lkD g avf avc avg avi N11 ps11 d11 (top 29) = true := by decide +kernel
theorem look12 : lkD g avf avc avg avi N12 ps12 d12 (top 30) = true := by decide +kernel
theorem look13 : lkD g avf avc avg avi N13 ps13 d13 (top 31) = true := by decide +kernel
theorem look14 : lkD g avf avc avg avi N14 ps14 d14 (top 32) = true := by decide +kernel
theorem look15 : lkD g avf avc avg avi N15 ps15 d15 (top 33) = true := by decide +kernel
theorem look16 : lkD g avf avc avg avi N16 ps16 d16 (top 34) = true := by decide +kernel
theorem look17 : lkD g avf avc avg avi N17 ps17 d17 (top 35) = true := by decide +kernel
theorem look18 : lkD g avf avc avg avi N18 ps18 d18 (top 36) = true := by decide +kernel
theorem look19 : lkD g avf avc avg avi N19 ps19 d19 (top 37) = true := by decide +kernel
theorem look20 : lkD g avf avc avg avi N20 ps20 d20 (top 38) = true := by decide +kernel
theorem look21 : lkD g avf avc avg avi N21 ps21 d21 (top 39) = true := by decide +kernel
theorem look22 : lkD g avf avc avg avi N22 ps22 d22 (top 40) = true := by decide +kernel
def Nx6 : List Str := ["self", "name"]
theorem lookx6 : lkX Nx6 Nx6 ["name"] (inClass (top 7) 0) = true := by decide +kernel
end LW
set_option Elab.async false
set_option linter.all false
set_option maxRecDepth 100000
set_option maxHeartbeats 1000000
namespace LW
open DM DL
open TL (numL joinL spl)
theorem f0 {lo hi : Nat} {s : List Nat} (r : Role lo hi DL.PR s) (hh : hi ≤ 4000) : Fn T 1 0 [.str s, .int lo, .int hi] .non := role_fn (x := 4) (p := 1) rfl rfl r hh
theorem mks : Mks T 0 := by
  intro t g k hk μ P E
  exact make_pu (r := 0) (g1 := 2) (g2 := 3) (g3 := 4) (x := 4) (f0 := 0) (i := 1) rfl rfl (fun _ _ _ r h => f0 r h) rfl rfl rfl rfl g hk
def dialA (t : Tl) : D := .ins 0 t.ds
theorem f2 (t : Tl) : Fn T 1 2 [dialA t] (.tup t.ds) := told_fn (f := 0) rfl rfl t
theorem f11 (ns : List Int) (k : Nat) : Fn T 1 11 [.lst (ns.map .int), .int k] (.int (ns.getD k 0)) := cellAt_fn rfl ns k
theorem f12 (n s : Int) (a : 0 ≤ s) (b : s < 1000) : Fn T 1 12 [.int n, .int s] (.int (mixed n s)) := mixed_fn rfl n s a b
theorem f13 (c s : Int) (a : 0 ≤ s) (b : s < 900) : Fn T 2 13 [.int c, .int s] (.int (number c s)) := number_fn (m := 12) rfl f12 c s a b
theorem f16 (c : Int) : Fn T 3 16 [.int c] (.tup (tell c).ds) := cell_fn (n := 13) (m := 15) (s := 14) rfl (fun c => f13 c 11 (by decide) (by decide)) (fun w => menus_fn rfl w) (fun n m M a b c d e => some_fnI rfl n m M a b c d e) c
theorem f17 {t : Tl} (g : Good t) : Fn T 3 17 [.tup t.ds] (dialA t) := made_fn (c := 0) rfl mks g
theorem mk7 {t : Tl} (g : Good t) {j : Nat} (hj : 2 ≤ j) {μ : Mem} {P : D × Mem → Prop} {E : Exn → Mem → Prop} : @Ok _ (makE (T.mn j) .pu 0 [.str t.p, .str t.q, .str t.f, .bl t.t1, .bl t.t2, .bl t.t3, .bl t.t4] μ) P E = P (.ins 0 t.ds, μ) := mks g hj
def SML : List Nat := [97,98,99,100,101,102,103,104,105,106,107,108,109,110,111,112,113,114,115,116,117,118,119,120,121,122]
def PRL : List Nat := [32,33,34,35,36,38,39,40,41,42,43,44,45,46,47,48,49,50,51,52,53,54,55,56,57,58,59,60,61,62,63,64,65,66,67,68,69,70,71,72,73,74,75,76,77,78,79,80,81,82,83,84,85,86,87,88,89,90,91,92,93,94,95,96,97,98,99,100,101,102,103,104,105,106,107,108,109,110,111,112,113,114,115,116,117,118,119,120,121,122,123,124,125,126]
theorem gS : T.gl 5 = .str SML := rfl
theorem gP : T.gl 7 = .str PRL := rfl
theorem gL : T.gl 6 = .int 8 := rfl
def isNm (x : List Nat) : Bool := (decide (1 ≤ x.length) && decide (x.length ≤ 8)) && x.all fun c => decide (c ∈ SML)
theorem bls_mp {α : Type} (g : α → Bool) (r : List α) : blsOf (r.map fun x => D.bl (g x)) = some (r.map g) := by
  induction r with
  | nil => rfl
  | cons a r ih =>
    show (blsOf (r.map fun x => D.bl (g x))).map (g a :: ·) = _
    rw [ih]; rfl
theorem f3 (x : List Nat) (hx : x.length ≤ 100000) : Fn T 1 3 [.str x] (.bl (isNm x)) := by
  refine fn_of (f := d3) rfl rfl fun j hj => ?_
  have g5 := gl_at (j := j) gS
  have g6 := gl_at (j := j) gL
  have xl : x.length ≤ 16777216 := by omega
  have i1 : isiE .str (.str x) = some (.bl true) := rfl
  have sh : ∀ μ, shortB μ (.its (x.map fun c => D.str [c])) = true := fun μ => by simp [shortB]; omega
  have lc : ∀ e0 μ, goLcI (.nm 1) [e0, none] (evc (T.mn j) .none) (ev (T.mn j) (.cmp .isin (.var 1) (.glob 5))) (.its (x.map fun c => D.str [c])) μ = .ok (x.map fun c => .bl (decide (c ∈ SML)), μ) := by
    intro e0 μ
    unfold goLcI
    dsimp only
    rw [goLc_ok (p := fun _ => true) (f := fun d => match d with | .str [c] => .bl (decide (c ∈ SML)) | _ => .non)]
    · rw [List.filter_eq_self.mpr (by simp), List.map_map]; rfl
    · intro d hd
      obtain ⟨c, hc, rfl⟩ := List.mem_map.mp hd
      refine ⟨_, rfl, rfl, fun _ => ?_⟩
      rw [← ok_eq]
      simp only [List.set_cons_succ, List.set_cons_zero, v_cmp, x_in, v_glob, g5, r_str, v_var, List.getElem?_cons_succ, List.getElem?_cons_zero, get_some, c_ins, op_some]
  have bm := bls_mp (fun c => decide (c ∈ SML)) x
  have ba : (x.map fun c => decide (c ∈ SML)).all id = x.all fun c => decide (c ∈ SML) := by rw [List.all_map]; rfl
  obtain ⟨XS, eXS⟩ : ∃ X, X = x.map fun c => D.str [c] := ⟨_, rfl⟩
  have sq : ∀ μ, seqE μ (.str x) = some (.its XS) := fun μ => by rw [eXS]; rfl
  rw [← eXS] at sh lc
  generalize (x.map fun c => D.bl (decide (c ∈ SML))) = BS at *
  generalize (x.map fun c => decide (c ∈ SML)) = bs at *
  unfold isNm
  rw [← ba]
  by_cases h1 : (1 : Int) ≤ x.length
  · by_cases h2 : (x.length : Int) ≤ 8
    · have d1 : decide (1 ≤ x.length) = true := decide_eq_true (by omega)
      have d2 : decide (x.length ≤ 8) = true := decide_eq_true (by omega)
      rw [d1, d2]
      simp only [d3, b3, ev0, List.map_cons, List.map_nil, List.length_cons, List.length_nil, Nat.reduceAdd, Nat.reduceSub, List.replicate, List.cons_append, List.nil_append, Bool.and_self, Bool.true_and, w_cons, w_nil, w_ret, v_bi, v_cons, v_nil, v_lc, tgI, wipeE, t_lst, n_all, op_map, v_seq, v_var, w_ite, v_lit, List.getElem?_cons_zero, List.set_cons_succ, List.set_cons_zero, get_some, sq, op_some, sh, lc, ok_ok, bm, and_true, v_or, tB_bl, true_implies, Bool.true_eq_false, implies_true, v_not, Bool.false_eq_true, false_implies, v_chn, x_le, v_glob, g6, t_int, true_and, t_str, n_lens, xl, op_ite, c_le, h2, decide_true, h1, v_isi, i1]
    · have d2 : decide (x.length ≤ 8) = false := decide_eq_false (by omega)
      rw [d2, Bool.and_false, Bool.false_and]
      simp only [d3, b3, ev0, List.map_cons, List.map_nil, List.length_cons, List.length_nil, Nat.reduceAdd, Nat.reduceSub, List.replicate, List.cons_append, List.nil_append, w_cons, w_nil, w_ret, v_bi, v_cons, v_nil, v_lc, tgI, wipeE, t_lst, n_all, op_map, v_seq, v_var, w_ite, v_lit, List.getElem?_cons_zero, List.set_cons_succ, List.set_cons_zero, get_some, q_str, op_some, v_or, tB_bl, implies_true, Bool.true_eq_false, false_implies, and_true, v_not, Bool.false_eq_true, true_implies, true_and, v_chn, x_le, v_glob, g6, t_int, t_str, n_lens, xl, op_ite, c_le, h2, decide_false, h1, decide_true, v_isi, i1]
  · have d1 : decide (1 ≤ x.length) = false := decide_eq_false (by omega)
    rw [d1, Bool.false_and, Bool.false_and]
    simp only [d3, b3, ev0, List.map_cons, List.map_nil, List.length_cons, List.length_nil, Nat.reduceAdd, Nat.reduceSub, List.replicate, List.cons_append, List.nil_append, w_cons, w_nil, w_ret, v_bi, v_cons, v_nil, v_lc, tgI, wipeE, t_lst, n_all, op_map, v_seq, v_var, w_ite, v_lit, List.getElem?_cons_zero, List.set_cons_succ, List.set_cons_zero, get_some, q_str, op_some, v_or, tB_bl, implies_true, Bool.true_eq_false, false_implies, and_true, v_not, Bool.false_eq_true, true_implies, true_and, v_chn, x_le, v_glob, g6, t_int, t_str, n_lens, xl, op_ite, c_le, decide_eq_true_eq, decide_eq_false_iff_not, h1, decide_false, v_isi, i1]
theorem f3n {X : D} (h : isiE .str X = some (.bl false)) : Fn T 1 3 [X] (.bl false) := by
  refine fn_of (f := d3) rfl rfl fun j hj => ?_
  have tX : ∀ μ, DM.top μ X = X := fun μ => by cases X <;> first | rfl | cases h
  simp only [d3, b3, ev0, List.map_cons, List.map_nil, List.length_cons, List.length_nil, Nat.reduceAdd, Nat.reduceSub, List.replicate, List.cons_append, List.nil_append, w_cons, w_nil, w_ret, v_bi, v_cons, v_nil, v_lc, tgI, wipeE, t_lst, n_all, op_map, v_seq, v_var, w_ite, v_lit, List.getElem?_cons_zero, List.set_cons_succ, List.set_cons_zero, get_some, v_or, tB_bl, implies_true, Bool.true_eq_false, false_implies, and_true, v_not, Bool.false_eq_true, true_implies, true_and, v_chn, x_le, v_glob, tX, t_int, v_isi, h, op_some]
def numAt (k : Int) : Int := 32 + k + (if 4 < k then 1 else 0)
theorem f4 (k : Int) : Fn T 1 4 [.int k] (.int (numAt k)) := by
  refine fn_of (f := d4) rfl rfl fun j hj => ?_
  unfold numAt
  simp only [d4, b4, ev0, List.map_cons, List.map_nil, List.length_cons, List.length_nil, Nat.reduceAdd, Nat.reduceSub, List.replicate, List.cons_append, List.nil_append, w_cons, w_nil, w_ret, v_bin, v_bi, v_cons, v_nil, v_cmp, x_gt, v_lit, t_int, v_var, List.getElem?_cons_zero, get_some, c_gt, op_some, t_bl, n_intb, decide_eq_true_eq, b_add]
  try rfl
theorem at_pr : ∀ k : Nat, k < 94 → numAt (k : Int) = ((PRL.getD k 0 : Nat) : Int) := by decide +kernel
theorem pr_idx : ∀ c ∈ PRL, numAt ((PRL.idxOf c : Nat) : Int) = ((c : Nat) : Int) := by decide +kernel
theorem pr_small : ∀ c ∈ PRL, c < 127 := by decide +kernel
theorem f5 {c : Nat} (hc : c ∈ PRL) : Fn T 2 5 [.str (numL c)] (.str [c]) := by
  refine fn_of (f := d5) rfl rfl fun j hj => ?_
  have g7 := gl_at (j := j) gP
  have e4 := fun (k : Int) {μ : Mem} {P : D × Mem → Prop} {E : Exn → Mem → Prop} => call_puE (k := j) (μ := μ) (P := P) (E := E) (f4 k) (by omega) rfl rfl
  have pl : PRL.length ≤ 16777216 := by decide
  have rt : rngOk ((PRL.length : Nat) : Int) = true := by decide
  have pS : ∀ x, pd 64 (.str x) = true := fun _ => rfl
  simp only [d5, b5, ev0, List.map_cons, List.map_nil, List.length_cons, List.length_nil, Nat.reduceAdd, Nat.reduceSub, List.replicate, List.cons_append, List.nil_append, w_cons, w_nil, w_rs0, w_for, v_r1, w_its, v_bi, v_cons, v_nil, v_glob, g7, t_str, n_lens, pl, op_ite, op_some, iP_int, rt, true_and]
  refine wp_goF (fun pre ε μ => (∃ o, ε = [some (.str (numL c)), o]) ∧ ∀ k, k < pre.length → PRL.getD k 0 ≠ c) ⟨⟨none, rfl⟩, fun k hk => by cases hk⟩ ?_ ?_
  · rintro pre d suf ε μ e ⟨⟨o, rfl⟩, hp⟩
    obtain ⟨hl, rfl⟩ := rng_at e
    have hl : pre.length < 94 := hl
    have z : (0 : Int) + (pre.length : Nat) = ((pre.length : Nat) : Int) := by omega
    rw [z]
    refine ⟨_, rfl, ?_⟩
    have ea := at_pr pre.length hl
    have hm : PRL.getD pre.length 0 ∈ PRL := by
      rw [List.getD_eq_getElem?_getD, List.getElem?_eq_getElem hl]
      exact List.getElem_mem _
    have hs := pr_small _ hm
    have at_ : atE PRL ((pre.length : Nat) : Int) = some (PRL.getD pre.length 0) := by
      unfold atE
      rw [if_pos (by omega), List.getD_eq_getElem?_getD]
      simp only [Int.toNat_natCast]
      rw [List.getElem?_eq_getElem hl]
      rfl
    obtain ⟨v, hvv⟩ : ∃ v, PRL.getD pre.length 0 = v := ⟨_, rfl⟩
    rw [hvv] at ea hm hs at_
    have e4' := fun {μ : Mem} {P : D × Mem → Prop} {E : Exn → Mem → Prop} => e4 ((pre.length : Nat) : Int) (μ := μ) (P := P) (E := E)
    rw [ea] at e4'
    have r0 : (0 : Int) ≤ (v : Nat) ∧ ((v : Nat) : Int) < 1000000 := by omega
    have tn : (((v : Nat) : Int)).toNat = v := by omega
    by_cases hv : v = c
    · subst hv
      have q : eqD (.str (numL v)) (.str (numL v)) = true := by simp [eqD_str]
      simp only [List.set_cons_succ, List.set_cons_zero, w_cons, w_nil, w_ite, w_ret, v_idx, v_var, List.getElem?_cons_succ, List.getElem?_cons_zero, get_some, t_int, v_glob, g7, t_str, i_str, at_, op_ite, op_map, op_some, and_true, v_cmp, x_eq, c_eq, tB_bl, r_str, pS, v_bi, v_cons, List.map_cons, v_nil, List.map_nil, v_call, e4', n_stri, r0, tn, Bool.and_self, q, true_implies, Bool.true_eq_false, false_implies, true_and]
      exact pl
    · have ne : ¬ numL v = numL c := fun z => hv (TL.numL_inj z)
      simp only [List.set_cons_succ, List.set_cons_zero, w_cons, w_nil, w_ite, w_ret, v_idx, v_var, List.getElem?_cons_succ, List.getElem?_cons_zero, get_some, t_int, v_glob, v_cmp, x_eq, c_eq, op_ite, op_some, tB_bl, r_str, pS, v_bi, v_cons, List.map_cons, v_nil, List.map_nil, v_call, e4', n_stri, r0, and_true, tn, Bool.and_self, eqD_str, ne, decide_false, Bool.false_eq_true, false_implies, true_implies, true_and]
      refine ⟨⟨_, rfl⟩, fun k hk => ?_⟩
      rw [List.length_append, List.length_singleton] at hk
      by_cases h : k = pre.length
      · rw [h, hvv]; exact hv
      · exact hp k (by omega)
  · rintro ε μ ⟨⟨o, rfl⟩, hp⟩
    exfalso
    obtain ⟨i, hi⟩ := List.mem_iff_getElem?.mp hc
    have hl := (List.getElem?_eq_some_iff.mp hi).1
    have hl : i < 94 := hl
    refine hp i (by rw [len_rng]; exact hl) ?_
    rw [List.getD_eq_getElem?_getD, hi]; rfl
def sgW (x : List Nat) : List Nat := if x = [] then [45] else joinL [43] (x.map numL)
structure Sg3 (x : List Nat) : Prop where
  sub : ∀ c ∈ x, c ∈ PRL
  few : x.length ≤ 3
theorem pr_in : ∀ c ∈ DL.PR, c ∈ PRL := by decide +kernel
theorem role_sg {lo hi : Nat} {x : List Nat} (r : Role lo hi DL.PR x) (h : hi ≤ 3) : Sg3 x := ⟨fun c hc => pr_in c (r.sub c hc), Nat.le_trans r.hi h⟩
theorem num_len {c : Nat} (hc : c ∈ PRL) : (numL c).length ≤ 3 := TL.numL_len (k := 3) (by decide) (by have := pr_small c hc; omega)
theorem strsM {α : Type} (l : List α) (f : α → List Nat) : strsOf (l.map fun a => D.str (f a)) = some (l.map f) := by
  induction l with
  | nil => rfl
  | cons a l ih =>
    show (strsOf (l.map fun a => D.str (f a))).map (f a :: ·) = _
    rw [ih]; rfl
theorem sum_le {l : List (List Nat)} {b : Nat} (h : ∀ x ∈ l, x.length ≤ b) : (l.map (·.length)).sum ≤ l.length * b := by
  induction l with
  | nil => simp
  | cons a r ih =>
    rw [List.map_cons, List.sum_cons, List.length_cons, Nat.succ_mul]
    have := ih fun x hx => h x (by simp [hx])
    have := h a (by simp)
    omega
theorem f6 {x : List Nat} (s : Sg3 x) : Fn T 2 6 [.str x] (.str (sgW x)) := by
  refine fn_of (f := d6) rfl rfl fun j hj => ?_
  have g7 := gl_at (j := j) gP
  have pS : ∀ x, pd 64 (.str x) = true := fun _ => rfl
  have e4 := fun (k : Int) {μ : Mem} {P : D × Mem → Prop} {E : Exn → Mem → Prop} => call_puE (k := j) (μ := μ) (P := P) (E := E) (f4 k) (by omega) rfl rfl
  unfold sgW
  by_cases h0 : x = []
  · subst h0
    have q : eqD (.str []) (.str []) = true := rfl
    simp only [d6, b6, ev0, List.map_cons, List.map_nil, List.length_cons, List.length_nil, Nat.reduceAdd, Nat.reduceSub, List.replicate, List.cons_append, List.nil_append, if_true, w_cons, w_nil, w_ret, v_sm, v_cons, v_nil, v_lc, tgI, wipeE, t_lst, v_seq, v_var, v_lit, t_str, m_joinT, m_join, true_and, w_ite, List.getElem?_cons_zero, List.set_cons_succ, List.set_cons_zero, get_some, q_str, op_some, v_cmp, x_eq, c_eq, op_ite, tB_bl, implies_true, r_str, pS, Bool.and_self, q, Bool.true_eq_false, false_implies, and_true]
  · rw [if_neg h0]
    have sh : ∀ μ, shortB μ (.its (x.map fun c => D.str [c])) = true := fun μ => by
      have := s.few
      simp [shortB]; omega
    have lc : ∀ e0 μ, goLcI (.nm 1) [e0, none] (evc (T.mn j) .none) (ev (T.mn j) (.bi .stri (.cons (.call .pu 4 (.cons (.sm .sidx (.glob 7) (.cons (.var 1) .nil)) .nil)) .nil))) (.its (x.map fun c => D.str [c])) μ = .ok (x.map fun c => .str (numL c), μ) := by
      intro e0 μ
      unfold goLcI
      dsimp only
      rw [goLc_ok (p := fun _ => true) (f := fun d => match d with | .str [c] => .str (numL c) | _ => .non)]
      · rw [List.filter_eq_self.mpr (by simp), List.map_map]; rfl
      · intro d hd
        obtain ⟨c, hc, rfl⟩ := List.mem_map.mp hd
        refine ⟨_, rfl, rfl, fun _ => ?_⟩
        rw [← ok_eq]
        have hp := s.sub c hc
        have hs := pr_small c hp
        have ei := pr_idx c hp
        have e4' := fun {μ : Mem} {P : D × Mem → Prop} {E : Exn → Mem → Prop} => e4 ((PRL.idxOf c : Nat) : Int) (μ := μ) (P := P) (E := E)
        rw [ei] at e4'
        have r0 : (0 : Int) ≤ (c : Nat) ∧ ((c : Nat) : Int) < 1000000 := by omega
        have tn : (((c : Nat) : Int)).toNat = c := by omega
        simp only [List.set_cons_succ, List.set_cons_zero, v_bi, v_cons, List.map_cons, v_nil, List.map_nil, v_call, v_sm, v_var, List.getElem?_cons_succ, List.getElem?_cons_zero, get_some, t_str, v_glob, g7, m_sidxT, m_sidx, hp, if_true, op_some, e4', t_int, n_stri, r0, and_self, tn]
    have st := strsM x numL
    have sq : ∀ μ, seqE μ (.str x) = some (.its (x.map fun c => D.str [c])) := fun _ => rfl
    have lj : ((x.map numL).map (·.length)).sum + (x.map numL).length * ([43] : List Nat).length ≤ 16777216 := by
      have h1 := sum_le (l := x.map numL) (b := 3) fun y hy => by
        obtain ⟨c, hc, rfl⟩ := List.mem_map.mp hy
        exact num_len (s.sub c hc)
      rw [List.length_map] at h1 ⊢
      have := s.few
      simp only [List.length_cons, List.length_nil]
      omega
    generalize (x.map fun c => D.str [c]) = XS at *
    generalize (x.map fun c => D.str (numL c)) = NS at *
    generalize x.map numL = ns at *
    have q : eqD (.str x) (.str []) = false := by rw [eqD_str]; exact decide_eq_false h0
    simp only [List.length_cons, List.length_nil, Nat.zero_add] at lj
    simp only [d6, b6, ev0, List.map_cons, List.map_nil, List.length_cons, List.length_nil, Nat.reduceAdd, Nat.reduceSub, List.replicate, List.cons_append, List.nil_append, w_cons, w_nil, w_ret, v_sm, v_cons, v_nil, v_lc, tgI, wipeE, t_lst, v_seq, v_var, v_lit, t_str, m_joinT, m_join, true_and, w_ite, List.getElem?_cons_zero, List.set_cons_succ, List.set_cons_zero, get_some, sq, op_some, sh, lc, ok_ok, st, Option.bind_some, lj, if_true, and_true, v_cmp, x_eq, c_eq, op_ite, tB_bl, implies_true, r_str, pS, Bool.and_self, q, Bool.false_eq_true, false_implies]
theorem num_no (c : Nat) : (43 : Nat) ∉ numL c := TL.numL_free (.inl (by decide))
theorem join_split {x : List Nat} (h : x ≠ []) : spl [43] 0 [] (joinL [43] (x.map numL)) = x.map numL :=
  TL.spl_join (by simpa using h) fun p hp => by
    obtain ⟨c, _, rfl⟩ := List.mem_map.mp hp
    exact num_no c
theorem join_head {x : List Nat} (h : x ≠ []) : joinL [43] (x.map numL) ≠ [45] := by
  intro z
  have e := congrArg (spl [43] 0 []) z
  rw [join_split h] at e
  have e2 : spl [43] 0 [] [45] = [[45]] := rfl
  rw [e2] at e
  cases x with
  | nil => exact h rfl
  | cons c r =>
    rw [List.map_cons] at e
    have := (List.cons.inj e).1
    exact absurd (by rw [this]; simp : (45 : Nat) ∈ numL c) (TL.numL_free (.inl (by decide)))
theorem joinL_ones (x : List Nat) : joinL [] (x.map fun c => [c]) = x := by
  induction x with
  | nil => rfl
  | cons a r ih =>
    cases r with
    | nil => rfl
    | cons b r =>
      show [a] ++ ([] ++ joinL [] ((b :: r).map fun c => [c])) = _
      rw [ih]; rfl
theorem join_few {x : List Nat} (s : Sg3 x) : (joinL [43] (x.map numL)).length ≤ 100 := by
  obtain ⟨hs, hl⟩ := s
  match x, hl with
  | [], _ => decide
  | [a], _ => have := num_len (hs a (by simp)); simp only [List.map_cons, List.map_nil, TL.joinL]; omega
  | [a, b], _ =>
    have := num_len (hs a (by simp)); have := num_len (hs b (by simp))
    simp only [List.map_cons, List.map_nil, TL.joinL, List.length_append, List.length_cons, List.length_nil]; omega
  | [a, b, c], _ =>
    have := num_len (hs a (by simp)); have := num_len (hs b (by simp)); have := num_len (hs c (by simp))
    simp only [List.map_cons, List.map_nil, TL.joinL, List.length_append, List.length_cons, List.length_nil]; omega
theorem f7 {x : List Nat} (s : Sg3 x) : Fn T 3 7 [.str (sgW x)] (.str x) := by
  refine fn_of (f := d7) rfl rfl fun j hj => ?_
  have pS : ∀ x, pd 64 (.str x) = true := fun _ => rfl
  unfold sgW
  by_cases h0 : x = []
  · subst h0
    have q : eqD (.str [45]) (.str [45]) = true := rfl
    rw [if_pos rfl]
    simp only [d7, b7, ev0, List.map_cons, List.map_nil, List.length_cons, List.length_nil, Nat.reduceAdd, Nat.reduceSub, List.replicate, List.cons_append, List.nil_append, w_cons, w_nil, w_ret, v_sm, v_cons, v_nil, v_lc, tgI, wipeE, t_lst, v_seq, v_lit, t_str, v_var, m_joinT, m_join, true_and, w_ite, List.getElem?_cons_zero, List.set_cons_succ, List.set_cons_zero, get_some, m_splitT, m_split, op_ite, op_some, q_lst, v_cmp, x_eq, c_eq, tB_bl, implies_true, r_str, pS, Bool.and_self, q, Bool.true_eq_false, false_implies, and_true]
  · rw [if_neg h0]
    have jh := join_head h0
    have js := join_split h0
    have jf := join_few s
    have fl : x.length ≤ 3 := s.few
    have sh : ∀ μ, shortB μ (.its (x.map fun c => D.str (numL c))) = true := fun μ => by simp [shortB]; omega
    have lc : ∀ e0 μ, goLcI (.nm 1) [e0, none] (evc (T.mn j) .none) (ev (T.mn j) (.call .pu 5 (.cons (.var 1) .nil))) (.its (x.map fun c => D.str (numL c))) μ = .ok (x.map fun c => .str [c], μ) := by
      intro e0 μ
      have key : ∀ z : List Nat, (∀ c ∈ z, c ∈ PRL) → goLc (.nm 1) [e0, none] (evc (T.mn j) .none) (ev (T.mn j) (.call .pu 5 (.cons (.var 1) .nil))) (z.map fun c => D.str (numL c)) μ = .ok (z.map fun c => .str [c], μ) := by
        intro z hz
        induction z with
        | nil => rfl
        | cons c r ih =>
          have hc := hz c (by simp)
          obtain ⟨v, hv, e5⟩ : ∃ v, True ∧ ev (T.mn j) (.call .pu 5 (.cons (.var 1) .nil)) [e0, some (.str (numL c))] μ = .ok (.str [c], μ) := by
            refine ⟨0, trivial, ?_⟩
            rw [← ok_eq]
            have c5 := fun {μ : Mem} {P : D × Mem → Prop} {E : Exn → Mem → Prop} => call_puE (k := j) (μ := μ) (P := P) (E := E) (f5 hc) (by omega) rfl rfl
            simp only [v_call, v_cons, v_nil, v_var, List.getElem?_cons_succ, List.getElem?_cons_zero, get_some, c5]
          rw [List.map_cons, goLc]
          have b1 : binds (.nm 1) μ (.str (numL c)) [e0, none] = some [e0, some (.str (numL c))] := rfl
          rw [b1]
          have cc : evc (T.mn j) .none [e0, some (.str (numL c))] μ = .ok (.bl true, μ) := rfl
          simp only [cc, R.bind, e5, ih fun c hc => hz c (by simp [hc])]
          rfl
      unfold goLcI
      exact key x s.sub
    have st := strsM x fun c => [c]
    have jj := joinL_ones x
    have lj : ((x.map fun c => [c]).map (·.length)).sum + (x.map fun c => [c]).length * ([] : List Nat).length ≤ 16777216 := by
      have h1 := sum_le (l := x.map fun c => [c]) (b := 1) fun y hy => by
        obtain ⟨c, hc, rfl⟩ := List.mem_map.mp hy
        exact Nat.le_refl _
      rw [List.length_map] at h1
      simp only [List.length_nil, Nat.mul_zero]
      omega
    have sp : smE .split (.str (joinL [43] (x.map numL))) [.str [43]] = some (.lst (x.map fun c => D.str (numL c))) := by
      show (if _ then _ else _) = _
      rw [if_pos (by simp; omega), js, List.map_map]; rfl
    have q : eqD (.str (joinL [43] (x.map numL))) (.str [45]) = false := by rw [eqD_str]; exact decide_eq_false jh
    generalize joinL [43] (x.map numL) = J at *
    generalize (x.map fun c => D.str (numL c)) = NS at *
    generalize (x.map fun c => D.str [c]) = XS at *
    generalize (x.map fun c => [c]) = xs at *
    simp only [List.length_nil] at lj
    simp only [d7, b7, ev0, List.map_cons, List.map_nil, List.length_cons, List.length_nil, Nat.reduceAdd, Nat.reduceSub, List.replicate, List.cons_append, List.nil_append, w_cons, w_nil, w_ret, v_sm, v_cons, v_nil, v_lc, tgI, wipeE, t_lst, v_seq, v_lit, t_str, v_var, m_joinT, m_join, true_and, w_ite, List.getElem?_cons_zero, List.set_cons_succ, List.set_cons_zero, get_some, m_splitT, sp, op_some, q_lst, sh, lc, ok_ok, st, Option.bind_some, lj, jj, if_true, and_true, v_cmp, x_eq, c_eq, op_ite, tB_bl, implies_true, r_str, pS, Bool.and_self, q, Bool.false_eq_true, false_implies]
def dg (b : Bool) : Nat := if b then 49 else 48
theorem num01 (b : Bool) : numL (if b then (1 : Int) else 0).toNat = [dg b] := by
  cases b
  · exact TL.numL_lt (by decide)
  · exact TL.numL_lt (by decide)
theorem f8 {bs : List Bool} (hl : bs.length = 4) : Fn T 1 8 [.str (bs.map dg)] (.lst (bs.map .bl)) := by
  refine fn_of (f := d8) rfl rfl fun j hj => ?_
  have p7 : ∀ i : Int, pd 64 (.int i) = true := fun _ => rfl
  have pS : ∀ x, pd 64 (.str x) = true := fun _ => rfl
  have l4 : (bs.map dg).length = 4 := by rw [List.length_map]; exact hl
  have xl : (bs.map dg).length ≤ 16777216 := by omega
  have z4 : ((4 : Nat) : Int) = 4 := rfl
  have sh : ∀ μ, shortB μ (.its ((bs.map dg).map fun c => D.str [c])) = true := fun μ => by simp [shortB]; omega
  have dm : ∀ b : Bool, dg b ∈ [48, 49] := fun b => by cases b <;> decide
  have d1 : ∀ b : Bool, decide ([dg b] = [49]) = b := fun b => by cases b <;> rfl
  have lc1 : ∀ e0 μ, goLcI (.nm 1) [e0, none] (evc (T.mn j) .none) (ev (T.mn j) (.cmp .isin (.var 1) (.lit (.str [48,49])))) (.its ((bs.map dg).map fun c => D.str [c])) μ = .ok (bs.map fun _ => .bl true, μ) := by
    intro e0 μ
    unfold goLcI
    dsimp only
    rw [goLc_ok (p := fun _ => true) (f := fun d => .bl true)]
    · rw [List.filter_eq_self.mpr (by simp), List.map_map, List.map_map]; rfl
    · intro d hd
      obtain ⟨c, hc, rfl⟩ := List.mem_map.mp hd
      obtain ⟨b, hb, rfl⟩ := List.mem_map.mp hc
      refine ⟨_, rfl, rfl, fun _ => ?_⟩
      rw [← ok_eq]
      have := dm b
      simp only [List.set_cons_succ, List.set_cons_zero, v_cmp, x_in, v_lit, r_str, v_var, List.getElem?_cons_succ, List.getElem?_cons_zero, get_some, c_ins, this, decide_true, op_some]
  have lc2 : ∀ e0 μ, goLcI (.nm 1) [e0, none] (evc (T.mn j) .none) (ev (T.mn j) (.cmp .eq (.var 1) (.lit (.str [49])))) (.its ((bs.map dg).map fun c => D.str [c])) μ = .ok (bs.map .bl, μ) := by
    intro e0 μ
    have key : ∀ z : List Bool, goLc (.nm 1) [e0, none] (evc (T.mn j) .none) (ev (T.mn j) (.cmp .eq (.var 1) (.lit (.str [49])))) ((z.map dg).map fun c => D.str [c]) μ = .ok (z.map .bl, μ) := by
      intro z
      rw [goLc_ok (p := fun _ => true) (f := fun d => match d with | .str x => .bl (decide (x = [49])) | _ => .non)]
      · rw [List.filter_eq_self.mpr (by simp), List.map_map, List.map_map]
        refine congrArg (fun l => R.ok (l, μ)) (List.map_congr_left fun b _ => ?_)
        exact congrArg D.bl (d1 b)
      · intro d hd
        obtain ⟨c, hc, rfl⟩ := List.mem_map.mp hd
        refine ⟨_, rfl, rfl, fun _ => ?_⟩
        rw [← ok_eq]
        simp only [List.set_cons_succ, List.set_cons_zero, v_cmp, x_eq, c_eq, op_ite, op_some, v_lit, r_str, pS, v_var, List.getElem?_cons_succ, List.getElem?_cons_zero, get_some, Bool.and_self, eqD_str, and_true]
    unfold goLcI
    exact key bs
  have bm := bls_mp (fun _ : Bool => true) bs
  have ba : (bs.map fun _ : Bool => true).all id = true := by simp
  have sq : ∀ μ, seqE μ (.str (bs.map dg)) = some (.its ((bs.map dg).map fun c => D.str [c])) := fun _ => rfl
  generalize ((bs.map dg).map fun c => D.str [c]) = XS at *
  generalize (bs.map fun _ => D.bl true) = BS at *
  generalize (bs.map fun _ : Bool => true) = tr at *
  generalize bs.map dg = W at *
  have q4 : eqD (.int 4) (.int 4) = true := rfl
  simp only [d8, b8, ev0, List.map_cons, List.map_nil, List.length_cons, List.length_nil, Nat.reduceAdd, Nat.reduceSub, List.replicate, List.cons_append, List.nil_append, w_cons, w_nil, w_ret, v_lc, tgI, wipeE, v_seq, v_var, w_ite, w_rs0, List.getElem?_cons_zero, List.set_cons_succ, List.set_cons_zero, get_some, sq, op_some, sh, lc2, ok_ok, and_true, v_or, tB_bl, true_implies, Bool.true_eq_false, implies_true, v_not, Bool.false_eq_true, false_implies, v_bi, v_cons, v_nil, t_lst, n_all, op_map, true_and, lc1, bm, ba, v_cmp, x_ne, c_ne, op_ite, v_lit, r_int, p7, t_str, n_lens, l4, z4, Bool.and_self, q4, Bool.not_true]
  try decide
def trs (t : Tl) : List Nat := [t.t1, t.t2, t.t3, t.t4].map dg
def dlW : List Nat := [100,105,97,108,101,99,116]
def rowL (nm : List Nat) (t : Tl) : List (List Nat) := [dlW, nm, sgW t.p, sgW t.q, sgW t.f, trs t]
def rowV (nm : List Nat) (t : Tl) : List Nat := joinL [32] (rowL nm t)
structure Gt (t : Tl) : Prop where
  g : Good t
  p : Sg3 t.p
  q : Sg3 t.q
  f : Sg3 t.f
theorem gt_of {t : Tl} (g : Good t) : Gt t := ⟨g, role_sg g.p (by decide), role_sg g.q (by decide), role_sg g.f (by decide)⟩
theorem sgW_few {x : List Nat} (s : Sg3 x) : (sgW x).length ≤ 100 := by
  unfold sgW
  split
  · decide
  · exact join_few s
theorem trLc (j : Nat) (bs : List Bool) (e0 e1 e2 e3 e5 : Option D) (μ : Mem) : goLcI (.nm 4) [e0, e1, e2, e3, none, e5] (evc (T.mn j) .none) (ev (T.mn j) (.bi .stri (.cons (.bi .int (.cons (.var 4) .nil)) .nil))) (.its (bs.map .bl)) μ = .ok (bs.map fun b => .str [dg b], μ) := by
  unfold goLcI
  dsimp only
  rw [goLc_ok (p := fun _ => true) (f := fun d => match d with | .bl b => .str [dg b] | _ => .non)]
  · rw [List.filter_eq_self.mpr (by simp), List.map_map]; rfl
  · intro d hd
    obtain ⟨b, hb, rfl⟩ := List.mem_map.mp hd
    refine ⟨_, rfl, rfl, fun _ => ?_⟩
    rw [← ok_eq]
    have n := num01 b
    have r0 : (0 : Int) ≤ (if b = true then 1 else 0) ∧ (if b = true then (1 : Int) else 0) < 1000000 := by cases b <;> decide
    simp only [List.set_cons_succ, List.set_cons_zero, v_bi, v_cons, List.map_cons, v_nil, List.map_nil, v_var, List.getElem?_cons_succ, List.getElem?_cons_zero, get_some, t_bl, n_intb, op_some, t_int, n_stri, r0, and_self, n, if_true]
theorem f9 {nm : List Nat} (hn : isNm nm = true) {t : Tl} (g : Gt t) : Fn T 4 9 [.str nm, dialA t] (.str (rowV nm t)) := by
  have hl : nm.length ≤ 8 := by
    unfold isNm at hn
    simp only [Bool.and_eq_true, decide_eq_true_eq] at hn
    exact hn.1.2
  have F3 := f3 nm (by omega)
  rw [hn] at F3
  have F2 := f2 t
  refine fn_of (f := d9) rfl rfl fun j hj => ?_
  have e3 := fun {μ : Mem} {P : D × Mem → Prop} {E : Exn → Mem → Prop} => call_puE (k := j) (μ := μ) (P := P) (E := E) F3 (by omega) rfl rfl
  have e2 := fun {μ : Mem} {P : D × Mem → Prop} {E : Exn → Mem → Prop} => call_puE (k := j) (μ := μ) (P := P) (E := E) F2 (by omega) rfl rfl
  have m2 := fun {fs : List D} {P : Nat → Prop} => mth_at (T := T) (c := 0) (m := 0) (n := 2) (j := j) (fs := fs) (P := P) rfl (by decide)
  have c1 : cutE t.ds (some 3) none = [t.t1, t.t2, t.t3, t.t4].map .bl := rfl
  have c2 : cutE t.ds none (some 3) = [.str t.p, .str t.q, .str t.f] := rfl
  have l1 := fun e0 e1 e2 e3 e5 μ => trLc j [t.t1, t.t2, t.t3, t.t4] e0 e1 e2 e3 e5 μ
  have sh1 : ∀ μ, shortB μ (.its ([t.t1, t.t2, t.t3, t.t4].map .bl)) = true := fun _ => rfl
  have sh2 : ∀ μ, shortB μ (.its [.str t.p, .str t.q, .str t.f]) = true := fun _ => rfl
  have l2 : ∀ e0 e1 e2 e3 e4 μ, goLcI (.nm 5) [e0, e1, e2, e3, e4, none] (evc (T.mn j) .none) (ev (T.mn j) (.call .pu 6 (.cons (.var 5) .nil))) (.its [.str t.p, .str t.q, .str t.f]) μ = .ok ([.str (sgW t.p), .str (sgW t.q), .str (sgW t.f)], μ) := by
    intro e0 e1 e2 e3 e4 μ
    unfold goLcI
    dsimp only
    rw [goLc_ok (p := fun _ => true) (f := fun d => match d with | .str x => .str (sgW x) | _ => .non)]
    · rw [List.filter_eq_self.mpr (by simp)]; rfl
    · intro d hd
      have : ∃ x, Sg3 x ∧ d = .str x := by
        simp only [List.mem_cons, List.not_mem_nil, or_false] at hd
        rcases hd with rfl | rfl | rfl
        · exact ⟨_, g.p, rfl⟩
        · exact ⟨_, g.q, rfl⟩
        · exact ⟨_, g.f, rfl⟩
      obtain ⟨x, sx, rfl⟩ := this
      refine ⟨_, rfl, rfl, fun _ => ?_⟩
      rw [← ok_eq]
      have c6 := fun {μ : Mem} {P : D × Mem → Prop} {E : Exn → Mem → Prop} => call_puE (k := j) (μ := μ) (P := P) (E := E) (f6 sx) (by omega) rfl rfl
      simp only [List.set_cons_succ, List.set_cons_zero, v_call, v_cons, v_nil, v_var, List.getElem?_cons_succ, List.getElem?_cons_zero, get_some, c6]
  have st1 : strsOf ([t.t1, t.t2, t.t3, t.t4].map fun b => D.str [dg b]) = some ([t.t1, t.t2, t.t3, t.t4].map fun b => [dg b]) := strsM _ _
  have lj1 : (([t.t1, t.t2, t.t3, t.t4].map fun b => [dg b]).map (fun x => x.length)).sum + ([t.t1, t.t2, t.t3, t.t4].map fun b => [dg b]).length * 0 ≤ 16777216 := by show 4 + 4 * 0 ≤ 16777216; decide
  have jj1 : joinL [] ([t.t1, t.t2, t.t3, t.t4].map fun b => [dg b]) = trs t := rfl
  have w1 := sgW_few g.p
  have w2 := sgW_few g.q
  have w3 := sgW_few g.f
  have wt : (trs t).length = 4 := rfl
  have er : [dlW, nm, sgW t.p, sgW t.q, sgW t.f, trs t] = rowL nm t := rfl
  have st2 : strsOf [D.str [100,105,97,108,101,99,116], .str nm, .str (sgW t.p), .str (sgW t.q), .str (sgW t.f), .str (trs t)] = some (rowL nm t) := rfl
  have lj2 : ([dlW, nm, sgW t.p, sgW t.q, sgW t.f, trs t].map (fun x => x.length)).sum + [dlW, nm, sgW t.p, sgW t.q, sgW t.f, trs t].length * 1 ≤ 16777216 := by
    simp only [List.map_cons, List.map_nil, List.sum_cons, List.sum_nil, List.length_cons, List.length_nil]
    have : dlW.length = 7 := rfl
    omega
  have ed : [100,105,97,108,101,99,116] = dlW := rfl
  have eV : joinL [32] (rowL nm t) = rowV nm t := rfl
  rw [er] at lj2
  generalize trs t = TR at *
  generalize sgW t.p = P1 at *
  generalize sgW t.q = P2 at *
  generalize sgW t.f = P3 at *
  generalize ([t.t1, t.t2, t.t3, t.t4].map fun b => D.str [dg b]) = X1 at *
  generalize ([t.t1, t.t2, t.t3, t.t4].map fun b => [dg b]) = X2 at *
  generalize [t.t1, t.t2, t.t3, t.t4].map D.bl = X3 at *
  generalize [D.str t.p, .str t.q, .str t.f] = X4 at *
  unfold dialA at e2 ⊢
  generalize t.ds = TD at *
  generalize rowV nm t = RV at *
  generalize hRL : rowL nm t = RL at *
  simp only [d9, b9, ev0, List.map_cons, List.map_nil, List.length_cons, List.length_nil, Nat.reduceAdd, Nat.reduceSub, List.replicate, List.cons_append, List.nil_append, w_cons, w_nil, w_ret, v_sm, v_cons, v_nil, v_bin, v_lst, t_lst, v_var, v_lc, tgI, wipeE, v_seq, v_slc, v_some, v_lit, iP_int, v_no, b_addl, op_ite, op_some, t_str, m_joinT, m_join, true_and, w_asg, binds, v_mth, w_ite, List.getElem?_cons_succ, List.getElem?_cons_zero, List.set_cons_succ, List.set_cons_zero, get_some, t_ins, m2, e2, t_tup, s_tupE, c1, c2, q_tup, sh2, l2, ok_ok, sh1, l1, st1, Option.bind_some, lj1, jj1, if_true, st2, lj2, eV, and_true, v_not, tB_bl, Bool.false_eq_true, false_implies, true_implies, Bool.true_eq_false, v_call, e3]
  try exact ⟨by decide, by decide⟩
theorem f9x {X : D} (hX : Fn T 1 3 [X] (.bl false)) (cX : cf X = true) (t : Tl) : Fx T 3 9 [X, dialA t] ⟨6, [X]⟩ := by
  refine fx_of (f := d9) rfl rfl fun j hj => ?_
  have e3 := fun {μ : Mem} {P : D × Mem → Prop} {E : Exn → Mem → Prop} => call_puE (k := j) (μ := μ) (P := P) (E := E) hX (by omega) (by simp only [cfs, cX, Bool.and_self]) rfl
  have xa : (T.mn j).xar 6 = some 1 := by rw [xar_at (by omega)]; rfl
  unfold dialA
  generalize t.ds = TD
  have r := fun {as : Ts} {ε : Ev} {μ : Mem} {w : Wp} => w_rse (S0 := T.mn j) (c := 6) (n := 0) (as := as) (ε := ε) (μ := μ) (w := w) xa
  simp only [d9, b9, ev0, List.map_cons, List.map_nil, List.length_cons, List.length_nil, Nat.reduceAdd, Nat.reduceSub, List.replicate, List.cons_append, List.nil_append, w_cons, w_nil, w_ret, v_sm, v_cons, v_nil, v_bin, v_lst, t_lst, v_var, v_lc, tgI, wipeE, v_seq, v_slc, v_some, v_lit, iP_int, v_no, b_addl, op_ite, op_some, t_str, m_joinT, m_join, true_and, w_asg, binds, v_mth, w_ite, r, List.getElem?_cons_zero, get_some, List.getElem?_cons_succ, List.set_cons_succ, List.set_cons_zero, t_ins, v_not, tB_bl, Bool.false_eq_true, false_implies, true_implies, Bool.true_eq_false, and_true, v_call, e3]
  try simp
theorem nm_no {nm : List Nat} (h : isNm nm = true) : (32 : Nat) ∉ nm := fun z => by
  unfold isNm at h
  simp only [Bool.and_eq_true] at h
  have := of_decide_eq_true (List.all_eq_true.mp h.2 32 z)
  revert this
  decide
theorem joinL_mem2 {s c : Nat} : ∀ {l : List (List Nat)}, c ∈ joinL [s] l → c = s ∨ ∃ x ∈ l, c ∈ x
  | [], h => by cases h
  | [p], h => .inr ⟨p, by simp, h⟩
  | p :: q :: r, h => by
    have h : c ∈ p ++ ([s] ++ joinL [s] (q :: r)) := h
    rcases List.mem_append.mp h with h | h
    · exact .inr ⟨p, by simp, h⟩
    · rcases List.mem_append.mp h with h | h
      · exact .inl (List.mem_singleton.mp h)
      · rcases joinL_mem2 h with h | ⟨x, hx, h⟩
        · exact .inl h
        · exact .inr ⟨x, List.mem_cons_of_mem _ hx, h⟩
theorem sgW_no (x : List Nat) : (32 : Nat) ∉ sgW x := by
  unfold sgW
  split
  · decide
  · intro z
    rcases joinL_mem2 z with z | ⟨y, hy, z⟩
    · cases z
    · obtain ⟨c, _, rfl⟩ := List.mem_map.mp hy
      exact TL.numL_free (.inl (by decide)) z
theorem trs_no (t : Tl) : (32 : Nat) ∉ trs t := by
  intro z
  obtain ⟨b, _, e⟩ := List.mem_map.mp z
  cases b <;> cases e
theorem row_split {nm : List Nat} (h : isNm nm = true) (t : Tl) : spl [32] 0 [] (rowV nm t) = rowL nm t :=
  TL.spl_join (by simp [rowL]) fun p hp => by
    simp only [rowL, List.mem_cons, List.not_mem_nil, or_false] at hp
    rcases hp with rfl | rfl | rfl | rfl | rfl | rfl
    · decide
    · exact nm_no h
    · exact sgW_no _
    · exact sgW_no _
    · exact sgW_no _
    · exact trs_no t
theorem row_few {nm : List Nat} (h : nm.length ≤ 8) {t : Tl} (g : Gt t) : (rowV nm t).length ≤ 1000 := by
  have w1 := sgW_few g.p
  have w2 := sgW_few g.q
  have w3 := sgW_few g.f
  have wt : (trs t).length = 4 := rfl
  have wd : dlW.length = 7 := rfl
  unfold rowV rowL
  simp only [TL.joinL, List.length_append, List.length_cons, List.length_nil]
  omega
theorem f10 {nm : List Nat} (hn : isNm nm = true) {t : Tl} (g : Gt t) : Fn T 5 10 [.str (rowV nm t)] (.tup [.str nm, dialA t]) := by
  have hl : nm.length ≤ 8 := by
    unfold isNm at hn
    simp only [Bool.and_eq_true, decide_eq_true_eq] at hn
    exact hn.1.2
  have F3 := f3 nm (by omega)
  rw [hn] at F3
  have F8 := f8 (bs := [t.t1, t.t2, t.t3, t.t4]) rfl
  have rf := row_few hl g
  have rs := row_split hn t
  refine fn_of (f := d10) rfl rfl fun j hj => ?_
  have pS : ∀ x, pd 64 (.str x) = true := fun _ => rfl
  have p7 : ∀ i : Int, pd 64 (.int i) = true := fun _ => rfl
  have e3 := fun {μ : Mem} {P : D × Mem → Prop} {E : Exn → Mem → Prop} => call_puE (k := j) (μ := μ) (P := P) (E := E) F3 (by omega) rfl rfl
  have e8 : ∀ {μ : Mem} {P : D × Mem → Prop} {E : Exn → Mem → Prop}, @Ok _ (callE (T.mn j) .pu 8 [.str (trs t)] μ) P E = P (.lst [.bl t.t1, .bl t.t2, .bl t.t3, .bl t.t4], μ) := fun {μ P E} => call_puE (k := j) (μ := μ) (P := P) (E := E) F8 (by omega) rfl rfl
  have m := fun {μ : Mem} {P : D × Mem → Prop} {E : Exn → Mem → Prop} => mk7 g.g (j := j) (by omega) (μ := μ) (P := P) (E := E)
  have l2 : ∀ e0 e1 e2 e3 e4 e5 e6 μ, goLcI (.nm 7) [e0, e1, e2, e3, e4, e5, e6, none] (evc (T.mn j) .none) (ev (T.mn j) (.call .pu 7 (.cons (.var 7) .nil))) (.its [.str (sgW t.p), .str (sgW t.q), .str (sgW t.f)]) μ = .ok ([.str t.p, .str t.q, .str t.f], μ) := by
    intro e0 e1 e2 e3 e4 e5 e6 μ
    have one : ∀ {x : List Nat}, Sg3 x → ev (T.mn j) (.call .pu 7 (.cons (.var 7) .nil)) [e0, e1, e2, e3, e4, e5, e6, some (.str (sgW x))] μ = .ok (.str x, μ) := by
      intro x sx
      rw [← ok_eq]
      have c7 := fun {μ : Mem} {P : D × Mem → Prop} {E : Exn → Mem → Prop} => call_puE (k := j) (μ := μ) (P := P) (E := E) (f7 sx) (by omega) rfl rfl
      simp only [v_call, v_cons, v_nil, v_var, List.getElem?_cons_succ, List.getElem?_cons_zero, get_some, c7]
    have b1 : ∀ x, binds (.nm 7) μ (.str x) [e0, e1, e2, e3, e4, e5, e6, none] = some [e0, e1, e2, e3, e4, e5, e6, some (.str x)] := fun _ => rfl
    have cc : ∀ ε, evc (T.mn j) .none ε μ = .ok (.bl true, μ) := fun _ => rfl
    unfold goLcI
    dsimp only
    simp only [goLc, b1, cc, R.bind, one g.p, one g.q, one g.f]
  have sp : smE .split (.str (rowV nm t)) [.str [32]] = some (.lst [.str dlW, .str nm, .str (sgW t.p), .str (sgW t.q), .str (sgW t.f), .str (trs t)]) := by
    show (if _ then _ else _) = _
    rw [if_pos (by simp; omega), rs]; rfl
  have c2 : ∀ a b c d e f : D, cutE [a, b, c, d, e, f] (some 2) (some 5) = [c, d, e] := fun _ _ _ _ _ _ => rfl
  have sh2 : ∀ a b c μ, shortB μ (.its [a, b, c]) = true := fun _ _ _ _ => rfl
  have q1 : eqD (.str dlW) (.str [100,105,97,108,101,99,116]) = true := rfl
  have q6 : eqD (.int 6) (.int 6) = true := rfl
  have z6 : ((6 : Nat) : Int) = 6 := rfl
  have i1 : ∀ x, isiE .str (.str x) = some (.bl true) := fun _ => rfl
  have a5 : ∀ a b c d e f : D, atE [a, b, c, d, e, f] 5 = some f := fun _ _ _ _ _ _ => rfl
  unfold dialA
  generalize sgW t.p = P1 at *
  generalize sgW t.q = P2 at *
  generalize sgW t.f = P3 at *
  generalize trs t = TR at *
  generalize hRV : rowV nm t = RV at *
  generalize hD : D.ins 0 t.ds = DD at *
  generalize t.p = p at *
  generalize t.q = q at *
  generalize t.f = f at *
  simp only [d10, b10, ev0, List.map_cons, List.map_nil, List.length_cons, List.length_nil, Nat.reduceAdd, Nat.reduceSub, List.replicate, List.cons_append, List.nil_append, w_cons, w_nil, w_ret, v_tup, v_cons, v_nil, v_var, v_idx, v_lit, t_int, w_tr, w_hcons, bx_none, shutW, ub_none, w_bad, w_hnil, w_asg, binds, op_some, v_mak, v_call, v_lc, tgI, wipeE, t_lst, op_ite, v_seq, v_slc, v_some, iP_int, w_ite, w_rs0, v_or, tB_bl, true_implies, Bool.true_eq_false, false_implies, and_true, v_not, Bool.false_eq_true, true_and, v_cmp, x_ne, c_ne, r_str, pS, r_int, p7, v_bi, v_sm, t_str, List.getElem?_cons_zero, List.set_cons_succ, List.set_cons_zero, List.getElem?_cons_succ, get_some, m_splitT, sp, n_lenl, z6, i_lst, at0, at1, s_lstE, c2, q_lst, sh2, l2, ok_ok, List.zip_cons_cons, List.zip_nil_left, List.foldl_cons, List.foldl_nil, a5, e8, at2, at3, m, e3, implies_true, Bool.and_self, q1, Bool.not_true, q6, v_isi, i1]
def ttL : Nat → Int → List Nat
  | 0, _ => []
  | k + 1, n => SML.getD (n % 26).toNat 0 :: ttL k (n / 26)
theorem ttL_len (k : Nat) : ∀ n, (ttL k n).length = k := by
  induction k with
  | zero => intro n; rfl
  | succ k ih => intro n; rw [ttL, List.length_cons, ih]
theorem sml_at (n : Int) : atE SML (n % 26) = some (SML.getD (n % 26).toNat 0) ∧ SML.getD (n % 26).toNat 0 ∈ SML := by
  have m1 := Int.emod_lt_of_pos n (show (0 : Int) < 26 by decide)
  have m0 := Int.emod_nonneg n (show (26 : Int) ≠ 0 by decide)
  have hl : (n % 26).toNat < SML.length := by show _ < 26; omega
  refine ⟨?_, ?_⟩
  · unfold atE
    rw [if_pos m0, List.getD_eq_getElem?_getD, List.getElem?_eq_getElem hl]; rfl
  · rw [List.getD_eq_getElem?_getD, List.getElem?_eq_getElem hl]
    exact List.getElem_mem _
theorem ttL_in (k : Nat) : ∀ n, ∀ c ∈ ttL k n, c ∈ SML := by
  induction k with
  | zero => intro n c hc; cases hc
  | succ k ih =>
    intro n c hc
    rw [ttL] at hc
    rcases List.mem_cons.mp hc with rfl | hc
    · exact (sml_at n).2
    · exact ih _ c hc
def ttV (c : Int) : List Nat := ttL (1 + number c 71 % 8).toNat (number c 71 / 8)
theorem ttV_nm (c : Int) : isNm (ttV c) = true := by
  have m1 := Int.emod_lt_of_pos (number c 71) (show (0 : Int) < 8 by decide)
  have m0 := Int.emod_nonneg (number c 71) (show (8 : Int) ≠ 0 by decide)
  unfold isNm ttV
  rw [ttL_len]
  simp only [Bool.and_eq_true, decide_eq_true_eq]
  exact ⟨⟨by omega, by omega⟩, List.all_eq_true.mpr fun c hc => decide_eq_true (ttL_in _ _ c hc)⟩
def bTt : B :=
 (.cons (.asg (.nm 3) (.bin .add (.var 3) (.idx (.lit (.str [97,98,99,100,101,102,103,104,105,106,107,108,109,110,111,112,113,114,115,116,117,118,119,120,121,122])) (.bin .mod (.var 1) (.lit (.int 26))))))
 (.cons (.asg (.nm 1) (.bin .fdiv (.var 1) (.lit (.int 26))))
 .nil))
theorem tt_go (j : Nat) (e0 e2 : Option D) (μ : Mem) : ∀ (L : List D) (n : Int) (x : List Nat) (o4 : Option D) (W : Wp), x.length + L.length ≤ 100 → (∀ n' o4, W.n [e0, some (.int n'), e2, some (.str (x ++ ttL L.length n)), o4] μ) →
    @wp (goF (.nm 4) (runB (T.mn j) bTt) L [e0, some (.int n), e2, some (.str x), o4] μ) W := by
  intro L
  induction L with
  | nil =>
    intro n x o4 W _ h
    have := h n o4
    rw [List.length_nil, ttL, List.append_nil] at this
    exact this
  | cons d L ih =>
    intro n x o4 W hl h
    rw [List.length_cons] at hl
    rw [w_gcons]
    have I := ih (n / 26) (x ++ [SML.getD (n % 26).toNat 0]) (some d) W (by rw [List.length_append, List.length_singleton]; omega) (fun n' o4' => by
      have := h n' o4'
      rw [List.length_cons, ttL] at this
      rw [List.append_assoc]
      exact this)
    obtain ⟨a1, _⟩ := sml_at n
    have es : [97,98,99,100,101,102,103,104,105,106,107,108,109,110,111,112,113,114,115,116,117,118,119,120,121,122] = SML := rfl
    generalize SML.getD (n % 26).toNat 0 = v at *
    have xl : x.length + 1 ≤ 16777216 := by omega
    unfold bTt at I ⊢
    simp only [binds, List.set_cons_succ, List.set_cons_zero, es, w_cons, w_nil, w_asg, op_some, v_bin, v_lit, t_int, v_var, v_idx, t_str, List.getElem?_cons_succ, List.getElem?_cons_zero, get_some, b_fdiv, op_ite, b_mod, i_str, a1, op_map, b_adds, List.length_cons, List.length_nil, Nat.reduceAdd]
    first | exact ⟨by decide, by decide, xl, by decide, I⟩ | exact ⟨by decide, xl, by decide, I⟩ | exact ⟨by decide, xl, I⟩ | exact ⟨xl, by decide, I⟩ | exact ⟨by decide, by decide, xl, I⟩ | exact ⟨by decide, xl, by decide, by decide, I⟩
theorem f18 (c : Int) : Fn T 3 18 [.int c] (.str (ttV c)) := by
  have F13 := f13 c 71 (by decide) (by decide)
  have m1 := Int.emod_lt_of_pos (number c 71) (show (0 : Int) < 8 by decide)
  have m0 := Int.emod_nonneg (number c 71) (show (8 : Int) ≠ 0 by decide)
  refine fn_of (f := d18) rfl rfl fun j hj => ?_
  have e13 := fun {μ : Mem} {P : D × Mem → Prop} {E : Exn → Mem → Prop} => call_puE (k := j) (μ := μ) (P := P) (E := E) F13 (by omega) rfl rfl
  unfold ttV
  generalize number c 71 = N at *
  have rt : rngOk (1 + N % 8) = true := by simp [rngOk]; omega
  have K := fun (e0 e2 : Option D) W h => tt_go j e0 e2 [] (rngD 0 (1 + N % 8).toNat) (N / 8) [] none W (by rw [len_rng, List.length_nil]; omega) h
  rw [len_rng] at K
  have hb : b18 = (.cons (.asg (.nm 1) (.call .pu 13 (.cons (.var 0) (.cons (.lit (.int 71)) .nil))))
 (.cons (.asg (.nm 2) (.bin .add (.lit (.int 1)) (.bin .mod (.var 1) (.lit (.int 8)))))
 (.cons (.asg (.nm 1) (.bin .fdiv (.var 1) (.lit (.int 8))))
 (.cons (.asg (.nm 3) (.lit (.str [])))
 (.cons (.for_ (.nm 4) (.r1 (.var 2)) bTt)
 (.cons (.ret (.var 3))
 .nil)))))) := rfl
  generalize bTt = BT at *
  simp only [d18, hb, ev0, List.map_cons, List.map_nil, List.length_cons, List.length_nil, Nat.reduceAdd, Nat.reduceSub, List.replicate, List.cons_append, List.nil_append, w_cons, w_nil, w_ret, v_var, w_for, v_r1, w_its, w_asg, binds, op_some, v_lit, v_bin, t_int, List.set_cons_succ, List.set_cons_zero, List.getElem?_cons_succ, List.getElem?_cons_zero, get_some, v_call, v_cons, v_nil, e13, b_mod, b_fdiv, op_ite, b_add, iP_int, rt, true_and]
  first
    | (refine ⟨by decide, by decide, K _ _ _ fun n' o4 => ?_⟩
       simp only [List.nil_append, List.getElem?_cons_succ, List.getElem?_cons_zero, get_some])
theorem f15 : Fn T 1 15 [.int 2] (.lst [.str PRL, .str PRL, .str PRL]) := menus_fn rfl 2
def bIn : B :=
 (.cons (.asg (.nm 7) (.sm .sidx (.var 2) (.cons (.var 6) .nil)))
 (.cons (.app (.var 5) (.bi .stri (.cons (.idx (.lst (.cons (.bin .add (.lit (.int 32)) (.var 7)) (.cons (.bin .add (.lit (.int 33)) (.var 7)) .nil))) (.bi .int (.cons (.cmp .gt (.var 7) (.lit (.int 4))) .nil))) .nil)))
 .nil))
theorem pick2 {k z : Int} (e : numAt k = z) : atE [D.int (32 + k), .int (33 + k)] (if (4 : Int) < k then 1 else 0) = some (.int z) := by
  unfold numAt at e
  by_cases h : (4 : Int) < k
  · rw [if_pos h] at e ⊢
    have e' : 33 + k = z := by omega
    rw [e', at1]
  · rw [if_neg h] at e ⊢
    have e' : 32 + k = z := by omega
    rw [e', at0]
theorem in_go {P0 : List Nat} (hpi : ∀ c ∈ P0, numAt ((P0.idxOf c : Nat) : Int) = ((c : Nat) : Int)) (hps : ∀ c ∈ P0, c < 127) (j : Nat) (e0 e1 e3 e4 e8 : Option D) (μ : Mem) : ∀ (z : List Nat) (a : List D) (o6 o7 : Option D) (W : Wp), (∀ c ∈ z, c ∈ P0) → a.length + z.length ≤ 100 →
    (∀ o6 o7, W.n [e0, e1, some (.str P0), e3, e4, some (.cel μ.length), o6, o7, e8] (μ ++ [some (.lst (a ++ z.map fun c => .str (numL c)))])) →
    @wp (goF (.nm 6) (runB (T.mn j) bIn) (z.map fun c => D.str [c]) [e0, e1, some (.str P0), e3, e4, some (.cel μ.length), o6, o7, e8] (μ ++ [some (.lst a)])) W := by
  intro z
  induction z with
  | nil =>
    intro a o6 o7 W _ _ h
    have := h o6 o7
    rw [List.map_nil, List.append_nil] at this
    exact this
  | cons c r ih =>
    intro a o6 o7 W hz hl h
    rw [List.length_cons] at hl
    rw [List.map_cons, w_gcons]
    have hc := hz c (by simp)
    have I := ih (a ++ [.str (numL c)]) (some (.str [c])) (some (.int ((P0.idxOf c : Nat) : Int))) W (fun c hc => hz c (by simp [hc])) (by rw [List.length_append, List.length_singleton]; omega) (fun o6 o7 => by
      have := h o6 o7
      rw [List.map_cons] at this
      rw [List.append_assoc]
      exact this)
    have pk := pick2 (hpi c hc)
    have hs := hps c hc
    obtain ⟨kk, hk⟩ : ∃ kk : Int, ((P0.idxOf c : Nat) : Int) = kk := ⟨_, rfl⟩
    obtain ⟨cc, hcc⟩ : ∃ cc : Int, ((c : Nat) : Int) = cc := ⟨_, rfl⟩
    rw [hk] at pk I
    rw [hcc] at pk
    have r0 : (0 : Int) ≤ cc ∧ cc < 1000000 := by omega
    have tn : cc.toNat = c := by omega
    have gN : ∀ d : D, (μ ++ [some d])[μ.length]? = some (some d) := fun d => by simp
    have sN : ∀ (x y : Option D), (μ ++ [x]).set μ.length y = μ ++ [y] := fun a b => by simp
    have al : a.length < 16777216 := by omega
    unfold bIn at I ⊢
    simp only [binds, List.set_cons_succ, List.set_cons_zero, w_cons, w_nil, w_app, v_bi, v_cons, List.map_cons, v_nil, List.map_nil, v_idx, v_cmp, x_gt, v_lit, t_int, v_var, v_lst, t_lst, v_bin, w_asg, op_some, v_sm, List.getElem?_cons_succ, List.getElem?_cons_zero, get_some, celP_cel, gN, sN, celQ_lst, al, true_and, t_str, m_sidxT, m_sidx, hc, hk, if_true, b_add, c_gt, t_bl, n_intb, decide_eq_true_eq, i_lst, pk, n_stri, r0, and_self, tn]
    first | exact I | exact ⟨by decide, I⟩
def bTx : B :=
 (.cons (.asg (.nm 5) (.new (.lst .nil)))
 (.cons (.for_ (.nm 6) (.seq (.var 4)) bIn)
 (.cons (.app (.var 3) (.sm .join (.lit (.str [43])) (.cons (.var 5) .nil)))
 (.cons (.ite (.cmp .eq (.var 4) (.lit (.str [])))
 (.cons (.put (.var 3) (.neg (.lit (.int 1))) (.lit (.str [45])))
 .nil)
 .nil)
 .nil))))
theorem tx_go (j : Nat) (e0 e1 e8 : Option D) {x : List Nat} (s : Sg3 x) (ws : List D) (hw : ws.length ≤ 100) (m : Mem) (o5 o6 o7 : Option D) (W : Wp)
    (h : ∀ m' o5 o6 o7, W.n [e0, e1, some (.str PRL), some (.cel 0), some (.str x), o5, o6, o7, e8] (some (.lst (ws ++ [.str (sgW x)])) :: m')) :
    @wp (runB (T.mn j) bTx [e0, e1, some (.str PRL), some (.cel 0), some (.str x), o5, o6, o7, e8] (some (.lst ws) :: m)) W := by
  have pS : ∀ x, pd 64 (.str x) = true := fun _ => rfl
  have sf := s.few
  have K := in_go pr_idx pr_small j e0 e1 (some (.cel 0)) (some (.str x)) e8 (some (.lst ws) :: m) x [] o6 o7
  rw [List.nil_append] at K
  have st := strsM x numL
  have lj : ((x.map numL).map (fun x => x.length)).sum + (x.map numL).length * 1 ≤ 16777216 := by
    have h1 := sum_le (l := x.map numL) (b := 3) fun y hy => by
      obtain ⟨c, hc, rfl⟩ := List.mem_map.mp hy
      exact num_len (s.sub c hc)
    have h1 : ((x.map numL).map (fun x => x.length)).sum ≤ (x.map numL).length * 3 := h1
    rw [List.length_map] at h1 ⊢
    omega
  have sq : ∀ μ, seqE μ (.str x) = some (.its (x.map fun c => D.str [c])) := fun _ => rfl
  have wl : ws.length < 16777216 := by omega
  simp only [List.length_cons, List.cons_append] at K
  unfold bTx
  generalize hb : bIn = BI at *
  have rest : ∀ (NS : List D) (o6 o7 : Option D), strsOf NS = some (x.map numL) → @wp (runB (T.mn j) (.cons (.app (.var 3) (.sm .join (.lit (.str [43])) (.cons (.var 5) .nil)))
 (.cons (.ite (.cmp .eq (.var 4) (.lit (.str [])))
 (.cons (.put (.var 3) (.neg (.lit (.int 1))) (.lit (.str [45])))
 .nil)
 .nil)
 .nil)) [e0, e1, some (.str PRL), some (.cel 0), some (.str x), some (.cel (m.length + 1)), o6, o7, e8] (some (D.lst ws) :: (m ++ [some (D.lst NS)]))) W := by
    intro NS o6 o7 hNS
    have tN : DM.top (some (D.lst ws) :: (m ++ [some (D.lst NS)])) (.cel (m.length + 1)) = .lst NS := by unfold DM.top; simp
    have g0 : ∀ d : D, (some d :: (m ++ [some (D.lst NS)]))[0]? = some (some d) := fun _ => rfl
    have s0 : ∀ (a b : Option D), (a :: (m ++ [some (D.lst NS)])).set 0 b = b :: (m ++ [some (D.lst NS)]) := fun _ _ => rfl
    unfold sgW at h
    by_cases h0 : x = []
    · subst h0
      have q : eqD (.str []) (.str []) = true := rfl
      have j0 : joinL [43] (([] : List Nat).map numL) = [] := rfl
      have ix : L2.ixN (ws.length + 1) (-1) = some ws.length := by
        unfold L2.ixN
        rw [if_neg (by decide), if_pos (by omega)]
        exact congrArg some (by omega)
      have la : (ws ++ [D.str []]).length = ws.length + 1 := by simp
      have sw : (ws ++ [D.str []]).set ws.length (.str [45]) = ws ++ [.str [45]] := by simp
      rw [if_pos rfl] at h
      have hNS' : strsOf NS = some [] := hNS
      have lj' : ([] : List Nat).sum + 0 * 1 ≤ 16777216 := by decide
      have jn : joinL [43] [] = [] := rfl
      simp only [w_cons, w_nil, w_ite, w_put, v_neg, iP_int, v_lit, v_var, v_cmp, x_eq, c_eq, op_ite, op_some, tB_bl, r_str, pS, w_app, List.getElem?_cons_succ, List.getElem?_cons_zero, get_some, celP_cel, Bool.and_self, q, true_implies, Bool.true_eq_false, false_implies, and_true, true_and, v_sm, v_cons, List.map_cons, v_nil, List.map_nil, t_str, m_joinT, tN, m_join, hNS', List.length_cons, List.length_nil, Nat.reduceAdd, Option.bind_some, lj', jn, if_true, g0, s0, celQ_lst, wl, la, ix, sw]
      first | exact h _ _ _ _ | exact ⟨lj', h _ _ _ _⟩
    · rw [if_neg h0] at h
      have q : eqD (.str x) (.str []) = false := by rw [eqD_str]; exact decide_eq_false h0
      have lj' := lj
      rw [List.length_map] at lj'
      simp only [w_cons, w_nil, w_ite, w_put, v_neg, iP_int, v_lit, v_var, v_cmp, x_eq, c_eq, op_ite, op_some, tB_bl, r_str, pS, w_app, List.getElem?_cons_succ, List.getElem?_cons_zero, get_some, celP_cel, Bool.and_self, q, Bool.false_eq_true, false_implies, true_implies, true_and, v_sm, v_cons, List.map_cons, v_nil, List.map_nil, t_str, m_joinT, tN, m_join, hNS, List.length_cons, List.length_nil, Nat.reduceAdd, Option.bind_some, List.length_map, g0, s0, celQ_lst, wl]
      first | exact h _ _ _ _ | exact ⟨lj', h _ _ _ _⟩
  generalize hr : (DM.B.cons (.app (.var 3) (.sm .join (.lit (.str [43])) (.cons (.var 5) .nil)))
 (.cons (.ite (.cmp .eq (.var 4) (.lit (.str [])))
 (.cons (.put (.var 3) (.neg (.lit (.int 1))) (.lit (.str [45])))
 .nil)
 .nil)
 .nil)) = RR at *
  simp only [w_cons, w_for, v_seq, v_var, w_asg, binds, List.set_cons_succ, List.set_cons_zero, op_some, List.getElem?_cons_succ, List.getElem?_cons_zero, get_some, sq, w_its, v_new, frT, isMut, v_lst, Bool.and_self, true_and, v_nil, List.length_cons, List.cons_append]
  refine K _ s.sub (by rw [List.length_nil]; omega) fun o6 o7 => ?_
  exact rest _ o6 o7 st
theorem f19 {nm : List Nat} (hn : isNm nm = true) {t : Tl} (g : Gt t) : Fn T 4 19 [.str nm, .tup t.ds] (.str (rowV nm t)) := by
  have hl : nm.length ≤ 8 := by
    unfold isNm at hn
    simp only [Bool.and_eq_true, decide_eq_true_eq] at hn
    exact hn.1.2
  refine fn_of (f := d19) rfl rfl fun j hj => ?_
  have e15 := fun {μ : Mem} {P : D × Mem → Prop} {E : Exn → Mem → Prop} => call_puE (k := j) (μ := μ) (P := P) (E := E) f15 (by omega) rfl rfl
  have c1 : cutE t.ds (some 3) none = [t.t1, t.t2, t.t3, t.t4].map .bl := rfl
  have c2 : cutE t.ds none (some 3) = [.str t.p, .str t.q, .str t.f] := rfl
  have sh1 : ∀ μ, shortB μ (.its ([t.t1, t.t2, t.t3, t.t4].map .bl)) = true := fun _ => rfl
  have l1 : ∀ e0 e1 e2 e3 e4 e5 e6 e7 μ, goLcI (.nm 8) [e0, e1, e2, e3, e4, e5, e6, e7, none] (evc (T.mn j) .none) (ev (T.mn j) (.bi .stri (.cons (.bi .int (.cons (.var 8) .nil)) .nil))) (.its ([t.t1, t.t2, t.t3, t.t4].map .bl)) μ = .ok ([t.t1, t.t2, t.t3, t.t4].map fun b => .str [dg b], μ) := by
    intro e0 e1 e2 e3 e4 e5 e6 e7 μ
    unfold goLcI
    dsimp only
    rw [goLc_ok (p := fun _ => true) (f := fun d => match d with | .bl b => .str [dg b] | _ => .non)]
    · rw [List.filter_eq_self.mpr (by simp), List.map_map]; rfl
    · intro d hd
      obtain ⟨b, hb, rfl⟩ := List.mem_map.mp hd
      refine ⟨_, rfl, rfl, fun _ => ?_⟩
      rw [← ok_eq]
      have n := num01 b
      have r0 : (0 : Int) ≤ (if b = true then 1 else 0) ∧ (if b = true then (1 : Int) else 0) < 1000000 := by cases b <;> decide
      simp only [List.set_cons_succ, List.set_cons_zero, v_bi, v_cons, List.map_cons, v_nil, List.map_nil, v_var, List.getElem?_cons_succ, List.getElem?_cons_zero, get_some, t_bl, n_intb, op_some, t_int, n_stri, r0, and_self, n, if_true]
  have st1 : strsOf ([t.t1, t.t2, t.t3, t.t4].map fun b => D.str [dg b]) = some ([t.t1, t.t2, t.t3, t.t4].map fun b => [dg b]) := strsM _ _
  have lj1 : (([t.t1, t.t2, t.t3, t.t4].map fun b => [dg b]).map (fun x => x.length)).sum + ([t.t1, t.t2, t.t3, t.t4].map fun b => [dg b]).length * 0 ≤ 16777216 := by show 4 + 4 * 0 ≤ 16777216; decide
  have jj1 : joinL [] ([t.t1, t.t2, t.t3, t.t4].map fun b => [dg b]) = trs t := rfl
  have w1 := sgW_few g.p
  have w2 := sgW_few g.q
  have w3 := sgW_few g.f
  have wt : (trs t).length = 4 := rfl
  have lj2 : ((rowL nm t).map (fun x => x.length)).sum + (rowL nm t).length * 1 ≤ 16777216 := by
    unfold rowL
    simp only [List.map_cons, List.map_nil, List.sum_cons, List.sum_nil, List.length_cons, List.length_nil]
    have : dlW.length = 7 := rfl
    omega
  have st2 : strsOf [D.str [100,105,97,108,101,99,116], .str nm, .str (sgW t.p), .str (sgW t.q), .str (sgW t.f), .str (trs t)] = some (rowL nm t) := rfl
  have eV : joinL [32] (rowL nm t) = rowV nm t := rfl
  have G1 := fun e0 e1 e8 ws hw m o5 o6 o7 W h => tx_go j e0 e1 e8 g.p ws hw m o5 o6 o7 W h
  have G2 := fun e0 e1 e8 ws hw m o5 o6 o7 W h => tx_go j e0 e1 e8 g.q ws hw m o5 o6 o7 W h
  have G3 := fun e0 e1 e8 ws hw m o5 o6 o7 W h => tx_go j e0 e1 e8 g.f ws hw m o5 o6 o7 W h
  have hb : b19 = (.cons (.asg (.nm 2) (.idx (.call .pu 15 (.cons (.lit (.int 2)) .nil)) (.lit (.int 0))))
 (.cons (.asg (.nm 3) (.new (.lst (.cons (.lit (.str [100,105,97,108,101,99,116])) (.cons (.var 0) .nil)))))
 (.cons (.for_ (.nm 4) (.seq (.slc (.var 1) .none (.some (.lit (.int 3))))) bTx)
 (.cons (.ret (.sm .join (.lit (.str [32])) (.cons (.bin .add (.var 3) (.lst (.cons (.sm .join (.lit (.str [])) (.cons (.lc (.nm 8) (.seq (.slc (.var 1) (.some (.lit (.int 3))) .none)) .none (.bi .stri (.cons (.bi .int (.cons (.var 8) .nil)) .nil))) .nil)) .nil))) .nil)))
 .nil)))) := rfl
  have sq : ∀ μ, seqE μ (.tup t.ds) = some (.its t.ds) := fun _ => rfl
  generalize trs t = TR at *
  generalize ([t.t1, t.t2, t.t3, t.t4].map fun b => D.str [dg b]) = X1 at *
  generalize ([t.t1, t.t2, t.t3, t.t4].map fun b => [dg b]) = X2 at *
  generalize [t.t1, t.t2, t.t3, t.t4].map D.bl = X3 at *
  obtain ⟨P1, eP1⟩ : ∃ X, X = sgW t.p := ⟨_, rfl⟩
  obtain ⟨P2, eP2⟩ : ∃ X, X = sgW t.q := ⟨_, rfl⟩
  obtain ⟨P3, eP3⟩ : ∃ X, X = sgW t.f := ⟨_, rfl⟩
  rw [← eP1] at G1 st2
  rw [← eP2] at G2 st2
  rw [← eP3] at G3 st2
  generalize t.p = p at *
  generalize t.q = q at *
  generalize t.f = f at *
  generalize t.ds = TD at *
  generalize rowV nm t = RV at *
  generalize rowL nm t = RL at *
  generalize bTx = BT at *
  generalize hP : PRL = PP at *
  simp only [d19, hb, ev0, List.map_cons, List.map_nil, List.length_cons, List.length_nil, Nat.reduceAdd, Nat.reduceSub, List.replicate, List.cons_append, List.nil_append, w_cons, w_nil, w_ret, v_sm, v_cons, v_nil, v_bin, v_lst, t_lst, v_lc, tgI, wipeE, v_seq, v_slc, v_no, v_some, v_lit, iP_int, v_var, t_str, m_joinT, m_join, true_and, w_for, w_asg, binds, op_some, v_new, frT, isMut, Bool.and_self, List.set_cons_succ, List.set_cons_zero, List.getElem?_cons_zero, List.getElem?_cons_succ, get_some, t_tup, s_tupE, c2, q_tup, w_its, w_gcons, w_gnil, v_idx, t_int, v_call, e15, i_lst, at0]
  first
    | (refine G1 _ _ _ _ (by simp) _ _ _ _ _ fun m' o5 o6 o7 => ?_
       simp only [List.set_cons_succ, List.set_cons_zero, List.cons_append, List.nil_append]
       refine G2 _ _ _ _ (by simp) _ _ _ _ _ fun m' o5 o6 o7 => ?_
       simp only [List.set_cons_succ, List.set_cons_zero, List.cons_append, List.nil_append]
       refine G3 _ _ _ _ (by simp) _ _ _ _ _ fun m' o5 o6 o7 => ?_
       have tp : ∀ (x : D) m, DM.top (some x :: m) (.cel 0) = x := fun _ _ => rfl
       simp only [List.getElem?_cons_succ, List.getElem?_cons_zero, List.cons_append, List.nil_append, List.set_cons_succ, List.set_cons_zero, get_some, t_tup, s_tupE, c1, op_some, q_tup, sh1, l1, ok_ok, st1, Option.bind_some, lj1, jj1, if_true, true_and, tp, b_addl, List.length_cons, List.length_nil, Nat.reduceAdd, op_ite, t_lst, m_join, st2, lj2, eV, and_true]
       decide)
structure Odd (X : D) : Prop where
  n : Fn T 1 3 [X] (.bl false)
  c : cf X = true
  p : pd 64 X = true
  b : ∃ b, isiE .bool X = some (.bl b)
theorem f20 {X : D} (o : Odd X) (t : Tl) : Fn T 5 20 [X, dialA t] (.bl true) := by
  refine fn_of (f := d20) rfl rfl fun j hj => ?_
  have e9 := fun {μ : Mem} {P : D × Mem → Prop} {E : Exn → Mem → Prop} => call_pxE (k := j) (μ := μ) (P := P) (E := E) (f9x o.n o.c t) (by omega) (by simp only [cfs, o.c, Bool.true_and]; rfl) (by simp only [cfs, o.c, Bool.and_self])
  have ik : (T.mn j).isk (some 6) 6 = some true := by rw [isk_at]; rfl
  have i1 : (T.mn j).isk (some 6) 1 = some true := by rw [isk_at]; rfl
  have i2 : (T.mn j).isk (some 6) 2 = some false := by rw [isk_at]; rfl
  have i3 : (T.mn j).isk (some 6) 3 = some false := by rw [isk_at]; rfl
  have i4 : (T.mn j).isk (some 6) 4 = some false := by rw [isk_at]; rfl
  have i5 : (T.mn j).isk (some 6) 5 = some false := by rw [isk_at]; rfl
  have iv : (T.mn j).isv 6 = some true := by cases j <;> rfl
  have v10 : isvE (T.mn j) (.exc 6 [X]) = some (.bl true) := by unfold isvE; dsimp only; rw [iv]; rfl
  have is1 : istE (T.mn j) [4, 5, 3, 2] (.exc 6 [X]) = some (.bl false) := by
    unfold istE
    simp [istB, i2, i3, i4, i5]
  have f1 := fl_at (T := T) (j := j) (p := 6) (d := [7]) rfl
  have q1 : ∀ {a : D}, [((7 : Nat), a)].lookup 7 = some a := by intros; rfl
  obtain ⟨b, hb⟩ := o.b
  have tX : ∀ μ, DM.top μ X = X := fun μ => by
    cases X <;> first | rfl | cases hb
  have rX : ∀ μ, res μ X = X := fun μ => res_cf o.c
  have pX := o.p
  have eX := pd_refl pX
  have pb : ∀ b, pd 64 (.bl b) = true := fun _ => rfl
  have eb : eqD (.bl b) (.bl b) = true := by cases b <;> rfl
  generalize dialA t = DA at *
  simp only [d20, b20, ev0, List.map_cons, List.map_nil, List.length_cons, List.length_nil, Nat.reduceAdd, Nat.reduceSub, List.replicate, List.cons_append, List.nil_append, w_cons, w_nil, w_ret, v_lit, w_tr, w_hcons, bindX, shutW, v_and, v_cmp, x_eq, c_eq, op_ite, op_some, v_var, v_att, tB_bl, v_isi, v_isc, w_ite, v_or, true_implies, Bool.true_eq_false, false_implies, and_true, v_not, Bool.false_eq_true, true_and, v_isv, v_ist, w_hnil, w_exp, List.set_cons_succ, List.set_cons_zero, List.getElem?_cons_succ, List.getElem?_cons_zero, get_some, rX, pX, t_exc, at_exc, tX, hb, r_bl, pb, is_exc, op_map, v_call, v_cons, v_nil, e9, ik, is1, v10, i1, f1, List.zip_cons_cons, List.zip_nil_left, q1, Bool.and_self, eX, implies_true, eb, h_true]
theorem f21 {nm : List Nat} (hn : isNm nm = true) {t : Tl} (g : Gt t) : Fn T 7 21 [.str nm, .tup t.ds] (.bl true) := by
  have hl : nm.length ≤ 8 := by
    unfold isNm at hn
    simp only [Bool.and_eq_true, decide_eq_true_eq] at hn
    exact hn.1.2
  have F3 := f3 nm (by omega)
  rw [hn] at F3
  refine fn_of (f := d21) rfl rfl fun j hj => ?_
  have e3 := fun {μ : Mem} {P : D × Mem → Prop} {E : Exn → Mem → Prop} => call_puE (k := j) (μ := μ) (P := P) (E := E) F3 (by omega) rfl rfl
  have e17 := fun {μ : Mem} {P : D × Mem → Prop} {E : Exn → Mem → Prop} => call_puE (k := j) (μ := μ) (P := P) (E := E) (f17 g.g) (by omega) rfl rfl
  have e9 := fun {μ : Mem} {P : D × Mem → Prop} {E : Exn → Mem → Prop} => call_puE (k := j) (μ := μ) (P := P) (E := E) (f9 hn g) (by omega) rfl rfl
  have e19 := fun {μ : Mem} {P : D × Mem → Prop} {E : Exn → Mem → Prop} => call_puE (k := j) (μ := μ) (P := P) (E := E) (f19 hn g) (by omega) rfl rfl
  have e10 := fun {μ : Mem} {P : D × Mem → Prop} {E : Exn → Mem → Prop} => call_puE (k := j) (μ := μ) (P := P) (E := E) (f10 hn g) (by omega) rfl rfl
  have e2 := fun {μ : Mem} {P : D × Mem → Prop} {E : Exn → Mem → Prop} => call_puE (k := j) (μ := μ) (P := P) (E := E) (f2 t) (by omega) rfl rfl
  have m2 := fun {fs : List D} {P : Nat → Prop} => mth_at (T := T) (c := 0) (m := 0) (n := 2) (j := j) (fs := fs) (P := P) rfl (by decide)
  have pS : ∀ x, pd 64 (.str x) = true := fun _ => rfl
  have p7 : ∀ i : Int, pd 64 (.int i) = true := fun _ => rfl
  have q2 : eqD (.int 2) (.int 2) = true := rfl
  have z2 : ((2 : Nat) : Int) = 2 := rfl
  have qS : ∀ x, eqD (.str x) (.str x) = true := fun x => by rw [eqD_str]; exact decide_eq_true rfl
  have pT : pd 64 (.tup t.ds) = true := rfl
  have qT := pd_refl pT
  have rT : ∀ μ, res μ (.tup t.ds) = .tup t.ds := fun μ => res_cf rfl
  have i1 : ∀ x, isiE .str (.str x) = some (.bl true) := fun _ => rfl
  have i2 : ∀ x, isiE .tup (.tup x) = some (.bl true) := fun _ => rfl
  have it : isTru true (.bl true) = true := rfl
  have ic : ∀ fs, iscE (T.mn j) 0 (.ins 0 fs) = some (.bl true) := fun fs => by
    have ik : (T.mn j).isk (some 0) 0 = some true := by rw [isk_at]; rfl
    unfold iscE
    simp [ik]
  unfold dialA at *
  generalize rowV nm t = RV at *
  generalize t.ds = TD at *
  simp only [d21, b21, ev0, List.map_cons, List.map_nil, List.length_cons, List.length_nil, Nat.reduceAdd, Nat.reduceSub, List.replicate, List.cons_append, List.nil_append, w_cons, w_nil, w_ret, v_cmp, x_eq, c_eq, op_ite, op_some, v_var, v_mth, v_nil, v_idx, v_lit, t_int, w_ite, v_or, tB_bl, true_implies, Bool.true_eq_false, false_implies, and_true, v_not, Bool.false_eq_true, true_and, v_isc, x_ne, c_ne, r_int, p7, v_bi, v_cons, v_isi, w_asg, binds, v_call, x_notN, t_bl, c_notB, List.set_cons_succ, List.set_cons_zero, List.getElem?_cons_succ, List.getElem?_cons_zero, get_some, rT, pT, r_str, pS, e3, it, Bool.not_true, e19, e17, e9, t_str, i1, Bool.and_self, qS, e10, t_tup, i2, n_lent, z2, i_tup, at0, at1, t_ins, m2, e2, qT, ic, implies_true, q2]
theorem odd_str {x : List Nat} (h : isNm x = false) (hl : x.length ≤ 100000) : Odd (.str x) := by
  have := f3 x hl
  rw [h] at this
  exact ⟨this, rfl, rfl, _, rfl⟩
theorem odd_no {X : D} (h : isiE .str X = some (.bl false)) (c : cf X = true) (p : pd 64 X = true) (b : ∃ b, isiE .bool X = some (.bl b)) : Odd X := ⟨f3n h, c, p, b⟩
theorem not_sml {x : List Nat} {c : Nat} (h : c ∈ x) (hc : c ∉ SML) : isNm x = false := by
  unfold isNm
  have : (x.all fun c => decide (c ∈ SML)) = false := by
    rw [Bool.eq_false_iff]
    intro z
    exact hc (of_decide_eq_true (List.all_eq_true.mp z c h))
  rw [this, Bool.and_false]
def oddC (k : Int) : Nat := [65,49,32,95,45,46,10].getD (k % 7).toNat 0
theorem oddC_ok (k : Int) : atE [65,49,32,95,45,46,10] (k % 7) = some (oddC k) ∧ oddC k ∉ SML := by
  have m1 := Int.emod_lt_of_pos k (show (0 : Int) < 7 by decide)
  have m0 := Int.emod_nonneg k (show (7 : Int) ≠ 0 by decide)
  unfold oddC
  obtain ⟨i, hi⟩ : ∃ i : Nat, k % 7 = i := ⟨_, (Int.toNat_of_nonneg m0).symm⟩
  rw [hi]
  have : i < 7 := by omega
  match i, this with
  | 0, _ => exact ⟨rfl, by decide⟩
  | 1, _ => exact ⟨rfl, by decide⟩
  | 2, _ => exact ⟨rfl, by decide⟩
  | 3, _ => exact ⟨rfl, by decide⟩
  | 4, _ => exact ⟨rfl, by decide⟩
  | 5, _ => exact ⟨rfl, by decide⟩
  | 6, _ => exact ⟨rfl, by decide⟩
theorem cut_len {α : Type} (z : List α) (lo hi : Option Int) : (cutE z lo hi).length ≤ z.length := by
  unfold cutE
  simp only [List.length_take, List.length_drop]; omega
theorem law_fn (ns : List Int) (h : ns.length ≤ 63) : Fn T 9 22 [.lst (ns.map .int)] (.bl true) := by
  have hc : ∀ z, cfs [.lst (ns.map .int), .int z] = true := fun z => by simp [cfs, cf, cfs_ints]
  have F0 := f11 ns 0
  have F1 := f11 ns 1
  have F2 := f11 ns 2
  have F3 := f11 ns 3
  have F4 := f11 ns 4
  have z0 : ((0 : Nat) : Int) = 0 := rfl
  have z1 : ((1 : Nat) : Int) = 1 := rfl
  have z2 : ((2 : Nat) : Int) = 2 := rfl
  have z3 : ((3 : Nat) : Int) = 3 := rfl
  have z4 : ((4 : Nat) : Int) = 4 := rfl
  rw [z0] at F0
  rw [z1] at F1
  rw [z2] at F2
  rw [z3] at F3
  rw [z4] at F4
  generalize ns.getD 0 0 = n0 at *
  generalize ns.getD 1 0 = n1 at *
  generalize ns.getD 2 0 = n2 at *
  generalize ns.getD 3 0 = n3 at *
  generalize ns.getD 4 0 = n4 at *
  have g1 := gt_of (tell_good n0)
  have g2 := gt_of (tell_good (n1 + 1))
  have a1 := ttV_nm n2
  have a2 := ttV_nm n3
  have G0 := f16 n0
  have G1 := f16 (n1 + 1)
  have T2 := f18 n2
  have T3 := f18 n3
  generalize tell n0 = t at *
  generalize tell (n1 + 1) = u at *
  generalize ttV n2 = x at *
  generalize ttV n3 = y at *
  have hx : 1 ≤ x.length ∧ x.length ≤ 8 := by
    unfold isNm at a1
    simp only [Bool.and_eq_true, decide_eq_true_eq] at a1
    exact a1.1
  have O : ∀ X ∈ [D.str (cutE x none (some (n4 % (x.length : Int))) ++ [oddC (n4 / 8)] ++ cutE x (some (n4 % (x.length : Int) + 1)) none), .str [], .str [97,98,99,100,101,102,103,104,105], .str (cutE x none (some 7) ++ [65]), .str (cutE x none (some 7) ++ [49]), .str (cutE x none (some 7) ++ [32]), .non, .int 7, .bl true, .lst [.str x]], Odd X := by
    have c1 := cut_len x none (some (n4 % (x.length : Int)))
    have c2 := cut_len x (some (n4 % (x.length : Int) + 1)) none
    have c3 := cut_len x none (some 7)
    intro X hX
    simp only [List.mem_cons, List.not_mem_nil, or_false] at hX
    rcases hX with rfl | rfl | rfl | rfl | rfl | rfl | rfl | rfl | rfl | rfl
    · exact odd_str (not_sml (c := oddC (n4 / 8)) (by simp) (oddC_ok _).2) (by simp only [List.length_append, List.length_cons, List.length_nil]; omega)
    · exact odd_str rfl (by decide)
    · exact odd_str rfl (by decide)
    · exact odd_str (not_sml (c := 65) (by simp) (by decide)) (by simp only [List.length_append, List.length_cons, List.length_nil]; omega)
    · exact odd_str (not_sml (c := 49) (by simp) (by decide)) (by simp only [List.length_append, List.length_cons, List.length_nil]; omega)
    · exact odd_str (not_sml (c := 32) (by simp) (by decide)) (by simp only [List.length_append, List.length_cons, List.length_nil]; omega)
    · exact odd_no rfl rfl rfl ⟨_, rfl⟩
    · exact odd_no rfl rfl rfl ⟨_, rfl⟩
    · exact odd_no rfl rfl rfl ⟨_, rfl⟩
    · exact odd_no rfl rfl rfl ⟨_, rfl⟩
  refine fn_of (f := d22) rfl rfl fun j hj => ?_
  have e0 := fun {μ : Mem} {P : D × Mem → Prop} {E : Exn → Mem → Prop} => call_puE (k := j) (μ := μ) (P := P) (E := E) F0 (by omega) (hc _) rfl
  have e1 := fun {μ : Mem} {P : D × Mem → Prop} {E : Exn → Mem → Prop} => call_puE (k := j) (μ := μ) (P := P) (E := E) F1 (by omega) (hc _) rfl
  have e2 := fun {μ : Mem} {P : D × Mem → Prop} {E : Exn → Mem → Prop} => call_puE (k := j) (μ := μ) (P := P) (E := E) F2 (by omega) (hc _) rfl
  have e3 := fun {μ : Mem} {P : D × Mem → Prop} {E : Exn → Mem → Prop} => call_puE (k := j) (μ := μ) (P := P) (E := E) F3 (by omega) (hc _) rfl
  have e4 := fun {μ : Mem} {P : D × Mem → Prop} {E : Exn → Mem → Prop} => call_puE (k := j) (μ := μ) (P := P) (E := E) F4 (by omega) (hc _) rfl
  have h0 := fun {μ : Mem} {P : D × Mem → Prop} {E : Exn → Mem → Prop} => call_puE (k := j) (μ := μ) (P := P) (E := E) G0 (by omega) rfl rfl
  have h1 := fun {μ : Mem} {P : D × Mem → Prop} {E : Exn → Mem → Prop} => call_puE (k := j) (μ := μ) (P := P) (E := E) G1 (by omega) rfl rfl
  have h2 := fun {μ : Mem} {P : D × Mem → Prop} {E : Exn → Mem → Prop} => call_puE (k := j) (μ := μ) (P := P) (E := E) T2 (by omega) rfl rfl
  have h3 := fun {μ : Mem} {P : D × Mem → Prop} {E : Exn → Mem → Prop} => call_puE (k := j) (μ := μ) (P := P) (E := E) T3 (by omega) rfl rfl
  have r1 := fun {μ : Mem} {P : D × Mem → Prop} {E : Exn → Mem → Prop} => call_puE (k := j) (μ := μ) (P := P) (E := E) (f21 a1 g1) (by omega) rfl rfl
  have r2 := fun {μ : Mem} {P : D × Mem → Prop} {E : Exn → Mem → Prop} => call_puE (k := j) (μ := μ) (P := P) (E := E) (f21 a2 g2) (by omega) rfl rfl
  have m1 := fun {μ : Mem} {P : D × Mem → Prop} {E : Exn → Mem → Prop} => call_puE (k := j) (μ := μ) (P := P) (E := E) (f17 g1.g) (by omega) rfl rfl
  have n3' := fun {X : D} (o : Odd X) {μ : Mem} {P : D × Mem → Prop} {E : Exn → Mem → Prop} => call_puE (k := j) (μ := μ) (P := P) (E := E) o.n (by omega) (by simp only [cfs, o.c, Bool.and_self]) rfl
  have r20 := fun {X : D} (o : Odd X) {μ : Mem} {P : D × Mem → Prop} {E : Exn → Mem → Prop} => call_puE (k := j) (μ := μ) (P := P) (E := E) (f20 o t) (by omega) (by simp only [cfs, o.c, Bool.true_and]; rfl) rfl
  have oc := (oddC_ok (n4 / 8)).1
  have xl : x.length ≤ 16777216 := by omega
  have cl1 := cut_len x none (some (n4 % (x.length : Int)))
  have cl2 := cut_len x (some (n4 % (x.length : Int) + 1)) none
  have cl3 := cut_len x none (some 7)
  have pI : (0 : Int) < x.length := by omega
  have sq : ∀ L μ, seqE μ (.lst L) = some (.its L) := fun _ _ => rfl
  have it : isTru false (.bl false) = true := rfl
  unfold dialA at m1 r20
  generalize t.ds = TD at *
  generalize u.ds = UD at *
  obtain ⟨R, eR⟩ : ∃ X, X = D.lst (ns.map .int) := ⟨_, rfl⟩
  rw [← eR] at e0 e1 e2 e3 e4 ⊢
  generalize oddC (n4 / 8) = oC at *
  simp only [d22, b22, ev0, List.map_cons, List.map_nil, List.length_cons, List.length_nil, Nat.reduceAdd, Nat.reduceSub, List.replicate, List.cons_append, List.nil_append, w_cons, w_nil, w_ret, v_lit, w_for, v_seq, v_lst, sq, op_some, w_its, v_cons, v_nil, v_var, v_bin, t_str, v_slc, v_some, iP_int, v_no, w_asg, binds, t_int, v_idx, v_call, v_bi, w_ite, v_or, tB_bl, true_implies, Bool.true_eq_false, false_implies, and_true, v_not, Bool.false_eq_true, true_and, List.set_cons_succ, List.set_cons_zero, List.getElem?_cons_zero, List.getElem?_cons_succ, get_some, e4, b_fdiv, op_ite, b_mod, i_str, oc, op_map, e3, h3, e2, h2, n_lens, xl, s_strE, b_adds, b_add, e1, h1, r2, e0, h0, r1]
  refine ⟨pI, ⟨by decide, by decide⟩, by decide, by decide, by omega, by simp only [List.length_append, List.length_cons, List.length_nil]; omega, by omega, by omega, by omega, ?_⟩
  generalize [D.str (cutE x none (some (n4 % (x.length : Int))) ++ [oC] ++ cutE x (some (n4 % (x.length : Int) + 1)) none), .str [], .str [97,98,99,100,101,102,103,104,105], .str (cutE x none (some 7) ++ [65]), .str (cutE x none (some 7) ++ [49]), .str (cutE x none (some 7) ++ [32]), .non, .int 7, .bl true, .lst [.str x]] = LL at *
  generalize D.str (cutE x none (some (n4 % (x.length : Int))) ++ [oC] ++ cutE x (some (n4 % (x.length : Int) + 1)) none) = SS
  refine wp_goF (fun pre ε μ => ∃ o7, ε = [some R, some (.tup TD), some (.tup UD), some (.str x), some (.str y), some (.int (n4 % (x.length : Int))), some SS, o7]) ⟨_, rfl⟩ ?_ ?_
  · rintro pre d suf ε μ e ⟨o7, rfl⟩
    have o := O d (by rw [← e]; simp)
    have n3 := fun {μ : Mem} {P : D × Mem → Prop} {E : Exn → Mem → Prop} => n3' o (μ := μ) (P := P) (E := E)
    have r3 := fun {μ : Mem} {P : D × Mem → Prop} {E : Exn → Mem → Prop} => r20 o (μ := μ) (P := P) (E := E)
    refine ⟨_, rfl, ?_⟩
    simp only [List.set_cons_succ, List.set_cons_zero, w_cons, w_nil, w_ite, w_ret, v_lit, v_or, tB_bl, true_implies, Bool.true_eq_false, false_implies, and_true, v_not, Bool.false_eq_true, true_and, v_call, v_cons, v_nil, v_var, List.getElem?_cons_succ, List.getElem?_cons_zero, get_some, m1, r3, v_cmp, x_notN, t_bl, c_notB, op_some, n3, it, Bool.not_true]
    exact ⟨_, rfl⟩
  · rintro ε μ ⟨o7, rfl⟩
    simp only []
theorem law_is (ns : List Int) (h : ns.length ≤ 63) : ∃ μ, (T.mn 20).fn 22 [.lst (ns.map .int)] [] = .ok (.bl true, μ) := (law_fn ns h).2.2 20 (by decide)
end LW
set_option maxHeartbeats 8000000
namespace LW
open PySem L2 PySem.Spec PyProof.Rows DM
def mtL : List (Nat × Nat × Nat) := [(0, 0, 2)]
theorem mt_mem {c m n : Nat} (h : mtF c m = some n) : (c, m, n) ∈ mtL := by
  unfold mtF at h
  split at h <;> first | (cases h; decide) | cases h
def iniL : List (Nat × Nat) := [(0, 1)]
theorem ini_mem {c n : Nat} (h : iniF c = some n) : (c, n) ∈ iniL := by
  unfold iniF at h
  split at h <;> first | (cases h; decide) | cases h
theorem all_mk {l : PySem.W.OpenLaw} {w : World} {K : PySem.W.Frag} {h : Heap} {mg : Str → Option Value} {fa : Addr} (X : K.In h) (G : h.Ns mainGlobals mg) (hfa : mg "law" = some (.ref fa))
    {C0 : Addr}
    {C1 : Addr}
    {C2 : Addr}
    {C3 : Addr}
    {C4 : Addr}
    {C5 : Addr}
    {C6 : Addr}
    {f0 : Addr} {od0 an0 : Option Addr} {sl0 : Array (Option Value)} {oc0 kV0 dc0 pm0 cd0 ct0 : Value}
    {f1 : Addr} {od1 an1 : Option Addr} {sl1 : Array (Option Value)} {oc1 kV1 dc1 pm1 cd1 ct1 : Value}
    {dT1 : Addr} {dcc1 : Value} {ddd1 : Option Addr} {dits1 : Array Value} {dn1 : Nat} {dsl1 : Array (Option Value)}
    {f2 : Addr} {od2 an2 : Option Addr} {sl2 : Array (Option Value)} {oc2 kV2 dc2 pm2 cd2 ct2 : Value}
    {f3 : Addr} {od3 an3 : Option Addr} {sl3 : Array (Option Value)} {oc3 kV3 dc3 pm3 cd3 ct3 : Value}
    {f4 : Addr} {od4 an4 : Option Addr} {sl4 : Array (Option Value)} {oc4 kV4 dc4 pm4 cd4 ct4 : Value}
    {f5 : Addr} {od5 an5 : Option Addr} {sl5 : Array (Option Value)} {oc5 kV5 dc5 pm5 cd5 ct5 : Value}
    {f6 : Addr} {od6 an6 : Option Addr} {sl6 : Array (Option Value)} {oc6 kV6 dc6 pm6 cd6 ct6 : Value}
    {f7 : Addr} {od7 an7 : Option Addr} {sl7 : Array (Option Value)} {oc7 kV7 dc7 pm7 cd7 ct7 : Value}
    {f8 : Addr} {od8 an8 : Option Addr} {sl8 : Array (Option Value)} {oc8 kV8 dc8 pm8 cd8 ct8 : Value}
    {f9 : Addr} {od9 an9 : Option Addr} {sl9 : Array (Option Value)} {oc9 kV9 dc9 pm9 cd9 ct9 : Value}
    {f10 : Addr} {od10 an10 : Option Addr} {sl10 : Array (Option Value)} {oc10 kV10 dc10 pm10 cd10 ct10 : Value}
    {f11 : Addr} {od11 an11 : Option Addr} {sl11 : Array (Option Value)} {oc11 kV11 dc11 pm11 cd11 ct11 : Value}
    {f12 : Addr} {od12 an12 : Option Addr} {sl12 : Array (Option Value)} {oc12 kV12 dc12 pm12 cd12 ct12 : Value}
    {f13 : Addr} {od13 an13 : Option Addr} {sl13 : Array (Option Value)} {oc13 kV13 dc13 pm13 cd13 ct13 : Value}
    {f14 : Addr} {od14 an14 : Option Addr} {sl14 : Array (Option Value)} {oc14 kV14 dc14 pm14 cd14 ct14 : Value}
    {f15 : Addr} {od15 an15 : Option Addr} {sl15 : Array (Option Value)} {oc15 kV15 dc15 pm15 cd15 ct15 : Value}
    {f16 : Addr} {od16 an16 : Option Addr} {sl16 : Array (Option Value)} {oc16 kV16 dc16 pm16 cd16 ct16 : Value}
    {f17 : Addr} {od17 an17 : Option Addr} {sl17 : Array (Option Value)} {oc17 kV17 dc17 pm17 cd17 ct17 : Value}
    {f18 : Addr} {od18 an18 : Option Addr} {sl18 : Array (Option Value)} {oc18 kV18 dc18 pm18 cd18 ct18 : Value}
    {f19 : Addr} {od19 an19 : Option Addr} {sl19 : Array (Option Value)} {oc19 kV19 dc19 pm19 cd19 ct19 : Value}
    {f20 : Addr} {od20 an20 : Option Addr} {sl20 : Array (Option Value)} {oc20 kV20 dc20 pm20 cd20 ct20 : Value}
    {f21 : Addr} {od21 an21 : Option Addr} {sl21 : Array (Option Value)} {oc21 kV21 dc21 pm21 cd21 ct21 : Value}
    {f22 : Addr} {od22 an22 : Option Addr} {sl22 : Array (Option Value)} {oc22 kV22 dc22 pm22 cd22 ct22 : Value}
    {xdd6 : Option Addr} {xcd6 : ClassData} {xsl6 : Array (Option Value)} {xf6 : Addr} {xod6 xan6 : Option Addr} {xfl6 : Array (Option Value)} {xoc6 xkV6 xdc6 xpm6 xcv6 xct6 : Value}
    {gs0 : Str} {gt0 : Tok}
    {gs1 : Str} {gt1 : Tok}
    {gt2 : Tok}
    {gt3 : Tok}
    {gt4 : Tok}
    {gs5 : Str} {gt5 : Tok}
    {gt6 : Tok}
    {gs7 : Str} {gt7 : Tok}
    (aC0 : PySem.W.nsIn K mainGlobals "Dialect" = some (some (.ref C0)))
    (aC1 : PySem.W.nsIn K mainGlobals "DialectError" = some (some (.ref C1)))
    (aC2 : PySem.W.nsIn K mainGlobals "NoText" = some (some (.ref C2)))
    (aC3 : PySem.W.nsIn K mainGlobals "NoTable" = some (some (.ref C3)))
    (aC4 : PySem.W.nsIn K mainGlobals "NoDialect" = some (some (.ref C4)))
    (aC5 : PySem.W.nsIn K mainGlobals "NoRow" = some (some (.ref C5)))
    (aC6 : PySem.W.nsIn K mainGlobals "NoName" = some (some (.ref C6)))
    (a0 : PySem.W.nsIn K mainGlobals "check_role" = some (some (.ref f0)))
    (l0 : K.lookup f0 = some ⟨oc0, od0, .func (PySem.W.fnOf "check_role" "check_role" (defArgs (top 14)) (defBody (top 14)) (defScope (top 14)) .none kV0 dc0 pm0 an0 cd0 ct0), sl0⟩)
    (c0 : PySem.W.codeIn K cd0 "check_role" = true)
    (k0 : PySem.W.keepIn K (.ref f0) = true)
    (a1 : PySem.W.findIn K (.ref C0) "__init__" = some (some (.ref f1)))
    (i1 : PySem.W.isFn K (.ref f1) = true)
    (l1 : K.lookup f1 = some ⟨oc1, od1, .func (PySem.W.fnOf "__init__" "Dialect.__init__" (defArgs (inClass (top 15) 0)) (defBody (inClass (top 15) 0)) (defScope (inClass (top 15) 0)) (.ref dT1) kV1 dc1 pm1 an1 cd1 ct1), sl1⟩)
    (c1 : PySem.W.codeIn K cd1 "Dialect.__init__" = true)
    (k1 : PySem.W.keepIn K (.ref f1) = true)
    (ld1 : K.lookup dT1 = some ⟨dcc1, ddd1, .seq dits1 dn1, dsl1⟩)
    (le1 : He.relAll ((dvF 1).map iV) dits1.toList = true)
    (a2 : PySem.W.findIn K (.ref C0) "told" = some (some (.ref f2)))
    (i2 : PySem.W.isFn K (.ref f2) = true)
    (l2 : K.lookup f2 = some ⟨oc2, od2, .func (PySem.W.fnOf "told" "Dialect.told" (defArgs (inClass (top 15) 1)) (defBody (inClass (top 15) 1)) (defScope (inClass (top 15) 1)) .none kV2 dc2 pm2 an2 cd2 ct2), sl2⟩)
    (c2 : PySem.W.codeIn K cd2 "Dialect.told" = true)
    (k2 : PySem.W.keepIn K (.ref f2) = true)
    (a3 : PySem.W.nsIn K mainGlobals "is_name" = some (some (.ref f3)))
    (l3 : K.lookup f3 = some ⟨oc3, od3, .func (PySem.W.fnOf "is_name" "is_name" (defArgs (top 20)) (defBody (top 20)) (defScope (top 20)) .none kV3 dc3 pm3 an3 cd3 ct3), sl3⟩)
    (c3 : PySem.W.codeIn K cd3 "is_name" = true)
    (k3 : PySem.W.keepIn K (.ref f3) = true)
    (a4 : PySem.W.nsIn K mainGlobals "number_at" = some (some (.ref f4)))
    (l4 : K.lookup f4 = some ⟨oc4, od4, .func (PySem.W.fnOf "number_at" "number_at" (defArgs (top 21)) (defBody (top 21)) (defScope (top 21)) .none kV4 dc4 pm4 an4 cd4 ct4), sl4⟩)
    (c4 : PySem.W.codeIn K cd4 "number_at" = true)
    (k4 : PySem.W.keepIn K (.ref f4) = true)
    (a5 : PySem.W.nsIn K mainGlobals "sign_of" = some (some (.ref f5)))
    (l5 : K.lookup f5 = some ⟨oc5, od5, .func (PySem.W.fnOf "sign_of" "sign_of" (defArgs (top 22)) (defBody (top 22)) (defScope (top 22)) .none kV5 dc5 pm5 an5 cd5 ct5), sl5⟩)
    (c5 : PySem.W.codeIn K cd5 "sign_of" = true)
    (k5 : PySem.W.keepIn K (.ref f5) = true)
    (a6 : PySem.W.nsIn K mainGlobals "numbers_told" = some (some (.ref f6)))
    (l6 : K.lookup f6 = some ⟨oc6, od6, .func (PySem.W.fnOf "numbers_told" "numbers_told" (defArgs (top 23)) (defBody (top 23)) (defScope (top 23)) .none kV6 dc6 pm6 an6 cd6 ct6), sl6⟩)
    (c6 : PySem.W.codeIn K cd6 "numbers_told" = true)
    (k6 : PySem.W.keepIn K (.ref f6) = true)
    (a7 : PySem.W.nsIn K mainGlobals "signs_told" = some (some (.ref f7)))
    (l7 : K.lookup f7 = some ⟨oc7, od7, .func (PySem.W.fnOf "signs_told" "signs_told" (defArgs (top 24)) (defBody (top 24)) (defScope (top 24)) .none kV7 dc7 pm7 an7 cd7 ct7), sl7⟩)
    (c7 : PySem.W.codeIn K cd7 "signs_told" = true)
    (k7 : PySem.W.keepIn K (.ref f7) = true)
    (a8 : PySem.W.nsIn K mainGlobals "truths_told" = some (some (.ref f8)))
    (l8 : K.lookup f8 = some ⟨oc8, od8, .func (PySem.W.fnOf "truths_told" "truths_told" (defArgs (top 25)) (defBody (top 25)) (defScope (top 25)) .none kV8 dc8 pm8 an8 cd8 ct8), sl8⟩)
    (c8 : PySem.W.codeIn K cd8 "truths_told" = true)
    (k8 : PySem.W.keepIn K (.ref f8) = true)
    (a9 : PySem.W.nsIn K mainGlobals "row_of" = some (some (.ref f9)))
    (l9 : K.lookup f9 = some ⟨oc9, od9, .func (PySem.W.fnOf "row_of" "row_of" (defArgs (top 26)) (defBody (top 26)) (defScope (top 26)) .none kV9 dc9 pm9 an9 cd9 ct9), sl9⟩)
    (c9 : PySem.W.codeIn K cd9 "row_of" = true)
    (k9 : PySem.W.keepIn K (.ref f9) = true)
    (a10 : PySem.W.nsIn K mainGlobals "dialect_in" = some (some (.ref f10)))
    (l10 : K.lookup f10 = some ⟨oc10, od10, .func (PySem.W.fnOf "dialect_in" "dialect_in" (defArgs (top 27)) (defBody (top 27)) (defScope (top 27)) .none kV10 dc10 pm10 an10 cd10 ct10), sl10⟩)
    (c10 : PySem.W.codeIn K cd10 "dialect_in" = true)
    (k10 : PySem.W.keepIn K (.ref f10) = true)
    (a11 : PySem.W.nsIn K mainGlobals "_law_cell_at" = some (some (.ref f11)))
    (l11 : K.lookup f11 = some ⟨oc11, od11, .func (PySem.W.fnOf "_law_cell_at" "_law_cell_at" (defArgs (top 29)) (defBody (top 29)) (defScope (top 29)) .none kV11 dc11 pm11 an11 cd11 ct11), sl11⟩)
    (c11 : PySem.W.codeIn K cd11 "_law_cell_at" = true)
    (k11 : PySem.W.keepIn K (.ref f11) = true)
    (a12 : PySem.W.nsIn K mainGlobals "_law_mixed" = some (some (.ref f12)))
    (l12 : K.lookup f12 = some ⟨oc12, od12, .func (PySem.W.fnOf "_law_mixed" "_law_mixed" (defArgs (top 30)) (defBody (top 30)) (defScope (top 30)) .none kV12 dc12 pm12 an12 cd12 ct12), sl12⟩)
    (c12 : PySem.W.codeIn K cd12 "_law_mixed" = true)
    (k12 : PySem.W.keepIn K (.ref f12) = true)
    (a13 : PySem.W.nsIn K mainGlobals "_law_number" = some (some (.ref f13)))
    (l13 : K.lookup f13 = some ⟨oc13, od13, .func (PySem.W.fnOf "_law_number" "_law_number" (defArgs (top 31)) (defBody (top 31)) (defScope (top 31)) .none kV13 dc13 pm13 an13 cd13 ct13), sl13⟩)
    (c13 : PySem.W.codeIn K cd13 "_law_number" = true)
    (k13 : PySem.W.keepIn K (.ref f13) = true)
    (a14 : PySem.W.nsIn K mainGlobals "_law_some" = some (some (.ref f14)))
    (l14 : K.lookup f14 = some ⟨oc14, od14, .func (PySem.W.fnOf "_law_some" "_law_some" (defArgs (top 32)) (defBody (top 32)) (defScope (top 32)) .none kV14 dc14 pm14 an14 cd14 ct14), sl14⟩)
    (c14 : PySem.W.codeIn K cd14 "_law_some" = true)
    (k14 : PySem.W.keepIn K (.ref f14) = true)
    (a15 : PySem.W.nsIn K mainGlobals "_law_menus" = some (some (.ref f15)))
    (l15 : K.lookup f15 = some ⟨oc15, od15, .func (PySem.W.fnOf "_law_menus" "_law_menus" (defArgs (top 33)) (defBody (top 33)) (defScope (top 33)) .none kV15 dc15 pm15 an15 cd15 ct15), sl15⟩)
    (c15 : PySem.W.codeIn K cd15 "_law_menus" = true)
    (k15 : PySem.W.keepIn K (.ref f15) = true)
    (a16 : PySem.W.nsIn K mainGlobals "_law_told" = some (some (.ref f16)))
    (l16 : K.lookup f16 = some ⟨oc16, od16, .func (PySem.W.fnOf "_law_told" "_law_told" (defArgs (top 34)) (defBody (top 34)) (defScope (top 34)) .none kV16 dc16 pm16 an16 cd16 ct16), sl16⟩)
    (c16 : PySem.W.codeIn K cd16 "_law_told" = true)
    (k16 : PySem.W.keepIn K (.ref f16) = true)
    (a17 : PySem.W.nsIn K mainGlobals "_law_made" = some (some (.ref f17)))
    (l17 : K.lookup f17 = some ⟨oc17, od17, .func (PySem.W.fnOf "_law_made" "_law_made" (defArgs (top 35)) (defBody (top 35)) (defScope (top 35)) .none kV17 dc17 pm17 an17 cd17 ct17), sl17⟩)
    (c17 : PySem.W.codeIn K cd17 "_law_made" = true)
    (k17 : PySem.W.keepIn K (.ref f17) = true)
    (a18 : PySem.W.nsIn K mainGlobals "_law_title" = some (some (.ref f18)))
    (l18 : K.lookup f18 = some ⟨oc18, od18, .func (PySem.W.fnOf "_law_title" "_law_title" (defArgs (top 36)) (defBody (top 36)) (defScope (top 36)) .none kV18 dc18 pm18 an18 cd18 ct18), sl18⟩)
    (c18 : PySem.W.codeIn K cd18 "_law_title" = true)
    (k18 : PySem.W.keepIn K (.ref f18) = true)
    (a19 : PySem.W.nsIn K mainGlobals "_law_row" = some (some (.ref f19)))
    (l19 : K.lookup f19 = some ⟨oc19, od19, .func (PySem.W.fnOf "_law_row" "_law_row" (defArgs (top 37)) (defBody (top 37)) (defScope (top 37)) .none kV19 dc19 pm19 an19 cd19 ct19), sl19⟩)
    (c19 : PySem.W.codeIn K cd19 "_law_row" = true)
    (k19 : PySem.W.keepIn K (.ref f19) = true)
    (a20 : PySem.W.nsIn K mainGlobals "_law_refused" = some (some (.ref f20)))
    (l20 : K.lookup f20 = some ⟨oc20, od20, .func (PySem.W.fnOf "_law_refused" "_law_refused" (defArgs (top 38)) (defBody (top 38)) (defScope (top 38)) .none kV20 dc20 pm20 an20 cd20 ct20), sl20⟩)
    (c20 : PySem.W.codeIn K cd20 "_law_refused" = true)
    (k20 : PySem.W.keepIn K (.ref f20) = true)
    (a21 : PySem.W.nsIn K mainGlobals "_law_right" = some (some (.ref f21)))
    (l21 : K.lookup f21 = some ⟨oc21, od21, .func (PySem.W.fnOf "_law_right" "_law_right" (defArgs (top 39)) (defBody (top 39)) (defScope (top 39)) .none kV21 dc21 pm21 an21 cd21 ct21), sl21⟩)
    (c21 : PySem.W.codeIn K cd21 "_law_right" = true)
    (k21 : PySem.W.keepIn K (.ref f21) = true)
    (a22 : PySem.W.nsIn K mainGlobals "law" = some (some (.ref f22)))
    (l22 : K.lookup f22 = some ⟨oc22, od22, .func (PySem.W.fnOf "law" "law" (defArgs (top 40)) (defBody (top 40)) (defScope (top 40)) .none kV22 dc22 pm22 an22 cd22 ct22), sl22⟩)
    (c22 : PySem.W.codeIn K cd22 "law" = true)
    (k22 : PySem.W.keepIn K (.ref f22) = true)
    (pg0 : PySem.W.plainGet K C0 Str.empty = true)
    (hd0 : PySem.W.hasDictIn K C0 = true)
    (po0 : PySem.W.plainOver K C0 = true)
    (sa0 : PySem.W.findIn K (.ref C0) "__setattr__" = some (some (.builtin "object.__setattr__")))
    (mk0 : PySem.W.makesIn K C0 = true)
    (kc0 : PySem.W.keepIn K (.ref C0) = true)
    (n0_0 : PySem.W.findIn K (.ref C0) "parts" = some none)
    (n0_1 : PySem.W.findIn K (.ref C0) "quotes" = some none)
    (n0_2 : PySem.W.findIn K (.ref C0) "frees" = some none)
    (n0_3 : PySem.W.findIn K (.ref C0) "twin" = some none)
    (n0_4 : PySem.W.findIn K (.ref C0) "wide" = some none)
    (n0_5 : PySem.W.findIn K (.ref C0) "thin" = some none)
    (n0_6 : PySem.W.findIn K (.ref C0) "stray" = some none)
    (ci0 : PySem.W.findIn K (.ref C0) "__init__" = some (some (.ref f1)))
    (xb1 : PySem.W.subIn K (.ref C1) (.type "BaseException") = some true)
    (xt1 : PySem.W.typeIn K (.ref C1) = some (.type "type"))
    (xg1 : PySem.W.findIn K (.ref C1) "__getattribute__" = some (some (.builtin "BaseException.__getattribute__")))
    (xz1 : PySem.W.findIn K (.ref C1) "__getattr__" = some none)
    (xh1 : PySem.W.hasDictIn K C1 = true)
    (xa1 : PySem.W.findIn K (.ref C1) "__class__" = some (some (.builtin "object.__class__")))
    (xm1 : PySem.W.mroIn K C1 (.type "object") = some true)
    (xv1 : PySem.W.subIn K (.ref C1) (.type "ValueError") = some true)
    (xb2 : PySem.W.subIn K (.ref C2) (.type "BaseException") = some true)
    (xt2 : PySem.W.typeIn K (.ref C2) = some (.type "type"))
    (xg2 : PySem.W.findIn K (.ref C2) "__getattribute__" = some (some (.builtin "BaseException.__getattribute__")))
    (xz2 : PySem.W.findIn K (.ref C2) "__getattr__" = some none)
    (xh2 : PySem.W.hasDictIn K C2 = true)
    (xa2 : PySem.W.findIn K (.ref C2) "__class__" = some (some (.builtin "object.__class__")))
    (xm2 : PySem.W.mroIn K C2 (.type "object") = some true)
    (xv2 : PySem.W.subIn K (.ref C2) (.type "ValueError") = some true)
    (xb3 : PySem.W.subIn K (.ref C3) (.type "BaseException") = some true)
    (xt3 : PySem.W.typeIn K (.ref C3) = some (.type "type"))
    (xg3 : PySem.W.findIn K (.ref C3) "__getattribute__" = some (some (.builtin "BaseException.__getattribute__")))
    (xz3 : PySem.W.findIn K (.ref C3) "__getattr__" = some none)
    (xh3 : PySem.W.hasDictIn K C3 = true)
    (xa3 : PySem.W.findIn K (.ref C3) "__class__" = some (some (.builtin "object.__class__")))
    (xm3 : PySem.W.mroIn K C3 (.type "object") = some true)
    (xv3 : PySem.W.subIn K (.ref C3) (.type "ValueError") = some true)
    (xe4 : PySem.W.excIn K C4 [.type "ValueError", .type "Exception", .type "BaseException", .type "object"] "ValueError.__new__" = true)
    (xk4 : PySem.W.keepIn K (.ref C4) = true)
    (xb4 : PySem.W.subIn K (.ref C4) (.type "BaseException") = some true)
    (xt4 : PySem.W.typeIn K (.ref C4) = some (.type "type"))
    (xg4 : PySem.W.findIn K (.ref C4) "__getattribute__" = some (some (.builtin "BaseException.__getattribute__")))
    (xz4 : PySem.W.findIn K (.ref C4) "__getattr__" = some none)
    (xh4 : PySem.W.hasDictIn K C4 = true)
    (xa4 : PySem.W.findIn K (.ref C4) "__class__" = some (some (.builtin "object.__class__")))
    (xm4 : PySem.W.mroIn K C4 (.type "object") = some true)
    (xv4 : PySem.W.subIn K (.ref C4) (.type "ValueError") = some true)
    (xe5 : PySem.W.excIn K C5 [.type "ValueError", .type "Exception", .type "BaseException", .type "object"] "ValueError.__new__" = true)
    (xk5 : PySem.W.keepIn K (.ref C5) = true)
    (xb5 : PySem.W.subIn K (.ref C5) (.type "BaseException") = some true)
    (xt5 : PySem.W.typeIn K (.ref C5) = some (.type "type"))
    (xg5 : PySem.W.findIn K (.ref C5) "__getattribute__" = some (some (.builtin "BaseException.__getattribute__")))
    (xz5 : PySem.W.findIn K (.ref C5) "__getattr__" = some none)
    (xh5 : PySem.W.hasDictIn K C5 = true)
    (xa5 : PySem.W.findIn K (.ref C5) "__class__" = some (some (.builtin "object.__class__")))
    (xm5 : PySem.W.mroIn K C5 (.type "object") = some true)
    (xv5 : PySem.W.subIn K (.ref C5) (.type "ValueError") = some true)
    (xk6 : PySem.W.keepIn K (.ref C6) = true)
    (xb6 : PySem.W.subIn K (.ref C6) (.type "BaseException") = some true)
    (xt6 : PySem.W.typeIn K (.ref C6) = some (.type "type"))
    (xl6 : K.lookup C6 = some ⟨.type "type", xdd6, .cls xcd6, xsl6⟩)
    (xo6 : oexB C6 xcd6 xsl6 = true)
    (xs6 : PySem.W.findIn K (.ref C6) "__setattr__" = some (some (.builtin "object.__setattr__")))
    (xi6 : PySem.W.findIn K (.ref C6) "__init__" = some (some (.ref xf6)))
    (xy6 : PySem.W.typeIn K (.ref xf6) = some (.type "function"))
    (xj6 : K.lookup xf6 = some ⟨xoc6, xod6, .func (PySem.W.fnOf "__init__" "NoName.__init__" (defArgs (inClass (top 7) 0)) (defBody (inClass (top 7) 0)) (defScope (inClass (top 7) 0)) .none xkV6 xdc6 xpm6 xan6 xcv6 xct6), xfl6⟩)
    (xc6 : PySem.W.codeIn K xcv6 "NoName.__init__" = true)
    (xp6 : PySem.W.keepIn K (.ref xf6) = true)
    (xn6_0 : PySem.W.findIn K (.ref C6) "name" = some none)
    (xg6 : PySem.W.findIn K (.ref C6) "__getattribute__" = some (some (.builtin "BaseException.__getattribute__")))
    (xz6 : PySem.W.findIn K (.ref C6) "__getattr__" = some none)
    (xh6 : PySem.W.hasDictIn K C6 = true)
    (xa6 : PySem.W.findIn K (.ref C6) "__class__" = some (some (.builtin "object.__class__")))
    (xm6 : PySem.W.mroIn K C6 (.type "object") = some true)
    (xv6 : PySem.W.subIn K (.ref C6) (.type "ValueError") = some true)
    (mf0_0 : PySem.W.findIn K (.ref C0) "told" = some (some (.ref f2)))
    (kt0_0 : PySem.W.subIn K (.type "NoneType") (.ref C0) = some false)
    (kt0_1 : PySem.W.subIn K (.type "bool") (.ref C0) = some false)
    (kt0_2 : PySem.W.subIn K (.type "int") (.ref C0) = some false)
    (kt0_3 : PySem.W.subIn K (.type "str") (.ref C0) = some false)
    (kt0_4 : PySem.W.subIn K (.type "list") (.ref C0) = some false)
    (kt0_5 : PySem.W.subIn K (.type "tuple") (.ref C0) = some false)
    (kt0_6 : PySem.W.subIn K (.type "dict") (.ref C0) = some false)
    (kk0_0 : PySem.W.subIn K (.ref C0) (.ref C0) = some true)
    (ke0_0 : (C0 == C0) = true)
    (kd0 : PySem.W.typeIn K (.ref C0) = some (.type "type"))
    (ia0 : PySem.W.findIn K (.ref C0) "__class__" = some (some (.builtin "object.__class__")))
    (im0 : PySem.W.mroIn K C0 (.type "object") = some true)
    (ix0 : PySem.W.specialIn K (.builtin "object.__class__") "__get__" = some (some (.builtin "getset_descriptor.__get__")))
    (ix1 : PySem.W.takesIn K (.builtin "object.__class__") = some true)
    (xd1_1 : (C1 == C1) = true)
    (xq1_1 : PySem.W.subIn K (.ref C1) (.ref C1) = some true)
    (xd2_1 : (C2 == C1) = false)
    (xq2_1 : PySem.W.subIn K (.ref C2) (.ref C1) = some true)
    (xd3_1 : (C3 == C1) = false)
    (xq3_1 : PySem.W.subIn K (.ref C3) (.ref C1) = some true)
    (xd4_1 : (C4 == C1) = false)
    (xq4_1 : PySem.W.subIn K (.ref C4) (.ref C1) = some true)
    (xd5_1 : (C5 == C1) = false)
    (xq5_1 : PySem.W.subIn K (.ref C5) (.ref C1) = some true)
    (xd6_1 : (C6 == C1) = false)
    (xq6_1 : PySem.W.subIn K (.ref C6) (.ref C1) = some true)
    (xd1_2 : (C1 == C2) = false)
    (xq1_2 : PySem.W.subIn K (.ref C1) (.ref C2) = some false)
    (xd2_2 : (C2 == C2) = true)
    (xq2_2 : PySem.W.subIn K (.ref C2) (.ref C2) = some true)
    (xd3_2 : (C3 == C2) = false)
    (xq3_2 : PySem.W.subIn K (.ref C3) (.ref C2) = some false)
    (xd4_2 : (C4 == C2) = false)
    (xq4_2 : PySem.W.subIn K (.ref C4) (.ref C2) = some false)
    (xd5_2 : (C5 == C2) = false)
    (xq5_2 : PySem.W.subIn K (.ref C5) (.ref C2) = some false)
    (xd6_2 : (C6 == C2) = false)
    (xq6_2 : PySem.W.subIn K (.ref C6) (.ref C2) = some false)
    (xd1_3 : (C1 == C3) = false)
    (xq1_3 : PySem.W.subIn K (.ref C1) (.ref C3) = some false)
    (xd2_3 : (C2 == C3) = false)
    (xq2_3 : PySem.W.subIn K (.ref C2) (.ref C3) = some false)
    (xd3_3 : (C3 == C3) = true)
    (xq3_3 : PySem.W.subIn K (.ref C3) (.ref C3) = some true)
    (xd4_3 : (C4 == C3) = false)
    (xq4_3 : PySem.W.subIn K (.ref C4) (.ref C3) = some false)
    (xd5_3 : (C5 == C3) = false)
    (xq5_3 : PySem.W.subIn K (.ref C5) (.ref C3) = some false)
    (xd6_3 : (C6 == C3) = false)
    (xq6_3 : PySem.W.subIn K (.ref C6) (.ref C3) = some false)
    (xd1_4 : (C1 == C4) = false)
    (xq1_4 : PySem.W.subIn K (.ref C1) (.ref C4) = some false)
    (xd2_4 : (C2 == C4) = false)
    (xq2_4 : PySem.W.subIn K (.ref C2) (.ref C4) = some false)
    (xd3_4 : (C3 == C4) = false)
    (xq3_4 : PySem.W.subIn K (.ref C3) (.ref C4) = some false)
    (xd4_4 : (C4 == C4) = true)
    (xq4_4 : PySem.W.subIn K (.ref C4) (.ref C4) = some true)
    (xd5_4 : (C5 == C4) = false)
    (xq5_4 : PySem.W.subIn K (.ref C5) (.ref C4) = some false)
    (xd6_4 : (C6 == C4) = false)
    (xq6_4 : PySem.W.subIn K (.ref C6) (.ref C4) = some false)
    (xd1_5 : (C1 == C5) = false)
    (xq1_5 : PySem.W.subIn K (.ref C1) (.ref C5) = some false)
    (xd2_5 : (C2 == C5) = false)
    (xq2_5 : PySem.W.subIn K (.ref C2) (.ref C5) = some false)
    (xd3_5 : (C3 == C5) = false)
    (xq3_5 : PySem.W.subIn K (.ref C3) (.ref C5) = some false)
    (xd4_5 : (C4 == C5) = false)
    (xq4_5 : PySem.W.subIn K (.ref C4) (.ref C5) = some false)
    (xd5_5 : (C5 == C5) = true)
    (xq5_5 : PySem.W.subIn K (.ref C5) (.ref C5) = some true)
    (xd6_5 : (C6 == C5) = false)
    (xq6_5 : PySem.W.subIn K (.ref C6) (.ref C5) = some false)
    (xd1_6 : (C1 == C6) = false)
    (xq1_6 : PySem.W.subIn K (.ref C1) (.ref C6) = some false)
    (xd2_6 : (C2 == C6) = false)
    (xq2_6 : PySem.W.subIn K (.ref C2) (.ref C6) = some false)
    (xd3_6 : (C3 == C6) = false)
    (xq3_6 : PySem.W.subIn K (.ref C3) (.ref C6) = some false)
    (xd4_6 : (C4 == C6) = false)
    (xq4_6 : PySem.W.subIn K (.ref C4) (.ref C6) = some false)
    (xd5_6 : (C5 == C6) = false)
    (xq5_6 : PySem.W.subIn K (.ref C5) (.ref C6) = some false)
    (xd6_6 : (C6 == C6) = true)
    (xq6_6 : PySem.W.subIn K (.ref C6) (.ref C6) = some true)
    (gg0 : PySem.W.nsIn K mainGlobals "LETTERS" = some (some (.str gs0 gt0)))
    (ge0 : (okS [97,98,99,100,101,102,103,104,105,106,107,108,109,110,111,112,113,114,115,116,117,118,119,120,121,122,65,66,67,68,69,70,71,72,73,74,75,76,77,78,79,80,81,82,83,84,85,86,87,88,89,90,48,49,50,51,52,53,54,55,56,57] && decide (mkS [97,98,99,100,101,102,103,104,105,106,107,108,109,110,111,112,113,114,115,116,117,118,119,120,121,122,65,66,67,68,69,70,71,72,73,74,75,76,77,78,79,80,81,82,83,84,85,86,87,88,89,90,48,49,50,51,52,53,54,55,56,57] = gs0)) = true)
    (gg1 : PySem.W.nsIn K mainGlobals "PRINTABLE" = some (some (.str gs1 gt1)))
    (ge1 : (okS [97,98,99,100,101,102,103,104,105,106,107,108,109,110,111,112,113,114,115,116,117,118,119,120,121,122,65,66,67,68,69,70,71,72,73,74,75,76,77,78,79,80,81,82,83,84,85,86,87,88,89,90,48,49,50,51,52,53,54,55,56,57,32,33,34,35,36,38,39,40,41,42,43,44,45,46,47,58,59,60,61,62,63,64,91,92,93,94,95,96,123,124,125,126] && decide (mkS [97,98,99,100,101,102,103,104,105,106,107,108,109,110,111,112,113,114,115,116,117,118,119,120,121,122,65,66,67,68,69,70,71,72,73,74,75,76,77,78,79,80,81,82,83,84,85,86,87,88,89,90,48,49,50,51,52,53,54,55,56,57,32,33,34,35,36,38,39,40,41,42,43,44,45,46,47,58,59,60,61,62,63,64,91,92,93,94,95,96,123,124,125,126] = gs1)) = true)
    (gg2 : PySem.W.nsIn K mainGlobals "MOST_PARTS" = some (some (.int 3 gt2)))
    (gg3 : PySem.W.nsIn K mainGlobals "MOST_QUOTES" = some (some (.int 2 gt3)))
    (gg4 : PySem.W.nsIn K mainGlobals "MOST_FREES" = some (some (.int 2 gt4)))
    (gg5 : PySem.W.nsIn K mainGlobals "SMALL" = some (some (.str gs5 gt5)))
    (ge5 : (okS [97,98,99,100,101,102,103,104,105,106,107,108,109,110,111,112,113,114,115,116,117,118,119,120,121,122] && decide (mkS [97,98,99,100,101,102,103,104,105,106,107,108,109,110,111,112,113,114,115,116,117,118,119,120,121,122] = gs5)) = true)
    (gg6 : PySem.W.nsIn K mainGlobals "LONGEST" = some (some (.int 8 gt6)))
    (gg7 : PySem.W.nsIn K mainGlobals "PRINTED" = some (some (.str gs7 gt7)))
    (ge7 : (okS [32,33,34,35,36,38,39,40,41,42,43,44,45,46,47,48,49,50,51,52,53,54,55,56,57,58,59,60,61,62,63,64,65,66,67,68,69,70,71,72,73,74,75,76,77,78,79,80,81,82,83,84,85,86,87,88,89,90,91,92,93,94,95,96,97,98,99,100,101,102,103,104,105,106,107,108,109,110,111,112,113,114,115,116,117,118,119,120,121,122,123,124,125,126] && decide (mkS [32,33,34,35,36,38,39,40,41,42,43,44,45,46,47,48,49,50,51,52,53,54,55,56,57,58,59,60,61,62,63,64,65,66,67,68,69,70,71,72,73,74,75,76,77,78,79,80,81,82,83,84,85,86,87,88,89,90,91,92,93,94,95,96,97,98,99,100,101,102,103,104,105,106,107,108,109,110,111,112,113,114,115,116,117,118,119,120,121,122,123,124,125,126] = gs7)) = true)
    (z0 : PySem.W.nsIn K mainGlobals "len" = some none)
    (z1 : PySem.W.nsIn K mainGlobals "sum" = some none)
    (z2 : PySem.W.nsIn K mainGlobals "all" = some none)
    (z3 : PySem.W.nsIn K mainGlobals "any" = some none)
    (z4 : PySem.W.nsIn K mainGlobals "max" = some none)
    (z5 : PySem.W.nsIn K mainGlobals "min" = some none)
    (z6 : PySem.W.nsIn K mainGlobals "int" = some none)
    (z7 : PySem.W.nsIn K mainGlobals "list" = some none)
    (z8 : PySem.W.nsIn K mainGlobals "tuple" = some none)
    (z9 : PySem.W.nsIn K mainGlobals "reversed" = some none)
    (z10 : PySem.W.nsIn K mainGlobals "isinstance" = some none)
    (z11 : PySem.W.nsIn K mainGlobals "str" = some none)
    (z12 : PySem.W.nsIn K mainGlobals "bool" = some none)
    (z13 : PySem.W.nsIn K mainGlobals "dict" = some none)
    (z14 : PySem.W.nsIn K mainGlobals "range" = some none)
    (z15 : PySem.W.nsIn K mainGlobals "zip" = some none)
    (z16 : PySem.W.nsIn K mainGlobals "enumerate" = some none)
    (z17 : PySem.W.nsIn K mainGlobals "set" = some none)
    (z18 : PySem.W.nsIn K mainGlobals "sorted" = some none)
    (z19 : PySem.W.nsIn K mainGlobals "divmod" = some none)
    (z20 : PySem.W.nsIn K mainGlobals "ord" = some none)
    (z21 : PySem.W.nsIn K mainGlobals "repr" = some none)
    (z22 : PySem.W.nsIn K mainGlobals "ValueError" = some none)
    : ∃ (fd : FuncData) (xc : Xc) (cl : Cls0), (∀ (s : Shared) (u : Value), BindsTo s fd ⟨[u], []⟩ [("_law_script", u)]) ∧
      ∀ base : Heap, K.In base → base.Ns mainGlobals mg → FnOk l.prog w K mg base (L2N.CX l.prog w) (2 * 20) fa fd ["_law_script"] (spD xc cl K 1 ((T.mn 20).fn 22)) := by
  have hf := hfa.symm.trans (PySem.W.mg_of X G a22)
  obtain rfl : f22 = fa := by (cases hf; rfl)
  let xc : Xc := fun c => match c with
    | 1 => some (C1, [])
    | 2 => some (C2, [])
    | 3 => some (C3, [])
    | 4 => some (C4, [])
    | 5 => some (C5, [])
    | 6 => some (C6, ["name"])
    | _ => none
  let cl : Cls0 := ⟨fun c => match c with
    | 0 => some (C0, ["parts", "quotes", "frees", "twin", "wide", "thin", "stray"])
    | _ => none, xc, fun k => k.hash w⟩
  obtain ⟨fd0, U0⟩ : ∃ fd, FunD K "check_role" "check_role" (defArgs (top 14)) (defBody (top 14)) (defScope (top 14)) [] [] f0 fd := ⟨_, fund_mk l0 c0 k0⟩
  have D0 := dfl_none (n := 3) (ps := ps0) rfl (U0.bindsN fun _ _ _ _ _ _ us hl => match us, hl with | [_, _, _], _ => rfl)
  have F0 : FactD g T cl avf avc avg avi K mg 0 d0 f0 fd0 ps0 := by
    refine ⟨_, _, _, N0, _, U0, look0, fun h => absurd h (by decide +kernel), D0, fun h => ?_, fun c m C ns h1 h2 => ?_, fun c C ns _ h1 h2 => ?_⟩
    · exact PySem.W.mg_of X G a0
    · have h1 : mtF c m = some 0 := h1
      exact absurd rfl ((by decide : ∀ x ∈ mtL, x.2.2 ≠ 0) _ (mt_mem h1))
    · have h1 : iniF c = some 0 := h1
      exact absurd rfl ((by decide : ∀ x ∈ iniL, x.2 ≠ 0) _ (ini_mem h1))
  obtain ⟨fd1, U1⟩ : ∃ fd, FunD K "__init__" "Dialect.__init__" (defArgs (inClass (top 15) 0)) (defBody (inClass (top 15) 0)) (defScope (inClass (top 15) 0)) ((dvF 1).map iV) [] f1 fd := ⟨_, fund_dv l1 ld1 (dvs := (dvF 1).map iV) (by simp [dvF]) le1 c1 k1⟩
  have D1 : Dfl K fd1 ps1 8 (dvF 1) := dfl_some rfl (by decide +kernel) fun j hj => by
    have hj : j ≤ 6 := hj
    match j, hj with
    | 0, _ => exact U1.binds1 2 0 (by simp [dvF]) rfl fun _ _ _ _ _ _ _ us its h1 h2 => match us, its, h1, h2 with | [_, _], [_, _, _, _, _, _], _, _ => ⟨_, rfl, rfl⟩
    | 1, _ => exact U1.binds1 3 1 (by simp [dvF]) rfl fun _ _ _ _ _ _ _ us its h1 h2 => match us, its, h1, h2 with | [_, _, _], [_, _, _, _, _, _], _, _ => ⟨_, rfl, rfl⟩
    | 2, _ => exact U1.binds1 4 2 (by simp [dvF]) rfl fun _ _ _ _ _ _ _ us its h1 h2 => match us, its, h1, h2 with | [_, _, _, _], [_, _, _, _, _, _], _, _ => ⟨_, rfl, rfl⟩
    | 3, _ => exact U1.binds1 5 3 (by simp [dvF]) rfl fun _ _ _ _ _ _ _ us its h1 h2 => match us, its, h1, h2 with | [_, _, _, _, _], [_, _, _, _, _, _], _, _ => ⟨_, rfl, rfl⟩
    | 4, _ => exact U1.binds1 6 4 (by simp [dvF]) rfl fun _ _ _ _ _ _ _ us its h1 h2 => match us, its, h1, h2 with | [_, _, _, _, _, _], [_, _, _, _, _, _], _, _ => ⟨_, rfl, rfl⟩
    | 5, _ => exact U1.binds1 7 5 (by simp [dvF]) rfl fun _ _ _ _ _ _ _ us its h1 h2 => match us, its, h1, h2 with | [_, _, _, _, _, _, _], [_, _, _, _, _, _], _, _ => ⟨_, rfl, rfl⟩
    | 6, _ => exact U1.binds1 8 6 (by simp [dvF]) rfl fun _ _ _ _ _ _ _ us its h1 h2 => match us, its, h1, h2 with | [_, _, _, _, _, _, _, _], [_, _, _, _, _, _], _, _ => ⟨_, rfl, rfl⟩
    | n + 7, hj => omega
  have Kw0 : Kws g T.kwp K 0 fd1 ps1 (T.dv 1) := fun w hw => absurd rfl hw
  have F1 : FactD g T cl avf avc avg avi K mg 1 d1 f1 fd1 ps1 := by
    refine ⟨_, _, _, N1, _, U1, look1, fun h => absurd h (by decide +kernel), D1, fun h => ?_, fun c m C ns h1 h2 => ?_, fun c C ns _ h1 h2 => ?_⟩
    · exact absurd h (by decide +kernel)
    · have h1 : mtF c m = some 1 := h1
      exact absurd rfl ((by decide : ∀ x ∈ mtL, x.2.2 ≠ 1) _ (mt_mem h1))
    · have h1 : iniF c = some 1 := h1
      rcases (show c = 0 from (by decide : ∀ x ∈ iniL, x.2 = 1 → x.1 = 0) _ (ini_mem h1) rfl) with rfl
      · cases h2; exact ⟨⟨mk0, ci0, i1, kc0⟩, Kw0⟩
  obtain ⟨fd2, U2⟩ : ∃ fd, FunD K "told" "Dialect.told" (defArgs (inClass (top 15) 1)) (defBody (inClass (top 15) 1)) (defScope (inClass (top 15) 1)) [] [] f2 fd := ⟨_, fund_mk l2 c2 k2⟩
  have D2 := dfl_none (n := 1) (ps := ps2) rfl (U2.bindsN fun _ _ _ _ _ _ us hl => match us, hl with | [_], _ => rfl)
  have F2 : FactD g T cl avf avc avg avi K mg 2 d2 f2 fd2 ps2 := by
    refine ⟨_, _, _, N2, _, U2, look2, fun h => absurd h (by decide +kernel), D2, fun h => ?_, fun c m C ns h1 h2 => ?_, fun c C ns _ h1 h2 => ?_⟩
    · exact absurd h (by decide +kernel)
    · have h1 : mtF c m = some 2 := h1
      rcases (show (c = 0 ∧ m = 0) from (by decide : ∀ x ∈ mtL, x.2.2 = 2 → (x.1 = 0 ∧ x.2.1 = 0)) _ (mt_mem h1) rfl) with ⟨rfl, rfl⟩
      · cases h2; exact ⟨⟨mf0_0, i2, k2⟩, by decide +kernel⟩
    · have h1 : iniF c = some 2 := h1
      exact absurd rfl ((by decide : ∀ x ∈ iniL, x.2 ≠ 2) _ (ini_mem h1))
  obtain ⟨fd3, U3⟩ : ∃ fd, FunD K "is_name" "is_name" (defArgs (top 20)) (defBody (top 20)) (defScope (top 20)) [] [] f3 fd := ⟨_, fund_mk l3 c3 k3⟩
  have D3 := dfl_none (n := 1) (ps := ps3) rfl (U3.bindsN fun _ _ _ _ _ _ us hl => match us, hl with | [_], _ => rfl)
  have F3 : FactD g T cl avf avc avg avi K mg 3 d3 f3 fd3 ps3 := by
    refine ⟨_, _, _, N3, _, U3, look3, fun h => absurd h (by decide +kernel), D3, fun h => ?_, fun c m C ns h1 h2 => ?_, fun c C ns _ h1 h2 => ?_⟩
    · exact PySem.W.mg_of X G a3
    · have h1 : mtF c m = some 3 := h1
      exact absurd rfl ((by decide : ∀ x ∈ mtL, x.2.2 ≠ 3) _ (mt_mem h1))
    · have h1 : iniF c = some 3 := h1
      exact absurd rfl ((by decide : ∀ x ∈ iniL, x.2 ≠ 3) _ (ini_mem h1))
  obtain ⟨fd4, U4⟩ : ∃ fd, FunD K "number_at" "number_at" (defArgs (top 21)) (defBody (top 21)) (defScope (top 21)) [] [] f4 fd := ⟨_, fund_mk l4 c4 k4⟩
  have D4 := dfl_none (n := 1) (ps := ps4) rfl (U4.bindsN fun _ _ _ _ _ _ us hl => match us, hl with | [_], _ => rfl)
  have F4 : FactD g T cl avf avc avg avi K mg 4 d4 f4 fd4 ps4 := by
    refine ⟨_, _, _, N4, _, U4, look4, fun h => absurd h (by decide +kernel), D4, fun h => ?_, fun c m C ns h1 h2 => ?_, fun c C ns _ h1 h2 => ?_⟩
    · exact PySem.W.mg_of X G a4
    · have h1 : mtF c m = some 4 := h1
      exact absurd rfl ((by decide : ∀ x ∈ mtL, x.2.2 ≠ 4) _ (mt_mem h1))
    · have h1 : iniF c = some 4 := h1
      exact absurd rfl ((by decide : ∀ x ∈ iniL, x.2 ≠ 4) _ (ini_mem h1))
  obtain ⟨fd5, U5⟩ : ∃ fd, FunD K "sign_of" "sign_of" (defArgs (top 22)) (defBody (top 22)) (defScope (top 22)) [] [] f5 fd := ⟨_, fund_mk l5 c5 k5⟩
  have D5 := dfl_none (n := 1) (ps := ps5) rfl (U5.bindsN fun _ _ _ _ _ _ us hl => match us, hl with | [_], _ => rfl)
  have F5 : FactD g T cl avf avc avg avi K mg 5 d5 f5 fd5 ps5 := by
    refine ⟨_, _, _, N5, _, U5, look5, fun h => absurd h (by decide +kernel), D5, fun h => ?_, fun c m C ns h1 h2 => ?_, fun c C ns _ h1 h2 => ?_⟩
    · exact PySem.W.mg_of X G a5
    · have h1 : mtF c m = some 5 := h1
      exact absurd rfl ((by decide : ∀ x ∈ mtL, x.2.2 ≠ 5) _ (mt_mem h1))
    · have h1 : iniF c = some 5 := h1
      exact absurd rfl ((by decide : ∀ x ∈ iniL, x.2 ≠ 5) _ (ini_mem h1))
  obtain ⟨fd6, U6⟩ : ∃ fd, FunD K "numbers_told" "numbers_told" (defArgs (top 23)) (defBody (top 23)) (defScope (top 23)) [] [] f6 fd := ⟨_, fund_mk l6 c6 k6⟩
  have D6 := dfl_none (n := 1) (ps := ps6) rfl (U6.bindsN fun _ _ _ _ _ _ us hl => match us, hl with | [_], _ => rfl)
  have F6 : FactD g T cl avf avc avg avi K mg 6 d6 f6 fd6 ps6 := by
    refine ⟨_, _, _, N6, _, U6, look6, fun h => absurd h (by decide +kernel), D6, fun h => ?_, fun c m C ns h1 h2 => ?_, fun c C ns _ h1 h2 => ?_⟩
    · exact PySem.W.mg_of X G a6
    · have h1 : mtF c m = some 6 := h1
      exact absurd rfl ((by decide : ∀ x ∈ mtL, x.2.2 ≠ 6) _ (mt_mem h1))
    · have h1 : iniF c = some 6 := h1
      exact absurd rfl ((by decide : ∀ x ∈ iniL, x.2 ≠ 6) _ (ini_mem h1))
  obtain ⟨fd7, U7⟩ : ∃ fd, FunD K "signs_told" "signs_told" (defArgs (top 24)) (defBody (top 24)) (defScope (top 24)) [] [] f7 fd := ⟨_, fund_mk l7 c7 k7⟩
  have D7 := dfl_none (n := 1) (ps := ps7) rfl (U7.bindsN fun _ _ _ _ _ _ us hl => match us, hl with | [_], _ => rfl)
  have F7 : FactD g T cl avf avc avg avi K mg 7 d7 f7 fd7 ps7 := by
    refine ⟨_, _, _, N7, _, U7, look7, fun h => absurd h (by decide +kernel), D7, fun h => ?_, fun c m C ns h1 h2 => ?_, fun c C ns _ h1 h2 => ?_⟩
    · exact PySem.W.mg_of X G a7
    · have h1 : mtF c m = some 7 := h1
      exact absurd rfl ((by decide : ∀ x ∈ mtL, x.2.2 ≠ 7) _ (mt_mem h1))
    · have h1 : iniF c = some 7 := h1
      exact absurd rfl ((by decide : ∀ x ∈ iniL, x.2 ≠ 7) _ (ini_mem h1))
  obtain ⟨fd8, U8⟩ : ∃ fd, FunD K "truths_told" "truths_told" (defArgs (top 25)) (defBody (top 25)) (defScope (top 25)) [] [] f8 fd := ⟨_, fund_mk l8 c8 k8⟩
  have D8 := dfl_none (n := 1) (ps := ps8) rfl (U8.bindsN fun _ _ _ _ _ _ us hl => match us, hl with | [_], _ => rfl)
  have F8 : FactD g T cl avf avc avg avi K mg 8 d8 f8 fd8 ps8 := by
    refine ⟨_, _, _, N8, _, U8, look8, fun h => absurd h (by decide +kernel), D8, fun h => ?_, fun c m C ns h1 h2 => ?_, fun c C ns _ h1 h2 => ?_⟩
    · exact PySem.W.mg_of X G a8
    · have h1 : mtF c m = some 8 := h1
      exact absurd rfl ((by decide : ∀ x ∈ mtL, x.2.2 ≠ 8) _ (mt_mem h1))
    · have h1 : iniF c = some 8 := h1
      exact absurd rfl ((by decide : ∀ x ∈ iniL, x.2 ≠ 8) _ (ini_mem h1))
  obtain ⟨fd9, U9⟩ : ∃ fd, FunD K "row_of" "row_of" (defArgs (top 26)) (defBody (top 26)) (defScope (top 26)) [] [] f9 fd := ⟨_, fund_mk l9 c9 k9⟩
  have D9 := dfl_none (n := 2) (ps := ps9) rfl (U9.bindsN fun _ _ _ _ _ _ us hl => match us, hl with | [_, _], _ => rfl)
  have F9 : FactD g T cl avf avc avg avi K mg 9 d9 f9 fd9 ps9 := by
    refine ⟨_, _, _, N9, _, U9, look9, fun h => absurd h (by decide +kernel), D9, fun h => ?_, fun c m C ns h1 h2 => ?_, fun c C ns _ h1 h2 => ?_⟩
    · exact PySem.W.mg_of X G a9
    · have h1 : mtF c m = some 9 := h1
      exact absurd rfl ((by decide : ∀ x ∈ mtL, x.2.2 ≠ 9) _ (mt_mem h1))
    · have h1 : iniF c = some 9 := h1
      exact absurd rfl ((by decide : ∀ x ∈ iniL, x.2 ≠ 9) _ (ini_mem h1))
  obtain ⟨fd10, U10⟩ : ∃ fd, FunD K "dialect_in" "dialect_in" (defArgs (top 27)) (defBody (top 27)) (defScope (top 27)) [] [] f10 fd := ⟨_, fund_mk l10 c10 k10⟩
  have D10 := dfl_none (n := 1) (ps := ps10) rfl (U10.bindsN fun _ _ _ _ _ _ us hl => match us, hl with | [_], _ => rfl)
  have F10 : FactD g T cl avf avc avg avi K mg 10 d10 f10 fd10 ps10 := by
    refine ⟨_, _, _, N10, _, U10, look10, fun h => absurd h (by decide +kernel), D10, fun h => ?_, fun c m C ns h1 h2 => ?_, fun c C ns _ h1 h2 => ?_⟩
    · exact PySem.W.mg_of X G a10
    · have h1 : mtF c m = some 10 := h1
      exact absurd rfl ((by decide : ∀ x ∈ mtL, x.2.2 ≠ 10) _ (mt_mem h1))
    · have h1 : iniF c = some 10 := h1
      exact absurd rfl ((by decide : ∀ x ∈ iniL, x.2 ≠ 10) _ (ini_mem h1))
  obtain ⟨fd11, U11⟩ : ∃ fd, FunD K "_law_cell_at" "_law_cell_at" (defArgs (top 29)) (defBody (top 29)) (defScope (top 29)) [] [] f11 fd := ⟨_, fund_mk l11 c11 k11⟩
  have D11 := dfl_none (n := 2) (ps := ps11) rfl (U11.bindsN fun _ _ _ _ _ _ us hl => match us, hl with | [_, _], _ => rfl)
  have F11 : FactD g T cl avf avc avg avi K mg 11 d11 f11 fd11 ps11 := by
    refine ⟨_, _, _, N11, _, U11, look11, fun h => absurd h (by decide +kernel), D11, fun h => ?_, fun c m C ns h1 h2 => ?_, fun c C ns _ h1 h2 => ?_⟩
    · exact PySem.W.mg_of X G a11
    · have h1 : mtF c m = some 11 := h1
      exact absurd rfl ((by decide : ∀ x ∈ mtL, x.2.2 ≠ 11) _ (mt_mem h1))
    · have h1 : iniF c = some 11 := h1
      exact absurd rfl ((by decide : ∀ x ∈ iniL, x.2 ≠ 11) _ (ini_mem h1))
  obtain ⟨fd12, U12⟩ : ∃ fd, FunD K "_law_mixed" "_law_mixed" (defArgs (top 30)) (defBody (top 30)) (defScope (top 30)) [] [] f12 fd := ⟨_, fund_mk l12 c12 k12⟩
  have D12 := dfl_none (n := 2) (ps := ps12) rfl (U12.bindsN fun _ _ _ _ _ _ us hl => match us, hl with | [_, _], _ => rfl)
  have F12 : FactD g T cl avf avc avg avi K mg 12 d12 f12 fd12 ps12 := by
    refine ⟨_, _, _, N12, _, U12, look12, fun h => absurd h (by decide +kernel), D12, fun h => ?_, fun c m C ns h1 h2 => ?_, fun c C ns _ h1 h2 => ?_⟩
    · exact PySem.W.mg_of X G a12
    · have h1 : mtF c m = some 12 := h1
      exact absurd rfl ((by decide : ∀ x ∈ mtL, x.2.2 ≠ 12) _ (mt_mem h1))
    · have h1 : iniF c = some 12 := h1
      exact absurd rfl ((by decide : ∀ x ∈ iniL, x.2 ≠ 12) _ (ini_mem h1))
  obtain ⟨fd13, U13⟩ : ∃ fd, FunD K "_law_number" "_law_number" (defArgs (top 31)) (defBody (top 31)) (defScope (top 31)) [] [] f13 fd := ⟨_, fund_mk l13 c13 k13⟩
  have D13 := dfl_none (n := 2) (ps := ps13) rfl (U13.bindsN fun _ _ _ _ _ _ us hl => match us, hl with | [_, _], _ => rfl)
  have F13 : FactD g T cl avf avc avg avi K mg 13 d13 f13 fd13 ps13 := by
    refine ⟨_, _, _, N13, _, U13, look13, fun h => absurd h (by decide +kernel), D13, fun h => ?_, fun c m C ns h1 h2 => ?_, fun c C ns _ h1 h2 => ?_⟩
    · exact PySem.W.mg_of X G a13
    · have h1 : mtF c m = some 13 := h1
      exact absurd rfl ((by decide : ∀ x ∈ mtL, x.2.2 ≠ 13) _ (mt_mem h1))
    · have h1 : iniF c = some 13 := h1
      exact absurd rfl ((by decide : ∀ x ∈ iniL, x.2 ≠ 13) _ (ini_mem h1))
  obtain ⟨fd14, U14⟩ : ∃ fd, FunD K "_law_some" "_law_some" (defArgs (top 32)) (defBody (top 32)) (defScope (top 32)) [] [] f14 fd := ⟨_, fund_mk l14 c14 k14⟩
  have D14 := dfl_none (n := 3) (ps := ps14) rfl (U14.bindsN fun _ _ _ _ _ _ us hl => match us, hl with | [_, _, _], _ => rfl)
  have F14 : FactD g T cl avf avc avg avi K mg 14 d14 f14 fd14 ps14 := by
    refine ⟨_, _, _, N14, _, U14, look14, fun h => absurd h (by decide +kernel), D14, fun h => ?_, fun c m C ns h1 h2 => ?_, fun c C ns _ h1 h2 => ?_⟩
    · exact PySem.W.mg_of X G a14
    · have h1 : mtF c m = some 14 := h1
      exact absurd rfl ((by decide : ∀ x ∈ mtL, x.2.2 ≠ 14) _ (mt_mem h1))
    · have h1 : iniF c = some 14 := h1
      exact absurd rfl ((by decide : ∀ x ∈ iniL, x.2 ≠ 14) _ (ini_mem h1))
  obtain ⟨fd15, U15⟩ : ∃ fd, FunD K "_law_menus" "_law_menus" (defArgs (top 33)) (defBody (top 33)) (defScope (top 33)) [] [] f15 fd := ⟨_, fund_mk l15 c15 k15⟩
  have D15 := dfl_none (n := 1) (ps := ps15) rfl (U15.bindsN fun _ _ _ _ _ _ us hl => match us, hl with | [_], _ => rfl)
  have F15 : FactD g T cl avf avc avg avi K mg 15 d15 f15 fd15 ps15 := by
    refine ⟨_, _, _, N15, _, U15, look15, fun h => absurd h (by decide +kernel), D15, fun h => ?_, fun c m C ns h1 h2 => ?_, fun c C ns _ h1 h2 => ?_⟩
    · exact PySem.W.mg_of X G a15
    · have h1 : mtF c m = some 15 := h1
      exact absurd rfl ((by decide : ∀ x ∈ mtL, x.2.2 ≠ 15) _ (mt_mem h1))
    · have h1 : iniF c = some 15 := h1
      exact absurd rfl ((by decide : ∀ x ∈ iniL, x.2 ≠ 15) _ (ini_mem h1))
  obtain ⟨fd16, U16⟩ : ∃ fd, FunD K "_law_told" "_law_told" (defArgs (top 34)) (defBody (top 34)) (defScope (top 34)) [] [] f16 fd := ⟨_, fund_mk l16 c16 k16⟩
  have D16 := dfl_none (n := 1) (ps := ps16) rfl (U16.bindsN fun _ _ _ _ _ _ us hl => match us, hl with | [_], _ => rfl)
  have F16 : FactD g T cl avf avc avg avi K mg 16 d16 f16 fd16 ps16 := by
    refine ⟨_, _, _, N16, _, U16, look16, fun h => absurd h (by decide +kernel), D16, fun h => ?_, fun c m C ns h1 h2 => ?_, fun c C ns _ h1 h2 => ?_⟩
    · exact PySem.W.mg_of X G a16
    · have h1 : mtF c m = some 16 := h1
      exact absurd rfl ((by decide : ∀ x ∈ mtL, x.2.2 ≠ 16) _ (mt_mem h1))
    · have h1 : iniF c = some 16 := h1
      exact absurd rfl ((by decide : ∀ x ∈ iniL, x.2 ≠ 16) _ (ini_mem h1))
  obtain ⟨fd17, U17⟩ : ∃ fd, FunD K "_law_made" "_law_made" (defArgs (top 35)) (defBody (top 35)) (defScope (top 35)) [] [] f17 fd := ⟨_, fund_mk l17 c17 k17⟩
  have D17 := dfl_none (n := 1) (ps := ps17) rfl (U17.bindsN fun _ _ _ _ _ _ us hl => match us, hl with | [_], _ => rfl)
  have F17 : FactD g T cl avf avc avg avi K mg 17 d17 f17 fd17 ps17 := by
    refine ⟨_, _, _, N17, _, U17, look17, fun h => absurd h (by decide +kernel), D17, fun h => ?_, fun c m C ns h1 h2 => ?_, fun c C ns _ h1 h2 => ?_⟩
    · exact PySem.W.mg_of X G a17
    · have h1 : mtF c m = some 17 := h1
      exact absurd rfl ((by decide : ∀ x ∈ mtL, x.2.2 ≠ 17) _ (mt_mem h1))
    · have h1 : iniF c = some 17 := h1
      exact absurd rfl ((by decide : ∀ x ∈ iniL, x.2 ≠ 17) _ (ini_mem h1))
  obtain ⟨fd18, U18⟩ : ∃ fd, FunD K "_law_title" "_law_title" (defArgs (top 36)) (defBody (top 36)) (defScope (top 36)) [] [] f18 fd := ⟨_, fund_mk l18 c18 k18⟩
  have D18 := dfl_none (n := 1) (ps := ps18) rfl (U18.bindsN fun _ _ _ _ _ _ us hl => match us, hl with | [_], _ => rfl)
  have F18 : FactD g T cl avf avc avg avi K mg 18 d18 f18 fd18 ps18 := by
    refine ⟨_, _, _, N18, _, U18, look18, fun h => absurd h (by decide +kernel), D18, fun h => ?_, fun c m C ns h1 h2 => ?_, fun c C ns _ h1 h2 => ?_⟩
    · exact PySem.W.mg_of X G a18
    · have h1 : mtF c m = some 18 := h1
      exact absurd rfl ((by decide : ∀ x ∈ mtL, x.2.2 ≠ 18) _ (mt_mem h1))
    · have h1 : iniF c = some 18 := h1
      exact absurd rfl ((by decide : ∀ x ∈ iniL, x.2 ≠ 18) _ (ini_mem h1))
  obtain ⟨fd19, U19⟩ : ∃ fd, FunD K "_law_row" "_law_row" (defArgs (top 37)) (defBody (top 37)) (defScope (top 37)) [] [] f19 fd := ⟨_, fund_mk l19 c19 k19⟩
  have D19 := dfl_none (n := 2) (ps := ps19) rfl (U19.bindsN fun _ _ _ _ _ _ us hl => match us, hl with | [_, _], _ => rfl)
  have F19 : FactD g T cl avf avc avg avi K mg 19 d19 f19 fd19 ps19 := by
    refine ⟨_, _, _, N19, _, U19, look19, fun h => absurd h (by decide +kernel), D19, fun h => ?_, fun c m C ns h1 h2 => ?_, fun c C ns _ h1 h2 => ?_⟩
    · exact PySem.W.mg_of X G a19
    · have h1 : mtF c m = some 19 := h1
      exact absurd rfl ((by decide : ∀ x ∈ mtL, x.2.2 ≠ 19) _ (mt_mem h1))
    · have h1 : iniF c = some 19 := h1
      exact absurd rfl ((by decide : ∀ x ∈ iniL, x.2 ≠ 19) _ (ini_mem h1))
  obtain ⟨fd20, U20⟩ : ∃ fd, FunD K "_law_refused" "_law_refused" (defArgs (top 38)) (defBody (top 38)) (defScope (top 38)) [] [] f20 fd := ⟨_, fund_mk l20 c20 k20⟩
  have D20 := dfl_none (n := 2) (ps := ps20) rfl (U20.bindsN fun _ _ _ _ _ _ us hl => match us, hl with | [_, _], _ => rfl)
  have F20 : FactD g T cl avf avc avg avi K mg 20 d20 f20 fd20 ps20 := by
    refine ⟨_, _, _, N20, _, U20, look20, fun h => absurd h (by decide +kernel), D20, fun h => ?_, fun c m C ns h1 h2 => ?_, fun c C ns _ h1 h2 => ?_⟩
    · exact PySem.W.mg_of X G a20
    · have h1 : mtF c m = some 20 := h1
      exact absurd rfl ((by decide : ∀ x ∈ mtL, x.2.2 ≠ 20) _ (mt_mem h1))
    · have h1 : iniF c = some 20 := h1
      exact absurd rfl ((by decide : ∀ x ∈ iniL, x.2 ≠ 20) _ (ini_mem h1))
  obtain ⟨fd21, U21⟩ : ∃ fd, FunD K "_law_right" "_law_right" (defArgs (top 39)) (defBody (top 39)) (defScope (top 39)) [] [] f21 fd := ⟨_, fund_mk l21 c21 k21⟩
  have D21 := dfl_none (n := 2) (ps := ps21) rfl (U21.bindsN fun _ _ _ _ _ _ us hl => match us, hl with | [_, _], _ => rfl)
  have F21 : FactD g T cl avf avc avg avi K mg 21 d21 f21 fd21 ps21 := by
    refine ⟨_, _, _, N21, _, U21, look21, fun h => absurd h (by decide +kernel), D21, fun h => ?_, fun c m C ns h1 h2 => ?_, fun c C ns _ h1 h2 => ?_⟩
    · exact PySem.W.mg_of X G a21
    · have h1 : mtF c m = some 21 := h1
      exact absurd rfl ((by decide : ∀ x ∈ mtL, x.2.2 ≠ 21) _ (mt_mem h1))
    · have h1 : iniF c = some 21 := h1
      exact absurd rfl ((by decide : ∀ x ∈ iniL, x.2 ≠ 21) _ (ini_mem h1))
  obtain ⟨fd22, U22⟩ : ∃ fd, FunD K "law" "law" (defArgs (top 40)) (defBody (top 40)) (defScope (top 40)) [] [] f22 fd := ⟨_, fund_mk l22 c22 k22⟩
  have D22 := dfl_none (n := 1) (ps := ps22) rfl (U22.bindsN fun _ _ _ _ _ _ us hl => match us, hl with | [_], _ => rfl)
  have F22 : FactD g T cl avf avc avg avi K mg 22 d22 f22 fd22 ps22 := by
    refine ⟨_, _, _, N22, _, U22, look22, fun h => absurd h (by decide +kernel), D22, fun h => ?_, fun c m C ns h1 h2 => ?_, fun c C ns _ h1 h2 => ?_⟩
    · exact PySem.W.mg_of X G a22
    · have h1 : mtF c m = some 22 := h1
      exact absurd rfl ((by decide : ∀ x ∈ mtL, x.2.2 ≠ 22) _ (mt_mem h1))
    · have h1 : iniF c = some 22 := h1
      exact absurd rfl ((by decide : ∀ x ∈ iniL, x.2 ≠ 22) _ (ini_mem h1))
  have Ux6 : FunD K "__init__" "NoName.__init__" (defArgs (inClass (top 7) 0)) (defBody (inClass (top 7) 0)) (defScope (inClass (top 7) 0)) [] [] xf6 _ := fund_mk xj6 xc6 xp6
  have Bx6 := Ux6.bindsN (ps := Nx6) fun _ _ _ _ _ _ us hl => match us, hl with | [_, _], _ => rfl
  have B : ∀ x ∈ bltN, mg x = none := by
    intro x hx
    simp only [bltN, List.mem_cons, List.not_mem_nil, or_false] at hx
    rcases hx with rfl | rfl | rfl | rfl | rfl | rfl | rfl | rfl | rfl | rfl | rfl | rfl | rfl | rfl | rfl | rfl | rfl | rfl | rfl | rfl | rfl | rfl | rfl
    · exact PySem.W.mg_none_of X G z0
    · exact PySem.W.mg_none_of X G z1
    · exact PySem.W.mg_none_of X G z2
    · exact PySem.W.mg_none_of X G z3
    · exact PySem.W.mg_none_of X G z4
    · exact PySem.W.mg_none_of X G z5
    · exact PySem.W.mg_none_of X G z6
    · exact PySem.W.mg_none_of X G z7
    · exact PySem.W.mg_none_of X G z8
    · exact PySem.W.mg_none_of X G z9
    · exact PySem.W.mg_none_of X G z10
    · exact PySem.W.mg_none_of X G z11
    · exact PySem.W.mg_none_of X G z12
    · exact PySem.W.mg_none_of X G z13
    · exact PySem.W.mg_none_of X G z14
    · exact PySem.W.mg_none_of X G z15
    · exact PySem.W.mg_none_of X G z16
    · exact PySem.W.mg_none_of X G z17
    · exact PySem.W.mg_none_of X G z18
    · exact PySem.W.mg_none_of X G z19
    · exact PySem.W.mg_none_of X G z20
    · exact PySem.W.mg_none_of X G z21
    · exact PySem.W.mg_none_of X G z22
  have A : Facts g T cl avf avc avg avi K mg xc := by
    refine { hxc := rfl, hnd := fun c hc => ?_, xfs := fun c C ns hc hn => ?_, isx := fun c c2 b C2 ns h hc => ?_, isw := fun c2 b C2 ns h hc => ?_, hht := fun n hn => ?_, blt := B, glo := fun n hn => ?_, defs := fun n d hd => ?_, cls := fun c C ns hc => ?_, mak := fun c hc => ?_, ubs := fun c m n h => ?_, isn := fun c b h => ?_, isi := fun c c2 b C2 ns h hc => ?_, xks := fun c n h => ?_, hav := fun n hn => ?_, hac := fun c hc => ?_, hai := fun c hc => ?_ }
    · have q : [1, 2, 3, 4, 5, 6].contains c = true := hc
      simp only [List.contains_cons, List.contains_nil, Bool.or_eq_true, beq_iff_eq, Bool.or_false, Bool.false_eq_true, or_false] at q
      rcases q with rfl | rfl | rfl | rfl | rfl | rfl
      · exact ⟨C1, PySem.W.mg_of X G aC1⟩
      · exact ⟨C2, PySem.W.mg_of X G aC2⟩
      · exact ⟨C3, PySem.W.mg_of X G aC3⟩
      · exact ⟨C4, PySem.W.mg_of X G aC4⟩
      · exact ⟨C5, PySem.W.mg_of X G aC5⟩
      · exact ⟨C6, PySem.W.mg_of X G aC6⟩
    · have hn : flF c ≠ [] := hn
      match c, hc, hn with
      | 0, hc, _ => cases hc
      | 1, _, hn => exact absurd rfl hn
      | 2, _, hn => exact absurd rfl hn
      | 3, _, hn => exact absurd rfl hn
      | 4, _, hn => exact absurd rfl hn
      | 5, _, hn => exact absurd rfl hn
      | 6, hc, _ =>
        cases hc
        refine ⟨rfl, by decide +kernel, ⟨xg6, xz6, xb6, xh6⟩, fun x hx => ?_⟩
        simp only [List.mem_cons, List.not_mem_nil, or_false] at hx
        rcases hx with rfl
        · exact xn6_0
      | n + 7, hc, _ => cases hc
    · have h := tabF_mem (l := iskL) (show tabF iskL (some c2) c = some b from h)
      simp only [iskL, List.mem_cons, List.not_mem_nil, or_false, Prod.mk.injEq, Option.some.injEq, reduceCtorEq, false_and, false_or, true_and] at h
      rcases h with ⟨rfl, rfl, rfl⟩ | ⟨rfl, rfl, rfl⟩ | ⟨rfl, rfl, rfl⟩ | ⟨rfl, rfl, rfl⟩ | ⟨rfl, rfl, rfl⟩ | ⟨rfl, rfl, rfl⟩ | ⟨rfl, rfl, rfl⟩ | ⟨rfl, rfl, rfl⟩ | ⟨rfl, rfl, rfl⟩ | ⟨rfl, rfl, rfl⟩ | ⟨rfl, rfl, rfl⟩ | ⟨rfl, rfl, rfl⟩ | ⟨rfl, rfl, rfl⟩ | ⟨rfl, rfl, rfl⟩ | ⟨rfl, rfl, rfl⟩ | ⟨rfl, rfl, rfl⟩ | ⟨rfl, rfl, rfl⟩ | ⟨rfl, rfl, rfl⟩ | ⟨rfl, rfl, rfl⟩ | ⟨rfl, rfl, rfl⟩ | ⟨rfl, rfl, rfl⟩ | ⟨rfl, rfl, rfl⟩ | ⟨rfl, rfl, rfl⟩ | ⟨rfl, rfl, rfl⟩ | ⟨rfl, rfl, rfl⟩ | ⟨rfl, rfl, rfl⟩ | ⟨rfl, rfl, rfl⟩ | ⟨rfl, rfl, rfl⟩ | ⟨rfl, rfl, rfl⟩ | ⟨rfl, rfl, rfl⟩ | ⟨rfl, rfl, rfl⟩ | ⟨rfl, rfl, rfl⟩ | ⟨rfl, rfl, rfl⟩ | ⟨rfl, rfl, rfl⟩ | ⟨rfl, rfl, rfl⟩ | ⟨rfl, rfl, rfl⟩ | ⟨rfl, rfl, rfl⟩
      · cases hc
      · cases hc; exact ⟨⟨xg1, xz1, xb1, xh1, xa1, ix0, ix1, xm1⟩, C1, PySem.W.mg_of X G aC1, kit_cls2 xh1 xt1 xq1_1 xd1_1 (by decide), PySem.W.exm_ref xb1 xh1 xt1 xq1_1⟩
      · cases hc; exact ⟨⟨xg2, xz2, xb2, xh2, xa2, ix0, ix1, xm2⟩, C1, PySem.W.mg_of X G aC1, kit_cls2 xh1 xt1 xq2_1 xd2_1 (by decide), PySem.W.exm_ref xb1 xh1 xt1 xq2_1⟩
      · cases hc; exact ⟨⟨xg3, xz3, xb3, xh3, xa3, ix0, ix1, xm3⟩, C1, PySem.W.mg_of X G aC1, kit_cls2 xh1 xt1 xq3_1 xd3_1 (by decide), PySem.W.exm_ref xb1 xh1 xt1 xq3_1⟩
      · cases hc; exact ⟨⟨xg4, xz4, xb4, xh4, xa4, ix0, ix1, xm4⟩, C1, PySem.W.mg_of X G aC1, kit_cls2 xh1 xt1 xq4_1 xd4_1 (by decide), PySem.W.exm_ref xb1 xh1 xt1 xq4_1⟩
      · cases hc; exact ⟨⟨xg5, xz5, xb5, xh5, xa5, ix0, ix1, xm5⟩, C1, PySem.W.mg_of X G aC1, kit_cls2 xh1 xt1 xq5_1 xd5_1 (by decide), PySem.W.exm_ref xb1 xh1 xt1 xq5_1⟩
      · cases hc; exact ⟨⟨xg6, xz6, xb6, xh6, xa6, ix0, ix1, xm6⟩, C1, PySem.W.mg_of X G aC1, kit_cls2 xh1 xt1 xq6_1 xd6_1 (by decide), PySem.W.exm_ref xb1 xh1 xt1 xq6_1⟩
      · cases hc; exact ⟨⟨xg1, xz1, xb1, xh1, xa1, ix0, ix1, xm1⟩, C2, PySem.W.mg_of X G aC2, kit_cls2 xh2 xt2 xq1_2 xd1_2 (by decide), PySem.W.exm_ref xb2 xh2 xt2 xq1_2⟩
      · cases hc; exact ⟨⟨xg2, xz2, xb2, xh2, xa2, ix0, ix1, xm2⟩, C2, PySem.W.mg_of X G aC2, kit_cls2 xh2 xt2 xq2_2 xd2_2 (by decide), PySem.W.exm_ref xb2 xh2 xt2 xq2_2⟩
      · cases hc; exact ⟨⟨xg3, xz3, xb3, xh3, xa3, ix0, ix1, xm3⟩, C2, PySem.W.mg_of X G aC2, kit_cls2 xh2 xt2 xq3_2 xd3_2 (by decide), PySem.W.exm_ref xb2 xh2 xt2 xq3_2⟩
      · cases hc; exact ⟨⟨xg4, xz4, xb4, xh4, xa4, ix0, ix1, xm4⟩, C2, PySem.W.mg_of X G aC2, kit_cls2 xh2 xt2 xq4_2 xd4_2 (by decide), PySem.W.exm_ref xb2 xh2 xt2 xq4_2⟩
      · cases hc; exact ⟨⟨xg5, xz5, xb5, xh5, xa5, ix0, ix1, xm5⟩, C2, PySem.W.mg_of X G aC2, kit_cls2 xh2 xt2 xq5_2 xd5_2 (by decide), PySem.W.exm_ref xb2 xh2 xt2 xq5_2⟩
      · cases hc; exact ⟨⟨xg6, xz6, xb6, xh6, xa6, ix0, ix1, xm6⟩, C2, PySem.W.mg_of X G aC2, kit_cls2 xh2 xt2 xq6_2 xd6_2 (by decide), PySem.W.exm_ref xb2 xh2 xt2 xq6_2⟩
      · cases hc; exact ⟨⟨xg1, xz1, xb1, xh1, xa1, ix0, ix1, xm1⟩, C3, PySem.W.mg_of X G aC3, kit_cls2 xh3 xt3 xq1_3 xd1_3 (by decide), PySem.W.exm_ref xb3 xh3 xt3 xq1_3⟩
      · cases hc; exact ⟨⟨xg2, xz2, xb2, xh2, xa2, ix0, ix1, xm2⟩, C3, PySem.W.mg_of X G aC3, kit_cls2 xh3 xt3 xq2_3 xd2_3 (by decide), PySem.W.exm_ref xb3 xh3 xt3 xq2_3⟩
      · cases hc; exact ⟨⟨xg3, xz3, xb3, xh3, xa3, ix0, ix1, xm3⟩, C3, PySem.W.mg_of X G aC3, kit_cls2 xh3 xt3 xq3_3 xd3_3 (by decide), PySem.W.exm_ref xb3 xh3 xt3 xq3_3⟩
      · cases hc; exact ⟨⟨xg4, xz4, xb4, xh4, xa4, ix0, ix1, xm4⟩, C3, PySem.W.mg_of X G aC3, kit_cls2 xh3 xt3 xq4_3 xd4_3 (by decide), PySem.W.exm_ref xb3 xh3 xt3 xq4_3⟩
      · cases hc; exact ⟨⟨xg5, xz5, xb5, xh5, xa5, ix0, ix1, xm5⟩, C3, PySem.W.mg_of X G aC3, kit_cls2 xh3 xt3 xq5_3 xd5_3 (by decide), PySem.W.exm_ref xb3 xh3 xt3 xq5_3⟩
      · cases hc; exact ⟨⟨xg6, xz6, xb6, xh6, xa6, ix0, ix1, xm6⟩, C3, PySem.W.mg_of X G aC3, kit_cls2 xh3 xt3 xq6_3 xd6_3 (by decide), PySem.W.exm_ref xb3 xh3 xt3 xq6_3⟩
      · cases hc; exact ⟨⟨xg1, xz1, xb1, xh1, xa1, ix0, ix1, xm1⟩, C4, PySem.W.mg_of X G aC4, kit_cls2 xh4 xt4 xq1_4 xd1_4 (by decide), PySem.W.exm_ref xb4 xh4 xt4 xq1_4⟩
      · cases hc; exact ⟨⟨xg2, xz2, xb2, xh2, xa2, ix0, ix1, xm2⟩, C4, PySem.W.mg_of X G aC4, kit_cls2 xh4 xt4 xq2_4 xd2_4 (by decide), PySem.W.exm_ref xb4 xh4 xt4 xq2_4⟩
      · cases hc; exact ⟨⟨xg3, xz3, xb3, xh3, xa3, ix0, ix1, xm3⟩, C4, PySem.W.mg_of X G aC4, kit_cls2 xh4 xt4 xq3_4 xd3_4 (by decide), PySem.W.exm_ref xb4 xh4 xt4 xq3_4⟩
      · cases hc; exact ⟨⟨xg4, xz4, xb4, xh4, xa4, ix0, ix1, xm4⟩, C4, PySem.W.mg_of X G aC4, kit_cls2 xh4 xt4 xq4_4 xd4_4 (by decide), PySem.W.exm_ref xb4 xh4 xt4 xq4_4⟩
      · cases hc; exact ⟨⟨xg5, xz5, xb5, xh5, xa5, ix0, ix1, xm5⟩, C4, PySem.W.mg_of X G aC4, kit_cls2 xh4 xt4 xq5_4 xd5_4 (by decide), PySem.W.exm_ref xb4 xh4 xt4 xq5_4⟩
      · cases hc; exact ⟨⟨xg6, xz6, xb6, xh6, xa6, ix0, ix1, xm6⟩, C4, PySem.W.mg_of X G aC4, kit_cls2 xh4 xt4 xq6_4 xd6_4 (by decide), PySem.W.exm_ref xb4 xh4 xt4 xq6_4⟩
      · cases hc; exact ⟨⟨xg1, xz1, xb1, xh1, xa1, ix0, ix1, xm1⟩, C5, PySem.W.mg_of X G aC5, kit_cls2 xh5 xt5 xq1_5 xd1_5 (by decide), PySem.W.exm_ref xb5 xh5 xt5 xq1_5⟩
      · cases hc; exact ⟨⟨xg2, xz2, xb2, xh2, xa2, ix0, ix1, xm2⟩, C5, PySem.W.mg_of X G aC5, kit_cls2 xh5 xt5 xq2_5 xd2_5 (by decide), PySem.W.exm_ref xb5 xh5 xt5 xq2_5⟩
      · cases hc; exact ⟨⟨xg3, xz3, xb3, xh3, xa3, ix0, ix1, xm3⟩, C5, PySem.W.mg_of X G aC5, kit_cls2 xh5 xt5 xq3_5 xd3_5 (by decide), PySem.W.exm_ref xb5 xh5 xt5 xq3_5⟩
      · cases hc; exact ⟨⟨xg4, xz4, xb4, xh4, xa4, ix0, ix1, xm4⟩, C5, PySem.W.mg_of X G aC5, kit_cls2 xh5 xt5 xq4_5 xd4_5 (by decide), PySem.W.exm_ref xb5 xh5 xt5 xq4_5⟩
      · cases hc; exact ⟨⟨xg5, xz5, xb5, xh5, xa5, ix0, ix1, xm5⟩, C5, PySem.W.mg_of X G aC5, kit_cls2 xh5 xt5 xq5_5 xd5_5 (by decide), PySem.W.exm_ref xb5 xh5 xt5 xq5_5⟩
      · cases hc; exact ⟨⟨xg6, xz6, xb6, xh6, xa6, ix0, ix1, xm6⟩, C5, PySem.W.mg_of X G aC5, kit_cls2 xh5 xt5 xq6_5 xd6_5 (by decide), PySem.W.exm_ref xb5 xh5 xt5 xq6_5⟩
      · cases hc; exact ⟨⟨xg1, xz1, xb1, xh1, xa1, ix0, ix1, xm1⟩, C6, PySem.W.mg_of X G aC6, kit_cls2 xh6 xt6 xq1_6 xd1_6 (by decide), PySem.W.exm_ref xb6 xh6 xt6 xq1_6⟩
      · cases hc; exact ⟨⟨xg2, xz2, xb2, xh2, xa2, ix0, ix1, xm2⟩, C6, PySem.W.mg_of X G aC6, kit_cls2 xh6 xt6 xq2_6 xd2_6 (by decide), PySem.W.exm_ref xb6 xh6 xt6 xq2_6⟩
      · cases hc; exact ⟨⟨xg3, xz3, xb3, xh3, xa3, ix0, ix1, xm3⟩, C6, PySem.W.mg_of X G aC6, kit_cls2 xh6 xt6 xq3_6 xd3_6 (by decide), PySem.W.exm_ref xb6 xh6 xt6 xq3_6⟩
      · cases hc; exact ⟨⟨xg4, xz4, xb4, xh4, xa4, ix0, ix1, xm4⟩, C6, PySem.W.mg_of X G aC6, kit_cls2 xh6 xt6 xq4_6 xd4_6 (by decide), PySem.W.exm_ref xb6 xh6 xt6 xq4_6⟩
      · cases hc; exact ⟨⟨xg5, xz5, xb5, xh5, xa5, ix0, ix1, xm5⟩, C6, PySem.W.mg_of X G aC6, kit_cls2 xh6 xt6 xq5_6 xd5_6 (by decide), PySem.W.exm_ref xb6 xh6 xt6 xq5_6⟩
      · cases hc; exact ⟨⟨xg6, xz6, xb6, xh6, xa6, ix0, ix1, xm6⟩, C6, PySem.W.mg_of X G aC6, kit_cls2 xh6 xt6 xq6_6 xd6_6 (by decide), PySem.W.exm_ref xb6 xh6 xt6 xq6_6⟩
    · have h : isvF c2 = some b := h
      unfold isvF at h
      split at h <;> first | cases h; done | (cases h; cases hc; first | exact ⟨⟨xg1, xz1, xb1, xh1, xa1, ix0, ix1, xm1⟩, kit_ve xv1⟩ | exact ⟨⟨xg2, xz2, xb2, xh2, xa2, ix0, ix1, xm2⟩, kit_ve xv2⟩ | exact ⟨⟨xg3, xz3, xb3, xh3, xa3, ix0, ix1, xm3⟩, kit_ve xv3⟩ | exact ⟨⟨xg4, xz4, xb4, xh4, xa4, ix0, ix1, xm4⟩, kit_ve xv4⟩ | exact ⟨⟨xg5, xz5, xb5, xh5, xa5, ix0, ix1, xm5⟩, kit_ve xv5⟩ | exact ⟨⟨xg6, xz6, xb6, xh6, xa6, ix0, ix1, xm6⟩, kit_ve xv6⟩)
    · exact absurd (show ([] : List Nat).contains n = true from hn) (by simp)
    · simp only [avg, List.contains_cons, List.contains_nil, Bool.or_eq_true, beq_iff_eq, Bool.or_false, Bool.false_eq_true, or_false] at hn
      rcases hn with rfl | rfl | rfl | rfl | rfl | rfl | rfl | rfl
      · exact ⟨.str gs0, _, PySem.W.mg_of X G gg0, ⟨_, rfl⟩, fun φ H Y => glo_rp ge0 _ φ H Y⟩
      · exact ⟨.str gs1, _, PySem.W.mg_of X G gg1, ⟨_, rfl⟩, fun φ H Y => glo_rp ge1 _ φ H Y⟩
      · exact ⟨.int 3, _, PySem.W.mg_of X G gg2, ⟨_, rfl⟩, fun φ H Y => .int _⟩
      · exact ⟨.int 2, _, PySem.W.mg_of X G gg3, ⟨_, rfl⟩, fun φ H Y => .int _⟩
      · exact ⟨.int 2, _, PySem.W.mg_of X G gg4, ⟨_, rfl⟩, fun φ H Y => .int _⟩
      · exact ⟨.str gs5, _, PySem.W.mg_of X G gg5, ⟨_, rfl⟩, fun φ H Y => glo_rp ge5 _ φ H Y⟩
      · exact ⟨.int 8, _, PySem.W.mg_of X G gg6, ⟨_, rfl⟩, fun φ H Y => .int _⟩
      · exact ⟨.str gs7, _, PySem.W.mg_of X G gg7, ⟨_, rfl⟩, fun φ H Y => glo_rp ge7 _ φ H Y⟩
    · match n, hd with
      | 0, hd => cases hd; exact ⟨_, _, _, F0⟩
      | 1, hd => cases hd; exact ⟨_, _, _, F1⟩
      | 2, hd => cases hd; exact ⟨_, _, _, F2⟩
      | 3, hd => cases hd; exact ⟨_, _, _, F3⟩
      | 4, hd => cases hd; exact ⟨_, _, _, F4⟩
      | 5, hd => cases hd; exact ⟨_, _, _, F5⟩
      | 6, hd => cases hd; exact ⟨_, _, _, F6⟩
      | 7, hd => cases hd; exact ⟨_, _, _, F7⟩
      | 8, hd => cases hd; exact ⟨_, _, _, F8⟩
      | 9, hd => cases hd; exact ⟨_, _, _, F9⟩
      | 10, hd => cases hd; exact ⟨_, _, _, F10⟩
      | 11, hd => cases hd; exact ⟨_, _, _, F11⟩
      | 12, hd => cases hd; exact ⟨_, _, _, F12⟩
      | 13, hd => cases hd; exact ⟨_, _, _, F13⟩
      | 14, hd => cases hd; exact ⟨_, _, _, F14⟩
      | 15, hd => cases hd; exact ⟨_, _, _, F15⟩
      | 16, hd => cases hd; exact ⟨_, _, _, F16⟩
      | 17, hd => cases hd; exact ⟨_, _, _, F17⟩
      | 18, hd => cases hd; exact ⟨_, _, _, F18⟩
      | 19, hd => cases hd; exact ⟨_, _, _, F19⟩
      | 20, hd => cases hd; exact ⟨_, _, _, F20⟩
      | 21, hd => cases hd; exact ⟨_, _, _, F21⟩
      | 22, hd => cases hd; exact ⟨_, _, _, F22⟩
      | n + 23, hd => cases hd
    · match c, hc with
      | 0, hc =>
        cases hc
        refine ⟨⟨pg0, hd0, po0, sa0⟩, rfl, by decide +kernel, by decide, fun x hx => ?_⟩
        simp only [List.mem_cons, List.not_mem_nil, or_false] at hx
        rcases hx with rfl | rfl | rfl | rfl | rfl | rfl | rfl
        · exact n0_0
        · exact n0_1
        · exact n0_2
        · exact n0_3
        · exact n0_4
        · exact n0_5
        · exact n0_6
      | n + 1, hc => cases hc
    · simp only [avc, List.contains_cons, List.contains_nil, Bool.or_eq_true, beq_iff_eq, Bool.or_false, Bool.false_eq_true, or_false] at hc
      rcases hc with rfl
      · exact ⟨C0, _, rfl, PySem.W.mg_of X G aC0⟩
    · have h : unbF c m = some n := h
      unfold unbF at h
      split at h <;> cases h
    · have h := tabF_mem (l := iskL) (show tabF iskL none c = some b from h)
      simp only [iskL, List.mem_cons, List.not_mem_nil, or_false, Prod.mk.injEq, Option.some.injEq, reduceCtorEq, false_and, false_or, true_and] at h
      rcases h with ⟨rfl, rfl⟩
      · refine ⟨C0, PySem.W.mg_of X G aC0, fun T hT => ?_⟩
        simp only [List.mem_cons, List.not_mem_nil, or_false] at hT
        rcases hT with rfl | rfl | rfl | rfl | rfl | rfl | rfl
        · exact kit_nat (by decide) hd0 kd0 kt0_0
        · exact kit_nat (by decide) hd0 kd0 kt0_1
        · exact kit_nat (by decide) hd0 kd0 kt0_2
        · exact kit_nat (by decide) hd0 kd0 kt0_3
        · exact kit_nat (by decide) hd0 kd0 kt0_4
        · exact kit_nat (by decide) hd0 kd0 kt0_5
        · exact kit_nat (by decide) hd0 kd0 kt0_6
    · have h := tabF_mem (l := iskL) (show tabF iskL (some c2) c = some b from h)
      simp only [iskL, List.mem_cons, List.not_mem_nil, or_false, Prod.mk.injEq, Option.some.injEq, reduceCtorEq, false_and, false_or, true_and] at h
      rcases h with ⟨rfl, rfl, rfl⟩ | ⟨rfl, rfl, rfl⟩ | ⟨rfl, rfl, rfl⟩ | ⟨rfl, rfl, rfl⟩ | ⟨rfl, rfl, rfl⟩ | ⟨rfl, rfl, rfl⟩ | ⟨rfl, rfl, rfl⟩ | ⟨rfl, rfl, rfl⟩ | ⟨rfl, rfl, rfl⟩ | ⟨rfl, rfl, rfl⟩ | ⟨rfl, rfl, rfl⟩ | ⟨rfl, rfl, rfl⟩ | ⟨rfl, rfl, rfl⟩ | ⟨rfl, rfl, rfl⟩ | ⟨rfl, rfl, rfl⟩ | ⟨rfl, rfl, rfl⟩ | ⟨rfl, rfl, rfl⟩ | ⟨rfl, rfl, rfl⟩ | ⟨rfl, rfl, rfl⟩ | ⟨rfl, rfl, rfl⟩ | ⟨rfl, rfl, rfl⟩ | ⟨rfl, rfl, rfl⟩ | ⟨rfl, rfl, rfl⟩ | ⟨rfl, rfl, rfl⟩ | ⟨rfl, rfl, rfl⟩ | ⟨rfl, rfl, rfl⟩ | ⟨rfl, rfl, rfl⟩ | ⟨rfl, rfl, rfl⟩ | ⟨rfl, rfl, rfl⟩ | ⟨rfl, rfl, rfl⟩ | ⟨rfl, rfl, rfl⟩ | ⟨rfl, rfl, rfl⟩ | ⟨rfl, rfl, rfl⟩ | ⟨rfl, rfl, rfl⟩ | ⟨rfl, rfl, rfl⟩ | ⟨rfl, rfl, rfl⟩ | ⟨rfl, rfl, rfl⟩
      · cases hc; exact ⟨⟨ia0, ix0, ix1, im0⟩, C0, PySem.W.mg_of X G aC0, kit_cls2 hd0 kd0 kk0_0 ke0_0 (by decide)⟩
      · cases hc
      · cases hc
      · cases hc
      · cases hc
      · cases hc
      · cases hc
      · cases hc
      · cases hc
      · cases hc
      · cases hc
      · cases hc
      · cases hc
      · cases hc
      · cases hc
      · cases hc
      · cases hc
      · cases hc
      · cases hc
      · cases hc
      · cases hc
      · cases hc
      · cases hc
      · cases hc
      · cases hc
      · cases hc
      · cases hc
      · cases hc
      · cases hc
      · cases hc
      · cases hc
      · cases hc
      · cases hc
      · cases hc
      · cases hc
      · cases hc
      · cases hc
    · have h : xarF c = some n := h
      unfold xarF at h
      split at h <;> first | (cases h; first | exact ⟨C4, [], rfl, rfl, PySem.W.mg_of X G aC4, fun _ => ⟨xe4, xk4, xb4, xt4⟩, fun q => absurd rfl q⟩ | exact ⟨C5, [], rfl, rfl, PySem.W.mg_of X G aC5, fun _ => ⟨xe5, xk5, xb5, xt5⟩, fun q => absurd rfl q⟩ | exact ⟨C6, ["name"], rfl, rfl, PySem.W.mg_of X G aC6, fun q => absurd q (by decide), fun _ => ⟨"__init__", _, _, Nx6, Nx6, xf6, _, [], [], oex_of xl6 xo6 xs6 xb6 xt6 xk6, xi6, xy6, Bx6, Ux6, lookx6, fun x hx => by (simp only [List.mem_cons, List.not_mem_nil, or_false] at hx; rcases hx with rfl; (· exact xn6_0))⟩⟩) | cases h
    · simp only [avf, Bool.and_eq_true, decide_eq_true_eq] at hn
      exact ⟨hn.1, by show avf n = true; simp only [avf, Bool.and_eq_true, decide_eq_true_eq]; exact hn⟩
    · simp only [avc, List.contains_cons, List.contains_nil, Bool.or_eq_true, beq_iff_eq, Bool.or_false, Bool.false_eq_true, or_false] at hc
      rcases hc with rfl
      · exact ⟨1, rfl, by decide⟩
    · simp only [avi, List.contains_cons, List.contains_nil, Bool.or_eq_true, beq_iff_eq, Bool.or_false, Bool.false_eq_true, or_false] at hc
      rcases hc with rfl
      · exact ⟨_, rfl⟩
  refine ⟨_, xc, cl, fun s u => U22.bindsA (ps := ps22) (fun _ _ _ _ _ _ us hl => match us, hl with | [_], _ => rfl) s [u] rfl, fun base _ _ => ?_⟩
  exact (all_ok (base := base) A rfl 20 22 d22 _ _ ps22 rfl F22).1
end LW
open PySem PySem.W PyProof.Rows
set_option maxRecDepth 100000 in
set_option maxHeartbeats 0 in
theorem PySem.Challenge.cw_dialecthall_k91_rows_of_dialects_holds : PySem.Challenge.rw_dialecthall_k91_rows_of_dialects.Holds := by
  w_on; o_law; k_head; (case hw => w_witness2)
  k_fill
  refine DM.walk_de (l := PySem.Challenge.rw_dialecthall_k91_rows_of_dialects) (n := 63) (k := 2 * 20) (x := "_law_script") (F := (LW.T.mn 20).fn 22) rfl (by decide) rfl ⟨rfl, by decide, by decide⟩ (fun w h Y => PySem.W.kIn_of Y) ?F LW.law_is
  case F =>
    intro w mg fa h KX G hmg
    refine' LW.all_mk KX G hmg ?aC0 ?aC1 ?aC2 ?aC3 ?aC4 ?aC5 ?aC6 ?a0 ?l0 ?c0 ?k0 ?a1 ?i1 ?l1 ?c1 ?k1 ?ld1 ?le1 ?a2 ?i2 ?l2 ?c2 ?k2 ?a3 ?l3 ?c3 ?k3 ?a4 ?l4 ?c4 ?k4 ?a5 ?l5 ?c5 ?k5 ?a6 ?l6 ?c6 ?k6 ?a7 ?l7 ?c7 ?k7 ?a8 ?l8 ?c8 ?k8 ?a9 ?l9 ?c9 ?k9 ?a10 ?l10 ?c10 ?k10 ?a11 ?l11 ?c11 ?k11 ?a12 ?l12 ?c12 ?k12 ?a13 ?l13 ?c13 ?k13 ?a14 ?l14 ?c14 ?k14 ?a15 ?l15 ?c15 ?k15 ?a16 ?l16 ?c16 ?k16 ?a17 ?l17 ?c17 ?k17 ?a18 ?l18 ?c18 ?k18 ?a19 ?l19 ?c19 ?k19 ?a20 ?l20 ?c20 ?k20 ?a21 ?l21 ?c21 ?k21 ?a22 ?l22 ?c22 ?k22 ?pg0 ?hd0 ?po0 ?sa0 ?mk0 ?kc0 ?n0_0 ?n0_1 ?n0_2 ?n0_3 ?n0_4 ?n0_5 ?n0_6 ?ci0 ?xb1 ?xt1 ?xg1 ?xz1 ?xh1 ?xa1 ?xm1 ?xv1 ?xb2 ?xt2 ?xg2 ?xz2 ?xh2 ?xa2 ?xm2 ?xv2 ?xb3 ?xt3 ?xg3 ?xz3 ?xh3 ?xa3 ?xm3 ?xv3 ?xe4 ?xk4 ?xb4 ?xt4 ?xg4 ?xz4 ?xh4 ?xa4 ?xm4 ?xv4 ?xe5 ?xk5 ?xb5 ?xt5 ?xg5 ?xz5 ?xh5 ?xa5 ?xm5 ?xv5 ?xk6 ?xb6 ?xt6 ?xl6 ?xo6 ?xs6 ?xi6 ?xy6 ?xj6 ?xc6 ?xp6 ?xn6_0 ?xg6 ?xz6 ?xh6 ?xa6 ?xm6 ?xv6 ?mf0_0 ?kt0_0 ?kt0_1 ?kt0_2 ?kt0_3 ?kt0_4 ?kt0_5 ?kt0_6 ?kk0_0 ?ke0_0 ?kd0 ?ia0 ?im0 ?ix0 ?ix1 ?xd1_1 ?xq1_1 ?xd2_1 ?xq2_1 ?xd3_1 ?xq3_1 ?xd4_1 ?xq4_1 ?xd5_1 ?xq5_1 ?xd6_1 ?xq6_1 ?xd1_2 ?xq1_2 ?xd2_2 ?xq2_2 ?xd3_2 ?xq3_2 ?xd4_2 ?xq4_2 ?xd5_2 ?xq5_2 ?xd6_2 ?xq6_2 ?xd1_3 ?xq1_3 ?xd2_3 ?xq2_3 ?xd3_3 ?xq3_3 ?xd4_3 ?xq4_3 ?xd5_3 ?xq5_3 ?xd6_3 ?xq6_3 ?xd1_4 ?xq1_4 ?xd2_4 ?xq2_4 ?xd3_4 ?xq3_4 ?xd4_4 ?xq4_4 ?xd5_4 ?xq5_4 ?xd6_4 ?xq6_4 ?xd1_5 ?xq1_5 ?xd2_5 ?xq2_5 ?xd3_5 ?xq3_5 ?xd4_5 ?xq4_5 ?xd5_5 ?xq5_5 ?xd6_5 ?xq6_5 ?xd1_6 ?xq1_6 ?xd2_6 ?xq2_6 ?xd3_6 ?xq3_6 ?xd4_6 ?xq4_6 ?xd5_6 ?xq5_6 ?xd6_6 ?xq6_6 ?gg0 ?ge0 ?gg1 ?ge1 ?gg2 ?gg3 ?gg4 ?gg5 ?ge5 ?gg6 ?gg7 ?ge7 ?z0 ?z1 ?z2 ?z3 ?z4 ?z5 ?z6 ?z7 ?z8 ?z9 ?z10 ?z11 ?z12 ?z13 ?z14 ?z15 ?z16 ?z17 ?z18 ?z19 ?z20 ?z21 ?z22
    (case aC0 => k_is)
    (case aC1 => k_is)
    (case aC2 => k_is)
    (case aC3 => k_is)
    (case aC4 => k_is)
    (case aC5 => k_is)
    (case aC6 => k_is)
    (case a0 => k_is)
    (case l0 => k_is)
    (case c0 => k_is)
    (case k0 => k_is)
    (case a1 => k_is)
    (case i1 => k_is)
    (case l1 => k_is)
    (case c1 => k_is)
    (case k1 => k_is)
    (case ld1 => k_is)
    (case le1 => decide +kernel)
    (case a2 => k_is)
    (case i2 => k_is)
    (case l2 => k_is)
    (case c2 => k_is)
    (case k2 => k_is)
    (case a3 => k_is)
    (case l3 => k_is)
    (case c3 => k_is)
    (case k3 => k_is)
    (case a4 => k_is)
    (case l4 => k_is)
    (case c4 => k_is)
    (case k4 => k_is)
    (case a5 => k_is)
    (case l5 => k_is)
    (case c5 => k_is)
    (case k5 => k_is)
    (case a6 => k_is)
    (case l6 => k_is)
    (case c6 => k_is)
    (case k6 => k_is)
    (case a7 => k_is)
    (case l7 => k_is)
    (case c7 => k_is)
    (case k7 => k_is)
    (case a8 => k_is)
    (case l8 => k_is)
    (case c8 => k_is)
    (case k8 => k_is)
    (case a9 => k_is)
    (case l9 => k_is)
    (case c9 => k_is)
    (case k9 => k_is)
    (case a10 => k_is)
    (case l10 => k_is)
    (case c10 => k_is)
    (case k10 => k_is)
    (case a11 => k_is)
    (case l11 => k_is)
    (case c11 => k_is)
    (case k11 => k_is)
    (case a12 => k_is)
    (case l12 => k_is)
    (case c12 => k_is)
    (case k12 => k_is)
    (case a13 => k_is)
    (case l13 => k_is)
    (case c13 => k_is)
    (case k13 => k_is)
    (case a14 => k_is)
    (case l14 => k_is)
    (case c14 => k_is)
    (case k14 => k_is)
    (case a15 => k_is)
    (case l15 => k_is)
    (case c15 => k_is)
    (case k15 => k_is)
    (case a16 => k_is)
    (case l16 => k_is)
    (case c16 => k_is)
    (case k16 => k_is)
    (case a17 => k_is)
    (case l17 => k_is)
    (case c17 => k_is)
    (case k17 => k_is)
    (case a18 => k_is)
    (case l18 => k_is)
    (case c18 => k_is)
    (case k18 => k_is)
    (case a19 => k_is)
    (case l19 => k_is)
    (case c19 => k_is)
    (case k19 => k_is)
    (case a20 => k_is)
    (case l20 => k_is)
    (case c20 => k_is)
    (case k20 => k_is)
    (case a21 => k_is)
    (case l21 => k_is)
    (case c21 => k_is)
    (case k21 => k_is)
    (case a22 => k_is)
    (case l22 => k_is)
    (case c22 => k_is)
    (case k22 => k_is)
    (case pg0 => k_is)
    (case hd0 => k_is)
    (case po0 => k_is)
    (case sa0 => k_is)
    (case mk0 => k_is)
    (case kc0 => k_is)
    (case n0_0 => k_is)
    (case n0_1 => k_is)
    (case n0_2 => k_is)
    (case n0_3 => k_is)
    (case n0_4 => k_is)
    (case n0_5 => k_is)
    (case n0_6 => k_is)
    (case ci0 => k_is)
    (case xb1 => k_is)
    (case xt1 => k_is)
    (case xg1 => k_is)
    (case xz1 => k_is)
    (case xh1 => k_is)
    (case xa1 => k_is)
    (case xm1 => k_is)
    (case xv1 => k_is)
    (case xb2 => k_is)
    (case xt2 => k_is)
    (case xg2 => k_is)
    (case xz2 => k_is)
    (case xh2 => k_is)
    (case xa2 => k_is)
    (case xm2 => k_is)
    (case xv2 => k_is)
    (case xb3 => k_is)
    (case xt3 => k_is)
    (case xg3 => k_is)
    (case xz3 => k_is)
    (case xh3 => k_is)
    (case xa3 => k_is)
    (case xm3 => k_is)
    (case xv3 => k_is)
    (case xe4 => k_exc)
    (case xk4 => k_is)
    (case xb4 => k_is)
    (case xt4 => k_is)
    (case xg4 => k_is)
    (case xz4 => k_is)
    (case xh4 => k_is)
    (case xa4 => k_is)
    (case xm4 => k_is)
    (case xv4 => k_is)
    (case xe5 => k_exc)
    (case xk5 => k_is)
    (case xb5 => k_is)
    (case xt5 => k_is)
    (case xg5 => k_is)
    (case xz5 => k_is)
    (case xh5 => k_is)
    (case xa5 => k_is)
    (case xm5 => k_is)
    (case xv5 => k_is)
    (case xk6 => k_is)
    (case xb6 => k_is)
    (case xt6 => k_is)
    (case xl6 => k_is)
    (case xo6 => decide +kernel)
    (case xs6 => k_is)
    (case xi6 => k_is)
    (case xy6 => k_is)
    (case xj6 => k_is)
    (case xc6 => k_is)
    (case xp6 => k_is)
    (case xn6_0 => k_is)
    (case xg6 => k_is)
    (case xz6 => k_is)
    (case xh6 => k_is)
    (case xa6 => k_is)
    (case xm6 => k_is)
    (case xv6 => k_is)
    (case mf0_0 => k_is)
    (case kt0_0 => k_is)
    (case kt0_1 => k_is)
    (case kt0_2 => k_is)
    (case kt0_3 => k_is)
    (case kt0_4 => k_is)
    (case kt0_5 => k_is)
    (case kt0_6 => k_is)
    (case kk0_0 => k_is)
    (case ke0_0 => decide +kernel)
    (case kd0 => k_is)
    (case ia0 => k_is)
    (case im0 => k_is)
    (case ix0 => k_is)
    (case ix1 => k_is)
    (case xd1_1 => decide +kernel)
    (case xq1_1 => k_is)
    (case xd2_1 => decide +kernel)
    (case xq2_1 => k_is)
    (case xd3_1 => decide +kernel)
    (case xq3_1 => k_is)
    (case xd4_1 => decide +kernel)
    (case xq4_1 => k_is)
    (case xd5_1 => decide +kernel)
    (case xq5_1 => k_is)
    (case xd6_1 => decide +kernel)
    (case xq6_1 => k_is)
    (case xd1_2 => decide +kernel)
    (case xq1_2 => k_is)
    (case xd2_2 => decide +kernel)
    (case xq2_2 => k_is)
    (case xd3_2 => decide +kernel)
    (case xq3_2 => k_is)
    (case xd4_2 => decide +kernel)
    (case xq4_2 => k_is)
    (case xd5_2 => decide +kernel)
    (case xq5_2 => k_is)
    (case xd6_2 => decide +kernel)
    (case xq6_2 => k_is)
    (case xd1_3 => decide +kernel)
    (case xq1_3 => k_is)
    (case xd2_3 => decide +kernel)
    (case xq2_3 => k_is)
    (case xd3_3 => decide +kernel)
    (case xq3_3 => k_is)
    (case xd4_3 => decide +kernel)
    (case xq4_3 => k_is)
    (case xd5_3 => decide +kernel)
    (case xq5_3 => k_is)
    (case xd6_3 => decide +kernel)
    (case xq6_3 => k_is)
    (case xd1_4 => decide +kernel)
    (case xq1_4 => k_is)
    (case xd2_4 => decide +kernel)
    (case xq2_4 => k_is)
    (case xd3_4 => decide +kernel)
    (case xq3_4 => k_is)
    (case xd4_4 => decide +kernel)
    (case xq4_4 => k_is)
    (case xd5_4 => decide +kernel)
    (case xq5_4 => k_is)
    (case xd6_4 => decide +kernel)
    (case xq6_4 => k_is)
    (case xd1_5 => decide +kernel)
    (case xq1_5 => k_is)
    (case xd2_5 => decide +kernel)
    (case xq2_5 => k_is)
    (case xd3_5 => decide +kernel)
    (case xq3_5 => k_is)
    (case xd4_5 => decide +kernel)
    (case xq4_5 => k_is)
    (case xd5_5 => decide +kernel)
    (case xq5_5 => k_is)
    (case xd6_5 => decide +kernel)
    (case xq6_5 => k_is)
    (case xd1_6 => decide +kernel)
    (case xq1_6 => k_is)
    (case xd2_6 => decide +kernel)
    (case xq2_6 => k_is)
    (case xd3_6 => decide +kernel)
    (case xq3_6 => k_is)
    (case xd4_6 => decide +kernel)
    (case xq4_6 => k_is)
    (case xd5_6 => decide +kernel)
    (case xq5_6 => k_is)
    (case xd6_6 => decide +kernel)
    (case xq6_6 => k_is)
    (case gg0 => k_is)
    (case ge0 => decide +kernel)
    (case gg1 => k_is)
    (case ge1 => decide +kernel)
    (case gg2 => k_is)
    (case gg3 => k_is)
    (case gg4 => k_is)
    (case gg5 => k_is)
    (case ge5 => decide +kernel)
    (case gg6 => k_is)
    (case gg7 => k_is)
    (case ge7 => decide +kernel)
    (case z0 => k_is)
    (case z1 => k_is)
    (case z2 => k_is)
    (case z3 => k_is)
    (case z4 => k_is)
    (case z5 => k_is)
    (case z6 => k_is)
    (case z7 => k_is)
    (case z8 => k_is)
    (case z9 => k_is)
    (case z10 => k_is)
    (case z11 => k_is)
    (case z12 => k_is)
    (case z13 => k_is)
    (case z14 => k_is)
    (case z15 => k_is)
    (case z16 => k_is)
    (case z17 => k_is)
    (case z18 => k_is)
    (case z19 => k_is)
    (case z20 => k_is)
    (case z21 => k_is)
    (case z22 => k_is)
