import PyProof.Rows.All
import Wide.All
import OpenK.AllK
import Wide.FinOn
import HandS.ForMost
import HandS.Strs
import HandS.TupSets
import HandS.SetKeys
import HandS.More
import KE.SortData
import KE.KEqNest
import PyProof.NeKinds
import HandS.DictComp
import KE.KEqDict
import PyProof.DictFindH
import PyProof.DictCompW
import HandS.Zip
import KE.GoesMore
import KE.GoesZip
import HandS.Wide
import HandS.EndTab
import HandS.AnyAll
import HandS.GenList
import KE.KDictIter
import HandS.Walk
import HandS.IsInst
import HandS.Slots
import HandS.SlotsOwn
import HandS.ListItems
import HandS.Conv
import PySem.Challenge.RW_lengthstell_k14_whole_shaken_placings
import HandS.Head0
import HandS.Head1
import HandS.Head2
import HandS.HeadEnd
import HandS.HeadHook1
import HandS.HeadHook2
import HandS.HeadHook3
import HandS.HeadHook4
import HandS.HeadWalk
set_option Elab.async false
set_option linter.all false
set_option maxRecDepth 100000
/-! set(t) of a tuple: the shell around set.update's loop -/
namespace K14
open PySem L2
open PySem.Spec PyProof.Rows

section
variable {prog : Program} {w : World} {A : Around} {E : Value → Shared → Prop} {s : Shared}
/-- an empty set as it is made -/
abbrev setO (w : World) : Obj := { cls := .type "set", dict := none, data := .set #[] 0 (.fresh 0 0 (!w.params.followText "set-order")) }
/-- the heap ahead of the loop: the new set, the tuple's iterator -/
abbrev setH (w : World) (h : Heap) (l : Addr) : Heap := (h.push (setO w)).push { cls := .type "tuple_iterator", data := .fields #[.ref l, .int 0 0] }
set_option maxHeartbeats 3200000 in
theorem call_set_by {l : Addr} {items : Array Value} {Q : Value → Shared → Prop} (S : Heap → Prop) (hh : A.handled = none) (hl : s.heap.IsTuple l items)
    (loop : ∀ (B : Around) (R : Result → Shared → Prop), B.handled = none → B.units ≤ A.units + 8 →
      (∀ s' : Shared, s'.gens = s.gens → s'.drawn = s.drawn → s'.os = s.os → (∀ b o, s.heap.get? b = some o → s'.heap.get? b = some o) → S s'.heap → R (.ok (.ret .none)) s') →
      codeAny (model prog w) B (.builtin "set.update.loop" ⟨[.ref s.heap.objs.size, .ref (s.heap.push (setO w)).objs.size], []⟩) R { s with heap := setH w s.heap l })
    (h : ∀ (h' : Heap) (tk : Nat), S h' → (∀ b o, s.heap.get? b = some o → h'.get? b = some o) → Q (.ref s.heap.objs.size) { s with heap := h', toks := tk }) :
    wpAny (model prog w) A (call (.type "set") [.ref l]) Q E s := by
  obtain ⟨c, tl, mroE⟩ := F.called_set.mro
  have madeE := F.called_set.made
  have subE := F.called_set.sub
  refine wpAny_call (codeAny_of_tree ?_)
  show wpAny _ _ (callAny (.type "set") _) _ _ _
  refine wpAny_pure ⟨Code.quiet_builtin _ (by decide +kernel), codeAny_builtin F.entry_type_call ?_⟩
  rw [Around.under_plain (weight_type_call_type "set" [.ref l] []) rfl]
  have n1 := F.called_set.notType
  have n2 := F.called_set.canCreate
  have n3 := F.typeCall_set_1 (.ref l)
  repeat any_goals first
    | assumption
    | wp_step

  refine codeAny_mono (code_set_led1 (.ref l) (E := E) (Q₁ := fun obj s₁ => obj = .ref s.heap.objs.size ∧ s₁ = { s with heap := s.heap.push (setO w) }) ⟨rfl, rfl⟩) fun r s₁ hr => ?_
  cases r with
  | error e => exact hr
  | ok fl =>
    cases fl with
    | ret obj =>
      obtain ⟨rfl, rfl⟩ := hr
      have hS : (s.heap.push (setO w)).get? s.heap.objs.size = some (setO w) := Heap.get?_push_size _ rfl
      have tyS : Shared.TypeIs { s with heap := s.heap.push (setO w) } (.ref s.heap.objs.size) "set" := ⟨_, hS, rfl⟩
      have n4 := F.called_set.init.lookup
      have n5 := F.called_set.init.bind (.ref s.heap.objs.size)
      repeat any_goals first
        | assumption
        | wp_step

      refine codeAny_mono (codeAny_call_builtin (R := wants (fun r s₂ => r = .none ∧ ∃ h' tk, s₂ = { s with heap := h', toks := tk } ∧ S h' ∧ (∀ b o, s.heap.get? b = some o → h'.get? b = some o)) E) F.called_set.init.plain F.entry_set_init (check_set_init_1 tyS ?_)) fun r₂ s₂ hr₂ => ?_
      · obtain ⟨⟨ocls, odict, odata, oslots⟩, hol, hcl, nl, hdl⟩ := hl
        simp only at hcl hdl
        subst hcl; subst hdl
        have hol' : (s.heap.push (setO w)).get? l = some { cls := .type "tuple", dict := odict, data := .seq items nl, slots := oslots } := Heap.get?_push_of_some _ hol
        have n6 := F.sub_tuple_set
        have n7 := F.sub_tuple_frozenset
        have n8 : (Value.type "tuple" == Value.type "dict") = false := by decide
        have hl1 : (s.heap.push (setO w)).IsTuple l items := ⟨_, hol', rfl, nl, rfl⟩
        unfold Builtin.«set.__init__» noKeywords Builtin.Frozenset.updateFrom
        generalize hPI : pyIter = PI
        wp_walk
        subst hPI
        refine wpAny_pyIter_tuple hl1 ?_
        refine wpAny_bind (wpAny_runValue ?_)
        refine loop _ _ (by simp [hh]) (by simp [Around.in1] <;> omega) fun s' g1 g2 g3 hk hS' => ?_
        obtain ⟨h', g, d', tk', os'⟩ := s'
        have g1' : g = s.gens := g1
        have g2' : d' = s.drawn := g2
        have g3' : os' = s.os := g3
        subst g1'; subst g2'; subst g3'
        show wpAny _ _ _ _ _ _
        refine wpAny_pure ?_
        show wpAny _ _ (ret Value.none) _ _ _
        exact wpAny_pure ⟨rfl, h', tk', rfl, hS', hk⟩

      · cases r₂ with
        | error e => exact hr₂
        | ok fl₂ =>
          cases fl₂ with
          | ret r =>
            obtain ⟨rfl, h', tk, rfl, hS', hk'⟩ := hr₂
            repeat any_goals first
              | assumption
              | wp_step
            exact h _ _ hS' hk'
          | _ => exact hr₂.elim
    | _ => exact hr.elim
end
end K14
set_option maxHeartbeats 2000000
/-! len(set(t)), t a tuple of things that are all different -/
namespace K14
open PySem L2
open PySem.Spec PyProof.Rows

section
variable {prog : Program} {w : World}
/-- how the items go, one by one, into the new set at S; g is the heap ahead of it -/
structure Adds (prog : Program) (w : World) (items : List Value) (lim : Nat) (g : Heap) (S : Addr) (St : Nat → Heap → Prop) : Prop where
  start : ∀ h : Heap, h.get? S = some (setO w) → (∀ b o, g.get? b = some o → h.get? b = some o) → St 0 h
  keep : ∀ (i : Nat) (h h' : Heap), St i h → (∀ o, h.get? S = some o → h'.get? S = some o) → (∀ b o, g.get? b = some o → h'.get? b = some o) → St i h'
  add : ∀ (B : Around) (i : Nat) (v : Value) (s : Shared) (E : Value → Shared → Prop) (Q : Bool → Shared → Prop), B.units ≤ lim → items[i]? = some v → St i s.heap → (∀ b o, g.get? b = some o → s.heap.get? b = some o) →
    (∀ (b : Bool) (h' : Heap) (tk : Nat), s.toks ≤ tk → Heap.SameBut S s.heap h' → St (i + 1) h' → Q b { s with heap := h', toks := tk }) → wpAny (model prog w) B (setAdd S v) Q E s
  last : ∀ h : Heap, St items.length h → ∃ (o : Obj) (es : Array (Int × Value)) (ep : Nat) (t : SetTable), h.get? S = some o ∧ o.ExactSet ∧ o.data = .set es ep t ∧ t.fits es.size = true ∧ es.size = items.length

theorem adds_loop {A : Around} {items : List Value} {lim : Nat} {g : Heap} {S I l : Addr} {St : Nat → Heap → Prop} {R : Result → Shared → Prop} (D : Adds prog w items lim g S St) (hA : A.units + 2 ≤ lim) (hh : A.handled = none)
    (nl : l ≠ I) (nSI : S ≠ I) (nSl : S ≠ l) (gS : g.get? S = none) (gI : g.get? I = none) :
    ∀ (k i : Nat) (s : Shared), items.length - i = k → i ≤ items.length → s.heap.IsTupleIter I l i → s.heap.IsTuple l items.toArray → (∀ b o, g.get? b = some o → s.heap.get? b = some o) → St i s.heap →
      (∀ s' : Shared, s'.gens = s.gens → s'.drawn = s.drawn → s'.os = s.os → (∀ b o, g.get? b = some o → s'.heap.get? b = some o) → St items.length s'.heap → R (.ok (.ret .none)) s') →
      codeAny (model prog w) A (.builtin "set.update.loop" ⟨[.ref S, .ref I], []⟩) R s := by
  have hh1 : A.in1.handled = none := by simp [hh]
  intro k
  induction k with
  | zero =>
    intro i s hk hi st1 st2 hg hS hR
    obtain rfl : i = items.length := by omega
    refine codeAny_builtin F.entry_set_update_loop ?_
    rw [Around.under_plainId F.plain_set_update_loop _]
    show wpAny _ A.in1 (pyNext (.ref I) >>= _) _ _ s
    refine wpAny_bind (wpAny_pyNext_tuple_end hh1 st1 st2 (by simp) fun h' he => ?_)
    show wpAny _ A.in1 (ret Value.none) _ _ _
    have hg' : ∀ b o, g.get? b = some o → h'.get? b = some o := fun b o e => he b o (fun z => by rw [z, gI] at e; cases e) (hg b o e)
    exact wpAny_pure (hR _ rfl rfl rfl hg' (D.keep _ _ _ hS (fun o e => he S o nSI e) hg'))
  | succ k ih =>
    intro i s hk hi st1 st2 hg hS hR
    have hlt : i < items.length := by omega
    refine codeAny_builtin F.entry_set_update_loop ?_
    rw [Around.under_plainId F.plain_set_update_loop _]
    show wpAny _ A.in1 (pyNext (.ref I) >>= _) _ _ s
    refine wpAny_bind (wpAny_pyNext_tuple_item st1 st2 (x := items[i]) (by simp [hlt]) fun h1 it1 sb1 => ?_)
    have e1 := sb1.extBut
    have hg1 : ∀ b o, g.get? b = some o → h1.get? b = some o := fun b o e => e1 b o (fun z => by rw [z, gI] at e; cases e) (hg b o e)
    have tu1 : h1.IsTuple l items.toArray := st2.extBut e1 nl
    have S1 : St i h1 := D.keep _ _ _ hS (fun o e => e1 S o nSI e) hg1
    show wpAny _ A.in1 (holding [items[i]] (setAdd S items[i]) >>= _) _ _ { s with heap := h1 }
    refine wpAny_bind (wpAny_holding (D.add _ i _ { s with heap := h1 } _ _ ?_ (List.getElem?_eq_getElem hlt) S1 hg1 fun b h2 tk tk2 sb2 S2 => ?_))
    · simp [Around.in1] <;> omega
    have hg2 : ∀ b o, g.get? b = some o → h2.get? b = some o := fun b o e => (sb2.2 b (fun z => by rw [z, gS] at e; cases e)).trans (hg1 b o e)
    refine wpAny_pure ⟨plainId_quiet F.plain_set_update_loop _, ih (i + 1) _ (by omega) hlt ?_ ?_ hg2 S2 fun s' q1 q2 q3 q4 q5 => hR s' q1 q2 q3 q4 q5⟩
    · obtain ⟨o, e, c⟩ := it1
      exact ⟨o, (sb2.2 I nSI.symm).trans e, c⟩
    · obtain ⟨o, e, c⟩ := tu1
      exact ⟨o, (sb2.2 l nSl.symm).trans e, c⟩

theorem call_set_adds {A : Around} {E : Value → Shared → Prop} {s : Shared} {items : List Value} {lim : Nat} {l : Addr} {St : Nat → Heap → Prop} {Q : Value → Shared → Prop} (D : Adds prog w items lim s.heap s.heap.objs.size St) (hlim : A.units + 16 ≤ lim) (hh : A.handled = none) (hl : s.heap.IsTuple l items.toArray)
    (h : ∀ (h' : Heap) (tk : Nat) (o : Obj) (es : Array (Int × Value)) (ep : Nat) (t : SetTable), h'.get? s.heap.objs.size = some o → o.ExactSet → o.data = .set es ep t → t.fits es.size = true → es.size = items.length → (∀ b o, s.heap.get? b = some o → h'.get? b = some o) → Q (.ref s.heap.objs.size) { s with heap := h', toks := tk }) :
    wpAny (model prog w) A (call (.type "set") [.ref l]) Q E s := by
  have lt : l < s.heap.objs.size := by
    obtain ⟨o, e, _⟩ := hl
    exact Heap.lt_size e
  have sz1 : (s.heap.push (setO w)).objs.size = s.heap.objs.size + 1 := Heap.size_push ..
  have out : ∀ b, s.heap.objs.size ≤ b → s.heap.get? b = none := fun b hb => by
    cases q : s.heap.get? b with
    | none => rfl
    | some o => exact absurd (Nat.lt_of_lt_of_le (Heap.lt_size q) hb) (Nat.lt_irrefl _)
  have up : ∀ b o, s.heap.get? b = some o → (setH w s.heap l).get? b = some o := fun b o e => Heap.get?_push_of_some _ (Heap.get?_push_of_some _ e)
  have hS0 : (setH w s.heap l).get? s.heap.objs.size = some (setO w) := Heap.get?_push_of_some _ (Heap.get?_push_size _ rfl)
  refine call_set_by (fun h' => St items.length h') hh hl (fun B R hB hu hR => ?_) fun h' tk hS hk => ?_
  · refine adds_loop D (by omega) hB (by rw [sz1]; exact Nat.ne_of_lt (Nat.lt_succ_of_lt lt)) (by rw [sz1]; exact Nat.ne_of_lt (Nat.lt_succ_self _)) (Nat.ne_of_gt lt) (out _ (Nat.le_refl _)) (out _ (by rw [sz1]; exact Nat.le_succ _)) _ 0 _ rfl (Nat.zero_le _) ?_ ?_ up (D.start _ hS0 up) fun s' q1 q2 q3 q4 q5 => hR s' q1 q2 q3 q4 q5
    · exact ⟨_, Heap.get?_push_size _ rfl, rfl, rfl⟩
    · obtain ⟨o, e, c⟩ := hl
      exact ⟨o, up _ _ e, c⟩
  · obtain ⟨o, es, ep, t, q1, q2, q3, q4, q5⟩ := D.last h' hS
    exact h h' tk o es ep t q1 q2 q3 q4 q5 hk

/-- texts -/
theorem adds_texts {xs : List Str} {us : List Value} (g : Heap) (S : Addr) (lim : Nat) (hs : StrsAre us xs) (nd : xs.Nodup) (few : xs.length < 64) :
    Adds prog w us lim g S (fun i h => h.SetOf (PySem.strKind prog w) S (fun k => decide (k ∈ xs.take i)) i) where
  start h e _ := SetOf_congr ((setObjOf_fresh (knd := PySem.strKind prog w) _).setOf e (by unfold scanBound; omega)) (fun k => by simp) rfl
  keep i h h' st hS _ := by
    obtain ⟨o, es, ep, t, ho, r⟩ := st
    exact ⟨o, es, ep, t, hS o ho, r⟩
  add B i v s E Q _ hv st _ hQ := by
    obtain ⟨t, rfl⟩ := SS.strs_at hs i v hv
    have hi : i < xs.length := by
      have e := (List.getElem?_eq_some_iff.mp hv).1
      rw [StrsAre.len_eq hs] at e
      exact e
    have ex : xs.getD i Str.empty = xs[i] := by simp [hi]
    have nin : xs[i] ∉ xs.take i := by
      intro hm
      obtain ⟨j, hj, ej⟩ := List.getElem_of_mem hm
      rw [List.length_take] at hj
      rw [List.getElem_take] at ej
      exact List.pairwise_iff_getElem.mp nd j i (by omega) hi (by omega) ej
    rw [ex]
    unfold setAdd
    refine wpAny_holding ?_
    refine wpAny_bind ((PySem.strKind prog w).pyHash (k := xs[i]) (strKind_is _ _ _ _) ?_)
    refine wpAny_setAddHashed_of (knd := PySem.strKind prog w) (s := { s with toks := s.toks + 1 }) (strKind_is _ _ _ _) rfl st (by unfold scanBound; omega) fun h' sb S2 => ?_
    refine hQ _ h' _ (Nat.le_succ _) sb (SetOf_congr S2 (fun k => ?_) ?_)
    · rw [List.take_succ, List.getElem?_eq_getElem hi]
      simp only [Option.toList_some, List.mem_append, List.mem_singleton]
      by_cases h1 : k ∈ xs.take i <;> by_cases h2 : k = xs[i] <;> simp [h1, h2]
    · have e : decide (xs[i] ∈ xs.take i) = false := decide_eq_false nin
      simp [e]
  last h st := by
    obtain ⟨o, es, ep, t, ho, hex, hd, _, _, _, hf, hn⟩ := st
    exact ⟨o, es, ep, t, ho, hex, hd, hf, hn⟩
end

section
variable {X : Cx}
/-- len(set(e)) where the items go in one by one -/
def tLenSetBy (X : Cx) (ta : TE) : TE := fun σ H Q => ta σ H fun x H1 => ∃ (l : Addr) (xs : List V), x = .ref l ∧ SqT X.K H1 l xs ∧
  (∀ (pins : List (Addr × Obj)) (s : Shared) (us : List Value), Inv X pins σ H1 s → Vals xs us → ∃ St, Adds X.prog X.w us (X.A.units + 16) s.heap s.heap.objs.size St) ∧ xs.length < 64 ∧ Q (.int xs.length) H1
theorem pe_lenSetBy {a : Expr} {ta : TE} {p p2 q pos : Pos} (hc : X.calm = true) (hg : Gl X "len") (hm : X.mg "len" = none) (hg2 : Gl X "set") (hm2 : X.mg "set" = none) (ha : PE X a ta)
    (na : starEach [a] X.env = (false, eval a X.env) :: starEach [] X.env := by rfl) : PE X (.Call (.Name "len" p) [.Call (.Name "set" p2) [a] [] q] [] pos) (tLenSetBy X ta) := by
  refine ⟨fun pins s σ H Q I h => ?_⟩
  refine Call_ (ld_blt I hg hm boot_len ?_)
  refine callWith_builtin1 (args_cons ?_ rfl) rfl rfl
  refine Call_ (ld_blt I hg2 hm2 boot_set ?_)
  refine callWith_type1 (args_cons (thn (ha.run pins s σ H _ I h) fun v s1 ⟨x, H1, I1, r1, q1⟩ => args_nil ?_) na) na rfl
  obtain ⟨l, xs, rfl, hq, hD, few, q1⟩ := q1
  cases r1
  obtain ⟨us, r, tu, hz⟩ := I1.tuple hq
  obtain ⟨St, D⟩ := hD pins s1 us I1 r
  have el : us.length = xs.length := r.length.symm
  refine call_set_adds D (Nat.le_refl _) (I1.ok.hd hc) tu fun h' tk o es ep t ho hex hd hf hn hk => ?_
  refine args_nil ?_
  have I2 : Inv X pins σ H1 { s1 with heap := h', toks := tk } := I1.kept hk
  refine call_len_set ho hex hd hf (by rw [hn, el]; omega) ⟨.int xs.length, H1, I2.tok _, ⟨_, by rw [hn, el]⟩, q1⟩

/-- a reading, its end weakened -/
def tUp (ta : TE) : TE := fun σ H Q => ∃ Q0 : VK, ta σ H Q0 ∧ ∀ x H1, Q0 x H1 → Q x H1
theorem pe_up {e : Expr} {ta : TE} (h : PE X e ta) : PE X e (tUp ta) :=
  ⟨fun pins s σ H Q I ⟨Q0, h0, hi⟩ => thn (h.run pins s σ H Q0 I h0) fun _ _ ⟨x, H1, I1, r1, q1⟩ => ⟨x, H1, I1, r1, hi x H1 q1⟩⟩
theorem pe_of {e : Expr} {t t' : TE} (h : PE X e t) (hi : ∀ σ H Q, t' σ H Q → t σ H Q) : PE X e t' := ⟨fun pins s σ H Q I q => h.run pins s σ H Q I (hi σ H Q q)⟩
/-- len(set(texts)), all different -/
def tLenSetTx (K : PySem.W.Frag) (ta : TE) : TE := fun σ H Q => ta σ H fun x H1 => ∃ (l : Addr) (xs : List Str), x = .ref l ∧ SqT K H1 l (xs.map V.str) ∧ xs.Nodup ∧ xs.length < 64 ∧ Q (.int xs.length) H1
theorem pe_lenSetTx {a : Expr} {ta : TE} {p p2 q pos : Pos} (hc : X.calm = true) (hg : Gl X "len") (hm : X.mg "len" = none) (hg2 : Gl X "set") (hm2 : X.mg "set" = none) (ha : PE X a ta)
    (na : starEach [a] X.env = (false, eval a X.env) :: starEach [] X.env := by rfl) : PE X (.Call (.Name "len" p) [.Call (.Name "set" p2) [a] [] q] [] pos) (tLenSetTx X.K ta) :=
  pe_of (pe_lenSetBy hc hg hm hg2 hm2 (pe_up ha) na) fun σ H Q h => ⟨_, h, fun x H1 ⟨l, xs, e, hq, nd, few, q⟩ =>
    ⟨l, xs.map V.str, e, hq, fun pins s us I r => ⟨_, adds_texts s.heap _ _ (strsAre_of r) nd few⟩, by rw [List.length_map]; exact few, by rw [List.length_map]; exact q⟩⟩
end
end K14
set_option maxHeartbeats 2000000
/-! a set of tuples of texts that are all different: one more goes in -/
namespace K14
open PySem L2
open PySem.Spec PyProof.Rows

section
variable {P : Program} {w : World} {B : Around} {E : Value → Shared → Prop} {s : Shared}
abbrev SK (P : Program) (w : World) := PySem.strKind P w
abbrev Txs (P : Program) (w : World) (h : Heap) (k : List Str) (a : Addr) : Prop := IsTupleKey (SK P w) h k a
abbrev txH (P : Program) (w : World) (k : List Str) : Int := tupleKeyHash (SK P w) k
theorem texts_in {k : List Str} {vs : List Value} (h : ItemsAre (SK P w) k vs) : ∀ v ∈ vs, ∃ x t, v = Value.str x t := by
  induction h with
  | nil => exact fun v hv => nomatch hv
  | cons h1 _ ih =>
    rintro v (_ | ⟨_, hv⟩)
    · obtain ⟨t, e⟩ := Value.isStrOf_shape h1
      exact ⟨_, t, e⟩
    · exact ih v hv
theorem cls_text (n : Nat) (x : Str) (t : Tok) : ofAClassStatement n (.str x t) = pure false := by cases n <;> rfl
theorem val_text (n : Nat) (x : Str) (t : Tok) : hashByValue n (.str x t) = pure false := by cases n <;> rfl

theorem cls_txs {k : List Str} {b : Addr} {Q : Bool → Shared → Prop} (hk : Txs P w s.heap k b) (q : Q false s) : wpAny (model P w) B (ofAClassStatement 8 (.ref b)) Q E s := by
  have tyT := hk.typeIs
  obtain ⟨o, items, n, ho, _, hd, hi⟩ := hk
  unfold ofAClassStatement
  refine wpAny_bind (wpAny_typeOf tyT ?_)
  dsimp only
  simp only [show (("tuple" : String) == "tuple") = true by decide, if_true, Bool.not_true, Bool.false_eq_true, if_false]
  show wpAny _ _ (seqItems? (.ref b) >>= _) _ _ s
  refine wpAny_bind (wpAny_seqItems ho hd ?_)
  dsimp only
  refine wpAny_bind ?_
  show wpAny _ _ (forIn items _ _) _ _ s
  rw [← Array.forIn_toList]
  refine wpAny_forIn_list _ (fun l r s' => r.1 = none ∧ s' = s ∧ ∀ v ∈ l, ∃ x t, v = Value.str x t) _ ?_ ?_ _ _ ⟨rfl, rfl, texts_in hi⟩
  · rintro v l r s' ⟨_, rfl, al⟩
    obtain ⟨x, t, rfl⟩ := al v List.mem_cons_self
    rw [cls_text]
    refine wpAny_bind (wpAny_pure ?_)
    simp only [Bool.false_eq_true, if_false]
    exact wpAny_pure ⟨rfl, rfl, fun u hu => al u (List.mem_cons_of_mem _ hu)⟩
  · rintro ⟨r1, r2⟩ s' ⟨e1, rfl, _⟩
    obtain rfl : r1 = none := e1
    exact wpAny_pure q
theorem val_txs {k : List Str} {b : Addr} {Q : Bool → Shared → Prop} (hk : Txs P w s.heap k b) (q : ∀ c, Q c s) : wpAny (model P w) B (hashByValue 8 (.ref b)) Q E s := by
  have tyT := hk.typeIs
  obtain ⟨o, items, n, ho, _, hd, hi⟩ := hk
  unfold hashByValue
  refine wpAny_bind (wpAny_specialOf tyT F.slot_tuple_hash.lookup ?_)
  show wpAny _ _ (seqItems? (.ref b) >>= _) _ _ s
  refine wpAny_bind (wpAny_seqItems ho hd ?_)
  refine wpAny_bind ?_
  show wpAny _ _ (forIn items _ _) _ _ s
  rw [← Array.forIn_toList]
  refine wpAny_forIn_list _ (fun l r s' => r.1 = none ∧ s' = s ∧ ∀ v ∈ l, ∃ x t, v = Value.str x t) _ ?_ ?_ _ _ ⟨rfl, rfl, texts_in hi⟩
  · rintro v l r s' ⟨_, rfl, al⟩
    obtain ⟨x, t, rfl⟩ := al v List.mem_cons_self
    rw [val_text]
    refine wpAny_bind (wpAny_pure ?_)
    simp only [Bool.not_false, if_true]
    exact wpAny_pure (wpAny_pure (q false))
  · rintro ⟨r1, r2⟩ s' ⟨e1, rfl, _⟩
    obtain rfl : r1 = none := e1
    exact wpAny_pure (q true)
theorem seen_txs {k : List Str} {b : Addr} {Q : Bool → Shared → Prop} (hk : Txs P w s.heap k b) {ys : List Value} (hy : ∀ y ∈ ys, ∃ j c, y = Value.ref c ∧ Txs P w s.heap j c) (q : Q false s) : wpAny (model P w) B (searchCouldBeSeen (.ref b) ys) Q E s := by
  unfold searchCouldBeSeen
  refine wpAny_bind ?_
  refine wpAny_forIn_list _ (fun l r s' => r.1 = none ∧ s' = s ∧ ∀ y ∈ l, ∃ j c, y = Value.ref c ∧ Txs P w s.heap j c) _ ?_ ?_ _ _ ⟨rfl, rfl, hy⟩
  · rintro v l r s' ⟨_, rfl, al⟩
    obtain ⟨j, c, rfl, hc⟩ := al v List.mem_cons_self
    have al' : ∀ y ∈ l, ∃ j c, y = Value.ref c ∧ Txs P w s'.heap j c := fun u hu => al u (List.mem_cons_of_mem _ hu)
    dsimp only
    by_cases same : (b == c || (carriedByValue (.ref b) && carriedByValue (.ref c))) = true
    · exact wp_if_pos same (wpAny_pure ⟨rfl, rfl, al'⟩)
    · refine wp_if_neg same (wpAny_bind (wpAny_eqIsQuiet_tuple hk ?_))
      simp only [Bool.not_true, Bool.false_eq_true, if_false]
      refine wpAny_bind (wpAny_eqIsQuiet_tuple hc ?_)
      simp only [Bool.not_true, Bool.false_eq_true, if_false]
      refine wpAny_bind (cls_txs hk ?_)
      simp only [Bool.false_eq_true, if_false]
      refine wpAny_bind (cls_txs hc ?_)
      simp only [Bool.false_eq_true, if_false]
      exact wpAny_pure ⟨rfl, rfl, al'⟩
  · rintro ⟨r1, r2⟩ s' ⟨e1, rfl, _⟩
    obtain rfl : r1 = none := e1
    exact wpAny_pure q

/-! the set as it stands -/
abbrev rowsP (P : Program) (w : World) (L : List (Addr × List Str)) : List (Int × Value) := L.map fun p => (txH P w p.2, Value.ref p.1)
abbrev hashP (P : Program) (w : World) (L : List (Addr × List Str)) : List Int := L.map fun p => txH P w p.2
structure PSet (P : Program) (w : World) (h : Heap) (S : Addr) (L : List (Addr × List Str)) (es : Array (Int × Value)) (ep : Nat) (t : SetTable) : Prop where
  here : ∃ o, h.get? S = some o ∧ o.ExactSet ∧ o.data = .set es ep t
  ents : es.toList = rowsP P w L
  table : TabOk t (hashP P w L)
  keys : ∀ p ∈ L, Txs P w h p.2 p.1
  ledger : w.params.followText "set-order" = true ∨ t.led = true
  wide : L.length * 5 < t.mask * 3
  small : L.length < 64
variable {S : Addr} {L : List (Addr × List Str)} {es : Array (Int × Value)} {ep : Nat} {t : SetTable}
theorem ents_size {L : List (Addr × List Str)} {es : Array (Int × Value)} (e : es.toList = rowsP P w L) : es.size = L.length := by
  rw [← Array.length_toList, e]
  simp
theorem ents_at {L : List (Addr × List Str)} {es : Array (Int × Value)} (e : es.toList = rowsP P w L) {i : Nat} {p : Addr × List Str} (h : L[i]? = some p) : es[i]? = some (txH P w p.2, Value.ref p.1) := by
  rw [← Array.getElem?_toList, e, List.getElem?_map, h]
  rfl
theorem fits_of {n : Nat} {t : SetTable} {es : Array (Int × Value)} (h1 : t.place.size = es.size) (h2 : t.dummies = #[]) (h3 : es.size ≤ t.mask) : t.fits es.size = true := by
  unfold SetTable.fits SetTable.fill
  rw [h2, Bool.and_eq_true, beq_iff_eq, decide_eq_true_eq]
  exact ⟨h1, by show t.place.size + 0 ≤ t.mask; omega⟩
theorem PSet.fits {h : Heap} (R : PSet P w h S L es ep t) : t.fits es.size = true := by
  have h1 := R.table.sz
  rw [List.length_map] at h1
  have h2 := ents_size R.ents
  have h3 := R.wide
  exact fits_of (n := 0) (by omega) R.table.dm (by omega)

/-- the way is walked from its c-th step on: x is none of those that stand there -/
theorem way_on (R : PSet P w s.heap S L es ep t) {x : Addr} {k : List Str} (hx : Txs P w s.heap k x) (hu : B.units < cLine) (hn : k ∉ L.map (·.2)) {K : Nat} (hKf : K < 10 * SetTable.turns t.mask)
    (hK : way t.mask (txH P w k) K ∉ t.place.toList) (hb : ∀ c, c < K → way t.mask (txH P w k) c ∈ t.place.toList) {Q : SetFound → Shared → Prop} (q : Q (.free (way t.mask (txH P w k) K) false) s) :
    ∀ (f c : Nat) (st : Option SetTable.Probe), st.getD (t.probeStart (txH P w k)) = nth t.mask (runAt t.mask (SetTable.bits (txH P w k) % (t.mask + 1)) (SetTable.bits (txH P w k))) c → c ≤ K → K - c < f →
      wpAny (model P w) B (setSearchFrom S (.ref x) (txH P w k) true f st) Q E s := by
  intro f
  induction f with
  | zero => exact fun c st _ _ hf => absurd hf (Nat.not_lt_zero _)
  | succ f ih =>
    intro c st hst hc hf
    obtain ⟨o, ho, hex, hd⟩ := R.here
    have nw : ¬ t.gaveWay = true := by
      unfold SetTable.gaveWay
      rw [mask_odd R.table.mok]
      decide
    rw [setSearchFrom_succ]
    refine wpAny_bind (wpAny_setState_of ho hd R.fits ?_)
    dsimp only
    refine wp_if_neg nw ?_
    have dm0 : ∀ (n : Nat) (p : SetTable.Probe), p.dummy = none → (nth t.mask p n).dummy = none := by
      intro n
      induction n with
      | zero => exact fun p h => h
      | succ n ih2 =>
        refine fun p h => ih2 (adv t.mask p) ?_
        unfold adv
        split <;> exact h
    generalize hp0 : runAt t.mask (SetTable.bits (txH P w k) % (t.mask + 1)) (SetTable.bits (txH P w k)) = p0 at hst
    have at0 : ∀ r, way t.mask (txH P w k) r = (nth t.mask p0 r).j := fun r => by rw [← hp0]
    have step : ∀ r, nth t.mask (nth t.mask p0 c) r = nth t.mask p0 (c + r) := fun r => (nth_add t.mask c p0 r).symm
    have sp := go_spec t R.table.ris R.table.dm (fun i => (es[i]?.map (·.1)).getD 0) (txH P w k) (10 * SetTable.turns t.mask) (K - c) (nth t.mask p0 c) (dm0 c p0 (by rw [← hp0]; rfl)) (by omega)
      (fun r hr => by rw [step, ← at0]; exact hb _ (by omega)) (by rw [step, ← at0, show c + (K - c) = K by omega]; exact hK)
    rcases sp with ⟨r, i, hr, hi, hh, -, pr⟩ | ⟨-, pr⟩
    · have pr' : t.probe (fun i => (es[i]?.map (·.1)).getD 0) (txH P w k) (st.getD (t.probeStart (txH P w k))) = some (.candidate (nth t.mask p0 (c + r)).j i (nth t.mask p0 (c + (r + 1)))) := by
        rw [hst]
        refine Eq.trans pr ?_
        rw [step, step]
      rw [pr']
      dsimp only
      rw [step] at hi
      have il : i < L.length := by
        have h1 := (List.getElem?_eq_some_iff.mp hi).1
        have h2 := R.table.sz
        rw [List.length_map] at h2
        rw [Array.length_toList] at h1
        omega
      obtain ⟨p, hp⟩ : ∃ p, L[i]? = some p := ⟨_, List.getElem?_eq_getElem il⟩
      have pm : p ∈ L := List.mem_of_getElem? hp
      have pk : ¬ p.2 = k := fun e => hn (e ▸ List.mem_map_of_mem pm)
      have live : t.slot (nth t.mask p0 (c + r)).j = .live i := slot_live R.table.ris hi
      have more : wpAny (model P w) B (searchRest S (.ref x) (txH P w k) true f es t (nth t.mask p0 (c + r)).j i (nth t.mask p0 (c + (r + 1)))) Q E s := by
        unfold searchRest
        rw [ents_at R.ents hp]
        dsimp only
        refine wpAny_bind (wpAny_holding (wpAny_eqBool_tuple hu (R.keys p pm) hx ?_))
        refine wpAny_bind (wpAny_setState_of ho hd R.fits ?_)
        dsimp only
        refine wp_if_neg (by simp [pk]) ?_
        rw [sameMem]
        dsimp only
        simp only [if_true, live, ents_at R.ents hp]
        refine wpAny_bind (wpAny_isSame_ref_self (wpAny_bind (wpAny_pure ?_)))
        simp only [if_true]
        refine wp_if_neg (by simp [pk]) ?_
        exact ih (c + (r + 1)) _ (by rw [hp0]; rfl) (by omega) (by omega)
      by_cases led : t.led = true
      · exact wp_if_neg (by simp [led]) more
      · refine wp_if_pos (by simp [led]) (wpAny_bind (seen_txs hx (fun y hy => ?_) ?_))
        · obtain ⟨e, he, ee⟩ := List.mem_map.mp hy
          have he2 : e ∈ es.toList := by
            have z : e ∈ es ∧ e.1 = txH P w k := by simpa using he
            simpa using z.1
          rw [R.ents] at he2
          obtain ⟨p2, hp2, e2⟩ := List.mem_map.mp he2
          exact ⟨p2.2, p2.1, by rw [← ee, ← e2], R.keys p2 hp2⟩
        · exact wp_if_neg (by decide) more
    · have pr' : t.probe (fun i => (es[i]?.map (·.1)).getD 0) (txH P w k) (st.getD (t.probeStart (txH P w k))) = some (.empty (nth t.mask p0 K).j none) := by
        rw [hst]
        refine Eq.trans pr ?_
        rw [step, show c + (K - c) = K by omega]
      rw [pr']
      dsimp only
      rw [← at0]
      exact wpAny_pure q

/-- the search as adding asks for it: it ends at a free slot -/
theorem search_new (R : PSet P w s.heap S L es ep t) {x : Addr} {k : List Str} (hx : Txs P w s.heap k x) (hu : B.units < cLine) (hn : k ∉ L.map (·.2)) {Q : SetFound → Shared → Prop}
    (q : ∀ K, way t.mask (txH P w k) K ∉ t.place.toList → (∀ c, c < K → way t.mask (txH P w k) c ∈ t.place.toList) → Q (.free (way t.mask (txH P w k) K) false) s) :
    wpAny (model P w) B (setSearch S (.ref x) (txH P w k) true) Q E s := by
  have wd := R.wide
  obtain ⟨K, hKf, hK, hb⟩ := R.table.first (by rw [List.length_map]; omega) (txH P w k)
  have big : K < 100000 := by
    have z : 10 * SetTable.turns t.mask ≤ 1420 := by
      unfold SetTable.turns
      rcases R.table.mok with e | e | e <;> omega
    omega
  unfold setSearch
  exact way_on R hx hu hn hKf hK hb (q K hK hb) 100000 0 none rfl (Nat.zero_le _) (by omega)

theorem txs_but {h h' : Heap} {k : List Str} {a b : Addr} {o : Obj} (hb : Txs P w h k b) (ho : h.get? a = some o) (hd : ∃ es ep t, o.data = .set es ep t) (sb : Heap.SameBut a h h') : Txs P w h' k b := by
  obtain ⟨es, ep, t, hd⟩ := hd
  obtain ⟨o', items, n, ho', hc, hd', hi⟩ := hb
  refine ⟨o', items, n, (sb.2 b ?_).trans ho', hc, hd', hi⟩
  rintro rfl
  obtain rfl : o' = o := Option.some.inj (ho'.symm.trans ho)
  rw [hd] at hd'
  exact nomatch hd'
theorem txs_up {h h' : Heap} {k : List Str} {b : Addr} (x : Txs P w h k b) (hk : ∀ c o, h.get? c = some o → h'.get? c = some o) : Txs P w h' k b := let ⟨o, items, n, ho, r⟩ := x; ⟨o, items, n, hk b o ho, r⟩
theorem tab_plain {t : SetTable} {hs : List Int} (T : TabOk t hs) (c : Bool) : TabOk { t with plain := c } hs := ⟨T.ris, T.dm, T.sz, T.mok, T.bd, T.reach⟩

/-- the rows in another order -/
theorem rows_order (L : List (Addr × List Str)) (es : Array (Int × Value)) (he : es.toList = rowsP P w L) : ∀ l : List Nat, (∀ i ∈ l, i < L.length) →
    ∃ L2, l.filterMap (fun i => es[i]?) = rowsP P w L2 ∧ L2 = l.filterMap (fun i => L[i]?) ∧ hashP P w L2 = l.map fun i => (es.map (·.1)).getD i 0
  | [], _ => ⟨[], rfl, rfl, rfl⟩
  | i :: l, hl => by
    have hi := hl i List.mem_cons_self
    obtain ⟨L2, q1, q2, q3⟩ := rows_order L es he l fun j hj => hl j (List.mem_cons_of_mem _ hj)
    have ei := ents_at he (List.getElem?_eq_getElem hi)
    refine ⟨L[i] :: L2, ?_, ?_, ?_⟩
    · rw [List.filterMap_cons_some ei, q1]
      rfl
    · rw [List.filterMap_cons_some (List.getElem?_eq_getElem hi), q2]
    · have z : (es.map (·.1))[i]? = some (txH P w (L[i]).2) := by
        rw [Array.getElem?_map, ei]
        rfl
      show txH P w (L[i]).2 :: hashP P w L2 = _ :: _
      rw [q3]
      congr 1
      simp [Array.getD_eq_getD_getElem?, z]
theorem all_back {α : Type} (L : List α) : (List.range L.length).filterMap (fun i => L[i]?) = L := by
  have key : ∀ n, n ≤ L.length → (List.range n).filterMap (fun i => L[i]?) = L.take n := by
    intro n
    induction n with
    | zero => exact fun _ => rfl
    | succ n ih =>
      intro hn
      rw [List.range_succ, List.filterMap_append, ih (Nat.le_of_lt hn), List.take_succ, List.getElem?_eq_getElem hn, List.filterMap_cons_some (List.getElem?_eq_getElem hn)]
      rfl
  rw [key L.length (Nat.le_refl _), List.take_length]

/-- laid anew in a larger table -/
theorem relay_new {o : Obj} (ho : s.heap.get? S = some o) (hex : o.ExactSet) (hd : o.data = .set es ep t) (he : es.toList = rowsP P w L) (hsz : t.place.size = es.size) (hdm : t.dummies = #[]) (hfl : es.size ≤ t.mask)
    (tk : ∀ p ∈ L, Txs P w s.heap p.2 p.1) (ld : w.params.followText "set-order" = true ∨ t.led = true) (few : L.length < 64) {wanted M : Nat} (hw : SetTable.sizeAbove wanted - 1 = M) (hM : MaskOk M) (hw2 : SetTable.sizeAbove wanted ≤ 128) (hn : L.length * 5 < M * 3) {Q : Unit → Shared → Prop}
    (q : ∀ h' L' es' ep' t', Heap.SameBut S s.heap h' → PSet P w h' S L' es' ep' t' → L'.Perm L → Q () { s with heap := h' }) : wpAny (model P w) B (setRelay S wanted) Q E s := by
  have el := ents_size he
  obtain ⟨t', order, e, pm, T, em, eled, _, _⟩ := relaid_ok t (hs := es.map (·.1)) (wanted := wanted) hw hM (by rw [Array.size_map, el]; omega)
  rw [Array.size_map, el] at pm
  obtain ⟨L2, r1, r2, r3⟩ := rows_order L es he order.toList fun i hi => List.mem_range.mp (pm.mem_iff.mp hi)
  rw [← r3] at T
  have p2 : L2.Perm L := by
    have z := pm.filterMap (fun i => L[i]?)
    rw [all_back] at z
    rw [r2]
    exact z
  have r1' : (order.filterMap (es[·]?)).toList = rowsP P w L2 := by rw [Array.toList_filterMap]; exact r1
  have s2 := ents_size r1'
  rw [p2.length_eq] at s2
  rw [setRelay_eq]
  refine wpAny_bind (wpAny_setState_of ho hd (fits_of (n := 0) hsz hdm hfl) ?_)
  dsimp only
  refine wp_if_neg (by rw [sizeLine_eq]; omega) ?_
  rw [e]
  dsimp only
  refine wpAny_bind ?_
  refine wp_if_neg (by rw [s2, el]; simp) ?_
  refine wpAny_pure ?_
  dsimp only
  refine wpAny_storeSet_of ho hd ?_ (by rw [s2, sizeLine_eq]; omega)
  have sb : Heap.SameBut S s.heap (s.heap.update S (Obj.putSet (order.filterMap (es[·]?)) t')) := Heap.SameBut.update ..
  refine q _ L2 _ (ep + 1) t' sb ⟨⟨_, store_at ho hd, ⟨hex.1, hex.2.1, hex.2.2⟩, rfl⟩, r1', T, fun p hp => txs_but (tk p (p2.mem_iff.mp hp)) ho ⟨_, _, _, hd⟩ sb, ?_, ?_, ?_⟩ p2
  · rw [eled]
    exact ld
  · rw [p2.length_eq, em]
    exact hn
  · rw [p2.length_eq]
    exact few

/-- one more -/
theorem add_new (R : PSet P w s.heap S L es ep t) {x : Addr} {k : List Str} (hx : Txs P w s.heap k x) (hu : B.units < cLine) (hn : k ∉ L.map (·.2)) (few : L.length + 1 < 64) {Q : Bool → Shared → Prop}
    (q : ∀ b h' L' es' ep' t', Heap.SameBut S s.heap h' → PSet P w h' S L' es' ep' t' → L'.Perm ((x, k) :: L) → Q b { s with heap := h' }) :
    wpAny (model P w) B (setAddHashed S (.ref x) (txH P w k)) Q E s := by
  obtain ⟨o, ho, hex, hd⟩ := R.here
  have el := ents_size R.ents
  have wd := R.wide
  unfold setAddHashed
  refine wpAny_holding ?_
  rw [show (100000 : Nat) = 99999 + 1 from rfl, setAddHashedIn_succ]
  refine wpAny_bind (wpAny_setState_of ho hd R.fits ?_)
  dsimp only
  refine wp_if_neg (by simp [byScan, Value.scannable]) ?_
  refine wpAny_bind (search_new R hx hu hn fun K hK hb => ?_)
  dsimp only
  refine wpAny_bind (wpAny_setState_of ho hd R.fits ?_)
  dsimp only
  obtain ⟨e1, le1, T1, em, eled, _, _, _, efill⟩ := R.table.put hK hb
  generalize hpt : t.put (way t.mask (txH P w k) K) = pt at e1 T1 em eled efill ⊢
  obtain ⟨t1, p⟩ := pt
  dsimp only at e1 T1 em eled efill ⊢
  have ein : (SetTable.insertAt es p (txH P w k, Value.ref x)).toList = rowsP P w (L.take p ++ (x, k) :: L.drop p) := by
    rw [SetTable.toList_insertAt, R.ents]
    show _ = List.map _ _
    rw [List.map_append, List.map_cons, List.map_take, List.map_drop]
  rw [← e1] at T1
  have hashes : hashP P w (L.take p ++ (x, k) :: L.drop p) = (hashP P w L).take p ++ txH P w k :: (hashP P w L).drop p := by
    show List.map _ _ = _
    rw [List.map_append, List.map_cons, List.map_take, List.map_drop]
  rw [← hashes] at T1
  have pm : (L.take p ++ (x, k) :: L.drop p).Perm ((x, k) :: L) := by
    have z : (L.take p ++ (x, k) :: L.drop p).Perm ((x, k) :: (L.take p ++ L.drop p)) := List.perm_middle
    rwa [List.take_append_drop] at z
  have len1 : (L.take p ++ (x, k) :: L.drop p).length = L.length + 1 := pm.length_eq
  have es1 := ents_size ein
  rw [len1] at es1
  generalize SetTable.insertAt es p (txH P w k, Value.ref x) = en at ein es1 ⊢
  generalize L.take p ++ (x, k) :: L.drop p = Ln at pm len1 T1 ein
  -- whatever is held of the values' hashes
  have fin : ∀ c : Bool, wpAny (model P w) B (do
      let t1 := if c then t1 else { t1 with plain := false }
      storeSet S en t1
      if !false && t1.tooFull then setRelay S (SetTable.grown (es.size + 1))
      return true) Q E s := by
    intro c
    have Tc : TabOk (if c then t1 else { t1 with plain := false }) (hashP P w Ln) := by
      cases c
      · exact tab_plain T1 false
      · exact T1
    have mc : (if c then t1 else { t1 with plain := false }).mask = t.mask := by cases c <;> exact em
    have lc : (if c then t1 else { t1 with plain := false }).led = t.led := by cases c <;> exact eled
    have fc : (if c then t1 else { t1 with plain := false }).fill = L.length + 1 := by
      rw [List.length_map] at efill
      cases c <;> exact efill
    dsimp only
    generalize (if c then t1 else { t1 with plain := false }) = tc at Tc mc lc fc ⊢
    refine wpAny_bind (wpAny_storeSet_of ho hd ?_ (by rw [es1, sizeLine_eq]; omega))
    have sb : Heap.SameBut S s.heap (s.heap.update S (Obj.putSet en tc)) := Heap.SameBut.update ..
    have ho1 := store_at (es' := en) (t' := tc) ho hd
    generalize s.heap.update S (Obj.putSet en tc) = h1 at sb ho1 ⊢
    have keys1 : ∀ p ∈ Ln, Txs P w h1 p.2 p.1 := fun p hp => by
      rcases List.mem_cons.mp (pm.mem_iff.mp hp) with e | hp
      · rw [e]
        exact txs_but hx ho ⟨_, _, _, hd⟩ sb
      · exact txs_but (R.keys p hp) ho ⟨_, _, _, hd⟩ sb
    have led1 : w.params.followText "set-order" = true ∨ tc.led = true := by rw [lc]; exact R.ledger
    have sz1 : tc.place.size = en.size := by
      have z := Tc.sz
      rw [List.length_map, len1] at z
      rw [z, es1]
    by_cases full : tc.tooFull = true
    · have hfull : (L.length + 1) * 5 ≥ tc.mask * 3 := by
        have z := full
        unfold SetTable.tooFull at z
        rwa [decide_eq_true_eq, fc] at z
      rw [mc] at hfull
      have two : (t.mask = 7 ∧ L.length = 4) ∨ (t.mask = 31 ∧ L.length = 18) := by
        rcases R.table.mok with e | e | e <;> rw [e] at hfull wd
        · exact .inl ⟨e, by omega⟩
        · exact .inr ⟨e, by omega⟩
        · omega
      have go : ∀ M, SetTable.sizeAbove (SetTable.grown (L.length + 1)) - 1 = M → MaskOk M → SetTable.sizeAbove (SetTable.grown (L.length + 1)) ≤ 128 → (L.length + 1) * 5 < M * 3 →
          wpAny (model P w) B (setRelay S (SetTable.grown (L.length + 1))) (fun _ s' => wpAny (model P w) B (pure true) Q E s') E { s with heap := h1 } := by
        intro M h1' h2' h3' h4'
        refine relay_new (s := { s with heap := h1 }) ho1 ⟨hex.1, hex.2.1, hex.2.2⟩ rfl ein sz1 Tc.dm (by rw [es1, mc]; rcases two with ⟨e, e2⟩ | ⟨e, e2⟩ <;> omega) keys1 led1 (by rw [len1]; exact few) h1' h2' h3' (by rw [len1]; exact h4') fun h2 L2 es2 ep2 t2 sb2 R2 pm2 => ?_
        exact wpAny_pure (q true h2 L2 es2 ep2 t2 (sb.trans sb2) R2 (pm2.trans pm))
      rw [el]
      first
        | (refine wpAny_bind ?_; refine wp_if_pos (by simp [full]) ?_)
        | (refine wp_if_pos (by simp [full]) ?_; refine wpAny_bind ?_)
      rcases two with ⟨_, e2⟩ | ⟨_, e2⟩
      · exact go 31 (by rw [e2, size_20]) (.inr (.inl rfl)) (by rw [e2, size_20]; decide) (by omega)
      · exact go 127 (by rw [e2, size_76]) (.inr (.inr rfl)) (by rw [e2, size_76]; decide) (by omega)
    · have room : Ln.length * 5 < tc.mask * 3 := by
        have z := full
        unfold SetTable.tooFull at z
        rw [decide_eq_true_eq, fc] at z
        rw [len1]
        omega
      have fin : Q true { s with heap := h1 } := q true h1 Ln en (ep + 1) tc sb ⟨⟨_, ho1, ⟨hex.1, hex.2.1, hex.2.2⟩, rfl⟩, ein, Tc, keys1, led1, room, by rw [len1]; exact few⟩ pm
      first
        | exact wp_if_neg (by simp [full]) (wpAny_pure fin)
        | (refine wpAny_bind ?_; exact wp_if_neg (by simp [full]) (wpAny_pure (wpAny_pure fin)))
  by_cases pl : t1.plain = true
  · first
      | (refine wpAny_bind ?_; refine wp_if_pos pl ?_; exact val_txs hx fun c => fin c)
      | exact wp_if_pos pl (wpAny_bind (val_txs hx fun c => fin c))
  · first
      | (refine wpAny_bind ?_; refine wp_if_neg pl ?_; exact wpAny_pure (fin true))
      | exact wp_if_neg pl (fin true)
end
end K14
set_option maxHeartbeats 2000000
/-! sorted of a list or a tuple: of texts, of pairs of texts -/
namespace K14
open PySem L2
open PySem.Spec PyProof.Rows

section
variable {prog : Program} {w : World} {A : Around} {E : Value → Shared → Prop} {s : Shared}
/-- a new list of the items is sorted in place, whatever sequence they stood in -/
theorem sorted_seq {l : Addr} {T : String} {o : Obj} {items : Array Value} {n : Nat} (hT : T = "list" ∨ T = "tuple") (ho : s.heap.get? l = some o) (hc : o.cls = .type T) (hd : o.data = .seq items n) (hL : items.size ≤ sizeLine) {Q : Value → Shared → Prop}
    (body : ∀ (g : Heap) (E' : Value → Shared → Prop), (∀ b u, s.heap.get? b = some u → g.get? b = some u) →
      wpAny (model prog w) A.in1.in1 (Builtin.«list.sort» ⟨[.ref g.objs.size], []⟩) (fun f s' => f = .done (.ret .none) ∧ Q (.ref g.objs.size) s') E' { s with heap := g.push (seqObj "list" items.toList.toArray 0) }) :
    wpAny (model prog w) A (call (.builtin "sorted") [.ref l]) Q E s := by
  refine Calls.call_function_entry kind_sorted plain_sorted entry_sorted (args_sorted1 _) ?_
  unfold Builtin.«sorted»
  refine wpAny_bind (m := checkCount "sorted" 1 1 _) (wpAny_pure ?_)
  refine wpAny_bind (wpAny_collect_seq l hT ho hc hd (fun g hk => ?_) hL)
  refine wpAny_bind (wpAny_newList ?_ (by rw [Array.length_toList]; exact hL))
  have hat : (g.push (seqObj "list" items.toList.toArray 0)).get? g.objs.size = some (seqObj "list" items.toList.toArray 0) := Heap.get?_push_size _ rfl
  show wpAny _ _ _ _ _ { s with heap := g.push (seqObj "list" items.toList.toArray 0) }
  refine wpAny_bind (wpAny_holding (wpAny_call_entry slot_list_sort ⟨_, hat, rfl⟩ entry_list_sort ?_ (args_list_sort _)))
  refine wpAny_mono (body g _ hk) (fun f s' hf => ?_) fun _ _ e => e
  obtain ⟨rfl, hq⟩ := hf
  exact ⟨_, rfl, wpAny_pure ⟨_, rfl, hq⟩⟩
end

section
variable {X : Cx}
/-- a list or a tuple that is read -/
def SqA (K : PySem.W.Frag) (H : Hp) (a : Addr) (xs : List V) : Prop := SqL K H a xs ∨ SqT K H a xs
theorem Inv.seqA {pins : List (Addr × Obj)} {σ : L2.St} {H : Hp} {s : Shared} {a : Addr} {xs : List V} (I : Inv X pins σ H s) (h : SqA X.K H a xs) :
    ∃ (its : List Value) (T : String) (o : Obj) (n : Nat), Vals xs its ∧ (T = "list" ∨ T = "tuple") ∧ s.heap.get? a = some o ∧ o.cls = .type T ∧ o.data = .seq its.toArray n ∧ xs.length ≤ sizeLine := by
  rcases h with h | h
  · obtain ⟨its, r, pl, hz⟩ := I.list h
    obtain ⟨o, ho, hc, n, hd⟩ := pl.isList
    exact ⟨its, "list", o, n, r, .inl rfl, ho, hc, hd, hz⟩
  · obtain ⟨its, r, ⟨o, ho, hc, n, hd⟩, hz⟩ := I.tuple h
    exact ⟨its, "tuple", o, n, r, .inr rfl, ho, hc, hd, hz⟩

/-- sorted(texts): some arrangement of them in order -/
def rSortTx (K : PySem.W.Frag) : List V → Hp → VK → Prop := fun vs H Q => ∃ (a : Addr) (xs : List Str), vs = [V.ref a] ∧ SqA K H a (xs.map V.str) ∧ xs.length < 64 ∧
  ∀ (ys : List Str) (p : Addr), ys.Perm xs → sortedS ys = true → H p = none → Q (.ref p) (upd H p (.lst (ys.map V.str)))
theorem cr_sortTx : CallR X (.builtin "sorted") (rSortTx X.K) := by
  intro pins s σ H vs us Q I r h
  obtain ⟨a, xs, rfl, hs, few, q⟩ := h
  obtain ⟨its, T, o, n, rv, hT, ho, hc, hd, hz⟩ := Inv.seqA I hs
  rw [Vals.ref1 r]
  have hal : its.length = xs.length := by
    have e := rv.length
    rw [List.length_map] at e
    exact e.symm
  have hS := rv.strs
  refine sorted_seq hT ho hc hd (by rw [List.size_toArray, hal]; exact small64 few) fun g E' hk => ?_
  have hat : (g.push (seqObj "list" its.toArray 0)).get? g.objs.size = some (seqObj "list" its.toArray 0) := Heap.get?_push_size _ rfl
  have Ig : Inv X pins σ H { s with heap := g } := I.kept (t' := s.toks) hk
  refine list_sort_treeK strKind_oneLt (s := { s with heap := g.push (seqObj "list" its.toArray 0) }) hat hS.keysOf (fun v₁ v₂ rest e => keyKind_strs (by rw [← e]; exact hS)) (by rw [hal]; exact few) fun st' hp hsd => ⟨rfl, ?_⟩
  obtain ⟨ys, g1, g2, g3⟩ := sorted_out_str hS hp hsd
  obtain ⟨c, hc'⟩ := sortedHeap_at (vs := its) (out := (arrOf st').map (·.2)) hat
  have hlen : (ys.map V.str).length ≤ sizeLine := by
    rw [List.length_map, g2.length_eq]
    exact small64 few
  refine ⟨.ref g.objs.size, upd H g.objs.size (.lst (ys.map V.str)), Ig.laid (t' := s.toks) (fun b u e => ?_) (Nat.le_refl _) ⟨hlen, ((arrOf st').map (·.2)).toList, c, vals_of_strs g1, by rw [Array.toArray_toList]; exact hc'⟩, rfl, q ys _ g2 g3 (Ig.hok.fresh (Nat.le_refl _))⟩
  have hb := Heap.lt_size e
  rw [sortedHeap_old (Nat.ne_of_lt hb) (by rw [size_push']; exact Nat.lt_succ_of_lt hb)]
  exact Heap.get?_push_of_some _ e

/-- a pair of texts, as it stands -/
abbrev PairT (K : PySem.W.Frag) (H : Hp) (x : Addr × Str × Str) : Prop := SqT K H x.1 [V.str x.2.1, V.str x.2.2]
/-- sorted(pairs): the same tuples, arranged somehow -/
def rSortPr (K : PySem.W.Frag) : List V → Hp → VK → Prop := fun vs H Q => ∃ (a : Addr) (xs : List (Addr × Str × Str)), vs = [V.ref a] ∧ SqA K H a (xs.map fun x => V.ref x.1) ∧ xs.length < 64 ∧ (∀ x ∈ xs, PairT K H x) ∧
  ∀ (ys : List (Addr × Str × Str)) (p : Addr), ys.Perm xs → H p = none → Q (.ref p) (upd H p (.lst (ys.map fun x => V.ref x.1)))
abbrev prData (x : Addr × Str × Str) : PyData := .tuple [.str x.2.1, .str x.2.2]
theorem each_refs : ∀ {xs : List (Addr × Str × Str)} {us : List Value}, Vals (xs.map fun x => V.ref x.1) us → PySem.W.EachIs (fun v b => v = Value.ref b.1) us xs
  | [], us, r => by
    cases r
    exact .nil
  | x :: xs, us, r => by
    cases r with
    | cons r1 r2 => exact .cons r1 (each_refs r2)
theorem vals_each : ∀ {xs : List (Addr × Str × Str)} {us : List Value}, PySem.W.EachIs (fun v b => v = Value.ref b.1) us xs → Vals (xs.map fun x => V.ref x.1) us
  | _, _, .nil => .nil
  | _, _, .cons h1 t => .cons h1 (vals_each t)
theorem each_mem2 {α β : Type} {R S : α → β → Prop} : ∀ {us : List α} {xs : List β}, PySem.W.EachIs R us xs → (∀ u x, x ∈ xs → R u x → S u x) → PySem.W.EachIs S us xs
  | _, _, .nil, _ => .nil
  | _, _, .cons h1 t, f => .cons (f _ _ List.mem_cons_self h1) (each_mem2 t fun u x hx => f u x (List.mem_cons_of_mem _ hx))
theorem reads_pair {pins : List (Addr × Obj)} {σ : L2.St} {H : Hp} {s : Shared} {x : Addr × Str × Str} (I : Inv X pins σ H s) (h : PairT X.K H x) : ∃ as, Reads s.heap (.ref x.1) (prData x) as := by
  obtain ⟨its, r, ⟨o, ho, hc, n, hd⟩, hz⟩ := I.tuple h
  cases r with
  | cons r1 r2 =>
    cases r2 with
    | cons r3 r4 =>
      cases r4
      obtain ⟨t1, rfl⟩ := r1
      obtain ⟨t2, rfl⟩ := r3
      exact ⟨_, .tuple ho hc hd (.cons (.str _ _) (.cons (.str _ _) .nil))⟩
theorem cr_sortPr (hu : X.A.units + 64 < cLine) : CallR X (.builtin "sorted") (rSortPr X.K) := by
  intro pins s σ H vs us Q I r h
  obtain ⟨a, xs, rfl, hs, few, hpr, q⟩ := h
  obtain ⟨its, T, o, n, rv, hT, ho, hc, hd, hz⟩ := Inv.seqA I hs
  rw [Vals.ref1 r]
  have hal : its.length = xs.length := by
    have e := rv.length
    rw [List.length_map] at e
    exact e.symm
  have hsz : its.length ≤ sizeLine := by
    rw [hal]
    exact small64 few
  refine sorted_seq hT ho hc hd (by rw [List.size_toArray]; exact hsz) fun g E' hk => ?_
  have hat : (g.push (seqObj "list" its.toArray 0)).get? g.objs.size = some (seqObj "list" its.toArray 0) := Heap.get?_push_size _ rfl
  have Ig : Inv X pins σ H { s with heap := g } := I.kept (t' := s.toks) hk
  have ers := each_refs rv
  have erd : PySem.W.EachIs (fun v d => ∃ as, Reads (PySem.W.sortingHeap (g.push (seqObj "list" its.toArray 0)) g.objs.size its) v d as) its (xs.map prData) := by
    refine PySem.W.each_map (R := fun v d => ∃ as, Reads (PySem.W.sortingHeap (g.push (seqObj "list" its.toArray 0)) g.objs.size its) v d as) prData (each_mem2 ers fun u x hx e => ?_)
    subst e
    obtain ⟨as, rd⟩ := reads_pair I (hpr x hx)
    refine ⟨as, Reads.keeps (fun b u e => ?_) rd⟩
    have eg := hk b u e
    exact PySem.W.sortingHeap_old (Nat.ne_of_lt (Heap.lt_size eg)) (Heap.get?_push_of_some _ eg)
  have alk : PySem.W.AllAlike (xs.map prData) := PySem.W.AllAlike.of fun b b' => by simp [prData, PySem.W.alike, PySem.W.alikeAll]
  have S := PySem.W.SortsAt.data (prog := X.prog) (w := X.w) (A := X.A.in1.in1) (s := { s with heap := PySem.W.sortingHeap (g.push (seqObj "list" its.toArray 0)) g.objs.size its }) erd alk (PySem.W.Sortable.tuples fun b => ⟨_, _, rfl⟩) (fun d hd => by
    obtain ⟨x, _, rfl⟩ := List.mem_map.mp hd
    have e : (prData x).depth ≤ 4 := by simp [prData, PyData.depth, PyData.depthAll]
    show X.A.units + 1 + 1 + (prData x).depth < cLine
    omega)
  refine PySem.W.list_sort_vals (s := { s with heap := g.push (seqObj "list" its.toArray 0) }) hat S hsz ⟨rfl, ?_⟩
  have eo := PySem.W.sortVals_data (h' := PySem.W.sortingHeap (g.push (seqObj "list" its.toArray 0)) g.objs.size its) (enc := prData) false ers (each_mem2 ers fun u x hx e => by
    subst e
    obtain ⟨as, rd⟩ := reads_pair I (hpr x hx)
    refine ⟨as, Reads.keeps (fun b u e => ?_) rd⟩
    have eg := hk b u e
    exact PySem.W.sortingHeap_old (Nat.ne_of_lt (Heap.lt_size eg)) (Heap.get?_push_of_some _ eg)) alk
  generalize PySem.W.sortVals (PySem.W.dataKind (PySem.W.sortingHeap (g.push (seqObj "list" its.toArray 0)) g.objs.size its) (xs.map prData)) false its its = out at eo
  have pm : (xs.mergeSort (PySem.W.dataLe false prData)).Perm xs := List.mergeSort_perm _ _
  generalize xs.mergeSort (PySem.W.dataLe false prData) = ys at eo pm
  obtain ⟨c, hc'⟩ := sortedHeap_at (vs := its) (out := out.toArray) hat
  have hlen : (ys.map fun x => V.ref x.1).length ≤ sizeLine := by
    rw [List.length_map, pm.length_eq]
    exact small64 few
  refine ⟨.ref g.objs.size, upd H g.objs.size (.lst (ys.map fun x => V.ref x.1)), Ig.laid (t' := s.toks) (fun b u e => ?_) (Nat.le_refl _) ⟨hlen, out, c, vals_each eo, hc'⟩, rfl, q ys _ pm (Ig.hok.fresh (Nat.le_refl _))⟩
  have hb := Heap.lt_size e
  rw [sortedHeap_old (Nat.ne_of_lt hb) (by rw [size_push']; exact Nat.lt_succ_of_lt hb)]
  exact Heap.get?_push_of_some _ e
end
end K14
set_option maxHeartbeats 2000000
/-! len(set(pairs)), all different -/
namespace K14
open PySem L2
open PySem.Spec PyProof.Rows

section
variable {prog : Program} {w : World}
theorem pset_new {h : Heap} {S : Addr} (e : h.get? S = some (setO w)) : PSet prog w h S [] #[] 0 (.fresh 0 0 (!w.params.followText "set-order")) where
  here := ⟨_, e, ⟨rfl, rfl, rfl⟩, rfl⟩
  ents := rfl
  table := ⟨List.Pairwise.nil, rfl, rfl, .inl rfl, fun x hx => (nomatch hx), fun i h j hi => by simp at hi⟩
  keys p hp := nomatch hp
  ledger := by
    show _ ∨ (!w.params.followText "set-order") = true
    cases w.params.followText "set-order"
    · exact .inr rfl
    · exact .inl rfl
  wide := by show 0 * 5 < 7 * 3; decide
  small := by show 0 < 64; decide
theorem PSet.stay {h h' : Heap} {S : Addr} {L : List (Addr × List Str)} {es : Array (Int × Value)} {ep : Nat} {t : SetTable} (R : PSet prog w h S L es ep t) (hS : ∀ o, h.get? S = some o → h'.get? S = some o) (hk : ∀ p ∈ L, Txs prog w h' p.2 p.1) : PSet prog w h' S L es ep t := by
  obtain ⟨o, ho, r⟩ := R.here
  exact ⟨⟨o, hS o ho, r⟩, R.ents, R.table, hk, R.ledger, R.wide, R.small⟩
theorem adds_pairs {ks : List (Addr × List Str)} {us : List Value} (g : Heap) (S : Addr) (lim : Nat) (hl : lim < cLine) (hus : us = ks.map fun p => Value.ref p.1) (hk : ∀ p ∈ ks, Txs prog w g p.2 p.1) (nd : (ks.map (·.2)).Nodup) (few : ks.length < 64) :
    Adds prog w us lim g S (fun i h => ∃ L es ep t, PSet prog w h S L es ep t ∧ L.length = i ∧ ∀ p ∈ L, p ∈ ks.take i) where
  start h e _ := ⟨[], #[], 0, _, pset_new e, rfl, fun p hp => nomatch hp⟩
  keep i h h' st hS hg := by
    obtain ⟨L, es, ep, t, R, e, m⟩ := st
    exact ⟨L, es, ep, t, R.stay hS fun p hp => txs_up (hk p (List.mem_of_mem_take (m p hp))) hg, e, m⟩
  add B i v s E Q hB hv st hg hQ := by
    obtain ⟨L, es, ep, t, R, e, m⟩ := st
    obtain ⟨p, hp, rfl⟩ : ∃ p, ks[i]? = some p ∧ v = .ref p.1 := by
      rw [hus, List.getElem?_map] at hv
      cases q : ks[i]? with
      | none =>
        rw [q] at hv
        cases hv
      | some p =>
        rw [q] at hv
        exact ⟨p, rfl, (Option.some.inj hv).symm⟩
    have hi : i < ks.length := (List.getElem?_eq_some_iff.mp hp).1
    have hx : Txs prog w s.heap p.2 p.1 := txs_up (hk p (List.mem_of_getElem? hp)) hg
    have tk : ks.take (i + 1) = ks.take i ++ [p] := by rw [List.take_succ, hp]; rfl
    have nin : p.2 ∉ L.map (·.2) := by
      intro hm
      obtain ⟨p', hp', ee⟩ := List.mem_map.mp hm
      have z := nd
      rw [← List.take_append_drop (i + 1) ks, tk, List.map_append, List.map_append] at z
      have z1 := (List.nodup_append.mp z).1
      exact (List.nodup_append.mp z1).2.2 p'.2 (List.mem_map_of_mem (m p' hp')) p.2 (by simp) ee
    have hu : B.units < cLine := Nat.lt_of_le_of_lt hB hl
    unfold setAdd
    refine wpAny_holding ?_
    refine wpAny_bind (wpAny_pyHash_tuple hu hx ?_)
    refine add_new (s := { s with toks := s.toks + (p.2.length + 1) }) R hx hu nin (by omega) fun b h' L' es' ep' t' sb R' pm => ?_
    refine hQ b h' _ (Nat.le_add_right _ _) sb ⟨L', es', ep', t', R', by rw [pm.length_eq, List.length_cons, e], fun q hq => ?_⟩
    rw [tk]
    rcases List.mem_cons.mp (pm.mem_iff.mp hq) with z | z
    · rw [z]
      exact List.mem_append_right _ (List.mem_singleton.mpr rfl)
    · exact List.mem_append_left _ (m q z)
  last h st := by
    obtain ⟨L, es, ep, t, R, e, _⟩ := st
    obtain ⟨o, ho, hex, hd⟩ := R.here
    exact ⟨o, es, ep, t, ho, hex, hd, R.fits, by rw [ents_size R.ents]; exact e⟩
end

section
variable {X : Cx}
theorem items_of_strs {P : Program} {w : World} : ∀ {k : List Str} {us : List Value}, Vals (k.map V.str) us → ItemsAre (SK P w) k us
  | [], _, .nil => .nil
  | x :: k, _, .cons r t => by
    obtain ⟨t', rfl⟩ := r
    exact .cons (strKind_is _ _ _ _) (items_of_strs t)
theorem Inv.txs {pins : List (Addr × Obj)} {σ : L2.St} {H : Hp} {s : Shared} {b : Addr} {k : List Str} (I : L2.Inv X pins σ H s) (h : SqT X.K H b (k.map V.str)) : Txs X.prog X.w s.heap k b := by
  obtain ⟨its, r, ⟨o, ho, hc, n, hd⟩, _⟩ := I.tuple h
  exact ⟨o, its.toArray, n, ho, hc, hd, by simpa using items_of_strs r⟩
abbrev prKey (x : Addr × Str × Str) : Addr × List Str := (x.1, [x.2.1, x.2.2])
theorem refs_vals : ∀ {xs : List (Addr × Str × Str)} {us : List Value}, Vals (xs.map fun x => V.ref x.1) us → us = (xs.map prKey).map fun p => Value.ref p.1
  | [], _, .nil => rfl
  | x :: xs, _, .cons r t => by
    cases r
    rw [refs_vals t]
    rfl
/-- len(set(pairs)), all different -/
def tLenSetPr (K : PySem.W.Frag) (ta : TE) : TE := fun σ H Q => ta σ H fun x H1 => ∃ (l : Addr) (xs : List (Addr × Str × Str)), x = .ref l ∧ SqT K H1 l (xs.map fun x => V.ref x.1) ∧ (∀ x ∈ xs, PairT K H1 x) ∧ (xs.map (·.2)).Nodup ∧ xs.length < 64 ∧ Q (.int xs.length) H1
theorem pe_lenSetPr {a : Expr} {ta : TE} {p p2 q pos : Pos} (hc : X.calm = true) (hu : X.A.units + 64 < cLine) (hg : Gl X "len") (hm : X.mg "len" = none) (hg2 : Gl X "set") (hm2 : X.mg "set" = none) (ha : PE X a ta)
    (na : starEach [a] X.env = (false, eval a X.env) :: starEach [] X.env := by rfl) : PE X (.Call (.Name "len" p) [.Call (.Name "set" p2) [a] [] q] [] pos) (tLenSetPr X.K ta) :=
  pe_of (pe_lenSetBy hc hg hm hg2 hm2 (pe_up ha) na) fun σ H Q h => ⟨_, h, fun x H1 ⟨l, xs, e, hq, hp, nd, few, q⟩ =>
    ⟨l, xs.map fun x => V.ref x.1, e, hq, fun pins s us I r => ⟨_, adds_pairs (ks := xs.map prKey) s.heap _ _ (by omega) (refs_vals r) (fun p hpm => by
      obtain ⟨y, hy, rfl⟩ := List.mem_map.mp hpm
      exact Inv.txs I (hp y hy)) (by
      rw [List.map_map]
      have e2 : (xs.map ((fun x => x.2) ∘ prKey)) = (xs.map (·.2)).map fun z => [z.1, z.2] := by rw [List.map_map]; rfl
      rw [e2]
      exact List.Pairwise.map _ (fun a b hne e => hne (by
        cases a; cases b
        simp at e
        simp [e])) nd) (by rw [List.length_map]; exact few)⟩, by rw [List.length_map]; exact few, by rw [List.length_map]; exact q⟩⟩
end
end K14
set_option maxHeartbeats 2000000
/-! (d, e) != (f, g) where d equals f and e equals g: dicts from texts to tuples of whole numbers -/
namespace PySem.SeqAt
open AutoSeq1 (wpAny_loadPart')
open MeetsSeq MeetsSeq2 MeetsSeq3 SeqRoads2
section
variable {prog : Program} {w : World}
/-- tuples of one length, equal place by place -/
theorem k14_tuple_ne (l b : Addr) (xs ys : Array Value) (n m : Nat) (dl db : Option Addr) (sl sb : Array (Option Value)) (hz : xs.size = ys.size) :
    MeetsIn prog w (Builtin.«tuple.__ne__» ⟨[.ref l, .ref b], []⟩)
      (fun A R s => s.heap.get? l = some { cls := .type "tuple", dict := dl, data := .seq xs n, slots := sl } ∧ s.heap.get? b = some { cls := .type "tuple", dict := db, data := .seq ys m, slots := sb } ∧
        (∀ j (h1 : j < xs.size) (h2 : j < ys.size), EqIn prog w A.in1 s xs[j] ys[j] true) ∧ R (.ok (.ret (.bool false))) s) := by
  intro A R s h
  obtain ⟨hp, g, d, tk, os⟩ := s
  obtain ⟨hl, hb, he, h⟩ := h
  have sub2 := AutoSeq1.sub_tuple_tuple
  wp_walk using wpAny_loadPart' hl, wpAny_loadPart' hb, wpAny_forIn_list _ (fun rest r s' => r.1 = none ∧ s' = ⟨hp, g, d, tk, os⟩ ∧ ∃ i, rest = (xs.toList.zip ys.toList).drop i) _
  case turn =>
    rintro ⟨y, x⟩ rest r s' ⟨_, rfl, i, hzp⟩
    have hlt : i < (xs.toList.zip ys.toList).length := by
      rcases Nat.lt_or_ge i (xs.toList.zip ys.toList).length with q | q
      · exact q
      · rw [List.drop_of_length_le q] at hzp
        cases hzp
    have len2 : (xs.toList.zip ys.toList).length = min xs.size ys.size := by simp
    have h1 : i < xs.size := by omega
    have h2 : i < ys.size := by omega
    rw [List.drop_eq_getElem_cons hlt] at hzp
    injection hzp with hyx hrest
    obtain rfl : y = xs[i] := by simpa using congrArg Prod.fst hyx
    obtain rfl : x = ys[i] := by simpa using congrArg Prod.snd hyx
    refine wpAny_bind (he i h1 h2 _ _ ?_)
    wp_walk
    exact ⟨rfl, rfl, i + 1, hrest⟩
  case fin =>
    rintro ⟨r1, r2⟩ s' ⟨e1, rfl, _⟩
    obtain rfl : r1 = none := e1
    wp_walk
    simpa [Builtin.Tuple.tupleCompareSizes, bne, hz] using h
  case h =>
    exact ⟨rfl, rfl, 0, rfl⟩
theorem k14_rc_ne {A : Around} {E : Value → Shared → Prop} {s : Shared} {l b : Addr} {xs ys : Array Value} {Q : Value → Shared → Prop} (hl : s.heap.IsTuple l xs) (hb : s.heap.IsTuple b ys) (hz : xs.size = ys.size) (hu : A.units < cLine)
    (he : ∀ j (h1 : j < xs.size) (h2 : j < ys.size), EqIn prog w A.in1 s xs[j] ys[j] true) (h : Q (.bool false) s) : wpAny (model prog w) A (richCompare .NotEq (.ref l) (.ref b)) Q E s := by
  obtain ⟨⟨cls, dd, data, sl⟩, ho, hc, n, hd⟩ := id hl
  obtain ⟨⟨cls2, dd2, data2, sl2⟩, ho2, hc2, n2, hd2⟩ := id hb
  simp only at hc hd hc2 hd2
  subst hc hd hc2 hd2
  refine wpAny_richCompare_same_room (T := "tuple") (op := .NotEq) ⟨_, ho, rfl⟩ ⟨_, ho2, rfl⟩ F.slot_tuple_ne ?_ hu
  exact call_meetsIn F.slot_tuple_ne ⟨_, ho, rfl⟩ F.entry_tuple_ne (F.args_tuple_ne_2 _ _) (k14_tuple_ne l b xs ys n n2 dd dd2 sl sl2 hz) ⟨ho, ho2, he, show Value.bool false ≠ Value.notImplemented ∧ _ from ⟨(fun x => nomatch x), h⟩⟩
end
end PySem.SeqAt

namespace K14
open PySem L2
open PySem.Spec PyProof.Rows
section
variable {X : Cx} {pins : List (Addr × Obj)} {σ : L2.St} {H : Hp} {s : Shared}
theorem vals_at_int : ∀ {ns : List Int} {us : List Value}, Vals (ns.map V.int) us → ∀ (j : Nat) (h : j < us.length), ∃ k t, ns[j]? = some k ∧ us[j] = .int k t
  | [], _, .nil, j, h => absurd h (Nat.not_lt_zero _)
  | n :: ns, _, .cons r t, 0, h => by
    obtain ⟨tk, rfl⟩ := r
    exact ⟨n, tk, rfl, rfl⟩
  | n :: ns, _, .cons r t, j + 1, h => by
    obtain ⟨k, tk, e1, e2⟩ := vals_at_int t j (by simpa using h)
    exact ⟨k, tk, by simpa using e1, by simpa using e2⟩
theorem tree_ints {a b : Addr} {ns : List Int} (I : L2.Inv X pins σ H s) (ha : SqT X.K H a (ns.map V.int)) (hb : SqT X.K H b (ns.map V.int)) : PySem.W.EqTree X.prog X.w s 1 (.ref a) (.ref b) true := by
  by_cases e : a = b
  · rw [e]
    exact .same
  · obtain ⟨us, r1, t1, _⟩ := I.tuple ha
    obtain ⟨vs, r2, t2, _⟩ := I.tuple hb
    have l1 := r1.length
    have l2 := r2.length
    have q := PySem.W.EqTree.tuples (prog := X.prog) (w := X.w) (s := s) (n := 0) (e := fun _ => true) e t1 t2 fun j h1 h2 => by
      have g1 : j < us.length := by simpa using h1
      have g2 : j < vs.length := by simpa using h2
      obtain ⟨k, t, q1, q2⟩ := vals_at_int r1 j g1
      obtain ⟨k', t', q3, q4⟩ := vals_at_int r2 j g2
      obtain rfl : k = k' := Option.some.inj (q1.symm.trans q3)
      rw [show us.toArray[j] = Value.int k t by simpa using q2, show vs.toArray[j] = Value.int k t' by simpa using q4]
      have f := fun A : Around => PySem.W.keq_flat (A := A) (s := s) (v := .int k t) (y := .int k t') (d := .int k) (e := .int k) (.int _ _) (.int _ _)
      exact .leaf fun A _ => by
        have z := f A
        rwa [show PyData.eqv (.int k) (.int k) = true by simp [PyData.eqv]] at z
    have e2 : ((List.range (min us.toArray.size vs.toArray.size)).all (fun _ => true) && us.toArray.size == vs.toArray.size) = true := by
      have : us.length = vs.length := by omega
      simp [this]
    rwa [e2] at q
/-- two placings alike: as many entries, and at each key tuples of the same numbers -/
def SamePl (K : PySem.W.Frag) (H : Hp) (a b : Addr) : Prop := ∃ ka kb, H a = some (.dK ka) ∧ H b = some (.dK kb) ∧ ka.length = kb.length ∧ ∀ p ∈ ka, ∃ (t t' : Addr) (ns : List Int), p.2 = .ref t ∧ valV kb p.1 = some (.ref t') ∧ SqT K H t (ns.map V.int) ∧ SqT K H t' (ns.map V.int)
theorem kv_mem : ∀ {ks : List (Key × V)} {vs : List (Key × Value)} {k : Key} {u : Value}, KV ks vs → (k, u) ∈ vs → ∃ v, (k, v) ∈ ks ∧ RelV v u
  | _, _, _, _, .cons (a := x) (b := y) r t, hm => by
    rcases List.mem_cons.mp hm with e | hm
    · obtain ⟨e1, e2⟩ := r
      subst e
      obtain ⟨xk, xv⟩ := x
      cases e1
      exact ⟨xv, List.mem_cons_self, e2⟩
    · obtain ⟨v, h1, h2⟩ := kv_mem t hm
      exact ⟨v, List.mem_cons_of_mem _ h1, h2⟩
theorem kv_val : ∀ {ks : List (Key × V)} {vs : List (Key × Value)}, KV ks vs → ∀ (k : Key), RelO (valV ks k) (PySem.valueAt vs k) := fun r k => KV.val r k
theorem tree_pl {a b : Addr} (I : L2.Inv X pins σ H s) (h : SamePl X.K H a b) : PySem.W.EqTree X.prog X.w s 2 (.ref a) (.ref b) true := by
  by_cases e : a = b
  · rw [e]
    exact .same
  · obtain ⟨ka, kb, ea, eb, hl, hp⟩ := h
    obtain ⟨_, ya, va, ra, da⟩ := (show ObjOk X.prog X.w H s.heap a (.dK ka) from I.hok a _ ea)
    obtain ⟨_, yb, vb, rb, db⟩ := (show ObjOk X.prog X.w H s.heap b (.dK kb) from I.hok b _ eb)
    have found : ∀ k u, (k, u) ∈ va → ∃ u', PySem.valueAt vb k = some u' ∧ PySem.W.EqTree X.prog X.w s 1 u u' true := by
      intro k u hm
      obtain ⟨v, hv, rv⟩ := kv_mem ra hm
      obtain ⟨t, t', ns, e1, e2, s1, s2⟩ := hp _ hv
      obtain rfl : v = .ref t := e1
      cases rv
      have q := kv_val rb k
      rw [show valV kb k = some (.ref t') from e2] at q
      cases hq : PySem.valueAt vb k with
      | none =>
        rw [hq] at q
        exact q.elim
      | some u' =>
        rw [hq] at q
        obtain rfl : u' = Value.ref t' := q
        exact ⟨_, rfl, tree_ints I s1 s2⟩
    have q := PySem.W.EqTree.dicts (prog := X.prog) (w := X.w) (s := s) (n := 1) (e := fun _ => true) (knd := mixKind X.prog X.w) e ya yb da db fun k v y hm hy => by
      obtain ⟨u', h1, h2⟩ := found k v hm
      obtain rfl : u' = y := Option.some.inj (h1.symm.trans hy)
      exact h2
    have e2 : (va.length == vb.length && va.all fun p => (PySem.valueAt vb p.1).isSome && (fun _ => true) p.1) = true := by
      have hl2 : va.length = vb.length := by rw [← ra.length, ← rb.length]; exact hl
      rw [Bool.and_eq_true, List.all_eq_true]
      refine ⟨by simp [hl2], fun p hp' => ?_⟩
      obtain ⟨u', h1, _⟩ := found p.1 p.2 hp'
      simp [h1]
    rwa [e2] at q
/-- (d, e) != (f, g), alike: False -/
def rNePD (K : PySem.W.Frag) : R2 := fun x y H Q => ∃ (t u a1 a2 b1 b2 : Addr), x = .ref t ∧ y = .ref u ∧ SqT K H t [.ref a1, .ref a2] ∧ SqT K H u [.ref b1, .ref b2] ∧ SamePl K H a1 b1 ∧ SamePl K H a2 b2 ∧ Q (.bl false) H
theorem op_nePD (hu : X.A.units + 64 < cLine) : OpR X (compareOp .NotEq) (rNePD X.K) := by
  intro pins s σ H x y v u Q I rx ry h
  obtain ⟨t, u', a1, a2, b1, b2, rfl, rfl, ht, hu', s1, s2, q⟩ := h
  obtain rfl : v = Value.ref t := rx
  obtain rfl : u = Value.ref u' := ry
  obtain ⟨us, r1, t1, _⟩ := I.tuple ht
  obtain ⟨vs, r2, t2, _⟩ := I.tuple hu'
  obtain rfl : us = [.ref a1, .ref a2] := by
    cases r1 with
    | cons c1 c2 =>
      cases c2 with
      | cons c3 c4 =>
        cases c4
        cases c1
        cases c3
        rfl
  obtain rfl : vs = [.ref b1, .ref b2] := by
    cases r2 with
    | cons c1 c2 =>
      cases c2 with
      | cons c3 c4 =>
        cases c4
        cases c1
        cases c3
        rfl
  refine PySem.SeqAt.k14_rc_ne t1 t2 rfl (by omega) (fun j h1 h2 => ?_) (fin_bl I q rfl)
  have hA : X.A.in1.units + 2 < cLine := by
    show X.A.units + 1 + 2 < cLine
    omega
  match j, h1 with
  | 0, _ => exact (tree_pl I s1).at _ hA
  | 1, _ => exact (tree_pl I s2).at _ hA
end
end K14
set_option maxHeartbeats 2000000
/-! d == e of dicts with the same tuple keys in the same order, whole numbers as values -/
namespace K14
open PySem L2
open PySem.Spec PyProof.Rows
section
variable {prog : Program} {w : World} {κ : Type} [DecidableEq κ] {knd : HeapKind prog w κ} {A : Around} {E : Value → Shared → Prop} {s : Shared}
/-- the entries' values, as whole numbers -/
def ValsAre (xs : List (κ × Addr × Value)) (ns : List Int) : Prop := Paired (fun x n => ∃ t, x.2.2 = Value.int n t) xs ns
theorem ValsAre.at : ∀ {xs : List (κ × Addr × Value)} {ns : List Int}, ValsAre xs ns → ∀ {i : Nat} {x : κ × Addr × Value}, xs[i]? = some x → ∃ n t, ns[i]? = some n ∧ x.2.2 = Value.int n t
  | _, _, .nil, i, x, h => nomatch h
  | _, _, .cons ⟨t, e⟩ _, 0, x, h => by
    obtain rfl := Option.some.inj h
    exact ⟨_, t, rfl, e⟩
  | _, _, .cons _ r, i + 1, x, h => by
    obtain ⟨n, t, q1, q2⟩ := ValsAre.at r (i := i) (x := x) (by simpa using h)
    exact ⟨n, t, by simpa using q1, q2⟩
theorem pairs_same {nm : String} {a b : Addr} {xs ys : List (κ × Addr × Value)} {ns ms : List Int} {Q : Bool → Shared → Prop} (oka : (a == sysModules) = false) (okb : (b == sysModules) = false) (room : knd.room A)
    (da : s.heap.DictOfH knd a xs) (db : s.heap.DictOfH knd b ys) (keys : xs.map (·.1) = ys.map (·.1)) (va : ValsAre xs ns) (vb : ValsAre ys ms) (h : Q (decide (ns = ms)) s) :
    wpAny (model prog w) A (Builtin.Dict.samePairs nm a b) Q E s := by
  obtain ⟨oa, es, ep, ga, _, dta, ea, isa, nda⟩ := da
  obtain ⟨ob, fs, fp, gb, _, dtb, eb, isb, ndb⟩ := db
  have la : es.size = xs.length := by rw [← Array.length_toList, ea, List.length_map]
  have lb : fs.size = ys.length := by rw [← Array.length_toList, eb, List.length_map]
  have lk : xs.length = ys.length := by
    have z := congrArg List.length keys
    rwa [List.length_map, List.length_map] at z
  have ln : xs.length = ns.length := Paired.length va
  have lm : ys.length = ms.length := Paired.length vb
  unfold Builtin.Dict.samePairs Builtin.Dict.showsAll
  rw [if_neg (show ¬ (a == sysModules) = true by rw [oka]; decide), if_neg (show ¬ (b == sysModules) = true by rw [okb]; decide)]
  refine wpAny_bind (wpAny_pure (wpAny_bind (wpAny_pure ?_)))
  refine wpAny_bind (wpAny_dictEntries ga dta ?_)
  dsimp only
  refine wpAny_bind (wpAny_dictEntries gb dtb ?_)
  rw [if_neg (by rw [la, lb, lk]; simp)]
  refine wpAny_bind (wpAny_dictEpoch ga dta ?_)
  refine wpAny_bind ?_
  rw [Std.Legacy.Range.forIn_eq_forIn_range']
  simp only [Std.Legacy.Range.size, Nat.sub_zero, Nat.add_sub_cancel, Nat.div_one]
  refine wpAny_forIn_list _ (fun rest q s' => s' = s ∧ q = (none, ()) ∧ ∃ i, rest = List.range' i (es.size - i) ∧ i ≤ es.size ∧ ns.take i = ms.take i) _ ?_ ?_ _ _ ⟨rfl, rfl, 0, by simp, Nat.zero_le _, rfl⟩
  · rintro j rest q s' ⟨rfl, rfl, i, hr, hi, pre⟩
    have hlt : i < es.size := by
      rcases Nat.lt_or_ge i es.size with z | z
      · exact z
      · rw [Nat.sub_eq_zero_of_le z] at hr
        simp at hr
    have sp : es.size - i = (es.size - (i + 1)) + 1 := by omega
    rw [sp, List.range'_succ] at hr
    injection hr with h1 h2
    subst h1
    have jx : j < xs.length := by omega
    have jy : j < ys.length := by omega
    have gx : xs[j]? = some xs[j] := List.getElem?_eq_getElem jx
    have gy : ys[j]? = some ys[j] := List.getElem?_eq_getElem jy
    have ek : xs[j].1 = ys[j].1 := by
      have z := congrArg (fun l : List κ => l[j]?) keys
      simpa [gx, gy] using z
    have ent : es[j]? = some (entryOfKey knd xs[j]) := by rw [← Array.getElem?_toList, ea, List.getElem?_map, gx]; rfl
    have entb : fs[j]? = some (entryOfKey knd ys[j]) := by rw [← Array.getElem?_toList, eb, List.getElem?_map, gy]; rfl
    obtain ⟨n, t, q1, q2⟩ := va.at gx
    obtain ⟨m, t', q3, q4⟩ := vb.at gy
    refine wpAny_bind (wpAny_dictEntries ga dta ?_)
    rw [ent]
    dsimp only
    refine wpAny_bind (wpAny_holding (wpAny_bind ?_))
    refine wpAny_dictFind_heap (xs := ys) (k := xs[j].1) room (isa _ (List.getElem_mem jx)) gb dtb eb isb ndb (fun no => ?_) fun j' p hp => ?_
    · exact absurd (show ys[j]? = some (xs[j].1, ys[j].2) by rw [gy, ek]) (no j ys[j].2)
    · have ej : j' = j := by
        have j'y : j' < ys.length := (List.getElem?_eq_some_iff.mp hp).1
        have k1 : (ys.map (·.1))[j']? = some xs[j].1 := by rw [List.getElem?_map, hp]; rfl
        have k2 : (ys.map (·.1))[j]? = some xs[j].1 := by rw [List.getElem?_map, gy, ek]; rfl
        have b1 : j' < (ys.map (·.1)).length := by rw [List.length_map]; exact j'y
        have b2 : j < (ys.map (·.1)).length := by rw [List.length_map]; exact jy
        rw [List.getElem?_eq_getElem b1] at k1
        rw [List.getElem?_eq_getElem b2] at k2
        have z : (ys.map (·.1))[j'] = (ys.map (·.1))[j] := Option.some.inj (k1.trans k2.symm)
        rcases Nat.lt_trichotomy j' j with c | c | c
        · exact absurd z (List.pairwise_iff_getElem.mp ndb j' j b1 b2 c)
        · exact c
        · exact absurd z.symm (List.pairwise_iff_getElem.mp ndb j j' b2 b1 c)
      subst ej
      dsimp only
      refine wpAny_bind (wpAny_dictEntries gb dtb ?_)
      rw [entb]
      dsimp only
      have eq1 : PySem.SeqAt.EqAt A s' (entryOfKey knd xs[j']).val (entryOfKey knd ys[j']).val (decide (n = m)) := by
        have z := PySem.W.keq_flat (A := A) (s := s') (v := .int n t) (y := .int m t') (d := .int n) (e := .int m) (.int _ _) (.int _ _)
        rw [show PyData.eqv (.int n) (.int m) = decide (n = m) by simp only [PyData.eqv]; by_cases e : n = m <;> simp [e]] at z
        show PySem.SeqAt.EqAt A s' xs[j'].2.2 ys[j'].2.2 _
        rw [q2, q4]
        exact z
      refine wpAny_holding (eq1 _ _ _ _ ?_)
      have nj : j' < ns.length := by omega
      have mj : j' < ms.length := by omega
      have en : ns[j'] = n := by
        rw [List.getElem?_eq_getElem nj] at q1
        exact Option.some.inj q1
      have em : ms[j'] = m := by
        rw [List.getElem?_eq_getElem mj] at q3
        exact Option.some.inj q3
      by_cases nm : n = m
      · rw [decide_eq_true nm]
        show wpAny _ _ (if (!true) = true then _ else _) _ _ _
        rw [if_neg (by decide)]
        refine wpAny_bind (wpAny_dictEpoch ga dta ?_)
        rw [if_neg (by simp)]
        refine wpAny_pure ⟨rfl, rfl, j' + 1, h2, hlt, ?_⟩
        rw [List.take_succ, List.take_succ, q1, q3, pre, nm]
      · rw [decide_eq_false nm]
        show wpAny _ _ (if (!false) = true then _ else _) _ _ _
        rw [if_pos (by decide)]
        have ne : ns ≠ ms := fun z => nm (by
          rw [z] at q1
          exact Option.some.inj (q1.symm.trans q3))
        rw [decide_eq_false ne] at h
        exact wpAny_pure (wpAny_pure h)
  · rintro q s' ⟨rfl, rfl, i, hr, hi, pre⟩
    have hin : i = es.size := by
      rcases Nat.lt_or_ge i es.size with z | z
      · have sp : es.size - i = (es.size - (i + 1)) + 1 := by omega
        rw [sp, List.range'_succ] at hr
        exact nomatch hr
      · exact Nat.le_antisymm hi z
    rw [List.take_of_length_le (by omega), List.take_of_length_le (by omega)] at pre
    rw [decide_eq_true pre] at h
    exact wpAny_pure h
theorem dicts_same {a b : Addr} {xs ys : List (κ × Addr × Value)} {ns ms : List Int} {Q : Value → Shared → Prop} (oka : (a == sysModules) = false) (okb : (b == sysModules) = false) (room : knd.room A.in1) (hu : A.units < cLine)
    (da : s.heap.DictOfH knd a xs) (db : s.heap.DictOfH knd b ys) (keys : xs.map (·.1) = ys.map (·.1)) (va : ValsAre xs ns) (vb : ValsAre ys ms) (h : Q (.bool (decide (ns = ms))) s) :
    wpAny (model prog w) A (compareOp .Eq (.ref a) (.ref b)) Q E s := by
  have ty : ∀ {d : Addr} {zs : List (κ × Addr × Value)}, s.heap.DictOfH knd d zs → s.TypeIs (.ref d) "dict" := fun ⟨o, _, _, g, x, _⟩ => ⟨o, g, x.1⟩
  refine wpAny_richCompare_same_room (op := .Eq) (ty da) (ty db) F.slot_dict_eq (wpAny_call_entry F.slot_dict_eq (ty da) F.entry_dict_eq ?_ (F.args_dict_eq_2 _ _)) hu
  show wpAny _ _ (Builtin.Dict.dictSlotArgs "__eq__" ⟨[.ref a, .ref b], []⟩ >>= _) _ _ s
  refine wpAny_bind ?_
  unfold Builtin.Dict.dictSlotArgs
  refine wpAny_bind (wpAny_notOrdered_dict (ty da) ?_)
  show wpAny _ _ (pure (Value.ref a, Value.ref b)) _ _ s
  refine wpAny_pure ?_
  refine wpAny_bind (wpAny_isInstance (T := "dict") (ty db) F.sub_dict_dict ?_)
  simp only [Bool.not_true, Bool.false_eq_true, if_false]
  refine wpAny_bind (wpAny_pure (wpAny_bind (wpAny_pure ?_)))
  refine wpAny_bind (pairs_same oka okb room da db keys va vb ?_)
  exact wpAny_pure ⟨_, rfl, (fun x => nomatch x), by simpa using h⟩
end

section
variable {X : Cx}
/-- whole numbers at keys that are tuples -/
abbrev tabT (ks : List (List Key × Int)) : List (List Key × V) := ks.map fun p => (p.1, V.int p.2)
theorem vals_of_tab : ∀ {H : Hp} {ks : List (List Key × Int)} {xs : List (List Key × Addr × Value)}, KT H (tabT ks) xs → ValsAre xs (ks.map (·.2)) ∧ xs.map (·.1) = ks.map (·.1)
  | _, [], _, .nil => ⟨.nil, rfl⟩
  | _, k :: ks, _, .cons r t => by
    obtain ⟨e1, _, t', e3⟩ := r
    obtain ⟨q1, q2⟩ := vals_of_tab t
    exact ⟨.cons ⟨t', e3⟩ q1, by rw [List.map_cons, List.map_cons, q2, ← e1]⟩
def rEqTab : R2 := fun x y H Q => ∃ (a b : Addr) (ks ls : List (List Key × Int)), x = .ref a ∧ y = .ref b ∧ H a = some (.dT (tabT ks)) ∧ H b = some (.dT (tabT ls)) ∧ ks.map (·.1) = ls.map (·.1) ∧ Q (.bl (decide (ks.map (·.2) = ls.map (·.2)))) H
theorem op_eqTab (hu : X.A.units + 64 < cLine) : OpR X (compareOp .Eq) rEqTab := by
  intro pins s σ H x y v u Q I rx ry h
  obtain ⟨a, b, ks, ls, rfl, rfl, ea, eb, ek, q⟩ := h
  obtain rfl : v = Value.ref a := rx
  obtain rfl : u = Value.ref b := ry
  obtain ⟨_, ya, xs, ra, da⟩ := dt_of I.hok ea
  obtain ⟨_, yb, ys, rb, db⟩ := dt_of I.hok eb
  obtain ⟨va, ka⟩ := vals_of_tab ra
  obtain ⟨vb, kb⟩ := vals_of_tab rb
  exact dicts_same ya yb (show X.A.units + 1 < cLine by omega) (by omega) da db (by rw [ka, kb, ek]) va vb ⟨.bl _, H, I, rfl, q⟩
end
end K14
set_option maxHeartbeats 2000000
/-! {k: v for target in iter}, the keys tuples of texts and whole numbers -/
namespace K14
open PySem L2
open PySem.Spec PyProof.Rows
section
variable {X : Cx}
/-- a new entry, its key a tuple that stands at b -/
theorem put_tup {pins : List (Addr × Obj)} {σ : L2.St} {H : Hp} {s : Shared} {E : Value → Shared → Prop} {D b : Addr} {kvs : List (List Key × V)} {k : List Key} {v : V} {r : Value} {Q : Unit → Shared → Prop} (hu : X.A.units < cLine) (I : L2.Inv X pins σ H s) (hD : H D = some (.dT kvs)) (hb : H b = some (.tup (k.map kV)))
    (hz : kvs.length < sizeLine) (rv : RelV v r) (h : ∀ s', L2.Inv X pins σ (upd H D (.dT (putK kvs k v))) s' → Q () s') : wpAny (model X.prog X.w) X.A (dictSet D (.ref b) r) Q E s := by
  obtain ⟨z, y, xs, rel, dd⟩ := dt_of I.hok hD
  have ne : ∀ c ys, H c = some (.tup ys) → c ≠ D := fun c ys e q => by
    rw [q, hD] at e
    cases e
  have hx : xs.length ≤ sizeLine := by rw [← Paired.length rel]; exact z
  refine wpAny_dictSet_heap (hsz := hx) (knd := tupleKind (mixKind X.prog X.w)) hu (key_of I.hok hb) dd fun h' dd' sb => h _ ?_
  have he : ∃ q, h'.get? D = some q := let ⟨q, _, _, hq, _⟩ := dd'; ⟨q, hq⟩
  refine d_write I (by rw [hD]; trivial) sb he ?_
  have rel' := (rel.put k hb rv).keeps (H' := upd H D (.dT (putK kvs k v))) fun c ys e => by rw [upd_ne (ne c ys e)]; exact e
  obtain ⟨o, es, ep, g1, g2, g3, g4, g5, g6⟩ := dd'
  have hl : (putK kvs k v).length ≤ sizeLine := by
    have := length_putK kvs k v
    omega
  exact ⟨hl, y, _, rel', o, es, ep, g1, g2, g3, g4, g6⟩
/-- the reading: D is the new dict -/
def tDcT (wi : TI) (g : TG) (tk tv : TE) (vs : List Nat) : TE := fun σ H Q => wi σ H fun J H1 => ∀ D, H1 D = none → ∃ W : Nat → Nat → Hp → Prop, (∃ m, W 0 m (upd H1 D (.dT []))) ∧ ∀ i m H, W i m H →
  (J.stop i H ∧ Q (.ref D) H) ∨ (J.go i H ∧ ∃ Nx : Hp → Prop, (∀ H', Nx H' → ∃ m', m' < m ∧ W (i + 1) m' H') ∧ ∀ x H', J.yld i H x H' → g x (wipe σ vs) H' fun σ2 H2 => wipe σ2 vs = wipe σ vs ∧
    tk σ2 H2 fun y H4 => tv σ2 H4 fun z H5 => ∃ kvs k b, y = .ref b ∧ H5 b = some (.tup (k.map kV)) ∧ H5 D = some (.dT kvs) ∧ kvs.length < sizeLine ∧ Nx (upd H5 D (.dT (putK kvs k z))))
theorem pe_dcT {kx vx tg iter : Expr} {scope : Scope} {own : List (Str × Nat)} {pos : Pos} {wi : TI} {g : TG} {tk tv : TE} (hc : X.calm = true) (hu : X.A.units + 64 < cLine) (hN : X.N.Nodup) (hi : PI X tg iter wi) (ok : BlkOk X.N X.env.scope scope own)
    (hg : ∀ (s : Shared) (H : Hp) (C : Addr) (cl : List (Str × Addr)) (fp : List Addr), PG (X.blk s H scope (compEnvC scope cl C X.env) fp) tg g)
    (hk : ∀ (s : Shared) (H : Hp) (C : Addr) (cl : List (Str × Addr)) (fp : List Addr), PE (X.blk s H scope (compEnvC scope cl C X.env) fp) kx tk)
    (he : ∀ (s : Shared) (H : Hp) (C : Addr) (cl : List (Str × Addr)) (fp : List Addr), PE (X.blk s H scope (compEnvC scope cl C X.env) fp) vx tv) (hs : ∀ x, foldedSetIterable iter X.env x = pure x := by intro _; rfl) :
    PE X (.DictComp kx vx [⟨tg, iter, [], 0⟩] scope pos) (tDcT wi g tk tv (own.map (·.2))) := by
  refine ⟨fun pins s σ H Q I h => ?_⟩
  rw [arm_eval_DictComp]
  have fr : ∀ y ∈ scope.names, y.2 = .free → ∃ c, X.env.cells.lookup y.1 = some c := fun y hy e => by
    rcases ok.free y hy e with k | k
    · exact I.ok.has _ (.inl k)
    · exact I.ok.has _ (.inr k)
  refine wpAny_comprehension_free rfl hs (closure_ok fr) ok.kind (fun y hy e => by rw [ok.uniq y hy, e]) (thn (hi.run pins s σ H _ I h) fun xv s1 hx => thn hx fun itv s2 h2 => ?_)
  obtain ⟨it, fp, tn, J, H2, rfl, I2, T, st2, f2, q⟩ := h2
  refine wpAny_newObj_type (newEnv_comp ?_)
  generalize hD : s2.heap.objs.size = D
  have hDn : H2 D = none := I2.hok.fresh (Nat.le_of_eq hD)
  obtain ⟨W, ⟨m0, w0⟩, turn⟩ := q D hDn
  generalize hs3 : ({ s2 with heap := s2.heap.push { cls := .type "dict", data := .dict #[] } } : Shared) = s3
  have I3 : L2.Inv X pins σ (upd H2 D (.dT [])) s3 := by
    rw [← hs3]
    refine I2.laid (t' := s2.toks) (fun b o e => Heap.get?_push_of_some _ e) (Nat.le_of_eq hD) ?_
    rw [← hD]
    exact dt_empty s2.heap I2.big
  have h3 : s3.heap = s2.heap.push { cls := .type "dict", data := .dict #[] } := by rw [← hs3]
  have f3 : ∀ b ∈ fp, FpOk X pins (upd H2 D (.dT [])) b ∧ b < s3.heap.objs.size := fun b hb => by
    obtain ⟨o, e, _⟩ := T.obj _ _ st2 b hb
    have lt := Heap.lt_size e
    refine ⟨⟨?_, (f2 b hb).2⟩, by rw [h3, Heap.size_push]; exact Nat.lt_succ_of_lt lt⟩
    rw [upd_ne (by rw [← hD]; exact Nat.ne_of_lt lt)]
    exact (f2 b hb).1
  have st3 : tn 0 s3.heap := T.keep _ _ _ st2 fun b _ o e => by rw [h3]; exact Heap.get?_push_of_some _ e
  generalize hH3 : upd H2 D (.dT []) = H3 at I3 f3 w0
  have I4 := block_start I3 ok hN f3
  generalize hcl : cellsFrom (s3.heap.objs.size + 1) scope.names (cloFrom X.env.cells scope.names []) = cl at I4
  have pg := hg s3 H3 s3.heap.objs.size cl fp
  have pk := hk s3 H3 s3.heap.objs.size cl fp
  have pe := he s3 H3 s3.heap.objs.size cl fp
  -- what is wanted behind the loop
  generalize hR : compPost (model X.prog X.w) X.A X.xe none (EP X pins σ Q) (.ref D) s3.heap.objs.size = R
  have ends : ∀ (s' : Shared) (m : Str → Option Value) (H' : Hp), L2.Inv X pins σ H' s' → Q (.ref D) H' → s'.heap.Ns s3.heap.objs.size m → FpOk X pins H' s3.heap.objs.size → R (.ok .next) s' := fun s' m H' I' q' hn f => by
    rw [← hR]
    refine ⟨m, hn, fun h'' sb => ?_⟩
    obtain ⟨f0, f1, f2', f3', f4, f5⟩ := f
    exact ⟨.ref D, H', I'.turned (t' := s'.toks) (fun b o hb e => (sb.2 b hb).trans e) f0 f1 f3' f4 f5, rfl, q'⟩
  have go0 : codeAny (model X.prog X.w) X.A (.compStart (.DictComp kx vx [⟨tg, iter, [], 0⟩] scope pos) 0 (.ref it) (.ref D) (compEnvC scope cl s3.heap.objs.size X.env)) R { s3 with heap := pushCells (s3.heap.push { cls := .type "dict", data := .dict #[] }) scope.names } := by
    have nfp : ∀ b ∈ fp, H3 b = none := fun b hb => (f3 b hb).1.1
    generalize hce : compEnvC scope cl s3.heap.objs.size X.env = ce at I4 pg pk pe ⊢
    have cL : ce.locals = s3.heap.objs.size := by rw [← hce]; rfl
    generalize hs4 : ({ s3 with heap := pushCells (s3.heap.push { cls := .type "dict", data := .dict #[] }) scope.names } : Shared) = s4 at I4 ⊢
    have st4 : tn 0 s4.heap := T.keep _ _ _ st3 fun b _ o e => by rw [← hs4]; exact pushCells_keeps _ _ _ _ (Heap.get?_push_of_some _ e)
    have own1 : ∀ {σ' : L2.St} {H' : Hp} {s' : Shared}, L2.Inv (X.blk s3 H3 scope ce fp) [] σ' H' s' → (∀ b ∈ fp, H' b = none) → ∀ b ∈ fp, FpOk (X.blk s3 H3 scope ce fp) [] H' b := fun {σ' H' s'} I' hn b hb =>
      ⟨hn b hb, (I'.ok.exf b hb).1, I'.ok.exfs b hb, .inl hb, fun x c e => (I'.ok.exf b hb).2 x c e, fun p hp => absurd (show p ∈ ([] : List (Addr × Obj)) ++ [] from hp) (by simp)⟩
    have loop : codeAny (model X.prog X.w) X.A (.compLoop (.DictComp kx vx [⟨tg, iter, [], 0⟩] scope pos) 0 (.ref it) (.ref D) ce) R s4 := by
      refine compLoop_anyD (fun n s' => ∃ i H', L2.Inv (X.blk s3 H3 scope ce fp) [] (wipe σ (own.map (·.2))) H' s' ∧ tn i s'.heap ∧ (∀ b ∈ fp, H' b = none) ∧ W i n H') ?_ m0 ⟨0, H3, I4, st4, nfp, w0⟩
      rintro n s5 ⟨i, H5, I5, st5, n5, w5⟩
      rcases turn i n H5 w5 with ⟨stop, qq⟩ | ⟨go, Nx, hNx, step⟩
      · refine thnF (T.done (X.blk s3 H3 scope ce fp) rfl rfl rfl hc i [] s5 _ H5 (fun _ _ => False) I5 (own1 I5 n5) st5 stop) fun r s6 ⟨hr, I6⟩ => ?_
        subst hr
        have I7 : L2.Inv X pins σ H5 s6 := I3.call' (ch := fp) I6.os I6.base I6.hok I6.bare fun b hb => ⟨(f3 b hb).1.2.2.2.1, (f3 b hb).1.2.1, (f3 b hb).1.2.2.2.2.1, (f3 b hb).1.2.2.2.2.2⟩
        have nC : H5 s3.heap.objs.size = none := by
          have z : H5 ce.locals = none := I6.free
          rwa [cL] at z
        obtain ⟨m, hn, _⟩ := I6.loc
        have hn' : s6.heap.Ns ce.locals m := hn
        rw [cL] at hn'
        exact ends s6 m H5 I7 qq hn' (I3.fpOk (Nat.le_refl _) nC)
      · refine thnF (T.item (X.blk s3 H3 scope ce fp) rfl rfl rfl hc i [] s5 _ H5 (fun _ _ => False) I5 (own1 I5 n5) st5 go) fun r s6 ⟨u, hr, h6⟩ => ?_
        subst hr
        refine thnF h6 fun _ s7 ⟨x, H7, I7, r7, y7, st7, n7⟩ => ?_
        have I7' := I7.pinned (own1 I7 n7) (T.obj _ _ st7)
        refine thnF (pg.run _ s7 _ H7 x u _ I7' r7 (step x H7 y7)) fun _ s8 ⟨σ8, H8, I8, hw8, q8⟩ => ?_
        refine wpAny_pure ?_
        simp only [if_true]
        refine thnF (pk.run _ s8 σ8 H8 _ I8 q8) fun z s10 ⟨yk, H10, I10, r10, q10⟩ => ?_
        refine thnF (pe.run _ s10 σ8 H10 _ I10 q10) fun z2 s11 ⟨yv, H11, I11, r11, kvs, k, b, ek, hb11, hD11, hz11, nx⟩ => ?_
        subst ek
        obtain rfl : z = Value.ref b := r10
        refine put_tup (X := X.blk s3 H3 scope ce fp) (show X.A.units < cLine by omega) I11 hD11 hb11 hz11 r11 fun s12 I12 => ?_
        obtain ⟨m', hm, w'⟩ := hNx _ nx
        have pin' : ∀ c ∈ fp, ∀ o, s7.heap.get? c = some o → s12.heap.get? c = some o ∧ upd H11 D (.dT (putK kvs k yv)) c = none := fun c hc' o e =>
          let z := I12.pin (c, o) (List.mem_append_right _ (List.mem_append_right _ (mem_pinsAt hc' e)))
          ⟨z.1, z.2.1⟩
        have hl : (wipe σ (own.map (·.2))).length = σ8.length := by rw [← hw8, wipe_length]
        refine ⟨m', hm, i + 1, _, (I12.unpinned (pins := [])).weak hl (fun j v e => ?_), T.keep _ _ _ st7 fun c hc' o e => (pin' c hc' o e).1, fun c hc' => ?_, w'⟩
        · rw [← hw8] at e
          exact (wipe_some e).1
        · obtain ⟨o, e, _⟩ := T.obj _ _ st7 c hc'
          exact (pin' c hc' o e).2
    exact codeAny_compStart_dict loop (T.self X.A 0 _ _ _ st4 loop)
  rw [← hR] at go0
  exact go0
end
end K14
set_option maxHeartbeats 2000000
/-! zip of four tuples -/
namespace K14
open PySem L2 RZ
open PySem.Spec PyProof.Rows

/-- all but the listed objects stand -/
def Kp (S : List Nat) (h h' : Heap) : Prop := ∀ (c : Nat) o, c ∉ S → h.get? c = some o → h'.get? c = some o
theorem Kp.trans {S T : List Nat} {h h1 h2 : Heap} (a : Kp S h h1) (b : Kp T h1 h2) : Kp (T ++ S) h h2 := fun c o hc e =>
  b c o (fun z => hc (List.mem_append_left _ z)) (a c o (fun z => hc (List.mem_append_right _ z)) e)
theorem Kp.same {a : Nat} {h h' : Heap} (s : Heap.SameBut a h h') : Kp [a] h h' := fun c o hc e => (s.2 c (fun z => hc (by rw [z]; exact List.mem_singleton.mpr rfl))).trans e
theorem Kp.ext {a : Nat} {h h' : Heap} (s : Heap.ExtBut a h h') : Kp [a] h h' := fun c o hc e => s c o (fun z => hc (by rw [z]; exact List.mem_singleton.mpr rfl)) e
theorem Kp.all {S : List Nat} {h h' : Heap} (k : ∀ b o, h.get? b = some o → h'.get? b = some o) : Kp S h h' := fun c o _ e => k c o e
abbrev tupO (vs : Array Value) : Obj := { cls := .type "tuple", data := .seq vs }
theorem iter_at {S : List Nat} {h h' : Heap} {it l i : Nat} (x : h.IsTupleIter it l i) (k : Kp S h h') (hn : it ∉ S) : h'.IsTupleIter it l i := let ⟨o, e, r⟩ := x; ⟨o, k _ o hn e, r⟩
theorem tup_at {S : List Nat} {h h' : Heap} {l : Nat} {xs : Array Value} (x : h.IsTuple l xs) (k : Kp S h h') (hn : l ∉ S) : h'.IsTuple l xs := let ⟨o, e, r⟩ := x; ⟨o, k _ o hn e, r⟩

structure Z4 (h : Heap) (n l0 l1 l2 l3 i : Nat) (fr : Value) : Prop where
  z : IsZip h (n + 6) (n + 4) (n + 5) fr
  ti : h.get? (n + 4) = some (tupO #[.ref n, .ref (n + 1), .ref (n + 2), .ref (n + 3)])
  to : ∃ a b c d, h.get? (n + 5) = some (tupO #[a, b, c, d])
  i0 : h.IsTupleIter n l0 i
  i1 : h.IsTupleIter (n + 1) l1 i
  i2 : h.IsTupleIter (n + 2) l2 i
  i3 : h.IsTupleIter (n + 3) l3 i
abbrev zAll (n : Nat) : List Nat := [n, n + 1, n + 2, n + 3, n + 4, n + 5, n + 6]
theorem Z4.keep {h h' : Heap} {n l0 l1 l2 l3 i : Nat} {fr : Value} (x : Z4 h n l0 l1 l2 l3 i fr) (k : ∀ b ∈ zAll n, ∀ o, h.get? b = some o → h'.get? b = some o) : Z4 h' n l0 l1 l2 l3 i fr where
  z := k (n + 6) (by simp) _ x.z
  ti := k (n + 4) (by simp) _ x.ti
  to := let ⟨a, b, c, d, e⟩ := x.to; ⟨a, b, c, d, k (n + 5) (by simp) _ e⟩
  i0 := let ⟨o, e, r⟩ := x.i0; ⟨o, k n (by simp) o e, r⟩
  i1 := let ⟨o, e, r⟩ := x.i1; ⟨o, k (n + 1) (by simp) o e, r⟩
  i2 := let ⟨o, e, r⟩ := x.i2; ⟨o, k (n + 2) (by simp) o e, r⟩
  i3 := let ⟨o, e, r⟩ := x.i3; ⟨o, k (n + 3) (by simp) o e, r⟩

section
variable {prog : Program} {w : World} {A : Around} {E : Value → Shared → Prop} {s : Shared}
theorem upd4 {T : Nat} {vs : Array Value} {x : Value} {k : Nat} {Q : Unit → Shared → Prop} (hz : vs.size = 4) (hT : s.heap.get? T = some (tupO vs))
    (h : ∀ h', h'.get? T = some (tupO (vs.setIfInBounds k x)) → Kp [T] s.heap h' → h'.objs.size = s.heap.objs.size → Q () { s with heap := h' }) :
    wpAny (model prog w) A (updateSeq T (·.setIfInBounds k x)) Q E s := by
  refine wpAny_updateSeq hT rfl (h _ ?_ (.same (Heap.SameBut.update ..)) (Heap.SameBut.update ..).1) (by rw [hz]; decide) (by rw [Array.size_setIfInBounds, hz]; decide)
  rw [Heap.get?_update_self _ hT rfl]
  simp [Obj.mapSeq]

theorem zip4_item {n l0 l1 l2 l3 i : Nat} {x0 x1 x2 x3 : Array Value} {u0 u1 u2 u3 : Value} {Q : Value → Shared → Prop} (Z : Z4 s.heap n l0 l1 l2 l3 i .none) (h0 : l0 < n) (h1 : l1 < n) (h2 : l2 < n) (h3 : l3 < n)
    (t0 : s.heap.IsTuple l0 x0) (t1 : s.heap.IsTuple l1 x1) (t2 : s.heap.IsTuple l2 x2) (t3 : s.heap.IsTuple l3 x3) (e0 : x0[i]? = some u0) (e1 : x1[i]? = some u1) (e2 : x2[i]? = some u2) (e3 : x3[i]? = some u3)
    (hQ : ∀ h', Z4 h' n l0 l1 l2 l3 (i + 1) (rawInt s.heap.objs.size) → h'.get? s.heap.objs.size = some (tupO #[u0, u1, u2, u3]) → Kp (zAll n) s.heap h' → Q (.ref s.heap.objs.size) { s with heap := h' }) :
    wpAny (model prog w) A (Builtin.«zip.__next__» ⟨[.ref (n + 6)], []⟩) (fun fin s' => ∃ v, fin = .done (.ret v) ∧ Q v s') E s := by
  obtain ⟨hz, hti, ⟨a, b, c, d, hto⟩, j0, j1, j2, j3⟩ := Z
  show wpAny _ _ (field (.ref (n + 6)) 2 >>= _) _ _ _
  refine wpAny_bind (wpAny_field hz rfl (x := .bool false) rfl ?_)
  show wpAny _ _ (field (.ref (n + 6)) 3 >>= _) _ _ _
  refine wpAny_bind (wpAny_field hz rfl (x := .ref (n + 4)) rfl ?_)
  refine wpAny_bind (wpAny_seqItems hti rfl ?_)
  show wpAny _ _ (Builtin.SmallTypes.ownedTupleIsFree (.ref (n + 6)) >>= _) _ _ _
  refine wpAny_bind ?_
  unfold Builtin.SmallTypes.ownedTupleIsFree
  refine wpAny_bind (wpAny_field hz rfl (x := .none) rfl (wpAny_pure ?_))
  simp only [if_true]
  refine wpAny_bind (wpAny_rule ?_)
  refine wpAny_bind (wpAny_field hz rfl (x := .ref (n + 5)) rfl ?_)
  refine wpAny_bind (wpAny_setField_rec hz (by simp) fun g1 hz1 s1 => ?_)
  replace hz1 : IsZip g1 (n + 6) (n + 4) (n + 5) .ellipsis := hz1
  have k1 : Kp [n + 6] s.heap g1 := .same s1
  refine wpAny_bind ?_
  simp only [List.zipIdx_cons, List.zipIdx_nil, List.forIn_cons, List.forIn_nil]
  -- the four draws
  refine wpAny_bind (wpAny_bind (wpAny_onRaise ?_))
  show wpAny _ _ (Builtin.SmallTypes.nextOf (.ref n) >>= _) _ _ _
  refine wpAny_bind (nextOf_tuple_item (iter_at j0 k1 (by simp)) (tup_at t0 k1 (by simp; omega)) e0 fun g2 j0' s2 => wpAny_pure ?_)
  have k2 := k1.trans (.same s2)
  have o2 : g2.get? (n + 5) = some (tupO #[a, b, c, d]) := k2 _ _ (by simp) hto
  refine wpAny_bind (wpAny_seqItems o2 rfl ?_)
  refine wpAny_bind (upd4 rfl o2 fun g3 o3 s3 z3 => ?_)
  replace o3 : g3.get? (n + 5) = some (tupO #[u0, b, c, d]) := o3
  have k3 := k2.trans s3
  refine wpAny_bind (wpAny_letGo (wpAny_pure ?_))
  refine wpAny_bind (wpAny_bind (wpAny_onRaise ?_))
  show wpAny _ _ (Builtin.SmallTypes.nextOf (.ref (n + 1)) >>= _) _ _ _
  refine wpAny_bind (nextOf_tuple_item (iter_at j1 k3 (by simp)) (tup_at t1 k3 (by simp; omega)) e1 fun g4 j1' s4 => wpAny_pure ?_)
  have k4 := k3.trans (.same s4)
  have o4 : g4.get? (n + 5) = some (tupO #[u0, b, c, d]) := (Kp.same s4) _ _ (by simp) o3
  refine wpAny_bind (wpAny_seqItems o4 rfl ?_)
  refine wpAny_bind (upd4 rfl o4 fun g5 o5 s5 z5 => ?_)
  replace o5 : g5.get? (n + 5) = some (tupO #[u0, u1, c, d]) := o5
  have k5 := k4.trans s5
  refine wpAny_bind (wpAny_letGo (wpAny_pure ?_))
  refine wpAny_bind (wpAny_bind (wpAny_onRaise ?_))
  show wpAny _ _ (Builtin.SmallTypes.nextOf (.ref (n + 2)) >>= _) _ _ _
  refine wpAny_bind (nextOf_tuple_item (iter_at j2 k5 (by simp)) (tup_at t2 k5 (by simp; omega)) e2 fun g6 j2' s6 => wpAny_pure ?_)
  have k6 := k5.trans (.same s6)
  have o6 : g6.get? (n + 5) = some (tupO #[u0, u1, c, d]) := (Kp.same s6) _ _ (by simp) o5
  refine wpAny_bind (wpAny_seqItems o6 rfl ?_)
  refine wpAny_bind (upd4 rfl o6 fun g7 o7 s7 z7 => ?_)
  replace o7 : g7.get? (n + 5) = some (tupO #[u0, u1, u2, d]) := o7
  have k7 := k6.trans s7
  refine wpAny_bind (wpAny_letGo (wpAny_pure ?_))
  refine wpAny_bind (wpAny_bind (wpAny_onRaise ?_))
  show wpAny _ _ (Builtin.SmallTypes.nextOf (.ref (n + 3)) >>= _) _ _ _
  refine wpAny_bind (nextOf_tuple_item (iter_at j3 k7 (by simp)) (tup_at t3 k7 (by simp; omega)) e3 fun g8 j3' s8 => wpAny_pure ?_)
  have k8 := k7.trans (.same s8)
  have o8 : g8.get? (n + 5) = some (tupO #[u0, u1, u2, d]) := (Kp.same s8) _ _ (by simp) o7
  refine wpAny_bind (wpAny_seqItems o8 rfl ?_)
  refine wpAny_bind (upd4 rfl o8 fun g9 o9 s9 z9 => ?_)
  replace o9 : g9.get? (n + 5) = some (tupO #[u0, u1, u2, u3]) := o9
  have k9 := k8.trans s9
  refine wpAny_bind (wpAny_letGo (wpAny_pure (wpAny_pure ?_)))
  -- the tuple is handed out
  refine wpAny_bind (wpAny_seqItems o9 rfl ?_)
  refine wpAny_bind (wpAny_newTuple ?_)
  have hsz : g9.objs.size = s.heap.objs.size := by rw [z9, s8.1, z7, s6.1, z5, s4.1, z3, s2.1, s1.1]
  have hz9 : IsZip g9 (n + 6) (n + 4) (n + 5) .ellipsis := (((((((Kp.same s2).trans s3).trans (.same s4)).trans s5).trans (.same s6)).trans s7).trans (.same s8) |>.trans s9) _ _ (by simp) hz1
  have y0 : g9.IsTupleIter n l0 (i + 1) := iter_at j0' (((((s3.trans (.same s4)).trans s5).trans (.same s6)).trans s7).trans (.same s8) |>.trans s9) (by simp)
  have y1 : g9.IsTupleIter (n + 1) l1 (i + 1) := iter_at j1' (((s5.trans (.same s6)).trans s7).trans (.same s8) |>.trans s9) (by simp)
  have y2 : g9.IsTupleIter (n + 2) l2 (i + 1) := iter_at j2' (s7.trans (.same s8) |>.trans s9) (by simp)
  have y3 : g9.IsTupleIter (n + 3) l3 (i + 1) := iter_at j3' s9 (by simp)
  have ti9 : g9.get? (n + 4) = some _ := k9 _ _ (by simp) hti
  have zl : n + 6 < g9.objs.size := Heap.lt_size hz9
  show wpAny _ _ (Builtin.SmallTypes.ownedTupleHandOut (.ref (n + 6)) (.ref g9.objs.size) >>= _) _ _ _
  refine wpAny_bind ?_
  unfold Builtin.SmallTypes.ownedTupleHandOut
  have zA : IsZip (g9.push (tupO #[u0, u1, u2, u3])) (n + 6) (n + 4) (n + 5) .ellipsis := Heap.get?_push_of_some _ hz9
  refine wpAny_bind (wpAny_setField_rec zA (by simp) fun gB zB sB => ?_)
  replace zB : IsZip gB (n + 6) (n + 4) (n + 5) (rawInt g9.objs.size) := zB
  refine wpAny_setField_rec zB (by simp) fun gC zC sC => ?_
  replace zC : IsZip gC (n + 6) (n + 4) (n + 5) (rawInt g9.objs.size) := zC
  have up : Kp [n + 6] g9 gC := fun c o hc e => (Kp.same sC) c o hc ((Kp.same sB) c o hc (Heap.get?_push_of_some _ e))
  have tC : gC.get? g9.objs.size = some (tupO #[u0, u1, u2, u3]) := (Kp.same sC) _ _ (by simp; omega) ((Kp.same sB) _ _ (by simp; omega) (Heap.get?_push_size _ rfl))
  refine wpAny_pure ⟨_, rfl, ?_⟩
  show Q (.ref g9.objs.size) _
  rw [hsz] at zC tC ⊢
  refine hQ gC ⟨zC, up _ _ (by simp) ti9, ⟨_, _, _, _, up _ _ (by simp) o9⟩, iter_at y0 up (by simp), iter_at y1 up (by simp), iter_at y2 up (by simp), iter_at y3 up (by simp)⟩ tC fun c o hc e => ?_
  refine (k9.trans up) c o (fun z => hc ?_) e
  simp at z ⊢
  omega
end
end K14
set_option maxHeartbeats 2000000
namespace K14
open PySem L2 RZ
open PySem.Spec PyProof.Rows
section
variable {prog : Program} {w : World} {A : Around} {E : Value → Shared → Prop} {s : Shared}
theorem zip4_end {n l0 l1 l2 l3 i : Nat} {x0 : Array Value} {Q : Fin → Shared → Prop} (hh : A.handled = none) (Z : Z4 s.heap n l0 l1 l2 l3 i .none) (h0 : l0 < n)
    (t0 : s.heap.IsTuple l0 x0) (e0 : x0[i]? = none)
    (hE : ∀ h' e, Kp (zAll n) s.heap h' → (∃ o, h'.get? e = some o ∧ o.cls = .type "StopIteration") → E (.ref e) { s with heap := h' }) :
    wpAny (model prog w) A (Builtin.«zip.__next__» ⟨[.ref (n + 6)], []⟩) Q E s := by
  obtain ⟨hz, hti, ⟨a, b, c, d, hto⟩, j0, j1, j2, j3⟩ := Z
  show wpAny _ _ (field (.ref (n + 6)) 2 >>= _) _ _ _
  refine wpAny_bind (wpAny_field hz rfl (x := .bool false) rfl ?_)
  show wpAny _ _ (field (.ref (n + 6)) 3 >>= _) _ _ _
  refine wpAny_bind (wpAny_field hz rfl (x := .ref (n + 4)) rfl ?_)
  refine wpAny_bind (wpAny_seqItems hti rfl ?_)
  show wpAny _ _ (Builtin.SmallTypes.ownedTupleIsFree (.ref (n + 6)) >>= _) _ _ _
  refine wpAny_bind ?_
  unfold Builtin.SmallTypes.ownedTupleIsFree
  refine wpAny_bind (wpAny_field hz rfl (x := .none) rfl (wpAny_pure ?_))
  simp only [if_true]
  refine wpAny_bind (wpAny_rule ?_)
  refine wpAny_bind (wpAny_field hz rfl (x := .ref (n + 5)) rfl ?_)
  refine wpAny_bind (wpAny_setField_rec hz (by simp) fun g1 hz1 s1 => ?_)
  replace hz1 : IsZip g1 (n + 6) (n + 4) (n + 5) .ellipsis := hz1
  have k1 : Kp [n + 6] s.heap g1 := .same s1
  refine wpAny_bind ?_
  simp only [List.zipIdx_cons, List.zipIdx_nil, List.forIn_cons, List.forIn_nil]
  refine wpAny_bind (wpAny_bind (wpAny_onRaise ?_))
  show wpAny _ _ (Builtin.SmallTypes.nextOf (.ref n) >>= _) _ _ _
  refine wpAny_bind (nextOf_tuple_end hh (iter_at j0 k1 (by simp)) (tup_at t0 k1 (by simp; omega)) e0 fun g2 e s2 he => ?_)
  obtain ⟨oe, hoe, hce⟩ := he
  have hz2 : IsZip g2 (n + 6) (n + 4) (n + 5) .ellipsis := (Kp.ext s2) _ _ (by simp) hz1
  have hez : e ≠ n + 6 := fun x => by
    subst x
    rw [hz2] at hoe
    cases hoe
    simp at hce
  refine wpAny_setField_rec hz2 (by simp) fun g3 _ s3 => hE g3 e (fun c o hc x => ((k1.trans (.ext s2)).trans (.same s3)) c o (fun z => hc ?_) x) ⟨oe, (Kp.same s3) _ _ (by simp; exact hez) hoe, hce⟩
  simp at z ⊢
  omega
theorem pyNext_zip4 {n l0 l1 l2 l3 i : Nat} {x0 x1 x2 x3 : Array Value} {u0 u1 u2 u3 : Value} {Q : Option Value → Shared → Prop} (Z : Z4 s.heap n l0 l1 l2 l3 i .none) (h0 : l0 < n) (h1 : l1 < n) (h2 : l2 < n) (h3 : l3 < n)
    (t0 : s.heap.IsTuple l0 x0) (t1 : s.heap.IsTuple l1 x1) (t2 : s.heap.IsTuple l2 x2) (t3 : s.heap.IsTuple l3 x3) (e0 : x0[i]? = some u0) (e1 : x1[i]? = some u1) (e2 : x2[i]? = some u2) (e3 : x3[i]? = some u3)
    (hQ : ∀ h', Z4 h' n l0 l1 l2 l3 (i + 1) (rawInt s.heap.objs.size) → h'.get? s.heap.objs.size = some (tupO #[u0, u1, u2, u3]) → Kp (zAll n) s.heap h' → Q (some (.ref s.heap.objs.size)) { s with heap := h' }) :
    wpAny (model prog w) A (pyNext (.ref (n + 6))) Q E s := by
  have hT : s.TypeIs (.ref (n + 6)) "zip" := ⟨_, Z.z, rfl⟩
  unfold pyNext
  exact wpAny_bind (wpAny_attempt (wpAny_callSpecial?_slot (name := Str.ofString "__next__") hT F.slot_zip_next (wpAny_call_entry F.slot_zip_next hT F.entry_zip_next
    (zip4_item Z h0 h1 h2 h3 t0 t1 t2 t3 e0 e1 e2 e3 fun h' a1 a2 a3 => wpAny_pure (hQ h' a1 a2 a3)) (F.args_zip_next_1 _))))
theorem pyNext_zip4_end {n l0 l1 l2 l3 i : Nat} {x0 : Array Value} {Q : Option Value → Shared → Prop} (hh : A.handled = none) (Z : Z4 s.heap n l0 l1 l2 l3 i .none) (h0 : l0 < n) (t0 : s.heap.IsTuple l0 x0) (e0 : x0[i]? = none)
    (hQ : ∀ h', Kp (zAll n) s.heap h' → Q none { s with heap := h' }) : wpAny (model prog w) A (pyNext (.ref (n + 6))) Q E s := by
  have hT : s.TypeIs (.ref (n + 6)) "zip" := ⟨_, Z.z, rfl⟩
  unfold pyNext
  refine wpAny_bind (wpAny_attempt (wpAny_callSpecial?_slot (name := Str.ofString "__next__") hT F.slot_zip_next (wpAny_call_entry F.slot_zip_next hT F.entry_zip_next
    (zip4_end hh Z h0 t0 e0 fun h' e hk he => ?_) (F.args_zip_next_1 _))))
  obtain ⟨o, ho, hc⟩ := he
  refine wpAny_bind (wpAny_isInstance (T := "StopIteration") (b := true) ⟨o, ho, hc⟩ isSubtype_stop ?_)
  exact wpAny_pure (hQ _ hk)
end
abbrev z4It (l : Addr) : Obj := { cls := .type "tuple_iterator", data := .fields #[.ref l, .int 0 0] }
/-- the heap behind zip(l0, l1, l2, l3) -/
abbrev z4H4 (h : Heap) (l0 l1 l2 l3 : Addr) : Heap := (((h.push (z4It l0)).push (z4It l1)).push (z4It l2)).push (z4It l3)
abbrev z4H5 (h : Heap) (l0 l1 l2 l3 : Addr) : Heap := (z4H4 h l0 l1 l2 l3).push (tupO #[.ref h.objs.size, .ref (h.push (z4It l0)).objs.size, .ref ((h.push (z4It l0)).push (z4It l1)).objs.size, .ref (((h.push (z4It l0)).push (z4It l1)).push (z4It l2)).objs.size])
abbrev z4H6 (h : Heap) (l0 l1 l2 l3 : Addr) : Heap := (z4H5 h l0 l1 l2 l3).push (tupO #[.none, .none, .none, .none])
abbrev z4H7 (h : Heap) (l0 l1 l2 l3 : Addr) : Heap := (z4H6 h l0 l1 l2 l3).push { cls := .type "zip", data := .fields #[.none, .bool false, .bool false, .ref (z4H4 h l0 l1 l2 l3).objs.size, .ref (z4H5 h l0 l1 l2 l3).objs.size] }
theorem typeCall_zip_4 (a b c d : Value) : checkTypeCall "zip" ⟨[a, b, c, d], []⟩ = pure () := by kernel_rfl
theorem newCall_zip_4 (a b c d : Value) : checkBuiltinCall "zip.__new__" ⟨[.type "zip", a, b, c, d], []⟩ = pure () := by kernel_rfl
theorem args_object_init_5 (a b c d e : Value) : argsOk "object.__init__" ⟨[a, b, c, d, e], []⟩ := by unfold argsOk; kernel_rfl
theorem meets_zip4_new (l0 l1 l2 l3 : Addr) (x0 x1 x2 x3 : Array Value) :
    Meets (Builtin.«zip.__new__» ⟨[.type "zip", .ref l0, .ref l1, .ref l2, .ref l3], []⟩) (fun _ R s => s.heap.IsTuple l0 x0 ∧ s.heap.IsTuple l1 x1 ∧ s.heap.IsTuple l2 x2 ∧ s.heap.IsTuple l3 x3 ∧
      R (.ok (.ret (.ref (z4H6 s.heap l0 l1 l2 l3).objs.size))) { s with heap := z4H7 s.heap l0 l1 l2 l3 }) :=
  .of_wp fun prog w A R s h => by
    obtain ⟨hp, g, d, tk, os⟩ := s
    obtain ⟨t0, t1, t2, t3, h⟩ := h
    have hsub := sub_zip
    have q0 : Heap.IsTuple (Shared.heap ⟨hp, g, d, tk, os⟩) l0 x0 := t0
    have q1 : Heap.IsTuple (Shared.heap ⟨hp.push (z4It l0), g, d, tk, os⟩) l1 x1 := Heap.IsTuple.push t1 _
    have q2 : Heap.IsTuple (Shared.heap ⟨(hp.push (z4It l0)).push (z4It l1), g, d, tk, os⟩) l2 x2 := Heap.IsTuple.push (Heap.IsTuple.push t2 _) _
    have q3 : Heap.IsTuple (Shared.heap ⟨((hp.push (z4It l0)).push (z4It l1)).push (z4It l2), g, d, tk, os⟩) l3 x3 := Heap.IsTuple.push (Heap.IsTuple.push (Heap.IsTuple.push t3 _) _) _
    wp_walk using wpAny_pyIter_tuple q0, wpAny_pyIter_tuple q1, wpAny_pyIter_tuple q2, wpAny_pyIter_tuple q3
    exact ⟨_, rfl, h⟩
section
variable {prog : Program} {w : World} {A : Around} {E : Value → Shared → Prop} {s : Shared}
theorem call_zip4 {l0 l1 l2 l3 : Addr} {x0 x1 x2 x3 : Array Value} {Q : Value → Shared → Prop} (t0 : s.heap.IsTuple l0 x0) (t1 : s.heap.IsTuple l1 x1) (t2 : s.heap.IsTuple l2 x2) (t3 : s.heap.IsTuple l3 x3)
    (h : ∀ h', Z4 h' s.heap.objs.size l0 l1 l2 l3 0 .none → (∀ c o, s.heap.get? c = some o → h'.get? c = some o) → Q (.ref (s.heap.objs.size + 6)) { s with heap := h' }) :
    wpAny (model prog w) A (call (.type "zip") [.ref l0, .ref l1, .ref l2, .ref l3]) Q E s := by
  refine callType_new F.called_zip (by decide) (typeCall_zip_4 _ _ _ _) (newCall_zip_4 _ _ _ _) (fun obj => args_object_init_5 obj _ _ _ _) F.entry_zip_new (meets_zip4_new l0 l1 l2 l3 x0 x1 x2 x3) ⟨t0, t1, t2, t3, ?_⟩
  have z1 : (s.heap.push (z4It l0)).objs.size = s.heap.objs.size + 1 := Heap.size_push ..
  have z2 : ((s.heap.push (z4It l0)).push (z4It l1)).objs.size = s.heap.objs.size + 2 := by rw [Heap.size_push, z1]
  have z3 : (((s.heap.push (z4It l0)).push (z4It l1)).push (z4It l2)).objs.size = s.heap.objs.size + 3 := by rw [Heap.size_push, z2]
  have z4 : (z4H4 s.heap l0 l1 l2 l3).objs.size = s.heap.objs.size + 4 := by rw [Heap.size_push, z3]
  have z5 : (z4H5 s.heap l0 l1 l2 l3).objs.size = s.heap.objs.size + 5 := by rw [Heap.size_push, z4]
  have z6 : (z4H6 s.heap l0 l1 l2 l3).objs.size = s.heap.objs.size + 6 := by rw [Heap.size_push, z5]
  have g6 : (z4H7 s.heap l0 l1 l2 l3).get? (z4H6 s.heap l0 l1 l2 l3).objs.size = some _ := Heap.get?_push_size _ rfl
  have g5 : (z4H7 s.heap l0 l1 l2 l3).get? (z4H5 s.heap l0 l1 l2 l3).objs.size = some _ := Heap.get?_push_of_some _ (Heap.get?_push_size _ rfl)
  have g4 : (z4H7 s.heap l0 l1 l2 l3).get? (z4H4 s.heap l0 l1 l2 l3).objs.size = some _ := Heap.get?_push_of_some _ (Heap.get?_push_of_some _ (Heap.get?_push_size _ rfl))
  have g3 : (z4H7 s.heap l0 l1 l2 l3).get? (((s.heap.push (z4It l0)).push (z4It l1)).push (z4It l2)).objs.size = some _ := Heap.get?_push_of_some _ (Heap.get?_push_of_some _ (Heap.get?_push_of_some _ (Heap.get?_push_size _ rfl)))
  have g2 : (z4H7 s.heap l0 l1 l2 l3).get? ((s.heap.push (z4It l0)).push (z4It l1)).objs.size = some _ := Heap.get?_push_of_some _ (Heap.get?_push_of_some _ (Heap.get?_push_of_some _ (Heap.get?_push_of_some _ (Heap.get?_push_size _ rfl))))
  have g1 : (z4H7 s.heap l0 l1 l2 l3).get? (s.heap.push (z4It l0)).objs.size = some _ := Heap.get?_push_of_some _ (Heap.get?_push_of_some _ (Heap.get?_push_of_some _ (Heap.get?_push_of_some _ (Heap.get?_push_of_some _ (Heap.get?_push_size _ rfl)))))
  have g0 : (z4H7 s.heap l0 l1 l2 l3).get? s.heap.objs.size = some _ := Heap.get?_push_of_some _ (Heap.get?_push_of_some _ (Heap.get?_push_of_some _ (Heap.get?_push_of_some _ (Heap.get?_push_of_some _ (Heap.get?_push_of_some _ (Heap.get?_push_size _ rfl))))))
  show _ ∧ _
  rw [z4, z5, z6] at g6
  rw [z5] at g5
  rw [z4, z1, z2, z3] at g4
  rw [z3] at g3
  rw [z2] at g2
  rw [z1] at g1
  rw [z6]
  exact ⟨⟨_, g6, rfl⟩, h _ ⟨g6, g4, ⟨_, _, _, _, g5⟩, ⟨_, g0, rfl, rfl⟩, ⟨_, g1, rfl, rfl⟩, ⟨_, g2, rfl, rfl⟩, ⟨_, g3, rfl, rfl⟩⟩ fun c o x =>
    Heap.get?_push_of_some _ (Heap.get?_push_of_some _ (Heap.get?_push_of_some _ (Heap.get?_push_of_some _ (Heap.get?_push_of_some _ (Heap.get?_push_of_some _ (Heap.get?_push_of_some _ x))))))⟩
end
theorem zAll_in {c n : Nat} (h : c ∈ zAll n) : n ≤ c ∧ c ≤ n + 6 := by
  simp only [zAll, List.mem_cons, List.not_mem_nil, or_false] at h
  omega
theorem zAll_out {c n : Nat} (h : c ∉ zAll n) : c ∉ [n + 6] := fun z => h (by
  rw [List.mem_singleton.mp z]
  simp)
theorem zAll_lt {c n m : Nat} (h : c ∈ zAll n) (hm : n + 6 < m) : c < m := Nat.lt_of_le_of_lt (zAll_in h).2 hm
/-- the tuples at a, b, c, d, their items in new fours -/
def Itz4 (K : PySem.W.Frag) (a b c d : Addr) : It :=
  ⟨fun i H => ∃ (xs ys zs ws : List V) (x y z w : V), SqT K H a xs ∧ SqT K H b ys ∧ SqT K H c zs ∧ SqT K H d ws ∧ xs[i]? = some x ∧ ys[i]? = some y ∧ zs[i]? = some z ∧ ws[i]? = some w,
    fun i H v H' => ∃ T x y z w, v = .ref T ∧ H T = none ∧ H' = upd H T (.tup [x, y, z, w]) ∧ (∀ xs, SqT K H a xs → xs[i]? = some x) ∧ (∀ xs, SqT K H b xs → xs[i]? = some y) ∧ (∀ xs, SqT K H c xs → xs[i]? = some z) ∧ ∀ xs, SqT K H d xs → xs[i]? = some w,
    fun i H => ∃ xs : List V, SqT K H a xs ∧ xs.length ≤ i⟩
theorem turn_zip4 {P : Program} {w : World} {K : PySem.W.Frag} {elts : List Expr} {kk : Nat} {tpos : Pos} {n a b c d : Nat} (ha : a < n) (hb : b < n) (hc' : c < n) (hd : d < n) :
    Turn P w K (.Tuple elts kk tpos) (Itz4 K a b c d) (zAll n) (n + 6) (fun i h => Z4 h n a b c d i .none) where
  mem := by simp
  obj := fun i h st q hq => by
    obtain ⟨hz, hti, ⟨_, _, _, _, hto⟩, ⟨o0, e0, _, d0⟩, ⟨o1, e1, _, d1⟩, ⟨o2, e2, _, d2⟩, ⟨o3, e3, _, d3⟩⟩ := st
    simp only [zAll, List.mem_cons, List.not_mem_nil, or_false] at hq
    rcases hq with r | r | r | r | r | r | r <;> rw [r]
    · exact ⟨o0, e0, fun v q => by rw [d0] at q; cases q⟩
    · exact ⟨o1, e1, fun v q => by rw [d1] at q; cases q⟩
    · exact ⟨o2, e2, fun v q => by rw [d2] at q; cases q⟩
    · exact ⟨o3, e3, fun v q => by rw [d3] at q; cases q⟩
    · exact ⟨_, hti, fun v q => nomatch q⟩
    · exact ⟨_, hto, fun v q => nomatch q⟩
    · exact ⟨_, hz, fun v q => nomatch q⟩
  keep := fun i h h' st k => st.keep k
  item := by
    intro X hP hw hK hcalm i pins s σ H E I hf st hg
    subst hP hw hK
    obtain ⟨xs, ys, zs, ws, x, y, z, w', q0, q1, q2, q3, x0, x1, x2, x3⟩ := hg
    obtain ⟨t0, r0, p0, _⟩ := I.tuple q0
    obtain ⟨t1, r1, p1, _⟩ := I.tuple q1
    obtain ⟨t2, r2, p2, _⟩ := I.tuple q2
    obtain ⟨t3, r3, p3, _⟩ := I.tuple q3
    obtain ⟨u0, m0, v0⟩ := r0.get x0
    obtain ⟨u1, m1, v1⟩ := r1.get x1
    obtain ⟨u2, m2, v2⟩ := r2.get x2
    obtain ⟨u3, m3, v3⟩ := r3.get x3
    have zl : n + 6 < s.heap.objs.size := Heap.lt_size st.z
    refine pyNext_zip4 st ha hb hc' hd p0 p1 p2 p3 (u0 := u0) (u1 := u1) (u2 := u2) (u3 := u3) (by simpa using m0) (by simpa using m1) (by simpa using m2) (by simpa using m3) fun h' Z' hT k' => ?_
    refine ⟨_, rfl, wpAny_letOwnedTupleGo_zip (s := { s with heap := h' }) Z'.z fun h'' z'' sb => ?_⟩
    have hT2 : h''.get? s.heap.objs.size = some (tupO #[u0, u1, u2, u3]) := (Kp.same sb) _ _ (by simp; omega) hT
    have new : ObjOk X.prog X.w (upd H s.heap.objs.size (.tup [x, y, z, w'])) h'' s.heap.objs.size (.tup [x, y, z, w']) :=
      ⟨by show 4 ≤ sizeLine; decide, [u0, u1, u2, u3], .cons v0 (.cons v1 (.cons v2 (.cons v3 .nil))), ⟨_, hT2, rfl, _, rfl⟩⟩
    have I1 : Inv X pins σ (upd H s.heap.objs.size (.tup [x, y, z, w'])) { s with heap := h'' } :=
      I.turnedNew (t' := s.toks) (ch := zAll n) (fun c o hb q => (Kp.same sb) c o (zAll_out hb) (k' c o hb q)) hf (Nat.le_refl _) new
    refine ⟨.ref s.heap.objs.size, _, I1, rfl, ⟨_, x, y, z, w', rfl, I.hok.fresh (Nat.le_refl _), rfl, fun l hl => by rw [I.tuple_inj hl q0]; exact x0, fun l hl => by rw [I.tuple_inj hl q1]; exact x1, fun l hl => by rw [I.tuple_inj hl q2]; exact x2, fun l hl => by rw [I.tuple_inj hl q3]; exact x3⟩, ?_, fun c hcm => ?_⟩
    · have up : Kp [n + 6] h' h'' := .same sb
      obtain ⟨_, ti, ⟨e0, e1, e2, e3, to⟩, j0, j1, j2, j3⟩ := Z'
      exact ⟨z'', up _ _ (by simp) ti, ⟨e0, e1, e2, e3, up _ _ (by simp) to⟩, iter_at j0 up (by simp), iter_at j1 up (by simp), iter_at j2 up (by simp), iter_at j3 up (by simp)⟩
    · have hlt : c < s.heap.objs.size := zAll_lt hcm zl
      rw [upd_ne (Nat.ne_of_lt hlt)]
      exact (hf c hcm).1
  done := by
    intro X hP hw hK hcalm i pins s σ H E I hf st hg
    subst hP hw hK
    obtain ⟨xs, q0, hl⟩ := hg
    obtain ⟨t0, r0, p0, _⟩ := I.tuple q0
    have l0 := r0.length
    exact pyNext_zip4_end (I.ok.hd hcalm) st ha p0 (by simp; omega) fun h' hk => ⟨rfl, I.turnedL (t' := s.toks) (ch := zAll n) (fun c o hb q => hk c o hb q) hf⟩
  self := fun A i s Q E st h => wpAny_pyIter_zip st.z h
def iZip4 (K : PySem.W.Frag) (ta : TA) : TI := fun σ H R => ta σ H fun vs H1 => ∃ a b c d xs ys zs ws, vs = [.ref a, .ref b, .ref c, .ref d] ∧ SqT K H1 a xs ∧ SqT K H1 b ys ∧ SqT K H1 c zs ∧ SqT K H1 d ws ∧ R (Itz4 K a b c d) H1
theorem pi_zip4 {X : Cx} {e : Expr} {es : List Expr} {ta : TA} {p pos tpos : Pos} {elts : List Expr} {kk : Nat} (hg : Gl X "zip") (hm : X.mg "zip" = none) (ha : PA X (e :: es) ta)
    (hs : starEach (e :: es) X.env = (false, eval e X.env) :: starEach es X.env := by rfl) (hpl : (backTo pos (starEach es X.env)).any (·.1) = false := by rfl) :
    PI X (.Tuple elts kk tpos) (.Call (.Name "zip" p) (e :: es) [] pos) (iZip4 X.K ta) := by
  refine ⟨fun pins s σ H R I h => ?_⟩
  refine Call_ (ld_blt I hg hm PyProof.Rows.boot_zip (PyProof.Rows.callWith_type1 (thn (ha.run pos pins s σ H _ I h) fun us s1 ⟨vs, H1, I1, r1, q1⟩ => ?_) hs hpl))
  obtain ⟨a, b, c, d, xs, ys, zs, ws, ex, q0, q1, q2, q3, q⟩ := q1
  subst ex
  obtain ⟨us, rfl⟩ : ∃ z : Unit, us = [.ref a, .ref b, .ref c, .ref d] := by
    cases r1 with
    | cons r rr => cases rr with
      | cons r' rr => cases rr with
        | cons r'' rr => cases rr with
          | cons r''' rr => cases rr; cases r; cases r'; cases r''; cases r'''; exact ⟨(), rfl⟩
  obtain ⟨t0, _, p0, _⟩ := I1.tuple q0
  obtain ⟨t1, _, p1, _⟩ := I1.tuple q1
  obtain ⟨t2, _, p2, _⟩ := I1.tuple q2
  obtain ⟨t3, _, p3, _⟩ := I1.tuple q3
  have lt : ∀ {l : Nat} {t : List Value}, IsTup s1.heap l t.toArray → l < s1.heap.objs.size := fun ⟨_, e, _⟩ => Heap.lt_size e
  refine call_zip4 p0 p1 p2 p3 fun h' Z hk => wpAny_pyIter_zip Z.z ?_
  refine ⟨s1.heap.objs.size + 6, zAll s1.heap.objs.size, _, _, H1, rfl, I1.kept (t' := s1.toks) hk, turn_zip4 (lt p0) (lt p1) (lt p2) (lt p3), Z, fun c hcm => ?_, q⟩
  have hle : s1.heap.objs.size ≤ c := (zAll_in hcm).1
  exact I1.fpOk hle (I1.hok.fresh hle)
end K14
set_option maxHeartbeats 2000000
/-! enumerate of a tuple, of zip of two tuples -/
namespace K14
open PySem L2 RZ
open PySem.Spec PyProof.Rows
section
variable {prog : Program} {w : World} {A : Around} {E : Value → Shared → Prop} {s : Shared}
theorem ask_alive {a : Addr} {Q : Option Obj → Shared → Prop} (h : Q (s.heap.get? a) s) : wpAny (model prog w) A (loadIfAlive a) Q E s := fun Γ p hΓ => by
  show Sem.wp (model prog w) Γ (.loadIfAlive a fun x => .pure x) _ _ p s
  rw [Sem.wp_loadIfAlive]
  exact h
abbrev zipO (f0 f1 : Value) (TI TO : Nat) : Obj := { cls := .type "zip", data := .fields #[f0, f1, .bool false, .ref TI, .ref TO] }
/-- nothing is handed out, or the tuple at some address -/
def Fr0 (v : Value) : Prop := v = .none ∨ ∃ T : Nat, v = rawInt T
theorem free_zip {z TI TO : Nat} {f0 f1 : Value} {Q : Bool → Shared → Prop} (hf : Fr0 f0) (hz : s.heap.get? z = some (zipO f0 f1 TI TO))
    (h1 : Q true s) (h2 : ∀ h' f, h'.get? z = some (zipO f0 f TI TO) → Heap.SameBut z s.heap h' → Q false { s with heap := h' }) :
    wpAny (model prog w) A (Builtin.SmallTypes.ownedTupleIsFree (.ref z)) Q E s := by
  unfold Builtin.SmallTypes.ownedTupleIsFree
  refine wpAny_bind (wpAny_field hz rfl (x := f0) rfl ?_)
  rcases hf with rfl | ⟨T, rfl⟩
  · exact wpAny_pure h1
  · show wpAny _ _ (loadIfAlive ((T : Int).toNat) >>= _) _ _ _
    refine wpAny_bind (ask_alive ?_)
    cases s.heap.get? ((T : Int).toNat) with
    | none => exact wpAny_pure h1
    | some o =>
      show wpAny _ _ (field (.ref z) 1 >>= _) _ _ _
      refine wpAny_bind (wpAny_field hz rfl (x := f1) rfl ?_)
      by_cases q : (f1 != .bool true) = true
      · rw [if_pos q]
        exact wpAny_bind (wpAny_setField_rec hz (by simp) fun h' hz' sb => wpAny_pure (h2 h' _ hz' sb))
      · rw [if_neg q]
        exact wpAny_pure (h2 s.heap f1 hz (Heap.SameBut.refl _ _))

structure Z2 (h : Heap) (n a b i : Nat) : Prop where
  z : ∃ f0 f1, Fr0 f0 ∧ h.get? (n + 4) = some (zipO f0 f1 (n + 2) (n + 3))
  ti : h.get? (n + 2) = some (tupO #[.ref n, .ref (n + 1)])
  to : ∃ x y, h.get? (n + 3) = some (tupO #[x, y])
  i0 : h.IsTupleIter n a i
  i1 : h.IsTupleIter (n + 1) b i
abbrev z2All (n : Nat) : List Nat := [n, n + 1, n + 2, n + 3, n + 4]
theorem Z2.keep {h h' : Heap} {n a b i : Nat} (x : Z2 h n a b i) (k : ∀ c ∈ z2All n, ∀ o, h.get? c = some o → h'.get? c = some o) : Z2 h' n a b i where
  z := let ⟨f0, f1, f, e⟩ := x.z; ⟨f0, f1, f, k (n + 4) (by simp) _ e⟩
  ti := k (n + 2) (by simp) _ x.ti
  to := let ⟨u, v, e⟩ := x.to; ⟨u, v, k (n + 3) (by simp) _ e⟩
  i0 := let ⟨o, e, r⟩ := x.i0; ⟨o, k n (by simp) o e, r⟩
  i1 := let ⟨o, e, r⟩ := x.i1; ⟨o, k (n + 1) (by simp) o e, r⟩
theorem upd2 {T : Nat} {vs : Array Value} {x : Value} {k : Nat} {Q : Unit → Shared → Prop} (hz : vs.size = 2) (hT : s.heap.get? T = some (tupO vs))
    (h : ∀ h', h'.get? T = some (tupO (vs.setIfInBounds k x)) → Kp [T] s.heap h' → h'.objs.size = s.heap.objs.size → Q () { s with heap := h' }) :
    wpAny (model prog w) A (updateSeq T (·.setIfInBounds k x)) Q E s := by
  refine wpAny_updateSeq hT rfl (h _ ?_ (.same (Heap.SameBut.update ..)) (Heap.SameBut.update ..).1) (by rw [hz]; decide) (by rw [Array.size_setIfInBounds, hz]; decide)
  rw [Heap.get?_update_self _ hT rfl]
  simp [Obj.mapSeq]

/-- one more pair; it is a new tuple, whether the last one is held or not -/
theorem zip2_item {n a b i : Nat} {xs ys : Array Value} {u v : Value} {Q : Value → Shared → Prop} (Z : Z2 s.heap n a b i) (ha : a < n) (hb : b < n) (ta : s.heap.IsTuple a xs) (tb : s.heap.IsTuple b ys) (hx : xs[i]? = some u) (hy : ys[i]? = some v)
    (hQ : ∀ h', Z2 h' n a b (i + 1) → h'.get? s.heap.objs.size = some (tupO #[u, v]) → h'.objs.size = s.heap.objs.size + 1 → Kp (z2All n) s.heap h' → Q (.ref s.heap.objs.size) { s with heap := h' }) :
    wpAny (model prog w) A (Builtin.«zip.__next__» ⟨[.ref (n + 4)], []⟩) (fun fin s' => ∃ v, fin = .done (.ret v) ∧ Q v s') E s := by
  obtain ⟨⟨f0, f1, hf, hz⟩, hti, ⟨x0, y0, hto⟩, j0, j1⟩ := Z
  have nl : n + 4 < s.heap.objs.size := Heap.lt_size hz
  show wpAny _ _ (field (.ref (n + 4)) 2 >>= _) _ _ _
  refine wpAny_bind (wpAny_field hz rfl (x := .bool false) rfl ?_)
  show wpAny _ _ (field (.ref (n + 4)) 3 >>= _) _ _ _
  refine wpAny_bind (wpAny_field hz rfl (x := .ref (n + 2)) rfl ?_)
  refine wpAny_bind (wpAny_seqItems hti rfl ?_)
  show wpAny _ _ (Builtin.SmallTypes.ownedTupleIsFree (.ref (n + 4)) >>= _) _ _ _
  refine wpAny_bind (free_zip hf hz ?_ fun g0 f1' hz0 sb0 => ?_)
  · simp only [if_true]
    refine wpAny_bind (wpAny_rule ?_)
    refine wpAny_bind (wpAny_field hz rfl (x := .ref (n + 3)) rfl ?_)
    refine wpAny_bind (wpAny_setField_rec hz (by simp) fun g1 hz1 s1 => ?_)
    replace hz1 : g1.get? (n + 4) = some (zipO .ellipsis f1 (n + 2) (n + 3)) := hz1
    have k1 : Kp [n + 4] s.heap g1 := .same s1
    refine wpAny_bind ?_
    simp only [List.zipIdx_cons, List.zipIdx_nil, List.forIn_cons, List.forIn_nil]
    refine wpAny_bind (wpAny_bind (wpAny_onRaise ?_))
    show wpAny _ _ (Builtin.SmallTypes.nextOf (.ref n) >>= _) _ _ _
    refine wpAny_bind (nextOf_tuple_item (iter_at j0 k1 (by simp)) (tup_at ta k1 (by simp; omega)) hx fun g2 j0' s2 => wpAny_pure ?_)
    have k2 := k1.trans (.same s2)
    have o2 : g2.get? (n + 3) = some (tupO #[x0, y0]) := k2 _ _ (by simp) hto
    refine wpAny_bind (wpAny_seqItems o2 rfl ?_)
    refine wpAny_bind (upd2 rfl o2 fun g3 o3 s3 z3 => ?_)
    replace o3 : g3.get? (n + 3) = some (tupO #[u, y0]) := o3
    have k3 := k2.trans s3
    refine wpAny_bind (wpAny_letGo (wpAny_pure ?_))
    refine wpAny_bind (wpAny_bind (wpAny_onRaise ?_))
    show wpAny _ _ (Builtin.SmallTypes.nextOf (.ref (n + 1)) >>= _) _ _ _
    refine wpAny_bind (nextOf_tuple_item (iter_at j1 k3 (by simp)) (tup_at tb k3 (by simp; omega)) hy fun g4 j1' s4 => wpAny_pure ?_)
    have k4 := k3.trans (.same s4)
    have o4 : g4.get? (n + 3) = some (tupO #[u, y0]) := (Kp.same s4) _ _ (by simp) o3
    refine wpAny_bind (wpAny_seqItems o4 rfl ?_)
    refine wpAny_bind (upd2 rfl o4 fun g9 o9 s9 z9 => ?_)
    replace o9 : g9.get? (n + 3) = some (tupO #[u, v]) := o9
    have k9 := k4.trans s9
    refine wpAny_bind (wpAny_letGo (wpAny_pure (wpAny_pure ?_)))
    refine wpAny_bind (wpAny_seqItems o9 rfl ?_)
    refine wpAny_bind (wpAny_newTuple ?_)
    have hsz : g9.objs.size = s.heap.objs.size := by rw [z9, s4.1, z3, s2.1, s1.1]
    have hz9 : g9.get? (n + 4) = some (zipO .ellipsis f1 (n + 2) (n + 3)) := ((((Kp.same s2).trans s3).trans (.same s4)).trans s9) _ _ (by simp) hz1
    have y0' : g9.IsTupleIter n a (i + 1) := iter_at j0' ((s3.trans (.same s4)).trans s9) (by simp)
    have y1' : g9.IsTupleIter (n + 1) b (i + 1) := iter_at j1' s9 (by simp)
    have ti9 : g9.get? (n + 2) = some _ := k9 _ _ (by simp) hti
    show wpAny _ _ (Builtin.SmallTypes.ownedTupleHandOut (.ref (n + 4)) (.ref g9.objs.size) >>= _) _ _ _
    refine wpAny_bind ?_
    unfold Builtin.SmallTypes.ownedTupleHandOut
    have zA : (g9.push (tupO #[u, v])).get? (n + 4) = some (zipO .ellipsis f1 (n + 2) (n + 3)) := Heap.get?_push_of_some _ hz9
    refine wpAny_bind (wpAny_setField_rec zA (by simp) fun gB zB sB => ?_)
    replace zB : gB.get? (n + 4) = some (zipO (rawInt g9.objs.size) f1 (n + 2) (n + 3)) := zB
    refine wpAny_setField_rec zB (by simp) fun gC zC sC => ?_
    replace zC : gC.get? (n + 4) = some (zipO (rawInt g9.objs.size) (.bool false) (n + 2) (n + 3)) := zC
    have up : Kp [n + 4] g9 gC := fun c o hc e => (Kp.same sC) c o hc ((Kp.same sB) c o hc (Heap.get?_push_of_some _ e))
    have nlt : n + 4 < g9.objs.size := Heap.lt_size hz9
    have tC : gC.get? g9.objs.size = some (tupO #[u, v]) := (Kp.same sC) _ _ (by simp; omega) ((Kp.same sB) _ _ (by simp; omega) (Heap.get?_push_size _ rfl))
    have szC : gC.objs.size = g9.objs.size + 1 := by rw [sC.1, sB.1, Heap.size_push]
    refine wpAny_pure ⟨_, rfl, ?_⟩
    show Q (.ref g9.objs.size) _
    rw [hsz] at zC tC szC ⊢
    refine hQ gC ⟨⟨_, _, .inr ⟨_, rfl⟩, zC⟩, up _ _ (by simp) ti9, ⟨_, _, up _ _ (by simp) o9⟩, iter_at y0' up (by simp), iter_at y1' up (by simp)⟩ tC szC fun c o hc e => ?_
    refine (k9.trans up) c o (fun z => hc ?_) e
    simp at z ⊢
    omega
  · simp only [Bool.false_eq_true, if_false]
    have k0 : Kp [n + 4] s.heap g0 := .same sb0
    refine wpAny_bind ?_
    simp only [List.forIn_toArray, List.forIn_cons, List.forIn_nil]
    refine wpAny_bind (wpAny_bind (wpAny_holding ?_))
    show wpAny _ _ (Builtin.SmallTypes.nextOf (.ref n) >>= _) _ _ _
    refine wpAny_bind (nextOf_tuple_item (iter_at j0 k0 (by simp)) (tup_at ta k0 (by simp; omega)) hx fun g2 j0' s2 => wpAny_pure ?_)
    refine wpAny_pure ?_
    have k2 := k0.trans (.same s2)
    dsimp only
    refine wpAny_bind (wpAny_bind (wpAny_holding ?_))
    show wpAny _ _ (Builtin.SmallTypes.nextOf (.ref (n + 1)) >>= _) _ _ _
    refine wpAny_bind (nextOf_tuple_item (iter_at j1 k2 (by simp)) (tup_at tb k2 (by simp; omega)) hy fun g4 j1' s4 => wpAny_pure ?_)
    refine wpAny_pure ?_
    have k4 := k2.trans (.same s4)
    dsimp only
    refine wpAny_pure ?_
    dsimp only
    refine wpAny_bind (wpAny_newTuple (hsz := by show 2 ≤ sizeLine; decide) ?_)
    have hsz : g4.objs.size = s.heap.objs.size := by rw [s4.1, s2.1, sb0.1]
    have up : Kp [] g4 (g4.push (tupO #[u, v])) := fun c o _ e => Heap.get?_push_of_some _ e
    have tC : (g4.push (tupO #[u, v])).get? g4.objs.size = some (tupO #[u, v]) := Heap.get?_push_size _ rfl
    have szC : (g4.push (tupO #[u, v])).objs.size = g4.objs.size + 1 := Heap.size_push ..
    refine wpAny_pure ⟨_, rfl, ?_⟩
    show Q (.ref g4.objs.size) { s with heap := g4.push (tupO #[u, v]) }
    rw [hsz] at tC szC ⊢
    refine hQ _ ⟨⟨f0, f1', hf, up _ _ (by simp) (((Kp.same s2).trans (.same s4)) _ _ (by simp) hz0)⟩, up _ _ (by simp) (k4 _ _ (by simp) hti), ⟨_, _, up _ _ (by simp) (k4 _ _ (by simp) hto)⟩,
      iter_at j0' ((Kp.same s4).trans up) (by simp), iter_at j1' up (by simp)⟩ tC szC fun c o hc e => ?_
    refine (k4.trans up) c o (fun z => hc ?_) e
    simp at z ⊢
    omega
theorem zip2_end {n a b i : Nat} {xs : Array Value} {Q : Fin → Shared → Prop} (hh : A.handled = none) (Z : Z2 s.heap n a b i) (ha : a < n) (ta : s.heap.IsTuple a xs) (hx : xs[i]? = none)
    (hE : ∀ h' e, Kp (z2All n) s.heap h' → (∃ o, h'.get? e = some o ∧ o.cls = .type "StopIteration") → E (.ref e) { s with heap := h' }) :
    wpAny (model prog w) A (Builtin.«zip.__next__» ⟨[.ref (n + 4)], []⟩) Q E s := by
  obtain ⟨⟨f0, f1, hf, hz⟩, hti, ⟨x0, y0, hto⟩, j0, j1⟩ := Z
  show wpAny _ _ (field (.ref (n + 4)) 2 >>= _) _ _ _
  refine wpAny_bind (wpAny_field hz rfl (x := .bool false) rfl ?_)
  show wpAny _ _ (field (.ref (n + 4)) 3 >>= _) _ _ _
  refine wpAny_bind (wpAny_field hz rfl (x := .ref (n + 2)) rfl ?_)
  refine wpAny_bind (wpAny_seqItems hti rfl ?_)
  show wpAny _ _ (Builtin.SmallTypes.ownedTupleIsFree (.ref (n + 4)) >>= _) _ _ _
  refine wpAny_bind (free_zip hf hz ?_ fun g0 f1' hz0 sb0 => ?_)
  · simp only [if_true]
    refine wpAny_bind (wpAny_rule ?_)
    refine wpAny_bind (wpAny_field hz rfl (x := .ref (n + 3)) rfl ?_)
    refine wpAny_bind (wpAny_setField_rec hz (by simp) fun g1 hz1 s1 => ?_)
    replace hz1 : g1.get? (n + 4) = some (zipO .ellipsis f1 (n + 2) (n + 3)) := hz1
    have k1 : Kp [n + 4] s.heap g1 := .same s1
    refine wpAny_bind ?_
    simp only [List.zipIdx_cons, List.zipIdx_nil, List.forIn_cons, List.forIn_nil]
    refine wpAny_bind (wpAny_bind (wpAny_onRaise ?_))
    show wpAny _ _ (Builtin.SmallTypes.nextOf (.ref n) >>= _) _ _ _
    refine wpAny_bind (nextOf_tuple_end hh (iter_at j0 k1 (by simp)) (tup_at ta k1 (by simp; omega)) hx fun g2 e s2 he => ?_)
    obtain ⟨oe, hoe, hce⟩ := he
    have hz2 : g2.get? (n + 4) = some (zipO .ellipsis f1 (n + 2) (n + 3)) := (Kp.ext s2) _ _ (by simp) hz1
    have hez : e ≠ n + 4 := fun x => by
      subst x
      rw [hz2] at hoe
      cases hoe
      simp at hce
    refine wpAny_setField_rec hz2 (by simp) fun g3 _ s3 => hE g3 e (fun c o hc x => ((k1.trans (.ext s2)).trans (.same s3)) c o (fun z => hc ?_) x) ⟨oe, (Kp.same s3) _ _ (by simp; exact hez) hoe, hce⟩
    simp at z ⊢
    omega
  · simp only [Bool.false_eq_true, if_false]
    have k0 : Kp [n + 4] s.heap g0 := .same sb0
    refine wpAny_bind ?_
    simp only [List.forIn_toArray, List.forIn_cons, List.forIn_nil]
    refine wpAny_bind (wpAny_bind (wpAny_holding ?_))
    show wpAny _ _ (Builtin.SmallTypes.nextOf (.ref n) >>= _) _ _ _
    refine wpAny_bind (nextOf_tuple_end hh (iter_at j0 k0 (by simp)) (tup_at ta k0 (by simp; omega)) hx fun g2 e s2 he => ?_)
    refine hE g2 e (fun c o hc x => (k0.trans (.ext s2)) c o (fun z => hc ?_) x) he
    simp at z ⊢
    omega
theorem nextOf_zip2 {n a b i : Nat} {xs ys : Array Value} {u v : Value} {Q : Value → Shared → Prop} (Z : Z2 s.heap n a b i) (ha : a < n) (hb : b < n) (ta : s.heap.IsTuple a xs) (tb : s.heap.IsTuple b ys) (hx : xs[i]? = some u) (hy : ys[i]? = some v)
    (hQ : ∀ h', Z2 h' n a b (i + 1) → h'.get? s.heap.objs.size = some (tupO #[u, v]) → h'.objs.size = s.heap.objs.size + 1 → Kp (z2All n) s.heap h' → Q (.ref s.heap.objs.size) { s with heap := h' }) :
    wpAny (model prog w) A (Builtin.SmallTypes.nextOf (.ref (n + 4))) Q E s := by
  obtain ⟨f0, f1, hf, hz⟩ := Z.z
  have hT : s.TypeIs (.ref (n + 4)) "zip" := ⟨_, hz, rfl⟩
  unfold Builtin.SmallTypes.nextOf
  exact wpAny_bind (wpAny_callSpecial?_slot (name := Str.ofString "__next__") hT F.slot_zip_next (wpAny_call_entry F.slot_zip_next hT F.entry_zip_next
    (zip2_item Z ha hb ta tb hx hy fun h' a1 a2 a3 a4 => wpAny_pure (hQ h' a1 a2 a3 a4)) (F.args_zip_next_1 _)))
theorem nextOf_zip2_end {n a b i : Nat} {xs : Array Value} {Q : Value → Shared → Prop} (hh : A.handled = none) (Z : Z2 s.heap n a b i) (ha : a < n) (ta : s.heap.IsTuple a xs) (hx : xs[i]? = none)
    (hE : ∀ h' e, Kp (z2All n) s.heap h' → (∃ o, h'.get? e = some o ∧ o.cls = .type "StopIteration") → E (.ref e) { s with heap := h' }) :
    wpAny (model prog w) A (Builtin.SmallTypes.nextOf (.ref (n + 4))) Q E s := by
  obtain ⟨f0, f1, hf, hz⟩ := Z.z
  have hT : s.TypeIs (.ref (n + 4)) "zip" := ⟨_, hz, rfl⟩
  unfold Builtin.SmallTypes.nextOf
  exact wpAny_bind (wpAny_callSpecial?_slot (name := Str.ofString "__next__") hT F.slot_zip_next (wpAny_call_entry F.slot_zip_next hT F.entry_zip_next
    (zip2_end hh Z ha ta hx hE) (F.args_zip_next_1 _)))
/-- enumerate over anything whose next is known -/
theorem enum_item {e it : Nat} {i : Int} {old : Value} {Q : Option Value → Shared → Prop} (he : IsEnum s.heap e it i old)
    (inner : wpAny (model prog w) A.in1 (Builtin.SmallTypes.nextOf (.ref it)) (fun v s1 => IsEnum s1.heap e it i old ∧ ∀ h', IsEnumOut h' e it (i + 1) v s1.heap.objs.size → h'.get? s1.heap.objs.size = some (tupO #[.int i s1.toks, v]) →
      h'.objs.size = s1.heap.objs.size + 1 → Kp [e] s1.heap h' → Q (some (.ref s1.heap.objs.size)) { s1 with heap := h', toks := s1.toks + 1 }) (fun x s1 => ∃ a, x = .ref a ∧ (∃ o, s1.heap.get? a = some o ∧ o.cls = .type "StopIteration") ∧ Q none s1) s) :
    wpAny (model prog w) A (pyNext (.ref e)) Q E s := by
  have hT : s.TypeIs (.ref e) "enumerate" := ⟨_, he, rfl⟩
  unfold pyNext
  refine wpAny_bind (wpAny_attempt (wpAny_callSpecial?_slot (name := Str.ofString "__next__") hT F.slot_enumerate_next
    (wpAny_call_entry F.slot_enumerate_next hT F.entry_enumerate_next ?_ (F.args_enumerate_next_1 _))))
  show wpAny _ _ (field (.ref e) 2 >>= _) _ _ _
  refine wpAny_bind (wpAny_field he rfl (x := .ref it) rfl ?_)
  refine wpAny_bind (wpAny_mono inner (fun v s1 h1 => ?_) fun x s1 h1 => ?_)
  · obtain ⟨he1, h1⟩ := h1
    obtain ⟨g1, g, d, tk, os⟩ := s1
    show wpAny _ _ (field (.ref e) 3 >>= _) _ _ _
    refine wpAny_bind (wpAny_field he1 rfl (x := rawInt i) rfl ?_)
    show wpAny _ _ (field (.ref e) 4 >>= _) _ _ _
    refine wpAny_bind (wpAny_field he1 rfl (x := .none) rfl ?_)
    show wpAny _ _ (mkInt i >>= _) _ _ _
    refine wpAny_bind (wpAny_mkInt ?_)
    show wpAny _ _ (setField (.ref e) 3 (rawInt (i + 1)) >>= _) _ _ _
    refine wpAny_bind (wpAny_setField_rec he1 (by simp) fun g2 he2 sb2 => ?_)
    replace he2 : IsEnum g2 e it (i + 1) old := he2
    show wpAny _ _ (setField (.ref e) 4 .none >>= _) _ _ _
    refine wpAny_bind (wpAny_setField_rec he2 (by simp) fun g3 he3 sb3 => ?_)
    replace he3 : IsEnum g3 e it (i + 1) old := he3
    show wpAny _ _ (newTuple [.int i tk, v] >>= _) _ _ _
    refine wpAny_bind (wpAny_newTuple ?_)
    have he4 : IsEnum (g3.push (tupO #[.int i tk, v])) e it (i + 1) old := Heap.get?_push_of_some _ he3
    have hsz : g3.objs.size = g1.objs.size := by rw [sb3.1, sb2.1]
    have hel : e < g1.objs.size := Heap.lt_size he1
    show wpAny _ _ (Builtin.SmallTypes.ownedTupleIsFree (.ref e) >>= _) _ _ _
    refine wpAny_bind ?_
    unfold Builtin.SmallTypes.ownedTupleIsFree
    refine wpAny_bind (wpAny_field he4 rfl (x := .none) rfl (wpAny_pure ?_))
    simp only [if_true]
    refine wpAny_bind (wpAny_rule ?_)
    refine wpAny_bind (wpAny_field he4 rfl (x := old) rfl ?_)
    refine wpAny_bind (wpAny_setField_rec he4 (by simp) fun g5 he5 sb5 => ?_)
    replace he5 : IsEnum g5 e it (i + 1) v := he5
    refine wpAny_bind ?_
    show wpAny _ _ (Builtin.SmallTypes.ownedTupleHandOut (.ref e) (.ref g3.objs.size)) _ _ _
    unfold Builtin.SmallTypes.ownedTupleHandOut
    refine wpAny_bind (wpAny_setField_rec he5 (by simp) fun g6 he6 sb6 => ?_)
    refine wpAny_setField_rec he6 (by simp) fun g7 he7 sb7 => ?_
    refine wpAny_bind (wpAny_letGo ?_)
    have up : Kp [e] g1 g7 := fun c o hc x => ((((Kp.same sb2).trans (.same sb3)).trans (Kp.trans (T := []) (S := []) (h1 := g3.push (tupO #[.int i tk, v])) (fun c o _ e => Heap.get?_push_of_some _ e) (fun c o _ e => e))).trans ((Kp.same sb5).trans ((Kp.same sb6).trans (.same sb7)))) c o (by simpa using hc) x
    have t7 : g7.get? g3.objs.size = some (tupO #[.int i tk, v]) := ((Kp.same sb5).trans ((Kp.same sb6).trans (.same sb7))) _ _ (by simp; omega) (Heap.get?_push_size _ rfl)
    have z7 : g7.objs.size = g3.objs.size + 1 := by rw [sb7.1, sb6.1, sb5.1, Heap.size_push]
    rw [hsz] at t7 z7 he7 ⊢
    exact wpAny_pure ⟨_, rfl, wpAny_pure (h1 g7 he7 t7 z7 up)⟩
  · obtain ⟨a, rfl, ⟨o, ho, hc⟩, hq⟩ := h1
    refine wpAny_bind (wpAny_isInstance (T := "StopIteration") (b := true) ⟨o, ho, hc⟩ isSubtype_stop ?_)
    exact wpAny_pure hq
end
end K14
set_option maxHeartbeats 2000000
namespace K14
open PySem L2 RZ
open PySem.Spec PyProof.Rows
theorem meets_enum_newT (l : Addr) (items : Array Value) :
    Meets (Builtin.«enumerate.__new__» ⟨[.type "enumerate", .ref l], []⟩) (fun _ R s => s.heap.IsTuple l items ∧
      R (.ok (.ret (.ref (s.heap.push (z4It l)).objs.size))) { s with heap := (s.heap.push (z4It l)).push { cls := .type "enumerate", data := .fields #[.none, .bool false, .ref s.heap.objs.size, rawInt 0, .none, .none] } }) :=
  .of_wp fun prog w A R s h => by
    obtain ⟨hp, g, d, tk, os⟩ := s
    obtain ⟨hl, h⟩ := h
    have hsub := sub_enumerate
    have q0 : Heap.IsTuple (Shared.heap ⟨hp, g, d, tk, os⟩) l items := hl
    wp_walk
    refine wpAny_stack_any fun st => wpAny_pure ?_
    split
    · rename_i c _ _ _ _ _
      cases (c == Value.type "enumerate")
      · wp_walk using wpAny_pyIter_tuple q0
        exact ⟨_, rfl, h⟩
      · wp_walk using wpAny_pyIter_tuple q0
        exact ⟨_, rfl, h⟩
    · wp_walk using wpAny_pyIter_tuple q0
      exact ⟨_, rfl, h⟩
theorem meets_enum_newZ (z TI TO : Nat) :
    Meets (Builtin.«enumerate.__new__» ⟨[.type "enumerate", .ref z], []⟩) (fun _ R s => IsZip s.heap z TI TO .none ∧
      R (.ok (.ret (.ref s.heap.objs.size))) { s with heap := s.heap.push { cls := .type "enumerate", data := .fields #[.none, .bool false, .ref z, rawInt 0, .none, .none] } }) :=
  .of_wp fun prog w A R s h => by
    obtain ⟨hp, g, d, tk, os⟩ := s
    obtain ⟨hl, h⟩ := h
    have hsub := sub_enumerate
    have q0 : IsZip (Shared.heap ⟨hp, g, d, tk, os⟩) z TI TO .none := hl
    wp_walk
    refine wpAny_stack_any fun st => wpAny_pure ?_
    split
    · rename_i c _ _ _ _ _
      cases (c == Value.type "enumerate")
      · wp_walk using wpAny_pyIter_zip q0
        exact ⟨_, rfl, h⟩
      · wp_walk using wpAny_pyIter_zip q0
        exact ⟨_, rfl, h⟩
    · wp_walk using wpAny_pyIter_zip q0
      exact ⟨_, rfl, h⟩
section
variable {prog : Program} {w : World} {A : Around} {E : Value → Shared → Prop} {s : Shared}
theorem call_enumT {l : Addr} {items : Array Value} {Q : Value → Shared → Prop} (hl : s.heap.IsTuple l items)
    (h : ∀ h', IsEnum h' (s.heap.objs.size + 1) s.heap.objs.size 0 .none → h'.IsTupleIter s.heap.objs.size l 0 → (∀ b o, s.heap.get? b = some o → h'.get? b = some o) → Q (.ref (s.heap.objs.size + 1)) { s with heap := h' }) :
    wpAny (model prog w) A (call (.type "enumerate") [.ref l]) Q E s := by
  refine callType_new F.called_enumerate (by decide) (F.typeCall_enumerate_1 _) (F.newCall_enumerate_1 _) (fun obj => F.args_object_init_2 obj _) F.entry_enumerate_new (meets_enum_newT l items) ⟨hl, ?_⟩
  have hz : (s.heap.push (z4It l)).objs.size = s.heap.objs.size + 1 := Heap.size_push ..
  have g1 : ((s.heap.push (z4It l)).push { cls := .type "enumerate", data := .fields #[.none, .bool false, .ref s.heap.objs.size, rawInt 0, .none, .none] }).get? (s.heap.push (z4It l)).objs.size = some _ := Heap.get?_push_size _ rfl
  show _ ∧ _
  rw [hz] at g1 ⊢
  exact ⟨⟨_, g1, rfl⟩, h _ g1 ⟨_, Heap.get?_push_of_some _ (Heap.get?_push_size _ rfl), rfl, rfl⟩ fun b o x => Heap.get?_push_of_some _ (Heap.get?_push_of_some _ x)⟩
theorem call_enumZ {z TI TO : Nat} {Q : Value → Shared → Prop} (hz : IsZip s.heap z TI TO .none)
    (h : ∀ h', IsEnum h' s.heap.objs.size z 0 .none → (∀ b o, s.heap.get? b = some o → h'.get? b = some o) → Q (.ref s.heap.objs.size) { s with heap := h' }) :
    wpAny (model prog w) A (call (.type "enumerate") [.ref z]) Q E s := by
  refine callType_new F.called_enumerate (by decide) (F.typeCall_enumerate_1 _) (F.newCall_enumerate_1 _) (fun obj => F.args_object_init_2 obj _) F.entry_enumerate_new (meets_enum_newZ z TI TO) ⟨hz, ?_⟩
  have g1 : (s.heap.push { cls := .type "enumerate", data := .fields #[.none, .bool false, .ref z, rawInt 0, .none, .none] }).get? s.heap.objs.size = some _ := Heap.get?_push_size _ rfl
  exact ⟨⟨_, g1, rfl⟩, h _ g1 fun b o x => Heap.get?_push_of_some _ x⟩
end
/-- the tuple at a, each item in a new pair with its place -/
def IteT (K : PySem.W.Frag) (a : Addr) : It :=
  ⟨fun i H => ∃ (xs : List V) (x : V), SqT K H a xs ∧ xs[i]? = some x, fun i H v H' => ∃ T x, v = .ref T ∧ H T = none ∧ H' = upd H T (.tup [.int (i : Nat), x]) ∧ ∀ xs, SqT K H a xs → xs[i]? = some x, fun i H => ∃ xs : List V, SqT K H a xs ∧ xs.length ≤ i⟩
theorem two_in {c a b : Nat} (h : c ∈ [a, b]) : c = a ∨ c = b := by simpa using h
theorem turn_enumT {P : Program} {w : World} {K : PySem.W.Frag} {elts : List Expr} {kk : Nat} {tpos : Pos} {n a : Nat} (ha : a < n) :
    Turn P w K (.Tuple elts kk tpos) (IteT K a) [n + 1, n] (n + 1) (fun i h => (∃ old, IsEnum h (n + 1) n ((i : Nat) : Int) old) ∧ h.IsTupleIter n a i) where
  mem := by simp
  obj := fun i h st b hb => by
    obtain ⟨⟨old, he⟩, ⟨o, ho, hc, hd⟩⟩ := st
    rcases two_in hb with z | z
    · rw [z]
      exact ⟨_, he, fun v q => nomatch q⟩
    · rw [z]
      exact ⟨o, ho, fun v q => by rw [hd] at q; cases q⟩
  keep := fun i h h' st k => let ⟨⟨old, he⟩, hi⟩ := st; ⟨⟨old, k (n + 1) (by simp) _ he⟩, hi.at fun o q => k n (by simp) o q⟩
  item := by
    intro X hP hw hK hc i pins s σ H E I hf st hg
    subst hP hw hK
    obtain ⟨⟨old, he⟩, hit⟩ := st
    obtain ⟨xs, x, hq, hx⟩ := hg
    obtain ⟨its, rv, p, _⟩ := I.tuple hq
    obtain ⟨u, hu, ru⟩ := rv.get hx
    have nl : n + 1 < s.heap.objs.size := Heap.lt_size he
    refine enum_item he (nextOf_tuple_item hit p (x := u) (by simpa using hu) fun g1 hit1 sb1 => ⟨(Kp.same sb1) _ _ (by simp) he, fun g2 he2 hT hsz k2 => ?_⟩)
    have z1 : g1.objs.size = s.heap.objs.size := sb1.1
    refine ⟨_, rfl, wpAny_letOwnedTupleGo_enum (s := { s with heap := g2, toks := s.toks + 1 }) he2 fun g3 he3 sb3 => ?_⟩
    have hT3 : g3.get? g1.objs.size = some (tupO #[.int i s.toks, u]) := (Kp.same sb3) _ _ (by rw [z1]; simp; omega) hT
    rw [z1] at hT3 ⊢
    have new : ObjOk X.prog X.w (upd H s.heap.objs.size (.tup [.int (i : Nat), x])) g3 s.heap.objs.size (.tup [.int (i : Nat), x]) :=
      ⟨by show 2 ≤ sizeLine; decide, [.int i s.toks, u], .cons ⟨_, rfl⟩ (.cons ru .nil), ⟨_, hT3, rfl, _, rfl⟩⟩
    have kk := ((Kp.same sb1).trans k2).trans (.same sb3)
    have I1 : Inv X pins σ (upd H s.heap.objs.size (.tup [.int (i : Nat), x])) { s with heap := g3, toks := s.toks + 1 } :=
      I.turnedNew (ch := [n + 1, n]) (fun b o hb q => kk b o (fun z => hb (by simp at z ⊢; omega)) q) hf (Nat.le_refl _) new
    refine ⟨.ref s.heap.objs.size, _, I1, rfl, ⟨_, x, rfl, I.hok.fresh (Nat.le_refl _), rfl, fun ys hy => by rw [I.tuple_inj hy hq]; exact hx⟩, ⟨⟨u, ?_⟩, iter_at hit1 (k2.trans (.same sb3)) (by simp)⟩, fun b hb => ?_⟩
    · have e1 : ((i + 1 : Nat) : Int) = (i : Int) + 1 := by omega
      rw [e1]
      exact he3
    · have hb' : b < s.heap.objs.size := by
        rcases two_in hb with z | z
        · rw [z]
          exact nl
        · rw [z]
          exact Nat.lt_of_succ_lt nl
      rw [upd_ne (Nat.ne_of_lt hb')]
      exact (hf b hb).1
  done := by
    intro X hP hw hK hc i pins s σ H E I hf st hg
    subst hP hw hK
    obtain ⟨⟨old, he⟩, hit⟩ := st
    obtain ⟨xs, hq, hx⟩ := hg
    obtain ⟨its, rv, p, _⟩ := I.tuple hq
    have hl := rv.length
    refine enum_item he (nextOf_tuple_end (I.ok.hd hc) hit p (by simp; omega) fun h' e eb ho => ⟨e, rfl, ho, rfl, ?_⟩)
    exact I.turnedL (t' := s.toks) (ch := [n + 1, n]) (fun c o hb q => eb c o (fun z => hb (by rw [z]; simp)) q) hf
  self := fun A i s Q E st h => let ⟨⟨_, he⟩, _⟩ := st; wpAny_pyIter_enum he h
def iEnumT (K : PySem.W.Frag) (ta : TA) : TI := fun σ H R => ta σ H fun vs H1 => ∃ a xs, vs = [.ref a] ∧ SqT K H1 a xs ∧ R (IteT K a) H1
theorem pi_enumT {X : Cx} {e : Expr} {ta : TA} {p pos tpos : Pos} {elts : List Expr} {kk : Nat} (hg : Gl X "enumerate") (hm : X.mg "enumerate" = none) (ha : PA X [e] ta) (hs : starEach [e] X.env = [(false, eval e X.env)] := by rfl) :
    PI X (.Tuple elts kk tpos) (.Call (.Name "enumerate" p) [e] [] pos) (iEnumT X.K ta) := by
  refine ⟨fun pins s σ H R I h => ?_⟩
  refine Call_ (ld_blt I hg hm boot_enumerate (PyProof.Rows.callWith_type1 (thn (ha.run pos pins s σ H _ I h) fun us s1 ⟨vs, H1, I1, r1, q1⟩ => ?_) hs rfl))
  obtain ⟨a, xs, ex, hq, q⟩ := q1
  subst ex
  cases r1 with
  | cons r rr =>
    cases rr
    cases r
    obtain ⟨its, rv, p', _⟩ := I1.tuple hq
    obtain ⟨oa, ea, _⟩ := id p'
    refine call_enumT p' fun h' he hit hk => wpAny_pyIter_enum he ?_
    refine ⟨s1.heap.objs.size + 1, [s1.heap.objs.size + 1, s1.heap.objs.size], _, _, H1, rfl, I1.kept (t' := s1.toks) hk, turn_enumT (Heap.lt_size ea), ⟨⟨.none, he⟩, hit⟩, fun b hb => ?_, q⟩
    have hle : s1.heap.objs.size ≤ b := by
      rcases two_in hb with z | z
      · rw [z]
        exact Nat.le_succ _
      · rw [z]
        exact Nat.le_refl _
    exact I1.fpOk hle (I1.hok.fresh hle)
end K14
set_option maxHeartbeats 2000000
/-! enumerate(zip(a, b)), a and b tuples of one length; the target holds a pair within -/
namespace K14
open PySem L2 RZ
open PySem.Spec PyProof.Rows
/-- the place and the pair, both tuples new -/
def IteZ (K : PySem.W.Frag) (a b : Addr) : It :=
  ⟨fun i H => ∃ (xs ys : List V) (x y : V), SqT K H a xs ∧ SqT K H b ys ∧ xs[i]? = some x ∧ ys[i]? = some y,
    fun i H v H' => ∃ T1 T2 x y, v = .ref T2 ∧ H T1 = none ∧ H T2 = none ∧ T1 ≠ T2 ∧ H' = upd (upd H T1 (.tup [x, y])) T2 (.tup [.int (i : Nat), .ref T1]) ∧ (∀ xs, SqT K H a xs → xs[i]? = some x) ∧ ∀ ys, SqT K H b ys → ys[i]? = some y,
    fun i H => ∃ xs : List V, SqT K H a xs ∧ xs.length ≤ i⟩
abbrev zeAll (n : Nat) : List Nat := [n, n + 1, n + 2, n + 3, n + 4, n + 5]
theorem ze_in {c n : Nat} (h : c ∈ zeAll n) : n ≤ c ∧ c ≤ n + 5 := by
  simp only [zeAll, List.mem_cons, List.not_mem_nil, or_false] at h
  omega
theorem z2_sub {c n : Nat} (h : c ∈ z2All n) : c ∈ zeAll n := by
  simp only [z2All, List.mem_cons, List.not_mem_nil, or_false] at h
  simp only [zeAll, List.mem_cons, List.not_mem_nil, or_false]
  omega
theorem ze_last {c n : Nat} (z : c ∈ [n + 5] ++ [n + 5]) : c ∈ zeAll n := by
  rcases List.mem_append.mp z with z | z <;> rw [List.mem_singleton.mp z] <;> simp
theorem kp_of {S T : List Nat} {h h' : Heap} (k : Kp S h h') (hs : ∀ c ∈ S, c ∈ T) : Kp T h h' := fun c o hc e => k c o (fun z => hc (hs c z)) e
theorem turn_enumZ {P : Program} {w : World} {K : PySem.W.Frag} {elts : List Expr} {kk : Nat} {tpos : Pos} {n a b : Nat} (ha : a < n) (hb : b < n) :
    Turn P w K (.Tuple elts kk tpos) (IteZ K a b) (zeAll n) (n + 5) (fun i h => (∃ old, IsEnum h (n + 5) (n + 4) ((i : Nat) : Int) old) ∧ Z2 h n a b i) where
  mem := by simp
  obj := fun i h st c hc => by
    obtain ⟨⟨old, he⟩, ⟨⟨f0, f1, _, hz⟩, hti, ⟨_, _, hto⟩, ⟨o0, e0, _, d0⟩, ⟨o1, e1, _, d1⟩⟩⟩ := st
    simp only [zeAll, List.mem_cons, List.not_mem_nil, or_false] at hc
    rcases hc with r | r | r | r | r | r <;> rw [r]
    · exact ⟨o0, e0, fun v q => by rw [d0] at q; cases q⟩
    · exact ⟨o1, e1, fun v q => by rw [d1] at q; cases q⟩
    · exact ⟨_, hti, fun v q => nomatch q⟩
    · exact ⟨_, hto, fun v q => nomatch q⟩
    · exact ⟨_, hz, fun v q => nomatch q⟩
    · exact ⟨_, he, fun v q => nomatch q⟩
  keep := fun i h h' st k => let ⟨⟨old, he⟩, Z⟩ := st; ⟨⟨old, k (n + 5) (by simp) _ he⟩, Z.keep fun c hc o e => k c (z2_sub hc) o e⟩
  item := by
    intro X hP hw hK hcalm i pins s σ H E I hf st hg
    subst hP hw hK
    obtain ⟨⟨old, he⟩, Z⟩ := st
    obtain ⟨xs, ys, x, y, q0, q1, x0, x1⟩ := hg
    obtain ⟨t0, r0, p0, _⟩ := I.tuple q0
    obtain ⟨t1, r1, p1, _⟩ := I.tuple q1
    obtain ⟨u0, m0, v0⟩ := r0.get x0
    obtain ⟨u1, m1, v1⟩ := r1.get x1
    have nl : n + 5 < s.heap.objs.size := Heap.lt_size he
    refine enum_item he (nextOf_zip2 Z ha hb p0 p1 (u := u0) (v := u1) (by simpa using m0) (by simpa using m1) fun h1 Z1 hT1 hz1 k1 => ⟨k1 _ _ (by simp) he, fun g2 he2 hT2 hsz2 k2 => ?_⟩)
    refine ⟨_, rfl, wpAny_letOwnedTupleGo_enum (s := { s with heap := g2, toks := s.toks + 1 }) he2 fun g3 he3 sb3 => ?_⟩
    have new1 : ObjOk X.prog X.w (upd H s.heap.objs.size (.tup [x, y])) h1 s.heap.objs.size (.tup [x, y]) :=
      ⟨by show 2 ≤ sizeLine; decide, [u0, u1], .cons v0 (.cons v1 .nil), ⟨_, hT1, rfl, _, rfl⟩⟩
    have I1 : Inv X pins σ (upd H s.heap.objs.size (.tup [x, y])) { s with heap := h1 } :=
      I.turnedNew (t' := s.toks) (ch := zeAll n) (fun c o hc q => (kp_of k1 fun c z => z2_sub z) c o hc q) hf (Nat.le_refl _) new1
    have ne1 : ∀ c ∈ zeAll n, c ≠ s.heap.objs.size := fun c hc => Nat.ne_of_lt (Nat.lt_of_le_of_lt (ze_in hc).2 nl)
    have hf1 : ∀ c ∈ zeAll n, FpOk X pins (upd H s.heap.objs.size (.tup [x, y])) c := fun c hc => ⟨by rw [upd_ne (ne1 c hc)]; exact (hf c hc).1, (hf c hc).2⟩
    have nl2 : n + 5 < h1.objs.size := by rw [hz1]; exact Nat.lt_succ_of_lt nl
    have k23 := k2.trans (.same sb3)
    have hT3 : g3.get? h1.objs.size = some (tupO #[.int i s.toks, .ref s.heap.objs.size]) := (Kp.same sb3) _ _ (fun z => absurd (List.mem_singleton.mp z) (Nat.ne_of_gt nl2)) hT2
    have new2 : ObjOk X.prog X.w (upd (upd H s.heap.objs.size (.tup [x, y])) h1.objs.size (.tup [.int (i : Nat), .ref s.heap.objs.size])) g3 h1.objs.size (.tup [.int (i : Nat), .ref s.heap.objs.size]) :=
      ⟨by show 2 ≤ sizeLine; decide, [.int i s.toks, .ref s.heap.objs.size], .cons ⟨_, rfl⟩ (.cons rfl .nil), ⟨_, hT3, rfl, _, rfl⟩⟩
    have I2 : Inv X pins σ (upd (upd H s.heap.objs.size (.tup [x, y])) h1.objs.size (.tup [.int (i : Nat), .ref s.heap.objs.size])) { s with heap := g3, toks := s.toks + 1 } :=
      I1.turnedNew (t' := s.toks + 1) (ch := zeAll n) (fun c o hc q => k23 c o (fun z => hc (ze_last z)) q) hf1 (Nat.le_refl _) new2
    refine ⟨.ref h1.objs.size, _, I2, rfl, ⟨s.heap.objs.size, h1.objs.size, x, y, rfl, I.hok.fresh (Nat.le_refl _), I.hok.fresh (by rw [hz1]; exact Nat.le_succ _), by rw [hz1]; exact Nat.ne_of_lt (Nat.lt_succ_self _), rfl, fun l hl => by rw [I.tuple_inj hl q0]; exact x0, fun l hl => by rw [I.tuple_inj hl q1]; exact x1⟩, ⟨⟨.ref s.heap.objs.size, ?_⟩, ?_⟩, fun c hc => ?_⟩
    · have e1 : ((i + 1 : Nat) : Int) = (i : Int) + 1 := by omega
      rw [e1]
      exact he3
    · obtain ⟨⟨f0, f1, f, hz⟩, ti, ⟨z0, z1, to⟩, j0, j1⟩ := Z1
      exact ⟨⟨f0, f1, f, k23 _ _ (by simp) hz⟩, k23 _ _ (by simp) ti, ⟨z0, z1, k23 _ _ (by simp) to⟩, iter_at j0 k23 (by simp), iter_at j1 k23 (by simp)⟩
    · rw [upd_ne (by rw [hz1]; exact Nat.ne_of_lt (Nat.lt_succ_of_lt (Nat.lt_of_le_of_lt (ze_in hc).2 nl))), upd_ne (ne1 c hc)]
      exact (hf c hc).1
  done := by
    intro X hP hw hK hcalm i pins s σ H E I hf st hg
    subst hP hw hK
    obtain ⟨⟨old, he⟩, Z⟩ := st
    obtain ⟨xs, q0, hl⟩ := hg
    obtain ⟨t0, r0, p0, _⟩ := I.tuple q0
    have l0 := r0.length
    refine enum_item he (nextOf_zip2_end (by show X.A.in1.handled = none; simp [I.ok.hd hcalm]) Z ha p0 (by simp; omega) fun h' e hk ho => ⟨e, rfl, ho, rfl, ?_⟩)
    exact I.turnedL (t' := s.toks) (ch := zeAll n) (fun c o hc q => hk c o (fun z => hc (z2_sub z)) q) hf
  self := fun A i s Q E st h => let ⟨⟨_, he⟩, _⟩ := st; wpAny_pyIter_enum he h
def iEnumZ (K : PySem.W.Frag) (ta : TA) : TI := fun σ H R => ta σ H fun vs H1 => ∃ a b xs ys, vs = [.ref a, .ref b] ∧ SqT K H1 a xs ∧ SqT K H1 b ys ∧ R (IteZ K a b) H1
theorem pi_enumZ {X : Cx} {e f : Expr} {ta : TA} {p p2 pos pos2 tpos : Pos} {elts : List Expr} {kk : Nat} (hg : Gl X "enumerate") (hm : X.mg "enumerate" = none) (hg2 : Gl X "zip") (hm2 : X.mg "zip" = none) (ha : PA X [e, f] ta)
    (hs : starEach [e, f] X.env = (false, eval e X.env) :: starEach [f] X.env := by rfl) (hpl : (backTo pos2 (starEach [f] X.env)).any (·.1) = false := by rfl)
    (hs2 : starEach [.Call (.Name "zip" p2) [e, f] [] pos2] X.env = [(false, eval (.Call (.Name "zip" p2) [e, f] [] pos2) X.env)] := by rfl) :
    PI X (.Tuple elts kk tpos) (.Call (.Name "enumerate" p) [.Call (.Name "zip" p2) [e, f] [] pos2] [] pos) (iEnumZ X.K ta) := by
  refine ⟨fun pins s σ H R I h => ?_⟩
  refine Call_ (ld_blt I hg hm boot_enumerate ?_)
  refine callWith_type1 (args_cons ?_ hs2) hs2 rfl
  refine Call_ (ld_blt I hg2 hm2 boot_zip (callWith_type1 (thn (ha.run pos2 pins s σ H _ I h) fun us s1 ⟨vs, H1, I1, r1, q1⟩ => ?_) hs hpl))
  obtain ⟨a, b, xs, ys, rfl, q0, q1, q⟩ := q1
  obtain ⟨_, rfl⟩ : ∃ z : Unit, us = [.ref a, .ref b] := by
    cases r1 with
    | cons r rr =>
      cases rr with
      | cons r' rr =>
        cases rr
        cases r
        cases r'
        exact ⟨(), rfl⟩
  obtain ⟨t0, _, p0, _⟩ := I1.tuple q0
  obtain ⟨t1, _, p1, _⟩ := I1.tuple q1
  have lt : ∀ {l : Nat} {t : List Value}, IsTup s1.heap l t.toArray → l < s1.heap.objs.size := fun ⟨_, e, _⟩ => Heap.lt_size e
  refine call_zipT p0 p1 fun h1 z1 pI pO i0 i1 sz k1 => ?_
  refine args_nil ?_
  refine call_enumZ (s := { s1 with heap := h1 }) z1 fun h2 he k2 => wpAny_pyIter_enum he ?_
  have k12 : ∀ c o, s1.heap.get? c = some o → h2.get? c = some o := fun c o e => k2 c o (k1 c o e)
  refine ⟨s1.heap.objs.size + 5, zeAll s1.heap.objs.size, _, _, H1, by show Value.ref h1.objs.size = _; rw [sz], I1.kept (t' := s1.toks) k12, turn_enumZ (lt p0) (lt p1), ⟨⟨.none, ?_⟩, ?_⟩, fun c hcm => ?_, q⟩
  · have he' : IsEnum h2 h1.objs.size (s1.heap.objs.size + 4) 0 .none := he
    rw [sz] at he'
    exact he'
  · have up : Kp [] h1 h2 := fun c o _ e => k2 c o e
    exact ⟨⟨.none, .bool false, .inl rfl, up _ _ (by simp) z1⟩, up _ _ (by simp) pI, ⟨_, _, up _ _ (by simp) pO⟩, iter_at i0 up (by simp), iter_at i1 up (by simp)⟩
  · have hle : s1.heap.objs.size ≤ c := (ze_in hcm).1
    exact I1.fpOk hle (I1.hok.fresh hle)
end K14
set_option maxHeartbeats 2000000
/-! zip(list, tuple), both of one length -/
namespace K14
open PySem L2 RZ
open PySem.Spec PyProof.Rows
def ItzM (K : PySem.W.Frag) (a b : Addr) : It :=
  ⟨fun i H => ∃ (xs ys : List V) (x y : V), SqL K H a xs ∧ SqT K H b ys ∧ xs.length = ys.length ∧ xs[i]? = some x ∧ ys[i]? = some y,
    fun i H v H' => ∃ T x y, v = .ref T ∧ H T = none ∧ H' = upd H T (.tup [x, y]) ∧ (∀ xs, SqL K H a xs → xs[i]? = some x) ∧ ∀ ys, SqT K H b ys → ys[i]? = some y,
    fun i H => ∃ xs ys : List V, SqL K H a xs ∧ SqT K H b ys ∧ xs.length = ys.length ∧ i = xs.length⟩
theorem z2_in {c n : Nat} (h : c ∈ z2All n) : n ≤ c ∧ c ≤ n + 4 := by
  simp only [z2All, List.mem_cons, List.not_mem_nil, or_false] at h
  omega
theorem z2_mem {c n : Nat} (h : n ≤ c) (h2 : c ≤ n + 4) : c ∈ z2All n := by
  simp only [z2All, List.mem_cons, List.not_mem_nil, or_false]
  omega
structure ZM (h : Heap) (n a b i : Nat) : Prop where
  z : IsZip h (n + 4) (n + 2) (n + 3) .none
  ti : IsTupOf2 h (n + 2) (.ref n) (.ref (n + 1))
  to : ∃ x y, IsTupOf2 h (n + 3) x y
  i0 : h.IsListIter n a i
  i1 : h.IsTupleIter (n + 1) b i
theorem nat_ne {a b : Nat} (h : a < b ∨ b < a) : a ≠ b := by omega
theorem sepM {n a b : Nat} (ha : a < n) (hb : b < n) : ZipSep2 (n + 4) (n + 2) (n + 3) n (n + 1) [n, a] [n + 1, b] := by
  have two : ∀ {c x y : Nat}, (c < x ∨ x < c) → (c < y ∨ y < c) → c ∉ [x, y] := fun h1 h2 z => by
    rcases two_in z with e | e
    · exact nat_ne h1 e
    · exact nat_ne h2 e
  exact ⟨nat_ne (by omega), nat_ne (by omega), nat_ne (by omega), nat_ne (by omega), by simp, two (by omega) (by omega), two (by omega) (by omega), nat_ne (by omega), by simp, two (by omega) (by omega), two (by omega) (by omega), two (by omega) (by omega), two (by omega) (by omega)⟩
theorem turn_zipM {P : Program} {w : World} {K : PySem.W.Frag} {elts : List Expr} {kk : Nat} {tpos : Pos} {n a b : Nat} (ha : a < n) (hb : b < n) :
    Turn P w K (.Tuple elts kk tpos) (ItzM K a b) (z2All n) (n + 4) (fun i h => ZM h n a b i) where
  mem := by simp
  obj := fun i h st c hc => by
    obtain ⟨hz, hti, ⟨_, _, hto⟩, ⟨o0, e0, _, d0⟩, ⟨o1, e1, _, d1⟩⟩ := st
    simp only [z2All, List.mem_cons, List.not_mem_nil, or_false] at hc
    rcases hc with r | r | r | r | r <;> rw [r]
    · exact ⟨o0, e0, fun v q => by rw [d0] at q; cases q⟩
    · exact ⟨o1, e1, fun v q => by rw [d1] at q; cases q⟩
    · exact ⟨_, hti, fun v q => nomatch q⟩
    · exact ⟨_, hto, fun v q => nomatch q⟩
    · exact ⟨_, hz, fun v q => nomatch q⟩
  keep := fun i h h' st k =>
    ⟨k (n + 4) (by simp) _ st.z, k (n + 2) (by simp) _ st.ti, let ⟨x, y, e⟩ := st.to; ⟨x, y, k (n + 3) (by simp) _ e⟩, st.i0.at fun o e => k n (by simp) o e, st.i1.at fun o e => k (n + 1) (by simp) o e⟩
  item := by
    intro X hP hw hK hcalm i pins s σ H E I hf st hg
    subst hP hw hK
    obtain ⟨xs, ys, x, y, q0, q1, hl, x0, x1⟩ := hg
    obtain ⟨t0, r0, p0, _⟩ := I.list q0
    obtain ⟨t1, r1, p1, _⟩ := I.tuple q1
    obtain ⟨u0, m0, v0⟩ := r0.get x0
    obtain ⟨u1, m1, v1⟩ := r1.get x1
    obtain ⟨hz, hti, ⟨c0, c1, hto⟩, j0, j1⟩ := st
    have zl : n + 4 < s.heap.objs.size := Heap.lt_size hz
    have hh : X.A.in1.handled = none := by simp [I.ok.hd hcalm]
    have l0 : i < t0.length := (List.getElem?_eq_some_iff.mp m0).1
    have l1 : i < t1.length := (List.getElem?_eq_some_iff.mp m1).1
    refine wpAny_pyNext_zipD2_item (sepM ha hb) (Draws.list hh n a (Nat.ne_of_lt ha) t0.toArray) (Draws.tuple hh (n + 1) b (Nat.ne_of_lt (Nat.lt_succ_of_lt hb)) t1.toArray) hz hti hto ⟨j0, p0.isList⟩ ⟨j1, p1⟩ (by simpa using l0) (by simpa using l1)
      fun z1 z2 h' tk e1 e2 hz' hto' s1 s2 hT hsz k' => ?_
    obtain rfl : u0 = z1 := by
      have e1' : t0[i]? = some z1 := by simpa using e1
      exact Option.some.inj (m0.symm.trans e1')
    obtain rfl : u1 = z2 := by
      have e2' : t1[i]? = some z2 := by simpa using e2
      exact Option.some.inj (m1.symm.trans e2')
    refine ⟨_, rfl, wpAny_letOwnedTupleGo_zip (s := { s with heap := h', toks := tk }) hz' fun h'' z'' sb => ?_⟩
    have up : Kp [n + 4] h' h'' := .same sb
    have hT2 : h''.get? s.heap.objs.size = some (tupO #[u0, u1]) := up _ _ (fun z => absurd (List.mem_singleton.mp z) (Nat.ne_of_gt zl)) hT
    have new : ObjOk X.prog X.w (upd H s.heap.objs.size (.tup [x, y])) h'' s.heap.objs.size (.tup [x, y]) :=
      ⟨by show 2 ≤ sizeLine; decide, [u0, u1], .cons v0 (.cons v1 .nil), ⟨_, hT2, rfl, _, rfl⟩⟩
    have I1 : Inv X pins σ (upd H s.heap.objs.size (.tup [x, y])) { s with heap := h'', toks := tk } :=
      I.turnedNew (t' := tk) (ch := z2All n) (fun c o hc q => up c o (fun z => hc (by rw [List.mem_singleton.mp z]; simp)) (k' c o (fun z => hc (by rw [z]; simp)) (fun z => hc (by rw [z]; simp)) (fun z => hc (by rw [z]; simp)) (fun z => hc (by rw [z]; simp)) q)) hf (Nat.le_refl _) new
    refine ⟨.ref s.heap.objs.size, _, I1, rfl, ⟨_, x, y, rfl, I.hok.fresh (Nat.le_refl _), rfl, fun l hl' => by rw [I.list_inj hl' q0]; exact x0, fun l hl' => by rw [I.tuple_inj hl' q1]; exact x1⟩, ?_, fun c hcm => ?_⟩
    · exact ⟨z'', up _ _ (by simp) (k' _ _ (nat_ne (by omega)) (nat_ne (by omega)) (nat_ne (by omega)) (nat_ne (by omega)) hti), ⟨_, _, up _ _ (by simp) hto'⟩, s1.1.at fun o e => up _ _ (by simp) e, s2.1.at fun o e => up _ _ (by simp) e⟩
    · have hlt : c < s.heap.objs.size := Nat.lt_of_le_of_lt (z2_in hcm).2 zl
      rw [upd_ne (Nat.ne_of_lt hlt)]
      exact (hf c hcm).1
  done := by
    intro X hP hw hK hcalm i pins s σ H E I hf st hg
    subst hP hw hK
    obtain ⟨xs, ys, q0, q1, hl, ei⟩ := hg
    obtain ⟨t0, r0, p0, _⟩ := I.list q0
    obtain ⟨t1, r1, p1, _⟩ := I.tuple q1
    have l0 := r0.length
    have l1 := r1.length
    obtain ⟨hz, hti, ⟨c0, c1, hto⟩, j0, j1⟩ := st
    have hh : X.A.in1.handled = none := by simp [I.ok.hd hcalm]
    refine wpAny_pyNext_zipD2_end (sepM ha hb) (Draws.list hh n a (Nat.ne_of_lt ha) t0.toArray) (Draws.tuple hh (n + 1) b (Nat.ne_of_lt (Nat.lt_succ_of_lt hb)) t1.toArray) hz hti hto ⟨j0, p0.isList⟩ ⟨j1, p1⟩ (by simp; omega) (by simp; omega) (.inl (by simp; omega)) fun h' tk k' => ?_
    exact ⟨rfl, I.turnedL (t' := tk) (ch := z2All n) (fun c o hc q => k' c o (fun z => hc (by rw [z]; simp)) (fun z => hc (by rw [z]; simp)) (fun z => hc (by rw [z]; simp)) (fun z => hc (by rw [z]; simp)) q) hf⟩
  self := fun A i s Q E st h => wpAny_pyIter_zip st.z h
def iZipM (K : PySem.W.Frag) (ta : TA) : TI := fun σ H R => ta σ H fun vs H1 => ∃ a b xs ys, vs = [.ref a, .ref b] ∧ SqL K H1 a xs ∧ SqT K H1 b ys ∧ R (ItzM K a b) H1
theorem pi_zipM {X : Cx} {e f : Expr} {ta : TA} {p pos tpos : Pos} {elts : List Expr} {kk : Nat} (hg : Gl X "zip") (hm : X.mg "zip" = none) (ha : PA X [e, f] ta)
    (hs : starEach [e, f] X.env = (false, eval e X.env) :: starEach [f] X.env := by rfl) (hpl : (backTo pos (starEach [f] X.env)).any (·.1) = false := by rfl) :
    PI X (.Tuple elts kk tpos) (.Call (.Name "zip" p) [e, f] [] pos) (iZipM X.K ta) := by
  refine ⟨fun pins s σ H R I h => ?_⟩
  refine Call_ (ld_blt I hg hm boot_zip (callWith_type1 (thn (ha.run pos pins s σ H _ I h) fun us s1 ⟨vs, H1, I1, r1, q1⟩ => ?_) hs hpl))
  obtain ⟨a, b, xs, ys, rfl, q0, q1, q⟩ := q1
  obtain ⟨_, rfl⟩ : ∃ z : Unit, us = [.ref a, .ref b] := by
    cases r1 with
    | cons r rr =>
      cases rr with
      | cons r' rr =>
        cases rr
        cases r
        cases r'
        exact ⟨(), rfl⟩
  obtain ⟨t0, _, p0, _⟩ := I1.list q0
  obtain ⟨t1, _, p1, _⟩ := I1.tuple q1
  have la : a < s1.heap.objs.size := let ⟨_, e, _⟩ := p0.isList; Heap.lt_size e
  have lb : b < s1.heap.objs.size := let ⟨_, e, _⟩ := p1; Heap.lt_size e
  refine zip_begins2 (begins_list a t0.toArray) (begins_tuple b t1.toArray) p0.isList p1 fun h' hz ti to i0 i1 sz k => wpAny_pyIter_zip hz ?_
  refine ⟨s1.heap.objs.size + 4, z2All s1.heap.objs.size, _, _, H1, rfl, I1.kept (t' := s1.toks) k, turn_zipM la lb, ⟨hz, ti, ⟨_, _, to⟩, ⟨_, i0, rfl, rfl⟩, ⟨_, i1, rfl, rfl⟩⟩, fun c hcm => ?_, q⟩
  have hle : s1.heap.objs.size ≤ c := (z2_in hcm).1
  exact I1.fpOk hle (I1.hok.fresh hle)
end K14
/-! powers of a wide base; // by a wide divisor of either sign -/
namespace K14
open PySem L2
open PySem.Spec PyProof.Rows
section
variable {X : Cx}
def CPowA (i j : Int) : Prop := 0 ≤ j ∧ (Builtin.Int.intBits i : Int) * j ≤ 2 ^ 27
theorem op_powA : OpR X (binaryOp .Pow) (rI CPowA fun i j => .int (i ^ j.toNat)) := opI fun _ _ _ _ _ _ _ hc q => pow_int hc.1 hc.2 q
def CDivA (_ j : Int) : Prop := j ≠ 0 ∧ j.natAbs.log2 < 9000
theorem op_fdivA : OpR X (binaryOp .FloorDiv) (rI CDivA fun i j => .int (i.fdiv j)) := opI fun _ _ _ _ _ _ _ hc q => floordiv_int hc.1 q (.inl (PyProof.noPylong_of_log2 hc.2))
theorem divA {i j : Int} {b : Nat} (h : j ≠ 0) (hb : j.natAbs < 2 ^ b) (h0 : 0 < b) (h9 : b ≤ 9000) : CDivA i j := ⟨h, Nat.lt_of_lt_of_le (PySem.Flt.log2_lt_of h0 hb) h9⟩
end
end K14
set_option maxHeartbeats 2000000
/-! next(x for x in t if test, None), the test in the generator's own frame, the generator's name a cell -/
namespace K14
open PySem L2 GxR GenW
open PySem.Spec PyProof.Rows

/-- where the code of a generator expression runs -/
abbrev genX (X : Cx) (s : Shared) (H : Hp) (scope : Scope) (cenv : Env) (fp : List Addr) (A' : Around) : Cx :=
  { X with A := A', s_0 := s, H_0 := H, env := cenv, outer := X.stack, stack := cenv :: X.stack, ex := fp, fn := fun x => scope.names.lookup x == some .cell, pn := [], xe := fun _ _ => False }
/-- its frame's cells -/
abbrev genCl (X : Cx) (scope : Scope) (n : Nat) : List (Str × Addr) := cellsFrom (n + 1) scope.names (cloFrom X.env.cells scope.names [])
/-- its frame as it is laid -/
abbrev genLaid (h : Heap) (scope : Scope) : Heap := pushCells (h.push { cls := .type "frame", data := .dict #[] }) scope.names

section
variable {X : Cx} {pins : List (Addr × Obj)} {σ : L2.St} {H : Hp} {s : Shared} {scope : Scope} {own : List (Str × Nat)} {fp : List Addr}

structure CellsOk (X : Cx) (s : Shared) (scope : Scope) : Prop where
  old : ∀ y c, (genCl X scope s.heap.objs.size).lookup y = some c → (X.env.cells.lookup y = some c ∧ c < s.heap.objs.size) ∨ (s.heap.objs.size < c ∧ (genLaid s.heap scope).IsCell c none)
  inj : ∀ y z c, (genCl X scope s.heap.objs.size).lookup y = some c → (genCl X scope s.heap.objs.size).lookup z = some c → y = z
  here : ∀ y, scope.names.lookup y = some .cell → ∃ c, (genCl X scope s.heap.objs.size).lookup y = some c ∧ s.heap.objs.size < c
  free : ∀ y, scope.names.lookup y = some .free → ∃ c, (genCl X scope s.heap.objs.size).lookup y = some c ∧ X.env.cells.lookup y = some c

theorem cellsOk (I : Inv X pins σ H s) (ok : BlkOk X.N X.env.scope scope own) : CellsOk X s scope := by
  have sz : (s.heap.push { cls := .type "frame", data := .dict #[] }).objs.size = s.heap.objs.size + 1 := Heap.size_push ..
  have up : ∀ y ∈ scope.names, y.2 = .free → ∃ c, X.env.cells.lookup y.1 = some c := fun y hy e =>
    I.ok.has _ (by
      show X.env.scope.names.lookup y.1 = some .cell ∨ X.env.scope.names.lookup y.1 = some .free
      exact ok.free y hy e)
  have low : ∀ y c, (y, c) ∈ cloFrom X.env.cells scope.names [] → X.env.cells.lookup y = some c ∧ c < s.heap.objs.size := by
    intro y c hm
    rcases cloFrom_mem hm with z | ⟨z, rfl⟩
    · exact nomatch z
    · obtain ⟨c, hc⟩ := up _ z rfl
      obtain ⟨v, q⟩ := I.cell y c hc
      exact ⟨by rw [hc]; rfl, by rw [hc]; exact q.lt⟩
  have parts : ∀ y c, (y, c) ∈ genCl X scope s.heap.objs.size → (X.env.cells.lookup y = some c ∧ c < s.heap.objs.size) ∨ ((y, .cell) ∈ scope.names ∧ s.heap.objs.size < c ∧ (genLaid s.heap scope).IsCell c none) := by
    intro y c hm
    have hm' : (y, c) ∈ cellsFrom (s.heap.push { cls := .type "frame", data := .dict #[] }).objs.size scope.names (cloFrom X.env.cells scope.names []) := by
      rw [sz]
      exact hm
    rcases cells_mem hm' with z | ⟨z1, z2, z3⟩
    · exact .inl (low y c z)
    · rw [sz] at z2
      exact .inr ⟨z1, z2, z3⟩
  refine ⟨fun y c e => ?_, fun y z c e1 e2 => ?_, fun y e => ?_, fun y e => ?_⟩
  · rcases parts y c (PySem.mem_of_lookup e) with q | ⟨_, q1, q2⟩
    · exact .inl q
    · exact .inr ⟨q1, q2⟩
  · have m1 : (y, c) ∈ cellsFrom (s.heap.push { cls := .type "frame", data := .dict #[] }).objs.size scope.names (cloFrom X.env.cells scope.names []) := by
      rw [sz]
      exact PySem.mem_of_lookup e1
    have m2 : (z, c) ∈ cellsFrom (s.heap.push { cls := .type "frame", data := .dict #[] }).objs.size scope.names (cloFrom X.env.cells scope.names []) := by
      rw [sz]
      exact PySem.mem_of_lookup e2
    refine cells_inj (fun p hp => ?_) (fun a b d h1 h2 => I.ok.inj a b d (low a d h1).1 (low b d h2).1) m1 m2
    rw [sz]
    exact Nat.lt_succ_of_lt (low p.1 p.2 hp).2
  · obtain ⟨c, hm⟩ := cells_has (n := s.heap.objs.size + 1) (acc := cloFrom X.env.cells scope.names []) (PySem.mem_of_lookup e)
    obtain ⟨d, hd⟩ := mem_lookup hm
    refine ⟨d, hd, ?_⟩
    rcases cells_mem (h := s.heap.push { cls := .type "frame", data := .dict #[] }) (by rw [sz]; exact PySem.mem_of_lookup hd) with z | ⟨_, z2, _⟩
    · rcases cloFrom_mem z with z | ⟨z, _⟩
      · exact nomatch z
      · have q := ok.uniq _ z
        rw [e] at q
        cases q
    · rw [sz] at z2
      exact z2
  · have hy : (y, NameKind.free) ∈ scope.names := PySem.mem_of_lookup e
    obtain ⟨d, hd⟩ := mem_lookup (cells_acc (names := scope.names) (n := s.heap.objs.size + 1) (cloFrom_has (cells := X.env.cells) (acc := []) hy))
    refine ⟨d, hd, ?_⟩
    rcases parts y d (PySem.mem_of_lookup hd) with q | ⟨q, _⟩
    · exact q.1
    · have q2 := ok.uniq _ q
      rw [e] at q2
      cases q2

/-- the generator's code has not begun: what its frame holds -/
theorem gen_inv {code : Value} {A' : Around} {h' : Heap} {g' : Array GenState} {d' : Drawn} {tk : Nat} (I : Inv X pins σ H s) (ok : BlkOk X.N X.env.scope scope own) (hN : X.N.Nodup) (hfp : ∀ b ∈ fp, FpOk X pins H b ∧ b < s.heap.objs.size)
    (hfr : A'.frames = some (genEnv scope (genCl X scope s.heap.objs.size) s.heap.objs.size code builtinsNs X.env :: X.stack)) (hhd : A'.handled = none) (hg : AllBare g')
    (hk : ∀ b o, b ≠ s.heap.objs.size → (genLaid s.heap scope).get? b = some o → h'.get? b = some o) (hns : ∃ m, h'.Ns s.heap.objs.size m) :
    Inv (genX X s H scope (genEnv scope (genCl X scope s.heap.objs.size) s.heap.objs.size code builtinsNs X.env) fp A') [] (wipe σ (own.map (·.2))) H { s with heap := h', gens := g', drawn := d', toks := tk } := by
  have C := cellsOk I ok
  have kp : ∀ b o, s.heap.get? b = some o → h'.get? b = some o := fun b o e =>
    hk b o (Nat.ne_of_lt (Heap.lt_size e)) (pushCells_keeps _ _ _ _ (Heap.get?_push_of_some _ e))
  have cellK : ∀ c v, c ≠ s.heap.objs.size → (genLaid s.heap scope).IsCell c v → h'.IsCell c v := fun c v hc ⟨o, e, d⟩ => ⟨o, hk c o hc e, d⟩
  generalize hce : genEnv scope (genCl X scope s.heap.objs.size) s.heap.objs.size code builtinsNs X.env = ce at hfr ⊢
  have cL : ce.locals = s.heap.objs.size := by rw [← hce]; rfl
  have cC : ce.cells = genCl X scope s.heap.objs.size := by rw [← hce]; rfl
  have cS : ce.scope = scope := by rw [← hce]; rfl
  have kind : ∀ y, ce.kindOf y = scope.names.lookup y := fun y => by
    show ce.scope.names.lookup y = _
    rw [cS]
  have okG : (genX X s H scope ce fp A').Ok := by
    refine ⟨I.ok.mod, ?_, ?_, ?_, ?_, fun y z c e1 e2 => ?_, fun y hy => ?_, fun y c q e => ?_, fun _ => hhd, hfr, .inr ⟨rfl, ?_⟩, fun b hb => ⟨?_, fun y c e z => ?_⟩, I.bs, Nat.le_trans I.ok.bsz I.sz, fun b o e hb => ?_, fun b hb z => ?_, I.stack, I.stkFree⟩
    · show ce.scope.kind = .function
      rw [cS]
      exact ok.kind
    · show ce.globals = mainGlobals
      rw [← hce]
      exact I.ok.glob
    · show ce.builtins = builtinsNs
      rw [← hce]
      rfl
    · show s.heap.objs.size ≤ ce.locals
      rw [cL]
      exact Nat.le_refl _
    · exact C.inj y z c (by rw [← cC]; exact e1) (by rw [← cC]; exact e2)
    · show ∃ c, ce.cells.lookup y = some c
      rw [cC]
      have hy' : ce.kindOf y = some .cell ∨ ce.kindOf y = some .free := hy
      rw [kind] at hy'
      rcases hy' with e | e
      · obtain ⟨c, q, _⟩ := C.here y e
        exact ⟨c, q⟩
      · obtain ⟨c, q, _⟩ := C.free y e
        exact ⟨c, q⟩
    · have e' : (genCl X scope s.heap.objs.size).lookup y = some c := by rw [← cC]; exact e
      have q' : scope.names.lookup y = some .cell := by
        have q2 : (scope.names.lookup y == some NameKind.cell) = true := q
        simpa using q2
      obtain ⟨d, hd, lt⟩ := C.here y q'
      rw [e'] at hd
      cases hd
      exact Nat.le_of_lt lt
    · show ce.frame = some ce.locals
      rw [cL, ← hce]
      rfl
    · show b ≠ ce.locals
      rw [cL]
      exact Nat.ne_of_lt (hfp b hb).2
    · have e' : (genCl X scope s.heap.objs.size).lookup y = some c := by rw [← cC]; exact e
      rcases C.old y c e' with ⟨q, _⟩ | ⟨q, _⟩
      · exact (hfp b hb).1.2.2.2.2.1 y c q z
      · have := (hfp b hb).2
        rw [← z] at this
        exact absurd (Nat.lt_trans this q) (Nat.lt_irrefl _)
    · rcases (hfp b hb).1.2.2.2.1 with z | z
      · exact I.ok.noex b o e z
      · exact absurd (Nat.lt_of_lt_of_le (Heap.lt_size e) (Nat.le_trans I.ok.bsz z)) (Nat.lt_irrefl _)
    · rcases List.mem_cons.mp (I.stkSub b z) with q | q
      · exact (hfp b hb).1.2.1 q
      · exact (hfp b hb).1.2.2.1 q
  refine ⟨okG, rfl, hg, Un.kept kp, ?_, fun y c e => ?_, ?_, fun y c e => ?_, fun p hp => ?_, I.hok.kept kp, ?_⟩
  · obtain ⟨m, hm⟩ := hns
    refine ⟨m, by show h'.Ns ce.locals m; rw [cL]; exact hm, fun i y v e1 e2 e3 => ?_⟩
    obtain ⟨e2', hne⟩ := wipe_some e2
    have e3' : scope.names.lookup y = some .local ∨ scope.names.lookup y = some .cell ∨ scope.names.lookup y = some .free := by
      have q : Vis ce.scope y := e3
      rw [cS] at q
      exact q
    have notOwn : ∀ k, scope.names.lookup y = some k → ¬ (k = .local ∨ k = .cell) := fun k e hh => by
      rcases ok.own _ (PySem.mem_of_lookup e) hh with q | q
      · obtain ⟨p, hp, ep⟩ := List.mem_map.mp q
        have e4 := ok.ix p hp
        have ep' : p.1 = y := ep
        rw [ep'] at e4
        exact hne (List.mem_map.mpr ⟨p, hp, nodup_ix hN e4 e1⟩)
      · exact q (List.mem_of_getElem? e1)
    have fr : scope.names.lookup y = some .free := by
      rcases e3' with q | q | q
      · exact absurd (.inl rfl) (notOwn _ q)
      · exact absurd (.inr rfl) (notOwn _ q)
      · exact q
    obtain ⟨m0, _, hl⟩ := I.loc
    have vis : Vis X.env.scope y := .inr (ok.free _ (PySem.mem_of_lookup fr) rfl)
    obtain ⟨u, ru, lk⟩ := hl i y v e1 e2' vis
    refine ⟨u, ru, .inr ⟨.inr (by rw [kind]; exact fr), ?_⟩⟩
    obtain ⟨c, q1, q2⟩ := C.free y fr
    refine ⟨c, by show ce.cells.lookup y = some c; rw [cC]; exact q1, ?_⟩
    rcases lk with ⟨k, _⟩ | ⟨_, c', e', z⟩
    · have k' : X.env.scope.names.lookup y = some .local := k
      rcases ok.free _ (PySem.mem_of_lookup fr) rfl with q | q
      · have q' : X.env.scope.names.lookup y = some .cell := q
        rw [q'] at k'
        cases k'
      · have q' : X.env.scope.names.lookup y = some .free := q
        rw [q'] at k'
        cases k'
    · rw [q2] at e'
      cases e'
      exact z.keeps kp
  · have e' : (genCl X scope s.heap.objs.size).lookup y = some c := by rw [← cC]; exact e
    rcases C.old y c e' with ⟨q, _⟩ | ⟨q, z⟩
    · obtain ⟨v, z⟩ := I.cell y c q
      exact ⟨v, z.keeps kp⟩
    · exact ⟨none, cellK c none (Nat.ne_of_gt q) z⟩
  · show H ce.locals = none
    rw [cL]
    exact I.hok.fresh (Nat.le_refl _)
  · have e' : (genCl X scope s.heap.objs.size).lookup y = some c := by rw [← cC]; exact e
    rcases C.old y c e' with ⟨q, _⟩ | ⟨q, _⟩
    · exact I.freeC y c q
    · exact I.hok.fresh (Nat.le_of_lt q)
  · exact absurd hp (by simp)
  · rw [wipe_length]
    exact I.len
end
end K14
set_option maxHeartbeats 2000000
namespace K14
open PySem L2 GxR GenW
open PySem.Spec PyProof.Rows

/-- a new frame whose names are captured or its own, one thing bound to a local name -/
theorem newGenEnv {M : Model} {A : Around} {E : Value → Shared → Prop} {s : Shared} {scope : Scope} {globals bi : Addr} {cl : List (Str × Addr)} {z qual : Str} {it code : Value} {Q : Env → Shared → Prop}
    (hk : scope.kind = .function) (hz : scope.names.lookup z = some .local)
    (hQ : ∀ h' tk, (∃ m, h'.Ns s.heap.objs.size m) → (∀ b o, b ≠ s.heap.objs.size → (genLaid s.heap scope).get? b = some o → h'.get? b = some o) →
      Q { scope, locals := s.heap.objs.size, globals, cells := cellsFrom (s.heap.objs.size + 1) scope.names cl, qual, func := none, code, frame := some s.heap.objs.size, builtins := bi } { s with heap := h', toks := tk }) :
    wpAny M A (newFunctionEnv scope globals cl [(z, it)] qual none code none bi) Q E s := by
  simp only [newFunctionEnv, Option.isSome_none, Bool.false_eq_true, if_false]
  refine wpAny_bind (wpAny_alloc ?_)
  refine wpAny_bind (wpAny_layCells _ (fun n k c => rfl) scope.names cl _ _ ?_)
  rw [show ({ s with heap := s.heap.push { cls := .type "frame", data := .dict #[] } } : Shared).heap.objs.size = s.heap.objs.size + 1 from Heap.size_push ..]
  refine wpAny_bind ?_
  rw [List.forIn_cons]
  have ns : (genLaid s.heap scope).Ns s.heap.objs.size (fun _ => none) := Heap.Ns.keeps (Heap.Ns.new ..) fun b o e => pushCells_keeps _ _ _ _ e
  refine wpAny_bind (wpAny_bind (wpAny_storeName_local hz ns (fun h' hn' hs => ?_) ?_))
  · refine wpAny_pure ?_
    dsimp only
    rw [List.forIn_nil]
    refine wpAny_pure (wpAny_pure ?_)
    exact hQ h' _ ⟨_, hn'⟩ fun b o hb e => (hs.2 b hb).trans e
  · show (scope.kind == .class || (scope.kind == .module && _)) = false
    rw [hk]
    rfl

section
variable {X : Cx} {pins : List (Addr × Obj)} {σ : L2.St} {H : Hp} {s : Shared} {scope : Scope} {own : List (Str × Nat)}

/-- a generator made, its code not begun; s1: ahead of its frame -/
structure Made (X : Cx) (pins : List (Addr × Obj)) (σ : L2.St) (H2 : Hp) (ge : Expr) (scope : Scope) (fp : List Addr) (it a : Addr) (g : Nat) (code : Value) (s1 s5 : Shared) : Prop where
  inv : Inv X pins σ H2 s1
  fps : ∀ b ∈ fp, FpOk X pins H2 b ∧ b < s1.heap.objs.size
  gen : s5.heap.IsGen a g
  at_ : s5.gens[g]? = some (.fresh (.compStart ge 0 (.ref it) .none (genEnv scope (genCl X scope s1.heap.objs.size) s1.heap.objs.size code builtinsNs X.env)))
  bare : AllBare s5.gens
  ns : ∃ m, s5.heap.Ns s1.heap.objs.size m
  keep : ∀ b o, b ≠ s1.heap.objs.size → (genLaid s1.heap scope).get? b = some o → s5.heap.get? b = some o
  eq : s5.os = s1.os
theorem Made.up {X : Cx} {pins : List (Addr × Obj)} {σ : L2.St} {H2 : Hp} {ge : Expr} {scope : Scope} {fp : List Addr} {it a : Addr} {g : Nat} {code : Value} {s1 s5 : Shared} (m : Made X pins σ H2 ge scope fp it a g code s1 s5) :
    ∀ b o, s1.heap.get? b = some o → s5.heap.get? b = some o := fun b o e =>
  m.keep b o (Nat.ne_of_lt (Heap.lt_size e)) (pushCells_keeps _ _ _ _ (Heap.get?_push_of_some _ e))

theorem gen_eval {c P : Addr} {elt iter : Expr} {x : Str} {px gpos : Pos} {ifs : List Expr} {wi : TI} {k : Nat} {Q' : Value → Shared → Prop} {R : It → Hp → Prop}
    (hr : Room k X.A) (TB : TabB X.base X.mg c P) (hcode : X.env.code = .ref c) (hco : scope.isCoroutine = false) (ok : BlkOk X.N X.env.scope scope own) (hdot : scope.names.lookup (".0" : Str) = some .local)
    (hi : PI X (.Name x px) iter wi) (hs : ∀ v, genFold iter X.env v = pure v) (I : Inv X pins σ H s) (h : wi σ H fun J H1 => TabG H1 P ∧ R J H1)
    (hQ : ∀ (J : It) (H1 H2 : Hp) (it : Addr) (fp : List Addr) (tn : Nat → Heap → Prop) (a : Addr) (g : Nat) (code : Value) (s1 s5 : Shared), R J H1 → Tabbed P H1 H2 → Turn X.prog X.w X.K (.Name x px) J fp it tn → tn 0 s1.heap →
      Made X pins σ H2 (.GeneratorExp elt [⟨.Name x px, iter, ifs, 0⟩] scope gpos) scope fp it a g code s1 s5 → Q' (.ref a) s5) :
    wpAny (model X.prog X.w) X.A (eval (.GeneratorExp elt [⟨.Name x px, iter, ifs, 0⟩] scope gpos) X.env) Q' X.xe s := by
  have free : ∀ y ∈ scope.names, y.2 = .free → ∃ d, X.env.cells.lookup y.1 = some d := fun y hy e =>
    I.ok.has _ (by
      show X.env.scope.names.lookup y.1 = some .cell ∨ X.env.scope.names.lookup y.1 = some .free
      exact ok.free y hy e)
  rw [eval_GeneratorExp1 _ _ _ _ _ _ _ hco, closure_ok free]
  refine wpAny_bind (thn (hi.run pins s σ H _ I h) fun xv s0 hx => ?_)
  refine wpAny_bind (wpAny_standAt (wpAny_bind (wpAny_of_eq (hs xv) ?_)))
  refine wpAny_bind (wpAny_holding (thn hx fun itv s2 h2 => ?_))
  obtain ⟨it, fp, tn, J, H1, rfl, I1, T, st, f1, ⟨ps, hP, ht⟩, hR⟩ := h2
  refine wpAny_bind (wpAny_enterFrame I1.nolimit (by have := hr.dp; omega) ?_)
  refine wpAny_bind (wpAny_pure (wpAny_bind ?_))
  have hPs : s2.heap.get? P = some { cls := .none, data := .fields ps } := I1.hok P _ hP
  have nP : ∀ b, H1 b = none → b ≠ P := fun b e z => by
    rw [z, hP] at e
    cases e
  have cd : PySem.W.CodeHd s2.heap c P := TB.code.keeps fun b u e => I1.bk b u e
  -- behind the code object
  have cont : ∀ (code : Value) (s3 : Shared) (H2 : Hp), Inv X pins σ H2 s3 → Tabbed P H1 H2 → (∀ b o, b ≠ P → s2.heap.get? b = some o → s3.heap.get? b = some o) →
      wpAny (model X.prog X.w) X.A (do
        let bi ← builtinsFor X.env.globals X.env.builtins
        let cenv ← newFunctionEnv scope X.env.globals (cloFrom X.env.cells scope.names []) [(".0", .ref it)] (X.env.qual ++ "<genexpr>.") none code none bi
        newGenerator (.compStart (.GeneratorExp elt [⟨.Name x px, iter, ifs, 0⟩] scope gpos) 0 (.ref it) .none cenv) "<genexpr>" (X.env.qual ++ "<genexpr>")) Q' X.xe s3 := by
    intro code s3 H2 I3 hT k3
    obtain ⟨bm, ob, e1, e2, e3, e4, e5, e6, e7, e8⟩ := TB.bm
    have fps : ∀ b ∈ fp, FpOk X pins H2 b ∧ b < s3.heap.objs.size := fun b hb => by
      have q := f1 b hb
      refine ⟨⟨(hT.2 b (nP b q.1)).trans q.1, q.2⟩, ?_⟩
      obtain ⟨o, e, _⟩ := T.obj _ _ st b hb
      exact Heap.lt_size (k3 b o (nP b q.1) e)
    have st3 : tn 0 s3.heap := T.keep _ _ _ st fun b hb o e => k3 b o (nP b (f1 b hb).1) e
    refine wpAny_bind (wpAny_builtinsFor (m := X.mg) (by rw [I3.ok.glob]; exact I3.mod.glob.keeps I3.bk) e1 e2 (I3.bk _ _ e5) e6 e7 e8 ?_)
    refine wpAny_bind (newGenEnv ok.kind hdot fun h' tk hns hk => ?_)
    simp only [newGenerator, newFields]
    refine wpAny_bind (wpAny_newGen (wpAny_bind (wpAny_mkText (wpAny_bind (wpAny_mkText (wpAny_newObj_type ?_ (by size_fits)))))))
    refine hQ J H1 H2 it fp tn h'.objs.size s3.gens.size code s3 _ hR hT T st3 ⟨I3, fps, ⟨_, _, _, Heap.get?_push_size _ rfl, rfl, rfl, rfl⟩, Array.getElem?_push_size .., AllBare.push I3.bare rfl, ?_, fun b o hb e => Heap.get?_push_of_some _ (hk b o hb e), rfl⟩
    obtain ⟨m, hm⟩ := hns
    exact ⟨m, hm.push _⟩
  cases hf : codeAmong gpos ps.toList with
  | some cv =>
    refine wpAny_genexprCode_hit hcode (cd.code hPs ht) hf ?_
    exact cont cv s2 H1 I1 ⟨⟨ps, hP, ht⟩, fun _ _ => rfl⟩ fun _ _ _ e => e
  | none =>
    refine wpAny_genexprCodeX hcode (cd.code hPs ht) (cd.tab hPs) hf fun c' h' tk hx hge hlt hco' _ htab' _ => ?_
    obtain ⟨o1, vs, f1', tf, fl, tg, inF, tx, tt, op, _, _, _, _, _, _, _, _, _, htr, _⟩ := hco'
    have J3 := inv_tab (more := #[rawInt gpos.line, rawInt gpos.col, .ref c']) (h' := h') (g' := s2.gens) (d' := s2.drawn) (t' := tk) I1 hP (fun b o hb e => hx b o hb e) htab'.2 I1.bare
    exact cont _ _ _ J3 ⟨⟨_, upd_same, htr⟩, fun b hb => upd_ne hb⟩ fun b o hb e => hx b o hb e
end
end K14
set_option maxHeartbeats 2000000
namespace K14
open PySem L2 GxR GenW
open PySem.Spec PyProof.Rows
/-- next((elt for target in iter if ..), None) -/
def tNextG (P : Addr) (wi : TI) (g : TG) (tt : TT) (te : TE) (vs : List Nat) : TE := fun σ H Q => wi σ H fun J H1 => TabG H1 P ∧ ∀ H2, Tabbed P H1 H2 → ∃ W : Nat → Nat → Hp → Prop, (∃ m, W 0 m H2) ∧ ∀ i m H', W i m H' →
  (J.stop i H' ∧ Q .non H') ∨ (J.go i H' ∧ ∃ Nx : Hp → Prop, (∀ H3, Nx H3 → ∃ m', m' < m ∧ W (i + 1) m' H3) ∧ ∀ x H3, J.yld i H' x H3 → g x (wipe σ vs) H3 fun σ4 H4 => wipe σ4 vs = wipe σ vs ∧ tt σ4 H4 fun b H5 =>
    if b = true then te σ4 H5 Q else Nx H5)
section
variable {X : Cx} {pins : List (Addr × Obj)} {σ : L2.St} {scope : Scope} {own : List (Str × Nat)}

theorem over_gen {A : Around} {elt target iter : Expr} {ifs : List Expr} {gpos : Pos} {it : Value} {env : Env} : A.over (.compLoop (.GeneratorExp elt [⟨target, iter, ifs, 0⟩] scope gpos) 0 it .none env) [] = A.deeper env := by
  obtain ⟨hd, d, fr, gs, u⟩ := A
  simp [Around.over, Around.deeper, marksOver, frameCount, unitsOf, envsOf, guardsOf, pushEnvs, pushGuards, Code.envs, Code.env?, Code.isFrame, Code.guards, Code.isGuard, Code.weight, Code.frames, Code.isCreation, Code.isCaller, Code.cUnits]
theorem over_genS {A : Around} {elt target iter : Expr} {ifs : List Expr} {gpos : Pos} {it : Value} {env : Env} : A.over (.compStart (.GeneratorExp elt [⟨target, iter, ifs, 0⟩] scope gpos) 0 it .none env) [] = A.deeper env := by
  obtain ⟨hd, d, fr, gs, u⟩ := A
  simp [Around.over, Around.deeper, marksOver, frameCount, unitsOf, envsOf, guardsOf, pushEnvs, pushGuards, Code.envs, Code.env?, Code.isFrame, Code.guards, Code.isGuard, Code.weight, Code.frames, Code.isCreation, Code.isCaller, Code.cUnits]

/-- the generator's loop up to its first item, or its end -/
theorem gen_loop {G : Cx} {A1 : Around} {elt iter : Expr} {x : Str} {px gpos : Pos} {ifs : List Expr} {fp : List Addr} {it : Addr} {tn : Nat → Heap → Prop} {J : It} {g : TG} {tt : TT} {te : TE} {vs : List Nat} {Q : VK} {W : Nat → Nat → Hp → Prop} {s₀ : Shared}
    (hA : A1.deeper G.env = G.A) (hc : G.calm = true) (hx : G.xe = fun _ _ => False) (hco : G.env.scope.isCoroutine = false) (hpn : G.pn = []) (hex : G.ex = fp)
    (T : Turn G.prog G.w G.K (.Name x px) J fp it tn) (hg : PG G (.Name x px) g) (ht : PTs G ifs tt) (he : PE G elt te)
    (turn : ∀ i m H', W i m H' → (J.stop i H' ∧ Q .non H') ∨ (J.go i H' ∧ ∃ Nx : Hp → Prop, (∀ H3, Nx H3 → ∃ m', m' < m ∧ W (i + 1) m' H3) ∧ ∀ x H3, J.yld i H' x H3 → g x (wipe σ vs) H3 fun σ4 H4 => wipe σ4 vs = wipe σ vs ∧ tt σ4 H4 fun b H5 =>
      if b = true then te σ4 H5 Q else Nx H5)) :
    ∀ (m i : Nat) (s : Shared) (H' : Hp), Inv G [] (wipe σ vs) H' s → tn i s.heap → (∀ b ∈ fp, H' b = none) → W i m H' →
      Seg (model G.prog G.w) A1 (fun _ _ r s1 => r = .ok .next ∧ ∃ σ' H1, Inv G [] σ' H1 s1 ∧ Q .non H1) (fun _ _ v s1 _ => ∃ y σ' H1, Inv G [] σ' H1 s1 ∧ RelV y v ∧ Q y H1) 1 s₀
        (.compLoop (.GeneratorExp elt [⟨.Name x px, iter, ifs, 0⟩] scope gpos) 0 (.ref it) .none G.env)
        ((model G.prog G.w).den (.compLoop (.GeneratorExp elt [⟨.Name x px, iter, ifs, 0⟩] scope gpos) 0 (.ref it) .none G.env)) [] s := by
  have stat : ∀ {σ' : L2.St} {H' : Hp} {s' : Shared}, Inv G [] σ' H' s' → (∀ b ∈ fp, H' b = none) → ∀ b ∈ fp, FpOk G [] H' b := fun {σ' H' s'} I' hn b hb =>
    ⟨hn b hb, (I'.ok.exf b (by rw [hex]; exact hb)).1, I'.ok.exfs b (by rw [hex]; exact hb), .inl (by rw [hex]; exact hb), fun y c e => (I'.ok.exf b (by rw [hex]; exact hb)).2 y c e, fun p hp => absurd hp (by rw [hpn]; simp)⟩
  have no : ∀ {α : Type} {t : Sem α} {Q Q' : α → Shared → Prop} {E' : Value → Shared → Prop} {s : Shared}, wpAny (model G.prog G.w) G.A t Q G.xe s → (∀ a s, Q a s → Q' a s) → wpAny (model G.prog G.w) G.A t Q' E' s := fun h k => by
    rw [hx] at h
    exact thnF h k
  have no' : ∀ {α : Type} {t : Sem α} {Q Q' : α → Shared → Prop} {E' : Value → Shared → Prop} {s : Shared}, wpAny (model G.prog G.w) G.A t Q (fun _ _ => False) s → (∀ a s, Q a s → Q' a s) → wpAny (model G.prog G.w) G.A t Q' E' s := fun h k => thnF h k
  intro m
  induction m using Nat.strongRecOn with
  | ind m ih =>
    intro i s H' I st nf w
    show Seg _ A1 _ _ _ s₀ _ ((compTurn (.GeneratorExp elt [⟨.Name x px, iter, ifs, 0⟩] scope gpos) 0 (.ref it) .none G.env).onRaise (leaving G.env)) [] s
    rw [compTurn_gen, Sem.onRaise_eq_wrap]
    refine seg_bind_wrap (wpAny_standAt ?_)
    refine seg_bind_wrap ?_
    rw [over_gen, hA]
    rcases turn i m H' w with ⟨stop, q⟩ | ⟨go, Nx, hNx, step⟩
    · refine no' (T.done G rfl rfl rfl hc i [] s _ H' (fun _ _ => False) I (stat I nf) st stop) fun r s1 ⟨hr, I1⟩ => ?_
      subst hr
      exact seg_end (.ok .next) ⟨rfl, _, H', I1, q⟩
    · refine no' (T.item G rfl rfl rfl hc i [] s _ H' (fun _ _ => False) I (stat I nf) st go) fun r s1 ⟨u, hr, h1⟩ => ?_
      subst hr
      refine seg_bind_wrap ?_
      rw [over_gen, hA]
      refine no' h1 fun _ s2 ⟨xv, H2, I2, r2, y2, st2, n2⟩ => ?_
      have I2' := I2.pinned (stat I2 n2) (T.obj _ _ st2)
      refine seg_bind_wrap ?_
      rw [over_gen, hA]
      refine no (hg.run _ s2 _ H2 xv u _ I2' r2 (step xv H2 y2)) fun _ s3 ⟨σ3, H3, I3, hw3, q3⟩ => ?_
      refine seg_bind_wrap ?_
      rw [over_gen, hA]
      refine no (ht.run _ s3 σ3 H3 _ I3 q3) fun b s4 ⟨H4, I4, q4⟩ => ?_
      cases b with
      | false =>
        simp only [Bool.false_eq_true, if_false] at q4 ⊢
        obtain ⟨m', hm, w'⟩ := hNx H4 q4
        have pin' : ∀ b ∈ fp, ∀ o, s2.heap.get? b = some o → s4.heap.get? b = some o ∧ H4 b = none := fun b hb o e =>
          let z := I4.pin (b, o) (List.mem_append_right _ (List.mem_append_right _ (mem_pinsAt hb e)))
          ⟨z.1, z.2.1⟩
        refine seg_again rfl (ih m' hm (i + 1) s4 H4 ((I4.unpinned (pins := [])).weak (by rw [← hw3, wipe_length]) fun j v e => ?_) (T.keep _ _ _ st2 fun b hb o e => (pin' b hb o e).1) (fun b hb => ?_) w')
        · rw [← hw3] at e
          exact (wipe_some e).1
        · obtain ⟨o, e, _⟩ := T.obj _ _ st2 b hb
          exact (pin' b hb o e).2
      | true =>
        simp only [if_true] at q4 ⊢
        have hy : ∀ v, yieldOut G.env v = yieldValue v := fun v => by simp only [yieldOut, hco, Bool.false_eq_true, if_false]
        simp only [hy]
        rw [Sem.bind_eq_wrap', Sem.bind_eq_wrap', Sem.wrap_wrap, Sem.wrap_wrap]
        refine seg_wrap ?_
        rw [over_gen, hA]
        refine no (he.run _ s4 σ3 H4 _ I4 q4) fun v s5 ⟨y, H5, I5, r5, q5⟩ => ?_
        exact seg_at (seg_yield rfl rfl rfl ⟨y, σ3, H5, I5.unpinned (pins := []), r5, q5⟩)
end
end K14
set_option maxHeartbeats 2000000
namespace K14
open PySem L2 GxR GenW
open PySem.Spec PyProof.Rows
section
variable {X : Cx} {pins : List (Addr × Obj)} {σ : L2.St} {scope : Scope} {own : List (Str × Nat)}

theorem gen_start {prog : Program} {w : World} {A1 : Around} {R : GenEnd} {Y : Protocol} {n : Nat} {s₀ s : Shared} {elt target iter : Expr} {ifs : List Expr} {gpos : Pos} {it : Value} {env : Env}
    (loop : Seg (model prog w) A1 R Y n s₀ (.compLoop (.GeneratorExp elt [⟨target, iter, ifs, 0⟩] scope gpos) 0 it .none env) ((model prog w).den (.compLoop (.GeneratorExp elt [⟨target, iter, ifs, 0⟩] scope gpos) 0 it .none env)) [] s)
    (self : ∀ (A : Around) (Q : Value → Shared → Prop) (E : Value → Shared → Prop), Q it s → wpAny (model prog w) A (pyIter it) Q E s) :
    Seg (model prog w) A1 R Y n s₀ (.compStart (.GeneratorExp elt [⟨target, iter, ifs, 0⟩] scope gpos) 0 it .none env) ((model prog w).den (.compStart (.GeneratorExp elt [⟨target, iter, ifs, 0⟩] scope gpos) 0 it .none env)) [] s := by
  show Seg _ A1 _ _ _ s₀ _ ((compStart (.GeneratorExp elt [⟨target, iter, ifs, 0⟩] scope gpos) 0 it .none env).onRaise (leaving env)) [] s
  unfold compStart
  rw [Sem.onRaise_eq_wrap]
  show Seg _ A1 _ _ _ s₀ _ ((ask >>= _).wrap _ _ _ _) [] s
  refine seg_bind_wrap (wpAny_askSetting ?_)
  split
  · exact seg_again rfl loop
  · refine seg_bind_wrap (wpAny_rule ?_)
    first
      | exact seg_bind_wrap (wpAny_standAt (seg_bind_wrap (self _ _ _ (seg_again rfl loop))))
      | (show Seg _ A1 _ _ _ s₀ _ ((standAt iter.pos >>= _).wrap _ _ _ _) [] s
         exact seg_bind_wrap (wpAny_standAt (seg_bind_wrap (self _ _ _ (seg_again rfl loop)))))

theorem pe_nextG {c P : Addr} {elt iter : Expr} {x nm : Str} {px gpos p pos : Pos} {j : Nat} {cpos : Pos} {ifs : List Expr} {wi : TI} {g : TG} {tt : TT} {te : TE} {k : Nat}
    (hr : Room (k + 3) X.A) (hc : X.calm = true) (TB : TabB X.base X.mg c P) (hcode : X.env.code = .ref c) (hco : scope.isCoroutine = false) (ok : BlkOk X.N X.env.scope scope own) (hN : X.N.Nodup) (hdot : scope.names.lookup (".0" : Str) = some .local)
    (hn : Gl X nm) (hm : X.mg nm = none) (hv : bootBuiltins nm = some (.builtin "next"))
    (hi : PI X (.Name x px) iter wi) (hs : ∀ v, genFold iter X.env v = pure v)
    (hg : ∀ (s : Shared) (H : Hp) (C : Addr) (cl : List (Str × Addr)) (fp : List Addr) (cd : Value), PG (genX X s H scope (genEnv scope cl C cd builtinsNs X.env) fp (X.A.in1.in1.deeper (genEnv scope cl C cd builtinsNs X.env))) (.Name x px) g)
    (ht : ∀ (s : Shared) (H : Hp) (C : Addr) (cl : List (Str × Addr)) (fp : List Addr) (cd : Value), Room k (X.A.in1.in1.deeper (genEnv scope cl C cd builtinsNs X.env)) → PTs (genX X s H scope (genEnv scope cl C cd builtinsNs X.env) fp (X.A.in1.in1.deeper (genEnv scope cl C cd builtinsNs X.env))) ifs tt)
    (he : ∀ (s : Shared) (H : Hp) (C : Addr) (cl : List (Str × Addr)) (fp : List Addr) (cd : Value), PE (genX X s H scope (genEnv scope cl C cd builtinsNs X.env) fp (X.A.in1.in1.deeper (genEnv scope cl C cd builtinsNs X.env))) elt te)
    (hnn : nm ≠ "__name__" := by decide) (hdb : (nm == ("__debug__" : Str)) = false := by decide)
    (h1 : starEach [.GeneratorExp elt [⟨.Name x px, iter, ifs, 0⟩] scope gpos, .Constant .none j cpos] X.env = (false, eval (.GeneratorExp elt [⟨.Name x px, iter, ifs, 0⟩] scope gpos) X.env) :: starEach [.Constant .none j cpos] X.env := by rfl)
    (h2 : (backTo pos (starEach [.Constant .none j cpos] X.env)).any (·.1) = false := by rfl) :
    PE X (.Call (.Name nm p) [.GeneratorExp elt [⟨.Name x px, iter, ifs, 0⟩] scope gpos, .Constant .none j cpos] [] pos) (tNextG P wi g tt te (own.map (·.2))) := by
  refine ⟨fun pins s σ H Q I h => ?_⟩
  refine wpAny_Call_Name_kw (ld_blt I hn hm hv ?_ hnn hdb)
  refine PyProof.Rows.callWith_builtin1 ?_ h1 h2
  rw [h1]
  show wpAny _ _ (spliced ((false, eval (.GeneratorExp elt [⟨.Name x px, iter, ifs, 0⟩] scope gpos) X.env) :: backTo pos (starEach [.Constant .none j cpos] X.env))) _ _ s
  have hr0 : Room k X.A := hr.mono (by omega)
  refine Calls.spliced_cons (gen_eval hr0 TB hcode hco ok hdot hi hs I h fun J H1 H2 it fp tn a gn code s1 s5 hR hT T st M => ?_)
  obtain ⟨W, ⟨m0, w0⟩, turn⟩ := hR H2 hT
  -- None, then the call
  show wpAny _ _ (spliced [(false, eval (.Constant .none j cpos) X.env)]) _ _ s5
  refine Calls.spliced_cons (Constant_none (Calls.spliced_nil ?_))
  refine Calls.call_function_entry (by decide +kernel) (by decide +kernel) PySem.W.kdk_entry_next (PySem.W.kdk_args_next2 _ _) ?_
  unfold Builtin.«next»
  refine wpAny_bind (m := someArgs "next" 1 2 _) (wpAny_of_eq (a := [Value.ref a, Value.none]) (by first | rfl | kernel_rfl!) ?_)
  dsimp only
  refine wpAny_bind (wpAny_specialOf (name := Str.ofString "__next__") M.gen.typeIs slot_gen_next.lookup ?_)
  refine wpAny_ite_split (fun hab => absurd hab (by decide)) (fun _ => ?_)
  have lim : s5.heap.NoLimit := M.inv.nolimit.keeps M.up
  have back : ∀ {σ' : L2.St} {H' : Hp} {s' s'' : Shared} {cenv : Env} {A' : Around}, Inv (genX X s1 H2 scope cenv fp A') [] σ' H' s' → s''.heap = s'.heap → s''.os = s'.os → AllBare s''.gens → Inv X pins σ H' s'' := fun {σ' H' s' s'' cenv A'} I' e1 e2 hb => by
    refine M.inv.call' (ch := fp) (e2.trans I'.os) (by rw [e1]; exact I'.base) (by rw [e1]; exact I'.hok) hb fun b hb => ?_
    have q := (M.fps b hb).1
    exact ⟨q.2.2.2.1, q.2.1, q.2.2.2.2.1, q.2.2.2.2.2⟩
  generalize hce : genEnv scope (genCl X scope s1.heap.objs.size) s1.heap.objs.size code builtinsNs X.env = cenv
  have hat := M.at_
  rw [hce] at hat
  -- the generator wakes
  have I0 : Inv (genX X s1 H2 scope cenv fp (X.A.in1.in1.deeper cenv)) [] (wipe σ (own.map (·.2))) H2 (s5.setGen gn .running) := by
    have q := gen_inv (code := code) (A' := X.A.in1.in1.deeper cenv) (h' := s5.heap) (g' := (s5.setGen gn .running).gens) (d' := s5.drawn) (tk := s5.toks) M.inv ok hN M.fps (by
      show (X.A.frames.map (cenv :: ·)) = _
      rw [I.ok.frames, hce]
      rfl) hr.hd (allBare_setGen M.bare rfl) M.keep M.ns
    rw [hce] at q
    have e : ({ s1 with heap := s5.heap, gens := (s5.setGen gn .running).gens, drawn := s5.drawn, toks := s5.toks } : Shared) = s5.setGen gn .running := sh_eta s1 (s5.setGen gn .running) M.eq
    rw [e] at q
    exact q
  have st5 : tn 0 (s5.setGen gn .running).heap := T.keep _ _ _ st fun b hb o e => M.up b o e
  have room : Room k (X.A.in1.in1.deeper cenv) := (hr.in1.in1).deeper cenv
  have loop := gen_loop (G := genX X s1 H2 scope cenv fp (X.A.in1.in1.deeper cenv)) (A1 := X.A.in1.in1) (elt := elt) (iter := iter) (gpos := gpos) (scope := scope) (σ := σ) (vs := own.map (·.2)) (Q := Q) (W := W) (s₀ := s5.setGen gn .running)
    rfl hc rfl (by rw [← hce]; exact hco) rfl rfl T (by rw [← hce]; exact hg s1 H2 _ _ fp code) (by rw [← hce]; exact ht s1 H2 _ _ fp code (by rw [hce]; exact room)) (by rw [← hce]; exact he s1 H2 _ _ fp code) turn m0 0 (s5.setGen gn .running) H2 I0 st5 (fun b hb => (M.fps b hb).1.1) w0
  refine wpAny_bind (wpAny_pyNext_genexpQ (P := fun _ _ s1' => ∃ σ' H1, Inv (genX X s1 H2 scope cenv fp (X.A.in1.in1.deeper cenv)) [] σ' H1 s1' ∧ Q .non H1) (Y := fun _ _ v s1' _ => ∃ y σ' H1, Inv (genX X s1 H2 scope cenv fp (X.A.in1.in1.deeper cenv)) [] σ' H1 s1' ∧ RelV y v ∧ Q y H1) (n := 1)
    hr.hd lim (by have := hr.dp; show X.A.depth < _; omega) M.gen hat ⟨rfl, gen_start loop fun A Q' E' q => T.self A 0 _ Q' E' st5 q⟩ (fun v s6 gs' hb hv => ?_) fun s6 hp h' hk => ?_)
  · obtain ⟨y, σ', H3, I3, r3, q3⟩ := hv
    refine wpAny_pure ⟨_, rfl, y, H3, back I3 rfl rfl (allBare_setGen I3.bare hb), r3, q3⟩
  · obtain ⟨σ', H3, I3, q3⟩ := hp
    have J : Inv X pins σ H3 (s6.setGen gn .finished) := back I3 rfl rfl (allBare_setGen I3.bare rfl)
    exact wpAny_pure ⟨_, rfl, .non, H3, J.kept (t' := (s6.setGen gn .finished).toks) hk, rfl, q3⟩
end
end K14
set_option maxHeartbeats 2000000
/-! the text by places; heaps and what stands in them; walks -/
namespace K14
open PySem L2 RZ
open PySem.Spec PyProof.Rows
/-- the i-th statement of the top -/
def top (i : Nat) : Stmt := PySem.Challenge.pw_lengthstell_k14_whole_shaken_placings.main.body.getD i (.Pass ⟨0, 0, 0, 0⟩)

/-! ### heaps -/
/-- all but what stands at S is as it was -/
def KX (S : List Addr) (H H' : Hp) : Prop := ∀ a o, a ∉ S → H a = some o → H' a = some o
theorem KX.refl (S : List Addr) (H : Hp) : KX S H H := fun _ _ _ h => h
theorem KX.trans {S : List Addr} {H H1 H2 : Hp} (a : KX S H H1) (b : KX S H1 H2) : KX S H H2 := fun c o hc h => b c o hc (a c o hc h)
theorem KX.mono {S T : List Addr} {H H' : Hp} (a : KX S H H') (h : ∀ x ∈ S, x ∈ T) : KX T H H' := fun c o hc e => a c o (fun z => hc (h c z)) e
theorem KX.of {S : List Addr} {H H' : Hp} (a : KX [] H H') : KX S H H' := a.mono fun x z => nomatch z
theorem KX.new {S : List Addr} {H H' : Hp} {D : Addr} {o : HO} (a : KX S H H') (h : H D = none) : KX S H (upd H' D o) := fun c u hc e => by
  rw [upd_ne (ne_of_none e h)]
  exact a c u hc e
theorem KX.new' {S : List Addr} {H : Hp} {D : Addr} {o : HO} (h : H D = none) : KX S H (upd H D o) := (KX.refl S H).new h
theorem KX.put {S : List Addr} {H H' : Hp} {D : Addr} {o : HO} (a : KX S H H') (h : D ∈ S) : KX S H (upd H' D o) := fun c u hc e => by
  rw [upd_ne (fun z => hc (by rw [z]; exact h))]
  exact a c u hc e
theorem KX.free {S : List Addr} {H H' : Hp} {D : Addr} (a : KX S H H') (hS : D ∉ S) (h : H' D = none) : H D = none := by
  cases q : H D with
  | none => rfl
  | some o =>
    rw [a D o hS q] at h
    cases h
theorem KX.free0 {H H' : Hp} {D : Addr} (a : KX [] H H') (h : H' D = none) : H D = none := a.free (fun z => nomatch z) h
theorem KX.get0 {H H' : Hp} {D : Addr} {o : HO} (a : KX [] H H') (h : H D = some o) : H' D = some o := a D o (fun z => nomatch z) h
theorem Same.kx {S : List Addr} {H H' : Hp} (s : Same H H') : KX S H H' := fun c o _ e => s c o e

/-- what a call of ours leaves alone: all but lists and tables -/
def fixd : HO → Bool
  | .lst _ => false
  | .tbl _ => false
  | _ => true
def Kd (H H' : Hp) : Prop := ∀ a o, H a = some o → fixd o = true → H' a = some o
theorem Kd.refl (H : Hp) : Kd H H := fun _ _ h _ => h
theorem Kd.trans {H H1 H2 : Hp} (a : Kd H H1) (b : Kd H1 H2) : Kd H H2 := fun c o h f => b c o (a c o h f) f
theorem KX.kd {S : List Addr} {H H' : Hp} (a : KX S H H') (hS : ∀ x ∈ S, ∃ o, H x = some o ∧ fixd o = false) : Kd H H' := fun c o h f => a c o (fun z => by
  obtain ⟨u, e, q⟩ := hS c z
  rw [h] at e
  obtain rfl := Option.some.inj e
  rw [f] at q
  cases q) h
theorem KX.kd0 {H H' : Hp} (a : KX [] H H') : Kd H H' := a.kd fun x z => nomatch z

section
variable {K : PySem.W.Frag} {H H' : Hp} {a : Addr} {xs : List V} {S : List Addr}
theorem SqL.kx (h : SqL K H a xs) (k : KX S H H') (ha : a ∉ S) : SqL K H' a xs := by
  rcases h with (h | ⟨o, h⟩) | h
  · exact .inl (.inl (k a _ ha h))
  · exact .inl (.inr ⟨o, k a _ ha h⟩)
  · exact .inr h
theorem SqT.kx (h : SqT K H a xs) (k : KX S H H') (ha : a ∉ S) : SqT K H' a xs := by
  rcases h with (h | ⟨o, h⟩) | h
  · exact .inl (.inl (k a _ ha h))
  · exact .inl (.inr ⟨o, k a _ ha h⟩)
  · exact .inr h
theorem SqT.kd (h : SqT K H a xs) (k : Kd H H') : SqT K H' a xs := by
  rcases h with (h | ⟨o, h⟩) | h
  · exact .inl (.inl (k a _ h rfl))
  · exact .inl (.inr ⟨o, k a _ h rfl⟩)
  · exact .inr h
theorem SqA.kx (h : SqA K H a xs) (k : KX S H H') (ha : a ∉ S) : SqA K H' a xs := h.elim (fun z => .inl (SqL.kx z k ha)) fun z => .inr (SqT.kx z k ha)
theorem SqA.kx0 (h : SqA K H a xs) (k : KX [] H H') : SqA K H' a xs := h.kx k fun z => nomatch z
theorem SqL.kx0 (h : SqL K H a xs) (k : KX [] H H') : SqL K H' a xs := SqL.kx h k fun z => nomatch z
theorem SqT.kx0 (h : SqT K H a xs) (k : KX [] H H') : SqT K H' a xs := SqT.kx h k fun z => nomatch z
end

/-! ### what stands there -/
abbrev iV (ns : List Int) : List V := ns.map V.int
abbrev sV (zs : List Str) : List V := zs.map V.str
/-- a pair of texts, its tuple -/
abbrev Pr3 := Addr × Str × Str
abbrev refs (L : List Pr3) : List V := L.map fun x => V.ref x.1
def PrAt (H : Hp) (x : Pr3) : Prop := H x.1 = some (.tup [.str x.2.1, .str x.2.2])
theorem PrAt.t {K : PySem.W.Frag} {H : Hp} {x : Pr3} (h : PrAt H x) : PairT K H x := SqT.of h
theorem PrAt.kx {S : List Addr} {H H' : Hp} {x : Pr3} (h : PrAt H x) (k : KX S H H') (hx : x.1 ∉ S) : PrAt H' x := k _ _ hx h
theorem PrAt.kd {H H' : Hp} {x : Pr3} (h : PrAt H x) (k : Kd H H') : PrAt H' x := k _ _ h rfl
/-- the dict at d: at the texts ks, in this order, tuples of the whole numbers p -/
def PlAt (H : Hp) (d : Addr) (ks : List Str) (p : Str → List Int) : Prop := ∃ f : Str → Addr, H d = some (.dK (ks.map fun k => (Sum.inr k, V.ref (f k)))) ∧ ∀ k ∈ ks, H (f k) = some (.tup (iV (p k)))
theorem PlAt.kd {H H' : Hp} {d : Addr} {ks : List Str} {p : Str → List Int} (h : PlAt H d ks p) (k : Kd H H') : PlAt H' d ks p := let ⟨f, h1, h2⟩ := h; ⟨f, k _ _ h1 rfl, fun x hx => k _ _ (h2 x hx) rfl⟩
theorem PlAt.kx0 {H H' : Hp} {d : Addr} {ks : List Str} {p : Str → List Int} (h : PlAt H d ks p) (k : KX [] H H') : PlAt H' d ks p := h.kd k.kd0
/-- an instance of Frame -/
def FrAt (C : Addr) (H : Hp) (f : Addr) (pins : List Str) (rods : List Pr3) : Prop := ∃ (dx : Addr) (vs : List (Option V)) (tp tr : Addr), SlX.Slt H f C dx vs ∧ vs[1]? = some (some (.ref tp)) ∧ vs[2]? = some (some (.ref tr)) ∧
  H tp = some (.tup (sV pins)) ∧ H tr = some (.tup (refs rods)) ∧ ∀ x ∈ rods, PrAt H x
theorem Slt_kd {C : Addr} {H H' : Hp} {f dx : Addr} {vs : List (Option V)} (h : SlX.Slt H f C dx vs) (k : Kd H H') : SlX.Slt H' f C dx vs := by
  rcases h with ⟨h1, h2⟩ | ⟨h1, h2⟩
  · exact .inl ⟨k _ _ h1 rfl, h2⟩
  · exact .inr ⟨k _ _ h1 (by unfold SlX.SlO; rfl), k _ _ h2 rfl⟩
theorem FrAt.kd {C : Addr} {H H' : Hp} {f : Addr} {pins : List Str} {rods : List Pr3} (h : FrAt C H f pins rods) (k : Kd H H') : FrAt C H' f pins rods := by
  obtain ⟨dx, vs, tp, tr, h1, h2, h3, h4, h5, h6⟩ := h
  exact ⟨dx, vs, tp, tr, Slt_kd h1 k, h2, h3, k _ _ h4 rfl, k _ _ h5 rfl, fun x hx => (h6 x hx).kd k⟩
/-- the law's bag: some list of three whole numbers -/
def Bag (H : Hp) (b : Addr) : Prop := ∃ i j k : Int, H b = some (.lst [.int i, .int j, .int k])
theorem Bag.kx {S : List Addr} {H H' : Hp} {b : Addr} (h : Bag H b) (k : KX S H H') (hb : b ∉ S) : Bag H' b := let ⟨i, j, l, e⟩ := h; ⟨i, j, l, k _ _ hb e⟩
theorem valV_pl {f : Str → Addr} {k : Str} : ∀ {ks : List Str}, k ∈ ks → valV (ks.map fun k => ((Sum.inr k : Key), V.ref (f k))) (Sum.inr k) = some (V.ref (f k))
  | x :: ks, h => by
    rw [List.map_cons]
    by_cases e : x = k
    · subst e
      exact valV_pos rfl
    · rw [valV_neg (by simpa using e)]
      rcases List.mem_cons.mp h with q | q
      · exact absurd q.symm e
      · exact valV_pl q
theorem PlAt.get {H : Hp} {d : Addr} {ks : List Str} {p : Str → List Int} (h : PlAt H d ks p) {k : Str} (hk : k ∈ ks) : ∃ t, DGet H d (.str k) (some (.ref t)) ∧ H t = some (.tup (iV (p k))) := by
  obtain ⟨f, h1, h2⟩ := h
  refine ⟨f k, ?_, h2 k hk⟩
  have q := DGet.k (k := Sum.inr k) h1
  rw [valV_pl hk] at q
  exact q

/-! ### walks -/
section
variable {K : PySem.W.Frag} {a b c d : Addr} {xs ys zs ws : List V}
theorem walk_zipT {n : Nat} (hn : n = min xs.length ys.length) : Walk (ItzT K a b) n (fun H => SqT K H a xs ∧ SqT K H b ys) (YPair (fun i => xs[i]?) (fun i => ys[i]?)) := by
  subst hn
  refine ⟨fun i _ hi q => ?_, fun _ q => ⟨xs, ys, q.1, q.2, by omega⟩, fun i H v H' _ q y => ?_⟩
  · have h1 : i < xs.length := by omega
    have h2 : i < ys.length := by omega
    exact ⟨xs, ys, xs[i], ys[i], q.1, q.2, by simp [h1], by simp [h2]⟩
  · obtain ⟨T, x, z, h1, h2, h3, h4, h5⟩ := y
    exact ⟨T, x, z, h1, h2, h3, h4 xs q.1, h5 ys q.2⟩
theorem walk_zipM (hl : xs.length = ys.length) : Walk (ItzM K a b) xs.length (fun H => SqL K H a xs ∧ SqT K H b ys) (YPair (fun i => xs[i]?) (fun i => ys[i]?)) := by
  refine ⟨fun i _ hi q => ?_, fun _ q => ⟨xs, ys, q.1, q.2, hl, rfl⟩, fun i H v H' _ q y => ?_⟩
  · have h2 : i < ys.length := by omega
    exact ⟨xs, ys, xs[i], ys[i], q.1, q.2, hl, by simp [hi], by simp [h2]⟩
  · obtain ⟨T, x, z, h1, h2, h3, h4, h5⟩ := y
    exact ⟨T, x, z, h1, h2, h3, h4 xs q.1, h5 ys q.2⟩
theorem walk_enumT : Walk (IteT K a) xs.length (fun H => SqT K H a xs) (YPair (fun i => some (.int (i : Nat))) (fun i => xs[i]?)) := by
  refine ⟨fun i _ hi q => ⟨xs, xs[i], q, by simp [hi]⟩, fun _ q => ⟨xs, q, Nat.le_refl _⟩, fun i H v H' _ q y => ?_⟩
  obtain ⟨T, x, h1, h2, h3, h4⟩ := y
  exact ⟨T, .int (i : Nat), x, h1, h2, h3, rfl, h4 xs q⟩
/-- a place and a pair, two new tuples -/
def YNest (xs ys : List V) : Nat → Hp → V → Hp → Prop := fun i H v H' => ∃ T1 T2 x y, v = .ref T2 ∧ H T1 = none ∧ H T2 = none ∧ T1 ≠ T2 ∧ H' = upd (upd H T1 (.tup [x, y])) T2 (.tup [.int (i : Nat), .ref T1]) ∧ xs[i]? = some x ∧ ys[i]? = some y
theorem walk_enumZ (hl : xs.length = ys.length) : Walk (IteZ K a b) xs.length (fun H => SqT K H a xs ∧ SqT K H b ys) (YNest xs ys) := by
  refine ⟨fun i _ hi q => ?_, fun _ q => ⟨xs, q.1, Nat.le_refl _⟩, fun i H v H' _ q y => ?_⟩
  · have h2 : i < ys.length := by omega
    exact ⟨xs, ys, xs[i], ys[i], q.1, q.2, by simp [hi], by simp [h2]⟩
  · obtain ⟨T1, T2, x, z, h1, h2, h3, h4, h5, h6, h7⟩ := y
    exact ⟨T1, T2, x, z, h1, h2, h3, h4, h5, h6 xs q.1, h7 ys q.2⟩
def YFour (xs ys zs ws : List V) : Nat → Hp → V → Hp → Prop := fun i H v H' => ∃ T x y z w, v = .ref T ∧ H T = none ∧ H' = upd H T (.tup [x, y, z, w]) ∧ xs[i]? = some x ∧ ys[i]? = some y ∧ zs[i]? = some z ∧ ws[i]? = some w
theorem walk_zip4 (h1 : xs.length = ys.length) (h2 : xs.length = zs.length) (h3 : xs.length = ws.length) : Walk (Itz4 K a b c d) xs.length (fun H => SqT K H a xs ∧ SqT K H b ys ∧ SqT K H c zs ∧ SqT K H d ws) (YFour xs ys zs ws) := by
  refine ⟨fun i _ hi q => ?_, fun _ q => ⟨xs, q.1, Nat.le_refl _⟩, fun i H v H' _ q y => ?_⟩
  · have l1 : i < ys.length := by omega
    have l2 : i < zs.length := by omega
    have l3 : i < ws.length := by omega
    exact ⟨xs, ys, zs, ws, xs[i], ys[i], zs[i], ws[i], q.1, q.2.1, q.2.2.1, q.2.2.2, by simp [hi], by simp [l1], by simp [l2], by simp [l3]⟩
  · obtain ⟨T, x, z, u, v', e1, e2, e3, e4, e5, e6, e7⟩ := y
    exact ⟨T, x, z, u, v', e1, e2, e3, e4 xs q.1, e5 ys q.2.1, e6 zs q.2.2.1, e7 ws q.2.2.2⟩
end
/-- a list or a tuple walked: J is its walk, G what must stay -/
def iSeqA (K : PySem.W.Frag) (tl : TE) : TI := fun σ H R => tl σ H fun x H1 => ∃ (a : Addr) (xs : List V), x = .ref a ∧ SqA K H1 a xs ∧
  ∀ (J : It) (G : Hp → Prop), Walk J xs.length G (YAt xs) → (∀ (S : List Addr) (H' : Hp), KX S H1 H' → a ∉ S → G H') → R J H1
theorem pi_seqA {X : Cx} {tg l : Expr} {tl : TE} (hl : PE X l tl) : PI X tg l (iSeqA X.K tl) := by
  refine ⟨fun pins s σ H R I h => ?_⟩
  refine thn (hl.run pins s σ H _ I h) fun v s1 ⟨x, H1, I1, r1, a, xs, e, sq, q⟩ => ?_
  subst e
  cases r1
  have mine : ∀ b ∈ [s1.heap.objs.size], FpOk X pins H1 b := fun b hb => by
    rw [List.mem_singleton.mp hb]
    exact I1.fpOk (Nat.le_refl _) (I1.hok.fresh (Nat.le_refl _))
  rcases sq with hq | hq
  · obtain ⟨its, rv, p, _⟩ := I1.list hq
    exact wpAny_pyIter_list p.isList ⟨s1.heap.objs.size, [s1.heap.objs.size], _, _, H1, rfl, I1.kept (t' := s1.toks) fun b o e => Heap.get?_push_of_some _ e, turn_list a _, ⟨_, Heap.get?_push_size _ rfl, rfl, rfl⟩, mine, q _ _ walk_list fun S H' k hS => SqL.kx hq k hS⟩
  · obtain ⟨its, rv, p, _⟩ := I1.tuple hq
    exact wpAny_pyIter_tuple (show s1.heap.IsTuple a its.toArray from p) ⟨s1.heap.objs.size, [s1.heap.objs.size], _, _, H1, rfl, I1.kept (t' := s1.toks) fun b o e => Heap.get?_push_of_some _ e, turn_tuple a _, ⟨_, Heap.get?_push_size _ rfl, rfl, rfl⟩, mine, q _ _ walk_tup fun S H' k hS => SqT.kx hq k hS⟩

/-! ### what a comprehension has made so far -/
/-- f 0, .., f (i - 1) -/
abbrev mapN (f : Nat → V) (i : Nat) : List V := (List.range i).map f
theorem mapN_succ (f : Nat → V) (i : Nat) : mapN f (i + 1) = mapN f i ++ [f i] := by simp [mapN, List.range_succ]
theorem mapN_eq {α : Type} (g : α → V) (d : α) (xs : List α) : mapN (fun i => g (xs.getD i d)) xs.length = xs.map g := by
  refine List.ext_getElem (by simp [mapN]) fun i h1 h2 => ?_
  have h3 : i < xs.length := by simpa using h2
  simp [mapN, h3]
/-- the new list at D, all else as it was in H1 -/
def AccF (S : List Addr) (H1 : Hp) (D : Addr) (f : Nat → V) (i : Nat) (H : Hp) : Prop := KX S H1 H ∧ H D = some (.lst (mapN f i))
theorem AccF.zero {S : List Addr} {H1 : Hp} {D : Addr} {f : Nat → V} (hD : H1 D = none) : AccF S H1 D f 0 (upd H1 D (.lst [])) := ⟨KX.new' hD, upd_same⟩
theorem AccF.step {S : List Addr} {H1 H : Hp} {D : Addr} {f : Nat → V} {i : Nat} {y : V} (hD : H1 D = none) (k : KX S H1 H) (h : H D = some (.lst (mapN f i))) (e : y = f i) (hi : i < 100000) :
    ∃ acc, H D = some (.lst acc) ∧ acc.length < sizeLine ∧ AccF S H1 D f (i + 1) (upd H D (.lst (acc ++ [y]))) := by
  refine ⟨_, h, ?_, k.new hD, ?_⟩
  · rw [List.length_map, List.length_range]
    exact Nat.lt_trans hi (by rw [sizeLine_eq]; decide)
  · rw [upd_same, mapN_succ, e]
/-- all that is made are True -/
theorem AccF.all {S : List Addr} {H1 H : Hp} {D : Addr} {n : Nat} {K : PySem.W.Frag} (h : AccF S H1 D (fun _ => V.bl true) n H) : SqL K H D ((List.replicate n true).map V.bl) := by
  refine SqL.of ?_
  rw [h.2]
  congr 2
  refine List.ext_getElem (by simp) fun i h1 h2 => by simp
end K14
set_option maxHeartbeats 2000000
/-! a def that is called; what the top has left -/
namespace K14
open PySem L2 RZ
open PySem.Spec PyProof.Rows
/-- the def x is there and keeps sp -/
structure Def (P : Program) (w : World) (K : PySem.W.Frag) (mg : Str → Option Value) (base : Heap) (x : Str) (k : Nat) (ps : List Str) (sp : Sp) : Prop where
  ex : ∃ (f : Addr) (fd : FuncData), FnOk P w K mg base CX0 k f fd ps sp ∧ mg x = some (.ref f) ∧ PySem.W.keepIn K (.ref f) = true ∧ Binds K fd ps []
def tDef (sp : Sp) (t : TA) : TE := fun σ H Q => t σ H fun vs H1 => sp vs H1 Q E0
/-- an argument list's reading, its end weakened -/
def tUpA (t : TA) : TA := fun σ H Q => ∃ Q0 : List V → Hp → Prop, t σ H Q0 ∧ ∀ vs H1, Q0 vs H1 → Q vs H1
theorem pa_up {X : Cx} {es : List Expr} {t : TA} (h : PA X es t) : PA X es (tUpA t) :=
  ⟨fun pos pins s σ H Q I ⟨Q0, h0, hi⟩ => thn (h.run pos pins s σ H Q0 I h0) fun _ _ ⟨vs, H1, I1, r1, q1⟩ => ⟨vs, H1, I1, r1, hi vs H1 q1⟩⟩
theorem pe_def {X : Cx} {x : Str} {k j : Nat} {ps : List Str} {sp : Sp} {e : Expr} {es : List Expr} {t : TA} {p pos : Pos} (D : Def X.prog X.w X.K X.mg X.base x k ps sp) (hr : Room j X.A) (ha : PA X (e :: es) t) (hk : k ≤ j := by decide) (hg : Gl X x := by rfl)
    (hdb : (x == ("__debug__" : Str)) = false := by decide) (he : starEach (e :: es) X.env = (false, eval e X.env) :: starEach es X.env := by rfl) (hpl : (backTo pos (starEach es X.env)).any (·.1) = false := by rfl) :
    PE X (.Call (.Name x p) (e :: es) [] pos) (tDef sp t) := by
  obtain ⟨f, fd, F, hm, kp, hb⟩ := D.ex
  refine pe_of (pe_call F (hr.mono hk) hg hm kp hb .nil pass0 (pa_up ha) hdb he hpl) fun σ H Q h => ⟨_, h, fun vs H1 q => ?_⟩
  show sp (vs ++ []) H1 Q E0
  rw [List.append_nil]
  exact q
/-- a def whose code object is told: for what makes its own code objects -/
structure FunC (K : PySem.W.Frag) (x qual : Str) (st : Stmt) (f : Addr) (fd : FuncData) (c : Addr) : Prop where
  ex : ∃ (oc : Value) (od : Option Addr) (kV doc pm : Value) (an : Option Addr) (ct : Value) (osl : Array (Option Value)),
    fd = PySem.W.fnOf x qual (defArgs st) (defBody st) (defScope st) .none kV doc pm an (.ref c) ct ∧ K.lookup f = some ⟨oc, od, .func fd, osl⟩ ∧ PySem.W.codeIn K (.ref c) qual = true
  kp : PySem.W.keepIn K (.ref f) = true
theorem FunC.ok {P : Program} {w : World} {K : PySem.W.Frag} {mg : Str → Option Value} {base : Heap} {x qual : Str} {st : Stmt} {f c : Addr} {fd : FuncData} {N ps : List Str} {k : Nat} {sp : Sp} (F : FunC K x qual st f fd c) (S : FnScope N ps (defScope st)) (len : ∀ vs H Q E, sp vs H Q E → vs.length = ps.length)
    (hbody : ∀ (A : Around) (outer : List Env) (s : Shared) (H : Hp) (vs : List V) (Q : VK) (E : XK), Room k (A.deeper (envOfC qual (defScope st) s.heap.objs.size f (.ref c))) → sp vs H Q E →
      ∃ t, PSs (cxOf CX0 P w K mg base N qual (defScope st) f (.ref c) A outer s H E).nox (defBody st) t ∧ t { nx := fun _ H' => Q .non H', rt := Q } (start N vs) H) : FnOk P w K mg base CX0 (k + 1) f fd ps sp := by
  obtain ⟨oc, od, kV, doc, pm, an, ct, osl, rfl, lk, hcd⟩ := F.ex
  refine fn_of lk hcd S len fun A outer s H vs Q E hr hsp => ?_
  obtain ⟨t, h, q⟩ := hbody A outer s H vs Q E hr hsp
  exact ⟨t, h.nox, q⟩
theorem Def.mk' {P : Program} {w : World} {K : PySem.W.Frag} {mg : Str → Option Value} {base : Heap} {x : Str} {k : Nat} {ps : List Str} {sp : Sp} {f : Addr} {fd : FuncData} (F : FnOk P w K mg base CX0 k f fd ps sp) (h : mg x = some (.ref f)) (kp : PySem.W.keepIn K (.ref f) = true) (b : Binds K fd ps []) : Def P w K mg base x k ps sp := ⟨⟨f, fd, F, h, kp, b⟩⟩
theorem isTup {K : PySem.W.Frag} {H : Hp} {a : Addr} {xs : List V} (h : SqT K H a xs) : TyX K H (.ref a) (.type "tuple") := by
  rcases h with (h | ⟨o, h⟩) | ⟨o, its, n, h, c, _⟩
  · exact .base (.tup h)
  · exact .fTuple h
  · exact .kTuple h c
theorem mem_sV {zs : List Str} {i : Nat} {x : V} (h : (sV zs)[i]? = some x) : ∃ z, z ∈ zs ∧ x = .str z := by
  rw [List.getElem?_map] at h
  cases q : zs[i]? with
  | none =>
    rw [q] at h
    cases h
  | some z =>
    rw [q] at h
    exact ⟨z, List.mem_of_getElem? q, (Option.some.inj h).symm⟩
theorem mem_iV {ns : List Int} {i : Nat} {x : V} (h : (iV ns)[i]? = some x) : ∃ n, ns[i]? = some n ∧ n ∈ ns ∧ x = .int n := by
  rw [List.getElem?_map] at h
  cases q : ns[i]? with
  | none =>
    rw [q] at h
    cases h
  | some z =>
    rw [q] at h
    exact ⟨z, rfl, List.mem_of_getElem? q, (Option.some.inj h).symm⟩
theorem yesT {σ : L2.St} {H : Hp} {A B : Hp → Prop} (h : A H) : tYes σ H fun b H3 => if b = true then A H3 else B H3 := by
  show if true = true then A H else B H
  rw [if_pos rfl]
  exact h
theorem blT {Q : VK} {H : Hp} {b : Bool} (h : b = true) (q : Q (.bl true) H) : Q (.bl b) H := by
  rw [h]
  exact q
theorem blE {Q : VK} {H : Hp} {b c : Bool} (h : b = c) (q : Q (.bl c) H) : Q (.bl b) H := by
  rw [h]
  exact q
theorem inE {Q : VK} {H : Hp} {i j : Int} (h : i = j) (q : Q (.int j) H) : Q (.int i) H := by
  rw [h]
  exact q
theorem iteB {b : Bool} {A B : Prop} (h : b = true) (q : A) : if b = true then A else B := by
  rw [h, if_pos rfl]
  exact q
theorem iteN {b : Bool} {A B : Prop} (h : b = false) (q : B) : if b = true then A else B := by
  rw [h, if_neg Bool.false_ne_true]
  exact q
/-- a constant of the module -/
theorem pe_gint {X : Cx} {x : Str} {i : Int} {pos : Pos} (hm : ∃ t, X.mg x = some (.int i t)) (hg : Gl X x := by rfl) (hd : (x == ("__debug__" : Str)) = false := by decide) : PE X (.Name x pos) (tC (.int i)) :=
  let ⟨_, h⟩ := hm
  pe_glob hg h ⟨_, rfl⟩ hd
theorem pe_gstr {X : Cx} {x z : Str} {pos : Pos} (hm : ∃ t, X.mg x = some (.str z t)) (hg : Gl X x := by rfl) (hd : (x == ("__debug__" : Str)) = false := by decide) : PE X (.Name x pos) (tC (.str z)) :=
  let ⟨_, h⟩ := hm
  pe_glob hg h ⟨_, rfl⟩ hd
theorem pe_gref {X : Cx} {x : Str} {a : Addr} {pos : Pos} (hm : X.mg x = some (.ref a)) (hg : Gl X x := by rfl) (hd : (x == ("__debug__" : Str)) = false := by decide) : PE X (.Name x pos) (tC (.ref a)) := pe_glob hg hm rfl hd
/-- a built-in class as a value -/
theorem pe_gty {X : Cx} {x : Str} {n : String} {pos : Pos} (hm : X.mg x = none) (hv : bootBuiltins x = some (.type n)) (hg : Gl X x := by rfl) (hn : x ≠ "__name__" := by decide) (hd : (x == ("__debug__" : Str)) = false := by decide) : PE X (.Name x pos) (tC (.ty n)) := pe_bltn hg hm hv rfl hn hd
def beyond : Int := 10 ^ 2000
def letters : Str := "abcdefghijklmnopqrstuvwxyz"
/-- what of the built-ins is still so, and the module's constants; C: the class Frame -/
structure Txt (mg : Str → Option Value) (C : Addr) : Prop where
  len : mg "len" = none
  all : mg "all" = none
  isinstance : mg "isinstance" = none
  zip : mg "zip" = none
  enumerate : mg "enumerate" = none
  range : mg "range" = none
  sum : mg "sum" = none
  sorted : mg "sorted" = none
  set : mg "set" = none
  tuple : mg "tuple" = none
  list : mg "list" = none
  dict : mg "dict" = none
  int : mg "int" = none
  str : mg "str" = none
  bool : mg "bool" = none
  abs : mg "abs" = none
  max : mg "max" = none
  min : mg "min" = none
  next : mg "next" = none
  MAX_LETTERS : ∃ t, mg "MAX_LETTERS" = some (.int 4 t)
  MAX_PINS : ∃ t, mg "MAX_PINS" = some (.int 8 t)
  LINE : ∃ t, mg "LINE" = some (.int 1 t)
  PLANE : ∃ t, mg "PLANE" = some (.int 2 t)
  BEYOND : ∃ t, mg "BEYOND" = some (.int beyond t)
  LETTERS : ∃ t, mg "LETTERS" = some (.str letters t)
  Frame : mg "Frame" = some (.ref C)
end K14
set_option maxHeartbeats 2000000
/-! the rules with the text's part K told: within a comprehension's block it must not name the block -/
namespace K14
open PySem L2 RZ
open PySem.Spec PyProof.Rows
section
variable {X : Cx} (K : PySem.W.Frag)
theorem ix_tupK (hK : X.K = K := by rfl) : IxR X (rIxT K) := by
  subst hK
  exact ix_tup
theorem ix_listK (hK : X.K = K := by rfl) : IxR X (rIxL K) := by
  subst hK
  exact ix_list
theorem sl_listK (hK : X.K = K := by rfl) : SlR X (rSlL K) := by
  subst hK
  exact sl_list
theorem sl_tupK (hK : X.K = K := by rfl) : SlR X (rSlT K) := by
  subst hK
  exact sl_tup
theorem op_inK (hK : X.K = K := by rfl) : OpR X (compareOp .In) (rIn K false) := by
  subst hK
  exact op_in_seq
theorem op_notInK (hK : X.K = K := by rfl) : OpR X (compareOp .NotIn) (rIn K true) := by
  subst hK
  exact op_notIn_seq
def rLenA (K : PySem.W.Frag) : List V → Hp → VK → Prop := fun vs H Q => ∃ (p : Addr) (ys : List V), vs = [.ref p] ∧ SqA K H p ys ∧ Q (.int ys.length) H
theorem lenK (hK : X.K = K := by rfl) : CallR X (.builtin "len") (rLenA K) := by
  subst hK
  exact call_len_seq
theorem allK (hc : X.calm = true := by rfl) (hK : X.K = K := by rfl) : CallR X (.builtin "all") (rAll K) := by
  subst hK
  exact cr_all hc
theorem sumK (hc : X.calm = true := by rfl) (hK : X.K = K := by rfl) : CallR X (.builtin "sum") (rSum K) := by
  subst hK
  exact cr_sum hc
theorem sortTxK (hK : X.K = K := by rfl) : CallR X (.builtin "sorted") (rSortTx K) := by
  subst hK
  exact cr_sortTx
theorem sortPrK (hu : X.A.units + 64 < cLine) (hK : X.K = K := by rfl) : CallR X (.builtin "sorted") (rSortPr K) := by
  subst hK
  exact cr_sortPr hu
def rListA (K : PySem.W.Frag) : List V → Hp → VK → Prop := fun vs H Q => ∃ (p : Addr) (ys : List V), vs = [.ref p] ∧ SqA K H p ys ∧ ∀ l, H l = none → Q (.ref l) (upd H l (.lst ys))
theorem listK (hK : X.K = K := by rfl) : CallR X (.type "list") (rListA K) := by
  subst hK
  exact call_list_of
def rTupL (K : PySem.W.Frag) : List V → Hp → VK → Prop := fun vs H Q => ∃ (p : Addr) (ys : List V), vs = [.ref p] ∧ SqL K H p ys ∧ ∀ l, H l = none → Q (.ref l) (upd H l (.tup ys))
theorem tupK (hK : X.K = K := by rfl) : CallR X (.type "tuple") (rTupL K) := by
  subst hK
  exact fun pins s σ H xs us Q I r ⟨p, ys, e, h1, h2⟩ => call_tuple_of pins s σ H xs us Q I r ⟨p, ys, e, .inl ⟨h1, h2⟩⟩
def rDictP (K : PySem.W.Frag) : List V → Hp → VK → Prop := fun xs H Q => ∃ (a : Addr) (ps : List Addr) (kvs : List (Key × V)), xs = [.ref a] ∧ SqL K H a (ps.map V.ref) ∧ Paired (fun p kv => SqT K H p [kV kv.1, kv.2]) ps kvs ∧
    ∀ p, H p = none → Q (.ref p) (upd H p (.dK (mergeK [] kvs)))
theorem dictPK (hc : X.calm = true := by rfl) (hK : X.K = K := by rfl) : CallR X (.type "dict") (rDictP K) := by
  subst hK
  exact call_dictP hc
theorem eqDK (hu : X.A.units + 64 < cLine) (hK : X.K = K := by rfl) : OpR X (compareOp .Eq) (rEqD K) := by
  subst hK
  exact op_eqD hu
theorem neDK (hu : X.A.units + 64 < cLine) (hK : X.K = K := by rfl) : OpR X (compareOp .NotEq) (rNeD K) := by
  subst hK
  exact op_neD hu
theorem isiK (hK : X.K = K := by rfl) : CallR X (.builtin "isinstance") (rIsi K) := by
  subst hK
  exact call_isi
variable {tg l o e : Expr} {es : List Expr} {tl to : TE} {t : TA} {f : Str} {pos p p2 pos2 tpos : Pos} {elts : List Expr} {kk : Nat}
theorem slK (he : PE X e tl) (hb : attributeBase e f X.env (eval e X.env) = eval e X.env := by rfl) (hK : X.K = K := by rfl) : PE X (.Attribute e f pos) (SlX.tSl K tl f) := by
  subst hK
  exact SlX.pe_sl he hb
theorem piL (hl : PE X l tl) (hK : X.K = K := by rfl) : PI X tg l (iList K tl) := by
  subst hK
  exact pi_list hl
theorem piT (hl : PE X l tl) (hK : X.K = K := by rfl) : PI X tg l (iTup K tl) := by
  subst hK
  exact pi_tup hl
theorem piA (hl : PE X l tl) (hK : X.K = K := by rfl) : PI X tg l (iSeqA K tl) := by
  subst hK
  exact pi_seqA hl
variable {e2 e3 e4 : Expr}
theorem piZip (hm : X.mg "zip" = none) (ha : PA X [e, e2] t) (hg : Gl X "zip" := by rfl) (hs : starEach [e, e2] X.env = (false, eval e X.env) :: starEach [e2] X.env := by rfl) (hpl : (backTo pos (starEach [e2] X.env)).any (·.1) = false := by rfl) (hK : X.K = K := by rfl) :
    PI X (.Tuple elts kk tpos) (.Call (.Name "zip" p) [e, e2] [] pos) (iZipA K t) := by
  subst hK
  exact pi_zipA hg hm ha hs hpl
theorem piZipM (hm : X.mg "zip" = none) (ha : PA X [e, e2] t) (hg : Gl X "zip" := by rfl) (hs : starEach [e, e2] X.env = (false, eval e X.env) :: starEach [e2] X.env := by rfl) (hpl : (backTo pos (starEach [e2] X.env)).any (·.1) = false := by rfl) (hK : X.K = K := by rfl) :
    PI X (.Tuple elts kk tpos) (.Call (.Name "zip" p) [e, e2] [] pos) (iZipM K t) := by
  subst hK
  exact pi_zipM hg hm ha hs hpl
theorem piEnum (hm : X.mg "enumerate" = none) (ha : PA X [e] t) (hg : Gl X "enumerate" := by rfl) (hs : starEach [e] X.env = [(false, eval e X.env)] := by rfl) (hK : X.K = K := by rfl) : PI X (.Tuple elts kk tpos) (.Call (.Name "enumerate" p) [e] [] pos) (iEnum K t) := by
  subst hK
  exact pi_enum hg hm ha hs
theorem piEnumT (hm : X.mg "enumerate" = none) (ha : PA X [e] t) (hg : Gl X "enumerate" := by rfl) (hs : starEach [e] X.env = [(false, eval e X.env)] := by rfl) (hK : X.K = K := by rfl) : PI X (.Tuple elts kk tpos) (.Call (.Name "enumerate" p) [e] [] pos) (iEnumT K t) := by
  subst hK
  exact pi_enumT hg hm ha hs
theorem bmK {T id : String} {name : Str} {apos cpos : Pos} {r : V → List V → Hp → VK → Prop} (pa : PlainAttrs T) (slot : Slot T name id) (hty : typeOf (.builtin id) = pure (.type "method_descriptor")) (hm : MtR X id r) (ho : PE X o to) (ha : PA X (e :: es) t)
    (hbase : attributeBase o name X.env (eval o X.env) = eval o X.env := by rfl)
    (hfew : ((backTo cpos (starEach (e :: es) X.env)).all (fun x => !x.1) && (backToKw cpos (keywordEach [] X.env)).all (fun x => x.1.isSome)
      && decide ((e :: es).length + ([] : List Keyword).length + (if ([] : List Keyword).isEmpty then 0 else 1) < 30)) = true := by rfl)
    (hline : (apos.endLine == cpos.line) = true := by rfl) (hs : starEach (e :: es) X.env = (false, eval e X.env) :: starEach es X.env := by rfl) (hplain : (backTo cpos (starEach es X.env)).any (·.1) = false := by rfl) (hK : X.K = K := by rfl) :
    PE X (.Call (.Attribute o name apos) (e :: es) [] cpos) (tBM K T r to t) := by
  subst hK
  exact pe_bm pa slot hty hm ho ha hbase hfew hline hs hplain
end
/-- a loop or a comprehension over a walk, whatever its body: Pv by the turn and the heap -/
theorem any_it {J : It} {n : Nat} {G : Hp → Prop} {Y : Nat → Hp → V → Hp → Prop} (w : Walk J n G Y) {B : V → Hp → (Hp → Prop) → Prop} {Hs : Hp} {Qd : Hp → Prop} (Pv : Nat → Hp → Prop) (h0 : Pv 0 Hs) (hG : ∀ i H, i ≤ n → Pv i H → G H)
    (hs : ∀ i x H H', i < n → Pv i H → Y i H x H' → B x H' (Pv (i + 1))) (hd : ∀ H, Pv n H → Qd H) :
    ∃ W : Nat → Nat → Hp → Prop, (∃ m, W 0 m Hs) ∧ ∀ i m H, W i m H → (J.stop i H ∧ Qd H) ∨ (J.go i H ∧ ∃ Nx : Hp → Prop, (∀ H', Nx H' → ∃ m', m' < m ∧ W (i + 1) m' H') ∧ ∀ x H', J.yld i H x H' → B x H' Nx) := by
  refine ⟨fun i m H => m + i = n ∧ Pv i H, ⟨n, Nat.add_zero n, h0⟩, fun i m H ⟨e, p⟩ => ?_⟩
  have hi : i ≤ n := by omega
  by_cases lt : i < n
  · exact .inr ⟨w.goes i H lt (hG i H hi p), Pv (i + 1), fun H' p' => ⟨m - 1, by omega, by omega, p'⟩, fun x H' y => hs i x H H' lt p (w.yields i H x H' lt (hG i H hi p) y)⟩
  · obtain rfl : i = n := by omega
    exact .inl ⟨w.stops H (hG i H hi p), hd H p⟩
/-- a list of True alone, at D; all else as it was -/
def AccT (H1 : Hp) (D : Addr) (lim : Nat) (H : Hp) : Prop := KX [] H1 H ∧ ∃ m, m ≤ lim ∧ H D = some (.lst (List.replicate m (.bl true)))
theorem AccT.step {H1 H : Hp} {D : Addr} {lim : Nat} {y : V} (h : AccT H1 D lim H) (hD : H1 D = none) (e : y = .bl true) (hl : lim < 100000) : ∃ acc, H D = some (.lst acc) ∧ acc.length < sizeLine ∧ AccT H1 D (lim + 1) (upd H D (.lst (acc ++ [y]))) := by
  obtain ⟨k, m, hm, h⟩ := h
  refine ⟨_, h, ?_, k.new hD, m + 1, by omega, ?_⟩
  · rw [List.length_replicate]
    exact Nat.lt_of_le_of_lt hm (Nat.lt_trans hl (by rw [sizeLine_eq]; decide))
  · rw [upd_same, e, List.replicate_succ']
theorem AccT.all {H1 H : Hp} {D : Addr} {lim : Nat} {K : PySem.W.Frag} (h : AccT H1 D lim H) : ∃ bs : List Bool, SqL K H D (bs.map V.bl) ∧ bs.all id = true := by
  obtain ⟨_, m, _, h⟩ := h
  exact ⟨List.replicate m true, SqL.of (by rw [h, List.map_replicate]), by simp⟩
end K14
set_option maxHeartbeats 2000000
/-! the words: what is a whole number, a name, a lot, a pair -/
namespace K14
open PySem L2 RZ
open PySem.Spec PyProof.Rows
abbrev st_is_whole : Stmt := top 12
theorem sc_is_whole : FnScope ["value"] ["value"] (defScope st_is_whole) := ⟨rfl, rfl, rfl, by decide +kernel, rfl, by decide +kernel, by decide +kernel⟩
abbrev st_is_integer : Stmt := top 13
theorem sc_is_integer : FnScope ["value"] ["value"] (defScope st_is_integer) := ⟨rfl, rfl, rfl, by decide +kernel, rfl, by decide +kernel, by decide +kernel⟩
abbrev st_is_name : Stmt := top 14
theorem sc_is_name : FnScope ["value", "sign"] ["value"] (defScope st_is_name) := ⟨rfl, rfl, rfl, by decide +kernel, rfl, by decide +kernel, by decide +kernel⟩
abbrev st_are_names : Stmt := top 15
theorem sc_are_names : FnScope ["value", "one"] ["value"] (defScope st_are_names) := ⟨rfl, rfl, rfl, by decide +kernel, rfl, by decide +kernel, by decide +kernel⟩
abbrev st_is_ascending : Stmt := top 16
theorem sc_is_ascending : FnScope ["items", "one", "other"] ["items"] (defScope st_is_ascending) := ⟨rfl, rfl, rfl, by decide +kernel, rfl, by decide +kernel, by decide +kernel⟩
abbrev st_is_lot : Stmt := top 17
theorem sc_is_lot : FnScope ["value"] ["value"] (defScope st_is_lot) := ⟨rfl, rfl, rfl, by decide +kernel, rfl, by decide +kernel, by decide +kernel⟩
abbrev st_is_pair : Stmt := top 18
theorem sc_is_pair : FnScope ["value"] ["value"] (defScope st_is_pair) := ⟨rfl, rfl, rfl, by decide +kernel, rfl, by decide +kernel, by decide +kernel⟩
def spWhole : Sp := fun vs H Q _ => ∃ i : Int, vs = [.int i] ∧ Q (.bl true) H
def spInteger : Sp := fun vs H Q _ => ∃ i : Int, vs = [.int i] ∧ i.natAbs < 10 ^ 2000 ∧ Q (.bl true) H
/-- a name as the program takes it -/
structure NameOk (z : Str) : Prop where
  ne : 1 ≤ z.length
  le : z.length ≤ 4
  low : ∀ c ∈ z.cps.toList, c ∈ letters.cps.toList
def spName : Sp := fun vs H Q _ => ∃ z : Str, vs = [.str z] ∧ NameOk z ∧ ∀ H', KX [] H H' → Q (.bl true) H'
def spNames (K : PySem.W.Frag) : Sp := fun vs H Q _ => ∃ (t : Addr) (zs : List Str), vs = [.ref t] ∧ SqT K H t (sV zs) ∧ zs.length < 64 ∧ (∀ z ∈ zs, NameOk z) ∧ ∀ H', KX [] H H' → Q (.bl true) H'
def spAsc (K : PySem.W.Frag) : Sp := fun vs H Q _ => ∃ (t : Addr) (x y : Str), vs = [.ref t] ∧ SqT K H t [.str x, .str y] ∧ x.cps.toList < y.cps.toList ∧ ∀ H', KX [] H H' → Q (.bl true) H'
/-- a pair of two names in order -/
structure PairOk (x : Str × Str) : Prop where
  n1 : NameOk x.1
  n2 : NameOk x.2
  lt : x.1.cps.toList < x.2.cps.toList
def spPair (K : PySem.W.Frag) : Sp := fun vs H Q _ => ∃ (t : Addr) (x : Str × Str), vs = [.ref t] ∧ SqT K H t [.str x.1, .str x.2] ∧ PairOk x ∧ ∀ H', KX [] H H' → Q (.bl true) H'
section
variable {P : Program} {w : World} {K : PySem.W.Frag} {mg : Str → Option Value} {base : Heap} {C : Addr}
theorem ok_is_whole {f : Addr} {fd : FuncData} (F : Fun K "is_whole" "is_whole" st_is_whole f fd) (T : Txt mg C) : FnOk P w K mg base CX0 1 f fd ["value"] spWhole := by
  refine F.ok sc_is_whole (fun vs H Q E h => ?_) (fun cdv A outer s H vs Q E hr h => ?_)
  · obtain ⟨i, rfl, _⟩ := h
    rfl
  · obtain ⟨i, rfl, q⟩ := h
    refine ⟨_, (pss_one (ps_ret (pe_and (pe_callB (isiK K) (by rfl) T.isinstance (by decide +kernel) (pa_cons (pv 0) (pa_cons (pe_gty (n := "int") T.int (by decide +kernel)) pa_nil))) (pe_one (pe_not (pe_callB (isiK K) (by rfl) T.isinstance (by decide +kernel) (pa_cons (pv 0) (pa_cons (pe_gty (n := "bool") T.bool (by decide +kernel)) pa_nil)))))))), ?_⟩
    refine ⟨_, rfl, _, _, _, _, _, rfl, .ty _, .base (.int _), kit_ty (by decide +kernel), true, rfl, ?_⟩
    refine iteT ?_
    exact ⟨_, rfl, _, _, _, _, _, rfl, .ty _, .base (.int _), kit_ty (r := false) (by decide +kernel), false, rfl, q⟩
theorem ok_is_integer {f : Addr} {fd : FuncData} (F : Fun K "is_integer" "is_integer" st_is_integer f fd) (T : Txt mg C) (d_is_whole : Def P w K mg base "is_whole" 1 ["value"] spWhole) : FnOk P w K mg base CX0 2 f fd ["value"] spInteger := by
  refine F.ok sc_is_integer (fun vs H Q E h => ?_) (fun cdv A outer s H vs Q E hr h => ?_)
  · obtain ⟨i, rfl, _⟩ := h
    rfl
  · obtain ⟨i, rfl, hi, q⟩ := h
    refine ⟨_, (pss_one (ps_ret (pe_and (pe_def d_is_whole hr (pa_cons (pv 0) pa_nil)) (pe_one (pe_cmpR op_lt (pe_callB call_abs (by rfl) T.abs (by decide +kernel) (pa_cons (pv 0) pa_nil)) (pe_gint T.BEYOND) (nomark _)))))), ?_⟩
    refine ⟨_, rfl, i, rfl, true, rfl, ?_⟩
    refine iteT ?_
    refine ⟨_, rfl, i, rfl, _, _, rfl, rfl, ?_⟩
    refine blT (decide_eq_true ?_) q
    have hb : ((10 ^ 2000 : Nat) : Int) = beyond := by
      unfold beyond
      exact Int.natCast_pow 10 2000
    show (if i < 0 then -i else i) < beyond
    split <;> omega
theorem ok_is_name {f : Addr} {fd : FuncData} (F : Fun K "is_name" "is_name" st_is_name f fd) (T : Txt mg C) : FnOk P w K mg base CX0 1 f fd ["value"] spName := by
  refine F.ok sc_is_name (fun vs H Q E h => ?_) (fun cdv A outer s H vs Q E hr h => ?_)
  · obtain ⟨z, rfl, _⟩ := h
    rfl
  · obtain ⟨z, rfl, hz, q⟩ := h
    refine ⟨_, (pss_one (ps_ret (pe_and (pe_callB (isiK K) (by rfl) T.isinstance (by decide +kernel) (pa_cons (pv 0) (pa_cons (pe_gty (n := "str") T.str (by decide +kernel)) pa_nil))) (pe_and (pe_chain op_le op_le pe_int (pe_callB call_len_str (by rfl) T.len PySem.boot_len (pa_cons (pv 0) pa_nil)) (pe_gint T.MAX_LETTERS)) (pe_one (pe_callB (allK K) (by rfl) T.all (by decide +kernel) (pa_cons (pe_lc (own := [("sign", 1)]) (g := (gName 1)) (tt := tYes) rfl sc_is_name.nd (pi_str (pv 0)) (blkOk_by (N := ["value", "sign"]) (sc := defScope st_is_name) (own := [("sign", 1)]) (by decide +kernel)) (fun _ _ _ _ _ => (pg_name (i := 1) sc_is_name.nd rfl (by first | exact Or.inl rfl | exact Or.inr rfl))) (fun _ _ _ _ _ => pts_nil) (fun _ _ _ _ _ => (pe_cmpR op_in_sign (pv 1) (pe_gstr T.LETTERS) (by with_unfolding_all rfl)))) pa_nil))))))), ?_⟩
    refine ⟨_, rfl, _, _, _, _, _, rfl, .ty _, .base (.str _), kit_ty (by decide +kernel), true, rfl, ?_⟩
    refine iteT ?_
    have l1 := hz.ne
    have l2 := hz.le
    refine ⟨_, rfl, z, rfl, Nat.le_trans l2 (by decide), _, _, rfl, rfl, _, rfl, ?_⟩
    refine iteB (decide_eq_true (show (1 : Int) ≤ (z.length : Int) by omega)) ?_
    refine ⟨_, _, rfl, rfl, _, rfl, ?_⟩
    refine iteB (decide_eq_true (show (z.length : Int) ≤ 4 by omega)) ?_
    refine ⟨_, rfl, z, rfl, fun D hD => lc_it walk_str (AccF [] H D fun _ => .bl true) (AccF.zero hD) (fun _ _ _ _ => trivial) (fun i x H0 H1 hi p y => ?_) fun H1 p => ?_⟩
    · obtain ⟨rfl, c, hc, rfl⟩ := y
      refine ⟨rfl, yesT ?_⟩
      refine ⟨_, rfl, c, letters, rfl, rfl, AccF.step hD p.1 p.2 ?_ ?_⟩
      · have hm : c ∈ z.cps.toList := by
          rw [← Array.getElem?_toList] at hc
          exact List.mem_of_getElem? hc
        exact congrArg V.bl (decide_eq_true (hz.low c hm))
      · have : z.length = z.cps.size := rfl
        omega
    · refine ⟨D, _, rfl, p.all, ?_⟩
      exact blT (by simp) (q H1 p.1)
theorem ok_are_names {f : Addr} {fd : FuncData} (F : Fun K "are_names" "are_names" st_are_names f fd) (T : Txt mg C) (d_is_name : Def P w K mg base "is_name" 1 ["value"] spName) : FnOk P w K mg base CX0 2 f fd ["value"] (spNames K) := by
  refine F.ok sc_are_names (fun vs H Q E h => ?_) (fun cdv A outer s H vs Q E hr h => ?_)
  · obtain ⟨t, zs, rfl, _⟩ := h
    rfl
  · obtain ⟨t, zs, rfl, ht, few, hz, q⟩ := h
    refine ⟨_, (pss_one (ps_ret (pe_and (pe_callB (isiK K) (by rfl) T.isinstance (by decide +kernel) (pa_cons (pv 0) (pa_cons (pe_gty (n := "tuple") T.tuple (by decide +kernel)) pa_nil))) (pe_one (pe_callB (allK K) (by rfl) T.all (by decide +kernel) (pa_cons (pe_lc (own := [("one", 1)]) (g := (gName 1)) (tt := tYes) rfl sc_are_names.nd (piT K (pv 0)) (blkOk_by (N := ["value", "one"]) (sc := defScope st_are_names) (own := [("one", 1)]) (by decide +kernel)) (fun _ _ _ _ _ => (pg_name (i := 1) sc_are_names.nd rfl (by first | exact Or.inl rfl | exact Or.inr rfl))) (fun _ _ _ _ _ => pts_nil) (fun _ _ _ _ _ => (pe_def d_is_name hr (pa_cons (pv 1) pa_nil)))) pa_nil)))))), ?_⟩
    refine ⟨_, rfl, _, _, _, _, _, rfl, .ty _, isTup ht, kit_ty (by decide +kernel), true, rfl, ?_⟩
    refine iteT ?_
    refine ⟨_, rfl, t, rfl, ⟨_, ht⟩, fun D hD => lc_it walk_tup (AccF [] H D fun _ => .bl true) (AccF.zero hD) (fun i H' _ p => SqT.kx0 ht p.1) (fun i x H0 H1 hi p y => ?_) fun H1 p => ?_⟩
    · obtain ⟨rfl, hx⟩ := y
      obtain ⟨z, hm, rfl⟩ := mem_sV hx
      refine ⟨rfl, yesT ?_⟩
      refine ⟨_, rfl, z, rfl, hz z hm, fun H2 k2 => AccF.step hD (p.1.trans k2) (k2.get0 p.2) rfl ?_⟩
      rw [List.length_map] at hi
      omega
    · refine ⟨D, _, rfl, p.all, ?_⟩
      exact blT (by simp) (q H1 p.1)
theorem ok_is_ascending {f : Addr} {fd : FuncData} (F : Fun K "is_ascending" "is_ascending" st_is_ascending f fd) (T : Txt mg C) : FnOk P w K mg base CX0 1 f fd ["items"] (spAsc K) := by
  refine F.ok sc_is_ascending (fun vs H Q E h => ?_) (fun cdv A outer s H vs Q E hr h => ?_)
  · obtain ⟨t, x, y, rfl, _⟩ := h
    rfl
  · obtain ⟨t, x, y, rfl, ht, lt, q⟩ := h
    refine ⟨_, (pss_one (ps_ret (pe_callB (allK K) (by rfl) T.all (by decide +kernel) (pa_cons (pe_lc (own := [("one", 1), ("other", 2)]) (g := (gTup K 2 (gCons (gName 1) (gCons (gName 2) gNil)))) (tt := tYes) rfl sc_is_ascending.nd (piZip K T.zip (pa_cons (pv 0) (pa_cons (pe_slice (sl_tupK K) (pv 0) (po_some pe_int) po_none) pa_nil))) (blkOk_by (N := ["items", "one", "other"]) (sc := defScope st_is_ascending) (own := [("one", 1), ("other", 2)]) (by decide +kernel)) (fun _ _ _ _ _ => (pg_tup rfl (pgs_cons (pg_name (i := 1) sc_is_ascending.nd rfl (by first | exact Or.inl rfl | exact Or.inr rfl)) (pgs_cons (pg_name (i := 2) sc_is_ascending.nd rfl (by first | exact Or.inl rfl | exact Or.inr rfl)) pgs_nil)))) (fun _ _ _ _ _ => pts_nil) (fun _ _ _ _ _ => (pe_cmpR op_lt_str (pv 1) (pv 2) (nomark _)))) pa_nil)))), ?_⟩
    refine ⟨_, rfl, _, rfl, _, rfl, t, _, rfl, ht, (by intro z; exact absurd z.1 (by simp [HT.sIx])), fun T2 hT2 => ?_⟩
    have e2 : cutV [V.str x, V.str y] (some 1) none = [V.str y] := rfl
    rw [e2]
    have k2 : KX [] H (upd H T2 (.tup [.str y])) := KX.new' hT2
    refine ⟨t, T2, _, _, rfl, .inr ⟨SqT.kx0 ht k2, SqT.of upd_same, fun D hD => lc_it (walk_zipT (n := 1) rfl) (AccF [] (upd H T2 (.tup [.str y])) D fun _ => .bl true) (AccF.zero hD)
      (fun i H' _ p => ⟨SqT.kx0 (SqT.kx0 ht k2) p.1, SqT.kx0 (SqT.of upd_same) p.1⟩) (fun i v H0 H1 hi p y => ?_) fun H1 p => ?_⟩⟩
    · obtain ⟨T3, u, v', rfl, hT3, rfl, e3, e4⟩ := y
      obtain rfl : i = 0 := by omega
      obtain rfl : V.str x = u := Option.some.inj e3
      obtain rfl : V.str _ = v' := Option.some.inj e4
      refine ⟨T3, _, rfl, SqT.of upd_same, rfl, _, _, rfl, _, _, rfl, rfl, rfl, yesT ?_⟩
      refine ⟨_, rfl, _, rfl, x, _, rfl, rfl, AccF.step hD (p.1.new (p.1.free0 hT3)) ?_ (congrArg V.bl (decide_eq_true lt)) (by decide)⟩
      rw [upd_ne (ne_of_none p.2 hT3)]
      exact p.2
    · exact ⟨D, _, rfl, p.all, blT rfl (q H1 (k2.trans p.1))⟩
theorem ok_is_lot {f : Addr} {fd : FuncData} (F : Fun K "is_lot" "is_lot" st_is_lot f fd) (T : Txt mg C) (d_are_names : Def P w K mg base "are_names" 2 ["value"] (spNames K)) (d_is_ascending : Def P w K mg base "is_ascending" 1 ["items"] (spAsc K)) :
    FnOk P w K mg base CX0 3 f fd ["value"] (spPair K) := by
  refine F.ok sc_is_lot (fun vs H Q E h => ?_) (fun cdv A outer s H vs Q E hr h => ?_)
  · obtain ⟨t, x, rfl, _⟩ := h
    rfl
  · obtain ⟨t, x, rfl, ht, ok, q⟩ := h
    refine ⟨_, (pss_one (ps_ret (pe_and (pe_def d_are_names hr (pa_cons (pv 0) pa_nil)) (pe_one (pe_def d_is_ascending hr (pa_cons (pv 0) pa_nil)))))), ?_⟩
    refine ⟨_, rfl, t, [x.1, x.2], rfl, ht, by show 2 < 64; decide, fun z hz => ?_, fun H1 k1 => ⟨true, rfl, iteT ?_⟩⟩
    · rcases (show z = x.1 ∨ z = x.2 by simpa using hz) with e | e <;> rw [e]
      · exact ok.n1
      · exact ok.n2
    · exact ⟨_, rfl, t, x.1, x.2, rfl, SqT.kx0 ht k1, ok.lt, fun H2 k2 => q H2 (k1.trans k2)⟩
theorem ok_is_pair {f : Addr} {fd : FuncData} (F : Fun K "is_pair" "is_pair" st_is_pair f fd) (T : Txt mg C) (d_is_lot : Def P w K mg base "is_lot" 3 ["value"] (spPair K)) : FnOk P w K mg base CX0 4 f fd ["value"] (spPair K) := by
  refine F.ok sc_is_pair (fun vs H Q E h => ?_) (fun cdv A outer s H vs Q E hr h => ?_)
  · obtain ⟨t, x, rfl, _⟩ := h
    rfl
  · obtain ⟨t, x, rfl, ht, ok, q⟩ := h
    refine ⟨_, (pss_one (ps_ret (pe_and (pe_def d_is_lot hr (pa_cons (pv 0) pa_nil)) (pe_one (pe_cmpR op_eq (pe_callB (lenK K) (by rfl) T.len PySem.boot_len (pa_cons (pv 0) pa_nil)) pe_int (nomark _)))))), ?_⟩
    refine ⟨_, rfl, t, x, rfl, ht, ok, fun H1 k1 => ⟨true, rfl, iteT ?_⟩⟩
    exact ⟨_, rfl, t, _, rfl, .inr (SqT.kx0 ht k1), rfl, blT rfl (q H1 k1)⟩
end
end K14
set_option maxHeartbeats 2000000
/-! pins, rods -/
namespace K14
open PySem L2 RZ
open PySem.Spec PyProof.Rows
abbrev st_are_pins : Stmt := top 21
theorem sc_are_pins : FnScope ["value"] ["value"] (defScope st_are_pins) := ⟨rfl, rfl, rfl, by decide +kernel, rfl, by decide +kernel, by decide +kernel⟩
abbrev st_are_rods : Stmt := top 22
theorem sc_are_rods : FnScope ["pins", "value", "pair", "pin"] ["pins", "value"] (defScope st_are_rods) := ⟨rfl, rfl, rfl, by decide +kernel, rfl, by decide +kernel, by decide +kernel⟩
abbrev st_near_in : Stmt := top 23
theorem sc_near_in : FnScope ["rods", "pin", "rod"] ["rods", "pin"] (defScope st_near_in) := ⟨rfl, rfl, rfl, by decide +kernel, rfl, by decide +kernel, by decide +kernel⟩
def spPins (K : PySem.W.Frag) : Sp := fun vs H Q _ => ∃ (t : Addr) (zs : List Str), vs = [.ref t] ∧ SqT K H t (sV zs) ∧ 1 ≤ zs.length ∧ zs.length ≤ 8 ∧ (∀ z ∈ zs, NameOk z) ∧ zs.Nodup ∧ ∀ H', KX [] H H' → Q (.bl true) H'
/-- pairs of the names zs, all different -/
structure RodsOk (zs : List Str) (L : List Pr3) : Prop where
  ok : ∀ x ∈ L, PairOk x.2
  nd : (L.map (·.2)).Nodup
  few : L.length < 64
  on1 : ∀ x ∈ L, x.2.1 ∈ zs
  on2 : ∀ x ∈ L, x.2.2 ∈ zs
def spRods (K : PySem.W.Frag) : Sp := fun vs H Q _ => ∃ (t u : Addr) (zs : List Str) (L : List Pr3), vs = [.ref t, .ref u] ∧ SqT K H t (sV zs) ∧ SqT K H u (refs L) ∧ (∀ x ∈ L, PrAt H x) ∧ RodsOk zs L ∧ ∀ H', KX [] H H' → Q (.bl true) H'
def spNear (K : PySem.W.Frag) : Sp := fun vs H Q _ => ∃ (u : Addr) (L : List Pr3) (z : Str), vs = [.ref u, .str z] ∧ SqT K H u (refs L) ∧ (∀ x ∈ L, PrAt H x) ∧ L.length < 64 ∧ ∀ t H', KX [] H H' → Q (.ref t) H'
theorem mem_refs {L : List Pr3} {i : Nat} {v : V} (h : (refs L)[i]? = some v) : ∃ x, L[i]? = some x ∧ x ∈ L ∧ v = .ref x.1 := by
  rw [List.getElem?_map] at h
  cases q : L[i]? with
  | none =>
    rw [q] at h
    cases h
  | some z =>
    rw [q] at h
    exact ⟨z, rfl, List.mem_of_getElem? q, (Option.some.inj h).symm⟩
theorem inV_sV {z : Str} {zs : List Str} : inV (.str z) (sV zs) = decide (z ∈ zs) := by
  rw [Bool.eq_iff_iff, decide_eq_true_iff]
  unfold inV
  rw [List.any_map, List.any_eq_true]
  constructor
  · rintro ⟨y, hy, e⟩
    have e' : (y == z) = true := e
    rwa [← eq_of_beq e']
  · intro h
    exact ⟨z, h, beq_self_eq_true z⟩
theorem flat_sV (zs : List Str) : (sV zs).all flatV = true := by
  rw [List.all_map, List.all_eq_true]
  exact fun _ _ => rfl
section
variable {P : Program} {w : World} {K : PySem.W.Frag} {mg : Str → Option Value} {base : Heap} {C : Addr}
theorem ok_are_pins {f : Addr} {fd : FuncData} (F : Fun K "are_pins" "are_pins" st_are_pins f fd) (T : Txt mg C) (d_are_names : Def P w K mg base "are_names" 2 ["value"] (spNames K)) : FnOk P w K mg base CX0 3 f fd ["value"] (spPins K) := by
  refine F.ok sc_are_pins (fun vs H Q E h => ?_) (fun cdv A outer s H vs Q E hr h => ?_)
  · obtain ⟨t, zs, rfl, _⟩ := h
    rfl
  · obtain ⟨t, zs, rfl, ht, l1, l8, hz, nd, q⟩ := h
    refine ⟨_, (pss_one (ps_ret (pe_and (pe_def d_are_names hr (pa_cons (pv 0) pa_nil)) (pe_and (pe_chain op_le op_le pe_int (pe_callB (lenK K) (by rfl) T.len PySem.boot_len (pa_cons (pv 0) pa_nil)) (pe_gint T.MAX_PINS)) (pe_one (pe_cmpR op_eq (pe_lenSetTx rfl (by rfl) T.len (by rfl) T.set (pv 0)) (pe_callB (lenK K) (by rfl) T.len PySem.boot_len (pa_cons (pv 0) pa_nil)) (nomark _))))))), ?_⟩
    refine ⟨_, rfl, t, zs, rfl, ht, by omega, hz, fun H1 k1 => ⟨true, rfl, iteT ?_⟩⟩
    refine ⟨_, rfl, t, _, rfl, .inr (SqT.kx0 ht k1), _, _, rfl, rfl, _, rfl, ?_⟩
    have ez : (sV zs).length = zs.length := List.length_map ..
    refine iteB (decide_eq_true (show (1 : Int) ≤ ((sV zs).length : Int) by omega)) ⟨_, _, rfl, rfl, _, rfl, iteB (decide_eq_true (show ((sV zs).length : Int) ≤ 8 by omega)) ?_⟩
    refine ⟨_, rfl, t, zs, rfl, SqT.kx0 ht k1, nd, by omega, _, rfl, t, _, rfl, .inr (SqT.kx0 ht k1), rfl, blT (decide_eq_true ?_) (q H1 k1)⟩
    rw [ez]
theorem ok_are_rods {f : Addr} {fd : FuncData} (F : Fun K "are_rods" "are_rods" st_are_rods f fd) (T : Txt mg C) (d_is_pair : Def P w K mg base "is_pair" 4 ["value"] (spPair K)) : FnOk P w K mg base CX0 5 f fd ["pins", "value"] (spRods K) := by
  refine F.ok sc_are_rods (fun vs H Q E h => ?_) (fun cdv A outer s H vs Q E hr h => ?_)
  · obtain ⟨t, u, zs, L, rfl, _⟩ := h
    rfl
  · obtain ⟨t, u, zs, L, rfl, ht, hu', hL, ok, q⟩ := h
    refine ⟨_, (pss_cons (ps_if (PW.pt (pw_or (pt_not (pt_val (pe_callB (isiK K) (by rfl) T.isinstance (by decide +kernel) (pa_cons (pv 1) (pa_cons (pe_gty (n := "tuple") T.tuple (by decide +kernel)) pa_nil))))) (pw_or1 (pt_not (pt_val (pe_callB (allK K) (by rfl) T.all (by decide +kernel) (pa_cons (pe_lc (own := [("pair", 2)]) (g := (gName 2)) (tt := tYes) rfl sc_are_rods.nd (piT K (pv 1)) (blkOk_by (N := ["pins", "value", "pair", "pin"]) (sc := defScope st_are_rods) (own := [("pair", 2)]) (by decide +kernel)) (fun _ _ _ _ _ => (pg_name (i := 2) sc_are_rods.nd rfl (by first | exact Or.inl rfl | exact Or.inr rfl))) (fun _ _ _ _ _ => pts_nil) (fun _ _ _ _ _ => (pe_def d_is_pair hr (pa_cons (pv 2) pa_nil)))) pa_nil))))))) (pss_one (ps_ret pe_bl)) pss_nil)
      (pss_one (ps_ret (pe_and (pe_cmpR op_eq (pe_lenSetPr rfl (hr.units) (by rfl) T.len (by rfl) T.set (pv 1)) (pe_callB (lenK K) (by rfl) T.len PySem.boot_len (pa_cons (pv 1) pa_nil)) (nomark _)) (pe_one (pe_callB (allK K) (by rfl) T.all (by decide +kernel) (pa_cons (pe_lc2 (own := [("pair", 2), ("pin", 3)]) (vs1 := [3]) (g := (gName 2)) (g1 := (gName 3)) (tt := tYes) (tt1 := tYes) rfl sc_are_rods.nd (piT K (pv 1)) (blkOk_by (N := ["pins", "value", "pair", "pin"]) (sc := defScope st_are_rods) (own := [("pair", 2), ("pin", 3)]) (by decide +kernel)) (by decide) (fun _ _ _ _ _ => (pg_name (i := 2) sc_are_rods.nd rfl (by first | exact Or.inl rfl | exact Or.inr rfl))) (fun _ _ _ _ _ => pts_nil) (fun _ _ _ _ _ => (piT K (pv 2))) (fun _ _ _ _ _ => (pg_name (i := 3) sc_are_rods.nd rfl (by first | exact Or.inl rfl | exact Or.inr rfl))) (fun _ _ _ _ _ => pts_nil) (fun _ _ _ _ _ => (pe_cmpR (op_inK K) (pv 3) (pv 0) (by with_unfolding_all rfl)))) pa_nil))))))), ?_⟩
    have el : (refs L).length = L.length := List.length_map ..
    have few := ok.few
    refine ⟨_, rfl, _, _, _, _, _, rfl, .ty _, isTup hu', kit_ty (by decide +kernel), true, rfl, ?_⟩
    refine iteF ⟨_, rfl, u, rfl, ⟨_, hu'⟩, fun D hD => lc_it walk_tup (AccF [] H D fun _ => .bl true) (AccF.zero hD) (fun i H' _ p => SqT.kx0 hu' p.1) (fun i x H0 H1 hi p y => ?_) fun H1 p => ?_⟩
    · obtain ⟨rfl, hx⟩ := y
      obtain ⟨x, _, hm, rfl⟩ := mem_refs hx
      refine ⟨rfl, yesT ⟨_, rfl, x.1, x.2, rfl, SqT.kx0 (hL x hm).t p.1, ok.ok x hm, fun H2 k2 => AccF.step hD (p.1.trans k2) (k2.get0 p.2) rfl (by omega)⟩⟩
    · refine ⟨D, _, rfl, p.all, _, rfl, iteN (by simp) ?_⟩
      have k1 := p.1
      have hu1 := SqT.kx0 hu' k1
      refine ⟨_, rfl, u, L, rfl, hu1, fun x hx => SqT.kx0 (hL x hx).t k1, ok.nd, few, _, rfl, u, _, rfl, .inr hu1, rfl, _, rfl, iteB (decide_eq_true (by rw [el])) ?_⟩
      refine ⟨_, rfl, u, rfl, ⟨_, hu1⟩, fun D2 hD2 => any_it walk_tup (fun i H' => AccT H1 D2 (2 * i) H') ⟨KX.new' hD2, 0, Nat.le_refl _, upd_same⟩ (fun i H' _ p => SqT.kx0 hu1 p.1) (fun i x H0 H3 hi p y => ?_) fun H3 p => ?_⟩
      · obtain ⟨rfl, hx⟩ := y
        obtain ⟨x, _, hm, rfl⟩ := mem_refs hx
        have hx3 : SqT K H3 x.1 [.str x.2.1, .str x.2.2] := SqT.kx0 (hL x hm).t (k1.trans p.1)
        refine ⟨rfl, yesT ⟨_, rfl, x.1, rfl, ⟨_, hx3⟩, any_it walk_tup (fun j H' => AccT H1 D2 (2 * i + j) H') p (fun j H' _ p => SqT.kx0 (SqT.kx0 (hL x hm).t k1) p.1) (fun j v H4 H5 hj p y => ?_) fun H4 p => p⟩⟩
        obtain ⟨rfl, hv⟩ := y
        have hj2 : j < 2 := hj
        obtain ⟨z, hz, rfl⟩ : ∃ z, z ∈ zs ∧ v = .str z := by
          rcases (show j = 0 ∨ j = 1 by omega) with rfl | rfl
          · exact ⟨_, ok.on1 x hm, (Option.some.inj hv).symm⟩
          · exact ⟨_, ok.on2 x hm, (Option.some.inj hv).symm⟩
        refine ⟨rfl, yesT ⟨_, rfl, _, rfl, t, sV zs, rfl, .inr (SqT.kx0 (SqT.kx0 ht k1) p.1), rfl, flat_sV zs, p.step hD2 ?_ ?_⟩⟩
        · refine congrArg V.bl ?_
          rw [if_neg Bool.false_ne_true, inV_sV]
          exact decide_eq_true hz
        · rw [el] at hi
          omega
      · obtain ⟨bs, hb, e⟩ := p.all (K := K)
        exact ⟨D2, bs, rfl, hb, blT e (q H3 (k1.trans p.1))⟩
theorem ok_near_in {f : Addr} {fd : FuncData} (F : Fun K "near_in" "near_in" st_near_in f fd) (T : Txt mg C) : FnOk P w K mg base CX0 1 f fd ["rods", "pin"] (spNear K) := by
  refine F.ok sc_near_in (fun vs H Q E h => ?_) (fun cdv A outer s H vs Q E hr h => ?_)
  · obtain ⟨u, L, z, rfl, _⟩ := h
    rfl
  · obtain ⟨u, L, z, rfl, hu', hL, few, q⟩ := h
    refine ⟨_, (pss_one (ps_ret (pe_callTy (tupK K) (by rfl) T.tuple (by decide +kernel) (pa_cons (pe_callB (sortTxK K) (by rfl) T.sorted (by decide +kernel) (pa_cons (pe_lc (own := [("rod", 2)]) (g := (gName 2))  rfl sc_near_in.nd (piT K (pv 0)) (blkOk_by (N := ["rods", "pin", "rod"]) (sc := defScope st_near_in) (own := [("rod", 2)]) (by decide +kernel)) (fun _ _ _ _ _ => (pg_name (i := 2) sc_near_in.nd rfl (by first | exact Or.inl rfl | exact Or.inr rfl))) (fun _ _ _ _ _ => pts_one (pt_cmpR (op_inK K) (pv 1) (pv 2) (by with_unfolding_all rfl))) (fun _ _ _ _ _ => (pe_ifExp (pt_cmpR op_eq (pe_ix (ix_tupK K) (pv 2) pe_int (fun _ _ => rfl)) (pv 1) (nomark _)) (pe_ix (ix_tupK K) (pv 2) pe_int (fun _ _ => rfl)) (pe_ix (ix_tupK K) (pv 2) pe_int (fun _ _ => rfl))))) pa_nil)) pa_nil)))), ?_⟩
    have el : (refs L).length = L.length := List.length_map ..
    refine ⟨_, rfl, u, rfl, ⟨_, hu'⟩, fun D hD => any_it walk_tup (fun i H' => KX [] H H' ∧ ∃ xs : List Str, xs.length ≤ i ∧ H' D = some (.lst (sV xs))) ⟨KX.new' hD, [], Nat.le_refl _, upd_same⟩ (fun i H' _ p => SqT.kx0 hu' p.1) (fun i x H0 H1 hi p y => ?_) fun H1 p => ?_⟩
    · obtain ⟨rfl, hx⟩ := y
      obtain ⟨x, _, hm, rfl⟩ := mem_refs hx
      obtain ⟨k1, xs, hl, hx1⟩ := p
      have hx3 : SqT K H1 x.1 [.str x.2.1, .str x.2.2] := SqT.kx0 (hL x hm).t k1
      have add : ∀ y : Str, ∃ acc, H1 D = some (.lst acc) ∧ acc.length < sizeLine ∧ (KX [] H (upd H1 D (.lst (acc ++ [V.str y]))) ∧ ∃ xs : List Str, xs.length ≤ i + 1 ∧ upd H1 D (.lst (acc ++ [V.str y])) D = some (.lst (sV xs))) := fun y => by
        refine ⟨_, hx1, ?_, k1.new hD, xs ++ [y], ?_, ?_⟩
        · rw [List.length_map]
          rw [el] at hi
          exact Nat.lt_of_le_of_lt hl (Nat.lt_trans hi (Nat.lt_of_lt_of_le few (by decide)))
        · rw [List.length_append]
          exact Nat.succ_le_succ hl
        · rw [upd_same]
          simp [sV]
      refine ⟨rfl, _, rfl, _, rfl, x.1, _, rfl, .inr hx3, rfl, by rfl, _, rfl, ?_⟩
      refine ite2 (fun _ => ?_) (fun _ => ?_)
      · refine ⟨_, rfl, x.1, _, 1, _, rfl, rfl, hx3, rfl, _, rfl, rfl, _, rfl, ?_⟩
        refine ite2 (fun _ => ?_) (fun _ => ?_)
        · exact ⟨_, rfl, x.1, _, 0, _, rfl, rfl, hx3, rfl, add _⟩
        · exact ⟨_, rfl, x.1, _, 1, _, rfl, rfl, hx3, rfl, add _⟩
      · exact ⟨k1, xs, Nat.le_succ_of_le hl, hx1⟩
    · obtain ⟨k1, xs, hl, hx1⟩ := p
      refine ⟨D, xs, rfl, .inl (SqL.of hx1), by omega, fun ys E1 pm _ hE1 => ⟨E1, _, rfl, SqL.of upd_same, fun E2 hE2 => q E2 _ ?_⟩⟩
      have h2 : H1 E2 = none := (KX.new' (S := []) hE1).free0 hE2
      exact (k1.new (k1.free0 hE1)).new (k1.free0 h2)
end
end K14
/-! texts in order -/
namespace K14
open PySem L2
open PySem.Spec PyProof.Rows
/-- a before b -/
def Bef (a b : Str) : Prop := a.cps.toList < b.cps.toList
theorem bef_trans {a b c : Str} (h1 : Bef a b) (h2 : Bef b c) : Bef a c := List.lt_trans h1 h2
theorem bef_irrefl {a : Str} : ¬ Bef a a := fun h => List.lt_irrefl _ h
theorem str_ext {a b : Str} (h : a.cps.toList = b.cps.toList) : a = b := by
  obtain ⟨⟨x⟩⟩ := a
  obtain ⟨⟨y⟩⟩ := b
  have e : x = y := h
  rw [e]
theorem bef_tri {a b : Str} (h1 : ¬ Bef b a) (h2 : a ≠ b) : Bef a b := by
  have h3 : a.cps.toList ≤ b.cps.toList := List.not_lt.mp h1
  rcases List.le_iff_lt_or_eq.mp h3 with h | h
  · exact h
  · exact absurd (str_ext h) h2
theorem not_bef_of {x p : Str} (h : (!ltCps x.cps.toList p.cps.toList) = true) : ¬ Bef x p := by
  rw [ltCps_eq] at h
  intro hb
  rw [decide_eq_true (show x.cps.toList < p.cps.toList from hb)] at h
  cases h
theorem rise_pair : ∀ (p : Str) (l : List Str), risingS p l = true → (p :: l).Nodup → (p :: l).Pairwise Bef
  | p, [], _, _ => List.pairwise_singleton ..
  | p, x :: r, h, nd => by
    unfold risingS at h
    rw [Bool.and_eq_true] at h
    have nd2 := (List.nodup_cons.mp nd).2
    have hp := rise_pair x r h.2 nd2
    have px : Bef p x := bef_tri (not_bef_of h.1) (fun e => (List.nodup_cons.mp nd).1 (by rw [e]; exact List.mem_cons_self))
    refine List.Pairwise.cons (fun y hy => ?_) hp
    rcases List.mem_cons.mp hy with e | hy
    · rw [e]
      exact px
    · exact bef_trans px ((List.pairwise_cons.mp hp).1 y hy)
theorem sorted_pair {l : List Str} (h : sortedS l = true) (nd : l.Nodup) : l.Pairwise Bef := by
  cases l with
  | nil => exact List.Pairwise.nil
  | cons x r => exact rise_pair x r h nd
theorem pair_nodup {l : List Str} (h : l.Pairwise Bef) : l.Nodup := h.imp fun {a b} hb e => by
  subst e
  exact bef_irrefl hb
/-- one arrangement in order -/
theorem pair_unique {l m : List Str} (p : l.Perm m) (hl : l.Pairwise Bef) (hm : m.Pairwise Bef) : l = m :=
  p.eq_of_pairwise (le := Bef) (fun a b _ _ h1 h2 => absurd (bef_trans h1 h2) bef_irrefl) hl hm
theorem sorted_same {zs ys : List Str} (p : ys.Perm zs) (h : sortedS ys = true) (hz : zs.Pairwise Bef) : ys = zs :=
  pair_unique p (sorted_pair h (p.nodup_iff.mpr (pair_nodup hz))) hz
end K14
set_option maxHeartbeats 2000000
/-! a frame is made; what must be one -/
namespace K14
open PySem L2 RZ
open PySem.Spec PyProof.Rows
/-- a def with whatever defaults -/
structure FunD (K : PySem.W.Frag) (x qual : Str) (st : Stmt) (f : Addr) (fd : FuncData) : Prop where
  ex : ∃ (oc : Value) (od : Option Addr) (dV kV doc pm : Value) (an : Option Addr) (cdv ct : Value) (osl : Array (Option Value)),
    fd = PySem.W.fnOf x qual (defArgs st) (defBody st) (defScope st) dV kV doc pm an cdv ct ∧ K.lookup f = some ⟨oc, od, .func fd, osl⟩ ∧ PySem.W.codeIn K cdv qual = true
  kp : PySem.W.keepIn K (.ref f) = true
theorem FunD.ok {P : Program} {w : World} {K : PySem.W.Frag} {mg : Str → Option Value} {base : Heap} {x qual : Str} {st : Stmt} {f : Addr} {fd : FuncData} {N ps : List Str} {k : Nat} {sp : Sp} (F : FunD K x qual st f fd) (S : FnScope N ps (defScope st)) (len : ∀ vs H Q E, sp vs H Q E → vs.length = ps.length)
    (hbody : ∀ (cdv : Value) (A : Around) (outer : List Env) (s : Shared) (H : Hp) (vs : List V) (Q : VK) (E : XK), Room k (A.deeper (envOfC qual (defScope st) s.heap.objs.size f cdv)) → sp vs H Q E →
      ∃ t, PSs (cxOf CX0 P w K mg base N qual (defScope st) f cdv A outer s H E).nox (defBody st) t ∧ t { nx := fun _ H' => Q .non H', rt := Q } (start N vs) H) : FnOk P w K mg base CX0 (k + 1) f fd ps sp := by
  obtain ⟨oc, od, dV, kV, doc, pm, an, cdv, ct, osl, rfl, lk, hcd⟩ := F.ex
  refine fn_of lk hcd S len fun A outer s H vs Q E hr hsp => ?_
  obtain ⟨t, h, q⟩ := hbody cdv A outer s H vs Q E hr hsp
  exact ⟨t, h.nox, q⟩
abbrev st_Frameu_initu : Stmt := inClass (top 24) 1
theorem sc_Frameu_initu : FnScope ["self", "pins", "rods", "pin"] ["self", "pins", "rods"] (defScope st_Frameu_initu) := ⟨rfl, rfl, rfl, by decide +kernel, rfl, by decide +kernel, by decide +kernel⟩
abbrev st_require_frame : Stmt := top 25
theorem sc_require_frame : FnScope ["value"] ["value"] (defScope st_require_frame) := ⟨rfl, rfl, rfl, by decide +kernel, rfl, by decide +kernel, by decide +kernel⟩
/-- what the class Frame has: its slots -/
structure FrC (K : PySem.W.Frag) (C : Addr) : Prop where
  cls : SlX.SCls K C
  isi : SlX.SIsi K C
  kit : PySem.W.kitOne K (.ref C) (.ref C) = some true
  near : ∃ p, SlX.Slot1 K C "own_near" p 0
  pins : ∃ p, SlX.Slot1 K C "own_pins" p 1
  rods : ∃ p, SlX.Slot1 K C "own_rods" p 2
def spInit (K : PySem.W.Frag) (C : Addr) : Sp := fun vs H Q _ => ∃ (p dx t u : Addr) (zs : List Str) (L : List Pr3), vs = [.ref p, .ref t, .ref u] ∧ H p = some (.ins C dx []) ∧ H dx = some (.own p) ∧ dx ≠ p ∧
  SqT K H t (sV zs) ∧ SqT K H u (refs L) ∧ (∀ x ∈ L, PrAt H x) ∧ 1 ≤ zs.length ∧ zs.length ≤ 8 ∧ (∀ z ∈ zs, NameOk z) ∧ zs.Pairwise Bef ∧ RodsOk zs L ∧
  ∀ H' L', KX [p, dx] H H' → L'.Perm L → FrAt C H' p zs L' → Q .non H'
def spReq (C : Addr) : Sp := fun vs H Q _ => ∃ (f : Addr) (zs : List Str) (L : List Pr3), vs = [.ref f] ∧ FrAt C H f zs L ∧ Q .non H
theorem SqT.kxs {K : PySem.W.Frag} {S : List Addr} {H H' : Hp} {a : Addr} {xs : List V} (h : SqT K H a xs) (k : KX S H H') (hs : ∀ x ∈ S, (∀ ys, H x ≠ some (.tup ys)) ∧ ∀ o u, H x ≠ some (.frz o u)) : SqT K H' a xs := by
  rcases h with (h | ⟨o, h⟩) | h
  · exact .inl (.inl (k a _ (fun z => (hs a z).1 _ h) h))
  · exact .inl (.inr ⟨o, k a _ (fun z => (hs a z).2 _ _ h) h⟩)
  · exact .inr h
theorem two_of {x p d : Addr} (h : x ∈ [p, d]) : x = p ∨ x = d := by simpa using h
section
variable {P : Program} {w : World} {K : PySem.W.Frag} {mg : Str → Option Value} {base : Heap} {C : Addr}
theorem ok_require_frame {f : Addr} {fd : FuncData} (F : Fun K "require_frame" "require_frame" st_require_frame f fd) (T : Txt mg C) (R : FrC K C) : FnOk P w K mg base CX0 1 f fd ["value"] (spReq C) := by
  refine F.ok sc_require_frame (fun vs H Q E h => ?_) (fun cdv A outer s H vs Q E hr h => ?_)
  · obtain ⟨p, zs, L, rfl, _⟩ := h
    rfl
  · obtain ⟨p, zs, L, rfl, ⟨dx, vs, tp, tr, hs, _⟩, q⟩ := h
    refine ⟨_, (pss_one (ps_if (pt_not (pt_val (pe_callB (SlX.call_isiSl (.ref C)) (by rfl) T.isinstance (by decide +kernel) (pa_cons (pv 0) (pa_cons (pe_gref T.Frame) pa_nil))))) (pss_one ps_never) pss_nil)), ?_⟩
    exact ⟨_, rfl, p, C, dx, vs, _, true, rfl, rfl, fun w' h => h, hs, R.cls, R.isi, R.kit, true, rfl, iteN rfl q⟩
theorem ok_init {f : Addr} {fd : FuncData} (F : FunD K "__init__" "Frame.__init__" st_Frameu_initu f fd) (T : Txt mg C) (R : FrC K C) (d_are_pins : Def P w K mg base "are_pins" 3 ["value"] (spPins K)) (d_are_rods : Def P w K mg base "are_rods" 5 ["pins", "value"] (spRods K))
    (d_near_in : Def P w K mg base "near_in" 1 ["rods", "pin"] (spNear K)) : FnOk P w K mg base CX0 6 f fd ["self", "pins", "rods"] (spInit K C) := by
  refine F.ok sc_Frameu_initu (fun vs H Q E h => ?_) (fun cdv A outer s H vs Q E hr h => ?_)
  · obtain ⟨p, dx, t, u, zs, L, rfl, _⟩ := h
    rfl
  · obtain ⟨p, dx, t, u, zs, L, rfl, hp, hdx, ne, ht, hu', hL, l1, l8, hz, ord, ok, q⟩ := h
    refine ⟨_, (pss_cons (ps_if (PW.pt (pw_or (pt_not (pt_val (pe_def d_are_pins hr (pa_cons (pv 1) pa_nil)))) (pw_or1 (pt_not (pt_val (pe_def d_are_rods hr (pa_cons (pv 1) (pa_cons (pv 2) pa_nil)))))))) (pss_one ps_never) pss_nil)
      (pss_cons (SlX.ps_sl (pv 0) (pe_callTy (tupK K) (by rfl) T.tuple (by decide +kernel) (pa_cons (pe_callB (sortTxK K) (by rfl) T.sorted (by decide +kernel) (pa_cons (pv 1) pa_nil)) pa_nil)))
      (pss_cons (SlX.ps_sl (pv 0) (pe_callTy (tupK K) (by rfl) T.tuple (by decide +kernel) (pa_cons (pe_callB (sortPrK K hr.units) (by rfl) T.sorted (by decide +kernel) (pa_cons (pv 2) pa_nil)) pa_nil)))
      (pss_one (SlX.ps_sl (pv 0) (pe_dc (own := [("pin", 3)]) (g := (gName 3)) (tt := tYes) rfl sc_Frameu_initu.nd (piT K (slK K (pv 0))) (blkOk_by (N := ["self", "pins", "rods", "pin"]) (sc := defScope st_Frameu_initu) (own := [("pin", 3)]) (by decide +kernel)) (fun _ _ _ _ _ => (pg_name (i := 3) sc_Frameu_initu.nd rfl (by first | exact Or.inl rfl | exact Or.inr rfl))) (fun _ _ _ _ _ => pts_nil) (fun _ _ _ _ _ => (pv 3)) (fun _ _ _ _ _ => (pe_def d_near_in hr (pa_cons (slK K (pv 0)) (pa_cons (pv 3) pa_nil)))))))))), ?_⟩
    have np : ∀ x ∈ [p, dx], (∀ ys, H x ≠ some (.tup ys)) ∧ ∀ o u, H x ≠ some (.frz o u) := fun x hx => by
      rcases two_of hx with e | e <;> rw [e]
      · exact ⟨fun ys z => (by rw [hp] at z; cases z), fun o v z => (by rw [hp] at z; cases z)⟩
      · exact ⟨fun ys z => (by rw [hdx] at z; cases z), fun o v z => (by rw [hdx] at z; cases z)⟩
    have npr : ∀ x ∈ L, x.1 ∉ [p, dx] := fun x hx z => (np _ z).1 _ (hL x hx)
    obtain ⟨s0, hs0⟩ := R.near
    obtain ⟨s1, hs1⟩ := R.pins
    obtain ⟨s2, hs2⟩ := R.rods
    have inp : p ∈ [p, dx] := List.mem_cons_self
    have ind : dx ∈ [p, dx] := List.mem_cons_of_mem _ List.mem_cons_self
    -- the checks
    refine ⟨_, rfl, t, zs, rfl, ht, l1, l8, hz, pair_nodup ord, fun H1 k1 => ⟨true, rfl, iteF ?_⟩⟩
    refine ⟨_, rfl, _, rfl, t, u, zs, L, rfl, SqT.kx0 ht k1, SqT.kx0 hu' k1, fun x hx => (hL x hx).kd k1.kd0, ok, fun H2 k2' => ⟨true, rfl, iteF ?_⟩⟩
    have k2 := k1.trans k2'
    -- own_pins
    refine ⟨_, rfl, t, zs, rfl, .inr (SqT.kx0 ht k2), by omega, fun ys E1 pm so hE1 => ⟨E1, _, rfl, SqL.of upd_same, fun tp htp => ?_⟩⟩
    obtain rfl := sorted_same pm so ord
    have htp2 : H2 tp = none := (KX.new' (S := []) hE1).free0 htp
    have ktp : KX [] H (upd (upd H2 E1 (.lst (sV ys))) tp (.tup (sV ys))) := (k2.new (k2.free0 hE1)).new (k2.free0 htp2)
    refine ⟨_, rfl, p, C, dx, s1, [], 1, rfl, .inl ⟨ktp.get0 hp, rfl⟩, R.cls, hs1, ?_⟩
    generalize hG : upd (upd H2 E1 (.lst (sV ys))) tp (.tup (sV ys)) = G at ktp
    have gtp : G tp = some (.tup (sV ys)) := by rw [← hG, upd_same]
    have ntp : tp ≠ p ∧ tp ≠ dx := ⟨(ne_of_none (ktp.get0 hp |> fun z => k2.get0 hp) htp2).symm, (ne_of_none (k2.get0 hdx) htp2).symm⟩
    have k3 : KX [p, dx] H (SlX.slH G p C dx (SlX.putS 1 (.ref tp) [])) := (ktp.of.put ind).put inp
    have g3 : SlX.slH G p C dx (SlX.putS 1 (.ref tp) []) tp = some (.tup (sV ys)) := by rw [SlX.slH_ne ntp.1 ntp.2, gtp]
    have s3 := SlX.slH_slt (H := G) (C := C) (vs := SlX.putS 1 (.ref tp) []) ne
    have d3 : SlX.slH G p C dx (SlX.putS 1 (.ref tp) []) dx = some (.xd []) := by
      unfold SlX.slH
      rw [upd_ne ne, upd_same]
    have p3 : ∃ o, SlX.slH G p C dx (SlX.putS 1 (.ref tp) []) p = some o := ⟨_, upd_same⟩
    generalize SlX.slH G p C dx (SlX.putS 1 (.ref tp) []) = H3 at k3 g3 s3 d3 p3 ⊢
    -- own_rods
    refine ⟨_, rfl, u, L, rfl, .inr (SqT.kxs hu' k3 np), ok.few, fun x hx => (hL x hx |>.kx k3 (npr x hx)).t, fun L' E2 pm2 hE2 => ⟨E2, _, rfl, SqL.of upd_same, fun tr htr => ?_⟩⟩
    have htr3 : H3 tr = none := (KX.new' (S := []) hE2).free0 htr
    have ktr : KX [] H3 (upd (upd H3 E2 (.lst (refs L'))) tr (.tup (refs L'))) := (KX.new' hE2).new htr3
    refine ⟨_, rfl, p, C, dx, s2, _, 2, rfl, Slt_kd s3 ktr.kd0, R.cls, hs2, ?_⟩
    generalize hG4 : upd (upd H3 E2 (.lst (refs L'))) tr (.tup (refs L')) = G4 at ktr
    have gtr : G4 tr = some (.tup (refs L')) := by rw [← hG4, upd_same]
    have ntr : tr ≠ p ∧ tr ≠ dx := by
      obtain ⟨o, hpo⟩ := p3
      exact ⟨(ne_of_none hpo htr3).symm, (ne_of_none d3 htr3).symm⟩
    have k4 : KX [p, dx] H (SlX.slH G4 p C dx (SlX.putS 2 (.ref tr) (SlX.putS 1 (.ref tp) []))) := ((k3.trans ktr.of).put ind).put inp
    have g4p : SlX.slH G4 p C dx (SlX.putS 2 (.ref tr) (SlX.putS 1 (.ref tp) [])) tp = some (.tup (sV ys)) := by rw [SlX.slH_ne ntp.1 ntp.2, ktr.get0 g3]
    have g4r : SlX.slH G4 p C dx (SlX.putS 2 (.ref tr) (SlX.putS 1 (.ref tp) [])) tr = some (.tup (refs L')) := by rw [SlX.slH_ne ntr.1 ntr.2, gtr]
    have s4 := SlX.slH_slt (H := G4) (C := C) (vs := SlX.putS 2 (.ref tr) (SlX.putS 1 (.ref tp) [])) ne
    have d4 : SlX.slH G4 p C dx (SlX.putS 2 (.ref tr) (SlX.putS 1 (.ref tp) [])) dx = some (.xd []) := by
      unfold SlX.slH
      rw [upd_ne ne, upd_same]
    generalize SlX.slH G4 p C dx (SlX.putS 2 (.ref tr) (SlX.putS 1 (.ref tp) [])) = H4 at k4 g4p g4r s4 d4 ⊢
    have v1 : (SlX.putS 2 (.ref tr) (SlX.putS 1 (.ref tp) []))[1]? = some (some (.ref tp)) := (SlX.putS_ne (by decide)).mpr (SlX.putS_get ..)
    have v2 : (SlX.putS 2 (.ref tr) (SlX.putS 1 (.ref tp) []))[2]? = some (some (.ref tr)) := SlX.putS_get ..
    have pr4 : ∀ x ∈ L', PrAt H4 x := fun x hx => (hL x (pm2.mem_iff.mp hx)).kx k4 (npr x (pm2.mem_iff.mp hx))
    have few' : L'.length < 64 := by rw [pm2.length_eq]; exact ok.few
    -- own_near
    refine ⟨_, rfl, p, C, dx, s1, _, 1, _, rfl, s4, R.cls, hs1, v1, tp, rfl, ⟨_, SqT.of g4p⟩, fun D hD => any_it walk_tup (fun i H' => KX [] H4 H' ∧ ∃ kvs, kvs.length ≤ i ∧ H' D = some (.dK kvs)) ⟨KX.new' hD, [], Nat.le_refl _, upd_same⟩
      (fun i H' _ p => SqT.of (p.1.get0 g4p)) (fun i x H0 H5 hi q0 y => ?_) fun H5 q0 => ?_⟩
    · obtain ⟨rfl, hx⟩ := y
      obtain ⟨z, hm, rfl⟩ := mem_sV hx
      obtain ⟨k5, kvs, hl, hkv⟩ := q0
      refine ⟨rfl, yesT ⟨_, rfl, _, rfl, p, C, dx, s2, _, 2, _, rfl, Slt_kd s4 k5.kd0, R.cls, hs2, v2, _, rfl, tr, L', z, rfl, SqT.of (k5.get0 g4r), fun x hx => (pr4 x hx).kd k5.kd0, few', fun t' H6 k6 => ?_⟩⟩
      refine ⟨kvs, Sum.inr z, rfl, k6.get0 hkv, ?_, (k5.trans k6).new hD, _, ?_, upd_same⟩
      · rw [List.length_map] at hi
        exact Nat.lt_of_le_of_lt hl (Nat.lt_of_lt_of_le hi (Nat.le_trans l8 (by decide)))
      · exact Nat.le_trans (length_putK kvs _ _) (Nat.succ_le_succ hl)
    · obtain ⟨k5, kvs, hl, hkv⟩ := q0
      refine ⟨_, rfl, p, C, dx, s0, _, 0, rfl, Slt_kd s4 k5.kd0, R.cls, hs0, ?_⟩
      refine q _ L' (((k4.trans k5.of).put ind).put inp) pm2 ⟨dx, _, tp, tr, SlX.slH_slt ne, (SlX.putS_ne (by decide)).mpr v1, (SlX.putS_ne (by decide)).mpr v2, ?_, ?_, fun x hx => ?_⟩
      · rw [SlX.slH_ne ntp.1 ntp.2, k5.get0 g4p]
      · rw [SlX.slH_ne ntr.1 ntr.2, k5.get0 g4r]
      · have nx := npr x (pm2.mem_iff.mp hx)
        show SlX.slH H5 p C dx _ x.1 = _
        rw [SlX.slH_ne (fun z => nx (by rw [z]; exact inp)) (fun z => nx (by rw [z]; exact ind))]
        exact k5.get0 (pr4 x hx)
end
end K14
set_option maxHeartbeats 2000000
/-! which space: a placing's spots are asked for -/
namespace K14
open PySem L2 RZ GxR
open PySem.Spec PyProof.Rows
abbrev st_are_integers : Stmt := top 29
theorem sc_are_integers : FnScope ["value", "width", "one"] ["value", "width"] (defScope st_are_integers) := ⟨rfl, rfl, rfl, by decide +kernel, rfl, by decide +kernel, by decide +kernel⟩
abbrev st_has_just : Stmt := top 30
theorem sc_has_just : FnScope ["keys", "value", "key"] ["keys", "value"] (defScope st_has_just) := ⟨rfl, rfl, rfl, by decide +kernel, rfl, by decide +kernel, by decide +kernel⟩
abbrev st_space_by : Stmt := top 31
theorem sc_space_by : FnScope ["pins", "value", "space", "pin"] ["pins", "value"] (defScope st_space_by) := ⟨rfl, rfl, rfl, by decide +kernel, rfl, by decide +kernel, by decide +kernel⟩
def spInts (K : PySem.W.Frag) : Sp := fun vs H Q _ => ∃ (t : Addr) (ns : List Int) (w : Int), vs = [.ref t, .int w] ∧ SqT K H t (iV ns) ∧ ns.length < 1000 ∧ (∀ n ∈ ns, n.natAbs < 10 ^ 2000) ∧ ∀ H', KX [] H H' → Q (.bl (decide ((ns.length : Int) = w))) H'
def spJust (K : PySem.W.Frag) : Sp := fun vs H Q _ => ∃ (a d : Addr) (ks ls : List Str) (p : Str → List Int), vs = [.ref a, .ref d] ∧ SqA K H a (sV ks) ∧ PlAt H d ls p ∧ ls.Perm ks ∧ ks.length < 64 ∧ ∀ H', KX [] H H' → Q (.bl true) H'
/-- tuples of n numbers, none too great -/
structure SpotsOk (ks : List Str) (p : Str → List Int) (n : Nat) : Prop where
  two : n = 1 ∨ n = 2
  len : ∀ k ∈ ks, (p k).length = n
  low : ∀ k ∈ ks, ∀ i ∈ p k, i.natAbs < 10 ^ 2000
def spSpace (K : PySem.W.Frag) (P : Addr) : Sp := fun vs H Q _ => ∃ (a d : Addr) (ks ls : List Str) (p : Str → List Int) (n : Nat), vs = [.ref a, .ref d] ∧ SqA K H a (sV ks) ∧ PlAt H d ls p ∧ ls.Perm ks ∧ 1 ≤ ks.length ∧ ks.length < 64 ∧ SpotsOk ks p n ∧ TabG H P ∧
  ∀ H', KX [P] H H' → TabG H' P → Q (.int n) H'
theorem tab_kd {P : Addr} {H H' : Hp} (h : TabG H P) (k : KX [P] H H') : Kd H H' := k.kd fun x hx => by
  obtain ⟨ps, e, _⟩ := h
  rw [List.mem_singleton.mp hx]
  exact ⟨_, e, rfl⟩
theorem tab_kx0 {P : Addr} {H H' : Hp} (h : TabG H P) (k : KX [] H H') : TabG H' P := let ⟨ps, e, q⟩ := h; ⟨ps, k.get0 e, q⟩
theorem SqA.tab {K : PySem.W.Frag} {P : Addr} {H H' : Hp} {a : Addr} {xs : List V} (h : SqA K H a xs) (t : TabG H P) (k : KX [P] H H') : SqA K H' a xs := by
  obtain ⟨ps, e, _⟩ := t
  rcases h with ((h | ⟨o, h⟩) | h) | ((h | ⟨o, h⟩) | h)
  · exact .inl (.inl (.inl (k a _ (fun z => by rw [List.mem_singleton.mp z, e] at h; cases h) h)))
  · exact .inl (.inl (.inr ⟨o, k a _ (fun z => by rw [List.mem_singleton.mp z, e] at h; cases h) h⟩))
  · exact .inl (.inr h)
  · exact .inr (.inl (.inl (k a _ (fun z => by rw [List.mem_singleton.mp z, e] at h; cases h) h)))
  · exact .inr (.inl (.inr ⟨o, k a _ (fun z => by rw [List.mem_singleton.mp z, e] at h; cases h) h⟩))
  · exact .inr (.inr h)
theorem tabbed_kx {P : Addr} {H H' : Hp} (h : Tabbed P H H') : KX [P] H H' := fun a o ha e => by
  rw [h.2 a (fun z => ha (List.mem_singleton.mpr z))]
  exact e
section
variable {P : Program} {w : World} {K : PySem.W.Frag} {mg : Str → Option Value} {base : Heap} {C : Addr}
theorem ok_are_integers {f : Addr} {fd : FuncData} (F : Fun K "are_integers" "are_integers" st_are_integers f fd) (T : Txt mg C) (d_is_integer : Def P w K mg base "is_integer" 2 ["value"] spInteger) : FnOk P w K mg base CX0 3 f fd ["value", "width"] (spInts K) := by
  refine F.ok sc_are_integers (fun vs H Q E h => ?_) (fun cdv A outer s H vs Q E hr h => ?_)
  · obtain ⟨t, ns, w', rfl, _⟩ := h
    rfl
  · obtain ⟨t, ns, w', rfl, ht, few, low, q⟩ := h
    refine ⟨_, (pss_one (ps_ret (pe_and (pe_callB (isiK K) (by rfl) T.isinstance (by decide +kernel) (pa_cons (pv 0) (pa_cons (pe_gty (n := "tuple") T.tuple (by decide +kernel)) pa_nil))) (pe_and (pe_cmpR op_eq (pe_callB (lenK K) (by rfl) T.len PySem.boot_len (pa_cons (pv 0) pa_nil)) (pv 1) (nomark _)) (pe_one (pe_callB (allK K) (by rfl) T.all (by decide +kernel) (pa_cons (pe_lc (own := [("one", 2)]) (g := (gName 2)) (tt := tYes) rfl sc_are_integers.nd (piT K (pv 0)) (blkOk_by (N := ["value", "width", "one"]) (sc := defScope st_are_integers) (own := [("one", 2)]) (by decide +kernel)) (fun _ _ _ _ _ => (pg_name (i := 2) sc_are_integers.nd rfl (by first | exact Or.inl rfl | exact Or.inr rfl))) (fun _ _ _ _ _ => pts_nil) (fun _ _ _ _ _ => (pe_def d_is_integer hr (pa_cons (pv 2) pa_nil)))) pa_nil))))))), ?_⟩
    refine ⟨_, rfl, _, _, _, _, _, rfl, .ty _, isTup ht, kit_ty (by decide +kernel), true, rfl, iteT ?_⟩
    have el : (iV ns).length = ns.length := List.length_map ..
    refine ⟨_, rfl, t, _, rfl, .inr ht, _, rfl, rfl, _, rfl, ?_⟩
    by_cases hw : (ns.length : Int) = w'
    · refine iteB (decide_eq_true (by rw [el, hw])) ?_
      refine ⟨_, rfl, t, rfl, ⟨_, ht⟩, fun D hD => any_it walk_tup (AccF [] H D fun _ => .bl true) (AccF.zero hD) (fun i H' _ p => SqT.kx0 ht p.1) (fun i x H0 H1 hi p y => ?_) fun H1 p => ?_⟩
      · obtain ⟨rfl, hx⟩ := y
        obtain ⟨n, _, hn, rfl⟩ := mem_iV hx
        exact ⟨rfl, yesT ⟨_, rfl, n, rfl, low n hn, AccF.step hD p.1 p.2 rfl (by omega)⟩⟩
      · exact ⟨D, _, rfl, p.all, blE (by rw [decide_eq_true hw]; simp) (q H1 p.1)⟩
    · refine iteN (decide_eq_false (fun z => hw (by
        have z' : ((iV ns).length : Int) = w' := by injection z
        omega))) ?_
      exact blE (decide_eq_false hw).symm (q H (KX.refl _ _))
theorem ok_has_just {f : Addr} {fd : FuncData} (F : Fun K "has_just" "has_just" st_has_just f fd) (T : Txt mg C) : FnOk P w K mg base CX0 1 f fd ["keys", "value"] (spJust K) := by
  refine F.ok sc_has_just (fun vs H Q E h => ?_) (fun cdv A outer s H vs Q E hr h => ?_)
  · obtain ⟨a, d, ks, ls, p, rfl, _⟩ := h
    rfl
  · obtain ⟨a, d, ks, ls, p, rfl, ha, hd, pm, few, q⟩ := h
    have hu := hu_of hr
    refine ⟨_, (pss_one (ps_ret (pe_and (pe_callB (isiK K) (by rfl) T.isinstance (by decide +kernel) (pa_cons (pv 1) (pa_cons (pe_gty (n := "dict") T.dict (by decide +kernel)) pa_nil))) (pe_and (pe_cmpR op_eq (pe_callB call_lenD (by rfl) T.len PySem.boot_len (pa_cons (pv 1) pa_nil)) (pe_callB (lenK K) (by rfl) T.len PySem.boot_len (pa_cons (pv 0) pa_nil)) (nomark _)) (pe_one (pe_callB (allK K) (by rfl) T.all (by decide +kernel) (pa_cons (pe_lc (own := [("key", 2)]) (g := (gName 2)) (tt := tYes) rfl sc_has_just.nd (piA K (pv 0)) (blkOk_by (N := ["keys", "value", "key"]) (sc := defScope st_has_just) (own := [("key", 2)]) (by decide +kernel)) (fun _ _ _ _ _ => (pg_name (i := 2) sc_has_just.nd rfl (by first | exact Or.inl rfl | exact Or.inr rfl))) (fun _ _ _ _ _ => pts_nil) (fun _ _ _ _ _ => (pe_cmp (pc_din hu (pv 2) (pv 1))))) pa_nil))))))), ?_⟩
    obtain ⟨f, h1, h2⟩ := id hd
    have el : (sV ks).length = ks.length := List.length_map ..
    refine ⟨_, rfl, _, _, _, _, _, rfl, .ty _, .base (.dK h1), kit_ty (by decide +kernel), true, rfl, iteT ?_⟩
    refine ⟨_, rfl, d, _, rfl, h1, _, rfl, a, _, rfl, ha, rfl, _, rfl, iteB (decide_eq_true (by rw [List.length_map, el, pm.length_eq])) ?_⟩
    refine ⟨_, rfl, a, _, rfl, ha, fun J G wk hG D hD => any_it wk (AccF [] H D fun _ => .bl true) (AccF.zero hD) (fun i H' _ p => hG _ _ p.1 (fun z => nomatch z)) (fun i x H0 H1 hi p y => ?_) fun H1 p => ?_⟩
    · obtain ⟨rfl, hx⟩ := y
      obtain ⟨z, hm, rfl⟩ := mem_sV hx
      obtain ⟨t, g, _⟩ := (hd.kx0 p.1).get (pm.mem_iff.mpr hm)
      exact ⟨rfl, yesT ⟨_, rfl, _, rfl, d, _, rfl, g, AccF.step hD p.1 p.2 rfl (by omega)⟩⟩
    · exact ⟨D, _, rfl, p.all, blT (by simp) (q H1 p.1)⟩
theorem ok_space_by {f c Pt : Addr} {fd : FuncData} (F : FunC K "space_by" "space_by" st_space_by f fd c) (TB : TabB base mg c Pt) (T : Txt mg C) (d_has_just : Def P w K mg base "has_just" 1 ["keys", "value"] (spJust K)) (d_are_integers : Def P w K mg base "are_integers" 3 ["value", "width"] (spInts K)) :
    FnOk P w K mg base CX0 7 f fd ["pins", "value"] (spSpace K Pt) := by
  refine F.ok sc_space_by (fun vs H Q E h => ?_) (fun A outer s H vs Q E hr h => ?_)
  · obtain ⟨a, d, ks, ls, p, n, rfl, _⟩ := h
    rfl
  · obtain ⟨a, d, ks, ls, p, n, rfl, ha, hd, pm, l1, few, ok, hT, q⟩ := h
    have hu := hu_of hr
    refine ⟨_, (pss_cons (ps_if (pt_not (pt_val (pe_def d_has_just hr (pa_cons (pv 0) (pa_cons (pv 1) pa_nil))))) (pss_one (ps_ret pe_non)) pss_nil)
      (pss_one (ps_ret (pe_nextG (k := 3) (own := [("space", 2)]) (g := gName 2) (te := tVar 2) hr rfl TB rfl rfl (blkOk_by (N := ["pins", "value", "space", "pin"]) (sc := defScope st_space_by) (own := [("space", 2)]) (by decide +kernel)) sc_space_by.nd rfl (by rfl) T.next (by decide +kernel) (piT K (pe_tup (pa_cons (pe_gint T.LINE) (pa_cons (pe_gint T.PLANE) pa_nil)))) (fun _ => rfl) (fun _ _ _ _ _ _ => (pg_name (i := 2) sc_space_by.nd rfl (by first | exact Or.inl rfl | exact Or.inr rfl))) (fun s H C cl fp cd rm => pts_one (pt_val (pe_callB (allK K) (by rfl) T.all (by decide +kernel) (pa_cons (pe_lc (own := [("pin", 3)]) (g := (gName 3)) (tt := tYes) rfl sc_space_by.nd (piA K (pv 0)) (blkOk_by (N := ["pins", "value", "space", "pin"]) (own := [("pin", 3)]) (by with_unfolding_all rfl)) (fun _ _ _ _ _ => (pg_name (i := 3) sc_space_by.nd rfl (by first | exact Or.inl rfl | exact Or.inr rfl))) (fun _ _ _ _ _ => pts_nil) (fun _ _ _ _ _ => (pe_def d_are_integers rm (pa_cons (pe_dget (hu_of rm) (pv 1) (pv 3) (fun _ _ => rfl)) (pa_cons (pv 2) pa_nil))))) pa_nil)))) (fun _ _ _ _ _ _ => (pv 2)))))), ?_⟩
    have el : (sV ks).length = ks.length := List.length_map ..
    refine ⟨_, rfl, _, rfl, a, d, ks, ls, p, rfl, ha, hd, pm, few, fun H1 k1 => ⟨true, rfl, iteF ?_⟩⟩
    refine ⟨by show 2 ≤ sizeLine; decide, fun T1 hT1 => ⟨T1, rfl, ⟨_, SqT.of upd_same⟩, ?_⟩⟩
    have kT : KX [] H (upd H1 T1 (.tup [.int 1, .int 2])) := k1.new (k1.free0 hT1)
    have hT1' := tab_kx0 hT kT
    refine ⟨hT1', fun H2 tb => any_it walk_tup (fun i H' => KX [Pt] H H' ∧ TabG H' Pt ∧ H' T1 = some (.tup [.int 1, .int 2]) ∧ (i = 0 ∨ (i = 1 ∧ n = 2))) ⟨kT.of.trans (tabbed_kx tb), tb.1, ?_, .inl rfl⟩ (fun i H' _ p => SqT.of p.2.2.1) (fun i x H0 H3 hi q0 y => ?_) fun H3 q0 => ?_⟩
    · have nT : T1 ≠ Pt := fun z => by
        obtain ⟨ps, e, _⟩ := hT1'
        rw [← z, upd_same] at e
        cases e
      rw [tb.2 T1 nT, upd_same]
    · obtain ⟨rfl, hx⟩ := y
      obtain ⟨k3, t3, g3, hi3⟩ := q0
      obtain rfl : x = .int ((i : Int) + 1) := by
        rcases hi3 with rfl | ⟨rfl, _⟩
        · exact (Option.some.inj hx).symm
        · exact (Option.some.inj hx).symm
      have kd3 : Kd H H3 := tab_kd hT k3
      have ha3 : SqA K H3 a (sV ks) := ha.tab hT k3
      refine ⟨rfl, _, rfl, a, _, rfl, ha3, fun J G wk hG D hD => any_it wk (AccF [] H3 D fun _ => .bl (decide ((n : Int) = (i : Int) + 1))) (AccF.zero hD) (fun i' H' _ p => hG _ _ p.1 (fun z => nomatch z)) (fun j x H4 H5 hj p5 y => ?_) fun H5 p5 => ?_⟩
      · obtain ⟨rfl, hx⟩ := y
        obtain ⟨z, hm, rfl⟩ := mem_sV hx
        obtain ⟨t, g, ht⟩ := (hd.kd (kd3.trans p5.1.kd0)).get (pm.mem_iff.mpr hm)
        have e1 := ok.len z hm
        refine ⟨rfl, yesT ⟨_, rfl, _, rfl, d, _, rfl, g, _, rfl, t, p z, _, rfl, SqT.of ht, ?_, ok.low z hm, fun H6 k6 => AccF.step hD (p5.1.trans k6) (k6.get0 p5.2) ?_ ?_⟩⟩
        · rcases ok.two with e | e <;> omega
        · rw [e1]
        · omega
      · refine ⟨D, List.replicate (sV ks).length (decide ((n : Int) = (i : Int) + 1)), rfl, SqL.of ?_, _, rfl, ?_⟩
        · rw [p5.2]
          congr 2
          exact List.ext_getElem (by simp) fun i h1 h2 => by simp
        · have k5 : KX [Pt] H H5 := k3.trans p5.1.of
          have t5 := tab_kx0 t3 p5.1
          by_cases hn : (n : Int) = (i : Int) + 1
          · refine iteB (by rw [decide_eq_true hn]; simp) ?_
            exact ⟨_, rfl, inE hn.symm (q H5 k5 t5)⟩
          · refine iteN ?_ ⟨k5, t5, p5.1.get0 g3, ?_⟩
            · rw [decide_eq_false hn, el]
              rw [List.all_eq_false]
              exact ⟨false, List.mem_replicate.mpr ⟨by omega, rfl⟩, by simp⟩
            · rcases hi3 with rfl | ⟨rfl, e⟩
              · rcases ok.two with e | e
                · exact absurd (by rw [e]; rfl) hn
                · exact .inr ⟨rfl, e⟩
              · exact absurd (by rw [e]; rfl) hn
    · obtain ⟨_, _, _, e | ⟨e, _⟩⟩ := q0
      · exact absurd e (by decide)
      · exact absurd e (by decide)
end
end K14
set_option maxHeartbeats 2000000
/-! a placing of a frame, a placing alone -/
namespace K14
open PySem L2 RZ GxR
open PySem.Spec PyProof.Rows
abbrev st_space_in : Stmt := top 32
theorem sc_space_in : FnScope ["frame", "value"] ["frame", "value"] (defScope st_space_in) := ⟨rfl, rfl, rfl, by decide +kernel, rfl, by decide +kernel, by decide +kernel⟩
abbrev st_space_alone : Stmt := top 33
theorem sc_space_alone : FnScope ["value", "pin"] ["value"] (defScope st_space_alone) := ⟨rfl, rfl, rfl, by decide +kernel, rfl, by decide +kernel, by decide +kernel⟩
abbrev st_require_placing : Stmt := top 34
theorem sc_require_placing : FnScope ["frame", "value", "space"] ["frame", "value"] (defScope st_require_placing) := ⟨rfl, rfl, rfl, by decide +kernel, rfl, by decide +kernel, by decide +kernel⟩
abbrev st_require_alone : Stmt := top 35
theorem sc_require_alone : FnScope ["value", "space"] ["value"] (defScope st_require_alone) := ⟨rfl, rfl, rfl, by decide +kernel, rfl, by decide +kernel, by decide +kernel⟩
def spSpaceIn (C : Addr) (P : Addr) : Sp := fun vs H Q _ => ∃ (f d : Addr) (zs : List Str) (L : List Pr3) (ls : List Str) (p : Str → List Int) (n : Nat), vs = [.ref f, .ref d] ∧ FrAt C H f zs L ∧ PlAt H d ls p ∧ ls.Perm zs ∧ 1 ≤ zs.length ∧ zs.length < 64 ∧ SpotsOk zs p n ∧ TabG H P ∧
  ∀ H', KX [P] H H' → TabG H' P → Q (.int n) H'
def spAlone (P : Addr) : Sp := fun vs H Q _ => ∃ (d : Addr) (ls : List Str) (p : Str → List Int) (n : Nat), vs = [.ref d] ∧ PlAt H d ls p ∧ 1 ≤ ls.length ∧ ls.length ≤ 8 ∧ (∀ z ∈ ls, NameOk z) ∧ SpotsOk ls p n ∧ TabG H P ∧
  ∀ H', KX [P] H H' → TabG H' P → Q (.int n) H'
theorem SpotsOk.perm {ks ls : List Str} {p : Str → List Int} {n : Nat} (h : SpotsOk ks p n) (pm : ls.Perm ks) : SpotsOk ls p n := ⟨h.two, fun k hk => h.len k (pm.mem_iff.mp hk), fun k hk => h.low k (pm.mem_iff.mp hk)⟩
theorem KX.unlock {S : List Addr} {H H' : Hp} {d : Addr} {u v : HO} (hd : H d = some u) (k : KX S (upd H d v) H') : KX S H (upd H' d u) := fun a o ha e => by
  by_cases q : a = d
  · rw [q, upd_same]
    rw [q, hd] at e
    exact e
  · rw [upd_ne q]
    exact k a o ha (by rw [upd_ne q]; exact e)
section
variable {P : Program} {w : World} {K : PySem.W.Frag} {mg : Str → Option Value} {base : Heap} {C Pt : Addr}
theorem ok_space_in {f : Addr} {fd : FuncData} (F : Fun K "space_in" "space_in" st_space_in f fd) (T : Txt mg C) (R : FrC K C) (d_space_by : Def P w K mg base "space_by" 7 ["pins", "value"] (spSpace K Pt)) : FnOk P w K mg base CX0 8 f fd ["frame", "value"] (spSpaceIn C Pt) := by
  refine F.ok sc_space_in (fun vs H Q E h => ?_) (fun cdv A outer s H vs Q E hr h => ?_)
  · obtain ⟨f, d, zs, L, ls, p, n, rfl, _⟩ := h
    rfl
  · obtain ⟨f, d, zs, L, ls, p, n, rfl, ⟨dx, vs, tp, tr, hs, v1, v2, htp, htr, hL⟩, hd, pm, l1, few, ok, hT, q⟩ := h
    refine ⟨_, (pss_one (ps_ret (pe_def d_space_by hr (pa_cons (slK K (pv 0)) (pa_cons (pv 1) pa_nil))))), ?_⟩
    obtain ⟨s1, hs1⟩ := R.pins
    exact ⟨_, rfl, f, C, dx, s1, vs, 1, _, rfl, hs, R.cls, hs1, v1, _, rfl, tp, d, zs, ls, p, n, rfl, .inr (SqT.of htp), hd, pm, l1, few, ok, hT, q⟩
theorem ok_require_placing {f : Addr} {fd : FuncData} (F : Fun K "require_placing" "require_placing" st_require_placing f fd) (T : Txt mg C) (d_space_in : Def P w K mg base "space_in" 8 ["frame", "value"] (spSpaceIn C Pt)) : FnOk P w K mg base CX0 9 f fd ["frame", "value"] (spSpaceIn C Pt) := by
  refine F.ok sc_require_placing (fun vs H Q E h => ?_) (fun cdv A outer s H vs Q E hr h => ?_)
  · obtain ⟨f, d, zs, L, ls, p, n, rfl, _⟩ := h
    rfl
  · obtain ⟨f, d, zs, L, ls, p, n, rfl, hf, hd, pm, l1, few, ok, hT, q⟩ := h
    refine ⟨_, (pss_cons (ps_set (i := 2) sc_require_placing.nd rfl (by first | exact Or.inl rfl | exact Or.inr rfl) (pe_def d_space_in hr (pa_cons (pv 0) (pa_cons (pv 1) pa_nil))))
      (pss_cons (ps_if (pt_cmpR op_isN (pv 2) pe_non (nomark _)) (pss_one ps_never) pss_nil)
      (pss_one (ps_ret (pv 2))))), ?_⟩
    refine ⟨_, rfl, _, rfl, f, d, zs, L, ls, p, n, rfl, hf, hd, pm, l1, few, ok, hT, fun H1 k1 t1 => ?_⟩
    exact ⟨_, rfl, rfl, _, rfl, iteN rfl ⟨_, rfl, q H1 k1 t1⟩⟩
theorem ok_space_alone {f : Addr} {fd : FuncData} (F : Fun K "space_alone" "space_alone" st_space_alone f fd) (T : Txt mg C) (d_is_name : Def P w K mg base "is_name" 1 ["value"] spName) (d_space_by : Def P w K mg base "space_by" 7 ["pins", "value"] (spSpace K Pt)) :
    FnOk P w K mg base CX0 8 f fd ["value"] (spAlone Pt) := by
  refine F.ok sc_space_alone (fun vs H Q E h => ?_) (fun cdv A outer s H vs Q E hr h => ?_)
  · obtain ⟨d, ls, p, n, rfl, _⟩ := h
    rfl
  · obtain ⟨d, ls, pl, n, rfl, hd, l1, l8, hz, ok, hT, q⟩ := h
    refine ⟨_, (pss_cons (ps_if (PW.pt (pw_or (pt_not (pt_val (pe_callB (isiK K) (by rfl) T.isinstance (by decide +kernel) (pa_cons (pv 0) (pa_cons (pe_gty (n := "dict") T.dict (by decide +kernel)) pa_nil))))) (pw_or (pt_not (pt_chain op_le op_le pe_int (pe_callB call_lenD (by rfl) T.len PySem.boot_len (pa_cons (pv 0) pa_nil)) (pe_gint T.MAX_PINS))) (pw_or1 (pt_not (pt_val (pe_callB (allK K) (by rfl) T.all (by decide +kernel) (pa_cons (pe_lock (pe_lc (own := [("pin", 1)]) (g := (gName 1)) (tt := tYes) rfl sc_space_alone.nd (pi_keys (pv 0)) (blkOk_by (N := ["value", "pin"]) (sc := defScope st_space_alone) (own := [("pin", 1)]) (by decide +kernel)) (fun _ _ _ _ _ => (pg_name (i := 1) sc_space_alone.nd rfl (by first | exact Or.inl rfl | exact Or.inr rfl))) (fun _ _ _ _ _ => pts_nil) (fun _ _ _ _ _ => (pe_def d_is_name hr (pa_cons (pv 1) pa_nil))))) pa_nil)))))))) (pss_one (ps_ret pe_non)) pss_nil)
      (pss_one (ps_ret (pe_def d_space_by hr (pa_cons (pe_callB (call_sortedD rfl) (by rfl) T.sorted (by decide +kernel) (pa_cons (pv 0) pa_nil)) (pa_cons (pv 0) pa_nil)))))), ?_⟩
    obtain ⟨g, h1, h2⟩ := id hd
    have el : (ls.map fun k => ((Sum.inr k : Key), V.ref (g k))).length = ls.length := List.length_map ..
    refine ⟨_, rfl, _, _, _, _, _, rfl, .ty _, .base (.dK h1), kit_ty (by decide +kernel), true, rfl, iteF ?_⟩
    refine ⟨_, rfl, d, _, rfl, h1, _, _, rfl, rfl, _, rfl, iteB (decide_eq_true (by rw [el]; exact Int.ofNat_le.mpr l1)) ⟨_, _, rfl, rfl, _, rfl, ?_⟩⟩
    refine iteN (by rw [decide_eq_true (by rw [el]; exact Int.ofNat_le.mpr l8)]; rfl) ?_
    refine ⟨d, _, h1, trivial, fun od => ?_⟩
    generalize hG : upd H d (.frz od (.dK (ls.map fun k => ((Sum.inr k : Key), V.ref (g k))))) = G
    have gd : G d = some (.frz od (.dK (ls.map fun k => ((Sum.inr k : Key), V.ref (g k))))) := by rw [← hG, upd_same]
    refine ⟨_, rfl, d, od, rfl, .inl ⟨_, gd, fun D hD => any_it walk_keys (AccF [] G D fun _ => .bl true) (AccF.zero hD) (fun i H' _ p => p.1.get0 gd) (fun i x H0 H1 hi p y => ?_) fun H1 p => ?_⟩⟩
    · obtain ⟨rfl, k, v, hk, rfl⟩ := y
      rw [List.getElem?_map] at hk
      rw [el] at hi
      rw [List.getElem?_eq_getElem hi] at hk
      obtain ⟨rfl, rfl⟩ : Sum.inr ls[i] = k ∧ V.ref (g ls[i]) = v := by
        have z := Option.some.inj hk
        exact ⟨congrArg Prod.fst z, congrArg Prod.snd z⟩
      exact ⟨rfl, yesT ⟨_, rfl, ls[i], rfl, hz _ (List.getElem_mem hi), fun H2 k2 => AccF.step hD (p.1.trans k2) (k2.get0 p.2) rfl (by omega)⟩⟩
    · have kU : KX [] H (upd H1 d (.dK (ls.map fun k => ((Sum.inr k : Key), V.ref (g k))))) := KX.unlock h1 (by rw [hG]; exact p.1)
      have hDU : upd H1 d (.dK (ls.map fun k => ((Sum.inr k : Key), V.ref (g k)))) D = some (.lst (mapN (fun _ => V.bl true) (ls.map fun k => ((Sum.inr k : Key), V.ref (g k))).length)) := by
        rw [upd_ne (ne_of_none gd hD).symm]
        exact p.2
      refine ⟨p.1.get0 gd, D, List.replicate ls.length true, rfl, SqL.of ?_, _, rfl, iteN (by simp) ?_⟩
      · rw [hDU, el]
        congr 2
        exact List.ext_getElem (by simp) fun i h1 h2 => by simp
      have hdU := hd.kx0 kU
      generalize upd H1 d (.dK (ls.map fun k => ((Sum.inr k : Key), V.ref (g k)))) = H2 at kU hdU ⊢
      obtain ⟨g2, h3, h4⟩ := id hdU
      refine ⟨_, rfl, d, _, ls, rfl, .inl h3, by rw [List.map_map]; rfl, by omega, fun ys E1 pm so hE1 => ?_⟩
      have kE : KX [] H2 (upd H2 E1 (.lst (sV ys))) := KX.new' hE1
      exact ⟨_, rfl, E1, d, ys, ls, pl, n, rfl, .inl (SqL.of upd_same), hdU.kx0 kE, pm.symm, by rw [pm.length_eq]; exact l1, by rw [pm.length_eq]; omega, ok.perm pm, tab_kx0 hT (kU.trans kE), fun H' k' t' => q H' ((kU.trans kE).of.trans k') t'⟩
theorem ok_require_alone {f : Addr} {fd : FuncData} (F : Fun K "require_alone" "require_alone" st_require_alone f fd) (T : Txt mg C) (d_space_alone : Def P w K mg base "space_alone" 8 ["value"] (spAlone Pt)) : FnOk P w K mg base CX0 9 f fd ["value"] (spAlone Pt) := by
  refine F.ok sc_require_alone (fun vs H Q E h => ?_) (fun cdv A outer s H vs Q E hr h => ?_)
  · obtain ⟨d, ls, p, n, rfl, _⟩ := h
    rfl
  · obtain ⟨d, ls, p, n, rfl, hd, l1, l8, hz, ok, hT, q⟩ := h
    refine ⟨_, (pss_cons (ps_set (i := 1) sc_require_alone.nd rfl (by first | exact Or.inl rfl | exact Or.inr rfl) (pe_def d_space_alone hr (pa_cons (pv 0) pa_nil)))
      (pss_cons (ps_if (pt_cmpR op_isN (pv 1) pe_non (nomark _)) (pss_one ps_never) pss_nil)
      (pss_one (ps_ret (pv 1))))), ?_⟩
    refine ⟨_, rfl, d, ls, p, n, rfl, hd, l1, l8, hz, ok, hT, fun H1 k1 t1 => ?_⟩
    exact ⟨_, rfl, rfl, _, rfl, iteN rfl ⟨_, rfl, q H1 k1 t1⟩⟩
end
end K14
set_option maxHeartbeats 2000000
/-! squares -/
namespace K14
open PySem L2 RZ GxR
open PySem.Spec PyProof.Rows
abbrev st_square_in : Stmt := top 36
theorem sc_square_in : FnScope ["placing", "one", "other", "here", "there"] ["placing", "one", "other"] (defScope st_square_in) := ⟨rfl, rfl, rfl, by decide +kernel, rfl, by decide +kernel, by decide +kernel⟩
abbrev st_squares_in : Stmt := top 37
theorem sc_squares_in : FnScope ["placing", "pairs", "pair"] ["placing", "pairs"] (defScope st_squares_in) := ⟨rfl, rfl, rfl, by decide +kernel, rfl, by decide +kernel, by decide +kernel⟩
abbrev st_squares : Stmt := top 38
theorem sc_squares : FnScope ["frame", "placing"] ["frame", "placing"] (defScope st_squares) := ⟨rfl, rfl, rfl, by decide +kernel, rfl, by decide +kernel, by decide +kernel⟩
/-- the square of the distance -/
def sqL (xs ys : List Int) : Int := (List.zipWith (fun a b => (a - b) * (a - b)) xs ys).sum
def sqAt (p : Str → List Int) (x : Str × Str) : Int := sqL (p x.1) (p x.2)
abbrev prK (x : Str × Str) : List Key := [Sum.inr x.1, Sum.inr x.2]
/-- the table of the squares at the pairs L -/
abbrev sqTab (p : Str → List Int) (L : List Pr3) : List (List Key × Int) := L.map fun x => (prK x.2, sqAt p x.2)
theorem iV_at {xs : List Int} {i : Nat} {u : V} (h : (iV xs)[i]? = some u) : u = .int (xs.getD i 0) ∧ i < xs.length := by
  obtain ⟨n, hn, _, rfl⟩ := mem_iV h
  exact ⟨by simp [hn], (List.getElem?_eq_some_iff.mp hn).1⟩
theorem mapN_int (g : Nat → Int) (n : Nat) : mapN (fun i => V.int (g i)) n = iV ((List.range n).map g) := by simp [mapN, iV]
theorem range_zip (f : Int → Int → Int) {xs ys : List Int} (h : xs.length = ys.length) : (List.range xs.length).map (fun i => f (xs.getD i 0) (ys.getD i 0)) = List.zipWith f xs ys := by
  refine List.ext_getElem (by simp [h]) fun i h1 h2 => ?_
  have h3 : i < xs.length := by simpa using h1
  have h4 : i < ys.length := by omega
  simp [h3, h4]
theorem low_lt {i : Int} (h : i.natAbs < 10 ^ 2000) : i.natAbs < 2 ^ 6999 := Nat.lt_of_lt_of_le h (by decide +kernel)
theorem sub_lt {i j : Int} {a : Nat} (h1 : i.natAbs < 2 ^ a) (h2 : j.natAbs < 2 ^ a) : (i - j).natAbs < 2 ^ (a + 1) := by
  rw [Nat.pow_succ]
  omega
theorem getD_mem {xs : List Int} {i : Nat} (h : i < xs.length) : xs.getD i 0 ∈ xs := by
  simp [h]
theorem valV_none {κ : Type} [DecidableEq κ] {kvs : List (κ × V)} {k : κ} (h : k ∉ kvs.map (·.1)) : valV kvs k = none := by
  unfold valV
  rw [Option.map_eq_none_iff, List.find?_eq_none]
  intro x hx e
  exact h (List.mem_map.mpr ⟨x, hx, of_decide_eq_true e⟩)
def spSqIn : Sp := fun vs H Q _ => ∃ (d : Addr) (x y : Str) (ls : List Str) (p : Str → List Int), vs = [.ref d, .str x, .str y] ∧ PlAt H d ls p ∧ x ∈ ls ∧ y ∈ ls ∧ (p x).length = (p y).length ∧ (p x).length < 1000 ∧ (∀ i ∈ p x, i.natAbs < 10 ^ 2000) ∧ (∀ i ∈ p y, i.natAbs < 10 ^ 2000) ∧
  ∀ H', KX [] H H' → Q (.int (sqL (p x) (p y))) H'
def spSqs (K : PySem.W.Frag) : Sp := fun vs H Q _ => ∃ (d a : Addr) (ls : List Str) (p : Str → List Int) (n : Nat) (L : List Pr3), vs = [.ref d, .ref a] ∧ PlAt H d ls p ∧ SpotsOk ls p n ∧ SqA K H a (refs L) ∧ (∀ x ∈ L, PrAt H x) ∧ (∀ x ∈ L, x.2.1 ∈ ls ∧ x.2.2 ∈ ls) ∧ (L.map (·.2)).Nodup ∧ L.length < 1000 ∧
  ∀ D H', KX [] H H' → H D = none → H' D = some (.dT (tabT (sqTab p L))) → Q (.ref D) H'
def spSquares (C Pt : Addr) : Sp := fun vs H Q _ => ∃ (f d : Addr) (zs : List Str) (L : List Pr3) (ls : List Str) (p : Str → List Int) (n : Nat), vs = [.ref f, .ref d] ∧ FrAt C H f zs L ∧ PlAt H d ls p ∧ ls.Perm zs ∧ 1 ≤ zs.length ∧ zs.length < 64 ∧ SpotsOk zs p n ∧
  (∀ x ∈ L, x.2.1 ∈ zs ∧ x.2.2 ∈ zs) ∧ (L.map (·.2)).Nodup ∧ L.length < 1000 ∧ TabG H Pt ∧ ∀ D H', KX [Pt] H H' → TabG H' Pt → H' D = some (.dT (tabT (sqTab p L))) → Q (.ref D) H'
section
variable {P : Program} {w : World} {K : PySem.W.Frag} {mg : Str → Option Value} {base : Heap} {C Pt : Addr}
theorem ok_square_in {f : Addr} {fd : FuncData} (F : Fun K "square_in" "square_in" st_square_in f fd) (T : Txt mg C) : FnOk P w K mg base CX0 1 f fd ["placing", "one", "other"] spSqIn := by
  refine F.ok sc_square_in (fun vs H Q E h => ?_) (fun cdv A outer s H vs Q E hr h => ?_)
  · obtain ⟨d, x, y, ls, p, rfl, _⟩ := h
    rfl
  · obtain ⟨d, x, y, ls, p, rfl, hd, hx, hy, hl, few, lx, ly, q⟩ := h
    have hu := hu_of hr
    refine ⟨_, (pss_one (ps_ret (pe_callB (sumK K) (by rfl) T.sum (by decide +kernel) (pa_cons (pe_lc (own := [("here", 3), ("there", 4)]) (g := (gTup K 2 (gCons (gName 3) (gCons (gName 4) gNil)))) (tt := tYes) rfl sc_square_in.nd (piZip K T.zip (pa_cons (pe_dget hu (pv 0) (pv 1) (fun _ _ => rfl)) (pa_cons (pe_dget hu (pv 0) (pv 2) (fun _ _ => rfl)) pa_nil))) (blkOk_by (N := ["placing", "one", "other", "here", "there"]) (sc := defScope st_square_in) (own := [("here", 3), ("there", 4)]) (by decide +kernel)) (fun _ _ _ _ _ => (pg_tup rfl (pgs_cons (pg_name (i := 3) sc_square_in.nd rfl (by first | exact Or.inl rfl | exact Or.inr rfl)) (pgs_cons (pg_name (i := 4) sc_square_in.nd rfl (by first | exact Or.inl rfl | exact Or.inr rfl)) pgs_nil)))) (fun _ _ _ _ _ => pts_nil) (fun _ _ _ _ _ => (pe_op op_mulW (pe_op op_sub (pv 3) (pv 4)) (pe_op op_sub (pv 3) (pv 4))))) pa_nil)))), ?_⟩
    obtain ⟨t1, g1, h1⟩ := hd.get hx
    obtain ⟨t2, g2, h2⟩ := hd.get hy
    have el : (iV (p x)).length = (p x).length := List.length_map ..
    have el2 : (iV (p y)).length = (p y).length := List.length_map ..
    refine ⟨_, rfl, _, rfl, d, _, rfl, g1, _, rfl, _, rfl, d, _, rfl, g2, t1, t2, _, _, rfl, .inr ⟨SqT.of h1, SqT.of h2, fun D hD => any_it (walk_zipT (n := (p x).length) (by rw [el, el2, hl]; simp)) (AccF [] H D fun i => .int (((p x).getD i 0 - (p y).getD i 0) * ((p x).getD i 0 - (p y).getD i 0))) (AccF.zero hD)
      (fun i H' _ p => ⟨SqT.kx0 (SqT.of h1) p.1, SqT.kx0 (SqT.of h2) p.1⟩) (fun i v H0 H1 hi a y => ?_) fun H1 a => ?_⟩⟩
    · obtain ⟨T1, u, v, rfl, hT1, rfl, e1, e2⟩ := y
      obtain ⟨rfl, i1⟩ := iV_at e1
      obtain ⟨rfl, i2⟩ := iV_at e2
      have b : ((p x).getD i 0 - (p y).getD i 0).natAbs < 2 ^ 7000 := sub_lt (low_lt (lx _ (getD_mem i1))) (low_lt (ly _ (getD_mem i2)))
      refine ⟨T1, _, rfl, SqT.of upd_same, rfl, _, _, rfl, _, _, rfl, rfl, rfl, yesT ?_⟩
      refine ⟨_, rfl, _, rfl, _, _, rfl, rfl, _, rfl, _, rfl, _, _, rfl, rfl, _, _, rfl, rfl, wide_mul b b (by decide) (by decide) (by decide), AccF.step hD (a.1.new (a.1.free0 hT1)) ?_ rfl (by omega)⟩
      rw [upd_ne (ne_of_none a.2 hT1)]
      exact a.2
    · refine ⟨D, (List.range (p x).length).map fun i => ((p x).getD i 0 - (p y).getD i 0) * ((p x).getD i 0 - (p y).getD i 0), rfl, SqL.of ?_, inE ?_ (q H1 a.1)⟩
      · rw [a.2, mapN_int]
      · rw [range_zip (fun a b => (a - b) * (a - b)) hl]
        rfl
theorem ok_squares_in {f : Addr} {fd : FuncData} (F : Fun K "squares_in" "squares_in" st_squares_in f fd) (T : Txt mg C) (d_square_in : Def P w K mg base "square_in" 1 ["placing", "one", "other"] spSqIn) : FnOk P w K mg base CX0 2 f fd ["placing", "pairs"] (spSqs K) := by
  refine F.ok sc_squares_in (fun vs H Q E h => ?_) (fun cdv A outer s H vs Q E hr h => ?_)
  · obtain ⟨d, a, ls, p, n, L, rfl, _⟩ := h
    rfl
  · obtain ⟨d, a, ls, p, n, L, rfl, hd, ok, ha, hL, on, nd, few, q⟩ := h
    refine ⟨_, (pss_one (ps_ret (pe_dcT (own := [("pair", 2)]) (g := (gName 2)) rfl (hr.units) sc_squares_in.nd (piA K (pv 1)) (blkOk_by (N := ["placing", "pairs", "pair"]) (sc := defScope st_squares_in) (own := [("pair", 2)]) (by decide +kernel)) (fun _ _ _ _ _ => (pg_name (i := 2) sc_squares_in.nd rfl (by first | exact Or.inl rfl | exact Or.inr rfl))) (fun _ _ _ _ _ => (pv 2)) (fun _ _ _ _ _ => (pe_def d_square_in hr (pa_cons (pv 0) (pa_cons (pe_ix (ix_tupK K) (pv 2) pe_int (fun _ _ => rfl)) (pa_cons (pe_ix (ix_tupK K) (pv 2) pe_int (fun _ _ => rfl)) pa_nil)))))))), ?_⟩
    have el : (refs L).length = L.length := List.length_map ..
    refine ⟨_, rfl, a, _, rfl, ha, fun J G wk hG D hD => any_it wk (fun i H' => KX [] H H' ∧ H' D = some (.dT (tabT (sqTab p (L.take i))))) ⟨KX.new' hD, upd_same⟩ (fun i H' _ p => hG _ _ p.1 (fun z => nomatch z)) (fun i v H0 H1 hi a1 y => ?_) fun H1 a1 => ?_⟩
    · obtain ⟨rfl, hx⟩ := y
      obtain ⟨x, hx2, hm, rfl⟩ := mem_refs hx
      obtain ⟨k1, h1⟩ := a1
      have hx3 : H1 x.1 = some (.tup [.str x.2.1, .str x.2.2]) := k1.get0 (hL x hm)
      have two : n < 1000 := by rcases ok.two with e | e <;> omega
      have o1 := ok.len _ (on x hm).1
      have o2 := ok.len _ (on x hm).2
      refine ⟨rfl, _, rfl, _, rfl, _, rfl, x.1, _, 0, _, rfl, rfl, SqT.of hx3, rfl, _, rfl, x.1, _, 1, _, rfl, rfl, SqT.of hx3, rfl, d, x.2.1, x.2.2, ls, p, rfl, hd.kx0 k1, (on x hm).1, (on x hm).2, by rw [o1, o2], by rw [o1]; exact two, ok.low _ (on x hm).1, ok.low _ (on x hm).2, fun H2 k2 => ?_⟩
      refine ⟨_, prK x.2, x.1, rfl, k2.get0 hx3, k2.get0 h1, ?_, (k1.trans k2).new hD, ?_⟩
      · rw [List.length_map, List.length_map, List.length_take]
        exact Nat.lt_of_le_of_lt (Nat.min_le_right _ _) (Nat.lt_trans few (by decide))
      · rw [upd_same]
        have tk : L.take (i + 1) = L.take i ++ [x] := by rw [List.take_succ, hx2]; rfl
        have nin : prK x.2 ∉ (tabT (sqTab p (L.take i))).map (·.1) := by
          intro hm2
          rw [List.map_map, List.map_map] at hm2
          obtain ⟨y, hy, e⟩ := List.mem_map.mp hm2
          have e' : prK y.2 = prK x.2 := e
          have e2 : y.2 = x.2 := by
            have z : (Sum.inr y.2.1 : Key) = Sum.inr x.2.1 ∧ (Sum.inr y.2.2 : Key) = Sum.inr x.2.2 := by simpa [prK] using e'
            have z1 : y.2.1 = x.2.1 := by injection z.1
            have z2 : y.2.2 = x.2.2 := by injection z.2
            exact Prod.ext z1 z2
          have nd2 := nd
          rw [← List.take_append_drop (i + 1) L, tk, List.map_append, List.map_append] at nd2
          exact (List.nodup_append.mp (List.nodup_append.mp nd2).1).2.2 y.2 (List.mem_map_of_mem hy) x.2 (by simp) e2
        rw [putK_new _ (valV_none nin), tk]
        simp [tabT, sqTab, sqAt]
    · refine q D H1 a1.1 hD ?_
      rw [a1.2, el, List.take_length]
theorem ok_squares {f : Addr} {fd : FuncData} (F : Fun K "squares" "squares" st_squares f fd) (T : Txt mg C) (R : FrC K C) (d_require_frame : Def P w K mg base "require_frame" 1 ["value"] (spReq C)) (d_require_placing : Def P w K mg base "require_placing" 9 ["frame", "value"] (spSpaceIn C Pt))
    (d_squares_in : Def P w K mg base "squares_in" 2 ["placing", "pairs"] (spSqs K)) : FnOk P w K mg base CX0 10 f fd ["frame", "placing"] (spSquares C Pt) := by
  refine F.ok sc_squares (fun vs H Q E h => ?_) (fun cdv A outer s H vs Q E hr h => ?_)
  · obtain ⟨f, d, zs, L, ls, p, n, rfl, _⟩ := h
    rfl
  · obtain ⟨f, d, zs, L, ls, p, n, rfl, hf, hd, pm, l1, few, ok, on, nd, fewL, hT, q⟩ := h
    refine ⟨_, (pss_cons (ps_expr (pe_def d_require_frame hr (pa_cons (pv 0) pa_nil)))
      (pss_cons (ps_expr (pe_def d_require_placing hr (pa_cons (pv 0) (pa_cons (pv 1) pa_nil))))
      (pss_one (ps_ret (pe_def d_squares_in hr (pa_cons (pv 1) (pa_cons (slK K (pv 0)) pa_nil))))))), ?_⟩
    refine ⟨_, rfl, f, zs, L, rfl, hf, _, rfl, _, rfl, f, d, zs, L, ls, p, n, rfl, hf, hd, pm, l1, few, ok, hT, fun H1 k1 t1 => ?_⟩
    have kd := tab_kd hT k1
    obtain ⟨dx, vs, tp, tr, hs, v1, v2, htp, htr, hL⟩ := hf.kd kd
    obtain ⟨s2, hs2⟩ := R.rods
    refine ⟨_, rfl, _, rfl, f, C, dx, s2, vs, 2, _, rfl, hs, R.cls, hs2, v2, d, tr, ls, p, n, L, rfl, hd.kd kd, ok.perm pm, .inr (SqT.of htr), hL, fun x hx => ⟨pm.mem_iff.mpr (on x hx).1, pm.mem_iff.mpr (on x hx).2⟩, nd, fewL, fun D H2 k2 _ hD => ?_⟩
    exact q D H2 (k1.trans k2.of) (tab_kx0 t1 k2) hD
end
end K14
set_option maxHeartbeats 2000000
/-! y = {k: v for ..}, y a local of the def -/
namespace K14
open PySem L2 RZ
open PySem.Spec PyProof.Rows
section
variable {X : Cx}
theorem swD_true {kx vx : Expr} {gs : List Comprehension} {scope : Scope} {pos py : Pos} {y : Str} {l : Nat} {env : Env} (hk : env.scope.kind = .function) (hy : env.scope.names.lookup y = some .local) (hl : (py.line == pos.line) = true)
    (ha : (scope.names.any fun (n, k) => n == y && (k == .local || k == .cell)) = false) : swapsWith (.DictComp kx vx gs scope pos) (some (.Name y py)) l env = pure true := by
  have hb : env.blockKind = .function := by
    unfold Env.blockKind
    rw [hk]
    rfl
  have ky : env.kindOf y = some .local := hy
  unfold swapsWith
  simp only [hb, ky, ha, hl, Expr.pos]
  rfl
theorem ps_setDc {i : Nat} {y : Str} {py : Pos} {kx vx tg iter : Expr} {scope : Scope} {own : List (Str × Nat)} {pos spos : Pos} {wi : TI} {g : TG} {tt : TT} {tk tv : TE} {ifs : List Expr} (hc : X.calm = true) (hN : X.N.Nodup) (hy : X.N[i]? = some y) (hyl : X.env.scope.names.lookup y = some .local)
    (hsw : swapsWith (.DictComp kx vx [⟨tg, iter, ifs, 0⟩] scope pos) (some (.Name y py)) spos.line X.env = pure true) (hi : PI X tg iter wi) (ok : BlkOk X.N X.env.scope scope own)
    (hg : ∀ (s : Shared) (H : Hp) (C : Addr) (cl : List (Str × Addr)) (fp : List Addr), PG (X.blk s H scope (compEnvC scope cl C X.env) fp) tg g)
    (ht : ∀ (s : Shared) (H : Hp) (C : Addr) (cl : List (Str × Addr)) (fp : List Addr), PTs (X.blk s H scope (compEnvC scope cl C X.env) fp) ifs tt)
    (hk : ∀ (s : Shared) (H : Hp) (C : Addr) (cl : List (Str × Addr)) (fp : List Addr), PE (X.blk s H scope (compEnvC scope cl C X.env) fp) kx tk)
    (he : ∀ (s : Shared) (H : Hp) (C : Addr) (cl : List (Str × Addr)) (fp : List Addr), PE (X.blk s H scope (compEnvC scope cl C X.env) fp) vx tv) (hs : ∀ x, foldedSetIterable iter X.env x = pure x := by intro _; rfl) :
    PS X (.Assign [.Name y py] (.DictComp kx vx [⟨tg, iter, ifs, 0⟩] scope pos) spos) (tAsg (tDc wi g tt tk tv (own.map (·.2))) (gName i)) := by
  refine ⟨fun pins s σ H D I h => ?_⟩
  rw [exec_Assign_Name_used _ _ _ _ hsw]
  refine wpAny_bind (wpAny_standAt (wpAny_bind ?_))
  show wpAny _ X.A (do let _ ← comprehension (.DictComp kx vx [⟨tg, iter, ifs, 0⟩] scope pos) scope X.env (firstIterPos [⟨tg, iter, ifs, 0⟩] pos) newDict false (eval iter X.env) (some (assign (.Name y py) X.env))) _ _ s
  have h' : tDc wi g tt tk tv (own.map (·.2)) σ H (fun x H1 => gName i x σ H1 D.nx) := h
  refine wpAny_bind (thn (dc_core (Qf := fun _ s' => SP X pins D .next s') hc hN I hi ok hg ht hk he hs h' fun L C s' m H' I' q hn f => ?_) fun _ s' hq => wpAny_pure (wpAny_pure hq))
  show wpAny _ _ (assign (.Name y py) X.env (.ref L)) _ _ _
  refine wpAny_assign_Name (store_ok2 (v := V.ref L) I' hN hy (.inl hyl) rfl (fun s2 I2 ⟨a, sb, ha⟩ => ?_) (.inr hyl))
  obtain ⟨f0, f1, f2, f3, f4, f5⟩ := f
  have apart : C ≠ a := by
    rcases ha with z | z
    · rw [z]
      exact f1
    · exact fun e => f4 y a z e.symm
  exact ⟨m, hn.sameBut sb apart, fun h3 sb3 => ⟨_, H', I2.turned (t' := s2.toks) (fun b o hb e => (sb3.2 b hb).trans e) f0 f1 f3 f4 f5, q⟩⟩
end
end K14
set_option maxHeartbeats 2000000
/-! speeds; a placing shaken -/
namespace K14
open PySem L2 RZ GxR
open PySem.Spec PyProof.Rows
abbrev st_are_speeds : Stmt := top 41
theorem sc_are_speeds : FnScope ["pins", "space", "value", "pin"] ["pins", "space", "value"] (defScope st_are_speeds) := ⟨rfl, rfl, rfl, by decide +kernel, rfl, by decide +kernel, by decide +kernel⟩
abbrev st_shaken : Stmt := top 43
theorem sc_shaken : FnScope ["placing", "motion", "space", "pins", "ahead", "back", "pin", "here", "more"] ["placing", "motion"] (defScope st_shaken) := ⟨rfl, rfl, rfl, by decide +kernel, rfl, by decide +kernel, by decide +kernel⟩
def addP (p q : Str → List Int) (k : Str) : List Int := List.zipWith (· + ·) (p k) (q k)
def subP (p q : Str → List Int) (k : Str) : List Int := List.zipWith (· - ·) (p k) (q k)
def spSpeeds (K : PySem.W.Frag) : Sp := fun vs H Q _ => ∃ (a d : Addr) (ks ls : List Str) (p : Str → List Int) (n : Nat), vs = [.ref a, .int n, .ref d] ∧ SqA K H a (sV ks) ∧ PlAt H d ls p ∧ ls.Perm ks ∧ ks.length < 64 ∧ SpotsOk ks p n ∧ ∀ H', KX [] H H' → Q (.bl true) H'
def spShaken (Pt : Addr) : Sp := fun vs H Q _ => ∃ (d e : Addr) (zs ls ms : List Str) (p q : Str → List Int) (n : Nat), vs = [.ref d, .ref e] ∧ PlAt H d ls p ∧ PlAt H e ms q ∧ ls.Perm zs ∧ ms.Perm zs ∧ zs.Pairwise Bef ∧ 1 ≤ zs.length ∧ zs.length ≤ 8 ∧ (∀ z ∈ zs, NameOk z) ∧
  SpotsOk zs p n ∧ SpotsOk zs q n ∧ TabG H Pt ∧ ∀ t a b H', KX [Pt] H H' → TabG H' Pt → H' t = some (.tup [.ref a, .ref b]) → PlAt H' a zs (addP p q) → PlAt H' b zs (subP p q) → Q (.ref t) H'
theorem PlAt.snoc {H : Hp} {D t : Addr} {ks : List Str} {q : Str → List Int} {k : Str} (h : PlAt H D ks q) (hk : k ∉ ks) (ht : H t = some (.tup (iV (q k)))) (few : ks.length < 1000) :
    ∃ (kvs : List (Key × V)) (k' : Key), V.str k = kV k' ∧ H D = some (.dK kvs) ∧ kvs.length < sizeLine ∧ PlAt (upd H D (.dK (putK kvs k' (.ref t)))) D (ks ++ [k]) q := by
  obtain ⟨f, h1, h2⟩ := h
  refine ⟨_, Sum.inr k, rfl, h1, ?_, fun x => if x = k then t else f x, ?_, fun x hx => ?_⟩
  · rw [List.length_map]
    exact Nat.lt_trans few (by decide)
  · have nin : (Sum.inr k : Key) ∉ (ks.map fun k => ((Sum.inr k : Key), V.ref (f k))).map (·.1) := by
      intro hm
      rw [List.map_map] at hm
      obtain ⟨y, hy, e⟩ := List.mem_map.mp hm
      have e' : (Sum.inr y : Key) = Sum.inr k := e
      injection e' with e'
      exact hk (e' ▸ hy)
    rw [upd_same, putK_new _ (valV_none nin), List.map_append]
    congr 2
    refine congr (congrArg HAppend.hAppend ?_) ?_
    · refine List.map_congr_left fun y hy => ?_
      show ((Sum.inr y : Key), V.ref (f y)) = ((Sum.inr y : Key), V.ref (if y = k then t else f y))
      rw [if_neg (fun z : y = k => hk (by rw [← z]; exact hy))]
    · simp
  · have nD : ∀ c ys, H c = some (.tup ys) → c ≠ D := fun c ys e z => by
      rw [z, h1] at e
      cases e
    by_cases e : x = k
    · show upd H D _ (if x = k then t else f x) = _
      rw [if_pos e, e, upd_ne (nD _ _ ht)]
      exact ht
    · show upd H D _ (if x = k then t else f x) = _
      rw [if_neg e]
      have hx' : x ∈ ks := by
        rcases List.mem_append.mp hx with z | z
        · exact z
        · exact absurd (List.mem_singleton.mp z) e
      rw [upd_ne (nD _ _ (h2 x hx'))]
      exact h2 x hx'
theorem PlAt.nil {H : Hp} {D : Addr} {q : Str → List Int} : PlAt (upd H D (.dK [])) D [] q := ⟨fun _ => 0, upd_same, fun x hx => nomatch hx⟩
theorem not_take {α : Type} {l : List α} {i : Nat} (nd : l.Nodup) (h : i < l.length) : l[i] ∉ l.take i := by
  intro hm
  obtain ⟨j, hj, ej⟩ := List.getElem_of_mem hm
  rw [List.length_take] at hj
  rw [List.getElem_take] at ej
  exact List.pairwise_iff_getElem.mp nd j i (by omega) h (by omega) ej
theorem take_one {α : Type} {l : List α} {i : Nat} (h : i < l.length) : l.take (i + 1) = l.take i ++ [l[i]] := by rw [List.take_succ, List.getElem?_eq_getElem h]; rfl
theorem at_sV {zs : List Str} {i : Nat} {x : V} (h : (sV zs)[i]? = some x) : ∃ h : i < zs.length, x = .str zs[i] := by
  rw [List.getElem?_map] at h
  cases q : zs[i]? with
  | none =>
    rw [q] at h
    cases h
  | some z =>
    rw [q] at h
    obtain ⟨h1, h2⟩ := List.getElem?_eq_some_iff.mp q
    exact ⟨h1, by rw [h2]; exact (Option.some.inj h).symm⟩
section
variable {P : Program} {w : World} {K : PySem.W.Frag} {mg : Str → Option Value} {base : Heap} {C Pt : Addr}
theorem ok_are_speeds {f : Addr} {fd : FuncData} (F : Fun K "are_speeds" "are_speeds" st_are_speeds f fd) (T : Txt mg C) (d_has_just : Def P w K mg base "has_just" 1 ["keys", "value"] (spJust K)) (d_are_integers : Def P w K mg base "are_integers" 3 ["value", "width"] (spInts K)) :
    FnOk P w K mg base CX0 4 f fd ["pins", "space", "value"] (spSpeeds K) := by
  refine F.ok sc_are_speeds (fun vs H Q E h => ?_) (fun cdv A outer s H vs Q E hr h => ?_)
  · obtain ⟨a, d, ks, ls, p, n, rfl, _⟩ := h
    rfl
  · obtain ⟨a, d, ks, ls, p, n, rfl, ha, hd, pm, few, ok, q⟩ := h
    have hu := hu_of hr
    refine ⟨_, (pss_one (ps_ret (pe_and (pe_def d_has_just hr (pa_cons (pv 0) (pa_cons (pv 2) pa_nil))) (pe_one (pe_callB (allK K) (by rfl) T.all (by decide +kernel) (pa_cons (pe_lc (own := [("pin", 3)]) (g := (gName 3)) (tt := tYes) rfl sc_are_speeds.nd (piA K (pv 0)) (blkOk_by (N := ["pins", "space", "value", "pin"]) (sc := defScope st_are_speeds) (own := [("pin", 3)]) (by decide +kernel)) (fun _ _ _ _ _ => (pg_name (i := 3) sc_are_speeds.nd rfl (by first | exact Or.inl rfl | exact Or.inr rfl))) (fun _ _ _ _ _ => pts_nil) (fun _ _ _ _ _ => (pe_def d_are_integers hr (pa_cons (pe_dget hu (pv 2) (pv 3) (fun _ _ => rfl)) (pa_cons (pv 1) pa_nil))))) pa_nil)))))), ?_⟩
    have el : (sV ks).length = ks.length := List.length_map ..
    refine ⟨_, rfl, _, rfl, a, d, ks, ls, p, rfl, ha, hd, pm, few, fun H1 k1 => ⟨true, rfl, iteT ?_⟩⟩
    refine ⟨_, rfl, a, _, rfl, ha.kx0 k1, fun J G wk hG D hD => any_it wk (AccF [] H1 D fun _ => .bl true) (AccF.zero hD) (fun i H' _ p => hG _ _ p.1 (fun z => nomatch z)) (fun i x H0 H2 hi a1 y => ?_) fun H2 a1 => ?_⟩
    · obtain ⟨rfl, hx⟩ := y
      obtain ⟨z, hm, rfl⟩ := mem_sV hx
      obtain ⟨t, g, ht⟩ := (hd.kx0 (k1.trans a1.1)).get (pm.mem_iff.mpr hm)
      have e1 := ok.len z hm
      refine ⟨rfl, yesT ⟨_, rfl, _, rfl, d, _, rfl, g, _, rfl, t, p z, n, rfl, SqT.of ht, ?_, ok.low z hm, fun H3 k3 => AccF.step hD (a1.1.trans k3) (k3.get0 a1.2) ?_ (by omega)⟩⟩
      · rcases ok.two with e | e <;> omega
      · rw [e1]
        exact congrArg V.bl (decide_eq_true rfl)
    · exact ⟨D, _, rfl, a1.all, blT (by simp) (q H2 (k1.trans a1.1))⟩
theorem ok_shaken {f : Addr} {fd : FuncData} (F : Fun K "shaken" "shaken" st_shaken f fd) (T : Txt mg C) (d_require_alone : Def P w K mg base "require_alone" 9 ["value"] (spAlone Pt)) (d_are_speeds : Def P w K mg base "are_speeds" 4 ["pins", "space", "value"] (spSpeeds K)) :
    FnOk P w K mg base CX0 10 f fd ["placing", "motion"] (spShaken Pt) := by
  refine F.ok sc_shaken (fun vs H Q E h => ?_) (fun cdv A outer s H vs Q E hr h => ?_)
  · obtain ⟨d, e, zs, ls, ms, p, q, n, rfl, _⟩ := h
    rfl
  · obtain ⟨d, e, zs, ls, ms, p, q, n, rfl, hd, he, pl, pm, ord, l1, l8, hz, okp, okq, hT, k⟩ := h
    have hu := hu_of hr
    refine ⟨_, (pss_cons (ps_set (i := 2) sc_shaken.nd rfl (by first | exact Or.inl rfl | exact Or.inr rfl) (pe_def d_require_alone hr (pa_cons (pv 0) pa_nil)))
      (pss_cons (ps_set (i := 3) sc_shaken.nd rfl (by first | exact Or.inl rfl | exact Or.inr rfl) (pe_callB (call_sortedD rfl) (by rfl) T.sorted (by decide +kernel) (pa_cons (pv 0) pa_nil)))
      (pss_cons (ps_if (pt_not (pt_val (pe_def d_are_speeds hr (pa_cons (pv 3) (pa_cons (pv 2) (pa_cons (pv 1) pa_nil)))))) (pss_one ps_never) pss_nil)
      (pss_cons (ps_setDc (i := 4) (own := [("pin", 6)]) (g := (gName 6)) (tt := tYes) rfl sc_shaken.nd rfl rfl (swD_true rfl rfl rfl (by decide +kernel)) (piL K (pv 3)) (blkOk_by (N := ["placing", "motion", "space", "pins", "ahead", "back", "pin", "here", "more"]) (sc := defScope st_shaken) (own := [("pin", 6)]) (by decide +kernel)) (fun _ _ _ _ _ => (pg_name (i := 6) sc_shaken.nd rfl (by first | exact Or.inl rfl | exact Or.inr rfl))) (fun _ _ _ _ _ => pts_nil) (fun _ _ _ _ _ => (pv 6)) (fun _ _ _ _ _ => (pe_callTy (tupK K) (by rfl) T.tuple (by decide +kernel) (pa_cons (pe_lc (own := [("here", 7), ("more", 8)]) (g := (gTup K 2 (gCons (gName 7) (gCons (gName 8) gNil)))) (tt := tYes) rfl sc_shaken.nd (piZip K T.zip (pa_cons (pe_dget hu (pv 0) (pv 6) (fun _ _ => rfl)) (pa_cons (pe_dget hu (pv 1) (pv 6) (fun _ _ => rfl)) pa_nil))) (blkOk_by (N := ["placing", "motion", "space", "pins", "ahead", "back", "pin", "here", "more"]) (own := [("here", 7), ("more", 8)]) (by with_unfolding_all rfl)) (fun _ _ _ _ _ => (pg_tup rfl (pgs_cons (pg_name (i := 7) sc_shaken.nd rfl (by first | exact Or.inl rfl | exact Or.inr rfl)) (pgs_cons (pg_name (i := 8) sc_shaken.nd rfl (by first | exact Or.inl rfl | exact Or.inr rfl)) pgs_nil)))) (fun _ _ _ _ _ => pts_nil) (fun _ _ _ _ _ => (pe_op op_add (pv 7) (pv 8)))) pa_nil))))
      (pss_cons (ps_setDc (i := 5) (own := [("pin", 6)]) (g := (gName 6)) (tt := tYes) rfl sc_shaken.nd rfl rfl (swD_true rfl rfl rfl (by decide +kernel)) (piL K (pv 3)) (blkOk_by (N := ["placing", "motion", "space", "pins", "ahead", "back", "pin", "here", "more"]) (sc := defScope st_shaken) (own := [("pin", 6)]) (by decide +kernel)) (fun _ _ _ _ _ => (pg_name (i := 6) sc_shaken.nd rfl (by first | exact Or.inl rfl | exact Or.inr rfl))) (fun _ _ _ _ _ => pts_nil) (fun _ _ _ _ _ => (pv 6)) (fun _ _ _ _ _ => (pe_callTy (tupK K) (by rfl) T.tuple (by decide +kernel) (pa_cons (pe_lc (own := [("here", 7), ("more", 8)]) (g := (gTup K 2 (gCons (gName 7) (gCons (gName 8) gNil)))) (tt := tYes) rfl sc_shaken.nd (piZip K T.zip (pa_cons (pe_dget hu (pv 0) (pv 6) (fun _ _ => rfl)) (pa_cons (pe_dget hu (pv 1) (pv 6) (fun _ _ => rfl)) pa_nil))) (blkOk_by (N := ["placing", "motion", "space", "pins", "ahead", "back", "pin", "here", "more"]) (own := [("here", 7), ("more", 8)]) (by with_unfolding_all rfl)) (fun _ _ _ _ _ => (pg_tup rfl (pgs_cons (pg_name (i := 7) sc_shaken.nd rfl (by first | exact Or.inl rfl | exact Or.inr rfl)) (pgs_cons (pg_name (i := 8) sc_shaken.nd rfl (by first | exact Or.inl rfl | exact Or.inr rfl)) pgs_nil)))) (fun _ _ _ _ _ => pts_nil) (fun _ _ _ _ _ => (pe_op op_sub (pv 7) (pv 8)))) pa_nil))))
      (pss_one (ps_ret (pe_tup (pa_cons (pv 4) (pa_cons (pv 5) pa_nil)))))))))), ?_⟩
    refine ⟨_, rfl, d, ls, p, n, rfl, hd, by rw [pl.length_eq]; exact l1, by rw [pl.length_eq]; exact l8, fun z hm => hz z (pl.mem_iff.mp hm), okp.perm pl, hT, fun H1 k1 t1 => ?_⟩
    have kd1 := tab_kd hT k1
    obtain ⟨f1, h3, h4⟩ := id (hd.kd kd1)
    refine ⟨_, rfl, d, _, ls, rfl, .inl h3, by rw [List.map_map]; rfl, by rw [pl.length_eq]; omega, fun ys E1 pm1 so hE1 => ?_⟩
    obtain rfl : zs = ys := (sorted_same (pm1.trans pl) so ord).symm
    have k2 : KX [] H1 (upd H1 E1 (.lst (sV zs))) := KX.new' hE1
    have kd2 := kd1.trans k2.kd0
    refine ⟨_, rfl, _, rfl, _, rfl, E1, e, zs, ms, q, n, rfl, .inl (SqL.of upd_same), he.kd kd2, pm, by omega, okq, fun G kG => ⟨true, rfl, iteF ?_⟩⟩
    have eG : SqL K G E1 (sV zs) := SqL.kx0 (SqL.of upd_same) kG
    have dG : PlAt G d ls p := (hd.kd kd2).kx0 kG
    have mG : PlAt G e ms q := (he.kd kd2).kx0 kG
    have kHG : KX [Pt] H G := k1.trans (k2.trans kG).of
    have tG : TabG G Pt := tab_kx0 t1 (k2.trans kG)

    -- ahead
    refine ⟨_, rfl, E1, rfl, ⟨_, eG⟩, fun Dahead hDahead => any_it walk_list (fun i H' => KX [] G H' ∧ PlAt H' Dahead (zs.take i) (addP p q)) ⟨KX.new' hDahead, PlAt.nil⟩ (fun i H' _ a1 => SqL.kx0 eG a1.1) (fun i v H0 H4 hi a1 y => ?_) fun J aahead => ?_⟩
    · obtain ⟨rfl, hx⟩ := y
      obtain ⟨hi2, rfl⟩ := at_sV hx
      obtain ⟨k4, p4⟩ := a1
      have hm : zs[i] ∈ zs := List.getElem_mem hi2
      obtain ⟨t1, g1, h1⟩ := ((dG).kx0 k4).get (pl.mem_iff.mpr hm)
      obtain ⟨t2, g2, h2⟩ := ((mG).kx0 k4).get (pm.mem_iff.mpr hm)
      have l1' := okp.len _ hm
      have l2' := okq.len _ hm
      have el1 : (iV (p zs[i])).length = n := by rw [List.length_map, l1']
      have el2 : (iV (q zs[i])).length = n := by rw [List.length_map, l2']
      have n2 : n < 1000 := by rcases okp.two with e | e <;> omega
      refine ⟨rfl, yesT ⟨_, rfl, _, rfl, _, rfl, d, _, rfl, g1, _, rfl, _, rfl, e, _, rfl, g2, t1, t2, _, _, rfl, .inr ⟨SqT.of h1, SqT.of h2, fun D2 hD2 => any_it (walk_zipT (n := n) (by rw [el1, el2]; simp)) (AccF [] H4 D2 fun j => .int ((p zs[i]).getD j 0 + (q zs[i]).getD j 0)) (AccF.zero hD2)
        (fun j H' _ a => ⟨SqT.kx0 (SqT.of h1) a.1, SqT.kx0 (SqT.of h2) a.1⟩) (fun j v H5 H6 hj a y => ?_) fun H6 a => ?_⟩⟩⟩
      · obtain ⟨T1, u, v, rfl, hT1, rfl, e1, e2⟩ := y
        obtain ⟨rfl, i1⟩ := iV_at e1
        obtain ⟨rfl, i2⟩ := iV_at e2
        refine ⟨T1, _, rfl, SqT.of upd_same, rfl, _, _, rfl, _, _, rfl, rfl, rfl, yesT ⟨_, rfl, _, rfl, _, _, rfl, rfl, AccF.step hD2 (a.1.new (a.1.free0 hT1)) ?_ rfl (by omega)⟩⟩
        rw [upd_ne (ne_of_none a.2 hT1)]
        exact a.2
      · refine ⟨D2, iV (addP p q zs[i]), rfl, SqL.of ?_, fun t3 ht3 => ?_⟩
        · rw [a.2, mapN_int]
          congr 2
          rw [← l1', range_zip (fun a b => a + b) (by rw [l1', l2'])]
          rfl
        · have k6 : KX [] H4 (upd H6 t3 (.tup (iV (addP p q zs[i])))) := a.1.new (a.1.free0 ht3)
          obtain ⟨kvs, k', e1, e2, e3, e4⟩ := (p4.kx0 k6).snoc (not_take (pair_nodup ord) hi2) upd_same (by rw [List.length_take]; omega)
          exact ⟨kvs, k', e1, e2, e3, (k4.trans k6).new hDahead, by rw [take_one hi2]; exact e4⟩
    have elahead : (sV zs).length = zs.length := List.length_map ..
    rw [elahead, List.take_length] at aahead
    have eJ : SqL K J E1 (sV zs) := SqL.kx0 eG aahead.1
    have dJ : PlAt J d ls p := dG.kx0 aahead.1
    have mJ : PlAt J e ms q := mG.kx0 aahead.1

    -- back
    refine ⟨_, rfl, E1, rfl, ⟨_, eJ⟩, fun Dback hDback => any_it walk_list (fun i H' => KX [] J H' ∧ PlAt H' Dback (zs.take i) (subP p q)) ⟨KX.new' hDback, PlAt.nil⟩ (fun i H' _ a1 => SqL.kx0 eJ a1.1) (fun i v H0 H4 hi a1 y => ?_) fun M aback => ?_⟩
    · obtain ⟨rfl, hx⟩ := y
      obtain ⟨hi2, rfl⟩ := at_sV hx
      obtain ⟨k4, p4⟩ := a1
      have hm : zs[i] ∈ zs := List.getElem_mem hi2
      obtain ⟨t1, g1, h1⟩ := ((dJ).kx0 k4).get (pl.mem_iff.mpr hm)
      obtain ⟨t2, g2, h2⟩ := ((mJ).kx0 k4).get (pm.mem_iff.mpr hm)
      have l1' := okp.len _ hm
      have l2' := okq.len _ hm
      have el1 : (iV (p zs[i])).length = n := by rw [List.length_map, l1']
      have el2 : (iV (q zs[i])).length = n := by rw [List.length_map, l2']
      have n2 : n < 1000 := by rcases okp.two with e | e <;> omega
      refine ⟨rfl, yesT ⟨_, rfl, _, rfl, _, rfl, d, _, rfl, g1, _, rfl, _, rfl, e, _, rfl, g2, t1, t2, _, _, rfl, .inr ⟨SqT.of h1, SqT.of h2, fun D2 hD2 => any_it (walk_zipT (n := n) (by rw [el1, el2]; simp)) (AccF [] H4 D2 fun j => .int ((p zs[i]).getD j 0 - (q zs[i]).getD j 0)) (AccF.zero hD2)
        (fun j H' _ a => ⟨SqT.kx0 (SqT.of h1) a.1, SqT.kx0 (SqT.of h2) a.1⟩) (fun j v H5 H6 hj a y => ?_) fun H6 a => ?_⟩⟩⟩
      · obtain ⟨T1, u, v, rfl, hT1, rfl, e1, e2⟩ := y
        obtain ⟨rfl, i1⟩ := iV_at e1
        obtain ⟨rfl, i2⟩ := iV_at e2
        refine ⟨T1, _, rfl, SqT.of upd_same, rfl, _, _, rfl, _, _, rfl, rfl, rfl, yesT ⟨_, rfl, _, rfl, _, _, rfl, rfl, AccF.step hD2 (a.1.new (a.1.free0 hT1)) ?_ rfl (by omega)⟩⟩
        rw [upd_ne (ne_of_none a.2 hT1)]
        exact a.2
      · refine ⟨D2, iV (subP p q zs[i]), rfl, SqL.of ?_, fun t3 ht3 => ?_⟩
        · rw [a.2, mapN_int]
          congr 2
          rw [← l1', range_zip (fun a b => a - b) (by rw [l1', l2'])]
          rfl
        · have k6 : KX [] H4 (upd H6 t3 (.tup (iV (subP p q zs[i])))) := a.1.new (a.1.free0 ht3)
          obtain ⟨kvs, k', e1, e2, e3, e4⟩ := (p4.kx0 k6).snoc (not_take (pair_nodup ord) hi2) upd_same (by rw [List.length_take]; omega)
          exact ⟨kvs, k', e1, e2, e3, (k4.trans k6).new hDback, by rw [take_one hi2]; exact e4⟩
    have elback : (sV zs).length = zs.length := List.length_map ..
    rw [elback, List.take_length] at aback
    refine ⟨_, rfl, _, rfl, by show 2 ≤ sizeLine; decide, fun t ht => ?_⟩
    have kM : KX [] M (upd M t (.tup [.ref Dahead, .ref Dback])) := KX.new' ht
    exact k t Dahead Dback _ (kHG.trans ((aahead.1.trans aback.1).trans kM).of) (tab_kx0 tG ((aahead.1.trans aback.1).trans kM)) upd_same ((aahead.2.kx0 aback.1).kx0 kM) (aback.2.kx0 kM)
end
end K14
set_option maxHeartbeats 2000000
/-! the pairs of a list of names -/
namespace K14
open PySem L2 RZ GxR
open PySem.Spec PyProof.Rows
/-- the pairs whose first stands among the first i -/
def prsTo (zs : List Str) : Nat → List (Str × Str)
  | 0 => []
  | i + 1 => prsTo zs i ++ (zs.drop (i + 1)).map fun y => (zs.getD i Str.empty, y)
def prsOf (zs : List Str) : List (Str × Str) := prsTo zs zs.length
theorem prs_mem {zs : List Str} {x : Str × Str} : ∀ {i : Nat}, i ≤ zs.length → x ∈ prsTo zs i → ∃ j k, j < i ∧ j < k ∧ zs[j]? = some x.1 ∧ zs[k]? = some x.2
  | 0, _, h => nomatch h
  | i + 1, hi, h => by
    rcases List.mem_append.mp h with h | h
    · obtain ⟨j, k, h1, h2, h3, h4⟩ := prs_mem (i := i) (by omega) h
      exact ⟨j, k, by omega, h2, h3, h4⟩
    · obtain ⟨y, hy, rfl⟩ := List.mem_map.mp h
      obtain ⟨m, hm⟩ := List.getElem?_of_mem hy
      rw [List.getElem?_drop] at hm
      have h3 : i < zs.length := by omega
      exact ⟨i, i + 1 + m, by omega, by omega, by simp [h3], hm⟩
theorem prs_nodup {zs : List Str} (nd : zs.Nodup) : ∀ {i : Nat}, i ≤ zs.length → (prsTo zs i).Nodup
  | 0, _ => List.nodup_nil
  | i + 1, hi => by
    have h3 : i < zs.length := by omega
    refine List.nodup_append.mpr ⟨prs_nodup nd (by omega), ?_, fun a ha b hb e => ?_⟩
    · refine List.Pairwise.map _ (fun x y hne z => hne (by
        have e : (zs.getD i Str.empty, x) = (zs.getD i Str.empty, y) := z
        exact congrArg Prod.snd e)) (List.Pairwise.sublist (List.drop_sublist _ _) nd)
    · obtain ⟨j, k, h1, h2, e1, _⟩ := prs_mem (by omega) ha
      obtain ⟨y, hy, rfl⟩ := List.mem_map.mp hb
      subst e
      have e2 : zs[j]? = some (zs.getD i Str.empty) := e1
      have e3 : zs[i]? = some (zs.getD i Str.empty) := by simp [h3]
      obtain ⟨hj, e4⟩ := List.getElem?_eq_some_iff.mp e2
      obtain ⟨_, e5⟩ := List.getElem?_eq_some_iff.mp e3
      exact List.pairwise_iff_getElem.mp nd j i hj h3 h1 (e4.trans e5.symm)
theorem prs_len {zs : List Str} : ∀ {i : Nat}, (prsTo zs i).length ≤ i * zs.length
  | 0 => Nat.zero_le _
  | i + 1 => by
    unfold prsTo
    rw [List.length_append, List.length_map, List.length_drop]
    have := prs_len (zs := zs) (i := i)
    rw [Nat.add_mul]
    omega
theorem prs_in {zs : List Str} {x : Str × Str} (h : x ∈ prsOf zs) : x.1 ∈ zs ∧ x.2 ∈ zs := by
  obtain ⟨j, k, _, _, h1, h2⟩ := prs_mem (Nat.le_refl _) h
  exact ⟨List.mem_of_getElem? h1, List.mem_of_getElem? h2⟩
theorem prs_bef {zs : List Str} (ord : zs.Pairwise Bef) {x : Str × Str} (h : x ∈ prsOf zs) : Bef x.1 x.2 := by
  obtain ⟨j, k, _, jk, h1, h2⟩ := prs_mem (Nat.le_refl _) h
  obtain ⟨hj, e1⟩ := List.getElem?_eq_some_iff.mp h1
  obtain ⟨hk, e2⟩ := List.getElem?_eq_some_iff.mp h2
  rw [← e1, ← e2]
  exact List.pairwise_iff_getElem.mp ord j k hj hk jk
theorem prs_all {zs : List Str} {j k : Nat} {x y : Str} (jk : j < k) (h1 : zs[j]? = some x) (h2 : zs[k]? = some y) : ∀ {i : Nat}, j < i → (x, y) ∈ prsTo zs i
  | i + 1, h => by
    refine List.mem_append.mpr ?_
    by_cases e : j = i
    · subst e
      refine .inr (List.mem_map.mpr ⟨y, ?_, ?_⟩)
      · have q : (zs.drop (j + 1))[k - (j + 1)]? = some y := by
          rw [List.getElem?_drop, show j + 1 + (k - (j + 1)) = k by omega]
          exact h2
        exact List.mem_of_getElem? q
      · have : zs.getD j Str.empty = x := by simp [h1]
        rw [this]
    · exact .inl (prs_all jk h1 h2 (by omega))
/-- a list of new pairs at D -/
def AccPr (S : List Addr) (H1 : Hp) (D : Addr) (l : List (Str × Str)) (H : Hp) : Prop := KX S H1 H ∧ ∃ L : List Pr3, H D = some (.lst (refs L)) ∧ L.map (·.2) = l ∧ ∀ x ∈ L, PrAt H x
theorem AccPr.zero {S : List Addr} {H1 : Hp} {D : Addr} (hD : H1 D = none) : AccPr S H1 D [] (upd H1 D (.lst [])) := ⟨KX.new' hD, [], upd_same, rfl, fun x hx => nomatch hx⟩
theorem AccPr.new {S : List Addr} {H1 H : Hp} {D T : Addr} {l : List (Str × Str)} {o : HO} (h : AccPr S H1 D l H) (hT : H T = none) (hS : T ∉ S) : AccPr S H1 D l (upd H T o) := by
  obtain ⟨k, L, e1, e2, e3⟩ := h
  refine ⟨k.new (k.free hS hT), L, by rw [upd_ne (ne_of_none e1 hT)]; exact e1, e2, fun x hx => ?_⟩
  show upd H T o x.1 = _
  rw [upd_ne (ne_of_none (e3 x hx) hT)]
  exact e3 x hx
theorem AccPr.step {S : List Addr} {H1 H : Hp} {D t : Addr} {l : List (Str × Str)} {a b : Str} (h : AccPr S H1 D l H) (hD : H1 D = none) (ht : H t = none) (hS : t ∉ S) (few : l.length < 100000) :
    ∃ acc, upd H t (.tup [.str a, .str b]) D = some (.lst acc) ∧ acc.length < sizeLine ∧ AccPr S H1 D (l ++ [(a, b)]) (upd (upd H t (.tup [.str a, .str b])) D (.lst (acc ++ [.ref t]))) := by
  have h2 := h.new (o := .tup [.str a, .str b]) ht hS
  obtain ⟨k, L, e1, e2, e3⟩ := h2
  refine ⟨_, e1, ?_, k.new hD, L ++ [(t, a, b)], by rw [upd_same]; simp [refs], by rw [List.map_append, e2]; rfl, fun x hx => ?_⟩
  · rw [List.length_map, ← List.length_map (f := fun x : Pr3 => x.2), e2]
    exact Nat.lt_trans few (by rw [sizeLine_eq]; decide)
  · have keep : ∀ c ys, upd H t (.tup [.str a, .str b]) c = some (.tup ys) → c ≠ D := fun c ys q z => by
      rw [z, e1] at q
      cases q
    rcases List.mem_append.mp hx with z | z
    · show upd _ D _ x.1 = _
      rw [upd_ne (keep _ _ (e3 x z))]
      exact e3 x z
    · rw [List.mem_singleton.mp z]
      show upd _ D _ t = _
      rw [upd_ne (keep t _ upd_same), upd_same]
theorem cutV_drop {xs : List V} {k : Nat} : cutV xs (some (k : Int)) none = xs.drop k := by
  unfold cutV
  rw [HT.sIx_nat, HT.sIx_none]
  rcases Nat.le_total k xs.length with h | h
  · rw [Nat.min_eq_left h, List.take_of_length_le (by rw [List.length_drop]; omega)]
  · rw [Nat.min_eq_right h, List.drop_length, List.drop_of_length_le h]
    simp
end K14
set_option maxHeartbeats 2000000
/-! a rod's row, its product with the speeds -/
namespace K14
open PySem L2 RZ GxR
open PySem.Spec PyProof.Rows
def dot (xs ys : List Int) : Int := (List.zipWith (· * ·) xs ys).sum
theorem dot_zeros : ∀ (n : Nat) (ys : List Int), dot (List.replicate n 0) ys = 0
  | 0, ys => by simp [dot]
  | n + 1, [] => by simp [dot]
  | n + 1, y :: ys => by
    have := dot_zeros n ys
    simp only [dot] at this ⊢
    rw [List.replicate_succ, List.zipWith_cons_cons, List.sum_cons, this]
    omega
theorem dot_set : ∀ (xs ys : List Int) (i : Nat) (v : Int), i < xs.length → i < ys.length → dot (xs.set i v) ys = dot xs ys + (v - xs.getD i 0) * ys.getD i 0
  | x :: xs, y :: ys, 0, v, _, _ => by
    simp only [dot, List.set_cons_zero, List.zipWith_cons_cons, List.sum_cons, List.getD_cons_zero]
    rw [Int.sub_mul]
    omega
  | x :: xs, y :: ys, i + 1, v, h1, h2 => by
    have := dot_set xs ys i v (by simpa using h1) (by simpa using h2)
    simp only [dot] at this ⊢
    rw [List.set_cons_succ, List.zipWith_cons_cons, List.sum_cons, this, List.zipWith_cons_cons, List.sum_cons, List.getD_cons_succ, List.getD_cons_succ]
    omega
/-- the row so far: k places told -/
def rowTo (n len ia ib : Nat) (xa xb : List Int) : Nat → List Int
  | 0 => List.replicate (n * len) 0
  | k + 1 => ((rowTo n len ia ib xa xb k).set (ia * n + k) (xa.getD k 0 - xb.getD k 0)).set (ib * n + k) (xb.getD k 0 - xa.getD k 0)
section
variable {n len ia ib : Nat} {xa xb : List Int}
theorem rowTo_len : ∀ k, (rowTo n len ia ib xa xb k).length = n * len
  | 0 => List.length_replicate ..
  | k + 1 => by
    unfold rowTo
    rw [List.length_set, List.length_set, rowTo_len k]
theorem rowTo_zero {j : Nat} : ∀ k, (∀ at_, at_ < k → j ≠ ia * n + at_ ∧ j ≠ ib * n + at_) → (rowTo n len ia ib xa xb k).getD j 0 = 0
  | 0, _ => by
    unfold rowTo
    by_cases h : j < n * len
    · simp [h]
    · simp [h]
  | k + 1, h => by
    unfold rowTo
    have h0 := h k (Nat.lt_succ_self _)
    have := rowTo_zero (j := j) k fun a ha => h a (Nat.lt_succ_of_lt ha)
    rw [List.getD_eq_getElem?_getD] at this ⊢
    rw [List.getElem?_set_ne h0.2.symm, List.getElem?_set_ne h0.1.symm]
    exact this
theorem spot_lt {i k : Nat} (hi : i < len) (hk : k < n) : i * n + k < n * len := by
  have h1 : (i + 1) * n ≤ len * n := Nat.mul_le_mul_right n hi
  rw [Nat.add_mul, Nat.one_mul] at h1
  rw [Nat.mul_comm n len]
  omega
theorem spot_ne {i j k l : Nat} (h : i ≠ j) (hk : k < n) (hl : l < n) : i * n + k ≠ j * n + l := by
  intro e
  rcases Nat.lt_or_gt_of_ne h with q | q
  · have h1 : (i + 1) * n ≤ j * n := Nat.mul_le_mul_right n q
    rw [Nat.add_mul, Nat.one_mul] at h1
    omega
  · have h1 : (j + 1) * n ≤ i * n := Nat.mul_le_mul_right n q
    rw [Nat.add_mul, Nat.one_mul] at h1
    omega
/-- what a row gives with the speeds -/
theorem rowTo_dot (ne : ia ≠ ib) (ha : ia < len) (hb : ib < len) {flat : List Int} (hf : flat.length = n * len) : ∀ k, k ≤ n → dot (rowTo n len ia ib xa xb k) flat = ((List.range k).map fun j => (xa.getD j 0 - xb.getD j 0) * (flat.getD (ia * n + j) 0 - flat.getD (ib * n + j) 0)).sum
  | 0, _ => by
    unfold rowTo
    rw [dot_zeros]
    rfl
  | k + 1, hk => by
    have hk' : k < n := hk
    have pa := spot_lt (n := n) ha hk'
    have pb := spot_lt (n := n) hb hk'
    unfold rowTo
    rw [dot_set _ _ _ _ (by rw [List.length_set, rowTo_len]; exact pb) (by rw [hf]; exact pb), dot_set _ _ _ _ (by rw [rowTo_len]; exact pa) (by rw [hf]; exact pa), rowTo_dot ne ha hb hf k (Nat.le_of_lt hk')]
    have z1 : (rowTo n len ia ib xa xb k).getD (ia * n + k) 0 = 0 := rowTo_zero k fun a h => ⟨by omega, spot_ne ne hk' (by omega)⟩
    have z2 : ((rowTo n len ia ib xa xb k).set (ia * n + k) (xa.getD k 0 - xb.getD k 0)).getD (ib * n + k) 0 = 0 := by
      rw [List.getD_eq_getElem?_getD, List.getElem?_set_ne (spot_ne ne hk' hk')]
      have := rowTo_zero (n := n) (len := len) (ia := ia) (ib := ib) (xa := xa) (xb := xb) (j := ib * n + k) k fun a h => ⟨spot_ne ne.symm hk' (by omega), by omega⟩
      rw [List.getD_eq_getElem?_getD] at this
      exact this
    rw [z1, z2, List.range_succ, List.map_append, List.sum_append]
    simp only [List.map_cons, List.map_nil, List.sum_cons, List.sum_nil, Int.sub_zero, Int.add_zero]
    rw [Int.add_assoc]
    congr 1
    generalize xa.getD k 0 = a
    generalize xb.getD k 0 = b
    generalize flat.getD (ia * n + k) 0 = c
    generalize flat.getD (ib * n + k) 0 = d
    rw [show b - a = -(a - b) by omega, Int.neg_mul, Int.mul_sub]
    omega
theorem rowTo_low {B : Nat} (h0 : 0 < B) (hl : ∀ j, j < n → (xa.getD j 0 - xb.getD j 0).natAbs < B) : ∀ k, k ≤ n → ∀ v ∈ rowTo n len ia ib xa xb k, v.natAbs < B
  | 0, _, v, hv => by
    unfold rowTo at hv
    rw [(List.mem_replicate.mp hv).2]
    exact h0
  | k + 1, hk, v, hv => by
    unfold rowTo at hv
    rcases List.mem_or_eq_of_mem_set hv with hv | rfl
    · rcases List.mem_or_eq_of_mem_set hv with hv | rfl
      · exact rowTo_low h0 hl k (by omega) v hv
      · exact hl k hk
    · have := hl k hk
      omega
end
/-- the speeds in a row -/
def flatOf (zs : List Str) (q : Str → List Int) : List Int := (zs.map q).flatten
theorem flat_len {n : Nat} {q : Str → List Int} : ∀ {zs : List Str}, (∀ z ∈ zs, (q z).length = n) → (flatOf zs q).length = n * zs.length
  | [], _ => rfl
  | z :: zs, h => by
    have := flat_len (zs := zs) fun x hx => h x (List.mem_cons_of_mem _ hx)
    unfold flatOf at this ⊢
    rw [List.map_cons, List.flatten_cons, List.length_append, this, h z List.mem_cons_self, List.length_cons, Nat.mul_succ]
    omega
theorem flat_at {n : Nat} {q : Str → List Int} : ∀ {zs : List Str} {i k : Nat}, (∀ z ∈ zs, (q z).length = n) → (h : i < zs.length) → k < n → (flatOf zs q).getD (i * n + k) 0 = (q zs[i]).getD k 0
  | z :: zs, 0, k, h, _, hk => by
    have e := h z List.mem_cons_self
    unfold flatOf
    rw [List.map_cons, List.flatten_cons, Nat.zero_mul, Nat.zero_add, List.getD_eq_getElem?_getD, List.getElem?_append_left (by omega), ← List.getD_eq_getElem?_getD]
    rfl
  | z :: zs, i + 1, k, h, hi, hk => by
    have e := h z List.mem_cons_self
    have := flat_at (zs := zs) (i := i) (k := k) (fun x hx => h x (List.mem_cons_of_mem _ hx)) (by simpa using hi) hk
    unfold flatOf at this ⊢
    rw [List.map_cons, List.flatten_cons, List.getD_eq_getElem?_getD, List.getElem?_append_right (by rw [e, Nat.add_mul]; omega), e, show (i + 1) * n + k - n = i * n + k by rw [Nat.add_mul]; omega, ← List.getD_eq_getElem?_getD, this]
    rfl
/-- how fast the rod's square changes (half of it) -/
def paceAt (p q : Str → List Int) (x : Str × Str) : Int := (List.zipWith (· * ·) (List.zipWith (· - ·) (p x.1) (p x.2)) (List.zipWith (· - ·) (q x.1) (q x.2))).sum
theorem pace_eq {n : Nat} {p q : Str → List Int} {x : Str × Str} (h1 : (p x.1).length = n) (h2 : (p x.2).length = n) (h3 : (q x.1).length = n) (h4 : (q x.2).length = n) :
    paceAt p q x = ((List.range n).map fun j => ((p x.1).getD j 0 - (p x.2).getD j 0) * ((q x.1).getD j 0 - (q x.2).getD j 0)).sum := by
  unfold paceAt
  congr 1
  refine List.ext_getElem (by simp [h1, h2, h3, h4]) fun i g1 g2 => ?_
  have hi : i < n := by simpa using g2
  simp [h1, h2, h3, h4, hi]
/-- the row of a rod -/
def rowOf (n : Nat) (zs : List Str) (p : Str → List Int) (x : Str × Str) : List Int := rowTo n zs.length (zs.idxOf x.1) (zs.idxOf x.2) (p x.1) (p x.2) n
theorem row_pace {n : Nat} {zs : List Str} {p q : Str → List Int} {x : Str × Str} (hp : ∀ z ∈ zs, (p z).length = n) (hq : ∀ z ∈ zs, (q z).length = n) (h1 : x.1 ∈ zs) (h2 : x.2 ∈ zs) (ne : x.1 ≠ x.2) : dot (rowOf n zs p x) (flatOf zs q) = paceAt p q x := by
  have i1 := List.idxOf_lt_length_of_mem h1
  have i2 := List.idxOf_lt_length_of_mem h2
  have e1 : zs[zs.idxOf x.1] = x.1 := List.getElem_idxOf i1
  have e2 : zs[zs.idxOf x.2] = x.2 := List.getElem_idxOf i2
  have ni : zs.idxOf x.1 ≠ zs.idxOf x.2 := fun z => ne (by
    rw [← e1, ← e2]
    congr 1)
  unfold rowOf
  rw [rowTo_dot ni i1 i2 (flat_len hq) n (Nat.le_refl _), pace_eq (hp _ h1) (hp _ h2) (hq _ h1) (hq _ h2)]
  congr 1
  refine List.map_congr_left fun j hj => ?_
  have hj' : j < n := List.mem_range.mp hj
  rw [flat_at hq i1 hj', flat_at hq i2 hj', e1, e2]
end K14
set_option maxHeartbeats 2000000
/-! a motion -/
namespace K14
open PySem L2 RZ GxR
open PySem.Spec PyProof.Rows
abbrev st_rows_in : Stmt := top 40
theorem sc_rows_in : FnScope ["frame", "placing", "space", "spots", "found", "one", "other", "row", "at", "index", "pin", "here", "there"] ["frame", "placing"] (defScope st_rows_in) := ⟨rfl, rfl, rfl, by decide +kernel, rfl, by decide +kernel, by decide +kernel⟩
/-- the rows of the rods L at R -/
def RowsAt (n : Nat) (zs : List Str) (p : Str → List Int) (H : Hp) (R : List Addr) (L : List Pr3) : Prop := R.length = L.length ∧ ∀ (i : Nat) (r : Addr) (x : Pr3), R[i]? = some r → L[i]? = some x → H r = some (.lst (iV (rowOf n zs p x.2)))
def spRows (C : Addr) : Sp := fun vs H Q _ => ∃ (f d : Addr) (zs ls : List Str) (L : List Pr3) (p : Str → List Int) (n : Nat), vs = [.ref f, .ref d] ∧ FrAt C H f zs L ∧ PlAt H d ls p ∧ ls.Perm zs ∧ zs.Nodup ∧ 1 ≤ zs.length ∧ zs.length ≤ 8 ∧ n < 64 ∧ (∀ z ∈ zs, (p z).length = n) ∧
  (∀ x ∈ L, x.2.1 ∈ zs ∧ x.2.2 ∈ zs) ∧ L.length < 1000 ∧ ∀ R F H', KX [] H H' → H' F = some (.lst (R.map V.ref)) → RowsAt n zs p H' R L → Q (.ref F) H'
theorem kd_one {a : Addr} {xs : List V} {H H' : Hp} (k : KX [a] H H') (h : H a = some (.lst xs)) : Kd H H' := k.kd fun x hx => ⟨.lst xs, by rw [List.mem_singleton.mp hx]; exact h, rfl⟩
theorem rowTo_succ {n len ia ib : Nat} {xa xb : List Int} {k : Nat} : rowTo n len ia ib xa xb (k + 1) = ((rowTo n len ia ib xa xb k).set (ia * n + k) (xa.getD k 0 - xb.getD k 0)).set (ib * n + k) (xb.getD k 0 - xa.getD k 0) := rfl
theorem ixN_nat {n j : Nat} (h : j < n) : ixN n (j : Int) = some j := by
  unfold ixN
  rw [if_pos (by omega), if_pos (by omega)]
  simp
/-- where the pins' places begin -/
abbrev spK (zs : List Str) (n i : Nat) : List (Key × V) := (List.range i).map fun j => (Sum.inr (zs.getD j Str.empty), V.int ((j * n : Nat) : Int))
theorem spK_get {zs : List Str} {n : Nat} (nd : zs.Nodup) {z : Str} (hz : z ∈ zs) : valV (spK zs n zs.length) (Sum.inr z) = some (.int ((zs.idxOf z * n : Nat) : Int)) := by
  have key : ∀ i, i ≤ zs.length → valV (spK zs n i) (Sum.inr z) = if zs.idxOf z < i then some (V.int ((zs.idxOf z * n : Nat) : Int)) else none := by
    intro i
    induction i with
    | zero => intro _; rfl
    | succ i ih =>
      intro hi
      have hi' : i < zs.length := hi
      have ih := ih (Nat.le_of_lt hi')
      have e : spK zs n (i + 1) = spK zs n i ++ [(Sum.inr (zs.getD i Str.empty), V.int ((i * n : Nat) : Int))] := by simp [spK, List.range_succ]
      have gi : zs.getD i Str.empty = zs[i] := by simp [hi']
      have iz := List.idxOf_lt_length_of_mem hz
      have ez : zs[zs.idxOf z] = z := List.getElem_idxOf iz
      rw [e]
      by_cases q : zs.idxOf z = i
      · have nn : valV (spK zs n i) (Sum.inr (zs.getD i Str.empty)) = none := by
          refine valV_none fun hm => ?_
          rw [List.map_map] at hm
          obtain ⟨j, hj, ej⟩ := List.mem_map.mp hm
          have hj' := List.mem_range.mp hj
          have e2 : (Sum.inr (zs.getD j Str.empty) : Key) = Sum.inr (zs.getD i Str.empty) := ej
          injection e2 with e2
          have gj : zs.getD j Str.empty = zs[j] := by simp [Nat.lt_trans hj' hi']
          rw [gi, gj] at e2
          exact List.pairwise_iff_getElem.mp nd j i (by omega) hi' hj' e2
        rw [valV_snoc _ _ _ _ nn, if_pos (by rw [gi]; subst q; rw [ez]), if_pos (by omega), q]
      · by_cases nn : valV (spK zs n i) (Sum.inr (zs.getD i Str.empty)) = none
        · rw [valV_snoc _ _ _ _ nn, if_neg, ih]
          · by_cases q2 : zs.idxOf z < i
            · rw [if_pos q2, if_pos (by omega)]
            · rw [if_neg q2, if_neg (by omega)]
          · intro z2
            injection z2 with z2
            rw [gi, ← ez] at z2
            rcases Nat.lt_or_gt_of_ne q with c | c
            · exact List.pairwise_iff_getElem.mp nd _ _ iz hi' c z2
            · exact List.pairwise_iff_getElem.mp nd _ _ hi' iz c z2.symm
        · exfalso
          refine nn (valV_none fun hm => ?_)
          rw [List.map_map] at hm
          obtain ⟨j, hj, ej⟩ := List.mem_map.mp hm
          have hj' := List.mem_range.mp hj
          have e2 : (Sum.inr (zs.getD j Str.empty) : Key) = Sum.inr (zs.getD i Str.empty) := ej
          injection e2 with e2
          have gj : zs.getD j Str.empty = zs[j] := by simp [Nat.lt_trans hj' hi']
          rw [gi, gj] at e2
          exact List.pairwise_iff_getElem.mp nd j i (by omega) hi' hj' e2
  rw [key zs.length (Nat.le_refl _), if_pos (List.idxOf_lt_length_of_mem hz)]
theorem spK_new {zs : List Str} {n i : Nat} (nd : zs.Nodup) (hi : i < zs.length) : valV (spK zs n i) (Sum.inr zs[i]) = none := by
  refine valV_none fun hm => ?_
  rw [List.map_map] at hm
  obtain ⟨j, hj, ej⟩ := List.mem_map.mp hm
  have hj' := List.mem_range.mp hj
  have e2 : (Sum.inr (zs.getD j Str.empty) : Key) = Sum.inr zs[i] := ej
  injection e2 with e2
  have gj : zs.getD j Str.empty = zs[j] := by simp [Nat.lt_trans hj' hi]
  rw [gj] at e2
  exact List.pairwise_iff_getElem.mp nd j i (by omega) hi hj' e2
theorem spK_succ {zs : List Str} {n i : Nat} (hi : i < zs.length) : spK zs n (i + 1) = spK zs n i ++ [(Sum.inr zs[i], V.int ((i * n : Nat) : Int))] := by simp [spK, List.range_succ, hi]
section
variable {P : Program} {w : World} {K : PySem.W.Frag} {mg : Str → Option Value} {base : Heap} {C Pt : Addr}
theorem ok_rows_in {f : Addr} {fd : FuncData} (F : Fun K "rows_in" "rows_in" st_rows_in f fd) (T : Txt mg C) (R : FrC K C) : FnOk P w K mg base CX0 1 f fd ["frame", "placing"] (spRows C) := by
  refine F.ok sc_rows_in (fun vs H Q E h => ?_) (fun cdv A outer s H vs Q E hr h => ?_)
  · obtain ⟨f, d, zs, ls, L, p, n, rfl, _⟩ := h
    rfl
  · obtain ⟨f, d, zs, ls, L, p, n, rfl, hf, hd, pl, nd, l1, l8, n64, hn, on, fewL, k⟩ := h
    have hu := hu_of hr
    refine ⟨_, (pss_cons (ps_set (i := 2) sc_rows_in.nd rfl (by first | exact Or.inl rfl | exact Or.inr rfl) (pe_callB (lenK K) (by rfl) T.len PySem.boot_len (pa_cons (pe_dget hu (pv 1) (pe_ix (ix_tupK K) (slK K (pv 0)) pe_int (fun _ _ => rfl)) (fun _ _ => rfl)) pa_nil)))
      (pss_cons (ps_setDc (i := 3) (own := [("index", 9), ("pin", 10)]) (g := (gTup K 2 (gCons (gName 9) (gCons (gName 10) gNil)))) (tt := tYes) rfl sc_rows_in.nd rfl rfl (swD_true rfl rfl rfl (by decide +kernel)) (piEnumT K T.enumerate (pa_cons (slK K (pv 0)) pa_nil)) (blkOk_by (N := ["frame", "placing", "space", "spots", "found", "one", "other", "row", "at", "index", "pin", "here", "there"]) (sc := defScope st_rows_in) (own := [("index", 9), ("pin", 10)]) (by decide +kernel)) (fun _ _ _ _ _ => (pg_tup rfl (pgs_cons (pg_name (i := 9) sc_rows_in.nd rfl (by first | exact Or.inl rfl | exact Or.inr rfl)) (pgs_cons (pg_name (i := 10) sc_rows_in.nd rfl (by first | exact Or.inl rfl | exact Or.inr rfl)) pgs_nil)))) (fun _ _ _ _ _ => pts_nil) (fun _ _ _ _ _ => (pv 10)) (fun _ _ _ _ _ => (pe_op op_mulW (pv 9) (pv 2))))
      (pss_cons (ps_set (i := 4) sc_rows_in.nd rfl (by first | exact Or.inl rfl | exact Or.inr rfl) (pe_lst pa_nil))
      (pss_cons (ps_for PassesOwn.never rfl (piT K (slK K (pv 0))) (pg_tup rfl (pgs_cons (pg_name (i := 5) sc_rows_in.nd rfl (by first | exact Or.inl rfl | exact Or.inr rfl)) (pgs_cons (pg_name (i := 6) sc_rows_in.nd rfl (by first | exact Or.inl rfl | exact Or.inr rfl)) pgs_nil)))
        (pss_cons (ps_set (i := 7) sc_rows_in.nd rfl (by first | exact Or.inl rfl | exact Or.inr rfl) (pe_op op_rep (pe_lst (pa_cons pe_int pa_nil)) (pe_op op_mulW (pv 2) (pe_callB call_lenD (by rfl) T.len PySem.boot_len (pa_cons (pv 3) pa_nil)))))
      (pss_cons (ps_for PassesOwn.never rfl (pi_enumZ (by rfl) T.enumerate (by rfl) T.zip (pa_cons (pe_dget hu (pv 1) (pv 5) (fun _ _ => rfl)) (pa_cons (pe_dget hu (pv 1) (pv 6) (fun _ _ => rfl)) pa_nil))) (pg_tup rfl (pgs_cons (pg_name (i := 8) sc_rows_in.nd rfl (by first | exact Or.inl rfl | exact Or.inr rfl)) (pgs_cons (pg_tup rfl (pgs_cons (pg_name (i := 11) sc_rows_in.nd rfl (by first | exact Or.inl rfl | exact Or.inr rfl)) (pgs_cons (pg_name (i := 12) sc_rows_in.nd rfl (by first | exact Or.inl rfl | exact Or.inr rfl)) pgs_nil))) pgs_nil)))
        (pss_cons (ps_asg (pe_op op_sub (pv 11) (pv 12)) (pg_sub (pv 7) (pe_op op_add (pe_dget hu (pv 3) (pv 5) (fun _ _ => rfl)) (pv 8)) set_list))
      (pss_one (ps_asg (pe_op op_sub (pv 12) (pv 11)) (pg_sub (pv 7) (pe_op op_add (pe_dget hu (pv 3) (pv 6) (fun _ _ => rfl)) (pv 8)) set_list)))))
      (pss_one (ps_expr (bmK K PySem.F.plainAttrs_list PySem.F.slot_list_append PySem.F.type_list_append mt_append (pv 4) (pa_cons (pv 7) pa_nil)))))))
      (pss_one (ps_ret (pv 4))))))), ?_⟩
    obtain ⟨dx, vs, tp, tr, hs, v1, v2, htp, htr, hL⟩ := hf
    obtain ⟨s1, hs1⟩ := R.pins
    obtain ⟨s2, hs2⟩ := R.rods
    have el : (sV zs).length = zs.length := List.length_map ..
    have z0 : zs[0]? = some zs[0] := List.getElem?_eq_getElem l1
    have m0 : zs[0] ∈ zs := List.getElem_mem l1
    obtain ⟨t0, g0, h0⟩ := hd.get (pl.mem_iff.mpr m0)
    have e0 : (iV (p zs[0])).length = n := by rw [List.length_map, hn _ m0]
    refine ⟨_, rfl, _, rfl, f, C, dx, s1, vs, 1, _, rfl, hs, R.cls, hs1, v1, tp, _, 0, .str zs[0], rfl, rfl, SqT.of htp, atI_nat (j := 0) (by rw [List.getElem?_map, z0]; rfl), d, _, rfl, g0, t0, _, rfl, .inr (SqT.of h0), ?_⟩
    rw [e0]
    -- spots
    refine ⟨_, rfl, f, C, dx, s1, vs, 1, _, rfl, hs, R.cls, hs1, v1, tp, _, rfl, SqT.of htp, fun S hS => any_it walk_enumT (fun i H' => KX [] H H' ∧ H' S = some (.dK (spK zs n i))) ⟨KX.new' hS, upd_same⟩ (fun i H' _ a => SqT.of (a.1.get0 htp)) (fun i v H0 H1 hi a y => ?_) fun H1 a => ?_⟩
    · obtain ⟨T1, u, v, rfl, hT1, rfl, e1, e2⟩ := y
      obtain rfl : V.int (i : Nat) = u := Option.some.inj e1
      obtain ⟨hi2, rfl⟩ := at_sV e2
      obtain ⟨k1, q1⟩ := a
      refine ⟨T1, _, rfl, SqT.of upd_same, rfl, _, _, rfl, _, _, rfl, rfl, rfl, yesT ⟨_, rfl, _, rfl, _, rfl, _, _, rfl, rfl, wide_mul (a := 64) (b := 64) (by omega) (by omega) (by decide) (by decide) (by decide), spK zs n i, Sum.inr zs[i], rfl, ?_, ?_, (k1.new (k1.free0 hT1)).new hS, ?_⟩⟩
      · rw [upd_ne (ne_of_none q1 hT1)]
        exact q1
      · rw [List.length_map, List.length_range]
        exact Nat.lt_trans (Nat.lt_of_lt_of_le hi2 l8) (by decide)
      · rw [upd_same, putK_new _ (spK_new nd hi2), spK_succ hi2]
        simp
    · rw [el] at a
      obtain ⟨k1, q1⟩ := a
      -- found
      refine ⟨Nat.zero_le _, fun F hF => ?_⟩
      have k2 : KX [] H (upd H1 F (.lst [])) := k1.new (k1.free0 hF)
      have q2 : upd H1 F (.lst []) S = some (.dK (spK zs n zs.length)) := by rw [upd_ne (ne_of_none q1 hF)]; exact q1
      have f2 : upd H1 F (.lst []) F = some (.lst []) := upd_same
      have oF := k1.free0 hF
      generalize upd H1 F (.lst []) = H2 at k2 q2 f2 ⊢
      have inF : F ∈ [F] := List.mem_cons_self
      have kd2 : ∀ {H' : Hp}, KX [F] H2 H' → Kd H2 H' := fun k' => kd_one k' f2
      refine ⟨_, rfl, f, C, dx, s2, vs, 2, _, rfl, Slt_kd hs k2.kd0, R.cls, hs2, v2, tr, rfl, ⟨_, SqT.of (k2.get0 htr)⟩,
        for_it walk_tup (fun i σ H' => (∃ v5 v6 v7 v8 v9 v10 v11 v12, σ = [some (.ref f), some (.ref d), some (.int n), some (.ref S), some (.ref F), v5, v6, v7, v8, v9, v10, v11, v12]) ∧ KX [F] H2 H' ∧ ∃ Rs : List Addr, H' F = some (.lst (Rs.map V.ref)) ∧ RowsAt n zs p H' Rs (L.take i) ∧ F ∉ Rs)
        ⟨⟨_, _, _, _, _, _, _, _, rfl⟩, KX.refl _ _, [], f2, ⟨by simp, fun i r x z => by simp at z⟩, by simp⟩ (fun i σ H' _ a => SqT.of ((kd2 a.2.1) _ _ (k2.get0 htr) rfl)) (fun i v σ H3 H4 hi a y => ?_) fun σ H3 a => ?_⟩
      · obtain ⟨rfl, hx⟩ := y
        obtain ⟨x, hx2, hm, rfl⟩ := mem_refs hx
        obtain ⟨⟨v5, v6, v7, v8, v9, v10, v11, v12, rfl⟩, k4, Rs, f4, rs, nF⟩ := a
        have kd4 := k2.kd0.trans (kd2 k4)
        have px : H4 x.1 = some (.tup [.str x.2.1, .str x.2.2]) := kd4 _ _ (hL x hm) rfl
        have q4 : H4 S = some (.dK (spK zs n zs.length)) := (kd2 k4) _ _ q2 rfl
        refine ⟨x.1, _, rfl, SqT.of px, rfl, _, _, rfl, _, _, rfl, rfl, ?_⟩
        refine ⟨by show 1 ≤ sizeLine; decide, fun Z hZ => ?_⟩
        have q5 : upd H4 Z (.lst [.int 0]) S = some (.dK (spK zs n zs.length)) := by rw [upd_ne (ne_of_none q4 hZ)]; exact q4
        have lsp : (spK zs n zs.length).length = zs.length := by rw [List.length_map, List.length_range]
        refine ⟨_, rfl, _, rfl, S, _, rfl, q5, _, _, rfl, rfl, wide_mul (a := 64) (b := 64) (by omega) (by rw [lsp]; omega) (by decide) (by decide) (by decide), ?_⟩
        have pw : ((n : Int) * ((spK zs n zs.length).length : Int)) = ((n * zs.length : Nat) : Int) := by
          rw [lsp]
          simp
        have nl : n * zs.length ≤ 64 * 8 := Nat.mul_le_mul (by omega) l8
        refine ⟨Z, ((n * zs.length : Nat) : Int), _, rfl, congrArg V.int pw, upd_same, by omega, by omega, by rw [Int.toNat_natCast, sizeLine_eq]; show 1 * (n * zs.length) ≤ _; omega, fun W hW => ?_⟩
        have eW : (List.replicate ((n * zs.length : Nat) : Int).toNat [V.int 0]).flatten = iV (rowTo n zs.length (zs.idxOf x.2.1) (zs.idxOf x.2.2) (p x.2.1) (p x.2.2) 0) := by
          rw [Int.toNat_natCast]
          unfold rowTo
          simp [iV]
        rw [eW]
        have hW4 : H4 W = none := (KX.new' (S := []) hZ).free0 hW
        have k5 : KX [] H4 (upd (upd H4 Z (.lst [.int 0])) W (.lst (iV (rowTo n zs.length (zs.idxOf x.2.1) (zs.idxOf x.2.2) (p x.2.1) (p x.2.2) 0)))) := (KX.new' hZ).new hW4
        have w5 : upd (upd H4 Z (.lst [.int 0])) W (.lst (iV (rowTo n zs.length (zs.idxOf x.2.1) (zs.idxOf x.2.2) (p x.2.1) (p x.2.2) 0))) W = _ := upd_same
        generalize upd (upd H4 Z (.lst [.int 0])) W (.lst (iV (rowTo n zs.length (zs.idxOf x.2.1) (zs.idxOf x.2.2) (p x.2.1) (p x.2.2) 0))) = H5 at k5 w5 ⊢
        have kd5 := kd4.trans k5.kd0
        have o1 := (on x hm).1
        have o2 := (on x hm).2
        obtain ⟨ta, ga, ha⟩ := (hd.kd kd5).get (pl.mem_iff.mpr o1)
        obtain ⟨tb, gb, hb⟩ := (hd.kd kd5).get (pl.mem_iff.mpr o2)
        have la : (iV (p x.2.1)).length = n := by rw [List.length_map, hn _ o1]
        have lb : (iV (p x.2.2)).length = n := by rw [List.length_map, hn _ o2]
        have ia := List.idxOf_lt_length_of_mem o1
        have ib := List.idxOf_lt_length_of_mem o2
        have kdW : ∀ {H' : Hp}, KX [W] H5 H' → Kd H5 H' := fun k' => kd_one k' w5
        have inW : W ∈ [W] := List.mem_cons_self
        refine ⟨_, rfl, _, rfl, d, _, rfl, ga, _, rfl, _, rfl, d, _, rfl, gb, ta, tb, _, _, rfl, SqT.of ha, SqT.of hb,
          for_it (walk_enumZ (by rw [la, lb])) (fun j σ H' => (∃ v8 v11 v12, σ = [some (.ref f), some (.ref d), some (.int n), some (.ref S), some (.ref F), some (.str x.2.1), some (.str x.2.2), some (.ref W), v8, v9, v10, v11, v12]) ∧ KX [W] H5 H' ∧ H' W = some (.lst (iV (rowTo n zs.length (zs.idxOf x.2.1) (zs.idxOf x.2.2) (p x.2.1) (p x.2.2) j))))
          ⟨⟨_, _, _, rfl⟩, KX.refl _ _, w5⟩ (fun j σ H' _ b => ⟨SqT.of ((kdW b.2.1) _ _ ha rfl), SqT.of ((kdW b.2.1) _ _ hb rfl)⟩) (fun j v σ H6 H7 hj b y => ?_) fun σ H6 b => ?_⟩
        · obtain ⟨⟨v8', v11', v12', rfl⟩, k6, w6⟩ := b
          obtain ⟨T1, T2, u, v, rfl, hT1, hT2, n12, rfl, e1, e2⟩ := y
          obtain ⟨rfl, j1⟩ := iV_at e1
          obtain ⟨rfl, j2⟩ := iV_at e2
          have jn : j < n := by rw [← hn _ o1]; exact j1
          have g1 : upd (upd H6 T1 (.tup [.int ((p x.2.1).getD j 0), .int ((p x.2.2).getD j 0)])) T2 (.tup [.int (j : Nat), .ref T1]) T1 = some (.tup [.int ((p x.2.1).getD j 0), .int ((p x.2.2).getD j 0)]) := by rw [upd_ne n12, upd_same]
          have hT2' : upd H6 T1 (.tup [.int ((p x.2.1).getD j 0), .int ((p x.2.2).getD j 0)]) T2 = none := by rw [upd_ne n12.symm]; exact hT2
          have k7 : KX [] H6 (upd (upd H6 T1 (.tup [.int ((p x.2.1).getD j 0), .int ((p x.2.2).getD j 0)])) T2 (.tup [.int (j : Nat), .ref T1])) := (KX.new' hT1).new hT2
          refine ⟨T2, _, rfl, SqT.of upd_same, rfl, _, _, rfl, _, _, rfl, T1, _, rfl, SqT.of g1, rfl, _, _, rfl, _, _, rfl, rfl, rfl, ?_⟩
          have w7 := k7.get0 w6
          generalize upd (upd H6 T1 (.tup [.int ((p x.2.1).getD j 0), .int ((p x.2.2).getD j 0)])) T2 (.tup [.int (j : Nat), .ref T1]) = H7 at k7 w7 ⊢
          have kd7 : Kd H2 H7 := (kd2 k4).trans (k5.kd0.trans ((kdW k6).trans k7.kd0))
          have q7 : H7 S = some (.dK (spK zs n zs.length)) := kd7 _ _ q2 rfl
          have ga7 : DGet H7 S (.str x.2.1) (some (.int ((zs.idxOf x.2.1 * n : Nat) : Int))) := by
            have q := DGet.k (k := Sum.inr x.2.1) q7
            rwa [spK_get nd o1] at q
          have pa := spot_lt (n := n) ia jn
          have pb := spot_lt (n := n) ib jn
          have ca : ((zs.idxOf x.2.1 * n : Nat) : Int) + ((j : Nat) : Int) = ((zs.idxOf x.2.1 * n + j : Nat) : Int) := by simp
          have cb : ((zs.idxOf x.2.2 * n : Nat) : Int) + ((j : Nat) : Int) = ((zs.idxOf x.2.2 * n + j : Nat) : Int) := by simp
          have rl : ∀ i, (iV (rowTo n zs.length (zs.idxOf x.2.1) (zs.idxOf x.2.2) (p x.2.1) (p x.2.2) i)).length = n * zs.length := fun i => by rw [List.length_map, rowTo_len]
          refine ⟨_, rfl, _, rfl, _, _, rfl, rfl, _, rfl, _, rfl, _, rfl, S, _, rfl, ga7, _, rfl, _, _, rfl, rfl, W, _, _, zs.idxOf x.2.1 * n + j, rfl, rfl, w7, ?_, ?_⟩
          · rw [ca, rl]
            exact ixN_nat pa
          have hW8 : upd H7 W (.lst ((iV (rowTo n zs.length (zs.idxOf x.2.1) (zs.idxOf x.2.2) (p x.2.1) (p x.2.2) j)).set (zs.idxOf x.2.1 * n + j) (.int ((p x.2.1).getD j 0 - (p x.2.2).getD j 0)))) W = _ := upd_same
          have nSW : S ≠ W := fun z => by
            rw [z, w7] at q7
            cases q7
          have q8 : upd H7 W (.lst ((iV (rowTo n zs.length (zs.idxOf x.2.1) (zs.idxOf x.2.2) (p x.2.1) (p x.2.2) j)).set (zs.idxOf x.2.1 * n + j) (.int ((p x.2.1).getD j 0 - (p x.2.2).getD j 0)))) S = some (.dK (spK zs n zs.length)) := by rw [upd_ne nSW]; exact q7
          have gb8 : DGet (upd H7 W (.lst ((iV (rowTo n zs.length (zs.idxOf x.2.1) (zs.idxOf x.2.2) (p x.2.1) (p x.2.2) j)).set (zs.idxOf x.2.1 * n + j) (.int ((p x.2.1).getD j 0 - (p x.2.2).getD j 0))))) S (.str x.2.2) (some (.int ((zs.idxOf x.2.2 * n : Nat) : Int))) := by
            have q := DGet.k (k := Sum.inr x.2.2) q8
            rwa [spK_get nd o2] at q
          refine ⟨_, rfl, _, rfl, _, _, rfl, rfl, _, rfl, _, rfl, _, rfl, S, _, rfl, gb8, _, rfl, _, _, rfl, rfl, W, _, _, zs.idxOf x.2.2 * n + j, rfl, rfl, hW8, ?_, ⟨_, _, _, rfl⟩, ((k6.trans k7.of).put inW).put inW, ?_⟩
          · rw [cb, List.length_set, rl]
            exact ixN_nat pb
          · rw [upd_same]
            congr 2
            rw [rowTo_succ]
            simp only [iV, List.map_set]
        · obtain ⟨⟨v8', v11', v12', rfl⟩, k6, w6⟩ := b
          rw [la] at w6
          have nFW : F ≠ W := fun z => by
            rw [← z] at hW4
            rw [hW4] at f4
            cases f4
          have f6 : H6 F = some (.lst (Rs.map V.ref)) := k6 _ _ (fun z => nFW (List.mem_singleton.mp z)) (k5.get0 f4)
          refine ⟨_, rfl, .inl ⟨rfl, _, SqL.of f6⟩, _, rfl, F, _, _, rfl, rfl, f6, ?_, ⟨_, _, _, _, _, _, _, _, rfl⟩, ?_, Rs ++ [W], ?_, ⟨?_, fun i' r x' er ex => ?_⟩, ?_⟩
          · rw [List.length_map, rs.1, List.length_take]
            exact Nat.lt_of_le_of_lt (Nat.min_le_right _ _) (Nat.lt_trans fewL (by decide))
          · have k46 : KX [F] H2 H6 := fun a o ha e => by
              have e4 := k5.get0 (k4 a o ha e)
              exact k6 a o (fun z => by
                rw [List.mem_singleton.mp z] at e
                have e5 := k4 W o (fun z => nFW (List.mem_singleton.mp z).symm) e
                rw [hW4] at e5
                cases e5) e4
            exact k46.put inF
          · rw [upd_same]
            simp
          · rw [List.length_append, rs.1, take_one (List.getElem?_eq_some_iff.mp hx2).1, List.length_append]
            rfl
          · have hiL := (List.getElem?_eq_some_iff.mp hx2).1
            have lenR : Rs.length = i := by
              rw [rs.1, List.length_take]
              omega
            by_cases q : i' < Rs.length
            · rw [List.getElem?_append_left q] at er
              rw [take_one hiL, List.getElem?_append_left (by rw [← rs.1]; exact q)] at ex
              have r4 := rs.2 i' r x' er ex
              have nr : r ≠ F := fun z => nF (z ▸ List.mem_of_getElem? er)
              have nrW : r ≠ W := fun z => by
                rw [z, hW4] at r4
                cases r4
              rw [upd_ne nr]
              exact k6 _ _ (fun z => nrW (List.mem_singleton.mp z)) (k5.get0 r4)
            · have q2 : i' = Rs.length := by
                have := (List.getElem?_eq_some_iff.mp er).1
                rw [List.length_append] at this
                have h1 : ([W] : List Addr).length = 1 := rfl
                omega
              subst q2
              rw [List.getElem?_append_right (Nat.le_refl _), Nat.sub_self] at er
              obtain rfl : W = r := Option.some.inj er
              rw [take_one hiL, List.getElem?_append_right (by rw [← rs.1]; exact Nat.le_refl _), rs.1, Nat.sub_self] at ex
              obtain rfl : L[i] = x' := Option.some.inj ex
              have ex3 : L[i] = x := by
                rw [List.getElem?_eq_getElem hiL] at hx2
                exact Option.some.inj hx2
              rw [upd_ne nFW.symm, ex3]
              exact w6
          · intro z
            rcases List.mem_append.mp z with z | z
            · exact nF z
            · exact nFW (List.mem_singleton.mp z)
      · obtain ⟨⟨v5, v6, v7, v8, v9, v10, v11, v12, rfl⟩, k4, Rs, f4, rs, nF⟩ := a
        rw [show (refs L).length = L.length from List.length_map .., List.take_length] at rs
        refine ⟨_, rfl, k Rs F H3 (fun a o _ e => ?_) f4 rs⟩
        exact k4 a o (fun z => by
          rw [List.mem_singleton.mp z, k1.free0 hF] at e
          cases e) (k2.get0 e)
end
end K14
set_option maxHeartbeats 2000000
/-! a motion -/
namespace K14
open PySem L2 RZ GxR
open PySem.Spec PyProof.Rows
abbrev st_is_motion : Stmt := top 42
theorem sc_is_motion : FnScope ["frame", "placing", "value", "space", "flat", "pin", "number", "row", "one", "other"] ["frame", "placing", "value"] (defScope st_is_motion) := ⟨rfl, rfl, rfl, by decide +kernel, rfl, by decide +kernel, by decide +kernel⟩
def spMotion (C Pt : Addr) : Sp := fun vs H Q _ => ∃ (f d e : Addr) (zs ls ms : List Str) (L : List Pr3) (p q : Str → List Int) (n : Nat), vs = [.ref f, .ref d, .ref e] ∧ FrAt C H f zs L ∧ PlAt H d ls p ∧ PlAt H e ms q ∧ ls.Perm zs ∧ ms.Perm zs ∧ zs.Nodup ∧ 1 ≤ zs.length ∧ zs.length ≤ 8 ∧ SpotsOk zs p n ∧ SpotsOk zs q n ∧
  (∀ x ∈ L, x.2.1 ∈ zs ∧ x.2.2 ∈ zs ∧ x.2.1 ≠ x.2.2) ∧ L.length < 1000 ∧ TabG H Pt ∧ ∀ H', KX [Pt] H H' → TabG H' Pt → Q (.bl (decide (∀ x ∈ L, paceAt p q x.2 = 0))) H'
theorem flat_snoc {l : List Str} {z : Str} {q : Str → List Int} : flatOf (l ++ [z]) q = flatOf l q ++ q z := by
  unfold flatOf
  rw [List.map_append, List.flatten_append]
  simp
section
variable {P : Program} {w : World} {K : PySem.W.Frag} {mg : Str → Option Value} {base : Heap} {C Pt : Addr}
theorem ok_is_motion {f : Addr} {fd : FuncData} (F : Fun K "is_motion" "is_motion" st_is_motion f fd) (T : Txt mg C) (R : FrC K C) (d_require_frame : Def P w K mg base "require_frame" 1 ["value"] (spReq C)) (d_require_placing : Def P w K mg base "require_placing" 9 ["frame", "value"] (spSpaceIn C Pt))
    (d_are_speeds : Def P w K mg base "are_speeds" 4 ["pins", "space", "value"] (spSpeeds K)) (d_rows_in : Def P w K mg base "rows_in" 1 ["frame", "placing"] (spRows C)) : FnOk P w K mg base CX0 10 f fd ["frame", "placing", "value"] (spMotion C Pt) := by
  refine F.ok sc_is_motion (fun vs H Q E h => ?_) (fun cdv A outer s H vs Q E hr h => ?_)
  · obtain ⟨f, d, e, zs, ls, ms, L, p, q, n, rfl, _⟩ := h
    rfl
  · obtain ⟨f, d, e, zs, ls, ms, L, p, q, n, rfl, hf, hd, he, pl, pm, nd, l1, l8, okp, okq, on, fewL, hT, k⟩ := h
    have hu := hu_of hr
    refine ⟨_, (pss_cons (ps_expr (pe_def d_require_frame hr (pa_cons (pv 0) pa_nil)))
      (pss_cons (ps_set (i := 3) sc_is_motion.nd rfl (by first | exact Or.inl rfl | exact Or.inr rfl) (pe_def d_require_placing hr (pa_cons (pv 0) (pa_cons (pv 1) pa_nil))))
      (pss_cons (ps_if (pt_not (pt_val (pe_def d_are_speeds hr (pa_cons (slK K (pv 0)) (pa_cons (pv 3) (pa_cons (pv 2) pa_nil)))))) (pss_one (ps_ret pe_bl)) pss_nil)
      (pss_cons (ps_set (i := 4) sc_is_motion.nd rfl (by first | exact Or.inl rfl | exact Or.inr rfl) (pe_lc2 (own := [("pin", 5), ("number", 6)]) (vs1 := [6]) (g := (gName 5)) (g1 := (gName 6)) (tt := tYes) (tt1 := tYes) rfl sc_is_motion.nd (piT K (slK K (pv 0))) (blkOk_by (N := ["frame", "placing", "value", "space", "flat", "pin", "number", "row", "one", "other"]) (sc := defScope st_is_motion) (own := [("pin", 5), ("number", 6)]) (by decide +kernel)) (by decide) (fun _ _ _ _ _ => (pg_name (i := 5) sc_is_motion.nd rfl (by first | exact Or.inl rfl | exact Or.inr rfl))) (fun _ _ _ _ _ => pts_nil) (fun _ _ _ _ _ => (piT K (pe_dget hu (pv 2) (pv 5) (fun _ _ => rfl)))) (fun _ _ _ _ _ => (pg_name (i := 6) sc_is_motion.nd rfl (by first | exact Or.inl rfl | exact Or.inr rfl))) (fun _ _ _ _ _ => pts_nil) (fun _ _ _ _ _ => (pv 6))))
      (pss_one (ps_ret (pe_callB (allK K) (by rfl) T.all (by decide +kernel) (pa_cons (pe_lc (own := [("row", 7)]) (g := (gName 7)) (tt := tYes) rfl sc_is_motion.nd (piL K (pe_def d_rows_in hr (pa_cons (pv 0) (pa_cons (pv 1) pa_nil)))) (blkOk_by (N := ["frame", "placing", "value", "space", "flat", "pin", "number", "row", "one", "other"]) (sc := defScope st_is_motion) (own := [("row", 7)]) (by decide +kernel)) (fun _ _ _ _ _ => (pg_name (i := 7) sc_is_motion.nd rfl (by first | exact Or.inl rfl | exact Or.inr rfl))) (fun _ _ _ _ _ => pts_nil) (fun _ _ _ _ _ => (pe_cmpR op_eq (pe_callB (sumK K) (by rfl) T.sum (by decide +kernel) (pa_cons (pe_lc (own := [("one", 8), ("other", 9)]) (g := (gTup K 2 (gCons (gName 8) (gCons (gName 9) gNil)))) (tt := tYes) rfl sc_is_motion.nd (piZip K T.zip (pa_cons (pv 7) (pa_cons (pv 4) pa_nil))) (blkOk_by (N := ["frame", "placing", "value", "space", "flat", "pin", "number", "row", "one", "other"]) (own := [("one", 8), ("other", 9)]) (by with_unfolding_all rfl)) (fun _ _ _ _ _ => (pg_tup rfl (pgs_cons (pg_name (i := 8) sc_is_motion.nd rfl (by first | exact Or.inl rfl | exact Or.inr rfl)) (pgs_cons (pg_name (i := 9) sc_is_motion.nd rfl (by first | exact Or.inl rfl | exact Or.inr rfl)) pgs_nil)))) (fun _ _ _ _ _ => pts_nil) (fun _ _ _ _ _ => (pe_op op_mulW (pv 8) (pv 9)))) pa_nil)) pe_int (nomark _)))) pa_nil)))))))), ?_⟩
    have el : (sV zs).length = zs.length := List.length_map ..
    have n2 : n < 64 := by rcases okp.two with e | e <;> omega
    refine ⟨_, rfl, f, zs, L, rfl, hf, ?_⟩
    refine ⟨_, rfl, _, rfl, f, d, zs, L, ls, p, n, rfl, hf, hd, pl, l1, by omega, okp, hT, fun H1 k1 t1 => ?_⟩
    have kd1 := tab_kd hT k1
    obtain ⟨dx, vs, tp, tr, hs, v1, v2, htp, htr, hL⟩ := id (hf.kd kd1)
    obtain ⟨s1, hs1⟩ := R.pins
    refine ⟨_, rfl, f, C, dx, s1, vs, 1, _, rfl, hs, R.cls, hs1, v1, _, rfl, _, rfl, tp, e, zs, ms, q, n, rfl, .inr (SqT.of htp), he.kd kd1, pm, by omega, okq, fun H2 k2 => ⟨true, rfl, iteF ?_⟩⟩
    have htp2 := k2.get0 htp
    have he2 := he.kd (kd1.trans k2.kd0)
    refine ⟨_, rfl, f, C, dx, s1, vs, 1, _, rfl, Slt_kd hs k2.kd0, R.cls, hs1, v1, tp, rfl, ⟨_, SqT.of htp2⟩, fun D hD => any_it walk_tup (fun i H' => KX [] H2 H' ∧ H' D = some (.lst (iV (flatOf (zs.take i) q)))) ⟨KX.new' hD, upd_same⟩ (fun i H' _ a => SqT.of (a.1.get0 htp2)) (fun i v H0 H3 hi a y => ?_) fun H3 a => ?_⟩
    · obtain ⟨rfl, hx⟩ := y
      obtain ⟨hi2, rfl⟩ := at_sV hx
      have hm : zs[i] ∈ zs := List.getElem_mem hi2
      obtain ⟨t, g, ht⟩ := (he2.kx0 a.1).get (pm.mem_iff.mpr hm)
      have lq := okq.len _ hm
      have fl : (flatOf (zs.take i) q).length ≤ n * zs.length := by
        rw [flat_len (n := n) fun z hz => okq.len z (List.mem_of_mem_take hz), List.length_take]
        exact Nat.mul_le_mul_left n (Nat.min_le_right _ _)
      have nz : n * zs.length ≤ 64 * 8 := Nat.mul_le_mul (by omega) l8
      refine ⟨rfl, yesT ⟨_, rfl, _, rfl, e, _, rfl, g, t, rfl, ⟨_, SqT.of ht⟩, any_it walk_tup (fun j H' => KX [] H2 H' ∧ H' D = some (.lst (iV (flatOf (zs.take i) q ++ (q zs[i]).take j))) ∧ H' t = some (.tup (iV (q zs[i])))) ⟨a.1, by simpa using a.2, ht⟩ (fun j H' _ b => SqT.of b.2.2) (fun j v H4 H5 hj b y => ?_) fun H4 b => ?_⟩⟩
      · obtain ⟨rfl, hv⟩ := y
        obtain ⟨m, hm2, _, rfl⟩ := mem_iV hv
        obtain ⟨b1, b2, b3⟩ := b
        refine ⟨rfl, yesT ⟨_, rfl, _, b2, ?_, b1.new hD, ?_, ?_⟩⟩
        · rw [List.length_map, List.length_append, List.length_take]
          have : sizeLine = 16777216 := sizeLine_eq
          omega
        · rw [upd_same, List.take_succ, hm2]
          simp [iV]
        · rw [upd_ne (fun z => by rw [z, b2] at b3; cases b3)]
          exact b3
      · refine ⟨b.1, ?_⟩
        rw [b.2.1, List.length_map, List.take_length, take_one hi2, flat_snoc]
    · rw [el, List.take_length] at a
      obtain ⟨k3, f3⟩ := a
      have kd3 := kd1.trans (k2.trans k3).kd0
      refine ⟨_, rfl, _, rfl, f, d, zs, ls, L, p, n, rfl, hf.kd kd3, hd.kd kd3, pl, nd, l1, l8, n2, okp.len, fun x hx => ⟨(on x hx).1, (on x hx).2.1⟩, fewL, fun Rs F H4 k4 f4 rs => ⟨F, rfl, ⟨_, SqL.of f4⟩, fun D2 hD2 => any_it walk_list (AccF [] H4 D2 fun i => .bl (decide (paceAt p q (L.getD i (0, Str.empty, Str.empty)).2 = 0))) (AccF.zero hD2) (fun i H' _ a => SqL.of (a.1.get0 f4)) (fun i v H5 H6 hi a y => ?_) fun H5 a => ?_⟩⟩
      · obtain ⟨rfl, hx⟩ := y
        rw [List.length_map] at hi
        have hiL : i < L.length := by rw [← rs.1]; exact hi
        rw [List.getElem?_map, List.getElem?_eq_getElem hi] at hx
        obtain rfl : V.ref Rs[i] = v := Option.some.inj hx
        have row := rs.2 i Rs[i] L[i] (List.getElem?_eq_getElem hi) (List.getElem?_eq_getElem hiL)
        have row5 := a.1.get0 row
        have flat5 := (k4.trans a.1).get0 f3
        have hm : L[i] ∈ L := List.getElem_mem hiL
        obtain ⟨o1, o2, o3⟩ := on _ hm
        have rl : (rowOf n zs p L[i].2).length = n * zs.length := rowTo_len _
        have fl : (flatOf zs q).length = n * zs.length := flat_len okq.len
        have lows : ∀ v ∈ rowOf n zs p L[i].2, v.natAbs < 2 ^ 7000 := rowTo_low (by decide +kernel) (fun j hj => by
          have h1 : (p L[i].2.1).getD j 0 ∈ p L[i].2.1 := getD_mem (by rw [okp.len _ o1]; exact hj)
          have h2 : (p L[i].2.2).getD j 0 ∈ p L[i].2.2 := getD_mem (by rw [okp.len _ o2]; exact hj)
          exact sub_lt (low_lt (okp.low _ o1 _ h1)) (low_lt (okp.low _ o2 _ h2))) n (Nat.le_refl _)
        have flow : ∀ v ∈ flatOf zs q, v.natAbs < 2 ^ 6999 := fun v hv => by
          obtain ⟨l, hl, hv2⟩ := List.mem_flatten.mp hv
          obtain ⟨z, hz, rfl⟩ := List.mem_map.mp hl
          exact low_lt (okq.low z hz v hv2)
        refine ⟨rfl, yesT ⟨_, rfl, _, rfl, Rs[i], D, _, _, rfl, .inl ⟨SqL.of row5, SqL.of flat5, fun D3 hD3 => any_it (walk_zip (n := n * zs.length) (by simp only [List.length_map, rl, fl, Nat.min_self])) (AccF [] H6 D3 fun j => .int ((rowOf n zs p L[i].2).getD j 0 * (flatOf zs q).getD j 0)) (AccF.zero hD3)
          (fun j H' _ b => ⟨SqL.of (b.1.get0 row5), SqL.of (b.1.get0 flat5)⟩) (fun j v H7 H8 hj b y => ?_) fun H7 b => ?_⟩⟩⟩
        · obtain ⟨T1, u, v, rfl, hT1, rfl, e1, e2⟩ := y
          obtain ⟨rfl, j1⟩ := iV_at e1
          obtain ⟨rfl, j2⟩ := iV_at e2
          refine ⟨T1, _, rfl, SqT.of upd_same, rfl, _, _, rfl, _, _, rfl, rfl, rfl, yesT ⟨_, rfl, _, rfl, _, _, rfl, rfl, wide_mul (lows _ (getD_mem j1)) (flow _ (getD_mem j2)) (by decide) (by decide) (by decide), AccF.step hD3 (b.1.new (b.1.free0 hT1)) ?_ rfl ?_⟩⟩
          · rw [upd_ne (ne_of_none b.2 hT1)]
            exact b.2
          · have nz : n * zs.length ≤ 64 * 8 := Nat.mul_le_mul (by omega) l8
            omega
        · refine ⟨D3, (List.range (n * zs.length)).map fun j => (rowOf n zs p L[i].2).getD j 0 * (flatOf zs q).getD j 0, rfl, SqL.of (by rw [b.2, mapN_int]), rfl, AccF.step hD2 (a.1.trans b.1) (b.1.get0 a.2) ?_ (by omega)⟩
          have e1 : ((List.range (n * zs.length)).map fun j => (rowOf n zs p L[i].2).getD j 0 * (flatOf zs q).getD j 0).sum = paceAt p q L[i].2 := by
            rw [← row_pace okp.len okq.len o1 o2 o3, dot, ← rl, range_zip (fun a b => a * b) (by rw [rl, fl])]
          have e2 : L.getD i (0, Str.empty, Str.empty) = L[i] := by simp [hiL]
          rw [e2, ← e1]
          congr 1
          rw [Bool.eq_iff_iff, decide_eq_true_iff, decide_eq_true_iff]
          constructor
          · intro z
            injection z
          · intro z
            rw [z]
      · refine ⟨D2, (List.range L.length).map fun i => decide (paceAt p q (L.getD i (0, Str.empty, Str.empty)).2 = 0), rfl, SqL.of ?_, blE ?_ (k H5 (k1.trans (k2.trans (k3.trans (k4.trans a.1))).of) (tab_kx0 t1 (k2.trans (k3.trans (k4.trans a.1)))))⟩
        · rw [a.2, List.length_map, rs.1]
          simp [mapN]
        · rw [Bool.eq_iff_iff, decide_eq_true_iff, List.all_map, List.all_eq_true]
          constructor
          · intro h x hx
            obtain ⟨i, hi, rfl⟩ := List.getElem_of_mem hx
            have := h i (List.mem_range.mpr hi)
            simpa [hi] using this
          · intro h i hi
            have hi' := List.mem_range.mp hi
            have := h L[i] (List.getElem_mem hi')
            simpa [hi'] using this
end
end K14
set_option maxHeartbeats 2000000
/-! the law's bag and what is drawn of it -/
namespace K14
open PySem L2 RZ GxR
open PySem.Spec PyProof.Rows
abbrev st__law_bag : Stmt := top 45
theorem sc__law_bag : FnScope ["_law_script", "_law_at", "_law_cell", "_law_great", "_law_mixed"] ["_law_script", "_law_at"] (defScope st__law_bag) := ⟨rfl, rfl, rfl, by decide +kernel, rfl, by decide +kernel, by decide +kernel⟩
abbrev st__law_draw : Stmt := top 46
theorem sc__law_draw : FnScope ["_law_bag_here", "_law_total", "_law_one", "_law_two", "_law_found"] ["_law_bag_here", "_law_total"] (defScope st__law_draw) := ⟨rfl, rfl, rfl, by decide +kernel, rfl, by decide +kernel, by decide +kernel⟩
abbrev st__law_one_of : Stmt := top 47
theorem sc__law_one_of : FnScope ["_law_bag_here", "_law_items"] ["_law_bag_here", "_law_items"] (defScope st__law_one_of) := ⟨rfl, rfl, rfl, by decide +kernel, rfl, by decide +kernel, by decide +kernel⟩
abbrev st__law_shuffled : Stmt := top 48
theorem sc__law_shuffled : FnScope ["_law_bag_here", "_law_items", "_law_waits", "_law_turn"] ["_law_bag_here", "_law_items"] (defScope st__law_shuffled) := ⟨rfl, rfl, rfl, by decide +kernel, rfl, by decide +kernel, by decide +kernel⟩
theorem erase_perm {α : Type} : ∀ (l : List α) {i : Nat} (h : i < l.length), (l[i] :: l.eraseIdx i).Perm l
  | x :: l, 0, _ => List.Perm.refl _
  | x :: l, i + 1, h => (List.Perm.swap x _ _).trans ((erase_perm l (Nat.lt_of_succ_lt_succ h)).cons x)
def spBag (K : PySem.W.Frag) : Sp := fun vs H Q _ => ∃ (a : Addr) (ns : List Int) (i : Nat), vs = [.ref a, .int i] ∧ SqL K H a (iV ns) ∧ ns.length ≤ 63 ∧ i ≤ 3 ∧ ∀ b H', KX [] H H' → H b = none → Bag H' b → Q (.ref b) H'
def spDraw : Sp := fun vs H Q _ => ∃ (b : Addr) (t : Int), vs = [.ref b, .int t] ∧ Bag H b ∧ 1 ≤ t ∧ t < 1000000 ∧ ∀ (r : Nat) H', (r : Int) < t → KX [b] H H' → Bag H' b → Q (.int r) H'
def spOneOf : Sp := fun vs H Q _ => ∃ (b a : Addr) (ns : List Int), vs = [.ref b, .ref a] ∧ Bag H b ∧ H a = some (.lst (iV ns)) ∧ a ≠ b ∧ 1 ≤ ns.length ∧ ns.length < 1000 ∧ ∀ x H', x ∈ ns → KX [b] H H' → Bag H' b → Q (.int x) H'
def spShuf : Sp := fun vs H Q _ => ∃ (b a : Addr) (xs : List V), vs = [.ref b, .ref a] ∧ Bag H b ∧ H a = some (.lst xs) ∧ a ≠ b ∧ xs.length < 1000 ∧ ∀ ys D H', ys.Perm xs → KX [b] H H' → Bag H' b → H D = none → H' D = some (.lst ys) → Q (.ref D) H'
section
variable {P : Program} {w : World} {K : PySem.W.Frag} {mg : Str → Option Value} {base : Heap} {C Pt : Addr}
theorem ok_bag {f : Addr} {fd : FuncData} (F : Fun K "_law_bag" "_law_bag" st__law_bag f fd) (T : Txt mg C) : FnOk P w K mg base CX0 1 f fd ["_law_script", "_law_at"] (spBag K) := by
  refine F.ok sc__law_bag (fun vs H Q E h => ?_) (fun cdv A outer s H vs Q E hr h => ?_)
  · obtain ⟨a, ns, i, rfl, _⟩ := h
    rfl
  · obtain ⟨a, ns, i, rfl, ha, l63, i3, k⟩ := h
    refine ⟨_, (pss_cons (ps_set (i := 2) sc__law_bag.nd rfl (by first | exact Or.inl rfl | exact Or.inr rfl) (pe_ifExp (pt_cmpR op_lt (pv 1) (pe_callB (lenK K) (by rfl) T.len PySem.boot_len (pa_cons (pv 0) pa_nil)) (nomark _)) (pe_ix (ix_listK K) (pv 0) (pv 1) (fun _ _ => rfl)) (pe_op op_add (pe_op op_add (pe_callB (sumK K) (by rfl) T.sum (by decide +kernel) (pa_cons (pe_slice (sl_listK K) (pv 0) po_none (po_some pe_int)) pa_nil)) (pe_op op_mul pe_int (pv 1))) pe_int)))
      (pss_cons (ps_set (i := 3) sc__law_bag.nd rfl (by first | exact Or.inl rfl | exact Or.inr rfl) (pe_op op_mod (pe_callTy call_int1 (by rfl) T.int (by decide +kernel) (pa_cons (pe_callB call_abs (by rfl) T.abs (by decide +kernel) (pa_cons (pv 2) pa_nil)) pa_nil)) (pe_op op_powA (pe_op op_powA pe_int pe_int) pe_int)))
      (pss_cons (ps_set (i := 4) sc__law_bag.nd rfl (by first | exact Or.inl rfl | exact Or.inr rfl) (pe_op op_add (pe_op op_add (pe_op op_add (pe_op op_mul (pe_op op_mod (pe_callTy call_int1 (by rfl) T.int (by decide +kernel) (pa_cons (pv 3) pa_nil)) pe_int) pe_int) (pe_op op_mul pe_int (pv 1))) (pe_op op_mul pe_int (pe_callTy call_int1 (by rfl) T.int (by decide +kernel) (pa_cons (pe_cmpR op_lt (pv 2) pe_int (nomark _)) pa_nil)))) pe_int))
      (pss_one (ps_ret (pe_lst (pa_cons (pe_callB (call_max2 rfl) (by rfl) T.max (by decide +kernel) (pa_cons pe_int (pa_cons (pe_op op_sub (pv 3) (pe_op op_powA pe_int pe_int)) pa_nil))) (pa_cons (pe_op op_mod (pe_callTy call_int1 (by rfl) T.int (by decide +kernel) (pa_cons (pv 4) pa_nil)) pe_int) (pa_cons pe_int pa_nil))))))))), ?_⟩
    have big : (0 : Int) < (10 ^ 47) ^ 13 := by decide +kernel
    refine ⟨_, rfl, _, rfl, a, _, rfl, .inl ha, _, _, rfl, rfl, _, rfl, ite2 (fun h => ?_) (fun _ => ?_)⟩
    · have hi : i < ns.length := by
        have h1 := of_decide_eq_true h
        rw [List.length_map] at h1
        omega
      refine ⟨_, rfl, _, rfl, a, _, _, .int ns[i], rfl, rfl, ha, atI_nat (by rw [List.getElem?_map, List.getElem?_eq_getElem hi]; rfl), ?_⟩
      refine ⟨_, rfl, _, rfl, .inl ⟨_, rfl, _, _, rfl, rfl, ⟨by decide, by decide⟩, _, _, rfl, rfl, ⟨by decide, by decide +kernel⟩, _, _, rfl, rfl, big, ?_⟩⟩
      refine ⟨_, rfl, .inl ⟨_, rfl, _, _, rfl, rfl, (by show (0 : Int) < 2305843009213693669; decide), _, _, rfl, rfl, .inr ⟨by decide, by decide⟩, _, rfl, _, _, rfl, rfl, .inl ⟨by decide, by decide⟩, _, _, rfl, rfl, _, rfl, _, _, rfl, rfl, .inr ⟨_, rfl, _, _, rfl, rfl, .inl ⟨by decide, by decide⟩, _, _, rfl, rfl, _, _, rfl, rfl, ?_⟩⟩⟩
      refine ⟨_, rfl, _, _, rfl, rfl, ⟨by decide, by decide⟩, _, _, rfl, rfl, _, _, rfl, _, rfl, .inl ⟨_, rfl, _, _, rfl, rfl, (by show (0 : Int) < 2305843009213693951; decide), (by show 3 ≤ sizeLine; decide), fun l hl => ?_⟩⟩
      exact k l _ (KX.new' hl) hl ⟨_, _, _, upd_same⟩
    · refine ⟨_, rfl, _, rfl, a, _, rfl, ha, fun p hp => ⟨p, (ns.drop (HT.sIx (iV ns).length 0 none)).take (HT.sIx (iV ns).length (iV ns).length (some 1) - HT.sIx (iV ns).length 0 none), rfl, SqL.of (by rw [upd_same]; simp [cutV, iV, List.map_take, List.map_drop]), ?_⟩⟩
      refine ⟨_, rfl, _, _, rfl, rfl, .inl ⟨by decide, by decide⟩, _, _, rfl, rfl, _, _, rfl, rfl, ?_⟩
      refine ⟨_, rfl, _, rfl, .inl ⟨_, rfl, _, _, rfl, rfl, ⟨by decide, by decide⟩, _, _, rfl, rfl, ⟨by decide, by decide +kernel⟩, _, _, rfl, rfl, big, ?_⟩⟩
      refine ⟨_, rfl, .inl ⟨_, rfl, _, _, rfl, rfl, (by show (0 : Int) < 2305843009213693669; decide), _, _, rfl, rfl, .inr ⟨by decide, by decide⟩, _, rfl, _, _, rfl, rfl, .inl ⟨by decide, by decide⟩, _, _, rfl, rfl, _, rfl, _, _, rfl, rfl, .inr ⟨_, rfl, _, _, rfl, rfl, .inl ⟨by decide, by decide⟩, _, _, rfl, rfl, _, _, rfl, rfl, ?_⟩⟩⟩
      refine ⟨_, rfl, _, _, rfl, rfl, ⟨by decide, by decide⟩, _, _, rfl, rfl, _, _, rfl, _, rfl, .inl ⟨_, rfl, _, _, rfl, rfl, (by show (0 : Int) < 2305843009213693951; decide), (by show 3 ≤ sizeLine; decide), fun l hl => ?_⟩⟩
      have hl0 : H l = none := (KX.new' (S := []) hp).free0 hl
      exact k l _ ((KX.new' hp).new hl0) hl0 ⟨_, _, _, upd_same⟩
theorem ok_draw {f : Addr} {fd : FuncData} (F : Fun K "_law_draw" "_law_draw" st__law_draw f fd) (T : Txt mg C) : FnOk P w K mg base CX0 1 f fd ["_law_bag_here", "_law_total"] spDraw := by
  refine F.ok sc__law_draw (fun vs H Q E h => ?_) (fun cdv A outer s H vs Q E hr h => ?_)
  · obtain ⟨b, t, rfl, _⟩ := h
    rfl
  · obtain ⟨b, t, rfl, ⟨u, v, w', hb⟩, t1, t2, k⟩ := h
    refine ⟨_, (pss_cons (ps_if (pt_cmpR op_gt (pe_ix (ix_listK K) (pv 0) pe_int (fun _ _ => rfl)) pe_int (nomark _)) (pss_cons (ps_set (i := 4) sc__law_draw.nd rfl (by first | exact Or.inl rfl | exact Or.inr rfl) (pe_op op_mod (pe_callTy call_int1 (by rfl) T.int (by decide +kernel) (pa_cons (pe_ix (ix_listK K) (pv 0) pe_int (fun _ _ => rfl)) pa_nil)) (pv 1)))
      (pss_cons (ps_asg (pe_op op_fdiv (pe_ix (ix_listK K) (pv 0) pe_int (fun _ _ => rfl)) (pv 1)) (pg_sub (pv 0) pe_int set_list))
      (pss_one (ps_ret (pv 4))))) pss_nil)
      (pss_cons (ps_asg (pe_op op_add (pe_ix (ix_listK K) (pv 0) pe_int (fun _ _ => rfl)) pe_int) (pg_sub (pv 0) pe_int set_list))
      (pss_cons (ps_set (i := 2) sc__law_draw.nd rfl (by first | exact Or.inl rfl | exact Or.inr rfl) (pe_op op_mod (pe_callTy call_int1 (by rfl) T.int (by decide +kernel) (pa_cons (pe_op op_add (pe_ix (ix_listK K) (pv 0) pe_int (fun _ _ => rfl)) (pe_op op_mul pe_int (pe_ix (ix_listK K) (pv 0) pe_int (fun _ _ => rfl)))) pa_nil)) pe_int))
      (pss_cons (ps_set (i := 3) sc__law_draw.nd rfl (by first | exact Or.inl rfl | exact Or.inr rfl) (pe_op op_add (pe_op op_mul (pe_op op_mod (pe_callTy call_int1 (by rfl) T.int (by decide +kernel) (pa_cons (pe_op op_mul (pv 2) (pv 2)) pa_nil)) pe_int) (pv 2)) (pe_op op_mul pe_int (pe_ix (ix_listK K) (pv 0) pe_int (fun _ _ => rfl)))))
      (pss_one (ps_ret (pe_op op_mod (pe_callTy call_int1 (by rfl) T.int (by decide +kernel) (pa_cons (pe_op op_fdiv (pe_op op_mod (pe_callTy call_int1 (by rfl) T.int (by decide +kernel) (pa_cons (pv 3) pa_nil)) pe_int) pe_int) pa_nil)) (pv 1)))))))), ?_⟩
    have tp : (0 : Int) < t := by omega
    have inb : b ∈ [b] := List.mem_cons_self
    have fin : ∀ (v : Int) H', KX [b] H H' → Bag H' b → Q (.int (v % t)) H' := fun v H' h1 h2 => by
      have e1 := Int.emod_nonneg v (show t ≠ 0 by omega)
      have e2 := Int.emod_lt_of_pos v tp
      exact inE (show v % t = (((v % t).toNat : Nat) : Int) by omega) (k _ H' (by omega) h1 h2)
    refine ⟨_, rfl, b, _, 0, _, rfl, rfl, SqL.of hb, rfl, _, _, rfl, rfl, _, rfl, ite2 (fun _ => ?_) (fun _ => ?_)⟩
    · refine ⟨_, rfl, b, _, 0, _, rfl, rfl, SqL.of hb, rfl, .inl ⟨_, rfl, _, rfl, _, _, rfl, rfl, tp, ?_⟩⟩
      refine ⟨_, rfl, b, _, 0, _, rfl, rfl, SqL.of hb, rfl, _, rfl, _, _, rfl, rfl, ⟨tp, by omega⟩, _, rfl, b, _, _, 0, rfl, rfl, hb, rfl, _, rfl, ?_⟩
      exact fin _ _ ((KX.refl _ _).put inb) ⟨_, _, _, upd_same⟩
    · refine ⟨_, rfl, b, _, 2, _, rfl, rfl, SqL.of hb, rfl, _, _, rfl, rfl, _, rfl, b, _, _, 2, rfl, rfl, hb, rfl, ?_⟩
      have hb2 : upd H b (.lst ([V.int u, .int v, .int w'].set 2 (.int (w' + 1)))) b = some (.lst [.int u, .int v, .int (w' + 1)]) := upd_same
      have kb : KX [b] H (upd H b (.lst ([V.int u, .int v, .int w'].set 2 (.int (w' + 1))))) := (KX.refl _ _).put inb
      generalize upd H b (.lst ([V.int u, .int v, .int w'].set 2 (.int (w' + 1)))) = H2 at hb2 kb ⊢
      have b1 : 0 ≤ (v + 1048613 * (w' + 1)) % 2305843009213693951 := Int.emod_nonneg _ (by decide)
      have b2 : (v + 1048613 * (w' + 1)) % 2305843009213693951 < 2305843009213693951 := Int.emod_lt_of_pos _ (by decide)
      refine ⟨_, rfl, b, _, 1, _, rfl, rfl, SqL.of hb2, rfl, _, rfl, b, _, 2, _, rfl, rfl, SqL.of hb2, rfl, _, _, rfl, rfl, .inl ⟨by decide, by decide⟩, _, _, rfl, rfl, .inl ⟨_, rfl, _, _, rfl, rfl, (by show (0 : Int) < 2305843009213693951; decide), ?_⟩⟩
      refine ⟨_, rfl, _, rfl, _, _, rfl, rfl, .inl ⟨by omega, by omega⟩, .inl ⟨_, rfl, _, _, rfl, rfl, (by show (0 : Int) < 2305843009213693669; decide), _, rfl, _, _, rfl, rfl, .inr ⟨by omega, by omega⟩, _, rfl, b, _, 2, _, rfl, rfl, SqL.of hb2, rfl, _, _, rfl, rfl, .inl ⟨by decide, by decide⟩, _, _, rfl, rfl, ?_⟩⟩
      refine ⟨_, rfl, .inl ⟨_, rfl, _, _, rfl, rfl, (by show (0 : Int) < 2305843009213693921; decide), _, _, rfl, rfl, ⟨by decide, by decide⟩, .inl ⟨_, rfl, _, rfl, _, _, rfl, rfl, tp, ?_⟩⟩⟩
      exact fin _ _ kb ⟨_, _, _, hb2⟩
theorem ok_one_of {f : Addr} {fd : FuncData} (F : Fun K "_law_one_of" "_law_one_of" st__law_one_of f fd) (T : Txt mg C) (d__law_draw : Def P w K mg base "_law_draw" 1 ["_law_bag_here", "_law_total"] spDraw) : FnOk P w K mg base CX0 2 f fd ["_law_bag_here", "_law_items"] spOneOf := by
  refine F.ok sc__law_one_of (fun vs H Q E h => ?_) (fun cdv A outer s H vs Q E hr h => ?_)
  · obtain ⟨b, a, ns, rfl, _⟩ := h
    rfl
  · obtain ⟨b, a, ns, rfl, hb, ha, ne, l1, l2, k⟩ := h
    refine ⟨_, (pss_one (ps_ret (pe_ix (ix_listK K) (pv 1) (pe_def d__law_draw hr (pa_cons (pv 0) (pa_cons (pe_callB (lenK K) (by rfl) T.len PySem.boot_len (pa_cons (pv 1) pa_nil)) pa_nil))) (fun _ _ => rfl)))), ?_⟩
    have el : (iV ns).length = ns.length := List.length_map ..
    have na : a ∉ [b] := fun z => ne (List.mem_singleton.mp z)
    refine ⟨_, rfl, _, rfl, _, rfl, a, _, rfl, .inl (SqL.of ha), b, _, rfl, hb, by omega, by omega, fun r H1 hr1 k1 b1 => ?_⟩
    have hrn : r < ns.length := by omega
    exact ⟨a, _, _, .int ns[r], rfl, rfl, SqL.of (k1 _ _ na ha), atI_nat (by rw [List.getElem?_map, List.getElem?_eq_getElem hrn]; rfl), k _ H1 (List.getElem_mem hrn) k1 b1⟩
theorem ok_shuffled {f : Addr} {fd : FuncData} (F : Fun K "_law_shuffled" "_law_shuffled" st__law_shuffled f fd) (T : Txt mg C) (d__law_draw : Def P w K mg base "_law_draw" 1 ["_law_bag_here", "_law_total"] spDraw) : FnOk P w K mg base CX0 2 f fd ["_law_bag_here", "_law_items"] spShuf := by
  refine F.ok sc__law_shuffled (fun vs H Q E h => ?_) (fun cdv A outer s H vs Q E hr h => ?_)
  · obtain ⟨b, a, xs, rfl, _⟩ := h
    rfl
  · obtain ⟨b, a, xs, rfl, hb, ha, ne, few, k⟩ := h
    refine ⟨_, (pss_cons (ps_set (i := 2) sc__law_shuffled.nd rfl (by first | exact Or.inl rfl | exact Or.inr rfl) (pe_callTy (listK K) (by rfl) T.list (by decide +kernel) (pa_cons (pv 1) pa_nil)))
      (pss_one (ps_ret (pe_lc (own := [("_law_turn", 3)]) (g := (gName 3)) (tt := tYes) rfl sc__law_shuffled.nd (pi_range1 (by rfl) T.range (pa_cons (pe_callB (lenK K) (by rfl) T.len PySem.boot_len (pa_cons (pv 1) pa_nil)) pa_nil)) (blkOk_by (N := ["_law_bag_here", "_law_items", "_law_waits", "_law_turn"]) (sc := defScope st__law_shuffled) (own := [("_law_turn", 3)]) (by decide +kernel)) (fun _ _ _ _ _ => (pg_name (i := 3) sc__law_shuffled.nd rfl (by first | exact Or.inl rfl | exact Or.inr rfl))) (fun _ _ _ _ _ => pts_nil) (fun _ _ _ _ _ => (bmK K PySem.F.plainAttrs_list PySem.F.slot_list_pop PySem.F.type_list_pop mt_popAt (pv 2) (pa_cons (pe_def d__law_draw hr (pa_cons (pv 0) (pa_cons (pe_callB (lenK K) (by rfl) T.len PySem.boot_len (pa_cons (pv 2) pa_nil)) pa_nil))) pa_nil))))))), ?_⟩
    refine ⟨_, rfl, a, xs, rfl, .inl (SqL.of ha), fun W hW => ?_⟩
    have k1 : KX [] H (upd H W (.lst xs)) := KX.new' hW
    have hb1 : Bag (upd H W (.lst xs)) b := hb.kx k1 (fun z => nomatch z)
    have nWb : W ≠ b := by
      obtain ⟨_, _, _, e⟩ := hb
      exact (ne_of_none e hW).symm
    refine ⟨_, rfl, a, _, rfl, .inl (SqL.of (k1.get0 ha)), _, rfl, by omega, by omega, fun D hD => ?_⟩
    have hb0 := hb
    have w1 : upd H W (.lst xs) W = some (.lst xs) := upd_same
    generalize upd H W (.lst xs) = H1 at k1 hb1 w1 hD ⊢
    have nDW : D ≠ W := (ne_of_none w1 hD).symm
    have nDb : D ≠ b := by
      obtain ⟨_, _, _, e⟩ := hb1
      exact (ne_of_none e hD).symm
    have hD0 : H D = none := k1.free0 hD
    rw [Int.toNat_natCast]
    refine any_it walk_range (fun i H' => KX [b] H H' ∧ Bag H' b ∧ ∃ zs ys : List V, H' W = some (.lst zs) ∧ H' D = some (.lst ys) ∧ ys.length = i ∧ (ys ++ zs).Perm xs) ⟨(k1.of).new hD0, ?_, xs, [], ?_, upd_same, rfl, List.Perm.refl _⟩ (fun _ _ _ _ => trivial) (fun i v H2 H3 hi q y => ?_) fun H2 q => ?_
    · obtain ⟨u, v, w', e⟩ := hb1
      exact ⟨u, v, w', by rw [upd_ne nDb.symm]; exact e⟩
    · rw [upd_ne nDW.symm]
      exact w1
    · obtain ⟨rfl, rfl⟩ := y
      obtain ⟨k3, b3, zs, ys, w3, d3, ly, pm⟩ := q
      have lz : ys.length + zs.length = xs.length := by rw [← List.length_append]; exact pm.length_eq
      refine ⟨rfl, yesT ⟨_, rfl, .inl ⟨rfl, _, SqL.of w3⟩, _, rfl, _, rfl, W, _, rfl, .inl (SqL.of w3), b, _, rfl, b3, by omega, by omega, fun r H4 hr4 k4 b4 => ?_⟩⟩
      have w4 : H4 W = some (.lst zs) := k4 _ _ (fun z => nWb (List.mem_singleton.mp z)) w3
      have d4 : H4 D = some (.lst ys) := k4 _ _ (fun z => nDb (List.mem_singleton.mp z)) d3
      have hrn : r < zs.length := by omega
      refine ⟨W, zs, _, r, zs[r], rfl, rfl, w4, by omega, by omega, (ixN_seq (ixN_nat hrn)).1, List.getElem?_eq_getElem hrn, ys, ?_, ?_, ?_, ?_, zs.eraseIdx r, ys ++ [zs[r]], ?_, upd_same, ?_, ?_⟩
      · rw [upd_ne nDW]
        exact d4
      · have : sizeLine = 16777216 := sizeLine_eq
        omega
      · have hW0 : H W = none := by
          cases e : H W with
          | none => rfl
          | some o =>
            exfalso
            rw [hW] at e
            cases e
        exact ((k3.trans k4).new hW0).new hD0
      · obtain ⟨u, v, w', e⟩ := b4
        exact ⟨u, v, w', by rw [upd_ne nDb.symm, upd_ne nWb.symm]; exact e⟩
      · rw [upd_ne nDW.symm, upd_same]
      · rw [List.length_append, ly]
        rfl
      · refine List.Perm.trans ?_ pm
        rw [List.append_assoc]
        refine List.Perm.append_left ys ?_
        exact erase_perm zs hrn
    · obtain ⟨k3, b3, zs, ys, w3, d3, ly, pm⟩ := q
      have lz : ys.length + zs.length = xs.length := by rw [← List.length_append]; exact pm.length_eq
      have z0 : zs = [] := List.length_eq_zero_iff.mp (by omega)
      rw [z0, List.append_nil] at pm
      exact k ys D H2 pm k3 b3 hD0 d3
end
end K14
set_option maxHeartbeats 2000000
/-! the law's names; the law's pairs -/
namespace K14
open PySem L2 RZ GxR
open PySem.Spec PyProof.Rows
abbrev st__law_names : Stmt := top 49
theorem sc__law_names : FnScope ["_law_bag_here", "_law_many", "_law_some"] ["_law_bag_here", "_law_many"] (defScope st__law_names) := ⟨rfl, rfl, rfl, by decide +kernel, rfl, by decide +kernel, by decide +kernel⟩
abbrev st__law_pairs_of : Stmt := top 50
theorem sc__law_pairs_of : FnScope ["_law_pins", "_law_found", "_law_at", "_law_other"] ["_law_pins"] (defScope st__law_pairs_of) := ⟨rfl, rfl, rfl, by decide +kernel, rfl, by decide +kernel, by decide +kernel⟩
theorem perm_of_map {α β : Type} {f : α → β} {ys zs : List β} (h : ys.Perm zs) : ∀ {L : List α}, zs = L.map f → ∃ M : List α, M.Perm L ∧ ys = M.map f := by
  induction h with
  | nil => exact fun {L} e => ⟨L, List.Perm.refl _, e⟩
  | cons x _ ih =>
    intro L e
    cases L with
    | nil => cases e
    | cons a L =>
      rw [List.map_cons] at e
      injection e with e1 e2
      obtain ⟨M, p, q⟩ := ih e2
      exact ⟨a :: M, p.cons a, by rw [q, e1, List.map_cons]⟩
  | swap x y l =>
    intro L e
    match L, e with
    | a :: b :: L, e =>
      rw [List.map_cons, List.map_cons] at e
      injection e with e1 e
      injection e with e2 e3
      exact ⟨b :: a :: L, List.Perm.swap a b L, by rw [e1, e2, e3]; rfl⟩
  | trans _ _ ih1 ih2 =>
    intro L e
    obtain ⟨M, p, q⟩ := ih2 e
    obtain ⟨N, p2, q2⟩ := ih1 q
    exact ⟨N, p2.trans p, q2⟩
theorem cutV_take {xs : List V} {k : Nat} : cutV xs none (some (k : Int)) = xs.take k := by
  unfold cutV
  rw [HT.sIx_nat, HT.sIx_none, List.drop_zero, Nat.sub_zero]
  rcases Nat.le_total k xs.length with h | h
  · rw [Nat.min_eq_left h]
  · rw [Nat.min_eq_right h, List.take_of_length_le h, List.take_of_length_le (Nat.le_refl _)]
def names8 : List Str := ["a", "b", "c", "d", "e", "f", "g", "h"]
def names14 : List Str := ["a", "aa", "ab", "b", "ba", "c", "mast", "p", "q", "y", "z", "zz", "zzz", "zzzz"]
def nameB (z : Str) : Bool := decide (1 ≤ z.length) && decide (z.length ≤ 4) && z.cps.toList.all fun c => decide (c ∈ letters.cps.toList)
theorem nameB_ok {z : Str} (h : nameB z = true) : NameOk z := by
  unfold nameB at h
  rw [Bool.and_eq_true, Bool.and_eq_true, List.all_eq_true] at h
  exact ⟨of_decide_eq_true h.1.1, of_decide_eq_true h.1.2, fun c hc => of_decide_eq_true (h.2 c hc)⟩
theorem names8_ok : names8.Nodup ∧ ∀ z ∈ names8, NameOk z := ⟨by decide +kernel, fun z hz => nameB_ok (List.all_eq_true.mp (show names8.all nameB = true by decide +kernel) z hz)⟩
theorem names14_ok : names14.Nodup ∧ ∀ z ∈ names14, NameOk z := ⟨by decide +kernel, fun z hz => nameB_ok (List.all_eq_true.mp (show names14.all nameB = true by decide +kernel) z hz)⟩
def spLNames : Sp := fun vs H Q _ => ∃ (b : Addr) (n : Nat), vs = [.ref b, .int n] ∧ Bag H b ∧ 1 ≤ n ∧ n ≤ 6 ∧ ∀ D zs H', KX [b] H H' → Bag H' b → H D = none → H' D = some (.lst (sV zs)) → zs.length = n → zs.Nodup → (∀ z ∈ zs, NameOk z) → Q (.ref D) H'
def spPairsOf : Sp := fun vs H Q _ => ∃ (t : Addr) (zs : List Str), vs = [.ref t] ∧ H t = some (.tup (sV zs)) ∧ zs.length ≤ 8 ∧ ∀ D L H', KX [] H H' → H D = none → H' D = some (.lst (refs L)) → L.map (·.2) = prsOf zs → (∀ x ∈ L, PrAt H' x) → Q (.ref D) H'
section
variable {P : Program} {w : World} {K : PySem.W.Frag} {mg : Str → Option Value} {base : Heap} {C Pt : Addr}
theorem ok_names {f : Addr} {fd : FuncData} (F : Fun K "_law_names" "_law_names" st__law_names f fd) (T : Txt mg C) (d__law_draw : Def P w K mg base "_law_draw" 1 ["_law_bag_here", "_law_total"] spDraw) (d__law_shuffled : Def P w K mg base "_law_shuffled" 2 ["_law_bag_here", "_law_items"] spShuf) :
    FnOk P w K mg base CX0 3 f fd ["_law_bag_here", "_law_many"] spLNames := by
  refine F.ok sc__law_names (fun vs H Q E h => ?_) (fun cdv A outer s H vs Q E hr h => ?_)
  · obtain ⟨b, n, rfl, _⟩ := h
    rfl
  · obtain ⟨b, n, rfl, hb, n1, n6, k⟩ := h
    refine ⟨_, (pss_cons (ps_set (i := 2) sc__law_names.nd rfl (by first | exact Or.inl rfl | exact Or.inr rfl) (pe_lst (pa_cons pe_str (pa_cons pe_str (pa_cons pe_str (pa_cons pe_str (pa_cons pe_str (pa_cons pe_str (pa_cons pe_str (pa_cons pe_str pa_nil))))))))))
      (pss_cons (ps_if (pt_cmpR op_eq (pe_def d__law_draw hr (pa_cons (pv 0) (pa_cons pe_int pa_nil))) pe_int (nomark _)) (pss_one (ps_set (i := 2) sc__law_names.nd rfl (by first | exact Or.inl rfl | exact Or.inr rfl) (pe_lst (pa_cons pe_str (pa_cons pe_str (pa_cons pe_str (pa_cons pe_str (pa_cons pe_str (pa_cons pe_str (pa_cons pe_str (pa_cons pe_str (pa_cons pe_str (pa_cons pe_str (pa_cons pe_str (pa_cons pe_str (pa_cons pe_str (pa_cons pe_str pa_nil))))))))))))))))) pss_nil)
      (pss_cons (ps_if (pt_cmpR op_gt (pv 1) (pe_callB (lenK K) (by rfl) T.len PySem.boot_len (pa_cons (pv 2) pa_nil)) (nomark _)) (pss_one (ps_set (i := 2) sc__law_names.nd rfl (by first | exact Or.inl rfl | exact Or.inr rfl) (pe_op op_cat (pv 2) (pe_lst (pa_cons pe_str (pa_cons pe_str (pa_cons pe_str (pa_cons pe_str (pa_cons pe_str (pa_cons pe_str pa_nil)))))))))) pss_nil)
      (pss_one (ps_ret (pe_slice (sl_listK K) (pe_def d__law_shuffled hr (pa_cons (pv 0) (pa_cons (pv 2) pa_nil))) po_none (po_some (pv 1)))))))), ?_⟩
    have fin : ∀ (ys : List V) (zs : List Str) (D : Addr) (H1 : Hp), ys.Perm (sV zs) → zs.Nodup → (∀ z ∈ zs, NameOk z) → n ≤ zs.length → KX [b] H H1 → Bag H1 b →
        ∀ S, H1 S = none → Q (.ref S) (upd H1 S (.lst (cutV ys none (some (n : Int))))) := fun ys zs D H1 pm nd ok hn k1 b1 S hS => by
      obtain ⟨M, pM, rfl⟩ := perm_of_map pm rfl
      have hSb : S ≠ b := by
        obtain ⟨_, _, _, e⟩ := b1
        exact (ne_of_none e hS).symm
      have h0 : H S = none := k1.free (fun z => hSb (List.mem_singleton.mp z)) hS
      refine k S (M.take n) _ (k1.new h0) ?_ h0 ?_ ?_ ?_ ?_
      · obtain ⟨i, j, l, e⟩ := b1
        exact ⟨i, j, l, by rw [upd_ne hSb.symm]; exact e⟩
      · rw [upd_same, cutV_take, ← List.map_take]
      · rw [List.length_take, pM.length_eq]
        omega
      · exact List.Pairwise.sublist (List.take_sublist _ _) (pM.nodup_iff.mpr nd)
      · exact fun z hz => ok z (pM.mem_iff.mp (List.mem_of_mem_take hz))
    refine ⟨(by show 8 ≤ sizeLine; decide), fun p hp => ?_⟩
    have k1 : KX [] H (upd H p (.lst (sV names8))) := KX.new' hp
    have b1 : Bag (upd H p (.lst (sV names8))) b := hb.kx k1 (fun z => nomatch z)
    have p1 : upd H p (.lst (sV names8)) p = some (.lst (sV names8)) := upd_same
    have npb : p ≠ b := by
      obtain ⟨_, _, _, e⟩ := hb
      exact (ne_of_none e hp).symm
    refine ⟨_, rfl, b, _, rfl, b1, by omega, by omega, fun r H2 hr2 k2 b2 => ⟨rfl, _, rfl, ite2 (fun _ => ?_) (fun _ => ?_)⟩⟩
    · refine ⟨(by show 14 ≤ sizeLine; decide), fun p2 hp2 => ?_⟩
      have k3 : KX [b] (upd H p (.lst (sV names8))) (upd H2 p2 (.lst (sV names14))) := k2.trans (KX.new' hp2)
      have np2b : p2 ≠ b := by
        obtain ⟨_, _, _, e⟩ := b2
        exact (ne_of_none e hp2).symm
      have b3 : Bag (upd H2 p2 (.lst (sV names14))) b := b2.kx (KX.new' (S := []) hp2) (fun z => nomatch z)
      have q3 : upd H2 p2 (.lst (sV names14)) p2 = some (.lst (sV names14)) := upd_same
      have h0 : H p2 = none := (k1.of.trans k2).free (fun z => np2b (List.mem_singleton.mp z)) hp2
      refine ⟨_, rfl, _, rfl, p2, _, rfl, .inl (SqL.of q3), _, _, rfl, rfl, _, rfl, ite2 (fun h => absurd (of_decide_eq_true h) (by show ¬ ((n : Int) > ((14 : Nat) : Int)); omega)) (fun _ => ?_)⟩
      refine ⟨_, rfl, _, rfl, b, p2, _, rfl, b3, q3, np2b, (by show 14 < 1000; decide), fun ys D H4 pm k4 b4 _ d4 => ⟨_, rfl, _, rfl, D, _, rfl, SqL.of d4, ?_⟩⟩
      exact fin ys names14 D H4 pm names14_ok.1 names14_ok.2 (by show n ≤ 14; omega) ((k1.of.trans k3).trans k4) b4
    · have p2 := k2 _ _ (fun z => npb (List.mem_singleton.mp z)) p1
      refine ⟨_, rfl, _, rfl, p, _, rfl, .inl (SqL.of p2), _, _, rfl, rfl, _, rfl, ite2 (fun h => absurd (of_decide_eq_true h) (by show ¬ ((n : Int) > ((8 : Nat) : Int)); omega)) (fun _ => ?_)⟩
      refine ⟨_, rfl, _, rfl, b, p, _, rfl, b2, p2, npb, (by show 8 < 1000; decide), fun ys D H4 pm k4 b4 _ d4 => ⟨_, rfl, _, rfl, D, _, rfl, SqL.of d4, ?_⟩⟩
      exact fin ys names8 D H4 pm names8_ok.1 names8_ok.2 (by show n ≤ 8; omega) ((k1.of.trans k2).trans k4) b4
theorem ok_pairs_of {f : Addr} {fd : FuncData} (F : Fun K "_law_pairs_of" "_law_pairs_of" st__law_pairs_of f fd) (T : Txt mg C) : FnOk P w K mg base CX0 1 f fd ["_law_pins"] spPairsOf := by
  refine F.ok sc__law_pairs_of (fun vs H Q E h => ?_) (fun cdv A outer s H vs Q E hr h => ?_)
  · obtain ⟨t, zs, rfl, _⟩ := h
    rfl
  · obtain ⟨t, zs, rfl, ht, l8, k⟩ := h
    refine ⟨_, (pss_cons (ps_set (i := 1) sc__law_pairs_of.nd rfl (by first | exact Or.inl rfl | exact Or.inr rfl) (pe_lst pa_nil))
      (pss_cons (ps_for PassesOwn.never rfl (pi_range1 (by rfl) T.range (pa_cons (pe_callB (lenK K) (by rfl) T.len PySem.boot_len (pa_cons (pv 0) pa_nil)) pa_nil)) (pg_name (i := 2) sc__law_pairs_of.nd rfl (by first | exact Or.inl rfl | exact Or.inr rfl))
        (pss_one (ps_set (i := 1) sc__law_pairs_of.nd rfl (by first | exact Or.inl rfl | exact Or.inr rfl) (pe_op op_cat (pv 1) (pe_lc (own := [("_law_other", 3)]) (g := (gName 3)) (tt := tYes) rfl sc__law_pairs_of.nd (piT K (pe_slice (sl_tupK K) (pv 0) (po_some (pe_op op_add (pv 2) pe_int)) po_none)) (blkOk_by (N := ["_law_pins", "_law_found", "_law_at", "_law_other"]) (sc := defScope st__law_pairs_of) (own := [("_law_other", 3)]) (by decide +kernel)) (fun _ _ _ _ _ => (pg_name (i := 3) sc__law_pairs_of.nd rfl (by first | exact Or.inl rfl | exact Or.inr rfl))) (fun _ _ _ _ _ => pts_nil) (fun _ _ _ _ _ => (pe_tup (pa_cons (pe_ix (ix_tupK K) (pv 0) (pv 2) (fun _ _ => rfl)) (pa_cons (pv 3) pa_nil)))))))))
      (pss_one (ps_ret (pv 1))))), ?_⟩
    have el : (sV zs).length = zs.length := List.length_map ..
    refine ⟨Nat.zero_le _, fun F0 hF0 => ?_⟩
    have k1 : KX [] H (upd H F0 (.lst [])) := KX.new' hF0
    have f1 : upd H F0 (.lst []) F0 = some (.lst []) := upd_same
    generalize upd H F0 (.lst []) = H1 at k1 f1 ⊢
    refine ⟨_, rfl, t, _, rfl, .inr (SqT.of (k1.get0 ht)), _, rfl, by omega, by omega, ?_⟩
    rw [el, Int.toNat_natCast]
    refine for_it walk_range (fun i σ H' => ∃ (D : Addr) (v2 v3 : Option V) (L : List Pr3), σ = [some (.ref t), some (.ref D), v2, v3] ∧ KX [] H H' ∧ H D = none ∧ H' D = some (.lst (refs L)) ∧ L.map (·.2) = prsTo zs i ∧ ∀ x ∈ L, PrAt H' x)
      ⟨F0, _, _, [], rfl, k1, hF0, f1, rfl, fun x hx => nomatch hx⟩ (fun _ _ _ _ _ => trivial) (fun i v σ H2 H3 hi a y => ?_) fun σ H2 a => ?_
    · obtain ⟨rfl, rfl⟩ := y
      obtain ⟨D, v2, v3, L, rfl, k3, hD, d3, eL, hL⟩ := a
      have ht3 := k3.get0 ht
      have hi2 : i < zs.length := hi
      have cv : cutV (sV zs) (some (0 + (i : Int) + 1)) none = sV (zs.drop (i + 1)) := by
        have := cutV_drop (xs := sV zs) (k := i + 1)
        rw [show (((i + 1 : Nat) : Int)) = 0 + (i : Int) + 1 by omega] at this
        rw [this, sV, sV, List.map_drop]
      have few0 : (prsTo zs i).length ≤ 64 := by
        have := prs_len (zs := zs) (i := i)
        have h2 : i * zs.length ≤ 8 * 8 := Nat.mul_le_mul (by omega) l8
        omega
      have ez : zs[i] = zs.getD i Str.empty := by simp [hi2]
      refine ⟨_, rfl, _, rfl, _, rfl, _, _, rfl, rfl, _, rfl, t, _, rfl, SqT.of ht3, fun z => ?_, fun S hS => ?_⟩
      · have z1 := z.1
        rw [el, show (0 : Int) + (i : Int) + 1 = ((i + 1 : Nat) : Int) by omega, HT.sIx_nat] at z1
        omega
      · rw [cv]
        have s4 : upd H3 S (.tup (sV (zs.drop (i + 1)))) S = some (.tup (sV (zs.drop (i + 1)))) := upd_same
        have kS : KX [] H3 (upd H3 S (.tup (sV (zs.drop (i + 1))))) := KX.new' hS
        generalize upd H3 S (.tup (sV (zs.drop (i + 1)))) = H4 at s4 kS ⊢
        have k4 := k3.trans kS
        refine ⟨S, rfl, ⟨_, SqT.of s4⟩, fun D2 hD2 => any_it walk_tup (fun j H' => AccPr [] H4 D2 (((zs.drop (i + 1)).take j).map fun y => (zs.getD i Str.empty, y)) H') (AccPr.zero hD2) (fun j H' _ b => SqT.of (b.1.get0 s4)) (fun j v H6 H7 hj b y => ?_) fun H6 b => ?_⟩
        · obtain ⟨rfl, hx⟩ := y
          obtain ⟨hj2, rfl⟩ := at_sV hx
          refine ⟨rfl, yesT ⟨_, rfl, _, rfl, t, _, _, .str zs[i], rfl, rfl, SqT.of ((k4.trans b.1).get0 ht), (by show atI (sV zs) (0 + (i : Int)) = _; rw [Int.zero_add]; exact atI_nat (by rw [List.getElem?_map, List.getElem?_eq_getElem hi2]; rfl)), _, rfl, by show 2 ≤ sizeLine; decide, fun u hu => ?_⟩⟩
          obtain ⟨acc, c1, c2, c3⟩ := b.step (a := zs[i]) (b := (zs.drop (i + 1))[j]) hD2 hu (fun z => nomatch z) (by
            rw [List.length_map, List.length_take]
            have h3 : (zs.drop (i + 1)).length ≤ 8 := by rw [List.length_drop]; omega
            omega)
          refine ⟨acc, c1, c2, ?_⟩
          rw [take_one hj2, List.map_append]
          rw [ez] at c3 ⊢
          exact c3
        · rw [show (sV (zs.drop (i + 1))).length = (zs.drop (i + 1)).length from List.length_map .., List.take_length] at b
          obtain ⟨k5, L2, d5, eL2, hL2⟩ := b
          have kd := k4.trans k5
          have e1 : (refs L).length ≤ 64 := by
            rw [List.length_map, ← List.length_map (f := fun x : Pr3 => x.2), eL]
            exact few0
          have e2 : (refs L2).length ≤ 8 := by
            rw [List.length_map, ← List.length_map (f := fun x : Pr3 => x.2), eL2, List.length_map, List.length_drop]
            omega
          refine ⟨D, D2, refs L, refs L2, rfl, rfl, (kS.trans k5).get0 d3, d5, ?_, fun p hp => ?_⟩
          · have : sizeLine = 16777216 := sizeLine_eq
            omega
          · refine ⟨p, _, _, L ++ L2, rfl, kd.new (kd.free0 hp), kd.free0 hp, ?_, ?_, fun x hx => ?_⟩
            · rw [upd_same]
              simp [refs]
            · rw [List.map_append, eL, eL2]
              rfl
            · show upd H6 p _ x.1 = _
              rcases List.mem_append.mp hx with q | q
              · have e := (hL x q).kd (kS.trans k5).kd0
                rw [upd_ne (ne_of_none e hp)]
                exact e
              · rw [upd_ne (ne_of_none (hL2 x q) hp)]
                exact hL2 x q
    · obtain ⟨D, v2, v3, L, rfl, k3, hD, d3, eL, hL⟩ := a
      exact ⟨_, rfl, k D L H2 k3 hD d3 eL hL⟩
end
end K14
set_option maxHeartbeats 2000000
/-! the law's frames and placings -/
namespace K14
open PySem L2 RZ GxR
open PySem.Spec PyProof.Rows
abbrev st__law_frame_on : Stmt := top 51
theorem sc__law_frame_on : FnScope ["_law_bag_here", "_law_names_here", "_law_share", "_law_pins", "_law_pair"] ["_law_bag_here", "_law_names_here", "_law_share"] (defScope st__law_frame_on) := ⟨rfl, rfl, rfl, by decide +kernel, rfl, by decide +kernel, by decide +kernel⟩
abbrev st__law_frame : Stmt := top 52
theorem sc__law_frame : FnScope ["_law_bag_here", "_law_least", "_law_most", "_law_share"] ["_law_bag_here", "_law_least", "_law_most", "_law_share"] (defScope st__law_frame) := ⟨rfl, rfl, rfl, by decide +kernel, rfl, by decide +kernel, by decide +kernel⟩
abbrev st__law_spot : Stmt := top 53
theorem sc__law_spot : FnScope ["_law_bag_here", "_law_space", "_law_spread", "_law_turn"] ["_law_bag_here", "_law_space", "_law_spread"] (defScope st__law_spot) := ⟨rfl, rfl, rfl, by decide +kernel, rfl, by decide +kernel, by decide +kernel⟩
abbrev st__law_placing : Stmt := top 54
theorem sc__law_placing : FnScope ["_law_bag_here", "_law_pins", "_law_space", "_law_spread", "_law_pin"] ["_law_bag_here", "_law_pins", "_law_space", "_law_spread"] (defScope st__law_placing) := ⟨rfl, rfl, rfl, by decide +kernel, rfl, by decide +kernel, by decide +kernel⟩
/-! a list of pairs that dict takes -/
abbrev Tr3 := Addr × Str × Addr
def DP (H : Hp) (D : Addr) (l : List Str) (p : Str → List Int) : Prop := ∃ L : List Tr3, H D = some (.lst (L.map fun x => V.ref x.1)) ∧ L.map (·.2.1) = l ∧ ∀ x ∈ L, H x.1 = some (.tup [.str x.2.1, .ref x.2.2]) ∧ H x.2.2 = some (.tup (iV (p x.2.1)))
theorem DP.zero {H : Hp} {D : Addr} {p : Str → List Int} : DP (upd H D (.lst [])) D [] p := ⟨[], upd_same, rfl, fun x hx => nomatch hx⟩
theorem DP.congr {H : Hp} {D : Addr} {l : List Str} {p q : Str → List Int} (h : DP H D l p) (e : ∀ k ∈ l, p k = q k) : DP H D l q := by
  obtain ⟨L, h1, rfl, h3⟩ := h
  refine ⟨L, h1, rfl, fun x hx => ⟨(h3 x hx).1, ?_⟩⟩
  rw [← e _ (List.mem_map_of_mem hx)]
  exact (h3 x hx).2
theorem DP.keep {H H' : Hp} {D : Addr} {l : List Str} {p : Str → List Int} (h : DP H D l p) (k : Kd H H') (e : ∀ o, H D = some o → H' D = some o) : DP H' D l p := by
  obtain ⟨L, h1, h2, h3⟩ := h
  exact ⟨L, e _ h1, h2, fun x hx => ⟨k _ _ (h3 x hx).1 rfl, k _ _ (h3 x hx).2 rfl⟩⟩
theorem DP.step {H : Hp} {D t u : Addr} {l : List Str} {p : Str → List Int} {z : Str} (h : DP H D l p) (ht : H t = some (.tup (iV (p z)))) (hu : H u = none) (few : l.length < 1000) :
    ∃ acc, upd H u (.tup [.str z, .ref t]) D = some (.lst acc) ∧ acc.length < sizeLine ∧ DP (upd (upd H u (.tup [.str z, .ref t])) D (.lst (acc ++ [.ref u]))) D (l ++ [z]) p := by
  obtain ⟨L, h1, rfl, h3⟩ := h
  refine ⟨_, by rw [upd_ne (ne_of_none h1 hu)]; exact h1, ?_, L ++ [(u, z, t)], by rw [upd_same]; simp, by simp, fun x hx => ?_⟩
  · rw [List.length_map] at few ⊢
    exact Nat.lt_trans few (by decide)
  · have nD : ∀ {c ys}, H c = some (.tup ys) → c ≠ D := fun e z => by
      rw [z, h1] at e
      cases e
    have at2 : ∀ {c ys}, H c = some (.tup ys) → upd (upd H u (.tup [.str z, .ref t])) D (.lst (L.map (fun x => V.ref x.1) ++ [.ref u])) c = some (.tup ys) := fun e => by
      rw [upd_ne (nD e), upd_ne (ne_of_none e hu)]
      exact e
    rcases List.mem_append.mp hx with q | q
    · exact ⟨at2 (h3 x q).1, at2 (h3 x q).2⟩
    · rw [List.mem_singleton.mp q]
      refine ⟨?_, at2 ht⟩
      show upd _ D _ u = _
      rw [upd_ne (fun e => by rw [e, h1] at hu; cases hu), upd_same]
theorem merge_new : ∀ {kvs acc : List (Key × V)}, ((acc ++ kvs).map (·.1)).Nodup → mergeK acc kvs = acc ++ kvs
  | [], acc, _ => (List.append_nil acc).symm
  | kv :: r, acc, h => by
    have nin : kv.1 ∉ acc.map (·.1) := fun z => by
      rw [List.map_append, List.map_cons] at h
      exact (List.nodup_append.mp h).2.2 kv.1 z kv.1 List.mem_cons_self rfl
    show mergeK (putK acc kv.1 kv.2) r = _
    rw [putK_new _ (valV_none nin)]
    have h2 : ((acc ++ [(kv.1, kv.2)] ++ r).map (·.1)).Nodup := by simpa using h
    rw [merge_new h2]
    simp
/-- the address at a name -/
def atOf (L : List Tr3) (k : Str) : Addr := ((L.find? fun x => decide (x.2.1 = k)).map (·.2.2)).getD 0
theorem atOf_mem : ∀ {L : List Tr3}, (L.map (·.2.1)).Nodup → ∀ {x : Tr3}, x ∈ L → atOf L x.2.1 = x.2.2
  | y :: L, nd, x, hx => by
    unfold atOf
    rw [List.find?_cons]
    rcases List.mem_cons.mp hx with q | q
    · subst q
      simp
    · rw [List.map_cons, List.nodup_cons] at nd
      have ne : y.2.1 ≠ x.2.1 := fun e => nd.1 (by rw [e]; exact List.mem_map_of_mem q)
      simp only [ne, decide_false]
      exact atOf_mem nd.2 q
theorem DP.dict {K : PySem.W.Frag} {H : Hp} {D : Addr} {l : List Str} {p : Str → List Int} (h : DP H D l p) (nd : l.Nodup) :
    ∃ (ps : List Addr) (kvs : List (Key × V)), SqL K H D (ps.map V.ref) ∧ Paired (fun p kv => SqT K H p [kV kv.1, kv.2]) ps kvs ∧ ∀ d, H d = none → PlAt (upd H d (.dK (mergeK [] kvs))) d l p := by
  obtain ⟨L, h1, rfl, h3⟩ := h
  refine ⟨L.map (·.1), L.map fun x => (Sum.inr x.2.1, V.ref x.2.2), SqL.of (by rw [h1, List.map_map]; rfl), ?_, fun d hd => ⟨atOf L, ?_, fun k hk => ?_⟩⟩
  · clear h1 nd
    induction L with
    | nil => exact .nil
    | cons x L ih => exact .cons (SqT.of (h3 x List.mem_cons_self).1) (ih fun y hy => h3 y (List.mem_cons_of_mem _ hy))
  · rw [upd_same, merge_new]
    · rw [List.nil_append, List.map_map]
      congr 2
      refine List.map_congr_left fun x hx => ?_
      show _ = ((Sum.inr x.2.1 : Key), V.ref (atOf L x.2.1))
      rw [atOf_mem nd hx]
    · rw [List.nil_append, List.map_map]
      have e : L.map ((fun x : Key × V => x.1) ∘ fun x : Tr3 => ((Sum.inr x.2.1 : Key), V.ref x.2.2)) = (L.map (·.2.1)).map Sum.inr := by rw [List.map_map]; rfl
      rw [e]
      exact List.Pairwise.map _ (fun a b ne z => ne (Sum.inr.inj z)) nd
  · obtain ⟨x, hx, rfl⟩ := List.mem_map.mp hk
    rw [atOf_mem nd hx]
    have e := (h3 x hx).2
    rw [upd_ne (ne_of_none e hd)]
    exact e
/-- the law's plain frame: pins and rods -/
def PlnAt (H : Hp) (t : Addr) (zs : List Str) (L : List Pr3) : Prop := ∃ tp tr, H t = some (.tup [.ref tp, .ref tr]) ∧ H tp = some (.tup (sV zs)) ∧ H tr = some (.tup (refs L)) ∧ ∀ x ∈ L, PrAt H x
theorem PlnAt.kd {H H' : Hp} {t : Addr} {zs : List Str} {L : List Pr3} (h : PlnAt H t zs L) (k : Kd H H') : PlnAt H' t zs L := by
  obtain ⟨tp, tr, h1, h2, h3, h4⟩ := h
  exact ⟨tp, tr, k _ _ h1 rfl, k _ _ h2 rfl, k _ _ h3 rfl, fun x hx => (h4 x hx).kd k⟩
structure Pln (zs : List Str) (L : List Pr3) : Prop where
  ord : zs.Pairwise Bef
  l1 : 1 ≤ zs.length
  l6 : zs.length ≤ 6
  ok : ∀ z ∈ zs, NameOk z
  sub : (L.map (·.2)).Sublist (prsOf zs)
theorem bag_kd {b : Addr} {H H' : Hp} (h : Bag H b) (k : KX [b] H H') : Kd H H' := k.kd fun x hx => by
  obtain ⟨i, j, l, e⟩ := h
  rw [List.mem_singleton.mp hx]
  exact ⟨_, e, rfl⟩
theorem bag_ne {b D : Addr} {H : Hp} (h : Bag H b) (hD : H D = none) : D ≠ b := by
  obtain ⟨_, _, _, e⟩ := h
  exact (ne_of_none e hD).symm
def spFrameOn : Sp := fun vs H Q _ => ∃ (b a : Addr) (ns : List Str) (s : Int), vs = [.ref b, .ref a, .int s] ∧ Bag H b ∧ H a = some (.lst (sV ns)) ∧ 1 ≤ ns.length ∧ ns.length ≤ 6 ∧ ns.Nodup ∧ (∀ z ∈ ns, NameOk z) ∧
  ∀ t zs L H', KX [b] H H' → Bag H' b → PlnAt H' t zs L → Pln zs L → Q (.ref t) H'
def spFrame : Sp := fun vs H Q _ => ∃ (b : Addr) (s : Int), vs = [.ref b, .int 1, .int 6, .int s] ∧ Bag H b ∧ ∀ t zs L H', KX [b] H H' → Bag H' b → PlnAt H' t zs L → Pln zs L → Q (.ref t) H'
def spSpot : Sp := fun vs H Q _ => ∃ (b : Addr) (n s : Nat), vs = [.ref b, .int n, .int s] ∧ Bag H b ∧ n ≤ 2 ∧ s ≤ 6 ∧ ∀ t xs H', KX [b] H H' → Bag H' b → H' t = some (.tup (iV xs)) → xs.length = n → (∀ x ∈ xs, x.natAbs ≤ s) → Q (.ref t) H'
def spPlacing : Sp := fun vs H Q _ => ∃ (b t : Addr) (zs : List Str) (n s : Nat), vs = [.ref b, .ref t, .int n, .int s] ∧ Bag H b ∧ H t = some (.tup (sV zs)) ∧ zs.Pairwise Bef ∧ zs.length ≤ 6 ∧ n ≤ 2 ∧ s ≤ 6 ∧
  ∀ d p H', KX [b] H H' → Bag H' b → PlAt H' d zs p → (∀ z ∈ zs, (p z).length = n ∧ ∀ x ∈ p z, x.natAbs ≤ s) → Q (.ref d) H'
section
variable {P : Program} {w : World} {K : PySem.W.Frag} {mg : Str → Option Value} {base : Heap} {C Pt : Addr}
theorem ok_frame_on {f : Addr} {fd : FuncData} (F : Fun K "_law_frame_on" "_law_frame_on" st__law_frame_on f fd) (T : Txt mg C) (d__law_draw : Def P w K mg base "_law_draw" 1 ["_law_bag_here", "_law_total"] spDraw) (d__law_pairs_of : Def P w K mg base "_law_pairs_of" 1 ["_law_pins"] spPairsOf) :
    FnOk P w K mg base CX0 2 f fd ["_law_bag_here", "_law_names_here", "_law_share"] spFrameOn := by
  refine F.ok sc__law_frame_on (fun vs H Q E h => ?_) (fun cdv A outer s H vs Q E hr h => ?_)
  · obtain ⟨b, a, ns, s, rfl, _⟩ := h
    rfl
  · obtain ⟨b, a, ns, s, rfl, hb, ha, l1, l6, nd, ok, k⟩ := h
    refine ⟨_, (pss_cons (ps_set (i := 3) sc__law_frame_on.nd rfl (by first | exact Or.inl rfl | exact Or.inr rfl) (pe_callTy (tupK K) (by rfl) T.tuple (by decide +kernel) (pa_cons (pe_callB (sortTxK K) (by rfl) T.sorted (by decide +kernel) (pa_cons (pv 1) pa_nil)) pa_nil)))
      (pss_one (ps_ret (pe_tup (pa_cons (pv 3) (pa_cons (pe_callTy (tupK K) (by rfl) T.tuple (by decide +kernel) (pa_cons (pe_lc (own := [("_law_pair", 4)]) (g := (gName 4))  rfl sc__law_frame_on.nd (piL K (pe_def d__law_pairs_of hr (pa_cons (pv 3) pa_nil))) (blkOk_by (N := ["_law_bag_here", "_law_names_here", "_law_share", "_law_pins", "_law_pair"]) (sc := defScope st__law_frame_on) (own := [("_law_pair", 4)]) (by decide +kernel)) (fun _ _ _ _ _ => (pg_name (i := 4) sc__law_frame_on.nd rfl (by first | exact Or.inl rfl | exact Or.inr rfl))) (fun _ _ _ _ _ => pts_one (pt_cmpR op_lt (pe_def d__law_draw hr (pa_cons (pv 0) (pa_cons pe_int pa_nil))) (pv 2) (nomark _))) (fun _ _ _ _ _ => (pv 4))) pa_nil)) pa_nil)))))), ?_⟩
    refine ⟨_, rfl, a, ns, rfl, .inl (SqL.of ha), by omega, fun zs D pm so hD => ?_⟩
    have hDb := bag_ne hb hD
    have ndz : zs.Nodup := pm.nodup_iff.mpr nd
    have ord := sorted_pair so ndz
    refine ⟨D, _, rfl, SqL.of upd_same, fun tp htp => ?_⟩
    have k1 : KX [] H (upd (upd H D (.lst (sV zs))) tp (.tup (sV zs))) := (KX.new' hD).new ((KX.new' (S := []) hD).free0 htp)
    have p1 : upd (upd H D (.lst (sV zs))) tp (.tup (sV zs)) tp = some (.tup (sV zs)) := upd_same
    generalize upd (upd H D (.lst (sV zs))) tp (.tup (sV zs)) = H1 at k1 p1 ⊢
    have b1 := hb.kx k1 (fun z => nomatch z)
    have lz : zs.length ≤ 6 := by rw [pm.length_eq]; exact l6
    have few : (prsOf zs).length ≤ 36 := by
      have h1 := prs_len (zs := zs) (i := zs.length)
      have h2 : zs.length * zs.length ≤ 6 * 6 := Nat.mul_le_mul lz lz
      rw [prsOf]
      omega
    refine ⟨_, rfl, _, rfl, tp, zs, rfl, p1, by omega, fun D1 L H2 k2 hD1 d1 eL hL => ?_⟩
    have b2 := b1.kx k2 (fun z => nomatch z)
    have nD1 : D1 ≠ b := bag_ne b1 hD1
    have lL : L.length ≤ 36 := by
      rw [← List.length_map (f := fun x : Pr3 => x.2), eL]
      exact few
    refine ⟨D1, rfl, ⟨_, SqL.of d1⟩, fun D2 hD2 => ?_⟩
    have nD2 : D2 ≠ b := bag_ne b2 hD2
    refine any_it walk_list (fun i H' => KX [b] H2 H' ∧ Bag H' b ∧ ∃ M : List Pr3, H' D2 = some (.lst (refs M)) ∧ M.Sublist (L.take i)) ⟨KX.new' hD2, b2.kx (KX.new' (S := []) hD2) (fun z => nomatch z), [], upd_same, List.Sublist.refl _⟩ (fun i H' _ a => SqL.of (a.1 _ _ (fun z => nD1 (List.mem_singleton.mp z)) d1)) (fun i v H3 H4 hi a y => ?_) fun H3 a => ?_
    · obtain ⟨rfl, hx⟩ := y
      obtain ⟨x, hx2, hm, rfl⟩ := mem_refs hx
      obtain ⟨k4, b4, M, m4, sb⟩ := a
      have tk : L.take (i + 1) = L.take i ++ [x] := by rw [List.take_succ, hx2]; rfl
      refine ⟨rfl, _, rfl, b, 8, rfl, b4, by omega, by omega, fun r H5 hr5 k5 b5 => ⟨_, rfl, _, _, rfl, rfl, _, rfl, ?_⟩⟩
      have m5 := k5 _ _ (fun z => nD2 (List.mem_singleton.mp z)) m4
      have lM : M.length ≤ 36 := Nat.le_trans sb.length_le (by rw [List.length_take]; omega)
      refine ite2 (fun _ => ⟨_, rfl, _, m5, ?_, (k4.trans k5).new hD2, ?_, M ++ [x], ?_, ?_⟩) (fun _ => ⟨k4.trans k5, b5, M, m5, ?_⟩)
      · rw [List.length_map]
        exact Nat.lt_of_le_of_lt lM (by decide)
      · obtain ⟨i1, i2, i3, e⟩ := b5
        exact ⟨i1, i2, i3, by rw [upd_ne nD2.symm]; exact e⟩
      · rw [upd_same]
        simp [refs]
      · rw [tk]
        exact sb.append (List.Sublist.refl _)
      · rw [tk]
        exact sb.trans (List.sublist_append_left _ _)
    · obtain ⟨k3, b3, M, m3, sb⟩ := a
      rw [show (refs L).length = L.length from List.length_map .., List.take_length] at sb
      refine ⟨D2, _, rfl, SqL.of m3, fun tr htr => ⟨by show 2 ≤ sizeLine; decide, fun t ht => ?_⟩⟩
      have k4 : KX [b] H2 (upd H3 tr (.tup (refs M))) := k3.trans (KX.new' htr)
      have r4 : upd H3 tr (.tup (refs M)) tr = some (.tup (refs M)) := upd_same
      have b4 : Bag (upd H3 tr (.tup (refs M))) b := b3.kx (KX.new' (S := []) htr) (fun z => nomatch z)
      have p2 := k2.get0 p1
      have p4 : upd H3 tr (.tup (refs M)) tp = some (.tup (sV zs)) := bag_kd b2 k4 _ _ p2 rfl
      have q4 : ∀ x ∈ M, PrAt (upd H3 tr (.tup (refs M))) x := fun x hx => (hL x (sb.subset hx)).kd (bag_kd b2 k4)
      generalize upd H3 tr (.tup (refs M)) = H4 at k4 r4 b4 p4 q4 ht ⊢
      have k5 : KX [] H4 (upd H4 t (.tup [.ref tp, .ref tr])) := KX.new' ht
      refine k t zs M _ (((k1.trans k2).of.trans k4).trans k5.of) (b4.kx k5 (fun z => nomatch z)) ⟨tp, tr, upd_same, k5.get0 p4, k5.get0 r4, fun x hx => (q4 x hx).kd k5.kd0⟩ ⟨ord, by rw [pm.length_eq]; exact l1, lz, fun z hz => ok z (pm.mem_iff.mp hz), ?_⟩
      rw [← eL]
      exact sb.map _
theorem ok_frame {f : Addr} {fd : FuncData} (F : Fun K "_law_frame" "_law_frame" st__law_frame f fd) (T : Txt mg C) (d__law_draw : Def P w K mg base "_law_draw" 1 ["_law_bag_here", "_law_total"] spDraw) (d__law_names : Def P w K mg base "_law_names" 3 ["_law_bag_here", "_law_many"] spLNames)
    (d__law_frame_on : Def P w K mg base "_law_frame_on" 2 ["_law_bag_here", "_law_names_here", "_law_share"] spFrameOn) : FnOk P w K mg base CX0 4 f fd ["_law_bag_here", "_law_least", "_law_most", "_law_share"] spFrame := by
  refine F.ok sc__law_frame (fun vs H Q E h => ?_) (fun cdv A outer s H vs Q E hr h => ?_)
  · obtain ⟨b, s, rfl, _⟩ := h
    rfl
  · obtain ⟨b, s, rfl, hb, k⟩ := h
    refine ⟨_, (pss_one (ps_ret (pe_def d__law_frame_on hr (pa_cons (pv 0) (pa_cons (pe_def d__law_names hr (pa_cons (pv 0) (pa_cons (pe_op op_add (pv 1) (pe_def d__law_draw hr (pa_cons (pv 0) (pa_cons (pe_op op_add (pe_op op_sub (pv 2) (pv 1)) pe_int) pa_nil)))) pa_nil))) (pa_cons (pv 3) pa_nil)))))), ?_⟩
    refine ⟨_, rfl, _, rfl, _, rfl, _, rfl, _, rfl, _, rfl, _, _, rfl, rfl, _, _, rfl, rfl, b, _, rfl, hb, (by decide), (by decide), fun r H1 hr1 k1 b1 => ⟨_, _, rfl, rfl, ?_⟩⟩
    have hr2 : (r : Int) < 6 - 1 + 1 := hr1
    refine ⟨b, 1 + r, ?_, b1, by omega, by omega, fun D zs H2 k2 b2 _ d2 lz nd ok => ⟨_, rfl, b, D, zs, s, rfl, b2, d2, by omega, by omega, nd, ok, fun t zs2 L H3 k3 b3 pl pp => k t zs2 L H3 ((k1.trans k2).trans k3) b3 pl pp⟩⟩
    rw [show ((1 + r : Nat) : Int) = 1 + (r : Int) by omega]
theorem ok_spot {f : Addr} {fd : FuncData} (F : Fun K "_law_spot" "_law_spot" st__law_spot f fd) (T : Txt mg C) (d__law_draw : Def P w K mg base "_law_draw" 1 ["_law_bag_here", "_law_total"] spDraw) : FnOk P w K mg base CX0 2 f fd ["_law_bag_here", "_law_space", "_law_spread"] spSpot := by
  refine F.ok sc__law_spot (fun vs H Q E h => ?_) (fun cdv A outer s H vs Q E hr h => ?_)
  · obtain ⟨b, n, s, rfl, _⟩ := h
    rfl
  · obtain ⟨b, n, s, rfl, hb, n2, s6, k⟩ := h
    refine ⟨_, (pss_one (ps_ret (pe_callTy (tupK K) (by rfl) T.tuple (by decide +kernel) (pa_cons (pe_lc (own := [("_law_turn", 3)]) (g := (gName 3)) (tt := tYes) rfl sc__law_spot.nd (pi_range1 (by rfl) T.range (pa_cons (pv 1) pa_nil)) (blkOk_by (N := ["_law_bag_here", "_law_space", "_law_spread", "_law_turn"]) (sc := defScope st__law_spot) (own := [("_law_turn", 3)]) (by decide +kernel)) (fun _ _ _ _ _ => (pg_name (i := 3) sc__law_spot.nd rfl (by first | exact Or.inl rfl | exact Or.inr rfl))) (fun _ _ _ _ _ => pts_nil) (fun _ _ _ _ _ => (pe_op op_sub (pe_def d__law_draw hr (pa_cons (pv 0) (pa_cons (pe_op op_add (pe_op op_mul pe_int (pv 2)) pe_int) pa_nil))) (pv 2)))) pa_nil)))), ?_⟩
    refine ⟨_, rfl, _, rfl, by omega, by omega, fun D hD => ?_⟩
    have nD : D ≠ b := bag_ne hb hD
    rw [Int.toNat_natCast]
    refine any_it walk_range (fun i H' => KX [b] H H' ∧ Bag H' b ∧ ∃ xs : List Int, H' D = some (.lst (iV xs)) ∧ xs.length = i ∧ ∀ x ∈ xs, x.natAbs ≤ s) ⟨KX.new' hD, hb.kx (KX.new' (S := []) hD) (fun z => nomatch z), [], upd_same, rfl, fun x hx => nomatch hx⟩ (fun _ _ _ _ => trivial) (fun i v H2 H3 hi a y => ?_) fun H2 a => ?_
    · obtain ⟨rfl, rfl⟩ := y
      obtain ⟨k3, b3, xs, d3, lx, ok⟩ := a
      refine ⟨rfl, yesT ⟨_, rfl, _, rfl, _, _, rfl, rfl, .inl ⟨by decide, by decide⟩, _, _, rfl, rfl, b, _, rfl, b3, (by omega), (by omega), fun r H4 hr4 k4 b4 => ?_⟩⟩
      have d4 := k4 _ _ (fun z => nD (List.mem_singleton.mp z)) d3
      refine ⟨_, rfl, _, _, rfl, rfl, _, d4, ?_, (k3.trans k4).new hD, ?_, xs ++ [(r : Int) - s], ?_, ?_, fun x hx => ?_⟩
      · rw [List.length_map]
        exact Nat.lt_of_le_of_lt (show xs.length ≤ 2 by omega) (by decide)
      · obtain ⟨i1, i2, i3, e⟩ := b4
        exact ⟨i1, i2, i3, by rw [upd_ne nD.symm]; exact e⟩
      · rw [upd_same]
        simp [iV]
      · rw [List.length_append, lx]
        rfl
      · rcases List.mem_append.mp hx with q | q
        · exact ok x q
        · rw [List.mem_singleton.mp q]
          omega
    · obtain ⟨k3, b3, xs, d3, lx, ok⟩ := a
      refine ⟨D, _, rfl, SqL.of d3, fun t ht => ?_⟩
      have k4 : KX [] H2 (upd H2 t (.tup (iV xs))) := KX.new' ht
      exact k t xs _ (k3.trans k4.of) (b3.kx k4 (fun z => nomatch z)) upd_same lx ok
theorem ok_placing {f : Addr} {fd : FuncData} (F : Fun K "_law_placing" "_law_placing" st__law_placing f fd) (T : Txt mg C) (d__law_spot : Def P w K mg base "_law_spot" 2 ["_law_bag_here", "_law_space", "_law_spread"] spSpot) : FnOk P w K mg base CX0 3 f fd ["_law_bag_here", "_law_pins", "_law_space", "_law_spread"] spPlacing := by
  refine F.ok sc__law_placing (fun vs H Q E h => ?_) (fun cdv A outer s H vs Q E hr h => ?_)
  · obtain ⟨b, t, zs, n, s, rfl, _⟩ := h
    rfl
  · obtain ⟨b, t, zs, n, s, rfl, hb, ht, ord, l6, n2, s6, k⟩ := h
    have hu := hu_of hr
    refine ⟨_, (pss_one (ps_ret (pe_callTy (dictPK K) (by rfl) T.dict (by decide +kernel) (pa_cons (pe_lc (own := [("_law_pin", 4)]) (g := (gName 4)) (tt := tYes) rfl sc__law_placing.nd (piL K (pe_callB (sortTxK K) (by rfl) T.sorted (by decide +kernel) (pa_cons (pv 1) pa_nil))) (blkOk_by (N := ["_law_bag_here", "_law_pins", "_law_space", "_law_spread", "_law_pin"]) (sc := defScope st__law_placing) (own := [("_law_pin", 4)]) (by decide +kernel)) (fun _ _ _ _ _ => (pg_name (i := 4) sc__law_placing.nd rfl (by first | exact Or.inl rfl | exact Or.inr rfl))) (fun _ _ _ _ _ => pts_nil) (fun _ _ _ _ _ => (pe_tup (pa_cons (pv 4) (pa_cons (pe_def d__law_spot hr (pa_cons (pv 0) (pa_cons (pv 2) (pa_cons (pv 3) pa_nil)))) pa_nil))))) pa_nil)))), ?_⟩
    refine ⟨_, rfl, t, zs, rfl, .inr (SqT.of ht), by omega, fun ys D pm so hD => ?_⟩
    obtain rfl : zs = ys := (sorted_same pm so ord).symm
    have nD : D ≠ b := bag_ne hb hD
    have k1 : KX [] H (upd H D (.lst (sV zs))) := KX.new' hD
    have d1 : upd H D (.lst (sV zs)) D = some (.lst (sV zs)) := upd_same
    have b1 := hb.kx k1 (fun z => nomatch z)
    have nd := pair_nodup ord
    refine ⟨D, rfl, ⟨_, SqL.of d1⟩, fun D2 hD2 => ?_⟩
    generalize upd H D (.lst (sV zs)) = H1 at k1 d1 b1 hD2 ⊢
    have nD2 : D2 ≠ b := bag_ne b1 hD2
    have el : (sV zs).length = zs.length := List.length_map ..
    refine any_it walk_list (fun i H' => KX [b] H1 H' ∧ Bag H' b ∧ ∃ p : Str → List Int, DP H' D2 (zs.take i) p ∧ ∀ z ∈ zs.take i, (p z).length = n ∧ ∀ x ∈ p z, x.natAbs ≤ s) ⟨KX.new' hD2, b1.kx (KX.new' (S := []) hD2) (fun z => nomatch z), fun _ => [], DP.zero, fun z hz => by simp at hz⟩ (fun i H' _ a => SqL.of (a.1 _ _ (fun z => nD (List.mem_singleton.mp z)) d1)) (fun i v H2 H3 hi a y => ?_) fun H2 a => ?_
    · obtain ⟨rfl, hx⟩ := y
      obtain ⟨hi2, rfl⟩ := at_sV hx
      obtain ⟨k3, b3, p, dp, ok⟩ := a
      refine ⟨rfl, yesT ⟨_, rfl, _, rfl, _, rfl, _, rfl, b, n, s, rfl, b3, n2, s6, fun u xs H4 k4 b4 u4 lx okx => ⟨by show 2 ≤ sizeLine; decide, fun c hc => ?_⟩⟩⟩
      have nin := not_take nd hi2
      have dp4 : DP H4 D2 (zs.take i) (fun x => if x = zs[i] then xs else p x) := (dp.keep (bag_kd b3 k4) (fun o e => k4 _ _ (fun z => nD2 (List.mem_singleton.mp z)) e)).congr fun x hx => by
        show p x = if x = zs[i] then xs else p x
        rw [if_neg (fun e => nin (by rw [← e]; exact hx))]
      obtain ⟨acc, c1, c2, c3⟩ := dp4.step (z := zs[i]) (t := u) (u := c) (by show H4 u = _; simpa using u4) hc (by rw [List.length_take]; omega)
      refine ⟨acc, c1, c2, ((k3.trans k4).new ((k3.trans k4).free (fun z => bag_ne b4 hc (List.mem_singleton.mp z)) hc)).new hD2, ?_, _, by rw [take_one hi2]; exact c3, fun z hz => ?_⟩
      · obtain ⟨i1, i2, i3, e⟩ := b4
        exact ⟨i1, i2, i3, by rw [upd_ne nD2.symm, upd_ne (bag_ne ⟨i1, i2, i3, e⟩ hc).symm]; exact e⟩
      · rw [take_one hi2] at hz
        rcases List.mem_append.mp hz with q | q
        · show ((if z = zs[i] then xs else p z).length = n) ∧ ∀ x ∈ (if z = zs[i] then xs else p z), x.natAbs ≤ s
          rw [if_neg (fun e => nin (by rw [← e]; exact q))]
          exact ok z q
        · rw [List.mem_singleton.mp q]
          show ((if zs[i] = zs[i] then xs else p zs[i]).length = n) ∧ ∀ x ∈ (if zs[i] = zs[i] then xs else p zs[i]), x.natAbs ≤ s
          rw [if_pos rfl]
          exact ⟨lx, okx⟩
    · obtain ⟨k3, b3, p, dp, ok⟩ := a
      rw [el, List.take_length] at dp ok
      obtain ⟨ps, kvs, e1, e2, e3⟩ := dp.dict (K := K) nd
      refine ⟨D2, ps, kvs, rfl, e1, e2, fun d hd => ?_⟩
      have k4 : KX [] H2 (upd H2 d (.dK (mergeK [] kvs))) := KX.new' hd
      exact k d p _ ((k1.of.trans k3).trans k4.of) (b3.kx k4 (fun z => nomatch z)) (e3 d hd) ok
end
end K14
/-! plain arithmetic of the elimination: sizes, divisors. No program in sight. -/
namespace K14
/-- the entry at a place -/
def at_ (r : List Int) (i : Nat) : Int := r.getD i 0
theorem at_lt {r : List Int} {i : Nat} (h : i < r.length) : at_ r i = r[i] := by
  unfold at_
  rw [List.getD_eq_getElem?_getD, List.getElem?_eq_getElem h]
  rfl
theorem at_ge {r : List Int} {i : Nat} (h : r.length ≤ i) : at_ r i = 0 := by
  unfold at_
  rw [List.getD_eq_getElem?_getD, List.getElem?_eq_none_iff.mpr h]
  rfl
theorem at_mem {r : List Int} {i : Nat} (h : i < r.length) : at_ r i ∈ r := by
  rw [at_lt h]
  exact List.getElem_mem h
theorem mem_at {r : List Int} {x : Int} (h : x ∈ r) : ∃ i, i < r.length ∧ at_ r i = x := by
  obtain ⟨i, hi, e⟩ := List.getElem_of_mem h
  exact ⟨i, hi, by rw [at_lt hi, e]⟩
/-! ### the greatest common divisor of a list -/
def glF (f : Nat) (xs : List Int) : Nat := xs.foldl (fun f n => Nat.gcd f n.natAbs) f
def gl (xs : List Int) : Nat := glF 0 xs
theorem glF_dvd : ∀ (xs : List Int) (f : Nat), glF f xs ∣ f ∧ ∀ x ∈ xs, glF f xs ∣ x.natAbs
  | [], _ => ⟨Nat.dvd_refl _, fun x h => nomatch h⟩
  | y :: ys, f => by
    have ih := glF_dvd ys (Nat.gcd f y.natAbs)
    have e : glF f (y :: ys) = glF (Nat.gcd f y.natAbs) ys := rfl
    rw [e]
    refine ⟨Nat.dvd_trans ih.1 (Nat.gcd_dvd_left _ _), fun x hx => ?_⟩
    rcases List.mem_cons.mp hx with rfl | hx
    · exact Nat.dvd_trans ih.1 (Nat.gcd_dvd_right _ _)
    · exact ih.2 x hx
theorem dvd_glF : ∀ (xs : List Int) (f d : Nat), d ∣ f → (∀ x ∈ xs, d ∣ x.natAbs) → d ∣ glF f xs
  | [], _, _, h, _ => h
  | y :: ys, f, d, h, hx => dvd_glF ys _ d (Nat.dvd_gcd h (hx y List.mem_cons_self)) fun x q => hx x (List.mem_cons_of_mem _ q)
theorem gl_dvd {xs : List Int} {x : Int} (h : x ∈ xs) : gl xs ∣ x.natAbs := (glF_dvd xs 0).2 x h
theorem dvd_gl {xs : List Int} {d : Nat} (h : ∀ x ∈ xs, d ∣ x.natAbs) : d ∣ gl xs := dvd_glF xs 0 d (Nat.dvd_zero d) h
theorem gl_zero {xs : List Int} (h : gl xs = 0) : ∀ x ∈ xs, x = 0 := fun x hx => by
  have q := gl_dvd hx
  rw [h] at q
  exact Int.natAbs_eq_zero.mp (Nat.eq_zero_of_zero_dvd q)
theorem gl_le {xs : List Int} {x : Int} (h : x ∈ xs) (hx : x ≠ 0) : gl xs ≤ x.natAbs := Nat.le_of_dvd (Nat.pos_of_ne_zero fun z => hx (Int.natAbs_eq_zero.mp z)) (gl_dvd h)
theorem gl_lt {xs : List Int} {B : Nat} (hB : 0 < B) (h : ∀ x ∈ xs, x.natAbs < B) : gl xs < B := by
  by_cases z : gl xs = 0
  · rw [z]
    exact hB
  · have : ∃ x ∈ xs, x ≠ 0 := by
      refine Classical.byContradiction fun n => z ?_
      have hall : ∀ x ∈ xs, x = 0 := fun x hx => Classical.byContradiction fun q => n ⟨x, hx, q⟩
      have := dvd_gl (xs := xs) (d := 0) fun x hx => by
        rw [hall x hx]
        exact Nat.dvd_refl _
      exact Nat.eq_zero_of_zero_dvd this
    obtain ⟨x, hx, hn⟩ := this
    exact Nat.lt_of_le_of_lt (gl_le hx hn) (h x hx)
/-! ### a row cleared of it -/
def clr (r : List Int) : List Int := if gl r < 2 then r else r.map fun x => x / (gl r : Int)
theorem clr_len (r : List Int) : (clr r).length = r.length := by
  unfold clr
  split
  · rfl
  · exact List.length_map _
theorem at_map (f : Int → Int) (h0 : f 0 = 0) (r : List Int) (i : Nat) : at_ (r.map f) i = f (at_ r i) := by
  unfold at_
  rw [List.getD_eq_getElem?_getD, List.getElem?_map, List.getD_eq_getElem?_getD]
  cases r[i]? with
  | none => exact h0.symm
  | some x => rfl
theorem clr_at (r : List Int) : ∃ g : Nat, 0 < g ∧ (∀ i, at_ r i = (g : Int) * at_ (clr r) i) ∧ gl (clr r) ≤ 1 := by
  unfold clr
  by_cases h : gl r < 2
  · rw [if_pos h]
    exact ⟨1, Nat.one_pos, fun i => by rw [Int.natCast_one, Int.one_mul], by omega⟩
  · rw [if_neg h]
    have hg : (gl r : Int) ≠ 0 := by omega
    have ev : ∀ i, at_ r i = (gl r : Int) * at_ (r.map fun x => x / (gl r : Int)) i := fun i => by
      rw [at_map (fun x => x / (gl r : Int)) (Int.zero_ediv _)]
      show at_ r i = (gl r : Int) * (at_ r i / (gl r : Int))
      by_cases hi : i < r.length
      · have d : (gl r : Int) ∣ at_ r i := Int.natAbs_dvd_natAbs.mp (by rw [Int.natAbs_natCast]; exact gl_dvd (at_mem hi))
        rw [Int.mul_ediv_cancel' d]
      · rw [at_ge (by omega), Int.zero_ediv, Int.mul_zero]
    refine ⟨gl r, by omega, ev, ?_⟩
    have d : gl (r.map fun x => x / (gl r : Int)) * gl r ∣ gl r := dvd_gl fun x hx => by
      obtain ⟨i, hi, e⟩ := mem_at hx
      have e2 := ev i
      rw [e] at e2
      have hm : at_ (r.map fun x => x / (gl r : Int)) i ∈ r.map fun x => x / (gl r : Int) := at_mem (by rw [List.length_map]; exact hi)
      have q := gl_dvd hm
      rw [e2, Int.natAbs_mul, Int.natAbs_natCast, Nat.mul_comm]
      exact Nat.mul_dvd_mul_left _ q
    have : gl (r.map fun x => x / (gl r : Int)) * gl r ≤ 1 * gl r := by
      rw [Nat.one_mul]
      exact Nat.le_of_dvd (by omega) d
    exact Nat.le_of_mul_le_mul_right this (by omega)
theorem clr_le {r : List Int} {B : Nat} (h : ∀ i, (at_ r i).natAbs < B) (i : Nat) : (at_ (clr r) i).natAbs < B := by
  obtain ⟨g, hg, e, _⟩ := clr_at r
  have q := h i
  rw [e i, Int.natAbs_mul, Int.natAbs_natCast] at q
  exact Nat.lt_of_le_of_lt (Nat.le_mul_of_pos_left _ hg) q
/-! ### a row less its part along a head -/
def lessL (r h : List Int) (c : Nat) : List Int := if at_ r c = 0 then r else clr (List.zipWith (fun a b => a * at_ h c - b * at_ r c) r h)
theorem zip_len {r h : List Int} (e : h.length = r.length) (f : Int → Int → Int) : (List.zipWith f r h).length = r.length := by
  rw [List.length_zipWith, e, Nat.min_self]
theorem less_len {r h : List Int} (e : h.length = r.length) (c : Nat) : (lessL r h c).length = r.length := by
  unfold lessL
  split
  · rfl
  · rw [clr_len, zip_len e]
theorem zip_at {r h : List Int} (e : h.length = r.length) (u v : Int) (i : Nat) : at_ (List.zipWith (fun a b => a * u - b * v) r h) i = at_ r i * u - at_ h i * v := by
  by_cases hi : i < r.length
  · rw [at_lt (by rw [zip_len e]; exact hi), List.getElem_zipWith, at_lt hi, at_lt (by rw [e]; exact hi)]
  · rw [at_ge (by rw [zip_len e]; omega), at_ge (by omega), at_ge (by omega), Int.zero_mul, Int.zero_mul]
    rfl
theorem less_at {r h : List Int} (e : h.length = r.length) {c : Nat} (hc : at_ h c ≠ 0) : ∃ g : Int, g ≠ 0 ∧ ∀ i, at_ r i * at_ h c - at_ h i * at_ r c = g * at_ (lessL r h c) i := by
  unfold lessL
  by_cases z : at_ r c = 0
  · rw [if_pos z]
    exact ⟨at_ h c, hc, fun i => by rw [z, Int.mul_zero, Int.sub_zero, Int.mul_comm]⟩
  · rw [if_neg z]
    obtain ⟨g, hg, ev, _⟩ := clr_at (List.zipWith (fun a b => a * at_ h c - b * at_ r c) r h)
    exact ⟨g, by omega, fun i => by rw [← ev i, zip_at e]⟩
theorem abs_sub_lt {a b : Int} {B : Nat} (ha : a.natAbs < B) (hb : b.natAbs < B) : (a - b).natAbs < 2 * B := by omega
theorem mul_lt2 {a b : Int} {m n : Nat} (ha : a.natAbs < 2 ^ m) (hb : b.natAbs < 2 ^ n) : (a * b).natAbs < 2 ^ (m + n) := by
  rw [Int.natAbs_mul, Nat.pow_add]
  exact Nat.mul_lt_mul'' ha hb
theorem less_raw {r h : List Int} {m c : Nat} (hr : ∀ i, (at_ r i).natAbs < 2 ^ m) (hh : ∀ i, (at_ h i).natAbs < 2 ^ m) (i : Nat) :
    (at_ r i * at_ h c - at_ h i * at_ r c).natAbs < 2 ^ (m + m + 1) := by
  rw [Nat.pow_succ, Nat.mul_comm]
  exact abs_sub_lt (mul_lt2 (hr i) (hh c)) (mul_lt2 (hh i) (hr c))
theorem less_lt {r h : List Int} (e : h.length = r.length) {m c : Nat} (hr : ∀ i, (at_ r i).natAbs < 2 ^ m) (hh : ∀ i, (at_ h i).natAbs < 2 ^ m) (i : Nat) :
    (at_ (lessL r h c) i).natAbs < 2 ^ (m + m + 1) := by
  unfold lessL
  split
  · exact Nat.lt_of_lt_of_le (hr i) (Nat.pow_le_pow_right (by decide) (by omega))
  · exact clr_le (fun j => by rw [zip_at e]; exact less_raw hr hh j) i
/-- the divisor of a row is small -/
def Pr (r : List Int) : Prop := gl r = 0 ∨ gl r ∣ 27720
theorem Pr.le1 {r : List Int} (h : gl r ≤ 1) : Pr r := by
  by_cases z : gl r = 0
  · exact .inl z
  · have e : gl r = 1 := by omega
    exact .inr (by rw [e]; exact Nat.one_dvd _)
theorem small_dvd {n : Nat} (h0 : 0 < n) (h : n ≤ 12) : n ∣ 27720 := by
  have : ∀ k : Nat, k ≤ 12 → 0 < k → k ∣ 27720 := by decide
  exact this n h h0
theorem Pr.small {r : List Int} (h : ∀ x ∈ r, x.natAbs ≤ 12) : Pr r := by
  by_cases z : gl r = 0
  · exact .inl z
  · have := gl_lt (B := 13) (by decide) fun x hx => Nat.lt_succ_of_le (h x hx)
    exact .inr (small_dvd (Nat.pos_of_ne_zero z) (by omega))
theorem Pr.less {r h : List Int} (hr : Pr r) (c : Nat) : Pr (lessL r h c) := by
  unfold lessL
  split
  · exact hr
  · obtain ⟨_, _, _, q⟩ := clr_at (List.zipWith (fun a b => a * at_ h c - b * at_ r c) r h)
    exact Pr.le1 q
/-! ### sums over places -/
def sm : Nat → (Nat → Int) → Int
  | 0, _ => 0
  | n + 1, f => sm n f + f n
theorem sm_congr : ∀ {n : Nat} {f g : Nat → Int}, (∀ i, i < n → f i = g i) → sm n f = sm n g
  | 0, _, _, _ => rfl
  | n + 1, f, g, h => by
    show sm n f + f n = sm n g + g n
    rw [sm_congr fun i hi => h i (Nat.lt_succ_of_lt hi), h n (Nat.lt_succ_self n)]
theorem sm_zero : ∀ {n : Nat} {f : Nat → Int}, (∀ i, i < n → f i = 0) → sm n f = 0
  | 0, _, _ => rfl
  | n + 1, f, h => by
    show sm n f + f n = 0
    rw [sm_zero fun i hi => h i (Nat.lt_succ_of_lt hi), h n (Nat.lt_succ_self n)]
    rfl
theorem sm_lin (u v : Int) : ∀ (n : Nat) (f g : Nat → Int), sm n (fun i => f i * u - g i * v) = sm n f * u - sm n g * v
  | 0, _, _ => by simp [sm]
  | n + 1, f, g => by
    show sm n (fun i => f i * u - g i * v) + (f n * u - g n * v) = (sm n f + f n) * u - (sm n g + g n) * v
    rw [sm_lin u v n f g, Int.add_mul, Int.add_mul]
    omega
theorem sm_mul (u : Int) : ∀ (n : Nat) (f : Nat → Int), sm n (fun i => u * f i) = u * sm n f
  | 0, _ => by simp [sm]
  | n + 1, f => by
    show sm n (fun i => u * f i) + u * f n = u * (sm n f + f n)
    rw [sm_mul u n f, Int.mul_add]
/-- a row sums up to nothing at the places of each coordinate -/
def Orth (s w : Nat) (r : List Int) : Prop := ∀ k, k < s → sm w (fun i => if i % s = k then at_ r i else 0) = 0
theorem Orth.less {s w c : Nat} {r h : List Int} (e : h.length = r.length) (hc : at_ h c ≠ 0) (hr : Orth s w r) (hh : Orth s w h) : Orth s w (lessL r h c) := fun k hk => by
  obtain ⟨g, hg, ev⟩ := less_at e hc
  have z : g * sm w (fun i => if i % s = k then at_ (lessL r h c) i else 0) = 0 := by
    rw [← sm_mul]
    rw [sm_congr (g := fun i => (if i % s = k then at_ r i else 0) * at_ h c - (if i % s = k then at_ h i else 0) * at_ r c) fun i _ => by
      by_cases q : i % s = k
      · rw [if_pos q, if_pos q, if_pos q, ev i]
      · rw [if_neg q, if_neg q, if_neg q]
        omega]
    rw [sm_lin, hr k hk, hh k hk]
    omega
  exact (Int.mul_eq_zero.mp z).resolve_left hg
/-- a row that is 0 ahead of its last pin is 0 everywhere -/
theorem Orth.all {s n : Nat} {r : List Int} (hs : s = 1 ∨ s = 2) (hn : 1 ≤ n) (h : Orth s (s * n) r) (z : ∀ i, i < s * n - s → at_ r i = 0) (i : Nat) (hi : i < s * n) : at_ r i = 0 := by
  by_cases q : i < s * n - s
  · exact z i q
  · rcases hs with rfl | rfl
    · have e := h 0 (by decide)
      obtain ⟨m, rfl⟩ : ∃ m, n = m + 1 := ⟨n - 1, by omega⟩
      rw [Nat.one_mul] at e hi q z
      have : i = m := by omega
      subst this
      have e2 : sm i (fun j => if j % 1 = 0 then at_ r j else 0) + (if i % 1 = 0 then at_ r i else 0) = 0 := e
      rw [sm_zero fun j hj => by rw [z j (by omega)]; split <;> rfl, if_pos (Nat.mod_one i)] at e2
      omega
    · obtain ⟨m, rfl⟩ : ∃ m, n = m + 1 := ⟨n - 1, by omega⟩
      have hw : 2 * (m + 1) = 2 * m + 1 + 1 := by omega
      have key : ∀ k, k < 2 → at_ r (2 * m + k) = 0 := fun k hk => by
        have e := h k hk
        rw [hw] at e
        have e2 : sm (2 * m) (fun j => if j % 2 = k then at_ r j else 0) + (if (2 * m) % 2 = k then at_ r (2 * m) else 0) + (if (2 * m + 1) % 2 = k then at_ r (2 * m + 1) else 0) = 0 := e
        rw [sm_zero fun j hj => by rw [z j (by omega)]; split <;> rfl] at e2
        have : k = 0 ∨ k = 1 := by omega
        rcases this with rfl | rfl
        · rw [if_pos (by omega), if_neg (by omega)] at e2
          show at_ r (2 * m) = 0
          omega
        · rw [if_neg (by omega), if_pos (by omega)] at e2
          omega
      have : i = 2 * m + 0 ∨ i = 2 * m + 1 := by omega
      rcases this with rfl | rfl
      · exact key 0 (by decide)
      · exact key 1 (by decide)
/-! ### the elimination's invariant -/
def E (e : Nat) : Nat := 5 * 2 ^ e
theorem E_succ (e : Nat) : E (e + 1) = E e + E e := by
  unfold E
  rw [Nat.pow_succ]
  omega
theorem E_pos (e : Nat) : 5 ≤ E e := by
  unfold E
  have := Nat.one_le_two_pow (n := e)
  omega
theorem E_mono {a b : Nat} (h : a ≤ b) : E a ≤ E b := Nat.mul_le_mul_left 5 (Nat.pow_le_pow_right (by decide) h)
theorem lt_pow {x m n : Nat} (h : x < 2 ^ m) (hm : m ≤ n) : x < 2 ^ n := Nat.lt_of_lt_of_le h (Nat.pow_le_pow_right (by decide) hm)
/-- a row as it stands behind e heads -/
structure Row (s w e : Nat) (r : List Int) : Prop where
  len : r.length = w
  lt : ∀ i, (at_ r i).natAbs < 2 ^ (E e - 1)
  pr : Pr r
  orth : Orth s w r
theorem Row.less {s w e c : Nat} {r h : List Int} (R : Row s w e r) (H : Row s w e h) (hc : at_ h c ≠ 0) : Row s w (e + 1) (lessL r h c) where
  len := by rw [less_len (by rw [H.len, R.len]), R.len]
  lt := fun i => lt_pow (less_lt (by rw [H.len, R.len]) R.lt H.lt i) (by have := E_pos e; rw [E_succ]; omega)
  pr := R.pr.less c
  orth := Orth.less (by rw [H.len, R.len]) hc R.orth H.orth
theorem Row.up {s w e : Nat} {r : List Int} (R : Row s w e r) : Row s w (e + 1) r :=
  ⟨R.len, fun i => lt_pow (R.lt i) (by rw [E_succ]; omega), R.pr, R.orth⟩
/-- a lead: its pivot divides the multiples by D of its entries -/
structure Lead (s w e c : Nat) (D : Int) (l : Nat × List Int) : Prop where
  row : Row s w e l.2
  lo : l.1 < c
  hi : l.1 < w
  ne : at_ l.2 l.1 ≠ 0
  a : ∃ a : Nat → Int, ∀ j, D * at_ l.2 j = at_ l.2 l.1 * a j ∧ (a j).natAbs < 2 ^ E e
structure KI (s w c e : Nat) (left : List (List Int)) (leads : List (Nat × List Int)) (D : Int) : Prop where
  rows : ∀ r ∈ left, Row s w e r
  zero : ∀ r ∈ left, ∀ i, i < c → at_ r i = 0
  leads : ∀ l ∈ leads, Lead s w e c D l
  d0 : D ≠ 0
  dlt : D.natAbs < 2 ^ E e
  ec : e ≤ c
  e10 : e ≤ 10
theorem Lead.less {s w e c : Nat} {D : Int} {l : Nat × List Int} {h : List Int} (L : Lead s w e c D l) (H : Row s w e h) (hz : ∀ i, i < c → at_ h i = 0) (hc : at_ h c ≠ 0) :
    Lead s w (e + 1) (c + 1) (D * at_ h c) (l.1, lessL l.2 h c) := by
  obtain ⟨p, r⟩ := l
  obtain ⟨g, hg, ev⟩ := less_at (r := r) (h := h) (c := c) (by rw [H.len]; exact L.row.len.symm) hc
  obtain ⟨a, ha⟩ := L.a
  have lo : p < c := L.lo
  have hp : at_ h p = 0 := hz p lo
  have ne : at_ r p ≠ 0 := L.ne
  have evp := ev p
  rw [hp, Int.zero_mul, Int.sub_zero] at evp
  refine ⟨L.row.less H hc, Nat.lt_succ_of_lt lo, L.hi, fun z => ?_, fun j => a j * at_ h c - at_ h j * a c, fun j => ⟨?_, ?_⟩⟩
  · have z' : at_ (lessL r h c) p = 0 := z
    rw [z', Int.mul_zero] at evp
    rcases Int.mul_eq_zero.mp evp with q | q
    · exact ne q
    · exact hc q
  · show D * at_ h c * at_ (lessL r h c) j = at_ (lessL r h c) p * (a j * at_ h c - at_ h j * a c)
    refine Int.eq_of_mul_eq_mul_left hg ?_
    have e1 : g * (D * at_ h c * at_ (lessL r h c) j) = at_ h c * (D * (g * at_ (lessL r h c) j)) := by
      simp only [Int.mul_assoc, Int.mul_left_comm]
    have e2 : g * (at_ (lessL r h c) p * (a j * at_ h c - at_ h j * a c)) = (g * at_ (lessL r h c) p) * (a j * at_ h c - at_ h j * a c) := (Int.mul_assoc _ _ _).symm
    have haj : D * at_ r j = at_ r p * a j := (ha j).1
    have hac : D * at_ r c = at_ r p * a c := (ha c).1
    rw [e1, e2, ← ev j, ← evp]
    have e3 : D * (at_ r j * at_ h c - at_ h j * at_ r c) = (D * at_ r j) * at_ h c - at_ h j * (D * at_ r c) := by
      rw [Int.mul_sub, Int.mul_assoc, ← Int.mul_assoc D (at_ h j), Int.mul_comm D (at_ h j), Int.mul_assoc (at_ h j)]
    rw [e3, haj, hac]
    have e4 : at_ r p * a j * at_ h c - at_ h j * (at_ r p * a c) = at_ r p * (a j * at_ h c - at_ h j * a c) := by
      rw [Int.mul_sub, Int.mul_assoc, ← Int.mul_assoc (at_ h j), Int.mul_comm (at_ h j) (at_ r p), Int.mul_assoc]
    rw [e4, ← Int.mul_assoc, Int.mul_comm (at_ h c)]
  · have k1 : (a j * at_ h c).natAbs < 2 ^ (E e + (E e - 1)) := mul_lt2 (ha j).2 (H.lt c)
    have k2 : (at_ h j * a c).natAbs < 2 ^ (E e - 1 + E e) := mul_lt2 (H.lt j) (ha c).2
    have := E_pos e
    have q := abs_sub_lt (B := 2 ^ (E e + E e - 1)) (lt_pow k1 (by omega)) (lt_pow k2 (by omega))
    refine Nat.lt_of_lt_of_le q ?_
    rw [E_succ, ← Nat.pow_succ']
    exact Nat.pow_le_pow_right (by decide) (by omega)
/-- a column without a head -/
theorem KI.pass {s w c e : Nat} {left : List (List Int)} {leads : List (Nat × List Int)} {D : Int} (I : KI s w c e left leads D) (h : ∀ r ∈ left, at_ r c = 0) : KI s w (c + 1) e left leads D where
  rows := I.rows
  zero := fun r hr i hi => by
    by_cases q : i < c
    · exact I.zero r hr i q
    · have : i = c := by omega
      subst this
      exact h r hr
  leads := fun l hl => ⟨(I.leads l hl).row, Nat.lt_succ_of_lt (I.leads l hl).lo, (I.leads l hl).hi, (I.leads l hl).ne, (I.leads l hl).a⟩
  d0 := I.d0
  dlt := I.dlt
  ec := Nat.le_succ_of_le I.ec
  e10 := I.e10
/-- a head stands ahead of the last pin only -/
theorem KI.early {s n c e : Nat} {left : List (List Int)} {leads : List (Nat × List Int)} {D : Int} (hs : s = 1 ∨ s = 2) (hn : 1 ≤ n) (hn6 : n ≤ 6) (I : KI s (s * n) c e left leads D) {h : List Int} (hm : h ∈ left) (hc : c < s * n) (hz : at_ h c ≠ 0) : c ≤ 9 := by
  refine Classical.byContradiction fun q => hz ?_
  refine (I.rows h hm).orth.all hs hn (fun i hi => I.zero h hm i ?_) c hc
  rcases hs with rfl | rfl <;> omega
theorem KI.turn {s w c e : Nat} {left rest : List (List Int)} {leads : List (Nat × List Int)} {D : Int} (I : KI s w c e left leads D) {h : List Int} (hm : h ∈ left) (hsub : ∀ r ∈ rest, r ∈ left) (hw : c < w) (hc9 : c ≤ 9) (hz : at_ h c ≠ 0) :
    KI s w (c + 1) (e + 1) (rest.map fun r => lessL r h c) ((leads.map fun l => (l.1, lessL l.2 h c)) ++ [(c, h)]) (D * at_ h c) := by
  have H := I.rows h hm
  have hzero := I.zero h hm
  refine ⟨fun r hr => ?_, fun r hr i hi => ?_, fun l hl => ?_, fun z => ?_, ?_, ?_, ?_⟩
  · obtain ⟨r0, h0, rfl⟩ := List.mem_map.mp hr
    exact (I.rows r0 (hsub r0 h0)).less H hz
  · obtain ⟨r0, h0, rfl⟩ := List.mem_map.mp hr
    have R := I.rows r0 (hsub r0 h0)
    obtain ⟨g, hg, ev⟩ := less_at (r := r0) (h := h) (c := c) (by rw [H.len, R.len]) hz
    have q : g * at_ (lessL r0 h c) i = 0 := by
      rw [← ev i]
      by_cases hic : i < c
      · rw [I.zero r0 (hsub r0 h0) i hic, hzero i hic]
        omega
      · have : i = c := by omega
        subst this
        rw [Int.mul_comm]
        omega
    exact (Int.mul_eq_zero.mp q).resolve_left hg
  · rcases List.mem_append.mp hl with hl | hl
    · obtain ⟨l0, h0, rfl⟩ := List.mem_map.mp hl
      exact (I.leads l0 h0).less H hzero hz
    · have e1 : l = (c, h) := by simpa using hl
      subst e1
      refine ⟨H.up, Nat.lt_succ_self c, hw, hz, fun j => D * at_ h j, fun j => ⟨?_, ?_⟩⟩
      · show D * at_ h c * at_ h j = at_ h c * (D * at_ h j)
        simp only [Int.mul_assoc, Int.mul_left_comm]
      · exact lt_pow (mul_lt2 I.dlt (H.lt j)) (by rw [E_succ]; omega)
  · rcases Int.mul_eq_zero.mp z with q | q
    · exact I.d0 q
    · exact hz q
  · exact lt_pow (mul_lt2 I.dlt (H.lt c)) (by rw [E_succ]; omega)
  · have := I.ec
    omega
  · have := I.ec
    omega
theorem KI.start {s w : Nat} {rows : List (List Int)} (hl : ∀ r ∈ rows, r.length = w) (hb : ∀ r ∈ rows, ∀ x ∈ r, x.natAbs ≤ 12) (ho : ∀ r ∈ rows, Orth s w r) : KI s w 0 0 rows [] 1 where
  rows := fun r hr => ⟨hl r hr, fun i => by
    show (at_ r i).natAbs < 16
    by_cases q : i < r.length
    · have := hb r hr _ (at_mem q)
      omega
    · rw [at_ge (by omega)]
      decide, Pr.small (hb r hr), ho r hr⟩
  zero := fun _ _ _ h => absurd h (Nat.not_lt_zero _)
  leads := fun _ h => nomatch h
  d0 := by decide
  dlt := by decide
  ec := Nat.le_refl _
  e10 := by decide
/-! ### what the kernel's rows need -/
/-- the pivot divides 27720 D -/
theorem Lead.pivot {s w e c : Nat} {D : Int} {l : Nat × List Int} (L : Lead s w e c D l) : (at_ l.2 l.1).natAbs ∣ D.natAbs * 27720 := by
  obtain ⟨a, ha⟩ := L.a
  have d1 : (at_ l.2 l.1).natAbs ∣ gl (l.2.map fun x => D * x) := dvd_gl fun x hx => by
    obtain ⟨y, hy, rfl⟩ := List.mem_map.mp hx
    obtain ⟨j, hj, rfl⟩ := mem_at hy
    rw [(ha j).1, Int.natAbs_mul]
    exact Nat.dvd_mul_right _ _
  have fold : ∀ (xs : List Int) (f : Nat), glF (D.natAbs * f) (xs.map fun x => D * x) = D.natAbs * glF f xs := by
    intro xs
    induction xs with
    | nil => intro f; rfl
    | cons y ys ih =>
      intro f
      show glF (Nat.gcd (D.natAbs * f) (D * y).natAbs) (ys.map fun x => D * x) = D.natAbs * glF (Nat.gcd f y.natAbs) ys
      rw [Int.natAbs_mul, Nat.gcd_mul_left]
      exact ih _
  have e1 : gl (l.2.map fun x => D * x) = D.natAbs * gl l.2 := fold l.2 0
  rw [e1] at d1
  rcases L.row.pr with z | z
  · have hm : at_ l.2 l.1 ∈ l.2 := at_mem (by rw [L.row.len]; exact L.hi)
    exact absurd (gl_zero z _ hm) L.ne
  · exact Nat.dvd_trans d1 (Nat.mul_dvd_mul_left _ z)
/-- a scale within, and the next one -/
def Sc (D : Int) (s : Nat) : Prop := 0 < s ∧ s ∣ D.natAbs * 27720
theorem Sc.one (D : Int) : Sc D 1 := ⟨Nat.one_pos, Nat.one_dvd _⟩
theorem Sc.next {D : Int} {s p : Nat} (h : Sc D s) (hp : 0 < p) (hd : p ∣ D.natAbs * 27720) : Sc D (s * (p / Nat.gcd s p)) := by
  have e : s * (p / Nat.gcd s p) = Nat.lcm s p := by
    unfold Nat.lcm
    rw [Nat.mul_div_assoc _ (Nat.gcd_dvd_right s p)]
  rw [e]
  exact ⟨Nat.lcm_pos h.1 hp, Nat.lcm_dvd h.2 hd⟩
theorem Sc.lt {D : Int} {s e : Nat} (h : Sc D s) (d0 : D ≠ 0) (hD : D.natAbs < 2 ^ E e) : s < 2 ^ (E e + 15) := by
  have p : 0 < D.natAbs * 27720 := Nat.mul_pos (Nat.pos_of_ne_zero fun z => d0 (Int.natAbs_eq_zero.mp z)) (by decide)
  refine Nat.lt_of_le_of_lt (Nat.le_of_dvd p h.2) ?_
  rw [Nat.pow_add]
  exact Nat.mul_lt_mul'' hD (by decide)
theorem fdiv_abs {x y : Int} {M : Nat} (hy : y ≠ 0) (h : x.natAbs ≤ y.natAbs * M) : (x.fdiv y).natAbs ≤ M := by
  have key : ∀ (x y : Int), 0 < y → x.natAbs ≤ y.natAbs * M → (x.fdiv y).natAbs ≤ M := fun x y hy h => by
    rw [Int.fdiv_eq_ediv_of_nonneg _ (Int.le_of_lt hy)]
    have e : (y.natAbs : Int) = y := Int.natAbs_of_nonneg (Int.le_of_lt hy)
    have h' : ((x.natAbs : Nat) : Int) ≤ y * (M : Int) := by
      rw [← e]
      exact_mod_cast h
    have up : x / y ≤ (M : Int) := Int.ediv_le_of_le_mul hy (by rw [Int.mul_comm]; omega)
    have lo : -(M : Int) ≤ x / y := Int.le_ediv_of_mul_le hy (by
      have : -(M : Int) * y = -(y * (M : Int)) := by rw [Int.neg_mul, Int.mul_comm]
      rw [this]
      omega)
    omega
  by_cases q : 0 < y
  · exact key x y q h
  · have e : x.fdiv y = (-x).fdiv (-y) := (Int.neg_fdiv_neg x y).symm
    rw [e]
    exact key (-x) (-y) (by omega) (by rw [Int.natAbs_neg, Int.natAbs_neg]; exact h)
/-- an entry of a kernel's row at a lead -/
theorem Lead.entry {s w e c : Nat} {D : Int} {l : Nat × List Int} (L : Lead s w e c D l) {k : Nat} (hk : Sc D k) (d0 : D ≠ 0) (o : Nat) : ((at_ l.2 o * (k : Int)).fdiv (at_ l.2 l.1)).natAbs < 2 ^ (E e + 15) := by
  obtain ⟨a, ha⟩ := L.a
  obtain ⟨t, ht⟩ := hk.2
  have t0 : 0 < t := Nat.pos_of_ne_zero fun z => by
    rw [z, Nat.mul_zero] at ht
    rcases Nat.mul_eq_zero.mp ht with q | q
    · exact d0 (Int.natAbs_eq_zero.mp q)
    · exact absurd q (by decide)
  have le : ((at_ l.2 o * (k : Int)).fdiv (at_ l.2 l.1)).natAbs ≤ (a o).natAbs * 27720 := by
    refine fdiv_abs L.ne ?_
    have e1 : (at_ l.2 o * (k : Int)).natAbs * t = (at_ l.2 l.1).natAbs * ((a o).natAbs * 27720) := by
      have e2 : (at_ l.2 o * (k : Int)).natAbs * t = (at_ l.2 o).natAbs * (k * t) := by rw [Int.natAbs_mul, Int.natAbs_natCast, Nat.mul_assoc]
      rw [e2, ← ht, ← Nat.mul_assoc, Nat.mul_comm (at_ l.2 o).natAbs, ← Int.natAbs_mul, (ha o).1, Int.natAbs_mul, Nat.mul_assoc]
    refine Nat.le_trans (Nat.le_mul_of_pos_right _ t0) (Nat.le_of_eq e1)
  refine Nat.lt_of_le_of_lt le ?_
  rw [Nat.pow_add]
  exact Nat.mul_lt_mul'' (ha o).2 (by decide)
end K14
set_option maxHeartbeats 2000000
/-! the law's elimination, its small defs -/
namespace K14
open PySem L2 RZ GxR
open PySem.Spec PyProof.Rows
abbrev st__law_divisor : Stmt := top 55
theorem sc__law_divisor : FnScope ["_law_numbers", "_law_found", "_law_number", "_law_one"] ["_law_numbers"] (defScope st__law_divisor) := ⟨rfl, rfl, rfl, by decide +kernel, rfl, by decide +kernel, by decide +kernel⟩
abbrev st__law_cleared : Stmt := top 56
theorem sc__law_cleared : FnScope ["_law_row", "_law_divisor_here", "_law_number"] ["_law_row"] (defScope st__law_cleared) := ⟨rfl, rfl, rfl, by decide +kernel, rfl, by decide +kernel, by decide +kernel⟩
abbrev st__law_less : Stmt := top 57
theorem sc__law_less : FnScope ["_law_row", "_law_head", "_law_column", "_law_one", "_law_other"] ["_law_row", "_law_head", "_law_column"] (defScope st__law_less) := ⟨rfl, rfl, rfl, by decide +kernel, rfl, by decide +kernel, by decide +kernel⟩
def spDivisor (K : PySem.W.Frag) : Sp := fun vs H Q _ => ∃ (a : Addr) (ns : List Int), vs = [.ref a] ∧ SqL K H a (iV ns) ∧ Q (.int (gl ns : Nat)) H
def spCleared : Sp := fun vs H Q _ => ∃ (a : Addr) (r : List Int), vs = [.ref a] ∧ H a = some (.lst (iV r)) ∧ (∀ x ∈ r, x.natAbs < 2 ^ 8000) ∧ r.length < 1000 ∧ ∀ D H', KX [] H H' → H D = none → H' D = some (.lst (iV (clr r))) → Q (.ref D) H'
def spLess : Sp := fun vs H Q _ => ∃ (a h : Addr) (r hd : List Int) (c : Nat), vs = [.ref a, .ref h, .int c] ∧ H a = some (.lst (iV r)) ∧ H h = some (.lst (iV hd)) ∧ hd.length = r.length ∧ c < r.length ∧ r.length < 1000 ∧ (∀ i, (at_ r i).natAbs < 2 ^ 3000) ∧ (∀ i, (at_ hd i).natAbs < 2 ^ 3000) ∧
  ∀ D H', KX [] H H' → H D = none → H' D = some (.lst (iV (lessL r hd c))) → Q (.ref D) H'
theorem glF_take {ns : List Int} {i : Nat} (h : i < ns.length) (f : Nat) : glF f (ns.take (i + 1)) = Nat.gcd (glF f (ns.take i)) (ns[i]).natAbs := by
  unfold glF
  rw [take_one h, List.foldl_append]
  rfl
section
variable {P : Program} {w : World} {K : PySem.W.Frag} {mg : Str → Option Value} {base : Heap} {C Pt : Addr}
theorem ok_divisor {f : Addr} {fd : FuncData} (F : Fun K "_law_divisor" "_law_divisor" st__law_divisor f fd) (T : Txt mg C) : FnOk P w K mg base CX0 1 f fd ["_law_numbers"] (spDivisor K) := by
  refine F.ok sc__law_divisor (fun vs H Q E h => ?_) (fun cdv A outer s H vs Q E hr h => ?_)
  · obtain ⟨a, ns, rfl, _⟩ := h
    rfl
  · obtain ⟨a, ns, rfl, ha, k⟩ := h
    refine ⟨_, (pss_cons (ps_set (i := 1) sc__law_divisor.nd rfl (by first | exact Or.inl rfl | exact Or.inr rfl) pe_int)
      (pss_cons (ps_for PassesOwn.never rfl (piL K (pv 0)) (pg_name (i := 2) sc__law_divisor.nd rfl (by first | exact Or.inl rfl | exact Or.inr rfl))
        (pss_cons (ps_set (i := 3) sc__law_divisor.nd rfl (by first | exact Or.inl rfl | exact Or.inr rfl) (pe_callB call_abs (by rfl) T.abs (by decide +kernel) (pa_cons (pv 2) pa_nil)))
      (pss_one (ps_while PassesOwn.never (pt_cmpR op_ne (pv 3) pe_int (nomark _)) (pss_one (ps_par (i := 1) (j := 3) rfl sc__law_divisor.nd rfl rfl (by decide) rfl rfl (pa_cons (pv 3) (pa_cons (pe_op op_mod (pv 1) (pv 3)) pa_nil)) (by rfl)))))))
      (pss_one (ps_ret (pv 1))))), ?_⟩
    refine ⟨_, rfl, a, rfl, ⟨_, ha⟩, for_it (walk_list (xs := iV ns)) (fun i σ H' => ∃ v2 v3, σ = [some (.ref a), some (.int (glF 0 (ns.take i) : Nat)), v2, v3] ∧ H' = H) ⟨_, _, rfl, rfl⟩ (fun i σ H' _ e => ?_) (fun i v σ H2 H3 hi e y => ?_) fun σ H2 e => ?_⟩
    · obtain ⟨_, _, _, rfl⟩ := e
      exact ha
    · obtain ⟨rfl, hx⟩ := y
      obtain ⟨v2, v3, rfl, eH⟩ := e
      obtain ⟨n, hn, _, rfl⟩ := mem_iV hx
      obtain ⟨hi2, rfl⟩ := List.getElem?_eq_some_iff.mp hn
      refine ⟨_, rfl, _, rfl, ?_⟩
      have ab : (if ns[i] < 0 then -ns[i] else ns[i]) = ((ns[i]).natAbs : Int) := by split <;> omega
      rw [ab]
      refine while_by (fun σ H' => ∃ (f g : Nat), σ = [some (.ref a), some (.int f), some (.int ns[i]), some (.int g)] ∧ H' = H ∧ Nat.gcd f g = glF 0 (ns.take (i + 1))) (fun σ _ => match σ with | [_, _, _, some (.int g)] => g.toNat | _ => 0) ⟨_, _, rfl, eH, (glF_take hi2 0).symm⟩ (fun σ H' e => ?_) (fun σ H' Q1 Q2 hq h => ?_)
      · obtain ⟨f, g, rfl, rfl, eg⟩ := e
        refine ⟨_, rfl, rfl, _, rfl, ?_⟩
        by_cases g0 : g = 0
        · subst g0
          refine iteN (by decide) ?_
          rw [Nat.gcd_zero_right] at eg
          exact ⟨_, _, by rw [← eg], rfl⟩
        · refine iteB (by simp [g0]) ?_
          refine ⟨_, rfl, _, rfl, _, rfl, _, _, rfl, rfl, (by omega), _, _, rfl, ⟨g, f % g, by simp, rfl, ?_⟩, ?_⟩
          · rw [Nat.gcd_comm g, ← Nat.gcd_rec, Nat.gcd_comm]
            exact eg
          · show ((f : Int) % (g : Int)).toNat < (g : Int).toNat
            have := Nat.mod_lt f (Nat.pos_of_ne_zero g0)
            omega
      · obtain ⟨x, h1, h2, c, h3, h4⟩ := h
        exact ⟨x, h1, h2, c, h3, hq _ _ h4⟩
    · obtain ⟨_, _, rfl, rfl⟩ := e
      refine ⟨_, rfl, ?_⟩
      rw [show (iV ns).length = ns.length from List.length_map .., List.take_length]
      exact k
theorem ok_cleared {f : Addr} {fd : FuncData} (F : Fun K "_law_cleared" "_law_cleared" st__law_cleared f fd) (T : Txt mg C) (d__law_divisor : Def P w K mg base "_law_divisor" 1 ["_law_numbers"] (spDivisor K)) : FnOk P w K mg base CX0 2 f fd ["_law_row"] spCleared := by
  refine F.ok sc__law_cleared (fun vs H Q E h => ?_) (fun cdv A outer s H vs Q E hr h => ?_)
  · obtain ⟨a, r, rfl, _⟩ := h
    rfl
  · obtain ⟨a, r, rfl, ha, low, few, k⟩ := h
    refine ⟨_, (pss_cons (ps_set (i := 1) sc__law_cleared.nd rfl (by first | exact Or.inl rfl | exact Or.inr rfl) (pe_def d__law_divisor hr (pa_cons (pv 0) pa_nil)))
      (pss_one (ps_ret (pe_ifExp (pt_cmpR op_lt (pv 1) pe_int (nomark _)) (pe_callTy (listK K) (by rfl) T.list (by decide +kernel) (pa_cons (pv 0) pa_nil)) (pe_lc (own := [("_law_number", 2)]) (g := (gName 2)) (tt := tYes) rfl sc__law_cleared.nd (piL K (pv 0)) (blkOk_by (N := ["_law_row", "_law_divisor_here", "_law_number"]) (sc := defScope st__law_cleared) (own := [("_law_number", 2)]) (by decide +kernel)) (fun _ _ _ _ _ => (pg_name (i := 2) sc__law_cleared.nd rfl (by first | exact Or.inl rfl | exact Or.inr rfl))) (fun _ _ _ _ _ => pts_nil) (fun _ _ _ _ _ => (pe_op op_fdivW (pv 2) (pv 1)))))))), ?_⟩
    have el : (iV r).length = r.length := List.length_map ..
    refine ⟨_, rfl, a, r, rfl, SqL.of ha, ?_⟩
    refine ⟨_, rfl, _, _, rfl, rfl, _, rfl, ite2 (fun h => ?_) (fun h => ?_)⟩
    · have h2 : gl r < 2 := by
        have := of_decide_eq_true h
        omega
      refine ⟨_, rfl, a, _, rfl, .inl (SqL.of ha), fun D hD => k D _ (KX.new' hD) hD ?_⟩
      rw [upd_same]
      unfold clr
      rw [if_pos h2]
    · have h2 : ¬ gl r < 2 := fun z => h (decide_eq_true (by omega))
      have gb : gl r < 2 ^ 8000 := gl_lt (Nat.pow_pos (by decide)) low
      refine ⟨_, rfl, a, rfl, ⟨_, SqL.of ha⟩, fun D hD => any_it (walk_list (xs := iV r)) (AccF [] H D fun i => .int (r.getD i 0 / (gl r : Int))) (AccF.zero hD) (fun i H' _ p => SqL.of (p.1.get0 ha)) (fun i v H0 H1 hi p y => ?_) fun H1 p => ?_⟩
      · obtain ⟨rfl, hx⟩ := y
        obtain ⟨rfl, i1⟩ := iV_at hx
        refine ⟨rfl, yesT ⟨_, rfl, _, rfl, _, _, rfl, rfl, wide_div (b := 8000) (by omega) (by rw [Int.natAbs_natCast]; exact gb) (by decide) (by decide), AccF.step hD p.1 p.2 rfl (by omega)⟩⟩
      · refine k D H1 p.1 hD ?_
        rw [p.2, el, mapN_int]
        unfold clr
        rw [if_neg h2]
        have e := mapN_eq (fun x : Int => V.int (x / (gl r : Int))) 0 r
        rw [mapN_int (fun i => r.getD i 0 / (gl r : Int))] at e
        rw [e]
        simp [iV]
theorem ok_less {f : Addr} {fd : FuncData} (F : Fun K "_law_less" "_law_less" st__law_less f fd) (T : Txt mg C) (d__law_cleared : Def P w K mg base "_law_cleared" 2 ["_law_row"] spCleared) : FnOk P w K mg base CX0 3 f fd ["_law_row", "_law_head", "_law_column"] spLess := by
  refine F.ok sc__law_less (fun vs H Q E h => ?_) (fun cdv A outer s H vs Q E hr h => ?_)
  · obtain ⟨a, h, r, hd, c, rfl, _⟩ := h
    rfl
  · obtain ⟨a, h, r, hd, c, rfl, ha, hh, lh, lc, few, lr, lhd, k⟩ := h
    refine ⟨_, (pss_cons (ps_if (pt_cmpR op_eq (pe_ix (ix_listK K) (pv 0) (pv 2) (fun _ _ => rfl)) pe_int (nomark _)) (pss_one (ps_ret (pe_callTy (listK K) (by rfl) T.list (by decide +kernel) (pa_cons (pv 0) pa_nil)))) pss_nil)
      (pss_one (ps_ret (pe_def d__law_cleared hr (pa_cons (pe_lc (own := [("_law_one", 3), ("_law_other", 4)]) (g := (gTup K 2 (gCons (gName 3) (gCons (gName 4) gNil)))) (tt := tYes) rfl sc__law_less.nd (piZip K T.zip (pa_cons (pv 0) (pa_cons (pv 1) pa_nil))) (blkOk_by (N := ["_law_row", "_law_head", "_law_column", "_law_one", "_law_other"]) (sc := defScope st__law_less) (own := [("_law_one", 3), ("_law_other", 4)]) (by decide +kernel)) (fun _ _ _ _ _ => (pg_tup rfl (pgs_cons (pg_name (i := 3) sc__law_less.nd rfl (by first | exact Or.inl rfl | exact Or.inr rfl)) (pgs_cons (pg_name (i := 4) sc__law_less.nd rfl (by first | exact Or.inl rfl | exact Or.inr rfl)) pgs_nil)))) (fun _ _ _ _ _ => pts_nil) (fun _ _ _ _ _ => (pe_op op_sub (pe_op op_mulW (pv 3) (pe_ix (ix_listK K) (pv 1) (pv 2) (fun _ _ => rfl))) (pe_op op_mulW (pv 4) (pe_ix (ix_listK K) (pv 0) (pv 2) (fun _ _ => rfl)))))) pa_nil))))), ?_⟩
    have el : (iV r).length = r.length := List.length_map ..
    have el2 : (iV hd).length = hd.length := List.length_map ..
    have atV : ∀ (xs : List Int), c < xs.length → atI (iV xs) (c : Int) = some (.int (at_ xs c)) := fun xs hx => atI_nat (by rw [List.getElem?_map, List.getElem?_eq_getElem hx, at_lt hx]; rfl)
    refine ⟨_, rfl, _, rfl, a, _, _, _, rfl, rfl, SqL.of ha, atV r lc, rfl, _, rfl, ite2 (fun h0 => ?_) (fun h0 => ?_)⟩
    · have z : at_ r c = 0 := by simpa using h0
      refine ⟨_, rfl, a, _, rfl, .inl (SqL.of ha), fun D hD => k D _ (KX.new' hD) hD ?_⟩
      rw [upd_same]
      unfold lessL
      rw [if_pos z]
    · have z : at_ r c ≠ 0 := by simpa using h0
      refine ⟨_, rfl, _, rfl, a, h, _, _, rfl, .inl ⟨SqL.of ha, SqL.of hh, fun D hD => any_it (walk_zip (n := r.length) (by rw [el, el2, lh]; simp)) (AccF [] H D fun i => .int (r.getD i 0 * at_ hd c - hd.getD i 0 * at_ r c)) (AccF.zero hD)
        (fun i H' _ p => ⟨SqL.of (p.1.get0 ha), SqL.of (p.1.get0 hh)⟩) (fun i v H0 H1 hi p y => ?_) fun H1 p => ?_⟩⟩
      · obtain ⟨T1, u, v, rfl, hT1, rfl, e1, e2⟩ := y
        obtain ⟨rfl, i1⟩ := iV_at e1
        obtain ⟨rfl, i2⟩ := iV_at e2
        have kx : KX [] H (upd H0 T1 (.tup [.int (r.getD i 0), .int (hd.getD i 0)])) := p.1.new (p.1.free0 hT1)
        refine ⟨T1, _, rfl, SqT.of upd_same, rfl, _, _, rfl, _, _, rfl, rfl, rfl, yesT ?_⟩
        refine ⟨_, rfl, _, rfl, _, rfl, h, _, _, _, rfl, rfl, SqL.of (kx.get0 hh), atV hd (by omega), _, _, rfl, rfl, wide_mul (lr i) (lhd c) (by decide) (by decide) (by decide), ?_⟩
        refine ⟨_, rfl, _, rfl, _, rfl, a, _, _, _, rfl, rfl, SqL.of (kx.get0 ha), atV r lc, _, _, rfl, rfl, wide_mul (lhd i) (lr c) (by decide) (by decide) (by decide), _, _, rfl, rfl, AccF.step hD kx ?_ rfl (by omega)⟩
        rw [upd_ne (ne_of_none p.2 hT1)]
        exact p.2
      · have eD : H1 D = some (.lst (iV (List.zipWith (fun a b => a * at_ hd c - b * at_ r c) r hd))) := by
          rw [p.2, mapN_int, range_zip (fun a b => a * at_ hd c - b * at_ r c) lh.symm]
        refine ⟨D, _, rfl, eD, fun x hx => ?_, ?_, fun D2 H2 k2 hD2 d2 => k D2 H2 (p.1.trans k2) (p.1.free0 hD2) ?_⟩
        · obtain ⟨i, hi, rfl⟩ := mem_at hx
          have b := less_raw (c := c) lr lhd i
          rw [zip_at lh]
          exact lt_pow b (by decide)
        · rw [zip_len lh]
          exact few
        · rw [d2]
          unfold lessL
          rw [if_neg z]
end
end K14
set_option maxHeartbeats 2000000
/-! the law's leads -/
namespace K14
open PySem L2 RZ GxR
open PySem.Spec PyProof.Rows
abbrev st__law_leads : Stmt := top 58
theorem sc__law_leads : FnScope ["_law_rows_here", "_law_width", "_law_column", "_law_left", "_law_leads_here", "_law_some", "_law_head", "_law_row", "_law_at"] ["_law_rows_here", "_law_width"] (defScope st__law_leads) := ⟨rfl, rfl, rfl, by decide +kernel, rfl, by decide +kernel, by decide +kernel⟩
/-! rows and leads as they stand -/
abbrev RwT := Addr × List Int
abbrev LdT := Addr × Nat × Addr × List Int
abbrev rwR (L : List RwT) : List V := L.map fun x => V.ref x.1
abbrev ldR (L : List LdT) : List V := L.map fun x => V.ref x.1
abbrev ldP (x : LdT) : Nat × List Int := (x.2.1, x.2.2.2)
def RowsH (H : Hp) (L : List RwT) : Prop := ∀ x ∈ L, H x.1 = some (.lst (iV x.2))
def LeadsH (H : Hp) (L : List LdT) : Prop := ∀ x ∈ L, H x.1 = some (.tup [.int x.2.1, .ref x.2.2.1]) ∧ H x.2.2.1 = some (.lst (iV x.2.2.2))
theorem RowsH.kx0 {H H' : Hp} {L : List RwT} (h : RowsH H L) (k : KX [] H H') : RowsH H' L := fun x hx => k.get0 (h x hx)
theorem LeadsH.kx0 {H H' : Hp} {L : List LdT} (h : LeadsH H L) (k : KX [] H H') : LeadsH H' L := fun x hx => ⟨k.get0 (h x hx).1, k.get0 (h x hx).2⟩
theorem rw_ne {H : Hp} {D a : Addr} {L : List RwT} {r : List Int} {x : RwT} (hx : x ∈ L) (h : H D = some (.lst (rwR L))) (ha : H a = some (.lst (iV r))) : a ≠ D := fun z => by
  rw [z, h] at ha
  cases L with
  | nil => cases hx
  | cons y L =>
    cases r with
    | nil => cases ha
    | cons i r => cases ha
theorem ld_ne {H : Hp} {D a : Addr} {L : List LdT} {r : List Int} {x : LdT} (hx : x ∈ L) (h : H D = some (.lst (ldR L))) (ha : H a = some (.lst (iV r))) : a ≠ D := fun z => by
  rw [z, h] at ha
  cases L with
  | nil => cases hx
  | cons y L =>
    cases r with
    | nil => cases ha
    | cons i r => cases ha
/-- a new list of new rows at D -/
def AccR (S : List Addr) (H1 : Hp) (D : Addr) (l : List (List Int)) (H : Hp) : Prop := KX S H1 H ∧ ∃ L : List RwT, H D = some (.lst (rwR L)) ∧ L.map (·.2) = l ∧ RowsH H L
theorem AccR.zero {S : List Addr} {H1 : Hp} {D : Addr} (hD : H1 D = none) : AccR S H1 D [] (upd H1 D (.lst [])) := ⟨KX.new' hD, [], upd_same, rfl, fun x hx => nomatch hx⟩
theorem AccR.step {S : List Addr} {H1 H H2 : Hp} {D t : Addr} {l : List (List Int)} {r : List Int} (h : AccR S H1 D l H) (hD : H1 D = none) (k2 : KX [] H H2) (ht0 : H t = none) (ht : H2 t = some (.lst (iV r))) (few : l.length < 100000) :
    ∃ acc, H2 D = some (.lst acc) ∧ acc.length < sizeLine ∧ AccR S H1 D (l ++ [r]) (upd H2 D (.lst (acc ++ [.ref t]))) := by
  obtain ⟨k, L, e1, rfl, e3⟩ := h
  rw [List.length_map] at few
  refine ⟨_, k2.get0 e1, by rw [List.length_map]; exact Nat.lt_trans few (by rw [sizeLine_eq]; decide), (k.trans k2.of).new hD, L ++ [(t, r)], by rw [upd_same]; simp [rwR], by simp, fun x hx => ?_⟩
  rcases List.mem_append.mp hx with q | q
  · rw [upd_ne (rw_ne q e1 (e3 x q))]
    exact k2.get0 (e3 x q)
  · rw [List.mem_singleton.mp q, upd_ne (ne_of_none e1 ht0).symm]
    exact ht
/-- a new list of new leads at D -/
def AccL (S : List Addr) (H1 : Hp) (D : Addr) (l : List (Nat × List Int)) (H : Hp) : Prop := KX S H1 H ∧ ∃ L : List LdT, H D = some (.lst (ldR L)) ∧ L.map ldP = l ∧ LeadsH H L
theorem AccL.zero {S : List Addr} {H1 : Hp} {D : Addr} (hD : H1 D = none) : AccL S H1 D [] (upd H1 D (.lst [])) := ⟨KX.new' hD, [], upd_same, rfl, fun x hx => nomatch hx⟩
theorem AccL.step {H1 H H2 : Hp} {D t u : Addr} {l : List (Nat × List Int)} {r : List Int} {c : Nat} (h : AccL [] H1 D l H) (hD : H1 D = none) (k2 : KX [] H H2) (ht0 : H t = none) (ht : H2 t = some (.lst (iV r))) (hu : H2 u = none) (few : l.length < 100000) :
    ∃ acc, upd H2 u (.tup [.int (c : Nat), .ref t]) D = some (.lst acc) ∧ acc.length < sizeLine ∧ AccL [] H1 D (l ++ [(c, r)]) (upd (upd H2 u (.tup [.int (c : Nat), .ref t])) D (.lst (acc ++ [.ref u]))) := by
  obtain ⟨k, L, e1, rfl, e3⟩ := h
  rw [List.length_map] at few
  have d2 := k2.get0 e1
  have kk := k.trans k2
  refine ⟨_, by rw [upd_ne (ne_of_none d2 hu)]; exact d2, by rw [List.length_map]; exact Nat.lt_trans few (by rw [sizeLine_eq]; decide), (kk.new (kk.free0 hu)).new hD, L ++ [(u, c, t, r)], by rw [upd_same]; simp [ldR], by simp [ldP], fun x hx => ?_⟩
  have nuD : u ≠ D := (ne_of_none d2 hu).symm
  rcases List.mem_append.mp hx with q | q
  · have g1 := k2.get0 (e3 x q).1
    have g2 := k2.get0 (e3 x q).2
    have n1 : x.1 ≠ D := fun z => by
      rw [z, d2] at g1
      cases g1
    exact ⟨by rw [upd_ne n1, upd_ne (ne_of_none g1 hu)]; exact g1, by rw [upd_ne (ld_ne q e1 (e3 x q).2), upd_ne (ne_of_none g2 hu)]; exact g2⟩
  · rw [List.mem_singleton.mp q]
    refine ⟨?_, ?_⟩
    · show upd _ D _ u = _
      rw [upd_ne nuD, upd_same]
    · show upd _ D _ t = _
      rw [upd_ne (ne_of_none e1 ht0).symm, upd_ne (ne_of_none ht hu)]
      exact ht
theorem dp_ints {K : PySem.W.Frag} {H : Hp} {a : Addr} {ns : List Int} (h : SqL K H a (iV ns)) : Dp K H (.ref a) (.list (ns.map PyData.int)) := by
  refine .lst h ?_
  clear h
  induction ns with
  | nil => exact .nil
  | cons n r ih => exact .cons (.int n) ih
theorem eqv_nil {ns : List Int} : PyData.eqv (.list (ns.map PyData.int)) (.list []) = decide (ns = []) := by
  cases ns with
  | nil => simp [PyData.eqv, PyData.eqvAll]
  | cons n r => simp [PyData.eqv, PyData.eqvAll]
theorem at_rwR {L : List RwT} {i : Nat} {v : V} (h : (rwR L)[i]? = some v) : ∃ h : i < L.length, v = .ref (L[i]).1 := by
  rw [List.getElem?_map] at h
  cases q : L[i]? with
  | none =>
    rw [q] at h
    cases h
  | some z =>
    rw [q] at h
    obtain ⟨h1, h2⟩ := List.getElem?_eq_some_iff.mp q
    exact ⟨h1, by rw [h2]; exact (Option.some.inj h).symm⟩
theorem at_ldR {L : List LdT} {i : Nat} {v : V} (h : (ldR L)[i]? = some v) : ∃ h : i < L.length, v = .ref (L[i]).1 := by
  rw [List.getElem?_map] at h
  cases q : L[i]? with
  | none =>
    rw [q] at h
    cases h
  | some z =>
    rw [q] at h
    obtain ⟨h1, h2⟩ := List.getElem?_eq_some_iff.mp q
    exact ⟨h1, by rw [h2]; exact (Option.some.inj h).symm⟩
def spLeads : Sp := fun vs H Q _ => ∃ (R : Addr) (s n w : Nat) (rows : List RwT), vs = [.ref R, .int w] ∧ H R = some (.lst (rwR rows)) ∧ RowsH H rows ∧ rows.length ≤ 100 ∧ (s = 1 ∨ s = 2) ∧ 1 ≤ n ∧ n ≤ 6 ∧ w = s * n ∧ (∀ r ∈ rows, r.2.length = w) ∧ (∀ r ∈ rows, ∀ x ∈ r.2, x.natAbs ≤ 12) ∧ (∀ r ∈ rows, Orth s w r.2) ∧
  ∀ D (ls : List LdT) (e : Nat) (Dd : Int) H', KX [] H H' → H D = none → H' D = some (.lst (ldR ls)) → LeadsH H' ls → (∀ x ∈ ls, Lead s w e w Dd (ldP x)) → Dd ≠ 0 → Dd.natAbs < 2 ^ E e → e ≤ 10 → ls.length ≤ w → Q (.ref D) H'
section
variable {P : Program} {w : World} {K : PySem.W.Frag} {mg : Str → Option Value} {base : Heap} {C Pt : Addr}
theorem ok_leads {f : Addr} {fd : FuncData} (F : Fun K "_law_leads" "_law_leads" st__law_leads f fd) (T : Txt mg C) (d__law_less : Def P w K mg base "_law_less" 3 ["_law_row", "_law_head", "_law_column"] spLess) : FnOk P w K mg base CX0 4 f fd ["_law_rows_here", "_law_width"] spLeads := by
  refine F.ok sc__law_leads (fun vs H Q E h => ?_) (fun cdv A outer s H vs Q E hr h => ?_)
  · obtain ⟨R, s, n, w, rows, rfl, _⟩ := h
    rfl
  · obtain ⟨R, s, n, w, rows, rfl, hR, hrows, l100, s12, n1, n6, ew, lw, low, ort, k⟩ := h
    refine ⟨_, (pss_cons (ps_par (i := 3) (j := 4) rfl sc__law_leads.nd rfl rfl (by decide) rfl rfl (pa_cons (pe_lc (own := [("_law_row", 7)]) (g := (gName 7)) (tt := tYes) rfl sc__law_leads.nd (piL K (pv 0)) (blkOk_by (N := ["_law_rows_here", "_law_width", "_law_column", "_law_left", "_law_leads_here", "_law_some", "_law_head", "_law_row", "_law_at"]) (sc := defScope st__law_leads) (own := [("_law_row", 7)]) (by decide +kernel)) (fun _ _ _ _ _ => (pg_name (i := 7) sc__law_leads.nd rfl (by first | exact Or.inl rfl | exact Or.inr rfl))) (fun _ _ _ _ _ => pts_nil) (fun _ _ _ _ _ => (pe_callTy (listK K) (by rfl) T.list (by decide +kernel) (pa_cons (pv 7) pa_nil)))) (pa_cons (pe_lst pa_nil) pa_nil)) (by rfl))
      (pss_cons (ps_for PassesOwn.never rfl (pi_range1 (by rfl) T.range (pa_cons (pv 1) pa_nil)) (pg_name (i := 2) sc__law_leads.nd rfl (by first | exact Or.inl rfl | exact Or.inr rfl))
        (pss_cons (ps_setLc (i := 5) (own := [("_law_at", 8), ("_law_row", 7)]) (g := (gTup K 2 (gCons (gName 8) (gCons (gName 7) gNil))))  rfl sc__law_leads.nd rfl rfl (sw_true rfl rfl rfl (by decide +kernel)) (piEnum K T.enumerate (pa_cons (pv 3) pa_nil)) (blkOk_by (N := ["_law_rows_here", "_law_width", "_law_column", "_law_left", "_law_leads_here", "_law_some", "_law_head", "_law_row", "_law_at"]) (sc := defScope st__law_leads) (own := [("_law_at", 8), ("_law_row", 7)]) (by decide +kernel)) (fun _ _ _ _ _ => (pg_tup rfl (pgs_cons (pg_name (i := 8) sc__law_leads.nd rfl (by first | exact Or.inl rfl | exact Or.inr rfl)) (pgs_cons (pg_name (i := 7) sc__law_leads.nd rfl (by first | exact Or.inl rfl | exact Or.inr rfl)) pgs_nil)))) (fun _ _ _ _ _ => pts_one (pt_cmpR op_ne (pe_ix (ix_listK K) (pv 7) (pv 2) (fun _ _ => rfl)) pe_int (nomark _))) (fun _ _ _ _ _ => (pv 8)))
      (pss_one (ps_if (pt_cmpR (neDK K hr.units) (pv 5) (pe_lst pa_nil) (nomark _)) (pss_cons (ps_set (i := 6) sc__law_leads.nd rfl (by first | exact Or.inl rfl | exact Or.inr rfl) (pe_ix (ix_listK K) (pv 3) (pe_ix (ix_listK K) (pv 5) pe_int (fun _ _ => rfl)) (fun _ _ => rfl)))
      (pss_cons (ps_setLc (i := 3) (own := [("_law_row", 7)]) (g := (gName 7)) (tt := tYes) rfl sc__law_leads.nd rfl rfl (sw_true rfl rfl rfl (by decide +kernel)) (piL K (pe_op op_cat (pe_slice (sl_listK K) (pv 3) po_none (po_some (pe_ix (ix_listK K) (pv 5) pe_int (fun _ _ => rfl)))) (pe_slice (sl_listK K) (pv 3) (po_some (pe_op op_add (pe_ix (ix_listK K) (pv 5) pe_int (fun _ _ => rfl)) pe_int)) po_none))) (blkOk_by (N := ["_law_rows_here", "_law_width", "_law_column", "_law_left", "_law_leads_here", "_law_some", "_law_head", "_law_row", "_law_at"]) (sc := defScope st__law_leads) (own := [("_law_row", 7)]) (by decide +kernel)) (fun _ _ _ _ _ => (pg_name (i := 7) sc__law_leads.nd rfl (by first | exact Or.inl rfl | exact Or.inr rfl))) (fun _ _ _ _ _ => pts_nil) (fun _ _ _ _ _ => (pe_def d__law_less hr (pa_cons (pv 7) (pa_cons (pv 6) (pa_cons (pv 2) pa_nil))))))
      (pss_one (ps_set (i := 4) sc__law_leads.nd rfl (by first | exact Or.inl rfl | exact Or.inr rfl) (pe_op op_cat (pe_lc (own := [("_law_at", 8), ("_law_row", 7)]) (g := (gTup K 2 (gCons (gName 8) (gCons (gName 7) gNil)))) (tt := tYes) rfl sc__law_leads.nd (piL K (pv 4)) (blkOk_by (N := ["_law_rows_here", "_law_width", "_law_column", "_law_left", "_law_leads_here", "_law_some", "_law_head", "_law_row", "_law_at"]) (sc := defScope st__law_leads) (own := [("_law_at", 8), ("_law_row", 7)]) (by decide +kernel)) (fun _ _ _ _ _ => (pg_tup rfl (pgs_cons (pg_name (i := 8) sc__law_leads.nd rfl (by first | exact Or.inl rfl | exact Or.inr rfl)) (pgs_cons (pg_name (i := 7) sc__law_leads.nd rfl (by first | exact Or.inl rfl | exact Or.inr rfl)) pgs_nil)))) (fun _ _ _ _ _ => pts_nil) (fun _ _ _ _ _ => (pe_tup (pa_cons (pv 8) (pa_cons (pe_def d__law_less hr (pa_cons (pv 7) (pa_cons (pv 6) (pa_cons (pv 2) pa_nil)))) pa_nil))))) (pe_lst (pa_cons (pe_tup (pa_cons (pv 2) (pa_cons (pv 6) pa_nil))) pa_nil))))))) pss_nil))))
      (pss_one (ps_ret (pv 4))))), ?_⟩
    have w12 : w ≤ 12 := by
      rcases s12 with e | e <;> rw [e] at ew <;> omega
    have lrw : ∀ L : List RwT, (rwR L).length = L.length := fun L => List.length_map ..
    have lld : ∀ L : List LdT, (ldR L).length = L.length := fun L => List.length_map ..
    -- left
    refine ⟨_, rfl, R, rfl, ⟨_, SqL.of hR⟩, fun D0 hD0 => any_it (walk_list (xs := rwR rows)) (fun i H' => AccR [] H D0 ((rows.take i).map (·.2)) H') (AccR.zero hD0) (fun i H' _ a => SqL.of (a.1.get0 hR)) (fun i v H0 H1 hi a y => ?_) fun H1 a => ?_⟩
    · obtain ⟨rfl, hx⟩ := y
      rw [lrw] at hi
      rw [List.getElem?_map, List.getElem?_eq_getElem hi] at hx
      obtain rfl : V.ref (rows[i]).1 = v := Option.some.inj hx
      have hm : rows[i] ∈ rows := List.getElem_mem hi
      refine ⟨rfl, yesT ⟨_, rfl, (rows[i]).1, _, rfl, .inl (SqL.of (a.1.get0 (hrows _ hm))), fun t ht => ?_⟩⟩
      rw [take_one hi, List.map_append]
      exact a.step hD0 (KX.new' ht) ht upd_same (by rw [List.length_map, List.length_take]; omega)
    · rw [lrw, List.take_length] at a
      obtain ⟨k1, left0, g1, e1, h1⟩ := a
      refine ⟨Nat.zero_le _, fun Ld0 hLd0 => ⟨_, _, rfl, ?_⟩⟩
      have k2 : KX [] H (upd H1 Ld0 (.lst [])) := k1.new (k1.free0 hLd0)
      have g2 : upd H1 Ld0 (.lst []) Ld0 = some (.lst []) := upd_same
      have g3 : upd H1 Ld0 (.lst []) D0 = some (.lst (rwR left0)) := by rw [upd_ne (ne_of_none g1 hLd0)]; exact g1
      have h3 : RowsH (upd H1 Ld0 (.lst [])) left0 := h1.kx0 (KX.new' hLd0)
      have oLd := k1.free0 hLd0
      generalize upd H1 Ld0 (.lst []) = H2 at k2 g2 g3 h3 ⊢
      have ll0 : left0.length ≤ 100 := by
        have := congrArg List.length e1
        rw [List.length_map, List.length_map] at this
        omega
      have I0 : KI s w 0 0 (left0.map (·.2)) [] 1 := by
        rw [e1]
        refine KI.start (fun r hr => ?_) (fun r hr => ?_) (fun r hr => ?_)
        all_goals
          obtain ⟨x, hx, rfl⟩ := List.mem_map.mp hr
        · exact lw x hx
        · exact low x hx
        · exact ort x hx
      refine ⟨_, rfl, _, rfl, by omega, by omega, ?_⟩
      rw [Int.toNat_natCast]
      refine for_it walk_range (fun i σ H' => ∃ (Lf Ld : Addr) (v2 v5 v6 v7 v8 : Option V) (left : List RwT) (ls : List LdT) (e : Nat) (Dd : Int), σ = [some (.ref R), some (.int w), v2, some (.ref Lf), some (.ref Ld), v5, v6, v7, v8] ∧ KX [] H H' ∧ H Ld = none ∧ H' Lf = some (.lst (rwR left)) ∧ RowsH H' left ∧ left.length ≤ 100 ∧ H' Ld = some (.lst (ldR ls)) ∧ LeadsH H' ls ∧ ls.length ≤ i ∧ KI s w i e (left.map (·.2)) (ls.map ldP) Dd)
        ⟨D0, Ld0, _, _, _, _, _, left0, [], 0, 1, rfl, k2, oLd, g3, h3, ll0, g2, fun x hx => (nomatch hx), Nat.le_refl _, I0⟩ (fun _ _ _ _ _ => trivial) (fun i v σ H3 H4 hi a y => ?_) fun σ H3 a => ?_
      · obtain ⟨rfl, rfl⟩ := y
        obtain ⟨Lf, Ld, v2, v5, v6, v7, v8, left, ls, e, Dd, rfl, k4, oL, gLf, hLf, ll, gLd, hLd, lls, I⟩ := a
        show gName 2 (V.int (0 + (i : Int))) _ _ _
        rw [Int.zero_add]
        have l9 : ∀ x ∈ left, x.2.length = w := fun x hx => (I.rows _ (List.mem_map_of_mem hx)).len
        have atV : ∀ (xs : List Int), i < xs.length → atI (iV xs) (i : Int) = some (.int (at_ xs i)) := fun xs hx => atI_nat (by rw [List.getElem?_map, List.getElem?_eq_getElem hx, at_lt hx]; rfl)
        -- some
        refine ⟨_, rfl, Lf, _, rfl, SqL.of gLf, fun DS hDS => any_it (walk_enum (xs := rwR left)) (fun j H' => KX [] H4 H' ∧ ∃ ns : List Nat, H' DS = some (.lst (iV (ns.map Int.ofNat))) ∧ (∀ m ∈ ns, ∃ h : m < left.length, at_ (left[m]).2 i ≠ 0) ∧ (ns = [] → ∀ m (h : m < left.length), m < j → at_ (left[m]).2 i = 0) ∧ ns.length ≤ j)
          ⟨KX.new' hDS, [], upd_same, fun m hm => (nomatch hm), fun _ m _ h => absurd h (Nat.not_lt_zero _), Nat.le_refl _⟩ (fun j H' _ a => SqL.of (a.1.get0 gLf)) (fun j v H5 H6 hj a y => ?_) fun H5 a => ?_⟩
        · obtain ⟨T1, u, v', rfl, hT1, rfl, e1, e2⟩ := y
          obtain rfl : V.int (j : Nat) = u := Option.some.inj e1
          rw [lrw] at hj
          obtain ⟨_, rfl⟩ := at_rwR e2
          obtain ⟨k5, ns, gS, sel, non, lns⟩ := a
          have hm : left[j] ∈ left := List.getElem_mem hj
          have k6 : KX [] H4 (upd H5 T1 (.tup [.int (j : Nat), .ref (left[j]).1])) := k5.new (k5.free0 hT1)
          have gS6 : upd H5 T1 (.tup [.int (j : Nat), .ref (left[j]).1]) DS = some (.lst (iV (ns.map Int.ofNat))) := by rw [upd_ne (ne_of_none gS hT1)]; exact gS
          refine ⟨T1, _, rfl, SqT.of upd_same, rfl, _, _, rfl, _, _, rfl, rfl, rfl, _, rfl, _, rfl, (left[j]).1, _, _, _, rfl, rfl, SqL.of (k6.get0 (hLf _ hm)), atV _ (by rw [l9 _ hm]; exact hi), rfl, _, rfl, ite2 (fun h => ?_) (fun h => ?_)⟩
          · have ne : at_ (left[j]).2 i ≠ 0 := by simpa using h
            refine ⟨_, rfl, _, gS6, ?_, k6.new hDS, ns ++ [j], ?_, fun m hm2 => ?_, fun z => by simp at z, ?_⟩
            · rw [List.length_map, List.length_map]
              exact Nat.lt_of_le_of_lt (show ns.length ≤ 100 by omega) (by decide)
            · rw [upd_same]
              simp [iV]
            · rcases List.mem_append.mp hm2 with q | q
              · exact sel m q
              · rw [List.mem_singleton.mp q]
                exact ⟨hj, ne⟩
            · rw [List.length_append]
              show ns.length + 1 ≤ j + 1
              omega
          · have ze : at_ (left[j]).2 i = 0 := by simpa using h
            refine ⟨k6, ns, gS6, sel, fun z m hm2 lt => ?_, by omega⟩
            by_cases q : m = j
            · subst q
              exact ze
            · exact non z m hm2 (by omega)
        · rw [lrw] at a
          obtain ⟨k5, ns, gS, sel, non, lns⟩ := a
          refine ⟨_, rfl, Nat.zero_le _, fun E0 hE0 => ?_⟩
          have k6 : KX [] H4 (upd H5 E0 (.lst [])) := k5.new (k5.free0 hE0)
          have gS6 : upd H5 E0 (.lst []) DS = some (.lst (iV (ns.map Int.ofNat))) := by rw [upd_ne (ne_of_none gS hE0)]; exact gS
          have gE : upd H5 E0 (.lst []) E0 = some (.lst (iV [])) := upd_same
          generalize upd H5 E0 (.lst []) = H6 at k6 gS6 gE ⊢
          refine ⟨_, _, dp_ints (SqL.of gS6), dp_ints (SqL.of gE), PySem.W.shaped_ints _, PySem.W.shaped_ints _, _, rfl, ?_⟩
          rw [List.map_nil, eqv_nil]
          cases ns with
          | nil =>
            refine iteN (by simp) ?_
            exact ⟨Lf, Ld, _, _, _, _, _, left, ls, e, Dd, rfl, k4.trans k6, oL, k6.get0 gLf, hLf.kx0 k6, ll, k6.get0 gLd, hLd.kx0 k6, by omega, I.pass fun r hr => by
              obtain ⟨x, hx, rfl⟩ := List.mem_map.mp hr
              obtain ⟨m, hm, rfl⟩ := List.getElem_of_mem hx
              exact non rfl m hm hm⟩
          | cons j0 nr =>
            refine iteB (by simp) ?_
            obtain ⟨hj0, nz⟩ := sel j0 List.mem_cons_self
            have hm0 : left[j0] ∈ left := List.getElem_mem hj0
            have hmr : (left[j0]).2 ∈ left.map (·.2) := List.mem_map_of_mem hm0
            have i9 : i ≤ 9 := KI.early s12 n1 n6 (show KI s (s * n) i e (left.map (·.2)) (ls.map ldP) Dd by rw [← ew]; exact I) hmr (by rw [← ew]; exact hi) nz
            have e9 : K14.E e - 1 ≤ 3000 := by
              have h1 := E_mono (show e ≤ 9 from Nat.le_trans I.ec i9)
              have h2 : K14.E 9 = 2560 := by decide
              omega
            have lt3 : ∀ {r : List Int}, Row s w e r → ∀ i, (at_ r i).natAbs < 2 ^ 3000 := fun Rr i => lt_pow (Rr.lt i) e9
            have hRow := I.rows _ hmr
            have some0 : atI (iV ((j0 :: nr).map Int.ofNat)) (0 : Int) = some (.int (j0 : Nat)) := atI_nat (j := 0) rfl
            have gLf6 := k6.get0 gLf
            have gh6 := k6.get0 (hLf _ hm0)
            -- head
            refine ⟨_, rfl, _, rfl, DS, _, _, .int (j0 : Nat), rfl, rfl, SqL.of gS6, some0, Lf, _, _, .ref (left[j0]).1, rfl, rfl, SqL.of gLf6, atI_nat (by rw [List.getElem?_map, List.getElem?_eq_getElem hj0]; rfl), ?_⟩
            refine ⟨_, rfl, _, rfl, DS, _, _, .int (j0 : Nat), rfl, rfl, SqL.of gS6, some0, _, rfl, Lf, _, rfl, SqL.of gLf6, fun p1 hp1 => ?_⟩
            have cA : cutV (rwR left) none (some ((j0 : Nat) : Int)) = rwR (left.take j0) := by rw [cutV_take, ← List.map_take]
            have cB : cutV (rwR left) (some (((j0 : Nat) : Int) + 1)) none = rwR (left.drop (j0 + 1)) := by
              have := cutV_drop (xs := rwR left) (k := j0 + 1)
              rw [show (((j0 + 1 : Nat) : Int)) = ((j0 : Nat) : Int) + 1 by omega] at this
              rw [this, ← List.map_drop]
            rw [cA]
            have k7 : KX [] H6 (upd H6 p1 (.lst (rwR (left.take j0)))) := KX.new' hp1
            have g7 : upd H6 p1 (.lst (rwR (left.take j0))) p1 = some (.lst (rwR (left.take j0))) := upd_same
            generalize upd H6 p1 (.lst (rwR (left.take j0))) = H7 at k7 g7 ⊢
            refine ⟨_, rfl, _, rfl, DS, _, _, .int (j0 : Nat), rfl, rfl, SqL.of (k7.get0 gS6), some0, _, _, rfl, rfl, _, rfl, Lf, _, rfl, SqL.of (k7.get0 gLf6), fun p2 hp2 => ?_⟩
            rw [cB]
            have k8 : KX [] H7 (upd H7 p2 (.lst (rwR (left.drop (j0 + 1))))) := KX.new' hp2
            have g8 : upd H7 p2 (.lst (rwR (left.drop (j0 + 1)))) p2 = some (.lst (rwR (left.drop (j0 + 1)))) := upd_same
            generalize upd H7 p2 (.lst (rwR (left.drop (j0 + 1)))) = H8 at k8 g8 ⊢
            refine ⟨p1, p2, _, _, rfl, rfl, k8.get0 g7, g8, ?_, fun p3 hp3 => ?_⟩
            · rw [lrw, lrw, List.length_take, List.length_drop]
              have : sizeLine = 16777216 := sizeLine_eq
              omega
            · obtain ⟨rest, er⟩ : ∃ rest, rest = left.take j0 ++ left.drop (j0 + 1) := ⟨_, rfl⟩
              have hsub : ∀ x ∈ rest, x ∈ left := fun x hx => by
                rw [er] at hx
                rcases List.mem_append.mp hx with q | q
                · exact List.mem_of_mem_take q
                · exact List.mem_of_mem_drop q
              have lre : rest.length ≤ 100 := by
                rw [er, List.length_append, List.length_take, List.length_drop]
                omega
              rw [show rwR (left.take j0) ++ rwR (left.drop (j0 + 1)) = rwR rest by rw [er]; exact (List.map_append ..).symm]
              have k9 : KX [] H4 (upd H8 p3 (.lst (rwR rest))) := ((k6.trans k7).trans k8).trans (KX.new' hp3)
              have g9 : upd H8 p3 (.lst (rwR rest)) p3 = some (.lst (rwR rest)) := upd_same
              generalize upd H8 p3 (.lst (rwR rest)) = H9 at k9 g9 ⊢
              refine ⟨p3, rfl, ⟨_, SqL.of g9⟩, fun D2 hD2 => any_it (walk_list (xs := rwR rest)) (fun j H' => AccR [] H9 D2 ((rest.take j).map fun x => lessL x.2 (left[j0]).2 i) H') (AccR.zero hD2) (fun j H' _ a => SqL.of (a.1.get0 g9)) (fun j v Ha Hb hj a y => ?_) fun Ha a => ?_⟩
              · obtain ⟨rfl, hx⟩ := y
                obtain ⟨hj2, rfl⟩ := at_rwR hx
                have hm : rest[j] ∈ left := hsub _ (List.getElem_mem hj2)
                have Rw := I.rows _ (List.mem_map_of_mem hm)
                have kk := k9.trans a.1
                refine ⟨rfl, yesT ⟨_, rfl, _, rfl, _, rfl, (rest[j]).1, (left[j0]).1, _, _, i, rfl, kk.get0 (hLf _ hm), kk.get0 (hLf _ hm0), by rw [l9 _ hm, l9 _ hm0], by rw [l9 _ hm]; exact hi, by rw [l9 _ hm]; omega, lt3 Rw, lt3 hRow, fun t Hc kc ht0 ht => ?_⟩⟩
                rw [take_one hj2, List.map_append]
                exact a.step hD2 kc ht0 ht (by rw [List.length_map, List.length_take]; omega)
              · rw [lrw, List.take_length] at a
                obtain ⟨ka, nl, gnl, enl, hnl⟩ := a
                have kk := k9.trans ka
                have lnl : nl.length ≤ 100 := by
                  have := congrArg List.length enl
                  rw [List.length_map, List.length_map] at this
                  omega
                -- leads
                refine ⟨_, rfl, Ld, rfl, ⟨_, SqL.of (kk.get0 gLd)⟩, fun D3 hD3 => any_it (walk_list (xs := ldR ls)) (fun j H' => AccL [] Ha D3 ((ls.take j).map fun x => (x.2.1, lessL x.2.2.2 (left[j0]).2 i)) H') (AccL.zero hD3) (fun j H' _ a => SqL.of (a.1.get0 (kk.get0 gLd))) (fun j v Hb Hc hj a y => ?_) fun Hb a => ?_⟩
                · obtain ⟨rfl, hx⟩ := y
                  obtain ⟨hj2, rfl⟩ := at_ldR hx
                  have hm : ls[j] ∈ ls := List.getElem_mem hj2
                  have Lw := I.leads _ (List.mem_map_of_mem hm)
                  have kb := kk.trans a.1
                  have hl := hLd.kx0 kb
                  have lwj : (ls[j]).2.2.2.length = w := Lw.row.len
                  refine ⟨(ls[j]).1, _, rfl, SqT.of (hl _ hm).1, rfl, _, _, rfl, _, _, rfl, rfl, rfl, yesT ⟨_, rfl, _, rfl, _, rfl, _, rfl, (ls[j]).2.2.1, (left[j0]).1, _, _, i, rfl, (hl _ hm).2, kb.get0 (hLf _ hm0), by rw [lwj, l9 _ hm0], by rw [lwj]; exact hi, by rw [lwj]; omega, lt3 Lw.row, lt3 hRow, fun t Hd kd ht0 ht => ⟨by show 2 ≤ sizeLine; decide, fun u hu => ?_⟩⟩⟩
                  rw [take_one hj2, List.map_append]
                  exact a.step hD3 kd ht0 ht hu (by rw [List.length_map, List.length_take]; omega)
                · rw [lld, List.take_length] at a
                  obtain ⟨kb, nd, gnd, end', hnd⟩ := a
                  have kl := kk.trans kb
                  refine ⟨_, rfl, _, rfl, by show 2 ≤ sizeLine; decide, fun u hu => ⟨by show 1 ≤ sizeLine; decide, fun q hq => ?_⟩⟩
                  have k10 : KX [] Hb (upd Hb u (.tup [.int (i : Nat), .ref (left[j0]).1])) := KX.new' hu
                  have g10 : upd Hb u (.tup [.int (i : Nat), .ref (left[j0]).1]) u = some (.tup [.int (i : Nat), .ref (left[j0]).1]) := upd_same
                  generalize upd Hb u (.tup [.int (i : Nat), .ref (left[j0]).1]) = Hd at k10 g10 hq ⊢
                  have k11 : KX [] Hd (upd Hd q (.lst [.ref u])) := KX.new' hq
                  have g11 : upd Hd q (.lst [.ref u]) q = some (.lst [.ref u]) := upd_same
                  generalize upd Hd q (.lst [.ref u]) = He at k11 g11 ⊢
                  have k12 := k10.trans k11
                  have lnd : nd.length = ls.length := by
                    have := congrArg List.length end'
                    rwa [List.length_map, List.length_map] at this
                  refine ⟨D3, q, _, _, rfl, rfl, k12.get0 gnd, g11, ?_, fun p hp => ?_⟩
                  · rw [lld]
                    have : sizeLine = 16777216 := sizeLine_eq
                    show nd.length + 1 ≤ _
                    omega
                  · have k13 : KX [] He (upd He p (.lst (ldR nd ++ [.ref u]))) := KX.new' hp
                    have kf := k4.trans ((kl.trans k12).trans k13)
                    refine ⟨D2, p, _, _, _, _, _, nl, nd ++ [(u, i, (left[j0]).1, (left[j0]).2)], e + 1, Dd * at_ (left[j0]).2 i, rfl, kf, k4.free0 ((kl.trans k12).free0 hp), (kb.trans (k12.trans k13)).get0 gnl, hnl.kx0 (kb.trans (k12.trans k13)), lnl, ?_, fun x hx => ?_, ?_, ?_⟩
                    · rw [upd_same]
                      simp [ldR]
                    · rcases List.mem_append.mp hx with z | z
                      · exact (hnd.kx0 (k12.trans k13)) x z
                      · rw [List.mem_singleton.mp z]
                        exact ⟨(k11.trans k13).get0 g10, ((kl.trans k12).trans k13).get0 (hLf _ hm0)⟩
                    · rw [List.length_append, lnd]
                      show ls.length + 1 ≤ i + 1
                      omega
                    · have tn := KI.turn (rest := rest.map (·.2)) I hmr (fun r hr => by
                        obtain ⟨x, hx, rfl⟩ := List.mem_map.mp hr
                        exact List.mem_map_of_mem (hsub x hx)) hi i9 nz
                      rw [enl, List.map_append, end']
                      rw [List.map_map, List.map_map] at tn
                      exact tn
      · obtain ⟨Lf, Ld, v2, v5, v6, v7, v8, left, ls, e, Dd, rfl, k4, oL, gLf, hLf, ll, gLd, hLd, lls, I⟩ := a
        exact ⟨_, rfl, k Ld ls e Dd H3 k4 oL gLd hLd (fun x hx => I.leads _ (List.mem_map_of_mem hx)) I.d0 I.dlt I.e10 lls⟩
end
end K14
set_option maxHeartbeats 2000000
/-! the law's kernel -/
namespace K14
open PySem L2 RZ GxR
open PySem.Spec PyProof.Rows
abbrev st__law_kernel : Stmt := top 59
theorem sc__law_kernel : FnScope ["_law_rows_here", "_law_width", "_law_columns", "_law_open_at", "_law_leads_here", "_law_found", "_law_at", "_law_scale", "_law_fresh", "_law_column", "_law_row"] ["_law_rows_here", "_law_width"] (defScope st__law_kernel) := ⟨rfl, rfl, rfl, by decide +kernel, rfl, by decide +kernel, by decide +kernel⟩
theorem KX.own {S : List Addr} {H H1 H2 : Hp} {W : Addr} (a : KX S H H1) (h : H W = none) (b : KX [W] H1 H2) : KX S H H2 := fun c o hc e => b c o (fun z => by
  rw [List.mem_singleton.mp z, h] at e
  cases e) (a c o hc e)
/-- the kernel's rows as they stand -/
def KrH (w : Nat) (H : Hp) (L : List RwT) : Prop := ∀ x ∈ L, H x.1 = some (.tup (iV x.2)) ∧ x.2.length = w ∧ ∀ i ∈ x.2, i.natAbs < 2 ^ 5136
theorem KrH.kd {w : Nat} {H H' : Hp} {L : List RwT} (h : KrH w H L) (k : Kd H H') : KrH w H' L := fun x hx => ⟨k _ _ (h x hx).1 rfl, (h x hx).2⟩
theorem gl_two (s : Nat) (p : Int) : gl [(s : Int), p] = Nat.gcd s p.natAbs := by
  unfold gl glF
  simp [List.foldl]
def spKernel : Sp := fun vs H Q _ => ∃ (R : Addr) (s n w : Nat) (rows : List RwT), vs = [.ref R, .int w] ∧ H R = some (.lst (rwR rows)) ∧ RowsH H rows ∧ rows.length ≤ 100 ∧ (s = 1 ∨ s = 2) ∧ 1 ≤ n ∧ n ≤ 6 ∧ w = s * n ∧ (∀ r ∈ rows, r.2.length = w) ∧ (∀ r ∈ rows, ∀ x ∈ r.2, x.natAbs ≤ 12) ∧ (∀ r ∈ rows, Orth s w r.2) ∧
  ∀ D (ks : List RwT) H', KX [] H H' → H D = none → H' D = some (.lst (rwR ks)) → KrH w H' ks → ks.length ≤ 100 → Q (.ref D) H'
section
variable {P : Program} {w : World} {K : PySem.W.Frag} {mg : Str → Option Value} {base : Heap} {C Pt : Addr}
theorem ok_kernel {f : Addr} {fd : FuncData} (F : Fun K "_law_kernel" "_law_kernel" st__law_kernel f fd) (T : Txt mg C) (d__law_leads : Def P w K mg base "_law_leads" 4 ["_law_rows_here", "_law_width"] spLeads) (d__law_divisor : Def P w K mg base "_law_divisor" 1 ["_law_numbers"] (spDivisor K)) (d__law_cleared : Def P w K mg base "_law_cleared" 2 ["_law_row"] spCleared) :
    FnOk P w K mg base CX0 5 f fd ["_law_rows_here", "_law_width"] spKernel := by
  refine F.ok sc__law_kernel (fun vs H Q E h => ?_) (fun cdv A outer s H vs Q E hr h => ?_)
  · obtain ⟨R, s, n, w, rows, rfl, _⟩ := h
    rfl
  · obtain ⟨R, s, n, w, rows, rfl, hR, hrows, l100, s12, n1, n6, ew, lw, low, ort, k⟩ := h
    refine ⟨_, (pss_cons (ps_par (i := 4) (j := 5) rfl sc__law_kernel.nd rfl rfl (by decide) rfl rfl (pa_cons (pe_def d__law_leads hr (pa_cons (pv 0) (pa_cons (pv 1) pa_nil))) (pa_cons (pe_lst pa_nil) pa_nil)) (by rfl))
      (pss_cons (ps_set (i := 2) sc__law_kernel.nd rfl (by first | exact Or.inl rfl | exact Or.inr rfl) (pe_lc (own := [("_law_column", 9), ("_law_row", 10)]) (g := (gTup K 2 (gCons (gName 9) (gCons (gName 10) gNil)))) (tt := tYes) rfl sc__law_kernel.nd (piL K (pv 4)) (blkOk_by (N := ["_law_rows_here", "_law_width", "_law_columns", "_law_open_at", "_law_leads_here", "_law_found", "_law_at", "_law_scale", "_law_fresh", "_law_column", "_law_row"]) (sc := defScope st__law_kernel) (own := [("_law_column", 9), ("_law_row", 10)]) (by decide +kernel)) (fun _ _ _ _ _ => (pg_tup rfl (pgs_cons (pg_name (i := 9) sc__law_kernel.nd rfl (by first | exact Or.inl rfl | exact Or.inr rfl)) (pgs_cons (pg_name (i := 10) sc__law_kernel.nd rfl (by first | exact Or.inl rfl | exact Or.inr rfl)) pgs_nil)))) (fun _ _ _ _ _ => pts_nil) (fun _ _ _ _ _ => (pv 9))))
      (pss_cons (ps_for PassesOwn.never rfl (piL K (pe_lc (own := [("_law_at", 6)]) (g := (gName 6))  rfl sc__law_kernel.nd (pi_range1 (by rfl) T.range (pa_cons (pv 1) pa_nil)) (blkOk_by (N := ["_law_rows_here", "_law_width", "_law_columns", "_law_open_at", "_law_leads_here", "_law_found", "_law_at", "_law_scale", "_law_fresh", "_law_column", "_law_row"]) (sc := defScope st__law_kernel) (own := [("_law_at", 6)]) (by decide +kernel)) (fun _ _ _ _ _ => (pg_name (i := 6) sc__law_kernel.nd rfl (by first | exact Or.inl rfl | exact Or.inr rfl))) (fun _ _ _ _ _ => pts_one (pt_cmpR (op_notInK K) (pv 6) (pv 2) (by with_unfolding_all rfl))) (fun _ _ _ _ _ => (pv 6)))) (pg_name (i := 3) sc__law_kernel.nd rfl (by first | exact Or.inl rfl | exact Or.inr rfl))
        (pss_cons (ps_par (i := 7) (j := 8) rfl sc__law_kernel.nd rfl rfl (by decide) rfl rfl (pa_cons pe_int (pa_cons (pe_op op_rep (pe_lst (pa_cons pe_int pa_nil)) (pv 1)) pa_nil)) (by rfl))
      (pss_cons (ps_for PassesOwn.never rfl (piL K (pv 4)) (pg_tup rfl (pgs_cons (pg_name (i := 9) sc__law_kernel.nd rfl (by first | exact Or.inl rfl | exact Or.inr rfl)) (pgs_cons (pg_name (i := 10) sc__law_kernel.nd rfl (by first | exact Or.inl rfl | exact Or.inr rfl)) pgs_nil)))
        (pss_one (ps_set (i := 7) sc__law_kernel.nd rfl (by first | exact Or.inl rfl | exact Or.inr rfl) (pe_op op_mulW (pv 7) (pe_op op_fdivW (pe_callB call_abs (by rfl) T.abs (by decide +kernel) (pa_cons (pe_ix (ix_listK K) (pv 10) (pv 9) (fun _ _ => rfl)) pa_nil)) (pe_def d__law_divisor hr (pa_cons (pe_lst (pa_cons (pv 7) (pa_cons (pe_ix (ix_listK K) (pv 10) (pv 9) (fun _ _ => rfl)) pa_nil))) pa_nil)))))))
      (pss_cons (ps_asg (pv 7) (pg_sub (pv 8) (pv 3) set_list))
      (pss_cons (ps_for PassesOwn.never rfl (piL K (pv 4)) (pg_tup rfl (pgs_cons (pg_name (i := 9) sc__law_kernel.nd rfl (by first | exact Or.inl rfl | exact Or.inr rfl)) (pgs_cons (pg_name (i := 10) sc__law_kernel.nd rfl (by first | exact Or.inl rfl | exact Or.inr rfl)) pgs_nil)))
        (pss_one (ps_asg (pe_op op_sub pe_int (pe_op op_fdivA (pe_op op_mulW (pe_ix (ix_listK K) (pv 10) (pv 3) (fun _ _ => rfl)) (pv 7)) (pe_ix (ix_listK K) (pv 10) (pv 9) (fun _ _ => rfl)))) (pg_sub (pv 8) (pv 9) set_list))))
      (pss_one (ps_expr (bmK K PySem.F.plainAttrs_list PySem.F.slot_list_append PySem.F.type_list_append mt_append (pv 5) (pa_cons (pe_callTy (tupK K) (by rfl) T.tuple (by decide +kernel) (pa_cons (pe_def d__law_cleared hr (pa_cons (pv 8) pa_nil)) pa_nil)) pa_nil)))))))))
      (pss_one (ps_ret (pv 5)))))), ?_⟩
    have w12 : w ≤ 12 := by
      rcases s12 with e | e <;> rw [e] at ew <;> omega
    have lrw : ∀ L : List RwT, (rwR L).length = L.length := fun L => List.length_map ..
    have lld : ∀ L : List LdT, (ldR L).length = L.length := fun L => List.length_map ..
    refine ⟨_, rfl, _, rfl, R, s, n, w, rows, rfl, hR, hrows, l100, s12, n1, n6, ew, lw, low, ort, fun Ld ls e Dd H1 k1 oL gL hL lead d0 dlt e10 lls => ⟨Nat.zero_le _, fun F0 hF0 => ⟨_, _, rfl, ?_⟩⟩⟩
    have k2 : KX [] H (upd H1 F0 (.lst [])) := k1.new (k1.free0 hF0)
    have oF := k1.free0 hF0
    have kF : KX [] H1 (upd H1 F0 (.lst [])) := KX.new' hF0
    have gF : upd H1 F0 (.lst []) F0 = some (.lst []) := upd_same
    have gL2 := kF.get0 gL
    have hL2 := hL.kx0 kF
    generalize upd H1 F0 (.lst []) = H2 at k2 kF gF gL2 hL2 ⊢
    have eE : K14.E e + 15 ≤ 5135 := by
      have h1 := E_mono e10
      have h2 : K14.E 10 = 5120 := by decide
      omega
    -- columns
    refine ⟨_, rfl, Ld, rfl, ⟨_, SqL.of gL2⟩, fun DC hDC => any_it (walk_list (xs := ldR ls)) (fun j H' => KX [] H2 H' ∧ H' DC = some (.lst (iV ((ls.take j).map fun x => (x.2.1 : Int))))) ⟨KX.new' hDC, upd_same⟩ (fun j H' _ a => SqL.of (a.1.get0 gL2)) (fun j v Hb Hc hj a y => ?_) fun H3 a => ?_⟩
    · obtain ⟨rfl, hx⟩ := y
      obtain ⟨hj2, rfl⟩ := at_ldR hx
      obtain ⟨ka, gC⟩ := a
      have hm : ls[j] ∈ ls := List.getElem_mem hj2
      refine ⟨(ls[j]).1, _, rfl, SqT.of ((hL2.kx0 ka) _ hm).1, rfl, _, _, rfl, _, _, rfl, rfl, rfl, yesT ⟨_, rfl, _, gC, ?_, ka.new hDC, ?_⟩⟩
      · rw [List.length_map, List.length_map, List.length_take]
        exact Nat.lt_of_le_of_lt (show min j ls.length ≤ 12 by omega) (by decide)
      · rw [upd_same, take_one hj2]
        simp only [iV, List.map_append, List.map_cons, List.map_nil]
    · rw [lld, List.take_length] at a
      obtain ⟨k3, gC⟩ := a
      -- the open columns
      refine ⟨_, rfl, _, rfl, by omega, by omega, fun DO hDO => ?_⟩
      rw [Int.toNat_natCast]
      refine any_it walk_range (fun j H' => KX [] H3 H' ∧ ∃ os : List Nat, H' DO = some (.lst (iV (os.map Int.ofNat))) ∧ (∀ o ∈ os, o < w) ∧ os.length ≤ j) ⟨KX.new' hDO, [], upd_same, (fun o ho => (nomatch ho)), Nat.le_refl _⟩ (fun _ _ _ _ => trivial) (fun j v H4 H5 hj a y => ?_) fun H4 a => ?_
      · obtain ⟨rfl, rfl⟩ := y
        obtain ⟨k4, os, gO, lo, lno⟩ := a
        refine ⟨rfl, _, rfl, _, rfl, DC, _, rfl, .inl (SqL.of (k4.get0 gC)), rfl, by simp [flatV], _, rfl, ite2 (fun _ => ⟨_, rfl, _, gO, ?_, k4.new hDO, os ++ [j], ?_, fun o ho => ?_, ?_⟩) (fun _ => ⟨k4, os, gO, lo, by omega⟩)⟩
        · rw [List.length_map, List.length_map]
          exact Nat.lt_of_le_of_lt (show os.length ≤ 12 by omega) (by decide)
        · rw [upd_same]
          show some (HO.lst (iV (os.map Int.ofNat) ++ [.int (0 + (j : Int))])) = _
          rw [Int.zero_add]
          simp [iV]
        · rcases List.mem_append.mp ho with q | q
          · exact lo o q
          · rw [List.mem_singleton.mp q]
            exact hj
        · rw [List.length_append]
          show os.length + 1 ≤ j + 1
          omega
      · obtain ⟨k4, os, gO, lo, lno⟩ := a
        have gF4 := k4.get0 (k3.get0 gF)
        have kX := k3.trans k4
        have hL4 := hL2.kx0 kX
        have gL4 := kX.get0 gL2
        have inF : F0 ∈ [F0] := List.mem_cons_self
        have nLF : Ld ≠ F0 := fun z => by
          rw [z, hF0] at gL
          cases gL
        refine ⟨DO, rfl, ⟨_, SqL.of gO⟩, for_it (walk_list (xs := iV (os.map Int.ofNat))) (fun j σ H' => ∃ (v3 v6 v7 v8 v9 v10 : Option V) (ks : List RwT), σ = [some (.ref R), some (.int w), some (.ref DC), v3, some (.ref Ld), some (.ref F0), v6, v7, v8, v9, v10] ∧ KX [F0] H4 H' ∧ H' F0 = some (.lst (rwR ks)) ∧ KrH w H' ks ∧ ks.length = j)
          ⟨_, _, _, _, _, _, [], rfl, KX.refl _ _, gF4, fun x hx => (nomatch hx), rfl⟩ (fun j σ H' _ a => ?_) (fun j v σ H5 H6 hj a y => ?_) fun σ H5 a => ?_⟩
        · obtain ⟨_, _, _, _, _, _, ks, _, k5, _⟩ := a
          exact SqL.of (k5 _ _ (fun z => ne_of_none (k3.get0 gF) hDO (List.mem_singleton.mp z).symm) gO)
        · obtain ⟨rfl, hx⟩ := y
          obtain ⟨v3, v6, v7, v8, v9, v10, ks, rfl, k5, gF5, hks, lks⟩ := a
          obtain ⟨io, hio, mio, rfl⟩ := mem_iV hx
          obtain ⟨o, mo, rfl⟩ := List.mem_map.mp mio
          have ow := lo o mo
          show gName 3 (V.int (o : Nat)) _ _ _
          have kd5 : Kd H4 H6 := kd_one k5 gF4
          refine ⟨by show 1 ≤ sizeLine; decide, fun Z hZ => ⟨_, rfl, Z, (w : Nat), _, rfl, rfl, upd_same, by omega, by omega, by rw [Int.toNat_natCast, sizeLine_eq]; show 1 * w ≤ _; omega, fun W hW => ⟨_, _, rfl, ?_⟩⟩⟩
          have eW : (List.replicate ((w : Nat) : Int).toNat [V.int 0]).flatten = iV (List.replicate w 0) := by
            rw [Int.toNat_natCast]
            simp [iV]
          rw [eW]
          have hW6 : H6 W = none := (KX.new' (S := []) hZ).free0 hW
          have k7 : KX [] H6 (upd (upd H6 Z (.lst [.int 0])) W (.lst (iV (List.replicate w 0)))) := (KX.new' hZ).new hW6
          have w7 : upd (upd H6 Z (.lst [.int 0])) W (.lst (iV (List.replicate w 0))) W = some (.lst (iV (List.replicate w 0))) := upd_same
          generalize upd (upd H6 Z (.lst [.int 0])) W (.lst (iV (List.replicate w 0))) = H7 at k7 w7 ⊢
          have LL7 : H7 Ld = some (.lst (ldR ls)) := k7.get0 (k5 _ _ (fun z => nLF (List.mem_singleton.mp z)) gL4)
          have nrF : ∀ x ∈ ls, x.2.2.1 ≠ F0 := fun x hx z => by
            have q := (hL x hx).2
            rw [z, hF0] at q
            cases q
          have hL7 : LeadsH H7 ls := fun x hx => ⟨k7.get0 (kd5 _ _ (hL4 x hx).1 rfl), k7.get0 (k5 _ _ (fun z => nrF x hx (List.mem_singleton.mp z)) (hL4 x hx).2)⟩
          -- the scale
          refine ⟨_, rfl, Ld, rfl, ⟨_, SqL.of LL7⟩, for_it (walk_list (xs := ldR ls)) (fun i σ H' => ∃ (sc : Nat) (v9 v10 : Option V), σ = [some (.ref R), some (.int w), some (.ref DC), some (.int (o : Nat)), some (.ref Ld), some (.ref F0), v6, some (.int (sc : Nat)), some (.ref W), v9, v10] ∧ KX [] H7 H' ∧ Sc Dd sc)
            ⟨1, _, _, rfl, KX.refl _ _, Sc.one _⟩ (fun i σ H' _ a => ?_) (fun i v σ H8 H9 hi a y => ?_) fun σ H8 a => ?_⟩
          · obtain ⟨_, _, _, _, k8, _⟩ := a
            exact SqL.of (k8.get0 LL7)
          · obtain ⟨rfl, hx⟩ := y
            obtain ⟨hi2, rfl⟩ := at_ldR hx
            obtain ⟨sc, v9, v10, rfl, k8, hsc⟩ := a
            have hm : ls[i] ∈ ls := List.getElem_mem hi2
            have Lw := lead _ hm
            obtain ⟨hl1, hl2⟩ := (hL7.kx0 k8) _ hm
            have sclt := hsc.lt d0 dlt
            have plt : (at_ (ls[i]).2.2.2 (ls[i]).2.1).natAbs < 2 ^ 5136 := lt_pow (Lw.row.lt _) (by omega)
            have ix : atI (iV (ls[i]).2.2.2) (((ls[i]).2.1 : Nat) : Int) = some (.int (at_ (ls[i]).2.2.2 (ls[i]).2.1)) := by
              have h1 : (ls[i]).2.1 < (ls[i]).2.2.2.length := by
                have h2 : (ls[i]).2.2.2.length = w := Lw.row.len
                rw [h2]
                exact Lw.hi
              exact atI_nat (by rw [List.getElem?_map, List.getElem?_eq_getElem h1, at_lt h1]; rfl)
            have pv : (if at_ (ls[i]).2.2.2 (ls[i]).2.1 < 0 then -at_ (ls[i]).2.2.2 (ls[i]).2.1 else at_ (ls[i]).2.2.2 (ls[i]).2.1) = ((at_ (ls[i]).2.2.2 (ls[i]).2.1).natAbs : Int) := by split <;> omega
            have ppos : 0 < (at_ (ls[i]).2.2.2 (ls[i]).2.1).natAbs := Nat.pos_of_ne_zero fun z => Lw.ne (Int.natAbs_eq_zero.mp z)
            have pd : (at_ (ls[i]).2.2.2 (ls[i]).2.1).natAbs ∣ Dd.natAbs * 27720 := Lw.pivot
            generalize at_ (ls[i]).2.2.2 (ls[i]).2.1 = pi at plt ix pv ppos pd
            have gpos : 0 < Nat.gcd sc pi.natAbs := Nat.gcd_pos_of_pos_left _ hsc.1
            have gle : Nat.gcd sc pi.natAbs ≤ sc := Nat.gcd_le_left _ hsc.1
            refine ⟨(ls[i]).1, _, rfl, SqT.of hl1, rfl, _, _, rfl, _, _, rfl, rfl, ?_⟩
            refine ⟨_, rfl, _, rfl, _, rfl, (ls[i]).2.2.1, _, _, _, rfl, rfl, SqL.of hl2, ix, _, rfl, ?_⟩
            refine ⟨_, rfl, _, rfl, _, rfl, (ls[i]).2.2.1, _, _, _, rfl, rfl, SqL.of hl2, ix, by show 2 ≤ sizeLine; decide, fun q hq => ⟨q, [(sc : Int), pi], rfl, SqL.of upd_same, ?_⟩⟩
            rw [pv, gl_two]
            refine ⟨_, _, rfl, rfl, wide_div (b := 5136) (by omega) (by rw [Int.natAbs_natCast]; exact Nat.lt_of_le_of_lt gle (lt_pow sclt (by omega))) (by decide) (by decide), ?_⟩
            have ev : ((pi.natAbs : Nat) : Int) / ((Nat.gcd sc pi.natAbs : Nat) : Int) = ((pi.natAbs / Nat.gcd sc pi.natAbs : Nat) : Int) := (Int.natCast_ediv _ _).symm
            refine ⟨_, ((pi.natAbs / Nat.gcd sc pi.natAbs : Nat) : Int), rfl, congrArg V.int ev, wide_mul (a := 5136) (b := 5136) (by rw [Int.natAbs_natCast]; exact lt_pow sclt (by omega)) (by rw [Int.natAbs_natCast]; exact Nat.lt_of_le_of_lt (Nat.div_le_self _ _) plt) (by decide) (by decide) (by decide), ?_⟩
            exact ⟨sc * (pi.natAbs / Nat.gcd sc pi.natAbs), _, _, rfl, k8.new (k8.free0 hq), hsc.next ppos pd⟩
          · obtain ⟨sc, v9, v10, rfl, k8, hsc⟩ := a
            have w8 := k8.get0 w7
            have sclt := hsc.lt d0 dlt
            refine ⟨_, rfl, _, rfl, _, rfl, W, _, _, o, rfl, rfl, w8, by rw [List.length_map, List.length_replicate]; exact ixN_nat ow, ?_⟩
            have inW : W ∈ [W] := List.mem_cons_self
            have k9 : KX [W] H8 (upd H8 W (.lst ((iV (List.replicate w 0)).set o (.int (sc : Nat))))) := (KX.refl _ _).put inW
            have w9 : upd H8 W (.lst ((iV (List.replicate w 0)).set o (.int (sc : Nat)))) W = some (.lst (iV ((List.replicate w 0).set o (sc : Int)))) := by
              rw [upd_same]
              simp only [iV, List.map_set]
            generalize upd H8 W (.lst ((iV (List.replicate w 0)).set o (.int (sc : Nat)))) = H9 at k9 w9 ⊢
            have LL8 := k8.get0 LL7
            have hL8 := hL7.kx0 k8
            have nLW : Ld ≠ W := ne_of_none (k5 _ _ (fun z => nLF (List.mem_singleton.mp z)) gL4) hW6
            have nrW : ∀ x ∈ ls, x.2.2.1 ≠ W := fun x hx => ne_of_none (k5 _ _ (fun z => nrF x hx (List.mem_singleton.mp z)) (hL4 x hx).2) hW6
            have scw : ((sc : Nat) : Int).natAbs < 2 ^ 5136 := by
              rw [Int.natAbs_natCast]
              exact lt_pow sclt (by omega)
            have keepL : ∀ {H'}, KX [W] H8 H' → H' Ld = some (.lst (ldR ls)) ∧ LeadsH H' ls := fun kw => ⟨kw _ _ (fun z => nLW (List.mem_singleton.mp z)) LL8, fun x hx => ⟨kd_one kw w8 _ _ (hL8 x hx).1 rfl, kw _ _ (fun z => nrW x hx (List.mem_singleton.mp z)) (hL8 x hx).2⟩⟩
            -- the row
            refine ⟨_, rfl, Ld, rfl, ⟨_, SqL.of (keepL k9).1⟩, for_it (walk_list (xs := ldR ls)) (fun i σ H' => ∃ (v9 v10 : Option V) (fr : List Int), σ = [some (.ref R), some (.int w), some (.ref DC), some (.int (o : Nat)), some (.ref Ld), some (.ref F0), v6, some (.int (sc : Nat)), some (.ref W), v9, v10] ∧ KX [W] H8 H' ∧ H' W = some (.lst (iV fr)) ∧ fr.length = w ∧ ∀ x ∈ fr, x.natAbs < 2 ^ 5136)
              ⟨_, _, _, rfl, k9, w9, by rw [List.length_set, List.length_replicate], fun x hx => ?_⟩ (fun i σ H' _ a => ?_) (fun i v σ Ha Hb hi a y => ?_) fun σ Ha a => ?_⟩
            · rcases List.mem_or_eq_of_mem_set hx with q | q
              · rw [(List.mem_replicate.mp q).2]
                exact Nat.pow_pos (by decide)
              · rw [q]
                exact scw
            · obtain ⟨_, _, _, _, kw, _⟩ := a
              exact SqL.of (keepL kw).1
            · obtain ⟨rfl, hx⟩ := y
              obtain ⟨hi2, rfl⟩ := at_ldR hx
              obtain ⟨v9, v10, fr, rfl, kw, wa, lfr, bfr⟩ := a
              have hm : ls[i] ∈ ls := List.getElem_mem hi2
              have Lw := lead _ hm
              obtain ⟨hl1, hl2⟩ := (keepL kw).2 _ hm
              have lr : (ls[i]).2.2.2.length = w := Lw.row.len
              have hc : (ls[i]).2.1 < w := Lw.hi
              have ixA : ∀ c, c < w → atI (iV (ls[i]).2.2.2) ((c : Nat) : Int) = some (.int (at_ (ls[i]).2.2.2 c)) := fun c hc => atI_nat (by rw [List.getElem?_map, List.getElem?_eq_getElem (by rw [lr]; exact hc), at_lt (by rw [lr]; exact hc)]; rfl)
              have blt : ∀ c, (at_ (ls[i]).2.2.2 c).natAbs < 2 ^ 5136 := fun c => lt_pow (Lw.row.lt _) (by omega)
              have ent := Lw.entry hsc d0 o
              refine ⟨(ls[i]).1, _, rfl, SqT.of hl1, rfl, _, _, rfl, _, _, rfl, rfl, ?_⟩
              refine ⟨_, rfl, _, rfl, (ls[i]).2.2.1, _, _, _, rfl, rfl, SqL.of hl2, ixA o ow, _, rfl, _, _, rfl, rfl, wide_mul (blt o) scw (by decide) (by decide) (by decide), ?_⟩
              refine ⟨_, rfl, _, rfl, (ls[i]).2.2.1, _, _, _, rfl, rfl, SqL.of hl2, ixA _ hc, _, _, rfl, rfl, divA Lw.ne (blt _) (by decide) (by decide), _, _, rfl, rfl, ?_⟩
              refine ⟨_, rfl, _, rfl, W, _, _, (ls[i]).2.1, rfl, rfl, wa, by rw [List.length_map, lfr]; exact ixN_nat hc, _, _, fr.set (ls[i]).2.1 (0 - (at_ (ls[i]).2.2.2 o * (sc : Int)).fdiv (at_ (ls[i]).2.2.2 (ls[i]).2.1)), rfl, kw.put inW, ?_, by rw [List.length_set]; exact lfr, fun x hx => ?_⟩
              · rw [upd_same]
                simp only [iV, List.map_set]
              · rcases List.mem_or_eq_of_mem_set hx with q | q
                · exact bfr x q
                · rw [q]
                  have e2 := lt_pow ent (show K14.E e + 15 ≤ 5136 by omega)
                  show (0 - (at_ (ls[i]).2.2.2 o * (sc : Int)).fdiv (at_ (ls[i]).2.2.2 (ls[i]).2.1)).natAbs < _
                  rw [Int.zero_sub, Int.natAbs_neg]
                  exact e2
            · obtain ⟨v9, v10, fr, rfl, kw, wa, lfr, bfr⟩ := a
              have k6a : KX [] H6 Ha := (k7.trans k8).own hW6 kw
              have fa := k6a.get0 gF5
              refine ⟨_, rfl, .inl ⟨rfl, _, SqL.of fa⟩, _, rfl, W, fr, rfl, wa, fun x hx => lt_pow (bfr x hx) (by decide), by omega, fun D' Hc kc oD' gD' => ⟨D', _, rfl, SqL.of gD', fun t ht => ?_⟩⟩
              have kt : KX [] Hc (upd Hc t (.tup (iV (clr fr)))) := KX.new' ht
              have gt : upd Hc t (.tup (iV (clr fr))) t = some (.tup (iV (clr fr))) := upd_same
              have k6d := (k6a.trans kc).trans kt
              generalize upd Hc t (.tup (iV (clr fr))) = Hd at kt gt k6d ⊢
              refine ⟨F0, _, _, rfl, rfl, k6d.get0 gF5, ?_, _, _, _, _, _, _, ks ++ [(t, clr fr)], rfl, (fun c u hc e => ?_), ?_, fun x hx => ?_, ?_⟩
              · rw [lrw, lks]
                have := List.length_map (f := Int.ofNat) (as := os)
                have h1 : (iV (os.map Int.ofNat)).length = os.length := by rw [List.length_map, List.length_map]
                rw [h1] at hj
                exact Nat.lt_of_lt_of_le (show j < 12 by omega) (by decide)
              · rw [upd_ne (fun z => hc (by rw [z]; exact inF))]
                exact k6d.get0 (k5 c u hc e)
              · rw [upd_same]
                simp [rwR]
              · have nF : ∀ {c xs}, Hd c = some (.tup xs) → c ≠ F0 := fun e z => by
                  rw [z, k6d.get0 gF5] at e
                  cases e
                rcases List.mem_append.mp hx with q | q
                · have e := k6d.get0 (hks x q).1
                  exact ⟨by rw [upd_ne (nF e)]; exact e, (hks x q).2⟩
                · rw [List.mem_singleton.mp q]
                  refine ⟨by rw [upd_ne (nF gt)]; exact gt, by rw [clr_len]; exact lfr, fun x hx => ?_⟩
                  obtain ⟨m, hm, rfl⟩ := mem_at hx
                  refine clr_le (fun m => ?_) m
                  by_cases q2 : m < fr.length
                  · exact bfr _ (at_mem q2)
                  · rw [at_ge (by omega)]
                    exact Nat.pow_pos (by decide)
              · rw [List.length_append, lks]
                rfl
        · obtain ⟨_, _, _, _, _, _, ks, rfl, k5, gF5, hks, lks⟩ := a
          refine ⟨_, rfl, k F0 ks H5 ((k2.trans kX).own oF k5) oF gF5 hks ?_⟩
          rw [lks, List.length_map, List.length_map]
          omega
end
end K14
set_option maxHeartbeats 2000000
/-! the law's own row of a rod -/
namespace K14
open PySem L2 RZ GxR
open PySem.Spec PyProof.Rows
def lshift (p : Str → List Int) (x : Str × Str) (k : Nat) : Int := (p x.1).getD k 0 - (p x.2).getD k 0
def lentA (p : Str → List Int) (x : Str × Str) (z : Str) (k : Nat) : Int := if z = x.1 then lshift p x k else if z = x.2 then 0 - lshift p x k else 0
def lent (n : Nat) (zs : List Str) (p : Str → List Int) (x : Str × Str) (i : Nat) : Int := lentA p x (zs.getD (i / n) Str.empty) (i % n)
abbrev lrTo (n : Nat) (zs : List Str) (p : Str → List Int) (x : Str × Str) (c : Nat) : List Int := (List.range c).map (lent n zs p x)
abbrev lrow (n : Nat) (zs : List Str) (p : Str → List Int) (x : Str × Str) : List Int := lrTo n zs p x (n * zs.length)
theorem sm_block (G : Nat → Nat → Int) {n k : Nat} (hn : n = 1 ∨ n = 2) (hk : k < n) : ∀ m, sm (n * m) (fun i => if i % n = k then G (i / n) (i % n) else 0) = sm m (fun j => G j k)
  | 0 => rfl
  | m + 1 => by
    have ih := sm_block G hn hk m
    rcases hn with rfl | rfl
    · obtain rfl : k = 0 := by omega
      rw [Nat.one_mul] at ih ⊢
      show sm m _ + _ = sm m _ + _
      rw [ih]
      simp [Nat.mod_one]
    · rw [Nat.mul_succ]
      show sm (2 * m) _ + (if 2 * m % 2 = k then G (2 * m / 2) (2 * m % 2) else 0) + (if (2 * m + 1) % 2 = k then G ((2 * m + 1) / 2) ((2 * m + 1) % 2) else 0) = sm m _ + G m k
      rw [ih, show 2 * m % 2 = 0 by omega, show 2 * m / 2 = m by omega, show (2 * m + 1) % 2 = 1 by omega, show (2 * m + 1) / 2 = m by omega]
      have h2 : k = 0 ∨ k = 1 := by omega
      rcases h2 with rfl | rfl
      · rw [if_pos rfl, if_neg (by decide)]
        omega
      · rw [if_neg (by decide), if_pos rfl]
        omega
theorem sm_delta (i : Nat) (s : Int) : ∀ m, sm m (fun j => if j = i then s else 0) = if i < m then s else 0
  | 0 => by simp [sm]
  | m + 1 => by
    show sm m _ + (if m = i then s else 0) = _
    rw [sm_delta i s m]
    by_cases h1 : i < m
    · rw [if_pos h1, if_neg (by omega), if_pos (by omega)]
      omega
    · by_cases h2 : m = i
      · rw [if_neg h1, if_pos h2, if_pos (by omega)]
        omega
      · rw [if_neg h1, if_neg h2, if_neg (by omega)]
        omega
theorem nodup_at {zs : List Str} (nd : zs.Nodup) {i j : Nat} (hi : i < zs.length) (hj : j < zs.length) (e : zs[i] = zs[j]) : i = j := by
  rcases Nat.lt_trichotomy i j with q | q | q
  · exact absurd e (List.pairwise_iff_getElem.mp nd i j hi hj q)
  · exact q
  · exact absurd e.symm (List.pairwise_iff_getElem.mp nd j i hj hi q)
theorem lrow_orth {n : Nat} {zs : List Str} {p : Str → List Int} {x : Str × Str} (hn : n = 1 ∨ n = 2) (nd : zs.Nodup) (h1 : x.1 ∈ zs) (h2 : x.2 ∈ zs) (ne : x.1 ≠ x.2) : Orth n (n * zs.length) (lrow n zs p x) := fun k hk => by
  have n0 : 0 < n := by omega
  rw [sm_congr (g := fun i => if i % n = k then lentA p x (zs.getD (i / n) Str.empty) (i % n) else 0) fun i hi => by
    have e : at_ (lrow n zs p x) i = lent n zs p x i := by
      rw [at_lt (by simpa using hi)]
      simp
    rw [e]
    rfl]
  rw [sm_block (fun j k => lentA p x (zs.getD j Str.empty) k) hn hk]
  have i1 := List.idxOf_lt_length_of_mem h1
  have i2 := List.idxOf_lt_length_of_mem h2
  have e1 : zs[zs.idxOf x.1] = x.1 := List.getElem_idxOf i1
  have e2 : zs[zs.idxOf x.2] = x.2 := List.getElem_idxOf i2
  rw [sm_congr (g := fun j => (if j = zs.idxOf x.1 then lshift p x k else 0) * 1 - (if j = zs.idxOf x.2 then lshift p x k else 0) * 1) fun j hj => by
    have g : zs.getD j Str.empty = zs[j] := by simp [hj]
    rw [g]
    unfold lentA
    by_cases q1 : j = zs.idxOf x.1
    · have q2 : j ≠ zs.idxOf x.2 := fun z => ne (by
        rw [← e1, ← e2]
        congr 1
        omega)
      rw [if_pos q1, if_neg q2, if_pos (by subst q1; exact e1)]
      omega
    · have q3 : zs[j] ≠ x.1 := fun z => q1 (nodup_at nd hj i1 (z.trans e1.symm))
      rw [if_neg q1, if_neg q3]
      by_cases q2 : j = zs.idxOf x.2
      · rw [if_pos q2, if_pos (by subst q2; exact e2)]
        omega
      · rw [if_neg q2, if_neg fun z => q2 (nodup_at nd hj i2 (z.trans e2.symm))]
        rfl]
  rw [sm_lin, sm_delta, sm_delta, if_pos i1, if_pos i2]
  omega
theorem lentA_low {p : Str → List Int} {x : Str × Str} {z : Str} {k : Nat} {B : Nat} (h : (lshift p x k).natAbs ≤ B) : (lentA p x z k).natAbs ≤ B := by
  unfold lentA
  split
  · exact h
  · split
    · omega
    · exact Nat.zero_le _
theorem lent_at {n : Nat} {zs : List Str} {p : Str → List Int} {x : Str × Str} {j m : Nat} (hj : j < zs.length) (hm : m < n) : lent n zs p x (n * j + m) = lentA p x zs[j] m := by
  unfold lent
  rw [Nat.mul_add_div (by omega), Nat.mul_add_mod, Nat.div_eq_of_lt hm, Nat.mod_eq_of_lt hm, Nat.add_zero]
  congr 1
  simp [hj]
theorem lrTo_succ {n : Nat} {zs : List Str} {p : Str → List Int} {x : Str × Str} {c : Nat} : lrTo n zs p x (c + 1) = lrTo n zs p x c ++ [lent n zs p x c] := by simp [lrTo, List.range_succ]
end K14
set_option maxHeartbeats 2000000
/-! the law's rows and paces -/
namespace K14
open PySem L2 RZ GxR
open PySem.Spec PyProof.Rows
abbrev st__law_rows : Stmt := top 60
theorem sc__law_rows : FnScope ["_law_frame_here", "_law_placing_here", "_law_width", "_law_found", "_law_one", "_law_other", "_law_row", "_law_pin", "_law_at", "_law_shift"] ["_law_frame_here", "_law_placing_here"] (defScope st__law_rows) := ⟨rfl, rfl, rfl, by decide +kernel, rfl, by decide +kernel, by decide +kernel⟩
abbrev st__law_pace : Stmt := top 61
theorem sc__law_pace : FnScope ["_law_placing_here", "_law_step_here", "_law_one", "_law_other", "_law_a", "_law_b", "_law_c", "_law_d"] ["_law_placing_here", "_law_step_here", "_law_one", "_law_other"] (defScope st__law_pace) := ⟨rfl, rfl, rfl, by decide +kernel, rfl, by decide +kernel, by decide +kernel⟩
def spLRows : Sp := fun vs H Q _ => ∃ (t d : Addr) (zs : List Str) (L : List Pr3) (p : Str → List Int) (n : Nat), vs = [.ref t, .ref d] ∧ PlnAt H t zs L ∧ Pln zs L ∧ PlAt H d zs p ∧ (n = 1 ∨ n = 2) ∧ (∀ z ∈ zs, (p z).length = n ∧ ∀ i ∈ p z, i.natAbs ≤ 6) ∧
  ∀ D (rows : List RwT) H', KX [] H H' → H D = none → H' D = some (.lst (rwR rows)) → RowsH H' rows → rows.length ≤ 100 → (∀ r ∈ rows, r.2.length = n * zs.length) → (∀ r ∈ rows, ∀ x ∈ r.2, x.natAbs ≤ 12) → (∀ r ∈ rows, Orth n (n * zs.length) r.2) → Q (.ref D) H'
def spPace : Sp := fun vs H Q _ => ∃ (d e : Addr) (x y : Str) (ls : List Str) (p q : Str → List Int) (n : Nat), vs = [.ref d, .ref e, .str x, .str y] ∧ PlAt H d ls p ∧ PlAt H e ls q ∧ x ∈ ls ∧ y ∈ ls ∧ SpotsOk ls p n ∧ SpotsOk ls q n ∧
  ∀ H', KX [] H H' → Q (.int (paceAt p q (x, y))) H'
theorem Pln.on {zs : List Str} {L : List Pr3} (h : Pln zs L) {x : Pr3} (hx : x ∈ L) : x.2.1 ∈ zs ∧ x.2.2 ∈ zs ∧ x.2.1 ≠ x.2.2 := by
  have hm : x.2 ∈ prsOf zs := h.sub.subset (List.mem_map_of_mem hx)
  have b := prs_bef h.ord hm
  exact ⟨(prs_in hm).1, (prs_in hm).2, fun e => by rw [e] at b; exact bef_irrefl b⟩
theorem Pln.few {zs : List Str} {L : List Pr3} (h : Pln zs L) : L.length ≤ 36 := by
  have h1 := prs_len (zs := zs) (i := zs.length)
  have h2 : zs.length * zs.length ≤ 6 * 6 := Nat.mul_le_mul h.l6 h.l6
  have h3 := h.sub.length_le
  rw [List.length_map] at h3
  unfold prsOf at h3
  omega
section
variable {P : Program} {w : World} {K : PySem.W.Frag} {mg : Str → Option Value} {base : Heap} {C Pt : Addr}
theorem ok_pace {f : Addr} {fd : FuncData} (F : Fun K "_law_pace" "_law_pace" st__law_pace f fd) (T : Txt mg C) : FnOk P w K mg base CX0 1 f fd ["_law_placing_here", "_law_step_here", "_law_one", "_law_other"] spPace := by
  refine F.ok sc__law_pace (fun vs H Q E h => ?_) (fun cdv A outer s H vs Q E hr h => ?_)
  · obtain ⟨d, e, x, y, ls, p, q, n, rfl, _⟩ := h
    rfl
  · obtain ⟨d, e, x, y, ls, p, q, n, rfl, hd, he, hx, hy, okp, okq, k⟩ := h
    have hu := hu_of hr
    refine ⟨_, (pss_one (ps_ret (pe_callB (sumK K) (by rfl) T.sum (by decide +kernel) (pa_cons (pe_lc (own := [("_law_a", 4), ("_law_b", 5), ("_law_c", 6), ("_law_d", 7)]) (g := (gTup K 4 (gCons (gName 4) (gCons (gName 5) (gCons (gName 6) (gCons (gName 7) gNil)))))) (tt := tYes) rfl sc__law_pace.nd (pi_zip4 (by rfl) T.zip (pa_cons (pe_dget hu (pv 0) (pv 2) (fun _ _ => rfl)) (pa_cons (pe_dget hu (pv 0) (pv 3) (fun _ _ => rfl)) (pa_cons (pe_dget hu (pv 1) (pv 2) (fun _ _ => rfl)) (pa_cons (pe_dget hu (pv 1) (pv 3) (fun _ _ => rfl)) pa_nil))))) (blkOk_by (N := ["_law_placing_here", "_law_step_here", "_law_one", "_law_other", "_law_a", "_law_b", "_law_c", "_law_d"]) (sc := defScope st__law_pace) (own := [("_law_a", 4), ("_law_b", 5), ("_law_c", 6), ("_law_d", 7)]) (by decide +kernel)) (fun _ _ _ _ _ => (pg_tup rfl (pgs_cons (pg_name (i := 4) sc__law_pace.nd rfl (by first | exact Or.inl rfl | exact Or.inr rfl)) (pgs_cons (pg_name (i := 5) sc__law_pace.nd rfl (by first | exact Or.inl rfl | exact Or.inr rfl)) (pgs_cons (pg_name (i := 6) sc__law_pace.nd rfl (by first | exact Or.inl rfl | exact Or.inr rfl)) (pgs_cons (pg_name (i := 7) sc__law_pace.nd rfl (by first | exact Or.inl rfl | exact Or.inr rfl)) pgs_nil)))))) (fun _ _ _ _ _ => pts_nil) (fun _ _ _ _ _ => (pe_op op_mulW (pe_op op_sub (pv 4) (pv 5)) (pe_op op_sub (pv 6) (pv 7))))) pa_nil)))), ?_⟩
    obtain ⟨t1, g1, h1⟩ := hd.get hx
    obtain ⟨t2, g2, h2⟩ := hd.get hy
    obtain ⟨t3, g3, h3⟩ := he.get hx
    obtain ⟨t4, g4, h4⟩ := he.get hy
    have n2 : n < 64 := by rcases okp.two with e | e <;> omega
    have l1 := okp.len x hx
    have l2 := okp.len y hy
    have l3 := okq.len x hx
    have l4 := okq.len y hy
    have el : ∀ {xs : List Int}, xs.length = n → (iV xs).length = n := fun h => by rw [List.length_map, h]
    refine ⟨_, rfl, _, rfl, d, _, rfl, g1, _, rfl, _, rfl, d, _, rfl, g2, _, rfl, _, rfl, e, _, rfl, g3, _, rfl, _, rfl, e, _, rfl, g4, t1, t2, t3, t4, _, _, _, _, rfl, SqT.of h1, SqT.of h2, SqT.of h3, SqT.of h4,
      fun D hD => any_it (walk_zip4 (by rw [el l1, el l2]) (by rw [el l1, el l3]) (by rw [el l1, el l4])) (AccF [] H D fun i => .int (((p x).getD i 0 - (p y).getD i 0) * ((q x).getD i 0 - (q y).getD i 0))) (AccF.zero hD)
      (fun i H' _ p => ⟨SqT.kx0 (SqT.of h1) p.1, SqT.kx0 (SqT.of h2) p.1, SqT.kx0 (SqT.of h3) p.1, SqT.kx0 (SqT.of h4) p.1⟩) (fun i v H0 H1 hi a y => ?_) fun H1 a => ?_⟩
    · obtain ⟨T1, u1, u2, u3, u4, rfl, hT1, rfl, e1, e2, e3, e4⟩ := y
      obtain ⟨rfl, i1⟩ := iV_at e1
      obtain ⟨rfl, i2⟩ := iV_at e2
      obtain ⟨rfl, i3⟩ := iV_at e3
      obtain ⟨rfl, i4⟩ := iV_at e4
      rw [el l1] at hi
      have b1 : ((p x).getD i 0 - (p y).getD i 0).natAbs < 2 ^ 7000 := sub_lt (low_lt (okp.low _ hx _ (getD_mem i1))) (low_lt (okp.low _ hy _ (getD_mem i2)))
      have b2 : ((q x).getD i 0 - (q y).getD i 0).natAbs < 2 ^ 7000 := sub_lt (low_lt (okq.low _ hx _ (getD_mem i3))) (low_lt (okq.low _ hy _ (getD_mem i4)))
      refine ⟨T1, _, rfl, SqT.of upd_same, rfl, _, _, rfl, _, _, rfl, _, _, rfl, _, _, rfl, rfl, rfl, yesT ⟨_, rfl, _, rfl, _, _, rfl, rfl, _, rfl, _, rfl, _, _, rfl, rfl, _, _, rfl, rfl, wide_mul b1 b2 (by decide) (by decide) (by decide), AccF.step hD (a.1.new (a.1.free0 hT1)) ?_ rfl (by omega)⟩⟩
      rw [upd_ne (ne_of_none a.2 hT1)]
      exact a.2
    · rw [el l1] at a
      refine ⟨D, (List.range n).map fun i => ((p x).getD i 0 - (p y).getD i 0) * ((q x).getD i 0 - (q y).getD i 0), rfl, SqL.of ?_, inE ?_ (k H1 a.1)⟩
      · rw [a.2, mapN_int]
      · exact (pace_eq (x := (x, y)) l1 l2 l3 l4).symm
theorem ok_lrows {f : Addr} {fd : FuncData} (F : Fun K "_law_rows" "_law_rows" st__law_rows f fd) (T : Txt mg C) : FnOk P w K mg base CX0 1 f fd ["_law_frame_here", "_law_placing_here"] spLRows := by
  refine F.ok sc__law_rows (fun vs H Q E h => ?_) (fun cdv A outer s H vs Q E hr h => ?_)
  · obtain ⟨t, d, zs, L, p, n, rfl, _⟩ := h
    rfl
  · obtain ⟨t, d, zs, L, p, n, rfl, ⟨tp, tr, ht, htp, htr, hL⟩, pp, hd, hn, ok, k⟩ := h
    have hu := hu_of hr
    refine ⟨_, (pss_cons (ps_par (i := 2) (j := 3) rfl sc__law_rows.nd rfl rfl (by decide) rfl rfl (pa_cons (pe_callB (lenK K) (by rfl) T.len PySem.boot_len (pa_cons (pe_dget hu (pv 1) (pe_ix (ix_tupK K) (pe_ix (ix_tupK K) (pv 0) pe_int (fun _ _ => rfl)) pe_int (fun _ _ => rfl)) (fun _ _ => rfl)) pa_nil)) (pa_cons (pe_lst pa_nil) pa_nil)) (by rfl))
      (pss_cons (ps_for PassesOwn.never rfl (piT K (pe_ix (ix_tupK K) (pv 0) pe_int (fun _ _ => rfl))) (pg_tup rfl (pgs_cons (pg_name (i := 4) sc__law_rows.nd rfl (by first | exact Or.inl rfl | exact Or.inr rfl)) (pgs_cons (pg_name (i := 5) sc__law_rows.nd rfl (by first | exact Or.inl rfl | exact Or.inr rfl)) pgs_nil)))
        (pss_cons (ps_set (i := 6) sc__law_rows.nd rfl (by first | exact Or.inl rfl | exact Or.inr rfl) (pe_lst pa_nil))
      (pss_cons (ps_for PassesOwn.never rfl (piT K (pe_ix (ix_tupK K) (pv 0) pe_int (fun _ _ => rfl))) (pg_name (i := 7) sc__law_rows.nd rfl (by first | exact Or.inl rfl | exact Or.inr rfl))
        (pss_one (ps_for PassesOwn.never rfl (pi_range1 (by rfl) T.range (pa_cons (pv 2) pa_nil)) (pg_name (i := 8) sc__law_rows.nd rfl (by first | exact Or.inl rfl | exact Or.inr rfl))
        (pss_cons (ps_set (i := 9) sc__law_rows.nd rfl (by first | exact Or.inl rfl | exact Or.inr rfl) (pe_op op_sub (pe_ix (ix_tupK K) (pe_dget hu (pv 1) (pv 4) (fun _ _ => rfl)) (pv 8) (fun _ _ => rfl)) (pe_ix (ix_tupK K) (pe_dget hu (pv 1) (pv 5) (fun _ _ => rfl)) (pv 8) (fun _ _ => rfl))))
      (pss_one (ps_expr (bmK K PySem.F.plainAttrs_list PySem.F.slot_list_append PySem.F.type_list_append mt_append (pv 6) (pa_cons (pe_ifExp (pt_cmpR op_eq (pv 7) (pv 4) (nomark _)) (pv 9) (pe_ifExp (pt_cmpR op_eq (pv 7) (pv 5) (nomark _)) (pe_op op_sub pe_int (pv 9)) pe_int)) pa_nil))))))))
      (pss_one (ps_expr (bmK K PySem.F.plainAttrs_list PySem.F.slot_list_append PySem.F.type_list_append mt_append (pv 3) (pa_cons (pv 6) pa_nil)))))))
      (pss_one (ps_ret (pv 3))))), ?_⟩
    have el : (sV zs).length = zs.length := List.length_map ..
    have z1 := pp.l1
    have z0 : zs[0]? = some zs[0] := List.getElem?_eq_getElem z1
    have m0 : zs[0] ∈ zs := List.getElem_mem z1
    obtain ⟨t0, g0, h0⟩ := hd.get m0
    have e0 : (iV (p zs[0])).length = n := by rw [List.length_map, (ok _ m0).1]
    have n2 : n ≤ 2 := by omega
    refine ⟨_, rfl, _, rfl, t, _, _, .ref tp, rfl, rfl, SqT.of ht, atI_nat (j := 0) rfl, tp, _, _, .str zs[0], rfl, rfl, SqT.of htp, atI_nat (j := 0) (by rw [List.getElem?_map, z0]; rfl), d, _, rfl, g0, t0, _, rfl, .inr (SqT.of h0), Nat.zero_le _, fun F0 hF0 => ⟨_, _, rfl, ?_⟩⟩
    rw [e0]
    have k1 : KX [] H (upd H F0 (.lst [])) := KX.new' hF0
    have f1 : upd H F0 (.lst []) F0 = some (.lst []) := upd_same
    generalize upd H F0 (.lst []) = H1 at k1 f1 ⊢
    have inF : F0 ∈ [F0] := List.mem_cons_self
    refine ⟨_, rfl, t, _, _, .ref tr, rfl, rfl, SqT.of (k1.get0 ht), atI_nat (j := 1) rfl, tr, rfl, ⟨_, SqT.of (k1.get0 htr)⟩,
      for_it (walk_tup (xs := refs L)) (fun i σ H' => ∃ (v4 v5 v6 v7 v8 v9 : Option V) (Rs : List RwT), σ = [some (.ref t), some (.ref d), some (.int n), some (.ref F0), v4, v5, v6, v7, v8, v9] ∧ KX [F0] H1 H' ∧ H' F0 = some (.lst (rwR Rs)) ∧ RowsH H' Rs ∧ Rs.map (·.2) = (L.take i).map fun x => lrow n zs p x.2)
      ⟨_, _, _, _, _, _, [], rfl, KX.refl _ _, f1, fun x hx => (nomatch hx), rfl⟩ (fun i σ H' _ a => ?_) (fun i v σ H2 H3 hi a y => ?_) fun σ H2 a => ?_⟩
    · obtain ⟨_, _, _, _, _, _, _, _, kf, _⟩ := a
      exact SqT.of (kd_one kf f1 _ _ (k1.get0 htr) rfl)
    · obtain ⟨rfl, hx⟩ := y
      obtain ⟨x, hx2, hm, rfl⟩ := mem_refs hx
      obtain ⟨v4, v5, v6, v7, v8, v9, Rs, rfl, kf, f3, hR, eR⟩ := a
      have kd3 : Kd H H3 := k1.kd0.trans (kd_one kf f1)
      have px : H3 x.1 = some (.tup [.str x.2.1, .str x.2.2]) := kd3 _ _ (hL x hm) rfl
      obtain ⟨o1, o2, on⟩ := pp.on hm
      refine ⟨x.1, _, rfl, SqT.of px, rfl, _, _, rfl, _, _, rfl, rfl, Nat.zero_le _, fun W hW => ?_⟩
      have k4 : KX [] H3 (upd H3 W (.lst [])) := KX.new' hW
      have w4 : upd H3 W (.lst []) W = some (.lst []) := upd_same
      generalize upd H3 W (.lst []) = H4 at k4 w4 ⊢
      have inW : W ∈ [W] := List.mem_cons_self
      have kd4 := kd3.trans k4.kd0
      refine ⟨_, rfl, t, _, _, .ref tp, rfl, rfl, SqT.of (kd4 _ _ ht rfl), atI_nat (j := 0) rfl, tp, rfl, ⟨_, SqT.of (kd4 _ _ htp rfl)⟩,
        for_it (walk_tup (xs := sV zs)) (fun j σ H' => ∃ (v7 v8 v9 : Option V), σ = [some (.ref t), some (.ref d), some (.int n), some (.ref F0), some (.str x.2.1), some (.str x.2.2), some (.ref W), v7, v8, v9] ∧ KX [W] H4 H' ∧ H' W = some (.lst (iV (lrTo n zs p x.2 (n * j)))))
        ⟨_, _, _, rfl, KX.refl _ _, w4⟩ (fun j σ H' _ a => ?_) (fun j v σ H5 H6 hj a y => ?_) fun σ H5 a => ?_⟩
      · obtain ⟨_, _, _, _, kw, _⟩ := a
        exact SqT.of (kd_one kw w4 _ _ (kd4 _ _ htp rfl) rfl)
      · obtain ⟨rfl, hx⟩ := y
        obtain ⟨hj2, rfl⟩ := at_sV hx
        obtain ⟨v7, v8, v9, rfl, kw, w6⟩ := a
        refine ⟨_, rfl, _, rfl, by omega, by omega, ?_⟩
        rw [Int.toNat_natCast]
        refine for_it walk_range (fun m σ H' => ∃ (v8 v9 : Option V), σ = [some (.ref t), some (.ref d), some (.int n), some (.ref F0), some (.str x.2.1), some (.str x.2.2), some (.ref W), some (.str zs[j]), v8, v9] ∧ KX [W] H4 H' ∧ H' W = some (.lst (iV (lrTo n zs p x.2 (n * j + m)))))
          ⟨_, _, rfl, kw, w6⟩ (fun _ _ _ _ _ => trivial) (fun m v σ H7 H8 hm2 a y => ?_) fun σ H7 a => ?_
        · obtain ⟨rfl, rfl⟩ := y
          obtain ⟨v8, v9, rfl, kw, w8⟩ := a
          have kd8 := kd4.trans (kd_one kw w4)
          obtain ⟨ta, ga, ha⟩ := (hd.kd kd8).get o1
          obtain ⟨tb, gb, hb⟩ := (hd.kd kd8).get o2
          have atP : ∀ z ∈ zs, atI (iV (p z)) ((m : Nat) : Int) = some (.int ((p z).getD m 0)) := fun z hz => atI_nat (by
            have h1 : m < (p z).length := by rw [(ok z hz).1]; exact hm2
            rw [List.getElem?_map, List.getElem?_eq_getElem h1]
            simp [h1])
          show gName 8 (V.int (0 + (m : Int))) _ _ _
          rw [Int.zero_add]
          have bound : (iV (lrTo n zs p x.2 (n * j + m))).length < sizeLine := by
            rw [List.length_map, List.length_map, List.length_range]
            have : n * j ≤ 2 * 6 := Nat.mul_le_mul n2 (by have := pp.l6; omega)
            exact Nat.lt_of_le_of_lt (show n * j + m ≤ 14 by omega) (by decide)
          have fin : ∀ v : Int, v = lentA p x.2 zs[j] m → upd H8 W (.lst (iV (lrTo n zs p x.2 (n * j + m)) ++ [.int v])) W = some (.lst (iV (lrTo n zs p x.2 (n * j + (m + 1))))) := fun v e => by
            rw [upd_same, e, ← lent_at hj2 hm2, show n * j + (m + 1) = n * j + m + 1 by omega, lrTo_succ]
            simp only [iV, List.map_append, List.map_cons, List.map_nil]
          refine ⟨_, rfl, _, rfl, d, _, rfl, ga, _, rfl, ta, _, _, _, rfl, rfl, SqT.of ha, atP _ o1, _, rfl, _, rfl, d, _, rfl, gb, _, rfl, tb, _, _, _, rfl, rfl, SqT.of hb, atP _ o2, _, _, rfl, rfl, ?_⟩
          refine ⟨_, rfl, .inl ⟨rfl, _, SqL.of w8⟩, _, rfl, _, rfl, rfl, _, rfl, ite2 (fun h => ?_) (fun h => ?_)⟩
          · have e1 : zs[j] = x.2.1 := by simpa using h
            exact ⟨_, rfl, W, _, _, rfl, rfl, w8, bound, _, _, rfl, kw.put inW, fin _ (by unfold lentA lshift; rw [if_pos e1])⟩
          · have e1 : zs[j] ≠ x.2.1 := by simpa using h
            refine ⟨_, rfl, _, rfl, rfl, _, rfl, ite2 (fun h => ?_) (fun h => ?_)⟩
            · have e2 : zs[j] = x.2.2 := by simpa using h
              exact ⟨_, rfl, _, _, rfl, rfl, W, _, _, rfl, rfl, w8, bound, _, _, rfl, kw.put inW, fin _ (by unfold lentA lshift; rw [if_neg e1, if_pos e2])⟩
            · have e2 : zs[j] ≠ x.2.2 := by simpa using h
              exact ⟨W, _, _, rfl, rfl, w8, bound, _, _, rfl, kw.put inW, fin _ (by unfold lentA; rw [if_neg e1, if_neg e2])⟩
        · obtain ⟨v8, v9, rfl, kw, w7⟩ := a
          exact ⟨_, _, _, rfl, kw, by rw [Nat.mul_succ]; exact w7⟩
      · obtain ⟨v7, v8, v9, rfl, kw, w5⟩ := a
        rw [el] at w5
        have k35 : KX [] H3 H5 := k4.own hW kw
        have f5 := k35.get0 f3
        have hiL := (List.getElem?_eq_some_iff.mp hx2).1
        have eL : L[i] = x := (List.getElem?_eq_some_iff.mp hx2).2
        have lR : Rs.length ≤ 36 := by
          have h1 := congrArg List.length eR
          rw [List.length_map, List.length_map, List.length_take] at h1
          have := pp.few
          omega
        refine ⟨_, rfl, .inl ⟨rfl, _, SqL.of f5⟩, _, rfl, F0, _, _, rfl, rfl, f5, ?_, _, _, _, _, _, _, Rs ++ [(W, lrow n zs p x.2)], rfl, fun c u hc e => ?_, ?_, fun r hr => ?_, ?_⟩
        · rw [List.length_map]
          exact Nat.lt_of_le_of_lt lR (by decide)
        · rw [upd_ne (fun z => hc (by rw [z]; exact inF))]
          exact k35.get0 (kf c u hc e)
        · rw [upd_same]
          simp [rwR]
        · rcases List.mem_append.mp hr with q | q
          · rw [upd_ne (rw_ne q f3 (hR r q))]
            exact k35.get0 (hR r q)
          · rw [List.mem_singleton.mp q, upd_ne (ne_of_none f3 hW).symm]
            exact w5
        · rw [List.map_append, eR, take_one hiL, List.map_append, eL]
          rfl
    · obtain ⟨v4, v5, v6, v7, v8, v9, Rs, rfl, kf, f2, hR, eR⟩ := a
      rw [show (refs L).length = L.length from List.length_map .., List.take_length] at eR
      have inR : ∀ r ∈ Rs, ∃ x ∈ L, r.2 = lrow n zs p x.2 := fun r hr => by
        have q : r.2 ∈ Rs.map (·.2) := List.mem_map_of_mem hr
        rw [eR] at q
        obtain ⟨x, hx, e⟩ := List.mem_map.mp q
        exact ⟨x, hx, e.symm⟩
      refine ⟨_, rfl, k F0 Rs H2 (k1.own hF0 kf) hF0 f2 hR ?_ (fun r hr => ?_) (fun r hr v hv => ?_) (fun r hr => ?_)⟩
      · have h1 := congrArg List.length eR
        rw [List.length_map, List.length_map] at h1
        have := pp.few
        omega
      · obtain ⟨x, hx, e⟩ := inR r hr
        rw [e]
        simp
      · obtain ⟨x, hx, e⟩ := inR r hr
        rw [e] at hv
        obtain ⟨i, hi, rfl⟩ := List.mem_map.mp hv
        obtain ⟨o1, o2, _⟩ := pp.on hx
        have hi2 := List.mem_range.mp hi
        have n0 : 0 < n := by omega
        refine lentA_low ?_
        have b : ∀ z ∈ zs, ((p z).getD (i % n) 0).natAbs ≤ 6 := fun z hz => (ok z hz).2 _ (getD_mem (by rw [(ok z hz).1]; exact Nat.mod_lt _ n0))
        have b1 := b _ o1
        have b2 := b _ o2
        unfold lshift
        omega
      · obtain ⟨x, hx, e⟩ := inR r hr
        obtain ⟨o1, o2, on⟩ := pp.on hx
        rw [e]
        exact lrow_orth hn (pair_nodup pp.ord) o1 o2 on
end
end K14
set_option maxHeartbeats 2000000
/-! the law's step -/
namespace K14
open PySem L2 RZ GxR
open PySem.Spec PyProof.Rows
abbrev st__law_step : Stmt := top 62
theorem sc__law_step : FnScope ["_law_bag_here", "_law_plain", "_law_placing_here", "_law_space", "_law_found", "_law_row", "_law_way", "_law_pins", "_law_many", "_law_turn", "_law_shift", "_law_pin", "_law_one", "_law_other", "_law_at"] ["_law_bag_here", "_law_plain", "_law_placing_here", "_law_space"] (defScope st__law_step) := ⟨rfl, rfl, rfl, by decide +kernel, rfl, by decide +kernel, by decide +kernel⟩
theorem iteAnd {b : Bool} {X B : Prop} (h1 : b = true → B → X) (hB : B) : if b = true then X else B := by
  cases b with
  | true => exact h1 rfl hB
  | false => exact hB
theorem low26 {x : Int} (h : x.natAbs ≤ 26) : x.natAbs < 2 ^ 5160 := Nat.lt_of_le_of_lt h (by decide +kernel)
theorem bag_new {b D : Addr} {H : Hp} {o : HO} (h : Bag H b) (hD : H D = none) : Bag (upd H D o) b := by
  have ne := bag_ne h hD
  obtain ⟨i, j, l, e⟩ := h
  exact ⟨i, j, l, by rw [upd_ne ne.symm]; exact e⟩
theorem idx_at {zs : List Str} (nd : zs.Nodup) {i : Nat} (h : i < zs.length) : zs.idxOf zs[i] = i := by
  have hm : zs[i] ∈ zs := List.getElem_mem h
  exact nodup_at nd (List.idxOf_lt_length_of_mem hm) h (List.getElem_idxOf (List.idxOf_lt_length_of_mem hm))
theorem cutV_mid {xs : List V} {a c : Nat} (h : a + c ≤ xs.length) : cutV xs (some (a : Int)) (some ((a + c : Nat) : Int)) = (xs.drop a).take c := by
  unfold cutV
  have h1 := Nat.min_eq_left (show a ≤ xs.length by omega)
  have h2 := Nat.min_eq_left h
  rw [HT.sIx_nat, HT.sIx_nat, h1, h2, Nat.add_sub_cancel_left]
def StepOk (zs : List Str) (n : Nat) (q : Str → List Int) : Prop := ∀ z ∈ zs, (q z).length = n ∧ ∀ x ∈ q z, x.natAbs < 2 ^ 5160
def spStep : Sp := fun vs H Q _ => ∃ (b t d : Addr) (zs : List Str) (L : List Pr3) (p : Str → List Int) (n : Nat), vs = [.ref b, .ref t, .ref d, .int n] ∧ Bag H b ∧ PlnAt H t zs L ∧ Pln zs L ∧ PlAt H d zs p ∧ (n = 1 ∨ n = 2) ∧ (∀ z ∈ zs, (p z).length = n ∧ ∀ i ∈ p z, i.natAbs ≤ 6) ∧
  ∀ e q H', KX [b] H H' → Bag H' b → PlAt H' e zs q → StepOk zs n q → Q (.ref e) H'
section
variable {P : Program} {w : World} {K : PySem.W.Frag} {mg : Str → Option Value} {base : Heap} {C Pt : Addr}
theorem ok_step {f : Addr} {fd : FuncData} (F : Fun K "_law_step" "_law_step" st__law_step f fd) (T : Txt mg C) (d__law_draw : Def P w K mg base "_law_draw" 1 ["_law_bag_here", "_law_total"] spDraw) (d__law_placing : Def P w K mg base "_law_placing" 3 ["_law_bag_here", "_law_pins", "_law_space", "_law_spread"] spPlacing)
    (d__law_rows : Def P w K mg base "_law_rows" 1 ["_law_frame_here", "_law_placing_here"] spLRows) (d__law_kernel : Def P w K mg base "_law_kernel" 5 ["_law_rows_here", "_law_width"] spKernel) : FnOk P w K mg base CX0 6 f fd ["_law_bag_here", "_law_plain", "_law_placing_here", "_law_space"] spStep := by
  refine F.ok sc__law_step (fun vs H Q E h => ?_) (fun cdv A outer s H vs Q E hr h => ?_)
  · obtain ⟨b, t, d, zs, L, p, n, rfl, _⟩ := h
    rfl
  · obtain ⟨b, t, d, zs, L, p, n, rfl, hb, hpl, pp, hd, hn, ok, k⟩ := h
    have hu := hu_of hr
    refine ⟨_, (pss_cons (ps_par (i := 6) (j := 7) rfl sc__law_step.nd rfl rfl (by decide) rfl rfl (pa_cons (pe_def d__law_draw hr (pa_cons (pv 0) (pa_cons pe_int pa_nil))) (pa_cons (pe_ix (ix_tupK K) (pv 1) pe_int (fun _ _ => rfl)) pa_nil)) (by rfl))
      (pss_cons (ps_if (pt_cmpR op_eq (pv 6) pe_int (nomark _)) (pss_one (ps_ret (pe_def d__law_placing hr (pa_cons (pv 0) (pa_cons (pv 7) (pa_cons (pv 3) (pa_cons pe_int pa_nil))))))) pss_nil)
      (pss_cons (ps_if (PW.pt (pw_and (pt_cmpR op_eq (pv 6) pe_int (nomark _)) (pw_and1 (pt_cmpR op_eq (pv 3) pe_int (nomark _))))) (pss_cons (ps_asg (pe_tup (pa_cons (pe_op op_add pe_int (pe_def d__law_draw hr (pa_cons (pv 0) (pa_cons pe_int pa_nil)))) (pa_cons (pe_def d__law_draw hr (pa_cons (pv 0) (pa_cons pe_int pa_nil))) pa_nil))) (pg_tup rfl (pgs_cons (pg_name (i := 9) sc__law_step.nd rfl (by first | exact Or.inl rfl | exact Or.inr rfl)) (pgs_cons (pg_name (i := 10) sc__law_step.nd rfl (by first | exact Or.inl rfl | exact Or.inr rfl)) pgs_nil))))
      (pss_one (ps_ret (pe_callTy (dictPK K) (by rfl) T.dict (by decide +kernel) (pa_cons (pe_lc (own := [("_law_pin", 11)]) (g := (gName 11)) (tt := tYes) rfl sc__law_step.nd (piT K (pv 7)) (blkOk_by (N := ["_law_bag_here", "_law_plain", "_law_placing_here", "_law_space", "_law_found", "_law_row", "_law_way", "_law_pins", "_law_many", "_law_turn", "_law_shift", "_law_pin", "_law_one", "_law_other", "_law_at"]) (sc := defScope st__law_step) (own := [("_law_pin", 11)]) (by decide +kernel)) (fun _ _ _ _ _ => (pg_name (i := 11) sc__law_step.nd rfl (by first | exact Or.inl rfl | exact Or.inr rfl))) (fun _ _ _ _ _ => pts_nil) (fun _ _ _ _ _ => (pe_tup (pa_cons (pv 11) (pa_cons (pe_tup (pa_cons (pe_op op_sub (pv 10) (pe_op op_mulW (pv 9) (pe_ix (ix_tupK K) (pe_dget hu (pv 2) (pv 11) (fun _ _ => rfl)) pe_int (fun _ _ => rfl)))) (pa_cons (pe_op op_sub (pe_op op_mulW (pv 9) (pe_ix (ix_tupK K) (pe_dget hu (pv 2) (pv 11) (fun _ _ => rfl)) pe_int (fun _ _ => rfl))) pe_int) pa_nil))) pa_nil))))) pa_nil))))) pss_nil)
      (pss_cons (ps_set (i := 4) sc__law_step.nd rfl (by first | exact Or.inl rfl | exact Or.inr rfl) (pe_op op_rep (pe_lst (pa_cons pe_int pa_nil)) (pe_op op_mulW (pv 3) (pe_callB (lenK K) (by rfl) T.len PySem.boot_len (pa_cons (pv 7) pa_nil)))))
      (pss_cons (ps_for PassesOwn.never rfl (piL K (pe_def d__law_kernel hr (pa_cons (pe_def d__law_rows hr (pa_cons (pv 1) (pa_cons (pv 2) pa_nil))) (pa_cons (pe_callB (lenK K) (by rfl) T.len PySem.boot_len (pa_cons (pv 4) pa_nil)) pa_nil)))) (pg_name (i := 5) sc__law_step.nd rfl (by first | exact Or.inl rfl | exact Or.inr rfl))
        (pss_cons (ps_set (i := 8) sc__law_step.nd rfl (by first | exact Or.inl rfl | exact Or.inr rfl) (pe_op op_sub (pe_def d__law_draw hr (pa_cons (pv 0) (pa_cons pe_int pa_nil))) pe_int))
      (pss_one (ps_set (i := 4) sc__law_step.nd rfl (by first | exact Or.inl rfl | exact Or.inr rfl) (pe_lc (own := [("_law_one", 12), ("_law_other", 13)]) (g := (gTup K 2 (gCons (gName 12) (gCons (gName 13) gNil)))) (tt := tYes) rfl sc__law_step.nd (piZipM K T.zip (pa_cons (pv 4) (pa_cons (pv 5) pa_nil))) (blkOk_by (N := ["_law_bag_here", "_law_plain", "_law_placing_here", "_law_space", "_law_found", "_law_row", "_law_way", "_law_pins", "_law_many", "_law_turn", "_law_shift", "_law_pin", "_law_one", "_law_other", "_law_at"]) (sc := defScope st__law_step) (own := [("_law_one", 12), ("_law_other", 13)]) (by decide +kernel)) (fun _ _ _ _ _ => (pg_tup rfl (pgs_cons (pg_name (i := 12) sc__law_step.nd rfl (by first | exact Or.inl rfl | exact Or.inr rfl)) (pgs_cons (pg_name (i := 13) sc__law_step.nd rfl (by first | exact Or.inl rfl | exact Or.inr rfl)) pgs_nil)))) (fun _ _ _ _ _ => pts_nil) (fun _ _ _ _ _ => (pe_op op_add (pv 12) (pe_op op_mulW (pv 8) (pv 13)))))))))
      (pss_one (ps_ret (pe_callTy (dictPK K) (by rfl) T.dict (by decide +kernel) (pa_cons (pe_lc (own := [("_law_at", 14), ("_law_pin", 11)]) (g := (gTup K 2 (gCons (gName 14) (gCons (gName 11) gNil)))) (tt := tYes) rfl sc__law_step.nd (piEnumT K T.enumerate (pa_cons (pv 7) pa_nil)) (blkOk_by (N := ["_law_bag_here", "_law_plain", "_law_placing_here", "_law_space", "_law_found", "_law_row", "_law_way", "_law_pins", "_law_many", "_law_turn", "_law_shift", "_law_pin", "_law_one", "_law_other", "_law_at"]) (sc := defScope st__law_step) (own := [("_law_at", 14), ("_law_pin", 11)]) (by decide +kernel)) (fun _ _ _ _ _ => (pg_tup rfl (pgs_cons (pg_name (i := 14) sc__law_step.nd rfl (by first | exact Or.inl rfl | exact Or.inr rfl)) (pgs_cons (pg_name (i := 11) sc__law_step.nd rfl (by first | exact Or.inl rfl | exact Or.inr rfl)) pgs_nil)))) (fun _ _ _ _ _ => pts_nil) (fun _ _ _ _ _ => (pe_tup (pa_cons (pv 11) (pa_cons (pe_callTy (tupK K) (by rfl) T.tuple (by decide +kernel) (pa_cons (pe_slice (sl_listK K) (pv 4) (po_some (pe_op op_mulW (pv 3) (pv 14))) (po_some (pe_op op_add (pe_op op_mulW (pv 3) (pv 14)) (pv 3)))) pa_nil)) pa_nil))))) pa_nil))))))))), ?_⟩
    have el : (sV zs).length = zs.length := List.length_map ..
    have l6 := pp.l6
    have nd := pair_nodup pp.ord
    refine ⟨_, rfl, b, 3, rfl, hb, by omega, by omega, fun r H1 hr1 k1 b1 => ?_⟩
    have kd1 := bag_kd hb k1
    obtain ⟨tp, tr, ht, htp, htr, hL⟩ := id (hpl.kd kd1)
    refine ⟨_, rfl, t, _, _, .ref tp, rfl, rfl, SqT.of ht, atI_nat (j := 0) rfl, _, _, rfl, ?_⟩
    refine ⟨_, rfl, rfl, _, rfl, ite2 (fun _ => ?_) (fun _ => ?_)⟩
    · refine ⟨_, rfl, _, rfl, _, rfl, b, tp, zs, n, 3, rfl, b1, htp, pp.ord, l6, by omega, by omega, fun e q H2 k2 b2 pl sz => k e q H2 (k1.trans k2) b2 pl fun z hz => ⟨(sz z hz).1, fun x hx => Nat.lt_of_le_of_lt ((sz z hz).2 x hx) (by decide +kernel)⟩⟩
    · by_cases sh : r = 1 ∧ n = 2
      · obtain ⟨rfl, rfl⟩ := sh
        refine ⟨_, rfl, rfl, _, rfl, iteB (by decide) ⟨_, rfl, rfl, _, rfl, iteB (by decide) ?_⟩⟩
        refine ⟨_, rfl, b, 3, rfl, b1, by omega, by omega, fun r2 H2 hr2 k2 b2 => ⟨_, _, rfl, rfl, _, rfl, b, 9, rfl, b2, by omega, by omega, fun r3 H3 hr3 k3 b3 => ⟨by show 2 ≤ sizeLine; decide, fun U hU => ?_⟩⟩⟩
        have k4 : KX [] H3 (upd H3 U (.tup [.int (1 + (r2 : Int)), .int (r3 : Nat)])) := KX.new' hU
        have u4 : upd H3 U (.tup [.int (1 + (r2 : Int)), .int (r3 : Nat)]) U = some (.tup [.int (1 + (r2 : Int)), .int (r3 : Nat)]) := upd_same
        have b4 := bag_new (o := .tup [.int (1 + (r2 : Int)), .int (r3 : Nat)]) b3 hU
        generalize upd H3 U (.tup [.int (1 + (r2 : Int)), .int (r3 : Nat)]) = H4 at k4 u4 b4 ⊢
        have kx := (k1.trans k2).trans (k3.trans k4.of)
        have kd4 := bag_kd hb kx
        have kd14 := bag_kd b1 (k2.trans (k3.trans k4.of))
        refine ⟨U, _, rfl, SqT.of u4, rfl, _, _, rfl, _, _, rfl, rfl, ?_⟩
        refine ⟨_, rfl, tp, rfl, ⟨_, SqT.of (kd14 _ _ htp rfl)⟩, fun D hD => any_it (walk_tup (xs := sV zs)) (fun i H' => KX [] H4 H' ∧ DP H' D (zs.take i) (fun z => [(r3 : Int) - (1 + (r2 : Int)) * (p z).getD 1 0, (1 + (r2 : Int)) * (p z).getD 0 0 - 2])) ⟨KX.new' hD, DP.zero⟩ (fun i H' _ a => SqT.of (a.1.get0 (kd14 _ _ htp rfl))) (fun i v H5 H6 hi a y => ?_) fun H5 a => ?_⟩
        · obtain ⟨rfl, hx⟩ := y
          obtain ⟨hi2, rfl⟩ := at_sV hx
          obtain ⟨k5, dp⟩ := a
          have hm : zs[i] ∈ zs := List.getElem_mem hi2
          obtain ⟨tt, gt, h1⟩ := (hd.kd (kd4.trans k5.kd0)).get hm
          obtain ⟨lp, bp⟩ := ok _ hm
          have atP : ∀ m, m < 2 → atI (iV (p zs[i])) ((m : Nat) : Int) = some (.int ((p zs[i]).getD m 0)) := fun m hm2 => atI_nat (by
            have h1 : m < (p zs[i]).length := by rw [lp]; exact hm2
            rw [List.getElem?_map, List.getElem?_eq_getElem h1]
            simp [h1])
          have c0 : CMulW (1 + (r2 : Int)) ((p zs[i]).getD 0 0) := wide_mul (a := 64) (b := 64) (by omega) (by have := bp _ (getD_mem (i := 0) (by omega)); omega) (by decide) (by decide) (by decide)
          have c1 : CMulW (1 + (r2 : Int)) ((p zs[i]).getD 1 0) := wide_mul (a := 64) (b := 64) (by omega) (by have := bp _ (getD_mem (i := 1) (by omega)); omega) (by decide) (by decide) (by decide)
          refine ⟨rfl, yesT ⟨_, rfl, _, rfl, _, rfl, _, rfl, _, rfl, d, _, rfl, gt, tt, _, _, _, rfl, rfl, SqT.of h1, atP 1 (by omega), _, _, rfl, rfl, c1, _, _, rfl, rfl, ?_⟩⟩
          refine ⟨_, rfl, _, rfl, _, rfl, d, _, rfl, gt, tt, _, _, _, rfl, rfl, SqT.of h1, atP 0 (by omega), _, _, rfl, rfl, c0, _, _, rfl, rfl, by show 2 ≤ sizeLine; decide, fun c hc => ?_⟩
          refine ⟨by show 2 ≤ sizeLine; decide, fun u hu => ?_⟩
          have k6 : KX [] H6 (upd H6 c (.tup [.int ((r3 : Int) - (1 + (r2 : Int)) * (p zs[i]).getD 1 0), .int ((1 + (r2 : Int)) * (p zs[i]).getD 0 0 - 2)])) := KX.new' hc
          have dp6 := dp.keep k6.kd0 (fun o e => k6.get0 e)
          obtain ⟨acc, a1, a2, a3⟩ := dp6.step (z := zs[i]) (t := c) (u := u) upd_same hu (by rw [List.length_take]; omega)
          exact ⟨acc, a1, a2, ((k5.trans k6).new ((k5.trans k6).free0 hu)).new hD, by rw [take_one hi2]; exact a3⟩
        · obtain ⟨k5, dp⟩ := a
          rw [el, List.take_length] at dp
          obtain ⟨ps, kvs, e1, e2, e3⟩ := dp.dict (K := K) nd
          refine ⟨D, ps, kvs, rfl, e1, e2, fun c hc => ?_⟩
          refine k c _ _ ((kx.trans k5.of).trans (KX.new' hc)) (bag_new (b4.kx k5 (fun z => nomatch z)) hc) (e3 c hc) fun z hz => ⟨rfl, fun x hx => ?_⟩
          obtain ⟨lp, bp⟩ := ok z hz
          have q0 := bp _ (getD_mem (i := 0) (by omega))
          have q1 := bp _ (getD_mem (i := 1) (by omega))
          have m : ∀ y : Int, y.natAbs ≤ 6 → ((1 + (r2 : Int)) * y).natAbs ≤ 18 := fun y hy => by
            rw [Int.natAbs_mul]
            exact Nat.le_trans (Nat.mul_le_mul (show (1 + (r2 : Int)).natAbs ≤ 3 by omega) hy) (by decide)
          have m0 := m _ q0
          have m1 := m _ q1
          rcases List.mem_cons.mp hx with rfl | hx
          · exact low26 (by omega)
          · rw [List.mem_singleton.mp hx]
            exact low26 (by omega)
      · refine ⟨_, rfl, rfl, _, rfl, iteAnd (fun h z => ⟨_, rfl, rfl, _, rfl, iteN ?_ z⟩) ?_⟩
        · have r1 : r = 1 := by
            have h2 : (r : Int) = 1 := by simpa using h
            omega
          have n2 : (n : Int) ≠ 2 := fun e => sh ⟨r1, by omega⟩
          simp [n2]
        · have n2 : n ≤ 2 := by omega
          have z1 := pp.l1
          refine ⟨by show 1 ≤ sizeLine; decide, fun Z hZ => ⟨_, rfl, _, rfl, tp, _, rfl, .inr (SqT.of ((KX.new' (S := []) hZ).get0 htp)), _, _, rfl, rfl, wide_mul (a := 64) (b := 64) (by omega) (by rw [el]; omega) (by decide) (by decide) (by decide), ?_⟩⟩
          have pw : ((n : Int) * ((sV zs).length : Int)) = ((n * zs.length : Nat) : Int) := by
            rw [el]
            simp
          have nl : n * zs.length ≤ 2 * 6 := Nat.mul_le_mul n2 l6
          refine ⟨Z, ((n * zs.length : Nat) : Int), _, rfl, congrArg V.int pw, upd_same, by omega, by omega, by rw [Int.toNat_natCast, sizeLine_eq]; show 1 * (n * zs.length) ≤ _; omega, fun W hW => ?_⟩
          have eW : (List.replicate ((n * zs.length : Nat) : Int).toNat [V.int 0]).flatten = iV (List.replicate (n * zs.length) 0) := by
            rw [Int.toNat_natCast]
            simp [iV]
          rw [eW]
          have k2 : KX [] H1 (upd (upd H1 Z (.lst [.int 0])) W (.lst (iV (List.replicate (n * zs.length) 0)))) := (KX.new' hZ).new ((KX.new' (S := []) hZ).free0 hW)
          have w2 : upd (upd H1 Z (.lst [.int 0])) W (.lst (iV (List.replicate (n * zs.length) 0))) W = some (.lst (iV (List.replicate (n * zs.length) 0))) := upd_same
          generalize upd (upd H1 Z (.lst [.int 0])) W (.lst (iV (List.replicate (n * zs.length) 0))) = H2 at k2 w2 ⊢
          have b2 := b1.kx k2 (fun z => nomatch z)
          have kd2 := kd1.trans k2.kd0
          refine ⟨_, rfl, _, rfl, t, d, zs, L, p, n, rfl, hpl.kd kd2, pp, hd.kd kd2, hn, ok, fun Dr rows H3 k3 oDr gDr hrows l100 lw low ort => ⟨_, rfl, W, _, rfl, .inl (SqL.of (k3.get0 w2)), Dr, n, zs.length, n * zs.length, rows, ?_, gDr, hrows, l100, hn, z1, l6, rfl, lw, low, ort, fun Dk ks H4 k4 oDk gDk hks lks => ?_⟩⟩
          · rw [List.length_map, List.length_replicate]
          · have b4 := b2.kx (k3.trans k4) (fun z => nomatch z)
            have w4 := (k3.trans k4).get0 w2
            have kd4 : Kd H H4 := kd2.trans (k3.trans k4).kd0
            have kx4 : KX [b] H H4 := k1.trans ((k2.trans (k3.trans k4)).of)
            have nkb : Dk ≠ b := fun z => by
              obtain ⟨_, _, _, e⟩ := b2
              rw [← z, k3.free0 oDk] at e
              cases e
            have nWb : W ≠ b := bag_ne b1 ((KX.new' (S := []) hZ).free0 hW)
            have htp4 : H4 tp = some (.tup (sV zs)) := (k2.trans (k3.trans k4)).get0 htp
            refine ⟨Dk, rfl, ⟨_, SqL.of gDk⟩, for_it (walk_list (xs := rwR ks)) (fun i σ H' => ∃ (v5 v8 v9 v10 v11 v12 v13 v14 : Option V) (Fd : Addr) (fs : List Int), σ = [some (.ref b), some (.ref t), some (.ref d), some (.int n), some (.ref Fd), v5, some (.int (r : Nat)), some (.ref tp), v8, v9, v10, v11, v12, v13, v14] ∧ KX [b] H4 H' ∧ Bag H' b ∧ Fd ≠ b ∧ H' Fd = some (.lst (iV fs)) ∧ fs.length = n * zs.length ∧ ∀ x ∈ fs, x.natAbs ≤ i * 2 ^ 5137)
              ⟨_, _, _, _, _, _, _, _, W, _, rfl, KX.refl _ _, b4, nWb, w4, by rw [List.length_replicate], fun x hx => by rw [(List.mem_replicate.mp hx).2]; exact Nat.zero_le _⟩ (fun i σ H' _ a => ?_) (fun i v σ H5 H6 hi a y => ?_) fun σ H5 a => ?_⟩
            · obtain ⟨_, _, _, _, _, _, _, _, _, _, _, k5, _⟩ := a
              exact SqL.of (k5 _ _ (fun z => nkb (List.mem_singleton.mp z)) gDk)
            · obtain ⟨rfl, hx⟩ := y
              obtain ⟨hi2, rfl⟩ := at_rwR hx
              obtain ⟨v5, v8, v9, v10, v11, v12, v13, v14, Fd, fs, rfl, k5, b5, nFb, gF, lfs, bfs⟩ := a
              have hm : ks[i] ∈ ks := List.getElem_mem hi2
              obtain ⟨r1, r2, r3⟩ := hks _ hm
              refine ⟨_, rfl, b, 5, rfl, b5, by omega, by omega, fun ri H7 hri k7 b7 => ⟨_, _, rfl, rfl, ?_⟩⟩
              have gF7 := k7 _ _ (fun z => nFb (List.mem_singleton.mp z)) gF
              have r7 : H7 (ks[i]).1 = some (.tup (iV (ks[i]).2)) := bag_kd b4 (k5.trans k7) _ _ r1 rfl
              have elf : (iV fs).length = fs.length := List.length_map ..
              have elr : (iV (ks[i]).2).length = fs.length := by rw [List.length_map, r2, lfs]
              refine ⟨_, rfl, _, rfl, Fd, (ks[i]).1, _, _, rfl, SqL.of gF7, SqT.of r7, fun D hD => any_it (walk_zipM (xs := iV fs) (ys := iV (ks[i]).2) (by rw [elf, elr])) (AccF [] H7 D fun j => .int (fs.getD j 0 + ((ri : Int) - 2) * (ks[i]).2.getD j 0)) (AccF.zero hD)
                (fun j H' _ p => ⟨SqL.of (p.1.get0 gF7), SqT.kx0 (SqT.of r7) p.1⟩) (fun j v H8 H9 hj a y => ?_) fun H8 a => ?_⟩
              · obtain ⟨T1, u, v, rfl, hT1, rfl, e1, e2⟩ := y
                obtain ⟨rfl, i1⟩ := iV_at e1
                obtain ⟨rfl, i2⟩ := iV_at e2
                refine ⟨T1, _, rfl, SqT.of upd_same, rfl, _, _, rfl, _, _, rfl, rfl, rfl, yesT ⟨_, rfl, _, rfl, _, rfl, _, _, rfl, rfl, wide_mul (a := 64) (b := 5136) (by omega) (r3 _ (getD_mem i2)) (by decide) (by decide) (by decide), _, _, rfl, rfl, AccF.step hD (a.1.new (a.1.free0 hT1)) ?_ rfl (by omega)⟩⟩
                rw [upd_ne (ne_of_none a.2 hT1)]
                exact a.2
              · rw [elf] at a
                have gD : H8 D = some (.lst (iV ((List.range fs.length).map fun j => fs.getD j 0 + ((ri : Int) - 2) * (ks[i]).2.getD j 0))) := by rw [a.2, mapN_int]
                refine ⟨_, _, _, _, _, _, _, _, D, _, rfl, (k5.trans k7).trans a.1.of, b7.kx a.1 (fun z => nomatch z), bag_ne b7 hD, gD, by simp [lfs], fun x hx => ?_⟩
                obtain ⟨j, hj, rfl⟩ := List.mem_map.mp hx
                have hj2 := List.mem_range.mp hj
                have q1 := bfs _ (getD_mem hj2)
                have q2 := r3 _ (getD_mem (xs := (ks[i]).2) (i := j) (by rw [r2, ← lfs]; exact hj2))
                have q3 : (((ri : Int) - 2) * (ks[i]).2.getD j 0).natAbs ≤ 2 * 2 ^ 5136 := by
                  rw [Int.natAbs_mul]
                  exact Nat.mul_le_mul (by omega) (Nat.le_of_lt q2)
                have q4 : (2 : Nat) * 2 ^ 5136 = 2 ^ 5137 := by rw [Nat.mul_comm, ← Nat.pow_succ]
                rw [q4] at q3
                rw [Nat.succ_mul]
                generalize (2 : Nat) ^ 5137 = B at q1 q3 ⊢
                generalize ((ri : Int) - 2) * (ks[i]).2.getD j 0 = y at q3 ⊢
                generalize fs.getD j 0 = x at q1 ⊢
                generalize i * B = c at q1 ⊢
                omega
            · obtain ⟨v5, v8, v9, v10, v11, v12, v13, v14, Fd, fs, rfl, k5, b5, nFb, gF, lfs, bfs⟩ := a
              have htp5 : H5 tp = some (.tup (sV zs)) := bag_kd b4 k5 _ _ htp4 rfl
              refine ⟨_, rfl, tp, _, rfl, SqT.of htp5, fun D hD => any_it (walk_enumT (xs := sV zs)) (fun i H' => KX [] H5 H' ∧ DP H' D (zs.take i) (fun z => (fs.drop (n * zs.idxOf z)).take n)) ⟨KX.new' hD, DP.zero⟩ (fun i H' _ a => SqT.of (a.1.get0 htp5)) (fun i v H6 H7 hi a y => ?_) fun H6 a => ?_⟩
              · obtain ⟨T1, u, v, rfl, hT1, rfl, e1, e2⟩ := y
                obtain rfl : V.int (i : Nat) = u := Option.some.inj e1
                obtain ⟨hi2, rfl⟩ := at_sV e2
                obtain ⟨k6, dp⟩ := a
                have k7 : KX [] H6 (upd H6 T1 (.tup [.int (i : Nat), .str zs[i]])) := KX.new' hT1
                have dp7 := dp.keep k7.kd0 (fun o e => k7.get0 e)
                have ni : n * i + n ≤ n * zs.length := by
                  rw [← Nat.mul_succ]
                  exact Nat.mul_le_mul_left n hi2
                refine ⟨T1, _, rfl, SqT.of upd_same, rfl, _, _, rfl, _, _, rfl, rfl, rfl, yesT ?_⟩
                generalize upd H6 T1 (.tup [.int (i : Nat), .str zs[i]]) = H7 at k7 dp7 ⊢
                have gF7 := (k6.trans k7).get0 gF
                have cm : CMulW ((n : Nat) : Int) ((i : Nat) : Int) := wide_mul (a := 64) (b := 64) (by omega) (by omega) (by decide) (by decide) (by decide)
                refine ⟨_, rfl, _, rfl, _, rfl, _, rfl, _, _, rfl, rfl, cm, _, rfl, _, rfl, _, rfl, _, _, rfl, rfl, cm, _, rfl, _, _, rfl, rfl, _, rfl, Fd, _, rfl, SqL.of gF7, fun S hS => ?_⟩
                have cv : cutV (iV fs) (some ((n : Int) * (i : Int))) (some ((n : Int) * (i : Int) + (n : Int))) = iV ((fs.drop (n * i)).take n) := by
                  have q := cutV_mid (xs := iV fs) (a := n * i) (c := n) (by rw [List.length_map, lfs]; exact ni)
                  rw [show (((n * i : Nat) : Int)) = (n : Int) * (i : Int) from Int.natCast_mul _ _, show (((n * i + n : Nat) : Int)) = (n : Int) * (i : Int) + (n : Int) by rw [Int.natCast_add, Int.natCast_mul]] at q
                  rw [q]
                  simp only [iV, List.map_take, List.map_drop]
                rw [cv]
                have k8 : KX [] H7 (upd H7 S (.lst (iV ((fs.drop (n * i)).take n)))) := KX.new' hS
                have s8 : upd H7 S (.lst (iV ((fs.drop (n * i)).take n))) S = some (.lst (iV ((fs.drop (n * i)).take n))) := upd_same
                have dp8 := dp7.keep k8.kd0 (fun o e => k8.get0 e)
                generalize upd H7 S (.lst (iV ((fs.drop (n * i)).take n))) = H8 at k8 s8 dp8 ⊢
                refine ⟨S, _, rfl, SqL.of s8, fun c hc => ⟨by show 2 ≤ sizeLine; decide, fun u hu => ?_⟩⟩
                have k9 : KX [] H8 (upd H8 c (.tup (iV ((fs.drop (n * i)).take n)))) := KX.new' hc
                have dp9 := dp8.keep k9.kd0 (fun o e => k9.get0 e)
                have kk := ((k6.trans k7).trans k8).trans k9
                obtain ⟨acc, a1, a2, a3⟩ := dp9.step (z := zs[i]) (t := c) (u := u) (by show _ = some (HO.tup (iV ((fs.drop (n * zs.idxOf zs[i])).take n))); rw [idx_at nd hi2, upd_same]) hu (by rw [List.length_take]; omega)
                exact ⟨acc, a1, a2, (kk.new (kk.free0 hu)).new hD, by rw [take_one hi2]; exact a3⟩
              · obtain ⟨k6, dp⟩ := a
                rw [el, List.take_length] at dp
                obtain ⟨ps, kvs, e1, e2, e3⟩ := dp.dict (K := K) nd
                refine ⟨D, ps, kvs, rfl, e1, e2, fun c hc => ?_⟩
                refine k c _ _ (((kx4.trans k5).trans k6.of).trans (KX.new' hc)) (bag_new (b5.kx k6 (fun z => nomatch z)) hc) (e3 c hc) fun z hz => ⟨?_, fun x hx => ?_⟩
                · have iz := List.idxOf_lt_length_of_mem hz
                  have ni : n * zs.idxOf z + n ≤ n * zs.length := by
                    rw [← Nat.mul_succ]
                    exact Nat.mul_le_mul_left n iz
                  rw [List.length_take, List.length_drop, lfs]
                  omega
                · have q := bfs x (List.mem_of_mem_drop (List.mem_of_mem_take hx))
                  rw [show (rwR ks).length = ks.length from List.length_map ..] at q
                  have q2 : ks.length * 2 ^ 5137 ≤ 2 ^ 7 * 2 ^ 5137 := Nat.mul_le_mul_right _ (by omega)
                  rw [← Nat.pow_add] at q2
                  exact Nat.lt_of_le_of_lt (Nat.le_trans q q2) (Nat.pow_lt_pow_right (by decide) (by decide))
end
end K14
set_option maxHeartbeats 2000000
/-! the plain law: squares ahead and back are alike where the pace is nothing -/
namespace K14
open PySem L2 RZ GxR
open PySem.Spec PyProof.Rows
theorem sq_four (u v : Int) : (u + v) * (u + v) - (u - v) * (u - v) = 4 * (u * v) := by
  have e : v * u = u * v := Int.mul_comm v u
  rw [Int.add_mul, Int.mul_add, Int.mul_add, Int.sub_mul, Int.mul_sub, Int.mul_sub, e]
  omega
theorem sq_lists : ∀ (xs ys us vs : List Int), xs.length = us.length → ys.length = vs.length → sqL (List.zipWith (· + ·) xs us) (List.zipWith (· + ·) ys vs) - sqL (List.zipWith (· - ·) xs us) (List.zipWith (· - ·) ys vs) = 4 * (List.zipWith (· * ·) (List.zipWith (· - ·) xs ys) (List.zipWith (· - ·) us vs)).sum
  | [], _, _, _, _, _ => by simp [sqL]
  | _ :: _, [], [], _, h, _ => by cases h
  | _ :: _, [], _ :: _, _, _, _ => by simp [sqL]
  | x :: xs, y :: ys, [], _, h, _ => by cases h
  | x :: xs, y :: ys, u :: us, [], _, h => by cases h
  | x :: xs, y :: ys, u :: us, v :: vs, h1, h2 => by
    have ih := sq_lists xs ys us vs (by simpa using h1) (by simpa using h2)
    have q := sq_four (x - y) (u - v)
    simp only [sqL, List.zipWith_cons_cons, List.sum_cons] at ih ⊢
    rw [show x + u - (y + v) = x - y + (u - v) by omega, show x - u - (y - v) = x - y - (u - v) by omega]
    generalize (x - y + (u - v)) * (x - y + (u - v)) = A at q ⊢
    generalize (x - y - (u - v)) * (x - y - (u - v)) = B at q ⊢
    generalize (x - y) * (u - v) = C at q ⊢
    omega
theorem sq_pace {p q : Str → List Int} {x : Str × Str} {n : Nat} (h1 : (p x.1).length = n) (h2 : (p x.2).length = n) (h3 : (q x.1).length = n) (h4 : (q x.2).length = n) : sqAt (addP p q) x = sqAt (subP p q) x ↔ paceAt p q x = 0 := by
  have e := sq_lists (p x.1) (p x.2) (q x.1) (q x.2) (by rw [h1, h3]) (by rw [h2, h4])
  unfold sqAt addP subP paceAt
  constructor
  · intro z
    rw [z] at e
    omega
  · intro z
    rw [z] at e
    omega
theorem map_eq_iff {α β : Type} {f g : α → β} {l : List α} : l.map f = l.map g ↔ ∀ x ∈ l, f x = g x := by
  induction l with
  | nil => simp
  | cons x l ih => simp [ih]
theorem tab_at {p : Str → List Int} {x : Pr3} : ∀ {L : List Pr3}, x ∈ L → (L.map (·.2)).Nodup → valV (tabT (sqTab p L)) (prK x.2) = some (.int (sqAt p x.2))
  | y :: L, hx, nd => by
    rw [List.map_cons, List.nodup_cons] at nd
    show valV (((prK y.2), V.int (sqAt p y.2)) :: tabT (sqTab p L)) (prK x.2) = _
    rcases List.mem_cons.mp hx with rfl | hx
    · exact valV_pos rfl
    · rw [valV_neg]
      · exact tab_at hx nd.2
      · intro e
        have e' : prK y.2 = prK x.2 := e
        have z : (Sum.inr y.2.1 : Key) = Sum.inr x.2.1 ∧ (Sum.inr y.2.2 : Key) = Sum.inr x.2.2 := by simpa [prK] using e'
        have z1 : y.2.1 = x.2.1 := by injection z.1
        have z2 : y.2.2 = x.2.2 := by injection z.2
        exact nd.1 (by rw [show y.2 = x.2 from Prod.ext z1 z2]; exact List.mem_map_of_mem hx)
/-- what is told of the spots ahead and back -/
theorem add_ok {zs : List Str} {p q : Str → List Int} {n : Nat} (hn : n = 1 ∨ n = 2) (hp : ∀ z ∈ zs, (p z).length = n ∧ ∀ i ∈ p z, i.natAbs ≤ 6) (hq : StepOk zs n q) : SpotsOk zs p n ∧ SpotsOk zs q n ∧ SpotsOk zs (addP p q) n ∧ SpotsOk zs (subP p q) n := by
  have big : (2 : Nat) ^ 5160 + 6 < 10 ^ 2000 := by decide +kernel
  have comb : ∀ {i : Int} {a b : Int}, a.natAbs ≤ 6 → b.natAbs < 2 ^ 5160 → (i = a + b ∨ i = a - b) → i.natAbs < 10 ^ 2000 := fun {i a b} ha hb h => by
    generalize (2 : Nat) ^ 5160 = A at big hb
    generalize (10 : Nat) ^ 2000 = B at big ⊢
    omega
  have ent : ∀ (f : Int → Int → Int) (z : Str), z ∈ zs → ∀ i ∈ List.zipWith f (p z) (q z), ∃ a b, a ∈ p z ∧ b ∈ q z ∧ i = f a b := fun f z hz i hi => by
    obtain ⟨k, hk, rfl⟩ := List.getElem_of_mem hi
    rw [List.length_zipWith] at hk
    exact ⟨(p z)[k], (q z)[k], List.getElem_mem _, List.getElem_mem _, by simp⟩
  refine ⟨⟨hn, fun z hz => (hp z hz).1, fun z hz i hi => ?_⟩, ⟨hn, fun z hz => (hq z hz).1, fun z hz i hi => ?_⟩, ⟨hn, fun z hz => ?_, fun z hz i hi => ?_⟩, ⟨hn, fun z hz => ?_, fun z hz i hi => ?_⟩⟩
  · have := (hp z hz).2 i hi
    exact comb (a := i) (b := 0) this (by decide +kernel) (.inl (by omega))
  · exact comb (a := 0) (b := i) (by decide) ((hq z hz).2 i hi) (.inl (by omega))
  · unfold addP
    rw [List.length_zipWith, (hp z hz).1, (hq z hz).1, Nat.min_self]
  · obtain ⟨a, b, ha, hb, e⟩ := ent _ z hz i hi
    exact comb ((hp z hz).2 a ha) ((hq z hz).2 b hb) (.inl e)
  · unfold subP
    rw [List.length_zipWith, (hp z hz).1, (hq z hz).1, Nat.min_self]
  · obtain ⟨a, b, ha, hb, e⟩ := ent _ z hz i hi
    exact comb ((hp z hz).2 a ha) ((hq z hz).2 b hb) (.inr e)
/-- two dicts of the same spots -/
theorem same_pl {K : PySem.W.Frag} {H : Hp} {a b : Addr} {zs : List Str} {p : Str → List Int} (ha : PlAt H a zs p) (hb : PlAt H b zs p) : SamePl K H a b := by
  obtain ⟨f, f1, f2⟩ := ha
  obtain ⟨g, g1, g2⟩ := hb
  refine ⟨_, _, f1, g1, by simp, fun x hx => ?_⟩
  obtain ⟨k, hk, rfl⟩ := List.mem_map.mp hx
  exact ⟨f k, g k, p k, rfl, valV_pl hk, SqT.of (f2 k hk), SqT.of (g2 k hk)⟩
theorem items_dp {H : Hp} {f : Str → Addr} {p : Str → List Int} : ∀ {zs : List Str} {ts : List Addr}, Paired (fun (t : Addr) (q : Key × V) => H t = some (.tup [kV q.1, q.2])) ts (zs.map fun k => ((Sum.inr k : Key), V.ref (f k))) → (∀ k ∈ zs, H (f k) = some (.tup (iV (p k)))) →
    ∃ L : List Tr3, L.map (·.1) = ts ∧ L.map (·.2.1) = zs ∧ ∀ x ∈ L, H x.1 = some (.tup [.str x.2.1, .ref x.2.2]) ∧ H x.2.2 = some (.tup (iV (p x.2.1)))
  | [], _, .nil, _ => ⟨[], rfl, rfl, fun x hx => nomatch hx⟩
  | z :: zs, _, .cons (a := t) h r, hf => by
    obtain ⟨L, e1, e2, e3⟩ := items_dp r fun k hk => hf k (List.mem_cons_of_mem _ hk)
    refine ⟨(t, z, f z) :: L, by rw [List.map_cons, e1], by rw [List.map_cons, e2], fun x hx => ?_⟩
    rcases List.mem_cons.mp hx with rfl | hx
    · exact ⟨h, hf z List.mem_cons_self⟩
    · exact e3 x hx
theorem shuf_dict {K : PySem.W.Frag} {σ : L2.St} {H : Hp} {Q : VK} {i j : Nat} {b d : Addr} {zs : List Str} {p : Str → List Int} (hi : σ[i]? = some (some (.ref b))) (hj : σ[j]? = some (some (.ref d))) (hb : Bag H b) (hd : PlAt H d zs p) (nd : zs.Nodup) (l6 : zs.length ≤ 6)
    (k : ∀ e ls H', KX [b] H H' → Bag H' b → PlAt H' e ls p → ls.Perm zs → Q (.ref e) H') : tCB (rDictP K) (tCons (tDef spShuf (tCons (tVar i) (tCons (LiI.tListItems (tVar j)) tNil))) tNil) σ H Q := by
  obtain ⟨f, f1, f2⟩ := hd
  refine ⟨_, hi, _, hj, d, _, rfl, f1, fun H1 c ts kp hc hts nin h1 pr => ?_⟩
  have k1 : KX [] H H1 := fun a o _ e => kp a o e
  have b1 := hb.kx k1 (fun z => nomatch z)
  obtain ⟨L, e1, e2, e3⟩ := items_dp pr fun z hz => k1.get0 (f2 z hz)
  have lL : L.length ≤ 6 := by
    rw [← List.length_map (f := fun x : Tr3 => x.2.1), e2]
    exact l6
  refine ⟨b, c, _, rfl, b1, h1, bag_ne hb hc, ?_, fun ys D H2 pm k2 b2 oD gD => ?_⟩
  · rw [List.length_map, ← e1, List.length_map]
    omega
  · obtain ⟨M, pM, rfl⟩ := perm_of_map (L := L) (f := fun x : Tr3 => V.ref x.1) pm (by rw [← e1, List.map_map]; rfl)
    have dp : DP H2 D (M.map (·.2.1)) p := ⟨M, gD, rfl, fun x hx => by
      have q := e3 x (pM.mem_iff.mp hx)
      exact ⟨bag_kd b1 k2 _ _ q.1 rfl, bag_kd b1 k2 _ _ q.2 rfl⟩⟩
    have pz : (M.map (·.2.1)).Perm zs := by
      rw [← e2]
      exact pM.map _
    obtain ⟨ps, kvs, g1, g2, g3⟩ := dp.dict (K := K) (pz.nodup_iff.mpr nd)
    exact ⟨D, ps, kvs, rfl, g1, g2, fun e he => k e _ _ ((k1.of.trans k2).trans (KX.new' he)) (bag_new b2 he) (g3 e he) pz⟩
theorem dp_strs {K : PySem.W.Frag} {H : Hp} {a : Addr} {zs : List Str} (h : SqL K H a (sV zs)) : Dp K H (.ref a) (.list (zs.map PyData.str)) := by
  refine .lst h ?_
  clear h
  induction zs with
  | nil => exact .nil
  | cons n r ih => exact .cons (.str n) ih
theorem name_str {z : Str} (h : NameOk z) : PyData.strOk z = true := by
  unfold PyData.strOk
  rw [← Array.all_toList]
  have q : letters.cps.toList.all (fun c => decide (c < 0x110000)) = true := by decide +kernel
  exact List.all_eq_true.mpr fun c hc => List.all_eq_true.mp q c (h.low c hc)
theorem lay_strs : ∀ zs : List Str, (∀ z ∈ zs, NameOk z) → PyData.canLayAll0 (zs.map PyData.str) = true
  | [], _ => by simp [PyData.canLayAll0]
  | n :: r, h => by simp [PyData.canLayAll0, PyData.canLay0, name_str (h n List.mem_cons_self), lay_strs r fun z hz => h z (List.mem_cons_of_mem _ hz)]
theorem depth_strs : ∀ zs : List Str, PyData.depthAll (zs.map PyData.str) ≤ 1
  | [] => by simp [PyData.depthAll]
  | n :: r => by
    have := depth_strs r
    simp only [List.map_cons, PyData.depthAll, PyData.depth]
    omega
theorem shaped_strs (zs : List Str) (h : ∀ z ∈ zs, NameOk z) : SeqAt.shaped (.list (zs.map PyData.str)) = true := by
  have h1 := depth_strs zs
  have h2 : PyData.depth (.list (zs.map PyData.str)) ≤ 64 := by simp only [PyData.depth]; omega
  show (PyData.canLay0 (.list (zs.map PyData.str)) && decide (PyData.depth (.list (zs.map PyData.str)) ≤ 64)) = true
  rw [Bool.and_eq_true]
  exact ⟨by simp only [PyData.canLay0]; exact lay_strs zs h, decide_eq_true h2⟩
theorem eqv_strs : ∀ zs : List Str, PyData.eqvAll (zs.map PyData.str) (zs.map PyData.str) = true
  | [] => by simp [PyData.eqvAll]
  | n :: r => by simp [PyData.eqvAll, PyData.eqv, eqv_strs r]
end K14
set_option maxHeartbeats 2000000
/-! two placings alike -/
namespace K14
open PySem L2 RZ GxR
open PySem.Spec PyProof.Rows
abbrev st_are_alike : Stmt := top 39
theorem sc_are_alike : FnScope ["placing", "other_placing", "pins", "pairs", "other", "at", "one"] ["placing", "other_placing"] (defScope st_are_alike) := ⟨rfl, rfl, rfl, by decide +kernel, rfl, by decide +kernel, by decide +kernel⟩
def spAlike (Pt : Addr) : Sp := fun vs H Q _ => ∃ (d e : Addr) (zs ls ms : List Str) (p q : Str → List Int) (n : Nat), vs = [.ref d, .ref e] ∧ PlAt H d ls p ∧ PlAt H e ms q ∧ ls.Perm zs ∧ ms.Perm zs ∧ zs.Pairwise Bef ∧ 1 ≤ zs.length ∧ zs.length ≤ 8 ∧ (∀ z ∈ zs, NameOk z) ∧
  SpotsOk zs p n ∧ SpotsOk zs q n ∧ TabG H Pt ∧ ∀ H', KX [Pt] H H' → TabG H' Pt → Q (.bl (decide ((prsOf zs).map (sqAt p) = (prsOf zs).map (sqAt q)))) H'
section
variable {P : Program} {w : World} {K : PySem.W.Frag} {mg : Str → Option Value} {base : Heap} {C Pt : Addr}
theorem ok_are_alike {f : Addr} {fd : FuncData} (F : Fun K "are_alike" "are_alike" st_are_alike f fd) (T : Txt mg C) (d_require_alone : Def P w K mg base "require_alone" 9 ["value"] (spAlone Pt)) (d_space_by : Def P w K mg base "space_by" 7 ["pins", "value"] (spSpace K Pt))
    (d_squares_in : Def P w K mg base "squares_in" 2 ["placing", "pairs"] (spSqs K)) : FnOk P w K mg base CX0 10 f fd ["placing", "other_placing"] (spAlike Pt) := by
  refine F.ok sc_are_alike (fun vs H Q E h => ?_) (fun cdv A outer s H vs Q E hr h => ?_)
  · obtain ⟨d, e, zs, ls, ms, p, q, n, rfl, _⟩ := h
    rfl
  · obtain ⟨d, e, zs, ls, ms, p, q, n, rfl, hd, he, pl, pm, ord, l1, l8, hz, okp, okq, hT, k⟩ := h
    have hu := hu_of hr
    refine ⟨_, (pss_cons (ps_expr (pe_def d_require_alone hr (pa_cons (pv 0) pa_nil)))
      (pss_cons (ps_set (i := 2) sc_are_alike.nd rfl (by first | exact Or.inl rfl | exact Or.inr rfl) (pe_callB (call_sortedD rfl) (by rfl) T.sorted (by decide +kernel) (pa_cons (pv 0) pa_nil)))
      (pss_cons (ps_if (pt_cmpR op_isN (pe_def d_space_by hr (pa_cons (pv 2) (pa_cons (pv 1) pa_nil))) pe_non (nomark _)) (pss_one ps_never) pss_nil)
      (pss_cons (ps_setLc2 (i := 3) (own := [("at", 5), ("one", 6), ("other", 4)]) (vs1 := [4]) (g := (gTup K 2 (gCons (gName 5) (gCons (gName 6) gNil)))) (g1 := (gName 4)) (tt := tYes) (tt1 := tYes) rfl sc_are_alike.nd rfl rfl (sw_true rfl rfl rfl (by decide +kernel)) (piEnum K T.enumerate (pa_cons (pv 2) pa_nil)) (blkOk_by (N := ["placing", "other_placing", "pins", "pairs", "other", "at", "one"]) (sc := defScope st_are_alike) (own := [("at", 5), ("one", 6), ("other", 4)]) (by decide +kernel)) (by decide) (fun _ _ _ _ _ => (pg_tup rfl (pgs_cons (pg_name (i := 5) sc_are_alike.nd rfl (by first | exact Or.inl rfl | exact Or.inr rfl)) (pgs_cons (pg_name (i := 6) sc_are_alike.nd rfl (by first | exact Or.inl rfl | exact Or.inr rfl)) pgs_nil)))) (fun _ _ _ _ _ => pts_nil) (fun _ _ _ _ _ => (piL K (pe_slice (sl_listK K) (pv 2) (po_some (pe_op op_add (pv 5) pe_int)) po_none))) (fun _ _ _ _ _ => (pg_name (i := 4) sc_are_alike.nd rfl (by first | exact Or.inl rfl | exact Or.inr rfl))) (fun _ _ _ _ _ => pts_nil) (fun _ _ _ _ _ => (pe_tup (pa_cons (pv 6) (pa_cons (pv 4) pa_nil)))))
      (pss_one (ps_ret (pe_cmpR (op_eqTab hr.units) (pe_def d_squares_in hr (pa_cons (pv 0) (pa_cons (pv 3) pa_nil))) (pe_def d_squares_in hr (pa_cons (pv 1) (pa_cons (pv 3) pa_nil))) (nomark _)))))))), ?_⟩
    refine ⟨_, rfl, d, ls, p, n, rfl, hd, by rw [pl.length_eq]; exact l1, by rw [pl.length_eq]; exact l8, fun z hm => hz z (pl.mem_iff.mp hm), okp.perm pl, hT, fun H1 k1 t1 => ?_⟩
    have kd1 := tab_kd hT k1
    obtain ⟨f1, h3, h4⟩ := id (hd.kd kd1)
    refine ⟨_, rfl, d, _, ls, rfl, .inl h3, by rw [List.map_map]; rfl, by rw [pl.length_eq]; omega, fun ys E1 pm1 so hE1 => ?_⟩
    obtain rfl : zs = ys := (sorted_same (pm1.trans pl) so ord).symm
    have k2 : KX [] H1 (upd H1 E1 (.lst (sV zs))) := KX.new' hE1
    have g2 : upd H1 E1 (.lst (sV zs)) E1 = some (.lst (sV zs)) := upd_same
    have t2 := tab_kx0 t1 k2
    have kd2 := kd1.trans k2.kd0
    generalize upd H1 E1 (.lst (sV zs)) = H2 at k2 g2 t2 kd2 ⊢
    refine ⟨_, rfl, _, rfl, E1, e, zs, ms, q, n, rfl, .inl (SqL.of g2), he.kd kd2, pm, l1, by omega, okq, t2, fun G kG tG => ⟨rfl, _, rfl, iteN rfl ?_⟩⟩
    have kdG := kd2.trans (tab_kd t2 kG)
    have gG : G E1 = some (.lst (sV zs)) := kG _ _ (fun z => by
      obtain ⟨ps, e1, _⟩ := t2
      rw [List.mem_singleton.mp z, e1] at g2
      cases g2) g2
    have kHG : KX [Pt] H G := (k1.trans k2.of).trans kG
    have el : (sV zs).length = zs.length := List.length_map ..
    -- pairs
    refine ⟨_, rfl, E1, _, rfl, SqL.of gG, fun D hD => any_it walk_enum (fun i H' => AccPr [] G D (prsTo zs i) H') (AccPr.zero hD) (fun i H' _ a => SqL.of (a.1.get0 gG)) (fun i v H0 H3 hi a y => ?_) fun J a => ?_⟩
    · obtain ⟨T1, u, v, rfl, hT1, rfl, e1, e2⟩ := y
      obtain rfl : V.int (i : Nat) = u := Option.some.inj e1
      obtain ⟨hi2, rfl⟩ := at_sV e2
      have a1 := a.new (o := .tup [.int (i : Nat), .str zs[i]]) hT1 (fun z => nomatch z)
      refine ⟨T1, _, rfl, SqT.of upd_same, rfl, _, _, rfl, _, _, rfl, rfl, rfl, yesT ?_⟩
      generalize upd H0 T1 (.tup [.int (i : Nat), .str zs[i]]) = H4 at a1 ⊢
      refine ⟨_, rfl, _, rfl, _, _, rfl, rfl, _, rfl, E1, _, rfl, SqL.of (a1.1.get0 gG), fun S hS => ?_⟩
      have cv : cutV (sV zs) (some ((i : Int) + 1)) none = sV (zs.drop (i + 1)) := by
        have := cutV_drop (xs := sV zs) (k := i + 1)
        rw [show (((i + 1 : Nat) : Int)) = (i : Int) + 1 by omega] at this
        rw [this, sV, sV, List.map_drop]
      rw [cv]
      have a2 := a1.new (o := .lst (sV (zs.drop (i + 1)))) hS (fun z => nomatch z)
      have s2 : upd H4 S (.lst (sV (zs.drop (i + 1)))) S = some (.lst (sV (zs.drop (i + 1)))) := upd_same
      have nSD : S ≠ D := by
        obtain ⟨_, L, e3, _⟩ := a1
        exact (ne_of_none e3 hS).symm
      generalize upd H4 S (.lst (sV (zs.drop (i + 1)))) = H5 at a2 s2 ⊢
      have few : (prsTo zs (i + 1)).length ≤ 64 := by
        have := prs_len (zs := zs) (i := i + 1)
        have h2 : (i + 1) * zs.length ≤ 8 * 8 := Nat.mul_le_mul (by omega) l8
        omega
      refine ⟨S, rfl, ⟨_, SqL.of s2⟩, any_it walk_list (fun j H' => AccPr [] G D (prsTo zs i ++ ((zs.drop (i + 1)).take j).map fun y => (zs.getD i Str.empty, y)) H' ∧ H' S = some (.lst (sV (zs.drop (i + 1))))) ⟨by simpa using a2, s2⟩ (fun j H' _ b => SqL.of b.2) (fun j v H6 H7 hj b y => ?_) fun H6 b => ?_⟩
      · obtain ⟨rfl, hx⟩ := y
        obtain ⟨hj2, rfl⟩ := at_sV hx
        obtain ⟨b1, b2⟩ := b
        refine ⟨rfl, yesT ⟨_, rfl, _, rfl, by show 2 ≤ sizeLine; decide, fun t ht => ?_⟩⟩
        obtain ⟨acc, c1, c2, c3⟩ := b1.step (a := zs[i]) (b := (zs.drop (i + 1))[j]) hD ht (fun z => nomatch z) (by
          rw [List.length_append, List.length_map, List.length_take]
          have := prs_len (zs := zs) (i := i)
          have h2 : i * zs.length ≤ 8 * 8 := Nat.mul_le_mul (by omega) l8
          have h3 : (zs.drop (i + 1)).length ≤ 8 := by rw [List.length_drop]; omega
          omega)
        refine ⟨acc, c1, c2, ?_, ?_⟩
        · rw [take_one hj2, List.map_append, ← List.append_assoc]
          have e3 : zs.getD i Str.empty = zs[i] := by simp [hi2]
          rw [e3] at c3 ⊢
          exact c3
        · rw [upd_ne nSD, upd_ne (ne_of_none b2 ht)]
          exact b2
      · have b1 := b.1
        rw [show (sV (zs.drop (i + 1))).length = (zs.drop (i + 1)).length from List.length_map .., List.take_length] at b1
        exact b1
    · rw [el] at a
      obtain ⟨kJ, L, g3, eL, hL⟩ := a
      have kdJ := kdG.trans kJ.kd0
      have nd : (L.map (·.2)).Nodup := by
        rw [eL]
        exact prs_nodup (pair_nodup ord) (Nat.le_refl _)
      have inL : ∀ x ∈ L, x.2.1 ∈ zs ∧ x.2.2 ∈ zs := fun x hx => prs_in (by rw [prsOf, ← eL]; exact List.mem_map_of_mem hx)
      have few : L.length < 1000 := by
        have h1 := prs_len (zs := zs) (i := zs.length)
        have h2 : zs.length * zs.length ≤ 8 * 8 := Nat.mul_le_mul l8 l8
        have h3 : (L.map (·.2)).length = L.length := List.length_map ..
        rw [eL] at h3
        omega
      refine ⟨_, rfl, _, rfl, d, D, ls, p, n, L, rfl, hd.kd kdJ, okp.perm pl, .inl (SqL.of g3), hL, fun x hx => ⟨pl.mem_iff.mpr (inL x hx).1, pl.mem_iff.mpr (inL x hx).2⟩, nd, few, fun D1 J1 kJ1 _ q1 => ?_⟩
      have kdJ1 := kdJ.trans kJ1.kd0
      refine ⟨_, rfl, _, rfl, e, D, ms, q, n, L, rfl, he.kd kdJ1, okq.perm pm, .inl (SqL.of (kJ1.get0 g3)), fun x hx => (hL x hx).kd kJ1.kd0, fun x hx => ⟨pm.mem_iff.mpr (inL x hx).1, pm.mem_iff.mpr (inL x hx).2⟩, nd, few, fun D2 J2 kJ2 _ q2 => ?_⟩
      have kx := kJ.trans (kJ1.trans kJ2)
      refine ⟨D1, D2, _, _, rfl, rfl, kJ2.get0 q1, q2, ?_, blE ?_ (k J2 (kHG.trans kx.of) (tab_kx0 tG kx))⟩
      · simp [sqTab]
      · have e1 : ∀ r : Str → List Int, (sqTab r L).map (·.2) = (prsOf zs).map (sqAt r) := fun r => by
          rw [prsOf, ← eL, List.map_map, List.map_map]
          rfl
        rw [e1, e1]
end
end K14
set_option maxHeartbeats 2000000
/-! the law's turn -/
namespace K14
open PySem L2 RZ GxR
open PySem.Spec PyProof.Rows
abbrev st__law_right : Stmt := top 63
theorem sc__law_right : FnScope ["_law_bag_here", "_law_space", "_law_plain", "_law_placing_here", "_law_step_here", "_law_told", "_law_first", "_law_second", "_law_rod", "_law_paces", "_law_pins", "_law_frame_here", "_law_ahead", "_law_behind", "_law_pair", "_law_pin", "_law_pace_here", "_law_a", "_law_b"] ["_law_bag_here", "_law_space"] (defScope st__law_right) := ⟨rfl, rfl, rfl, by decide +kernel, rfl, by decide +kernel, by decide +kernel⟩
theorem bag_tab {b Pt : Addr} {H : Hp} (h : Bag H b) (t : TabG H Pt) : Pt ≠ b := fun z => by
  obtain ⟨_, _, _, e⟩ := h
  obtain ⟨_, e2, _⟩ := t
  rw [z, e] at e2
  cases e2
theorem tab_bag {b Pt : Addr} {H H' : Hp} (h : Bag H b) (t : TabG H Pt) (k : KX [b] H H') : TabG H' Pt := by
  have ne := bag_tab h t
  obtain ⟨ps, e, q⟩ := t
  exact ⟨ps, k _ _ (fun z => ne (List.mem_singleton.mp z)) e, q⟩
theorem bag_of_tab {b Pt : Addr} {H H' : Hp} (h : Bag H b) (t : TabG H Pt) (k : KX [Pt] H H') : Bag H' b := h.kx k fun z => bag_tab h t (List.mem_singleton.mp z).symm
theorem gName_to {i : Nat} {x : V} {σ σ' : L2.St} {H : Hp} {k : L2.St → Hp → Prop} (e : σ.set i (some x) = σ') (h : k σ' H) : gName i x σ H k := by
  subst e
  exact h
theorem ne_bl {a b : Bool} (h : a = b) : (!decide (V.bl a = V.bl b)) = false := by
  subst h
  simp
theorem eq_bl {a b : Bool} (h : a = b) : decide (V.bl a = V.bl b) = true := by
  subst h
  simp
theorem dec_iff {p q : Prop} [Decidable p] [Decidable q] (h : p ↔ q) : decide p = decide q := by
  by_cases x : p
  · simp [x, h.mp x]
  · have y : ¬ q := fun z => x (h.mpr z)
    simp [x, y]
def spRight (Pt : Addr) : Sp := fun vs H Q _ => ∃ (b : Addr) (n : Nat), vs = [.ref b, .int n] ∧ Bag H b ∧ TabG H Pt ∧ (n = 1 ∨ n = 2) ∧ ∀ H', KX [b, Pt] H H' → Bag H' b → TabG H' Pt → Q (.bl true) H'
section
variable {P : Program} {w : World} {K : PySem.W.Frag} {mg : Str → Option Value} {base : Heap} {C Pt : Addr}
theorem ok_right {f fI : Addr} {fd fdI : FuncData} (F : Fun K "_law_right" "_law_right" st__law_right f fd) (T : Txt mg C) (MK : Mk K C fI) (FI : FnOk P w K mg base CX0 6 fI fdI ["self", "pins", "rods"] (spInit K C)) (bI : Binds K fdI ["self", "pins", "rods"] [])
    (d__law_frame : Def P w K mg base "_law_frame" 4 ["_law_bag_here", "_law_least", "_law_most", "_law_share"] spFrame) (d__law_one_of : Def P w K mg base "_law_one_of" 2 ["_law_bag_here", "_law_items"] spOneOf) (d__law_placing : Def P w K mg base "_law_placing" 3 ["_law_bag_here", "_law_pins", "_law_space", "_law_spread"] spPlacing)
    (d__law_step : Def P w K mg base "_law_step" 6 ["_law_bag_here", "_law_plain", "_law_placing_here", "_law_space"] spStep) (d__law_shuffled : Def P w K mg base "_law_shuffled" 2 ["_law_bag_here", "_law_items"] spShuf) (d_shaken : Def P w K mg base "shaken" 10 ["placing", "motion"] (spShaken Pt))
    (d_squares : Def P w K mg base "squares" 10 ["frame", "placing"] (spSquares C Pt)) (d__law_pace : Def P w K mg base "_law_pace" 1 ["_law_placing_here", "_law_step_here", "_law_one", "_law_other"] spPace) (d_is_motion : Def P w K mg base "is_motion" 10 ["frame", "placing", "value"] (spMotion C Pt))
    (d__law_pairs_of : Def P w K mg base "_law_pairs_of" 1 ["_law_pins"] spPairsOf) (d_are_alike : Def P w K mg base "are_alike" 10 ["placing", "other_placing"] (spAlike Pt)) : FnOk P w K mg base CX0 11 f fd ["_law_bag_here", "_law_space"] (spRight Pt) := by
  refine F.ok sc__law_right (fun vs H Q E h => ?_) (fun cdv A outer s H vs Q E hr h => ?_)
  · obtain ⟨b, n, rfl, _⟩ := h
    rfl
  · obtain ⟨b, n, rfl, hb, hT, hn, k⟩ := h
    have hu := hu_of hr
    refine ⟨_, (pss_cons (ps_set (i := 2) sc__law_right.nd rfl (by first | exact Or.inl rfl | exact Or.inr rfl) (pe_def d__law_frame hr (pa_cons (pv 0) (pa_cons pe_int (pa_cons pe_int (pa_cons (pe_def d__law_one_of hr (pa_cons (pv 0) (pa_cons (pe_lst (pa_cons pe_int (pa_cons pe_int (pa_cons pe_int pa_nil)))) pa_nil))) pa_nil))))))
      (pss_cons (ps_par (i := 10) (j := 11) rfl sc__law_right.nd rfl rfl (by decide) rfl rfl (pa_cons (pe_ix (ix_tupK K) (pv 2) pe_int (fun _ _ => rfl)) (pa_cons (pe_make MK FI (hr.mono (by decide)) rfl T.Frame bI .nil pass0 (pa_cons (pe_ix (ix_tupK K) (pv 2) pe_int (fun _ _ => rfl)) (pa_cons (pe_ix (ix_tupK K) (pv 2) pe_int (fun _ _ => rfl)) pa_nil))) pa_nil)) (by rfl))
      (pss_cons (ps_set (i := 3) sc__law_right.nd rfl (by first | exact Or.inl rfl | exact Or.inr rfl) (pe_def d__law_placing hr (pa_cons (pv 0) (pa_cons (pv 10) (pa_cons (pv 1) (pa_cons (pe_def d__law_one_of hr (pa_cons (pv 0) (pa_cons (pe_lst (pa_cons pe_int (pa_cons pe_int (pa_cons pe_int pa_nil)))) pa_nil))) pa_nil))))))
      (pss_cons (ps_set (i := 4) sc__law_right.nd rfl (by first | exact Or.inl rfl | exact Or.inr rfl) (pe_def d__law_step hr (pa_cons (pv 0) (pa_cons (pv 2) (pa_cons (pv 3) (pa_cons (pv 1) pa_nil))))))
      (pss_cons (ps_set (i := 5) sc__law_right.nd rfl (by first | exact Or.inl rfl | exact Or.inr rfl) (pe_def d_shaken hr (pa_cons (pe_callTy (dictPK K) (by rfl) T.dict (by decide +kernel) (pa_cons (pe_def d__law_shuffled hr (pa_cons (pv 0) (pa_cons (LiI.pe_listItems rfl (pv 3) (by rfl) T.list (by decide +kernel)) pa_nil))) pa_nil)) (pa_cons (pe_callTy (dictPK K) (by rfl) T.dict (by decide +kernel) (pa_cons (pe_def d__law_shuffled hr (pa_cons (pv 0) (pa_cons (LiI.pe_listItems rfl (pv 4) (by rfl) T.list (by decide +kernel)) pa_nil))) pa_nil)) pa_nil))))
      (pss_cons (ps_set (i := 6) sc__law_right.nd rfl (by first | exact Or.inl rfl | exact Or.inr rfl) (pe_callTy (dictPK K) (by rfl) T.dict (by decide +kernel) (pa_cons (pe_lc (own := [("_law_pin", 15)]) (g := (gName 15)) (tt := tYes) rfl sc__law_right.nd (piT K (pv 10)) (blkOk_by (N := ["_law_bag_here", "_law_space", "_law_plain", "_law_placing_here", "_law_step_here", "_law_told", "_law_first", "_law_second", "_law_rod", "_law_paces", "_law_pins", "_law_frame_here", "_law_ahead", "_law_behind", "_law_pair", "_law_pin", "_law_pace_here", "_law_a", "_law_b"]) (sc := defScope st__law_right) (own := [("_law_pin", 15)]) (by decide +kernel)) (fun _ _ _ _ _ => (pg_name (i := 15) sc__law_right.nd rfl (by first | exact Or.inl rfl | exact Or.inr rfl))) (fun _ _ _ _ _ => pts_nil) (fun _ _ _ _ _ => (pe_tup (pa_cons (pv 15) (pa_cons (pe_callTy (tupK K) (by rfl) T.tuple (by decide +kernel) (pa_cons (pe_lc (own := [("_law_a", 17), ("_law_b", 18)]) (g := (gTup K 2 (gCons (gName 17) (gCons (gName 18) gNil)))) (tt := tYes) rfl sc__law_right.nd (piZip K T.zip (pa_cons (pe_dget hu (pv 3) (pv 15) (fun _ _ => rfl)) (pa_cons (pe_dget hu (pv 4) (pv 15) (fun _ _ => rfl)) pa_nil))) (blkOk_by (N := ["_law_bag_here", "_law_space", "_law_plain", "_law_placing_here", "_law_step_here", "_law_told", "_law_first", "_law_second", "_law_rod", "_law_paces", "_law_pins", "_law_frame_here", "_law_ahead", "_law_behind", "_law_pair", "_law_pin", "_law_pace_here", "_law_a", "_law_b"]) (own := [("_law_a", 17), ("_law_b", 18)]) (by with_unfolding_all rfl)) (fun _ _ _ _ _ => (pg_tup rfl (pgs_cons (pg_name (i := 17) sc__law_right.nd rfl (by first | exact Or.inl rfl | exact Or.inr rfl)) (pgs_cons (pg_name (i := 18) sc__law_right.nd rfl (by first | exact Or.inl rfl | exact Or.inr rfl)) pgs_nil)))) (fun _ _ _ _ _ => pts_nil) (fun _ _ _ _ _ => (pe_op op_add (pv 17) (pv 18)))) pa_nil)) pa_nil))))) pa_nil)))
      (pss_cons (ps_set (i := 7) sc__law_right.nd rfl (by first | exact Or.inl rfl | exact Or.inr rfl) (pe_callTy (dictPK K) (by rfl) T.dict (by decide +kernel) (pa_cons (pe_lc (own := [("_law_pin", 15)]) (g := (gName 15)) (tt := tYes) rfl sc__law_right.nd (piT K (pv 10)) (blkOk_by (N := ["_law_bag_here", "_law_space", "_law_plain", "_law_placing_here", "_law_step_here", "_law_told", "_law_first", "_law_second", "_law_rod", "_law_paces", "_law_pins", "_law_frame_here", "_law_ahead", "_law_behind", "_law_pair", "_law_pin", "_law_pace_here", "_law_a", "_law_b"]) (sc := defScope st__law_right) (own := [("_law_pin", 15)]) (by decide +kernel)) (fun _ _ _ _ _ => (pg_name (i := 15) sc__law_right.nd rfl (by first | exact Or.inl rfl | exact Or.inr rfl))) (fun _ _ _ _ _ => pts_nil) (fun _ _ _ _ _ => (pe_tup (pa_cons (pv 15) (pa_cons (pe_callTy (tupK K) (by rfl) T.tuple (by decide +kernel) (pa_cons (pe_lc (own := [("_law_a", 17), ("_law_b", 18)]) (g := (gTup K 2 (gCons (gName 17) (gCons (gName 18) gNil)))) (tt := tYes) rfl sc__law_right.nd (piZip K T.zip (pa_cons (pe_dget hu (pv 3) (pv 15) (fun _ _ => rfl)) (pa_cons (pe_dget hu (pv 4) (pv 15) (fun _ _ => rfl)) pa_nil))) (blkOk_by (N := ["_law_bag_here", "_law_space", "_law_plain", "_law_placing_here", "_law_step_here", "_law_told", "_law_first", "_law_second", "_law_rod", "_law_paces", "_law_pins", "_law_frame_here", "_law_ahead", "_law_behind", "_law_pair", "_law_pin", "_law_pace_here", "_law_a", "_law_b"]) (own := [("_law_a", 17), ("_law_b", 18)]) (by with_unfolding_all rfl)) (fun _ _ _ _ _ => (pg_tup rfl (pgs_cons (pg_name (i := 17) sc__law_right.nd rfl (by first | exact Or.inl rfl | exact Or.inr rfl)) (pgs_cons (pg_name (i := 18) sc__law_right.nd rfl (by first | exact Or.inl rfl | exact Or.inr rfl)) pgs_nil)))) (fun _ _ _ _ _ => pts_nil) (fun _ _ _ _ _ => (pe_op op_sub (pv 17) (pv 18)))) pa_nil)) pa_nil))))) pa_nil)))
      (pss_cons (ps_if (PW.pt (pw_or (pt_cmpR (op_nePD hr.units) (pv 5) (pe_tup (pa_cons (pv 6) (pa_cons (pv 7) pa_nil))) (nomark _)) (pw_or (pt_cmpR (neDK K hr.units) (pe_callTy (call_listD rfl) (by rfl) T.list (by decide +kernel) (pa_cons (pe_ix (ix_tupK K) (pv 5) pe_int (fun _ _ => rfl)) pa_nil)) (pe_callTy (listK K) (by rfl) T.list (by decide +kernel) (pa_cons (pv 10) pa_nil)) (nomark _)) (pw_or1 (pt_cmpR (neDK K hr.units) (pe_callTy (call_listD rfl) (by rfl) T.list (by decide +kernel) (pa_cons (pe_ix (ix_tupK K) (pv 5) pe_int (fun _ _ => rfl)) pa_nil)) (pe_callTy (listK K) (by rfl) T.list (by decide +kernel) (pa_cons (pv 10) pa_nil)) (nomark _)))))) (pss_one (ps_ret pe_bl)) pss_nil)
      (pss_cons (ps_par (i := 12) (j := 13) rfl sc__law_right.nd rfl rfl (by decide) rfl rfl (pa_cons (pe_def d_squares hr (pa_cons (pv 11) (pa_cons (pe_ix (ix_tupK K) (pv 5) pe_int (fun _ _ => rfl)) pa_nil))) (pa_cons (pe_def d_squares hr (pa_cons (pv 11) (pa_cons (pe_ix (ix_tupK K) (pv 5) pe_int (fun _ _ => rfl)) pa_nil))) pa_nil)) (by rfl))
      (pss_cons (ps_for PassesOwn.never rfl (piT K (pe_ix (ix_tupK K) (pv 2) pe_int (fun _ _ => rfl))) (pg_name (i := 8) sc__law_right.nd rfl (by first | exact Or.inl rfl | exact Or.inr rfl))
        (pss_one (ps_if (pt_cmpR op_ne (pe_cmpR op_eq (pe_dget hu (pv 12) (pv 8) (fun _ _ => rfl)) (pe_dget hu (pv 13) (pv 8) (fun _ _ => rfl)) (nomark _)) (pe_cmpR op_eq (pe_def d__law_pace hr (pa_cons (pv 3) (pa_cons (pv 4) (pa_cons (pe_ix (ix_tupK K) (pv 8) pe_int (fun _ _ => rfl)) (pa_cons (pe_ix (ix_tupK K) (pv 8) pe_int (fun _ _ => rfl)) pa_nil))))) pe_int (nomark _)) (nomark _)) (pss_one (ps_ret pe_bl)) pss_nil)))
      (pss_cons (ps_if (pt_cmpR op_ne (pe_cmpR (op_eqTab hr.units) (pv 12) (pv 13) (nomark _)) (pe_def d_is_motion hr (pa_cons (pv 11) (pa_cons (pv 3) (pa_cons (pv 4) pa_nil)))) (nomark _)) (pss_one (ps_ret pe_bl)) pss_nil)
      (pss_cons (ps_setLc (i := 9) (own := [("_law_pair", 14)]) (g := (gName 14)) (tt := tYes) rfl sc__law_right.nd rfl rfl (sw_true rfl rfl rfl (by decide +kernel)) (piL K (pe_def d__law_pairs_of hr (pa_cons (pv 10) pa_nil))) (blkOk_by (N := ["_law_bag_here", "_law_space", "_law_plain", "_law_placing_here", "_law_step_here", "_law_told", "_law_first", "_law_second", "_law_rod", "_law_paces", "_law_pins", "_law_frame_here", "_law_ahead", "_law_behind", "_law_pair", "_law_pin", "_law_pace_here", "_law_a", "_law_b"]) (sc := defScope st__law_right) (own := [("_law_pair", 14)]) (by decide +kernel)) (fun _ _ _ _ _ => (pg_name (i := 14) sc__law_right.nd rfl (by first | exact Or.inl rfl | exact Or.inr rfl))) (fun _ _ _ _ _ => pts_nil) (fun _ _ _ _ _ => (pe_def d__law_pace hr (pa_cons (pv 3) (pa_cons (pv 4) (pa_cons (pe_ix (ix_tupK K) (pv 14) pe_int (fun _ _ => rfl)) (pa_cons (pe_ix (ix_tupK K) (pv 14) pe_int (fun _ _ => rfl)) pa_nil)))))))
      (pss_one (ps_ret (pe_cmpR op_eq (pe_def d_are_alike hr (pa_cons (pe_ix (ix_tupK K) (pv 5) pe_int (fun _ _ => rfl)) (pa_cons (pe_ix (ix_tupK K) (pv 5) pe_int (fun _ _ => rfl)) pa_nil))) (pe_cmpR (eqDK K hr.units) (pe_lc (own := [("_law_pace_here", 16)]) (g := (gName 16))  rfl sc__law_right.nd (piL K (pv 9)) (blkOk_by (N := ["_law_bag_here", "_law_space", "_law_plain", "_law_placing_here", "_law_step_here", "_law_told", "_law_first", "_law_second", "_law_rod", "_law_paces", "_law_pins", "_law_frame_here", "_law_ahead", "_law_behind", "_law_pair", "_law_pin", "_law_pace_here", "_law_a", "_law_b"]) (sc := defScope st__law_right) (own := [("_law_pace_here", 16)]) (by decide +kernel)) (fun _ _ _ _ _ => (pg_name (i := 16) sc__law_right.nd rfl (by first | exact Or.inl rfl | exact Or.inr rfl))) (fun _ _ _ _ _ => pts_one (pt_cmpR op_ne (pv 16) pe_int (nomark _))) (fun _ _ _ _ _ => (pv 16))) (pe_lst pa_nil) (nomark _)) (nomark _)))))))))))))))), ?_⟩
    have n2 : n ≤ 2 := by omega
    -- the frame
    refine ⟨_, rfl, _, rfl, by show 3 ≤ sizeLine; decide, fun p0 hp0 => ⟨b, p0, [2, 4, 5], rfl, bag_new hb hp0, upd_same, bag_ne hb hp0, by decide, by decide, fun sh G1 _ k1 b1 => ?_⟩⟩
    have kG1 : KX [b] H G1 := (KX.new' hp0).trans k1
    refine ⟨b, sh, rfl, b1, fun t zs L G2 k2 b2 pln pp => ?_⟩
    have kG2 := kG1.trans k2
    have tG2 := tab_bag hb hT kG2
    have nd := pair_nodup pp.ord
    have l1 := pp.l1
    have l6 := pp.l6
    have el : (sV zs).length = zs.length := List.length_map ..
    obtain ⟨tp, tr, ht, htp, htr, hL⟩ := id pln
    have ndL : (L.map (·.2)).Nodup := List.Pairwise.sublist pp.sub (prs_nodup nd (Nat.le_refl _))
    have few := pp.few
    refine ⟨_, rfl, t, _, _, .ref tp, rfl, rfl, SqT.of ht, atI_nat (j := 0) rfl, _, rfl, t, _, _, .ref tp, rfl, rfl, SqT.of ht, atI_nat (j := 0) rfl, _, rfl, t, _, _, .ref tr, rfl, rfl, SqT.of ht, atI_nat (j := 1) rfl, fun fr dx hfr hdx ne => ?_⟩
    have kM : KX [] G2 (upd (upd G2 dx (.own fr)) fr (.ins C dx [])) := (KX.new' hdx).new hfr
    refine ⟨fr, dx, tp, tr, zs, L, rfl, upd_same, (by rw [upd_ne ne, upd_same]), ne, SqT.of (kM.get0 htp), SqT.of (kM.get0 htr), fun x hx => (hL x hx).kd kM.kd0, l1, by omega, pp.ok, pp.ord, ⟨fun x hx => ?_, ndL, by omega, fun x hx => (pp.on hx).1, fun x hx => (pp.on hx).2.1⟩, fun G3 Lf k3 pmL hf => ⟨rfl, _, _, rfl, ?_⟩⟩
    · obtain ⟨o1, o2, _⟩ := pp.on hx
      exact ⟨pp.ok _ o1, pp.ok _ o2, prs_bef pp.ord (pp.sub.subset (List.mem_map_of_mem hx))⟩
    have kG3 : KX [] G2 G3 := fun c o hc e => k3 c o (fun z => by
      rcases two_of z with q | q
      · rw [q, hfr] at e
        cases e
      · rw [q, hdx] at e
        cases e) (kM c o hc e)
    have bG3 := b2.kx kG3 (fun z => nomatch z)
    have tG3 := tab_kx0 tG2 kG3
    have pln3 := pln.kd kG3.kd0
    have htp3 := kG3.get0 htp
    have kH3 : KX [b] H G3 := kG2.trans kG3.of
    -- the placing
    refine ⟨_, rfl, _, rfl, _, rfl, _, rfl, by show 3 ≤ sizeLine; decide, fun p1 hp1 => ⟨b, p1, [2, 6, 6], rfl, bag_new bG3 hp1, upd_same, bag_ne bG3 hp1, by decide, by decide, fun sp G4 msp k4 b4 => ?_⟩⟩
    have kG4 : KX [b] G3 G4 := (KX.new' hp1).trans k4
    obtain ⟨sp', rfl, hsp⟩ : ∃ m : Nat, sp = (m : Int) ∧ m ≤ 6 := by
      simp only [List.mem_cons, List.not_mem_nil, or_false] at msp
      rcases msp with e | e | e
      · exact ⟨2, e, by decide⟩
      · exact ⟨6, e, by decide⟩
      · exact ⟨6, e, by decide⟩
    refine ⟨b, tp, zs, n, sp', rfl, b4, bag_kd bG3 kG4 _ _ htp3 rfl, pp.ord, l6, n2, hsp, fun d p G5 k5 b5 hd5 sz => ?_⟩
    have kG5 := kG4.trans k5
    have okP : ∀ z ∈ zs, (p z).length = n ∧ ∀ i ∈ p z, i.natAbs ≤ 6 := fun z hz => ⟨(sz z hz).1, fun i hi => Nat.le_trans ((sz z hz).2 i hi) hsp⟩
    -- the step
    refine ⟨_, rfl, _, rfl, _, rfl, _, rfl, b, t, d, zs, L, p, n, rfl, b5, pln3.kd (bag_kd bG3 kG5), pp, hd5, hn, okP, fun e q G6 k6 b6 he6 okQ => ?_⟩
    obtain ⟨okp, okq, oka, oks⟩ := add_ok hn okP okQ
    have kG6 := kG5.trans k6
    have hd6 := hd5.kd (bag_kd b5 k6)
    -- told
    refine shuf_dict rfl rfl b6 hd6 nd l6 fun d1 ls1 G7 k7 b7 hd1 pm1 => ?_
    refine shuf_dict rfl rfl b7 (he6.kd (bag_kd b6 k7)) nd l6 fun e1 ls2 G8 k8 b8 he1 pm2 => ?_
    have kG8 := kG6.trans (k7.trans k8)
    have tG8 := tab_bag bG3 tG3 kG8
    refine ⟨d1, e1, zs, ls1, ls2, p, q, n, rfl, hd1.kd (bag_kd b7 k8), he1, pm1, pm2, pp.ord, l1, by omega, pp.ok, okp, okq, tG8, fun tt ta tb G9 k9 tG9 gtt hta htb => ?_⟩
    refine gName_to (σ' := [some (.ref b), some (.int n), some (.ref t), some (.ref d), some (.ref e), some (.ref tt), none, none, none, none, some (.ref tp), some (.ref fr), none, none, none, none, none, none, none]) rfl ?_
    have bG9 := bag_of_tab b8 tG8 k9
    have kd39 : Kd G3 G9 := (bag_kd bG3 kG8).trans (tab_kd tG8 k9)
    have kd69 : Kd G6 G9 := (bag_kd b6 (k7.trans k8)).trans (tab_kd tG8 k9)
    have xtp := kd39 _ _ htp3 rfl
    have xd := hd6.kd kd69
    have xe := he6.kd kd69
    -- ahead
    refine ⟨_, rfl, tp, rfl, ⟨_, SqT.of (xtp)⟩, fun Dahead hDahead => any_it (walk_tup (xs := sV zs)) (fun i H' => KX [] G9 H' ∧ DP H' Dahead (zs.take i) (addP p q)) ⟨KX.new' hDahead, DP.zero⟩ (fun i H' _ a => SqT.of (a.1.get0 xtp)) (fun i v H0 H4 hi a1 y => ?_) fun Jahead aahead => ?_⟩
    · obtain ⟨rfl, hx⟩ := y
      obtain ⟨hi2, rfl⟩ := at_sV hx
      obtain ⟨k4, p4⟩ := a1
      have hm : zs[i] ∈ zs := List.getElem_mem hi2
      obtain ⟨t1, g1, h1⟩ := (xd.kx0 k4).get hm
      obtain ⟨t2, g2, h2⟩ := (xe.kx0 k4).get hm
      have l1' := okp.len _ hm
      have l2' := okq.len _ hm
      have el1 : (iV (p zs[i])).length = n := by rw [List.length_map, l1']
      have el2 : (iV (q zs[i])).length = n := by rw [List.length_map, l2']
      have n2 : n < 1000 := by omega
      refine ⟨rfl, yesT ⟨_, rfl, _, rfl, _, rfl, d, _, rfl, g1, _, rfl, _, rfl, e, _, rfl, g2, t1, t2, _, _, rfl, .inr ⟨SqT.of h1, SqT.of h2, fun D2 hD2 => any_it (walk_zipT (n := n) (by rw [el1, el2]; simp)) (AccF [] H4 D2 fun j => .int ((p zs[i]).getD j 0 + (q zs[i]).getD j 0)) (AccF.zero hD2)
        (fun j H' _ a => ⟨SqT.kx0 (SqT.of h1) a.1, SqT.kx0 (SqT.of h2) a.1⟩) (fun j v H5 H6 hj a y => ?_) fun H6 a => ?_⟩⟩⟩
      · obtain ⟨T1, u, v, rfl, hT1, rfl, e1, e2⟩ := y
        obtain ⟨rfl, i1⟩ := iV_at e1
        obtain ⟨rfl, i2⟩ := iV_at e2
        refine ⟨T1, _, rfl, SqT.of upd_same, rfl, _, _, rfl, _, _, rfl, rfl, rfl, yesT ⟨_, rfl, _, rfl, _, _, rfl, rfl, AccF.step hD2 (a.1.new (a.1.free0 hT1)) ?_ rfl (by omega)⟩⟩
        rw [upd_ne (ne_of_none a.2 hT1)]
        exact a.2
      · refine ⟨D2, iV (addP p q zs[i]), rfl, SqL.of ?_, fun t3 ht3 => ⟨by show 2 ≤ sizeLine; decide, fun u hu => ?_⟩⟩
        · rw [a.2, mapN_int]
          congr 2
          rw [← l1', range_zip (fun a b => a + b) (by rw [l1', l2'])]
          rfl
        · have k6 : KX [] H4 (upd H6 t3 (.tup (iV (addP p q zs[i])))) := a.1.new (a.1.free0 ht3)
          have dp6 := p4.keep k6.kd0 (fun o e => k6.get0 e)
          have kk := k4.trans k6
          obtain ⟨acc, c1, c2, c3⟩ := dp6.step (z := zs[i]) (t := t3) (u := u) upd_same hu (by rw [List.length_take]; omega)
          exact ⟨acc, c1, c2, (kk.new (kk.free0 hu)).new hDahead, by rw [take_one hi2]; exact c3⟩
    obtain ⟨kahead, dpahead⟩ := aahead
    rw [el, List.take_length] at dpahead
    obtain ⟨psahead, kvsahead, e1ahead, e2ahead, e3ahead⟩ := dpahead.dict (K := K) nd
    refine ⟨Dahead, psahead, kvsahead, rfl, e1ahead, e2ahead, fun fahead hfahead => ?_⟩
    have plahead := e3ahead _ hfahead
    have kxahead : KX [] G9 (upd Jahead fahead (.dK (mergeK [] kvsahead))) := kahead.trans (KX.new' hfahead)
    generalize upd Jahead fahead (.dK (mergeK [] kvsahead)) = Gahead at plahead kxahead ⊢
    have ztp := kxahead.get0 xtp
    have zd := xd.kx0 kxahead
    have ze := xe.kx0 kxahead
    -- back
    refine ⟨_, rfl, tp, rfl, ⟨_, SqT.of (ztp)⟩, fun Dback hDback => any_it (walk_tup (xs := sV zs)) (fun i H' => KX [] Gahead H' ∧ DP H' Dback (zs.take i) (subP p q)) ⟨KX.new' hDback, DP.zero⟩ (fun i H' _ a => SqT.of (a.1.get0 ztp)) (fun i v H0 H4 hi a1 y => ?_) fun Jback aback => ?_⟩
    · obtain ⟨rfl, hx⟩ := y
      obtain ⟨hi2, rfl⟩ := at_sV hx
      obtain ⟨k4, p4⟩ := a1
      have hm : zs[i] ∈ zs := List.getElem_mem hi2
      obtain ⟨t1, g1, h1⟩ := (zd.kx0 k4).get hm
      obtain ⟨t2, g2, h2⟩ := (ze.kx0 k4).get hm
      have l1' := okp.len _ hm
      have l2' := okq.len _ hm
      have el1 : (iV (p zs[i])).length = n := by rw [List.length_map, l1']
      have el2 : (iV (q zs[i])).length = n := by rw [List.length_map, l2']
      have n2 : n < 1000 := by omega
      refine ⟨rfl, yesT ⟨_, rfl, _, rfl, _, rfl, d, _, rfl, g1, _, rfl, _, rfl, e, _, rfl, g2, t1, t2, _, _, rfl, .inr ⟨SqT.of h1, SqT.of h2, fun D2 hD2 => any_it (walk_zipT (n := n) (by rw [el1, el2]; simp)) (AccF [] H4 D2 fun j => .int ((p zs[i]).getD j 0 - (q zs[i]).getD j 0)) (AccF.zero hD2)
        (fun j H' _ a => ⟨SqT.kx0 (SqT.of h1) a.1, SqT.kx0 (SqT.of h2) a.1⟩) (fun j v H5 H6 hj a y => ?_) fun H6 a => ?_⟩⟩⟩
      · obtain ⟨T1, u, v, rfl, hT1, rfl, e1, e2⟩ := y
        obtain ⟨rfl, i1⟩ := iV_at e1
        obtain ⟨rfl, i2⟩ := iV_at e2
        refine ⟨T1, _, rfl, SqT.of upd_same, rfl, _, _, rfl, _, _, rfl, rfl, rfl, yesT ⟨_, rfl, _, rfl, _, _, rfl, rfl, AccF.step hD2 (a.1.new (a.1.free0 hT1)) ?_ rfl (by omega)⟩⟩
        rw [upd_ne (ne_of_none a.2 hT1)]
        exact a.2
      · refine ⟨D2, iV (subP p q zs[i]), rfl, SqL.of ?_, fun t3 ht3 => ⟨by show 2 ≤ sizeLine; decide, fun u hu => ?_⟩⟩
        · rw [a.2, mapN_int]
          congr 2
          rw [← l1', range_zip (fun a b => a - b) (by rw [l1', l2'])]
          rfl
        · have k6 : KX [] H4 (upd H6 t3 (.tup (iV (subP p q zs[i])))) := a.1.new (a.1.free0 ht3)
          have dp6 := p4.keep k6.kd0 (fun o e => k6.get0 e)
          have kk := k4.trans k6
          obtain ⟨acc, c1, c2, c3⟩ := dp6.step (z := zs[i]) (t := t3) (u := u) upd_same hu (by rw [List.length_take]; omega)
          exact ⟨acc, c1, c2, (kk.new (kk.free0 hu)).new hDback, by rw [take_one hi2]; exact c3⟩
    obtain ⟨kback, dpback⟩ := aback
    rw [el, List.take_length] at dpback
    obtain ⟨psback, kvsback, e1back, e2back, e3back⟩ := dpback.dict (K := K) nd
    refine ⟨Dback, psback, kvsback, rfl, e1back, e2back, fun fback hfback => ?_⟩
    have plback := e3back _ hfback
    have kxback : KX [] Gahead (upd Jback fback (.dK (mergeK [] kvsback))) := kback.trans (KX.new' hfback)
    generalize upd Jback fback (.dK (mergeK [] kvsback)) = Gback at plback kxback ⊢
    have kG := kxahead.trans kxback
    have gtt' := kG.get0 gtt
    have hta' := hta.kx0 kG
    have htb' := htb.kx0 kG
    have tGb := tab_kx0 tG9 kG
    have bGb := bG9.kx kG (fun z => nomatch z)
    have kd3b := kd39.trans kG.kd0
    have kd6b := kd69.trans kG.kd0
    refine gName_to (σ' := [some (.ref b), some (.int n), some (.ref t), some (.ref d), some (.ref e), some (.ref tt), some (.ref fahead), some (.ref fback), none, none, some (.ref tp), some (.ref fr), none, none, none, none, none, none, none]) rfl ?_
    have plahead' := plahead.kx0 kxback
    have atA : atI [V.ref ta, V.ref tb] (0 : Int) = some (.ref ta) := atI_nat (j := 0) rfl
    have atB : atI [V.ref ta, V.ref tb] (1 : Int) = some (.ref tb) := atI_nat (j := 1) rfl
    -- what is told
    refine ⟨_, rfl, _, rfl, _, rfl, by show 2 ≤ sizeLine; decide, fun c hc => ?_⟩
    have kc : KX [] Gback (upd Gback c (.tup [.ref fahead, .ref fback])) := KX.new' hc
    have gc : upd Gback c (.tup [.ref fahead, .ref fback]) c = some (.tup [.ref fahead, .ref fback]) := upd_same
    generalize upd Gback c (.tup [.ref fahead, .ref fback]) = J1 at kc gc ⊢
    refine ⟨tt, c, ta, tb, fahead, fback, rfl, rfl, SqT.of (kc.get0 gtt'), SqT.of gc, same_pl (hta'.kx0 kc) (plahead'.kx0 kc), same_pl (htb'.kx0 kc) (plback.kx0 kc), _, rfl, iteN rfl ?_⟩
    -- the orders
    have htp1 := (kG.trans kc).get0 xtp
    obtain ⟨fA, gA, _⟩ := id (hta'.kx0 kc)
    have keysA : (zs.map fun k => ((Sum.inr k : Key), V.ref (fA k))).map (fun kv => kV kv.1) = sV zs := by rw [List.map_map]; rfl
    refine ⟨_, rfl, tt, _, _, .ref ta, rfl, rfl, SqT.of (kc.get0 gtt'), atA, ta, _, rfl, .inl gA, fun u1 hu1 => ?_⟩
    rw [keysA]
    have ku1 : KX [] J1 (upd J1 u1 (.lst (sV zs))) := KX.new' hu1
    have gu1 : upd J1 u1 (.lst (sV zs)) u1 = some (.lst (sV zs)) := upd_same
    generalize upd J1 u1 (.lst (sV zs)) = J2 at ku1 gu1 ⊢
    refine ⟨_, rfl, tp, _, rfl, .inr (SqT.of (ku1.get0 htp1)), fun u2 hu2 => ?_⟩
    have ku2 : KX [] J2 (upd J2 u2 (.lst (sV zs))) := KX.new' hu2
    have gu2 : upd J2 u2 (.lst (sV zs)) u2 = some (.lst (sV zs)) := upd_same
    generalize upd J2 u2 (.lst (sV zs)) = J3 at ku2 gu2 ⊢
    refine ⟨_, _, dp_strs (SqL.of (ku2.get0 gu1)), dp_strs (SqL.of gu2), shaped_strs _ pp.ok, shaped_strs _ pp.ok, _, rfl, iteN (by simp only [PyData.eqv, eqv_strs]; rfl) ?_⟩
    have kJ3 : KX [] Gback J3 := kc.trans (ku1.trans ku2)
    obtain ⟨fB, gB, _⟩ := id (htb'.kx0 kJ3)
    have keysB : (zs.map fun k => ((Sum.inr k : Key), V.ref (fB k))).map (fun kv => kV kv.1) = sV zs := by rw [List.map_map]; rfl
    refine ⟨_, rfl, tt, _, _, .ref tb, rfl, rfl, SqT.of (kJ3.get0 gtt'), atB, tb, _, rfl, .inl gB, fun u3 hu3 => ?_⟩
    rw [keysB]
    have ku3 : KX [] J3 (upd J3 u3 (.lst (sV zs))) := KX.new' hu3
    have gu3 : upd J3 u3 (.lst (sV zs)) u3 = some (.lst (sV zs)) := upd_same
    generalize upd J3 u3 (.lst (sV zs)) = J4 at ku3 gu3 ⊢
    refine ⟨_, rfl, tp, _, rfl, .inr (SqT.of ((ku1.trans (ku2.trans ku3)).get0 htp1)), fun u4 hu4 => ?_⟩
    have ku4 : KX [] J4 (upd J4 u4 (.lst (sV zs))) := KX.new' hu4
    have gu4 : upd J4 u4 (.lst (sV zs)) u4 = some (.lst (sV zs)) := upd_same
    generalize upd J4 u4 (.lst (sV zs)) = J5 at ku4 gu4 ⊢
    refine ⟨_, _, dp_strs (SqL.of (ku4.get0 gu3)), dp_strs (SqL.of gu4), shaped_strs _ pp.ok, shaped_strs _ pp.ok, _, rfl, iteN (by simp only [PyData.eqv, eqv_strs]; rfl) ?_⟩
    have kJ5 : KX [] Gback J5 := kJ3.trans (ku3.trans ku4)
    have tJ5 := tab_kx0 tGb kJ5
    have kd35 := kd3b.trans kJ5.kd0
    have kd65 := kd6b.trans kJ5.kd0
    have ttJ := kJ5.get0 gtt'
    have taJ := hta'.kx0 kJ5
    have tbJ := htb'.kx0 kJ5
    -- the squares
    have hf3 : FrAt C G3 fr zs Lf := hf
    have onF : ∀ x ∈ Lf, x.2.1 ∈ zs ∧ x.2.2 ∈ zs ∧ x.2.1 ≠ x.2.2 := fun x hx => pp.on (pmL.mem_iff.mp hx)
    have ndF : (Lf.map (·.2)).Nodup := (pmL.map _).nodup_iff.mpr ndL
    have fewF : Lf.length < 1000 := by
      rw [pmL.length_eq]
      omega
    have pr := List.Perm.refl zs
    refine ⟨_, rfl, _, rfl, tt, _, _, .ref ta, rfl, rfl, SqT.of ttJ, atA, fr, ta, zs, Lf, zs, addP p q, n, rfl, hf3.kd kd35, taJ, pr, l1, by omega, oka, fun x hx => ⟨(onF x hx).1, (onF x hx).2.1⟩, ndF, fewF, tJ5, fun Da J6 k6' tJ6 gDa => ?_⟩
    have kd56 := tab_kd tJ5 k6'
    refine ⟨_, rfl, _, rfl, tt, _, _, .ref tb, rfl, rfl, SqT.of (kd56 _ _ ttJ rfl), atB, fr, tb, zs, Lf, zs, subP p q, n, rfl, hf3.kd (kd35.trans kd56), tbJ.kd kd56, pr, l1, by omega, oks, fun x hx => ⟨(onF x hx).1, (onF x hx).2.1⟩, ndF, fewF, tJ6, fun Db J7 k7' tJ7 gDb => ⟨_, _, rfl, ?_⟩⟩
    have kd67 := tab_kd tJ6 k7'
    have kd57 := kd56.trans kd67
    have gDa7 := kd67 _ _ gDa rfl
    have kd37 := kd35.trans kd57
    have kd67b := kd65.trans kd57
    have p3 : ∀ x ∈ L, PrAt J7 x := fun x hx => ((hL x hx).kd kG3.kd0).kd kd37
    have t7 : J7 t = some (.tup [.ref tp, .ref tr]) := kd37 _ _ (kG3.get0 ht) rfl
    have tr7 : J7 tr = some (.tup (refs L)) := kd37 _ _ (kG3.get0 htr) rfl
    have key : ∀ {x : Str × Str}, x.1 ∈ zs → x.2 ∈ zs → (sqAt (addP p q) x = sqAt (subP p q) x ↔ paceAt p q x = 0) := fun h1 h2 => sq_pace (okp.len _ h1) (okp.len _ h2) (okq.len _ h1) (okq.len _ h2)
    -- the rods
    refine ⟨_, rfl, t, _, _, .ref tr, rfl, rfl, SqT.of t7, atI_nat (j := 1) rfl, tr, rfl, ⟨_, SqT.of tr7⟩, for_it (walk_tup (xs := refs L)) (fun i σ H' => (∃ v8, σ = [some (.ref b), some (.int n), some (.ref t), some (.ref d), some (.ref e), some (.ref tt), some (.ref fahead), some (.ref fback), v8, none, some (.ref tp), some (.ref fr), some (.ref Da), some (.ref Db), none, none, none, none, none]) ∧ KX [] J7 H')
      ⟨⟨_, rfl⟩, KX.refl _ _⟩ (fun i σ H' _ a => SqT.of (a.2.get0 tr7)) (fun i v σ H2 H3 hi a y => ?_) fun σ J8 a => ?_⟩
    · obtain ⟨rfl, hx⟩ := y
      obtain ⟨x, hx2, hm, rfl⟩ := mem_refs hx
      obtain ⟨⟨v8, rfl⟩, kl⟩ := a
      obtain ⟨o1, o2, on⟩ := pp.on hm
      have hmF := pmL.mem_iff.mpr hm
      have px := (p3 x hm).kd kl.kd0
      have dga : DGet H3 Da (.ref x.1) (some (.int (sqAt (addP p q) x.2))) := by
        have z := DGet.t (k := prK x.2) (kl.get0 gDa7) (b := x.1) px
        rwa [tab_at hmF ndF] at z
      have dgb : DGet H3 Db (.ref x.1) (some (.int (sqAt (subP p q) x.2))) := by
        have z := DGet.t (k := prK x.2) (kl.get0 gDb) (b := x.1) px
        rwa [tab_at hmF ndF] at z
      refine ⟨_, rfl, _, rfl, Da, _, rfl, dga, _, rfl, _, rfl, Db, _, rfl, dgb, rfl, ?_⟩
      refine ⟨_, rfl, _, rfl, _, rfl, x.1, _, _, .str x.2.1, rfl, rfl, SqT.of px, atI_nat (j := 0) rfl, _, rfl, x.1, _, _, .str x.2.2, rfl, rfl, SqT.of px, atI_nat (j := 1) rfl, d, e, x.2.1, x.2.2, zs, p, q, n, rfl, (hd6.kd kd67b).kx0 kl, (he6.kd kd67b).kx0 kl, o1, o2, okp, okq, fun H4 k4' => ⟨rfl, rfl, _, rfl, iteN (ne_bl ?_) ⟨⟨_, rfl⟩, kl.trans k4'⟩⟩⟩
      rw [dec_int, dec_int]
      exact (Bool.eq_iff_iff.mpr (by rw [beq_iff_eq, beq_iff_eq]; exact key o1 o2))
    · obtain ⟨⟨v8, rfl⟩, kl⟩ := a
      have tJ8 := tab_kx0 tJ7 kl
      have kd38 := kd37.trans kl.kd0
      have kd68 := kd67b.trans kl.kd0
      refine ⟨_, rfl, _, rfl, Da, Db, _, _, rfl, rfl, kl.get0 gDa7, kl.get0 gDb, by simp [sqTab], ?_⟩
      refine ⟨_, rfl, _, rfl, _, rfl, fr, d, e, zs, zs, zs, Lf, p, q, n, rfl, hf3.kd kd38, hd6.kd kd68, he6.kd kd68, pr, pr, nd, l1, by omega, okp, okq, onF, fewF, tJ8, fun J9 k9' tJ9 => ⟨rfl, _, rfl, iteN (ne_bl ?_) ?_⟩⟩
      · refine dec_iff ?_
        rw [List.map_map, List.map_map, map_eq_iff]
        exact forall_congr' fun x => forall_congr' fun hx => key (onF x hx).1 (onF x hx).2.1
      · have kd89 := tab_kd tJ8 k9'
        have kd39' := kd38.trans kd89
        have kd69' := kd68.trans kd89
        -- the paces
        refine ⟨_, rfl, tp, zs, rfl, kd39' _ _ htp3 rfl, by omega, fun DP0 LP J10 k10 oP gP eL hLP => ⟨DP0, rfl, ⟨_, SqL.of gP⟩, fun DQ hDQ => any_it (walk_list (xs := refs LP)) (fun i H' => KX [] J10 H' ∧ H' DQ = some (.lst (iV ((LP.take i).map fun x => paceAt p q x.2)))) ⟨KX.new' hDQ, upd_same⟩ (fun i H' _ a => SqL.of (a.1.get0 gP)) (fun i v H2 H3 hi a y => ?_) fun J11 a => ?_⟩⟩
        · obtain ⟨rfl, hx⟩ := y
          obtain ⟨x, hx2, hm, rfl⟩ := mem_refs hx
          obtain ⟨ka, ga⟩ := a
          have px := (hLP x hm).kd ka.kd0
          have hmp : x.2 ∈ prsOf zs := by
            rw [← eL]
            exact List.mem_map_of_mem hm
          have kdx := kd69'.trans (k10.trans ka).kd0
          refine ⟨rfl, yesT ⟨_, rfl, _, rfl, _, rfl, x.1, _, _, .str x.2.1, rfl, rfl, SqT.of px, atI_nat (j := 0) rfl, _, rfl, x.1, _, _, .str x.2.2, rfl, rfl, SqT.of px, atI_nat (j := 1) rfl, d, e, x.2.1, x.2.2, zs, p, q, n, rfl, hd6.kd kdx, he6.kd kdx, (prs_in hmp).1, (prs_in hmp).2, okp, okq, fun H4 k4' => ⟨_, k4'.get0 ga, ?_, (ka.trans k4').new hDQ, ?_⟩⟩⟩
          · have lLP : LP.length ≤ 36 := by
              have h1 := congrArg List.length eL
              rw [List.length_map] at h1
              have h2 := prs_len (zs := zs) (i := zs.length)
              have h3 : zs.length * zs.length ≤ 6 * 6 := Nat.mul_le_mul l6 l6
              unfold prsOf at h1
              omega
            rw [List.length_map, List.length_map, List.length_take]
            exact Nat.lt_of_le_of_lt (show min i LP.length ≤ 36 by omega) (by decide)
          · rw [upd_same, List.take_succ, hx2]
            simp [iV]
        · rw [show (refs LP).length = LP.length from List.length_map .., List.take_length] at a
          obtain ⟨ka, gQ⟩ := a
          have ePs : (LP.map fun x => paceAt p q x.2) = (prsOf zs).map (paceAt p q) := by
            rw [← eL, List.map_map]
            rfl
          rw [ePs] at gQ
          have kJ11 := k10.trans ka
          have tJ11 := tab_kx0 tJ9 kJ11
          have kd11 : Kd Gback J11 := (kJ5.kd0.trans kd57).trans ((kl.kd0.trans kd89).trans kJ11.kd0)
          have tt11 := kd11 _ _ gtt' rfl
          refine ⟨_, rfl, tt, _, _, .ref ta, rfl, rfl, SqT.of tt11, atA, _, rfl, tt, _, _, .ref tb, rfl, rfl, SqT.of tt11, atB, ta, tb, zs, zs, zs, addP p q, subP p q, n, rfl, hta'.kd kd11, htb'.kd kd11, pr, pr, pp.ord, l1, by omega, pp.ok, oka, oks, tJ11, fun J12 k12 tJ12 => ?_⟩
          have gQ12 := k12 _ _ (fun z => by
            obtain ⟨_, e2, _⟩ := tJ11
            rw [List.mem_singleton.mp z, e2] at gQ
            cases gQ) gQ
          refine ⟨_, rfl, DQ, rfl, ⟨_, SqL.of gQ12⟩, fun DR hDR => any_it (walk_list (xs := iV ((prsOf zs).map (paceAt p q)))) (fun i H' => KX [] J12 H' ∧ ∃ ns : List Int, H' DR = some (.lst (iV ns)) ∧ ns.length ≤ i ∧ (ns = [] ↔ ∀ x ∈ ((prsOf zs).map (paceAt p q)).take i, x = 0)) ⟨KX.new' hDR, [], upd_same, Nat.le_refl _, by simp⟩ (fun i H' _ a => SqL.of (a.1.get0 gQ12)) (fun i v H2 H3 hi a y => ?_) fun J13 a => ?_⟩
          · obtain ⟨rfl, hx⟩ := y
            obtain ⟨m, hm2, _, rfl⟩ := mem_iV hx
            obtain ⟨ka', ns, gR, ln, iff0⟩ := a
            have tk : ((prsOf zs).map (paceAt p q)).take (i + 1) = ((prsOf zs).map (paceAt p q)).take i ++ [m] := by rw [List.take_succ, hm2]; rfl
            refine ⟨rfl, _, rfl, rfl, _, rfl, ite2 (fun h => ?_) (fun h => ?_)⟩
            · have m0 : m ≠ 0 := by simpa using h
              refine ⟨_, rfl, _, gR, ?_, ka'.new hDR, ns ++ [m], ?_, ?_, ?_⟩
              · have l2 : (prsOf zs).length ≤ 36 := by
                  have h2 := prs_len (zs := zs) (i := zs.length)
                  have h3 : zs.length * zs.length ≤ 6 * 6 := Nat.mul_le_mul l6 l6
                  unfold prsOf
                  omega
                rw [List.length_map, List.length_map] at hi
                rw [List.length_map]
                exact Nat.lt_of_le_of_lt (show ns.length ≤ 36 by omega) (by decide)
              · rw [upd_same]
                simp [iV]
              · rw [List.length_append]
                show ns.length + 1 ≤ i + 1
                omega
              · rw [tk]
                constructor
                · intro z
                  simp at z
                · intro z
                  exact absurd (z m (List.mem_append_right _ List.mem_cons_self)) m0
            · have m0 : m = 0 := by simpa using h
              refine ⟨ka', ns, gR, by omega, ?_⟩
              rw [tk, iff0]
              constructor
              · intro z x hx
                rcases List.mem_append.mp hx with w1 | w1
                · exact z x w1
                · rw [List.mem_singleton.mp w1, m0]
              · intro z x hx
                exact z x (List.mem_append_left _ hx)
          · obtain ⟨ka', ns, gR, ln, iff0⟩ := a
            rw [show (iV ((prsOf zs).map (paceAt p q))).length = ((prsOf zs).map (paceAt p q)).length from List.length_map .., List.take_length] at iff0
            refine ⟨Nat.zero_le _, fun E0' hE0 => ?_⟩
            have kz : KX [] J13 (upd J13 E0' (.lst [])) := KX.new' hE0
            have gz : upd J13 E0' (.lst []) E0' = some (.lst (iV [])) := upd_same
            refine ⟨_, _, dp_ints (SqL.of (kz.get0 gR)), dp_ints (SqL.of gz), PySem.W.shaped_ints _, PySem.W.shaped_ints _, rfl, ?_⟩
            rw [List.map_nil, eqv_nil]
            refine blT (eq_bl (dec_iff ?_)) (k _ ?_ ?_ ?_)
            · rw [iff0, map_eq_iff]
              constructor
              · intro z x hx
                obtain ⟨y, hy, rfl⟩ := List.mem_map.mp hx
                exact (key (prs_in hy).1 (prs_in hy).2).mp (z y hy)
              · intro z x hx
                exact (key (prs_in hx).1 (prs_in hx).2).mpr (z _ (List.mem_map_of_mem hx))
            · have ib : ∀ x ∈ [b], x ∈ [b, Pt] := fun x hx => by
                rw [List.mem_singleton.mp hx]
                exact List.mem_cons_self
              have it : ∀ x ∈ [Pt], x ∈ [b, Pt] := fun x hx => by
                rw [List.mem_singleton.mp hx]
                exact List.mem_cons_of_mem _ List.mem_cons_self
              exact ((((kH3.trans kG8).mono ib).trans (k9.mono it)).trans ((kG.trans kJ5).of)).trans (((k6'.trans k7').mono it).trans ((kl.of.trans (k9'.mono it)).trans ((kJ11.of.trans (k12.mono it)).trans (ka'.trans kz).of)))
            · have bz : Bag J5 b := bGb.kx kJ5 (fun z => nomatch z)
              have b6' := bag_of_tab bz tJ5 k6'
              have b7' := bag_of_tab b6' tJ6 k7'
              have b8' := b7'.kx kl (fun z => nomatch z)
              have b9' := bag_of_tab b8' tJ8 k9'
              have b11' := b9'.kx kJ11 (fun z => nomatch z)
              have b12' := bag_of_tab b11' tJ11 k12
              exact b12'.kx (ka'.trans kz) (fun z => nomatch z)
            · exact tab_kx0 tJ12 (ka'.trans kz)
end
end K14
set_option maxHeartbeats 2000000
/-! the law -/
namespace K14
open PySem L2 RZ GxR
open PySem.Spec PyProof.Rows
abbrev st_law : Stmt := top 64
theorem sc_law : FnScope ["_law_script", "_law_at", "_law_bag_here", "_law_square", "_law_shear", "_law_one", "_law_other"] ["_law_script"] (defScope st_law) := ⟨rfl, rfl, rfl, by decide +kernel, rfl, by decide +kernel, by decide +kernel⟩
def zs4 : List Str := ["a", "b", "c", "d"]
def ms4 : List Str := ["d", "a", "b", "c"]
def sqP (k : Str) : List Int := if k = "b" then [2, 0] else if k = "c" then [2, 2] else if k = "d" then [0, 2] else [0, 0]
def shP (k : Str) : List Int := if k = "d" then [1, 0] else if k = "c" then [1, 0] else [0, 0]
theorem SqL.tab {K : PySem.W.Frag} {P : Addr} {H H' : Hp} {a : Addr} {xs : List V} (h : SqL K H a xs) (t : TabG H P) (k : KX [P] H H') : SqL K H' a xs := by
  obtain ⟨ps, e, _⟩ := t
  rcases h with (h | ⟨o, h⟩) | h
  · exact .inl (.inl (k a _ (fun z => by rw [List.mem_singleton.mp z, e] at h; cases h) h))
  · exact .inl (.inr ⟨o, k a _ (fun z => by rw [List.mem_singleton.mp z, e] at h; cases h) h⟩)
  · exact .inr h
theorem disp4 {H : Hp} {d t1 t2 t3 t4 : Addr} {x1 x2 x3 x4 : Str} {p : Str → List Int} (nd : [x1, x2, x3, x4].Nodup) (hd : H d = some (.dK [])) (h1 : H t1 = some (.tup (iV (p x1)))) (h2 : H t2 = some (.tup (iV (p x2)))) (h3 : H t3 = some (.tup (iV (p x3)))) (h4 : H t4 = some (.tup (iV (p x4)))) :
    PlAt (upd H d (.dK (mergeK [] [((Sum.inr x1 : Key), V.ref t1), (Sum.inr x2, V.ref t2), (Sum.inr x3, V.ref t3), (Sum.inr x4, V.ref t4)]))) d [x1, x2, x3, x4] p := by
  have ne : ∀ {c xs}, H c = some (.tup xs) → c ≠ d := fun e z => by
    rw [z, hd] at e
    cases e
  have nd' := nd
  simp only [List.nodup_cons, List.mem_cons, List.not_mem_nil, or_false, not_or] at nd'
  obtain ⟨⟨n12, n13, n14⟩, ⟨n23, n24⟩, n34, _⟩ := nd'
  refine ⟨fun k => if k = x1 then t1 else if k = x2 then t2 else if k = x3 then t3 else t4, ?_, fun k hk => ?_⟩
  · rw [upd_same, merge_new]
    · simp only [List.nil_append, List.map_cons, List.map_nil]
      simp [Ne.symm n12, Ne.symm n13, Ne.symm n14, Ne.symm n23, Ne.symm n24, Ne.symm n34]
    · show (([x1, x2, x3, x4].map fun k => (Sum.inr k : Key))).Nodup
      exact List.Pairwise.map _ (fun a b ne z => ne (Sum.inr.inj z)) nd
  · simp only [List.mem_cons, List.not_mem_nil, or_false] at hk
    rcases hk with rfl | rfl | rfl | rfl
    · show upd H d _ (if k = k then t1 else _) = _
      rw [if_pos rfl, upd_ne (ne h1)]
      exact h1
    · show upd H d _ (if k = x1 then t1 else if k = k then t2 else _) = _
      rw [if_neg (Ne.symm n12), if_pos rfl, upd_ne (ne h2)]
      exact h2
    · show upd H d _ (if k = x1 then t1 else if k = x2 then t2 else if k = k then t3 else _) = _
      rw [if_neg (Ne.symm n13), if_neg (Ne.symm n23), if_pos rfl, upd_ne (ne h3)]
      exact h3
    · show upd H d _ (if k = x1 then t1 else if k = x2 then t2 else if k = x3 then t3 else t4) = _
      rw [if_neg (Ne.symm n14), if_neg (Ne.symm n24), if_neg (Ne.symm n34), upd_ne (ne h4)]
      exact h4
theorem zs4_facts : zs4.Pairwise Bef ∧ (∀ z ∈ zs4, NameOk z) ∧ ms4.Perm zs4 := ⟨by unfold Bef; decide +kernel, fun z hz => nameB_ok (List.all_eq_true.mp (show zs4.all nameB = true by decide +kernel) z hz), by decide +kernel⟩
theorem spots4 {p : Str → List Int} (h : zs4.all (fun z => decide ((p z).length = 2) && (p z).all fun i => decide (i.natAbs ≤ 9)) = true) : SpotsOk zs4 p 2 := by
  have q := fun z hz => Bool.and_eq_true _ _ ▸ List.all_eq_true.mp h z hz
  refine ⟨.inr rfl, fun z hz => of_decide_eq_true (q z hz).1, fun z hz i hi => ?_⟩
  exact Nat.lt_of_le_of_lt (of_decide_eq_true (List.all_eq_true.mp (q z hz).2 i hi)) (by decide +kernel)
theorem dp_two {K : PySem.W.Frag} {H : Hp} {c : Addr} {i j : Int} (h : H c = some (.tup [.int i, .int j])) : Dp K H (.ref c) (.tuple [.int i, .int j]) := .tup (SqT.of h) (.cons (.int _) (.cons (.int _) .nil))
theorem iV_inj : ∀ {xs ys : List Int}, iV xs = iV ys → xs = ys
  | [], [], _ => rfl
  | [], _ :: _, h => by cases h
  | _ :: _, [], h => by cases h
  | x :: xs, y :: ys, h => by
    have h' : V.int x :: iV xs = V.int y :: iV ys := h
    injection h' with h1 h2
    injection h1 with h1
    rw [h1, iV_inj h2]
theorem pl_ne {H : Hp} {a b : Addr} {zs : List Str} {p q : Str → List Int} {k : Str} (ha : PlAt H a zs p) (hb : PlAt H b zs q) (hk : k ∈ zs) (ne : p k ≠ q k) : a ≠ b := fun z => by
  subst z
  obtain ⟨f, f1, f2⟩ := ha
  obtain ⟨g, g1, g2⟩ := hb
  rw [f1] at g1
  have e := map_eq_iff.mp (HO.dK.inj (Option.some.inj g1)) k hk
  have e2 : f k = g k := V.ref.inj (congrArg Prod.snd e)
  have h1 := f2 k hk
  rw [e2, g2 k hk] at h1
  exact ne (iV_inj (HO.tup.inj (Option.some.inj h1))).symm
theorem pl_ne2 {H : Hp} {a b : Addr} {zs ms : List Str} {p q : Str → List Int} (ha : PlAt H a zs p) (hb : PlAt H b ms q) (ne : zs ≠ ms) : a ≠ b := fun z => by
  subst z
  obtain ⟨f, f1, f2⟩ := ha
  obtain ⟨g, g1, g2⟩ := hb
  rw [f1] at g1
  have e := congrArg (List.map (fun kv : Key × V => match kv.1 with | Sum.inr k => k | Sum.inl _ => Str.empty)) (HO.dK.inj (Option.some.inj g1))
  rw [List.map_map, List.map_map] at e
  have i1 : ∀ (l : List Str) (h : Str → Addr), l.map ((fun kv : Key × V => match kv.1 with | Sum.inr k => k | Sum.inl _ => Str.empty) ∘ fun k => ((Sum.inr k : Key), V.ref (h k))) = l := fun l h => by
    have : ((fun kv : Key × V => match kv.1 with | Sum.inr k => k | Sum.inl _ => Str.empty) ∘ fun k => ((Sum.inr k : Key), V.ref (h k))) = id := rfl
    rw [this, List.map_id]
  rw [i1, i1] at e
  exact ne e
theorem PlAt.off {H : Hp} {a d : Addr} {zs : List Str} {p : Str → List Int} {o : HO} {kvs : List (Key × V)} (h : PlAt H d zs p) (ne : d ≠ a) (ha : H a = some (.dK kvs)) : PlAt (upd H a o) d zs p := by
  obtain ⟨f, f1, f2⟩ := h
  refine ⟨f, by rw [upd_ne ne]; exact f1, fun k hk => ?_⟩
  rw [upd_ne (fun z => by
    have e := f2 k hk
    rw [z, ha] at e
    cases e)]
  exact f2 k hk
def spLaw (K : PySem.W.Frag) (Pt : Addr) : Sp := fun vs H Q _ => ∃ (a : Addr) (ns : List Int), vs = [.ref a] ∧ SqL K H a (iV ns) ∧ ns.length ≤ 63 ∧ TabG H Pt ∧ ∀ H', Q (.bl true) H'
section
variable {P : Program} {w : World} {K : PySem.W.Frag} {mg : Str → Option Value} {base : Heap} {C Pt : Addr}
theorem ok_law {f : Addr} {fd : FuncData} (F : Fun K "law" "law" st_law f fd) (T : Txt mg C) (d__law_bag : Def P w K mg base "_law_bag" 1 ["_law_script", "_law_at"] (spBag K)) (d__law_right : Def P w K mg base "_law_right" 11 ["_law_bag_here", "_law_space"] (spRight Pt)) (d__law_draw : Def P w K mg base "_law_draw" 1 ["_law_bag_here", "_law_total"] spDraw)
    (d_shaken : Def P w K mg base "shaken" 10 ["placing", "motion"] (spShaken Pt)) (d_are_alike : Def P w K mg base "are_alike" 10 ["placing", "other_placing"] (spAlike Pt)) : FnOk P w K mg base CX0 12 f fd ["_law_script"] (spLaw K Pt) := by
  refine F.ok sc_law (fun vs H Q E h => ?_) (fun cdv A outer s H vs Q E hr h => ?_)
  · obtain ⟨a, ns, rfl, _⟩ := h
    rfl
  · obtain ⟨a, ns, rfl, ha, l63, hT, k⟩ := h
    have hu := hu_of hr
    refine ⟨_, (pss_cons (ps_for PassesOwn.never rfl (pi_range1 (by rfl) T.range (pa_cons (pe_callB (call_max2 rfl) (by rfl) T.max (by decide +kernel) (pa_cons pe_int (pa_cons (pe_callB (call_min2 rfl) (by rfl) T.min (by decide +kernel) (pa_cons pe_int (pa_cons (pe_callB (lenK K) (by rfl) T.len PySem.boot_len (pa_cons (pv 0) pa_nil)) pa_nil))) pa_nil))) pa_nil)) (pg_name (i := 1) sc_law.nd rfl (by first | exact Or.inl rfl | exact Or.inr rfl))
        (pss_cons (ps_set (i := 2) sc_law.nd rfl (by first | exact Or.inl rfl | exact Or.inr rfl) (pe_def d__law_bag hr (pa_cons (pv 0) (pa_cons (pv 1) pa_nil))))
      (pss_one (ps_if (PW.pt (pw_or (pt_not (pt_val (pe_def d__law_right hr (pa_cons (pv 2) (pa_cons pe_int pa_nil))))) (pw_or1 (pt_not (pt_val (pe_def d__law_right hr (pa_cons (pv 2) (pa_cons (pe_op op_add pe_int (pe_def d__law_draw hr (pa_cons (pv 2) (pa_cons pe_int pa_nil)))) pa_nil)))))))) (pss_one (ps_ret pe_bl)) pss_nil))))
      (pss_cons (ps_par (i := 3) (j := 4) rfl sc_law.nd rfl rfl (by decide) rfl rfl (pa_cons (pe_disp (pps_cons pe_str (pe_tup (pa_cons pe_int (pa_cons pe_int pa_nil))) (pps_cons pe_str (pe_tup (pa_cons pe_int (pa_cons pe_int pa_nil))) (pps_cons pe_str (pe_tup (pa_cons pe_int (pa_cons pe_int pa_nil))) (pps_cons pe_str (pe_tup (pa_cons pe_int (pa_cons pe_int pa_nil))) pps_nil)))) (by rfl) (by rfl) (fun z => by cases z) (by decide)) (pa_cons (pe_disp (pps_cons pe_str (pe_tup (pa_cons pe_int (pa_cons pe_int pa_nil))) (pps_cons pe_str (pe_tup (pa_cons pe_int (pa_cons pe_int pa_nil))) (pps_cons pe_str (pe_tup (pa_cons pe_int (pa_cons pe_int pa_nil))) (pps_cons pe_str (pe_tup (pa_cons pe_int (pa_cons pe_int pa_nil))) pps_nil)))) (by rfl) (by rfl) (fun z => by cases z) (by decide)) pa_nil)) (by rfl))
      (pss_cons (ps_asg (pe_def d_shaken hr (pa_cons (pv 3) (pa_cons (pv 4) pa_nil))) (pg_tup rfl (pgs_cons (pg_name (i := 5) sc_law.nd rfl (by first | exact Or.inl rfl | exact Or.inr rfl)) (pgs_cons (pg_name (i := 6) sc_law.nd rfl (by first | exact Or.inl rfl | exact Or.inr rfl)) pgs_nil))))
      (pss_cons (ps_if (pt_cmpR (neDK K hr.units) (pe_lst (pa_cons (pe_dget hu (pv 5) pe_str (fun _ _ => rfl)) (pa_cons (pe_dget hu (pv 6) pe_str (fun _ _ => rfl)) (pa_cons (pe_def d_are_alike hr (pa_cons (pv 5) (pa_cons (pv 6) pa_nil))) pa_nil)))) (pe_lst (pa_cons (pe_tup (pa_cons pe_int (pa_cons pe_int pa_nil))) (pa_cons (pe_tup (pa_cons (pe_un un_neg pe_int) (pa_cons pe_int pa_nil))) (pa_cons pe_bl pa_nil)))) (nomark _)) (pss_one (ps_ret pe_bl)) pss_nil)
      (pss_cons (ps_dput hu (pv 5) pe_str (pe_tup (pa_cons pe_int (pa_cons pe_int pa_nil))) rfl)
      (pss_one (ps_ret (pe_and (pe_cmpR (eqDK K hr.units) (pe_dget hu (pe_ix (ix_tupK K) (pe_def d_shaken hr (pa_cons (pv 3) (pa_cons (pv 4) pa_nil))) pe_int (fun _ _ => rfl)) pe_str (fun _ _ => rfl)) (pe_tup (pa_cons pe_int (pa_cons pe_int pa_nil))) (nomark _)) (pe_one (pe_cmpR (eqDK K hr.units) (pe_dget hu (pv 3) pe_str (fun _ _ => rfl)) (pe_tup (pa_cons pe_int (pa_cons pe_int pa_nil))) (nomark _))))))))))), ?_⟩
    have el : (iV ns).length = ns.length := List.length_map ..
    refine ⟨_, rfl, a, _, rfl, .inl ha, _, _, rfl, _, _, rfl, _, rfl, ?_⟩
    obtain ⟨m, hm⟩ : ∃ m : Int, m = (if (if ((iV ns).length : Int) < 3 then ((iV ns).length : Int) else 3) > 1 then (if ((iV ns).length : Int) < 3 then ((iV ns).length : Int) else 3) else 1) := ⟨_, rfl⟩
    have m1 : 1 ≤ m ∧ m ≤ 3 := by
      rw [hm]
      split <;> split <;> omega
    rw [← hm]
    refine ⟨by omega, by omega, for_it walk_range (fun i σ H' => (∃ v1 v2, σ = [some (.ref a), v1, v2, none, none, none, none]) ∧ KX [Pt] H H' ∧ TabG H' Pt) ⟨⟨_, _, rfl⟩, KX.refl _ _, hT⟩ (fun _ _ _ _ _ => trivial) (fun i v σ H1 H2 hi q y => ?_) fun σ H1 q => ?_⟩
    · obtain ⟨rfl, rfl⟩ := y
      obtain ⟨⟨v1, v2, rfl⟩, k1, t1⟩ := q
      show gName 1 (V.int (0 + (i : Int))) _ _ _
      rw [Int.zero_add]
      refine ⟨_, rfl, _, rfl, a, ns, i, rfl, SqL.tab ha hT k1, l63, by omega, fun b H3 k3 ob b3 => ?_⟩
      have t3 := tab_kx0 t1 k3
      have nbP : b ≠ Pt := fun z => by
        obtain ⟨_, e, _⟩ := t1
        rw [← z, ob] at e
        cases e
      refine ⟨_, rfl, b, 2, rfl, b3, t3, .inr rfl, fun H4 k4 b4 t4 => ⟨true, rfl, iteF ?_⟩⟩
      refine ⟨_, rfl, _, rfl, b, 2, rfl, b4, by omega, by omega, fun r H5 hr5 k5 b5 => ⟨_, _, rfl, rfl, b, 1 + r, ?_, b5, tab_bag b4 t4 k5, by omega, fun H6 k6 b6 t6 => ⟨true, rfl, iteF ⟨⟨_, _, rfl⟩, ?_, t6⟩⟩⟩⟩
      · rw [show ((1 + r : Nat) : Int) = 1 + (r : Int) by omega]
      · have k46 : KX [b, Pt] H3 H6 := (k4.trans (k5.mono fun x hx => by rw [List.mem_singleton.mp hx]; exact List.mem_cons_self)).trans k6
        refine k1.trans fun c o hc e => k46 c o (fun z => ?_) (k3.get0 e)
        rcases two_of z with w1 | w1
        · rw [w1, ob] at e
          cases e
        · exact hc (List.mem_singleton.mpr w1)
    · obtain ⟨⟨v1, v2, rfl⟩, k1, t1⟩ := q
      refine fun ps hps => ?_
      have kps : KX [] H1 (upd H1 ps (.dK [])) := KX.new' hps
      have gps : upd H1 ps (.dK []) ps = some (.dK []) := upd_same
      generalize upd H1 ps (.dK []) = psX0 at kps gps ⊢
      refine ⟨by show 2 ≤ sizeLine; decide, fun psc1 hpsc1 => ?_⟩
      have kpsc1 : KX [] psX0 (upd psX0 psc1 (.tup [.int 0, .int 0])) := KX.new' hpsc1
      have gpsc1 : upd psX0 psc1 (.tup [.int 0, .int 0]) psc1 = some (.tup [.int 0, .int 0]) := upd_same
      generalize upd psX0 psc1 (.tup [.int 0, .int 0]) = psX1 at kpsc1 gpsc1 ⊢
      refine ⟨by show 2 ≤ sizeLine; decide, fun psc2 hpsc2 => ?_⟩
      have kpsc2 : KX [] psX1 (upd psX1 psc2 (.tup [.int 2, .int 0])) := KX.new' hpsc2
      have gpsc2 : upd psX1 psc2 (.tup [.int 2, .int 0]) psc2 = some (.tup [.int 2, .int 0]) := upd_same
      generalize upd psX1 psc2 (.tup [.int 2, .int 0]) = psX2 at kpsc2 gpsc2 ⊢
      refine ⟨by show 2 ≤ sizeLine; decide, fun psc3 hpsc3 => ?_⟩
      have kpsc3 : KX [] psX2 (upd psX2 psc3 (.tup [.int 2, .int 2])) := KX.new' hpsc3
      have gpsc3 : upd psX2 psc3 (.tup [.int 2, .int 2]) psc3 = some (.tup [.int 2, .int 2]) := upd_same
      generalize upd psX2 psc3 (.tup [.int 2, .int 2]) = psX3 at kpsc3 gpsc3 ⊢
      refine ⟨by show 2 ≤ sizeLine; decide, fun psc4 hpsc4 => ?_⟩
      have kpsc4 : KX [] psX3 (upd psX3 psc4 (.tup [.int 0, .int 2])) := KX.new' hpsc4
      have gpsc4 : upd psX3 psc4 (.tup [.int 0, .int 2]) psc4 = some (.tup [.int 0, .int 2]) := upd_same
      generalize upd psX3 psc4 (.tup [.int 0, .int 2]) = psX4 at kpsc4 gpsc4 ⊢
      have gdps : psX4 ps = some (.dK []) := kpsc4.get0 (kpsc3.get0 (kpsc2.get0 (kpsc1.get0 gps)))
      have plps : PlAt (upd psX4 ps (.dK (mergeK [] [((Sum.inr "a" : Key), V.ref psc1), ((Sum.inr "b" : Key), V.ref psc2), ((Sum.inr "c" : Key), V.ref psc3), ((Sum.inr "d" : Key), V.ref psc4)]))) ps zs4 sqP := disp4 (by decide +kernel) gdps (kpsc4.get0 (kpsc3.get0 (kpsc2.get0 gpsc1))) (kpsc4.get0 (kpsc3.get0 gpsc2)) (kpsc4.get0 gpsc3) gpsc4
      have kY1 : KX [] H1 (upd psX4 ps (.dK (mergeK [] [((Sum.inr "a" : Key), V.ref psc1), ((Sum.inr "b" : Key), V.ref psc2), ((Sum.inr "c" : Key), V.ref psc3), ((Sum.inr "d" : Key), V.ref psc4)]))) := (kps.trans (kpsc1.trans (kpsc2.trans (kpsc3.trans kpsc4)))).new hps
      refine ⟨gdps, [((Sum.inr "a" : Key), V.ref psc1), ((Sum.inr "b" : Key), V.ref psc2), ((Sum.inr "c" : Key), V.ref psc3), ((Sum.inr "d" : Key), V.ref psc4)], rfl, by show 4 ≤ 15; decide, ?_⟩
      generalize upd psX4 ps (.dK (mergeK [] [((Sum.inr "a" : Key), V.ref psc1), ((Sum.inr "b" : Key), V.ref psc2), ((Sum.inr "c" : Key), V.ref psc3), ((Sum.inr "d" : Key), V.ref psc4)])) = Y1 at plps kY1 ⊢
      refine fun pt hpt => ?_
      have kpt : KX [] Y1 (upd Y1 pt (.dK [])) := KX.new' hpt
      have gpt : upd Y1 pt (.dK []) pt = some (.dK []) := upd_same
      generalize upd Y1 pt (.dK []) = ptX0 at kpt gpt ⊢
      refine ⟨by show 2 ≤ sizeLine; decide, fun ptc1 hptc1 => ?_⟩
      have kptc1 : KX [] ptX0 (upd ptX0 ptc1 (.tup [.int 1, .int 0])) := KX.new' hptc1
      have gptc1 : upd ptX0 ptc1 (.tup [.int 1, .int 0]) ptc1 = some (.tup [.int 1, .int 0]) := upd_same
      generalize upd ptX0 ptc1 (.tup [.int 1, .int 0]) = ptX1 at kptc1 gptc1 ⊢
      refine ⟨by show 2 ≤ sizeLine; decide, fun ptc2 hptc2 => ?_⟩
      have kptc2 : KX [] ptX1 (upd ptX1 ptc2 (.tup [.int 0, .int 0])) := KX.new' hptc2
      have gptc2 : upd ptX1 ptc2 (.tup [.int 0, .int 0]) ptc2 = some (.tup [.int 0, .int 0]) := upd_same
      generalize upd ptX1 ptc2 (.tup [.int 0, .int 0]) = ptX2 at kptc2 gptc2 ⊢
      refine ⟨by show 2 ≤ sizeLine; decide, fun ptc3 hptc3 => ?_⟩
      have kptc3 : KX [] ptX2 (upd ptX2 ptc3 (.tup [.int 0, .int 0])) := KX.new' hptc3
      have gptc3 : upd ptX2 ptc3 (.tup [.int 0, .int 0]) ptc3 = some (.tup [.int 0, .int 0]) := upd_same
      generalize upd ptX2 ptc3 (.tup [.int 0, .int 0]) = ptX3 at kptc3 gptc3 ⊢
      refine ⟨by show 2 ≤ sizeLine; decide, fun ptc4 hptc4 => ?_⟩
      have kptc4 : KX [] ptX3 (upd ptX3 ptc4 (.tup [.int 1, .int 0])) := KX.new' hptc4
      have gptc4 : upd ptX3 ptc4 (.tup [.int 1, .int 0]) ptc4 = some (.tup [.int 1, .int 0]) := upd_same
      generalize upd ptX3 ptc4 (.tup [.int 1, .int 0]) = ptX4 at kptc4 gptc4 ⊢
      have gdpt : ptX4 pt = some (.dK []) := kptc4.get0 (kptc3.get0 (kptc2.get0 (kptc1.get0 gpt)))
      have plpt : PlAt (upd ptX4 pt (.dK (mergeK [] [((Sum.inr "d" : Key), V.ref ptc1), ((Sum.inr "a" : Key), V.ref ptc2), ((Sum.inr "b" : Key), V.ref ptc3), ((Sum.inr "c" : Key), V.ref ptc4)]))) pt ms4 shP := disp4 (by decide +kernel) gdpt (kptc4.get0 (kptc3.get0 (kptc2.get0 gptc1))) (kptc4.get0 (kptc3.get0 gptc2)) (kptc4.get0 gptc3) gptc4
      have kY2 : KX [] Y1 (upd ptX4 pt (.dK (mergeK [] [((Sum.inr "d" : Key), V.ref ptc1), ((Sum.inr "a" : Key), V.ref ptc2), ((Sum.inr "b" : Key), V.ref ptc3), ((Sum.inr "c" : Key), V.ref ptc4)]))) := (kpt.trans (kptc1.trans (kptc2.trans (kptc3.trans kptc4)))).new hpt
      refine ⟨gdpt, [((Sum.inr "d" : Key), V.ref ptc1), ((Sum.inr "a" : Key), V.ref ptc2), ((Sum.inr "b" : Key), V.ref ptc3), ((Sum.inr "c" : Key), V.ref ptc4)], rfl, by show 4 ≤ 15; decide, ?_⟩
      generalize upd ptX4 pt (.dK (mergeK [] [((Sum.inr "d" : Key), V.ref ptc1), ((Sum.inr "a" : Key), V.ref ptc2), ((Sum.inr "b" : Key), V.ref ptc3), ((Sum.inr "c" : Key), V.ref ptc4)])) = Y2 at plpt kY2 ⊢
      have plps2 := plps.kx0 kY2
      have tY2 := tab_kx0 t1 (kY1.trans kY2)
      obtain ⟨ord4, ok4, pm4⟩ := zs4_facts
      have pr := List.Perm.refl zs4
      have l4 : zs4.length = 4 := rfl
      have okS : SpotsOk zs4 sqP 2 := spots4 (by decide +kernel)
      have okM : SpotsOk zs4 shP 2 := spots4 (by decide +kernel)
      have okA : SpotsOk zs4 (addP sqP shP) 2 := spots4 (by decide +kernel)
      have okB : SpotsOk zs4 (subP sqP shP) 2 := spots4 (by decide +kernel)
      refine ⟨_, _, rfl, ?_⟩
      refine ⟨_, rfl, _, rfl, ps, pt, zs4, zs4, ms4, sqP, shP, 2, rfl, plps2, plpt, pr, pm4, ord4, by omega, by omega, ok4, okS, okM, tY2, fun t ta tb Y3 k3 t3 gt hta htb => ?_⟩
      have kd23 := tab_kd tY2 k3
      refine ⟨t, _, rfl, SqT.of gt, rfl, _, _, rfl, _, _, rfl, rfl, ?_⟩
      have mc : ("c" : Str) ∈ zs4 := by decide +kernel
      have md : ("d" : Str) ∈ zs4 := by decide +kernel
      obtain ⟨ta1, ga1, ha1⟩ := hta.get mc
      obtain ⟨tb1, gb1, hb1⟩ := htb.get md
      refine ⟨_, rfl, ta, _, rfl, ga1, _, rfl, tb, _, rfl, gb1, _, rfl, _, rfl, ta, tb, zs4, zs4, zs4, addP sqP shP, subP sqP shP, 2, rfl, hta, htb, pr, pr, ord4, by omega, by omega, ok4, okA, okB, t3, fun Y4 k4 t4 => ⟨by show 3 ≤ sizeLine; decide, fun l1 hl1 => ?_⟩⟩
      have kd34 := tab_kd t3 k4
      have eA : addP sqP shP "c" = [3, 2] := by decide +kernel
      have eB : subP sqP shP "d" = [-1, 2] := by decide +kernel
      have eF : decide ((prsOf zs4).map (sqAt (addP sqP shP)) = (prsOf zs4).map (sqAt (subP sqP shP))) = false := by decide +kernel
      rw [eA] at ha1
      rw [eB] at hb1
      rw [eF]
      have kl1 : KX [] Y4 (upd Y4 l1 (.lst [.ref ta1, .ref tb1, .bl false])) := KX.new' hl1
      have gl1 : upd Y4 l1 (.lst [.ref ta1, .ref tb1, .bl false]) l1 = some (.lst [.ref ta1, .ref tb1, .bl false]) := upd_same
      generalize upd Y4 l1 (.lst [.ref ta1, .ref tb1, .bl false]) = Z1 at kl1 gl1 ⊢
      refine ⟨by show 2 ≤ sizeLine; decide, fun c1 hc1 => ?_⟩
      have kc1 : KX [] Z1 (upd Z1 c1 (.tup [.int 3, .int 2])) := KX.new' hc1
      have gc1 : upd Z1 c1 (.tup [.int 3, .int 2]) c1 = some (.tup [.int 3, .int 2]) := upd_same
      generalize upd Z1 c1 (.tup [.int 3, .int 2]) = Z2 at kc1 gc1 ⊢
      refine ⟨_, rfl, by show 2 ≤ sizeLine; decide, fun c2 hc2 => ?_⟩
      have kc2 : KX [] Z2 (upd Z2 c2 (.tup [.int (-1), .int 2])) := KX.new' hc2
      have gc2 : upd Z2 c2 (.tup [.int (-1), .int 2]) c2 = some (.tup [.int (-1), .int 2]) := upd_same
      generalize upd Z2 c2 (.tup [.int (-1), .int 2]) = Z3 at kc2 gc2 ⊢
      refine ⟨by show 3 ≤ sizeLine; decide, fun l2 hl2 => ?_⟩
      have kl2 : KX [] Z3 (upd Z3 l2 (.lst [.ref c1, .ref c2, .bl false])) := KX.new' hl2
      have gl2 : upd Z3 l2 (.lst [.ref c1, .ref c2, .bl false]) l2 = some (.lst [.ref c1, .ref c2, .bl false]) := upd_same
      generalize upd Z3 l2 (.lst [.ref c1, .ref c2, .bl false]) = Z4 at kl2 gl2 ⊢
      have k14 := kc1.trans (kc2.trans kl2)
      have a4 : Z4 ta1 = some (.tup [.int 3, .int 2]) := (kl1.trans k14).get0 (kd34 _ _ ha1 rfl)
      have b4 : Z4 tb1 = some (.tup [.int (-1), .int 2]) := (kl1.trans k14).get0 (kd34 _ _ hb1 rfl)
      have c14 := (kc2.trans kl2).get0 gc1
      have c24 := kl2.get0 gc2
      refine ⟨_, _, .lst (SqL.of (k14.get0 gl1)) (.cons (dp_two a4) (.cons (dp_two b4) (.cons (.bl false) .nil))), .lst (SqL.of gl2) (.cons (dp_two c14) (.cons (dp_two c24) (.cons (.bl false) .nil))), by decide +kernel, by decide +kernel, _, rfl, iteN (by decide +kernel) ?_⟩
      have kd2z : Kd Y2 Z4 := kd23.trans (kd34.trans (kl1.trans k14).kd0)
      have tZ4 := tab_kx0 t4 (kl1.trans k14)
      have htaZ := hta.kd (kd34.trans (kl1.trans k14).kd0)
      -- the change
      refine ⟨by show 2 ≤ sizeLine; decide, fun c3 hc3 => ?_⟩
      have kc3 : KX [] Z4 (upd Z4 c3 (.tup [.int 0, .int 0])) := KX.new' hc3
      generalize upd Z4 c3 (.tup [.int 0, .int 0]) = Z5 at kc3 ⊢
      have kd2y := kd2z.trans kc3.kd0
      have tZ5 := tab_kx0 tZ4 kc3
      have sq5 := plps2.kd kd2y
      have sh5 := plpt.kd kd2y
      have ta5 := htaZ.kd kc3.kd0
      have n1 : ps ≠ ta := pl_ne sq5 ta5 mc (by rw [eA]; decide +kernel)
      have n2 : pt ≠ ta := pl_ne2 sh5 ta5 (by decide +kernel)
      obtain ⟨fa, fa1, _⟩ := id ta5
      refine ⟨_, rfl, ta, _, rfl, DPut.k (k := Sum.inr "c") fa1 (by rw [List.length_map]; decide), ?_⟩
      have sq6 := sq5.off (o := .dK (putK (zs4.map fun k => ((Sum.inr k : Key), V.ref (fa k))) (Sum.inr "c") (.ref c3))) n1 fa1
      have sh6 := sh5.off (o := .dK (putK (zs4.map fun k => ((Sum.inr k : Key), V.ref (fa k))) (Sum.inr "c") (.ref c3))) n2 fa1
      have tZ6 : TabG (upd Z5 ta (.dK (putK (zs4.map fun k => ((Sum.inr k : Key), V.ref (fa k))) (Sum.inr "c") (.ref c3)))) Pt := by
        obtain ⟨qs, e1, e2⟩ := tZ5
        exact ⟨qs, by rw [upd_ne (fun z => by rw [z, fa1] at e1; cases e1)]; exact e1, e2⟩
      generalize upd Z5 ta (.dK (putK (zs4.map fun k => ((Sum.inr k : Key), V.ref (fa k))) (Sum.inr "c") (.ref c3))) = Z6 at sq6 sh6 tZ6 ⊢
      refine ⟨_, rfl, _, rfl, ps, pt, zs4, zs4, ms4, sqP, shP, 2, rfl, sq6, sh6, pr, pm4, ord4, by omega, by omega, ok4, okS, okM, tZ6, fun t' ta' tb' Z7 k7 t7 gt' hta' htb' => ?_⟩
      obtain ⟨ta2, ga2, ha2⟩ := hta'.get mc
      rw [eA] at ha2
      refine ⟨t', _, _, .ref ta', rfl, rfl, SqT.of gt', atI_nat (j := 0) rfl, ta', _, rfl, ga2, by show 2 ≤ sizeLine; decide, fun c5 hc5 => ?_⟩
      have kc5 : KX [] Z7 (upd Z7 c5 (.tup [.int 3, .int 2])) := KX.new' hc5
      have gc5 : upd Z7 c5 (.tup [.int 3, .int 2]) c5 = some (.tup [.int 3, .int 2]) := upd_same
      generalize upd Z7 c5 (.tup [.int 3, .int 2]) = Z8 at kc5 gc5 ⊢
      refine ⟨_, _, dp_two (kc5.get0 ha2), dp_two gc5, by decide +kernel, by decide +kernel, _, rfl, iteB (by decide +kernel) ?_⟩
      obtain ⟨ts, gs, hs⟩ := (sq6.kd ((tab_kd tZ6 k7).trans kc5.kd0)).get mc
      rw [show sqP "c" = [2, 2] by decide +kernel] at hs
      refine ⟨_, rfl, ps, _, rfl, gs, by show 2 ≤ sizeLine; decide, fun c6 hc6 => ?_⟩
      have kc6 : KX [] Z8 (upd Z8 c6 (.tup [.int 2, .int 2])) := KX.new' hc6
      exact ⟨_, _, dp_two (kc6.get0 hs), dp_two upd_same, by decide +kernel, by decide +kernel, blT (by decide +kernel) (k _)⟩
end
end K14
set_option maxHeartbeats 2000000
/-! what the top leaves: the facts by names; all promises -/
namespace K14
open PySem L2 RZ GxR
open PySem.Spec PyProof.Rows
def dD (x : Str) (st : Stmt) : He.DefD := ⟨(x, none), x, x, defArgs st, defBody st, defScope st, [], []⟩
def dInit : He.DefD := ⟨("Frame", some "__init__"), "__init__", "Frame.__init__", defArgs st_Frameu_initu, defBody st_Frameu_initu, defScope st_Frameu_initu, [.adr (He.dflAt ("Frame", some "__init__") 0)], []⟩
def fn0 : List He.DefD := [dD "is_whole" st_is_whole, dD "is_integer" st_is_integer, dD "is_name" st_is_name, dD "are_names" st_are_names, dD "is_ascending" st_is_ascending, dD "is_lot" st_is_lot, dD "is_pair" st_is_pair, dD "are_pins" st_are_pins, dD "are_rods" st_are_rods, dD "near_in" st_near_in, dD "require_frame" st_require_frame, dD "are_integers" st_are_integers, dD "has_just" st_has_just, dD "space_by" st_space_by, dD "space_in" st_space_in, dD "require_placing" st_require_placing, dD "space_alone" st_space_alone, dD "require_alone" st_require_alone, dD "square_in" st_square_in, dD "squares_in" st_squares_in]
def fn1 : List He.DefD := [dD "squares" st_squares, dD "are_speeds" st_are_speeds, dD "shaken" st_shaken, dD "are_alike" st_are_alike, dD "rows_in" st_rows_in, dD "is_motion" st_is_motion, dD "_law_bag" st__law_bag, dD "_law_draw" st__law_draw, dD "_law_one_of" st__law_one_of, dD "_law_shuffled" st__law_shuffled, dD "_law_names" st__law_names, dD "_law_pairs_of" st__law_pairs_of, dD "_law_frame_on" st__law_frame_on, dD "_law_frame" st__law_frame, dD "_law_spot" st__law_spot, dD "_law_placing" st__law_placing, dD "_law_divisor" st__law_divisor, dD "_law_cleared" st__law_cleared, dD "_law_less" st__law_less, dD "_law_leads" st__law_leads]
def fn2 : List He.DefD := [dD "_law_kernel" st__law_kernel, dD "_law_pace" st__law_pace, dD "_law_rows" st__law_rows, dD "_law_step" st__law_step, dD "_law_right" st__law_right, dD "law" st_law]
def fnAll : List He.DefD := dInit :: (fn0 ++ fn1 ++ fn2)
def fa0 : List He.Fa := [.glo "is_whole", .glo "is_integer", .glo "is_name", .glo "are_names", .glo "is_ascending", .glo "is_lot", .glo "is_pair", .glo "are_pins", .glo "are_rods", .glo "near_in", .glo "require_frame", .glo "are_integers", .glo "has_just", .glo "space_by", .glo "space_in", .glo "require_placing", .glo "space_alone", .glo "require_alone", .glo "square_in", .glo "squares_in"]
def fa1 : List He.Fa := [.glo "squares", .glo "are_speeds", .glo "shaken", .glo "are_alike", .glo "rows_in", .glo "is_motion", .glo "_law_bag", .glo "_law_draw", .glo "_law_one_of", .glo "_law_shuffled", .glo "_law_names", .glo "_law_pairs_of", .glo "_law_frame_on", .glo "_law_frame", .glo "_law_spot", .glo "_law_placing", .glo "_law_divisor", .glo "_law_cleared", .glo "_law_less", .glo "_law_leads"]
def fa2 : List He.Fa := [.glo "_law_kernel", .glo "_law_pace", .glo "_law_rows", .glo "_law_step", .glo "_law_right", .glo "law"]
def faB : List He.Fa := [.free "len", .free "all", .free "isinstance", .free "zip", .free "enumerate", .free "range", .free "sum", .free "sorted", .free "set", .free "tuple", .free "list", .free "dict", .free "int", .free "str", .free "bool", .free "abs", .free "max", .free "min", .free "next"]
def faC : List He.Fa := [.int "MAX_LETTERS" 4, .int "MAX_PINS" 8, .int "LINE" 1, .int "PLANE" 2, .int "BEYOND" beyond, .str "LETTERS" letters, .glo "Frame", .mkr "Frame"]
def faAll : List He.Fa := faC ++ (faB ++ (fa0 ++ fa1 ++ fa2))
def slotB (K : PySem.W.Frag) (C : Addr) (f : Str) (i : Nat) : Bool := He.eqO (PySem.W.findIn K (.ref C) f) (some (some (.ref (He.ma K C f)))) && (He.eqO (PySem.W.specialIn K (.ref (He.ma K C f)) "__get__") (some (some (.builtin "member_descriptor.__get__"))) &&
  (decide (PySem.W.takesIn K (.ref (He.ma K C f)) = some true) && (decide (PySem.W.typeIn K (.ref (He.ma K C f)) = some (.type "member_descriptor")) && decide (PySem.W.slotIn K (He.ma K C f) C = some i))))
theorem slotB_ok {K : PySem.W.Frag} {C : Addr} {f : Str} {i : Nat} (hi : i < 1000) (h : slotB K C f i = true) : ∃ p, SlX.Slot1 K C f p i := by
  obtain ⟨h1, h⟩ := He.ba h
  obtain ⟨h2, h⟩ := He.ba h
  obtain ⟨h3, h⟩ := He.ba h
  obtain ⟨h4, h5⟩ := He.ba h
  exact ⟨_, He.eqO_ok h1, He.eqO_ok h2, of_decide_eq_true h3, of_decide_eq_true h4, of_decide_eq_true h5, hi⟩
def clsB (K : PySem.W.Frag) (C : Addr) : Bool := (PySem.W.plainGet K C Str.empty && (PySem.W.isClsIn K C && (PySem.W.plainOver K C && He.eqO (PySem.W.findIn K (.ref C) "__setattr__") (some (some (.builtin "object.__setattr__")))))) &&
  ((He.eqO (PySem.W.findIn K (.ref C) "__class__") (some (some (.builtin "object.__class__"))) && (He.eqO (PySem.W.specialIn K (.builtin "object.__class__") "__get__") (some (some (.builtin "getset_descriptor.__get__"))) &&
    (decide (PySem.W.takesIn K (.builtin "object.__class__") = some true) && decide (PySem.W.mroIn K C (.type "object") = some true)))) &&
  (decide (PySem.W.kitOne K (.ref C) (.ref C) = some true) && (slotB K C "own_near" 0 && (slotB K C "own_pins" 1 && slotB K C "own_rods" 2))))
theorem clsB_ok {K : PySem.W.Frag} {C : Addr} (h : clsB K C = true) : FrC K C := by
  obtain ⟨g, h⟩ := He.ba h
  obtain ⟨g1, g⟩ := He.ba g
  obtain ⟨g2, g⟩ := He.ba g
  obtain ⟨g3, g4⟩ := He.ba g
  obtain ⟨i, h⟩ := He.ba h
  obtain ⟨i1, i⟩ := He.ba i
  obtain ⟨i2, i⟩ := He.ba i
  obtain ⟨i3, i4⟩ := He.ba i
  obtain ⟨k, h⟩ := He.ba h
  obtain ⟨s0, h⟩ := He.ba h
  obtain ⟨s1, s2⟩ := He.ba h
  exact ⟨⟨g1, g2, g3, He.eqO_ok g4⟩, ⟨He.eqO_ok i1, He.eqO_ok i2, of_decide_eq_true i3, of_decide_eq_true i4⟩, of_decide_eq_true k, slotB_ok (by decide) s0, slotB_ok (by decide) s1, slotB_ok (by decide) s2⟩
def exB (K : PySem.W.Frag) : Bool := clsB K (He.ga K "Frame")
def tfAll : List He.Defn := [("space_by", none)]
section
variable {K : PySem.W.Frag}
theorem fun_of {x : Str} {st : Stmt} {f : Addr} {fd : FuncData} (h : L2.FunD K x x (defArgs st) (defBody st) (defScope st) [] [] f fd) : Fun K x x st f fd := by
  obtain ⟨oc, od, dV, kV, doc, pm, an, cdv, ct, osl, e, lk, cd, dv, _⟩ := h.ex
  rcases dv with ⟨_, z⟩ | ⟨z, _⟩
  · rw [z] at e
    exact ⟨⟨oc, od, kV, doc, pm, an, cdv, ct, osl, e, lk, cd⟩, h.kp⟩
  · exact absurd rfl z
theorem funC_of {x : Str} {st : Stmt} {fd : FuncData} (h : L2.FunD K x x (defArgs st) (defBody st) (defScope st) [] [] (He.fAd K (x, none)) fd) : FunC K x x st (He.fAd K (x, none)) fd (He.codeOf K (x, none)) := by
  obtain ⟨oc, od, dV, kV, doc, pm, an, cdv, ct, osl, e, lk, cd, dv, _⟩ := h.ex
  obtain ⟨c, rfl⟩ := He.codeIn_ref cd
  have ec : He.codeOf K (x, none) = c := He.codeOf_eq lk (by rw [e])
  rw [ec]
  rcases dv with ⟨_, z⟩ | ⟨z, _⟩
  · rw [z] at e
    exact ⟨⟨oc, od, kV, doc, pm, an, ct, osl, e, lk, cd⟩, h.kp⟩
  · exact absurd rfl z
theorem funD_of {x q : Str} {st : Stmt} {f : Addr} {fd : FuncData} {dvs : List V} (h : L2.FunD K x q (defArgs st) (defBody st) (defScope st) dvs [] f fd) : K14.FunD K x q st f fd := by
  obtain ⟨oc, od, dV, kV, doc, pm, an, cdv, ct, osl, e, lk, cd, dv, _⟩ := h.ex
  exact ⟨⟨oc, od, dV, kV, doc, pm, an, cdv, ct, osl, e, lk, cd⟩, h.kp⟩
end
theorem all_mk {P : Program} {w : World} {K : PySem.W.Frag} {mg : Str → Option Value} {h : Heap} {fa : Addr} (X : K.In h) (G : h.Ns mainGlobals mg) (hfa : mg ("law" : Str) = some (.ref fa)) (S : He.SaysX faAll fnAll [] tfAll exB w h K) :
    ∃ fd : FuncData, (∀ (s : Shared) (u : Value), BindsTo s fd ⟨[u], []⟩ [("_law_script", u)]) ∧ ∀ base : Heap, K.In base → base.Ns mainGlobals mg → GxR.TabB base mg (He.cT K ("space_by", none)).1 (He.cT K ("space_by", none)).2 → FnOk P w K mg base CX0 12 fa fd ["_law_script"] (spLaw K (He.cT K ("space_by", none)).2) := by
  have SD := S.t.d
  have R : FrC K (He.ga K "Frame") := clsB_ok S.more
  have MK : Mk K (He.ga K "Frame") (He.ma K (He.ga K "Frame") "__init__") := He.mkr_ok (SD.fact 7 (f := .mkr "Frame") rfl)
  have T : Txt mg (He.ga K "Frame") := ⟨He.free_ok X G (SD.fact 8 (f := .free "len") rfl), He.free_ok X G (SD.fact 9 (f := .free "all") rfl), He.free_ok X G (SD.fact 10 (f := .free "isinstance") rfl), He.free_ok X G (SD.fact 11 (f := .free "zip") rfl), He.free_ok X G (SD.fact 12 (f := .free "enumerate") rfl), He.free_ok X G (SD.fact 13 (f := .free "range") rfl), He.free_ok X G (SD.fact 14 (f := .free "sum") rfl), He.free_ok X G (SD.fact 15 (f := .free "sorted") rfl), He.free_ok X G (SD.fact 16 (f := .free "set") rfl), He.free_ok X G (SD.fact 17 (f := .free "tuple") rfl), He.free_ok X G (SD.fact 18 (f := .free "list") rfl), He.free_ok X G (SD.fact 19 (f := .free "dict") rfl), He.free_ok X G (SD.fact 20 (f := .free "int") rfl), He.free_ok X G (SD.fact 21 (f := .free "str") rfl), He.free_ok X G (SD.fact 22 (f := .free "bool") rfl), He.free_ok X G (SD.fact 23 (f := .free "abs") rfl), He.free_ok X G (SD.fact 24 (f := .free "max") rfl), He.free_ok X G (SD.fact 25 (f := .free "min") rfl), He.free_ok X G (SD.fact 26 (f := .free "next") rfl), He.int_ok X G (SD.fact 0 (f := .int "MAX_LETTERS" 4) rfl), He.int_ok X G (SD.fact 1 (f := .int "MAX_PINS" 8) rfl), He.int_ok X G (SD.fact 2 (f := .int "LINE" 1) rfl), He.int_ok X G (SD.fact 3 (f := .int "PLANE" 2) rfl), He.int_ok X G (SD.fact 4 (f := .int "BEYOND" beyond) rfl), He.str_ok X G (SD.fact 5 (f := .str "LETTERS" letters) rfl), He.glo_ok X G (SD.fact 6 (f := .glo "Frame") rfl)⟩
  obtain ⟨fdI, DI⟩ := SD.def_ 0 (d := dInit) rfl
  obtain ⟨dsI, vI, bI⟩ := L2.FunD.binds1 (ps := ["self", "pins", "rods"]) DI 3 1 (List.cons_ne_nil _ _) rfl fun Ta kV doc pm an cdv ct us its h1 h2 => match us, its, h1, h2 with | [_, _, _], [_], _, _ => ⟨_, rfl, rfl⟩
  obtain rfl : dsI = [] := by cases vI; rfl
  have FI := funD_of (x := "__init__") (q := "Frame.__init__") (st := st_Frameu_initu) (dvs := He.DefD.dvs K dInit) DI
  obtain ⟨fd_is_whole, D_is_whole⟩ := SD.def_ 1 (d := dD "is_whole" st_is_whole) rfl
  have b_is_whole := L2.FunD.bindsN (ps := ["value"]) D_is_whole fun _ _ _ _ _ _ us hl => match us, hl with | [_], _ => rfl
  have g_is_whole := He.glo_ok X G (SD.fact 27 (f := .glo "is_whole") rfl)
  have F_is_whole := fun_of (x := "is_whole") (st := st_is_whole) D_is_whole
  have k_is_whole := D_is_whole.kp
  obtain ⟨fd_is_integer, D_is_integer⟩ := SD.def_ 2 (d := dD "is_integer" st_is_integer) rfl
  have b_is_integer := L2.FunD.bindsN (ps := ["value"]) D_is_integer fun _ _ _ _ _ _ us hl => match us, hl with | [_], _ => rfl
  have g_is_integer := He.glo_ok X G (SD.fact 28 (f := .glo "is_integer") rfl)
  have F_is_integer := fun_of (x := "is_integer") (st := st_is_integer) D_is_integer
  have k_is_integer := D_is_integer.kp
  obtain ⟨fd_is_name, D_is_name⟩ := SD.def_ 3 (d := dD "is_name" st_is_name) rfl
  have b_is_name := L2.FunD.bindsN (ps := ["value"]) D_is_name fun _ _ _ _ _ _ us hl => match us, hl with | [_], _ => rfl
  have g_is_name := He.glo_ok X G (SD.fact 29 (f := .glo "is_name") rfl)
  have F_is_name := fun_of (x := "is_name") (st := st_is_name) D_is_name
  have k_is_name := D_is_name.kp
  obtain ⟨fd_are_names, D_are_names⟩ := SD.def_ 4 (d := dD "are_names" st_are_names) rfl
  have b_are_names := L2.FunD.bindsN (ps := ["value"]) D_are_names fun _ _ _ _ _ _ us hl => match us, hl with | [_], _ => rfl
  have g_are_names := He.glo_ok X G (SD.fact 30 (f := .glo "are_names") rfl)
  have F_are_names := fun_of (x := "are_names") (st := st_are_names) D_are_names
  have k_are_names := D_are_names.kp
  obtain ⟨fd_is_ascending, D_is_ascending⟩ := SD.def_ 5 (d := dD "is_ascending" st_is_ascending) rfl
  have b_is_ascending := L2.FunD.bindsN (ps := ["items"]) D_is_ascending fun _ _ _ _ _ _ us hl => match us, hl with | [_], _ => rfl
  have g_is_ascending := He.glo_ok X G (SD.fact 31 (f := .glo "is_ascending") rfl)
  have F_is_ascending := fun_of (x := "is_ascending") (st := st_is_ascending) D_is_ascending
  have k_is_ascending := D_is_ascending.kp
  obtain ⟨fd_is_lot, D_is_lot⟩ := SD.def_ 6 (d := dD "is_lot" st_is_lot) rfl
  have b_is_lot := L2.FunD.bindsN (ps := ["value"]) D_is_lot fun _ _ _ _ _ _ us hl => match us, hl with | [_], _ => rfl
  have g_is_lot := He.glo_ok X G (SD.fact 32 (f := .glo "is_lot") rfl)
  have F_is_lot := fun_of (x := "is_lot") (st := st_is_lot) D_is_lot
  have k_is_lot := D_is_lot.kp
  obtain ⟨fd_is_pair, D_is_pair⟩ := SD.def_ 7 (d := dD "is_pair" st_is_pair) rfl
  have b_is_pair := L2.FunD.bindsN (ps := ["value"]) D_is_pair fun _ _ _ _ _ _ us hl => match us, hl with | [_], _ => rfl
  have g_is_pair := He.glo_ok X G (SD.fact 33 (f := .glo "is_pair") rfl)
  have F_is_pair := fun_of (x := "is_pair") (st := st_is_pair) D_is_pair
  have k_is_pair := D_is_pair.kp
  obtain ⟨fd_are_pins, D_are_pins⟩ := SD.def_ 8 (d := dD "are_pins" st_are_pins) rfl
  have b_are_pins := L2.FunD.bindsN (ps := ["value"]) D_are_pins fun _ _ _ _ _ _ us hl => match us, hl with | [_], _ => rfl
  have g_are_pins := He.glo_ok X G (SD.fact 34 (f := .glo "are_pins") rfl)
  have F_are_pins := fun_of (x := "are_pins") (st := st_are_pins) D_are_pins
  have k_are_pins := D_are_pins.kp
  obtain ⟨fd_are_rods, D_are_rods⟩ := SD.def_ 9 (d := dD "are_rods" st_are_rods) rfl
  have b_are_rods := L2.FunD.bindsN (ps := ["pins", "value"]) D_are_rods fun _ _ _ _ _ _ us hl => match us, hl with | [_, _], _ => rfl
  have g_are_rods := He.glo_ok X G (SD.fact 35 (f := .glo "are_rods") rfl)
  have F_are_rods := fun_of (x := "are_rods") (st := st_are_rods) D_are_rods
  have k_are_rods := D_are_rods.kp
  obtain ⟨fd_near_in, D_near_in⟩ := SD.def_ 10 (d := dD "near_in" st_near_in) rfl
  have b_near_in := L2.FunD.bindsN (ps := ["rods", "pin"]) D_near_in fun _ _ _ _ _ _ us hl => match us, hl with | [_, _], _ => rfl
  have g_near_in := He.glo_ok X G (SD.fact 36 (f := .glo "near_in") rfl)
  have F_near_in := fun_of (x := "near_in") (st := st_near_in) D_near_in
  have k_near_in := D_near_in.kp
  obtain ⟨fd_require_frame, D_require_frame⟩ := SD.def_ 11 (d := dD "require_frame" st_require_frame) rfl
  have b_require_frame := L2.FunD.bindsN (ps := ["value"]) D_require_frame fun _ _ _ _ _ _ us hl => match us, hl with | [_], _ => rfl
  have g_require_frame := He.glo_ok X G (SD.fact 37 (f := .glo "require_frame") rfl)
  have F_require_frame := fun_of (x := "require_frame") (st := st_require_frame) D_require_frame
  have k_require_frame := D_require_frame.kp
  obtain ⟨fd_are_integers, D_are_integers⟩ := SD.def_ 12 (d := dD "are_integers" st_are_integers) rfl
  have b_are_integers := L2.FunD.bindsN (ps := ["value", "width"]) D_are_integers fun _ _ _ _ _ _ us hl => match us, hl with | [_, _], _ => rfl
  have g_are_integers := He.glo_ok X G (SD.fact 38 (f := .glo "are_integers") rfl)
  have F_are_integers := fun_of (x := "are_integers") (st := st_are_integers) D_are_integers
  have k_are_integers := D_are_integers.kp
  obtain ⟨fd_has_just, D_has_just⟩ := SD.def_ 13 (d := dD "has_just" st_has_just) rfl
  have b_has_just := L2.FunD.bindsN (ps := ["keys", "value"]) D_has_just fun _ _ _ _ _ _ us hl => match us, hl with | [_, _], _ => rfl
  have g_has_just := He.glo_ok X G (SD.fact 39 (f := .glo "has_just") rfl)
  have F_has_just := fun_of (x := "has_just") (st := st_has_just) D_has_just
  have k_has_just := D_has_just.kp
  obtain ⟨fd_space_by, D_space_by⟩ := SD.def_ 14 (d := dD "space_by" st_space_by) rfl
  have b_space_by := L2.FunD.bindsN (ps := ["pins", "value"]) D_space_by fun _ _ _ _ _ _ us hl => match us, hl with | [_, _], _ => rfl
  have g_space_by := He.glo_ok X G (SD.fact 40 (f := .glo "space_by") rfl)
  have F_space_by := funC_of (x := "space_by") (st := st_space_by) D_space_by
  have k_space_by := D_space_by.kp
  obtain ⟨fd_space_in, D_space_in⟩ := SD.def_ 15 (d := dD "space_in" st_space_in) rfl
  have b_space_in := L2.FunD.bindsN (ps := ["frame", "value"]) D_space_in fun _ _ _ _ _ _ us hl => match us, hl with | [_, _], _ => rfl
  have g_space_in := He.glo_ok X G (SD.fact 41 (f := .glo "space_in") rfl)
  have F_space_in := fun_of (x := "space_in") (st := st_space_in) D_space_in
  have k_space_in := D_space_in.kp
  obtain ⟨fd_require_placing, D_require_placing⟩ := SD.def_ 16 (d := dD "require_placing" st_require_placing) rfl
  have b_require_placing := L2.FunD.bindsN (ps := ["frame", "value"]) D_require_placing fun _ _ _ _ _ _ us hl => match us, hl with | [_, _], _ => rfl
  have g_require_placing := He.glo_ok X G (SD.fact 42 (f := .glo "require_placing") rfl)
  have F_require_placing := fun_of (x := "require_placing") (st := st_require_placing) D_require_placing
  have k_require_placing := D_require_placing.kp
  obtain ⟨fd_space_alone, D_space_alone⟩ := SD.def_ 17 (d := dD "space_alone" st_space_alone) rfl
  have b_space_alone := L2.FunD.bindsN (ps := ["value"]) D_space_alone fun _ _ _ _ _ _ us hl => match us, hl with | [_], _ => rfl
  have g_space_alone := He.glo_ok X G (SD.fact 43 (f := .glo "space_alone") rfl)
  have F_space_alone := fun_of (x := "space_alone") (st := st_space_alone) D_space_alone
  have k_space_alone := D_space_alone.kp
  obtain ⟨fd_require_alone, D_require_alone⟩ := SD.def_ 18 (d := dD "require_alone" st_require_alone) rfl
  have b_require_alone := L2.FunD.bindsN (ps := ["value"]) D_require_alone fun _ _ _ _ _ _ us hl => match us, hl with | [_], _ => rfl
  have g_require_alone := He.glo_ok X G (SD.fact 44 (f := .glo "require_alone") rfl)
  have F_require_alone := fun_of (x := "require_alone") (st := st_require_alone) D_require_alone
  have k_require_alone := D_require_alone.kp
  obtain ⟨fd_square_in, D_square_in⟩ := SD.def_ 19 (d := dD "square_in" st_square_in) rfl
  have b_square_in := L2.FunD.bindsN (ps := ["placing", "one", "other"]) D_square_in fun _ _ _ _ _ _ us hl => match us, hl with | [_, _, _], _ => rfl
  have g_square_in := He.glo_ok X G (SD.fact 45 (f := .glo "square_in") rfl)
  have F_square_in := fun_of (x := "square_in") (st := st_square_in) D_square_in
  have k_square_in := D_square_in.kp
  obtain ⟨fd_squares_in, D_squares_in⟩ := SD.def_ 20 (d := dD "squares_in" st_squares_in) rfl
  have b_squares_in := L2.FunD.bindsN (ps := ["placing", "pairs"]) D_squares_in fun _ _ _ _ _ _ us hl => match us, hl with | [_, _], _ => rfl
  have g_squares_in := He.glo_ok X G (SD.fact 46 (f := .glo "squares_in") rfl)
  have F_squares_in := fun_of (x := "squares_in") (st := st_squares_in) D_squares_in
  have k_squares_in := D_squares_in.kp
  obtain ⟨fd_squares, D_squares⟩ := SD.def_ 21 (d := dD "squares" st_squares) rfl
  have b_squares := L2.FunD.bindsN (ps := ["frame", "placing"]) D_squares fun _ _ _ _ _ _ us hl => match us, hl with | [_, _], _ => rfl
  have g_squares := He.glo_ok X G (SD.fact 47 (f := .glo "squares") rfl)
  have F_squares := fun_of (x := "squares") (st := st_squares) D_squares
  have k_squares := D_squares.kp
  obtain ⟨fd_are_speeds, D_are_speeds⟩ := SD.def_ 22 (d := dD "are_speeds" st_are_speeds) rfl
  have b_are_speeds := L2.FunD.bindsN (ps := ["pins", "space", "value"]) D_are_speeds fun _ _ _ _ _ _ us hl => match us, hl with | [_, _, _], _ => rfl
  have g_are_speeds := He.glo_ok X G (SD.fact 48 (f := .glo "are_speeds") rfl)
  have F_are_speeds := fun_of (x := "are_speeds") (st := st_are_speeds) D_are_speeds
  have k_are_speeds := D_are_speeds.kp
  obtain ⟨fd_shaken, D_shaken⟩ := SD.def_ 23 (d := dD "shaken" st_shaken) rfl
  have b_shaken := L2.FunD.bindsN (ps := ["placing", "motion"]) D_shaken fun _ _ _ _ _ _ us hl => match us, hl with | [_, _], _ => rfl
  have g_shaken := He.glo_ok X G (SD.fact 49 (f := .glo "shaken") rfl)
  have F_shaken := fun_of (x := "shaken") (st := st_shaken) D_shaken
  have k_shaken := D_shaken.kp
  obtain ⟨fd_are_alike, D_are_alike⟩ := SD.def_ 24 (d := dD "are_alike" st_are_alike) rfl
  have b_are_alike := L2.FunD.bindsN (ps := ["placing", "other_placing"]) D_are_alike fun _ _ _ _ _ _ us hl => match us, hl with | [_, _], _ => rfl
  have g_are_alike := He.glo_ok X G (SD.fact 50 (f := .glo "are_alike") rfl)
  have F_are_alike := fun_of (x := "are_alike") (st := st_are_alike) D_are_alike
  have k_are_alike := D_are_alike.kp
  obtain ⟨fd_rows_in, D_rows_in⟩ := SD.def_ 25 (d := dD "rows_in" st_rows_in) rfl
  have b_rows_in := L2.FunD.bindsN (ps := ["frame", "placing"]) D_rows_in fun _ _ _ _ _ _ us hl => match us, hl with | [_, _], _ => rfl
  have g_rows_in := He.glo_ok X G (SD.fact 51 (f := .glo "rows_in") rfl)
  have F_rows_in := fun_of (x := "rows_in") (st := st_rows_in) D_rows_in
  have k_rows_in := D_rows_in.kp
  obtain ⟨fd_is_motion, D_is_motion⟩ := SD.def_ 26 (d := dD "is_motion" st_is_motion) rfl
  have b_is_motion := L2.FunD.bindsN (ps := ["frame", "placing", "value"]) D_is_motion fun _ _ _ _ _ _ us hl => match us, hl with | [_, _, _], _ => rfl
  have g_is_motion := He.glo_ok X G (SD.fact 52 (f := .glo "is_motion") rfl)
  have F_is_motion := fun_of (x := "is_motion") (st := st_is_motion) D_is_motion
  have k_is_motion := D_is_motion.kp
  obtain ⟨fd__law_bag, D__law_bag⟩ := SD.def_ 27 (d := dD "_law_bag" st__law_bag) rfl
  have b__law_bag := L2.FunD.bindsN (ps := ["_law_script", "_law_at"]) D__law_bag fun _ _ _ _ _ _ us hl => match us, hl with | [_, _], _ => rfl
  have g__law_bag := He.glo_ok X G (SD.fact 53 (f := .glo "_law_bag") rfl)
  have F__law_bag := fun_of (x := "_law_bag") (st := st__law_bag) D__law_bag
  have k__law_bag := D__law_bag.kp
  obtain ⟨fd__law_draw, D__law_draw⟩ := SD.def_ 28 (d := dD "_law_draw" st__law_draw) rfl
  have b__law_draw := L2.FunD.bindsN (ps := ["_law_bag_here", "_law_total"]) D__law_draw fun _ _ _ _ _ _ us hl => match us, hl with | [_, _], _ => rfl
  have g__law_draw := He.glo_ok X G (SD.fact 54 (f := .glo "_law_draw") rfl)
  have F__law_draw := fun_of (x := "_law_draw") (st := st__law_draw) D__law_draw
  have k__law_draw := D__law_draw.kp
  obtain ⟨fd__law_one_of, D__law_one_of⟩ := SD.def_ 29 (d := dD "_law_one_of" st__law_one_of) rfl
  have b__law_one_of := L2.FunD.bindsN (ps := ["_law_bag_here", "_law_items"]) D__law_one_of fun _ _ _ _ _ _ us hl => match us, hl with | [_, _], _ => rfl
  have g__law_one_of := He.glo_ok X G (SD.fact 55 (f := .glo "_law_one_of") rfl)
  have F__law_one_of := fun_of (x := "_law_one_of") (st := st__law_one_of) D__law_one_of
  have k__law_one_of := D__law_one_of.kp
  obtain ⟨fd__law_shuffled, D__law_shuffled⟩ := SD.def_ 30 (d := dD "_law_shuffled" st__law_shuffled) rfl
  have b__law_shuffled := L2.FunD.bindsN (ps := ["_law_bag_here", "_law_items"]) D__law_shuffled fun _ _ _ _ _ _ us hl => match us, hl with | [_, _], _ => rfl
  have g__law_shuffled := He.glo_ok X G (SD.fact 56 (f := .glo "_law_shuffled") rfl)
  have F__law_shuffled := fun_of (x := "_law_shuffled") (st := st__law_shuffled) D__law_shuffled
  have k__law_shuffled := D__law_shuffled.kp
  obtain ⟨fd__law_names, D__law_names⟩ := SD.def_ 31 (d := dD "_law_names" st__law_names) rfl
  have b__law_names := L2.FunD.bindsN (ps := ["_law_bag_here", "_law_many"]) D__law_names fun _ _ _ _ _ _ us hl => match us, hl with | [_, _], _ => rfl
  have g__law_names := He.glo_ok X G (SD.fact 57 (f := .glo "_law_names") rfl)
  have F__law_names := fun_of (x := "_law_names") (st := st__law_names) D__law_names
  have k__law_names := D__law_names.kp
  obtain ⟨fd__law_pairs_of, D__law_pairs_of⟩ := SD.def_ 32 (d := dD "_law_pairs_of" st__law_pairs_of) rfl
  have b__law_pairs_of := L2.FunD.bindsN (ps := ["_law_pins"]) D__law_pairs_of fun _ _ _ _ _ _ us hl => match us, hl with | [_], _ => rfl
  have g__law_pairs_of := He.glo_ok X G (SD.fact 58 (f := .glo "_law_pairs_of") rfl)
  have F__law_pairs_of := fun_of (x := "_law_pairs_of") (st := st__law_pairs_of) D__law_pairs_of
  have k__law_pairs_of := D__law_pairs_of.kp
  obtain ⟨fd__law_frame_on, D__law_frame_on⟩ := SD.def_ 33 (d := dD "_law_frame_on" st__law_frame_on) rfl
  have b__law_frame_on := L2.FunD.bindsN (ps := ["_law_bag_here", "_law_names_here", "_law_share"]) D__law_frame_on fun _ _ _ _ _ _ us hl => match us, hl with | [_, _, _], _ => rfl
  have g__law_frame_on := He.glo_ok X G (SD.fact 59 (f := .glo "_law_frame_on") rfl)
  have F__law_frame_on := fun_of (x := "_law_frame_on") (st := st__law_frame_on) D__law_frame_on
  have k__law_frame_on := D__law_frame_on.kp
  obtain ⟨fd__law_frame, D__law_frame⟩ := SD.def_ 34 (d := dD "_law_frame" st__law_frame) rfl
  have b__law_frame := L2.FunD.bindsN (ps := ["_law_bag_here", "_law_least", "_law_most", "_law_share"]) D__law_frame fun _ _ _ _ _ _ us hl => match us, hl with | [_, _, _, _], _ => rfl
  have g__law_frame := He.glo_ok X G (SD.fact 60 (f := .glo "_law_frame") rfl)
  have F__law_frame := fun_of (x := "_law_frame") (st := st__law_frame) D__law_frame
  have k__law_frame := D__law_frame.kp
  obtain ⟨fd__law_spot, D__law_spot⟩ := SD.def_ 35 (d := dD "_law_spot" st__law_spot) rfl
  have b__law_spot := L2.FunD.bindsN (ps := ["_law_bag_here", "_law_space", "_law_spread"]) D__law_spot fun _ _ _ _ _ _ us hl => match us, hl with | [_, _, _], _ => rfl
  have g__law_spot := He.glo_ok X G (SD.fact 61 (f := .glo "_law_spot") rfl)
  have F__law_spot := fun_of (x := "_law_spot") (st := st__law_spot) D__law_spot
  have k__law_spot := D__law_spot.kp
  obtain ⟨fd__law_placing, D__law_placing⟩ := SD.def_ 36 (d := dD "_law_placing" st__law_placing) rfl
  have b__law_placing := L2.FunD.bindsN (ps := ["_law_bag_here", "_law_pins", "_law_space", "_law_spread"]) D__law_placing fun _ _ _ _ _ _ us hl => match us, hl with | [_, _, _, _], _ => rfl
  have g__law_placing := He.glo_ok X G (SD.fact 62 (f := .glo "_law_placing") rfl)
  have F__law_placing := fun_of (x := "_law_placing") (st := st__law_placing) D__law_placing
  have k__law_placing := D__law_placing.kp
  obtain ⟨fd__law_divisor, D__law_divisor⟩ := SD.def_ 37 (d := dD "_law_divisor" st__law_divisor) rfl
  have b__law_divisor := L2.FunD.bindsN (ps := ["_law_numbers"]) D__law_divisor fun _ _ _ _ _ _ us hl => match us, hl with | [_], _ => rfl
  have g__law_divisor := He.glo_ok X G (SD.fact 63 (f := .glo "_law_divisor") rfl)
  have F__law_divisor := fun_of (x := "_law_divisor") (st := st__law_divisor) D__law_divisor
  have k__law_divisor := D__law_divisor.kp
  obtain ⟨fd__law_cleared, D__law_cleared⟩ := SD.def_ 38 (d := dD "_law_cleared" st__law_cleared) rfl
  have b__law_cleared := L2.FunD.bindsN (ps := ["_law_row"]) D__law_cleared fun _ _ _ _ _ _ us hl => match us, hl with | [_], _ => rfl
  have g__law_cleared := He.glo_ok X G (SD.fact 64 (f := .glo "_law_cleared") rfl)
  have F__law_cleared := fun_of (x := "_law_cleared") (st := st__law_cleared) D__law_cleared
  have k__law_cleared := D__law_cleared.kp
  obtain ⟨fd__law_less, D__law_less⟩ := SD.def_ 39 (d := dD "_law_less" st__law_less) rfl
  have b__law_less := L2.FunD.bindsN (ps := ["_law_row", "_law_head", "_law_column"]) D__law_less fun _ _ _ _ _ _ us hl => match us, hl with | [_, _, _], _ => rfl
  have g__law_less := He.glo_ok X G (SD.fact 65 (f := .glo "_law_less") rfl)
  have F__law_less := fun_of (x := "_law_less") (st := st__law_less) D__law_less
  have k__law_less := D__law_less.kp
  obtain ⟨fd__law_leads, D__law_leads⟩ := SD.def_ 40 (d := dD "_law_leads" st__law_leads) rfl
  have b__law_leads := L2.FunD.bindsN (ps := ["_law_rows_here", "_law_width"]) D__law_leads fun _ _ _ _ _ _ us hl => match us, hl with | [_, _], _ => rfl
  have g__law_leads := He.glo_ok X G (SD.fact 66 (f := .glo "_law_leads") rfl)
  have F__law_leads := fun_of (x := "_law_leads") (st := st__law_leads) D__law_leads
  have k__law_leads := D__law_leads.kp
  obtain ⟨fd__law_kernel, D__law_kernel⟩ := SD.def_ 41 (d := dD "_law_kernel" st__law_kernel) rfl
  have b__law_kernel := L2.FunD.bindsN (ps := ["_law_rows_here", "_law_width"]) D__law_kernel fun _ _ _ _ _ _ us hl => match us, hl with | [_, _], _ => rfl
  have g__law_kernel := He.glo_ok X G (SD.fact 67 (f := .glo "_law_kernel") rfl)
  have F__law_kernel := fun_of (x := "_law_kernel") (st := st__law_kernel) D__law_kernel
  have k__law_kernel := D__law_kernel.kp
  obtain ⟨fd__law_pace, D__law_pace⟩ := SD.def_ 42 (d := dD "_law_pace" st__law_pace) rfl
  have b__law_pace := L2.FunD.bindsN (ps := ["_law_placing_here", "_law_step_here", "_law_one", "_law_other"]) D__law_pace fun _ _ _ _ _ _ us hl => match us, hl with | [_, _, _, _], _ => rfl
  have g__law_pace := He.glo_ok X G (SD.fact 68 (f := .glo "_law_pace") rfl)
  have F__law_pace := fun_of (x := "_law_pace") (st := st__law_pace) D__law_pace
  have k__law_pace := D__law_pace.kp
  obtain ⟨fd__law_rows, D__law_rows⟩ := SD.def_ 43 (d := dD "_law_rows" st__law_rows) rfl
  have b__law_rows := L2.FunD.bindsN (ps := ["_law_frame_here", "_law_placing_here"]) D__law_rows fun _ _ _ _ _ _ us hl => match us, hl with | [_, _], _ => rfl
  have g__law_rows := He.glo_ok X G (SD.fact 69 (f := .glo "_law_rows") rfl)
  have F__law_rows := fun_of (x := "_law_rows") (st := st__law_rows) D__law_rows
  have k__law_rows := D__law_rows.kp
  obtain ⟨fd__law_step, D__law_step⟩ := SD.def_ 44 (d := dD "_law_step" st__law_step) rfl
  have b__law_step := L2.FunD.bindsN (ps := ["_law_bag_here", "_law_plain", "_law_placing_here", "_law_space"]) D__law_step fun _ _ _ _ _ _ us hl => match us, hl with | [_, _, _, _], _ => rfl
  have g__law_step := He.glo_ok X G (SD.fact 70 (f := .glo "_law_step") rfl)
  have F__law_step := fun_of (x := "_law_step") (st := st__law_step) D__law_step
  have k__law_step := D__law_step.kp
  obtain ⟨fd__law_right, D__law_right⟩ := SD.def_ 45 (d := dD "_law_right" st__law_right) rfl
  have b__law_right := L2.FunD.bindsN (ps := ["_law_bag_here", "_law_space"]) D__law_right fun _ _ _ _ _ _ us hl => match us, hl with | [_, _], _ => rfl
  have g__law_right := He.glo_ok X G (SD.fact 71 (f := .glo "_law_right") rfl)
  have F__law_right := fun_of (x := "_law_right") (st := st__law_right) D__law_right
  have k__law_right := D__law_right.kp
  obtain ⟨fd_law, D_law⟩ := SD.def_ 46 (d := dD "law" st_law) rfl
  have b_law := L2.FunD.bindsN (ps := ["_law_script"]) D_law fun _ _ _ _ _ _ us hl => match us, hl with | [_], _ => rfl
  have g_law := He.glo_ok X G (SD.fact 72 (f := .glo "law") rfl)
  have F_law := fun_of (x := "law") (st := st_law) D_law
  have k_law := D_law.kp
  have e := hfa.symm.trans g_law
  cases e
  refine ⟨fd_law, fun s u => L2.FunD.bindsA (ps := ["_law_script"]) D_law (fun _ _ _ _ _ _ us hl => match us, hl with | [_], _ => rfl) s [u] rfl, fun base _ _ TB => ?_⟩
  have d_is_whole := Def.mk' (ok_is_whole (P := P) (w := w) (K := K) (mg := mg) (base := base) F_is_whole T) g_is_whole k_is_whole b_is_whole
  have d_is_integer := Def.mk' (ok_is_integer (P := P) (w := w) (K := K) (mg := mg) (base := base) F_is_integer T d_is_whole) g_is_integer k_is_integer b_is_integer
  have d_is_name := Def.mk' (ok_is_name (P := P) (w := w) (K := K) (mg := mg) (base := base) F_is_name T) g_is_name k_is_name b_is_name
  have d_are_names := Def.mk' (ok_are_names (P := P) (w := w) (K := K) (mg := mg) (base := base) F_are_names T d_is_name) g_are_names k_are_names b_are_names
  have d_is_ascending := Def.mk' (ok_is_ascending (P := P) (w := w) (K := K) (mg := mg) (base := base) F_is_ascending T) g_is_ascending k_is_ascending b_is_ascending
  have d_is_lot := Def.mk' (ok_is_lot (P := P) (w := w) (K := K) (mg := mg) (base := base) F_is_lot T d_are_names d_is_ascending) g_is_lot k_is_lot b_is_lot
  have d_is_pair := Def.mk' (ok_is_pair (P := P) (w := w) (K := K) (mg := mg) (base := base) F_is_pair T d_is_lot) g_is_pair k_is_pair b_is_pair
  have d_are_pins := Def.mk' (ok_are_pins (P := P) (w := w) (K := K) (mg := mg) (base := base) F_are_pins T d_are_names) g_are_pins k_are_pins b_are_pins
  have d_are_rods := Def.mk' (ok_are_rods (P := P) (w := w) (K := K) (mg := mg) (base := base) F_are_rods T d_is_pair) g_are_rods k_are_rods b_are_rods
  have d_near_in := Def.mk' (ok_near_in (P := P) (w := w) (K := K) (mg := mg) (base := base) F_near_in T) g_near_in k_near_in b_near_in
  have d_require_frame := Def.mk' (ok_require_frame (P := P) (w := w) (K := K) (mg := mg) (base := base) F_require_frame T R) g_require_frame k_require_frame b_require_frame
  have okI := ok_init (P := P) (w := w) (mg := mg) (base := base) FI T R d_are_pins d_are_rods d_near_in
  have d_are_integers := Def.mk' (ok_are_integers (P := P) (w := w) (K := K) (mg := mg) (base := base) F_are_integers T d_is_integer) g_are_integers k_are_integers b_are_integers
  have d_has_just := Def.mk' (ok_has_just (P := P) (w := w) (K := K) (mg := mg) (base := base) F_has_just T) g_has_just k_has_just b_has_just
  have d_space_by := Def.mk' (ok_space_by (P := P) (w := w) (K := K) (mg := mg) (base := base) F_space_by TB T d_has_just d_are_integers) g_space_by k_space_by b_space_by
  have d_space_in := Def.mk' (ok_space_in (P := P) (w := w) (K := K) (mg := mg) (base := base) F_space_in T R d_space_by) g_space_in k_space_in b_space_in
  have d_require_placing := Def.mk' (ok_require_placing (P := P) (w := w) (K := K) (mg := mg) (base := base) F_require_placing T d_space_in) g_require_placing k_require_placing b_require_placing
  have d_space_alone := Def.mk' (ok_space_alone (P := P) (w := w) (K := K) (mg := mg) (base := base) F_space_alone T d_is_name d_space_by) g_space_alone k_space_alone b_space_alone
  have d_require_alone := Def.mk' (ok_require_alone (P := P) (w := w) (K := K) (mg := mg) (base := base) F_require_alone T d_space_alone) g_require_alone k_require_alone b_require_alone
  have d_square_in := Def.mk' (ok_square_in (P := P) (w := w) (K := K) (mg := mg) (base := base) F_square_in T) g_square_in k_square_in b_square_in
  have d_squares_in := Def.mk' (ok_squares_in (P := P) (w := w) (K := K) (mg := mg) (base := base) F_squares_in T d_square_in) g_squares_in k_squares_in b_squares_in
  have d_squares := Def.mk' (ok_squares (P := P) (w := w) (K := K) (mg := mg) (base := base) F_squares T R d_require_frame d_require_placing d_squares_in) g_squares k_squares b_squares
  have d_are_speeds := Def.mk' (ok_are_speeds (P := P) (w := w) (K := K) (mg := mg) (base := base) F_are_speeds T d_has_just d_are_integers) g_are_speeds k_are_speeds b_are_speeds
  have d_shaken := Def.mk' (ok_shaken (P := P) (w := w) (K := K) (mg := mg) (base := base) F_shaken T d_require_alone d_are_speeds) g_shaken k_shaken b_shaken
  have d_are_alike := Def.mk' (ok_are_alike (P := P) (w := w) (K := K) (mg := mg) (base := base) F_are_alike T d_require_alone d_space_by d_squares_in) g_are_alike k_are_alike b_are_alike
  have d_rows_in := Def.mk' (ok_rows_in (P := P) (w := w) (K := K) (mg := mg) (base := base) F_rows_in T R) g_rows_in k_rows_in b_rows_in
  have d_is_motion := Def.mk' (ok_is_motion (P := P) (w := w) (K := K) (mg := mg) (base := base) F_is_motion T R d_require_frame d_require_placing d_are_speeds d_rows_in) g_is_motion k_is_motion b_is_motion
  have d__law_bag := Def.mk' (ok_bag (P := P) (w := w) (K := K) (mg := mg) (base := base) F__law_bag T) g__law_bag k__law_bag b__law_bag
  have d__law_draw := Def.mk' (ok_draw (P := P) (w := w) (K := K) (mg := mg) (base := base) F__law_draw T) g__law_draw k__law_draw b__law_draw
  have d__law_one_of := Def.mk' (ok_one_of (P := P) (w := w) (K := K) (mg := mg) (base := base) F__law_one_of T d__law_draw) g__law_one_of k__law_one_of b__law_one_of
  have d__law_shuffled := Def.mk' (ok_shuffled (P := P) (w := w) (K := K) (mg := mg) (base := base) F__law_shuffled T d__law_draw) g__law_shuffled k__law_shuffled b__law_shuffled
  have d__law_names := Def.mk' (ok_names (P := P) (w := w) (K := K) (mg := mg) (base := base) F__law_names T d__law_draw d__law_shuffled) g__law_names k__law_names b__law_names
  have d__law_pairs_of := Def.mk' (ok_pairs_of (P := P) (w := w) (K := K) (mg := mg) (base := base) F__law_pairs_of T) g__law_pairs_of k__law_pairs_of b__law_pairs_of
  have d__law_frame_on := Def.mk' (ok_frame_on (P := P) (w := w) (K := K) (mg := mg) (base := base) F__law_frame_on T d__law_draw d__law_pairs_of) g__law_frame_on k__law_frame_on b__law_frame_on
  have d__law_frame := Def.mk' (ok_frame (P := P) (w := w) (K := K) (mg := mg) (base := base) F__law_frame T d__law_draw d__law_names d__law_frame_on) g__law_frame k__law_frame b__law_frame
  have d__law_spot := Def.mk' (ok_spot (P := P) (w := w) (K := K) (mg := mg) (base := base) F__law_spot T d__law_draw) g__law_spot k__law_spot b__law_spot
  have d__law_placing := Def.mk' (ok_placing (P := P) (w := w) (K := K) (mg := mg) (base := base) F__law_placing T d__law_spot) g__law_placing k__law_placing b__law_placing
  have d__law_divisor := Def.mk' (ok_divisor (P := P) (w := w) (K := K) (mg := mg) (base := base) F__law_divisor T) g__law_divisor k__law_divisor b__law_divisor
  have d__law_cleared := Def.mk' (ok_cleared (P := P) (w := w) (K := K) (mg := mg) (base := base) F__law_cleared T d__law_divisor) g__law_cleared k__law_cleared b__law_cleared
  have d__law_less := Def.mk' (ok_less (P := P) (w := w) (K := K) (mg := mg) (base := base) F__law_less T d__law_cleared) g__law_less k__law_less b__law_less
  have d__law_leads := Def.mk' (ok_leads (P := P) (w := w) (K := K) (mg := mg) (base := base) F__law_leads T d__law_less) g__law_leads k__law_leads b__law_leads
  have d__law_kernel := Def.mk' (ok_kernel (P := P) (w := w) (K := K) (mg := mg) (base := base) F__law_kernel T d__law_leads d__law_divisor d__law_cleared) g__law_kernel k__law_kernel b__law_kernel
  have d__law_pace := Def.mk' (ok_pace (P := P) (w := w) (K := K) (mg := mg) (base := base) F__law_pace T) g__law_pace k__law_pace b__law_pace
  have d__law_rows := Def.mk' (ok_lrows (P := P) (w := w) (K := K) (mg := mg) (base := base) F__law_rows T) g__law_rows k__law_rows b__law_rows
  have d__law_step := Def.mk' (ok_step (P := P) (w := w) (K := K) (mg := mg) (base := base) F__law_step T d__law_draw d__law_placing d__law_rows d__law_kernel) g__law_step k__law_step b__law_step
  have d__law_right := Def.mk' (ok_right (P := P) (w := w) (K := K) (mg := mg) (base := base) F__law_right T MK okI bI d__law_frame d__law_one_of d__law_placing d__law_step d__law_shuffled d_shaken d_squares d__law_pace d_is_motion d__law_pairs_of d_are_alike) g__law_right k__law_right b__law_right
  exact ok_law (P := P) (w := w) (K := K) (mg := mg) (base := base) F_law T d__law_bag d__law_right d__law_draw d_shaken d_are_alike
end K14
set_option maxHeartbeats 0
/-! the head: the run; the end -/
namespace K14
open PySem L2 RZ GxR
open PySem.Spec PyProof.Rows
def loose0 : List Str := ["_wall", "__name__", "FrameError", "InvalidFrame", "InvalidPlacing", "InvalidOperation", "TooMany", "MAX_LETTERS", "LETTERS", "FIFTY_DIGITS", "BEYOND", "is_whole", "is_integer", "is_name", "are_names", "is_ascending", "is_lot", "is_pair", "MAX_PINS", "are_pins"]
def loose1 : List Str := ["are_rods", "near_in", "Frame", "require_frame", "LINE", "PLANE", "are_integers", "has_just", "space_by", "space_in", "space_alone", "require_placing", "require_alone", "square_in", "squares_in", "squares", "are_alike", "rows_in", "are_speeds", "is_motion"]
def loose2 : List Str := ["shaken", "_law_bag", "_law_draw", "_law_one_of", "_law_shuffled", "_law_names", "_law_pairs_of", "_law_frame_on", "_law_frame", "_law_spot", "_law_placing", "_law_divisor", "_law_cleared", "_law_less", "_law_leads", "_law_kernel", "_law_rows", "_law_pace", "_law_step", "_law_right"]
def looseAll : List Str := loose0 ++ loose1 ++ loose2
abbrev R0 : PySem.W.OpenRow := PySem.W.OpenLaw.row PySem.Challenge.rw_lengthstell_k14_whole_shaken_placings
abbrev hk : PySem.W.Hook := He.hookX 6 faAll fnAll [] tfAll exB
def ob (s : PySem.W.SharedT) : He.AlX := He.obsX 6 faAll fnAll [] tfAll exB (HandSHeadRun.getT s)
theorem ob_eq (s : PySem.W.SharedT) : ob s = hk.obs s.abs := He.obsX_eq (HandSHeadRun.getT_eq s)
theorem run (w : World) : HandSHeadRun.RunEq R0 (PySem.W.view R0.prog [64]) hk ob 4000 looseAll w := by
  intro os
  kernel_rfl
end K14
set_option maxHeartbeats 0
open PySem PySem.W PySem.Calls PyProof.Rows
theorem PySem.Challenge.cw_lengthstell_k14_whole_shaken_placings_holds : PySem.Challenge.rw_lengthstell_k14_whole_shaken_placings.Holds := by
  w_on; o_law
  refine HandSHeadRun.head_any (r := OpenLaw.row PySem.Challenge.rw_lengthstell_k14_whole_shaken_placings) (q := view (OpenLaw.row PySem.Challenge.rw_lengthstell_k14_whole_shaken_placings).prog [64]) (H := K14.hk) (ob := K14.ob) (M := 4000) (loose := K14.looseAll) (d := HandSHeadRun.topDef (OpenLaw.row PySem.Challenge.rw_lengthstell_k14_whole_shaken_placings).prog 64) (kwd := []) K14.ob_eq
    (by kernel_rfl) (fun s => by kernel_rfl) K14.run (by kernel_rfl) (by kernel_rfl) (by kernel_rfl) (by rfl) (by first | assumption | decide +kernel) (by decide +kernel) ⟨rfl, rfl, rfl, rfl, rfl, by decide +kernel⟩ ?hw ?hc
  case hw => w_witness2
  case hc =>
    refine LamX.walk_ofTsE (l := PySem.Challenge.rw_lengthstell_k14_whole_shaken_placings) (n := 63) (k := 12) (x := "_law_script") (CX := fun _ => L2.CX0) rfl (by decide) (by kernel_rfl) ⟨rfl, by decide, by decide⟩ ?F (fun _ _ _ _ _ z => z)
    intro w mg fa h Y G hmg0
    obtain ⟨K, KX, c⟩ := Y
    have hmg : mg ("law" : PySem.Str) = some (.ref fa) := by
      have e : (HandSHeadRun.topDef (OpenLaw.row PySem.Challenge.rw_lengthstell_k14_whole_shaken_placings).prog 64).name = ("law" : PySem.Str) := by kernel_rfl
      rw [← e]
      exact hmg0
    obtain ⟨fd, hb, hF⟩ := K14.all_mk (P := (PySem.Challenge.rw_lengthstell_k14_whole_shaken_placings).prog) (w := w) KX G hmg c
    have one : ∀ p ∈ [He.cT K ("space_by", none)], p = He.cT K ("space_by", none) := fun p hp => List.mem_singleton.mp hp
    have inT : (("space_by" : PySem.Str), (none : Option PySem.Str)) ∈ K14.tfAll := List.mem_cons_self
    refine ⟨K, KX, fd, [He.cT K ("space_by", none)], K14.spLaw K (He.cT K ("space_by", none)).2, fun p hp => ?_, fun p hp => ?_, fun p hp => ?_, hb, fun H a ns hl _ hT hS => ⟨a, ns, rfl, hS, hl, ⟨#[], hT _ List.mem_cons_self, by first | trivial | exact .nil | (intro x hx; cases hx) | constructor⟩, fun _ => rfl⟩, fun base h1 h2 h3 => hF base h1 h2 ?_⟩
    · rw [one p hp]
      exact c.empty _ inT
    · rw [one p hp]
      exact c.out _ inT
    · rw [one p hp]
      exact PySem.W.codeHd_of_K KX (c.hd _ inT)
    · have t := h3 _ List.mem_cons_self
      exact ⟨t.code, t.bm, t.gP⟩
