import PyProof.Rows.All
import Wide.All
import OpenK.AllK
import Wide.FinOn
import HandS.ForMost
import HandS.Flow
import HandS.Walk
import HandS.Zip
import HandS.TupAny
import HandS.Strs
import HandS.SetFor
import HandS.Deep
import HandS.IsInst
import HandS.Evl
import KE.KDictPairs
import KE.KEqSeq
import PySem.Challenge.RW_wholeglance_k26_whole_steps_at_most
set_option Elab.async false
set_option linter.all false
set_option maxRecDepth 100000
set_option maxHeartbeats 4000000
namespace Wg
open PySem PySem.Spec PyProof.Rows L2

/-! ### dict(list of pairs), the keys tuples -/
def mergeT (kvs more : List (List Key × V)) : List (List Key × V) := more.foldl (fun acc kv => putK acc kv.1 kv.2) kvs

theorem kt_merge {H : Hp} : ∀ {more : List (List Key × V)} {rs : List (List Key × Addr × Value)} {kvs : List (List Key × V)} {vs : List (List Key × Addr × Value)},
    KT H more rs → KT H kvs vs → KT H (mergeT kvs more) (storedAllH vs rs)
  | _, _, _, _, .nil, q => q
  | m :: ms, r :: rt, _, _, .cons h t, q => by
    obtain ⟨e1, e2, e3⟩ := h
    have st := KT.put q m.1 (b := r.2.1) e2 e3
    rw [e1] at st
    have fin := kt_merge t st
    show KT H (mergeT (putK _ m.1 m.2) ms) (storedAllH (storedH _ r.1 r.2.1 r.2.2) rt)
    rw [e1]
    exact fin

theorem len_mergeT : ∀ (more kvs : List (List Key × V)), (mergeT kvs more).length ≤ kvs.length + more.length
  | [], kvs => Nat.le_refl _
  | p :: r, kvs => by
    have h1 := len_mergeT r (putK kvs p.1 p.2)
    have h2 := length_putK kvs p.1 p.2
    show (mergeT (putK kvs p.1 p.2) r).length ≤ kvs.length + (r.length + 1)
    omega

section
variable {X : Cx}
theorem trips_of {pins : List (Addr × Obj)} {σ : L2.St} {H : Hp} {s : Shared} (I : Inv X pins σ H s) : ∀ {ps : List (Addr × Addr)} {kvs : List (List Key × V)},
    Paired (fun p kv => H p.1 = some (.tup [.ref p.2, kv.2]) ∧ H p.2 = some (.tup (kv.1.map kV))) ps kvs →
    ∃ ts : List (List Key × Addr × Value), KT H kvs ts ∧ ts.length = ps.length ∧
      ∀ (j : Nat) (t : List Key × Addr × Value), ts[j]? = some t → ∃ p, ps[j]? = some p ∧ t.2.1 = p.2 ∧ H p.2 = some (.tup (t.1.map kV)) ∧ IsTup s.heap p.1 #[.ref t.2.1, t.2.2]
  | _, _, .nil => ⟨[], .nil, rfl, fun j t e => by simp at e⟩
  | p :: _, kv :: _, .cons h t => by
    obtain ⟨ts, r, hl, hp⟩ := trips_of I t
    obtain ⟨its, rv, ht, _⟩ := I.tuple (SqT.of h.1)
    obtain ⟨u, y, ei, ru, ry⟩ := vals2 rv
    subst ei
    cases ru
    refine ⟨(kv.1, p.2, y) :: ts, .cons ⟨rfl, h.2, ry⟩ r, by rw [List.length_cons, List.length_cons, hl], fun j q e => ?_⟩
    cases j with
    | zero =>
      have e' : (kv.1, p.2, y) = q := Option.some.inj e
      subst e'
      exact ⟨p, rfl, rfl, h.2, ht⟩
    | succ j =>
      obtain ⟨p', e1, e2, e3, e4⟩ := hp j q (by simpa using e)
      exact ⟨p', by simpa using e1, e2, e3, e4⟩

theorem call_dictT (hcalm : X.calm = true) (hu : X.A.units + 64 < cLine) : CallR X (.type "dict") (fun xs H Q => ∃ (a : Addr) (ps : List (Addr × Addr)) (kvs : List (List Key × V)),
    xs = [.ref a] ∧ H a = some (.lst (ps.map fun p => V.ref p.1)) ∧ Paired (fun p kv => H p.1 = some (.tup [.ref p.2, kv.2]) ∧ H p.2 = some (.tup (kv.1.map kV))) ps kvs ∧
    ∀ p, H p = none → Q (.ref p) (upd H p (.dT (mergeT [] kvs)))) := by
  intro pins s σ H xs us Q I r q
  obtain ⟨a, ps, kvs, ex, hq, hp, q⟩ := q
  subst ex
  obtain ⟨u, eu, rx⟩ := vals1 r
  subst eu
  cases rx
  obtain ⟨its, rv, pl, hz⟩ := I.list (SqL.of hq)
  have ei : its = (ps.map (fun p : Addr × Addr => p.1)).map Value.ref := refs_at (by rw [List.map_map]; exact rv)
  subst ei
  rw [List.length_map] at hz
  obtain ⟨ts, rel, hl, hpr⟩ := trips_of I hp
  obtain ⟨o, n, ho, hc, hd, hdat⟩ := pl
  have hkl : kvs.length = ts.length := Paired.length rel
  let pvs : List (Value × Value) := ts.map fun t => (Value.ref t.2.1, t.2.2)
  have hpl : pvs.length = ts.length := by simp [pvs]
  have at_ : ∀ (j : Nat) (k v : Value), pvs[j]? = some (k, v) → ∃ t, ts[j]? = some t ∧ k = .ref t.2.1 ∧ v = t.2.2 := fun j k v e => by
    rw [List.getElem?_map] at e
    cases et : ts[j]? with
    | none => rw [et] at e; cases e
    | some t =>
      rw [et] at e
      have e' := Option.some.inj e
      exact ⟨t, rfl, (congrArg Prod.fst e').symm, (congrArg Prod.snd e').symm⟩
  have P := PairArg.list (prog := X.prog) (w := X.w) a (((ps.map fun p : Addr × Addr => p.1).map Value.ref).toArray) (fun j => (ps.map fun p : Addr × Addr => p.1).getD j 0) pvs
  refine call_dict_pairsH (knd := tupleKind (mixKind X.prog X.w)) (ps := ts) P (I.ok.hd hcalm) (show X.A.in1.in1.units < cLine by show X.A.units + 1 + 1 < cLine; omega) ⟨⟨o, n, ho, hc, hd, hdat⟩, ?_, fun j k v e => ?_⟩ ⟨hpl.symm, fun i key v e => ?_⟩ (fun h' hk x hx => ?_) (by rw [hpl, hl]; exact hz) fun h' tk hd' k => ?_
  · simp [hpl, hl]
  · obtain ⟨t, et, rfl, rfl⟩ := at_ j k v e
    obtain ⟨p, e1, e2, e3, e4⟩ := hpr j t et
    have e5 : (ps.map fun p : Addr × Addr => p.1).getD j 0 = p.1 := by
      rw [List.getD_eq_getElem?_getD, List.getElem?_map, e1]
      rfl
    refine ⟨?_, .inl ?_⟩
    · simp [e1]
    · show IsTup s.heap ((ps.map fun p : Addr × Addr => p.1).getD j 0) _
      rw [e5]
      exact e4
  · obtain ⟨t, et, rfl, rfl⟩ := at_ i key v e
    exact ⟨t.1, t.2.1, et, rfl⟩
  · obtain ⟨j, hj, ej⟩ := List.getElem_of_mem hx
    obtain ⟨p, e1, e2, e3, e4⟩ := hpr j x (by rw [List.getElem?_eq_getElem hj, ej])
    rw [← e2] at e3
    obtain ⟨o', its', n', g1, g2, g3, g4⟩ := key_of (P := X.prog) (w := X.w) I.hok e3
    exact ⟨o', its', n', hk _ _ (Nat.ne_of_lt (Heap.lt_size g1)) (fun z => nomatch z) g1, g2, g3, g4⟩
  · have hm : (s.heap.objs.size == sysModules) = false := beq_eq_false_iff_ne.mpr (Nat.ne_of_gt I.big)
    have hlen : (mergeT [] kvs).length ≤ sizeLine := by
      refine Nat.le_trans (len_mergeT kvs []) ?_
      rw [List.length_nil, Nat.zero_add, hkl, hl]
      exact hz
    have hn : H s.heap.objs.size = none := I.hok.fresh (Nat.le_refl _)
    obtain ⟨o2, es, ep, f1, f2, f3, f4, _, f5⟩ := hd'
    refine ⟨.ref s.heap.objs.size, upd H s.heap.objs.size (.dT (mergeT [] kvs)), I.laid (t' := tk) (fun b ob e => k b ob (fun z => nomatch z) e) (Nat.le_refl _) ?_, rfl, q _ hn⟩
    refine ⟨hlen, hm, storedAllH [] ts, (kt_merge rel .nil).keeps fun b ys e => ?_, o2, es, ep, f1, f2, f3, f4, f5⟩
    rw [upd_ne (ne_of_none e hn)]
    exact e

/-! ### x not in a tuple of data -/
def rNotInT (K : PySem.W.Frag) : R2 := fun x y H Q => ∃ d ds, Dp K H x d ∧ Dp K H y (.tuple ds) ∧ SeqAt.shaped d = true ∧ SeqAt.shaped (.list ds) = true ∧ Q (.bl (!ds.any fun z => PyData.eqv z d)) H
theorem op_notInT (hu : X.A.units + 65 < cLine) : OpR X (compareOp .NotIn) (rNotInT X.K) := by
  intro pins s σ H x y v u Q I rx ry h
  obtain ⟨d, ds, hd, he, sd, se, q⟩ := h
  obtain ⟨as, r1⟩ := Dp.reads I d x v hd rx
  obtain ⟨bs, r2⟩ := Dp.reads I (.tuple ds) y u he ry
  have c1 := SeqAt.canLay_of_shaped se
  have c2 := SeqAt.canLay_of_shaped sd
  exact SeqAt.notIn_tuple_reads r2 r1 c1 c2 (PyProof.Rows.room_in_shaped sd hu) ⟨.bl _, H, I, rfl, q⟩
end
end Wg
set_option Elab.async false
set_option linter.all false
set_option maxRecDepth 100000
set_option maxHeartbeats 8000000
namespace Wg
open PySem PySem.Spec PyProof.Rows L2

/-! ### set(l) of a list of ints -/
section
variable {P : Program} {w : World} {A : Around} {E : Value → Shared → Prop} {s : Shared}
abbrev set0 (w : World) : Obj := { cls := .type "set", dict := none, data := .set #[] 0 (.fresh 0 0 (!w.params.followText "set-order")) }
theorem call_set_listI {l : Addr} {items : Array Value} (ns : List Int) {Q : Value → Shared → Prop} (hh : A.handled = none) (hl : s.heap.IsList l items) (hit : IntsAre items.toList ns) (hb : ns.length + 1 < scanBound)
    (h : ∀ (h' : Heap) (tk c : Nat), SetR w h' s.heap.objs.size (fun j => decide (j ∈ ns)) c → c ≤ ns.length → (∀ b o, s.heap.get? b = some o → h'.get? b = some o) → Q (.ref s.heap.objs.size) { s with heap := h', toks := tk }) :
    wpAny (model P w) A (call (.type "set") [.ref l]) Q E s := by
  have hisz : items.size = ns.length := by
    have q := IntsAre.length hit
    rw [Array.length_toList] at q
    exact q
  obtain ⟨c, tl, hmro⟩ := PySem.F.called_set.mro
  have hmade := PySem.F.called_set.made
  have hsub := PySem.F.called_set.sub
  refine wpAny_call (codeAny_of_tree ?_)
  show wpAny _ _ (callAny (.type "set") _) _ _ _
  refine wpAny_pure ⟨Code.quiet_builtin _ (by decide +kernel), codeAny_builtin PySem.F.entry_type_call ?_⟩
  rw [Around.under_plain (weight_type_call_type "set" [.ref l] []) rfl]
  have h1 := PySem.F.called_set.notType
  have h2 := PySem.F.called_set.canCreate
  have hct := PySem.F.typeCall_set_1 (.ref l)
  repeat (any_goals (first | assumption | wp_step))
  refine codeAny_mono (code_set_led1 (.ref l) (E := E) (Q₁ := fun obj t => obj = .ref s.heap.objs.size ∧ t = { s with heap := s.heap.push (set0 w) }) ⟨rfl, rfl⟩) fun r t hr => ?_
  rcases r with e | fl
  · exact hr
  · cases fl with
    | ret obj =>
      obtain ⟨rfl, rfl⟩ := hr
      have hS : (s.heap.push (set0 w)).get? s.heap.objs.size = some (set0 w) := Heap.get?_push_size _ rfl
      have hT : Shared.TypeIs { s with heap := s.heap.push (set0 w) } (.ref s.heap.objs.size) "set" := ⟨_, hS, rfl⟩
      have hli := PySem.F.called_set.init.lookup
      have hbi := PySem.F.called_set.init.bind (.ref s.heap.objs.size)
      repeat (any_goals (first | assumption | wp_step))
      refine codeAny_mono (codeAny_call_builtin (R := wants (fun r t => r = .none ∧ ∃ h' tk c, t = { s with heap := h', toks := tk } ∧ SetR w h' s.heap.objs.size (fun j => decide (j ∈ ns)) c ∧ c ≤ ns.length ∧
          (∀ b o, s.heap.get? b = some o → h'.get? b = some o)) E) PySem.F.called_set.init.plain PySem.F.entry_set_init (check_set_init_1 hT ?_)) fun r₂ t hr₂ => ?_
      · obtain ⟨⟨ocls, odict, odata, oslots⟩, hol, hcl, nl, hdl⟩ := hl
        simp only at hcl hdl
        subst hcl hdl
        have hol' : (s.heap.push (set0 w)).get? l = some { cls := .type "list", dict := odict, data := .seq items nl, slots := oslots } := Heap.get?_push_of_some _ hol
        have hsls := PySem.F.sub_list_set
        have hslf := PySem.F.sub_list_frozenset
        have hne : (Value.type "list" == Value.type "dict") = false := by decide
        have hl1 : (s.heap.push (set0 w)).IsList l items := ⟨_, hol', rfl, nl, rfl⟩
        unfold Builtin.«set.__init__» noKeywords Builtin.Frozenset.updateFrom
        generalize hPI : pyIter = PI
        wp_walk
        subst hPI
        refine wpAny_pyIter_list hl1 ?_
        refine wpAny_bind (wpAny_runValue ?_)
        have hlS : l < s.heap.objs.size := Heap.lt_size hol
        have hh3 : A.in1.in1.in1.handled = none := by simp [hh]
        have hneI : l ≠ (s.heap.push (set0 w)).objs.size := by
          rw [Heap.size_push]; exact Nat.ne_of_lt (Nat.lt_succ_of_lt hlS)
        have hSf : s.heap.objs.size ∉ [(s.heap.push (set0 w)).objs.size, l] := by
          rw [Heap.size_push]
          simp only [List.mem_cons, List.mem_singleton, List.not_mem_nil, or_false, not_or]
          exact ⟨Nat.ne_of_lt (Nat.lt_succ_self _), Nat.ne_of_gt hlS⟩
        have hval : ∀ (i : Nat) (v : Value), items[i]? = some v → ∃ k t, ns[i]? = some k ∧ v = .int k t := fun i v hv => by
          have hi : i < ns.length := by rw [← hisz]; exact (Array.getElem?_eq_some_iff.mp hv).1
          obtain ⟨t, e⟩ := PyProof.Rows.IntsAre.int_at hit i v (by rw [Array.getElem?_toList]; exact hv)
          refine ⟨ns[i], t, List.getElem?_eq_getElem hi, ?_⟩
          rw [e, List.getD_eq_getElem?_getD, List.getElem?_eq_getElem hi] <;> rfl
        refine set_update_ints ((Walks.list hh3 _ l hneI items).toS) s.heap.objs.size
          hSf ns hisz hb hval (items.size - 0) 0 _ (by omega) (Nat.zero_le _)
          ⟨⟨_, Heap.get?_push_size _ rfl, rfl, rfl⟩, (hl1.push _)⟩ ?hS0 ?hR
        case hS0 =>
          have hget : ((s.heap.push (set0 w)).push { cls := .type "list_iterator", data := .fields #[.ref l, .int 0 0] }).get? s.heap.objs.size = some (set0 w) := Heap.get?_push_of_some _ hS
          exact ⟨0, Nat.le_refl 0, setR_new_at hget⟩
        case hR =>
          intro s' c' hm hc' hS'
          obtain ⟨h', g2, d', tk', os'⟩ := s'
          have eg : g2 = s.gens := hm.gens
          have ed : d' = s.drawn := hm.drawn
          have eo : os' = s.os := hm.os
          subst eg ed eo
          show wpAny _ _ _ _ _ _
          refine wpAny_pure ?_
          show wpAny _ _ (ret Value.none) _ _ _
          rw [hisz] at hc'
          refine wpAny_pure ⟨rfl, h', tk', c', rfl, hS', hc', fun b o e => ?_⟩
          have hb0 : b < s.heap.objs.size := Heap.lt_size e
          have hb1 : b ≠ s.heap.objs.size := Nat.ne_of_lt hb0
          have hb2 : b ≠ (s.heap.push (set0 w)).objs.size := by
            rw [Heap.size_push]; exact Nat.ne_of_lt (Nat.lt_succ_of_lt hb0)
          refine hm.heap b o ?_ (Heap.get?_push_of_some _ (Heap.get?_push_of_some _ e))
          simp only [List.mem_cons, List.mem_singleton, List.not_mem_nil, or_false, not_or]
          exact ⟨hb1, hb2⟩
      · rcases r₂ with e | fl₂
        · exact hr₂
        · cases fl₂ with
          | ret r =>
            obtain ⟨rfl, h', tk, c', rfl, hS', hc', hk'⟩ := hr₂
            repeat (any_goals (first | assumption | wp_step))
            exact h _ _ _ hS' hc' hk'
          | _ => exact hr₂.elim
    | _ => exact hr.elim
end
section
variable {X : Cx}
def rSetL (K : PySem.W.Frag) (w : World) : List V → Hp → VK → Prop := fun vs H Q => ∃ (a : Addr) (ns : List Int), vs = [V.ref a] ∧ SqL K H a (ns.map V.int) ∧ ns.length ≤ 1000 ∧
  ∀ p c, H p = none → c ≤ ns.length → Q (.ref p) (upd H p (SetO w p (fun j => decide (j ∈ ns)) c))
theorem cr_setL (hc : X.calm = true) : CallR X (.type "set") (rSetL X.K X.w) := by
  intro pins s σ H xs us Q I r q
  obtain ⟨a, ns, rfl, hq, hz, q⟩ := q
  rw [Vals.ref1 r]
  obtain ⟨its, rv, pl, _⟩ := I.list hq
  have hn : H s.heap.objs.size = none := I.hok.fresh (Nat.le_refl _)
  refine call_set_listI ns (I.ok.hd hc) pl.isList (by simpa using ints_of_vals rv) (by unfold scanBound; omega) fun h' tk c R hcl k => ?_
  exact ⟨.ref s.heap.objs.size, upd H s.heap.objs.size (SetO X.w s.heap.objs.size (fun j => decide (j ∈ ns)) c), I.laid (t' := tk) k (Nat.le_refl _) (setO_new R), rfl, q _ c hn hcl⟩
end
end Wg
set_option Elab.async false
set_option linter.all false
set_option maxRecDepth 100000
set_option maxHeartbeats 4000000
namespace Wg
open PySem L2
open PyProof.Rows hiding St

/-! ### frames -/
/-- all but h stays -/
def Fh (h : Addr) (H H' : Hp) : Prop := ∀ a o, a ≠ h → H a = some o → H' a = some o
/-- the tuples stay -/
def Tx (H H' : Hp) : Prop := ∀ a xs, H a = some (.tup xs) → H' a = some (.tup xs)
section
variable {H H' H'' : Hp} {h a p : Addr} {o : HO} {xs : List V}
theorem Tx.refl (H : Hp) : Tx H H := fun _ _ e => e
theorem Tx.trans (a : Tx H H') (b : Tx H' H'') : Tx H H'' := fun c o e => b c o (a c o e)
theorem tx_same (e : Same H H') : Tx H H' := fun a xs q => e a _ q
theorem fh_same (e : Same H H') : Fh h H H' := fun a o _ q => e a o q
theorem Fh.refl (h : Addr) (H : Hp) : Fh h H H := fun _ _ _ e => e
theorem Fh.trans (a : Fh h H H') (b : Fh h H' H'') : Fh h H H'' := fun c o n e => b c o n (a c o n e)
theorem Fh.tx (f : Fh h H H') (hh : H h = some (.lst xs)) : Tx H H' := fun a ys e => f a _ (ne_of e hh (fun z => nomatch z)) e
theorem same_new (hp : H p = none) : Same H (upd H p o) := fun b x e => by
  rw [upd_ne (ne_of_none e hp)]
  exact e
theorem same_at (e : Same H H') (q : H a = some o) : H' a = some o := e a o q
theorem tx_at (e : Tx H H') (q : H a = some (.tup xs)) : H' a = some (.tup xs) := e a xs q
theorem same_step (b : Same H' H'') (a : Same H H') : Same H H'' := a.trans b
theorem tx_step (b : Tx H' H'') (a : Tx H H') : Tx H H'' := a.trans b
theorem tx_stepS (b : Same H' H'') (a : Tx H H') : Tx H H'' := a.trans (tx_same b)
theorem fh_step (b : Fh h H' H'') (a : Fh h H H') : Fh h H H'' := a.trans b
theorem fh_stepS (b : Same H' H'') (a : Fh h H H') : Fh h H H'' := a.trans (fh_same b)
theorem free_back (e : Same H H') (q : H' p = none) : H p = none := e.free q
end

/-! ### readings, one step at a time; the heap behind a new object is told by what is known of it -/
section
variable {K : PySem.W.Frag} {σ : L2.St} {H : Hp} {Q : VK} {QA : List V → Hp → Prop} {QT : Bool → Hp → Prop} {ta tb te to ti tv : TE} {tr t : TA} {tt uu : TT} {x y v : V} {r : R2} {D : Ends} {t1 t2 : TS} {g : TG} {E : XK} {sp : Sp}
theorem r_var {i : Nat} (h : σ[i]? = some (some v)) (k : Q v H) : tVar i σ H Q := ⟨v, h, k⟩
theorem r_c (k : Q v H) : tC v σ H Q := k
theorem r_op (k : ta σ H fun x H1 => tb σ H1 fun y H2 => r x y H2 Q) : tOp r ta tb σ H Q := k
theorem r_un {ru : V → Hp → VK → Prop} (k : ta σ H fun x H1 => ru x H1 Q) : tUn ru ta σ H Q := k
theorem r_I0 {f : Int → Int → V} {i j : Int} (k : Q (f i j) H) : rI0 f (.int i) (.int j) H Q := ⟨i, j, rfl, rfl, k⟩
theorem r_I {C : Int → Int → Prop} {f : Int → Int → V} {i j : Int} (hc : C i j) (k : Q (f i j) H) : rI C f (.int i) (.int j) H Q := ⟨i, j, rfl, rfl, hc, k⟩
theorem r_U {f : Int → V} {i : Int} (k : Q (f i) H) : rU f (.int i) H Q := ⟨i, rfl, k⟩
theorem r_eq (hs : scal x y = true) (k : Q (.bl (decide (x = y))) H) : rEq x y H Q := ⟨hs, k⟩
theorem r_ne (hs : scal x y = true) (k : Q (.bl (!decide (x = y))) H) : rNe x y H Q := ⟨hs, k⟩
theorem r_ixT {p : Addr} {xs : List V} {i : Int} (h : H p = some (.tup xs)) (ha : atI xs i = some v) (k : Q v H) : rIxT K (.ref p) (.int i) H Q := ⟨p, xs, i, v, rfl, rfl, SqT.of h, ha, k⟩
theorem r_ixL {p : Addr} {xs : List V} {i : Int} (h : H p = some (.lst xs)) (ha : atI xs i = some v) (k : Q v H) : rIxL K (.ref p) (.int i) H Q := ⟨p, xs, i, v, rfl, rfl, SqL.of h, ha, k⟩
theorem r_nil (k : QA [] H) : tNil σ H QA := k
def kCons (tr : TA) (σ : L2.St) (QA : List V → Hp → Prop) : VK := fun x H1 => tr σ H1 fun xs H2 => QA (x :: xs) H2
theorem r_cons (k : ta σ H (kCons tr σ QA)) : tCons ta tr σ H QA := k
theorem r_kCons (k : tr σ H fun xs H2 => QA (x :: xs) H2) : kCons tr σ QA x H := k
def kTup (Q : VK) : List V → Hp → Prop := fun xs H1 => xs.length ≤ sizeLine ∧ ∀ p, H1 p = none → Q (.ref p) (upd H1 p (.tup xs))
def kLst (Q : VK) : List V → Hp → Prop := fun xs H1 => xs.length ≤ sizeLine ∧ ∀ p, H1 p = none → Q (.ref p) (upd H1 p (.lst xs))
theorem r_tup (k : t σ H (kTup Q)) : tTup t σ H Q := k
theorem r_lst (k : t σ H (kLst Q)) : tLst t σ H Q := k
theorem r_kTup {xs : List V} (k : ∀ p H', Same H H' → H p = none → H' p = some (.tup xs) → Q (.ref p) H') (hl : xs.length ≤ 1000 := by simp) : kTup Q xs H :=
  ⟨Nat.le_of_lt (small1000 hl), fun p hp => k p _ (same_new hp) hp upd_same⟩
theorem r_kLst {xs : List V} (k : ∀ p H', Same H H' → H p = none → H' p = some (.lst xs) → Q (.ref p) H') (hl : xs.length ≤ 1000 := by simp) : kLst Q xs H :=
  ⟨Nat.le_of_lt (small1000 hl), fun p hp => k p _ (same_new hp) hp upd_same⟩
/-- for what is new: a continuation that must hold at each free place -/
theorem r_new {o : HO} {F : Addr → Hp → Prop} (k : ∀ p H', Same H H' → H p = none → H' p = some o → F p H') : ∀ p, H p = none → F p (upd H p o) := fun p hp => k p _ (same_new hp) hp upd_same
/-! tests -/
def kTest (Q : Bool → Hp → Prop) : VK := fun x H' => ∃ k, x = .bl k ∧ Q k H'
theorem r_test (k : ta σ H (kTest QT)) : tTest ta σ H QT := k
theorem r_B (k : ta σ H (kTest QT)) : tB ta σ H QT := k
theorem r_kTest {b : Bool} (k : QT b H) : kTest QT (.bl b) H := ⟨b, rfl, k⟩
def kAnd (uu : TT) (σ : L2.St) (QT : Bool → Hp → Prop) : Bool → Hp → Prop := fun c H1 => if c = true then uu σ H1 QT else QT false H1
def kOr (uu : TT) (σ : L2.St) (QT : Bool → Hp → Prop) : Bool → Hp → Prop := fun c H1 => if c = true then QT true H1 else uu σ H1 QT
theorem r_and (k : tt σ H (kAnd uu σ QT)) : tAnd tt uu σ H QT := k
theorem r_or (k : tt σ H (kOr uu σ QT)) : tOr tt uu σ H QT := k
theorem r_kAnd {b : Bool} (h1 : b = true → uu σ H QT) (h2 : b = false → QT false H) : kAnd uu σ QT b H := by
  cases b with
  | true => exact h1 rfl
  | false => exact h2 rfl
theorem r_kOr {b : Bool} (h1 : b = true → QT true H) (h2 : b = false → uu σ H QT) : kOr uu σ QT b H := by
  cases b with
  | true => exact h1 rfl
  | false => exact h2 rfl
def kIfE (ta tb : TE) (σ : L2.St) (Q : VK) : Bool → Hp → Prop := fun c H1 => if c = true then ta σ H1 Q else tb σ H1 Q
theorem r_ifE (k : tt σ H (kIfE ta tb σ Q)) : tIf tt ta tb σ H Q := k
theorem r_kIfE {b : Bool} (h1 : b = true → ta σ H Q) (h2 : b = false → tb σ H Q) : kIfE ta tb σ Q b H := by
  cases b with
  | true => exact h1 rfl
  | false => exact h2 rfl
theorem r_yes (k : QT true H) : tYes σ H QT := k
/-! statements -/
theorem r_seq (k : t1 { D with nx := t2 D } σ H) : tSeq t1 t2 D σ H := k
theorem r_next (k : D.nx σ H) : tNext D σ H := k
theorem r_brk (k : D.bk σ H) : tBreak D σ H := k
def kAsg (g : TG) (D : Ends) (σ : L2.St) : VK := fun x H1 => g x σ H1 D.nx
theorem r_asg (k : te σ H (kAsg g D σ)) : tAsg te g D σ H := k
theorem r_kName {i : Nat} (k : D.nx (σ.set i (some x)) H) : kAsg (gName i) D σ x H := k
theorem r_kAsg (k : g x σ H D.nx) : kAsg g D σ x H := k
theorem r_gName {i : Nat} {QS : L2.St → Hp → Prop} (k : QS (σ.set i (some x)) H) : gName i x σ H QS := k
theorem r_gTup {n : Nat} {tgs : TGs} {a : Addr} {xs : List V} {QS : L2.St → Hp → Prop} (h : H a = some (.tup xs)) (hl : xs.length = n) (k : tgs xs σ H QS) : gTup K n tgs (.ref a) σ H QS := ⟨a, xs, rfl, SqT.of h, hl, k⟩
def kG (tgs : TGs) (xs : List V) (QS : L2.St → Hp → Prop) : L2.St → Hp → Prop := fun σ' H' => tgs xs σ' H' QS
theorem r_gCons {tgs : TGs} {xs : List V} {QS : L2.St → Hp → Prop} (k : g x σ H (kG tgs xs QS)) : gCons g tgs (x :: xs) σ H QS := ⟨x, xs, rfl, k⟩
theorem r_kG {tgs : TGs} {xs : List V} {QS : L2.St → Hp → Prop} (k : tgs xs σ H QS) : kG tgs xs QS σ H := k
theorem r_gNil {QS : L2.St → Hp → Prop} (k : QS σ H) : gNil [] σ H QS := ⟨rfl, k⟩
theorem r_gSub {t : TSet} {QS : L2.St → Hp → Prop} (k : to σ H fun o H1 => ti σ H1 fun i H2 => t o i x H2 fun H3 => QS σ H3) : gSub to ti t x σ H QS := k
theorem r_setItem {p : Addr} {xs : List V} {i : Int} {j : Nat} {QH : Hp → Prop} (h : H p = some (.lst xs)) (hj : ixN xs.length i = some j) (k : ∀ H', (∀ q, q ≠ p → H' q = H q) → H' p = some (.lst (xs.set j x)) → QH H') : L2.rSetL (.ref p) (.int i) x H QH :=
  ⟨p, xs, i, j, rfl, rfl, h, hj, k _ (fun _ hq => upd_ne hq) upd_same⟩
def kPar (i j : Nat) (D : Ends) (σ : L2.St) : List V → Hp → Prop := fun vs H1 => ∃ v w, vs = [v, w] ∧ D.nx ((σ.set i (some v)).set j (some w)) H1
theorem r_par {i j : Nat} (k : t σ H (kPar i j D σ)) : tPar i j t D σ H := k
theorem r_kPar {i j : Nat} (k : D.nx ((σ.set i (some x)).set j (some y)) H) : kPar i j D σ [x, y] H := ⟨x, y, rfl, k⟩
theorem r_ret (k : te σ H D.rt) : tRet te D σ H := k
theorem r_drop (k : te σ H fun _ H1 => D.nx σ H1) : tDrop te D σ H := k
def kIf (t1 t2 : TS) (D : Ends) (σ : L2.St) : Bool → Hp → Prop := fun b H1 => if b = true then t1 D σ H1 else t2 D σ H1
theorem r_if (k : tt σ H (kIf t1 t2 D σ)) : tIfS tt t1 t2 D σ H := k
theorem r_kIf {b : Bool} (h1 : b = true → t1 D σ H) (h2 : b = false → t2 D σ H) : kIf t1 t2 D σ b H := by
  cases b with
  | true => exact h1 rfl
  | false => exact h2 rfl
theorem r_kIfY {b : Bool} (hb : b = true) (h1 : t1 D σ H) : kIf t1 t2 D σ b H := by rw [hb]; exact h1
theorem r_kIfN {b : Bool} (hb : b = false) (h1 : t2 D σ H) : kIf t1 t2 D σ b H := by rw [hb]; exact h1
/-! calls, slices, methods -/
def kCall (sp : Sp) (E : XK) (Q : VK) : List V → Hp → Prop := fun vs H1 => sp vs H1 Q E
def tCal (sp : Sp) (E : XK) (t : TA) : TE := fun σ H Q => t σ H fun vs H1 => sp vs H1 Q E
theorem r_call (k : t σ H (kCall sp E Q)) : tCal sp E t σ H Q := k
theorem r_kCall {vs : List V} (k : sp vs H Q E) : kCall sp E Q vs H := k
def kB (rr : List V → Hp → VK → Prop) (Q : VK) : List V → Hp → Prop := fun vs H1 => rr vs H1 Q
theorem r_cb {rr : List V → Hp → VK → Prop} (k : t σ H (kB rr Q)) : tCB rr t σ H Q := k
theorem r_kB {rr : List V → Hp → VK → Prop} {vs : List V} (k : rr vs H Q) : kB rr Q vs H := k
def rLen (K : PySem.W.Frag) : List V → Hp → VK → Prop := fun xs H Q => ∃ p ys, xs = [.ref p] ∧ (SqL K H p ys ∨ SqT K H p ys) ∧ Q (.int ys.length) H
theorem cr_len {X : Cx} : CallR X (.builtin "len") (rLen X.K) := call_len_seq
theorem r_lenT {p : Addr} {ys : List V} (h : H p = some (.tup ys)) (k : Q (.int ys.length) H) : kB (rLen K) Q [.ref p] H := ⟨p, ys, rfl, .inr (SqT.of h), k⟩
theorem r_lenL {p : Addr} {ys : List V} (h : H p = some (.lst ys)) (k : Q (.int ys.length) H) : kB (rLen K) Q [.ref p] H := ⟨p, ys, rfl, .inl (SqL.of h), k⟩
def rTupOf (K : PySem.W.Frag) : List V → Hp → VK → Prop := fun xs H Q => ∃ p ys, xs = [.ref p] ∧ ((SqL K H p ys ∧ ∀ l, H l = none → Q (.ref l) (upd H l (.tup ys))) ∨ (SqT K H p ys ∧ Q (.ref p) H))
theorem cr_tupOf {X : Cx} : CallR X (.type "tuple") (rTupOf X.K) := call_tuple_of
theorem r_tupOf {a : Addr} {ys : List V} (h : H a = some (.lst ys)) (k : ∀ p H', Same H H' → H p = none → H' p = some (.tup ys) → Q (.ref p) H') : kB (rTupOf K) Q [.ref a] H :=
  ⟨a, ys, rfl, .inl ⟨SqL.of h, fun p hp => k p _ (same_new hp) hp upd_same⟩⟩
def rIntB : List V → Hp → VK → Prop := fun xs H Q => (∃ i, xs = [.int i] ∧ Q (.int i) H) ∨ ∃ k, xs = [.bl k] ∧ Q (.int (if k then 1 else 0)) H
theorem cr_intB {X : Cx} : CallR X (.type "int") rIntB := call_int1
theorem r_intB {b : Bool} (k : Q (.int (if b then 1 else 0)) H) : kB rIntB Q [.bl b] H := .inr ⟨b, rfl, k⟩
def kS1 (rs : V → Option Int → Option Int → Hp → VK → Prop) (tl th : TO) (σ : L2.St) (Q : VK) : VK := fun x H1 => tl σ H1 fun l H2 => th σ H2 fun u H3 => rs x l u H3 Q
theorem r_sl {rs : V → Option Int → Option Int → Hp → VK → Prop} {tl th : TO} (k : te σ H fun x H1 => tl σ H1 fun l H2 => th σ H2 fun u H3 => rs x l u H3 Q) : tSl rs te tl th σ H Q := k
def kPart (QO : Option Int → Hp → Prop) : VK := fun x H1 => ∃ i, x = .int i ∧ QO (some i) H1
theorem r_part {QO : Option Int → Hp → Prop} (k : te σ H (kPart QO)) : tPart te σ H QO := k
theorem r_kPart {QO : Option Int → Hp → Prop} {i : Int} (k : QO (some i) H) : kPart QO (.int i) H := ⟨i, rfl, k⟩
theorem r_noPart {QO : Option Int → Hp → Prop} (k : QO none H) : tNoPart σ H QO := k
theorem cut_whole {xs : List V} {lo hi : Option Int} (h : HT.sIx xs.length 0 lo = 0 ∧ HT.sIx xs.length xs.length hi = xs.length) : cutV xs lo hi = xs := by
  unfold cutV
  rw [h.1, h.2, List.drop_zero, Nat.sub_zero, List.take_length]
theorem r_slA {a : Addr} {xs : List V} {lo hi : Option Int} (h : H a = some (.tup xs)) (k : ∀ p H', Same H H' → H' p = some (.tup (cutV xs lo hi)) → Q (.ref p) H') : rSlA K (.ref a) lo hi H Q :=
  ⟨a, xs, rfl, SqT.of h, fun w => k a H (Same.refl H) (by rw [cut_whole w]; exact h), fun _ p hp => k p _ (same_new hp) upd_same⟩
theorem r_eqD {d e : PyData} (h1 : Dp K H x d) (h2 : Dp K H y e) (s1 : SeqAt.shaped d = true) (s2 : SeqAt.shaped e = true) (k : Q (.bl (PyData.eqv d e)) H) : rEqD K x y H Q := ⟨d, e, h1, h2, s1, s2, k⟩
theorem r_neD {d e : PyData} (h1 : Dp K H x d) (h2 : Dp K H y e) (s1 : SeqAt.shaped d = true) (s2 : SeqAt.shaped e = true) (k : Q (.bl (!PyData.eqv d e)) H) : rNeD K x y H Q := ⟨d, e, h1, h2, s1, s2, k⟩
def rNotNon : R2 := fun x y H Q => y = .non ∧ Q (.bl (!decide (x = .non))) H
theorem op_notNon {X : Cx} : OpR X (compareOp .IsNot) rNotNon := op_notN
theorem r_notNon (k : Q (.bl (!decide (x = .non))) H) : rNotNon x .non H Q := ⟨rfl, k⟩
def rIsNon : R2 := fun x y H Q => y = .non ∧ Q (.bl (decide (x = .non))) H
theorem op_isNon {X : Cx} : OpR X (compareOp .Is) rIsNon := op_isN
theorem r_isNon (k : Q (.bl (decide (x = .non))) H) : rIsNon x .non H Q := ⟨rfl, k⟩
theorem r_catA {a b : Addr} {xs ys : List V} (ha : H a = some (.tup xs)) (hb : H b = some (.tup ys)) (k : ∀ p H', Same H H' → H' p = some (.tup (xs ++ ys)) → Q (.ref p) H') (hl : xs.length + ys.length ≤ 1000 := by simp) : rCatA K (.ref a) (.ref b) H Q :=
  ⟨a, b, xs, ys, rfl, rfl, SqT.of ha, SqT.of hb, Nat.le_of_lt (small1000 hl), fun e => k b H (Same.refl H) (by rw [e, List.nil_append]; exact hb), fun _ e => k a H (Same.refl H) (by rw [e, List.append_nil]; exact ha), fun _ _ p hp => k p _ (same_new hp) upd_same⟩
theorem r_cat {a b : Addr} {xs ys : List V} (ha : H a = some (.lst xs)) (hb : H b = some (.lst ys)) (k : ∀ p H', Same H H' → H p = none → H' p = some (.lst (xs ++ ys)) → Q (.ref p) H') (hl : xs.length + ys.length ≤ 1000 := by simp) : rCat (.ref a) (.ref b) H Q :=
  ⟨a, b, xs, ys, rfl, rfl, ha, hb, Nat.le_of_lt (small1000 hl), fun p hp => k p _ (same_new hp) hp upd_same⟩
end

/-! ### a def of the program, and its call -/
structure Dfn (K : PySem.W.Frag) (mg : Str → Option Value) (g x : Str) (st : Stmt) : Prop where
  ex : ∃ f fd, Fun K x x st f fd ∧ mg g = some (.ref f)
structure Cal (P : Program) (w : World) (K : PySem.W.Frag) (mg : Str → Option Value) (base : Heap) (g : Str) (k : Nat) (ps : List Str) (sp : Sp) : Prop where
  ex : ∃ f fd, FnOk P w K mg base CX0 k f fd ps sp ∧ mg g = some (.ref f) ∧ PySem.W.keepIn K (.ref f) = true ∧ Binds K fd ps []
theorem pe_cal {X : Cx} {k : Nat} {x : Str} {ps : List Str} {sp : Sp} {e : Expr} {es : List Expr} {t : TA} {p pos : Pos} (c : Cal X.prog X.w X.K X.mg X.base x k ps sp) (hr : Room k X.A) (hg : Gl X x) (ha : PA X (e :: es) t)
    (hdb : (x == ("__debug__" : Str)) = false := by decide) (he : starEach (e :: es) X.env = (false, eval e X.env) :: starEach es X.env := by rfl) (hpl : (backTo pos (starEach es X.env)).any (·.1) = false := by rfl) :
    PE X (.Call (.Name x p) (e :: es) [] pos) (tCal sp E0 t) := by
  obtain ⟨f, fd, F, hm, hk, hb⟩ := c.ex
  have h := pe_call (p := p) (E := E0) F hr hg hm hk hb .nil pass0 ha hdb he hpl
  refine ⟨fun pins s σ H Q I q => h.run pins s σ H Q I ?_⟩
  show t σ H fun vs H1 => sp (vs ++ []) H1 Q E0
  have e : (fun (vs : List V) (H1 : Hp) => sp (vs ++ []) H1 Q E0) = fun vs H1 => sp vs H1 Q E0 := by
    funext vs H1
    rw [List.append_nil]
  rw [e]
  exact q
theorem Cal.mono {P : Program} {w : World} {K : PySem.W.Frag} {mg : Str → Option Value} {base : Heap} {g : Str} {j k : Nat} {ps : List Str} {sp : Sp} (c : Cal P w K mg base g j ps sp) (h : j ≤ k) : Cal P w K mg base g k ps sp := by
  obtain ⟨f, fd, F, r⟩ := c.ex
  exact ⟨f, fd, F.mono h, r⟩
section
variable {P : Program} {w : World} {K : PySem.W.Frag} {mg : Str → Option Value} {base : Heap}
theorem cal_of {g x : Str} {st : Stmt} {N ps : List Str} {k : Nat} {sp : Sp} (d : Dfn K mg g x st) (S : FnScope N ps (defScope st)) (len : ∀ vs H Q E, sp vs H Q E → vs.length = ps.length)
    (hb : ∀ (kV doc pm : Value) (an : Option Addr) (cdv ct : Value) (us : List Value), us.length = ps.length → bindArgs (PySem.W.fnOf x x (defArgs st) (defBody st) (defScope st) .none kV doc pm an cdv ct) ⟨us, []⟩ = pure (ps.zip us))
    (hbody : ∀ (f : Addr) (cdv : Value) (A : Around) (outer : List Env) (s : Shared) (H : Hp) (vs : List V) (Q : VK) (E : XK), Room k (A.deeper (envOfC x (defScope st) s.heap.objs.size f cdv)) → sp vs H Q E →
      ∃ t, PSs (cxOf CX0 P w K mg base N x (defScope st) f cdv A outer s H E).nox (defBody st) t ∧ t { nx := fun _ H' => Q .non H', rt := Q } (start N vs) H) : Cal P w K mg base g (k + 1) ps sp := by
  obtain ⟨f, fd, F, hm⟩ := d.ex
  exact ⟨f, fd, F.ok S len fun cdv A outer s H vs Q E hr h => hbody f cdv A outer s H vs Q E hr h, hm, F.kp, F.binds hb⟩
end
/-- the built-in names that the text calls -/
structure Blt (mg : Str → Option Value) : Prop where
  len : mg "len" = none
  range : mg "range" = none
  sorted : mg "sorted" = none
  set : mg "set" = none
  tuple : mg "tuple" = none
  dict : mg "dict" = none
  int : mg "int" = none
  isinstance : mg "isinstance" = none
  zip : mg "zip" = none
  enumerate : mg "enumerate" = none
  min : mg "min" = none
theorem boot_len : bootBuiltins "len" = some (.builtin "len") := by decide +kernel
theorem boot_range : bootBuiltins "range" = some (.type "range") := by decide +kernel
theorem boot_sorted : bootBuiltins "sorted" = some (.builtin "sorted") := by decide +kernel
theorem boot_set : bootBuiltins "set" = some (.type "set") := by decide +kernel
theorem boot_tuple : bootBuiltins "tuple" = some (.type "tuple") := by decide +kernel
theorem boot_dict : bootBuiltins "dict" = some (.type "dict") := by decide +kernel
theorem boot_int : bootBuiltins "int" = some (.type "int") := by decide +kernel
theorem boot_isinstance : bootBuiltins "isinstance" = some (.builtin "isinstance") := by decide +kernel
theorem boot_min : bootBuiltins "min" = some (.builtin "min") := by decide +kernel
end Wg
set_option Elab.async false
set_option linter.all false
set_option maxRecDepth 100000
set_option maxHeartbeats 4000000
namespace Wg
open PySem L2
open PyProof.Rows hiding St
open RZ

/-! ### rules with the written part K told apart (a comprehension's block binds letters that K must not hang on) -/
section
variable {X : Cx} {K : PySem.W.Frag}
theorem ix_tupH (h : X.K = K) : IxR X (rIxT K) := by
  rw [← h]
  exact ix_tup
theorem ix_listH (h : X.K = K) : IxR X (rIxL K) := by
  rw [← h]
  exact ix_list
theorem sl_tupH (h : X.K = K) : SlR X (rSlA K) := by
  rw [← h]
  exact sl_tupA
theorem cr_lenH (h : X.K = K) : CallR X (.builtin "len") (rLen K) := by
  rw [← h]
  exact cr_len
theorem pe_bmH {o : Expr} {m : Str} {T : String} {e : Expr} {es : List Expr} {r : V → List V → Hp → VK → Prop} {to : TE} {t : TA} {apos pos : Pos} (hK : X.K = K)
    (h : PE X (.Call (.Attribute o m apos) (e :: es) [] pos) (tBM X.K T r to t)) : PE X (.Call (.Attribute o m apos) (e :: es) [] pos) (tBM K T r to t) := by
  rw [← hK]
  exact h
theorem mt_countH (h : X.K = K) : MtR X "list.count" (rCntI K) := by
  rw [← h]
  exact mt_lcount
end
/-! ### what is walked -/
section
variable {K : PySem.W.Frag} {σ : L2.St} {H : Hp} {ta : TA} {te tl : TE} {R : It → Hp → Prop}
def kRng1 (R : It → Hp → Prop) : List V → Hp → Prop := fun vs H1 => ∃ j : Int, vs = [.int j] ∧ -(2 ^ 62) ≤ j ∧ j < 2 ^ 62 ∧ R (Itr 0 j.toNat) H1
theorem r_rng1 (k : ta σ H (kRng1 R)) : iRng1 ta σ H R := k
theorem r_kRng1 {n : Nat} (k : R (Itr 0 n) H) (hn : n ≤ 100000 := by omega) : kRng1 R [.int (n : Int)] H := ⟨n, rfl, by omega, by omega, k⟩
def kRng3 (R : It → Hp → Prop) : List V → Hp → Prop := fun vs H1 => ∃ (i j c : Int) (n : Nat), vs = [.int i, .int j, .int c] ∧ RgC i j c n ∧ R (Itc i c n) H1
theorem r_rng3 (k : ta σ H (kRng3 R)) : iRng3 ta σ H R := k
def kList (K : PySem.W.Frag) (R : It → Hp → Prop) : VK := fun x H1 => ∃ a, x = .ref a ∧ (∃ xs, SqL K H1 a xs) ∧ R (Itl K a) H1
theorem r_list (k : tl σ H (kList K R)) : iList K tl σ H R := k
theorem r_kList {a : Addr} {xs : List V} (h : H a = some (.lst xs)) (k : R (Itl K a) H) : kList K R (.ref a) H := ⟨a, rfl, ⟨xs, SqL.of h⟩, k⟩
def kTupI (K : PySem.W.Frag) (R : It → Hp → Prop) : VK := fun x H1 => ∃ a, x = .ref a ∧ (∃ xs, SqT K H1 a xs) ∧ R (Itt K a) H1
theorem r_tupI (k : tl σ H (kTupI K R)) : iTup K tl σ H R := k
theorem r_kTupI {a : Addr} {xs : List V} (h : H a = some (.tup xs)) (k : R (Itt K a) H) : kTupI K R (.ref a) H := ⟨a, rfl, ⟨xs, SqT.of h⟩, k⟩
def kEnum (K : PySem.W.Frag) (R : It → Hp → Prop) : List V → Hp → Prop := fun vs H1 => ∃ a xs, vs = [.ref a] ∧ SqL K H1 a xs ∧ R (Ite K a) H1
theorem r_enum (k : ta σ H (kEnum K R)) : iEnum K ta σ H R := k
theorem r_kEnum {a : Addr} {xs : List V} (h : H a = some (.lst xs)) (k : R (Ite K a) H) : kEnum K R [.ref a] H := ⟨a, xs, rfl, SqL.of h, k⟩
def kZip (K : PySem.W.Frag) (R : It → Hp → Prop) : List V → Hp → Prop := fun vs H1 => ∃ a b xs ys, vs = [.ref a, .ref b] ∧ ((SqL K H1 a xs ∧ SqL K H1 b ys ∧ R (Itz K a b) H1) ∨ (SqT K H1 a xs ∧ SqT K H1 b ys ∧ R (ItzT K a b) H1))
theorem r_zip (k : ta σ H (kZip K R)) : iZipA K ta σ H R := k
theorem r_kZip {a b : Addr} {xs ys : List V} (h1 : H a = some (.tup xs)) (h2 : H b = some (.tup ys)) (k : R (ItzT K a b) H) : kZip K R [.ref a, .ref b] H := ⟨a, b, xs, ys, rfl, .inr ⟨SqT.of h1, SqT.of h2, k⟩⟩
end

/-- range(0, e, c), upwards, of m turns -/
theorem rgC_up {e c m : Nat} (hc : 0 < c) (hc2 : c ≤ 1000) (he : e ≤ 100000) (h1 : m * c < e + c) (h2 : e ≤ m * c) : RgC 0 (e : Int) (c : Int) m := by
  have h3 : Builtin.Range.rangeSize 0 (e : Int) (c : Int) = (m : Int) := by
    unfold Builtin.Range.rangeSize
    rw [if_pos (by omega)]
    cases m with
    | zero =>
      have e0 : e = 0 := by omega
      subst e0
      rfl
    | succ m =>
      have hmc : (m + 1) * c = m * c + c := Nat.succ_mul m c
      rw [if_pos (by omega)]
      have q : ((e : Int) - 0 - 1) / (c : Int) = (m : Int) := by
        have q1 : ((e : Int) - 0 - 1) = ((e - 1 : Nat) : Int) := by omega
        rw [q1, ← Int.natCast_ediv]
        have q2 : (e - 1) / c = m := by
          refine Nat.div_eq_of_lt_le ?_ ?_
          · omega
          · rw [hmc]
            omega
        rw [q2]
      rw [q]
      omega
  have hm : m ≤ 200000 := by
    rcases Nat.eq_zero_or_pos m with z | z
    · omega
    · have : m * 1 ≤ m * c := Nat.mul_le_mul_left m hc
      omega
  refine ⟨by omega, by omega, ?_, h3⟩
  unfold Builtin.Range.small Builtin.Range.rangeFitsLong
  rw [h3]
  have b1 : (-(2 ^ 63) : Int) ≤ 0 := by decide
  have b2 : (2 : Int) ^ 63 = 9223372036854775808 := by decide
  simp only [b2, Bool.and_eq_true, Bool.or_eq_true, decide_eq_true_eq, beq_iff_eq]
  refine ⟨⟨⟨⟨?_, ?_⟩, ?_⟩, ?_⟩, ?_⟩
  all_goals first
    | (constructor <;> omega)
    | (refine Or.inr ?_
       rw [if_pos (by omega)]
       simp only [Bool.and_eq_true, decide_eq_true_eq]
       constructor <;> omega)
theorem r_kRng3 {e c m : Nat} {R : It → Hp → Prop} {H : Hp} (hc : 0 < c) (hc2 : c ≤ 1000) (he : e ≤ 100000) (h1 : m * c < e + c) (h2 : e ≤ m * c) (k : R (Itc 0 (c : Int) m) H) : kRng3 R [.int 0, .int (e : Int), .int (c : Int)] H :=
  ⟨0, e, c, m, rfl, rgC_up hc hc2 he h1 h2, k⟩

/-! ### sets, sorted, the methods of lists -/
section
variable {K : PySem.W.Frag} {w : World} {σ : L2.St} {H : Hp} {Q : VK} {to : TE} {t : TA}
theorem r_setL {a : Addr} {ns : List Int} (h : H a = some (.lst (ns.map V.int))) (hz : ns.length ≤ 1000) (k : ∀ p c H', Same H H' → H' p = some (SetO w p (fun j => decide (j ∈ ns)) c) → c ≤ ns.length → Q (.ref p) H') : kB (rSetL K w) Q [.ref a] H :=
  ⟨a, ns, rfl, SqL.of h, hz, fun p c hp hc => k p c _ (same_new hp) upd_same hc⟩
theorem r_sortedSet {a : Addr} {S : Int → Bool} {n : Nat} (h : H a = some (SetO w a S n)) (hn : n < 64) (k : ∀ (ns : List Int) (p : Addr) (H' : Hp), Same H H' → H' p = some (.lst (ns.map V.int)) → (∀ k : Int, k ∈ ns ↔ S k = true) → ns.length = n → Q (.ref p) H') : kB (rSortedSet w) Q [.ref a] H :=
  ⟨a, S, n, rfl, h, hn, fun ns p _ hm hl hp => k ns p _ (same_new hp) upd_same hm hl⟩
def kM (r : V → List V → Hp → VK → Prop) (x : V) (Q : VK) : List V → Hp → Prop := fun xs H2 => r x xs H2 Q
def kBM (K : PySem.W.Frag) (T : String) (r : V → List V → Hp → VK → Prop) (t : TA) (σ : L2.St) (Q : VK) : VK := fun x H1 => tyV K T x H1 ∧ t σ H1 (kM r x Q)
theorem r_bm {T : String} {r : V → List V → Hp → VK → Prop} (k : to σ H (kBM K T r t σ Q)) : tBM K T r to t σ H Q := k
theorem r_kBM {r : V → List V → Hp → VK → Prop} {l : Addr} {xs : List V} (h : H l = some (.lst xs)) (k : t σ H (kM r (.ref l) Q)) : kBM K "list" r t σ Q (.ref l) H := ⟨.inl ⟨rfl, _, SqL.of h⟩, k⟩
theorem r_cnt {p : Addr} {ns : List Int} {j : Int} (h : H p = some (.lst (ns.map V.int))) (k : Q (.int (ns.count j : Nat)) H) : kM (rCntI K) (.ref p) Q [.int j] H := ⟨p, ns, j, rfl, rfl, SqL.of h, k⟩
theorem r_extend {l b : Addr} {xs zs : List V} (h1 : H l = some (.lst xs)) (h2 : H b = some (.lst zs)) (hl : xs.length + zs.length ≤ 1000) (k : Q .non (upd H l (.lst (xs ++ zs)))) : kM rExtend (.ref l) Q [.ref b] H :=
  ⟨l, b, xs, zs, rfl, rfl, h1, h2, Nat.le_of_lt (small1000 hl), k⟩
theorem r_append {l : Addr} {xs : List V} {y : V} (h1 : H l = some (.lst xs)) (hl : xs.length ≤ 1000) (k : Q .non (upd H l (.lst (xs ++ [y])))) : kM rAppend (.ref l) Q [y] H := ⟨l, xs, y, rfl, rfl, h1, small1000 hl, k⟩
theorem same_mut {H H' : Hp} {p : Addr} {o : HO} (e : Same H H') (hp : H p = none) : Same H (upd H' p o) := fun b u q => by
  rw [upd_ne (ne_of_none q hp)]
  exact e b u q
end

/-! ### a word between a statement and the rest -/
theorem r_cut {t u : TS} {D : Ends} {σ : L2.St} {H : Hp} (Mid : L2.St → Hp → Prop) (h1 : t { D with nx := Mid } σ H) (h2 : ∀ σ' H', Mid σ' H' → u D σ' H') : Evl.tCut t u D σ H := ⟨Mid, h1, h2⟩
/-! ### for -/
section
variable {K : PySem.W.Frag} {σ : L2.St} {H : Hp} {D : Ends} {g : TG} {tb : TS} {wi : TI} {J : It}
def kFor (g : TG) (tb : TS) (D : Ends) (σ : L2.St) : It → Hp → Prop := fun J H1 => ∃ W : Nat → Nat → L2.St → Hp → Prop, (∃ m, W 0 m σ H1) ∧ ∀ i m σ H, W i m σ H →
  (J.stop i H ∧ D.nx σ H) ∨ (J.go i H ∧ ∃ N : L2.St → Hp → Prop, (∀ σ' H', N σ' H' → ∃ m', m' < m ∧ W (i + 1) m' σ' H') ∧ ∀ x H', J.yld i H x H' → g x σ H' fun σ2 H2 => tb { D with nx := N, ct := N, bk := D.nx } σ2 H2)
theorem r_for (k : wi σ H (kFor g tb D σ)) : tFor wi g tb D σ H := k
def kBody (tb : TS) (D : Ends) (N : L2.St → Hp → Prop) : L2.St → Hp → Prop := fun σ2 H2 => tb { D with nx := N, ct := N, bk := D.nx } σ2 H2
theorem r_kBody {N : L2.St → Hp → Prop} (k : tb { D with nx := N, ct := N, bk := D.nx } σ H) : kBody tb D N σ H := k
theorem r_kFor {n : Nat} {G : Hp → Prop} {Y : Nat → Hp → V → Hp → Prop} (w : Walk J n G Y) (Pv : Nat → L2.St → Hp → Prop) (h0 : Pv 0 σ H) (hG : ∀ i σ' H', i ≤ n → Pv i σ' H' → G H')
    (hs : ∀ i x σ' H1 H2, i < n → Pv i σ' H1 → Y i H1 x H2 → g x σ' H2 (kBody tb D (Pv (i + 1)))) (hd : ∀ σ' H', Pv n σ' H' → D.nx σ' H') : kFor g tb D σ J H :=
  for_it w Pv h0 hG hs hd
end

/-! ### comprehensions whose target is a name -/
section
variable {K : PySem.W.Frag} {σ : L2.St} {H : Hp} {g : TG} {tt : TT} {te : TE} {wi : TI} {J : It} {Q : VK} {vs : List Nat}
def kLc (g : TG) (tt : TT) (te : TE) (vs : List Nat) (σ : L2.St) (Q : VK) : It → Hp → Prop := fun J H1 => ∀ D, H1 D = none → ∃ W : Nat → Nat → Hp → Prop, (∃ m, W 0 m (upd H1 D (.lst []))) ∧ ∀ i m H, W i m H →
  (J.stop i H ∧ Q (.ref D) H) ∨ (J.go i H ∧ ∃ Nx : Hp → Prop, (∀ H', Nx H' → ∃ m', m' < m ∧ W (i + 1) m' H') ∧ ∀ x H', J.yld i H x H' → g x (wipe σ vs) H' fun σ2 H2 => wipe σ2 vs = wipe σ vs ∧ tt σ2 H2 fun b H3 =>
    if b = true then te σ2 H3 fun y H4 => ∃ acc, H4 D = some (.lst acc) ∧ acc.length < sizeLine ∧ Nx (upd H4 D (.lst (acc ++ [y]))) else Nx H3)
theorem r_lc (k : wi σ H (kLc g tt te vs σ Q)) : tLc wi g tt te vs σ H Q := k
/-- behind the tests: the element, or nothing -/
def kEl (te : TE) (σ2 : L2.St) (F : VK) (F0 : Hp → Prop) : Bool → Hp → Prop := fun b H1 => if b = true then te σ2 H1 F else F0 H1
theorem r_kEl {σ2 : L2.St} {F : VK} {F0 : Hp → Prop} {b : Bool} (h1 : b = true → te σ2 H F) (h2 : b = false → F0 H) : kEl te σ2 F F0 b H := by
  cases b with
  | true => exact h1 rfl
  | false => exact h2 rfl
theorem tx_lst {D : Addr} {xs ys : List V} (h : H D = some (.lst xs)) : Tx H (upd H D (.lst ys)) := fun a zs e => by
  rw [upd_ne (ne_of e h (fun z => nomatch z))]
  exact e
/-- nothing but new objects are made on the way; A tells what is gathered, by tuples alone -/
theorem r_kLcP {j n : Nat} {G : Hp → Prop} {Yx : Nat → V → Prop} (w : Walk J n G (fun i H x H' => H' = H ∧ Yx i x)) (A : Nat → List V → Hp → Prop) (hn : n ≤ 1000) (hw : ∀ x, wipe ((wipe σ vs).set j (some x)) vs = wipe σ vs) (hG : ∀ H', Same H H' → G H')
    (h0 : A 0 [] H) (hm : ∀ i xs H1 H2, Tx H1 H2 → A i xs H1 → A i xs H2)
    (hs : ∀ i xs x H1, i < n → Same H H1 → A i xs H1 → Yx i x → ∀ (F : VK) (F0 : Hp → Prop), (∀ y H2, Same H1 H2 → A (i + 1) (xs ++ [y]) H2 → F y H2) → (∀ H2, Same H1 H2 → A (i + 1) xs H2 → F0 H2) →
      tt ((wipe σ vs).set j (some x)) H1 (kEl te ((wipe σ vs).set j (some x)) F F0))
    (hd : ∀ D xs H', H D = none → Same H H' → H' D = some (.lst xs) → A n xs H' → Q (.ref D) H') : kLc (gName j) tt te vs σ Q J H := fun D hD => by
  refine lc_it w (fun i H' => Same H H' ∧ ∃ xs, H' D = some (.lst xs) ∧ xs.length ≤ i ∧ A i xs H') ⟨same_new hD, [], upd_same, Nat.le_refl _, hm _ _ _ _ (tx_same (same_new hD)) h0⟩ (fun i H' _ p => hG H' p.1) (fun i x H1 H2 hi p y => ?_) (fun H' p => ?_)
  · obtain ⟨rfl, y⟩ := y
    obtain ⟨e1, xs, hx, hl, ha⟩ := p
    refine ⟨hw x, hs i xs x H2 hi e1 ha y _ _ (fun z H3 e3 a3 => ?_) fun H3 e3 a3 => ?_⟩
    · have hx3 : H3 D = some (.lst xs) := e3 _ _ hx
      refine ⟨xs, hx3, small1000 (by omega), fun b o e => ?_, xs ++ [z], upd_same, by rw [List.length_append, List.length_singleton]; omega, hm _ _ _ _ (tx_lst hx3) a3⟩
      rw [upd_ne (ne_of_none e hD)]
      exact e3 _ _ (e1 _ _ e)
    · exact ⟨e1.trans e3, xs, e3 _ _ hx, by omega, a3⟩
  · obtain ⟨e1, xs, hx, _, ha⟩ := p
    exact hd D xs H' hD e1 hx ha
/-- the same where the list at h, of which Hd tells, is changed by the elements -/
theorem r_kLcH {j n : Nat} {G : Hp → Prop} {Yx : Nat → V → Prop} {h : Addr} {hx0 : List V} (w : Walk J n G (fun i H x H' => H' = H ∧ Yx i x)) (A : Nat → List V → Hp → Prop) (hn : n ≤ 1000) (hh : H h = some (.lst hx0)) (hw : ∀ x, wipe ((wipe σ vs).set j (some x)) vs = wipe σ vs) (hG : ∀ H', Fh h H H' → G H')
    (h0 : A 0 [] H) (hm : ∀ i xs D H1 (ys zs : List V), H1 D = some (.lst ys) → D ≠ h → A i xs H1 → A i xs (upd H1 D (.lst zs))) (hm0 : ∀ D, H D = none → A 0 [] (upd H D (.lst [])))
    (hs : ∀ i xs x H1, i < n → Fh h H H1 → A i xs H1 → Yx i x → ∀ (F : VK) (F0 : Hp → Prop), (∀ y H2, Fh h H1 H2 → A (i + 1) (xs ++ [y]) H2 → F y H2) → (∀ H2, Fh h H1 H2 → A (i + 1) xs H2 → F0 H2) →
      tt ((wipe σ vs).set j (some x)) H1 (kEl te ((wipe σ vs).set j (some x)) F F0))
    (hd : ∀ D xs H', H D = none → D ≠ h → Fh h H H' → H' D = some (.lst xs) → A n xs H' → Q (.ref D) H') : kLc (gName j) tt te vs σ Q J H := fun D hD => by
  have nD : D ≠ h := fun z => by
    rw [z, hh] at hD
    cases hD
  refine lc_it w (fun i H' => Fh h H H' ∧ ∃ xs, H' D = some (.lst xs) ∧ xs.length ≤ i ∧ A i xs H') ⟨fh_same (same_new hD), [], upd_same, Nat.le_refl _, hm0 D hD⟩ (fun i H' _ p => hG H' p.1) (fun i x H1 H2 hi p y => ?_) (fun H' p => ?_)
  · obtain ⟨rfl, y⟩ := y
    obtain ⟨e1, xs, hx, hl, ha⟩ := p
    refine ⟨hw x, hs i xs x H2 hi e1 ha y _ _ (fun z H3 e3 a3 => ?_) fun H3 e3 a3 => ?_⟩
    · have hx3 : H3 D = some (.lst xs) := e3 _ _ nD hx
      refine ⟨xs, hx3, small1000 (by omega), fun b o nb e => ?_, xs ++ [z], upd_same, by rw [List.length_append, List.length_singleton]; omega, hm _ _ _ _ _ _ hx3 nD a3⟩
      rw [upd_ne (ne_of_none e hD)]
      exact e3 _ _ nb (e1 _ _ nb e)
    · exact ⟨e1.trans e3, xs, e3 _ _ nD hx, by omega, a3⟩
  · obtain ⟨e1, xs, hx, _, ha⟩ := p
    exact hd D xs H' hD nD e1 hx ha
/-- the walks' words in the form that the two want -/
theorem wk_list {a : Addr} {xs : List V} : Walk (Itl K a) xs.length (fun H => SqL K H a xs) (fun i H x H' => H' = H ∧ xs[i]? = some x) := walk_list
theorem wk_tup {a : Addr} {xs : List V} : Walk (Itt K a) xs.length (fun H => SqT K H a xs) (fun i H x H' => H' = H ∧ xs[i]? = some x) := walk_tup
theorem wk_range {n : Nat} : Walk (Itr 0 n) n (fun _ => True) (fun i H x H' => H' = H ∧ x = .int (i : Int)) :=
  walk_range.mono (fun _ _ => trivial) fun i H x H' _ _ y => ⟨y.1, by
    rw [y.2]
    show V.int (0 + (i : Int)) = _
    rw [Int.zero_add]⟩
theorem wk_rangeC {lo c : Int} {n : Nat} : Walk (Itc lo c n) n (fun _ => True) (fun i H x H' => H' = H ∧ x = .int (lo + (i : Nat) * c)) := walk_rangeC
end
end Wg
set_option Elab.async false
set_option linter.all false
set_option maxRecDepth 100000
set_option maxHeartbeats 4000000
namespace Wg
open PySem L2
open PyProof.Rows hiding St
def topS (i : Nat) : Stmt := PySem.Challenge.pw_wholeglance_k26_whole_steps_at_most.main.body.getD i (.Pass ⟨0, 0, 0, 0⟩)
/-! ### lists of the turns that give -/
def giv {α : Type} (n : Nat) (f : Nat → Bool) (v : Nat → α) : List α := ((List.range n).filter f).map v
theorem giv_zero {α : Type} {f : Nat → Bool} {v : Nat → α} : giv 0 f v = [] := rfl
theorem giv_yes {α : Type} {n : Nat} {f : Nat → Bool} {v : Nat → α} (h : f n = true) : giv (n + 1) f v = giv n f v ++ [v n] := by
  unfold giv
  rw [List.range_succ, List.filter_append, List.map_append, List.filter_cons, if_pos h]
  rfl
theorem giv_no {α : Type} {n : Nat} {f : Nat → Bool} {v : Nat → α} (h : f n = false) : giv (n + 1) f v = giv n f v := by
  unfold giv
  rw [List.range_succ, List.filter_append, List.map_append, List.filter_cons, if_neg (by rw [h]; decide)]
  show _ ++ [] = _
  rw [List.append_nil]
theorem giv_map {α β : Type} {n : Nat} {f : Nat → Bool} {v : Nat → α} {u : α → β} : (giv n f v).map u = giv n f fun i => u (v i) := by
  unfold giv
  rw [List.map_map]
  rfl
theorem giv_len {α : Type} {n : Nat} {f : Nat → Bool} {v : Nat → α} : (giv n f v).length ≤ n := by
  unfold giv
  rw [List.length_map]
  have h := List.length_filter_le f (List.range n)
  rw [List.length_range] at h
  exact h
theorem giv_mem {α : Type} {n : Nat} {f : Nat → Bool} {v : Nat → α} {x : α} (h : x ∈ giv n f v) : ∃ i, i < n ∧ f i = true ∧ x = v i := by
  unfold giv at h
  obtain ⟨i, hi, e⟩ := List.mem_map.mp h
  obtain ⟨h1, h2⟩ := List.mem_filter.mp hi
  exact ⟨i, List.mem_range.mp h1, h2, e.symm⟩
theorem giv_congr {α : Type} {n : Nat} {f f' : Nat → Bool} {v v' : Nat → α} (hf : ∀ i, i < n → f i = f' i) (hv : ∀ i, i < n → v i = v' i) : giv n f v = giv n f' v' := by
  induction n with
  | zero => rfl
  | succ n ih =>
    have e := ih (fun i hi => hf i (Nat.lt_succ_of_lt hi)) fun i hi => hv i (Nat.lt_succ_of_lt hi)
    have e1 := hf n (Nat.lt_succ_self n)
    have e2 := hv n (Nat.lt_succ_self n)
    cases q : f n with
    | true =>
      rw [giv_yes q, giv_yes (e1 ▸ q), e, e2]
    | false =>
      rw [giv_no q, giv_no (e1 ▸ q), e]
/-! ### the others -/
def ot (i a : Nat) : Nat := if a < i then a else a + 1
def oth (i n : Nat) : List Int := (List.range (n - 1)).map fun a => ((ot i a : Nat) : Int)
theorem oth_len (i n : Nat) : (oth i n).length = n - 1 := by
  unfold oth
  rw [List.length_map, List.length_range]
theorem oth_get {i n a : Nat} (h : a < n - 1) : (oth i n)[a]? = some ((ot i a : Nat) : Int) := by
  unfold oth
  rw [List.getElem?_map, List.getElem?_range h]
  rfl
theorem ot_lt {i n a : Nat} (h : a < n - 1) : ot i a < n := by
  unfold ot
  split <;> omega
theorem ot_ne (i a : Nat) : ot i a ≠ i := by
  unfold ot
  split <;> omega
theorem giv_oth {i n : Nat} (hi : i < n) (hn : n ≤ 5) : giv n (fun j => !decide ((j : Int) = (i : Int))) (fun j => (j : Int)) = oth i n := by
  have h : ∀ n : Fin 6, ∀ i : Fin 6, i.val < n.val → giv n.val (fun j => !decide ((j : Int) = (i.val : Int))) (fun j => (j : Int)) = oth i.val n.val := by decide
  exact h ⟨n, by omega⟩ ⟨i, by omega⟩ hi
/-! ### forms of contents -/
/-- a state of n values -/
def StV (H : Hp) (n : Nat) (v : V) : Prop := ∃ a xs, v = .ref a ∧ H a = some (.tup xs) ∧ xs.length = n
theorem StV.tx {H H' : Hp} {n : Nat} {v : V} (h : StV H n v) (e : Tx H H') : StV H' n v := by
  obtain ⟨a, xs, h1, h2, h3⟩ := h
  exact ⟨a, xs, h1, e _ _ h2, h3⟩
/-- what a read showed: numbers (a, b), a list of numbers -/
structure Ob where
  a : Int
  b : Int
  c : List Int
  deriving Inhabited
/-- handed: (value, number, view) -/
def Own3 (H : Hp) (n : Nat) (o : Ob) (v : V) : Prop := ∃ p x w, v = .ref p ∧ H p = some (.tup [x, .int o.a, w]) ∧ StV H n w
theorem Own3.tx {H H' : Hp} {n : Nat} {o : Ob} {v : V} (h : Own3 H n o v) (e : Tx H H') : Own3 H' n o v := by
  obtain ⟨p, x, w, h1, h2, h3⟩ := h
  exact ⟨p, x, w, h1, e _ _ h2, h3.tx e⟩
/-- signs: (value, calls, toggle, view) -/
def Own4 (H : Hp) (n : Nat) (o : Ob) (v : V) : Prop := ∃ p x q w, v = .ref p ∧ H p = some (.tup [x, .ref q, .int o.a, w]) ∧ H q = some (.tup (o.c.map V.int)) ∧ o.c.length = n ∧ StV H n w
theorem Own4.tx {H H' : Hp} {n : Nat} {o : Ob} {v : V} (h : Own4 H n o v) (e : Tx H H') : Own4 H' n o v := by
  obtain ⟨p, x, q, w, h1, h2, h3, h4, h5⟩ := h
  exact ⟨p, x, q, w, h1, e _ _ h2, e _ _ h3, h4, h5.tx e⟩
/-- shared: (value, writer, toggle) -/
def BoxV (H : Hp) (o : Ob) (v : V) : Prop := ∃ p x, v = .ref p ∧ H p = some (.tup [x, .int o.a, .int o.b])
theorem BoxV.tx {H H' : Hp} {o : Ob} {v : V} (h : BoxV H o v) (e : Tx H H') : BoxV H' o v := by
  obtain ⟨p, x, h1, h2⟩ := h
  exact ⟨p, x, h1, e _ _ h2⟩
/-- a list of contents, told by f -/
def Row (H : Hp) (C : Ob → V → Prop) (xs : List V) (f : Nat → Ob) : Prop := ∀ j v, xs[j]? = some v → C (f j) v
/-- handed: which numbers differ -/
def chg (n : Nat) (f g : Nat → Ob) : List Int := giv n (fun j => !decide ((f j).a = (g j).a)) fun j => (j : Int)
/-! ### slices -/
def seg (xs : List V) (a m : Nat) : List V := (xs.drop a).take m
theorem seg_len (xs : List V) (a m : Nat) : (seg xs a m).length = min m (xs.length - a) := by
  unfold seg
  rw [List.length_take, List.length_drop]
theorem seg_get {xs : List V} {a m j : Nat} (h : j < m) : (seg xs a m)[j]? = xs[a + j]? := by
  unfold seg
  rw [List.getElem?_take_of_lt h, List.getElem?_drop]
theorem seg_some {xs : List V} {a m j : Nat} {v : V} (h : (seg xs a m)[j]? = some v) : j < m ∧ xs[a + j]? = some v := by
  have hj := (List.getElem?_eq_some_iff.mp h).1
  rw [seg_len] at hj
  have hm : j < m := by omega
  rw [seg_get hm] at h
  exact ⟨hm, h⟩
theorem cut_seg {xs : List V} {lo hi : Option Int} {a b : Nat} (h1 : HT.sIx xs.length 0 lo = a) (h2 : HT.sIx xs.length xs.length hi = b) : cutV xs lo hi = seg xs a (b - a) := by
  unfold cutV seg
  rw [h1, h2]
theorem six_neg {n d k : Nat} (h : 0 < k) : HT.sIx n d (some (-(k : Int))) = n - k := by
  show (if (-(k : Int)) < 0 then ((-(k : Int)) + (n : Int)).toNat else min (-(k : Int)).toNat n) = n - k
  rw [if_pos (by omega)]
  omega
theorem six_pos {n d k : Nat} : HT.sIx n d (some (k : Int)) = min k n := HT.sIx_nat n d k
theorem Row.seg {C : Ob → V → Prop} {xs : List V} {f : Nat → Ob} {H : Hp} (r : Row H C xs f) (a m : Nat) : Row H C (seg xs a m) (fun j => f (a + j)) := fun j v h => r (a + j) v (seg_some h).2
/-! ### how often -/
theorem pig (w : Nat) : ∀ (S l : List Int), (∀ j ∈ l, j ∈ S) → (∀ j ∈ l, l.count j ≤ w) → l.length ≤ S.length * w
  | [], l, hs, _ => by
    cases l with
    | nil => exact Nat.zero_le _
    | cons x r => exact absurd (hs x List.mem_cons_self) (by simp)
  | s :: S, l, hs, hc => by
    have ih := pig w S (l.filter fun j => !decide (j = s)) (fun j hj => by
      obtain ⟨h1, h2⟩ := List.mem_filter.mp hj
      rcases List.mem_cons.mp (hs j h1) with e | e
      · subst e
        simp at h2
      · exact e) fun j hj => Nat.le_trans (List.Sublist.count_le j List.filter_sublist) (hc j (List.mem_filter.mp hj).1)
    have h1 : l.length = l.count s + (l.filter fun j => !decide (j = s)).length := by
      rw [List.count_eq_countP, List.countP_eq_length_filter]
      clear ih hs hc
      induction l with
      | nil => rfl
      | cons x r ih =>
        by_cases e : x = s
        · subst e
          simp
          omega
        · simp [e]
          omega
    have h2 : l.count s ≤ w := by
      by_cases hm : s ∈ l
      · exact hc s hm
      · rw [List.count_eq_zero_of_not_mem hm]
        exact Nat.zero_le _
    rw [List.length_cons, Nat.add_mul, Nat.one_mul]
    omega
/-- all that moved in the first k rounds -/
def seenTo (mv : Nat → List Int) : Nat → List Int
  | 0 => []
  | k + 1 => seenTo mv k ++ mv k
theorem seenTo_congr {mv mv' : Nat → List Int} : ∀ k, (∀ i, i < k → mv i = mv' i) → seenTo mv k = seenTo mv' k
  | 0, _ => rfl
  | k + 1, h => by
    show seenTo mv k ++ mv k = seenTo mv' k ++ mv' k
    rw [seenTo_congr k (fun i hi => h i (Nat.lt_succ_of_lt hi)), h k (Nat.lt_succ_self k)]
theorem seenTo_mem {mv : Nat → List Int} {S : List Int} : ∀ k, (∀ i, i < k → ∀ j ∈ mv i, j ∈ S) → ∀ j ∈ seenTo mv k, j ∈ S
  | 0, _, j, hj => by cases hj
  | k + 1, h, j, hj => by
    rcases List.mem_append.mp hj with e | e
    · exact seenTo_mem k (fun i hi => h i (Nat.lt_succ_of_lt hi)) j e
    · exact h k (Nat.lt_succ_self k) j e
theorem seenTo_len {mv : Nat → List Int} : ∀ k, (∀ i, i < k → mv i ≠ []) → k ≤ (seenTo mv k).length
  | 0, _ => Nat.le_refl _
  | k + 1, h => by
    have ih := seenTo_len (mv := mv) k fun i hi => h i (Nat.lt_succ_of_lt hi)
    have h1 : 0 < (mv k).length := by
      cases q : mv k with
      | nil => exact absurd q (h k (Nat.lt_succ_self k))
      | cons x r => simp
    show k + 1 ≤ (seenTo mv k ++ mv k).length
    rw [List.length_append]
    omega
/-- nobody had moved so often behind round k, and somebody moved in each -/
def Going (mv : Nat → List Int) (w k : Nat) : Prop := mv (k - 1) ≠ [] ∧ ∀ j ∈ seenTo mv k, (seenTo mv k).count j < w
theorem seen_few {mv : Nat → List Int} {S : List Int} {w k : Nat} (hS : ∀ i, i < k → ∀ j ∈ mv i, j ∈ S) (g : 0 < k → Going mv w k) : (seenTo mv k).length ≤ S.length * (w - 1) := by
  cases k with
  | zero => exact Nat.zero_le _
  | succ k =>
    obtain ⟨_, hc⟩ := g (Nat.succ_pos k)
    exact pig (w - 1) S _ (seenTo_mem _ hS) fun j hj => by
      have := hc j hj
      omega
theorem rounds_few {mv : Nat → List Int} {S : List Int} {w k : Nat} (hS : ∀ i, i < k → ∀ j ∈ mv i, j ∈ S) (g : ∀ i, 0 < i → i ≤ k → Going mv w i) : k ≤ S.length * (w - 1) :=
  Nat.le_trans (seenTo_len k fun i hi => (g (i + 1) (Nat.succ_pos i) hi).1) (seen_few hS fun h => g k h (Nat.le_refl k))
theorem at_lt {xs : List V} {j : Nat} (h : j < xs.length) : ∃ v, xs[j]? = some v ∧ atI xs (j : Int) = some v := ⟨xs[j], List.getElem?_eq_getElem h, atI_nat (List.getElem?_eq_getElem h)⟩
end Wg
set_option Elab.async false
set_option linter.all false
set_option maxRecDepth 100000
set_option maxHeartbeats 4000000
local macro_rules
  | `(tactic| walk_at "t") => `(tactic| first
    | assumption
    | (refine Wg.same_at (by assumption) ?_; walk_at "t")
    | (refine Wg.tx_at (by assumption) ?_; walk_at "t"))
local macro_rules
  | `(tactic| walk_at "e") => `(tactic| first
    | exact L2.Same.refl _
    | assumption
    | (refine Wg.same_step (by assumption) ?_; walk_at "e"))
local macro_rules
  | `(tactic| walk_at "x") => `(tactic| first
    | exact Wg.Tx.refl _
    | assumption
    | (refine Wg.tx_step (by assumption) ?_; walk_at "x")
    | (refine Wg.tx_stepS (by assumption) ?_; walk_at "x"))
local macro_rules
  | `(tactic| walk_at "s") => `(tactic| first
    | with_reducible refine Wg.r_c ?_
    | ((with_reducible refine' Wg.r_var ?hv ?_); (case hv => exact rfl))
    | with_reducible refine Wg.r_op ?_
    | with_reducible refine Wg.r_un ?_
    | with_reducible refine Wg.r_I0 ?_
    | with_reducible refine Wg.r_U ?_
    | with_reducible refine Wg.r_nil ?_
    | with_reducible refine Wg.r_cons ?_
    | with_reducible refine Wg.r_kCons ?_
    | with_reducible refine Wg.r_tup ?_
    | with_reducible refine Wg.r_lst ?_
    | with_reducible refine Wg.r_test ?_
    | with_reducible refine Wg.r_B ?_
    | with_reducible refine Wg.r_kTest ?_
    | with_reducible refine Wg.r_and ?_
    | with_reducible refine Wg.r_or ?_
    | with_reducible refine Wg.r_ifE ?_
    | with_reducible refine Wg.r_yes ?_
    | with_reducible refine Wg.r_seq ?_
    | with_reducible refine Wg.r_next ?_
    | with_reducible refine Wg.r_brk ?_
    | with_reducible refine Wg.r_asg ?_
    | with_reducible refine Wg.r_kName ?_
    | with_reducible refine Wg.r_kAsg ?_
    | with_reducible refine Wg.r_gName ?_
    | with_reducible refine Wg.r_gCons ?_
    | with_reducible refine Wg.r_kG ?_
    | with_reducible refine Wg.r_gNil ?_
    | with_reducible refine Wg.r_gSub ?_
    | with_reducible refine Wg.r_par ?_
    | with_reducible refine Wg.r_kPar ?_
    | with_reducible refine Wg.r_ret ?_
    | with_reducible refine Wg.r_drop ?_
    | with_reducible refine Wg.r_if ?_
    | with_reducible refine Wg.r_call ?_
    | with_reducible refine Wg.r_kCall ?_
    | with_reducible refine Wg.r_cb ?_
    | with_reducible refine Wg.r_intB ?_
    | with_reducible refine Wg.r_sl ?_
    | with_reducible refine Wg.r_part ?_
    | with_reducible refine Wg.r_kPart ?_
    | with_reducible refine Wg.r_noPart ?_
    | with_reducible refine Wg.r_notNon ?_
    | with_reducible refine Wg.r_isNon ?_
    | ((with_reducible refine' Wg.r_eq ?h1 ?_); (case h1 => exact rfl))
    | ((with_reducible refine' Wg.r_ne ?h1 ?_); (case h1 => exact rfl))
    | ((with_reducible refine' Wg.r_ixT ?h1 ?h2 ?_); (case h1 => walk_at "t"); (case h2 => exact rfl))
    | ((with_reducible refine' Wg.r_ixL ?h1 ?h2 ?_); (case h1 => walk_at "t"); (case h2 => exact rfl))
    | ((with_reducible refine' Wg.r_gTup ?h1 ?h2 ?_); (case h1 => walk_at "t"); (case h2 => exact rfl))
    | ((with_reducible refine' Wg.r_lenT ?h1 ?_); (case h1 => walk_at "t"))
    | ((with_reducible refine' Wg.r_lenL ?h1 ?_); (case h1 => walk_at "t"))
    | with_reducible refine Wg.r_rng1 ?_
    | with_reducible refine Wg.r_rng3 ?_
    | with_reducible refine Wg.r_list ?_
    | with_reducible refine Wg.r_tupI ?_
    | with_reducible refine Wg.r_enum ?_
    | with_reducible refine Wg.r_zip ?_
    | ((with_reducible refine' Wg.r_kList ?h1 ?_); (case h1 => walk_at "t"))
    | ((with_reducible refine' Wg.r_kTupI ?h1 ?_); (case h1 => walk_at "t"))
    | ((with_reducible refine' Wg.r_kEnum ?h1 ?_); (case h1 => walk_at "t"))
    | ((with_reducible refine' Wg.r_kZip ?h1 ?h2 ?_); (case h1 => walk_at "t"); (case h2 => walk_at "t"))
    | ((with_reducible refine' Wg.r_I ?h1 ?_); (case h1 => first | exact Or.inl ⟨by decide, by decide⟩ | exact Or.inr ⟨by decide, by decide⟩ | exact ⟨by decide, by decide⟩ | exact ⟨by decide, by decide, by decide⟩ | (show (0 : Int) < _; decide)))
    | with_reducible refine Wg.r_bm ?_
    | ((with_reducible refine' Wg.r_kBM ?h1 ?_); (case h1 => walk_at "t"))
    | ((with_reducible refine' Wg.r_cnt ?h1 ?_); (case h1 => walk_at "t"))
    | with_reducible refine Wg.r_for ?_
    | with_reducible refine Wg.r_kBody ?_
    | with_reducible refine Wg.r_lc ?_
    | with_reducible refine Wg.r_kB ?_)
local macro_rules
  | `(tactic| walk_at "g") => `(tactic| repeat (walk_at "s"))
namespace Wg
open PySem L2
open PyProof.Rows hiding St
open RZ
abbrev s_own_read : Stmt := topS 8
theorem sc_own_read : FnScope ["place"] ["place"] (defScope s_own_read) := ⟨rfl, rfl, rfl, by decide +kernel, rfl, by decide +kernel, by decide +kernel⟩
abbrev s_others : Stmt := topS 4
theorem sc_others : FnScope ["hand", "hands", "j"] ["hand", "hands"] (defScope s_others) := ⟨rfl, rfl, rfl, by decide +kernel, rfl, by decide +kernel, by decide +kernel⟩
abbrev s_changed_at : Stmt := topS 2
theorem sc_changed_at : FnScope ["one", "other", "at", "j"] ["one", "other", "at"] (defScope s_changed_at) := ⟨rfl, rfl, rfl, by decide +kernel, rfl, by decide +kernel, by decide +kernel⟩
section
variable {P : Program} {w : World} {K : PySem.W.Frag} {mg : Str → Option Value} {base : Heap}
/-- own_read(place): the step that reads a hand's box -/
def sp_own_read : Sp := fun vs H Q _ => ∃ v, vs = [v] ∧ ∀ p q H', Same H H' → H' p = some (.tup [.str "read", .ref q]) → H' q = some (.tup [.str "own", v]) → Q (.ref p) H'
theorem ok_own_read (D : Dfn K mg "own_read" "own_read" s_own_read) : Cal P w K mg base "own_read" 1 ["place"] sp_own_read := by
  refine cal_of D sc_own_read (fun vs H Q E h => ?_) (fun _ _ _ _ _ _ us hl => match us, hl with | [_], _ => rfl) (fun f cdv A outer s H vs Q E hr h => ?_)
  · obtain ⟨v, rfl, _⟩ := h
    rfl
  · obtain ⟨v, rfl, k⟩ := h
    refine ⟨_, (pss_one (ps_ret (pe_tup (pa_cons pe_str (pa_cons (pe_tup (pa_cons pe_str (pa_cons (pv 0) pa_nil))) pa_nil))))), ?_⟩
    walk_at "g"
    refine r_kTup fun q H1 e1 n1 h1 => ?_
    walk_at "g"
    refine r_kTup fun p H2 e2 n2 h2 => ?_
    walk_at "g"
    exact k p q H2 (by walk_at "e") h2 (by walk_at "t")
/-- others(hand, hands) -/
def sp_others : Sp := fun vs H Q _ => ∃ i n : Nat, vs = [.int i, .int n] ∧ i < n ∧ n ≤ 5 ∧ ∀ p H', Same H H' → H' p = some (.lst ((oth i n).map V.int)) → Q (.ref p) H'
theorem ok_others (B : Blt mg) (D : Dfn K mg "others" "others" s_others) : Cal P w K mg base "others" 1 ["hand", "hands"] sp_others := by
  refine cal_of D sc_others (fun vs H Q E h => ?_) (fun _ _ _ _ _ _ us hl => match us, hl with | [_, _], _ => rfl) (fun f cdv A outer s H vs Q E hr h => ?_)
  · obtain ⟨i, n, rfl, _⟩ := h
    rfl
  · obtain ⟨i, n, rfl, hi, hn, k⟩ := h
    refine ⟨_, (pss_one (ps_ret (pe_lc (own := [("j", 2)]) (g := gName 2) (by rfl) sc_others.nd (pi_range1 (by rfl) B.range (pa_cons (pv 1) pa_nil)) (blkOk_by (own := [("j", 2)]) (N := ["hand", "hands", "j"]) (sc := defScope s_others) (by decide +kernel)) (fun _ _ _ _ _ => pg_name (i := 2) sc_others.nd rfl (Or.inl rfl)) (fun _ _ _ _ _ => pts_one (pt_cmpR op_ne (pv 2) (pv 0) (nomark _))) (fun _ _ _ _ _ => (pv 2))))), ?_⟩
    walk_at "g"
    refine r_kRng1 ?_
    refine r_kLcP wk_range (fun t ys _ => ys = giv t (fun j => !decide ((j : Int) = (i : Int))) fun j => V.int (j : Int)) (by omega) (fun _ => rfl) (fun _ _ => trivial) rfl (fun _ _ _ _ _ h => h) (fun t ys x H1 ht e1 ha hx F F0 h1 h0 => ?_) fun D ys H' _ e1 hD ha => ?_
    · subst hx ha
      walk_at "g"
      refine r_kEl (fun hb => ?_) fun hb => ?_
      · walk_at "g"
        refine h1 _ _ (Same.refl _) ?_
        rw [giv_yes]
        simpa using hb
      · refine h0 _ (Same.refl _) ?_
        rw [giv_no]
        simpa using hb
    · refine k D H' e1 ?_
      rw [hD, ha, ← giv_oth hi hn, giv_map]
/-- changed_at(one, other, 1): where two collects of handed differ -/
def sp_changed : Sp := fun vs H Q _ => ∃ (a b : Addr) (xs ys : List V) (m n : Nat) (f g : Nat → Ob), vs = [.ref a, .ref b, .int 1] ∧ H a = some (.tup xs) ∧ H b = some (.tup ys) ∧ xs.length = n ∧ ys.length = n ∧ n ≤ 1000 ∧
  Row H (Own3 H m) xs f ∧ Row H (Own3 H m) ys g ∧ ∀ p H', Same H H' → H' p = some (.lst ((chg n f g).map V.int)) → Q (.ref p) H'
theorem ok_changed_at (B : Blt mg) (D : Dfn K mg "changed_at" "changed_at" s_changed_at) : Cal P w K mg base "changed_at" 1 ["one", "other", "at"] sp_changed := by
  refine cal_of D sc_changed_at (fun vs H Q E h => ?_) (fun _ _ _ _ _ _ us hl => match us, hl with | [_, _, _], _ => rfl) (fun f cdv A outer s H vs Q E hr h => ?_)
  · obtain ⟨a, b, xs, ys, m, n, f, g, rfl, _⟩ := h
    rfl
  · obtain ⟨a, b, xs, ys, m, n, f, g, rfl, ha, hb, hx, hy, hn, rx, ry, k⟩ := h
    refine ⟨_, (pss_one (ps_ret (pe_lc (own := [("j", 3)]) (g := gName 3) (by rfl) sc_changed_at.nd (pi_range1 (by rfl) B.range (pa_cons (pe_callB (cr_lenH (K := K) rfl) (by rfl) B.len boot_len (pa_cons (pv 0) pa_nil)) pa_nil)) (blkOk_by (own := [("j", 3)]) (N := ["one", "other", "at", "j"]) (sc := defScope s_changed_at) (by decide +kernel)) (fun _ _ _ _ _ => pg_name (i := 3) sc_changed_at.nd rfl (Or.inl rfl)) (fun _ _ _ _ _ => pts_one (pt_cmpR op_ne (pe_ix (ix_tupH (K := K) rfl) (pe_ix (ix_tupH (K := K) rfl) (pv 0) (pv 3) (fun _ _ => rfl)) (pv 2) (fun _ _ => rfl)) (pe_ix (ix_tupH (K := K) rfl) (pe_ix (ix_tupH (K := K) rfl) (pv 1) (pv 3) (fun _ _ => rfl)) (pv 2) (fun _ _ => rfl)) (nomark _))) (fun _ _ _ _ _ => (pv 3))))), ?_⟩
    walk_at "g"
    refine r_kRng1 ?_
    refine r_kLcP wk_range (fun t zs _ => zs = giv t (fun j => !decide ((f j).a = (g j).a)) fun j => V.int (j : Int)) (by omega) (fun _ => rfl) (fun _ _ => trivial) rfl (fun _ _ _ _ _ h => h) (fun t zs x H1 ht e1 hA hv F F0 h1 h0 => ?_) fun D zs H' _ e1 hD hA => ?_
    · subst hv hA
      obtain ⟨v1, g1, i1⟩ := at_lt (xs := xs) (j := t) ht
      obtain ⟨v2, g2, i2⟩ := at_lt (xs := ys) (j := t) (by omega)
      obtain ⟨p1, x1, w1, rfl, q1, _⟩ := rx t v1 g1
      obtain ⟨p2, x2, w2, rfl, q2, _⟩ := ry t v2 g2
      walk_at "g"
      refine r_ixT (e1 _ _ ha) i1 ?_
      walk_at "g"
      refine r_ixT (e1 _ _ hb) i2 ?_
      walk_at "g"
      refine r_kEl (fun hb => ?_) fun hb => ?_
      · walk_at "g"
        refine h1 _ _ (Same.refl _) ?_
        rw [giv_yes]
        simpa using hb
      · refine h0 _ (Same.refl _) ?_
        rw [giv_no]
        simpa using hb
    · refine k D H' e1 ?_
      rw [hD, hA, hx, chg, giv_map]
end
end Wg
set_option Elab.async false
set_option linter.all false
set_option maxRecDepth 100000
set_option maxHeartbeats 4000000
namespace Wg
open PySem L2
open PyProof.Rows hiding St
open RZ
abbrev s_last_collects : Stmt := topS 1
theorem sc_last_collects : FnScope ["reads", "many"] ["reads", "many"] (defScope s_last_collects) := ⟨rfl, rfl, rfl, by decide +kernel, rfl, by decide +kernel, by decide +kernel⟩
abbrev s_values_of : Stmt := topS 7
theorem sc_values_of : FnScope ["collect", "content"] ["collect"] (defScope s_values_of) := ⟨rfl, rfl, rfl, by decide +kernel, rfl, by decide +kernel, by decide +kernel⟩
abbrev s_seen_often : Stmt := topS 3
theorem sc_seen_often : FnScope ["seen", "moves", "often", "j"] ["seen", "moves"] (defScope s_seen_often) := ⟨rfl, rfl, rfl, by decide +kernel, rfl, by decide +kernel, by decide +kernel⟩
section
variable {P : Program} {w : World} {K : PySem.W.Frag} {mg : Str → Option Value} {base : Heap}
/-- last_collects(reads, many): the last two -/
def sp_last : Sp := fun vs H Q _ => ∃ (a : Addr) (rs : List V) (n : Nat), vs = [.ref a, .int n] ∧ H a = some (.tup rs) ∧ 0 < n ∧ 2 * n ≤ rs.length ∧
  ∀ p b c H', Same H H' → H' p = some (.tup [.ref b, .ref c]) → H' b = some (.tup (seg rs (rs.length - 2 * n) n)) → H' c = some (.tup (seg rs (rs.length - n) n)) → Q (.ref p) H'
theorem ok_last_collects (D : Dfn K mg "last_collects" "last_collects" s_last_collects) : Cal P w K mg base "last_collects" 1 ["reads", "many"] sp_last := by
  refine cal_of D sc_last_collects (fun vs H Q E h => ?_) (fun _ _ _ _ _ _ us hl => match us, hl with | [_, _], _ => rfl) (fun f cdv A outer s H vs Q E hr h => ?_)
  · obtain ⟨a, rs, n, rfl, _⟩ := h
    rfl
  · obtain ⟨a, rs, n, rfl, ha, hn, hl, k⟩ := h
    have c1 : cutV rs (some (-2 * (n : Int))) (some (-(n : Int))) = seg rs (rs.length - 2 * n) n := by
      have e : (-2 * (n : Int)) = -((2 * n : Nat) : Int) := by omega
      rw [e, cut_seg (six_neg (by omega)) (six_neg hn)]
      congr 1
      omega
    have c2 : cutV rs (some (-(n : Int))) none = seg rs (rs.length - n) n := by
      rw [cut_seg (six_neg hn) (HT.sIx_none _ _)]
      congr 1
      omega
    refine ⟨_, (pss_one (ps_ret (pe_tup (pa_cons (pe_slice (sl_tupH (K := K) rfl) (pv 0) (po_some (pe_op op_mul (pe_un un_neg pe_int) (pv 1))) (po_some (pe_un un_neg (pv 1)))) (pa_cons (pe_slice (sl_tupH (K := K) rfl) (pv 0) (po_some (pe_un un_neg (pv 1))) po_none) pa_nil))))), ?_⟩
    walk_at "g"
    refine r_slA ha fun b H1 e1 h1 => ?_
    walk_at "g"
    refine r_slA (e1 _ _ ha) fun c H2 e2 h2 => ?_
    walk_at "g"
    refine r_kTup fun p H3 e3 n3 h3 => ?_
    rw [c1] at h1
    rw [c2] at h2
    exact k p b c H3 (by walk_at "e") h3 (by walk_at "t") (by walk_at "t")
/-- values_of(collect): a state as long as the collect -/
def sp_values : Sp := fun vs H Q _ => ∃ (a : Addr) (xs : List V), vs = [.ref a] ∧ H a = some (.tup xs) ∧ xs.length ≤ 1000 ∧ (∀ v ∈ xs, ∃ p x r, v = .ref p ∧ H p = some (.tup (x :: r))) ∧
  ∀ v H', Same H H' → StV H' xs.length v → Q v H'
theorem ok_values_of (B : Blt mg) (D : Dfn K mg "values_of" "values_of" s_values_of) : Cal P w K mg base "values_of" 1 ["collect"] sp_values := by
  refine cal_of D sc_values_of (fun vs H Q E h => ?_) (fun _ _ _ _ _ _ us hl => match us, hl with | [_], _ => rfl) (fun f cdv A outer s H vs Q E hr h => ?_)
  · obtain ⟨a, xs, rfl, _⟩ := h
    rfl
  · obtain ⟨a, xs, rfl, ha, hl, hx, k⟩ := h
    refine ⟨_, (pss_one (ps_ret (pe_callTy cr_tupOf (by rfl) B.tuple boot_tuple (pa_cons (pe_lc (own := [("content", 1)]) (g := gName 1) (tt := tYes) (by rfl) sc_values_of.nd (pi_tup (pv 0)) (blkOk_by (own := [("content", 1)]) (N := ["collect", "content"]) (sc := defScope s_values_of) (by decide +kernel)) (fun _ _ _ _ _ => pg_name (i := 1) sc_values_of.nd rfl (Or.inl rfl)) (fun _ _ _ _ _ => pts_nil) (fun _ _ _ _ _ => (pe_ix (ix_tupH (K := K) rfl) (pv 1) pe_int (fun _ _ => rfl)))) pa_nil)))), ?_⟩
    walk_at "g"
    refine r_kLcP wk_tup (fun t ys _ => ys.length = t) hl (fun _ => rfl) (fun H' e => SqT.of (e _ _ ha)) rfl (fun _ _ _ _ _ h => h) (fun t ys x H1 ht e1 hA hv F F0 h1 h0 => ?_) fun D ys H' _ e1 hD hA => ?_
    · obtain ⟨p, y, r, rfl, hp⟩ := hx x (List.mem_of_getElem? hv)
      walk_at "g"
      refine r_kEl (fun hb => ?_) fun hb => nomatch hb
      walk_at "g"
      refine r_ixT (e1 _ _ hp) (v := y) ?_ ?_
      · exact atI_nat (j := 0) rfl
      · exact h1 _ _ (Same.refl _) (by rw [List.length_append, List.length_singleton, hA])
    · walk_at "g"
      refine r_tupOf hD fun p H2 e2 n2 h2 => ?_
      exact k _ H2 (by walk_at "e") ⟨p, ys, rfl, h2, hA⟩
/-- seen_often(seen, moves): somebody who was seen so often, or None -/
def sp_often : Sp := fun vs H Q _ => ∃ (a : Addr) (ns : List Int) (m : Nat), vs = [.ref a, .int m] ∧ H a = some (.lst (ns.map V.int)) ∧ ns.length < 64 ∧
  ∀ v H', Same H H' → ((v = .non ∧ ∀ j ∈ ns, ns.count j < m) ∨ ∃ j, v = .int j ∧ j ∈ ns ∧ m ≤ ns.count j) → Q v H'
theorem ok_seen_often (B : Blt mg) (D : Dfn K mg "seen_often" "seen_often" s_seen_often) : Cal P w K mg base "seen_often" 1 ["seen", "moves"] sp_often := by
  refine cal_of D sc_seen_often (fun vs H Q E h => ?_) (fun _ _ _ _ _ _ us hl => match us, hl with | [_, _], _ => rfl) (fun f cdv A outer s H vs Q E hr h => ?_)
  · obtain ⟨a, ns, m, rfl, _⟩ := h
    rfl
  · obtain ⟨a, ns, m, rfl, ha, hl, k⟩ := h
    refine ⟨_, (pss_cons (ps_setLc (i := 2) (own := [("j", 3)]) (g := gName 3) (by rfl) sc_seen_often.nd rfl rfl (sw_true rfl rfl rfl (by decide +kernel)) (pi_list (pe_callB (cr_sortedSet rfl) (by rfl) B.sorted boot_sorted (pa_cons (pe_callTy (cr_setL rfl) (by rfl) B.set boot_set (pa_cons (pv 0) pa_nil)) pa_nil))) (blkOk_by (own := [("j", 3)]) (N := ["seen", "moves", "often", "j"]) (sc := defScope s_seen_often) (by decide +kernel)) (fun _ _ _ _ _ => pg_name (i := 3) sc_seen_often.nd rfl (Or.inl rfl)) (fun _ _ _ _ _ => pts_one (pt_cmpR op_ge (pe_bmH (K := K) rfl (pe_bm PySem.F.plainAttrs_list PySem.F.slot_list_count PySem.F.type_list_count (mt_countH (K := K) rfl) (pv 0) (pa_cons (pv 3) pa_nil))) (pv 1) (nomark _))) (fun _ _ _ _ _ => (pv 3)))
 (pss_cons (ps_if (pt_cmpR op_eq (pe_callB (cr_lenH (K := K) rfl) (by rfl) B.len boot_len (pa_cons (pv 2) pa_nil)) pe_int (nomark _))
 (pss_one (ps_ret pe_non))
 pss_nil)
 (pss_one (ps_ret (pe_ix (ix_listH (K := K) rfl) (pv 2) pe_int (fun _ _ => rfl)))))), ?_⟩
    walk_at "g"
    refine r_setL ha (by omega) fun p c H1 e1 h1 hc => ?_
    walk_at "g"
    refine r_sortedSet h1 (by omega) fun out q H2 e2 h2 hm hlen => ?_
    walk_at "g"
    have hout : ∀ j : Int, j ∈ out ↔ j ∈ ns := fun j => by
      rw [hm j, decide_eq_true_eq]
    refine r_kLcP wk_list (fun t ys _ => ys = ((out.take t).filter fun j => decide (m ≤ ns.count j)).map V.int) (by rw [List.length_map]; omega) (fun _ => rfl) (fun H' e => SqL.of (e _ _ h2)) rfl (fun _ _ _ _ _ h => h) (fun t ys x H3 ht e3 hA hv F F0 f1 f0 => ?_) fun D ys H3 _ e3 hD hA => ?_
    · rw [List.length_map] at ht
      have hx : x = V.int out[t] := by
        rw [List.getElem?_map, List.getElem?_eq_getElem ht] at hv
        exact (Option.some.inj hv).symm
      have htk : out.take (t + 1) = out.take t ++ [out[t]] := by
        rw [List.take_add_one, List.getElem?_eq_getElem ht]
        rfl
      subst hx hA
      walk_at "g"
      refine r_kEl (fun hb => ?_) fun hb => ?_
      · walk_at "g"
        refine f1 _ _ (Same.refl _) ?_
        have hb' : m ≤ ns.count out[t] := by
          have := of_decide_eq_true hb
          omega
        rw [htk, List.filter_append, List.map_append]
        simp [hb']
      · refine f0 _ (Same.refl _) ?_
        have hb' : ¬ m ≤ ns.count out[t] := by
          have := of_decide_eq_false hb
          omega
        rw [htk, List.filter_append, List.map_append]
        simp [hb']
    · rw [List.length_map, List.take_length] at hA
      walk_at "g"
      refine r_kIf (fun hb => ?_) fun hb => ?_
      · have h0 : ys.length = 0 := by
          have := of_decide_eq_true hb
          injection this with this
          omega
        walk_at "g"
        refine k _ _ (by walk_at "e") (.inl ⟨rfl, fun j hj => ?_⟩)
        have e0 : out.filter (fun j => decide (m ≤ ns.count j)) = [] := by
          rw [hA, List.length_map] at h0
          exact List.eq_nil_of_length_eq_zero h0
        have h3 := List.filter_eq_nil_iff.mp e0 j ((hout j).mpr hj)
        have h4 : ¬ m ≤ ns.count j := by simpa using h3
        omega
      · walk_at "g"
        cases hf : out.filter (fun j => decide (m ≤ ns.count j)) with
        | nil =>
          rw [hf] at hA
          subst hA
          exact absurd hb (by decide)
        | cons j r =>
          rw [hf] at hA
          subst hA
          refine r_ixL hD (v := V.int j) (atI_nat (j := 0) rfl) ?_
          have hj : j ∈ out.filter fun j => decide (m ≤ ns.count j) := by
            rw [hf]
            exact List.mem_cons_self
          obtain ⟨g1, g2⟩ := List.mem_filter.mp hj
          exact k _ _ (by walk_at "e") (.inr ⟨j, rfl, (hout j).mp g1, of_decide_eq_true g2⟩)
end
end Wg
set_option Elab.async false
set_option linter.all false
set_option maxRecDepth 100000
set_option maxHeartbeats 4000000
namespace Wg
open PySem L2
open PyProof.Rows hiding St
open RZ
abbrev s_all_moved : Stmt := topS 12
theorem sc_all_moved : FnScope ["hands", "reads", "seen", "begin", "one", "other"] ["hands", "reads"] (defScope s_all_moved) := ⟨rfl, rfl, rfl, by decide +kernel, rfl, by decide +kernel, by decide +kernel⟩
/-- handed: who moved between collect i and the next -/
def mvH (n : Nat) (f : Nat → Ob) (i : Nat) : List Int := chg n (fun j => f (i * n + j)) (fun j => f ((i + 1) * n + j))
section
variable {P : Program} {w : World} {K : PySem.W.Frag} {mg : Str → Option Value} {base : Heap}
theorem mul_cast (i n : Nat) : (0 + (i : Int) * (n : Int)) = ((i * n : Nat) : Int) := by
  rw [Int.zero_add, Int.natCast_mul]
def sp_all_moved : Sp := fun vs H Q _ => ∃ (a : Addr) (rs : List V) (n k : Nat) (f : Nat → Ob), vs = [.int n, .ref a] ∧ H a = some (.tup rs) ∧ rs.length = k * n ∧ 2 ≤ k ∧ rs.length ≤ 500 ∧ 0 < n ∧ n ≤ 5 ∧ Row H (Own3 H n) rs f ∧
  (∀ i, i < k - 1 → (seenTo (mvH n f) i).length ≤ 900) ∧ ∀ p H', Same H H' → H' p = some (.lst ((seenTo (mvH n f) (k - 1)).map V.int)) → Q (.ref p) H'
theorem ok_all_moved (B : Blt mg) (C_changed_at : Cal P w K mg base "changed_at" 1 ["one", "other", "at"] sp_changed) (D : Dfn K mg "all_moved" "all_moved" s_all_moved) : Cal P w K mg base "all_moved" 2 ["hands", "reads"] sp_all_moved := by
  refine cal_of D sc_all_moved (fun vs H Q E h => ?_) (fun _ _ _ _ _ _ us hl => match us, hl with | [_, _], _ => rfl) (fun f cdv A outer s H vs Q E hr h => ?_)
  · obtain ⟨a, rs, n, k, f, rfl, _⟩ := h
    rfl
  · obtain ⟨a, rs, n, m, f, rfl, ha, hL, hm2, hm, hn, hn5, rx, hfew, k⟩ := h
    have hLm : m * n ≤ 500 := by
      rw [← hL]
      exact hm
    have hmn : m * n = (m - 2) * n + 2 * n := by
      rw [← Nat.add_mul]
      congr 1
      omega
    have hm1 : (m - 1) * n = (m - 2) * n + n := by
      rw [show m - 1 = (m - 2) + 1 by omega, Nat.add_mul, Nat.one_mul]
    refine ⟨_, (pss_cons (ps_set (i := 2) sc_all_moved.nd rfl (by first | exact Or.inl rfl | exact Or.inr rfl) (pe_lst pa_nil))
 (pss_cons (ps_for PassesOwn.never rfl (pi_range3 (by rfl) B.range (pa_cons pe_int (pa_cons (pe_op op_add (pe_op op_sub (pe_callB (cr_lenH (K := K) rfl) (by rfl) B.len boot_len (pa_cons (pv 1) pa_nil)) (pe_op op_mul pe_int (pv 0))) pe_int) (pa_cons (pv 0) pa_nil)))) (pg_name (i := 3) sc_all_moved.nd rfl (by first | exact Or.inl rfl | exact Or.inr rfl))
 (pss_cons (ps_set (i := 4) sc_all_moved.nd rfl (by first | exact Or.inl rfl | exact Or.inr rfl) (pe_slice (sl_tupH (K := K) rfl) (pv 1) (po_some (pv 3)) (po_some (pe_op op_add (pv 3) (pv 0)))))
 (pss_cons (ps_set (i := 5) sc_all_moved.nd rfl (by first | exact Or.inl rfl | exact Or.inr rfl) (pe_slice (sl_tupH (K := K) rfl) (pv 1) (po_some (pe_op op_add (pv 3) (pv 0))) (po_some (pe_op op_add (pv 3) (pe_op op_mul pe_int (pv 0))))))
 (pss_one (ps_expr (pe_bmH (K := K) rfl (pe_bm PySem.F.plainAttrs_list PySem.F.slot_list_extend PySem.F.type_list_extend mt_extend (pv 2) (pa_cons (pe_cal C_changed_at (hr.mono (by decide)) (by rfl) (pa_cons (pv 4) (pa_cons (pv 5) (pa_cons pe_int pa_nil)))) pa_nil))))))))
 (pss_one (ps_ret (pv 2))))), ?_⟩
    walk_at "g"
    refine r_kLst fun p H1 e1 n1 h1 => ?_
    walk_at "g"
    have ee : ((rs.length : Int) - 2 * (n : Int) + 1) = (((m - 2) * n + 1 : Nat) : Int) := by
      rw [hL, hmn]
      omega
    rw [ee]
    refine r_kRng3 (m := m - 1) hn (by omega) (by omega) (by omega) (by omega) ?_
    refine r_kFor wk_rangeC (fun i σ' H' => ∃ o1 o2 o3, σ' = [some (.int n), some (.ref a), some (.ref p), o1, o2, o3] ∧ Same H H' ∧ H' p = some (.lst ((seenTo (mvH n f) i).map V.int)))
      ⟨none, none, none, rfl, e1, h1⟩ (fun _ _ _ _ _ => trivial) (fun i x σ' H2 H3 hi hP hY => ?_) (fun σ' H2 hP => ?_)
    · obtain ⟨o1, o2, o3, rfl, e2, h2⟩ := hP
      obtain ⟨rfl, hx⟩ := hY
      rw [mul_cast] at hx
      subst hx
      have hin : i * n + 2 * n ≤ m * n := by
        have : (i + 2) * n ≤ m * n := Nat.mul_le_mul_right n (by omega)
        rw [Nat.add_mul] at this
        exact this
      have ha2 := e2 _ _ ha
      walk_at "g"
      refine r_slA ha2 fun b H4 e4 h4 => ?_
      walk_at "g"
      refine r_slA (e4 _ _ ha2) fun c H5 e5 h5 => ?_
      have c1 : cutV rs (some ((i * n : Nat) : Int)) (some (((i * n : Nat) : Int) + (n : Int))) = seg rs (i * n) n := by
        rw [show (((i * n : Nat) : Int) + (n : Int)) = ((i * n + n : Nat) : Int) by omega, cut_seg six_pos six_pos]
        congr 1 <;> omega
      have c2 : cutV rs (some (((i * n : Nat) : Int) + (n : Int))) (some (((i * n : Nat) : Int) + 2 * (n : Int))) = seg rs ((i + 1) * n) n := by
        rw [show (((i * n : Nat) : Int) + (n : Int)) = ((i * n + n : Nat) : Int) by omega, show (((i * n : Nat) : Int) + 2 * (n : Int)) = ((i * n + 2 * n : Nat) : Int) by omega, cut_seg six_pos six_pos, Nat.add_mul, Nat.one_mul]
        congr 1 <;> omega
      rw [c1] at h4
      rw [c2] at h5
      have q1 : (i + 1) * n = i * n + n := by rw [Nat.add_mul, Nat.one_mul]
      walk_at "g"
      refine ⟨b, c, _, _, n, n, fun j => f (i * n + j), fun j => f ((i + 1) * n + j), rfl, e5 _ _ h4, h5, by rw [seg_len]; omega, by rw [seg_len]; omega, by omega, ?_, ?_, fun q H6 e6 h6 => ?_⟩
      · intro j v hv
        exact (rx _ v (seg_some hv).2).tx (tx_same (e2.trans (e4.trans e5)))
      · intro j v hv
        exact (rx _ v (seg_some hv).2).tx (tx_same (e2.trans (e4.trans e5)))
      · walk_at "g"
        have hp6 : H6 p = some (.lst ((seenTo (mvH n f) i).map V.int)) := by walk_at "t"
        refine r_extend hp6 h6 ?_ ?_
        · have h7 := hfew i hi
          have h8 : (chg n (fun j => f (i * n + j)) (fun j => f ((i + 1) * n + j))).length ≤ n := giv_len
          rw [List.length_map, List.length_map]
          omega
        · walk_at "g"
          refine ⟨_, _, _, rfl, same_mut (e2.trans (e4.trans (e5.trans e6))) n1, ?_⟩
          rw [upd_same, ← List.map_append]
          rfl
    · obtain ⟨o1, o2, o3, rfl, e2, h2⟩ := hP
      walk_at "g"
      exact k p H2 e2 h2
end
end Wg
set_option Elab.async false
set_option linter.all false
set_option maxRecDepth 100000
set_option maxHeartbeats 4000000
namespace Wg
open PySem L2
open PyProof.Rows hiding St
open RZ
abbrev s_look_handed : Stmt := topS 13
theorem sc_look_handed : FnScope ["hands", "moves", "reads", "one", "other", "mover"] ["hands", "moves", "reads"] (defScope s_look_handed) := ⟨rfl, rfl, rfl, by decide +kernel, rfl, by decide +kernel, by decide +kernel⟩
section
variable {K : PySem.W.Frag} {H : Hp} {Q : VK}
theorem dp_ints : ∀ ns : List Int, DpAll K H (ns.map V.int) (ns.map PyData.int)
  | [] => .nil
  | n :: ns => .cons (.int n) (dp_ints ns)
theorem r_eqNil {p q : Addr} {ns : List Int} (h1 : H p = some (.lst (ns.map V.int))) (h2 : H q = some (.lst [])) (k : Q (.bl (decide (ns = []))) H) : rEqD K (.ref p) (.ref q) H Q := by
  refine r_eqD (d := .list (ns.map PyData.int)) (e := .list []) (.lst (SqL.of h1) (dp_ints ns)) (.lst (SqL.of h2) .nil) (PySem.W.ke_shaped_ints ns) (PySem.W.ke_shaped_ints []) ?_
  have e : PyData.eqv (.list (ns.map PyData.int)) (.list []) = decide (ns = []) := by
    cases ns with
    | nil => rfl
    | cons n ns => rfl
  rw [e]
  exact k
end
theorem mvH_mem {n : Nat} {f : Nat → Ob} {i : Nat} {j : Int} (h : j ∈ mvH n f i) : ∃ a : Nat, a < n ∧ j = (a : Int) := by
  obtain ⟨a, ha, _, e⟩ := giv_mem h
  exact ⟨a, ha, e⟩
theorem seenH_mem {n k : Nat} {f : Nat → Ob} {j : Int} (h : j ∈ seenTo (mvH n f) k) : ∃ a : Nat, a < n ∧ j = (a : Int) := by
  have q := seenTo_mem (mv := mvH n f) (S := (List.range n).map fun a : Nat => (a : Int)) k (fun i _ j hj => by
    obtain ⟨a, ha, e⟩ := mvH_mem hj
    exact List.mem_map.mpr ⟨a, List.mem_range.mpr ha, e.symm⟩) j h
  obtain ⟨a, ha, e⟩ := List.mem_map.mp q
  exact ⟨a, List.mem_range.mp ha, e.symm⟩
/-- what a step of a look may be: it tells a state of n values -/
def Told (H : Hp) (n : Nat) (v : V) : Prop := ∃ p u, v = .ref p ∧ H p = some (.tup [.str "told", u]) ∧ StV H n u
/-- .. or reads the box ks -/
def Reads1 (H : Hp) (ks : List Key) (v : V) : Prop := ∃ p q, v = .ref p ∧ H p = some (.tup [.str "read", .ref q]) ∧ H q = some (.tup (ks.map kV))
/-- .. or writes it -/
def Writes1 (H : Hp) (ks : List Key) (v : V) : Prop := ∃ p q i, v = .ref p ∧ H p = some (.tup [.str "write", .ref q, .int i]) ∧ H q = some (.tup (ks.map kV))
section
variable {P : Program} {w : World} {K : PySem.W.Frag} {mg : Str → Option Value} {base : Heap}
def ResH (H : Hp) (n m : Nat) (f : Nat → Ob) (L : Nat) (v : V) : Prop :=
  Told H n v ∨ (Reads1 H [.inr "own", .inl ((L % n : Nat) : Int)] v ∧ ∀ k, 2 ≤ k → L = k * n → Going (mvH n f) m (k - 1))
def sp_look_handed : Sp := fun vs H Q _ => ∃ (a : Addr) (rs : List V) (n m : Nat) (f : Nat → Ob), vs = [.int n, .int m, .ref a] ∧ H a = some (.tup rs) ∧ 0 < n ∧ n ≤ 5 ∧ rs.length ≤ 400 ∧ Row H (Own3 H n) rs f ∧
  (∀ i, i * n + n ≤ rs.length → (seenTo (mvH n f) i).length ≤ 63) ∧ ∀ v H', Same H H' → ResH H' n m f rs.length v → Q v H'
theorem ok_look_handed (B : Blt mg) (C_last_collects : Cal P w K mg base "last_collects" 1 ["reads", "many"] sp_last) (C_changed_at : Cal P w K mg base "changed_at" 1 ["one", "other", "at"] sp_changed) (C_values_of : Cal P w K mg base "values_of" 1 ["collect"] sp_values)
    (C_seen_often : Cal P w K mg base "seen_often" 1 ["seen", "moves"] sp_often) (C_all_moved : Cal P w K mg base "all_moved" 2 ["hands", "reads"] sp_all_moved) (C_own_read : Cal P w K mg base "own_read" 1 ["place"] sp_own_read)
    (D : Dfn K mg "look_handed" "look_handed" s_look_handed) : Cal P w K mg base "look_handed" 3 ["hands", "moves", "reads"] sp_look_handed := by
  refine cal_of D sc_look_handed (fun vs H Q E h => ?_) (fun _ _ _ _ _ _ us hl => match us, hl with | [_, _, _], _ => rfl) (fun f cdv A outer s H vs Q E hr h => ?_)
  · obtain ⟨a, rs, n, m, f, rfl, _⟩ := h
    rfl
  · obtain ⟨a, rs, n, m, f, rfl, ha, hn, hn5, hL, rx, hfew, k⟩ := h
    refine ⟨_, (pss_cons (ps_if (PW.pt (pw_and (pt_cmpR op_eq (pe_op op_mod (pe_callB (cr_lenH (K := K) rfl) (by rfl) B.len boot_len (pa_cons (pv 2) pa_nil)) (pv 0)) pe_int (nomark _)) (pw_and1 (pt_cmpR op_ge (pe_callB (cr_lenH (K := K) rfl) (by rfl) B.len boot_len (pa_cons (pv 2) pa_nil)) (pe_op op_mul pe_int (pv 0)) (nomark _)))))
 (pss_cons (ps_asg (pe_cal C_last_collects (hr.mono (by decide)) (by rfl) (pa_cons (pv 2) (pa_cons (pv 0) pa_nil))) (pg_tup (by rfl) (pgs_cons (pg_name (i := 3) sc_look_handed.nd rfl (by first | exact Or.inl rfl | exact Or.inr rfl)) (pgs_cons (pg_name (i := 4) sc_look_handed.nd rfl (by first | exact Or.inl rfl | exact Or.inr rfl)) pgs_nil))))
 (pss_cons (ps_if (pt_cmpR (op_eqD hr.units) (pe_cal C_changed_at (hr.mono (by decide)) (by rfl) (pa_cons (pv 3) (pa_cons (pv 4) (pa_cons pe_int pa_nil)))) (pe_lst pa_nil) (nomark _))
 (pss_one (ps_ret (pe_tup (pa_cons pe_str (pa_cons (pe_cal C_values_of (hr.mono (by decide)) (by rfl) (pa_cons (pv 4) pa_nil)) pa_nil)))))
 pss_nil)
 (pss_cons (ps_set (i := 5) sc_look_handed.nd rfl (by first | exact Or.inl rfl | exact Or.inr rfl) (pe_cal C_seen_often (hr.mono (by decide)) (by rfl) (pa_cons (pe_cal C_all_moved (hr.mono (by decide)) (by rfl) (pa_cons (pv 0) (pa_cons (pv 2) pa_nil))) (pa_cons (pv 1) pa_nil))))
 (pss_one (ps_if (pt_cmpR op_notNon (pv 5) pe_non (nomark _))
 (pss_one (ps_ret (pe_tup (pa_cons pe_str (pa_cons (pe_ix (ix_tupH (K := K) rfl) (pe_ix (ix_tupH (K := K) rfl) (pv 4) (pv 5) (fun _ _ => rfl)) pe_int (fun _ _ => rfl)) pa_nil)))))
 pss_nil)))))
 pss_nil)
 (pss_one (ps_ret (pe_cal C_own_read (hr.mono (by decide)) (by rfl) (pa_cons (pe_op op_mod (pe_callB (cr_lenH (K := K) rfl) (by rfl) B.len boot_len (pa_cons (pv 2) pa_nil)) (pv 0)) pa_nil))))), ?_⟩
    have n0 : (0 : Int) < (n : Int) := by omega
    have last : ∀ σ : L2.St, σ[0]? = some (some (.int n)) → σ[2]? = some (some (.ref a)) → ∀ H1, Same H H1 → (∀ k, 2 ≤ k → rs.length = k * n → Going (mvH n f) m (k - 1)) →
        tRet (tCal sp_own_read E0 (tCons (tOp (rI (fun _ j => 0 < j) fun i j => .int (i % j)) (tCB (rLen K) (tCons (tVar 2) tNil)) (tVar 0)) tNil)) { nx := fun _ H' => Q .non H', rt := Q } σ H1 := fun σ g0 g2 H1 e1 hg => by
      walk_at "g"
      refine r_var g2 ?_
      walk_at "g"
      refine r_var g0 ?_
      refine r_I n0 ?_
      walk_at "g"
      refine ⟨_, rfl, fun p q H2 e2 h2 h3 => ?_⟩
      refine k _ H2 (e1.trans e2) (.inr ⟨⟨p, q, rfl, h2, ?_⟩, hg⟩)
      rw [h3, Int.natCast_emod]
      rfl
    walk_at "g"
    refine r_I n0 ?_
    walk_at "g"
    refine r_kAnd (fun hb => ?_) fun hb => ?_
    · have hm0 : rs.length % n = 0 := by
        have := of_decide_eq_true hb
        injection this with this
        omega
      walk_at "g"
      refine r_kIf (fun hb2 => ?_) fun hb2 => ?_
      · have h2n : 2 * n ≤ rs.length := by
          have := of_decide_eq_true hb2
          omega
        obtain ⟨q, hq⟩ : ∃ q, rs.length = q * n := ⟨rs.length / n, by rw [Nat.div_mul_cancel (Nat.dvd_of_mod_eq_zero hm0)]⟩
        have hq2 : 2 ≤ q := by
          refine Nat.le_of_not_lt fun z => ?_
          have : q * n ≤ 1 * n := Nat.mul_le_mul_right n (by omega)
          omega
        have hq100 : q ≤ 400 := by
          have : q * 1 ≤ q * n := Nat.mul_le_mul_left q hn
          omega
        have s1 : rs.length - 2 * n = (q - 2) * n := by
          rw [hq, ← Nat.sub_mul]
        have s2 : rs.length - n = (q - 2 + 1) * n := by
          rw [hq, show q - 2 + 1 = q - 1 by omega, Nat.sub_mul, Nat.one_mul]
        walk_at "g"
        refine ⟨a, rs, n, rfl, ha, hn, h2n, fun p b c H1 e1 h1 hb1 hc1 => ?_⟩
        rw [s1] at hb1
        rw [s2] at hc1
        have lb : (seg rs ((q - 2) * n) n).length = n := by
          rw [seg_len]
          omega
        have lc : (seg rs ((q - 2 + 1) * n) n).length = n := by
          rw [seg_len]
          omega
        have rx1 : ∀ H', Tx H H' → Row H' (Own3 H' n) rs f := fun H' e j v hv => (rx j v hv).tx e
        walk_at "g"
        refine ⟨b, c, _, _, n, n, fun j => f ((q - 2) * n + j), fun j => f ((q - 2 + 1) * n + j), rfl, hb1, hc1, lb, lc, by omega, (rx1 _ (tx_same e1)).seg _ _, (rx1 _ (tx_same e1)).seg _ _, fun r H2 e2 h2 => ?_⟩
        walk_at "g"
        refine r_kLst fun z H3 e3 n3 h3 => ?_
        refine r_eqNil (ns := mvH n f (q - 2)) (e3 _ _ h2) h3 ?_
        walk_at "g"
        refine r_kIf (fun hb3 => ?_) fun hb3 => ?_
        · walk_at "g"
          refine ⟨c, _, rfl, by walk_at "t", by omega, fun v hv => ?_, fun v H4 e4 hv => ?_⟩
          · obtain ⟨j, hj, ej⟩ := List.getElem_of_mem hv
            obtain ⟨p', x', w', e', h', _⟩ := (rx1 _ (tx_same (e1.trans (e2.trans e3)))).seg ((q - 2 + 1) * n) n j v (by rw [List.getElem?_eq_getElem hj, ej])
            exact ⟨p', x', _, e', h'⟩
          · walk_at "g"
            refine r_kTup fun p5 H5 e5 n5 h5 => ?_
            rw [lc] at hv
            exact k _ H5 (by walk_at "e") (.inl ⟨p5, v, rfl, h5, hv.tx (tx_same e5)⟩)
        · have hne : mvH n f (q - 2) ≠ [] := of_decide_eq_false hb3
          walk_at "g"
          refine ⟨a, rs, n, q, f, rfl, by walk_at "t", hq, hq2, by omega, hn, hn5, rx1 _ (tx_same (e1.trans (e2.trans e3))), fun i hi => ?_, fun p4 H4 e4 h4 => ?_⟩
          · have : i * n + n ≤ rs.length := by
              have : (i + 1) * n ≤ q * n := Nat.mul_le_mul_right n (by omega)
              rw [Nat.add_mul, Nat.one_mul] at this
              omega
            have := hfew i this
            omega
          walk_at "g"
          refine ⟨p4, _, m, rfl, h4, ?_, fun v H5 e5 hv => ?_⟩
          · have : (q - 1) * n + n ≤ rs.length := by
              rw [hq, Nat.sub_mul, Nat.one_mul]
              omega
            have := hfew (q - 1) this
            omega
          walk_at "g"
          rcases hv with ⟨rfl, hall⟩ | ⟨j, rfl, hj, hcnt⟩
          · refine r_kIf (fun z => nomatch z) fun _ => ?_
            refine last _ rfl rfl H5 (by walk_at "e") fun k' hk' hL' => ?_
            have : k' = q := Nat.eq_of_mul_eq_mul_right hn (hL'.symm.trans hq)
            subst this
            exact ⟨by rw [show k' - 1 - 1 = k' - 2 by omega]; exact hne, hall⟩
          · obtain ⟨j', hj', rfl⟩ := seenH_mem hj
            refine r_kIf (fun _ => ?_) fun z => nomatch z
            obtain ⟨u, gu, iu⟩ := at_lt (xs := seg rs ((q - 2 + 1) * n) n) (j := j') (by omega)
            obtain ⟨p', x', w', rfl, h', hw'⟩ := (rx1 _ (tx_same (e1.trans (e2.trans e3)))).seg ((q - 2 + 1) * n) n j' u gu
            walk_at "g"
            refine r_ixT (by walk_at "t") iu ?_
            walk_at "g"
            refine r_kTup fun p6 H6 e6 n6 h6 => ?_
            exact k _ H6 (by walk_at "e") (.inl ⟨p6, w', rfl, h6, hw'.tx (by walk_at "x")⟩)
      · refine last _ rfl rfl H (Same.refl _) fun k hk hL => ?_
        have : 2 * n ≤ k * n := Nat.mul_le_mul_right n hk
        have := of_decide_eq_false hb2
        omega
    · refine r_kIf (fun z => nomatch z) fun _ => ?_
      refine last _ rfl rfl H (Same.refl _) fun k hk hL => ?_
      rw [hL] at hb
      have := of_decide_eq_false hb
      exact absurd (by rw [Int.natCast_mul, Int.mul_emod_left]) this
end
end Wg
set_option Elab.async false
set_option linter.all false
set_option maxRecDepth 100000
set_option maxHeartbeats 4000000
namespace Wg
open PySem L2
open PyProof.Rows hiding St
open RZ
/-! ### manners -/
inductive Mn where
  | handed (n t w : Nat)
  | signs (n tg sh w : Nat)
  | shared (n p tg sh w : Nat)
def Mn.vs : Mn → List V
  | .handed n t w => [.str "handed", .int n, .int t, .int w]
  | .signs n tg sh w => [.str "signs", .int n, .int tg, .int sh, .int w]
  | .shared n p tg sh w => [.str "shared", .int n, .int p, .int tg, .int sh, .int w]
def Mn.n : Mn → Nat
  | .handed n _ _ => n
  | .signs n _ _ _ => n
  | .shared n _ _ _ _ => n
def Mn.w : Mn → Nat
  | .handed _ _ w => w
  | .signs _ _ _ w => w
  | .shared _ _ _ _ w => w
def Mn.pl : Mn → Nat
  | .handed n _ _ => n
  | .signs n _ _ _ => n
  | .shared _ p _ _ _ => p
def Mn.ok : Mn → Prop
  | .handed n t w => 0 < n ∧ n ≤ 5 ∧ 0 < w ∧ w ≤ 4 ∧ t ≤ 9 ∧ t ≠ 1
  | .signs n tg sh w => 0 < n ∧ n ≤ 5 ∧ 0 < w ∧ w ≤ 4 ∧ tg ≤ 1 ∧ sh ≤ 1
  | .shared n p tg sh w => 0 < n ∧ n ≤ 5 ∧ 0 < w ∧ w ≤ 4 ∧ tg ≤ 1 ∧ sh ≤ 1 ∧ 0 < p ∧ p ≤ 4
def Mn.rounds (m : Mn) : Nat := (m.n - 1) * (m.w - 1) + 1
def Mn.most : Mn → Nat
  | .handed n t w => n * ((Mn.handed n t w).rounds + 1)
  | .signs n tg sh w => (Mn.signs n tg sh w).rounds * (2 * n + 2 * sh * (n - 1))
  | .shared n p tg sh w => (Mn.shared n p tg sh w).rounds * (2 * p + 3 * sh * (n - 1)) + if 1 < n then 1 else 0
/-! ### boxes: their names, the forms of their contents -/
def kk (x : Str) (j : Nat) : List Key := [.inr x, .inl (j : Int)]
def kk2 (x : Str) (i j : Nat) : List Key := [.inr x, .inl (i : Int), .inl (j : Int)]
def Need (m : Mn) (ks : List Key) : Prop := (∃ k, k < m.pl ∧ ks = kk "box" k) ∨ (∃ j, j < m.n ∧ ks = kk "own" j) ∨ (∃ j, j < m.n ∧ ks = kk "view" j) ∨
  (∃ i j, i < m.n ∧ j < m.n ∧ ks = kk2 "call" i j) ∨ (∃ i j, i < m.n ∧ j < m.n ∧ ks = kk2 "sign" i j)
def OwnF (H : Hp) : Mn → V → Prop
  | .handed n _ _, v => ∃ o, Own3 H n o v
  | .signs n _ _ _, v => ∃ o, Own4 H n o v
  | .shared _ _ _ _ _, _ => True
theorem OwnF.tx {H H' : Hp} {m : Mn} {v : V} (h : OwnF H m v) (e : Tx H H') : OwnF H' m v := by
  cases m with
  | handed n t w =>
    obtain ⟨o, h⟩ := h
    exact ⟨o, h.tx e⟩
  | signs n tg sh w =>
    obtain ⟨o, h⟩ := h
    exact ⟨o, h.tx e⟩
  | shared => exact trivial
structure CF (H : Hp) (m : Mn) (x : Str) (v : V) : Prop where
  own : x = "own" → OwnF H m v
  box : x = "box" → ∃ o, BoxV H o v
  call : x = "call" → ∃ i, v = .int i
  sign : x = "sign" → ∃ i, v = .int i
  view : x = "view" → StV H m.pl v
theorem CF.tx {H H' : Hp} {m : Mn} {x : Str} {v : V} (h : CF H m x v) (e : Tx H H') : CF H' m x v :=
  ⟨fun z => (h.own z).tx e, fun z => let ⟨o, q⟩ := h.box z; ⟨o, q.tx e⟩, h.call, h.sign, fun z => (h.view z).tx e⟩
/-! ### what a look has seen so far, handed -/
def fput (f : Nat → Ob) (L : Nat) (o : Ob) : Nat → Ob := fun i => if i = L then o else f i
theorem fput_lt {f : Nat → Ob} {L i : Nat} {o : Ob} (h : i < L) : fput f L o i = f i := if_neg (Nat.ne_of_lt h)
theorem fput_eq {f : Nat → Ob} {L : Nat} {o : Ob} : fput f L o L = o := if_pos rfl
theorem Row.snoc {H H' : Hp} {C C' : Ob → V → Prop} {rs : List V} {f : Nat → Ob} {o : Ob} {x : V} (r : Row H C rs f) (hc : ∀ i v, C (f i) v → C' (f i) v) (hx : C' o x) : Row H' C' (rs ++ [x]) (fput f rs.length o) := fun i v h => by
  have hi : i < rs.length + 1 := by
    have := (List.getElem?_eq_some_iff.mp h).1
    rw [List.length_append, List.length_singleton] at this
    exact this
  by_cases e : i < rs.length
  · rw [List.getElem?_append_left e] at h
    rw [fput_lt e]
    exact hc i v (r i v h)
  · have e' : i = rs.length := by omega
    subst e'
    rw [List.getElem?_append_right (Nat.le_refl _), Nat.sub_self] at h
    have : x = v := Option.some.inj h
    subst this
    rw [fput_eq]
    exact hx
def GoodH (H : Hp) (n w own : Nat) (c0 : V) (rs : List V) : Prop := ∃ (f : Nat → Ob) (o0 : Ob), Own3 H n o0 c0 ∧ Row H (Own3 H n) rs f ∧ (∀ i, i < rs.length → i % n = own → (f i).a = o0.a) ∧
  (∀ k, 2 ≤ k → k * n < rs.length → Going (mvH n f) w (k - 1)) ∧ rs.length ≤ n * ((n - 1) * (w - 1) + 1 + 1)
theorem mvH_congr {n i : Nat} {f g : Nat → Ob} (h : ∀ j, j < (i + 2) * n → f j = g j) : mvH n f i = mvH n g i := by
  have e1 : (i + 1) * n = i * n + n := by rw [Nat.add_mul, Nat.one_mul]
  have e2 : (i + 2) * n = i * n + 2 * n := Nat.add_mul i 2 n
  refine giv_congr (fun j hj => ?_) fun _ _ => rfl
  simp only [h (i * n + j) (by omega), h ((i + 1) * n + j) (by omega)]
theorem mvH_oth {n own i : Nat} {f : Nat → Ob} {a : Int} (hn : n ≤ 5) (ho : own < n) (hf : ∀ j, j < (i + 2) * n → j % n = own → (f j).a = a) : ∀ j ∈ mvH n f i, j ∈ oth own n := by
  intro j hj
  obtain ⟨b, hb, hc, rfl⟩ := giv_mem hj
  have e1 : (i + 1) * n = i * n + n := by rw [Nat.add_mul, Nat.one_mul]
  have e2 : (i + 2) * n = i * n + 2 * n := Nat.add_mul i 2 n
  have hbo : b ≠ own := by
    intro z
    subst z
    have q1 : (i * n + b) % n = b := by rw [Nat.mul_comm, Nat.mul_add_mod, Nat.mod_eq_of_lt hb]
    have q2 : ((i + 1) * n + b) % n = b := by rw [Nat.mul_comm, Nat.mul_add_mod, Nat.mod_eq_of_lt hb]
    have h1 := hf (i * n + b) (by omega) q1
    have h2 := hf ((i + 1) * n + b) (by omega) q2
    rw [h1, h2] at hc
    simp at hc
  rw [← giv_oth ho hn]
  refine List.mem_map.mpr ⟨b, List.mem_filter.mpr ⟨List.mem_range.mpr hb, ?_⟩, rfl⟩
  have : ¬ ((b : Int) = (own : Int)) := by omega
  simp [this]
theorem goodH_go {n w own : Nat} {rs : List V} {f : Nat → Ob} {a : Int} (hn : n ≤ 5) (ho : own < n) (hw : w ≤ 4) (h2 : ∀ i, i < rs.length → i % n = own → (f i).a = a)
    (h3 : ∀ k, 2 ≤ k → k * n < rs.length → Going (mvH n f) w (k - 1)) : ∀ i, i * n + n ≤ rs.length → (seenTo (mvH n f) i).length ≤ 63 := by
  intro i hi
  cases i with
  | zero => exact Nat.zero_le _
  | succ j =>
    have e1 : (j + 1) * n = j * n + n := by rw [Nat.add_mul, Nat.one_mul]
    have hs : (seenTo (mvH n f) j).length ≤ (oth own n).length * (w - 1) := seen_few (fun i hi' j' hj' => mvH_oth (a := a) hn ho (fun j'' hj'' => h2 j'' (by
      have : (i + 2) * n ≤ (j + 1) * n := Nat.mul_le_mul_right n (by omega)
      omega)) j' hj') fun hj => by
        have := h3 (j + 1) (by omega) (by omega)
        exact this
    rw [oth_len] at hs
    have hm : (n - 1) * (w - 1) ≤ 4 * 3 := Nat.mul_le_mul (by omega) (by omega)
    have hg : (mvH n f j).length ≤ n := giv_len
    show (seenTo (mvH n f) j ++ mvH n f j).length ≤ 63
    rw [List.length_append]
    omega
theorem goodH_snoc {H H' : Hp} {n w own : Nat} {c0 x : V} {rs : List V} {f : Nat → Ob} {o0 o : Ob} (hn : 0 < n) (hn5 : n ≤ 5) (ho : own < n) (g0 : Own3 H n o0 c0) (g1 : Row H (Own3 H n) rs f) (g2 : ∀ i, i < rs.length → i % n = own → (f i).a = o0.a)
    (g3 : ∀ k, 2 ≤ k → k * n < rs.length → Going (mvH n f) w (k - 1)) (hg : ∀ k, 2 ≤ k → rs.length = k * n → Going (mvH n f) w (k - 1)) (e : Tx H H') (hx : Own3 H' n o x) (hc : rs.length % n = own → x = c0) :
    GoodH H' n w own c0 (rs ++ [x]) := by
  have all : ∀ k, 2 ≤ k → k * n ≤ rs.length → Going (mvH n f) w (k - 1) := fun k hk hl => by
    rcases Nat.lt_or_eq_of_le hl with z | z
    · exact g3 k hk z
    · exact hg k hk z.symm
  refine ⟨fput f rs.length o, o0, g0.tx e, g1.snoc (fun i v h => h.tx e) hx, fun i hi hm => ?_, fun k hk hl => ?_, ?_⟩
  · rw [List.length_append, List.length_singleton] at hi
    by_cases z : i < rs.length
    · rw [fput_lt z]
      exact g2 i z hm
    · have : i = rs.length := by omega
      subst this
      rw [fput_eq]
      have := hc hm
      subst this
      obtain ⟨p, a1, w1, e1, h1, _⟩ := hx
      obtain ⟨p', a2, w2, e2, h2, _⟩ := g0.tx e
      rw [e1] at e2
      cases e2
      rw [h1] at h2
      injection h2 with h2
      injection h2 with h2
      injection h2 with _ h2
      injection h2 with h2 _
      injection h2
  · rw [List.length_append, List.length_singleton] at hl
    have q := all k hk (by omega)
    have cg : ∀ i, i + 2 ≤ k → mvH n (fput f rs.length o) i = mvH n f i := fun i hi => mvH_congr fun j hj => fput_lt (by
      have : (i + 2) * n ≤ k * n := Nat.mul_le_mul_right n hi
      omega)
    have cs : seenTo (mvH n (fput f rs.length o)) (k - 1) = seenTo (mvH n f) (k - 1) := seenTo_congr _ fun i hi => cg i (by omega)
    unfold Going
    rw [cs, cg (k - 1 - 1) (by omega)]
    exact q
  · rw [List.length_append, List.length_singleton]
    refine Nat.le_of_not_lt fun z => ?_
    have hr := rounds_few (mv := mvH n f) (S := oth own n) (w := w) (k := (n - 1) * (w - 1) + 1) (fun i hi => mvH_oth (a := o0.a) hn5 ho fun j hj => g2 j (by
      have : (i + 2) * n ≤ ((n - 1) * (w - 1) + 1 + 1) * n := Nat.mul_le_mul_right n (by omega)
      rw [Nat.mul_comm n] at z
      omega)) fun i hi hi2 => by
        have : (i + 1) * n ≤ ((n - 1) * (w - 1) + 1 + 1) * n := Nat.mul_le_mul_right n (by omega)
        rw [Nat.mul_comm n] at z
        exact all (i + 1) (by omega) (by omega)
    rw [oth_len] at hr
    omega
end Wg
set_option Elab.async false
set_option linter.all false
set_option maxRecDepth 100000
set_option maxHeartbeats 4000000
namespace Wg
open PySem L2
open PyProof.Rows hiding St
open RZ
/-! ### rounds of one length -/
theorem oth_mem {i n a : Nat} (h : a < n - 1) : ((ot i a : Nat) : Int) ∈ oth i n := List.mem_map.mpr ⟨a, List.mem_range.mpr h, rfl⟩
structure Rnd (n own ln : Nat) (mv : (Nat → Ob) → Nat → List Int) : Prop where
  pos : 0 < ln
  cong : ∀ f g k, (∀ i, i < (k + 1) * ln → f i = g i) → mv f k = mv g k
  mem : ∀ f k j, j ∈ mv f k → j ∈ oth own n
  len : ∀ f k, (mv f k).length ≤ n
def GoR (mv : (Nat → Ob) → Nat → List Int) (f : Nat → Ob) (w ln L : Nat) : Prop := ∀ k, 1 ≤ k → k * ln < L → Going (mv f) w k
section
variable {n own ln w L : Nat} {mv : (Nat → Ob) → Nat → List Int} {f : Nat → Ob} {o : Ob}
theorem GoR.all (g : GoR mv f w ln L) (h : ∀ k, 1 ≤ k → L = k * ln → Going (mv f) w k) : ∀ k, 1 ≤ k → k * ln ≤ L → Going (mv f) w k := fun k hk hl => by
  rcases Nat.lt_or_eq_of_le hl with z | z
  · exact g k hk z
  · exact h k hk z.symm
theorem GoR.snoc (r : Rnd n own ln mv) (g : GoR mv f w ln L) (h : ∀ k, 1 ≤ k → L = k * ln → Going (mv f) w k) : GoR mv (fput f L o) w ln (L + 1) ∧ L + 1 ≤ ((n - 1) * (w - 1) + 1) * ln := by
  have all := g.all h
  refine ⟨fun k hk hl => ?_, ?_⟩
  · have q := all k hk (by omega)
    have cg : ∀ i, i < k → mv (fput f L o) i = mv f i := fun i hi => r.cong _ _ _ fun j hj => fput_lt (by
      have : (i + 1) * ln ≤ k * ln := Nat.mul_le_mul_right ln hi
      omega)
    unfold Going
    rw [seenTo_congr k cg, cg (k - 1) (by omega)]
    exact q
  · refine Nat.le_of_not_lt fun z => ?_
    have hr := rounds_few (mv := mv f) (S := oth own n) (w := w) (k := (n - 1) * (w - 1) + 1) (fun i _ j hj => r.mem f i j hj) fun i hi hi2 => by
      have : i * ln ≤ ((n - 1) * (w - 1) + 1) * ln := Nat.mul_le_mul_right ln hi2
      exact all i hi (by omega)
    rw [oth_len] at hr
    omega
theorem GoR.few (r : Rnd n own ln mv) (hn : n ≤ 5) (hw : w ≤ 4) (g : GoR mv f w ln L) : ∀ k, k * ln ≤ L → (seenTo (mv f) k).length ≤ 63 := fun k hk => by
  cases k with
  | zero => exact Nat.zero_le _
  | succ k =>
    have e1 : (k + 1) * ln = k * ln + ln := by rw [Nat.add_mul, Nat.one_mul]
    have hp := r.pos
    have hs : (seenTo (mv f) k).length ≤ (oth own n).length * (w - 1) := seen_few (fun i _ j hj => r.mem f i j hj) fun hk0 => g k hk0 (by omega)
    rw [oth_len] at hs
    have hm : (n - 1) * (w - 1) ≤ 4 * 3 := Nat.mul_le_mul (by omega) (by omega)
    have hg := r.len f k
    show (seenTo (mv f) k ++ mv f k).length ≤ 63
    rw [List.length_append]
    omega
theorem rounds_bound (r : Rnd n own ln mv) (g : GoR mv f w ln L) {k : Nat} (hk : L = k * ln) : k ≤ (n - 1) * (w - 1) + 1 := by
  cases k with
  | zero => exact Nat.zero_le _
  | succ k =>
    have e1 : (k + 1) * ln = k * ln + ln := by rw [Nat.add_mul, Nat.one_mul]
    have hp := r.pos
    have hr := rounds_few (mv := mv f) (S := oth own n) (w := w) (k := k) (fun i _ j hj => r.mem f i j hj) fun i hi hi2 => by
      have : i * ln ≤ k * ln := Nat.mul_le_mul_right ln hi2
      exact g i hi (by omega)
    rw [oth_len] at hr
    omega
end
/-! ### signs -/
def aS (n sh : Nat) : Nat := 2 * sh * (n - 1)
def lnS (n sh : Nat) : Nat := aS n sh + 2 * n
def isW (n sh x : Nat) : Bool := decide (x < aS n sh) && decide (x % 2 = 1)
def cS (n own tg sh : Nat) (g : Nat → Ob) (a : Nat) : Bool :=
  (decide (tg = 1) && !decide ((g (aS n sh + ot own a)).a = (g (aS n sh + n + ot own a)).a)) ||
  (decide (sh = 1) && !(decide ((g (aS n sh + ot own a)).c.getD own 0 = (g (2 * a)).c.getD own 0) && decide ((g (aS n sh + n + ot own a)).c.getD own 0 = (g (2 * a)).c.getD own 0)))
def mvS (n own tg sh : Nat) (g : Nat → Ob) : List Int := giv (n - 1) (cS n own tg sh g) fun a => ((ot own a : Nat) : Int)
def mvSr (n own tg sh : Nat) (f : Nat → Ob) (k : Nat) : List Int := mvS n own tg sh fun x => f (k * lnS n sh + x)
theorem mvS_congr {n own tg sh : Nat} {g g' : Nat → Ob} (hn : 0 < n) (h : ∀ x, x < lnS n sh → g x = g' x) : mvS n own tg sh g = mvS n own tg sh g' := by
  refine giv_congr (fun a ha => ?_) fun _ _ => rfl
  have ho := ot_lt (i := own) ha
  unfold cS
  rw [h (aS n sh + ot own a) (by unfold lnS; omega), h (aS n sh + n + ot own a) (by unfold lnS; omega), h (2 * a) (by unfold lnS; omega)]
theorem rndS (n own tg sh : Nat) (hn : 0 < n) : Rnd n own (lnS n sh) (mvSr n own tg sh) where
  pos := by
    unfold lnS
    omega
  cong := fun f g k h => mvS_congr hn fun x hx => h _ (by
    rw [Nat.add_mul, Nat.one_mul]
    omega)
  mem := fun f k j hj => by
    obtain ⟨a, ha, _, rfl⟩ := giv_mem hj
    exact oth_mem ha
  len := fun f k => Nat.le_trans giv_len (Nat.sub_le n 1)
def PosS (H : Hp) (n sh : Nat) (rs : List V) (f : Nat → Ob) : Prop := ∀ i v, rs[i]? = some v → isW n sh (i % lnS n sh) = false → Own4 H n (f i) v
def GoodS (H : Hp) (n tg sh w own : Nat) (rs : List V) : Prop := ∃ f : Nat → Ob, PosS H n sh rs f ∧ GoR (mvSr n own tg sh) f w (lnS n sh) rs.length ∧ rs.length ≤ ((n - 1) * (w - 1) + 1) * lnS n sh
theorem snoc_at {rs : List V} {x v : V} {i : Nat} (h : (rs ++ [x])[i]? = some v) : (i < rs.length ∧ rs[i]? = some v) ∨ (i = rs.length ∧ v = x) := by
  by_cases e : i < rs.length
  · rw [List.getElem?_append_left e] at h
    exact .inl ⟨e, h⟩
  · have hi := (List.getElem?_eq_some_iff.mp h).1
    rw [List.length_append, List.length_singleton] at hi
    have e' : i = rs.length := by omega
    subst e'
    rw [List.getElem?_append_right (Nat.le_refl _), Nat.sub_self] at h
    exact .inr ⟨rfl, (Option.some.inj h).symm⟩
theorem goodS_snoc {H H' : Hp} {n tg sh w own : Nat} {rs : List V} {f : Nat → Ob} {o : Ob} {x : V} (hn : 0 < n) (g1 : PosS H n sh rs f) (g2 : GoR (mvSr n own tg sh) f w (lnS n sh) rs.length)
    (hg : ∀ k, 1 ≤ k → rs.length = k * lnS n sh → Going (mvSr n own tg sh f) w k) (e : Tx H H') (hx : isW n sh (rs.length % lnS n sh) = false → Own4 H' n o x) : GoodS H' n tg sh w own (rs ++ [x]) := by
  obtain ⟨q1, q2⟩ := GoR.snoc (o := o) (rndS n own tg sh hn) g2 hg
  refine ⟨fput f rs.length o, fun i v hv hW => ?_, by rw [List.length_append]; exact q1, by rw [List.length_append]; exact q2⟩
  rcases snoc_at hv with ⟨hi, hv⟩ | ⟨rfl, rfl⟩
  · rw [fput_lt hi]
    exact (g1 i v hv hW).tx e
  · rw [fput_eq]
    exact hx hW
/-! ### shared -/
def lnM (n p sh : Nat) : Nat := aS n sh + 2 * p + sh * (n - 1)
def hasW (n p tg sh : Nat) (g : Nat → Ob) (j : Int) : Bool :=
  (List.range p).any fun k => decide ((g (aS n sh + p + k)).a = j) && (!decide ((g (aS n sh + k)).a = j) || (decide (tg = 1) && !decide ((g (aS n sh + k)).b = (g (aS n sh + p + k)).b)))
def cM (n p own tg sh : Nat) (g : Nat → Ob) (a : Nat) : Bool :=
  (decide (sh = 1) && !decide ((g (2 * a)).a = (g (lnM n p sh - (n - 1) + a)).a)) || hasW n p tg sh g ((ot own a : Nat) : Int)
def mvM (n p own tg sh : Nat) (g : Nat → Ob) : List Int := giv (n - 1) (cM n p own tg sh g) fun a => ((ot own a : Nat) : Int)
def mvMr (n p own tg sh : Nat) (f : Nat → Ob) (k : Nat) : List Int := mvM n p own tg sh fun x => f (k * lnM n p sh + x)
theorem any_congr {p : Nat} {f g : Nat → Bool} (h : ∀ k, k < p → f k = g k) : (List.range p).any f = (List.range p).any g := by
  induction p with
  | zero => rfl
  | succ p ih =>
    rw [List.range_succ, List.any_append, List.any_append, ih (fun k hk => h k (Nat.lt_succ_of_lt hk))]
    simp [h p (Nat.lt_succ_self p)]
theorem mvM_congr {n p own tg sh : Nat} {g g' : Nat → Ob} (hsh : sh ≤ 1) (h : ∀ x, x < lnM n p sh → g x = g' x) : mvM n p own tg sh g = mvM n p own tg sh g' := by
  refine giv_congr (fun a ha => ?_) fun _ _ => rfl
  unfold cM
  have h2 : hasW n p tg sh g ((ot own a : Nat) : Int) = hasW n p tg sh g' ((ot own a : Nat) : Int) := by
    unfold hasW
    refine any_congr fun k hk => ?_
    rw [h (aS n sh + p + k) (by unfold lnM; omega), h (aS n sh + k) (by unfold lnM; omega)]
  rw [h2]
  by_cases hs : sh = 1
  · subst hs
    rw [h (2 * a) (by unfold lnM aS; omega), h (lnM n p 1 - (n - 1) + a) (by unfold lnM; omega)]
  · simp [hs]
theorem rndM (n p own tg sh : Nat) (hp : 0 < p) (hsh : sh ≤ 1) : Rnd n own (lnM n p sh) (mvMr n p own tg sh) where
  pos := by
    unfold lnM
    omega
  cong := fun f g k h => mvM_congr hsh fun x hx => h _ (by
    rw [Nat.add_mul, Nat.one_mul]
    omega)
  mem := fun f k j hj => by
    obtain ⟨a, ha, _, rfl⟩ := giv_mem hj
    exact oth_mem ha
  len := fun f k => Nat.le_trans giv_len (Nat.sub_le n 1)
/-- the form of what stands at a place of a round -/
def FrmM (H : Hp) (n p sh x : Nat) (o : Ob) (v : V) : Prop := if x < aS n sh then (x % 2 = 0 → v = .int o.a) else if x < aS n sh + 2 * p then BoxV H o v else v = .int o.a
theorem FrmM.tx {H H' : Hp} {n p sh x : Nat} {o : Ob} {v : V} (h : FrmM H n p sh x o v) (e : Tx H H') : FrmM H' n p sh x o v := by
  unfold FrmM at h ⊢
  split
  · next h1 =>
    rw [if_pos h1] at h
    exact h
  · next h1 =>
    rw [if_neg h1] at h
    split
    · next h2 =>
      rw [if_pos h2] at h
      exact h.tx e
    · next h2 =>
      rw [if_neg h2] at h
      exact h
def PosM (H : Hp) (n p sh : Nat) (rs : List V) (f : Nat → Ob) : Prop := ∀ i v, rs[i]? = some v → FrmM H n p sh (i % lnM n p sh) (f i) v
theorem PosM.tx {H H' : Hp} {n p sh : Nat} {rs : List V} {f : Nat → Ob} (h : PosM H n p sh rs f) (e : Tx H H') : PosM H' n p sh rs f := fun i v hv => (h i v hv).tx e
theorem PosS.tx {H H' : Hp} {n sh : Nat} {rs : List V} {f : Nat → Ob} (h : PosS H n sh rs f) (e : Tx H H') : PosS H' n sh rs f := fun i v hv hW => (h i v hv hW).tx e
def GoodN (H : Hp) (n p tg sh w own : Nat) (rs : List V) : Prop := ∃ f : Nat → Ob, PosM H n p sh rs f ∧ GoR (mvMr n p own tg sh) f w (lnM n p sh) rs.length ∧ rs.length ≤ ((n - 1) * (w - 1) + 1) * lnM n p sh
def GoodV (H : Hp) (n p tg sh w own : Nat) (rs : List V) : Prop := ∃ (f : Nat → Ob) (rs0 : List V) (x : V) (k : Nat), rs = rs0 ++ [x] ∧ rs0.length = k * lnM n p sh ∧ 1 ≤ k ∧ PosM H n p sh rs0 f ∧ GoR (mvMr n p own tg sh) f w (lnM n p sh) rs0.length ∧ StV H p x ∧
  mvMr n p own tg sh f (k - 1) ≠ [] ∧ ∃ j ∈ seenTo (mvMr n p own tg sh f) k, w ≤ (seenTo (mvMr n p own tg sh f) k).count j
theorem goodM_snoc {H H' : Hp} {n p tg sh w own : Nat} {rs : List V} {f : Nat → Ob} {o : Ob} {x : V} (hp : 0 < p) (hsh : sh ≤ 1) (g1 : PosM H n p sh rs f) (g2 : GoR (mvMr n p own tg sh) f w (lnM n p sh) rs.length)
    (hg : ∀ k, 1 ≤ k → rs.length = k * lnM n p sh → Going (mvMr n p own tg sh f) w k) (e : Tx H H') (hx : FrmM H' n p sh (rs.length % lnM n p sh) o x) : GoodN H' n p tg sh w own (rs ++ [x]) := by
  obtain ⟨q1, q2⟩ := GoR.snoc (o := o) (rndM n p own tg sh hp hsh) g2 hg
  refine ⟨fput f rs.length o, fun i v hv => ?_, by rw [List.length_append]; exact q1, by rw [List.length_append]; exact q2⟩
  rcases snoc_at hv with ⟨hi, hv⟩ | ⟨rfl, rfl⟩
  · rw [fput_lt hi]
    exact (g1 i v hv).tx e
  · rw [fput_eq]
    exact hx
/-! ### what holds of a look's reads, for any manner -/
def Good (H : Hp) (m : Mn) (own : Nat) (c0 : V) (rs : List V) : Prop := match m with
  | .handed n _ w => GoodH H n w own c0 rs
  | .signs n tg sh w => GoodS H n tg sh w own rs
  | .shared n p tg sh w => GoodN H n p tg sh w own rs ∨ GoodV H n p tg sh w own rs
theorem lnM_eq (n p sh : Nat) : lnM n p sh = 2 * p + 3 * sh * (n - 1) := by
  unfold lnM aS
  rw [Nat.mul_assoc, Nat.mul_assoc 3]
  omega
theorem lnS_eq (n sh : Nat) : lnS n sh = 2 * n + 2 * sh * (n - 1) := by
  unfold lnS aS
  omega
theorem Good.most {H : Hp} {m : Mn} {own : Nat} {c0 : V} {rs : List V} (hm : m.ok) (g : Good H m own c0 rs) : rs.length ≤ m.most := by
  cases m with
  | handed n t w =>
    obtain ⟨f, o0, _, _, _, _, h⟩ := g
    exact h
  | signs n tg sh w =>
    obtain ⟨f, _, _, h⟩ := g
    rw [lnS_eq] at h
    exact h
  | shared n p tg sh w =>
    obtain ⟨_, _, _, _, _, hsh, hp, _⟩ := hm
    rcases g with ⟨f, _, _, h⟩ | ⟨f, rs0, x, k, rfl, hk, hk1, _, g2, _, hne, _⟩
    · rw [lnM_eq] at h
      exact Nat.le_trans h (Nat.le_add_right _ _)
    · have hr := rounds_bound (rndM n p own tg sh hp hsh) g2 hk
      have h1 : k * lnM n p sh ≤ ((n - 1) * (w - 1) + 1) * lnM n p sh := Nat.mul_le_mul_right _ hr
      have h2 : 1 < n := by
        refine Nat.lt_of_not_le fun z => hne ?_
        unfold mvMr mvM
        rw [show n - 1 = 0 by omega]
        rfl
      rw [List.length_append, List.length_singleton, hk]
      show k * lnM n p sh + 1 ≤ ((n - 1) * (w - 1) + 1) * (2 * p + 3 * sh * (n - 1)) + if 1 < n then 1 else 0
      rw [if_pos h2, ← lnM_eq]
      omega
theorem Good.tx {H H' : Hp} {m : Mn} {own : Nat} {c0 : V} {rs : List V} (g : Good H m own c0 rs) (e : Tx H H') : Good H' m own c0 rs := by
  cases m with
  | handed n t w =>
    obtain ⟨f, o0, h1, h2, h3⟩ := g
    exact ⟨f, o0, h1.tx e, fun i v hv => (h2 i v hv).tx e, h3⟩
  | signs n tg sh w =>
    obtain ⟨f, h1, h2⟩ := g
    exact ⟨f, h1.tx e, h2⟩
  | shared n p tg sh w =>
    rcases g with ⟨f, h1, h2⟩ | ⟨f, rs0, x, k, h1, h2, h3, h4, h5, h6, h7⟩
    · exact .inl ⟨f, h1.tx e, h2⟩
    · exact .inr ⟨f, rs0, x, k, h1, h2, h3, h4.tx e, h5, h6.tx e, h7⟩
theorem Good.nil {H : Hp} {m : Mn} {own : Nat} {c0 : V} (h : OwnF H m c0) : Good H m own c0 [] := by
  cases m with
  | handed n t w =>
    obtain ⟨o, h⟩ := h
    exact ⟨fun _ => o, o, h, fun i v hv => by simp at hv, fun i hi => absurd hi (Nat.not_lt_zero i), fun k _ hk => absurd hk (Nat.not_lt_zero _), Nat.zero_le _⟩
  | signs n tg sh w => exact ⟨fun _ => default, fun i v hv => by simp at hv, fun k _ hk => absurd hk (Nat.not_lt_zero _), Nat.zero_le _⟩
  | shared n p tg sh w => exact .inl ⟨fun _ => default, fun i v hv => by simp at hv, fun k _ hk => absurd hk (Nat.not_lt_zero _), Nat.zero_le _⟩
/-! ### what a step of a look is -/
def keyW : List Key → Str
  | .inr x :: _ => x
  | _ => ""
def Res (H : Hp) (m : Mn) (own : Nat) (c0 : V) (rs : List V) (v : V) : Prop :=
  Told H m.pl v ∨
  (∃ ks, Reads1 H ks v ∧ Need m ks ∧ ∀ x H', Tx H H' → CF H' m (keyW ks) x → (ks = kk "own" own → x = c0) → Good H' m own c0 (rs ++ [x])) ∨
  (∃ ks, Writes1 H ks v ∧ Need m ks ∧ keyW ks = "sign" ∧ ∀ H', Tx H H' → Good H' m own c0 (rs ++ [.non]))
def sp_next (M : Mn → Prop) : Sp := fun vs H Q _ => ∃ (mp dp rp : Addr) (av : V) (m : Mn) (own : Nat) (c0 : V) (rs : List V), vs = [.ref mp, .int own, .ref dp, av, .ref rp] ∧ H mp = some (.tup m.vs) ∧ H dp = some (.tup [.str "look"]) ∧ H rp = some (.tup rs) ∧
  m.ok ∧ own < m.n ∧ M m ∧ Good H m own c0 rs ∧ ∀ v H', Same H H' → Res H' m own c0 rs v → Q v H'
theorem most_le {m : Mn} (h : m.ok) : m.most ≤ 270 := by
  cases m with
  | handed n t w =>
    obtain ⟨h1, h2, h3, h4, _⟩ := h
    have q : (n - 1) * (w - 1) ≤ 4 * 3 := Nat.mul_le_mul (by omega) (by omega)
    have q2 : n * ((n - 1) * (w - 1) + 1 + 1) ≤ 5 * 14 := Nat.mul_le_mul h2 (by omega)
    exact Nat.le_trans q2 (by omega)
  | signs n tg sh w =>
    obtain ⟨h1, h2, h3, h4, _, h6⟩ := h
    have q : (n - 1) * (w - 1) ≤ 4 * 3 := Nat.mul_le_mul (by omega) (by omega)
    have q3 : 2 * sh * (n - 1) ≤ 2 * 4 := Nat.mul_le_mul (by omega) (by omega)
    have q2 : ((n - 1) * (w - 1) + 1) * (2 * n + 2 * sh * (n - 1)) ≤ 13 * 18 := Nat.mul_le_mul (by omega) (by omega)
    exact Nat.le_trans q2 (by omega)
  | shared n p tg sh w =>
    obtain ⟨h1, h2, h3, h4, _, h6, h7, h8⟩ := h
    have q : (n - 1) * (w - 1) ≤ 4 * 3 := Nat.mul_le_mul (by omega) (by omega)
    have q3 : 3 * sh * (n - 1) ≤ 3 * 4 := Nat.mul_le_mul (by omega) (by omega)
    have q2 : ((n - 1) * (w - 1) + 1) * (2 * p + 3 * sh * (n - 1)) ≤ 13 * 20 := Nat.mul_le_mul (by omega) (by omega)
    show ((n - 1) * (w - 1) + 1) * (2 * p + 3 * sh * (n - 1)) + (if 1 < n then 1 else 0) ≤ 270
    split <;> omega
abbrev s_next_handed : Stmt := topS 14
theorem sc_next_handed : FnScope ["manner", "hand", "deed", "ahead", "reads", "word", "hands", "turn", "moves", "step"] ["manner", "hand", "deed", "ahead", "reads"] (defScope s_next_handed) := ⟨rfl, rfl, rfl, by decide +kernel, rfl, by decide +kernel, by decide +kernel⟩
section
variable {P : Program} {w : World} {K : PySem.W.Frag} {mg : Str → Option Value} {base : Heap}
theorem ok_next_handed (B : Blt mg) (C_look_handed : Cal P w K mg base "look_handed" 3 ["hands", "moves", "reads"] sp_look_handed) (D : Dfn K mg "next_handed" "next_handed" s_next_handed) :
    Cal P w K mg base "next_handed" 4 ["manner", "hand", "deed", "ahead", "reads"] (sp_next fun m => ∃ n t w, m = .handed n t w) := by
  refine cal_of D sc_next_handed (fun vs H Q E h => ?_) (fun _ _ _ _ _ _ us hl => match us, hl with | [_, _, _, _, _], _ => rfl) (fun f cdv A outer s H vs Q E hr h => ?_)
  · obtain ⟨mp, dp, rp, av, m, own, c0, rs, rfl, _⟩ := h
    rfl
  · obtain ⟨mp, dp, rp, av, _, own, c0, rs, rfl, hmp, hdp, hrp, hok, hown, ⟨n, t, w, rfl⟩, hg, k⟩ := h
    have hL := Nat.le_trans (hg.most hok) (most_le hok)
    obtain ⟨h1, h2, h3, h4, h5, h6⟩ := hok
    obtain ⟨f, o0, g0, g1, g2, g3, g4⟩ := hg
    have hmp' : H mp = some (.tup [.str "handed", .int n, .int t, .int w]) := hmp
    clear hmp
    refine ⟨_, (pss_cons (ps_asg (pv 0) (pg_tup (by rfl) (pgs_cons (pg_name (i := 5) sc_next_handed.nd rfl (by first | exact Or.inl rfl | exact Or.inr rfl)) (pgs_cons (pg_name (i := 6) sc_next_handed.nd rfl (by first | exact Or.inl rfl | exact Or.inr rfl)) (pgs_cons (pg_name (i := 7) sc_next_handed.nd rfl (by first | exact Or.inl rfl | exact Or.inr rfl)) (pgs_cons (pg_name (i := 8) sc_next_handed.nd rfl (by first | exact Or.inl rfl | exact Or.inr rfl)) pgs_nil))))))
 (pss_cons (ps_if (PW.pt (pw_and (pt_cmpR op_eq (pe_ix (ix_tupH (K := K) rfl) (pv 2) pe_int (fun _ _ => rfl)) pe_str (nomark _)) (pw_and (pt_cmpR op_gt (pe_callB (cr_lenH (K := K) rfl) (by rfl) B.len boot_len (pa_cons (pv 4) pa_nil)) pe_int (nomark _)) (pw_and1 (pt_cmpR op_isNon (pe_ix (ix_tupH (K := K) rfl) (pv 4) (pe_un un_neg pe_int) (fun _ _ => rfl)) pe_non (nomark _))))))
 (pss_one (ps_ret (pe_tup (pa_cons pe_str (pa_cons pe_non pa_nil)))))
 pss_nil)
 (pss_cons (ps_set (i := 9) sc_next_handed.nd rfl (by first | exact Or.inl rfl | exact Or.inr rfl) (pe_cal C_look_handed (hr.mono (by decide)) (by rfl) (pa_cons (pv 6) (pa_cons (pv 8) (pa_cons (pv 4) pa_nil)))))
 (pss_cons (ps_if (PW.pt (pw_or (pt_cmpR op_eq (pe_ix (ix_tupH (K := K) rfl) (pv 2) pe_int (fun _ _ => rfl)) pe_str (nomark _)) (pw_or1 (pt_cmpR op_ne (pe_ix (ix_tupH (K := K) rfl) (pv 9) pe_int (fun _ _ => rfl)) pe_str (nomark _)))))
 (pss_one (ps_ret (pv 9)))
 pss_nil)
 pss_never)))), ?_⟩
    walk_at "g"
    refine r_kAnd (fun hb => absurd hb (by decide)) fun _ => ?_
    refine r_kIf (fun z => nomatch z) fun _ => ?_
    walk_at "g"
    refine ⟨rp, rs, n, w, f, rfl, hrp, h1, h2, by omega, g1, goodH_go h2 hown h4 g2 g3, fun v H1 e1 hres => ?_⟩
    walk_at "g"
    refine r_kOr (fun _ => ?_) fun hb => absurd hb (by decide)
    refine r_kIf (fun _ => ?_) fun z => nomatch z
    walk_at "g"
    refine k v H1 (by walk_at "e") ?_
    rcases hres with ht | ⟨hrd, hgo⟩
    · exact .inl ht
    · refine .inr (.inl ⟨_, hrd, .inr (.inl ⟨rs.length % n, Nat.mod_lt _ h1, rfl⟩), fun x H' e' hc hx => ?_⟩)
      obtain ⟨o, ho⟩ := hc.own rfl
      refine goodH_snoc h1 h2 hown g0 g1 g2 g3 hgo ((tx_same e1).trans e') ho fun z => hx ?_
      rw [z]
      rfl
end
end Wg
set_option Elab.async false
set_option linter.all false
set_option maxRecDepth 100000
set_option maxHeartbeats 4000000
namespace Wg
open PySem L2
open PyProof.Rows hiding St
open RZ
abbrev s_round_length_signs : Stmt := topS 28
theorem sc_round_length_signs : FnScope ["hands", "shakes"] ["hands", "shakes"] (defScope s_round_length_signs) := ⟨rfl, rfl, rfl, by decide +kernel, rfl, by decide +kernel, by decide +kernel⟩
abbrev s_shake_step : Stmt := topS 30
theorem sc_shake_step : FnScope ["hand", "hands", "reads", "at", "j"] ["hand", "hands", "reads", "at"] (defScope s_shake_step) := ⟨rfl, rfl, rfl, by decide +kernel, rfl, by decide +kernel, by decide +kernel⟩
section
variable {K : PySem.W.Frag} {H : Hp} {D : Ends} {σ : L2.St} {Q : VK}
/-- if b: seen.append(j), b telling whether turn a gives -/
theorem r_leaf {i j a : Nat} {p : Addr} {f : Nat → Bool} {u : Nat → Int} {b : Bool} (h1 : σ[i]? = some (some (.ref p))) (h2 : σ[j]? = some (some (.int (u a)))) (hp : H p = some (.lst ((giv a f u).map V.int))) (ha : a ≤ 900) (hb : b = f a)
    (k : ∀ H', H' p = some (.lst ((giv (a + 1) f u).map V.int)) → (∀ q, q ≠ p → H' q = H q) → D.nx σ H') : kIf (tDrop (tBM K "list" rAppend (tVar i) (tCons (tVar j) tNil))) tNext D σ b H := by
  refine r_kIf (fun hb1 => ?_) fun hb0 => ?_
  · refine r_drop ?_
    refine r_bm ?_
    refine r_var h1 ?_
    refine r_kBM hp ?_
    refine r_cons ?_
    refine r_var h2 ?_
    refine r_kCons ?_
    refine r_nil ?_
    refine r_append hp ?_ ?_
    · have := giv_len (n := a) (f := f) (v := u)
      rw [List.length_map]
      omega
    · refine k _ ?_ fun q hq => upd_ne hq
      rw [upd_same, giv_yes (hb.symm.trans hb1), List.map_append]
      rfl
  · refine k H ?_ fun _ _ => rfl
    rw [giv_no (hb.symm.trans hb0)]
    exact hp
/-- a frame that the search for facts does not go back by -/
structure Bs (H H' : Hp) : Prop where
  s : Same H H'
theorem same_but {H0 H H' : Hp} {p : Addr} (e : Same H0 H) (hp : H0 p = none) (h : ∀ q, q ≠ p → H' q = H q) : Same H0 H' := fun b o q => by
  rw [h b (ne_of_none q hp)]
  exact e b o q
theorem at_neg1 {xs : List V} {v : V} (h : xs[xs.length - 1]? = some v) : atI xs (-1) = some v := by
  have hl := (List.getElem?_eq_some_iff.mp h).1
  unfold atI ixN
  rw [if_neg (by omega), if_pos (by omega)]
  have e : ((-1 : Int) + (xs.length : Int)).toNat = xs.length - 1 := by omega
  show xs[((-1 : Int) + (xs.length : Int)).toNat]? = some v
  rw [e]
  exact h
theorem dec_int (a b : Int) : decide (V.int a = V.int b) = decide (a = b) := by simp
theorem r_nePair {p q : Addr} {a b s t : Int} (h1 : H p = some (.lst [.int a, .int b])) (h2 : H q = some (.lst [.int s, .int t])) (k : Q (.bl (!(decide (a = s) && decide (b = t)))) H) : rNeD K (.ref p) (.ref q) H Q := by
  refine r_neD (d := .list ([a, b].map PyData.int)) (e := .list ([s, t].map PyData.int)) (.lst (SqL.of h1) (dp_ints [a, b])) (.lst (SqL.of h2) (dp_ints [s, t])) (PySem.W.ke_shaped_ints _) (PySem.W.ke_shaped_ints _) ?_
  have e : PyData.eqv (.list ([a, b].map PyData.int)) (.list ([s, t].map PyData.int)) = (decide (a = s) && decide (b = t)) := by
    show ((a == s) && ((b == t) && true)) = _
    rw [Bool.and_true]
    rfl
  rw [e]
  exact k
end
theorem calls_at {c : List Int} {n own : Nat} (hl : c.length = n) (ho : own < n) : atI (c.map V.int) (own : Int) = some (.int (c.getD own 0)) := by
  refine atI_nat ?_
  rw [List.getElem?_map, List.getElem?_eq_getElem (by omega), List.getD_eq_getElem?_getD, List.getElem?_eq_getElem (by omega)]
  rfl
theorem aS_cast {n sh : Nat} (hn : 0 < n) : (2 * (sh : Int) * ((n : Int) - 1)) = ((aS n sh : Nat) : Int) := by
  unfold aS
  rw [Int.natCast_mul, Int.natCast_mul]
  congr 1
  omega
section
variable {P : Program} {w : World} {K : PySem.W.Frag} {mg : Str → Option Value} {base : Heap}
def sp_len_signs : Sp := fun vs H Q _ => ∃ n sh : Nat, vs = [.int n, .int sh] ∧ 0 < n ∧ sh ≤ 1 ∧ Q (.int ((lnS n sh : Nat) : Int)) H
theorem ok_len_signs (D : Dfn K mg "round_length_signs" "round_length" s_round_length_signs) : Cal P w K mg base "round_length_signs" 1 ["hands", "shakes"] sp_len_signs := by
  refine cal_of D sc_round_length_signs (fun vs H Q E h => ?_) (fun _ _ _ _ _ _ us hl => match us, hl with | [_, _], _ => rfl) (fun f cdv A outer s H vs Q E hr h => ?_)
  · obtain ⟨n, sh, rfl, _⟩ := h
    rfl
  · obtain ⟨n, sh, rfl, hn, hs, k⟩ := h
    refine ⟨_, (pss_one (ps_ret (pe_op op_add (pe_op op_mul (pe_op op_mul pe_int (pv 1)) (pe_op op_sub (pv 0) pe_int)) (pe_op op_mul pe_int (pv 0))))), ?_⟩
    walk_at "g"
    refine r_I (.inl ⟨by omega, by omega⟩) ?_
    walk_at "g"
    rw [aS_cast hn, show ((aS n sh : Nat) : Int) + 2 * (n : Int) = ((lnS n sh : Nat) : Int) by unfold lnS; omega]
    exact k
def sp_shake : Sp := fun vs H Q _ => ∃ (own n at_ : Nat) (rp : Addr) (rs : List V), vs = [.int own, .int n, .ref rp, .int at_] ∧ own < n ∧ n ≤ 5 ∧ at_ < 2 * (n - 1) ∧ H rp = some (.tup rs) ∧
  (at_ % 2 = 1 → ∃ o v, rs[rs.length - 1]? = some v ∧ Own4 H n o v) ∧
  ∀ v H', Same H H' → (at_ % 2 = 0 → Reads1 H' (kk "own" (ot own (at_ / 2))) v) → (at_ % 2 = 1 → Writes1 H' (kk2 "sign" own (ot own (at_ / 2))) v) → Q v H'
theorem ok_shake (C_others : Cal P w K mg base "others" 1 ["hand", "hands"] sp_others) (C_own_read : Cal P w K mg base "own_read" 1 ["place"] sp_own_read) (D : Dfn K mg "shake_step" "shake_step" s_shake_step) :
    Cal P w K mg base "shake_step" 2 ["hand", "hands", "reads", "at"] sp_shake := by
  refine cal_of D sc_shake_step (fun vs H Q E h => ?_) (fun _ _ _ _ _ _ us hl => match us, hl with | [_, _, _, _], _ => rfl) (fun f cdv A outer s H vs Q E hr h => ?_)
  · obtain ⟨own, n, at_, rp, rs, rfl, _⟩ := h
    rfl
  · obtain ⟨own, n, at_, rp, rs, rfl, ho, hn, hat, hrp, hodd, k⟩ := h
    refine ⟨_, (pss_cons (ps_set (i := 4) sc_shake_step.nd rfl (by first | exact Or.inl rfl | exact Or.inr rfl) (pe_ix (ix_listH (K := K) rfl) (pe_cal C_others (hr.mono (by decide)) (by rfl) (pa_cons (pv 0) (pa_cons (pv 1) pa_nil))) (pe_op op_fdiv (pv 3) pe_int) (fun _ _ => rfl)))
 (pss_cons (ps_if (pt_cmpR op_eq (pe_op op_mod (pv 3) pe_int) pe_int (nomark _))
 (pss_one (ps_ret (pe_cal C_own_read (hr.mono (by decide)) (by rfl) (pa_cons (pv 4) pa_nil))))
 pss_nil)
 (pss_one (ps_ret (pe_tup (pa_cons pe_str (pa_cons (pe_tup (pa_cons pe_str (pa_cons (pv 0) (pa_cons (pv 4) pa_nil)))) (pa_cons (pe_ix (ix_tupH (K := K) rfl) (pe_ix (ix_tupH (K := K) rfl) (pe_ix (ix_tupH (K := K) rfl) (pv 2) (pe_un un_neg pe_int) (fun _ _ => rfl)) pe_int (fun _ _ => rfl)) (pv 0) (fun _ _ => rfl)) pa_nil)))))))), ?_⟩
    walk_at "g"
    refine ⟨own, n, rfl, ho, hn, fun p H1 e1 h1 => ?_⟩
    walk_at "g"
    have hd : at_ / 2 < n - 1 := by omega
    have hix : atI ((oth own n).map V.int) ((at_ : Int) / 2) = some (.int ((ot own (at_ / 2) : Nat) : Int)) := by
      rw [show ((at_ : Int) / 2) = ((at_ / 2 : Nat) : Int) by omega]
      refine atI_nat ?_
      rw [List.getElem?_map, oth_get hd]
      rfl
    refine r_ixL h1 hix ?_
    walk_at "g"
    refine r_kIf (fun hb => ?_) fun hb => ?_
    · have h0 : at_ % 2 = 0 := by
        rw [dec_int] at hb
        have := of_decide_eq_true hb
        omega
      walk_at "g"
      refine ⟨_, rfl, fun q r H2 e2 h2 h3 => ?_⟩
      refine k _ H2 (by walk_at "e") (fun _ => ⟨q, r, rfl, h2, h3⟩) fun z => by omega
    · have h0 : at_ % 2 = 1 := by
        rw [dec_int] at hb
        have := of_decide_eq_false hb
        omega
      obtain ⟨o, v, hv, p', x, q, w', rfl, g1, g2, g3, _⟩ := hodd h0
      walk_at "g"
      refine r_kTup fun r H2 e2 n2 h2 => ?_
      walk_at "g"
      refine r_ixT (by walk_at "t") (at_neg1 hv) ?_
      walk_at "g"
      refine r_ixT (by walk_at "t") (calls_at g3 ho) ?_
      walk_at "g"
      refine r_kTup fun t H3 e3 n3 h3 => ?_
      exact k _ H3 (by walk_at "e") (fun z => by omega) fun _ => ⟨t, r, _, rfl, h3, by walk_at "t"⟩
end
end Wg
set_option Elab.async false
set_option linter.all false
set_option maxRecDepth 100000
set_option maxHeartbeats 4000000
namespace Wg
open PySem L2
open PyProof.Rows hiding St
open RZ
abbrev s_moved_in_signs : Stmt := topS 31
theorem sc_moved_in_signs : FnScope ["hand", "manner", "reads", "word", "hands", "toggles", "shakes", "moves", "one", "other", "seen", "at", "j", "calls", "sign"] ["hand", "manner", "reads"] (defScope s_moved_in_signs) := ⟨rfl, rfl, rfl, by decide +kernel, rfl, by decide +kernel, by decide +kernel⟩
theorem cS_t {n own tg sh i : Nat} {g : Nat → Ob} (h1 : tg = 1) (h2 : ¬ (g (aS n sh + ot own i)).a = (g (aS n sh + n + ot own i)).a) : cS n own tg sh g i = true := by
  unfold cS
  rw [decide_eq_true h1, decide_eq_false h2]
  rfl
theorem cS_2 {n own tg sh i : Nat} {g : Nat → Ob} (h : tg = 1 → (g (aS n sh + ot own i)).a = (g (aS n sh + n + ot own i)).a) (hs : sh = 1) :
    cS n own tg sh g i = !(decide ((g (aS n sh + ot own i)).c.getD own 0 = (g (2 * i)).c.getD own 0) && decide ((g (aS n sh + n + ot own i)).c.getD own 0 = (g (2 * i)).c.getD own 0)) := by
  unfold cS
  have e : (decide (tg = 1) && !decide ((g (aS n sh + ot own i)).a = (g (aS n sh + n + ot own i)).a)) = false := by
    by_cases z : tg = 1
    · rw [decide_eq_true (h z), Bool.not_true, Bool.and_false]
    · rw [decide_eq_false z, Bool.false_and]
  rw [e, decide_eq_true hs, Bool.false_or, Bool.true_and]
theorem cS_0 {n own tg sh i : Nat} {g : Nat → Ob} (h : tg = 1 → (g (aS n sh + ot own i)).a = (g (aS n sh + n + ot own i)).a) (hs : ¬ sh = 1) : cS n own tg sh g i = false := by
  unfold cS
  have e : (decide (tg = 1) && !decide ((g (aS n sh + ot own i)).a = (g (aS n sh + n + ot own i)).a)) = false := by
    by_cases z : tg = 1
    · rw [decide_eq_true (h z), Bool.not_true, Bool.and_false]
    · rw [decide_eq_false z, Bool.false_and]
  rw [e, decide_eq_false hs, Bool.false_or, Bool.false_and]
theorem int_yes {a b : Int} (h : decide (V.int a = V.int b) = true) : a = b := by
  rw [dec_int] at h
  exact of_decide_eq_true h
theorem int_no {a b : Int} (h : decide (V.int a = V.int b) = false) : ¬ a = b := by
  rw [dec_int] at h
  exact of_decide_eq_false h
section
variable {P : Program} {w : World} {K : PySem.W.Frag} {mg : Str → Option Value} {base : Heap}
def sp_moved_signs : Sp := fun vs H Q _ => ∃ (own n tg sh wm : Nat) (mp a : Addr) (row : List V) (g : Nat → Ob), vs = [.int own, .ref mp, .ref a] ∧ H mp = some (.tup (Mn.signs n tg sh wm).vs) ∧ own < n ∧ n ≤ 5 ∧ tg ≤ 1 ∧ sh ≤ 1 ∧ H a = some (.tup row) ∧ row.length = lnS n sh ∧
  (∀ x v, row[x]? = some v → isW n sh x = false → Own4 H n (g x) v) ∧ ∀ p H', Same H H' → H' p = some (.lst ((mvS n own tg sh g).map V.int)) → Q (.ref p) H'
theorem ok_moved_signs (B : Blt mg) (C_others : Cal P w K mg base "others" 1 ["hand", "hands"] sp_others) (D : Dfn K mg "moved_in_signs" "moved_in" s_moved_in_signs) : Cal P w K mg base "moved_in_signs" 2 ["hand", "manner", "reads"] sp_moved_signs := by
  refine cal_of D sc_moved_in_signs (fun vs H Q E h => ?_) (fun _ _ _ _ _ _ us hl => match us, hl with | [_, _, _], _ => rfl) (fun f cdv A outer s H vs Q E hr h => ?_)
  · obtain ⟨own, n, tg, sh, wm, mp, a, row, g, rfl, _⟩ := h
    rfl
  · obtain ⟨own, n, tg, sh, wm, mp, a, row, g, rfl, hmp, ho, hn, htg, hsh, ha, hlen, hrow, k⟩ := h
    have hmp' : H mp = some (.tup [.str "signs", .int n, .int tg, .int sh, .int wm]) := hmp
    clear hmp
    have hn0 : 0 < n := by omega
    have hln : row.length = aS n sh + 2 * n := hlen
    have c1 : cutV row (some (-2 * (n : Int))) (some (-(n : Int))) = seg row (aS n sh) n := by
      rw [show (-2 * (n : Int)) = -((2 * n : Nat) : Int) by omega, cut_seg (six_neg (by omega)) (six_neg hn0)]
      congr 1 <;> omega
    have c2 : cutV row (some (-(n : Int))) none = seg row (aS n sh + n) n := by
      rw [cut_seg (six_neg hn0) (HT.sIx_none _ _)]
      congr 1 <;> omega
    refine ⟨_, (pss_cons (ps_asg (pv 1) (pg_tup (by rfl) (pgs_cons (pg_name (i := 3) sc_moved_in_signs.nd rfl (by first | exact Or.inl rfl | exact Or.inr rfl)) (pgs_cons (pg_name (i := 4) sc_moved_in_signs.nd rfl (by first | exact Or.inl rfl | exact Or.inr rfl)) (pgs_cons (pg_name (i := 5) sc_moved_in_signs.nd rfl (by first | exact Or.inl rfl | exact Or.inr rfl)) (pgs_cons (pg_name (i := 6) sc_moved_in_signs.nd rfl (by first | exact Or.inl rfl | exact Or.inr rfl)) (pgs_cons (pg_name (i := 7) sc_moved_in_signs.nd rfl (by first | exact Or.inl rfl | exact Or.inr rfl)) pgs_nil)))))))
 (pss_cons (ps_set (i := 8) sc_moved_in_signs.nd rfl (by first | exact Or.inl rfl | exact Or.inr rfl) (pe_slice (sl_tupH (K := K) rfl) (pv 2) (po_some (pe_op op_mul (pe_un un_neg pe_int) (pv 4))) (po_some (pe_un un_neg (pv 4)))))
 (pss_cons (ps_set (i := 9) sc_moved_in_signs.nd rfl (by first | exact Or.inl rfl | exact Or.inr rfl) (pe_slice (sl_tupH (K := K) rfl) (pv 2) (po_some (pe_un un_neg (pv 4))) po_none))
 (pss_cons (ps_set (i := 10) sc_moved_in_signs.nd rfl (by first | exact Or.inl rfl | exact Or.inr rfl) (pe_lst pa_nil))
 (pss_cons (ps_for PassesOwn.never rfl (pi_enum (by rfl) B.enumerate (pa_cons (pe_cal C_others (hr.mono (by decide)) (by rfl) (pa_cons (pv 0) (pa_cons (pv 4) pa_nil))) pa_nil)) (pg_tup (by rfl) (pgs_cons (pg_name (i := 11) sc_moved_in_signs.nd rfl (by first | exact Or.inl rfl | exact Or.inr rfl)) (pgs_cons (pg_name (i := 12) sc_moved_in_signs.nd rfl (by first | exact Or.inl rfl | exact Or.inr rfl)) pgs_nil)))
 (pss_cons (ps_set (i := 13) sc_moved_in_signs.nd rfl (by first | exact Or.inl rfl | exact Or.inr rfl) (pe_lst (pa_cons (pe_ix (ix_tupH (K := K) rfl) (pe_ix (ix_tupH (K := K) rfl) (pe_ix (ix_tupH (K := K) rfl) (pv 8) (pv 12) (fun _ _ => rfl)) pe_int (fun _ _ => rfl)) (pv 0) (fun _ _ => rfl)) (pa_cons (pe_ix (ix_tupH (K := K) rfl) (pe_ix (ix_tupH (K := K) rfl) (pe_ix (ix_tupH (K := K) rfl) (pv 9) (pv 12) (fun _ _ => rfl)) pe_int (fun _ _ => rfl)) (pv 0) (fun _ _ => rfl)) pa_nil))))
 (pss_cons (ps_set (i := 14) sc_moved_in_signs.nd rfl (by first | exact Or.inl rfl | exact Or.inr rfl) pe_non)
 (pss_cons (ps_if (pt_cmpR op_eq (pv 6) pe_int (nomark _))
 (pss_one (ps_set (i := 14) sc_moved_in_signs.nd rfl (by first | exact Or.inl rfl | exact Or.inr rfl) (pe_ix (ix_tupH (K := K) rfl) (pe_ix (ix_tupH (K := K) rfl) (pe_ix (ix_tupH (K := K) rfl) (pv 2) (pe_op op_mul pe_int (pv 11)) (fun _ _ => rfl)) pe_int (fun _ _ => rfl)) (pv 0) (fun _ _ => rfl))))
 pss_nil)
 (pss_one (ps_if (PW.pt (pw_or (PW.pt (pw_and (pt_cmpR op_eq (pv 5) pe_int (nomark _)) (pw_and1 (pt_cmpR op_ne (pe_ix (ix_tupH (K := K) rfl) (pe_ix (ix_tupH (K := K) rfl) (pv 8) (pv 12) (fun _ _ => rfl)) pe_int (fun _ _ => rfl)) (pe_ix (ix_tupH (K := K) rfl) (pe_ix (ix_tupH (K := K) rfl) (pv 9) (pv 12) (fun _ _ => rfl)) pe_int (fun _ _ => rfl)) (nomark _))))) (pw_or1 (PW.pt (pw_and (pt_cmpR op_eq (pv 6) pe_int (nomark _)) (pw_and1 (pt_cmpR (op_neD hr.units) (pv 13) (pe_lst (pa_cons (pv 14) (pa_cons (pv 14) pa_nil))) (nomark _))))))))
 (pss_one (ps_expr (pe_bmH (K := K) rfl (pe_bm PySem.F.plainAttrs_list PySem.F.slot_list_append PySem.F.type_list_append mt_append (pv 10) (pa_cons (pv 12) pa_nil)))))
 pss_nil))))))
 (pss_one (ps_ret (pv 10)))))))), ?_⟩
    walk_at "g"
    refine r_slA ha fun b H1 e1 h1 => ?_
    walk_at "g"
    refine r_slA (e1 _ _ ha) fun c H2 e2 h2 => ?_
    walk_at "g"
    refine r_kLst fun p H3 e3 n3 h3 => ?_
    walk_at "g"
    refine ⟨own, n, rfl, ho, hn, fun q H4 e4 h4 => ?_⟩
    walk_at "g"
    rw [c1] at h1
    rw [c2] at h2
    have base4 : Bs H H4 := ⟨by walk_at "e"⟩
    have hp4 : H p = none := free_back e1 (free_back e2 n3)
    have hl4 : ((oth own n).map V.int).length = n - 1 := by rw [List.length_map, oth_len]
    refine r_kFor (n := n - 1) (hl4 ▸ walk_enum (xs := (oth own n).map V.int)) (fun i σ' H' => ∃ o1 o2 o3 o4, σ' = [some (.int own), some (.ref mp), some (.ref a), some (.str "signs"), some (.int n), some (.int tg), some (.int sh), some (.int wm), some (.ref b), some (.ref c), some (.ref p), o1, o2, o3, o4] ∧
        Bs H H' ∧ Tx H4 H' ∧ H' q = some (.lst ((oth own n).map V.int)) ∧ H' p = some (.lst ((giv i (cS n own tg sh g) fun a => ((ot own a : Nat) : Int)).map V.int)))
      ⟨none, none, none, none, rfl, base4, Tx.refl _, h4, by walk_at "t"⟩ (fun i σ' H' _ hP => ?_) (fun i x σ' H5 H6 hi hP hY => ?_) (fun σ' H' hP => ?_)
    · obtain ⟨_, _, _, _, _, _, _, hq, _⟩ := hP
      exact SqL.of hq
    · obtain ⟨o1, o2, o3, o4, rfl, e5, x5, hq5, hp5⟩ := hP
      obtain ⟨T, u, y, rfl, nT, rfl, eu, ey⟩ := hY
      have e6 := same_new (o := .tup [u, y]) nT
      have hT : (upd H5 T (.tup [u, y])) T = some (.tup [u, y]) := upd_same
      generalize upd H5 T (.tup [u, y]) = H6 at e6 hT ⊢
      have hu : u = .int (i : Int) := (Option.some.inj eu).symm
      have hy : y = .int ((ot own i : Nat) : Int) := by
        have ey : ((oth own n).map V.int)[i]? = some y := ey
        rw [List.getElem?_map, oth_get hi] at ey
        exact (Option.some.inj ey).symm
      subst hu hy
      have hot := ot_lt (i := own) hi
      have tb : H6 b = some (.tup (seg row (aS n sh) n)) := by walk_at "t"
      have tc : H6 c = some (.tup (seg row (aS n sh + n) n)) := by walk_at "t"
      have ta : H6 a = some (.tup row) := by walk_at "t"
      have T6 : Tx H H6 := (tx_same base4.s).trans (x5.trans (tx_same e6))
      have noW : ∀ j, aS n sh ≤ j → isW n sh j = false := fun j hj => by
        unfold isW
        rw [decide_eq_false (by omega)]
        rfl
      obtain ⟨v1, g1, i1⟩ := at_lt (xs := seg row (aS n sh) n) (j := ot own i) (by rw [seg_len]; omega)
      obtain ⟨v2, g2, i2⟩ := at_lt (xs := seg row (aS n sh + n) n) (j := ot own i) (by rw [seg_len]; omega)
      obtain ⟨p1, x1, q1, w1, rfl, r1, s1, l1, _⟩ := (hrow _ v1 (seg_some g1).2 (noW _ (by omega))).tx T6
      obtain ⟨p2, x2, q2, w2, rfl, r2, s2, l2, _⟩ := (hrow _ v2 (seg_some g2).2 (noW _ (by omega))).tx T6
      walk_at "g"
      refine r_ixT tb i1 ?_
      walk_at "g"
      refine r_ixT s1 (calls_at l1 ho) ?_
      walk_at "g"
      refine r_ixT tc i2 ?_
      walk_at "g"
      refine r_ixT s2 (calls_at l2 ho) ?_
      walk_at "g"
      refine r_kLst fun cl H7 e7 n7 h7 => ?_
      walk_at "g"
      have hp7 : H7 p = some (.lst ((giv i (cS n own tg sh g) fun a => ((ot own a : Nat) : Int)).map V.int)) := by walk_at "t"
      have hq7 : H7 q = some (.lst ((oth own n).map V.int)) := by walk_at "t"
      have hqp : q ≠ p := by
        intro z
        subst z
        rw [e4 _ _ h3] at h4
        injection h4 with h4
        injection h4 with h4
        have hz := congrArg List.length h4
        rw [List.length_map, oth_len] at hz
        simp at hz
        omega
      have fin : ∀ (cl' : V) (sg : V) (H9 : Hp) (cnd : Bool), Same H7 H9 → cnd = cS n own tg sh g i →
          kIf (tDrop (tBM K "list" rAppend (tVar 10) (tCons (tVar 12) tNil))) tNext
            { nx := fun σ' H' => ∃ o1 o2 o3 o4, σ' = [some (.int own), some (.ref mp), some (.ref a), some (.str "signs"), some (.int n), some (.int tg), some (.int sh), some (.int wm), some (.ref b), some (.ref c), some (.ref p), o1, o2, o3, o4] ∧
              Bs H H' ∧ Tx H4 H' ∧ H' q = some (.lst ((oth own n).map V.int)) ∧ H' p = some (.lst ((giv (i + 1) (cS n own tg sh g) fun a => ((ot own a : Nat) : Int)).map V.int)), ct := fun σ' H' => ∃ o1 o2 o3 o4, σ' = [some (.int own), some (.ref mp), some (.ref a), some (.str "signs"), some (.int n), some (.int tg), some (.int sh), some (.int wm), some (.ref b), some (.ref c), some (.ref p), o1, o2, o3, o4] ∧
              Bs H H' ∧ Tx H4 H' ∧ H' q = some (.lst ((oth own n).map V.int)) ∧ H' p = some (.lst ((giv (i + 1) (cS n own tg sh g) fun a => ((ot own a : Nat) : Int)).map V.int)), bk := tRet (tVar 10) { nx := fun _ H' => Q .non H', rt := Q }, rt := Q }
            [some (.int own), some (.ref mp), some (.ref a), some (.str "signs"), some (.int n), some (.int tg), some (.int sh), some (.int wm), some (.ref b), some (.ref c), some (.ref p), some (.int i), some (.int ((ot own i : Nat) : Int)), some cl', some sg] cnd H9 := fun cl' sg H9 cnd e9 hc => by
        refine r_leaf (f := cS n own tg sh g) (u := fun a => ((ot own a : Nat) : Int)) (a := i) rfl rfl (by walk_at "t") (by omega) hc fun H' hp' hk => ?_
        refine ⟨_, _, _, _, rfl, ⟨same_but (e5.s.trans (by walk_at "e")) hp4 hk⟩, fun z zs hz => ?_, by rw [hk q hqp]; walk_at "t", hp'⟩
        have hz9 : H9 z = some (.tup zs) := by walk_at "t"
        have hp9 : H9 p = some (.lst ((giv i (cS n own tg sh g) fun a => ((ot own a : Nat) : Int)).map V.int)) := by walk_at "t"
        rw [hk z (ne_of hz9 hp9 (fun z => nomatch z))]
        exact hz9
      refine r_kIf (fun hs => ?_) fun hs => ?_
      · have hs1 : sh = 1 := by
          have := int_yes hs
          omega
        have haS : aS n sh = 2 * (n - 1) := by
          rw [hs1]
          rfl
        obtain ⟨v3, g3, i3⟩ := at_lt (xs := row) (j := 2 * i) (by omega)
        have nW3 : isW n sh (2 * i) = false := by
          unfold isW
          rw [show decide (2 * i % 2 = 1) = false from decide_eq_false (by omega), Bool.and_false]
        obtain ⟨p3, x3, q3, w3, rfl, r3, s3, l3, _⟩ := (hrow _ v3 g3 nW3).tx T6
        walk_at "g"
        refine r_ixT (by walk_at "t") (by rw [show (2 * (i : Int)) = ((2 * i : Nat) : Int) by omega]; exact i3) ?_
        walk_at "g"
        refine r_ixT (by walk_at "t") (calls_at l3 ho) ?_
        walk_at "g"
        refine r_kAnd (fun ht => ?_) fun ht => ?_
        · walk_at "g"
          refine r_ixT (by walk_at "t") i1 ?_
          walk_at "g"
          refine r_ixT (by walk_at "t") i2 ?_
          walk_at "g"
          refine r_kOr (fun hd => ?_) fun hd => ?_
          · refine fin _ _ _ _ (by walk_at "e") (cS_t (by have := int_yes ht; omega) ?_).symm
            rw [Bool.not_eq_true'] at hd
            exact int_no hd
          · walk_at "g"
            refine r_kAnd (fun _ => ?_) fun z => absurd hs (by rw [z]; decide)
            walk_at "g"
            refine r_kLst fun zl H8 e8 n8 h8 => ?_
            refine r_nePair (by walk_at "t") h8 ?_
            walk_at "g"
            refine fin _ _ _ _ (by walk_at "e") (cS_2 (fun _ => ?_) hs1).symm
            rw [Bool.not_eq_false'] at hd
            exact int_yes hd
        · refine r_kOr (fun z => nomatch z) fun _ => ?_
          walk_at "g"
          refine r_kAnd (fun _ => ?_) fun z => absurd hs (by rw [z]; decide)
          walk_at "g"
          refine r_kLst fun zl H8 e8 n8 h8 => ?_
          refine r_nePair (by walk_at "t") h8 ?_
          walk_at "g"
          refine fin _ _ _ _ (by walk_at "e") (cS_2 (fun z => absurd (by omega) (int_no ht)) hs1).symm
      · have hs0 : ¬ sh = 1 := by
          have := int_no hs
          omega
        walk_at "g"
        refine r_kAnd (fun ht => ?_) fun ht => ?_
        · walk_at "g"
          refine r_ixT (by walk_at "t") i1 ?_
          walk_at "g"
          refine r_ixT (by walk_at "t") i2 ?_
          walk_at "g"
          refine r_kOr (fun hd => ?_) fun hd => ?_
          · refine fin _ _ _ _ (by walk_at "e") (cS_t (by have := int_yes ht; omega) ?_).symm
            rw [Bool.not_eq_true'] at hd
            exact int_no hd
          · walk_at "g"
            refine r_kAnd (fun z => absurd hs (by rw [z]; decide)) fun _ => ?_
            refine fin _ _ _ _ (by walk_at "e") (cS_0 (fun _ => ?_) hs0).symm
            rw [Bool.not_eq_false'] at hd
            exact int_yes hd
        · refine r_kOr (fun z => nomatch z) fun _ => ?_
          walk_at "g"
          refine r_kAnd (fun z => absurd hs (by rw [z]; decide)) fun _ => ?_
          refine fin _ _ _ _ (by walk_at "e") (cS_0 (fun z => absurd (by omega) (int_no ht)) hs0).symm
    · obtain ⟨_, _, _, _, rfl, e5, _, _, hp5⟩ := hP
      walk_at "g"
      exact k p H' e5.s hp5
end
end Wg
set_option Elab.async false
set_option linter.all false
set_option maxRecDepth 100000
set_option maxHeartbeats 4000000
namespace Wg
open PySem L2
open PyProof.Rows hiding St
open RZ
abbrev s_look_signs : Stmt := topS 33
theorem sc_look_signs : FnScope ["hand", "manner", "reads", "word", "hands", "toggles", "shakes", "moves", "long", "rows", "seen", "row", "mover", "at", "begin"] ["hand", "manner", "reads"] (defScope s_look_signs) := ⟨rfl, rfl, rfl, by decide +kernel, rfl, by decide +kernel, by decide +kernel⟩
abbrev s_next_signs : Stmt := topS 35
theorem sc_next_signs : FnScope ["manner", "hand", "deed", "ahead", "reads", "word", "hands", "toggles", "shakes", "moves", "first", "rest", "step", "toggle"] ["manner", "hand", "deed", "ahead", "reads"] (defScope s_next_signs) := ⟨rfl, rfl, rfl, by decide +kernel, rfl, by decide +kernel, by decide +kernel⟩
section
variable {P : Program} {w : World} {K : PySem.W.Frag} {mg : Str → Option Value} {base : Heap}
/-- the rows of whole rounds: a list of tuples at the places of ys -/
def RowsAt (H : Hp) (rs : List V) (ln t : Nat) (ys : List V) : Prop := ys.length = t ∧ ∀ i, i < t → ∃ q, ys[i]? = some (.ref q) ∧ H q = some (.tup (seg rs (i * ln) ln))
theorem RowsAt.tx {H H' : Hp} {rs : List V} {ln t : Nat} {ys : List V} (h : RowsAt H rs ln t ys) (e : Tx H H') : RowsAt H' rs ln t ys := ⟨h.1, fun i hi => let ⟨q, a, b⟩ := h.2 i hi; ⟨q, a, e _ _ b⟩⟩
theorem RowsAt.snoc {H : Hp} {rs : List V} {ln t : Nat} {ys : List V} {q : Addr} (h : RowsAt H rs ln t ys) (hq : H q = some (.tup (seg rs (t * ln) ln))) : RowsAt H rs ln (t + 1) (ys ++ [.ref q]) := by
  refine ⟨by rw [List.length_append, List.length_singleton, h.1], fun i hi => ?_⟩
  by_cases z : i < t
  · obtain ⟨r, a, b⟩ := h.2 i z
    exact ⟨r, by rw [List.getElem?_append_left (by rw [h.1]; exact z)]; exact a, b⟩
  · have : i = t := by omega
    subst this
    refine ⟨q, ?_, hq⟩
    rw [List.getElem?_append_right (by rw [h.1]; exact Nat.le_refl _), h.1, Nat.sub_self]
    rfl
theorem RowsAt.last {H : Hp} {rs : List V} {ln t : Nat} {ys : List V} (h : RowsAt H rs ln t ys) (ht : 0 < t) : ∃ q, atI ys (-1) = some (.ref q) ∧ H q = some (.tup (seg rs ((t - 1) * ln) ln)) := by
  obtain ⟨q, a, b⟩ := h.2 (t - 1) (by omega)
  exact ⟨q, at_neg1 (by rw [h.1]; exact a), b⟩
theorem cut_row {rs : List V} {i ln : Nat} (h : i * ln + ln ≤ rs.length) : cutV rs (some (0 + (i : Int) * (ln : Int))) (some (0 + (i : Int) * (ln : Int) + (ln : Int))) = seg rs (i * ln) ln := by
  rw [mul_cast, show (((i * ln : Nat) : Int) + (ln : Int)) = ((i * ln + ln : Nat) : Int) by omega, cut_seg six_pos six_pos]
  congr 1 <;> omega
def ResS (H : Hp) (n own tg sh m : Nat) (f : Nat → Ob) (L : Nat) (v : V) : Prop :=
  Told H n v ∨ (((∃ j, j < n ∧ Reads1 H (kk "own" j) v ∧ isW n sh (L % lnS n sh) = false) ∨ (∃ j, j < n ∧ Writes1 H (kk2 "sign" own j) v ∧ isW n sh (L % lnS n sh) = true)) ∧
    ∀ k, 1 ≤ k → L = k * lnS n sh → Going (mvSr n own tg sh f) m k)
def sp_look_signs : Sp := fun vs H Q _ => ∃ (own n tg sh m : Nat) (mp rp : Addr) (rs : List V) (f : Nat → Ob), vs = [.int own, .ref mp, .ref rp] ∧ H mp = some (.tup (Mn.signs n tg sh m).vs) ∧ H rp = some (.tup rs) ∧ own < n ∧ n ≤ 5 ∧ tg ≤ 1 ∧ sh ≤ 1 ∧ rs.length ≤ 400 ∧
  PosS H n sh rs f ∧ (∀ k, k * lnS n sh ≤ rs.length → (seenTo (mvSr n own tg sh f) k).length ≤ 63) ∧ ∀ v H', Same H H' → ResS H' n own tg sh m f rs.length v → Q v H'
theorem ok_look_signs (B : Blt mg) (C_round_length_signs : Cal P w K mg base "round_length_signs" 1 ["hands", "shakes"] sp_len_signs) (C_moved_in_signs : Cal P w K mg base "moved_in_signs" 2 ["hand", "manner", "reads"] sp_moved_signs)
    (C_values_of : Cal P w K mg base "values_of" 1 ["collect"] sp_values) (C_seen_often : Cal P w K mg base "seen_often" 1 ["seen", "moves"] sp_often) (C_shake_step : Cal P w K mg base "shake_step" 2 ["hand", "hands", "reads", "at"] sp_shake)
    (C_own_read : Cal P w K mg base "own_read" 1 ["place"] sp_own_read) (D : Dfn K mg "look_signs" "look_signs" s_look_signs) : Cal P w K mg base "look_signs" 3 ["hand", "manner", "reads"] sp_look_signs := by
  refine cal_of D sc_look_signs (fun vs H Q E h => ?_) (fun _ _ _ _ _ _ us hl => match us, hl with | [_, _, _], _ => rfl) (fun f cdv A outer s H vs Q E hr h => ?_)
  · obtain ⟨own, n, tg, sh, m, mp, rp, rs, f, rfl, _⟩ := h
    rfl
  · obtain ⟨own, n, tg, sh, m, mp, rp, rs, f, rfl, hmp, hrp, ho, hn, htg, hsh, hL, hpos, hfew, k⟩ := h
    have hmp' : H mp = some (.tup [.str "signs", .int n, .int tg, .int sh, .int m]) := hmp
    have hn0 : 0 < n := by omega
    have hln : lnS n sh = aS n sh + 2 * n := rfl
    have haS : aS n sh ≤ 8 := by
      have : 2 * sh * (n - 1) ≤ 2 * 4 := Nat.mul_le_mul (by omega) (by omega)
      exact this
    have lnp : (0 : Int) < ((lnS n sh : Nat) : Int) := by omega
    refine ⟨_, (pss_cons (ps_asg (pv 1) (pg_tup (by rfl) (pgs_cons (pg_name (i := 3) sc_look_signs.nd rfl (by first | exact Or.inl rfl | exact Or.inr rfl)) (pgs_cons (pg_name (i := 4) sc_look_signs.nd rfl (by first | exact Or.inl rfl | exact Or.inr rfl)) (pgs_cons (pg_name (i := 5) sc_look_signs.nd rfl (by first | exact Or.inl rfl | exact Or.inr rfl)) (pgs_cons (pg_name (i := 6) sc_look_signs.nd rfl (by first | exact Or.inl rfl | exact Or.inr rfl)) (pgs_cons (pg_name (i := 7) sc_look_signs.nd rfl (by first | exact Or.inl rfl | exact Or.inr rfl)) pgs_nil)))))))
 (pss_cons (ps_set (i := 8) sc_look_signs.nd rfl (by first | exact Or.inl rfl | exact Or.inr rfl) (pe_cal C_round_length_signs (hr.mono (by decide)) (by rfl) (pa_cons (pv 4) (pa_cons (pv 6) pa_nil))))
 (Evl.pss_cut (ps_if (PW.pt (pw_and (pt_cmpR op_gt (pe_callB (cr_lenH (K := K) rfl) (by rfl) B.len boot_len (pa_cons (pv 2) pa_nil)) pe_int (nomark _)) (pw_and1 (pt_cmpR op_eq (pe_op op_mod (pe_callB (cr_lenH (K := K) rfl) (by rfl) B.len boot_len (pa_cons (pv 2) pa_nil)) (pv 8)) pe_int (nomark _)))))
 (pss_cons (ps_setLc (i := 9) (own := [("begin", 14)]) (g := gName 14) (tt := tYes) (by rfl) sc_look_signs.nd rfl rfl (sw_true rfl rfl rfl (by decide +kernel)) (pi_range3 (by rfl) B.range (pa_cons pe_int (pa_cons (pe_callB (cr_lenH (K := K) rfl) (by rfl) B.len boot_len (pa_cons (pv 2) pa_nil)) (pa_cons (pv 8) pa_nil)))) (blkOk_by (own := [("begin", 14)]) (N := ["hand", "manner", "reads", "word", "hands", "toggles", "shakes", "moves", "long", "rows", "seen", "row", "mover", "at", "begin"]) (sc := defScope s_look_signs) (by decide +kernel)) (fun _ _ _ _ _ => pg_name (i := 14) sc_look_signs.nd rfl (Or.inl rfl)) (fun _ _ _ _ _ => pts_nil) (fun _ _ _ _ _ => (pe_slice (sl_tupH (K := K) rfl) (pv 2) (po_some (pv 14)) (po_some (pe_op op_add (pv 14) (pv 8))))))
 (pss_cons (ps_if (pt_cmpR (op_eqD hr.units) (pe_cal C_moved_in_signs (hr.mono (by decide)) (by rfl) (pa_cons (pv 0) (pa_cons (pv 1) (pa_cons (pe_ix (ix_listH (K := K) rfl) (pv 9) (pe_un un_neg pe_int) (fun _ _ => rfl)) pa_nil)))) (pe_lst pa_nil) (nomark _))
 (pss_one (ps_ret (pe_tup (pa_cons pe_str (pa_cons (pe_cal C_values_of (hr.mono (by decide)) (by rfl) (pa_cons (pe_slice (sl_tupH (K := K) rfl) (pe_ix (ix_listH (K := K) rfl) (pv 9) (pe_un un_neg pe_int) (fun _ _ => rfl)) (po_some (pe_un un_neg (pv 4))) po_none) pa_nil)) pa_nil)))))
 pss_nil)
 (pss_cons (ps_set (i := 10) sc_look_signs.nd rfl (by first | exact Or.inl rfl | exact Or.inr rfl) (pe_lst pa_nil))
 (pss_cons (ps_for PassesOwn.never rfl (pi_list (pv 9)) (pg_name (i := 11) sc_look_signs.nd rfl (by first | exact Or.inl rfl | exact Or.inr rfl))
 (pss_one (ps_expr (pe_bmH (K := K) rfl (pe_bm PySem.F.plainAttrs_list PySem.F.slot_list_extend PySem.F.type_list_extend mt_extend (pv 10) (pa_cons (pe_cal C_moved_in_signs (hr.mono (by decide)) (by rfl) (pa_cons (pv 0) (pa_cons (pv 1) (pa_cons (pv 11) pa_nil)))) pa_nil))))))
 (pss_cons (ps_set (i := 12) sc_look_signs.nd rfl (by first | exact Or.inl rfl | exact Or.inr rfl) (pe_cal C_seen_often (hr.mono (by decide)) (by rfl) (pa_cons (pv 10) (pa_cons (pv 7) pa_nil))))
 (pss_one (ps_if (pt_cmpR op_notNon (pv 12) pe_non (nomark _))
 (pss_one (ps_ret (pe_tup (pa_cons pe_str (pa_cons (pe_ix (ix_tupH (K := K) rfl) (pe_ix (ix_tupH (K := K) rfl) (pe_slice (sl_tupH (K := K) rfl) (pe_ix (ix_listH (K := K) rfl) (pv 9) (pe_un un_neg pe_int) (fun _ _ => rfl)) (po_some (pe_un un_neg (pv 4))) po_none) (pv 12) (fun _ _ => rfl)) pe_int (fun _ _ => rfl)) pa_nil)))))
 pss_nil)))))))
 pss_nil)
 (pss_cons (ps_set (i := 13) sc_look_signs.nd rfl (by first | exact Or.inl rfl | exact Or.inr rfl) (pe_op op_mod (pe_callB (cr_lenH (K := K) rfl) (by rfl) B.len boot_len (pa_cons (pv 2) pa_nil)) (pv 8)))
 (pss_cons (ps_if (pt_cmpR op_lt (pv 13) (pe_op op_sub (pv 8) (pe_op op_mul pe_int (pv 4))) (nomark _))
 (pss_one (ps_ret (pe_cal C_shake_step (hr.mono (by decide)) (by rfl) (pa_cons (pv 0) (pa_cons (pv 4) (pa_cons (pv 2) (pa_cons (pv 13) pa_nil)))))))
 pss_nil)
 (pss_one (ps_ret (pe_cal C_own_read (hr.mono (by decide)) (by rfl) (pa_cons (pe_op op_mod (pe_op op_sub (pv 13) (pe_op op_sub (pv 8) (pe_op op_mul pe_int (pv 4)))) (pv 4)) pa_nil))))))))), ?_⟩
    walk_at "g"
    refine ⟨n, sh, rfl, hn0, hsh, ?_⟩
    walk_at "g"
    refine r_cut (fun σ' H' => ∃ o9 o10 o11 o12, σ' = [some (.int own), some (.ref mp), some (.ref rp), some (.str "signs"), some (.int n), some (.int tg), some (.int sh), some (.int m), some (.int (lnS n sh : Nat)), o9, o10, o11, o12, none, none] ∧ Bs H H' ∧
      ∀ k, 1 ≤ k → rs.length = k * lnS n sh → Going (mvSr n own tg sh f) m k) ?_ fun σ' H' hM => ?_
    · walk_at "g"
      refine r_kAnd (fun hb => ?_) fun hb => ?_
      · have hpos0 : 0 < rs.length := by
          have := of_decide_eq_true hb
          omega
        walk_at "g"
        refine r_I lnp ?_
        walk_at "g"
        refine r_kIf (fun hb2 => ?_) fun hb2 => ?_
        · have hm0 : rs.length % lnS n sh = 0 := by
            have := int_yes hb2
            omega
          obtain ⟨q, hq⟩ : ∃ q, rs.length = q * lnS n sh := ⟨rs.length / lnS n sh, by rw [Nat.div_mul_cancel (Nat.dvd_of_mod_eq_zero hm0)]⟩
          have hq1 : 1 ≤ q := by
            rcases Nat.eq_zero_or_pos q with z | z
            · rw [z, Nat.zero_mul] at hq
              omega
            · exact z
          have hq400 : q ≤ 400 := by
            have : q * 1 ≤ q * lnS n sh := Nat.mul_le_mul_left q (by omega)
            omega
          have rowle : ∀ i, i < q → i * lnS n sh + lnS n sh ≤ rs.length := fun i hi => by
            have : (i + 1) * lnS n sh ≤ q * lnS n sh := Nat.mul_le_mul_right _ hi
            rw [Nat.add_mul, Nat.one_mul] at this
            omega
          have rowok : ∀ i, i < q → ∀ H', Tx H H' → (seg rs (i * lnS n sh) (lnS n sh)).length = lnS n sh ∧ ∀ x v, (seg rs (i * lnS n sh) (lnS n sh))[x]? = some v → isW n sh x = false → Own4 H' n (f (i * lnS n sh + x)) v := fun i hi H' e => by
            have h1 := rowle i hi
            refine ⟨by rw [seg_len]; omega, fun x v hv hW => ?_⟩
            obtain ⟨hx, hv'⟩ := seg_some hv
            refine (hpos _ v hv' ?_).tx e
            rw [Nat.mul_comm, Nat.mul_add_mod, Nat.mod_eq_of_lt hx]
            exact hW
          walk_at "g"
          refine r_kRng3 (m := q) (by omega) (by omega) (by omega) (by rw [hq]; omega) (by rw [hq]; exact Nat.le_refl _) ?_
          refine r_kLcP wk_rangeC (fun t ys H' => RowsAt H' rs (lnS n sh) t ys) (by omega) (fun _ => rfl) (fun _ _ => trivial) ⟨rfl, fun i hi => absurd hi (Nat.not_lt_zero i)⟩ (fun _ _ _ _ e h => h.tx e) (fun t ys x H1 ht e1 hA hv F F0 h1 h0 => ?_) fun Dl ys H1 _ e1 hD hA => ?_
          · subst hv
            walk_at "g"
            refine r_kEl (fun _ => ?_) fun z => nomatch z
            walk_at "g"
            refine r_slA (e1 _ _ hrp) fun q' H2 e2 h2 => ?_
            rw [cut_row (rowle t ht)] at h2
            exact h1 _ _ e2 ((hA.tx (tx_same e2)).snoc h2)
          · obtain ⟨lq, lat, hlq⟩ := hA.last hq1
            obtain ⟨hlen1, hrow1⟩ := rowok (q - 1) (by omega) H1 (tx_same e1)
            walk_at "g"
            refine r_ixL hD lat ?_
            walk_at "g"
            refine ⟨own, n, tg, sh, m, mp, lq, _, _, rfl, e1 _ _ hmp, ho, hn, htg, hsh, hlq, hlen1, hrow1, fun p2 H2 e2 h2 => ?_⟩
            walk_at "g"
            refine r_kLst fun z3 H3 e3 n3 h3 => ?_
            refine r_eqNil (e3 _ _ h2) h3 ?_
            walk_at "g"
            refine r_kIf (fun hb3 => ?_) fun hb3 => ?_
            · walk_at "g"
              refine r_ixL (by walk_at "t") lat ?_
              walk_at "g"
              refine r_slA (by walk_at "t") fun p4 H4 e4 h4 => ?_
              have c4 : cutV (seg rs ((q - 1) * lnS n sh) (lnS n sh)) (some (-(n : Int))) none = seg (seg rs ((q - 1) * lnS n sh) (lnS n sh)) (aS n sh + n) n := by
                rw [cut_seg (six_neg hn0) (HT.sIx_none _ _)]
                congr 1 <;> omega
              rw [c4] at h4
              have l4 : (seg (seg rs ((q - 1) * lnS n sh) (lnS n sh)) (aS n sh + n) n).length = n := by
                rw [seg_len]
                omega
              walk_at "g"
              refine ⟨p4, _, rfl, h4, by omega, fun v hv => ?_, fun v H5 e5 hv => ?_⟩
              · obtain ⟨j, hj, ej⟩ := List.getElem_of_mem hv
                obtain ⟨hj2, hv2⟩ := seg_some (show _[j]? = some v by rw [List.getElem?_eq_getElem hj, ej])
                obtain ⟨p', x', q', w', e', h', _⟩ := (rowok (q - 1) (by omega) H4 (tx_same (e1.trans (e2.trans (e3.trans e4))))).2 _ v hv2 (by
                  unfold isW
                  rw [decide_eq_false (by omega)]
                  rfl)
                exact ⟨p', x', _, e', h'⟩
              · walk_at "g"
                refine r_kTup fun p6 H6 e6 n6 h6 => ?_
                rw [l4] at hv
                exact k _ H6 (by walk_at "e") (.inl ⟨p6, v, rfl, h6, hv.tx (tx_same e6)⟩)
            · have hne : mvSr n own tg sh f (q - 1) ≠ [] := of_decide_eq_false hb3
              walk_at "g"
              refine r_kLst fun p4 H4 e4 n4 h4 => ?_
              walk_at "g"
              have b4 : Bs H H4 := ⟨by walk_at "e"⟩
              have hp4 : H p4 = none := free_back e1 (free_back e2 (free_back e3 n4))
              have hD4 : H4 Dl = some (.lst ys) := by walk_at "t"
              have hDp : Dl ≠ p4 := by
                intro z
                subst z
                have : H3 Dl = some (.lst ys) := by walk_at "t"
                rw [n4] at this
                cases this
              refine r_kFor (n := q) (hA.1 ▸ wk_list (xs := ys)) (fun i σ' H' => ∃ o11, σ' = [some (.int own), some (.ref mp), some (.ref rp), some (.str "signs"), some (.int n), some (.int tg), some (.int sh), some (.int m), some (.int (lnS n sh : Nat)), some (.ref Dl), some (.ref p4), o11, none, none, none] ∧
                Bs H H' ∧ Tx H4 H' ∧ H' Dl = some (.lst ys) ∧ H' p4 = some (.lst ((seenTo (mvSr n own tg sh f) i).map V.int))) ⟨none, rfl, b4, Tx.refl _, hD4, h4⟩ (fun i σ' H' _ hP => ?_) (fun i x σ' H5 H6 hi hP hY => ?_) (fun σ' H5 hP => ?_)
              · obtain ⟨_, _, _, _, hq', _⟩ := hP
                exact SqL.of hq'
              · obtain ⟨o11, rfl, b5, x5, hD5, hp5⟩ := hP
                obtain ⟨rfl, hx⟩ := hY
                have T14 : Tx H1 H4 := tx_same (e2.trans (e3.trans e4))
                obtain ⟨qi, a1, a2⟩ := ((hA.tx T14).tx x5).2 i hi
                rw [hx] at a1
                cases a1
                obtain ⟨hlen5, hrow5⟩ := rowok i hi H6 (tx_same b5.s)
                walk_at "g"
                refine ⟨own, n, tg, sh, m, mp, qi, _, _, rfl, b5.s _ _ hmp, ho, hn, htg, hsh, a2, hlen5, hrow5, fun p7 H7 e7 h7 => ?_⟩
                walk_at "g"
                have hp7 : H7 p4 = some (.lst ((seenTo (mvSr n own tg sh f) i).map V.int)) := e7 _ _ hp5
                refine r_extend hp7 h7 ?_ ?_
                · have f1 := hfew i (by have := rowle i hi; omega)
                  have f2 : (mvS n own tg sh fun x => f (i * lnS n sh + x)).length ≤ n - 1 := giv_len
                  rw [List.length_map, List.length_map]
                  omega
                · walk_at "g"
                  refine ⟨_, rfl, ⟨same_mut (b5.s.trans e7) hp4⟩, (x5.trans (tx_same e7)).trans (tx_lst hp7), by rw [upd_ne hDp]; exact e7 _ _ hD5, ?_⟩
                  rw [upd_same, ← List.map_append]
                  rfl
              · obtain ⟨o11, rfl, b5, x5, hD5, hp5⟩ := hP
                walk_at "g"
                refine ⟨p4, _, m, rfl, hp5, by have := hfew q (by omega); omega, fun v H6 e6 hv => ?_⟩
                walk_at "g"
                rcases hv with ⟨rfl, hall⟩ | ⟨j, rfl, hj, hcnt⟩
                · refine r_kIf (fun z => nomatch z) fun _ => ?_
                  refine ⟨_, _, _, _, rfl, ⟨b5.s.trans e6⟩, fun k' hk' hL' => ?_⟩
                  have : k' = q := Nat.eq_of_mul_eq_mul_right (by omega) (hL'.symm.trans hq)
                  subst this
                  exact ⟨hne, hall⟩
                · refine r_kIf (fun _ => ?_) fun z => nomatch z
                  obtain ⟨a', ha', _, rfl⟩ : ∃ a', a' < n - 1 ∧ True ∧ j = ((ot own a' : Nat) : Int) := by
                    have := seenTo_mem (S := oth own n) q (fun i _ j hj => (rndS n own tg sh hn0).mem f i j hj) j hj
                    obtain ⟨a', h1, h2⟩ := List.mem_map.mp this
                    exact ⟨a', List.mem_range.mp h1, trivial, h2.symm⟩
                  have hot := ot_lt (i := own) ha'
                  walk_at "g"
                  refine r_ixL (by walk_at "t") lat ?_
                  walk_at "g"
                  have T14 : Tx H1 H4 := tx_same (e2.trans (e3.trans e4))
                  have hlq6 : H6 lq = some (.tup (seg rs ((q - 1) * lnS n sh) (lnS n sh))) := (T14.trans (x5.trans (tx_same e6))) _ _ hlq
                  refine r_slA hlq6 fun p7 H7 e7 h7 => ?_
                  have c4 : cutV (seg rs ((q - 1) * lnS n sh) (lnS n sh)) (some (-(n : Int))) none = seg (seg rs ((q - 1) * lnS n sh) (lnS n sh)) (aS n sh + n) n := by
                    rw [cut_seg (six_neg hn0) (HT.sIx_none _ _)]
                    congr 1 <;> omega
                  rw [c4] at h7
                  obtain ⟨u, gu, iu⟩ := at_lt (xs := seg (seg rs ((q - 1) * lnS n sh) (lnS n sh)) (aS n sh + n) n) (j := ot own a') (by rw [seg_len, seg_len]; have := rowle (q - 1) (by omega); omega)
                  obtain ⟨p', x', q', w', rfl, h', _, _, hw'⟩ := (rowok (q - 1) (by omega) H7 (tx_same (b5.s.trans (e6.trans e7)))).2 _ u (seg_some gu).2 (by
                    unfold isW
                    rw [decide_eq_false (by omega)]
                    rfl)
                  walk_at "g"
                  refine r_ixT h7 iu ?_
                  walk_at "g"
                  refine r_kTup fun p8 H8 e8 n8 h8 => ?_
                  exact k _ H8 (b5.s.trans (e6.trans (e7.trans e8))) (.inl ⟨p8, w', rfl, h8, hw'.tx (tx_same e8)⟩)
        · refine ⟨_, _, _, _, rfl, ⟨Same.refl _⟩, fun k' hk' hL' => ?_⟩
          have := int_no hb2
          rw [hL', Int.natCast_mul, Int.mul_emod_left] at this
          exact absurd rfl this
      · refine r_kIf (fun z => nomatch z) fun _ => ?_
        refine ⟨_, _, _, _, rfl, ⟨Same.refl _⟩, fun k' hk' hL' => ?_⟩
        have h0 := of_decide_eq_false hb
        have : 1 * lnS n sh ≤ k' * lnS n sh := Nat.mul_le_mul_right _ hk'
        omega
    · obtain ⟨o9, o10, o11, o12, rfl, b1, hgo⟩ := hM
      have hrp' := b1.s _ _ hrp
      walk_at "g"
      refine r_I lnp ?_
      rw [show ((rs.length : Int) % ((lnS n sh : Nat) : Int)) = ((rs.length % lnS n sh : Nat) : Int) from (Int.natCast_emod _ _).symm]
      have hat := Nat.mod_lt rs.length (show 0 < lnS n sh by omega)
      have hdm := Nat.div_add_mod rs.length (lnS n sh)
      generalize hx : rs.length % lnS n sh = x at hat hdm ⊢
      walk_at "g"
      refine r_kIf (fun hb => ?_) fun hb => ?_
      · have hxa : x < aS n sh := by
          have := of_decide_eq_true hb
          omega
        have hx2 : x < 2 * (n - 1) := by
          have : sh = 0 ∨ sh = 1 := by omega
          rcases this with z | z
          · rw [z] at hxa
            unfold aS at hxa
            omega
          · rw [z] at hxa
            unfold aS at hxa
            omega
        walk_at "g"
        refine ⟨own, n, x, rp, rs, rfl, ho, hn, hx2, hrp', fun hodd => ?_, fun v H2 e2 he hd => ?_⟩
        · have hL1 : rs.length - 1 < rs.length := by omega
          refine ⟨f (rs.length - 1), rs[rs.length - 1], List.getElem?_eq_getElem hL1, (hpos _ _ (List.getElem?_eq_getElem hL1) ?_).tx (tx_same b1.s)⟩
          have : (rs.length - 1) % lnS n sh = x - 1 := by
            rw [← hdm, show lnS n sh * (rs.length / lnS n sh) + x - 1 = lnS n sh * (rs.length / lnS n sh) + (x - 1) by omega, Nat.mul_add_mod, Nat.mod_eq_of_lt (by omega)]
          rw [this]
          unfold isW
          rw [show decide ((x - 1) % 2 = 1) = false from decide_eq_false (by omega), Bool.and_false]
        · refine k v H2 (b1.s.trans e2) (.inr ⟨?_, hgo⟩)
          rw [hx]
          have hot := ot_lt (i := own) (n := n) (a := x / 2) (by omega)
          rcases Nat.mod_two_eq_zero_or_one x with z | z
          · refine .inl ⟨_, hot, he z, ?_⟩
            unfold isW
            rw [show decide (x % 2 = 1) = false from decide_eq_false (by omega), Bool.and_false]
          · refine .inr ⟨_, hot, hd z, ?_⟩
            unfold isW
            rw [decide_eq_true hxa, decide_eq_true z]
            rfl
      · have hxa : ¬ x < aS n sh := by
          have := of_decide_eq_false hb
          omega
        walk_at "g"
        refine r_I (show (0 : Int) < (n : Int) by omega) ?_
        rw [show (((x : Nat) : Int) - (((lnS n sh : Nat) : Int) - 2 * (n : Int))) = ((x - aS n sh : Nat) : Int) by omega, ← Int.natCast_emod]
        walk_at "g"
        refine ⟨_, rfl, fun p2 q2 H2 e2 h2 h3 => ?_⟩
        refine k _ H2 (b1.s.trans e2) (.inr ⟨.inl ⟨(x - aS n sh) % n, Nat.mod_lt _ hn0, ⟨p2, q2, rfl, h2, h3⟩, ?_⟩, hgo⟩)
        rw [hx]
        unfold isW
        rw [decide_eq_false hxa]
        rfl
theorem ok_next_signs (C_look_signs : Cal P w K mg base "look_signs" 3 ["hand", "manner", "reads"] sp_look_signs) (D : Dfn K mg "next_signs" "next_signs" s_next_signs) :
    Cal P w K mg base "next_signs" 4 ["manner", "hand", "deed", "ahead", "reads"] (sp_next fun m => ∃ n tg sh w, m = .signs n tg sh w) := by
  refine cal_of D sc_next_signs (fun vs H Q E h => ?_) (fun _ _ _ _ _ _ us hl => match us, hl with | [_, _, _, _, _], _ => rfl) (fun f cdv A outer s H vs Q E hr h => ?_)
  · obtain ⟨mp, dp, rp, av, m, own, c0, rs, rfl, _⟩ := h
    rfl
  · obtain ⟨mp, dp, rp, av, _, own, c0, rs, rfl, hmp, hdp, hrp, hok, hown, ⟨n, tg, sh, w, rfl⟩, hg, k⟩ := h
    have hL := Nat.le_trans (hg.most hok) (most_le hok)
    obtain ⟨h1, h2, h3, h4, h5, h6⟩ := hok
    obtain ⟨f, g1, g2, g3⟩ := hg
    have hmp' : H mp = some (.tup [.str "signs", .int n, .int tg, .int sh, .int w]) := hmp
    refine ⟨_, (pss_cons (ps_asg (pv 0) (pg_tup (by rfl) (pgs_cons (pg_name (i := 5) sc_next_signs.nd rfl (by first | exact Or.inl rfl | exact Or.inr rfl)) (pgs_cons (pg_name (i := 6) sc_next_signs.nd rfl (by first | exact Or.inl rfl | exact Or.inr rfl)) (pgs_cons (pg_name (i := 7) sc_next_signs.nd rfl (by first | exact Or.inl rfl | exact Or.inr rfl)) (pgs_cons (pg_name (i := 8) sc_next_signs.nd rfl (by first | exact Or.inl rfl | exact Or.inr rfl)) (pgs_cons (pg_name (i := 9) sc_next_signs.nd rfl (by first | exact Or.inl rfl | exact Or.inr rfl)) pgs_nil)))))))
 (pss_cons (ps_if (pt_cmpR op_eq (pe_ix (ix_tupH (K := K) rfl) (pv 2) pe_int (fun _ _ => rfl)) pe_str (nomark _))
 (pss_one (ps_ret (pe_cal C_look_signs (hr.mono (by decide)) (by rfl) (pa_cons (pv 1) (pa_cons (pv 0) (pa_cons (pv 4) pa_nil))))))
 pss_nil)
 pss_never)), ?_⟩
    walk_at "g"
    refine r_kIf (fun _ => ?_) fun hb => absurd hb (by decide)
    walk_at "g"
    refine ⟨own, n, tg, sh, w, mp, rp, rs, f, rfl, hmp, hrp, hown, h2, h5, h6, by omega, g1, GoR.few (rndS n own tg sh h1) h2 h4 g2, fun v H1 e1 hres => ?_⟩
    refine k v H1 e1 ?_
    rcases hres with ht | ⟨⟨j, hj, hrd, hW⟩ | ⟨j, hj, hwr, hW⟩, hgo⟩
    · exact .inl ht
    · refine .inr (.inl ⟨_, hrd, .inr (.inl ⟨j, hj, rfl⟩), fun x H' e' hc _ => ?_⟩)
      obtain ⟨o, ho⟩ := hc.own rfl
      exact goodS_snoc h1 g1 g2 hgo ((tx_same e1).trans e') fun _ => ho
    · refine .inr (.inr ⟨_, hwr, .inr (.inr (.inr (.inr ⟨own, j, hown, hj, rfl⟩))), rfl, fun H' e' => ?_⟩)
      exact goodS_snoc (o := default) h1 g1 g2 hgo ((tx_same e1).trans e') fun z => by
        rw [hW] at z
        cases z
end
end Wg
set_option Elab.async false
set_option linter.all false
set_option maxRecDepth 100000
set_option maxHeartbeats 4000000
namespace Wg
open PySem L2
open PyProof.Rows hiding St
open RZ
abbrev s_round_length_shared : Stmt := topS 16
theorem sc_round_length_shared : FnScope ["manner", "word", "hands", "places", "toggles", "shakes", "moves"] ["manner"] (defScope s_round_length_shared) := ⟨rfl, rfl, rfl, by decide +kernel, rfl, by decide +kernel, by decide +kernel⟩
abbrev s_round_step : Stmt := topS 18
theorem sc_round_step : FnScope ["hand", "manner", "reads", "at", "word", "hands", "places", "toggles", "shakes", "moves", "ahead", "j"] ["hand", "manner", "reads", "at"] (defScope s_round_step) := ⟨rfl, rfl, rfl, by decide +kernel, rfl, by decide +kernel, by decide +kernel⟩
abbrev s_has_written : Stmt := topS 19
theorem sc_has_written : FnScope ["manner", "one", "other", "j", "toggles", "first", "second"] ["manner", "one", "other", "j"] (defScope s_has_written) := ⟨rfl, rfl, rfl, by decide +kernel, rfl, by decide +kernel, by decide +kernel⟩
abbrev s_collects_in : Stmt := topS 20
theorem sc_collects_in : FnScope ["manner", "row", "word", "hands", "places", "toggles", "shakes", "moves", "ahead"] ["manner", "row"] (defScope s_collects_in) := ⟨rfl, rfl, rfl, by decide +kernel, rfl, by decide +kernel, by decide +kernel⟩
theorem scal_int (a b : Int) : scal (.int a) (.int b) = true := rfl
def hasV (p tg : Nat) (f g : Nat → Ob) (j : Int) : Bool := (List.range p).any fun k => decide ((g k).a = j) && (!decide ((f k).a = j) || (decide (tg = 1) && !decide ((f k).b = (g k).b)))
theorem any_take {p i : Nat} {f : Nat → Bool} (hi : i < p) (h : f i = true) : (List.range p).any f = true := List.any_eq_true.mpr ⟨i, List.mem_range.mpr hi, h⟩
section
variable {P : Program} {w : World} {K : PySem.W.Frag} {mg : Str → Option Value} {base : Heap}
def sp_len_shared : Sp := fun vs H Q _ => ∃ (mp : Addr) (n p tg sh m : Nat), vs = [.ref mp] ∧ H mp = some (.tup (Mn.shared n p tg sh m).vs) ∧ 0 < n ∧ sh ≤ 1 ∧ Q (.int ((lnM n p sh : Nat) : Int)) H
theorem ok_len_shared (D : Dfn K mg "round_length_shared" "round_length" s_round_length_shared) : Cal P w K mg base "round_length_shared" 1 ["manner"] sp_len_shared := by
  refine cal_of D sc_round_length_shared (fun vs H Q E h => ?_) (fun _ _ _ _ _ _ us hl => match us, hl with | [_], _ => rfl) (fun f cdv A outer s H vs Q E hr h => ?_)
  · obtain ⟨mp, n, p, tg, sh, m, rfl, _⟩ := h
    rfl
  · obtain ⟨mp, n, p, tg, sh, m, rfl, hmp, hn, hs, k⟩ := h
    have hmp' : H mp = some (.tup [.str "shared", .int n, .int p, .int tg, .int sh, .int m]) := hmp
    refine ⟨_, (pss_cons (ps_asg (pv 0) (pg_tup (by rfl) (pgs_cons (pg_name (i := 1) sc_round_length_shared.nd rfl (by first | exact Or.inl rfl | exact Or.inr rfl)) (pgs_cons (pg_name (i := 2) sc_round_length_shared.nd rfl (by first | exact Or.inl rfl | exact Or.inr rfl)) (pgs_cons (pg_name (i := 3) sc_round_length_shared.nd rfl (by first | exact Or.inl rfl | exact Or.inr rfl)) (pgs_cons (pg_name (i := 4) sc_round_length_shared.nd rfl (by first | exact Or.inl rfl | exact Or.inr rfl)) (pgs_cons (pg_name (i := 5) sc_round_length_shared.nd rfl (by first | exact Or.inl rfl | exact Or.inr rfl)) (pgs_cons (pg_name (i := 6) sc_round_length_shared.nd rfl (by first | exact Or.inl rfl | exact Or.inr rfl)) pgs_nil))))))))
 (pss_one (ps_ret (pe_op op_add (pe_op op_mul pe_int (pv 3)) (pe_op op_mul (pe_op op_mul pe_int (pv 5)) (pe_op op_sub (pv 2) pe_int)))))), ?_⟩
    walk_at "g"
    refine r_I (.inl ⟨by omega, by omega⟩) ?_
    walk_at "g"
    have e : (2 * (p : Int) + 3 * (sh : Int) * ((n : Int) - 1)) = ((lnM n p sh : Nat) : Int) := by
      rw [lnM_eq, Int.natCast_add, Int.natCast_mul, Int.natCast_mul, Int.natCast_mul]
      congr 2
      omega
    rw [e]
    exact k
def sp_round_step : Sp := fun vs H Q _ => ∃ (own n p tg sh m x : Nat) (mp rp : Addr) (rs : List V), vs = [.int own, .ref mp, .ref rp, .int x] ∧ H mp = some (.tup (Mn.shared n p tg sh m).vs) ∧ own < n ∧ n ≤ 5 ∧ 0 < p ∧ sh ≤ 1 ∧ x < lnM n p sh ∧ H rp = some (.tup rs) ∧
  (x < aS n sh → x % 2 = 1 → ∃ i, rs[rs.length - 1]? = some (.int i)) ∧
  ∀ v H', Same H H' → (x < aS n sh → x % 2 = 0 → Reads1 H' (kk2 "call" (ot own (x / 2)) own) v) → (x < aS n sh → x % 2 = 1 → Writes1 H' (kk2 "sign" own (ot own (x / 2))) v) →
    (aS n sh ≤ x → x < aS n sh + 2 * p → Reads1 H' (kk "box" ((x - aS n sh) % p)) v) → (aS n sh + 2 * p ≤ x → Reads1 H' (kk2 "call" (ot own (x - aS n sh - 2 * p)) own) v) → Q v H'
theorem aS_le {n sh : Nat} (h : sh ≤ 1) : aS n sh ≤ 2 * (n - 1) := by
  have : sh = 0 ∨ sh = 1 := by omega
  rcases this with z | z
  · rw [z]
    unfold aS
    omega
  · rw [z]
    unfold aS
    omega
theorem ok_round_step (C_others : Cal P w K mg base "others" 1 ["hand", "hands"] sp_others) (D : Dfn K mg "round_step" "round_step" s_round_step) : Cal P w K mg base "round_step" 2 ["hand", "manner", "reads", "at"] sp_round_step := by
  refine cal_of D sc_round_step (fun vs H Q E h => ?_) (fun _ _ _ _ _ _ us hl => match us, hl with | [_, _, _, _], _ => rfl) (fun f cdv A outer s H vs Q E hr h => ?_)
  · obtain ⟨own, n, p, tg, sh, m, x, mp, rp, rs, rfl, _⟩ := h
    rfl
  · obtain ⟨own, n, p, tg, sh, m, x, mp, rp, rs, rfl, hmp, ho, hn, hp, hs, hx, hrp, hodd, k⟩ := h
    have hmp' : H mp = some (.tup [.str "shared", .int n, .int p, .int tg, .int sh, .int m]) := hmp
    have hn0 : 0 < n := by omega
    have hA := aS_le (n := n) hs
    have hlm : lnM n p sh ≤ aS n sh + 2 * p + (n - 1) := by
      have : sh * (n - 1) ≤ 1 * (n - 1) := Nat.mul_le_mul_right _ hs
      unfold lnM
      omega
    refine ⟨_, (pss_cons (ps_asg (pv 1) (pg_tup (by rfl) (pgs_cons (pg_name (i := 4) sc_round_step.nd rfl (by first | exact Or.inl rfl | exact Or.inr rfl)) (pgs_cons (pg_name (i := 5) sc_round_step.nd rfl (by first | exact Or.inl rfl | exact Or.inr rfl)) (pgs_cons (pg_name (i := 6) sc_round_step.nd rfl (by first | exact Or.inl rfl | exact Or.inr rfl)) (pgs_cons (pg_name (i := 7) sc_round_step.nd rfl (by first | exact Or.inl rfl | exact Or.inr rfl)) (pgs_cons (pg_name (i := 8) sc_round_step.nd rfl (by first | exact Or.inl rfl | exact Or.inr rfl)) (pgs_cons (pg_name (i := 9) sc_round_step.nd rfl (by first | exact Or.inl rfl | exact Or.inr rfl)) pgs_nil))))))))
 (pss_cons (ps_set (i := 10) sc_round_step.nd rfl (by first | exact Or.inl rfl | exact Or.inr rfl) (pe_op op_mul (pe_op op_mul pe_int (pv 8)) (pe_op op_sub (pv 5) pe_int)))
 (pss_cons (ps_if (pt_cmpR op_lt (pv 3) (pv 10) (nomark _))
 (pss_cons (ps_set (i := 11) sc_round_step.nd rfl (by first | exact Or.inl rfl | exact Or.inr rfl) (pe_ix (ix_listH (K := K) rfl) (pe_cal C_others (hr.mono (by decide)) (by rfl) (pa_cons (pv 0) (pa_cons (pv 5) pa_nil))) (pe_op op_fdiv (pv 3) pe_int) (fun _ _ => rfl)))
 (pss_cons (ps_if (pt_cmpR op_eq (pe_op op_mod (pv 3) pe_int) pe_int (nomark _))
 (pss_one (ps_ret (pe_tup (pa_cons pe_str (pa_cons (pe_tup (pa_cons pe_str (pa_cons (pv 11) (pa_cons (pv 0) pa_nil)))) pa_nil)))))
 pss_nil)
 (pss_one (ps_ret (pe_tup (pa_cons pe_str (pa_cons (pe_tup (pa_cons pe_str (pa_cons (pv 0) (pa_cons (pv 11) pa_nil)))) (pa_cons (pe_ix (ix_tupH (K := K) rfl) (pv 2) (pe_un un_neg pe_int) (fun _ _ => rfl)) pa_nil))))))))
 pss_nil)
 (pss_cons (ps_if (pt_cmpR op_lt (pv 3) (pe_op op_add (pv 10) (pe_op op_mul pe_int (pv 6))) (nomark _))
 (pss_one (ps_ret (pe_tup (pa_cons pe_str (pa_cons (pe_tup (pa_cons pe_str (pa_cons (pe_op op_mod (pe_op op_sub (pv 3) (pv 10)) (pv 6)) pa_nil))) pa_nil)))))
 pss_nil)
 (pss_one (ps_ret (pe_tup (pa_cons pe_str (pa_cons (pe_tup (pa_cons pe_str (pa_cons (pe_ix (ix_listH (K := K) rfl) (pe_cal C_others (hr.mono (by decide)) (by rfl) (pa_cons (pv 0) (pa_cons (pv 5) pa_nil))) (pe_op op_sub (pe_op op_sub (pv 3) (pv 10)) (pe_op op_mul pe_int (pv 6))) (fun _ _ => rfl)) (pa_cons (pv 0) pa_nil)))) pa_nil))))))))), ?_⟩
    walk_at "g"
    refine r_I (.inl ⟨by omega, by omega⟩) ?_
    rw [aS_cast hn0]
    walk_at "g"
    refine r_kIf (fun hb => ?_) fun hb => ?_
    · have hxa : x < aS n sh := by
        have := of_decide_eq_true hb
        omega
      walk_at "g"
      refine ⟨own, n, rfl, ho, hn, fun p1 H1 e1 h1 => ?_⟩
      walk_at "g"
      have hd : x / 2 < n - 1 := by omega
      refine r_ixL h1 (v := .int ((ot own (x / 2) : Nat) : Int)) ?_ ?_
      · rw [show ((x : Int) / 2) = ((x / 2 : Nat) : Int) by omega]
        refine atI_nat ?_
        rw [List.getElem?_map, oth_get hd]
        rfl
      walk_at "g"
      refine r_kIf (fun hb2 => ?_) fun hb2 => ?_
      · have h0 : x % 2 = 0 := by
          have := int_yes hb2
          omega
        walk_at "g"
        refine r_kTup fun q2 H2 e2 n2 h2 => ?_
        walk_at "g"
        refine r_kTup fun q3 H3 e3 n3 h3 => ?_
        exact k _ H3 (by walk_at "e") (fun _ _ => ⟨q3, q2, rfl, h3, by walk_at "t"⟩) (fun _ z => by omega) (fun z => by omega) fun z => by omega
      · have h0 : x % 2 = 1 := by
          have := int_no hb2
          omega
        obtain ⟨i, hi⟩ := hodd hxa h0
        walk_at "g"
        refine r_kTup fun q2 H2 e2 n2 h2 => ?_
        walk_at "g"
        refine r_ixT (by walk_at "t") (at_neg1 hi) ?_
        walk_at "g"
        refine r_kTup fun q3 H3 e3 n3 h3 => ?_
        exact k _ H3 (by walk_at "e") (fun _ z => by omega) (fun _ _ => ⟨q3, q2, i, rfl, h3, by walk_at "t"⟩) (fun z => by omega) fun z => by omega
    · have hxa : aS n sh ≤ x := by
        have := of_decide_eq_false hb
        omega
      walk_at "g"
      refine r_kIf (fun hb2 => ?_) fun hb2 => ?_
      · have hxb : x < aS n sh + 2 * p := by
          have := of_decide_eq_true hb2
          omega
        walk_at "g"
        refine r_I (show (0 : Int) < (p : Int) by omega) ?_
        rw [show ((x : Int) - ((aS n sh : Nat) : Int)) = ((x - aS n sh : Nat) : Int) by omega, ← Int.natCast_emod]
        walk_at "g"
        refine r_kTup fun q2 H2 e2 n2 h2 => ?_
        walk_at "g"
        refine r_kTup fun q3 H3 e3 n3 h3 => ?_
        exact k _ H3 (by walk_at "e") (fun z => by omega) (fun z => by omega) (fun _ _ => ⟨q3, q2, rfl, h3, by walk_at "t"⟩) fun z => by omega
      · have hxb : aS n sh + 2 * p ≤ x := by
          have := of_decide_eq_false hb2
          omega
        walk_at "g"
        refine ⟨own, n, rfl, ho, hn, fun p1 H1 e1 h1 => ?_⟩
        walk_at "g"
        refine r_ixL h1 (v := .int ((ot own (x - aS n sh - 2 * p) : Nat) : Int)) ?_ ?_
        · rw [show ((x : Int) - ((aS n sh : Nat) : Int) - 2 * (p : Int)) = ((x - aS n sh - 2 * p : Nat) : Int) by omega]
          refine atI_nat ?_
          rw [List.getElem?_map, oth_get (by omega)]
          rfl
        walk_at "g"
        refine r_kTup fun q2 H2 e2 n2 h2 => ?_
        walk_at "g"
        refine r_kTup fun q3 H3 e3 n3 h3 => ?_
        exact k _ H3 (by walk_at "e") (fun z => by omega) (fun z => by omega) (fun _ z => by omega) fun _ => ⟨q3, q2, rfl, h3, by walk_at "t"⟩
def sp_collects : Sp := fun vs H Q _ => ∃ (n p tg sh m : Nat) (mp a : Addr) (row : List V), vs = [.ref mp, .ref a] ∧ H mp = some (.tup (Mn.shared n p tg sh m).vs) ∧ 0 < n ∧ sh ≤ 1 ∧ H a = some (.tup row) ∧ aS n sh + 2 * p ≤ row.length ∧
  ∀ q b c H', Same H H' → H' q = some (.tup [.ref b, .ref c]) → H' b = some (.tup (seg row (aS n sh) p)) → H' c = some (.tup (seg row (aS n sh + p) p)) → Q (.ref q) H'
theorem ok_collects (D : Dfn K mg "collects_in" "collects_in" s_collects_in) : Cal P w K mg base "collects_in" 1 ["manner", "row"] sp_collects := by
  refine cal_of D sc_collects_in (fun vs H Q E h => ?_) (fun _ _ _ _ _ _ us hl => match us, hl with | [_, _], _ => rfl) (fun f cdv A outer s H vs Q E hr h => ?_)
  · obtain ⟨n, p, tg, sh, m, mp, a, row, rfl, _⟩ := h
    rfl
  · obtain ⟨n, p, tg, sh, m, mp, a, row, rfl, hmp, hn, hs, ha, hl, k⟩ := h
    have hmp' : H mp = some (.tup [.str "shared", .int n, .int p, .int tg, .int sh, .int m]) := hmp
    have c1 : cutV row (some ((aS n sh : Nat) : Int)) (some (((aS n sh : Nat) : Int) + (p : Int))) = seg row (aS n sh) p := by
      rw [show (((aS n sh : Nat) : Int) + (p : Int)) = ((aS n sh + p : Nat) : Int) by omega, cut_seg six_pos six_pos]
      congr 1 <;> omega
    have c2 : cutV row (some (((aS n sh : Nat) : Int) + (p : Int))) (some (((aS n sh : Nat) : Int) + 2 * (p : Int))) = seg row (aS n sh + p) p := by
      rw [show (((aS n sh : Nat) : Int) + (p : Int)) = ((aS n sh + p : Nat) : Int) by omega, show (((aS n sh : Nat) : Int) + 2 * (p : Int)) = ((aS n sh + 2 * p : Nat) : Int) by omega, cut_seg six_pos six_pos]
      congr 1 <;> omega
    refine ⟨_, (pss_cons (ps_asg (pv 0) (pg_tup (by rfl) (pgs_cons (pg_name (i := 2) sc_collects_in.nd rfl (by first | exact Or.inl rfl | exact Or.inr rfl)) (pgs_cons (pg_name (i := 3) sc_collects_in.nd rfl (by first | exact Or.inl rfl | exact Or.inr rfl)) (pgs_cons (pg_name (i := 4) sc_collects_in.nd rfl (by first | exact Or.inl rfl | exact Or.inr rfl)) (pgs_cons (pg_name (i := 5) sc_collects_in.nd rfl (by first | exact Or.inl rfl | exact Or.inr rfl)) (pgs_cons (pg_name (i := 6) sc_collects_in.nd rfl (by first | exact Or.inl rfl | exact Or.inr rfl)) (pgs_cons (pg_name (i := 7) sc_collects_in.nd rfl (by first | exact Or.inl rfl | exact Or.inr rfl)) pgs_nil))))))))
 (pss_cons (ps_set (i := 8) sc_collects_in.nd rfl (by first | exact Or.inl rfl | exact Or.inr rfl) (pe_op op_mul (pe_op op_mul pe_int (pv 6)) (pe_op op_sub (pv 3) pe_int)))
 (pss_one (ps_ret (pe_tup (pa_cons (pe_slice (sl_tupH (K := K) rfl) (pv 1) (po_some (pv 8)) (po_some (pe_op op_add (pv 8) (pv 4)))) (pa_cons (pe_slice (sl_tupH (K := K) rfl) (pv 1) (po_some (pe_op op_add (pv 8) (pv 4))) (po_some (pe_op op_add (pv 8) (pe_op op_mul pe_int (pv 4))))) pa_nil))))))), ?_⟩
    walk_at "g"
    refine r_I (.inl ⟨by omega, by omega⟩) ?_
    rw [aS_cast hn]
    walk_at "g"
    refine r_slA ha fun b H1 e1 h1 => ?_
    walk_at "g"
    refine r_slA (e1 _ _ ha) fun c H2 e2 h2 => ?_
    walk_at "g"
    refine r_kTup fun q H3 e3 n3 h3 => ?_
    rw [c1] at h1
    rw [c2] at h2
    exact k q b c H3 (by walk_at "e") h3 (by walk_at "t") (by walk_at "t")
def sp_has_written : Sp := fun vs H Q _ => ∃ (n p tg sh m : Nat) (mp a b : Addr) (xs ys : List V) (f g : Nat → Ob) (j : Int), vs = [.ref mp, .ref a, .ref b, .int j] ∧ H mp = some (.tup (Mn.shared n p tg sh m).vs) ∧ H a = some (.tup xs) ∧ H b = some (.tup ys) ∧
  xs.length = p ∧ ys.length = p ∧ Row H (BoxV H) xs f ∧ Row H (BoxV H) ys g ∧ ∀ H', Same H H' → Q (.bl (hasV p tg f g j)) H'
theorem ok_has_written (B : Blt mg) (D : Dfn K mg "has_written" "has_written" s_has_written) : Cal P w K mg base "has_written" 1 ["manner", "one", "other", "j"] sp_has_written := by
  refine cal_of D sc_has_written (fun vs H Q E h => ?_) (fun _ _ _ _ _ _ us hl => match us, hl with | [_, _, _, _], _ => rfl) (fun f cdv A outer s H vs Q E hr h => ?_)
  · obtain ⟨n, p, tg, sh, m, mp, a, b, xs, ys, f, g, j, rfl, _⟩ := h
    rfl
  · obtain ⟨n, p, tg, sh, m, mp, a, b, xs, ys, f, g, j, rfl, hmp, ha, hb, hx, hy, rx, ry, k⟩ := h
    have hmp' : H mp = some (.tup [.str "shared", .int n, .int p, .int tg, .int sh, .int m]) := hmp
    refine ⟨_, (pss_cons (ps_set (i := 4) sc_has_written.nd rfl (by first | exact Or.inl rfl | exact Or.inr rfl) (pe_ix (ix_tupH (K := K) rfl) (pv 0) pe_int (fun _ _ => rfl)))
 (pss_cons (ps_for PassesOwn.never rfl (RZ.pi_zipA (by rfl) B.zip (pa_cons (pv 1) (pa_cons (pv 2) pa_nil))) (pg_tup (by rfl) (pgs_cons (pg_name (i := 5) sc_has_written.nd rfl (by first | exact Or.inl rfl | exact Or.inr rfl)) (pgs_cons (pg_name (i := 6) sc_has_written.nd rfl (by first | exact Or.inl rfl | exact Or.inr rfl)) pgs_nil)))
 (pss_one (ps_if (PW.pt (pw_and (pt_cmpR op_eq (pe_ix (ix_tupH (K := K) rfl) (pv 6) pe_int (fun _ _ => rfl)) (pv 3) (nomark _)) (pw_and1 (PW.pt (pw_or (pt_cmpR op_ne (pe_ix (ix_tupH (K := K) rfl) (pv 5) pe_int (fun _ _ => rfl)) (pv 3) (nomark _)) (pw_or1 (PW.pt (pw_and (pt_cmpR op_eq (pv 4) pe_int (nomark _)) (pw_and1 (pt_cmpR op_ne (pe_ix (ix_tupH (K := K) rfl) (pv 5) pe_int (fun _ _ => rfl)) (pe_ix (ix_tupH (K := K) rfl) (pv 6) pe_int (fun _ _ => rfl)) (nomark _)))))))))))
 (pss_one (ps_ret pe_bl))
 pss_nil)))
 (pss_one (ps_ret pe_bl)))), ?_⟩
    walk_at "g"
    refine for_zipT (xs := xs) (ys := ys) (by rw [hx, hy]) (fun i σ' H' => ∃ o1 o2, σ' = [some (.ref mp), some (.ref a), some (.ref b), some (.int j), some (.int tg), o1, o2] ∧ Bs H H' ∧ ∀ t, t < i → (decide ((g t).a = j) && (!decide ((f t).a = j) || (decide (tg = 1) && !decide ((f t).b = (g t).b)))) = false)
      ⟨none, none, rfl, ⟨Same.refl _⟩, fun t ht => absurd ht (Nat.not_lt_zero t)⟩ (fun i σ' H' hP => ?_) (fun i x y T σ' H1 hxi hyi hP nT => ?_) (fun σ' H' hP => ?_)
    · obtain ⟨_, _, _, b1, _⟩ := hP
      exact ⟨SqT.of (b1.s _ _ ha), SqT.of (b1.s _ _ hb)⟩
    · obtain ⟨o1, o2, rfl, b1, hno⟩ := hP
      have e2 := same_new (o := .tup [x, y]) nT
      have hT : (upd H1 T (.tup [x, y])) T = some (.tup [x, y]) := upd_same
      generalize upd H1 T (.tup [x, y]) = H2 at e2 hT ⊢
      have T2 : Tx H H2 := tx_same (b1.s.trans e2)
      have hi : i < p := by
        have := (List.getElem?_eq_some_iff.mp hxi).1
        omega
      obtain ⟨p1, x1, rfl, q1⟩ := (rx i x hxi).tx T2
      obtain ⟨p2, x2, rfl, q2⟩ := (ry i y hyi).tx T2
      have fin : ∀ (c : Bool), c = (decide ((g i).a = j) && (!decide ((f i).a = j) || (decide (tg = 1) && !decide ((f i).b = (g i).b)))) →
          (c = true → Q (.bl true) H2) ∧ (c = false → ∀ t, t < i + 1 → (decide ((g t).a = j) && (!decide ((f t).a = j) || (decide (tg = 1) && !decide ((f t).b = (g t).b)))) = false) := fun c hc => by
        refine ⟨fun h1 => ?_, fun h0 t ht => ?_⟩
        · have := k H2 (b1.s.trans e2)
          unfold hasV at this
          rw [any_take hi (hc.symm.trans h1)] at this
          exact this
        · by_cases z : t < i
          · exact hno t z
          · have : t = i := by omega
            subst this
            exact hc.symm.trans h0
      walk_at "g"
      refine r_kAnd (fun h1 => ?_) fun h1 => ?_
      · have g1 := int_yes h1
        walk_at "g"
        refine r_kOr (fun h2 => ?_) fun h2 => ?_
        · suffices hc : _ = _ from r_kIf (fun z => (fin _ hc).1 z) (fun z => ⟨_, _, rfl, ⟨b1.s.trans e2⟩, (fin _ hc).2 z⟩)
          rw [Bool.not_eq_true'] at h2
          rw [decide_eq_true g1, decide_eq_false (int_no h2)]
          rfl
        · have f1 : (f i).a = j := by
            rw [Bool.not_eq_false'] at h2
            exact int_yes h2
          walk_at "g"
          refine r_kAnd (fun h3 => ?_) fun h3 => ?_
          · walk_at "g"
            suffices hc : _ = _ from r_kIf (fun z => (fin _ hc).1 z) (fun z => ⟨_, _, rfl, ⟨b1.s.trans e2⟩, (fin _ hc).2 z⟩)
            have t1 : tg = 1 := by
              have := int_yes h3
              omega
            rw [decide_eq_true g1, decide_eq_true f1, decide_eq_true t1, dec_int]
            simp
          · suffices hc : _ = _ from r_kIf (fun z => (fin _ hc).1 z) (fun z => ⟨_, _, rfl, ⟨b1.s.trans e2⟩, (fin _ hc).2 z⟩)
            have t1 : ¬ tg = 1 := by
              have := int_no h3
              omega
            rw [decide_eq_true g1, decide_eq_true f1, decide_eq_false t1]
            rfl
      · suffices hc : _ = _ from r_kIf (fun z => (fin _ hc).1 z) (fun z => ⟨_, _, rfl, ⟨b1.s.trans e2⟩, (fin _ hc).2 z⟩)
        rw [decide_eq_false (int_no h1)]
        rfl
    · obtain ⟨o1, o2, rfl, b1, hno⟩ := hP
      walk_at "g"
      have := k H' b1.s
      have e : hasV p tg f g j = false := by
        unfold hasV
        rw [List.any_eq_false]
        intro t ht
        rw [hno t (by rw [hx]; exact List.mem_range.mp ht)]
        decide
      rw [e] at this
      exact this
end
end Wg
set_option Elab.async false
set_option linter.all false
set_option maxRecDepth 100000
set_option maxHeartbeats 4000000
namespace Wg
open PySem L2
open PyProof.Rows hiding St
open RZ
abbrev s_moved_in_shared : Stmt := topS 21
theorem sc_moved_in_shared : FnScope ["hand", "manner", "row", "word", "hands", "places", "toggles", "shakes", "moves", "one", "other", "last", "seen", "at", "j"] ["hand", "manner", "row"] (defScope s_moved_in_shared) := ⟨rfl, rfl, rfl, by decide +kernel, rfl, by decide +kernel, by decide +kernel⟩
theorem frm_low {H : Hp} {n p sh x : Nat} {o : Ob} {v : V} (h : FrmM H n p sh x o v) (hx : x < aS n sh) (he : x % 2 = 0) : v = .int o.a := by
  unfold FrmM at h
  rw [if_pos hx] at h
  exact h he
theorem frm_box {H : Hp} {n p sh x : Nat} {o : Ob} {v : V} (h : FrmM H n p sh x o v) (hx : aS n sh ≤ x) (he : x < aS n sh + 2 * p) : BoxV H o v := by
  unfold FrmM at h
  rw [if_neg (by omega), if_pos he] at h
  exact h
theorem frm_high {H : Hp} {n p sh x : Nat} {o : Ob} {v : V} (h : FrmM H n p sh x o v) (hx : aS n sh + 2 * p ≤ x) : v = .int o.a := by
  unfold FrmM at h
  rw [if_neg (by omega), if_neg (by omega)] at h
  exact h
section
variable {P : Program} {w : World} {K : PySem.W.Frag} {mg : Str → Option Value} {base : Heap}
def sp_moved_shared : Sp := fun vs H Q _ => ∃ (own n p tg sh wm : Nat) (mp a : Addr) (row : List V) (g : Nat → Ob), vs = [.int own, .ref mp, .ref a] ∧ H mp = some (.tup (Mn.shared n p tg sh wm).vs) ∧ own < n ∧ n ≤ 5 ∧ tg ≤ 1 ∧ sh ≤ 1 ∧ 0 < p ∧ H a = some (.tup row) ∧ row.length = lnM n p sh ∧
  (∀ x v, row[x]? = some v → FrmM H n p sh x (g x) v) ∧ ∀ q H', Same H H' → H' q = some (.lst ((mvM n p own tg sh g).map V.int)) → Q (.ref q) H'
theorem ok_moved_shared (B : Blt mg) (C_collects_in : Cal P w K mg base "collects_in" 1 ["manner", "row"] sp_collects) (C_others : Cal P w K mg base "others" 1 ["hand", "hands"] sp_others) (C_has_written : Cal P w K mg base "has_written" 1 ["manner", "one", "other", "j"] sp_has_written)
    (D : Dfn K mg "moved_in_shared" "moved_in" s_moved_in_shared) : Cal P w K mg base "moved_in_shared" 2 ["hand", "manner", "row"] sp_moved_shared := by
  refine cal_of D sc_moved_in_shared (fun vs H Q E h => ?_) (fun _ _ _ _ _ _ us hl => match us, hl with | [_, _, _], _ => rfl) (fun f cdv A outer s H vs Q E hr h => ?_)
  · obtain ⟨own, n, p, tg, sh, wm, mp, a, row, g, rfl, _⟩ := h
    rfl
  · obtain ⟨own, n, p, tg, sh, wm, mp, a, row, g, rfl, hmp, ho, hn, htg, hsh, hp, ha, hlen, hrow, k⟩ := h
    have hmp' : H mp = some (.tup [.str "shared", .int n, .int p, .int tg, .int sh, .int wm]) := hmp
    have hn0 : 0 < n := by omega
    have hln : lnM n p sh = aS n sh + 2 * p + sh * (n - 1) := rfl
    have hA := aS_le (n := n) hsh
    refine ⟨_, (pss_cons (ps_asg (pv 1) (pg_tup (by rfl) (pgs_cons (pg_name (i := 3) sc_moved_in_shared.nd rfl (by first | exact Or.inl rfl | exact Or.inr rfl)) (pgs_cons (pg_name (i := 4) sc_moved_in_shared.nd rfl (by first | exact Or.inl rfl | exact Or.inr rfl)) (pgs_cons (pg_name (i := 5) sc_moved_in_shared.nd rfl (by first | exact Or.inl rfl | exact Or.inr rfl)) (pgs_cons (pg_name (i := 6) sc_moved_in_shared.nd rfl (by first | exact Or.inl rfl | exact Or.inr rfl)) (pgs_cons (pg_name (i := 7) sc_moved_in_shared.nd rfl (by first | exact Or.inl rfl | exact Or.inr rfl)) (pgs_cons (pg_name (i := 8) sc_moved_in_shared.nd rfl (by first | exact Or.inl rfl | exact Or.inr rfl)) pgs_nil))))))))
 (pss_cons (ps_asg (pe_cal C_collects_in (hr.mono (by decide)) (by rfl) (pa_cons (pv 1) (pa_cons (pv 2) pa_nil))) (pg_tup (by rfl) (pgs_cons (pg_name (i := 9) sc_moved_in_shared.nd rfl (by first | exact Or.inl rfl | exact Or.inr rfl)) (pgs_cons (pg_name (i := 10) sc_moved_in_shared.nd rfl (by first | exact Or.inl rfl | exact Or.inr rfl)) pgs_nil))))
 (pss_cons (ps_set (i := 11) sc_moved_in_shared.nd rfl (by first | exact Or.inl rfl | exact Or.inr rfl) (pe_slice (sl_tupH (K := K) rfl) (pv 2) (po_some (pe_op op_sub (pe_callB (cr_lenH (K := K) rfl) (by rfl) B.len boot_len (pa_cons (pv 2) pa_nil)) (pe_op op_sub (pv 4) pe_int))) po_none))
 (pss_cons (ps_set (i := 12) sc_moved_in_shared.nd rfl (by first | exact Or.inl rfl | exact Or.inr rfl) (pe_lst pa_nil))
 (pss_cons (ps_for PassesOwn.never rfl (pi_enum (by rfl) B.enumerate (pa_cons (pe_cal C_others (hr.mono (by decide)) (by rfl) (pa_cons (pv 0) (pa_cons (pv 4) pa_nil))) pa_nil)) (pg_tup (by rfl) (pgs_cons (pg_name (i := 13) sc_moved_in_shared.nd rfl (by first | exact Or.inl rfl | exact Or.inr rfl)) (pgs_cons (pg_name (i := 14) sc_moved_in_shared.nd rfl (by first | exact Or.inl rfl | exact Or.inr rfl)) pgs_nil)))
 (pss_one (ps_if (PW.pt (pw_or (PW.pt (pw_and (pt_cmpR op_eq (pv 7) pe_int (nomark _)) (pw_and1 (pt_cmpR op_ne (pe_ix (ix_tupH (K := K) rfl) (pv 2) (pe_op op_mul pe_int (pv 13)) (fun _ _ => rfl)) (pe_ix (ix_tupH (K := K) rfl) (pv 11) (pv 13) (fun _ _ => rfl)) (nomark _))))) (pw_or1 (pt_val (pe_cal C_has_written (hr.mono (by decide)) (by rfl) (pa_cons (pv 1) (pa_cons (pv 9) (pa_cons (pv 10) (pa_cons (pv 14) pa_nil)))))))))
 (pss_one (ps_expr (pe_bmH (K := K) rfl (pe_bm PySem.F.plainAttrs_list PySem.F.slot_list_append PySem.F.type_list_append mt_append (pv 12) (pa_cons (pv 14) pa_nil)))))
 pss_nil)))
 (pss_one (ps_ret (pv 12)))))))), ?_⟩
    walk_at "g"
    refine ⟨n, p, tg, sh, wm, mp, a, row, rfl, hmp, hn0, hsh, ha, by omega, fun q0 b c H1 e1 h1 hb1 hc1 => ?_⟩
    walk_at "g"
    refine r_slA (by walk_at "t") fun d H2 e2 h2 => ?_
    have c2 : n - 1 ≤ lnM n p sh → cutV row (some ((row.length : Int) - ((n : Int) - 1))) none = seg row (lnM n p sh - (n - 1)) (n - 1) := fun z => by
      rw [hlen, show (((lnM n p sh : Nat) : Int) - ((n : Int) - 1)) = ((lnM n p sh - (n - 1) : Nat) : Int) by omega, cut_seg six_pos (HT.sIx_none _ _), hlen]
      congr 1 <;> omega
    walk_at "g"
    refine r_kLst fun p3 H3 e3 n3 h3 => ?_
    walk_at "g"
    refine ⟨own, n, rfl, ho, hn, fun q H4 e4 h4 => ?_⟩
    walk_at "g"
    have base4 : Bs H H4 := ⟨by walk_at "e"⟩
    have hp4 : H p3 = none := free_back e1 (free_back e2 n3)
    have hl4 : ((oth own n).map V.int).length = n - 1 := by rw [List.length_map, oth_len]
    refine r_kFor (n := n - 1) (hl4 ▸ walk_enum (xs := (oth own n).map V.int)) (fun i σ' H' => ∃ o1 o2, σ' = [some (.int own), some (.ref mp), some (.ref a), some (.str "shared"), some (.int n), some (.int p), some (.int tg), some (.int sh), some (.int wm), some (.ref b), some (.ref c), some (.ref d), some (.ref p3), o1, o2] ∧
        Bs H H' ∧ Tx H4 H' ∧ H' q = some (.lst ((oth own n).map V.int)) ∧ H' p3 = some (.lst ((giv i (cM n p own tg sh g) fun a => ((ot own a : Nat) : Int)).map V.int)))
      ⟨none, none, rfl, base4, Tx.refl _, h4, by walk_at "t"⟩ (fun i σ' H' _ hP => ?_) (fun i x σ' H5 H6 hi hP hY => ?_) (fun σ' H' hP => ?_)
    · obtain ⟨_, _, _, _, _, hq, _⟩ := hP
      exact SqL.of hq
    · obtain ⟨o1, o2, rfl, e5, x5, hq5, hp5⟩ := hP
      obtain ⟨T, u, y, rfl, nT, rfl, eu, ey⟩ := hY
      have e6 := same_new (o := .tup [u, y]) nT
      have hT : (upd H5 T (.tup [u, y])) T = some (.tup [u, y]) := upd_same
      generalize upd H5 T (.tup [u, y]) = H6 at e6 hT ⊢
      have hu : u = .int (i : Int) := (Option.some.inj eu).symm
      have hy : y = .int ((ot own i : Nat) : Int) := by
        have ey : ((oth own n).map V.int)[i]? = some y := ey
        rw [List.getElem?_map, oth_get hi] at ey
        exact (Option.some.inj ey).symm
      subst hu hy
      have hot := ot_lt (i := own) hi
      have tb : H6 b = some (.tup (seg row (aS n sh) p)) := by walk_at "t"
      have tc : H6 c = some (.tup (seg row (aS n sh + p) p)) := by walk_at "t"
      have td : H6 d = some (.tup (cutV row (some ((row.length : Int) - ((n : Int) - 1))) none)) := by walk_at "t"
      have ta : H6 a = some (.tup row) := by walk_at "t"
      have T6 : Tx H H6 := (tx_same base4.s).trans (x5.trans (tx_same e6))
      have hp6 : H6 p3 = some (.lst ((giv i (cM n p own tg sh g) fun a => ((ot own a : Nat) : Int)).map V.int)) := by walk_at "t"
      have hq6 : H6 q = some (.lst ((oth own n).map V.int)) := by walk_at "t"
      have b6 : Bs H H6 := ⟨e5.s.trans e6⟩
      have x6 : Tx H4 H6 := x5.trans (tx_same e6)
      have hqp : q ≠ p3 := by
        intro z
        subst z
        rw [e4 _ _ h3] at h4
        injection h4 with h4
        injection h4 with h4
        have hz := congrArg List.length h4
        rw [List.length_map, oth_len] at hz
        simp at hz
        omega
      have leafOk : ∀ H9 H', Same H6 H9 → H' p3 = some (.lst ((giv (i + 1) (cM n p own tg sh g) fun a => ((ot own a : Nat) : Int)).map V.int)) → (∀ z, z ≠ p3 → H' z = H9 z) →
          Bs H H' ∧ Tx H4 H' ∧ H' q = some (.lst ((oth own n).map V.int)) ∧ H' p3 = some (.lst ((giv (i + 1) (cM n p own tg sh g) fun a => ((ot own a : Nat) : Int)).map V.int)) := fun H9 H' e9 hp' hk => by
        refine ⟨⟨same_but (b6.s.trans e9) hp4 hk⟩, fun z zs hz => ?_, by rw [hk q hqp]; exact e9 _ _ hq6, hp'⟩
        have hz9 : H9 z = some (.tup zs) := e9 _ _ (x6 _ _ hz)
        rw [hk z (ne_of hz9 (e9 _ _ hp6) (fun z => nomatch z))]
        exact hz9
      have hBox1 : Row H6 (BoxV H6) (seg row (aS n sh) p) (fun k => g (aS n sh + k)) := fun k' v hv => by
        obtain ⟨hk', hv'⟩ := seg_some hv
        exact (frm_box (hrow _ v hv') (by omega) (by omega)).tx T6
      have hBox2 : Row H6 (BoxV H6) (seg row (aS n sh + p) p) (fun k => g (aS n sh + p + k)) := fun k' v hv => by
        obtain ⟨hk', hv'⟩ := seg_some hv
        exact (frm_box (hrow _ v hv') (by omega) (by omega)).tx T6
      have lb : (seg row (aS n sh) p).length = p := by
        rw [seg_len]
        omega
      have lc : (seg row (aS n sh + p) p).length = p := by
        rw [seg_len]
        omega
      walk_at "g"
      refine r_kAnd (fun hs => ?_) fun hs => ?_
      · have hs1 : sh = 1 := by
          have := int_yes hs
          omega
        have haS : aS n sh = 2 * (n - 1) := by
          rw [hs1]
          rfl
        have hln1 : lnM n p sh = aS n sh + 2 * p + (n - 1) := by
          rw [hln, hs1, Nat.one_mul]
        rw [c2 (by omega)] at td
        obtain ⟨v3, g3, i3⟩ := at_lt (xs := row) (j := 2 * i) (by omega)
        obtain ⟨v4, g4, i4⟩ := at_lt (xs := seg row (lnM n p sh - (n - 1)) (n - 1)) (j := i) (by rw [seg_len]; omega)
        have hv3 := frm_low (hrow _ v3 g3) (by omega) (by omega)
        have hv4 := frm_high (hrow _ v4 (seg_some g4).2) (by omega)
        subst hv3 hv4
        walk_at "g"
        refine r_ixT ta (by rw [show (2 * (i : Int)) = ((2 * i : Nat) : Int) by omega]; exact i3) ?_
        walk_at "g"
        refine r_ixT td i4 ?_
        walk_at "g"
        refine r_kOr (fun hd => ?_) fun hd => ?_
        · refine r_leaf (f := cM n p own tg sh g) (u := fun a => ((ot own a : Nat) : Int)) (a := i) rfl rfl hp6 (by omega) ?_ fun H' hp' hk => ⟨_, _, rfl, leafOk H6 H' (Same.refl _) hp' hk⟩
          rw [Bool.not_eq_true'] at hd
          unfold cM
          rw [decide_eq_true hs1, decide_eq_false (int_no hd)]
          rfl
        · walk_at "g"
          refine ⟨n, p, tg, sh, wm, mp, b, c, _, _, _, _, _, rfl, by walk_at "t", tb, tc, lb, lc, hBox1, hBox2, fun H7 e7 => ?_⟩
          walk_at "g"
          refine r_leaf (f := cM n p own tg sh g) (u := fun a => ((ot own a : Nat) : Int)) (a := i) rfl rfl (e7 _ _ hp6) (by omega) ?_ fun H' hp' hk => ⟨_, _, rfl, leafOk H7 H' e7 hp' hk⟩
          rw [Bool.not_eq_false'] at hd
          unfold cM
          rw [decide_eq_true (int_yes hd), Bool.not_true, Bool.and_false, Bool.false_or]
          rfl
      · have hs0 : ¬ sh = 1 := by
          have := int_no hs
          omega
        refine r_kOr (fun z => nomatch z) fun _ => ?_
        walk_at "g"
        refine ⟨n, p, tg, sh, wm, mp, b, c, _, _, _, _, _, rfl, by walk_at "t", tb, tc, lb, lc, hBox1, hBox2, fun H7 e7 => ?_⟩
        walk_at "g"
        refine r_leaf (f := cM n p own tg sh g) (u := fun a => ((ot own a : Nat) : Int)) (a := i) rfl rfl (e7 _ _ hp6) (by omega) ?_ fun H' hp' hk => ⟨_, _, rfl, leafOk H7 H' e7 hp' hk⟩
        unfold cM
        rw [decide_eq_false hs0, Bool.false_and, Bool.false_or]
        rfl
    · obtain ⟨_, _, rfl, e5, _, _, hp5⟩ := hP
      walk_at "g"
      exact k p3 H' e5.s hp5
end
end Wg
set_option Elab.async false
set_option linter.all false
set_option maxRecDepth 100000
set_option maxHeartbeats 4000000
namespace Wg
open PySem L2
open PyProof.Rows hiding St
open RZ
abbrev s_mover_behind : Stmt := topS 23
theorem sc_mover_behind : FnScope ["hand", "manner", "reads", "long", "rows", "seen", "row", "begin"] ["hand", "manner", "reads"] (defScope s_mover_behind) := ⟨rfl, rfl, rfl, by decide +kernel, rfl, by decide +kernel, by decide +kernel⟩
abbrev s_look_shared : Stmt := topS 24
theorem sc_look_shared : FnScope ["hand", "manner", "reads", "long", "at", "mover"] ["hand", "manner", "reads"] (defScope s_look_shared) := ⟨rfl, rfl, rfl, by decide +kernel, rfl, by decide +kernel, by decide +kernel⟩
section
variable {P : Program} {w : World} {K : PySem.W.Frag} {mg : Str → Option Value} {base : Heap}
/-- what mover_behind says of the rounds' list mv, k of them -/
def MB (mv : Nat → List Int) (m k : Nat) (v : V) : Prop := (v = .str "none" ∧ mv (k - 1) = []) ∨ (mv (k - 1) ≠ [] ∧ ((v = .non ∧ ∀ j ∈ seenTo mv k, (seenTo mv k).count j < m) ∨ ∃ j, v = .int j ∧ j ∈ seenTo mv k ∧ m ≤ (seenTo mv k).count j))
def sp_mover : Sp := fun vs H Q _ => ∃ (own n p tg sh m q : Nat) (mp rp : Addr) (rs : List V) (f : Nat → Ob), vs = [.int own, .ref mp, .ref rp] ∧ H mp = some (.tup (Mn.shared n p tg sh m).vs) ∧ H rp = some (.tup rs) ∧ own < n ∧ n ≤ 5 ∧ tg ≤ 1 ∧ sh ≤ 1 ∧ 0 < p ∧ p ≤ 4 ∧ rs.length ≤ 400 ∧ rs.length = q * lnM n p sh ∧ 1 ≤ q ∧
  PosM H n p sh rs f ∧ (∀ k, k * lnM n p sh ≤ rs.length → (seenTo (mvMr n p own tg sh f) k).length ≤ 63) ∧ ∀ v H', Same H H' → MB (mvMr n p own tg sh f) m q v → Q v H'
theorem ok_mover (B : Blt mg) (C_round_length_shared : Cal P w K mg base "round_length_shared" 1 ["manner"] sp_len_shared) (C_moved_in_shared : Cal P w K mg base "moved_in_shared" 2 ["hand", "manner", "row"] sp_moved_shared)
    (C_seen_often : Cal P w K mg base "seen_often" 1 ["seen", "moves"] sp_often) (D : Dfn K mg "mover_behind" "mover_behind" s_mover_behind) : Cal P w K mg base "mover_behind" 3 ["hand", "manner", "reads"] sp_mover := by
  refine cal_of D sc_mover_behind (fun vs H Q E h => ?_) (fun _ _ _ _ _ _ us hl => match us, hl with | [_, _, _], _ => rfl) (fun f cdv A outer s H vs Q E hr h => ?_)
  · obtain ⟨own, n, p, tg, sh, m, q, mp, rp, rs, f, rfl, _⟩ := h
    rfl
  · obtain ⟨own, n, p, tg, sh, m, q, mp, rp, rs, f, rfl, hmp, hrp, ho, hn, htg, hsh, hp, hp4, hL, hq, hq1, hpos, hfew, k⟩ := h
    have hmp' : H mp = some (.tup [.str "shared", .int n, .int p, .int tg, .int sh, .int m]) := hmp
    have hn0 : 0 < n := by omega
    have hA := aS_le (n := n) hsh
    have hlm : lnM n p sh ≤ aS n sh + 2 * p + (n - 1) := by
      have : sh * (n - 1) ≤ 1 * (n - 1) := Nat.mul_le_mul_right _ hsh
      unfold lnM
      omega
    have lnp : 0 < lnM n p sh := by
      unfold lnM
      omega
    have hq400 : q ≤ 400 := by
      have : q * 1 ≤ q * lnM n p sh := Nat.mul_le_mul_left q lnp
      omega
    have rowle : ∀ i, i < q → i * lnM n p sh + lnM n p sh ≤ rs.length := fun i hi => by
      have : (i + 1) * lnM n p sh ≤ q * lnM n p sh := Nat.mul_le_mul_right _ hi
      rw [Nat.add_mul, Nat.one_mul] at this
      omega
    have rowok : ∀ i, i < q → ∀ H', Tx H H' → (seg rs (i * lnM n p sh) (lnM n p sh)).length = lnM n p sh ∧ ∀ x v, (seg rs (i * lnM n p sh) (lnM n p sh))[x]? = some v → FrmM H' n p sh x (f (i * lnM n p sh + x)) v := fun i hi H' e => by
      have h1 := rowle i hi
      refine ⟨by rw [seg_len]; omega, fun x v hv => ?_⟩
      obtain ⟨hx, hv'⟩ := seg_some hv
      have := (hpos _ v hv').tx e
      rw [Nat.mul_comm, Nat.mul_add_mod, Nat.mod_eq_of_lt hx] at this
      rw [Nat.mul_comm i]
      exact this
    refine ⟨_, (pss_cons (ps_set (i := 3) sc_mover_behind.nd rfl (by first | exact Or.inl rfl | exact Or.inr rfl) (pe_cal C_round_length_shared (hr.mono (by decide)) (by rfl) (pa_cons (pv 1) pa_nil)))
 (pss_cons (ps_setLc (i := 4) (own := [("begin", 7)]) (g := gName 7) (tt := tYes) (by rfl) sc_mover_behind.nd rfl rfl (sw_true rfl rfl rfl (by decide +kernel)) (pi_range3 (by rfl) B.range (pa_cons pe_int (pa_cons (pe_callB (cr_lenH (K := K) rfl) (by rfl) B.len boot_len (pa_cons (pv 2) pa_nil)) (pa_cons (pv 3) pa_nil)))) (blkOk_by (own := [("begin", 7)]) (N := ["hand", "manner", "reads", "long", "rows", "seen", "row", "begin"]) (sc := defScope s_mover_behind) (by decide +kernel)) (fun _ _ _ _ _ => pg_name (i := 7) sc_mover_behind.nd rfl (Or.inl rfl)) (fun _ _ _ _ _ => pts_nil) (fun _ _ _ _ _ => (pe_slice (sl_tupH (K := K) rfl) (pv 2) (po_some (pv 7)) (po_some (pe_op op_add (pv 7) (pv 3))))))
 (pss_cons (ps_if (pt_cmpR (op_eqD hr.units) (pe_cal C_moved_in_shared (hr.mono (by decide)) (by rfl) (pa_cons (pv 0) (pa_cons (pv 1) (pa_cons (pe_ix (ix_listH (K := K) rfl) (pv 4) (pe_un un_neg pe_int) (fun _ _ => rfl)) pa_nil)))) (pe_lst pa_nil) (nomark _))
 (pss_one (ps_ret pe_str))
 pss_nil)
 (pss_cons (ps_set (i := 5) sc_mover_behind.nd rfl (by first | exact Or.inl rfl | exact Or.inr rfl) (pe_lst pa_nil))
 (pss_cons (ps_for PassesOwn.never rfl (pi_list (pv 4)) (pg_name (i := 6) sc_mover_behind.nd rfl (by first | exact Or.inl rfl | exact Or.inr rfl))
 (pss_one (ps_expr (pe_bmH (K := K) rfl (pe_bm PySem.F.plainAttrs_list PySem.F.slot_list_extend PySem.F.type_list_extend mt_extend (pv 5) (pa_cons (pe_cal C_moved_in_shared (hr.mono (by decide)) (by rfl) (pa_cons (pv 0) (pa_cons (pv 1) (pa_cons (pv 6) pa_nil)))) pa_nil))))))
 (pss_one (ps_ret (pe_cal C_seen_often (hr.mono (by decide)) (by rfl) (pa_cons (pv 5) (pa_cons (pe_ix (ix_tupH (K := K) rfl) (pv 1) pe_int (fun _ _ => rfl)) pa_nil)))))))))), ?_⟩
    walk_at "g"
    refine ⟨mp, n, p, tg, sh, m, rfl, hmp, hn0, hsh, ?_⟩
    walk_at "g"
    refine r_kRng3 (m := q) lnp (by omega) (by omega) (by rw [hq]; omega) (by rw [hq]; exact Nat.le_refl _) ?_
    refine r_kLcP wk_rangeC (fun t ys H' => RowsAt H' rs (lnM n p sh) t ys) (by omega) (fun _ => rfl) (fun _ _ => trivial) ⟨rfl, fun i hi => absurd hi (Nat.not_lt_zero i)⟩ (fun _ _ _ _ e h => h.tx e) (fun t ys x H1 ht e1 hA hv F F0 h1 h0 => ?_) fun Dl ys H1 _ e1 hD hA => ?_
    · subst hv
      walk_at "g"
      refine r_kEl (fun _ => ?_) fun z => nomatch z
      walk_at "g"
      refine r_slA (e1 _ _ hrp) fun q' H2 e2 h2 => ?_
      rw [cut_row (rowle t ht)] at h2
      exact h1 _ _ e2 ((hA.tx (tx_same e2)).snoc h2)
    · obtain ⟨lq, lat, hlq⟩ := hA.last hq1
      obtain ⟨hlen1, hrow1⟩ := rowok (q - 1) (by omega) H1 (tx_same e1)
      walk_at "g"
      refine r_ixL hD lat ?_
      walk_at "g"
      refine ⟨own, n, p, tg, sh, m, mp, lq, _, _, rfl, e1 _ _ hmp, ho, hn, htg, hsh, hp, hlq, hlen1, hrow1, fun p2 H2 e2 h2 => ?_⟩
      walk_at "g"
      refine r_kLst fun z3 H3 e3 n3 h3 => ?_
      refine r_eqNil (e3 _ _ h2) h3 ?_
      walk_at "g"
      refine r_kIf (fun hb3 => ?_) fun hb3 => ?_
      · walk_at "g"
        exact k _ H3 (by walk_at "e") (.inl ⟨rfl, of_decide_eq_true hb3⟩)
      · have hne : mvMr n p own tg sh f (q - 1) ≠ [] := of_decide_eq_false hb3
        walk_at "g"
        refine r_kLst fun p4 H4 e4 n4 h4 => ?_
        have b4 : Bs H H4 := ⟨by walk_at "e"⟩
        have hp4' : H p4 = none := free_back e1 (free_back e2 (free_back e3 n4))
        have hD4 : H4 Dl = some (.lst ys) := by walk_at "t"
        have hDp : Dl ≠ p4 := by
          intro z
          subst z
          have : H3 Dl = some (.lst ys) := by walk_at "t"
          rw [n4] at this
          cases this
        walk_at "g"
        refine r_kFor (n := q) (hA.1 ▸ wk_list (xs := ys)) (fun i σ' H' => ∃ o6, σ' = [some (.int own), some (.ref mp), some (.ref rp), some (.int (lnM n p sh : Nat)), some (.ref Dl), some (.ref p4), o6, none] ∧
          Bs H H' ∧ Tx H4 H' ∧ H' Dl = some (.lst ys) ∧ H' p4 = some (.lst ((seenTo (mvMr n p own tg sh f) i).map V.int))) ⟨none, rfl, b4, Tx.refl _, hD4, h4⟩ (fun i σ' H' _ hP => ?_) (fun i x σ' H5 H6 hi hP hY => ?_) (fun σ' H5 hP => ?_)
        · obtain ⟨_, _, _, _, hq', _⟩ := hP
          exact SqL.of hq'
        · obtain ⟨o6, rfl, b5, x5, hD5, hp5⟩ := hP
          obtain ⟨rfl, hx⟩ := hY
          have T14 : Tx H1 H4 := tx_same (e2.trans (e3.trans e4))
          obtain ⟨qi, a1, a2⟩ := ((hA.tx T14).tx x5).2 i hi
          rw [hx] at a1
          cases a1
          obtain ⟨hlen5, hrow5⟩ := rowok i hi H6 (tx_same b5.s)
          walk_at "g"
          refine ⟨own, n, p, tg, sh, m, mp, qi, _, _, rfl, b5.s _ _ hmp, ho, hn, htg, hsh, hp, a2, hlen5, hrow5, fun p7 H7 e7 h7 => ?_⟩
          walk_at "g"
          have hp7 : H7 p4 = some (.lst ((seenTo (mvMr n p own tg sh f) i).map V.int)) := e7 _ _ hp5
          refine r_extend hp7 h7 ?_ ?_
          · have f1 := hfew i (by have := rowle i hi; omega)
            have f2 : (mvM n p own tg sh fun x => f (i * lnM n p sh + x)).length ≤ n - 1 := giv_len
            rw [List.length_map, List.length_map]
            omega
          · walk_at "g"
            refine ⟨_, rfl, ⟨same_mut (b5.s.trans e7) hp4'⟩, (x5.trans (tx_same e7)).trans (tx_lst hp7), by rw [upd_ne hDp]; exact e7 _ _ hD5, ?_⟩
            rw [upd_same, ← List.map_append]
            rfl
        · obtain ⟨o6, rfl, b5, x5, hD5, hp5⟩ := hP
          have hmp5 : H5 mp = some (.tup [.str "shared", .int n, .int p, .int tg, .int sh, .int m]) := b5.s _ _ hmp'
          walk_at "g"
          refine ⟨p4, _, m, rfl, hp5, by have := hfew q (by omega); omega, fun v H6 e6 hv => ?_⟩
          exact k v H6 (b5.s.trans e6) (.inr ⟨hne, hv⟩)
/-- a step of shared's look -/
def ResM (H : Hp) (n p own tg sh m : Nat) (f : Nat → Ob) (L : Nat) (v : V) : Prop :=
  Told H p v ∨
  (∃ k j, 1 ≤ k ∧ L = k * lnM n p sh ∧ j < n ∧ Reads1 H (kk "view" j) v ∧ mvMr n p own tg sh f (k - 1) ≠ [] ∧ ∃ j ∈ seenTo (mvMr n p own tg sh f) k, m ≤ (seenTo (mvMr n p own tg sh f) k).count j) ∨
  ((∀ k, 1 ≤ k → L = k * lnM n p sh → Going (mvMr n p own tg sh f) m k) ∧
    ((∃ j, j < n ∧ Reads1 H (kk2 "call" j own) v ∧ ((L % lnM n p sh < aS n sh ∧ (L % lnM n p sh) % 2 = 0) ∨ aS n sh + 2 * p ≤ L % lnM n p sh)) ∨
     (∃ j, j < n ∧ Writes1 H (kk2 "sign" own j) v ∧ L % lnM n p sh < aS n sh ∧ (L % lnM n p sh) % 2 = 1) ∨
     (∃ j, j < p ∧ Reads1 H (kk "box" j) v ∧ aS n sh ≤ L % lnM n p sh ∧ L % lnM n p sh < aS n sh + 2 * p)))
def sp_look_shared : Sp := fun vs H Q _ => ∃ (own n p tg sh m : Nat) (mp rp : Addr) (rs : List V), vs = [.int own, .ref mp, .ref rp] ∧ H mp = some (.tup (Mn.shared n p tg sh m).vs) ∧ H rp = some (.tup rs) ∧ own < n ∧ (Mn.shared n p tg sh m).ok ∧ rs.length ≤ 400 ∧
  ((∃ f, PosM H n p sh rs f ∧ GoR (mvMr n p own tg sh) f m (lnM n p sh) rs.length ∧ ∀ v H', Same H H' → ResM H' n p own tg sh m f rs.length v → Q v H') ∨
   (GoodV H n p tg sh m own rs ∧ ∀ v H', Same H H' → Told H' p v → Q v H'))
section
variable {H : Hp} {Q : VK}
theorem r_isiInt {x : V} {t : Value} {b : Bool} (ht : TyOf K H x t) (hk : PySem.W.kitOne K t (.type "int") = some b) (k : Q (.bl b) H) : rIsi K [x, .ty "int"] H Q := ⟨x, .ty "int", t, .type "int", b, rfl, .ty "int", .base ht, hk, k⟩
end
theorem PosM.pre {H : Hp} {n p sh : Nat} {rs : List V} {x : V} {f : Nat → Ob} (h : PosM H n p sh (rs ++ [x]) f) : PosM H n p sh rs f := fun i v hv => h i v (by
  rw [List.getElem?_append_left (List.getElem?_eq_some_iff.mp hv).1]
  exact hv)
theorem ok_look_shared (B : Blt mg) (C_round_length_shared : Cal P w K mg base "round_length_shared" 1 ["manner"] sp_len_shared) (C_mover_behind : Cal P w K mg base "mover_behind" 3 ["hand", "manner", "reads"] sp_mover)
    (C_values_of : Cal P w K mg base "values_of" 1 ["collect"] sp_values) (C_collects_in : Cal P w K mg base "collects_in" 1 ["manner", "row"] sp_collects) (C_round_step : Cal P w K mg base "round_step" 2 ["hand", "manner", "reads", "at"] sp_round_step)
    (D : Dfn K mg "look_shared" "look_shared" s_look_shared) : Cal P w K mg base "look_shared" 4 ["hand", "manner", "reads"] sp_look_shared := by
  refine cal_of D sc_look_shared (fun vs H Q E h => ?_) (fun _ _ _ _ _ _ us hl => match us, hl with | [_, _, _], _ => rfl) (fun f cdv A outer s H vs Q E hr h => ?_)
  · obtain ⟨own, n, p, tg, sh, m, mp, rp, rs, rfl, _⟩ := h
    rfl
  · obtain ⟨own, n, p, tg, sh, m, mp, rp, rs, rfl, hmp, hrp, ho, ⟨hn0, hn, hm0, hm4, htg, hsh, hp, hp4⟩, hL, hph⟩ := h
    have hmp' : H mp = some (.tup [.str "shared", .int n, .int p, .int tg, .int sh, .int m]) := hmp
    have hln : lnM n p sh = aS n sh + 2 * p + sh * (n - 1) := rfl
    have lnp : (0 : Int) < ((lnM n p sh : Nat) : Int) := by omega
    have RM := rndM n p own tg sh hp hsh
    have c0 : cutV rs none (some (-1)) = rs.take (rs.length - 1) := by
      rw [show (-1 : Int) = -((1 : Nat) : Int) by rfl, cut_seg (HT.sIx_none _ _) (six_neg (by omega))]
      rfl
    refine ⟨_, (pss_cons (ps_set (i := 3) sc_look_shared.nd rfl (by first | exact Or.inl rfl | exact Or.inr rfl) (pe_cal C_round_length_shared (hr.mono (by decide)) (by rfl) (pa_cons (pv 1) pa_nil)))
 (pss_cons (ps_set (i := 4) sc_look_shared.nd rfl (by first | exact Or.inl rfl | exact Or.inr rfl) (pe_op op_mod (pe_callB (cr_lenH (K := K) rfl) (by rfl) B.len boot_len (pa_cons (pv 2) pa_nil)) (pv 3)))
 (Evl.pss_cut (ps_if (PW.pt (pw_and (pt_cmpR op_eq (pv 4) pe_int (nomark _)) (pw_and (pt_cmpR op_gt (pe_callB (cr_lenH (K := K) rfl) (by rfl) B.len boot_len (pa_cons (pv 2) pa_nil)) pe_int (nomark _)) (pw_and1 (pt_val (pe_callB call_isi (by rfl) B.isinstance boot_isinstance (pa_cons (pe_cal C_mover_behind (hr.mono (by decide)) (by rfl) (pa_cons (pv 0) (pa_cons (pv 1) (pa_cons (pe_slice (sl_tupH (K := K) rfl) (pv 2) po_none (po_some (pe_un un_neg pe_int))) pa_nil)))) (pa_cons (pe_bltn (v := .ty "int") (by rfl) B.int boot_int rfl) pa_nil))))))))
 (pss_one (ps_ret (pe_tup (pa_cons pe_str (pa_cons (pe_ix (ix_tupH (K := K) rfl) (pv 2) (pe_un un_neg pe_int) (fun _ _ => rfl)) pa_nil)))))
 pss_nil)
 (Evl.pss_cut (ps_if (PW.pt (pw_and (pt_cmpR op_eq (pv 4) pe_int (nomark _)) (pw_and1 (pt_cmpR op_gt (pe_callB (cr_lenH (K := K) rfl) (by rfl) B.len boot_len (pa_cons (pv 2) pa_nil)) pe_int (nomark _)))))
 (pss_cons (ps_set (i := 5) sc_look_shared.nd rfl (by first | exact Or.inl rfl | exact Or.inr rfl) (pe_cal C_mover_behind (hr.mono (by decide)) (by rfl) (pa_cons (pv 0) (pa_cons (pv 1) (pa_cons (pv 2) pa_nil)))))
 (pss_cons (ps_if (pt_cmpR op_eq (pv 5) pe_str (nomark _))
 (pss_one (ps_ret (pe_tup (pa_cons pe_str (pa_cons (pe_cal C_values_of (hr.mono (by decide)) (by rfl) (pa_cons (pe_ix (ix_tupH (K := K) rfl) (pe_cal C_collects_in (hr.mono (by decide)) (by rfl) (pa_cons (pv 1) (pa_cons (pe_slice (sl_tupH (K := K) rfl) (pv 2) (po_some (pe_un un_neg (pv 3))) po_none) pa_nil))) pe_int (fun _ _ => rfl)) pa_nil)) pa_nil)))))
 pss_nil)
 (pss_one (ps_if (pt_cmpR op_notNon (pv 5) pe_non (nomark _))
 (pss_one (ps_ret (pe_tup (pa_cons pe_str (pa_cons (pe_tup (pa_cons pe_str (pa_cons (pv 5) pa_nil))) pa_nil)))))
 pss_nil))))
 pss_nil)
 (pss_one (ps_ret (pe_cal C_round_step (hr.mono (by decide)) (by rfl) (pa_cons (pv 0) (pa_cons (pv 1) (pa_cons (pv 2) (pa_cons (pv 4) pa_nil))))))))))), ?_⟩
    walk_at "g"
    refine ⟨mp, n, p, tg, sh, m, rfl, hmp, hn0, hsh, ?_⟩
    walk_at "g"
    refine r_I lnp ?_
    rw [show ((rs.length : Int) % ((lnM n p sh : Nat) : Int)) = ((rs.length % lnM n p sh : Nat) : Int) from (Int.natCast_emod _ _).symm]
    have hat := Nat.mod_lt rs.length (show 0 < lnM n p sh by omega)
    have hdm := Nat.div_add_mod rs.length (lnM n p sh)
    rcases hph with ⟨f, hpos, hgo, k⟩ | ⟨hV, k⟩
    · have hfew := GoR.few RM hn hm4 hgo
      walk_at "g"
      refine r_cut (fun σ' H' => σ' = [some (.int own), some (.ref mp), some (.ref rp), some (.int (lnM n p sh : Nat)), some (.int (rs.length % lnM n p sh : Nat)), none] ∧ Bs H H') ?_ fun σ' H' hM => ?_
      · walk_at "g"
        refine r_kAnd (fun h1 => ?_) fun h1 => ?_
        · have hat1 : rs.length % lnM n p sh = 1 := by
            have := int_yes h1
            omega
          walk_at "g"
          refine r_kAnd (fun h2 => ?_) fun h2 => ?_
          · have hL1 : 1 < rs.length := by
              have := of_decide_eq_true h2
              omega
            have hq1 : 1 ≤ rs.length / lnM n p sh := by
              rcases Nat.eq_zero_or_pos (rs.length / lnM n p sh) with z | z
              · rw [z, Nat.mul_zero] at hdm
                omega
              · exact z
            have hLq : rs.length - 1 = rs.length / lnM n p sh * lnM n p sh := by
              rw [Nat.mul_comm]
              omega
            have hgq := hgo (rs.length / lnM n p sh) hq1 (by omega)
            walk_at "g"
            refine r_slA hrp fun p1 H1 e1 g1 => ?_
            rw [c0] at g1
            walk_at "g"
            refine ⟨own, n, p, tg, sh, m, rs.length / lnM n p sh, mp, p1, _, f, rfl, e1 _ _ hmp, g1, ho, hn, htg, hsh, hp, hp4, by rw [List.length_take]; omega, by rw [List.length_take]; omega, hq1, fun i v hv => ?_, fun k' hk' => hfew k' (by rw [List.length_take] at hk'; omega), fun v H2 e2 hv => ?_⟩
            · have hi := (List.getElem?_eq_some_iff.mp hv).1
              rw [List.length_take] at hi
              rw [List.getElem?_take_of_lt (by omega)] at hv
              exact (hpos i v hv).tx (tx_same e1)
            · have hvn : v = .non := by
                rcases hv with ⟨_, z⟩ | ⟨_, ⟨z, _⟩ | ⟨j, _, hj, hc⟩⟩
                · exact absurd z hgq.1
                · exact z
                · have := hgq.2 j hj
                  omega
              subst hvn
              walk_at "g"
              refine r_isiInt .non (b := false) (kit_ty (by decide +kernel)) ?_
              walk_at "g"
              refine r_kIf (fun z => nomatch z) fun _ => ?_
              exact ⟨rfl, ⟨e1.trans e2⟩⟩
          · refine r_kIf (fun z => nomatch z) fun _ => ?_
            exact ⟨rfl, ⟨Same.refl _⟩⟩
        · refine r_kIf (fun z => nomatch z) fun _ => ?_
          exact ⟨rfl, ⟨Same.refl _⟩⟩
      · obtain ⟨rfl, b1⟩ := hM
        have hrp1 := b1.s _ _ hrp
        refine r_cut (fun σ' H' => ∃ o5, σ' = [some (.int own), some (.ref mp), some (.ref rp), some (.int (lnM n p sh : Nat)), some (.int (rs.length % lnM n p sh : Nat)), o5] ∧ Bs H H' ∧ ∀ k, 1 ≤ k → rs.length = k * lnM n p sh → Going (mvMr n p own tg sh f) m k) ?_ fun σ' H'' hM => ?_
        · walk_at "g"
          refine r_kAnd (fun h1 => ?_) fun h1 => ?_
          · have hat0 : rs.length % lnM n p sh = 0 := by
              have := int_yes h1
              omega
            walk_at "g"
            refine r_kIf (fun h2 => ?_) fun h2 => ?_
            · have hL0 : 0 < rs.length := by
                have := of_decide_eq_true h2
                omega
              obtain ⟨q, hq⟩ : ∃ q, rs.length = q * lnM n p sh := ⟨rs.length / lnM n p sh, by rw [Nat.div_mul_cancel (Nat.dvd_of_mod_eq_zero hat0)]⟩
              have hq1 : 1 ≤ q := by
                rcases Nat.eq_zero_or_pos q with z | z
                · rw [z, Nat.zero_mul] at hq
                  omega
                · exact z
              walk_at "g"
              refine ⟨own, n, p, tg, sh, m, q, mp, rp, rs, f, rfl, b1.s _ _ hmp, hrp1, ho, hn, htg, hsh, hp, hp4, hL, hq, hq1, hpos.tx (tx_same b1.s), hfew, fun v H2 e2 hv => ?_⟩
              walk_at "g"
              rcases hv with ⟨rfl, hmt⟩ | ⟨hne, ⟨rfl, hall⟩ | ⟨j, rfl, hj, hc⟩⟩
              · refine r_eq rfl ?_
                walk_at "g"
                refine r_kIf (fun _ => ?_) fun z => absurd z (by simp)
                have hmp2 : H2 mp = some (.tup [.str "shared", .int n, .int p, .int tg, .int sh, .int m]) := (b1.s.trans e2) _ _ hmp'
                have hrp2 := (b1.s.trans e2) _ _ hrp
                walk_at "g"
                refine r_slA hrp2 fun p3 H3 e3 h3 => ?_
                have c3 : cutV rs (some (-((lnM n p sh : Nat) : Int))) none = seg rs ((q - 1) * lnM n p sh) (lnM n p sh) := by
                  have e1 : (q - 1) * lnM n p sh = rs.length - lnM n p sh := by rw [Nat.sub_mul, Nat.one_mul, hq]
                  have e2 : lnM n p sh ≤ rs.length := by
                    have : 1 * lnM n p sh ≤ q * lnM n p sh := Nat.mul_le_mul_right _ hq1
                    omega
                  rw [cut_seg (six_neg (by omega)) (HT.sIx_none _ _), e1]
                  congr 1
                  omega
                rw [c3] at h3
                have hl3 : (seg rs ((q - 1) * lnM n p sh) (lnM n p sh)).length = lnM n p sh := by
                  have : (q - 1) * lnM n p sh + lnM n p sh = rs.length := by
                    have : 1 * lnM n p sh ≤ q * lnM n p sh := Nat.mul_le_mul_right _ hq1
                    rw [Nat.sub_mul, Nat.one_mul, hq]
                    omega
                  rw [seg_len]
                  omega
                walk_at "g"
                refine ⟨n, p, tg, sh, m, mp, p3, _, rfl, e3 _ _ hmp2, hn0, hsh, h3, by omega, fun q4 b c H4 e4 h4 hb4 hc4 => ?_⟩
                have hl4 : (seg (seg rs ((q - 1) * lnM n p sh) (lnM n p sh)) (aS n sh + p) p).length = p := by
                  rw [seg_len]
                  omega
                walk_at "g"
                refine ⟨c, _, rfl, hc4, by omega, fun v hv => ?_, fun v H5 e5 hv => ?_⟩
                · obtain ⟨j, hj, ej⟩ := List.getElem_of_mem hv
                  obtain ⟨hj2, hv2⟩ := seg_some (show _[j]? = some v by rw [List.getElem?_eq_getElem hj, ej])
                  obtain ⟨hj3, hv3⟩ := seg_some hv2
                  have := hpos _ v hv3
                  rw [Nat.mul_comm, Nat.mul_add_mod, Nat.mod_eq_of_lt hj3] at this
                  obtain ⟨p', x', e', h'⟩ := (frm_box this (by omega) (by omega)).tx (tx_same (b1.s.trans (e2.trans (e3.trans e4))))
                  exact ⟨p', x', _, e', h'⟩
                · walk_at "g"
                  refine r_kTup fun p6 H6 e6 n6 h6 => ?_
                  rw [hl4] at hv
                  exact k _ H6 (b1.s.trans (e2.trans (e3.trans (e4.trans (e5.trans e6))))) (.inl ⟨p6, v, rfl, h6, hv.tx (tx_same e6)⟩)
              · refine r_eq rfl ?_
                walk_at "g"
                refine r_kIf (fun z => absurd z (by simp)) fun _ => ?_
                walk_at "g"
                refine r_kIf (fun z => nomatch z) fun _ => ?_
                refine ⟨_, rfl, ⟨b1.s.trans e2⟩, fun k' hk' hL' => ?_⟩
                have : k' = q := Nat.eq_of_mul_eq_mul_right (by omega) (hL'.symm.trans hq)
                subst this
                exact ⟨hne, hall⟩
              · refine r_eq rfl ?_
                walk_at "g"
                refine r_kIf (fun z => absurd z (by simp)) fun _ => ?_
                walk_at "g"
                refine r_kIf (fun _ => ?_) fun z => nomatch z
                obtain ⟨a', ha', rfl⟩ : ∃ a', a' < n - 1 ∧ j = ((ot own a' : Nat) : Int) := by
                  have := seenTo_mem (S := oth own n) q (fun i _ j hj => RM.mem f i j hj) j hj
                  obtain ⟨a', h1, h2⟩ := List.mem_map.mp this
                  exact ⟨a', List.mem_range.mp h1, h2.symm⟩
                walk_at "g"
                refine r_kTup fun p3 H3 e3 n3 h3 => ?_
                walk_at "g"
                refine r_kTup fun p4 H4 e4 n4 h4 => ?_
                exact k _ H4 (b1.s.trans (e2.trans (e3.trans e4))) (.inr (.inl ⟨q, ot own a', hq1, hq, ot_lt ha', ⟨p4, p3, rfl, h4, e4 _ _ h3⟩, hne, _, hj, hc⟩))
            · refine ⟨_, rfl, b1, fun k' hk' hL' => ?_⟩
              have h0 := of_decide_eq_false h2
              have : 1 * lnM n p sh ≤ k' * lnM n p sh := Nat.mul_le_mul_right _ hk'
              omega
          · refine r_kIf (fun z => nomatch z) fun _ => ?_
            refine ⟨_, rfl, b1, fun k' hk' hL' => ?_⟩
            have := int_no h1
            rw [hL', Nat.mul_mod_left] at this
            exact absurd rfl this
        · obtain ⟨o5, rfl, b2, hgn⟩ := hM
          have hrp2 := b2.s _ _ hrp
          have hmp2 := b2.s _ _ hmp
          generalize hx : rs.length % lnM n p sh = x at hat hdm ⊢
          have hA := aS_le (n := n) hsh
          have hshn : sh * (n - 1) ≤ 1 * (n - 1) := Nat.mul_le_mul_right _ hsh
          walk_at "g"
          refine ⟨own, n, p, tg, sh, m, x, mp, rp, rs, rfl, hmp2, ho, hn, hp, hsh, hat, hrp2, fun hxa hodd => ?_, fun v H3 e3 r1 r2 r3 r4 => ?_⟩
          · have hL1 : rs.length - 1 < rs.length := by omega
            have := hpos _ _ (List.getElem?_eq_getElem hL1)
            have hmd : (rs.length - 1) % lnM n p sh = x - 1 := by
              rw [← hdm, show lnM n p sh * (rs.length / lnM n p sh) + x - 1 = lnM n p sh * (rs.length / lnM n p sh) + (x - 1) by omega, Nat.mul_add_mod, Nat.mod_eq_of_lt (by omega)]
            rw [hmd] at this
            exact ⟨_, by rw [List.getElem?_eq_getElem hL1, frm_low this (by omega) (by omega)]⟩
          · refine k v H3 (b2.s.trans e3) (.inr (.inr ⟨hgn, ?_⟩))
            rw [hx]
            by_cases z1 : x < aS n sh
            · have hot := ot_lt (i := own) (n := n) (a := x / 2) (by omega)
              rcases Nat.mod_two_eq_zero_or_one x with z | z
              · exact .inl ⟨_, hot, r1 z1 z, .inl ⟨z1, z⟩⟩
              · exact .inr (.inl ⟨_, hot, r2 z1 z, z1, z⟩)
            · by_cases z2 : x < aS n sh + 2 * p
              · exact .inr (.inr ⟨_, Nat.mod_lt _ hp, r3 (by omega) z2, by omega, z2⟩)
              · exact .inl ⟨_, ot_lt (i := own) (n := n) (a := x - aS n sh - 2 * p) (by omega), r4 (by omega), .inr (by omega)⟩
    · obtain ⟨f, rs0, x, q, rfl, hq, hq1, hpos, hgo, hx, hne, j, hj, hc⟩ := hV
      have hfew := GoR.few RM hn hm4 hgo
      have hlen : (rs0 ++ [x]).length = q * lnM n p sh + 1 := by rw [List.length_append, List.length_singleton, hq]
      have hat1 : (rs0 ++ [x]).length % lnM n p sh = 1 := by
        rw [hlen, Nat.mul_comm, Nat.mul_add_mod, Nat.mod_eq_of_lt (by omega)]
      have hqln : 1 * lnM n p sh ≤ q * lnM n p sh := Nat.mul_le_mul_right _ hq1
      have c1 : (rs0 ++ [x]).take ((rs0 ++ [x]).length - 1) = rs0 := by
        rw [List.length_append, List.length_singleton, Nat.add_sub_cancel, List.take_left']
        rfl
      rw [c1] at c0
      walk_at "g"
      refine r_cut (fun _ _ => False) ?_ fun _ _ z => z.elim
      walk_at "g"
      refine r_kAnd (fun _ => ?_) fun z => absurd (by rw [hat1]; rfl) (int_no z)
      walk_at "g"
      refine r_kAnd (fun _ => ?_) fun z => absurd (by rw [hlen]; omega) (of_decide_eq_false z)
      walk_at "g"
      refine r_slA hrp fun p1 H1 e1 g1 => ?_
      rw [c0] at g1
      walk_at "g"
      refine ⟨own, n, p, tg, sh, m, q, mp, p1, rs0, f, rfl, e1 _ _ hmp, g1, ho, hn, htg, hsh, hp, hp4, by omega, hq, hq1, hpos.tx (tx_same e1), hfew, fun v H2 e2 hv => ?_⟩
      obtain ⟨j', rfl⟩ : ∃ j', v = .int j' := by
        rcases hv with ⟨_, z⟩ | ⟨_, ⟨_, z⟩ | ⟨j', z, _⟩⟩
        · exact absurd z hne
        · have := z j hj
          omega
        · exact ⟨j', z⟩
      walk_at "g"
      refine r_isiInt (.int j') (b := true) (kit_ty (by decide +kernel)) ?_
      walk_at "g"
      refine r_kIf (fun _ => ?_) fun z => nomatch z
      walk_at "g"
      refine r_ixT (by walk_at "t") (atI_last rs0 x) ?_
      walk_at "g"
      refine r_kTup fun p3 H3 e3 n3 h3 => ?_
      exact k _ H3 (by walk_at "e") ⟨p3, x, rfl, h3, hx.tx (by walk_at "x")⟩
end
end Wg
set_option Elab.async false
set_option linter.all false
set_option maxRecDepth 100000
set_option maxHeartbeats 4000000
namespace Wg
open PySem L2
open PyProof.Rows hiding St
open RZ
abbrev s_next_shared : Stmt := topS 26
theorem sc_next_shared : FnScope ["manner", "hand", "deed", "ahead", "reads", "word", "hands", "places", "toggles", "shakes", "moves", "first", "rest", "toggle", "step"] ["manner", "hand", "deed", "ahead", "reads"] (defScope s_next_shared) := ⟨rfl, rfl, rfl, by decide +kernel, rfl, by decide +kernel, by decide +kernel⟩
abbrev s_next_step : Stmt := topS 42
theorem sc_next_step : FnScope ["manner", "hand", "deed", "ahead", "reads"] ["manner", "hand", "deed", "ahead", "reads"] (defScope s_next_step) := ⟨rfl, rfl, rfl, by decide +kernel, rfl, by decide +kernel, by decide +kernel⟩
section
variable {P : Program} {w : World} {K : PySem.W.Frag} {mg : Str → Option Value} {base : Heap}
theorem ok_next_shared (C_look_shared : Cal P w K mg base "look_shared" 4 ["hand", "manner", "reads"] sp_look_shared) (D : Dfn K mg "next_shared" "next_shared" s_next_shared) :
    Cal P w K mg base "next_shared" 5 ["manner", "hand", "deed", "ahead", "reads"] (sp_next fun m => ∃ n p tg sh w, m = .shared n p tg sh w) := by
  refine cal_of D sc_next_shared (fun vs H Q E h => ?_) (fun _ _ _ _ _ _ us hl => match us, hl with | [_, _, _, _, _], _ => rfl) (fun f cdv A outer s H vs Q E hr h => ?_)
  · obtain ⟨mp, dp, rp, av, m, own, c0, rs, rfl, _⟩ := h
    rfl
  · obtain ⟨mp, dp, rp, av, _, own, c0, rs, rfl, hmp, hdp, hrp, hok, hown, ⟨n, p, tg, sh, w, rfl⟩, hg, k⟩ := h
    have hL := Nat.le_trans (hg.most hok) (most_le hok)
    have hmp' : H mp = some (.tup [.str "shared", .int n, .int p, .int tg, .int sh, .int w]) := hmp
    have hn0 : 0 < n := hok.1
    have hsh : sh ≤ 1 := hok.2.2.2.2.2.1
    have hp : 0 < p := hok.2.2.2.2.2.2.1
    refine ⟨_, (pss_cons (ps_asg (pv 0) (pg_tup (by rfl) (pgs_cons (pg_name (i := 5) sc_next_shared.nd rfl (by first | exact Or.inl rfl | exact Or.inr rfl)) (pgs_cons (pg_name (i := 6) sc_next_shared.nd rfl (by first | exact Or.inl rfl | exact Or.inr rfl)) (pgs_cons (pg_name (i := 7) sc_next_shared.nd rfl (by first | exact Or.inl rfl | exact Or.inr rfl)) (pgs_cons (pg_name (i := 8) sc_next_shared.nd rfl (by first | exact Or.inl rfl | exact Or.inr rfl)) (pgs_cons (pg_name (i := 9) sc_next_shared.nd rfl (by first | exact Or.inl rfl | exact Or.inr rfl)) (pgs_cons (pg_name (i := 10) sc_next_shared.nd rfl (by first | exact Or.inl rfl | exact Or.inr rfl)) pgs_nil))))))))
 (pss_cons (ps_if (pt_cmpR op_eq (pe_ix (ix_tupH (K := K) rfl) (pv 2) pe_int (fun _ _ => rfl)) pe_str (nomark _))
 (pss_one (ps_ret (pe_cal C_look_shared (hr.mono (by decide)) (by rfl) (pa_cons (pv 1) (pa_cons (pv 0) (pa_cons (pv 4) pa_nil))))))
 pss_nil)
 pss_never)), ?_⟩
    walk_at "g"
    refine r_kIf (fun _ => ?_) fun hb => absurd hb (by decide)
    walk_at "g"
    rcases hg with ⟨f, g1, g2, g3⟩ | hV
    · refine ⟨own, n, p, tg, sh, w, mp, rp, rs, rfl, hmp, hrp, hown, hok, by omega, .inl ⟨f, g1, g2, fun v H1 e1 hres => ?_⟩⟩
      refine k v H1 e1 ?_
      rcases hres with ht | ⟨k', j, hk1, hLk, hj, hrd, hne, j2, hj2, hc2⟩ | ⟨hgo, hst⟩
      · exact .inl ht
      · refine .inr (.inl ⟨_, hrd, .inr (.inr (.inl ⟨j, hj, rfl⟩)), fun x H' e' hc _ => ?_⟩)
        exact .inr ⟨f, rs, x, k', rfl, hLk, hk1, g1.tx ((tx_same e1).trans e'), g2, hc.view rfl, hne, j2, hj2, hc2⟩
      · rcases hst with ⟨j, hj, hrd, hx⟩ | ⟨j, hj, hwr, hx1, hx2⟩ | ⟨j, hj, hrd, hx1, hx2⟩
        · refine .inr (.inl ⟨_, hrd, .inr (.inr (.inr (.inl ⟨j, own, hj, hown, rfl⟩))), fun x H' e' hc _ => ?_⟩)
          obtain ⟨i, rfl⟩ := hc.call rfl
          refine .inl (goodM_snoc (o := ⟨i, 0, []⟩) hp hsh g1 g2 hgo ((tx_same e1).trans e') ?_)
          unfold FrmM
          rcases hx with ⟨z1, z2⟩ | z
          · rw [if_pos z1]
            exact fun _ => rfl
          · rw [if_neg (by omega), if_neg (by omega)]
        · refine .inr (.inr ⟨_, hwr, .inr (.inr (.inr (.inr ⟨own, j, hown, hj, rfl⟩))), rfl, fun H' e' => ?_⟩)
          refine .inl (goodM_snoc (o := default) hp hsh g1 g2 hgo ((tx_same e1).trans e') ?_)
          unfold FrmM
          rw [if_pos hx1]
          exact fun z => by omega
        · refine .inr (.inl ⟨_, hrd, .inl ⟨j, hj, rfl⟩, fun x H' e' hc _ => ?_⟩)
          obtain ⟨o, hb⟩ := hc.box rfl
          refine .inl (goodM_snoc (o := o) hp hsh g1 g2 hgo ((tx_same e1).trans e') ?_)
          unfold FrmM
          rw [if_neg (by omega), if_pos hx2]
          exact hb
    · refine ⟨own, n, p, tg, sh, w, mp, rp, rs, rfl, hmp, hrp, hown, hok, by omega, .inr ⟨hV, fun v H1 e1 ht => ?_⟩⟩
      exact k v H1 e1 (.inl ht)
theorem ok_next_step (C_next_handed : Cal P w K mg base "next_handed" 4 ["manner", "hand", "deed", "ahead", "reads"] (sp_next fun m => ∃ n t w, m = .handed n t w))
    (C_next_signs : Cal P w K mg base "next_signs" 4 ["manner", "hand", "deed", "ahead", "reads"] (sp_next fun m => ∃ n tg sh w, m = .signs n tg sh w))
    (C_next_shared : Cal P w K mg base "next_shared" 5 ["manner", "hand", "deed", "ahead", "reads"] (sp_next fun m => ∃ n p tg sh w, m = .shared n p tg sh w))
    (D : Dfn K mg "next_step" "next_step" s_next_step) : Cal P w K mg base "next_step" 6 ["manner", "hand", "deed", "ahead", "reads"] (sp_next fun _ => True) := by
  refine cal_of D sc_next_step (fun vs H Q E h => ?_) (fun _ _ _ _ _ _ us hl => match us, hl with | [_, _, _, _, _], _ => rfl) (fun f cdv A outer s H vs Q E hr h => ?_)
  · obtain ⟨mp, dp, rp, av, m, own, c0, rs, rfl, _⟩ := h
    rfl
  · obtain ⟨mp, dp, rp, av, m, own, c0, rs, rfl, hmp, hdp, hrp, hok, hown, _, hg, k⟩ := h
    refine ⟨_, (pss_cons (ps_if (pt_cmpR op_eq (pe_ix (ix_tupH (K := K) rfl) (pv 0) pe_int (fun _ _ => rfl)) pe_str (nomark _))
 pss_never
 pss_nil)
 (pss_cons (ps_if (pt_cmpR op_eq (pe_ix (ix_tupH (K := K) rfl) (pv 0) pe_int (fun _ _ => rfl)) pe_str (nomark _))
 pss_never
 pss_nil)
 (pss_cons (ps_if (pt_cmpR op_eq (pe_ix (ix_tupH (K := K) rfl) (pv 0) pe_int (fun _ _ => rfl)) pe_str (nomark _))
 (pss_one (ps_ret (pe_cal C_next_handed (hr.mono (by decide)) (by rfl) (pa_cons (pv 0) (pa_cons (pv 1) (pa_cons (pv 2) (pa_cons (pv 3) (pa_cons (pv 4) pa_nil))))))))
 pss_nil)
 (pss_cons (ps_if (pt_cmpR op_eq (pe_ix (ix_tupH (K := K) rfl) (pv 0) pe_int (fun _ _ => rfl)) pe_str (nomark _))
 (pss_one (ps_ret (pe_cal C_next_signs (hr.mono (by decide)) (by rfl) (pa_cons (pv 0) (pa_cons (pv 1) (pa_cons (pv 2) (pa_cons (pv 3) (pa_cons (pv 4) pa_nil))))))))
 pss_nil)
 (pss_cons (ps_if (pt_cmpR op_eq (pe_ix (ix_tupH (K := K) rfl) (pv 0) pe_int (fun _ _ => rfl)) pe_str (nomark _))
 (pss_one (ps_ret (pe_cal C_next_shared (hr.mono (by decide)) (by rfl) (pa_cons (pv 0) (pa_cons (pv 1) (pa_cons (pv 2) (pa_cons (pv 3) (pa_cons (pv 4) pa_nil))))))))
 pss_nil)
 pss_never))))), ?_⟩
    cases m with
    | handed n t w =>
      have hmp' : H mp = some (.tup [.str "handed", .int n, .int t, .int w]) := hmp
      walk_at "g"
      refine r_kIf (fun hb => absurd hb (by decide)) fun _ => ?_
      walk_at "g"
      refine r_kIf (fun hb => absurd hb (by decide)) fun _ => ?_
      walk_at "g"
      refine r_kIf (fun _ => ?_) fun hb => absurd hb (by decide)
      walk_at "g"
      exact ⟨mp, dp, rp, av, _, own, c0, rs, rfl, hmp, hdp, hrp, hok, hown, ⟨n, t, w, rfl⟩, hg, k⟩
    | signs n tg sh w =>
      have hmp' : H mp = some (.tup [.str "signs", .int n, .int tg, .int sh, .int w]) := hmp
      walk_at "g"
      refine r_kIf (fun hb => absurd hb (by decide)) fun _ => ?_
      walk_at "g"
      refine r_kIf (fun hb => absurd hb (by decide)) fun _ => ?_
      walk_at "g"
      refine r_kIf (fun hb => absurd hb (by decide)) fun _ => ?_
      walk_at "g"
      refine r_kIf (fun _ => ?_) fun hb => absurd hb (by decide)
      walk_at "g"
      exact ⟨mp, dp, rp, av, _, own, c0, rs, rfl, hmp, hdp, hrp, hok, hown, ⟨n, tg, sh, w, rfl⟩, hg, k⟩
    | shared n p tg sh w =>
      have hmp' : H mp = some (.tup [.str "shared", .int n, .int p, .int tg, .int sh, .int w]) := hmp
      walk_at "g"
      refine r_kIf (fun hb => absurd hb (by decide)) fun _ => ?_
      walk_at "g"
      refine r_kIf (fun hb => absurd hb (by decide)) fun _ => ?_
      walk_at "g"
      refine r_kIf (fun hb => absurd hb (by decide)) fun _ => ?_
      walk_at "g"
      refine r_kIf (fun hb => absurd hb (by decide)) fun _ => ?_
      walk_at "g"
      refine r_kIf (fun _ => ?_) fun hb => absurd hb (by decide)
      walk_at "g"
      exact ⟨mp, dp, rp, av, _, own, c0, rs, rfl, hmp, hdp, hrp, hok, hown, ⟨n, p, tg, sh, w, rfl⟩, hg, k⟩
end
end Wg
set_option Elab.async false
set_option linter.all false
set_option maxRecDepth 100000
set_option maxHeartbeats 4000000
namespace Wg
open PySem L2
open PyProof.Rows hiding St
open RZ
abbrev s_law_take : Stmt := topS 45
theorem sc_law_take : FnScope ["_law_hand_here", "_law_many", "_law_digit", "_law_turn", "_law_mixed", "_law_other"] ["_law_hand_here", "_law_many"] (defScope s_law_take) := ⟨rfl, rfl, rfl, by decide +kernel, rfl, by decide +kernel, by decide +kernel⟩
abbrev s_law_pick : Stmt := topS 46
theorem sc_law_pick : FnScope ["_law_hand_here", "_law_some"] ["_law_hand_here", "_law_some"] (defScope s_law_pick) := ⟨rfl, rfl, rfl, by decide +kernel, rfl, by decide +kernel, by decide +kernel⟩
abbrev s_law_value : Stmt := topS 47
theorem sc_law_value : FnScope ["_law_hand_here", "_law_way"] ["_law_hand_here"] (defScope s_law_value) := ⟨rfl, rfl, rfl, by decide +kernel, rfl, by decide +kernel, by decide +kernel⟩
abbrev s_law_places : Stmt := topS 49
theorem sc_law_places : FnScope ["_law_manner"] ["_law_manner"] (defScope s_law_places) := ⟨rfl, rfl, rfl, by decide +kernel, rfl, by decide +kernel, by decide +kernel⟩
abbrev s_law_state : Stmt := topS 50
theorem sc_law_state : FnScope ["_law_hand_here", "_law_many", "_law_j"] ["_law_hand_here", "_law_many"] (defScope s_law_state) := ⟨rfl, rfl, rfl, by decide +kernel, rfl, by decide +kernel, by decide +kernel⟩
abbrev s_law_ahead : Stmt := topS 53
theorem sc_law_ahead : FnScope ["_law_hand_here", "_law_many", "_law_k"] ["_law_hand_here", "_law_many"] (defScope s_law_ahead) := ⟨rfl, rfl, rfl, by decide +kernel, rfl, by decide +kernel, by decide +kernel⟩
/-- the hand that draws: a list of three numbers, the third at most T -/
def HandAt (T : Nat) (H : Hp) (h : Addr) : Prop := ∃ a b t : Int, H h = some (.lst [.int a, .int b, .int t]) ∧ 0 ≤ b ∧ b < 4611686018427387904 ∧ 0 ≤ t ∧ t ≤ (T : Int)
theorem HandAt.mono {T U : Nat} {H : Hp} {h : Addr} (x : HandAt T H h) (l : T ≤ U) : HandAt U H h := by
  obtain ⟨a, b, t, h1, h2, h3, h4, h5⟩ := x
  exact ⟨a, b, t, h1, h2, h3, h4, by omega⟩
theorem HandAt.same {T : Nat} {H H' : Hp} {h : Addr} (x : HandAt T H h) (e : Same H H') : HandAt T H' h := by
  obtain ⟨a, b, t, h1, r⟩ := x
  exact ⟨a, b, t, e _ _ h1, r⟩
theorem HandAt.at {T : Nat} {H H' : Hp} {h : Addr} (x : HandAt T H h) (e : H' h = H h) : HandAt T H' h := by
  obtain ⟨a, b, t, h1, r⟩ := x
  exact ⟨a, b, t, e.trans h1, r⟩
theorem HandAt.tx {T : Nat} {H H' : Hp} {h : Addr} (x : HandAt T H h) (f : Fh h H H') : Tx H H' := by
  obtain ⟨a, b, t, h1, _⟩ := x
  exact f.tx h1
theorem HandAt.ne {T : Nat} {H : Hp} {h p : Addr} (x : HandAt T H h) (e : H p = none) : h ≠ p := by
  obtain ⟨a, b, t, h1, _⟩ := x
  exact ne_of_none h1 e
theorem fh_but {h : Addr} {H H' : Hp} (k : ∀ q, q ≠ h → H' q = H q) : Fh h H H' := fun a o n e => (k a n).trans e
section
variable {P : Program} {w : World} {K : PySem.W.Frag} {mg : Str → Option Value} {base : Heap}
def sp_take : Sp := fun vs H Q _ => ∃ (h : Addr) (m T : Nat), vs = [.ref h, .int m] ∧ 0 < m ∧ m ≤ 1000 ∧ HandAt T H h ∧ T ≤ 1000000 ∧ ∀ (d : Nat) H', d < m → Fh h H H' → HandAt (T + 1) H' h → Q (.int d) H'
theorem ok_take (D : Dfn K mg "_law_take" "_law_take" s_law_take) : Cal P w K mg base "_law_take" 1 ["_law_hand_here", "_law_many"] sp_take := by
  refine cal_of D sc_law_take (fun vs H Q E h => ?_) (fun _ _ _ _ _ _ us hl => match us, hl with | [_, _], _ => rfl) (fun f cdv A outer s H vs Q E hr h => ?_)
  · obtain ⟨h, m, T, rfl, _⟩ := h
    rfl
  · obtain ⟨h, m, T, rfl, hm, hm2, ⟨a, b, t, hh, hb0, hb, ht0, ht⟩, hT, k⟩ := h
    have mod_nat : ∀ x : Int, ∃ d : Nat, x % (m : Int) = (d : Int) ∧ d < m := fun x => by
      have h1 := Int.emod_nonneg x (show (m : Int) ≠ 0 by omega)
      have h2 := Int.emod_lt_of_pos x (show (0 : Int) < (m : Int) by omega)
      exact ⟨(x % (m : Int)).toNat, by omega, by omega⟩
    refine ⟨_, (pss_cons (ps_if (pt_cmpR op_gt (pe_ix (ix_listH (K := K) rfl) (pv 0) pe_int (fun _ _ => rfl)) pe_int (nomark _))
 (pss_cons (ps_set (i := 2) sc_law_take.nd rfl (by first | exact Or.inl rfl | exact Or.inr rfl) (pe_op op_mod (pe_ix (ix_listH (K := K) rfl) (pv 0) pe_int (fun _ _ => rfl)) (pv 1)))
 (pss_cons (ps_asg (pe_op op_fdiv (pe_ix (ix_listH (K := K) rfl) (pv 0) pe_int (fun _ _ => rfl)) (pv 1)) (pg_sub (pv 0) pe_int set_list))
 (pss_one (ps_ret (pv 2)))))
 pss_nil)
 (pss_cons (ps_asg (pe_op op_add (pe_ix (ix_listH (K := K) rfl) (pv 0) pe_int (fun _ _ => rfl)) pe_int) (pg_sub (pv 0) pe_int set_list))
 (pss_cons (ps_set (i := 3) sc_law_take.nd rfl (by first | exact Or.inl rfl | exact Or.inr rfl) (pe_ix (ix_listH (K := K) rfl) (pv 0) pe_int (fun _ _ => rfl)))
 (pss_cons (ps_set (i := 4) sc_law_take.nd rfl (by first | exact Or.inl rfl | exact Or.inr rfl) (pe_op op_mod (pe_op op_mul (pe_ix (ix_listH (K := K) rfl) (pv 0) pe_int (fun _ _ => rfl)) (pe_op op_add (pe_op op_add pe_int (pe_op op_mul (pe_op op_mul pe_int (pv 3)) (pv 3))) (pe_op op_mul pe_int (pv 3)))) pe_int))
 (pss_cons (ps_set (i := 5) sc_law_take.nd rfl (by first | exact Or.inl rfl | exact Or.inr rfl) (pe_op op_add (pe_op op_add (pe_op op_mod (pv 4) pe_int) (pe_op op_mul (pv 3) pe_int)) pe_int))
 (pss_cons (ps_set (i := 4) sc_law_take.nd rfl (by first | exact Or.inl rfl | exact Or.inr rfl) (pe_op op_mod (pe_op op_mul (pv 4) (pv 5)) pe_int))
 (pss_one (ps_ret (pe_op op_mod (pe_op op_add (pe_op op_fdiv (pv 4) pe_int) (pe_op op_fdiv (pv 4) pe_int)) (pv 1)))))))))), ?_⟩
    walk_at "g"
    refine r_kIf (fun hp => ?_) fun hp => ?_
    · walk_at "g"
      refine r_I (show (0 : Int) < (m : Int) by omega) ?_
      obtain ⟨d, ed, hd⟩ := mod_nat a
      rw [ed]
      walk_at "g"
      refine r_I ⟨by omega, by omega⟩ ?_
      walk_at "g"
      refine r_setItem hh (j := 0) rfl fun H1 hk h1 => ?_
      walk_at "g"
      exact k d H1 hd (fh_but hk) ⟨_, b, t, h1, hb0, hb, ht0, by omega⟩
    · walk_at "g"
      refine r_setItem hh (j := 2) rfl fun H1 hk h1 => ?_
      have h1' : H1 h = some (.lst [.int a, .int b, .int (t + 1)]) := h1
      clear h1
      walk_at "g"
      refine r_I (.inr ⟨by omega, by omega⟩) ?_
      walk_at "g"
      refine r_I (.inl ⟨by omega, by omega⟩) ?_
      have hm1 : 0 ≤ b * (48271 + 2 * (t + 1) * (t + 1) + 65537 * (t + 1)) % 2305843009213693921 ∧ b * (48271 + 2 * (t + 1) * (t + 1) + 65537 * (t + 1)) % 2305843009213693921 < 2305843009213693921 :=
        ⟨Int.emod_nonneg _ (by decide), Int.emod_lt_of_pos _ (by decide)⟩
      walk_at "g"
      generalize b * (48271 + 2 * (t + 1) * (t + 1) + 65537 * (t + 1)) % 2305843009213693921 = mx at hm1 ⊢
      refine r_I (.inl ⟨by omega, by omega⟩) ?_
      walk_at "g"
      refine r_I (show (0 : Int) < (m : Int) by omega) ?_
      obtain ⟨d, ed, hd⟩ := mod_nat (mx * (mx % 1000003 + (t + 1) * 99991 + 11) % 2305843009213693907 / 97 + mx * (mx % 1000003 + (t + 1) * 99991 + 11) % 2305843009213693907 / 1000033)
      rw [ed]
      exact k d H1 hd (fh_but hk) ⟨_, b, t + 1, h1', hb0, hb, by omega, by omega⟩
def sp_pick : Sp := fun vs H Q _ => ∃ (h l : Addr) (T : Nat) (xs : List V), vs = [.ref h, .ref l] ∧ H l = some (.lst xs) ∧ l ≠ h ∧ 0 < xs.length ∧ xs.length ≤ 1000 ∧ HandAt T H h ∧ T ≤ 1000000 ∧ ∀ x H', x ∈ xs → Fh h H H' → HandAt (T + 1) H' h → Q x H'
theorem ok_pick (B : Blt mg) (C_take : Cal P w K mg base "_law_take" 1 ["_law_hand_here", "_law_many"] sp_take) (D : Dfn K mg "_law_pick" "_law_pick" s_law_pick) : Cal P w K mg base "_law_pick" 2 ["_law_hand_here", "_law_some"] sp_pick := by
  refine cal_of D sc_law_pick (fun vs H Q E h => ?_) (fun _ _ _ _ _ _ us hl => match us, hl with | [_, _], _ => rfl) (fun f cdv A outer s H vs Q E hr h => ?_)
  · obtain ⟨h, l, T, xs, rfl, _⟩ := h
    rfl
  · obtain ⟨h, l, T, xs, rfl, hl, hlh, h0, h1, hh, hT, k⟩ := h
    refine ⟨_, (pss_one (ps_ret (pe_ix (ix_listH (K := K) rfl) (pv 1) (pe_cal C_take (hr.mono (by decide)) (by rfl) (pa_cons (pv 0) (pa_cons (pe_callB (cr_lenH (K := K) rfl) (by rfl) B.len boot_len (pa_cons (pv 1) pa_nil)) pa_nil))) (fun _ _ => rfl)))), ?_⟩
    walk_at "g"
    refine ⟨h, xs.length, T, rfl, h0, h1, hh, hT, fun d H1 hd f1 hh1 => ?_⟩
    obtain ⟨x, gx, ix⟩ := at_lt (xs := xs) (j := d) hd
    refine r_ixL (f1 _ _ hlh hl) ix ?_
    exact k x H1 (List.mem_of_getElem? gx) f1 hh1
def sp_value : Sp := fun vs H Q _ => ∃ (h : Addr) (T : Nat), vs = [.ref h] ∧ HandAt T H h ∧ T ≤ 900000 ∧ ∀ v H', Fh h H H' → HandAt (T + 3) H' h → Q v H'
theorem ok_value (C_take : Cal P w K mg base "_law_take" 1 ["_law_hand_here", "_law_many"] sp_take) (C_pick : Cal P w K mg base "_law_pick" 2 ["_law_hand_here", "_law_some"] sp_pick) (D : Dfn K mg "_law_value" "_law_value" s_law_value) :
    Cal P w K mg base "_law_value" 3 ["_law_hand_here"] sp_value := by
  refine cal_of D sc_law_value (fun vs H Q E h => ?_) (fun _ _ _ _ _ _ us hl => match us, hl with | [_], _ => rfl) (fun f cdv A outer s H vs Q E hr h => ?_)
  · obtain ⟨h, T, rfl, _⟩ := h
    rfl
  · obtain ⟨h, T, rfl, hh, hT, k⟩ := h
    refine ⟨_, (pss_cons (ps_set (i := 1) sc_law_value.nd rfl (by first | exact Or.inl rfl | exact Or.inr rfl) (pe_cal C_take (hr.mono (by decide)) (by rfl) (pa_cons (pv 0) (pa_cons pe_int pa_nil))))
 (pss_cons (ps_if (pt_cmpR op_eq (pv 1) pe_int (nomark _))
 (pss_one (ps_ret (pe_tup (pa_cons (pe_cal C_take (hr.mono (by decide)) (by rfl) (pa_cons (pv 0) (pa_cons pe_int pa_nil))) (pa_cons (pe_tup (pa_cons (pe_op op_sub (pe_cal C_take (hr.mono (by decide)) (by rfl) (pa_cons (pv 0) (pa_cons pe_int pa_nil))) pe_int) (pa_cons (pe_tup pa_nil) pa_nil))) pa_nil)))))
 pss_nil)
 (pss_cons (ps_if (pt_cmpR op_eq (pv 1) pe_int (nomark _))
 (pss_one (ps_ret (pe_cal C_pick (hr.mono (by decide)) (by rfl) (pa_cons (pv 0) (pa_cons (pe_lst (pa_cons (pe_un un_neg pe_int) (pa_cons (pe_op op_sub (pe_op op_pow pe_int pe_int) pe_int) (pa_cons (pe_op op_sub pe_int (pe_op op_pow pe_int pe_int)) (pa_cons (pe_tup pa_nil) (pa_cons (pe_tup (pa_cons pe_int pa_nil)) pa_nil)))))) pa_nil)))))
 pss_nil)
 (pss_one (ps_ret (pe_cal C_take (hr.mono (by decide)) (by rfl) (pa_cons (pv 0) (pa_cons pe_int pa_nil)))))))), ?_⟩
    walk_at "g"
    refine ⟨h, 8, T, rfl, by omega, by omega, hh, by omega, fun d H1 hd f1 hh1 => ?_⟩
    walk_at "g"
    refine r_kIf (fun hb => ?_) fun hb => ?_
    · walk_at "g"
      refine ⟨h, 5, _, rfl, by omega, by omega, hh1, by omega, fun d2 H2 hd2 f2 hh2 => ?_⟩
      walk_at "g"
      refine ⟨h, 3, _, rfl, by omega, by omega, hh2, by omega, fun d3 H3 hd3 f3 hh3 => ?_⟩
      walk_at "g"
      refine r_kTup fun p4 H4 e4 n4 h4 => ?_
      walk_at "g"
      refine r_kTup fun p5 H5 e5 n5 h5 => ?_
      walk_at "g"
      refine r_kTup fun p6 H6 e6 n6 h6 => ?_
      exact k _ H6 (f1.trans (f2.trans (f3.trans (fh_same (e4.trans (e5.trans e6)))))) ((hh3.same (e4.trans (e5.trans e6))).mono (by omega))
    · walk_at "g"
      refine r_kIf (fun hb2 => ?_) fun hb2 => ?_
      · walk_at "g"
        refine r_kTup fun p2 H2 e2 n2 h2 => ?_
        walk_at "g"
        refine r_kTup fun p3 H3 e3 n3 h3 => ?_
        walk_at "g"
        refine r_kLst fun p4 H4 e4 n4 h4 => ?_
        walk_at "g"
        have hh4 := hh1.same (e2.trans (e3.trans e4))
        have np : p4 ≠ h := fun z => (hh1.same (e2.trans e3)).ne n4 z.symm
        refine ⟨h, p4, _, _, rfl, h4, np, by simp, by simp, hh4, by omega, fun x H5 hx f5 hh5 => ?_⟩
        exact k _ H5 (f1.trans ((fh_same (e2.trans (e3.trans e4))).trans f5)) (hh5.mono (by omega))
      · walk_at "g"
        refine ⟨h, 7, _, rfl, by omega, by omega, hh1, by omega, fun d2 H2 hd2 f2 hh2 => ?_⟩
        exact k _ H2 (f1.trans f2) (hh2.mono (by omega))
def sp_places : Sp := fun vs H Q _ => ∃ (mp : Addr) (m : Mn), vs = [.ref mp] ∧ H mp = some (.tup m.vs) ∧ Q (.int m.pl) H
theorem ok_places (D : Dfn K mg "_law_places" "_law_places" s_law_places) : Cal P w K mg base "_law_places" 1 ["_law_manner"] sp_places := by
  refine cal_of D sc_law_places (fun vs H Q E h => ?_) (fun _ _ _ _ _ _ us hl => match us, hl with | [_], _ => rfl) (fun f cdv A outer s H vs Q E hr h => ?_)
  · obtain ⟨mp, m, rfl, _⟩ := h
    rfl
  · obtain ⟨mp, m, rfl, hmp, k⟩ := h
    refine ⟨_, (pss_one (ps_ret (pe_ifExp (pt_cmpR op_eq (pe_ix (ix_tupH (K := K) rfl) (pv 0) pe_int (fun _ _ => rfl)) pe_str (nomark _)) (pe_ix (ix_tupH (K := K) rfl) (pv 0) pe_int (fun _ _ => rfl)) (pe_ix (ix_tupH (K := K) rfl) (pv 0) pe_int (fun _ _ => rfl))))), ?_⟩
    cases m with
    | handed n t w =>
      have hmp' : H mp = some (.tup [.str "handed", .int n, .int t, .int w]) := hmp
      walk_at "g"
      refine r_kIfE (fun hb => absurd hb (by decide)) fun _ => ?_
      walk_at "g"
      exact k
    | signs n tg sh w =>
      have hmp' : H mp = some (.tup [.str "signs", .int n, .int tg, .int sh, .int w]) := hmp
      walk_at "g"
      refine r_kIfE (fun hb => absurd hb (by decide)) fun _ => ?_
      walk_at "g"
      exact k
    | shared n p tg sh w =>
      have hmp' : H mp = some (.tup [.str "shared", .int n, .int p, .int tg, .int sh, .int w]) := hmp
      walk_at "g"
      refine r_kIfE (fun _ => ?_) fun hb => absurd hb (by decide)
      walk_at "g"
      exact k
def sp_state : Sp := fun vs H Q _ => ∃ (h : Addr) (n T : Nat), vs = [.ref h, .int n] ∧ n ≤ 5 ∧ HandAt T H h ∧ T ≤ 800000 ∧ ∀ v H', StV H' n v → Fh h H H' → HandAt (T + 15) H' h → Q v H'
theorem ok_state (B : Blt mg) (C_value : Cal P w K mg base "_law_value" 3 ["_law_hand_here"] sp_value) (D : Dfn K mg "_law_state" "_law_state" s_law_state) : Cal P w K mg base "_law_state" 4 ["_law_hand_here", "_law_many"] sp_state := by
  refine cal_of D sc_law_state (fun vs H Q E h => ?_) (fun _ _ _ _ _ _ us hl => match us, hl with | [_, _], _ => rfl) (fun f cdv A outer s H vs Q E hr h => ?_)
  · obtain ⟨h, n, T, rfl, _⟩ := h
    rfl
  · obtain ⟨h, n, T, rfl, hn, hh, hT, k⟩ := h
    refine ⟨_, (pss_one (ps_ret (pe_callTy cr_tupOf (by rfl) B.tuple boot_tuple (pa_cons (pe_lc (own := [("_law_j", 2)]) (g := gName 2) (tt := tYes) (by rfl) sc_law_state.nd (pi_range1 (by rfl) B.range (pa_cons (pv 1) pa_nil)) (blkOk_by (own := [("_law_j", 2)]) (N := ["_law_hand_here", "_law_many", "_law_j"]) (sc := defScope s_law_state) (by decide +kernel)) (fun _ _ _ _ _ => pg_name (i := 2) sc_law_state.nd rfl (Or.inl rfl)) (fun _ _ _ _ _ => pts_nil) (fun _ _ _ _ _ => (pe_cal C_value (hr.mono (by decide)) (by rfl) (pa_cons (pv 0) pa_nil)))) pa_nil)))), ?_⟩
    walk_at "g"
    refine r_kRng1 ?_
    obtain ⟨a0, b0, t0, hl0, _⟩ := id hh
    refine r_kLcH (h := h) (hx0 := [.int a0, .int b0, .int t0]) wk_range (fun i ys H' => ys.length = i ∧ HandAt (T + 3 * i) H' h) (by omega) hl0 (fun _ => rfl) (fun _ _ => trivial) ⟨rfl, hh⟩ (fun i xs D H1 ys zs _ nD hA => ⟨hA.1, hA.2.at (upd_ne nD.symm)⟩) (fun D hD => ⟨rfl, hh.at (upd_ne (hh.ne hD))⟩)
      (fun i ys x H1 hi f1 hA hx F F0 g1 g0 => ?_) fun D ys H1 _ nD f1 hD hA => ?_
    · walk_at "g"
      refine r_kEl (fun _ => ?_) fun z => nomatch z
      walk_at "g"
      refine ⟨h, _, rfl, hA.2, by omega, fun v H2 f2 hh2 => ?_⟩
      exact g1 _ _ f2 ⟨by rw [List.length_append, List.length_singleton, hA.1], hh2.mono (by omega)⟩
    · walk_at "g"
      refine r_tupOf hD fun p2 H2 e2 n2 h2 => ?_
      exact k _ H2 ⟨p2, ys, rfl, h2, hA.1⟩ (f1.trans (fh_same e2)) ((hA.2.same e2).mono (by omega))
def sp_ahead : Sp := fun vs H Q _ => ∃ (h : Addr) (n T : Nat), vs = [.ref h, .int n] ∧ n ≤ 5 ∧ HandAt T H h ∧ T ≤ 800000 ∧ ∀ v H', Fh h H H' → HandAt (T + 5) H' h → Q v H'
theorem ok_ahead (B : Blt mg) (C_pick : Cal P w K mg base "_law_pick" 2 ["_law_hand_here", "_law_some"] sp_pick) (D : Dfn K mg "_law_ahead" "_law_ahead" s_law_ahead) : Cal P w K mg base "_law_ahead" 3 ["_law_hand_here", "_law_many"] sp_ahead := by
  refine cal_of D sc_law_ahead (fun vs H Q E h => ?_) (fun _ _ _ _ _ _ us hl => match us, hl with | [_, _], _ => rfl) (fun f cdv A outer s H vs Q E hr h => ?_)
  · obtain ⟨h, n, T, rfl, _⟩ := h
    rfl
  · obtain ⟨h, n, T, rfl, hn, hh, hT, k⟩ := h
    refine ⟨_, (pss_one (ps_ret (pe_callTy cr_tupOf (by rfl) B.tuple boot_tuple (pa_cons (pe_lc (own := [("_law_k", 2)]) (g := gName 2) (tt := tYes) (by rfl) sc_law_ahead.nd (pi_range1 (by rfl) B.range (pa_cons (pv 1) pa_nil)) (blkOk_by (own := [("_law_k", 2)]) (N := ["_law_hand_here", "_law_many", "_law_k"]) (sc := defScope s_law_ahead) (by decide +kernel)) (fun _ _ _ _ _ => pg_name (i := 2) sc_law_ahead.nd rfl (Or.inl rfl)) (fun _ _ _ _ _ => pts_nil) (fun _ _ _ _ _ => (pe_cal C_pick (hr.mono (by decide)) (by rfl) (pa_cons (pv 0) (pa_cons (pe_lst (pa_cons pe_int (pa_cons pe_int (pa_cons pe_int (pa_cons pe_int (pa_cons pe_int (pa_cons pe_int (pa_cons pe_int pa_nil)))))))) pa_nil))))) pa_nil)))), ?_⟩
    walk_at "g"
    refine r_kRng1 ?_
    obtain ⟨a0, b0, t0, hl0, _⟩ := id hh
    refine r_kLcH (h := h) (hx0 := [.int a0, .int b0, .int t0]) wk_range (fun i ys H' => HandAt (T + i) H' h) (by omega) hl0 (fun _ => rfl) (fun _ _ => trivial) hh (fun i xs D H1 ys zs _ nD hA => hA.at (upd_ne nD.symm)) (fun D hD => hh.at (upd_ne (hh.ne hD)))
      (fun i ys x H1 hi f1 hA hx F F0 g1 g0 => ?_) fun D ys H1 _ nD f1 hD hA => ?_
    · walk_at "g"
      refine r_kEl (fun _ => ?_) fun z => nomatch z
      walk_at "g"
      refine r_kLst fun p2 H2 e2 n2 h2 => ?_
      walk_at "g"
      refine ⟨h, p2, _, _, rfl, h2, fun z => hA.ne n2 z.symm, by simp, by simp, hA.same e2, by omega, fun v H3 _ f3 hh3 => ?_⟩
      exact g1 _ _ ((fh_same e2).trans f3) (hh3.mono (by omega))
    · walk_at "g"
      refine r_tupOf hD fun p2 H2 e2 n2 h2 => ?_
      exact k _ H2 (f1.trans (fh_same e2)) ((hA.same e2).mono (by omega))
end
end Wg
set_option Elab.async false
set_option linter.all false
set_option maxRecDepth 100000
set_option maxHeartbeats 4000000
namespace Wg
open PySem L2
open PyProof.Rows hiding St
open RZ
abbrev s_law_any_manner : Stmt := topS 48
theorem sc_law_any_manner : FnScope ["_law_hand_here", "_law_ways", "_law_word", "_law_hands", "_law_moves", "_law_bits", "_law_turn"] ["_law_hand_here", "_law_ways"] (defScope s_law_any_manner) := ⟨rfl, rfl, rfl, by decide +kernel, rfl, by decide +kernel, by decide +kernel⟩
abbrev s_law_most : Stmt := topS 54
theorem sc_law_most : FnScope ["_law_manner", "_law_hands", "_law_moves", "_law_rounds"] ["_law_manner"] (defScope s_law_most) := ⟨rfl, rfl, rfl, by decide +kernel, rfl, by decide +kernel, by decide +kernel⟩
section
variable {P : Program} {w : World} {K : PySem.W.Frag} {mg : Str → Option Value} {base : Heap}
def sp_any : Sp := fun vs H Q _ => ∃ (h l : Addr) (T : Nat), vs = [.ref h, .ref l] ∧ H l = some (.lst [.str "handed", .str "signs", .str "shared"]) ∧ l ≠ h ∧ HandAt T H h ∧ T ≤ 800000 ∧
  ∀ (m : Mn) p H', m.ok → H' p = some (.tup m.vs) → Fh h H H' → HandAt (T + 8) H' h → Q (.ref p) H'
theorem ok_any (C_take : Cal P w K mg base "_law_take" 1 ["_law_hand_here", "_law_many"] sp_take) (C_pick : Cal P w K mg base "_law_pick" 2 ["_law_hand_here", "_law_some"] sp_pick) (D : Dfn K mg "_law_any_manner" "_law_any_manner" s_law_any_manner) :
    Cal P w K mg base "_law_any_manner" 3 ["_law_hand_here", "_law_ways"] sp_any := by
  refine cal_of D sc_law_any_manner (fun vs H Q E h => ?_) (fun _ _ _ _ _ _ us hl => match us, hl with | [_, _], _ => rfl) (fun f cdv A outer s H vs Q E hr h => ?_)
  · obtain ⟨h, l, T, rfl, _⟩ := h
    rfl
  · obtain ⟨h, l, T, rfl, hl, hlh, hh, hT, k⟩ := h
    refine ⟨_, (pss_cons (ps_set (i := 2) sc_law_any_manner.nd rfl (by first | exact Or.inl rfl | exact Or.inr rfl) (pe_cal C_pick (hr.mono (by decide)) (by rfl) (pa_cons (pv 0) (pa_cons (pv 1) pa_nil))))
 (pss_cons (ps_par (i := 3) (j := 4) (by rfl) sc_law_any_manner.nd rfl rfl (by decide) rfl rfl (pa_cons (pe_cal C_pick (hr.mono (by decide)) (by rfl) (pa_cons (pv 0) (pa_cons (pe_lst (pa_cons pe_int (pa_cons pe_int (pa_cons pe_int (pa_cons pe_int (pa_cons pe_int (pa_cons pe_int (pa_cons pe_int (pa_cons (pe_op op_add pe_int (pe_cal C_take (hr.mono (by decide)) (by rfl) (pa_cons (pv 0) (pa_cons pe_int pa_nil)))) pa_nil))))))))) pa_nil))) (pa_cons (pe_op op_add pe_int (pe_cal C_take (hr.mono (by decide)) (by rfl) (pa_cons (pv 0) (pa_cons pe_int pa_nil)))) pa_nil)) (by rfl))
 (pss_cons (ps_set (i := 5) sc_law_any_manner.nd rfl (by first | exact Or.inl rfl | exact Or.inr rfl) (pe_cal C_pick (hr.mono (by decide)) (by rfl) (pa_cons (pv 0) (pa_cons (pe_lst (pa_cons (pe_tup (pa_cons pe_int (pa_cons pe_int pa_nil))) (pa_cons (pe_tup (pa_cons pe_int (pa_cons pe_int pa_nil))) (pa_cons (pe_tup (pa_cons pe_int (pa_cons pe_int pa_nil))) (pa_cons (pe_tup (pa_cons pe_int (pa_cons pe_int pa_nil))) (pa_cons (pe_tup (pa_cons pe_int (pa_cons pe_int pa_nil))) pa_nil)))))) pa_nil))))
 (pss_cons (ps_set (i := 6) sc_law_any_manner.nd rfl (by first | exact Or.inl rfl | exact Or.inr rfl) (pe_cal C_pick (hr.mono (by decide)) (by rfl) (pa_cons (pv 0) (pa_cons (pe_lst (pa_cons pe_int (pa_cons pe_int (pa_cons pe_int (pa_cons pe_int pa_nil))))) pa_nil))))
 (pss_cons (ps_if (pt_cmpR op_eq (pv 2) pe_str (nomark _))
 (pss_one (ps_ret (pe_tup (pa_cons (pv 2) (pa_cons (pv 3) pa_nil)))))
 pss_nil)
 (pss_cons (ps_if (pt_cmpR op_eq (pv 2) pe_str (nomark _))
 (pss_one (ps_ret (pe_tup (pa_cons (pv 2) (pa_cons (pv 3) (pa_cons (pv 6) pa_nil))))))
 pss_nil)
 (pss_cons (ps_if (pt_cmpR op_eq (pv 2) pe_str (nomark _))
 (pss_one (ps_ret (pe_tup (pa_cons (pv 2) (pa_cons (pv 3) (pa_cons (pv 6) (pa_cons (pv 4) pa_nil)))))))
 pss_nil)
 (pss_cons (ps_if (pt_cmpR op_eq (pv 2) pe_str (nomark _))
 (pss_one (ps_ret (pe_op op_catA (pe_op op_catA (pe_tup (pa_cons (pv 2) (pa_cons (pv 3) pa_nil))) (pv 5)) (pe_tup (pa_cons (pv 4) pa_nil)))))
 pss_nil)
 (pss_one (ps_ret (pe_op op_catA (pe_op op_catA (pe_tup (pa_cons (pv 2) (pa_cons (pv 3) (pa_cons (pe_op op_add pe_int (pe_cal C_take (hr.mono (by decide)) (by rfl) (pa_cons (pv 0) (pa_cons pe_int pa_nil)))) pa_nil)))) (pv 5)) (pe_tup (pa_cons (pv 4) pa_nil))))))))))))), ?_⟩
    walk_at "g"
    refine ⟨h, l, T, _, rfl, hl, hlh, by simp, by simp, hh, by omega, fun word H1 hw f1 hh1 => ?_⟩
    walk_at "g"
    refine ⟨h, 2, _, rfl, by omega, by omega, hh1, by omega, fun d H2 hd f2 hh2 => ?_⟩
    walk_at "g"
    refine r_kLst fun p3 H3 e3 n3 h3 => ?_
    walk_at "g"
    have hh3 := hh2.same e3
    refine ⟨h, p3, _, _, rfl, h3, fun z => hh2.ne n3 z.symm, by simp, by simp, hh3, by omega, fun xn H4 hn f4 hh4 => ?_⟩
    obtain ⟨n, rfl, hn0, hn5⟩ : ∃ n : Nat, xn = .int n ∧ 0 < n ∧ n ≤ 5 := by
      simp only [List.mem_cons, List.not_mem_nil, or_false] at hn
      rcases hn with rfl | rfl | rfl | rfl | rfl | rfl | rfl | rfl
      · exact ⟨1, rfl, by omega, by omega⟩
      · exact ⟨2, rfl, by omega, by omega⟩
      · exact ⟨2, rfl, by omega, by omega⟩
      · exact ⟨3, rfl, by omega, by omega⟩
      · exact ⟨3, rfl, by omega, by omega⟩
      · exact ⟨2, rfl, by omega, by omega⟩
      · exact ⟨3, rfl, by omega, by omega⟩
      · exact ⟨4 + d, by rw [Int.natCast_add] <;> rfl, by omega, by omega⟩
    walk_at "g"
    refine ⟨h, 4, _, rfl, by omega, by omega, hh4, by omega, fun d5 H5 hd5 f5 hh5 => ?_⟩
    obtain ⟨wm, hwm, hwm0, hwm4⟩ : ∃ wm : Nat, (1 : Int) + (d5 : Int) = (wm : Int) ∧ 0 < wm ∧ wm ≤ 4 := ⟨1 + d5, by omega, by omega, by omega⟩
    walk_at "g"
    rw [hwm]
    walk_at "g"
    refine r_kTup fun q1 G1 u1 v1 t1 => ?_
    walk_at "g"
    refine r_kTup fun q2 G2 u2 v2 t2 => ?_
    walk_at "g"
    refine r_kTup fun q3 G3 u3 v3 t3 => ?_
    walk_at "g"
    refine r_kTup fun q4 G4 u4 v4 t4 => ?_
    walk_at "g"
    refine r_kTup fun q5 G5 u5 v5 t5 => ?_
    walk_at "g"
    refine r_kLst fun q6 G6 u6 v6 t6 => ?_
    have hhG5 := hh5.same (u1.trans (u2.trans (u3.trans (u4.trans u5))))
    walk_at "g"
    refine ⟨h, q6, _, _, rfl, t6, fun z => hhG5.ne v6 z.symm, by simp, by simp, hhG5.same u6, by omega, fun xb H7 hb f7 hh7 => ?_⟩
    have tx7 : Tx G6 H7 := (hhG5.same u6).tx f7
    obtain ⟨bq, tg, sh, rfl, hbq, htg, hsh⟩ : ∃ (bq : Addr) (tg sh : Nat), xb = .ref bq ∧ H7 bq = some (.tup [.int tg, .int sh]) ∧ tg ≤ 1 ∧ sh ≤ 1 := by
      simp only [List.mem_cons, List.not_mem_nil, or_false] at hb
      rcases hb with rfl | rfl | rfl | rfl | rfl
      · exact ⟨q1, 1, 1, rfl, by walk_at "t", by omega, by omega⟩
      · exact ⟨q2, 1, 1, rfl, by walk_at "t", by omega, by omega⟩
      · exact ⟨q3, 0, 1, rfl, by walk_at "t", by omega, by omega⟩
      · exact ⟨q4, 1, 0, rfl, by walk_at "t", by omega, by omega⟩
      · exact ⟨q5, 0, 0, rfl, by walk_at "t", by omega, by omega⟩
    walk_at "g"
    refine r_kLst fun p8 H8 e8 n8 h8 => ?_
    walk_at "g"
    refine ⟨h, p8, _, _, rfl, h8, fun z => hh7.ne n8 z.symm, by simp, by simp, hh7.same e8, by omega, fun xt H9 ht f9 hh9 => ?_⟩
    obtain ⟨t, rfl, ht9, ht1⟩ : ∃ t : Nat, xt = .int t ∧ t ≤ 9 ∧ t ≠ 1 := by
      simp only [List.mem_cons, List.not_mem_nil, or_false] at ht
      rcases ht with rfl | rfl | rfl | rfl
      · exact ⟨0, rfl, by omega, by omega⟩
      · exact ⟨0, rfl, by omega, by omega⟩
      · exact ⟨2, rfl, by omega, by omega⟩
      · exact ⟨9, rfl, by omega, by omega⟩
    have F9 : Fh h H H9 := f1.trans (f2.trans ((fh_same e3).trans (f4.trans (f5.trans ((fh_same (u1.trans (u2.trans (u3.trans (u4.trans (u5.trans u6)))))).trans (f7.trans ((fh_same e8).trans f9)))))))
    have tx9 : Tx H8 H9 := (hh7.same e8).tx f9
    have hb9 : H9 bq = some (.tup [.int tg, .int sh]) := by walk_at "t"
    clear f1 hh1 f2 hh2 e3 hh3 f4 hh4 f5 hh5 u1 u2 u3 u4 u5 u6 hhG5 f7 hh7 tx7 e8 f9 tx9 hbq
    simp only [List.mem_cons, List.not_mem_nil, or_false] at hw
    walk_at "g"
    rcases hw with rfl | rfl | rfl
    · refine r_eq rfl ?_
      walk_at "g"
      refine r_kIf (fun hb => absurd hb (by decide)) fun _ => ?_
      walk_at "g"
      refine r_kIf (fun hb => absurd hb (by decide)) fun _ => ?_
      walk_at "g"
      refine r_kIf (fun _ => ?_) fun hb => absurd hb (by decide)
      walk_at "g"
      refine r_kTup fun p H10 e10 n10 h10 => ?_
      exact k (.handed n t wm) p H10 ⟨hn0, hn5, hwm0, hwm4, ht9, ht1⟩ h10 (F9.trans (fh_same e10)) ((hh9.same e10).mono (by omega))
    · refine r_eq rfl ?_
      walk_at "g"
      refine r_kIf (fun hb => absurd hb (by decide)) fun _ => ?_
      walk_at "g"
      refine r_kIf (fun hb => absurd hb (by decide)) fun _ => ?_
      walk_at "g"
      refine r_kIf (fun hb => absurd hb (by decide)) fun _ => ?_
      walk_at "g"
      refine r_kIf (fun _ => ?_) fun hb => absurd hb (by decide)
      walk_at "g"
      refine r_kTup fun p H10 e10 n10 h10 => ?_
      walk_at "g"
      refine r_catA h10 (by walk_at "t") fun p2 H11 e11 h11 => ?_
      walk_at "g"
      refine r_kTup fun p3 H12 e12 n12 h12 => ?_
      refine r_catA (by walk_at "t") h12 fun p4 H13 e13 h13 => ?_
      exact k (.signs n tg sh wm) p4 H13 ⟨hn0, hn5, hwm0, hwm4, htg, hsh⟩ h13 (F9.trans (fh_same (e10.trans (e11.trans (e12.trans e13))))) ((hh9.same (e10.trans (e11.trans (e12.trans e13)))).mono (by omega))
    · refine r_eq rfl ?_
      walk_at "g"
      refine r_kIf (fun hb => absurd hb (by decide)) fun _ => ?_
      walk_at "g"
      refine r_kIf (fun hb => absurd hb (by decide)) fun _ => ?_
      walk_at "g"
      refine r_kIf (fun hb => absurd hb (by decide)) fun _ => ?_
      walk_at "g"
      refine r_kIf (fun hb => absurd hb (by decide)) fun _ => ?_
      walk_at "g"
      refine ⟨h, 4, _, rfl, by omega, by omega, hh9, by omega, fun d10 G10 hd10 g10 hk10 => ?_⟩
      have tg10 := hh9.tx g10
      obtain ⟨pl, hpl, hpl0, hpl4⟩ : ∃ pl : Nat, (1 : Int) + (d10 : Int) = (pl : Int) ∧ 0 < pl ∧ pl ≤ 4 := ⟨1 + d10, by omega, by omega, by omega⟩
      walk_at "g"
      rw [hpl]
      refine r_kTup fun p H10 e10 n10 h10 => ?_
      walk_at "g"
      refine r_catA h10 (e10 _ _ (tg10 _ _ hb9)) fun p2 H11 e11 h11 => ?_
      walk_at "g"
      refine r_kTup fun p3 H12 e12 n12 h12 => ?_
      refine r_catA (by walk_at "t") h12 fun p4 H13 e13 h13 => ?_
      exact k (.shared n pl tg sh wm) p4 H13 ⟨hn0, hn5, hwm0, hwm4, htg, hsh, hpl0, hpl4⟩ h13 (F9.trans (g10.trans (fh_same (e10.trans (e11.trans (e12.trans e13)))))) ((hk10.same (e10.trans (e11.trans (e12.trans e13)))).mono (by omega))
def sp_most : Sp := fun vs H Q _ => ∃ (mp : Addr) (m : Mn), vs = [.ref mp] ∧ H mp = some (.tup m.vs) ∧ m.ok ∧ Q (.int m.most) H
theorem ok_most (B : Blt mg) (D : Dfn K mg "_law_most" "_law_most" s_law_most) : Cal P w K mg base "_law_most" 1 ["_law_manner"] sp_most := by
  refine cal_of D sc_law_most (fun vs H Q E h => ?_) (fun _ _ _ _ _ _ us hl => match us, hl with | [_], _ => rfl) (fun f cdv A outer s H vs Q E hr h => ?_)
  · obtain ⟨mp, m, rfl, _⟩ := h
    rfl
  · obtain ⟨mp, m, rfl, hmp, hok, k⟩ := h
    have rc : ∀ n w : Nat, 0 < n → 0 < w → ((n : Int) - 1) * ((w : Int) - 1) + 1 = (((n - 1) * (w - 1) + 1 : Nat) : Int) := fun n w hn hw => by
      rw [Int.natCast_add, Int.natCast_mul]
      congr 2 <;> omega
    refine ⟨_, (pss_cons (ps_par (i := 1) (j := 2) (by rfl) sc_law_most.nd rfl rfl (by decide) rfl rfl (pa_cons (pe_ix (ix_tupH (K := K) rfl) (pv 0) pe_int (fun _ _ => rfl)) (pa_cons (pe_ix (ix_tupH (K := K) rfl) (pv 0) (pe_un un_neg pe_int) (fun _ _ => rfl)) pa_nil)) (by rfl))
 (pss_cons (ps_set (i := 3) sc_law_most.nd rfl (by first | exact Or.inl rfl | exact Or.inr rfl) (pe_op op_add (pe_op op_mul (pe_op op_sub (pv 1) pe_int) (pe_op op_sub (pv 2) pe_int)) pe_int))
 (pss_cons (ps_if (pt_cmpR op_eq (pe_ix (ix_tupH (K := K) rfl) (pv 0) pe_int (fun _ _ => rfl)) pe_str (nomark _))
 (pss_one (ps_ret (pe_op op_mul (pv 1) (pe_op op_add (pv 3) pe_int))))
 pss_nil)
 (pss_cons (ps_if (pt_cmpR op_eq (pe_ix (ix_tupH (K := K) rfl) (pv 0) pe_int (fun _ _ => rfl)) pe_str (nomark _))
 (pss_one (ps_ret (pe_op op_mul (pv 3) (pe_op op_add (pe_op op_mul pe_int (pv 1)) (pe_op op_mul (pe_op op_mul pe_int (pe_ix (ix_tupH (K := K) rfl) (pv 0) pe_int (fun _ _ => rfl))) (pe_op op_sub (pv 1) pe_int))))))
 pss_nil)
 (pss_one (ps_ret (pe_op op_add (pe_op op_mul (pv 3) (pe_op op_add (pe_op op_mul pe_int (pe_ix (ix_tupH (K := K) rfl) (pv 0) pe_int (fun _ _ => rfl))) (pe_op op_mul (pe_op op_mul pe_int (pe_ix (ix_tupH (K := K) rfl) (pv 0) pe_int (fun _ _ => rfl))) (pe_op op_sub (pv 1) pe_int)))) (pe_callTy cr_intB (by rfl) B.int boot_int (pa_cons (pe_cmpR op_gt (pv 1) pe_int (nomark _)) pa_nil))))))))), ?_⟩
    cases m with
    | handed n t w =>
      obtain ⟨h1, h2, h3, h4, _⟩ := hok
      have hmp' : H mp = some (.tup [.str "handed", .int n, .int t, .int w]) := hmp
      walk_at "g"
      refine r_I (.inl ⟨by omega, by omega⟩) ?_
      walk_at "g"
      rw [rc n w h1 h3]
      walk_at "g"
      refine r_kIf (fun _ => ?_) fun hb => absurd hb (by decide)
      walk_at "g"
      refine r_I (.inl ⟨by omega, by omega⟩) ?_
      have e : (n : Int) * ((((n - 1) * (w - 1) + 1 : Nat) : Int) + 1) = (((Mn.handed n t w).most : Nat) : Int) := by
        show _ = ((n * ((n - 1) * (w - 1) + 1 + 1) : Nat) : Int)
        rw [Int.natCast_mul]
        congr 1
      rw [e]
      exact k
    | signs n tg sh w =>
      obtain ⟨h1, h2, h3, h4, h5, h6⟩ := hok
      have hmp' : H mp = some (.tup [.str "signs", .int n, .int tg, .int sh, .int w]) := hmp
      walk_at "g"
      refine r_I (.inl ⟨by omega, by omega⟩) ?_
      walk_at "g"
      rw [rc n w h1 h3]
      walk_at "g"
      refine r_kIf (fun hb => absurd hb (by decide)) fun _ => ?_
      walk_at "g"
      refine r_kIf (fun _ => ?_) fun hb => absurd hb (by decide)
      walk_at "g"
      refine r_I (.inl ⟨by omega, by omega⟩) ?_
      walk_at "g"
      have hr1 : (n - 1) * (w - 1) + 1 ≤ 13 := by
        have : (n - 1) * (w - 1) ≤ 4 * 3 := Nat.mul_le_mul (by omega) (by omega)
        omega
      refine r_I (.inl ⟨by omega, by omega⟩) ?_
      have e : (((n - 1) * (w - 1) + 1 : Nat) : Int) * (2 * (n : Int) + 2 * (sh : Int) * ((n : Int) - 1)) = (((Mn.signs n tg sh w).most : Nat) : Int) := by
        show _ = ((((n - 1) * (w - 1) + 1) * (2 * n + 2 * sh * (n - 1)) : Nat) : Int)
        rw [aS_cast h1, Int.natCast_mul _ (2 * n + 2 * sh * (n - 1))]
        congr 1
      rw [e]
      exact k
    | shared n p tg sh w =>
      obtain ⟨h1, h2, h3, h4, h5, h6, h7, h8⟩ := hok
      have hmp' : H mp = some (.tup [.str "shared", .int n, .int p, .int tg, .int sh, .int w]) := hmp
      walk_at "g"
      refine r_I (.inl ⟨by omega, by omega⟩) ?_
      walk_at "g"
      rw [rc n w h1 h3]
      walk_at "g"
      refine r_kIf (fun hb => absurd hb (by decide)) fun _ => ?_
      walk_at "g"
      refine r_kIf (fun hb => absurd hb (by decide)) fun _ => ?_
      walk_at "g"
      refine r_I (.inl ⟨by omega, by omega⟩) ?_
      walk_at "g"
      have hr1 : (n - 1) * (w - 1) + 1 ≤ 13 := by
        have : (n - 1) * (w - 1) ≤ 4 * 3 := Nat.mul_le_mul (by omega) (by omega)
        omega
      refine r_I (.inl ⟨by omega, by omega⟩) ?_
      walk_at "g"
      have e : (((n - 1) * (w - 1) + 1 : Nat) : Int) * (2 * (p : Int) + 3 * (sh : Int) * ((n : Int) - 1)) + (if decide (1 < (n : Int)) = true then 1 else 0) = (((Mn.shared n p tg sh w).most : Nat) : Int) := by
        show _ = ((((n - 1) * (w - 1) + 1) * (2 * p + 3 * sh * (n - 1)) + (if 1 < n then 1 else 0) : Nat) : Int)
        have e2 : (2 * (p : Int) + 3 * (sh : Int) * ((n : Int) - 1)) = ((2 * p + 3 * sh * (n - 1) : Nat) : Int) := by
          rw [Int.natCast_add, Int.natCast_mul, Int.natCast_mul, Int.natCast_mul]
          congr 2
          omega
        rw [e2, ← Int.natCast_mul]
        by_cases z : 1 < n
        · rw [if_pos z, if_pos (decide_eq_true (by omega))]
          omega
        · rw [if_neg z, if_neg (by rw [decide_eq_true_eq]; omega)]
          omega
      rw [e]
      exact k
end
end Wg
set_option Elab.async false
set_option linter.all false
set_option maxRecDepth 100000
set_option maxHeartbeats 4000000
namespace Wg
open PySem L2
open PyProof.Rows hiding St
open RZ
abbrev s_law_content : Stmt := topS 51
theorem sc_law_content : FnScope ["_law_hand_here", "_law_manner", "_law_box", "_law_hands", "_law_places_here", "_law_calls", "_law_j"] ["_law_hand_here", "_law_manner", "_law_box"] (defScope s_law_content) := ⟨rfl, rfl, rfl, by decide +kernel, rfl, by decide +kernel, by decide +kernel⟩
section
variable {K : PySem.W.Frag} {σ : L2.St} {H : Hp} {Q : VK} {ta tb : TE}
def kOrT (K : PySem.W.Frag) (tb : TE) (σ : L2.St) (Q : VK) : VK := fun x H1 => ∃ k, TruV K x H1 k ∧ if k = true then Q x H1 else tb σ H1 Q
theorem r_orT (k : ta σ H (kOrT K tb σ Q)) : tOrT K ta tb σ H Q := k
theorem r_kOrT {i : Int} (h1 : i ≠ 0 → Q (.int i) H) (h2 : i = 0 → tb σ H Q) : kOrT K tb σ Q (.int i) H := by
  refine ⟨i != 0, rfl, ?_⟩
  by_cases z : i = 0
  · subst z
    exact h2 rfl
  · have e : (i != 0) = true := by simpa using z
    rw [e]
    exact h1 z
theorem r_inT {x : V} {p : Addr} {xs : List V} (h : H p = some (.tup xs)) (hx : flatV x = true) (hf : xs.all flatV = true) (k : Q (.bl (inV x xs)) H) : rIn K false x (.ref p) H Q := ⟨p, xs, rfl, .inr (SqT.of h), hx, hf, k⟩
end
/-- the words of boxes -/
def Wd (x : Str) : Prop := x = "own" ∨ x = "box" ∨ x = "view" ∨ x = "call" ∨ x = "sign"
theorem cf_view {H : Hp} {m : Mn} {v : V} (h : StV H m.pl v) : CF H m "view" v := ⟨fun z => absurd z (by decide +kernel), fun z => absurd z (by decide +kernel), fun z => absurd z (by decide +kernel), fun z => absurd z (by decide +kernel), fun _ => h⟩
theorem cf_call {H : Hp} {m : Mn} {i : Int} : CF H m "call" (.int i) := ⟨fun z => absurd z (by decide +kernel), fun z => absurd z (by decide +kernel), fun _ => ⟨i, rfl⟩, fun z => absurd z (by decide +kernel), fun z => absurd z (by decide +kernel)⟩
theorem cf_sign {H : Hp} {m : Mn} {i : Int} : CF H m "sign" (.int i) := ⟨fun z => absurd z (by decide +kernel), fun z => absurd z (by decide +kernel), fun z => absurd z (by decide +kernel), fun _ => ⟨i, rfl⟩, fun z => absurd z (by decide +kernel)⟩
theorem cf_box {H : Hp} {m : Mn} {v : V} {o : Ob} (h : BoxV H o v) : CF H m "box" v := ⟨fun z => absurd z (by decide +kernel), fun _ => ⟨o, h⟩, fun z => absurd z (by decide +kernel), fun z => absurd z (by decide +kernel), fun z => absurd z (by decide +kernel)⟩
theorem cf_own {H : Hp} {m : Mn} {v : V} (h : OwnF H m v) : CF H m "own" v := ⟨fun _ => h, fun z => absurd z (by decide +kernel), fun z => absurd z (by decide +kernel), fun z => absurd z (by decide +kernel), fun z => absurd z (by decide +kernel)⟩
theorem vs0 (m : Mn) : ∃ x r, m.vs = .str x :: .int m.n :: r ∧ x ≠ "once" ∧ x ≠ "twice" := by
  cases m with
  | handed n t w => exact ⟨_, _, rfl, by decide +kernel, by decide +kernel⟩
  | signs n tg sh w => exact ⟨_, _, rfl, by decide +kernel, by decide +kernel⟩
  | shared n p tg sh w => exact ⟨_, _, rfl, by decide +kernel, by decide +kernel⟩
theorem Mn.ok.n5 {m : Mn} (h : m.ok) : 0 < m.n ∧ m.n ≤ 5 := by
  cases m with
  | handed n t w => exact ⟨h.1, h.2.1⟩
  | signs n tg sh w => exact ⟨h.1, h.2.1⟩
  | shared n p tg sh w => exact ⟨h.1, h.2.1⟩
theorem Mn.ok.pl5 {m : Mn} (h : m.ok) : m.pl ≤ 5 := by
  cases m with
  | handed n t w => exact h.2.1
  | signs n tg sh w => exact h.2.1
  | shared n p tg sh w => exact Nat.le_trans h.2.2.2.2.2.2.2 (by omega)
section
variable {P : Program} {w : World} {K : PySem.W.Frag} {mg : Str → Option Value} {base : Heap}
def sp_content : Sp := fun vs H Q _ => ∃ (h mp bp : Addr) (m : Mn) (x : Str) (r : List V) (T : Nat), vs = [.ref h, .ref mp, .ref bp] ∧ H mp = some (.tup m.vs) ∧ m.ok ∧ H bp = some (.tup (.str x :: r)) ∧ Wd x ∧ HandAt T H h ∧ T ≤ 700000 ∧
  ∀ v H', CF H' m x v → Fh h H H' → HandAt (T + 24) H' h → Q v H'
theorem ok_content (B : Blt mg) (C_take : Cal P w K mg base "_law_take" 1 ["_law_hand_here", "_law_many"] sp_take) (C_value : Cal P w K mg base "_law_value" 3 ["_law_hand_here"] sp_value) (C_places : Cal P w K mg base "_law_places" 1 ["_law_manner"] sp_places)
    (C_state : Cal P w K mg base "_law_state" 4 ["_law_hand_here", "_law_many"] sp_state) (D : Dfn K mg "_law_content" "_law_content" s_law_content) : Cal P w K mg base "_law_content" 5 ["_law_hand_here", "_law_manner", "_law_box"] sp_content := by
  refine cal_of D sc_law_content (fun vs H Q E h => ?_) (fun _ _ _ _ _ _ us hl => match us, hl with | [_, _, _], _ => rfl) (fun f cdv A outer s H vs Q E hr h => ?_)
  · obtain ⟨h, mp, bp, m, x, r, T, rfl, _⟩ := h
    rfl
  · obtain ⟨h, mp, bp, m, x, r, T, rfl, hmp, hok, hbp, hx, hh, hT, k⟩ := h
    obtain ⟨mw, mr, hvs, hw1, hw2⟩ := vs0 m
    have hmp' : H mp = some (.tup (.str mw :: .int m.n :: mr)) := by rw [← hvs]; exact hmp
    obtain ⟨hn0, hn5⟩ := hok.n5
    have hpl := hok.pl5
    refine ⟨_, (pss_cons (ps_par (i := 3) (j := 4) (by rfl) sc_law_content.nd rfl rfl (by decide) rfl rfl (pa_cons (pe_ix (ix_tupH (K := K) rfl) (pv 1) pe_int (fun _ _ => rfl)) (pa_cons (pe_cal C_places (hr.mono (by decide)) (by rfl) (pa_cons (pv 1) pa_nil)) pa_nil)) (by rfl))
 (pss_cons (ps_if (pt_cmpR op_eq (pe_ix (ix_tupH (K := K) rfl) (pv 2) pe_int (fun _ _ => rfl)) pe_str (nomark _))
 (pss_one (ps_ret (pe_cal C_state (hr.mono (by decide)) (by rfl) (pa_cons (pv 0) (pa_cons (pv 4) pa_nil)))))
 pss_nil)
 (pss_cons (ps_if (pt_cmpR op_in_seq (pe_ix (ix_tupH (K := K) rfl) (pv 2) pe_int (fun _ _ => rfl)) (pe_tup (pa_cons pe_str (pa_cons pe_str pa_nil))) rfl)
 (pss_one (ps_ret (pe_cal C_take (hr.mono (by decide)) (by rfl) (pa_cons (pv 0) (pa_cons pe_int pa_nil)))))
 pss_nil)
 (pss_cons (ps_if (pt_cmpR op_eq (pe_ix (ix_tupH (K := K) rfl) (pv 2) pe_int (fun _ _ => rfl)) pe_str (nomark _))
 (pss_one (ps_ret (pe_tup (pa_cons (pe_cal C_value (hr.mono (by decide)) (by rfl) (pa_cons (pv 0) pa_nil)) (pa_cons (pe_op op_sub (pe_cal C_take (hr.mono (by decide)) (by rfl) (pa_cons (pv 0) (pa_cons (pe_op op_add (pv 3) pe_int) pa_nil))) pe_int) (pa_cons (pe_cal C_take (hr.mono (by decide)) (by rfl) (pa_cons (pv 0) (pa_cons pe_int pa_nil))) pa_nil))))))
 pss_nil)
 (pss_cons (ps_if (pt_cmpR op_eq (pe_ix (ix_tupH (K := K) rfl) (pv 1) pe_int (fun _ _ => rfl)) pe_str (nomark _))
 (pss_one (ps_ret (pe_cal C_value (hr.mono (by decide)) (by rfl) (pa_cons (pv 0) pa_nil))))
 pss_nil)
 (pss_cons (ps_if (pt_cmpR op_eq (pe_ix (ix_tupH (K := K) rfl) (pv 1) pe_int (fun _ _ => rfl)) pe_str (nomark _))
 (pss_one (ps_ret (pe_tup (pa_cons (pe_cal C_value (hr.mono (by decide)) (by rfl) (pa_cons (pv 0) pa_nil)) (pa_cons (pe_cal C_take (hr.mono (by decide)) (by rfl) (pa_cons (pv 0) (pa_cons (pe_orT (pe_ix (ix_tupH (K := K) rfl) (pv 1) pe_int (fun _ _ => rfl)) (pe_one pe_int)) pa_nil))) pa_nil)))))
 pss_nil)
 (pss_cons (ps_if (pt_cmpR op_eq (pe_ix (ix_tupH (K := K) rfl) (pv 1) pe_int (fun _ _ => rfl)) pe_str (nomark _))
 (pss_one (ps_ret (pe_tup (pa_cons (pe_cal C_value (hr.mono (by decide)) (by rfl) (pa_cons (pv 0) pa_nil)) (pa_cons (pe_cal C_take (hr.mono (by decide)) (by rfl) (pa_cons (pv 0) (pa_cons (pe_orT (pe_ix (ix_tupH (K := K) rfl) (pv 1) pe_int (fun _ _ => rfl)) (pe_one pe_int)) pa_nil))) (pa_cons (pe_cal C_state (hr.mono (by decide)) (by rfl) (pa_cons (pv 0) (pa_cons (pv 3) pa_nil))) pa_nil))))))
 pss_nil)
 (pss_cons (ps_set (i := 5) sc_law_content.nd rfl (by first | exact Or.inl rfl | exact Or.inr rfl) (pe_callTy cr_tupOf (by rfl) B.tuple boot_tuple (pa_cons (pe_lc (own := [("_law_j", 6)]) (g := gName 6) (tt := tYes) (by rfl) sc_law_content.nd (pi_range1 (by rfl) B.range (pa_cons (pv 3) pa_nil)) (blkOk_by (own := [("_law_j", 6)]) (N := ["_law_hand_here", "_law_manner", "_law_box", "_law_hands", "_law_places_here", "_law_calls", "_law_j"]) (sc := defScope s_law_content) (by decide +kernel)) (fun _ _ _ _ _ => pg_name (i := 6) sc_law_content.nd rfl (Or.inl rfl)) (fun _ _ _ _ _ => pts_nil) (fun _ _ _ _ _ => (pe_cal C_take (hr.mono (by decide)) (by rfl) (pa_cons (pv 0) (pa_cons pe_int pa_nil))))) pa_nil)))
 (pss_one (ps_ret (pe_tup (pa_cons (pe_cal C_value (hr.mono (by decide)) (by rfl) (pa_cons (pv 0) pa_nil)) (pa_cons (pv 5) (pa_cons (pe_cal C_take (hr.mono (by decide)) (by rfl) (pa_cons (pv 0) (pa_cons pe_int pa_nil))) (pa_cons (pe_cal C_state (hr.mono (by decide)) (by rfl) (pa_cons (pv 0) (pa_cons (pv 3) pa_nil))) pa_nil))))))))))))))), ?_⟩
    walk_at "g"
    refine r_ixT hmp' (v := .int m.n) (atI_nat (j := 1) rfl) ?_
    walk_at "g"
    refine ⟨mp, m, rfl, hmp, ?_⟩
    walk_at "g"
    refine r_ixT hbp (v := .str x) (atI_nat (j := 0) rfl) ?_
    walk_at "g"
    refine r_kIf (fun hv => ?_) fun hv => ?_
    · have hxv : x = "view" := V.str.inj (of_decide_eq_true hv)
      subst hxv
      walk_at "g"
      refine ⟨h, m.pl, T, rfl, hpl, hh, by omega, fun v H1 hs f1 hh1 => ?_⟩
      exact k v H1 (cf_view hs) f1 (hh1.mono (by omega))
    · have hxv : x ≠ "view" := fun z => of_decide_eq_false hv (by rw [z])
      walk_at "g"
      refine r_ixT hbp (v := .str x) (atI_nat (j := 0) rfl) ?_
      walk_at "g"
      refine r_kTup fun p1 H1 e1 n1 h1 => ?_
      refine r_inT h1 rfl rfl ?_
      walk_at "g"
      have hh1 := hh.same e1
      refine r_kIf (fun hc => ?_) fun hc => ?_
      · have hxc : x = "call" ∨ x = "sign" := by
          have : ((("call" : Str) == x) || ((("sign" : Str) == x) || false)) = true := hc
          simp at this
          rcases this with z | z
          · exact .inl z.symm
          · exact .inr z.symm
        walk_at "g"
        refine ⟨h, 2, T, rfl, by omega, by omega, hh1, by omega, fun d H2 hd f2 hh2 => ?_⟩
        refine k _ H2 ?_ ((fh_same e1).trans f2) (hh2.mono (by omega))
        rcases hxc with rfl | rfl
        · exact cf_call
        · exact cf_sign
      · have hxc : x ≠ "call" ∧ x ≠ "sign" := by
          have : ((("call" : Str) == x) || ((("sign" : Str) == x) || false)) = false := hc
          simp at this
          exact ⟨fun z => this.1 z.symm, fun z => this.2 z.symm⟩
        walk_at "g"
        refine r_ixT (e1 _ _ hbp) (v := .str x) (atI_nat (j := 0) rfl) ?_
        walk_at "g"
        refine r_kIf (fun hb => ?_) fun hb => ?_
        · have hxb : x = "box" := V.str.inj (of_decide_eq_true hb)
          subst hxb
          walk_at "g"
          refine ⟨h, T, rfl, hh1, by omega, fun v H2 f2 hh2 => ?_⟩
          walk_at "g"
          refine ⟨h, m.n + 1, _, rfl, by omega, by omega, hh2, by omega, fun d H3 hd f3 hh3 => ?_⟩
          walk_at "g"
          refine ⟨h, 2, _, rfl, by omega, by omega, hh3, by omega, fun d2 H4 hd2 f4 hh4 => ?_⟩
          walk_at "g"
          refine r_kTup fun p5 H5 e5 n5 h5 => ?_
          exact k _ H5 (cf_box (o := ⟨(d : Int) - 1, d2, []⟩) ⟨p5, v, rfl, h5⟩) ((fh_same e1).trans (f2.trans (f3.trans (f4.trans (fh_same e5))))) ((hh4.same e5).mono (by omega))
        · have hxo : x = "own" := by
            rcases hx with z | z | z | z | z
            · exact z
            · exact absurd (by rw [z]) (of_decide_eq_false hb)
            · exact absurd z hxv
            · exact absurd z hxc.1
            · exact absurd z hxc.2
          subst hxo
          have hmp1 := e1 _ _ hmp'
          walk_at "g"
          refine r_ixT hmp1 (v := .str mw) (atI_nat (j := 0) rfl) ?_
          walk_at "g"
          refine r_kIf (fun hb => absurd (V.str.inj (of_decide_eq_true hb)) hw1) fun _ => ?_
          walk_at "g"
          refine r_ixT hmp1 (v := .str mw) (atI_nat (j := 0) rfl) ?_
          walk_at "g"
          refine r_kIf (fun hb => absurd (V.str.inj (of_decide_eq_true hb)) hw2) fun _ => ?_
          have rest : ∀ o5 o6, (∀ n t w, m ≠ .handed n t w) → (tSeq (tAsg (tCB (rTupOf K) (tCons (tLc (iRng1 (tCons (tVar 3) tNil)) (gName 6) tYes (tCal sp_take E0 (tCons (tVar 0) (tCons (tC (.int 2)) tNil))) [6]) tNil)) (gName 5))
              (tRet (tTup (tCons (tCal sp_value E0 (tCons (tVar 0) tNil)) (tCons (tVar 5) (tCons (tCal sp_take E0 (tCons (tVar 0) (tCons (tC (.int 2)) tNil))) (tCons (tCal sp_state E0 (tCons (tVar 0) (tCons (tVar 3) tNil))) tNil)))))))
              { nx := fun _ H' => Q .non H', rt := Q } [some (.ref h), some (.ref mp), some (.ref bp), some (.int m.n), some (.int m.pl), o5, o6] H1 := fun o5 o6 hnh => by
            walk_at "g"
            refine r_kRng1 ?_
            obtain ⟨a0, b0, t0, hl0, _⟩ := id hh1
            refine r_kLcH (h := h) (hx0 := [.int a0, .int b0, .int t0]) wk_range (fun i ys H' => (∃ c : List Int, c.length = i ∧ ys = c.map V.int) ∧ HandAt (T + i) H' h) (by omega) hl0 (fun _ => rfl) (fun _ _ => trivial) ⟨⟨[], rfl, rfl⟩, hh1⟩ (fun i xs D H1 ys zs _ nD hA => ⟨hA.1, hA.2.at (upd_ne nD.symm)⟩) (fun D hD => ⟨⟨[], rfl, rfl⟩, hh1.at (upd_ne (hh1.ne hD))⟩)
              (fun i ys x H2 hi f2 hA hx F F0 g1 g0 => ?_) fun D ys H2 _ nD f2 hD hA => ?_
            · obtain ⟨⟨c, hc1, hc2⟩, hh2⟩ := hA
              walk_at "g"
              refine r_kEl (fun _ => ?_) fun z => nomatch z
              walk_at "g"
              refine ⟨h, 2, _, rfl, by omega, by omega, hh2, by omega, fun d H3 hd f3 hh3 => ?_⟩
              exact g1 _ _ f3 ⟨⟨c ++ [(d : Int)], by rw [List.length_append, List.length_singleton, hc1], by rw [hc2, List.map_append]; rfl⟩, hh3.mono (by omega)⟩
            · obtain ⟨⟨c, hc1, hc2⟩, hh2⟩ := hA
              walk_at "g"
              refine r_tupOf hD fun p3 H3 e3 n3 h3 => ?_
              walk_at "g"
              have hh3 := hh2.same e3
              refine ⟨h, _, rfl, hh3, by omega, fun v H4 f4 hh4 => ?_⟩
              have t4 := hh3.tx f4
              walk_at "g"
              refine ⟨h, 2, _, rfl, by omega, by omega, hh4, by omega, fun d H5 hd f5 hh5 => ?_⟩
              have t5 := hh4.tx f5
              walk_at "g"
              refine ⟨h, m.n, _, rfl, hn5, hh5, by omega, fun sv H6 hs f6 hh6 => ?_⟩
              have t6 := hh5.tx f6
              walk_at "g"
              refine r_kTup fun p7 H7 e7 n7 h7 => ?_
              refine k _ H7 (cf_own ?_) ((fh_same e1).trans (f2.trans ((fh_same e3).trans (f4.trans (f5.trans (f6.trans (fh_same e7))))))) ((hh6.same e7).mono (by omega))
              have q7 : Own4 H7 m.n ⟨(d : Int), 0, c⟩ (.ref p7) := ⟨p7, v, p3, sv, rfl, h7, by
                rw [← hc2]
                exact e7 _ _ (t6 _ _ (t5 _ _ (t4 _ _ h3))), hc1, hs.tx (tx_same e7)⟩
              cases m with
              | handed n t w => exact absurd rfl (hnh n t w)
              | signs n tg sh w => exact ⟨_, q7⟩
              | shared n p tg sh w => exact trivial
          cases m with
          | handed n t w =>
            have hmp2 : H1 mp = some (.tup [.str "handed", .int n, .int t, .int w]) := e1 _ _ hmp
            walk_at "g"
            refine r_kIf (fun _ => ?_) fun hb => absurd hb (by decide)
            walk_at "g"
            refine ⟨h, T, rfl, hh1, by omega, fun v H2 f2 hh2 => ?_⟩
            have t2 := hh1.tx f2
            walk_at "g"
            refine r_orT ?_
            walk_at "g"
            refine r_ixT (t2 _ _ hmp2) (v := .int t) (atI_nat (j := 2) rfl) ?_
            refine r_kOrT (fun hz => ?_) fun hz => ?_
            · have ht9 : t ≤ 9 := hok.2.2.2.2.1
              have ht0 : 0 < t := by
                have : (t : Int) ≠ 0 := hz
                omega
              walk_at "g"
              refine ⟨h, t, _, rfl, by omega, by omega, hh2, by omega, fun d H3 hd f3 hh3 => ?_⟩
              have t3 := hh2.tx f3
              walk_at "g"
              refine ⟨h, n, _, rfl, hn5, hh3, by omega, fun sv H4 hs f4 hh4 => ?_⟩
              have t4 := hh3.tx f4
              walk_at "g"
              refine r_kTup fun p5 H5 e5 n5 h5 => ?_
              exact k _ H5 (cf_own ⟨⟨(d : Int), 0, []⟩, p5, v, sv, rfl, h5, hs.tx (tx_same e5)⟩) ((fh_same e1).trans (f2.trans (f3.trans (f4.trans (fh_same e5))))) ((hh4.same e5).mono (by omega))
            · walk_at "g"
              refine ⟨h, 3, _, rfl, by omega, by omega, hh2, by omega, fun d H3 hd f3 hh3 => ?_⟩
              have t3 := hh2.tx f3
              walk_at "g"
              refine ⟨h, n, _, rfl, hn5, hh3, by omega, fun sv H4 hs f4 hh4 => ?_⟩
              have t4 := hh3.tx f4
              walk_at "g"
              refine r_kTup fun p5 H5 e5 n5 h5 => ?_
              exact k _ H5 (cf_own ⟨⟨(d : Int), 0, []⟩, p5, v, sv, rfl, h5, hs.tx (tx_same e5)⟩) ((fh_same e1).trans (f2.trans (f3.trans (f4.trans (fh_same e5))))) ((hh4.same e5).mono (by omega))
          | signs n tg sh w =>
            have hmp2 : H1 mp = some (.tup [.str "signs", .int n, .int tg, .int sh, .int w]) := e1 _ _ hmp
            walk_at "g"
            refine r_kIf (fun hb => absurd hb (by decide)) fun _ => ?_
            exact rest _ _ (fun _ _ _ z => nomatch z)
          | shared n p tg sh w =>
            have hmp2 : H1 mp = some (.tup [.str "shared", .int n, .int p, .int tg, .int sh, .int w]) := e1 _ _ hmp
            walk_at "g"
            refine r_kIf (fun hb => absurd hb (by decide)) fun _ => ?_
            exact rest _ _ (fun _ _ _ z => nomatch z)
end
end Wg
set_option Elab.async false
set_option linter.all false
set_option maxRecDepth 100000
set_option maxHeartbeats 4000000
namespace Wg
open PySem L2
open PyProof.Rows hiding St
open RZ
abbrev s_law_changed : Stmt := topS 55
theorem sc_law_changed : FnScope ["_law_hand_here", "_law_manner", "_law_box", "_law_content_here", "_law_new", "_law_number"] ["_law_hand_here", "_law_manner", "_law_box", "_law_content_here"] (defScope s_law_changed) := ⟨rfl, rfl, rfl, by decide +kernel, rfl, by decide +kernel, by decide +kernel⟩
section
variable {P : Program} {w : World} {K : PySem.W.Frag} {mg : Str → Option Value} {base : Heap}
def sp_chg : Sp := fun vs H Q _ => ∃ (h mp bp : Addr) (m : Mn) (x : Str) (r : List V) (c : V) (T : Nat), vs = [.ref h, .ref mp, .ref bp, c] ∧ H mp = some (.tup m.vs) ∧ m.ok ∧ H bp = some (.tup (.str x :: r)) ∧ Wd x ∧ CF H m x c ∧ HandAt T H h ∧ T ≤ 600000 ∧
  ∀ v H', CF H' m x v → Fh h H H' → HandAt (T + 25) H' h → Q v H'
theorem ok_changed (C_take : Cal P w K mg base "_law_take" 1 ["_law_hand_here", "_law_many"] sp_take) (C_content : Cal P w K mg base "_law_content" 5 ["_law_hand_here", "_law_manner", "_law_box"] sp_content)
    (D : Dfn K mg "_law_changed" "_law_changed" s_law_changed) : Cal P w K mg base "_law_changed" 6 ["_law_hand_here", "_law_manner", "_law_box", "_law_content_here"] sp_chg := by
  refine cal_of D sc_law_changed (fun vs H Q E h => ?_) (fun _ _ _ _ _ _ us hl => match us, hl with | [_, _, _, _], _ => rfl) (fun f cdv A outer s H vs Q E hr h => ?_)
  · obtain ⟨h, mp, bp, m, x, r, c, T, rfl, _⟩ := h
    rfl
  · obtain ⟨h, mp, bp, m, x, r, c, T, rfl, hmp, hok, hbp, hx, hc, hh, hT, k⟩ := h
    refine ⟨_, (pss_cons (ps_set (i := 4) sc_law_changed.nd rfl (by first | exact Or.inl rfl | exact Or.inr rfl) (pe_cal C_content (hr.mono (by decide)) (by rfl) (pa_cons (pv 0) (pa_cons (pv 1) (pa_cons (pv 2) pa_nil)))))
 (pss_cons (ps_if (PW.pt (pw_and (pt_cmpR op_eq (pe_ix (ix_tupH (K := K) rfl) (pv 2) pe_int (fun _ _ => rfl)) pe_str (nomark _)) (pw_and (pt_cmpR op_eq (pe_ix (ix_tupH (K := K) rfl) (pv 1) pe_int (fun _ _ => rfl)) pe_str (nomark _)) (pw_and1 (pt_cmpR op_eq (pe_cal C_take (hr.mono (by decide)) (by rfl) (pa_cons (pv 0) (pa_cons pe_int pa_nil))) pe_int (nomark _))))))
 (pss_cons (ps_set (i := 5) sc_law_changed.nd rfl (by first | exact Or.inl rfl | exact Or.inr rfl) (pe_op op_add (pe_ix (ix_tupH (K := K) rfl) (pv 3) pe_int (fun _ _ => rfl)) pe_int))
 (pss_one (ps_ret (pe_tup (pa_cons (pe_ix (ix_tupH (K := K) rfl) (pv 4) pe_int (fun _ _ => rfl)) (pa_cons (pe_ifExp (pt_cmpR op_gt (pe_ix (ix_tupH (K := K) rfl) (pv 1) pe_int (fun _ _ => rfl)) pe_int (nomark _)) (pe_op op_mod (pv 5) (pe_ix (ix_tupH (K := K) rfl) (pv 1) pe_int (fun _ _ => rfl))) (pv 5)) (pa_cons (pe_ix (ix_tupH (K := K) rfl) (pv 4) pe_int (fun _ _ => rfl)) pa_nil)))))))
 pss_nil)
 (pss_cons (ps_if (PW.pt (pw_and (pt_cmpR op_eq (pe_ix (ix_tupH (K := K) rfl) (pv 2) pe_int (fun _ _ => rfl)) pe_str (nomark _)) (pw_and (pt_cmpR op_eq (pe_ix (ix_tupH (K := K) rfl) (pv 1) pe_int (fun _ _ => rfl)) pe_str (nomark _)) (pw_and1 (pt_cmpR op_eq (pe_cal C_take (hr.mono (by decide)) (by rfl) (pa_cons (pv 0) (pa_cons pe_int pa_nil))) pe_int (nomark _))))))
 (pss_one (ps_ret (pe_op op_catA (pe_slice (sl_tupH (K := K) rfl) (pv 4) po_none (po_some pe_int)) (pe_tup (pa_cons (pe_op op_sub pe_int (pe_ix (ix_tupH (K := K) rfl) (pv 3) pe_int (fun _ _ => rfl))) (pa_cons (pe_ix (ix_tupH (K := K) rfl) (pv 4) pe_int (fun _ _ => rfl)) pa_nil))))))
 pss_nil)
 (pss_one (ps_ret (pv 4)))))), ?_⟩
    walk_at "g"
    refine ⟨h, mp, bp, m, x, r, T, rfl, hmp, hok, hbp, hx, hh, by omega, fun v H1 hv f1 hh1 => ?_⟩
    have t1 := hh.tx f1
    have hbp1 := t1 _ _ hbp
    have hmp1 := t1 _ _ hmp
    have hc1 := hc.tx t1
    walk_at "g"
    refine r_ixT hbp1 (v := .str x) (atI_nat (j := 0) rfl) ?_
    walk_at "g"
    refine r_kAnd (fun hb => ?_) fun hb => ?_
    · have hxo : x = "own" := V.str.inj (of_decide_eq_true hb)
      subst hxo
      have hcO := hc1.own rfl
      have hvO := hv.own rfl
      cases m with
      | handed n t w =>
        have hmp2 : H1 mp = some (.tup [.str "handed", .int n, .int t, .int w]) := hmp1
        obtain ⟨oc, pc, vc, sc, rfl, hpc, hsc⟩ := hcO
        obtain ⟨ov, pv, vv, sv, rfl, hpv, hsv⟩ := hvO
        walk_at "g"
        refine r_kAnd (fun _ => ?_) fun z => absurd z (by decide)
        walk_at "g"
        refine ⟨h, 2, _, rfl, by omega, by omega, hh1, by omega, fun d H2 hd f2 hh2 => ?_⟩
        have t2 := hh1.tx f2
        have hmp3 := t2 _ _ hmp2
        have hbp2 := t2 _ _ hbp1
        have hpc2 := t2 _ _ hpc
        have hpv2 := t2 _ _ hpv
        walk_at "g"
        refine r_kIf (fun hz => ?_) fun hz => ?_
        · walk_at "g"
          refine r_kIfE (fun ht => ?_) fun ht => ?_
          · have ht0 : (0 : Int) < (t : Int) := of_decide_eq_true ht
            walk_at "g"
            refine r_I ht0 ?_
            walk_at "g"
            refine r_kTup fun p3 H3 e3 n3 h3 => ?_
            exact k _ H3 (cf_own ⟨⟨_, 0, []⟩, p3, vv, sv, rfl, h3, hsv.tx fun a o ha => e3 _ _ (t2 _ _ ha)⟩) (f1.trans (f2.trans (fh_same e3))) ((hh2.same e3).mono (by omega))
          · walk_at "g"
            refine r_kTup fun p3 H3 e3 n3 h3 => ?_
            exact k _ H3 (cf_own ⟨⟨_, 0, []⟩, p3, vv, sv, rfl, h3, hsv.tx fun a o ha => e3 _ _ (t2 _ _ ha)⟩) (f1.trans (f2.trans (fh_same e3))) ((hh2.same e3).mono (by omega))
        · walk_at "g"
          refine r_ixT hbp2 (v := .str "own") (atI_nat (j := 0) rfl) ?_
          walk_at "g"
          refine r_kAnd (fun _ => ?_) fun z => absurd z (by decide)
          walk_at "g"
          refine r_kAnd (fun z => absurd z (by decide)) fun _ => ?_
          refine r_kIfN rfl ?_
          walk_at "g"
          exact k _ H2 (hv.tx t2) (f1.trans f2) (hh2.mono (by omega))
      | signs n tg sh w =>
        have hmp2 : H1 mp = some (.tup [.str "signs", .int n, .int tg, .int sh, .int w]) := hmp1
        obtain ⟨oc, pc, vc, cc, sc, rfl, hpc, hcc, hcn, hsc⟩ := hcO
        obtain ⟨ov, pv, vv, cv, sv, rfl, hpv, hcv, hvn, hsv⟩ := hvO
        walk_at "g"
        refine r_kAnd (fun z => absurd z (by decide)) fun _ => ?_
        refine r_kIfN rfl ?_
        walk_at "g"
        refine r_ixT hbp1 (v := .str "own") (atI_nat (j := 0) rfl) ?_
        walk_at "g"
        refine r_kAnd (fun _ => ?_) fun z => absurd z (by decide)
        walk_at "g"
        refine r_kAnd (fun _ => ?_) fun z => absurd z (by decide)
        walk_at "g"
        refine ⟨h, 2, _, rfl, by omega, by omega, hh1, by omega, fun d H2 hd f2 hh2 => ?_⟩
        have t2 := hh1.tx f2
        have hmp3 := t2 _ _ hmp2
        have hbp2 := t2 _ _ hbp1
        have hpc2 := t2 _ _ hpc
        have hpv2 := t2 _ _ hpv
        walk_at "g"
        refine r_kIf (fun hz => ?_) fun hz => ?_
        · walk_at "g"
          refine r_slA hpv2 fun p3 H3 e3 h3 => ?_
          walk_at "g"
          refine r_kTup fun p4 H4 e4 n4 h4 => ?_
          have h3b : H3 p3 = some (.tup [vv, .ref cv]) := h3
          refine r_catA (e4 _ _ h3b) h4 fun p5 H5 e5 h5 => ?_
          exact k _ H5 (cf_own ⟨⟨_, 0, _⟩, p5, vv, cv, sv, rfl, h5, e5 _ _ (e4 _ _ (e3 _ _ (t2 _ _ hcv))), hvn, hsv.tx fun a o ha => e5 _ _ (e4 _ _ (e3 _ _ (t2 _ _ ha)))⟩) (f1.trans (f2.trans (fh_same (e3.trans (e4.trans e5))))) ((((hh2.same e3).same e4).same e5).mono (by omega))
        · walk_at "g"
          exact k _ H2 (hv.tx t2) (f1.trans f2) (hh2.mono (by omega))
      | shared n p tg sh w =>
        have hmp2 : H1 mp = some (.tup [.str "shared", .int n, .int p, .int tg, .int sh, .int w]) := hmp1
        walk_at "g"
        refine r_kAnd (fun z => absurd z (by decide)) fun _ => ?_
        refine r_kIfN rfl ?_
        walk_at "g"
        refine r_ixT hbp1 (v := .str "own") (atI_nat (j := 0) rfl) ?_
        walk_at "g"
        refine r_kAnd (fun _ => ?_) fun z => absurd z (by decide)
        walk_at "g"
        refine r_kAnd (fun z => absurd z (by decide)) fun _ => ?_
        refine r_kIfN rfl ?_
        walk_at "g"
        exact k _ H1 hv f1 (hh1.mono (by omega))
    · refine r_kIfN rfl ?_
      walk_at "g"
      refine r_ixT hbp1 (v := .str x) (atI_nat (j := 0) rfl) ?_
      walk_at "g"
      refine r_kAnd (fun hb2 => absurd (hb2.symm.trans hb) (by decide)) fun _ => ?_
      refine r_kIfN rfl ?_
      walk_at "g"
      exact k _ H1 hv f1 (hh1.mono (by omega))
end
end Wg
set_option Elab.async false
set_option linter.all false
set_option maxRecDepth 100000
set_option maxHeartbeats 4000000
namespace Wg
open PySem L2
open PyProof.Rows hiding St
open RZ
abbrev s_law_boxes : Stmt := topS 52
theorem sc_law_boxes : FnScope ["_law_hand_here", "_law_manner", "_law_hands", "_law_names", "_law_i", "_law_k", "_law_j", "_law_box"] ["_law_hand_here", "_law_manner"] (defScope s_law_boxes) := ⟨rfl, rfl, rfl, by decide +kernel, rfl, by decide +kernel, by decide +kernel⟩
/-! ### lists of names -/
def NmL (H : Hp) (xs : List V) (kl : List (List Key)) : Prop := ∃ qs : List Addr, xs = qs.map V.ref ∧ Paired (fun q k => H q = some (.tup (k.map kV))) qs kl
theorem NmL.nil {H : Hp} : NmL H [] [] := ⟨[], rfl, .nil⟩
theorem NmL.tx {H H' : Hp} {xs : List V} {kl : List (List Key)} (x : NmL H xs kl) (e : Tx H H') : NmL H' xs kl := by
  obtain ⟨qs, h1, h2⟩ := x
  exact ⟨qs, h1, h2.mono fun _ _ h => e _ _ h⟩
theorem NmL.snoc {H : Hp} {xs : List V} {kl : List (List Key)} {p : Addr} {k : List Key} (x : NmL H xs kl) (h : H p = some (.tup (k.map kV))) : NmL H (xs ++ [.ref p]) (kl ++ [k]) := by
  obtain ⟨qs, h1, h2⟩ := x
  exact ⟨qs ++ [p], by rw [h1, List.map_append]; rfl, h2.snoc h⟩
theorem paired_app {α β : Type} {F : α → β → Prop} {b : List α} {d : List β} (y : Paired F b d) : ∀ {a : List α} {c : List β}, Paired F a c → Paired F (a ++ b) (c ++ d)
  | _, _, .nil => y
  | _, _, .cons h t => .cons h (paired_app y t)
theorem paired_len {α β : Type} {F : α → β → Prop} : ∀ {a : List α} {c : List β}, Paired F a c → a.length = c.length
  | _, _, .nil => rfl
  | _, _, .cons _ t => by rw [List.length_cons, List.length_cons, paired_len t]
theorem paired_at {α β : Type} {F : α → β → Prop} : ∀ {a : List α} {c : List β} {i : Nat} {x : α}, Paired F a c → a[i]? = some x → ∃ y, c[i]? = some y ∧ F x y
  | _, _, _, _, .nil, e => by simp at e
  | _, _, 0, _, .cons h t, e => by
    simp at e
    subst e
    exact ⟨_, rfl, h⟩
  | _, _, i + 1, _, .cons _ t, e => by
    simp at e
    obtain ⟨y, h1, h2⟩ := paired_at t e
    exact ⟨y, by simpa using h1, h2⟩
theorem NmL.app {H : Hp} {xs ys : List V} {kl jl : List (List Key)} (x : NmL H xs kl) (y : NmL H ys jl) : NmL H (xs ++ ys) (kl ++ jl) := by
  obtain ⟨qs, h1, h2⟩ := x
  obtain ⟨rs, g1, g2⟩ := y
  exact ⟨qs ++ rs, by rw [h1, g1, List.map_append], paired_app g2 h2⟩
theorem NmL.len {H : Hp} {xs : List V} {kl : List (List Key)} (x : NmL H xs kl) : xs.length = kl.length := by
  obtain ⟨qs, h1, h2⟩ := x
  rw [h1, List.length_map, paired_len h2]
theorem NmL.at {H : Hp} {xs : List V} {kl : List (List Key)} {i : Nat} {v : V} (x : NmL H xs kl) (e : xs[i]? = some v) : ∃ q k, v = .ref q ∧ kl[i]? = some k ∧ H q = some (.tup (k.map kV)) := by
  obtain ⟨qs, h1, h2⟩ := x
  rw [h1, List.getElem?_map] at e
  cases eq : qs[i]? with
  | none => rw [eq] at e; cases e
  | some q =>
    rw [eq] at e
    obtain ⟨k, g1, g2⟩ := paired_at h2 eq
    exact ⟨q, k, (Option.some.inj e).symm, g1, g2⟩
/-- the names of all boxes, the calls and signs of the first i hands -/
def nmR (f : Nat → List Key) (i : Nat) : List (List Key) := (List.range i).map f
theorem nmR_succ (f : Nat → List Key) (i : Nat) : nmR f (i + 1) = nmR f i ++ [f i] := by simp [nmR, List.range_succ]
def nm0 (pl n : Nat) : List (List Key) := nmR (kk "box") pl ++ nmR (kk "own") n ++ nmR (kk "view") n
def nmI (pl n : Nat) : Nat → List (List Key)
  | 0 => nm0 pl n
  | i + 1 => nmI pl n i ++ nmR (kk2 "call" i) n ++ nmR (kk2 "sign" i) n
theorem nmI_len (pl n : Nat) : ∀ i, (nmI pl n i).length = pl + 2 * n + i * (2 * n)
  | 0 => by simp [nmI, nm0, nmR]; omega
  | i + 1 => by
    have : (i + 1) * (2 * n) = i * (2 * n) + 2 * n := by rw [Nat.succ_mul]
    simp [nmI, nmR, nmI_len pl n i]
    omega
theorem nmI_mem (pl n : Nat) (ks : List Key) : ∀ i, ks ∈ nmI pl n i ↔ ((∃ k, k < pl ∧ kk "box" k = ks) ∨ (∃ j, j < n ∧ kk "own" j = ks) ∨ (∃ j, j < n ∧ kk "view" j = ks) ∨ (∃ a j, a < i ∧ j < n ∧ (kk2 "call" a j = ks ∨ kk2 "sign" a j = ks)))
  | 0 => by
    simp only [nmI, nm0, nmR, List.mem_append, List.mem_map, List.mem_range]
    constructor
    · rintro ((h | h) | h)
      · exact .inl h
      · exact .inr (.inl h)
      · exact .inr (.inr (.inl h))
    · rintro (h | h | h | ⟨a, j, h, _⟩)
      · exact .inl (.inl h)
      · exact .inl (.inr h)
      · exact .inr h
      · exact absurd h (Nat.not_lt_zero a)
  | i + 1 => by
    simp only [nmI, nmR, List.mem_append, List.mem_map, List.mem_range, nmI_mem pl n ks i]
    constructor
    · rintro (((h | h | h | ⟨a, j, h1, h2⟩) | ⟨j, h1, h2⟩) | ⟨j, h1, h2⟩)
      · exact .inl h
      · exact .inr (.inl h)
      · exact .inr (.inr (.inl h))
      · exact .inr (.inr (.inr ⟨a, j, by omega, h2⟩))
      · exact .inr (.inr (.inr ⟨i, j, by omega, h1, .inl h2⟩))
      · exact .inr (.inr (.inr ⟨i, j, by omega, h1, .inr h2⟩))
    · rintro (h | h | h | ⟨a, j, h1, h2, h3⟩)
      · exact .inl (.inl (.inl h))
      · exact .inl (.inl (.inr (.inl h)))
      · exact .inl (.inl (.inr (.inr (.inl h))))
      · rcases Nat.lt_or_ge a i with z | z
        · exact .inl (.inl (.inr (.inr (.inr ⟨a, j, z, h2, h3⟩))))
        · have ea : a = i := by omega
          subst ea
          rcases h3 with h3 | h3
          · exact .inl (.inr ⟨j, h2, h3⟩)
          · exact .inr ⟨j, h2, h3⟩
theorem nm_need {m : Mn} {ks : List Key} (h : Need m ks) : ks ∈ nmI m.pl m.n m.n := by
  rw [nmI_mem]
  rcases h with ⟨k, h1, rfl⟩ | ⟨j, h1, rfl⟩ | ⟨j, h1, rfl⟩ | ⟨i, j, h1, h2, rfl⟩ | ⟨i, j, h1, h2, rfl⟩
  · exact .inl ⟨k, h1, rfl⟩
  · exact .inr (.inl ⟨j, h1, rfl⟩)
  · exact .inr (.inr (.inl ⟨j, h1, rfl⟩))
  · exact .inr (.inr (.inr ⟨i, j, h1, h2, .inl rfl⟩))
  · exact .inr (.inr (.inr ⟨i, j, h1, h2, .inr rfl⟩))
theorem nm_wd {pl n i : Nat} {ks : List Key} (h : ks ∈ nmI pl n i) : ∃ x r, ks = .inr x :: r ∧ Wd x := by
  rw [nmI_mem] at h
  rcases h with ⟨k, _, rfl⟩ | ⟨j, _, rfl⟩ | ⟨j, _, rfl⟩ | ⟨i, j, _, _, rfl | rfl⟩
  · exact ⟨_, _, rfl, .inr (.inl rfl)⟩
  · exact ⟨_, _, rfl, .inl rfl⟩
  · exact ⟨_, _, rfl, .inr (.inr (.inl rfl))⟩
  · exact ⟨_, _, rfl, .inr (.inr (.inr (.inl rfl)))⟩
  · exact ⟨_, _, rfl, .inr (.inr (.inr (.inr rfl)))⟩
/-! ### tables of pairs -/
theorem mergeT_from : ∀ (more kvs : List (List Key × V)) (k : List Key) (v : V), valV (mergeT kvs more) k = some v → (k, v) ∈ more ∨ valV kvs k = some v
  | [], kvs, k, v, h => .inr h
  | p :: r, kvs, k, v, h => by
    rcases mergeT_from r (putK kvs p.1 p.2) k v h with z | z
    · exact .inl (.tail _ z)
    · rw [valV_put] at z
      by_cases e : k = p.1
      · rw [if_pos e] at z
        have : p = (k, v) := by rw [e, ← Option.some.inj z]
        exact .inl (this ▸ .head _)
      · rw [if_neg e] at z
        exact .inr z
theorem mergeT_keep : ∀ (more kvs : List (List Key × V)) (k : List Key), (valV kvs k).isSome = true → (valV (mergeT kvs more) k).isSome = true
  | [], kvs, k, h => h
  | p :: r, kvs, k, h => mergeT_keep r (putK kvs p.1 p.2) k (by
    rw [valV_put]
    by_cases e : k = p.1
    · rw [if_pos e]; rfl
    · rw [if_neg e]; exact h)
theorem mergeT_has : ∀ (more kvs : List (List Key × V)) (k : List Key), k ∈ more.map (·.1) → (valV (mergeT kvs more) k).isSome = true
  | [], kvs, k, h => by simp at h
  | p :: r, kvs, k, h => by
    rw [List.map_cons, List.mem_cons] at h
    rcases h with e | h
    · refine mergeT_keep r (putK kvs p.1 p.2) k ?_
      rw [valV_put, if_pos e]
      rfl
    · exact mergeT_has r (putK kvs p.1 p.2) k h
def PrL (H : Hp) (m : Mn) (ys : List V) (kl : List (List Key)) : Prop := ∃ (ps : List (Addr × Addr)) (kvs : List (List Key × V)), ys = ps.map (fun p => V.ref p.1) ∧
  Paired (fun p kv => H p.1 = some (.tup [.ref p.2, kv.2]) ∧ H p.2 = some (.tup (kv.1.map kV))) ps kvs ∧ kvs.map (·.1) = kl ∧ ∀ kv ∈ kvs, CF H m (keyW kv.1) kv.2
theorem PrL.nil {H : Hp} {m : Mn} : PrL H m [] [] := ⟨[], [], rfl, .nil, rfl, fun _ h => by simp at h⟩
theorem PrL.tx {H H' : Hp} {m : Mn} {ys : List V} {kl : List (List Key)} (x : PrL H m ys kl) (e : Tx H H') : PrL H' m ys kl := by
  obtain ⟨ps, kvs, h1, h2, h3, h4⟩ := x
  exact ⟨ps, kvs, h1, h2.mono fun _ _ h => ⟨e _ _ h.1, e _ _ h.2⟩, h3, fun kv hk => (h4 kv hk).tx e⟩
theorem PrL.snoc {H : Hp} {m : Mn} {ys : List V} {kl : List (List Key)} {p q : Addr} {k : List Key} {v : V} (x : PrL H m ys kl) (h1 : H p = some (.tup [.ref q, v])) (h2 : H q = some (.tup (k.map kV))) (h3 : CF H m (keyW k) v) : PrL H m (ys ++ [.ref p]) (kl ++ [k]) := by
  obtain ⟨ps, kvs, g1, g2, g3, g4⟩ := x
  refine ⟨ps ++ [(p, q)], kvs ++ [(k, v)], by rw [g1, List.map_append]; rfl, g2.snoc ⟨h1, h2⟩, by rw [List.map_append, g3]; rfl, fun kv hk => ?_⟩
  rcases List.mem_append.mp hk with z | z
  · exact g4 kv z
  · rw [List.mem_singleton] at z
    subst z
    exact h3
/-- the boxes' table -/
def BoxesAt (H : Hp) (d : Addr) (m : Mn) : Prop := ∃ kvs, H d = some (.dT kvs) ∧ kvs.length ≤ 100 ∧ (∀ ks v, valV kvs ks = some v → CF H m (keyW ks) v) ∧ ∀ ks, Need m ks → (valV kvs ks).isSome = true
theorem boxes_of {H : Hp} {m : Mn} {kvs : List (List Key × V)} {p : Addr} (hp : H p = none) (h3 : kvs.map (·.1) = nmI m.pl m.n m.n) (hl : kvs.length ≤ 100) (h4 : ∀ kv ∈ kvs, CF H m (keyW kv.1) kv.2) : BoxesAt (upd H p (.dT (mergeT [] kvs))) p m := by
  refine ⟨_, upd_same, ?_, fun ks v hv => ?_, fun ks hk => ?_⟩
  · have := len_mergeT kvs []
    rw [List.length_nil] at this
    omega
  · rcases mergeT_from _ _ _ _ hv with z | z
    · exact (h4 _ z).tx (tx_same (same_new hp))
    · cases z
  · refine mergeT_has _ _ _ ?_
    rw [h3]
    exact nm_need hk
section
variable {P : Program} {w : World} {K : PySem.W.Frag} {mg : Str → Option Value} {base : Heap}
def sp_boxes : Sp := fun vs H Q _ => ∃ (h mp : Addr) (m : Mn) (T : Nat), vs = [.ref h, .ref mp] ∧ H mp = some (.tup m.vs) ∧ m.ok ∧ HandAt T H h ∧ T ≤ 500000 ∧
  ∀ d H', BoxesAt H' d m → Fh h H H' → HandAt (T + 2400) H' h → H d = none → Q (.ref d) H'
theorem ok_boxes (B : Blt mg) (C_places : Cal P w K mg base "_law_places" 1 ["_law_manner"] sp_places) (C_content : Cal P w K mg base "_law_content" 5 ["_law_hand_here", "_law_manner", "_law_box"] sp_content)
    (D : Dfn K mg "_law_boxes" "_law_boxes" s_law_boxes) : Cal P w K mg base "_law_boxes" 6 ["_law_hand_here", "_law_manner"] sp_boxes := by
  refine cal_of D sc_law_boxes (fun vs H Q E h => ?_) (fun _ _ _ _ _ _ us hl => match us, hl with | [_, _], _ => rfl) (fun f cdv A outer s H vs Q E hr h => ?_)
  · obtain ⟨h, mp, m, T, rfl, _⟩ := h
    rfl
  · obtain ⟨h, mp, m, T, rfl, hmp, hok, hh, hT, k⟩ := h
    obtain ⟨mw, mr, hvs, hw1, hw2⟩ := vs0 m
    have hmp' : H mp = some (.tup (.str mw :: .int m.n :: mr)) := by rw [← hvs]; exact hmp
    obtain ⟨hn0, hn5⟩ := hok.n5
    have hpl := hok.pl5
    refine ⟨_, (pss_cons (ps_set (i := 2) sc_law_boxes.nd rfl (by first | exact Or.inl rfl | exact Or.inr rfl) (pe_ix (ix_tupH (K := K) rfl) (pv 1) pe_int (fun _ _ => rfl)))
 (pss_cons (ps_set (i := 3) sc_law_boxes.nd rfl (by first | exact Or.inl rfl | exact Or.inr rfl) (pe_op op_cat (pe_lc (own := [("_law_k", 5)]) (g := gName 5) (tt := tYes) (by rfl) sc_law_boxes.nd (pi_range1 (by rfl) B.range (pa_cons (pe_cal C_places (hr.mono (by decide)) (by rfl) (pa_cons (pv 1) pa_nil)) pa_nil)) (blkOk_by (own := [("_law_k", 5)]) (N := ["_law_hand_here", "_law_manner", "_law_hands", "_law_names", "_law_i", "_law_k", "_law_j", "_law_box"]) (sc := defScope s_law_boxes) (by decide +kernel)) (fun _ _ _ _ _ => pg_name (i := 5) sc_law_boxes.nd rfl (Or.inl rfl)) (fun _ _ _ _ _ => pts_nil) (fun _ _ _ _ _ => (pe_tup (pa_cons pe_str (pa_cons (pv 5) pa_nil))))) (pe_lc (own := [("_law_j", 6)]) (g := gName 6) (tt := tYes) (by rfl) sc_law_boxes.nd (pi_range1 (by rfl) B.range (pa_cons (pv 2) pa_nil)) (blkOk_by (own := [("_law_j", 6)]) (N := ["_law_hand_here", "_law_manner", "_law_hands", "_law_names", "_law_i", "_law_k", "_law_j", "_law_box"]) (sc := defScope s_law_boxes) (by decide +kernel)) (fun _ _ _ _ _ => pg_name (i := 6) sc_law_boxes.nd rfl (Or.inl rfl)) (fun _ _ _ _ _ => pts_nil) (fun _ _ _ _ _ => (pe_tup (pa_cons pe_str (pa_cons (pv 6) pa_nil)))))))
 (pss_cons (ps_set (i := 3) sc_law_boxes.nd rfl (by first | exact Or.inl rfl | exact Or.inr rfl) (pe_op op_cat (pv 3) (pe_lc (own := [("_law_j", 6)]) (g := gName 6) (tt := tYes) (by rfl) sc_law_boxes.nd (pi_range1 (by rfl) B.range (pa_cons (pv 2) pa_nil)) (blkOk_by (own := [("_law_j", 6)]) (N := ["_law_hand_here", "_law_manner", "_law_hands", "_law_names", "_law_i", "_law_k", "_law_j", "_law_box"]) (sc := defScope s_law_boxes) (by decide +kernel)) (fun _ _ _ _ _ => pg_name (i := 6) sc_law_boxes.nd rfl (Or.inl rfl)) (fun _ _ _ _ _ => pts_nil) (fun _ _ _ _ _ => (pe_tup (pa_cons pe_str (pa_cons (pv 6) pa_nil)))))))
 (pss_cons (ps_for PassesOwn.never rfl (pi_range1 (by rfl) B.range (pa_cons (pv 2) pa_nil)) (pg_name (i := 4) sc_law_boxes.nd rfl (by first | exact Or.inl rfl | exact Or.inr rfl))
 (pss_one (ps_set (i := 3) sc_law_boxes.nd rfl (by first | exact Or.inl rfl | exact Or.inr rfl) (pe_op op_cat (pe_op op_cat (pv 3) (pe_lc (own := [("_law_j", 6)]) (g := gName 6) (tt := tYes) (by rfl) sc_law_boxes.nd (pi_range1 (by rfl) B.range (pa_cons (pv 2) pa_nil)) (blkOk_by (own := [("_law_j", 6)]) (N := ["_law_hand_here", "_law_manner", "_law_hands", "_law_names", "_law_i", "_law_k", "_law_j", "_law_box"]) (sc := defScope s_law_boxes) (by decide +kernel)) (fun _ _ _ _ _ => pg_name (i := 6) sc_law_boxes.nd rfl (Or.inl rfl)) (fun _ _ _ _ _ => pts_nil) (fun _ _ _ _ _ => (pe_tup (pa_cons pe_str (pa_cons (pv 4) (pa_cons (pv 6) pa_nil))))))) (pe_lc (own := [("_law_j", 6)]) (g := gName 6) (tt := tYes) (by rfl) sc_law_boxes.nd (pi_range1 (by rfl) B.range (pa_cons (pv 2) pa_nil)) (blkOk_by (own := [("_law_j", 6)]) (N := ["_law_hand_here", "_law_manner", "_law_hands", "_law_names", "_law_i", "_law_k", "_law_j", "_law_box"]) (sc := defScope s_law_boxes) (by decide +kernel)) (fun _ _ _ _ _ => pg_name (i := 6) sc_law_boxes.nd rfl (Or.inl rfl)) (fun _ _ _ _ _ => pts_nil) (fun _ _ _ _ _ => (pe_tup (pa_cons pe_str (pa_cons (pv 4) (pa_cons (pv 6) pa_nil))))))))))
 (pss_one (ps_ret (pe_callTy (call_dictT rfl hr.units) (by rfl) B.dict boot_dict (pa_cons (pe_lc (own := [("_law_box", 7)]) (g := gName 7) (tt := tYes) (by rfl) sc_law_boxes.nd (pi_list (pv 3)) (blkOk_by (own := [("_law_box", 7)]) (N := ["_law_hand_here", "_law_manner", "_law_hands", "_law_names", "_law_i", "_law_k", "_law_j", "_law_box"]) (sc := defScope s_law_boxes) (by decide +kernel)) (fun _ _ _ _ _ => pg_name (i := 7) sc_law_boxes.nd rfl (Or.inl rfl)) (fun _ _ _ _ _ => pts_nil) (fun _ _ _ _ _ => (pe_tup (pa_cons (pv 7) (pa_cons (pe_cal C_content (hr.mono (by decide)) (by rfl) (pa_cons (pv 0) (pa_cons (pv 1) (pa_cons (pv 7) pa_nil)))) pa_nil))))) pa_nil)))))))), ?_⟩
    walk_at "g"
    refine r_ixT hmp' (v := .int m.n) (atI_nat (j := 1) rfl) ?_
    walk_at "g"
    refine ⟨mp, m, rfl, hmp, ?_⟩
    walk_at "g"
    refine r_kRng1 ?_
    refine r_kLcP wk_range (fun i ys H' => NmL H' ys (nmR (kk "box") i)) (by omega) (fun _ => rfl) (fun _ _ => trivial) NmL.nil (fun _ _ _ _ e h => h.tx e) (fun i ys x H1 hi e1 hA hx F F0 g1 g0 => ?_) fun D1 ys1 G1 n1 e1 hD1 hA1 => ?_
    · subst hx
      walk_at "g"
      refine r_kEl (fun _ => ?_) fun z => nomatch z
      walk_at "g"
      refine r_kTup fun p2 H2 e2 n2 h2 => ?_
      exact g1 _ _ e2 (by rw [nmR_succ]; exact (hA.tx (tx_same e2)).snoc h2)
    have L1 : ys1.length = m.pl := by rw [hA1.len]; simp [nmR]
    walk_at "g"
    refine r_kRng1 ?_
    refine r_kLcP wk_range (fun i ys H' => NmL H' ys (nmR (kk "own") i)) (by omega) (fun _ => rfl) (fun _ _ => trivial) NmL.nil (fun _ _ _ _ e h => h.tx e) (fun i ys x H1 hi e1 hA hx F F0 g1 g0 => ?_) fun D2 ys2 G2 n2 e2 hD2 hA2 => ?_
    · subst hx
      walk_at "g"
      refine r_kEl (fun _ => ?_) fun z => nomatch z
      walk_at "g"
      refine r_kTup fun p2 H2 e2 n2 h2 => ?_
      exact g1 _ _ e2 (by rw [nmR_succ]; exact (hA.tx (tx_same e2)).snoc h2)
    have L2 : ys2.length = m.n := by rw [hA2.len]; simp [nmR]
    refine r_cat (e2 _ _ hD1) hD2 (fun p3 G3 e3 n3 h3 => ?_) (by omega)
    have N3 := ((hA1.tx (tx_same e2)).tx (tx_same e3)).app (hA2.tx (tx_same e3))
    walk_at "g"
    refine r_kRng1 ?_
    refine r_kLcP wk_range (fun i ys H' => NmL H' ys (nmR (kk "view") i)) (by omega) (fun _ => rfl) (fun _ _ => trivial) NmL.nil (fun _ _ _ _ e h => h.tx e) (fun i ys x H1 hi e1 hA hx F F0 g1 g0 => ?_) fun D4 ys4 G4 n4 e4 hD4 hA4 => ?_
    · subst hx
      walk_at "g"
      refine r_kEl (fun _ => ?_) fun z => nomatch z
      walk_at "g"
      refine r_kTup fun p2 H2 e2 n2 h2 => ?_
      exact g1 _ _ e2 (by rw [nmR_succ]; exact (hA.tx (tx_same e2)).snoc h2)
    have L4 : ys4.length = m.n := by rw [hA4.len]; simp [nmR]
    refine r_cat (e4 _ _ h3) hD4 (fun p5 G5 e5 n5 h5 => ?_) (by rw [List.length_append]; omega)
    have N5 : NmL G5 (ys1 ++ ys2 ++ ys4) (nmI m.pl m.n 0) := ((N3.tx (tx_same e4)).tx (tx_same e5)).app (hA4.tx (tx_same e5))
    have E5 : Same H G5 := e1.trans (e2.trans (e3.trans (e4.trans e5)))
    have f5 : h ≠ p5 := hh.ne (free_back (e1.trans (e2.trans (e3.trans e4))) n5)
    walk_at "g"
    refine r_kRng1 ?_
    refine r_kFor wk_range (fun i σ' H' => ∃ (a : Addr) (xs : List V) (o4 : Option V), σ' = [some (.ref h), some (.ref mp), some (.int m.n), some (.ref a), o4, none, none, none] ∧ Same H H' ∧ h ≠ a ∧ H' a = some (.lst xs) ∧ NmL H' xs (nmI m.pl m.n i))
      ⟨p5, _, none, rfl, E5, f5, h5, N5⟩ (fun _ _ _ _ _ => trivial) (fun i x σ' H1 H2 hi hP hY => ?_) (fun σ' H1 hP => ?_)
    · obtain ⟨a, xs, o4, rfl, E1, fa, ha, Na⟩ := hP
      obtain ⟨rfl, rfl⟩ := hY
      have La : xs.length ≤ 15 + 10 * i := by
        rw [Na.len, nmI_len]
        have : i * (2 * m.n) ≤ i * 10 := Nat.mul_le_mul_left i (by omega)
        omega
      walk_at "g"
      refine r_kRng1 ?_
      refine r_kLcP wk_range (fun j ys H' => NmL H' ys (nmR (kk2 "call" i) j)) (by omega) (fun _ => rfl) (fun _ _ => trivial) NmL.nil (fun _ _ _ _ e h => h.tx e) (fun j ys x H1 hj e1 hA hx F F0 g1 g0 => ?_) fun D6 ys6 G6 n6 e6 hD6 hA6 => ?_
      · subst hx
        walk_at "g"
        refine r_kEl (fun _ => ?_) fun z => nomatch z
        walk_at "g"
        refine r_kTup fun p2 H2 e2 n2 h2 => ?_
        exact g1 _ _ e2 (by rw [nmR_succ]; exact (hA.tx (tx_same e2)).snoc h2)
      have L6 : ys6.length = m.n := by rw [hA6.len]; simp [nmR]
      refine r_cat (e6 _ _ ha) hD6 (fun p7 G7 e7 n7 h7 => ?_) (by omega)
      have N7 := ((Na.tx (tx_same e6)).tx (tx_same e7)).app (hA6.tx (tx_same e7))
      walk_at "g"
      refine r_kRng1 ?_
      refine r_kLcP wk_range (fun j ys H' => NmL H' ys (nmR (kk2 "sign" i) j)) (by omega) (fun _ => rfl) (fun _ _ => trivial) NmL.nil (fun _ _ _ _ e h => h.tx e) (fun j ys x H1 hj e1 hA hx F F0 g1 g0 => ?_) fun D8 ys8 G8 n8 e8 hD8 hA8 => ?_
      · subst hx
        walk_at "g"
        refine r_kEl (fun _ => ?_) fun z => nomatch z
        walk_at "g"
        refine r_kTup fun p2 H2 e2 n2 h2 => ?_
        exact g1 _ _ e2 (by rw [nmR_succ]; exact (hA.tx (tx_same e2)).snoc h2)
      have L8 : ys8.length = m.n := by rw [hA8.len]; simp [nmR]
      refine r_cat (e8 _ _ h7) hD8 (fun p9 G9 e9 n9 h9 => ?_) (by rw [List.length_append]; omega)
      have N9 := ((N7.tx (tx_same e8)).tx (tx_same e9)).app (hA8.tx (tx_same e9))
      have E9 := e6.trans (e7.trans (e8.trans e9))
      walk_at "g"
      exact ⟨p9, _, _, rfl, E1.trans E9, hh.ne (free_back (E1.trans (e6.trans (e7.trans e8))) n9), h9, N9⟩
    · obtain ⟨a, xs, o4, rfl, E1, fa, ha, Na⟩ := hP
      have La : xs.length ≤ 65 := by
        rw [Na.len, nmI_len]
        have : m.n * (2 * m.n) ≤ 5 * (2 * m.n) := Nat.mul_le_mul_right _ (by omega)
        omega
      have hh1 := hh.same E1
      walk_at "g"
      obtain ⟨a0, b0, t0, hl0, _⟩ := id hh1
      refine r_kLcH (h := h) (hx0 := [.int a0, .int b0, .int t0]) (wk_list (xs := xs)) (fun i ys H' => PrL H' m ys ((nmI m.pl m.n m.n).take i) ∧ HandAt (T + 24 * i) H' h) (by omega) hl0 (fun _ => rfl) (fun H' f' => SqL.of (f' _ _ fa.symm ha)) ⟨PrL.nil, hh1⟩
        (fun i xs D H1 ys zs hy nD hA => ⟨hA.1.tx (tx_lst hy), hA.2.at (upd_ne nD.symm)⟩) (fun D hD => ⟨PrL.nil, hh1.at (upd_ne (hh1.ne hD))⟩)
        (fun i ys x H2 hi f2 hA hx F F0 g1 g0 => ?_) fun D ys H2 nn nD f2 hD hA => ?_
      · obtain ⟨hP2, hh2⟩ := hA
        have t2 := hh1.tx f2
        obtain ⟨q, ks, rfl, hk, hq⟩ := (Na.tx t2).at hx
        obtain ⟨x, r, rfl, hwd⟩ := nm_wd (List.mem_of_getElem? hk)
        walk_at "g"
        refine r_kEl (fun _ => ?_) fun z => nomatch z
        walk_at "g"
        refine ⟨h, mp, q, m, x, _, _, rfl, t2 _ _ (E1 _ _ hmp), hok, hq, hwd, hh2, by omega, fun v H3 hv f3 hh3 => ?_⟩
        have t3 := hh2.tx f3
        walk_at "g"
        refine r_kTup fun p4 H4 e4 n4 h4 => ?_
        refine g1 _ _ (f3.trans (fh_same e4)) ⟨?_, (hh3.same e4).mono (by omega)⟩
        rw [List.take_succ, hk]
        exact ((hP2.tx t3).tx (tx_same e4)).snoc h4 (e4 _ _ (t3 _ _ hq)) (hv.tx (tx_same e4))
      · obtain ⟨⟨ps, kvs, w1, w2, w3, w4⟩, hh2⟩ := hA
        subst w1
        have w5 : kvs.map (·.1) = nmI m.pl m.n m.n := by
          rw [w3]
          exact List.take_of_length_le (by rw [← Na.len]; exact Nat.le_refl _)
        walk_at "g"
        refine ⟨D, ps, kvs, rfl, hD, w2, fun p hp => ?_⟩
        have lk : kvs.length ≤ 100 := by
          have := congrArg List.length w5
          rw [List.length_map, ← Na.len] at this
          omega
        have np : H p = none := by
          cases hq : H p with
          | none => rfl
          | some o =>
            have := f2 _ _ (fun z => ?_) (E1 _ _ hq)
            · rw [hp] at this; cases this
            · subst z
              obtain ⟨a1, b1, t1, hl1, _⟩ := hh2
              rw [hp] at hl1; cases hl1
        have e3 : Same H2 (upd H2 p (.dT (mergeT [] kvs))) := same_new hp
        exact k p _ (boxes_of hp w5 lk w4) ((fh_same E1).trans (f2.trans (fh_same e3))) ((hh2.same e3).mono (by omega)) np
end
end Wg
set_option Elab.async false
set_option linter.all false
set_option maxRecDepth 100000
set_option maxHeartbeats 4000000
namespace Wg
open PySem L2
open PyProof.Rows hiding St
open RZ
abbrev s_law_hand : Stmt := topS 44
theorem sc_law_hand : FnScope ["_law_script", "_law_k", "_law_cell"] ["_law_script", "_law_k"] (defScope s_law_hand) := ⟨rfl, rfl, rfl, by decide +kernel, rfl, by decide +kernel, by decide +kernel⟩
section
variable {P : Program} {w : World} {K : PySem.W.Frag} {mg : Str → Option Value} {base : Heap}
def sp_hand : Sp := fun vs H Q _ => ∃ (a : Addr) (ns : List Int) (k : Nat), vs = [.ref a, .int k] ∧ SqL K H a (ns.map V.int) ∧ ns.length ≤ 63 ∧ k ≤ 20 ∧
  ∀ p H', Same H H' → H p = none → HandAt 0 H' p → Q (.ref p) H'
theorem ok_hand (B : Blt mg) (D : Dfn K mg "_law_hand" "_law_hand" s_law_hand) : Cal P w K mg base "_law_hand" 1 ["_law_script", "_law_k"] (sp_hand (K := K)) := by
  refine cal_of D sc_law_hand (fun vs H Q E h => ?_) (fun _ _ _ _ _ _ us hl => match us, hl with | [_, _], _ => rfl) (fun f cdv A outer s H vs Q E hr h => ?_)
  · obtain ⟨a, ns, k, rfl, _⟩ := h
    rfl
  · obtain ⟨a, ns, j, rfl, hq, hl, hj, k⟩ := h
    refine ⟨_, (pss_cons (ps_set (i := 2) sc_law_hand.nd rfl (by first | exact Or.inl rfl | exact Or.inr rfl) pe_int)
 (pss_cons (ps_if (pt_cmpR op_lt (pv 1) (pe_callB (cr_lenH (K := K) rfl) (by rfl) B.len boot_len (pa_cons (pv 0) pa_nil)) (nomark _))
 (pss_one (ps_set (i := 2) sc_law_hand.nd rfl (by first | exact Or.inl rfl | exact Or.inr rfl) (pe_ix (ix_listH (K := K) rfl) (pv 0) (pv 1) (fun _ _ => rfl))))
 pss_nil)
 (pss_one (ps_ret (pe_lst (pa_cons (pe_op op_mul (pv 2) (pe_callTy cr_intB (by rfl) B.int boot_int (pa_cons (pe_cmpR op_ge (pv 2) (pe_op op_pow pe_int pe_int) (nomark _)) pa_nil))) (pa_cons (pe_op op_add (pe_op op_add (pe_op op_mod (pv 2) pe_int) (pe_op op_mul pe_int (pv 1))) pe_int) (pa_cons pe_int pa_nil)))))))), ?_⟩
    walk_at "g"
    refine ⟨a, ns.map V.int, rfl, .inl hq, ?_⟩
    rw [List.length_map]
    walk_at "g"
    have hbm : ∀ (c : Int) (b : Bool), CMul c (if b = true then 1 else 0) := fun c b => .inr (by cases b <;> decide)
    have m0 : ∀ c : Int, 0 ≤ c % 2305843009213693951 := fun c => Int.emod_nonneg c (by decide)
    have m1 : ∀ c : Int, c % 2305843009213693951 < 2305843009213693951 := fun c => Int.emod_lt_of_pos c (by decide)
    refine r_kIf (fun hb => ?_) fun hb => ?_
    · have hj2 : j < ns.length := by
        have := of_decide_eq_true hb
        omega
      walk_at "g"
      refine ⟨a, ns.map V.int, (j : Int), .int ns[j], rfl, rfl, hq, ?_, ?_⟩
      · refine atI_nat ?_
        rw [List.getElem?_map, List.getElem?_eq_getElem hj2]
        rfl
      · walk_at "g"
        have g0 := m0 ns[j]
        have g1 := m1 ns[j]
        refine r_I (hbm _ _) ?_
        walk_at "g"
        refine r_kLst fun p H1 e1 n1 h1 => ?_
        exact k p H1 e1 n1 ⟨_, _, 0, h1, by omega, by omega, by omega, by omega⟩
    · walk_at "g"
      have g0 := m0 0
      have g1 := m1 0
      refine r_kLst fun p H1 e1 n1 h1 => ?_
      exact k p H1 e1 n1 ⟨_, _, 0, h1, by omega, by omega, by omega, by omega⟩
end
end Wg
set_option Elab.async false
set_option linter.all false
set_option maxRecDepth 100000
set_option maxHeartbeats 4000000
namespace Wg
open PySem L2
open PyProof.Rows hiding St
open RZ
abbrev s_law : Stmt := topS 56
theorem sc_law : FnScope ["_law_script", "_law_n", "_law_hand_here", "_law_manner", "_law_own", "_law_places_here", "_law_ahead_here", "_law_boxes_here", "_law_often", "_law_reads", "_law_told", "_law_step", "_law_found", "_law_box"] ["_law_script"] (defScope s_law) := ⟨rfl, rfl, rfl, by decide +kernel, rfl, by decide +kernel, by decide +kernel⟩
theorem u65 {A : Around} {j : Nat} (hr : Room j A) : A.units + 65 < cLine := by have := hr.un; omega
/-! ### the loop of steps: what stays -/
structure LpB (H0 H : Hp) (h d mp : Addr) (m : Mn) (own : Nat) (c0 : V) (T : Nat) : Prop where
  sm : Same H0 H
  h0 : H0 h = none
  d0 : H0 d = none
  hd : HandAt T H h
  bx : ∃ kvs, H d = some (.dT kvs) ∧ kvs.length ≤ 100 ∧ (∀ ks v, valV kvs ks = some v → CF H m (keyW ks) v) ∧ (∀ ks, Need m ks → (valV kvs ks).isSome = true) ∧ valV kvs (kk "own" own) = some c0
  mp : H mp = some (.tup m.vs)
theorem LpB.mono {H0 H : Hp} {h d mp : Addr} {m : Mn} {own : Nat} {c0 : V} {T U : Nat} (x : LpB H0 H h d mp m own c0 T) (l : T ≤ U) : LpB H0 H h d mp m own c0 U := ⟨x.sm, x.h0, x.d0, x.hd.mono l, x.bx, x.mp⟩
theorem LpB.same {H0 H H' : Hp} {h d mp : Addr} {m : Mn} {own : Nat} {c0 : V} {T : Nat} (x : LpB H0 H h d mp m own c0 T) (e : Same H H') : LpB H0 H' h d mp m own c0 T := by
  obtain ⟨kvs, h1, h2, h3, h4, h5⟩ := x.bx
  exact ⟨x.sm.trans e, x.h0, x.d0, x.hd.same e, ⟨kvs, e _ _ h1, h2, fun ks v hv => (h3 ks v hv).tx (tx_same e), h4, h5⟩, e _ _ x.mp⟩
theorem LpB.ne {H0 H : Hp} {h d mp : Addr} {m : Mn} {own : Nat} {c0 : V} {T : Nat} (x : LpB H0 H h d mp m own c0 T) : d ≠ h := by
  obtain ⟨kvs, h1, _⟩ := x.bx
  obtain ⟨a, b, t, h2, _⟩ := x.hd
  exact ne_of h1 h2 fun z => nomatch z
theorem LpB.fh {H0 H H' : Hp} {h d mp : Addr} {m : Mn} {own : Nat} {c0 : V} {T U : Nat} (x : LpB H0 H h d mp m own c0 T) (f : Fh h H H') (y : HandAt U H' h) : LpB H0 H' h d mp m own c0 U := by
  obtain ⟨kvs, h1, h2, h3, h4, h5⟩ := x.bx
  have t := x.hd.tx f
  exact ⟨fun b o e => f b o (ne_of_none e x.h0) (x.sm b o e), x.h0, x.d0, y, ⟨kvs, f _ _ x.ne h1, h2, fun ks v hv => (h3 ks v hv).tx t, h4, h5⟩, t _ _ x.mp⟩
theorem LpB.get {H0 H : Hp} {h d mp : Addr} {m : Mn} {own : Nat} {c0 : V} {T : Nat} (x : LpB H0 H h d mp m own c0 T) {ks : List Key} (hk : Need m ks) :
    ∃ kvs v, H d = some (.dT kvs) ∧ valV kvs ks = some v ∧ CF H m (keyW ks) v ∧ (ks = kk "own" own → v = c0) := by
  obtain ⟨kvs, h1, h2, h3, h4, h5⟩ := x.bx
  obtain ⟨v, hv⟩ := Option.isSome_iff_exists.mp (h4 ks hk)
  refine ⟨kvs, v, h1, hv, h3 ks v hv, fun z => ?_⟩
  subst z
  rw [hv] at h5
  exact Option.some.inj h5
theorem putK_len {kvs : List (List Key × V)} {k : List Key} {v : V} (h : (valV kvs k).isSome = true) : (putK kvs k v).length = kvs.length := by
  unfold putK
  rw [valV_any, if_pos h, List.length_map]
theorem LpB.put {H0 H : Hp} {h d mp : Addr} {m : Mn} {own : Nat} {c0 : V} {T : Nat} (x : LpB H0 H h d mp m own c0 T) {ks : List Key} {v : V} (hk : Need m ks) (hne : ks ≠ kk "own" own) (hv : CF H m (keyW ks) v) :
    ∃ kvs, H d = some (.dT kvs) ∧ kvs.length ≤ 100 ∧ LpB H0 (upd H d (.dT (putK kvs ks v))) h d mp m own c0 T ∧ Tx H (upd H d (.dT (putK kvs ks v))) := by
  obtain ⟨kvs, h1, h2, h3, h4, h5⟩ := x.bx
  have t : Tx H (upd H d (.dT (putK kvs ks v))) := fun a xs e => by
    rw [upd_ne (ne_of e h1 (fun z => nomatch z))]
    exact e
  refine ⟨kvs, h1, h2, ⟨same_mut x.sm x.d0, x.h0, x.d0, x.hd.at (upd_ne x.ne.symm), ⟨_, upd_same, by rw [putK_len (h4 ks hk)]; exact h2, fun j u hu => ?_, fun j hj => ?_, ?_⟩, t _ _ x.mp⟩, t⟩
  · rw [valV_put] at hu
    by_cases e : j = ks
    · rw [if_pos e] at hu
      rw [e, ← Option.some.inj hu]
      exact hv.tx t
    · rw [if_neg e] at hu
      exact (h3 j u hu).tx t
  · rw [valV_put]
    by_cases e : j = ks
    · rw [if_pos e]; rfl
    · rw [if_neg e]
      exact h4 j hj
  · rw [valV_put, if_neg hne.symm]
    exact h5
/-! ### dict statements -/
section
variable {K : PySem.W.Frag} {σ : L2.St} {H : Hp} {Q : VK} {td ty tv : TE} {D : Ends}
def kDPut (D : Ends) (σ : L2.St) (v x : V) : VK := fun y H3 => ∃ a H4, x = .ref a ∧ DPut H3 a y v H4 ∧ D.nx σ H4
def kDP2 (ty : TE) (D : Ends) (σ : L2.St) (v : V) : VK := fun x H2 => ty σ H2 (kDPut D σ v x)
def kDP1 (td ty : TE) (D : Ends) (σ : L2.St) : VK := fun v H1 => td σ H1 (kDP2 ty D σ v)
theorem r_dput (k : tv σ H (kDP1 td ty D σ)) : sDPut td ty tv D σ H := k
theorem r_kDP1 {v : V} (k : td σ H (kDP2 ty D σ v)) : kDP1 td ty D σ v H := k
theorem r_kDP2 {v x : V} (k : ty σ H (kDPut D σ v x)) : kDP2 ty D σ v x H := k
theorem r_kDPut {H0 : Hp} {h d mp q : Addr} {m : Mn} {own : Nat} {c0 v : V} {T : Nat} {ks : List Key} (x : LpB H0 H h d mp m own c0 T) (hk : Need m ks) (hne : ks ≠ kk "own" own) (hv : CF H m (keyW ks) v) (eq : H q = some (.tup (ks.map kV)))
    (k : ∀ H', LpB H0 H' h d mp m own c0 T → Tx H H' → D.nx σ H') : kDPut D σ v (.ref d) (.ref q) H := by
  obtain ⟨kvs, h1, h2, h3, h4⟩ := x.put hk hne hv
  exact ⟨d, _, rfl, DPut.t h1 eq (small1000 (by omega)), k _ h3 h4⟩
def kDGet (Q : VK) (x : V) : VK := fun y H2 => ∃ a v, x = .ref a ∧ DGet H2 a y (some v) ∧ Q v H2
def kDG1 (ty : TE) (σ : L2.St) (Q : VK) : VK := fun x H1 => ty σ H1 (kDGet Q x)
theorem r_dget (k : td σ H (kDG1 ty σ Q)) : tDGet td ty σ H Q := k
theorem r_kDG1 {x : V} (k : ty σ H (kDGet Q x)) : kDG1 ty σ Q x H := k
theorem r_kDGet {H0 : Hp} {h d mp q : Addr} {m : Mn} {own : Nat} {c0 : V} {T : Nat} {ks : List Key} (x : LpB H0 H h d mp m own c0 T) (hk : Need m ks) (eq : H q = some (.tup (ks.map kV)))
    (k : ∀ v, CF H m (keyW ks) v → (ks = kk "own" own → v = c0) → Q v H) : kDGet Q (.ref d) (.ref q) H := by
  obtain ⟨kvs, v, h1, h2, h3, h4⟩ := x.get hk
  exact ⟨d, v, rfl, by rw [← h2]; exact DGet.t h1 eq, k v h3 h4⟩
end
/-! ### boxes' names as data -/
def kD : Key → PyData
  | .inl i => .int i
  | .inr x => .str x
theorem dp_keys {K : PySem.W.Frag} {H : Hp} : ∀ ks : List Key, DpAll K H (ks.map kV) (ks.map kD)
  | [] => .nil
  | .inl i :: r => .cons (.int i) (dp_keys r)
  | .inr x :: r => .cons (.str x) (dp_keys r)
theorem so_box : PyData.strOk ("box" : Str) = true := by decide +kernel
theorem so_own : PyData.strOk ("own" : Str) = true := by decide +kernel
theorem so_view : PyData.strOk ("view" : Str) = true := by decide +kernel
theorem so_call : PyData.strOk ("call" : Str) = true := by decide +kernel
theorem so_sign : PyData.strOk ("sign" : Str) = true := by decide +kernel
theorem need_shaped {m : Mn} {ks : List Key} (h : Need m ks) : SeqAt.shaped (.tuple (ks.map kD)) = true := by
  rcases h with ⟨k, _, rfl⟩ | ⟨j, _, rfl⟩ | ⟨j, _, rfl⟩ | ⟨i, j, _, _, rfl⟩ | ⟨i, j, _, _, rfl⟩ <;> simp [SeqAt.shaped, kk, kk2, kD, PyData.canLay0, PyData.canLayAll0, PyData.depth, PyData.depthAll, so_box, so_own, so_view, so_call, so_sign]
theorem need_wd {m : Mn} {ks : List Key} (h : Need m ks) : ∃ x r, ks = .inr x :: r ∧ Wd x := nm_wd (nm_need h)
section
variable {K : PySem.W.Frag} {H : Hp} {Q : VK}
theorem r_notIn {m : Mn} {ks : List Key} {own : Nat} {q p1 p2 p3 : Addr} (hk : Need m ks) (hq : H q = some (.tup (ks.map kV))) (h1 : H p1 = some (.tup [.str "own", .int own])) (h2 : H p2 = some (.tup [.str "view", .int own])) (h3 : H p3 = some (.tup [.ref p1, .ref p2]))
    (k : ∀ b, (b = true → ks ≠ kk "own" own) → Q (.bl b) H) : rNotInT K (.ref q) (.ref p3) H Q := by
  refine ⟨.tuple (ks.map kD), [.tuple ((kk "own" own).map kD), .tuple ((kk "view" own).map kD)], .tup (SqT.of hq) (dp_keys ks), .tup (SqT.of h3) (.cons (.tup (SqT.of h1) (dp_keys (kk "own" own))) (.cons (.tup (SqT.of h2) (dp_keys (kk "view" own))) .nil)), need_shaped hk, by simp [SeqAt.shaped, kk, kD, PyData.canLay0, PyData.canLayAll0, PyData.depth, PyData.depthAll, so_box, so_own, so_view, so_call, so_sign], k _ fun hb z => ?_⟩
  subst z
  simp [kk, kD, PyData.eqv, PyData.eqvAll] at hb
end
theorem same_fh {H0 H H' : Hp} {h : Addr} (e : Same H0 H) (hn : H0 h = none) (f : Fh h H H') : Same H0 H' := fun b o k => f b o (ne_of_none k hn) (e b o k)
section
variable {P : Program} {w : World} {K : PySem.W.Frag} {mg : Str → Option Value} {base : Heap}
def sp_law : Sp := fun vs H Q _ => ∃ (a : Addr) (ns : List Int), vs = [.ref a] ∧ SqL K H a (ns.map V.int) ∧ ns.length ≤ 63 ∧ ∀ H', Q (.bl true) H'
theorem ok_law (B : Blt mg) (C_hand : Cal P w K mg base "_law_hand" 1 ["_law_script", "_law_k"] (sp_hand (K := K))) 
    (C_take : Cal P w K mg base "_law_take" 1 ["_law_hand_here", "_law_many"] sp_take)
    (C_pick : Cal P w K mg base "_law_pick" 2 ["_law_hand_here", "_law_some"] sp_pick)
    (C_any_manner : Cal P w K mg base "_law_any_manner" 3 ["_law_hand_here", "_law_ways"] sp_any)
    (C_places : Cal P w K mg base "_law_places" 1 ["_law_manner"] sp_places)
    (C_ahead : Cal P w K mg base "_law_ahead" 3 ["_law_hand_here", "_law_many"] sp_ahead)
    (C_boxes : Cal P w K mg base "_law_boxes" 6 ["_law_hand_here", "_law_manner"] sp_boxes)
    (C_most : Cal P w K mg base "_law_most" 1 ["_law_manner"] sp_most)
    (C_changed : Cal P w K mg base "_law_changed" 6 ["_law_hand_here", "_law_manner", "_law_box", "_law_content_here"] sp_chg)
    (C_next_step : Cal P w K mg base "next_step" 6 ["manner", "hand", "deed", "ahead", "reads"] (sp_next fun _ => True))
    {f : Addr} {fd : FuncData} (F : Fun K "law" "law" s_law f fd) : FnOk P w K mg base CX0 7 f fd ["_law_script"] (sp_law (K := K)) := by
  refine F.ok sc_law (fun vs H Q E h => ?_) (fun cdv A outer s H vs Q E hr h => ?_)
  · obtain ⟨a, ns, rfl, _⟩ := h
    rfl
  · obtain ⟨a, ns, rfl, hq, hl, k⟩ := h
    refine ⟨_, (pss_cons (ps_for PassesOwn.never rfl (pi_range1 (by rfl) B.range (pa_cons (pe_op op_add pe_int (pe_callB (call_min2 rfl) (by rfl) B.min boot_min (pa_cons pe_int (pa_cons (pe_callB (cr_lenH (K := K) rfl) (by rfl) B.len boot_len (pa_cons (pv 0) pa_nil)) pa_nil)))) pa_nil)) (pg_name (i := 1) sc_law.nd rfl (by first | exact Or.inl rfl | exact Or.inr rfl))
 (pss_cons (ps_set (i := 2) sc_law.nd rfl (by first | exact Or.inl rfl | exact Or.inr rfl) (pe_cal C_hand (hr.mono (by decide)) (by rfl) (pa_cons (pv 0) (pa_cons (pv 1) pa_nil))))
 (pss_cons (ps_set (i := 3) sc_law.nd rfl (by first | exact Or.inl rfl | exact Or.inr rfl) (pe_cal C_any_manner (hr.mono (by decide)) (by rfl) (pa_cons (pv 2) (pa_cons (pe_lst (pa_cons pe_str (pa_cons pe_str (pa_cons pe_str pa_nil)))) pa_nil))))
 (pss_cons (ps_par (i := 4) (j := 5) (by rfl) sc_law.nd rfl rfl (by decide) rfl rfl (pa_cons (pe_cal C_take (hr.mono (by decide)) (by rfl) (pa_cons (pv 2) (pa_cons (pe_ix (ix_tupH (K := K) rfl) (pv 3) pe_int (fun _ _ => rfl)) pa_nil))) (pa_cons (pe_cal C_places (hr.mono (by decide)) (by rfl) (pa_cons (pv 3) pa_nil)) pa_nil)) (by rfl))
 (pss_cons (ps_par (i := 6) (j := 7) (by rfl) sc_law.nd rfl rfl (by decide) rfl rfl (pa_cons (pe_cal C_ahead (hr.mono (by decide)) (by rfl) (pa_cons (pv 2) (pa_cons (pv 5) pa_nil))) (pa_cons (pe_cal C_boxes (hr.mono (by decide)) (by rfl) (pa_cons (pv 2) (pa_cons (pv 3) pa_nil))) pa_nil)) (by rfl))
 (pss_cons (ps_set (i := 8) sc_law.nd rfl (by first | exact Or.inl rfl | exact Or.inr rfl) (pe_cal C_pick (hr.mono (by decide)) (by rfl) (pa_cons (pv 2) (pa_cons (pe_lst (pa_cons pe_int (pa_cons pe_int (pa_cons pe_int (pa_cons pe_int pa_nil))))) pa_nil))))
 (pss_cons (ps_asg (pe_tup (pa_cons (pe_tup pa_nil) (pa_cons pe_non pa_nil))) (pg_tup (by rfl) (pgs_cons (pg_name (i := 9) sc_law.nd rfl (by first | exact Or.inl rfl | exact Or.inr rfl)) (pgs_cons (pg_name (i := 10) sc_law.nd rfl (by first | exact Or.inl rfl | exact Or.inr rfl)) pgs_nil))))
 (pss_cons (ps_for PassesOwn.never rfl (pi_range1 (by rfl) B.range (pa_cons (pe_op op_add (pe_cal C_most (hr.mono (by decide)) (by rfl) (pa_cons (pv 3) pa_nil)) pe_int) pa_nil)) (pg_name (i := 11) sc_law.nd rfl (by first | exact Or.inl rfl | exact Or.inr rfl))
 (pss_cons (ps_set (i := 12) sc_law.nd rfl (by first | exact Or.inl rfl | exact Or.inr rfl) (pe_cal C_next_step (hr.mono (by decide)) (by rfl) (pa_cons (pv 3) (pa_cons (pv 4) (pa_cons (pe_tup (pa_cons pe_str pa_nil)) (pa_cons (pv 6) (pa_cons (pv 9) pa_nil)))))))
 (pss_cons (ps_if (pt_cmpR op_eq (pe_ix (ix_tupH (K := K) rfl) (pv 12) pe_int (fun _ _ => rfl)) pe_str (nomark _))
 (pss_cons (ps_set (i := 10) sc_law.nd rfl (by first | exact Or.inl rfl | exact Or.inr rfl) (pe_ix (ix_tupH (K := K) rfl) (pv 12) pe_int (fun _ _ => rfl)))
 (pss_one ps_break))
 pss_nil)
 (pss_one (ps_if (pt_cmpR op_eq (pe_ix (ix_tupH (K := K) rfl) (pv 12) pe_int (fun _ _ => rfl)) pe_str (nomark _))
 (pss_cons (ps_dput (hu_of hr) (pv 7) (pe_ix (ix_tupH (K := K) rfl) (pv 12) pe_int (fun _ _ => rfl)) (pe_ix (ix_tupH (K := K) rfl) (pv 12) pe_int (fun _ _ => rfl)) rfl)
 (pss_one (ps_set (i := 9) sc_law.nd rfl (by first | exact Or.inl rfl | exact Or.inr rfl) (pe_op op_catA (pv 9) (pe_tup (pa_cons pe_non pa_nil))))))
 (pss_cons (ps_set (i := 13) sc_law.nd rfl (by first | exact Or.inl rfl | exact Or.inr rfl) (pe_ix (ix_tupH (K := K) rfl) (pv 12) pe_int (fun _ _ => rfl)))
 (Evl.pss_cut (ps_if (PW.pt (pw_and (pt_cmpR op_gt (pe_ix (ix_tupH (K := K) rfl) (pv 3) pe_int (fun _ _ => rfl)) pe_int (nomark _)) (pw_and (pt_cmpR (op_notInT (u65 hr)) (pv 13) (pe_tup (pa_cons (pe_tup (pa_cons pe_str (pa_cons (pv 4) pa_nil))) (pa_cons (pe_tup (pa_cons pe_str (pa_cons (pv 4) pa_nil))) pa_nil))) rfl) (pw_and1 (pt_cmpR op_eq (pe_cal C_take (hr.mono (by decide)) (by rfl) (pa_cons (pv 2) (pa_cons (pv 8) pa_nil))) pe_int (nomark _))))))
 (pss_cons (ps_dput (hu_of hr) (pv 7) (pv 13) (pe_cal C_changed (hr.mono (by decide)) (by rfl) (pa_cons (pv 2) (pa_cons (pv 3) (pa_cons (pv 13) (pa_cons (pe_dget (hu_of hr) (pv 7) (pv 13) (fun _ _ => rfl)) pa_nil))))) rfl)
 (pss_one (ps_if (PW.pt (pw_and (pt_cmpR op_eq (pe_ix (ix_tupH (K := K) rfl) (pv 13) pe_int (fun _ _ => rfl)) pe_str (nomark _)) (pw_and1 (pt_cmpR op_eq (pe_ix (ix_tupH (K := K) rfl) (pe_dget (hu_of hr) (pv 7) (pv 13) (fun _ _ => rfl)) pe_int (fun _ _ => rfl)) (pv 4) (nomark _)))))
 (pss_one (ps_dput (hu_of hr) (pv 7) (pv 13) (pe_tup (pa_cons (pe_ix (ix_tupH (K := K) rfl) (pe_dget (hu_of hr) (pv 7) (pv 13) (fun _ _ => rfl)) pe_int (fun _ _ => rfl)) (pa_cons (pe_op op_mod (pe_op op_add (pv 4) pe_int) (pe_ix (ix_tupH (K := K) rfl) (pv 3) pe_int (fun _ _ => rfl))) (pa_cons (pe_ix (ix_tupH (K := K) rfl) (pe_dget (hu_of hr) (pv 7) (pv 13) (fun _ _ => rfl)) pe_int (fun _ _ => rfl)) pa_nil)))) rfl))
 pss_nil)))
 pss_nil)
 (pss_one (ps_set (i := 9) sc_law.nd rfl (by first | exact Or.inl rfl | exact Or.inr rfl) (pe_op op_catA (pv 9) (pe_tup (pa_cons (pe_dget (hu_of hr) (pv 7) (pv 13) (fun _ _ => rfl)) pa_nil))))))))))))
 (pss_one (ps_if (PW.pt (pw_or (pt_cmpR op_isNon (pv 10) pe_non (nomark _)) (pw_or1 (pt_cmpR op_ne (pe_callB (cr_lenH (K := K) rfl) (by rfl) B.len boot_len (pa_cons (pv 10) pa_nil)) (pv 5) (nomark _)))))
 (pss_one (ps_ret pe_bl))
 pss_nil))))))))))
 (pss_one (ps_ret pe_bl))), ?_⟩
    walk_at "g"
    refine ⟨a, ns.map V.int, rfl, .inl hq, ?_⟩
    rw [List.length_map]
    walk_at "g"
    refine ⟨_, _, rfl, ?_⟩
    walk_at "g"
    have hnn : ((4 : Int) + (if (ns.length : Int) < 6 then (ns.length : Int) else 6)) = ((4 + min 6 ns.length : Nat) : Int) := by
      rcases Nat.lt_or_ge ns.length 6 with z | z
      · rw [if_pos (by omega)]; omega
      · rw [if_neg (by omega)]; omega
    rw [hnn]
    refine r_kRng1 ?_
    refine r_kFor wk_range (fun i σ' H' => ∃ o1 o2 o3 o4 o5 o6 o7 o8 o9 o10 o11 o12 o13, σ' = [some (.ref a), o1, o2, o3, o4, o5, o6, o7, o8, o9, o10, o11, o12, o13] ∧ Same H H')
      ⟨none, none, none, none, none, none, none, none, none, none, none, none, none, rfl, Same.refl H⟩ (fun _ _ _ _ _ => trivial) (fun i x σ' H1 H2 hi hP hY => ?_) (fun σ' H1 hP => ?_)
    · obtain ⟨o1, o2, o3, o4, o5, o6, o7, o8, o9, o10, o11, o12, o13, rfl, E0⟩ := hP
      obtain ⟨rfl, rfl⟩ := hY
      have hi2 : i ≤ 20 := by omega
      walk_at "g"
      refine ⟨a, ns, i, rfl, E0.seq hq, hl, hi2, fun h H3 e3 n3 hh3 => ?_⟩
      have hn : H h = none := free_back E0 n3
      walk_at "g"
      refine r_kLst fun l4 H4 e4 n4 h4 => ?_
      refine ⟨h, l4, 0, rfl, h4, (hh3.ne n4).symm, hh3.same e4, by omega, fun m mp H5 hok hmp5 f5 hh5 => ?_⟩
      obtain ⟨mw, mr, hvs, _, _⟩ := vs0 m
      obtain ⟨hn0, hn5⟩ := hok.n5
      have hpl := hok.pl5
      have E5 : Same H H5 := same_fh ((E0.trans e3).trans e4) hn f5
      have hmp5' : H5 mp = some (.tup (.str mw :: .int m.n :: mr)) := by rw [← hvs]; exact hmp5
      walk_at "g"
      refine r_ixT hmp5' (v := .int m.n) (atI_nat (j := 1) rfl) ?_
      walk_at "g"
      refine ⟨h, m.n, _, rfl, hn0, by omega, hh5, by omega, fun own H6 hown f6 hh6 => ?_⟩
      have t6 := hh5.tx f6
      walk_at "g"
      refine ⟨mp, m, rfl, t6 _ _ hmp5, ?_⟩
      walk_at "g"
      refine ⟨h, m.pl, _, rfl, hpl, hh6, by omega, fun av H7 f7 hh7 => ?_⟩
      have t7 := hh6.tx f7
      have hmp7 := t7 _ _ (t6 _ _ hmp5)
      have E7 := same_fh (same_fh E5 hn f6) hn f7
      walk_at "g"
      refine ⟨h, mp, m, _, rfl, hmp7, hok, hh7, by omega, fun d H8 hbx f8 hh8 nd => ?_⟩
      have hd0 : H d = none := free_back E7 nd
      have E8 := same_fh E7 hn f8
      have t8 := hh7.tx f8
      obtain ⟨kvs, hd8, hkl, hcf, hneed⟩ := hbx
      obtain ⟨c0, hc0⟩ := Option.isSome_iff_exists.mp (hneed (kk "own" own) (.inr (.inl ⟨own, hown, rfl⟩)))
      have hown8 : OwnF H8 m c0 := (hcf _ _ hc0).own rfl
      have X8 : LpB H H8 h d mp m own c0 3000 := ⟨E8, hn, hd0, hh8.mono (by omega), ⟨kvs, hd8, hkl, hcf, hneed, hc0⟩, t8 _ _ hmp7⟩
      clear hd8 hkl hcf hneed
      walk_at "g"
      refine r_kLst fun l9 H9 e9 n9 h9 => ?_
      refine ⟨h, l9, _, _, rfl, h9, (hh8.ne n9).symm, by decide, by decide, hh8.same e9, by omega, fun ofv H10 hof f10 hh10 => ?_⟩
      obtain ⟨often, rfl, hof1, hof2⟩ : ∃ often : Nat, ofv = .int often ∧ 0 < often ∧ often ≤ 4 := by
        simp at hof
        rcases hof with z | z | z
        · exact ⟨1, z, by decide, by decide⟩
        · exact ⟨2, z, by decide, by decide⟩
        · exact ⟨4, z, by decide, by decide⟩
      have X10 : LpB H H10 h d mp m own c0 3000 := (X8.same e9).fh f10 (hh10.mono (by omega))
      have t10 : Tx H8 H10 := fun a o z => (hh8.same e9).tx f10 _ _ (e9 _ _ z)
      walk_at "g"
      refine r_kTup fun p11 H11 e11 n11 h11 => ?_
      walk_at "g"
      refine r_kTup fun p12 H12 e12 n12 h12 => ?_
      have X12 := (X10.same e11).same e12
      have G12 : Good H12 m own c0 [] := Good.nil (((hown8.tx t10).tx (tx_same e11)).tx (tx_same e12))
      have h11b := e12 _ _ h11
      walk_at "g"
      refine ⟨mp, m, rfl, X12.mp, hok, ?_⟩
      walk_at "g"
      have hmm := most_le hok
      rw [show (m.most : Int) + 1 = ((m.most + 1 : Nat) : Int) by omega]
      refine r_kRng1 ?_
      refine r_kFor wk_range (fun j σ' H' => ∃ o11 o12 o13 rp rs, σ' = [some (.ref a), some (.int i), some (.ref h), some (.ref mp), some (.int own), some (.int m.pl), some av, some (.ref d), some (.int often), some (.ref rp), some .non, o11, o12, o13] ∧
        LpB H H' h d mp m own c0 (3000 + 27 * j) ∧ H' rp = some (.tup rs) ∧ rs.length = j ∧ Good H' m own c0 rs)
        ⟨_, _, _, p11, [], rfl, X12, h11b, rfl, G12⟩ (fun _ _ _ _ _ => trivial) (fun j x σ' H1 H2 hj hP hY => ?_) (fun σ' H1 hP => ?_)
      · obtain ⟨o11, o12, o13, rp, rs, rfl, X, hrp, hrl, hG⟩ := hP
        obtain ⟨rfl, rfl⟩ := hY
        walk_at "g"
        refine r_kTup fun dp H3 e3 n3 h3 => ?_
        walk_at "g"
        have X3 := X.same e3
        refine ⟨mp, dp, rp, av, m, own, c0, rs, rfl, X3.mp, h3, e3 _ _ hrp, hok, hown, trivial, hG.tx (tx_same e3), fun v H4 e4 hR => ?_⟩
        have X4 := X3.same e4
        have hrp4 := e4 _ _ (e3 _ _ hrp)
        clear hrp h3 hG X X3
        rcases hR with ⟨p, u, rfl, hp, hu⟩ | ⟨ks, ⟨p, q, rfl, hp, hqq⟩, hk, hgo⟩ | ⟨ks, ⟨p, q, z, rfl, hp, hqq⟩, hk, hsg, hgo⟩
        · obtain ⟨pu, xs, rfl, hpu, hxl⟩ := hu
          walk_at "g"
          refine r_kIf (fun _ => ?_) fun z => absurd z (by decide)
          walk_at "g"
          refine r_kOr (fun z => absurd z (by simp)) fun _ => ?_
          walk_at "g"
          refine r_kIf (fun z => ?_) fun _ => ?_
          · exfalso
            rw [hxl] at z
            simp at z
          · walk_at "g"
            exact ⟨_, _, _, _, _, _, _, _, _, _, _, _, _, rfl, X4.sm⟩
        · walk_at "g"
          refine r_kIf (fun z => absurd z (by decide)) fun _ => ?_
          walk_at "g"
          refine r_kIf (fun z => absurd z (by decide)) fun _ => ?_
          walk_at "g"
          refine r_cut (fun σ' H' => σ' = [some (.ref a), some (.int i), some (.ref h), some (.ref mp), some (.int own), some (.int m.pl), some av, some (.ref d), some (.int often), some (.ref rp), some .non, some (.int j), some (.ref p), some (.ref q)] ∧
            LpB H H' h d mp m own c0 (3000 + 27 * j + 27) ∧ Tx H4 H') ?_ fun σ' H' hM => ?_
          · walk_at "g"
            have hmp4 : H4 mp = some (.tup (.str mw :: .int m.n :: mr)) := by rw [← hvs]; exact X4.mp
            refine r_ixT hmp4 (v := .int m.n) (atI_nat (j := 1) rfl) ?_
            walk_at "g"
            refine r_kAnd (fun h1 => ?_) fun _ => ?_
            · walk_at "g"
              refine r_kTup fun p5 H5 e5 n5 h5 => ?_
              walk_at "g"
              refine r_kTup fun p6 H6 e6 n6 h6 => ?_
              walk_at "g"
              refine r_kTup fun p7 H7 e7 n7 h7 => ?_
              have X7 := ((X4.same e5).same e6).same e7
              have t7 : Tx H4 H7 := fun a o z => e7 _ _ (e6 _ _ (e5 _ _ z))
              refine r_notIn hk (t7 _ _ hqq) (e7 _ _ (e6 _ _ h5)) (e7 _ _ h6) h7 fun b hb => ?_
              walk_at "g"
              refine r_kAnd (fun hb1 => ?_) fun _ => ?_
              · have hne := hb hb1
                walk_at "g"
                refine ⟨h, often, _, rfl, hof1, by omega, X7.hd, by omega, fun dg H8 hdg f8 hh8 => ?_⟩
                have X8 := X7.fh f8 hh8
                have t8 : Tx H4 H8 := fun a o z => X7.hd.tx f8 _ _ (t7 _ _ z)
                walk_at "g"
                refine r_kIf (fun _ => ?_) fun _ => ?_
                · walk_at "g"
                  refine r_dput ?_
                  walk_at "g"
                  refine r_dget ?_
                  walk_at "g"
                  refine r_kDG1 ?_
                  walk_at "g"
                  refine r_kDGet X8 hk (t8 _ _ hqq) fun c hc _ => ?_
                  walk_at "g"
                  obtain ⟨x, r, rfl, hwd⟩ := need_wd hk
                  refine ⟨h, mp, q, m, x, _, c, _, rfl, X8.mp, hok, t8 _ _ hqq, hwd, hc, X8.hd, by omega, fun v H9 hv f9 hh9 => ?_⟩
                  have X9 := X8.fh f9 hh9
                  have t9 : Tx H4 H9 := fun a o z => X8.hd.tx f9 _ _ (t8 _ _ z)
                  refine r_kDP1 ?_
                  walk_at "g"
                  refine r_kDP2 ?_
                  walk_at "g"
                  refine r_kDPut X9 hk hne hv (t9 _ _ hqq) fun H10 X10 t10' => ?_
                  have t10 : Tx H4 H10 := fun a o z => t10' _ _ (t9 _ _ z)
                  have hq10 : H10 q = some (.tup (.str x :: r.map kV)) := t10 _ _ hqq
                  walk_at "g"
                  refine r_ixT hq10 (v := .str x) (atI_nat (j := 0) rfl) ?_
                  walk_at "g"
                  refine r_kAnd (fun hx => ?_) fun _ => ?_
                  · have hxb : x = "box" := V.str.inj (of_decide_eq_true hx)
                    subst hxb
                    walk_at "g"
                    refine r_dget ?_
                    walk_at "g"
                    refine r_kDG1 ?_
                    walk_at "g"
                    refine r_kDGet X10 hk (t10 _ _ hqq) fun c2 hc2 _ => ?_
                    obtain ⟨o2, pb, xb, rfl, hpb⟩ := hc2.box rfl
                    walk_at "g"
                    refine r_kIf (fun _ => ?_) fun _ => ?_
                    · walk_at "g"
                      refine r_dput ?_
                      walk_at "g"
                      refine r_dget ?_
                      walk_at "g"
                      refine r_kDG1 ?_
                      walk_at "g"
                      refine r_kDGet X10 hk (t10 _ _ hqq) fun c3 hc3 _ => ?_
                      obtain ⟨o3, pb3, xb3, rfl, hpb3⟩ := hc3.box rfl
                      walk_at "g"
                      have hmp10 : H10 mp = some (.tup (.str mw :: .int m.n :: mr)) := by rw [← hvs]; exact X10.mp
                      refine r_ixT hmp10 (v := .int m.n) (atI_nat (j := 1) rfl) ?_
                      refine r_I (show (0 : Int) < (m.n : Int) by omega) ?_
                      walk_at "g"
                      refine r_dget ?_
                      walk_at "g"
                      refine r_kDG1 ?_
                      walk_at "g"
                      refine r_kDGet X10 hk (t10 _ _ hqq) fun c4 hc4 _ => ?_
                      obtain ⟨o4, pb4, xb4, rfl, hpb4⟩ := hc4.box rfl
                      walk_at "g"
                      refine r_kTup fun p11 H11 e11 n11 h11 => ?_
                      refine r_kDP1 ?_
                      walk_at "g"
                      refine r_kDP2 ?_
                      walk_at "g"
                      have t11 : Tx H4 H11 := fun a o z => e11 _ _ (t10 _ _ z)
                      refine r_kDPut (X10.same e11) hk hne (cf_box (o := ⟨_, _, []⟩) ⟨p11, xb3, rfl, h11⟩) (t11 _ _ hqq) fun H12 X12 t12 => ?_
                      walk_at "g"
                      exact ⟨rfl, X12.mono (by omega), fun a o z => t12 _ _ (t11 _ _ z)⟩
                    · walk_at "g"
                      exact ⟨rfl, X10.mono (by omega), t10⟩
                  · refine r_kIfN rfl ?_
                    walk_at "g"
                    exact ⟨rfl, X10.mono (by omega), t10⟩
                · walk_at "g"
                  exact ⟨rfl, X8.mono (by omega), t8⟩
              · refine r_kIfN rfl ?_
                walk_at "g"
                exact ⟨rfl, X7.mono (by omega), t7⟩
            · refine r_kIfN rfl ?_
              walk_at "g"
              exact ⟨rfl, X4.mono (by omega), fun _ _ z => z⟩
          · obtain ⟨rfl, X5, t5⟩ := hM
            have hqq5 := t5 _ _ hqq
            have hrp5 := t5 _ _ hrp4
            walk_at "g"
            refine r_dget ?_
            walk_at "g"
            refine r_kDG1 ?_
            walk_at "g"
            refine r_kDGet X5 hk hqq5 fun y hy hyo => ?_
            walk_at "g"
            refine r_kTup fun p6 H6 e6 n6 h6 => ?_
            refine r_catA (e6 _ _ hrp5) h6 (fun p7 H7 e7 h7 => ?_) (by rw [List.length_singleton]; omega)
            walk_at "g"
            have tt : Tx H4 H7 := fun a o z => e7 _ _ (e6 _ _ (t5 _ _ z))
            refine ⟨_, _, _, p7, rs ++ [y], rfl, ((X5.same e6).same e7).mono (by omega), h7, by rw [List.length_append, List.length_singleton, hrl], hgo y H7 tt ((hy.tx (tx_same e6)).tx (tx_same e7)) hyo⟩
        · walk_at "g"
          refine r_kIf (fun z => absurd z (by decide)) fun _ => ?_
          walk_at "g"
          refine r_kIf (fun _ => ?_) fun z => absurd z (by decide)
          walk_at "g"
          refine r_dput ?_
          walk_at "g"
          refine r_kDP1 ?_
          walk_at "g"
          refine r_kDP2 ?_
          walk_at "g"
          refine r_kDPut X4 hk (fun z => absurd (show ("own" : Str) = "sign" from by rw [z] at hsg; exact hsg) (by decide +kernel)) (by rw [hsg]; exact cf_sign) hqq fun H5 X5 t5 => ?_
          have hrp5 := t5 _ _ hrp4
          walk_at "g"
          refine r_kTup fun p6 H6 e6 n6 h6 => ?_
          refine r_catA (e6 _ _ hrp5) h6 (fun p7 H7 e7 h7 => ?_) (by rw [List.length_singleton]; omega)
          walk_at "g"
          have tt : Tx H4 H7 := fun a o z => e7 _ _ (e6 _ _ (t5 _ _ z))
          refine ⟨_, _, _, p7, rs ++ [.non], rfl, ((X5.same e6).same e7).mono (by omega), h7, by rw [List.length_append, List.length_singleton, hrl], hgo H7 tt⟩
      · obtain ⟨o11, o12, o13, rp, rs, rfl, X, hrp, hrl, hG⟩ := hP
        have := hG.most hok
        omega
    · obtain ⟨o1, o2, o3, o4, o5, o6, o7, o8, o9, o10, o11, o12, o13, rfl, E0⟩ := hP
      walk_at "g"
      exact k _
end
end Wg
set_option Elab.async false
set_option linter.all false
set_option maxRecDepth 100000
set_option maxHeartbeats 4000000
namespace Wg
open PySem L2
open PyProof.Rows hiding St
open RZ
def sp_lawK (K : PySem.W.Frag) : Sp := sp_law (K := K)
section
variable {K : PySem.W.Frag} {h : Heap} {mg : Str → Option Value}
theorem dfn_of (X : K.In h) (G : h.Ns mainGlobals mg) {f : Addr} {g x : Str} {st : Stmt} {od an : Option Addr} {sl : Array (Option Value)} {oc kV dc pm cd ct : Value} (a : PySem.W.nsIn K mainGlobals g = some (some (.ref f)))
    (l : K.lookup f = some ⟨oc, od, .func (PySem.W.fnOf x x (defArgs st) (defBody st) (defScope st) .none kV dc pm an cd ct), sl⟩) (c : PySem.W.codeIn K cd x = true) (k : PySem.W.keepIn K (.ref f) = true) : Dfn K mg g x st :=
  ⟨⟨f, _, fun_mk (st := st) l c k, PySem.W.mg_of X G a⟩⟩
theorem blt_of (X : K.In h) (G : h.Ns mainGlobals mg) (z0 : PySem.W.nsIn K mainGlobals "len" = some none) (z1 : PySem.W.nsIn K mainGlobals "range" = some none) (z2 : PySem.W.nsIn K mainGlobals "sorted" = some none) (z3 : PySem.W.nsIn K mainGlobals "set" = some none) (z4 : PySem.W.nsIn K mainGlobals "tuple" = some none) (z5 : PySem.W.nsIn K mainGlobals "dict" = some none) (z6 : PySem.W.nsIn K mainGlobals "int" = some none) (z7 : PySem.W.nsIn K mainGlobals "isinstance" = some none) (z8 : PySem.W.nsIn K mainGlobals "zip" = some none) (z9 : PySem.W.nsIn K mainGlobals "enumerate" = some none) (z10 : PySem.W.nsIn K mainGlobals "min" = some none) : Blt mg :=
  ⟨PySem.W.mg_none_of X G z0, PySem.W.mg_none_of X G z1, PySem.W.mg_none_of X G z2, PySem.W.mg_none_of X G z3, PySem.W.mg_none_of X G z4, PySem.W.mg_none_of X G z5, PySem.W.mg_none_of X G z6, PySem.W.mg_none_of X G z7, PySem.W.mg_none_of X G z8, PySem.W.mg_none_of X G z9, PySem.W.mg_none_of X G z10⟩
end
theorem all_mk {l : PySem.W.OpenLaw} {w : World} {K : PySem.W.Frag} {h : Heap} {mg : Str → Option Value} {fa fL : Addr} (X : K.In h) (G : h.Ns mainGlobals mg) (hfa : mg "law" = some (.ref fa)) {od an : Option Addr} {sl : Array (Option Value)} {oc kV dc pm cd ct : Value}
    (aL : PySem.W.nsIn K mainGlobals "law" = some (some (.ref fL))) (lL : K.lookup fL = some ⟨oc, od, .func (PySem.W.fnOf "law" "law" (defArgs s_law) (defBody s_law) (defScope s_law) .none kV dc pm an cd ct), sl⟩) (cL : PySem.W.codeIn K cd "law" = true) (kL : PySem.W.keepIn K (.ref fL) = true)
    (B : Blt mg)
    (D_own_read : Dfn K mg "own_read" "own_read" s_own_read)
    (D_others : Dfn K mg "others" "others" s_others)
    (D_changed_at : Dfn K mg "changed_at" "changed_at" s_changed_at)
    (D_last_collects : Dfn K mg "last_collects" "last_collects" s_last_collects)
    (D_values_of : Dfn K mg "values_of" "values_of" s_values_of)
    (D_seen_often : Dfn K mg "seen_often" "seen_often" s_seen_often)
    (D_all_moved : Dfn K mg "all_moved" "all_moved" s_all_moved)
    (D_look_handed : Dfn K mg "look_handed" "look_handed" s_look_handed)
    (D_next_handed : Dfn K mg "next_handed" "next_handed" s_next_handed)
    (D_round_length_signs : Dfn K mg "round_length_signs" "round_length" s_round_length_signs)
    (D_shake_step : Dfn K mg "shake_step" "shake_step" s_shake_step)
    (D_moved_in_signs : Dfn K mg "moved_in_signs" "moved_in" s_moved_in_signs)
    (D_look_signs : Dfn K mg "look_signs" "look_signs" s_look_signs)
    (D_next_signs : Dfn K mg "next_signs" "next_signs" s_next_signs)
    (D_round_length_shared : Dfn K mg "round_length_shared" "round_length" s_round_length_shared)
    (D_round_step : Dfn K mg "round_step" "round_step" s_round_step)
    (D_collects_in : Dfn K mg "collects_in" "collects_in" s_collects_in)
    (D_has_written : Dfn K mg "has_written" "has_written" s_has_written)
    (D_moved_in_shared : Dfn K mg "moved_in_shared" "moved_in" s_moved_in_shared)
    (D_mover_behind : Dfn K mg "mover_behind" "mover_behind" s_mover_behind)
    (D_look_shared : Dfn K mg "look_shared" "look_shared" s_look_shared)
    (D_next_shared : Dfn K mg "next_shared" "next_shared" s_next_shared)
    (D_next_step : Dfn K mg "next_step" "next_step" s_next_step)
    (D_law_take : Dfn K mg "_law_take" "_law_take" s_law_take)
    (D_law_pick : Dfn K mg "_law_pick" "_law_pick" s_law_pick)
    (D_law_value : Dfn K mg "_law_value" "_law_value" s_law_value)
    (D_law_places : Dfn K mg "_law_places" "_law_places" s_law_places)
    (D_law_state : Dfn K mg "_law_state" "_law_state" s_law_state)
    (D_law_ahead : Dfn K mg "_law_ahead" "_law_ahead" s_law_ahead)
    (D_law_any_manner : Dfn K mg "_law_any_manner" "_law_any_manner" s_law_any_manner)
    (D_law_most : Dfn K mg "_law_most" "_law_most" s_law_most)
    (D_law_content : Dfn K mg "_law_content" "_law_content" s_law_content)
    (D_law_changed : Dfn K mg "_law_changed" "_law_changed" s_law_changed)
    (D_law_boxes : Dfn K mg "_law_boxes" "_law_boxes" s_law_boxes)
    (D_law_hand : Dfn K mg "_law_hand" "_law_hand" s_law_hand)
    : ∃ fd : FuncData, (∀ (s : Shared) (u : Value), BindsTo s fd ⟨[u], []⟩ [("_law_script", u)]) ∧ ∀ base : Heap, K.In base → base.Ns mainGlobals mg → FnOk l.prog w K mg base CX0 7 fa fd ["_law_script"] (sp_lawK K) := by
  show ∃ fd : FuncData, (∀ (s : Shared) (u : Value), BindsTo s fd ⟨[u], []⟩ [("_law_script", u)]) ∧ ∀ base : Heap, K.In base → base.Ns mainGlobals mg → FnOk l.prog w K mg base CX0 7 fa fd ["_law_script"] (sp_law (K := K))
  have e := hfa.symm.trans (PySem.W.mg_of X G aL)
  cases e
  refine ⟨PySem.W.fnOf "law" "law" (defArgs s_law) (defBody s_law) (defScope s_law) .none kV dc pm an cd ct, fun s u => .of_eq rfl, fun base _ _ => ?_⟩
  have c_own_read := ok_own_read (P := l.prog) (w := w) (base := base)  D_own_read
  have c_others := ok_others (P := l.prog) (w := w) (base := base) B D_others
  have c_changed_at := ok_changed_at (P := l.prog) (w := w) (base := base) B D_changed_at
  have c_last_collects := ok_last_collects (P := l.prog) (w := w) (base := base)  D_last_collects
  have c_values_of := ok_values_of (P := l.prog) (w := w) (base := base) B D_values_of
  have c_seen_often := ok_seen_often (P := l.prog) (w := w) (base := base) B D_seen_often
  have c_all_moved := ok_all_moved (P := l.prog) (w := w) (base := base) B c_changed_at D_all_moved
  have c_look_handed := ok_look_handed (P := l.prog) (w := w) (base := base) B c_last_collects c_changed_at c_values_of c_seen_often c_all_moved c_own_read D_look_handed
  have c_next_handed := ok_next_handed (P := l.prog) (w := w) (base := base) B c_look_handed D_next_handed
  have c_round_length_signs := ok_len_signs (P := l.prog) (w := w) (base := base)  D_round_length_signs
  have c_shake_step := ok_shake (P := l.prog) (w := w) (base := base) c_others c_own_read D_shake_step
  have c_moved_in_signs := ok_moved_signs (P := l.prog) (w := w) (base := base) B c_others D_moved_in_signs
  have c_look_signs := ok_look_signs (P := l.prog) (w := w) (base := base) B c_round_length_signs c_moved_in_signs c_values_of c_seen_often c_shake_step c_own_read D_look_signs
  have c_next_signs := ok_next_signs (P := l.prog) (w := w) (base := base) c_look_signs D_next_signs
  have c_round_length_shared := ok_len_shared (P := l.prog) (w := w) (base := base)  D_round_length_shared
  have c_round_step := ok_round_step (P := l.prog) (w := w) (base := base) c_others D_round_step
  have c_collects_in := ok_collects (P := l.prog) (w := w) (base := base)  D_collects_in
  have c_has_written := ok_has_written (P := l.prog) (w := w) (base := base) B D_has_written
  have c_moved_in_shared := ok_moved_shared (P := l.prog) (w := w) (base := base) B c_collects_in c_others c_has_written D_moved_in_shared
  have c_mover_behind := ok_mover (P := l.prog) (w := w) (base := base) B c_round_length_shared c_moved_in_shared c_seen_often D_mover_behind
  have c_look_shared := ok_look_shared (P := l.prog) (w := w) (base := base) B c_round_length_shared c_mover_behind c_values_of c_collects_in c_round_step D_look_shared
  have c_next_shared := ok_next_shared (P := l.prog) (w := w) (base := base) c_look_shared D_next_shared
  have c_next_step := ok_next_step (P := l.prog) (w := w) (base := base) c_next_handed c_next_signs c_next_shared D_next_step
  have c_law_take := ok_take (P := l.prog) (w := w) (base := base)  D_law_take
  have c_law_pick := ok_pick (P := l.prog) (w := w) (base := base) B c_law_take D_law_pick
  have c_law_value := ok_value (P := l.prog) (w := w) (base := base) c_law_take c_law_pick D_law_value
  have c_law_places := ok_places (P := l.prog) (w := w) (base := base)  D_law_places
  have c_law_state := ok_state (P := l.prog) (w := w) (base := base) B c_law_value D_law_state
  have c_law_ahead := ok_ahead (P := l.prog) (w := w) (base := base) B c_law_pick D_law_ahead
  have c_law_any_manner := ok_any (P := l.prog) (w := w) (base := base) c_law_take c_law_pick D_law_any_manner
  have c_law_most := ok_most (P := l.prog) (w := w) (base := base) B D_law_most
  have c_law_content := ok_content (P := l.prog) (w := w) (base := base) B c_law_take c_law_value c_law_places c_law_state D_law_content
  have c_law_changed := ok_changed (P := l.prog) (w := w) (base := base) c_law_take c_law_content D_law_changed
  have c_law_boxes := ok_boxes (P := l.prog) (w := w) (base := base) B c_law_places c_law_content D_law_boxes
  have c_law_hand := ok_hand (P := l.prog) (w := w) (base := base) B D_law_hand
  exact ok_law B c_law_hand c_law_take c_law_pick c_law_any_manner c_law_places c_law_ahead c_law_boxes c_law_most c_law_changed c_next_step (fun_mk (st := s_law) lL cL kL)
end Wg
open PySem PySem.W PyProof.Rows in
set_option maxRecDepth 100000 in
set_option maxHeartbeats 0 in
theorem PySem.Challenge.cw_wholeglance_k26_whole_steps_at_most_holds : PySem.Challenge.rw_wholeglance_k26_whole_steps_at_most.Holds := by
  w_on; o_law; k_head; (case hw => w_witness2)
  k_fill
  refine L2.walk_ofK (l := PySem.Challenge.rw_wholeglance_k26_whole_steps_at_most) (n := 63) (k := 7) (x := "_law_script") (CX := L2.CX0) (sp := Wg.sp_lawK) rfl (by decide) rfl ⟨rfl, by decide, by decide⟩ (fun w h Y => PySem.W.kIn_of Y) ?F (fun _ _ a ns hl _ hS => ⟨a, ns, rfl, hS, hl, fun _ => rfl⟩) fun _ _ _ _ z => z
  case F =>
    intro w mg fa h KX G hmg
    refine' Wg.all_mk KX G hmg ?aL ?lL ?cL ?kL ?B ?D_own_read ?D_others ?D_changed_at ?D_last_collects ?D_values_of ?D_seen_often ?D_all_moved ?D_look_handed ?D_next_handed ?D_round_length_signs ?D_shake_step ?D_moved_in_signs ?D_look_signs ?D_next_signs ?D_round_length_shared ?D_round_step ?D_collects_in ?D_has_written ?D_moved_in_shared ?D_mover_behind ?D_look_shared ?D_next_shared ?D_next_step ?D_law_take ?D_law_pick ?D_law_value ?D_law_places ?D_law_state ?D_law_ahead ?D_law_any_manner ?D_law_most ?D_law_content ?D_law_changed ?D_law_boxes ?D_law_hand
    (case aL => k_is)
    (case lL => k_is)
    (case cL => k_is)
    (case kL => k_is)
    case B =>
      refine Wg.blt_of KX G ?z0 ?z1 ?z2 ?z3 ?z4 ?z5 ?z6 ?z7 ?z8 ?z9 ?z10
      (case z0 => k_is)
      (case z1 => k_is)
      (case z2 => k_is)
      (case z3 => k_is)
      (case z4 => k_is)
      (case z5 => k_is)
      (case z6 => k_is)
      (case z7 => k_is)
      (case z8 => k_is)
      (case z9 => k_is)
      (case z10 => k_is)
    case D_own_read =>
      refine' Wg.dfn_of KX G ?a ?l ?c ?k
      (case a => k_is)
      (case l => k_is)
      (case c => k_is)
      (case k => k_is)
    case D_others =>
      refine' Wg.dfn_of KX G ?a ?l ?c ?k
      (case a => k_is)
      (case l => k_is)
      (case c => k_is)
      (case k => k_is)
    case D_changed_at =>
      refine' Wg.dfn_of KX G ?a ?l ?c ?k
      (case a => k_is)
      (case l => k_is)
      (case c => k_is)
      (case k => k_is)
    case D_last_collects =>
      refine' Wg.dfn_of KX G ?a ?l ?c ?k
      (case a => k_is)
      (case l => k_is)
      (case c => k_is)
      (case k => k_is)
    case D_values_of =>
      refine' Wg.dfn_of KX G ?a ?l ?c ?k
      (case a => k_is)
      (case l => k_is)
      (case c => k_is)
      (case k => k_is)
    case D_seen_often =>
      refine' Wg.dfn_of KX G ?a ?l ?c ?k
      (case a => k_is)
      (case l => k_is)
      (case c => k_is)
      (case k => k_is)
    case D_all_moved =>
      refine' Wg.dfn_of KX G ?a ?l ?c ?k
      (case a => k_is)
      (case l => k_is)
      (case c => k_is)
      (case k => k_is)
    case D_look_handed =>
      refine' Wg.dfn_of KX G ?a ?l ?c ?k
      (case a => k_is)
      (case l => k_is)
      (case c => k_is)
      (case k => k_is)
    case D_next_handed =>
      refine' Wg.dfn_of KX G ?a ?l ?c ?k
      (case a => k_is)
      (case l => k_is)
      (case c => k_is)
      (case k => k_is)
    case D_round_length_signs =>
      refine' Wg.dfn_of KX G ?a ?l ?c ?k
      (case a => k_is)
      (case l => k_is)
      (case c => k_is)
      (case k => k_is)
    case D_shake_step =>
      refine' Wg.dfn_of KX G ?a ?l ?c ?k
      (case a => k_is)
      (case l => k_is)
      (case c => k_is)
      (case k => k_is)
    case D_moved_in_signs =>
      refine' Wg.dfn_of KX G ?a ?l ?c ?k
      (case a => k_is)
      (case l => k_is)
      (case c => k_is)
      (case k => k_is)
    case D_look_signs =>
      refine' Wg.dfn_of KX G ?a ?l ?c ?k
      (case a => k_is)
      (case l => k_is)
      (case c => k_is)
      (case k => k_is)
    case D_next_signs =>
      refine' Wg.dfn_of KX G ?a ?l ?c ?k
      (case a => k_is)
      (case l => k_is)
      (case c => k_is)
      (case k => k_is)
    case D_round_length_shared =>
      refine' Wg.dfn_of KX G ?a ?l ?c ?k
      (case a => k_is)
      (case l => k_is)
      (case c => k_is)
      (case k => k_is)
    case D_round_step =>
      refine' Wg.dfn_of KX G ?a ?l ?c ?k
      (case a => k_is)
      (case l => k_is)
      (case c => k_is)
      (case k => k_is)
    case D_collects_in =>
      refine' Wg.dfn_of KX G ?a ?l ?c ?k
      (case a => k_is)
      (case l => k_is)
      (case c => k_is)
      (case k => k_is)
    case D_has_written =>
      refine' Wg.dfn_of KX G ?a ?l ?c ?k
      (case a => k_is)
      (case l => k_is)
      (case c => k_is)
      (case k => k_is)
    case D_moved_in_shared =>
      refine' Wg.dfn_of KX G ?a ?l ?c ?k
      (case a => k_is)
      (case l => k_is)
      (case c => k_is)
      (case k => k_is)
    case D_mover_behind =>
      refine' Wg.dfn_of KX G ?a ?l ?c ?k
      (case a => k_is)
      (case l => k_is)
      (case c => k_is)
      (case k => k_is)
    case D_look_shared =>
      refine' Wg.dfn_of KX G ?a ?l ?c ?k
      (case a => k_is)
      (case l => k_is)
      (case c => k_is)
      (case k => k_is)
    case D_next_shared =>
      refine' Wg.dfn_of KX G ?a ?l ?c ?k
      (case a => k_is)
      (case l => k_is)
      (case c => k_is)
      (case k => k_is)
    case D_next_step =>
      refine' Wg.dfn_of KX G ?a ?l ?c ?k
      (case a => k_is)
      (case l => k_is)
      (case c => k_is)
      (case k => k_is)
    case D_law_take =>
      refine' Wg.dfn_of KX G ?a ?l ?c ?k
      (case a => k_is)
      (case l => k_is)
      (case c => k_is)
      (case k => k_is)
    case D_law_pick =>
      refine' Wg.dfn_of KX G ?a ?l ?c ?k
      (case a => k_is)
      (case l => k_is)
      (case c => k_is)
      (case k => k_is)
    case D_law_value =>
      refine' Wg.dfn_of KX G ?a ?l ?c ?k
      (case a => k_is)
      (case l => k_is)
      (case c => k_is)
      (case k => k_is)
    case D_law_places =>
      refine' Wg.dfn_of KX G ?a ?l ?c ?k
      (case a => k_is)
      (case l => k_is)
      (case c => k_is)
      (case k => k_is)
    case D_law_state =>
      refine' Wg.dfn_of KX G ?a ?l ?c ?k
      (case a => k_is)
      (case l => k_is)
      (case c => k_is)
      (case k => k_is)
    case D_law_ahead =>
      refine' Wg.dfn_of KX G ?a ?l ?c ?k
      (case a => k_is)
      (case l => k_is)
      (case c => k_is)
      (case k => k_is)
    case D_law_any_manner =>
      refine' Wg.dfn_of KX G ?a ?l ?c ?k
      (case a => k_is)
      (case l => k_is)
      (case c => k_is)
      (case k => k_is)
    case D_law_most =>
      refine' Wg.dfn_of KX G ?a ?l ?c ?k
      (case a => k_is)
      (case l => k_is)
      (case c => k_is)
      (case k => k_is)
    case D_law_content =>
      refine' Wg.dfn_of KX G ?a ?l ?c ?k
      (case a => k_is)
      (case l => k_is)
      (case c => k_is)
      (case k => k_is)
    case D_law_changed =>
      refine' Wg.dfn_of KX G ?a ?l ?c ?k
      (case a => k_is)
      (case l => k_is)
      (case c => k_is)
      (case k => k_is)
    case D_law_boxes =>
      refine' Wg.dfn_of KX G ?a ?l ?c ?k
      (case a => k_is)
      (case l => k_is)
      (case c => k_is)
      (case k => k_is)
    case D_law_hand =>
      refine' Wg.dfn_of KX G ?a ?l ?c ?k
      (case a => k_is)
      (case l => k_is)
      (case c => k_is)
      (case k => k_is)
