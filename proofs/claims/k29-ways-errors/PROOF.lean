import PyProof.Rows.All
import Wide.All
import OpenK.AllK
import Wide.FinOn
import KE.KStateDown
import HandS.ForMost
import HandS.Defaults
import HandS.Exc
import HandS.Codes
import HandS.TryOnly
import HandS.Lambda
import HandS.EndTab
import HandS.Head0
import HandS.Head1
import HandS.Head2
import HandS.HeadEnd
import HandS.HeadHook1
import HandS.HeadHook2
import HandS.HeadHook3
import HandS.HeadHook4
import HandS.HeadWalk
import HandS.Sort
import HandS.SortOrd
import HandS.SortRule
import HandS.SortInts
import HandS.SortKw
import HandS.Wide
import HandS.SetKeys
import HandS.DictComp
import HandS.IsInst
import HandS.Deep
import HandS.Style
import HandS.Finally
import HandS.ListItems
import HandS.CallLocal
import HandS.SetFor
import HandS.RaiseMore
import HandS.Zip
import HandS.Conv
import HandS.Strs
import KE.KSortTupAny
import KE.KSortKey
import KE.KEqDict
import HandS.MakeKw
import HandS.ExcOwn
import HandS.ExcInit
import HandS.ExcField
import HandS.ExcIs
import HandS.ExcValue
import HandS.CallSlots
import HandS.ClsMeth
import HandS.ExcCtx
import HandS.Hot
import HandS.HotCalls
import HandS.RaiseFrom
import HandS.ExcInitHot
import PySem.Challenge.RW_splitstock_k29_ways_errors
import HandS.Walk
import PyProof.NeKinds
import HandS.Iter
import PyProof.SumAny
import KE.KDictSum
import HandS.MapSum
import PyProof.ReprRoads
import PyProof.StrLawsRepr
import PyProof.FitsInt
import PyProof.EqAt
import PyProof.SeqRoads2
import PyProof.Rows.SetFrom
import PyProof.Rows.SortShellSt
import HandS.Set
import KE.KUnpackStar
import HandS.Text
import PyProof.InstNe
import PyProof.FactsAll.object_2
import HandS.OwnEq
import HandS.DictEq
import PyProof.Rows.TupDisplay
import KE.KDictWalk
import KE.KDictZip
import KE.KDictDisplayH
import KE.GoesMore
import HandS.DictTup
import HandS.Dict
set_option Elab.async false
set_option linter.all false
set_option maxRecDepth 100000
set_option maxHeartbeats 4000000
/-! sorting tuples that begin (int, text) -/
namespace Sk
open PySem PySem.Spec PyProof.Rows L2
/-- an int, then a text -/
def kLt (p q : Int × Str) : Bool := if p.1 = q.1 then decide (p.2.cps.toList < q.2.cps.toList) else decide (p.1 < q.1)
theorem kLt_iff {p q : Int × Str} : kLt p q = true ↔ p.1 < q.1 ∨ (p.1 = q.1 ∧ p.2.cps.toList < q.2.cps.toList) := by
  unfold kLt
  by_cases e : p.1 = q.1
  · rw [if_pos e, decide_eq_true_eq]
    constructor
    · exact fun h => .inr ⟨e, h⟩
    · rintro (h | h)
      · omega
      · exact h.2
  · rw [if_neg e, decide_eq_true_eq]
    constructor
    · exact fun h => .inl h
    · rintro (h | h)
      · exact h
      · exact absurd h.1 e
theorem kLt_no {p q : Int × Str} : kLt p q = false ↔ q.1 < p.1 ∨ (p.1 = q.1 ∧ ¬ p.2.cps.toList < q.2.cps.toList) := by
  unfold kLt
  by_cases e : p.1 = q.1
  · rw [if_pos e, decide_eq_false_iff_not]
    constructor
    · exact fun h => .inr ⟨e, h⟩
    · rintro (h | h)
      · omega
      · exact h.2
  · rw [if_neg e, decide_eq_false_iff_not]
    constructor
    · exact fun h => .inl (by omega)
    · rintro (h | h)
      · omega
      · exact absurd h.1 e
theorem str_ext {x y : Str} (h : x.cps.toList = y.cps.toList) : x = y := by
  have hc : x.cps = y.cps := Array.toList_inj.mp h
  cases x; cases y
  simp only [Str.mk.injEq]
  exact hc
theorem kLt_total {p q : Int × Str} (h1 : kLt p q = false) (h2 : kLt q p = false) : p = q := by
  rcases kLt_no.mp h1 with a | ⟨a, b⟩
  · rcases kLt_no.mp h2 with c | ⟨c, d⟩ <;> omega
  · rcases kLt_no.mp h2 with c | ⟨c, d⟩
    · omega
    · have e : p.2.cps.toList = q.2.cps.toList := strKind.total _ _ (decide_eq_false b) (decide_eq_false d)
      obtain ⟨i, x⟩ := p
      obtain ⟨j, y⟩ := q
      have e2 := str_ext e
      simp only at a e2
      rw [a, e2]
theorem kLt_swo {α : Type} (k : α → Int × Str) : SrtO.Swo fun x y => kLt (k x) (k y) := by
  refine ⟨fun x y h => ?_, fun x y z h1 h2 => ?_⟩
  · refine kLt_no.mpr ?_
    rcases kLt_iff.mp h with a | ⟨a, b⟩
    · exact .inl a
    · exact .inr ⟨a.symm, fun c => List.lt_irrefl _ (List.lt_trans b c)⟩
  · refine kLt_no.mpr ?_
    rcases kLt_no.mp h1 with a | ⟨a, b⟩
    · rcases kLt_no.mp h2 with c | ⟨c, d⟩
      · exact .inl (by omega)
      · exact .inl (by omega)
    · rcases kLt_no.mp h2 with c | ⟨c, d⟩
      · exact .inl (by omega)
      · refine .inr ⟨by omega, fun e => ?_⟩
        rcases strKind.negTrans _ (k y).2.cps.toList _ (decide_eq_true e) with q | q
        · exact d (of_decide_eq_true q)
        · exact b (of_decide_eq_true q)
/-- a tuple of the heap that begins with an int and a text -/
def IsT2 (h : Heap) (v : Value) (k : Int × Str) (rest : List Value) : Prop := ∃ a o t u n, v = .ref a ∧ h.get? a = some o ∧ o.cls = .type "tuple" ∧ o.data = .seq (Value.int k.1 t :: .str k.2 u :: rest).toArray n
theorem IsT2.keeps {h h' : Heap} {v : Value} {k : Int × Str} {rest : List Value} (p : IsT2 h v k rest) (kp : ∀ b o, h.get? b = some o → o.cls = .type "tuple" → h'.get? b = some o) : IsT2 h' v k rest := by
  obtain ⟨a, o, t, u, n, e, ho, hc, hd⟩ := p
  exact ⟨a, o, t, u, n, e, kp a o ho hc, hc, hd⟩
section
variable {prog : Program} {w : World} {A : Around} {E : Value → Shared → Prop} {s : Shared}
theorem eqBool_same {v : Value} {Q : Bool → Shared → Prop} (hv : (v == v) = true) (h : Q true s) : wpAny (model prog w) A (eqBool v v) Q E s := by
  unfold eqBool
  refine wpAny_holding ?_
  rw [hv]
  simp only [if_true]
  exact wpAny_bind (wpAny_rule (wpAny_pure h))
theorem kat_same {b : Bool} {Q : Bool → Shared → Prop} : ∀ (l : List Value) (i : Nat), (∀ v ∈ l, (v == v) = true) → Q false s → PySem.W.KatLex prog w A b false Q (l.zip l) i s
  | [], _, _, h => PySem.W.kat_nil h
  | v :: l, i, hv, h => by
    show PySem.W.KatLex prog w A b false Q ((v, v) :: l.zip l) i s
    refine PySem.W.kat_cons (eqBool_same (hv v (List.mem_cons_self ..)) (PySem.W.kat_yes ?_))
    exact kat_same l (i + 1) (fun u hu => hv u (List.mem_cons_of_mem _ hu)) h
/-- what any two of them answer -/
theorem t2_cmp {vs : List Value} {k : Value → Int × Str} {rest : Value → List Value} (hp : ∀ v ∈ vs, IsT2 s.heap v (k v) (rest v)) (hr : ∀ v ∈ vs, ∀ u ∈ rest v, (u == u) = true)
    (hi : ∀ v ∈ vs, ∀ u ∈ vs, k v = k u → rest v = rest u) : SrtO.Cmp prog w A s (tuples' true) (fun p => p.1 ∈ vs) (SrtO.lt2 fun v u => kLt (k v) (k u)) := by
  intro p q hm hm'
  obtain ⟨a, o, t, u, n, e, ho, hc, hd⟩ := hp _ hm
  obtain ⟨a', o', t', u', n', e', ho', hc', hd'⟩ := hp _ hm'
  have hi' := hi _ hm _ hm'
  have hr' := hr _ hm
  show wpAny (model prog w) A (keyLt' (tuples' true) p.1 q.1) (fun r s' => s' = s ∧ r = kLt (k p.1) (k q.1)) (fun _ _ => False) s
  generalize k p.1 = kp at hi' ⊢ hd
  generalize k q.1 = kq at hi' ⊢ hd'
  generalize rest p.1 = rp at hi' hr' hd
  generalize rest q.1 = rq at hi' hd'
  rw [e, e']
  refine PySem.W.kat_lt ho hd ho' hd' ?_
  obtain ⟨x, y⟩ := kp
  obtain ⟨x', y'⟩ := kq
  have key : ∀ fin : Bool, (x = x' → y = y' → fin = false) → PySem.W.KatLex prog w A true fin (fun r s' => s' = s ∧ r = kLt (x, y) (x', y')) ((.int x t, .int x' t') :: (.str y u, .str y' u') :: rp.zip rq) 0 s := by
    intro fin hf
    unfold kLt
    refine PySem.W.kat_cons (SeqAt.EqAt.int_int x t x' t' prog w _ _ ?_)
    refine PySem.W.kat_go (fun e1 => ?_) (fun e1 => ?_)
    · have ex : x = x' := by simpa using e1
      refine PySem.W.kat_yes (PySem.W.kat_cons (wpAny_eqBool_str ?_))
      refine PySem.W.kat_go (fun e2 => ?_) (fun e2 => ?_)
      · have ey : y = y' := of_decide_eq_true e2
        have e3 : (if x = x' then decide (y.cps.toList < y'.cps.toList) else decide (x < x')) = false := by
          rw [if_pos ex, ey]
          exact decide_eq_false (List.lt_irrefl _)
        have e4 := hi' (by rw [ex, ey])
        rw [← e4, hf ex ey]
        exact PySem.W.kat_yes (kat_same rp _ hr' ⟨rfl, e3.symm⟩)
      · have e3 : (if x = x' then decide (y.cps.toList < y'.cps.toList) else decide (x < x')) = decide (y.cps.toList < y'.cps.toList) := if_pos ex
        exact PySem.W.kat_no (oneLt_any_str ⟨rfl, e3.symm⟩)
    · have ex : ¬ x = x' := by simpa using e1
      have e3 : (if x = x' then decide (y.cps.toList < y'.cps.toList) else decide (x < x')) = decide (x < x') := if_neg ex
      exact PySem.W.kat_no (oneLt_int ⟨rfl, e3.symm⟩)
  have := key (decide ((Value.int x t :: .str y u :: rp).toArray.size < (Value.int x' t' :: .str y' u' :: rq).toArray.size)) (fun ex ey => by
    have e4 := hi' (by rw [ex, ey])
    rw [e4]
    simp)
  simpa using this
theorem t2_firsts {h : Heap} {k : Value → Int × Str} {rest : Value → List Value} : ∀ {vs : List Value}, (∀ v ∈ vs, IsT2 h v (k v) (rest v)) → ∃ fs, PySem.W.KatTups h vs fs ∧ fs.length = vs.length ∧ ∀ f ∈ fs, ∃ i t, f = Value.int i t
  | [], _ => ⟨[], .nil, rfl, fun _ h => nomatch h⟩
  | v :: vs, hp => by
    obtain ⟨fs, h1, h2, h3⟩ := t2_firsts (vs := vs) fun u hu => hp u (List.mem_cons_of_mem _ hu)
    obtain ⟨a, o, t, u, n, e, ho, hc, hd⟩ := hp v (List.mem_cons_self ..)
    subst e
    refine ⟨.int (k (.ref a)).1 t :: fs, .cons ho hc hd rfl h1, by rw [List.length_cons, List.length_cons, h2], fun f hf => ?_⟩
    rcases List.mem_cons.mp hf with rfl | hf
    · exact ⟨_, _, rfl⟩
    · exact h3 f hf
theorem t2_sortableO {a : Addr} {vs : List Value} {k : Value → Int × Str} {rest : Value → List Value} (h0 : 0 < vs.length) (hp : ∀ v ∈ vs, IsT2 s.heap v (k v) (rest v)) (hr : ∀ v ∈ vs, ∀ u ∈ rest v, (u == u) = true)
    (hi : ∀ v ∈ vs, ∀ u ∈ vs, k v = k u → rest v = rest u) (ha : ∀ o, s.heap.get? a = some o → o.cls ≠ .type "tuple") : SrtO.SortableO prog w A s a vs fun v u => kLt (k v) (k u) := by
  intro h' keep
  have hp' : ∀ v ∈ vs, IsT2 h' v (k v) (rest v) := fun v hm => (hp v hm).keeps fun b o e c => keep b o (fun z => by subst z; exact ha o e c) e
  obtain ⟨fs, h1, h2, h3⟩ := t2_firsts hp'
  refine ⟨tuples' true, fun Q E hq => ?_, t2_cmp hp' hr hi⟩
  refine PySem.W.kat_kind (T := .type "int") h1 (by omega) (fun f hm => ?_) (by rfl) ?_
  · obtain ⟨x, t, rfl⟩ := h3 f hm
    exact PySem.W.Looks.now
  · have e : (Value.type "int" != Value.type "tuple") = true := by first | decide +kernel | rfl | decide
    rw [e]
    exact hq
end

/-- sorted(xs), xs a list of tuples that begin with an int and a text (k says which); where two keys agree, the tuples are one or have no more items -/
def rSortedT (K : PySem.W.Frag) : List V → Hp → VK → Prop := fun vs H Q => ∃ (a : Addr) (xs : List V) (k : V → Int × Str) (rest : V → List V), vs = [V.ref a] ∧ SqL K H a xs ∧
  (∀ x ∈ xs, ∃ t, x = V.ref t ∧ H t = some (.tup (.int (k x).1 :: .str (k x).2 :: rest x))) ∧ (∀ x ∈ xs, ∀ r ∈ rest x, ∃ b, r = V.ref b) ∧ (∀ x ∈ xs, ∀ y ∈ xs, k x = k y → x = y ∨ (rest x = [] ∧ rest y = [])) ∧
  ∀ ys p, SrtO.Srtd (fun x y => kLt (k x) (k y)) ys → SrtO.Stb (fun x y => kLt (k x) (k y)) ys xs → H p = none → Q (.ref p) (upd H p (.lst ys))
def valOf : V → Value
  | .ref a => .ref a
  | _ => .none
section
variable {X : Cx}
theorem vals_refs : ∀ {rs : List V} {us : List Value}, Vals rs us → (∀ r ∈ rs, ∃ b, r = V.ref b) → us = rs.map valOf
  | _, _, .nil, _ => rfl
  | r :: rs, u :: us, .cons h t, hb => by
    obtain ⟨b, rfl⟩ := hb r (List.mem_cons_self ..)
    rw [vals_refs t fun x hx => hb x (List.mem_cons_of_mem _ hx)]
    obtain rfl : u = Value.ref b := h
    rfl
theorem cr_sortedT : CallR X (.builtin "sorted") (rSortedT X.K) := by
  intro pins s σ H vs us Q I r h
  obtain ⟨a, xs, k, rest, rfl, hs, hx, hrf, hi, q⟩ := h
  obtain ⟨its, rv, hl, hz⟩ := I.list hs
  obtain ⟨u, rfl, ru⟩ := vals1 r
  obtain rfl : u = Value.ref a := ru
  obtain ⟨e1, e2⟩ := refs_back rv fun x m => by
    obtain ⟨t, e, _⟩ := hx x m
    exact ⟨t, e⟩
  have hm : ∀ t, Value.ref t ∈ its → V.ref t ∈ xs := fun t hv => by rw [e1]; exact List.mem_map.mpr ⟨_, hv, rfl⟩
  have hp : ∀ v ∈ its, IsT2 s.heap v (k (backV v)) ((rest (backV v)).map valOf) := fun v hv => by
    obtain ⟨t, rfl⟩ := e2 v hv
    obtain ⟨t', e, ht⟩ := hx _ (hm t hv)
    cases e
    obtain ⟨_, its2, r2, o, ho, hc, n, hd⟩ := I.hok _ _ ht
    cases r2 with
    | cons ri r2 =>
      cases r2 with
      | cons rj r2 =>
        obtain ⟨t1, rfl⟩ := ri
        obtain ⟨t2, rfl⟩ := rj
        rw [vals_refs r2 (hrf _ (hm t hv))] at hd
        exact ⟨t, o, t1, t2, n, rfl, ho, hc, hd⟩
  have hr : ∀ v ∈ its, ∀ u ∈ (rest (backV v)).map valOf, (u == u) = true := fun v hv u hu => by
    obtain ⟨x, hx', rfl⟩ := List.mem_map.mp hu
    obtain ⟨t, rfl⟩ := e2 v hv
    obtain ⟨b, rfl⟩ := hrf _ (hm t hv) _ hx'
    show (Value.ref b == Value.ref b) = true
    simp [valOf]
  have hi' : ∀ v ∈ its, ∀ u ∈ its, k (backV v) = k (backV u) → (rest (backV v)).map valOf = (rest (backV u)).map valOf := fun v hv u hu e => by
    obtain ⟨t, rfl⟩ := e2 v hv
    obtain ⟨t', rfl⟩ := e2 u hu
    rcases hi _ (hm t hv) _ (hm t' hu) e with z | ⟨z1, z2⟩
    · show (rest (V.ref t)).map valOf = (rest (V.ref t')).map valOf
      rw [z]
    · show (rest (V.ref t)).map valOf = (rest (V.ref t')).map valOf
      rw [z1, z2]
  refine SrtO.sorted_ord (ltv := fun v u => kLt (k (backV v)) (k (backV u))) (kLt_swo fun v => k (backV v)) hl.isList (by rw [← rv.length]; exact hz) (fun h2 h₁ a' ha kk => ?_) fun out h1 h2 => ?_
  · refine t2_sortableO (s := { s with heap := h₁ }) (rest := fun v => (rest (backV v)).map valOf) (by omega) (fun v hm => (hp v hm).keeps fun b o e _ => (kk b o e).2) hr hi' fun o e => ?_
    have e' : some o = some (seqObj "list" its.toArray 0) := e.symm.trans ha
    cases e'
    intro c
    exact absurd (Value.type.inj c) (by decide)
  · have h3 : ∀ u ∈ out, ∃ a, u = Value.ref a := fun u hu => e2 u (h2.perm.mem_iff.mp hu)
    obtain ⟨n, hn⟩ := sortedAll_at s.heap its out.toArray
    have hd : s.heap.objs.size ≤ s.heap.objs.size + 1 := Nat.le_succ _
    have hb : SrtO.Stb (fun x y => kLt (k x) (k y)) (out.map backV) xs := by
      rw [e1]
      exact SrtO.Stb.map (kLt_swo k) backV h2
    refine ⟨.ref (s.heap.objs.size + 1), upd H (s.heap.objs.size + 1) (.lst (out.map backV)), I.laid (t' := s.toks) (fun b o e => sortedAll_old e) hd ⟨?_, out, n, vals_back h3, hn⟩, rfl, q _ _ (SrtO.srtd_map h1) hb (I.hok.fresh hd)⟩
    rw [hb.len]
    exact hz
end
end Sk
/-! sorted(xs, key=lambda x: ..) -/
namespace Sk
open PySem PySem.Spec PyProof.Rows L2
section
variable {P : Program} {w : World} {K : PySem.W.Frag} {mg : Str → Option Value} {base : Heap}
/-- a lambda of parameters and no captured names, called -/
theorem lam_run {N ps : List Str} {k : Nat} {q : Str} {params : Arguments} {body : Expr} {scope : Scope} {pm ctv : Value} {f c' : Addr} {A : Around} {outer : List Env} {s : Shared} {H : Hp} {us : List Value} {vs : List V} {Q : VK} {E : XK} {te : TE}
    (of1 : s.heap.get? f = some (PySem.W.kla_obj "<lambda>" q params body scope [] pm c' ctv)) (S : FnScope N ps scope)
    (hb : bindArgs (PySem.W.kla_fn "<lambda>" q params body scope [] pm (.ref c') ctv) ⟨us, []⟩ = pure (ps.zip us)) (hr : Room (k + 1) A) (e0 : Env0 P w K mg base A outer s H) (hc : H c' = some (LamX.CodeO c' q))
    (r : Vals vs us) (hl : vs.length = ps.length)
    (hbody : PE (cxOf CX0 P w K mg base N q scope f (.ref c') A outer s H E) body te) (ht : te (start N vs) H Q) :
    codeAny (model P w) A (.call (.ref f) ⟨us, []⟩) (CR CX0 outer P w H s Q E) s := by
  have lim : s.heap.NoLimit := e0.mod.nolimit.keeps fun b o e => (e0.bs b o e).1
  obtain ⟨⟨oc, vs', t, hoc, hdc, hvc⟩, _, _⟩ := e0.hok c' _ hc
  have hkind : ∀ y ∈ ps.zip us, scope.names.lookup y.1 = some .local ∨ (scope.names.lookup y.1 = some .cell ∧ ((cellsFrom (s.heap.objs.size + 1) scope.names []).lookup y.1).isSome = true) := fun ⟨n, v⟩ hy => by
    rcases S.par n (List.of_mem_zip hy).1 with q | q
    · exact .inl q
    · exact .inr ⟨q, PySem.W.cellsFrom_some _ _ _ (.inl q)⟩
  refine PySem.W.kla_callFunE hr.depth of1 rfl S.co S.gen rfl ⟨c', oc, vs', t, rfl, hoc, hdc, hvc⟩ ?_
  rw [hb]
  refine wpAny_pure (wpAny_newFunctionEnv_cells S.kind hkind fun env he s1 x => ?_)
  subst he
  refine ⟨lim.keeps x.toInCall.keep, PySem.W.kla_codeExpr ?_⟩
  have I : Inv (cxOf CX0 P w K mg base N q scope f (.ref c') A outer s H E) [] (start N vs) H s1 := inv_start S hr.hd e0 hl r x
  refine wpAny_mono (hbody.run [] s1 (start N vs) H Q I ht) (fun v s' hq => ?_) fun e s' hs => hs
  obtain ⟨w', H', J', rv, q⟩ := hq
  exact ⟨w', H', J'.os, J'.bare, J'.base, J'.hok, rv, q⟩
end
/-- objects that no one tracks are changed: the abstract heap is held -/
theorem hok_but {P : Program} {w : World} {H : Hp} {h h' : Heap} (ok : HOk P w H h) (k : ∀ b u, H b ≠ none → h.get? b = some u → h'.get? b = some u) : HOk P w H h' := fun b u e => by
  refine (ok b u e).stay (fun c v hc q => k c v ?_ q) (fun _ q => q) fun _ _ q => q
  rcases hc with z | z
  · rw [z, e]
    simp
  · rw [z]
    simp
/-- a new list, filled meanwhile, is tracked in the end -/
theorem hok_late {P : Program} {w : World} {H : Hp} {h : Heap} {a : Addr} {o : HO} (ok : HOk P w H h) (hn : H a = none) (new : ObjOk P w (upd H a o) h a o) : HOk P w (upd H a o) h := fun b u e => by
  by_cases hb : b = a
  · subst hb; rw [upd_same] at e; cases e; exact new
  · rw [upd_ne hb] at e
    exact (ok b u e).stay (fun c v _ q => q) (fun c q => by rw [upd_ne (ne_of_none q hn)]; exact q) fun c xs q => by rw [upd_ne (ne_of_none q hn)]; exact q
theorem un_but {fs : List Addr} {H H' : Hp} {h h' h2 : Heap} (u : Un fs [] H H' h h') (k : ∀ b o, b < h.objs.size → h'.get? b = some o → h2.get? b = some o) : Un fs [] H H' h h2 where
  keep := fun b o e n hb hx => k b o (Heap.lt_size e) (u.keep b o e n hb hx)
  slot := fun b o e n hb hx => by
    obtain ⟨sl, q⟩ := u.slot b o e n hb hx
    exact ⟨sl, k b _ (Heap.lt_size e) q⟩
  free := u.free
  there := fun b o e hx => by
    obtain ⟨o', q⟩ := u.there b o e hx
    exact ⟨o', k b o' (Heap.lt_size e) q⟩
  tups := u.tups
  frzs := u.frzs
  tbls := u.tbls
theorem un_late {fs : List Addr} {H H' : Hp} {h h' : Heap} {a : Addr} {o : HO} (u : Un fs [] H H' h h') (ha : h.objs.size ≤ a) (hn : H' a = none) : Un fs [] H (upd H' a o) h h' where
  keep := u.keep
  slot := u.slot
  free := fun b o e n hx => by
    rw [upd_ne (fun z => by rw [z] at e; exact Nat.lt_irrefl _ (Nat.lt_of_lt_of_le (Heap.lt_size e) ha))]
    exact u.free b o e n hx
  there := u.there
  tups := fun b xs e => by
    have q := u.tups b xs e
    rw [upd_ne (ne_of_none q hn)]
    exact q
  frzs := fun b o' x e => by
    have q := u.frzs b o' x e
    rw [upd_ne (ne_of_none q hn)]
    exact q
  tbls := fun b ps e => by
    obtain ⟨m, q⟩ := u.tbls b ps e
    exact ⟨m, by rw [upd_ne (ne_of_none q hn)]; exact q⟩
/-! ### the sort by keys, raw -/
section
variable {prog : Program} {w : World} {A : Around} {E : Value → Shared → Prop} {s : Shared}
theorem key_tail {a kS : Addr} {vs ks : List Value} {e e1 : Nat} {R : PySem.Fin → Shared → Prop} {st : SortSt} (hk : s.heap.get? kS = some (seqObj "list" ks.toArray e)) (ha : s.heap.get? a = some (seqObj "list" #[] e1)) (hka : kS ≠ a)
    (hz : ks.length ≤ sizeLine) (hsz : (arrOf st).size ≤ sizeLine) (hfl : failedOf st = none)
    (h : ∀ h' c, (∀ b o, b ≠ a → b ≠ kS → s.heap.get? b = some o → h'.get? b = some o) → h'.get? a = some (seqObj "list" ((arrOf st).map (·.2)) c) → R (.done (.ret .none)) { s with heap := h' }) :
    wpAny (model prog w) A (ksk_tail a false e1 (.ref kS) st) R E s := by
  have s1 := Heap.SameBut.update s.heap kS (Obj.mapSeq fun _ => (#[] : Array Value))
  have na1 : (s.heap.update kS (Obj.mapSeq fun _ => (#[] : Array Value))).get? a = some (seqObj "list" #[] e1) := (s1.2 a hka.symm).trans ha
  have s2 := Heap.SameBut.update (s.heap.update kS (Obj.mapSeq fun _ => (#[] : Array Value))) a (Obj.mapSeq fun _ => (arrOf st).map (·.2))
  obtain ⟨c2, hc2⟩ : ∃ c2, ((s.heap.update kS (Obj.mapSeq fun _ => (#[] : Array Value))).update a (Obj.mapSeq fun _ => (arrOf st).map (·.2))).get? a = some (seqObj "list" ((arrOf st).map (·.2)) c2) :=
    ⟨_, get?_update_seq na1 fun _ => (arrOf st).map (·.2)⟩
  unfold ksk_tail
  try dsimp only
  refine wpAny_bind (listUpdate_at hk rfl ?_ (by rw [List.size_toArray]; exact hz) (Nat.zero_le _))
  refine wpAny_bind (wpAny_letGo ?_)
  refine wpAny_bind (seqEpoch_at na1 rfl ?_)
  refine wpAny_bind (listUpdate_at na1 rfl ?_ (Nat.zero_le _) (by simp only [Bool.false_eq_true, if_false, Array.size_map]; omega))
  rw [hfl]
  simp only [bne_self_eq_false, Bool.false_eq_true, if_false]
  exact wpAny_pure (h _ c2 (fun b o h1 h2 q => (s2.2 b h1).trans ((s1.2 b h2).trans q)) hc2)
theorem key_end {a kS : Addr} {vs ks : List Value} {e e1 : Nat} {R : PySem.Fin → Shared → Prop} {lt : Keyed → Keyed → Bool} (O : SrtO.Swo lt) (hk : s.heap.get? kS = some (seqObj "list" ks.toArray e)) (ha : s.heap.get? a = some (seqObj "list" #[] e1)) (hka : kS ≠ a)
    (hlen : ks.length = vs.length) (hz : vs.length ≤ sizeLine)
    (hS : 2 ≤ vs.length → ∃ κ, (∀ (Q : SortKind → Shared → Prop) (E : Value → Shared → Prop), Q κ s → wpAny (model prog w) A (keyKind' ks.toArray) Q E s) ∧ SrtO.Cmp prog w A s κ (fun p => p.1 ∈ ks) lt)
    (h : ∀ (ps : List Keyed) h' c, SrtO.Srtd lt ps → SrtO.Stb lt ps (ks.zip vs) → (∀ b o, b ≠ a → b ≠ kS → s.heap.get? b = some o → h'.get? b = some o) → h'.get? a = some (seqObj "list" (ps.map (·.2)).toArray c) → R (.done (.ret .none)) { s with heap := h' }) :
    wpAny (model prog w) A (ksk_end a false vs.toArray e1 (.ref kS) ks.toArray) R E s := by
  have hzs : (ks.toArray.zip vs.toArray).size = vs.length := by rw [Array.size_zip, List.size_toArray, List.size_toArray, hlen, Nat.min_self]
  have ez : (ks.toArray.zip vs.toArray).toList = ks.zip vs := ksk_zip _ _
  have fin : ∀ st : SortSt, SrtO.Srtd lt (arrOf st).toList → SrtO.Stb lt (arrOf st).toList (ks.zip vs) → failedOf st = none → wpAny (model prog w) A (ksk_tail a false e1 (.ref kS) st) R E s := by
    intro st h1 h2 hf
    have hl := h2.len
    rw [List.length_zip, hlen, Nat.min_self, Array.length_toList] at hl
    refine key_tail (vs := vs) hk ha hka (by omega) (by omega) hf fun h' c k ho => ?_
    refine h _ h' c h1 h2 k ?_
    rw [ho]
    congr 2
    apply Array.toList_inj.mp
    simp
  unfold ksk_end
  try dsimp only
  simp only [Bool.false_eq_true, if_false]
  by_cases h2 : vs.toArray.size < 2
  · rw [if_pos h2, if_pos h2]
    refine wpAny_bind (wpAny_pure ?_)
    rw [StateT.run_pure]
    refine wpAny_bind (wpAny_pure ?_)
    try dsimp only
    refine fin (SortSt.mk' general' (ks.toArray.zip vs.toArray) #[] 7 none) ?_ (SrtO.Stb.of_eq ez) rfl
    show SrtO.Srtd lt (ks.toArray.zip vs.toArray).toList
    rw [ez]
    have hl : (ks.zip vs).length < 2 := by
      rw [List.length_zip, hlen, Nat.min_self]
      simpa using h2
    match ks.zip vs, hl with
    | [], _ => exact List.Pairwise.nil
    | [v], _ => exact List.pairwise_singleton _ _
    | _ :: _ :: l, h => exact absurd h (by rw [List.length_cons, List.length_cons]; omega)
  · rw [if_neg h2, if_neg h2]
    obtain ⟨κ, hkind, hT⟩ := hS (by simpa using h2)
    refine wpAny_bind (hkind _ _ ?_)
    have hall : SrtO.AllL (fun p : Keyed => p.1 ∈ ks) (ks.toArray.zip vs.toArray).toList := fun p hm => by
      rw [ez] at hm
      exact (List.of_mem_zip (show (p.1, p.2) ∈ ks.zip vs from hm)).1
    refine wpAny_bind (wpAny_mono (SrtO.wpS_sortO (st0 := SortSt.mk' κ (ks.toArray.zip vs.toArray) #[] 7 none)
      (Q := fun _ st' => SrtO.Srtd lt (arrOf st').toList ∧ SrtO.Stb lt (arrOf st').toList (ks.toArray.zip vs.toArray).toList ∧ failedOf st' = none) O hT rfl hall rfl rfl fun st' a1 a2 a3 => ⟨a1, a2, a3⟩) ?_ fun _ _ e => e)
    rintro ⟨⟨⟩, st'⟩ s' ⟨rfl, hp1, hp2, hf⟩
    try dsimp only
    rw [ez] at hp2
    exact fin st' hp1 hp2 hf
/-- sorted(l, key=f): J tells of the two lists that grow meanwhile -/
theorem sorted_key {l q : Addr} {vs : List Value} {Q : Value → Shared → Prop} (J : Addr → Addr → List Value → Shared → Prop) (hl : s.heap.IsList l vs.toArray) (hz : vs.length ≤ sizeLine)
    (start : ∀ (a kS : Addr) (h : Heap) (e1 : Nat), (∀ b o, s.heap.get? b = some o → h.get? b = some o) → s.heap.objs.size ≤ a → s.heap.objs.size ≤ kS → kS ≠ a → h.get? kS = some (seqObj "list" #[] 0) → h.get? a = some (seqObj "list" #[] e1) → J a kS [] { s with heap := h })
    (turn : ∀ (a kS : Addr) (e e1 : Nat) (ks : List Value) (x : Value) (s' : Shared), vs[ks.length]? = some x → J a kS ks s' → kS ≠ a → s'.heap.get? kS = some (seqObj "list" ks.toArray e) → s'.heap.get? a = some (seqObj "list" #[] e1) →
      wpAny (model prog w) A.in1.in1 (call (.ref q) [x]) (fun v s2 => s2.heap.get? kS = some (seqObj "list" ks.toArray e) ∧ s2.heap.get? a = some (seqObj "list" #[] e1) ∧
        ∀ h3, (∀ b o, b ≠ kS → s2.heap.get? b = some o → h3.get? b = some o) → J a kS (ks ++ [v]) { s2 with heap := h3 }) (fun _ _ => False) s')
    (done : ∀ (a kS : Addr) (e e1 : Nat) (ks : List Value) (s' : Shared), J a kS ks s' → ks.length = vs.length → kS ≠ a → s'.heap.get? kS = some (seqObj "list" ks.toArray e) → s'.heap.get? a = some (seqObj "list" #[] e1) →
      ∃ lt : Keyed → Keyed → Bool, SrtO.Swo lt ∧ (2 ≤ vs.length → ∃ κ, (∀ (Q : SortKind → Shared → Prop) (E : Value → Shared → Prop), Q κ s' → wpAny (model prog w) A.in1.in1 (keyKind' ks.toArray) Q E s') ∧ SrtO.Cmp prog w A.in1.in1 s' κ (fun p => p.1 ∈ ks) lt) ∧
        ∀ (ps : List Keyed) h' c, SrtO.Srtd lt ps → SrtO.Stb lt ps (ks.zip vs) → (∀ b o, b ≠ a → b ≠ kS → s'.heap.get? b = some o → h'.get? b = some o) → h'.get? a = some (seqObj "list" (ps.map (·.2)).toArray c) → Q (.ref a) { s' with heap := h' }) :
    wpAny (model prog w) A (call (.builtin "sorted") [.ref l] [(Str.ofString "key", .ref q)]) Q E s := by
  refine call_function_entry_kw kind_sorted plain_sorted entry_sorted (ksk_s1 _ _) ?_
  unfold Builtin.«sorted»
  refine wpAny_bind (m := checkCount "sorted" 1 1 _) (wpAny_pure ?_)
  refine wpAny_bind (collect_list hl ?_ hz)
  refine wpAny_bind (wpAny_newList ?_ hz)
  have hsz : ((s.heap.push (seqObj "list" #[] 0)).update s.heap.objs.size (Obj.mapSeq (· ++ vs.toArray))).objs.size = s.heap.objs.size + 1 := by
    rw [Heap.size_update, size_push']
  have hoL : (((s.heap.push (seqObj "list" #[] 0)).update s.heap.objs.size (Obj.mapSeq (· ++ vs.toArray))).push (seqObj "list" vs.toArray 0)).get? (s.heap.objs.size + 1) = some (seqObj "list" vs.toArray 0) := by
    rw [← hsz]; exact Heap.get?_push_size _ rfl
  have keep : ∀ b o, s.heap.get? b = some o → b < s.heap.objs.size ∧ (((s.heap.push (seqObj "list" #[] 0)).update s.heap.objs.size (Obj.mapSeq (· ++ vs.toArray))).push (seqObj "list" vs.toArray 0)).get? b = some o := fun b o q => by
    have hlt : b < s.heap.objs.size := Heap.lt_size q
    refine ⟨hlt, Heap.get?_push_of_some _ ?_⟩
    rw [Heap.get?_update_ne _ _ _ _ (Nat.ne_of_lt hlt)]
    exact Heap.get?_push_of_some _ q
  show wpAny _ _ _ _ _ { s with heap := ((s.heap.push (seqObj "list" #[] 0)).update s.heap.objs.size (Obj.mapSeq (· ++ vs.toArray))).push (seqObj "list" vs.toArray 0) }
  rw [hsz]
  generalize hg : ((s.heap.push (seqObj "list" #[] 0)).update s.heap.objs.size (Obj.mapSeq (· ++ vs.toArray))).push (seqObj "list" vs.toArray 0) = g at hoL keep ⊢
  have gsz : g.objs.size = s.heap.objs.size + 2 := by
    rw [← hg, size_push', hsz]
  refine wpAny_bind (wpAny_holding (wpAny_call_entry_kw slot_list_sort ⟨_, hoL, rfl⟩ entry_list_sort ?body (ksk_l1 _ _)))
  case body =>
    rw [ksk_t1]
    have ha : s.heap.objs.size + 1 < g.objs.size := Heap.lt_size hoL
    have s1 := Heap.SameBut.update g (s.heap.objs.size + 1) (Obj.mapSeq fun _ => (#[] : Array Value))
    obtain ⟨e1, ho1⟩ : ∃ e1, (g.update (s.heap.objs.size + 1) (Obj.mapSeq fun _ => (#[] : Array Value))).get? (s.heap.objs.size + 1) = some (seqObj "list" #[] e1) := ⟨_, get?_update_seq hoL fun _ => #[]⟩
    have hkS : ((g.update (s.heap.objs.size + 1) (Obj.mapSeq fun _ => (#[] : Array Value))).push (seqObj "tuple" vs.toArray 0)).objs.size = s.heap.objs.size + 3 := by rw [size_push', Heap.size_update, gsz]
    unfold ksk_tree
    refine wpAny_bind (listItems_at hoL rfl ?_)
    refine wpAny_bind (listUpdate_at hoL rfl ?_ (by rw [List.size_toArray]; exact hz) (Nat.zero_le _))
    refine wpAny_bind (seqEpoch_at ho1 rfl ?_)
    refine wpAny_bind (wpAny_newTuple ?_ (by show vs.length ≤ _; exact hz))
    refine wpAny_bind (wpAny_newList ?_ (Nat.zero_le _))
    refine wpAny_holding ?_
    have hk0 : (((g.update (s.heap.objs.size + 1) (Obj.mapSeq fun _ => (#[] : Array Value))).push (seqObj "tuple" vs.toArray 0)).push (seqObj "list" #[] 0)).get? (s.heap.objs.size + 3) = some (seqObj "list" #[] 0) := by
      rw [← hkS]; exact Heap.get?_push_size _ rfl
    have ha0 : (((g.update (s.heap.objs.size + 1) (Obj.mapSeq fun _ => (#[] : Array Value))).push (seqObj "tuple" vs.toArray 0)).push (seqObj "list" #[] 0)).get? (s.heap.objs.size + 1) = some (seqObj "list" #[] e1) :=
      Heap.get?_push_of_some _ (Heap.get?_push_of_some _ ho1)
    have keep2 : ∀ b o, s.heap.get? b = some o → (((g.update (s.heap.objs.size + 1) (Obj.mapSeq fun _ => (#[] : Array Value))).push (seqObj "tuple" vs.toArray 0)).push (seqObj "list" #[] 0)).get? b = some o := fun b o e => by
      obtain ⟨hlt, e'⟩ := keep b o e
      refine Heap.get?_push_of_some _ (Heap.get?_push_of_some _ ((s1.2 b ?_).trans e'))
      exact Nat.ne_of_lt (Nat.lt_succ_of_lt hlt)
    show wpAny (model prog w) A.in1.in1 (ksk_rest (s.heap.objs.size + 1) (.ref q) false vs.toArray _ (.ref ((g.update (s.heap.objs.size + 1) (Obj.mapSeq fun _ => (#[] : Array Value))).push (seqObj "tuple" vs.toArray 0)).objs.size)) _ _ { s with heap := ((g.update (s.heap.objs.size + 1) (Obj.mapSeq fun _ => (#[] : Array Value))).push (seqObj "tuple" vs.toArray 0)).push (seqObj "list" #[] 0) }
    rw [hkS]
    have hne : s.heap.objs.size + 3 ≠ s.heap.objs.size + 1 := by omega
    have J0 := start (s.heap.objs.size + 1) (s.heap.objs.size + 3) _ e1 keep2 (by show s.heap.objs.size ≤ s.heap.objs.size + 1; omega) (by show s.heap.objs.size ≤ s.heap.objs.size + 3; omega) hne hk0 ha0
    generalize s.heap.objs.size + 1 = a at *
    generalize s.heap.objs.size + 3 = kS at *
    generalize ((g.update a (Obj.mapSeq fun _ => (#[] : Array Value))).push (seqObj "tuple" vs.toArray 0)).push (seqObj "list" #[] 0) = h6 at *
    unfold ksk_rest
    refine wpAny_bind (wpAny_rule ?_)
    first
      | rw [List.forIn_toArray]
      | (rw [← Array.forIn_toList]; simp only [List.toList_toArray])
      | rw [← Array.forIn_toList]
    refine wpAny_bind (ksk_fold (fun i s' => ∃ ks e, ks.length = i ∧ J a kS ks s' ∧ s'.heap.get? kS = some (seqObj "list" ks.toArray e) ∧ s'.heap.get? a = some (seqObj "list" #[] e1)) vs 0 _
      ⟨[], 0, rfl, J0, hk0, ha0⟩ ?step ?done)
    case step =>
      rintro j x s' hx ⟨ks, e, hlen, hJ, hk, ha'⟩
      simp only [Nat.zero_add] at hlen ⊢
      have hj : j < vs.length := (List.getElem?_eq_some_iff.mp hx).1
      refine wpAny_bind (wpAny_attempt (wpAny_mono (turn a kS e e1 ks x s' (by rw [hlen]; exact hx) hJ hne hk ha') (fun v s'' he => ?_) fun _ _ hF => hF.elim))
      obtain ⟨hk2, ha2, hJ2⟩ := he
      try dsimp only
      have s1 := Heap.SameBut.update s''.heap kS (Obj.mapSeq (·.push v))
      obtain ⟨c2, hc2⟩ : ∃ c2, (s''.heap.update kS (Obj.mapSeq (·.push v))).get? kS = some (seqObj "list" (ks.toArray.push v) c2) := ⟨_, get?_update_seq hk2 (·.push v)⟩
      have ea : ks.toArray.push v = (ks ++ [v]).toArray := by simp
      refine wpAny_bind (listUpdate_at hk2 rfl ?_ (by rw [List.size_toArray]; omega) (by rw [Array.size_push, List.size_toArray]; omega))
      refine wpAny_pure ⟨rfl, ks ++ [v], c2, by rw [List.length_append, List.length_singleton, hlen], hJ2 _ fun b o hb q => (s1.2 b hb).trans q, ?_, (s1.2 a hne.symm).trans ha2⟩
      rw [← ea]
      exact hc2
    case done =>
      rintro s' ⟨ks, e, hlen, hJ, hk, ha'⟩
      rw [Nat.zero_add] at hlen
      try dsimp only
      refine wpAny_bind (listItems_at hk rfl ?_)
      obtain ⟨lt, O, hS, hq⟩ := done a kS e e1 ks s' hJ hlen hne hk ha'
      exact key_end O hk ha' hne hlen hz hS fun ps h' c h1 h2 k ho => ⟨_, rfl, wpAny_pure ⟨_, rfl, hq ps h' c h1 h2 k ho⟩⟩
end
end Sk
namespace Sk
open PySem PySem.Spec PyProof.Rows L2
/-- the key that a tracked tuple is -/
def kvOf (H : Hp) : Value → Int × Str
  | .ref p => match H p with
    | some (.tup [.int i, .str n]) => (i, n)
    | _ => (0, Str.empty)
  | _ => (0, Str.empty)
theorem kvOf_at {H : Hp} {p : Addr} {i : Int} {n : Str} (h : H p = some (.tup [.int i, .str n])) : kvOf H (.ref p) = (i, n) := by
  show (match H p with
    | some (.tup [.int i, .str n]) => (i, n)
    | _ => (0, Str.empty)) = (i, n)
  rw [h]
/-- sorted(e, key=lambda y: ..): the key of each item y is the pair k y -/
def SortLamQ (K : PySem.W.Frag) (T : List (Addr × Str)) (N : List Str) (tk : TE) (Q : VK) : VK := fun x H1 => ∃ (a : Addr) (xs : List V) (k : V → Int × Str), x = .ref a ∧ SqL K H1 a xs ∧ (∀ y ∈ xs, ∃ t, y = V.ref t) ∧ LamX.Tabs T H1 ∧
  (∀ y ∈ xs, ∀ H2, LamX.ExtN H1 H2 → ∀ Q' : VK, (∀ p, H2 p = none → Q' (.ref p) (upd H2 p (.tup [.int (k y).1, .str (k y).2]))) → tk (start N [y]) H2 Q') ∧
  ∀ ys a' H', SrtO.Srtd (fun x y => kLt (k x) (k y)) ys → ys.Perm xs → LamX.ExtN H1 H' → LamX.Tabs T H' → H' a' = none → Q (.ref a') (upd H' a' (.lst ys))
def tSortLam (K : PySem.W.Frag) (T : List (Addr × Str)) (N : List Str) (tk te : TE) : TE := fun σ H Q => te σ H (SortLamQ K T N tk Q)
/-- what is known between two keys -/
def KeyJ (X : Cx) (H1 : Hp) (s1 : Shared) (k : V → Int × Str) (xs : List V) (a kS : Addr) (ks : List Value) (s' : Shared) : Prop :=
  ∃ H' : Hp, s'.os = s1.os ∧ AllBare s'.gens ∧ Un (frs X.stack) [] H1 H' s1.heap s'.heap ∧ HOk X.prog X.w H' s'.heap ∧ (∀ b o, H1 b = some o → H' b = some o) ∧ H' a = none ∧ H' kS = none ∧ s1.heap.objs.size ≤ a ∧ s1.heap.objs.size ≤ kS ∧
    ks.length ≤ xs.length ∧ ∀ (i : Nat) (u : Value), ks[i]? = some u → ∃ p y, u = Value.ref p ∧ xs[i]? = some y ∧ H' p = some (.tup [.int (k y).1, .str (k y).2])
section
variable {X : Cx}
theorem zip_get {ks its : List Value} {p : Keyed} (h : p ∈ ks.zip its) : ∃ i : Nat, ks[i]? = some p.1 ∧ its[i]? = some p.2 := by
  obtain ⟨i, hi, e⟩ := List.mem_iff_getElem.mp h
  rw [List.length_zip] at hi
  refine ⟨i, ?_, ?_⟩
  · rw [List.getElem?_eq_getElem (by omega), ← e, List.getElem_zip]
  · rw [List.getElem?_eq_getElem (by omega), ← e, List.getElem_zip]
theorem pe_sortLam {T : List (Addr × Str)} {N ps : List Str} {c P : Addr} {k : Nat} {e : Expr} {te tk : TE} {params : Arguments} {body : Expr} {scope : Scope} {p lpos kpos pos : Pos}
    (hg : Gl X "sorted") (hm : X.mg "sorted" = none) (hr : Room (k + 3) X.A) (TB : LamX.TabB X.base X.mg c P) (hcode : X.env.code = .ref c) (hmT : (P, X.env.qual ++ "<lambda>") ∈ T) (hu : ∀ p ∈ T, p.1 = P → p.2 = X.env.qual ++ "<lambda>")
    (S : FnScope N ps scope) (hdef : defaultsOf params X.env = ([], [])) (hclo : ∀ cells, cloFrom cells scope.names [] = []) (h1 : ps.length = 1)
    (hbind : ∀ (q : Str) (pm cv ctv : Value) (us : List Value), us.length = 1 → bindArgs (PySem.W.kla_fn "<lambda>" q params body scope [] pm cv ctv) ⟨us, []⟩ = pure (ps.zip us))
    (ha : PA X [e] (tCons te tNil)) (hbody : ∀ (A : Around) (outer : List Env) (s : Shared) (H : Hp) (E : XK) (f c' : Addr), PE (cxOf CX0 X.prog X.w X.K X.mg X.base N (X.env.qual ++ "<lambda>") scope f (.ref c') A outer s H E) body tk)
    (hst : backTo pos (starEach [e] X.env) = (false, eval e X.env) :: backTo pos (starEach [] X.env) := by rfl) (hpl : (backTo pos (starEach [e] X.env)).any (·.1) = false := by rfl) :
    PE X (.Call (.Name "sorted" p) [e] [⟨some "key", .Lambda params body scope lpos, kpos⟩] pos) (tSortLam X.K T N tk te) := by
  refine ⟨fun pins s0 σ H0 Q I0 h => ?_⟩
  refine wpAny_Call_Name_kw (ld_blt I0 hg hm (show bootBuiltins "sorted" = some (.builtin "sorted") by decide +kernel) ?_ (by decide) (by decide))
  refine PyProof.Rows.callWith_kw (thn (ha.run pos pins s0 σ H0 (fun vs H1 => match vs with | [x] => SortLamQ X.K T N tk Q x H1 | _ => False) I0 h) fun us s h2 => ?kw) hst hpl rfl rfl
  case kw =>
    obtain ⟨vs, H, I, rv, q⟩ := h2
    obtain ⟨x, rfl⟩ : ∃ x, vs = [x] := by
      match vs, q with
      | [x], _ => exact ⟨x, rfl⟩
    obtain ⟨a0, xs, kk, rfl, hs, hrf, hT, hk, hq⟩ := (show SortLamQ X.K T N tk Q x H from q)
    obtain ⟨u0, rfl, ru⟩ := vals1 rv
    obtain rfl : u0 = Value.ref a0 := ru
    show wpAny _ _ (evalAll [(do let v ← eval (.Lambda params body scope lpos) X.env; standAt pos; pure v)]) _ _ s
    refine wpAny_evalAll_cons (wpAny_bind (LamX.lam_make2 I TB hcode hmT hu hT hdef (fun y hy e0 => ?_) fun f c' pm ctv H1 s1 I1 eN T1 hf hfn hfr hco => wpAny_bind (wpAny_standAt (wpAny_pure ?_))))
    · exact absurd e0 (S.nofree y hy)
    refine wpAny_evalAll_nil ?_
    show wpAny _ _ (call (.builtin "sorted") [.ref a0] [(Str.ofString "key", .ref f)]) _ _ s1
    rw [hclo] at hf
    have hs1 : SqL X.K H1 a0 xs := by
      rcases hs with (z | ⟨o, z⟩) | z
      · exact .inl (.inl (eN _ _ z (fun ps e => by cases e)))
      · exact .inl (.inr ⟨o, eN _ _ z (fun ps e => by cases e)⟩)
      · exact .inr z
    obtain ⟨its, rvs, hl, hz⟩ := I1.list hs1
    obtain ⟨e1, e2⟩ := refs_back rvs hrf
    have xlen : its.length = xs.length := rvs.length.symm
    have nofr : ∀ b, s1.heap.objs.size ≤ b → b ∉ frs X.stack := fun b hb z => by
      rcases List.mem_cons.mp (I1.stkSub _ z) with e | e
      · have h1 := I1.lt
        rw [← e] at h1
        exact Nat.lt_irrefl _ (Nat.lt_of_lt_of_le h1 hb)
      · exact I1.nofs hb e
    refine sorted_key (KeyJ X H1 s1 kk xs) hl.isList (by rw [xlen]; exact hz) ?start ?turn ?done
    case start =>
      intro a kS h e1' kp ha hkS hne ho1 ho2
      refine ⟨H1, rfl, I1.bare, Un.kept kp, I1.hok.kept kp, fun _ _ z => z, I1.hok.fresh ha, I1.hok.fresh hkS, ha, hkS, Nat.zero_le _, fun i u z => ?_⟩
      simp at z
    case turn =>
      rintro a kS e e1' ks u s' hu' ⟨H', os, bare, un, hok, ext, na, nk, ha, hkS, hle, hkeys⟩ hne ho1 ho2
      obtain ⟨y, hy, ry⟩ : ∃ y, xs[ks.length]? = some y ∧ RelV y u := by
        have hlt : ks.length < xs.length := by
          rw [← xlen]
          exact (List.getElem?_eq_some_iff.mp hu').1
        obtain ⟨u2, q1, q2⟩ := rvs.get (List.getElem?_eq_getElem hlt)
        rw [hu'] at q1
        cases q1
        exact ⟨_, List.getElem?_eq_getElem hlt, q2⟩
      have ym : y ∈ xs := List.mem_of_getElem? hy
      have I2 : Inv X pins σ H' s' := I1.call' (ch := []) os un hok bare fun b z => absurd z (by simp)
      have e0 := (I2.env0.in1).in1
      have of1 : s'.heap.get? f = _ := un.keep f _ hf hfn hfr (by simp)
      have eN2 : LamX.ExtN H H' := eN.trans fun b o z _ => ext b o z
      have rc : codeAny (model X.prog X.w) X.A.in1.in1 (.call (.ref f) ⟨[u], []⟩) (CR CX0 X.stack X.prog X.w H' s' (fun v H3 => ∃ p, v = V.ref p ∧ H' p = none ∧ H3 = upd H' p (.tup [.int (kk y).1, .str (kk y).2])) E0) s' :=
        lam_run (N := N) (ps := ps) (us := [u]) (vs := [y]) of1 S (hbind _ _ _ _ _ rfl) (hr.in1.in1 : Room (k + 1) X.A.in1.in1) e0 (ext _ _ hco) (.cons ry .nil) h1.symm (hbody _ _ _ _ _ _ _) (hk y ym H' eN2 _ fun p hp => ⟨p, rfl, hp, rfl⟩)
      refine wpAny_call (codeAny_mono rc fun r s2 hr2 => ?_)
      cases r with
      | error e => exact (show False from hr2).elim
      | ok fl =>
        cases fl with
        | next => exact False.elim hr2
        | brk => exact False.elim hr2
        | cont => exact False.elim hr2
        | ret v =>
          obtain ⟨v', H3, os2, bare2, un2, hok2, r2, p, rfl, np, rfl⟩ := hr2
          obtain rfl : v = Value.ref p := r2
          have kk1 := un2.keep kS _ ho1 nk (nofr _ hkS) (by simp)
          have kk2 := un2.keep a _ ho2 na (nofr _ ha) (by simp)
          have n1 := un2.free kS _ ho1 nk (by simp)
          have n2 := un2.free a _ ho2 na (by simp)
          have ext3 : ∀ b o, H' b = some o → upd H' p (.tup [.int (kk y).1, .str (kk y).2]) b = some o := fun b o z => by
            rw [upd_ne (ne_of_none z np)]
            exact z
          refine ⟨kk1, kk2, fun h3 k3 => ⟨upd H' p (.tup [.int (kk y).1, .str (kk y).2]), os2.trans os, bare2, un_but (un.trans un2) fun b o hb q => k3 b o (fun z => by rw [z] at hb; exact Nat.lt_irrefl _ (Nat.lt_of_lt_of_le hb hkS)) q, hok_but hok2 fun b o hb q => k3 b o (fun z => hb (by rw [z]; exact n1)) q,
            fun b o z => ext3 b o (ext b o z), n2, n1, ha, hkS, ?_, fun i w hi => ?_⟩⟩
          · rw [List.length_append, List.length_singleton]
            exact (List.getElem?_eq_some_iff.mp hy).1
          · by_cases hlt : i < ks.length
            · rw [List.getElem?_append_left hlt] at hi
              obtain ⟨p', y', q1, q2, q3⟩ := hkeys i w hi
              exact ⟨p', y', q1, q2, ext3 _ _ q3⟩
            · rw [List.getElem?_append_right (by omega)] at hi
              have ei : i - ks.length = 0 := by
                have := (List.getElem?_eq_some_iff.mp hi).1
                simp at this
                omega
              rw [ei] at hi
              have : w = Value.ref p := by simpa using hi.symm
              subst this
              have e3 : i = ks.length := by omega
              rw [e3]
              exact ⟨p, y, rfl, hy, upd_same⟩
    case done =>
      rintro a kS e e1' ks s' ⟨H', os, bare, un, hok, ext, na, nk, ha, hkS, hle, hkeys⟩ hlen hne ho1 ho2
      have at_ : ∀ (i : Nat) (v : Value), ks[i]? = some v → ∃ y, xs[i]? = some y ∧ kvOf H' v = kk y ∧ IsT2 s'.heap v (kvOf H' v) [] := fun i v hi => by
        obtain ⟨p, y, rfl, q1, q2⟩ := hkeys i v hi
        have e3 := kvOf_at q2
        refine ⟨y, q1, e3, ?_⟩
        rw [e3]
        obtain ⟨_, its2, r2, o, ho, hc, n, hd⟩ := hok _ _ q2
        obtain ⟨u1, u2, rfl, ri, rj⟩ := vals2 r2
        obtain ⟨t1, rfl⟩ := ri
        obtain ⟨t2, rfl⟩ := rj
        exact ⟨p, o, t1, t2, n, rfl, ho, hc, hd⟩
      have tup : ∀ v ∈ ks, IsT2 s'.heap v (kvOf H' v) [] := fun v hv => by
        obtain ⟨i, hi⟩ := List.mem_iff_getElem?.mp hv
        obtain ⟨y, _, _, q⟩ := at_ i v hi
        exact q
      refine ⟨SrtO.lt2 fun v u => kLt (kvOf H' v) (kvOf H' u), SrtO.swo2 (kLt_swo fun v => kvOf H' v), fun h2 => ⟨tuples' true, fun Q2 E2 hq2 => ?_, t2_cmp (rest := fun _ => []) tup (fun _ _ _ z => absurd z (by simp)) fun _ _ _ _ _ => rfl⟩, fun ps h' c hs hb kp ho => ?_⟩
      · obtain ⟨fs, f1, f2, f3⟩ := t2_firsts (rest := fun _ => []) tup
        refine PySem.W.kat_kind (T := .type "int") f1 (by omega) (fun f hm => ?_) (by rfl) ?_
        · obtain ⟨x, t, rfl⟩ := f3 f hm
          exact PySem.W.Looks.now
        · have e : (Value.type "int" != Value.type "tuple") = true := by first | decide +kernel | rfl | decide
          rw [e]
          exact hq2
      · have pm : ∀ p ∈ ps, kvOf H' p.1 = kk (backV p.2) ∧ p.2 ∈ its := fun p hp => by
          obtain ⟨i, q1, q2⟩ := zip_get (hb.perm.mem_iff.mp hp)
          obtain ⟨y, q3, q4, _⟩ := at_ i _ q1
          rw [e1, List.getElem?_map, q2] at q3
          have q5 : backV p.2 = y := by simpa using q3
          rw [q5]
          exact ⟨q4, List.mem_of_getElem? q2⟩
        have outm : ∀ u ∈ ps.map (·.2), ∃ a, u = Value.ref a := fun u hu => by
          obtain ⟨p, hp, rfl⟩ := List.mem_map.mp hu
          exact e2 _ (pm p hp).2
        have perm : (ps.map (·.2)).Perm its := by
          have z := hb.perm.map (fun p : Keyed => p.2)
          rwa [List.map_snd_zip (by omega)] at z
        have permV : ((ps.map (·.2)).map backV).Perm xs := by
          rw [e1]
          exact perm.map backV
        have srt : SrtO.Srtd (fun x y => kLt (kk x) (kk y)) ((ps.map (·.2)).map backV) := by
          rw [List.map_map]
          refine List.pairwise_map.mpr ?_
          refine List.Pairwise.imp_of_mem (fun {p q} hp hq z => ?_) hs
          have z' : kLt (kvOf H' q.1) (kvOf H' p.1) = false := z
          rw [(pm p hp).1, (pm q hq).1] at z'
          exact z'
        have olen : ((ps.map (·.2)).map backV).length ≤ sizeLine := by
          rw [permV.length_eq]
          exact hz
        have kp' : ∀ b o, H' b ≠ none → s'.heap.get? b = some o → h'.get? b = some o := fun b o hb q => kp b o (fun z => hb (by rw [z]; exact na)) (fun z => hb (by rw [z]; exact nk)) q
        refine ⟨.ref a, upd H' a (.lst ((ps.map (·.2)).map backV)), ?_, rfl, hq _ a H' srt permV (eN.trans fun b o z _ => ext b o z) (T1.ext ext) na⟩
        refine I1.call' (ch := []) (s' := { s' with heap := h' }) os (un_late (un_but un fun b o hb q => kp b o (fun z => by rw [z] at hb; exact Nat.lt_irrefl _ (Nat.lt_of_lt_of_le hb ha)) (fun z => by rw [z] at hb; exact Nat.lt_irrefl _ (Nat.lt_of_lt_of_le hb hkS)) q) ha na)
          (hok_late (hok_but hok kp') na ⟨olen, _, c, vals_back outm, ho⟩) bare fun b z => absurd z (by simp)
end
end Sk
namespace Sk
open PySem PySem.Spec PyProof.Rows L2
theorem ne_of_none' {H : Hp} {a b : Addr} {o : HO} (h : upd H b o a = none) : a ≠ b := fun z => by
  rw [z, upd_same] at h
  cases h
/-! ### own functions by name -/
structure Fn (P : Program) (w : World) (K : PySem.W.Frag) (mg : Str → Option Value) (base : Heap) (x : Str) (k : Nat) (ps : List Str) (sp : Sp) : Prop where
  ex : ∃ (f : Addr) (fd : FuncData), FnOk P w K mg base CX0 k f fd ps sp ∧ mg x = some (.ref f) ∧ PySem.W.keepIn K (.ref f) = true ∧ Binds K fd ps []
/-- with keywords alone, n values written, the keywords ks -/
structure FnK (P : Program) (w : World) (K : PySem.W.Frag) (mg : Str → Option Value) (base : Heap) (x : Str) (k : Nat) (ps : List Str) (sp : Sp) (n : Nat) (ks : List Str) (gV : List V → List V → List V) : Prop where
  ex : ∃ (f : Addr) (fd : FuncData) (g : List Value → List Value → List Value), FnOk P w K mg base CX0 k f fd ps sp ∧ mg x = some (.ref f) ∧ PySem.W.keepIn K (.ref f) = true ∧ KBn K fd ps n ks g gV
section
variable {X : Cx} {x : Str} {k n : Nat} {ps ks : List Str} {sp : Sp} {gV : List V → List V → List V} {e : Expr} {es : List Expr} {t tk : TA} {kws : List Keyword} {p pos : Pos}
theorem pe_fn (F : Fn X.prog X.w X.K X.mg X.base x k ps sp) (hr : Room k X.A) (ha : PA X (e :: es) t) (hg : Gl X x := by rfl) (hdb : (x == ("__debug__" : Str)) = false := by decide)
    (he : starEach (e :: es) X.env = (false, eval e X.env) :: starEach es X.env := by rfl) (hpl : (backTo pos (starEach es X.env)).any (·.1) = false := by rfl) : PE X (.Call (.Name x p) (e :: es) [] pos) (tCall sp [] E0 t) := by
  obtain ⟨f, fd, F1, hm, hk, hb⟩ := F.ex
  exact pe_call F1 hr hg hm hk hb .nil pass0 ha hdb he hpl
theorem pe_fnK (F : FnK X.prog X.w X.K X.mg X.base x k ps sp n ks gV) (hr : Room k X.A) (ha : PA X (e :: es) t) (hkw : PK X kws tk) (hg : Gl X x := by rfl) (hdb : (x == ("__debug__" : Str)) = false := by decide)
    (hall : (backToKw pos (keywordEach kws X.env)).all (·.1.isSome) = true := by rfl) (hks : (backToKw pos (keywordEach kws X.env)).filterMap (·.1) = ks := by rfl)
    (he : starEach (e :: es) X.env = (false, eval e X.env) :: starEach es X.env := by rfl)
    (hpl : ((backTo pos (starEach (e :: es) X.env)).any (·.1) || (backToKw pos (keywordEach kws X.env)).any (·.1.isNone)) = false := by rfl) : PE X (.Call (.Name x p) (e :: es) kws pos) (tCallN n ks.length sp gV E0 t tk) := by
  obtain ⟨f, fd, g, F1, hm, hk, hb⟩ := F.ex
  exact pe_callN F1 hr hg hm hk hb pass0 ha hkw hall hks hdb he hpl
theorem pe_fnK0 (F : FnK X.prog X.w X.K X.mg X.base x k ps sp 0 ks gV) (hr : Room k X.A) (hkw : PK X kws tk) (hg : Gl X x := by rfl) (hdb : (x == ("__debug__" : Str)) = false := by decide)
    (hall : (backToKw pos (keywordEach kws X.env)).all (·.1.isSome) = true := by rfl) (hks : (backToKw pos (keywordEach kws X.env)).filterMap (·.1) = ks := by rfl)
    (hpl : ((backTo pos (starEach [] X.env)).any (·.1) || (backToKw pos (keywordEach kws X.env)).any (·.1.isNone)) = false := by rfl) : PE X (.Call (.Name x p) [] kws pos) (tCallN 0 ks.length sp gV E0 tNil tk) := by
  obtain ⟨f, fd, g, F1, hm, hk, hb⟩ := F.ex
  refine ⟨fun pins s σ H Q I h => ?_⟩
  refine wpAny_Call_Name_kw (ld_glob I hg hm ?_ hdb)
  refine PySem.W.callWith_KW0 (h₀ := X.base) I.ok.mod.kin hk hall ?_ hpl
  refine thn (hkw.run pos pins s σ H _ I h) fun ws s2 ⟨zs, H2, I2, rz, l1, l2, q2⟩ => ⟨I2.kIn, ?_⟩
  rw [hks]
  exact run_fnN (us := []) (vs := []) F1 hr hb pass0 I2 .nil rz rfl l2 q2
/-- constants of the module -/
theorem pe_gs {z : Str} (h : ∃ t, X.mg x = some (.str z t)) (hg : Gl X x := by rfl) (hd : (x == ("__debug__" : Str)) = false := by decide) : PE X (.Name x pos) (tC (.str z)) := by
  obtain ⟨t, e⟩ := h
  exact pe_glob hg e ⟨t, rfl⟩ hd
theorem pe_gi {z : Int} (h : ∃ t, X.mg x = some (.int z t)) (hg : Gl X x := by rfl) (hd : (x == ("__debug__" : Str)) = false := by decide) : PE X (.Name x pos) (tC (.int z)) := by
  obtain ⟨t, e⟩ := h
  exact pe_glob hg e ⟨t, rfl⟩ hd
end
/-! ### heaps -/
/-- a heap grows: all but tables stand, the tables T stay tables -/
structure Gr (T : List (Addr × Str)) (H H' : Hp) : Prop where
  ext : LamX.ExtN H H'
  tab : LamX.Tabs T H → LamX.Tabs T H'
theorem Gr.refl {T : List (Addr × Str)} (H : Hp) : Gr T H H := ⟨LamX.ExtN.refl H, id⟩
theorem Gr.trans {T : List (Addr × Str)} {H H1 H2 : Hp} (a : Gr T H H1) (b : Gr T H1 H2) : Gr T H H2 := ⟨a.ext.trans b.ext, fun t => b.tab (a.tab t)⟩
theorem Gr.same {T : List (Addr × Str)} {H H' : Hp} (s : Same H H') : Gr T H H' := ⟨LamX.ExtN.of s, fun t => t.ext s⟩
theorem Same.upd {H : Hp} {p : Addr} {o : HO} (h : H p = none) : Same H (upd H p o) := fun b u e => by
  rw [upd_ne (ne_of_none e h)]
  exact e
theorem Gr.new {T : List (Addr × Str)} {H : Hp} {p : Addr} {o : HO} (h : H p = none) : Gr T H (upd H p o) := Gr.same (Same.upd h)
/-- neither a table nor a code object -/
def NoTab (o : HO) : Prop := (∀ ps, o ≠ .tbl ps) ∧ ∀ f, o ≠ .ext f
theorem NoTab.lst {xs : List V} : NoTab (.lst xs) := ⟨(fun _ e => by cases e), (fun _ e => by cases e)⟩
theorem NoTab.tup {xs : List V} : NoTab (.tup xs) := ⟨(fun _ e => by cases e), (fun _ e => by cases e)⟩
theorem NoTab.dK {xs : List (Key × V)} : NoTab (.dK xs) := ⟨(fun _ e => by cases e), (fun _ e => by cases e)⟩
theorem NoTab.ins {C dx : Addr} {fs : List (Str × V)} : NoTab (.ins C dx fs) := ⟨(fun _ e => by cases e), (fun _ e => by cases e)⟩
theorem Gr.at {T : List (Addr × Str)} {H H' : Hp} {a : Addr} {o : HO} (g : Gr T H H') (h : H a = some o) (n : NoTab o) : H' a = some o := g.ext a o h n.1
theorem Gr.free {T : List (Addr × Str)} {H H' : Hp} {a : Addr} (g : Gr T H H') (h : H' a = none) (n : ∀ ps, H a ≠ some (.tbl ps)) : H a = none := by
  cases q : H a with
  | none => rfl
  | some o =>
    have := g.ext a o q (fun ps e => n ps (by rw [q, e]))
    rw [h] at this
    cases this
theorem Gr.ext_seq {T : List (Addr × Str)} {K : PySem.W.Frag} {H H' : Hp} {a : Addr} {xs : List V} (g : Gr T H H') (h : SqL K H a xs) : SqL K H' a xs := by
  rcases h with (z | ⟨o, z⟩) | z
  · exact .inl (.inl (g.ext _ _ z (fun ps e => by cases e)))
  · exact .inl (.inr ⟨o, g.ext _ _ z (fun ps e => by cases e)⟩)
  · exact .inr z
/-- nothing but a table stands there -/
def Nw (H : Hp) (a : Addr) : Prop := ∀ u, H a = some u → ∃ ps, u = .tbl ps
theorem Nw.of {H : Hp} {a : Addr} (h : H a = none) : Nw H a := fun u e => by
  rw [h] at e
  cases e
theorem Gr.nw {T : List (Addr × Str)} {H H' : Hp} {a : Addr} (g : Gr T H H') (h : Nw H' a) : Nw H a := fun u e => by
  cases u with
  | tbl ps => exact ⟨ps, rfl⟩
  | _ =>
    obtain ⟨ps, z⟩ := h _ (g.ext _ _ e (fun ps z => by cases z))
    cases z
/-- a cell that H does not know is written -/
theorem Gr.mut {T : List (Addr × Str)} {H H' : Hp} {a : Addr} {o0 o : HO} (g : Gr T H H') (h : Nw H a) (h0 : H' a = some o0) (nt : NoTab o0) : Gr T H (upd H' a o) := by
  refine ⟨fun b u e n => ?_, fun t p hp => ?_⟩
  · rw [upd_ne (fun z => by
      rw [z] at e
      obtain ⟨ps, q⟩ := h _ e
      exact n ps q)]
    exact g.ext b u e n
  · obtain ⟨ps, b1, b2, b3⟩ := g.tab t p hp
    have na : p.1 ≠ a := fun z => by
      rw [z, h0] at b1
      cases b1
      exact nt.1 ps rfl
    refine ⟨ps, by rw [upd_ne na]; exact b1, b2, fun po cv hc => ?_⟩
    obtain ⟨c', e1, e2⟩ := b3 po cv hc
    refine ⟨c', e1, ?_⟩
    rw [upd_ne (fun z => by
      rw [z, h0] at e2
      cases e2
      exact nt.2 _ rfl)]
    exact e2
/-- a frozen part of the heap -/
structure Fz (G H : Hp) : Prop where
  sub : Same G H
  nt : ∀ a o, G a = some o → NoTab o
theorem Fz.emp {H : Hp} : Fz (fun _ => none) H := ⟨(fun _ _ e => by cases e), (fun _ _ e => by cases e)⟩
theorem Fz.gr {T : List (Addr × Str)} {G H H' : Hp} (f : Fz G H) (g : Gr T H H') : Fz G H' := ⟨fun b o e => g.ext b o (f.sub b o e) (f.nt b o e).1, f.nt⟩
theorem Fz.free {G H : Hp} {a : Addr} (f : Fz G H) (h : H a = none) : G a = none := f.sub.free h
theorem Fz.put {G H : Hp} {a : Addr} {o : HO} (f : Fz G H) (h : G a = none) : Fz G (upd H a o) := ⟨fun b u e => by
  rw [upd_ne (ne_of_none e h)]
  exact f.sub b u e, f.nt⟩
/-- what stands at a is frozen -/
theorem Fz.add {G H : Hp} {a : Addr} {o : HO} (f : Fz G H) (h : H a = some o) (n : NoTab o) : Fz (upd G a o) H := ⟨fun b u e => by
  by_cases hb : b = a
  · rw [hb] at e ⊢
    rw [upd_same] at e
    cases e
    exact h
  · rw [upd_ne hb] at e
    exact f.sub b u e, fun b u e => by
  by_cases hb : b = a
  · rw [hb, upd_same] at e
    cases e
    exact n
  · rw [upd_ne hb] at e
    exact f.nt b u e⟩
theorem Tabs.upd {T : List (Addr × Str)} {H : Hp} {d : Addr} {u o : HO} (t : LamX.Tabs T H) (h : H d = some u) (nt : NoTab u) : LamX.Tabs T (upd H d o) := fun p hp => by
  obtain ⟨ps, b1, b2, b3⟩ := t p hp
  have na : p.1 ≠ d := fun z => by
    rw [z, h] at b1
    cases b1
    exact nt.1 ps rfl
  refine ⟨ps, by rw [upd_ne na]; exact b1, b2, fun po cv hc => ?_⟩
  obtain ⟨c', e1, e2⟩ := b3 po cv hc
  refine ⟨c', e1, ?_⟩
  rw [upd_ne (fun z => by
    rw [z, h] at e2
    cases e2
    exact nt.2 _ rfl)]
  exact e2
theorem NoTab.frz {o : Obj} {u : HO} : NoTab (.frz o u) := ⟨(fun _ e => by cases e), (fun _ e => by cases e)⟩
/-- a cell was locked meanwhile -/
theorem Gr.unlock {T : List (Addr × Str)} {H H' : Hp} {d : Addr} {od : Obj} {u : HO} (hd : H d = some u) (nt : NoTab u) (g : Gr T (L2.upd H d (.frz od u)) H') (hd' : H' d = some (.frz od u)) : Gr T H (L2.upd H' d u) := by
  refine ⟨fun b o e n => ?_, fun t => Tabs.upd (g.tab (Tabs.upd t hd nt)) hd' .frz⟩
  by_cases hb : b = d
  · rw [hb, hd] at e
    cases e
    rw [hb, upd_same]
  · rw [upd_ne hb]
    exact g.ext b o (by rw [upd_ne hb]; exact e) n
/-! ### the source of draws -/
/-- the source at p, its digits at q; drawn at most n times from the mixed sequence -/
def SrcAt (p q : Addr) (n : Nat) (H : Hp) : Prop := ∃ (ds : List Int) (x m c : Int), H p = some (.lst [.ref q, .int x, .int m, .int c]) ∧ H q = some (.lst (ds.map V.int)) ∧ (∀ d ∈ ds, 0 ≤ d) ∧ 0 ≤ x ∧ 0 ≤ m ∧ m < 2305843009213693951 ∧ 0 ≤ c ∧ c ≤ n
/-- the source, the cells L that may change, the frozen part G -/
structure Hs (T : List (Addr × Str)) (p : Addr) (n : Nat) (L : List (Addr × HO)) (G H : Hp) : Prop where
  src : ∃ q, SrcAt p q n H ∧ G q = none ∧ q ≠ p ∧ ∀ x ∈ L, x.1 ≠ q
  fz : Fz G H
  gp : G p = none
  cel : ∀ x ∈ L, H x.1 = some x.2 ∧ G x.1 = none ∧ x.1 ≠ p ∧ NoTab x.2
  nod : (L.map (·.1)).Nodup
  tab : LamX.Tabs T H
section
variable {T : List (Addr × Str)} {p : Addr} {n : Nat} {L : List (Addr × HO)} {G H H' : Hp}
theorem SrcAt.mono {q : Addr} {m : Nat} (s : SrcAt p q n H) (h : n ≤ m) : SrcAt p q m H := by
  obtain ⟨ds, x, mm, c, h1, h2, h3, h4, h5, h6, h7, h8⟩ := s
  exact ⟨ds, x, mm, c, h1, h2, h3, h4, h5, h6, h7, by omega⟩
theorem Hs.mono {m : Nat} (s : Hs T p n L G H) (h : n ≤ m) : Hs T p m L G H := by
  obtain ⟨⟨q, a, b⟩, c, d, e, f, g⟩ := s
  exact ⟨⟨q, a.mono h, b⟩, c, d, e, f, g⟩
/-- all that stood stands -/
theorem Hs.gr (s : Hs T p n L G H) (g : Gr T H H') : Hs T p n L G H' := by
  obtain ⟨⟨q, ⟨ds, x, m, c, h1, h2, h3⟩, b⟩, fz, gp, cel, nod, tab⟩ := s
  exact ⟨⟨q, ⟨ds, x, m, c, g.at h1 .lst, g.at h2 .lst, h3⟩, b⟩, fz.gr g, gp, fun x hx => ⟨g.at (cel x hx).1 (cel x hx).2.2.2, (cel x hx).2⟩, nod, g.tab tab⟩
/-- a new cell -/
theorem Hs.new {a : Addr} {o : HO} (s : Hs T p n L G H) (h : H a = none) (nt : NoTab o) : Hs T p n ((a, o) :: L) G (upd H a o) := by
  have s2 := s.gr (Gr.new (o := o) h)
  obtain ⟨⟨q, a1, a2, a3, a4⟩, fz, gp, cel, nod, tab⟩ := s
  obtain ⟨ds, x, m, c, h1, h2, h3⟩ := a1
  refine ⟨⟨q, ⟨ds, x, m, c, ?_, ?_, h3⟩, a2, a3, fun y hy => ?_⟩, s2.fz, gp, fun y hy => ?_, ?_, s2.tab⟩
  · rw [upd_ne (ne_of_none h1 h)]
    exact h1
  · rw [upd_ne (ne_of_none h2 h)]
    exact h2
  · rcases List.mem_cons.mp hy with rfl | hy
    · exact (ne_of_none h2 h).symm
    · exact a4 y hy
  · rcases List.mem_cons.mp hy with rfl | hy
    · exact ⟨upd_same, fz.free h, (ne_of_none h1 h).symm, nt⟩
    · exact s2.cel y hy
  · rw [List.map_cons, List.nodup_cons]
    refine ⟨fun hm => ?_, nod⟩
    obtain ⟨y, hy, e⟩ := List.mem_map.mp hm
    have := (cel y hy).1
    rw [e, h] at this
    cases this
/-- what stands at the i-th cell -/
theorem Hs.get {i : Nat} {a : Addr} {o : HO} (s : Hs T p n L G H) (h : L[i]? = some (a, o)) : H a = some o := (s.cel (a, o) (List.mem_of_getElem? h)).1
/-- the i-th cell is written -/
theorem Hs.put {i : Nat} {a : Addr} {o o' : HO} (s : Hs T p n L G H) (h : L[i]? = some (a, o)) (nt : NoTab o') : Hs T p n (L.set i (a, o')) G (upd H a o') := by
  have hm := List.mem_of_getElem? h
  obtain ⟨⟨q, ⟨ds, x, m, c, h1, h2, h3⟩, a2, a3, a4⟩, fz, gp, cel, nod, tab⟩ := s
  obtain ⟨c1, c2, c3, c4⟩ := cel _ hm
  have hi : i < L.length := (List.getElem?_eq_some_iff.mp h).1
  have ei : L[i] = (a, o) := (List.getElem?_eq_some_iff.mp h).2
  have sub : ∀ y ∈ L.set i (a, o'), y = (a, o') ∨ (y ∈ L ∧ y.1 ≠ a) := fun y hy => by
    obtain ⟨j, hj, ej⟩ := List.mem_iff_getElem.mp hy
    by_cases hij : i = j
    · subst hij
      rw [List.getElem_set_self] at ej
      exact .inl ej.symm
    · rw [List.getElem_set_ne hij] at ej
      refine .inr ⟨by rw [← ej]; exact List.getElem_mem _, fun z => hij ?_⟩
      rw [List.length_set] at hj
      have q1 : (L.map (·.1))[i]'(by rw [List.length_map]; exact hi) = (L.map (·.1))[j]'(by rw [List.length_map]; exact hj) := by
        rw [List.getElem_map, List.getElem_map, ei, ej, z]
      exact (List.getElem_inj nod).mp q1
  refine ⟨⟨q, ⟨ds, x, m, c, ?_, ?_, h3⟩, a2, a3, fun y hy => ?_⟩, fz.put c2, gp, fun y hy => ?_, ?_, fun t ht => ?_⟩
  · rw [upd_ne (Ne.symm c3)]
    exact h1
  · rw [upd_ne (Ne.symm (show a ≠ q from a4 _ hm))]
    exact h2
  · rcases sub y hy with rfl | ⟨hy, _⟩
    · exact (a4 _ hm : a ≠ q)
    · exact a4 y hy
  · rcases sub y hy with rfl | ⟨hy, z⟩
    · exact ⟨upd_same, c2, c3, nt⟩
    · rw [upd_ne z]
      exact cel y hy
  · rw [List.map_set]
    have : (L.map (·.1)).set i a = L.map (·.1) := by
      have e2 : (L.map (·.1))[i]'(by rw [List.length_map]; exact hi) = a := by rw [List.getElem_map, ei]
      conv => rhs; rw [← List.set_getElem_self (as := L.map (·.1)) (i := i) (by rw [List.length_map]; exact hi)]
      rw [e2]
    show ((L.map (·.1)).set i a).Nodup
    rw [this]
    exact nod
  · obtain ⟨ps, b1, b2, b3⟩ := tab t ht
    have na : t.1 ≠ a := fun z => by
      rw [z, c1] at b1
      cases b1
      exact c4.1 ps rfl
    refine ⟨ps, by rw [upd_ne na]; exact b1, b2, fun po cv hc => ?_⟩
    obtain ⟨c', e1, e2⟩ := b3 po cv hc
    refine ⟨c', e1, ?_⟩
    by_cases hca : c' = a
    · exfalso
      rw [hca, c1] at e2
      cases e2
      exact c4.2 _ rfl
    · rw [upd_ne hca]
      exact e2
/-- fewer cells -/
theorem Hs.sub {L' : List (Addr × HO)} (s : Hs T p n L G H) (h : L'.Sublist L) : Hs T p n L' G H := by
  obtain ⟨⟨q, a, b, c, d⟩, fz, gp, cel, nod, tab⟩ := s
  exact ⟨⟨q, a, b, c, fun x hx => d x (h.subset hx)⟩, fz, gp, fun x hx => cel x (h.subset hx), nod.sublist (h.map _), tab⟩
/-- the first cell is frozen -/
theorem Hs.freeze {a : Addr} {o : HO} (s : Hs T p n ((a, o) :: L) G H) : Hs T p n L (upd G a o) H := by
  obtain ⟨⟨q, h1, h2, h3, h4⟩, fz, gp, cel, nod, tab⟩ := s
  obtain ⟨c1, c2, c3, c4⟩ := cel _ (List.mem_cons_self ..)
  rw [List.map_cons, List.nodup_cons] at nod
  refine ⟨⟨q, h1, ?_, h3, fun x hx => h4 x (List.mem_cons_of_mem _ hx)⟩, fz.add c1 c4, ?_, fun x hx => ?_, nod.2, tab⟩
  · rw [upd_ne (Ne.symm (show a ≠ q from h4 _ (List.mem_cons_self ..)))]
    exact h2
  · rw [upd_ne (Ne.symm c3)]
    exact gp
  · obtain ⟨d1, d2, d3, d4⟩ := cel x (List.mem_cons_of_mem _ hx)
    refine ⟨d1, ?_, d3, d4⟩
    rw [upd_ne (fun z => nod.1 (List.mem_map.mpr ⟨x, hx, z⟩))]
    exact d2
/-- the heap grew, and at a new place stands o -/
theorem Hs.grow {a : Addr} {o : HO} (s : Hs T p n L G H) (g : Gr T H H') (h : Nw H a) (e : H' a = some o) (nt : NoTab o) : Hs T p n ((a, o) :: L) G H' := by
  have s2 := s.gr g
  have no : ∀ u, H a = some u → ¬ NoTab u := fun u hu n2 => by
    obtain ⟨ps, z⟩ := h u hu
    exact n2.1 ps z
  obtain ⟨⟨q, ⟨ds, x, m, c, h1, h2, _⟩, a2, a3, a4⟩, fz, gp, cel, nod, tab⟩ := s
  obtain ⟨⟨q', b1, b2, b3, b4⟩, fz', _, cel', _, tab'⟩ := s2
  refine ⟨⟨q', b1, b2, b3, fun y hy => ?_⟩, fz', gp, fun y hy => ?_, ?_, tab'⟩
  · rcases List.mem_cons.mp hy with rfl | hy
    · intro z
      obtain ⟨ds', x', m', c', k1, k2, _⟩ := b1
      have e1 := g.at h1 .lst
      rw [k1] at e1
      cases e1
      exact no _ (by rw [show a = q from z]; exact h2) .lst
    · exact b4 y hy
  · rcases List.mem_cons.mp hy with rfl | hy
    · refine ⟨e, ?_, fun z => ?_, nt⟩
      · cases q0 : G a with
        | none => rfl
        | some u => exact absurd (fz.nt a u q0) (no u (fz.sub a u q0))
      · exact no _ (by rw [show a = p from z]; exact h1) .lst
    · exact cel' y hy
  · rw [List.map_cons, List.nodup_cons]
    refine ⟨fun hm => ?_, nod⟩
    obtain ⟨y, hy, e2⟩ := List.mem_map.mp hm
    obtain ⟨c1, _, _, c4⟩ := cel y hy
    rw [e2] at c1
    exact no _ c1 c4
/-- the first cell is left alone -/
theorem Hs.drop1 {c : Addr × HO} (s : Hs T p n (c :: L) G H) : Hs T p n L G H := s.sub (.cons _ (.refl _))
/-- the second cell is left alone -/
theorem Hs.drop2 {c d : Addr × HO} (s : Hs T p n (c :: d :: L) G H) : Hs T p n (c :: L) G H := s.sub (.cons₂ _ (.cons _ (.refl _)))
/-- the second cell first -/
theorem Hs.swap {c d : Addr × HO} (s : Hs T p n (c :: d :: L) G H) : Hs T p n (d :: c :: L) G H := by
  obtain ⟨⟨q, b1, b2, b3, b4⟩, fz, gp, cel, nod, tab⟩ := s
  have pm : (d :: c :: L).Perm (c :: d :: L) := .swap ..
  exact ⟨⟨q, b1, b2, b3, fun x hx => b4 x (pm.mem_iff.mp hx)⟩, fz, gp, fun x hx => cel x (pm.mem_iff.mp hx), (pm.map _).nodup_iff.mpr nod, tab⟩
/-- what is frozen stands -/
theorem Hs.fzat {a : Addr} {o : HO} (s : Hs T p n L G H) (h : G a = some o) : H a = some o := s.fz.sub _ _ h
theorem Hs.gfree {a : Addr} (s : Hs T p n L G H) (h : H a = none) : G a = none := s.fz.free h
theorem Hs.cfree {c : Addr × HO} (s : Hs T p n (c :: L) G H) : G c.1 = none := (s.cel c (List.mem_cons_self ..)).2.1
/-- all tuples are frozen -/
def fzT (G H : Hp) : Hp := fun b => match G b with
  | some o => some o
  | none => match H b with
    | some (.tup zs) => some (.tup zs)
    | _ => none
theorem fzT_old {b : Addr} {o : HO} (h : G b = some o) : fzT G H b = some o := by
  unfold fzT
  rw [h]
theorem fzT_tup {b : Addr} {zs : List V} (f : Fz G H) (h : H b = some (.tup zs)) : fzT G H b = some (.tup zs) := by
  unfold fzT
  cases q : G b with
  | some o =>
    have := f.sub b o q
    rw [h] at this
    cases this
    rfl
  | none => simp only [h]
theorem fzT_cases {b : Addr} {o : HO} (h : fzT G H b = some o) : G b = some o ∨ (H b = some o ∧ ∃ zs, o = .tup zs) := by
  unfold fzT at h
  cases q : G b with
  | some u =>
    rw [q] at h
    exact .inl h
  | none =>
    rw [q] at h
    cases q2 : H b with
    | none => rw [q2] at h; cases h
    | some u =>
      rw [q2] at h
      cases u with
      | tup zs =>
        cases h
        exact .inr ⟨rfl, zs, rfl⟩
      | _ => cases h
theorem fzT_none {b : Addr} (h : G b = none) (n : ∀ zs, H b ≠ some (.tup zs)) : fzT G H b = none := by
  cases q : fzT G H b with
  | none => rfl
  | some o =>
    rcases fzT_cases q with z | ⟨z, zs, e⟩
    · rw [h] at z
      cases z
    · exact absurd (e ▸ z) (n zs)
theorem Hs.fzTup (s : Hs T p n L G H) (hL : ∀ x ∈ L, ∀ zs, x.2 ≠ .tup zs) : Hs T p n L (fzT G H) H := by
  obtain ⟨⟨q, a, b1, b2, b3⟩, fz, gp, cel, nod, tab⟩ := s
  obtain ⟨ds, x, m, c, h1, h2, h3⟩ := id a
  refine ⟨⟨q, a, fzT_none b1 (fun zs z => by rw [h2] at z; cases z), b2, b3⟩, ⟨fun b o e => ?_, fun b o e => ?_⟩, fzT_none gp (fun zs z => by rw [h1] at z; cases z), fun y hy => ?_, nod, tab⟩
  · rcases fzT_cases e with z | ⟨z, _⟩
    · exact fz.sub b o z
    · exact z
  · rcases fzT_cases e with z | ⟨_, zs, z⟩
    · exact fz.nt b o z
    · rw [z]
      exact .tup
  · obtain ⟨c1, c2, c3⟩ := cel y hy
    exact ⟨c1, fzT_none c2 (fun zs z => hL y hy zs (Option.some.inj (c1.symm.trans z))), c3⟩
/-- less is frozen -/
theorem Hs.less {G0 : Hp} (s : Hs T p n L G H) (h : Same G0 G) : Hs T p n L G0 H := by
  obtain ⟨⟨q, a, b1, b2, b3⟩, fz, gp, cel, nod, tab⟩ := s
  exact ⟨⟨q, a, h.free b1, b2, b3⟩, ⟨fun b o e => fz.sub b o (h b o e), fun b o e => fz.nt b o (h b o e)⟩, h.free gp, fun y hy => ⟨(cel y hy).1, h.free (cel y hy).2.1, (cel y hy).2.2⟩, nod, tab⟩
/-- a frozen cell is written -/
theorem Hs.fput {l : Addr} {o o' : HO} (s : Hs T p n L G H) (h : G l = some o) (nt : NoTab o') : Hs T p n L (upd G l o') (upd H l o') := by
  obtain ⟨⟨q, ⟨ds, x, m, c, h1, h2, h3⟩, b1, b2, b3⟩, fz, gp, cel, nod, tab⟩ := s
  have lp : p ≠ l := fun z => by rw [z, h] at gp; cases gp
  have lq : q ≠ l := fun z => by rw [z, h] at b1; cases b1
  refine ⟨⟨q, ⟨ds, x, m, c, by rw [upd_ne lp]; exact h1, by rw [upd_ne lq]; exact h2, h3⟩, by rw [upd_ne lq]; exact b1, b2, b3⟩, ⟨fun b u e => ?_, fun b u e => ?_⟩, by rw [upd_ne lp]; exact gp, fun y hy => ?_, nod, Tabs.upd tab (fz.sub _ _ h) (fz.nt _ _ h)⟩
  · by_cases hb : b = l
    · rw [hb, upd_same] at e ⊢
      exact e
    · rw [upd_ne hb] at e ⊢
      exact fz.sub b u e
  · by_cases hb : b = l
    · rw [hb, upd_same] at e
      cases e
      exact nt
    · rw [upd_ne hb] at e
      exact fz.nt b u e
  · obtain ⟨c1, c2, c3⟩ := cel y hy
    have ly : y.1 ≠ l := fun z => by rw [z, h] at c2; cases c2
    rw [upd_ne ly, upd_ne ly]
    exact ⟨c1, c2, c3⟩
end
end Sk
namespace Sk
open PySem PySem.Spec PyProof.Rows L2
/-! ### catalogues -/
structure Ent where
  name : Str
  w : Int
  parts : List Str
/-- an entry: a tuple of a name, a weight and a list of names -/
def EntAt (G : Hp) (v : V) (e : Ent) : Prop := ∃ t l, v = .ref t ∧ G t = some (.tup [.str e.name, .int e.w, .ref l]) ∧ G l = some (.lst (e.parts.map V.str))
abbrev CatAt (G : Hp) (vs : List V) (es : List Ent) : Prop := Paired (EntAt G) vs es
theorem EntAt.mono {G G' : Hp} {v : V} {e : Ent} (h : EntAt G v e) (s : Same G G') : EntAt G' v e := by
  obtain ⟨t, l, a, b, c⟩ := h
  exact ⟨t, l, a, s _ _ b, s _ _ c⟩
theorem CatAt.mono {G G' : Hp} (s : Same G G') : ∀ {vs : List V} {es : List Ent}, CatAt G vs es → CatAt G' vs es
  | _, _, .nil => .nil
  | _, _, .cons h t => .cons (h.mono s) (CatAt.mono s t)
theorem EntAt.gr {Tb : List (Addr × Str)} {G G' : Hp} {v : V} {e : Ent} (h : EntAt G v e) (s : Gr Tb G G') : EntAt G' v e := by
  obtain ⟨t, l, a, b, c⟩ := h
  exact ⟨t, l, a, s.at b .tup, s.at c .lst⟩
theorem CatAt.gr {Tb : List (Addr × Str)} {G G' : Hp} (s : Gr Tb G G') : ∀ {vs : List V} {es : List Ent}, CatAt G vs es → CatAt G' vs es
  | _, _, .nil => .nil
  | _, _, .cons h t => .cons (h.gr s) (CatAt.gr s t)
section
variable {α β : Type} {R : α → β → Prop}
theorem Paired.len : ∀ {xs : List α} {ys : List β}, Paired R xs ys → xs.length = ys.length
  | _, _, .nil => rfl
  | _, _, .cons _ t => by rw [List.length_cons, List.length_cons, Paired.len t]
theorem Paired.at : ∀ {xs : List α} {ys : List β} {i : Nat} {x : α}, Paired R xs ys → xs[i]? = some x → ∃ y, ys[i]? = some y ∧ R x y
  | _, _, _, _, .nil, e => by simp at e
  | _, _, 0, _, .cons h _, e => by simp at e; subst e; exact ⟨_, rfl, h⟩
  | _, _, i + 1, x, .cons _ t, e => by
    obtain ⟨y, h1, h2⟩ := Paired.at (i := i) (x := x) t (by simpa using e)
    exact ⟨y, by simpa using h1, h2⟩
theorem Paired.at2 : ∀ {xs : List α} {ys : List β} {i : Nat} {y : β}, Paired R xs ys → ys[i]? = some y → ∃ x, xs[i]? = some x ∧ R x y
  | _, _, _, _, .nil, e => by simp at e
  | _, _, 0, _, .cons h _, e => by simp at e; subst e; exact ⟨_, rfl, h⟩
  | _, _, i + 1, y, .cons _ t, e => by
    obtain ⟨x, h1, h2⟩ := Paired.at2 (i := i) (y := y) t (by simpa using e)
    exact ⟨x, by simpa using h1, h2⟩
theorem Paired.snoc {x : α} {y : β} (h : R x y) : ∀ {xs : List α} {ys : List β}, Paired R xs ys → Paired R (xs ++ [x]) (ys ++ [y])
  | _, _, .nil => .cons h .nil
  | _, _, .cons a t => .cons a (Paired.snoc h t)
theorem Paired.app : ∀ {xs xs' : List α} {ys ys' : List β}, Paired R xs ys → Paired R xs' ys' → Paired R (xs ++ xs') (ys ++ ys')
  | _, _, _, _, .nil, s => s
  | _, _, _, _, .cons a t, s => .cons a (Paired.app t s)
theorem Paired.perm {xs xs' : List α} (p : xs'.Perm xs) : ∀ {ys : List β}, Paired R xs ys → ∃ ys', ys'.Perm ys ∧ Paired R xs' ys' := by
  induction p with
  | nil => intro ys h; exact ⟨ys, .refl _, h⟩
  | cons x _ ih =>
    intro ys h
    cases h with
    | cons a t =>
      obtain ⟨ys', p', h'⟩ := ih t
      exact ⟨_ :: ys', p'.cons _, .cons a h'⟩
  | swap x y l =>
    intro ys h
    cases h with
    | cons a t =>
      cases t with
      | cons b t => exact ⟨_, List.Perm.swap .., .cons b (.cons a t)⟩
  | trans _ _ ih1 ih2 =>
    intro ys h
    obtain ⟨y1, p1, h1⟩ := ih2 h
    obtain ⟨y2, p2, h2⟩ := ih1 h1
    exact ⟨y2, p2.trans p1, h2⟩
theorem Paired.map_left {γ : Type} {f : γ → α} : ∀ {xs : List γ} {ys : List β}, Paired R (xs.map f) ys → Paired (fun c => R (f c)) xs ys
  | [], _, h => by cases h; exact .nil
  | x :: xs, _, h => by
    cases h with
    | cons a t => exact .cons a (Paired.map_left t)
theorem Paired.imp {R' : α → β → Prop} (f : ∀ a b, R a b → R' a b) : ∀ {xs : List α} {ys : List β}, Paired R xs ys → Paired R' xs ys
  | _, _, .nil => .nil
  | _, _, .cons a t => .cons (f _ _ a) (Paired.imp f t)
theorem Paired.left {xs : List α} {ys : List β} (h : Paired R xs ys) {x : α} (hx : x ∈ xs) : ∃ y ∈ ys, R x y := by
  obtain ⟨i, hi⟩ := List.mem_iff_getElem?.mp hx
  obtain ⟨y, h1, h2⟩ := Paired.at h hi
  exact ⟨y, List.mem_of_getElem? h1, h2⟩
theorem Paired.right {xs : List α} {ys : List β} (h : Paired R xs ys) {y : β} (hy : y ∈ ys) : ∃ x ∈ xs, R x y := by
  obtain ⟨i, hi⟩ := List.mem_iff_getElem?.mp hy
  obtain ⟨x, h1, h2⟩ := Paired.at2 h hi
  exact ⟨x, List.mem_of_getElem? h1, h2⟩
end
/-! ### dicts of numbers -/
abbrev Num := List (Str × Int)
def dS (d : Num) : List (Key × V) := d.map fun q => (Sum.inr q.1, V.int q.2)
def get? (d : Num) (x : Str) : Option Int := (d.find? fun q => decide (q.1 = x)).map (·.2)
def getD (d : Num) (x : Str) : Int := (get? d x).getD 0
def put (d : Num) (x : Str) (i : Int) : Num := if (d.any fun q => decide (q.1 = x)) = true then d.map (fun q => if q.1 = x then (q.1, i) else q) else d ++ [(x, i)]
theorem inr_dec (a b : Str) : decide ((Sum.inr a : Key) = Sum.inr b) = decide (a = b) := key_rr a b
theorem valV_dS (d : Num) (x : Str) : valV (dS d) (Sum.inr x) = (get? d x).map V.int := by
  unfold dS valV get?
  rw [List.find?_map]
  have : ((fun kv : Key × V => decide (kv.1 = Sum.inr x)) ∘ fun q : Str × Int => ((Sum.inr q.1 : Key), V.int q.2)) = fun q => decide (q.1 = x) := by
    funext q
    exact inr_dec _ _
  rw [this]
  cases d.find? fun q => decide (q.1 = x) <;> rfl
theorem putK_dS (d : Num) (x : Str) (i : Int) : putK (dS d) (Sum.inr x) (.int i) = dS (put d x i) := by
  unfold dS putK put
  rw [List.any_map]
  have : ((fun kv : Key × V => decide (kv.1 = Sum.inr x)) ∘ fun q : Str × Int => ((Sum.inr q.1 : Key), V.int q.2)) = fun q => decide (q.1 = x) := by
    funext q
    exact inr_dec _ _
  rw [this]
  split
  · rw [List.map_map, List.map_map]
    refine List.map_congr_left fun q _ => ?_
    show (if (Sum.inr q.1 : Key) = Sum.inr x then _ else _) = _
    by_cases e : q.1 = x
    · have e2 : (Sum.inr q.1 : Key) = Sum.inr x := congrArg _ e
      rw [if_pos e2]
      show _ = ((Sum.inr (if q.1 = x then (q.1, i) else q).1 : Key), V.int (if q.1 = x then (q.1, i) else q).2)
      rw [if_pos e]
    · have e2 : ¬ (Sum.inr q.1 : Key) = Sum.inr x := fun z => e (Sum.inr.inj z)
      rw [if_neg e2]
      show _ = ((Sum.inr (if q.1 = x then (q.1, i) else q).1 : Key), V.int (if q.1 = x then (q.1, i) else q).2)
      rw [if_neg e]
  · rw [List.map_append]
    rfl
theorem dS_len (d : Num) : (dS d).length = d.length := List.length_map ..
/-! ### targets, comprehensions -/
theorem gtup3 {K : PySem.W.Frag} {i j k : Nat} {t : Addr} {x y z : V} {σ : L2.St} {H : Hp} {Q : L2.St → Hp → Prop} (h : H t = some (.tup [x, y, z])) (q : Q (((σ.set i (some x)).set j (some y)).set k (some z)) H) :
    gTup K 3 (gCons (gName i) (gCons (gName j) (gCons (gName k) gNil))) (.ref t) σ H Q := ⟨t, _, rfl, SqT.of h, rfl, x, _, rfl, y, _, rfl, z, _, rfl, rfl, q⟩
theorem gtup2 {K : PySem.W.Frag} {i j : Nat} {t : Addr} {x y : V} {σ : L2.St} {H : Hp} {Q : L2.St → Hp → Prop} (h : H t = some (.tup [x, y])) (q : Q ((σ.set i (some x)).set j (some y)) H) :
    gTup K 2 (gCons (gName i) (gCons (gName j) gNil)) (.ref t) σ H Q := ⟨t, _, rfl, SqT.of h, rfl, x, _, rfl, y, _, rfl, rfl, q⟩
theorem filterMap_take {α β : Type} (f : α → Option β) (xs : List α) {i : Nat} {x : α} (h : xs[i]? = some x) : (xs.take (i + 1)).filterMap f = (xs.take i).filterMap f ++ (f x).toList := by
  rw [List.take_add_one, h, List.filterMap_append]
  show _ ++ List.filterMap f [x] = _
  rw [List.filterMap_cons]
  cases f x <;> rfl
/-- a comprehension that makes, item by item, what f says; the heap grows meanwhile -/
theorem lc_fm {Tb : List (Addr × Str)} {J : It} {n : Nat} {GG : Hp → Prop} {xs : List V} (wk : Walk J n GG (YAt xs)) (hn : n = xs.length) {g : TG} {tt : TT} {te : TE} {vs : List Nat} {σ : L2.St} {H1 : Hp} {D : Addr} {Qd : Hp → Prop} (f : V → Option V) (hD : H1 D = none) (hz : n ≤ 16777215)
    (hG : ∀ H, Gr Tb H1 H → GG H)
    (turn : ∀ (i : Nat) (x : V) (H : Hp), xs[i]? = some x → Gr Tb H1 H → ∀ (Rk : V → Hp → Prop) (Rs : Hp → Prop), (∀ y H4, f x = some y → Gr Tb H H4 → Rk y H4) → (∀ H4, f x = none → Gr Tb H H4 → Rs H4) →
      g x (wipe σ vs) H fun σ2 H2 => wipe σ2 vs = wipe σ vs ∧ tt σ2 H2 fun b H3 => if b = true then te σ2 H3 Rk else Rs H3)
    (done : ∀ H, Gr Tb H1 H → H D = some (.lst (xs.filterMap f)) → Qd H) :
    ∃ W : Nat → Nat → Hp → Prop, (∃ m, W 0 m (upd H1 D (.lst []))) ∧ ∀ i m H, W i m H →
      (J.stop i H ∧ Qd H) ∨ (J.go i H ∧ ∃ Nx : Hp → Prop, (∀ H', Nx H' → ∃ m', m' < m ∧ W (i + 1) m' H') ∧ ∀ x H', J.yld i H x H' → g x (wipe σ vs) H' fun σ2 H2 => wipe σ2 vs = wipe σ vs ∧ tt σ2 H2 fun b H3 =>
        if b = true then te σ2 H3 fun y H4 => ∃ acc, H4 D = some (.lst acc) ∧ acc.length < sizeLine ∧ Nx (upd H4 D (.lst (acc ++ [y]))) else Nx H3) := by
  have put : ∀ {H : Hp} {acc acc' : List V}, Gr Tb H1 H → H D = some (.lst acc) → Gr Tb H1 (upd H D (.lst acc')) := fun {H acc acc'} g hd => by
    refine ⟨fun b o e nt => ?_, fun t p hp => ?_⟩
    · rw [upd_ne (ne_of_none e hD)]
      exact g.ext b o e nt
    · obtain ⟨ps, b1, b2, b3⟩ := g.tab t p hp
      have na : p.1 ≠ D := ne_of b1 hd (fun z => by cases z)
      refine ⟨ps, by rw [upd_ne na]; exact b1, b2, fun po cv hc => ?_⟩
      obtain ⟨c', e1, e2⟩ := b3 po cv hc
      refine ⟨c', e1, ?_⟩
      rw [upd_ne (ne_of e2 hd (fun z => by unfold LamX.CodeO at z; cases z))]
      exact e2
  have h0 : Gr Tb H1 (upd H1 D (.lst [])) := Gr.new hD
  refine lc_it wk (fun i H => Gr Tb H1 H ∧ H D = some (.lst ((xs.take i).filterMap f))) ⟨h0, upd_same⟩ (fun i H _ p => hG H p.1) (fun i x H H' hi p y => ?_) (fun H p => ?_)
  · obtain ⟨rfl, hx⟩ := y
    refine turn i x H' hx p.1 _ _ (fun y H4 e gr => ?_) (fun H4 e gr => ?_)
    · have hd := gr.at p.2 .lst
      refine ⟨_, hd, ?_, put (p.1.trans gr) hd, ?_⟩
      · have l1 : ((xs.take i).filterMap f).length ≤ i := Nat.le_trans (List.length_filterMap_le _ _) (by rw [List.length_take]; omega)
        rw [sizeLine_eq]
        omega
      · rw [upd_same, filterMap_take f xs hx, e]
        rfl
    · refine ⟨p.1.trans gr, ?_⟩
      rw [filterMap_take f xs hx, e, gr.at p.2 .lst]
      simp
  · refine done H p.1 ?_
    have := p.2
    rw [hn, List.take_length] at this
    exact this
/-- the signs of a text, each as a text -/
def signs (z : Str) : List V := z.cps.toList.map fun c => V.str ⟨#[c]⟩
theorem walk_text {z : Str} : Walk (Its z) (signs z).length (fun _ => True) (YAt (signs z)) := by
  have e : (signs z).length = z.cps.size := by
    unfold signs
    rw [List.length_map, Array.length_toList]
  rw [e]
  refine walk_str.mono (fun _ h => h) fun i H v H' hi _ y => ?_
  obtain ⟨h1, c, h2, h3⟩ := y
  refine ⟨h1, ?_⟩
  unfold signs
  rw [List.getElem?_map, Array.getElem?_toList, h2, h3]
  rfl
/-- all([c in z for c in x]) -/
theorem rd_allIn {Tb : List (Addr × Str)} {K : PySem.W.Frag} {i : Nat} {x z : Str} {σ : L2.St} {H : Hp} {Q : VK} (h0 : σ[0]? = some (some (.str x))) (hw : (wipe σ [i]).length = σ.length) (hi : i < σ.length) (hz : x.length ≤ 1000000)
    (k : ∀ H', Gr Tb H H' → Q (.bl (x.cps.toList.all fun c => decide (c ∈ z.cps.toList))) H') :
    tCB (rAll K) (tCons (tLc (iStr (tVar 0)) (gName i) tYes (tOp (fun x y H Q => ∃ (c : Nat) (z : Str), x = V.str ⟨#[c]⟩ ∧ y = V.str z ∧ Q (V.bl (decide (c ∈ z.cps.toList))) H) (tVar i) (tC (V.str z))) [i]) tNil) σ H Q := by
  refine ⟨_, h0, x, rfl, fun D hD => lc_fm (Tb := Tb) (xs := signs x) walk_text rfl (fun v => match v with | .str y => some (.bl (decide (y.cps.getD 0 0 ∈ z.cps.toList))) | _ => none) hD ?_ (fun _ _ => trivial) (fun j v H' hv _ Rk Rs hk hs => ?_) fun H' g hd => ?_⟩
  · unfold signs
    rw [List.length_map, Array.length_toList]
    have : x.cps.size = x.length := rfl
    omega
  · unfold signs at hv
    rw [List.getElem?_map] at hv
    cases hc : x.cps.toList[j]? with
    | none =>
      rw [hc] at hv
      cases hv
    | some c =>
      rw [hc] at hv
      cases hv
      refine ⟨?_, V.str ⟨#[c]⟩, ?_, c, z, rfl, rfl, hk _ _ ?_ (Gr.refl _)⟩
      · show List.set (List.set (List.set σ i none) i (some (V.str ⟨#[c]⟩))) i none = List.set σ i none
        rw [List.set_set, List.set_set]
      · rw [List.getElem?_set_self (by rw [hw]; exact hi)]
      · simp
  · refine ⟨D, x.cps.toList.map fun c => decide (c ∈ z.cps.toList), rfl, ?_, ?_⟩
    · have e : (signs x).filterMap (fun v => match v with | .str y => some (V.bl (decide (y.cps.getD 0 0 ∈ z.cps.toList))) | _ => none) = (x.cps.toList.map fun c => decide (c ∈ z.cps.toList)).map V.bl := by
        unfold signs
        rw [List.filterMap_map, List.map_map, ← List.filterMap_eq_map]
        rfl
      rw [e] at hd
      exact SqL.of hd
    · have e : (x.cps.toList.map fun c => decide (c ∈ z.cps.toList)).all id = x.cps.toList.all fun c => decide (c ∈ z.cps.toList) := by
        rw [List.all_map]
        rfl
      rw [e]
      exact k H' g
/-! ### a list beside an empty one -/
def rNil (K : PySem.W.Frag) (neg : Bool) : R2 := fun x y H Q => ∃ (a b : Addr) (xs : List V), x = .ref a ∧ y = .ref b ∧ SqL K H a xs ∧ SqL K H b [] ∧ Q (.bl (if neg then !xs.isEmpty else xs.isEmpty)) H
section
variable {X : Cx}
theorem op_eqNil (hu : X.A.units + 64 < cLine) : OpR X (compareOp .Eq) (rNil X.K false) := by
  intro pins s σ H x y v u Q I rx ry h
  obtain ⟨a, b, xs, rfl, rfl, hx, hy, q⟩ := h
  obtain rfl : v = Value.ref a := rx
  obtain rfl : u = Value.ref b := ry
  obtain ⟨its, r1, p1, _⟩ := I.list hx
  obtain ⟨its2, r2, p2, _⟩ := I.list hy
  cases r2
  cases xs with
  | nil =>
    cases r1
    exact SeqAt.eq_listAt (e := fun _ => true) p1.isList p2.isList rfl (by omega) (fun j h1 => absurd h1 (by simp)) ⟨.bl true, H, I, rfl, q⟩
  | cons z zs =>
    cases r1
    exact SeqAt.eq_list_lengthsAt p1.isList p2.isList (by simp) (by omega) ⟨.bl false, H, I, rfl, q⟩
theorem op_neNil (hu : X.A.units + 64 < cLine) : OpR X (compareOp .NotEq) (rNil X.K true) := by
  intro pins s σ H x y v u Q I rx ry h
  obtain ⟨a, b, xs, rfl, rfl, hx, hy, q⟩ := h
  obtain rfl : v = Value.ref a := rx
  obtain rfl : u = Value.ref b := ry
  obtain ⟨its, r1, p1, _⟩ := I.list hx
  obtain ⟨its2, r2, p2, _⟩ := I.list hy
  cases r2
  cases xs with
  | nil =>
    cases r1
    exact SeqAt.RcNeAt.lists (e := fun _ => true) p1.isList p2.isList rfl (by omega) (fun j h1 => absurd h1 (by simp)) _ _ _ _ ⟨.bl false, H, I, rfl, q⟩
  | cons z zs =>
    cases r1
    exact SeqAt.RcNeAt.lists_lengths p1.isList p2.isList (by simp) (by omega) _ _ _ _ ⟨.bl true, H, I, rfl, q⟩
end
/-- the reading: x beside a new empty list -/
theorem rd_nil {K : PySem.W.Frag} {neg : Bool} {a : Addr} {xs : List V} {σ : L2.St} {H : Hp} {Q : VK} (h : SqL K H a xs) (k : ∀ p, H p = none → Q (.bl (if neg then !xs.isEmpty else xs.isEmpty)) (upd H p (.lst []))) :
    tLst tNil σ H fun y H2 => rNil K neg (.ref a) y H2 Q := ⟨Nat.zero_le _, fun p hp => ⟨a, p, xs, rfl, rfl, (Same.upd hp).seq h, SqL.of upd_same, k p hp⟩⟩
/-- while, the test apart from the body: Pv ahead of the test, PT behind a true one, PF behind a false one -/
theorem while_cps {c : TT} {tb : TS} {D : Ends} {σ : L2.St} {H : Hp} (Pv PT PF : Nat → L2.St → Hp → Prop) (m0 : Nat) (h0 : Pv m0 σ H)
    (test : ∀ m σ H, Pv m σ H → ∀ R : Bool → Hp → Prop, (∀ H1, PT m σ H1 → R true H1) → (∀ H1, PF m σ H1 → R false H1) → c σ H R)
    (body : ∀ m σ H, PT m σ H → tb { D with nx := fun σ' H' => ∃ m', m' < m ∧ Pv m' σ' H', ct := fun σ' H' => ∃ m', m' < m ∧ Pv m' σ' H', bk := D.nx } σ H) (done : ∀ m σ H, PF m σ H → D.nx σ H) : tWhile c tb D σ H := by
  refine ⟨Pv, ⟨m0, h0⟩, fun m σ H p => ?_⟩
  refine test m σ H p _ (fun H1 q => ?_) (fun H1 q => ?_)
  · show (if true = true then _ else _)
    rw [if_pos rfl]
    exact ⟨_, fun _ _ n => n, body m σ H1 q⟩
  · show (if false = true then _ else _)
    rw [if_neg Bool.false_ne_true]
    exact done m σ H1 q
/-- the first item of the tuple that stands at v -/
def itemAt (H : Hp) (i : Nat) : V → Option V
  | .ref t => match H t with
    | some (.tup xs) => xs[i]?
    | _ => none
  | _ => none
theorem itemAt_tup {H : Hp} {t : Addr} {xs : List V} {i : Nat} (h : H t = some (.tup xs)) : itemAt H i (.ref t) = xs[i]? := by
  show (match H t with
    | some (.tup xs) => xs[i]?
    | _ => none) = xs[i]?
  rw [h]
theorem fm_paired {α β γ : Type} {R : α → β → Prop} {f : α → Option γ} {g : β → γ} (hf : ∀ a b, R a b → f a = some (g b)) : ∀ {xs : List α} {ys : List β}, Paired R xs ys → xs.filterMap f = ys.map g
  | _, _, .nil => rfl
  | x :: xs, y :: ys, .cons a t => by
    rw [List.filterMap_cons, hf _ _ a, fm_paired hf t]
    rfl
theorem fm_pairedO {α β γ : Type} {R : α → β → Prop} {f : α → Option γ} {g : β → Option γ} (hf : ∀ a b, R a b → f a = g b) : ∀ {xs : List α} {ys : List β}, Paired R xs ys → xs.filterMap f = ys.filterMap g
  | _, _, .nil => rfl
  | x :: xs, y :: ys, .cons a t => by
    rw [List.filterMap_cons, List.filterMap_cons, hf _ _ a, fm_pairedO hf t]
/-- the index of an item from the start -/
theorem seq_ix {r : Int} {n : Nat} (h0 : 0 ≤ r) (h1 : r < n) : seqIndex? r n = some r.toNat := by
  unfold seqIndex?
  rw [if_neg (show ¬ r < 0 by omega)]
  simp
  exact ⟨h0, h1⟩
theorem perm_map {α β : Type} (f : α → β) {ys : List β} {xs : List α} (p : ys.Perm (xs.map f)) : ∃ zs : List α, ys = zs.map f ∧ zs.Perm xs := by
  have h : Paired (fun y x => y = f x) (xs.map f) xs := by
    clear p
    induction xs with
    | nil => exact .nil
    | cons x xs ih => exact .cons rfl ih
  obtain ⟨zs, p1, h1⟩ := Paired.perm p h
  refine ⟨zs, ?_, p1⟩
  clear p p1 h
  induction h1 with
  | nil => rfl
  | cons a _ ih => rw [List.map_cons, ← a, ← ih]
theorem pick_at {α : Type} {xs : List α} {r : Int} (h0 : 0 ≤ r) (h1 : r < xs.length) : ∃ y ∈ xs, atI xs r = some y := by
  obtain ⟨j, rfl⟩ := Int.eq_ofNat_of_zero_le h0
  have hj : j < xs.length := by omega
  exact ⟨xs[j], List.getElem_mem _, atI_nat (List.getElem?_eq_getElem hj)⟩
theorem pick_int {xs : List V} (is : List Int) {r : Int} {P : Int → Prop} (e : xs = is.map V.int) (h0 : 0 ≤ r) (h1 : r < is.length) (hp : ∀ i ∈ is, P i) : ∃ i, atI xs r = some (.int i) ∧ P i := by
  subst e
  obtain ⟨y, hy, e⟩ := pick_at (xs := is.map V.int) h0 (by rw [List.length_map]; exact h1)
  obtain ⟨i, hi, rfl⟩ := List.mem_map.mp hy
  exact ⟨i, e, hp i hi⟩
theorem cut_take {xs : List V} {k : Int} (h : 0 ≤ k) : cutV xs none (some k) = xs.take k.toNat := by
  obtain ⟨j, rfl⟩ := Int.eq_ofNat_of_zero_le h
  unfold cutV
  rw [HT.sIx_nat, HT.sIx_none]
  show List.take (min j xs.length - 0) xs = List.take j xs
  rw [Nat.sub_zero]
  rcases Nat.le_total j xs.length with z | z
  · rw [Nat.min_eq_left z]
  · rw [Nat.min_eq_right z, List.take_length, List.take_of_length_le z]
/-- what is known behind an expression -/
theorem rd_post {t : TE} {σ : L2.St} {H : Hp} {Q : VK} (P : V → Hp → Prop) (h : ∀ Q' : VK, (∀ x H', P x H' → Q' x H') → t σ H Q') (k : ∀ x H', P x H' → Q x H') : t σ H Q := h Q k
theorem goN {i : Nat} {x : V} {σ : L2.St} {H : Hp} {Q : L2.St → Hp → Prop} (h : Q (σ.set i (some x)) H) : gName i x σ H Q := h
/-- x = e; then the rest: what is known behind e -/
theorem sq_asg {t : TE} {i : Nat} {u : TS} {D : Ends} {σ : L2.St} {H : Hp} (P : V → Hp → Prop) (h : ∀ Q' : VK, (∀ x H', P x H' → Q' x H') → t σ H Q') (k : ∀ x H', P x H' → u D (σ.set i (some x)) H') : tSeq (tAsg t (gName i)) u D σ H := h _ k
/-- t; then the rest: what is known behind t -/
theorem sq_st {t u : TS} {D : Ends} {σ : L2.St} {H : Hp} (P : L2.St → Hp → Prop) (h : ∀ N : L2.St → Hp → Prop, (∀ σ' H', P σ' H' → N σ' H') → t { D with nx := N } σ H) (k : ∀ σ' H', P σ' H' → u D σ' H') : tSeq t u D σ H := h _ k
theorem Paired.flip {α β : Type} {R : α → β → Prop} : ∀ {xs : List α} {ys : List β}, Paired R xs ys → Paired (fun y x => R x y) ys xs
  | _, _, .nil => .nil
  | _, _, .cons a t => .cons a (Paired.flip t)
theorem Paired.trans {α β γ : Type} {R : α → β → Prop} {S : β → γ → Prop} : ∀ {xs : List α} {ys : List β} {zs : List γ}, Paired R xs ys → Paired S ys zs → Paired (fun x z => ∃ y, R x y ∧ S y z) xs zs
  | _, _, _, .nil, .nil => .nil
  | _, _, _, .cons a t, .cons b u => .cons ⟨_, a, b⟩ (Paired.trans t u)
/-- a list that is not yet known is written -/
theorem Gr.put {Tb : List (Addr × Str)} {H1 H : Hp} {D : Addr} {acc acc' : List V} (hD : H1 D = none) (g : Gr Tb H1 H) (hd : H D = some (.lst acc)) : Gr Tb H1 (upd H D (.lst acc')) := g.mut (.of hD) hd .lst
/-- a comprehension that makes, item by item, something that R tells of; the heap grows meanwhile -/
theorem lc_rel {Tb : List (Addr × Str)} {J : It} {n : Nat} {GG : Hp → Prop} {xs : List V} (wk : Walk J n GG (YAt xs)) (hn : n = xs.length) {g : TG} {tt : TT} {te : TE} {vs : List Nat} {σ : L2.St} {H1 : Hp} {D : Addr} {Qd : Hp → Prop} (keep : V → Bool) (R : Hp → V → V → Prop)
    (mono : ∀ H H' x y, (∀ a o, NoTab o → (∀ l, o ≠ .lst l) ∨ a ≠ D → H a = some o → H' a = some o) → R H x y → R H' x y) (hD : H1 D = none) (hz : n ≤ 16777215)
    (hG : ∀ H, Gr Tb H1 H → GG H)
    (turn : ∀ (i : Nat) (x : V) (H : Hp), xs[i]? = some x → Gr Tb H1 H → H D ≠ none → ∀ (Rk : V → Hp → Prop) (Rs : Hp → Prop), (∀ y H4, keep x = true → Gr Tb H H4 → R H4 x y → Rk y H4) → (∀ H4, keep x = false → Gr Tb H H4 → Rs H4) →
      g x (wipe σ vs) H fun σ2 H2 => wipe σ2 vs = wipe σ vs ∧ tt σ2 H2 fun b H3 => if b = true then te σ2 H3 Rk else Rs H3)
    (done : ∀ H ys, Gr Tb H1 H → H D = some (.lst ys) → Paired (R H) (xs.filter keep) ys → Qd H) :
    ∃ W : Nat → Nat → Hp → Prop, (∃ m, W 0 m (upd H1 D (.lst []))) ∧ ∀ i m H, W i m H →
      (J.stop i H ∧ Qd H) ∨ (J.go i H ∧ ∃ Nx : Hp → Prop, (∀ H', Nx H' → ∃ m', m' < m ∧ W (i + 1) m' H') ∧ ∀ x H', J.yld i H x H' → g x (wipe σ vs) H' fun σ2 H2 => wipe σ2 vs = wipe σ vs ∧ tt σ2 H2 fun b H3 =>
        if b = true then te σ2 H3 fun y H4 => ∃ acc, H4 D = some (.lst acc) ∧ acc.length < sizeLine ∧ Nx (upd H4 D (.lst (acc ++ [y]))) else Nx H3) := by
  have h0 : Gr Tb H1 (upd H1 D (.lst [])) := Gr.new hD
  refine lc_it wk (fun i H => Gr Tb H1 H ∧ ∃ ys, H D = some (.lst ys) ∧ Paired (R H) ((xs.take i).filter keep) ys) ⟨h0, [], upd_same, by rw [List.take_zero]; exact .nil⟩ (fun i H _ p => hG H p.1) (fun i x H H' hi p y => ?_) (fun H p => ?_)
  · obtain ⟨rfl, hx⟩ := y
    obtain ⟨g1, ys, hd, pr⟩ := p
    have tk : (xs.take (i + 1)).filter keep = (xs.take i).filter keep ++ [x].filter keep := by
      rw [List.take_add_one, hx, List.filter_append]
      rfl
    refine turn i x H' hx g1 (by rw [hd]; exact fun z => by cases z) _ _ (fun y H4 e gr r => ?_) (fun H4 e gr => ?_)
    · have hd4 := gr.at hd .lst
      have hle : ys.length ≤ i := by
        rw [← Paired.len pr]
        exact Nat.le_trans (List.length_filter_le _ _) (by rw [List.length_take]; omega)
      refine ⟨_, hd4, by rw [sizeLine_eq]; omega, Gr.put hD (g1.trans gr) hd4, ys ++ [y], upd_same, ?_⟩
      rw [tk, List.filter_cons, if_pos e, List.filter_nil]
      have m2 : ∀ x z, R H4 x z → R (upd H4 D (.lst (ys ++ [y]))) x z := fun x z r => mono H4 _ x z (fun a o _ ha q => by
        rw [upd_ne]
        · exact q
        · rcases ha with ha | ha
          · exact fun e => by
              rw [e, hd4] at q
              cases q
              exact ha _ rfl
          · exact ha) r
      exact Paired.snoc (m2 x y r) (Paired.imp (fun a b r' => m2 a b (mono H' H4 a b (fun a o nt _ q => gr.at q nt) r')) pr)
    · refine ⟨g1.trans gr, ys, gr.at hd .lst, ?_⟩
      rw [tk, List.filter_cons, if_neg (by rw [e]; exact Bool.false_ne_true), List.filter_nil, List.append_nil]
      exact Paired.imp (fun a b r' => mono H' H4 a b (fun a o nt _ q => gr.at q nt) r') pr
  · obtain ⟨g1, ys, hd, pr⟩ := p
    rw [hn, List.take_length] at pr
    exact done H ys g1 hd pr
/-- [entry[0] for entry in ..] -/
theorem lc_names {Tb : List (Addr × Str)} {K : PySem.W.Frag} {a : Addr} {ys : List V} {es : List Ent} {i : Nat} {σ : L2.St} {H1 : Hp} {D : Addr} {Qd : Hp → Prop} (ha : SqL K H1 a ys) (hc : CatAt H1 ys es) (hz : es.length ≤ 100000) (hD : H1 D = none) (hi : (σ.set i none)[i]? = some none)
    (k : ∀ H', Gr Tb H1 H' → H' D = some (.lst ((es.map (·.name)).map V.str)) → Qd H') :
    ∃ W : Nat → Nat → Hp → Prop, (∃ m, W 0 m (upd H1 D (.lst []))) ∧ ∀ j m H, W j m H →
      ((Itl K a).stop j H ∧ Qd H) ∨ ((Itl K a).go j H ∧ ∃ Nx : Hp → Prop, (∀ H', Nx H' → ∃ m', m' < m ∧ W (j + 1) m' H') ∧ ∀ x H', (Itl K a).yld j H x H' → gName i x (wipe σ [i]) H' fun σ2 H2 => wipe σ2 [i] = wipe σ [i] ∧ tYes σ2 H2 fun b H3 =>
        if b = true then (tOp (rIxT K) (tVar i) (tC (.int 0))) σ2 H3 fun y H4 => ∃ acc, H4 D = some (.lst acc) ∧ acc.length < sizeLine ∧ Nx (upd H4 D (.lst (acc ++ [y]))) else Nx H3) := by
  have hl := Paired.len hc
  have hil : i < σ.length := by
    have := (List.getElem?_eq_some_iff.mp hi).1
    rwa [List.length_set] at this
  refine lc_fm (Tb := Tb) (xs := ys) walk_list rfl (itemAt H1 0) hD (by omega) (fun H' g => g.ext_seq ha) (fun j v H' hv g Rk Rs hk hs => ?_) fun H' g hD' => ?_
  · obtain ⟨e, he, t, lp, rfl, h1, h2⟩ := Paired.at hc hv
    have e1 : wipe ((wipe σ [i]).set i (some (V.ref t))) [i] = wipe σ [i] := by
      show List.set (List.set (List.set σ i none) i (some (V.ref t))) i none = List.set σ i none
      rw [List.set_set, List.set_set]
    have e2 : ((wipe σ [i]).set i (some (V.ref t)))[i]? = some (some (V.ref t)) := by
      show (List.set (List.set σ i none) i (some (V.ref t)))[i]? = _
      rw [List.getElem?_set_self (by rw [List.length_set]; exact hil)]
    exact ⟨e1, _, e2, t, _, _, _, rfl, rfl, SqT.of (g.at h1 .tup), atI_nat (j := 0) rfl, hk _ _ (by rw [itemAt_tup h1]; rfl) (Gr.refl _)⟩
  · have e : ys.filterMap (itemAt H1 0) = (es.map (·.name)).map V.str := by
      rw [List.map_map]
      exact fm_paired (fun v e ⟨t, lp, h0, h1, h2⟩ => by rw [h0, itemAt_tup h1]; rfl) hc
    rw [e] at hD'
    exact k H' g hD'
end Sk
/-! dicts of numbers -/
namespace Sk
open PySem PySem.Spec PyProof.Rows L2
/-- f at the names of es -/
def numOf (es : List Ent) (f : Str → Int) : Num := es.map fun e => (e.name, f e.name)
def upF (f : Str → Int) (x : Str) (i : Int) : Str → Int := fun y => if y = x then i else f y
theorem numOf_names (es : List Ent) (f : Str → Int) : (numOf es f).map (·.1) = es.map (·.name) := by
  unfold numOf
  rw [List.map_map]
  rfl
theorem numOf_len (es : List Ent) (f : Str → Int) : (numOf es f).length = es.length := List.length_map ..
theorem get?_numOf {f : Str → Int} {x : Str} : ∀ {es : List Ent}, x ∈ es.map (·.name) → get? (numOf es f) x = some (f x)
  | [], h => by cases h
  | e :: es, h => by
    unfold numOf get?
    rw [List.map_cons, List.find?_cons]
    by_cases q : e.name = x
    · rw [show decide ((e.name, f e.name).1 = x) = true from decide_eq_true q, ← q]
      rfl
    · rw [show decide ((e.name, f e.name).1 = x) = false from decide_eq_false q]
      rw [List.map_cons] at h
      exact get?_numOf ((List.mem_cons.mp h).resolve_left fun z => q z.symm)
theorem get?_none {d : Num} {x : Str} (h : x ∉ d.map (·.1)) : get? d x = none := by
  unfold get?
  rw [List.find?_eq_none.mpr fun q hq => by
    rw [decide_eq_true_eq]
    exact fun e => h (List.mem_map.mpr ⟨q, hq, e⟩)]
  rfl
theorem getD_numOf {es : List Ent} {f : Str → Int} {x : Str} (h : x ∈ es.map (·.name)) : getD (numOf es f) x = f x := by
  unfold getD
  rw [get?_numOf h]
  rfl
theorem getD_none {d : Num} {x : Str} (h : x ∉ d.map (·.1)) : getD d x = 0 := by
  unfold getD
  rw [get?_none h]
  rfl
theorem put_numOf {es : List Ent} {f : Str → Int} {x : Str} {i : Int} (h : x ∈ es.map (·.name)) : put (numOf es f) x i = numOf es (upF f x i) := by
  unfold put
  rw [if_pos]
  · unfold numOf upF
    rw [List.map_map]
    refine List.map_congr_left fun e _ => ?_
    show (if e.name = x then (e.name, i) else (e.name, f e.name)) = (e.name, if e.name = x then i else f e.name)
    split <;> rfl
  · rw [List.any_eq_true]
    obtain ⟨e, he, q⟩ := List.mem_map.mp h
    exact ⟨(e.name, f e.name), List.mem_map.mpr ⟨e, he, rfl⟩, decide_eq_true q⟩
theorem numOf_congr {es : List Ent} {f g : Str → Int} (h : ∀ e ∈ es, f e.name = g e.name) : numOf es f = numOf es g := List.map_congr_left fun e he => by rw [h e he]
/-! ### d[x], d.get(x, 0), d[x] = i -/
theorem dgetO {H : Hp} {a : Addr} {d : Num} (h : H a = some (.dK (dS d))) (x : Str) : DGet H a (.str x) ((get? d x).map V.int) := by
  have := DGet.k (k := Sum.inr x) h
  rw [valV_dS] at this
  exact this
theorem dgetS {H : Hp} {a : Addr} {d : Num} {x : Str} {i : Int} (h : H a = some (.dK (dS d))) (e : get? d x = some i) : DGet H a (.str x) (some (.int i)) := by
  have := dgetO h x
  rw [e] at this
  exact this
theorem getO (d : Num) (x : Str) : ((get? d x).map V.int).getD (.int 0) = .int (getD d x) := by
  unfold getD
  cases get? d x <;> rfl
/-- d.get(x, 0), what is known -/
theorem dget2 {H : Hp} {a : Addr} {d : Num} {x : Str} {Q : VK} (h : H a = some (.dK (dS d))) (q : Q (.int (getD d x)) H) : ∃ o, DGet H a (.str x) o ∧ Q (o.getD (.int 0)) H := ⟨_, dgetO h x, by rw [getO]; exact q⟩
theorem dputS {H : Hp} {a : Addr} {d : Num} {x : Str} {i : Int} (h : H a = some (.dK (dS d))) (hz : d.length < sizeLine) : DPut H a (.str x) (.int i) (upd H a (.dK (dS (put d x i)))) := .inl ⟨_, Sum.inr x, h, rfl, by rw [dS_len]; exact hz, by rw [putK_dS]⟩
theorem IsD.num {H : Hp} {a : Addr} {d : Num} (h : H a = some (.dK (dS d))) : IsD H a := .inl ⟨_, .inl h⟩
/-! ### a dict comprehension of numbers -/
def putAll (d : Num) (l : Num) : Num := l.foldl (fun d q => put d q.1 q.2) d
theorem put_new' {d : Num} {x : Str} {i : Int} (h : x ∉ d.map (·.1)) : put d x i = d ++ [(x, i)] := by
  unfold put
  rw [if_neg]
  rw [List.any_eq_true]
  rintro ⟨q, hq, e⟩
  exact h (List.mem_map.mpr ⟨q, hq, by simpa using e⟩)
theorem putAll_new : ∀ (l d : Num), ((d ++ l).map (·.1)).Nodup → putAll d l = d ++ l
  | [], d, _ => (List.append_nil d).symm
  | q :: l, d, h => by
    have e : d ++ q :: l = (d ++ [q]) ++ l := by rw [List.append_assoc]; rfl
    rw [e] at h
    have hn : q.1 ∉ d.map (·.1) := by
      rw [List.map_append, List.map_append, List.append_assoc] at h
      have h2 := (List.nodup_append.mp h).2.2
      exact fun hm => h2 _ hm _ (List.mem_append_left _ (List.mem_map.mpr ⟨q, List.mem_singleton.mpr rfl, rfl⟩)) rfl
    show putAll (put d q.1 q.2) l = _
    rw [put_new' hn, putAll_new l _ h, e]
theorem put_len (d : Num) (x : Str) (i : Int) : (put d x i).length ≤ d.length + 1 := by
  unfold put
  split
  · rw [List.length_map]
    omega
  · rw [List.length_append]
    exact Nat.le_refl _
theorem putAll_len : ∀ (l d : Num), (putAll d l).length ≤ d.length + l.length
  | [], d => Nat.le_refl _
  | q :: l, d => by
    have h1 := putAll_len l (put d q.1 q.2)
    have h2 := put_len d q.1 q.2
    rw [List.length_cons]
    show (putAll (put d q.1 q.2) l).length ≤ _
    omega
theorem Gr.putD {Tb : List (Addr × Str)} {H1 H : Hp} {D : Addr} {acc acc' : List (Key × V)} (hD : H1 D = none) (g : Gr Tb H1 H) (hd : H D = some (.dK acc)) : Gr Tb H1 (upd H D (.dK acc')) := g.mut (.of hD) hd .dK
/-- a dict comprehension that makes, item by item, what f says; the heap grows meanwhile -/
theorem dc_fm {Tb : List (Addr × Str)} {J : It} {n : Nat} {GG : Hp → Prop} {xs : List V} (wk : Walk J n GG (YAt xs)) (hn : n = xs.length) {g : TG} {tt : TT} {tk tv : TE} {vs : List Nat} {σ : L2.St} {H1 : Hp} {D : Addr} {Qd : Hp → Prop} (f : V → Option (Str × Int)) (hD : H1 D = none) (hz : n ≤ 100000)
    (hG : ∀ H, Gr Tb H1 H → GG H)
    (turn : ∀ (i : Nat) (x : V) (H : Hp), xs[i]? = some x → Gr Tb H1 H → ∀ (Rk : V → V → Hp → Prop) (Rs : Hp → Prop), (∀ q H4, f x = some q → Gr Tb H H4 → Rk (.str q.1) (.int q.2) H4) → (∀ H4, f x = none → Gr Tb H H4 → Rs H4) →
      g x (wipe σ vs) H fun σ2 H2 => wipe σ2 vs = wipe σ vs ∧ tt σ2 H2 fun b H3 => if b = true then tk σ2 H3 fun y H4 => tv σ2 H4 fun z H5 => Rk y z H5 else Rs H3)
    (done : ∀ H, Gr Tb H1 H → H D = some (.dK (dS (putAll [] (xs.filterMap f)))) → Qd H) :
    ∃ W : Nat → Nat → Hp → Prop, (∃ m, W 0 m (upd H1 D (.dK []))) ∧ ∀ i m H, W i m H →
      (J.stop i H ∧ Qd H) ∨ (J.go i H ∧ ∃ Nx : Hp → Prop, (∀ H', Nx H' → ∃ m', m' < m ∧ W (i + 1) m' H') ∧ ∀ x H', J.yld i H x H' → g x (wipe σ vs) H' fun σ2 H2 => wipe σ2 vs = wipe σ vs ∧ tt σ2 H2 fun b H3 =>
        if b = true then tk σ2 H3 fun y H4 => tv σ2 H4 fun z H5 => ∃ kvs k, y = kV k ∧ H5 D = some (.dK kvs) ∧ kvs.length < sizeLine ∧ Nx (upd H5 D (.dK (putK kvs k z))) else Nx H3) := by
  have h0 : Gr Tb H1 (upd H1 D (.dK [])) := Gr.new hD
  let P : Nat → Hp → Prop := fun i H => Gr Tb H1 H ∧ H D = some (.dK (dS (putAll [] ((xs.take i).filterMap f))))
  refine ⟨fun i m H => m = n - i ∧ i ≤ n ∧ P i H, ⟨n, rfl, Nat.zero_le _, h0, by rw [List.take_zero]; exact upd_same⟩, ?_⟩
  rintro i m H ⟨rfl, hi, p⟩
  have q := hG H p.1
  by_cases hlt : i < n
  · refine .inr ⟨wk.goes i H hlt q, P (i + 1), fun H' p' => ⟨n - (i + 1), by omega, rfl, hlt, p'⟩, fun x H' y => ?_⟩
    obtain ⟨rfl, hx⟩ := wk.yields i H x H' hlt q y
    obtain ⟨g1, hd⟩ := p
    have lle : (putAll [] ((xs.take i).filterMap f)).length ≤ 100000 := by
      have h1 := putAll_len ((xs.take i).filterMap f) []
      have h2 : ((xs.take i).filterMap f).length ≤ i := Nat.le_trans (List.length_filterMap_le _ _) (by rw [List.length_take]; omega)
      have h3 : ([] : Num).length = 0 := rfl
      omega
    refine turn i x H' hx g1 (fun y z H5 => ∃ kvs k, y = kV k ∧ H5 D = some (.dK kvs) ∧ kvs.length < sizeLine ∧ P (i + 1) (upd H5 D (.dK (putK kvs k z)))) (P (i + 1)) (fun q H4 e gr => ?_) (fun H4 e gr => ?_)
    · have hd4 := gr.at hd .dK
      refine ⟨_, Sum.inr q.1, rfl, hd4, ?_, Gr.putD hD (g1.trans gr) hd4, ?_⟩
      · rw [dS_len, sizeLine_eq]
        omega
      · rw [upd_same, filterMap_take f xs hx, e, putK_dS]
        unfold putAll
        rw [Option.toList_some, List.foldl_append]
        rfl
    · refine ⟨g1.trans gr, ?_⟩
      rw [filterMap_take f xs hx, e, gr.at hd .dK]
      simp
  · have e : i = n := by omega
    subst e
    refine .inl ⟨wk.stops H q, done H p.1 ?_⟩
    have := p.2
    rw [hn, List.take_length] at this
    exact this
/-! ### numbers grow -/
def addAll (f : Str → Int) (l : Num) : Str → Int := l.foldl (fun f q => upF f q.1 (f q.1 + q.2)) f
theorem addAll_append (f : Str → Int) (l m : Num) : addAll f (l ++ m) = addAll (addAll f l) m := List.foldl_append ..
theorem addAll_snoc (f : Str → Int) (l : Num) (q : Str × Int) : addAll f (l ++ [q]) = upF (addAll f l) q.1 (addAll f l q.1 + q.2) := by
  rw [addAll_append]
  rfl
def amt (l : Num) (x : Str) : Int := (l.map fun q => if q.1 = x then q.2 else 0).sum
def ones (l : List Str) : Num := l.map fun p => (p, 1)
theorem amt_cons (q : Str × Int) (l : Num) (x : Str) : amt (q :: l) x = (if q.1 = x then q.2 else 0) + amt l x := by
  unfold amt
  rw [List.map_cons, List.sum_cons]
theorem amt_append (l m : Num) (x : Str) : amt (l ++ m) x = amt l x + amt m x := by
  induction l with
  | nil =>
    show amt m x = 0 + amt m x
    omega
  | cons q l ih =>
    rw [List.cons_append, amt_cons, amt_cons, ih]
    omega
theorem addAll_at : ∀ (l : Num) (f : Str → Int) (x : Str), addAll f l x = f x + amt l x
  | [], f, x => by
    show f x = f x + 0
    omega
  | q :: l, f, x => by
    show addAll (upF f q.1 (f q.1 + q.2)) l x = _
    rw [addAll_at l, amt_cons]
    unfold upF
    by_cases h : x = q.1
    · rw [if_pos h, if_pos h.symm, h]
      omega
    · rw [if_neg h, if_neg fun z => h z.symm]
      omega
/-- what the splits add: to each part, for each entry -/
def incs (es : List Ent) (f : Str → Int) : Num := es.flatMap fun e => e.parts.map fun p => (p, f e.name)
theorem incs_snoc {es : List Ent} {f : Str → Int} {i : Nat} {e : Ent} (h : es[i]? = some e) : incs (es.take (i + 1)) f = incs (es.take i) f ++ e.parts.map fun p => (p, f e.name) := by
  unfold incs
  rw [List.take_add_one, h, List.flatMap_append]
  simp
/-- the pieces of each kind: of the stock, of the splits -/
def pn (es : List Ent) (st sp : Num) : Str → Int := addAll (getD st) (incs es (getD sp))
theorem amt_perm {es es' : List Ent} (p : es'.Perm es) (f : Str → Int) (x : Str) : amt (incs es' f) x = amt (incs es f) x := by
  induction p with
  | nil => rfl
  | cons e _ ih =>
    unfold incs at ih ⊢
    rw [List.flatMap_cons, List.flatMap_cons, amt_append, amt_append, ih]
  | swap a b l =>
    unfold incs
    rw [List.flatMap_cons, List.flatMap_cons, List.flatMap_cons, List.flatMap_cons, amt_append, amt_append, amt_append, amt_append]
    omega
  | trans _ _ h1 h2 => rw [h1, h2]
theorem pn_at (es : List Ent) (st sp : Num) (x : Str) : pn es st sp x = getD st x + amt (incs es (getD sp)) x := addAll_at _ _ _
theorem pn_perm {es es' : List Ent} (p : es'.Perm es) (st sp : Num) : pn es' st sp = pn es st sp := by
  funext x
  rw [pn_at, pn_at, amt_perm p]
/-- a dict comprehension over anything, by the turn's number -/
theorem dc_gen {Tb : List (Addr × Str)} {J : It} {n : Nat} {GG : Hp → Prop} {Y : Nat → Hp → V → Hp → Prop} (wk : Walk J n GG Y) {g : TG} {tt : TT} {tk tv : TE} {vs : List Nat} {σ : L2.St} {H1 : Hp} {D : Addr} {Qd : Hp → Prop} (F : Nat → Option (Str × Int)) (hD : H1 D = none) (hz : n ≤ 100000)
    (hG : ∀ H, Gr Tb H1 H → GG H) (hY : ∀ i H x H', Y i H x H' → Gr Tb H H')
    (turn : ∀ (i : Nat) (x : V) (H H' : Hp), i < n → Gr Tb H1 H' → Y i H x H' → ∀ (Rk : V → V → Hp → Prop) (Rs : Hp → Prop), (∀ q H4, F i = some q → Gr Tb H' H4 → Rk (.str q.1) (.int q.2) H4) → (∀ H4, F i = none → Gr Tb H' H4 → Rs H4) →
      g x (wipe σ vs) H' fun σ2 H2 => wipe σ2 vs = wipe σ vs ∧ tt σ2 H2 fun b H3 => if b = true then tk σ2 H3 fun y H4 => tv σ2 H4 fun z H5 => Rk y z H5 else Rs H3)
    (done : ∀ H, Gr Tb H1 H → H D = some (.dK (dS (putAll [] ((List.range n).filterMap F)))) → Qd H) :
    ∃ W : Nat → Nat → Hp → Prop, (∃ m, W 0 m (upd H1 D (.dK []))) ∧ ∀ i m H, W i m H →
      (J.stop i H ∧ Qd H) ∨ (J.go i H ∧ ∃ Nx : Hp → Prop, (∀ H', Nx H' → ∃ m', m' < m ∧ W (i + 1) m' H') ∧ ∀ x H', J.yld i H x H' → g x (wipe σ vs) H' fun σ2 H2 => wipe σ2 vs = wipe σ vs ∧ tt σ2 H2 fun b H3 =>
        if b = true then tk σ2 H3 fun y H4 => tv σ2 H4 fun z H5 => ∃ kvs k, y = kV k ∧ H5 D = some (.dK kvs) ∧ kvs.length < sizeLine ∧ Nx (upd H5 D (.dK (putK kvs k z))) else Nx H3) := by
  have h0 : Gr Tb H1 (upd H1 D (.dK [])) := Gr.new hD
  let P : Nat → Hp → Prop := fun i H => Gr Tb H1 H ∧ H D = some (.dK (dS (putAll [] ((List.range i).filterMap F))))
  refine ⟨fun i m H => m = n - i ∧ i ≤ n ∧ P i H, ⟨n, rfl, Nat.zero_le _, h0, upd_same⟩, ?_⟩
  rintro i m H ⟨rfl, hi, p⟩
  have q := hG H p.1
  by_cases hlt : i < n
  · refine .inr ⟨wk.goes i H hlt q, P (i + 1), fun H' p' => ⟨n - (i + 1), by omega, rfl, hlt, p'⟩, fun x H' y => ?_⟩
    have yy := wk.yields i H x H' hlt q y
    have g1 := p.1.trans (hY _ _ _ _ yy)
    have hd := (hY _ _ _ _ yy).at p.2 .dK
    have lle : (putAll [] ((List.range i).filterMap F)).length ≤ 100000 := by
      have h1 := putAll_len ((List.range i).filterMap F) []
      have h2 : ((List.range i).filterMap F).length ≤ i := Nat.le_trans (List.length_filterMap_le _ _) (by rw [List.length_range]; exact Nat.le_refl _)
      have h3 : ([] : Num).length = 0 := rfl
      omega
    refine turn i x H H' hlt g1 yy (fun y z H5 => ∃ kvs k, y = kV k ∧ H5 D = some (.dK kvs) ∧ kvs.length < sizeLine ∧ P (i + 1) (upd H5 D (.dK (putK kvs k z)))) (P (i + 1)) (fun q H4 e gr => ?_) (fun H4 e gr => ?_)
    · have hd4 := gr.at hd .dK
      refine ⟨_, Sum.inr q.1, rfl, hd4, ?_, Gr.putD hD (g1.trans gr) hd4, ?_⟩
      · rw [dS_len, sizeLine_eq]
        omega
      · rw [upd_same, List.range_succ, List.filterMap_append, putK_dS]
        unfold putAll
        rw [List.foldl_append, List.filterMap_cons, e]
        rfl
    · refine ⟨g1.trans gr, ?_⟩
      rw [List.range_succ, List.filterMap_append, List.filterMap_cons, e, gr.at hd .dK]
      simp
  · have e : i = n := by omega
    subst e
    exact .inl ⟨wk.stops H q, done H p.1 p.2⟩
theorem fm_range {α β : Type} (f : α → Option β) : ∀ l : List α, (List.range l.length).filterMap (fun i => l[i]?.bind f) = l.filterMap f := by
  intro l
  have key : ∀ n, n ≤ l.length → (List.range n).filterMap (fun i => l[i]?.bind f) = (l.take n).filterMap f := by
    intro n
    induction n with
    | zero => intro _; rfl
    | succ n ih =>
      intro h
      obtain ⟨x, hx⟩ : ∃ x, l[n]? = some x := ⟨_, List.getElem?_eq_getElem (by omega)⟩
      rw [List.range_succ, List.filterMap_append, ih (by omega), filterMap_take f l hx, List.filterMap_cons, hx]
      show _ ++ (match f x with | none => _ | some b => _) = _
      cases f x <;> rfl
  have := key l.length (Nat.le_refl _)
  rwa [List.take_length] at this
/-- the numbers that are not zero -/
def posN (es : List Ent) (f : Str → Int) : Num := numOf (es.filter fun e => decide (f e.name ≠ 0)) f
theorem posN_nodup {es : List Ent} {f : Str → Int} (h : (es.map (·.name)).Nodup) : ((posN es f).map (·.1)).Nodup := by
  unfold posN
  rw [numOf_names]
  exact h.sublist ((List.filter_sublist (l := es)).map _)
theorem getD_posN {es : List Ent} {f : Str → Int} {x : Str} (h : x ∈ es.map (·.name)) : getD (posN es f) x = f x := by
  by_cases q : f x = 0
  · rw [q]
    refine getD_none fun hm => ?_
    unfold posN at hm
    rw [numOf_names] at hm
    obtain ⟨e, he, rfl⟩ := List.mem_map.mp hm
    exact of_decide_eq_true (List.mem_filter.mp he).2 q
  · refine getD_numOf ?_
    obtain ⟨e, he, rfl⟩ := List.mem_map.mp h
    exact List.mem_map.mpr ⟨e, List.mem_filter.mpr ⟨he, decide_eq_true q⟩, rfl⟩
/-! ### what put does -/
theorem get?_cons (q : Str × Int) (d : Num) (x : Str) : get? (q :: d) x = if q.1 = x then some q.2 else get? d x := by
  unfold get?
  rw [List.find?_cons]
  by_cases h : q.1 = x
  · rw [if_pos h, show decide (q.1 = x) = true from decide_eq_true h]
    rfl
  · rw [if_neg h, show decide (q.1 = x) = false from decide_eq_false h]
theorem get?_app_new {d : Num} {x y : Str} {i : Int} : get? (d ++ [(x, i)]) y = match get? d y with | some j => some j | none => if x = y then some i else none := by
  induction d with
  | nil =>
    rw [List.nil_append, get?_cons]
    rfl
  | cons q d ih =>
    rw [List.cons_append, get?_cons, get?_cons, ih]
    by_cases h : q.1 = y
    · rw [if_pos h, if_pos h]
    · rw [if_neg h, if_neg h]
theorem get?_map {d : Num} {x y : Str} {i : Int} : get? (d.map fun q => if q.1 = x then (q.1, i) else q) y = if y = x ∧ y ∈ d.map (·.1) then some i else get? d y := by
  induction d with
  | nil =>
    rw [if_neg (fun z => by cases z.2)]
    rfl
  | cons q d ih =>
    rw [List.map_cons, get?_cons, get?_cons, ih, List.map_cons]
    by_cases h1 : q.1 = x
    · rw [if_pos h1]
      show (if q.1 = y then some i else _) = _
      by_cases h2 : q.1 = y
      · rw [if_pos h2, if_pos ⟨h2.symm.trans h1, by rw [h2]; exact List.mem_cons_self ..⟩]
      · rw [if_neg h2, if_neg h2]
        by_cases h3 : y = x
        · exact absurd (h1.trans h3.symm) h2
        · rw [if_neg fun z => h3 z.1, if_neg fun z => h3 z.1]
    · rw [if_neg h1]
      by_cases h2 : q.1 = y
      · rw [if_pos h2, if_pos h2, if_neg fun z => h1 (h2.trans z.1)]
      · rw [if_neg h2, if_neg h2]
        by_cases h3 : y = x ∧ y ∈ d.map (·.1)
        · rw [if_pos h3, if_pos ⟨h3.1, List.mem_cons_of_mem _ h3.2⟩]
        · rw [if_neg h3, if_neg fun z => h3 ⟨z.1, (List.mem_cons.mp z.2).resolve_left fun w => h2 w.symm⟩]
theorem mem_of_get? {d : Num} {x : Str} {i : Int} (h : get? d x = some i) : x ∈ d.map (·.1) := by
  cases q : decide (x ∈ d.map (·.1)) with
  | true => exact of_decide_eq_true q
  | false =>
    rw [get?_none (of_decide_eq_false q)] at h
    cases h
theorem get?_of_mem {d : Num} {x : Str} (h : x ∈ d.map (·.1)) : ∃ i, get? d x = some i := by
  induction d with
  | nil => cases h
  | cons q d ih =>
    rw [get?_cons]
    by_cases e : q.1 = x
    · exact ⟨_, if_pos e⟩
    · rw [if_neg e]
      rw [List.map_cons] at h
      exact ih ((List.mem_cons.mp h).resolve_left fun z => e z.symm)
theorem any_mem {d : Num} {x : Str} : (d.any fun q => decide (q.1 = x)) = true ↔ x ∈ d.map (·.1) := by
  rw [List.any_eq_true]
  constructor
  · rintro ⟨q, hq, e⟩
    exact List.mem_map.mpr ⟨q, hq, of_decide_eq_true e⟩
  · intro h
    obtain ⟨q, hq, e⟩ := List.mem_map.mp h
    exact ⟨q, hq, decide_eq_true e⟩
theorem get?_put (d : Num) (x y : Str) (i : Int) : get? (put d x i) y = if y = x then some i else get? d y := by
  by_cases h : x ∈ d.map (·.1)
  · unfold put
    rw [if_pos (any_mem.mpr h), get?_map]
    by_cases e : y = x
    · rw [if_pos e, if_pos ⟨e, e ▸ h⟩]
    · rw [if_neg e, if_neg fun z => e z.1]
  · rw [put_new' h, get?_app_new]
    by_cases e : y = x
    · rw [if_pos e, e, get?_none h]
      show (if x = x then some i else none) = _
      rw [if_pos rfl]
    · rw [if_neg e]
      cases get? d y with
      | some j => rfl
      | none => exact if_neg fun z => e z.symm
theorem getD_put (d : Num) (x y : Str) (i : Int) : getD (put d x i) y = if y = x then i else getD d y := by
  unfold getD
  rw [get?_put]
  split <;> rfl
theorem put_keys (d : Num) (x y : Str) (i : Int) : y ∈ (put d x i).map (·.1) ↔ y = x ∨ y ∈ d.map (·.1) := by
  constructor
  · intro h
    obtain ⟨j, hj⟩ := get?_of_mem h
    rw [get?_put] at hj
    by_cases e : y = x
    · exact .inl e
    · rw [if_neg e] at hj
      exact .inr (mem_of_get? hj)
  · intro h
    by_cases e : y = x
    · exact mem_of_get? (i := i) (by rw [get?_put, if_pos e])
    · obtain ⟨j, hj⟩ := get?_of_mem (h.resolve_left e)
      exact mem_of_get? (i := j) (by rw [get?_put, if_neg e, hj])
theorem put_nodup {d : Num} {x : Str} {i : Int} (h : (d.map (·.1)).Nodup) : ((put d x i).map (·.1)).Nodup := by
  by_cases q : x ∈ d.map (·.1)
  · unfold put
    rw [if_pos (any_mem.mpr q), List.map_map]
    have : ((fun q : Str × Int => q.1) ∘ fun q => if q.1 = x then (q.1, i) else q) = fun q => q.1 := by
      funext q
      show (if q.1 = x then (q.1, i) else q).1 = q.1
      split <;> rfl
    rw [this]
    exact h
  · rw [put_new' q, List.map_append]
    refine List.nodup_append.mpr ⟨h, by simp, fun a ha b hb e => ?_⟩
    have hb2 : b = x := List.mem_singleton.mp hb
    rw [e, hb2] at ha
    exact q ha
theorem getD_mem {d : Num} (h : (d.map (·.1)).Nodup) {q : Str × Int} (hq : q ∈ d) : getD d q.1 = q.2 := by
  unfold getD
  induction d with
  | nil => cases hq
  | cons z d ih =>
    rw [List.map_cons, List.nodup_cons] at h
    rw [get?_cons]
    rcases List.mem_cons.mp hq with e | hq
    · rw [if_pos (by rw [e]), e]
      rfl
    · rw [if_neg fun e => h.1 (List.mem_map.mpr ⟨q, hq, e.symm⟩)]
      exact ih h.2 hq
theorem get?_mem {d : Num} (h : (d.map (·.1)).Nodup) {q : Str × Int} (hq : q ∈ d) : get? d q.1 = some q.2 := by
  obtain ⟨i, hi⟩ := get?_of_mem (List.mem_map.mpr ⟨q, hq, rfl⟩ : q.1 ∈ d.map (·.1))
  have := getD_mem h hq
  unfold getD at this
  rw [hi] at this ⊢
  exact congrArg some this
/-- two dicts of numbers that are not zero, alike at each name -/
theorem num_eq {c d : Num} (hc : (c.map (·.1)).Nodup) (hd : (d.map (·.1)).Nodup) (zc : ∀ q ∈ c, q.2 ≠ 0) (zd : ∀ q ∈ d, q.2 ≠ 0) (e : ∀ x, getD c x = getD d x) : c.length = d.length ∧ ∀ q ∈ c, get? d q.1 = some q.2 := by
  have key : ∀ {c d : Num}, (c.map (·.1)).Nodup → (∀ q ∈ c, q.2 ≠ 0) → (∀ x, getD c x = getD d x) → ∀ x ∈ c.map (·.1), x ∈ d.map (·.1) := fun {c d} hc zc e x hx => by
    obtain ⟨q, hq, rfl⟩ := List.mem_map.mp hx
    cases z : decide (q.1 ∈ d.map (·.1)) with
    | true => exact of_decide_eq_true z
    | false =>
      have h1 := e q.1
      rw [getD_mem hc hq, getD_none (of_decide_eq_false z)] at h1
      exact absurd h1 (zc q hq)
  have k1 := key hc zc e
  have k2 := key hd zd fun x => (e x).symm
  refine ⟨?_, fun q hq => ?_⟩
  · have p : (c.map (·.1)).Perm (d.map (·.1)) := (List.perm_ext_iff_of_nodup hc hd).mpr fun x => ⟨k1 x, k2 x⟩
    have := p.length_eq
    rwa [List.length_map, List.length_map] at this
  · obtain ⟨i, hi⟩ := get?_of_mem (k1 q.1 (List.mem_map.mpr ⟨q, hq, rfl⟩))
    have h1 := e q.1
    rw [getD_mem hc hq] at h1
    unfold getD at h1
    rw [hi] at h1 ⊢
    exact congrArg some h1.symm
/-- d1 != d2, alike -/
theorem rd_neD {H : Hp} {a b : Addr} {c d : Num} {Q : VK} (ha : H a = some (.dK (dS c))) (hb : H b = some (.dK (dS d))) (hl : c.length = d.length) (h : ∀ q ∈ c, get? d q.1 = some q.2) (q : Q (.bl false) H) : rNeDA (.ref a) (.ref b) H Q :=
  ⟨a, b, _, _, rfl, rfl, ha, hb, by rw [dS_len, dS_len]; exact hl, fun p hp => by
    unfold dS at hp
    obtain ⟨z, hz, rfl⟩ := List.mem_map.mp hp
    refine ⟨?_, rfl⟩
    show valV (dS d) (Sum.inr z.1) = some (V.int z.2)
    rw [valV_dS, h z hz]
    rfl, q⟩
/-! ### dict([(name, number) ..]), for name in d -/
theorem mergeK_dS (l : Num) : ∀ d : Num, mergeK (dS d) (dS l) = dS (putAll d l) := by
  induction l with
  | nil => intro d; rfl
  | cons q l ih =>
    intro d
    show mergeK (putK (dS d) (Sum.inr q.1) (.int q.2)) (dS l) = dS (putAll (put d q.1 q.2) l)
    rw [putK_dS, ih]
theorem merge_new {l : Num} (h : (l.map (·.1)).Nodup) : mergeK [] (dS l) = dS l := by
  have := mergeK_dS l []
  rw [putAll_new l [] h] at this
  exact this
/-- a row of a name and its number -/
def PRow (H : Hp) (val : Str → Int) (x y : V) : Prop := ∃ t n, x = .str n ∧ y = .ref t ∧ H t = some (.tup [.str n, .int (val n)])
theorem pairs_dict {K : PySem.W.Frag} {H : Hp} {val : Str → Int} : ∀ {ns : List Str} {ys : List V}, Paired (PRow H val) (ns.map V.str) ys → ∃ ps : List Addr, ys = ps.map V.ref ∧ Paired (fun p kv => SqT K H p [kV kv.1, kv.2]) ps (dS (ns.map fun n => (n, val n)))
  | [], _, .nil => ⟨[], rfl, .nil⟩
  | n :: ns, _, .cons ⟨t, n', e, e2, h⟩ p => by
    cases e
    subst e2
    obtain ⟨ps, h1, h2⟩ := pairs_dict p
    exact ⟨t :: ps, by rw [h1]; rfl, .cons (SqT.of h) h2⟩
theorem walk_keysS {d : Addr} {o : Obj} {n : Num} : Walk (Itk d o (dS n)) n.length (fun H => H d = some (.frz o (.dK (dS n)))) (YAt ((n.map (·.1)).map V.str)) := by
  have w := walk_keys (d := d) (o := o) (kvs := dS n)
  rw [dS_len] at w
  refine w.mono (fun _ h => h) fun i H x H' hi _ y => ?_
  obtain ⟨h1, k, v, h2, h3⟩ := y
  refine ⟨h1, ?_⟩
  unfold dS at h2
  rw [List.getElem?_map] at h2
  cases hq : n[i]? with
  | none => rw [hq] at h2; cases h2
  | some q =>
    rw [hq] at h2
    cases h2
    rw [List.getElem?_map, List.getElem?_map, hq, h3]
    rfl
def stockO (H : Hp) (d : Num) (v : V) : Option (Str × Int) := match itemAt H 0 v with
  | some (.str n) => some (n, getD d n)
  | _ => none
theorem stockO_at {H : Hp} {d : Num} {v : V} {e : Ent} (h : EntAt H v e) : stockO H d v = some (e.name, getD d e.name) := by
  obtain ⟨t, l, rfl, ht, _⟩ := h
  unfold stockO
  rw [itemAt_tup ht]
  rfl
/-- {name: stock.get(name, 0) for name, weight, parts in entries} -/
theorem dc_stock {Tb : List (Addr × Str)} {K : PySem.W.Frag} {a b : Addr} {xs : List V} {es : List Ent} {st : Num} {i j k l : Nat} {σ : L2.St} {H1 : Hp} {D : Addr} {Qd : Hp → Prop} (ha : SqL K H1 a xs) (hc : CatAt H1 xs es) (hb : H1 b = some (.dK (dS st))) (hnd : (es.map (·.name)).Nodup) (hz : es.length ≤ 100000) (hD : H1 D = none)
    (hw : ∀ n w p, wipe ((((wipe σ [i, j, k]).set i n).set j w).set k p) [i, j, k] = wipe σ [i, j, k]) (h1 : ∀ n w p, ((((wipe σ [i, j, k]).set i n).set j w).set k p)[i]? = some n) (h2 : ∀ n w p, ((((wipe σ [i, j, k]).set i n).set j w).set k p)[l]? = some (some (.ref b)))
    (done : ∀ H, Gr Tb H1 H → H D = some (.dK (dS (numOf es (getD st)))) → Qd H) :
    ∃ W : Nat → Nat → Hp → Prop, (∃ m, W 0 m (upd H1 D (.dK []))) ∧ ∀ r m H, W r m H →
      ((Itl K a).stop r H ∧ Qd H) ∨ ((Itl K a).go r H ∧ ∃ Nx : Hp → Prop, (∀ H', Nx H' → ∃ m', m' < m ∧ W (r + 1) m' H') ∧ ∀ x H', (Itl K a).yld r H x H' → (gTup K 3 (gCons (gName i) (gCons (gName j) (gCons (gName k) gNil)))) x (wipe σ [i, j, k]) H' fun σ2 H2 => wipe σ2 [i, j, k] = wipe σ [i, j, k] ∧ tYes σ2 H2 fun b H3 =>
        if b = true then tVar i σ2 H3 fun y H4 => (tDGet2 (tVar l) (tVar i) (tC (.int 0))) σ2 H4 fun z H5 => ∃ kvs k, y = kV k ∧ H5 D = some (.dK kvs) ∧ kvs.length < sizeLine ∧ Nx (upd H5 D (.dK (putK kvs k z))) else Nx H3) := by
  have hl := Paired.len hc
  refine dc_fm (Tb := Tb) (xs := xs) walk_list rfl (stockO H1 st) hD (by omega) (fun H' g => g.ext_seq ha) (fun j' v H' hv g Rk Rs hk hs => ?_) fun H' g hD' => ?_
  · obtain ⟨e, he, hev⟩ := Paired.at hc hv
    have hco := stockO_at (d := st) hev
    obtain ⟨t, lp, rfl, ht, hlp⟩ := hev
    have hb' := g.at hb .dK
    refine gtup3 (g.at ht .tup) ⟨hw _ _ _, _, h1 _ _ _, _, h2 _ _ _, b, rfl, IsD.num hb', _, h1 _ _ _, _, dgetO hb' e.name, ?_⟩
    rw [getO]
    exact hk (e.name, getD st e.name) _ hco (Gr.refl _)
  · have e : xs.filterMap (stockO H1 st) = numOf es (getD st) := fm_paired (fun v e h => stockO_at h) hc
    rw [e, putAll_new _ _ (by rw [List.nil_append, numOf_names]; exact hnd), List.nil_append] at hD'
    exact done H' g hD'
end Sk
/-! x = {..: .. for ..}, x a local name: the comprehension stores its dict itself -/
namespace Sk
open PySem PySem.Spec PyProof.Rows L2
section
variable {X : Cx}
theorem swD_true {kx vx : Expr} {gs : List Comprehension} {scope : Scope} {pos py : Pos} {y : Str} {l : Nat} {env : Env} (hk : env.scope.kind = .function) (hy : env.scope.names.lookup y = some .local) (hl : (py.line == pos.line) = true)
    (ha : (scope.names.any fun (n, k) => n == y && (k == .local || k == .cell)) = false) : swapsWith (.DictComp kx vx gs scope pos) (some (.Name y py)) l env = pure true := by
  have e1 : env.kindOf y = some .local := hy
  have e2 : env.blockKind = .function := by
    unfold Env.blockKind
    rw [hk]
    rfl
  unfold swapsWith
  simp only [e1, e2, ha, Expr.pos, hl] <;> rfl
theorem ps_setDc {i : Nat} {y : Str} {py : Pos} {kx vx tg iter : Expr} {ifs : List Expr} {scope : Scope} {own : List (Str × Nat)} {pos spos : Pos} {wi : TI} {g : TG} {tt : TT} {tk tv : TE} (hc : X.calm = true) (hN : X.N.Nodup) (hy : X.N[i]? = some y)
    (hyl : X.env.scope.names.lookup y = some .local) (hsw : swapsWith (.DictComp kx vx [⟨tg, iter, ifs, 0⟩] scope pos) (some (.Name y py)) spos.line X.env = pure true) (hi : PI X tg iter wi) (ok : BlkOk X.N X.env.scope scope own)
    (hg : ∀ s H C cl fp, PG (X.blk s H scope (compEnvC scope cl C X.env) fp) tg g) (ht : ∀ s H C cl fp, PTs (X.blk s H scope (compEnvC scope cl C X.env) fp) ifs tt)
    (hk : ∀ s H C cl fp, PE (X.blk s H scope (compEnvC scope cl C X.env) fp) kx tk) (he : ∀ s H C cl fp, PE (X.blk s H scope (compEnvC scope cl C X.env) fp) vx tv) (hs : ∀ x, foldedSetIterable iter X.env x = pure x := by intro _; rfl) :
    PS X (.Assign [.Name y py] (.DictComp kx vx [⟨tg, iter, ifs, 0⟩] scope pos) spos) (tAsg (tDc wi g tt tk tv (own.map (·.2))) (gName i)) := by
  refine ⟨fun pins s σ H D I h0 => ?_⟩
  rw [exec_Assign_Name_used _ _ _ _ hsw]
  have h : tDc wi g tt tk tv (own.map (·.2)) σ H (fun x H1 => gName i x σ H1 D.nx) := h0
  refine wpAny_bind (wpAny_standAt (wpAny_bind ?_))
  show wpAny _ X.A (do
    let _ ← comprehension (.DictComp kx vx [⟨tg, iter, ifs, 0⟩] scope pos) scope X.env (firstIterPos [⟨tg, iter, ifs, 0⟩] pos) newDict false (eval iter X.env) (some (assign (.Name y py) X.env))) _ _ s
  refine wpAny_bind (thn (dc_core (Qf := fun _ s' => SP X pins D .next s') hc hN I hi ok hg ht hk he hs h fun L C s' m H' J q hn f => ?_) fun _ s' hq => wpAny_pure (wpAny_pure hq))
  obtain ⟨f0, f1, f2, f3, f4, f5⟩ := f
  show wpAny _ _ (assign (.Name y py) X.env (.ref L)) _ _ _
  refine wpAny_assign_Name (store_ok2 (v := V.ref L) J hN hy (.inl hyl) rfl (fun s2 J2 ⟨a, sb, ha⟩ => ?_) (.inr hyl))
  have ne : C ≠ a := fun e => by
    rcases ha with z | z
    · exact f1 (e.trans z)
    · exact f4 y a z e.symm
  exact ⟨m, hn.sameBut sb ne, fun h3 sb3 => ⟨_, H', J2.turned (t' := s2.toks) (fun b o hb e => (sb3.2 b hb).trans e) f0 f1 f3 f4 f5, q⟩⟩
end
end Sk
/-! sum(d.values()) -/
namespace Sk
open PySem PySem.Spec PyProof.Rows L2
section
variable {X : Cx} {o : Expr} {p pos apos mpos : Pos} {td : TE}
/-- sum(o.values()), a dict whose values are ints -/
def tSumVals (td : TE) : TE := fun σ H Q => td σ H fun x H1 => ∃ (a : Addr) (kvs : List (Key × V)) (is : List Int), x = V.ref a ∧ H1 a = some (.dK kvs) ∧ kvs.map (·.2) = is.map V.int ∧ Q (.int is.sum) H1
theorem pe_sumVals (hc : X.calm = true) (hg : Gl X "sum") (hm : X.mg "sum" = none) (hd : PE X o td) (hbase : attributeBase o "values" X.env (eval o X.env) = eval o X.env := by rfl) (hline : (apos.endLine == mpos.line) = true := by rfl)
    (hse : starEach [Expr.Call (.Attribute o "values" apos) [] [] mpos] X.env = [(false, eval (Expr.Call (.Attribute o "values" apos) [] [] mpos) X.env)] := by rfl) :
    PE X (.Call (.Name "sum" p) [.Call (.Attribute o "values" apos) [] [] mpos] [] pos) (tSumVals td) := by
  refine ⟨fun pins s σ H Q I h => ?_⟩
  refine wpAny_Call_Name_kw (ld_blt I hg hm (u := .builtin "sum") (by first | rfl | decide +kernel) ?_ (by decide +kernel) (by decide +kernel))
  rw [hse]
  refine PySem.callWith_builtin1 (wpAny_Call_method0_late hbase hline (thn (hd.run pins s σ H _ I h) fun v s1 ⟨x, H1, I1, r1, a, kvs, is, ex, ha, hv, q⟩ => ?_))
  subst ex
  obtain rfl : v = Value.ref a := r1
  obtain ⟨_, hsys, vs, rel, dof⟩ := dk_of I1.hok ha
  obtain ⟨ep, dat⟩ := dof.dictAt
  obtain ⟨ob, es, ho, ex, hdat, hko, hpr, hnd⟩ := id dat
  refine ⟨"dict", "dict.values", F.plainAttrs_dict, F.slot_dict_values, F.type_dict_values, ⟨ob, ho, ex.1⟩, fun b e => ?_, Calls.callWith_builtin rfl (PySem.evalArgs_none ?_)⟩
  · cases e
    exact ⟨ob, ho, ex.2.1⟩
  refine call_meetsIn F.slot_dict_values ⟨ob, ho, ex.1⟩ F.entry_dict_values (F.args_dict_values_1 _) (meets_dict_values (mixKind X.prog X.w) a hsys) ⟨⟨vs, dof⟩, ?_⟩
  have up : ∀ b u, s1.heap.get? b = some u → (s1.heap.push { cls := .type "dict_values", data := .fields #[.ref a] }).get? b = some u := fun b u e => Heap.get?_push_of_some _ e
  have datV := dat.keep up
  have lv : vs.length = is.length := by
    have e1 := congrArg List.length hv
    rw [List.length_map, List.length_map] at e1
    rw [← e1, ← KV.length rel]
  have vals : ∀ (i : Nat) (u : Value), (∃ k, vs[i]? = some (k, u)) → ∃ t, u = Value.int (is.getD i 0) t := by
    rintro i u ⟨k, hk⟩
    obtain ⟨x, h1, h2⟩ := KV.at' rel hk
    have e1 : (is.map V.int)[i]? = some x := by
      rw [← hv, List.getElem?_map, h1]
      rfl
    rw [List.getElem?_map] at e1
    obtain ⟨j, hj, rfl⟩ := Option.map_eq_some_iff.mp e1
    obtain ⟨t, e3⟩ := h2
    exact ⟨t, by rw [e3, List.getD_eq_getElem?_getD, hj]; rfl⟩
  have hlt : a < s1.heap.objs.size := Heap.lt_size ho
  have sz : (s1.heap.push { cls := .type "dict_values", data := .fields #[.ref a] }).objs.size = s1.heap.objs.size + 1 := Heap.size_push _ _
  refine call_sum_walkAnyS (wpAny_pyIter_values (v := s1.heap.objs.size) (d := a) ⟨_, Heap.get?_push_size _ rfl, rfl, rfl⟩ datV ?_)
  refine ⟨_, _, _, _, _, _, _, fun i => is.getD i 0, rfl, (Walks.dictValues (knd := mixKind X.prog X.w) (A := X.A.in1) (I.ok.hd hc) _ a (by rw [sz]; exact Nat.ne_of_lt (Nat.lt_succ_of_lt hlt)) vs ep).toS,
    ⟨⟨_, Heap.get?_push_size _ rfl, rfl, rfl⟩, datV.keep fun b u e => Heap.get?_push_of_some _ e⟩, fun b hb => ?_, vals, fun s' t' hm => ?_⟩
  · show b < ((s1.heap.push _).push _).objs.size
    rw [Heap.size_push, Heap.size_push]
    rw [sz] at hb
    rcases List.mem_cons.mp hb with e | hb
    · rw [e]
      exact Nat.lt_succ_self _
    · rw [List.mem_singleton.mp hb]
      exact Nat.lt_succ_of_lt (Nat.lt_succ_of_lt hlt)
  · have e : preSum (fun i => is.getD i 0) vs.length = is.sum := by
      rw [lv]
      clear lv vals q hv
      have key : ∀ n, n ≤ is.length → preSum (fun i => is.getD i 0) n = (is.take n).sum := by
        intro n
        induction n with
        | zero => intro _; rfl
        | succ n ih =>
          intro hn
          show preSum _ n + is.getD n 0 = _
          rw [ih (by omega), List.take_add_one, List.sum_append, List.getD_eq_getElem?_getD, List.getElem?_eq_getElem (by omega)]
          simp
      rw [key _ (Nat.le_refl _), List.take_length]
    rw [e, Moved.eq_with hm]
    refine ⟨.int is.sum, H1, I1.kept (t' := s'.toks) fun b u e => hm.heap b u (fun hmem => ?_) (Heap.get?_push_of_some _ (up b u e)), ⟨t', rfl⟩, q⟩
    have e1 := List.mem_singleton.mp hmem
    have e2 := Heap.lt_size e
    rw [e1, sz] at e2
    exact absurd e2 (Nat.not_lt.mpr (Nat.le_succ _))
end
end Sk
/-! rules whose reading names the written part K, K told apart (within a comprehension) -/
namespace Sk
open PySem PySem.Spec PyProof.Rows L2
section
variable {X : Cx} {K : PySem.W.Frag}
theorem ixL (e : X.K = K) : IxR X (rIxL K) := by subst e; exact ix_list
theorem ixT (e : X.K = K) : IxR X (rIxT K) := by subst e; exact ix_tup
/-- an item of a list or of a tuple -/
def rIxA (K : PySem.W.Frag) : R2 := fun x y H Q => ∃ p xs i v, x = .ref p ∧ y = .int i ∧ (SqL K H p xs ∨ SqT K H p xs) ∧ atI xs i = some v ∧ Q v H
theorem ixA (e : X.K = K) : IxR X (rIxA K) := by
  intro va sl pins s σ H x y v u Q I rx ry h
  obtain ⟨p, xs, i, z, h1, h2, h3 | h3, h4, h5⟩ := h
  · exact ixL e va sl pins s σ H x y v u Q I rx ry ⟨p, xs, i, z, h1, h2, h3, h4, h5⟩
  · exact ixT e va sl pins s σ H x y v u Q I rx ry ⟨p, xs, i, z, h1, h2, h3, h4, h5⟩
theorem slL (e : X.K = K) : SlR X (rSlL K) := by subst e; exact sl_list
theorem slT (e : X.K = K) : SlR X (rSlT K) := by subst e; exact sl_tup
theorem opIn (e : X.K = K) : OpR X (compareOp .In) (rIn K false) := by subst e; exact op_in_seq
theorem opNotIn (e : X.K = K) : OpR X (compareOp .NotIn) (rIn K true) := by subst e; exact op_notIn_seq
theorem opEqD (e : X.K = K) (hu : X.A.units + 64 < cLine) : OpR X (compareOp .Eq) (rEqD K) := by subst e; exact op_eqD hu
theorem opNeD (e : X.K = K) (hu : X.A.units + 64 < cLine) : OpR X (compareOp .NotEq) (rNeD K) := by subst e; exact op_neD hu
theorem opEqNil (e : X.K = K) (hu : X.A.units + 64 < cLine) : OpR X (compareOp .Eq) (rNil K false) := by subst e; exact op_eqNil hu
theorem opNeNil (e : X.K = K) (hu : X.A.units + 64 < cLine) : OpR X (compareOp .NotEq) (rNil K true) := by subst e; exact op_neNil hu
/-- len of a list -/
def rLenL (K : PySem.W.Frag) : List V → Hp → VK → Prop := fun xs H Q => ∃ p ys, xs = [.ref p] ∧ (SqL K H p ys ∨ SqT K H p ys) ∧ Q (.int (List.length ys : Nat)) H
theorem lenS (e : X.K = K) : CallR X (.builtin "len") (rLenL K) := by subst e; exact call_len_seq
def rListOf (K : PySem.W.Frag) : List V → Hp → VK → Prop := fun xs H Q => ∃ p ys, xs = [.ref p] ∧ (SqL K H p ys ∨ SqT K H p ys) ∧ ∀ l, H l = none → Q (.ref l) (upd H l (.lst ys))
theorem listOf (e : X.K = K) : CallR X (.type "list") (rListOf K) := by subst e; exact call_list_of
theorem crSum (e : X.K = K) (hc : X.calm = true) : CallR X (.builtin "sum") (rSum K) := by subst e; exact cr_sum hc
theorem crMax (e : X.K = K) (hc : X.calm = true) : CallR X (.builtin "max") (rMax K) := by subst e; exact cr_max hc
theorem crMin (e : X.K = K) (hc : X.calm = true) : CallR X (.builtin "min") (rMin K) := by subst e; exact cr_min hc
theorem crAll (e : X.K = K) (hc : X.calm = true) : CallR X (.builtin "all") (rAll K) := by subst e; exact cr_all hc
theorem crAny (e : X.K = K) (hc : X.calm = true) : CallR X (.builtin "any") (rAny K) := by subst e; exact cr_any hc
theorem crSortedS (e : X.K = K) : CallR X (.builtin "sorted") (rSortedS K) := by subst e; exact cr_sortedS
theorem crSortedI (e : X.K = K) : CallR X (.builtin "sorted") (rSortedI K) := by subst e; exact cr_sortedI
theorem crSortedT (e : X.K = K) : CallR X (.builtin "sorted") (rSortedT K) := by subst e; exact cr_sortedT
def rDictP (K : PySem.W.Frag) : List V → Hp → VK → Prop := fun xs H Q => ∃ (a : Addr) (ps : List Addr) (kvs : List (Key × V)), xs = [.ref a] ∧ SqL K H a (ps.map V.ref) ∧ Paired (fun p kv => SqT K H p [kV kv.1, kv.2]) ps kvs ∧
    ∀ p, H p = none → Q (.ref p) (upd H p (.dK (mergeK [] kvs)))
theorem dictP (e : X.K = K) (hc : X.calm = true) : CallR X (.type "dict") (rDictP K) := by subst e; exact call_dictP hc
theorem isiR (e : X.K = K) : CallR X (.builtin "isinstance") (rIsi K) := by subst e; exact call_isi
variable {tg l o e1 : Expr} {es : List Expr} {tl to te : TE} {ta : TA} {p pos apos cpos tpos : Pos} {elts : List Expr} {kk : Nat} {name : Str} {T id : String} {r : V → List V → Hp → VK → Prop}
theorem piL (e : X.K = K) (hl : PE X l tl) : PI X tg l (iList K tl) := by subst e; exact pi_list hl
theorem piT (e : X.K = K) (hl : PE X l tl) : PI X tg l (iTup K tl) := by subst e; exact pi_tup hl
theorem piEnum (e : X.K = K) (hg : Gl X "enumerate") (hm : X.mg "enumerate" = none) (ha : PA X [l] ta) (hs : starEach [l] X.env = [(false, eval l X.env)] := by rfl) : PI X (.Tuple elts kk tpos) (.Call (.Name "enumerate" p) [l] [] pos) (iEnum K ta) := by
  subst e
  exact pi_enum hg hm ha hs
theorem piZip (e : X.K = K) (hg : Gl X "zip") (hm : X.mg "zip" = none) (ha : PA X [l, e1] ta) (hs : starEach [l, e1] X.env = (false, eval l X.env) :: starEach [e1] X.env := by rfl) (hpl : (backTo pos (starEach [e1] X.env)).any (·.1) = false := by rfl) :
    PI X (.Tuple elts kk tpos) (.Call (.Name "zip" p) [l, e1] [] pos) (iZip K ta) := by
  subst e
  exact pi_zip hg hm ha hs hpl
theorem piRev (e : X.K = K) (hg : Gl X "reversed") (hm : X.mg "reversed" = none) (ha : PA X [l] ta) (hs : starEach [l] X.env = [(false, eval l X.env)] := by rfl) : PI X tg (.Call (.Name "reversed" p) [l] [] pos) (iRev K ta) := by
  subst e
  exact pi_reversed hg hm ha hs
theorem peBm0 (e : X.K = K) (pa : PlainAttrs T) (slot : Slot T name id) (hty : typeOf (.builtin id) = pure (.type "method_descriptor")) (hm : MtR X id r) (ho : PE X o to)
    (hbase : attributeBase o name X.env (eval o X.env) = eval o X.env := by rfl) (hline : (apos.endLine == cpos.line) = true := by rfl) : PE X (.Call (.Attribute o name apos) [] [] cpos) (tBM0 K T r to) := by
  subst e
  exact pe_bm0 pa slot hty hm ho hbase hline
theorem peBm (e : X.K = K) (pa : PlainAttrs T) (slot : Slot T name id) (hty : typeOf (.builtin id) = pure (.type "method_descriptor")) (hm : MtR X id r) (ho : PE X o to) (ha : PA X (e1 :: es) ta)
    (hbase : attributeBase o name X.env (eval o X.env) = eval o X.env := by rfl)
    (hfew : ((backTo cpos (starEach (e1 :: es) X.env)).all (fun x => !x.1) && (backToKw cpos (keywordEach [] X.env)).all (fun x => x.1.isSome)
      && decide ((e1 :: es).length + ([] : List Keyword).length + (if ([] : List Keyword).isEmpty then 0 else 1) < 30)) = true := by rfl)
    (hline : (apos.endLine == cpos.line) = true := by rfl) (hs : starEach (e1 :: es) X.env = (false, eval e1 X.env) :: starEach es X.env := by rfl) (hplain : (backTo cpos (starEach es X.env)).any (·.1) = false := by rfl) :
    PE X (.Call (.Attribute o name apos) (e1 :: es) [] cpos) (tBM K T r to ta) := by
  subst e
  exact pe_bm pa slot hty hm ho ha hbase hfew hline hs hplain
end
end Sk
/-! repr of lists and tuples, no repr under way; nested data -/
namespace Sk
open PySem PySem.Spec PyProof.Rows L2
mutual
theorem Dp.noDict {K : PySem.W.Frag} {H : Hp} : ∀ {d : PyData} {v : V}, Dp K H v d → d.hasDict = false
  | .none, _, _ => rfl
  | .bool _, _, _ => rfl
  | .int _, _, _ => rfl
  | .str _, _, _ => rfl
  | .list ds, _, .lst _ h => by
    have := DpAll.noDict h
    simpa [PyData.hasDict] using this
  | .tuple ds, _, .tup _ h => by
    have := DpAll.noDict h
    simpa [PyData.hasDict] using this
  | .dict _, _, h => by cases h
theorem DpAll.noDict {K : PySem.W.Frag} {H : Hp} : ∀ {ds : List PyData} {vs : List V}, DpAll K H vs ds → PyData.hasDictAll ds = false
  | [], _, _ => by simp [PyData.hasDictAll]
  | d :: ds, _, .cons a t => by
    have h1 := Dp.noDict a
    have h2 := DpAll.noDict t
    simp [PyData.hasDictAll, h1, h2]
end
def rRepr (K : PySem.W.Frag) : List V → Hp → VK → Prop := fun xs H Q => ∃ (a : Addr) (d : PyData), xs = [.ref a] ∧ Dp K H (.ref a) d ∧ d.showable = true ∧ d.shown.length ≤ sizeLine ∧ d.depth ≤ 60 ∧ Q (.str d.shown) H
theorem crRepr {X : Cx} {K : PySem.W.Frag} (e : X.K = K) (hg : X.A.guards = some []) (hu : X.A.units + 64 < cLine) : CallR X (.builtin "repr") (rRepr K) := by
  subst e
  intro pins s σ H xs us Q I r h
  obtain ⟨a, d, rfl, hd, hs, hz, hdp, q⟩ := h
  obtain ⟨u, rfl, ru⟩ := vals1 r
  obtain ⟨as, rr⟩ := Dp.reads I d _ u hd ru
  obtain rfl : u = Value.ref a := ru
  exact PySem.repr_of_reads' rr hs (fun z => by rw [Dp.noDict hd] at z; cases z) hg (by omega) (fun b o e => e) (fun h' u tk k => ⟨.str d.shown, H, I.kept k, ⟨u, rfl⟩, q⟩) hz
/-! ### data -/
def tyName : PyData → String
  | .none => "NoneType" | .bool _ => "bool" | .int _ => "int" | .str _ => "str" | .list _ => "list" | .tuple _ => "tuple" | .dict _ => "dict"
theorem Dp.tyx {K : PySem.W.Frag} {H : Hp} {x : V} {d : PyData} (h : Dp K H x d) : TyX K H x (.type (tyName d)) := by
  cases h with
  | non => exact .base .non
  | bl b => exact .base (.bl b)
  | int i => exact .base (.int i)
  | str x => exact .base (.str x)
  | lst h _ =>
    rcases h with (h | ⟨o, h⟩) | ⟨o, its, n, h1, h2, _⟩
    · exact .base (.lst h)
    · exact .base (.frz h)
    · exact .kList h1 h2
  | tup h _ =>
    rcases h with (h | ⟨o, h⟩) | ⟨o, its, n, h1, h2, _⟩
    · exact .base (.tup h)
    · exact .fTuple h
    · exact .kTuple h1 h2
theorem rd_isi {K : PySem.W.Frag} {H : Hp} {x : V} {d : PyData} (T : String) (h : Dp K H x d) {b : Bool} (hb : kitB (tyName d) T = some b) {Q : VK} (q : Q (.bl b) H) : rIsi K [x, .ty T] H Q := ⟨x, .ty T, _, .type T, b, rfl, .ty T, Dp.tyx h, kit_ty hb, q⟩
theorem Gr.ext_tup {T : List (Addr × Str)} {K : PySem.W.Frag} {H H' : Hp} {a : Addr} {xs : List V} (g : Gr T H H') (h : SqT K H a xs) : SqT K H' a xs := by
  rcases h with (z | ⟨o, z⟩) | z
  · exact .inl (.inl (g.ext _ _ z (fun ps e => by cases e)))
  · exact .inl (.inr ⟨o, g.ext _ _ z (fun ps e => by cases e)⟩)
  · exact .inr z
mutual
theorem Dp.gr {T : List (Addr × Str)} {K : PySem.W.Frag} {H H' : Hp} (g : Gr T H H') : ∀ {d : PyData} {v : V}, Dp K H v d → Dp K H' v d
  | .none, _, .non => .non
  | .bool _, _, .bl b => .bl b
  | .int _, _, .int i => .int i
  | .str _, _, .str x => .str x
  | .list ds, _, .lst h a => .lst (g.ext_seq h) (DpAll.gr g a)
  | .tuple ds, _, .tup h a => .tup (g.ext_tup h) (DpAll.gr g a)
  | .dict _, _, h => by cases h
theorem DpAll.gr {T : List (Addr × Str)} {K : PySem.W.Frag} {H H' : Hp} (g : Gr T H H') : ∀ {ds : List PyData} {vs : List V}, DpAll K H vs ds → DpAll K H' vs ds
  | [], _, .nil => .nil
  | d :: ds, _, .cons a t => .cons (Dp.gr g a) (DpAll.gr g t)
end
theorem DpAll.len {K : PySem.W.Frag} {H : Hp} : ∀ {ds : List PyData} {vs : List V}, DpAll K H vs ds → vs.length = ds.length
  | [], _, .nil => rfl
  | d :: ds, _, .cons a t => by rw [List.length_cons, List.length_cons, DpAll.len t]
theorem DpAll.at {K : PySem.W.Frag} {H : Hp} : ∀ {ds : List PyData} {vs : List V} {i : Nat} {d : PyData}, DpAll K H vs ds → ds[i]? = some d → ∃ v, vs[i]? = some v ∧ Dp K H v d
  | [], _, _, _, .nil, e => by simp at e
  | _ :: _, _, 0, _, .cons a _, e => by
    cases e
    exact ⟨_, rfl, a⟩
  | _ :: _, _, i + 1, _, .cons _ t, e => DpAll.at (i := i) t (by simpa using e)
theorem depth_mem {ds : List PyData} {d : PyData} (h : d ∈ ds) : d.depth ≤ PyData.depthAll ds := by
  induction ds with
  | nil => cases h
  | cons x xs ih =>
    rw [PyData.depthAll]
    rcases List.mem_cons.mp h with e | h
    · subst e
      omega
    · have := ih h
      omega
mutual
/-- how many values there are in it -/
def cnt : PyData → Nat
  | .list ds => cntAll ds + 1
  | .tuple ds => cntAll ds + 1
  | .none => 1 | .bool _ => 1 | .int _ => 1 | .str _ => 1 | .dict _ => 1
def cntAll : List PyData → Nat
  | [] => 0
  | d :: ds => cnt d + cntAll ds
end
theorem cnt_pos : ∀ d : PyData, 1 ≤ cnt d
  | .list ds => by rw [cnt]; omega
  | .tuple ds => by rw [cnt]; omega
  | .none => by rw [cnt]; omega
  | .bool _ => by rw [cnt]; omega
  | .int _ => by rw [cnt]; omega
  | .str _ => by rw [cnt]; omega
  | .dict _ => by rw [cnt]; omega
theorem cnt_len : ∀ ds : List PyData, ds.length ≤ cntAll ds
  | [] => by rw [cntAll]; exact Nat.le_refl _
  | d :: ds => by
    rw [cntAll, List.length_cons]
    have := cnt_len ds
    have := cnt_pos d
    omega
theorem cnt_mem {ds : List PyData} {d : PyData} (h : d ∈ ds) : cnt d ≤ cntAll ds := by
  induction ds with
  | nil => cases h
  | cons x xs ih =>
    rw [cntAll]
    rcases List.mem_cons.mp h with e | h
    · subst e
      omega
    · have := ih h
      omega
theorem cnt_le {ds : List PyData} {m : Nat} (h : ∀ d ∈ ds, cnt d ≤ m) : cntAll ds ≤ ds.length * m := by
  induction ds with
  | nil => rw [cntAll]; omega
  | cons x xs ih =>
    rw [cntAll, List.length_cons, Nat.add_mul]
    have h1 := h x (List.mem_cons_self ..)
    have h2 := ih fun d hd => h d (List.mem_cons_of_mem _ hd)
    omega
theorem depth_le {ds : List PyData} {m : Nat} (h : ∀ d ∈ ds, d.depth ≤ m) : PyData.depthAll ds ≤ m := by
  induction ds with
  | nil => rw [PyData.depthAll]; omega
  | cons x xs ih =>
    rw [PyData.depthAll]
    have h1 := h x (List.mem_cons_self ..)
    have h2 := ih fun d hd => h d (List.mem_cons_of_mem _ hd)
    omega
/-! ### how long a repr is -/
theorem textFrom_le : ∀ (ts : List Str) (k : Nat) (acc : Str), (textFrom k acc ts).length ≤ acc.length + piled ts
  | [], _, _ => by
    show _ ≤ _ + 0
    exact Nat.le_refl _
  | t :: ts, k, acc => by
    have h := textFrom_le ts (k + 1) (acc ++ (if k > 0 then ", " else "" : String) ++ t)
    have e : (acc ++ (if k > 0 then ", " else "" : String) ++ t).length = acc.length + (if k > 0 then 2 else 0) + t.length := by
      rw [strLen_append, strLen_append]
      split <;> rfl
    rw [e] at h
    rw [piled_cons]
    show (textFrom (k + 1) (acc ++ (if k > 0 then ", " else "" : String) ++ t) ts).length ≤ _
    have : (if k > 0 then 2 else 0 : Nat) ≤ 2 := by split <;> omega
    omega
theorem piled_shown {ds : List PyData} {m : Nat} (h : ∀ d ∈ ds, d.shown.length ≤ m) : piled (PyData.shownAll ds) ≤ ds.length * (m + 2) := by
  induction ds with
  | nil =>
    rw [PyData.shownAll]
    exact Nat.zero_le _
  | cons d ds ih =>
    rw [PyData.shownAll, piled_cons, List.length_cons, Nat.add_mul]
    have h1 := h d (List.mem_cons_self ..)
    have h2 := ih fun x hx => h x (List.mem_cons_of_mem _ hx)
    omega
theorem shown_list {ds : List PyData} {m : Nat} (h : ∀ d ∈ ds, d.shown.length ≤ m) : (PyData.list ds).shown.length ≤ ds.length * (m + 2) + 2 := by
  have h1 := piled_shown h
  have h2 := textFrom_le (PyData.shownAll ds) 0 "["
  rw [PyData.shown]
  unfold listText
  rw [strLen_append]
  have e1 : ("[" : Str).length = 1 := rfl
  have e2 : ("]" : Str).length = 1 := rfl
  omega
theorem shown_tuple {ds : List PyData} {m : Nat} (h : ∀ d ∈ ds, d.shown.length ≤ m) : (PyData.tuple ds).shown.length ≤ ds.length * (m + 2) + 3 := by
  have h1 := piled_shown h
  rw [PyData.shown]
  unfold tupleText
  rw [strLen_append, strLen_append]
  have e1 : ("(" : Str).length = 1 := rfl
  have e3 : (Str.join ", " (PyData.shownAll ds)).length ≤ piled (PyData.shownAll ds) := by
    by_cases e : PyData.shownAll ds = []
    · rw [e]
      decide
    · have := join_length_add _ e
      omega
  have e2 : ((if (PyData.shownAll ds).length == 1 then ",)" else ")" : String) : Str).length ≤ 2 := by
    split <;> decide
  omega
/-! ### entries as data -/
theorem dpAll_strs {K : PySem.W.Frag} {H : Hp} : ∀ ns : List Str, DpAll K H (ns.map V.str) (ns.map PyData.str)
  | [] => .nil
  | n :: ns => .cons (.str n) (dpAll_strs ns)
theorem dp_strs {K : PySem.W.Frag} {H : Hp} {r : Addr} {ns : List Str} (h : H r = some (.lst (ns.map V.str))) : Dp K H (.ref r) (.list (ns.map PyData.str)) := .lst (SqL.of h) (dpAll_strs ns)
def entD (e : Ent) : PyData := .tuple [.str e.name, .int e.w, .list (e.parts.map PyData.str)]
def catD (es : List Ent) : PyData := .list (es.map entD)
theorem dp_ent {K : PySem.W.Frag} {H : Hp} {v : V} {e : Ent} (h : EntAt H v e) : Dp K H v (entD e) := by
  obtain ⟨t, l, rfl, h1, h2⟩ := h
  exact .tup (SqT.of h1) (.cons (.str _) (.cons (.int _) (.cons (dp_strs h2) .nil)))
theorem dpAll_cat {K : PySem.W.Frag} {H : Hp} : ∀ {vs : List V} {es : List Ent}, CatAt H vs es → DpAll K H vs (es.map entD)
  | _, _, .nil => .nil
  | _, _, .cons h t => .cons (dp_ent h) (dpAll_cat t)
theorem dp_cat {K : PySem.W.Frag} {H : Hp} {r : Addr} {vs : List V} {es : List Ent} (h : SqL K H r vs) (c : CatAt H vs es) : Dp K H (.ref r) (catD es) := .lst h (dpAll_cat c)
/-- texts and numbers that are short -/
def ShwS (x : Str) : Prop := x.length ≤ 9 ∧ ∀ c ∈ x.cps.toList, c < 16 ^ 8
structure ShwE (e : Ent) : Prop where
  name : ShwS e.name
  w : e.w.natAbs < 10 ^ 100
  few : e.parts.length ≤ 20
  parts : ∀ p ∈ e.parts, ShwS p
theorem shown_str {x : Str} (h : ShwS x) : (PyData.str x).shown.length ≤ 92 := by
  have := StrLaws.reprText_len x h.2
  rw [PyData.shown]
  have := h.1
  omega
theorem shown_int {i : Int} (h : i.natAbs < 10 ^ 100) : (PyData.int i).shown.length ≤ 101 := by
  have e := int_text_length_le10 (k := 100) (by decide) h
  rw [PyData.shown]
  show (Str.ofString (toString i)).length ≤ _
  rw [PySem.ofString_length]
  exact e
theorem show_int {i : Int} (h : i.natAbs < 10 ^ 100) : (PyData.int i).showable = true := by
  rw [PyData.showable, decide_eq_true_eq]
  by_cases h0 : i.natAbs = 0
  · rw [h0]
    decide
  · refine (Nat.log2_lt h0).mpr (Nat.lt_of_lt_of_le h ?_)
    decide +kernel
theorem showAll {ds : List PyData} (h : ∀ d ∈ ds, d.showable = true) : PyData.showableAll ds = true := by
  induction ds with
  | nil => rfl
  | cons d ds ih => rw [PyData.showableAll, h d (List.mem_cons_self ..), ih fun x hx => h x (List.mem_cons_of_mem _ hx)]; rfl
theorem show_strs {ns : List Str} (h : ∀ p ∈ ns, ShwS p) : (PyData.list (ns.map PyData.str)).showable = true ∧ (PyData.list (ns.map PyData.str)).shown.length ≤ ns.length * 94 + 2 := by
  refine ⟨?_, ?_⟩
  · rw [PyData.showable]
    exact showAll fun d hd => by
      obtain ⟨p, hp, rfl⟩ := List.mem_map.mp hd
      rfl
  · have := shown_list (ds := ns.map PyData.str) (m := 92) fun d hd => by
      obtain ⟨p, hp, rfl⟩ := List.mem_map.mp hd
      exact shown_str (h p hp)
    rwa [List.length_map] at this
theorem show_ent {e : Ent} (h : ShwE e) : (entD e).showable = true ∧ (entD e).shown.length ≤ 6000 := by
  obtain ⟨h1, h2⟩ := show_strs h.parts
  have h3 := h.few
  refine ⟨?_, ?_⟩
  · unfold entD
    rw [PyData.showable]
    refine showAll fun d hd => ?_
    rcases List.mem_cons.mp hd with rfl | hd
    · rfl
    rcases List.mem_cons.mp hd with rfl | hd
    · exact show_int h.w
    rw [List.mem_singleton.mp hd]
    exact h1
  · unfold entD
    refine Nat.le_trans (shown_tuple (m := 1890) fun d hd => ?_) (by show 3 * (1890 + 2) + 3 ≤ 6000; decide)
    rcases List.mem_cons.mp hd with rfl | hd
    · exact Nat.le_trans (shown_str h.name) (by decide)
    rcases List.mem_cons.mp hd with rfl | hd
    · exact Nat.le_trans (shown_int h.w) (by decide)
    rw [List.mem_singleton.mp hd]
    omega
theorem show_cat {es : List Ent} (h : ∀ e ∈ es, ShwE e) (hz : es.length ≤ 1000) : (catD es).showable = true ∧ (catD es).shown.length ≤ sizeLine := by
  refine ⟨?_, ?_⟩
  · unfold catD
    rw [PyData.showable]
    exact showAll fun d hd => by
      obtain ⟨e, he, rfl⟩ := List.mem_map.mp hd
      exact (show_ent (h e he)).1
  · unfold catD
    have := shown_list (ds := es.map entD) (m := 6000) fun d hd => by
      obtain ⟨e, he, rfl⟩ := List.mem_map.mp hd
      exact (show_ent (h e he)).2
    rw [List.length_map] at this
    rw [sizeLine_eq]
    have h2 : es.length * 6002 ≤ 1000 * 6002 := Nat.mul_le_mul_right _ hz
    omega
theorem depth_cat (es : List Ent) : (catD es).depth ≤ 3 := by
  unfold catD
  rw [PyData.depth]
  have : PyData.depthAll (es.map entD) ≤ 2 := depth_le fun d hd => by
    obtain ⟨e, he, rfl⟩ := List.mem_map.mp hd
    unfold entD
    rw [PyData.depth]
    have : PyData.depthAll [.str e.name, .int e.w, .list (e.parts.map PyData.str)] ≤ 1 := depth_le fun d hd => by
      rcases List.mem_cons.mp hd with rfl | hd
      · rw [PyData.depth]; omega
      rcases List.mem_cons.mp hd with rfl | hd
      · rw [PyData.depth]; omega
      rw [List.mem_singleton.mp hd, PyData.depth]
      have : PyData.depthAll (e.parts.map PyData.str) ≤ 0 := depth_le fun d hd => by
        obtain ⟨p, hp, rfl⟩ := List.mem_map.mp hd
        rw [PyData.depth]
        exact Nat.le_refl _
      omega
    omega
  omega
theorem depth_strs (ns : List Str) : (PyData.list (ns.map PyData.str)).depth ≤ 1 := by
  rw [PyData.depth]
  have : PyData.depthAll (ns.map PyData.str) ≤ 0 := depth_le fun d hd => by
    obtain ⟨p, hp, rfl⟩ := List.mem_map.mp hd
    rw [PyData.depth]
    exact Nat.le_refl _
  omega
theorem cnt_strs (ns : List Str) : cnt (PyData.list (ns.map PyData.str)) ≤ ns.length + 1 := by
  rw [cnt]
  have := cnt_le (ds := ns.map PyData.str) (m := 1) fun d hd => by
    obtain ⟨p, hp, rfl⟩ := List.mem_map.mp hd
    rw [cnt]
    exact Nat.le_refl _
  rw [List.length_map] at this
  omega
end Sk
/-! repr of a list of lists and of dicts of numbers -/
namespace Sk
open PySem PySem.Spec PyProof.Rows L2
def numD (n : Num) : PyData := .dict (n.map fun q => (.str q.1, .int q.2))
/-- nested data, or a dict of numbers -/
def DpM (K : PySem.W.Frag) (H : Hp) (v : V) (d : PyData) : Prop := Dp K H v d ∨ ∃ b n, v = .ref b ∧ H b = some (.dK (dS n)) ∧ d = numD n
section
variable {prog : Program} {w : World}
theorem reads_pairs {h : Heap} : ∀ (n : Num) (es : List DictEntry) (kvs : List (Key × Value)), Pairs (mixKind prog w) es kvs → KV (dS n) kvs → ReadsAll h (es.map (·.key)) (n.map fun q => PyData.str q.1) [] ∧ ReadsAll h (es.map (·.val)) (n.map fun q => PyData.int q.2) []
  | [], es, kvs, p, r => by
    cases r
    cases p
    exact ⟨.nil, .nil⟩
  | q :: n, es, kvs, p, r => by
    cases r with
    | cons r1 r2 =>
      cases p with
      | cons hk hv p =>
        obtain ⟨h1, h2⟩ := reads_pairs n _ _ p r2
        obtain ⟨e1, e2⟩ := r1
        rcases keyIs_shape hk with ⟨i, t, a1, a2⟩ | ⟨x, t, a1, a2⟩
        · rw [← e1] at a1
          cases a1
        · rw [← e1] at a1
          cases a1
          obtain ⟨t2, a3⟩ := e2
          refine ⟨?_, ?_⟩
          · rw [List.map_cons, List.map_cons, a2]
            exact ReadsAll.cons (as := []) (.str _ _) h1
          · rw [List.map_cons, List.map_cons, hv, a3]
            exact ReadsAll.cons (as := []) (.int _ _) h2
end
section
variable {X : Cx} {pins : List (Addr × Obj)} {σ : L2.St} {H : Hp} {s : Shared}
theorem DpM.reads (I : Inv X pins σ H s) {v : V} {u : Value} {d : PyData} (h : DpM X.K H v d) (r : RelV v u) : ∃ as, Reads s.heap u d as ∧ (d.hasDict = true → sysModules ∉ as) := by
  rcases h with h | ⟨b, n, rfl, hb, rfl⟩
  · obtain ⟨as, h1⟩ := Dp.reads I d v u h r
    exact ⟨as, h1, fun z => by rw [Dp.noDict h] at z; cases z⟩
  · obtain rfl : u = Value.ref b := r
    obtain ⟨_, hsys, vs, rel, dof⟩ := dk_of I.hok hb
    obtain ⟨o, es, ep, ho, ex, hd, _, hp, _⟩ := dof
    obtain ⟨h1, h2⟩ := reads_pairs (h := s.heap) n _ _ hp rel
    have k1 : ReadsAll s.heap (es.toList.map (·.key)) ((n.map fun q : Str × Int => (PyData.str q.1, PyData.int q.2)).map (·.1)) [] := by
      rw [List.map_map]
      exact h1
    have k2 : ReadsAll s.heap (es.toList.map (·.val)) ((n.map fun q : Str × Int => (PyData.str q.1, PyData.int q.2)).map (·.2)) [] := by
      rw [List.map_map]
      exact h2
    refine ⟨_, Reads.dict ho ex.1 hd k1 k2, fun _ => ?_⟩
    · intro hm
      have e : sysModules = b := List.mem_singleton.mp (by simpa using hm)
      rw [e] at hsys
      simp at hsys
end
/-- data of a list, item by item -/
def rReprM (K : PySem.W.Frag) : List V → Hp → VK → Prop := fun xs H Q => ∃ (a : Addr) (us : List V) (ds : List PyData), xs = [.ref a] ∧ SqL K H a us ∧ Paired (DpM K H) us ds ∧ us ≠ [] ∧ (∀ d ∈ ds, d.showable = true ∧ d.shown.length ≤ sizeLine ∧ d.depth ≤ 50) ∧ (PyData.list ds).shown.length ≤ sizeLine ∧ Q (.str (PyData.list ds).shown) H
theorem crReprM {X : Cx} {K : PySem.W.Frag} (e : X.K = K) (hg : X.A.guards = some []) (hu : X.A.units + 64 < cLine) : CallR X (.builtin "repr") (rReprM K) := by
  subst e
  intro pins s σ H xs us Q I r h
  obtain ⟨a, vs, ds, rfl, hs, hp, hne, hsh, hz, q⟩ := h
  obtain ⟨u, rfl, ru⟩ := vals1 r
  obtain rfl : u = Value.ref a := ru
  obtain ⟨its, rv, ⟨o, n, ho, hc, hdn, hd⟩, hlen⟩ := I.list hs
  -- the items
  have items : ∀ {vs : List V} {ds : List PyData} {its : List Value}, Paired (DpM X.K H) vs ds → Vals vs its → (∀ d ∈ ds, d.showable = true ∧ d.shown.length ≤ sizeLine ∧ d.depth ≤ 50) →
      (∃ as, ReadsAll s.heap its ds as) ∧ ∃ bs, ReadAtMost s.heap (PyData.depthAll ds) bs ∧ ReprAllK X.prog X.w bs s.heap (PyData.depthAll ds) its (PyData.shownAll ds) := by
    intro vs ds its hp
    induction hp generalizing its with
    | nil =>
      intro rv _
      cases rv
      exact ⟨⟨_, .nil⟩, [], (fun _ h => nomatch h), by rw [PyData.shownAll]; exact .nil⟩
    | cons hd _ ih =>
      intro rv hsh
      cases rv with
      | cons r1 r2 =>
        obtain ⟨⟨as2, k2⟩, b2, hb2, k3⟩ := ih r2 fun d hd => hsh d (List.mem_cons_of_mem _ hd)
        obtain ⟨as, k1, hsm⟩ := DpM.reads I hd r1
        obtain ⟨s1, s2, s3⟩ := hsh _ (List.mem_cons_self ..)
        obtain ⟨b1, hb1, k4⟩ := ReprK.of_reads (prog := X.prog) (w := X.w) k1 s1 hsm s2
        refine ⟨⟨_, .cons k1 k2⟩, b1 ++ b2, ?_, ?_⟩
        · rw [PyData.depthAll]
          exact (hb1.mono (Nat.le_max_left _ _)).append (hb2.mono (Nat.le_max_right _ _))
        · rw [PyData.depthAll, PyData.shownAll]
          exact .cons ((k4.more fun b hb => List.mem_append_left _ hb).level_le (Nat.le_max_left _ _)) (k3.more_le (fun b hb => List.mem_append_right _ hb) (Nat.le_max_right _ _))
  obtain ⟨⟨as, ra⟩, bs, hbs, hk⟩ := items hp rv hsh
  have whole : Reads s.heap (.ref a) (.list ds) (a :: as) := .list ho hc hd ra
  have hna : a ∉ bs := not_mem_of_deeper whole (by rw [PyData.depth]; omega) hbs
  have hdp : PyData.depthAll ds ≤ 50 := depth_le fun d hd => (hsh d hd).2.2
  cases its with
  | nil =>
    cases rv
    exact absurd rfl hne
  | cons x l =>
    have hz' : (listText (PyData.shownAll ds)).length ≤ sizeLine := by
      rw [PyData.shown] at hz
      exact hz
    refine call_repr_slot (by omega) ⟨o, ho, hc⟩ F.slot_list_repr.toG (call_list_reprK (A := X.A.in1) ho hc hd hna (by simpa using hk.length_eq) (fun i y e => hk.item i y (by simpa using e)) hg (fun b _ => Clear.nil b) (by show X.A.units + 1 + _ < cLine; omega) (fun _ _ e => e) (fun h' u tk k => ⟨_, _, rfl, ?_⟩) hz')
    have e1 : listText (PyData.shownAll ds) = (PyData.list ds).shown := by rw [PyData.shown]
    rw [e1]
    exact ⟨.str _, H, I.kept k, ⟨u, rfl⟩, q⟩
/-! ### how long -/
theorem piled_kv {m : Nat} : ∀ {n : Num}, (∀ q ∈ n, ShwS q.1 ∧ q.2.natAbs < 10 ^ 100) → piled (PyData.shownKv (n.map fun q => (PyData.str q.1, PyData.int q.2))) ≤ n.length * 230
  | [], _ => by
    rw [List.map_nil, PyData.shownKv]
    exact Nat.zero_le _
  | q :: n, h => by
    rw [List.map_cons, PyData.shownKv, piled_cons, List.length_cons, Nat.add_mul]
    have h1 := shown_str (h q (List.mem_cons_self ..)).1
    have h2 := shown_int (h q (List.mem_cons_self ..)).2
    have h3 := piled_kv (m := m) fun z hz => h z (List.mem_cons_of_mem _ hz)
    have e : ((PyData.str q.1).shown ++ ": " ++ (PyData.int q.2).shown).length = (PyData.str q.1).shown.length + 2 + (PyData.int q.2).shown.length := by
      rw [strLen_append, strLen_append]
      rfl
    rw [e]
    omega
theorem show_num {n : Num} (h : ∀ q ∈ n, ShwS q.1 ∧ q.2.natAbs < 10 ^ 100) : (numD n).showable = true ∧ (numD n).shown.length ≤ n.length * 230 + 4 ∧ (numD n).depth ≤ 1 := by
  refine ⟨?_, ?_, ?_⟩
  · unfold numD
    rw [PyData.showable]
    induction n with
    | nil => rfl
    | cons q n ih =>
      rw [List.map_cons, PyData.showableKv, ih fun z hz => h z (List.mem_cons_of_mem _ hz), show_int (h q (List.mem_cons_self ..)).2]
      rfl
  · unfold numD
    have h1 := piled_kv (m := 0) h
    rw [PyData.shown]
    unfold dictText
    rw [strLen_append, strLen_append]
    have e1 : ("{" : Str).length = 1 := rfl
    have e2 : ("}" : Str).length = 1 := rfl
    have e3 : (Str.join ", " (PyData.shownKv (n.map fun q => (PyData.str q.1, PyData.int q.2)))).length ≤ piled (PyData.shownKv (n.map fun q => (PyData.str q.1, PyData.int q.2))) := by
      by_cases e : PyData.shownKv (n.map fun q => (PyData.str q.1, PyData.int q.2)) = []
      · rw [e]
        decide
      · have := join_length_add _ e
        omega
    omega
  · unfold numD
    rw [PyData.depth]
    have : PyData.depthKv (n.map fun q => (PyData.str q.1, PyData.int q.2)) = 0 := by
      clear h
      induction n with
      | nil => rfl
      | cons q n ih =>
        rw [List.map_cons, PyData.depthKv, ih, PyData.depth, PyData.depth]
        rfl
    omega
theorem show_cat_len {es : List Ent} (h : ∀ e ∈ es, ShwE e) : (catD es).shown.length ≤ es.length * 6002 + 2 := by
  unfold catD
  have := shown_list (ds := es.map entD) (m := 6000) fun d hd => by
    obtain ⟨e, he, rfl⟩ := List.mem_map.mp hd
    exact (show_ent (h e he)).2
  rwa [List.length_map] at this
end Sk
/-! l.count(x), a list of texts -/
namespace Sk
open PySem PySem.Spec PyProof.Rows L2
def eqTx (k : Str) (v : Value) : Bool := match v with
  | .str n _ => decide (n = k)
  | _ => false
def rCntS (K : PySem.W.Frag) : V → List V → Hp → VK → Prop := fun x xs H Q => ∃ (p : Addr) (ns : List Str) (k : Str), x = .ref p ∧ xs = [.str k] ∧ SqL K H p (ns.map V.str) ∧ Q (.int (amt (ones ns) k)) H
theorem cnt_texts {k : Str} : ∀ {ns : List Str} {us : List Value}, Vals (ns.map V.str) us → ((us.countP (eqTx k) : Nat) : Int) = amt (ones ns) k
  | [], _, .nil => rfl
  | n :: ns, _, .cons ⟨t, e⟩ r => by
    have ih := cnt_texts (k := k) r
    unfold ones at ih ⊢
    rw [List.countP_cons, List.map_cons, amt_cons, ← ih, e]
    show _ = (if n = k then (1 : Int) else 0) + _
    by_cases c : n = k
    · rw [if_pos c, if_pos (show eqTx k (.str n t) = true from decide_eq_true c)]
      omega
    · rw [if_neg c, if_neg (show ¬ eqTx k (.str n t) = true from fun z => c (of_decide_eq_true z))]
      omega
theorem txt_gives {k : Str} {t : Tok} : ∀ {ns : List Str} {us : List Value}, Vals (ns.map V.str) us → ∀ y ∈ us, MeetsSeq.EqGives y (.str k t) (eqTx k y)
  | [], _, .nil, y, hy => by cases hy
  | n :: ns, _, .cons ⟨t', e⟩ r, y, hy => by
    rcases List.mem_cons.mp hy with z | z
    · rw [z, e]
      have h := SeqRoads2.EqGives.str n k t' t
      have e2 : eqTx k (.str n t') = (n.cps.toList == k.cps.toList) := by
        show decide (n = k) = _
        rw [Bool.eq_iff_iff, decide_eq_true_eq, beq_iff_eq]
        exact ⟨fun z => by rw [z], fun z => str_ext z⟩
      rw [e2]
      exact h
    · exact txt_gives r y z
theorem mt_cntS {X : Cx} {K : PySem.W.Frag} (eK : X.K = K) : MtR X "list.count" (rCntS K) := by
  subst eK
  intro pins s σ H x xs v us Q I rx rxs h
  obtain ⟨p, ns, k, rfl, rfl, hs, q⟩ := h
  cases rx
  obtain ⟨u, rfl, ru⟩ := rxs.one
  obtain ⟨t, rfl⟩ := ru
  obtain ⟨its, rv, ⟨⟨cls, dd, data, sl⟩, n, ho, hc, hdn, hd⟩, _⟩ := I.list hs
  simp only at hc hd
  subst hc hd
  have ec := cnt_texts (k := k) rv
  refine call_meets PySem.F.slot_list_count ⟨_, ho, rfl⟩ PySem.F.entry_list_count (PySem.F.args_list_count_2 _ _) (SeqAt.list_countAt p its.toArray n dd sl (.str k t) (eqTx k))
    ⟨ho, fun y hy => (txt_gives rv y (by simpa using hy)).at _ _, .int (amt (ones ns) k), H, I.tok _, ⟨s.toks, ?_⟩, q⟩
  rw [← ec]
/-- l.remove(x), a list of texts -/
def rRemS : V → List V → Hp → VK → Prop := fun x xs H Q => ∃ (l : Addr) (ns : List Str) (k : Str), x = .ref l ∧ xs = [.str k] ∧ H l = some (.lst (ns.map V.str)) ∧ k ∈ ns ∧ Q .non (upd H l (.lst ((ns.erase k).map V.str)))
theorem erase_mapS : ∀ (l : List Str) (j : Nat), (l.map V.str).eraseIdx j = (l.eraseIdx j).map V.str
  | [], j => by simp
  | a :: r, 0 => by simp
  | a :: r, j + 1 => by
    have ih := erase_mapS r j
    simp [ih]
theorem erase_ix {k : Str} : ∀ {ns : List Str}, k ∈ ns → ∃ j, ns[j]? = some k ∧ (∀ m : Nat, m < j → ns[m]? ≠ some k) ∧ ns.eraseIdx j = ns.erase k
  | n :: ns, h => by
    by_cases c : n = k
    · subst c
      exact ⟨0, rfl, fun m hm => by omega, by simp⟩
    · obtain ⟨j, h1, h2, h3⟩ := erase_ix ((List.mem_cons.mp h).resolve_left fun z => c z.symm)
      refine ⟨j + 1, by simpa using h1, fun m hm => ?_, ?_⟩
      · cases m with
        | zero => simpa using c
        | succ m => simpa using h2 m (by omega)
      · rw [List.eraseIdx_cons_succ, h3, List.erase_cons, if_neg]
        simpa using c
theorem vals_at {ns : List Str} {us : List Value} (r : Vals (ns.map V.str) us) {j : Nat} {n : Str} (h : ns[j]? = some n) : ∃ t, us[j]? = some (.str n t) := by
  induction ns generalizing us j with
  | nil => simp at h
  | cons a ns ih =>
    cases r with
    | cons r1 r2 =>
      obtain ⟨t, rfl⟩ := r1
      cases j with
      | zero =>
        simp at h
        subst h
        exact ⟨t, rfl⟩
      | succ j => simpa using ih r2 (by simpa using h)
theorem mt_removeS {X : Cx} : MtM X "list.remove" rRemS := by
  intro pins s σ H x xs v us Q I rx rxs h
  obtain ⟨l, ns, k, rfl, rfl, hH, hm, q⟩ := h
  obtain ⟨j, hj, hno, he⟩ := erase_ix hm
  cases rx
  obtain ⟨u, rfl, ru⟩ := rxs.one
  obtain ⟨t, rfl⟩ := ru
  obtain ⟨z, its, n, r, hl, e⟩ := I.lstM hH
  rw [List.length_map] at hl z
  have hjn : j < ns.length := (List.getElem?_eq_some_iff.mp hj).1
  have hjl : j < its.toArray.size := by rw [List.size_toArray]; omega
  refine call_meets PySem.F.slot_list_remove ⟨_, e, rfl⟩ PySem.F.entry_list_remove (PySem.F.args_list_remove_2 _ _)
    (MeetsSeq.list_remove l its.toArray n (.str k t) (eqTx k) (fun y hy => txt_gives r y (by simpa using hy)) j hjl ?_ ?_ (by rw [List.size_toArray]; omega)) ⟨e, ?_⟩
  · obtain ⟨tj, hjt⟩ := vals_at r hj
    obtain ⟨h1, h2⟩ := List.getElem?_eq_some_iff.mp hjt
    have e1 : its.toArray[j] = .str k tj := by simpa using h2
    rw [e1]
    exact decide_eq_true rfl
  · intro m hm hmj
    have hmn : m < ns.length := by omega
    obtain ⟨tm, hmt⟩ := vals_at r (List.getElem?_eq_getElem hmn)
    obtain ⟨h1, h2⟩ := List.getElem?_eq_some_iff.mp hmt
    have e1 : its.toArray[m] = .str ns[m] tm := by simpa using h2
    rw [e1]
    refine decide_eq_false fun e2 => hno m hmj ?_
    rw [List.getElem?_eq_getElem hmn, e2]
  · have rr := r.eraseIdx j
    rw [erase_mapS, he] at rr
    refine ⟨.non, _, I.lset (its' := its.eraseIdx j) (t' := s.toks) hH e ?_ rr ?_, rfl, q⟩
    · show its.toArray.eraseIdxIfInBounds j = (its.eraseIdx j).toArray
      rw [List.eraseIdxIfInBounds_toArray]
    · have z2 : (ns.erase k).length ≤ ns.length := List.length_erase_le
      rw [List.length_map]
      omega
end Sk
/-! sorted(set(xs)), xs a list of texts -/
namespace Sk
open PySem PySem.Spec PyProof.Rows L2
def keyT (e : Int × Value) : Str := match e.2 with | .str x _ => x | _ => Str.empty
def GoodT (w : World) (e : Int × Value) : Prop := ∃ x tk, e.2 = Value.str x tk ∧ e.1 = hashStr w x
/-- the set of texts at a: S its members, n their number -/
def SetT (w : World) (h : Heap) (a : Addr) (S : Str → Bool) (n : Nat) : Prop :=
  ∃ o es ep t, h.get? a = some o ∧ o.ExactSet ∧ o.data = .set es ep t ∧ (∀ e ∈ es.toList, GoodT w e) ∧ (es.toList.map keyT).Nodup ∧ (∀ k, S k = true ↔ k ∈ es.toList.map keyT) ∧
    es.size < scanBound ∧ t.fits es.size = true ∧ es.size = n ∧ Ris t.place.toList ∧ (w.params.followText "set-order" = true ∨ t.led = true)
section
variable {P : Program} {w : World} {h h' : Heap} {a : Addr} {S : Str → Bool} {n : Nat}
theorem SetT.at (R : SetT w h a S n) (k : ∀ o, h.get? a = some o → h'.get? a = some o) : SetT w h' a S n := let ⟨o, es, ep, t, ho, r⟩ := R; ⟨o, es, ep, t, k o ho, r⟩
theorem SetT.congr {S' : Str → Bool} (R : SetT w h a S n) (e : ∀ k, S' k = S k) : SetT w h a S' n := (funext e : S' = S) ▸ R
theorem goodT_elems {l : List (Int × Value)} (g : ∀ e ∈ l, GoodT w e) : ElemsOf (PySem.strKind P w) l := fun e he => by
  obtain ⟨x, tk, h1, h2⟩ := g e he
  exact ⟨⟨x, by rw [h1]; exact strKind_is P w x tk, h2⟩, by rw [h1] <;> rfl⟩
theorem goodT_is {e : Int × Value} (g : GoodT w e) (k : Str) : (PySem.strKind P w).is k e.2 = true ↔ keyT e = k := by
  obtain ⟨x, tk, h1, _⟩ := g
  unfold keyT
  rw [h1]
  constructor
  · intro z
    exact (PySem.strKind P w).inj _ _ _ (strKind_is P w x tk) z
  · rintro rfl
    exact strKind_is P w x tk
theorem goodT_mem {l : List (Int × Value)} (g : ∀ e ∈ l, GoodT w e) (k : Str) : k ∈ l.map keyT ↔ ∃ e ∈ l, (PySem.strKind P w).is k e.2 = true := by
  rw [List.mem_map]
  exact ⟨fun ⟨e, he, q⟩ => ⟨e, he, (goodT_is (g e he) k).2 q⟩, fun ⟨e, he, q⟩ => ⟨e, he, (goodT_is (g e he) k).1 q⟩⟩
end
section
variable {P : Program} {w : World} {A : Around} {E : Value → Shared → Prop} {s : Shared} {a : Addr} {S : Str → Bool} {n : Nat}
theorem setT_tail {g : Bool → Sem Unit} (hg : ∀ (b : Bool) (s₁ : Shared) (Q' : Unit → Shared → Prop), Q' () s₁ → wpAny (model P w) A (g b) Q' E s₁) {o : Obj} {es : Array (Int × Value)} {ep : Nat} {t : SetTable} (ho : s.heap.get? a = some o) (hex : o.ExactSet) (hd : o.data = .set es ep t)
    {zs : Array (Int × Value)} {t2 : SetTable} {S' : Str → Bool} (g1 : ∀ e ∈ zs.toList, GoodT w e) (nd1 : (zs.toList.map keyT).Nodup) (m1 : ∀ k, S' k = true ↔ k ∈ zs.toList.map keyT)
    (hb1 : zs.size < scanBound) (hf2 : t2.fits zs.size = true) (hr : Ris t2.place.toList) (hl : w.params.followText "set-order" = true ∨ t2.led = true) {dum : Bool} {R : Option Bool → Shared → Prop}
    (hR : ∀ h', Heap.SameBut a s.heap h' → SetT w h' a S' zs.size → R (some true) { s with heap := h' }) :
    wpAny (model P w) A (do
        storeSet a zs t2
        if (!dum && t2.tooFull) = true then do
            g (relayAll t2 zs (SetTable.grown zs.size)).2.2
            storeSet a (relayAll t2 zs (SetTable.grown zs.size)).1 (relayAll t2 zs (SetTable.grown zs.size)).2.1
            pure (some true)
          else pure (some true)) R E s := by
  have ho1 := store_at (es' := zs) (t' := t2) ho hd
  have sb1 := Heap.SameBut.update s.heap a (Obj.putSet zs t2)
  refine wpAny_bind (wpAny_storeSet_of ho hd ?_ (fits_of_scanBound hb1))
  by_cases c : (!dum && t2.tooFull) = true
  · rw [if_pos c]
    have pm := relayAll_perm t2 zs (SetTable.grown zs.size)
    have hf3 := relayAll_fits t2 zs (SetTable.grown zs.size)
    have hr3 := relayAll_ris t2 zs (SetTable.grown zs.size)
    have hl3 := relayAll_led t2 zs (SetTable.grown zs.size)
    generalize relayAll t2 zs (SetTable.grown zs.size) = Z at pm hf3 hr3 hl3 ⊢
    obtain ⟨ys, t3, gave⟩ := Z
    dsimp only at pm hf3 hr3 hl3 ⊢
    have hsz : ys.size = zs.size := by rw [← Array.length_toList, pm.length_eq, Array.length_toList]
    have ho2 := store_at (es' := ys) (t' := t3) ho1 rfl
    refine wpAny_bind (hg _ _ _ (wpAny_bind (wpAny_storeSet_of ho1 rfl (wpAny_pure (hR _ (sb1.trans (Heap.SameBut.update _ a _)) ?_)) (fits_of_scanBound (by rw [hsz]; exact hb1)))))
    exact ⟨_, ys, _, t3, ho2, hex, rfl, fun e he => g1 e (pm.mem_iff.mp he), (pm.map keyT).nodup_iff.mpr nd1, fun k => (m1 k).trans (pm.map keyT).mem_iff.symm, by rw [hsz]; exact hb1, hf3, hsz, hr3, hl.imp id fun z => by rw [hl3]; exact z⟩
  · rw [if_neg c]
    exact wpAny_pure (hR _ sb1 ⟨_, zs, _, t2, ho1, hex, rfl, g1, nd1, m1, hb1, hf2, rfl, hr, hl⟩)
theorem setT_add {k : Str} {tk : Tok} {Q : Bool → Shared → Prop} (R : SetT w s.heap a S n) (room : n + 1 < scanBound)
    (hQ : ∀ h', Heap.SameBut a s.heap h' → SetT w h' a (fun j => S j || decide (j = k)) (if S k = true then n else n + 1) → Q (!S k) { s with heap := h' }) :
    wpAny (model P w) A (setAddHashed a (.str k tk) ((PySem.strKind P w).hash k)) Q E s := by
  obtain ⟨o, es, ep, t, ho, hex, hd, g, nd, hm, hb, hf, hn, hr, hl⟩ := R
  have hkey : (PySem.strKind P w).is k (.str k tk) = true := strKind_is P w k tk
  have hsc : (Value.str k tk).scannable = true := rfl
  have hel : ElemsOf (PySem.strKind P w) es.toList := goodT_elems g
  have hgw : ∀ (b : Bool) {s₁ : Shared} {Q' : Unit → Shared → Prop}, Q' () s₁ → wpAny (model P w) A (match b with | true => rule "set.scan.the-table-gave-way" | false => pure ()) Q' E s₁ := fun b s₁ Q' q => by
    cases b
    · first | exact wpAny_pure q | exact wpAny_rule q
    · first | exact wpAny_pure q | exact wpAny_rule q
  unfold setAddHashed setAddHashedIn
  refine wpAny_holding (wpAny_bind (wpAny_setState_of ho hd hf ?_))
  dsimp only
  rw [byScan_of hsc hb hel]
  simp only [↓reduceIte]
  unfold setAddByScan
  refine wpAny_bind (wpAny_bind (wpAny_rule (wpAny_bind (wpAny_setScan_of hkey ho hd hf hel ?_))))
  cases hfi : List.findIdx? (fun e => (PySem.strKind P w).is k e.2) es.toList with
  | some j =>
    dsimp only
    obtain ⟨hj, pj, _⟩ := List.findIdx?_eq_some_iff_getElem.mp hfi
    have hSk : S k = true := (hm k).2 ((goodT_mem (P := P) (w := w) g k).2 ⟨es.toList[j], List.getElem_mem hj, pj⟩)
    have q := hQ s.heap (Heap.SameBut.refl a s.heap) ⟨o, es, ep, t, ho, hex, hd, g, nd, fun i => by
      rw [Bool.or_eq_true, decide_eq_true_eq, ← hm i]
      exact ⟨fun z => z.elim id (fun e => e ▸ hSk), .inl⟩, hb, hf, by rw [if_pos hSk]; exact hn, hr, hl⟩
    rw [hSk] at q
    exact wpAny_pure (wpAny_pure q)
  | none =>
    dsimp only
    have hnk : k ∉ es.toList.map keyT := fun z => by
      obtain ⟨e, he, q⟩ := (goodT_mem (P := P) (w := w) g k).1 z
      have c := List.findIdx?_eq_none_iff.mp hfi e he
      rw [q] at c
      cases c
    have hSk : S k = false := by
      cases q : S k with
      | false => rfl
      | true => exact absurd ((hm k).1 q) hnk
    have pm := layNew_perm t es ((PySem.strKind P w).hash k) (.str k tk)
    have hf1 := layNew_fits t es ((PySem.strKind P w).hash k) (.str k tk)
    have hr1 := layNew_ris t es ((PySem.strKind P w).hash k) (.str k tk) hr
    have hl1 := layNew_led t es ((PySem.strKind P w).hash k) (.str k tk)
    generalize layNew t es ((PySem.strKind P w).hash k) (.str k tk) = Z at pm hf1 hr1 hl1 ⊢
    obtain ⟨zs, t1, dum, gave⟩ := Z
    dsimp only at pm hf1 hr1 hl1 ⊢
    rw [Array.toList_push] at pm
    have pc : zs.toList.Perm (((PySem.strKind P w).hash k, Value.str k tk) :: es.toList) := pm.trans (List.perm_append_singleton _ _)
    have pk : (zs.toList.map keyT).Perm (k :: es.toList.map keyT) := pc.map keyT
    have g1 : ∀ e ∈ zs.toList, GoodT w e := fun e he => by
      rcases List.mem_cons.mp (pc.mem_iff.mp he) with rfl | z
      · exact ⟨k, tk, rfl, rfl⟩
      · exact g e z
    have nd1 : (zs.toList.map keyT).Nodup := pk.nodup_iff.mpr (List.nodup_cons.mpr ⟨hnk, nd⟩)
    have m1 : ∀ i, (S i || decide (i = k)) = true ↔ i ∈ zs.toList.map keyT := fun i => by
      rw [Bool.or_eq_true, decide_eq_true_eq, hm i, pk.mem_iff, List.mem_cons]
      exact Or.comm
    have hsz : zs.size = n + 1 := by rw [← Array.length_toList, pc.length_eq, List.length_cons, Array.length_toList, hn]
    have hb1 : zs.size < scanBound := by rw [hsz]; exact room
    have hled : w.params.followText "set-order" = true ∨ t1.led = true := hl.imp id fun z => by rw [hl1]; exact z
    have fin : ∀ h', Heap.SameBut a s.heap h' → SetT w h' a (fun j => S j || decide (j = k)) zs.size → Q true { s with heap := h' } := fun h' sb r => by
      have q := hQ h' sb
      rw [hSk] at q
      rw [hsz] at r
      exact q r
    refine wpAny_bind (hgw _ ?_)
    split
    · refine wpAny_bind ?_
      rw [hashByValue_scannable 8 hsc]
      refine wpAny_pure (setT_tail (fun b s₁ Q' q => ?_) ho hex hd g1 nd1 m1 hb1 ?_ ?_ ?_ fun h' sb r => ?_)
      · cases b
        · first | exact wpAny_pure q | exact wpAny_rule q
        · first | exact wpAny_pure q | exact wpAny_rule q
      · first | (split <;> first | exact hf1 | exact SetTable.fits_plain_off hf1) | exact hf1
      · first | (split <;> exact hr1) | exact hr1
      · first | (split <;> exact hled) | exact hled
      · dsimp only
        exact wpAny_pure (fin h' sb r)
    · refine wpAny_bind (wpAny_pure ?_)
      simp only [↓reduceIte]
      refine setT_tail (fun b s₁ Q' q => ?_) ho hex hd g1 nd1 m1 hb1 hf1 hr1 hled fun h' sb r => ?_
      · cases b
        · first | exact wpAny_pure q | exact wpAny_rule q
        · first | exact wpAny_pure q | exact wpAny_rule q
      · dsimp only
        exact wpAny_pure (fin h' sb r)
/-! ### set(xs) -/
/-- a fresh set, as the model lays it -/
abbrev frS (w : World) : Obj := { cls := .type "set", dict := none, data := .set #[] 0 (.fresh 0 0 (!w.params.followText "set-order")) }
theorem setT_new {h : Heap} {a : Addr} {ns : List Str} (ho : h.get? a = some (frS w)) : SetT w h a (fun j => decide (j ∈ ns.take 0)) 0 := by
  refine ⟨_, #[], 0, _, ho, ⟨rfl, rfl, rfl⟩, rfl, (fun e he => by simp at he), (by simp), (fun k => by simp), (by decide), (by rfl), rfl, List.Pairwise.nil, ?_⟩
  show _ ∨ (!w.params.followText "set-order") = true
  cases w.params.followText "set-order" with
  | false => exact .inr rfl
  | true => exact .inl rfl
theorem set_loopT {I : Addr} {fp wr : List Addr} {G : Array GenState → Array GenState → Prop} {n : Nat} {Pv : Nat → Value → Prop} {St : Nat → Shared → Prop} {R : Result → Shared → Prop}
    (W : WalksS P w A.in1 I fp wr G n Pv St) (C : Addr) (hSf : C ∉ fp) (ns : List Str) (hn : n = ns.length) (hb : ns.length + 1 < scanBound) (hval : ∀ i v, Pv i v → ∃ k t, ns[i]? = some k ∧ v = .str k t) :
    ∀ (k i : Nat) (s : Shared), n - i = k → i ≤ n → St i s → (∃ c, c ≤ i ∧ SetT w s.heap C (fun j => decide (j ∈ ns.take i)) c) →
      (∀ s' c, Moved (C :: wr) G s s' → c ≤ n → SetT w s'.heap C (fun j => decide (j ∈ ns)) c → R (.ok (.ret .none)) s') → codeAny (model P w) A (.builtin "set.update.loop" ⟨[.ref C, .ref I], []⟩) R s := by
  have hSw : C ∉ wr := fun h => hSf (W.sub _ h)
  have hsub : ∀ b ∈ wr, b ∈ C :: wr := fun b hb => List.mem_cons_of_mem _ hb
  intro k
  induction k with
  | zero =>
    rintro i s hk' hi hst ⟨c, hc, hS⟩ hR
    obtain rfl : i = n := by omega
    refine codeAny_builtin F.entry_set_update_loop ?_
    rw [Around.under_plainId F.plain_set_update_loop _]
    refine wpAny_bind (W.done s _ _ hst fun s' hm => ?_)
    show wpAny _ A.in1 (ret Value.none) _ _ s'
    rw [List.take_of_length_le (by omega)] at hS
    exact wpAny_pure (hR s' c (hm.mono hsub) hc (hS.at fun o e => hm.heap C o hSw e))
  | succ k ih =>
    rintro i s hk' hi hst ⟨c, hc, hS⟩ hR
    have hlt : i < n := by omega
    refine codeAny_builtin F.entry_set_update_loop ?_
    rw [Around.under_plainId F.plain_set_update_loop _]
    refine wpAny_bind (W.item i s _ _ hlt hst fun v s' hP hst' hm => ?_)
    obtain ⟨z, t, hz, rfl⟩ := hval i v hP
    have hS' : SetT w s'.heap C (fun j => decide (j ∈ ns.take i)) c := hS.at fun o e => hm.heap C o hSw e
    show wpAny _ A.in1 (holding [Value.str z t] (setAdd C (.str z t)) >>= _) _ _ s'
    refine wpAny_bind (wpAny_holding ?_)
    unfold setAdd
    refine wpAny_holding (wpAny_bind ((PySem.strKind P w).pyHash (k := z) (strKind_is _ _ _ _) ?_))
    refine setT_add (s := { s' with toks := s'.toks + 1 }) hS' (by omega) fun h' hsb hS2 => ?_
    have hS3 : SetT w h' C (fun j => decide (j ∈ ns.take (i + 1))) (if decide (z ∈ ns.take i) = true then c else c + 1) := hS2.congr fun j => by
      rw [List.take_add_one, hz]
      simp [List.mem_append]
    have hc3 : (if decide (z ∈ ns.take i) = true then c else c + 1) ≤ i + 1 := by split <;> omega
    refine wpAny_pure ⟨plainId_quiet F.plain_set_update_loop _, ih (i + 1) _ (by omega) hlt (W.frame _ s' _ _ hst' (Nat.le_succ _) fun b hb o e => ?_) ⟨_, hc3, hS3⟩ fun s'' c2 hm2 hcc hS4 => ?_⟩
    · rw [hsb.2 b (fun h : b = C => hSf (by rw [← h]; exact hb))]
      exact e
    · refine hR s'' c2 (Moved.trans W.gtrans ((hm.mono hsub).then_heap (Nat.le_succ _) fun b o hb e => ?_) hm2) hcc hS4
      rw [hsb.2 b (fun h : b = C => hb (by rw [h]; exact List.mem_cons_self))]
      exact e
theorem call_setT {l : Addr} {items : Array Value} (ns : List Str) {Q : Value → Shared → Prop} (hh : A.handled = none) (hl : s.heap.IsList l items) (hit : StrsAre items.toList ns) (hb : ns.length + 1 < scanBound)
    (h : ∀ (h' : Heap) (tk c : Nat), SetT w h' s.heap.objs.size (fun j => decide (j ∈ ns)) c → c ≤ ns.length → (∀ b o, s.heap.get? b = some o → h'.get? b = some o) → Q (.ref s.heap.objs.size) { s with heap := h', toks := tk }) :
    wpAny (model P w) A (call (.type "set") [.ref l]) Q E s := by
  have hisz : items.size = ns.length := by
    have q := hit.len_eq
    rw [Array.length_toList] at q
    exact q
  obtain ⟨c, tl, hmro⟩ := PySem.F.called_set.mro
  have hmade := PySem.F.called_set.made
  have hsub := PySem.F.called_set.sub
  refine wpAny_call (codeAny_of_tree ?_)
  show wpAny _ _ (callAny (.type "set") _) _ _ _
  refine wpAny_pure ⟨Code.quiet_builtin _ (by decide +kernel), codeAny_builtin PySem.F.entry_type_call ?_⟩
  rw [Around.under_plain (weight_type_call_type "set" [.ref l] []) rfl]
  have h1 := PySem.F.called_set.notType
  have h2 := PySem.F.called_set.canCreate
  have hct := PySem.F.typeCall_set_1 (.ref l)
  repeat (any_goals (first | assumption | wp_step))
  refine codeAny_mono (code_set_led1 (.ref l) (E := E) (Q₁ := fun obj s₁ => obj = .ref s.heap.objs.size ∧ s₁ = { s with heap := s.heap.push (frS w) }) ⟨rfl, rfl⟩) fun r s₁ hr => ?_
  match r, hr with
  | .error e, hr => exact hr
  | .ok .next, hr => exact hr.elim
  | .ok .brk, hr => exact hr.elim
  | .ok .cont, hr => exact hr.elim
  | .ok (.ret obj), hr =>
    obtain ⟨rfl, rfl⟩ := hr
    have hS : (s.heap.push (frS w)).get? s.heap.objs.size = some (frS w) := Heap.get?_push_size _ rfl
    have hT : Shared.TypeIs { s with heap := s.heap.push (frS w) } (.ref s.heap.objs.size) "set" := ⟨_, hS, rfl⟩
    have hli := PySem.F.called_set.init.lookup
    have hbi := PySem.F.called_set.init.bind (.ref s.heap.objs.size)
    repeat (any_goals (first | assumption | wp_step))
    refine codeAny_mono (codeAny_call_builtin (R := wants (fun r s₂ => r = .none ∧ ∃ h' tk c, s₂ = { s with heap := h', toks := tk } ∧ SetT w h' s.heap.objs.size (fun j => decide (j ∈ ns)) c ∧ c ≤ ns.length ∧ (∀ b o, s.heap.get? b = some o → h'.get? b = some o)) E) PySem.F.called_set.init.plain PySem.F.entry_set_init (check_set_init_1 hT ?_)) fun r₂ s₂ hr₂ => ?_
    · obtain ⟨ol, hol, hcl, nl, hdl⟩ := hl
      obtain ⟨ocls, odict, odata, oslots⟩ := ol
      simp only at hcl hdl
      subst hcl; subst hdl
      have hol' : (s.heap.push (frS w)).get? l = some { cls := .type "list", dict := odict, data := .seq items nl, slots := oslots } := Heap.get?_push_of_some _ hol
      have hsls := PySem.F.sub_list_set
      have hslf := PySem.F.sub_list_frozenset
      have hne : (Value.type "list" == Value.type "dict") = false := by decide
      have hl1 : (s.heap.push (frS w)).IsList l items := ⟨_, hol', rfl, nl, rfl⟩
      unfold Builtin.«set.__init__» noKeywords Builtin.Frozenset.updateFrom
      generalize hPI : pyIter = PI
      wp_walk
      subst hPI
      refine wpAny_pyIter_list hl1 (wpAny_bind (wpAny_runValue ?_))
      have hlS : l < s.heap.objs.size := Heap.lt_size hol
      have hh3 : A.in1.in1.in1.handled = none := by simp [hh]
      have hneI : l ≠ (s.heap.push (frS w)).objs.size := by
        rw [Heap.size_push]
        exact Nat.ne_of_lt (Nat.lt_succ_of_lt hlS)
      have hSf : s.heap.objs.size ∉ [(s.heap.push (frS w)).objs.size, l] := by
        rw [Heap.size_push]
        intro z
        rcases List.mem_cons.mp z with z | z
        · exact Nat.ne_of_lt (Nat.lt_succ_self _) z
        · exact Nat.ne_of_gt hlS (List.mem_singleton.mp z)
      have hval : ∀ (i : Nat) (v : Value), items[i]? = some v → ∃ k t, ns[i]? = some k ∧ v = .str k t := fun i v hv => by
        obtain ⟨y, t, e1, e2⟩ := StrsAre.item hit i v (by rw [Array.getElem?_toList]; exact hv)
        exact ⟨y, t, e2, e1⟩
      have hget : ((s.heap.push (frS w)).push { cls := .type "list_iterator", data := .fields #[.ref l, .int 0 0] }).get? s.heap.objs.size = some (frS w) := Heap.get?_push_of_some _ hS
      refine set_loopT ((Walks.list hh3 _ l hneI items).toS) s.heap.objs.size hSf ns hisz hb hval (items.size - 0) 0 _ (by omega) (Nat.zero_le _) ⟨⟨_, Heap.get?_push_size _ rfl, rfl, rfl⟩, (hl1.push _)⟩ ⟨0, Nat.le_refl 0, setT_new hget⟩ fun s' c' hm hc' hS' => ?_
      obtain ⟨h', g2, d', tk', os'⟩ := s'
      have eg : g2 = s.gens := hm.gens
      have ed : d' = s.drawn := hm.drawn
      have eo : os' = s.os := hm.os
      subst eg; subst ed; subst eo
      show wpAny _ _ _ _ _ _
      refine wpAny_pure ?_
      show wpAny _ _ (ret Value.none) _ _ _
      rw [hisz] at hc'
      refine wpAny_pure ⟨rfl, h', tk', c', rfl, hS', hc', fun b o e => ?_⟩
      have hb0 : b < s.heap.objs.size := Heap.lt_size e
      refine hm.heap b o (fun z => ?_) (Heap.get?_push_of_some _ (Heap.get?_push_of_some _ e))
      rcases List.mem_cons.mp z with z | z
      · exact Nat.ne_of_lt hb0 z
      · have z2 := List.mem_singleton.mp z
        rw [Heap.size_push] at z2
        exact Nat.ne_of_lt (Nat.lt_succ_of_lt hb0) z2
    · match r₂, hr₂ with
      | .error e, hr₂ => exact hr₂
      | .ok .next, hr₂ => exact hr₂.elim
      | .ok .brk, hr₂ => exact hr₂.elim
      | .ok .cont, hr₂ => exact hr₂.elim
      | .ok (.ret r), hr₂ =>
        obtain ⟨rfl, h', tk, c', rfl, hS', hc', hk'⟩ := hr₂
        repeat (any_goals (first | assumption | wp_step))
        exact h _ _ _ hS' hc' hk'
/-! ### sorted -/
theorem strs_of : ∀ (l : List Value), (∀ v ∈ l, ∃ k tk, v = Value.str k tk) → StrsAre l (l.map fun v => keyT (0, v))
  | [], _ => .nil
  | v :: l, h => by
    obtain ⟨k, tk, rfl⟩ := h v List.mem_cons_self
    exact .cons k tk (strs_of l fun u hu => h u (List.mem_cons_of_mem _ hu))
theorem sorted_setT {Q : Value → Shared → Prop} (R : SetT w s.heap a S n) (hh : A.handled = none) (h64 : n < 64)
    (hQ : ∀ s' p (out : Array Value) (c : Nat) (ns : List Str), (∀ b o, s.heap.get? b = some o → s'.heap.get? b = some o) → s'.gens = s.gens → s'.os = s.os → s.heap.objs.size ≤ p → s'.heap.get? p = some (seqObj "list" out c) →
      StrsAre out.toList ns → sortedS ns = true → ns.Nodup → (∀ k, k ∈ ns ↔ S k = true) → ns.length = n → Q (.ref p) s') :
    wpAny (model P w) A (call (.builtin "sorted") [.ref a]) Q E s := by
  obtain ⟨o, es, ep, t, ho, hex, hd, g, nd, hm, hb, hf, hn, hr, hl⟩ := R
  refine Calls.call_function_entry kind_sorted plain_sorted entry_sorted (args_sorted1 _) ?_
  unfold Builtin.«sorted»
  refine wpAny_bind (m := checkCount "sorted" 1 1 _) (wpAny_pure (wpAny_bind (collect_set (A := A.in1) hh ⟨o, ho, hex.1, hd⟩ hf hb hr hl fun s1 vs k1 hz g1 o1 pm => ?_)))
  have hvl : vs.length = n := by rw [pm.length_eq, List.length_map, Array.length_toList]; exact hn
  have hI : StrsAre vs (vs.map fun v => keyT (0, v)) := strs_of vs fun v hv => by
    obtain ⟨e, he, rfl⟩ := List.mem_map.mp (pm.mem_iff.mp hv)
    obtain ⟨k, tk, h1, _⟩ := g e he
    exact ⟨k, tk, h1⟩
  have pk : (vs.map fun v => keyT (0, v)).Perm (es.toList.map keyT) := by
    have q := pm.map fun v => keyT (0, v)
    rw [List.map_map] at q
    exact q
  have hoL : (s1.heap.push (seqObj "list" vs.toArray 0)).get? s1.heap.objs.size = some (seqObj "list" vs.toArray 0) := Heap.get?_push_size _ rfl
  refine wpAny_bind (wpAny_newList ?_ (by rw [hvl, sizeLine_eq]; omega))
  refine wpAny_bind (wpAny_holding (wpAny_call_entry slot_list_sort ⟨_, hoL, rfl⟩ entry_list_sort (list_sort_treeK strKind_oneLt (s := { s1 with heap := s1.heap.push (seqObj "list" vs.toArray 0) }) hoL hI.keysOf (fun v₁ v₂ rest e => keyKind_strs (by rw [← e]; exact hI)) (by rw [hvl]; exact h64) fun st' hp hs => ⟨_, rfl, ?_⟩) (args_list_sort _)))
  obtain ⟨ys, q1, q2, q3⟩ := sorted_out_str hI hp hs
  obtain ⟨e', he'⟩ := sortedHeap_at (vs := vs) (out := (arrOf st').map (·.2)) hoL
  have pn : ys.Perm (es.toList.map keyT) := q2.trans pk
  refine wpAny_pure ⟨_, rfl, hQ _ s1.heap.objs.size ((arrOf st').map (·.2)) e' ys (fun b u e => ?_) g1 o1 hz he' q1 q3 (pn.nodup_iff.mpr nd) (fun k => by rw [pn.mem_iff, ← hm k]) ?_⟩
  · have q := k1 b u e
    have hlt := Heap.lt_size q
    show (sortedHeap (s1.heap.push (seqObj "list" vs.toArray 0)) s1.heap.objs.size vs ((arrOf st').map (·.2))).get? b = some u
    rw [sortedHeap_old (Nat.ne_of_lt hlt) (by rw [size_push']; exact Nat.lt_succ_of_lt hlt)]
    exact Heap.get?_push_of_some _ q
  · rw [pn.length_eq, List.length_map, Array.length_toList]
    exact hn
end
/-! ### the rules -/
/-- the set of the texts ns -/
def SetTx (w : World) (a : Addr) (ns : List Str) : HO := .ext fun h => ∃ c, c ≤ ns.length ∧ SetT w h a (fun j => decide (j ∈ ns)) c
def rSetTx (K : PySem.W.Frag) (w : World) : List V → Hp → VK → Prop := fun xs H Q => ∃ (l : Addr) (ns : List Str), xs = [V.ref l] ∧ SqL K H l (ns.map V.str) ∧ ns.length < 64 ∧ ∀ a, H a = none → Q (.ref a) (upd H a (SetTx w a ns))
def rSortTx (w : World) : List V → Hp → VK → Prop := fun xs H Q => ∃ (a : Addr) (ns : List Str), xs = [V.ref a] ∧ H a = some (SetTx w a ns) ∧ ns.length < 64 ∧ ∀ ys p, sortedS ys = true → ys.Nodup → (∀ k, k ∈ ys ↔ k ∈ ns) → ys.length < 64 → H p = none → Q (.ref p) (upd H p (.lst (ys.map V.str)))
section
variable {X : Cx}
theorem cr_setTx {K : PySem.W.Frag} {w : World} (eK : X.K = K) (ew : X.w = w) (hc : X.calm = true) : CallR X (.type "set") (rSetTx K w) := by
  subst eK ew
  intro pins s σ H xs us Q I r h
  obtain ⟨l, ns, rfl, hl, hf, q⟩ := h
  rw [Vals.ref1 r]
  obtain ⟨its, rv, pl, hz⟩ := I.list hl
  refine call_setT (P := X.prog) (w := X.w) ns (I.ok.hd hc) pl.isList (by simpa using rv.strs) (by unfold scanBound; omega) fun h' tk c R hcl k => ?_
  refine ⟨.ref s.heap.objs.size, upd H s.heap.objs.size (SetTx X.w s.heap.objs.size ns), I.laid (t' := tk) k (Nat.le_refl _) ?_, rfl, q _ (I.hok.fresh (Nat.le_refl _))⟩
  refine ⟨⟨c, hcl, R⟩, ?_, fun h1 h2 p k => ?_⟩
  · obtain ⟨o, _, _, _, ho, _⟩ := R
    exact ⟨o, ho⟩
  · obtain ⟨c2, b1, b2⟩ := p
    exact ⟨c2, b1, b2.at k⟩
theorem cr_sortTx {w : World} (ew : X.w = w) (hc : X.calm = true) : CallR X (.builtin "sorted") (rSortTx w) := by
  subst ew
  intro pins s σ H xs us Q I r h
  obtain ⟨a, ns, rfl, ha, h64, q⟩ := h
  obtain ⟨c, hcl, R⟩ := (I.hok a _ ha).1
  rw [Vals.ref1 r]
  refine sorted_setT R (I.ok.hd hc) (by omega) fun s' p out e ys k g o hp hg hi hs hn hm hl => ?_
  have hlen : (ys.map V.str).length ≤ sizeLine := by rw [List.length_map, sizeLine_eq]; omega
  have hn0 : H p = none := I.hok.fresh hp
  have J : Inv X pins σ (upd H p (.lst (ys.map V.str))) { s with heap := s'.heap, gens := s'.gens, drawn := s'.drawn, toks := s'.toks } :=
    I.call (ch := []) (Un.laid k hp hn0) (I.hok.laid k hp ⟨hlen, out.toList, e, vals_of_strs hi, hg⟩) (by rw [g]; exact I.bare) (fun _ z => nomatch z)
  have es : s' = { s with heap := s'.heap, gens := s'.gens, drawn := s'.drawn, toks := s'.toks } := by
    cases s'
    cases s
    cases o
    rfl
  rw [es]
  exact ⟨.ref p, _, J, rfl, q ys p hs hn (fun k => (hm k).trans decide_eq_true_iff) (by omega) hn0⟩
end
/-- one of two readings -/
theorem pe_or {X : Cx} {e : Expr} {t1 t2 : TE} (h1 : PE X e t1) (h2 : PE X e t2) : PE X e (fun σ H Q => t1 σ H Q ∨ t2 σ H Q) :=
  ⟨fun pins s σ H Q I h => h.elim (fun q => h1.run pins s σ H Q I q) fun q => h2.run pins s σ H Q I q⟩
end Sk
/-! x, *y = a list; try whose body raises nothing -/
namespace Sk
open PySem PySem.Spec PyProof.Rows L2
/-- the first item, a new list of the others -/
def gStarL (K : PySem.W.Frag) (t : TGs) : TG := fun v σ H Q => ∃ (l : Addr) (z : V) (zs : List V), v = .ref l ∧ SqL K H l (z :: zs) ∧ zs.length ≤ 16000 ∧ ∀ D, H D = none → t [z, .ref D] σ (upd H D (.lst zs)) Q
section
variable {X : Cx} {pos ps : Pos} {t1 t2 : Expr} {k : Nat} {t : TGs}
theorem unpack_first {prog : Program} {w : World} {A : Around} {E : Value → Shared → Prop} {s : Shared} {l : Addr} {items : Array Value} {Q : List Value → Shared → Prop} (hh : A.handled = none) (hl : s.heap.IsList l items) (h1 : 1 ≤ items.size) (hz : items.size ≤ 16384)
    (hQ : ∀ (h₂ : Heap) (tk : Nat), (∀ b o, b ≠ s.heap.objs.size → s.heap.get? b = some o → h₂.get? b = some o) → wpAny (model prog w) A (newList (items.toList.drop 1)) (fun d s₂ => Q (items.toList.take 1 ++ [d]) s₂) E { s with heap := h₂, toks := tk }) :
    wpAny (model prog w) A (unpackItems (.ref l) 2 (some 1)) Q E s := by
  have hll : l < s.heap.objs.size := by obtain ⟨o, ho, _⟩ := hl; exact Heap.lt_size ho
  have hlt : l ≠ s.heap.objs.size := Nat.ne_of_lt hll
  unfold unpackItems
  refine wpAny_bind ?_
  unfold notIterableAtAll
  refine wpAny_bind (wpAny_specialOf hl.typeIs slot_list_iter.lookup (wpAny_pure ?_))
  simp only [Bool.false_eq_true, if_false]
  refine wpAny_bind (wpAny_holding (wpAny_pyIter_list hl (wpAny_bind (wpAny_holding (PySem.W.kun_draw hlt 1 0 _ _ ⟨_, Heap.get?_push_size _ rfl, rfl, rfl⟩ (hl.push _) (by omega) fun h₁ hit₁ hs₁ => ?_)))))
  have hl₁ : h₁.IsList l items := (hl.push _).extBut hs₁.extBut hlt
  rw [Nat.zero_add] at hit₁
  obtain ⟨oi, hoi, _⟩ := id hit₁
  obtain ⟨ol, hol, _⟩ := id hl₁
  rw [List.drop_zero]
  have hfl : (items.toList.take 1).length = 1 := by rw [List.length_take, Array.length_toList]; omega
  rw [if_neg (show ¬ ((items.toList.take 1).length < 1) by rw [hfl]; omega)]
  refine wpAny_bind (wpAny_holding (PySem.W.kun_collect (s := { s with heap := h₁ }) (T := "list_iterator") (.inr (.inr (.inl rfl))) (Walks.list (A := A.in1) hh s.heap.objs.size l hlt items) (fun j u st => st.1.typeIs) (k := 1) (by omega) ⟨hit₁, hl₁⟩ (Heap.lt_size hoi) (Heap.lt_size hol) (fun h₂ tk hk => ?_) (by rw [sizeLine_eq]; omega)))
  have hrl : (items.toList.drop 1).length = items.size - 1 := by rw [List.length_drop, Array.length_toList]
  have hmid : (items.toList.drop 1).length - (2 - 1 - 1) = (items.toList.drop 1).length := by omega
  show wpAny _ _ (if (items.toList.drop 1).length < 2 - 1 - 1 then _ else _) _ _ _
  rw [if_neg (by omega)]
  show wpAny _ _ (newList ((items.toList.drop 1).take ((items.toList.drop 1).length - (2 - 1 - 1))) >>= fun d => pure (items.toList.take 1 ++ [d] ++ (items.toList.drop 1).drop ((items.toList.drop 1).length - (2 - 1 - 1)))) _ _ _
  rw [hmid, List.take_length, List.drop_length]
  refine wpAny_bind (wpAny_mono (hQ h₂ tk fun b o hb e => hk b o hb (hs₁.extBut b o hb (Heap.get?_push_of_some _ e))) (fun d s₂ q => ?_) fun _ _ z => z)
  rw [List.append_nil]
  exact wpAny_pure q
theorem pg_starL (hc : X.calm = true) (h : PGs X [t1, t2] t) (hn : (assignEach [t1, .Starred t2 ps] X.env).length = 2 := by rfl) (hst : (assignEach [t1, .Starred t2 ps] X.env).findIdx? (·.1) = some 1 := by rfl)
    (he : (assignEach [t1, .Starred t2 ps] X.env).map (·.2) = (assignEach [t1, t2] X.env).map (·.2) := by rfl) : PG X (.Tuple [t1, .Starred t2 ps] k pos) (gStarL X.K t) := by
  refine ⟨fun pins s σ H v u Q I r hw => ?_⟩
  obtain ⟨l, z, zs, rfl, hq, hl, hw⟩ := hw
  cases r
  obtain ⟨its, rv, pl, hz⟩ := I.list hq
  cases rv with
  | cons r1 r2 =>
    rename_i u1 us
    have hul := r2.length
    rw [PyProof.Rows.assign_Tuple]
    refine wpAny_bind (wpAny_standAt ?_)
    unfold unpack
    rw [hn, hst]
    refine wpAny_bind (wpAny_holding (unpack_first (I.ok.hd hc) pl.isList (by simp) (by simp; omega) fun h₂ tk hk => ?_))
    have k2 : ∀ b o, s.heap.get? b = some o → h₂.get? b = some o := fun b o e => hk b o (Nat.ne_of_lt (Heap.lt_size e)) e
    have I1 : Inv X pins σ H { s with heap := h₂, toks := tk } := I.kept k2
    refine wpAny_newList ?_ (by simp; rw [sizeLine_eq]; omega)
    have e1 : ((u1 :: us).toArray.toList.drop 1).toArray = us.toArray := by simp
    have e2 : (u1 :: us).toArray.toList.take 1 ++ [Value.ref h₂.objs.size] = [u1, .ref h₂.objs.size] := by simp
    show wpAny _ _ (assignInOrder _ ((u1 :: us).toArray.toList.take 1 ++ [Value.ref h₂.objs.size])) _ _ _
    rw [he, e2]
    have ho : (h₂.push { cls := .type "list", data := .seq ((u1 :: us).toArray.toList.drop 1).toArray }).get? h₂.objs.size = some (seqObj "list" us.toArray 0) := by
      rw [e1]
      exact Heap.get?_push_size _ rfl
    have J : Inv X pins σ (upd H h₂.objs.size (.lst zs)) { s with heap := h₂.push { cls := .type "list", data := .seq ((u1 :: us).toArray.toList.drop 1).toArray }, toks := tk } :=
      I1.laid (t' := tk) (fun b u e => Heap.get?_push_of_some _ e) (Nat.le_refl _) (show ObjOk X.prog X.w _ _ _ (.lst zs) from ⟨by rw [sizeLine_eq]; omega, us, 0, r2, ho⟩)
    exact h.run pins _ σ _ [z, .ref h₂.objs.size] _ Q J (.cons r1 (.cons rfl .nil)) (hw _ (I1.hok.fresh (Nat.le_refl _)))
/-- try: nothing is raised -/
theorem ps_try_nox {body : List Stmt} {h0 : ExceptHandler} {tb : TS} (hb : PSs X body tb) (hx : ∀ e s, X.xe e s → False := by intro _ _ z; exact z) : PS X (.Try body [h0] [] [] pos) tb := by
  refine ⟨fun pins s σ H D I h => wpAny_Try_except (wpAny_mono (hb.run pins s σ H D I h) (fun f s1 hsp => ?_) fun e s1 he => (hx e s1 he).elim)⟩
  cases f with
  | next => exact wpAny_execs_nil hsp
  | brk => exact hsp
  | cont => exact hsp
  | ret u => exact hsp
/-- sep.join(texts), K told -/
def rJoin (K : PySem.W.Frag) : V → List V → Hp → VK → Prop := fun x xs H Q => ∃ a p, ∃ ys : List Str, x = .str a ∧ xs = [.ref p] ∧ (SqL K H p (ys.map V.str) ∨ SqT K H p (ys.map V.str)) ∧ (ys.map (·.length)).sum + ys.length * a.length ≤ 16777216 ∧ Q (.str (Txt.join a ys)) H
theorem peJoin {K : PySem.W.Frag} {o e : Expr} {to te : TE} {apos : Pos} (eK : X.K = K) (ho : PE X o to) (he : PE X e te) (hs : starEach [e] X.env = [(false, eval e X.env)] := by rfl) (hbase : attributeBase o "join" X.env (eval o X.env) = eval o X.env := by rfl) (hline : (apos.endLine == pos.line) = true := by rfl) :
    PE X (.Call (.Attribute o "join" apos) [e] [] pos) (tM1 (rJoin K) to te) := by
  subst eK
  exact pe_join ho he hs hbase hline
end
end Sk
/-! a pool of draws: a list of three numbers -/
namespace Sk
open PySem PySem.Spec PyProof.Rows L2
/-- the pool at p: digits left, what is mixed, how many were mixed (at most n) -/
def PlAt (p : Addr) (n : Nat) (H : Hp) : Prop := ∃ d m c : Int, H p = some (.lst [.int d, .int m, .int c]) ∧ 0 ≤ d ∧ 0 ≤ m ∧ m < 2 ^ 62 ∧ 0 ≤ c ∧ c ≤ n
/-- the pool, the cells L that may change, the frozen part G -/
structure Hq (T : List (Addr × Str)) (p : Addr) (n : Nat) (L : List (Addr × HO)) (G H : Hp) : Prop where
  src : PlAt p n H
  fz : Fz G H
  gp : G p = none
  cel : ∀ x ∈ L, H x.1 = some x.2 ∧ G x.1 = none ∧ x.1 ≠ p ∧ NoTab x.2
  nod : (L.map (·.1)).Nodup
  tab : LamX.Tabs T H
section
variable {T : List (Addr × Str)} {p : Addr} {n : Nat} {L : List (Addr × HO)} {G H H' : Hp}
theorem Hq.mono {m : Nat} (s : Hq T p n L G H) (h : n ≤ m) : Hq T p m L G H := by
  obtain ⟨⟨d, mm, c, h1, h2, h3, h4, h5, h6⟩, c1, c2, c3, c4, c5⟩ := s
  exact ⟨⟨d, mm, c, h1, h2, h3, h4, h5, by omega⟩, c1, c2, c3, c4, c5⟩
/-- all that stood stands -/
theorem Hq.gr (s : Hq T p n L G H) (g : Gr T H H') : Hq T p n L G H' := by
  obtain ⟨⟨d, mm, c, h1, h2⟩, fz, gp, cel, nod, tab⟩ := s
  exact ⟨⟨d, mm, c, g.at h1 .lst, h2⟩, fz.gr g, gp, fun x hx => ⟨g.at (cel x hx).1 (cel x hx).2.2.2, (cel x hx).2⟩, nod, g.tab tab⟩
/-- the heap grew, and at a new place stands o -/
theorem Hq.grow {a : Addr} {o : HO} (s : Hq T p n L G H) (g : Gr T H H') (h : Nw H a) (e : H' a = some o) (nt : NoTab o) : Hq T p n ((a, o) :: L) G H' := by
  have s2 := s.gr g
  have no : ∀ u, H a = some u → ¬ NoTab u := fun u hu n2 => by
    obtain ⟨ps, z⟩ := h u hu
    exact n2.1 ps z
  obtain ⟨⟨d, mm, c, h1, _⟩, fz, gp, cel, nod, tab⟩ := s
  obtain ⟨b1, fz', _, cel', _, tab'⟩ := s2
  refine ⟨b1, fz', gp, fun y hy => ?_, ?_, tab'⟩
  · rcases List.mem_cons.mp hy with rfl | hy
    · refine ⟨e, ?_, fun z => ?_, nt⟩
      · cases q0 : G a with
        | none => rfl
        | some u => exact absurd (fz.nt a u q0) (no u (fz.sub a u q0))
      · exact no _ (by rw [show a = p from z]; exact h1) .lst
    · exact cel' y hy
  · rw [List.map_cons, List.nodup_cons]
    refine ⟨fun hm => ?_, nod⟩
    obtain ⟨y, hy, e2⟩ := List.mem_map.mp hm
    obtain ⟨c1, _, _, c4⟩ := cel y hy
    rw [e2] at c1
    exact no _ c1 c4
/-- a new cell -/
theorem Hq.new {a : Addr} {o : HO} (s : Hq T p n L G H) (h : H a = none) (nt : NoTab o) : Hq T p n ((a, o) :: L) G (upd H a o) := s.grow (Gr.new h) (.of h) upd_same nt
/-- what stands at the i-th cell -/
theorem Hq.get {i : Nat} {a : Addr} {o : HO} (s : Hq T p n L G H) (h : L[i]? = some (a, o)) : H a = some o := (s.cel (a, o) (List.mem_of_getElem? h)).1
/-- the i-th cell is written -/
theorem Hq.put {i : Nat} {a : Addr} {o o' : HO} (s : Hq T p n L G H) (h : L[i]? = some (a, o)) (nt : NoTab o') : Hq T p n (L.set i (a, o')) G (upd H a o') := by
  have hm := List.mem_of_getElem? h
  obtain ⟨⟨d, mm, c, h1, h2⟩, fz, gp, cel, nod, tab⟩ := s
  obtain ⟨c1, c2, c3, c4⟩ := cel _ hm
  have hi : i < L.length := (List.getElem?_eq_some_iff.mp h).1
  have ei : L[i] = (a, o) := (List.getElem?_eq_some_iff.mp h).2
  have sub : ∀ y ∈ L.set i (a, o'), y = (a, o') ∨ (y ∈ L ∧ y.1 ≠ a) := fun y hy => by
    obtain ⟨j, hj, ej⟩ := List.mem_iff_getElem.mp hy
    by_cases hij : i = j
    · subst hij
      rw [List.getElem_set_self] at ej
      exact .inl ej.symm
    · rw [List.getElem_set_ne hij] at ej
      refine .inr ⟨by rw [← ej]; exact List.getElem_mem _, fun z => hij ?_⟩
      rw [List.length_set] at hj
      have q1 : (L.map (·.1))[i]'(by rw [List.length_map]; exact hi) = (L.map (·.1))[j]'(by rw [List.length_map]; exact hj) := by
        rw [List.getElem_map, List.getElem_map, ei, ej, z]
      exact (List.getElem_inj nod).mp q1
  refine ⟨⟨d, mm, c, by rw [upd_ne (Ne.symm c3)]; exact h1, h2⟩, fz.put c2, gp, fun y hy => ?_, ?_, Tabs.upd tab c1 c4⟩
  · rcases sub y hy with rfl | ⟨hy, z⟩
    · exact ⟨upd_same, c2, c3, nt⟩
    · rw [upd_ne z]
      exact cel y hy
  · rw [List.map_set]
    have : (L.map (·.1)).set i a = L.map (·.1) := by
      have e2 : (L.map (·.1))[i]'(by rw [List.length_map]; exact hi) = a := by rw [List.getElem_map, ei]
      conv => rhs; rw [← List.set_getElem_self (as := L.map (·.1)) (i := i) (by rw [List.length_map]; exact hi)]
      rw [e2]
    show ((L.map (·.1)).set i a).Nodup
    rw [this]
    exact nod
/-- fewer cells -/
theorem Hq.sub {L' : List (Addr × HO)} (s : Hq T p n L G H) (h : L'.Sublist L) : Hq T p n L' G H := by
  obtain ⟨a, fz, gp, cel, nod, tab⟩ := s
  exact ⟨a, fz, gp, fun x hx => cel x (h.subset hx), nod.sublist (h.map _), tab⟩
/-- the first cell is frozen -/
theorem Hq.freeze {a : Addr} {o : HO} (s : Hq T p n ((a, o) :: L) G H) : Hq T p n L (upd G a o) H := by
  obtain ⟨sr, fz, gp, cel, nod, tab⟩ := s
  obtain ⟨c1, c2, c3, c4⟩ := cel _ (List.mem_cons_self ..)
  rw [List.map_cons, List.nodup_cons] at nod
  refine ⟨sr, fz.add c1 c4, ?_, fun x hx => ?_, nod.2, tab⟩
  · rw [upd_ne (Ne.symm c3)]
    exact gp
  · obtain ⟨d1, d2, d3, d4⟩ := cel x (List.mem_cons_of_mem _ hx)
    refine ⟨d1, ?_, d3, d4⟩
    rw [upd_ne (fun z => nod.1 (List.mem_map.mpr ⟨x, hx, z⟩))]
    exact d2
theorem Hq.drop1 {c : Addr × HO} (s : Hq T p n (c :: L) G H) : Hq T p n L G H := s.sub (.cons _ (.refl _))
theorem Hq.drop2 {c d : Addr × HO} (s : Hq T p n (c :: d :: L) G H) : Hq T p n (c :: L) G H := s.sub (.cons₂ _ (.cons _ (.refl _)))
theorem Hq.fzat {a : Addr} {o : HO} (s : Hq T p n L G H) (h : G a = some o) : H a = some o := s.fz.sub _ _ h
theorem Hq.gfree {a : Addr} (s : Hq T p n L G H) (h : H a = none) : G a = none := s.fz.free h
theorem Hq.cfree {c : Addr × HO} (s : Hq T p n (c :: L) G H) : G c.1 = none := (s.cel c (List.mem_cons_self ..)).2.1
theorem Hq.fzTup (s : Hq T p n L G H) (hL : ∀ x ∈ L, ∀ zs, x.2 ≠ .tup zs) : Hq T p n L (fzT G H) H := by
  obtain ⟨⟨d, mm, c, h1, h2⟩, fz, gp, cel, nod, tab⟩ := s
  refine ⟨⟨d, mm, c, h1, h2⟩, ⟨fun b o e => ?_, fun b o e => ?_⟩, fzT_none gp (fun zs z => by rw [h1] at z; cases z), fun y hy => ?_, nod, tab⟩
  · rcases fzT_cases e with z | ⟨z, _⟩
    · exact fz.sub b o z
    · exact z
  · rcases fzT_cases e with z | ⟨_, zs, z⟩
    · exact fz.nt b o z
    · rw [z]
      exact .tup
  · obtain ⟨c1, c2, c3⟩ := cel y hy
    exact ⟨c1, fzT_none c2 (fun zs z => hL y hy zs (Option.some.inj (c1.symm.trans z))), c3⟩
theorem Hq.less {G0 : Hp} (s : Hq T p n L G H) (h : Same G0 G) : Hq T p n L G0 H := by
  obtain ⟨sr, fz, gp, cel, nod, tab⟩ := s
  exact ⟨sr, ⟨fun b o e => fz.sub b o (h b o e), fun b o e => fz.nt b o (h b o e)⟩, h.free gp, fun y hy => ⟨(cel y hy).1, h.free (cel y hy).2.1, (cel y hy).2.2⟩, nod, tab⟩
/-- the pool is written -/
theorem Hq.pool {m : Nat} {d x c : Int} (s : Hq T p n L G H) (h0 : 0 ≤ d) (h1 : 0 ≤ x) (h2 : x < 2 ^ 62) (h3 : 0 ≤ c) (h4 : c ≤ m) : Hq T p m L G (upd H p (.lst [.int d, .int x, .int c])) := by
  obtain ⟨⟨d0, x0, c0, e, _⟩, fz, gp, cel, nod, tab⟩ := s
  exact ⟨⟨d, x, c, upd_same, h0, h1, h2, h3, h4⟩, fz.put gp, gp, fun y hy => by
    obtain ⟨c1, c2⟩ := cel y hy
    exact ⟨by rw [upd_ne c2.2.1]; exact c1, c2⟩, nod, Tabs.upd tab e .lst⟩
end
/-! ### ** of a wide base -/
def CPowW (i j : Int) : Prop := 0 ≤ j ∧ (Builtin.Int.intBits i : Int) * j ≤ 2 ^ 27
theorem op_powW {X : Cx} : OpR X (binaryOp .Pow) (rI CPowW fun i j => .int (i ^ j.toNat)) := opI fun _ _ _ _ _ _ _ hc q => PyProof.Rows.pow_int hc.1 hc.2 q
theorem bits_le {i : Int} {b : Nat} (h : i.natAbs < 2 ^ b) (h0 : 0 < b) : Builtin.Int.intBits i ≤ b := by
  unfold Builtin.Int.intBits
  split
  · omega
  · have := PySem.Flt.log2_lt_of h0 h
    omega
theorem wide_pow {i j : Int} {b : Nat} (h : i.natAbs < 2 ^ b) (h0 : 0 < b) (hj : 0 ≤ j) (hb : (b : Int) * j ≤ 2 ^ 27) : CPowW i j := by
  refine ⟨hj, Int.le_trans (Int.mul_le_mul_of_nonneg_right ?_ hj) hb⟩
  have := bits_le h h0
  omega
end Sk
/-! a bag of draws: a dict with a list and three numbers -/
namespace Sk
open PySem PySem.Spec PyProof.Rows L2
/-- the bag's dict -/
def bagK (g : Addr) (l t f : Int) : List (Key × V) := [(.inr "great", .ref g), (.inr "left", .int l), (.inr "turn", .int t), (.inr "fold", .int f)]
theorem upd_upd {H : Hp} {a : Addr} {o o' : HO} : upd (upd H a o) a o' = upd H a o' := by
  funext b
  by_cases h : b = a
  · rw [h, upd_same, upd_same]
  · rw [upd_ne h, upd_ne h, upd_ne h]
theorem bag_great {g : Addr} {l t f : Int} : valV (bagK g l t f) (.inr "great") = some (.ref g) := rfl
theorem bag_left {g : Addr} {l t f : Int} : valV (bagK g l t f) (.inr "left") = some (.int l) := rfl
theorem bag_turn {g : Addr} {l t f : Int} : valV (bagK g l t f) (.inr "turn") = some (.int t) := rfl
theorem bag_fold {g : Addr} {l t f : Int} : valV (bagK g l t f) (.inr "fold") = some (.int f) := rfl
theorem bag_putL {g : Addr} {l t f l' : Int} : putK (bagK g l t f) (.inr "left") (.int l') = bagK g l' t f := rfl
theorem bag_putT {g : Addr} {l t f t' : Int} : putK (bagK g l t f) (.inr "turn") (.int t') = bagK g l t' f := rfl
/-- the bag at p, its list of great numbers at g: what is left, how many were mixed (at most n), what is mixed -/
structure BgAt (p g : Addr) (n : Nat) (gs : List Int) (l t f : Int) (H : Hp) : Prop where
  at_ : H p = some (.dK (bagK g l t f))
  gr : H g = some (.lst (gs.map V.int))
  pos : ∀ x ∈ gs, 0 ≤ x
  few : gs.length ≤ 63
  l0 : 0 ≤ l
  t0 : 0 ≤ t
  tn : t ≤ n
  f0 : 0 ≤ f
  f1 : f < 2305843009213693951
/-- the bag, the cells L that may change, the frozen part G -/
structure Hb (T : List (Addr × Str)) (p : Addr) (n : Nat) (L : List (Addr × HO)) (G H : Hp) : Prop where
  src : ∃ (g : Addr) (gs : List Int) (l t f : Int), BgAt p g n gs l t f H ∧ g ≠ p ∧ G g = none ∧ ∀ x ∈ L, x.1 ≠ g
  fz : Fz G H
  gp : G p = none
  cel : ∀ x ∈ L, H x.1 = some x.2 ∧ G x.1 = none ∧ x.1 ≠ p ∧ NoTab x.2
  nod : (L.map (·.1)).Nodup
  tab : LamX.Tabs T H
section
variable {T : List (Addr × Str)} {p g : Addr} {n : Nat} {L : List (Addr × HO)} {G H H' : Hp} {gs : List Int} {l t f : Int}
theorem BgAt.great (s : BgAt p g n gs l t f H) : DGet H p (.str "great") (some (.ref g)) := .inl ⟨_, .inr "great", .inl s.at_, rfl, bag_great.symm⟩
theorem BgAt.left (s : BgAt p g n gs l t f H) : DGet H p (.str "left") (some (.int l)) := .inl ⟨_, .inr "left", .inl s.at_, rfl, bag_left.symm⟩
theorem BgAt.turn (s : BgAt p g n gs l t f H) : DGet H p (.str "turn") (some (.int t)) := .inl ⟨_, .inr "turn", .inl s.at_, rfl, bag_turn.symm⟩
theorem BgAt.fold (s : BgAt p g n gs l t f H) : DGet H p (.str "fold") (some (.int f)) := .inl ⟨_, .inr "fold", .inl s.at_, rfl, bag_fold.symm⟩
theorem bag_dputL {l' : Int} (h : H p = some (.dK (bagK g l t f))) : DPut H p (.str "left") (.int l') (upd H p (.dK (bagK g l' t f))) := .inl ⟨_, .inr "left", h, rfl, by rw [sizeLine_eq]; show 4 < 16777216; decide, by rw [bag_putL]⟩
theorem bag_dputT {t' : Int} (h : H p = some (.dK (bagK g l t f))) : DPut H p (.str "turn") (.int t') (upd H p (.dK (bagK g l t' f))) := .inl ⟨_, .inr "turn", h, rfl, by rw [sizeLine_eq]; show 4 < 16777216; decide, by rw [bag_putT]⟩
theorem BgAt.mono {m : Nat} (s : BgAt p g n gs l t f H) (h : n ≤ m) : BgAt p g m gs l t f H := ⟨s.at_, s.gr, s.pos, s.few, s.l0, s.t0, by have := s.tn; omega, s.f0, s.f1⟩
theorem BgAt.to (s : BgAt p g n gs l t f H) (h1 : H' p = some (.dK (bagK g l t f))) (h2 : H' g = some (.lst (gs.map V.int))) : BgAt p g n gs l t f H' := ⟨h1, h2, s.pos, s.few, s.l0, s.t0, s.tn, s.f0, s.f1⟩
theorem Hb.mono {m : Nat} (s : Hb T p n L G H) (h : n ≤ m) : Hb T p m L G H := by
  obtain ⟨⟨g, gs, l, t, f, b, r⟩, c1, c2, c3, c4, c5⟩ := s
  exact ⟨⟨g, gs, l, t, f, b.mono h, r⟩, c1, c2, c3, c4, c5⟩
/-- all that stood stands -/
theorem Hb.gr (s : Hb T p n L G H) (w : Gr T H H') : Hb T p n L G H' := by
  obtain ⟨⟨g, gs, l, t, f, b, r⟩, fz, gp, cel, nod, tab⟩ := s
  exact ⟨⟨g, gs, l, t, f, b.to (w.at b.at_ .dK) (w.at b.gr .lst), r⟩, fz.gr w, gp, fun x hx => ⟨w.at (cel x hx).1 (cel x hx).2.2.2, (cel x hx).2⟩, nod, w.tab tab⟩
/-- the heap grew, and at a new place stands o -/
theorem Hb.grow {a : Addr} {o : HO} (s : Hb T p n L G H) (w : Gr T H H') (h : Nw H a) (e : H' a = some o) (nt : NoTab o) : Hb T p n ((a, o) :: L) G H' := by
  have s2 := s.gr w
  have no : ∀ u, H a = some u → ¬ NoTab u := fun u hu n2 => by
    obtain ⟨ps, z⟩ := h u hu
    exact n2.1 ps z
  obtain ⟨⟨g0, _, _, _, _, b0, _, _, _⟩, fz, gp, cel, nod, tab⟩ := s
  obtain ⟨⟨g, gs, l, t, f, b, g1, g2, g3⟩, fz', _, cel', _, tab'⟩ := s2
  have eg : g0 = g := by
    have h1 := w.at b0.at_ .dK
    rw [b.at_] at h1
    have h2 := HO.dK.inj (Option.some.inj h1)
    unfold bagK at h2
    have h3 := (List.cons.inj h2).1
    have h4 := (Prod.mk.inj h3).2
    exact (V.ref.inj h4).symm
  refine ⟨⟨g, gs, l, t, f, b, g1, g2, fun y hy => ?_⟩, fz', gp, fun y hy => ?_, ?_, tab'⟩
  · rcases List.mem_cons.mp hy with rfl | hy2
    · intro z
      exact no _ (by rw [show a = g0 from z.trans eg.symm]; exact b0.gr) .lst
    · exact g3 y hy2
  · rcases List.mem_cons.mp hy with rfl | hy2
    · refine ⟨e, ?_, fun z => ?_, nt⟩
      · cases q0 : G a with
        | none => rfl
        | some u => exact absurd (fz.nt a u q0) (no u (fz.sub a u q0))
      · exact no _ (by rw [show a = p from z]; exact b0.at_) .dK
    · exact cel' y hy2
  · rw [List.map_cons, List.nodup_cons]
    refine ⟨fun hm => ?_, nod⟩
    obtain ⟨y, hy, e2⟩ := List.mem_map.mp hm
    obtain ⟨c1, _, _, c4⟩ := cel y hy
    rw [e2] at c1
    exact no _ c1 c4
/-- a new cell -/
theorem Hb.new {a : Addr} {o : HO} (s : Hb T p n L G H) (h : H a = none) (nt : NoTab o) : Hb T p n ((a, o) :: L) G (upd H a o) := s.grow (Gr.new h) (.of h) upd_same nt
/-- what stands at the i-th cell -/
theorem Hb.get {i : Nat} {a : Addr} {o : HO} (s : Hb T p n L G H) (h : L[i]? = some (a, o)) : H a = some o := (s.cel (a, o) (List.mem_of_getElem? h)).1
/-- the i-th cell is written -/
theorem Hb.put {i : Nat} {a : Addr} {o o' : HO} (s : Hb T p n L G H) (h : L[i]? = some (a, o)) (nt : NoTab o') : Hb T p n (L.set i (a, o')) G (upd H a o') := by
  have hm := List.mem_of_getElem? h
  obtain ⟨⟨g, gs, l, t, f, b, g1, g2, g3⟩, fz, gp, cel, nod, tab⟩ := s
  obtain ⟨c1, c2, c3, c4⟩ := cel _ hm
  have hi : i < L.length := (List.getElem?_eq_some_iff.mp h).1
  have ei : L[i] = (a, o) := (List.getElem?_eq_some_iff.mp h).2
  have sub : ∀ y ∈ L.set i (a, o'), y = (a, o') ∨ (y ∈ L ∧ y.1 ≠ a) := fun y hy => by
    obtain ⟨j, hj, ej⟩ := List.mem_iff_getElem.mp hy
    by_cases hij : i = j
    · subst hij
      rw [List.getElem_set_self] at ej
      exact .inl ej.symm
    · rw [List.getElem_set_ne hij] at ej
      refine .inr ⟨by rw [← ej]; exact List.getElem_mem _, fun z => hij ?_⟩
      rw [List.length_set] at hj
      have q1 : (L.map (·.1))[i]'(by rw [List.length_map]; exact hi) = (L.map (·.1))[j]'(by rw [List.length_map]; exact hj) := by
        rw [List.getElem_map, List.getElem_map, ei, ej, z]
      exact (List.getElem_inj nod).mp q1
  have ag : a ≠ g := g3 _ hm
  refine ⟨⟨g, gs, l, t, f, b.to (by rw [upd_ne (Ne.symm c3)]; exact b.at_) (by rw [upd_ne (Ne.symm ag)]; exact b.gr), g1, g2, fun y hy => ?_⟩, fz.put c2, gp, fun y hy => ?_, ?_, Tabs.upd tab c1 c4⟩
  · rcases sub y hy with rfl | ⟨hy2, z⟩
    · exact ag
    · exact g3 y hy2
  · rcases sub y hy with rfl | ⟨hy2, z⟩
    · exact ⟨upd_same, c2, c3, nt⟩
    · rw [upd_ne z]
      exact cel y hy2
  · rw [List.map_set]
    have : (L.map (·.1)).set i a = L.map (·.1) := by
      have e2 : (L.map (·.1))[i]'(by rw [List.length_map]; exact hi) = a := by rw [List.getElem_map, ei]
      conv => rhs; rw [← List.set_getElem_self (as := L.map (·.1)) (i := i) (by rw [List.length_map]; exact hi)]
      rw [e2]
    show ((L.map (·.1)).set i a).Nodup
    rw [this]
    exact nod
/-- fewer cells -/
theorem Hb.sub {L' : List (Addr × HO)} (s : Hb T p n L G H) (h : L'.Sublist L) : Hb T p n L' G H := by
  obtain ⟨⟨g, gs, l, t, f, b, g1, g2, g3⟩, fz, gp, cel, nod, tab⟩ := s
  exact ⟨⟨g, gs, l, t, f, b, g1, g2, fun x hx => g3 x (h.subset hx)⟩, fz, gp, fun x hx => cel x (h.subset hx), nod.sublist (h.map _), tab⟩
/-- the cells in another order -/
theorem Hb.perm {L' : List (Addr × HO)} (s : Hb T p n L G H) (pm : L'.Perm L) : Hb T p n L' G H := by
  obtain ⟨⟨g, gs, l, t, f, b, g1, g2, g3⟩, fz, gp, cel, nod, tab⟩ := s
  exact ⟨⟨g, gs, l, t, f, b, g1, g2, fun x hx => g3 x (pm.mem_iff.mp hx)⟩, fz, gp, fun x hx => cel x (pm.mem_iff.mp hx), (pm.map _).nodup_iff.mpr nod, tab⟩
/-- the first cell is frozen -/
theorem Hb.freeze {a : Addr} {o : HO} (s : Hb T p n ((a, o) :: L) G H) : Hb T p n L (upd G a o) H := by
  obtain ⟨⟨g, gs, l, t, f, b, g1, g2, g3⟩, fz, gp, cel, nod, tab⟩ := s
  obtain ⟨c1, c2, c3, c4⟩ := cel _ (List.mem_cons_self ..)
  have ag : a ≠ g := g3 _ (List.mem_cons_self ..)
  rw [List.map_cons, List.nodup_cons] at nod
  refine ⟨⟨g, gs, l, t, f, b, g1, by rw [upd_ne (Ne.symm ag)]; exact g2, fun x hx => g3 x (List.mem_cons_of_mem _ hx)⟩, fz.add c1 c4, ?_, fun x hx => ?_, nod.2, tab⟩
  · rw [upd_ne (Ne.symm c3)]
    exact gp
  · obtain ⟨d1, d2, d3, d4⟩ := cel x (List.mem_cons_of_mem _ hx)
    refine ⟨d1, ?_, d3, d4⟩
    rw [upd_ne (fun z => nod.1 (List.mem_map.mpr ⟨x, hx, z⟩))]
    exact d2
theorem Hb.drop1 {c : Addr × HO} (s : Hb T p n (c :: L) G H) : Hb T p n L G H := s.sub (.cons _ (.refl _))
theorem Hb.drop2 {c d : Addr × HO} (s : Hb T p n (c :: d :: L) G H) : Hb T p n (c :: L) G H := s.sub (.cons₂ _ (.cons _ (.refl _)))
theorem Hb.fzat {a : Addr} {o : HO} (s : Hb T p n L G H) (h : G a = some o) : H a = some o := s.fz.sub _ _ h
theorem Hb.gfree {a : Addr} (s : Hb T p n L G H) (h : H a = none) : G a = none := s.fz.free h
theorem Hb.cfree {c : Addr × HO} (s : Hb T p n (c :: L) G H) : G c.1 = none := (s.cel c (List.mem_cons_self ..)).2.1
theorem Hb.less {G0 : Hp} (s : Hb T p n L G H) (h : Same G0 G) : Hb T p n L G0 H := by
  obtain ⟨⟨g, gs, l, t, f, b, g1, g2, g3⟩, fz, gp, cel, nod, tab⟩ := s
  exact ⟨⟨g, gs, l, t, f, b, g1, h.free g2, g3⟩, ⟨fun b o e => fz.sub b o (h b o e), fun b o e => fz.nt b o (h b o e)⟩, h.free gp, fun y hy => ⟨(cel y hy).1, h.free (cel y hy).2.1, (cel y hy).2.2⟩, nod, tab⟩
/-- the bag is written: its dict, its list -/
theorem Hb.bag {m : Nat} {gs' : List Int} {l' t' f' : Int} (s : Hb T p n L G H) (b : BgAt p g n gs l t f H) (g1 : g ≠ p) (hG : G g = none) (hL : ∀ x ∈ L, x.1 ≠ g) (w : H' p = some (.dK (bagK g l' t' f'))) (w2 : H' g = some (.lst (gs'.map V.int))) (oth : ∀ a, a ≠ p → a ≠ g → H' a = H a) (tb : LamX.Tabs T H')
    (b' : (∀ x ∈ gs', 0 ≤ x) ∧ gs'.length ≤ 63 ∧ 0 ≤ l' ∧ 0 ≤ t' ∧ t' ≤ m ∧ 0 ≤ f' ∧ f' < 2305843009213693951) : Hb T p m L G H' := by
  obtain ⟨_, fz, gp, cel, nod, tab⟩ := s
  obtain ⟨b1, b2, b3, b4, b5, b6, b7⟩ := b'
  refine ⟨⟨g, gs', l', t', f', ⟨w, w2, b1, b2, b3, b4, b5, b6, b7⟩, g1, hG, hL⟩, ⟨fun a o e => ?_, fz.nt⟩, gp, fun x hx => ?_, nod, tb⟩
  · rw [oth a (fun z => by rw [z, gp] at e; cases e) (fun z => by rw [z, hG] at e; cases e)]
    exact fz.sub a o e
  · obtain ⟨c1, c2, c3, c4⟩ := cel x hx
    rw [oth x.1 c3 (hL x hx)]
    exact ⟨c1, c2, c3, c4⟩
end
end Sk
/-! a dict that a call makes, walked; repr of a dict -/
namespace Sk
open PySem PySem.Spec PyProof.Rows L2
/-- what the expression makes is locked, and stays so -/
def tLockV (t : TE) : TE := fun σ H Q => t σ H fun x H1 => ∃ d u, x = .ref d ∧ H1 d = some u ∧ Mut (some u) ∧ ∀ od, Q x (upd H1 d (.frz od u))
theorem pe_lockV {X : Cx} {e : Expr} {t : TE} (h : PE X e t) : PE X e (tLockV t) := by
  refine ⟨fun pins s σ H Q I hw => thn (h.run pins s σ H _ I hw) fun v s1 ⟨x, H1, I1, r, d, u, ex, hd, mu, q⟩ => ?_⟩
  obtain ⟨od, I2⟩ := I1.lock hd mu
  exact ⟨x, _, I2, r, q od⟩
/-- a comprehension over anything that is walked, item by item what F says -/
theorem lc_gen {Tb : List (Addr × Str)} {J : It} {n : Nat} {GG : Hp → Prop} {Y : Nat → Hp → V → Hp → Prop} (wk : Walk J n GG Y) {g : TG} {tt : TT} {te : TE} {vs : List Nat} {σ : L2.St} {H1 : Hp} {D : Addr} {Qd : Hp → Prop} (F : Nat → Option V) (hD : H1 D = none) (hz : n ≤ 100000)
    (hG : ∀ H, Gr Tb H1 H → GG H) (hY : ∀ i H x H', Y i H x H' → Gr Tb H H')
    (turn : ∀ (i : Nat) (x : V) (H H' : Hp), i < n → Gr Tb H1 H' → Y i H x H' → ∀ (Rk : V → Hp → Prop) (Rs : Hp → Prop), (∀ y H4, F i = some y → Gr Tb H' H4 → Rk y H4) → (∀ H4, F i = none → Gr Tb H' H4 → Rs H4) →
      g x (wipe σ vs) H' fun σ2 H2 => wipe σ2 vs = wipe σ vs ∧ tt σ2 H2 fun b H3 => if b = true then te σ2 H3 Rk else Rs H3)
    (done : ∀ H, Gr Tb H1 H → H D = some (.lst ((List.range n).filterMap F)) → Qd H) :
    ∃ W : Nat → Nat → Hp → Prop, (∃ m, W 0 m (upd H1 D (.lst []))) ∧ ∀ i m H, W i m H →
      (J.stop i H ∧ Qd H) ∨ (J.go i H ∧ ∃ Nx : Hp → Prop, (∀ H', Nx H' → ∃ m', m' < m ∧ W (i + 1) m' H') ∧ ∀ x H', J.yld i H x H' → g x (wipe σ vs) H' fun σ2 H2 => wipe σ2 vs = wipe σ vs ∧ tt σ2 H2 fun b H3 =>
        if b = true then te σ2 H3 fun y H4 => ∃ acc, H4 D = some (.lst acc) ∧ acc.length < sizeLine ∧ Nx (upd H4 D (.lst (acc ++ [y]))) else Nx H3) := by
  have h0 : Gr Tb H1 (upd H1 D (.lst [])) := Gr.new hD
  let P : Nat → Hp → Prop := fun i H => Gr Tb H1 H ∧ H D = some (.lst ((List.range i).filterMap F))
  refine ⟨fun i m H => m = n - i ∧ i ≤ n ∧ P i H, ⟨n, rfl, Nat.zero_le _, h0, upd_same⟩, ?_⟩
  rintro i m H ⟨rfl, hi, p⟩
  have q := hG H p.1
  by_cases hlt : i < n
  · refine .inr ⟨wk.goes i H hlt q, P (i + 1), fun H' p' => ⟨n - (i + 1), by omega, rfl, hlt, p'⟩, fun x H' y => ?_⟩
    have yy := wk.yields i H x H' hlt q y
    have g1 := p.1.trans (hY _ _ _ _ yy)
    have hd := (hY _ _ _ _ yy).at p.2 .lst
    have lle : ((List.range i).filterMap F).length ≤ 100000 := by
      have h2 : ((List.range i).filterMap F).length ≤ i := Nat.le_trans (List.length_filterMap_le _ _) (by rw [List.length_range]; exact Nat.le_refl _)
      omega
    refine turn i x H H' hlt g1 yy (fun y H5 => ∃ acc, H5 D = some (.lst acc) ∧ acc.length < sizeLine ∧ P (i + 1) (upd H5 D (.lst (acc ++ [y])))) (P (i + 1)) (fun q H4 e gr => ?_) (fun H4 e gr => ?_)
    · have hd4 := gr.at hd .lst
      refine ⟨_, hd4, ?_, Gr.put hD (g1.trans gr) hd4, ?_⟩
      · rw [sizeLine_eq]
        omega
      · rw [upd_same, List.range_succ, List.filterMap_append, List.filterMap_cons, e]
        rfl
    · refine ⟨g1.trans gr, ?_⟩
      rw [List.range_succ, List.filterMap_append, List.filterMap_cons, e, gr.at hd .lst]
      simp
  · have e : i = n := by omega
    subst e
    exact .inl ⟨wk.stops H q, done H p.1 p.2⟩
/-- repr of a dict of numbers -/
def rReprD (K : PySem.W.Frag) : List V → Hp → VK → Prop := fun xs H Q => ∃ (a : Addr) (n : Num), xs = [.ref a] ∧ H a = some (.dK (dS n)) ∧ (numD n).showable = true ∧ (numD n).shown.length ≤ sizeLine ∧ (numD n).depth ≤ 50 ∧ Q (.str (numD n).shown) H
theorem crReprD {X : Cx} {K : PySem.W.Frag} (e : X.K = K) (hg : X.A.guards = some []) (hu : X.A.units + 64 < cLine) : CallR X (.builtin "repr") (rReprD K) := by
  subst e
  intro pins s σ H xs us Q I r h
  obtain ⟨a, n, rfl, ha, hs, hz, hdp, q⟩ := h
  obtain ⟨u, rfl, ru⟩ := vals1 r
  obtain ⟨as, rr, hsm⟩ := DpM.reads I (.inr ⟨a, n, rfl, ha, rfl⟩) ru
  obtain rfl : u = Value.ref a := ru
  exact PySem.repr_of_reads' rr hs hsm hg (by omega) (fun b o e => e) (fun h' u tk k => ⟨.str _, H, I.kept k, ⟨u, rfl⟩, q⟩) hz
/-- a number or None -/
def optV : Option Int → V
  | none => .non
  | some i => .int i
def optT : Option Int → Str
  | none => "None"
  | some i => toString i
def rReprO : List V → Hp → VK → Prop := fun xs H Q => ∃ o : Option Int, xs = [optV o] ∧ (∀ i, o = some i → i.natAbs.log2 < 1920) ∧ Q (.str (optT o)) H
theorem crReprO {X : Cx} : CallR X (.builtin "repr") rReprO := by
  intro pins s σ H xs us Q I r h
  obtain ⟨o, rfl, hz, q⟩ := h
  cases o with
  | none =>
    obtain ⟨u, rfl, rfl⟩ := vals1 r
    exact PySem.P.repr_of_none ⟨.str _, H, I.tok _, ⟨_, rfl⟩, q⟩
  | some i =>
    obtain ⟨u, rfl, t, rfl⟩ := vals1 r
    exact PySem.P.repr_of_int (hz i rfl) ⟨.str _, H, I.tok _, ⟨_, rfl⟩, q⟩
end Sk
/-! dicts of numbers compared, alike or not -/
namespace Sk
open PySem PySem.Spec PyProof.Rows L2
/-- each number of the one stands in the other -/
def subNum (ks ls : Num) : Bool := ks.all fun q => decide (get? ls q.1 = some q.2)
def eqNum (ks ls : Num) : Bool := ks.length == ls.length && subNum ks ls
section
variable {X : Cx}
theorem hits_num {A : Around} {s : Shared} {ls : Num} {vb : List (Key × Value)} (rb : KV (dS ls) vb) : ∀ {ks : Num} {va : List (Key × Value)}, KV (dS ks) va → PySem.W.KeqHits A s vb va (subNum ks ls)
  | [], va, ra => by
    cases ra
    exact .nil
  | q :: ks, va, ra => by
    cases ra with
    | cons h t =>
      rename_i kv va
      obtain ⟨h1, h2⟩ := h
      obtain ⟨k, v⟩ := kv
      have h1' : (Sum.inr q.1 : Key) = k := h1
      subst h1'
      obtain ⟨t1, e1⟩ : ∃ t, v = Value.int q.2 t := h2
      subst e1
      have rr : RelO ((get? ls q.1).map V.int) (PySem.valueAt vb (Sum.inr q.1)) := by
        rw [← valV_dS]
        exact rb.val (Sum.inr q.1)
      show PySem.W.KeqHits A s vb ((Sum.inr q.1, Value.int q.2 t1) :: va) (decide (get? ls q.1 = some q.2) && subNum ks ls)
      cases e : get? ls q.1 with
      | none =>
        rw [e] at rr
        have e2 : PySem.valueAt vb (Sum.inr q.1) = none := rr.none_of
        rw [decide_eq_false (by intro z; cases z), Bool.false_and]
        exact .miss e2
      | some j =>
        rw [e] at rr
        obtain ⟨y, hy, ry⟩ := rr.some_of
        obtain ⟨t2, e2⟩ : ∃ t, y = Value.int j t := ry
        subst e2
        refine .hit hy ?_ (hits_num rb t)
        have e3 : decide ((some j : Option Int) = some q.2) = (q.2 == j) := by
          rw [Bool.eq_iff_iff, decide_eq_true_eq, beq_iff_eq]
          exact ⟨fun z => (Option.some.inj z).symm, fun z => by rw [z]⟩
        rw [e3]
        exact SeqAt.EqAt.int_int q.2 t1 j t2
/-- dicts of numbers, == and != -/
def rNumD (neg : Bool) : R2 := fun x y H Q => ∃ (a b : Addr) (ks ls : Num), x = .ref a ∧ y = .ref b ∧ H a = some (.dK (dS ks)) ∧ H b = some (.dK (dS ls)) ∧ Q (.bl (if neg then !eqNum ks ls else eqNum ks ls)) H
theorem op_eqNum (hu : X.A.units < cLine) : OpR X (compareOp .Eq) (rNumD false) := by
  intro pins s σ H x y v u Q I rx ry h
  obtain ⟨a, b, ks, ls, rfl, rfl, ea, eb, q⟩ := h
  obtain rfl : v = Value.ref a := rx
  obtain rfl : u = Value.ref b := ry
  obtain ⟨_, ya, va, ra, da⟩ := (show ObjOk X.prog X.w H s.heap a (.dK (dS ks)) from I.hok a _ ea)
  obtain ⟨_, yb, vb, rb, db⟩ := (show ObjOk X.prog X.w H s.heap b (.dK (dS ls)) from I.hok b _ eb)
  have la := KV.length ra
  have lb := KV.length rb
  rw [dS_len] at la lb
  refine PySem.W.keq_eq (knd := mixKind X.prog X.w) ya yb da db hu (fun _ => hits_num rb ra) (fin_bl I q ?_)
  rw [← la, ← lb]
  rfl
theorem op_neNum (hu : X.A.units < cLine) : OpR X (compareOp .NotEq) (rNumD true) := by
  intro pins s σ H x y v u Q I rx ry h
  obtain ⟨a, b, ks, ls, rfl, rfl, ea, eb, q⟩ := h
  obtain rfl : v = Value.ref a := rx
  obtain rfl : u = Value.ref b := ry
  obtain ⟨_, ya, va, ra, da⟩ := (show ObjOk X.prog X.w H s.heap a (.dK (dS ks)) from I.hok a _ ea)
  obtain ⟨_, yb, vb, rb, db⟩ := (show ObjOk X.prog X.w H s.heap b (.dK (dS ls)) from I.hok b _ eb)
  have la := KV.length ra
  have lb := KV.length rb
  rw [dS_len] at la lb
  refine PySem.W.keq_ne (knd := mixKind X.prog X.w) ya yb da db hu (fun _ => hits_num rb ra) (fin_bl I q ?_)
  rw [← la, ← lb]
  rfl
end
theorem iteFb {k : Bool} {a b : Prop} (hk : k = false) (h : b) : if k = true then a else b := by
  rw [if_neg (by rw [hk]; exact Bool.false_ne_true)]
  exact h
theorem iteTb {k : Bool} {a b : Prop} (hk : k = true) (h : a) : if k = true then a else b := by
  rw [if_pos hk]
  exact h
theorem neV_bl {x y : Bool} (h : x = y) : (!decide (V.bl x = V.bl y)) = false := by
  rw [h]
  simp
theorem eqV_int (i j : Int) : decide (V.int i = V.int j) = decide (i = j) := by
  rw [Bool.eq_iff_iff, decide_eq_true_eq, decide_eq_true_eq]
  exact ⟨fun z => V.int.inj z, fun z => by rw [z]⟩
theorem get?_ndm {d : Num} (nd : (d.map (·.1)).Nodup) {q : Str × Int} (h : q ∈ d) : get? d q.1 = some q.2 := by
  induction d with
  | nil => cases h
  | cons a d ih =>
    rw [List.map_cons, List.nodup_cons] at nd
    unfold get?
    rw [List.find?_cons]
    rcases List.mem_cons.mp h with rfl | h
    · rw [decide_eq_true rfl]
      rfl
    · have ne : ¬ a.1 = q.1 := fun z => nd.1 (List.mem_map.mpr ⟨q, h, z.symm⟩)
      rw [decide_eq_false ne]
      exact ih nd.2 h
theorem eqNum_refl {d : Num} (nd : (d.map (·.1)).Nodup) : eqNum d d = true := by
  unfold eqNum subNum
  rw [Bool.and_eq_true, List.all_eq_true]
  exact ⟨beq_self_eq_true _, fun q hq => decide_eq_true (get?_ndm nd hq)⟩
end Sk
/-! stores: objects of three fields -/
namespace Sk
open PySem PySem.Spec PyProof.Rows L2
/-- a field, K told -/
theorem peFld {X : Cx} {K : PySem.W.Frag} {o : Expr} {ta : TE} {f : Str} {pos : Pos} (e : X.K = K) (he : PE X o ta) (hb : attributeBase o f X.env (eval o X.env) = eval o X.env := by rfl) : PE X (.Attribute o f pos) (tFld K ta f) := by
  subst e
  exact pe_fld he hb
theorem NoTab.own {x : Addr} : NoTab (.own x) := ⟨(fun _ e => by cases e), (fun _ e => by cases e)⟩
/-- where the class stands -/
def stC (K : PySem.W.Frag) : Addr := He.ga K "Store"
/-- a store's fields -/
def stF (a b c : Addr) : List (Str × V) := [("entries", .ref a), ("stock_numbers", .ref b), ("split_numbers", .ref c)]
theorem stF_e (a b c : Addr) : (stF a b c).lookup ("entries" : Str) = some (V.ref a) := by rfl
theorem stF_s (a b c : Addr) : (stF a b c).lookup ("stock_numbers" : Str) = some (V.ref b) := by rfl
theorem stF_p (a b c : Addr) : (stF a b c).lookup ("split_numbers" : Str) = some (V.ref c) := by rfl
theorem stF_1 (a : Addr) : putF "entries" (.ref a) [] = ([("entries", .ref a)] : List (Str × V)) := by rfl
theorem stF_2 (a b : Addr) : putF "stock_numbers" (.ref b) ([("entries", .ref a)] : List (Str × V)) = ([("entries", .ref a), ("stock_numbers", .ref b)] : List (Str × V)) := by rfl
theorem stF_3 (a b c : Addr) : putF "split_numbers" (.ref c) ([("entries", .ref a), ("stock_numbers", .ref b)] : List (Str × V)) = stF a b c := by rfl
theorem stF_putP (a b c c' : Addr) : putF "split_numbers" (.ref c') (stF a b c) = stF a b c' := by rfl
theorem stF_putS (a b c b' : Addr) : putF "stock_numbers" (.ref b') (stF a b c) = stF a b' c := by rfl
theorem stF_len (a b c : Addr) : (stF a b c).length < 1000 := by show 3 < 1000; decide
theorem stF_no {a b c : Addr} {m : Str} (h : m ≠ "entries" ∧ m ≠ "stock_numbers" ∧ m ≠ "split_numbers") : (stF a b c).lookup m = none := by
  unfold stF
  simp only [List.lookup]
  have e1 : (m == ("entries" : Str)) = false := by simpa using h.1
  have e2 : (m == ("stock_numbers" : Str)) = false := by simpa using h.2.1
  have e3 : (m == ("split_numbers" : Str)) = false := by simpa using h.2.2
  rw [e1, e2, e3]
/-- a cell was otherwise at the start and at the end -/
theorem Gr.put2 {T : List (Addr × Str)} {H H' : Hp} {s : Addr} {o1 o2 : HO} (g : Gr T H H') (h : H s = some o1) (n1 : NoTab o1) (n2 : NoTab o2) : Gr T (upd H s o2) (upd H' s o2) := by
  have h' := g.at h n1
  refine ⟨fun b u e n => ?_, fun t => ?_⟩
  · by_cases hb : b = s
    · rw [hb, upd_same] at e
      rw [hb, upd_same]
      exact e
    · rw [upd_ne hb] at e ⊢
      exact g.ext b u e n
  · have t1 : LamX.Tabs T (upd (upd H s o2) s o1) := Tabs.upd t (upd_same (H := H) (a := s)) n2
    have e : upd (upd H s o2) s o1 = H := by
      funext b
      by_cases hb : b = s
      · rw [hb, upd_same, h]
      · rw [upd_ne hb, upd_ne hb]
    rw [e] at t1
    exact Tabs.upd (g.tab t1) h' n1
/-- a class made by keywords alone -/
structure MakK (P : Program) (w : World) (K : PySem.W.Frag) (mg : Str → Option Value) (base : Heap) (k : Nat) (x : Str) (C : Addr) (sp : Sp) (ks : List Str) (gV : List V → List V → List V) : Prop where
  ex : ∃ (f : Addr) (fd : FuncData) (ps : List Str) (g : List Value → List Value → List Value), Mk K C f ∧ FnOk P w K mg base CX0 k f fd ps sp ∧ mg x = some (.ref C) ∧ KBn K fd ps 1 ks g gV
section
variable {X : Cx} {k j : Nat} {C : Addr} {x : Str} {sp : Sp} {ks : List Str} {gV : List V → List V → List V} {tk : TA} {kws : List Keyword} {p pos : Pos}
theorem pe_mkK (c : MakK X.prog X.w X.K X.mg X.base k x C sp ks gV) (hr : Room j X.A) (hj : k + 1 ≤ j) (hg : Gl X x) (hkw : PK X kws tk) (hdb : (x == ("__debug__" : Str)) = false := by decide)
    (hall : (backToKw pos (keywordEach kws X.env)).all (·.1.isSome) = true := by rfl) (hks : (backToKw pos (keywordEach kws X.env)).filterMap (·.1) = ks := by rfl)
    (hpl : ((backTo pos (starEach [] X.env)).any (·.1) || (backToKw pos (keywordEach kws X.env)).any (·.1.isNone)) = false := by rfl) : PE X (.Call (.Name x p) [] kws pos) (tMakeN C 0 ks.length sp gV E0 tNil tk) := by
  obtain ⟨f, fd, ps, g, M, F, hm, hb⟩ := c.ex
  refine ⟨fun pins s σ H Q I h => ?_⟩
  refine wpAny_Call_Name_kw (ld_glob I hg hm ?_ hdb)
  refine PySem.W.callWith_KW0 (h₀ := X.base) I.ok.mod.kin M.kp hall ?_ hpl
  refine thn (hkw.run pos pins s σ H _ I h) fun ws s2 ⟨zs, H2, I2, rz, l1, l2, q2⟩ => ⟨I2.kIn, ?_⟩
  rw [hks]
  exact run_makeN M F (hr.mono hj) hb pass0 I2 .nil rz rfl l2 q2
end
end Sk
/-! == and != of own instances with an own __eq__: both answers -/
namespace PySem
open PySem.W Builtin
section
variable {prog : Program} {w : World} {A : Around} {E : Value → Shared → Prop} {s : Shared} {K : Frag} {x C L f : Addr} {h₀ : Heap} {m : Str → Option Value} {ox : Obj} {od : Option Obj} {name : Str} {b tb : Value}
theorem ifBound_KB {M : Model} {args : List Value} {id : String} {Q : Option Value → Shared → Prop} (X : K.In s.heap) (I : InstAt s.heap x ox C od) (hs : findIn K (.ref C) name = some (some (.builtin id))) (hb : ∀ self, bindSpecial (.builtin id) self = pure (.builtin id, [self]))
    (h : wpAny M A (call (.builtin id) (.ref x :: args)) (fun v => Q (some v)) E s) : wpAny M A (callSpecialIfBound? (.ref x) name args) Q E s := by
  simp only [callSpecialIfBound?, bindSpecialIfBound?]
  refine wpAny_holding (wpAny_bind (wpAny_bind (wpAny_bind (I.type.here ((looks_findIn X hs).here ?_)))))
  simp only [hb]
  refine wpAny_bind (wpAny_askSetting (wpAny_ite ?_))
  have fin : wpAny M A (call (.builtin id) ([.ref x] ++ args) >>= fun v => pure (some v)) Q E s := wpAny_bind (wpAny_mono h (fun v s' h' => wpAny_pure h') fun _ _ h' => h')
  split
  · exact wpAny_bind (wpAny_pure (wpAny_pure fin))
  · exact wpAny_tryCatch (wpAny_bind (wpAny_pure (wpAny_pure fin)))
theorem checkSlot_K {M : Model} {id owner n : String} {rest : List Value} {Q : Unit → Shared → Prop} (X : K.In s.heap) (I : InstAt s.heap x ox C od) (hk : builtinKind id = some .slot) (hs : splitId id = some (owner, n)) (ha : argsOk id ⟨.ref x :: rest, []⟩)
    (hO : subIn K (.ref C) (.type owner) = some true) (hq : Q () s) : wpAny M A (checkBuiltinCall id ⟨.ref x :: rest, []⟩) Q E s := by
  simp only [checkBuiltinCall, hk, hs]
  refine wpAny_bind ?_
  · have isI : Looks M s.heap (isInstance (.ref x) (.type owner)) true := by
      unfold isInstance
      exact I.type.andThen (looks_subIn X hO)
    refine wpAny_bind (I.type.here ((looks_subIn X hO).here ?_))
    repeat wp_step
    cases hsig : Manifest.signature? id with
    | none => exact wpAny_pure hq
    | some sig =>
      simp only [argsOk, hsig] at ha
      have h2 : Bind.checkArgs id sig ⟨.ref x :: rest, []⟩ = pure () := ha
      show wpAny M A (Bind.checkArgs id sig ⟨.ref x :: rest, []⟩) Q E _
      rw [h2]; exact wpAny_pure hq
theorem objNe_K {Q : Fin → Shared → Prop} (hu : A.units < cLine) (X : K.In s.heap) (I : InstAt s.heap x ox C od) (hs : findIn K (.ref C) "__eq__" = some (some (.ref f))) (hf : isFn K (.ref f) = true)
    (h : wpAny (model prog w) A (call (.ref f) [.ref x, b]) (fun v s' => ∃ r, v = .bool r ∧ Q (.done (.ret (.bool (!r)))) s') E s) :
    wpAny (model prog w) A (Builtin.«object.__ne__» ⟨[.ref x, b], []⟩) Q E s := by
  unfold Builtin.«object.__ne__»
  repeat (first
    | with_reducible refine wpAny_cRoomFor hu ?_
    | (refine wpAny_bind (m := callSpecialIfBound? (.ref x) (Str.ofString "__eq__") [b])
        (ifBound_K X I hs hf (wpAny_mono h (fun r s' hr => by
          obtain ⟨b, rfl, hq⟩ := hr
          repeat (first | exact hq | exact wpAny_pure hq | exact wpAny_truthy_bool hq | (refine wpAny_bind (m := truthy (.bool _)) (wpAny_truthy_bool ?_)) | wp_step)) fun _ _ e => e)))
    | wp_step)
theorem cmpNe_K {Q : Value → Shared → Prop} (hu : A.units + 1 < cLine) (X : K.In s.heap) (I : InstAt s.heap x ox C od) (hb : Looks (model prog w) s.heap (typeOf b) tb) (hn : notFirst K C tb = true)
    (hN : findIn K (.ref C) "__ne__" = some (some (.builtin "object.__ne__"))) (hO : subIn K (.ref C) (.type "object") = some true) (hs : findIn K (.ref C) "__eq__" = some (some (.ref f))) (hf : isFn K (.ref f) = true)
    (h : wpAny (model prog w) A.in1 (call (.ref f) [.ref x, b]) (fun v s' => ∃ r, v = .bool r ∧ Q (.bool (!r)) s') E s) : wpAny (model prog w) A (richCompare .NotEq (.ref x) b) Q E s := by
  have hu0 : A.units < cLine := Nat.lt_of_succ_lt hu
  have one : wpAny (model prog w) A (tryCompare (.ref x) "__ne__" b) (fun r s' => ∃ v, r = some v ∧ Q v s') E s := by
    unfold tryCompare
    refine wpAny_bind (ifBound_KB X I hN (F.slot_object_ne).bind (wpAny_call (codeAny_call_builtin (F.slot_object_ne).plain F.cmpEntry_ne
      (checkSlot_K X I F.cmpKind_ne F.cmpSplit_ne (F.cmpArgs_ne _ _) hO (objNe_K (A := A.in1) hu X I hs hf (wpAny_mono h (fun v s' hv => ?_) fun _ _ e => e))))))
    obtain ⟨b, rfl, hq⟩ := hv
    first | exact ⟨b, rfl, wpAny_pure ⟨_, rfl, hq⟩⟩ | exact ⟨b, rfl, wpAny_pure (wpAny_pure ⟨_, rfl, hq⟩)⟩ | exact ⟨b, rfl, ⟨_, rfl, hq⟩⟩
  unfold richCompare
  simp only [oneThing_ref]
  refine wpAny_holding (wpAny_bind (wpAny_cRoomFor hu0 ?_))
  rw [cmpInfo_NotEq]
  dsimp only
  refine wpAny_bind (I.type.here (wpAny_bind (hb.here ?_)))
  split
  · rename_i q
    have e : subIn K tb (.ref C) = some false := by
      rcases Bool.or_eq_true_iff.mp hn with e | e
      · rw [beq_iff_eq.mp e] at q; simp at q
      · exact beq_iff_eq.mp e
    refine wpAny_bind ((looks_subIn X e).here ?_)
    simp only [Bool.false_eq_true, if_false]
    refine wpAny_bind (wpAny_mono one (fun r s' z => ?_) fun _ _ e => e)
    obtain ⟨v, rfl, hq⟩ := z
    exact wpAny_pure hq
  · refine wpAny_bind (wpAny_pure ?_)
    simp only [Bool.false_eq_true, if_false]
    refine wpAny_bind (wpAny_mono one (fun r s' z => ?_) fun _ _ e => e)
    obtain ⟨v, rfl, hq⟩ := z
    exact wpAny_pure hq
end
end PySem
namespace Sk
open PySem PySem.Spec PyProof.Rows L2
/-- what != of an own class needs -/
structure NeK (K : PySem.W.Frag) (C : Addr) : Prop where
  ne : PySem.W.findIn K (.ref C) "__ne__" = some (some (.builtin "object.__ne__"))
  ob : PySem.W.subIn K (.ref C) (.type "object") = some true
def rEqI (C : Addr) (sp : Sp) : R2 := fun x y H Q => ∃ a b dx dy fs gs, x = .ref a ∧ y = .ref b ∧ H a = some (.ins C dx fs) ∧ H b = some (.ins C dy gs) ∧ sp [.ref a, .ref b] H (fun v H' => ∃ r, v = .bl r ∧ Q (.bl r) H') E0
def rNeI (C : Addr) (sp : Sp) : R2 := fun x y H Q => ∃ a b dx dy fs gs, x = .ref a ∧ y = .ref b ∧ H a = some (.ins C dx fs) ∧ H b = some (.ins C dy gs) ∧ sp [.ref a, .ref b] H (fun v H' => ∃ r, v = .bl r ∧ Q (.bl (!r)) H') E0
section
variable {X : Cx} {k : Nat} {C : Addr} {sp : Sp}
theorem call_eqI {A : Around} {f : Addr} {fd : FuncData} {ps : List Str} {pins : List (Addr × Obj)} {s : Shared} {σ : L2.St} {H : Hp} {a b : Addr} {R : Bool → Hp → Prop} (F : FnOk X.prog X.w X.K X.mg X.base CX0 k f fd ps sp) (hb : Binds X.K fd ps []) (sb : Sub X k A) (I : Inv X pins σ H s)
    (hsp : sp [.ref a, .ref b] H (fun v H' => ∃ r, v = .bl r ∧ R r H') E0) :
    wpAny (model X.prog X.w) A (call (.ref f) [.ref a, .ref b]) (fun v s' => ∃ r H', v = .bool r ∧ Inv X pins σ H' s' ∧ R r H') X.xe s := by
  have e0 : Env0 X.prog X.w X.K X.mg X.base A X.stack s H := by
    have e := I.env0
    exact ⟨by rw [sb.fr]; exact e.frames, e.mod, e.bs, e.bsz, e.funs, e.frf, e.hok, e.bare⟩
  have hl := F.len _ _ _ _ hsp
  have r2 : Vals [V.ref a, V.ref b] [Value.ref a, Value.ref b] := .cons rfl (.cons rfl .nil)
  refine wpAny_call (codeAny_mono (F.run A X.stack s H ⟨[.ref a, .ref b], []⟩ [.ref a, .ref b] [.ref a, .ref b] _ E0 sb.room e0 (by
    have := hb s [.ref a, .ref b] I.kIn (by simpa using hl)
    simpa using this) r2 hsp) fun r s' hq => ?_)
  cases r with
  | error e => exact pass0 pins σ H s e s' I hq
  | ok fl =>
    cases fl with
    | ret w =>
      obtain ⟨z, H', I', rz, r, ez, q⟩ := I.after hq
      subst ez
      cases rz
      exact ⟨r, H', rfl, I', q⟩
    | next => exact False.elim hq
    | brk => exact False.elim hq
    | cont => exact False.elim hq
theorem op_eqI {j : Nat} (c : C8.Met X.prog X.w X.K X.mg X.base k C "__eq__" sp []) (hr : Room j X.A) (hj : k ≤ j) : OpR X (compareOp .Eq) (rEqI C sp) := by
  intro pins s σ H x y v u Q I rx ry hq
  obtain ⟨f, fd, ps, ds, hc, hm, F, hb, d⟩ := c.ex
  cases d
  obtain ⟨a, b, dx, dy, fs, gs, rfl, rfl, ha, hb', hsp⟩ := hq
  cases rx
  cases ry
  obtain ⟨mA, J, _⟩ := ins_get I.hok ha
  obtain ⟨mB, J', _⟩ := ins_get I.hok hb'
  obtain ⟨od, J, _⟩ := J.look
  obtain ⟨od', J', _⟩ := J'.look
  obtain ⟨m, hF⟩ := I.fr
  have sb : Sub X k X.A := ⟨hr.mono hj, rfl⟩
  show wpAny (model X.prog X.w) X.A (richCompare .Eq (.ref a) (.ref b)) (EP X pins σ Q) X.xe s
  refine PySem.W.cmp_K (op := .Eq) (tb := .ref C) sb.room.units0 hF I.ok.mod.kin J J'.type (by simp [PySem.W.notFirst]) hm.at_ hm.fn ?_
  refine wpAny_mono (call_eqI F hb sb I hsp) (fun v s' z => ?_) fun _ _ x => x
  obtain ⟨r, H', rfl, I', q⟩ := z
  exact ⟨.bl r, H', I', rfl, q⟩
theorem op_neI {j : Nat} (c : C8.Met X.prog X.w X.K X.mg X.base k C "__eq__" sp []) (n : NeK X.K C) (hr : Room j X.A) (hj : k + 1 ≤ j) : OpR X (compareOp .NotEq) (rNeI C sp) := by
  intro pins s σ H x y v u Q I rx ry hq
  obtain ⟨f, fd, ps, ds, hc, hm, F, hb, d⟩ := c.ex
  cases d
  obtain ⟨a, b, dx, dy, fs, gs, rfl, rfl, ha, hb', hsp⟩ := hq
  cases rx
  cases ry
  obtain ⟨mA, J, _⟩ := ins_get I.hok ha
  obtain ⟨mB, J', _⟩ := ins_get I.hok hb'
  obtain ⟨od, J, _⟩ := J.look
  obtain ⟨od', J', _⟩ := J'.look
  have sb : Sub X (k + 1) X.A := ⟨hr.mono hj, rfl⟩
  show wpAny (model X.prog X.w) X.A (richCompare .NotEq (.ref a) (.ref b)) (EP X pins σ Q) X.xe s
  refine cmpNe_K (tb := .ref C) ?_ I.kIn J J'.type (by simp [PySem.W.notFirst]) n.ne n.ob hm.at_ hm.fn ?_
  · have := hr.units
    omega
  refine wpAny_mono (call_eqI F hb sb.in1 I hsp) (fun v s' z => ?_) fun _ _ x => x
  obtain ⟨r, H', rfl, I', q⟩ := z
  exact ⟨r, rfl, .bl (!r), H', I', rfl, q⟩
end
/-- a method that is called by keywords alone -/
structure MetK (P : Program) (w : World) (K : PySem.W.Frag) (mg : Str → Option Value) (base : Heap) (k : Nat) (C : Addr) (m : Str) (sp : Sp) (ks : List Str) (gV : List V → List V → List V) : Prop where
  ex : ∃ (f : Addr) (fd : FuncData) (ps : List Str) (g : List Value → List Value → List Value), Cls K C ∧ Meth K C m f ∧ FnOk P w K mg base CX0 k f fd ps sp ∧ KBn K fd ps 1 ks g gV
def tMethK (C : Addr) (m : Str) (n : Nat) (sp : Sp) (gV : List V → List V → List V) (ta : TE) (tk : TA) : TE := fun σ H Q => ta σ H fun x H1 => ∃ a dx fs, x = .ref a ∧ H1 a = some (.ins C dx fs) ∧ fs.lookup m = none ∧
  tk σ H1 fun zs H2 => zs.length = n ∧ sp (gV [x] zs) H2 Q E0
section
variable {X : Cx} {k j : Nat} {C : Addr} {m : Str} {sp : Sp} {ks : List Str} {gV : List V → List V → List V} {o : Expr} {ta : TE} {tk : TA} {kws : List Keyword} {pos apos : Pos}
theorem pe_mtK {pl : Sem Bool} (c : MetK X.prog X.w X.K X.mg X.base k C m sp ks gV) (hr : Room j X.A) (hj : k ≤ j) (he : PE X o ta) (hkw : PK X kws tk)
    (hall : (backToKw pos (keywordEach kws X.env)).all (·.1.isSome) = true := by rfl) (hks : (backToKw pos (keywordEach kws X.env)).filterMap (·.1) = ks := by rfl)
    (hpl : ((backTo pos (starEach [] X.env)).any (·.1) || (backToKw pos (keywordEach kws X.env)).any (·.1.isNone)) = false := by rfl)
    (ht : eval (.Call (.Attribute o m apos) [] kws pos) X.env = (do
      let ov ← eval o X.env
      standAt apos.atName
      let (f, first) ← holding [ov] (getMethod ov m pl)
      callWith pos f first (backTo pos (starEach [] X.env)) (backToKw pos (keywordEach kws X.env))) := by rfl) :
    PE X (.Call (.Attribute o m apos) [] kws pos) (tMethK C m ks.length sp gV ta tk) := by
  obtain ⟨f, fd, ps, g, hc, hm, F, hb⟩ := c.ex
  refine ⟨fun pins s σ H Q I h => ?_⟩
  refine PySem.W.methodCall_KW (pl := pl) (thn (he.run pins s σ H _ I h) fun u s1 ⟨x, H1, I1, rx, a, dx, fs, ex, ea, l, q⟩ => ?_) ht
  subst ex
  obtain rfl : u = Value.ref a := rx
  refine getmeth_ok I1 ea hc hm l ?_
  refine PySem.W.callWith_KW0 (first := [.ref a]) (h₀ := X.base) I.ok.mod.kin hm.kp hall ?_ hpl
  refine thn (hkw.run pos pins s1 σ H1 _ I1 q) fun ws s2 ⟨zs, H2, I2, rz, l2, q2⟩ => ⟨I2.kIn, ?_⟩
  rw [hks]
  exact run_fnN (us := [.ref a]) (vs := [.ref a]) F (hr.mono hj) hb pass0 I2 (.cons rfl .nil) rz rfl l2 q2
end
/-- l.count(i), ints -/
def rCountI : V → List V → Hp → VK → Prop := fun x xs H Q => ∃ (a : Addr) (ns : List Int) (i : Int), x = .ref a ∧ xs = [.int i] ∧ H a = some (.lst (ns.map V.int)) ∧ Q (.int (ns.count i : Nat)) H
theorem mt_countI {X : Cx} : MtR X "list.count" rCountI := by
  intro pins s σ H x xs v us Q I rx rxs h
  obtain ⟨a, ns, i, rfl, rfl, ha, q⟩ := h
  cases rx
  cases rxs with
  | cons ry rt =>
    cases rt
    obtain ⟨t, rfl⟩ := (show ∃ t, _ = Value.int i t from ry)
    obtain ⟨hz, its, n, rv, hob⟩ := I.hok a _ ha
    exact PyProof.Rows.count_list_ints ⟨_, hob, rfl, _, rfl⟩ rv.ints ⟨.int (ns.count i : Nat), H, I.tok _, ⟨_, rfl⟩, q⟩
end Sk
/-! lists of dicts of numbers, of lists, of what is the same: equal ones compared -/
namespace Sk
open PySem PySem.Spec PyProof.Rows L2
/-- the same thing -/
def SaQ (x y : V) : Prop := (x = y ∧ flatB x = true) ∨ ∃ a, x = .ref a ∧ y = .ref a
/-- equal items -/
def ItQ (K : PySem.W.Frag) (H : Hp) (x y : V) : Prop := SaQ x y ∨ (∃ (a b : Addr) (ks ls : Num), x = .ref a ∧ y = .ref b ∧ H a = some (.dK (dS ks)) ∧ H b = some (.dK (dS ls)) ∧ eqNum ks ls = true) ∨
  ∃ (a b : Addr) (xs ys : List V), x = .ref a ∧ y = .ref b ∧ SqL K H a xs ∧ SqL K H b ys ∧ Paired SaQ xs ys
section
variable {X : Cx} {pins : List (Addr × Obj)} {σ : L2.St} {H : Hp} {s : Shared}
theorem SaQ.eqv {A : Around} {x y : V} {v u : Value} (h : SaQ x y) (rx : RelV x v) (ry : RelV y u) : SeqAt.EqAt A s v u true := by
  rcases h with ⟨e, f⟩ | ⟨a, e1, e2⟩
  · subst e
    exact eqAt_same rx ry f
  · subst e1 e2
    cases (show v = Value.ref a from rx)
    cases (show u = Value.ref a from ry)
    exact SeqAt.EqAt.same _
theorem hitsP_of {P : Program} {w : World} {A : Around} {kb : List (Key × Value)} {r : List (Key × Value)} {b : Bool} (h : PySem.W.KeqHits A s kb r b) : PySem.W.KeqHitsP P w A s kb r b := by
  induction h with
  | nil => exact .nil
  | miss e => exact .miss e
  | hit e q _ ih => exact .hit e (fun E Q => q P w E Q) ih
theorem eqP_num (I : Inv X pins σ H s) {A : Around} {a b : Addr} {ks ls : Num} (hu : A.units < cLine) (ea : H a = some (.dK (dS ks))) (eb : H b = some (.dK (dS ls))) (he : eqNum ks ls = true) : SeqAt.EqP X.prog X.w A s (.ref a) (.ref b) true := by
  by_cases e : a = b
  · subst e
    exact (SeqAt.EqAt.same _).eqP
  · refine SeqAt.eqP_refs e fun E Q h => ?_
    obtain ⟨_, ya, va, ra, da⟩ := (show ObjOk X.prog X.w H s.heap a (.dK (dS ks)) from I.hok a _ ea)
    obtain ⟨_, yb, vb, rb, db⟩ := (show ObjOk X.prog X.w H s.heap b (.dK (dS ls)) from I.hok b _ eb)
    have la := KV.length ra
    have lb := KV.length rb
    rw [dS_len] at la lb
    refine PySem.W.rcP_dicts (knd := mixKind X.prog X.w) (r := subNum ks ls) ya yb da db hu (fun _ => hitsP_of (hits_num rb ra)) E Q ?_
    rw [← la, ← lb]
    have e2 : (ks.length == ls.length && subNum ks ls) = true := he
    rw [e2]
    exact h
theorem allQ_range (n : Nat) : ((List.range n).all fun _ => true) = true := List.all_eq_true.mpr fun _ _ => rfl
theorem valsQ_at : ∀ {xs ys : List V} {us ws : List Value} {R : V → V → Prop} {C : Value → Value → Prop}, (∀ x y v u, R x y → RelV x v → RelV y u → C v u) → Paired R xs ys → Vals xs us → Vals ys ws → ∀ j (h1 : j < us.length) (h2 : j < ws.length), C us[j] ws[j]
  | _, _, _, _, _, _, _, .nil, r1, _, j, h1, _ => by
    cases r1
    exact absurd h1 (Nat.not_lt_zero j)
  | _, _, _, _, _, _, f, .cons a t, r1, r2, j, h1, h2 => by
    cases r1 with
    | cons a1 b1 =>
      cases r2 with
      | cons a2 b2 =>
        cases j with
        | zero => exact f _ _ _ _ a a1 a2
        | succ j => exact valsQ_at f t b1 b2 j (Nat.lt_of_succ_lt_succ h1) (Nat.lt_of_succ_lt_succ h2)
theorem eqP_item (I : Inv X pins σ H s) {A : Around} (hu : A.units < cLine) {x y : V} {v u : Value} (h : ItQ X.K H x y) (rx : RelV x v) (ry : RelV y u) : SeqAt.EqP X.prog X.w A s v u true := by
  rcases h with h | ⟨a, b, ks, ls, e1, e2, ea, eb, he⟩ | ⟨a, b, xs, ys, e1, e2, ha, hb, hp⟩
  · exact (h.eqv rx ry).eqP
  · subst e1 e2
    cases (show v = Value.ref a from rx)
    cases (show u = Value.ref b from ry)
    exact eqP_num I hu ea eb he
  · subst e1 e2
    cases (show v = Value.ref a from rx)
    cases (show u = Value.ref b from ry)
    by_cases e : a = b
    · subst e
      exact (SeqAt.EqAt.same _).eqP
    · obtain ⟨us, r1, p1, _⟩ := I.list ha
      obtain ⟨ws, r2, p2, _⟩ := I.list hb
      have hsz : us.toArray.size = ws.toArray.size := by
        rw [List.size_toArray, List.size_toArray, ← r1.length, ← r2.length]
        exact Paired.len hp
      have := SeqAt.RcAt.lists (A := A) (e := fun _ => true) p1.isList p2.isList hsz hu fun j h1 h2 => by
        have k := valsQ_at (C := fun v u => SeqAt.EqAt A.in1 s v u true) (fun x y v u h rx ry => SaQ.eqv h rx ry) hp r1 r2 j (by simpa using h1) (by simpa using h2)
        simpa using k
      rw [allQ_range] at this
      exact (SeqAt.EqAt.of_refs e this).eqP
end
/-! ### != of lists whose items are equal in this model -/
/-- two lists of equal items lie at l and b -/
def TwoL (P : Program) (w : World) (l b : Addr) (us ws : Array Value) (ol ob : Obj) (A : Around) (s : Shared) : Prop := s.heap.get? l = some ol ∧ s.heap.get? b = some ob ∧ ∀ j (h1 : j < us.size) (h2 : j < ws.size), SeqAt.EqP P w A.in1 s us[j] ws[j] true
abbrev lObj (us : Array Value) (n : Nat) (d : Option Addr) (sl : Array (Option Value)) : Obj := { cls := .type "list", dict := d, data := .seq us n, slots := sl }
section
open AutoSeq1 (wpAny_loadPart')
open MeetsSeq MeetsSeq2 MeetsSeq3
variable {P : Program} {w : World}
theorem ne_turns (l b : Addr) (us ws : Array Value) (n m : Nat) (d1 d2 : Option Addr) (t1 t2 : Array (Option Value)) (same : us.size = ws.size) : ∀ k i : Nat, us.size = i + k →
    MeetsIn P w (Builtin.«list.__eq__.loop» ⟨[.ref l, .ref b, rawInt i, rawInt 3], []⟩) (fun A R s => TwoL P w l b us ws (lObj us n d1 t1) (lObj ws m d2 t2) A s ∧ R (.ok (.ret (.bool false))) s)
  | 0, i, end_ => fun A R s q => by
    obtain ⟨hp, g, d, tk, os⟩ := s
    obtain ⟨⟨la, lb, _⟩, fin⟩ := q
    wp_walk using wpAny_loadPart' la, wpAny_loadPart' lb
    have o1 : us[((i : Nat) : Int).toNat]? = none := by
      rw [Int.toNat_natCast]
      exact Array.getElem?_eq_none (by omega)
    have o2 : ws[((i : Nat) : Int).toNat]? = none := by
      rw [Int.toNat_natCast]
      exact Array.getElem?_eq_none (by omega)
    rw [o1, o2]
    wp_walk using wpAny_loadPart' la, wpAny_loadPart' lb
    have ns : (us.size != ws.size) = false := by rw [same]; exact bne_self_eq_false _
    show R (.ok (.ret (.bool (us.size != ws.size)))) _
    rw [ns]
    exact fin
  | k + 1, i, more => fun A R s q => by
    obtain ⟨hp, g, d, tk, os⟩ := s
    obtain ⟨⟨la, lb, eqs⟩, fin⟩ := q
    wp_walk using wpAny_loadPart' la, wpAny_loadPart' lb
    have i1 : i < us.size := by omega
    have i2 : i < ws.size := by omega
    have o1 : us[((i : Nat) : Int).toNat]? = some us[i] := by
      rw [Int.toNat_natCast]
      exact Array.getElem?_eq_getElem i1
    have o2 : ws[((i : Nat) : Int).toNat]? = some ws[i] := by
      rw [Int.toNat_natCast]
      exact Array.getElem?_eq_getElem i2
    have up : ((i : Int) + 1) = ((i + 1 : Nat) : Int) := rfl
    rw [o1, o2]
    refine wpAny_bind (eqs i i1 i2 _ _ ?_)
    wp_walk
    rw [up]
    refine ⟨plainId_quiet plain_eq_loop _, codeAny_builtin entry_eq_loop ?_⟩
    rw [Around.under_plainId plain_eq_loop _]
    exact ne_turns l b us ws n m d1 d2 t1 t2 same k (i + 1) (by omega) A R _ ⟨⟨la, lb, eqs⟩, fin⟩
theorem ne_whole (l b : Addr) (us ws : Array Value) (n m : Nat) (d1 d2 : Option Addr) (t1 t2 : Array (Option Value)) (same : us.size = ws.size) :
    MeetsIn P w (Builtin.«list.__ne__» ⟨[.ref l, .ref b], []⟩) (fun A R s => TwoL P w l b us ws (lObj us n d1 t1) (lObj ws m d2 t2) A s ∧ R (.ok (.ret (.bool false))) s) := fun A R s q => by
  obtain ⟨hp, g, d, tk, os⟩ := s
  obtain ⟨⟨la, lb, eqs⟩, fin⟩ := q
  have sub := AutoSeq1.sub_list_list
  have ns : ¬ (us.size != ws.size) = true := by rw [same]; simp
  wp_walk using wpAny_loadPart' la, wpAny_loadPart' lb
  refine ⟨plainId_quiet plain_eq_loop _, codeAny_builtin entry_eq_loop ?_⟩
  rw [Around.under_plainId plain_eq_loop _]
  exact ne_turns l b us ws n m d1 d2 t1 t2 same us.size 0 (by omega) A R _ ⟨⟨la, lb, eqs⟩, fin⟩
theorem ne_two {A : Around} {s : Shared} {l b : Addr} {us ws : Array Value} (hl : s.heap.IsList l us) (hb : s.heap.IsList b ws) (same : us.size = ws.size) (hu : A.units < cLine)
    (eqs : ∀ j (h1 : j < us.size) (h2 : j < ws.size), SeqAt.EqP P w A.in1 s us[j] ws[j] true) (E Q : Value → Shared → Prop) (fin : Q (.bool false) s) : wpAny (model P w) A (richCompare .NotEq (.ref l) (.ref b)) Q E s := by
  obtain ⟨⟨c1, d1, a1, t1⟩, o1, e1, n, f1⟩ := id hl
  obtain ⟨⟨c2, d2, a2, t2⟩, o2, e2, m, f2⟩ := id hb
  dsimp only at e1 f1 e2 f2
  subst e1 f1 e2 f2
  have ta : s.TypeIs (.ref l) "list" := ⟨_, o1, rfl⟩
  have tb : s.TypeIs (.ref b) "list" := ⟨_, o2, rfl⟩
  refine wpAny_richCompare_same_room (op := .NotEq) ta tb F.slot_list_ne (call_meetsIn F.slot_list_ne ta F.entry_list_ne (F.args_list_ne_2 _ _) (ne_whole l b us ws n m d1 d2 t1 t2 same) ⟨⟨o1, o2, eqs⟩, ?_⟩) hu
  show Value.bool false ≠ Value.notImplemented ∧ Q (.bool false) s
  exact ⟨(fun x => nomatch x), fin⟩
end
section
variable {X : Cx}
/-- equal lists, == or != -/
def rLsQ (K : PySem.W.Frag) (neg : Bool) : R2 := fun x y H Q => ∃ (a b : Addr) (xs ys : List V), x = .ref a ∧ y = .ref b ∧ SqL K H a xs ∧ SqL K H b ys ∧ Paired (ItQ K H) xs ys ∧ Q (.bl (!neg)) H
theorem op_eqLs {K : PySem.W.Frag} (e : X.K = K) (hu : X.A.units + 64 < cLine) : OpR X (compareOp .Eq) (rLsQ K false) := by
  subst e
  intro pins s σ H x y v u Q I rx ry h
  obtain ⟨a, b, xs, ys, rfl, rfl, hx, hy, hp, q⟩ := h
  obtain rfl : v = Value.ref a := rx
  obtain rfl : u = Value.ref b := ry
  obtain ⟨us, r1, p1, _⟩ := I.list hx
  obtain ⟨ws, r2, p2, _⟩ := I.list hy
  have hsz : us.toArray.size = ws.toArray.size := by
    rw [List.size_toArray, List.size_toArray, ← r1.length, ← r2.length]
    exact Paired.len hp
  refine SeqAt.rcP_lists (A := X.A) (e := fun _ => true) p1.isList p2.isList hsz (by omega) (fun j h1 h2 => ?_) _ _ ?_
  · have k := valsQ_at (C := fun v u => SeqAt.EqP X.prog X.w X.A.in1 s v u true) (fun x y v u h rx ry => eqP_item I (by show X.A.units + 1 < cLine; omega) h rx ry) hp r1 r2 j (by simpa using h1) (by simpa using h2)
    simpa using k
  · rw [allQ_range]
    exact ⟨.bl true, H, I, rfl, q⟩
theorem op_neLs {K : PySem.W.Frag} (e : X.K = K) (hu : X.A.units + 64 < cLine) : OpR X (compareOp .NotEq) (rLsQ K true) := by
  subst e
  intro pins s σ H x y v u Q I rx ry h
  obtain ⟨a, b, xs, ys, rfl, rfl, hx, hy, hp, q⟩ := h
  obtain rfl : v = Value.ref a := rx
  obtain rfl : u = Value.ref b := ry
  obtain ⟨us, r1, p1, _⟩ := I.list hx
  obtain ⟨ws, r2, p2, _⟩ := I.list hy
  have hsz : us.toArray.size = ws.toArray.size := by
    rw [List.size_toArray, List.size_toArray, ← r1.length, ← r2.length]
    exact Paired.len hp
  refine ne_two (A := X.A) p1.isList p2.isList hsz (by omega) (fun j h1 h2 => ?_) _ _ ⟨.bl false, H, I, rfl, q⟩
  have k := valsQ_at (C := fun v u => SeqAt.EqP X.prog X.w X.A.in1 s v u true) (fun x y v u h rx ry => eqP_item I (by show X.A.units + 1 < cLine; omega) h rx ry) hp r1 r2 j (by simpa using h1) (by simpa using h2)
  simpa using k
end
end Sk
/-! dicts with tuples as keys: display, items(), sum of the values; tuple(d.values()); dict(zip(list, tuple)) -/
namespace Sk
open PySem PySem.Spec PyProof.Rows L2
/-! ### for k, v in d.items() -/
theorem frzT2 {X : Cx} {pins : List (Addr × Obj)} {σ : L2.St} {H : Hp} {s : Shared} {d : Addr} {o : Obj} {kvs : List (List L2.Key × V)} (I : Inv X pins σ H s) (h : H d = some (.frz o (.dT kvs))) :
    (d == sysModules) = false ∧ s.heap.get? d = some o ∧ o.ExactDict ∧ ∃ (es : Array DictEntry) (ep : Nat), o.data = .dict es ep ∧ es.size = kvs.length ∧
      ∀ (i : Nat) (k : List L2.Key) (v : V), kvs[i]? = some (k, v) → ∃ (en : DictEntry) (q : Addr), es[i]? = some en ∧ en.key = .ref q ∧ H q = some (.tup (k.map kV)) ∧ RelV v en.val := by
  obtain ⟨hd, z, hs, xs, pr, o', es, ep, ho, hx, hdt, he, hnd⟩ := I.hok d _ h
  rw [hd] at ho
  cases ho
  have lp : kvs.length = xs.length := Paired.length pr
  have le : es.size = xs.length := size_of_entries he
  refine ⟨hs, hd, hx, es, ep, hdt, by omega, fun i k v e => ?_⟩
  obtain ⟨b, hb, e1, e2, e3⟩ := paired_get pr e
  have q := entry_at he i
  rw [hb] at q
  exact ⟨_, b.2.1, q, rfl, e2, e3⟩
def ItiT (d : Addr) (o : Obj) (kvs : List (List L2.Key × V)) : It :=
  ⟨fun i H => H d = some (.frz o (.dT kvs)) ∧ i < kvs.length, fun i H x H' => ∃ T k v q, kvs[i]? = some (k, v) ∧ x = .ref T ∧ H T = none ∧ H q = some (.tup (k.map kV)) ∧ H' = upd H T (.tup [.ref q, v]), fun i H => H d = some (.frz o (.dT kvs)) ∧ kvs.length ≤ i⟩
theorem turn_itemsT {P : Program} {w : World} {K : PySem.W.Frag} {d : Addr} {o : Obj} {es : Array DictEntry} {ep : Nat} {kvs : List (List L2.Key × V)} {elts : List Expr} {kk : Nat} {tpos : Pos} (it : Addr) (hod : o.data = .dict es ep) (hne : d ≠ it) :
    Turn P w K (.Tuple elts kk tpos) (ItiT d o kvs) [it] it (fun i h => ∃ ok ov, IsItemIter h it d i kvs.length ep ok ov) where
  mem := by simp
  obj := fun i h st b hb => by
    obtain rfl : b = it := by simpa using hb
    obtain ⟨ok, ov, e⟩ := st
    exact ⟨_, e, fun v z => nomatch z⟩
  keep := fun i h h' st k => let ⟨ok, ov, e⟩ := st; ⟨ok, ov, k it (by simp) _ e⟩
  item := by
    intro X hP hw hK hcalm i pins s σ H E I hf st hg
    subst hP hw hK
    obtain ⟨hd, hi⟩ := hg
    obtain ⟨hs, hgd, hx, es', ep', hdt, hsz, ent⟩ := frzT2 I hd
    obtain ⟨rfl, rfl⟩ := dict_ep hod hdt
    obtain ⟨⟨k, v⟩, hkv⟩ : ∃ p, kvs[i]? = some p := ⟨kvs[i], List.getElem?_eq_getElem hi⟩
    obtain ⟨en, q, hen, hkey, hq, hrv⟩ := ent i k v hkv
    have hie : i < es'.size := by omega
    have een : es'[i] = en := by
      rw [Array.getElem?_eq_getElem hie] at hen
      exact Option.some.inj hen
    obtain ⟨ok, ov, he⟩ := st
    rw [← hsz] at he
    have hlt : it < s.heap.objs.size := Heap.lt_size he
    refine wpAny_pyNext_items_item_raw he ⟨o, hgd, hx, hod⟩ hie fun h' ho hT hz hk => ?_
    rw [een] at ho hT
    refine ⟨_, rfl, wpAny_letOwnedTupleGo_items (s := { s with heap := h' }) ho fun h'' he' sb => ?_⟩
    have hT2 : h''.get? s.heap.objs.size = some { cls := .type "tuple", data := .seq #[en.key, en.val] } := (sb.2 _ (Nat.ne_of_gt hlt)).trans hT
    have rk : RelV (.ref q) en.key := hkey
    have fresh : ObjOk X.prog X.w (upd H s.heap.objs.size (.tup [.ref q, v])) h'' s.heap.objs.size (.tup [.ref q, v]) :=
      ⟨by show 2 ≤ sizeLine; decide, [en.key, en.val], .cons rk (.cons hrv .nil), ⟨_, hT2, rfl, _, rfl⟩⟩
    have I1 : Inv X pins σ (upd H s.heap.objs.size (.tup [.ref q, v])) { s with heap := h'' } :=
      I.turnedNew (t' := s.toks) (ch := [it]) (fun b ob hb e => (sb.2 b (by simpa using hb)).trans (hk b ob (by simpa using hb) e)) hf (Nat.le_refl _) fresh
    refine ⟨.ref s.heap.objs.size, _, I1, rfl, ⟨_, k, v, q, hkv, rfl, I.hok.fresh (Nat.le_refl _), hq, rfl⟩, ⟨en.key, en.val, ?_⟩, fun b hb => ?_⟩
    · rw [← hsz]
      exact he'
    · obtain rfl : b = it := by simpa using hb
      rw [upd_ne (Nat.ne_of_lt hlt)]
      exact (hf b (by simp)).1
  done := by
    intro X hP hw hK hcalm i pins s σ H E I hf st hg
    subst hP hw hK
    obtain ⟨hd, hi⟩ := hg
    obtain ⟨f0, f1, f2, f3, f4, f5⟩ := hf it (by simp)
    obtain ⟨hs, hgd, hx, es', ep', hdt, hsz, _⟩ := frzT2 I hd
    obtain ⟨rfl, rfl⟩ := dict_ep hod hdt
    obtain ⟨ok, ov, he⟩ := st
    rw [← hsz] at he
    exact wpAny_pyNext_items_end_raw (I.ok.hd hcalm) he ⟨o, hgd, hx, hod⟩ (by omega) fun h' eb => ⟨rfl, I.turned (t' := s.toks) (fun b ob hb e => eb b ob hb e) f0 f1 f3 f4 f5⟩
  self := fun A i s Q E st h => let ⟨_, _, e⟩ := st; wpAny_pyIter_itemiter e h
theorem walk_itemsT {d : Addr} {o : Obj} {kvs : List (List L2.Key × V)} : Walk (ItiT d o kvs) kvs.length (fun H => H d = some (.frz o (.dT kvs)))
    (fun i H x H' => ∃ T k v q, kvs[i]? = some (k, v) ∧ x = .ref T ∧ H T = none ∧ H q = some (.tup (k.map kV)) ∧ H' = upd H T (.tup [.ref q, v])) :=
  ⟨fun i H hi q => ⟨q, hi⟩, fun H q => ⟨q, Nat.le_refl _⟩, fun i H x H' _ _ y => y⟩
theorem NoTab.dT {xs : List (List L2.Key × V)} : NoTab (.dT xs) := ⟨(fun _ e => by cases e), (fun _ e => by cases e)⟩
def iItemsT (td : TE) : TI := fun σ H R => td σ H fun x H1 => ∃ d o kvs, x = .ref d ∧ H1 d = some (.frz o (.dT kvs)) ∧ R (ItiT d o kvs) H1
theorem pi_itemsT {X : Cx} {e : Expr} {td : TE} {apos cpos tpos : Pos} {elts : List Expr} {kk : Nat} (he : PE X e td) (hbase : attributeBase e "items" X.env (eval e X.env) = eval e X.env := by rfl) (hline : (apos.endLine == cpos.line) = true := by rfl) :
    PI X (.Tuple elts kk tpos) (.Call (.Attribute e "items" apos) [] [] cpos) (iItemsT td) := by
  refine ⟨fun pins s σ H R I h => ?_⟩
  refine wpAny_Call_method (T := "dict") (id := "dict.items") hbase rfl hline F.plainAttrs_dict F.slot_dict_items F.type_dict_items (thn (he.run pins s σ H _ I h) fun u s1 ⟨x, H1, I1, rx, d, o, kvs, ex, hd, q⟩ => ?_)
  subst ex
  obtain rfl : u = Value.ref d := rx
  obtain ⟨hs, hgd, hx, es, ep, hdt, hsz, _⟩ := frzT2 I1 hd
  have raw : s1.heap.DictRaw d es ep := ⟨o, hgd, hx, hdt⟩
  have hlt : d < s1.heap.objs.size := Heap.lt_size hgd
  refine ⟨raw.typeIs, fun b e => ?_, ?_⟩
  · cases e
    exact ⟨o, hgd, hx.2.1⟩
  have I2 : Inv X pins σ H1 { s1 with heap := s1.heap.push { cls := .type "dict_items", data := .fields #[.ref d] } } := I1.kept (t' := s1.toks) fun b ob q => Heap.get?_push_of_some _ q
  have fin : wpAny (model X.prog X.w) X.A (pyIter (.ref s1.heap.objs.size)) (PIE X pins σ (.Tuple elts kk tpos) R) X.xe { s1 with heap := s1.heap.push { cls := .type "dict_items", data := .fields #[.ref d] } } := by
    refine wpAny_pyIter_items_raw (d := d) (es := es) (ep := ep) ⟨_, Heap.get?_push_size _ rfl, rfl, rfl⟩ (raw.at fun o e => Heap.get?_push_of_some _ e) (pi_one (tk := s1.toks) I2 _ (turn_itemsT _ hdt (Nat.ne_of_lt (by rw [Heap.size_push]; exact Nat.lt_succ_of_lt hlt))) ⟨.none, .none, ?_⟩ q)
    rw [hsz]
    exact Heap.get?_push_size _ rfl
  show wpAny _ _ (callWith cpos (.builtin "dict.items") [.ref d] [] []) _ X.xe s1
  exact method_meetsIn F.slot_dict_items F.entry_dict_items rfl (PySem.evalArgs_none ⟨rfl, raw.typeIs, F.args_dict_items_1 _, _, meets_dict_items_raw d hs, ⟨es, ep, raw⟩, fin⟩)
/-! ### sum(d.values()) -/
theorem dtRaw {X : Cx} {pins : List (Addr × Obj)} {σ : L2.St} {H : Hp} {s : Shared} {a : Addr} {kvs : List (List L2.Key × V)} (I : Inv X pins σ H s) (h : H a = some (.dT kvs)) :
    (a == sysModules) = false ∧ ∃ (o : Obj) (es : Array DictEntry) (ep : Nat), s.heap.get? a = some o ∧ o.ExactDict ∧ o.data = .dict es ep ∧ es.size = kvs.length ∧
      ∀ (i : Nat) (k : List L2.Key) (v : V), kvs[i]? = some (k, v) → ∃ en : DictEntry, es[i]? = some en ∧ RelV v en.val := by
  obtain ⟨z, hs, xs, pr, o, es, ep, ho, hx, hdt, he, hnd⟩ := I.hok a _ h
  have lp : kvs.length = xs.length := Paired.length pr
  have le : es.size = xs.length := size_of_entries he
  refine ⟨hs, o, es, ep, ho, hx, hdt, by omega, fun i k v e => ?_⟩
  obtain ⟨b, hb, e1, e2, e3⟩ := paired_get pr e
  have q := entry_at he i
  rw [hb] at q
  exact ⟨_, q, e3⟩
section
variable {X : Cx} {o : Expr} {p pos apos mpos : Pos} {td : TE}
/-- sum(o.values()), a dict with tuples as keys whose values are ints -/
def tSumValsT (td : TE) : TE := fun σ H Q => td σ H fun x H1 => ∃ (a : Addr) (kvs : List (List L2.Key × V)) (is : List Int), x = V.ref a ∧ H1 a = some (.dT kvs) ∧ kvs.map (·.2) = is.map V.int ∧ Q (.int is.sum) H1
theorem preSum_getD (is : List Int) : ∀ n, n ≤ is.length → preSum (fun i => is.getD i 0) n = (is.take n).sum := by
  intro n
  induction n with
  | zero => intro _; rfl
  | succ n ih =>
    intro hn
    show preSum _ n + is.getD n 0 = _
    rw [ih (by omega), List.take_add_one, List.sum_append, List.getD_eq_getElem?_getD, List.getElem?_eq_getElem (by omega)]
    simp
theorem pe_sumValsT (hc : X.calm = true) (hg : Gl X "sum") (hm : X.mg "sum" = none) (hd : PE X o td) (hbase : attributeBase o "values" X.env (eval o X.env) = eval o X.env := by rfl) (hline : (apos.endLine == mpos.line) = true := by rfl)
    (hse : starEach [Expr.Call (.Attribute o "values" apos) [] [] mpos] X.env = [(false, eval (Expr.Call (.Attribute o "values" apos) [] [] mpos) X.env)] := by rfl) :
    PE X (.Call (.Name "sum" p) [.Call (.Attribute o "values" apos) [] [] mpos] [] pos) (tSumValsT td) := by
  refine ⟨fun pins s σ H Q I h => ?_⟩
  refine wpAny_Call_Name_kw (ld_blt I hg hm (u := .builtin "sum") (by first | rfl | decide +kernel) ?_ (by decide +kernel) (by decide +kernel))
  rw [hse]
  refine PySem.callWith_builtin1 (wpAny_Call_method0_late hbase hline (thn (hd.run pins s σ H _ I h) fun v s1 ⟨x, H1, I1, r1, a, kvs, is, ex, ha, hv, q⟩ => ?_))
  subst ex
  obtain rfl : v = Value.ref a := r1
  obtain ⟨hsys, ob, es, ep, ho, ex, hdat, hsz, ent⟩ := dtRaw I1 ha
  have raw : s1.heap.DictRaw a es ep := ⟨ob, ho, ex, hdat⟩
  refine ⟨"dict", "dict.values", F.plainAttrs_dict, F.slot_dict_values, F.type_dict_values, ⟨ob, ho, ex.1⟩, fun b e => ?_, Calls.callWith_builtin rfl (PySem.evalArgs_none ?_)⟩
  · cases e
    exact ⟨ob, ho, ex.2.1⟩
  refine call_meetsIn F.slot_dict_values ⟨ob, ho, ex.1⟩ F.entry_dict_values (F.args_dict_values_1 _) (meets_dict_values_raw a hsys) ⟨⟨es, ep, raw⟩, ?_⟩
  have hlt : a < s1.heap.objs.size := Heap.lt_size ho
  have sz : (s1.heap.push { cls := .type "dict_values", data := .fields #[.ref a] }).objs.size = s1.heap.objs.size + 1 := Heap.size_push _ _
  have lv : es.size = is.length := by
    have e1 := congrArg List.length hv
    rw [List.length_map, List.length_map] at e1
    omega
  have vals : ∀ (i : Nat) (u : Value), (∃ hi : i < es.size, u = es[i].val) → ∃ t, u = Value.int (is.getD i 0) t := by
    rintro i u ⟨hi, rfl⟩
    have hik : i < kvs.length := by omega
    obtain ⟨en, h1, h2⟩ := ent i kvs[i].1 kvs[i].2 (List.getElem?_eq_getElem hik)
    have e1 : (is.map V.int)[i]? = some kvs[i].2 := by
      rw [← hv, List.getElem?_map, List.getElem?_eq_getElem hik]
      rfl
    rw [List.getElem?_map] at e1
    obtain ⟨j, hj, e2⟩ := Option.map_eq_some_iff.mp e1
    rw [← e2] at h2
    obtain ⟨t, e3⟩ := h2
    rw [Array.getElem?_eq_getElem hi] at h1
    have e4 : es[i] = en := Option.some.inj h1
    exact ⟨t, by rw [e4, e3, List.getD_eq_getElem?_getD, hj]; rfl⟩
  refine call_sum_walkAnyS (wpAny_pyIter_values_raw (v := s1.heap.objs.size) (d := a) (es := es) (ep := ep) ⟨_, Heap.get?_push_size _ rfl, rfl, rfl⟩ (raw.at fun o e => Heap.get?_push_of_some _ e) ?_)
  refine ⟨_, _, _, _, _, _, _, fun i => is.getD i 0, rfl, (Walks.rawValues (A := X.A.in1) (I.ok.hd hc) _ a (by rw [sz]; exact Nat.ne_of_lt (Nat.lt_succ_of_lt hlt)) es ep).toS,
    ⟨⟨_, Heap.get?_push_size _ rfl, rfl, rfl⟩, (raw.at fun o e => Heap.get?_push_of_some _ e).at fun o e => Heap.get?_push_of_some _ e⟩, fun b hb => ?_, vals, fun s' t' hmv => ?_⟩
  · show b < ((s1.heap.push _).push _).objs.size
    rw [Heap.size_push, Heap.size_push]
    rw [sz] at hb
    rcases List.mem_cons.mp hb with e | hb
    · rw [e]
      exact Nat.lt_succ_self _
    · rw [List.mem_singleton.mp hb]
      exact Nat.lt_succ_of_lt (Nat.lt_succ_of_lt hlt)
  · have e : preSum (fun i => is.getD i 0) es.size = is.sum := by
      rw [lv, preSum_getD is _ (Nat.le_refl _), List.take_length]
    rw [e, Moved.eq_with hmv]
    refine ⟨.int is.sum, H1, I1.kept (t' := s'.toks) fun b u e => hmv.heap b u (fun hmem => ?_) (Heap.get?_push_of_some _ (Heap.get?_push_of_some _ e)), ⟨t', rfl⟩, q⟩
    have e1 := List.mem_singleton.mp hmem
    have e2 := Heap.lt_size e
    rw [e1, sz] at e2
    exact absurd e2 (Nat.not_lt.mpr (Nat.le_succ _))
end
/-! ### tuple(d.values()) -/
section
variable {prog : Program} {w : World} {A : Around} {E : Value → Shared → Prop} {s : Shared} {r d : Addr} {n : Nat} {P : Nat → Value → Prop} {OK : Heap → Prop}
theorem code_tupSrc {Q₁ : Value → Shared → Prop} (K : PySem.W.KdlSrc prog w "dict_values" r d n P OK) (hh : A.handled = none) (hok : OK s.heap) (hn : n ≤ sizeLine)
    (h : ∀ (h' : Heap) (tk : Nat) (acc : Array Value), (∀ b o, s.heap.get? b = some o → h'.get? b = some o) → ItemsOf P acc n →
      Q₁ (.ref h'.objs.size) { s with heap := h'.push { cls := .type "tuple", data := .seq acc }, toks := tk }) :
    codeAny (model prog w) A (.call (.builtin "tuple.__new__") ⟨[.type "tuple", .ref r], []⟩) (wants Q₁ E) s := by
  refine codeAny_of_tree ?_
  show wpAny _ A.in1 (do checkBuiltinCall "tuple.__new__" ⟨[.type "tuple", .ref r], []⟩; again (.builtin "tuple.__new__" ⟨[.type "tuple", .ref r], []⟩)) _ _ s
  refine wpAny_bind (wpAny_of_eq (F.newCall_tuple_1 _) (wpAny_pure ⟨plainId_quiet F.plain_tuple_new _, codeAny_builtin F.entry_tuple_new ?_⟩))
  rw [Around.under_plainId F.plain_tuple_new _]
  have hsub := sub_tuple_self
  have hinit := init_tuple_lookup
  have hmh := madeHere_tuple
  have hTI : s.TypeIs (.ref r) "dict_values" := K.type s hok
  have hh1 : A.in1.handled = none := hh
  wp_walk using wpAny_typeOf hTI, PySem.W.kdu_collect (A := A.in1) K hh1 hok hn
  intro h' tk acc hk hacc
  show wpAny _ _ (Builtin.Tuple.tupleExact acc.toList.toArray >>= fun v => ret v) _ _ _
  unfold Builtin.Tuple.tupleExact
  refine wpAny_bind (wpAny_newObj_type ?_ (by show acc.toList.toArray.size ≤ sizeLine; simp only [Array.toArray_toList]; rw [hacc.1]; exact hn))
  refine wpAny_pure ?_
  have e : acc.toList.toArray = acc := by simp
  rw [e]
  exact h h' tk acc hk hacc
theorem call_tupSrc {Q : Value → Shared → Prop} (K : PySem.W.KdlSrc prog w "dict_values" r d n P OK) (hh : A.handled = none) (hok : OK s.heap) (hn : n ≤ sizeLine)
    (hQ : ∀ (h' : Heap) (tk : Nat) (acc : Array Value), (∀ b o, s.heap.get? b = some o → h'.get? b = some o) → ItemsOf P acc n →
      Q (.ref h'.objs.size) { s with heap := h'.push { cls := .type "tuple", data := .seq acc }, toks := tk }) :
    wpAny (model prog w) A (call (.type "tuple") [.ref r]) Q E s := by
  refine callType_codes (Q₁ := fun obj s₁ => s₁.TypeIs obj "tuple" ∧ Q obj s₁) F.called_tuple (F.typeCall_tuple_1 _) F.entry_object_init
    (code_tupSrc (A := A.in1) K hh hok hn fun h' tk acc hk hacc => ⟨⟨_, Heap.get?_push_size _ rfl, rfl⟩, hQ h' tk acc hk hacc⟩) fun obj s₁ h₁ => ?_
  exact ⟨h₁.1, F.args_object_init_2 obj _, object_init_meets F.called_tuple.init.lookup F.called_tuple.made (by decide) prog w A.in1 _ s₁ ⟨h₁.1, rfl, h₁.2⟩⟩
end
section
variable {X : Cx} {o : Expr} {p pos apos mpos : Pos} {td : TE}
/-- tuple(o.values()) -/
def tTupVals (td : TE) : TE := fun σ H Q => td σ H fun x H1 => ∃ (a : Addr) (kvs : List (L2.Key × V)), x = V.ref a ∧ H1 a = some (.dK kvs) ∧ ∀ q, H1 q = none → Q (.ref q) (upd H1 q (.tup (kvs.map (·.2))))
theorem pe_tupVals (hc : X.calm = true) (hg : Gl X "tuple") (hm : X.mg "tuple" = none) (hd : PE X o td) (hbase : attributeBase o "values" X.env (eval o X.env) = eval o X.env := by rfl) (hline : (apos.endLine == mpos.line) = true := by rfl)
    (hse : starEach [Expr.Call (.Attribute o "values" apos) [] [] mpos] X.env = (false, eval (Expr.Call (.Attribute o "values" apos) [] [] mpos) X.env) :: starEach [] X.env := by rfl) :
    PE X (.Call (.Name "tuple" p) [.Call (.Attribute o "values" apos) [] [] mpos] [] pos) (tTupVals td) := by
  refine ⟨fun pins s σ H Q I h => ?_⟩
  refine Call_ (ld_blt I hg hm boot_tuple (PyProof.Rows.callWith_type1 (args_cons ?_ hse) hse))
  refine wpAny_Call_method0_late hbase hline (thn (hd.run pins s σ H _ I h) fun v s1 ⟨x, H1, I1, r1, a, kvs, ex, ha, q⟩ => ?_)
  subst ex
  obtain rfl : v = Value.ref a := r1
  obtain ⟨hz, hsys, vs, rel, dof⟩ := dk_of I1.hok ha
  obtain ⟨ep, dat⟩ := dof.dictAt
  obtain ⟨ob, es, ho, ex, hdat, hko, hpr, hnd⟩ := id dat
  refine ⟨"dict", "dict.values", F.plainAttrs_dict, F.slot_dict_values, F.type_dict_values, ⟨ob, ho, ex.1⟩, fun b e => ?_, Calls.callWith_builtin rfl (PySem.evalArgs_none ?_)⟩
  · cases e
    exact ⟨ob, ho, ex.2.1⟩
  refine call_meetsIn F.slot_dict_values ⟨ob, ho, ex.1⟩ F.entry_dict_values (F.args_dict_values_1 _) (meets_dict_values (mixKind X.prog X.w) a hsys) ⟨⟨vs, dof⟩, ?_⟩
  refine args_nil ?_
  have hl : kvs.length = vs.length := KV.length rel
  have I2 : Inv X pins σ H1 { s1 with heap := s1.heap.push { cls := .type "dict_values", data := .fields #[.ref a] } } := I1.kept (t' := s1.toks) fun b u e => Heap.get?_push_of_some _ e
  refine call_tupSrc (PySem.W.kdl_values (knd := mixKind X.prog X.w) (r := s1.heap.objs.size) (d := a) (kvs := vs) (ep := ep)) (I.ok.hd hc) ⟨⟨_, Heap.get?_push_size _ rfl, rfl, rfl⟩, dat.keep fun b u e => Heap.get?_push_of_some _ e⟩ (by rw [← hl]; exact hz) fun h' tk acc hk hacc => ?_
  have I3 : Inv X pins σ H1 { s1 with heap := h', toks := tk } := I2.kept (t' := tk) hk
  refine ⟨.ref h'.objs.size, upd H1 h'.objs.size (.tup (kvs.map (·.2))), I3.laid (t' := tk) (fun b u e => Heap.get?_push_of_some _ e) (Nat.le_refl _) (show ObjOk X.prog X.w _ _ _ (.tup (kvs.map (·.2))) from ⟨?_, acc.toList, vals_of_at ?_ fun j x u h1 h2 => ?_, ?_⟩), rfl, q _ (I3.hok.fresh (Nat.le_refl _))⟩
  · rw [List.length_map]
    exact hz
  · rw [List.length_map, hl, ← hacc.1]
    simp
  · obtain ⟨k, hky⟩ := hacc.2 j u (by rw [← Array.getElem?_toList]; exact h2)
    obtain ⟨y, h3, h4⟩ := KV.at' rel hky
    rw [List.getElem?_map, h3] at h1
    cases h1
    exact h4
  · rw [Array.toArray_toList]
    exact IsTup.new _ _
end
/-! ### {tuple: value} -/
section
variable {X : Cx}
/-- a display of one pair whose key is a tuple; the new dict stands empty while the pair is made -/
def tDispT (tk tv : TE) : TE := fun σ H Q => ∀ p, H p = none → tk σ (upd H p (.dT [])) fun x H1 => tv σ H1 fun y H2 => H2 p = some (.dT []) ∧ ∃ (k : List L2.Key) (b : Addr), x = .ref b ∧ H2 b = some (.tup (k.map kV)) ∧ Q (.ref p) (upd H2 p (.dT (putK [] k y)))
theorem pe_dispT {k v : Expr} {tk tv : TE} {pos : Pos} (hu : X.A.units + 1 < cLine) (hk : PE X k tk) (hv : PE X v tv) : PE X (.Dict [some k] [v] pos) (tDispT tk tv) := by
  refine ⟨fun pins s σ H Q I q => ?_⟩
  have hn := I.hok.fresh (Nat.le_refl s.heap.objs.size)
  have I1 := I.laid (a := s.heap.objs.size) (o := .dT []) (h' := s.heap.push { cls := .type "dict", data := .dict #[] }) (t' := s.toks) (fun _ _ q => Heap.get?_push_of_some _ q) (Nat.le_refl _) (dt_empty s.heap I.big)
  refine wpAny_Dict_any (by rfl) (by rfl) (fun z => by cases z) (by show 1 ≤ 15; decide) ?_
  refine pairTrees_cons_walk (thn (hk.run pins _ σ _ _ I1 (q _ hn)) fun u s1 ⟨x, H1, J1, rx, q1⟩ => thn (hv.run pins s1 σ H1 _ J1 q1) fun w2 s2 ⟨y, H2, I2, ry, hp, ks, b, ex, hb, q2⟩ => pairTrees_nil_walk ?_)
  subst ex
  obtain rfl : u = Value.ref b := rx
  have put : DPut H2 s.heap.objs.size (.ref b) y (upd H2 s.heap.objs.size (.dT (putK [] ks y))) := DPut.t hp hb (by show 0 < sizeLine; decide)
  obtain ⟨zl, hsys, xs, rel, dd⟩ := dt_of I2.hok hp
  obtain rfl : xs = [] := by
    cases rel
    rfl
  have hroom : (tupleKind (mixKind X.prog X.w)).room X.A := Nat.lt_of_succ_lt hu
  refine wpAny_storeAllH hroom [(Value.ref b, w2)] [(ks, b, w2)] [] s2 _ ⟨rfl, rfl, key_of I2.hok hb, True.intro⟩ dd (by show 0 + 1 ≤ sizeLine; decide) fun h' tk dd' hs => ?_
  obtain ⟨q, es, ep, hq, h2, h3, h4, _, h5⟩ := dd'
  have rel2 : KT H2 (putK [] ks y) (storedAllH [] [(ks, b, w2)]) := rel.put ks hb ry
  refine ⟨.ref s.heap.objs.size, upd H2 s.heap.objs.size (.dT (putK [] ks y)), ?_, rfl, q2⟩
  refine d_write I2 (by rw [hp]; exact True.intro) hs ⟨q, hq⟩ ⟨by show 1 ≤ sizeLine; decide, hsys, _, rel2.keeps fun c ys ec => ?_, q, es, ep, hq, h2, h3, h4, h5⟩
  rw [upd_ne (ne_of ec hp (fun z => nomatch z))]
  exact ec
end
/-! ### dict(zip(list, tuple)) -/
section
variable {prog : Program} {w : World} {A : Around} {E : Value → Shared → Prop} {s : Shared} {z TI TO T i1 i2 : Addr} {fp1 fp2 : List Addr} {n1 n2 i : Nat} {P1 P2 : Nat → Value → Prop} {St1 St2 : Nat → Heap → Prop} {f : Bool} {oT : Obj}
theorem zipD_held {Q : Value → Shared → Prop} (S : ZipSep2 z TI TO i1 i2 fp1 fp2) (D1 : Draws prog w A i1 fp1 n1 P1 St1) (D2 : Draws prog w A i2 fp2 n2 P2 St2)
    (hz : IsZipHeld s.heap z TI TO T f) (hT : s.heap.get? T = some oT) (hTI : IsTupOf2 s.heap TI (.ref i1) (.ref i2)) (st1 : St1 i s.heap) (st2 : St2 i s.heap) (hlt1 : i < n1) (hlt2 : i < n2)
    (hQ : ∀ x1 x2 h' tk, P1 i x1 → P2 i x2 → IsZipHeld h' z TI TO T true → St1 (i + 1) h' → St2 (i + 1) h' → IsTupOf2 h' s.heap.objs.size x1 x2 → h'.objs.size = s.heap.objs.size + 1 →
      (∀ c o, c ≠ z → c ≠ i1 → c ≠ i2 → s.heap.get? c = some o → h'.get? c = some o) → Q (.ref s.heap.objs.size) { s with heap := h', toks := tk }) :
    wpAny (model prog w) A (Builtin.«zip.__next__» ⟨[.ref z], []⟩) (fun fin s' => ∃ v, fin = .done (.ret v) ∧ Q v s') E s := by
  obtain ⟨hp, g, d, tk0, os⟩ := s
  show wpAny _ _ (field (.ref z) 2 >>= _) _ _ _
  refine wpAny_bind (wpAny_field hz rfl (x := .bool false) rfl ?_)
  show wpAny _ _ (field (.ref z) 3 >>= _) _ _ _
  refine wpAny_bind (wpAny_field hz rfl (x := .ref TI) rfl ?_)
  refine wpAny_bind (wpAny_seqItems hTI rfl ?_)
  show wpAny _ _ (Builtin.SmallTypes.ownedTupleIsFree (.ref z) >>= _) _ _ _
  refine wpAny_bind (wpAny_tupleHeld_zip hz hT fun g0 hz0 hs0 => ?_)
  replace hs0 : Heap.SameBut z hp g0 := hs0
  simp only [Bool.false_eq_true, if_false]
  refine wpAny_bind ?_
  rw [← Array.forIn_toList]
  simp only [List.forIn_cons, List.forIn_nil]
  refine wpAny_bind (wpAny_bind (wpAny_holding ?_))
  show wpAny _ _ (Builtin.SmallTypes.nextOf (.ref i1) >>= _) _ _ ⟨g0, g, d, tk0, os⟩
  refine wpAny_bind (D1.item i _ _ _ hlt1 (D1.over st1 hs0 S.zf1) fun x1 p1 tk1 hx1 sn1 hp1 => wpAny_pure ?_)
  replace hp1 : Heap.SameBut i1 g0 p1 := hp1
  refine wpAny_pure ?_
  refine wpAny_bind (wpAny_bind (wpAny_holding ?_))
  show wpAny _ _ (Builtin.SmallTypes.nextOf (.ref i2) >>= _) _ _ ⟨p1, g, d, tk1, os⟩
  refine wpAny_bind (D2.item i _ _ _ hlt2 (D2.over (D2.over st2 hs0 S.zf2) hp1 S.sep1_2) fun x2 p2 tk2 hx2 sn2 hp2 => wpAny_pure ?_)
  replace hp2 : Heap.SameBut i2 p1 p2 := hp2
  refine wpAny_pure (wpAny_pure ?_)
  show wpAny _ _ (newTuple [x1, x2] >>= _) _ _ _
  refine wpAny_bind (wpAny_newTuple ?_)
  have hsz : p2.objs.size = hp.objs.size := by rw [hp2.1, hp1.1, hs0.1]
  have hz3 : IsZipHeld p2 z TI TO T true := hp2.extBut _ _ S.zi2 (hp1.extBut _ _ S.zi1 hz0)
  have hk : ∀ c o, c ≠ z → c ≠ i1 → c ≠ i2 → hp.get? c = some o → p2.get? c = some o := fun c o c1 c2 c3 e => hp2.extBut _ _ c3 (hp1.extBut _ _ c2 (hs0.extBut _ _ c1 e))
  have hj1 : St1 (i + 1) p2 := D1.over sn1 hp2 S.sep2_1
  refine wpAny_pure ⟨_, rfl, ?_⟩
  show Q (.ref p2.objs.size) ⟨p2.push { cls := .type "tuple", data := .seq #[x1, x2] }, g, d, tk2, os⟩
  have hpair : IsTupOf2 (p2.push { cls := .type "tuple", data := .seq #[x1, x2] }) p2.objs.size x1 x2 := Heap.get?_push_size _ rfl
  have hz4 : (p2.push { cls := .type "tuple", data := .seq #[x1, x2] }).objs.size = p2.objs.size + 1 := Heap.size_push ..
  rw [hsz] at hpair hz4 ⊢
  exact hQ x1 x2 _ tk2 hx1 hx2 (Heap.get?_push_of_some _ hz3) (D1.frame _ _ _ hj1 fun b hb o e => Heap.get?_push_of_some _ e) (D2.frame _ _ _ sn2 fun b hb o e => Heap.get?_push_of_some _ e) hpair hz4 fun c o c1 c2 c3 e => Heap.get?_push_of_some _ (hk c o c1 c2 c3 e)
theorem zipD_heldEnd {Q : Fin → Shared → Prop} (S : ZipSep2 z TI TO i1 i2 fp1 fp2) (D1 : Draws prog w A i1 fp1 n1 P1 St1)
    (hz : IsZipHeld s.heap z TI TO T f) (hT : s.heap.get? T = some oT) (hTI : IsTupOf2 s.heap TI (.ref i1) (.ref i2)) (st1 : St1 n1 s.heap)
    (hE : ∀ h' e, (∀ c o, c ≠ z → c ≠ i1 → s.heap.get? c = some o → h'.get? c = some o) → (∃ o, h'.get? e = some o ∧ o.cls = .type "StopIteration") → E (.ref e) { s with heap := h' }) :
    wpAny (model prog w) A (Builtin.«zip.__next__» ⟨[.ref z], []⟩) Q E s := by
  obtain ⟨hp, g, d, tk0, os⟩ := s
  show wpAny _ _ (field (.ref z) 2 >>= _) _ _ _
  refine wpAny_bind (wpAny_field hz rfl (x := .bool false) rfl ?_)
  show wpAny _ _ (field (.ref z) 3 >>= _) _ _ _
  refine wpAny_bind (wpAny_field hz rfl (x := .ref TI) rfl ?_)
  refine wpAny_bind (wpAny_seqItems hTI rfl ?_)
  show wpAny _ _ (Builtin.SmallTypes.ownedTupleIsFree (.ref z) >>= _) _ _ _
  refine wpAny_bind (wpAny_tupleHeld_zip hz hT fun g0 hz0 hs0 => ?_)
  replace hs0 : Heap.SameBut z hp g0 := hs0
  simp only [Bool.false_eq_true, if_false]
  refine wpAny_bind ?_
  rw [← Array.forIn_toList]
  simp only [List.forIn_cons, List.forIn_nil]
  refine wpAny_bind (wpAny_bind (wpAny_holding ?_))
  show wpAny _ _ (Builtin.SmallTypes.nextOf (.ref i1) >>= _) _ _ ⟨g0, g, d, tk0, os⟩
  refine wpAny_bind (D1.done _ _ _ (D1.over st1 hs0 S.zf1) fun p1 e hp1 he => ?_)
  exact hE p1 e (fun c o c1 c2 x => hp1 _ _ c2 (hs0.extBut _ _ c1 x)) he
end
theorem zipSep2 (n a b : Nat) (la : a < n) (lb : b < n) : ZipSep2 (n + 4) (n + 2) (n + 3) n (n + 1) [n, a] [n + 1, b] := by
  have nm : ∀ {x i w : Nat}, x ≠ i → x ≠ w → ¬ x ∈ ([i, w] : List Nat) := fun h1 h2 h => by
    rcases List.mem_cons.mp h with z | z
    · exact h1 z
    · exact h2 (List.mem_singleton.mp z)
  exact ⟨Nat.ne_of_lt (by omega), Nat.ne_of_lt (by omega), Nat.ne_of_lt (by omega), Nat.ne_of_gt (by omega), List.mem_cons_self .., nm (by omega) (by omega), nm (by omega) (by omega),
    Nat.ne_of_gt (by omega), List.mem_cons_self .., nm (by omega) (by omega), nm (by omega) (by omega), nm (by omega) (by omega), nm (by omega) (by omega)⟩
section
variable {prog : Program} {w : World}
theorem pairLT (z TI TO i1 i2 l1 l2 : Addr) (S : ZipSep2 z TI TO i1 i2 [i1, l1] [i2, l2]) (n1 : l1 ≠ i1) (n2 : l2 ≠ i2) (xs ys : Array Value) (hxy : xs.size = ys.size) :
    PairArg prog w "zip" z [z, TI, TO, i1, i2, l1, l2] [z, TO, i1, i2] xs.size (fun i k v => xs[i]? = some k ∧ ys[i]? = some v)
      (fun h => IsZip h z TI TO .none ∧ IsTupOf2 h TI (.ref i1) (.ref i2) ∧ (∃ a b, IsTupOf2 h TO a b) ∧ (h.IsListIter i1 l1 0 ∧ h.IsList l1 xs) ∧ h.IsTupleIter i2 l2 0 ∧ h.IsTuple l2 ys) where
  type := fun s ok => ⟨_, ok.1, rfl⟩
  notDict := by decide
  keep := fun h h' ok hk => by
    obtain ⟨hz, hTI, ⟨a, b, hTO⟩, ⟨h1, hl1⟩, h2, hl2⟩ := ok
    exact ⟨hk _ _ hz, hk _ _ hTI, ⟨a, b, hk _ _ hTO⟩, ⟨h1.at fun o e => hk _ o e, hl1.at fun o e => hk _ o e⟩, h2.at fun o e => hk _ o e, hl2.at fun o e => hk _ o e⟩
  there := fun h ok b hb => by
    obtain ⟨hz, hTI, ⟨a, c, hTO⟩, ⟨⟨o1, h1, _⟩, ⟨o3, hl1, _⟩⟩, ⟨o2, h2, _⟩, ⟨o4, hl2, _⟩⟩ := ok
    simp only [List.mem_cons, List.not_mem_nil, or_false] at hb
    rcases hb with rfl | rfl | rfl | rfl | rfl | rfl | rfl
    all_goals first | exact ⟨_, hz⟩ | exact ⟨_, hTI⟩ | exact ⟨_, hTO⟩ | exact ⟨_, h1⟩ | exact ⟨_, h2⟩ | exact ⟨_, hl1⟩ | exact ⟨_, hl2⟩
  sub := fun b hb => by simp at hb ⊢; rcases hb with rfl | rfl | rfl | rfl <;> simp
  noKeys := fun A s Q E hA ok h => getAttrOr_miss_zip ok.1 rfl rfl rfl zip_no_keys (by decide +kernel) hA h
  iter := fun A s d Q E hA ok hd hdf h => by
    obtain ⟨hz, hTI, ⟨a, b, hTO⟩, st1, st2⟩ := ok
    simp only [List.mem_cons, List.not_mem_nil, or_false, not_or] at hdf
    obtain ⟨dz, dTI, dTO, di1, di2, dl1, dl2⟩ := hdf
    have D1 := Draws.list (prog := prog) (w := w) (A := A.in1) hA i1 l1 n1 xs
    have D2 := Draws.tuple (prog := prog) (w := w) (A := A.in1) hA i2 l2 n2 ys
    refine wpAny_pyIter_zip hz (h z [z, TO, i1, i2] (fun i h => IsTupOf2 h TI (.ref i1) (.ref i2) ∧ (h.IsListIter i1 l1 i ∧ h.IsList l1 xs) ∧ (h.IsTupleIter i2 l2 i ∧ h.IsTuple l2 ys) ∧
      ((IsZip h z TI TO .none ∧ ∃ a b, IsTupOf2 h TO a b) ∨ ∃ T f oT, IsZipHeld h z TI TO T f ∧ h.get? T = some oT ∧ T ≠ z ∧ T ≠ i1 ∧ T ≠ i2 ∧ T ≠ d)) s.heap s.toks ?_
      ⟨hTI, st1, st2, .inl ⟨hz, a, b, hTO⟩⟩ (fun _ _ e => e) fun b hb => .inl hb)
    exact {
      off := fun hm => by
        simp only [List.mem_cons, List.not_mem_nil, or_false] at hm
        rcases hm with e | e | e | e
        · exact dz e
        · exact dTO e
        · exact di1 e
        · exact di2 e
      frame := fun i h₁ h₂ st hk => by
        obtain ⟨hTI, st1, st2, hz⟩ := st
        refine ⟨hk _ _ (Ne.symm dTI) hTI, ⟨st1.1.at fun o e => hk _ o (Ne.symm di1) e, st1.2.at fun o e => hk _ o (Ne.symm dl1) e⟩, ⟨st2.1.at fun o e => hk _ o (Ne.symm di2) e, st2.2.at fun o e => hk _ o (Ne.symm dl2) e⟩, ?_⟩
        rcases hz with ⟨hz, a, b, hTO⟩ | ⟨T, f, oT, hz, hT, r1, r2, r3, r4⟩
        · exact .inl ⟨hk _ _ (Ne.symm dz) hz, a, b, hk _ _ (Ne.symm dTO) hTO⟩
        · exact .inr ⟨T, f, oT, hk _ _ (Ne.symm dz) hz, hk _ _ r4 hT, r1, r2, r3, r4⟩
      item := fun i s₁ Q₁ E₁ hi st hds hQ => by
        obtain ⟨hTI, st1, st2, hz⟩ := st
        have hiy : i < ys.size := by omega
        have lt : ∀ {c o}, s₁.heap.get? c = some o → s₁.heap.objs.size ≠ c := fun e => Nat.ne_of_gt (Heap.lt_size e)
        have m1 : s₁.heap.objs.size ≠ i1 := let ⟨_, e, _⟩ := st1.1; lt e
        have m2 : s₁.heap.objs.size ≠ i2 := let ⟨_, e, _⟩ := st2.1; lt e
        rcases hz with ⟨hz, a, b, hTO⟩ | ⟨T, f, oT, hz, hT, r1, r2, r3, r4⟩
        · refine wpAny_pyNext_zipD2_item (A := A) (i := i) S D1 D2 hz hTI hTO st1 st2 hi hiy fun x1 x2 h' tk e1 e2 a1 a2 a3 a4 a5 a6 hk => ?_
          exact hQ s₁.heap.objs.size _ _ h' tk ⟨e1, e2⟩ (.inl ⟨_, a5, rfl, _, rfl⟩)
            ⟨hk _ _ S.TIz S.TITO S.TIi1 S.TIi2 hTI, a3, a4, .inr ⟨s₁.heap.objs.size, false, _, a1, a5, lt hz, m1, m2, Nat.ne_of_gt hds⟩⟩
            fun c o hc e => hk c o (fun x => hc (by simp [x])) (fun x => hc (by simp [x])) (fun x => hc (by simp [x])) (fun x => hc (by simp [x])) e
        · have hTy : s₁.TypeIs (.ref z) "zip" := ⟨_, hz, rfl⟩
          unfold pyNext
          refine wpAny_bind (wpAny_attempt (wpAny_callSpecial?_slot (name := Str.ofString "__next__") hTy F.slot_zip_next
            (wpAny_call_entry F.slot_zip_next hTy F.entry_zip_next (zipD_held (A := A.in1) (i := i) S D1 D2 hz hT hTI st1 st2 hi hiy fun x1 x2 h' tk e1 e2 a1 a3 a4 a5 a6 hk => wpAny_pure ?_) (F.args_zip_next_1 _))))
          exact hQ s₁.heap.objs.size _ _ h' tk ⟨e1, e2⟩ (.inl ⟨_, a5, rfl, _, rfl⟩)
            ⟨hk _ _ S.TIz S.TIi1 S.TIi2 hTI, a3, a4, .inr ⟨T, true, oT, a1, hk _ _ r1 r2 r3 hT, r1, r2, r3, r4⟩⟩
            fun c o hc e => hk c o (fun x => hc (by simp [x])) (fun x => hc (by simp [x])) (fun x => hc (by simp [x])) e
      done := fun s₁ Q₁ E₁ st hQ => by
        obtain ⟨hTI, st1, st2, hz⟩ := st
        rcases hz with ⟨hz, a, b, hTO⟩ | ⟨T, f, oT, hz, hT, r1, r2, r3, r4⟩
        · exact wpAny_pyNext_zipD2_end (A := A) (i := xs.size) S D1 D2 hz hTI hTO st1 st2 (Nat.le_refl _) (by omega) (.inl rfl) fun h' tk hk => hQ h' tk fun c o hc e => hk c o (fun x => hc (by simp [x])) (fun x => hc (by simp [x])) (fun x => hc (by simp [x])) (fun x => hc (by simp [x])) e
        · have hTy : s₁.TypeIs (.ref z) "zip" := ⟨_, hz, rfl⟩
          unfold pyNext
          refine wpAny_bind (wpAny_attempt (wpAny_callSpecial?_slot (name := Str.ofString "__next__") hTy F.slot_zip_next
            (wpAny_call_entry F.slot_zip_next hTy F.entry_zip_next (zipD_heldEnd (A := A.in1) S D1 hz hT hTI st1 fun h' e hk he => ?_) (F.args_zip_next_1 _))))
          obtain ⟨oe, ho, hc⟩ := he
          refine wpAny_bind (wpAny_isInstance (T := "StopIteration") (b := true) ⟨oe, ho, hc⟩ isSubtype_stop ?_)
          exact wpAny_pure (hQ h' _ fun c o hcm x => hk c o (fun y => hcm (by simp [y])) (fun y => hcm (by simp [y])) x) }
end
def zipK (ns : List Str) (ys : List V) : List (L2.Key × V) := (ns.zip ys).map fun q => (Sum.inr q.1, q.2)
theorem kv_zip : ∀ {ns : List Str} {ys : List V} {us : List Value}, Vals ys us → KV (zipK ns ys) ((ns.zip us).map fun q => ((Sum.inr q.1 : L2.Key), q.2))
  | [], _, _, _ => by
    show KV [] []
    exact .nil
  | n :: ns, [], _, h => by
    cases h
    exact .nil
  | n :: ns, y :: ys, _, h => by
    cases h with
    | cons r t => exact .cons ⟨rfl, r⟩ (kv_zip (ns := ns) t)
theorem zip_ix {ns : List Str} {its us : List Value} (hv : Vals (ns.map V.str) its) {P : Program} {w : World} : ∀ (i : Nat) (key v : Value), its[i]? = some key → us[i]? = some v →
    ∃ k, ((ns.zip us).map fun q => ((Sum.inr q.1 : L2.Key), q.2))[i]? = some (k, v) ∧ (mixKind P w).is k key = true := by
  intro i key v h1 h2
  have hi : i < its.length := (List.getElem?_eq_some_iff.mp h1).1
  have hl := hv.length
  rw [List.length_map] at hl
  have hn : ns[i]? = some ns[i] := List.getElem?_eq_getElem (by omega)
  obtain ⟨u, hu, ru⟩ := hv.get (show (ns.map V.str)[i]? = some (V.str ns[i]) by rw [List.getElem?_map, hn]; rfl)
  rw [h1] at hu
  cases hu
  refine ⟨Sum.inr ns[i], ?_, kV_is (k := Sum.inr ns[i]) ru⟩
  rw [List.getElem?_map, List.getElem?_zip_eq_some (z := (ns[i], v)) |>.mpr ⟨hn, h2⟩]
  rfl
section
variable {X : Cx}
/-- dict(zip(names, tuple)) -/
def tDictZip (K : PySem.W.Frag) (ta : TA) : TE := fun σ H Q => ta σ H fun vs H1 => ∃ (a b : Addr) (ns : List Str) (ys : List V), vs = [.ref a, .ref b] ∧ SqL K H1 a (ns.map V.str) ∧ SqT K H1 b ys ∧ ns.length = ys.length ∧ ∀ p, H1 p = none → Q (.ref p) (upd H1 p (.dK (mergeK [] (zipK ns ys))))
theorem pe_dictZip {e1 e2 : Expr} {ta : TA} {p p2 pos pos2 : Pos} (hc : X.calm = true) (hgd : Gl X "dict") (hmd : X.mg "dict" = none) (hg : Gl X "zip") (hm : X.mg "zip" = none) (ha : PA X [e1, e2] ta)
    (hse : starEach [Expr.Call (.Name "zip" p2) [e1, e2] [] pos2] X.env = (false, eval (Expr.Call (.Name "zip" p2) [e1, e2] [] pos2) X.env) :: starEach [] X.env := by rfl)
    (hs : starEach [e1, e2] X.env = (false, eval e1 X.env) :: starEach [e2] X.env := by rfl) (hpl : (backTo pos2 (starEach [e2] X.env)).any (·.1) = false := by rfl) :
    PE X (.Call (.Name "dict" p) [.Call (.Name "zip" p2) [e1, e2] [] pos2] [] pos) (tDictZip X.K ta) := by
  refine ⟨fun pins s σ H Q I h => ?_⟩
  refine Call_ (ld_blt I hgd hmd boot_dict (PyProof.Rows.callWith_type1 (args_cons ?_ hse) hse))
  refine Call_ (ld_blt I hg hm PyProof.Rows.boot_zip (PyProof.Rows.callWith_type1 (thn (ha.run pos2 pins s σ H _ I h) fun us s1 ⟨vs, H1, I1, r1, q1⟩ => ?_) hs hpl))
  obtain ⟨a, b, ns, ys, ex, hqx, hqy, hlen, q⟩ := q1
  subst ex
  obtain ⟨u1, us1, rfl, ra, r1⟩ : ∃ u1 us1, us = u1 :: us1 ∧ RelV (.ref a) u1 ∧ Vals [.ref b] us1 := by cases r1 with | cons r rr => exact ⟨_, _, rfl, r, rr⟩
  obtain ⟨u2, us2, rfl, rb, r1⟩ : ∃ u2 us2, us1 = u2 :: us2 ∧ RelV (.ref b) u2 ∧ Vals [] us2 := by cases r1 with | cons r rr => exact ⟨_, _, rfl, r, rr⟩
  cases r1
  cases ra
  cases rb
  obtain ⟨its, rv, p1, hzl⟩ := I1.list hqx
  obtain ⟨its2, rv2, p2', _⟩ := I1.tuple hqy
  have la := p1.lt
  have lb : b < s1.heap.objs.size := p2'.lt
  have l1 := rv.length
  have l2 := rv2.length
  rw [List.length_map] at l1
  refine zip_begins2 (begins_list a its.toArray) (begins_tuple b its2.toArray) p1.isList p2' fun h' hz hTI hTO h1 h2 hsz hk => args_nil ?_
  generalize hn : s1.heap.objs.size = n at hz hTI hTO h1 h2 hsz la lb
  have la : a < n := la
  have lb : b < n := lb
  have S : ZipSep2 (n + 4) (n + 2) (n + 3) n (n + 1) [n, a] [n + 1, b] := zipSep2 n a b la lb
  have P := pairLT (prog := X.prog) (w := X.w) (n + 4) (n + 2) (n + 3) n (n + 1) a b S (Nat.ne_of_lt la) (Nat.ne_of_lt (Nat.lt_succ_of_lt lb)) its.toArray its2.toArray (by simp; omega)
  have hp1 : h'.IsList a its.toArray := p1.isList.at fun o e => hk a o e
  have hp2 : h'.IsTuple b its2.toArray := (show s1.heap.IsTuple b its2.toArray from p2').at fun o e => hk b o e
  refine PySem.call_dict_pairs (s := { s1 with heap := h' }) (knd := mixKind X.prog X.w) (kvs := (ns.zip its2).map fun q => ((Sum.inr q.1 : L2.Key), q.2)) P (I.ok.hd hc) ⟨hz, hTI, ⟨_, _, hTO⟩, ⟨⟨_, h1, rfl, rfl⟩, hp1⟩, ⟨_, h2, rfl, rfl⟩, hp2⟩ ⟨?_, fun i key v hr => ?_⟩ (by simp; omega) fun h2' tk hd' hk2 => ?_
  · rw [List.length_map, List.length_zip]
    simp
    omega
  · exact zip_ix rv i key v (by rw [← hr.1]; simp) (by rw [← hr.2]; simp)
  have low : ∀ c o, s1.heap.get? c = some o → h2'.get? c = some o := fun c o e => by
    have hlt : c < n := by rw [← hn]; exact Heap.lt_size e
    refine hk2 c o (fun hm => ?_) (hk c o e)
    have e' : c = n + 4 ∨ c = n + 3 ∨ c = n ∨ c = n + 1 := by simpa using hm
    have : n ≤ c := by rcases e' with z | z | z | z <;> (rw [z]; first | exact Nat.le_refl _ | exact Nat.le_add_right _ _)
    exact absurd hlt (Nat.not_lt.mpr this)
  have hle : s1.heap.objs.size ≤ h'.objs.size := by rw [hn, hsz]; exact Nat.le_add_right _ _
  have hsys : (h'.objs.size == sysModules) = false := beq_eq_false_iff_ne.mpr (Nat.ne_of_gt (Nat.lt_of_lt_of_le I1.big hle))
  have hm : (mergeK [] (zipK ns ys)).length ≤ sizeLine := by
    refine Nat.le_trans (length_mergeK _ []) ?_
    unfold zipK
    rw [List.length_nil, List.length_map, List.length_zip]
    rw [List.length_map] at hzl
    omega
  exact ⟨.ref h'.objs.size, upd H1 h'.objs.size (.dK (mergeK [] (zipK ns ys))), I1.laid (t' := tk) low hle (show ObjOk X.prog X.w _ _ _ (.dK (mergeK [] (zipK ns ys))) from ⟨hm, hsys, _, KV.merge (kv_zip rv2) .nil, hd'⟩), rfl, q _ (I1.hok.fresh hle)⟩
end
end Sk
/-! the end of a law that asks for repr of lists: the promise of `law` is given where no repr is under way -/
namespace Sk
open PySem PySem.Spec PyProof.Rows L2
/-- what a function keeps when it is called with no repr under way -/
def FnG (P : Program) (w : World) (K : PySem.W.Frag) (mg : Str → Option Value) (base : Heap) (k : Nat) (f : Addr) (fd : FuncData) (ps : List Str) (sp : Sp) : Prop :=
  ∀ (A : Around) (outer : List Env) (s : Shared) (H : Hp) (args : Args) (us : List Value) (vs : List V) (Q : VK) (E : XK), A.guards = some [] → Room k A → Env0 P w K mg base A outer s H → BindsTo s fd args (ps.zip us) → Vals vs us → sp vs H Q E →
    codeAny (model P w) A (.call (.ref f) args) (CR CX0 outer P w H s Q E) s
section
variable {P : Program} {w : World} {K : PySem.W.Frag} {mg : Str → Option Value} {base : Heap}
theorem fnG_of {x qual : Str} {params : Arguments} {body : List Stmt} {scope : Scope} {f : Addr} {fd : FuncData} {N ps : List Str} {k : Nat} {sp : Sp} (F : FunD K x qual params body scope [] [] f fd) (S : FnScope N ps scope) (len : ∀ vs H Q E, sp vs H Q E → vs.length = ps.length)
    (hbody : ∀ (cdv : Value) (A : Around) (outer : List Env) (s : Shared) (H : Hp) (vs : List V) (Q : VK) (E : XK), A.guards = some [] → Room k (A.deeper (envOfC qual scope s.heap.objs.size f cdv)) → sp vs H Q E →
      ∃ t, PSs (cxOf CX0 P w K mg base N qual scope f cdv A outer s H E) body t ∧ t { nx := fun _ H' => Q .non H', rt := Q } (L2.start N vs) H) : FnG P w K mg base (k + 1) f fd ps sp := by
  obtain ⟨oc, od, dV, kV, doc, pm, an, cdv, ct, osl, rfl, lk, hcd, _, _⟩ := F.ex
  intro A outer s H args us vs Q E hg hr e0 hb hv hsp
  have up : ∀ b o, base.get? b = some o → s.heap.get? b = some o := fun b o e => (e0.bs b o e).1
  have kin : K.In s.heap := e0.mod.kin.keeps up
  have cells : ∀ q ∈ ps.zip us, scope.names.lookup q.1 = some .local ∨ (scope.names.lookup q.1 = some .cell ∧ ((cellsFrom (s.heap.objs.size + 1) scope.names []).lookup q.1).isSome = true) := by
    rintro ⟨y, v⟩ hq
    exact (S.par y (List.of_mem_zip hq).1).imp id fun z => ⟨z, PySem.W.cellsFrom_some _ _ _ (.inl z)⟩
  refine codeAny_call_function hr.depth (kin _ _ lk) rfl S.co S.gen rfl (PySem.W.codeRec_of kin hcd) (hb _ _ _ _ ?_)
  refine wpAny_newFunctionEnv_cells S.kind cells fun env he s1 x => ?_
  subst he
  obtain ⟨t, ht, hq⟩ := hbody cdv A outer s H vs Q E hg (hr.deeper _) hsp
  have J := inv_start S hr.hd e0 (len _ _ _ _ hsp) hv x (CX := CX0) (E := E)
  refine ⟨(e0.mod.nolimit.keeps up).keeps x.toInCall.keep, codeAny_func (wpAny_mono (ht.run [] s1 (L2.start N vs) H _ J hq) (fun fl s' hs => ?_) fun _ _ hs => hs)⟩
  cases fl with
  | ret u =>
    obtain ⟨v, σ', H', J', rv, q⟩ := hs
    exact ⟨v, H', J'.os, J'.bare, J'.base, J'.hok, rv, q⟩
  | next =>
    obtain ⟨σ', H', J', q⟩ := hs
    exact ⟨V.non, H', J'.os, J'.bare, J'.base, J'.hok, rfl, q⟩
  | brk =>
    obtain ⟨_, _, _, q⟩ := hs
    exact False.elim q
  | cont =>
    obtain ⟨_, _, _, q⟩ := hs
    exact False.elim q
end
/-! ### the start -/
/-- what is tracked when the law is called: the script (if it is not in K), the empty tables -/
def startH (K : PySem.W.Frag) (a : Addr) (o : Obj) (xs : List V) (ts : List Addr) : Hp := fun b => if b = a ∧ K.lookup a = none then some (.frz o (.lst xs)) else if b ∈ ts then some (.tbl #[]) else none
section
variable {P : Program} {w : World} {K : PySem.W.Frag} {mg mb : Str → Option Value} {k : Nat} {fa a : Addr} {cs : List (Addr × Addr)} {fd : FuncData} {x : Str} {sp : Sp} {s₁ : Shared} {vs : List Value} {ns : List Int}
theorem law_callG (KX : K.In s₁.heap) (hns : s₁.heap.Ns mainGlobals mg) (hb : s₁.heap.Ns builtinsNs mb) (hbb : ∀ x : Str, x ≠ "__name__" → mb x = bootBuiltins x) (hlim : s₁.heap.NoLimit) (hg : s₁.gens = #[])
    (hT : ∀ p ∈ cs, s₁.heap.get? p.2 = some { cls := .none, data := .fields #[] }) (nT : ∀ p ∈ cs, K.lookup p.2 = none) (C : ∀ p ∈ cs, PySem.W.CodeHd s₁.heap p.1 p.2)
    (hbm : ∃ (bm : Addr) (ob : Obj), mg "__builtins__" = some (.ref bm) ∧ bm ≠ builtinsNs ∧ s₁.heap.get? bm = some ob ∧ ob.cls = .type "module" ∧ ob.dict = some builtinsNs ∧ ob.data = .plain)
    (ha : s₁.heap.get? a = some { cls := .type "list", data := .seq vs.toArray }) (hi : IntsAre vs ns) (hl : ns.length ≤ sizeLine) (hr : Room k callerA)
    (F : ∀ base : Heap, K.In base → base.Ns mainGlobals mg → (∀ p ∈ cs, LamX.TabB base mg p.1 p.2) → FnG P w K mg base k fa fd [x] sp) (hbind : ∀ (s : Shared) (u : Value), BindsTo s fd ⟨[u], []⟩ [(x, u)])
    (hsp : ∀ H : Hp, (∀ p ∈ cs, H p.2 = some (.tbl #[])) → (∀ b, H b = none ∨ (∃ o xs, H b = some (.frz o (.lst xs))) ∨ H b = some (.tbl #[])) → SqL K H a (ns.map V.int) → sp [.ref a] H (fun v _ => v = .bl true) fun _ _ _ => False) :
    codeAny (model P w) callerA (.call (.ref fa) ⟨[.ref a], []⟩) (fun r s' => r = .ok (.ret (.bool true)) ∧ OldK s₁.heap s'.heap ∧ s'.os = s₁.os ∧ AllBare s'.gens) s₁ := by
  let O : Obj := { cls := .type "list", data := .seq vs.toArray }
  let ts := cs.map (·.2)
  let H := startH K a O (ns.map V.int) ts
  have tab : ∀ b ∈ ts, s₁.heap.get? b = some { cls := .none, data := .fields #[] } := fun b hb => by
    obtain ⟨p, hp, rfl⟩ := List.mem_map.mp hb
    exact hT p hp
  have an : a ∉ ts := fun z => by
    have e := tab a z
    rw [ha] at e
    cases e
  -- what stands at a place
  have look : ∀ b, (b = a ∧ K.lookup a = none ∧ H b = some (.frz O (.lst (ns.map V.int)))) ∨ (b ∈ ts ∧ H b = some (.tbl #[])) ∨ (H b = none ∧ b ∉ ts ∧ (b = a → K.lookup a ≠ none)) := fun b => by
    by_cases h1 : b = a ∧ K.lookup a = none
    · exact .inl ⟨h1.1, h1.2, if_pos h1⟩
    · by_cases h2 : b ∈ ts
      · exact .inr (.inl ⟨h2, (if_neg h1).trans (if_pos h2)⟩)
      · exact .inr (.inr ⟨(if_neg h1).trans (if_neg h2), h2, fun z n => h1 ⟨z, n⟩⟩)
  have ofTab : ∀ p ∈ cs, H p.2 = some (.tbl #[]) := fun p hp => by
    have hm : p.2 ∈ ts := List.mem_map.mpr ⟨p, hp, rfl⟩
    rcases look p.2 with ⟨e, _⟩ | ⟨_, q⟩ | ⟨_, q, _⟩
    · exact absurd (e ▸ hm) an
    · exact q
    · exact absurd hm q
  -- other objects are not tracked
  have free : ∀ {b : Addr} {o : Obj}, s₁.heap.get? b = some o → (∀ us n, o.data ≠ .seq us n) → o.data ≠ .fields #[] → H b = none := fun {b o} e h1 h2 => by
    rcases look b with ⟨z, _⟩ | ⟨z, _⟩ | ⟨q, _⟩
    · rw [z, ha] at e
      cases e
      exact absurd rfl (h1 _ _)
    · rw [tab b z] at e
      cases e
      exact absurd rfl h2
    · exact q
  have nsUp : ∀ {b : Addr} {m : Str → Option Value}, s₁.heap.Ns b m → (hidT s₁.heap H).Ns b m := fun {b m} ⟨o, es, ep, e, d, r⟩ =>
    ⟨o, es, ep, hidT_get e (free e (fun us n z => by rw [d] at z; cases z) fun z => by rw [d] at z; cases z), d, r⟩
  have kUp : K.In (hidT s₁.heap H) := fun b o e => hidT_get (KX b o e) (by
    rcases look b with ⟨z1, z2, _⟩ | ⟨z, _⟩ | ⟨q, _⟩
    · rw [z1, z2] at e
      cases e
    · obtain ⟨p, hp, rfl⟩ := List.mem_map.mp z
      rw [nT p hp] at e
      cases e
    · exact q)
  have md : L2.Mod K mg (hidT s₁.heap H) := ⟨kUp, nsUp hns, ⟨mb, nsUp hb, hbb⟩, let ⟨mc, h1, h2⟩ := hlim; ⟨mc, nsUp h1, h2⟩⟩
  have tb : ∀ p ∈ cs, LamX.TabB (hidT s₁.heap H) mg p.1 p.2 := fun p hp => by
    obtain ⟨og, _, _, eg, dg, _⟩ := hns
    refine ⟨?_, ?_, fun z => ?_⟩
    · obtain ⟨o, us, file, tf, flags, tg, inF, text, tt, e1, r1, r2, r3, rest⟩ := C p hp
      refine ⟨o, us, file, tf, flags, tg, inF, text, tt, hidT_get e1 (free e1 (fun vs n z => by rw [r2] at z; cases z) fun z => ?_), r1, r2, r3, rest⟩
      rw [r2] at z
      cases z
      simp at r3
    · obtain ⟨bm, ob, b1, b2, b3, b4, b5, b6⟩ := hbm
      refine ⟨bm, ob, b1, b2, fun q => ?_, fun q => ?_, hidT_get b3 (free b3 (fun us n z => by rw [b6] at z; cases z) fun z => by rw [b6] at z; cases z), b4, b5, b6⟩
      · rw [q, eg] at b3
        cases b3
        rw [dg] at b6
        cases b6
      · rw [q, hT p hp] at b3
        cases b3
        cases b6
    · rw [z, hT p hp] at eg
      cases eg
      cases dg
  have hok : HOk P w H s₁.heap := fun b u e => by
    rcases look b with ⟨z1, _, q⟩ | ⟨z, q⟩ | ⟨q, _⟩
    · rw [q] at e
      cases e
      rw [z1]
      exact ⟨ha, by rw [List.length_map]; exact hl, vs, _, vals_ints hi, ha⟩
    · rw [q] at e
      cases e
      exact tab b z
    · rw [q] at e
      cases e
  have hS : SqL K H a (ns.map V.int) := by
    cases hk : K.lookup a with
    | none => exact .inl (.inr ⟨O, if_pos ⟨rfl, hk⟩⟩)
    | some o =>
      have e := KX a o hk
      rw [ha] at e
      cases e
      exact .inr ⟨_, vs.toArray, _, hk, rfl, rfl, rfl, by rw [List.size_toArray, hi.length]; exact hl, by simpa using vals_ints hi⟩
  have e0 : Env0 P w K mg (hidT s₁.heap H) callerA [] s₁ H := ⟨rfl, md, fun b o e => of_hidT e, Nat.le_of_eq (hidT_size _ _), trivial, fun b hb => absurd (show b ∈ ([] : List Addr) from hb) (by simp), hok, .of_eq hg⟩
  have st : ∀ b, H b = none ∨ (∃ o xs, H b = some (.frz o (.lst xs))) ∨ H b = some (.tbl #[]) := fun b => by
    rcases look b with ⟨_, _, q⟩ | ⟨_, q⟩ | ⟨q, _⟩
    · exact .inr (.inl ⟨_, _, q⟩)
    · exact .inr (.inr q)
    · exact .inl q
  refine codeAny_mono (F _ kUp (nsUp hns) tb callerA [] s₁ H ⟨[.ref a], []⟩ [.ref a] [.ref a] _ _ rfl hr e0 (hbind s₁ (.ref a)) (.cons rfl .nil) (hsp H ofTab st hS)) fun r s' h => ?_
  match r, h with
  | .error e, h => exact False.elim h
  | .ok .next, h => exact False.elim h
  | .ok .brk, h => exact False.elim h
  | .ok .cont, h => exact False.elim h
  | .ok (.ret u), h =>
    obtain ⟨v, H', os, bare, un, hok', r', q⟩ := h
    obtain rfl : v = .bl true := q
    obtain rfl : u = Value.bool true := r'
    -- what became of each object
    have now : ∀ b o, s₁.heap.get? b = some o → (b ∉ ts ∧ s'.heap.get? b = some o) ∨ ∃ more : Array Value, b ∈ ts ∧ s'.heap.get? b = some { cls := .none, data := .fields more } := fun b o e => by
      rcases look b with ⟨z, _, q⟩ | ⟨z, q⟩ | ⟨q, z, _⟩
      · obtain ⟨e2, _⟩ := hok' b _ (un.frzs b O _ q)
        rw [z, ha] at e
        cases e
        exact .inl ⟨z ▸ an, e2⟩
      · obtain ⟨more, z2⟩ := un.tbls b #[] q
        exact .inr ⟨_, z, hok' b _ z2⟩
      · exact .inl ⟨z, un.keep b o e q (by intro y; exact absurd (show b ∈ ([] : List Addr) from y) (by simp)) (by simp)⟩
    refine ⟨rfl, ⟨fun b o e => ?_, fun b o e => ?_⟩, os, bare⟩
    · rcases now b o e with ⟨_, y⟩ | ⟨more, z, y⟩
      · exact .inl y
      · obtain ⟨p, hp, rfl⟩ := List.mem_map.mp z
        rw [hT p hp] at e
        cases e
        exact .inr (.inl ⟨((C p hp).tab (hT p hp)).isCodeTable, rfl, #[], more, rfl, by rw [Array.empty_append]; exact y⟩)
    · rcases now b o e with ⟨_, y⟩ | ⟨more, _, y⟩
      · exact ⟨o, y⟩
      · exact ⟨_, y⟩
end
/-! ### the law -/
/-- what is known of the law's promise at the head's heap h -/
def LawG (l : PySem.W.OpenLaw) (w : World) (K : PySem.W.Frag) (k n : Nat) (x : Str) (mg : Str → Option Value) (fa : Addr) (h : Heap) : Prop :=
  ∃ (fd : FuncData) (cs : List (Addr × Addr)) (sp : Sp), (∀ p ∈ cs, h.get? p.2 = some { cls := .none, data := .fields #[] }) ∧ (∀ p ∈ cs, K.lookup p.2 = none) ∧ (∀ p ∈ cs, PySem.W.CodeHd h p.1 p.2) ∧ (∀ (s : Shared) (u : Value), BindsTo s fd ⟨[u], []⟩ [(x, u)]) ∧
    (∀ (H : Hp) (a : Addr) (ns : List Int), ns.length ≤ n → (∀ z ∈ ns, Builtin.Int.intBits z ≤ 1048576) → (∀ p ∈ cs, H p.2 = some (.tbl #[])) → (∀ b, H b = none ∨ (∃ o xs, H b = some (.frz o (.lst xs))) ∨ H b = some (.tbl #[])) → SqL K H a (ns.map V.int) → sp [.ref a] H (fun v _ => v = .bl true) fun _ _ _ => False) ∧
    ∀ base : Heap, K.In base → base.Ns mainGlobals mg → (∀ p ∈ cs, LamX.TabB base mg p.1 p.2) → FnG l.prog w K mg base k fa fd [x] sp
theorem walk_ofG {l : PySem.W.OpenLaw} {n k : Nat} {q : Program} {loose : List Str} {XP : (Str → Option Value) → Heap → Prop} {YP : World → Heap → Prop} {d : DefRec} {x : Str}
    (hn : l.most = some n) (hn2 : n ≤ sizeLine) (hdf : d.params.defaults = []) (hr : Room k callerA)
    (F : ∀ (w : World) (mg : Str → Option Value) (fa : Addr) (h : Heap), YP w h → h.Ns mainGlobals mg → mg d.name = some (.ref fa) → ∃ K : PySem.W.Frag, K.In h ∧ LawG l w K k n x mg fa h) :
    PySem.W.WalkO q loose XP YP l.row.toRowW d [] (fun f vs => PySem.call f vs) := by
  refine Att.attach_callB hn hdf fun w s₀ s₁ mg mb fa o pm cd doc a vs ns G Y ho hd hcd hmg hobj hints hlen hbits hg => ?_
  obtain ⟨K, KX, fd, cs, sp, hT, nT, C, hb, hsp, hF⟩ := F w mg fa _ Y G.T.g hmg
  exact law_callG KX G.T.g G.T.b G.T.builtins G.T.nolimit hg hT nT C G.T.bmain hobj hints (Nat.le_trans hlen hn2) hr hF hb (fun H hH hst hS => hsp H a ns hlen hbits hH hst hS)
/-! ### from the head's facts -/
theorem lam_code {K : PySem.W.Frag} {x qual : Str} {params : Arguments} {body : List Stmt} {scope : Scope} {dvs : List V} {kws : List (Str × V)} {p : Str × Option Str} {fd : FuncData} (F : FunD K x qual params body scope dvs kws (He.fAd K p) fd) :
    ∀ (fd2 : FuncData) (oc : Value) (od : Option Addr) (osl : Array (Option Value)), K.lookup (He.fAd K p) = some ⟨oc, od, .func fd2, osl⟩ → fd2.code = .ref (He.codeOf K p) := by
  obtain ⟨oc, od, dV, kV, doc, pm, an, cdv, ct, osl, rfl, lk, hcd, _, _⟩ := F.ex
  obtain ⟨c, rfl⟩ := He.codeIn_ref hcd
  intro fd2 oc2 od2 osl2 lk2
  rw [lk] at lk2
  cases lk2
  rw [He.codeOf_eq lk rfl]
theorem tabs_start {H : Hp} {T : List (Addr × Str)} (h : ∀ p ∈ T, H p.1 = some (.tbl #[])) : LamX.Tabs T H := fun p hp => ⟨#[], h p hp, trivial, fun _ _ e => by cases e⟩
theorem Vals.getD {vs : List V} {us : List Value} (r : Vals vs us) (i : Nat) : RelV (vs.getD i .non) (us.getD i .none) := by
  cases h : vs[i]? with
  | none =>
    have h2 : us[i]? = none := by
      rw [List.getElem?_eq_none_iff] at h ⊢
      rw [← r.length]
      exact h
    rw [List.getD_eq_getElem?_getD, List.getD_eq_getElem?_getD, h, h2]
    rfl
  | some v =>
    obtain ⟨u, hu, ru⟩ := r.get h
    rw [List.getD_eq_getElem?_getD, List.getD_eq_getElem?_getD, h, hu]
    exact ru
/-- keywords, no defaults -/
theorem kbn_of {K : PySem.W.Frag} {x qual : Str} {params : Arguments} {body : List Stmt} {scope : Scope} {f : Addr} {fd : FuncData} {ps ks : List Str} {n : Nat} {g : List Value → List Value → List Value} {gV : List V → List V → List V} (F : FunD K x qual params body scope [] [] f fd)
    (h : ∀ (kV doc pm : Value) (an : Option Addr) (cdv ct : Value) (us ws : List Value), us.length = n → ws.length = ks.length → bindArgs (PySem.W.fnOf x qual params body scope .none kV doc pm an cdv ct) ⟨us, ks.zip ws⟩ = pure (ps.zip (g us ws)))
    (rel : ∀ {vs : List V} {us : List Value} {zs : List V} {ws : List Value}, Vals vs us → Vals zs ws → Vals (gV vs zs) (g us ws)) : KBn K fd ps n ks g gV := by
  obtain ⟨oc, od, dV, kV, doc, pm, an, cdv, ct, osl, rfl, lk, hcd, hD, hK⟩ := F.ex
  rcases hD with ⟨_, rfl⟩ | ⟨e, _⟩
  · exact ⟨fun s us ws _ l1 l2 => .of_eq (h kV doc pm an cdv ct us ws l1 l2), rel⟩
  · exact absurd rfl e
/-- the same for a def with defaults: each parameter is given -/
theorem kbn_ofD {K : PySem.W.Frag} {x qual : Str} {params : Arguments} {body : List Stmt} {scope : Scope} {dvs : List V} {f : Addr} {fd : FuncData} {ps ks : List Str} {n : Nat} {g : List Value → List Value → List Value} {gV : List V → List V → List V} (F : FunD K x qual params body scope dvs [] f fd) (hd : dvs ≠ [])
    (h : ∀ (T : Addr) (kV doc pm : Value) (an : Option Addr) (cdv ct : Value) (us its ws : List Value), us.length = n → its.length = dvs.length → ws.length = ks.length →
      ∃ k, bindArgs (PySem.W.fnOf x qual params body scope (.ref T) kV doc pm an cdv ct) ⟨us, ks.zip ws⟩ = seqItems? (.ref T) >>= k ∧ k (some its.toArray) = pure (ps.zip (g us ws)))
    (rel : ∀ {vs : List V} {us : List Value} {zs : List V} {ws : List Value}, Vals vs us → Vals zs ws → Vals (gV vs zs) (g us ws)) : KBn K fd ps n ks g gV := by
  obtain ⟨oc, od, dV, kV, doc, pm, an, cdv, ct, osl, rfl, lk, hcd, hD, hK⟩ := F.ex
  rcases hD with ⟨e, _⟩ | ⟨_, T, o, its, m, rfl, lT, oT, rT⟩
  · exact absurd e hd
  · refine ⟨fun s us ws X l1 l2 => ?_, rel⟩
    obtain ⟨k, e1, e2⟩ := h T kV doc pm an cdv ct us its ws l1 rT.length.symm l2
    refine BindsTo.of_looks fun M => ?_
    rw [e1]
    exact looks_items X lT oT (.of_pure e2)
end Sk
/-! a call of an own function whose promise holds where no repr is under way -/
namespace Sk
open PySem PySem.Spec PyProof.Rows L2
structure FnGx (P : Program) (w : World) (K : PySem.W.Frag) (mg : Str → Option Value) (base : Heap) (x : Str) (k : Nat) (ps : List Str) (sp : Sp) : Prop where
  ex : ∃ (f : Addr) (fd : FuncData), FnG P w K mg base k f fd ps sp ∧ (∀ vs H Q E, sp vs H Q E → vs.length = ps.length) ∧ mg x = some (.ref f) ∧ PySem.W.keepIn K (.ref f) = true ∧ Binds K fd ps []
section
variable {X : Cx} {x : Str} {k : Nat} {ps : List Str} {sp : Sp} {e : Expr} {es : List Expr} {t : TA} {p pos : Pos}
theorem pe_fnG (F : FnGx X.prog X.w X.K X.mg X.base x k ps sp) (hgd : X.A.guards = some []) (hr : Room k X.A) (ha : PA X (e :: es) t) (hg : Gl X x := by rfl) (hdb : (x == ("__debug__" : Str)) = false := by decide)
    (he : starEach (e :: es) X.env = (false, eval e X.env) :: starEach es X.env := by rfl) (hpl : (backTo pos (starEach es X.env)).any (·.1) = false := by rfl) : PE X (.Call (.Name x p) (e :: es) [] pos) (tCall sp [] E0 t) := by
  obtain ⟨f, fd, F1, hlen, hm, hk, hb⟩ := F.ex
  refine ⟨fun pins s σ H Q I h => ?_⟩
  refine wpAny_Call_Name_kw (ld_glob I hg hm ?_ hdb)
  refine PySem.W.callWith_K (h₀ := X.base) I.ok.mod.kin hk (thn (ha.run pos pins s σ H _ I h) fun us s1 ⟨vs, H1, I1, r, q⟩ => ⟨I1.kIn, ?_⟩) he hpl
  have r2 : Vals (vs ++ []) (us ++ []) := r.append .nil
  have hl : (us ++ []).length = ps.length := by rw [← r2.length]; exact hlen _ _ _ _ q
  refine wpAny_call (codeAny_mono (F1 X.A X.stack s1 H1 ⟨us, []⟩ (us ++ []) (vs ++ []) Q E0 hgd hr I1.env0 (hb s1 us I1.kIn hl) r2 q) fun r s' hq => ?_)
  cases r with
  | error e => exact (pass0 : Passes CX0 X E0) pins σ H1 s1 e s' I1 hq
  | ok fl =>
    cases fl with
    | ret u => exact I1.after hq
    | next => exact False.elim hq
    | brk => exact False.elim hq
    | cont => exact False.elim hq
end
end Sk
/-! d[k] as a part of a target -/
namespace Sk
open PySem PySem.Spec PyProof.Rows L2
def sSetD : TSet := fun o i v H Q => ∃ a H4, o = .ref a ∧ DPut H a i v H4 ∧ Q H4
theorem set_dict {X : Cx} (hu : X.A.units + 1 < cLine) : PSet X sSetD := by
  intro pins s σ H o i v ov iv u Q I ro ri rv h
  obtain ⟨a, H4, rfl, g, q⟩ := h
  obtain rfl : ov = Value.ref a := ro
  exact d_setItem hu I g ri rv fun s4 I4 => ⟨H4, I4, q⟩
/-! ### how often a truth value stands in a list -/
def isB (k : Bool) : Value → Bool
  | .bool b => b == k
  | _ => false
theorem bools_of : ∀ {bs : List Bool} {its : List Value}, Vals (bs.map V.bl) its → its = bs.map Value.bool
  | [], _, .nil => rfl
  | b :: bs, _, .cons h t => by
    rw [List.map_cons, ← bools_of t]
    congr 1
theorem isB_count (k : Bool) : ∀ bs : List Bool, (bs.map Value.bool).countP (isB k) = bs.count k
  | [] => rfl
  | b :: bs => by
    rw [List.map_cons, List.countP_cons, List.count_cons, isB_count k bs]
    rfl
def rCntB (K : PySem.W.Frag) : V → List V → Hp → VK → Prop := fun x xs H Q => ∃ (p : Addr) (bs : List Bool) (k : Bool), x = .ref p ∧ xs = [.bl k] ∧ SqL K H p (bs.map V.bl) ∧ Q (.int (bs.count k : Nat)) H
theorem mt_cntB {X : Cx} : MtR X "list.count" (rCntB X.K) := by
  intro pins s σ H x xs v us Q I rx rxs h
  obtain ⟨p, bs, k, rfl, rfl, hs, q⟩ := h
  cases rx
  obtain ⟨u, rfl, ru⟩ := rxs.one
  cases (show u = Value.bool k from ru)
  obtain ⟨its, rv, ⟨⟨cls, dd, data, sl⟩, n, ho, hc, hdn, hd⟩, hlen⟩ := I.list hs
  simp only at hc hd
  subst hc hd
  have hi := bools_of rv
  subst hi
  refine call_meets PySem.F.slot_list_count ⟨_, ho, rfl⟩ PySem.F.entry_list_count (PySem.F.args_list_count_2 _ _)
    (SeqAt.list_countAt p (bs.map Value.bool).toArray n dd sl (.bool k) (isB k)) ⟨ho, fun y hy => ?_, ?_⟩
  · have hy : y ∈ bs.map Value.bool := by simpa using hy
    obtain ⟨b, _, rfl⟩ := List.mem_map.mp hy
    exact SeqAt.EqAt.bool_bool b k
  have ec : (bs.map Value.bool).toArray.toList.countP (isB k) = bs.count k := isB_count k bs
  refine ⟨.int (bs.count k : Nat), H, I.tok _, ⟨s.toks, ?_⟩, q⟩
  show Value.int ((((bs.map Value.bool).toArray.toList.countP (isB k) : Nat)) : Int) s.toks = Value.int ((bs.count k : Nat) : Int) s.toks
  rw [ec]
end Sk
/-! own exceptions over an own base class: made, raised, caught, held -/
namespace Sk
open PySem PySem.Spec PyProof.Rows L2
/-! ### what K says of such a class -/
structure XcB (K : PySem.W.Frag) (C : Addr) : Prop where
  ox : OexC K C
  xf : XfC K C
  ha : PySem.W.findIn K (.ref C) "__class__" = some (some (.builtin "object.__class__"))
  hn : PySem.W.specialIn K (.builtin "object.__class__") "__get__" = some (some (.builtin "getset_descriptor.__get__"))
  ht : PySem.W.takesIn K (.builtin "object.__class__") = some true
  hm : PySem.W.mroIn K C (.type "object") = some true
  nv : PySem.W.findIn K (.ref C) "value" = some none
  fi : PySem.W.findIn K (.ref C) "__init__" = some (some (.ref (He.ma K C "__init__")))
  ti : PySem.W.typeIn K (.ref (He.ma K C "__init__")) = some (.type "function")
def xcObj (K : PySem.W.Frag) (C : Addr) : Bool :=
  match K.lookup C with
  | some ⟨.type t, _, .cls cd, sl⟩ =>
    (match cd.mro, sl.toList with
    | .ref C2 :: tl, [_, _, _, _, some (.builtin nw), _] => decide (t = "type") && (decide (C2 = C) && (decide (nw = "ValueError.__new__") && (!cd.hasDel && (cd.hasDict && PySem.HandSPX.refsVE tl))))
    | _, _ => false)
  | _ => false
theorem xcObj_ok {K : PySem.W.Frag} {C : Addr} (z : xcObj K C = true) : ∃ nm q N bs bm sn sub ab col dd k0 k1 k2 k3 k5, K.lookup C = some (excClassObj nm q C N bs bm true sn sub ab col dd k0 k1 k2 k3 k5 "ValueError.__new__") ∧ PySem.HandSPX.refsVE bm = true := by
  unfold xcObj at z
  split at z
  · rename_i t dd cd sl ho
    split at z
    · rename_i C2 tl k0 k1 k2 k3 nw k5 em es
      simp only [Bool.and_eq_true, decide_eq_true_eq, Bool.not_eq_true'] at z
      obtain ⟨e0, e1, e2, e3, e4, e5⟩ := z
      obtain ⟨l⟩ := sl
      have es' : l = [k0, k1, k2, k3, some (.builtin nw), k5] := es
      obtain ⟨nm, bs, mro, ns, qn, hd, sn, sub, ab, col, del⟩ := cd
      have em' : mro = .ref C2 :: tl := em
      have e3' : del = false := e3
      have e4' : hd = true := e4
      subst es' em' e3' e4' e0 e1 e2
      exact ⟨nm, qn, ns, bs, tl, sn, sub, ab, col, dd, k0, k1, k2, k3, k5, ho, e5⟩
    · cases z
  · cases z
def xcB (K : PySem.W.Frag) (C : Addr) : Bool :=
  xcObj K C && (decide (PySem.W.findIn K (.ref C) "__setattr__" = some (some (.builtin "object.__setattr__"))) && (decide (PySem.W.typeIn K (.ref C) = some (.type "type")) && (PySem.W.keepIn K (.ref C) && (xfB K C &&
  (decide (PySem.W.findIn K (.ref C) "__class__" = some (some (.builtin "object.__class__"))) && (decide (PySem.W.specialIn K (.builtin "object.__class__") "__get__" = some (some (.builtin "getset_descriptor.__get__"))) &&
  (decide (PySem.W.takesIn K (.builtin "object.__class__") = some true) && (decide (PySem.W.mroIn K C (.type "object") = some true) && (decide (PySem.W.findIn K (.ref C) "value" = some none) &&
  (decide (PySem.W.findIn K (.ref C) "__init__" = some (some (.ref (He.ma K C "__init__")))) && decide (PySem.W.typeIn K (.ref (He.ma K C "__init__")) = some (.type "function"))))))))))))
theorem xcB_ok {K : PySem.W.Frag} {C : Addr} (z : xcB K C = true) : XcB K C := by
  unfold xcB at z
  simp only [Bool.and_eq_true, decide_eq_true_eq] at z
  obtain ⟨z1, z2, z3, z4, z5, z6, z7, z8, z9, z10, z11, z12⟩ := z
  have xf := xfB_ok z5
  exact ⟨⟨xcObj_ok z1, z2, xf.exC, z3, z4⟩, xf, z6, z7, z8, z9, z10, z11, z12⟩
/-- the base class: its __init__ is ValueError's -/
structure SbB (K : PySem.W.Frag) (B : Addr) : Prop where
  rd : ClX.CRead K B (.type "type")
  at_ : PySem.W.findCls K (.ref B) (.type "type") "__init__" = some (.val (.builtin "ValueError.__init__"))
def sbB (K : PySem.W.Frag) (B : Addr) : Bool :=
  PySem.W.readsIn K B (.type "type") && (decide (PySem.W.specialIn K (.ref B) "__getattribute__" = some (some (.builtin "type.__getattribute__"))) && (match PySem.W.findCls K (.ref B) (.type "type") "__init__" with
  | some (.val (.builtin n)) => decide (n = "ValueError.__init__")
  | _ => false))
theorem sbB_ok {K : PySem.W.Frag} {B : Addr} (z : sbB K B = true) : SbB K B := by
  unfold sbB at z
  simp only [Bool.and_eq_true, decide_eq_true_eq] at z
  obtain ⟨z1, z2, z3⟩ := z
  refine ⟨⟨z1, z2⟩, ?_⟩
  split at z3
  · rename_i n e
    rw [e, of_decide_eq_true z3]
  · cases z3
/-- what isinstance asks of such a class -/
structure XfC' (K : PySem.W.Frag) (D : Addr) : Prop where
  hg : PySem.W.findIn K (.ref D) "__getattribute__" = some (some (.builtin "BaseException.__getattribute__"))
  hk : PySem.W.findIn K (.ref D) "__getattr__" = some none
  hs : PySem.W.subIn K (.ref D) (.type "BaseException") = some true
  hd : PySem.W.hasDictIn K D = true
  ha : PySem.W.findIn K (.ref D) "__class__" = some (some (.builtin "object.__class__"))
  hn : PySem.W.specialIn K (.builtin "object.__class__") "__get__" = some (some (.builtin "getset_descriptor.__get__"))
  ht : PySem.W.takesIn K (.builtin "object.__class__") = some true
  hm : PySem.W.mroIn K D (.type "object") = some true
theorem XcB.is {K : PySem.W.Frag} {C : Addr} (b : XcB K C) : XfC' K C := ⟨b.xf.ga, b.xf.gg, b.xf.exC, b.xf.hdC, b.ha, b.hn, b.ht, b.hm⟩
/-! ### B.__init__(self, ..) -/
section
variable {X : Cx} {b : Str} {B : Addr} {e : Expr} {es : List Expr} {ta : TA} {p1 p2 pos : Pos}
theorem pe_obinit {pl : Sem Bool} (S : SbB X.K B) (hm : X.mg b = some (.ref B)) (ha : PA X (e :: es) ta) (hg : Gl X b := by rfl) (hdb : (b == ("__debug__" : Str)) = false := by decide)
    (hc : eval (.Call (.Attribute (.Name b p1) "__init__" p2) (e :: es) [] pos) X.env = (do
      let ov ← eval (.Name b p1) X.env
      standAt p2.atName
      let (f, first) ← holding [ov] (getMethod ov "__init__" pl)
      callWith pos f first (backTo pos (starEach (e :: es) X.env)) (backToKw pos (keywordEach [] X.env))) := by rfl)
    (he : starEach (e :: es) X.env = (false, eval e X.env) :: starEach es X.env := by rfl) (hpl : (backTo pos (starEach es X.env)).any (·.1) = false := by rfl) :
    PE X (.Call (.Attribute (.Name b p1) "__init__" p2) (e :: es) [] pos) (tVeI X.K ta) := by
  refine ⟨fun pins s σ H Q I h => ?_⟩
  refine PySem.W.methodCall_KW (ld_glob I hg hm ?_ hdb) hc
  refine PySem.W.method_cls I.kIn S.rd.ga (PySem.W.cls_value I.kIn S.rd.rd S.at_ (by decide +kernel) ?_)
  show wpAny _ _ (callWith pos (Value.builtin "ValueError.__init__") [] (backTo pos (starEach (e :: es) X.env)) []) _ _ _
  refine PyProof.Rows.callWith_method1 (thn (ha.run pos pins _ σ H _ (I.tok _) h) fun us s1 hh => ?_) he hpl
  obtain ⟨vs, H1, I1, r1, a, C, ws, ev, hl, T, ea, q⟩ := hh
  subst ev
  cases r1 with
  | @cons _ u0 _ ur ra rw' =>
    obtain rfl : u0 = Value.ref a := ra
    refine oinit_ok T I1 ea ?_ fun s' J => ⟨.non, H1, J, rfl, q⟩
    rw [← Paired.length rw', sizeLine_eq]
    omega
end
/-! ### X(v) -/
/-- what X.__init__ keeps -/
def xinit (C : Addr) : Sp := fun vs H Q _ => ∃ (a : Addr) (v : V), vs = [.ref a, v] ∧ H a = some (exo a C none) ∧ ∀ d, H d = none → d ≠ a → Q .non (upd (upd H d (exd d [("value", v)])) a (exo a C (some d)))
def xkV (vs zs : List V) : List V := [vs.getD 0 .non, zs.getD 0 .non]
/-- an own exception class of the program -/
structure Xc (P : Program) (w : World) (K : PySem.W.Frag) (mg : Str → Option Value) (base : Heap) (x : Str) : Prop where
  b : XcB K (He.ga K x)
  hm : mg x = some (.ref (He.ga K x))
  fn : ∃ (fd : FuncData) (g : List Value → List Value → List Value), FnOk P w K mg base CX0 1 (He.ma K (He.ga K x) "__init__") fd ["self", "value"] (xinit (He.ga K x)) ∧ Binds K fd ["self", "value"] [] ∧ KBn K fd ["self", "value"] 1 ["value"] g xkV
theorem xr_of {H : Hp} {a C : Addr} {v : V} {Q : XK} (n : H a = none) (k : ∀ d, H d = none → Q (.ref C) (some d) (upd H d (.xd [("value", v)]))) :
    xinit C [.ref a, v] (upd H a (exo a C none)) (fun u H2 => u = .non ∧ ∃ (d : Addr) (fs : List (Str × V)), H2 a = some (exo a C (some d)) ∧ H2 d = some (exd d fs) ∧ H d = none ∧ Q (.ref C) (some d) (upd (L2.del H2 a) d (.xd fs))) E0 := by
  refine ⟨a, v, rfl, upd_same, fun d hd nd => ⟨rfl, d, [("value", v)], upd_same, ?_, ?_, ?_⟩⟩
  · rw [upd_ne nd, upd_same]
  · rwa [upd_ne nd] at hd
  · have hd' : H d = none := by rwa [upd_ne nd] at hd
    have e : upd (L2.del (upd (upd (upd H a (exo a C none)) d (exd d [("value", v)])) a (exo a C (some d))) a) d (.xd [("value", v)]) = upd H d (.xd [("value", v)]) := by
      funext y
      by_cases y1 : y = d
      · rw [y1, upd_same, upd_same]
      · rw [upd_ne y1, upd_ne y1]
        by_cases y2 : y = a
        · rw [y2, L2.del_same, n]
        · rw [L2.del_ne y2, upd_ne y2, upd_ne y1, upd_ne y2]
    rw [e]
    exact k d hd'
/-- X(v): the reading -/
def tXc (K : PySem.W.Frag) (x : Str) (t : TA) : L2.St → Hp → XK → Prop := fun σ H Q => t σ H fun vs H1 => ∃ v, vs = [v] ∧ ∀ d, H1 d = none → Q (.ref (He.ga K x)) (some d) (upd H1 d (.xd [("value", v)]))
section
variable {X : Cx} {x : Str} {e : Expr} {es : List Expr} {kws : List Keyword} {t : TA} {p pos : Pos}
/-- the class is called: us the positional values, kw the keywords -/
theorem run_xc {pins : List (Addr × Obj)} {σ : L2.St} {H1 : Hp} {s : Shared} {Q : XK} {us : List Value} {v : V} {u : Value} (G : Xc X.prog X.w X.K X.mg X.base x) (hr : Room 2 X.A) (I1 : Inv X pins σ H1 s) (r : RelV v u)
    (q1 : ∀ d, H1 d = none → Q (.ref (He.ga X.K x)) (some d) (upd H1 d (.xd [("value", v)]))) : wpAny (model X.prog X.w) X.A (call (.ref (He.ga X.K x)) [u]) (fun u s' => L2N.MkP X pins σ Q u s' ∧ L2H.Six u s') X.xe s := by
  obtain ⟨fd, gk, F1, hb, _⟩ := G.fn
  obtain ⟨nm, q, N, bs, bm, sn, sub, ab, col, dd, k0, k1, k2, k3, k5, hC, hbm⟩ := G.b.ox.cls
  obtain ⟨hp, g, dr, tk, os⟩ := s
  let a : Addr := hp.objs.size + 1
  have hsz : hp.objs.size ≤ a := Nat.le_succ _
  have hn : H1 a = none := I1.hok.fresh hsz
  have kk : ∀ b o, hp.get? b = some o → ((hp.push (PySem.W.kdv_tup [u])).push (PySem.HandSPX.excO (He.ga X.K x) hp.objs.size)).get? b = some o := fun b o z => Heap.get?_push_of_some _ (Heap.get?_push_of_some _ z)
  have hget : ((hp.push (PySem.W.kdv_tup [u])).push (PySem.HandSPX.excO (He.ga X.K x) hp.objs.size)).get? a = some (PySem.HandSPX.excO (He.ga X.K x) hp.objs.size) := by
    show ((hp.push (PySem.W.kdv_tup [u])).push (PySem.HandSPX.excO (He.ga X.K x) hp.objs.size)).get? (hp.objs.size + 1) = _
    heap_get
  have I2 := I1.laid (t' := tk) (a := a) (o := exo a (He.ga X.K x) none) (h' := (hp.push (PySem.W.kdv_tup [u])).push (PySem.HandSPX.excO (He.ga X.K x) hp.objs.size)) kk hsz (exo_ok hget)
  have r2 : Vals [V.ref a, v] [Value.ref a, u] := .cons rfl (.cons r .nil)
  have hq := xr_of (C := He.ga X.K x) hn q1
  refine wpAny_call (PySem.HandSPX.call_own F.excBase_ValueError (fun Y => PySem.HandSPX.refsVE_contains Y bm hbm) (I1.kIn _ _ hC) (PySem.W.looks_findIn I1.kIn G.b.fi) (fun self => PySem.W.bind_fn I1.kIn self G.b.ti) (by show 1 ≤ sizeLine; decide)
    (codeAny_mono (F1.run _ X.stack _ _ ⟨[Value.ref a, u], []⟩ [Value.ref a, u] _ _ E0 (hr.make (He.ga X.K x) [u] []) (I2.env0.make (He.ga X.K x) [u] []) (by
      have := hb _ [Value.ref a, u] I2.kIn rfl
      simpa using this) r2 hq) fun r s' hq' => ?_))
  cases r with
  | error er => exact (pass0 : Passes CX0 X E0) pins σ _ _ er s' I2 hq'
  | ok fl =>
    cases fl with
    | ret u =>
      obtain ⟨v, H2, os2, bare2, un2, hok2, rv, ev, d, fs, ea, ed, hd1, q2⟩ := hq'
      subst ev
      obtain ⟨h2, g2, d2, t2, os'⟩ := s'
      obtain ⟨t0, Gh, J, kG, ge, hoe, na⟩ := mk_end0 (d2 := d2) (t2 := t2) I1 hsz kk un2 hok2 os2 bare2 ea ed hd1
      refine ⟨rv, ⟨hp.objs.size + 1, _, _, ⟨Gh, g2, d2, t2, os'⟩, _, .ref (He.ga X.K x), some d, rfl, J, kG, ge, hoe, ⟨rfl, rfl, fun vs hv => ?_⟩, rfl, rfl, na, rfl, bare2, raises_own G.b.ox.exC G.b.ox.tyC, q2⟩, fun a oe vs ea2 hg2 hd2 => ?_⟩
      · cases hv
        rfl
      · cases ea2
        have hg3 : h2.get? (hp.objs.size + 1) = some oe := hg2
        rw [hoe] at hg3
        cases hg3
        cases hd2
        show (4 : Nat) < 6
        decide
    | next => exact False.elim hq'
    | brk => exact False.elim hq'
    | cont => exact False.elim hq'
theorem pmk5_xc (G : Xc X.prog X.w X.K X.mg X.base x) (hr : Room 2 X.A) (ha : PA X [e] t) (hg : Gl X x := by rfl) (hdb : (x == ("__debug__" : Str)) = false := by decide)
    (he : starEach [e] X.env = (false, eval e X.env) :: starEach [] X.env := by rfl) (hpl : (backTo pos (starEach [] X.env)).any (·.1) = false := by rfl) : L2H.PMk5 X (.Call (.Name x p) [e] [] pos) (tXc X.K x t) := by
  intro pins s σ H Q I h
  refine wpAny_Call_Name_kw (ld_glob I hg G.hm ?_ hdb)
  refine PySem.W.callWith_K (h₀ := X.base) I.ok.mod.kin G.b.ox.kC (thn (ha.run pos pins s σ H _ I h) fun us s1 hh => ?_) he hpl
  obtain ⟨vs, H1, I1, r1, v, rfl, q1⟩ := hh
  obtain ⟨u, rfl, ru⟩ : ∃ u, us = [u] ∧ RelV v u := by
    cases r1 with
    | cons r0 rr =>
      cases rr
      exact ⟨_, rfl, r0⟩
  exact ⟨I1.kIn, run_xc (us := [u]) G hr I1 ru q1⟩
theorem pmk_xc (G : Xc X.prog X.w X.K X.mg X.base x) (hr : Room 2 X.A) (ha : PA X [e] t) (hg : Gl X x := by rfl) (hdb : (x == ("__debug__" : Str)) = false := by decide)
    (he : starEach [e] X.env = (false, eval e X.env) :: starEach [] X.env := by rfl) (hpl : (backTo pos (starEach [] X.env)).any (·.1) = false := by rfl) : L2N.PMk X (.Call (.Name x p) [e] [] pos) (tXc X.K x t) := (pmk5_xc G hr ha hg hdb he hpl).pmk
end
/-! ### an exception as a value -/
/-- an exception of the class cls, its dict at d, stands at a -/
def exT (a : Addr) (cls : Value) (d : Option Addr) : HO := .ext fun h => ∃ (oe : Obj) (vs : Array Value), h.get? a = some oe ∧ L2N.Zn cls d oe ∧ oe.data = .fields vs
theorem exT_ok {P : Program} {w : World} {H : Hp} {h : Heap} {a : Addr} {cls : Value} {d : Option Addr} {oe : Obj} {vs : Array Value} (z1 : h.get? a = some oe) (z2 : L2N.Zn cls d oe) (z3 : oe.data = .fields vs) : ObjOk P w H h a (exT a cls d) :=
  ⟨⟨oe, vs, z1, z2, z3⟩, ⟨oe, z1⟩, fun _ _ ⟨o, v, q1, q2⟩ k => ⟨o, v, k o q1, q2⟩⟩
theorem exT_at {P : Program} {w : World} {H : Hp} {h : Heap} {a : Addr} {cls : Value} {d : Option Addr} (hok : HOk P w H h) (z : H a = some (exT a cls d)) : ∃ (oe : Obj) (vs : Array Value), h.get? a = some oe ∧ L2N.Zn cls d oe ∧ oe.data = .fields vs := by
  have y : ObjOk P w H h a (.ext fun h => ∃ (oe : Obj) (vs : Array Value), h.get? a = some oe ∧ L2N.Zn cls d oe ∧ oe.data = .fields vs) := hok a _ z
  exact y.1
theorem exT_ntb {a : Addr} {cls : Value} {d : Option Addr} : ∀ ps, exT a cls d ≠ .tbl ps := fun ps z => by
  have z' : HO.ext _ = HO.tbl ps := z
  cases z'
section
variable {X : Cx} {x : Str} {e : Expr} {t : TA}
theorem pe_ofMk {tm : L2.St → Hp → XK → Prop} (h : L2N.PMk X e tm) : PE X e (fun σ H Q => tm σ H fun cls d H1 => ∀ a, H1 a = none → Q (.ref a) (upd H1 a (exT a cls d))) := by
  refine ⟨fun pins s σ H Q I hq => wpAny_mono (h pins s σ H _ I hq) (fun u s1 hu => ?_) fun _ _ z => z⟩
  obtain ⟨a, oe, vs, sI, H1, cls, d, rfl, J, k, hne, ha, hz, hd, h1, na, os, ag, r, q⟩ := hu
  obtain ⟨h0, g0, d0, t0, os0⟩ := s1
  have J2 := J.call (ch := []) (h' := h0) (g' := g0) (d' := d0) (t' := t0) (H' := upd H1 a (exT a cls d))
    ⟨fun b o z _ _ _ => k b o z, fun b o z _ _ _ => ⟨o.slots, k b o z⟩, fun b o z n _ => by
      rw [upd_ne (fun y => by rw [y, hne] at z; cases z)]
      exact n, fun b o z _ => ⟨o, k b o z⟩, fun b xs z => by
      rw [upd_ne (ne_of_none z na)]
      exact z, fun b o u z => by
      rw [upd_ne (ne_of_none z na)]
      exact z, fun b ps z => ⟨#[], by rw [upd_ne (ne_of_none z na), z]; simp⟩⟩
    (J.hok.laidN k na (exT_ok ha hz hd)) ag (fun b z => nomatch z)
  obtain rfl : os0 = sI.os := os
  exact ⟨.ref a, _, J2, rfl, q a na⟩
end
/-! ### an except suite where the exception is told of by the heap -/
abbrev suiteT (X : Cx) (a : Addr) (pn : List (Addr × Obj)) : Cx := { X with A := X.A.mark (some (.ref a)), calm := false, pn := pn, xe := fun _ _ => False }
theorem okT {X : Cx} (ok : X.Ok) (a : Addr) (pn : List (Addr × Obj)) : (suiteT X a pn).Ok :=
  ⟨ok.mod, ok.kind, ok.glob, ok.blt, ok.above, ok.inj, ok.has, ok.cab, (fun z => absurd (show false = true from z) Bool.false_ne_true), ok.frames, ok.stk, ok.exf, ok.bs, ok.bsz, ok.noex, ok.exfs, ok.funs, ok.frf⟩
section
variable {X : Cx} {pins pn' : List (Addr × Obj)} {σ : L2.St} {H : Hp} {s : Shared} {a : Addr}
theorem inv_suiteT (I : Inv X pins σ H s) (a : Addr) : Inv (suiteT X a (X.pn ++ pins)) [] σ H s :=
  ⟨okT I.ok _ _, I.os, I.bare, I.base, I.loc, I.cell, I.free, I.freeC, fun q hq => I.pin q (by rwa [List.append_nil] at hq), I.hok, I.len⟩
theorem inv_unsuiteT (I : Inv (suiteT X a (X.pn ++ pins)) pn' σ H s) (ok : X.Ok) : Inv X pins σ H s :=
  ⟨ok, I.os, I.bare, I.base, I.loc, I.cell, I.free, I.freeC, fun q hq => I.pin q (List.mem_append_left _ hq), I.hok, I.len⟩
end
/-- what 'except x as n' wishes: the suite's heap tells of the exception -/
def wAsT (K : PySem.W.Frag) (c : Value) (i : Nat) (ts : Addr → TS) (Wout : WX) (D : Ends) : WX := fun cls d σ H =>
  ∃ b, PySem.W.exmOne K cls c = some b ∧ (b = true → ∀ a, H a = none → ts a { nx := fun σ' H' => D.nx (σ'.set i none) H', rt := D.rt, bk := fun σ' H' => D.bk (σ'.set i none) H', ct := fun σ' H' => D.ct (σ'.set i none) H' } (σ.set i (some (.ref a))) (upd H a (exT a cls d))) ∧
    (b = false → Wout cls d σ H)
section
variable {X : Cx} {x n : Str} {c : Value} {i : Nat} {body suite : List Stmt} {b₀ : Stmt} {np pos pos' : Pos} {tb : WX → TS} {ts : Addr → TS} {Wout : WX}
theorem ps_try_asT (hs : X.stack = X.env :: X.outer) (hf : X.env.frame = some X.env.locals) (hN : X.N.Nodup) (hi : X.N[i]? = some n) (hln : X.env.kindOf n = some .local) (hc : Names X x c) (tk : L2N.Takes X Wout)
    (hb : ∀ (W : WX) (pn : List (Addr × Obj)) (xe : Value → Shared → Prop), L2N.Takes (X.tr pn xe) W → PassesOwn (model X.prog X.w) X.A X.env xe → PSs (X.tr pn xe) body (tb W))
    (hsu : ∀ (a : Addr) (pn : List (Addr × Obj)), PSs (suiteT X a pn) (b₀ :: suite) (ts a)) :
    PS X (.Try body [.ExceptHandler (some (.Name x np)) (some n) (b₀ :: suite) pos'] [] [] pos) (fun D σ H => tb (wAsT X.K c i ts Wout D) D σ H) := by
  refine ⟨fun pins s σ H D I h => ?_⟩
  have ok := I.ok
  have hfr : X.A.frames = some (X.env :: X.outer) := by rw [ok.frames, hs]
  have hloc : Loc X.env.scope n := .inl hln
  refine wpAny_Try_except ?_
  let xe2 : Value → Shared → Prop := fun e s₁ => wpAny (model X.prog X.w) X.A (noteFrame e X.env) (fun _ s₂ => wpAny (model X.prog X.w) X.A (setFlight e none) (fun _ s₃ => wpAny (model X.prog X.w) X.A (handleBy e X.env [.ExceptHandler (some (.Name x np)) (some n) (b₀ :: suite) pos']) (SP X pins D) X.xe s₃) X.xe s₂) X.xe s₁
  refine wpAny_mono ((hb (wAsT X.K c i ts Wout D) (X.pn ++ pins) xe2 (fun u s' xx => ?_) PassesOwn.looking).run [] s σ H D (I.toTry _) h) (fun f s1 hsp => ?_) (fun e s1 he => he)
  · obtain ⟨a, B, sI, pins', σ', H', cls, d, rfl, J', nb, up, sky, na, os, ag, b, hb1, hyes, hno⟩ := xx
    have J : Inv X pins σ' H' sI := J'.ofTry ok
    have sky' : Sky B (X.env :: X.outer) a (L2N.Zn cls d) X.env.locals s'.heap := by rw [← hs]; exact sky
    show wpAny (model X.prog X.w) X.A (noteFrame (.ref a) X.env) _ _ _
    refine L2N.Sky.land L2N.Zn.steady hfr hf sky' fun h3 fl3 up3 => ?_
    have J3 : Inv X pins σ' H' { s' with heap := h3 } := J.landed nb fl3.1 (up.trans up3) os ag
    obtain ⟨oe3, vs3, he3, hz3, hd3⟩ := fl3.there
    have nfr : a ∉ frs (X.env :: X.outer) := fun hm => by
      obtain ⟨_, o', e', hnf⟩ := fl3.2.2.1.mem hm
      rw [he3] at e'
      cases e'
      exact hnf _ hd3
    refine wpAny_handleBy_cons (codeAny_handlers_test ?_) (by intro q; cases q)
    have LT : PySem.W.Looks (model X.prog X.w) h3 (typeOf (.ref a)) cls := fun A Q E s k q => wpAny_typeOf_ref (k _ _ he3) (by rw [hz3.1]; exact q)
    have LM := PySem.W.exm_one (M := model X.prog X.w) (J3.kIn) LT hb1
    have S3 := inv_suiteT J3 a
    have test : ∀ {Q : Value → Shared → Prop} {E : Value → Shared → Prop}, Q c { s' with heap := h3 } → wpAny (model X.prog X.w) (X.A.mark (some (.ref a))) (eval (.Name x np) X.env) Q E { s' with heap := h3 } := fun {Q E} q => by
      obtain ⟨hg, hdbg, hm | ⟨hm, hv, hnn⟩⟩ := hc
      · exact ld_glob (X := suiteT X a (X.pn ++ pins)) S3 hg hm q hdbg
      · exact ld_blt (X := suiteT X a (X.pn ++ pins)) S3 hg hm hv q hnn hdbg
    refine test (LM.here ?_)
    cases b with
    | true =>
      refine codeAny_handlers_suite_as ?_
      refine HandSPX.lands_againZ fl3 fun h4 fl4 up4 => ?_
      obtain ⟨oe4, vs4, he4, hz4, hd4⟩ := fl4.there
      have hBa : B.get? a = none := fl4.2.1
      obtain ⟨G, g1, g2⟩ := restrict h4 fun b => decide (b ≠ a)
      have gk : ∀ b o, b ≠ a → h4.get? b = some o → G.get? b = some o := fun b o hb z => by
        rw [g1 b (decide_eq_true hb)]
        exact z
      have ga : G.get? a = none := g2 a (decide_eq_false fun z => z rfl)
      have gs : ∀ b o, G.get? b = some o → h4.get? b = some o := fun b o z => by
        by_cases hb : b = a
        · rw [hb, ga] at z
          cases z
        · rw [← g1 b (decide_eq_true hb)]
          exact z
      have naI : ∀ b o, sI.heap.get? b = some o → b ≠ a := fun b o z y => by
        have nf : b ∉ frs X.stack := by
          rw [y, hs]
          exact nfr
        have w := nb b o z nf
        rw [y, hBa] at w
        cases w
      have stG : B.StaysIn G := fun b o z => gk b o (fun y => by rw [y, hBa] at z; cases z) (fl4.1 b o z)
      have upG : sI.heap.UpToSlots G := fun b o z nf => by
        obtain ⟨sl, w⟩ := ((up.trans up3).trans up4) b o z nf
        exact ⟨sl, gk b _ (naI b o z) w⟩
      have JG : Inv X pins σ' H' { s' with heap := G } := J.landed (s' := { s' with heap := G }) nb stG upG os ag
      have J4 := JG.laidN (t' := s'.toks) (h' := h4) (o := exT a cls d) gs ga na (exT_ok he4 hz4 hd4)
      have S4 := inv_suiteT J4 a
      refine store_ok (X := suiteT X a (X.pn ++ pins)) (v := .ref a) S4 hN hi hloc rfl (fun s5 S5 => ?_) (.inr hln)
      refine wpAny_mono ((hsu a (X.pn ++ pins)).run [] s5 _ _ _ S5 (hyes rfl a na)) (fun f s6 hsp => ?_) (fun _ _ z => False.elim z)
      have end_ : ∀ {σ6 : L2.St} {H6 : Hp} {Q : Shared → Prop}, Inv (suiteT X a (X.pn ++ pins)) [] σ6 H6 s6 → (∀ s7, Inv X pins (σ6.set i none) H6 s7 → Q s7) →
          wpAny (model X.prog X.w) X.A (do bindName X.env n .none; unbindBehindTheSuite X.env n pos') (fun _ s7 => Q s7) X.xe s6 := fun {σ6 H6 Q} S6 hq => gone_ok (inv_unsuiteT S6 ok) hN hi hln hq
      cases f with
      | next =>
        obtain ⟨σ6, H6, S6, q6⟩ := hsp
        exact end_ S6 fun s7 J7 => ⟨_, _, J7, q6⟩
      | brk =>
        obtain ⟨σ6, H6, S6, q6⟩ := hsp
        exact end_ S6 fun s7 J7 => ⟨_, _, J7, q6⟩
      | cont =>
        obtain ⟨σ6, H6, S6, q6⟩ := hsp
        exact end_ S6 fun s7 J7 => ⟨_, _, J7, q6⟩
      | ret u =>
        obtain ⟨v6, σ6, H6, S6, r6, q6⟩ := hsp
        exact end_ S6 fun s7 J7 => ⟨_, _, _, J7, r6, q6⟩
    | false =>
      show wpAny _ X.A (handleBy (.ref a) X.env []) _ _ _
      refine wpAny_handleBy_nil ?_
      obtain ⟨k1, k2, k3, oe, vs, T, oT, ts', he, hz, hd, h1, hr⟩ := id fl3
      unfold PySem.passOn
      refine wpAny_bind (wpAny_field he hd h1 ?_)
      rw [if_neg (show ¬ ((Value.ref T == Value.none) = true) from by simp)]
      have fin : wpAny (model X.prog X.w) X.A (setFlight (.ref a) X.env.frame) (fun _ s4 => wpAny (model X.prog X.w) X.A (throw (.ref a) : Sem Flow) (SP X pins D) X.xe s4) X.xe { s' with heap := h3 } := by
        rw [hf]
        refine HandSPX.setFlight_upZ fl3 fun h4 hh4 up4 => wpAny_throw (tk _ _ ?_)
        exact ⟨a, B, sI, pins, σ', H', cls, d, rfl, J, nb, (up.trans up3).trans up4, .inr (.inr (by rw [hs]; exact hh4)), na, os, ag, hno rfl⟩
      first
        | exact wpAny_bind (wpAny_pure (wpAny_bind fin))
        | exact wpAny_bind fin
  · cases f with
    | next =>
      obtain ⟨σ', H', J', q⟩ := hsp
      exact wpAny_execs_nil ⟨σ', H', J'.ofTry ok, q⟩
    | brk =>
      obtain ⟨σ', H', J', q⟩ := hsp
      exact ⟨σ', H', J'.ofTry ok, q⟩
    | cont =>
      obtain ⟨σ', H', J', q⟩ := hsp
      exact ⟨σ', H', J'.ofTry ok, q⟩
    | ret u =>
      obtain ⟨v, σ', H', J', r, q⟩ := hsp
      exact ⟨v, σ', H', J'.ofTry ok, r, q⟩
end
/-! ### e.value -/
def tXv (K : PySem.W.Frag) (n : Str) (te : TE) : TE := fun σ H Q => te σ H fun x H1 => ∃ (a C d : Addr) (fs : List (Str × V)) (v : V), x = .ref a ∧ XfC K C ∧ PySem.W.findIn K (.ref C) n = some none ∧ H1 a = some (exT a (.ref C) (some d)) ∧ H1 d = some (.xd fs) ∧ fs.lookup n = some v ∧ Q v H1
theorem pe_xv {X : Cx} {e : Expr} {te : TE} {pos : Pos} {n : Str} (he : PE X e te) (hb : attributeBase e n X.env (eval e X.env) = eval e X.env := by rfl) : PE X (.Attribute e n pos) (tXv X.K n te) := by
  refine ⟨fun pins s σ H Q I h => ?_⟩
  refine attr_of hb (thn (he.run pins s σ H _ I h) fun u s1 hh => ?_)
  obtain ⟨x, H1, I1, rx, a, C, d, fs, v, rfl, T, hno, ea, ed, l, q⟩ := hh
  obtain rfl : u = Value.ref a := rx
  obtain ⟨oe, vs, ha, hz, hd⟩ := exT_at I1.hok ea
  have hx : ObjOk X.prog X.w H1 s1.heap d (.xd fs) := I1.hok d _ ed
  obtain ⟨mA, hns, hr⟩ := hx
  obtain ⟨od, ho, hl⟩ := lookIn_ns hns
  obtain ⟨u, hu, ru⟩ := RelO.some_of (v := v) (o := mA n) (by rw [← l]; exact hr n)
  have J : PySem.W.InstAt s1.heap a oe C (some od) := ⟨ha, hz.1, by unfold PySem.W.notCls; rw [hd] <;> rfl, by rw [hz.2.1]; exact ho⟩
  exact HandSPX.exc_get I1.kIn J T.ga T.gg T.exC (PySem.W.findObj_own T.hdC hno rfl (by rw [hl, hu])) (handed_of ru) ⟨v, H1, I1.tok _, ru, q⟩
end Sk
/-! own defs and methods that may raise; isinstance of an exception that the heap tells of -/
namespace PySem
open PySem.W PySem.Spec PySem.Calls PyProof.Rows
section
variable {prog : Program} {w : World} {A : Around} {E : Value → Shared → Prop} {s : Shared} {K : Frag} {x D : Addr} {ox : Obj} {od : Option Obj}
theorem sk_findData {C : Addr} {name : Str} {a g : Value} (hc : (clsIn K C).isSome = true) (ha : findIn K (.ref C) name = some (some a)) (hg : specialIn K a "__get__" = some (some g)) (ht : takesIn K a = some true) : findObj K C od name = some (.bind g a) := by
  obtain ⟨cd, hc⟩ := Option.isSome_iff_exists.mp hc
  unfold findObj
  rw [hc, Option.bind_some, ha, Option.bind_some]
  simp only [hg, ht, Option.bind_some]
/-- e.__class__ of an exception, with its dict or without -/
theorem sk_classE {Q : Option Value → Shared → Prop} (c : Sk.XfC' K D) (X : K.In s.heap) (I : InstAt s.heap x ox D od) (h : Q (some (.ref D)) { s with toks := s.toks + 1 }) : wpAny (model prog w) A (getAttr? (.ref x) "__class__") Q E s := by
  obtain ⟨hga, hgt, hsub, hdct, ha, hn, htk, hm⟩ := c
  have hf : findObj K D od "__class__" = some (.bind (.builtin "getset_descriptor.__get__") (.builtin "object.__class__")) := sk_findData (by obtain ⟨cd, hc, _⟩ := any_some hdct; rw [hc]; rfl) ha hn htk
  obtain ⟨hp, g, d, t, os⟩ := s
  have M0 := I.type (M := model prog w)
  have sub : Looks (model prog w) hp (isInstance (.ref x) (.type "BaseException")) true := M0.andThen (looks_subIn X hsub)
  have q2 : (Value.builtin "BaseException.__getattribute__" == Value.builtin "object.__getattribute__") = false := by decide +kernel
  unfold getAttr? getAttrBy? getAttrBy
  refine wpAny_bind (wpAny_mkText (wpAny_bind (wpAny_attempt (wpAny_holding (wpAny_bind (M0.at (wpAny_bind ((looks_findIn X hga).at ?_))))))))
  show wpAny _ _ (if (onTheHeap (Value.ref D) && Value.builtin "BaseException.__getattribute__" == Value.builtin "object.__getattribute__") = true then _ else _) _ _ _
  rw [if_neg (by rw [q2, Bool.and_false]; exact Bool.false_ne_true)]
  unfold getAttrByItsOwn hookBefore
  refine wpAny_bind ?_
  rw [if_pos (show onTheHeap (Value.ref D) = true from rfl)]
  refine (looks_findIn X hgt).at (wpAny_bind (wpAny_attempt (wpAny_holding ?_)))
  unfold callGetattribute
  rw [if_neg (show ¬ (false && onTheHeap (Value.builtin "BaseException.__getattribute__")) = true from Bool.false_ne_true)]
  unfold boundAndCalled
  rw [PySem.F.excAttr_ValueError.ga.bind (.ref x)]
  refine wpAny_bind (wpAny_pure ?_)
  show wpAny _ _ (call (.builtin "BaseException.__getattribute__") [.ref x, .str "__class__" t]) _ _ _
  refine wpAny_call (codeAny_call_builtin PySem.F.excAttr_ValueError.ga.plain PySem.F.entry_bexc_ga (@check_slot (model prog w) _ _ ⟨hp, g, d, t + 1, os⟩ "BaseException.__getattribute__" "BaseException" "__getattribute__" (.ref x) [.str "__class__" t] [] _ (by decide +kernel) (by decide +kernel) sub (PySem.F.args_bexc_ga (.ref x) (.str "__class__" t)) ?_))
  unfold Builtin.«object.__getattribute__»
  refine wpAny_bind (wpAny_of_eq (a := ((Value.ref x : Value), [Value.str "__class__" t])) (by first | rfl | (simp only [slotArgs]; rfl)) ?_)
  refine wpAny_bind (wpAny_pure (wpAny_bind (M0.at (wpAny_bind ((looks_find X I hf).at ?_)))))
  show wpAny _ _ (holding [Value.builtin "object.__class__"] (call (.builtin "getset_descriptor.__get__") [.builtin "object.__class__", .ref x, .ref D]) >>= ret) _ _ _
  refine wpAny_bind (wpAny_holding (wpAny_call (class_get (s := ⟨hp, g, d, t + 1, os⟩) (ox := ox) (od := od) X I hm ?_)))
  refine wpAny_pure ?_
  show wpAny _ _ (handedOut (.ref D)) _ _ _
  rw [handedOut_of (v := .ref D) rfl]
  first
    | exact wpAny_pure (wpAny_pure h)
    | exact wpAny_pure h
    | exact wpAny_pure (wpAny_bind (wpAny_pure (wpAny_pure h)))
theorem sk_kitE (c : Sk.XfC' K D) : KitX K (.ref x) (.ref D) (fun h => InstAt h x ox D od) where
  ty := fun _ _ _ I => I.type
  it := fun _ _ X _ => by
    obtain ⟨cdD, hcD, _⟩ := any_some c.hd
    unfold clsIn at hcD
    split at hcD
    · rename_i c' d' cd' sl' ho
      intro A' Q' E' s' k q
      unfold isType loadHead
      exact wpAny_bind (wpAny_loadPart (k _ _ (X _ _ ho)) (wpAny_pure q))
    · cases hcD
  ne := fun h tp dd its n sl X htp => by
    obtain ⟨cdD, hcD, _⟩ := any_some c.hd
    refine Bool.eq_false_iff.mpr fun q => ?_
    obtain rfl := Value.ref.inj (beq_iff_eq.mp q)
    unfold clsIn at hcD
    split at hcD
    · rename_i c' d' cd' sl' ho
      have z := (X _ _ ho).symm.trans htp
      cases z
    · cases hcD
  ca := fun X I k => sk_classE c X I k
end
end PySem
namespace Sk
open PySem PySem.Spec PyProof.Rows L2
/-! ### isinstance(e, ..) -/
/-- the exception at a, of the class D, with its dict (or without) -/
def ExAt (H : Hp) (a D : Addr) (d : Option Addr) : Prop := H a = some (exT a (.ref D) d) ∧ (d = none ∨ ∃ (dd : Addr) (fs : List (Str × V)), d = some dd ∧ H dd = some (.xd fs))
theorem ExAt.inst {P : Program} {w : World} {H : Hp} {h : Heap} {a D : Addr} {d : Option Addr} (hok : HOk P w H h) (z : ExAt H a D d) : ∃ ox od, PySem.W.InstAt h a ox D od := by
  obtain ⟨z1, z2⟩ := z
  obtain ⟨oe, vs, ha, hz, hd⟩ := exT_at hok z1
  have nc : PySem.W.notCls oe = true := by unfold PySem.W.notCls; rw [hd] <;> rfl
  rcases z2 with rfl | ⟨dd, fs, rfl, z2⟩
  · exact ⟨oe, none, ha, hz.1, nc, by rw [hz.2.1]; trivial⟩
  · have hx : ObjOk P w H h dd (.xd fs) := hok dd _ z2
    obtain ⟨mA, ⟨o, es, ep, ho, _⟩, _⟩ := hx
    exact ⟨oe, some o, ha, hz.1, nc, by rw [hz.2.1]; exact ho⟩
def rIsX (K : PySem.W.Frag) : List V → Hp → VK → Prop := fun xs H Q => ∃ (a D : Addr) (d : Option Addr) (c : V) (cv : Value) (b : Bool), xs = [.ref a, c] ∧ ExAt H a D d ∧ XfC' K D ∧ ClsV c cv ∧ PySem.W.kitOne K (.ref D) cv = some b ∧ Q (.bl b) H
def rIsXT (K : PySem.W.Frag) : List V → Hp → VK → Prop := fun xs H Q => ∃ (a D : Addr) (d : Option Addr) (tp : Addr) (cs : List V) (us : List Value) (b : Bool), xs = [.ref a, .ref tp] ∧ H tp = some (.tup cs) ∧ ExAt H a D d ∧ XfC' K D ∧ Paired ClsV cs us ∧ PySem.W.kitAny K (.ref D) us = some b ∧ Q (.bl b) H
section
variable {X : Cx}
theorem call_isX : CallR X (.builtin "isinstance") (rIsX X.K) := by
  intro pins s σ H xs us Q I r h
  obtain ⟨a, D, d, c, cv, b, rfl, z, T, k, e, q⟩ := h
  obtain ⟨u1, u2, rfl, r1, r2⟩ := vals2 r
  cases (show u1 = Value.ref a from r1)
  obtain rfl := k.eq r2
  obtain ⟨ox, od, J⟩ := z.inst I.hok
  exact PySem.W.kia_one (PySem.sk_kitE T) I.kIn J e (fun z => nomatch z) fun tk => ⟨.bl b, H, I.tok tk, rfl, q⟩
theorem call_isXT : CallR X (.builtin "isinstance") (rIsXT X.K) := by
  intro pins s σ H xs us Q I r h
  obtain ⟨a, D, d, tp, cs, ws, b, rfl, hT, z, T, k, e, q⟩ := h
  obtain ⟨u1, u2, rfl, r1, r2⟩ := vals2 r
  cases (show u1 = Value.ref a from r1)
  cases (show u2 = Value.ref tp from r2)
  obtain ⟨ox, od, J⟩ := z.inst I.hok
  obtain ⟨_, its, rv, o, h1, h2, n, h3⟩ := (show ObjOk X.prog X.w H s.heap tp (.tup cs) from I.hok tp _ hT)
  obtain rfl := ClsV.all k rv
  obtain ⟨oc, od2, dt, sl⟩ := o
  simp only at h2 h3
  subst h2 h3
  exact PySem.W.kia_tup (PySem.sk_kitE T) I.kIn J h1 e (fun z => nomatch z) fun tk => ⟨.bl b, H, I.tok tk, rfl, q⟩
end
theorem isXk {X : Cx} {K : PySem.W.Frag} (e : X.K = K) : CallR X (.builtin "isinstance") (rIsX K) := by subst e; exact call_isX
theorem isXTk {X : Cx} {K : PySem.W.Frag} (e : X.K = K) : CallR X (.builtin "isinstance") (rIsXT K) := by subst e; exact call_isXT
theorem peXv {X : Cx} {K : PySem.W.Frag} {e : Expr} {te : TE} {pos : Pos} {n : Str} (h : X.K = K) (he : PE X e te) (hb : attributeBase e n X.env (eval e X.env) = eval e X.env := by rfl) : PE X (.Attribute e n pos) (tXv K n te) := by
  subst h
  exact pe_xv he hb
theorem takes0 {X : Cx} : L2N.Takes X (fun _ _ _ _ => False) := fun u s' x => by
  obtain ⟨_, _, _, _, _, _, _, _, _, _, _, _, _, _, _, _, w⟩ := x
  exact w.elim
/-! ### own defs that may raise -/
structure FnX (P : Program) (w : World) (K : PySem.W.Frag) (mg : Str → Option Value) (base : Heap) (x : Str) (k : Nat) (ps : List Str) (sp : Sp) : Prop where
  ex : ∃ (f : Addr) (fd : FuncData), FnOk P w K mg base (L2N.CX P w) k f fd ps sp ∧ mg x = some (.ref f) ∧ PySem.W.keepIn K (.ref f) = true ∧ Binds K fd ps []
structure MetX (P : Program) (w : World) (K : PySem.W.Frag) (mg : Str → Option Value) (base : Heap) (k : Nat) (C : Addr) (m : Str) (sp : Sp) (dvs : List V) : Prop where
  ex : ∃ (f : Addr) (fd : FuncData) (ps : List Str) (ds : List Value), Cls K C ∧ Meth K C m f ∧ FnOk P w K mg base (L2N.CX P w) k f fd ps sp ∧ Binds K fd ps ds ∧ Vals dvs ds
structure MetKX (P : Program) (w : World) (K : PySem.W.Frag) (mg : Str → Option Value) (base : Heap) (k : Nat) (C : Addr) (m : Str) (sp : Sp) (ks : List Str) (gV : List V → List V → List V) : Prop where
  ex : ∃ (f : Addr) (fd : FuncData) (ps : List Str) (g : List Value → List Value → List Value), Cls K C ∧ Meth K C m f ∧ FnOk P w K mg base (L2N.CX P w) k f fd ps sp ∧ KBn K fd ps 1 ks g gV
def tMethX (C : Addr) (m : Str) (sp : Sp) (dvs : List V) (E : L2.St → XK) (ta : TE) (t : TA) : TE := fun σ H Q => ta σ H fun x H1 => ∃ a dx fs, x = .ref a ∧ H1 a = some (.ins C dx fs) ∧ fs.lookup m = none ∧
  t σ H1 fun vs H2 => sp (x :: (vs ++ dvs)) H2 Q (E σ)
def tMethKX (C : Addr) (m : Str) (n : Nat) (sp : Sp) (gV : List V → List V → List V) (E : L2.St → XK) (ta : TE) (tk : TA) : TE := fun σ H Q => ta σ H fun x H1 => ∃ a dx fs, x = .ref a ∧ H1 a = some (.ins C dx fs) ∧ fs.lookup m = none ∧
  tk σ H1 fun zs H2 => zs.length = n ∧ sp (gV [x] zs) H2 Q (E σ)
section
variable {X : Cx} {W : WX} {k j : Nat} {C : Addr} {x m : Str} {ps ks : List Str} {sp : Sp} {dvs : List V} {gV : List V → List V → List V} {e o : Expr} {es : List Expr} {ta : TE} {t tk : TA} {kws : List Keyword} {p pos apos : Pos}
theorem pe_fnX (F : FnX X.prog X.w X.K X.mg X.base x k ps sp) (hr : Room k X.A) (tk : L2N.Takes X W) (ha : PA X (e :: es) t) (hg : Gl X x := by rfl) (hdb : (x == ("__debug__" : Str)) = false := by decide)
    (he : starEach (e :: es) X.env = (false, eval e X.env) :: starEach es X.env := by rfl) (hpl : (backTo pos (starEach es X.env)).any (·.1) = false := by rfl) : PE X (.Call (.Name x p) (e :: es) [] pos) (tCallS sp (WE W) t) := by
  obtain ⟨f, fd, F1, hm, hk, hb⟩ := F.ex
  exact pe_callS F1 hr hg hm hk hb (fun σ => L2N.passAt tk σ) ha hdb he hpl
theorem pe_mtX {pl : Sem Bool} (c : MetX X.prog X.w X.K X.mg X.base k C m sp dvs) (hr : Room j X.A) (hj : k ≤ j) (tk : L2N.Takes X W) (he : PE X o ta) (ha : PA X (e :: es) t)
    (hst : starEach (e :: es) X.env = (false, eval e X.env) :: starEach es X.env := by rfl) (hpl : (backTo pos (starEach es X.env)).any (·.1) = false := by rfl)
    (ht : eval (.Call (.Attribute o m apos) (e :: es) [] pos) X.env = (do
      let ov ← eval o X.env
      standAt apos.atName
      let (f, first) ← holding [ov] (getMethod ov m pl)
      callWith pos f first (backTo pos (starEach (e :: es) X.env)) (backToKw pos (keywordEach [] X.env))) := by rfl) :
    PE X (.Call (.Attribute o m apos) (e :: es) [] pos) (tMethX C m sp dvs (WE W) ta t) := by
  obtain ⟨f, fd, ps, ds, hc, hm, F, hb, hd⟩ := c.ex
  refine ⟨fun pins s σ H Q I h => ?_⟩
  refine PySem.W.methodCall_KW (pl := pl) (thn (he.run pins s σ H _ I h) fun u s1 hh => ?_) ht
  obtain ⟨x, H1, I1, rx, a, dx, fs, rfl, ea, l, q⟩ := hh
  obtain rfl : u = Value.ref a := rx
  refine getmeth_ok I1 ea hc hm l ?_
  refine PySem.W.callWith_K (first := [.ref a]) (h₀ := X.base) I.ok.mod.kin hm.kp (thn (ha.run pos pins s1 σ H1 _ I1 q) fun us s2 ⟨vs, H2, I2, r, q2⟩ => ⟨I2.kIn, ?_⟩) hst hpl
  exact run_fnSD (E := WE W) (us := .ref a :: us) (vs := .ref a :: vs) F (hr.mono hj) hb hd (L2N.passAt tk σ) I2 (.cons rfl r) q2
theorem pe_mtX0 {pl : Sem Bool} (c : MetX X.prog X.w X.K X.mg X.base k C m sp dvs) (hr : Room j X.A) (hj : k ≤ j) (tk : L2N.Takes X W) (he : PE X o ta)
    (ht : eval (.Call (.Attribute o m apos) [] [] pos) X.env = (do
      let ov ← eval o X.env
      standAt apos.atName
      let (f, first) ← holding [ov] (getMethod ov m pl)
      callWith pos f first (backTo pos (starEach [] X.env)) (backToKw pos (keywordEach [] X.env))) := by rfl) :
    PE X (.Call (.Attribute o m apos) [] [] pos) (tMethX C m sp dvs (WE W) ta tNil) := by
  obtain ⟨f, fd, ps, ds, hc, hm, F, hb, hd⟩ := c.ex
  refine ⟨fun pins s σ H Q I h => ?_⟩
  refine PySem.W.methodCall_KW (pl := pl) (thn (he.run pins s σ H _ I h) fun u s1 hh => ?_) ht
  obtain ⟨x, H1, I1, rx, a, dx, fs, rfl, ea, l, q⟩ := hh
  obtain rfl : u = Value.ref a := rx
  refine getmeth_ok I1 ea hc hm l ?_
  exact PySem.W.callWith_K0 (first := [.ref a]) I1.kIn hm.kp (run_fnSD (E := WE W) (us := [.ref a]) (vs := [.ref a]) F (hr.mono hj) hb hd (L2N.passAt tk σ) I1 (.cons rfl .nil) q)
theorem run_fnNX {f : Addr} {fd : FuncData} {n : Nat} {g : List Value → List Value → List Value} {pins : List (Addr × Obj)} {σ : L2.St} {H : Hp} {s : Shared} {Q : VK} {us ws : List Value} {vs zs : List V} (F : FnOk X.prog X.w X.K X.mg X.base (L2N.CX X.prog X.w) k f fd ps sp) (hr : Room k X.A) (hb : KBn X.K fd ps n ks g gV) (tk : L2N.Takes X W)
    (I : Inv X pins σ H s) (r : Vals vs us) (rz : Vals zs ws) (l1 : vs.length = n) (l2 : zs.length = ks.length) (h : sp (gV vs zs) H Q (WE W σ)) : wpAny (model X.prog X.w) X.A (call (.ref f) us (ks.zip ws)) (EP X pins σ Q) X.xe s := by
  have b1 := hb.to s us ws I.kIn (r.length.symm.trans l1) (rz.length.symm.trans l2)
  refine wpAny_call (codeAny_mono (F.run X.A X.stack s H ⟨us, ks.zip ws⟩ (g us ws) (gV vs zs) Q (WE W σ) hr I.env0 b1 (hb.rel r rz) h) fun y s' hq => ?_)
  cases y with
  | error e => exact L2N.passAt tk σ pins H s e s' I hq
  | ok fl =>
    cases fl with
    | ret u => exact I.after hq
    | next => exact hq.elim
    | brk => exact hq.elim
    | cont => exact hq.elim
theorem pe_mtKX {pl : Sem Bool} (c : MetKX X.prog X.w X.K X.mg X.base k C m sp ks gV) (hr : Room j X.A) (hj : k ≤ j) (tk' : L2N.Takes X W) (he : PE X o ta) (hkw : PK X kws tk)
    (hall : (backToKw pos (keywordEach kws X.env)).all (·.1.isSome) = true := by rfl) (hks : (backToKw pos (keywordEach kws X.env)).filterMap (·.1) = ks := by rfl)
    (hpl : ((backTo pos (starEach [] X.env)).any (·.1) || (backToKw pos (keywordEach kws X.env)).any (·.1.isNone)) = false := by rfl)
    (ht : eval (.Call (.Attribute o m apos) [] kws pos) X.env = (do
      let ov ← eval o X.env
      standAt apos.atName
      let (f, first) ← holding [ov] (getMethod ov m pl)
      callWith pos f first (backTo pos (starEach [] X.env)) (backToKw pos (keywordEach kws X.env))) := by rfl) :
    PE X (.Call (.Attribute o m apos) [] kws pos) (tMethKX C m ks.length sp gV (WE W) ta tk) := by
  obtain ⟨f, fd, ps, g, hc, hm, F, hb⟩ := c.ex
  refine ⟨fun pins s σ H Q I h => ?_⟩
  refine PySem.W.methodCall_KW (pl := pl) (thn (he.run pins s σ H _ I h) fun u s1 hh => ?_) ht
  obtain ⟨x, H1, I1, rx, a, dx, fs, rfl, ea, l, q⟩ := hh
  obtain rfl : u = Value.ref a := rx
  refine getmeth_ok I1 ea hc hm l ?_
  refine PySem.W.callWith_KW0 (first := [.ref a]) (h₀ := X.base) I.ok.mod.kin hm.kp hall ?_ hpl
  refine thn (hkw.run pos pins s1 σ H1 _ I1 q) fun ws s2 ⟨zs, H2, I2, rz, l2, q2⟩ => ⟨I2.kIn, ?_⟩
  rw [hks]
  exact run_fnNX (us := [.ref a]) (vs := [.ref a]) F (hr.mono hj) hb tk' I2 (.cons rfl .nil) rz rfl l2 q2
end
end Sk
namespace Sk
open PySem PySem.Spec PyProof.Rows L2
/-! ### try, its readings under names (a loop's body is unified by its head) -/
def tTryO (K : PySem.W.Frag) (c : Value) (ts : Addr → Value → Option Addr → TS) (Wout : WX) (tb : WX → TS) : TS := fun D σ H => tb (wOnly K c ts Wout D) D σ H
def tTryA (K : PySem.W.Frag) (c : Value) (i : Nat) (ts : Addr → Value → Option Addr → TS) (Wout : WX) (tb : WX → TS) : TS := fun D σ H => tb (wAs K c i ts Wout D) D σ H
def tTryT (K : PySem.W.Frag) (c : Value) (i : Nat) (ts : Addr → TS) (Wout : WX) (tb : WX → TS) : TS := fun D σ H => tb (wAsT K c i ts Wout D) D σ H
section
variable {X : Cx} {x n : Str} {c : Value} {i : Nat} {body suite : List Stmt} {b₀ : Stmt} {np pos pos' : Pos} {tb : WX → TS} {Wout : WX}
theorem psTryO {ts : Addr → Value → Option Addr → TS} (hs : X.stack = X.env :: X.outer) (hf : X.env.frame = some X.env.locals) (hc : Names X x c) (tk : L2N.Takes X Wout)
    (hb : ∀ (W : WX) (pn : List (Addr × Obj)) (xe : Value → Shared → Prop), L2N.Takes (X.tr pn xe) W → PassesOwn (model X.prog X.w) X.A X.env xe → PSs (X.tr pn xe) body (tb W))
    (hsu : ∀ (a : Addr) (oe : Obj) (cls : Value) (d : Option Addr) (pn : List (Addr × Obj)), L2N.Zn cls d oe → (∃ vs, oe.data = .fields vs) → PSs (X.suite a ((a, oe) :: pn)) (b₀ :: suite) (ts a cls d)) :
    PS X (.Try body [.ExceptHandler (some (.Name x np)) none (b₀ :: suite) pos'] [] [] pos) (tTryO X.K c ts Wout tb) := by
  have hh : L2N.HdsOk X [.ExceptHandler (some (.Name x np)) none (b₀ :: suite) pos'] [(c, ts)] := .cons hc hsu .nil
  exact L2N.ps_try_many (l := [(c, ts)]) (pos := pos) hs hf tk hb hh
theorem psTryA {ts : Addr → Value → Option Addr → TS} (hs : X.stack = X.env :: X.outer) (hf : X.env.frame = some X.env.locals) (hN : X.N.Nodup) (hi : X.N[i]? = some n) (hln : X.env.kindOf n = some .local) (hc : Names X x c) (tk : L2N.Takes X Wout)
    (hb : ∀ (W : WX) (pn : List (Addr × Obj)) (xe : Value → Shared → Prop), L2N.Takes (X.tr pn xe) W → PassesOwn (model X.prog X.w) X.A X.env xe → PSs (X.tr pn xe) body (tb W))
    (hsu : ∀ (a : Addr) (oe : Obj) (cls : Value) (d : Option Addr) (pn : List (Addr × Obj)), L2N.Zn cls d oe → (∃ vs, oe.data = .fields vs) → PSs (X.suite a ((a, oe) :: pn)) (b₀ :: suite) (ts a cls d)) :
    PS X (.Try body [.ExceptHandler (some (.Name x np)) (some n) (b₀ :: suite) pos'] [] [] pos) (tTryA X.K c i ts Wout tb) := L2N.ps_try_as hs hf hN hi hln hc tk hb hsu
theorem psTryT {ts : Addr → TS} (hs : X.stack = X.env :: X.outer) (hf : X.env.frame = some X.env.locals) (hN : X.N.Nodup) (hi : X.N[i]? = some n) (hln : X.env.kindOf n = some .local) (hc : Names X x c) (tk : L2N.Takes X Wout)
    (hb : ∀ (W : WX) (pn : List (Addr × Obj)) (xe : Value → Shared → Prop), L2N.Takes (X.tr pn xe) W → PassesOwn (model X.prog X.w) X.A X.env xe → PSs (X.tr pn xe) body (tb W))
    (hsu : ∀ (a : Addr) (pn : List (Addr × Obj)), PSs (suiteT X a pn) (b₀ :: suite) (ts a)) :
    PS X (.Try body [.ExceptHandler (some (.Name x np)) (some n) (b₀ :: suite) pos'] [] [] pos) (tTryT X.K c i ts Wout tb) := ps_try_asT hs hf hN hi hln hc tk hb hsu
end
end Sk
/-! own defs called within an except suite, the exception told of by the heap -/
namespace PySem
open PySem.W PySem.Spec PySem.Calls PyProof.Rows HotX
section
variable {prog : Program} {w : World} {A : Around} {E : Value → Shared → Prop} {s : Shared} {x1 : Addr}
theorem sk_updKeep {h : Heap} {it b : Addr} {f : Obj → Obj} {o : Obj} (n : b ≠ it) (e : h.get? b = some o) : (h.update it f).get? b = some o := ((Heap.SameBut.update (a := it) (h := h) (f := f) ..).2 b n).trans e
/-- StopIteration is raised and swallowed -/
theorem sk_list_end {it l : Addr} {i : Nat} {items} {Q : Option Value → Shared → Prop} (hot : HotAt A x1 s.heap) (hx1 : x1 ≠ it)
    (hit : s.heap.IsListIter it l i) (hl : s.heap.IsList l items) (hx : items[i]? = none)
    (hQ : ∀ h', Heap.ExtBut it s.heap h' → Q none { s with heap := h' }) : wpAny (model prog w) A (pyNext (.ref it)) Q E s := by
  obtain ⟨o, ho, hc, hd⟩ := id hit
  obtain ⟨ol, hol, _, nl, hdl⟩ := hl
  obtain ⟨hh, o1, vs1, h1, d1, c1⟩ := hot
  unfold pyNext
  refine wpAny_bind (wpAny_attempt (wpAny_callSpecial?_slot (name := Str.ofString "__next__") hit.typeIs slot_listiter_next
    (wpAny_call_entry slot_listiter_next hit.typeIs entry_listiter_next ?_ (args_listiter_next _))))
  show wpAny _ _ (field (.ref it) 0 >>= _) _ _ s
  refine wpAny_bind (wpAny_field ho hd (x := .ref l) rfl ?_)
  show wpAny _ _ (if (Value.ref l == Value.none) = true then _ else _) _ _ s
  rw [if_neg (show ¬ ((Value.ref l == Value.none) = true) from Bool.false_ne_true)]
  show wpAny _ _ (field (.ref it) 1 >>= _) _ _ s
  refine wpAny_bind (wpAny_field ho hd (x := .int i 0) rfl ?_)
  show wpAny _ _ (seqItems? (.ref l) >>= _) _ _ s
  refine wpAny_bind (wpAny_seqItems hol hdl ?_)
  simp only [Int.toNat_natCast, hx]
  refine wpAny_bind (wpAny_rule (wpAny_bind (wpAny_setField ho hd (by simp) ?_)))
  show wpAny _ _ (newExc (.type "StopIteration") [] >>= _) _ _ _
  refine wpAny_bind ?_
  simp only [newExc, newTuple]
  refine wpAny_bind (wpAny_newObj_type ?_ (by size_fits))
  refine wpAny_bind (m := firstArgMember _ _) (wpAny_of_eq (a := Value.none) (by first | rfl | (simp only [firstArgMember]; rfl)) ?_)
  refine wpAny_newObj_type ?_ (by size_fits)
  refine raiseNew_hot ⟨hh, o1, vs1, Heap.get?_push_of_some _ (Heap.get?_push_of_some _ (sk_updKeep hx1 h1)), d1, c1⟩ (Nat.ne_of_lt (Heap.lt_size (Heap.get?_push_of_some _ (sk_updKeep hx1 h1)))) (Heap.get?_push_size _ rfl) rfl (by first | (simp; done) | (simp; omega) | (simp only [Array.size_append]; simp; omega)) ?_
  refine wpAny_bind (wpAny_isInstance (T := "StopIteration") (b := true) ⟨_, Heap.get?_update_self _ (Heap.get?_push_size _ rfl) rfl, rfl⟩ isSubtype_stop ?_)
  refine wpAny_pure (hQ _ fun b o hb e => ?_)
  rw [Heap.get?_update_other _ _ (Nat.ne_of_gt (Heap.lt_size (Heap.get?_push_of_some _ (sk_updKeep hb e))))]
  exact Heap.get?_push_of_some _ (Heap.get?_push_of_some _ (sk_updKeep hb e))
theorem sk_tuple_end {it t : Addr} {i : Nat} {items} {Q : Option Value → Shared → Prop} (hot : HotAt A x1 s.heap) (hx1 : x1 ≠ it)
    (hit : IsTupIter s.heap it t i) (ht : IsTup s.heap t items) (hx : items[i]? = none)
    (hQ : ∀ h', Heap.ExtBut it s.heap h' → Q none { s with heap := h' }) : wpAny (model prog w) A (pyNext (.ref it)) Q E s := by
  obtain ⟨o, ho, hc, hd⟩ := id hit
  obtain ⟨ol, hol, _, nl, hdl⟩ := ht
  obtain ⟨hh, o1, vs1, h1, d1, c1⟩ := hot
  have hT : s.TypeIs (.ref it) "tuple_iterator" := ⟨o, ho, hc⟩
  unfold pyNext
  refine wpAny_bind (wpAny_attempt (wpAny_callSpecial?_slot (name := Str.ofString "__next__") hT F.slot_tuple_iterator_next
    (wpAny_call_entry F.slot_tuple_iterator_next hT F.entry_tuple_iterator_next ?_ (F.args_tuple_iterator_next_1 _))))
  show wpAny _ _ (field (.ref it) 0 >>= _) _ _ s
  refine wpAny_bind (wpAny_field ho hd (x := .ref t) rfl ?_)
  show wpAny _ _ (if (Value.ref t == Value.none) = true then _ else _) _ _ s
  rw [if_neg (show ¬ ((Value.ref t == Value.none) = true) from Bool.false_ne_true)]
  show wpAny _ _ (field (.ref it) 1 >>= _) _ _ s
  refine wpAny_bind (wpAny_field ho hd (x := .int i 0) rfl ?_)
  show wpAny _ _ (seqItems? (.ref t) >>= _) _ _ s
  refine wpAny_bind (wpAny_seqItems hol hdl ?_)
  simp only [Int.toNat_natCast, hx]
  refine wpAny_bind (wpAny_rule (wpAny_bind (wpAny_setField ho hd (by simp) ?_)))
  show wpAny _ _ (newExc (.type "StopIteration") [] >>= _) _ _ _
  refine wpAny_bind ?_
  simp only [newExc, newTuple]
  refine wpAny_bind (wpAny_newObj_type ?_ (by size_fits))
  refine wpAny_bind (m := firstArgMember _ _) (wpAny_of_eq (a := Value.none) (by first | rfl | (simp only [firstArgMember]; rfl)) ?_)
  refine wpAny_newObj_type ?_ (by size_fits)
  refine raiseNew_hot ⟨hh, o1, vs1, Heap.get?_push_of_some _ (Heap.get?_push_of_some _ (sk_updKeep hx1 h1)), d1, c1⟩ (Nat.ne_of_lt (Heap.lt_size (Heap.get?_push_of_some _ (sk_updKeep hx1 h1)))) (Heap.get?_push_size _ rfl) rfl (by first | (simp; done) | (simp; omega) | (simp only [Array.size_append]; simp; omega)) ?_
  refine wpAny_bind (wpAny_isInstance (T := "StopIteration") (b := true) ⟨_, Heap.get?_update_self _ (Heap.get?_push_size _ rfl) rfl, rfl⟩ isSubtype_stop ?_)
  refine wpAny_pure (hQ _ fun b o hb e => ?_)
  rw [Heap.get?_update_other _ _ (Nat.ne_of_gt (Heap.lt_size (Heap.get?_push_of_some _ (sk_updKeep hb e))))]
  exact Heap.get?_push_of_some _ (Heap.get?_push_of_some _ (sk_updKeep hb e))
theorem sk_unpackItems {t : Addr} {items : Array Value} {Q : List Value → Shared → Prop} (hot : HotAt A x1 s.heap) (ht : IsTup s.heap t items)
    (hQ : ∀ h', Heap.ExtBut s.heap.objs.size s.heap h' → Q items.toList { s with heap := h' }) : wpAny (model prog w) A (unpackItems (.ref t) items.size none) Q E s := by
  have hlt : t ≠ s.heap.objs.size := by obtain ⟨o, ho, _⟩ := ht; exact Nat.ne_of_lt (Heap.lt_size ho)
  obtain ⟨hh, o1, vs1, h1, d1, c1⟩ := hot
  have hx : x1 ≠ s.heap.objs.size := Nat.ne_of_lt (Heap.lt_size h1)
  unfold unpackItems
  refine wpAny_bind ?_
  · unfold notIterableAtAll
    refine wpAny_bind (wpAny_specialOf ht.typeIs slot_tuple_iter.lookup ?_)
    refine wpAny_pure ?_
    simp only [Bool.false_eq_true, if_false]
    refine wpAny_bind (wpAny_holding (iter_tuple ht ?_))
    refine wpAny_bind (wpAny_holding (draw_tuple hlt items.size 0 _ _ ⟨_, Heap.get?_push_size _ rfl, rfl, rfl⟩ (ht.push _) (by omega) fun h₁ hit₁ hs₁ => ?_))
    have hall : List.take items.size (List.drop 0 items.toList) = items.toList := by
      rw [List.drop_zero]; exact List.take_of_length_le (by simp)
    rw [hall]
    rw [if_neg (by simp)]
    have ht₁ : IsTup h₁ t items := (ht.push _).extBut hs₁.extBut hlt
    have h1' : h₁.get? x1 = some o1 := hs₁.extBut x1 o1 hx (Heap.get?_push_of_some _ h1)
    refine wpAny_bind (wpAny_holding (sk_tuple_end ⟨hh, o1, vs1, h1', d1, c1⟩ hx hit₁ ht₁ (by simp) fun h₂ he₂ => ?_))
    simp only [Option.isSome_none, Bool.false_eq_true, if_false]
    refine wpAny_pure (hQ h₂ fun b o hb e => he₂ b o hb (hs₁.extBut b o hb (Heap.get?_push_of_some _ e)))
theorem sk_unpack {t : Addr} {items : Array Value} {targets : List (Bool × (Value → Sem Unit))} {Q : Unit → Shared → Prop} (hot : HotAt A x1 s.heap) (ht : IsTup s.heap t items)
    (hn : targets.length = items.size) (hstar : targets.findIdx? (·.1) = none)
    (h : ∀ h', Heap.ExtBut s.heap.objs.size s.heap h' → wpAny (model prog w) A (assignInOrder (targets.map (·.2)) items.toList) Q E { s with heap := h' }) :
    wpAny (model prog w) A (unpack (.ref t) targets) Q E s := by
  unfold unpack
  rw [hn, hstar]
  exact wpAny_bind (wpAny_holding (sk_unpackItems hot ht h))
theorem sk_assign_Tuple {env : Env} {elts : List Expr} {k} {pos : Pos} {t : Addr} {items : Array Value} {Q : Unit → Shared → Prop} (hot : HotAt A x1 s.heap) (ht : IsTup s.heap t items)
    (hn : (assignEach elts env).length = items.size) (hstar : (assignEach elts env).findIdx? (·.1) = none)
    (h : ∀ h', Heap.ExtBut s.heap.objs.size s.heap h' → wpAny (model prog w) A (assignInOrder ((assignEach elts env).map (·.2)) items.toList) Q E { s with heap := h' }) :
    wpAny (model prog w) A (assign (.Tuple elts k pos) env (.ref t)) Q E s := by
  rw [assign_Tuple]
  exact wpAny_bind (wpAny_standAt (sk_unpack hot ht hn hstar h))
end
end PySem
namespace Sk
open PySem PySem.Spec PyProof.Rows L2 L2H
/-! ### the exception a is handled, the heap tells of it -/
def Held1 (a : Addr) (H : Hp) : Prop := ∃ cls d, H a = some (exT a cls d)
theorem Held1.gr {T : List (Addr × Str)} {H H' : Hp} {a : Addr} (h : Held1 a H) (g : Gr T H H') : Held1 a H' := by
  obtain ⟨cls, d, e⟩ := h
  exact ⟨cls, d, g.ext a _ e exT_ntb⟩
theorem held_at {X : Cx} {pins : List (Addr × Obj)} {σ : L2.St} {H : Hp} {s : Shared} {a : Addr} (hh : X.A.handled = some (.ref a)) (I : Inv X pins σ H s) (z : Held1 a H) : HotX.HotAt X.A a s.heap := by
  obtain ⟨cls, d, z⟩ := z
  obtain ⟨oe, vs, ha, hz, hd⟩ := exT_at I.hok z
  exact ⟨hh, oe, vs, ha, hd, hz.2.2 vs hd⟩
/-! ### what a def promises there -/
structure FnT (P : Program) (w : World) (K : PySem.W.Frag) (mg : Str → Option Value) (base : Heap) (CX : CXT) (k : Nat) (f : Addr) (fd : FuncData) (ps : List Str) (sp : Addr → Sp) : Prop where
  len : ∀ a vs H Q E, sp a vs H Q E → vs.length = ps.length
  run : ∀ (A : Around) (outer : List Env) (s : Shared) (H : Hp) (args : Args) (us : List Value) (vs : List V) (Q : VK) (E : XK) (a : Addr), RoomH k A → A.handled = some (.ref a) → Env0 P w K mg base A outer s H → BindsTo s fd args (ps.zip us) → Vals vs us → sp a vs H Q E →
    codeAny (model P w) A (.call (.ref f) args) (CR CX outer P w H s Q E) s
/-- the context of such a def's body -/
def cxT (CX : CXT) (P : Program) (w : World) (K : PySem.W.Frag) (mg : Str → Option Value) (base : Heap) (N : List Str) (qual : Str) (scope : Scope) (f : Addr) (cd : Value) (A : Around) (outer : List Env) (s : Shared) (H : Hp) (E : XK) : Cx :=
  { cxOf CX P w K mg base N qual scope f cd A outer s H E with calm := false }
theorem inv_startT {CX : CXT} {P : Program} {w : World} {K : PySem.W.Frag} {mg : Str → Option Value} {base : Heap} {N ps : List Str} {qual : Str} {scope : Scope} {f : Addr} {cd : Value} {A : Around} {outer : List Env} {s s1 : Shared} {H : Hp} {E : XK} {us : List Value} {vs : List V}
    (S : FnScope N ps scope) (e0 : Env0 P w K mg base A outer s H) (hl : vs.length = ps.length) (r : Vals vs us)
    (x : InCallC s s.heap.objs.size (bindL (envOfC qual scope s.heap.objs.size f cd).kindOf (ps.zip us) fun _ => none) (cellsFrom (s.heap.objs.size + 1) scope.names []) (bindC (envOfC qual scope s.heap.objs.size f cd).kindOf (ps.zip us) fun _ => none) s1) :
    Inv (cxT CX P w K mg base N qual scope f cd A outer s H E) [] (L2.start N vs) H s1 := by
  have hpl : ps.length ≤ N.length := by have := congrArg List.length S.pre; rw [List.length_take] at this; omega
  obtain ⟨h1, tk, rfl, hk⟩ := x.done
  have noA : ∀ b : Addr, b ∉ (cxT CX P w K mg base N qual scope f cd A outer s H E).ex := fun b z => absurd (show b ∈ ([] : List Addr) from z) (by simp)
  refine ⟨⟨e0.mod, S.kind, rfl, rfl, Nat.le_refl _, fun y z c h1 h2 => ?_, fun y hy => ?_, fun y c _ h => ?_, (fun z => Bool.noConfusion (show false = true from z)), Around.frames_deeper e0.frames, .inr ⟨rfl, rfl⟩, fun b z => absurd z (noA b), e0.bs, e0.bsz, fun b _ _ => noA b, fun b z => absurd z (noA b), e0.funs, e0.frf⟩,
    rfl, e0.bare, Un.kept hk, ⟨_, x.toInCall.ns, fun i y v h1 h2 h3 => ?_⟩, fun y c h => ⟨_, x.cell y c h⟩, e0.hok.fresh (Nat.le_refl _), fun y c h => ?_, fun q hq => absurd (show q ∈ ([] : List (Addr × Obj)) ++ [] from hq) (by simp), e0.hok.kept hk, ?_⟩
  · exact name_of_addr x.apart (PySem.mem_of_lookup h1) (PySem.mem_of_lookup h2)
  · have hy : scope.names.lookup y = some .cell ∨ scope.names.lookup y = some .free := hy
    rcases hy with hy | hy
    · exact cell_has hy
    · exact absurd rfl (S.nofree _ (PySem.mem_of_lookup hy))
  · exact Nat.le_of_lt (x.above y c (PySem.mem_of_lookup h))
  · have hi : i < vs.length := by
      unfold L2.start at h2
      by_cases hi : i < vs.length
      · exact hi
      · rw [List.getElem?_append_right (by simpa using hi)] at h2
        rw [List.getElem?_replicate] at h2
        split at h2 <;> cases h2
    have ha : vs[i]? = some v := by
      unfold L2.start at h2
      rw [List.getElem?_append_left (by simpa using hi), List.getElem?_map] at h2
      cases e : vs[i]? with
      | none => rw [e] at h2; cases h2
      | some a => rw [e] at h2; cases h2; rfl
    obtain ⟨u, hu, rv⟩ := r.get ha
    have hp : ps[i]? = some y := by
      rw [← S.pre, List.getElem?_take_of_lt (by omega)]; exact h1
    have ndP : ps.Nodup := by rw [← S.pre]; exact S.nd.sublist (List.take_sublist _ _)
    refine ⟨u, rv, ?_⟩
    rcases S.par y (List.mem_of_getElem? hp) with k | k
    · exact .inl ⟨k, bindL_get ndP hp hu k⟩
    · obtain ⟨c, e⟩ := cell_has (n := s.heap.objs.size + 1) k
      refine .inr ⟨.inl k, c, e, ?_⟩
      have q := x.cell y c e
      rw [bindC_get ndP hp hu (by show scope.names.lookup y ≠ _; rw [k]; decide)] at q
      exact q
  · exact e0.hok.fresh (Nat.le_of_lt (x.above y c (PySem.mem_of_lookup h)))
  · unfold L2.start
    show _ = N.length
    rw [List.length_append, List.length_map, List.length_replicate]
    omega
theorem fn_ofT {CX : CXT} {P : Program} {w : World} {K : PySem.W.Frag} {mg : Str → Option Value} {base : Heap} {k : Nat} {f : Addr} {name qual : Str} {params : Arguments} {body : List Stmt} {scope : Scope} {dV kV doc pm cdv ct oc : Value} {an od : Option Addr}
    {osl : Array (Option Value)} {N ps : List Str} {sp : Addr → Sp} (lk : K.lookup f = some ⟨oc, od, .func (PySem.W.fnOf name qual params body scope dV kV doc pm an cdv ct), osl⟩) (hcd : PySem.W.codeIn K cdv qual = true) (S : FnScope N ps scope)
    (len : ∀ a vs H Q E, sp a vs H Q E → vs.length = ps.length)
    (hbody : ∀ (A : Around) (outer : List Env) (s : Shared) (H : Hp) (vs : List V) (Q : VK) (E : XK) (a : Addr), A.handled = some (.ref a) → RoomH k (A.deeper (envOfC qual scope s.heap.objs.size f cdv)) → sp a vs H Q E →
      ∃ t, PSs (cxT CX P w K mg base N qual scope f cdv A outer s H E) body t ∧ t { nx := fun _ H' => Q .non H', rt := Q } (L2.start N vs) H) :
    FnT P w K mg base CX (k + 1) f (PySem.W.fnOf name qual params body scope dV kV doc pm an cdv ct) ps sp := by
  refine ⟨len, fun A outer s H args us vs Q E a hr hot e0 hb r hsp => ?_⟩
  have hl := len _ _ _ _ _ hsp
  have KX : K.In s.heap := e0.mod.kin.keeps fun b o e => (e0.bs b o e).1
  have lim : s.heap.NoLimit := e0.mod.nolimit.keeps fun b o e => (e0.bs b o e).1
  have hkind : ∀ y ∈ ps.zip us, scope.names.lookup y.1 = some .local ∨ (scope.names.lookup y.1 = some .cell ∧ ((cellsFrom (s.heap.objs.size + 1) scope.names []).lookup y.1).isSome = true) := fun ⟨n, v⟩ hy => by
    rcases S.par n (List.of_mem_zip hy).1 with q | q
    · exact .inl q
    · exact .inr ⟨q, PySem.W.cellsFrom_some _ _ _ (.inl q)⟩
  refine codeAny_call_function hr.depth (KX _ _ lk) rfl S.co S.gen rfl (PySem.W.codeRec_of KX hcd) (hb _ _ _ _ ?_)
  refine wpAny_newFunctionEnv_cells S.kind hkind fun env he s1 x => ?_
  subst he
  refine ⟨lim.keeps x.toInCall.keep, codeAny_func ?_⟩
  obtain ⟨t, ht, hq⟩ := hbody A outer s H vs Q E a hot (hr.deeper _) hsp
  have I : Inv (cxT CX P w K mg base N qual scope f cdv A outer s H E) [] (L2.start N vs) H s1 := inv_startT S e0 hl r x
  refine wpAny_mono (ht.run [] s1 (L2.start N vs) H _ I hq) (fun fl s' hs => ?_) fun e s' hs => hs
  have fin : ∀ {σ' : L2.St} {H' : Hp} {v : V} {u : Value}, Inv (cxT CX P w K mg base N qual scope f cdv A outer s H E) [] σ' H' s' → RelV v u → Q v H' → CE outer P w H s Q u s' :=
    fun {σ' H' v u} J rv q => ⟨v, H', J.os, J.bare, J.base, J.hok, rv, q⟩
  cases fl with
  | ret u =>
    obtain ⟨v, σ', H', J, rv, q⟩ := hs
    exact fin J rv q
  | next =>
    obtain ⟨σ', H', J, q⟩ := hs
    exact fin (v := V.non) (u := Value.none) J rfl q
  | brk =>
    obtain ⟨_, _, _, q⟩ := hs
    exact False.elim q
  | cont =>
    obtain ⟨_, _, _, q⟩ := hs
    exact False.elim q
/-- by name -/
structure FnTx (P : Program) (w : World) (K : PySem.W.Frag) (mg : Str → Option Value) (base : Heap) (x : Str) (k : Nat) (ps : List Str) (sp : Addr → Sp) : Prop where
  ex : ∃ (f : Addr) (fd : FuncData), FnT P w K mg base CX0 k f fd ps sp ∧ mg x = some (.ref f) ∧ PySem.W.keepIn K (.ref f) = true ∧ Binds K fd ps []
section
variable {X : Cx} {CX : CXT} {k : Nat} {f a : Addr} {fd : FuncData} {ps : List Str} {sp : Addr → Sp} {x : Str} {q pos : Pos} {e : Expr} {es : List Expr} {t : TA}
theorem run_fnT {E : L2.St → XK} {pins : List (Addr × Obj)} {σ : L2.St} {H : Hp} {s : Shared} {Q : VK} {us : List Value} {vs : List V} (F : FnT X.prog X.w X.K X.mg X.base CX k f fd ps sp) (hr : RoomH k X.A) (hh : X.A.handled = some (.ref a)) (hb : Binds X.K fd ps []) (hx : PassesAt CX X σ (E σ))
    (I : Inv X pins σ H s) (r : Vals vs us) (h : sp a vs H Q (E σ)) : wpAny (model X.prog X.w) X.A (call (.ref f) us) (EP X pins σ Q) X.xe s := by
  have hl : us.length = ps.length := by rw [← r.length]; exact F.len _ _ _ _ _ h
  have b := hb s us I.kIn (by rw [List.append_nil]; exact hl)
  rw [List.append_nil] at b
  refine wpAny_call (codeAny_mono (F.run X.A X.stack s H ⟨us, []⟩ us vs Q (E σ) a hr hh I.env0 b r h) fun r s' hq => ?_)
  cases r with
  | error e => exact hx pins H s e s' I hq
  | ok fl =>
    cases fl with
    | ret u => exact I.after hq
    | next => exact False.elim hq
    | brk => exact False.elim hq
    | cont => exact False.elim hq
theorem pe_fnT (F : FnTx X.prog X.w X.K X.mg X.base x k ps sp) (hr : RoomH k X.A) (hh : X.A.handled = some (.ref a)) (ha : PA X (e :: es) t) (hg : Gl X x := by rfl) (hdb : (x == ("__debug__" : Str)) = false := by decide)
    (he : starEach (e :: es) X.env = (false, eval e X.env) :: starEach es X.env := by rfl) (hpl : (backTo pos (starEach es X.env)).any (·.1) = false := by rfl) : PE X (.Call (.Name x q) (e :: es) [] pos) (tCallS (sp a) (fun _ => E0) t) := by
  obtain ⟨f, fd, F1, hm, hk, hb⟩ := F.ex
  refine ⟨fun pins s σ H Q I h => ?_⟩
  refine wpAny_Call_Name_kw (ld_glob I hg hm ?_ hdb)
  refine PySem.W.callWith_K (h₀ := X.base) I.ok.mod.kin hk (thn (ha.run pos pins s σ H _ I h) fun us s1 ⟨vs, H1, I1, r, q⟩ => ⟨I1.kIn, ?_⟩) he hpl
  exact run_fnT (E := fun _ => E0) F1 hr hh hb (fun pins H s e s' I c => pass0 pins σ H s e s' I c) I1 r q
end
/-! ### targets -/
def gTupT (K : PySem.W.Frag) (n : Nat) (a : Addr) (t : TGs) : TG := fun v σ H Q => Held1 a H ∧ gTup K n t v σ H Q
theorem pg_tupT {X : Cx} {a : Addr} {es : List Expr} {k : Nat} {pos : Pos} {t : TGs} {n : Nat} (hh : X.A.handled = some (.ref a)) (h : PGs X es t)
    (hn : (assignEach es X.env).length = n := by rfl) (hst : (assignEach es X.env).findIdx? (·.1) = none := by rfl) : PG X (.Tuple es k pos) (gTupT X.K n a t) := by
  refine ⟨fun pins s σ H v u Q I r hw => ?_⟩
  obtain ⟨hd, p, xs, e1, hq, hl, hw⟩ := hw
  subst e1
  cases r
  obtain ⟨its, rv, ht, hz⟩ := I.tuple hq
  refine PySem.sk_assign_Tuple (held_at hh I hd) ht (by simp [hn, ← hl, rv.length]) hst fun h' hx => ?_
  have I1 : Inv X pins σ H { s with heap := h' } := I.kept (t' := s.toks) fun b o e => hx b o (Nat.ne_of_lt (Heap.lt_size e)) e
  exact h.run pins _ σ H xs _ Q I1 (by simpa using rv) hw
/-! ### iteration over a list -/
structure TurnT (P : Program) (w : World) (K : PySem.W.Frag) (tg : Expr) (J : It) (fp : List Addr) (it : Addr) (tn : Nat → Heap → Prop) (a : Addr) : Prop where
  mem : it ∈ fp
  obj : ∀ i h, tn i h → ∀ b ∈ fp, ∃ o, h.get? b = some o ∧ ∀ v, o.data ≠ .cell v
  keep : ∀ i h h', tn i h → (∀ b ∈ fp, ∀ o, h.get? b = some o → h'.get? b = some o) → tn i h'
  item : ∀ (X : Cx), X.prog = P → X.w = w → X.K = K → ∀ (i : Nat) (pins : List (Addr × Obj)) (s : Shared) (σ : L2.St) (H : Hp) (E : Value → Shared → Prop), Inv X pins σ H s → (∀ b ∈ fp, FpOk X pins H b) → tn i s.heap → J.go i H →
    wpAny (model P w) X.A (pyNext (.ref it)) (fun r s1 => ∃ u, r = some u ∧
      wpAny (model P w) X.A (letOwnedTupleGo tg (.ref it) u) (fun _ s2 => ∃ x H', Inv X pins σ H' s2 ∧ RelV x u ∧ J.yld i H x H' ∧ tn (i + 1) s2.heap ∧ ∀ b ∈ fp, H' b = none) E s1) E s
  done : ∀ (X : Cx), X.prog = P → X.w = w → X.K = K → X.A.handled = some (.ref a) → ∀ (i : Nat) (pins : List (Addr × Obj)) (s : Shared) (σ : L2.St) (H : Hp) (E : Value → Shared → Prop), Inv X pins σ H s → Held1 a H → (∀ b ∈ fp, FpOk X pins H b) → tn i s.heap → J.stop i H →
    wpAny (model P w) X.A (pyNext (.ref it)) (fun r s1 => r = none ∧ Inv X pins σ H s1) E s
  self : ∀ (A : Around) (i : Nat) (s : Shared) (Q : Value → Shared → Prop) (E : Value → Shared → Prop), tn i s.heap → Q (.ref it) s → wpAny (model P w) A (pyIter (.ref it)) Q E s
theorem turn_listT {P : Program} {w : World} {K : PySem.W.Frag} {tg : Expr} (p it a : Addr) : TurnT P w K tg (Itl K p) [it] it (fun i h => h.IsListIter it p i) a where
  mem := by simp
  obj := fun i h st b hb => by
    have e : b = it := by simpa using hb
    subst e
    obtain ⟨o, e, c, d⟩ := st
    exact ⟨o, e, fun v z => by rw [d] at z; cases z⟩
  keep := fun i h h' st k => st.at fun o e => k it (by simp) o e
  item := by
    intro X hP hw hK i pins s σ H E I hf st hg
    subst hP hw hK
    obtain ⟨xs, x, hq, hx⟩ := hg
    obtain ⟨its, rv, p, hz⟩ := I.list hq
    obtain ⟨u, hu, ru⟩ := rv.get hx
    obtain ⟨f0, f1, f2, f3, f4, f5⟩ := hf it (by simp)
    refine wpAny_pyNext_list_item st p.isList (x := u) (by simpa using hu) fun h' st' sb => ?_
    have I1 : Inv X pins σ H { s with heap := h' } := I.turned (t' := s.toks) (fun b o hb e => (sb.2 b hb).trans e) f0 f1 f3 f4 f5
    obtain ⟨o, e, c, d⟩ := id st'
    exact ⟨u, rfl, go_of (s := { s with heap := h' }) e c d (by decide) ⟨x, H, I1, ru, ⟨rfl, fun ys hy => by rw [I.list_inj hy hq]; exact hx⟩, st', fun b hb => (hf b hb).1⟩⟩
  done := by
    intro X hP hw hK hc i pins s σ H E I hd hf st hg
    subst hP hw hK
    obtain ⟨xs, hq, hx⟩ := hg
    obtain ⟨its, rv, p, hz⟩ := I.list hq
    obtain ⟨f0, f1, f2, f3, f4, f5⟩ := hf it (by simp)
    have hl := rv.length
    have na : a ≠ it := fun z => by
      obtain ⟨cls, d, e⟩ := hd
      rw [z, f0] at e
      cases e
    exact PySem.sk_list_end (held_at hc I hd) na st p.isList (by simp; omega) fun h' eb => ⟨rfl, I.turned (t' := s.toks) (fun b o hb e => eb b o hb e) f0 f1 f3 f4 f5⟩
  self := fun _ _ _ _ _ st h => wpAny_pyIter_listiter st h
def PIET (X : Cx) (pins : List (Addr × Obj)) (σ : L2.St) (tg : Expr) (a : Addr) (R : It → Hp → Prop) (itv : Value) (s2 : Shared) : Prop :=
  ∃ (it : Addr) (fp : List Addr) (tn : Nat → Heap → Prop) (J : It) (H' : Hp), itv = .ref it ∧ Inv X pins σ H' s2 ∧ TurnT X.prog X.w X.K tg J fp it tn a ∧ tn 0 s2.heap ∧ (∀ b ∈ fp, FpOk X pins H' b) ∧ R J H'
structure PITt (X : Cx) (tg iter : Expr) (a : Addr) (wi : TI) : Prop where
  run : ∀ (pins : List (Addr × Obj)) (s : Shared) (σ : L2.St) (H : Hp) (R : It → Hp → Prop), Inv X pins σ H s → wi σ H R →
    wpAny (model X.prog X.w) X.A (eval iter X.env) (fun v s1 => wpAny (model X.prog X.w) X.A (pyIter v) (PIET X pins σ tg a R) X.xe s1) X.xe s
theorem pi_listT {X : Cx} {tg l : Expr} {a : Addr} {tl : TE} (hl : PE X l tl) : PITt X tg l a (iList X.K tl) := by
  refine ⟨fun pins s σ H R I h => ?_⟩
  refine thn (hl.run pins s σ H _ I h) fun v s1 ⟨x, H1, I1, r1, q1⟩ => ?_
  obtain ⟨p, e, ⟨xs, hq⟩, q⟩ := q1
  subst e
  cases r1
  obtain ⟨its, rv, pl, hz⟩ := I1.list hq
  refine wpAny_pyIter_list pl.isList ?_
  refine ⟨s1.heap.objs.size, [s1.heap.objs.size], _, _, H1, rfl, I1.kept (t' := s1.toks) fun b o e => Heap.get?_push_of_some _ e, turn_listT p _ a, ⟨_, Heap.get?_push_size _ rfl, rfl, rfl⟩, fun b hb => ?_, q⟩
  have e : b = s1.heap.objs.size := by simpa using hb
  subst e
  exact I1.fpOk (Nat.le_refl _) (I1.hok.fresh (Nat.le_refl _))
/-! ### [elt for target in list if ..] -/
def tLcT (a : Addr) (wi : TI) (g : TG) (tt : TT) (te : TE) (vs : List Nat) : TE := fun σ H Q => wi σ H fun J H1 => ∀ D, H1 D = none → ∃ W : Nat → Nat → Hp → Prop, (∃ m, W 0 m (upd H1 D (.lst []))) ∧ ∀ i m H, W i m H → Held1 a H ∧
  ((J.stop i H ∧ Q (.ref D) H) ∨ (J.go i H ∧ ∃ Nx : Hp → Prop, (∀ H', Nx H' → ∃ m', m' < m ∧ W (i + 1) m' H') ∧ ∀ x H', J.yld i H x H' → g x (wipe σ vs) H' fun σ2 H2 => wipe σ2 vs = wipe σ vs ∧ tt σ2 H2 fun b H3 =>
    if b = true then te σ2 H3 fun y H4 => ∃ acc, H4 D = some (.lst acc) ∧ acc.length < sizeLine ∧ Nx (upd H4 D (.lst (acc ++ [y]))) else Nx H3))
section
variable {X : Cx}
theorem lc_coreT {a : Addr} {pins : List (Addr × Obj)} {s : Shared} {σ : L2.St} {H : Hp} {Q : VK} {elt tg iter : Expr} {ifs : List Expr} {scope : Scope} {own : List (Str × Nat)} {pos pos' : Pos} {wi : TI} {g : TG} {tt : TT} {te : TE} {use : Option (Value → Sem Unit)} {Qf : Value → Shared → Prop}
    (hc : X.A.handled = some (.ref a)) (hN : X.N.Nodup) (I : Inv X pins σ H s) (hi : PITt X tg iter a wi) (ok : BlkOk X.N X.env.scope scope own)
    (hg : ∀ (s : Shared) (H : Hp) (C : Addr) (cl : List (Str × Addr)) (fp : List Addr), PG (X.blk s H scope (compEnvC scope cl C X.env) fp) tg g) (ht : ∀ (s : Shared) (H : Hp) (C : Addr) (cl : List (Str × Addr)) (fp : List Addr), PTs (X.blk s H scope (compEnvC scope cl C X.env) fp) ifs tt)
    (he : ∀ (s : Shared) (H : Hp) (C : Addr) (cl : List (Str × Addr)) (fp : List Addr), PE (X.blk s H scope (compEnvC scope cl C X.env) fp) elt te) (hs : ∀ x, foldedSetIterable iter X.env x = pure x)
    (h : tLcT a wi g tt te (own.map (·.2)) σ H Q)
    (hRR : ∀ D C s' m H', Inv X pins σ H' s' → Q (.ref D) H' → s'.heap.Ns C m → FpOk X pins H' C → compPost (model X.prog X.w) X.A X.xe use Qf (.ref D) C (.ok .next) s') :
    wpAny (model X.prog X.w) X.A (comprehension (.ListComp elt [⟨tg, iter, ifs, 0⟩] scope pos) scope X.env pos' (newList []) false (eval iter X.env) use) Qf X.xe s := by
  have hfree : ∀ y ∈ scope.names, y.2 = .free → ∃ c, X.env.cells.lookup y.1 = some c := fun y hy e => by
    rcases ok.free y hy e with k | k
    · exact I.ok.has _ (.inl k)
    · exact I.ok.has _ (.inr k)
  refine wpAny_comprehension_free (use := use) rfl hs (closure_ok hfree) ok.kind (fun y hy e => by rw [ok.uniq y hy, e])
    (thn (hi.run pins s σ H _ I h) fun xv s1 hx => thn hx fun itv s2 h2 => ?_)
  obtain ⟨it, fp, tn, J, H2, e, I2, T, st2, f2, q⟩ := h2
  subst e
  refine wpAny_newObj_type (newEnv_comp ?_) (by show 0 ≤ sizeLine; decide)
  generalize hD : s2.heap.objs.size = D
  have hDn : H2 D = none := I2.hok.fresh (Nat.le_of_eq hD)
  obtain ⟨W, ⟨m0, w0⟩, turn⟩ := q D hDn
  generalize hs3 : ({ s2 with heap := s2.heap.push { cls := .type "list", data := .seq ([] : List Value).toArray } } : Shared) = s3
  have I3 : Inv X pins σ (upd H2 D (.lst [])) s3 := by
    rw [← hs3]
    refine I2.laid (t' := s2.toks) (fun b o e => Heap.get?_push_of_some _ e) (Nat.le_of_eq hD) ⟨Nat.zero_le _, [], 0, .nil, ?_⟩
    rw [← hD]
    exact Heap.get?_push_size _ rfl
  have h3 : s3.heap = s2.heap.push { cls := .type "list", data := .seq ([] : List Value).toArray } := by rw [← hs3]
  have sz : ∀ b ∈ fp, b < s2.heap.objs.size := fun b hb => by
    obtain ⟨o, e, _⟩ := T.obj _ _ st2 b hb
    exact Heap.lt_size e
  have f3 : ∀ b ∈ fp, FpOk X pins (upd H2 D (.lst [])) b ∧ b < s3.heap.objs.size := fun b hb => by
    have hlt := sz b hb
    refine ⟨⟨?_, (f2 b hb).2⟩, by rw [h3, Heap.size_push]; exact Nat.lt_succ_of_lt hlt⟩
    rw [upd_ne (by rw [← hD]; exact Nat.ne_of_lt hlt)]
    exact (f2 b hb).1
  have st3 : tn 0 s3.heap := T.keep _ _ _ st2 fun b _ o e => by rw [h3]; exact Heap.get?_push_of_some _ e
  have I4 := block_start I3 ok hN f3
  have pg := hg s3 (upd H2 D (.lst [])) s3.heap.objs.size (cellsFrom (s3.heap.objs.size + 1) scope.names (cloFrom X.env.cells scope.names [])) fp
  have pt := ht s3 (upd H2 D (.lst [])) s3.heap.objs.size (cellsFrom (s3.heap.objs.size + 1) scope.names (cloFrom X.env.cells scope.names [])) fp
  have pe := he s3 (upd H2 D (.lst [])) s3.heap.objs.size (cellsFrom (s3.heap.objs.size + 1) scope.names (cloFrom X.env.cells scope.names [])) fp
  show codeAny _ _ (.compStart (.ListComp elt [⟨tg, iter, ifs, 0⟩] scope pos) 0 (.ref it) (.ref D) (compEnvC scope (cellsFrom (s3.heap.objs.size + 1) scope.names (cloFrom X.env.cells scope.names [])) s3.heap.objs.size X.env)) (compPost (model X.prog X.w) X.A X.xe use Qf (.ref D) s3.heap.objs.size) { s3 with heap := pushCells (s3.heap.push { cls := .type "dict", data := .dict #[] }) scope.names }
  have nfp : ∀ b ∈ fp, (upd H2 D (.lst [])) b = none := fun b hb => (f3 b hb).1.1
  generalize hce : compEnvC scope (cellsFrom (s3.heap.objs.size + 1) scope.names (cloFrom X.env.cells scope.names [])) s3.heap.objs.size X.env = ce at I4 pg pt pe ⊢
  have cL : ce.locals = s3.heap.objs.size := by subst hce; rfl
  generalize hH3 : upd H2 D (.lst []) = H3 at I3 I4 pg pt pe w0 nfp f3
  generalize hs4 : ({ s3 with heap := pushCells (s3.heap.push { cls := .type "dict", data := .dict #[] }) scope.names } : Shared) = s4 at I4 ⊢
  have st4 : tn 0 s4.heap := T.keep _ _ _ st3 fun b _ o e => by rw [← hs4]; exact pushCells_keeps _ _ _ _ (Heap.get?_push_of_some _ e)
  have stat : ∀ {σ' : L2.St} {H' : Hp} {s' : Shared}, Inv (X.blk s3 H3 scope ce fp) [] σ' H' s' → (∀ b ∈ fp, H' b = none) → ∀ b ∈ fp, FpOk (X.blk s3 H3 scope ce fp) [] H' b := fun {σ' H' s'} I' hn b hb =>
    ⟨hn b hb, (I'.ok.exf b hb).1, I'.ok.exfs b hb, .inl hb, fun x c e => (I'.ok.exf b hb).2 x c e, fun p hp => absurd (show p ∈ ([] : List (Addr × Obj)) ++ [] from hp) (by simp)⟩
  have loop : codeAny (model X.prog X.w) X.A (.compLoop (.ListComp elt [⟨tg, iter, ifs, 0⟩] scope pos) 0 (.ref it) (.ref D) ce) (compPost (model X.prog X.w) X.A X.xe use Qf (.ref D) s3.heap.objs.size) s4 := by
    refine compLoop_any (fun n s' => ∃ i H', Inv (X.blk s3 H3 scope ce fp) [] (wipe σ (own.map (·.2))) H' s' ∧ tn i s'.heap ∧ (∀ b ∈ fp, H' b = none) ∧ W i n H') ?_ m0 ⟨0, H3, I4, st4, nfp, w0⟩
    rintro n s5 ⟨i, H5, I5, st5, n5, w5⟩
    obtain ⟨hd5, turn5⟩ := turn i n H5 w5
    rcases turn5 with ⟨stop, qq⟩ | ⟨go, Nx, hNx, step⟩
    · have td := T.done (X.blk s3 H3 scope ce fp) rfl rfl rfl hc i [] s5 _ H5 (fun _ _ => False) I5 hd5 (stat I5 n5) st5 stop
      refine thnF td fun r s6 ⟨hr, I6⟩ => ?_
      subst hr
      have I7 : Inv X pins σ H5 s6 := I3.call' (ch := fp) I6.os I6.base I6.hok I6.bare fun b hb => ⟨(f3 b hb).1.2.2.2.1, (f3 b hb).1.2.1, (f3 b hb).1.2.2.2.2.1, (f3 b hb).1.2.2.2.2.2⟩
      have nC : H5 s3.heap.objs.size = none := by
        have z : H5 ce.locals = none := I6.free
        rw [cL] at z
        exact z
      obtain ⟨m, hn, _⟩ := I6.loc
      have hn : s6.heap.Ns ce.locals m := hn
      rw [cL] at hn
      exact hRR D s3.heap.objs.size s6 m H5 I7 qq hn (I3.fpOk (Nat.le_refl _) nC)
    · have ti := T.item (X.blk s3 H3 scope ce fp) rfl rfl rfl i [] s5 _ H5 (fun _ _ => False) I5 (stat I5 n5) st5 go
      refine thnF ti fun r s6 ⟨u, hr, h6⟩ => ?_
      subst hr
      refine thnF h6 fun _ s7 ⟨x, H7, I7, r7, y7, st7, n7⟩ => ?_
      have I7' := I7.pinned (stat I7 n7) (T.obj _ _ st7)
      refine thnF (pg.run _ s7 _ H7 x u _ I7' r7 (step x H7 y7)) fun _ s8 ⟨σ8, H8, I8, hw8, q8⟩ => ?_
      refine thnF (pt.run _ s8 σ8 H8 _ I8 q8) fun b s9 ⟨H9, I9, q9⟩ => ?_
      have fin : ∀ {s' : Shared} {H' : Hp}, Inv (X.blk s3 H3 scope ce fp) ([] ++ pinsAt fp s7.heap) σ8 H' s' → Nx H' → ∃ m, m < n ∧ ∃ i H', Inv (X.blk s3 H3 scope ce fp) [] (wipe σ (own.map (·.2))) H' s' ∧ tn i s'.heap ∧ (∀ b ∈ fp, H' b = none) ∧ W i m H' := fun {s' H'} I' nx => by
        obtain ⟨m', hm, w'⟩ := hNx H' nx
        have pin' : ∀ b ∈ fp, ∀ o, s7.heap.get? b = some o → s'.heap.get? b = some o ∧ H' b = none := fun b hb o e =>
          let z := I'.pin (b, o) (List.mem_append_right _ (List.mem_append_right _ (mem_pinsAt hb e)))
          ⟨z.1, z.2.1⟩
        have hl : (wipe σ (own.map (·.2))).length = σ8.length := by rw [← hw8, wipe_length]
        refine ⟨m', hm, i + 1, H', (I'.unpinned (pins := [])).weak hl (fun j v e => ?_), T.keep _ _ _ st7 fun b hb o e => (pin' b hb o e).1, fun b hb => ?_, w'⟩
        · rw [← hw8] at e
          exact (wipe_some e).1
        · obtain ⟨o, e, _⟩ := T.obj _ _ st7 b hb
          exact (pin' b hb o e).2
      cases b with
      | false =>
        simp only [Bool.false_eq_true, if_false] at q9 ⊢
        exact fin I9 q9
      | true =>
        simp only [if_true] at q9 ⊢
        refine thnF (pe.run _ s9 σ8 H9 _ I9 q9) fun z s10 ⟨yv, H10, I10, r10, acc, hD10, hz10, nx⟩ => ?_
        exact app_ok (X := X.blk s3 H3 scope ce fp) I10 hD10 hz10 r10 fun s11 I11 => fin I11 nx
  exact codeAny_compStart_list loop (T.self X.A 0 _ _ _ st4 loop)
theorem pe_lcT {a : Addr} {elt tg iter : Expr} {ifs : List Expr} {scope : Scope} {own : List (Str × Nat)} {pos : Pos} {wi : TI} {g : TG} {tt : TT} {te : TE} (hc : X.A.handled = some (.ref a)) (hN : X.N.Nodup) (hi : PITt X tg iter a wi) (ok : BlkOk X.N X.env.scope scope own)
    (hg : ∀ (s : Shared) (H : Hp) (C : Addr) (cl : List (Str × Addr)) (fp : List Addr), PG (X.blk s H scope (compEnvC scope cl C X.env) fp) tg g) (ht : ∀ (s : Shared) (H : Hp) (C : Addr) (cl : List (Str × Addr)) (fp : List Addr), PTs (X.blk s H scope (compEnvC scope cl C X.env) fp) ifs tt)
    (he : ∀ (s : Shared) (H : Hp) (C : Addr) (cl : List (Str × Addr)) (fp : List Addr), PE (X.blk s H scope (compEnvC scope cl C X.env) fp) elt te) (hs : ∀ x, foldedSetIterable iter X.env x = pure x := by intro _; rfl) :
    PE X (.ListComp elt [⟨tg, iter, ifs, 0⟩] scope pos) (tLcT a wi g tt te (own.map (·.2))) := by
  refine ⟨fun pins s σ H Q I h => ?_⟩
  rw [eval_ListComp]
  refine lc_coreT hc hN I hi ok hg ht he hs h fun D C s' m H' I' q hn f => ⟨m, hn, fun h'' sb => ?_⟩
  obtain ⟨f0, f1, f2, f3, f4, f5⟩ := f
  exact ⟨.ref D, H', I'.turned (t' := s'.toks) (fun b o hb e => (sb.2 b hb).trans e) f0 f1 f3 f4 f5, rfl, q⟩
theorem ps_setLcT {a : Addr} {i : Nat} {y : Str} {py : Pos} {elt tg iter : Expr} {ifs : List Expr} {scope : Scope} {own : List (Str × Nat)} {pos spos : Pos} {wi : TI} {g : TG} {tt : TT} {te : TE} (hc : X.A.handled = some (.ref a)) (hN : X.N.Nodup) (hy : X.N[i]? = some y) (hyl : X.env.scope.names.lookup y = some .local)
    (hsw : swapsWith (.ListComp elt [⟨tg, iter, ifs, 0⟩] scope pos) (some (.Name y py)) spos.line X.env = pure true) (hi : PITt X tg iter a wi) (ok : BlkOk X.N X.env.scope scope own)
    (hg : ∀ (s : Shared) (H : Hp) (C : Addr) (cl : List (Str × Addr)) (fp : List Addr), PG (X.blk s H scope (compEnvC scope cl C X.env) fp) tg g) (ht : ∀ (s : Shared) (H : Hp) (C : Addr) (cl : List (Str × Addr)) (fp : List Addr), PTs (X.blk s H scope (compEnvC scope cl C X.env) fp) ifs tt)
    (he : ∀ (s : Shared) (H : Hp) (C : Addr) (cl : List (Str × Addr)) (fp : List Addr), PE (X.blk s H scope (compEnvC scope cl C X.env) fp) elt te) (hs : ∀ x, foldedSetIterable iter X.env x = pure x := by intro _; rfl) :
    PS X (.Assign [.Name y py] (.ListComp elt [⟨tg, iter, ifs, 0⟩] scope pos) spos) (tAsg (tLcT a wi g tt te (own.map (·.2))) (gName i)) := by
  refine ⟨fun pins s σ H D I h => ?_⟩
  rw [exec_Assign_Name_used _ _ _ _ hsw]
  refine wpAny_bind (wpAny_standAt (wpAny_bind ?_))
  show wpAny _ X.A (do let _ ← comprehension (.ListComp elt [⟨tg, iter, ifs, 0⟩] scope pos) scope X.env (firstIterPos [⟨tg, iter, ifs, 0⟩] pos) (newList []) false (eval iter X.env) (some (assign (.Name y py) X.env))) _ _ s
  have h : tLcT a wi g tt te (own.map (·.2)) σ H (fun x H1 => gName i x σ H1 D.nx) := h
  refine wpAny_bind (thn (lc_coreT (Qf := fun _ s' => SP X pins D .next s') hc hN I hi ok hg ht he hs h fun L C s' m H' I' q hn f => ?_) fun _ s' hq => wpAny_pure (wpAny_pure hq))
  show wpAny _ _ (assign (.Name y py) X.env (.ref L)) _ _ _
  refine wpAny_assign_Name (store_ok2 (v := V.ref L) I' hN hy (.inl hyl) rfl (fun s2 I2 ⟨a, sb, ha⟩ => ?_) (.inr hyl))
  obtain ⟨f0, f1, f2, f3, f4, f5⟩ := f
  have haC : C ≠ a := by
    rcases ha with z | z
    · rw [z]; exact f1
    · exact fun e => f4 y a z e.symm
  refine ⟨m, hn.sameBut sb haC, fun h3 sb3 => ?_⟩
  exact ⟨_, H', I2.turned (t' := s2.toks) (fun b o hb e => (sb3.2 b hb).trans e) f0 f1 f3 f4 f5, q⟩
/-- over a list that the block leaves as it is -/
theorem lcT_list {K : PySem.W.Frag} {e a : Addr} {xs : List V} {g : TG} {tt : TT} {te : TE} {vs : List Nat} {σ : L2.St} {H1 : Hp} {D : Addr} {Qd : Hp → Prop} (Pv : Nat → Hp → Prop) (h0 : Pv 0 (upd H1 D (.lst []))) (hq : ∀ i H, Pv i H → SqL K H a xs) (hd1 : ∀ i H, Pv i H → Held1 e H)
    (hs : ∀ i x H, xs[i]? = some x → Pv i H → g x (wipe σ vs) H fun σ2 H2 => wipe σ2 vs = wipe σ vs ∧ tt σ2 H2 fun b H3 =>
      if b = true then te σ2 H3 fun y H4 => ∃ acc, H4 D = some (.lst acc) ∧ acc.length < sizeLine ∧ Pv (i + 1) (upd H4 D (.lst (acc ++ [y]))) else Pv (i + 1) H3) (hd : ∀ H, Pv xs.length H → Qd H) :
    ∃ W : Nat → Nat → Hp → Prop, (∃ m, W 0 m (upd H1 D (.lst []))) ∧ ∀ i m H, W i m H → Held1 e H ∧
      (((Itl K a).stop i H ∧ Qd H) ∨ ((Itl K a).go i H ∧ ∃ Nx : Hp → Prop, (∀ H', Nx H' → ∃ m', m' < m ∧ W (i + 1) m' H') ∧ ∀ x H', (Itl K a).yld i H x H' → g x (wipe σ vs) H' fun σ2 H2 => wipe σ2 vs = wipe σ vs ∧ tt σ2 H2 fun b H3 =>
        if b = true then te σ2 H3 fun y H4 => ∃ acc, H4 D = some (.lst acc) ∧ acc.length < sizeLine ∧ Nx (upd H4 D (.lst (acc ++ [y]))) else Nx H3)) := by
  refine ⟨fun i m H => m = xs.length - i ∧ i ≤ xs.length ∧ Pv i H, ⟨xs.length, by simp, Nat.zero_le _, h0⟩, ?_⟩
  rintro i m H ⟨rfl, hi, p⟩
  refine ⟨hd1 i H p, ?_⟩
  by_cases hlt : i < xs.length
  · have hx : xs[i]? = some xs[i] := List.getElem?_eq_getElem hlt
    refine .inr ⟨⟨xs, xs[i], hq i H p, hx⟩, Pv (i + 1), fun H' p' => ⟨xs.length - (i + 1), by omega, rfl, hlt, p'⟩, fun x H' y => ?_⟩
    obtain ⟨e1, y⟩ := y
    subst e1
    have := y xs (hq i _ p)
    rw [hx] at this
    cases this
    exact hs i _ _ hx p
  · have e : i = xs.length := by omega
    subst e
    exact .inl ⟨⟨xs, hq _ H p, Nat.le_refl _⟩, hd H p⟩
end
end Sk
namespace Sk
open PySem PySem.Spec PyProof.Rows L2 L2H
theorem piLT {X : Cx} {K : PySem.W.Frag} {tg l : Expr} {a : Addr} {tl : TE} (e : X.K = K) (hl : PE X l tl) : PITt X tg l a (iList K tl) := by subst e; exact pi_listT hl
/-- called with the exception that is handled -/
def hotSp (sp : Sp) : Addr → Sp := fun a vs H Q E => vs.head? = some (.ref a) ∧ sp vs H Q E
theorem fnT_of {P : Program} {w : World} {K : PySem.W.Frag} {mg : Str → Option Value} {base : Heap} {x qual : Str} {params : Arguments} {body : List Stmt} {scope : Scope} {f : Addr} {fd : FuncData} {N ps : List Str} {k : Nat} {sp : Addr → Sp} (F : FunD K x qual params body scope [] [] f fd) (S : FnScope N ps scope)
    (len : ∀ a vs H Q E, sp a vs H Q E → vs.length = ps.length)
    (hbody : ∀ (cdv : Value) (A : Around) (outer : List Env) (s : Shared) (H : Hp) (vs : List V) (Q : VK) (E : XK) (a : Addr), A.handled = some (.ref a) → RoomH k (A.deeper (envOfC qual scope s.heap.objs.size f cdv)) → sp a vs H Q E →
      ∃ t, PSs (cxT CX0 P w K mg base N qual scope f cdv A outer s H E) body t ∧ t { nx := fun _ H' => Q .non H', rt := Q } (L2.start N vs) H) : FnT P w K mg base CX0 (k + 1) f fd ps sp := by
  obtain ⟨oc, od, dV, kV, doc, pm, an, cdv, ct, osl, rfl, lk, hcd, _, _⟩ := F.ex
  exact fn_ofT lk hcd S len fun A outer s H vs Q E a hh hr hsp => hbody cdv A outer s H vs Q E a hh hr hsp
/-! ### all that is asked of the program's exception classes -/
def kiAll (K : PySem.W.Frag) (cs : List Str) (base : Str) : Bool := cs.all fun C => xcB K (He.ga K C) && ((cs.all fun D => decide (PySem.W.kitOne K (.ref (He.ga K C)) (.ref (He.ga K D)) = some (C == D))) &&
  (decide (PySem.W.kitOne K (.ref (He.ga K C)) (.ref (He.ga K base)) = some true) && (decide (PySem.W.kitOne K (.ref (He.ga K C)) (.type "ValueError") = some true) && decide (PySem.W.exmOne K (.ref (He.ga K C)) (.ref (He.ga K base)) = some true))))
structure KiC (K : PySem.W.Frag) (cs : List Str) (base C : Str) : Prop where
  xb : XcB K (He.ga K C)
  ki : ∀ D ∈ cs, PySem.W.kitOne K (.ref (He.ga K C)) (.ref (He.ga K D)) = some (C == D)
  kb : PySem.W.kitOne K (.ref (He.ga K C)) (.ref (He.ga K base)) = some true
  kv : PySem.W.kitOne K (.ref (He.ga K C)) (.type "ValueError") = some true
  xm : PySem.W.exmOne K (.ref (He.ga K C)) (.ref (He.ga K base)) = some true
theorem kiAll_ok {K : PySem.W.Frag} {cs : List Str} {base C : Str} (h : kiAll K cs base = true) (hC : C ∈ cs) : KiC K cs base C := by
  unfold kiAll at h
  have q := List.all_eq_true.mp h C hC
  simp only [Bool.and_eq_true, decide_eq_true_eq, List.all_eq_true] at q
  obtain ⟨q1, q2, q3, q4, q5⟩ := q
  exact ⟨xcB_ok q1, fun D hD => q2 D hD, q3, q4, q5⟩
/-- at e stands an exception of the class C with this value -/
def ExcV (K : PySem.W.Frag) (H : Hp) (e : Addr) (C : Str) (v : V) : Prop := ∃ dd, H e = some (exT e (.ref (He.ga K C)) (some dd)) ∧ H dd = some (.xd [("value", v)])
theorem ExcV.gr {T : List (Addr × Str)} {K : PySem.W.Frag} {H H' : Hp} {e : Addr} {C : Str} {v : V} (h : ExcV K H e C v) (g : Gr T H H') : ExcV K H' e C v := by
  obtain ⟨dd, h1, h2⟩ := h
  exact ⟨dd, g.ext e _ h1 exT_ntb, g.ext dd _ h2 fun _ z => by cases z⟩
theorem ExcV.held {K : PySem.W.Frag} {H : Hp} {e : Addr} {C : Str} {v : V} (h : ExcV K H e C v) : Held1 e H := by
  obtain ⟨dd, h1, _⟩ := h
  exact ⟨_, _, h1⟩
/-- isinstance(e, D) -/
theorem ExcV.isx {K : PySem.W.Frag} {H : Hp} {e : Addr} {C : Str} {v c : V} {cv : Value} {b : Bool} {Q : VK} (h : ExcV K H e C v) (x : XcB K (He.ga K C)) (hc : ClsV c cv) (k : PySem.W.kitOne K (.ref (He.ga K C)) cv = some b) (q : Q (.bl b) H) : rIsX K [.ref e, c] H Q := by
  obtain ⟨dd, h1, h2⟩ := h
  exact ⟨e, _, some dd, c, cv, b, rfl, ⟨h1, .inr ⟨dd, _, rfl, h2⟩⟩, x.is, hc, k, q⟩
/-- e.value -/
theorem ExcV.value {K : PySem.W.Frag} {H : Hp} {e : Addr} {C : Str} {v : V} {Q : VK} (h : ExcV K H e C v) (x : XcB K (He.ga K C)) (q : Q v H) : ∃ (a C d : Addr) (fs : List (Str × V)) (v : V), V.ref e = .ref a ∧ XfC K C ∧ PySem.W.findIn K (.ref C) "value" = some none ∧ H a = some (exT a (.ref C) (some d)) ∧ H d = some (.xd fs) ∧ fs.lookup ("value" : Str) = some v ∧ Q v H := by
  obtain ⟨dd, h1, h2⟩ := h
  exact ⟨e, _, dd, _, v, rfl, x.xf, x.nv, h1, h2, rfl, q⟩
/-! ### methods, K told -/
theorem mtCntBK {X : Cx} {K : PySem.W.Frag} (e : X.K = K) : MtR X "list.count" (rCntB K) := by subst e; exact mt_cntB
theorem mtIdxK {X : Cx} {K : PySem.W.Frag} (e : X.K = K) : MtR X "list.index" (rIndex K) := by subst e; exact mt_index
end Sk
/-! X(value=v) -/
namespace PySem
namespace HandSPX
open PySem.W PySem.Calls PyProof.Rows
section
variable {prog : Program} {w : World} {A : Around} {E : Value → Shared → Prop} {R : Result → Shared → Prop} {h : Heap} {g : Array GenState} {d : Drawn} {t : Nat} {os : OsState}
variable {nm q : Str} {C N : Addr} {bs bm bmB : List Value} {hdct : Bool} {sn : List Str} {sub : List Value} {ab : Bool} {col : Option Bool} {dd : Option Addr} {k0 k1 k2 k3 k5 : Option Value} {B newId initId : String}
theorem sk_checkK {M : Model} (F : ExcBaseFacts B newId initId bmB) (hT : ∀ X : String, bm.contains (.type X) = bmB.contains (.type X)) {u : Value} {Q : Unit → Shared → Prop}
    (hC : h.get? C = some (excClassObj nm q C N bs bm hdct sn sub ab col dd k0 k1 k2 k3 k5 newId)) (hq : Q () ⟨h, g, d, t, os⟩) : wpAny M A (checkBuiltinCall newId ⟨[.ref C], [("value", u)]⟩) Q E ⟨h, g, d, t, os⟩ := by
  have hcont : (Value.ref C :: bm).contains (.type B) = true := by rw [List.contains_cons, hT, F.hasB, Bool.or_true]
  have hstar := F.noStar
  simp only [checkBuiltinCall, F.newKind, F.newSplit, F.newRow]
  repeat (first | refine wpAny_loadPart_at hC ?_ | (refine wpAny_isSubtype_exc hC ?_; rw [hcont]) | refine wpAny_staticBase_exc hC ?_ | refine wpAny_madeBy_exc hC ?_ | simp only [bne_self_eq_false, Bool.false_eq_true, if_false] | wp_step)
  exact hq
theorem sk_newK (F : ExcBaseFacts B newId initId bmB) (hT : ∀ X : String, bm.contains (.type X) = bmB.contains (.type X)) {u : Value}
    (hC : h.get? C = some (excClassObj nm q C N bs bm hdct sn sub ab col dd k0 k1 k2 k3 k5 newId))
    (hq : R (.ok (.ret (.ref (h.objs.size + 1)))) ⟨(h.push (W.kdv_tup [])).push (excO C h.objs.size), g, d, t, os⟩) :
    codeAny (model prog w) A (.builtin newId ⟨[.ref C], [("value", u)]⟩) R ⟨h, g, d, t, os⟩ := by
  have hends := F.ends
  have hrest : ([] : List Value).length ≤ sizeLine := Nat.zero_le _
  have hcB : (Value.ref C :: bm).contains (.type B) = true := by rw [List.contains_cons, hT, F.hasB, Bool.or_true]
  have hcA : (Value.ref C :: bm).contains (.type "AttributeError") = false := by rw [List.contains_cons, hT, F.noAttr]; rfl
  have hcN : (Value.ref C :: bm).contains (.type "NameError") = false := by rw [List.contains_cons, hT, F.noName]; rfl
  refine codeAny_builtinAt F.entry ?_
  unfold Builtin.«BaseException.__new__»
  refine wpAt_bind ?_
  show wpAt _ _ _ (stack >>= _) _ _ _
  refine wpAt_bind (wpAt_stack fun p below => wpAt_of_wpAny ?_)
  wp_walk
  refine wpAt_of_wpAny ?_
  rw [F.owner]
  repeat (first | with_reducible refine wpAny_madeHere_exc F.canon hC ?_ | with_reducible refine wpAny_loadPart_at hC ?_ | (with_reducible refine wpAny_isSubtype_exc hC ?_; first | rw [hcB] | rw [hcA] | rw [hcN]) | wp_step)
  show R _ _
  rw [Heap.size_push]
  exact hq
theorem sk_typeCallK (F : ExcBaseFacts B newId initId bmB) (hT : ∀ X : String, bm.contains (.type X) = bmB.contains (.type X)) {u : Value} {fI : Addr} {Q : Fin → Shared → Prop}
    (hC : h.get? C = some (excClassObj nm q C N bs bm hdct sn sub ab col dd k0 k1 k2 k3 k5 newId))
    (hi : W.Looks (model prog w) h (typeLookup (.ref C) "__init__") (some (.ref fI))) (hb : ∀ self, W.Looks (model prog w) h (bindSpecial (.ref fI) self) (.ref fI, [self]))
    (hq : codeAny (model prog w) A (.call (.ref fI) ⟨[.ref (h.objs.size + 1)], [("value", u)]⟩)
      (fun r s' => match r with | .ok (.ret v) => v = .none ∧ Q (.done (.ret (.ref (h.objs.size + 1)))) s' | .ok _ => False | .error e => E e s')
      ⟨(h.push (W.kdv_tup [])).push (excO C h.objs.size), g, d, t, os⟩) :
    wpAny (model prog w) A (Builtin.«type.__call__» ⟨[.ref C], [("value", u)]⟩) Q E ⟨h, g, d, t, os⟩ := by
  repeat (first | with_reducible refine wpAny_loadPart_at hC ?_ | with_reducible refine wpAny_madeBy_exc hC ?_ | wp_step)
  refine codeAny_call_builtin_code (Code.quiet_builtin _ F.quiet) (sk_checkK F hT hC ?_)
  refine sk_newK F hT hC ?_
  show wpAny _ _ _ _ _ _
  have k : ∀ b o, h.get? b = some o → ((h.push (W.kdv_tup [])).push (excO C h.objs.size)).get? b = some o := fun b o e => Heap.get?_push_of_some _ (Heap.get?_push_of_some _ e)
  have hC₁ := k _ _ hC
  have hget : ((h.push (W.kdv_tup [])).push (excO C h.objs.size)).get? (h.objs.size + 1) = some (excO C h.objs.size) := by heap_get
  have hcC : (Value.ref C :: bm).contains (.ref C) = true := by simp
  have i1 := hi.keeps k
  have b1 := (hb (.ref (h.objs.size + 1))).keeps k
  unfold isInstance
  repeat (first | with_reducible refine wpAny_loadPart_at hget ?_ | (with_reducible refine wpAny_isSubtype_exc hC₁ ?_; rw [hcC]) | wp_step)
  show wpAny _ _ (typeLookup (.ref C) _) _ _ _
  refine i1.at ?_
  refine wpAny_holding (wpAny_bind (b1.at ?_))
  refine wpAny_bind (wpAny_call (codeAny_mono hq fun r s' z => ?_))
  rcases r with e | (v | _ | _ | _) <;> first | exact z | exact z.elim | skip
  obtain ⟨rfl, z⟩ := z
  first
    | exact wpAny_pure (wpAny_pure z)
    | (wp_walk; exact z)
theorem sk_callK (F : ExcBaseFacts B newId initId bmB) (hT : ∀ X : String, bm.contains (.type X) = bmB.contains (.type X)) {u : Value} {fI : Addr}
    (hC : h.get? C = some (excClassObj nm q C N bs bm hdct sn sub ab col dd k0 k1 k2 k3 k5 newId))
    (hi : W.Looks (model prog w) h (typeLookup (.ref C) "__init__") (some (.ref fI))) (hb : ∀ self, W.Looks (model prog w) h (bindSpecial (.ref fI) self) (.ref fI, [self]))
    (hq : codeAny (model prog w) (A.under (.builtin "type.__call__" ⟨[.ref C], [("value", u)]⟩)) (.call (.ref fI) ⟨[.ref (h.objs.size + 1)], [("value", u)]⟩) (W.InitBack (h.objs.size + 1) R)
      ⟨(h.push (W.kdv_tup [])).push (excO C h.objs.size), g, d, t, os⟩) :
    codeAny (model prog w) A (.call (.ref C) ⟨[], [("value", u)]⟩) R ⟨h, g, d, t, os⟩ := by
  have f1 := tc_lookup
  have f2 := tc_bind (.ref C)
  have hTy : (⟨h, g, d, t, os⟩ : Shared).TypeIs (.ref C) "type" := ⟨_, hC, rfl⟩
  refine codeAny_of_tree ?_
  show wpAny _ _ (callAny (.ref C) _) _ _ _
  repeat (any_goals (first | assumption | with_reducible refine wpAny_loadPart_at hC ?_ | wp_step))
  refine ⟨rfl, ?_⟩
  refine codeAny_call_builtin_at (Code.quiet_builtin _ (by decide +kernel)) entry_typeCall (wpAny_check_type_call_sub hC (sk_typeCallK F hT hC hi hb ?_))
  refine codeAny_mono hq fun r s' z => ?_
  rcases r with e | (v | _ | _ | _) <;> exact z
end
end HandSPX
end PySem
namespace Sk
open PySem PySem.Spec PyProof.Rows L2
section
variable {X : Cx} {x : Str} {kws : List Keyword} {t : TA} {p pos : Pos}
/-- the class is called by the keyword -/
theorem run_xcK {pins : List (Addr × Obj)} {σ : L2.St} {H1 : Hp} {s : Shared} {Q : XK} {v : V} {u : Value} (G : Xc X.prog X.w X.K X.mg X.base x) (hr : Room 2 X.A) (I1 : Inv X pins σ H1 s) (r : RelV v u)
    (q1 : ∀ d, H1 d = none → Q (.ref (He.ga X.K x)) (some d) (upd H1 d (.xd [("value", v)]))) : wpAny (model X.prog X.w) X.A (call (.ref (He.ga X.K x)) [] [("value", u)]) (fun u s' => L2N.MkP X pins σ Q u s' ∧ L2H.Six u s') X.xe s := by
  obtain ⟨fd, gk, F1, _, hb⟩ := G.fn
  obtain ⟨nm, q, N, bs, bm, sn, sub, ab, col, dd, k0, k1, k2, k3, k5, hC, hbm⟩ := G.b.ox.cls
  obtain ⟨hp, g, dr, tk, os⟩ := s
  let a : Addr := hp.objs.size + 1
  have hsz : hp.objs.size ≤ a := Nat.le_succ _
  have hn : H1 a = none := I1.hok.fresh hsz
  have kk : ∀ b o, hp.get? b = some o → ((hp.push (PySem.W.kdv_tup [])).push (PySem.HandSPX.excO (He.ga X.K x) hp.objs.size)).get? b = some o := fun b o z => Heap.get?_push_of_some _ (Heap.get?_push_of_some _ z)
  have hget : ((hp.push (PySem.W.kdv_tup [])).push (PySem.HandSPX.excO (He.ga X.K x) hp.objs.size)).get? a = some (PySem.HandSPX.excO (He.ga X.K x) hp.objs.size) := by
    show ((hp.push (PySem.W.kdv_tup [])).push (PySem.HandSPX.excO (He.ga X.K x) hp.objs.size)).get? (hp.objs.size + 1) = _
    heap_get
  have I2 := I1.laid (t' := tk) (a := a) (o := exo a (He.ga X.K x) none) (h' := (hp.push (PySem.W.kdv_tup [])).push (PySem.HandSPX.excO (He.ga X.K x) hp.objs.size)) kk hsz (exo_ok hget)
  have hq := xr_of (C := He.ga X.K x) hn q1
  have b1 := hb.to _ [Value.ref a] [u] I2.kIn rfl rfl
  have rl := hb.rel (us := [Value.ref a]) (ws := [u]) (vs := [V.ref a]) (zs := [v]) (.cons rfl .nil) (.cons r .nil)
  refine wpAny_call (PySem.HandSPX.sk_callK F.excBase_ValueError (fun Y => PySem.HandSPX.refsVE_contains Y bm hbm) (I1.kIn _ _ hC) (PySem.W.looks_findIn I1.kIn G.b.fi) (fun self => PySem.W.bind_fn I1.kIn self G.b.ti)
    (codeAny_mono (F1.run _ X.stack _ _ ⟨[Value.ref a], [("value", u)]⟩ _ _ _ E0 (hr.make (He.ga X.K x) [] [("value", u)]) (I2.env0.make (He.ga X.K x) [] [("value", u)]) b1 rl hq) fun r s' hq' => ?_))
  cases r with
  | error er => exact (pass0 : Passes CX0 X E0) pins σ _ _ er s' I2 hq'
  | ok fl =>
    cases fl with
    | ret u =>
      obtain ⟨v, H2, os2, bare2, un2, hok2, rv, ev, d, fs, ea, ed, hd1, q2⟩ := hq'
      subst ev
      obtain ⟨h2, g2, d2, t2, os'⟩ := s'
      obtain ⟨t0, Gh, J, kG, ge, hoe, na⟩ := mk_end0 (d2 := d2) (t2 := t2) I1 hsz kk un2 hok2 os2 bare2 ea ed hd1
      refine ⟨rv, ⟨hp.objs.size + 1, _, _, ⟨Gh, g2, d2, t2, os'⟩, _, .ref (He.ga X.K x), some d, rfl, J, kG, ge, hoe, ⟨rfl, rfl, fun vs hv => ?_⟩, rfl, rfl, na, rfl, bare2, raises_own G.b.ox.exC G.b.ox.tyC, q2⟩, fun a oe vs ea2 hg2 hd2 => ?_⟩
      · cases hv
        rfl
      · cases ea2
        have hg3 : h2.get? (hp.objs.size + 1) = some oe := hg2
        rw [hoe] at hg3
        cases hg3
        cases hd2
        show (4 : Nat) < 6
        decide
    | next => exact False.elim hq'
    | brk => exact False.elim hq'
    | cont => exact False.elim hq'
theorem pmk_xcK (G : Xc X.prog X.w X.K X.mg X.base x) (hr : Room 2 X.A) (hkw : PK X kws t) (hg : Gl X x := by rfl) (hdb : (x == ("__debug__" : Str)) = false := by decide)
    (hall : (backToKw pos (keywordEach kws X.env)).all (·.1.isSome) = true := by rfl) (hks : (backToKw pos (keywordEach kws X.env)).filterMap (·.1) = [("value" : Str)] := by rfl)
    (hpl : ((backTo pos (starEach [] X.env)).any (·.1) || (backToKw pos (keywordEach kws X.env)).any (·.1.isNone)) = false := by rfl) : L2N.PMk X (.Call (.Name x p) [] kws pos) (tXc X.K x t) := by
  intro pins s σ H Q I h
  refine wpAny_Call_Name_kw (ld_glob I hg G.hm ?_ hdb)
  refine PySem.W.callWith_KW0 (h₀ := X.base) I.ok.mod.kin G.b.ox.kC hall ?_ hpl
  refine thn (hkw.run pos pins s σ H _ I h) fun ws s2 ⟨zs, H2, I2, rz, v, ez, q2⟩ => ⟨I2.kIn, ?_⟩
  rw [hks]
  subst ez
  obtain ⟨u, rfl, ru⟩ : ∃ u, ws = [u] ∧ RelV v u := by
    cases rz with
    | cons r0 rr =>
      cases rr
      exact ⟨_, rfl, r0⟩
  exact wpAny_mono (run_xcK G hr I2 ru q2) (fun _ _ x => x.1) fun _ _ x => x
end
/-! ### the base class itself -/
abbrev bmVE : List Value := [Value.type "ValueError", Value.type "Exception", Value.type "BaseException", Value.type "object"]
def seB (K : PySem.W.Frag) (B : Addr) (cs : List Str) : Bool := PySem.W.excIn K B bmVE "ValueError.__new__" && (PySem.W.keepIn K (.ref B) && (decide (PySem.W.subIn K (.ref B) (.type "BaseException") = some true) && (decide (PySem.W.typeIn K (.ref B) = some (.type "type")) &&
  (decide (PySem.W.findIn K (.ref B) "__getattribute__" = some (some (.builtin "BaseException.__getattribute__"))) && (decide (PySem.W.findIn K (.ref B) "__getattr__" = some none) && (PySem.W.hasDictIn K B && (decide (PySem.W.findIn K (.ref B) "__class__" = some (some (.builtin "object.__class__"))) &&
  (decide (PySem.W.specialIn K (.builtin "object.__class__") "__get__" = some (some (.builtin "getset_descriptor.__get__"))) && (decide (PySem.W.takesIn K (.builtin "object.__class__") = some true) && (decide (PySem.W.mroIn K B (.type "object") = some true) &&
  cs.all fun D => decide (PySem.W.kitOne K (.ref B) (.ref (He.ga K D)) = some false)))))))))))
structure SeC (K : PySem.W.Frag) (B : Addr) (cs : List Str) : Prop where
  ex : PySem.W.excIn K B bmVE "ValueError.__new__" = true
  kp : PySem.W.keepIn K (.ref B) = true
  sb : PySem.W.subIn K (.ref B) (.type "BaseException") = some true
  ty : PySem.W.typeIn K (.ref B) = some (.type "type")
  xf : XfC' K B
  ki : ∀ D ∈ cs, PySem.W.kitOne K (.ref B) (.ref (He.ga K D)) = some false
theorem seB_ok {K : PySem.W.Frag} {B : Addr} {cs : List Str} (h : seB K B cs = true) : SeC K B cs := by
  unfold seB at h
  simp only [Bool.and_eq_true, decide_eq_true_eq, List.all_eq_true] at h
  obtain ⟨h1, h2, h3, h4, h5, h6, h7, h8, h9, h10, h11, h12⟩ := h
  exact ⟨h1, h2, h3, h4, ⟨h5, h6, h3, h7, h8, h9, h10, h11⟩, h12⟩
/-- B('text') -/
theorem pmk_bare {X : Cx} {x m : Str} {j : Nat} {p p2 pos : Pos} {cs : List Str} (S : seB X.K (He.ga X.K x) cs = true) (gC : X.mg x = some (.ref (He.ga X.K x))) (hg : Gl X x := by rfl) (hdb : (x == ("__debug__" : Str)) = false := by decide) :
    L2N.PMk X (.Call (.Name x p) [.Constant (.str m) j p2] [] pos) (fun _ H Q => Q (.ref (He.ga X.K x)) none H) := by
  have s := seB_ok S
  exact L2N.pmk_own F.excBase_ValueError s.ex gC s.kp (raises_own s.sb s.ty) hg hdb
theorem pe_fn0 {X : Cx} {x : Str} {k : Nat} {sp : Sp} {p pos : Pos} (F : Fn X.prog X.w X.K X.mg X.base x k [] sp) (hr : Room k X.A) (hg : Gl X x := by rfl) (hdb : (x == ("__debug__" : Str)) = false := by decide) : PE X (.Call (.Name x p) [] [] pos) (tCall sp [] E0 tNil) := by
  obtain ⟨f, fd, F1, hm, hk, hb⟩ := F.ex
  exact pe_call0 F1 hr hg hm hk hb .nil pass0 hdb
section
variable {X : Cx} {K : PySem.W.Frag} {x : Str} {e : Expr} {kws : List Keyword} {t : TA} {p pos : Pos}
theorem pmkXc (eK : X.K = K) (G : Xc X.prog X.w X.K X.mg X.base x) (hr : Room 2 X.A) (ha : PA X [e] t) (hg : Gl X x := by rfl) (hdb : (x == ("__debug__" : Str)) = false := by decide)
    (he : starEach [e] X.env = (false, eval e X.env) :: starEach [] X.env := by rfl) (hpl : (backTo pos (starEach [] X.env)).any (·.1) = false := by rfl) : L2N.PMk X (.Call (.Name x p) [e] [] pos) (tXc K x t) := by
  subst eK
  exact pmk_xc G hr ha hg hdb he hpl
theorem pmkXcK (eK : X.K = K) (G : Xc X.prog X.w X.K X.mg X.base x) (hr : Room 2 X.A) (hkw : PK X kws t) (hg : Gl X x := by rfl) (hdb : (x == ("__debug__" : Str)) = false := by decide)
    (hall : (backToKw pos (keywordEach kws X.env)).all (·.1.isSome) = true := by rfl) (hks : (backToKw pos (keywordEach kws X.env)).filterMap (·.1) = [("value" : Str)] := by rfl)
    (hpl : ((backTo pos (starEach [] X.env)).any (·.1) || (backToKw pos (keywordEach kws X.env)).any (·.1.isNone)) = false := by rfl) : L2N.PMk X (.Call (.Name x p) [] kws pos) (tXc K x t) := by
  subst eK
  exact pmk_xcK G hr hkw hg hdb hall hks hpl
theorem pmkBare {m : Str} {j : Nat} {p2 : Pos} {cs : List Str} (eK : X.K = K) (S : seB K (He.ga K x) cs = true) (gC : X.mg x = some (.ref (He.ga K x))) (hg : Gl X x := by rfl) (hdb : (x == ("__debug__" : Str)) = false := by decide) :
    L2N.PMk X (.Call (.Name x p) [.Constant (.str m) j p2] [] pos) (fun _ H Q => Q (.ref (He.ga K x)) none H) := by
  subst eK
  exact pmk_bare S gC hg hdb
end
/-- a text times an int -/
theorem op_repStr {X : Cx} : OpR X (binaryOp .Mult) (fun x y H Q => ∃ i k, x = .str i ∧ y = .int k ∧ i.length ≤ 16 ∧ 0 ≤ k ∧ k ≤ 1000 ∧ Q (.str (Txt.mul i k)) H) := by
  intro pins s σ H x y v u Q I rx ry h
  obtain ⟨i, k, rfl, rfl, hz, k0, k1, q⟩ := h
  obtain ⟨t, rfl⟩ := rx
  obtain ⟨t', rfl⟩ := ry
  exact SB.mul (mulOk_of 16 1000 hz (by omega) (by omega) (by decide) (by decide)) fun t' tk => ⟨.str (Txt.mul i k), H, I.tok _, ⟨_, rfl⟩, q⟩
end Sk
/-! the head's facts, the statics' dict among what is read -/
namespace Sk
open PySem PySem.Spec PyProof.Rows L2 He
def frC (g : Addr → Option Obj) (n : Nat) : PySem.W.Frag := frT g (asD g n ++ [cStatics])
def obsC (n : Nat) (fa : List Fa) (fn : List DefD) (tf : List Defn) (ex : PySem.W.Frag → Bool) (g : Addr → Option Obj) : AlX := (obsT fa fn [] (frC g n), ex (frC g n) && tabsB g tf (frC g n))
section
variable {n : Nat} {fa : List Fa} {fn : List DefD} {tf : List Defn} {ex : PySem.W.Frag → Bool} {w : World} {h : Heap}
theorem frC_in : (frC h.get? n).In h := frT_in
theorem saysC_of (e : obsC n fa fn tf ex h.get? = valX fn [] w) : SaysX fa fn [] tf ex w h (frC h.get? n) := by
  obtain ⟨h1, h2⟩ := Bool.and_eq_true_iff.mp (show (ex (frC h.get? n) && tabsB h.get? tf (frC h.get? n)) = true from congrArg Prod.snd e)
  have key : ∀ p ∈ tf, PySem.W.codeHdIn (frC h.get? n) (cT (frC h.get? n) p).1 (cT (frC h.get? n) p).2 = true ∧ ∃ o, h.get? (cT (frC h.get? n) p).2 = some o ∧ emptyTab o = true := by
    intro p hp
    obtain ⟨k1, k2⟩ := Bool.and_eq_true_iff.mp (List.all_eq_true.mp h2 p hp)
    refine ⟨k1, ?_⟩
    split at k2
    · exact ⟨_, ‹_›, k2⟩
    · cases k2
  refine ⟨congrArg Prod.fst e, h1, fun p hp => (key p hp).1, fun p hp => ?_, fun p hp => ?_⟩
  · obtain ⟨_, o, q, z⟩ := key p hp
    exact frT_none q z
  · obtain ⟨_, o, q, z⟩ := key p hp
    rw [q, emptyTab_eq z]
end
def hookC (n : Nat) (fa : List Fa) (fn : List DefD) (tf : List Defn) (ex : PySem.W.Frag → Bool) : PySem.W.Hook where
  α := AlX
  obs := fun s => obsC n fa fn tf ex s.heap.get?
  val := fun w => valX fn [] w
  says := fun w h => ∃ K : PySem.W.Frag, K.In h ∧ SaysX fa fn [] tf ex w h K
  of := fun _ _ e => ⟨_, frC_in, saysC_of e⟩
  keeps := fun _ _ _ ⟨K, hK, c⟩ k => ⟨K, PySem.W.Frag.In.keeps hK k, ⟨c.t, c.more, c.hd, c.out, fun p hp => k _ _ (c.empty p hp)⟩⟩
theorem obsC_eq {n : Nat} {fa : List Fa} {fn : List DefD} {tf : List Defn} {ex : PySem.W.Frag → Bool} {g : Addr → Option Obj} {s : Shared} (h : ∀ a, g a = s.heap.get? a) : obsC n fa fn tf ex g = (hookC n fa fn tf ex).obs s := by
  obtain rfl : g = s.heap.get? := funext h
  rfl
end Sk
namespace Sk
open PySem PySem.Spec PyProof.Rows L2
def topS (i : Nat) : Stmt := PySem.Challenge.pw_splitstock_k29_ways_errors.main.body.getD i (.Pass ⟨0, 0, 0, 0⟩)
abbrev FnP (K : PySem.W.Frag) (x : Str) (st : Stmt) (f : Addr) (fd : FuncData) : Prop := FunD K x x (defArgs st) (defBody st) (defScope st) [] [] f fd
structure Tx (K : PySem.W.Frag) (mg : Str → Option Value) : Prop where
  c_LETTERS : ∃ t, mg "LETTERS" = some (.str "abcdefghijklmnopqrstuvwxyz" t)
  c_MOST_LETTERS : ∃ t, mg "MOST_LETTERS" = some (.int 8 t)
  c_SPLIT : ∃ t, mg "SPLIT" = some (.str "split" t)
  c_UNDO : ∃ t, mg "UNDO" = some (.str "undo" t)
  n_ValueError : mg "ValueError" = none
  n_abs : mg "abs" = none
  n_all : mg "all" = none
  n_any : mg "any" = none
  n_bool : mg "bool" = none
  n_dict : mg "dict" = none
  n_enumerate : mg "enumerate" = none
  n_int : mg "int" = none
  n_isinstance : mg "isinstance" = none
  n_len : mg "len" = none
  n_list : mg "list" = none
  n_max : mg "max" = none
  n_min : mg "min" = none
  n_range : mg "range" = none
  n_repr : mg "repr" = none
  n_reversed : mg "reversed" = none
  n_set : mg "set" = none
  n_sorted : mg "sorted" = none
  n_str : mg "str" = none
  n_sum : mg "sum" = none
  n_tuple : mg "tuple" = none
  n_type : mg "type" = none
  n_zip : mg "zip" = none
  g_InvalidCatalogue : mg "InvalidCatalogue" = some (.ref (He.ga K "InvalidCatalogue"))
  g_InvalidNumber : mg "InvalidNumber" = some (.ref (He.ga K "InvalidNumber"))
  g_InvalidSplits : mg "InvalidSplits" = some (.ref (He.ga K "InvalidSplits"))
  g_InvalidStep : mg "InvalidStep" = some (.ref (He.ga K "InvalidStep"))
  g_InvalidStock : mg "InvalidStock" = some (.ref (He.ga K "InvalidStock"))
  g_InvalidText : mg "InvalidText" = some (.ref (He.ga K "InvalidText"))
  g_StoreError : mg "StoreError" = some (.ref (He.ga K "StoreError"))
  g_TooManySteps : mg "TooManySteps" = some (.ref (He.ga K "TooManySteps"))
  xb_InvalidCatalogue : XcB K (He.ga K "InvalidCatalogue")
  xb_InvalidSplits : XcB K (He.ga K "InvalidSplits")
  xb_InvalidStock : XcB K (He.ga K "InvalidStock")
  sb : SbB K (He.ga K "StoreError")
  ke : kiAll K ["InvalidCatalogue", "InvalidStock", "InvalidSplits", "InvalidStep", "InvalidNumber", "TooManySteps", "InvalidText"] "StoreError" = true
end Sk
namespace Sk
open PySem PySem.Spec PyProof.Rows L2
abbrev s_InvalidCatalogue___init__ : Stmt := inClass (topS 2) 0
abbrev N_InvalidCatalogue___init__ : List Str := ["self", "value"]
theorem sc_InvalidCatalogue___init__ : FnScope N_InvalidCatalogue___init__ ["self", "value"] (defScope s_InvalidCatalogue___init__) := ⟨rfl, rfl, rfl, by decide +kernel, rfl, by decide +kernel, by decide +kernel⟩
abbrev sp_InvalidCatalogue___init__ (Tb : List (Addr × Str)) (K : PySem.W.Frag) : Sp := xinit (He.ga K "InvalidCatalogue")
section
variable {P : Program} {w : World} {K : PySem.W.Frag} {mg : Str → Option Value} {base : Heap} {Tb : List (Addr × Str)}
theorem ok_InvalidCatalogue___init__ {f : Addr} {fd : FuncData} (F : FunD K "__init__" "InvalidCatalogue.__init__" (defArgs s_InvalidCatalogue___init__) (defBody s_InvalidCatalogue___init__) (defScope s_InvalidCatalogue___init__) [] [] f fd) (T : Tx K mg) : FnOk P w K mg base CX0 1 f fd ["self", "value"] (sp_InvalidCatalogue___init__ Tb K) := by
  refine F.ok sc_InvalidCatalogue___init__ (fun vs H Q E h => ?_) (fun cdv A outer s H vs Q E hr h => ?_)
  · obtain ⟨_, _, rfl, _⟩ := h
    rfl
  · obtain ⟨a, v, rfl, ea, k⟩ := h
    refine ⟨_, PSs.nox (pss_cons (ps_expr (pe_obinit T.sb T.g_StoreError (pa_cons (pv 0) (pa_cons pe_str pa_nil)))) (pss_one (ps_ost (pv 0) (pv 1)))), ?_⟩
    exact ⟨_, rfl, a, He.ga K "InvalidCatalogue", [.str _], rfl, by decide, T.xb_InvalidCatalogue.ox, ea, _, rfl, _, rfl, a, He.ga K "InvalidCatalogue", rfl, T.xb_InvalidCatalogue.ox, T.xb_InvalidCatalogue.nv, .inl ⟨ea, k⟩⟩
end
end Sk
namespace Sk
open PySem PySem.Spec PyProof.Rows L2
abbrev s_InvalidStock___init__ : Stmt := inClass (topS 3) 0
abbrev N_InvalidStock___init__ : List Str := ["self", "value"]
theorem sc_InvalidStock___init__ : FnScope N_InvalidStock___init__ ["self", "value"] (defScope s_InvalidStock___init__) := ⟨rfl, rfl, rfl, by decide +kernel, rfl, by decide +kernel, by decide +kernel⟩
abbrev sp_InvalidStock___init__ (Tb : List (Addr × Str)) (K : PySem.W.Frag) : Sp := xinit (He.ga K "InvalidStock")
section
variable {P : Program} {w : World} {K : PySem.W.Frag} {mg : Str → Option Value} {base : Heap} {Tb : List (Addr × Str)}
theorem ok_InvalidStock___init__ {f : Addr} {fd : FuncData} (F : FunD K "__init__" "InvalidStock.__init__" (defArgs s_InvalidStock___init__) (defBody s_InvalidStock___init__) (defScope s_InvalidStock___init__) [] [] f fd) (T : Tx K mg) : FnOk P w K mg base CX0 1 f fd ["self", "value"] (sp_InvalidStock___init__ Tb K) := by
  refine F.ok sc_InvalidStock___init__ (fun vs H Q E h => ?_) (fun cdv A outer s H vs Q E hr h => ?_)
  · obtain ⟨_, _, rfl, _⟩ := h
    rfl
  · obtain ⟨a, v, rfl, ea, k⟩ := h
    refine ⟨_, PSs.nox (pss_cons (ps_expr (pe_obinit T.sb T.g_StoreError (pa_cons (pv 0) (pa_cons pe_str pa_nil)))) (pss_one (ps_ost (pv 0) (pv 1)))), ?_⟩
    exact ⟨_, rfl, a, He.ga K "InvalidStock", [.str _], rfl, by decide, T.xb_InvalidStock.ox, ea, _, rfl, _, rfl, a, He.ga K "InvalidStock", rfl, T.xb_InvalidStock.ox, T.xb_InvalidStock.nv, .inl ⟨ea, k⟩⟩
end
end Sk
namespace Sk
open PySem PySem.Spec PyProof.Rows L2
abbrev s_InvalidSplits___init__ : Stmt := inClass (topS 4) 0
abbrev N_InvalidSplits___init__ : List Str := ["self", "value"]
theorem sc_InvalidSplits___init__ : FnScope N_InvalidSplits___init__ ["self", "value"] (defScope s_InvalidSplits___init__) := ⟨rfl, rfl, rfl, by decide +kernel, rfl, by decide +kernel, by decide +kernel⟩
abbrev sp_InvalidSplits___init__ (Tb : List (Addr × Str)) (K : PySem.W.Frag) : Sp := xinit (He.ga K "InvalidSplits")
section
variable {P : Program} {w : World} {K : PySem.W.Frag} {mg : Str → Option Value} {base : Heap} {Tb : List (Addr × Str)}
theorem ok_InvalidSplits___init__ {f : Addr} {fd : FuncData} (F : FunD K "__init__" "InvalidSplits.__init__" (defArgs s_InvalidSplits___init__) (defBody s_InvalidSplits___init__) (defScope s_InvalidSplits___init__) [] [] f fd) (T : Tx K mg) : FnOk P w K mg base CX0 1 f fd ["self", "value"] (sp_InvalidSplits___init__ Tb K) := by
  refine F.ok sc_InvalidSplits___init__ (fun vs H Q E h => ?_) (fun cdv A outer s H vs Q E hr h => ?_)
  · obtain ⟨_, _, rfl, _⟩ := h
    rfl
  · obtain ⟨a, v, rfl, ea, k⟩ := h
    refine ⟨_, PSs.nox (pss_cons (ps_expr (pe_obinit T.sb T.g_StoreError (pa_cons (pv 0) (pa_cons pe_str pa_nil)))) (pss_one (ps_ost (pv 0) (pv 1)))), ?_⟩
    exact ⟨_, rfl, a, He.ga K "InvalidSplits", [.str _], rfl, by decide, T.xb_InvalidSplits.ox, ea, _, rfl, _, rfl, a, He.ga K "InvalidSplits", rfl, T.xb_InvalidSplits.ox, T.xb_InvalidSplits.nv, .inl ⟨ea, k⟩⟩
end
end Sk
namespace Sk
open PySem PySem.Spec PyProof.Rows L2
abbrev s_is_name : Stmt := topS 12
abbrev N_is_name : List Str := ["text", "sign"]
theorem sc_is_name : FnScope N_is_name ["text"] (defScope s_is_name) := ⟨rfl, rfl, rfl, by decide +kernel, rfl, by decide +kernel, by decide +kernel⟩
def letters : Str := "abcdefghijklmnopqrstuvwxyz"
/-- a name of one to eight small letters -/
def nameB (x : Str) : Bool := decide (1 ≤ x.length) && (decide (x.length ≤ 8) && x.cps.toList.all fun c => decide (c ∈ letters.cps.toList))
def sp_is_name (Tb : List (Addr × Str)) (K : PySem.W.Frag) : Sp := fun vs H Q _ => ∃ x : Str, vs = [.str x] ∧ x.length ≤ 1000000 ∧ ∀ H', Gr Tb H H' → Q (.bl (nameB x)) H'
section
variable {P : Program} {w : World} {K : PySem.W.Frag} {mg : Str → Option Value} {base : Heap} {Tb : List (Addr × Str)}
theorem ok_is_name {f : Addr} {fd : FuncData} (F : FnP K "is_name" s_is_name f fd) (T : Tx K mg) : FnOk P w K mg base CX0 1 f fd ["text"] (sp_is_name Tb K) := by
  refine F.ok sc_is_name (fun vs H Q E h => ?_) (fun cdv A outer s H vs Q E hr h => ?_)
  · obtain ⟨_, rfl, _⟩ := h
    rfl
  · obtain ⟨x, rfl, hz, k⟩ := h
    refine ⟨_, PSs.nox (pss_one (ps_ret (pe_and (pe_chain op_le op_le pe_int (pe_callB call_len_str (by rfl) T.n_len (by decide +kernel) (pa_cons (pv 0) pa_nil)) (pe_gi T.c_MOST_LETTERS)) (pe_one (pe_callB (crAll (K := K) rfl rfl) (by rfl) T.n_all (by decide +kernel) (pa_cons (pe_lc (own := [("sign", 1)]) (g := (gName 1)) (tt := tYes) rfl sc_is_name.nd (pi_str (pv 0)) (blkOk_by (N := N_is_name) (sc := (defScope s_is_name)) (by decide +kernel)) (fun _ _ _ _ _ => (pg_name (i := 1) sc_is_name.nd rfl (Or.inl rfl))) (fun _ _ _ _ _ => pts_nil) (fun _ _ _ _ _ => (pe_cmpR op_in_sign (pv 1) (pe_gs T.c_LETTERS) rfl))) pa_nil)))))), ?_⟩
    refine ⟨_, rfl, x, rfl, Nat.le_trans hz (by decide), _, _, rfl, rfl, _, rfl, ?_⟩
    have k0 : ∀ b : Bool, nameB x = b → Q (.bl b) H := fun b e => by
      rw [← e]
      exact k H (Gr.refl H)
    refine ite2 (fun h1 => ?_) (fun h1 => ⟨_, rfl, iteF (k0 false ?_)⟩)
    · refine ⟨_, _, rfl, rfl, _, rfl, ite2 (fun h2 => ?_) (fun h2 => k0 false ?_)⟩
      · refine rd_allIn (Tb := Tb) rfl rfl (by show 1 < 2; decide) hz fun H' g => ?_
        have e : (x.cps.toList.all fun c => decide (c ∈ letters.cps.toList)) = nameB x := by
          unfold nameB
          rw [decide_eq_true (show 1 ≤ x.length by have := of_decide_eq_true h1; omega), decide_eq_true (show x.length ≤ 8 by have := of_decide_eq_true h2; omega)]
          rfl
        show Q (.bl (x.cps.toList.all fun c => decide (c ∈ letters.cps.toList))) H'
        rw [e]
        exact k H' g
      · have : ¬ x.length ≤ 8 := fun z => h2 (decide_eq_true (show (x.length : Int) ≤ 8 by omega))
        unfold nameB
        rw [decide_eq_false this]
        simp
    · have : ¬ 1 ≤ x.length := fun z => h1 (decide_eq_true (show (1 : Int) ≤ x.length by omega))
      unfold nameB
      rw [decide_eq_false this]
      rfl
end
end Sk
namespace Sk
open PySem PySem.Spec PyProof.Rows L2
abbrev s_is_entry : Stmt := topS 13
abbrev N_is_entry : List Str := ["entry", "earlier_names", "weights", "name", "weight", "parts", "part"]
theorem sc_is_entry : FnScope N_is_entry ["entry", "earlier_names", "weights"] (defScope s_is_entry) := ⟨rfl, rfl, rfl, by decide +kernel, rfl, by decide +kernel, by decide +kernel⟩
/-- an entry is valid, given the names ahead and all weights -/
def entB (e : Ent) (ahead : List Str) (ws : Num) : Bool := nameB e.name && (!decide (e.name ∈ ahead) && (!decide (e.w < 1) && e.parts.all fun p => match get? ws p with | some w => decide (w < e.w) | none => false))
def sp_is_entry (Tb : List (Addr × Str)) (K : PySem.W.Frag) : Sp := fun vs H Q _ => ∃ (v : V) (e : Ent) (l d : Addr) (ahead : List Str) (ws : Num), vs = [v, .ref l, .ref d] ∧ EntAt H v e ∧ H l = some (.lst (ahead.map V.str)) ∧ H d = some (.dK (dS ws)) ∧ e.name.length ≤ 1000000 ∧ e.parts.length ≤ 1000000 ∧ ∀ H', Gr Tb H H' → Q (.bl (entB e ahead ws)) H'
theorem flat_strs (l : List Str) : (l.map V.str).all flatV = true := by
  rw [List.all_map]
  exact List.all_eq_true.mpr fun _ _ => rfl
theorem inV_strs (x : Str) (l : List Str) : inV (.str x) (l.map V.str) = decide (x ∈ l) := by
  unfold inV
  rw [List.any_map]
  induction l with
  | nil => rfl
  | cons y l ih =>
    rw [List.any_cons, ih]
    show (eqV (V.str y) (V.str x) || _) = _
    have : eqV (V.str y) (V.str x) = decide (y = x) := by
      unfold eqV
      rfl
    rw [this]
    by_cases e : x = y
    · subst e
      simp
    · have e2 : ¬ y = x := fun z => e z.symm
      simp [e, e2]
section
variable {P : Program} {w : World} {K : PySem.W.Frag} {mg : Str → Option Value} {base : Heap} {Tb : List (Addr × Str)}
theorem ok_is_entry {f : Addr} {fd : FuncData} (F : FnP K "is_entry" s_is_entry f fd) (T : Tx K mg) (G_is_name : Fn P w K mg base "is_name" 1 ["text"] (sp_is_name Tb K)) : FnOk P w K mg base CX0 2 f fd ["entry", "earlier_names", "weights"] (sp_is_entry Tb K) := by
  refine F.ok sc_is_entry (fun vs H Q E h => ?_) (fun cdv A outer s H vs Q E hr h => ?_)
  · obtain ⟨_, _, _, _, _, _, rfl, _⟩ := h
    rfl
  · obtain ⟨v, e, l, d, ahead, ws, rfl, ⟨t, lp, rfl, ht, hlp⟩, hl, hd, hz, hz2, k⟩ := h
    refine ⟨_, PSs.nox (pss_cons (ps_asg (pv 0) (pg_tup rfl (pgs_cons (pg_name (i := 3) sc_is_entry.nd rfl (Or.inl rfl)) (pgs_cons (pg_name (i := 4) sc_is_entry.nd rfl (Or.inr rfl)) (pgs_cons (pg_name (i := 5) sc_is_entry.nd rfl (Or.inl rfl)) pgs_nil)))))
      (pss_cons (ps_if (PW.pt (pw_or (pt_not (pt_val (pe_fn G_is_name (hr.mono (by decide)) (pa_cons (pv 3) pa_nil)))) (pw_or (pt_cmpR (opIn (K := K) rfl) (pv 3) (pv 1) (by with_unfolding_all rfl)) (pw_or1 (pt_cmpR op_lt (pv 4) pe_int (nomark _)))))) (pss_one (ps_ret pe_bl)) pss_nil)
      (pss_one (ps_ret (pe_callB (crAll (K := K) rfl rfl) (by rfl) T.n_all (by decide +kernel) (pa_cons (pe_lc (own := [("part", 6)]) (g := (gName 6)) (tt := tYes) rfl sc_is_entry.nd (piL (K := K) rfl (pv 5)) (blkOk_by (N := N_is_entry) (sc := (defScope s_is_entry)) (by decide +kernel)) (fun _ _ _ _ _ => (pg_name (i := 6) sc_is_entry.nd rfl (Or.inl rfl))) (fun _ _ _ _ _ => pts_nil) (fun _ _ _ _ _ => (pe_and (pe_cmp (pc_din (hu_of hr) (pv 6) (pv 2))) (pe_one (pe_cmpR op_lt (pe_dget (hu_of hr) (pv 2) (pv 6) (fun _ _ => rfl)) (pv 4) (nomark _)))))) pa_nil)))))), ?_⟩
    refine ⟨_, rfl, gtup3 ht ?_⟩
    refine ⟨_, rfl, e.name, rfl, hz, fun H1 g1 => ⟨_, rfl, ?_⟩⟩
    have k0 : ∀ H' b, Gr Tb H H' → entB e ahead ws = b → Q (.bl b) H' := fun H' b g q => by
      rw [← q]
      exact k H' g
    show (if (!nameB e.name) = true then _ else _)
    refine ite2 (fun c1 => ?_) (fun c1 => ?_)
    · refine k0 _ _ g1 ?_
      unfold entB
      rw [Bool.not_eq_true'] at c1
      rw [c1]
      rfl
    have n1 : nameB e.name = true := by simpa using c1
    refine ⟨_, rfl, _, rfl, l, _, rfl, .inl (SqL.of (g1.at hl .lst)), rfl, flat_strs _, _, rfl, ?_⟩
    rw [inV_strs]
    refine ite2 (fun c2 => ?_) (fun c2 => ?_)
    · refine k0 _ _ g1 ?_
      unfold entB
      have : decide (e.name ∈ ahead) = true := c2
      rw [n1, this]
      rfl
    have n2 : decide (e.name ∈ ahead) = false := by simpa using c2
    refine ⟨_, rfl, _, _, rfl, rfl, _, rfl, ?_⟩
    refine ite2 (fun c3 => ?_) (fun c3 => ?_)
    · refine k0 _ _ g1 ?_
      unfold entB
      have : decide (e.w < 1) = true := c3
      rw [n1, n2, this]
      rfl
    have n3 : decide (e.w < 1) = false := by simpa using c3
    refine ⟨_, rfl, lp, rfl, ⟨_, SqL.of (g1.at hlp .lst)⟩, fun D hD => lc_fm (Tb := Tb) (xs := e.parts.map V.str) walk_list rfl (fun v => match v with | .str p => some (.bl (match get? ws p with | some w => decide (w < e.w) | none => false)) | _ => none) hD ?_ (fun H' g => SqL.of ((g1.trans g).at hlp .lst)) (fun j v H' hv g Rk Rs hk hs => ?_) fun H' g hD' => ?_⟩
    · rw [List.length_map]
      omega
    · rw [List.getElem?_map] at hv
      cases hc : e.parts[j]? with
      | none =>
        rw [hc] at hv
        cases hv
      | some p =>
        rw [hc] at hv
        cases hv
        have hd' := (g1.trans g).at hd .dK
        refine ⟨rfl, _, rfl, _, rfl, d, _, rfl, DGet.k (k := Sum.inr p) hd', _, rfl, ?_⟩
        rw [valV_dS]
        cases hg : get? ws p with
        | none => exact hk _ _ (by simp only [hg]) (Gr.refl _)
        | some w =>
          have dg : DGet H' d (V.str p) (some (V.int w)) := by
            have z := DGet.k (k := Sum.inr p) hd'
            rw [valV_dS, hg] at z
            exact z
          refine ⟨_, rfl, _, rfl, d, _, rfl, dg, _, rfl, _, _, rfl, rfl, hk _ _ ?_ (Gr.refl _)⟩
          simp only [hg]
    · refine ⟨D, e.parts.map fun p => match get? ws p with | some w => decide (w < e.w) | none => false, rfl, ?_, ?_⟩
      · have e1 : (e.parts.map V.str).filterMap (fun v => match v with | .str p => some (V.bl (match get? ws p with | some w => decide (w < e.w) | none => false)) | _ => none) = (e.parts.map fun p => match get? ws p with | some w => decide (w < e.w) | none => false).map V.bl := by
          rw [List.filterMap_map, List.map_map, ← List.filterMap_eq_map]
          rfl
        rw [e1] at hD'
        exact SqL.of hD'
      · refine k0 _ _ (g1.trans g) ?_
        unfold entB
        rw [n1, n2, n3, List.all_map]
        rfl
end
end Sk
namespace Sk
open PySem PySem.Spec PyProof.Rows L2
/-- a valid catalogue -/
structure Valid (es : List Ent) : Prop where
  ne : es ≠ []
  names : ∀ e ∈ es, nameB e.name = true
  nodup : (es.map (·.name)).Nodup
  pos : ∀ e ∈ es, 1 ≤ e.w
  lighter : ∀ e ∈ es, ∀ p ∈ e.parts, ∃ e' ∈ es, e'.name = p ∧ e'.w < e.w
  few : es.length ≤ 100000
  fewp : ∀ e ∈ es, e.parts.length ≤ 100000
theorem Valid.known {es : List Ent} (v : Valid es) : ∀ e ∈ es, ∀ p ∈ e.parts, p ∈ es.map (·.name) := fun e he p hp => by
  obtain ⟨e', h1, h2, _⟩ := v.lighter e he p hp
  exact List.mem_map.mpr ⟨e', h1, h2⟩
theorem Valid.perm {es es' : List Ent} (p : es'.Perm es) (v : Valid es) : Valid es' :=
  ⟨fun z => v.ne (by subst z; exact (List.nil_perm.mp p)), fun e he => v.names e (p.mem_iff.mp he), ((p.map _).nodup_iff).mpr v.nodup, fun e he => v.pos e (p.mem_iff.mp he),
    fun e he q hq => by
      obtain ⟨e', h1, h2⟩ := v.lighter e (p.mem_iff.mp he) q hq
      exact ⟨e', p.mem_iff.mpr h1, h2⟩, by rw [p.length_eq]; exact v.few, fun e he => v.fewp e (p.mem_iff.mp he)⟩
/-- the weights of all names: the first of each -/
def fw (es : List Ent) : Num := es.foldl (fun d e => if e.name ∈ d.map (·.1) then d else d ++ [(e.name, e.w)]) []
/-- all entries ahead of this one are fine -/
def FineTo (es : List Ent) (i : Nat) : Prop := ∀ j e, j < i → es[j]? = some e → entB e ((es.take j).map (·.name)) (fw es) = true
def BadCat (es : List Ent) (i : Nat) : Prop := (es = [] ∧ i = 0) ∨ ∃ e, es[i]? = some e ∧ entB e ((es.take i).map (·.name)) (fw es) = false ∧ FineTo es i
def sp_check_catalogue (Tb : List (Addr × Str)) (K : PySem.W.Frag) : Sp := fun vs H Q E => ∃ (a : Addr) (xs : List V) (es : List Ent), vs = [.ref a] ∧ SqL K H a xs ∧ CatAt H xs es ∧ es.length ≤ 100000 ∧ (∀ e ∈ es, e.name.length ≤ 1000000 ∧ e.parts.length ≤ 100000) ∧ (Valid es → ∀ H', Gr Tb H H' → Q .non H') ∧
  (∀ (i : Nat) dd H', BadCat es i → Gr Tb H H' → H' dd = some (.xd [("value", .int i)]) → E (.ref (He.ga K "InvalidCatalogue")) (some dd) H')
/-- the weights by name -/
def wts (es : List Ent) : Num := es.map fun e => (e.name, e.w)
theorem get_none {d : Num} {x : Str} (h : x ∉ d.map (·.1)) : get? d x = none := by
  unfold get?
  rw [List.find?_eq_none.mpr fun q hq => by
    rw [decide_eq_true_eq]
    exact fun e => h (List.mem_map.mpr ⟨q, hq, e⟩)]
  rfl
theorem get_some {d : Num} {x : Str} {i : Int} (nd : (d.map (·.1)).Nodup) (h : (x, i) ∈ d) : get? d x = some i := by
  unfold get?
  induction d with
  | nil => cases h
  | cons q d ih =>
    rw [List.map_cons, List.nodup_cons] at nd
    rcases List.mem_cons.mp h with e | h
    · subst e
      simp
    · have : q.1 ≠ x := fun e => nd.1 (List.mem_map.mpr ⟨_, h, e.symm⟩)
      rw [List.find?_cons_of_neg (by simpa using this)]
      exact ih nd.2 h
theorem put_new {d : Num} {x : Str} {i : Int} (h : x ∉ d.map (·.1)) : put d x i = d ++ [(x, i)] := by
  unfold put
  rw [if_neg]
  rw [List.any_eq_true]
  rintro ⟨q, hq, e⟩
  exact h (List.mem_map.mpr ⟨q, hq, by simpa using e⟩)
theorem wts_names (es : List Ent) : (wts es).map (·.1) = es.map (·.name) := by
  unfold wts
  rw [List.map_map]
  rfl
theorem take_notin {es : List Ent} (nd : (es.map (·.name)).Nodup) {i : Nat} {e : Ent} (h : es[i]? = some e) : e.name ∉ (es.take i).map (·.name) := by
  intro hm
  rw [List.map_take] at hm
  obtain ⟨j, hj⟩ := List.mem_iff_getElem?.mp hm
  have h1 : (es.map (·.name))[i]? = some e.name := by rw [List.getElem?_map, h]; rfl
  have hji : j < i := by
    rcases Nat.lt_or_ge j i with q | q
    · exact q
    · rw [List.getElem?_take, if_neg (by omega)] at hj
      cases hj
  rw [List.getElem?_take_of_lt hji] at hj
  have := nodup_ix nd hj h1
  omega
theorem take_snoc {α : Type} {es : List α} {i : Nat} {e : α} (h : es[i]? = some e) : es.take (i + 1) = es.take i ++ [e] := by
  rw [List.take_add_one, h]
  rfl
theorem len_ok {x : Str} (h : nameB x = true) : x.length ≤ 8 := by
  unfold nameB at h
  simp only [Bool.and_eq_true, decide_eq_true_eq] at h
  exact h.2.1
theorem entB_valid {es : List Ent} (v : Valid es) {i : Nat} {e : Ent} (h : es[i]? = some e) : entB e ((es.take i).map (·.name)) (wts es) = true := by
  have hm := List.mem_of_getElem? h
  unfold entB
  rw [v.names e hm, decide_eq_false (take_notin v.nodup h), decide_eq_false (show ¬ e.w < 1 by have := v.pos e hm; omega)]
  simp only [Bool.not_false, Bool.true_and, List.all_eq_true]
  intro p hp
  obtain ⟨e', he', hn, hw⟩ := v.lighter e hm p hp
  have : get? (wts es) p = some e'.w := get_some (by rw [wts_names]; exact v.nodup) (by rw [← hn]; exact List.mem_map.mpr ⟨e', he', rfl⟩)
  rw [this]
  simpa using hw
end Sk
namespace Sk
open PySem PySem.Spec PyProof.Rows L2
theorem fw_snoc (l : List Ent) (e : Ent) : fw (l ++ [e]) = if e.name ∈ (fw l).map (·.1) then fw l else fw l ++ [(e.name, e.w)] := by
  unfold fw
  rw [List.foldl_append]
  rfl
theorem fw_len (es : List Ent) : (fw es).length ≤ es.length := by
  have key : ∀ (l : List Ent) (d : Num), (l.foldl (fun d e => if e.name ∈ d.map (·.1) then d else d ++ [(e.name, e.w)]) d).length ≤ d.length + l.length := by
    intro l
    induction l with
    | nil => intro d; exact Nat.le_refl _
    | cons e l ih =>
      intro d
      rw [List.foldl_cons, List.length_cons]
      refine Nat.le_trans (ih _) ?_
      split
      · omega
      · rw [List.length_append, List.length_singleton]
        omega
  have := key es []
  rw [List.length_nil, Nat.zero_add] at this
  exact this
theorem mem_names (d : Num) (x : Str) : x ∈ d.map (·.1) ↔ get? d x ≠ none := by
  constructor
  · intro h z
    obtain ⟨q, hq, rfl⟩ := List.mem_map.mp h
    unfold get? at z
    rw [Option.map_eq_none_iff, List.find?_eq_none] at z
    exact z q hq (decide_eq_true rfl)
  · intro h
    exact Decidable.byContradiction fun z => h (get_none z)
theorem find_one {α : Type} (p : α → Bool) (x : α) : [x].find? p = if p x = true then some x else none := by
  cases h : p x with
  | true =>
    rw [List.find?_cons_of_pos h]
    rfl
  | false =>
    rw [List.find?_cons_of_neg (by rw [h]; decide)]
    rfl
theorem get_snoc (d : Num) (q : Str × Int) (x : Str) : get? (d ++ [q]) x = (get? d x).or (if q.1 = x then some q.2 else none) := by
  unfold get?
  rw [List.find?_append]
  cases h : d.find? fun q => decide (q.1 = x) with
  | some y => rfl
  | none =>
    rw [find_one]
    by_cases z : q.1 = x
    · rw [if_pos z, if_pos (decide_eq_true z)]
      rfl
    · rw [if_neg z, if_neg (by simpa using z)]
      rfl
theorem fw_snocG (es : List Ent) (e : Ent) (x : Str) : get? (fw (es ++ [e])) x = (get? (fw es) x).or (if e.name = x then some e.w else none) := by
  rw [fw_snoc]
  by_cases h : e.name ∈ (fw es).map (·.1)
  · rw [if_pos h]
    by_cases z : e.name = x
    · cases hg : get? (fw es) x with
      | some w => rfl
      | none => exact absurd (z ▸ hg) ((mem_names _ _).mp h)
    · rw [if_neg z, Option.or_none]
  · rw [if_neg h, get_snoc]
theorem fw_get : ∀ (n : Nat) (es : List Ent), es.length = n → ∀ x, get? (fw es) x = (es.find? fun e => decide (e.name = x)).map (·.w)
  | 0, es, h, x => by
    obtain rfl := List.length_eq_zero_iff.mp h
    rfl
  | n + 1, es, h, x => by
    obtain ⟨l, e, rfl⟩ : ∃ l e, es = l ++ [e] := ⟨es.dropLast, es.getLast (fun z => by rw [z] at h; cases h), (List.dropLast_concat_getLast _).symm⟩
    rw [List.length_append] at h
    have hl : l.length = n := by simpa using h
    rw [fw_snocG, fw_get n l hl x, List.find?_append]
    cases hf : l.find? fun e => decide (e.name = x) with
    | some y => rfl
    | none =>
      rw [find_one]
      by_cases z : e.name = x
      · rw [if_pos z, if_pos (decide_eq_true z)]
        rfl
      · rw [if_neg z, if_neg (by simpa using z)]
        rfl
theorem entB_congr {e : Ent} {a a2 : List Str} {ws vs : Num} (ha : ∀ x, x ∈ a ↔ x ∈ a2) (h : ∀ x, get? ws x = get? vs x) : entB e a ws = entB e a2 vs := by
  unfold entB
  have : decide (e.name ∈ a) = decide (e.name ∈ a2) := decide_eq_decide.mpr (ha _)
  rw [this]
  simp only [h]
theorem fw_wts {es : List Ent} (nd : (es.map (·.name)).Nodup) : ∀ x, get? (fw es) x = get? (wts es) x := fun x => by
  rw [fw_get _ es rfl]
  cases hf : es.find? fun e => decide (e.name = x) with
  | none =>
    rw [get_none]
    · rfl
    · rw [wts_names]
      intro h
      obtain ⟨e, he, rfl⟩ := List.mem_map.mp h
      exact List.find?_eq_none.mp hf e he (decide_eq_true rfl)
  | some e =>
    have h1 := List.mem_of_find?_eq_some hf
    have h2 := of_decide_eq_true (List.find?_some (p := fun e : Ent => decide (e.name = x)) hf)
    rw [get_some (by rw [wts_names]; exact nd) (show (x, e.w) ∈ wts es by rw [← h2]; exact List.mem_map.mpr ⟨e, h1, rfl⟩)]
    rfl
theorem Valid.fine {es : List Ent} (v : Valid es) (i : Nat) : FineTo es i := fun j e _ he => by
  rw [entB_congr (fun _ => Iff.rfl) (fw_wts v.nodup)]
  exact entB_valid v he
theorem valid_of {es : List Ent} (ne : es ≠ []) (f : FineTo es es.length) (few : es.length ≤ 100000) (fewp : ∀ e ∈ es, e.parts.length ≤ 100000) : Valid es := by
  have key : ∀ j e, es[j]? = some e → nameB e.name = true ∧ e.name ∉ (es.take j).map (·.name) ∧ 1 ≤ e.w ∧ ∀ p ∈ e.parts, ∃ w, get? (fw es) p = some w ∧ w < e.w := fun j e he => by
    have h := f j e (List.getElem?_eq_some_iff.mp he).1 he
    unfold entB at h
    simp only [Bool.and_eq_true, Bool.not_eq_true', decide_eq_false_iff_not, List.all_eq_true] at h
    obtain ⟨h1, h2, h3, h4⟩ := h
    refine ⟨h1, h2, by omega, fun p hp => ?_⟩
    have := h4 p hp
    cases hg : get? (fw es) p with
    | none => rw [hg] at this; cases this
    | some w => rw [hg] at this; exact ⟨w, rfl, of_decide_eq_true this⟩
  have ix : ∀ e ∈ es, ∃ j, es[j]? = some e := fun e he => List.mem_iff_getElem?.mp he
  refine ⟨ne, fun e he => ?_, ?_, fun e he => ?_, fun e he p hp => ?_, few, fewp⟩
  · obtain ⟨j, hj⟩ := ix e he
    exact (key j e hj).1
  · refine List.pairwise_iff_getElem.mpr fun i j hi hj hij hz => ?_
    rw [List.length_map] at hj hi
    have ej : es[j]? = some es[j] := List.getElem?_eq_getElem hj
    have ei : es[i]? = some es[i] := List.getElem?_eq_getElem (by omega)
    refine (key j _ ej).2.1 ?_
    rw [List.getElem_map, List.getElem_map] at hz
    rw [← hz]
    exact List.mem_map.mpr ⟨es[i], List.mem_iff_getElem?.mpr ⟨i, by rw [List.getElem?_take_of_lt hij]; exact ei⟩, rfl⟩
  · obtain ⟨j, hj⟩ := ix e he
    exact (key j e hj).2.2.1
  · obtain ⟨j, hj⟩ := ix e he
    obtain ⟨w, h1, h2⟩ := (key j e hj).2.2.2 p hp
    rw [fw_get _ es rfl] at h1
    cases hf : es.find? fun e => decide (e.name = p) with
    | none => rw [hf] at h1; cases h1
    | some e' =>
      rw [hf] at h1
      exact ⟨e', List.mem_of_find?_eq_some hf, of_decide_eq_true (List.find?_some (p := fun e : Ent => decide (e.name = p)) hf), by rw [show e'.w = w from Option.some.inj h1]; exact h2⟩
theorem BadCat.notValid {es : List Ent} {i : Nat} (b : BadCat es i) (v : Valid es) : False := by
  rcases b with ⟨h, _⟩ | ⟨e, h1, h2, _⟩
  · exact v.ne h
  · have := v.fine (i + 1) i e (by omega) h1
    rw [h2] at this
    cases this
theorem BadCat.uniq {es : List Ent} {i j : Nat} (b : BadCat es i) (c : BadCat es j) : i = j := by
  have key : ∀ {i j : Nat} {e : Ent}, es[i]? = some e → entB e ((es.take i).map (·.name)) (fw es) = false → FineTo es j → ¬ i < j := fun {i j e} h1 h2 h3 z => by
    have := h3 i e z h1
    rw [h2] at this
    cases this
  rcases b with ⟨h, rfl⟩ | ⟨e, h1, h2, h3⟩
  · rcases c with ⟨_, rfl⟩ | ⟨e, h1, _⟩
    · rfl
    · rw [h] at h1
      simp at h1
  · rcases c with ⟨h, _⟩ | ⟨e', g1, g2, g3⟩
    · rw [h] at h1
      simp at h1
    · have a := key h1 h2 g3
      have b := key g1 g2 h3
      omega
theorem cat_cases (es : List Ent) (few : es.length ≤ 100000) (fewp : ∀ e ∈ es, e.parts.length ≤ 100000) : Valid es ∨ ∃ i, BadCat es i := by
  by_cases z : es = []
  · exact .inr ⟨0, .inl ⟨z, rfl⟩⟩
  · have key : ∀ n : Nat, FineTo es n ∨ ∃ i, BadCat es i := by
      intro n
      induction n with
      | zero => exact .inl fun _ _ h => absurd h (Nat.not_lt_zero _)
      | succ n ih =>
        rcases ih with f | b
        · cases he : es[n]? with
          | none =>
            refine .inl fun j e h hj => ?_
            rcases Nat.lt_succ_iff_lt_or_eq.mp h with h | rfl
            · exact f j e h hj
            · rw [he] at hj; cases hj
          | some e =>
            cases hb : entB e ((es.take n).map (·.name)) (fw es) with
            | false => exact .inr ⟨n, .inr ⟨e, he, hb, f⟩⟩
            | true =>
              refine .inl fun j e' h hj => ?_
              rcases Nat.lt_succ_iff_lt_or_eq.mp h with h | rfl
              · exact f j e' h hj
              · rw [he] at hj
                cases hj
                exact hb
        · exact .inr b
    rcases key es.length with f | b
    · exact .inl (valid_of z f few fewp)
    · exact .inr b
end Sk
namespace Sk
open PySem PySem.Spec PyProof.Rows L2
abbrev s_check_catalogue : Stmt := topS 14
abbrev N_check_catalogue : List Str := ["catalogue", "weights", "earlier_names", "name", "weight", "parts", "index", "entry"]
theorem sc_check_catalogue : FnScope N_check_catalogue ["catalogue"] (defScope s_check_catalogue) := ⟨rfl, rfl, rfl, by decide +kernel, rfl, by decide +kernel, by decide +kernel⟩
section
variable {P : Program} {w : World} {K : PySem.W.Frag} {mg : Str → Option Value} {base : Heap} {Tb : List (Addr × Str)}
theorem ok_check_catalogue {f : Addr} {fd : FuncData} (F : FnP K "check_catalogue" s_check_catalogue f fd) (T : Tx K mg) (XC_InvalidCatalogue : Xc P w K mg base "InvalidCatalogue") (G_is_entry : Fn P w K mg base "is_entry" 2 ["entry", "earlier_names", "weights"] (sp_is_entry Tb K)) : FnOk P w K mg base (L2N.CX P w) 3 f fd ["catalogue"] (sp_check_catalogue Tb K) := by
  refine F.ok (CX := L2N.CX P w) sc_check_catalogue (fun vs H Q E h => ?_) (fun cdv A outer s H vs Q E hr h => ?_)
  · obtain ⟨_, _, _, rfl, _⟩ := h
    rfl
  · obtain ⟨a, xs, es, rfl, ha, hc, hz, hsz, k1, k2⟩ := h
    refine ⟨_, (pss_cons (ps_if (pt_cmpR (opEqNil (K := K) rfl hr.units) (pv 0) (pe_lst pa_nil) (nomark _)) (pss_one (L2N.ps_raise rfl (L2N.takes_of rfl rfl rfl rfl) (pmk_xc XC_InvalidCatalogue (hr.mono (by decide)) (pa_cons pe_int pa_nil)))) pss_nil)
      (pss_cons (ps_set (i := 1) sc_check_catalogue.nd rfl (Or.inl rfl) pe_dnewK)
      (pss_cons (ps_for (passes_of rfl) rfl (piL (K := K) rfl (pv 0)) (pg_tup rfl (pgs_cons (pg_name (i := 3) sc_check_catalogue.nd rfl (Or.inl rfl)) (pgs_cons (pg_name (i := 4) sc_check_catalogue.nd rfl (Or.inl rfl)) (pgs_cons (pg_name (i := 5) sc_check_catalogue.nd rfl (Or.inl rfl)) pgs_nil)))) (pss_one (ps_expr (pe_dsetd (pv 1) (pv 3) (pv 4) ⟨rfl, rfl, rfl, rfl⟩))))
      (pss_cons (ps_set (i := 2) sc_check_catalogue.nd rfl (Or.inl rfl) (pe_lst pa_nil))
      (pss_one (ps_for (passes_of rfl) rfl (piEnum (K := K) rfl (by rfl) T.n_enumerate (pa_cons (pv 0) pa_nil)) (pg_tup rfl (pgs_cons (pg_name (i := 6) sc_check_catalogue.nd rfl (Or.inl rfl)) (pgs_cons (pg_name (i := 7) sc_check_catalogue.nd rfl (Or.inl rfl)) pgs_nil))) (pss_cons (ps_if (pt_not (pt_val (pe_fn G_is_entry (hr.mono (by decide)) (pa_cons (pv 7) (pa_cons (pv 2) (pa_cons (pv 1) pa_nil)))))) (pss_one (L2N.ps_raise rfl (L2N.takes_of rfl rfl rfl rfl) (pmk_xc XC_InvalidCatalogue (hr.mono (by decide)) (pa_cons (pv 6) pa_nil)))) pss_nil)
        (pss_one (ps_expr (peBm (K := K) rfl PySem.F.plainAttrs_list PySem.F.slot_list_append PySem.F.type_list_append mt_append (pv 2) (pa_cons (pe_ix (ixT (K := K) rfl) (pv 7) pe_int (fun _ _ => rfl)) pa_nil))))))))))), ?_⟩
    have hlen := Paired.len hc
    refine ⟨_, rfl, rd_nil ha fun p hp => ⟨_, rfl, ?_⟩⟩
    refine ite2 (fun he => ?_) (fun he => ?_)
    · have e0 : es = [] := by
        cases xs with
        | nil => cases hc; rfl
        | cons _ _ => cases he
      exact ⟨_, rfl, fun dd hdd => k2 0 dd _ (.inl ⟨e0, rfl⟩) ((Gr.new hp).trans (Gr.new hdd)) upd_same⟩
    have ne : es ≠ [] := fun z => by
      subst z
      cases hc
      exact he rfl
    intro d hd
    have hd0 : Nw H d := (Gr.new (T := Tb) hp).nw (.of hd)
    have g0 : Gr Tb H (upd (upd H p (.lst [])) d (.dK [])) := (Gr.new hp).trans (Gr.new hd)
    refine ⟨_, rfl, a, rfl, ⟨_, (g0.ext_seq ha)⟩, for_list (K := K) (a := a) (xs := xs) (fun i σ H' => ∃ s3 s4 s5 : Option V, σ = [some (.ref a), some (.ref d), none, s3, s4, s5, none, none] ∧ Gr Tb H H' ∧ H' d = some (.dK (dS (fw (es.take i)))))
      ⟨none, none, none, rfl, g0, upd_same⟩ (fun i σ H' _ ⟨_, _, _, _, g, _⟩ => g.ext_seq ha) ?_ ?_⟩
    · rintro i x σ H' hx ⟨s3, s4, s5, rfl, g, hdd⟩
      obtain ⟨e, he, t, lp, rfl, ht, hlp⟩ := Paired.at hc hx
      have hfl := fw_len (es.take i)
      rw [List.length_take] at hfl
      refine gtup3 (g.at ht .tup) ⟨_, rfl, d, rfl, .inl ⟨_, .inl hdd⟩, _, rfl, _, rfl, _, Sum.inr e.name, hdd, rfl, ?_, ?_, ?_⟩
      · rw [dS_len, sizeLine_eq]
        omega
      · intro v hv'
        rw [valV_dS] at hv'
        refine ⟨_, _, _, rfl, g, ?_⟩
        rw [take_snoc he, fw_snoc, if_pos ((mem_names _ _).mpr fun z => by rw [z] at hv'; cases hv')]
        exact hdd
      · intro hn
        rw [valV_dS] at hn
        have nn : e.name ∉ (fw (es.take i)).map (·.1) := fun z => (mem_names _ _).mp z (by
          cases hg : get? (fw (es.take i)) e.name with
          | none => rfl
          | some w => rw [hg] at hn; cases hn)
        refine ⟨_, _, _, rfl, g.mut hd0 hdd .dK, ?_⟩
        rw [upd_same, putK_dS, put_new nn, take_snoc he, fw_snoc, if_neg nn]
    · rintro σ H' ⟨s3, s4, s5, rfl, g, hdd⟩
      rw [hlen, List.take_length] at hdd
      refine ⟨Nat.zero_le _, fun l hl => ?_⟩
      have dl : d ≠ l := ne_of_none hdd hl
      have hl0 : Nw H l := g.nw (.of hl)
      have g1 : Gr Tb H (upd H' l (.lst [])) := g.trans (Gr.new hl)
      refine ⟨_, rfl, a, xs, rfl, g1.ext_seq ha, for_it (walk_enum (xs := xs)) (fun i σ H' => ∃ s3 s4 s5 s6 s7 : Option V, σ = [some (.ref a), some (.ref d), some (.ref l), s3, s4, s5, s6, s7] ∧ Gr Tb H H' ∧ H' d = some (.dK (dS (fw es))) ∧ H' l = some (.lst (((es.take i).map (·.name)).map V.str)) ∧ FineTo es i)
        ⟨_, _, _, _, _, rfl, g1, by rw [upd_ne dl]; exact hdd, by rw [upd_same]; rfl, fun j e h => absurd h (Nat.not_lt_zero _)⟩ (fun i σ H' _ ⟨_, _, _, _, _, _, g, _⟩ => g.ext_seq ha) ?_ ?_⟩
      · rintro i x σ H1 H2 hi ⟨s3, s4, s5, s6, s7, rfl, g2, hdd, hll, fine⟩ ⟨T, x1, x2, rfl, hT, rfl, e1, e2⟩
        cases e1
        obtain ⟨e, he, t, lp, rfl, ht, hlp⟩ := Paired.at hc e2
        have hm := List.mem_of_getElem? he
        obtain ⟨z1, z2⟩ := hsz e hm
        have hi' := (List.getElem?_eq_some_iff.mp he).1
        have g3' : Gr Tb H (upd H1 T (.tup [.int (i : Nat), .ref t])) := g2.trans (Gr.new hT)
        have hd3 : upd H1 T (.tup [.int (i : Nat), .ref t]) d = _ := (upd_ne (ne_of_none hdd hT)).trans hdd
        have hl3 : upd H1 T (.tup [.int (i : Nat), .ref t]) l = _ := (upd_ne (ne_of_none hll hT)).trans hll
        refine gtup2 upd_same ?_
        refine ⟨_, rfl, _, rfl, _, rfl, .ref t, e, l, d, _, _, rfl, ⟨t, lp, rfl, g3'.at ht .tup, g3'.at hlp .lst⟩, hl3, hd3, z1, Nat.le_trans z2 (by decide), fun H4 g4 => ⟨_, rfl, ?_⟩⟩
        have g5 := g3'.trans g4
        cases hb : entB e ((es.take i).map (·.name)) (fw es) with
        | false =>
          exact ⟨_, rfl, _, rfl, fun dd hdd => k2 i dd _ (.inr ⟨e, he, hb, fine⟩) (g5.trans (Gr.new hdd)) upd_same⟩
        | true =>
          have hl5 := g4.at hl3 .lst
          refine ⟨_, rfl, .inl ⟨rfl, _, SqL.of hl5⟩, _, rfl, t, _, _, _, rfl, rfl, SqT.of (g5.at ht .tup), atI_nat (j := 0) rfl, l, _, _, rfl, rfl, hl5, ?_, ?_⟩
          · rw [List.length_map, List.length_map, List.length_take, sizeLine_eq]
            omega
          · refine ⟨_, _, _, _, _, rfl, g5.mut hl0 hl5 .lst, ?_, ?_, ?_⟩
            · rw [upd_ne dl]
              exact g4.at hd3 .dK
            · rw [upd_same, take_snoc he, List.map_append, List.map_append]
              rfl
            · intro j e' h hj
              rcases Nat.lt_succ_iff_lt_or_eq.mp h with h | rfl
              · exact fine j e' h hj
              · rw [he] at hj
                cases hj
                exact hb
      · rintro σ H1 ⟨s3, s4, s5, s6, s7, rfl, g2, hdd, hll, fine⟩
        rw [hlen] at fine
        exact k1 (valid_of ne fine hz fun e he => (hsz e he).2) H1 g2
end
end Sk
namespace Sk
open PySem PySem.Spec PyProof.Rows L2
abbrev s_ordered : Stmt := topS 15
abbrev N_ordered : List Str := ["catalogue"]
theorem sc_ordered : FnScope N_ordered ["catalogue"] (defScope s_ordered) := ⟨rfl, rfl, rfl, by decide +kernel, rfl, by decide +kernel, by decide +kernel⟩
/-- what a kind's place is found by: greater weights first, then names -/
def Ent.key (e : Ent) : Int × Str := (0 - e.w, e.name)
/-- from the largest kind to the smallest -/
def Ordered (es : List Ent) : Prop := SrtO.Srtd (fun x y : Ent => kLt x.key y.key) es
def sp_ordered (Tb : List (Addr × Str)) (K : PySem.W.Frag) : Sp := fun vs H Q _ => ∃ (a : Addr) (xs : List V) (es : List Ent), vs = [.ref a] ∧ SqL K H a xs ∧ CatAt H xs es ∧ LamX.Tabs Tb H ∧ es.length ≤ 100000 ∧
  ∀ r H' ys es', es'.Perm es → Ordered es' → CatAt H ys es' → Gr Tb H H' → H' r = none → Q (.ref r) (upd H' r (.lst ys))
/-- the key of the entry that stands at v -/
def vKey (H : Hp) : V → Int × Str
  | .ref t => match H t with
    | some (.tup [.str n, .int w, _]) => (0 - w, n)
    | _ => (0, Str.empty)
  | _ => (0, Str.empty)
theorem vKey_at {H : Hp} {v : V} {e : Ent} (h : EntAt H v e) : vKey H v = e.key := by
  obtain ⟨t, l, rfl, ht, _⟩ := h
  show (match H t with
    | some (.tup [.str n, .int w, _]) => (0 - w, n)
    | _ => (0, Str.empty)) = _
  rw [ht]
  rfl
theorem ordered_of {H : Hp} : ∀ {ys : List V} {es : List Ent}, CatAt H ys es → SrtO.Srtd (fun x y => kLt (vKey H x) (vKey H y)) ys → Ordered es
  | _, _, .nil, _ => List.Pairwise.nil
  | y :: ys, e :: es, .cons h t, s => by
    obtain ⟨s1, s2⟩ := List.pairwise_cons.mp s
    refine List.pairwise_cons.mpr ⟨fun e' he' => ?_, ordered_of t s2⟩
    obtain ⟨y', hy', h'⟩ := Paired.right t he'
    have z : kLt (vKey H y') (vKey H y) = false := s1 y' hy'
    rw [vKey_at h, vKey_at h'] at z
    exact z
theorem ordered_unique : ∀ {xs ys : List Ent}, xs.Perm ys → Ordered xs → Ordered ys → (xs.map (·.name)).Nodup → xs = ys
  | [], ys, p, _, _, _ => (List.nil_perm.mp p).symm
  | x :: xs, [], p, _, _, _ => absurd p.length_eq (by simp)
  | x :: xs, y :: ys, p, ox, oy, nd => by
    obtain ⟨x1, x2⟩ := List.pairwise_cons.mp ox
    obtain ⟨y1, y2⟩ := List.pairwise_cons.mp oy
    rw [List.map_cons, List.nodup_cons] at nd
    have e : x = y := by
      rcases List.mem_cons.mp (p.mem_iff.mp (List.mem_cons_self ..)) with e | hx
      · exact e
      · rcases List.mem_cons.mp (p.mem_iff.mpr (List.mem_cons_self ..)) with e | hy
        · exact e.symm
        · have h1 : kLt y.key x.key = false := x1 y hy
          have h2 : kLt x.key y.key = false := y1 x hx
          have h3 : y.name = x.name := (Prod.mk.inj (kLt_total h1 h2)).2
          exact absurd (List.mem_map.mpr ⟨y, hy, h3⟩) nd.1
    subst e
    rw [ordered_unique ((List.perm_cons x).mp p) x2 y2 nd.2]
section
variable {P : Program} {w : World} {K : PySem.W.Frag} {mg : Str → Option Value} {base : Heap} {Tb : List (Addr × Str)}
theorem ok_ordered {f : Addr} {fd : FuncData} (F : FnP K "ordered" s_ordered f fd) (T : Tx K mg)  {c Pt : Addr} (LC : ∀ fd2 oc od osl, K.lookup f = some ⟨oc, od, .func fd2, osl⟩ → fd2.code = .ref c) (TB : LamX.TabB base mg c Pt) (hmT : (Pt, ("ordered.<locals>.<lambda>" : Str)) ∈ Tb) (huT : ∀ p ∈ Tb, p.1 = Pt → p.2 = ("ordered.<locals>.<lambda>" : Str)) : FnOk P w K mg base CX0 4 f fd ["catalogue"] (sp_ordered Tb K) := by
  obtain ⟨oc, od, dV, kV, doc, pm, an, cdv, ct, osl, rfl, lk, hcd, _, _⟩ := F.ex
  obtain rfl : cdv = .ref c := LC _ _ _ _ lk
  refine fn_of lk hcd sc_ordered (fun vs H Q E h => ?_) fun A outer s H vs Q E hr h => ?_
  · obtain ⟨_, _, _, rfl, _⟩ := h
    rfl
  · obtain ⟨a, xs, es, rfl, ha, hc, ht, hz, k⟩ := h
    have hcode : ∀ (A : Around) (outer : List Env) (s : Shared) (H : Hp) (E : XK), (cxOf CX0 P w K mg base N_ordered "ordered" (defScope s_ordered) f (.ref c) A outer s H E).env.code = .ref c := fun _ _ _ _ _ => rfl
    refine ⟨_, PSs.nox (pss_one (ps_ret (pe_sortLam (k := 0) (tk := tTup (tCons (tOp (rI0 fun i j => .int (i - j)) (tC (.int 0)) (tOp (rIxT K) (tVar 0) (tC (.int 1)))) (tCons (tOp (rIxT K) (tVar 0) (tC (.int 0))) tNil))) (N := ["entry"]) (ps := ["entry"]) (by rfl) T.n_sorted (hr.mono (by decide)) TB rfl hmT huT ⟨rfl, rfl, rfl, by decide +kernel, rfl, by decide +kernel, by decide +kernel⟩ rfl (fun _ => rfl) rfl (fun _ _ _ _ us hl => match us, hl with | [_], _ => rfl) (pa_cons (pv 0) pa_nil) (fun _ _ _ _ _ _ _ => (pe_tup (pa_cons (pe_op op_sub pe_int (pe_ix (ixT (K := K) rfl) (pv 0) pe_int (fun _ _ => rfl))) (pa_cons (pe_ix (ixT (K := K) rfl) (pv 0) pe_int (fun _ _ => rfl)) pa_nil))))))), ?_⟩
    refine ⟨_, rfl, a, xs, vKey H, rfl, ha, fun y hy => ?_, ht, fun y hy H2 g Q' k' => ?_, fun ys a' H' hs hp eN hT hn => ?_⟩
    · obtain ⟨e, _, t, l, h1, _⟩ := Paired.left hc hy
      exact ⟨t, h1⟩
    · obtain ⟨e, _, he⟩ := Paired.left hc hy
      rw [vKey_at he] at k'
      obtain ⟨t, l, rfl, h1, h2⟩ := he
      have h1' := g _ _ h1 (fun ps z => by cases z)
      refine ⟨_, rfl, t, _, _, _, rfl, rfl, SqT.of h1', atI_nat (j := 1) rfl, _, _, rfl, rfl, _, rfl, t, _, _, _, rfl, rfl, SqT.of h1', atI_nat (j := 0) rfl, by show 2 ≤ sizeLine; decide, k'⟩
    · obtain ⟨es', p', hc'⟩ := Paired.perm hp hc
      exact k a' H' ys es' p' (ordered_of hc' hs) hc' ⟨eN, fun _ => hT⟩ hn
end
end Sk
namespace Sk
open PySem PySem.Spec PyProof.Rows L2
abbrev s_piece_numbers : Stmt := topS 16
abbrev N_piece_numbers : List Str := ["entries", "stock", "splits", "numbers", "name", "weight", "parts", "part"]
theorem sc_piece_numbers : FnScope N_piece_numbers ["entries", "stock", "splits"] (defScope s_piece_numbers) := ⟨rfl, rfl, rfl, by decide +kernel, rfl, by decide +kernel, by decide +kernel⟩
def sp_piece_numbers (Tb : List (Addr × Str)) (K : PySem.W.Frag) : Sp := fun vs H Q _ => ∃ (a b c : Addr) (xs : List V) (es : List Ent) (st sp : Num), vs = [.ref a, .ref b, .ref c] ∧ SqL K H a xs ∧ CatAt H xs es ∧ H b = some (.dK (dS st)) ∧ H c = some (.dK (dS sp)) ∧ (es.map (·.name)).Nodup ∧ (∀ e ∈ es, ∀ p ∈ e.parts, p ∈ es.map (·.name)) ∧ es.length ≤ 100000 ∧
  ∀ r H', Gr Tb H H' → Nw H r → H' r = some (.dK (dS (numOf es (pn es st sp)))) → Q (.ref r) H'
section
variable {P : Program} {w : World} {K : PySem.W.Frag} {mg : Str → Option Value} {base : Heap} {Tb : List (Addr × Str)}
theorem ok_piece_numbers {f : Addr} {fd : FuncData} (F : FnP K "piece_numbers" s_piece_numbers f fd) (T : Tx K mg) : FnOk P w K mg base CX0 1 f fd ["entries", "stock", "splits"] (sp_piece_numbers Tb K) := by
  refine F.ok sc_piece_numbers (fun vs H Q E h => ?_) (fun cdv A outer s H vs Q E hr h => ?_)
  · obtain ⟨_, _, _, _, _, _, _, rfl, _⟩ := h
    rfl
  · obtain ⟨a, b, c, xs, es, st, sp, rfl, ha, hc, hb, hsp, hnd, hp, hz, k⟩ := h
    refine ⟨_, PSs.nox (pss_cons (ps_setDc (i := 3) (own := [("name", 4), ("weight", 5), ("parts", 6)]) (g := (gTup K 3 (gCons (gName 4) (gCons (gName 5) (gCons (gName 6) gNil))))) (tt := tYes) rfl sc_piece_numbers.nd rfl rfl (swD_true rfl rfl rfl (by decide +kernel)) (piL (K := K) rfl (pv 0)) (blkOk_by (N := N_piece_numbers) (sc := (defScope s_piece_numbers)) (by decide +kernel)) (fun _ _ _ _ _ => (pg_tup rfl (pgs_cons (pg_name (i := 4) sc_piece_numbers.nd rfl (Or.inl rfl)) (pgs_cons (pg_name (i := 5) sc_piece_numbers.nd rfl (Or.inl rfl)) (pgs_cons (pg_name (i := 6) sc_piece_numbers.nd rfl (Or.inl rfl)) pgs_nil))))) (fun _ _ _ _ _ => pts_nil) (fun _ _ _ _ _ => (pv 4)) (fun _ _ _ _ _ => (pe_dget2 (hu_of hr) (pv 1) (pv 4) pe_int ⟨rfl, rfl, rfl, rfl⟩)))
      (pss_cons (ps_for PassesOwn.never rfl (piL (K := K) rfl (pv 0)) (pg_tup rfl (pgs_cons (pg_name (i := 4) sc_piece_numbers.nd rfl (Or.inl rfl)) (pgs_cons (pg_name (i := 5) sc_piece_numbers.nd rfl (Or.inl rfl)) (pgs_cons (pg_name (i := 6) sc_piece_numbers.nd rfl (Or.inl rfl)) pgs_nil)))) (pss_one (ps_for PassesOwn.never rfl (piL (K := K) rfl (pv 6)) (pg_name (i := 7) sc_piece_numbers.nd rfl (Or.inl rfl)) (pss_one (ps_daug (hu_of hr) (pv 3) (pv 7) (pe_dget2 (hu_of hr) (pv 2) (pv 4) pe_int ⟨rfl, rfl, rfl, rfl⟩) in_add (fun _ _ _ => rfl))))))
      (pss_one (ps_ret (pv 3))))), ?_⟩
    refine ⟨_, rfl, a, rfl, ⟨_, ha⟩, fun D hD => dc_stock (Tb := Tb) ha hc hb hnd hz hD (fun _ _ _ => rfl) (fun _ _ _ => rfl) (fun _ _ _ => rfl) fun H1 g1 hD1 => ?_⟩
    have nD : Nw H D := .of hD
    have hlen := Paired.len hc
    refine ⟨_, rfl, a, rfl, ⟨_, g1.ext_seq ha⟩, for_list (K := K) (a := a) (xs := xs) (fun i σ H' => ∃ s4 s5 s6 s7 : Option V, σ = [some (.ref a), some (.ref b), some (.ref c), some (.ref D), s4, s5, s6, s7] ∧ Gr Tb H H' ∧ H' D = some (.dK (dS (numOf es (addAll (getD st) (incs (es.take i) (getD sp)))))))
      ⟨_, _, _, _, rfl, g1, by rw [List.take_zero]; exact hD1⟩ (fun i σ H' _ ⟨_, _, _, _, _, g, _⟩ => g.ext_seq ha) ?_ ?_⟩
    · rintro i x σ H2 hx ⟨s4, s5, s6, s7, rfl, g2, hD2⟩
      obtain ⟨e, he, t, lp, rfl, ht, hlp⟩ := Paired.at hc hx
      have hm := List.mem_of_getElem? he
      have hlp2 := g2.at hlp .lst
      refine gtup3 (g2.at ht .tup) ⟨_, rfl, lp, rfl, ⟨_, SqL.of hlp2⟩, for_list (K := K) (a := lp) (xs := e.parts.map V.str) (fun j σ H' => ∃ s7 : Option V, σ = [some (.ref a), some (.ref b), some (.ref c), some (.ref D), some (.str e.name), some (.int e.w), some (.ref lp), s7] ∧ Gr Tb H H' ∧
          H' D = some (.dK (dS (numOf es (addAll (addAll (getD st) (incs (es.take i) (getD sp))) ((e.parts.take j).map fun p => (p, getD sp e.name)))))))
        ⟨_, rfl, g2, by rw [List.take_zero]; exact hD2⟩ (fun j σ H' _ ⟨_, _, g, _⟩ => SqL.of (g.at hlp .lst)) ?_ ?_⟩
      · rintro j y σ H3 hy ⟨s7, rfl, g3, hD3⟩
        rw [List.getElem?_map] at hy
        cases hq : e.parts[j]? with
        | none => rw [hq] at hy; cases hy
        | some q =>
          rw [hq] at hy
          cases hy
          have hqm : q ∈ es.map (·.name) := hp e hm q (List.mem_of_getElem? hq)
          have hsp3 := g3.at hsp .dK
          refine ⟨_, rfl, _, rfl, D, _, rfl, dgetS hD3 (get?_numOf hqm), _, rfl, c, rfl, IsD.num hsp3, _, rfl, _, dgetO hsp3 e.name, ?_⟩
          rw [getO]
          refine ⟨_, _, rfl, rfl, _, dputS hD3 (by rw [numOf_len, sizeLine_eq]; omega), _, rfl, g3.mut nD hD3 .dK, ?_⟩
          rw [upd_same, put_numOf hqm, take_snoc hq, List.map_append]
          show some (HO.dK (dS (numOf es (upF _ q _)))) = some (HO.dK (dS (numOf es (addAll _ (_ ++ [(q, getD sp e.name)])))))
          rw [addAll_snoc]
      · rintro σ H3 ⟨s7, rfl, g3, hD3⟩
        refine ⟨_, _, _, _, rfl, g3, ?_⟩
        rw [List.length_map, List.take_length] at hD3
        rw [incs_snoc he, addAll_append]
        exact hD3
    · rintro σ H2 ⟨s4, s5, s6, s7, rfl, g2, hD2⟩
      rw [hlen, List.take_length] at hD2
      exact ⟨_, rfl, k D H2 g2 nD hD2⟩
end
end Sk
namespace Sk
open PySem PySem.Spec PyProof.Rows L2
theorem rising_pw : ∀ (r : List Str) (x : Str), risingS x r = true → (x :: r).Pairwise fun a b => a.cps.toList ≤ b.cps.toList
  | [], _, _ => List.pairwise_singleton ..
  | y :: r, x, h => by
    have h' : (!ltCps y.cps.toList x.cps.toList && risingS y r) = true := h
    rw [Bool.and_eq_true, ltCps_eq, Bool.not_eq_true', decide_eq_false_iff_not] at h'
    have h1 : x.cps.toList ≤ y.cps.toList := h'.1
    have ih := rising_pw r y h'.2
    refine List.pairwise_cons.mpr ⟨fun z hz => ?_, ih⟩
    rcases List.mem_cons.mp hz with rfl | hz
    · exact h1
    · exact List.le_trans h1 ((List.pairwise_cons.mp ih).1 z hz)
theorem sorted_pw {l : List Str} (h : sortedS l = true) : l.Pairwise fun a b => a.cps.toList ≤ b.cps.toList := by
  cases l with
  | nil => exact List.Pairwise.nil
  | cons x r => exact rising_pw r x h
/-- the first of some keys, by the order of texts, that is so -/
def FirstName (p : Str → Prop) (keys : List Str) (x : Str) : Prop := x ∈ keys ∧ p x ∧ ∀ y ∈ keys, p y → x.cps.toList ≤ y.cps.toList
theorem first_name {p : Str → Prop} {ys keys : List Str} (hp : ys.Perm keys) (so : sortedS ys = true) {i : Nat} {x : Str} (hx : ys[i]? = some x) (px : p x) (nb : ∀ (j : Nat) y, j < i → ys[j]? = some y → ¬ p y) : FirstName p keys x := by
  refine ⟨hp.mem_iff.mp (List.mem_of_getElem? hx), px, fun y hy py => ?_⟩
  obtain ⟨j, hj⟩ := List.mem_iff_getElem?.mp (hp.mem_iff.mpr hy)
  obtain ⟨hi, hxe⟩ := List.getElem?_eq_some_iff.mp hx
  obtain ⟨hjl, hye⟩ := List.getElem?_eq_some_iff.mp hj
  rcases Nat.lt_trichotomy j i with z | z | z
  · exact absurd py (nb j y z hj)
  · subst z
    rw [hx] at hj
    cases hj
    exact List.le_refl _
  · have := List.pairwise_iff_getElem.mp (sorted_pw so) i j hi hjl z
    rw [hxe, hye] at this
    exact this
theorem FirstName.uniq {p : Str → Prop} {keys : List Str} {x y : Str} (a : FirstName p keys x) (b : FirstName p keys y) : x = y := str_ext (List.le_antisymm (a.2.2 y b.1 b.2.1) (b.2.2 x a.1 a.2.1))
end Sk
namespace Sk
open PySem PySem.Spec PyProof.Rows L2
abbrev s_check_stock : Stmt := topS 17
abbrev N_check_stock : List Str := ["catalogue", "stock", "names", "name", "entry"]
theorem sc_check_stock : FnScope N_check_stock ["catalogue", "stock"] (defScope s_check_stock) := ⟨rfl, rfl, rfl, by decide +kernel, rfl, by decide +kernel, by decide +kernel⟩
/-- a stock of known names, none below zero -/
structure StockOk (es : List Ent) (st : Num) : Prop where
  nd : (st.map (·.1)).Nodup
  few : st.length < 64
  known : ∀ q ∈ st, q.1 ∈ es.map (·.name)
  pos : ∀ q ∈ st, 0 ≤ q.2
/-- a stock's name that may not be -/
def badSt (es : List Ent) (st : Num) (x : Str) : Prop := x ∉ es.map (·.name) ∨ getD st x < 0
def Sized (es : List Ent) : Prop := es.length ≤ 100000 ∧ ∀ e ∈ es, e.name.length ≤ 1000000 ∧ e.parts.length ≤ 100000
/-- what happens when a catalogue or a stock may not be -/
def ErrCS (Tb : List (Addr × Str)) (K : PySem.W.Frag) (H : Hp) (E : XK) (es : List Ent) (st : Num) : Prop :=
  (∀ (i : Nat) dd H', BadCat es i → Gr Tb H H' → H' dd = some (.xd [("value", .int i)]) → E (.ref (He.ga K "InvalidCatalogue")) (some dd) H') ∧
  (∀ x dd H', Valid es → FirstName (badSt es st) (st.map (·.1)) x → Gr Tb H H' → H' dd = some (.xd [("value", .str x)]) → E (.ref (He.ga K "InvalidStock")) (some dd) H')
def sp_check_stock (Tb : List (Addr × Str)) (K : PySem.W.Frag) : Sp := fun vs H Q E => ∃ (a b : Addr) (xs : List V) (es : List Ent) (st : Num), vs = [.ref a, .ref b] ∧ SqL K H a xs ∧ CatAt H xs es ∧ H b = some (.dK (dS st)) ∧ (st.map (·.1)).Nodup ∧ st.length < 64 ∧ es.length ≤ 100000 ∧ (StockOk es st → ∀ H', Gr Tb H H' → Q .non H') ∧
  (∀ x dd H', FirstName (badSt es st) (st.map (·.1)) x → Gr Tb H H' → H' dd = some (.xd [("value", .str x)]) → E (.ref (He.ga K "InvalidStock")) (some dd) H')
section
variable {P : Program} {w : World} {K : PySem.W.Frag} {mg : Str → Option Value} {base : Heap} {Tb : List (Addr × Str)}
theorem ok_check_stock {f : Addr} {fd : FuncData} (F : FnP K "check_stock" s_check_stock f fd) (T : Tx K mg) (XC_InvalidStock : Xc P w K mg base "InvalidStock") : FnOk P w K mg base (L2N.CX P w) 3 f fd ["catalogue", "stock"] (sp_check_stock Tb K) := by
  refine F.ok (CX := L2N.CX P w) sc_check_stock (fun vs H Q E h => ?_) (fun cdv A outer s H vs Q E hr h => ?_)
  · obtain ⟨_, _, _, _, _, rfl, _⟩ := h
    rfl
  · obtain ⟨a, b, xs, es, st, rfl, ha, hc, hb, nd, few, hz, k1, k2⟩ := h
    refine ⟨_, (pss_cons (ps_setLc (i := 2) (own := [("entry", 4)]) (g := (gName 4)) (tt := tYes) rfl sc_check_stock.nd rfl rfl (sw_true rfl rfl rfl (by decide +kernel)) (piL (K := K) rfl (pv 0)) (blkOk_by (N := N_check_stock) (sc := (defScope s_check_stock)) (by decide +kernel)) (fun _ _ _ _ _ => (pg_name (i := 4) sc_check_stock.nd rfl (Or.inl rfl))) (fun _ _ _ _ _ => pts_nil) (fun _ _ _ _ _ => (pe_ix (ixT (K := K) rfl) (pv 4) pe_int (fun _ _ => rfl))))
      (pss_one (ps_for (passes_of rfl) rfl (piL (K := K) rfl (pe_callB (call_sortedD rfl) (by rfl) T.n_sorted (by decide +kernel) (pa_cons (pv 1) pa_nil))) (pg_name (i := 3) sc_check_stock.nd rfl (Or.inl rfl)) (pss_one (ps_if (PW.pt (pw_or (pt_cmpR (opNotIn (K := K) rfl) (pv 3) (pv 2) (by with_unfolding_all rfl)) (pw_or1 (pt_cmpR op_lt (pe_dget (hu_of hr) (pv 1) (pv 3) (fun _ _ => rfl)) pe_int (nomark _))))) (pss_one (L2N.ps_raise rfl (L2N.takes_of rfl rfl rfl rfl) (pmk_xc XC_InvalidStock (hr.mono (by decide)) (pa_cons (pv 3) pa_nil)))) pss_nil))))), ?_⟩
    refine ⟨_, rfl, a, rfl, ⟨_, ha⟩, fun D hD => lc_names (Tb := Tb) ha hc hz hD rfl fun H1 g1 hD1 => ?_⟩
    have hkeys : (dS st).map (·.1) = (st.map (·.1)).map Sum.inr := by
      unfold dS
      rw [List.map_map, List.map_map]
      rfl
    refine ⟨_, rfl, b, _, st.map (·.1), rfl, .inl (g1.at hb .dK), hkeys, by rw [List.length_map]; exact few, fun ys p hp hso hpn => ?_⟩
    have g2 : Gr Tb H (upd H1 p (.lst (ys.map V.str))) := g1.trans (Gr.new hpn)
    refine ⟨p, rfl, ⟨_, SqL.of upd_same⟩, for_list (K := K) (a := p) (xs := ys.map V.str) (fun i σ H' => ∃ s3 s4 : Option V, σ = [some (.ref a), some (.ref b), some (.ref D), s3, s4] ∧ Gr Tb H H' ∧ H' p = some (.lst (ys.map V.str)) ∧ H' D = some (.lst ((es.map (·.name)).map V.str)) ∧ ∀ (j : Nat) y, j < i → ys[j]? = some y → ¬ badSt es st y)
      ⟨_, _, rfl, g2, upd_same, by rw [upd_ne (ne_of_none hD1 hpn)]; exact hD1, fun j y h => absurd h (Nat.not_lt_zero _)⟩ (fun i σ H' _ ⟨_, _, _, _, h, _⟩ => SqL.of h) ?_ ?_⟩
    rotate_left
    · rintro σ H' ⟨s3, s4, rfl, g, _, _, nb⟩
      rw [List.length_map] at nb
      have nb2 : ∀ q ∈ st, ¬ badSt es st q.1 := fun q hq => by
        obtain ⟨j, hj⟩ := List.mem_iff_getElem?.mp (hp.mem_iff.mpr (List.mem_map.mpr ⟨q, hq, rfl⟩))
        exact nb j q.1 (List.getElem?_eq_some_iff.mp hj).1 hj
      exact k1 ⟨nd, few, fun q hq => Decidable.byContradiction fun z => nb2 q hq (.inl z), fun q hq => Int.not_lt.mp fun z => nb2 q hq (.inr (by rw [getD_mem nd hq]; exact z))⟩ H' g
    rintro i x σ H2 hx ⟨s3, s4, rfl, g3, hp2, hD2, nb⟩
    rw [List.getElem?_map] at hx
    cases hy : ys[i]? with
    | none => rw [hy] at hx; cases hx
    | some y =>
      rw [hy] at hx
      cases hx
      have hym : y ∈ st.map (·.1) := hp.mem_iff.mp (List.mem_of_getElem? hy)
      obtain ⟨q, hq, rfl⟩ := List.mem_map.mp hym
      refine ⟨_, rfl, _, rfl, D, _, rfl, .inl (SqL.of hD2), rfl, flat_strs _, _, rfl, ?_⟩
      rw [inV_strs]
      refine ite2 (fun z => ?_) (fun z => ?_)
      · rw [if_pos rfl, Bool.not_eq_true', decide_eq_false_iff_not] at z
        exact iteTb rfl ⟨_, rfl, _, rfl, fun dd hdd => k2 q.1 dd _ (first_name hp hso hy (.inl z) nb) (g3.trans (Gr.new hdd)) upd_same⟩
      · have hk : q.1 ∈ es.map (·.name) := Decidable.byContradiction fun y => z (by rw [if_pos rfl, decide_eq_false y]; rfl)
        refine ⟨_, rfl, _, rfl, b, _, rfl, dgetS (g3.at hb .dK) (get_some nd hq), _, _, rfl, rfl, _, rfl, ?_⟩
        refine ite2 (fun z => ?_) (fun z => ?_)
        · exact ⟨_, rfl, _, rfl, fun dd hdd => k2 q.1 dd _ (first_name hp hso hy (.inr (by rw [getD_mem nd hq]; exact of_decide_eq_true z)) nb) (g3.trans (Gr.new hdd)) upd_same⟩
        · refine ⟨_, _, rfl, g3, hp2, hD2, fun j y h hj => ?_⟩
          rcases Nat.lt_succ_iff_lt_or_eq.mp h with h | rfl
          · exact nb j y h hj
          · rw [hy] at hj
            cases hj
            rintro (y1 | y1)
            · exact y1 hk
            · rw [getD_mem nd hq] at y1
              exact z (decide_eq_true y1)
end
end Sk
namespace Sk
open PySem PySem.Spec PyProof.Rows L2
abbrev s_check_splits : Stmt := topS 18
abbrev N_check_splits : List Str := ["catalogue", "stock", "splits", "entries", "numbers", "name", "weight", "parts"]
theorem sc_check_splits : FnScope N_check_splits ["catalogue", "stock", "splits"] (defScope s_check_splits) := ⟨rfl, rfl, rfl, by decide +kernel, rfl, by decide +kernel, by decide +kernel⟩
/-- valid splits: of known names, at most as many as there are pieces -/
structure SplitsOk (es : List Ent) (st sp : Num) : Prop where
  nd : (sp.map (·.1)).Nodup
  few : sp.length < 64
  known : ∀ q ∈ sp, q.1 ∈ es.map (·.name)
  fits : ∀ e ∈ es, 0 ≤ getD sp e.name ∧ getD sp e.name ≤ if e.parts = [] then 0 else pn es st sp e.name
/-- a kind's splits that may be -/
def fitE (es : List Ent) (st sp : Num) (e : Ent) : Prop := 0 ≤ getD sp e.name ∧ getD sp e.name ≤ if e.parts = [] then 0 else pn es st sp e.name
/-- the name that the splits are refused for -/
def BadSp (es : List Ent) (st sp : Num) (x : Str) : Prop := FirstName (· ∉ es.map (·.name)) (sp.map (·.1)) x ∨ ((∀ q ∈ sp, q.1 ∈ es.map (·.name)) ∧ ∃ (es' : List Ent) (i : Nat) (e : Ent), es'.Perm es ∧ Ordered es' ∧ es'[i]? = some e ∧ e.name = x ∧ ¬ fitE es st sp e ∧ ∀ (j : Nat) y, j < i → es'[j]? = some y → fitE es st sp y)
def sp_check_splits (Tb : List (Addr × Str)) (K : PySem.W.Frag) : Sp := fun vs H Q E => ∃ (a b c : Addr) (xs : List V) (es : List Ent) (st sp : Num), vs = [.ref a, .ref b, .ref c] ∧ SqL K H a xs ∧ CatAt H xs es ∧ H b = some (.dK (dS st)) ∧ H c = some (.dK (dS sp)) ∧ LamX.Tabs Tb H ∧ Valid es ∧ (sp.map (·.1)).Nodup ∧ sp.length < 64 ∧ (SplitsOk es st sp → ∀ H', Gr Tb H H' → Q .non H') ∧
  (∀ x dd H', BadSp es st sp x → Gr Tb H H' → H' dd = some (.xd [("value", .str x)]) → E (.ref (He.ga K "InvalidSplits")) (some dd) H')
section
variable {P : Program} {w : World} {K : PySem.W.Frag} {mg : Str → Option Value} {base : Heap} {Tb : List (Addr × Str)}
theorem ok_check_splits {f : Addr} {fd : FuncData} (F : FnP K "check_splits" s_check_splits f fd) (T : Tx K mg) (XC_InvalidSplits : Xc P w K mg base "InvalidSplits") (G_ordered : Fn P w K mg base "ordered" 4 ["catalogue"] (sp_ordered Tb K)) (G_piece_numbers : Fn P w K mg base "piece_numbers" 1 ["entries", "stock", "splits"] (sp_piece_numbers Tb K)) : FnOk P w K mg base (L2N.CX P w) 5 f fd ["catalogue", "stock", "splits"] (sp_check_splits Tb K) := by
  refine F.ok (CX := L2N.CX P w) sc_check_splits (fun vs H Q E h => ?_) (fun cdv A outer s H vs Q E hr h => ?_)
  · obtain ⟨_, _, _, _, _, _, _, rfl, _⟩ := h
    rfl
  · obtain ⟨a, b, c, xs, es, st, sp, rfl, ha, hc, hb, hsp, ht, hv, nd, few, k1, k2⟩ := h
    refine ⟨_, (pss_cons (ps_set (i := 3) sc_check_splits.nd rfl (Or.inl rfl) (pe_fn G_ordered (hr.mono (by decide)) (pa_cons (pv 0) pa_nil)))
      (pss_cons (ps_set (i := 4) sc_check_splits.nd rfl (Or.inl rfl) (pe_fn G_piece_numbers (hr.mono (by decide)) (pa_cons (pv 3) (pa_cons (pv 1) (pa_cons (pv 2) pa_nil)))))
      (pss_cons (ps_for (passes_of rfl) rfl (piL (K := K) rfl (pe_callB (call_sortedD rfl) (by rfl) T.n_sorted (by decide +kernel) (pa_cons (pv 2) pa_nil))) (pg_name (i := 5) sc_check_splits.nd rfl (Or.inl rfl)) (pss_one (ps_if (pt_cmp (pc_dnotin (hu_of hr) (pv 5) (pv 4))) (pss_one (L2N.ps_raise rfl (L2N.takes_of rfl rfl rfl rfl) (pmk_xc XC_InvalidSplits (hr.mono (by decide)) (pa_cons (pv 5) pa_nil)))) pss_nil)))
      (pss_one (ps_for (passes_of rfl) rfl (piL (K := K) rfl (pv 3)) (pg_tup rfl (pgs_cons (pg_name (i := 5) sc_check_splits.nd rfl (Or.inl rfl)) (pgs_cons (pg_name (i := 6) sc_check_splits.nd rfl (Or.inl rfl)) (pgs_cons (pg_name (i := 7) sc_check_splits.nd rfl (Or.inl rfl)) pgs_nil)))) (pss_one (ps_if (pt_not (pt_chain op_le op_le pe_int (pe_dget2 (hu_of hr) (pv 2) (pv 5) pe_int ⟨rfl, rfl, rfl, rfl⟩) (pe_ifExp (pt_cmpR (opNeNil (K := K) rfl hr.units) (pv 7) (pe_lst pa_nil) (nomark _)) (pe_dget (hu_of hr) (pv 4) (pv 5) (fun _ _ => rfl)) pe_int))) (pss_one (L2N.ps_raise rfl (L2N.takes_of rfl rfl rfl rfl) (pmk_xc XC_InvalidSplits (hr.mono (by decide)) (pa_cons (pv 5) pa_nil)))) pss_nil))))))), ?_⟩
    refine ⟨_, rfl, a, xs, es, rfl, ha, hc, ht, hv.few, fun r H1 ys es' hp ho hc1 g1 hr => ?_⟩
    have g2 : Gr Tb H (upd H1 r (.lst ys)) := g1.trans (Gr.new hr)
    have hc2 : CatAt (upd H1 r (.lst ys)) ys es' := CatAt.gr g2 hc1
    have hv' := hv.perm hp
    refine ⟨_, rfl, _, rfl, _, rfl, r, b, c, ys, es', st, sp, rfl, SqL.of upd_same, hc2, g2.at hb .dK, g2.at hsp .dK, hv'.nodup, hv'.known, hv'.few, fun N H2 g3 hN hN2 => ?_⟩
    rw [pn_perm hp] at hN2
    have hr2 := g3.at (upd_same (H := H1) (a := r) (o := .lst ys)) .lst
    have g4 := g2.trans g3
    have hc3 : CatAt H2 ys es' := CatAt.gr g3 hc2
    have hkeys : (dS sp).map (·.1) = (sp.map (·.1)).map Sum.inr := by
      unfold dS
      rw [List.map_map, List.map_map]
      rfl
    refine ⟨_, rfl, c, _, sp.map (·.1), rfl, .inl (g4.at hsp .dK), hkeys, by rw [List.length_map]; exact few, fun zs p hpz hso hpn => ?_⟩
    have g5 : Gr Tb H2 (upd H2 p (.lst (zs.map V.str))) := Gr.new hpn
    have nm : ∀ x, x ∈ es.map (·.name) → x ∈ es'.map (·.name) := fun x hx => (hp.map _).mem_iff.mpr hx
    have mn : ∀ x, x ∈ es'.map (·.name) → x ∈ es.map (·.name) := fun x hx => (hp.map _).mem_iff.mp hx
    refine ⟨p, rfl, ⟨_, SqL.of upd_same⟩, for_list (K := K) (a := p) (xs := zs.map V.str) (fun i σ H' => ∃ s5 : Option V, σ = [some (.ref a), some (.ref b), some (.ref c), some (.ref r), some (.ref N), s5, none, none] ∧ Gr Tb H2 H' ∧ H' p = some (.lst (zs.map V.str)) ∧ ∀ (j : Nat) y, j < i → zs[j]? = some y → y ∈ es.map (·.name))
      ⟨_, rfl, g5, upd_same, fun j y h => absurd h (Nat.not_lt_zero _)⟩ (fun i σ H' _ ⟨_, _, _, h, _⟩ => SqL.of h) ?_ (fun σ H3 ⟨s5, e, g6, _, kn⟩ => ?_)⟩
    · rintro i x σ H3 hx ⟨s5, rfl, g6, hp3, kn⟩
      rw [List.getElem?_map] at hx
      cases hy : zs[i]? with
      | none => rw [hy] at hx; cases hx
      | some y =>
        rw [hy] at hx
        cases hx
        refine ⟨_, rfl, _, rfl, N, _, rfl, dgetO (g6.at hN2 .dK) y, _, rfl, ?_⟩
        by_cases hk : y ∈ es.map (·.name)
        · rw [get?_numOf (nm _ hk)]
          refine ⟨_, rfl, g6, hp3, fun j z h hj => ?_⟩
          rcases Nat.lt_succ_iff_lt_or_eq.mp h with h | rfl
          · exact kn j z h hj
          · rw [hy] at hj
            cases hj
            exact hk
        · rw [get?_none (d := numOf es' _) (fun z => hk (mn _ (by unfold numOf at z; rw [List.map_map] at z; exact z)))]
          exact ⟨_, rfl, _, rfl, fun dd hdd => k2 y dd _ (.inl (first_name hpz hso hy hk fun j z h hj y1 => y1 (kn j z h hj))) ((g4.trans g6).trans (Gr.new hdd)) upd_same⟩
    · subst e
      rw [List.length_map] at kn
      have kn2 : ∀ q ∈ sp, q.1 ∈ es.map (·.name) := fun q hq => by
        obtain ⟨j, hj⟩ := List.mem_iff_getElem?.mp (hpz.mem_iff.mpr (List.mem_map.mpr ⟨q, hq, rfl⟩))
        exact kn j q.1 (List.getElem?_eq_some_iff.mp hj).1 hj
      have hl3 := Paired.len hc3
      refine ⟨_, rfl, r, rfl, ⟨_, SqL.of (g6.at hr2 .lst)⟩, for_list (K := K) (a := r) (xs := ys) (fun i σ H' => ∃ s5 s6 s7 : Option V, σ = [some (.ref a), some (.ref b), some (.ref c), some (.ref r), some (.ref N), s5, s6, s7] ∧ Gr Tb H2 H' ∧ ∀ (j : Nat) y, j < i → es'[j]? = some y → fitE es st sp y)
        ⟨_, _, _, rfl, g6, fun j y h => absurd h (Nat.not_lt_zero _)⟩ (fun i σ H' _ ⟨_, _, _, _, g, _⟩ => SqL.of (g.at hr2 .lst)) ?_ ?_⟩
      rotate_left
      · rintro σ H' ⟨_, _, _, rfl, g, fit⟩
        rw [hl3] at fit
        refine k1 ⟨nd, few, kn2, fun e he => ?_⟩ H' (g4.trans g)
        obtain ⟨j, hj⟩ := List.mem_iff_getElem?.mp (hp.mem_iff.mpr he)
        exact fit j e (List.getElem?_eq_some_iff.mp hj).1 hj
      rintro i x σ H4 hx ⟨s5, s6, s7, rfl, g7, fit⟩
      obtain ⟨e, he, t, lp, rfl, ht1, hlp⟩ := Paired.at hc3 hx
      have hm : e ∈ es := hp.mem_iff.mp (List.mem_of_getElem? he)
      have hsp4 := (g4.trans g7).at hsp .dK
      have next : fitE es st sp e → ∀ (j : Nat) y, j < i + 1 → es'[j]? = some y → fitE es st sp y := fun f j y h hj => by
        rcases Nat.lt_succ_iff_lt_or_eq.mp h with h | rfl
        · exact fit j y h hj
        · rw [he] at hj
          cases hj
          exact f
      have raise : ∀ {H5 : Hp}, ¬ fitE es st sp e → Gr Tb H2 H5 → ∀ dd, H5 dd = none → E (.ref (He.ga K "InvalidSplits")) (some dd) (upd H5 dd (.xd [("value", .str e.name)])) := fun nf g dd hdd => k2 e.name dd _ (.inr ⟨kn2, es', i, e, hp, ho, he, rfl, nf, fit⟩) ((g4.trans g).trans (Gr.new hdd)) upd_same
      refine gtup3 (g7.at ht1 .tup) ⟨_, rfl, c, rfl, IsD.num hsp4, _, rfl, _, dgetO hsp4 e.name, ?_⟩
      rw [getO]
      refine ⟨_, _, rfl, rfl, _, rfl, ?_⟩
      by_cases f1 : 0 ≤ getD sp e.name
      rotate_left
      · have n1 : ¬ fitE es st sp e := fun f => f1 f.1
        rw [decide_eq_false f1]
        refine ⟨_, rfl, ?_⟩
        exact ⟨_, rfl, _, rfl, raise n1 g7⟩
      rw [decide_eq_true f1]
      refine ⟨_, rfl, rd_nil (SqL.of (g7.at hlp .lst)) fun q hqn => ⟨_, rfl, ?_⟩⟩
      have g8 : Gr Tb H2 (upd H4 q (.lst [])) := g7.trans (Gr.new hqn)
      cases hps : e.parts with
      | nil =>
        refine ⟨_, _, rfl, rfl, _, rfl, ?_⟩
        by_cases f2 : getD sp e.name ≤ 0
        · rw [decide_eq_true f2]
          exact ⟨_, _, _, rfl, g8, next ⟨f1, by rw [if_pos hps]; exact f2⟩⟩
        · rw [decide_eq_false f2]
          exact ⟨_, rfl, _, rfl, raise (fun f => f2 (by have := f.2; rw [if_pos hps] at this; exact this)) g8⟩
      | cons p0 ps =>
        have np : ¬ e.parts = [] := by rw [hps]; simp
        refine ⟨_, rfl, _, rfl, N, _, rfl, dgetS (g8.at hN2 .dK) (get?_numOf (nm _ (List.mem_map.mpr ⟨e, hm, rfl⟩))), _, _, rfl, rfl, _, rfl, ?_⟩
        by_cases f2 : getD sp e.name ≤ pn es st sp e.name
        · rw [decide_eq_true f2]
          exact ⟨_, _, _, rfl, g8, next ⟨f1, by rw [if_neg np]; exact f2⟩⟩
        · rw [decide_eq_false f2]
          exact ⟨_, rfl, _, rfl, raise (fun f => f2 (by have := f.2; rw [if_neg np] at this; exact this)) g8⟩
end
end Sk
namespace Sk
open PySem PySem.Spec PyProof.Rows L2
abbrev s_check_ends : Stmt := topS 22
abbrev N_check_ends : List Str := ["catalogue", "stock", "first", "second"]
theorem sc_check_ends : FnScope N_check_ends ["catalogue", "stock", "first", "second"] (defScope s_check_ends) := ⟨rfl, rfl, rfl, by decide +kernel, rfl, by decide +kernel, by decide +kernel⟩
/-- what the calls do with wrong arguments -/
structure ErrEnds (Tb : List (Addr × Str)) (K : PySem.W.Frag) (H : Hp) (E : XK) (es : List Ent) (st s1 s2 : Num) : Prop where
  sz : Sized es
  nd : (st.map (·.1)).Nodup
  few : st.length < 64
  nd1 : (s1.map (·.1)).Nodup
  few1 : s1.length < 64
  nd2 : (s2.map (·.1)).Nodup
  few2 : s2.length < 64
  cs : ErrCS Tb K H E es st
  sp1 : ∀ x dd H', Valid es → StockOk es st → BadSp es st s1 x → Gr Tb H H' → H' dd = some (.xd [("value", .str x)]) → E (.ref (He.ga K "InvalidSplits")) (some dd) H'
  sp2 : ∀ x dd H', Valid es → StockOk es st → SplitsOk es st s1 → BadSp es st s2 x → Gr Tb H H' → H' dd = some (.xd [("value", .str x)]) → E (.ref (He.ga K "InvalidSplits")) (some dd) H'
def sp_check_ends (Tb : List (Addr × Str)) (K : PySem.W.Frag) : Sp := fun vs H Q E => ∃ (a b c c2 : Addr) (xs : List V) (es : List Ent) (st s1 s2 : Num), vs = [.ref a, .ref b, .ref c, .ref c2] ∧ SqL K H a xs ∧ CatAt H xs es ∧ H b = some (.dK (dS st)) ∧ H c = some (.dK (dS s1)) ∧ H c2 = some (.dK (dS s2)) ∧ LamX.Tabs Tb H ∧ ErrEnds Tb K H E es st s1 s2 ∧
  ∀ H', Valid es → StockOk es st → SplitsOk es st s1 → SplitsOk es st s2 → Gr Tb H H' → Q .non H'
section
variable {P : Program} {w : World} {K : PySem.W.Frag} {mg : Str → Option Value} {base : Heap} {Tb : List (Addr × Str)}
theorem ok_check_ends {f : Addr} {fd : FuncData} (F : FnP K "check_ends" s_check_ends f fd) (T : Tx K mg) (GX_check_catalogue : FnX P w K mg base "check_catalogue" 3 ["catalogue"] (sp_check_catalogue Tb K)) (GX_check_splits : FnX P w K mg base "check_splits" 5 ["catalogue", "stock", "splits"] (sp_check_splits Tb K)) (GX_check_stock : FnX P w K mg base "check_stock" 3 ["catalogue", "stock"] (sp_check_stock Tb K)) : FnOk P w K mg base (L2N.CX P w) 6 f fd ["catalogue", "stock", "first", "second"] (sp_check_ends Tb K) := by
  refine F.ok (CX := L2N.CX P w) sc_check_ends (fun vs H Q E h => ?_) (fun cdv A outer s H vs Q E hr h => ?_)
  · obtain ⟨_, _, _, _, _, _, _, _, _, rfl, _⟩ := h
    rfl
  · obtain ⟨a, b, c, c2, xs, es, st, s1, s2, rfl, ha, hc, hb, h1, h2, ht, ee, k⟩ := h
    refine ⟨_, (pss_cons (ps_expr (pe_fnX GX_check_catalogue (hr.mono (by decide)) (L2N.takes_of rfl rfl rfl rfl) (pa_cons (pv 0) pa_nil)))
      (pss_cons (ps_expr (pe_fnX GX_check_stock (hr.mono (by decide)) (L2N.takes_of rfl rfl rfl rfl) (pa_cons (pv 0) (pa_cons (pv 1) pa_nil))))
      (pss_cons (ps_expr (pe_fnX GX_check_splits (hr.mono (by decide)) (L2N.takes_of rfl rfl rfl rfl) (pa_cons (pv 0) (pa_cons (pv 1) (pa_cons (pv 2) pa_nil)))))
      (pss_one (ps_expr (pe_fnX GX_check_splits (hr.mono (by decide)) (L2N.takes_of rfl rfl rfl rfl) (pa_cons (pv 0) (pa_cons (pv 1) (pa_cons (pv 3) pa_nil))))))))), ?_⟩
    obtain ⟨hz, nd, few, nd1, few1, nd2, few2, ⟨kc, ks⟩, kp1, kp2⟩ := ee
    refine ⟨_, rfl, a, xs, es, rfl, ha, hc, hz.1, hz.2, fun hv H1 g1 => ?_, fun i dd H' hb g hdd => kc i dd H' hb g hdd⟩
    refine ⟨_, rfl, _, rfl, a, b, xs, es, st, rfl, g1.ext_seq ha, CatAt.gr g1 hc, g1.at hb .dK, nd, few, hv.few, fun so H2 g2 => ?_, fun x dd H' hx g hdd => ks x dd H' hv hx (g1.trans g) hdd⟩
    have g12 := g1.trans g2
    refine ⟨_, rfl, _, rfl, _, rfl, a, b, c, xs, es, st, s1, rfl, g12.ext_seq ha, CatAt.gr g12 hc, g12.at hb .dK, g12.at h1 .dK, g12.tab ht, hv, nd1, few1, fun ok1 H3 g3 => ?_, fun x dd H' hx g hdd => kp1 x dd H' hv so hx (g12.trans g) hdd⟩
    have g13 := g12.trans g3
    refine ⟨_, rfl, _, rfl, _, rfl, a, b, c2, xs, es, st, s2, rfl, g13.ext_seq ha, CatAt.gr g13 hc, g13.at hb .dK, g13.at h2 .dK, g13.tab ht, hv, nd2, few2, fun ok2 H4 g4 => ?_, fun x dd H' hx g hdd => kp2 x dd H' hv so ok1 hx (g13.trans g) hdd⟩
    exact k H4 hv so ok1 ok2 (g13.trans g4)
end
end Sk
namespace Sk
open PySem PySem.Spec PyProof.Rows L2
abbrev s_distance : Stmt := topS 23
abbrev N_distance : List Str := ["catalogue", "stock", "first", "second", "name", "weight", "parts"]
theorem sc_distance : FnScope N_distance ["catalogue", "stock", "first", "second"] (defScope s_distance) := ⟨rfl, rfl, rfl, by decide +kernel, rfl, by decide +kernel, by decide +kernel⟩
def absI (i : Int) : Int := if i < 0 then -i else i
def distI (es : List Ent) (s1 s2 : Num) : Int := (es.map fun e => absI (getD s1 e.name - getD s2 e.name)).sum
def sp_distance (Tb : List (Addr × Str)) (K : PySem.W.Frag) : Sp := fun vs H Q E => ∃ (a b c c2 : Addr) (xs : List V) (es : List Ent) (st s1 s2 : Num), vs = [.ref a, .ref b, .ref c, .ref c2] ∧ SqL K H a xs ∧ CatAt H xs es ∧ H b = some (.dK (dS st)) ∧ H c = some (.dK (dS s1)) ∧ H c2 = some (.dK (dS s2)) ∧ LamX.Tabs Tb H ∧ ErrEnds Tb K H E es st s1 s2 ∧
  ∀ H', Valid es → StockOk es st → SplitsOk es st s1 → SplitsOk es st s2 → Gr Tb H H' → Q (.int (distI es s1 s2)) H'
def distO (H : Hp) (s1 s2 : Num) (v : V) : Option V := match itemAt H 0 v with
  | some (.str n) => some (.int (absI (getD s1 n - getD s2 n)))
  | _ => none
theorem distO_at {H : Hp} {s1 s2 : Num} {v : V} {e : Ent} (h : EntAt H v e) : distO H s1 s2 v = some (.int (absI (getD s1 e.name - getD s2 e.name))) := by
  obtain ⟨t, l, rfl, ht, _⟩ := h
  unfold distO
  rw [itemAt_tup ht]
  rfl
section
variable {P : Program} {w : World} {K : PySem.W.Frag} {mg : Str → Option Value} {base : Heap} {Tb : List (Addr × Str)}
theorem ok_distance {f : Addr} {fd : FuncData} (F : FnP K "distance" s_distance f fd) (T : Tx K mg) (GX_check_ends : FnX P w K mg base "check_ends" 6 ["catalogue", "stock", "first", "second"] (sp_check_ends Tb K)) : FnOk P w K mg base (L2N.CX P w) 7 f fd ["catalogue", "stock", "first", "second"] (sp_distance Tb K) := by
  refine F.ok (CX := L2N.CX P w) sc_distance (fun vs H Q E h => ?_) (fun cdv A outer s H vs Q E hr h => ?_)
  · obtain ⟨_, _, _, _, _, _, _, _, _, rfl, _⟩ := h
    rfl
  · obtain ⟨a, b, c, c2, xs, es, st, s1, s2, rfl, ha, hc, hb, h1, h2, ht, ee, k⟩ := h
    refine ⟨_, (pss_cons (ps_expr (pe_fnX GX_check_ends (hr.mono (by decide)) (L2N.takes_of rfl rfl rfl rfl) (pa_cons (pv 0) (pa_cons (pv 1) (pa_cons (pv 2) (pa_cons (pv 3) pa_nil))))))
      (pss_one (ps_ret (pe_callB (crSum (K := K) rfl rfl) (by rfl) T.n_sum (by decide +kernel) (pa_cons (pe_lc (own := [("name", 4), ("weight", 5), ("parts", 6)]) (g := (gTup K 3 (gCons (gName 4) (gCons (gName 5) (gCons (gName 6) gNil))))) (tt := tYes) rfl sc_distance.nd (piL (K := K) rfl (pv 0)) (blkOk_by (N := N_distance) (sc := (defScope s_distance)) (by decide +kernel)) (fun _ _ _ _ _ => (pg_tup rfl (pgs_cons (pg_name (i := 4) sc_distance.nd rfl (Or.inl rfl)) (pgs_cons (pg_name (i := 5) sc_distance.nd rfl (Or.inl rfl)) (pgs_cons (pg_name (i := 6) sc_distance.nd rfl (Or.inl rfl)) pgs_nil))))) (fun _ _ _ _ _ => pts_nil) (fun _ _ _ _ _ => (pe_callB call_abs (by rfl) T.n_abs (by decide +kernel) (pa_cons (pe_op op_sub (pe_dget2 (hu_of hr) (pv 2) (pv 4) pe_int ⟨rfl, rfl, rfl, rfl⟩) (pe_dget2 (hu_of hr) (pv 3) (pv 4) pe_int ⟨rfl, rfl, rfl, rfl⟩)) pa_nil)))) pa_nil))))), ?_⟩
    have hl := Paired.len hc
    refine ⟨_, rfl, _, rfl, _, rfl, _, rfl, a, b, c, c2, xs, es, st, s1, s2, rfl, ha, hc, hb, h1, h2, ht, ee, fun H1 hv so ok1 ok2 g1 => ?_⟩
    have hz := hv.few
    have hcg := CatAt.gr g1 hc
    refine ⟨_, rfl, a, rfl, ⟨_, g1.ext_seq ha⟩, fun D hD => lc_fm (Tb := Tb) (xs := xs) walk_list rfl (distO H1 s1 s2) hD (by omega) (fun H' g => (g1.trans g).ext_seq ha) (fun j v H' hv' g Rk Rs hk hks => ?_) fun H2 g2 hD2 => ?_⟩
    · obtain ⟨e, he, hev⟩ := Paired.at hcg hv'
      have hd := distO_at (s1 := s1) (s2 := s2) hev
      obtain ⟨t, lp, rfl, ht', hlp⟩ := hev
      have h1' := (g1.trans g).at h1 .dK
      have h2' := (g1.trans g).at h2 .dK
      refine gtup3 (g.at ht' .tup) ⟨rfl, ?_⟩
      refine ⟨_, rfl, c, rfl, IsD.num h1', _, rfl, _, dgetO h1' e.name, ?_⟩
      rw [getO]
      refine ⟨_, rfl, c2, rfl, IsD.num h2', _, rfl, _, dgetO h2' e.name, ?_⟩
      rw [getO]
      exact ⟨_, _, rfl, rfl, _, rfl, hk _ _ hd (Gr.refl _)⟩
    have ed : xs.filterMap (distO H1 s1 s2) = (es.map fun e => absI (getD s1 e.name - getD s2 e.name)).map V.int := by
      rw [List.map_map]
      exact fm_paired (fun v e h => distO_at h) hcg
    rw [ed] at hD2
    exact ⟨D, _, rfl, SqL.of hD2, k H2 hv so ok1 ok2 (g1.trans g2)⟩
end
end Sk
namespace Sk
open PySem PySem.Spec PyProof.Rows L2
abbrev s_way : Stmt := topS 24
abbrev N_way : List Str := ["catalogue", "stock", "first", "second", "names", "growth", "steps", "name", "weight", "parts"]
theorem sc_way : FnScope N_way ["catalogue", "stock", "first", "second"] (defScope s_way) := ⟨rfl, rfl, rfl, by decide +kernel, rfl, by decide +kernel, by decide +kernel⟩
/-- how many splits more -/
def gF (s1 s2 : Num) (n : Str) : Int := getD s2 n - getD s1 n
def mkB (word : Str) (n : Str) (i : Int) : Str × Str × Int := (word, n, i)
/-- the blocks of a shortest way -/
def wayL (es : List Ent) (s1 s2 : Num) : List (Str × Str × Int) := ((es.filter fun e => decide (0 < gF s1 s2 e.name)).map fun e => mkB "split" e.name (gF s1 s2 e.name)) ++ ((es.reverse.filter fun e => decide (gF s1 s2 e.name < 0)).map fun e => mkB "undo" e.name (-gF s1 s2 e.name))
def BlkAt (H : Hp) (v : V) (q : Str × Str × Int) : Prop := ∃ t, v = .ref t ∧ H t = some (.tup [.str q.1, .str q.2.1, .int q.2.2])
def sp_way (Tb : List (Addr × Str)) (K : PySem.W.Frag) : Sp := fun vs H Q E => ∃ (a b c c2 : Addr) (xs : List V) (es : List Ent) (st s1 s2 : Num), vs = [.ref a, .ref b, .ref c, .ref c2] ∧ SqL K H a xs ∧ CatAt H xs es ∧ H b = some (.dK (dS st)) ∧ H c = some (.dK (dS s1)) ∧ H c2 = some (.dK (dS s2)) ∧ LamX.Tabs Tb H ∧ ErrEnds Tb K H E es st s1 s2 ∧
  ∀ r H' es' ys, Valid es → StockOk es st → SplitsOk es st s1 → SplitsOk es st s2 → es'.Perm es → Ordered es' → Gr Tb H H' → Nw H r → H' r = some (.lst ys) → Paired (BlkAt H') ys (wayL es' s1 s2) → Q (.ref r) H'
def keepP (p : Str → Bool) (v : V) : Bool := match v with
  | .str n => p n
  | _ => false
/-- the row of a name -/
def BRow (word : Str) (f : Str → Int) (H : Hp) (x y : V) : Prop := ∃ n t, x = .str n ∧ y = .ref t ∧ H t = some (.tup [.str word, .str n, .int (f n)])
theorem brow_mono {word : Str} {f : Str → Int} {D : Addr} : ∀ H H' x y, (∀ a o, NoTab o → (∀ l, o ≠ .lst l) ∨ a ≠ D → H a = some o → H' a = some o) → BRow word f H x y → BRow word f H' x y := fun H H' x y m r => by
  obtain ⟨n, t, h1, h2, h3⟩ := r
  exact ⟨n, t, h1, h2, m _ _ .tup (.inl fun l z => by cases z) h3⟩
theorem brow_at {word : Str} {f : Str → Int} {H : Hp} : ∀ {l : List Ent} {ys : List V}, Paired (BRow word f H) ((l.map (·.name)).map V.str) ys → Paired (BlkAt H) ys (l.map fun e => mkB word e.name (f e.name))
  | [], _, .nil => .nil
  | e :: l, _, .cons a t => by
    obtain ⟨n, t', h1, h2, h3⟩ := a
    have h4 : e.name = n := V.str.inj h1
    rw [← h4] at h3
    exact .cons ⟨t', h2, h3⟩ (brow_at t)
theorem keep_names (p : Str → Bool) (l : List Ent) : ((l.map (·.name)).map V.str).filter (keepP p) = ((l.filter fun e => p e.name).map (·.name)).map V.str := by
  rw [List.filter_map, List.filter_map]
  rfl
def growO (s1 s2 : Num) (v : V) : Option (Str × Int) := match v with
  | .str n => some (n, gF s1 s2 n)
  | _ => none
theorem growO_fm (s1 s2 : Num) : ∀ l : List Ent, ((l.map (·.name)).map V.str).filterMap (growO s1 s2) = numOf l (gF s1 s2)
  | [] => rfl
  | e :: l => by
    rw [List.map_cons, List.map_cons, List.filterMap_cons, growO_fm s1 s2 l]
    rfl
section
variable {P : Program} {w : World} {K : PySem.W.Frag} {mg : Str → Option Value} {base : Heap} {Tb : List (Addr × Str)}
theorem ok_way {f : Addr} {fd : FuncData} (F : FnP K "way" s_way f fd) (T : Tx K mg) (GX_check_ends : FnX P w K mg base "check_ends" 6 ["catalogue", "stock", "first", "second"] (sp_check_ends Tb K)) (G_ordered : Fn P w K mg base "ordered" 4 ["catalogue"] (sp_ordered Tb K)) : FnOk P w K mg base (L2N.CX P w) 7 f fd ["catalogue", "stock", "first", "second"] (sp_way Tb K) := by
  refine F.ok (CX := L2N.CX P w) sc_way (fun vs H Q E h => ?_) (fun cdv A outer s H vs Q E hr h => ?_)
  · obtain ⟨_, _, _, _, _, _, _, _, _, rfl, _⟩ := h
    rfl
  · obtain ⟨a, b, c, c2, xs, es, st, s1, s2, rfl, ha, hc, hb, h1, h2, ht, ee, k⟩ := h
    refine ⟨_, (pss_cons (ps_expr (pe_fnX GX_check_ends (hr.mono (by decide)) (L2N.takes_of rfl rfl rfl rfl) (pa_cons (pv 0) (pa_cons (pv 1) (pa_cons (pv 2) (pa_cons (pv 3) pa_nil))))))
      (pss_cons (ps_setLc (i := 4) (own := [("name", 7), ("weight", 8), ("parts", 9)]) (g := (gTup K 3 (gCons (gName 7) (gCons (gName 8) (gCons (gName 9) gNil))))) (tt := tYes) rfl sc_way.nd rfl rfl (sw_true rfl rfl rfl (by decide +kernel)) (piL (K := K) rfl (pe_fn G_ordered (hr.mono (by decide)) (pa_cons (pv 0) pa_nil))) (blkOk_by (N := N_way) (sc := (defScope s_way)) (by decide +kernel)) (fun _ _ _ _ _ => (pg_tup rfl (pgs_cons (pg_name (i := 7) sc_way.nd rfl (Or.inl rfl)) (pgs_cons (pg_name (i := 8) sc_way.nd rfl (Or.inl rfl)) (pgs_cons (pg_name (i := 9) sc_way.nd rfl (Or.inl rfl)) pgs_nil))))) (fun _ _ _ _ _ => pts_nil) (fun _ _ _ _ _ => (pv 7)))
      (pss_cons (ps_set (i := 5) sc_way.nd rfl (Or.inr rfl) (pe_dc (own := [("name", 7)]) (g := (gName 7)) (tt := tYes) rfl sc_way.nd (piL (K := K) rfl (pv 4)) (blkOk_by (N := N_way) (sc := (defScope s_way)) (by decide +kernel)) (fun _ _ _ _ _ => (pg_name (i := 7) sc_way.nd rfl (Or.inl rfl))) (fun _ _ _ _ _ => pts_nil) (fun _ _ _ _ _ => (pv 7)) (fun _ _ _ _ _ => (pe_op op_sub (pe_dget2 (hu_of hr) (pv 3) (pv 7) pe_int ⟨rfl, rfl, rfl, rfl⟩) (pe_dget2 (hu_of hr) (pv 2) (pv 7) pe_int ⟨rfl, rfl, rfl, rfl⟩)))))
      (pss_cons (ps_setLc (i := 6) (own := [("name", 7)]) (g := (gName 7)) (tt := _) rfl sc_way.nd rfl rfl (sw_true rfl rfl rfl (by decide +kernel)) (piL (K := K) rfl (pv 4)) (blkOk_by (N := N_way) (sc := (defScope s_way)) (by decide +kernel)) (fun _ _ _ _ _ => (pg_name (i := 7) sc_way.nd rfl (Or.inl rfl))) (fun _ _ _ _ _ => (pts_one (pt_cmpR op_gt (pe_dget (hu_of hr) (pv 5) (pv 7) (fun _ _ => rfl)) pe_int (nomark _)))) (fun _ _ _ _ _ => (pe_tup (pa_cons (pe_gs T.c_SPLIT) (pa_cons (pv 7) (pa_cons (pe_dget (hu_of hr) (pv 5) (pv 7) (fun _ _ => rfl)) pa_nil))))))
      (pss_one (ps_ret (pe_op op_cat (pv 6) (pe_lc (own := [("name", 7)]) (g := (gName 7)) (tt := _) rfl sc_way.nd (piL (K := K) rfl (pe_revL (pv 4))) (blkOk_by (N := N_way) (sc := (defScope s_way)) (by decide +kernel)) (fun _ _ _ _ _ => (pg_name (i := 7) sc_way.nd rfl (Or.inl rfl))) (fun _ _ _ _ _ => (pts_one (pt_cmpR op_lt (pe_dget (hu_of hr) (pv 5) (pv 7) (fun _ _ => rfl)) pe_int (nomark _)))) (fun _ _ _ _ _ => (pe_tup (pa_cons (pe_gs T.c_UNDO) (pa_cons (pv 7) (pa_cons (pe_un un_neg (pe_dget (hu_of hr) (pv 5) (pv 7) (fun _ _ => rfl))) pa_nil))))))))))))), ?_⟩
    have hl := Paired.len hc
    refine ⟨_, rfl, _, rfl, _, rfl, _, rfl, a, b, c, c2, xs, es, st, s1, s2, rfl, ha, hc, hb, h1, h2, ht, ee, fun H1 hv so ok1 ok2 g1 => ?_⟩
    have hz := hv.few
    have k := fun r H' es' ys => k r H' es' ys hv so ok1 ok2
    refine ⟨_, rfl, a, xs, es, rfl, g1.ext_seq ha, CatAt.gr g1 hc, g1.tab ht, hv.few, fun r H2 ys es' hp ho hcy g2 hr => ?_⟩
    have g3 : Gr Tb H (upd H2 r (.lst ys)) := (g1.trans g2).trans (Gr.new hr)
    have hcy3 : CatAt (upd H2 r (.lst ys)) ys es' := CatAt.gr (g2.trans (Gr.new hr)) hcy
    have hr3 : (upd H2 r (.lst ys)) r = some (.lst ys) := upd_same
    generalize upd H2 r (.lst ys) = H3 at g3 hcy3 hr3
    have hyl := Paired.len hcy3
    have hel := hp.length_eq
    have hv' := hv.perm hp
    refine ⟨r, rfl, ⟨_, SqL.of hr3⟩, fun D1 hD1 => lc_fm (Tb := Tb) (xs := ys) walk_list rfl (itemAt H3 0) hD1 (by omega) (fun H' g => SqL.of (g.at hr3 .lst)) (fun j v H' hv' g Rk Rs hk hks => ?_) fun H4 g4 hD4 => ?_⟩
    · obtain ⟨e, he, t, lp, rfl, ht', hlp⟩ := Paired.at hcy3 hv'
      exact gtup3 (g.at ht' .tup) ⟨rfl, _, rfl, hk _ _ (by rw [itemAt_tup ht']; rfl) (Gr.refl _)⟩
    have en : ys.filterMap (itemAt H3 0) = (es'.map (·.name)).map V.str := by
      rw [List.map_map]
      exact fm_paired (fun v e ⟨t, lp, h0, h1, _⟩ => by rw [h0, itemAt_tup h1]; rfl) hcy3
    rw [en] at hD4
    have g04 := g3.trans g4
    refine goN ?_
    dsimp only
    -- the growth
    refine ⟨_, rfl, D1, rfl, ⟨_, SqL.of hD4⟩, fun D2 hD2 => dc_fm (Tb := Tb) (xs := (es'.map (·.name)).map V.str) walk_list rfl (growO s1 s2) hD2 (by rw [List.length_map, List.length_map]; omega) (fun H' g => SqL.of (g.at hD4 .lst)) (fun j v H' hv' g Rk Rs hk hks => ?_) fun H5 g5 hD5 => ?_⟩
    · rw [List.getElem?_map, List.getElem?_map] at hv'
      obtain ⟨e, he⟩ : ∃ e, es'[j]? = some e := by
        cases q : es'[j]? with
        | none => rw [q] at hv'; cases hv'
        | some e => exact ⟨e, rfl⟩
      rw [he] at hv'
      cases hv'
      have h1' := (g04.trans g).at h1 .dK
      have h2' := (g04.trans g).at h2 .dK
      refine ⟨rfl, _, rfl, _, rfl, c2, rfl, IsD.num h2', _, rfl, _, dgetO h2' e.name, ?_⟩
      rw [getO]
      refine ⟨_, rfl, c, rfl, IsD.num h1', _, rfl, _, dgetO h1' e.name, ?_⟩
      rw [getO]
      exact ⟨_, _, rfl, rfl, hk _ _ rfl (Gr.refl _)⟩
    rw [growO_fm, putAll_new _ _ (by show ((numOf es' (gF s1 s2)).map (·.1)).Nodup; rw [numOf_names]; exact hv'.nodup)] at hD5
    have g05 := g04.trans g5
    have hD15 := g5.at hD4 .lst
    have dget : ∀ {H' : Hp} {e : Ent}, Gr Tb H5 H' → e ∈ es' → DGet H' D2 (.str e.name) (some (.int (gF s1 s2 e.name))) := fun g he => dgetS (g.at hD5 .dK) (get?_numOf (List.mem_map.mpr ⟨_, he, rfl⟩))
    refine goN ?_
    dsimp only
    -- the splits
    refine ⟨_, rfl, D1, rfl, ⟨_, SqL.of hD15⟩, fun D3 hD3 => lc_rel (Tb := Tb) (xs := (es'.map (·.name)).map V.str) walk_list rfl (keepP fun n => decide (0 < gF s1 s2 n)) (BRow "split" (gF s1 s2)) brow_mono hD3 (by rw [List.length_map, List.length_map]; omega) (fun H' g => SqL.of (g.at hD15 .lst)) (fun j v H' hv' g hDn Rk Rs hk hks => ?_) fun H6 zs g6 hD6 hzs => ?_⟩
    · rw [List.getElem?_map, List.getElem?_map] at hv'
      obtain ⟨e, he⟩ : ∃ e, es'[j]? = some e := by
        cases q : es'[j]? with
        | none => rw [q] at hv'; cases hv'
        | some e => exact ⟨e, rfl⟩
      rw [he] at hv'
      cases hv'
      have hem := List.mem_of_getElem? he
      refine ⟨rfl, _, rfl, _, rfl, D2, _, rfl, dget g hem, _, _, rfl, rfl, _, rfl, ?_⟩
      refine ite2 (fun c1 => ?_) (fun c1 => hks _ (Bool.eq_false_iff.mpr c1) (Gr.refl _))
      exact ⟨_, rfl, _, rfl, _, rfl, D2, _, rfl, dget g hem, by show 3 ≤ sizeLine; decide, fun t ht' => hk _ _ c1 (Gr.new ht') ⟨e.name, t, rfl, rfl, upd_same⟩⟩
    rw [keep_names] at hzs
    have hz1 := brow_at hzs
    have g06 := g05.trans g6
    have hD16 := g6.at hD15 .lst
    refine goN ?_
    dsimp only
    -- the undos
    refine ⟨_, rfl, _, rfl, D1, _, rfl, SqL.of hD16, fun D4 hD4' => ?_⟩
    have g7 := Gr.new (T := Tb) (o := .lst ((es'.map (·.name)).map V.str).reverse) hD4'
    have er : ((es'.map (·.name)).map V.str).reverse = (es'.reverse.map (·.name)).map V.str := by rw [List.map_reverse, List.map_reverse]
    rw [er] at g7 ⊢
    have hr7 : (upd H6 D4 (.lst ((es'.reverse.map (·.name)).map V.str))) D4 = some (.lst ((es'.reverse.map (·.name)).map V.str)) := upd_same
    have hD67 := g7.at hD6 .lst
    generalize upd H6 D4 (.lst ((es'.reverse.map (·.name)).map V.str)) = H7 at g7 hr7 hD67
    have g67 := g6.trans g7
    refine ⟨D4, rfl, ⟨_, SqL.of hr7⟩, fun D5 hD5' => lc_rel (Tb := Tb) (xs := (es'.reverse.map (·.name)).map V.str) walk_list rfl (keepP fun n => decide (gF s1 s2 n < 0)) (BRow "undo" fun n => -gF s1 s2 n) brow_mono hD5' (by rw [List.length_map, List.length_map, List.length_reverse]; omega) (fun H' g => SqL.of (g.at hr7 .lst)) (fun j v H' hv' g hDn Rk Rs hk hks => ?_) fun H8 zt g8 hD8 hzt => ?_⟩
    · rw [List.getElem?_map, List.getElem?_map] at hv'
      obtain ⟨e, he⟩ : ∃ e, es'.reverse[j]? = some e := by
        cases q : es'.reverse[j]? with
        | none => rw [q] at hv'; cases hv'
        | some e => exact ⟨e, rfl⟩
      rw [he] at hv'
      cases hv'
      have hem := List.mem_reverse.mp (List.mem_of_getElem? he)
      have g57 := g67.trans g
      refine ⟨rfl, _, rfl, _, rfl, D2, _, rfl, dget g57 hem, _, _, rfl, rfl, _, rfl, ?_⟩
      refine ite2 (fun c1 => ?_) (fun c1 => hks _ (Bool.eq_false_iff.mpr c1) (Gr.refl _))
      exact ⟨_, rfl, _, rfl, _, rfl, D2, _, rfl, dget g57 hem, _, rfl, by show 3 ≤ sizeLine; decide, fun t ht' => hk _ _ c1 (Gr.new ht') ⟨e.name, t, rfl, rfl, upd_same⟩⟩
    rw [keep_names] at hzt
    have hz2 := brow_at hzt
    have hD68 := g8.at hD67 .lst
    have g78 := g7.trans g8
    have lz : zs.length ≤ 100000 ∧ zt.length ≤ 100000 := by
      have e1 := Paired.len hz1
      have e2 := Paired.len hz2
      rw [List.length_map] at e1 e2
      have e3 := List.length_filter_le (fun e : Ent => decide (0 < gF s1 s2 e.name)) es'
      have e4 := List.length_filter_le (fun e : Ent => decide (gF s1 s2 e.name < 0)) es'.reverse
      rw [List.length_reverse] at e4
      omega
    refine ⟨D3, D5, zs, zt, rfl, rfl, hD68, hD8, by rw [sizeLine_eq]; omega, fun D6 hD6' => ?_⟩
    have g9 := Gr.new (T := Tb) (o := .lst (zs ++ zt)) hD6'
    refine k D6 _ es' (zs ++ zt) hp ho ((g06.trans g78).trans g9) ((g06.trans g78).nw (.of hD6')) upd_same (Paired.app ?_ ?_)
    · exact Paired.imp (fun v q ⟨t, e, z⟩ => ⟨t, e, (g78.trans g9).at z .tup⟩) hz1
    · exact Paired.imp (fun v q ⟨t, e, z⟩ => ⟨t, e, g9.at z .tup⟩) hz2
end
end Sk
namespace Sk
open PySem PySem.Spec PyProof.Rows L2
abbrev s_is_valid : Stmt := topS 25
abbrev N_is_valid : List Str := ["entries", "stock", "splits", "numbers", "name", "weight", "parts"]
theorem sc_is_valid : FnScope N_is_valid ["entries", "stock", "splits"] (defScope s_is_valid) := ⟨rfl, rfl, rfl, by decide +kernel, rfl, by decide +kernel, by decide +kernel⟩
def validB (es : List Ent) (st t : Num) : Bool := es.all fun e => decide (getD t e.name ≤ pn es st t e.name)
def sp_is_valid (Tb : List (Addr × Str)) (K : PySem.W.Frag) : Sp := fun vs H Q _ => ∃ (a b c : Addr) (xs : List V) (es : List Ent) (st t : Num), vs = [.ref a, .ref b, .ref c] ∧ SqL K H a xs ∧ CatAt H xs es ∧ H b = some (.dK (dS st)) ∧ H c = some (.dK (dS t)) ∧ (es.map (·.name)).Nodup ∧ (∀ e ∈ es, ∀ p ∈ e.parts, p ∈ es.map (·.name)) ∧ es.length ≤ 100000 ∧ (∀ e ∈ es, e.name ∈ t.map (·.1)) ∧
  ∀ H', Gr Tb H H' → Q (.bl (validB es st t)) H'
theorem get?_inN {t : Num} {x : Str} (h : x ∈ t.map (·.1)) : get? t x = some (getD t x) := by
  unfold getD
  cases q : get? t x with
  | some i => rfl
  | none =>
    obtain ⟨p, hp, rfl⟩ := List.mem_map.mp h
    unfold get? at q
    have : t.find? (fun q => decide (q.1 = p.1)) = none := by
      cases f : t.find? (fun q => decide (q.1 = p.1)) with
      | none => rfl
      | some z => rw [f] at q; cases q
    exact absurd (decide_eq_true rfl) (List.find?_eq_none.mp this p hp)
def validO (H : Hp) (es : List Ent) (st t : Num) (v : V) : Option V := match itemAt H 0 v with
  | some (.str n) => some (.bl (decide (getD t n ≤ pn es st t n)))
  | _ => none
theorem validO_at {H : Hp} {es : List Ent} {st t : Num} {v : V} {e : Ent} (h : EntAt H v e) : validO H es st t v = some (.bl (decide (getD t e.name ≤ pn es st t e.name))) := by
  obtain ⟨tt, l, rfl, ht, _⟩ := h
  unfold validO
  rw [itemAt_tup ht]
  rfl
section
variable {P : Program} {w : World} {K : PySem.W.Frag} {mg : Str → Option Value} {base : Heap} {Tb : List (Addr × Str)}
theorem ok_is_valid {f : Addr} {fd : FuncData} (F : FnP K "is_valid" s_is_valid f fd) (T : Tx K mg) (G_piece_numbers : Fn P w K mg base "piece_numbers" 1 ["entries", "stock", "splits"] (sp_piece_numbers Tb K)) : FnOk P w K mg base CX0 2 f fd ["entries", "stock", "splits"] (sp_is_valid Tb K) := by
  refine F.ok sc_is_valid (fun vs H Q E h => ?_) (fun cdv A outer s H vs Q E hr h => ?_)
  · obtain ⟨_, _, _, _, _, _, _, rfl, _⟩ := h
    rfl
  · obtain ⟨a, b, c, xs, es, st, t, rfl, ha, hc, hb, ht, hnd, hkn, hz, hk, k⟩ := h
    refine ⟨_, PSs.nox (pss_cons (ps_set (i := 3) sc_is_valid.nd rfl (Or.inr rfl) (pe_fn G_piece_numbers (hr.mono (by decide)) (pa_cons (pv 0) (pa_cons (pv 1) (pa_cons (pv 2) pa_nil)))))
      (pss_one (ps_ret (pe_callB (crAll (K := K) rfl rfl) (by rfl) T.n_all (by decide +kernel) (pa_cons (pe_lc (own := [("name", 4), ("weight", 5), ("parts", 6)]) (g := (gTup K 3 (gCons (gName 4) (gCons (gName 5) (gCons (gName 6) gNil))))) (tt := tYes) rfl sc_is_valid.nd (piL (K := K) rfl (pv 0)) (blkOk_by (N := N_is_valid) (sc := (defScope s_is_valid)) (by decide +kernel)) (fun _ _ _ _ _ => (pg_tup rfl (pgs_cons (pg_name (i := 4) sc_is_valid.nd rfl (Or.inl rfl)) (pgs_cons (pg_name (i := 5) sc_is_valid.nd rfl (Or.inl rfl)) (pgs_cons (pg_name (i := 6) sc_is_valid.nd rfl (Or.inl rfl)) pgs_nil))))) (fun _ _ _ _ _ => pts_nil) (fun _ _ _ _ _ => (pe_cmpR op_le (pe_dget (hu_of hr) (pv 2) (pv 4) (fun _ _ => rfl)) (pe_dget (hu_of hr) (pv 3) (pv 4) (fun _ _ => rfl)) (nomark _)))) pa_nil))))), ?_⟩
    have hlen := Paired.len hc
    refine ⟨_, rfl, _, rfl, _, rfl, a, b, c, xs, es, st, t, rfl, ha, hc, hb, ht, hnd, hkn, hz, fun N H1 g1 nN hN => ?_⟩
    refine ⟨_, rfl, a, rfl, ⟨_, g1.ext_seq ha⟩, fun D hD => lc_fm (Tb := Tb) (xs := xs) walk_list rfl (validO H1 es st t) hD (by omega) (fun H' g => (g1.trans g).ext_seq ha) (fun j v H' hvj g Rk Rs hkk hks => ?_) fun H2 g2 hD2 => ?_⟩
    · obtain ⟨e, he, hev⟩ := Paired.at (CatAt.gr g1 hc) hvj
      have hem := List.mem_of_getElem? he
      have hd := validO_at (es := es) (st := st) (t := t) hev
      obtain ⟨tt, lp, rfl, htp, hlp⟩ := hev
      refine gtup3 (g.at htp .tup) ⟨rfl, ?_⟩
      refine ⟨_, rfl, _, rfl, c, _, rfl, dgetS ((g1.trans g).at ht .dK) (get?_inN (hk e hem)), _, rfl, _, rfl, N, _, rfl, dgetS (g.at hN .dK) (get?_numOf (List.mem_map.mpr ⟨e, hem, rfl⟩)), _, _, rfl, rfl, hkk _ _ hd (Gr.refl _)⟩
    have ed : xs.filterMap (validO H1 es st t) = (es.map fun e => decide (getD t e.name ≤ pn es st t e.name)).map V.bl := by
      rw [List.map_map]
      exact fm_paired (fun v e h => validO_at h) (CatAt.gr g1 hc)
    rw [ed] at hD2
    have e2 : ((es.map fun e => decide (getD t e.name ≤ pn es st t e.name)).all id) = validB es st t := by
      unfold validB
      rw [List.all_map]
      rfl
    refine ⟨D, _, rfl, SqL.of hD2, ?_⟩
    rw [e2]
    exact k H2 (g1.trans g2)
end
end Sk
namespace Sk
open PySem PySem.Spec PyProof.Rows L2
abbrev s_next_splits : Stmt := topS 26
abbrev N_next_splits : List Str := ["entries", "stock", "splits", "goal", "found", "name", "nearer"]
theorem sc_next_splits : FnScope N_next_splits ["entries", "stock", "splits", "goal"] (defScope s_next_splits) := ⟨rfl, rfl, rfl, by decide +kernel, rfl, by decide +kernel, by decide +kernel⟩
def NumAt (H : Hp) (v : V) (t : Num) : Prop := ∃ x, v = .ref x ∧ H x = some (.dK (dS t))
/-- one step nearer of this kind -/
def nearN (t goal : Num) (n : Str) : Num := put t n (getD t n + if getD t n < getD goal n then 1 else -1)
def nextO (es : List Ent) (st t goal : Num) (n : Str) : Option Num := if getD t n = getD goal n then none else if validB es st (nearN t goal n) then some (nearN t goal n) else none
def nextS (es : List Ent) (st t goal : Num) : List Num := (t.map (·.1)).filterMap (nextO es st t goal)
def sp_next_splits (Tb : List (Addr × Str)) (K : PySem.W.Frag) : Sp := fun vs H Q _ => ∃ (a b c g : Addr) (xs : List V) (es : List Ent) (st t goal : Num), vs = [.ref a, .ref b, .ref c, .ref g] ∧ SqL K H a xs ∧ CatAt H xs es ∧ H b = some (.dK (dS st)) ∧ H c = some (.dK (dS t)) ∧ H g = some (.dK (dS goal)) ∧ b ≠ c ∧ g ≠ c ∧ (es.map (·.name)).Nodup ∧ (∀ e ∈ es, ∀ p ∈ e.parts, p ∈ es.map (·.name)) ∧ es.length ≤ 100000 ∧ (∀ e ∈ es, e.name ∈ t.map (·.1)) ∧ (∀ q ∈ t, q.1 ∈ goal.map (·.1)) ∧ (t.map (·.1)).Nodup ∧ t.length ≤ 100000 ∧
  ∀ r H' ys, Gr Tb H H' → Nw H r → H' r = some (.lst ys) → Paired (NumAt H') ys (nextS es st t goal) → Q (.ref r) H'
theorem NumAt.gr {Tb : List (Addr × Str)} {H H' : Hp} (g : Gr Tb H H') {ys : List V} {l : List Num} (h : Paired (NumAt H) ys l) : Paired (NumAt H') ys l := Paired.imp (fun _ _ ⟨x, e, z⟩ => ⟨x, e, g.at z .dK⟩) h
theorem upd_swp {H : Hp} {a b : Addr} {u v : HO} (h : a ≠ b) : upd (upd H a u) b v = upd (upd H b v) a u := by
  funext x
  by_cases e1 : x = a
  · subst e1
    rw [upd_ne h, upd_same, upd_same]
  · by_cases e2 : x = b
    · subst e2
      rw [upd_same, upd_ne e1, upd_same]
    · rw [upd_ne e2, upd_ne e1, upd_ne e1, upd_ne e2]
theorem seq_lk {K : PySem.W.Frag} {H : Hp} {a c : Addr} {xs : List V} {kvs : List (Key × V)} {o : HO} (h : SqL K H a xs) (hc : H c = some (.dK kvs)) : SqL K (upd H c o) a xs := by
  rcases h with (z | ⟨o, z⟩) | z
  · exact .inl (.inl (by rw [upd_ne fun e => by rw [e, hc] at z; cases z]; exact z))
  · exact .inl (.inr ⟨o, by rw [upd_ne fun e => by rw [e, hc] at z; cases z]; exact z⟩)
  · exact .inr z
theorem cat_lk {H : Hp} {c : Addr} {xs : List V} {es : List Ent} {kvs : List (Key × V)} {o : HO} (h : CatAt H xs es) (hc : H c = some (.dK kvs)) : CatAt (upd H c o) xs es :=
  Paired.imp (fun v e ⟨t, l, e1, e2, e3⟩ => ⟨t, l, e1, by rw [upd_ne fun z => by rw [z, hc] at e2; cases e2]; exact e2, by rw [upd_ne fun z => by rw [z, hc] at e3; cases e3]; exact e3⟩) h
theorem dgetF {H : Hp} {a : Addr} {d : Num} {x : Str} {i : Int} {od : Obj} (h : H a = some (.frz od (.dK (dS d)))) (e : get? d x = some i) : DGet H a (.str x) (some (.int i)) :=
  .inl ⟨dS d, Sum.inr x, .inr ⟨od, h⟩, rfl, by rw [valV_dS, e]; rfl⟩
section
variable {P : Program} {w : World} {K : PySem.W.Frag} {mg : Str → Option Value} {base : Heap} {Tb : List (Addr × Str)}
theorem ok_next_splits {f : Addr} {fd : FuncData} (F : FnP K "next_splits" s_next_splits f fd) (T : Tx K mg) (G_is_valid : Fn P w K mg base "is_valid" 2 ["entries", "stock", "splits"] (sp_is_valid Tb K)) : FnOk P w K mg base CX0 3 f fd ["entries", "stock", "splits", "goal"] (sp_next_splits Tb K) := by
  refine F.ok sc_next_splits (fun vs H Q E h => ?_) (fun cdv A outer s H vs Q E hr h => ?_)
  · obtain ⟨_, _, _, _, _, _, _, _, _, rfl, _⟩ := h
    rfl
  · obtain ⟨a, b, c, g, xs, es, st, t, goal, rfl, ha, hc, hb, ht, hg, bc, gc, hnd, hkn, hz, hk, hkg, tnd, tz, k⟩ := h
    refine ⟨_, PSs.nox (pss_cons (ps_set (i := 4) sc_next_splits.nd rfl (Or.inl rfl) (pe_lst pa_nil))
      (pss_cons (ps_lock (ps_for PassesOwn.never rfl (pi_keys (pv 2)) (pg_name (i := 5) sc_next_splits.nd rfl (Or.inl rfl)) (pss_one (ps_if (pt_cmpR op_ne (pe_dget (hu_of hr) (pv 2) (pv 5) (fun _ _ => rfl)) (pe_dget (hu_of hr) (pv 3) (pv 5) (fun _ _ => rfl)) (nomark _)) (pss_cons (ps_set (i := 6) sc_next_splits.nd rfl (Or.inl rfl) (pe_callTy call_dictD (by rfl) T.n_dict (by decide +kernel) (pa_cons (pv 2) pa_nil)))
          (pss_cons (ps_daug (hu_of hr) (pv 6) (pv 5) (pe_ifExp (pt_cmpR op_lt (pe_dget (hu_of hr) (pv 2) (pv 5) (fun _ _ => rfl)) (pe_dget (hu_of hr) (pv 3) (pv 5) (fun _ _ => rfl)) (nomark _)) pe_int (pe_un un_neg pe_int)) in_add (fun _ _ _ => rfl))
          (pss_one (ps_if (pt_val (pe_fn G_is_valid (hr.mono (by decide)) (pa_cons (pv 0) (pa_cons (pv 1) (pa_cons (pv 6) pa_nil))))) (pss_one (ps_expr (peBm (K := K) rfl PySem.F.plainAttrs_list PySem.F.slot_list_append PySem.F.type_list_append mt_append (pv 4) (pa_cons (pv 6) pa_nil)))) pss_nil)))) pss_nil))))
      (pss_one (ps_ret (pv 4))))), ?_⟩
    refine ⟨Nat.zero_le _, fun f hf => ?_⟩
    have fc : f ≠ c := fun z => by rw [z, ht] at hf; cases hf
    have nf : Nw H f := .of hf
    refine goN ?_
    dsimp only
    refine ⟨c, .dK (dS t), by rw [upd_ne fc.symm]; exact ht, trivial, fun od => ?_⟩
    rw [upd_swp fc]
    have hcb : (upd H c (.frz od (.dK (dS t)))) c = some (.frz od (.dK (dS t))) := upd_same
    have hfb : (upd H c (.frz od (.dK (dS t)))) f = none := by rw [upd_ne fc]; exact hf
    have hbl : (upd H c (.frz od (.dK (dS t)))) b = some (.dK (dS st)) := by rw [upd_ne bc]; exact hb
    have hgl : (upd H c (.frz od (.dK (dS t)))) g = some (.dK (dS goal)) := by rw [upd_ne gc]; exact hg
    have hal : SqL K (upd H c (.frz od (.dK (dS t)))) a xs := seq_lk ha ht
    have hcl : CatAt (upd H c (.frz od (.dK (dS t)))) xs es := cat_lk hc ht
    have ul : ∀ {H'}, Gr Tb (upd H c (.frz od (.dK (dS t)))) H' → Gr Tb H (upd H' c (.dK (dS t))) := fun g' => Gr.unlock ht .dK g' (g'.at hcb .frz)
    generalize upd H c (.frz od (.dK (dS t))) = Hb at hcb hfb hbl hgl hal hcl ul
    have nfb : Nw Hb f := .of hfb
    have g0 : Gr Tb Hb (upd Hb f (.lst [])) := Gr.new hfb
    have hf0 : (upd Hb f (.lst [])) f = some (.lst []) := upd_same
    generalize upd Hb f (.lst []) = H0 at g0 hf0
    refine ⟨_, rfl, c, od, rfl, .inl ⟨_, g0.at hcb .frz, for_it (walk_keysS (d := c) (o := od) (n := t)) (fun i σ H' => ∃ (ys : List V) (s5 s6 : Option V), σ = [some (.ref a), some (.ref b), some (.ref c), some (.ref g), some (.ref f), s5, s6] ∧ Gr Tb Hb H' ∧ H' f = some (.lst ys) ∧ ys.length ≤ i ∧ Paired (NumAt H') ys (((t.map (·.1)).take i).filterMap (nextO es st t goal)))
      ⟨[], _, _, rfl, g0, hf0, Nat.le_refl _, .nil⟩ (fun i σ H' _ ⟨_, _, _, _, g, _⟩ => g.at hcb .frz) ?_ ?_⟩⟩
    · rintro i x σ H2 H2' hi ⟨ys, s5, s6, rfl, g2, hf2, hyl, hys⟩ ⟨rfl, hx⟩
      rw [List.getElem?_map] at hx
      cases hn : (t.map (·.1))[i]? with
      | none => rw [hn] at hx; cases hx
      | some n =>
      rw [hn] at hx
      cases hx
      have hnm : n ∈ t.map (·.1) := List.mem_of_getElem? hn
      have hgt := get?_inN hnm
      have hgg : get? goal n = some (getD goal n) := by
        obtain ⟨q, hq, rfl⟩ := List.mem_map.mp hnm
        exact get?_inN (hkg q hq)
      rw [take_snoc hn, List.filterMap_append]
      refine goN ?_
      dsimp only
      refine ⟨_, rfl, _, rfl, c, _, rfl, dgetF (g2.at hcb .frz) hgt, _, rfl, _, rfl, g, _, rfl, dgetS (g2.at hgl .dK) hgg, rfl, _, rfl, ?_⟩
      by_cases eq : getD t n = getD goal n
      · refine iteFb (by rw [eq, decide_eq_true rfl]; rfl) ?_
        refine ⟨ys, _, _, rfl, g2, hf2, by omega, ?_⟩
        have e1 : nextO es st t goal n = none := by unfold nextO; rw [if_pos eq]
        rw [List.filterMap_cons, e1, List.filterMap_nil, List.append_nil]
        exact hys
      · refine iteTb (by rw [decide_eq_false (fun z => eq (V.int.inj z))]; rfl) ?_
        refine ⟨_, rfl, c, _, rfl, .inr ⟨od, g2.at hcb .frz⟩, fun y hy => ?_⟩
        have gy := Gr.new (T := Tb) (o := .dK (dS t)) hy
        have hy3 : (upd H2' y (.dK (dS t))) y = some (.dK (dS t)) := upd_same
        have g3 := g2.trans gy
        have hf3 := gy.at hf2 .lst
        have hys3 := NumAt.gr gy hys
        have ny : Nw Hb y := g2.nw (.of hy)
        have ny2 : Nw H2' y := .of hy
        generalize upd H2' y (.dK (dS t)) = H3 at gy hy3 g3 hf3 hys3
        refine goN ?_
        dsimp only
        refine ⟨_, rfl, _, rfl, y, _, rfl, dgetS hy3 hgt, ?_⟩
        refine (show tIf _ _ _ _ _ _ from rd_post (fun v H' => v = .int (if getD t n < getD goal n then 1 else -1) ∧ H' = H3) (fun Q' kq => ?_) ?_)
        · refine ⟨_, rfl, _, rfl, c, _, rfl, dgetF (g3.at hcb .frz) hgt, _, rfl, _, rfl, g, _, rfl, dgetS (g3.at hgl .dK) hgg, _, _, rfl, rfl, _, rfl, ?_⟩
          refine ite2 (fun c1 => ?_) (fun c1 => ?_)
          · exact kq _ _ ⟨by rw [if_pos (of_decide_eq_true c1)], rfl⟩
          · exact ⟨_, rfl, kq _ _ ⟨by rw [if_neg fun z => c1 (decide_eq_true z)] <;> rfl, rfl⟩⟩
        rintro v H3' ⟨rfl, rfl⟩
        refine ⟨_, _, rfl, rfl, _, dputS hy3 (by rw [sizeLine_eq]; omega), ?_⟩
        have en : put t n (getD t n + if getD t n < getD goal n then 1 else -1) = nearN t goal n := rfl
        rw [en]
        have fy : f ≠ y := fun z => by rw [z, hy3] at hf3; cases hf3
        have g4 := g3.mut (o := .dK (dS (nearN t goal n))) ny hy3 .dK
        have g24 := gy.mut (o := .dK (dS (nearN t goal n))) ny2 hy3 .dK
        have hy4 : (upd H3' y (.dK (dS (nearN t goal n)))) y = some (.dK (dS (nearN t goal n))) := upd_same
        have hf4 : (upd H3' y (.dK (dS (nearN t goal n)))) f = some (.lst ys) := by rw [upd_ne fy]; exact hf3
        have hys4 := NumAt.gr g24 hys
        generalize upd H3' y (.dK (dS (nearN t goal n))) = H4 at g4 g24 hy4 hf4 hys4
        refine ⟨_, rfl, _, rfl, _, rfl, a, b, y, xs, es, st, nearN t goal n, rfl, g4.ext_seq hal, CatAt.gr g4 hcl, g4.at hbl .dK, hy4, hnd, hkn, hz, fun e he => (put_keys _ _ _ _).mpr (.inr (hk e he)), fun H5 g5 => ⟨_, rfl, ?_⟩⟩
        have hf5 := g5.at hf4 .lst
        have hys5 := NumAt.gr g5 hys4
        have hy5 := g5.at hy4 .dK
        have g45 := g4.trans g5
        have e1 : nextO es st t goal n = if validB es st (nearN t goal n) = true then some (nearN t goal n) else none := by unfold nextO; rw [if_neg eq]
        refine ite2 (fun c1 => ?_) (fun c1 => ?_)
        · refine ⟨_, rfl, .inl ⟨rfl, _, SqL.of hf5⟩, _, rfl, f, ys, _, rfl, rfl, hf5, by rw [sizeLine_eq]; omega, ?_⟩
          refine ⟨ys ++ [.ref y], _, _, rfl, g45.mut nfb hf5 .lst, upd_same, by rw [List.length_append]; show _ + 1 ≤ _; omega, ?_⟩
          rw [List.filterMap_cons, e1, if_pos c1]
          have keep : ∀ v u, NumAt H5 v u → NumAt (upd H5 f (.lst (ys ++ [.ref y]))) v u := fun v u ⟨x, e, z⟩ => ⟨x, e, by
            rw [upd_ne (fun q => by rw [q, hf5] at z; cases z)]
            exact z⟩
          exact Paired.app (Paired.imp keep hys5) (.cons (keep _ _ ⟨y, rfl, hy5⟩) .nil)
        · refine ⟨ys, _, _, rfl, g45, hf5, by omega, ?_⟩
          rw [List.filterMap_cons, e1, if_neg c1, List.filterMap_nil, List.append_nil]
          exact hys5
    · rintro σ H2 ⟨ys, s5, s6, rfl, g2, hf2, hyl, hys⟩
      refine ⟨g2.at hcb .frz, ?_⟩
      have el : (t.map (·.1)).take t.length = t.map (·.1) := List.take_of_length_le (by rw [List.length_map]; exact Nat.le_refl _)
      rw [el] at hys
      refine ⟨_, rfl, k f _ ys (ul g2) nf (by rw [upd_ne fc]; exact hf2) (Paired.imp (fun v u ⟨x, e1, e2⟩ => ⟨x, e1, ?_⟩) hys)⟩
      rw [upd_ne fun z => by rw [z, g2.at hcb .frz] at e2; cases e2]
      exact e2
end
end Sk
namespace Sk
open PySem PySem.Spec PyProof.Rows L2
def keyK (k : List Int) : List Key := k.map Sum.inl
theorem keyK_inj {k k' : List Int} : keyK k = keyK k' ↔ k = k' := by
  unfold keyK
  constructor
  · intro h
    exact List.map_inj_right (fun a b e => Sum.inl.inj e) |>.mp h
  · intro h
    rw [h]
theorem keyK_V (k : List Int) : (keyK k).map kV = k.map V.int := by
  unfold keyK
  rw [List.map_map]
  rfl
abbrev WL := List (List Int × Int)
def wT (W : WL) : List (List Key × V) := W.map fun q => (keyK q.1, V.int q.2)
def getW (W : WL) (k : List Int) : Int := ((W.find? fun q => decide (q.1 = k)).map (·.2)).getD 0
def putW (W : WL) (k : List Int) (c : Int) : WL := if (W.any fun q => decide (q.1 = k)) = true then W.map (fun q => if q.1 = k then (q.1, c) else q) else W ++ [(k, c)]
theorem wT_val (W : WL) (k : List Int) : (valV (wT W) (keyK k)).getD (.int 0) = .int (getW W k) := by
  unfold valV wT getW
  rw [List.find?_map]
  have e : ((fun kv : List Key × V => decide (kv.1 = keyK k)) ∘ fun q : List Int × Int => (keyK q.1, V.int q.2)) = fun q => decide (q.1 = k) := by
    funext q
    exact decide_eq_decide.mpr keyK_inj
  rw [e]
  cases W.find? fun q => decide (q.1 = k) <;> rfl
theorem wT_put (W : WL) (k : List Int) (c : Int) : putK (wT W) (keyK k) (.int c) = wT (putW W k c) := by
  unfold putK wT putW
  rw [List.any_map]
  have e : ((fun kv : List Key × V => decide (kv.1 = keyK k)) ∘ fun q : List Int × Int => (keyK q.1, V.int q.2)) = fun q => decide (q.1 = k) := by
    funext q
    exact decide_eq_decide.mpr keyK_inj
  rw [e]
  by_cases h : (W.any fun q => decide (q.1 = k)) = true
  · rw [if_pos h, if_pos h, List.map_map, List.map_map]
    refine List.map_congr_left fun q _ => ?_
    show (if keyK q.1 = keyK k then (keyK q.1, V.int c) else (keyK q.1, V.int q.2)) = (keyK (if q.1 = k then (q.1, c) else q).1, V.int (if q.1 = k then (q.1, c) else q).2)
    by_cases z : q.1 = k
    · rw [if_pos (keyK_inj.mpr z), if_pos z]
    · rw [if_neg fun y => z (keyK_inj.mp y), if_neg z]
  · rw [if_neg h, if_neg h, List.map_append]
    rfl
theorem putW_len (W : WL) (k : List Int) (c : Int) : W.length ≤ (putW W k c).length ∧ (putW W k c).length ≤ W.length + 1 := by
  unfold putW
  split
  · rw [List.length_map]
    omega
  · rw [List.length_append]
    show _ ≤ _ + 1 ∧ _ + 1 ≤ _
    omega
/-- so many ways more to this key -/
def addW (W : WL) (k : List Int) (c : Int) : WL := putW W k (getW W k + c)
/-- the splits of a key -/
def numV (ns : List Str) (v : List Int) : Num := ns.zip v
def valsN (u : Num) : List Int := u.map (·.2)
def addAllW (c : Int) (W : WL) (l : List Num) : WL := l.foldl (fun W u => addW W (valsN u) c) W
/-- one step of all ways -/
def stepW (es : List Ent) (st goal : Num) (W : WL) : WL := W.foldl (fun acc q => addAllW q.2 acc (nextS es st (numV (es.map (·.name)) q.1) goal)) []
def waysW (es : List Ent) (st goal : Num) (v : List Int) : Nat → WL
  | 0 => [(v, 1)]
  | n + 1 => stepW es st goal (waysW es st goal v n)
theorem addAllW_len (c : Int) : ∀ (l : List Num) (W : WL), W.length ≤ (addAllW c W l).length
  | [], W => Nat.le_refl _
  | u :: l, W => Nat.le_trans (putW_len W _ _).1 (addAllW_len c l (addW W (valsN u) c))
theorem addAllW_take (c : Int) (W : WL) {l : List Num} {j : Nat} {u : Num} (h : l[j]? = some u) : addAllW c W (l.take (j + 1)) = addW (addAllW c W (l.take j)) (valsN u) c := by
  unfold addAllW
  rw [take_snoc h, List.foldl_append]
  rfl
theorem addAllW_le (c : Int) (W : WL) (l : List Num) (j : Nat) : (addAllW c W (l.take j)).length ≤ (addAllW c W l).length := by
  have h : addAllW c W l = addAllW c (addAllW c W (l.take j)) (l.drop j) := by
    unfold addAllW
    rw [← List.foldl_append, List.take_append_drop]
  rw [h]
  exact addAllW_len c _ _
def stepAcc (es : List Ent) (st goal : Num) (acc : WL) (l : WL) : WL := l.foldl (fun acc q => addAllW q.2 acc (nextS es st (numV (es.map (·.name)) q.1) goal)) acc
theorem stepAcc_len (es : List Ent) (st goal : Num) : ∀ (l : WL) (acc : WL), acc.length ≤ (stepAcc es st goal acc l).length
  | [], acc => Nat.le_refl _
  | q :: l, acc => Nat.le_trans (addAllW_len q.2 _ acc) (stepAcc_len es st goal l _)
theorem stepAcc_take (es : List Ent) (st goal : Num) (acc : WL) {l : WL} {j : Nat} {q : List Int × Int} (h : l[j]? = some q) : stepAcc es st goal acc (l.take (j + 1)) = addAllW q.2 (stepAcc es st goal acc (l.take j)) (nextS es st (numV (es.map (·.name)) q.1) goal) := by
  unfold stepAcc
  rw [take_snoc h, List.foldl_append]
  rfl
theorem stepAcc_le (es : List Ent) (st goal : Num) (acc : WL) (l : WL) (j : Nat) : (stepAcc es st goal acc (l.take j)).length ≤ (stepAcc es st goal acc l).length := by
  have h : stepAcc es st goal acc l = stepAcc es st goal (stepAcc es st goal acc (l.take j)) (l.drop j) := by
    unfold stepAcc
    rw [← List.foldl_append, List.take_append_drop]
  rw [h]
  exact stepAcc_len es st goal _ _
theorem wT_ix {W : WL} {i : Nat} {k : List Key} {v : V} (h : (wT W)[i]? = some (k, v)) : ∃ q, W[i]? = some q ∧ k = keyK q.1 ∧ v = .int q.2 := by
  unfold wT at h
  rw [List.getElem?_map] at h
  cases e : W[i]? with
  | none => rw [e] at h; cases h
  | some q =>
    rw [e] at h
    cases h
    exact ⟨q, rfl, rfl, rfl⟩
theorem zipK_num (ns : List Str) (v : List Int) : zipK ns (v.map V.int) = dS (numV ns v) := by
  unfold zipK dS numV
  rw [List.zip_map_right, List.map_map]
  rfl
theorem numV_names {ns : List Str} {v : List Int} (h : ns.length = v.length) : (numV ns v).map (·.1) = ns := by
  unfold numV
  exact List.map_fst_zip (by omega)
theorem nearN_names {t goal : Num} {n : Str} (h : n ∈ t.map (·.1)) : (nearN t goal n).map (·.1) = t.map (·.1) := by
  unfold nearN put
  rw [if_pos (any_mem.mpr h), List.map_map]
  refine List.map_congr_left fun q _ => ?_
  show (if q.1 = n then (q.1, _) else q).1 = q.1
  split <;> rfl
theorem nextS_names {es : List Ent} {st t goal u : Num} (h : u ∈ nextS es st t goal) : u.map (·.1) = t.map (·.1) := by
  unfold nextS at h
  obtain ⟨n, hn, h⟩ := List.mem_filterMap.mp h
  unfold nextO at h
  split at h
  · cases h
  · split at h
    · cases h
      exact nearN_names hn
    · cases h
theorem putW_mem {W : WL} {k : List Int} {c : Int} {q : List Int × Int} (h : q ∈ putW W k c) : q.1 = k ∨ ∃ q' ∈ W, q'.1 = q.1 := by
  unfold putW at h
  split at h
  · obtain ⟨q', hq, rfl⟩ := List.mem_map.mp h
    by_cases z : q'.1 = k
    · rw [if_pos z]
      exact .inl z
    · rw [if_neg z]
      exact .inr ⟨q', hq, rfl⟩
  · rcases List.mem_append.mp h with z | z
    · exact .inr ⟨q, z, rfl⟩
    · rw [List.mem_singleton.mp z]
      exact .inl rfl
/-- what holds of all keys -/
theorem addAllW_all {P : List Int → Prop} {c : Int} : ∀ {l : List Num} {W : WL}, (∀ q ∈ W, P q.1) → (∀ u ∈ l, P (valsN u)) → ∀ q ∈ addAllW c W l, P q.1
  | [], _, h, _ => h
  | u :: l, W, h, hu => addAllW_all (l := l) (W := addW W (valsN u) c) (fun q hq => by
      rcases putW_mem hq with z | ⟨q', h1, h2⟩
      · rw [z]
        exact hu u (List.mem_cons_self ..)
      · rw [← h2]
        exact h q' h1) fun x hx => hu x (List.mem_cons_of_mem _ hx)
theorem stepAcc_all {P R : List Int → Prop} {es : List Ent} {st goal : Num} (hs : ∀ k, P k → ∀ u ∈ nextS es st (numV (es.map (·.name)) k) goal, R (valsN u)) : ∀ {l : WL} {acc : WL}, (∀ q ∈ l, P q.1) → (∀ q ∈ acc, R q.1) → ∀ q ∈ stepAcc es st goal acc l, R q.1
  | [], _, _, h => h
  | q :: l, acc, h1, h2 => stepAcc_all (l := l) (P := P) hs (fun x hx => h1 x (List.mem_cons_of_mem _ hx)) (addAllW_all h2 fun u hu => hs q.1 (h1 q (List.mem_cons_self ..)) u hu)
theorem waysW_len {es : List Ent} {st goal : Num} {v : List Int} (hv : v.length = es.length) : ∀ n, ∀ q ∈ waysW es st goal v n, q.1.length = es.length
  | 0, q, h => by
    rw [List.mem_singleton.mp h]
    exact hv
  | n + 1, q, h => stepAcc_all (P := fun k => k.length = es.length) (R := fun k => k.length = es.length) (fun k hk u hu => by
      have := congrArg List.length (nextS_names hu)
      rw [List.length_map, numV_names (by rw [List.length_map]; exact hk.symm), List.length_map] at this
      show (u.map (·.2)).length = _
      rw [List.length_map]
      exact this) (waysW_len hv n) (fun q h => by cases h) q h
end Sk
namespace Sk
open PySem PySem.Spec PyProof.Rows L2
abbrev s_count_ways : Stmt := topS 27
abbrev N_count_ways : List Str := ["catalogue", "stock", "first", "second", "steps", "entries", "names", "goal", "ways", "step", "longer", "name", "numbers", "count", "nearer", "weight", "parts", "key"]
theorem sc_count_ways : FnScope N_count_ways ["catalogue", "stock", "first", "second"] (defScope s_count_ways) := ⟨rfl, rfl, rfl, by decide +kernel, rfl, by decide +kernel, by decide +kernel⟩
/-- not too many keys -/
def FewW (es : List Ent) (st s1 s2 : Num) : Prop := distI es s1 s2 < 2 ^ 62 ∧ ∀ es', es'.Perm es → Ordered es' → ∀ n : Nat, (n : Int) ≤ distI es s1 s2 → (waysW es' st (numOf es' (getD s2)) (es'.map fun e => getD s1 e.name) n).length ≤ 100000
def sp_count_ways (Tb : List (Addr × Str)) (K : PySem.W.Frag) : Sp := fun vs H Q E => ∃ (a b c c2 : Addr) (xs : List V) (es : List Ent) (st s1 s2 : Num), vs = [.ref a, .ref b, .ref c, .ref c2] ∧ SqL K H a xs ∧ CatAt H xs es ∧ H b = some (.dK (dS st)) ∧ H c = some (.dK (dS s1)) ∧ H c2 = some (.dK (dS s2)) ∧ LamX.Tabs Tb H ∧ ErrEnds Tb K H E es st s1 s2 ∧ (Valid es → StockOk es st → SplitsOk es st s1 → SplitsOk es st s2 → FewW es st s1 s2) ∧
  ∀ H' es', Valid es → StockOk es st → SplitsOk es st s1 → SplitsOk es st s2 → es'.Perm es → Ordered es' → Gr Tb H H' → Q (.int ((waysW es' st (numOf es' (getD s2)) (es'.map fun e => getD s1 e.name) (distI es s1 s2).toNat).map (·.2)).sum) H'
def intO (f : Str → Int) (v : V) : Option V := match v with
  | .str n => some (.int (f n))
  | _ => none
theorem intO_fm (f : Str → Int) : ∀ l : List Ent, ((l.map (·.name)).map V.str).filterMap (intO f) = (l.map fun e => f e.name).map V.int
  | [] => rfl
  | e :: l => by
    rw [List.map_cons, List.map_cons, List.filterMap_cons, intO_fm f l]
    rfl
def pairO (f : Str → Int) (v : V) : Option (Str × Int) := match v with
  | .str n => some (n, f n)
  | _ => none
theorem pairO_fm (f : Str → Int) : ∀ l : List Ent, ((l.map (·.name)).map V.str).filterMap (pairO f) = numOf l f
  | [] => rfl
  | e :: l => by
    rw [List.map_cons, List.map_cons, List.filterMap_cons, pairO_fm f l]
    rfl
theorem cat_up {H : Hp} {c : Addr} {xs : List V} {es : List Ent} {kvs : List (List Key × V)} {o : HO} (h : CatAt H xs es) (hc : H c = some (.dT kvs)) : CatAt (upd H c o) xs es :=
  Paired.imp (fun v e ⟨t, l, e1, e2, e3⟩ => ⟨t, l, e1, by rw [upd_ne fun z => by rw [z, hc] at e2; cases e2]; exact e2, by rw [upd_ne fun z => by rw [z, hc] at e3; cases e3]; exact e3⟩) h
theorem abs_sum (f : Ent → Int) (h : ∀ e, 0 ≤ f e) : ∀ l : List Ent, 0 ≤ (l.map f).sum
  | [] => Int.le_refl _
  | e :: l => by
    rw [List.map_cons, List.sum_cons]
    have := h e
    have := abs_sum f h l
    omega
theorem distI_pos (es : List Ent) (s1 s2 : Num) : 0 ≤ distI es s1 s2 := abs_sum _ (fun e => by unfold absI; split <;> omega) es
theorem valsN_V (u : Num) : (dS u).map (·.2) = (keyK (valsN u)).map kV := by
  rw [keyK_V]
  unfold dS valsN
  rw [List.map_map, List.map_map]
  rfl
section
variable {P : Program} {w : World} {K : PySem.W.Frag} {mg : Str → Option Value} {base : Heap} {Tb : List (Addr × Str)}
theorem ok_count_ways {f : Addr} {fd : FuncData} (F : FnP K "count_ways" s_count_ways f fd) (T : Tx K mg) (GX_distance : FnX P w K mg base "distance" 7 ["catalogue", "stock", "first", "second"] (sp_distance Tb K)) (G_next_splits : Fn P w K mg base "next_splits" 3 ["entries", "stock", "splits", "goal"] (sp_next_splits Tb K)) (G_ordered : Fn P w K mg base "ordered" 4 ["catalogue"] (sp_ordered Tb K)) : FnOk P w K mg base (L2N.CX P w) 8 f fd ["catalogue", "stock", "first", "second"] (sp_count_ways Tb K) := by
  refine F.ok (CX := L2N.CX P w) sc_count_ways (fun vs H Q E h => ?_) (fun cdv A outer s H vs Q E hr h => ?_)
  · obtain ⟨_, _, _, _, _, _, _, _, _, rfl, _⟩ := h
    rfl
  · obtain ⟨a, b, c, c2, xs, es, st, s1, s2, rfl, ha, hc, hb, h1, h2, ht, ee, hfw, k⟩ := h
    refine ⟨_, (pss_cons (ps_set (i := 4) sc_count_ways.nd rfl (Or.inl rfl) (pe_fnX GX_distance (hr.mono (by decide)) (L2N.takes_of rfl rfl rfl rfl) (pa_cons (pv 0) (pa_cons (pv 1) (pa_cons (pv 2) (pa_cons (pv 3) pa_nil))))))
      (pss_cons (ps_set (i := 5) sc_count_ways.nd rfl (Or.inl rfl) (pe_fn G_ordered (hr.mono (by decide)) (pa_cons (pv 0) pa_nil)))
      (pss_cons (ps_setLc (i := 6) (own := [("name", 11), ("weight", 15), ("parts", 16)]) (g := (gTup K 3 (gCons (gName 11) (gCons (gName 15) (gCons (gName 16) gNil))))) (tt := tYes) rfl sc_count_ways.nd rfl rfl (sw_true rfl rfl rfl (by decide +kernel)) (piL (K := K) rfl (pv 5)) (blkOk_by (N := N_count_ways) (sc := (defScope s_count_ways)) (by decide +kernel)) (fun _ _ _ _ _ => (pg_tup rfl (pgs_cons (pg_name (i := 11) sc_count_ways.nd rfl (Or.inl rfl)) (pgs_cons (pg_name (i := 15) sc_count_ways.nd rfl (Or.inl rfl)) (pgs_cons (pg_name (i := 16) sc_count_ways.nd rfl (Or.inl rfl)) pgs_nil))))) (fun _ _ _ _ _ => pts_nil) (fun _ _ _ _ _ => (pv 11)))
      (pss_cons (ps_setDc (i := 7) (own := [("name", 11)]) (g := (gName 11)) (tt := tYes) rfl sc_count_ways.nd rfl rfl (swD_true rfl rfl rfl (by decide +kernel)) (piL (K := K) rfl (pv 6)) (blkOk_by (N := N_count_ways) (sc := (defScope s_count_ways)) (by decide +kernel)) (fun _ _ _ _ _ => (pg_name (i := 11) sc_count_ways.nd rfl (Or.inl rfl))) (fun _ _ _ _ _ => pts_nil) (fun _ _ _ _ _ => (pv 11)) (fun _ _ _ _ _ => (pe_dget2 (hu_of hr) (pv 3) (pv 11) pe_int ⟨rfl, rfl, rfl, rfl⟩)))
      (pss_cons (ps_set (i := 8) sc_count_ways.nd rfl (Or.inl rfl) (pe_dispT (hu_of hr) (pe_callTy call_tuple_of (by rfl) T.n_tuple (by decide +kernel) (pa_cons (pe_lc (own := [("name", 11)]) (g := (gName 11)) (tt := tYes) rfl sc_count_ways.nd (piL (K := K) rfl (pv 6)) (blkOk_by (N := N_count_ways) (sc := (defScope s_count_ways)) (by decide +kernel)) (fun _ _ _ _ _ => (pg_name (i := 11) sc_count_ways.nd rfl (Or.inl rfl))) (fun _ _ _ _ _ => pts_nil) (fun _ _ _ _ _ => (pe_dget2 (hu_of hr) (pv 2) (pv 11) pe_int ⟨rfl, rfl, rfl, rfl⟩))) pa_nil)) pe_int))
      (pss_cons (ps_for (passes_of rfl) rfl (pi_range1 (by rfl) T.n_range (pa_cons (pv 4) pa_nil)) (pg_name (i := 9) sc_count_ways.nd rfl (Or.inl rfl)) (pss_cons (ps_set (i := 10) sc_count_ways.nd rfl (Or.inl rfl) pe_dnewT)
        (pss_cons (ps_lock (ps_for (passes_of rfl) rfl (pi_itemsT (pv 8)) (pg_tup rfl (pgs_cons (pg_name (i := 12) sc_count_ways.nd rfl (Or.inl rfl)) (pgs_cons (pg_name (i := 13) sc_count_ways.nd rfl (Or.inl rfl)) pgs_nil))) (pss_one (ps_for (passes_of rfl) rfl (piL (K := K) rfl (pe_fn G_next_splits (hr.mono (by decide)) (pa_cons (pv 5) (pa_cons (pv 1) (pa_cons (pe_dictZip rfl (by rfl) T.n_dict (by rfl) T.n_zip (pa_cons (pv 6) (pa_cons (pv 12) pa_nil))) (pa_cons (pv 7) pa_nil)))))) (pg_name (i := 14) sc_count_ways.nd rfl (Or.inl rfl)) (pss_cons (ps_set (i := 17) sc_count_ways.nd rfl (Or.inl rfl) (pe_tupVals rfl (by rfl) T.n_tuple (pv 14)))
            (pss_one (ps_dput (hu_of hr) (pv 10) (pv 17) (pe_op op_add (pe_dget2 (hu_of hr) (pv 10) (pv 17) pe_int ⟨rfl, rfl, rfl, rfl⟩) (pv 13)) rfl)))))))
        (pss_one (ps_set (i := 8) sc_count_ways.nd rfl (Or.inl rfl) (pv 10))))))
      (pss_one (ps_ret (pe_sumValsT rfl (by rfl) T.n_sum (pv 8)))))))))), ?_⟩
    have hl := Paired.len hc
    refine ⟨_, rfl, _, rfl, _, rfl, _, rfl, a, b, c, c2, xs, es, st, s1, s2, rfl, ha, hc, hb, h1, h2, ht, ee, fun H1 hv so ok1 ok2 g1 => ?_⟩
    obtain ⟨d62, hfew⟩ := hfw hv so ok1 ok2
    have d0 := distI_pos es s1 s2
    have hz := hv.few
    refine ⟨_, rfl, a, xs, es, rfl, g1.ext_seq ha, CatAt.gr g1 hc, g1.tab ht, hv.few, fun s H2 ys es' hp ho hcy g2 hs => ?_⟩
    have k := fun H' => k H' es' hv so ok1 ok2 hp ho
    have hfew := hfew es' hp ho
    generalize distI es s1 s2 = S at d62 d0 hfew k
    have g3 : Gr Tb H (upd H2 s (.lst ys)) := (g1.trans g2).trans (Gr.new hs)
    have hcy3 : CatAt (upd H2 s (.lst ys)) ys es' := CatAt.gr (g2.trans (Gr.new hs)) hcy
    have hs3 : (upd H2 s (.lst ys)) s = some (.lst ys) := upd_same
    generalize upd H2 s (.lst ys) = H3 at g3 hcy3 hs3
    have hyl := Paired.len hcy3
    have hel := hp.length_eq
    have hv' := hv.perm hp
    refine ⟨_, rfl, s, rfl, ⟨_, SqL.of hs3⟩, fun D1 hD1 => lc_fm (Tb := Tb) (xs := ys) walk_list rfl (itemAt H3 0) hD1 (by omega) (fun H' g => SqL.of (g.at hs3 .lst)) (fun j v H' hv' g Rk Rs hk hks => ?_) fun H4 g4 hD4 => ?_⟩
    · obtain ⟨e, he, t, lp, rfl, ht', hlp⟩ := Paired.at hcy3 hv'
      exact gtup3 (g.at ht' .tup) ⟨rfl, _, rfl, hk _ _ (by rw [itemAt_tup ht']; rfl) (Gr.refl _)⟩
    have en : ys.filterMap (itemAt H3 0) = (es'.map (·.name)).map V.str := by
      rw [List.map_map]
      exact fm_paired (fun v e ⟨t, lp, h0, h1, _⟩ => by rw [h0, itemAt_tup h1]; rfl) hcy3
    rw [en] at hD4
    have g04 := g3.trans g4
    refine goN ?_
    dsimp only
    -- the goal
    refine ⟨_, rfl, D1, rfl, ⟨_, SqL.of hD4⟩, fun D2 hD2 => dc_fm (Tb := Tb) (xs := (es'.map (·.name)).map V.str) walk_list rfl (pairO (getD s2)) hD2 (by rw [List.length_map, List.length_map]; omega) (fun H' g => SqL.of (g.at hD4 .lst)) (fun j v H' hv' g Rk Rs hk hks => ?_) fun H5 g5 hD5 => ?_⟩
    · rw [List.getElem?_map, List.getElem?_map] at hv'
      obtain ⟨e, he⟩ : ∃ e, es'[j]? = some e := by
        cases q : es'[j]? with
        | none => rw [q] at hv'; cases hv'
        | some e => exact ⟨e, rfl⟩
      rw [he] at hv'
      cases hv'
      have h2' := (g04.trans g).at h2 .dK
      refine ⟨rfl, _, rfl, _, rfl, c2, rfl, IsD.num h2', _, rfl, _, dgetO h2' e.name, ?_⟩
      rw [getO]
      exact hk _ _ rfl (Gr.refl _)
    rw [pairO_fm, putAll_new _ _ (by show ((numOf es' (getD s2)).map (·.1)).Nodup; rw [numOf_names]; exact hv'.nodup), List.nil_append] at hD5
    have g05 := g04.trans g5
    have hD15 := g5.at hD4 .lst
    have hs5 := (g4.trans g5).at hs3 .lst
    have hcy5 := CatAt.gr (g4.trans g5) hcy3
    refine goN ?_
    dsimp only
    -- the ways
    refine fun w hw => ?_
    have gw := Gr.new (T := Tb) (o := .dT []) hw
    have hw6 : (upd H5 w (.dT [])) w = some (.dT []) := upd_same
    have nw5 : Nw H5 w := .of hw
    generalize upd H5 w (.dT []) = H6 at gw hw6
    refine ⟨_, rfl, D1, rfl, ⟨_, SqL.of (gw.at hD15 .lst)⟩, fun D3 hD3 => lc_fm (Tb := Tb) (xs := (es'.map (·.name)).map V.str) walk_list rfl (intO (getD s1)) hD3 (by rw [List.length_map, List.length_map]; omega) (fun H' g => SqL.of ((gw.trans g).at hD15 .lst)) (fun j v H' hv' g Rk Rs hk hks => ?_) fun H7 g7 hD7 => ?_⟩
    · rw [List.getElem?_map, List.getElem?_map] at hv'
      obtain ⟨e, he⟩ : ∃ e, es'[j]? = some e := by
        cases q : es'[j]? with
        | none => rw [q] at hv'; cases hv'
        | some e => exact ⟨e, rfl⟩
      rw [he] at hv'
      cases hv'
      have h1' := (g05.trans (gw.trans g)).at h1 .dK
      refine ⟨rfl, _, rfl, c, rfl, IsD.num h1', _, rfl, _, dgetO h1' e.name, ?_⟩
      rw [getO]
      exact hk _ _ rfl (Gr.refl _)
    rw [intO_fm] at hD7
    refine ⟨D3, _, rfl, .inl ⟨SqL.of hD7, fun q hq => ?_⟩⟩
    have gq := Gr.new (T := Tb) (o := .tup ((es'.map fun e => getD s1 e.name).map V.int)) hq
    have hq8 : (upd H7 q (.tup ((es'.map fun e => getD s1 e.name).map V.int))) q = some (.tup ((es'.map fun e => getD s1 e.name).map V.int)) := upd_same
    have hw7 := gq.at (g7.at hw6 .dT) .dT
    have g58 := (gw.trans g7).trans gq
    generalize upd H7 q (.tup ((es'.map fun e => getD s1 e.name).map V.int)) = H8 at hq8 hw7 g58
    clear gq hq hD7 hD3 g7 gw hw6
    refine ⟨hw7, keyK (es'.map fun e => getD s1 e.name), q, rfl, by rw [keyK_V]; exact hq8, ?_⟩
    generalize hv1 : (es'.map fun e => getD s1 e.name) = v1 at hfew k
    have v1l : v1.length = es'.length := by rw [← hv1, List.length_map]
    generalize hgoal : numOf es' (getD s2) = goal at hfew k hD5
    have hgn : goal.map (·.1) = es'.map (·.name) := by rw [← hgoal, numOf_names]
    have g9 := g58.mut (o := .dT (putK [] (keyK v1) (.int 1))) nw5 hw7 .dT
    have hw9 : (upd H8 w (.dT (putK [] (keyK v1) (.int 1)))) w = some (.dT (wT (waysW es' st goal v1 0))) := upd_same
    generalize upd H8 w (.dT (putK [] (keyK v1) (.int 1))) = H9 at g9 hw9
    clear g58 hw7 hq8
    refine goN ?_
    dsimp only
    refine sq_st (fun σ H' => ∃ (w : Addr) (s9 s10 s11 s12 s13 s14 s15 s16 s17 : Option V), σ = [some (.ref a), some (.ref b), some (.ref c), some (.ref c2), some (.int S), some (.ref s), some (.ref D1), some (.ref D2), some (.ref w), s9, s10, s11, s12, s13, s14, s15, s16, s17] ∧ Gr Tb H5 H' ∧ H' w = some (.dT (wT (waysW es' st goal v1 S.toNat)))) (fun N hN => ?_) ?_
    · refine ⟨_, rfl, _, rfl, by omega, by omega, for_range (lo := 0) (n := S.toNat) (fun i σ H' => ∃ (w : Addr) (s9 s10 s11 s12 s13 s14 s15 s16 s17 : Option V), σ = [some (.ref a), some (.ref b), some (.ref c), some (.ref c2), some (.int S), some (.ref s), some (.ref D1), some (.ref D2), some (.ref w), s9, s10, s11, s12, s13, s14, s15, s16, s17] ∧ Gr Tb H5 H' ∧ H' w = some (.dT (wT (waysW es' st goal v1 i))))
        ⟨w, _, _, _, _, _, _, _, _, _, rfl, g9, hw9⟩ ?_ (fun σ H' h => hN _ _ h)⟩
      clear hw9 g9 nw5 hw w
      rintro i σ H10 hi ⟨w, s9, s10, s11, s12, s13, s14, s15, s16, s17, rfl, g10, hw10⟩
      refine goN ?_
      dsimp only
      refine fun l hl => ?_
      refine goN ?_
      dsimp only
      have lw : l ≠ w := fun z => by rw [z, hw10] at hl; cases hl
      have few1 := hfew (i + 1) (by omega)
      have few0 := hfew i (by omega)
      have wlen := waysW_len (es := es') (st := st) (goal := goal) v1l i
      have est : waysW es' st goal v1 (i + 1) = stepAcc es' st goal [] (waysW es' st goal v1 i) := rfl
      rw [est] at few1
      generalize hW : waysW es' st goal v1 i = W at hw10 few1 few0 wlen est
      refine sq_st (fun σ H' => ∃ (s11 s12 s13 s14 s15 s16 s17 : Option V), σ = [some (.ref a), some (.ref b), some (.ref c), some (.ref c2), some (.int S), some (.ref s), some (.ref D1), some (.ref D2), some (.ref w), some (.int (0 + (i : Int))), some (.ref l), s11, s12, s13, s14, s15, s16, s17] ∧ Gr Tb H5 H' ∧ H' l = some (.dT (wT (stepAcc es' st goal [] W)))) (fun N2 hN2 => ?_) ?_
      · refine ⟨w, .dT (wT W), by rw [upd_ne lw.symm]; exact hw10, trivial, fun od => ?_⟩
        rw [upd_swp lw]
        have hwb : (upd H10 w (.frz od (.dT (wT W)))) w = some (.frz od (.dT (wT W))) := upd_same
        have hlb : (upd H10 w (.frz od (.dT (wT W)))) l = none := by rw [upd_ne lw]; exact hl
        have oth : ∀ {x : Addr} {o : HO}, H10 x = some o → (∀ m, o ≠ .dT m) → (upd H10 w (.frz od (.dT (wT W)))) x = some o := fun {x o} h no => by
          rw [upd_ne fun z => ?_]
          · exact h
          · rw [z, hw10] at h
            exact no _ (Option.some.inj h).symm
        have hsb := oth (g10.at hs5 .lst) fun m z => by cases z
        have hD1b := oth (g10.at hD15 .lst) fun m z => by cases z
        have hD2b := oth (g10.at hD5 .dK) fun m z => by cases z
        have hbb := oth (g10.at (g05.at hb .dK) .dK) fun m z => by cases z
        have hcb := cat_up (o := .frz od (.dT (wT W))) (CatAt.gr g10 hcy5) hw10
        have ul : ∀ {H'}, Gr Tb (upd H10 w (.frz od (.dT (wT W)))) H' → Gr Tb H10 (upd H' w (.dT (wT W))) := fun g' => Gr.unlock hw10 .dT g' (g'.at hwb .frz)
        generalize upd H10 w (.frz od (.dT (wT W))) = Hb at hwb hlb oth hsb hD1b hD2b hbb hcb ul
        have nlb : Nw Hb l := .of hlb
        have g0 : Gr Tb Hb (upd Hb l (.dT [])) := Gr.new hlb
        have hl0 : (upd Hb l (.dT [])) l = some (.dT []) := upd_same
        generalize upd Hb l (.dT []) = H0 at g0 hl0
        refine ⟨_, rfl, w, od, _, rfl, g0.at hwb .frz, for_it (walk_itemsT (d := w) (o := od) (kvs := wT W)) (fun j σ H' => ∃ (s11 s12 s13 s14 s15 s16 s17 : Option V), σ = [some (.ref a), some (.ref b), some (.ref c), some (.ref c2), some (.int S), some (.ref s), some (.ref D1), some (.ref D2), some (.ref w), some (.int (0 + (i : Int))), some (.ref l), s11, s12, s13, s14, s15, s16, s17] ∧ Gr Tb Hb H' ∧ H' l = some (.dT (wT (stepAcc es' st goal [] (W.take j)))))
          ⟨_, _, _, _, _, _, _, rfl, g0, hl0⟩ (fun j σ H' _ ⟨_, _, _, _, _, _, _, _, g, _⟩ => g.at hwb .frz) ?_ ?_⟩
        · rintro j x σ H11 H11' hj ⟨t11, t12, t13, t14, t15, t16, t17, rfl, g11, hl11⟩ ⟨T, kk, v, q, hkv, rfl, hT, hq, rfl⟩
          obtain ⟨q0, hq0, rfl, rfl⟩ := wT_ix hkv
          have hq0m := List.mem_of_getElem? hq0
          have q0l := wlen q0 hq0m
          have gT := Gr.new (T := Tb) (o := .tup [.ref q, .int q0.2]) hT
          have hT12 : (upd H11 T (.tup [.ref q, .int q0.2])) T = some (.tup [.ref q, .int q0.2]) := upd_same
          have hq12 := gT.at hq .tup
          have hl12 := gT.at hl11 .dT
          have g12 := g11.trans gT
          rw [keyK_V] at hq12
          generalize upd H11 T (.tup [.ref q, .int q0.2]) = H12 at hT12 hq12 hl12 g12
          refine gtup2 hT12 ?_
          have nmn : (numV (es'.map (·.name)) q0.1).map (·.1) = es'.map (·.name) := numV_names (by rw [List.length_map]; exact q0l.symm)
          have nml : (numV (es'.map (·.name)) q0.1).length = es'.length := by
            have := congrArg List.length nmn
            rwa [List.length_map, List.length_map] at this
          refine ⟨_, rfl, _, rfl, _, rfl, _, rfl, D1, q, es'.map (·.name), q0.1.map V.int, rfl, SqL.of (g12.at hD1b .lst), SqT.of hq12, by rw [List.length_map, List.length_map]; exact q0l.symm, fun z hz => ?_⟩
          rw [zipK_num, merge_new (by rw [nmn]; exact hv'.nodup)]
          have gz := Gr.new (T := Tb) (o := .dK (dS (numV (es'.map (·.name)) q0.1))) hz
          have hz13 : (upd H12 z (.dK (dS (numV (es'.map (·.name)) q0.1)))) z = some (.dK (dS (numV (es'.map (·.name)) q0.1))) := upd_same
          have bz : b ≠ z := fun e => by rw [← e, g12.at hbb .dK] at hz; cases hz
          have dz : D2 ≠ z := fun e => by rw [← e, g12.at hD2b .dK] at hz; cases hz
          have g13 := g12.trans gz
          have hl13 := gz.at hl12 .dT
          generalize upd H12 z (.dK (dS (numV (es'.map (·.name)) q0.1))) = H13 at hz13 g13 hl13
          refine ⟨_, rfl, s, b, z, D2, ys, es', st, _, goal, rfl, SqL.of (g13.at hsb .lst), CatAt.gr g13 hcb, g13.at hbb .dK, hz13, g13.at hD2b .dK, bz, dz, hv'.nodup, hv'.known, hv'.few, fun e he => by rw [nmn]; exact List.mem_map.mpr ⟨e, he, rfl⟩, fun p hp => by rw [hgn, ← nmn]; exact List.mem_map.mpr ⟨p, hp, rfl⟩, by rw [nmn]; exact hv'.nodup, by rw [nml]; exact hv'.few, fun r H14 zs g14 nr hr hzs => ?_⟩
          have zsl := Paired.len hzs
          have stl := stepAcc_le es' st goal [] W (j + 1)
          rw [stepAcc_take es' st goal [] hq0] at stl
          have hl14 := g14.at hl13 .dT
          have g1 := g13.trans g14
          generalize hacc : stepAcc es' st goal [] (W.take j) = acc at hl14 stl
          generalize hus : nextS es' st (numV (es'.map (·.name)) q0.1) goal = us at hzs zsl stl
          have rl : r ≠ l := fun e => by rw [e, hl14] at hr; cases hr
          refine ⟨r, rfl, ⟨_, SqL.of hr⟩, for_list (K := K) (a := r) (xs := zs) (fun m σ H' => ∃ (s11 s14 s15 s16 s17 : Option V), σ = [some (.ref a), some (.ref b), some (.ref c), some (.ref c2), some (.int S), some (.ref s), some (.ref D1), some (.ref D2), some (.ref w), some (.int (0 + (i : Int))), some (.ref l), s11, some (.ref q), some (.int q0.2), s14, s15, s16, s17] ∧ Gr Tb Hb H' ∧ H' l = some (.dT (wT (addAllW q0.2 acc (us.take m)))) ∧ H' r = some (.lst zs) ∧ Paired (NumAt H') zs us)
            ⟨_, _, _, _, _, rfl, g1, by rw [List.take_zero]; exact hl14, hr, hzs⟩ (fun m σ H' _ ⟨_, _, _, _, _, _, _, _, h, _⟩ => SqL.of h) ?_ ?_⟩
          · rintro m x σ H15 hx ⟨u11, u14, u15, u16, u17, rfl, g15, hl15, hr15, hzs15⟩
            obtain ⟨u, hu, y, rfl, hy⟩ := Paired.at hzs15 hx
            have ml := addAllW_le q0.2 acc us m
            refine goN ?_
            dsimp only
            refine ⟨_, rfl, y, _, rfl, hy, fun kq hkq => ?_⟩
            rw [valsN_V]
            refine goN ?_
            dsimp only
            have gk := Gr.new (T := Tb) (o := .tup ((keyK (valsN u)).map kV)) hkq
            have hk16 : (upd H15 kq (.tup ((keyK (valsN u)).map kV))) kq = some (.tup ((keyK (valsN u)).map kV)) := upd_same
            have hl16 := gk.at hl15 .dT
            have hr16 := gk.at hr15 .lst
            have hzs16 := NumAt.gr gk hzs15
            have g16 := g15.trans gk
            generalize upd H15 kq (.tup ((keyK (valsN u)).map kV)) = H16 at hk16 hl16 hr16 hzs16 g16
            refine ⟨_, rfl, l, rfl, .inr ⟨_, .inl hl16⟩, _, rfl, _, DGet.t hl16 hk16, ?_⟩
            rw [wT_val]
            refine ⟨_, rfl, _, _, rfl, rfl, _, rfl, _, rfl, l, _, rfl, DPut.t hl16 hk16 (by unfold wT; rw [List.length_map, sizeLine_eq]; omega), ?_⟩
            rw [wT_put]
            refine ⟨_, _, _, _, _, rfl, g16.mut nlb hl16 .dT, ?_, by rw [upd_ne rl]; exact hr16, ?_⟩
            · rw [upd_same, addAllW_take _ _ hu]
              rfl
            · exact Paired.imp (fun v t ⟨x, e1, e2⟩ => ⟨x, e1, by rw [upd_ne fun e => by rw [e, hl16] at e2; cases e2]; exact e2⟩) hzs16
          · rintro σ H15 ⟨u11, u14, u15, u16, u17, rfl, g15, hl15, hr15, hzs15⟩
            refine ⟨_, _, _, _, _, _, _, rfl, g15, ?_⟩
            rw [hl15, zsl, List.take_length, stepAcc_take es' st goal [] hq0, hacc, hus]
        · rintro σ H11 ⟨t11, t12, t13, t14, t15, t16, t17, rfl, g11, hl11⟩
          refine ⟨g11.at hwb .frz, ?_⟩
          have el : W.take (wT W).length = W := by
            unfold wT
            rw [List.length_map, List.take_length]
          rw [el] at hl11
          exact hN2 _ _ ⟨_, _, _, _, _, _, _, rfl, g10.trans (ul g11), by rw [upd_ne lw]; exact hl11⟩
      · rintro σ H11 ⟨t11, t12, t13, t14, t15, t16, t17, rfl, g11, hl11⟩
        refine ⟨_, rfl, ?_⟩
        exact ⟨l, _, _, _, _, _, _, _, _, _, rfl, g11, by rw [est]; exact hl11⟩
    · rintro σ H10 ⟨w, s9, s10, s11, s12, s13, s14, s15, s16, s17, rfl, g10, hw10⟩
      refine ⟨_, rfl, w, _, _, rfl, hw10, ?_, k H10 (g05.trans g10)⟩
      unfold wT
      rw [List.map_map, List.map_map]
      rfl
end
end Sk
namespace Sk
open PySem PySem.Spec PyProof.Rows L2
abbrev s_law_bag : Stmt := topS 29
abbrev N_law_bag : List Str := ["script", "cell", "fold", "great"]
theorem sc_law_bag : FnScope N_law_bag ["script"] (defScope s_law_bag) := ⟨rfl, rfl, rfl, by decide +kernel, rfl, by decide +kernel, by decide +kernel⟩
def sp_law_bag (Tb : List (Addr × Str)) (K : PySem.W.Frag) : Sp := fun vs H Q _ => ∃ (a : Addr) (ns : List Int) (G : Hp), vs = [.ref a] ∧ SqL K H a (ns.map V.int) ∧ ns.length ≤ 63 ∧ Fz G H ∧ LamX.Tabs Tb H ∧ ∀ p H', Hb Tb p 0 [] G H' → Gr Tb H H' → Q (.ref p) H'
section
variable {P : Program} {w : World} {K : PySem.W.Frag} {mg : Str → Option Value} {base : Heap} {Tb : List (Addr × Str)}
theorem ok_law_bag {f : Addr} {fd : FuncData} (F : FnP K "_law_bag" s_law_bag f fd) (T : Tx K mg) : FnOk P w K mg base CX0 1 f fd ["script"] (sp_law_bag Tb K) := by
  refine F.ok sc_law_bag (fun vs H Q E h => ?_) (fun cdv A outer s H vs Q E hr h => ?_)
  · obtain ⟨_, _, _, rfl, _⟩ := h
    rfl
  · obtain ⟨a, ns, G, rfl, ha, hz, hf, ht, k⟩ := h
    refine ⟨_, PSs.nox (pss_cons (ps_par (i := 2) (j := 3) (by rfl) sc_law_bag.nd rfl rfl (by decide) rfl rfl (pa_cons pe_int (pa_cons (pe_lst pa_nil) pa_nil)) (by rfl))
      (pss_cons (ps_for PassesOwn.never rfl (piL (K := K) rfl (pv 0)) (pg_name (i := 1) sc_law_bag.nd rfl (Or.inl rfl)) (pss_cons (ps_set (i := 2) sc_law_bag.nd rfl (Or.inl rfl) (pe_op op_mod (pe_op op_add (pe_op op_mulW (pv 2) pe_int) (pv 1)) pe_int))
        (pss_one (ps_if (pt_cmpR op_ge (pe_callB call_abs (by rfl) T.n_abs (by decide +kernel) (pa_cons (pv 1) pa_nil)) (pe_op op_pow pe_int pe_int) (nomark _)) (pss_one (ps_expr (peBm (K := K) rfl PySem.F.plainAttrs_list PySem.F.slot_list_append PySem.F.type_list_append mt_append (pv 3) (pa_cons (pe_callB call_abs (by rfl) T.n_abs (by decide +kernel) (pa_cons (pv 1) pa_nil)) pa_nil)))) pss_nil))))
      (pss_one (ps_ret (pe_disp (pps_cons pe_str (pv 3) (pps_cons pe_str pe_int (pps_cons pe_str pe_int (pps_cons pe_str (pv 2) pps_nil)))) (by rfl) (by rfl) (fun z => by cases z) (by decide)))))), ?_⟩
    refine ⟨Nat.zero_le _, fun gr hgr => ⟨_, _, rfl, ?_⟩⟩
    have g0 : Gr Tb H (upd H gr (.lst [])) := Gr.new hgr
    refine ⟨_, rfl, a, rfl, ⟨_, g0.ext_seq ha⟩, for_list (K := K) (a := a) (xs := ns.map V.int) (fun i σ H' => ∃ (fd : Int) (gs : List Int) (s1 : Option V), σ = [some (.ref a), s1, some (.int fd), some (.ref gr)] ∧ 0 ≤ fd ∧ fd < 2305843009213693951 ∧ (∀ x ∈ gs, 0 ≤ x) ∧ gs.length ≤ i ∧ Gr Tb H H' ∧ H' gr = some (.lst (gs.map V.int)))
      ⟨11, [], _, rfl, by decide, by decide, (fun x hx => by cases hx), Nat.le_refl _, g0, upd_same⟩ (fun i σ H' _ ⟨_, _, _, _, _, _, _, _, g, _⟩ => g.ext_seq ha) ?_ ?_⟩
    · rintro i x σ H2 hx ⟨fd, gs, s1, rfl, f0, f1, gp, gl, g2, hg⟩
      have hi : i < ns.length := by
        have := (List.getElem?_eq_some_iff.mp hx).1
        rwa [List.length_map] at this
      rw [List.getElem?_map, List.getElem?_eq_getElem hi] at hx
      cases hx
      generalize ns[i] = cell
      refine ⟨_, rfl, _, _, rfl, rfl, wide_mul (a := 61) (b := 20) (by omega) (by decide) (by decide) (by decide) (by decide), _, rfl, _, _, rfl, rfl, _, _, rfl, rfl, (by show (0 : Int) < _; decide), ?_⟩
      have z0 := Int.emod_nonneg (fd * 1000003 + cell) (show (2305843009213693951 : Int) ≠ 0 by decide)
      have z1 := Int.emod_lt_of_pos (fd * 1000003 + cell) (show (0 : Int) < 2305843009213693951 by decide)
      refine ⟨_, rfl, _, rfl, _, _, rfl, rfl, ⟨by decide, by decide, by decide⟩, _, _, rfl, rfl, _, rfl, ?_⟩
      refine ite2 (fun c1 => ?_) (fun c1 => ?_)
      · refine ⟨_, rfl, .inl ⟨rfl, _, SqL.of hg⟩, _, rfl, _, rfl, gr, _, _, rfl, rfl, hg, by rw [sizeLine_eq, List.length_map]; omega, ?_⟩
        refine ⟨_, gs ++ [if cell < 0 then -cell else cell], _, rfl, z0, z1, fun x hx => ?_, by rw [List.length_append]; show _ + 1 ≤ _; omega, Gr.put hgr g2 hg, by rw [upd_same, List.map_append]; rfl⟩
        rcases List.mem_append.mp hx with h | h
        · exact gp x h
        · rw [List.mem_singleton.mp h]
          split <;> omega
      · exact ⟨_, gs, _, rfl, z0, z1, gp, by omega, g2, hg⟩
    · rintro σ H2 ⟨fd, gs, s1, rfl, f0, f1, gp, gl, g2, hg⟩
      rw [List.length_map] at gl
      refine fun p hp => ?_
      refine ⟨_, rfl, _, rfl, upd_same, bagK gr 0 0 fd, rfl, by show 4 ≤ 15; decide, ?_⟩
      rw [upd_upd, show mergeK [] (bagK gr 0 0 fd) = bagK gr 0 0 fd from rfl]
      have hf2 := hf.gr g2
      have ne : gr ≠ p := fun z => by
        rw [z, hp] at hg
        cases hg
      refine k p _ ⟨⟨gr, gs, 0, 0, fd, ⟨upd_same, by rw [upd_ne ne]; exact hg, gp, by omega, by decide, by decide, by decide, f0, f1⟩, ne, hf.free hgr, fun x hx => by cases hx⟩, hf2.put (hf2.free hp), hf2.free hp, (fun x hx => by cases hx), List.nodup_nil, (g2.tab ht).ext (Same.upd hp)⟩ (g2.trans (Gr.new hp))
end
end Sk
namespace Sk
open PySem PySem.Spec PyProof.Rows L2
abbrev s_law_draw : Stmt := topS 30
abbrev N_law_draw : List Str := ["bag", "many", "turn", "mixed", "drawn"]
theorem sc_law_draw : FnScope N_law_draw ["bag", "many"] (defScope s_law_draw) := ⟨rfl, rfl, rfl, by decide +kernel, rfl, by decide +kernel, by decide +kernel⟩
def sp_law_draw (Tb : List (Addr × Str)) (K : PySem.W.Frag) : Sp := fun vs H Q _ => ∃ (p : Addr) (n : Nat) (L : List (Addr × HO)) (G : Hp) (many : Int), vs = [.ref p, .int many] ∧ Hb Tb p n L G H ∧ n < 1000000000 ∧ 1 ≤ many ∧ many < 2 ^ 400 ∧ ∀ r H', 0 ≤ r → r < many → Hb Tb p (n + 1) L G H' → Q (.int r) H'
section
variable {P : Program} {w : World} {K : PySem.W.Frag} {mg : Str → Option Value} {base : Heap} {Tb : List (Addr × Str)}
theorem ok_law_draw {f : Addr} {fd : FuncData} (F : FnP K "_law_draw" s_law_draw f fd) (T : Tx K mg) : FnOk P w K mg base CX0 1 f fd ["bag", "many"] (sp_law_draw Tb K) := by
  refine F.ok sc_law_draw (fun vs H Q E h => ?_) (fun cdv A outer s H vs Q E hr h => ?_)
  · obtain ⟨_, _, _, _, _, rfl, _⟩ := h
    rfl
  · obtain ⟨p, n, L, G, many, rfl, hs, hn, hm1, hm2, k⟩ := h
    refine ⟨_, PSs.nox (pss_cons (ps_if (PW.pt (pw_and (pt_cmpR op_lt (pe_dget (hu_of hr) (pv 0) pe_str (fun _ _ => rfl)) (pv 1) (nomark _)) (pw_and1 (pt_cmpR op_gt (pe_callB (lenS (K := K) rfl) (by rfl) T.n_len (by decide +kernel) (pa_cons (pe_dget (hu_of hr) (pv 0) pe_str (fun _ _ => rfl)) pa_nil)) pe_int (nomark _))))) (pss_one (ps_dput (hu_of hr) (pv 0) pe_str (peBm (K := K) rfl PySem.F.plainAttrs_list PySem.F.slot_list_pop PySem.F.type_list_pop mt_popAt (pe_dget (hu_of hr) (pv 0) pe_str (fun _ _ => rfl)) (pa_cons pe_int pa_nil)) rfl)) pss_nil)
      (pss_cons (ps_if (pt_cmpR op_ge (pe_dget (hu_of hr) (pv 0) pe_str (fun _ _ => rfl)) (pv 1) (nomark _)) (pss_cons (ps_set (i := 4) sc_law_draw.nd rfl (Or.inl rfl) (pe_op op_mod (pe_dget (hu_of hr) (pv 0) pe_str (fun _ _ => rfl)) (pv 1)))
        (pss_cons (ps_dput (hu_of hr) (pv 0) pe_str (pe_op op_fdivW (pe_dget (hu_of hr) (pv 0) pe_str (fun _ _ => rfl)) (pv 1)) rfl)
        (pss_one (ps_ret (pv 4))))) pss_nil)
      (pss_cons (ps_daug (hu_of hr) (pv 0) pe_str pe_int in_add (fun _ _ _ => rfl))
      (pss_cons (ps_set (i := 2) sc_law_draw.nd rfl (Or.inl rfl) (pe_dget (hu_of hr) (pv 0) pe_str (fun _ _ => rfl)))
      (pss_cons (ps_set (i := 3) sc_law_draw.nd rfl (Or.inl rfl) (pe_op op_add (pe_op op_mulW (pe_op op_add (pe_dget (hu_of hr) (pv 0) pe_str (fun _ _ => rfl)) (pe_op op_mulW pe_int (pv 2))) (pe_op op_powW (pe_op op_add (pv 2) pe_int) pe_int)) (pe_op op_mulW pe_int (pv 2))))
      (pss_one (ps_ret (pe_op op_mod (pe_op op_fdivW (pe_op op_mod (pe_op op_powW (pe_op op_mod (pv 3) pe_int) pe_int) (pe_op op_add (pe_op op_powW pe_int pe_int) pe_int)) pe_int) (pv 1))))))))), ?_⟩
    refine sq_st (fun σ H' => σ = [some (.ref p), some (.int many), none, none, none] ∧ Hb Tb p n L G H') ?_ ?_
    · intro N hN
      obtain ⟨⟨g, gs, l, t, f, b, g1, g2, g3⟩, _, _, _, _, tab⟩ := id hs
      refine ⟨_, rfl, p, _, rfl, b.left, _, rfl, _, _, rfl, rfl, _, rfl, ?_⟩
      refine ite2 (fun c1 => ?_) (fun c1 => hN _ _ ⟨rfl, hs⟩)
      refine ⟨_, rfl, p, _, rfl, b.great, g, _, rfl, .inl (SqL.of b.gr), _, _, rfl, rfl, _, rfl, ?_⟩
      refine ite2 (fun c2 => ?_) (fun c2 => hN _ _ ⟨rfl, hs⟩)
      cases gs with
      | nil => exact absurd (of_decide_eq_true c2) (by simp)
      | cons x gs =>
        have e1 : ((x :: gs).map V.int).eraseIdx (Int.toNat 0) = gs.map V.int := rfl
        refine ⟨_, rfl, p, _, rfl, b.great, .inl ⟨rfl, _, SqL.of b.gr⟩, g, _, 0, (0 : Int).toNat, _, rfl, rfl, b.gr, by decide, by decide, seq_ix (by decide) (by simp), rfl, ?_⟩
        rw [e1]
        have w0 : (upd H g (.lst (gs.map V.int))) p = some (.dK (bagK g l t f)) := by rw [upd_ne (Ne.symm g1)]; exact b.at_
        refine ⟨_, rfl, p, _, rfl, bag_dputL w0, hN _ _ ⟨rfl, hs.bag (l' := x) (t' := t) (f' := f) b g1 ‹_› g3 upd_same (by rw [upd_ne g1, upd_same]) (fun a h1 h2 => by rw [upd_ne h1, upd_ne h2]) (Tabs.upd (Tabs.upd tab b.gr .lst) w0 .dK) ⟨fun y hy => b.pos y (List.mem_cons_of_mem _ hy), ?_, b.pos x (List.mem_cons_self ..), b.t0, b.tn, b.f0, b.f1⟩⟩⟩
        have := b.few
        rw [List.length_cons] at this
        omega
    rintro σ H1 ⟨rfl, h1⟩
    obtain ⟨⟨g, gs, l, t, f, b, g1, g2, g3⟩, _, _, _, _, tab⟩ := id h1
    have l0 := b.l0
    have t0 := b.t0
    have tn := b.tn
    have f0 := b.f0
    have f1 := b.f1
    refine ⟨_, rfl, p, _, rfl, b.left, _, rfl, _, _, rfl, rfl, _, rfl, ?_⟩
    refine ite2 (fun c1 => ?_) (fun c1 => ?_)
    · refine ⟨_, rfl, p, _, rfl, b.left, _, rfl, _, _, rfl, rfl, by omega, ?_⟩
      refine ⟨_, rfl, p, _, rfl, b.left, _, rfl, _, _, rfl, rfl, wide_div (b := 400) (by omega) (by omega) (by decide) (by decide), _, rfl, p, _, rfl, bag_dputL b.at_, _, rfl, ?_⟩
      exact k _ _ (Int.emod_nonneg _ (by omega)) (Int.emod_lt_of_pos _ (by omega)) (h1.bag b g1 g2 g3 upd_same (by rw [upd_ne g1]; exact b.gr) (fun a h1 _ => by rw [upd_ne h1]) (Tabs.upd tab b.at_ .dK) ⟨b.pos, b.few, Int.ediv_nonneg l0 (by omega), t0, by omega, f0, f1⟩)
    · refine ⟨_, rfl, p, _, rfl, b.turn, _, _, rfl, rfl, _, bag_dputT b.at_, ?_⟩
      have h2 : Hb Tb p (n + 1) L G (upd H1 p (.dK (bagK g l (t + 1) f))) := h1.bag b g1 g2 g3 upd_same (by rw [upd_ne g1]; exact b.gr) (fun a h1 _ => by rw [upd_ne h1]) (Tabs.upd tab b.at_ .dK) ⟨b.pos, b.few, l0, by omega, by omega, f0, f1⟩
      have b2 : BgAt p g (n + 1) gs l (t + 1) f (upd H1 p (.dK (bagK g l (t + 1) f))) := ⟨upd_same, by rw [upd_ne g1]; exact b.gr, b.pos, b.few, l0, by omega, by omega, f0, f1⟩
      generalize upd H1 p (.dK (bagK g l (t + 1) f)) = H2 at h2 b2
      have hx : (t + 1 + 29).natAbs < 2 ^ 41 := by omega
      have hp2 : ((t + 1 + 29) ^ Int.toNat 2).natAbs < 2 ^ 82 := by
        rw [Int.natAbs_pow]
        exact Nat.lt_of_lt_of_le (Nat.pow_lt_pow_left hx (by decide)) (by decide)
      refine ⟨_, rfl, p, _, rfl, b2.turn, ?_⟩
      refine ⟨_, rfl, p, _, rfl, b2.fold, _, rfl, _, _, rfl, rfl, wide_mul (a := 10) (b := 41) (by decide) (by omega) (by decide) (by decide) (by decide), _, _, rfl, rfl, _, rfl, _, _, rfl, rfl, _, _, rfl, rfl, wide_pow hx (by decide) (by decide) (by decide), _, _, rfl, rfl, wide_mul (a := 62) (b := 82) (by omega) hp2 (by decide) (by decide) (by decide), _, rfl, _, _, rfl, rfl, wide_mul (a := 14) (b := 41) (by decide) (by omega) (by decide) (by decide) (by decide), _, _, rfl, rfl, ?_⟩
      generalize (f + 17 * (t + 1)) * (t + 1 + 29) ^ Int.toNat 2 + 7919 * (t + 1) = mx
      refine goN ?_
      dsimp only
      have y0 := Int.emod_nonneg mx (show (2305843009213693951 : Int) ≠ 0 by decide)
      have y1 := Int.emod_lt_of_pos mx (show (0 : Int) < 2305843009213693951 by decide)
      refine ⟨_, rfl, _, _, rfl, rfl, (by show (0 : Int) < _; decide), _, _, rfl, rfl, wide_pow (b := 61) (by omega) (by decide) (by decide) (by decide), _, _, rfl, rfl, wide_pow (b := 4) (by decide) (by decide) (by decide) (by decide), _, _, rfl, rfl, _, _, rfl, rfl, (by show (0 : Int) < (10 : Int) ^ Int.toNat 18 + 9; decide), _, _, rfl, rfl, wide_div (b := 400) (by decide) (by decide) (by decide) (by decide), _, rfl, _, _, rfl, rfl, by omega, ?_⟩
      exact k _ _ (Int.emod_nonneg _ (by omega)) (Int.emod_lt_of_pos _ (by omega)) h2
end
end Sk
namespace Sk
open PySem PySem.Spec PyProof.Rows L2
theorem nameB_strOk {x : Str} (h : nameB x = true) : PyData.strOk x = true := by
  unfold nameB at h
  simp only [Bool.and_eq_true, decide_eq_true_eq, List.all_eq_true] at h
  unfold PyData.strOk
  rw [← Array.all_toList, List.all_eq_true]
  intro c hc
  have h2 : ∀ c ∈ letters.cps.toList, decide (c < 0x110000) = true := by decide +kernel
  exact h2 c (h.2.2 c hc)
theorem shaped_names {ns : List Str} (h : ∀ x ∈ ns, nameB x = true) : SeqAt.shaped (.list (ns.map PyData.str)) = true := by
  have key : ∀ l : List Str, (∀ x ∈ l, nameB x = true) → PyData.canLayAll0 (l.map PyData.str) = true := by
    intro l
    induction l with
    | nil => intro _; simp only [List.map_nil, PyData.canLayAll0]
    | cons q l ih =>
      intro hl
      rw [List.map_cons, PyData.canLayAll0, ih fun z hz => hl z (List.mem_cons_of_mem _ hz)]
      simp only [PyData.canLay0, nameB_strOk (hl q (List.mem_cons_self ..)), Bool.and_self]
  unfold SeqAt.shaped
  rw [Bool.and_eq_true]
  refine ⟨?_, decide_eq_true (Nat.le_trans (depth_strs ns) (by decide))⟩
  rw [PyData.canLay0]
  exact key ns h
theorem keys_list (d : Num) : ((dS d).map fun kv => kV kv.1) = (d.map (·.1)).map V.str := by
  unfold dS
  rw [List.map_map, List.map_map]
  rfl
end Sk
namespace Sk
open PySem PySem.Spec PyProof.Rows L2
theorem EntAt.uniq {G : Hp} {v : V} {e e' : Ent} (h : EntAt G v e) (h' : EntAt G v e') : e' = e := by
  obtain ⟨t, l, rfl, h1, h2⟩ := h
  obtain ⟨t', l', q, h3, h4⟩ := h'
  cases q
  rw [h1] at h3
  obtain ⟨a1, a2⟩ := List.cons.inj (HO.tup.inj (Option.some.inj h3))
  obtain ⟨b1, b2⟩ := List.cons.inj a2
  obtain ⟨c1, _⟩ := List.cons.inj b2
  obtain rfl := V.ref.inj c1
  rw [h2] at h4
  have e3 : e.parts = e'.parts := (List.map_inj_right (fun x y z => V.str.inj z)).mp (HO.lst.inj (Option.some.inj h4))
  have e1 : e.name = e'.name := V.str.inj a1
  have e2 : e.w = e'.w := V.int.inj b1
  cases e
  cases e'
  dsimp only at e1 e2 e3
  rw [e1, e2, e3]
theorem CatAt.uniq {G : Hp} : ∀ {vs : List V} {es es' : List Ent}, CatAt G vs es → CatAt G vs es' → es' = es
  | _, _, _, .nil, .nil => rfl
  | _, _, _, .cons h t, .cons h' t' => by rw [h.uniq h', CatAt.uniq t t']
/-- the same values, as they stood -/
theorem CatAt.back {Tb : List (Addr × Str)} {H H1 : Hp} {xs ys : List V} {es es' : List Ent} (hc : CatAt H xs es) (g : Gr Tb H H1) (hp : ys.Perm xs) (hc2 : CatAt H1 ys es') : CatAt H ys es' := by
  obtain ⟨es2, _, c2⟩ := Paired.perm hp hc
  rw [CatAt.uniq (CatAt.gr g c2) hc2]
  exact c2
/-- the same values, as they stood -/
theorem CatAt.backM {G H1 : Hp} {xs : List V} {es : List Ent} (hc : CatAt G xs es) (s : Same G H1) : ∀ {ys : List V} {es' : List Ent}, (∀ y ∈ ys, y ∈ xs) → CatAt H1 ys es' → CatAt G ys es'
  | _, _, _, .nil => .nil
  | _, _, h, .cons a t => by
    obtain ⟨e, _, h1⟩ := Paired.left hc (h _ (List.mem_cons_self ..))
    have h2 := (h1.mono s).uniq a
    rw [h2]
    exact .cons h1 (CatAt.backM hc s (fun y hy => h y (List.mem_cons_of_mem _ hy)) t)
/-- y is a row of the entry's name and what val says -/
def ERow (H0 : Hp) (val : Ent → Int) (H : Hp) (v y : V) : Prop := ∀ e, EntAt H0 v e → ∃ t, y = .ref t ∧ H t = some (.tup [.str e.name, .int (val e)])
theorem ERow.of {H0 H : Hp} {val : Ent → Int} {v : V} {e : Ent} {t : Addr} (h : EntAt H0 v e) (ht : H t = some (.tup [.str e.name, .int (val e)])) : ERow H0 val H v (.ref t) := fun e2 h2 => by
  rw [h.uniq h2]
  exact ⟨t, rfl, ht⟩
theorem erow_mono {H0 : Hp} {val : Ent → Int} {D : Addr} : ∀ H H' x y, (∀ a o, NoTab o → (∀ l, o ≠ .lst l) ∨ a ≠ D → H a = some o → H' a = some o) → ERow H0 val H x y → ERow H0 val H' x y := fun H H' x y m r e he => by
  obtain ⟨t, h1, h2⟩ := r e he
  exact ⟨t, h1, m _ _ .tup (.inl fun l z => by cases z) h2⟩
theorem erow_dict {K : PySem.W.Frag} {H0 H : Hp} {val : Ent → Int} {keep : V → Bool} {kp : Ent → Bool} (hk : ∀ v e, EntAt H0 v e → keep v = kp e) : ∀ {xs : List V} {es : List Ent} {ys : List V}, CatAt H0 xs es → Paired (ERow H0 val H) (xs.filter keep) ys →
    ∃ ps : List Addr, ys = ps.map V.ref ∧ Paired (fun p kv => SqT K H p [kV kv.1, kv.2]) ps (dS ((es.filter kp).map fun e => (e.name, val e)))
  | [], _, _, .nil, .nil => ⟨[], rfl, .nil⟩
  | x :: xs, e :: es, ys, .cons h t, p => by
    rw [List.filter_cons] at p ⊢
    rw [hk x e h] at p
    by_cases c : kp e = true
    · rw [if_pos c] at p ⊢
      cases p with
      | cons a p =>
        obtain ⟨ta, rfl, h1⟩ := a e h
        obtain ⟨ps, e2, h2⟩ := erow_dict hk t p
        exact ⟨ta :: ps, by rw [e2]; rfl, .cons (SqT.of h1) h2⟩
    · rw [if_neg c] at p ⊢
      exact erow_dict hk t p
/-- a number that the entry tells -/
def EVal (H0 : Hp) (val : Ent → Int) (v y : V) : Prop := ∀ e, EntAt H0 v e → y = .int (val e)
theorem eval_list {H0 : Hp} {val : Ent → Int} {keep : V → Bool} {kp : Ent → Bool} (hk : ∀ v e, EntAt H0 v e → keep v = kp e) : ∀ {xs : List V} {es : List Ent} {ys : List V}, CatAt H0 xs es → Paired (EVal H0 val) (xs.filter keep) ys → ys = ((es.filter kp).map val).map V.int
  | [], _, _, .nil, .nil => rfl
  | x :: xs, e :: es, ys, .cons h t, p => by
    rw [List.filter_cons] at p ⊢
    rw [hk x e h] at p
    by_cases c : kp e = true
    · rw [if_pos c] at p ⊢
      cases p with
      | cons a p =>
        rw [a e h, eval_list hk t p]
        rfl
    · rw [if_neg c] at p ⊢
      exact eval_list hk t p
/-- has parts, has number -/
def hasParts (H : Hp) (v : V) : Bool := match itemAt H 2 v with
  | some (.ref l) => match H l with
    | some (.lst []) => false
    | _ => true
  | _ => true
theorem hasParts_at {H : Hp} {v : V} {e : Ent} (h : EntAt H v e) : hasParts H v = decide (e.parts ≠ []) := by
  obtain ⟨t, l, rfl, ht, hl⟩ := h
  unfold hasParts
  rw [itemAt_tup ht]
  show (match H l with
    | some (.lst []) => false
    | _ => true) = _
  rw [hl]
  cases e.parts with
  | nil => rfl
  | cons _ _ => rfl
def hasNum (H : Hp) (d : Num) (v : V) : Bool := match itemAt H 0 v with
  | some (.str n) => decide (0 < getD d n)
  | _ => false
theorem hasNum_at {H : Hp} {d : Num} {v : V} {e : Ent} (h : EntAt H v e) : hasNum H d v = decide (0 < getD d e.name) := by
  obtain ⟨t, l, rfl, ht, hl⟩ := h
  unfold hasNum
  rw [itemAt_tup ht]
  rfl
theorem get?_of_pos {d : Num} {x : Str} (h : getD d x ≠ 0) : get? d x = some (getD d x) := by
  unfold getD at h ⊢
  cases q : get? d x with
  | none => rw [q] at h; exact absurd rfl h
  | some i => rfl
end Sk
namespace Sk
open PySem PySem.Spec PyProof.Rows L2
/-- all splits, from the largest kind on -/
def fs : List Ent → (Str → Int) → Num
  | [], _ => []
  | e :: es, f => (if e.parts = [] then [] else [(e.name, f e.name)]) ++ fs es (addAll f (e.parts.map fun p => (p, f e.name)))
/-- the parts stand behind -/
def Behind : List Ent → Prop
  | [] => True
  | e :: es => (∀ p ∈ e.parts, p ∈ es.map (·.name) ∧ p ≠ e.name) ∧ Behind es
def sp_full_splits (Tb : List (Addr × Str)) (K : PySem.W.Frag) : Sp := fun vs H Q _ => ∃ (a b : Addr) (xs : List V) (es : List Ent) (st : Num), vs = [.ref a, .ref b] ∧ SqL K H a xs ∧ CatAt H xs es ∧ H b = some (.dK (dS st)) ∧ (es.map (·.name)).Nodup ∧ Behind es ∧ es.length ≤ 100000 ∧
  ∀ r H', Gr Tb H H' → Nw H r → H' r = some (.dK (dS (fs es (getD st)))) → Q (.ref r) H'
/-- the numbers behind the entries -/
def fsS : List Ent → (Str → Int) → Str → Int
  | [], f => f
  | e :: es, f => fsS es (addAll f (e.parts.map fun p => (p, f e.name)))
theorem fs_snoc (e : Ent) : ∀ (l : List Ent) (f : Str → Int), fs (l ++ [e]) f = fs l f ++ (if e.parts = [] then [] else [(e.name, fsS l f e.name)])
  | [], f => by
    show (if e.parts = [] then [] else [(e.name, f e.name)]) ++ [] = [] ++ _
    rw [List.append_nil, List.nil_append]
    rfl
  | x :: l, f => by
    show (if x.parts = [] then [] else [(x.name, f x.name)]) ++ fs (l ++ [e]) (addAll f (x.parts.map fun p => (p, f x.name))) = ((if x.parts = [] then [] else [(x.name, f x.name)]) ++ fs l (addAll f (x.parts.map fun p => (p, f x.name)))) ++ _
    rw [fs_snoc e l, List.append_assoc]
    rfl
theorem fsS_snoc (e : Ent) : ∀ (l : List Ent) (f : Str → Int), fsS (l ++ [e]) f = addAll (fsS l f) (e.parts.map fun p => (p, fsS l f e.name))
  | [], f => rfl
  | x :: l, f => fsS_snoc e l _
theorem fs_names : ∀ (l : List Ent) (f : Str → Int), ∀ x ∈ (fs l f).map (·.1), x ∈ l.map (·.name)
  | [], _, x, h => by cases h
  | e :: l, f, x, h => by
    rw [fs, List.map_append] at h
    rw [List.map_cons]
    rcases List.mem_append.mp h with z | z
    · by_cases c : e.parts = []
      · rw [if_pos c] at z
        cases z
      · rw [if_neg c] at z
        rw [List.mem_singleton.mp z]
        exact List.mem_cons_self ..
    · exact List.mem_cons_of_mem _ (fs_names l _ x z)
theorem fs_len : ∀ (l : List Ent) (f : Str → Int), (fs l f).length ≤ l.length
  | [], _ => Nat.le_refl _
  | e :: l, f => by
    have := fs_len l (addAll f (e.parts.map fun p => (p, f e.name)))
    rw [fs, List.length_append, List.length_cons]
    split
    · rw [List.length_nil]
      omega
    · rw [List.length_singleton]
      omega
theorem Behind.at : ∀ {es : List Ent} {e : Ent}, Behind es → e ∈ es → ∀ p ∈ e.parts, p ∈ es.map (·.name) ∧ p ≠ e.name
  | [], _, _, h => by cases h
  | x :: es, e, b, h => fun p hp => by
    rw [List.map_cons]
    rcases List.mem_cons.mp h with rfl | h
    · exact ⟨List.mem_cons_of_mem _ (b.1 p hp).1, (b.1 p hp).2⟩
    · obtain ⟨h1, h2⟩ := Behind.at b.2 h p hp
      exact ⟨List.mem_cons_of_mem _ h1, h2⟩
theorem amt_zero {l : Num} {x : Str} (h : ∀ q ∈ l, q.1 ≠ x) : amt l x = 0 := by
  induction l with
  | nil => rfl
  | cons q l ih =>
    rw [amt_cons, if_neg (h q (List.mem_cons_self ..)), ih fun z hz => h z (List.mem_cons_of_mem _ hz)]
    rfl
theorem put_snoc {d : Num} {x : Str} {i : Int} (h : x ∉ d.map (·.1)) : put d x i = d ++ [(x, i)] := put_new' h
end Sk
namespace Sk
open PySem PySem.Spec PyProof.Rows L2
/-- from the first on, as many as are left -/
def greedy : Num → Int → Num
  | [], _ => []
  | q :: l, n => (q.1, if q.2 < n then q.2 else n) :: greedy l (n - if q.2 < n then q.2 else n)
def sp_first_splits (Tb : List (Addr × Str)) (K : PySem.W.Frag) : Sp := fun vs H Q _ => ∃ (a b : Addr) (xs : List V) (es : List Ent) (st : Num) (n : Int), vs = [.ref a, .ref b, .int n] ∧ SqL K H a xs ∧ CatAt H xs es ∧ H b = some (.dK (dS st)) ∧ (es.map (·.name)).Nodup ∧ Behind es ∧ es.length ≤ 100000 ∧
  ∀ r H', Gr Tb H H' → Nw H r → H' r = some (.dK (dS (greedy (fs es (getD st)) n))) → Q (.ref r) H'
/-- how many are left behind -/
def leftN : Num → Int → Int
  | [], n => n
  | q :: l, n => leftN l (n - if q.2 < n then q.2 else n)
theorem leftN_snoc (q : Str × Int) : ∀ (l : Num) (n : Int), leftN (l ++ [q]) n = leftN l n - if q.2 < leftN l n then q.2 else leftN l n
  | [], _ => rfl
  | _ :: l, n => leftN_snoc q l _
theorem greedy_snoc (q : Str × Int) : ∀ (l : Num) (n : Int), greedy (l ++ [q]) n = greedy l n ++ [(q.1, if q.2 < leftN l n then q.2 else leftN l n)]
  | [], _ => rfl
  | x :: l, n => by
    show _ :: greedy (l ++ [q]) _ = _ :: (greedy l _ ++ _)
    rw [greedy_snoc q l]
    rfl
theorem greedy_names : ∀ (l : Num) (n : Int), (greedy l n).map (·.1) = l.map (·.1)
  | [], _ => rfl
  | q :: l, n => by
    show q.1 :: (greedy l _).map (·.1) = q.1 :: l.map (·.1)
    rw [greedy_names l]
theorem greedy_len (l : Num) (n : Int) : (greedy l n).length = l.length := by
  have := congrArg List.length (greedy_names l n)
  rwa [List.length_map, List.length_map] at this
theorem fs_nodup : ∀ {l : List Ent} (f : Str → Int), (l.map (·.name)).Nodup → ((fs l f).map (·.1)).Nodup
  | [], _, _ => List.nodup_nil
  | e :: l, f, h => by
    rw [List.map_cons, List.nodup_cons] at h
    rw [fs, List.map_append]
    refine List.nodup_append.mpr ⟨by split <;> simp, fs_nodup _ h.2, fun x hx y hy => ?_⟩
    intro z
    have h2 := fs_names l _ y hy
    split at hx
    · cases hx
    · rw [List.map_cons, List.map_nil] at hx
      have h3 : x = e.name := List.mem_singleton.mp hx
      exact h.1 (by rw [← h3, z]; exact h2)
theorem take_notin1 {d : Num} (nd : (d.map (·.1)).Nodup) {i : Nat} {q : Str × Int} (h : d[i]? = some q) : q.1 ∉ (d.take i).map (·.1) := fun hm => by
  obtain ⟨j, hj⟩ := List.mem_iff_getElem?.mp hm
  have hlt : j < ((d.take i).map (·.1)).length := (List.getElem?_eq_some_iff.mp hj).1
  rw [List.length_map, List.length_take] at hlt
  rw [List.getElem?_map, List.getElem?_take_of_lt (by omega)] at hj
  have := nodup_ix nd (x := q.1) (by rw [List.getElem?_map]; exact hj) (by rw [List.getElem?_map, h]; rfl)
  omega
end Sk
namespace Sk
open PySem PySem.Spec PyProof.Rows L2
theorem fs_nonneg : ∀ {es : List Ent} {f : Str → Int}, Behind es → (es.map (·.name)).Nodup → (∀ x, 0 ≤ f x) → ∀ q ∈ fs es f, 0 ≤ q.2
  | [], _, _, _, _, _, hq => by cases hq
  | e :: es, f, b, nd, h, q, hq => by
    rw [List.map_cons, List.nodup_cons] at nd
    rw [fs] at hq
    rcases List.mem_append.mp hq with z | z
    · split at z
      · cases z
      · rw [List.mem_singleton.mp z]
        exact h _
    · refine fs_nonneg b.2 nd.2 (fun x => ?_) q z
      rw [addAll_at]
      have h1 : 0 ≤ amt (e.parts.map fun p => (p, f e.name)) x := by
        generalize e.parts = l
        induction l with
        | nil => exact Int.le_refl _
        | cons p l ih =>
          rw [List.map_cons, amt_cons]
          have := h e.name
          split <;> omega
      have := h x
      omega
theorem greedy_sum : ∀ {l : Num} {n : Int}, (∀ q ∈ l, 0 ≤ q.2) → 0 ≤ n → n ≤ (l.map (·.2)).sum → ((greedy l n).map (·.2)).sum = n
  | [], n, _, h0, h1 => by
    rw [List.map_nil, List.sum_nil] at h1
    show (0 : Int) = n
    omega
  | q :: l, n, h, h0, h1 => by
    have hq := h q (List.mem_cons_self ..)
    have hl := fun x hx => h x (List.mem_cons_of_mem _ hx)
    rw [List.map_cons, List.sum_cons] at h1
    show ((q.1, _) :: greedy l _ |>.map (·.2)).sum = n
    rw [List.map_cons, List.sum_cons]
    have hs : 0 ≤ (l.map (·.2)).sum := by
      clear h1 h
      induction l with
      | nil => exact Int.le_refl _
      | cons x l ih =>
        rw [List.map_cons, List.sum_cons]
        have := hl x (List.mem_cons_self ..)
        have := ih fun y hy => hl y (List.mem_cons_of_mem _ hy)
        omega
    by_cases c : q.2 < n
    · rw [if_pos c, greedy_sum hl (by omega) (by omega)]
      show q.2 + _ = n
      omega
    · rw [if_neg c, greedy_sum hl (by omega) (by omega)]
      show n + _ = n
      omega
theorem greedy_mem : ∀ {l : Num} {n : Int}, (∀ q ∈ l, 0 ≤ q.2) → 0 ≤ n → ∀ q ∈ greedy l n, 0 ≤ q.2 ∧ q.2 ≤ n
  | [], _, _, _, _, h => by cases h
  | a :: l, n, h, h0, q, hq => by
    have ha := h a (List.mem_cons_self ..)
    rcases List.mem_cons.mp hq with rfl | hq
    · show 0 ≤ (if a.2 < n then a.2 else n) ∧ (if a.2 < n then a.2 else n) ≤ n
      split <;> omega
    · have h1 := greedy_mem (fun x hx => h x (List.mem_cons_of_mem _ hx)) (n := n - if a.2 < n then a.2 else n) (by split <;> omega) q hq
      refine ⟨h1.1, ?_⟩
      have := h1.2
      split at this <;> omega
theorem nameB_shwS {x : Str} (h : nameB x = true) : ShwS x := by
  unfold nameB at h
  simp only [Bool.and_eq_true, decide_eq_true_eq, List.all_eq_true] at h
  refine ⟨Nat.le_trans h.2.1 (by decide), fun c hc => ?_⟩
  have h1 := h.2.2 c hc
  have h2 : ∀ c ∈ letters.cps.toList, c < 16 ^ 8 := by decide +kernel
  exact h2 c h1
/-- the kinds with parts and what is split of them -/
def fsl (f : Str → Int) (l : List Ent) : Num := (l.filter fun e => decide (e.parts ≠ [])).map fun e => (e.name, f e.name)
theorem fsl_snoc {f : Str → Int} {es : List Ent} {i : Nat} {e : Ent} (h : es[i]? = some e) : fsl f (es.take (i + 1)) = fsl f (es.take i) ++ if e.parts = [] then [] else [(e.name, f e.name)] := by
  unfold fsl
  rw [take_snoc h, List.filter_append, List.map_append, List.filter_cons, List.filter_nil]
  by_cases c : e.parts = []
  · rw [if_pos c, if_neg (by rw [decide_eq_true_eq]; exact fun z => z c)]
    rfl
  · rw [if_neg c, if_pos (decide_eq_true c)]
    rfl
theorem fsl_names {f : Str → Int} {l : List Ent} {x : Str} (h : x ∈ (fsl f l).map (·.1)) : x ∈ l.map (·.name) := by
  unfold fsl at h
  rw [List.map_map] at h
  obtain ⟨e, he, rfl⟩ := List.mem_map.mp h
  exact List.mem_map.mpr ⟨e, (List.mem_filter.mp he).1, rfl⟩
theorem fsl_len (f : Str → Int) (l : List Ent) : (fsl f l).length ≤ l.length := by
  unfold fsl
  rw [List.length_map]
  exact List.length_filter_le _ _
/-- the same order, as it stood -/
theorem CatAt.backF {G H1 : Hp} {xs ys : List V} {es es' : List Ent} (hc : CatAt G xs es) (s : Same G H1) (hp : ys.Perm xs) (hc2 : CatAt H1 ys es') : CatAt G ys es' := by
  obtain ⟨es2, _, c2⟩ := Paired.perm hp hc
  rw [CatAt.uniq (CatAt.mono s c2) hc2]
  exact c2
end Sk
namespace Sk
open PySem PySem.Spec PyProof.Rows L2
/-- a text that is written short -/
def ShwN (x : Str) : Prop := x.length ≤ 9 ∧ ∀ c ∈ x.cps.toList, c < 0x110000
/-- an entry that is written short, valid or not -/
structure BentE (e : Ent) : Prop where
  name : ShwN e.name
  w : e.w.natAbs < 10 ^ 100
  fewp : e.parts.length ≤ 6
  parts : ∀ q ∈ e.parts, ShwN q
theorem paired_take {α β : Type} {R : α → β → Prop} : ∀ {xs : List α} {ys : List β} (n : Nat), Paired R xs ys → Paired R (xs.take n) (ys.take n)
  | _, _, 0, _ => by rw [List.take_zero, List.take_zero]; exact .nil
  | _, _, n + 1, .nil => by rw [List.take_nil, List.take_nil]; exact .nil
  | _, _, n + 1, .cons a t => by rw [List.take_succ_cons, List.take_succ_cons]; exact .cons a (paired_take n t)
theorem paired_drop {α β : Type} {R : α → β → Prop} : ∀ {xs : List α} {ys : List β} (n : Nat), Paired R xs ys → Paired R (xs.drop n) (ys.drop n)
  | _, _, 0, h => h
  | _, _, n + 1, .nil => by rw [List.drop_nil, List.drop_nil]; exact .nil
  | _, _, n + 1, .cons a t => paired_drop n t
theorem bentN {x : Str} (h1 : x.length ≤ 9) (h2 : (x.cps.toList.all fun c => decide (c < 0x110000)) = true) : ShwN x := ⟨h1, fun c hc => of_decide_eq_true (List.all_eq_true.mp h2 c hc)⟩
theorem ShwN.ok {x : Str} (h : ShwN x) : PyData.strOk x = true := by
  unfold PyData.strOk
  rw [← Array.all_toList, List.all_eq_true]
  exact fun c hc => decide_eq_true (h.2 c hc)
theorem nameB_len {x : Str} (h : nameB x = true) : x.length ≤ 8 := by
  unfold nameB at h
  simp only [Bool.and_eq_true, decide_eq_true_eq] at h
  exact h.2.1
theorem nameB_N {x : Str} (h : nameB x = true) : ShwN x := by
  refine ⟨Nat.le_trans (nameB_len h) (by decide), fun c hc => ?_⟩
  have h2 := nameB_strOk h
  unfold PyData.strOk at h2
  rw [← Array.all_toList, List.all_eq_true] at h2
  exact of_decide_eq_true (h2 c hc)
/-- a text of at most eight signs -/
def ShwK (x : Str) : Prop := ShwN x ∧ x.length ≤ 8
theorem ShwK.s {x : Str} (h : ShwK x) : ShwS x := ⟨Nat.le_trans h.2 (by decide), fun c hc => Nat.lt_trans (h.1.2 c hc) (by decide)⟩
theorem nameB_K {x : Str} (h : nameB x = true) : ShwK x := ⟨nameB_N h, nameB_len h⟩
end Sk
namespace Sk
open PySem PySem.Spec PyProof.Rows L2
abbrev s_law_catalogue : Stmt := topS 31
abbrev N_law_catalogue : List Str := ["bag", "most", "left", "number", "pool", "weight", "lighter", "parts", "name", "entry", "index"]
theorem sc_law_catalogue : FnScope N_law_catalogue ["bag", "most"] (defScope s_law_catalogue) := ⟨rfl, rfl, rfl, by decide +kernel, rfl, by decide +kernel, by decide +kernel⟩
/-- entries as the law makes them -/
structure MadeC (es : List Ent) : Prop where
  v : Valid es
  few : es.length ≤ 20
  fewp : ∀ e ∈ es, e.parts.length ≤ 3
  wt : ∀ e ∈ es, e.w < 1000
  nob : ∀ e ∈ es, e.name ≠ "nobody" ∧ e.name ≠ "zoo"
def sp_law_catalogue (Tb : List (Addr × Str)) (K : PySem.W.Frag) : Sp := fun vs H Q _ => ∃ (p : Addr) (n : Nat) (L : List (Addr × HO)) (G : Hp) (most : Int), vs = [.ref p, .int most] ∧ Hb Tb p n L G H ∧ n + 1000 < 1000000000 ∧ 1 ≤ most ∧ most ≤ 20 ∧
  ∀ r H' G' ys es, Same G G' → CatAt G' ys es → MadeC es → es.length ≤ most → Hb Tb p (n + 1000) ((r, .lst ys) :: L) G' H' → Q (.ref r) H'
/-- the names that the law draws from -/
def poolA : List Str := ["a", "b", "cube", "d", "edge", "fit", "g", "hook", "i", "jar", "k", "lid", "m", "net", "o", "peg"]
def poolB : List Str := ["q", "rod", "s", "tile"]
theorem pool_nodup : (poolA ++ poolB).Nodup := by decide +kernel
theorem pool_nob : ∀ x ∈ poolA ++ poolB, x ≠ "nobody" ∧ x ≠ "zoo" := by decide +kernel
theorem pool_good : ∀ x ∈ poolA ++ poolB, nameB x = true := by decide +kernel
/-- what is made so far -/
structure MadeAtD (rest : List Str) (i : Nat) (w : Int) (es : List Ent) : Prop where
  names : (es.map (·.name) ++ rest).Perm (poolA ++ poolB)
  len : es.length = i
  pos : ∀ e ∈ es, 1 ≤ e.w ∧ e.w ≤ w
  lighter : ∀ e ∈ es, ∀ q ∈ e.parts, ∃ e' ∈ es, e'.name = q ∧ e'.w < e.w
  fewp : ∀ e ∈ es, e.parts.length ≤ 3
  w1 : 1 ≤ w
  w2 : w ≤ 4 + 2 * (i : Int)
theorem MadeAtD.step {rest : List Str} {i j : Nat} {w w' : Int} {es : List Ent} {x : Str} {ps : List Str} (m : MadeAtD rest i w es) (hx : rest[j]? = some x) (h1 : w ≤ w') (h2 : w' ≤ w + 2)
    (hp : ∀ q ∈ ps, ∃ e' ∈ es, e'.name = q ∧ e'.w < w) (hl : ps.length ≤ 3) : MadeAtD (rest.eraseIdx j) (i + 1) w' (es ++ [⟨x, w, ps⟩]) := by
  refine ⟨?_, by rw [List.length_append, m.len]; rfl, fun e he => ?_, fun e he q hq => ?_, fun e he => ?_, Int.le_trans m.w1 h1, ?_⟩
  · refine List.Perm.trans ?_ m.names
    rw [List.map_append, List.append_assoc]
    exact List.Perm.append_left _ (erase_perm rest j x hx)
  · rcases List.mem_append.mp he with z | z
    · have := m.pos e z
      omega
    · rw [List.mem_singleton.mp z]
      have := m.w1
      exact ⟨m.w1, h1⟩
  · rcases List.mem_append.mp he with z | z
    · obtain ⟨e', a, b⟩ := m.lighter e z q hq
      exact ⟨e', List.mem_append_left _ a, b⟩
    · rw [List.mem_singleton.mp z] at hq ⊢
      obtain ⟨e', a, b⟩ := hp q hq
      exact ⟨e', List.mem_append_left _ a, b⟩
  · rcases List.mem_append.mp he with z | z
    · exact m.fewp e z
    · rw [List.mem_singleton.mp z]
      exact hl
  · have := m.w2
    omega
theorem MadeAtD.perm {rest : List Str} {i : Nat} {w : Int} {es es' : List Ent} (m : MadeAtD rest i w es) (p : es'.Perm es) : MadeAtD rest i w es' :=
  ⟨((p.map _).append_right _).trans m.names, by rw [p.length_eq]; exact m.len, fun e he => m.pos e (p.mem_iff.mp he), fun e he q hq => by
    obtain ⟨e', a, b⟩ := m.lighter e (p.mem_iff.mp he) q hq
    exact ⟨e', p.mem_iff.mpr a, b⟩, fun e he => m.fewp e (p.mem_iff.mp he), m.w1, m.w2⟩
theorem MadeAtD.made {rest : List Str} {i : Nat} {w : Int} {es : List Ent} (m : MadeAtD rest i w es) (h0 : 1 ≤ i) (h1 : i ≤ 20) : MadeC es := by
  have hle := m.len
  have hin : ∀ e ∈ es, e.name ∈ poolA ++ poolB := fun e he => m.names.mem_iff.mp (List.mem_append_left _ (List.mem_map.mpr ⟨e, he, rfl⟩))
  have hnd : (es.map (·.name)).Nodup := (List.nodup_append.mp (m.names.nodup_iff.mpr pool_nodup)).1
  refine ⟨⟨fun z => ?_, fun e he => pool_good _ (hin e he), hnd, fun e he => (m.pos e he).1, m.lighter, by omega, fun e he => Nat.le_trans (m.fewp e he) (by decide)⟩, by omega, m.fewp, fun e he => ?_, fun e he => pool_nob _ (hin e he)⟩
  · rw [z] at hle
    simp at hle
    omega
  · have := (m.pos e he).2
    have := m.w2
    omega
theorem MadeC.perm {es es' : List Ent} (p : es'.Perm es) (v : MadeC es) : MadeC es' :=
  ⟨v.v.perm p, by rw [p.length_eq]; exact v.few, fun e he => v.fewp e (p.mem_iff.mp he), fun e he => v.wt e (p.mem_iff.mp he), fun e he => v.nob e (p.mem_iff.mp he)⟩
/-- the comprehension of the lighter ones -/
def lightO (H : Hp) (w : Int) (v : V) : Option V := match itemAt H 1 v with
  | some (.int u) => if u < w then itemAt H 0 v else none
  | _ => none
theorem lightO_at {H : Hp} {w : Int} {v : V} {e : Ent} (h : EntAt H v e) : lightO H w v = if e.w < w then some (V.str e.name) else none := by
  obtain ⟨t, l, rfl, ht, _⟩ := h
  unfold lightO
  rw [itemAt_tup ht, itemAt_tup ht]
  rfl
theorem light_fm (w : Int) : ∀ es : List Ent, es.filterMap (fun x => if x.w < w then some (V.str x.name) else none) = ((es.filter fun x => decide (x.w < w)).map (·.name)).map V.str
  | [] => rfl
  | x :: xs => by
    rw [List.filterMap_cons, List.filter_cons, light_fm w xs]
    by_cases z : x.w < w
    · rw [if_pos z, if_pos (decide_eq_true z)]
      rfl
    · rw [if_neg z, if_neg (fun y => z (of_decide_eq_true y))]
theorem ins_perm {α : Type} (xs : List α) (i : Nat) (x : α) : (xs.take i ++ [x] ++ xs.drop i).Perm (xs ++ [x]) := by
  have h : (xs.take i ++ xs.drop i ++ [x]).Perm (xs ++ [x]) := by rw [List.take_append_drop]
  refine List.Perm.trans ?_ h
  rw [List.append_assoc, List.append_assoc]
  exact List.Perm.append_left _ List.perm_append_comm
section
variable {P : Program} {w : World} {K : PySem.W.Frag} {mg : Str → Option Value} {base : Heap} {Tb : List (Addr × Str)}
theorem ok_law_catalogue {f : Addr} {fd : FuncData} (F : FnP K "_law_catalogue" s_law_catalogue f fd) (T : Tx K mg) (G_law_draw : Fn P w K mg base "_law_draw" 1 ["bag", "many"] (sp_law_draw Tb K)) : FnOk P w K mg base CX0 2 f fd ["bag", "most"] (sp_law_catalogue Tb K) := by
  refine F.ok sc_law_catalogue (fun vs H Q E h => ?_) (fun cdv A outer s H vs Q E hr h => ?_)
  · obtain ⟨_, _, _, _, _, rfl, _⟩ := h
    rfl
  · obtain ⟨p, n, L, G, most, rfl, hs, hn, hm1, hm2, k⟩ := h
    refine ⟨_, PSs.nox (pss_cons (ps_set (i := 2) sc_law_catalogue.nd rfl (Or.inl rfl) (pe_lst (pa_cons pe_str (pa_cons pe_str (pa_cons pe_str (pa_cons pe_str (pa_cons pe_str (pa_cons pe_str (pa_cons pe_str (pa_cons pe_str (pa_cons pe_str (pa_cons pe_str (pa_cons pe_str (pa_cons pe_str (pa_cons pe_str (pa_cons pe_str (pa_cons pe_str (pa_cons pe_str pa_nil))))))))))))))))))
      (pss_cons (ps_asg (pe_tup (pa_cons (pe_lst pa_nil) (pa_cons (pe_op op_cat (pv 2) (pe_lst (pa_cons pe_str (pa_cons pe_str (pa_cons pe_str (pa_cons pe_str pa_nil)))))) (pa_cons (pe_op op_add pe_int (pe_fn G_law_draw (hr.mono (by decide)) (pa_cons (pv 0) (pa_cons pe_int pa_nil)))) pa_nil)))) (pg_tup rfl (pgs_cons (pg_name (i := 4) sc_law_catalogue.nd rfl (Or.inl rfl)) (pgs_cons (pg_name (i := 2) sc_law_catalogue.nd rfl (Or.inl rfl)) (pgs_cons (pg_name (i := 5) sc_law_catalogue.nd rfl (Or.inr rfl)) pgs_nil)))))
      (pss_cons (ps_for PassesOwn.never rfl (pi_range1 (by rfl) T.n_range (pa_cons (pe_op op_add pe_int (pe_fn G_law_draw (hr.mono (by decide)) (pa_cons (pv 0) (pa_cons (pv 1) pa_nil)))) pa_nil)) (pg_name (i := 3) sc_law_catalogue.nd rfl (Or.inl rfl)) (pss_cons (ps_set (i := 6) sc_law_catalogue.nd rfl (Or.inr rfl) (pe_lc (own := [("entry", 9)]) (g := (gName 9)) (tt := _) rfl sc_law_catalogue.nd (piL (K := K) rfl (pv 4)) (blkOk_by (N := N_law_catalogue) (sc := (defScope s_law_catalogue)) (by decide +kernel)) (fun _ _ _ _ _ => (pg_name (i := 9) sc_law_catalogue.nd rfl (Or.inl rfl))) (fun _ _ _ _ _ => (pts_one (pt_cmpR op_lt (pe_ix (ixT (K := K) rfl) (pv 9) pe_int (fun _ _ => rfl)) (pv 5) (nomark _)))) (fun _ _ _ _ _ => (pe_ix (ixT (K := K) rfl) (pv 9) pe_int (fun _ _ => rfl)))))
        (pss_cons (ps_set (i := 7) sc_law_catalogue.nd rfl (Or.inl rfl) (pe_lst pa_nil))
        (pss_cons (ps_if (PW.pt (pw_and (pt_cmpR op_gt (pe_callB (lenS (K := K) rfl) (by rfl) T.n_len (by decide +kernel) (pa_cons (pv 6) pa_nil)) pe_int (nomark _)) (pw_and1 (pt_cmpR op_gt (pe_fn G_law_draw (hr.mono (by decide)) (pa_cons (pv 0) (pa_cons pe_int pa_nil))) pe_int (nomark _))))) (pss_one (ps_setLc (i := 7) (own := [("index", 10)]) (g := (gName 10)) (tt := tYes) rfl sc_law_catalogue.nd rfl rfl (sw_true rfl rfl rfl (by decide +kernel)) (pi_range1 (by rfl) T.n_range (pa_cons (pe_op op_add pe_int (pe_fn G_law_draw (hr.mono (by decide)) (pa_cons (pv 0) (pa_cons pe_int pa_nil)))) pa_nil)) (blkOk_by (N := N_law_catalogue) (sc := (defScope s_law_catalogue)) (by decide +kernel)) (fun _ _ _ _ _ => (pg_name (i := 10) sc_law_catalogue.nd rfl (Or.inl rfl))) (fun _ _ _ _ _ => pts_nil) (fun _ _ _ _ _ => (pe_ix (ixL (K := K) rfl) (pv 6) (pe_fn G_law_draw (hr.mono (by decide)) (pa_cons (pv 0) (pa_cons (pe_callB (lenS (K := K) rfl) (by rfl) T.n_len (by decide +kernel) (pa_cons (pv 6) pa_nil)) pa_nil))) (fun _ _ => rfl))))) pss_nil)
        (pss_cons (ps_set (i := 8) sc_law_catalogue.nd rfl (Or.inl rfl) (peBm (K := K) rfl PySem.F.plainAttrs_list PySem.F.slot_list_pop PySem.F.type_list_pop mt_popAt (pv 2) (pa_cons (pe_fn G_law_draw (hr.mono (by decide)) (pa_cons (pv 0) (pa_cons (pe_callB (lenS (K := K) rfl) (by rfl) T.n_len (by decide +kernel) (pa_cons (pv 2) pa_nil)) pa_nil))) pa_nil)))
        (pss_cons (ps_expr (peBm (K := K) rfl PySem.F.plainAttrs_list PySem.F.slot_list_insert PySem.F.type_list_insert mt_insert (pv 4) (pa_cons (pe_fn G_law_draw (hr.mono (by decide)) (pa_cons (pv 0) (pa_cons (pe_op op_add (pe_callB (lenS (K := K) rfl) (by rfl) T.n_len (by decide +kernel) (pa_cons (pv 4) pa_nil)) pe_int) pa_nil))) (pa_cons (pe_tup (pa_cons (pv 8) (pa_cons (pv 5) (pa_cons (pv 7) pa_nil)))) pa_nil))))
        (pss_one (ps_aug (i := 5) sc_law_catalogue.nd rfl (Or.inr rfl) (pe_fn G_law_draw (hr.mono (by decide)) (pa_cons (pv 0) (pa_cons pe_int pa_nil))) ip_add))))))))
      (pss_one (ps_ret (pv 4)))))), ?_⟩
    refine ⟨by show 16 ≤ sizeLine; decide, fun la hla => ?_⟩
    have h1 := hs.new hla (.lst (xs := poolA.map V.str))
    refine ⟨Nat.zero_le _, fun f hf => ?_⟩
    have h2 := h1.new hf (.lst (xs := []))
    refine ⟨_, rfl, by show 4 ≤ sizeLine; decide, fun lb hlb => ?_⟩
    have h3 := h2.new hlb (.lst (xs := poolB.map V.str))
    refine ⟨la, lb, poolA.map V.str, poolB.map V.str, rfl, rfl, h3.get (i := 2) rfl, h3.get (i := 0) rfl, by show 16 + 4 ≤ sizeLine; decide, fun l hl => ?_⟩
    have h4 := (h3.drop1.new hl (.lst (xs := (poolA ++ poolB).map V.str)))
    have h5 := h4.sub (L' := (l, .lst ((poolA ++ poolB).map V.str)) :: (f, .lst []) :: L) (.cons₂ _ (.cons₂ _ (.cons _ (.refl _))))
    refine ⟨_, rfl, p, _, _, G, 3, rfl, h5, by omega, by decide, by decide +kernel, fun w0 H1 w00 w01 h6 => ⟨_, _, rfl, rfl, ?_⟩⟩
    refine ⟨by show 3 ≤ sizeLine; decide, fun t0 ht0 => gtup3 upd_same ?_⟩
    have h7 := (h6.new ht0 (.tup (xs := [.ref f, .ref l, .int (1 + w0)]))).drop1
    refine ⟨_, rfl, _, rfl, p, _, _, G, most, rfl, h7, by omega, hm1, Int.lt_of_le_of_lt hm2 (by decide +kernel), fun d0 H2 d00 d01 h8 => ?_⟩
    clear h1 h2 h3 h4 h5 h6 h7
    refine ⟨_, _, rfl, rfl, _, rfl, ?_, ?_, for_range (lo := 0) (n := (1 + d0).toNat) (fun i σ H' => ∃ (w : Int) (G1 : Hp) (rest : List Str) (ys : List V) (es : List Ent) (s3 s6 s7 s8 s9 s10 : Option V), σ = [some (.ref p), some (.int most), some (.ref l), s3, some (.ref f), some (.int w), s6, s7, s8, s9, s10] ∧ Same G G1 ∧ CatAt G1 ys es ∧ MadeAtD rest i w es ∧ Hb Tb p (n + 2 + 10 * i) ((l, .lst (rest.map V.str)) :: (f, .lst ys) :: L) G1 H')
      ⟨1 + w0, G, poolA ++ poolB, [], [], _, _, _, _, _, _, rfl, fun _ _ e => e, .nil, ⟨.refl _, rfl, by simp, by simp, by simp, by omega, by omega⟩, h8⟩ ?_ ?_⟩
    · show -(2 ^ 62) ≤ 1 + d0
      omega
    · show 1 + d0 < 2 ^ 62
      omega
    · rintro i σ H3 hi ⟨w, G1, rest, ys, es, s3, s6, s7, s8, s9, s10, rfl, gs, hc, hma, h1⟩
      have hi20 : i < 20 := by omega
      have hrl : rest.length = 20 - i := by
        have := hma.names.length_eq
        rw [List.length_append, List.length_map, hma.len] at this
        have e : (poolA ++ poolB).length = 20 := rfl
        omega
      have hel := hma.len
      have hyl := Paired.len hc
      -- lighter
      have hcl := hc.mono h1.fz.sub
      have hf5 := h1.get (i := 1) rfl
      refine ⟨_, rfl, f, rfl, ⟨_, SqL.of hf5⟩, fun D hD => lc_fm (Tb := Tb) (xs := ys) walk_list rfl (lightO H3 w) hD (by omega) (fun H' g => SqL.of (g.at hf5 .lst)) (fun j v H' hv g Rk Rs hk hks => ?_) fun H6 g6 hD6 => ?_⟩
      · obtain ⟨e, he, hev⟩ := Paired.at hcl hv
        have hlo := lightO_at (w := w) hev
        obtain ⟨t, lp, rfl, ht, hlp⟩ := hev
        have ht' := g.at ht .tup
        refine ⟨rfl, _, rfl, t, _, ((1 : Nat) : Int), _, rfl, rfl, SqT.of ht', atI_nat (j := 1) rfl, _, rfl, _, _, rfl, rfl, _, rfl, ?_⟩
        refine ite2 (fun c1 => ?_) (fun c1 => ?_)
        · have c2 := of_decide_eq_true c1
          exact ⟨_, rfl, t, _, ((0 : Nat) : Int), _, rfl, rfl, SqT.of ht', atI_nat (j := 0) rfl, hk _ _ (by rw [hlo, if_pos c2]) (Gr.refl _)⟩
        · exact hks _ (by rw [hlo, if_neg (fun z => c1 (decide_eq_true z))]) (Gr.refl _)
      have elt : ys.filterMap (lightO H3 w) = ((es.filter fun e => decide (e.w < w)).map (·.name)).map V.str := by
        rw [fm_pairedO (g := fun e => if e.w < w then some (V.str e.name) else none) (fun v e h => lightO_at h) hcl, light_fm]
      rw [elt] at hD6
      have h7 := h1.grow g6 (.of hD) hD6 .lst
      have hlight : ∀ q ∈ (es.filter fun e => decide (e.w < w)).map (·.name), ∃ e' ∈ es, e'.name = q ∧ e'.w < w := fun q hq => by
        obtain ⟨e, he, rfl⟩ := List.mem_map.mp hq
        obtain ⟨a, b⟩ := List.mem_filter.mp he
        exact ⟨e, a, rfl, of_decide_eq_true b⟩
      have hll : ((es.filter fun e => decide (e.w < w)).map (·.name)).length ≤ 40 := by
        rw [List.length_map]
        exact Nat.le_trans (List.length_filter_le _ _) (by omega)
      generalize (es.filter fun e => decide (e.w < w)).map (·.name) = lt at h7 hlight hll
      clear elt hD6 hcl h1 hf5
      refine goN ?_
      dsimp only
      refine ⟨Nat.zero_le _, fun pe hpe => ?_⟩
      have h8 := h7.new hpe (.lst (xs := []))
      refine goN ?_
      dsimp only
      refine sq_st (fun σ H' => ∃ (pa : Addr) (ps : List Str) (s10 : Option V), σ = [some (.ref p), some (.int most), some (.ref l), some (.int (0 + (i : Int))), some (.ref f), some (.int w), some (.ref D), some (.ref pa), s8, s9, s10] ∧ (∀ q ∈ ps, q ∈ lt) ∧ ps.length ≤ 3 ∧ Hb Tb p (n + 2 + 10 * i + 5) ((pa, .lst (ps.map V.str)) :: (l, .lst (rest.map V.str)) :: (f, .lst ys) :: L) G1 H') ?_ ?_
      · intro N hN
        have out : ∀ {m : Nat} {H : Hp} {s10 : Option V}, m ≤ n + 2 + 10 * i + 5 → Hb Tb p m ((pe, .lst []) :: (D, .lst (lt.map V.str)) :: (l, .lst (rest.map V.str)) :: (f, .lst ys) :: L) G1 H → N [some (.ref p), some (.int most), some (.ref l), some (.int (0 + (i : Int))), some (.ref f), some (.int w), some (.ref D), some (.ref pe), s8, s9, s10] H := fun hm q => hN _ _ ⟨pe, [], _, rfl, (fun q hq => by cases hq), by decide, q.drop2.mono hm⟩
        refine ⟨_, rfl, D, _, rfl, .inl (SqL.of (h8.get (i := 1) rfl)), _, _, rfl, rfl, _, rfl, ?_⟩
        refine ite2 (fun c1 => ?_) (fun c1 => out (by omega) h8)
        have ltp : 0 < lt.length := by
          have := of_decide_eq_true c1
          rw [List.length_map] at this
          omega
        refine ⟨_, rfl, p, _, _, G1, 4, rfl, h8, by omega, by decide, by decide +kernel, fun x9 H9 x90 x91 h9 => ⟨_, _, rfl, rfl, _, rfl, ?_⟩⟩
        refine ite2 (fun c2 => ?_) (fun c2 => out (by omega) h9)
        refine ⟨_, rfl, p, _, _, G1, 3, rfl, h9, by omega, by decide, by decide +kernel, fun sz H10 sz0 sz1 h10 => ⟨_, _, rfl, rfl, _, rfl, ?_, ?_, fun D2 hD2 => lc_range (lo := 0) (n := (1 + sz).toNat) (fun j H' => ∃ acc : List Str, acc.length = j ∧ (∀ q ∈ acc, q ∈ lt) ∧ Hb Tb p (n + 2 + 10 * i + 2 + j) ((D2, .lst (acc.map V.str)) :: (pe, .lst []) :: (D, .lst (lt.map V.str)) :: (l, .lst (rest.map V.str)) :: (f, .lst ys) :: L) G1 H') ⟨[], rfl, by simp, h10.new hD2 .lst⟩ ?_ ?_⟩⟩
        · show -(2 ^ 62) ≤ 1 + sz
          omega
        · show 1 + sz < 2 ^ 62
          omega
        · rintro j H' hj ⟨acc, hal, hin, h11⟩
          refine ⟨rfl, _, rfl, _, rfl, _, rfl, D, _, rfl, .inl (SqL.of (h11.get (i := 2) rfl)), p, _, _, G1, (lt.length : Int), by rw [List.length_map]; rfl, h11, by omega, by omega, Int.lt_of_le_of_lt (show (lt.length : Int) ≤ 40 by omega) (by decide +kernel), fun r H7 r0 r1 h12 => ?_⟩
          obtain ⟨y, hy, ey⟩ := pick_at (xs := lt.map V.str) r0 (by rw [List.length_map]; exact r1)
          obtain ⟨q, hq, rfl⟩ := List.mem_map.mp hy
          refine ⟨D, _, r, .str q, rfl, rfl, SqL.of (h12.get (i := 2) rfl), ey, _, h12.get (i := 0) rfl, ?_, acc ++ [q], ?_, fun q2 hq2 => ?_, ?_⟩
          · rw [List.length_map, sizeLine_eq]
            omega
          · rw [List.length_append, List.length_singleton, hal]
          · rcases List.mem_append.mp hq2 with z | z
            · exact hin q2 z
            · rw [List.mem_singleton.mp z]
              exact hq
          · have h13 := h12.put (i := 0) (o' := .lst ((acc ++ [q]).map V.str)) rfl .lst
            rw [List.map_append] at h13 ⊢
            exact h13
        · rintro H11 ⟨acc, hal, hin, h11⟩
          exact hN _ _ ⟨D2, acc, _, rfl, hin, by omega, h11.drop2.drop2.mono (by omega)⟩
      rintro σ H8 ⟨pa, ps, s10, rfl, hpi, hpl, h9⟩
      clear h8 h7
      -- its name
      refine ⟨_, rfl, .inl ⟨rfl, _, SqL.of (h9.get (i := 1) rfl)⟩, _, rfl, _, rfl, l, rest.map V.str, rfl, .inl (SqL.of (h9.get (i := 1) rfl)), p, _, _, G1, (rest.length : Int), by rw [List.length_map]; rfl, h9, by omega, by omega, Int.lt_of_le_of_lt (show (rest.length : Int) ≤ 20 by omega) (by decide +kernel), fun r H4 r0 r1 h10 => ?_⟩
      obtain ⟨nm, hnm⟩ : ∃ y, rest[r.toNat]? = some y := ⟨_, List.getElem?_eq_getElem (by omega)⟩
      refine ⟨l, rest.map V.str, r, r.toNat, .str nm, rfl, rfl, h10.get (i := 1) rfl, ?_, ?_, seq_ix r0 (by rw [List.length_map]; exact r1), by rw [List.getElem?_map, hnm]; rfl, ?_⟩
      · omega
      · omega
      have h11 := h10.put (i := 1) (o' := .lst ((rest.map V.str).eraseIdx r.toNat)) rfl .lst
      rw [erase_mapS] at h11 ⊢
      have gP : Same G1 (upd G1 pa (.lst (ps.map V.str))) := Same.upd h9.cfree
      have pa' : upd G1 pa (.lst (ps.map V.str)) pa = some (.lst (ps.map V.str)) := upd_same
      have h12 : Hb Tb p (n + 2 + 10 * i + 6) ((l, .lst ((rest.eraseIdx r.toNat).map V.str)) :: (f, .lst ys) :: L) (upd G1 pa (.lst (ps.map V.str))) _ := Hb.freeze h11
      generalize upd G1 pa (.lst (ps.map V.str)) = G2 at h12 gP pa'
      clear h9 h10 h11
      refine goN ?_
      dsimp only
      -- it is put in
      refine ⟨_, rfl, .inl ⟨rfl, _, SqL.of (h12.get (i := 1) rfl)⟩, _, rfl, _, rfl, f, ys, rfl, .inl (SqL.of (h12.get (i := 1) rfl)), _, _, rfl, rfl, p, _, _, G2, (ys.length : Int) + 1, rfl, h12, by omega, by omega, Int.lt_of_le_of_lt (show (ys.length : Int) + 1 ≤ 30 by omega) (by decide +kernel), fun u H5 u0 u1 h13 => ?_⟩
      refine ⟨_, rfl, _, rfl, _, rfl, by show 3 ≤ sizeLine; decide, fun t ht => ?_⟩
      have h14 := h13.new ht (.tup (xs := [.str nm, .int w, .ref pa]))
      have gT : Same G2 (upd G2 t (.tup [.str nm, .int w, .ref pa])) := Same.upd h14.cfree
      have ex : EntAt (upd G2 t (.tup [.str nm, .int w, .ref pa])) (.ref t) ⟨nm, w, ps⟩ := ⟨t, pa, rfl, upd_same, gT _ _ pa'⟩
      have h15 := h14.freeze
      generalize upd G2 t (.tup [.str nm, .int w, .ref pa]) = G3 at h15 gT ex
      refine ⟨f, ys, u, .ref t, rfl, rfl, h15.get (i := 1) rfl, by rw [sizeLine_eq]; omega, u0, by omega, ?_⟩
      have h16 := h15.put (i := 1) (o' := .lst (ys.take u.toNat ++ [.ref t] ++ ys.drop u.toNat)) rfl .lst
      generalize upd _ f (.lst (ys.take u.toNat ++ [.ref t] ++ ys.drop u.toNat)) = H6 at h16 ⊢
      clear h12 h13 h14 h15 ht
      have g13 : Same G1 G3 := fun _ _ z => gT _ _ (gP _ _ z)
      have hc3 := hc.mono g13
      refine ⟨_, rfl, _, rfl, p, _, _, G3, 3, rfl, h16, by omega, by decide, by decide +kernel, fun dw H7 dw0 dw1 h17 => ?_⟩
      refine ⟨_, _, rfl, rfl, ?_⟩
      refine ⟨w + dw, G3, rest.eraseIdx r.toNat, ys.take u.toNat ++ [.ref t] ++ ys.drop u.toNat, es.take u.toNat ++ [⟨nm, w, ps⟩] ++ es.drop u.toNat, _, _, _, _, _, _, rfl, fun _ _ z => g13 _ _ (gs _ _ z), Paired.app (Paired.app (paired_take _ hc3) (.cons ex .nil)) (paired_drop _ hc3), ?_, h17.mono (by omega)⟩
      exact (hma.step hnm (by omega) (by omega) (fun q hq => hlight q (hpi q hq)) hpl).perm (ins_perm _ _ _)
    · rintro σ H3 ⟨w, G1, rest, ys, es, s3, s6, s7, s8, s9, s10, rfl, gs, hc, hma, h1⟩
      refine ⟨_, rfl, k f H3 G1 ys es gs hc (hma.made (by omega) (by omega)) (by have := hma.len; omega) (h1.drop1.mono (by omega))⟩
end
end Sk
namespace Sk
open PySem PySem.Spec PyProof.Rows L2
/-! numbers in a row -/
def sumN (c : Nat → Int) : Nat → Int
  | 0 => 0
  | n + 1 => sumN c n + c n
theorem sumN_le {c d : Nat → Int} : ∀ {n : Nat}, (∀ i, i < n → c i ≤ d i) → sumN c n ≤ sumN d n
  | 0, _ => Int.le_refl _
  | n + 1, h => by
    have h1 := sumN_le fun i hi => h i (Nat.lt_succ_of_lt hi)
    have h2 := h n (Nat.lt_succ_self n)
    show sumN c n + c n ≤ sumN d n + d n
    omega
theorem sumN_congr {c d : Nat → Int} {n : Nat} (h : ∀ i, i < n → c i = d i) : sumN c n = sumN d n :=
  Int.le_antisymm (sumN_le fun i hi => by rw [h i hi]; exact Int.le_refl _) (sumN_le fun i hi => by rw [h i hi]; exact Int.le_refl _)
theorem sumN_lt {c d : Nat → Int} : ∀ {n k : Nat}, (∀ i, i < n → c i ≤ d i) → k < n → c k < d k → sumN c n < sumN d n
  | 0, _, _, hk, _ => absurd hk (Nat.not_lt_zero _)
  | n + 1, k, h, hk, hl => by
    have h2 := h n (Nat.lt_succ_self n)
    show sumN c n + c n < sumN d n + d n
    by_cases e : k = n
    · subst e
      have h1 := sumN_le fun i hi => h i (Nat.lt_succ_of_lt hi)
      omega
    · have h1 := sumN_lt (k := k) (fun i hi => h i (Nat.lt_succ_of_lt hi)) (by omega) hl
      omega
theorem sumN_add (c d : Nat → Int) : ∀ n, sumN (fun i => c i + d i) n = sumN c n + sumN d n
  | 0 => rfl
  | n + 1 => by
    show sumN (fun i => c i + d i) n + (c n + d n) = sumN c n + c n + (sumN d n + d n)
    rw [sumN_add c d n]
    omega
theorem sumN_one (k : Nat) : ∀ n, sumN (fun i => if i = k then 1 else 0) n = if k < n then 1 else 0
  | 0 => by rw [if_neg (Nat.not_lt_zero _)]; rfl
  | n + 1 => by
    show sumN (fun i => if i = k then 1 else 0) n + (if n = k then 1 else 0) = _
    rw [sumN_one k n]
    by_cases h : n = k
    · subst h
      rw [if_neg (Nat.lt_irrefl _), if_pos rfl, if_pos (Nat.lt_succ_self _)]
      rfl
    · rw [if_neg h]
      by_cases h2 : k < n
      · rw [if_pos h2, if_pos (by omega)]
        rfl
      · rw [if_neg h2, if_neg (by omega)]
        rfl
theorem sumN_nonneg {c : Nat → Int} {n : Nat} (h : ∀ i, i < n → 0 ≤ c i) : 0 ≤ sumN c n := by
  have h1 := sumN_le (c := fun _ => 0) h
  have h2 : sumN (fun _ => 0) n = 0 := by
    clear h h1
    induction n with
    | zero => rfl
    | succ n ih =>
      show sumN (fun _ => 0) n + 0 = 0
      rw [ih]
      rfl
  omega
/-- one more at i, one less at j -/
def addN (c : Nat → Int) (i : Nat) : Nat → Int := fun k => c k + if k = i then 1 else 0
def subN (c : Nat → Int) (j : Nat) : Nat → Int := fun k => c k - if k = j then 1 else 0
theorem addN_at (c : Nat → Int) (i k : Nat) : addN c i k = c k + if k = i then 1 else 0 := rfl
theorem subN_at (c : Nat → Int) (i k : Nat) : subN c i k = c k - if k = i then 1 else 0 := rfl
theorem addN_self (c : Nat → Int) (i : Nat) : addN c i i = c i + 1 := by rw [addN_at, if_pos rfl]
theorem addN_ne {c : Nat → Int} {i k : Nat} (h : k ≠ i) : addN c i k = c k := by rw [addN_at, if_neg h]; omega
theorem subN_self (c : Nat → Int) (i : Nat) : subN c i i = c i - 1 := by rw [subN_at, if_pos rfl]
theorem subN_ne {c : Nat → Int} {i k : Nat} (h : k ≠ i) : subN c i k = c k := by rw [subN_at, if_neg h]; omega
theorem sum_addN {c : Nat → Int} {i n : Nat} (h : i < n) : sumN (addN c i) n = sumN c n + 1 := by
  have h1 := sumN_add c (fun k => if k = i then 1 else 0) n
  rw [sumN_one, if_pos h] at h1
  exact h1
theorem sum_subN {c : Nat → Int} {i n : Nat} (h : i < n) : sumN (subN c i) n = sumN c n - 1 := by
  have h1 := sum_addN (c := subN c i) h
  have h2 : addN (subN c i) i = c := funext fun k => by
    rw [addN_at, subN_at]
    omega
  rw [h2] at h1
  omega
/-- from 0 to what is there -/
def Vec (n : Nat) (F c : Nat → Int) : Prop := ∀ i, i < n → 0 ≤ c i ∧ c i ≤ F i
/-- the first that is not full -/
structure Gap (n : Nat) (F c : Nat → Int) (i : Nat) : Prop where
  lt : i < n
  le : c i < F i
  full : ∀ k, k < i → c k = F k
/-- the last that is not empty -/
structure Last (n : Nat) (c : Nat → Int) (j : Nat) : Prop where
  lt : j < n
  pos : 0 < c j
  zero : ∀ k, j < k → k < n → c k = 0
theorem Gap.uniq {n : Nat} {F c : Nat → Int} {i k : Nat} (h : Gap n F c i) (g : Gap n F c k) : k = i := by
  rcases Nat.lt_trichotomy i k with z | z | z
  · have := g.full i z
    have := h.le
    omega
  · exact z.symm
  · have := h.full k z
    have := g.le
    omega
theorem Last.uniq {n : Nat} {c : Nat → Int} {i k : Nat} (h : Last n c i) (g : Last n c k) : k = i := by
  rcases Nat.lt_trichotomy i k with z | z | z
  · have := h.zero k z g.lt
    have := g.pos
    omega
  · exact z.symm
  · have := g.zero i z h.lt
    have := h.pos
    omega
theorem first_ex {P : Nat → Prop} [DecidablePred P] : ∀ n, (∃ k, k < n ∧ P k) → ∃ i, i < n ∧ P i ∧ ∀ k, k < i → ¬ P k
  | 0, h => by
    obtain ⟨k, hk, _⟩ := h
    exact absurd hk (Nat.not_lt_zero _)
  | n + 1, h => by
    by_cases c : ∃ k, k < n ∧ P k
    · obtain ⟨i, h1, h2, h3⟩ := first_ex n c
      exact ⟨i, by omega, h2, h3⟩
    · obtain ⟨k, hk, hP⟩ := h
      have hn : ∀ k, k < n → ¬ P k := fun k hk hP => c ⟨k, hk, hP⟩
      by_cases e : k = n
      · subst e
        exact ⟨k, hk, hP, hn⟩
      · exact absurd hP (hn k (by omega))
theorem last_ex {P : Nat → Prop} [DecidablePred P] : ∀ n, (∃ k, k < n ∧ P k) → ∃ i, i < n ∧ P i ∧ ∀ k, i < k → k < n → ¬ P k
  | 0, h => by
    obtain ⟨k, hk, _⟩ := h
    exact absurd hk (Nat.not_lt_zero _)
  | n + 1, h => by
    by_cases c : P n
    · exact ⟨n, by omega, c, fun k h1 h2 => by omega⟩
    · obtain ⟨k, hk, hP⟩ := h
      have : k ≠ n := fun e => c (e ▸ hP)
      obtain ⟨i, h1, h2, h3⟩ := last_ex n ⟨k, by omega, hP⟩
      exact ⟨i, by omega, h2, fun k h4 h5 => by
        by_cases e : k = n
        · rw [e]
          exact c
        · exact h3 k h4 (by omega)⟩
theorem gap_ex {n : Nat} {F c : Nat → Int} (v : Vec n F c) (h : sumN c n < sumN F n) : ∃ i, Gap n F c i := by
  have h1 : ∃ k, k < n ∧ c k < F k := Decidable.byContradiction fun z => by
    have : sumN F n ≤ sumN c n := sumN_le fun i hi => Int.not_lt.mp fun q => z ⟨i, hi, q⟩
    omega
  obtain ⟨i, a, b, d⟩ := first_ex n h1
  exact ⟨i, a, b, fun k hk => by
    have := d k hk
    have := (v k (by omega)).2
    omega⟩
theorem lastN_ex {n : Nat} {F c : Nat → Int} (v : Vec n F c) (h : 0 < sumN c n) : ∃ j, Last n c j := by
  have h1 : ∃ k, k < n ∧ 0 < c k := Decidable.byContradiction fun z => by
    have h2 : sumN c n ≤ sumN (fun _ => 0) n := sumN_le fun i hi => Int.not_lt.mp fun q => z ⟨i, hi, q⟩
    have h3 := sumN_nonneg (c := fun _ => - 0) (n := n) fun _ _ => Int.le_refl _
    have h4 : sumN (fun _ => 0) n = 0 := by
      clear h h2 h3 v z
      induction n with
      | zero => rfl
      | succ n ih =>
        show sumN (fun _ => 0) n + 0 = 0
        rw [ih]
        rfl
    omega
  obtain ⟨i, a, b, d⟩ := last_ex n h1
  exact ⟨i, a, b, fun k hk hn => by
    have := d k hk hn
    have := (v k hn).1
    omega⟩
/-- all full, then one, then all empty -/
def Bal (n : Nat) (F B : Nat → Int) : Prop := ∀ i k, i < k → k < n → B i < F i → B k = 0
theorem Vec.add {n : Nat} {F c : Nat → Int} {i : Nat} (v : Vec n F c) (g : Gap n F c i) : Vec n F (addN c i) := fun k hk => by
  have h1 := v k hk
  rw [addN_at]
  split
  · rename_i e
    subst e
    have := g.le
    omega
  · omega
theorem Vec.sub {n : Nat} {F c : Nat → Int} {j : Nat} (v : Vec n F c) (l : Last n c j) : Vec n F (subN c j) := fun k hk => by
  have h1 := v k hk
  rw [subN_at]
  split
  · rename_i e
    subst e
    have := l.pos
    omega
  · omega
section
variable {n : Nat} {F c B : Nat → Int} {i j : Nat}
/-- a step and a step back: in which order is all one -/
theorem steps_comm {i' j' : Nat} (v : Vec n F c) (g : Gap n F c i) (l : Last n c j) (l' : Last n (addN c i) j') (g' : Gap n F (subN c j) i') : subN (addN c i) j' = addN (subN c j) i' := by
  rcases Nat.lt_trichotomy i j with z | z | z
  · have e1 : j' = j := Last.uniq ⟨l.lt, by rw [addN_ne (by omega)]; exact l.pos, fun k h1 h2 => by rw [addN_ne (by omega)]; exact l.zero k h1 h2⟩ l'
    have e2 : i' = i := Gap.uniq ⟨g.lt, by rw [subN_ne (by omega)]; exact g.le, fun k h => by rw [subN_ne (by omega)]; exact g.full k h⟩ g'
    rw [e1, e2]
    funext k
    rw [subN_at, addN_at, addN_at, subN_at]
    omega
  · subst z
    have e1 : j' = i := Last.uniq ⟨l.lt, by rw [addN_self]; have := l.pos; omega, fun k h1 h2 => by rw [addN_ne (by omega)]; exact l.zero k h1 h2⟩ l'
    have e2 : i' = i := Gap.uniq ⟨g.lt, by rw [subN_self]; have := g.le; omega, fun k h => by rw [subN_ne (by omega)]; exact g.full k h⟩ g'
    rw [e1, e2]
    funext k
    rw [subN_at, addN_at, addN_at, subN_at]
    omega
  · have e1 : j' = i := Last.uniq ⟨g.lt, by rw [addN_self]; have := (v i g.lt).1; omega, fun k h1 h2 => by rw [addN_ne (by omega)]; exact l.zero k (by omega) h2⟩ l'
    have e2 : i' = j := Gap.uniq ⟨l.lt, by rw [subN_self]; have := (v j l.lt).2; omega, fun k h => by rw [subN_ne (by omega)]; exact g.full k (by omega)⟩ g'
    rw [e1, e2]
    funext k
    rw [subN_at, addN_at, addN_at, subN_at]
    omega
theorem bal_of_le (v : Vec n F c) (g : Gap n F c i) (l : Last n c j) (h : j ≤ i) : Bal n F c := fun a k h1 h2 h3 => by
  by_cases z : a < i
  · have := g.full a z
    omega
  · exact l.zero k (by omega) h2
theorem bal_uniq (v : Vec n F c) (w : Vec n F B) (b : Bal n F c) (b' : Bal n F B) (s : sumN c n = sumN B n) : ∀ k, k < n → c k = B k := by
  refine fun k hk => Decidable.byContradiction fun z => ?_
  obtain ⟨a, ha, hne, hf⟩ := first_ex (P := fun k => c k ≠ B k) n ⟨k, hk, z⟩
  have eq : ∀ k, k < a → c k = B k := fun k hk => Decidable.not_not.mp (hf k hk)
  rcases Int.lt_or_gt_of_ne hne with q | q
  · have : sumN c n < sumN B n := sumN_lt (k := a) (fun t ht => by
      rcases Nat.lt_trichotomy t a with y | y | y
      · rw [eq t y]
        exact Int.le_refl _
      · rw [y]
        omega
      · rw [b a t y ht (by have := (w a ha).2; omega)]
        exact (w t ht).1) ha q
    omega
  · have : sumN B n < sumN c n := sumN_lt (k := a) (fun t ht => by
      rcases Nat.lt_trichotomy t a with y | y | y
      · rw [eq t y]
        exact Int.le_refl _
      · rw [y]
        omega
      · rw [b' a t y ht (by have := (v a ha).2; omega)]
        exact (v t ht).1) ha q
    omega
def posZ (z : Int) : Int := if z > 0 then z else 0
/-- what c exceeds -/
def offN (n : Nat) (c B : Nat → Int) : Int := sumN (fun k => posZ (c k - B k)) n
theorem offN_nonneg (n : Nat) (c B : Nat → Int) : 0 ≤ offN n c B := sumN_nonneg fun i _ => by
  show 0 ≤ posZ _
  unfold posZ
  split <;> omega
theorem off_zero (s : sumN c n = sumN B n) : offN n c B = 0 ↔ ∀ k, k < n → c k = B k := by
  constructor
  · intro h
    have le : ∀ k, k < n → c k ≤ B k := fun k hk => Decidable.byContradiction fun z => by
      have : sumN (fun _ => 0) n < offN n c B := sumN_lt (k := k) (fun t _ => by
        show 0 ≤ posZ _
        unfold posZ
        split <;> omega) hk (by
        show 0 < posZ _
        unfold posZ
        rw [if_pos (by omega)]
        omega)
      have := sumN_nonneg (c := fun _ => 0) (n := n) fun _ _ => Int.le_refl _
      omega
    intro k hk
    refine Decidable.byContradiction fun z => ?_
    have := sumN_lt (k := k) le hk (by have := le k hk; omega)
    omega
  · intro h
    have : offN n c B = sumN (fun _ => 0) n := sumN_congr fun k hk => by
      show posZ _ = 0
      rw [h k hk]
      unfold posZ
      rw [if_neg (by omega)]
    rw [this]
    clear h s this
    induction n with
    | zero => rfl
    | succ n ih =>
      show sumN (fun _ => 0) n + 0 = 0
      rw [ih]
      rfl
/-- not balanced: the first that is not full lacks some, the last exceeds -/
theorem gap_low (v : Vec n F c) (w : Vec n F B) (b : Bal n F B) (s : sumN c n = sumN B n) (g : Gap n F c i) (l : Last n c j) (h : i < j) : c i < B i ∧ B j < c j := by
  constructor
  · refine Decidable.byContradiction fun z => ?_
    have z' : B i ≤ c i := Int.not_lt.mp z
    have gl := g.le
    have zero : ∀ k, i < k → k < n → B k = 0 := fun k h1 h2 => b i k h1 h2 (by omega)
    have : sumN B n < sumN c n := sumN_lt (k := j) (fun t ht => by
      rcases Nat.lt_trichotomy t i with y | y | y
      · rw [g.full t y]
        exact (w t ht).2
      · rw [y]
        exact z'
      · rw [zero t y ht]
        exact (v t ht).1) l.lt (by rw [zero j h l.lt]; exact l.pos)
    omega
  · refine Decidable.byContradiction fun z => ?_
    have z' : c j ≤ B j := Int.not_lt.mp z
    have lp := l.pos
    have full : ∀ k, k < j → B k = F k := fun k h1 => by
      have h2 := (w k (by have := l.lt; omega)).2
      by_cases q : B k < F k
      · have := b k j h1 l.lt q
        omega
      · omega
    have : sumN c n < sumN B n := sumN_lt (k := i) (fun t ht => by
      rcases Nat.lt_trichotomy t j with y | y | y
      · rw [full t y]
        exact (v t ht).2
      · rw [y]
        exact z'
      · rw [l.zero t y ht]
        exact (w t ht).1) g.lt (by rw [full i h]; exact g.le)
    omega
/-- a step and a step back: one less -/
theorem off_pair (v : Vec n F c) (w : Vec n F B) (b : Bal n F B) (s : sumN c n = sumN B n) (g : Gap n F c i) (l : Last n c j) (h : i < j) : offN n (subN (addN c i) j) B = offN n c B - 1 := by
  obtain ⟨h1, h2⟩ := gap_low v w b s g l h
  have e : offN n c B = sumN (fun k => posZ (subN (addN c i) j k - B k) + if k = j then 1 else 0) n := sumN_congr fun k hk => by
    show posZ (c k - B k) = posZ (subN (addN c i) j k - B k) + if k = j then 1 else 0
    rw [subN_at, addN_at]
    by_cases q : k = j
    · rw [if_pos q, if_neg (by omega), q]
      unfold posZ
      split <;> split <;> omega
    · rw [if_neg q]
      by_cases q2 : k = i
      · rw [if_pos q2, q2]
        unfold posZ
        split <;> split <;> omega
      · rw [if_neg q2]
        have : c k + 0 - 0 - B k = c k - B k := by omega
        rw [this]
        omega
  rw [sumN_add, sumN_one, if_pos l.lt] at e
  unfold offN at e ⊢
  omega
/-- any pair of steps -/
theorem off_pair' (v : Vec n F c) (w : Vec n F B) (b : Bal n F B) (s : sumN c n = sumN B n) (g : Gap n F c i) (l : Last n c j) {j' : Nat} (l' : Last n (addN c i) j') : (offN n c B = 0 ∧ subN (addN c i) j' = c ∧ offN n (subN (addN c i) j') B = 0) ∨ (0 < offN n c B ∧ offN n (subN (addN c i) j') B = offN n c B - 1) := by
  rcases Nat.lt_or_ge i j with z | z
  · have e1 : j' = j := Last.uniq ⟨l.lt, by rw [addN_ne (by omega)]; exact l.pos, fun k h1 h2 => by rw [addN_ne (by omega)]; exact l.zero k h1 h2⟩ l'
    rw [e1]
    have h1 := off_pair v w b s g l z
    have h2 := offN_nonneg n (subN (addN c i) j) B
    exact .inr ⟨by omega, h1⟩
  · have e1 : j' = i := Last.uniq ⟨g.lt, by rw [addN_self]; have := (v i g.lt).1; omega, fun k h1 h2 => by rw [addN_ne (by omega)]; exact l.zero k (by omega) h2⟩ l'
    have e2 : subN (addN c i) j' = c := by
      rw [e1]
      funext k
      rw [subN_at, addN_at]
      omega
    have h3 := (off_zero s).mpr (bal_uniq v w (bal_of_le v g l z) b s)
    rw [e2]
    exact .inl ⟨h3, rfl, h3⟩
/-- one step: as much, or one less -/
theorem off_step {k : Nat} (v : Vec n F c) (w : Vec n F B) (b : Bal n F B) (s : sumN c n = sumN B n) (g : Gap n F c i) (gb : Gap n F B k) : offN n c B - 1 ≤ offN n (addN c i) (addN B k) ∧ offN n (addN c i) (addN B k) ≤ offN n c B := by
  have key : i = k ∨ (i < k ∧ c i < B i) := by
    rcases Nat.lt_trichotomy i k with z | z | z
    · exact .inr ⟨z, by rw [gb.full i z]; exact g.le⟩
    · exact .inl z
    · exfalso
      have gl := gb.le
      have : sumN B n < sumN c n := sumN_lt (k := k) (fun t ht => by
        rcases Nat.lt_trichotomy t k with y | y | y
        · rw [gb.full t y, g.full t (by omega)]
          exact Int.le_refl _
        · rw [y, g.full k z]
          exact Int.le_of_lt gl
        · rw [b k t y ht gl]
          exact (v t ht).1) gb.lt (by rw [g.full k z]; exact gl)
      omega
  have pt : ∀ t, t < n → posZ (addN c i t - addN B k t) ≤ posZ (c t - B t) ∧ posZ (c t - B t) ≤ posZ (addN c i t - addN B k t) + if t = k then 1 else 0 := by
    intro t ht
    rw [addN_at, addN_at]
    rcases key with z | ⟨z, h⟩
    · subst z
      have : (c t + if t = i then 1 else 0) - (B t + if t = i then 1 else 0) = c t - B t := by omega
      rw [this]
      constructor
      · exact Int.le_refl _
      · split <;> omega
    · by_cases q : t = i
      · subst q
        rw [if_pos rfl, if_neg (by omega)]
        unfold posZ
        constructor
        · split <;> split <;> omega
        · split <;> split <;> omega
      · rw [if_neg q]
        by_cases q2 : t = k
        · rw [if_pos q2]
          unfold posZ
          constructor
          · split <;> split <;> omega
          · split <;> split <;> omega
        · rw [if_neg q2]
          have : c t + 0 - (B t + 0) = c t - B t := by omega
          rw [this]
          omega
  have h1 := sumN_le (c := fun t => posZ (addN c i t - addN B k t)) (d := fun t => posZ (c t - B t)) (n := n) fun t ht => (pt t ht).1
  have h2 := sumN_le (c := fun t => posZ (c t - B t)) (d := fun t => posZ (addN c i t - addN B k t) + if t = k then 1 else 0) (n := n) fun t ht => (pt t ht).2
  rw [sumN_add, sumN_one, if_pos gb.lt] at h2
  unfold offN
  omega
/-- one step more of balanced ones -/
theorem Bal.add (w : Vec n F B) (b : Bal n F B) (g : Gap n F B i) : Bal n F (addN B i) := fun a k h1 h2 h3 => by
  rw [addN_at] at h3
  have gl := g.le
  rcases Nat.lt_trichotomy a i with z | z | z
  · have := g.full a z
    split at h3 <;> omega
  · subst z
    rw [addN_ne (by omega)]
    exact b a k h1 h2 gl
  · rw [addN_ne (by omega)]
    exact b i k (by omega) h2 gl
end
end Sk
namespace Sk
open PySem PySem.Spec PyProof.Rows L2
/-! how many splits one piece needs -/
def sumE (es : List Ent) (g : Str → Int) : Int := (es.map fun e => g e.name).sum
def IsNeed (es : List Ent) (g : Str → Int) : Prop := ∀ e ∈ es, g e.name = (if e.parts = [] then 0 else 1) + (e.parts.map g).sum
theorem sumE_cons (e : Ent) (es : List Ent) (g : Str → Int) : sumE (e :: es) g = g e.name + sumE es g := by
  unfold sumE
  rw [List.map_cons, List.sum_cons]
theorem sumE_add (es : List Ent) (g h : Str → Int) : sumE es (fun x => g x + h x) = sumE es g + sumE es h := by
  induction es with
  | nil => rfl
  | cons e es ih =>
    rw [sumE_cons, sumE_cons, sumE_cons, ih]
    omega
theorem sumE_congr {es : List Ent} {g h : Str → Int} (e : ∀ x ∈ es, g x.name = h x.name) : sumE es g = sumE es h := by
  unfold sumE
  rw [List.map_congr_left e]
theorem sumE_zero {es : List Ent} {g : Str → Int} (h : ∀ e ∈ es, g e.name = 0) : sumE es g = 0 := by
  induction es with
  | nil => rfl
  | cons e es ih =>
    rw [sumE_cons, h e (List.mem_cons_self ..), ih fun x hx => h x (List.mem_cons_of_mem _ hx)]
    rfl
theorem sumE_nonneg {es : List Ent} {g : Str → Int} (h : ∀ e ∈ es, 0 ≤ g e.name) : 0 ≤ sumE es g := by
  induction es with
  | nil => exact Int.le_refl _
  | cons e es ih =>
    rw [sumE_cons]
    have h1 := h e (List.mem_cons_self ..)
    have h2 := ih fun x hx => h x (List.mem_cons_of_mem _ hx)
    omega
theorem sumE_zero_at {es : List Ent} {g : Str → Int} (h : ∀ e ∈ es, 0 ≤ g e.name) (z : sumE es g = 0) : ∀ e ∈ es, g e.name = 0 := by
  induction es with
  | nil => intro e he; cases he
  | cons a es ih =>
    rw [sumE_cons] at z
    have h1 := h a (List.mem_cons_self ..)
    have h2 := sumE_nonneg fun x hx => h x (List.mem_cons_of_mem _ hx)
    intro e he
    rcases List.mem_cons.mp he with rfl | he
    · omega
    · exact ih (fun x hx => h x (List.mem_cons_of_mem _ hx)) (by omega) e he
theorem sumE_pick {es : List Ent} {x : Str} {c : Int} (nd : (es.map (·.name)).Nodup) (h : x ∈ es.map (·.name)) : sumE es (fun y => if x = y then c else 0) = c := by
  induction es with
  | nil => cases h
  | cons e es ih =>
    rw [sumE_cons]
    rw [List.map_cons, List.nodup_cons] at nd
    rw [List.map_cons] at h
    by_cases q : x = e.name
    · rw [if_pos q, sumE_zero fun a ha => if_neg fun z => nd.1 (List.mem_map.mpr ⟨a, ha, z.symm.trans q⟩)]
      omega
    · rw [if_neg q, ih nd.2 ((List.mem_cons.mp h).resolve_left q)]
      omega
theorem sumE_amt {es : List Ent} (nd : (es.map (·.name)).Nodup) (g : Str → Int) : ∀ {l : Num}, (∀ q ∈ l, q.1 ∈ es.map (·.name)) → sumE es (fun x => amt l x * g x) = (l.map fun q => q.2 * g q.1).sum
  | [], _ => by
    rw [sumE_zero fun e _ => by show (0 : Int) * _ = 0; rw [Int.zero_mul]]
    rfl
  | q :: l, h => by
    rw [List.map_cons, List.sum_cons, ← sumE_amt nd g fun z hz => h z (List.mem_cons_of_mem _ hz), ← sumE_pick (c := q.2 * g q.1) nd (h q (List.mem_cons_self ..)), ← sumE_add]
    refine sumE_congr fun e _ => ?_
    show amt (q :: l) e.name * g e.name = (if q.1 = e.name then q.2 * g q.1 else 0) + amt l e.name * g e.name
    rw [amt_cons, Int.add_mul]
    by_cases c : q.1 = e.name
    · rw [if_pos c, if_pos c, c]
    · rw [if_neg c, if_neg c, Int.zero_mul]
theorem sum_mul (c : Int) (g : Str → Int) (l : List Str) : (l.map fun p => c * g p).sum = c * (l.map g).sum := by
  induction l with
  | nil => rw [List.map_nil, List.map_nil, List.sum_nil, Int.mul_zero]
  | cons p l ih => rw [List.map_cons, List.map_cons, List.sum_cons, List.sum_cons, ih, Int.mul_add]
theorem IsNeed.tail {e : Ent} {es : List Ent} {g : Str → Int} (h : IsNeed (e :: es) g) : IsNeed es g := fun x hx => h x (List.mem_cons_of_mem _ hx)
/-- all splits: for each piece as many as it needs -/
theorem total_need : ∀ {es : List Ent} (f g : Str → Int), Behind es → (es.map (·.name)).Nodup → IsNeed es g → ((fs es f).map (·.2)).sum = sumE es (fun x => f x * g x)
  | [], _, _, _, _, _ => rfl
  | e :: es, f, g, b, nd, n => by
    rw [List.map_cons, List.nodup_cons] at nd
    rw [fs, List.map_append, List.sum_append, total_need _ g b.2 nd.2 n.tail, sumE_cons]
    have h1 : sumE es (fun x => addAll f (e.parts.map fun p => (p, f e.name)) x * g x) = sumE es (fun x => f x * g x) + f e.name * (e.parts.map g).sum := by
      have h2 := sumE_amt nd.2 g (l := e.parts.map fun p => (p, f e.name)) fun q hq => by
        obtain ⟨p, hp, rfl⟩ := List.mem_map.mp hq
        exact (b.1 p hp).1
      rw [List.map_map] at h2
      have h3 : ((fun q : Str × Int => q.2 * g q.1) ∘ fun p => (p, f e.name)) = fun p => f e.name * g p := rfl
      rw [h3, sum_mul] at h2
      rw [← h2, ← sumE_add]
      refine sumE_congr fun x _ => ?_
      show addAll f _ x.name * g x.name = f x.name * g x.name + amt _ x.name * g x.name
      rw [addAll_at, Int.add_mul]
    rw [h1, n e (List.mem_cons_self ..)]
    by_cases c : e.parts = []
    · rw [if_pos c, if_pos c, c]
      simp
    · rw [if_neg c, if_neg c]
      show ([f e.name] : List Int).sum + _ = _
      rw [Int.mul_add, List.sum_cons, List.sum_nil]
      omega
theorem Behind.known : ∀ {es : List Ent}, Behind es → ∀ e ∈ es, ∀ p ∈ e.parts, p ∈ es.map (·.name) := fun b e he p hp => (Behind.at b he p hp).1
theorem need_ex : ∀ {es : List Ent}, Behind es → (es.map (·.name)).Nodup → ∃ g, IsNeed es g ∧ ∀ e ∈ es, 0 ≤ g e.name
  | [], _, _ => ⟨fun _ => 0, (fun _ h => by cases h), (fun _ h => by cases h)⟩
  | e :: es, b, nd => by
    rw [List.map_cons, List.nodup_cons] at nd
    obtain ⟨g, n, p⟩ := need_ex b.2 nd.2
    have other : ∀ x ∈ es.map (·.name), upF g e.name ((if e.parts = [] then 0 else 1) + (e.parts.map g).sum) x = g x := fun x hx => by
      unfold upF
      rw [if_neg]
      intro z
      rw [z] at hx
      exact nd.1 hx
    have self : upF g e.name ((if e.parts = [] then 0 else 1) + (e.parts.map g).sum) e.name = (if e.parts = [] then 0 else 1) + (e.parts.map g).sum := if_pos rfl
    have pos : ∀ l : List Str, (∀ x ∈ l, x ∈ es.map (·.name)) → 0 ≤ (l.map g).sum := by
      intro l
      induction l with
      | nil => intro _; exact Int.le_refl _
      | cons x l ih =>
        intro h
        rw [List.map_cons, List.sum_cons]
        obtain ⟨a, ha, rfl⟩ := List.mem_map.mp (h x (List.mem_cons_self ..))
        have h1 := p a ha
        have h2 := ih fun y hy => h y (List.mem_cons_of_mem _ hy)
        omega
    refine ⟨upF g e.name ((if e.parts = [] then 0 else 1) + (e.parts.map g).sum), fun a ha => ?_, fun a ha => ?_⟩
    · rcases List.mem_cons.mp ha with rfl | ha
      · rw [self, List.map_congr_left fun q hq => other q (b.1 q hq).1]
      · rw [other _ (List.mem_map.mpr ⟨a, ha, rfl⟩), n a ha, List.map_congr_left fun q hq => other q (b.2.known a ha q hq)]
    · rcases List.mem_cons.mp ha with rfl | ha
      · rw [self]
        have := pos a.parts fun x hx => (b.1 x hx).1
        split <;> omega
      · rw [other _ (List.mem_map.mpr ⟨a, ha, rfl⟩)]
        exact p a ha
/-- the amounts, entry by entry -/
theorem amt_incs (es : List Ent) (f : Str → Int) (x : Str) : amt (incs es f) x = (es.map fun e => f e.name * amt (ones e.parts) x).sum := by
  have one : ∀ (l : List Str) (c : Int), amt (l.map fun p => (p, c)) x = c * amt (ones l) x := by
    intro l c
    induction l with
    | nil =>
      show (0 : Int) = c * 0
      omega
    | cons p l ih =>
      unfold ones at ih ⊢
      rw [List.map_cons, List.map_cons, amt_cons, amt_cons, ih, Int.mul_add]
      show (if p = x then c else 0) + _ = c * (if p = x then 1 else 0) + _
      split <;> omega
  induction es with
  | nil => rfl
  | cons e es ih =>
    unfold incs at ih ⊢
    rw [List.flatMap_cons, amt_append, ih, List.map_cons, List.sum_cons, one]
/-- one split more of the kind e0 -/
theorem pn_put {es : List Ent} (nd : (es.map (·.name)).Nodup) {e0 : Ent} (h0 : e0 ∈ es) (st c : Num) (x : Str) : pn es st (put c e0.name (getD c e0.name + 1)) x = pn es st c x + amt (ones e0.parts) x := by
  rw [pn_at, pn_at, amt_incs, amt_incs, Int.add_assoc]
  congr 1
  induction es with
  | nil => cases h0
  | cons e es ih =>
    rw [List.map_cons, List.sum_cons, List.map_cons, List.sum_cons]
    rw [List.map_cons, List.nodup_cons] at nd
    rcases List.mem_cons.mp h0 with rfl | h0
    · have h1 : (es.map fun e => getD (put c e0.name (getD c e0.name + 1)) e.name * amt (ones e.parts) x) = es.map fun e => getD c e.name * amt (ones e.parts) x := List.map_congr_left fun a ha => by
        rw [getD_put, if_neg fun z => nd.1 (List.mem_map.mpr ⟨a, ha, z⟩)]
      rw [h1, getD_put, if_pos rfl, Int.add_mul, Int.one_mul]
      omega
    · rw [ih nd.2 h0, getD_put, if_neg (show ¬ e.name = e0.name from fun z => nd.1 (List.mem_map.mpr ⟨e0, h0, z.symm⟩))]
      omega
/-- what the whole pieces need -/
theorem whole_need {es : List Ent} {g : Str → Int} (nd : (es.map (·.name)).Nodup) (kn : ∀ e ∈ es, ∀ p ∈ e.parts, p ∈ es.map (·.name)) (n : IsNeed es g) (st c : Num) (hat : ∀ e ∈ es, e.parts = [] → getD c e.name = 0) :
    sumE es (fun x => (pn es st c x - getD c x) * g x) = sumE es (fun x => getD st x * g x) - sumE es (getD c) := by
  have h1 : sumE es (fun x => amt (incs es (getD c)) x * g x) = sumE es (fun x => getD c x * g x) - sumE es (getD c) := by
    rw [sumE_amt nd g fun q hq => by
      unfold incs at hq
      obtain ⟨e, he, h2⟩ := List.mem_flatMap.mp hq
      obtain ⟨p, hp, rfl⟩ := List.mem_map.mp h2
      exact kn e he p hp]
    have key : ∀ l : List Ent, (∀ e ∈ l, e ∈ es) → ((incs l (getD c)).map fun q => q.2 * g q.1).sum = sumE l (fun x => getD c x * g x) - sumE l (getD c) := by
      intro l
      induction l with
      | nil => intro _; rfl
      | cons e l ih =>
        intro hl
        have he := hl e (List.mem_cons_self ..)
        have e1 : incs (e :: l) (getD c) = (e.parts.map fun p => (p, getD c e.name)) ++ incs l (getD c) := by
          unfold incs
          rw [List.flatMap_cons]
        rw [e1, List.map_append, List.sum_append, ih fun x hx => hl x (List.mem_cons_of_mem _ hx), sumE_cons, sumE_cons, List.map_map]
        have e2 : ((fun q : Str × Int => q.2 * g q.1) ∘ fun p => (p, getD c e.name)) = fun p => getD c e.name * g p := rfl
        rw [e2, sum_mul, n e he]
        by_cases q : e.parts = []
        · rw [hat e he q]
          omega
        · rw [if_neg q, Int.mul_add, Int.mul_one]
          omega
    exact key es fun _ h => h
  have h2 : sumE es (fun x => (pn es st c x - getD c x) * g x) = sumE es (fun x => getD st x * g x) + sumE es (fun x => amt (incs es (getD c)) x * g x) + sumE es (fun x => (0 - getD c x) * g x) := by
    rw [← sumE_add, ← sumE_add]
    refine sumE_congr fun e _ => ?_
    show (pn es st c e.name - getD c e.name) * g e.name = getD st e.name * g e.name + amt _ e.name * g e.name + (0 - getD c e.name) * g e.name
    rw [pn_at, ← Int.add_mul, ← Int.add_mul]
    congr 1
    omega
  have h3 : sumE es (fun x => (0 - getD c x) * g x) + sumE es (fun x => getD c x * g x) = 0 := by
    rw [← sumE_add]
    exact sumE_zero fun e _ => by
      show (0 - getD c e.name) * g e.name + getD c e.name * g e.name = 0
      rw [← Int.add_mul]
      have : (0 - getD c e.name + getD c e.name) = 0 := by omega
      rw [this, Int.zero_mul]
  omega
end Sk
namespace Sk
open PySem PySem.Spec PyProof.Rows L2
theorem getD_amt {d : Num} (nd : (d.map (·.1)).Nodup) (x : Str) : getD d x = amt d x := by
  induction d with
  | nil => rfl
  | cons q l ih =>
    rw [List.map_cons, List.nodup_cons] at nd
    rw [amt_cons]
    unfold getD
    rw [get?_cons]
    by_cases c : q.1 = x
    · rw [if_pos c, if_pos c, amt_zero fun z hz => fun e => nd.1 (List.mem_map.mpr ⟨z, hz, by rw [e, c]⟩)]
      show q.2 = q.2 + 0
      omega
    · rw [if_neg c, if_neg c]
      have := ih nd.2
      unfold getD at this
      omega
theorem sumE_getD {es : List Ent} {d : Num} (nd : (es.map (·.name)).Nodup) (dn : (d.map (·.1)).Nodup) (hk : ∀ q ∈ d, q.1 ∈ es.map (·.name)) : sumE es (getD d) = (d.map (·.2)).sum := by
  have h1 := sumE_amt nd (fun _ => 1) (l := d) hk
  have h2 : (d.map fun q => q.2 * 1) = d.map (·.2) := List.map_congr_left fun q _ => Int.mul_one _
  rw [h2] at h1
  rw [← h1]
  refine sumE_congr fun e _ => ?_
  rw [getD_amt dn, Int.mul_one]
theorem sumE_addAll {es : List Ent} (nd : (es.map (·.name)).Nodup) {l : List Str} (hl : ∀ p ∈ l, p ∈ es.map (·.name)) (f : Str → Int) (c : Int) : sumE es (addAll f (l.map fun p => (p, c))) = sumE es f + l.length * c := by
  have h1 := sumE_amt nd (fun _ => 1) (l := l.map fun p => (p, c)) fun q hq => by
    obtain ⟨p, hp, rfl⟩ := List.mem_map.mp hq
    exact hl p hp
  have h2 : ((l.map fun p => (p, c)).map fun q => q.2 * 1).sum = l.length * c := by
    clear h1 hl
    induction l with
    | nil => show (0 : Int) = (0 : Nat) * c; omega
    | cons p l ih =>
      rw [List.map_cons, List.map_cons, List.sum_cons, ih, List.length_cons]
      show c * 1 + _ = _
      rw [show ((l.length + 1 : Nat) : Int) = (l.length : Int) + 1 from rfl, Int.add_mul]
      omega
  rw [h2] at h1
  rw [← h1, ← sumE_add]
  refine sumE_congr fun e _ => ?_
  rw [addAll_at, Int.mul_one]
theorem sumE_le {es : List Ent} {f : Str → Int} {c : Int} (h : ∀ e ∈ es, f e.name ≤ c) : sumE es f ≤ es.length * c := by
  induction es with
  | nil => show (0 : Int) ≤ (0 : Nat) * c; omega
  | cons e es ih =>
    rw [sumE_cons, List.length_cons, show ((es.length + 1 : Nat) : Int) = (es.length : Int) + 1 from rfl, Int.add_mul]
    have h1 := h e (List.mem_cons_self ..)
    have h2 := ih fun x hx => h x (List.mem_cons_of_mem _ hx)
    omega
theorem addAll_nonneg {f : Str → Int} (h : ∀ x, 0 ≤ f x) {c : Int} (hc : 0 ≤ c) (l : List Str) (x : Str) : 0 ≤ addAll f (l.map fun p => (p, c)) x := by
  rw [addAll_at]
  have h1 : 0 ≤ amt (l.map fun p => (p, c)) x := by
    induction l with
    | nil => exact Int.le_refl _
    | cons p l ih =>
      rw [List.map_cons, amt_cons]
      split <;> omega
  have := h x
  omega
theorem tot_le : ∀ {es : List Ent} {f : Str → Int}, Behind es → (es.map (·.name)).Nodup → (∀ e ∈ es, e.parts.length ≤ 6) → (∀ x, 0 ≤ f x) → 0 ≤ ((fs es f).map (·.2)).sum ∧ ((fs es f).map (·.2)).sum ≤ 7 ^ es.length * sumE es f
  | [], _, _, _, _, _ => ⟨Int.le_refl _, by show (0 : Int) ≤ 1 * 0; omega⟩
  | e :: es, f, b, nd, hp, h => by
    rw [List.map_cons, List.nodup_cons] at nd
    have fe := h e.name
    obtain ⟨i1, i2⟩ := tot_le b.2 nd.2 (fun x hx => hp x (List.mem_cons_of_mem _ hx)) (addAll_nonneg h fe e.parts)
    rw [sumE_addAll nd.2 (fun p q => (b.1 p q).1)] at i2
    have h0 : ((if e.parts = [] then [] else [(e.name, f e.name)] : Num).map (·.2)).sum ≤ f e.name ∧ 0 ≤ ((if e.parts = [] then [] else [(e.name, f e.name)] : Num).map (·.2)).sum := by
      split
      · exact ⟨fe, Int.le_refl _⟩
      · show f e.name + 0 ≤ _ ∧ 0 ≤ f e.name + 0
        omega
    have hs := sumE_nonneg (es := es) fun x _ => h x.name
    have hl := hp e (List.mem_cons_self ..)
    have hA : (1 : Int) ≤ 7 ^ es.length := by
      have := Nat.one_le_pow es.length 7 (by decide)
      have h7 : ((7 ^ es.length : Nat) : Int) = (7 : Int) ^ es.length := by rw [Int.natCast_pow]; rfl
      omega
    rw [fs, List.map_append, List.sum_append, sumE_cons, List.length_cons, Int.pow_succ]
    generalize (7 : Int) ^ es.length = A at i2 hA
    rw [Int.mul_add] at i2
    have k1 : (e.parts.length : Int) * f e.name ≤ 6 * f e.name := Int.mul_le_mul_of_nonneg_right (by omega) fe
    have k2 : A * ((e.parts.length : Int) * f e.name) ≤ A * (6 * f e.name) := Int.mul_le_mul_of_nonneg_left k1 (by omega)
    have k3 : A * (6 * f e.name) = 6 * (A * f e.name) := by rw [← Int.mul_assoc, Int.mul_comm A 6, Int.mul_assoc]
    have k4 : 1 * f e.name ≤ A * f e.name := Int.mul_le_mul_of_nonneg_right hA fe
    have k5 : 0 ≤ A * sumE es f := Int.mul_nonneg (by omega) hs
    have k6 : A * 7 * (f e.name + sumE es f) = 7 * (A * f e.name) + 7 * (A * sumE es f) := by
      rw [Int.mul_comm A 7, Int.mul_assoc, Int.mul_add, Int.mul_add]
    omega
theorem getD_le {d : Num} {c : Int} (h0 : 0 ≤ c) (h : ∀ q ∈ d, q.2 ≤ c) (x : Str) : getD d x ≤ c := by
  unfold getD get?
  cases q : d.find? fun q => decide (q.1 = x) with
  | none => exact h0
  | some z => exact h z (List.mem_of_find?_eq_some q)
/-- the value that f tells of a name -/
def strInt (f : Str → Int) (v : V) : Option V := match v with
  | .str y => some (.int (f y))
  | _ => none
theorem fm_vals {f : Str → Int} : ∀ {l : Num}, (∀ q ∈ l, f q.1 = q.2) → ((l.map (·.1)).map V.str).filterMap (strInt f) = (l.map (·.2)).map V.int
  | [], _ => rfl
  | q :: l, h => by
    rw [List.map_cons, List.map_cons, List.filterMap_cons]
    show V.int (f q.1) :: _ = V.int q.2 :: _
    rw [h q (List.mem_cons_self ..), fm_vals fun z hz => h z (List.mem_cons_of_mem _ hz)]
end Sk
namespace Sk
open PySem PySem.Spec PyProof.Rows L2
/-! the splits of everything, kind by kind -/
theorem fsS_other : ∀ {es : List Ent} {f : Str → Int} {x : Str}, Behind es → x ∉ es.map (·.name) → fsS es f x = f x
  | [], _, _, _, _ => rfl
  | e :: es, f, x, b, h => by
    rw [List.map_cons] at h
    show fsS es _ x = f x
    rw [fsS_other b.2 fun z => h (List.mem_cons_of_mem _ z), addAll_at, amt_zero]
    · omega
    · intro q hq
      obtain ⟨p, hp, rfl⟩ := List.mem_map.mp hq
      intro z
      exact h (List.mem_cons_of_mem _ (by rw [← z]; exact (b.1 p hp).1))
theorem fs_final : ∀ {es : List Ent} {f : Str → Int}, Behind es → (es.map (·.name)).Nodup → fs es f = (es.filter fun e => decide (e.parts ≠ [])).map fun e => (e.name, fsS es f e.name)
  | [], _, _, _ => rfl
  | e :: es, f, b, nd => by
    rw [List.map_cons, List.nodup_cons] at nd
    have h1 : fsS (e :: es) f e.name = f e.name := by
      show fsS es _ e.name = _
      rw [fsS_other b.2 nd.1, addAll_at, amt_zero]
      · omega
      · intro q hq
        obtain ⟨p, hp, rfl⟩ := List.mem_map.mp hq
        exact (b.1 p hp).2
    rw [fs, fs_final b.2 nd.2, List.filter_cons]
    by_cases c : e.parts = []
    · rw [if_pos c, if_neg (by rw [decide_eq_true_eq]; exact fun z => z c)]
      rfl
    · rw [if_neg c, if_pos (decide_eq_true c), List.map_cons, h1]
      rfl
end Sk
namespace Sk
open PySem PySem.Spec PyProof.Rows L2
theorem behind_of : ∀ {es : List Ent}, Ordered es → (es.map (·.name)).Nodup → (∀ e ∈ es, ∀ p ∈ e.parts, ∃ e' ∈ es, e'.name = p ∧ e'.w < e.w) → (∀ e ∈ es, ∀ e' ∈ es, e'.name = e.name → e' = e) → Behind es := by
  intro es
  suffices h : ∀ (l : List Ent) (m : List Ent), Ordered (m ++ l) → ((m ++ l).map (·.name)).Nodup → (∀ e ∈ l, ∀ p ∈ e.parts, ∃ e' ∈ m ++ l, e'.name = p ∧ e'.w < e.w) → Behind l from fun ho hn hp _ => h es [] ho hn hp
  intro l
  induction l with
  | nil => intro _ _ _ _; exact trivial
  | cons e l ih =>
    intro m ho hn hp
    refine ⟨fun p hpp => ?_, ih (m ++ [e]) (by rw [List.append_assoc]; exact ho) (by rw [List.append_assoc]; exact hn) fun e2 he2 p hpp => ?_⟩
    · obtain ⟨e', he', rfl, hw⟩ := hp e (List.mem_cons_self ..) p hpp
      have ne : e' ≠ e := fun z => by rw [z] at hw; omega
      have hl : e' ∈ l := by
        rcases List.mem_append.mp he' with z | z
        · have h1 : kLt e.key e'.key = false := (List.pairwise_append.mp ho).2.2 e' z e (List.mem_cons_self ..)
          rcases kLt_no.mp h1 with h2 | ⟨h2, _⟩
          · have h3 : (0 : Int) - e'.w < 0 - e.w := h2
            omega
          · have h3 : (0 : Int) - e.w = 0 - e'.w := h2
            omega
        · exact (List.mem_cons.mp z).resolve_left ne
      refine ⟨List.mem_map.mpr ⟨e', hl, rfl⟩, fun z => ?_⟩
      rw [List.map_append, List.map_cons] at hn
      have h1 := (List.nodup_append.mp hn).2.1
      rw [List.nodup_cons] at h1
      exact h1.1 (List.mem_map.mpr ⟨e', hl, z⟩)
    · obtain ⟨e', he', h1, h2⟩ := hp e2 (List.mem_cons_of_mem _ he2) p hpp
      exact ⟨e', by rw [List.append_assoc]; exact he', h1, h2⟩
theorem Valid.behind {es : List Ent} (v : Valid es) (o : Ordered es) : Behind es := behind_of o v.nodup v.lighter fun e he e' he' z => by
  obtain ⟨i, hi⟩ := List.mem_iff_getElem?.mp he
  obtain ⟨j, hj⟩ := List.mem_iff_getElem?.mp he'
  have ij : j = i := nodup_ix v.nodup (x := e.name) (by rw [List.getElem?_map, hj, ← z]; rfl) (by rw [List.getElem?_map, hi]; rfl)
  rw [ij, hi] at hj
  exact (Option.some.inj hj).symm
theorem getD_pos {d : Num} (h : ∀ q ∈ d, 0 ≤ q.2) (x : Str) : 0 ≤ getD d x := by
  unfold getD get?
  cases q : d.find? fun q => decide (q.1 = x) with
  | none => exact Int.le_refl _
  | some z => exact h z (List.mem_of_find?_eq_some q)
end Sk
namespace Sk
open PySem PySem.Spec PyProof.Rows L2
theorem amt_times (l : List Str) (c : Int) (x : Str) : amt (l.map fun p => (p, c)) x = c * amt (ones l) x := by
  induction l with
  | nil =>
    show (0 : Int) = c * 0
    omega
  | cons p l ih =>
    unfold ones at ih ⊢
    rw [List.map_cons, List.map_cons, amt_cons, amt_cons, ih, Int.mul_add]
    show (if p = x then c else 0) + _ = c * (if p = x then 1 else 0) + _
    split <;> omega
theorem incs_cons (e : Ent) (es : List Ent) (f : Str → Int) : incs (e :: es) f = (e.parts.map fun p => (p, f e.name)) ++ incs es f := by
  unfold incs
  rw [List.flatMap_cons]
theorem incs_congr {es : List Ent} {f g : Str → Int} (h : ∀ e ∈ es, f e.name = g e.name) : incs es f = incs es g := by
  induction es with
  | nil => rfl
  | cons e es ih => rw [incs_cons, incs_cons, h e (List.mem_cons_self ..), ih fun x hx => h x (List.mem_cons_of_mem _ hx)]
theorem amt_pos {l : Num} (h : ∀ q ∈ l, 0 ≤ q.2) (x : Str) : 0 ≤ amt l x := by
  induction l with
  | nil => exact Int.le_refl _
  | cons q l ih =>
    rw [amt_cons]
    have h1 := h q (List.mem_cons_self ..)
    have h2 := ih fun z hz => h z (List.mem_cons_of_mem _ hz)
    split <;> omega
theorem incs_pos {es : List Ent} {f : Str → Int} (h : ∀ x, 0 ≤ f x) (x : Str) : 0 ≤ amt (incs es f) x := amt_pos (fun q hq => by
  unfold incs at hq
  obtain ⟨e, _, h2⟩ := List.mem_flatMap.mp hq
  obtain ⟨p, _, rfl⟩ := List.mem_map.mp h2
  exact h _) x
theorem getD_cons (q : Str × Int) (d : Num) (x : Str) : getD (q :: d) x = if q.1 = x then q.2 else getD d x := by
  unfold getD
  rw [get?_cons]
  split <;> rfl
theorem greedy_zero : ∀ {l : Num} {n : Int}, (∀ q ∈ l, 0 ≤ q.2) → n ≤ 0 → 0 ≤ n → ∀ x, getD (greedy l n) x = 0
  | [], _, _, _, _, _ => rfl
  | q :: l, n, h, h1, h0, x => by
    have hq := h q (List.mem_cons_self ..)
    show getD ((q.1, _) :: greedy l _) x = 0
    rw [getD_cons]
    have e : (if q.2 < n then q.2 else n) = 0 := by split <;> omega
    rw [e, greedy_zero (fun z hz => h z (List.mem_cons_of_mem _ hz)) (by omega) (by omega)]
    split <;> rfl
/-- the balanced splits are valid: of each kind there are as many pieces -/
theorem greedy_fits : ∀ {es : List Ent} {f : Str → Int} {n : Int}, Behind es → (es.map (·.name)).Nodup → (∀ x, 0 ≤ f x) → 0 ≤ n → ∀ e ∈ es, getD (greedy (fs es f) n) e.name ≤ f e.name + amt (incs es (getD (greedy (fs es f) n))) e.name
  | [], _, _, _, _, _, _, _, h => by cases h
  | a :: es, f, n, b, nd, hf, hn, e, he => by
    rw [List.map_cons, List.nodup_cons] at nd
    have fa := hf a.name
    have hf2 : ∀ x, 0 ≤ addAll f (a.parts.map fun p => (p, f a.name)) x := addAll_nonneg hf fa a.parts
    have fsn := fs_nonneg b.2 nd.2 hf2
    by_cases c : a.parts = []
    · have e1 : fs (a :: es) f = fs es f := by
        rw [fs, if_pos c, c]
        rfl
      rw [e1, incs_cons, c]
      show _ ≤ _ + amt (incs es _) _
      rcases List.mem_cons.mp he with rfl | he
      · rw [getD_none fun hm => nd.1 (fs_names es f _ (by rw [← greedy_names (fs es f) n]; exact hm))]
        have := incs_pos (es := es) (f := getD (greedy (fs es f) n)) (fun x => getD_pos (fun q hq => (greedy_mem (fs_nonneg b.2 nd.2 hf) hn q hq).1) x) e.name
        have := hf e.name
        omega
      · exact greedy_fits b.2 nd.2 hf hn e he
    · have e1 : fs (a :: es) f = (a.name, f a.name) :: fs es (addAll f (a.parts.map fun p => (p, f a.name))) := by
        rw [fs, if_neg c]
        rfl
      have pos : ∀ x, 0 ≤ getD (greedy (fs (a :: es) f) n) x := fun x => getD_pos (fun q hq => (greedy_mem (by
        rw [e1]
        intro q hq
        rcases List.mem_cons.mp hq with rfl | hq
        · exact fa
        · exact fsn q hq) hn q hq).1) x
      have ipos := incs_pos (es := a :: es) pos e.name
      rw [e1] at ipos ⊢
      have e2 : greedy ((a.name, f a.name) :: fs es (addAll f (a.parts.map fun p => (p, f a.name)))) n = (a.name, if f a.name < n then f a.name else n) :: greedy (fs es (addAll f (a.parts.map fun p => (p, f a.name)))) (n - if f a.name < n then f a.name else n) := rfl
      rw [e2] at ipos ⊢
      rcases List.mem_cons.mp he with rfl | he
      · rw [getD_cons, if_pos rfl]
        have hfe : (if f e.name < n then f e.name else n) ≤ f e.name := by split <;> omega
        omega
      · have ne : a.name ≠ e.name := fun z => nd.1 (List.mem_map.mpr ⟨e, he, z.symm⟩)
        by_cases c2 : f a.name < n
        · rw [if_pos c2] at ipos ⊢
          have ih := greedy_fits b.2 nd.2 hf2 (n := n - f a.name) (by omega) e he
          generalize greedy (fs es (addAll f (a.parts.map fun p => (p, f a.name)))) (n - f a.name) = g at ih ipos ⊢
          have e3 : incs es (getD ((a.name, f a.name) :: g)) = incs es (getD g) := incs_congr fun x hx => by
            rw [getD_cons, if_neg fun z => nd.1 (List.mem_map.mpr ⟨x, hx, z.symm⟩)]
          rw [getD_cons, if_neg ne, incs_cons, amt_append, e3, getD_cons, if_pos rfl]
          rw [addAll_at] at ih
          show getD g e.name ≤ f e.name + (amt (a.parts.map fun p => (p, f a.name)) e.name + amt (incs es (getD g)) e.name)
          omega
        · rw [if_neg c2] at ipos ⊢
          rw [getD_cons, if_neg ne, greedy_zero fsn (by omega) (by omega)]
          have := hf e.name
          omega
end Sk
namespace Sk
open PySem PySem.Spec PyProof.Rows L2
/-- the whole pieces when b are split -/
def wholeF (es : List Ent) (f b : Str → Int) (x : Str) : Int := f x + amt (incs es b) x - b x
theorem find_congr {α : Type} {p q : α → Bool} : ∀ {l : List α}, (∀ x ∈ l, p x = q x) → l.find? p = l.find? q
  | [], _ => rfl
  | a :: l, h => by
    rw [List.find?_cons, List.find?_cons, h a (List.mem_cons_self ..), find_congr fun x hx => h x (List.mem_cons_of_mem _ hx)]
theorem incs_self {a : Ent} {es : List Ent} (b : Behind (a :: es)) (nd : a.name ∉ es.map (·.name)) (f : Str → Int) : amt (incs (a :: es) f) a.name = 0 := amt_zero fun q hq => by
  unfold incs at hq
  obtain ⟨e, he, h2⟩ := List.mem_flatMap.mp hq
  obtain ⟨p, hp, rfl⟩ := List.mem_map.mp h2
  rcases List.mem_cons.mp he with rfl | he
  · exact (b.1 p hp).2
  · exact fun z => nd (z ▸ (Behind.at b.2 he p hp).1)
def splitB (es : List Ent) (f b : Str → Int) (e : Ent) : Bool := decide (e.parts ≠ []) && decide (0 < wholeF es f b e.name)
/-- seen from the first kind on: the rest, with what its splits make -/
theorem whole_tail {a : Ent} {es : List Ent} {f b b' : Str → Int} (h : ∀ e ∈ es, b e.name = b' e.name) (x : Str) (hx : b x = b' x) : wholeF (a :: es) f b x = wholeF es (addAll f (a.parts.map fun p => (p, b a.name))) b' x := by
  unfold wholeF
  rw [incs_cons, amt_append, incs_congr h, addAll_at, hx]
  omega
/-- one split more: of the first kind with parts that has whole pieces -/
theorem greedy_step : ∀ {es : List Ent} {f : Str → Int} {n : Int}, Behind es → (es.map (·.name)).Nodup → (∀ x, 0 ≤ f x) → 0 ≤ n → n < ((fs es f).map (·.2)).sum →
    ∃ e, es.find? (splitB es f (getD (greedy (fs es f) n))) = some e ∧ ∀ x, getD (greedy (fs es f) (n + 1)) x = getD (greedy (fs es f) n) x + if x = e.name then 1 else 0
  | [], _, n, _, _, _, h0, h1 => by
    have : n < 0 := h1
    omega
  | a :: es, f, n, b, nd, hf, hn, hs => by
    rw [List.map_cons, List.nodup_cons] at nd
    have fa := hf a.name
    have hf2 : ∀ x, 0 ≤ addAll f (a.parts.map fun p => (p, f a.name)) x := addAll_nonneg hf fa a.parts
    have fsn := fs_nonneg b.2 nd.2 hf2
    have self := incs_self b nd.1
    by_cases c : a.parts = []
    · have e1 : fs (a :: es) f = fs es f := by
        rw [fs, if_pos c, c]
        rfl
      rw [e1] at hs ⊢
      obtain ⟨e, h1, h2⟩ := greedy_step b.2 nd.2 hf hn hs
      refine ⟨e, ?_, h2⟩
      rw [List.find?_cons]
      have h3 : splitB (a :: es) f (getD (greedy (fs es f) n)) a = false := by
        unfold splitB
        rw [decide_eq_false (fun z => z c)]
        rfl
      rw [h3, ← h1]
      refine find_congr fun x hx => ?_
      unfold splitB
      rw [whole_tail (fun _ _ => rfl) x.name rfl, c]
      rfl
    · have e1 : fs (a :: es) f = (a.name, f a.name) :: fs es (addAll f (a.parts.map fun p => (p, f a.name))) := by
        rw [fs, if_neg c]
        rfl
      rw [e1] at hs ⊢
      rw [List.map_cons, List.sum_cons] at hs
      have e2 : ∀ m, greedy ((a.name, f a.name) :: fs es (addAll f (a.parts.map fun p => (p, f a.name)))) m = (a.name, if f a.name < m then f a.name else m) :: greedy (fs es (addAll f (a.parts.map fun p => (p, f a.name)))) (m - if f a.name < m then f a.name else m) := fun _ => rfl
      rw [e2, e2]
      by_cases d : n < f a.name
      · have q1 : (if f a.name < n then f a.name else n) = n := by split <;> omega
        have q2 : (if f a.name < n + 1 then f a.name else n + 1) = n + 1 := by split <;> omega
        rw [q1, q2]
        refine ⟨a, ?_, fun x => ?_⟩
        · rw [List.find?_cons]
          have h3 : splitB (a :: es) f (getD ((a.name, n) :: greedy (fs es (addAll f (a.parts.map fun p => (p, f a.name)))) (n - n))) a = true := by
            unfold splitB wholeF
            rw [decide_eq_true c, self, getD_cons, if_pos rfl]
            show decide _ = true
            rw [decide_eq_true_eq]
            omega
          rw [h3]
        · rw [getD_cons, getD_cons, greedy_zero fsn (by omega) (by omega), greedy_zero fsn (by omega) (by omega)]
          by_cases z : a.name = x
          · rw [if_pos z, if_pos z, if_pos z.symm]
          · rw [if_neg z, if_neg z, if_neg fun w => z w.symm]
            rfl
      · have q1 : (if f a.name < n then f a.name else n) = f a.name := by split <;> omega
        have q2 : (if f a.name < n + 1 then f a.name else n + 1) = f a.name := by split <;> omega
        rw [q1, q2]
        obtain ⟨e, h1, h2⟩ := greedy_step (n := n - f a.name) b.2 nd.2 hf2 (by omega) (by omega)
        have ee : n + 1 - f a.name = n - f a.name + 1 := by omega
        rw [ee]
        have hem : e ∈ es := List.mem_of_find?_eq_some h1
        refine ⟨e, ?_, fun x => ?_⟩
        · rw [List.find?_cons]
          have h3 : splitB (a :: es) f (getD ((a.name, f a.name) :: greedy (fs es (addAll f (a.parts.map fun p => (p, f a.name)))) (n - f a.name))) a = false := by
            unfold splitB wholeF
            rw [self, getD_cons, if_pos rfl, Bool.and_eq_false_iff]
            exact .inr (decide_eq_false (by omega))
          rw [h3, ← h1]
          refine find_congr fun x hx => ?_
          have ne : ∀ y ∈ es, a.name ≠ y.name := fun y hy z => nd.1 (List.mem_map.mpr ⟨y, hy, z.symm⟩)
          unfold splitB
          rw [whole_tail (b' := getD (greedy (fs es (addAll f (a.parts.map fun p => (p, f a.name)))) (n - f a.name))) (fun y hy => by rw [getD_cons, if_neg (ne y hy)]) x.name (by rw [getD_cons, if_neg (ne x hx)]), getD_cons, if_pos rfl]
        · rw [getD_cons, getD_cons, h2]
          by_cases z : a.name = x
          · rw [if_pos z, if_pos z, if_neg]
            · omega
            · intro w
              exact nd.1 (List.mem_map.mpr ⟨e, hem, by rw [← w, z]⟩)
          · rw [if_neg z, if_neg z]
/-- when all is split, no kind with parts has whole pieces -/
theorem greedy_done : ∀ {es : List Ent} {f : Str → Int} {n : Int}, Behind es → (es.map (·.name)).Nodup → (∀ x, 0 ≤ f x) → n = ((fs es f).map (·.2)).sum → es.find? (splitB es f (getD (greedy (fs es f) n))) = none
  | [], _, _, _, _, _, _ => rfl
  | a :: es, f, n, b, nd, hf, hs => by
    rw [List.map_cons, List.nodup_cons] at nd
    have fa := hf a.name
    have hf2 : ∀ x, 0 ≤ addAll f (a.parts.map fun p => (p, f a.name)) x := addAll_nonneg hf fa a.parts
    have fsn := fs_nonneg b.2 nd.2 hf2
    have self := incs_self b nd.1
    by_cases c : a.parts = []
    · have e1 : fs (a :: es) f = fs es f := by
        rw [fs, if_pos c, c]
        rfl
      rw [e1] at hs ⊢
      have h1 := greedy_done b.2 nd.2 hf hs
      rw [List.find?_cons]
      have h3 : splitB (a :: es) f (getD (greedy (fs es f) n)) a = false := by
        unfold splitB
        rw [decide_eq_false (fun z => z c)]
        rfl
      rw [h3, ← h1]
      refine find_congr fun x hx => ?_
      unfold splitB
      rw [whole_tail (fun _ _ => rfl) x.name rfl, c]
      rfl
    · have e1 : fs (a :: es) f = (a.name, f a.name) :: fs es (addAll f (a.parts.map fun p => (p, f a.name))) := by
        rw [fs, if_neg c]
        rfl
      rw [e1] at hs ⊢
      rw [List.map_cons, List.sum_cons] at hs
      have hs0 : 0 ≤ ((fs es (addAll f (a.parts.map fun p => (p, f a.name)))).map (·.2)).sum := by
        clear hs e1
        generalize fs es (addAll f (a.parts.map fun p => (p, f a.name))) = l at fsn
        induction l with
        | nil => exact Int.le_refl _
        | cons q l ih =>
          rw [List.map_cons, List.sum_cons]
          have := fsn q (List.mem_cons_self ..)
          have := ih fun y hy => fsn y (List.mem_cons_of_mem _ hy)
          omega
      have e2 : greedy ((a.name, f a.name) :: fs es (addAll f (a.parts.map fun p => (p, f a.name)))) n = (a.name, if f a.name < n then f a.name else n) :: greedy (fs es (addAll f (a.parts.map fun p => (p, f a.name)))) (n - if f a.name < n then f a.name else n) := rfl
      rw [e2]
      have q1 : (if f a.name < n then f a.name else n) = f a.name := by
        have : f a.name ≤ n := by omega
        split <;> omega
      rw [q1]
      have h1 := greedy_done (n := n - f a.name) b.2 nd.2 hf2 (by omega)
      rw [List.find?_cons]
      have h3 : splitB (a :: es) f (getD ((a.name, f a.name) :: greedy (fs es (addAll f (a.parts.map fun p => (p, f a.name)))) (n - f a.name))) a = false := by
        unfold splitB wholeF
        rw [self, getD_cons, if_pos rfl, Bool.and_eq_false_iff]
        exact .inr (decide_eq_false (by omega))
      rw [h3, ← h1]
      refine find_congr fun x hx => ?_
      have ne : ∀ y ∈ es, a.name ≠ y.name := fun y hy z => nd.1 (List.mem_map.mpr ⟨y, hy, z.symm⟩)
      unfold splitB
      rw [whole_tail (b' := getD (greedy (fs es (addAll f (a.parts.map fun p => (p, f a.name)))) (n - f a.name))) (fun y hy => by rw [getD_cons, if_neg (ne y hy)]) x.name (by rw [getD_cons, if_neg (ne x hx)]), getD_cons, if_pos rfl]
end Sk
namespace Sk
open PySem PySem.Spec PyProof.Rows L2
theorem ones_le (l : List Str) (x : Str) : 0 ≤ amt (ones l) x ∧ amt (ones l) x ≤ l.length := by
  induction l with
  | nil => exact ⟨Int.le_refl _, Int.le_refl _⟩
  | cons p l ih =>
    unfold ones at ih ⊢
    rw [List.map_cons, amt_cons, List.length_cons]
    show 0 ≤ (if p = x then (1 : Int) else 0) + _ ∧ (if p = x then (1 : Int) else 0) + _ ≤ _
    split <;> omega
theorem amt_incs' (es : List Ent) (f : Str → Int) (x : Str) : amt (incs es f) x = (es.map fun e => f e.name * amt (ones e.parts) x).sum := by
  have one : ∀ (l : List Str) (c : Int), amt (l.map fun p => (p, c)) x = c * amt (ones l) x := by
    intro l c
    induction l with
    | nil =>
      show (0 : Int) = c * 0
      omega
    | cons p l ih =>
      unfold ones at ih ⊢
      rw [List.map_cons, List.map_cons, amt_cons, amt_cons, ih, Int.mul_add]
      show (if p = x then c else 0) + _ = c * (if p = x then 1 else 0) + _
      split <;> omega
  induction es with
  | nil => rfl
  | cons e es ih =>
    unfold incs at ih ⊢
    rw [List.flatMap_cons, amt_append, ih, List.map_cons, List.sum_cons, one]
theorem getD_nonneg {d : Num} (h : ∀ q ∈ d, 0 ≤ q.2) (x : Str) : 0 ≤ getD d x := by
  unfold getD
  cases q : get? d x with
  | none => exact Int.le_refl _
  | some i =>
    have : (x, i) ∈ d := by
      unfold get? at q
      cases f : d.find? fun q => decide (q.1 = x) with
      | none => rw [f] at q; cases q
      | some z =>
        rw [f] at q
        have h1 : z.1 = x := by
          have := List.find?_some f
          simpa using this
        have h2 := List.mem_of_find?_eq_some f
        have h3 : z.2 = i := Option.some.inj q
        rw [← h1, ← h3]
        exact h2
    exact h _ this
theorem sumE_add' (f g : Ent → Int) (es : List Ent) : (es.map fun e => f e + g e).sum = (es.map f).sum + (es.map g).sum := by
  induction es with
  | nil => rfl
  | cons e es ih =>
    rw [List.map_cons, List.map_cons, List.map_cons, List.sum_cons, List.sum_cons, List.sum_cons, ih]
    omega
theorem sumE_le' {f g : Ent → Int} : ∀ {es : List Ent}, (∀ e ∈ es, f e ≤ g e) → (es.map f).sum ≤ (es.map g).sum
  | [], _ => Int.le_refl _
  | e :: es, h => by
    rw [List.map_cons, List.map_cons, List.sum_cons, List.sum_cons]
    have h1 := h e (List.mem_cons_self ..)
    have h2 := sumE_le' fun z hz => h z (List.mem_cons_of_mem _ hz)
    omega
theorem sum_ind {x : Str} {v : Int} (hv : 0 ≤ v) : ∀ {es : List Ent}, (es.map (·.name)).Nodup → (es.map fun e => if x = e.name then v else 0).sum ≤ v ∧ (x ∉ es.map (·.name) → (es.map fun e => if x = e.name then v else 0).sum = 0)
  | [], _ => ⟨hv, fun _ => rfl⟩
  | e :: es, nd => by
    rw [List.map_cons, List.nodup_cons] at nd
    obtain ⟨h1, h2⟩ := sum_ind hv nd.2
    rw [List.map_cons, List.sum_cons, List.map_cons]
    constructor
    · by_cases c : x = e.name
      · rw [if_pos c, h2 (by rw [c]; exact nd.1)]
        omega
      · rw [if_neg c]
        omega
    · intro hx
      rw [if_neg fun c => hx (by rw [c]; exact List.mem_cons_self ..), h2 fun z => hx (List.mem_cons_of_mem _ z)]
      rfl
theorem getD_cons' {q : Str × Int} {c : Num} (h : q.1 ∉ c.map (·.1)) (x : Str) : getD (q :: c) x = (if q.1 = x then q.2 else 0) + getD c x := by
  unfold getD
  rw [get?_cons]
  by_cases e : q.1 = x
  · rw [if_pos e, if_pos e, get?_none (by rw [← e]; exact h)]
    show q.2 = q.2 + 0
    omega
  · rw [if_neg e, if_neg e]
    omega
theorem sum_getD : ∀ {c : Num}, (c.map (·.1)).Nodup → (∀ q ∈ c, 0 ≤ q.2) → ∀ {es : List Ent}, (es.map (·.name)).Nodup → (es.map fun e => getD c e.name).sum ≤ (c.map (·.2)).sum
  | [], _, _, es, _ => by
    show (es.map fun _ => (0 : Int)).sum ≤ 0
    induction es with
    | nil => exact Int.le_refl _
    | cons e es ih =>
      rw [List.map_cons, List.sum_cons]
      have := ih (by
        rename_i h
        exact (List.nodup_cons.mp h).2)
      omega
  | q :: c, nc, pc, es, nd => by
    rw [List.map_cons, List.nodup_cons] at nc
    have h1 := sum_getD nc.2 (fun z hz => pc z (List.mem_cons_of_mem _ hz)) nd
    have h2 := (sum_ind (x := q.1) (pc q (List.mem_cons_self ..)) nd).1
    have e : (es.map fun e => getD (q :: c) e.name).sum = (es.map fun e => (if q.1 = e.name then q.2 else 0) + getD c e.name).sum := by
      congr 1
      exact List.map_congr_left fun z _ => getD_cons' nc.1 z.name
    rw [e, sumE_add', List.map_cons, List.sum_cons]
    omega
theorem getD_app {c : Num} {x : Str} {v : Int} (h : x ∉ c.map (·.1)) (y : Str) : getD (c ++ [(x, v)]) y = if y = x then v else getD c y := by
  rw [← put_new' h, getD_put]
theorem pn_mono {es : List Ent} {st c c' : Num} (h : ∀ y, getD c y ≤ getD c' y) (x : Str) : pn es st c x ≤ pn es st c' x := by
  rw [pn_at, pn_at, amt_incs', amt_incs']
  have := sumE_le' (es := es) (f := fun e => getD c e.name * amt (ones e.parts) x) (g := fun e => getD c' e.name * amt (ones e.parts) x) fun e _ => Int.mul_le_mul_of_nonneg_right (h e.name) (ones_le e.parts x).1
  omega
theorem pn_nonneg' {es : List Ent} {st c : Num} (hs : ∀ q ∈ st, 0 ≤ q.2) (hc : ∀ q ∈ c, 0 ≤ q.2) (x : Str) : 0 ≤ pn es st c x := by
  rw [pn_at, amt_incs']
  have h1 := getD_nonneg hs x
  have h2 := sumE_le' (es := es) (f := fun _ => 0) (g := fun e => getD c e.name * amt (ones e.parts) x) fun e _ => Int.mul_nonneg (getD_nonneg hc _) (ones_le e.parts x).1
  have h3 : (es.map fun _ => (0 : Int)).sum = 0 := by
    clear h2
    induction es with
    | nil => rfl
    | cons e es ih =>
      rw [List.map_cons, List.sum_cons, ih]
      rfl
  omega
theorem getD_perm {c c' : Num} (p : c'.Perm c) (nd : (c.map (·.1)).Nodup) : getD c' = getD c := by
  funext x
  have nd' : (c'.map (·.1)).Nodup := (p.map _).nodup_iff.mpr nd
  by_cases h : x ∈ c.map (·.1)
  · obtain ⟨q, hq, rfl⟩ := List.mem_map.mp h
    rw [getD_mem nd hq, getD_mem nd' (p.mem_iff.mpr hq)]
  · rw [getD_none h, getD_none fun z => h ((p.map _).mem_iff.mp z)]
theorem pn_congr {es : List Ent} {st st' c c' : Num} (h : getD st' = getD st) (h2 : getD c' = getD c) : pn es st' c' = pn es st c := by
  unfold pn
  rw [h, h2]
theorem SplitsOk.perm {es : List Ent} {st c c' : Num} (p : c'.Perm c) (h : SplitsOk es st c) : SplitsOk es st c' := by
  refine ⟨(p.map _).nodup_iff.mpr h.nd, by rw [p.length_eq]; exact h.few, fun q hq => h.known q (p.mem_iff.mp hq), fun e he => ?_⟩
  rw [pn_congr rfl (getD_perm p h.nd), getD_perm p h.nd]
  exact h.fits e he
/-- the splits made so far -/
structure CutsAt (es es' : List Ent) (st : Num) (i : Nat) (c : Num) : Prop where
  nd : (c.map (·.1)).Nodup
  len : c.length ≤ i
  known : ∀ q ∈ c, q.1 ∈ (es'.take i).map (·.name)
  fits : ∀ e ∈ es, 0 ≤ getD c e.name ∧ getD c e.name ≤ if e.parts = [] then 0 else pn es st c e.name
  pos : ∀ q ∈ c, 0 ≤ q.2
  big : 6 * (c.map (·.2)).sum + 10 ^ 30 ≤ 10 ^ 30 * 7 ^ i
theorem pow7 (i : Nat) : (0 : Int) < 7 ^ i := Int.pow_pos (by decide)
theorem CutsAt.num {es es' : List Ent} {st c : Num} {i : Nat} (h : CutsAt es es' st i c) (nd : (es.map (·.name)).Nodup) (hp : ∀ e ∈ es, e.parts.length ≤ 6) (sm : ∀ q ∈ st, q.2 ≤ 10 ^ 30) (ss : (st.map (·.1)).Nodup) (x : Str) : pn es st c x ≤ 6 * (c.map (·.2)).sum + 10 ^ 30 := by
  rw [pn_at, amt_incs']
  have h1 : getD st x ≤ 10 ^ 30 := by
    by_cases hx : x ∈ st.map (·.1)
    · obtain ⟨q, hq, rfl⟩ := List.mem_map.mp hx
      rw [getD_mem ss hq]
      exact sm q hq
    · rw [getD_none hx]
      decide
  have h2 := sum_getD h.nd h.pos nd
  have h3 := sumE_le' (es := es) (f := fun e => getD c e.name * amt (ones e.parts) x) (g := fun e => getD c e.name * 6) fun e he => by
    have a1 := ones_le e.parts x
    have a2 := hp e he
    exact Int.mul_le_mul_of_nonneg_left (by omega) (getD_nonneg h.pos _)
  have h4 : (es.map fun e => getD c e.name * 6).sum = 6 * (es.map fun e => getD c e.name).sum := by
    clear h3 h2 nd hp h
    induction es with
    | nil => rfl
    | cons e es ih =>
      rw [List.map_cons, List.sum_cons, ih, List.map_cons, List.sum_cons]
      omega
  omega
theorem CutsAt.keep {es es' : List Ent} {st c : Num} {i : Nat} (h : CutsAt es es' st i c) {e : Ent} (he : es'[i]? = some e) : CutsAt es es' st (i + 1) c := by
  refine ⟨h.nd, Nat.le_succ_of_le h.len, fun q hq => ?_, h.fits, h.pos, ?_⟩
  · rw [take_snoc he, List.map_append]
    exact List.mem_append_left _ (h.known q hq)
  · have h1 := h.big
    have h2 := pow7 i
    rw [Int.pow_succ]
    omega
theorem CutsAt.step {es es' : List Ent} {st c : Num} {i : Nat} (h : CutsAt es es' st i c) {e : Ent} (he : es'[i]? = some e) (hp : es'.Perm es) (v : Valid es) (hq : ∀ e ∈ es, e.parts.length ≤ 6) (sm : ∀ q ∈ st, q.2 ≤ 10 ^ 30) (ss : (st.map (·.1)).Nodup) {z : Int} (z0 : 0 ≤ z) (z1 : z ≤ if e.parts = [] then 0 else pn es st c e.name) :
    e.name ∉ c.map (·.1) ∧ CutsAt es es' st (i + 1) (c ++ [(e.name, z)]) := by
  have hnd' : (es'.map (·.name)).Nodup := (hp.map _).nodup_iff.mpr v.nodup
  have nn : e.name ∉ c.map (·.1) := fun hm => by
    obtain ⟨q, hq, z⟩ := List.mem_map.mp hm
    exact take_notin hnd' he (z ▸ h.known q hq)
  have up : ∀ y, getD c y ≤ getD (c ++ [(e.name, z)]) y := fun y => by
    rw [getD_app nn]
    split
    · rename_i q
      rw [q, getD_none nn]
      exact z0
    · exact Int.le_refl _
  have hem : e ∈ es := hp.mem_iff.mp (List.mem_of_getElem? he)
  refine ⟨nn, ⟨?_, ?_, fun q hq => ?_, fun x hx => ?_, fun q hq => ?_, ?_⟩⟩
  · rw [List.map_append]
    refine List.nodup_append.mpr ⟨h.nd, by simp, fun x hx y hy => ?_⟩
    rw [List.mem_singleton.mp hy]
    intro q
    have q2 : x = e.name := q
    rw [q2] at hx
    exact nn hx
  · rw [List.length_append, List.length_singleton]
    have := h.len
    omega
  · rw [take_snoc he, List.map_append]
    rcases List.mem_append.mp hq with hq | hq
    · exact List.mem_append_left _ (h.known q hq)
    · rw [List.mem_singleton.mp hq]
      exact List.mem_append_right _ (List.mem_singleton.mpr rfl)
  · obtain ⟨f1, f2⟩ := h.fits x hx
    have hm := pn_mono (es := es) (st := st) up x.name
    rw [getD_app nn]
    by_cases q : x.name = e.name
    · have xe : x = e := by
        obtain ⟨j, hj⟩ := List.mem_iff_getElem?.mp hx
        obtain ⟨l, hl⟩ := List.mem_iff_getElem?.mp hem
        have ij : j = l := nodup_ix v.nodup (x := e.name) (by rw [List.getElem?_map, hj, ← q]; rfl) (by rw [List.getElem?_map, hl]; rfl)
        rw [ij, hl] at hj
        cases hj
        rfl
      subst xe
      rw [if_pos rfl]
      refine ⟨z0, ?_⟩
      split at z1
      · rename_i w
        rw [if_pos w]
        exact z1
      · rename_i w
        rw [if_neg w]
        omega
    · rw [if_neg q]
      refine ⟨f1, ?_⟩
      split at f2
      · rename_i w
        rw [if_pos w]
        exact f2
      · rename_i w
        rw [if_neg w]
        omega
  · rcases List.mem_append.mp hq with hq | hq
    · exact h.pos q hq
    · rw [List.mem_singleton.mp hq]
      exact z0
  · have h1 := h.big
    have h2 := h.num v.nodup hq sm ss e.name
    have h3 : z ≤ 6 * (c.map (·.2)).sum + 10 ^ 30 := by
      split at z1
      · have : 0 ≤ (c.map (·.2)).sum := by
          have key : ∀ l : Num, (∀ q ∈ l, q ∈ c) → 0 ≤ (l.map (·.2)).sum := by
            intro l
            induction l with
            | nil => intro _; exact Int.le_refl _
            | cons q l ih =>
              intro hl
              rw [List.map_cons, List.sum_cons]
              have a1 := h.pos q (hl q (List.mem_cons_self ..))
              have a2 := ih fun y hy => hl y (List.mem_cons_of_mem _ hy)
              omega
          exact key c fun _ h => h
        omega
      · omega
    rw [List.map_append, List.map_cons, List.map_nil, List.sum_append, List.sum_cons, List.sum_nil, Int.pow_succ]
    have h4 := pow7 i
    omega
theorem CutsAt.small {es es' : List Ent} {st c : Num} {i : Nat} (h : CutsAt es es' st i c) (hi : i ≤ 20) : ∀ q ∈ c, 0 ≤ q.2 ∧ q.2 < 2 ^ 190 := by
  have key : ∀ l : Num, (∀ q ∈ l, q ∈ c) → 0 ≤ (l.map (·.2)).sum ∧ ∀ q ∈ l, q.2 ≤ (l.map (·.2)).sum := by
    intro l
    induction l with
    | nil => intro _; exact ⟨Int.le_refl _, by simp⟩
    | cons q l ih =>
      intro hl
      obtain ⟨a1, a2⟩ := ih fun y hy => hl y (List.mem_cons_of_mem _ hy)
      have a3 := h.pos q (hl q (List.mem_cons_self ..))
      rw [List.map_cons, List.sum_cons]
      refine ⟨by omega, fun y hy => ?_⟩
      rcases List.mem_cons.mp hy with rfl | hy
      · omega
      · have := a2 y hy
        omega
  intro q hq
  obtain ⟨h1, h2⟩ := key c fun _ h => h
  have h3 := h2 q hq
  have h4 := h.big
  have b3 : (10 : Int) ^ 30 * 7 ^ i ≤ 10 ^ 30 * 7 ^ 20 := by
    have h5 : 7 ^ i ≤ 7 ^ 20 := Nat.pow_le_pow_right (by decide) hi
    exact Int.mul_le_mul_of_nonneg_left (by exact_mod_cast h5) (by decide)
  have b4 : (10 : Int) ^ 30 * 7 ^ 20 < 2 ^ 190 := by decide
  exact ⟨h.pos q hq, by omega⟩
end Sk
namespace Sk
open PySem PySem.Spec PyProof.Rows L2
/-- as many pieces as are split, and what the splits make -/
theorem balanced_ok {es es' : List Ent} {d : Num} {n : Int} (hv : Valid es) (hp : es'.Perm es) (ho : Ordered es') (so : StockOk es d) (hz : es.length < 64) (h0 : 0 ≤ n) : SplitsOk es d (greedy (fs es' (getD d)) n) := by
  have hv' := hv.perm hp
  have hbe := hv'.behind ho
  have d0 : ∀ x, 0 ≤ getD d x := fun x => getD_pos so.pos x
  have fsn := fs_nonneg hbe hv'.nodup d0
  refine ⟨by rw [greedy_names]; exact fs_nodup _ hv'.nodup, ?_, fun q hq => ?_, fun e he => ⟨getD_pos (fun q hq => (greedy_mem fsn h0 q hq).1) _, ?_⟩⟩
  · rw [greedy_len]
    have h1 := fs_len es' (getD d)
    have h2 := hp.length_eq
    omega
  · have h1 := fs_names es' (getD d) q.1 (by rw [← greedy_names (fs es' (getD d)) n]; exact List.mem_map.mpr ⟨q, hq, rfl⟩)
    exact (hp.map _).mem_iff.mp h1
  · have he' := hp.mem_iff.mpr he
    by_cases c : e.parts = []
    · rw [if_pos c, getD_none]
      · exact Int.le_refl _
      · intro hm
        rw [greedy_names, fs_final hbe hv'.nodup, List.map_map] at hm
        obtain ⟨x, hx, z⟩ := List.mem_map.mp hm
        obtain ⟨x1, x2⟩ := List.mem_filter.mp hx
        have xe : x = e := by
          obtain ⟨j, hj⟩ := List.mem_iff_getElem?.mp x1
          obtain ⟨l, hl⟩ := List.mem_iff_getElem?.mp he'
          have ij : j = l := nodup_ix hv'.nodup (x := e.name) (by rw [List.getElem?_map, hj]; exact congrArg some z) (by rw [List.getElem?_map, hl]; rfl)
          rw [ij, hl] at hj
          cases hj
          rfl
        rw [xe] at x2
        exact of_decide_eq_true x2 c
    · rw [if_neg c, ← pn_perm hp, pn_at]
      exact greedy_fits hbe hv'.nodup d0 h0 e he'
/-- valid splits are at most as many as all -/
theorem splits_le {es es' : List Ent} {d c : Num} (hv : Valid es) (hp : es'.Perm es) (ho : Ordered es') (so : StockOk es d) (ok : SplitsOk es d c) : (c.map (·.2)).sum ≤ ((fs es' (getD d)).map (·.2)).sum := by
  have hv' := hv.perm hp
  have hbe := hv'.behind ho
  obtain ⟨g, hg, g0⟩ := need_ex hbe hv'.nodup
  rw [total_need (getD d) g hbe hv'.nodup hg]
  have h1 := whole_need hv'.nodup (Behind.known hbe) hg d c fun e he hpe => by
    obtain ⟨f1, f2⟩ := ok.fits e (hp.mem_iff.mp he)
    rw [if_pos hpe] at f2
    omega
  have h2 : 0 ≤ sumE es' (fun x => (pn es' d c x - getD c x) * g x) := sumE_nonneg fun e he => by
    obtain ⟨f1, f2⟩ := ok.fits e (hp.mem_iff.mp he)
    refine Int.mul_nonneg ?_ (g0 e he)
    rw [pn_perm hp]
    have h3 : 0 ≤ pn es d c e.name := by
      rw [pn_at]
      have h4 := getD_pos so.pos e.name
      have h5 : 0 ≤ amt (incs es (getD c)) e.name := amt_pos (fun q hq => by
        unfold incs at hq
        obtain ⟨x, hx, h6⟩ := List.mem_flatMap.mp hq
        obtain ⟨p, _, rfl⟩ := List.mem_map.mp h6
        exact (ok.fits x hx).1) _
      omega
    split at f2 <;> omega
  rw [sumE_getD hv'.nodup ok.nd fun q hq => (hp.map _).mem_iff.mpr (ok.known q hq)] at h1
  omega
end Sk
namespace Sk
open PySem PySem.Spec PyProof.Rows L2
/-- the numbers that are not zero, in the entries' order -/
def cleanN (es : List Ent) (d : Num) : Num := (es.filter fun e => decide (getD d e.name ≠ 0)).map fun e => (e.name, getD d e.name)
def sp_clean (Tb : List (Addr × Str)) (K : PySem.W.Frag) : Sp := fun vs H Q _ => ∃ (a b : Addr) (xs : List V) (es : List Ent) (d : Num), vs = [.ref a, .ref b] ∧ SqL K H a xs ∧ CatAt H xs es ∧ H b = some (.dK (dS d)) ∧ (es.map (·.name)).Nodup ∧ es.length ≤ 100000 ∧
  ∀ r H', Gr Tb H H' → Nw H r → H' r = some (.dK (dS (cleanN es d))) → Q (.ref r) H'
def cleanO (H : Hp) (d : Num) (v : V) : Option (Str × Int) := match itemAt H 0 v with
  | some (.str n) => if getD d n ≠ 0 then some (n, getD d n) else none
  | _ => none
theorem cleanO_at {H : Hp} {d : Num} {v : V} {e : Ent} (h : EntAt H v e) : cleanO H d v = if getD d e.name ≠ 0 then some (e.name, getD d e.name) else none := by
  obtain ⟨t, l, rfl, ht, _⟩ := h
  unfold cleanO
  rw [itemAt_tup ht]
  rfl
theorem clean_fm {H : Hp} {d : Num} {vs : List V} {es : List Ent} (hc : CatAt H vs es) : vs.filterMap (cleanO H d) = cleanN es d := by
  rw [fm_pairedO (g := fun e => if getD d e.name ≠ 0 then some (e.name, getD d e.name) else none) (fun v e h => cleanO_at h) hc]
  clear hc
  unfold cleanN
  induction es with
  | nil => rfl
  | cons e es ih =>
    rw [List.filterMap_cons, List.filter_cons]
    by_cases c : getD d e.name ≠ 0
    · rw [if_pos c, if_pos (decide_eq_true c), ih]
      rfl
    · rw [if_neg c, if_neg (by rw [decide_eq_true_eq]; exact c), ih]
theorem clean_nodup {es : List Ent} {d : Num} (h : (es.map (·.name)).Nodup) : ((cleanN es d).map (·.1)).Nodup := by
  unfold cleanN
  rw [List.map_map]
  exact h.sublist ((List.filter_sublist (l := es)).map _)
end Sk
namespace Sk
open PySem PySem.Spec PyProof.Rows L2
/-- the numbers in the entries' order -/
def cN (es : List Ent) (c : Str → Int) : Nat → Int := fun i => match es[i]? with
  | some e => c e.name
  | none => 0
theorem cN_at {es : List Ent} {i : Nat} {e : Ent} (h : es[i]? = some e) (c : Str → Int) : cN es c i = c e.name := by
  unfold cN
  rw [h]
theorem cN_out {es : List Ent} {i : Nat} (h : es.length ≤ i) (c : Str → Int) : cN es c i = 0 := by
  unfold cN
  rw [List.getElem?_eq_none h]
theorem sumE_app (es l : List Ent) (c : Str → Int) : sumE (es ++ l) c = sumE es c + sumE l c := by
  induction es with
  | nil =>
    show sumE l c = 0 + sumE l c
    omega
  | cons e es ih =>
    rw [List.cons_append, sumE_cons, sumE_cons, ih]
    omega
theorem sumN_take (es : List Ent) (c : Str → Int) : ∀ n, n ≤ es.length → sumN (cN es c) n = sumE (es.take n) c
  | 0, _ => rfl
  | n + 1, h => by
    have hn : es[n]? = some es[n] := List.getElem?_eq_getElem (by omega)
    rw [take_snoc hn, sumE_app, ← sumN_take es c n (by omega)]
    show sumN (cN es c) n + cN es c n = _
    rw [cN_at hn]
    show _ = _ + (c es[n].name + 0)
    omega
theorem sumN_cN (es : List Ent) (c : Str → Int) : sumN (cN es c) es.length = sumE es c := by
  rw [sumN_take es c _ (Nat.le_refl _), List.take_length]
theorem sumE_perm {es es' : List Ent} (p : es'.Perm es) (c : Str → Int) : sumE es' c = sumE es c := by
  unfold sumE
  induction p with
  | nil => rfl
  | cons x _ ih => rw [List.map_cons, List.map_cons, List.sum_cons, List.sum_cons, ih]
  | swap x y l =>
    rw [List.map_cons, List.map_cons, List.map_cons, List.map_cons, List.sum_cons, List.sum_cons, List.sum_cons, List.sum_cons]
    omega
  | trans _ _ a b => rw [a, b]
theorem name_ix {es : List Ent} (nd : (es.map (·.name)).Nodup) {i j : Nat} {a b : Ent} (h : es[i]? = some a) (g : es[j]? = some b) (e : a.name = b.name) : i = j := nodup_ix nd (x := a.name) (by rw [List.getElem?_map, h]; rfl) (by rw [List.getElem?_map, g, e]; rfl)
/-- of the first that is not full -/
theorem gap_name {es : List Ent} {F c : Str → Int} (le : ∀ e ∈ es, c e.name ≤ F e.name) {e : Ent} (h : (es.find? fun e => decide (c e.name < F e.name)) = some e) : ∃ i, es[i]? = some e ∧ Gap es.length (cN es F) (cN es c) i := by
  obtain ⟨h1, i, hi, h2, h3⟩ := List.find?_eq_some_iff_getElem.mp h
  have hie : es[i]? = some e := by rw [List.getElem?_eq_getElem hi, h2]
  refine ⟨i, hie, hi, ?_, fun k hk => ?_⟩
  · rw [cN_at hie, cN_at hie]
    exact of_decide_eq_true h1
  · have hke : es[k]? = some es[k] := List.getElem?_eq_getElem (by omega)
    rw [cN_at hke, cN_at hke]
    have h4 := h3 k hk
    have h5 := le es[k] (List.getElem_mem _)
    have h6 : ¬ c es[k].name < F es[k].name := by simpa using h4
    omega
theorem gap_find {es : List Ent} {F c : Str → Int} {i : Nat} {e : Ent} (h : es[i]? = some e) (g : Gap es.length (cN es F) (cN es c) i) : (es.find? fun e => decide (c e.name < F e.name)) = some e := by
  obtain ⟨hi, he⟩ := List.getElem?_eq_some_iff.mp h
  have h1 := g.le
  rw [cN_at h, cN_at h] at h1
  refine List.find?_eq_some_iff_getElem.mpr ⟨decide_eq_true h1, i, hi, he, fun k hk => ?_⟩
  have hke : es[k]? = some es[k] := List.getElem?_eq_getElem (by omega)
  have h2 := g.full k hk
  rw [cN_at hke, cN_at hke] at h2
  simp
  omega
/-- the last kind that is split -/
def lastF (es : List Ent) (c : Str → Int) : Option Ent := (es.filter fun e => decide (0 < c e.name)).getLast?
theorem last_filter {p : Ent → Bool} : ∀ {es : List Ent} {e : Ent}, (es.filter p).getLast? = some e → ∃ j : Nat, es[j]? = some e ∧ p e = true ∧ ∀ (k : Nat) (x : Ent), j < k → es[k]? = some x → p x = false
  | [], _, h => by cases h
  | a :: es, e, h => by
    rw [List.filter_cons] at h
    have up : (es.filter p).getLast? = some e → ∃ j : Nat, (a :: es)[j]? = some e ∧ p e = true ∧ ∀ (k : Nat) (x : Ent), j < k → (a :: es)[k]? = some x → p x = false := fun h => by
      obtain ⟨j, h1, h2, h3⟩ := last_filter h
      refine ⟨j + 1, by simpa using h1, h2, fun k x hk hx => ?_⟩
      cases k with
      | zero => omega
      | succ k => exact h3 k x (by omega) (by simpa using hx)
    by_cases q : p a = true
    · rw [if_pos q] at h
      cases hl : (es.filter p).getLast? with
      | some z =>
        rw [List.getLast?_cons, hl] at h
        cases h
        exact up hl
      | none =>
        rw [List.getLast?_cons, hl] at h
        cases h
        have hn := List.getLast?_eq_none_iff.mp hl
        refine ⟨0, rfl, q, fun k x hk hx => ?_⟩
        cases k with
        | zero => omega
        | succ k =>
          have hm : x ∈ es := List.mem_of_getElem? (i := k) (by simpa using hx)
          have := List.filter_eq_nil_iff.mp hn x hm
          simpa using this
    · rw [if_neg q] at h
      exact up h
theorem last_name {es : List Ent} {c : Str → Int} (pos : ∀ e ∈ es, 0 ≤ c e.name) {e : Ent} (h : lastF es c = some e) : ∃ j, es[j]? = some e ∧ Last es.length (cN es c) j := by
  obtain ⟨j, h1, h2, h3⟩ := last_filter h
  refine ⟨j, h1, (List.getElem?_eq_some_iff.mp h1).1, ?_, fun k h4 h5 => ?_⟩
  · rw [cN_at h1]
    exact of_decide_eq_true h2
  · have hke : es[k]? = some es[k] := List.getElem?_eq_getElem (by omega)
    rw [cN_at hke]
    have h6 := of_decide_eq_false (h3 k _ h4 hke)
    have h7 := pos es[k] (List.getElem_mem _)
    omega
theorem lastF_ex {es : List Ent} {c : Str → Int} (h : ∃ e ∈ es, 0 < c e.name) : ∃ e, lastF es c = some e := by
  obtain ⟨e, he, h0⟩ := h
  unfold lastF
  cases q : (es.filter fun e => decide (0 < c e.name)).getLast? with
  | some z => exact ⟨z, rfl⟩
  | none =>
    have := List.filter_eq_nil_iff.mp (List.getLast?_eq_none_iff.mp q) e he
    exact absurd (decide_eq_true h0) this
/-- one more, one less -/
def up1 (c : Str → Int) (x : Str) : Str → Int := fun y => c y + if y = x then 1 else 0
def dn1 (c : Str → Int) (x : Str) : Str → Int := fun y => c y - if y = x then 1 else 0
theorem cN_up {es : List Ent} (nd : (es.map (·.name)).Nodup) {i : Nat} {e : Ent} (h : es[i]? = some e) (c : Str → Int) : cN es (up1 c e.name) = addN (cN es c) i := by
  funext k
  by_cases hk : k < es.length
  · have hke : es[k]? = some es[k] := List.getElem?_eq_getElem hk
    rw [cN_at hke, addN_at, cN_at hke]
    unfold up1
    by_cases q : k = i
    · subst q
      rw [hke] at h
      cases h
      rw [if_pos rfl, if_pos rfl]
    · rw [if_neg q, if_neg fun z => q (name_ix nd hke h z)]
  · rw [cN_out (by omega), addN_at, cN_out (by omega), if_neg]
    · rfl
    · have := (List.getElem?_eq_some_iff.mp h).1
      omega
theorem cN_dn {es : List Ent} (nd : (es.map (·.name)).Nodup) {i : Nat} {e : Ent} (h : es[i]? = some e) (c : Str → Int) : cN es (dn1 c e.name) = subN (cN es c) i := by
  funext k
  by_cases hk : k < es.length
  · have hke : es[k]? = some es[k] := List.getElem?_eq_getElem hk
    rw [cN_at hke, subN_at, cN_at hke]
    unfold dn1
    by_cases q : k = i
    · subst q
      rw [hke] at h
      cases h
      rw [if_pos rfl, if_pos rfl]
    · rw [if_neg q, if_neg fun z => q (name_ix nd hke h z)]
  · rw [cN_out (by omega), subN_at, cN_out (by omega), if_neg]
    · rfl
    · have := (List.getElem?_eq_some_iff.mp h).1
      omega
theorem getD_up (c : Num) (x : Str) : getD (put c x (getD c x + 1)) = up1 (getD c) x := by
  funext y
  unfold up1
  rw [getD_put]
  by_cases q : y = x
  · rw [if_pos q, if_pos q, q]
  · rw [if_neg q, if_neg q]
    omega
theorem getD_dn (c : Num) (x : Str) : getD (put c x (getD c x - 1)) = dn1 (getD c) x := by
  funext y
  unfold dn1
  rw [getD_put]
  by_cases q : y = x
  · rw [if_pos q, if_pos q, q]
  · rw [if_neg q, if_neg q]
    omega
/-- valid splits, kind by kind -/
def Fits (es : List Ent) (f c : Str → Int) : Prop := ∀ e ∈ es, 0 ≤ c e.name ∧ c e.name ≤ if e.parts = [] then 0 else f e.name + amt (incs es c) e.name
theorem Fits.tail {a : Ent} {es : List Ent} {f c : Str → Int} (h : Fits (a :: es) f c) : Fits es (addAll f (a.parts.map fun p => (p, c a.name))) c := fun e he => by
  have h1 := h e (List.mem_cons_of_mem _ he)
  rw [incs_cons, amt_append] at h1
  rw [addAll_at]
  refine ⟨h1.1, ?_⟩
  have h2 := h1.2
  by_cases q : e.parts = []
  · rw [if_pos q] at h2 ⊢
    exact h2
  · rw [if_neg q] at h2 ⊢
    omega
theorem fs_out {es : List Ent} {f : Str → Int} {x : Str} (h : x ∉ es.map (·.name)) : getD (fs es f) x = 0 := getD_none fun z => h (fs_names es f x z)
theorem fs_cons (a : Ent) (es : List Ent) (f : Str → Int) : fs (a :: es) f = (if a.parts = [] then [] else [(a.name, f a.name)]) ++ fs es (addAll f (a.parts.map fun p => (p, f a.name))) := rfl
theorem fs_head {a : Ent} {es : List Ent} {f : Str → Int} (nd : a.name ∉ es.map (·.name)) : getD (fs (a :: es) f) a.name = if a.parts = [] then 0 else f a.name := by
  rw [fs_cons]
  by_cases q : a.parts = []
  · rw [if_pos q, if_pos q, List.nil_append, fs_out nd]
  · rw [if_neg q, if_neg q, List.singleton_append, getD_cons, if_pos rfl]
theorem fs_tail {a : Ent} {es : List Ent} {f : Str → Int} {x : Str} (h : a.name ≠ x) : getD (fs (a :: es) f) x = getD (fs es (addAll f (a.parts.map fun p => (p, f a.name)))) x := by
  rw [fs_cons]
  by_cases q : a.parts = []
  · rw [if_pos q, List.nil_append]
  · rw [if_neg q, List.singleton_append, getD_cons, if_neg h]
/-- never more than all -/
theorem fits_le : ∀ {es : List Ent} {f g c : Str → Int}, Behind es → (es.map (·.name)).Nodup → (∀ x, f x ≤ g x) → Fits es f c → ∀ e ∈ es, c e.name ≤ getD (fs es g) e.name
  | [], _, _, _, _, _, _, _, _, h => by cases h
  | a :: es, f, g, c, b, nd, hfg, ft, e, he => by
    rw [List.map_cons, List.nodup_cons] at nd
    have self := incs_self b nd.1 c
    have ha := ft a (List.mem_cons_self ..)
    rw [self] at ha
    have hca : c a.name ≤ g a.name ∨ a.parts = [] := by
      by_cases q : a.parts = []
      · exact .inr q
      · rw [if_neg q] at ha
        have := hfg a.name
        exact .inl (by omega)
    rcases List.mem_cons.mp he with rfl | he
    · rw [fs_head nd.1]
      split
      · rename_i q
        rw [if_pos q] at ha
        exact ha.2
      · rename_i q
        rcases hca with h | h
        · exact h
        · exact absurd h q
    · rw [fs_tail fun z => nd.1 (List.mem_map.mpr ⟨e, he, z.symm⟩)]
      refine fits_le b.2 nd.2 (fun x => ?_) ft.tail e he
      rw [addAll_at, addAll_at, amt_times, amt_times]
      have h1 := hfg x
      rcases hca with h | h
      · have := Int.mul_le_mul_of_nonneg_right h (ones_le a.parts x).1
        omega
      · rw [h]
        show f x + c a.name * 0 ≤ g x + g a.name * 0
        omega
/-- the first with parts that has whole pieces: the first that is not split up -/
theorem find_gap : ∀ {es : List Ent} {f c : Str → Int}, Behind es → (es.map (·.name)).Nodup → Fits es f c → es.find? (splitB es f c) = es.find? fun e => decide (c e.name < getD (fs es f) e.name)
  | [], _, _, _, _, _ => rfl
  | a :: es, f, c, b, nd, ft => by
    rw [List.map_cons, List.nodup_cons] at nd
    have self := incs_self b nd.1
    have ha := ft a (List.mem_cons_self ..)
    rw [self c] at ha
    rw [List.find?_cons, List.find?_cons]
    have h1 : splitB (a :: es) f c a = decide (c a.name < getD (fs (a :: es) f) a.name) := by
      rw [fs_head nd.1]
      unfold splitB wholeF
      rw [self c]
      by_cases q : a.parts = []
      · rw [if_pos q, decide_eq_false (fun z => z q), Bool.false_and]
        exact (decide_eq_false (by omega)).symm
      · rw [if_neg q, decide_eq_true q, Bool.true_and]
        exact decide_eq_decide.mpr (by omega)
    rw [h1]
    by_cases q : c a.name < getD (fs (a :: es) f) a.name
    · rw [decide_eq_true q]
    · rw [decide_eq_false q]
      dsimp only
      rw [fs_head nd.1] at q
      have ne : ∀ y ∈ es, a.name ≠ y.name := fun y hy z => nd.1 (List.mem_map.mpr ⟨y, hy, z.symm⟩)
      have e1 : (es.find? fun e => decide (c e.name < getD (fs (a :: es) f) e.name)) = es.find? fun e => decide (c e.name < getD (fs es (addAll f (a.parts.map fun p => (p, c a.name)))) e.name) := find_congr fun x hx => by
        rw [fs_tail (ne x hx)]
        by_cases r : a.parts = []
        · rw [r]
          rfl
        · rw [if_neg r] at q ha
          have : c a.name = f a.name := by omega
          rw [this]
      rw [e1, ← find_gap b.2 nd.2 ft.tail]
      refine find_congr fun x hx => ?_
      unfold splitB
      rw [whole_tail (fun _ _ => rfl) x.name rfl]
theorem greedy_cons (q : Str × Int) (l : Num) (n : Int) : greedy (q :: l) n = (q.1, if q.2 < n then q.2 else n) :: greedy l (n - if q.2 < n then q.2 else n) := rfl
/-- the balanced splits: all, then some, then none -/
theorem greedy_bal : ∀ {es : List Ent} {f : Str → Int} {n : Int}, Behind es → (es.map (·.name)).Nodup → (∀ x, 0 ≤ f x) → 0 ≤ n → Bal es.length (cN es (getD (fs es f))) (cN es (getD (greedy (fs es f) n)))
  | [], _, _, _, _, _, _ => fun i k _ h2 => absurd h2 (Nat.not_lt_zero _)
  | a :: es, f, n, b, nd, hf, hn => fun i k h1 h2 h3 => by
    rw [List.map_cons, List.nodup_cons] at nd
    have fa := hf a.name
    have hf2 : ∀ x, 0 ≤ addAll f (a.parts.map fun p => (p, f a.name)) x := addAll_nonneg hf fa a.parts
    have fsn := fs_nonneg b.2 nd.2 hf2
    rw [List.length_cons] at h2
    have ne : ∀ y ∈ es, a.name ≠ y.name := fun y hy z => nd.1 (List.mem_map.mpr ⟨y, hy, z.symm⟩)
    cases k with
    | zero => omega
    | succ k =>
      have hk2 : es[k]? = some es[k] := List.getElem?_eq_getElem (by omega)
      have hk : (a :: es)[k + 1]? = some es[k] := by rw [List.getElem?_cons_succ]; exact hk2
      rw [cN_at hk]
      by_cases q : a.parts = []
      · have e1 : fs (a :: es) f = fs es f := by
          rw [fs, if_pos q, q]
          rfl
        rw [e1] at h3 ⊢
        cases i with
        | zero =>
          rw [cN_at (e := a) rfl, cN_at (e := a) rfl, fs_out nd.1, getD_none fun hm => nd.1 (fs_names es f _ (by rw [← greedy_names (fs es f) n]; exact hm))] at h3
          omega
        | succ i =>
          have hi2 : es[i]? = some es[i] := List.getElem?_eq_getElem (by omega)
          have hi : (a :: es)[i + 1]? = some es[i] := by rw [List.getElem?_cons_succ]; exact hi2
          rw [cN_at hi, cN_at hi] at h3
          have := greedy_bal b.2 nd.2 hf hn i k (by omega) (by omega) (by rw [cN_at hi2, cN_at hi2]; exact h3)
          rw [cN_at hk2] at this
          exact this
      · have e1 : fs (a :: es) f = (a.name, f a.name) :: fs es (addAll f (a.parts.map fun p => (p, f a.name))) := by
          rw [fs, if_neg q]
          rfl
        rw [e1, greedy_cons] at h3 ⊢
        dsimp only at h3 ⊢
        rw [getD_cons, if_neg (ne _ (List.getElem_mem _))]
        cases i with
        | zero =>
          rw [cN_at (e := a) rfl, cN_at (e := a) rfl, getD_cons, if_pos rfl, getD_cons, if_pos rfl] at h3
          refine greedy_zero fsn ?_ ?_ _
          · dsimp only at h3
            split at h3 <;> omega
          · split <;> omega
        | succ i =>
          have hi2 : es[i]? = some es[i] := List.getElem?_eq_getElem (by omega)
          have hi : (a :: es)[i + 1]? = some es[i] := by rw [List.getElem?_cons_succ]; exact hi2
          rw [cN_at hi, cN_at hi, getD_cons, if_neg (ne _ (List.getElem_mem _)), getD_cons, if_neg (ne _ (List.getElem_mem _))] at h3
          have := greedy_bal (n := n - if f a.name < n then f a.name else n) b.2 nd.2 hf2 (by split <;> omega) i k (by omega) (by omega) (by rw [cN_at hi2, cN_at hi2]; exact h3)
          rw [cN_at hk2] at this
          exact this
theorem SplitsOk.fit {es es' : List Ent} {d c : Num} (hp : es'.Perm es) (ok : SplitsOk es d c) : Fits es' (getD d) (getD c) := fun e he => by
  have h := ok.fits e (hp.mem_iff.mp he)
  rw [← pn_perm hp, pn_at] at h
  exact h
theorem SplitsOk.vec {es es' : List Ent} {d c : Num} (hv : Valid es) (hp : es'.Perm es) (ho : Ordered es') (ok : SplitsOk es d c) : Vec es'.length (cN es' (getD (fs es' (getD d)))) (cN es' (getD c)) := fun i hi => by
  have hie : es'[i]? = some es'[i] := List.getElem?_eq_getElem hi
  have hv' := hv.perm hp
  rw [cN_at hie, cN_at hie]
  have ft := ok.fit hp
  exact ⟨(ft _ (List.getElem_mem _)).1, fits_le (hv'.behind ho) hv'.nodup (fun _ => Int.le_refl _) ft _ (List.getElem_mem _)⟩
theorem full_sum {es : List Ent} (b : Behind es) (nd : (es.map (·.name)).Nodup) (f : Str → Int) : sumE es (getD (fs es f)) = ((fs es f).map (·.2)).sum := sumE_getD nd (fs_nodup f nd) fun q hq => fs_names es f _ (List.mem_map.mpr ⟨q, hq, rfl⟩)
theorem nodup_len : ∀ {l m : List Str}, l.Nodup → (∀ x ∈ l, x ∈ m) → l.length ≤ m.length
  | [], _, _, _ => Nat.zero_le _
  | x :: l, m, nd, h => by
    rw [List.nodup_cons] at nd
    have hx := h x (List.mem_cons_self ..)
    have h1 := nodup_len (m := m.erase x) nd.2 fun y hy => (List.mem_erase_of_ne fun z => nd.1 (by rw [← z]; exact hy)).mpr (h y (List.mem_cons_of_mem _ hy))
    rw [List.length_erase_of_mem hx] at h1
    have := List.length_pos_of_mem hx
    rw [List.length_cons]
    omega
theorem same_name {es : List Ent} (nd : (es.map (·.name)).Nodup) {x e : Ent} (hx : x ∈ es) (he : e ∈ es) (q : x.name = e.name) : x = e := by
  obtain ⟨i, hi⟩ := List.mem_iff_getElem?.mp hx
  obtain ⟨j, hj⟩ := List.mem_iff_getElem?.mp he
  have := name_ix nd hi hj q
  rw [this, hj] at hi
  cases hi
  rfl
/-- put keeps known names -/
theorem put_ok {es : List Ent} {c : Num} (nd : (c.map (·.1)).Nodup) (hk : ∀ q ∈ c, q.1 ∈ es.map (·.name)) {x : Str} (hx : x ∈ es.map (·.name)) (i : Int) : ((put c x i).map (·.1)).Nodup ∧ (∀ q ∈ put c x i, q.1 ∈ es.map (·.name)) ∧ (put c x i).length ≤ es.length := by
  have h1 : ((put c x i).map (·.1)).Nodup := put_nodup nd
  have h2 : ∀ q ∈ put c x i, q.1 ∈ es.map (·.name) := fun q hq => by
    rcases (put_keys c x q.1 i).mp (List.mem_map.mpr ⟨q, hq, rfl⟩) with h | h
    · rw [h]
      exact hx
    · obtain ⟨z, hz, e⟩ := List.mem_map.mp h
      rw [← e]
      exact hk z hz
  refine ⟨h1, h2, ?_⟩
  have h3 := nodup_len (m := es.map (·.name)) h1 fun y hy => by
    obtain ⟨q, hq, rfl⟩ := List.mem_map.mp hy
    exact h2 q hq
  rw [List.length_map, List.length_map] at h3
  exact h3
/-- a split step and an undo step keep splits valid -/
theorem SplitsOk.up {es : List Ent} {d c : Num} (hv : Valid es) (hz : es.length < 64) (ok : SplitsOk es d c) {e : Ent} (he : e ∈ es) (hpe : e.parts ≠ []) (hw : getD c e.name < pn es d c e.name) : SplitsOk es d (put c e.name (getD c e.name + 1)) := by
  obtain ⟨h1, h2, h3⟩ := put_ok ok.nd ok.known (List.mem_map.mpr ⟨e, he, rfl⟩) (getD c e.name + 1)
  refine ⟨h1, by omega, h2, fun x hx => ?_⟩
  have hf := ok.fits x hx
  rw [pn_put hv.nodup he, getD_put]
  have h4 := (ones_le e.parts x.name).1
  by_cases q : x.name = e.name
  · obtain rfl := same_name hv.nodup hx he q
    rw [if_neg hpe] at hf
    rw [if_pos rfl, if_neg hpe]
    omega
  · rw [if_neg q]
    by_cases z : x.parts = []
    · rw [if_pos z] at hf ⊢
      exact hf
    · rw [if_neg z] at hf ⊢
      omega
/-- the parts of a kind come behind it -/
theorem parts_behind : ∀ {es : List Ent} {j : Nat} {e : Ent}, Behind es → es[j]? = some e → ∀ q ∈ e.parts, ∃ k x, j < k ∧ es[k]? = some x ∧ x.name = q
  | [], _, _, _, h => by simp at h
  | a :: es, 0, e, b, h => fun q hq => by
    simp at h
    subst h
    obtain ⟨x, hx, e1⟩ := List.mem_map.mp (b.1 q hq).1
    obtain ⟨k, hk⟩ := List.mem_iff_getElem?.mp hx
    exact ⟨k + 1, x, by omega, by simpa using hk, e1⟩
  | a :: es, j + 1, e, b, h => fun q hq => by
    obtain ⟨k, x, h1, h2, h3⟩ := parts_behind b.2 (j := j) (by simpa using h) q hq
    exact ⟨k + 1, x, by omega, by simpa using h2, h3⟩
theorem pn_dn {es : List Ent} (nd : (es.map (·.name)).Nodup) {e0 : Ent} (h0 : e0 ∈ es) (st c : Num) (x : Str) : pn es st (put c e0.name (getD c e0.name - 1)) x = pn es st c x - amt (ones e0.parts) x := by
  have h := pn_put nd h0 st (put c e0.name (getD c e0.name - 1)) x
  have e1 : getD (put (put c e0.name (getD c e0.name - 1)) e0.name (getD (put c e0.name (getD c e0.name - 1)) e0.name + 1)) = getD c := by
    rw [getD_up, getD_dn]
    funext y
    unfold up1 dn1
    omega
  rw [pn_congr rfl e1] at h
  omega
theorem SplitsOk.down {es es' : List Ent} {d c : Num} (hv : Valid es) (hz : es.length < 64) (hp : es'.Perm es) (ho : Ordered es') (so : StockOk es d) (ok : SplitsOk es d c) {j : Nat} {e : Ent} (he : es'[j]? = some e) (l : Last es'.length (cN es' (getD c)) j) : SplitsOk es d (put c e.name (getD c e.name - 1)) := by
  have hv' := hv.perm hp
  have hm := hp.mem_iff.mp (List.mem_of_getElem? he)
  obtain ⟨h1, h2, h3⟩ := put_ok ok.nd ok.known (List.mem_map.mpr ⟨e, hm, rfl⟩) (getD c e.name - 1)
  have lp := l.pos
  rw [cN_at he] at lp
  have cp : ∀ q ∈ c, 0 ≤ q.2 := fun q hq => by
    obtain ⟨e, he, z⟩ := List.mem_map.mp (ok.known q hq)
    have := (ok.fits e he).1
    rw [z, getD_mem ok.nd hq] at this
    exact this
  have dp : ∀ q ∈ put c e.name (getD c e.name - 1), 0 ≤ q.2 := fun q hq => by
    rw [← getD_mem h1 hq, getD_put]
    split
    · omega
    · exact getD_pos cp _
  refine ⟨h1, by omega, h2, fun x hx => ?_⟩
  have hf := ok.fits x hx
  by_cases q : x.name = e.name
  · obtain rfl := same_name hv.nodup hx hm q
    rw [pn_dn hv.nodup hm, getD_put, if_pos rfl]
    by_cases z : x.parts = []
    · rw [if_pos z] at hf ⊢
      omega
    · rw [if_neg z] at hf ⊢
      have : amt (ones x.parts) x.name = 0 := amt_zero fun y hy => by
        unfold ones at hy
        obtain ⟨p, hp2, rfl⟩ := List.mem_map.mp hy
        exact (Behind.at (hv'.behind ho) (hp.mem_iff.mpr hx) p hp2).2
      omega
  · by_cases z : x.parts = []
    · rw [if_pos z] at hf ⊢
      rw [getD_put, if_neg q]
      exact hf
    · rw [if_neg z] at hf ⊢
      by_cases y : x.name ∈ e.parts
      · obtain ⟨k, w, k1, k2, k3⟩ := parts_behind (hv'.behind ho) he x.name y
        have h0 := l.zero k k1 (List.getElem?_eq_some_iff.mp k2).1
        rw [cN_at k2, k3] at h0
        rw [getD_put, if_neg q, h0]
        exact ⟨Int.le_refl _, pn_nonneg' so.pos dp _⟩
      · have : amt (ones e.parts) x.name = 0 := amt_zero fun w hw => by
          unfold ones at hw
          obtain ⟨p, hp2, rfl⟩ := List.mem_map.mp hw
          exact fun z => y (by rw [← z]; exact hp2)
        rw [pn_dn hv.nodup hm, getD_put, if_neg q]
        omega
end Sk
namespace Sk
open PySem PySem.Spec PyProof.Rows L2
abbrev s_law_order : Stmt := topS 32
abbrev N_law_order : List Str := ["pool", "keys", "known", "entry", "weight", "name"]
theorem sc_law_order : FnScope N_law_order ["pool"] (defScope s_law_order) := ⟨rfl, rfl, rfl, by decide +kernel, rfl, by decide +kernel, by decide +kernel⟩
def sp_law_order (Tb : List (Addr × Str)) (K : PySem.W.Frag) : Sp := fun vs H Q _ => ∃ (a : Addr) (xs : List V) (es : List Ent), vs = [.ref a] ∧ SqL K H a xs ∧ CatAt H xs es ∧ Valid es ∧
  ∀ r H' ys es', es'.Perm es → Ordered es' → (∀ y ∈ ys, y ∈ xs) → CatAt H ys es' → Gr Tb H H' → Nw H r → H' r = some (.lst ys) → Q (.ref r) H'
/-- y is the key of the entry at v -/
def KRow (H0 H : Hp) (v y : V) : Prop := ∀ e, EntAt H0 v e → ∃ t, y = .ref t ∧ H t = some (.tup [.int (0 - e.w), .str e.name])
def KAt (H : Hp) (y : V) (e : Ent) : Prop := ∃ t, y = .ref t ∧ H t = some (.tup [.int (0 - e.w), .str e.name])
theorem krow_at {H0 H : Hp} : ∀ {xs : List V} {es : List Ent} {zs : List V}, CatAt H0 xs es → Paired (KRow H0 H) xs zs → Paired (KAt H) zs es
  | _, _, _, .nil, .nil => .nil
  | _, _, _, .cons h t, .cons a b => .cons (a _ h) (krow_at t b)
def kOf (H : Hp) : V → Int × Str
  | .ref t => match H t with
    | some (.tup [.int i, .str n]) => (i, n)
    | _ => (0, Str.empty)
  | _ => (0, Str.empty)
theorem kOf_at {H : Hp} {y : V} {e : Ent} (h : KAt H y e) : kOf H y = e.key := by
  obtain ⟨t, rfl, ht⟩ := h
  show (match H t with
    | some (.tup [.int i, .str n]) => (i, n)
    | _ => (0, Str.empty)) = _
  rw [ht]
  rfl
theorem kat_name {H : Hp} {y : V} {e e' : Ent} (h : KAt H y e) (h' : KAt H y e') : e.name = e'.name := by
  have := (kOf_at h).symm.trans (kOf_at h')
  exact congrArg Prod.snd this
theorem k_ordered {H : Hp} : ∀ {ys : List V} {es : List Ent}, Paired (KAt H) ys es → SrtO.Srtd (fun x y => kLt (kOf H x) (kOf H y)) ys → Ordered es
  | _, _, .nil, _ => List.Pairwise.nil
  | y :: ys, e :: es, .cons h t, s => by
    obtain ⟨s1, s2⟩ := List.pairwise_cons.mp s
    refine List.pairwise_cons.mpr ⟨fun e' he' => ?_, k_ordered t s2⟩
    obtain ⟨y', hy', h'⟩ := Paired.right t he'
    have z : kLt (kOf H y') (kOf H y) = false := s1 y' hy'
    rw [kOf_at h, kOf_at h'] at z
    exact z
theorem kat_cat {H H1 : Hp} {es : List Ent} {xs : List V} : ∀ {ws ys : List V} {es' : List Ent}, (∀ e ∈ es', e ∈ es) → Paired (KAt H1) ws es' → Paired (fun z y => (∀ e ∈ es, KAt H1 z e → EntAt H y e) ∧ y ∈ xs) ws ys → CatAt H ys es'
  | _, _, _, _, .nil, .nil => .nil
  | _, _, _, h, .cons a t, .cons b u => .cons (b.1 _ (h _ (List.mem_cons_self ..)) a) (kat_cat (fun e he => h e (List.mem_cons_of_mem _ he)) t u)
theorem merge_out {kvs : List (Key × V)} : ∀ {acc : List (Key × V)} {k : Key}, k ∉ kvs.map (·.1) → valV (mergeK acc kvs) k = valV acc k := by
  induction kvs with
  | nil => intro acc k _; rfl
  | cons q l ih =>
    intro acc k h
    rw [List.map_cons, List.mem_cons, not_or] at h
    show valV (mergeK (putK acc q.1 q.2) l) k = _
    rw [ih h.2, valV_put, if_neg h.1]
theorem merge_in {kvs : List (Key × V)} : ∀ {acc : List (Key × V)} {q : Key × V}, (kvs.map (·.1)).Nodup → q ∈ kvs → valV (mergeK acc kvs) q.1 = some q.2 := by
  induction kvs with
  | nil => intro acc q _ h; cases h
  | cons x l ih =>
    intro acc q nd h
    rw [List.map_cons, List.nodup_cons] at nd
    show valV (mergeK (putK acc x.1 x.2) l) q.1 = _
    rcases List.mem_cons.mp h with rfl | h2
    · rw [merge_out nd.1, valV_put, if_pos rfl]
    · exact ih nd.2 h2
/-- y is a pair of the name and v -/
def DRow (H0 H : Hp) (v y : V) : Prop := ∀ e, EntAt H0 v e → ∃ t, y = .ref t ∧ H t = some (.tup [.str e.name, v])
theorem drow_dict {K : PySem.W.Frag} {H0 H : Hp} : ∀ {xs : List V} {es : List Ent} {zs : List V}, CatAt H0 xs es → Paired (DRow H0 H) xs zs → ∃ (ps : List Addr) (kvs : List (Key × V)), zs = ps.map V.ref ∧ Paired (fun p kv => SqT K H p [kV kv.1, kv.2]) ps kvs ∧ Paired (fun (kv : Key × V) (e : Ent) => kv.1 = .inr e.name ∧ EntAt H0 kv.2 e ∧ kv.2 ∈ xs) kvs es
  | _, _, _, .nil, .nil => ⟨[], [], rfl, .nil, .nil⟩
  | v :: xs, e :: es, _ :: _, .cons a t, .cons b u => by
    obtain ⟨ps, kvs, e1, e2, e3⟩ := drow_dict (K := K) t u
    obtain ⟨t', h1, h2⟩ := b e a
    refine ⟨t' :: ps, (.inr e.name, v) :: kvs, by rw [h1, e1]; rfl, .cons (SqT.of h2) e2, .cons ⟨rfl, a, List.mem_cons_self ..⟩ (Paired.imp (fun kv e h => ⟨h.1, h.2.1, List.mem_cons_of_mem _ h.2.2⟩) e3)⟩
theorem drow_keys {H0 : Hp} {xs : List V} : ∀ {kvs : List (Key × V)} {es : List Ent}, Paired (fun (kv : Key × V) (e : Ent) => kv.1 = .inr e.name ∧ EntAt H0 kv.2 e ∧ kv.2 ∈ xs) kvs es → kvs.map (·.1) = (es.map (·.name)).map Sum.inr
  | _, _, .nil => rfl
  | _, _, .cons a t => by rw [List.map_cons, List.map_cons, List.map_cons, a.1, drow_keys t]
section
variable {P : Program} {w : World} {K : PySem.W.Frag} {mg : Str → Option Value} {base : Heap} {Tb : List (Addr × Str)}
theorem ok_law_order {f : Addr} {fd : FuncData} (F : FnP K "_law_order" s_law_order f fd) (T : Tx K mg) : FnOk P w K mg base CX0 1 f fd ["pool"] (sp_law_order Tb K) := by
  refine F.ok sc_law_order (fun vs H Q E h => ?_) (fun cdv A outer s H vs Q E hr h => ?_)
  · obtain ⟨_, _, _, rfl, _⟩ := h
    rfl
  · obtain ⟨a, xs, es, rfl, ha, hc, hv, k⟩ := h
    refine ⟨_, PSs.nox (pss_cons (ps_set (i := 1) sc_law_order.nd rfl (Or.inl rfl) (pe_callB (crSortedT (K := K) rfl) (by rfl) T.n_sorted (by decide +kernel) (pa_cons (pe_lc (own := [("entry", 3)]) (g := (gName 3)) (tt := tYes) rfl sc_law_order.nd (piL (K := K) rfl (pv 0)) (blkOk_by (N := N_law_order) (sc := (defScope s_law_order)) (by decide +kernel)) (fun _ _ _ _ _ => (pg_name (i := 3) sc_law_order.nd rfl (Or.inl rfl))) (fun _ _ _ _ _ => pts_nil) (fun _ _ _ _ _ => (pe_tup (pa_cons (pe_op op_sub pe_int (pe_ix (ixT (K := K) rfl) (pv 3) pe_int (fun _ _ => rfl))) (pa_cons (pe_ix (ixT (K := K) rfl) (pv 3) pe_int (fun _ _ => rfl)) pa_nil))))) pa_nil)))
      (pss_cons (ps_set (i := 2) sc_law_order.nd rfl (Or.inr rfl) (pe_callTy (dictP (K := K) rfl rfl) (by rfl) T.n_dict (by decide +kernel) (pa_cons (pe_lc (own := [("entry", 3)]) (g := (gName 3)) (tt := tYes) rfl sc_law_order.nd (piL (K := K) rfl (pv 0)) (blkOk_by (N := N_law_order) (sc := (defScope s_law_order)) (by decide +kernel)) (fun _ _ _ _ _ => (pg_name (i := 3) sc_law_order.nd rfl (Or.inl rfl))) (fun _ _ _ _ _ => pts_nil) (fun _ _ _ _ _ => (pe_tup (pa_cons (pe_ix (ixT (K := K) rfl) (pv 3) pe_int (fun _ _ => rfl)) (pa_cons (pv 3) pa_nil))))) pa_nil)))
      (pss_one (ps_ret (pe_lc (own := [("weight", 4), ("name", 5)]) (g := (gTup K 2 (gCons (gName 4) (gCons (gName 5) gNil)))) (tt := tYes) rfl sc_law_order.nd (piL (K := K) rfl (pv 1)) (blkOk_by (N := N_law_order) (sc := (defScope s_law_order)) (by decide +kernel)) (fun _ _ _ _ _ => (pg_tup rfl (pgs_cons (pg_name (i := 4) sc_law_order.nd rfl (Or.inl rfl)) (pgs_cons (pg_name (i := 5) sc_law_order.nd rfl (Or.inl rfl)) pgs_nil)))) (fun _ _ _ _ _ => pts_nil) (fun _ _ _ _ _ => (pe_dget (hu_of hr) (pv 2) (pv 5) (fun _ _ => rfl)))))))), ?_⟩
    have hz := hv.few
    have hl := Paired.len hc
    refine ⟨_, rfl, a, rfl, ⟨_, ha⟩, fun D hD => lc_rel (Tb := Tb) (xs := xs) walk_list rfl (fun _ => true) (KRow H) (fun H1 H2 x y m r e he => by
      obtain ⟨t, b1, b2⟩ := r e he
      exact ⟨t, b1, m _ _ .tup (.inl fun _ z => by cases z) b2⟩) hD (by omega) (fun H' g => g.ext_seq ha) (fun j v H' hvj g hDn Rk Rs hk hs => ?_) fun H1 zs g1 hD1 hzs => ?_⟩
    · obtain ⟨e, he, hev⟩ := Paired.at hc hvj
      obtain ⟨t, lp, rfl, ht0, hlp⟩ := id hev
      refine ⟨rfl, _, rfl, t, _, ((1 : Nat) : Int), _, rfl, rfl, SqT.of (g.at ht0 .tup), atI_nat (j := 1) rfl, _, _, rfl, rfl, _, rfl, t, _, ((0 : Nat) : Int), _, rfl, rfl, SqT.of (g.at ht0 .tup), atI_nat (j := 0) rfl, by show 2 ≤ sizeLine; decide, fun t2 ht2 => hk _ _ rfl (Gr.new ht2) fun e2 he2 => ?_⟩
      rw [hev.uniq he2]
      exact ⟨t2, rfl, upd_same⟩
    have ef : xs.filter (fun _ => true) = xs := List.filter_eq_self.mpr fun _ _ => rfl
    rw [ef] at hzs
    have hrow : Paired (KAt H1) zs es := krow_at hc hzs
    refine ⟨D, zs, kOf H1, fun _ => [], rfl, SqL.of hD1, fun z hz => ?_, (fun z _ r hr => by cases hr), (fun z hz w hw h => .inr ⟨rfl, rfl⟩), fun ws r hs hst hr => ?_⟩
    · obtain ⟨e, _, t, rfl, ht⟩ := Paired.left hrow hz
      refine ⟨t, rfl, ?_⟩
      rw [kOf_at ⟨t, rfl, ht⟩, ht]
      rfl
    obtain ⟨es', hp, hrow'⟩ := Paired.perm hst.perm hrow
    have ho : Ordered es' := k_ordered hrow' hs
    have hv' := hv.perm hp
    have g2 : Gr Tb H1 (upd H1 r (.lst ws)) := Gr.new hr
    have hr2 : (upd H1 r (.lst ws)) r = some (.lst ws) := upd_same
    have hwl := Paired.len hrow'
    have hfew := hv'.few
    generalize upd H1 r (.lst ws) = H2 at g2 hr2
    -- by their names
    have g02 := g1.trans g2
    refine goN ?_
    dsimp only
    refine ⟨_, rfl, a, rfl, ⟨_, g02.ext_seq ha⟩, fun D2 hD2 => lc_rel (Tb := Tb) (xs := xs) walk_list rfl (fun _ => true) (DRow H) (fun H1 H2 x y m r e he => by
      obtain ⟨t, b1, b2⟩ := r e he
      exact ⟨t, b1, m _ _ .tup (.inl fun _ z => by cases z) b2⟩) hD2 (by omega) (fun H' g => (g02.trans g).ext_seq ha) (fun j v H' hvj g hDn Rk Rs hk hs => ?_) fun H3 zd g3 hD3 hzd => ?_⟩
    · obtain ⟨e, he, hev⟩ := Paired.at hc hvj
      obtain ⟨t, lp, rfl, ht0, hlp⟩ := id hev
      refine ⟨rfl, _, rfl, t, _, ((0 : Nat) : Int), _, rfl, rfl, SqT.of ((g02.trans g).at ht0 .tup), atI_nat (j := 0) rfl, _, rfl, by show 2 ≤ sizeLine; decide, fun t2 ht2 => hk _ _ rfl (Gr.new ht2) fun e2 he2 => ?_⟩
      rw [hev.uniq he2]
      exact ⟨t2, rfl, upd_same⟩
    rw [ef] at hzd
    obtain ⟨ps, kvs, ez, pd, pk⟩ := drow_dict (K := K) hc hzd
    refine ⟨D2, ps, kvs, rfl, SqL.of (by rw [← ez]; exact hD3), pd, fun kn hkn => ?_⟩
    have g4 := g3.trans (Gr.new (T := Tb) (o := .dK (mergeK [] kvs)) hkn)
    have hkn4 : (upd H3 kn (.dK (mergeK [] kvs))) kn = some (.dK (mergeK [] kvs)) := upd_same
    have ndk : (kvs.map (·.1)).Nodup := by
      rw [drow_keys pk]
      exact List.Pairwise.map _ (fun _ _ h z => h (Sum.inr.inj z)) hv.nodup
    generalize upd H3 kn (.dK (mergeK [] kvs)) = H4 at g4 hkn4
    have g04 := g02.trans g4
    have hr4 := g4.at hr2 .lst
    refine goN ?_
    dsimp only
    refine ⟨_, rfl, r, rfl, ⟨_, SqL.of hr4⟩, fun D4 hD4 => lc_rel (Tb := Tb) (xs := ws) walk_list rfl (fun _ => true) (fun _ z y => (∀ e ∈ es, KAt H1 z e → EntAt H y e) ∧ y ∈ xs) (fun _ _ _ _ _ h => h) hD4 (by omega) (fun H' g => SqL.of (g.at hr4 .lst)) (fun j z H' hz g hDn Rk Rs hk hks => ?_) fun H5 ys g5 hD5 hys => ?_⟩
    · obtain ⟨e, he, t, rfl, ht⟩ := Paired.at hrow' hz
      have hem : e ∈ es := hp.mem_iff.mp (List.mem_of_getElem? he)
      refine gtup2 (((g2.trans g4).trans g).at ht .tup) ⟨rfl, ?_⟩
      obtain ⟨kv, hkv, k1, k2, k3⟩ := Paired.right pk hem
      refine ⟨_, rfl, _, rfl, kn, kv.2, rfl, ?_, hk _ _ rfl (Gr.refl _) ⟨fun e3 h3 hk3 => ?_, k3⟩⟩
      · have := DGet.k (k := kv.1) (g.at hkn4 .dK)
        rw [merge_in ndk hkv, k1] at this
        exact this
      · have : e3 = e := same_name hv.nodup h3 hem (kat_name hk3 ⟨t, rfl, ht⟩)
        rw [this]
        exact k2
    have ef2 : ws.filter (fun _ => true) = ws := List.filter_eq_self.mpr fun _ _ => rfl
    rw [ef2] at hys
    have hcy : CatAt H ys es' := kat_cat (fun e he => hp.mem_iff.mp he) hrow' hys
    exact k D4 H5 ys es' hp ho (fun y hy => by
      obtain ⟨z, _, h⟩ := Paired.right hys hy
      exact h.2) hcy (g04.trans g5) (g04.nw (.of hD4)) hD5
end
end Sk
namespace Sk
open PySem PySem.Spec PyProof.Rows L2
abbrev s_law_pieces : Stmt := topS 33
abbrev N_law_pieces : List Str := ["pool", "supply", "taken", "found", "name", "weight", "parts", "part", "entry"]
theorem sc_law_pieces : FnScope N_law_pieces ["pool", "supply", "taken"] (defScope s_law_pieces) := ⟨rfl, rfl, rfl, by decide +kernel, rfl, by decide +kernel, by decide +kernel⟩
def sp_law_pieces (Tb : List (Addr × Str)) (K : PySem.W.Frag) : Sp := fun vs H Q _ => ∃ (a b c : Addr) (xs : List V) (es : List Ent) (d sp : Num), vs = [.ref a, .ref b, .ref c] ∧ SqL K H a xs ∧ CatAt H xs es ∧ H b = some (.dK (dS d)) ∧ H c = some (.dK (dS sp)) ∧ Valid es ∧
  ∀ r H', Gr Tb H H' → Nw H r → H' r = some (.dK (dS (numOf es (pn es d sp)))) → Q (.ref r) H'
section
variable {P : Program} {w : World} {K : PySem.W.Frag} {mg : Str → Option Value} {base : Heap} {Tb : List (Addr × Str)}
theorem ok_law_pieces {f : Addr} {fd : FuncData} (F : FnP K "_law_pieces" s_law_pieces f fd) (T : Tx K mg) : FnOk P w K mg base CX0 1 f fd ["pool", "supply", "taken"] (sp_law_pieces Tb K) := by
  refine F.ok sc_law_pieces (fun vs H Q E h => ?_) (fun cdv A outer s H vs Q E hr h => ?_)
  · obtain ⟨_, _, _, _, _, _, _, rfl, _⟩ := h
    rfl
  · obtain ⟨a, b, c, xs, es, d, sp, rfl, ha, hc, hb, hsp, hv, k⟩ := h
    refine ⟨_, PSs.nox (pss_cons (ps_set (i := 3) sc_law_pieces.nd rfl (Or.inl rfl) (pe_callTy (dictP (K := K) rfl rfl) (by rfl) T.n_dict (by decide +kernel) (pa_cons (pe_lc (own := [("entry", 8)]) (g := (gName 8)) (tt := tYes) rfl sc_law_pieces.nd (piL (K := K) rfl (pv 0)) (blkOk_by (N := N_law_pieces) (sc := (defScope s_law_pieces)) (by decide +kernel)) (fun _ _ _ _ _ => (pg_name (i := 8) sc_law_pieces.nd rfl (Or.inl rfl))) (fun _ _ _ _ _ => pts_nil) (fun _ _ _ _ _ => (pe_tup (pa_cons (pe_ix (ixT (K := K) rfl) (pv 8) pe_int (fun _ _ => rfl)) (pa_cons (pe_dget2 (hu_of hr) (pv 1) (pe_ix (ixT (K := K) rfl) (pv 8) pe_int (fun _ _ => rfl)) pe_int ⟨rfl, rfl, rfl, rfl⟩) pa_nil))))) pa_nil)))
      (pss_cons (ps_for PassesOwn.never rfl (piL (K := K) rfl (pv 0)) (pg_tup rfl (pgs_cons (pg_name (i := 4) sc_law_pieces.nd rfl (Or.inl rfl)) (pgs_cons (pg_name (i := 5) sc_law_pieces.nd rfl (Or.inl rfl)) (pgs_cons (pg_name (i := 6) sc_law_pieces.nd rfl (Or.inl rfl)) pgs_nil)))) (pss_one (ps_for PassesOwn.never rfl (piL (K := K) rfl (pv 6)) (pg_name (i := 7) sc_law_pieces.nd rfl (Or.inl rfl)) (pss_one (ps_daug (hu_of hr) (pv 3) (pv 7) (pe_dget2 (hu_of hr) (pv 2) (pv 4) pe_int ⟨rfl, rfl, rfl, rfl⟩) in_add (fun _ _ _ => rfl))))))
      (pss_one (ps_ret (pv 3))))), ?_⟩
    have hz := hv.few
    refine ⟨_, rfl, a, rfl, ⟨_, ha⟩, fun D0 hD0 => lc_rel (Tb := Tb) (xs := xs) walk_list rfl (fun _ => true) (ERow H (fun e => getD d e.name)) erow_mono hD0 (by have := Paired.len hc; omega) (fun H' g => g.ext_seq ha) (fun j v H' hvj g hDn Rk Rs hk hs => ?_) fun H0 zs g0 hD00 hzs => ?_⟩
    · obtain ⟨e, he, hev⟩ := Paired.at hc hvj
      obtain ⟨t, lp, rfl, ht0, hlp⟩ := id hev
      have hb' := g.at hb .dK
      refine ⟨rfl, _, rfl, t, _, ((0 : Nat) : Int), _, rfl, rfl, SqT.of (g.at ht0 .tup), atI_nat (j := 0) rfl, _, rfl, b, rfl, IsD.num hb', _, rfl, t, _, ((0 : Nat) : Int), _, rfl, rfl, SqT.of (g.at ht0 .tup), atI_nat (j := 0) rfl, _, dgetO hb' e.name, ?_⟩
      rw [getO]
      exact ⟨by show 2 ≤ sizeLine; decide, fun t2 ht2 => hk _ _ rfl (Gr.new ht2) (ERow.of hev upd_same)⟩
    obtain ⟨pa, rfl, pp⟩ := erow_dict (K := K) (kp := fun _ => true) (fun v e h => rfl) hc hzs
    have ec : ((es.filter fun _ => true).map fun e => (e.name, getD d e.name)) = numOf es (getD d) := by
      rw [List.filter_eq_self.mpr fun _ _ => rfl]
      unfold numOf
      first | rfl | (rw [List.map_map]; rfl)
    rw [ec] at pp
    have ndn : ((numOf es (getD d)).map (·.1)).Nodup := by
      rw [← ec, List.filter_eq_self.mpr fun _ _ => rfl, List.map_map]
      exact hv.nodup
    refine ⟨D0, pa, _, rfl, SqL.of hD00, pp, fun D hD => ?_⟩
    rw [merge_new ndn]
    have g1 := g0.trans (Gr.new (T := Tb) (o := .dK (dS (numOf es (getD d)))) hD)
    have hD1 : (upd H0 D (.dK (dS (numOf es (getD d))))) D = some (.dK (dS (numOf es (getD d)))) := upd_same
    have hDn : Nw H D := g0.nw (.of hD)
    generalize upd H0 D (.dK (dS (numOf es (getD d)))) = H1 at g1 hD1
    refine goN ?_
    dsimp only
    have nD := hDn
    have hlen := Paired.len hc
    refine ⟨_, rfl, a, rfl, ⟨_, g1.ext_seq ha⟩, for_list (K := K) (a := a) (xs := xs) (fun i σ H' => ∃ s4 s5 s6 s7 s8 : Option V, σ = [some (.ref a), some (.ref b), some (.ref c), some (.ref D), s4, s5, s6, s7, s8] ∧ Gr Tb H H' ∧ H' D = some (.dK (dS (numOf es (addAll (getD d) (incs (es.take i) (getD sp)))))))
      ⟨_, _, _, _, _, rfl, g1, by rw [List.take_zero]; exact hD1⟩ (fun i σ H' _ ⟨_, _, _, _, _, _, g, _⟩ => g.ext_seq ha) ?_ ?_⟩
    · rintro i x σ H2 hx ⟨s4, s5, s6, s7, s8, rfl, g2, hD2⟩
      obtain ⟨e, he, t, lp, rfl, ht, hlp⟩ := Paired.at hc hx
      have hm := List.mem_of_getElem? he
      have hlp2 := g2.at hlp .lst
      refine gtup3 (g2.at ht .tup) ⟨_, rfl, lp, rfl, ⟨_, SqL.of hlp2⟩, for_list (K := K) (a := lp) (xs := e.parts.map V.str) (fun j σ H' => ∃ s7 : Option V, σ = [some (.ref a), some (.ref b), some (.ref c), some (.ref D), some (.str e.name), some (.int e.w), some (.ref lp), s7, s8] ∧ Gr Tb H H' ∧
          H' D = some (.dK (dS (numOf es (addAll (addAll (getD d) (incs (es.take i) (getD sp))) ((e.parts.take j).map fun p => (p, getD sp e.name)))))))
        ⟨_, rfl, g2, by rw [List.take_zero]; exact hD2⟩ (fun j σ H' _ ⟨_, _, g, _⟩ => SqL.of (g.at hlp .lst)) ?_ ?_⟩
      · rintro j y σ H3 hy ⟨s7, rfl, g3, hD3⟩
        rw [List.getElem?_map] at hy
        cases hq : e.parts[j]? with
        | none => rw [hq] at hy; cases hy
        | some q =>
          rw [hq] at hy
          cases hy
          have hqm : q ∈ es.map (·.name) := hv.known e hm q (List.mem_of_getElem? hq)
          have hsp3 := g3.at hsp .dK
          refine ⟨_, rfl, _, rfl, D, _, rfl, dgetS hD3 (get?_numOf hqm), _, rfl, c, rfl, IsD.num hsp3, _, rfl, _, dgetO hsp3 e.name, ?_⟩
          rw [getO]
          refine ⟨_, _, rfl, rfl, _, dputS hD3 (by rw [numOf_len, sizeLine_eq]; omega), _, rfl, g3.mut nD hD3 .dK, ?_⟩
          rw [upd_same, put_numOf hqm, take_snoc hq, List.map_append]
          show some (HO.dK (dS (numOf es (upF _ q _)))) = some (HO.dK (dS (numOf es (addAll _ (_ ++ [(q, getD sp e.name)])))))
          rw [addAll_snoc]
      · rintro σ H3 ⟨s7, rfl, g3, hD3⟩
        refine ⟨_, _, _, _, _, rfl, g3, ?_⟩
        rw [List.length_map, List.take_length] at hD3
        rw [incs_snoc he, addAll_append]
        exact hD3
    · rintro σ H2 ⟨s4, s5, s6, s7, s8, rfl, g2, hD2⟩
      rw [hlen, List.take_length] at hD2
      exact ⟨_, rfl, k D H2 g2 nD hD2⟩
end
end Sk
namespace Sk
open PySem PySem.Spec PyProof.Rows L2
theorem ord_w {es : List Ent} (o : Ordered es) {i j : Nat} (h : i < j) {a b : Ent} (ha : es[i]? = some a) (hb : es[j]? = some b) : b.w ≤ a.w := by
  obtain ⟨i1, rfl⟩ := List.getElem?_eq_some_iff.mp ha
  obtain ⟨j1, rfl⟩ := List.getElem?_eq_some_iff.mp hb
  have h1 : kLt es[j].key es[i].key = false := List.pairwise_iff_getElem.mp o i j i1 j1 h
  rcases kLt_no.mp h1 with h2 | ⟨h2, _⟩
  · have h3 : (0 : Int) - es[i].w < 0 - es[j].w := h2
    omega
  · have h3 : (0 : Int) - es[j].w = 0 - es[i].w := h2
    omega
/-- what G tells of the entries -/
def eN (es : List Ent) (G : Ent → Int) : Nat → Int := fun i => match es[i]? with
  | some e => G e
  | none => 0
theorem eN_at {es : List Ent} {i : Nat} {e : Ent} (h : es[i]? = some e) (G : Ent → Int) : eN es G i = G e := by
  unfold eN
  rw [h]
theorem sumN_eN (es : List Ent) (G : Ent → Int) : sumN (eN es G) es.length = (es.map G).sum := by
  have key : ∀ n, n ≤ es.length → sumN (eN es G) n = ((es.take n).map G).sum := by
    intro n
    induction n with
    | zero => intro _; rfl
    | succ n ih =>
      intro h
      have hn : es[n]? = some es[n] := List.getElem?_eq_getElem (by omega)
      rw [take_snoc hn, List.map_append, List.sum_append, ← ih (by omega)]
      show sumN (eN es G) n + eN es G n = _
      rw [eN_at hn]
      show _ = _ + (G es[n] + 0)
      omega
  rw [key _ (Nat.le_refl _), List.take_length]
theorem fsS_head {a : Ent} {es : List Ent} {f : Str → Int} (b : Behind (a :: es)) (nd : a.name ∉ es.map (·.name)) : fsS (a :: es) f a.name = f a.name := by
  show fsS es _ a.name = _
  rw [fsS_other b.2 nd, addAll_at, amt_zero]
  · omega
  · intro q hq
    obtain ⟨p, hp, rfl⟩ := List.mem_map.mp hq
    exact (b.1 p hp).2
/-- the pieces, where all larger kinds are split up -/
theorem full_at : ∀ {es : List Ent} {f c : Str → Int} {i : Nat} {e : Ent}, Behind es → (es.map (·.name)).Nodup → es[i]? = some e → (∀ (k : Nat) (x : Ent), k < i → es[k]? = some x → c x.name = getD (fs es f) x.name) → f e.name + amt (incs es c) e.name = fsS es f e.name
  | [], _, _, _, _, _, _, h, _ => by simp at h
  | a :: es, f, c, 0, e, b, nd, h, _ => by
    rw [List.map_cons, List.nodup_cons] at nd
    simp at h
    subst h
    rw [incs_self b nd.1, fsS_head b nd.1]
    omega
  | a :: es, f, c, i + 1, e, b, nd, h, hk => by
    rw [List.map_cons, List.nodup_cons] at nd
    have h' : es[i]? = some e := by simpa using h
    have ih := full_at (c := c) (f := addAll f (a.parts.map fun p => (p, f a.name))) b.2 nd.2 h' fun k x hlt hx => by
      have h1 := hk (k + 1) x (by omega) (by simpa using hx)
      rw [fs_tail fun z => nd.1 (List.mem_map.mpr ⟨x, List.mem_of_getElem? hx, z.symm⟩)] at h1
      exact h1
    have h0 := hk 0 a (by omega) rfl
    rw [fs_head nd.1] at h0
    rw [addAll_at] at ih
    show _ = fsS es (addAll f (a.parts.map fun p => (p, f a.name))) e.name
    rw [← ih, incs_cons, amt_append]
    by_cases q : a.parts = []
    · rw [q]
      show f e.name + (0 + amt (incs es c) e.name) = f e.name + 0 + amt (incs es c) e.name
      omega
    · rw [if_neg q] at h0
      rw [h0]
      omega
theorem fs_val {es : List Ent} {f : Str → Int} (b : Behind es) (nd : (es.map (·.name)).Nodup) {e : Ent} (he : e ∈ es) : getD (fs es f) e.name = if e.parts = [] then 0 else fsS es f e.name := by
  by_cases q : e.parts = []
  · rw [if_pos q, getD_none]
    intro hm
    rw [fs_final b nd, List.map_map] at hm
    obtain ⟨x, hx, z⟩ := List.mem_map.mp hm
    obtain ⟨x1, x2⟩ := List.mem_filter.mp hx
    obtain rfl := same_name nd x1 he z
    exact of_decide_eq_true x2 q
  · rw [if_neg q, getD_mem (q := (e.name, fsS es f e.name)) (fs_nodup f nd)]
    rw [fs_final b nd]
    exact List.mem_map.mpr ⟨e, List.mem_filter.mpr ⟨he, decide_eq_true q⟩, rfl⟩
theorem fs_get {es : List Ent} {f : Str → Int} (b : Behind es) (nd : (es.map (·.name)).Nodup) {e : Ent} (he : e ∈ es) : get? (fs es f) e.name = if e.parts = [] then none else some (fsS es f e.name) := by
  by_cases q : e.parts = []
  · rw [if_pos q]
    refine get?_none fun hm => ?_
    rw [fs_final b nd, List.map_map] at hm
    obtain ⟨x, hx, z⟩ := List.mem_map.mp hm
    obtain ⟨x1, x2⟩ := List.mem_filter.mp hx
    obtain rfl := same_name nd x1 he z
    exact of_decide_eq_true x2 q
  · rw [if_neg q]
    refine get?_ndm (q := (e.name, fsS es f e.name)) (fs_nodup f nd) ?_
    rw [fs_final b nd]
    exact List.mem_map.mpr ⟨e, List.mem_filter.mpr ⟨he, decide_eq_true q⟩, rfl⟩
/-- the pieces when all is split -/
theorem pn_full {es : List Ent} {d : Num} (b : Behind es) (nd : (es.map (·.name)).Nodup) {e : Ent} (he : e ∈ es) : pn es d (fs es (getD d)) e.name = fsS es (getD d) e.name := by
  obtain ⟨i, hi⟩ := List.mem_iff_getElem?.mp he
  rw [pn_at]
  exact full_at b nd hi fun _ _ _ _ => rfl
end Sk
namespace Sk
open PySem PySem.Spec PyProof.Rows L2
abbrev s_law_total : Stmt := topS 35
abbrev N_law_total : List Str := ["pool", "supply", "taken", "name", "weight", "parts"]
theorem sc_law_total : FnScope N_law_total ["pool", "supply"] (defScope s_law_total) := ⟨rfl, rfl, rfl, by decide +kernel, rfl, by decide +kernel, by decide +kernel⟩
def totS (es' : List Ent) (d : Num) : Int := ((fs es' (getD d)).map (·.2)).sum
def sp_law_total (Tb : List (Addr × Str)) (K : PySem.W.Frag) : Sp := fun vs H Q _ => ∃ (a b : Addr) (xs : List V) (es : List Ent) (d : Num), vs = [.ref a, .ref b] ∧ SqL K H a xs ∧ CatAt H xs es ∧ H b = some (.dK (dS d)) ∧ Valid es ∧
  ∀ H' es', es'.Perm es → Ordered es' → Gr Tb H H' → Q (.int (totS es' d)) H'
theorem CatAt.updDt {H : Hp} {F : Addr} {k : List (Key × V)} {o : HO} {ys : List V} {es : List Ent} (h : CatAt H ys es) (hF : H F = some (.dK k)) : CatAt (upd H F o) ys es := Paired.imp (fun v e ⟨t, l, h0, h1, h2⟩ => ⟨t, l, h0, by
  rw [upd_ne (fun q => by rw [q, hF] at h1; cases h1)]
  exact h1, by
  rw [upd_ne (fun q => by rw [q, hF] at h2; cases h2)]
  exact h2⟩) h
theorem numOf_snoc {l : List Ent} {e : Ent} {f : Str → Int} (h : e.name ∉ l.map (·.name)) : put (numOf l f) e.name (f e.name) = numOf (l ++ [e]) f := by
  rw [put_new' (by rw [numOf_names]; exact h)]
  unfold numOf
  rw [List.map_append]
  rfl
section
variable {P : Program} {w : World} {K : PySem.W.Frag} {mg : Str → Option Value} {base : Heap} {Tb : List (Addr × Str)}
theorem ok_law_total {f : Addr} {fd : FuncData} (F : FnP K "_law_total" s_law_total f fd) (T : Tx K mg) (G_law_order : Fn P w K mg base "_law_order" 1 ["pool"] (sp_law_order Tb K)) (G_law_pieces : Fn P w K mg base "_law_pieces" 1 ["pool", "supply", "taken"] (sp_law_pieces Tb K)) : FnOk P w K mg base CX0 2 f fd ["pool", "supply"] (sp_law_total Tb K) := by
  refine F.ok sc_law_total (fun vs H Q E h => ?_) (fun cdv A outer s H vs Q E hr h => ?_)
  · obtain ⟨_, _, _, _, _, rfl, _⟩ := h
    rfl
  · obtain ⟨a, b, xs, es, d, rfl, ha, hc, hb, hv, k⟩ := h
    refine ⟨_, PSs.nox (pss_cons (ps_set (i := 2) sc_law_total.nd rfl (Or.inl rfl) pe_dnewK)
      (pss_cons (ps_for PassesOwn.never rfl (piL (K := K) rfl (pe_fn G_law_order (hr.mono (by decide)) (pa_cons (pv 0) pa_nil))) (pg_tup rfl (pgs_cons (pg_name (i := 3) sc_law_total.nd rfl (Or.inl rfl)) (pgs_cons (pg_name (i := 4) sc_law_total.nd rfl (Or.inl rfl)) (pgs_cons (pg_name (i := 5) sc_law_total.nd rfl (Or.inl rfl)) pgs_nil)))) (pss_one (ps_dput (hu_of hr) (pv 2) (pv 3) (pe_op op_mul (pe_dget (hu_of hr) (pe_fn G_law_pieces (hr.mono (by decide)) (pa_cons (pv 0) (pa_cons (pv 1) (pa_cons (pv 2) pa_nil)))) (pv 3) (fun _ _ => rfl)) (pe_callTy call_int1 (by rfl) T.n_int (by decide +kernel) (pa_cons (pe_cmpR op_gt (pe_callB (lenS (K := K) rfl) (by rfl) T.n_len (by decide +kernel) (pa_cons (pv 5) pa_nil)) pe_int (nomark _)) pa_nil))) rfl)))
      (pss_one (ps_ret (pe_sumVals rfl (by rfl) T.n_sum (pv 2)))))), ?_⟩
    intro F hF
    have g0 : Gr Tb H (upd H F (.dK [])) := Gr.new hF
    have nF : Nw H F := .of hF
    have hF0 : (upd H F (.dK [])) F = some (.dK (dS [])) := upd_same
    generalize upd H F (.dK []) = H0 at g0 hF0
    refine ⟨_, rfl, a, xs, es, rfl, g0.ext_seq ha, CatAt.gr g0 hc, hv, fun s H2 ys es' hp ho hyx hcy g3 ns hs => ?_⟩
    have g1 := g0.trans g3
    have hF2 := g3.at hF0 .dK
    have hyl := Paired.len hcy
    have hv' := hv.perm hp
    have nd := hv'.nodup
    have bh := hv'.behind ho
    have hfew := hv'.few
    refine ⟨s, rfl, ⟨_, SqL.of hs⟩, for_list (K := K) (a := s) (xs := ys) (fun i σ H' => ∃ s3 s4 s5 : Option V, σ = [some (.ref a), some (.ref b), some (.ref F), s3, s4, s5] ∧ Gr Tb H H' ∧ H' F = some (.dK (dS (numOf (es'.take i) (getD (fs es' (getD d)))))) ∧ H' s = some (.lst ys) ∧ CatAt H' ys es')
      ⟨_, _, _, rfl, g1, by rw [List.take_zero]; exact hF2, hs, CatAt.gr g3 hcy⟩ (fun i σ H' _ ⟨_, _, _, _, _, _, z, _⟩ => SqL.of z) ?_ ?_⟩
    · rintro i x σ H3 hx ⟨s3, s4, s5, rfl, g4, hF3, hs3, hc3⟩
      obtain ⟨e, he, t, lp, rfl, ht, hlp⟩ := Paired.at hc3 hx
      have hem := List.mem_of_getElem? he
      have hi : i < es'.length := (List.getElem?_eq_some_iff.mp he).1
      have hnm : e.name ∈ es.map (·.name) := (hp.map _).mem_iff.mp (List.mem_map.mpr ⟨e, hem, rfl⟩)
      have nn : e.name ∉ (es'.take i).map (·.name) := by
        have h1 : ((es'.take (i + 1)).map (·.name)).Nodup := nd.sublist ((List.take_sublist ..).map _)
        rw [take_snoc he, List.map_append] at h1
        exact fun hm => (List.nodup_append.mp h1).2.2 _ hm _ (List.mem_singleton.mpr rfl) rfl
      have full : pn es' d (numOf (es'.take i) (getD (fs es' (getD d)))) e.name = fsS es' (getD d) e.name := by
        rw [pn_at]
        refine full_at bh nd he fun j y hj hy => ?_
        exact getD_numOf (List.mem_map.mpr ⟨y, List.mem_take_iff_getElem.mpr ⟨j, by have := (List.getElem?_eq_some_iff.mp hy).1; omega, (List.getElem?_eq_some_iff.mp hy).2⟩, rfl⟩)
      rw [pn_perm hp] at full
      refine gtup3 ht ?_
      refine ⟨_, rfl, _, rfl, _, rfl, a, b, F, xs, es, d, _, rfl, g4.ext_seq ha, CatAt.gr g4 hc, g4.at hb .dK, hF3, hv, fun r H4 g5 nr hr => ?_⟩
      refine ⟨_, rfl, r, _, rfl, dgetS hr (get?_numOf hnm), ?_⟩
      rw [full]
      have hlp4 := g5.at hlp .lst
      refine ⟨_, rfl, lp, _, rfl, .inl (SqL.of hlp4), _, _, rfl, rfl, .inr ⟨_, rfl, ?_⟩⟩
      have ev : fsS es' (getD d) e.name * (if decide ((0 : Int) < ((e.parts.map V.str).length : Nat)) = true then 1 else 0) = getD (fs es' (getD d)) e.name := by
        rw [fs_val bh nd hem, List.length_map]
        by_cases q : e.parts = []
        · rw [if_pos q, q]
          show _ * (0 : Int) = 0
          omega
        · rw [if_neg q, if_pos (decide_eq_true (by have := List.length_pos_iff.mpr q; omega))]
          omega
      refine ⟨_, _, rfl, rfl, .inr (by split <;> decide), ?_⟩
      dsimp only
      rw [ev]
      have g6 := g4.trans g5
      have hF4 := g5.at hF3 .dK
      refine ⟨_, rfl, _, rfl, F, _, rfl, dputS hF4 (by rw [numOf_len, List.length_take, sizeLine_eq]; omega), ?_⟩
      rw [numOf_snoc nn, ← take_snoc he]
      refine ⟨_, _, _, rfl, g6.mut nF hF4 .dK, upd_same, ?_, (CatAt.gr g5 hc3).updDt hF4⟩
      rw [upd_ne (fun q => by have := g5.at hs3 .lst; rw [q, hF4] at this; cases this)]
      exact g5.at hs3 .lst
    · rintro σ H3 ⟨s3, s4, s5, rfl, g4, hF3, hs3, hc3⟩
      rw [hyl, List.take_length] at hF3
      refine ⟨_, rfl, ?_⟩
      refine ⟨F, _, es'.map fun e => getD (fs es' (getD d)) e.name, rfl, hF3, ?_, ?_⟩
      · unfold dS numOf
        rw [List.map_map, List.map_map, List.map_map]
        rfl
      have e1 : (es'.map fun e => getD (fs es' (getD d)) e.name).sum = totS es' d := sumE_getD nd (fs_nodup _ nd) fun q hq => fs_names es' _ _ (List.mem_map.mpr ⟨q, hq, rfl⟩)
      rw [e1]
      exact k H3 es' hp ho g4
end
end Sk
namespace Sk
open PySem PySem.Spec PyProof.Rows L2
abbrev s_law_small_supply : Stmt := topS 36
abbrev N_law_small_supply : List Str := ["bag", "pool", "most", "supply", "turn", "name", "more"]
theorem sc_law_small_supply : FnScope N_law_small_supply ["bag", "pool", "most"] (defScope s_law_small_supply) := ⟨rfl, rfl, rfl, by decide +kernel, rfl, by decide +kernel, by decide +kernel⟩
def sp_law_small_supply (Tb : List (Addr × Str)) (K : PySem.W.Frag) : Sp := fun vs H Q _ => ∃ (p a : Addr) (most : Int) (n : Nat) (L : List (Addr × HO)) (G : Hp) (xs : List V) (es : List Ent), vs = [.ref p, .ref a, .int most] ∧ Hb Tb p n L G H ∧ n + 1000 < 1000000000 ∧ G a = some (.lst xs) ∧ CatAt G xs es ∧ MadeC es ∧ 0 ≤ most ∧
  ∀ r H' (d : Num), StockOk es d → (∀ q ∈ d, q.2 ≤ 7) → (∀ es', es'.Perm es → Ordered es' → totS es' d ≤ most) → Hb Tb p (n + 1000) ((r, .dK (dS d)) :: L) G H' → Q (.ref r) H'
theorem tot_nil (es : List Ent) : totS es [] = 0 := by
  unfold totS
  have key : ∀ (l : List Ent) (f : Str → Int), (∀ x, f x = 0) → ((fs l f).map (·.2)).sum = 0 := by
    intro l
    induction l with
    | nil => intro f _; rfl
    | cons e l ih =>
      intro f h
      have h2 : ∀ x, addAll f (e.parts.map fun p => (p, f e.name)) x = 0 := fun x => by
        rw [addAll_at, h x, h e.name]
        have : amt (e.parts.map fun p => (p, (0 : Int))) x = 0 := by
          induction e.parts with
          | nil => rfl
          | cons p ps ih2 =>
            rw [List.map_cons, amt_cons, ih2]
            show (if p = x then (0 : Int) else 0) + 0 = 0
            split <;> rfl
        rw [this]
        rfl
      rw [fs, List.map_append, List.sum_append, ih _ h2]
      split
      · rfl
      · show f e.name + 0 + 0 = 0
        rw [h]
        rfl
  exact key es _ fun x => rfl
section
variable {P : Program} {w : World} {K : PySem.W.Frag} {mg : Str → Option Value} {base : Heap} {Tb : List (Addr × Str)}
theorem ok_law_small_supply {f : Addr} {fd : FuncData} (F : FnP K "_law_small_supply" s_law_small_supply f fd) (T : Tx K mg) (G_law_draw : Fn P w K mg base "_law_draw" 1 ["bag", "many"] (sp_law_draw Tb K)) (G_law_total : Fn P w K mg base "_law_total" 2 ["pool", "supply"] (sp_law_total Tb K)) : FnOk P w K mg base CX0 3 f fd ["bag", "pool", "most"] (sp_law_small_supply Tb K) := by
  refine F.ok sc_law_small_supply (fun vs H Q E h => ?_) (fun cdv A outer s H vs Q E hr h => ?_)
  · obtain ⟨_, _, _, _, _, _, _, _, rfl, _⟩ := h
    rfl
  · obtain ⟨p, a, most, n, L, G, xs, es, rfl, hs, hn, ha, hc, hmd, hm, k⟩ := h
    refine ⟨_, PSs.nox (pss_cons (ps_set (i := 3) sc_law_small_supply.nd rfl (Or.inl rfl) pe_dnewK)
      (pss_cons (ps_for PassesOwn.never rfl (pi_range1 (by rfl) T.n_range (pa_cons (pe_fn G_law_draw (hr.mono (by decide)) (pa_cons (pv 0) (pa_cons pe_int pa_nil))) pa_nil)) (pg_name (i := 4) sc_law_small_supply.nd rfl (Or.inl rfl)) (pss_cons (ps_set (i := 5) sc_law_small_supply.nd rfl (Or.inl rfl) (pe_ix (ixT (K := K) rfl) (pe_ix (ixL (K := K) rfl) (pv 1) (pe_fn G_law_draw (hr.mono (by decide)) (pa_cons (pv 0) (pa_cons (pe_callB (lenS (K := K) rfl) (by rfl) T.n_len (by decide +kernel) (pa_cons (pv 1) pa_nil)) pa_nil))) (fun _ _ => rfl)) pe_int (fun _ _ => rfl)))
        (pss_cons (ps_set (i := 6) sc_law_small_supply.nd rfl (Or.inl rfl) (pe_callTy (dictP (K := K) rfl rfl) (by rfl) T.n_dict (by decide +kernel) (pa_cons (pe_op op_cat (LiI.pe_listItems rfl (pv 3) (by rfl) T.n_list (by decide +kernel)) (pe_lst (pa_cons (pe_tup (pa_cons (pv 5) (pa_cons (pe_op op_add (pe_dget2 (hu_of hr) (pv 3) (pv 5) pe_int ⟨rfl, rfl, rfl, rfl⟩) pe_int) pa_nil))) pa_nil))) pa_nil)))
        (pss_one (ps_if (pt_cmpR op_le (pe_fn G_law_total (hr.mono (by decide)) (pa_cons (pv 1) (pa_cons (pv 6) pa_nil))) (pv 2) (nomark _)) (pss_one (ps_set (i := 3) sc_law_small_supply.nd rfl (Or.inl rfl) (pv 6))) pss_nil)))))
      (pss_one (ps_ret (pv 3))))), ?_⟩
    have hv := hmd.v
    have hxl := Paired.len hc
    have hfew := hmd.few
    have hne : es.length ≠ 0 := fun z => hv.ne (List.length_eq_zero_iff.mp z)
    intro F hF
    have h1 := hs.new hF (.dK (xs := []))
    refine ⟨_, rfl, p, _, _, G, 7, rfl, h1, by omega, by decide, by decide +kernel, fun u H1 u0 u1 h2 => ?_⟩
    refine ⟨_, rfl, by omega, by omega, for_range (lo := 0) (n := u.toNat) (fun i σ H' => ∃ (D : Addr) (c : Num) (s4 s5 s6 : Option V), σ = [some (.ref p), some (.ref a), some (.int most), some (.ref D), s4, s5, s6] ∧ StockOk es c ∧ (∀ q ∈ c, q.2 ≤ i) ∧ (∀ es', es'.Perm es → Ordered es' → totS es' c ≤ most) ∧ Hb Tb p (n + 1 + 10 * i) ((D, .dK (dS c)) :: L) G H')
      ⟨F, [], _, _, _, rfl, ⟨List.nodup_nil, by decide, by simp, by simp⟩, by simp, fun es' _ _ => by rw [tot_nil]; exact hm, h2⟩ ?_ ?_⟩
    · rintro i σ H2 hi ⟨D, c, s4, s5, s6, rfl, sok, small, tok, h3⟩
      have hi6 : i < 7 := by omega
      refine goN ?_
      dsimp only
      refine ⟨_, rfl, _, rfl, _, rfl, a, _, rfl, .inl (SqL.of (h3.fzat ha)), p, _, _, G, _, rfl, h3, by omega, ?_, ?_, fun j H3 j0 j1 h4 => ?_⟩
      · rw [hxl]; omega
      · rw [hxl]
        exact Int.lt_of_le_of_lt (show (es.length : Int) ≤ 20 by omega) (by decide +kernel)
      have hj : j.toNat < es.length := by rw [hxl] at j1; omega
      obtain ⟨e, he⟩ : ∃ e, es[j.toNat]? = some e := ⟨_, List.getElem?_eq_getElem hj⟩
      have hem := List.mem_of_getElem? he
      have hnm : e.name ∈ es.map (·.name) := List.mem_map.mpr ⟨e, hem, rfl⟩
      obtain ⟨x, hx, hev⟩ : ∃ x, xs[j.toNat]? = some x ∧ EntAt G x e := by
        obtain ⟨x, hx⟩ : ∃ x, xs[j.toNat]? = some x := ⟨_, List.getElem?_eq_getElem (by omega)⟩
        obtain ⟨e', he', hev⟩ := Paired.at hc hx
        rw [he] at he'
        cases he'
        exact ⟨x, hx, hev⟩
      obtain ⟨t, lp, rfl, ht, hlp⟩ := hev
      have ej : j = (j.toNat : Int) := (Int.toNat_of_nonneg j0).symm
      refine ⟨a, xs, j, _, rfl, rfl, SqL.of (h4.fzat ha), by rw [ej]; exact atI_nat hx, ?_⟩
      refine ⟨t, _, _, _, rfl, rfl, SqT.of (h4.fzat ht), atI_nat (j := 0) rfl, ?_⟩
      refine goN ?_
      dsimp only
      have hD4 := h4.get (i := 0) rfl
      refine ⟨_, rfl, D, _, rfl, hD4, fun H5 p5 ts old fr tsf pn hp5 hts => ?_⟩
      have g5 : Gr Tb H3 H5 := Gr.same old
      have h5 := h4.gr g5
      have hD5 := h5.get (i := 0) rfl
      refine ⟨_, rfl, _, rfl, D, rfl, IsD.num hD5, _, rfl, _, dgetO hD5 e.name, ?_⟩
      rw [getO]
      refine ⟨_, _, rfl, rfl, by show 2 ≤ sizeLine; decide, fun t6 ht6 => ⟨by show 1 ≤ sizeLine; decide, fun l7 hl7 => ?_⟩⟩
      have g6 := Gr.new (T := Tb) (o := .tup [.str e.name, .int (getD c e.name + 1)]) ht6
      have g7 := Gr.new (T := Tb) (o := .lst [.ref t6]) hl7
      have h7 := (h5.gr g6).gr g7
      have ht7 := g7.at (show (upd H5 t6 (.tup [.str e.name, .int (getD c e.name + 1)])) t6 = some (.tup [.str e.name, .int (getD c e.name + 1)]) from upd_same) .tup
      have hl7' : (upd (upd H5 t6 (.tup [.str e.name, .int (getD c e.name + 1)])) l7 (.lst [.ref t6])) l7 = some (.lst [.ref t6]) := upd_same
      have g57 := g6.trans g7
      have hp7 := g57.at hp5 .lst
      have hts7 : Paired (fun (t : Addr) (q : Key × V) => (upd (upd H5 t6 (.tup [.str e.name, .int (getD c e.name + 1)])) l7 (.lst [.ref t6])) t = some (.tup [kV q.1, q.2])) ts (dS c) := Paired.imp (fun t q z => g57.at z .tup) hts
      generalize upd (upd H5 t6 (.tup [.str e.name, .int (getD c e.name + 1)])) l7 (.lst [.ref t6]) = H7 at h7 ht7 hl7' hp7 hts7
      have tl := Paired.len hts7
      rw [dS_len] at tl
      have cf := sok.few
      refine ⟨p5, l7, ts.map V.ref, [.ref t6], rfl, rfl, hp7, hl7', by rw [List.length_map, tl, sizeLine_eq]; show c.length + 1 ≤ _; omega, fun l8 hl8 => ?_⟩
      have g8 := Gr.new (T := Tb) (o := .lst (ts.map V.ref ++ [.ref t6])) hl8
      have h8 := h7.gr g8
      have ht8 := g8.at ht7 .tup
      have hts8 : Paired (fun (t : Addr) (q : Key × V) => (upd H7 l8 (.lst (ts.map V.ref ++ [.ref t6]))) t = some (.tup [kV q.1, q.2])) ts (dS c) := Paired.imp (fun t q z => g8.at z .tup) hts7
      have hl8' : (upd H7 l8 (.lst (ts.map V.ref ++ [.ref t6]))) l8 = some (.lst ((ts ++ [t6]).map V.ref)) := by rw [upd_same, List.map_append]; rfl
      generalize upd H7 l8 (.lst (ts.map V.ref ++ [.ref t6])) = H8 at h8 ht8 hts8 hl8'
      refine ⟨l8, ts ++ [t6], dS c ++ [(Sum.inr e.name, .int (getD c e.name + 1))], rfl, SqL.of hl8', Paired.app (Paired.imp (fun t q z => SqT.of z) hts8) (.cons (show SqT K H8 t6 [kV (Sum.inr e.name), .int (getD c e.name + 1)] from SqT.of ht8) .nil), fun m hm9 => ?_⟩
      have em : mergeK [] (dS c ++ [((Sum.inr e.name : Key), V.int (getD c e.name + 1))]) = dS (put c e.name (getD c e.name + 1)) := by
        have : mergeK [] (dS c ++ [((Sum.inr e.name : Key), V.int (getD c e.name + 1))]) = putK (mergeK [] (dS c)) (Sum.inr e.name) (V.int (getD c e.name + 1)) := by
          unfold mergeK
          rw [List.foldl_append]
          rfl
        rw [this, merge_new sok.nd, putK_dS]
      rw [em]
      have h9 := h8.new hm9 (.dK (xs := dS (put c e.name (getD c e.name + 1))))
      obtain ⟨o1, o2, o3⟩ := put_ok sok.nd sok.known hnm (getD c e.name + 1)
      have ckn := sok.pos
      have sok' : StockOk es (put c e.name (getD c e.name + 1)) := ⟨o1, by omega, o2, fun q hq => by
        rw [← getD_mem o1 hq, getD_put]
        split
        · have := getD_nonneg ckn e.name
          omega
        · exact getD_nonneg ckn _⟩
      have small' : ∀ q ∈ put c e.name (getD c e.name + 1), q.2 ≤ ((i + 1 : Nat) : Int) := fun q hq => by
        have cl : ∀ x, getD c x ≤ i := fun x => by
          by_cases hx : x ∈ c.map (·.1)
          · obtain ⟨q, hq, rfl⟩ := List.mem_map.mp hx
            rw [getD_mem sok.nd hq]
            exact small q hq
          · rw [getD_none hx]
            omega
        rw [← getD_mem o1 hq, getD_put]
        have a1 := cl e.name
        have a2 := cl q.1
        split <;> omega
      refine goN ?_
      dsimp only
      refine ⟨_, rfl, _, rfl, a, m, xs, es, _, rfl, SqL.of (h9.fzat ha), hc.mono h9.fz.sub, h9.get (i := 0) rfl, hv, fun H10 es' hp' ho' g10 => ?_⟩
      have h10 := h9.gr g10
      refine ⟨_, rfl, _, _, rfl, rfl, _, rfl, ?_⟩
      refine ite2 (fun c1 => ?_) (fun c1 => ?_)
      · refine ⟨_, rfl, ?_⟩
        refine ⟨m, _, _, _, _, rfl, sok', small', fun es2 p2 o2 => ?_, h10.drop2.mono (by omega)⟩
        rw [ordered_unique (p2.trans hp'.symm) o2 ho' ((p2.map _).nodup_iff.mpr hv.nodup)]
        exact of_decide_eq_true c1
      · refine ⟨D, c, _, _, _, rfl, sok, fun q hq => ?_, tok, h10.drop1.mono (by omega)⟩
        have := small q hq
        omega
    · rintro σ H2 ⟨D, c, s4, s5, s6, rfl, sok, small, tok, h3⟩
      refine ⟨_, rfl, k D H2 c sok (fun q hq => ?_) tok (h3.mono (by omega))⟩
      have := small q hq
      omega
end
end Sk
namespace Sk
open PySem PySem.Spec PyProof.Rows L2
theorem amt_zero0 {l : Num} {x : Str} (h : ∀ q ∈ l, q.2 = 0) : amt l x = 0 := by
  induction l with
  | nil => rfl
  | cons q l ih =>
    rw [amt_cons, h q (List.mem_cons_self ..), ih fun z hz => h z (List.mem_cons_of_mem _ hz)]
    split <;> rfl
theorem pn_nil (es : List Ent) (st : Num) (x : Str) : pn es st [] x = getD st x := by
  rw [pn_at, amt_zero0]
  · omega
  · intro q hq
    unfold incs at hq
    obtain ⟨e, _, h2⟩ := List.mem_flatMap.mp hq
    obtain ⟨p, _, rfl⟩ := List.mem_map.mp h2
    rfl
/-- splits of one kind more -/
theorem pn_app {es : List Ent} (nd : (es.map (·.name)).Nodup) {e0 : Ent} (h0 : e0 ∈ es) (st : Num) {c : Num} (hn : e0.name ∉ c.map (·.1)) (z : Int) (x : Str) : pn es st (c ++ [(e0.name, z)]) x = pn es st c x + z * amt (ones e0.parts) x := by
  rw [pn_at, pn_at, amt_incs', amt_incs', Int.add_assoc]
  congr 1
  induction es with
  | nil => cases h0
  | cons e es ih =>
    rw [List.map_cons, List.sum_cons, List.map_cons, List.sum_cons]
    rw [List.map_cons, List.nodup_cons] at nd
    rcases List.mem_cons.mp h0 with rfl | h0
    · have h1 : (es.map fun e => getD (c ++ [(e0.name, z)]) e.name * amt (ones e.parts) x) = es.map fun e => getD c e.name * amt (ones e.parts) x := List.map_congr_left fun a ha => by
        rw [getD_app hn, if_neg fun z => nd.1 (List.mem_map.mpr ⟨a, ha, z⟩)]
      rw [h1, getD_app hn, if_pos rfl, getD_none hn, Int.zero_mul]
      omega
    · rw [ih nd.2 h0, getD_app hn, if_neg (show ¬ e.name = e0.name from fun z => nd.1 (List.mem_map.mpr ⟨e0, h0, z.symm⟩))]
      omega
end Sk
namespace Sk
open PySem PySem.Spec PyProof.Rows L2
/-- entries stand when a dict is written -/
theorem EntAt.updD {H : Hp} {W : Addr} {ks : List (Key × V)} {o : HO} {v : V} {e : Ent} (h : H W = some (.dK ks)) (he : EntAt H v e) : EntAt (upd H W o) v e := by
  obtain ⟨t, l, rfl, h1, h2⟩ := he
  refine ⟨t, l, rfl, ?_, ?_⟩
  · rw [upd_ne fun z => by rw [z, h] at h1; cases h1]
    exact h1
  · rw [upd_ne fun z => by rw [z, h] at h2; cases h2]
    exact h2
theorem CatAt.updD {H : Hp} {W : Addr} {ks : List (Key × V)} {o : HO} (h : H W = some (.dK ks)) : ∀ {vs : List V} {es : List Ent}, CatAt H vs es → CatAt (upd H W o) vs es
  | _, _, .nil => .nil
  | _, _, .cons a t => .cons (a.updD h) (CatAt.updD h t)
/-- w with c more for each of l -/
structure PAt (es : List Ent) (w : Num) (l : List Str) (c : Int) (w2 : Num) : Prop where
  nd : (w2.map (·.1)).Nodup
  known : ∀ q ∈ w2, q.1 ∈ es.map (·.name)
  val : ∀ x, getD w2 x = getD w x + amt (l.map fun p => (p, c)) x
  has : ∀ x ∈ w.map (·.1), x ∈ w2.map (·.1)
theorem PAt.start {es : List Ent} {w : Num} (nd : (w.map (·.1)).Nodup) (known : ∀ q ∈ w, q.1 ∈ es.map (·.name)) (c : Int) : PAt es w [] c w := ⟨nd, known, fun x => by show _ = _ + 0; omega, fun _ h => h⟩
theorem PAt.step {es : List Ent} {w w2 : Num} {l : List Str} {c : Int} (h : PAt es w l c w2) {p : Str} (hp : p ∈ es.map (·.name)) : PAt es w (l ++ [p]) c (put w2 p (getD w2 p + c)) := by
  obtain ⟨h1, h2, _⟩ := put_ok h.nd h.known hp (getD w2 p + c)
  refine ⟨h1, h2, fun x => ?_, fun x hx => (put_keys w2 p x _).mpr (.inr (h.has x hx))⟩
  rw [getD_put, List.map_append, amt_append]
  have e : amt (([p] : List Str).map fun p => (p, c)) x = if p = x then c else 0 := by
    show amt [(p, c)] x = _
    rw [amt_cons]
    exact Int.add_zero _
  rw [e, h.val, h.val]
  by_cases q : x = p
  · rw [if_pos q, if_pos q.symm, q]
    omega
  · rw [if_neg q, if_neg fun z => q z.symm]
    omega
theorem PAt.len {es : List Ent} {w w2 : Num} {l : List Str} {c : Int} (h : PAt es w l c w2) : w2.length ≤ es.length := by
  have h1 := nodup_len (m := es.map (·.name)) h.nd fun y hy => by
    obtain ⟨q, hq, rfl⟩ := List.mem_map.mp hy
    exact h.known q hq
  rw [List.length_map, List.length_map] at h1
  exact h1
theorem get?_has {w : Num} {x : Str} (h : x ∈ w.map (·.1)) : get? w x = some (getD w x) := by
  obtain ⟨i, hi⟩ := get?_of_mem h
  unfold getD
  rw [hi]
  rfl
end Sk
namespace Sk
open PySem PySem.Spec PyProof.Rows L2
abbrev s_law_splits : Stmt := topS 38
abbrev N_law_splits : List Str := ["bag", "pool", "supply", "taken", "name", "weight", "parts", "have", "some"]
theorem sc_law_splits : FnScope N_law_splits ["bag", "pool", "supply"] (defScope s_law_splits) := ⟨rfl, rfl, rfl, by decide +kernel, rfl, by decide +kernel, by decide +kernel⟩
def sp_law_splits (Tb : List (Addr × Str)) (K : PySem.W.Frag) : Sp := fun vs H Q _ => ∃ (p a b : Addr) (n : Nat) (L : List (Addr × HO)) (G : Hp) (xs : List V) (es : List Ent) (st : Num), vs = [.ref p, .ref a, .ref b] ∧ Hb Tb p n L G H ∧ n + 1000 < 1000000000 ∧ G a = some (.lst xs) ∧ G b = some (.dK (dS st)) ∧ CatAt G xs es ∧ MadeC es ∧ StockOk es st ∧ (∀ q ∈ st, q.2 ≤ 10 ^ 30) ∧
  ∀ r H' (c : Num), SplitsOk es st c → (∀ q ∈ c, 0 ≤ q.2 ∧ q.2 < 2 ^ 190) → Hb Tb p (n + 1000) ((r, .dK (dS c)) :: L) G H' → Q (.ref r) H'
section
variable {P : Program} {w : World} {K : PySem.W.Frag} {mg : Str → Option Value} {base : Heap} {Tb : List (Addr × Str)}
theorem ok_law_splits {f : Addr} {fd : FuncData} (F : FnP K "_law_splits" s_law_splits f fd) (T : Tx K mg) (G_law_draw : Fn P w K mg base "_law_draw" 1 ["bag", "many"] (sp_law_draw Tb K)) (G_law_order : Fn P w K mg base "_law_order" 1 ["pool"] (sp_law_order Tb K)) (G_law_pieces : Fn P w K mg base "_law_pieces" 1 ["pool", "supply", "taken"] (sp_law_pieces Tb K)) : FnOk P w K mg base CX0 2 f fd ["bag", "pool", "supply"] (sp_law_splits Tb K) := by
  refine F.ok sc_law_splits (fun vs H Q E h => ?_) (fun cdv A outer s H vs Q E hr h => ?_)
  · obtain ⟨_, _, _, _, _, _, _, _, _, rfl, _⟩ := h
    rfl
  · obtain ⟨p, a, b, n, L, G, xs, es, st, rfl, hs, hn, ha, hb, hc, hm, so, sm, k⟩ := h
    refine ⟨_, PSs.nox (pss_cons (ps_set (i := 3) sc_law_splits.nd rfl (Or.inl rfl) pe_dnewK)
      (pss_cons (ps_for PassesOwn.never rfl (piL (K := K) rfl (pe_fn G_law_order (hr.mono (by decide)) (pa_cons (pv 1) pa_nil))) (pg_tup rfl (pgs_cons (pg_name (i := 4) sc_law_splits.nd rfl (Or.inl rfl)) (pgs_cons (pg_name (i := 5) sc_law_splits.nd rfl (Or.inl rfl)) (pgs_cons (pg_name (i := 6) sc_law_splits.nd rfl (Or.inl rfl)) pgs_nil)))) (pss_cons (ps_set (i := 7) sc_law_splits.nd rfl (Or.inl rfl) (pe_dget (hu_of hr) (pe_fn G_law_pieces (hr.mono (by decide)) (pa_cons (pv 1) (pa_cons (pv 2) (pa_cons (pv 3) pa_nil)))) (pv 4) (fun _ _ => rfl)))
        (pss_one (ps_if (PW.pt (pw_and (pt_cmpR op_gt (pe_callB (lenS (K := K) rfl) (by rfl) T.n_len (by decide +kernel) (pa_cons (pv 6) pa_nil)) pe_int (nomark _)) (pw_and1 (pt_cmpR op_gt (pv 7) pe_int (nomark _))))) (pss_cons (ps_set (i := 8) sc_law_splits.nd rfl (Or.inl rfl) (pe_fn G_law_draw (hr.mono (by decide)) (pa_cons (pv 0) (pa_cons (pe_op op_add (pe_callB (call_min2 rfl) (by rfl) T.n_min (by decide +kernel) (pa_cons (pv 7) (pa_cons (pe_op op_pow pe_int pe_int) pa_nil))) pe_int) pa_nil))))
          (pss_one (ps_dput (hu_of hr) (pv 3) (pv 4) (pe_ix (ixT (K := K) rfl) (pe_tup (pa_cons pe_int (pa_cons (pv 7) (pa_cons (pv 8) (pa_cons (pv 8) pa_nil))))) (pe_fn G_law_draw (hr.mono (by decide)) (pa_cons (pv 0) (pa_cons pe_int pa_nil))) (fun _ _ => rfl)) rfl))) pss_nil))))
      (pss_one (ps_ret (pv 3))))), ?_⟩
    have hv := hm.v
    have hz := hv.few
    have hl := Paired.len hc
    have hm20 := hm.few
    have fewp6 : ∀ e ∈ es, e.parts.length ≤ 6 := fun e he => Nat.le_trans (hm.fewp e he) (by decide)
    have e14 : (10 : Int) ^ Int.toNat 14 = 100000000000000 := by decide
    intro F hF
    have h1 := hs.new hF (.dK (xs := []))
    refine ⟨_, rfl, a, xs, es, rfl, SqL.of (h1.fzat ha), hc.mono h1.fz.sub, hv, fun s H2 ys es' hp ho hyx hcy0 g3 ns hs0 => ?_⟩
    have hcy : CatAt G ys es' := hc.backM h1.fz.sub hyx hcy0
    have h4 := h1.grow g3 ns hs0 .lst
    clear h1 hcy0 hs0 hs
    have hyl := Paired.len hcy
    have hv' := hv.perm hp
    have hel := hp.length_eq
    refine ⟨s, rfl, ⟨_, SqL.of (h4.get (i := 0) rfl)⟩, for_list (K := K) (a := s) (xs := ys) (fun i σ H' => ∃ (c : Num) (s4 s5 s6 s7 s8 : Option V), σ = [some (.ref p), some (.ref a), some (.ref b), some (.ref F), s4, s5, s6, s7, s8] ∧ CutsAt es es' st i c ∧ Hb Tb p (n + 2 * i) ((s, .lst ys) :: (F, .dK (dS c)) :: L) G H')
      ⟨[], _, _, _, _, _, rfl, ⟨List.nodup_nil, Nat.le_refl _, by simp, fun e he => ⟨Int.le_refl _, ?_⟩, by simp, by decide⟩, h4⟩ (fun i σ H' _ ⟨_, _, _, _, _, _, _, _, h⟩ => SqL.of (h.get (i := 0) rfl)) ?_ ?_⟩
    · show (0 : Int) ≤ _
      split
      · exact Int.le_refl _
      · exact pn_nonneg' so.pos (by simp) _
    · rintro i x σ H3 hx ⟨c, s4, s5, s6, s7, s8, rfl, hca, h5⟩
      obtain ⟨e, he, hev⟩ := Paired.at hcy hx
      have hi' : i < es'.length := (List.getElem?_eq_some_iff.mp he).1
      obtain ⟨t, lp, rfl, ht, hlp⟩ := hev
      have hem : e ∈ es := hp.mem_iff.mp (List.mem_of_getElem? he)
      have hnm : e.name ∈ es.map (·.name) := List.mem_map.mpr ⟨e, hem, rfl⟩
      have hpn0 := pn_nonneg' (es := es) so.pos hca.pos e.name
      have kp := hca.keep he
      refine gtup3 (h5.fzat ht) ?_
      refine goN ?_
      dsimp only
      refine ⟨_, rfl, _, rfl, _, rfl, a, b, F, xs, es, st, c, rfl, SqL.of (h5.fzat ha), hc.mono h5.fz.sub, h5.fzat hb, h5.get (i := 1) rfl, hv, fun r H4 g4 n4 hr4 => ?_⟩
      refine ⟨_, rfl, r, _, rfl, dgetS hr4 (get?_numOf hnm), ?_⟩
      have h6 := h5.gr g4
      refine goN ?_
      dsimp only
      generalize hM : pn es st c e.name = M at hpn0
      refine ⟨_, rfl, lp, _, rfl, .inl (SqL.of (h6.fzat hlp)), _, _, rfl, rfl, _, rfl, ?_⟩
      refine ite2 (fun c1 => ?_) (fun c1 => ⟨c, _, _, _, _, _, rfl, kp, h6.mono (by omega)⟩)
      refine ⟨_, rfl, _, _, rfl, rfl, _, rfl, ?_⟩
      refine ite2 (fun c2 => ?_) (fun c2 => ⟨c, _, _, _, _, _, rfl, kp, h6.mono (by omega)⟩)
      have M0 := of_decide_eq_true c2
      have ne : e.parts ≠ [] := fun z => by
        have := of_decide_eq_true c1
        rw [z] at this
        simp at this
      have mn0 : 0 ≤ (if (10 : Int) ^ Int.toNat 14 < M then (10 : Int) ^ Int.toNat 14 else M) ∧ (if (10 : Int) ^ Int.toNat 14 < M then (10 : Int) ^ Int.toNat 14 else M) ≤ M ∧ (if (10 : Int) ^ Int.toNat 14 < M then (10 : Int) ^ Int.toNat 14 else M) ≤ 100000000000000 := by
        rw [e14]
        split <;> omega
      refine ⟨_, rfl, _, rfl, _, _, rfl, rfl, ⟨by decide, by decide, by decide⟩, _, _, rfl, _, _, rfl, rfl, p, _, _, G, _, rfl, h6, by omega, by omega, Int.lt_of_le_of_lt (show (if (10 : Int) ^ Int.toNat 14 < M then (10 : Int) ^ Int.toNat 14 else M) + 1 ≤ 100000000000001 by omega) (by decide +kernel), fun u H5 u0 u1 h7 => ?_⟩
      refine goN ?_
      dsimp only
      refine ⟨_, rfl, _, rfl, _, rfl, by show 4 ≤ sizeLine; decide, fun t2 ht2 => ?_⟩
      have h8 := h7.new ht2 (.tup (xs := [.int 0, .int M, .int u, .int u]))
      refine ⟨_, rfl, p, _, _, G, 4, rfl, h8, by omega, by decide, by decide +kernel, fun d4 H6 d40 d41 h9 => ?_⟩
      obtain ⟨z, ez, z0, z1⟩ := pick_int (P := fun i => 0 ≤ i ∧ i ≤ M) [0, M, u, u] rfl d40 d41 (by
        intro w hw
        simp only [List.mem_cons, List.not_mem_nil, or_false] at hw
        rcases hw with rfl | rfl | rfl | rfl <;> omega)
      refine ⟨t2, _, _, _, rfl, rfl, SqT.of (h9.get (i := 0) rfl), ez, ?_⟩
      have h10 := h9.drop1
      have z1' : z ≤ if e.parts = [] then 0 else pn es st c e.name := by
        rw [if_neg ne, hM]
        exact z1
      obtain ⟨nn, stp⟩ := hca.step he hp hv fewp6 sm so.nd z0 z1'
      have sz : c.length < sizeLine := by have := hca.len; rw [sizeLine_eq]; omega
      refine ⟨_, rfl, _, rfl, F, _, rfl, dputS (h10.get (i := 1) rfl) sz, ?_⟩
      have h11 := h10.put (i := 1) (o' := .dK (dS (put c e.name z))) rfl .dK
      rw [put_new' nn] at h11 ⊢
      exact ⟨c ++ [(e.name, z)], _, _, _, _, _, rfl, stp, h11.mono (by omega)⟩
    · rintro σ H3 ⟨c, s4, s5, s6, s7, s8, rfl, hca, h5⟩
      rw [hyl] at hca h5
      have hcl := hca.len
      refine ⟨_, rfl, k F H3 c ⟨hca.nd, by omega, fun q hq => ?_, hca.fits⟩ (fun q hq => hca.small (by omega) q hq) (h5.drop1.mono (by omega))⟩
      have := hca.known q hq
      rw [List.map_take] at this
      exact (hp.map _).mem_iff.mp (List.mem_of_mem_take this)
end
end Sk
namespace Sk
open PySem PySem.Spec PyProof.Rows L2
abbrev s_law_spoilt_catalogue : Stmt := topS 40
abbrev N_law_spoilt_catalogue : List Str := ["bag", "pool", "found", "way_now", "at", "name", "weight", "parts"]
theorem sc_law_spoilt_catalogue : FnScope N_law_spoilt_catalogue ["bag", "pool"] (defScope s_law_spoilt_catalogue) := ⟨rfl, rfl, rfl, by decide +kernel, rfl, by decide +kernel, by decide +kernel⟩
/-- a catalogue that may be spoilt, but not too large -/
structure SpoC (es es' : List Ent) : Prop where
  val : es' = es ∨ ¬ Valid es'
  len : es'.length ≤ es.length + 1
  ent : ∀ e ∈ es', e.name.length ≤ 9 ∧ e.parts.length ≤ 4
def sp_law_spoilt_catalogue (Tb : List (Addr × Str)) (K : PySem.W.Frag) : Sp := fun vs H Q _ => ∃ (p a : Addr) (n : Nat) (L : List (Addr × HO)) (G : Hp) (xs : List V) (es : List Ent), vs = [.ref p, .ref a] ∧ Hb Tb p n L G H ∧ n + 1000 < 1000000000 ∧ G a = some (.lst xs) ∧ CatAt G xs es ∧ MadeC es ∧
  ∀ r H' G' ys es', Same G G' → CatAt G' ys es' → SpoC es es' → Hb Tb p (n + 1000) ((r, .lst ys) :: L) G' H' → Q (.ref r) H'
theorem bad_name {es : List Ent} {e : Ent} (h : e ∈ es) (hn : nameB e.name = false) : ¬ Valid es := fun v => by
  have := v.names e h
  rw [hn] at this
  cases this
theorem paired_setE {α β : Type} {R : α → β → Prop} : ∀ {xs : List α} {ys : List β} (i : Nat) {x : α} {y : β}, Paired R xs ys → R x y → Paired R (xs.set i x) (ys.set i y)
  | _, _, _, _, _, .nil, _ => .nil
  | _, _, 0, _, _, .cons _ t, h => .cons h t
  | _, _, i + 1, _, _, .cons a t, h => .cons a (paired_setE i t h)
theorem ixN_natE {n i : Nat} (h : i < n) : ixN n (i : Int) = some i := by
  unfold ixN
  rw [if_pos (by omega), if_pos (by omega)]
  simp
theorem set_memE {α : Type} {es : List α} {i : Nat} {e : α} (h : i < es.length) : e ∈ es.set i e := List.mem_iff_getElem.mpr ⟨i, by rw [List.length_set]; exact h, List.getElem_set_self _⟩
/-- an entry is put in the place of another one -/
theorem spo_set {T : List (Addr × Str)} {p f t lp : Addr} {m : Nat} {L : List (Addr × HO)} {G' H1 : Hp} {ys : List V} {es' : List Ent} {nm : Str} {w : Int} {ps : List Str} (h : Hb T p m ((f, .lst ys) :: L) G' H1) (ht : H1 t = none) (hlp : G' lp = some (.lst (ps.map V.str))) (hc : CatAt G' ys es') (j : Nat) :
    ∃ G'', Same G' G'' ∧ CatAt G'' (ys.set j (.ref t)) (es'.set j ⟨nm, w, ps⟩) ∧ Hb T p m ((f, .lst (ys.set j (.ref t))) :: L) G'' (upd (upd H1 t (.tup [.str nm, .int w, .ref lp])) f (.lst (ys.set j (.ref t)))) := by
  have h2 := h.new ht (.tup (xs := [.str nm, .int w, .ref lp]))
  have gT : Same G' (upd G' t (.tup [.str nm, .int w, .ref lp])) := Same.upd h2.cfree
  have ex : EntAt (upd G' t (.tup [.str nm, .int w, .ref lp])) (.ref t) ⟨nm, w, ps⟩ := ⟨t, lp, rfl, upd_same, gT _ _ hlp⟩
  have h3 := h2.freeze
  exact ⟨_, gT, paired_setE j (hc.mono gT) ex, h3.put (i := 0) rfl .lst⟩
theorem spo_ins {T : List (Addr × Str)} {p f t lp : Addr} {m : Nat} {L : List (Addr × HO)} {G' H1 : Hp} {ys : List V} {es' : List Ent} {nm : Str} {w : Int} {ps : List Str} (h : Hb T p m ((f, .lst ys) :: L) G' H1) (ht : H1 t = none) (hlp : G' lp = some (.lst (ps.map V.str))) (hc : CatAt G' ys es') (j : Nat) :
    ∃ G'', Same G' G'' ∧ CatAt G'' (ys.take j ++ [.ref t] ++ ys.drop j) (es'.take j ++ [⟨nm, w, ps⟩] ++ es'.drop j) ∧ Hb T p m ((f, .lst (ys.take j ++ [.ref t] ++ ys.drop j)) :: L) G'' (upd (upd H1 t (.tup [.str nm, .int w, .ref lp])) f (.lst (ys.take j ++ [.ref t] ++ ys.drop j))) := by
  have h2 := h.new ht (.tup (xs := [.str nm, .int w, .ref lp]))
  have gT : Same G' (upd G' t (.tup [.str nm, .int w, .ref lp])) := Same.upd h2.cfree
  have ex : EntAt (upd G' t (.tup [.str nm, .int w, .ref lp])) (.ref t) ⟨nm, w, ps⟩ := ⟨t, lp, rfl, upd_same, gT _ _ hlp⟩
  have h3 := h2.freeze
  exact ⟨_, gT, Paired.app (Paired.app (paired_take _ (hc.mono gT)) (.cons ex .nil)) (paired_drop _ (hc.mono gT)), h3.put (i := 0) rfl .lst⟩
theorem SpoC.set {es : List Ent} {i : Nat} {e : Ent} (hm : ∀ x ∈ es, x.name.length ≤ 9 ∧ x.parts.length ≤ 4) (h1 : e.name.length ≤ 9) (h2 : e.parts.length ≤ 4) (bad : ¬ Valid (es.set i e)) : SpoC es (es.set i e) :=
  ⟨.inr bad, by rw [List.length_set]; omega, fun x hx => by
    rcases List.mem_or_eq_of_mem_set hx with z | z
    · exact hm x z
    · rw [z]; exact ⟨h1, h2⟩⟩
section
variable {P : Program} {w : World} {K : PySem.W.Frag} {mg : Str → Option Value} {base : Heap} {Tb : List (Addr × Str)}
theorem ok_law_spoilt_catalogue {f : Addr} {fd : FuncData} (F : FnP K "_law_spoilt_catalogue" s_law_spoilt_catalogue f fd) (T : Tx K mg) (G_law_draw : Fn P w K mg base "_law_draw" 1 ["bag", "many"] (sp_law_draw Tb K)) : FnOk P w K mg base CX0 2 f fd ["bag", "pool"] (sp_law_spoilt_catalogue Tb K) := by
  refine F.ok sc_law_spoilt_catalogue (fun vs H Q E h => ?_) (fun cdv A outer s H vs Q E hr h => ?_)
  · obtain ⟨_, _, _, _, _, _, _, rfl, _⟩ := h
    rfl
  · obtain ⟨p, a, n, L, G, xs, es, rfl, hs, hn, ha, hc, hm, k⟩ := h
    refine ⟨_, PSs.nox (pss_cons (ps_set (i := 2) sc_law_spoilt_catalogue.nd rfl (Or.inl rfl) (pe_callTy (listOf (K := K) rfl) (by rfl) T.n_list (by decide +kernel) (pa_cons (pv 1) pa_nil)))
      (pss_cons (ps_par (i := 3) (j := 4) (by rfl) sc_law_spoilt_catalogue.nd rfl rfl (by decide) rfl rfl (pa_cons (pe_fn G_law_draw (hr.mono (by decide)) (pa_cons (pv 0) (pa_cons pe_int pa_nil))) (pa_cons (pe_fn G_law_draw (hr.mono (by decide)) (pa_cons (pv 0) (pa_cons (pe_callB (lenS (K := K) rfl) (by rfl) T.n_len (by decide +kernel) (pa_cons (pv 1) pa_nil)) pa_nil))) pa_nil)) (by rfl))
      (pss_cons (ps_asg (pe_ix (ixL (K := K) rfl) (pv 1) (pv 4) (fun _ _ => rfl)) (pg_tup rfl (pgs_cons (pg_name (i := 5) sc_law_spoilt_catalogue.nd rfl (Or.inl rfl)) (pgs_cons (pg_name (i := 6) sc_law_spoilt_catalogue.nd rfl (Or.inl rfl)) (pgs_cons (pg_name (i := 7) sc_law_spoilt_catalogue.nd rfl (Or.inl rfl)) pgs_nil)))))
      (pss_cons (ps_if (pt_cmpR op_eq (pv 3) pe_int (nomark _)) (pss_one (ps_asg (pe_tup (pa_cons (pe_ix (ixT (K := K) rfl) (pe_tup (pa_cons pe_str (pa_cons pe_str (pa_cons pe_str (pa_cons pe_str pa_nil))))) (pe_fn G_law_draw (hr.mono (by decide)) (pa_cons (pv 0) (pa_cons pe_int pa_nil))) (fun _ _ => rfl)) (pa_cons (pv 6) (pa_cons (pv 7) pa_nil)))) (pg_sub (pv 2) (pv 4) set_list))) pss_nil)
      (pss_cons (ps_if (pt_cmpR op_eq (pv 3) pe_int (nomark _)) (pss_one (ps_asg (pe_tup (pa_cons (pv 5) (pa_cons (pe_op op_sub pe_int (pe_fn G_law_draw (hr.mono (by decide)) (pa_cons (pv 0) (pa_cons pe_int pa_nil)))) (pa_cons (pv 7) pa_nil)))) (pg_sub (pv 2) (pv 4) set_list))) pss_nil)
      (pss_cons (ps_if (pt_cmpR op_eq (pv 3) pe_int (nomark _)) (pss_one (ps_asg (pe_tup (pa_cons (pv 5) (pa_cons (pv 6) (pa_cons (pe_op op_cat (pv 7) (pe_lst (pa_cons (pe_ix (ixT (K := K) rfl) (pe_tup (pa_cons pe_str (pa_cons (pv 5) pa_nil))) (pe_fn G_law_draw (hr.mono (by decide)) (pa_cons (pv 0) (pa_cons pe_int pa_nil))) (fun _ _ => rfl)) pa_nil))) pa_nil)))) (pg_sub (pv 2) (pv 4) set_list))) pss_nil)
      (pss_cons (ps_if (pt_cmpR op_eq (pv 3) pe_int (nomark _)) (pss_one (ps_expr (peBm (K := K) rfl PySem.F.plainAttrs_list PySem.F.slot_list_insert PySem.F.type_list_insert mt_insert (pv 2) (pa_cons (pv 4) (pa_cons (pe_tup (pa_cons (pe_ix (ixT (K := K) rfl) (pe_ix (ixL (K := K) rfl) (pv 1) (pe_fn G_law_draw (hr.mono (by decide)) (pa_cons (pv 0) (pa_cons (pe_callB (lenS (K := K) rfl) (by rfl) T.n_len (by decide +kernel) (pa_cons (pv 1) pa_nil)) pa_nil))) (fun _ _ => rfl)) pe_int (fun _ _ => rfl)) (pa_cons (pv 6) (pa_cons (pe_lst pa_nil) pa_nil)))) pa_nil))))) pss_nil)
      (pss_cons (ps_if (PW.pt (pw_and (pt_cmpR op_eq (pv 3) pe_int (nomark _)) (pw_and1 (pt_cmpR op_eq (pe_fn G_law_draw (hr.mono (by decide)) (pa_cons (pv 0) (pa_cons pe_int pa_nil))) pe_int (nomark _))))) (pss_one (ps_ret (pe_lst pa_nil))) pss_nil)
      (pss_one (ps_ret (pv 2))))))))))), ?_⟩
    have hl := Paired.len hc
    have hfew := hm.few
    have epos : 0 < es.length := List.length_pos_iff.mpr hm.v.ne
    have hme : ∀ x ∈ es, x.name.length ≤ 9 ∧ x.parts.length ≤ 4 := fun x hx => ⟨Nat.le_trans (nameB_len (hm.v.names x hx)) (by decide), Nat.le_trans (hm.fewp x hx) (by decide)⟩
    refine ⟨_, rfl, a, xs, rfl, .inl (SqL.of (hs.fzat ha)), fun f hf => ?_⟩
    have h1 := hs.new hf (.lst (xs := xs))
    refine goN ?_
    dsimp only
    refine ⟨_, rfl, p, _, _, G, 9, rfl, h1, by omega, by decide, by decide +kernel, fun w H2 w0 w1 h2 => ?_⟩
    refine ⟨_, rfl, _, rfl, a, _, rfl, .inl (SqL.of (h2.fzat ha)), p, _, _, G, (xs.length : Int), rfl, h2, by omega, by omega, Int.lt_of_le_of_lt (show (xs.length : Int) ≤ 20 by omega) (by decide +kernel), fun at_ H3 a0 a1 h3 => ?_⟩
    obtain ⟨j, rfl⟩ := Int.eq_ofNat_of_zero_le a0
    have hj : j < xs.length := by omega
    have hxj : xs[j]? = some xs[j] := List.getElem?_eq_getElem hj
    obtain ⟨e, he, t, lp, ex, ht, hlp⟩ := Paired.at hc hxj
    have hem := List.mem_of_getElem? he
    have hje : j < es.length := (List.getElem?_eq_some_iff.mp he).1
    refine ⟨_, _, rfl, ?_⟩
    refine ⟨_, rfl, _, rfl, a, xs, _, .ref t, rfl, rfl, SqL.of (h3.fzat ha), by rw [← ex]; exact atI_nat hxj, ?_⟩
    refine gtup3 (h3.fzat ht) ?_
    refine goN ?_
    dsimp only
    have h4 := h3
    clear h1 h2 h3
    obtain ⟨Pj, hP⟩ : ∃ P : Int → L2.St → Hp → Prop, P = fun (q : Int) (σ : L2.St) (H' : Hp) => σ = [some (.ref p), some (.ref a), some (.ref f), some (.int w), some (.int (j : Int)), some (.str e.name), some (.int e.w), some (.ref lp)] ∧ ∃ (m : Nat) (G' : Hp) (ys : List V) (es' : List Ent), m ≤ n + 10 + 10 * q.toNat ∧ Same G G' ∧ CatAt G' ys es' ∧ SpoC es es' ∧ (w < q ∨ (es' = es ∧ ys = xs ∧ G' = G)) ∧ Hb Tb p m ((f, .lst ys) :: L) G' H' := ⟨_, rfl⟩
    have di : ∀ i : Int, decide (V.int w = V.int i) = decide (w = i) := fun i => decide_eq_decide.mpr ⟨V.int.inj, fun z => by rw [z]⟩
    have p0 : Pj 0 [some (.ref p), some (.ref a), some (.ref f), some (.int w), some (.int (j : Int)), some (.str e.name), some (.int e.w), some (.ref lp)] H3 := by
      rw [hP]
      exact ⟨rfl, n + 1 + 1, G, xs, es, by omega, fun _ _ z => z, hc, ⟨.inl rfl, by omega, hme⟩, .inr ⟨rfl, rfl, rfl⟩, h4⟩
    -- what stands is passed on
    have pass : ∀ (q : Int) σ' H', 0 ≤ q → w ≠ q → Pj q σ' H' → Pj (q + 1) σ' H' := fun q σ' H' q0 ne h => by
      rw [hP] at h ⊢
      obtain ⟨e1, m, G', ys, es', hm', s1, c1, sp1, or1, hb⟩ := h
      exact ⟨e1, m, G', ys, es', by omega, s1, c1, sp1, or1.imp (fun z => by omega) id, hb⟩
    have done : ∀ (q : Int) (m : Nat) (G' : Hp) (ys : List V) (es' : List Ent) H', 0 ≤ q → w = q → m ≤ n + 14 + 10 * q.toNat → Same G G' → CatAt G' ys es' → SpoC es es' → Hb Tb p m ((f, .lst ys) :: L) G' H' → Pj (q + 1) [some (.ref p), some (.ref a), some (.ref f), some (.int w), some (.int (j : Int)), some (.str e.name), some (.int e.w), some (.ref lp)] H' := fun q m G' ys es' H' q0 e1 hm' s1 c1 sp1 hb => by
      rw [hP]
      exact ⟨rfl, m, G', ys, es', by omega, s1, c1, sp1, .inl (by omega), hb⟩
    have open_ : ∀ (q : Int) σ' H', w = q → Pj q σ' H' → σ' = [some (.ref p), some (.ref a), some (.ref f), some (.int w), some (.int (j : Int)), some (.str e.name), some (.int e.w), some (.ref lp)] ∧ ∃ m : Nat, m ≤ n + 10 + 10 * q.toNat ∧ Hb Tb p m ((f, .lst xs) :: L) G H' := fun q σ' H' e1 h => by
      rw [hP] at h
      obtain ⟨e2, m, G', ys, es', hm', s1, c1, sp1, or1, hb⟩ := h
      rcases or1 with z | ⟨z1, z2, z3⟩
      · omega
      · rw [z2, z3] at hb
        exact ⟨e2, m, hm', hb⟩
    have shape : ∀ (q : Int) σ' H', Pj q σ' H' → σ' = [some (.ref p), some (.ref a), some (.ref f), some (.int w), some (.int (j : Int)), some (.str e.name), some (.int e.w), some (.ref lp)] := fun q σ' H' h => by
      rw [hP] at h
      exact h.1
    have finish : ∀ σ' H', Pj 4 σ' H' → ∃ (m : Nat) (G' : Hp) (ys : List V) (es' : List Ent), m ≤ n + 60 ∧ Same G G' ∧ CatAt G' ys es' ∧ SpoC es es' ∧ Hb Tb p m ((f, .lst ys) :: L) G' H' := fun σ' H' h => by
      rw [hP] at h
      obtain ⟨e2, m, G', ys, es', hm', s1, c1, sp1, or1, hb⟩ := h
      exact ⟨m, G', ys, es', by omega, s1, c1, sp1, hb⟩
    clear hP h4
    -- a name that may not be
    refine sq_st (Pj 1) (fun N hN => ?_) fun σ1 H1' hp1 => ?_
    · refine ⟨_, rfl, rfl, _, rfl, ?_⟩
      rw [di]
      refine ite2 (fun q => ?_) (fun q => hN _ _ (pass 0 _ _ (by omega) (fun z => q (decide_eq_true z)) p0))
      have q := of_decide_eq_true q
      obtain ⟨_, m, hm', hb⟩ := open_ 0 _ _ q p0
      refine ⟨by show 4 ≤ sizeLine; decide, fun t0 ht0 => ?_⟩
      have hb0 := hb.new ht0 (.tup (xs := (["", "Cube", "abcdefghi", "a1"] : List Str).map V.str))
      refine ⟨_, rfl, p, m, _, G, 4, rfl, hb0, by omega, by decide, by decide +kernel, fun d H5 d0 d1 hb1 => ?_⟩
      obtain ⟨y, hy, ey⟩ := pick_at (xs := (["", "Cube", "abcdefghi", "a1"] : List Str).map V.str) d0 (by show d < 4; exact d1)
      obtain ⟨nm, hnm, rfl⟩ := List.mem_map.mp hy
      refine ⟨t0, _, d, .str nm, rfl, rfl, SqT.of (hb1.get (i := 0) rfl), ey, _, rfl, _, rfl, by show 3 ≤ sizeLine; decide, fun t1 ht1 => ?_⟩
      obtain ⟨G'', s2, c2, hb2⟩ := spo_set (nm := nm) (w := e.w) hb1.drop1 ht1 hlp hc j
      refine ⟨_, rfl, _, rfl, f, xs, (j : Int), j, rfl, rfl, ?_, ixN_natE hj, hN _ _ (done 0 _ G'' _ _ _ (by omega) q (by omega) s2 c2 (SpoC.set hme ?_ ?_ ?_) hb2)⟩
      · rw [upd_ne (ne_of_none (hb1.get (i := 1) rfl) ht1)]
        exact hb1.get (i := 1) rfl
      · simp only [List.mem_cons, List.not_mem_nil, or_false] at hnm
        rcases hnm with rfl | rfl | rfl | rfl
        · show ("" : Str).length ≤ 9; decide
        · show ("Cube" : Str).length ≤ 9; decide
        · show ("abcdefghi" : Str).length ≤ 9; decide
        · show ("a1" : Str).length ≤ 9; decide
      · exact Nat.le_trans (hm.fewp e hem) (by decide)
      · refine bad_name (set_memE hje) ?_
        simp only [List.mem_cons, List.not_mem_nil, or_false] at hnm
        rcases hnm with rfl | rfl | rfl | rfl
        · show nameB "" = false; decide +kernel
        · show nameB "Cube" = false; decide +kernel
        · show nameB "abcdefghi" = false; decide +kernel
        · show nameB "a1" = false; decide +kernel
    -- a weight
    obtain rfl := shape 1 _ _ hp1
    refine sq_st (Pj 2) (fun N hN => ?_) fun σ1 H2' hp2 => ?_
    · refine ⟨_, rfl, rfl, _, rfl, ?_⟩
      rw [di]
      refine ite2 (fun q => ?_) (fun q => hN _ _ (pass 1 _ _ (by omega) (fun z => q (decide_eq_true z)) hp1))
      have q := of_decide_eq_true q
      obtain ⟨_, m, hm', hb⟩ := open_ 1 _ _ q hp1
      refine ⟨_, rfl, _, rfl, p, m, _, G, 3, rfl, hb, by omega, by decide, by decide +kernel, fun d H5 d0 d1 hb1 => ?_⟩
      refine ⟨_, _, rfl, rfl, _, rfl, by show 3 ≤ sizeLine; decide, fun t1 ht1 => ?_⟩
      obtain ⟨G'', s2, c2, hb2⟩ := spo_set (nm := e.name) (w := 0 - d) hb1 ht1 hlp hc j
      refine ⟨_, rfl, _, rfl, f, xs, (j : Int), j, rfl, rfl, ?_, ixN_natE hj, hN _ _ (done 1 _ G'' _ _ _ (by omega) q (by omega) s2 c2 (SpoC.set hme (hme e hem).1 (hme e hem).2 fun v => ?_) hb2)⟩
      · rw [upd_ne (ne_of_none (hb1.get (i := 0) rfl) ht1)]
        exact hb1.get (i := 0) rfl
      · have := v.pos _ (set_memE hje)
        dsimp only at this
        omega
    -- a part
    obtain rfl := shape 2 _ _ hp2
    refine sq_st (Pj 3) (fun N hN => ?_) fun σ1 H3' hp3 => ?_
    · refine ⟨_, rfl, rfl, _, rfl, ?_⟩
      rw [di]
      refine ite2 (fun q => ?_) (fun q => hN _ _ (pass 2 _ _ (by omega) (fun z => q (decide_eq_true z)) hp2))
      have q := of_decide_eq_true q
      obtain ⟨_, m, hm', hb⟩ := open_ 2 _ _ q hp2
      refine ⟨_, rfl, _, rfl, _, rfl, _, rfl, by show 2 ≤ sizeLine; decide, fun t0 ht0 => ?_⟩
      have hb0 := hb.new ht0 (.tup (xs := [.str "nobody", .str e.name]))
      refine ⟨_, rfl, p, m, _, G, 2, rfl, hb0, by omega, by decide, by decide +kernel, fun d H5 d0 d1 hb1 => ?_⟩
      obtain ⟨nm, hnm, ey⟩ : ∃ nm : Str, (nm = "nobody" ∨ nm = e.name) ∧ atI [V.str "nobody", .str e.name] d = some (.str nm) := by
        have : d = 0 ∨ d = 1 := by omega
        rcases this with rfl | rfl
        · exact ⟨_, .inl rfl, atI_nat (j := 0) rfl⟩
        · exact ⟨_, .inr rfl, atI_nat (j := 1) rfl⟩
      refine ⟨t0, _, d, .str nm, rfl, rfl, SqT.of (hb1.get (i := 0) rfl), ey, by show 1 ≤ sizeLine; decide, fun l1 hl1 => ?_⟩
      have hb2 := hb1.drop1.new hl1 (.lst (xs := [.str nm]))
      have hpl := hm.fewp e hem
      refine ⟨lp, l1, _, _, rfl, rfl, hb2.fzat hlp, hb2.get (i := 0) rfl, by rw [List.length_map, sizeLine_eq]; show _ + 1 ≤ _; omega, fun l2 hl2 => ?_⟩
      have hb3 := hb2.new hl2 (.lst (xs := e.parts.map V.str ++ [.str nm]))
      have e3 : e.parts.map V.str ++ [V.str nm] = (e.parts ++ [nm]).map V.str := by rw [List.map_append]; rfl
      rw [e3] at hb3 ⊢
      have s3 : Same G (upd G l2 (.lst ((e.parts ++ [nm]).map V.str))) := Same.upd hb3.cfree
      have hl2' : (upd G l2 (.lst ((e.parts ++ [nm]).map V.str))) l2 = some (.lst ((e.parts ++ [nm]).map V.str)) := upd_same
      have hb4 := hb3.freeze.drop1
      generalize upd G l2 (.lst ((e.parts ++ [nm]).map V.str)) = G3 at s3 hl2' hb4
      refine ⟨by show 3 ≤ sizeLine; decide, fun t1 ht1 => ?_⟩
      obtain ⟨G'', s2, c2, hb5⟩ := spo_set (nm := e.name) (w := e.w) hb4 ht1 hl2' (hc.mono s3) j
      refine ⟨_, rfl, _, rfl, f, xs, (j : Int), j, rfl, rfl, ?_, ixN_natE hj, hN _ _ (done 2 _ G'' _ _ _ (by omega) q (by omega) (fun b u z => s2 b u (s3 b u z)) c2 (SpoC.set hme (hme e hem).1 (by show (e.parts ++ [nm]).length ≤ 4; rw [List.length_append]; show _ + 1 ≤ 4; omega) fun v => ?_) hb5)⟩
      · rw [upd_ne (ne_of_none (hb4.get (i := 0) rfl) ht1)]
        exact hb4.get (i := 0) rfl
      · obtain ⟨e', he', hn', hw'⟩ := v.lighter _ (set_memE hje) nm (List.mem_append_right _ (List.mem_singleton.mpr rfl))
        dsimp only at hw'
        rcases hnm with rfl | rfl
        · rcases List.mem_or_eq_of_mem_set he' with z | z
          · exact (hm.nob e' z).1 hn'
          · rw [z] at hn'
            exact (hm.nob e hem).1 hn'
        · rcases List.mem_or_eq_of_mem_set he' with z | z
          · -- another one of the same name
            have nd := v.nodup
            obtain ⟨i', hi'⟩ := List.mem_iff_getElem?.mp he'
            have hset : (es.set j ⟨e.name, e.w, e.parts ++ [e.name]⟩)[j]? = some ⟨e.name, e.w, e.parts ++ [e.name]⟩ := by
              rw [List.getElem?_set_self hje]
            have h1 : ((es.set j ⟨e.name, e.w, e.parts ++ [e.name]⟩).map (·.name))[i']? = some e.name := by rw [List.getElem?_map, hi']; exact congrArg some hn'
            have h2 : ((es.set j ⟨e.name, e.w, e.parts ++ [e.name]⟩).map (·.name))[j]? = some e.name := by rw [List.getElem?_map, hset]; rfl
            have := nodup_ix nd h1 h2
            rw [this, hset] at hi'
            cases hi'
            exact absurd hw' (Int.lt_irrefl _)
          · rw [z] at hw'
            exact absurd hw' (Int.lt_irrefl _)
    -- an entry more
    obtain rfl := shape 3 _ _ hp3
    refine sq_st (Pj 4) (fun N hN => ?_) fun σ1 H4' hp4 => ?_
    · refine ⟨_, rfl, rfl, _, rfl, ?_⟩
      rw [di]
      refine ite2 (fun q => ?_) (fun q => hN _ _ (pass 3 _ _ (by omega) (fun z => q (decide_eq_true z)) hp3))
      have q := of_decide_eq_true q
      obtain ⟨_, m, hm', hb⟩ := open_ 3 _ _ q hp3
      refine ⟨_, rfl, .inl ⟨rfl, _, SqL.of (hb.get (i := 0) rfl)⟩, _, rfl, _, rfl, _, rfl, _, rfl, a, _, rfl, .inl (SqL.of (hb.fzat ha)), p, m, _, G, (xs.length : Int), rfl, hb, by omega, by omega, Int.lt_of_le_of_lt (show (xs.length : Int) ≤ 20 by omega) (by decide +kernel), fun u H5 u0 u1 hb1 => ?_⟩
      obtain ⟨u, rfl⟩ := Int.eq_ofNat_of_zero_le u0
      have hu : u < xs.length := by omega
      have hxu : xs[u]? = some xs[u] := List.getElem?_eq_getElem hu
      obtain ⟨e2, he2, t2, lp2, ex2, ht2, hlp2⟩ := Paired.at hc hxu
      have hem2 := List.mem_of_getElem? he2
      refine ⟨a, xs, _, .ref t2, rfl, rfl, SqL.of (hb1.fzat ha), by rw [← ex2]; exact atI_nat hxu, t2, _, ((0 : Nat) : Int), _, rfl, rfl, SqT.of (hb1.fzat ht2), atI_nat (j := 0) rfl, _, rfl, Nat.zero_le _, fun l1 hl1 => ?_⟩
      have hb2 := hb1.new hl1 (.lst (xs := []))
      have s3 : Same G (upd G l1 (.lst [])) := Same.upd hb2.cfree
      have hl1' : (upd G l1 (.lst [])) l1 = some (.lst (([] : List Str).map V.str)) := upd_same
      have hb4 := hb2.freeze
      generalize upd G l1 (.lst []) = G3 at s3 hl1' hb4
      refine ⟨by show 3 ≤ sizeLine; decide, fun t1 ht1 => ?_⟩
      obtain ⟨G'', s2, c2, hb5⟩ := spo_ins (nm := e2.name) (w := e.w) hb4 ht1 hl1' (hc.mono s3) j
      refine ⟨f, xs, (j : Int), .ref t1, rfl, rfl, ?_, by rw [sizeLine_eq]; omega, by omega, by omega, hN _ _ (done 3 _ G'' _ _ _ (by omega) q (by omega) (fun b u z => s2 b u (s3 b u z)) c2 ⟨.inr fun v => ?_, ?_, fun x hx => ?_⟩ hb5)⟩
      · rw [upd_ne (ne_of_none (hb4.get (i := 0) rfl) ht1)]
        exact hb4.get (i := 0) rfl
      · have nd := v.nodup
        have pm := ((ins_perm es j ⟨e2.name, e.w, []⟩).map (·.name)).nodup_iff.mp nd
        rw [List.map_append] at pm
        exact (List.nodup_append.mp pm).2.2 _ (List.mem_map.mpr ⟨e2, hem2, rfl⟩) _ (List.mem_singleton.mpr rfl) rfl
      · rw [(ins_perm es j _).length_eq, List.length_append]
        exact Nat.le_refl _
      · rcases List.mem_append.mp ((ins_perm es j _).mem_iff.mp hx) with z | z
        · exact hme x z
        · rw [List.mem_singleton.mp z]
          exact ⟨(hme e2 hem2).1, Nat.zero_le _⟩
    -- none
    obtain rfl := shape 4 _ _ hp4
    obtain ⟨m, G', ys, es', hm', s1, c1, sp1, hb⟩ := finish _ _ hp4
    clear hp4 hp3 hp2 hp1 p0 shape finish open_ done pass Pj
    refine ⟨_, rfl, rfl, _, rfl, ?_⟩
    rw [di]
    refine ite2 (fun q => ?_) (fun q => ⟨_, rfl, k f _ G' ys es' s1 c1 sp1 (hb.mono (by omega))⟩)
    refine ⟨_, rfl, p, m, _, G', 3, rfl, hb, by omega, by decide, by decide +kernel, fun d H5 d0 d1 hb1 => ⟨rfl, _, rfl, ?_⟩⟩
    refine ite2 (fun q2 => ?_) (fun q2 => ⟨_, rfl, k f _ G' ys es' s1 c1 sp1 (hb1.mono (by omega))⟩)
    refine ⟨Nat.zero_le _, fun l1 hl1 => ?_⟩
    exact k l1 _ G' [] [] s1 .nil ⟨.inr fun v => v.ne rfl, Nat.zero_le _, fun x hx => by cases hx⟩ ((hb1.drop1.new hl1 (.lst (xs := []))).mono (by omega))
end
end Sk
namespace Sk
open PySem PySem.Spec PyProof.Rows L2
abbrev s_law_catalogue_fault : Stmt := topS 41
abbrev N_law_catalogue_fault : List Str := ["pool", "weights", "index", "name", "weight", "parts", "odd", "sign", "part", "entry"]
theorem sc_law_catalogue_fault : FnScope N_law_catalogue_fault ["pool"] (defScope s_law_catalogue_fault) := ⟨rfl, rfl, rfl, by decide +kernel, rfl, by decide +kernel, by decide +kernel⟩
def sp_law_catalogue_fault (Tb : List (Addr × Str)) (K : PySem.W.Frag) : Sp := fun vs H Q _ => ∃ (a : Addr) (xs : List V) (es : List Ent), vs = [.ref a] ∧ SqL K H a xs ∧ CatAt H xs es ∧ Sized es ∧ es.length ≤ 100000 ∧ (Valid es → ∀ H', Gr Tb H H' → Q .non H') ∧ (∀ (i : Nat) H', BadCat es i → Gr Tb H H' → Q (.int i) H')
/-- the signs that are no letters -/
def oddV (v : V) : Option V := match v with
  | .str y => if y.cps.getD 0 0 ∈ letters.cps.toList then none else some (.str y)
  | _ => none
theorem oddV_nil (x : Str) : (signs x).filterMap oddV = [] ↔ (x.cps.toList.all fun c => decide (c ∈ letters.cps.toList)) = true := by
  unfold signs
  rw [List.filterMap_map, List.all_eq_true, List.filterMap_eq_nil_iff]
  refine forall_congr' fun c => forall_congr' fun _ => ?_
  rw [decide_eq_true_iff]
  show (if c ∈ letters.cps.toList then none else some (V.str ⟨#[c]⟩)) = none ↔ _
  by_cases z : c ∈ letters.cps.toList
  · rw [if_pos z]
    exact ⟨fun _ => z, fun _ => rfl⟩
  · rw [if_neg z]
    exact ⟨(fun h => by cases h), (fun h => absurd h z)⟩
/-- a part is heavy -/
def heavyB (ws : Num) (w : Int) (p : Str) : Bool := match get? ws p with
  | some i => decide (w ≤ i)
  | none => true
def heavyV (ws : Num) (w : Int) (v : V) : Option V := match v with
  | .str p => some (.bl (heavyB ws w p))
  | _ => none
theorem heavy_any (ws : Num) (w : Int) (ps : List Str) : ((ps.map (heavyB ws w)).any id) = !(ps.all fun p => match get? ws p with | some i => decide (i < w) | none => false) := by
  induction ps with
  | nil => rfl
  | cons p ps ih =>
    rw [List.map_cons, List.any_cons, List.all_cons, ih, Bool.not_and]
    congr 1
    show heavyB ws w p = _
    unfold heavyB
    cases get? ws p with
    | none => rfl
    | some i =>
      show decide (w ≤ i) = !decide (i < w)
      by_cases z : i < w
      · rw [decide_eq_true z, decide_eq_false (show ¬ w ≤ i by omega)]
        rfl
      · rw [decide_eq_false z, decide_eq_true (show w ≤ i by omega)]
        rfl
/-- the weights, written from the last entry to the first -/
theorem rev_fw (l : List Ent) (e : Ent) (ws : Num) (h : ∀ x, get? ws x = get? (fw l) x) (x : Str) : get? (put ws e.name e.w) x = get? (fw (e :: l)) x := by
  rw [get?_put, fw_get _ _ rfl, h, fw_get _ _ rfl, List.find?_cons]
  by_cases c : x = e.name
  · rw [if_pos c, c, decide_eq_true (show e.name = e.name from rfl)]
    rfl
  · rw [if_neg c, decide_eq_false (show ¬ e.name = x from fun z => c z.symm)]
theorem paired_snoc {α β : Type} {R : α → β → Prop} : ∀ {xs : List α} {ys : List β} {x : α} {y : β}, Paired R xs ys → R x y → Paired R (xs ++ [x]) (ys ++ [y])
  | _, _, _, _, .nil, h => .cons h .nil
  | _, _, _, _, .cons a t, h => .cons a (paired_snoc t h)
theorem paired_rev {α β : Type} {R : α → β → Prop} : ∀ {xs : List α} {ys : List β}, Paired R xs ys → Paired R xs.reverse ys.reverse
  | _, _, .nil => .nil
  | _, _, .cons a t => by
    rw [List.reverse_cons, List.reverse_cons]
    exact paired_snoc (paired_rev t) a
theorem paired_takeB {α β : Type} {R : α → β → Prop} : ∀ {xs : List α} {ys : List β} (n : Nat), Paired R xs ys → Paired R (xs.take n) (ys.take n)
  | _, _, 0, _ => by rw [List.take_zero, List.take_zero]; exact .nil
  | _, _, n + 1, .nil => by rw [List.take_nil, List.take_nil]; exact .nil
  | _, _, n + 1, .cons a t => by rw [List.take_succ_cons, List.take_succ_cons]; exact .cons a (paired_takeB n t)
theorem put_len_le (d : Num) (x : Str) (i : Int) : (put d x i).length ≤ d.length + 1 := by
  unfold put
  split
  · rw [List.length_map]
    omega
  · rw [List.length_append]
    exact Nat.le_refl _
section
variable {P : Program} {w : World} {K : PySem.W.Frag} {mg : Str → Option Value} {base : Heap} {Tb : List (Addr × Str)}
theorem ok_law_catalogue_fault {f : Addr} {fd : FuncData} (F : FnP K "_law_catalogue_fault" s_law_catalogue_fault f fd) (T : Tx K mg) : FnOk P w K mg base CX0 1 f fd ["pool"] (sp_law_catalogue_fault Tb K) := by
  refine F.ok sc_law_catalogue_fault (fun vs H Q E h => ?_) (fun cdv A outer s H vs Q E hr h => ?_)
  · obtain ⟨_, _, _, rfl, _⟩ := h
    rfl
  · obtain ⟨a, xs, es, rfl, ha, hc, hz, hl, k1, k2⟩ := h
    refine ⟨_, PSs.nox (pss_cons (ps_if (pt_cmpR op_eq (pe_callB (lenS (K := K) rfl) (by rfl) T.n_len (by decide +kernel) (pa_cons (pv 0) pa_nil)) pe_int (nomark _)) (pss_one (ps_ret pe_int)) pss_nil)
      (pss_cons (ps_set (i := 1) sc_law_catalogue_fault.nd rfl (Or.inr rfl) pe_dnewK)
      (pss_cons (ps_for PassesOwn.never rfl (piL (K := K) rfl (pe_revL (pv 0))) (pg_tup rfl (pgs_cons (pg_name (i := 3) sc_law_catalogue_fault.nd rfl (Or.inl rfl)) (pgs_cons (pg_name (i := 4) sc_law_catalogue_fault.nd rfl (Or.inr rfl)) (pgs_cons (pg_name (i := 5) sc_law_catalogue_fault.nd rfl (Or.inl rfl)) pgs_nil)))) (pss_one (ps_dput (hu_of hr) (pv 1) (pv 3) (pv 4) rfl)))
      (pss_cons (ps_for PassesOwn.never rfl (pi_range1 (by rfl) T.n_range (pa_cons (pe_callB (lenS (K := K) rfl) (by rfl) T.n_len (by decide +kernel) (pa_cons (pv 0) pa_nil)) pa_nil)) (pg_name (i := 2) sc_law_catalogue_fault.nd rfl (Or.inl rfl)) (pss_cons (ps_asg (pe_ix (ixL (K := K) rfl) (pv 0) (pv 2) (fun _ _ => rfl)) (pg_tup rfl (pgs_cons (pg_name (i := 3) sc_law_catalogue_fault.nd rfl (Or.inl rfl)) (pgs_cons (pg_name (i := 4) sc_law_catalogue_fault.nd rfl (Or.inr rfl)) (pgs_cons (pg_name (i := 5) sc_law_catalogue_fault.nd rfl (Or.inl rfl)) pgs_nil)))))
        (pss_cons (ps_setLc (i := 6) (own := [("sign", 7)]) (g := (gName 7)) (tt := _) rfl sc_law_catalogue_fault.nd rfl rfl (sw_true rfl rfl rfl (by decide +kernel)) (pi_str (pv 3)) (blkOk_by (N := N_law_catalogue_fault) (sc := (defScope s_law_catalogue_fault)) (by decide +kernel)) (fun _ _ _ _ _ => (pg_name (i := 7) sc_law_catalogue_fault.nd rfl (Or.inl rfl))) (fun _ _ _ _ _ => (pts_one (pt_cmpR op_notIn_sign (pv 7) pe_str rfl))) (fun _ _ _ _ _ => (pv 7)))
        (pss_cons (ps_if (PW.pt (pw_or (pt_cmpR op_gt (pe_callB (lenS (K := K) rfl) (by rfl) T.n_len (by decide +kernel) (pa_cons (pv 6) pa_nil)) pe_int (nomark _)) (pw_or (pt_not (pt_chain op_le op_le pe_int (pe_callB call_len_str (by rfl) T.n_len (by decide +kernel) (pa_cons (pv 3) pa_nil)) pe_int)) (pw_or (pt_cmpR (opIn (K := K) rfl) (pv 3) (pe_lc (own := [("entry", 9)]) (g := (gName 9)) (tt := tYes) rfl sc_law_catalogue_fault.nd (piL (K := K) rfl (pe_slice (slL (K := K) rfl) (pv 0) po_none (po_some (pv 2)))) (blkOk_by (N := N_law_catalogue_fault) (sc := (defScope s_law_catalogue_fault)) (by decide +kernel)) (fun _ _ _ _ _ => (pg_name (i := 9) sc_law_catalogue_fault.nd rfl (Or.inl rfl))) (fun _ _ _ _ _ => pts_nil) (fun _ _ _ _ _ => (pe_ix (ixT (K := K) rfl) (pv 9) pe_int (fun _ _ => rfl)))) (by with_unfolding_all rfl)) (pw_or1 (pt_cmpR op_lt (pv 4) pe_int (nomark _))))))) (pss_one (ps_ret (pv 2))) pss_nil)
        (pss_one (ps_if (pt_val (pe_callB (crAny (K := K) rfl rfl) (by rfl) T.n_any (by decide +kernel) (pa_cons (pe_lc (own := [("part", 8)]) (g := (gName 8)) (tt := tYes) rfl sc_law_catalogue_fault.nd (piL (K := K) rfl (pv 5)) (blkOk_by (N := N_law_catalogue_fault) (sc := (defScope s_law_catalogue_fault)) (by decide +kernel)) (fun _ _ _ _ _ => (pg_name (i := 8) sc_law_catalogue_fault.nd rfl (Or.inl rfl))) (fun _ _ _ _ _ => pts_nil) (fun _ _ _ _ _ => (L2.pe_or (pe_cmp (pc_dnotin (hu_of hr) (pv 8) (pv 1))) (pe_one (pe_cmpR op_ge (pe_dget (hu_of hr) (pv 1) (pv 8) (fun _ _ => rfl)) (pv 4) (nomark _)))))) pa_nil))) (pss_one (ps_ret (pv 2))) pss_nil))))))
      (pss_one (ps_ret pe_non)))))), ?_⟩
    have hlen := Paired.len hc
    refine ⟨_, rfl, a, _, rfl, .inl ha, rfl, _, rfl, ?_⟩
    refine ite2 (fun he => ?_) (fun he => ?_)
    · have he := V.int.inj (of_decide_eq_true he)
      exact k2 0 _ (.inl ⟨List.length_eq_zero_iff.mp (by omega), rfl⟩) (Gr.refl _)
    have ne : es ≠ [] := fun z => he (by
      rw [show xs.length = 0 by rw [hlen, z]; rfl]
      exact decide_eq_true rfl)
    intro d hd
    have hd0 : Nw H d := .of hd
    have g1 := Gr.new (T := Tb) (o := .dK []) hd
    refine ⟨_, rfl, a, xs, rfl, g1.ext_seq ha, fun rv hrv => ?_⟩
    have g2 := g1.trans (Gr.new (o := .lst xs.reverse) hrv)
    have hr2 : (upd (upd H d (.dK [])) rv (.lst xs.reverse)) rv = some (.lst xs.reverse) := upd_same
    have hd2 : (upd (upd H d (.dK [])) rv (.lst xs.reverse)) d = some (.dK (dS [])) := by
      rw [upd_ne (ne_of_none upd_same hrv), upd_same]
      rfl
    have hcr : Paired (EntAt H) xs.reverse es.reverse := paired_rev hc
    generalize upd (upd H d (.dK [])) rv (.lst xs.reverse) = H2 at g2 hr2 hd2
    have rd : rv ≠ d := fun z => by rw [z, hd2] at hr2; cases hr2
    refine ⟨rv, rfl, ⟨_, SqL.of hr2⟩, for_list (K := K) (a := rv) (xs := xs.reverse) (fun i σ H' => ∃ (ws : Num) (s3 s4 s5 : Option V), σ = [some (.ref a), some (.ref d), none, s3, s4, s5, none, none, none, none] ∧ Gr Tb H H' ∧ H' rv = some (.lst xs.reverse) ∧ H' d = some (.dK (dS ws)) ∧ ws.length ≤ i ∧ ∀ x, get? ws x = get? (fw (es.reverse.take i).reverse) x)
      ⟨[], none, none, none, rfl, g2, hr2, hd2, Nat.le_refl _, fun x => rfl⟩ (fun i σ H' _ ⟨_, _, _, _, _, _, h, _⟩ => SqL.of h) ?_ ?_⟩
    · rintro i x σ H' hx ⟨ws, s3, s4, s5, rfl, g, hrv', hdd, hwl, hws⟩
      obtain ⟨e, he, t, lp, rfl, ht, hlp⟩ := Paired.at hcr hx
      have hi := (List.getElem?_eq_some_iff.mp he).1
      rw [List.length_reverse] at hi
      refine gtup3 (g.at ht .tup) ⟨_, rfl, _, rfl, _, rfl, d, _, rfl, dputS hdd (by rw [sizeLine_eq]; omega), ?_⟩
      refine ⟨put ws e.name e.w, _, _, _, rfl, g.mut hd0 hdd .dK, by rw [upd_ne rd]; exact hrv', upd_same, Nat.le_trans (put_len_le _ _ _) (by omega), fun x => ?_⟩
      rw [take_snoc he, List.reverse_append]
      exact rev_fw _ _ _ hws x
    · rintro σ H3 ⟨ws, s3, s4, s5, rfl, g3, _, hd3, hwl, hws⟩
      rw [List.length_reverse, hlen, show es.reverse.take es.length = es.reverse from by rw [← List.length_reverse (as := es), List.take_length], List.reverse_reverse] at hws
      refine ⟨_, rfl, a, _, rfl, .inl (g3.ext_seq ha), (xs.length : Int), rfl, by omega, by omega, ?_⟩
      have hsz2 : ∀ e ∈ es, e.name.length ≤ 1000000 ∧ e.parts.length ≤ 100000 := hz.2
      refine for_range (lo := 0) (n := (xs.length : Int).toNat) (fun i σ H' => ∃ (s2 s3 s4 s5 s6 s7 s8 s9 : Option V), σ = [some (.ref a), some (.ref d), s2, s3, s4, s5, s6, s7, s8, s9] ∧ Gr Tb H3 H' ∧ FineTo es i)
        ⟨_, _, _, _, _, _, _, _, rfl, Gr.refl _, fun j e h => absurd h (Nat.not_lt_zero _)⟩ ?_ ?_
      · rintro i σ H4 hi ⟨s2, s3, s4, s5, s6, s7, s8, s9, rfl, g4, fine⟩
        have hi' : i < xs.length := by omega
        have e0 : (0 : Int) + (i : Int) = (i : Int) := by omega
        have hxi : xs[i]? = some xs[i] := List.getElem?_eq_getElem hi'
        obtain ⟨e, he, t, lp, ex, ht, hlp⟩ := Paired.at hc hxi
        have g34 := g3.trans g4
        have hm := List.mem_of_getElem? he
        obtain ⟨z1, z2⟩ := hsz2 e hm
        refine ⟨_, rfl, _, rfl, a, xs, _, .ref t, rfl, rfl, g34.ext_seq ha, by rw [e0, ← ex]; exact atI_nat hxi, ?_⟩
        refine gtup3 (g34.at ht .tup) ?_
        have eb : entB e ((es.take i).map (·.name)) (fw es) = ((decide (1 ≤ e.name.length) && (decide (e.name.length ≤ 8) && e.name.cps.toList.all fun c => decide (c ∈ letters.cps.toList))) && (!decide (e.name ∈ (es.take i).map (·.name)) && (!decide (e.w < 1) && e.parts.all fun p => match get? ws p with | some w => decide (w < e.w) | none => false))) := by
          rw [entB_congr (fun _ => Iff.rfl) (fun x => (hws x).symm)]
          rfl
        have bad : ∀ H', entB e ((es.take i).map (·.name)) (fw es) = false → Gr Tb H H' → Q (.int (0 + (i : Int))) H' := fun H' h g => by
          rw [e0]
          exact k2 i H' (.inr ⟨e, he, h, fine⟩) g
        -- letters
        refine ⟨_, rfl, e.name, rfl, fun D hD => lc_fm (Tb := Tb) (xs := signs e.name) walk_text rfl oddV hD ?_ (fun _ _ => trivial) (fun j v H' hv g Rk Rs hk hs => ?_) fun H5 g5 hD5 => ?_⟩
        · unfold signs
          rw [List.length_map, Array.length_toList]
          have : e.name.cps.size = e.name.length := rfl
          omega
        · unfold signs at hv
          rw [List.getElem?_map] at hv
          cases hcp : e.name.cps.toList[j]? with
          | none =>
            rw [hcp] at hv
            cases hv
          | some cp =>
            rw [hcp] at hv
            cases hv
            refine ⟨rfl, _, rfl, cp, _, rfl, rfl, _, rfl, ?_⟩
            have eo : oddV (.str ⟨#[cp]⟩) = if cp ∈ letters.cps.toList then none else some (.str ⟨#[cp]⟩) := rfl
            refine ite2 (fun q => ?_) (fun q => ?_)
            · refine ⟨_, rfl, hk _ _ ?_ (Gr.refl _)⟩
              rw [eo, if_neg (fun z => by rw [Bool.not_eq_true', decide_eq_false_iff_not] at q; exact q z)]
            · refine hs _ ?_ (Gr.refl _)
              rw [eo, if_pos (Decidable.byContradiction fun z => q (by rw [Bool.not_eq_true', decide_eq_false_iff_not]; exact z))]
        have g35 := g34.trans g5
        have g45 := g4.trans g5
        -- the first test
        refine ⟨_, rfl, D, _, rfl, .inl (SqL.of hD5), _, _, rfl, rfl, _, rfl, ?_⟩
        refine ite2 (fun q1 => ?_) (fun q1 => ?_)
        · have q1 := of_decide_eq_true q1
          refine iteTb rfl ⟨_, rfl, bad _ ?_ g35⟩
          have : ¬ (e.name.cps.toList.all fun c => decide (c ∈ letters.cps.toList)) = true := fun z => by
            rw [(oddV_nil e.name).mpr z] at q1
            exact absurd q1 (by decide)
          rw [eb, Bool.eq_false_iff.mpr this]
          simp
        have n1 : (e.name.cps.toList.all fun c => decide (c ∈ letters.cps.toList)) = true := by
          refine (oddV_nil e.name).mp ?_
          cases hq : (signs e.name).filterMap oddV with
          | nil => rfl
          | cons x l =>
            rw [hq] at q1
            exact absurd (decide_eq_true (show (0 : Int) < (((x :: l).length : Nat) : Int) by rw [List.length_cons]; omega)) q1
        refine ⟨_, rfl, e.name, rfl, Nat.le_trans z1 (by decide), _, _, rfl, rfl, _, rfl, ?_⟩
        rw [n1] at eb
        by_cases m1 : 1 ≤ e.name.length
        rotate_left
        · rw [decide_eq_false (show ¬ (1 : Int) ≤ e.name.length by omega)]
          refine ⟨_, rfl, _, rfl, bad _ ?_ g35⟩
          rw [eb, decide_eq_false m1]
          rfl
        rw [decide_eq_true (show (1 : Int) ≤ e.name.length by omega)]
        refine ⟨_, _, rfl, rfl, _, rfl, ?_⟩
        by_cases m2 : e.name.length ≤ 8
        rotate_left
        · rw [decide_eq_false (show ¬ (e.name.length : Int) ≤ 8 by omega)]
          refine ⟨_, rfl, bad _ ?_ g35⟩
          rw [eb, decide_eq_false m2, Bool.false_and, Bool.and_false]
          rfl
        rw [decide_eq_true (show (e.name.length : Int) ≤ 8 by omega)]
        rw [decide_eq_true m1, decide_eq_true m2] at eb
        refine ⟨_, rfl, _, rfl, _, rfl, _, rfl, a, xs, rfl, g35.ext_seq ha, fun sl hsl => ?_⟩
        have ecut : cutV xs none (some (0 + (i : Int))) = xs.take i := by
          rw [e0, cut_take (by omega)]
          rfl
        have hs6 : (upd H5 sl (.lst (cutV xs none (some (0 + (i : Int)))))) sl = some (.lst (xs.take i)) := by rw [upd_same, ecut]
        have gsl := Gr.new (T := Tb) (o := .lst (cutV xs none (some (0 + (i : Int))))) hsl
        have g36 := g35.trans gsl
        have g46 := g45.trans gsl
        generalize upd H5 sl (.lst (cutV xs none (some (0 + (i : Int))))) = H6 at hs6 g36 g46 gsl
        refine ⟨sl, rfl, ⟨_, SqL.of hs6⟩, fun D3 hD3 => lc_names (Tb := Tb) (SqL.of hs6) (CatAt.gr g36 (paired_takeB i hc)) (by rw [List.length_take]; omega) hD3 rfl fun H7 g7 hD7 => ?_⟩
        have g37 := g36.trans g7
        have g47 := g46.trans g7
        refine ⟨D3, _, rfl, .inl (SqL.of hD7), rfl, flat_strs _, _, rfl, ?_⟩
        rw [inV_strs]
        by_cases m3 : e.name ∈ (es.take i).map (·.name)
        · rw [decide_eq_true m3]
          exact iteTb rfl ⟨_, rfl, bad _ (by rw [eb, decide_eq_true m3]; rfl) g37⟩
        rw [decide_eq_false m3] at eb ⊢
        refine iteFb (by decide) ⟨_, rfl, _, _, rfl, rfl, _, rfl, ?_⟩
        by_cases m4 : e.w < 1
        · rw [decide_eq_true m4]
          exact ⟨_, rfl, bad _ (by rw [eb, decide_eq_true m4]; rfl) g37⟩
        rw [decide_eq_false m4] at eb ⊢
        simp only [Bool.not_false, Bool.true_and] at eb
        have hd7 := (g4.trans (g5.trans (gsl.trans g7))).at hd3 .dK
        have hlp7 := g37.at hlp .lst
        refine ⟨_, rfl, lp, rfl, ⟨_, SqL.of hlp7⟩, fun D2 hD2 => lc_fm (Tb := Tb) (xs := e.parts.map V.str) walk_list rfl (heavyV ws e.w) hD2 (by rw [List.length_map]; omega) (fun H' g => SqL.of (g.at hlp7 .lst)) (fun j v H' hv g Rk Rs hk hs => ?_) fun H8 g8 hD8 => ?_⟩
        · rw [List.getElem?_map] at hv
          cases hcp : e.parts[j]? with
          | none => rw [hcp] at hv; cases hv
          | some q =>
            rw [hcp] at hv
            cases hv
            have hd' := g.at hd7 .dK
            have ev : heavyV ws e.w (.str q) = some (.bl (heavyB ws e.w q)) := rfl
            refine ⟨rfl, _, rfl, _, rfl, d, _, rfl, dgetO hd' q, _, rfl, ?_⟩
            cases hg : get? ws q with
            | none =>
              refine hk _ _ ?_ (Gr.refl _)
              rw [ev]
              unfold heavyB
              rw [hg]
            | some w =>
              refine ⟨_, rfl, _, rfl, d, _, rfl, dgetS hd' hg, _, rfl, _, _, rfl, rfl, hk _ _ ?_ (Gr.refl _)⟩
              rw [ev]
              unfold heavyB
              rw [hg]
        have g38 := g37.trans g8
        have g48 := g47.trans g8
        refine ⟨D2, e.parts.map (heavyB ws e.w), rfl, ?_, ?_⟩
        · have e1 : (e.parts.map V.str).filterMap (heavyV ws e.w) = (e.parts.map (heavyB ws e.w)).map V.bl := by
            rw [List.filterMap_map, List.map_map, ← List.filterMap_eq_map]
            rfl
          rw [e1] at hD8
          exact SqL.of hD8
        rw [heavy_any]
        refine ⟨_, rfl, ?_⟩
        cases hb : entB e ((es.take i).map (·.name)) (fw es) with
        | false =>
          rw [hb] at eb
          rw [← eb]
          exact iteTb rfl ⟨_, rfl, bad _ hb g38⟩
        | true =>
          rw [hb] at eb
          rw [← eb]
          refine iteFb rfl ⟨_, _, _, _, _, _, _, _, rfl, g48, fun j e' h hj => ?_⟩
          rcases Nat.lt_succ_iff_lt_or_eq.mp h with h | rfl
          · exact fine j e' h hj
          · rw [he] at hj
            cases hj
            exact hb
      · rintro σ H4 ⟨s2, s3, s4, s5, s6, s7, s8, s9, rfl, g4, fine⟩
        have e1 : (xs.length : Int).toNat = es.length := by omega
        rw [e1] at fine
        exact k1 (valid_of ne fine hz.1 fun e he => (hsz2 e he).2) _ (g3.trans g4)
end
end Sk
namespace Sk
open PySem PySem.Spec PyProof.Rows L2
abbrev s_law_spoilt_numbers : Stmt := topS 42
abbrev N_law_spoilt_numbers : List Str := ["bag", "numbers", "names", "found"]
theorem sc_law_spoilt_numbers : FnScope N_law_spoilt_numbers ["bag", "numbers", "names"] (defScope s_law_spoilt_numbers) := ⟨rfl, rfl, rfl, by decide +kernel, rfl, by decide +kernel, by decide +kernel⟩
/-- numbers that may be spoilt -/
structure SpoN (nms : List Str) (st st' : Num) : Prop where
  nd : (st'.map (·.1)).Nodup
  len : st'.length ≤ st.length + 2
  ent : ∀ q ∈ st', q ∈ st ∨ ((q.1 ∈ nms ∨ q.1 = "nobody" ∨ q.1 = "zoo") ∧ -2 ≤ q.2 ∧ q.2 ≤ 1)
  ok : st' = st ∨ ∃ q ∈ st', q.1 = "nobody" ∨ q.1 = "zoo" ∨ q.2 < 0
def sp_law_spoilt_numbers (Tb : List (Addr × Str)) (K : PySem.W.Frag) : Sp := fun vs H Q _ => ∃ (p b c : Addr) (n : Nat) (L : List (Addr × HO)) (G : Hp) (st : Num) (nms : List Str), vs = [.ref p, .ref b, .ref c] ∧ Hb Tb p n L G H ∧ n + 1000 < 1000000000 ∧ G b = some (.dK (dS st)) ∧ G c = some (.lst (nms.map V.str)) ∧ nms ≠ [] ∧ nms.length ≤ 100 ∧ (st.map (·.1)).Nodup ∧ st.length ≤ 100 ∧
  ∀ r H' st', SpoN nms st st' → Hb Tb p (n + 1000) ((r, .dK (dS st')) :: L) G H' → Q (.ref r) H'
theorem mem_put' {d : Num} {x : Str} {i : Int} {q : Str × Int} (h : q ∈ put d x i) : q ∈ d ∨ (q.1 = x ∧ q.2 = i) := by
  unfold put at h
  split at h
  · obtain ⟨y, hy, rfl⟩ := List.mem_map.mp h
    by_cases z : y.1 = x
    · rw [if_pos z]
      exact .inr ⟨z, rfl⟩
    · rw [if_neg z]
      exact .inl hy
  · rcases List.mem_append.mp h with h | h
    · exact .inl h
    · rw [List.mem_singleton.mp h]
      exact .inr ⟨rfl, rfl⟩
theorem SpoN.put1 {nms : List Str} {st st' : Num} {x : Str} {i : Int} (h : SpoN nms st st') (hl : st'.length ≤ st.length + 1) (hx : x ∈ nms ∨ x = "nobody" ∨ x = "zoo") (h1 : -2 ≤ i) (h2 : i ≤ 1) (hb : x = "nobody" ∨ x = "zoo" ∨ i < 0) : SpoN nms st (put st' x i) := by
  have hp := put_len st' x i
  refine ⟨put_nodup h.nd, by omega, fun q hq => ?_, .inr ?_⟩
  · rcases mem_put' hq with z | ⟨z1, z2⟩
    · exact h.ent q z
    · rw [z1, z2]
      exact .inr ⟨hx, h1, h2⟩
  · have hg : get? (put st' x i) x = some i := by rw [get?_put, if_pos rfl]
    obtain ⟨q, hq, e1, e2⟩ : ∃ q ∈ put st' x i, q.1 = x ∧ q.2 = i := by
      unfold get? at hg
      cases hf : (put st' x i).find? (fun q => decide (q.1 = x)) with
      | none => rw [hf] at hg; cases hg
      | some q =>
        rw [hf] at hg
        exact ⟨q, List.mem_of_find?_eq_some hf, of_decide_eq_true (p := q.1 = x) (by have := List.find?_some hf; exact this), Option.some.inj hg⟩
    refine ⟨q, hq, ?_⟩
    rw [e1, e2]
    exact hb
section
variable {P : Program} {w : World} {K : PySem.W.Frag} {mg : Str → Option Value} {base : Heap} {Tb : List (Addr × Str)}
theorem ok_law_spoilt_numbers {f : Addr} {fd : FuncData} (F : FnP K "_law_spoilt_numbers" s_law_spoilt_numbers f fd) (T : Tx K mg) (G_law_draw : Fn P w K mg base "_law_draw" 1 ["bag", "many"] (sp_law_draw Tb K)) : FnOk P w K mg base CX0 2 f fd ["bag", "numbers", "names"] (sp_law_spoilt_numbers Tb K) := by
  refine F.ok sc_law_spoilt_numbers (fun vs H Q E h => ?_) (fun cdv A outer s H vs Q E hr h => ?_)
  · obtain ⟨_, _, _, _, _, _, _, _, rfl, _⟩ := h
    rfl
  · obtain ⟨p, b, c, n, L, G, st, nms, rfl, hs, hn, hb, hc, hne, hnl, nd, hl, k⟩ := h
    refine ⟨_, PSs.nox (pss_cons (ps_set (i := 3) sc_law_spoilt_numbers.nd rfl (Or.inl rfl) (pe_callTy call_dictD (by rfl) T.n_dict (by decide +kernel) (pa_cons (pv 1) pa_nil)))
      (pss_cons (ps_if (pt_cmpR op_eq (pe_fn G_law_draw (hr.mono (by decide)) (pa_cons (pv 0) (pa_cons pe_int pa_nil))) pe_int (nomark _)) (pss_one (ps_dput (hu_of hr) (pv 3) (pe_ix (ixT (K := K) rfl) (pe_tup (pa_cons pe_str (pa_cons pe_str pa_nil))) (pe_fn G_law_draw (hr.mono (by decide)) (pa_cons (pv 0) (pa_cons pe_int pa_nil))) (fun _ _ => rfl)) (pe_fn G_law_draw (hr.mono (by decide)) (pa_cons (pv 0) (pa_cons pe_int pa_nil))) rfl)) pss_nil)
      (pss_cons (ps_if (pt_cmpR op_eq (pe_fn G_law_draw (hr.mono (by decide)) (pa_cons (pv 0) (pa_cons pe_int pa_nil))) pe_int (nomark _)) (pss_one (ps_dput (hu_of hr) (pv 3) (pe_ix (ixL (K := K) rfl) (pv 2) (pe_fn G_law_draw (hr.mono (by decide)) (pa_cons (pv 0) (pa_cons (pe_callB (lenS (K := K) rfl) (by rfl) T.n_len (by decide +kernel) (pa_cons (pv 2) pa_nil)) pa_nil))) (fun _ _ => rfl)) (pe_op op_sub (pe_un un_neg pe_int) (pe_fn G_law_draw (hr.mono (by decide)) (pa_cons (pv 0) (pa_cons pe_int pa_nil)))) rfl)) pss_nil)
      (pss_one (ps_ret (pv 3)))))), ?_⟩
    refine ⟨_, rfl, b, dS st, rfl, Rd.of (hs.fzat hb), fun f hf => ?_⟩
    have h1 := hs.new hf (.dK (xs := dS st))
    refine goN ?_
    dsimp only
    have base : SpoN nms st st := ⟨nd, by omega, fun q hq => .inl hq, .inl rfl⟩
    refine sq_st (fun σ H' => σ = [some (.ref p), some (.ref b), some (.ref c), some (.ref f)] ∧ ∃ st' : Num, SpoN nms st st' ∧ st'.length ≤ st.length + 1 ∧ Hb Tb p (n + 10) ((f, .dK (dS st')) :: L) G H') (fun N hN => ?_) ?_
    · refine ⟨_, rfl, p, _, _, G, 4, rfl, h1, by omega, by decide, by decide +kernel, fun d H2 d0 d1 h2 => ⟨rfl, _, rfl, ?_⟩⟩
      refine ite2 (fun q => ?_) (fun q => hN _ _ ⟨rfl, st, base, by omega, h2.mono (by omega)⟩)
      refine ⟨_, rfl, p, _, _, G, 2, rfl, h2, by omega, by decide, by decide +kernel, fun v H3 v0 v1 h3 => ?_⟩
      refine ⟨_, rfl, by show 2 ≤ sizeLine; decide, fun t0 ht0 => ?_⟩
      have h4 := h3.new ht0 (.tup (xs := [.str "nobody", .str "zoo"]))
      refine ⟨_, rfl, p, _, _, G, 2, rfl, h4, by omega, by decide, by decide +kernel, fun u H5 u0 u1 h5 => ?_⟩
      obtain ⟨nm, hnm, ey⟩ : ∃ nm : Str, (nm = "nobody" ∨ nm = "zoo") ∧ atI [V.str "nobody", .str "zoo"] u = some (.str nm) := by
        have : u = 0 ∨ u = 1 := by omega
        rcases this with rfl | rfl
        · exact ⟨_, .inl rfl, atI_nat (j := 0) rfl⟩
        · exact ⟨_, .inr rfl, atI_nat (j := 1) rfl⟩
      refine ⟨t0, _, u, .str nm, rfl, rfl, SqT.of (h5.get (i := 0) rfl), ey, f, _, rfl, dputS (h5.get (i := 1) rfl) (by rw [sizeLine_eq]; omega), ?_⟩
      have h6 := (h5.drop1.put (i := 0) (o' := .dK (dS (put st nm v))) rfl .dK)
      have hpl := put_len st nm v
      exact hN _ _ ⟨rfl, put st nm v, base.put1 (by omega) (.inr hnm) (by omega) (by omega) (hnm.imp id .inl), by omega, h6.mono (by omega)⟩
    rintro σ H2 ⟨rfl, st', sp, hl', h2⟩
    refine sq_st (fun σ H' => σ = [some (.ref p), some (.ref b), some (.ref c), some (.ref f)] ∧ ∃ st' : Num, SpoN nms st st' ∧ Hb Tb p (n + 100) ((f, .dK (dS st')) :: L) G H') (fun N hN => ?_) ?_
    · refine ⟨_, rfl, p, _, _, G, 4, rfl, h2, by omega, by decide, by decide +kernel, fun d H2 d0 d1 h2 => ⟨rfl, _, rfl, ?_⟩⟩
      refine ite2 (fun q => ?_) (fun q => hN _ _ ⟨rfl, st', sp, h2.mono (by omega)⟩)
      refine ⟨_, rfl, _, rfl, p, _, _, G, 2, rfl, h2, by omega, by decide, by decide +kernel, fun v H3 v0 v1 h3 => ⟨_, _, rfl, rfl, ?_⟩⟩
      have npos := List.length_pos_iff.mpr hne
      refine ⟨_, rfl, _, rfl, _, rfl, _, rfl, c, _, rfl, .inl (SqL.of (h3.fzat hc)), p, _, _, G, (nms.length : Int), by rw [List.length_map]; rfl, h3, by omega, by omega, Int.lt_of_le_of_lt (show (nms.length : Int) ≤ 100 by omega) (by decide +kernel), fun u H5 u0 u1 h5 => ?_⟩
      obtain ⟨y, hy, ey⟩ := pick_at (xs := nms.map V.str) u0 (by rw [List.length_map]; exact u1)
      obtain ⟨nm, hnm, rfl⟩ := List.mem_map.mp hy
      refine ⟨c, _, u, .str nm, rfl, rfl, SqL.of (h5.fzat hc), ey, f, _, rfl, dputS (h5.get (i := 0) rfl) (by rw [sizeLine_eq]; omega), ?_⟩
      have h6 := (h5.put (i := 0) (o' := .dK (dS (put st' nm (-1 - v)))) rfl .dK)
      exact hN _ _ ⟨rfl, put st' nm (-1 - v), sp.put1 hl' (.inl hnm) (by omega) (by omega) (.inr (.inr (by omega))), h6.mono (by omega)⟩
    rintro σ H3 ⟨rfl, st2, sp2, h3⟩
    exact ⟨_, rfl, k f _ st2 sp2 (h3.mono (by omega))⟩
end
end Sk
namespace Sk
open PySem PySem.Spec PyProof.Rows L2
abbrev s_law_stock_fault : Stmt := topS 43
abbrev N_law_stock_fault : List Str := ["pool", "supply", "names", "odd", "entry", "name"]
theorem sc_law_stock_fault : FnScope N_law_stock_fault ["pool", "supply"] (defScope s_law_stock_fault) := ⟨rfl, rfl, rfl, by decide +kernel, rfl, by decide +kernel, by decide +kernel⟩
def sp_law_stock_fault (Tb : List (Addr × Str)) (K : PySem.W.Frag) : Sp := fun vs H Q _ => ∃ (a b : Addr) (xs : List V) (es : List Ent) (st : Num), vs = [.ref a, .ref b] ∧ SqL K H a xs ∧ CatAt H xs es ∧ H b = some (.dK (dS st)) ∧ (st.map (·.1)).Nodup ∧ st.length < 64 ∧ es.length ≤ 100000 ∧ ((∀ q ∈ st, ¬ badSt es st q.1) → ∀ H', Gr Tb H H' → Q .non H') ∧ (∀ x H', FirstName (badSt es st) (st.map (·.1)) x → Gr Tb H H' → Q (.str x) H')
/-- the names that may not be -/
def badV (es : List Ent) (st : Num) (v : V) : Option V := match v with
  | .str y => if y ∉ es.map (·.name) ∨ getD st y < 0 then some (.str y) else none
  | _ => none
theorem badV_map (es : List Ent) (st : Num) (l : List Str) : (l.map V.str).filterMap (badV es st) = (l.filter fun y => decide (y ∉ es.map (·.name) ∨ getD st y < 0)).map V.str := by
  induction l with
  | nil => rfl
  | cons y l ih =>
    rw [List.map_cons, List.filter_cons]
    by_cases z : y ∉ es.map (·.name) ∨ getD st y < 0
    · rw [if_pos (decide_eq_true z), List.map_cons, List.filterMap_cons_some (f := badV es st) (b := .str y) (show badV es st (.str y) = _ from if_pos z), ih]
    · rw [if_neg (fun h => z (of_decide_eq_true h)), List.filterMap_cons_none (f := badV es st) (show badV es st (.str y) = _ from if_neg z), ih]
section
variable {P : Program} {w : World} {K : PySem.W.Frag} {mg : Str → Option Value} {base : Heap} {Tb : List (Addr × Str)}
theorem ok_law_stock_fault {f : Addr} {fd : FuncData} (F : FnP K "_law_stock_fault" s_law_stock_fault f fd) (T : Tx K mg) : FnOk P w K mg base CX0 1 f fd ["pool", "supply"] (sp_law_stock_fault Tb K) := by
  refine F.ok sc_law_stock_fault (fun vs H Q E h => ?_) (fun cdv A outer s H vs Q E hr h => ?_)
  · obtain ⟨_, _, _, _, _, rfl, _⟩ := h
    rfl
  · obtain ⟨a, b, xs, es, st, rfl, ha, hc, hb, nd, few, hl, k1, k2⟩ := h
    refine ⟨_, PSs.nox (pss_cons (ps_set (i := 2) sc_law_stock_fault.nd rfl (Or.inr rfl) (pe_lc (own := [("entry", 4)]) (g := (gName 4)) (tt := tYes) rfl sc_law_stock_fault.nd (piL (K := K) rfl (pv 0)) (blkOk_by (N := N_law_stock_fault) (sc := (defScope s_law_stock_fault)) (by decide +kernel)) (fun _ _ _ _ _ => (pg_name (i := 4) sc_law_stock_fault.nd rfl (Or.inl rfl))) (fun _ _ _ _ _ => pts_nil) (fun _ _ _ _ _ => (pe_ix (ixT (K := K) rfl) (pv 4) pe_int (fun _ _ => rfl)))))
      (pss_cons (ps_set (i := 3) sc_law_stock_fault.nd rfl (Or.inl rfl) (pe_callB (crSortedS (K := K) rfl) (by rfl) T.n_sorted (by decide +kernel) (pa_cons (pe_lock (pe_lc (own := [("name", 5)]) (g := (gName 5)) (tt := _) rfl sc_law_stock_fault.nd (pi_keys (pv 1)) (blkOk_by (N := N_law_stock_fault) (sc := (defScope s_law_stock_fault)) (by decide +kernel)) (fun _ _ _ _ _ => (pg_name (i := 5) sc_law_stock_fault.nd rfl (Or.inl rfl))) (fun _ _ _ _ _ => (pts_one (PW.pt (pw_or (pt_cmpR (opNotIn (K := K) rfl) (pv 5) (pv 2) (by with_unfolding_all rfl)) (pw_or1 (pt_cmpR op_lt (pe_dget (hu_of hr) (pv 1) (pv 5) (fun _ _ => rfl)) pe_int (nomark _))))))) (fun _ _ _ _ _ => (pv 5)))) pa_nil)))
      (pss_one (ps_ret (pe_ix (ixL (K := K) rfl) (pe_op op_cat (pv 3) (pe_lst (pa_cons pe_non pa_nil))) pe_int (fun _ _ => rfl)))))), ?_⟩
    refine ⟨_, rfl, a, rfl, ⟨_, ha⟩, fun D hD => lc_names (Tb := Tb) ha hc hl hD rfl fun H1 g1 hD1 => ?_⟩
    have hb1 := g1.at hb .dK
    have Db : D ≠ b := fun z => by rw [z, hb] at hD; cases hD
    refine ⟨b, _, hb1, trivial, fun od => ⟨_, rfl, b, od, rfl, .inl ⟨_, upd_same, fun D2 hD2 => lc_fm (Tb := Tb) (xs := (st.map (·.1)).map V.str) (walk_keysS (d := b) (o := od) (n := st)) (by rw [List.length_map, List.length_map]) (badV es st) hD2 (by omega) (fun H' g => g.at upd_same .frz) (fun j v H' hv g Rk Rs hk hs => ?_) fun H' g hD' => ?_⟩⟩⟩
    · rw [List.getElem?_map, List.getElem?_map] at hv
      cases hq : st[j]? with
      | none => rw [hq] at hv; cases hv
      | some q =>
        rw [hq] at hv
        cases hv
        have hqm := List.mem_of_getElem? hq
        have hDh : H' D = some (.lst ((es.map (·.name)).map V.str)) := g.at (show (upd H1 b (.frz od (.dK (dS st)))) D = _ by rw [upd_ne Db]; exact hD1) .lst
        have dg : DGet H' b (.str q.1) (some (.int q.2)) := by
          refine .inl ⟨dS st, Sum.inr q.1, .inr ⟨od, g.at upd_same .frz⟩, rfl, ?_⟩
          rw [valV_dS, get?_mem nd hqm]
          rfl
        have ev : badV es st (.str q.1) = if q.1 ∉ es.map (·.name) ∨ getD st q.1 < 0 then some (.str q.1) else none := rfl
        refine ⟨rfl, _, rfl, _, rfl, D, _, rfl, .inl (SqL.of hDh), rfl, flat_strs _, _, rfl, ?_⟩
        rw [inV_strs]
        by_cases m1 : q.1 ∈ es.map (·.name)
        rotate_left
        · rw [decide_eq_false m1]
          exact ⟨_, rfl, hk _ _ (by rw [ev]; exact if_pos (.inl m1)) (Gr.refl _)⟩
        rw [decide_eq_true m1]
        refine iteFb (by decide) ⟨_, rfl, _, rfl, b, _, rfl, dg, _, _, rfl, rfl, _, rfl, ?_⟩
        have eg := getD_mem nd hqm
        refine ite2 (fun m2 => ?_) (fun m2 => ?_)
        · exact ⟨_, rfl, hk _ _ (by rw [ev]; exact if_pos (.inr (by rw [eg]; exact of_decide_eq_true m2))) (Gr.refl _)⟩
        · refine hs _ ?_ (Gr.refl _)
          rw [ev]
          refine if_neg ?_
          rintro (z | z)
          · exact z m1
          · rw [eg] at z
            exact m2 (decide_eq_true z)
    have hcl := g.at upd_same .frz
    have D2b : D2 ≠ b := fun z => by
      rw [z, upd_same] at hD2
      cases hD2
    have g2 : Gr Tb H1 (upd H' b (.dK (dS st))) := Gr.unlock hb1 .dK g hcl
    rw [badV_map] at hD'
    have g12 := g1.trans g2
    have mb : ∀ y, y ∈ (st.map (·.1)).filter (fun y => decide (y ∉ es.map (·.name) ∨ getD st y < 0)) ↔ y ∈ st.map (·.1) ∧ badSt es st y := fun y => by
      rw [List.mem_filter, decide_eq_true_iff]
      rfl
    have bl : ((st.map (·.1)).filter (fun y => decide (y ∉ es.map (·.name) ∨ getD st y < 0))).length ≤ st.length := by
      refine Nat.le_trans (List.length_filter_le _ _) ?_
      rw [List.length_map]
      exact Nat.le_refl _
    generalize (st.map (·.1)).filter (fun y => decide (y ∉ es.map (·.name) ∨ getD st y < 0)) = bs at hD' mb bl
    refine ⟨hcl, D2, bs, rfl, SqL.of (by rw [upd_ne D2b]; exact hD'), by omega, fun ys p hp hso hpn => ?_⟩
    have g3 := g12.trans (Gr.new (o := .lst (ys.map V.str)) hpn)
    have hyl := hp.length_eq
    refine ⟨_, rfl, by show 1 ≤ sizeLine; decide, fun l1 hl1 => ?_⟩
    have g4 := g3.trans (Gr.new (o := .lst [.non]) hl1)
    refine ⟨p, l1, _, _, rfl, rfl, (Gr.new (T := Tb) hl1).at upd_same .lst, upd_same, by rw [List.length_map, sizeLine_eq]; show _ + 1 ≤ _; omega, fun l2 hl2 => ?_⟩
    have g5 := g4.trans (Gr.new (o := .lst (ys.map V.str ++ [.non])) hl2)
    cases ys with
    | nil =>
      refine ⟨l2, _, 0, _, rfl, rfl, SqL.of upd_same, atI_nat (j := 0) rfl, k1 (fun q hq z => ?_) _ g5⟩
      have := (mb q.1).mpr ⟨List.mem_map.mpr ⟨q, hq, rfl⟩, z⟩
      rw [List.nil_perm.mp hp] at this
      cases this
    | cons x ys =>
      refine ⟨l2, _, 0, _, rfl, rfl, SqL.of upd_same, atI_nat (j := 0) rfl, k2 x _ ?_ g5⟩
      obtain ⟨h1, h2⟩ := (mb x).mp (hp.mem_iff.mp (List.mem_cons_self ..))
      refine ⟨h1, h2, fun y hy by1 => ?_⟩
      rcases List.mem_cons.mp (hp.mem_iff.mpr ((mb y).mpr ⟨hy, by1⟩)) with rfl | hy
      · exact List.le_refl _
      · exact (List.pairwise_cons.mp (sorted_pw hso)).1 y hy
end
end Sk
namespace Sk
open PySem PySem.Spec PyProof.Rows L2
/-- c' is c with some more, the first ones first -/
structure Fill (n : Nat) (F c c' : Nat → Int) : Prop where
  vec : Vec n F c'
  le : ∀ i, i < n → c i ≤ c' i
  full : ∀ i k, i < k → k < n → c k < c' k → c' i = F i
/-- c' is c with some less, the last ones first -/
structure Drain (n : Nat) (c c' : Nat → Int) : Prop where
  pos : ∀ i, i < n → 0 ≤ c' i
  le : ∀ i, i < n → c' i ≤ c i
  zero : ∀ i k, i < k → k < n → c' i < c i → c' k = 0
section
variable {n : Nat} {F c c' c'' : Nat → Int} {i j : Nat}
theorem Fill.uniq (a : Fill n F c c') (b : Fill n F c c'') (s : sumN c' n = sumN c'' n) : ∀ k, k < n → c' k = c'' k := by
  refine fun k hk => Decidable.byContradiction fun z => ?_
  obtain ⟨m, hm, hne, hf⟩ := first_ex (P := fun k => c' k ≠ c'' k) n ⟨k, hk, z⟩
  have eq : ∀ k, k < m → c' k = c'' k := fun k hk => Decidable.not_not.mp (hf k hk)
  rcases Int.lt_or_gt_of_ne hne with q | q
  · have : sumN c' n < sumN c'' n := sumN_lt (k := m) (fun t ht => by
      rcases Nat.lt_trichotomy t m with y | y | y
      · rw [eq t y]
        exact Int.le_refl _
      · rw [y]
        omega
      · by_cases w : c t < c' t
        · have h1 := a.full m t y ht w
          have h2 := (b.vec m hm).2
          omega
        · have h1 := a.le t ht
          have h2 := b.le t ht
          omega) hm q
    omega
  · have : sumN c'' n < sumN c' n := sumN_lt (k := m) (fun t ht => by
      rcases Nat.lt_trichotomy t m with y | y | y
      · rw [eq t y]
        exact Int.le_refl _
      · rw [y]
        omega
      · by_cases w : c t < c'' t
        · have h1 := b.full m t y ht w
          have h2 := (a.vec m hm).2
          omega
        · have h1 := a.le t ht
          have h2 := b.le t ht
          omega) hm q
    omega
theorem Drain.uniq (a : Drain n c c') (b : Drain n c c'') (s : sumN c' n = sumN c'' n) : ∀ k, k < n → c' k = c'' k := by
  refine fun k hk => Decidable.byContradiction fun z => ?_
  obtain ⟨m, hm, hne, hf⟩ := last_ex (P := fun k => c' k ≠ c'' k) n ⟨k, hk, z⟩
  have eq : ∀ k, m < k → k < n → c' k = c'' k := fun k hk hn => Decidable.not_not.mp (hf k hk hn)
  rcases Int.lt_or_gt_of_ne hne with q | q
  · have : sumN c' n < sumN c'' n := sumN_lt (k := m) (fun t ht => by
      rcases Nat.lt_trichotomy t m with y | y | y
      · by_cases w : c'' t < c t
        · have h1 := b.zero t m y hm w
          have h2 := a.pos m hm
          omega
        · have h1 := a.le t ht
          have h2 := b.le t ht
          omega
      · rw [y]
        omega
      · rw [eq t y ht]
        exact Int.le_refl _) hm q
    omega
  · have : sumN c'' n < sumN c' n := sumN_lt (k := m) (fun t ht => by
      rcases Nat.lt_trichotomy t m with y | y | y
      · by_cases w : c' t < c t
        · have h1 := a.zero t m y hm w
          have h2 := b.pos m hm
          omega
        · have h1 := a.le t ht
          have h2 := b.le t ht
          omega
      · rw [y]
        omega
      · rw [eq t y ht]
        exact Int.le_refl _) hm q
    omega
theorem Fill.refl (v : Vec n F c) : Fill n F c c := ⟨v, fun _ _ => Int.le_refl _, fun _ _ _ _ h => absurd h (Int.lt_irrefl _)⟩
theorem Drain.refl (v : Vec n F c) : Drain n c c := ⟨fun i hi => (v i hi).1, fun _ _ => Int.le_refl _, fun _ _ _ _ h => absurd h (Int.lt_irrefl _)⟩
/-- one step more -/
theorem Fill.step (a : Fill n F c c') (g : Gap n F c' i) : Fill n F c (addN c' i) := by
  refine ⟨a.vec.add g, fun k hk => ?_, fun m k h1 h2 h3 => ?_⟩
  · have := a.le k hk
    rw [addN_at]
    split <;> omega
  · have gl := g.le
    rw [addN_at] at h3 ⊢
    by_cases q : k = i
    · subst q
      rw [if_neg (by omega)]
      have := g.full m h1
      omega
    · rw [if_neg q] at h3
      have h4 := a.full m k h1 h2 (by omega)
      rw [if_neg]
      · omega
      · intro z
        rw [z] at h4
        omega
theorem Drain.step (a : Drain n c c') (l : Last n c' j) : Drain n c (subN c' j) := by
  have lp := l.pos
  refine ⟨fun k hk => ?_, fun k hk => ?_, fun m k h1 h2 h3 => ?_⟩
  · have := a.pos k hk
    rw [subN_at]
    split
    · rename_i e
      subst e
      omega
    · omega
  · have := a.le k hk
    rw [subN_at]
    split <;> omega
  · rw [subN_at] at h3 ⊢
    by_cases q : m = j
    · subst q
      rw [if_neg (by omega)]
      have := l.zero k h1 h2
      omega
    · rw [if_neg q] at h3
      have h4 := a.zero m k h1 h2 (by omega)
      rw [if_neg]
      · omega
      · intro z
        rw [z] at h4
        omega
theorem Fill.one (v : Vec n F c) (g : Gap n F c i) : Fill n F c (addN c i) := (Fill.refl v).step g
theorem Drain.one (v : Vec n F c) (l : Last n c j) : Drain n c (subN c j) := (Drain.refl v).step l
/-- one after the other -/
theorem Fill.trans (a : Fill n F c c') (b : Fill n F c' c'') : Fill n F c c'' := by
  refine ⟨b.vec, fun k hk => Int.le_trans (a.le k hk) (b.le k hk), fun m k h1 h2 h3 => ?_⟩
  by_cases q : c' k < c'' k
  · exact b.full m k h1 h2 q
  · have := b.le k h2
    have h4 := a.full m k h1 h2 (by omega)
    have h5 := b.le m (by omega)
    have h6 := (b.vec m (by omega)).2
    omega
theorem Drain.trans (a : Drain n c c') (b : Drain n c' c'') : Drain n c c'' := by
  refine ⟨b.pos, fun k hk => Int.le_trans (b.le k hk) (a.le k hk), fun m k h1 h2 h3 => ?_⟩
  by_cases q : c'' m < c' m
  · exact b.zero m k h1 h2 q
  · have := b.le m (by omega)
    have h4 := a.zero m k h1 h2 (by omega)
    have h5 := b.le k h2
    have h6 := b.pos k h2
    omega
end
end Sk
namespace Sk
open PySem PySem.Spec PyProof.Rows L2
/-- how many splits the others lack -/
def overN (sp best : Num) : Int := (sp.map fun q => if q.2 - getD best q.1 > 0 then q.2 - getD best q.1 else 0).sum
def sp_displacement (Tb : List (Addr × Str)) (K : PySem.W.Frag) : Sp := fun vs H Q E => ∃ (a b c : Addr) (xs : List V) (es : List Ent) (st sp : Num), vs = [.ref a, .ref b, .ref c] ∧ SqL K H a xs ∧ CatAt H xs es ∧ H b = some (.dK (dS st)) ∧ H c = some (.dK (dS sp)) ∧ LamX.Tabs Tb H ∧ Sized es ∧ (st.map (·.1)).Nodup ∧ st.length < 64 ∧ (sp.map (·.1)).Nodup ∧ sp.length < 64 ∧ ErrCS Tb K H E es st ∧
  (∀ x dd H', Valid es → StockOk es st → BadSp es st sp x → Gr Tb H H' → H' dd = some (.xd [("value", .str x)]) → E (.ref (He.ga K "InvalidSplits")) (some dd) H') ∧
  (∀ H' es', Valid es → StockOk es st → SplitsOk es st sp → es'.Perm es → Ordered es' → Gr Tb H H' → Q (.int (overN sp (greedy (fs es' (getD st)) (sp.map (·.2)).sum))) H')
end Sk
namespace Sk
open PySem PySem.Spec PyProof.Rows L2
theorem amt_keys {l : List Str} (nd : l.Nodup) (x : Str) : amt (ones l) x = if x ∈ l then 1 else 0 := by
  induction l with
  | nil => rfl
  | cons p l ih =>
    rw [List.nodup_cons] at nd
    unfold ones at ih ⊢
    rw [List.map_cons, amt_cons, ih nd.2]
    show (if p = x then (1 : Int) else 0) + _ = _
    by_cases c : p = x
    · rw [if_pos c, if_neg (by rw [← c]; exact nd.1), if_pos (by rw [c]; exact List.mem_cons_self ..)]
      rfl
    · rw [if_neg c]
      by_cases c2 : x ∈ l
      · rw [if_pos c2, if_pos (List.mem_cons_of_mem _ c2)]
        rfl
      · rw [if_neg c2, if_neg]
        · rfl
        · intro h
          rcases List.mem_cons.mp h with z | z
          · exact c z.symm
          · exact c2 z
/-- a sum over a dict's names, as a sum over the kinds -/
theorem sum_keys {es : List Ent} {d : Num} (nd : (es.map (·.name)).Nodup) (dn : (d.map (·.1)).Nodup) (hk : ∀ q ∈ d, q.1 ∈ es.map (·.name)) {h : Str → Int} (hz : ∀ e ∈ es, e.name ∉ d.map (·.1) → h e.name = 0) : (d.map fun q => h q.1).sum = sumE es h := by
  have h1 := sumE_amt nd h (l := ones (d.map (·.1))) fun q hq => by
    unfold ones at hq
    obtain ⟨x, hx, rfl⟩ := List.mem_map.mp hq
    obtain ⟨z, hz, rfl⟩ := List.mem_map.mp hx
    exact hk z hz
  have h2 : ((ones (d.map (·.1))).map fun q => q.2 * h q.1) = d.map fun q => h q.1 := by
    unfold ones
    rw [List.map_map, List.map_map]
    exact List.map_congr_left fun q _ => Int.one_mul _
  rw [h2] at h1
  rw [← h1]
  refine sumE_congr fun e he => ?_
  rw [amt_keys dn]
  by_cases c : e.name ∈ d.map (·.1)
  · rw [if_pos c, Int.one_mul]
  · rw [if_neg c, hz e he c, Int.zero_mul]
theorem fs_key {es : List Ent} {f : Str → Int} (b : Behind es) (nd : (es.map (·.name)).Nodup) {e : Ent} (he : e ∈ es) (hp : e.parts ≠ []) : e.name ∈ (fs es f).map (·.1) := by
  rw [fs_final b nd, List.map_map]
  exact List.mem_map.mpr ⟨e, List.mem_filter.mpr ⟨he, decide_eq_true hp⟩, rfl⟩
def posI (z : Int) : Int := if z > 0 then z else 0
theorem posI_nonneg (z : Int) : 0 ≤ posI z := by
  unfold posI
  split <;> omega
theorem posI_le {z : Int} : z ≤ posI z := by
  unfold posI
  split <;> omega
/-- what c exceeds and what it lacks, kind by kind -/
theorem over_all {es es' : List Ent} {d c : Num} (hv : Valid es) (hp : es'.Perm es) (ho : Ordered es') (so : StockOk es d) (ok : SplitsOk es d c) (hz : es.length < 64) :
    (greedy (fs es' (getD d)) (c.map (·.2)).sum |>.map (·.2)).sum = (c.map (·.2)).sum ∧ SplitsOk es d (greedy (fs es' (getD d)) (c.map (·.2)).sum) ∧
    overN c (greedy (fs es' (getD d)) (c.map (·.2)).sum) = sumE es (fun x => posI (getD c x - getD (greedy (fs es' (getD d)) (c.map (·.2)).sum) x)) ∧
    ((greedy (fs es' (getD d)) (c.map (·.2)).sum).map fun q => posI (getD c q.1 - getD (greedy (fs es' (getD d)) (c.map (·.2)).sum) q.1)).sum = sumE es (fun x => posI (getD c x - getD (greedy (fs es' (getD d)) (c.map (·.2)).sum) x)) ∧
    ((greedy (fs es' (getD d)) (c.map (·.2)).sum).map fun q => posI (getD (greedy (fs es' (getD d)) (c.map (·.2)).sum) q.1 - getD c q.1)).sum = sumE es (fun x => posI (getD c x - getD (greedy (fs es' (getD d)) (c.map (·.2)).sum) x)) := by
  have hv' := hv.perm hp
  have hbe := hv'.behind ho
  have d0 : ∀ x, 0 ≤ getD d x := fun x => getD_pos so.pos x
  have fsn := fs_nonneg hbe hv'.nodup d0
  have cp : ∀ q ∈ c, 0 ≤ q.2 := fun q hq => by
    obtain ⟨e, he, z⟩ := List.mem_map.mp (ok.known q hq)
    have := (ok.fits e he).1
    rw [z, getD_mem ok.nd hq] at this
    exact this
  have n0 : 0 ≤ (c.map (·.2)).sum := by
    rw [← sumE_getD hv.nodup ok.nd ok.known]
    exact sumE_nonneg fun e _ => getD_pos cp e.name
  have n1 := splits_le hv hp ho so ok
  have hs := greedy_sum fsn n0 n1
  have bok := balanced_ok hv hp ho so hz n0
  have hkey : ∀ e ∈ es, e.parts ≠ [] → e.name ∈ (greedy (fs es' (getD d)) (c.map (·.2)).sum).map (·.1) := fun e he hpe => by
    rw [greedy_names]
    exact fs_key hbe hv'.nodup (hp.mem_iff.mpr he) hpe
  have hnn := sumE_getD hv.nodup ok.nd ok.known
  generalize (c.map (·.2)).sum = n at *
  generalize greedy (fs es' (getD d)) n = b at *
  have none : ∀ e ∈ es, e.name ∉ b.map (·.1) → getD b e.name = 0 ∧ getD c e.name = 0 := fun e he hn => by
    have hpe : e.parts = [] := Decidable.byContradiction fun z => hn (hkey e he z)
    obtain ⟨f1, f2⟩ := ok.fits e he
    rw [if_pos hpe] at f2
    exact ⟨getD_none hn, by omega⟩
  have pos0 : posI 0 = 0 := rfl
  refine ⟨hs, bok, ?_, ?_, ?_⟩
  · rw [← sum_keys (d := c) hv.nodup ok.nd ok.known]
    · unfold overN
      congr 1
      refine List.map_congr_left fun q hq => ?_
      rw [getD_mem ok.nd hq]
      rfl
    · intro e he hn
      have h1 := (bok.fits e he).1
      rw [getD_none hn]
      unfold posI
      rw [if_neg (by omega)]
  · refine sum_keys hv.nodup bok.nd bok.known (h := fun x => posI (getD c x - getD b x)) fun e he hn => ?_
    obtain ⟨h1, h2⟩ := none e he hn
    show posI _ = 0
    rw [h1, h2]
    rfl
  · rw [sum_keys hv.nodup bok.nd bok.known (h := fun x => posI (getD b x - getD c x)) fun e he hn => by
      obtain ⟨h1, h2⟩ := none e he hn
      show posI _ = 0
      rw [h1, h2]
      rfl]
    have e2 := sumE_getD hv.nodup bok.nd bok.known
    have e3 : sumE es (fun x => posI (getD b x - getD c x)) + sumE es (getD c) = sumE es (fun x => posI (getD c x - getD b x)) + sumE es (getD b) := by
      rw [← sumE_add, ← sumE_add]
      refine sumE_congr fun e _ => ?_
      show posI (getD b e.name - getD c e.name) + getD c e.name = posI (getD c e.name - getD b e.name) + getD b e.name
      unfold posI
      split <;> split <;> omega
    omega
theorem overN_self {b : Num} (h : (b.map (·.1)).Nodup) : overN b b = 0 := by
  have key : ∀ l : Num, (∀ q ∈ l, q ∈ b) → overN l b = 0 := by
    intro l
    induction l with
    | nil => intro _; rfl
    | cons q l ih =>
      intro hl
      have h1 := ih fun z hz => hl z (List.mem_cons_of_mem _ hz)
      unfold overN at h1 ⊢
      rw [List.map_cons, List.sum_cons, h1, getD_mem h (hl q (List.mem_cons_self ..)), if_neg (by omega)]
      rfl
  exact key b fun _ h => h
theorem overN_le {c b : Num} (hc : ∀ q ∈ c, 0 ≤ q.2) (hb : ∀ q ∈ b, 0 ≤ q.2) : 0 ≤ overN c b ∧ overN c b ≤ (c.map (·.2)).sum := by
  unfold overN
  induction c with
  | nil => exact ⟨Int.le_refl _, Int.le_refl _⟩
  | cons q l ih =>
    have h1 := ih fun z hz => hc z (List.mem_cons_of_mem _ hz)
    have h2 := hc q (List.mem_cons_self ..)
    have h3 := getD_pos hb q.1
    rw [List.map_cons, List.sum_cons, List.map_cons, List.sum_cons]
    split <;> omega
end Sk
namespace Sk
open PySem PySem.Spec PyProof.Rows L2
theorem clean_sum (es : List Ent) (d : Num) : ((cleanN es d).map (·.2)).sum = sumE es (getD d) := by
  unfold cleanN
  induction es with
  | nil => rfl
  | cons e es ih =>
    rw [sumE_cons, List.filter_cons]
    by_cases c : getD d e.name ≠ 0
    · rw [if_pos (decide_eq_true c), List.map_cons, List.map_cons, List.sum_cons, ih]
    · rw [if_neg (by rw [decide_eq_true_eq]; exact c), ih]
      have := Decidable.not_not.mp c
      omega
end Sk
namespace Sk
open PySem PySem.Spec PyProof.Rows L2
/-- a catalogue, in order, and a stock -/
structure Sit (es es' : List Ent) (d : Num) : Prop where
  hv : Valid es
  hp : es'.Perm es
  ho : Ordered es'
  so : StockOk es d
  hz : es.length < 64
def totI (es' : List Ent) (d : Num) : Int := ((fs es' (getD d)).map (·.2)).sum
abbrev fullN (es' : List Ent) (d : Num) : Nat → Int := cN es' (getD (fs es' (getD d)))
abbrev balN (es' : List Ent) (d : Num) (n : Int) : Nat → Int := cN es' (getD (greedy (fs es' (getD d)) n))
section
variable {es es' : List Ent} {d c : Num}
theorem Sit.v' (s : Sit es es' d) : Valid es' := s.hv.perm s.hp
theorem Sit.beh (s : Sit es es' d) : Behind es' := s.v'.behind s.ho
theorem Sit.d0 (s : Sit es es' d) : ∀ x, 0 ≤ getD d x := fun x => getD_pos s.so.pos x
theorem Sit.fsn (s : Sit es es' d) : ∀ q ∈ fs es' (getD d), 0 ≤ q.2 := fs_nonneg s.beh s.v'.nodup s.d0
theorem Sit.tot (s : Sit es es' d) : sumN (fullN es' d) es'.length = totI es' d := by
  rw [sumN_cN, full_sum s.beh s.v'.nodup]
  rfl
theorem SplitsOk.pos {c : Num} (ok : SplitsOk es d c) : ∀ q ∈ c, 0 ≤ q.2 := fun q hq => by
  obtain ⟨e, he, z⟩ := List.mem_map.mp (ok.known q hq)
  have := (ok.fits e he).1
  rw [z, getD_mem ok.nd hq] at this
  exact this
theorem Sit.sum (s : Sit es es' d) (ok : SplitsOk es d c) : sumN (cN es' (getD c)) es'.length = (c.map (·.2)).sum := by
  rw [sumN_cN, sumE_perm s.hp, sumE_getD s.hv.nodup ok.nd ok.known]
theorem Sit.vec (s : Sit es es' d) (ok : SplitsOk es d c) : Vec es'.length (fullN es' d) (cN es' (getD c)) := ok.vec s.hv s.hp s.ho
theorem Sit.range (s : Sit es es' d) (ok : SplitsOk es d c) : 0 ≤ (c.map (·.2)).sum ∧ (c.map (·.2)).sum ≤ totI es' d := by
  rw [← s.sum ok, ← s.tot]
  exact ⟨sumN_nonneg fun i hi => (s.vec ok i hi).1, sumN_le fun i hi => (s.vec ok i hi).2⟩
theorem Sit.bal (s : Sit es es' d) {n : Int} (h0 : 0 ≤ n) (h1 : n ≤ totI es' d) : Vec es'.length (fullN es' d) (balN es' d n) ∧ Bal es'.length (fullN es' d) (balN es' d n) ∧ sumN (balN es' d n) es'.length = n := by
  have ok := balanced_ok s.hv s.hp s.ho s.so s.hz h0
  refine ⟨s.vec ok, greedy_bal s.beh s.v'.nodup s.d0 h0, ?_⟩
  rw [s.sum ok]
  exact greedy_sum s.fsn h0 h1
theorem Sit.over (s : Sit es es' d) (ok : SplitsOk es d c) : overN c (greedy (fs es' (getD d)) (c.map (·.2)).sum) = offN es'.length (cN es' (getD c)) (balN es' d (c.map (·.2)).sum) := by
  obtain ⟨_, _, o3, _, _⟩ := over_all s.hv s.hp s.ho s.so ok s.hz
  rw [o3, ← sumE_perm s.hp, ← sumN_cN]
  refine sumN_congr fun i hi => ?_
  have hie : es'[i]? = some es'[i] := List.getElem?_eq_getElem hi
  show _ = posZ (cN es' (getD c) i - cN es' (getD (greedy (fs es' (getD d)) (c.map (·.2)).sum)) i)
  rw [cN_at hie, cN_at hie, cN_at hie]
  rfl
theorem filter_same {p q : Ent → Bool} : ∀ {l : List Ent}, (∀ e ∈ l, p e = true → q e = true) → (l.filter p).length = (l.filter q).length → ∀ e ∈ l, p e = q e
  | [], _, _, _, h => by cases h
  | a :: l, hpq, hl, e, he => by
    have h1 : (l.filter p).length ≤ (l.filter q).length := by
      have hh : ∀ e ∈ l, p e = true → q e = true := fun e he => hpq e (List.mem_cons_of_mem _ he)
      clear hl he hpq
      induction l with
      | nil => exact Nat.le_refl _
      | cons b l ih =>
        have i1 := ih fun e he => hh e (List.mem_cons_of_mem _ he)
        have i2 := hh b (List.mem_cons_self ..)
        rw [List.filter_cons, List.filter_cons]
        cases hp : p b <;> cases hq : q b
        · exact i1
        · show _ ≤ (b :: l.filter q).length
          rw [List.length_cons]
          exact Nat.le_succ_of_le i1
        · rw [hq] at i2
          cases i2 hp
        · show (b :: l.filter p).length ≤ (b :: l.filter q).length
          rw [List.length_cons, List.length_cons]
          omega
    have i2 := hpq a (List.mem_cons_self ..)
    rw [List.filter_cons, List.filter_cons] at hl
    have key : p a = q a ∧ (l.filter p).length = (l.filter q).length := by
      cases hp : p a <;> cases hq : q a
      · rw [hp, hq] at hl
        exact ⟨rfl, hl⟩
      · rw [hp, hq] at hl
        rw [if_neg Bool.false_ne_true, if_pos rfl, List.length_cons] at hl
        omega
      · rw [hq] at i2
        cases i2 hp
      · rw [hp, hq] at hl
        rw [if_pos rfl, if_pos rfl, List.length_cons, List.length_cons] at hl
        exact ⟨rfl, by omega⟩
    rcases List.mem_cons.mp he with rfl | he
    · exact key.1
    · exact filter_same (fun e he => hpq e (List.mem_cons_of_mem _ he)) key.2 e he
theorem clean_get {es : List Ent} (nd : (es.map (·.name)).Nodup) (c : Num) {e : Ent} (he : e ∈ es) : get? (cleanN es c) e.name = if getD c e.name ≠ 0 then some (getD c e.name) else none := by
  by_cases h : getD c e.name ≠ 0
  · rw [if_pos h]
    exact get?_ndm (q := (e.name, getD c e.name)) (clean_nodup nd) (by
      unfold cleanN
      exact List.mem_map.mpr ⟨e, List.mem_filter.mpr ⟨he, decide_eq_true h⟩, rfl⟩)
  · rw [if_neg h]
    refine get?_none fun hm => ?_
    unfold cleanN at hm
    rw [List.map_map] at hm
    obtain ⟨x, hx, q⟩ := List.mem_map.mp hm
    obtain ⟨x1, x2⟩ := List.mem_filter.mp hx
    obtain rfl := same_name nd x1 he q
    exact h (of_decide_eq_true x2)
/-- cleaned numbers compared -/
theorem clean_eq {es : List Ent} (nd : (es.map (·.name)).Nodup) (c b : Num) : eqNum (cleanN es c) (cleanN es b) = true ↔ ∀ i, i < es.length → cN es (getD c) i = cN es (getD b) i := by
  constructor
  · intro h
    unfold eqNum subNum at h
    rw [Bool.and_eq_true, List.all_eq_true] at h
    obtain ⟨h1, h2⟩ := h
    have h1 := eq_of_beq h1
    have hit : ∀ e ∈ es, getD c e.name ≠ 0 → getD b e.name = getD c e.name := fun e he h0 => by
      have h3 := of_decide_eq_true (h2 (e.name, getD c e.name) (by
        unfold cleanN
        exact List.mem_map.mpr ⟨e, List.mem_filter.mpr ⟨he, decide_eq_true h0⟩, rfl⟩))
      dsimp only at h3
      rw [clean_get nd b he] at h3
      split at h3
      · exact Option.some.inj h3
      · cases h3
    have same := filter_same (p := fun e => decide (getD c e.name ≠ 0)) (q := fun e => decide (getD b e.name ≠ 0)) (l := es) (fun e he h => by
      have h0 := of_decide_eq_true h
      have := hit e he h0
      exact decide_eq_true (by rw [this]; exact h0)) (by
      unfold cleanN at h1
      rw [List.length_map, List.length_map] at h1
      exact h1)
    intro i hi
    have hie : es[i]? = some es[i] := List.getElem?_eq_getElem hi
    rw [cN_at hie, cN_at hie]
    have hm : es[i] ∈ es := List.getElem_mem _
    by_cases h0 : getD c es[i].name = 0
    · have := same es[i] hm
      have h4 : ¬ getD b es[i].name ≠ 0 := fun z => by
        have h5 : decide (getD c es[i].name ≠ 0) = true := by rw [this]; exact decide_eq_true z
        exact of_decide_eq_true h5 h0
      rw [h0, Decidable.not_not.mp h4]
    · exact (hit es[i] hm h0).symm
  · intro h
    have hh : ∀ e ∈ es, getD c e.name = getD b e.name := fun e he => by
      obtain ⟨i, hi⟩ := List.mem_iff_getElem?.mp he
      have := h i (List.getElem?_eq_some_iff.mp hi).1
      rw [cN_at hi, cN_at hi] at this
      exact this
    have e : cleanN es c = cleanN es b := by
      unfold cleanN
      rw [List.filter_congr fun e he => by rw [hh e he]]
      refine List.map_congr_left fun e he => ?_
      rw [hh e (List.mem_filter.mp he).1]
    rw [e]
    exact eqNum_refl (clean_nodup nd)
/-- there is a kind to split -/
theorem Sit.split_ex (s : Sit es es' d) (ok : SplitsOk es d c) (h : (c.map (·.2)).sum < totI es' d) : ∃ e, es'.find? (splitB es' (getD d) (getD c)) = some e := by
  obtain ⟨i, g⟩ := gap_ex (s.vec ok) (by rw [s.sum ok, s.tot]; exact h)
  have hlt := g.lt
  have hie : es'[i]? = some es'[i] := List.getElem?_eq_getElem hlt
  rw [find_gap s.beh s.v'.nodup (ok.fit s.hp)]
  exact ⟨_, gap_find hie g⟩
theorem Sit.split (s : Sit es es' d) (ok : SplitsOk es d c) {e : Ent} (h : es'.find? (splitB es' (getD d) (getD c)) = some e) : ∃ i, Gap es'.length (fullN es' d) (cN es' (getD c)) i ∧ cN es' (getD (put c e.name (getD c e.name + 1))) = addN (cN es' (getD c)) i ∧ SplitsOk es d (put c e.name (getD c e.name + 1)) := by
  have hm := List.mem_of_find?_eq_some h
  have hw := List.find?_some h
  rw [find_gap s.beh s.v'.nodup (ok.fit s.hp)] at h
  obtain ⟨i, hi, g⟩ := gap_name (fun e he => fits_le s.beh s.v'.nodup (fun _ => Int.le_refl _) (ok.fit s.hp) e he) h
  refine ⟨i, g, ?_, ?_⟩
  · rw [getD_up, cN_up s.v'.nodup hi]
  · unfold splitB at hw
    rw [Bool.and_eq_true] at hw
    refine ok.up s.hv s.hz (s.hp.mem_iff.mp hm) (of_decide_eq_true hw.1) ?_
    have h1 := of_decide_eq_true hw.2
    unfold wholeF at h1
    rw [← pn_perm s.hp, pn_at]
    omega
theorem Sit.undo_ex (s : Sit es es' d) (ok : SplitsOk es d c) (h : 0 < (c.map (·.2)).sum) : ∃ e ∈ es, 0 < getD c e.name := by
  obtain ⟨j, l⟩ := lastN_ex (s.vec ok) (by rw [s.sum ok]; exact h)
  have hlt := l.lt
  have hje : es'[j]? = some es'[j] := List.getElem?_eq_getElem hlt
  have := l.pos
  rw [cN_at hje] at this
  exact ⟨_, s.hp.mem_iff.mp (List.mem_of_getElem? hje), this⟩
theorem Sit.undo (s : Sit es es' d) (ok : SplitsOk es d c) {e : Ent} (h : lastF es' (getD c) = some e) : ∃ j, Last es'.length (cN es' (getD c)) j ∧ cN es' (getD (put c e.name (getD c e.name - 1))) = subN (cN es' (getD c)) j ∧ SplitsOk es d (put c e.name (getD c e.name - 1)) := by
  obtain ⟨j, hj, l⟩ := last_name (fun e he => (ok.fits e (s.hp.mem_iff.mp he)).1) h
  exact ⟨j, l, by rw [getD_dn, cN_dn s.v'.nodup hj], ok.down s.hv s.hz s.hp s.ho s.so hj l⟩
/-- no step: balanced -/
theorem Sit.off_end (s : Sit es es' d) (ok : SplitsOk es d c) (h : (c.map (·.2)).sum = 0 ∨ (c.map (·.2)).sum = totI es' d) : offN es'.length (cN es' (getD c)) (balN es' d (c.map (·.2)).sum) = 0 := by
  obtain ⟨r0, r1⟩ := s.range ok
  obtain ⟨b1, b2, b3⟩ := s.bal r0 r1
  have v := s.vec ok
  have e := s.sum ok
  refine (off_zero (by rw [e, b3])).mpr (bal_uniq v b1 ?_ b2 (by rw [e, b3]))
  rcases h with h | h
  · intro i k h1 h2 _
    refine Decidable.byContradiction fun z => ?_
    have h3 : sumN (fun _ => 0) es'.length < sumN (cN es' (getD c)) es'.length := sumN_lt (k := k) (fun t ht => (v t ht).1) h2 (by have := (v k h2).1; show (0 : Int) < _; omega)
    have h4 := sumN_nonneg (c := fun _ => 0) (n := es'.length) fun _ _ => Int.le_refl _
    omega
  · intro i k h1 h2 h3
    exfalso
    have := sumN_lt (k := i) (fun t ht => (v t ht).2) (by omega) h3
    rw [s.tot] at this
    omega
/-- one more of the balanced ones -/
theorem Sit.bal_succ (s : Sit es es' d) {n : Int} (h0 : 0 ≤ n) (h1 : n < totI es' d) : ∃ k, Gap es'.length (fullN es' d) (balN es' d n) k ∧ ∀ i, i < es'.length → balN es' d (n + 1) i = addN (balN es' d n) k i := by
  obtain ⟨b1, b2, b3⟩ := s.bal h0 (by omega)
  obtain ⟨a1, a2, a3⟩ := s.bal (n := n + 1) (by omega) (by omega)
  obtain ⟨k, g⟩ := gap_ex b1 (by rw [b3, s.tot]; exact h1)
  exact ⟨k, g, bal_uniq a1 (b1.add g) a2 (b2.add b1 g) (by rw [a3, sum_addN g.lt, b3])⟩
theorem off_congr {n : Nat} {c c' B B' : Nat → Int} (h : ∀ i, i < n → c i = c' i) (h' : ∀ i, i < n → B i = B' i) : offN n c B = offN n c' B' := sumN_congr fun i hi => by
  show posZ _ = posZ _
  rw [h i hi, h' i hi]
end
end Sk
namespace Sk
open PySem PySem.Spec PyProof.Rows L2
theorem incs_take {f : Str → Int} : ∀ {es : List Ent} {i : Nat} {e : Ent}, Behind es → (es.map (·.name)).Nodup → es[i]? = some e → amt (incs es f) e.name = amt (incs (es.take i) f) e.name
  | [], _, _, _, _, h => by simp at h
  | a :: es, 0, e, b, nd, h => by
    rw [List.map_cons, List.nodup_cons] at nd
    simp at h
    subst h
    rw [incs_self b nd.1]
    rfl
  | a :: es, i + 1, e, b, nd, h => by
    rw [List.map_cons, List.nodup_cons] at nd
    have h' : es[i]? = some e := by simpa using h
    rw [List.take_succ_cons, incs_cons, incs_cons, amt_append, amt_append, incs_take b.2 nd.2 h']
theorem incs_le {f g : Str → Int} {x : Str} : ∀ {es : List Ent}, (∀ e ∈ es, f e.name ≤ g e.name) → amt (incs es f) x ≤ amt (incs es g) x
  | [], _ => Int.le_refl _
  | a :: es, h => by
    rw [incs_cons, incs_cons, amt_append, amt_append]
    have h1 := incs_le (x := x) fun e he => h e (List.mem_cons_of_mem _ he)
    have h2 := h a (List.mem_cons_self ..)
    have h3 : amt (a.parts.map fun p => (p, f a.name)) x ≤ amt (a.parts.map fun p => (p, g a.name)) x := by
      generalize a.parts = l
      induction l with
      | nil => exact Int.le_refl _
      | cons p l ih =>
        rw [List.map_cons, List.map_cons, amt_cons, amt_cons]
        show (if p = x then f a.name else 0) + _ ≤ (if p = x then g a.name else 0) + _
        split <;> omega
    omega
theorem name_take {es : List Ent} {i : Nat} {x : Ent} (h : x ∈ es.take i) : ∃ k, k < i ∧ es[k]? = some x := by
  obtain ⟨k, hk⟩ := List.mem_iff_getElem?.mp h
  have h1 := (List.getElem?_eq_some_iff.mp hk).1
  rw [List.length_take] at h1
  exact ⟨k, by omega, by rw [← hk, List.getElem?_take_of_lt (by omega)]⟩
/-- splits so far, and how many are left -/
structure AAt (es : List Ent) (d sp : Num) (t0 : Int) (i : Nat) (w : Num) (t : Int) : Prop where
  nd : (w.map (·.1)).Nodup
  known : ∀ q ∈ w, q.1 ∈ es.map (·.name)
  pos : 0 ≤ t
  sum : sumN (cN es (getD w)) i + t = sumN (cN es (getD sp)) i + t0
  lo : ∀ k, k < i → cN es (getD sp) k ≤ cN es (getD w) k
  hi : ∀ k, k < i → cN es (getD w) k ≤ fullN es d k
  left : 0 < t → ∀ k, k < i → cN es (getD w) k = fullN es d k
  full : ∀ k m, k < m → m < i → cN es (getD sp) m < cN es (getD w) m → cN es (getD w) k = fullN es d k
theorem AAt.len {es : List Ent} {d sp w : Num} {t0 t : Int} {i : Nat} (h : AAt es d sp t0 i w t) : w.length ≤ es.length := by
  have h1 := nodup_len (m := es.map (·.name)) h.nd fun y hy => by
    obtain ⟨q, hq, rfl⟩ := List.mem_map.mp hy
    exact h.known q hq
  rw [List.length_map, List.length_map] at h1
  exact h1
theorem AAt.start (es : List Ent) (d sp : Num) {t0 : Int} (h : 0 ≤ t0) : AAt es d sp t0 0 [] t0 := ⟨List.nodup_nil, (fun _ h => by cases h), h, rfl, fun _ h => absurd h (Nat.not_lt_zero _), fun _ h => absurd h (Nat.not_lt_zero _), fun _ _ h => absurd h (Nat.not_lt_zero _), fun _ _ _ h => absurd h (Nat.not_lt_zero _)⟩
theorem AAt.step {es : List Ent} {d sp w w' : Num} {t0 t tk : Int} {i : Nat} {e : Ent} (S : Sit es es d) (ok : SplitsOk es d sp) (h : AAt es d sp t0 i w t) (he : es[i]? = some e) (nd : (w'.map (·.1)).Nodup) (kn : ∀ q ∈ w', q.1 ∈ es.map (·.name))
    (htk : tk = if e.parts = [] then 0 else if getD d e.name + amt (incs (es.take i) (getD w)) e.name - getD sp e.name < t then getD d e.name + amt (incs (es.take i) (getD w)) e.name - getD sp e.name else t)
    (hv : ∀ x, getD w' x = if x = e.name then getD sp e.name + tk else getD w x) : AAt es d sp t0 (i + 1) w' (t - tk) := by
  have hnd := S.v'.nodup
  have hm := List.mem_of_getElem? he
  have hil := (List.getElem?_eq_some_iff.mp he).1
  have e1 : ∀ k, k < i → cN es (getD w') k = cN es (getD w) k := fun k hk => by
    have hke : es[k]? = some es[k] := List.getElem?_eq_getElem (by omega)
    rw [cN_at hke, cN_at hke, hv, if_neg]
    intro z
    have := name_ix hnd hke he z
    omega
  have e2 : cN es (getD w') i = getD sp e.name + tk := by rw [cN_at he, hv, if_pos rfl]
  have e3 : cN es (getD sp) i = getD sp e.name := cN_at he _
  have e4 : fullN es d i = if e.parts = [] then 0 else fsS es (getD d) e.name := by
    show cN es _ i = _
    rw [cN_at he, fs_val S.beh hnd hm]
  have hp := h.pos
  have ft := ok.fits e hm
  have v := (S.vec ok i hil)
  rw [e3, e4] at v
  have key : 0 ≤ tk ∧ tk ≤ t ∧ getD sp e.name + tk ≤ fullN es d i ∧ (tk < t → getD sp e.name + tk = fullN es d i) ∧ (0 < tk → 0 < t) := by
    rw [e4]
    by_cases q : e.parts = []
    · rw [if_pos q] at htk ft
      rw [if_pos q]
      omega
    · rw [if_neg q] at htk ft v
      rw [if_neg q]
      have low : getD sp e.name ≤ getD d e.name + amt (incs (es.take i) (getD w)) e.name := by
        have h1 := ft.2
        rw [pn_at, incs_take S.beh hnd he] at h1
        have h2 := incs_le (f := getD sp) (g := getD w) (x := e.name) (es := es.take i) fun x hx => by
          obtain ⟨k, hk, hkx⟩ := name_take hx
          have := h.lo k hk
          rw [cN_at hkx, cN_at hkx] at this
          exact this
        omega
      by_cases t0' : 0 < t
      · have fu : getD d e.name + amt (incs (es.take i) (getD w)) e.name = fsS es (getD d) e.name := by
          rw [← incs_take S.beh hnd he]
          refine full_at S.beh hnd he fun k x hk hx => ?_
          have := h.left t0' k hk
          rw [cN_at hx] at this
          rw [this]
          exact cN_at hx _
        rw [fu] at htk low
        split at htk <;> omega
      · split at htk <;> omega
  obtain ⟨k1, k2, k3, k4, k5⟩ := key
  refine ⟨nd, kn, by omega, ?_, fun k hk => ?_, fun k hk => ?_, fun z k hk => ?_, fun k m h1 h2 h3 => ?_⟩
  · show sumN (cN es (getD w')) i + cN es (getD w') i + (t - tk) = sumN (cN es (getD sp)) i + cN es (getD sp) i + t0
    have := h.sum
    rw [sumN_congr e1, e2, e3]
    omega
  · by_cases q : k = i
    · rw [q, e2, e3]
      omega
    · rw [e1 k (by omega)]
      exact h.lo k (by omega)
  · by_cases q : k = i
    · rw [q, e2]
      exact k3
    · rw [e1 k (by omega)]
      exact h.hi k (by omega)
  · by_cases q : k = i
    · rw [q, e2]
      exact k4 (by omega)
    · rw [e1 k (by omega)]
      exact h.left (by omega) k (by omega)
  · by_cases q : m = i
    · rw [q, e2, e3] at h3
      rw [e1 k (by omega)]
      exact h.left (k5 (by omega)) k (by omega)
    · rw [e1 m (by omega)] at h3
      rw [e1 k (by omega)]
      exact h.full k m h1 (by omega) h3
theorem AAt.done {es : List Ent} {d sp w : Num} {t0 t : Int} (S : Sit es es d) (ok : SplitsOk es d sp) (h : AAt es d sp t0 es.length w t) (h1 : (sp.map (·.2)).sum + t0 ≤ totI es d) : Fill es.length (fullN es d) (cN es (getD sp)) (cN es (getD w)) ∧ sumN (cN es (getD w)) es.length = (sp.map (·.2)).sum + t0 := by
  refine ⟨⟨fun i hi => ⟨?_, h.hi i hi⟩, h.lo, h.full⟩, ?_⟩
  · have := h.lo i hi
    have := (S.vec ok i hi).1
    omega
  · have hs := h.sum
    rw [S.sum ok] at hs
    have hp := h.pos
    by_cases q : 0 < t
    · have h2 := sumN_congr (h.left q)
      rw [S.tot] at h2
      omega
    · omega
end Sk
namespace Sk
open PySem PySem.Spec PyProof.Rows L2
abbrev s_law_splits_fault : Stmt := topS 44
abbrev N_law_splits_fault : List Str := ["pool", "supply", "taken", "names", "odd", "have", "name", "weight", "parts", "number", "entry"]
theorem sc_law_splits_fault : FnScope N_law_splits_fault ["pool", "supply", "taken"] (defScope s_law_splits_fault) := ⟨rfl, rfl, rfl, by decide +kernel, rfl, by decide +kernel, by decide +kernel⟩
def sp_law_splits_fault (Tb : List (Addr × Str)) (K : PySem.W.Frag) : Sp := fun vs H Q _ => ∃ (a b c : Addr) (xs : List V) (es : List Ent) (st sp : Num), vs = [.ref a, .ref b, .ref c] ∧ SqL K H a xs ∧ CatAt H xs es ∧ H b = some (.dK (dS st)) ∧ H c = some (.dK (dS sp)) ∧ LamX.Tabs Tb H ∧ Valid es ∧ StockOk es st ∧ (sp.map (·.1)).Nodup ∧ sp.length < 64 ∧ es.length ≤ 1000 ∧ (∀ H', SplitsOk es st sp → Gr Tb H H' → Q .non H') ∧ (∀ x H', BadSp es st sp x → Gr Tb H H' → Q (.str x) H')
/-- the names that are not known -/
def newV (es : List Ent) (v : V) : Option V := match v with
  | .str y => if y ∉ es.map (·.name) then some (.str y) else none
  | _ => none
theorem newV_map (es : List Ent) (l : List Str) : (l.map V.str).filterMap (newV es) = (l.filter fun y => decide (y ∉ es.map (·.name))).map V.str := by
  induction l with
  | nil => rfl
  | cons y l ih =>
    rw [List.map_cons, List.filter_cons]
    by_cases z : y ∉ es.map (·.name)
    · rw [if_pos (decide_eq_true z), List.map_cons, List.filterMap_cons_some (f := newV es) (b := .str y) (show newV es (.str y) = _ from if_pos z), ih]
    · rw [if_neg (fun h => z (of_decide_eq_true h)), List.filterMap_cons_none (f := newV es) (show newV es (.str y) = _ from if_neg z), ih]
def hI (es' : List Ent) (st sp : Num) (i : Nat) : Str → Int := fun x => getD st x + amt (incs (es'.take i) (getD sp)) x
theorem hI_snoc {es' : List Ent} {st sp : Num} {i : Nat} {e : Ent} (he : es'[i]? = some e) (x : Str) : addAll (hI es' st sp i) (e.parts.map fun p => (p, getD sp e.name)) x = hI es' st sp (i + 1) x := by
  rw [addAll_at]
  unfold hI
  rw [incs_snoc he, amt_append]
  omega
theorem hI_pn {es es' : List Ent} {st sp : Num} {i : Nat} {e : Ent} (hp : es'.Perm es) (b : Behind es') (nd : (es'.map (·.name)).Nodup) (he : es'[i]? = some e) : hI es' st sp i e.name = pn es st sp e.name := by
  rw [← pn_perm hp, pn_at]
  unfold hI
  rw [← incs_take b nd he]
section
variable {P : Program} {w : World} {K : PySem.W.Frag} {mg : Str → Option Value} {base : Heap} {Tb : List (Addr × Str)}
theorem ok_law_splits_fault {f : Addr} {fd : FuncData} (F : FnP K "_law_splits_fault" s_law_splits_fault f fd) (T : Tx K mg) (G_law_order : Fn P w K mg base "_law_order" 1 ["pool"] (sp_law_order Tb K)) (G_law_pieces : Fn P w K mg base "_law_pieces" 1 ["pool", "supply", "taken"] (sp_law_pieces Tb K)) : FnOk P w K mg base CX0 2 f fd ["pool", "supply", "taken"] (sp_law_splits_fault Tb K) := by
  refine F.ok sc_law_splits_fault (fun vs H Q E h => ?_) (fun cdv A outer s H vs Q E hr h => ?_)
  · obtain ⟨_, _, _, _, _, _, _, rfl, _⟩ := h
    rfl
  · obtain ⟨a, b, c, xs, es, st, sp, rfl, ha, hc, hb, hsp, ht, hv, so, nd, few, hl1, k1, k2⟩ := h
    refine ⟨_, PSs.nox (pss_cons (ps_set (i := 3) sc_law_splits_fault.nd rfl (Or.inr rfl) (pe_lc (own := [("entry", 10)]) (g := (gName 10)) (tt := tYes) rfl sc_law_splits_fault.nd (piL (K := K) rfl (pv 0)) (blkOk_by (N := N_law_splits_fault) (sc := (defScope s_law_splits_fault)) (by decide +kernel)) (fun _ _ _ _ _ => (pg_name (i := 10) sc_law_splits_fault.nd rfl (Or.inl rfl))) (fun _ _ _ _ _ => pts_nil) (fun _ _ _ _ _ => (pe_ix (ixT (K := K) rfl) (pv 10) pe_int (fun _ _ => rfl)))))
      (pss_cons (ps_set (i := 4) sc_law_splits_fault.nd rfl (Or.inl rfl) (pe_callB (crSortedS (K := K) rfl) (by rfl) T.n_sorted (by decide +kernel) (pa_cons (pe_lock (pe_lc (own := [("name", 6)]) (g := (gName 6)) (tt := _) rfl sc_law_splits_fault.nd (pi_keys (pv 2)) (blkOk_by (N := N_law_splits_fault) (sc := (defScope s_law_splits_fault)) (by decide +kernel)) (fun _ _ _ _ _ => (pg_name (i := 6) sc_law_splits_fault.nd rfl (Or.inl rfl))) (fun _ _ _ _ _ => (pts_one (pt_cmpR (opNotIn (K := K) rfl) (pv 6) (pv 3) (by with_unfolding_all rfl)))) (fun _ _ _ _ _ => (pv 6)))) pa_nil)))
      (pss_cons (ps_if (pt_cmpR op_gt (pe_callB (lenS (K := K) rfl) (by rfl) T.n_len (by decide +kernel) (pa_cons (pv 4) pa_nil)) pe_int (nomark _)) (pss_one (ps_ret (pe_ix (ixL (K := K) rfl) (pv 4) pe_int (fun _ _ => rfl)))) pss_nil)
      (pss_cons (ps_set (i := 5) sc_law_splits_fault.nd rfl (Or.inl rfl) (pe_fn G_law_pieces (hr.mono (by decide)) (pa_cons (pv 0) (pa_cons (pv 1) (pa_cons (pv 2) pa_nil)))))
      (pss_cons (ps_for PassesOwn.never rfl (piL (K := K) rfl (pe_fn G_law_order (hr.mono (by decide)) (pa_cons (pv 0) pa_nil))) (pg_tup rfl (pgs_cons (pg_name (i := 6) sc_law_splits_fault.nd rfl (Or.inl rfl)) (pgs_cons (pg_name (i := 7) sc_law_splits_fault.nd rfl (Or.inl rfl)) (pgs_cons (pg_name (i := 8) sc_law_splits_fault.nd rfl (Or.inl rfl)) pgs_nil)))) (pss_cons (ps_set (i := 9) sc_law_splits_fault.nd rfl (Or.inl rfl) (pe_dget2 (hu_of hr) (pv 2) (pv 6) pe_int ⟨rfl, rfl, rfl, rfl⟩))
        (pss_one (ps_if (PW.pt (pw_or (pt_cmpR op_lt (pv 9) pe_int (nomark _)) (pw_or (pt_cmpR op_gt (pv 9) (pe_dget (hu_of hr) (pv 5) (pv 6) (fun _ _ => rfl)) (nomark _)) (pw_or1 (PW.pt (pw_and (pt_cmpR op_gt (pv 9) pe_int (nomark _)) (pw_and1 (pt_cmpR op_eq (pe_callB (lenS (K := K) rfl) (by rfl) T.n_len (by decide +kernel) (pa_cons (pv 8) pa_nil)) pe_int (nomark _))))))))) (pss_one (ps_ret (pv 6))) pss_nil))))
      (pss_one (ps_ret pe_non))))))), ?_⟩
    have hz := hv.few
    have hl := Paired.len hc
    refine ⟨_, rfl, a, rfl, ⟨_, ha⟩, fun D hD => lc_names (Tb := Tb) ha hc hz hD rfl fun H1 g1 hD1 => ?_⟩
    refine goN ?_
    dsimp only
    have hb1 := g1.at hsp .dK
    have Db : D ≠ c := fun z => by rw [z, hsp] at hD; cases hD
    refine ⟨c, .dK (dS sp), hb1, trivial, fun od => ⟨_, rfl, c, od, rfl, .inl ⟨_, upd_same, fun D2 hD2 => lc_fm (Tb := Tb) (xs := (sp.map (·.1)).map V.str) (walk_keysS (d := c) (o := od) (n := sp)) (by rw [List.length_map, List.length_map]) (newV es) hD2 (by omega) (fun H' g => g.at upd_same .frz) (fun j v H' hv' g Rk Rs hk hs => ?_) fun H' g hD' => ?_⟩⟩⟩
    · rw [List.getElem?_map, List.getElem?_map] at hv'
      cases hq : sp[j]? with
      | none => rw [hq] at hv'; cases hv'
      | some q =>
        rw [hq] at hv'
        cases hv'
        have hDh : H' D = some (.lst ((es.map (·.name)).map V.str)) := g.at (show (upd H1 c (.frz od (.dK (dS sp)))) D = _ by rw [upd_ne Db]; exact hD1) .lst
        have ev : newV es (.str q.1) = if q.1 ∉ es.map (·.name) then some (.str q.1) else none := rfl
        refine ⟨rfl, _, rfl, _, rfl, D, _, rfl, .inl (SqL.of hDh), rfl, flat_strs _, _, rfl, ?_⟩
        rw [inV_strs]
        by_cases m1 : q.1 ∈ es.map (·.name)
        · rw [decide_eq_true m1]
          exact iteFb rfl (hs _ (by rw [ev]; exact if_neg fun z => z m1) (Gr.refl _))
        · rw [decide_eq_false m1]
          exact iteTb rfl ⟨_, rfl, hk _ _ (by rw [ev]; exact if_pos m1) (Gr.refl _)⟩
    have hcl := g.at upd_same .frz
    have D2b : D2 ≠ c := fun z => by
      rw [z, upd_same] at hD2
      cases hD2
    have g2 : Gr Tb H1 (upd H' c (.dK (dS sp))) := Gr.unlock hb1 .dK g hcl
    rw [newV_map] at hD'
    have g12 := g1.trans g2
    have mb : ∀ y, y ∈ (sp.map (·.1)).filter (fun y => decide (y ∉ es.map (·.name))) ↔ y ∈ sp.map (·.1) ∧ y ∉ es.map (·.name) := fun y => by
      rw [List.mem_filter, decide_eq_true_iff]
    have bl : ((sp.map (·.1)).filter (fun y => decide (y ∉ es.map (·.name)))).length ≤ sp.length := by
      refine Nat.le_trans (List.length_filter_le _ _) ?_
      rw [List.length_map]
      exact Nat.le_refl _
    generalize (sp.map (·.1)).filter (fun y => decide (y ∉ es.map (·.name))) = bs at hD' mb bl
    refine ⟨hcl, D2, bs, rfl, SqL.of (by rw [upd_ne D2b]; exact hD'), by omega, fun ys p hp hso hpn => ?_⟩
    have g3 := g12.trans (Gr.new (o := .lst (ys.map V.str)) hpn)
    have hyl := hp.length_eq
    have hp3 : (upd (upd H' c (.dK (dS sp))) p (.lst (ys.map V.str))) p = some (.lst (ys.map V.str)) := upd_same
    generalize upd (upd H' c (.dK (dS sp))) p (.lst (ys.map V.str)) = H3 at g3 hp3
    refine goN ?_
    dsimp only
    refine sq_st (fun σ' H' => ys = [] ∧ σ' = [some (.ref a), some (.ref b), some (.ref c), some (.ref D), some (.ref p), none, none, none, none, none, none] ∧ H' = H3) (fun N hN => ?_) ?_
    · refine ⟨_, rfl, p, _, rfl, .inl (SqL.of hp3), _, _, rfl, rfl, _, rfl, ?_⟩
      cases ys with
      | nil => exact iteFb rfl (hN _ _ ⟨rfl, rfl, rfl⟩)
      | cons x ys =>
        refine iteTb (decide_eq_true (by rw [List.length_map, List.length_cons]; omega)) ?_
        refine ⟨_, rfl, p, _, _, _, rfl, rfl, SqL.of hp3, atI_nat (j := 0) rfl, k2 x _ (.inl ?_) g3⟩
        obtain ⟨h1, h2⟩ := (mb x).mp (hp.mem_iff.mp (List.mem_cons_self ..))
        refine ⟨h1, h2, fun y hy by1 => ?_⟩
        rcases List.mem_cons.mp (hp.mem_iff.mpr ((mb y).mpr ⟨hy, by1⟩)) with rfl | hy
        · exact List.le_refl _
        · exact (List.pairwise_cons.mp (sorted_pw hso)).1 y hy
    rintro σ' H3' ⟨rfl, rfl, rfl⟩
    have kn : ∀ q ∈ sp, q.1 ∈ es.map (·.name) := fun q hq => Decidable.byContradiction fun z => by
      have := (mb q.1).mpr ⟨List.mem_map.mpr ⟨q, hq, rfl⟩, z⟩
      rw [List.nil_perm.mp hp] at this
      cases this
    clear mb bl hp hso hyl hpn hp3 g2 g12 hcl hD' hD2 D2b g
    refine ⟨_, rfl, _, rfl, _, rfl, a, b, c, xs, es, st, sp, rfl, g3.ext_seq ha, CatAt.gr g3 hc, g3.at hb .dK, g3.at hsp .dK, hv, fun r H4 g4 nr hr => ?_⟩
    have g14 := g3.trans g4
    refine ⟨_, rfl, a, xs, es, rfl, g14.ext_seq ha, CatAt.gr g14 hc, hv, fun s H5 ys2 es' hp ho hyx hcy g5 ns hs => ?_⟩
    have g15 := g14.trans g5
    have hc5 := CatAt.gr g5 hcy
    have hr5 := g5.at hr .dK
    have hyl2 := Paired.len hc5
    have hv' := hv.perm hp
    have hbe := hv'.behind ho
    refine ⟨s, rfl, ⟨_, SqL.of hs⟩, for_list (K := K) (a := s) (xs := ys2) (fun i σ H' => ∃ s6 s7 s8 s9 : Option V, σ = [some (.ref a), some (.ref b), some (.ref c), some (.ref D), some (.ref p), some (.ref r), s6, s7, s8, s9, none] ∧ Gr Tb H5 H' ∧ ∀ (j : Nat) y, j < i → es'[j]? = some y → fitE es st sp y)
      ⟨_, _, _, _, rfl, Gr.refl _, fun j y h => absurd h (Nat.not_lt_zero _)⟩ (fun i σ H' _ ⟨_, _, _, _, _, g, _⟩ => SqL.of (g.at hs .lst)) ?_ ?_⟩
    · rintro i x σ H6 hx ⟨s6, s7, s8, s9, rfl, g6, fit⟩
      obtain ⟨e, he, t, lp, rfl, htp, hlp⟩ := Paired.at hc5 hx
      have hem : e ∈ es := hp.mem_iff.mp (List.mem_of_getElem? he)
      have g16 := g15.trans g6
      have hsp6 := g16.at hsp .dK
      refine gtup3 (g6.at htp .tup) ?_
      refine ⟨_, rfl, c, rfl, IsD.num hsp6, _, rfl, _, dgetO hsp6 e.name, ?_⟩
      rw [getO]
      refine goN ?_
      dsimp only
      have bad : ∀ H', ¬ fitE es st sp e → Gr Tb H H' → Q (.str e.name) H' := fun H' nf g => k2 _ H' (.inr ⟨kn, es', i, e, hp, ho, he, rfl, nf, fit⟩) g
      have epn := hI_pn (st := st) (sp := sp) hp hbe hv'.nodup he
      have h0 : 0 ≤ pn es st sp e.name := by
        rw [← epn]
        unfold hI
        have h1 := getD_pos so.pos e.name
        have h2 : 0 ≤ amt (incs (es'.take i) (getD sp)) e.name := amt_pos (fun q hq => by
          unfold incs at hq
          obtain ⟨y, hy, hq⟩ := List.mem_flatMap.mp hq
          obtain ⟨z, hz, rfl⟩ := List.mem_map.mp hq
          obtain ⟨j, hj⟩ := List.mem_iff_getElem?.mp hy
          have hji : j < i := by
            have := (List.getElem?_eq_some_iff.mp hj).1
            rw [List.length_take] at this
            omega
          rw [List.getElem?_take_of_lt hji] at hj
          exact (fit j y hji hj).1) _
        omega
      have key : (¬ getD sp e.name < 0 ∧ ¬ pn es st sp e.name < getD sp e.name ∧ ¬ (0 < getD sp e.name ∧ e.parts = [])) ↔ fitE es st sp e := by
        unfold fitE
        by_cases z : e.parts = []
        · rw [if_pos z]
          constructor
          · rintro ⟨z1, z2, z3⟩
            have : ¬ 0 < getD sp e.name := fun y => z3 ⟨y, z⟩
            omega
          · rintro ⟨z1, z2⟩
            exact ⟨by omega, by omega, fun y => by omega⟩
        · rw [if_neg z]
          constructor
          · rintro ⟨z1, z2, z3⟩
            omega
          · rintro ⟨z1, z2⟩
            exact ⟨by omega, by omega, fun y => z y.2⟩
      have nxt : fitE es st sp e → ∀ (j : Nat) y, j < i + 1 → es'[j]? = some y → fitE es st sp y := fun fe j y h hj => by
        rcases Nat.lt_succ_iff_lt_or_eq.mp h with h | rfl
        · exact fit j y h hj
        · rw [he] at hj
          cases hj
          exact fe
      refine ⟨_, rfl, _, _, rfl, rfl, _, rfl, ?_⟩
      refine ite2 (fun q1 => ?_) (fun q1 => ?_)
      · exact iteTb rfl ⟨_, rfl, bad _ (fun f => (key.mpr f).1 (of_decide_eq_true q1)) g16⟩
      have n1 : ¬ getD sp e.name < 0 := fun z => q1 (decide_eq_true z)
      refine ⟨_, rfl, _, rfl, _, rfl, r, _, rfl, dgetS (g6.at hr5 .dK) (get?_numOf (List.mem_map.mpr ⟨e, hem, rfl⟩)), _, _, rfl, rfl, _, rfl, ?_⟩
      refine ite2 (fun q2 => ?_) (fun q2 => ?_)
      · exact iteTb rfl ⟨_, rfl, bad _ (fun f => (key.mpr f).2.1 (of_decide_eq_true q2)) g16⟩
      have n2 : ¬ pn es st sp e.name < getD sp e.name := fun z => q2 (decide_eq_true z)
      refine ⟨_, rfl, _, _, rfl, rfl, _, rfl, ?_⟩
      refine ite2 (fun q3 => ?_) (fun q3 => ?_)
      rotate_left
      · exact ⟨_, _, _, _, rfl, g6, nxt (key.mp ⟨n1, n2, fun z => q3 (decide_eq_true z.1)⟩)⟩
      have q3 := of_decide_eq_true q3
      refine ⟨_, rfl, lp, _, rfl, .inl (SqL.of (g6.at hlp .lst)), rfl, _, rfl, ?_⟩
      cases hps : e.parts with
      | nil => exact iteTb (decide_eq_true rfl) ⟨_, rfl, bad _ (fun f => (key.mpr f).2.2 ⟨q3, hps⟩) g16⟩
      | cons p0 ps => exact iteFb (decide_eq_false (fun z => by have := V.int.inj z; rw [List.length_map, List.length_cons] at this; omega)) ⟨_, _, _, _, rfl, g6, nxt (key.mp ⟨n1, n2, fun z => by rw [hps] at z; cases z.2⟩)⟩
    · rintro σ H6 ⟨s6, s7, s8, s9, rfl, g6, fit⟩
      rw [hyl2] at fit
      refine k1 _ ⟨nd, few, kn, fun e he => ?_⟩ (g15.trans g6)
      obtain ⟨j, hj⟩ := List.mem_iff_getElem?.mp (hp.mem_iff.mpr he)
      exact fit j e (List.getElem?_eq_some_iff.mp hj).1 hj
end
end Sk
namespace Sk
open PySem PySem.Spec PyProof.Rows L2
/-- how a call ends -/
inductive Oc where
  | cat (i : Nat)
  | stock (x : Str)
  | splits (x : Str)
  | number (n : Int)
  | steps (n : Int)
  | fine
def Oc.kw : Oc → Str
  | .cat _ => "catalogue"
  | .stock _ => "stock"
  | .splits _ => "splits"
  | .number _ => "number"
  | .steps _ => "steps"
  | .fine => "none"
def Oc.val : Oc → V
  | .cat i => .int i
  | .stock x => .str x
  | .splits x => .str x
  | .number n => .int n
  | .steps n => .int n
  | .fine => .non
theorem StockOk.notBad {es : List Ent} {st : Num} {x : Str} (so : StockOk es st) (h : FirstName (badSt es st) (st.map (·.1)) x) : False := by
  obtain ⟨h1, h2, _⟩ := h
  obtain ⟨q, hq, rfl⟩ := List.mem_map.mp h1
  rcases h2 with z | z
  · exact z (so.known q hq)
  · rw [getD_mem so.nd hq] at z
    have := so.pos q hq
    omega
theorem SplitsOk.notBad {es : List Ent} {st sp : Num} {x : Str} (ok : SplitsOk es st sp) (h : BadSp es st sp x) : False := by
  rcases h with ⟨h1, h2, _⟩ | ⟨_, es', i, e, hp, _, he, _, nf, _⟩
  · obtain ⟨q, hq, rfl⟩ := List.mem_map.mp h1
    exact h2 (ok.known q hq)
  · exact nf (ok.fits e (hp.mem_iff.mp (List.mem_of_getElem? he)))
theorem BadSp.uniq {es : List Ent} {st sp : Num} {x y : Str} (nd : (es.map (·.name)).Nodup) (a : BadSp es st sp x) (b : BadSp es st sp y) : x = y := by
  have no : ∀ {x : Str}, (∀ q ∈ sp, q.1 ∈ es.map (·.name)) → FirstName (· ∉ es.map (·.name)) (sp.map (·.1)) x → False := fun {x} kn h => by
    obtain ⟨q, hq, rfl⟩ := List.mem_map.mp h.1
    exact h.2.1 (kn q hq)
  rcases a with a | ⟨ka, es1, i, e, p1, o1, he, rfl, nf, fit⟩
  · rcases b with b | ⟨kb, _⟩
    · exact a.uniq b
    · exact (no kb a).elim
  · rcases b with b | ⟨kb, es2, j, e2, p2, o2, he2, rfl, nf2, fit2⟩
    · exact (no ka b).elim
    · obtain rfl := ordered_unique (p1.trans p2.symm) o1 o2 ((p1.map _).nodup_iff.mpr nd)
      rcases Nat.lt_trichotomy i j with z | z | z
      · exact absurd (fit2 i e z he) nf
      · subst z
        rw [he] at he2
        cases he2
        rfl
      · exact absurd (fit j e2 z he2) nf2
/-- so a call ends -/
def OcIs (door : Int) (es : List Ent) (st sp : Num) (n : Int) : Oc → Prop
  | .cat i => BadCat es i
  | .stock x => Valid es ∧ FirstName (badSt es st) (st.map (·.1)) x
  | .splits x => Valid es ∧ StockOk es st ∧ door = 3 ∧ BadSp es st sp x
  | .number m => Valid es ∧ StockOk es st ∧ door ≠ 3 ∧ m = n ∧ n < 0
  | .steps m => Valid es ∧ StockOk es st ∧ door < 2 ∧ 0 ≤ n ∧ (∃ es', es'.Perm es ∧ Ordered es' ∧ m = ((fs es' (getD st)).map (·.2)).sum) ∧ m < n
  | .fine => Valid es ∧ StockOk es st ∧ (door = 3 → SplitsOk es st sp) ∧ (door ≠ 3 → 0 ≤ n) ∧ (door < 2 → ∃ es', es'.Perm es ∧ Ordered es' ∧ n ≤ ((fs es' (getD st)).map (·.2)).sum)
theorem OcIs.uniq {door : Int} {es : List Ent} {st sp : Num} {n : Int} {a b : Oc} (ha : OcIs door es st sp n a) (hb : OcIs door es st sp n b) : a = b := by
  have tot : ∀ {e1 e2 : List Ent}, Valid es → e1.Perm es → Ordered e1 → e2.Perm es → Ordered e2 → e1 = e2 := fun {e1 e2} v p1 o1 p2 o2 => ordered_unique (p1.trans p2.symm) o1 o2 ((p1.map _).nodup_iff.mpr v.nodup)
  cases a with
  | cat i =>
    cases b with
    | cat j => rw [BadCat.uniq ha hb]
    | stock y => exact (BadCat.notValid ha hb.1).elim
    | splits y => exact (BadCat.notValid ha hb.1).elim
    | number y => exact (BadCat.notValid ha hb.1).elim
    | steps y => exact (BadCat.notValid ha hb.1).elim
    | fine => exact (BadCat.notValid ha hb.1).elim
  | stock x =>
    cases b with
    | cat j => exact (BadCat.notValid hb ha.1).elim
    | stock y => rw [ha.2.uniq hb.2]
    | splits y => exact (hb.2.1.notBad ha.2).elim
    | number y => exact (hb.2.1.notBad ha.2).elim
    | steps y => exact (hb.2.1.notBad ha.2).elim
    | fine => exact (hb.2.1.notBad ha.2).elim
  | splits x =>
    cases b with
    | cat j => exact (BadCat.notValid hb ha.1).elim
    | stock y => exact (ha.2.1.notBad hb.2).elim
    | splits y => rw [BadSp.uniq ha.1.nodup ha.2.2.2 hb.2.2.2]
    | number y => exact absurd ha.2.2.1 hb.2.2.1
    | steps y => have := ha.2.2.1; have := hb.2.2.1; omega
    | fine => exact ((hb.2.2.1 ha.2.2.1).notBad ha.2.2.2).elim
  | number x =>
    cases b with
    | cat j => exact (BadCat.notValid hb ha.1).elim
    | stock y => exact (ha.2.1.notBad hb.2).elim
    | splits y => exact absurd hb.2.2.1 ha.2.2.1
    | number y => rw [ha.2.2.2.1, hb.2.2.2.1]
    | steps y => have := ha.2.2.2.2; have := hb.2.2.2.1; omega
    | fine => have := ha.2.2.2.2; have := hb.2.2.2.1 ha.2.2.1; omega
  | steps x =>
    obtain ⟨v, so, d2, n0, ⟨e1, p1, o1, hx⟩, lt⟩ := ha
    cases b with
    | cat j => exact (BadCat.notValid hb v).elim
    | stock y => exact (so.notBad hb.2).elim
    | splits y => have := hb.2.2.1; omega
    | number y => have := hb.2.2.2.2; omega
    | steps y =>
      obtain ⟨_, _, _, _, ⟨e2, p2, o2, hy⟩, _⟩ := hb
      rw [hx, hy, tot v p1 o1 p2 o2]
    | fine =>
      obtain ⟨e2, p2, o2, hy⟩ := hb.2.2.2.2 d2
      rw [tot v p1 o1 p2 o2] at hx
      omega
  | fine =>
    obtain ⟨v, so, f1, f2, f3⟩ := ha
    cases b with
    | cat j => exact (BadCat.notValid hb v).elim
    | stock y => exact (so.notBad hb.2).elim
    | splits y => exact ((f1 hb.2.2.1).notBad hb.2.2.2).elim
    | number y => have := hb.2.2.2.2; have := f2 hb.2.2.1; omega
    | steps y =>
      obtain ⟨_, _, d2, _, ⟨e2, p2, o2, hy⟩, lt⟩ := hb
      obtain ⟨e1, p1, o1, hx⟩ := f3 d2
      rw [tot v p1 o1 p2 o2] at hx
      omega
    | fine => rfl
end Sk
namespace Sk
open PySem PySem.Spec PyProof.Rows L2
/-- how a call ends, as a value: None, or a pair -/
def OcV (H : Hp) (v : V) (o : Oc) : Prop := (o = .fine ∧ v = .non) ∨ (o ≠ .fine ∧ ∃ t, v = .ref t ∧ H t = some (.tup [.str o.kw, o.val]))
theorem OcV.gr {Tb : List (Addr × Str)} {H H' : Hp} {v : V} {o : Oc} (g : Gr Tb H H') (h : OcV H v o) : OcV H' v o := by
  rcases h with h | ⟨h, t, e, ht⟩
  · exact .inl h
  · exact .inr ⟨h, t, e, g.at ht .tup⟩
/-- its texts may be compared -/
def OcOk : Oc → Prop
  | .stock x => PyData.strOk x = true
  | .splits x => PyData.strOk x = true
  | _ => True
def dVal : Oc → PyData
  | .cat i => .int i
  | .stock x => .str x
  | .splits x => .str x
  | .number n => .int n
  | .steps n => .int n
  | .fine => .none
def dO : Oc → PyData
  | .fine => .none
  | o => .tuple [.str o.kw, dVal o]
theorem OcV.dp {K : PySem.W.Frag} {H : Hp} {v : V} {o : Oc} (h : OcV H v o) : Dp K H v (dO o) := by
  rcases h with ⟨rfl, rfl⟩ | ⟨h, t, rfl, ht⟩
  · exact .non
  · cases o with
    | fine => exact absurd rfl h
    | cat i => exact .tup (SqT.of ht) (.cons (.str _) (.cons (.int _) .nil))
    | stock i => exact .tup (SqT.of ht) (.cons (.str _) (.cons (.str _) .nil))
    | splits i => exact .tup (SqT.of ht) (.cons (.str _) (.cons (.str _) .nil))
    | number i => exact .tup (SqT.of ht) (.cons (.str _) (.cons (.int _) .nil))
    | steps i => exact .tup (SqT.of ht) (.cons (.str _) (.cons (.int _) .nil))
theorem dO_eqv (o : Oc) : PyData.eqv (dO o) (dO o) = true := by
  cases o <;> simp [dO, dVal, PyData.eqv, PyData.eqvAll]
theorem dO_shaped {o : Oc} (h : OcOk o) : SeqAt.shaped (dO o) = true := by
  have two : ∀ (x : Str) (d : PyData), PyData.strOk x = true → d.canLay0 = true → d.depth ≤ 0 → SeqAt.shaped (.tuple [.str x, d]) = true := fun x d hx hd h0 => by
    unfold SeqAt.shaped
    rw [Bool.and_eq_true]
    refine ⟨?_, decide_eq_true ?_⟩
    · simp only [PyData.canLay0, PyData.canLayAll0, hx, hd, Bool.and_true]
    · rw [PyData.depth]
      have : PyData.depthAll [.str x, d] ≤ 0 := depth_le fun y hy => by
        rcases List.mem_cons.mp hy with e | hy
        · rw [e, PyData.depth]; omega
        · rw [List.mem_singleton.mp hy]; exact h0
      omega
  cases o with
  | fine => decide
  | cat i => exact two _ _ (by show PyData.strOk "catalogue" = true; decide +kernel) (by simp only [dVal, PyData.canLay0]) (by rw [dVal, PyData.depth]; omega)
  | number i => exact two _ _ (by show PyData.strOk "number" = true; decide +kernel) (by simp only [dVal, PyData.canLay0]) (by rw [dVal, PyData.depth]; omega)
  | steps i => exact two _ _ (by show PyData.strOk "steps" = true; decide +kernel) (by simp only [dVal, PyData.canLay0]) (by rw [dVal, PyData.depth]; omega)
  | stock x => exact two _ _ (by show PyData.strOk "stock" = true; decide +kernel) (by simp only [dVal, PyData.canLay0]; exact h) (by rw [dVal, PyData.depth]; omega)
  | splits x => exact two _ _ (by show PyData.strOk "splits" = true; decide +kernel) (by simp only [dVal, PyData.canLay0]; exact h) (by rw [dVal, PyData.depth]; omega)
end Sk
namespace Sk
open PySem PySem.Spec PyProof.Rows L2
/-- try, the promise to the suite apart -/
theorem try_T {K : PySem.W.Frag} {c : Value} {i : Nat} {ts : Addr → TS} {Wout : WX} {tb : WX → TS} {D : Ends} {σ : L2.St} {H : Hp} (P : Value → Option Addr → L2.St → Hp → Prop)
    (hb : ∀ W : WX, (∀ cls d σ' H', P cls d σ' H' → W cls d σ' H') → tb W D σ H) (hs : ∀ cls d σ' H', P cls d σ' H' → wAsT K c i ts Wout D cls d σ' H') : tTryT K c i ts Wout tb D σ H := hb _ hs
/-- a constant is assigned -/
theorem asgK {v : V} {i : Nat} {u : TS} {D : Ends} {σ : L2.St} {H : Hp} (h : u D (σ.set i (some v)) H) : tSeq (tAsg (tC v) (gName i)) u D σ H := h
end Sk
namespace Sk
open PySem PySem.Spec PyProof.Rows L2
/-- how a call with two splits ends -/
def Oc2 (es : List Ent) (st s1 s2 : Num) : Oc → Prop
  | .cat i => BadCat es i
  | .stock x => Valid es ∧ FirstName (badSt es st) (st.map (·.1)) x
  | .splits x => Valid es ∧ StockOk es st ∧ (BadSp es st s1 x ∨ (SplitsOk es st s1 ∧ BadSp es st s2 x))
  | .fine => Valid es ∧ StockOk es st ∧ SplitsOk es st s1 ∧ SplitsOk es st s2
  | _ => False
theorem bad_ok {es : List Ent} {st sp : Num} {x : Str} (v : Valid es) (so : StockOk es st) (b : BadSp es st sp x) (ok : SplitsOk es st sp) : False := by
  have h := OcIs.uniq (door := 3) (es := es) (st := st) (sp := sp) (n := 0) (a := .splits x) (b := .fine) ⟨v, so, rfl, b⟩ ⟨v, so, fun _ => ok, fun z => absurd rfl z, fun z => absurd z (by decide)⟩
  cases h
theorem bad_uniq {es : List Ent} {st sp : Num} {x y : Str} (v : Valid es) (so : StockOk es st) (b : BadSp es st sp x) (c : BadSp es st sp y) : x = y := by
  have h := OcIs.uniq (door := 3) (es := es) (st := st) (sp := sp) (n := 0) (a := .splits x) (b := .splits y) ⟨v, so, rfl, b⟩ ⟨v, so, rfl, c⟩
  cases h
  rfl
theorem Oc2.uniq {es : List Ent} {st s1 s2 : Num} {a b : Oc} (ha : Oc2 es st s1 s2 a) (hb : Oc2 es st s1 s2 b) : a = b := by
  have u := fun (x y : Oc) (h1 : OcIs 2 es st [] 0 x) (h2 : OcIs 2 es st [] 0 y) => OcIs.uniq h1 h2
  have fin : ∀ {v : Valid es} {so : StockOk es st}, OcIs 2 es st [] 0 .fine := fun {v so} => ⟨v, so, fun z => absurd z (by decide), fun _ => by decide, fun z => absurd z (by decide)⟩
  cases a with
  | cat i =>
    cases b with
    | cat j => exact u (.cat i) (.cat j) ha hb
    | stock x => exact u (.cat i) (.stock x) ha hb
    | splits x => exact (BadCat.notValid ha hb.1).elim
    | fine => exact (BadCat.notValid ha hb.1).elim
    | number _ => exact hb.elim
    | steps _ => exact hb.elim
  | stock x =>
    cases b with
    | cat j => exact u (.stock x) (.cat j) ha hb
    | stock y => exact u (.stock x) (.stock y) ha hb
    | splits y => exact absurd (u (.stock x) .fine ha (fin (v := hb.1) (so := hb.2.1))) (fun z => by cases z)
    | fine => exact absurd (u (.stock x) .fine ha (fin (v := hb.1) (so := hb.2.1))) (fun z => by cases z)
    | number _ => exact hb.elim
    | steps _ => exact hb.elim
  | splits x =>
    obtain ⟨v, so, ha⟩ := ha
    cases b with
    | cat j => exact (BadCat.notValid hb v).elim
    | stock y => exact absurd (u (.stock y) .fine hb (fin (v := v) (so := so))) (fun z => by cases z)
    | splits y =>
      obtain ⟨_, _, hb⟩ := hb
      rcases ha with ha | ⟨ok, ha⟩
      · rcases hb with hb | ⟨ok, hb⟩
        · rw [bad_uniq v so ha hb]
        · exact (bad_ok v so ha ok).elim
      · rcases hb with hb | ⟨_, hb⟩
        · exact (bad_ok v so hb ok).elim
        · rw [bad_uniq v so ha hb]
    | fine =>
      rcases ha with ha | ⟨ok, ha⟩
      · exact (bad_ok v so ha hb.2.2.1).elim
      · exact (bad_ok v so ha hb.2.2.2).elim
    | number _ => exact hb.elim
    | steps _ => exact hb.elim
  | fine =>
    obtain ⟨v, so, o1, o2⟩ := ha
    cases b with
    | cat j => exact (BadCat.notValid hb v).elim
    | stock y => exact absurd (u (.stock y) .fine hb (fin (v := v) (so := so))) (fun z => by cases z)
    | splits y =>
      rcases hb.2.2 with hb | ⟨_, hb⟩
      · exact (bad_ok v so hb o1).elim
      · exact (bad_ok v so hb o2).elim
    | fine => rfl
    | number _ => exact hb.elim
    | steps _ => exact hb.elim
  | number _ => exact ha.elim
  | steps _ => exact ha.elim
theorem stock_ofN {es : List Ent} {st : Num} (nd : (st.map (·.1)).Nodup) (few : st.length < 64) (nb : ∀ q ∈ st, ¬ badSt es st q.1) : StockOk es st :=
  ⟨nd, few, fun q hq => Decidable.byContradiction fun z => nb q hq (.inl z), fun q hq => Int.not_lt.mp fun z => nb q hq (.inr (by rw [getD_mem nd hq]; exact z))⟩
end Sk
namespace Sk
open PySem PySem.Spec PyProof.Rows L2
abbrev s_law_caught : Stmt := topS 45
abbrev N_law_caught : List Str := ["which", "pool", "supply", "one", "two", "e", "kinds_met"]
theorem sc_law_caught : FnScope N_law_caught ["which", "pool", "supply", "one", "two"] (defScope s_law_caught) := ⟨rfl, rfl, rfl, by decide +kernel, rfl, by decide +kernel, by decide +kernel⟩
def sp_law_caught (Tb : List (Addr × Str)) (K : PySem.W.Frag) : Sp := fun vs H Q _ => ∃ (door : Int) (a b c c2 : Addr) (xs : List V) (es : List Ent) (st s1 s2 : Num), vs = [.int door, .ref a, .ref b, .ref c, .ref c2] ∧ SqL K H a xs ∧ CatAt H xs es ∧ H b = some (.dK (dS st)) ∧ H c = some (.dK (dS s1)) ∧ H c2 = some (.dK (dS s2)) ∧ LamX.Tabs Tb H ∧ Sized es ∧ (st.map (·.1)).Nodup ∧ st.length < 64 ∧ (s1.map (·.1)).Nodup ∧ s1.length < 64 ∧ (s2.map (·.1)).Nodup ∧ s2.length < 64 ∧ (Valid es → StockOk es st → SplitsOk es st s1 → SplitsOk es st s2 → FewW es st s1 s2) ∧
  ∀ (o : Oc) v H', Oc2 es st s1 s2 o → OcV H' v o → Gr Tb H H' → Q v H'
def three : List Str := ["InvalidCatalogue", "InvalidStock", "InvalidSplits"]
def sevenE : List Str := ["InvalidCatalogue", "InvalidStock", "InvalidSplits", "InvalidStep", "InvalidNumber", "TooManySteps", "InvalidText"]
def Oc.cl : Oc → Str
  | .cat _ => "InvalidCatalogue"
  | .stock _ => "InvalidStock"
  | .splits _ => "InvalidSplits"
  | .number _ => "InvalidNumber"
  | .steps _ => "TooManySteps"
  | .fine => ""
section
variable {P : Program} {w : World} {K : PySem.W.Frag} {mg : Str → Option Value} {base : Heap} {Tb : List (Addr × Str)}
theorem ok_law_caught {f : Addr} {fd : FuncData} (F : FnP K "_law_caught" s_law_caught f fd) (T : Tx K mg) (GX_count_ways : FnX P w K mg base "count_ways" 8 ["catalogue", "stock", "first", "second"] (sp_count_ways Tb K)) (GX_distance : FnX P w K mg base "distance" 7 ["catalogue", "stock", "first", "second"] (sp_distance Tb K)) (GX_way : FnX P w K mg base "way" 7 ["catalogue", "stock", "first", "second"] (sp_way Tb K)) : FnOk P w K mg base CX0 9 f fd ["which", "pool", "supply", "one", "two"] (sp_law_caught Tb K) := by
  refine F.ok sc_law_caught (fun vs H Q E h => ?_) (fun cdv A outer s H vs Q E hr h => ?_)
  · obtain ⟨_, _, _, _, _, _, _, _, _, _, rfl, _⟩ := h
    rfl
  · obtain ⟨door, a, b, c, c2, xs, es, st, s1, s2, rfl, ha, hc, hb, h1, h2, ht, hz, nd, few, nd1, few1, nd2, few2, hfw, k⟩ := h
    refine ⟨_, PSs.nox (pss_cons (psTryT (i := 5) rfl rfl sc_law_caught.nd rfl rfl ⟨rfl, by decide, .inl T.g_StoreError⟩ takes0 (fun W pn xe tk po => (pss_one (ps_if (pt_cmpR op_eq (pv 0) pe_int (nomark _)) (pss_one (ps_expr (pe_fnX GX_distance (hr.mono (by decide)) tk (pa_cons (pv 1) (pa_cons (pv 2) (pa_cons (pv 3) (pa_cons (pv 4) pa_nil))))))) (pss_one (ps_if (pt_cmpR op_eq (pv 0) pe_int (nomark _)) (pss_one (ps_expr (pe_fnX GX_way (hr.mono (by decide)) tk (pa_cons (pv 1) (pa_cons (pv 2) (pa_cons (pv 3) (pa_cons (pv 4) pa_nil))))))) (pss_one (ps_expr (pe_fnX GX_count_ways (hr.mono (by decide)) tk (pa_cons (pv 1) (pa_cons (pv 2) (pa_cons (pv 3) (pa_cons (pv 4) pa_nil)))))))))))) (fun a pn => (pss_cons (ps_set (i := 6) sc_law_caught.nd rfl (Or.inl rfl) (pe_lst (pa_cons (pe_callB (isXk (K := K) rfl) (by rfl) T.n_isinstance (by decide +kernel) (pa_cons (pv 5) (pa_cons (C8.pe_gc (v := V.ref (He.ga K "InvalidCatalogue")) (by rfl) ⟨_, T.g_InvalidCatalogue, rfl⟩) pa_nil))) (pa_cons (pe_callB (isXk (K := K) rfl) (by rfl) T.n_isinstance (by decide +kernel) (pa_cons (pv 5) (pa_cons (C8.pe_gc (v := V.ref (He.ga K "InvalidStock")) (by rfl) ⟨_, T.g_InvalidStock, rfl⟩) pa_nil))) (pa_cons (pe_callB (isXk (K := K) rfl) (by rfl) T.n_isinstance (by decide +kernel) (pa_cons (pv 5) (pa_cons (C8.pe_gc (v := V.ref (He.ga K "InvalidSplits")) (by rfl) ⟨_, T.g_InvalidSplits, rfl⟩) pa_nil))) pa_nil)))))
          (pss_cons (ps_if (PW.pt (pw_or (pt_val (pe_callB (isXTk (K := K) rfl) (by rfl) T.n_isinstance (by decide +kernel) (pa_cons (pv 5) (pa_cons (pe_tup (pa_cons (C8.pe_gc (v := V.ref (He.ga K "InvalidNumber")) (by rfl) ⟨_, T.g_InvalidNumber, rfl⟩) (pa_cons (C8.pe_gc (v := V.ref (He.ga K "InvalidStep")) (by rfl) ⟨_, T.g_InvalidStep, rfl⟩) (pa_cons (C8.pe_gc (v := V.ref (He.ga K "InvalidText")) (by rfl) ⟨_, T.g_InvalidText, rfl⟩) (pa_cons (C8.pe_gc (v := V.ref (He.ga K "TooManySteps")) (by rfl) ⟨_, T.g_TooManySteps, rfl⟩) pa_nil))))) pa_nil)))) (pw_or1 (pt_not (pt_val (pe_callB (isXk (K := K) rfl) (by rfl) T.n_isinstance (by decide +kernel) (pa_cons (pv 5) (pa_cons (pe_bltn (v := V.ty "ValueError") (u := Value.type "ValueError") (by rfl) T.n_ValueError (by decide +kernel) (by exact rfl)) pa_nil)))))))) (pss_one (ps_ret (pe_tup (pa_cons pe_str (pa_cons pe_non pa_nil))))) pss_nil)
          (pss_cons (ps_if (pt_cmpR op_ne (peBm (K := K) rfl PySem.F.plainAttrs_list PySem.F.slot_list_count PySem.F.type_list_count (mtCntBK (K := K) rfl) (pv 6) (pa_cons pe_bl pa_nil)) pe_int (nomark _)) (pss_one (ps_ret (pe_tup (pa_cons pe_str (pa_cons pe_non pa_nil))))) pss_nil)
          (pss_one (ps_ret (pe_tup (pa_cons (pe_ix (ixT (K := K) rfl) (pe_tup (pa_cons pe_str (pa_cons pe_str (pa_cons pe_str pa_nil)))) (peBm (K := K) rfl PySem.F.plainAttrs_list PySem.F.slot_list_index PySem.F.type_list_index (mtIdxK (K := K) rfl) (pv 6) (pa_cons pe_bl pa_nil)) (fun _ _ => rfl)) (pa_cons (peXv (K := K) rfl (pv 5)) pa_nil))))))))))
      (pss_one (ps_ret pe_non))), ?_⟩
    refine sq_st (fun σ H' => σ = [some (.int door), some (.ref a), some (.ref b), some (.ref c), some (.ref c2), none, none] ∧ Gr Tb H H' ∧ Oc2 es st s1 s2 .fine) (fun N hN => ?_) ?_
    · refine try_T (fun cls d σ' H' => ∃ (o : Oc) (dd : Addr), cls = .ref (He.ga K o.cl) ∧ d = some dd ∧ σ' = [some (.int door), some (.ref a), some (.ref b), some (.ref c), some (.ref c2), none, none] ∧ o.cl ∈ three ∧ Oc2 es st s1 s2 o ∧ Gr Tb H H' ∧ H' dd = some (.xd [("value", o.val)])) (fun W hW => ?_) (fun cls d σ' H' hP => ?_)
      · have di : ∀ i : Int, decide (V.int door = V.int i) = decide (door = i) := fun i => decide_eq_decide.mpr ⟨V.int.inj, fun z => by rw [z]⟩
        refine ⟨_, rfl, rfl, _, rfl, ?_⟩
        rw [di]
        refine ite2 (fun q0 => ?_) (fun q0 => ?_)
        · refine ⟨_, rfl, _, rfl, _, rfl, _, rfl, a, b, c, c2, xs, es, st, s1, s2, rfl, ha, hc, hb, h1, h2, ht, ⟨hz, nd, few, nd1, few1, nd2, few2, ⟨fun i dd H' h g hdd => ?_, fun x dd H' hv h g hdd => ?_⟩, fun x dd H' hv so h g hdd => ?_, fun x dd H' hv so ok h g hdd => ?_⟩, fun H' hv so ok1 ok2 g => ?_⟩
          · exact hW _ _ _ _ ⟨.cat i, dd, rfl, rfl, rfl, (by show ("InvalidCatalogue" : Str) ∈ three; decide), h, g, hdd⟩
          · exact hW _ _ _ _ ⟨.stock x, dd, rfl, rfl, rfl, (by show ("InvalidStock" : Str) ∈ three; decide), ⟨hv, h⟩, g, hdd⟩
          · exact hW _ _ _ _ ⟨.splits x, dd, rfl, rfl, rfl, (by show ("InvalidSplits" : Str) ∈ three; decide), ⟨hv, so, .inl h⟩, g, hdd⟩
          · exact hW _ _ _ _ ⟨.splits x, dd, rfl, rfl, rfl, (by show ("InvalidSplits" : Str) ∈ three; decide), ⟨hv, so, .inr ⟨ok, h⟩⟩, g, hdd⟩
          · exact hN _ _ ⟨rfl, g, hv, so, ok1, ok2⟩
        refine ⟨_, rfl, rfl, _, rfl, ?_⟩
        rw [di]
        refine ite2 (fun q1 => ?_) (fun q1 => ?_)
        · refine ⟨_, rfl, _, rfl, _, rfl, _, rfl, a, b, c, c2, xs, es, st, s1, s2, rfl, ha, hc, hb, h1, h2, ht, ⟨hz, nd, few, nd1, few1, nd2, few2, ⟨fun i dd H' h g hdd => ?_, fun x dd H' hv h g hdd => ?_⟩, fun x dd H' hv so h g hdd => ?_, fun x dd H' hv so ok h g hdd => ?_⟩, fun r H' es' ys hv so ok1 ok2 hp ho g nr hr hys => ?_⟩
          · exact hW _ _ _ _ ⟨.cat i, dd, rfl, rfl, rfl, (by show ("InvalidCatalogue" : Str) ∈ three; decide), h, g, hdd⟩
          · exact hW _ _ _ _ ⟨.stock x, dd, rfl, rfl, rfl, (by show ("InvalidStock" : Str) ∈ three; decide), ⟨hv, h⟩, g, hdd⟩
          · exact hW _ _ _ _ ⟨.splits x, dd, rfl, rfl, rfl, (by show ("InvalidSplits" : Str) ∈ three; decide), ⟨hv, so, .inl h⟩, g, hdd⟩
          · exact hW _ _ _ _ ⟨.splits x, dd, rfl, rfl, rfl, (by show ("InvalidSplits" : Str) ∈ three; decide), ⟨hv, so, .inr ⟨ok, h⟩⟩, g, hdd⟩
          · exact hN _ _ ⟨rfl, g, hv, so, ok1, ok2⟩
        · refine ⟨_, rfl, _, rfl, _, rfl, _, rfl, a, b, c, c2, xs, es, st, s1, s2, rfl, ha, hc, hb, h1, h2, ht, ⟨hz, nd, few, nd1, few1, nd2, few2, ⟨fun i dd H' h g hdd => ?_, fun x dd H' hv h g hdd => ?_⟩, fun x dd H' hv so h g hdd => ?_, fun x dd H' hv so ok h g hdd => ?_⟩, hfw, fun H' es' hv so ok1 ok2 hp ho g => ?_⟩
          · exact hW _ _ _ _ ⟨.cat i, dd, rfl, rfl, rfl, (by show ("InvalidCatalogue" : Str) ∈ three; decide), h, g, hdd⟩
          · exact hW _ _ _ _ ⟨.stock x, dd, rfl, rfl, rfl, (by show ("InvalidStock" : Str) ∈ three; decide), ⟨hv, h⟩, g, hdd⟩
          · exact hW _ _ _ _ ⟨.splits x, dd, rfl, rfl, rfl, (by show ("InvalidSplits" : Str) ∈ three; decide), ⟨hv, so, .inl h⟩, g, hdd⟩
          · exact hW _ _ _ _ ⟨.splits x, dd, rfl, rfl, rfl, (by show ("InvalidSplits" : Str) ∈ three; decide), ⟨hv, so, .inr ⟨ok, h⟩⟩, g, hdd⟩
          · exact hN _ _ ⟨rfl, g, hv, so, ok1, ok2⟩
      · obtain ⟨o, dd, rfl, rfl, rfl, hC, ho, g0, hdd⟩ := hP
        have h7 : o.cl ∈ sevenE := (by decide : ∀ x ∈ three, x ∈ sevenE) _ hC
        have ke := kiAll_ok T.ke h7
        refine ⟨true, ke.xm, fun _ e he0 => ?_, fun z => by cases z⟩
        have xf := ke.xb.is
        have hdd1 : (upd H' e (exT e (.ref (He.ga K o.cl)) (some dd))) dd = some (.xd [("value", o.val)]) := by
          rw [upd_ne (fun z => by rw [z, he0] at hdd; cases hdd)]
          exact hdd
        have he1 : (upd H' e (exT e (.ref (He.ga K o.cl)) (some dd))) e = some (exT e (.ref (He.ga K o.cl)) (some dd)) := upd_same
        have g1 := g0.trans (Gr.new (T := Tb) (o := exT e (.ref (He.ga K o.cl)) (some dd)) he0)
        generalize upd H' e (exT e (.ref (He.ga K o.cl)) (some dd)) = H1 at hdd1 he1 g1
        have hx : ExcV K H1 e o.cl o.val := ⟨dd, he1, hdd1⟩
        have xa : ∀ {H2 : Hp}, Gr Tb H1 H2 → ExAt H2 e (He.ga K o.cl) (some dd) := fun g => ⟨g.ext e _ he1 exT_ntb, .inr ⟨dd, _, rfl, g.ext dd _ hdd1 (fun _ z => by cases z)⟩⟩
        have hne : o ≠ .fine := fun z => by
          rw [z] at hC
          exact absurd hC (by decide)
        cases o with
        | cat y =>
          refine ⟨_, rfl, e, _, some dd, _, _, true, rfl, xa (Gr.refl _), xf, .own _, ((ke.ki "InvalidCatalogue" (by decide)).trans (congrArg some (by show (("InvalidCatalogue" : Str) == "InvalidCatalogue") = true; decide))), ?_⟩
          refine ⟨_, rfl, e, _, some dd, _, _, false, rfl, xa (Gr.refl _), xf, .own _, ((ke.ki "InvalidStock" (by decide)).trans (congrArg some (by show (("InvalidCatalogue" : Str) == "InvalidStock") = false; decide))), ?_⟩
          refine ⟨_, rfl, e, _, some dd, _, _, false, rfl, xa (Gr.refl _), xf, .own _, ((ke.ki "InvalidSplits" (by decide)).trans (congrArg some (by show (("InvalidCatalogue" : Str) == "InvalidSplits") = false; decide))), ?_⟩
          refine ⟨by show 3 ≤ sizeLine; decide, fun l1 hl1 => ?_⟩
          have gl := Gr.new (T := Tb) (o := .lst [.bl true, .bl false, .bl false]) hl1
          have h1 : (upd H1 l1 (.lst [.bl true, .bl false, .bl false])) l1 = some (.lst ([true, false, false].map V.bl)) := upd_same
          generalize upd H1 l1 (.lst [.bl true, .bl false, .bl false]) = H2 at gl h1
          refine goN ?_
          dsimp only
          refine ⟨_, rfl, by show 4 ≤ sizeLine; decide, fun tp htp => ?_⟩
          have gt := Gr.new (T := Tb) (o := .tup [.ref (He.ga K "InvalidNumber"), .ref (He.ga K "InvalidStep"), .ref (He.ga K "InvalidText"), .ref (He.ga K "TooManySteps")]) htp
          have g2 := gl.trans gt
          have h2 := gt.at h1 .lst
          refine ⟨e, _, some dd, tp, _, _, false, rfl, upd_same, xa g2, xf, .cons (.own _) (.cons (.own _) (.cons (.own _) (.cons (.own _) .nil))), ?_, _, rfl, ?_⟩
          · unfold PySem.W.kitAny
            rw [show PySem.W.kitOne K (.ref (He.ga K (Oc.cat y).cl)) (.ref (He.ga K "InvalidNumber")) = some false from ((ke.ki "InvalidNumber" (by decide)).trans (congrArg some (by show (("InvalidCatalogue" : Str) == "InvalidNumber") = false; decide)))]
            unfold PySem.W.kitAny
            rw [show PySem.W.kitOne K (.ref (He.ga K (Oc.cat y).cl)) (.ref (He.ga K "InvalidStep")) = some false from ((ke.ki "InvalidStep" (by decide)).trans (congrArg some (by show (("InvalidCatalogue" : Str) == "InvalidStep") = false; decide)))]
            unfold PySem.W.kitAny
            rw [show PySem.W.kitOne K (.ref (He.ga K (Oc.cat y).cl)) (.ref (He.ga K "InvalidText")) = some false from ((ke.ki "InvalidText" (by decide)).trans (congrArg some (by show (("InvalidCatalogue" : Str) == "InvalidText") = false; decide)))]
            unfold PySem.W.kitAny
            rw [show PySem.W.kitOne K (.ref (He.ga K (Oc.cat y).cl)) (.ref (He.ga K "TooManySteps")) = some false from ((ke.ki "TooManySteps" (by decide)).trans (congrArg some (by show (("InvalidCatalogue" : Str) == "TooManySteps") = false; decide)))]
            rfl
          generalize upd H2 tp (.tup [.ref (He.ga K "InvalidNumber"), .ref (He.ga K "InvalidStep"), .ref (He.ga K "InvalidText"), .ref (He.ga K "TooManySteps")]) = H3 at g2 h2
          refine iteFb (by decide) ⟨_, rfl, e, _, some dd, _, _, true, rfl, xa g2, xf, .ty _, ke.kv, _, rfl, iteFb (by decide) ?_⟩
          refine ⟨_, rfl, .inl ⟨rfl, _, SqL.of h2⟩, l1, [true, false, false], true, rfl, rfl, SqL.of h2, rfl, _, rfl, iteFb (by decide) ?_⟩
          refine ⟨by show 3 ≤ sizeLine; decide, fun t3 ht3 => ?_⟩
          have gw := Gr.new (T := Tb) (o := .tup [.str "catalogue", .str "stock", .str "splits"]) ht3
          have h3 := gw.at h2 .lst
          have g3 := g2.trans gw
          refine ⟨_, rfl, .inl ⟨rfl, _, SqL.of h3⟩, l1, [.bl true, .bl false, .bl false], .bl true, 0, .bl true, rfl, rfl, SqL.of h3, rfl, rfl, rfl, rfl, ?_, ?_⟩
          · intro m z hm hz
            have : m = 0 ∨ m = 1 ∨ m = 2 := by omega
            rcases this with rfl | rfl | rfl <;> first | (exfalso; omega) | (cases hz; rfl)
          refine ⟨t3, _, 0, _, rfl, rfl, SqT.of upd_same, atI_nat (j := 0) rfl, ?_⟩
          refine ⟨_, rfl, (hx.gr g3).value ke.xb ?_⟩
          refine ⟨by show 2 ≤ sizeLine; decide, fun t4 ht4 => ?_⟩
          exact k _ _ _ ho (.inr ⟨hne, t4, rfl, upd_same⟩) (g1.trans (g3.trans (Gr.new ht4)))
        | stock y =>
          refine ⟨_, rfl, e, _, some dd, _, _, false, rfl, xa (Gr.refl _), xf, .own _, ((ke.ki "InvalidCatalogue" (by decide)).trans (congrArg some (by show (("InvalidStock" : Str) == "InvalidCatalogue") = false; decide))), ?_⟩
          refine ⟨_, rfl, e, _, some dd, _, _, true, rfl, xa (Gr.refl _), xf, .own _, ((ke.ki "InvalidStock" (by decide)).trans (congrArg some (by show (("InvalidStock" : Str) == "InvalidStock") = true; decide))), ?_⟩
          refine ⟨_, rfl, e, _, some dd, _, _, false, rfl, xa (Gr.refl _), xf, .own _, ((ke.ki "InvalidSplits" (by decide)).trans (congrArg some (by show (("InvalidStock" : Str) == "InvalidSplits") = false; decide))), ?_⟩
          refine ⟨by show 3 ≤ sizeLine; decide, fun l1 hl1 => ?_⟩
          have gl := Gr.new (T := Tb) (o := .lst [.bl false, .bl true, .bl false]) hl1
          have h1 : (upd H1 l1 (.lst [.bl false, .bl true, .bl false])) l1 = some (.lst ([false, true, false].map V.bl)) := upd_same
          generalize upd H1 l1 (.lst [.bl false, .bl true, .bl false]) = H2 at gl h1
          refine goN ?_
          dsimp only
          refine ⟨_, rfl, by show 4 ≤ sizeLine; decide, fun tp htp => ?_⟩
          have gt := Gr.new (T := Tb) (o := .tup [.ref (He.ga K "InvalidNumber"), .ref (He.ga K "InvalidStep"), .ref (He.ga K "InvalidText"), .ref (He.ga K "TooManySteps")]) htp
          have g2 := gl.trans gt
          have h2 := gt.at h1 .lst
          refine ⟨e, _, some dd, tp, _, _, false, rfl, upd_same, xa g2, xf, .cons (.own _) (.cons (.own _) (.cons (.own _) (.cons (.own _) .nil))), ?_, _, rfl, ?_⟩
          · unfold PySem.W.kitAny
            rw [show PySem.W.kitOne K (.ref (He.ga K (Oc.stock y).cl)) (.ref (He.ga K "InvalidNumber")) = some false from ((ke.ki "InvalidNumber" (by decide)).trans (congrArg some (by show (("InvalidStock" : Str) == "InvalidNumber") = false; decide)))]
            unfold PySem.W.kitAny
            rw [show PySem.W.kitOne K (.ref (He.ga K (Oc.stock y).cl)) (.ref (He.ga K "InvalidStep")) = some false from ((ke.ki "InvalidStep" (by decide)).trans (congrArg some (by show (("InvalidStock" : Str) == "InvalidStep") = false; decide)))]
            unfold PySem.W.kitAny
            rw [show PySem.W.kitOne K (.ref (He.ga K (Oc.stock y).cl)) (.ref (He.ga K "InvalidText")) = some false from ((ke.ki "InvalidText" (by decide)).trans (congrArg some (by show (("InvalidStock" : Str) == "InvalidText") = false; decide)))]
            unfold PySem.W.kitAny
            rw [show PySem.W.kitOne K (.ref (He.ga K (Oc.stock y).cl)) (.ref (He.ga K "TooManySteps")) = some false from ((ke.ki "TooManySteps" (by decide)).trans (congrArg some (by show (("InvalidStock" : Str) == "TooManySteps") = false; decide)))]
            rfl
          generalize upd H2 tp (.tup [.ref (He.ga K "InvalidNumber"), .ref (He.ga K "InvalidStep"), .ref (He.ga K "InvalidText"), .ref (He.ga K "TooManySteps")]) = H3 at g2 h2
          refine iteFb (by decide) ⟨_, rfl, e, _, some dd, _, _, true, rfl, xa g2, xf, .ty _, ke.kv, _, rfl, iteFb (by decide) ?_⟩
          refine ⟨_, rfl, .inl ⟨rfl, _, SqL.of h2⟩, l1, [false, true, false], true, rfl, rfl, SqL.of h2, rfl, _, rfl, iteFb (by decide) ?_⟩
          refine ⟨by show 3 ≤ sizeLine; decide, fun t3 ht3 => ?_⟩
          have gw := Gr.new (T := Tb) (o := .tup [.str "catalogue", .str "stock", .str "splits"]) ht3
          have h3 := gw.at h2 .lst
          have g3 := g2.trans gw
          refine ⟨_, rfl, .inl ⟨rfl, _, SqL.of h3⟩, l1, [.bl false, .bl true, .bl false], .bl true, 1, .bl true, rfl, rfl, SqL.of h3, rfl, rfl, rfl, rfl, ?_, ?_⟩
          · intro m z hm hz
            have : m = 0 ∨ m = 1 ∨ m = 2 := by omega
            rcases this with rfl | rfl | rfl <;> first | (exfalso; omega) | (cases hz; rfl)
          refine ⟨t3, _, 1, _, rfl, rfl, SqT.of upd_same, atI_nat (j := 1) rfl, ?_⟩
          refine ⟨_, rfl, (hx.gr g3).value ke.xb ?_⟩
          refine ⟨by show 2 ≤ sizeLine; decide, fun t4 ht4 => ?_⟩
          exact k _ _ _ ho (.inr ⟨hne, t4, rfl, upd_same⟩) (g1.trans (g3.trans (Gr.new ht4)))
        | splits y =>
          refine ⟨_, rfl, e, _, some dd, _, _, false, rfl, xa (Gr.refl _), xf, .own _, ((ke.ki "InvalidCatalogue" (by decide)).trans (congrArg some (by show (("InvalidSplits" : Str) == "InvalidCatalogue") = false; decide))), ?_⟩
          refine ⟨_, rfl, e, _, some dd, _, _, false, rfl, xa (Gr.refl _), xf, .own _, ((ke.ki "InvalidStock" (by decide)).trans (congrArg some (by show (("InvalidSplits" : Str) == "InvalidStock") = false; decide))), ?_⟩
          refine ⟨_, rfl, e, _, some dd, _, _, true, rfl, xa (Gr.refl _), xf, .own _, ((ke.ki "InvalidSplits" (by decide)).trans (congrArg some (by show (("InvalidSplits" : Str) == "InvalidSplits") = true; decide))), ?_⟩
          refine ⟨by show 3 ≤ sizeLine; decide, fun l1 hl1 => ?_⟩
          have gl := Gr.new (T := Tb) (o := .lst [.bl false, .bl false, .bl true]) hl1
          have h1 : (upd H1 l1 (.lst [.bl false, .bl false, .bl true])) l1 = some (.lst ([false, false, true].map V.bl)) := upd_same
          generalize upd H1 l1 (.lst [.bl false, .bl false, .bl true]) = H2 at gl h1
          refine goN ?_
          dsimp only
          refine ⟨_, rfl, by show 4 ≤ sizeLine; decide, fun tp htp => ?_⟩
          have gt := Gr.new (T := Tb) (o := .tup [.ref (He.ga K "InvalidNumber"), .ref (He.ga K "InvalidStep"), .ref (He.ga K "InvalidText"), .ref (He.ga K "TooManySteps")]) htp
          have g2 := gl.trans gt
          have h2 := gt.at h1 .lst
          refine ⟨e, _, some dd, tp, _, _, false, rfl, upd_same, xa g2, xf, .cons (.own _) (.cons (.own _) (.cons (.own _) (.cons (.own _) .nil))), ?_, _, rfl, ?_⟩
          · unfold PySem.W.kitAny
            rw [show PySem.W.kitOne K (.ref (He.ga K (Oc.splits y).cl)) (.ref (He.ga K "InvalidNumber")) = some false from ((ke.ki "InvalidNumber" (by decide)).trans (congrArg some (by show (("InvalidSplits" : Str) == "InvalidNumber") = false; decide)))]
            unfold PySem.W.kitAny
            rw [show PySem.W.kitOne K (.ref (He.ga K (Oc.splits y).cl)) (.ref (He.ga K "InvalidStep")) = some false from ((ke.ki "InvalidStep" (by decide)).trans (congrArg some (by show (("InvalidSplits" : Str) == "InvalidStep") = false; decide)))]
            unfold PySem.W.kitAny
            rw [show PySem.W.kitOne K (.ref (He.ga K (Oc.splits y).cl)) (.ref (He.ga K "InvalidText")) = some false from ((ke.ki "InvalidText" (by decide)).trans (congrArg some (by show (("InvalidSplits" : Str) == "InvalidText") = false; decide)))]
            unfold PySem.W.kitAny
            rw [show PySem.W.kitOne K (.ref (He.ga K (Oc.splits y).cl)) (.ref (He.ga K "TooManySteps")) = some false from ((ke.ki "TooManySteps" (by decide)).trans (congrArg some (by show (("InvalidSplits" : Str) == "TooManySteps") = false; decide)))]
            rfl
          generalize upd H2 tp (.tup [.ref (He.ga K "InvalidNumber"), .ref (He.ga K "InvalidStep"), .ref (He.ga K "InvalidText"), .ref (He.ga K "TooManySteps")]) = H3 at g2 h2
          refine iteFb (by decide) ⟨_, rfl, e, _, some dd, _, _, true, rfl, xa g2, xf, .ty _, ke.kv, _, rfl, iteFb (by decide) ?_⟩
          refine ⟨_, rfl, .inl ⟨rfl, _, SqL.of h2⟩, l1, [false, false, true], true, rfl, rfl, SqL.of h2, rfl, _, rfl, iteFb (by decide) ?_⟩
          refine ⟨by show 3 ≤ sizeLine; decide, fun t3 ht3 => ?_⟩
          have gw := Gr.new (T := Tb) (o := .tup [.str "catalogue", .str "stock", .str "splits"]) ht3
          have h3 := gw.at h2 .lst
          have g3 := g2.trans gw
          refine ⟨_, rfl, .inl ⟨rfl, _, SqL.of h3⟩, l1, [.bl false, .bl false, .bl true], .bl true, 2, .bl true, rfl, rfl, SqL.of h3, rfl, rfl, rfl, rfl, ?_, ?_⟩
          · intro m z hm hz
            have : m = 0 ∨ m = 1 ∨ m = 2 := by omega
            rcases this with rfl | rfl | rfl <;> first | (exfalso; omega) | (cases hz; rfl)
          refine ⟨t3, _, 2, _, rfl, rfl, SqT.of upd_same, atI_nat (j := 2) rfl, ?_⟩
          refine ⟨_, rfl, (hx.gr g3).value ke.xb ?_⟩
          refine ⟨by show 2 ≤ sizeLine; decide, fun t4 ht4 => ?_⟩
          exact k _ _ _ ho (.inr ⟨hne, t4, rfl, upd_same⟩) (g1.trans (g3.trans (Gr.new ht4)))
        | number y => exact absurd hC (by show ¬ ("InvalidNumber" : Str) ∈ three; decide)
        | steps y => exact absurd hC (by show ¬ ("TooManySteps" : Str) ∈ three; decide)
        | fine => exact absurd rfl hne
    rintro σ H1 ⟨rfl, g1, ho⟩
    exact k .fine _ _ ho (.inl ⟨rfl, rfl⟩) g1
end
end Sk
namespace Sk
open PySem PySem.Spec PyProof.Rows L2
abbrev s_law_due : Stmt := topS 46
abbrev N_law_due : List Str := ["pool", "supply", "one", "two", "taken"]
theorem sc_law_due : FnScope N_law_due ["pool", "supply", "one", "two"] (defScope s_law_due) := ⟨rfl, rfl, rfl, by decide +kernel, rfl, by decide +kernel, by decide +kernel⟩
def sp_law_due (Tb : List (Addr × Str)) (K : PySem.W.Frag) : Sp := fun vs H Q _ => ∃ (a b c c2 : Addr) (xs : List V) (es : List Ent) (st s1 s2 : Num), vs = [.ref a, .ref b, .ref c, .ref c2] ∧ SqL K H a xs ∧ CatAt H xs es ∧ H b = some (.dK (dS st)) ∧ H c = some (.dK (dS s1)) ∧ H c2 = some (.dK (dS s2)) ∧ LamX.Tabs Tb H ∧ Sized es ∧ es.length ≤ 50 ∧ (st.map (·.1)).Nodup ∧ st.length < 64 ∧ (s1.map (·.1)).Nodup ∧ s1.length < 64 ∧ (s2.map (·.1)).Nodup ∧ s2.length < 64 ∧
  ∀ (o : Oc) v H', Oc2 es st s1 s2 o → OcV H' v o → Gr Tb H H' → Q v H'
section
variable {P : Program} {w : World} {K : PySem.W.Frag} {mg : Str → Option Value} {base : Heap} {Tb : List (Addr × Str)}
theorem ok_law_due {f : Addr} {fd : FuncData} (F : FnP K "_law_due" s_law_due f fd) (T : Tx K mg) (G_law_catalogue_fault : Fn P w K mg base "_law_catalogue_fault" 1 ["pool"] (sp_law_catalogue_fault Tb K)) (G_law_splits_fault : Fn P w K mg base "_law_splits_fault" 2 ["pool", "supply", "taken"] (sp_law_splits_fault Tb K)) (G_law_stock_fault : Fn P w K mg base "_law_stock_fault" 1 ["pool", "supply"] (sp_law_stock_fault Tb K)) : FnOk P w K mg base CX0 3 f fd ["pool", "supply", "one", "two"] (sp_law_due Tb K) := by
  refine F.ok sc_law_due (fun vs H Q E h => ?_) (fun cdv A outer s H vs Q E hr h => ?_)
  · obtain ⟨_, _, _, _, _, _, _, _, _, rfl, _⟩ := h
    rfl
  · obtain ⟨a, b, c, c2, xs, es, st, s1, s2, rfl, ha, hc, hb, h1, h2, ht, hz, hl, nd, few, nd1, few1, nd2, few2, k⟩ := h
    refine ⟨_, PSs.nox (pss_cons (ps_if (pt_cmpR op_notN (pe_fn G_law_catalogue_fault (hr.mono (by decide)) (pa_cons (pv 0) pa_nil)) pe_non (nomark _)) (pss_one (ps_ret (pe_tup (pa_cons pe_str (pa_cons (pe_fn G_law_catalogue_fault (hr.mono (by decide)) (pa_cons (pv 0) pa_nil)) pa_nil))))) pss_nil)
      (pss_cons (ps_if (pt_cmpR op_notN (pe_fn G_law_stock_fault (hr.mono (by decide)) (pa_cons (pv 0) (pa_cons (pv 1) pa_nil))) pe_non (nomark _)) (pss_one (ps_ret (pe_tup (pa_cons pe_str (pa_cons (pe_fn G_law_stock_fault (hr.mono (by decide)) (pa_cons (pv 0) (pa_cons (pv 1) pa_nil))) pa_nil))))) pss_nil)
      (pss_cons (ps_for PassesOwn.never rfl (piT (K := K) rfl (pe_tup (pa_cons (pv 2) (pa_cons (pv 3) pa_nil)))) (pg_name (i := 4) sc_law_due.nd rfl (Or.inl rfl)) (pss_one (ps_if (pt_cmpR op_notN (pe_fn G_law_splits_fault (hr.mono (by decide)) (pa_cons (pv 0) (pa_cons (pv 1) (pa_cons (pv 4) pa_nil)))) pe_non (nomark _)) (pss_one (ps_ret (pe_tup (pa_cons pe_str (pa_cons (pe_fn G_law_splits_fault (hr.mono (by decide)) (pa_cons (pv 0) (pa_cons (pv 1) (pa_cons (pv 4) pa_nil)))) pa_nil))))) pss_nil)))
      (pss_one (ps_ret pe_non))))), ?_⟩
    refine ⟨_, rfl, a, xs, es, rfl, ha, hc, hz, by omega, fun v H1 g1 => ⟨rfl, _, rfl, iteFb rfl ?_⟩, fun i H1 hb1 g1 => ⟨rfl, _, rfl, iteTb rfl ?_⟩⟩
    rotate_left
    · refine ⟨_, rfl, a, xs, es, rfl, g1.ext_seq ha, CatAt.gr g1 hc, hz, by omega, fun v H2 g2 => (BadCat.notValid hb1 v).elim, fun j H2 hb2 g2 => ⟨by show 2 ≤ sizeLine; decide, fun t ht => ?_⟩⟩
      obtain rfl := BadCat.uniq hb1 hb2
      exact k (.cat i) _ _ hb1 (.inr ⟨(fun z => by cases z), t, rfl, upd_same⟩) ((g1.trans g2).trans (Gr.new ht))
    refine ⟨_, rfl, _, rfl, a, b, xs, es, st, rfl, g1.ext_seq ha, CatAt.gr g1 hc, g1.at hb .dK, nd, few, by omega, fun nb H2 g2 => ⟨rfl, _, rfl, iteFb rfl ?_⟩, fun x H2 hx g2 => ⟨rfl, _, rfl, iteTb rfl ?_⟩⟩
    rotate_left
    · have g12 := g1.trans g2
      refine ⟨_, rfl, _, rfl, a, b, xs, es, st, rfl, g12.ext_seq ha, CatAt.gr g12 hc, g12.at hb .dK, nd, few, by omega, fun nb H3 g3 => ?_, fun y H3 hy g3 => ⟨by show 2 ≤ sizeLine; decide, fun t ht => ?_⟩⟩
      · obtain ⟨q, hq, z⟩ := List.mem_map.mp hx.1
        exact absurd hx.2.1 (z ▸ nb q hq)
      · obtain rfl := hx.uniq hy
        exact k (.stock x) _ _ ⟨v, hx⟩ (.inr ⟨(fun z => by cases z), t, rfl, upd_same⟩) ((g12.trans g3).trans (Gr.new ht))
    have so := stock_ofN nd few nb
    have g12 := g1.trans g2
    refine ⟨_, rfl, _, rfl, by show 2 ≤ sizeLine; decide, fun tt htt => ?_⟩
    have gt := Gr.new (T := Tb) (o := .tup [.ref c, .ref c2]) htt
    have htt3 : (upd H2 tt (.tup [.ref c, .ref c2])) tt = some (.tup [.ref c, .ref c2]) := upd_same
    have g13 := g12.trans gt
    generalize upd H2 tt (.tup [.ref c, .ref c2]) = H3 at htt3 g13
    have one : ∀ (c' : Addr) (sp : Num) (H4 : Hp) (D : Ends) (s4 : Option V), Gr Tb H H4 → H4 c' = some (.dK (dS sp)) → (sp.map (·.1)).Nodup → sp.length < 64 → (∀ H5, Gr Tb H4 H5 → SplitsOk es st sp → D.nx [some (.ref a), some (.ref b), some (.ref c), some (.ref c2), some (.ref c')] H5) → (∀ H5 x t, Gr Tb H4 H5 → BadSp es st sp x → H5 t = some (.tup [.str "splits", .str x]) → D.rt (.ref t) H5) →
        (tIfS (tTest (tOp (fun x y H Q => y = V.non ∧ Q (V.bl !decide (x = V.non)) H) (tCall (sp_law_splits_fault Tb K) [] E0 (tCons (tVar 0) (tCons (tVar 1) (tCons (tVar 4) tNil)))) (tC V.non)))
          (tRet (tTup (tCons (tC (V.str (Str.ofString "splits"))) (tCons (tCall (sp_law_splits_fault Tb K) [] E0 (tCons (tVar 0) (tCons (tVar 1) (tCons (tVar 4) tNil)))) tNil)))) tNext) D [some (.ref a), some (.ref b), some (.ref c), some (.ref c2), some (.ref c')] H4 := by
      intro c' sp H4 D s4 g4 hc4 nd4 few4 kok kbad
      refine ⟨_, rfl, _, rfl, _, rfl, a, b, c', xs, es, st, sp, rfl, g4.ext_seq ha, CatAt.gr g4 hc, g4.at hb .dK, hc4, g4.tab ht, v, so, nd4, few4, by omega, fun H5 ok g5 => ⟨rfl, _, rfl, iteFb rfl ?_⟩, fun x H5 bad g5 => ⟨rfl, _, rfl, iteTb rfl ?_⟩⟩
      · exact kok H5 g5 ok
      · have g45 := g4.trans g5
        refine ⟨_, rfl, _, rfl, _, rfl, a, b, c', xs, es, st, sp, rfl, g45.ext_seq ha, CatAt.gr g45 hc, g45.at hb .dK, g5.at hc4 .dK, g45.tab ht, v, so, nd4, few4, by omega, fun H6 ok g6 => (bad_ok v so bad ok).elim, fun y H6 bad2 g6 => ⟨by show 2 ≤ sizeLine; decide, fun t ht => ?_⟩⟩
        obtain rfl := bad_uniq v so bad bad2
        exact kbad _ x t ((g5.trans g6).trans (Gr.new ht)) bad upd_same
    refine ⟨tt, rfl, ⟨_, SqT.of htt3⟩, for_tup (K := K) (a := tt) (xs := [.ref c, .ref c2]) (fun i σ H' => ∃ s4 : Option V, σ = [some (.ref a), some (.ref b), some (.ref c), some (.ref c2), s4] ∧ Gr Tb H H' ∧ H' tt = some (.tup [.ref c, .ref c2]) ∧ (0 < i → SplitsOk es st s1) ∧ (1 < i → SplitsOk es st s2))
      ⟨_, rfl, g13, htt3, fun z => absurd z (by decide), fun z => absurd z (by decide)⟩ (fun i σ H' _ ⟨_, _, _, h, _⟩ => SqT.of h) ?_ ?_⟩
    · rintro i x σ H4 hx ⟨s4, rfl, g4, ht4, o1, o2⟩
      refine goN ?_
      match i, hx with
      | 0, hx =>
        cases hx
        exact one c s1 H4 _ s4 g4 (g4.at h1 .dK) nd1 few1 (fun H5 g5 ok => ⟨_, rfl, g4.trans g5, g5.at ht4 .tup, fun _ => ok, fun z => absurd z (by decide)⟩) (fun H5 x t g5 bad h => k (.splits x) _ _ ⟨v, so, .inl bad⟩ (.inr ⟨(fun z => by cases z), t, rfl, h⟩) (g4.trans g5))
      | 1, hx =>
        cases hx
        have ok1 := o1 (by decide)
        exact one c2 s2 H4 _ s4 g4 (g4.at h2 .dK) nd2 few2 (fun H5 g5 ok => ⟨_, rfl, g4.trans g5, g5.at ht4 .tup, fun _ => ok1, fun _ => ok⟩) (fun H5 x t g5 bad h => k (.splits x) _ _ ⟨v, so, .inr ⟨ok1, bad⟩⟩ (.inr ⟨(fun z => by cases z), t, rfl, h⟩) (g4.trans g5))
      | i + 2, hx => cases hx
    · rintro σ H4 ⟨s4, rfl, g4, ht4, o1, o2⟩
      exact k .fine _ _ ⟨v, so, o1 (by show 0 < 2; decide), o2 (by show 1 < 2; decide)⟩ (.inl ⟨rfl, rfl⟩) g4
end
end Sk
namespace Sk
open PySem PySem.Spec PyProof.Rows L2
def rngI (a g : Int) : List Int := (List.range ((g - a).natAbs + 1)).map fun (i : Nat) => (if a ≤ g then a else g) + (i : Int)
def boxL : List (Int × Int) → List (List Int)
  | [] => [[]]
  | p :: r => (rngI p.1 p.2).flatMap fun x => (boxL r).map (x :: ·)
def btw (p : Int × Int) (x : Int) : Prop := (p.1 ≤ x ∧ x ≤ p.2) ∨ (p.2 ≤ x ∧ x ≤ p.1)
theorem mem_rng {p : Int × Int} {x : Int} (h : btw p x) : x ∈ rngI p.1 p.2 := by
  unfold rngI
  refine List.mem_map.mpr ⟨(x - if p.1 ≤ p.2 then p.1 else p.2).toNat, List.mem_range.mpr ?_, ?_⟩
  · unfold btw at h
    split <;> omega
  · unfold btw at h
    split <;> omega
theorem mem_box : ∀ {ps : List (Int × Int)} {k : List Int}, k.length = ps.length → (∀ (i : Nat) (p : Int × Int) (x : Int), ps[i]? = some p → k[i]? = some x → btw p x) → k ∈ boxL ps
  | [], [], _, _ => List.mem_singleton.mpr rfl
  | [], _ :: _, h, _ => by cases h
  | _ :: _, [], h, _ => by cases h
  | p :: ps, x :: k, h, f => List.mem_flatMap.mpr ⟨x, mem_rng (f 0 p x rfl rfl), List.mem_map.mpr ⟨k, mem_box (by rw [List.length_cons, List.length_cons] at h; omega) fun i q y hq hy => f (i + 1) q y (by rw [List.getElem?_cons_succ]; exact hq) (by rw [List.getElem?_cons_succ]; exact hy), rfl⟩⟩
theorem box_len : ∀ ps : List (Int × Int), (boxL ps).length ≤ 2 ^ (ps.map fun p => (p.2 - p.1).natAbs).sum
  | [] => Nat.le_refl _
  | p :: ps => by
    have ih := box_len ps
    have h1 : (boxL (p :: ps)).length = ((p.2 - p.1).natAbs + 1) * (boxL ps).length := by
      show ((rngI p.1 p.2).flatMap fun x => (boxL ps).map (x :: ·)).length = _
      unfold rngI
      rw [List.flatMap_map]
      generalize (p.2 - p.1).natAbs + 1 = n
      generalize boxL ps = bx
      induction n with
      | zero => simp
      | succ n ih2 =>
        rw [List.range_succ, List.flatMap_append, List.length_append, ih2, List.flatMap_cons, List.flatMap_nil, List.append_nil, List.length_map, Nat.add_mul]
        omega
    rw [h1, List.map_cons, List.sum_cons, Nat.pow_add]
    have h2 : (p.2 - p.1).natAbs + 1 ≤ 2 ^ (p.2 - p.1).natAbs := Nat.lt_two_pow_self
    exact Nat.mul_le_mul h2 ih
theorem putW_nodup {W : WL} {k : List Int} {c : Int} (h : (W.map (·.1)).Nodup) : ((putW W k c).map (·.1)).Nodup := by
  unfold putW
  by_cases z : (W.any fun q => decide (q.1 = k)) = true
  · rw [if_pos z, List.map_map]
    have e : ((fun q : List Int × Int => q.1) ∘ fun q : List Int × Int => if q.1 = k then (q.1, c) else q) = fun q => q.1 := by
      funext q
      show (if q.1 = k then (q.1, c) else q).1 = q.1
      split <;> rfl
    rw [e]
    exact h
  · rw [if_neg z, List.map_append]
    refine List.nodup_append.mpr ⟨h, by simp, fun a ha b hb e => ?_⟩
    subst e
    obtain ⟨q, hq, rfl⟩ := List.mem_map.mp ha
    have hk : q.1 = k := List.mem_singleton.mp hb
    exact z (List.any_eq_true.mpr ⟨q, hq, decide_eq_true hk⟩)
theorem addAllW_nodup {c : Int} : ∀ {l : List Num} {W : WL}, (W.map (·.1)).Nodup → ((addAllW c W l).map (·.1)).Nodup
  | [], _, h => h
  | u :: l, W, h => addAllW_nodup (l := l) (W := addW W (valsN u) c) (putW_nodup h)
theorem stepAcc_nodup {es : List Ent} {st goal : Num} : ∀ {l acc : WL}, (acc.map (·.1)).Nodup → ((stepAcc es st goal acc l).map (·.1)).Nodup
  | [], _, h => h
  | q :: l, acc, h => stepAcc_nodup (l := l) (acc := addAllW q.2 acc (nextS es st (numV (es.map (·.name)) q.1) goal)) (addAllW_nodup h)
theorem waysW_nodup {es : List Ent} {st goal : Num} {v : List Int} : ∀ n, ((waysW es st goal v n).map (·.1)).Nodup
  | 0 => by
    show ([v] : List (List Int)).Nodup
    simp
  | n + 1 => stepAcc_nodup (l := waysW es st goal v n) (acc := []) List.nodup_nil
theorem numV_at {ns : List Str} {v : List Int} {i : Nat} {n : Str} {x : Int} (hn : ns[i]? = some n) (hx : v[i]? = some x) : (numV ns v)[i]? = some (n, x) := by
  unfold numV
  exact List.getElem?_zip_eq_some.mpr ⟨hn, hx⟩
/-- what is reached lies between the ends -/
theorem next_btw {es : List Ent} {st : Num} {s2 : Num} (nd : (es.map (·.name)).Nodup) {ps : List (Int × Int)} (hps : ∀ (i : Nat) (e : Ent) (p : Int × Int), es[i]? = some e → ps[i]? = some p → p.2 = getD s2 e.name) (hl : ps.length = es.length) {k : List Int} (kl : k.length = ps.length)
    (hk : ∀ (i : Nat) (p : Int × Int) (x : Int), ps[i]? = some p → k[i]? = some x → btw p x) {u : Num} (hu : u ∈ nextS es st (numV (es.map (·.name)) k) (numOf es (getD s2))) :
    (valsN u).length = ps.length ∧ ∀ (i : Nat) (p : Int × Int) (x : Int), ps[i]? = some p → (valsN u)[i]? = some x → btw p x := by
  have nm : (numV (es.map (·.name)) k).map (·.1) = es.map (·.name) := numV_names (by rw [List.length_map]; omega)
  have un := nextS_names hu
  rw [nm] at un
  have ul : u.length = es.length := by
    have := congrArg List.length un
    rwa [List.length_map, List.length_map] at this
  unfold nextS at hu
  obtain ⟨n, hn, h⟩ := List.mem_filterMap.mp hu
  unfold nextO at h
  split at h
  · cases h
  rename_i ne
  split at h
  · cases h
    refine ⟨by unfold valsN; rw [List.length_map]; omega, fun i p x hp hx => ?_⟩
    have hi : i < es.length := by
      have := (List.getElem?_eq_some_iff.mp hp).1
      omega
    have he : es[i]? = some es[i] := List.getElem?_eq_getElem hi
    have hik : i < k.length := by omega
    have hki : k[i]? = some k[i] := List.getElem?_eq_getElem hik
    have hti := numV_at (ns := es.map (·.name)) (v := k) (by rw [List.getElem?_map, he]; rfl) hki
    have hb := hk i p _ hp hki
    have hp2 := hps i _ p he hp
    unfold valsN nearN put at hx
    rw [if_pos (any_mem.mpr hn), List.getElem?_map, List.getElem?_map, hti] at hx
    have hx := Option.some.inj hx
    by_cases z : es[i].name = n
    · have g1 : getD (numV (es.map (·.name)) k) n = k[i] := by
        rw [← z]
        exact getD_mem (q := (es[i].name, k[i])) (by rw [nm]; exact nd) (List.mem_of_getElem? hti)
      have g2 : getD (numOf es (getD s2)) n = p.2 := by
        rw [hp2, ← z]
        exact getD_numOf (List.mem_map.mpr ⟨_, List.getElem_mem hi, rfl⟩)
      rw [g1, g2] at ne hx
      have hx2 : (if es[i].name = n then (es[i].name, k[i] + if k[i] < p.2 then 1 else -1) else (es[i].name, k[i])).2 = x := hx
      rw [if_pos z] at hx2
      have hx3 : (k[i] + if k[i] < p.2 then 1 else -1) = x := hx2
      unfold btw at hb ⊢
      split at hx3 <;> omega
    · have hx2 : (if es[i].name = n then (es[i].name, _) else (es[i].name, k[i])).2 = x := hx
      rw [if_neg z] at hx2
      have hx3 : k[i] = x := hx2
      rw [← hx3]
      exact hb
  · cases h
theorem ways_btw {es : List Ent} {st s1 s2 : Num} (nd : (es.map (·.name)).Nodup) : ∀ n, ∀ q ∈ waysW es st (numOf es (getD s2)) (es.map fun e => getD s1 e.name) n, q.1 ∈ boxL (es.map fun e => (getD s1 e.name, getD s2 e.name)) := by
  have key : ∀ n, ∀ q ∈ waysW es st (numOf es (getD s2)) (es.map fun e => getD s1 e.name) n, q.1.length = (es.map fun e => (getD s1 e.name, getD s2 e.name)).length ∧ ∀ (i : Nat) (p : Int × Int) (x : Int), (es.map fun e => (getD s1 e.name, getD s2 e.name))[i]? = some p → q.1[i]? = some x → btw p x := by
    intro n
    induction n with
    | zero =>
      intro q hq
      rw [List.mem_singleton.mp hq]
      refine ⟨by rw [List.length_map, List.length_map], fun i p x hp hx => ?_⟩
      rw [List.getElem?_map] at hp hx
      cases he : es[i]? with
      | none => rw [he] at hp; cases hp
      | some e =>
        rw [he] at hp hx
        cases hp
        cases hx
        unfold btw
        show (getD s1 e.name ≤ getD s1 e.name ∧ getD s1 e.name ≤ getD s2 e.name) ∨ (getD s2 e.name ≤ getD s1 e.name ∧ getD s1 e.name ≤ getD s1 e.name)
        omega
    | succ n ih =>
      intro q hq
      exact stepAcc_all (P := fun k => k.length = (es.map fun e => (getD s1 e.name, getD s2 e.name)).length ∧ ∀ (i : Nat) (p : Int × Int) (x : Int), (es.map fun e => (getD s1 e.name, getD s2 e.name))[i]? = some p → k[i]? = some x → btw p x)
        (R := fun k => k.length = (es.map fun e => (getD s1 e.name, getD s2 e.name)).length ∧ ∀ (i : Nat) (p : Int × Int) (x : Int), (es.map fun e => (getD s1 e.name, getD s2 e.name))[i]? = some p → k[i]? = some x → btw p x)
        (fun k hk u hu => next_btw nd (fun i e p he hp => by rw [List.getElem?_map, he] at hp; cases hp; rfl) (by rw [List.length_map]) hk.1 hk.2 hu) ih (fun q h => by cases h) q hq
  exact fun n q hq => mem_box (key n q hq).1 (key n q hq).2
theorem nodup_sub {α : Type} [DecidableEq α] : ∀ {l m : List α}, l.Nodup → (∀ x ∈ l, x ∈ m) → l.length ≤ m.length
  | [], _, _, _ => Nat.zero_le _
  | a :: l, m, nd, h => by
    obtain ⟨h1, h2⟩ := List.nodup_cons.mp nd
    have hm := h a (List.mem_cons_self ..)
    have ih := nodup_sub (l := l) (m := m.erase a) h2 fun x hx => (List.mem_erase_of_ne (fun z => h1 (by rw [← z]; exact hx))).mpr (h x (List.mem_cons_of_mem _ hx))
    have hl := List.length_erase_of_mem hm
    have hp := List.length_pos_of_mem hm
    rw [List.length_cons]
    omega
theorem perm_sumI {l m : List Int} (p : l.Perm m) : l.sum = m.sum := by
  induction p with
  | nil => rfl
  | cons x _ ih => rw [List.sum_cons, List.sum_cons, ih]
  | swap x y l =>
    rw [List.sum_cons, List.sum_cons, List.sum_cons, List.sum_cons]
    omega
  | trans _ _ a b => rw [a, b]
theorem few_ways {es : List Ent} {st s1 s2 : Num} (nd : (es.map (·.name)).Nodup) (hd : distI es s1 s2 ≤ 16) : FewW es st s1 s2 := by
  refine ⟨by omega, fun es' hp ho n _ => ?_⟩
  have nd' : (es'.map (·.name)).Nodup := (hp.map _).nodup_iff.mpr nd
  have h1 := nodup_sub (waysW_nodup (es := es') (st := st) (goal := numOf es' (getD s2)) (v := es'.map fun e => getD s1 e.name) n) (m := boxL (es'.map fun e => (getD s1 e.name, getD s2 e.name))) fun k hk => by
    obtain ⟨q, hq, rfl⟩ := List.mem_map.mp hk
    exact ways_btw nd' n q hq
  rw [List.length_map] at h1
  have h2 := box_len (es'.map fun e => (getD s1 e.name, getD s2 e.name))
  have h3 : ((((es'.map fun e => (getD s1 e.name, getD s2 e.name)).map fun p => (p.2 - p.1).natAbs).sum : Nat) : Int) = distI es s1 s2 := by
    have e1 : ∀ l : List Ent, ((((l.map fun e => (getD s1 e.name, getD s2 e.name)).map fun p => (p.2 - p.1).natAbs).sum : Nat) : Int) = distI l s1 s2 := by
      intro l
      induction l with
      | nil => rfl
      | cons e l ih =>
        unfold distI at ih ⊢
        rw [List.map_cons, List.map_cons, List.sum_cons, List.map_cons, List.sum_cons, ← ih]
        rw [Int.natCast_add]
        show ((getD s2 e.name - getD s1 e.name).natAbs : Int) + _ = absI (getD s1 e.name - getD s2 e.name) + _
        unfold absI
        split <;> omega
    rw [e1]
    unfold distI
    exact perm_sumI (hp.map _)
  have h4 : 2 ^ ((es'.map fun e => (getD s1 e.name, getD s2 e.name)).map fun p => (p.2 - p.1).natAbs).sum ≤ 2 ^ 16 := Nat.pow_le_pow_right (by decide) (by omega)
  have h5 : (2 : Nat) ^ 16 = 65536 := by decide
  omega
end Sk
namespace Sk
open PySem PySem.Spec PyProof.Rows L2
abbrev s_law : Stmt := topS 47
abbrev N_law : List Str := ["script", "bag", "turn", "fine", "names", "supply", "ends", "number", "pool", "due", "which", "taken", "handed", "entry"]
theorem sc_law : FnScope N_law ["script"] (defScope s_law) := ⟨rfl, rfl, rfl, by decide +kernel, rfl, by decide +kernel, by decide +kernel⟩
def sp_law (Tb : List (Addr × Str)) (K : PySem.W.Frag) : Sp := fun vs H Q _ => ∃ (a : Addr) (ns : List Int), vs = [.ref a] ∧ SqL K H a (ns.map V.int) ∧ ns.length ≤ 63 ∧ LamX.Tabs Tb H ∧ ∀ H', Q (.bl true) H'
theorem sq_fz {K : PySem.W.Frag} {H : Hp} {a : Addr} {xs : List V} (h : SqL K H a xs) : ∃ G, Fz G H ∧ SqL K G a xs := by
  rcases h with (z | ⟨o, z⟩) | z
  · exact ⟨upd (fun _ => none) a (.lst xs), Fz.emp.add z .lst, .inl (.inl upd_same)⟩
  · exact ⟨upd (fun _ => none) a (.frz o (.lst xs)), Fz.emp.add z .frz, .inl (.inr ⟨o, upd_same⟩)⟩
  · exact ⟨_, Fz.emp, .inr z⟩
theorem SpoC.sized {es es' : List Ent} (h : SpoC es es') (hl : es.length ≤ 50) : Sized es' := ⟨by have := h.len; omega, fun e he => ⟨Nat.le_trans (h.ent e he).1 (by decide), Nat.le_trans (h.ent e he).2 (by decide)⟩⟩
theorem stock_of {es : List Ent} {st : Num} (nd : (st.map (·.1)).Nodup) (few : st.length < 64) (nb : ∀ q ∈ st, ¬ badSt es st q.1) : StockOk es st :=
  ⟨nd, few, fun q hq => Decidable.byContradiction fun z => nb q hq (.inl z), fun q hq => Int.not_lt.mp fun z => nb q hq (.inr (by rw [getD_mem nd hq]; exact z))⟩
theorem spo_same {es es' : List Ent} {d st : Num} {nms : List Str} (hm : MadeC es) (sc : SpoC es es') (sn : SpoN nms d st) (v : Valid es') (so : StockOk es' st) : es' = es ∧ st = d := by
  have e1 : es' = es := sc.val.resolve_right fun z => z v
  subst e1
  refine ⟨rfl, sn.ok.resolve_right ?_⟩
  rintro ⟨q, hq, z⟩
  obtain ⟨e, he, e2⟩ := List.mem_map.mp (so.known q hq)
  rcases z with z | z | z
  · exact (hm.nob e he).1 (e2.trans z)
  · exact (hm.nob e he).2 (e2.trans z)
  · have := so.pos q hq
    omega
theorem spo_str {es : List Ent} {d st : Num} (hm : MadeC es) (so : StockOk es d) (sn : SpoN (es.map (·.name)) d st) : ∀ q ∈ st, PyData.strOk q.1 = true := fun q hq => by
  have kn : ∀ x ∈ es.map (·.name), PyData.strOk x = true := fun x hx => by
    obtain ⟨e, he, rfl⟩ := List.mem_map.mp hx
    exact nameB_strOk (hm.v.names e he)
  rcases sn.ent q hq with z | ⟨z | z | z, _⟩
  · exact kn _ (so.known q z)
  · exact kn _ z
  · rw [z]; decide +kernel
  · rw [z]; decide +kernel
theorem oc_ok2 {es : List Ent} {st s1 s2 : Num} {o : Oc} (hs : ∀ q ∈ st, PyData.strOk q.1 = true) (h1 : ∀ q ∈ s1, PyData.strOk q.1 = true) (h2 : ∀ q ∈ s2, PyData.strOk q.1 = true) (h : Oc2 es st s1 s2 o) : OcOk o := by
  have bad : ∀ {sp : Num} {x : Str}, Valid es → (∀ q ∈ sp, PyData.strOk q.1 = true) → BadSp es st sp x → PyData.strOk x = true := fun {sp x} v hk b => by
    rcases b with b | ⟨_, es', i, e, hp, _, he, z, _⟩
    · obtain ⟨q, hq, z⟩ := List.mem_map.mp b.1
      rw [← z]
      exact hk q hq
    · rw [← z]
      exact nameB_strOk (v.names e (hp.mem_iff.mp (List.mem_of_getElem? he)))
  cases o with
  | stock x =>
    obtain ⟨q, hq, z⟩ := List.mem_map.mp h.2.1
    show PyData.strOk x = true
    rw [← z]
    exact hs q hq
  | splits x =>
    obtain ⟨v, so, h⟩ := h
    rcases h with h | ⟨_, h⟩
    · exact bad v h1 h
    · exact bad v h2 h
  | _ => exact trivial
theorem dist_tot {es es' : List Ent} {d s1 s2 : Num} (S : Sit es es' d) (o1 : SplitsOk es d s1) (o2 : SplitsOk es d s2) : distI es s1 s2 ≤ totI es' d := by
  have e1 : distI es s1 s2 = (es'.map fun e => absI (getD s1 e.name - getD s2 e.name)).sum := by
    unfold distI
    exact (perm_sumI (S.hp.map _)).symm
  rw [e1, ← S.tot, sumN_cN]
  refine sumE_le' fun e he => ?_
  obtain ⟨i, hi⟩ := List.mem_iff_getElem?.mp he
  have hl := (List.getElem?_eq_some_iff.mp hi).1
  have v1 := S.vec o1 i hl
  have v2 := S.vec o2 i hl
  rw [cN_at hi] at v1 v2
  have e2 : fullN es' d i = getD (fs es' (getD d)) e.name := cN_at hi _
  rw [e2] at v1 v2
  unfold absI
  split <;> omega
/-- what is known of an end -/
structure EndN (es : List Ent) (c : Num) : Prop where
  nd : (c.map (·.1)).Nodup
  len : c.length ≤ 20
  str : ∀ q ∈ c, PyData.strOk q.1 = true
theorem str_of {es : List Ent} (hm : MadeC es) : ∀ x ∈ es.map (·.name), PyData.strOk x = true := fun x hx => by
  obtain ⟨e, he, rfl⟩ := List.mem_map.mp hx
  exact nameB_strOk (hm.v.names e he)
theorem EndN.of {es : List Ent} {d c : Num} (hm : MadeC es) (hl : es.length ≤ 6) (ok : SplitsOk es d c) : EndN es c ∧ c.length ≤ 6 := by
  have dl := nodup_len (m := es.map (·.name)) ok.nd fun y hy => by
    obtain ⟨q, hq, rfl⟩ := List.mem_map.mp hy
    exact ok.known q hq
  rw [List.length_map, List.length_map] at dl
  exact ⟨⟨ok.nd, by omega, fun q hq => str_of hm _ (ok.known q hq)⟩, by omega⟩
theorem EndN.spo {es : List Ent} {c c' : Num} (hm : MadeC es) (h : EndN es c) (hl : c.length ≤ 6) (s : SpoN (es.map (·.name)) c c') : EndN es c' ∧ c'.length ≤ 8 := by
  refine ⟨⟨s.nd, by have := s.len; omega, fun q hq => ?_⟩, by have := s.len; omega⟩
  rcases s.ent q hq with z | ⟨z | z | z, _⟩
  · exact h.str q z
  · exact str_of hm _ z
  · rw [z]; decide +kernel
  · rw [z]; decide +kernel
theorem EndN.set9 {es : List Ent} {c : Num} (hm : MadeC es) (h : EndN es c) (hl : c.length ≤ 8) {n : Str} (hn : n ∈ es.map (·.name)) (i : Int) : EndN es (put c n i) := by
  refine ⟨put_nodup h.nd, by have := put_len c n i; omega, fun q hq => ?_⟩
  have hk : q.1 ∈ (put c n i).map (·.1) := List.mem_map.mpr ⟨q, hq, rfl⟩
  rcases (put_keys _ _ _ _).mp hk with z | z
  · rw [z]
    exact str_of hm _ hn
  · obtain ⟨q', hq', z⟩ := List.mem_map.mp z
    rw [← z]
    exact h.str q' hq'
theorem ord_ins (e : Ent) : ∀ {l : List Ent}, Ordered l → ∃ l', l'.Perm (e :: l) ∧ Ordered l'
  | [], _ => ⟨[e], List.Perm.refl _, List.pairwise_singleton ..⟩
  | x :: t, h => by
    have O := kLt_swo Ent.key
    obtain ⟨h1, h2⟩ := List.pairwise_cons.mp h
    cases q : kLt x.key e.key with
    | true =>
      obtain ⟨l', p, o⟩ := ord_ins e h2
      refine ⟨x :: l', (p.cons x).trans (List.Perm.swap e x t), List.pairwise_cons.mpr ⟨fun y hy => ?_, o⟩⟩
      rcases List.mem_cons.mp (p.mem_iff.mp hy) with z | z
      · rw [z]
        exact O.asym _ _ q
      · exact h1 y z
    | false =>
      refine ⟨e :: x :: t, List.Perm.refl _, List.pairwise_cons.mpr ⟨fun y hy => ?_, h⟩⟩
      rcases List.mem_cons.mp hy with z | z
      · rw [z]
        exact q
      · exact O.tr _ _ _ q (h1 y z)
theorem exists_ordered : ∀ es : List Ent, ∃ es', es'.Perm es ∧ Ordered es'
  | [] => ⟨[], List.Perm.refl _, List.Pairwise.nil⟩
  | e :: t => by
    obtain ⟨l, p, o⟩ := exists_ordered t
    obtain ⟨l', p', o'⟩ := ord_ins e o
    exact ⟨l', p'.trans (p.cons e), o'⟩
theorem same_refs {H : Hp} : ∀ {ys : List V} {es : List Ent}, CatAt H ys es → Paired SaQ ys ys
  | _, _, .nil => .nil
  | _, _, .cons a t => by
    obtain ⟨x, l, rfl, _⟩ := a
    exact .cons (.inr ⟨x, rfl, rfl⟩) (same_refs t)
section
variable {P : Program} {w : World} {K : PySem.W.Frag} {mg : Str → Option Value} {base : Heap} {Tb : List (Addr × Str)}
theorem ok_law {f : Addr} {fd : FuncData} (F : FnP K "law" s_law f fd) (T : Tx K mg) (G_law_bag : Fn P w K mg base "_law_bag" 1 ["script"] (sp_law_bag Tb K)) (G_law_catalogue : Fn P w K mg base "_law_catalogue" 2 ["bag", "most"] (sp_law_catalogue Tb K)) (G_law_caught : Fn P w K mg base "_law_caught" 9 ["which", "pool", "supply", "one", "two"] (sp_law_caught Tb K)) (G_law_draw : Fn P w K mg base "_law_draw" 1 ["bag", "many"] (sp_law_draw Tb K)) (G_law_due : Fn P w K mg base "_law_due" 3 ["pool", "supply", "one", "two"] (sp_law_due Tb K)) (G_law_small_supply : Fn P w K mg base "_law_small_supply" 3 ["bag", "pool", "most"] (sp_law_small_supply Tb K)) (G_law_splits : Fn P w K mg base "_law_splits" 2 ["bag", "pool", "supply"] (sp_law_splits Tb K)) (G_law_spoilt_catalogue : Fn P w K mg base "_law_spoilt_catalogue" 2 ["bag", "pool"] (sp_law_spoilt_catalogue Tb K)) (G_law_spoilt_numbers : Fn P w K mg base "_law_spoilt_numbers" 2 ["bag", "numbers", "names"] (sp_law_spoilt_numbers Tb K)) : FnG P w K mg base 10 f fd ["script"] (sp_law Tb K) := by
  refine fnG_of F sc_law (fun vs H Q E h => ?_) (fun cdv A outer s H vs Q E hgd hr h => ?_)
  · obtain ⟨_, _, rfl, _⟩ := h
    rfl
  · obtain ⟨a, ns, rfl, ha, hz, ht, k⟩ := h
    refine ⟨_, PSs.nox (pss_cons (ps_set (i := 1) sc_law.nd rfl (Or.inl rfl) (pe_fn G_law_bag (hr.mono (by decide)) (pa_cons (pv 0) pa_nil)))
      (pss_cons (ps_for PassesOwn.never rfl (pi_range1 (by rfl) T.n_range (pa_cons (pe_op op_add pe_int (pe_callB (call_min2 rfl) (by rfl) T.n_min (by decide +kernel) (pa_cons pe_int (pa_cons (pe_callB (lenS (K := K) rfl) (by rfl) T.n_len (by decide +kernel) (pa_cons (pv 0) pa_nil)) pa_nil)))) pa_nil)) (pg_name (i := 2) sc_law.nd rfl (Or.inl rfl)) (pss_cons (ps_set (i := 3) sc_law.nd rfl (Or.inl rfl) (pe_fn G_law_catalogue (hr.mono (by decide)) (pa_cons (pv 1) (pa_cons pe_int pa_nil))))
        (pss_cons (ps_setLc (i := 4) (own := [("entry", 13)]) (g := (gName 13)) (tt := tYes) rfl sc_law.nd rfl rfl (sw_true rfl rfl rfl (by decide +kernel)) (piL (K := K) rfl (pv 3)) (blkOk_by (N := N_law) (sc := (defScope s_law)) (by decide +kernel)) (fun _ _ _ _ _ => (pg_name (i := 13) sc_law.nd rfl (Or.inl rfl))) (fun _ _ _ _ _ => pts_nil) (fun _ _ _ _ _ => (pe_ix (ixT (K := K) rfl) (pv 13) pe_int (fun _ _ => rfl))))
        (pss_cons (ps_set (i := 5) sc_law.nd rfl (Or.inl rfl) (pe_fn G_law_small_supply (hr.mono (by decide)) (pa_cons (pv 1) (pa_cons (pv 3) (pa_cons pe_int pa_nil)))))
        (pss_cons (ps_set (i := 6) sc_law.nd rfl (Or.inl rfl) (pe_lst pa_nil))
        (pss_cons (ps_for PassesOwn.never rfl (pi_range1 (by rfl) T.n_range (pa_cons pe_int pa_nil)) (pg_name (i := 7) sc_law.nd rfl (Or.inl rfl)) (pss_cons (ps_set (i := 11) sc_law.nd rfl (Or.inl rfl) (pe_fn G_law_splits (hr.mono (by decide)) (pa_cons (pv 1) (pa_cons (pv 3) (pa_cons (pv 5) pa_nil)))))
          (pss_cons (ps_if (pt_cmpR op_eq (pe_fn G_law_draw (hr.mono (by decide)) (pa_cons (pv 1) (pa_cons pe_int pa_nil))) pe_int (nomark _)) (pss_one (ps_set (i := 11) sc_law.nd rfl (Or.inl rfl) (pe_fn G_law_spoilt_numbers (hr.mono (by decide)) (pa_cons (pv 1) (pa_cons (pv 11) (pa_cons (pv 4) pa_nil)))))) pss_nil)
          (pss_cons (ps_if (pt_cmpR op_eq (pe_fn G_law_draw (hr.mono (by decide)) (pa_cons (pv 1) (pa_cons pe_int pa_nil))) pe_int (nomark _)) (pss_one (ps_dput (hu_of hr) (pv 11) (pe_ix (ixL (K := K) rfl) (pv 4) (pe_fn G_law_draw (hr.mono (by decide)) (pa_cons (pv 1) (pa_cons (pe_callB (lenS (K := K) rfl) (by rfl) T.n_len (by decide +kernel) (pa_cons (pv 4) pa_nil)) pa_nil))) (fun _ _ => rfl)) pe_int rfl)) pss_nil)
          (pss_one (ps_expr (peBm (K := K) rfl PySem.F.plainAttrs_list PySem.F.slot_list_append PySem.F.type_list_append mt_append (pv 6) (pa_cons (pv 11) pa_nil))))))))
        (pss_cons (ps_set (i := 8) sc_law.nd rfl (Or.inl rfl) (pe_fn G_law_spoilt_catalogue (hr.mono (by decide)) (pa_cons (pv 1) (pa_cons (pv 3) pa_nil))))
        (pss_cons (ps_set (i := 5) sc_law.nd rfl (Or.inl rfl) (pe_fn G_law_spoilt_numbers (hr.mono (by decide)) (pa_cons (pv 1) (pa_cons (pv 5) (pa_cons (pv 4) pa_nil)))))
        (pss_cons (ps_set (i := 9) sc_law.nd rfl (Or.inl rfl) (pe_fn G_law_due (hr.mono (by decide)) (pa_cons (pv 8) (pa_cons (pv 5) (pa_cons (pe_ix (ixL (K := K) rfl) (pv 6) pe_int (fun _ _ => rfl)) (pa_cons (pe_ix (ixL (K := K) rfl) (pv 6) pe_int (fun _ _ => rfl)) pa_nil))))))
        (pss_one (ps_for PassesOwn.never rfl (pi_range1 (by rfl) T.n_range (pa_cons pe_int pa_nil)) (pg_name (i := 10) sc_law.nd rfl (Or.inl rfl)) (pss_cons (ps_set (i := 12) sc_law.nd rfl (Or.inl rfl) (pe_lst (pa_cons (pe_callTy (listOf (K := K) rfl) (by rfl) T.n_list (by decide +kernel) (pa_cons (pv 8) pa_nil)) (pa_cons (pe_callTy call_dictD (by rfl) T.n_dict (by decide +kernel) (pa_cons (pv 5) pa_nil)) (pa_cons (pe_callTy call_dictD (by rfl) T.n_dict (by decide +kernel) (pa_cons (pe_ix (ixL (K := K) rfl) (pv 6) pe_int (fun _ _ => rfl)) pa_nil)) (pa_cons (pe_callTy call_dictD (by rfl) T.n_dict (by decide +kernel) (pa_cons (pe_ix (ixL (K := K) rfl) (pv 6) pe_int (fun _ _ => rfl)) pa_nil)) pa_nil))))))
          (pss_cons (ps_if (pt_cmpR (opNeD (K := K) rfl hr.units) (pe_fn G_law_caught (hr.mono (by decide)) (pa_cons (pv 10) (pa_cons (pe_ix (ixL (K := K) rfl) (pv 12) pe_int (fun _ _ => rfl)) (pa_cons (pe_ix (ixL (K := K) rfl) (pv 12) pe_int (fun _ _ => rfl)) (pa_cons (pe_ix (ixL (K := K) rfl) (pv 12) pe_int (fun _ _ => rfl)) (pa_cons (pe_ix (ixL (K := K) rfl) (pv 12) pe_int (fun _ _ => rfl)) pa_nil)))))) (pv 9) (nomark _)) (pss_one (ps_ret pe_bl)) pss_nil)
          (pss_one (ps_if (pt_cmpR (op_neLs (K := K) rfl hr.units) (pv 12) (pe_lst (pa_cons (pv 8) (pa_cons (pv 5) (pa_cons (pe_ix (ixL (K := K) rfl) (pv 6) pe_int (fun _ _ => rfl)) (pa_cons (pe_ix (ixL (K := K) rfl) (pv 6) pe_int (fun _ _ => rfl)) pa_nil))))) (nomark _)) (pss_one (ps_ret pe_bl)) pss_nil)))))))))))))))
      (pss_one (ps_ret pe_bl)))), ?_⟩
    obtain ⟨G, hf, hg⟩ := sq_fz ha
    refine ⟨_, rfl, a, ns, G, rfl, ha, hz, hf, ht, fun p H1 h1 g1 => ?_⟩
    refine ⟨_, rfl, a, _, rfl, .inl (h1.fz.sub.seq hg), _, _, rfl, _, _, rfl, rfl, _, rfl, ?_, ?_, for_range (lo := 0) (n := (2 + if ((ns.map V.int).length : Int) < 6 then ((ns.map V.int).length : Int) else 6).toNat)
      (fun i σ H' => ∃ s2 s3 s4 s5 s6 s7 s8 s9 s10 s11 s12 s13 : Option V, σ = [some (.ref a), some (.ref p), s2, s3, s4, s5, s6, s7, s8, s9, s10, s11, s12, s13] ∧ Hb Tb p (20000 * i) [] G H') ⟨_, _, _, _, _, _, _, _, _, _, _, _, rfl, h1⟩ ?_ (fun σ H' _ => k H')⟩
    · split <;> omega
    · split <;> omega
    rintro i σ H2 hi ⟨s2, s3, s4, s5, s6, s7, s8, s9, s10, s11, s12, s13, rfl, h2⟩
    have hi9 : i ≤ 9 := by split at hi <;> omega
    clear hi
    refine goN ?_
    dsimp only
    refine ⟨_, rfl, p, _, [], G, 6, rfl, h2, by omega, by decide, by decide, fun r0 H4 G1 ys0 es s1 hc1 hmd hel h6 => ?_⟩
    have hv := hmd.v
    have hfew := hmd.few
    have hc2 : CatAt (upd G1 r0 (.lst ys0)) ys0 es := hc1.mono (Same.upd h6.cfree)
    have a2 : (upd G1 r0 (.lst ys0)) r0 = some (.lst ys0) := upd_same
    have sA : Same G (upd G1 r0 (.lst ys0)) := fun b u e => Same.upd h6.cfree b u (s1 b u e)
    have h7 := h6.freeze
    generalize upd G1 r0 (.lst ys0) = G2 at h7 a2 hc2 sA
    clear h6 h2 s1 hc1
    -- the names
    refine ⟨_, rfl, r0, rfl, ⟨_, SqL.of (h7.fzat a2)⟩, fun D hD => lc_names (Tb := Tb) (SqL.of (h7.fzat a2)) (hc2.mono h7.fz.sub) (by omega) hD rfl fun H6 g6 hD6 => ?_⟩
    have h10 := h7.grow g6 (.of hD) hD6 .lst
    have s4' : Same G2 (upd G2 D (.lst ((es.map (·.name)).map V.str))) := Same.upd h10.cfree
    have c4 : (upd G2 D (.lst ((es.map (·.name)).map V.str))) D = some (.lst ((es.map (·.name)).map V.str)) := upd_same
    have h11 := h10.freeze
    have a4 := s4' _ _ a2
    have hc4 := hc2.mono s4'
    have sC : Same G (upd G2 D (.lst ((es.map (·.name)).map V.str))) := fun b u e => s4' b u (sA b u e)
    generalize upd G2 D (.lst ((es.map (·.name)).map V.str)) = G4 at h11 a4 c4 hc4 sC
    clear h10 h7 s4' a2 hc2 sA g6 hD6 hD
    refine goN ?_
    dsimp only
    refine ⟨_, rfl, _, rfl, p, r0, 7, _, [], G4, ys0, es, rfl, h11, by omega, a4, hc4, hmd, by decide, fun b H5 d so dv dt h8 => ?_⟩
    have b3 : (upd G4 b (.dK (dS d))) b = some (.dK (dS d)) := upd_same
    have s3' : Same G4 (upd G4 b (.dK (dS d))) := Same.upd h8.cfree
    have a3 := s3' _ _ a4
    have c3 := s3' _ _ c4
    have hc3 := hc4.mono s3'
    have sB : Same G (upd G4 b (.dK (dS d))) := fun b u e => s3' b u (sC b u e)
    have h9 := h8.freeze
    generalize upd G4 b (.dK (dS d)) = G3 at h9 a3 hc3 b3 c3 sB
    clear h8 h11 s3' hc4 a4 c4 sC
    have dl := nodup_len (m := es.map (·.name)) so.nd fun y hy => by
      obtain ⟨q, hq, rfl⟩ := List.mem_map.mp hy
      exact so.known q hq
    rw [List.length_map, List.length_map] at dl
    have nmne : es.map (·.name) ≠ [] := fun z => hv.ne (List.map_eq_nil_iff.mp z)
    have nml : 0 < (es.map (·.name)).length := List.length_pos_iff.mpr nmne
    have nml6 : (es.map (·.name)).length ≤ 6 := by rw [List.length_map]; omega
    -- the ends
    refine goN ?_
    dsimp only
    refine ⟨Nat.zero_le _, fun F hF => ?_⟩
    have hE0 := h9.new hF (.lst (xs := []))
    generalize upd H5 F (.lst []) = H6 at hE0
    refine goN ?_
    dsimp only
    refine sq_st (fun σ H' => ∃ (x1 x2 : Addr) (e1 e2 : Num) (s7 s11 : Option V), σ = [some (.ref a), some (.ref p), some (.int (0 + (i : Int))), some (.ref r0), some (.ref D), some (.ref b), some (.ref F), s7, s8, s9, s10, s11, s12, s13] ∧ EndN es e1 ∧ EndN es e2 ∧ Hb Tb p (20000 * i + 10000) [(x2, .dK (dS e2)), (x1, .dK (dS e1)), (F, .lst [.ref x1, .ref x2])] G3 H') (fun N hN => ?_) ?_
    · refine ⟨_, rfl, by decide, by decide, for_range (lo := 0) (n := 2) (fun j σ H' => ∃ (ps : List (Addr × Num)) (s7 s11 : Option V), σ = [some (.ref a), some (.ref p), some (.int (0 + (i : Int))), some (.ref r0), some (.ref D), some (.ref b), some (.ref F), s7, s8, s9, s10, s11, s12, s13] ∧ ps.length = j ∧ (∀ q ∈ ps, EndN es q.2) ∧ Hb Tb p (20000 * i + 3000 + 3000 * j) ((ps.reverse.map fun q => (q.1, HO.dK (dS q.2))) ++ [(F, .lst (ps.map fun q => V.ref q.1))]) G3 H')
        ⟨[], _, _, rfl, rfl, fun q hq => (by cases hq), hE0.mono (by omega)⟩ ?_ ?_⟩
      · rintro j σ H7 hj ⟨ps, s7, s11, rfl, hps, hen, h12⟩
        refine goN ?_
        dsimp only
        refine ⟨_, rfl, _, rfl, _, rfl, p, r0, b, _, _, G3, ys0, es, d, rfl, h12, by omega, a3, b3, hc3, hmd, so, (fun q hq => Int.le_trans (dv q hq) (by decide)), fun t H8 c okc _ h13 => ?_⟩
        obtain ⟨en0, el0⟩ := EndN.of hmd (by omega) okc
        refine goN ?_
        dsimp only
        generalize hL : (ps.reverse.map fun q => (q.1, HO.dK (dS q.2))) ++ [(F, HO.lst (ps.map fun q => V.ref q.1))] = L at h13
        refine sq_st (fun σ H' => ∃ (t : Addr) (c : Num), σ = [some (.ref a), some (.ref p), some (.int (0 + (i : Int))), some (.ref r0), some (.ref D), some (.ref b), some (.ref F), some (.int (0 + (j : Int))), s8, s9, s10, some (.ref t), s12, s13] ∧ EndN es c ∧ c.length ≤ 8 ∧ Hb Tb p (20000 * i + 3000 + 3000 * j + 2100) ((t, .dK (dS c)) :: L) G3 H') (fun N2 hN2 => ?_) ?_
        · refine ⟨_, rfl, p, _, _, G3, 3, rfl, h13, by omega, by decide, by decide, fun v H9 _ _ h14 => ⟨rfl, _, rfl, ?_⟩⟩
          refine ite2 (fun _ => ?_) (fun _ => ?_)
          · have ct : (upd G3 t (.dK (dS c))) t = some (.dK (dS c)) := upd_same
            have st' : Same G3 (upd G3 t (.dK (dS c))) := Same.upd h14.cfree
            have h15 := h14.freeze
            refine ⟨_, rfl, _, rfl, _, rfl, p, t, D, _, _, _, c, es.map (·.name), rfl, h15, by omega, ct, st' _ _ c3, nmne, by omega, en0.nd, by omega, fun r H10 c' spn h16 => ?_⟩
            obtain ⟨en1, el1⟩ := EndN.spo hmd en0 el0 spn
            exact hN2 _ _ ⟨r, c', rfl, en1, el1, (h16.less st').mono (by omega)⟩
          · exact hN2 _ _ ⟨t, c, rfl, en0, by omega, h14.mono (by omega)⟩
        clear h13 en0 el0
        rintro σ H9 ⟨t, c, rfl, en0, el0, h13⟩
        refine sq_st (fun σ H' => ∃ (c : Num), σ = [some (.ref a), some (.ref p), some (.int (0 + (i : Int))), some (.ref r0), some (.ref D), some (.ref b), some (.ref F), some (.int (0 + (j : Int))), s8, s9, s10, some (.ref t), s12, s13] ∧ EndN es c ∧ Hb Tb p (20000 * i + 3000 + 3000 * j + 2200) ((t, .dK (dS c)) :: L) G3 H') (fun N2 hN2 => ?_) ?_
        · refine ⟨_, rfl, p, _, _, G3, 6, rfl, h13, by omega, by decide, by decide, fun v H10 _ _ h14 => ⟨rfl, _, rfl, ?_⟩⟩
          refine ite2 (fun _ => ?_) (fun _ => ?_)
          · have hDH := h14.fzat c3
            refine ⟨_, rfl, _, rfl, _, rfl, _, rfl, D, _, rfl, .inl (SqL.of hDH), p, _, _, G3, (((es.map (·.name)).map V.str).length : Int), rfl, h14, by omega, by rw [List.length_map]; omega, by rw [List.length_map]; exact Int.lt_of_le_of_lt (show _ ≤ (6 : Int) by omega) (by decide), fun v2 H11 v20 v21 h15 => ?_⟩
            obtain ⟨w2, hw2, ew2⟩ := pick_at v20 v21
            obtain ⟨nm, hnm, rfl⟩ := List.mem_map.mp hw2
            have ht15 := h15.get (i := 0) rfl
            refine ⟨D, _, v2, .str nm, rfl, rfl, SqL.of (h15.fzat c3), ew2, t, _, rfl, dputS ht15 (by rw [sizeLine_eq]; omega), ?_⟩
            exact hN2 _ _ ⟨put c nm 9, rfl, EndN.set9 hmd en0 el0 hnm 9, (h15.put (i := 0) rfl .dK).mono (by omega)⟩
          · exact hN2 _ _ ⟨c, rfl, en0, h14.mono (by omega)⟩
        clear h13 en0 el0
        rintro σ H10 ⟨c, rfl, en0, h13⟩
        subst hL
        have hFH : H10 F = some (.lst (ps.map fun q => V.ref q.1)) := (h13.cel (F, .lst (ps.map fun q => V.ref q.1)) (List.mem_cons_of_mem _ (List.mem_append_right _ (List.mem_singleton.mpr rfl)))).1
        refine ⟨_, rfl, .inl ⟨rfl, _, SqL.of hFH⟩, _, rfl, F, _, _, rfl, rfl, hFH, ?_, ?_⟩
        · rw [List.length_map, hps, sizeLine_eq]
          omega
        refine ⟨ps ++ [(t, c)], _, _, rfl, by rw [List.length_append, hps]; rfl, fun q hq => ?_, ?_⟩
        · rcases List.mem_append.mp hq with z | z
          · exact hen q z
          · rw [List.mem_singleton.mp z]
            exact en0
        · rw [List.reverse_append, List.map_append, List.map_append]
          have h14 := h13.put (i := ((t, HO.dK (dS c)) :: (ps.reverse.map fun q => (q.1, HO.dK (dS q.2)))).length) (a := F) (o := .lst (ps.map fun q => V.ref q.1)) (o' := .lst ((ps.map fun q => V.ref q.1) ++ [.ref t])) (by rw [← List.cons_append, List.getElem?_append_right (Nat.le_refl _), Nat.sub_self]; rfl) .lst
          rw [← List.cons_append, List.set_append_right _ _ (Nat.le_refl _), Nat.sub_self] at h14
          exact h14.mono (by omega)
      · rintro σ H7 ⟨ps, s7, s11, rfl, hps, hen, h12⟩
        obtain ⟨x1, e1, x2, e2, rfl⟩ : ∃ x1 e1 x2 e2, ps = [(x1, e1), (x2, e2)] := by
          match ps, hps with
          | [(a, b), (c, d)], _ => exact ⟨a, b, c, d, rfl⟩
        have h13 : Hb Tb p (20000 * i + 3000 + 3000 * 2) [(x2, .dK (dS e2)), (x1, .dK (dS e1)), (F, .lst [.ref x1, .ref x2])] G3 H7 := h12
        exact hN _ _ ⟨x1, x2, e1, e2, _, _, rfl, hen (x1, e1) (List.mem_cons_self ..), hen (x2, e2) (List.mem_cons_of_mem _ (List.mem_cons_self ..)), h13.mono (by omega)⟩
    clear hE0 h9
    rintro σ H7 ⟨x1, x2, e1, e2, s7, s11, rfl, en1, en2, h12⟩
    have sx2 : Same G3 (upd G3 x2 (.dK (dS e2))) := Same.upd h12.cfree
    have f1 := h12.freeze
    have sx1 : Same (upd G3 x2 (.dK (dS e2))) (upd (upd G3 x2 (.dK (dS e2))) x1 (.dK (dS e1))) := Same.upd f1.cfree
    have f2 := f1.freeze
    have sxF : Same (upd (upd G3 x2 (.dK (dS e2))) x1 (.dK (dS e1))) (upd (upd (upd G3 x2 (.dK (dS e2))) x1 (.dK (dS e1))) F (.lst [.ref x1, .ref x2])) := Same.upd f2.cfree
    have f3 := f2.freeze
    have s3 : Same G3 (upd (upd (upd G3 x2 (.dK (dS e2))) x1 (.dK (dS e1))) F (.lst [.ref x1, .ref x2])) := fun b u e => sxF b u (sx1 b u (sx2 b u e))
    have x2G := sxF _ _ (sx1 _ _ (show (upd G3 x2 (.dK (dS e2))) x2 = some (.dK (dS e2)) from upd_same))
    have x1G := sxF _ _ (show (upd (upd G3 x2 (.dK (dS e2))) x1 (.dK (dS e1))) x1 = some (.dK (dS e1)) from upd_same)
    have FG : (upd (upd (upd G3 x2 (.dK (dS e2))) x1 (.dK (dS e1))) F (.lst [.ref x1, .ref x2])) F = some (.lst [.ref x1, .ref x2]) := upd_same
    generalize upd (upd (upd G3 x2 (.dK (dS e2))) x1 (.dK (dS e1))) F (.lst [.ref x1, .ref x2]) = G5 at f3 s3 x2G x1G FG
    clear f1 f2 sx2 sx1 sxF h12
    have a5 := s3 _ _ a3
    have b5 := s3 _ _ b3
    have c5 := s3 _ _ c3
    have hc5 := hc3.mono s3
    have sD : Same G G5 := fun b u e => s3 b u (sB b u e)
    clear a3 b3 c3 hc3 s3 sB
    -- the catalogue, spoilt
    refine ⟨_, rfl, _, rfl, p, r0, _, [], G5, ys0, es, rfl, f3, by omega, a5, hc5, hmd, fun r H8 G6 ys es' s6 hc6 spc h14 => ?_⟩
    have s7' : Same G6 (upd G6 r (.lst ys)) := Same.upd h14.cfree
    have a7 : (upd G6 r (.lst ys)) r = some (.lst ys) := upd_same
    have s57 : Same G5 (upd G6 r (.lst ys)) := fun b u e => s7' b u (s6 b u e)
    have hc7 := hc6.mono s7'
    have h15 := h14.freeze
    generalize upd G6 r (.lst ys) = G7 at h15 a7 hc7 s57
    have b7 := s57 _ _ b5
    have c7 := s57 _ _ c5
    have x17 := s57 _ _ x1G
    have x27 := s57 _ _ x2G
    have F7 := s57 _ _ FG
    have sE : Same G G7 := fun b u e => s57 b u (sD b u e)
    clear h14 f3 s7' s6 hc6 s57 a5 b5 c5 hc5 x1G x2G FG sD
    -- the numbers, spoilt
    refine goN ?_
    dsimp only
    refine ⟨_, rfl, _, rfl, _, rfl, p, b, D, _, [], G7, d, es.map (·.name), rfl, h15, by omega, b7, c7, nmne, by omega, so.nd, by omega, fun s H9 st spn h16 => ?_⟩
    have s8' : Same G7 (upd G7 s (.dK (dS st))) := Same.upd h16.cfree
    have b8 : (upd G7 s (.dK (dS st))) s = some (.dK (dS st)) := upd_same
    have a8 := s8' _ _ a7
    have hc8 := hc7.mono s8'
    have x18 := s8' _ _ x17
    have x28 := s8' _ _ x27
    have F8 := s8' _ _ F7
    have sG : Same G (upd G7 s (.dK (dS st))) := fun b u e => s8' b u (sE b u e)
    have h17 := h16.freeze
    generalize upd G7 s (.dK (dS st)) = G8 at h17 b8 a8 hc8 x18 x28 F8 sG
    clear h16 h15 s8' a7 hc7 x17 x27 F7 b7 c7 sE
    have cl := spc.len
    have sl := spn.len
    have sz := spc.sized (by omega)
    have few : st.length < 64 := by omega
    have hl8 := Paired.len hc8
    have fw' : Valid es' → StockOk es' st → SplitsOk es' st e1 → SplitsOk es' st e2 → FewW es' st e1 e2 := fun v so' o1 o2 => by
      obtain ⟨q1, q2⟩ := spo_same hmd spc spn v so'
      rw [q1, q2] at o1 o2 ⊢
      obtain ⟨es1, hp1, ho1⟩ := exists_ordered es
      refine few_ways hv.nodup (Int.le_trans (dist_tot ⟨hv, hp1, ho1, so, by omega⟩ o1 o2) (Int.le_trans (dt es1 hp1 ho1) (by decide)))
    have sok := spo_str hmd so spn
    have snd := spn.nd
    refine goN ?_
    dsimp only
    have l1 := en1.len
    have l2 := en2.len
    -- due
    refine ⟨_, rfl, _, rfl, _, rfl, F, _, _, _, rfl, rfl, SqL.of (h17.fzat F8), atI_nat (j := 0) rfl, _, rfl, F, _, _, _, rfl, rfl, SqL.of (h17.fzat F8), atI_nat (j := 1) rfl, r, s, x1, x2, ys, es', st, e1, e2, rfl, SqL.of (h17.fzat a8), hc8.mono h17.fz.sub, h17.fzat b8, h17.fzat x18, h17.fzat x28, h17.tab, sz, by omega, snd, few, en1.nd, by omega, en2.nd, by omega, fun o dv H10 ho hov g10 => ?_⟩
    have h18 := h17.gr g10
    have hs := dO_shaped (oc_ok2 sok en1.str en2.str ho)
    clear h17 g10
    refine goN ?_
    dsimp only
    refine ⟨_, rfl, by decide, by decide, for_range (lo := 0) (n := 3) (fun j σ H' => ∃ s10 s12 : Option V, σ = [some (.ref a), some (.ref p), some (.int (0 + (i : Int))), some (.ref r0), some (.ref D), some (.ref s), some (.ref F), s7, some (.ref r), some dv, s10, s11, s12, s13] ∧ Hb Tb p (20000 * i + 15000) [] G8 H' ∧ OcV H' dv o) ⟨_, _, rfl, h18.mono (by omega), hov⟩ ?_ ?_⟩
    · rintro j σ H11 hj ⟨s10, s12, rfl, h19, hv2⟩
      refine goN ?_
      dsimp only
      have rq : SqL K H11 r ys := SqL.of (h19.fzat a8)
      have hcA : CatAt H11 ys es' := hc8.mono h19.fz.sub
      have sA := h19.fzat b8
      have x1A := h19.fzat x18
      have x2A := h19.fzat x28
      have FA := h19.fzat F8
      have tA := h19.tab
      refine ⟨_, rfl, r, ys, rfl, .inl rq, fun q1 hq1 => ?_⟩
      have n1 := Gr.new (T := Tb) (o := .lst ys) hq1
      have q1C : (upd H11 q1 (.lst ys)) q1 = some (.lst ys) := upd_same
      have g1 := n1
      generalize upd H11 q1 (.lst ys) = HB at n1 q1C g1
      refine ⟨_, rfl, s, dS st, rfl, Rd.of (g1.at sA .dK), fun q2 hq2 => ?_⟩
      have n2 := Gr.new (T := Tb) (o := .dK (dS st)) hq2
      have q2C : (upd HB q2 (.dK (dS st))) q2 = some (.dK (dS st)) := upd_same
      have q1D := n2.at q1C .lst
      have g2 := g1.trans n2
      generalize upd HB q2 (.dK (dS st)) = HC at n2 q2C q1D g2
      refine ⟨_, rfl, F, _, 0, _, rfl, rfl, SqL.of (g2.at FA .lst), atI_nat (j := 0) rfl, x1, dS e1, rfl, Rd.of (g2.at x1A .dK), fun q3 hq3 => ?_⟩
      have n3 := Gr.new (T := Tb) (o := .dK (dS e1)) hq3
      have q3C : (upd HC q3 (.dK (dS e1))) q3 = some (.dK (dS e1)) := upd_same
      have q1E := n3.at q1D .lst
      have q2E := n3.at q2C .dK
      have g3 := g2.trans n3
      generalize upd HC q3 (.dK (dS e1)) = HD at n3 q3C q1E q2E g3
      refine ⟨_, rfl, F, _, 1, _, rfl, rfl, SqL.of (g3.at FA .lst), atI_nat (j := 1) rfl, x2, dS e2, rfl, Rd.of (g3.at x2A .dK), fun q4 hq4 => ?_⟩
      refine ⟨by show 4 ≤ sizeLine; decide, fun hh hhn => ?_⟩
      have m1 := Gr.new (T := Tb) (o := .dK (dS e2)) hq4
      have m2 := Gr.new (T := Tb) (o := .lst [.ref q1, .ref q2, .ref q3, .ref q4]) hhn
      have m3 := m1.trans m2
      have q4F := m2.at (show (upd HD q4 (.dK (dS e2))) q4 = some (.dK (dS e2)) from upd_same) .dK
      have hhF : (upd (upd HD q4 (.dK (dS e2))) hh (.lst [.ref q1, .ref q2, .ref q3, .ref q4])) hh = some (.lst [.ref q1, .ref q2, .ref q3, .ref q4]) := upd_same
      have q1F := m3.at q1E .lst
      have q2F := m3.at q2E .dK
      have q3F := m3.at q3C .dK
      have g4 := g3.trans m3
      generalize upd (upd HD q4 (.dK (dS e2))) hh (.lst [.ref q1, .ref q2, .ref q3, .ref q4]) = HE at q4F hhF q1F q2F q3F g4
      clear n1 n2 n3 m1 m2 m3 q1C q1D q1E q2C q2E q3C g1 g2 g3
      refine goN ?_
      dsimp only
      refine ⟨_, rfl, _, rfl, hh, _, 0, _, rfl, rfl, SqL.of hhF, atI_nat (j := 0) rfl, _, rfl, hh, _, 1, _, rfl, rfl, SqL.of hhF, atI_nat (j := 1) rfl, _, rfl, hh, _, 2, _, rfl, rfl, SqL.of hhF, atI_nat (j := 2) rfl, _, rfl, hh, _, 3, _, rfl, rfl, SqL.of hhF, atI_nat (j := 3) rfl, ?_⟩
      refine ⟨0 + (j : Int), q1, q2, q3, q4, ys, es', st, e1, e2, rfl, SqL.of q1F, CatAt.gr g4 hcA, q2F, q3F, q4F, g4.tab tA, sz, snd, few, en1.nd, by omega, en2.nd, by omega, fw', fun o2 v2 HG ho2 hov2 gG => ?_⟩
      obtain rfl := Oc2.uniq ho ho2
      have g5 := g4.trans gG
      have hv5 := hv2.gr g5
      refine ⟨_, rfl, dO o, dO o, hov2.dp, hv5.dp, hs, hs, _, rfl, iteFb (by rw [dO_eqv]; rfl) ?_⟩
      have FE := g5.at FA .lst
      refine ⟨_, rfl, _, rfl, _, rfl, _, rfl, F, _, 0, _, rfl, rfl, SqL.of FE, atI_nat (j := 0) rfl, _, rfl, F, _, 1, _, rfl, rfl, SqL.of FE, atI_nat (j := 1) rfl, by show 4 ≤ sizeLine; decide, fun l9 hl9 => ?_⟩
      have g9 := Gr.new (T := Tb) (o := .lst [.ref r, .ref s, .ref x1, .ref x2]) hl9
      have gM := gG.trans g9
      have gA := g4.trans gM
      refine ⟨hh, l9, [.ref q1, .ref q2, .ref q3, .ref q4], [.ref r, .ref s, .ref x1, .ref x2], rfl, rfl, SqL.of (gM.at hhF .lst), SqL.of upd_same, .cons (.inr (.inr ⟨q1, r, ys, ys, rfl, rfl, SqL.of (gM.at q1F .lst), gA.ext_seq rq, same_refs hcA⟩)) (.cons (.inr (.inl ⟨q2, s, st, st, rfl, rfl, gM.at q2F .dK, gA.at sA .dK, eqNum_refl snd⟩)) (.cons (.inr (.inl ⟨q3, x1, e1, e1, rfl, rfl, gM.at q3F .dK, gA.at x1A .dK, eqNum_refl en1.nd⟩)) (.cons (.inr (.inl ⟨q4, x2, e2, e2, rfl, rfl, gM.at q4F .dK, gA.at x2A .dK, eqNum_refl en2.nd⟩)) .nil))), _, rfl, ?_⟩
      refine iteFb rfl ?_
      exact ⟨_, _, rfl, h19.gr gA, hv2.gr gA⟩
    · rintro σ H11 ⟨s10, s12, rfl, h19, _⟩
      exact ⟨_, _, _, _, _, _, _, _, _, _, _, _, rfl, (h19.less sG).mono (by omega)⟩
end
end Sk
set_option maxHeartbeats 0
namespace Sk
open PySem PySem.Spec PyProof.Rows L2
def dfD (i : Nat) (x : Str) : He.DefD := ⟨(x, none), x, x, defArgs (topS i), defBody (topS i), defScope (topS i), [], []⟩
def dfM (i j : Nat) (m q : Str) (ds : List He.Dv) : He.DefD := ⟨("Store", some m), m, q, defArgs (inClass (topS i) j), defBody (inClass (topS i) j), defScope (inClass (topS i) j), ds, []⟩
def hfn : List He.DefD := [⟨("InvalidCatalogue", some "__init__"), "__init__", "InvalidCatalogue.__init__", defArgs (inClass (topS 2) 0), defBody (inClass (topS 2) 0), defScope (inClass (topS 2) 0), [], []⟩, ⟨("InvalidStock", some "__init__"), "__init__", "InvalidStock.__init__", defArgs (inClass (topS 3) 0), defBody (inClass (topS 3) 0), defScope (inClass (topS 3) 0), [], []⟩, ⟨("InvalidSplits", some "__init__"), "__init__", "InvalidSplits.__init__", defArgs (inClass (topS 4) 0), defBody (inClass (topS 4) 0), defScope (inClass (topS 4) 0), [], []⟩, dfD 12 "is_name", dfD 13 "is_entry", dfD 14 "check_catalogue", dfD 15 "ordered", dfD 16 "piece_numbers", dfD 17 "check_stock", dfD 18 "check_splits", dfD 22 "check_ends", dfD 23 "distance", dfD 24 "way", dfD 25 "is_valid", dfD 26 "next_splits", dfD 27 "count_ways", dfD 29 "_law_bag", dfD 30 "_law_draw", dfD 31 "_law_catalogue", dfD 32 "_law_order", dfD 33 "_law_pieces", dfD 35 "_law_total", dfD 36 "_law_small_supply", dfD 38 "_law_splits", dfD 40 "_law_spoilt_catalogue", dfD 41 "_law_catalogue_fault", dfD 42 "_law_spoilt_numbers", dfD 43 "_law_stock_fault", dfD 44 "_law_splits_fault", dfD 45 "_law_caught", dfD 46 "_law_due", dfD 47 "law"]
def hfa : List He.Fa := [.glo "is_name", .glo "is_entry", .glo "check_catalogue", .glo "ordered", .glo "piece_numbers", .glo "check_stock", .glo "check_splits", .glo "check_ends", .glo "distance", .glo "way", .glo "is_valid", .glo "next_splits", .glo "count_ways", .glo "_law_bag", .glo "_law_draw", .glo "_law_catalogue", .glo "_law_order", .glo "_law_pieces", .glo "_law_total", .glo "_law_small_supply", .glo "_law_splits", .glo "_law_spoilt_catalogue", .glo "_law_catalogue_fault", .glo "_law_spoilt_numbers", .glo "_law_stock_fault", .glo "_law_splits_fault", .glo "_law_caught", .glo "_law_due", .glo "law", .free "ValueError", .free "abs", .free "all", .free "any", .free "bool", .free "dict", .free "enumerate", .free "int", .free "isinstance", .free "len", .free "list", .free "max", .free "min", .free "range", .free "repr", .free "reversed", .free "set", .free "sorted", .free "str", .free "sum", .free "tuple", .free "type", .free "zip", .str "LETTERS" "abcdefghijklmnopqrstuvwxyz", .int "MOST_LETTERS" 8, .str "SPLIT" "split", .str "UNDO" "undo", .glo "InvalidCatalogue", .glo "InvalidNumber", .glo "InvalidSplits", .glo "InvalidStep", .glo "InvalidStock", .glo "InvalidText", .glo "StoreError", .glo "TooManySteps"]
def htf : List He.Defn := [("ordered", none)]
abbrev hR : PySem.W.OpenRow := PySem.W.OpenLaw.row PySem.Challenge.rw_splitstock_k29_ways_errors
def hEx (K : PySem.W.Frag) : Bool := sbB K (He.ga K "StoreError") && (xcB K (He.ga K "InvalidCatalogue") && (xcB K (He.ga K "InvalidSplits") && (xcB K (He.ga K "InvalidStock") && (kiAll K ["InvalidCatalogue", "InvalidStock", "InvalidSplits", "InvalidStep", "InvalidNumber", "TooManySteps", "InvalidText"] "StoreError"))))
abbrev hHk : PySem.W.Hook := hookC 4 hfa hfn htf hEx
def hOb (s : PySem.W.SharedT) : He.AlX := obsC 4 hfa hfn htf hEx (HandSHeadRun.getT s)
theorem hOb_eq (s : PySem.W.SharedT) : hOb s = hHk.obs s.abs := obsC_eq (HandSHeadRun.getT_eq s)
def hLoose : List Str := ("StoreError" : Str) :: ("InvalidCatalogue" : Str) :: ("InvalidStock" : Str) :: ("InvalidSplits" : Str) :: ("InvalidStep" : Str) :: ("InvalidNumber" : Str) :: ("TooManySteps" : Str) :: ("InvalidText" : Str) :: ("LETTERS" : Str) :: ("MOST_LETTERS" : Str) :: ("is_name" : Str) :: ("is_entry" : Str) :: ("check_catalogue" : Str) :: ("ordered" : Str) :: ("piece_numbers" : Str) :: ("check_stock" : Str) :: ("check_splits" : Str) :: ("SPLIT" : Str) :: ("UNDO" : Str) :: ("check_ends" : Str) :: ("distance" : Str) :: ("way" : Str) :: ("is_valid" : Str) :: ("next_splits" : Str) :: ("count_ways" : Str) :: ("_law_bag" : Str) :: ("_law_draw" : Str) :: ("_law_catalogue" : Str) :: ("_law_order" : Str) :: ("_law_pieces" : Str) :: ("_law_is_valid" : Str) :: ("_law_total" : Str) :: ("_law_small_supply" : Str) :: ("_law_great_supply" : Str) :: ("_law_splits" : Str) :: ("_law_clean" : Str) :: ("_law_spoilt_catalogue" : Str) :: ("_law_catalogue_fault" : Str) :: ("_law_spoilt_numbers" : Str) :: ("_law_stock_fault" : Str) :: ("_law_splits_fault" : Str) :: ("_law_caught" : Str) :: ("_law_due" : Str) :: []
theorem hRun (w : World) : HandSHeadRun.RunEq hR (PySem.W.view hR.prog [47]) hHk hOb 4000 hLoose w := by
  intro os
  kernel_rfl
theorem hFacts {w : World} {K : PySem.W.Frag} {h : Heap} {mg : Str → Option Value} {fa : Addr} (X : K.In h) (G : h.Ns mainGlobals mg) (hfa0 : mg ("law" : Str) = some (.ref fa)) (c : He.SaysX hfa hfn [] htf hEx w h K) : LawG PySem.Challenge.rw_splitstock_k29_ways_errors w K 10 63 "script" mg fa h := by
  have d := c.t.d
  obtain ⟨fd_InvalidCatalogue___init__, F_InvalidCatalogue___init__⟩ := d.def_ 0 (d := ⟨("InvalidCatalogue", some "__init__"), "__init__", "InvalidCatalogue.__init__", defArgs (inClass (topS 2) 0), defBody (inClass (topS 2) 0), defScope (inClass (topS 2) 0), [], []⟩) rfl
  obtain ⟨fd_InvalidStock___init__, F_InvalidStock___init__⟩ := d.def_ 1 (d := ⟨("InvalidStock", some "__init__"), "__init__", "InvalidStock.__init__", defArgs (inClass (topS 3) 0), defBody (inClass (topS 3) 0), defScope (inClass (topS 3) 0), [], []⟩) rfl
  obtain ⟨fd_InvalidSplits___init__, F_InvalidSplits___init__⟩ := d.def_ 2 (d := ⟨("InvalidSplits", some "__init__"), "__init__", "InvalidSplits.__init__", defArgs (inClass (topS 4) 0), defBody (inClass (topS 4) 0), defScope (inClass (topS 4) 0), [], []⟩) rfl
  obtain ⟨fd_is_name, F_is_name⟩ := d.def_ 3 (d := dfD 12 "is_name") rfl
  have g_is_name := He.glo_ok X G (d.fact 0 (f := .glo "is_name") rfl)
  obtain ⟨fd_is_entry, F_is_entry⟩ := d.def_ 4 (d := dfD 13 "is_entry") rfl
  have g_is_entry := He.glo_ok X G (d.fact 1 (f := .glo "is_entry") rfl)
  obtain ⟨fd_check_catalogue, F_check_catalogue⟩ := d.def_ 5 (d := dfD 14 "check_catalogue") rfl
  have g_check_catalogue := He.glo_ok X G (d.fact 2 (f := .glo "check_catalogue") rfl)
  obtain ⟨fd_ordered, F_ordered⟩ := d.def_ 6 (d := dfD 15 "ordered") rfl
  have g_ordered := He.glo_ok X G (d.fact 3 (f := .glo "ordered") rfl)
  obtain ⟨fd_piece_numbers, F_piece_numbers⟩ := d.def_ 7 (d := dfD 16 "piece_numbers") rfl
  have g_piece_numbers := He.glo_ok X G (d.fact 4 (f := .glo "piece_numbers") rfl)
  obtain ⟨fd_check_stock, F_check_stock⟩ := d.def_ 8 (d := dfD 17 "check_stock") rfl
  have g_check_stock := He.glo_ok X G (d.fact 5 (f := .glo "check_stock") rfl)
  obtain ⟨fd_check_splits, F_check_splits⟩ := d.def_ 9 (d := dfD 18 "check_splits") rfl
  have g_check_splits := He.glo_ok X G (d.fact 6 (f := .glo "check_splits") rfl)
  obtain ⟨fd_check_ends, F_check_ends⟩ := d.def_ 10 (d := dfD 22 "check_ends") rfl
  have g_check_ends := He.glo_ok X G (d.fact 7 (f := .glo "check_ends") rfl)
  obtain ⟨fd_distance, F_distance⟩ := d.def_ 11 (d := dfD 23 "distance") rfl
  have g_distance := He.glo_ok X G (d.fact 8 (f := .glo "distance") rfl)
  obtain ⟨fd_way, F_way⟩ := d.def_ 12 (d := dfD 24 "way") rfl
  have g_way := He.glo_ok X G (d.fact 9 (f := .glo "way") rfl)
  obtain ⟨fd_is_valid, F_is_valid⟩ := d.def_ 13 (d := dfD 25 "is_valid") rfl
  have g_is_valid := He.glo_ok X G (d.fact 10 (f := .glo "is_valid") rfl)
  obtain ⟨fd_next_splits, F_next_splits⟩ := d.def_ 14 (d := dfD 26 "next_splits") rfl
  have g_next_splits := He.glo_ok X G (d.fact 11 (f := .glo "next_splits") rfl)
  obtain ⟨fd_count_ways, F_count_ways⟩ := d.def_ 15 (d := dfD 27 "count_ways") rfl
  have g_count_ways := He.glo_ok X G (d.fact 12 (f := .glo "count_ways") rfl)
  obtain ⟨fd_law_bag, F_law_bag⟩ := d.def_ 16 (d := dfD 29 "_law_bag") rfl
  have g_law_bag := He.glo_ok X G (d.fact 13 (f := .glo "_law_bag") rfl)
  obtain ⟨fd_law_draw, F_law_draw⟩ := d.def_ 17 (d := dfD 30 "_law_draw") rfl
  have g_law_draw := He.glo_ok X G (d.fact 14 (f := .glo "_law_draw") rfl)
  obtain ⟨fd_law_catalogue, F_law_catalogue⟩ := d.def_ 18 (d := dfD 31 "_law_catalogue") rfl
  have g_law_catalogue := He.glo_ok X G (d.fact 15 (f := .glo "_law_catalogue") rfl)
  obtain ⟨fd_law_order, F_law_order⟩ := d.def_ 19 (d := dfD 32 "_law_order") rfl
  have g_law_order := He.glo_ok X G (d.fact 16 (f := .glo "_law_order") rfl)
  obtain ⟨fd_law_pieces, F_law_pieces⟩ := d.def_ 20 (d := dfD 33 "_law_pieces") rfl
  have g_law_pieces := He.glo_ok X G (d.fact 17 (f := .glo "_law_pieces") rfl)
  obtain ⟨fd_law_total, F_law_total⟩ := d.def_ 21 (d := dfD 35 "_law_total") rfl
  have g_law_total := He.glo_ok X G (d.fact 18 (f := .glo "_law_total") rfl)
  obtain ⟨fd_law_small_supply, F_law_small_supply⟩ := d.def_ 22 (d := dfD 36 "_law_small_supply") rfl
  have g_law_small_supply := He.glo_ok X G (d.fact 19 (f := .glo "_law_small_supply") rfl)
  obtain ⟨fd_law_splits, F_law_splits⟩ := d.def_ 23 (d := dfD 38 "_law_splits") rfl
  have g_law_splits := He.glo_ok X G (d.fact 20 (f := .glo "_law_splits") rfl)
  obtain ⟨fd_law_spoilt_catalogue, F_law_spoilt_catalogue⟩ := d.def_ 24 (d := dfD 40 "_law_spoilt_catalogue") rfl
  have g_law_spoilt_catalogue := He.glo_ok X G (d.fact 21 (f := .glo "_law_spoilt_catalogue") rfl)
  obtain ⟨fd_law_catalogue_fault, F_law_catalogue_fault⟩ := d.def_ 25 (d := dfD 41 "_law_catalogue_fault") rfl
  have g_law_catalogue_fault := He.glo_ok X G (d.fact 22 (f := .glo "_law_catalogue_fault") rfl)
  obtain ⟨fd_law_spoilt_numbers, F_law_spoilt_numbers⟩ := d.def_ 26 (d := dfD 42 "_law_spoilt_numbers") rfl
  have g_law_spoilt_numbers := He.glo_ok X G (d.fact 23 (f := .glo "_law_spoilt_numbers") rfl)
  obtain ⟨fd_law_stock_fault, F_law_stock_fault⟩ := d.def_ 27 (d := dfD 43 "_law_stock_fault") rfl
  have g_law_stock_fault := He.glo_ok X G (d.fact 24 (f := .glo "_law_stock_fault") rfl)
  obtain ⟨fd_law_splits_fault, F_law_splits_fault⟩ := d.def_ 28 (d := dfD 44 "_law_splits_fault") rfl
  have g_law_splits_fault := He.glo_ok X G (d.fact 25 (f := .glo "_law_splits_fault") rfl)
  obtain ⟨fd_law_caught, F_law_caught⟩ := d.def_ 29 (d := dfD 45 "_law_caught") rfl
  have g_law_caught := He.glo_ok X G (d.fact 26 (f := .glo "_law_caught") rfl)
  obtain ⟨fd_law_due, F_law_due⟩ := d.def_ 30 (d := dfD 46 "_law_due") rfl
  have g_law_due := He.glo_ok X G (d.fact 27 (f := .glo "_law_due") rfl)
  obtain ⟨fd_law, F_law⟩ := d.def_ 31 (d := dfD 47 "law") rfl
  have g_law := He.glo_ok X G (d.fact 28 (f := .glo "law") rfl)
  have g_InvalidCatalogue := He.glo_ok X G (d.fact 56 (f := .glo "InvalidCatalogue") rfl)
  have g_InvalidNumber := He.glo_ok X G (d.fact 57 (f := .glo "InvalidNumber") rfl)
  have g_InvalidSplits := He.glo_ok X G (d.fact 58 (f := .glo "InvalidSplits") rfl)
  have g_InvalidStep := He.glo_ok X G (d.fact 59 (f := .glo "InvalidStep") rfl)
  have g_InvalidStock := He.glo_ok X G (d.fact 60 (f := .glo "InvalidStock") rfl)
  have g_InvalidText := He.glo_ok X G (d.fact 61 (f := .glo "InvalidText") rfl)
  have g_StoreError := He.glo_ok X G (d.fact 62 (f := .glo "StoreError") rfl)
  have g_TooManySteps := He.glo_ok X G (d.fact 63 (f := .glo "TooManySteps") rfl)
  have xx : hEx K = true := c.more
  unfold hEx at xx
  simp only [Bool.and_eq_true, decide_eq_true_eq] at xx
  obtain ⟨x0, x1, x2, x3, x4⟩ := xx
  have e := hfa0.symm.trans g_law
  cases e
  have T : Tx K mg := { n_ValueError := He.free_ok X G (d.fact 29 (f := .free "ValueError") rfl), n_abs := He.free_ok X G (d.fact 30 (f := .free "abs") rfl), n_all := He.free_ok X G (d.fact 31 (f := .free "all") rfl), n_any := He.free_ok X G (d.fact 32 (f := .free "any") rfl), n_bool := He.free_ok X G (d.fact 33 (f := .free "bool") rfl), n_dict := He.free_ok X G (d.fact 34 (f := .free "dict") rfl), n_enumerate := He.free_ok X G (d.fact 35 (f := .free "enumerate") rfl), n_int := He.free_ok X G (d.fact 36 (f := .free "int") rfl), n_isinstance := He.free_ok X G (d.fact 37 (f := .free "isinstance") rfl), n_len := He.free_ok X G (d.fact 38 (f := .free "len") rfl), n_list := He.free_ok X G (d.fact 39 (f := .free "list") rfl), n_max := He.free_ok X G (d.fact 40 (f := .free "max") rfl), n_min := He.free_ok X G (d.fact 41 (f := .free "min") rfl), n_range := He.free_ok X G (d.fact 42 (f := .free "range") rfl), n_repr := He.free_ok X G (d.fact 43 (f := .free "repr") rfl), n_reversed := He.free_ok X G (d.fact 44 (f := .free "reversed") rfl), n_set := He.free_ok X G (d.fact 45 (f := .free "set") rfl), n_sorted := He.free_ok X G (d.fact 46 (f := .free "sorted") rfl), n_str := He.free_ok X G (d.fact 47 (f := .free "str") rfl), n_sum := He.free_ok X G (d.fact 48 (f := .free "sum") rfl), n_tuple := He.free_ok X G (d.fact 49 (f := .free "tuple") rfl), n_type := He.free_ok X G (d.fact 50 (f := .free "type") rfl), n_zip := He.free_ok X G (d.fact 51 (f := .free "zip") rfl), c_LETTERS := He.str_ok X G (d.fact 52 (f := .str "LETTERS" "abcdefghijklmnopqrstuvwxyz") rfl), c_MOST_LETTERS := He.int_ok X G (d.fact 53 (f := .int "MOST_LETTERS" 8) rfl), c_SPLIT := He.str_ok X G (d.fact 54 (f := .str "SPLIT" "split") rfl), c_UNDO := He.str_ok X G (d.fact 55 (f := .str "UNDO" "undo") rfl), sb := sbB_ok x0, xb_InvalidCatalogue := xcB_ok x1, xb_InvalidSplits := xcB_ok x2, xb_InvalidStock := xcB_ok x3, ke := x4, g_InvalidCatalogue := g_InvalidCatalogue, g_InvalidNumber := g_InvalidNumber, g_InvalidSplits := g_InvalidSplits, g_InvalidStep := g_InvalidStep, g_InvalidStock := g_InvalidStock, g_InvalidText := g_InvalidText, g_StoreError := g_StoreError, g_TooManySteps := g_TooManySteps }
  let Tb : List (Addr × Str) := [((He.cT K ("ordered", none)).2, "ordered.<locals>.<lambda>")]
  refine ⟨fd_law, htf.map (He.cT K), sp_law Tb K, fun p hp => ?_, fun p hp => ?_, fun p hp => ?_, fun s v => FunD.bindsA (ps := ["script"]) F_law (fun _ _ _ _ _ _ us hl => match us, hl with | [_], _ => rfl) s [v] rfl, fun H a ns hn _ hH _ hS => ⟨a, ns, rfl, hS, hn, tabs_start fun p hp => ?_, fun _ => rfl⟩, fun base KB GB hTB => ?_⟩
  · obtain ⟨q, hq, rfl⟩ := List.mem_map.mp hp
    exact c.empty q hq
  · obtain ⟨q, hq, rfl⟩ := List.mem_map.mp hp
    exact c.out q hq
  · obtain ⟨q, hq, rfl⟩ := List.mem_map.mp hp
    exact PySem.W.codeHd_of_K X (c.hd q hq)
  · rcases List.mem_cons.mp hp with rfl | hp
    · exact hH _ (List.mem_map.mpr ⟨("ordered", none), by simp [htf], rfl⟩)
    cases hp
  · have O_InvalidCatalogue___init__ : FnOk (PySem.Challenge.rw_splitstock_k29_ways_errors).prog w K mg base CX0 1 (He.ma K (He.ga K "InvalidCatalogue") "__init__") fd_InvalidCatalogue___init__ ["self", "value"] (xinit (He.ga K "InvalidCatalogue")) := ok_InvalidCatalogue___init__ (Tb := Tb) F_InvalidCatalogue___init__ T
    have XC_InvalidCatalogue : Xc (PySem.Challenge.rw_splitstock_k29_ways_errors).prog w K mg base "InvalidCatalogue" := ⟨T.xb_InvalidCatalogue, g_InvalidCatalogue, _, _, O_InvalidCatalogue___init__, FunD.bindsN F_InvalidCatalogue___init__ (fun _ _ _ _ _ _ us hl => match us, hl with | [_, _], _ => rfl), kbn_of (g := fun us ws => [us.getD 0 .none, ws.getD 0 .none]) F_InvalidCatalogue___init__ (fun _ _ _ _ _ _ us ws h1 h2 => match us, h1, ws, h2 with | [_], _, [_], _ => rfl) (fun r1 r2 => .cons (Vals.getD r1 0) (.cons (Vals.getD r2 0) .nil))⟩
    have O_InvalidStock___init__ : FnOk (PySem.Challenge.rw_splitstock_k29_ways_errors).prog w K mg base CX0 1 (He.ma K (He.ga K "InvalidStock") "__init__") fd_InvalidStock___init__ ["self", "value"] (xinit (He.ga K "InvalidStock")) := ok_InvalidStock___init__ (Tb := Tb) F_InvalidStock___init__ T
    have XC_InvalidStock : Xc (PySem.Challenge.rw_splitstock_k29_ways_errors).prog w K mg base "InvalidStock" := ⟨T.xb_InvalidStock, g_InvalidStock, _, _, O_InvalidStock___init__, FunD.bindsN F_InvalidStock___init__ (fun _ _ _ _ _ _ us hl => match us, hl with | [_, _], _ => rfl), kbn_of (g := fun us ws => [us.getD 0 .none, ws.getD 0 .none]) F_InvalidStock___init__ (fun _ _ _ _ _ _ us ws h1 h2 => match us, h1, ws, h2 with | [_], _, [_], _ => rfl) (fun r1 r2 => .cons (Vals.getD r1 0) (.cons (Vals.getD r2 0) .nil))⟩
    have O_InvalidSplits___init__ : FnOk (PySem.Challenge.rw_splitstock_k29_ways_errors).prog w K mg base CX0 1 (He.ma K (He.ga K "InvalidSplits") "__init__") fd_InvalidSplits___init__ ["self", "value"] (xinit (He.ga K "InvalidSplits")) := ok_InvalidSplits___init__ (Tb := Tb) F_InvalidSplits___init__ T
    have XC_InvalidSplits : Xc (PySem.Challenge.rw_splitstock_k29_ways_errors).prog w K mg base "InvalidSplits" := ⟨T.xb_InvalidSplits, g_InvalidSplits, _, _, O_InvalidSplits___init__, FunD.bindsN F_InvalidSplits___init__ (fun _ _ _ _ _ _ us hl => match us, hl with | [_, _], _ => rfl), kbn_of (g := fun us ws => [us.getD 0 .none, ws.getD 0 .none]) F_InvalidSplits___init__ (fun _ _ _ _ _ _ us ws h1 h2 => match us, h1, ws, h2 with | [_], _, [_], _ => rfl) (fun r1 r2 => .cons (Vals.getD r1 0) (.cons (Vals.getD r2 0) .nil))⟩
    have O_is_name : FnOk (PySem.Challenge.rw_splitstock_k29_ways_errors).prog w K mg base CX0 1 (He.fAd K ("is_name", none)) fd_is_name ["text"] (sp_is_name Tb K) := ok_is_name F_is_name T
    have G_is_name : Fn (PySem.Challenge.rw_splitstock_k29_ways_errors).prog w K mg base "is_name" 1 ["text"] (sp_is_name Tb K) := ⟨_, _, O_is_name, g_is_name, F_is_name.kp, F_is_name.bindsN (fun _ _ _ _ _ _ us hl => match us, hl with | [_], _ => rfl)⟩
    have O_is_entry : FnOk (PySem.Challenge.rw_splitstock_k29_ways_errors).prog w K mg base CX0 2 (He.fAd K ("is_entry", none)) fd_is_entry ["entry", "earlier_names", "weights"] (sp_is_entry Tb K) := ok_is_entry F_is_entry T G_is_name
    have G_is_entry : Fn (PySem.Challenge.rw_splitstock_k29_ways_errors).prog w K mg base "is_entry" 2 ["entry", "earlier_names", "weights"] (sp_is_entry Tb K) := ⟨_, _, O_is_entry, g_is_entry, F_is_entry.kp, F_is_entry.bindsN (fun _ _ _ _ _ _ us hl => match us, hl with | [_, _, _], _ => rfl)⟩
    have O_check_catalogue : FnOk (PySem.Challenge.rw_splitstock_k29_ways_errors).prog w K mg base (L2N.CX (PySem.Challenge.rw_splitstock_k29_ways_errors).prog w) 3 (He.fAd K ("check_catalogue", none)) fd_check_catalogue ["catalogue"] (sp_check_catalogue Tb K) := ok_check_catalogue F_check_catalogue T XC_InvalidCatalogue G_is_entry
    have GX_check_catalogue : FnX (PySem.Challenge.rw_splitstock_k29_ways_errors).prog w K mg base "check_catalogue" 3 ["catalogue"] (sp_check_catalogue Tb K) := ⟨_, _, O_check_catalogue, g_check_catalogue, F_check_catalogue.kp, F_check_catalogue.bindsN (fun _ _ _ _ _ _ us hl => match us, hl with | [_], _ => rfl)⟩
    have O_ordered : FnOk (PySem.Challenge.rw_splitstock_k29_ways_errors).prog w K mg base CX0 4 (He.fAd K ("ordered", none)) fd_ordered ["catalogue"] (sp_ordered Tb K) := ok_ordered F_ordered T (lam_code F_ordered) (hTB _ (List.mem_map.mpr ⟨("ordered", none), by simp [htf], rfl⟩)) (by simp [Tb]) (fun p hp e => by simp [Tb] at hp; rw [hp])
    have G_ordered : Fn (PySem.Challenge.rw_splitstock_k29_ways_errors).prog w K mg base "ordered" 4 ["catalogue"] (sp_ordered Tb K) := ⟨_, _, O_ordered, g_ordered, F_ordered.kp, F_ordered.bindsN (fun _ _ _ _ _ _ us hl => match us, hl with | [_], _ => rfl)⟩
    have O_piece_numbers : FnOk (PySem.Challenge.rw_splitstock_k29_ways_errors).prog w K mg base CX0 1 (He.fAd K ("piece_numbers", none)) fd_piece_numbers ["entries", "stock", "splits"] (sp_piece_numbers Tb K) := ok_piece_numbers F_piece_numbers T
    have G_piece_numbers : Fn (PySem.Challenge.rw_splitstock_k29_ways_errors).prog w K mg base "piece_numbers" 1 ["entries", "stock", "splits"] (sp_piece_numbers Tb K) := ⟨_, _, O_piece_numbers, g_piece_numbers, F_piece_numbers.kp, F_piece_numbers.bindsN (fun _ _ _ _ _ _ us hl => match us, hl with | [_, _, _], _ => rfl)⟩
    have O_check_stock : FnOk (PySem.Challenge.rw_splitstock_k29_ways_errors).prog w K mg base (L2N.CX (PySem.Challenge.rw_splitstock_k29_ways_errors).prog w) 3 (He.fAd K ("check_stock", none)) fd_check_stock ["catalogue", "stock"] (sp_check_stock Tb K) := ok_check_stock F_check_stock T XC_InvalidStock
    have GX_check_stock : FnX (PySem.Challenge.rw_splitstock_k29_ways_errors).prog w K mg base "check_stock" 3 ["catalogue", "stock"] (sp_check_stock Tb K) := ⟨_, _, O_check_stock, g_check_stock, F_check_stock.kp, F_check_stock.bindsN (fun _ _ _ _ _ _ us hl => match us, hl with | [_, _], _ => rfl)⟩
    have O_check_splits : FnOk (PySem.Challenge.rw_splitstock_k29_ways_errors).prog w K mg base (L2N.CX (PySem.Challenge.rw_splitstock_k29_ways_errors).prog w) 5 (He.fAd K ("check_splits", none)) fd_check_splits ["catalogue", "stock", "splits"] (sp_check_splits Tb K) := ok_check_splits F_check_splits T XC_InvalidSplits G_ordered G_piece_numbers
    have GX_check_splits : FnX (PySem.Challenge.rw_splitstock_k29_ways_errors).prog w K mg base "check_splits" 5 ["catalogue", "stock", "splits"] (sp_check_splits Tb K) := ⟨_, _, O_check_splits, g_check_splits, F_check_splits.kp, F_check_splits.bindsN (fun _ _ _ _ _ _ us hl => match us, hl with | [_, _, _], _ => rfl)⟩
    have O_check_ends : FnOk (PySem.Challenge.rw_splitstock_k29_ways_errors).prog w K mg base (L2N.CX (PySem.Challenge.rw_splitstock_k29_ways_errors).prog w) 6 (He.fAd K ("check_ends", none)) fd_check_ends ["catalogue", "stock", "first", "second"] (sp_check_ends Tb K) := ok_check_ends F_check_ends T GX_check_catalogue GX_check_splits GX_check_stock
    have GX_check_ends : FnX (PySem.Challenge.rw_splitstock_k29_ways_errors).prog w K mg base "check_ends" 6 ["catalogue", "stock", "first", "second"] (sp_check_ends Tb K) := ⟨_, _, O_check_ends, g_check_ends, F_check_ends.kp, F_check_ends.bindsN (fun _ _ _ _ _ _ us hl => match us, hl with | [_, _, _, _], _ => rfl)⟩
    have O_distance : FnOk (PySem.Challenge.rw_splitstock_k29_ways_errors).prog w K mg base (L2N.CX (PySem.Challenge.rw_splitstock_k29_ways_errors).prog w) 7 (He.fAd K ("distance", none)) fd_distance ["catalogue", "stock", "first", "second"] (sp_distance Tb K) := ok_distance F_distance T GX_check_ends
    have GX_distance : FnX (PySem.Challenge.rw_splitstock_k29_ways_errors).prog w K mg base "distance" 7 ["catalogue", "stock", "first", "second"] (sp_distance Tb K) := ⟨_, _, O_distance, g_distance, F_distance.kp, F_distance.bindsN (fun _ _ _ _ _ _ us hl => match us, hl with | [_, _, _, _], _ => rfl)⟩
    have O_way : FnOk (PySem.Challenge.rw_splitstock_k29_ways_errors).prog w K mg base (L2N.CX (PySem.Challenge.rw_splitstock_k29_ways_errors).prog w) 7 (He.fAd K ("way", none)) fd_way ["catalogue", "stock", "first", "second"] (sp_way Tb K) := ok_way F_way T GX_check_ends G_ordered
    have GX_way : FnX (PySem.Challenge.rw_splitstock_k29_ways_errors).prog w K mg base "way" 7 ["catalogue", "stock", "first", "second"] (sp_way Tb K) := ⟨_, _, O_way, g_way, F_way.kp, F_way.bindsN (fun _ _ _ _ _ _ us hl => match us, hl with | [_, _, _, _], _ => rfl)⟩
    have O_is_valid : FnOk (PySem.Challenge.rw_splitstock_k29_ways_errors).prog w K mg base CX0 2 (He.fAd K ("is_valid", none)) fd_is_valid ["entries", "stock", "splits"] (sp_is_valid Tb K) := ok_is_valid F_is_valid T G_piece_numbers
    have G_is_valid : Fn (PySem.Challenge.rw_splitstock_k29_ways_errors).prog w K mg base "is_valid" 2 ["entries", "stock", "splits"] (sp_is_valid Tb K) := ⟨_, _, O_is_valid, g_is_valid, F_is_valid.kp, F_is_valid.bindsN (fun _ _ _ _ _ _ us hl => match us, hl with | [_, _, _], _ => rfl)⟩
    have O_next_splits : FnOk (PySem.Challenge.rw_splitstock_k29_ways_errors).prog w K mg base CX0 3 (He.fAd K ("next_splits", none)) fd_next_splits ["entries", "stock", "splits", "goal"] (sp_next_splits Tb K) := ok_next_splits F_next_splits T G_is_valid
    have G_next_splits : Fn (PySem.Challenge.rw_splitstock_k29_ways_errors).prog w K mg base "next_splits" 3 ["entries", "stock", "splits", "goal"] (sp_next_splits Tb K) := ⟨_, _, O_next_splits, g_next_splits, F_next_splits.kp, F_next_splits.bindsN (fun _ _ _ _ _ _ us hl => match us, hl with | [_, _, _, _], _ => rfl)⟩
    have O_count_ways : FnOk (PySem.Challenge.rw_splitstock_k29_ways_errors).prog w K mg base (L2N.CX (PySem.Challenge.rw_splitstock_k29_ways_errors).prog w) 8 (He.fAd K ("count_ways", none)) fd_count_ways ["catalogue", "stock", "first", "second"] (sp_count_ways Tb K) := ok_count_ways F_count_ways T GX_distance G_next_splits G_ordered
    have GX_count_ways : FnX (PySem.Challenge.rw_splitstock_k29_ways_errors).prog w K mg base "count_ways" 8 ["catalogue", "stock", "first", "second"] (sp_count_ways Tb K) := ⟨_, _, O_count_ways, g_count_ways, F_count_ways.kp, F_count_ways.bindsN (fun _ _ _ _ _ _ us hl => match us, hl with | [_, _, _, _], _ => rfl)⟩
    have O_law_bag : FnOk (PySem.Challenge.rw_splitstock_k29_ways_errors).prog w K mg base CX0 1 (He.fAd K ("_law_bag", none)) fd_law_bag ["script"] (sp_law_bag Tb K) := ok_law_bag F_law_bag T
    have G_law_bag : Fn (PySem.Challenge.rw_splitstock_k29_ways_errors).prog w K mg base "_law_bag" 1 ["script"] (sp_law_bag Tb K) := ⟨_, _, O_law_bag, g_law_bag, F_law_bag.kp, F_law_bag.bindsN (fun _ _ _ _ _ _ us hl => match us, hl with | [_], _ => rfl)⟩
    have O_law_draw : FnOk (PySem.Challenge.rw_splitstock_k29_ways_errors).prog w K mg base CX0 1 (He.fAd K ("_law_draw", none)) fd_law_draw ["bag", "many"] (sp_law_draw Tb K) := ok_law_draw F_law_draw T
    have G_law_draw : Fn (PySem.Challenge.rw_splitstock_k29_ways_errors).prog w K mg base "_law_draw" 1 ["bag", "many"] (sp_law_draw Tb K) := ⟨_, _, O_law_draw, g_law_draw, F_law_draw.kp, F_law_draw.bindsN (fun _ _ _ _ _ _ us hl => match us, hl with | [_, _], _ => rfl)⟩
    have O_law_catalogue : FnOk (PySem.Challenge.rw_splitstock_k29_ways_errors).prog w K mg base CX0 2 (He.fAd K ("_law_catalogue", none)) fd_law_catalogue ["bag", "most"] (sp_law_catalogue Tb K) := ok_law_catalogue F_law_catalogue T G_law_draw
    have G_law_catalogue : Fn (PySem.Challenge.rw_splitstock_k29_ways_errors).prog w K mg base "_law_catalogue" 2 ["bag", "most"] (sp_law_catalogue Tb K) := ⟨_, _, O_law_catalogue, g_law_catalogue, F_law_catalogue.kp, F_law_catalogue.bindsN (fun _ _ _ _ _ _ us hl => match us, hl with | [_, _], _ => rfl)⟩
    have O_law_order : FnOk (PySem.Challenge.rw_splitstock_k29_ways_errors).prog w K mg base CX0 1 (He.fAd K ("_law_order", none)) fd_law_order ["pool"] (sp_law_order Tb K) := ok_law_order F_law_order T
    have G_law_order : Fn (PySem.Challenge.rw_splitstock_k29_ways_errors).prog w K mg base "_law_order" 1 ["pool"] (sp_law_order Tb K) := ⟨_, _, O_law_order, g_law_order, F_law_order.kp, F_law_order.bindsN (fun _ _ _ _ _ _ us hl => match us, hl with | [_], _ => rfl)⟩
    have O_law_pieces : FnOk (PySem.Challenge.rw_splitstock_k29_ways_errors).prog w K mg base CX0 1 (He.fAd K ("_law_pieces", none)) fd_law_pieces ["pool", "supply", "taken"] (sp_law_pieces Tb K) := ok_law_pieces F_law_pieces T
    have G_law_pieces : Fn (PySem.Challenge.rw_splitstock_k29_ways_errors).prog w K mg base "_law_pieces" 1 ["pool", "supply", "taken"] (sp_law_pieces Tb K) := ⟨_, _, O_law_pieces, g_law_pieces, F_law_pieces.kp, F_law_pieces.bindsN (fun _ _ _ _ _ _ us hl => match us, hl with | [_, _, _], _ => rfl)⟩
    have O_law_total : FnOk (PySem.Challenge.rw_splitstock_k29_ways_errors).prog w K mg base CX0 2 (He.fAd K ("_law_total", none)) fd_law_total ["pool", "supply"] (sp_law_total Tb K) := ok_law_total F_law_total T G_law_order G_law_pieces
    have G_law_total : Fn (PySem.Challenge.rw_splitstock_k29_ways_errors).prog w K mg base "_law_total" 2 ["pool", "supply"] (sp_law_total Tb K) := ⟨_, _, O_law_total, g_law_total, F_law_total.kp, F_law_total.bindsN (fun _ _ _ _ _ _ us hl => match us, hl with | [_, _], _ => rfl)⟩
    have O_law_small_supply : FnOk (PySem.Challenge.rw_splitstock_k29_ways_errors).prog w K mg base CX0 3 (He.fAd K ("_law_small_supply", none)) fd_law_small_supply ["bag", "pool", "most"] (sp_law_small_supply Tb K) := ok_law_small_supply F_law_small_supply T G_law_draw G_law_total
    have G_law_small_supply : Fn (PySem.Challenge.rw_splitstock_k29_ways_errors).prog w K mg base "_law_small_supply" 3 ["bag", "pool", "most"] (sp_law_small_supply Tb K) := ⟨_, _, O_law_small_supply, g_law_small_supply, F_law_small_supply.kp, F_law_small_supply.bindsN (fun _ _ _ _ _ _ us hl => match us, hl with | [_, _, _], _ => rfl)⟩
    have O_law_splits : FnOk (PySem.Challenge.rw_splitstock_k29_ways_errors).prog w K mg base CX0 2 (He.fAd K ("_law_splits", none)) fd_law_splits ["bag", "pool", "supply"] (sp_law_splits Tb K) := ok_law_splits F_law_splits T G_law_draw G_law_order G_law_pieces
    have G_law_splits : Fn (PySem.Challenge.rw_splitstock_k29_ways_errors).prog w K mg base "_law_splits" 2 ["bag", "pool", "supply"] (sp_law_splits Tb K) := ⟨_, _, O_law_splits, g_law_splits, F_law_splits.kp, F_law_splits.bindsN (fun _ _ _ _ _ _ us hl => match us, hl with | [_, _, _], _ => rfl)⟩
    have O_law_spoilt_catalogue : FnOk (PySem.Challenge.rw_splitstock_k29_ways_errors).prog w K mg base CX0 2 (He.fAd K ("_law_spoilt_catalogue", none)) fd_law_spoilt_catalogue ["bag", "pool"] (sp_law_spoilt_catalogue Tb K) := ok_law_spoilt_catalogue F_law_spoilt_catalogue T G_law_draw
    have G_law_spoilt_catalogue : Fn (PySem.Challenge.rw_splitstock_k29_ways_errors).prog w K mg base "_law_spoilt_catalogue" 2 ["bag", "pool"] (sp_law_spoilt_catalogue Tb K) := ⟨_, _, O_law_spoilt_catalogue, g_law_spoilt_catalogue, F_law_spoilt_catalogue.kp, F_law_spoilt_catalogue.bindsN (fun _ _ _ _ _ _ us hl => match us, hl with | [_, _], _ => rfl)⟩
    have O_law_catalogue_fault : FnOk (PySem.Challenge.rw_splitstock_k29_ways_errors).prog w K mg base CX0 1 (He.fAd K ("_law_catalogue_fault", none)) fd_law_catalogue_fault ["pool"] (sp_law_catalogue_fault Tb K) := ok_law_catalogue_fault F_law_catalogue_fault T
    have G_law_catalogue_fault : Fn (PySem.Challenge.rw_splitstock_k29_ways_errors).prog w K mg base "_law_catalogue_fault" 1 ["pool"] (sp_law_catalogue_fault Tb K) := ⟨_, _, O_law_catalogue_fault, g_law_catalogue_fault, F_law_catalogue_fault.kp, F_law_catalogue_fault.bindsN (fun _ _ _ _ _ _ us hl => match us, hl with | [_], _ => rfl)⟩
    have O_law_spoilt_numbers : FnOk (PySem.Challenge.rw_splitstock_k29_ways_errors).prog w K mg base CX0 2 (He.fAd K ("_law_spoilt_numbers", none)) fd_law_spoilt_numbers ["bag", "numbers", "names"] (sp_law_spoilt_numbers Tb K) := ok_law_spoilt_numbers F_law_spoilt_numbers T G_law_draw
    have G_law_spoilt_numbers : Fn (PySem.Challenge.rw_splitstock_k29_ways_errors).prog w K mg base "_law_spoilt_numbers" 2 ["bag", "numbers", "names"] (sp_law_spoilt_numbers Tb K) := ⟨_, _, O_law_spoilt_numbers, g_law_spoilt_numbers, F_law_spoilt_numbers.kp, F_law_spoilt_numbers.bindsN (fun _ _ _ _ _ _ us hl => match us, hl with | [_, _, _], _ => rfl)⟩
    have O_law_stock_fault : FnOk (PySem.Challenge.rw_splitstock_k29_ways_errors).prog w K mg base CX0 1 (He.fAd K ("_law_stock_fault", none)) fd_law_stock_fault ["pool", "supply"] (sp_law_stock_fault Tb K) := ok_law_stock_fault F_law_stock_fault T
    have G_law_stock_fault : Fn (PySem.Challenge.rw_splitstock_k29_ways_errors).prog w K mg base "_law_stock_fault" 1 ["pool", "supply"] (sp_law_stock_fault Tb K) := ⟨_, _, O_law_stock_fault, g_law_stock_fault, F_law_stock_fault.kp, F_law_stock_fault.bindsN (fun _ _ _ _ _ _ us hl => match us, hl with | [_, _], _ => rfl)⟩
    have O_law_splits_fault : FnOk (PySem.Challenge.rw_splitstock_k29_ways_errors).prog w K mg base CX0 2 (He.fAd K ("_law_splits_fault", none)) fd_law_splits_fault ["pool", "supply", "taken"] (sp_law_splits_fault Tb K) := ok_law_splits_fault F_law_splits_fault T G_law_order G_law_pieces
    have G_law_splits_fault : Fn (PySem.Challenge.rw_splitstock_k29_ways_errors).prog w K mg base "_law_splits_fault" 2 ["pool", "supply", "taken"] (sp_law_splits_fault Tb K) := ⟨_, _, O_law_splits_fault, g_law_splits_fault, F_law_splits_fault.kp, F_law_splits_fault.bindsN (fun _ _ _ _ _ _ us hl => match us, hl with | [_, _, _], _ => rfl)⟩
    have O_law_caught : FnOk (PySem.Challenge.rw_splitstock_k29_ways_errors).prog w K mg base CX0 9 (He.fAd K ("_law_caught", none)) fd_law_caught ["which", "pool", "supply", "one", "two"] (sp_law_caught Tb K) := ok_law_caught F_law_caught T GX_count_ways GX_distance GX_way
    have G_law_caught : Fn (PySem.Challenge.rw_splitstock_k29_ways_errors).prog w K mg base "_law_caught" 9 ["which", "pool", "supply", "one", "two"] (sp_law_caught Tb K) := ⟨_, _, O_law_caught, g_law_caught, F_law_caught.kp, F_law_caught.bindsN (fun _ _ _ _ _ _ us hl => match us, hl with | [_, _, _, _, _], _ => rfl)⟩
    have O_law_due : FnOk (PySem.Challenge.rw_splitstock_k29_ways_errors).prog w K mg base CX0 3 (He.fAd K ("_law_due", none)) fd_law_due ["pool", "supply", "one", "two"] (sp_law_due Tb K) := ok_law_due F_law_due T G_law_catalogue_fault G_law_splits_fault G_law_stock_fault
    have G_law_due : Fn (PySem.Challenge.rw_splitstock_k29_ways_errors).prog w K mg base "_law_due" 3 ["pool", "supply", "one", "two"] (sp_law_due Tb K) := ⟨_, _, O_law_due, g_law_due, F_law_due.kp, F_law_due.bindsN (fun _ _ _ _ _ _ us hl => match us, hl with | [_, _, _, _], _ => rfl)⟩
    exact ok_law F_law T G_law_bag G_law_catalogue G_law_caught G_law_draw G_law_due G_law_small_supply G_law_splits G_law_spoilt_catalogue G_law_spoilt_numbers
end Sk
open PySem PySem.W PySem.Calls PyProof.Rows
theorem PySem.Challenge.cw_splitstock_k29_ways_errors_holds : PySem.Challenge.rw_splitstock_k29_ways_errors.Holds := by
  w_on; o_law
  refine HandSHeadRun.head_any (r := OpenLaw.row PySem.Challenge.rw_splitstock_k29_ways_errors) (q := view (OpenLaw.row PySem.Challenge.rw_splitstock_k29_ways_errors).prog [47]) (H := Sk.hHk) (ob := Sk.hOb) (M := 4000) (loose := Sk.hLoose) (d := HandSHeadRun.topDef (OpenLaw.row PySem.Challenge.rw_splitstock_k29_ways_errors).prog 47) (kwd := []) Sk.hOb_eq
    (by kernel_rfl) (fun s => by kernel_rfl) Sk.hRun (by kernel_rfl) (by kernel_rfl) (by kernel_rfl) (by rfl) (by first | assumption | decide +kernel) (by decide +kernel) ⟨rfl, rfl, rfl, rfl, rfl, by decide +kernel⟩ ?hw ?hc
  case hw => w_witness2
  case hc =>
    refine Sk.walk_ofG (l := PySem.Challenge.rw_splitstock_k29_ways_errors) (n := 63) (k := 10) (x := "script") rfl (by decide) (by kernel_rfl) ⟨rfl, by decide, by decide⟩ ?_
    intro w mg fa h Y G hmg0
    obtain ⟨K, KX, c⟩ := Y
    have hmg : mg ("law" : PySem.Str) = some (.ref fa) := by
      have e : (HandSHeadRun.topDef (OpenLaw.row PySem.Challenge.rw_splitstock_k29_ways_errors).prog 47).name = ("law" : PySem.Str) := by kernel_rfl
      rw [← e]
      exact hmg0
    exact ⟨K, KX, Sk.hFacts KX G hmg c⟩
