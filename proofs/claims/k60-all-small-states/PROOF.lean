import PyProof.Rows.All
import Wide.All
import OpenK.AllK
import Wide.FinOn
import KE.KStateDown
import HandS.ForMost
import HandS.Defaults
import HandS.Exc
import HandS.Codes
import HandS.TryOnly
import HandS.Lambda
import HandS.EndTab
import HandS.Head0
import HandS.Head1
import HandS.Head2
import HandS.HeadEnd
import HandS.HeadHook1
import HandS.HeadHook2
import HandS.HeadHook3
import HandS.HeadHook4
import HandS.HeadWalk
import HandS.Sort
import HandS.SortOrd
import HandS.SortRule
import HandS.SortInts
import HandS.SortKw
import HandS.Wide
import HandS.SetKeys
import HandS.DictComp
import HandS.IsInst
import HandS.Deep
import HandS.Style
import HandS.Finally
import HandS.ListItems
import HandS.CallLocal
import HandS.SetFor
import HandS.RaiseMore
import HandS.Zip
import HandS.Conv
import HandS.Strs
import KE.KSortTupAny
import KE.KSortKey
import KE.KEqDict
import HandS.MakeKw
import HandS.ExcOwn
import HandS.ExcInit
import HandS.ExcField
import HandS.ExcIs
import HandS.ExcValue
import HandS.CallSlots
import HandS.ClsMeth
import HandS.ExcCtx
import HandS.Hot
import HandS.HotCalls
import HandS.RaiseFrom
import HandS.ExcInitHot
import PySem.Challenge.RW_splitstock_k60_whole_all_small_states
import HandS.Walk
import PyProof.NeKinds
import HandS.Iter
import PyProof.SumAny
import KE.KDictSum
import HandS.MapSum
import PyProof.ReprRoads
import PyProof.StrLawsRepr
import PyProof.FitsInt
import PyProof.EqAt
import PyProof.SeqRoads2
import PyProof.Rows.SetFrom
import PyProof.Rows.SortShellSt
import HandS.Set
import KE.KUnpackStar
import HandS.Text
import PyProof.InstNe
import PyProof.FactsAll.object_2
import HandS.OwnEq
import PyProof.DictCopy
import PyProof.DictUpdate
import PyProof.FactsAll.dict_2
import HandS.Dict
import HandS.Flow
set_option Elab.async false
set_option linter.all false
set_option maxRecDepth 100000
set_option maxHeartbeats 4000000
/-! sorting tuples that begin (int, text) -/
namespace Sk
open PySem PySem.Spec PyProof.Rows L2
/-- an int, then a text -/
def kLt (p q : Int × Str) : Bool := if p.1 = q.1 then decide (p.2.cps.toList < q.2.cps.toList) else decide (p.1 < q.1)
theorem kLt_iff {p q : Int × Str} : kLt p q = true ↔ p.1 < q.1 ∨ (p.1 = q.1 ∧ p.2.cps.toList < q.2.cps.toList) := by
  unfold kLt
  by_cases e : p.1 = q.1
  · rw [if_pos e, decide_eq_true_eq]
    constructor
    · exact fun h => .inr ⟨e, h⟩
    · rintro (h | h)
      · omega
      · exact h.2
  · rw [if_neg e, decide_eq_true_eq]
    constructor
    · exact fun h => .inl h
    · rintro (h | h)
      · exact h
      · exact absurd h.1 e
theorem kLt_no {p q : Int × Str} : kLt p q = false ↔ q.1 < p.1 ∨ (p.1 = q.1 ∧ ¬ p.2.cps.toList < q.2.cps.toList) := by
  unfold kLt
  by_cases e : p.1 = q.1
  · rw [if_pos e, decide_eq_false_iff_not]
    constructor
    · exact fun h => .inr ⟨e, h⟩
    · rintro (h | h)
      · omega
      · exact h.2
  · rw [if_neg e, decide_eq_false_iff_not]
    constructor
    · exact fun h => .inl (by omega)
    · rintro (h | h)
      · omega
      · exact absurd h.1 e
theorem str_ext {x y : Str} (h : x.cps.toList = y.cps.toList) : x = y := by
  have hc : x.cps = y.cps := Array.toList_inj.mp h
  cases x; cases y
  simp only [Str.mk.injEq]
  exact hc
theorem kLt_total {p q : Int × Str} (h1 : kLt p q = false) (h2 : kLt q p = false) : p = q := by
  rcases kLt_no.mp h1 with a | ⟨a, b⟩
  · rcases kLt_no.mp h2 with c | ⟨c, d⟩ <;> omega
  · rcases kLt_no.mp h2 with c | ⟨c, d⟩
    · omega
    · have e : p.2.cps.toList = q.2.cps.toList := strKind.total _ _ (decide_eq_false b) (decide_eq_false d)
      obtain ⟨i, x⟩ := p
      obtain ⟨j, y⟩ := q
      have e2 := str_ext e
      simp only at a e2
      rw [a, e2]
theorem kLt_swo {α : Type} (k : α → Int × Str) : SrtO.Swo fun x y => kLt (k x) (k y) := by
  refine ⟨fun x y h => ?_, fun x y z h1 h2 => ?_⟩
  · refine kLt_no.mpr ?_
    rcases kLt_iff.mp h with a | ⟨a, b⟩
    · exact .inl a
    · exact .inr ⟨a.symm, fun c => List.lt_irrefl _ (List.lt_trans b c)⟩
  · refine kLt_no.mpr ?_
    rcases kLt_no.mp h1 with a | ⟨a, b⟩
    · rcases kLt_no.mp h2 with c | ⟨c, d⟩
      · exact .inl (by omega)
      · exact .inl (by omega)
    · rcases kLt_no.mp h2 with c | ⟨c, d⟩
      · exact .inl (by omega)
      · refine .inr ⟨by omega, fun e => ?_⟩
        rcases strKind.negTrans _ (k y).2.cps.toList _ (decide_eq_true e) with q | q
        · exact d (of_decide_eq_true q)
        · exact b (of_decide_eq_true q)
/-- a tuple of the heap that begins with an int and a text -/
def IsT2 (h : Heap) (v : Value) (k : Int × Str) (rest : List Value) : Prop := ∃ a o t u n, v = .ref a ∧ h.get? a = some o ∧ o.cls = .type "tuple" ∧ o.data = .seq (Value.int k.1 t :: .str k.2 u :: rest).toArray n
theorem IsT2.keeps {h h' : Heap} {v : Value} {k : Int × Str} {rest : List Value} (p : IsT2 h v k rest) (kp : ∀ b o, h.get? b = some o → o.cls = .type "tuple" → h'.get? b = some o) : IsT2 h' v k rest := by
  obtain ⟨a, o, t, u, n, e, ho, hc, hd⟩ := p
  exact ⟨a, o, t, u, n, e, kp a o ho hc, hc, hd⟩
section
variable {prog : Program} {w : World} {A : Around} {E : Value → Shared → Prop} {s : Shared}
theorem eqBool_same {v : Value} {Q : Bool → Shared → Prop} (hv : (v == v) = true) (h : Q true s) : wpAny (model prog w) A (eqBool v v) Q E s := by
  unfold eqBool
  refine wpAny_holding ?_
  rw [hv]
  simp only [if_true]
  exact wpAny_bind (wpAny_rule (wpAny_pure h))
theorem kat_same {b : Bool} {Q : Bool → Shared → Prop} : ∀ (l : List Value) (i : Nat), (∀ v ∈ l, (v == v) = true) → Q false s → PySem.W.KatLex prog w A b false Q (l.zip l) i s
  | [], _, _, h => PySem.W.kat_nil h
  | v :: l, i, hv, h => by
    show PySem.W.KatLex prog w A b false Q ((v, v) :: l.zip l) i s
    refine PySem.W.kat_cons (eqBool_same (hv v (List.mem_cons_self ..)) (PySem.W.kat_yes ?_))
    exact kat_same l (i + 1) (fun u hu => hv u (List.mem_cons_of_mem _ hu)) h
/-- what any two of them answer -/
theorem t2_cmp {vs : List Value} {k : Value → Int × Str} {rest : Value → List Value} (hp : ∀ v ∈ vs, IsT2 s.heap v (k v) (rest v)) (hr : ∀ v ∈ vs, ∀ u ∈ rest v, (u == u) = true)
    (hi : ∀ v ∈ vs, ∀ u ∈ vs, k v = k u → rest v = rest u) : SrtO.Cmp prog w A s (tuples' true) (fun p => p.1 ∈ vs) (SrtO.lt2 fun v u => kLt (k v) (k u)) := by
  intro p q hm hm'
  obtain ⟨a, o, t, u, n, e, ho, hc, hd⟩ := hp _ hm
  obtain ⟨a', o', t', u', n', e', ho', hc', hd'⟩ := hp _ hm'
  have hi' := hi _ hm _ hm'
  have hr' := hr _ hm
  show wpAny (model prog w) A (keyLt' (tuples' true) p.1 q.1) (fun r s' => s' = s ∧ r = kLt (k p.1) (k q.1)) (fun _ _ => False) s
  generalize k p.1 = kp at hi' ⊢ hd
  generalize k q.1 = kq at hi' ⊢ hd'
  generalize rest p.1 = rp at hi' hr' hd
  generalize rest q.1 = rq at hi' hd'
  rw [e, e']
  refine PySem.W.kat_lt ho hd ho' hd' ?_
  obtain ⟨x, y⟩ := kp
  obtain ⟨x', y'⟩ := kq
  have key : ∀ fin : Bool, (x = x' → y = y' → fin = false) → PySem.W.KatLex prog w A true fin (fun r s' => s' = s ∧ r = kLt (x, y) (x', y')) ((.int x t, .int x' t') :: (.str y u, .str y' u') :: rp.zip rq) 0 s := by
    intro fin hf
    unfold kLt
    refine PySem.W.kat_cons (SeqAt.EqAt.int_int x t x' t' prog w _ _ ?_)
    refine PySem.W.kat_go (fun e1 => ?_) (fun e1 => ?_)
    · have ex : x = x' := by simpa using e1
      refine PySem.W.kat_yes (PySem.W.kat_cons (wpAny_eqBool_str ?_))
      refine PySem.W.kat_go (fun e2 => ?_) (fun e2 => ?_)
      · have ey : y = y' := of_decide_eq_true e2
        have e3 : (if x = x' then decide (y.cps.toList < y'.cps.toList) else decide (x < x')) = false := by
          rw [if_pos ex, ey]
          exact decide_eq_false (List.lt_irrefl _)
        have e4 := hi' (by rw [ex, ey])
        rw [← e4, hf ex ey]
        exact PySem.W.kat_yes (kat_same rp _ hr' ⟨rfl, e3.symm⟩)
      · have e3 : (if x = x' then decide (y.cps.toList < y'.cps.toList) else decide (x < x')) = decide (y.cps.toList < y'.cps.toList) := if_pos ex
        exact PySem.W.kat_no (oneLt_any_str ⟨rfl, e3.symm⟩)
    · have ex : ¬ x = x' := by simpa using e1
      have e3 : (if x = x' then decide (y.cps.toList < y'.cps.toList) else decide (x < x')) = decide (x < x') := if_neg ex
      exact PySem.W.kat_no (oneLt_int ⟨rfl, e3.symm⟩)
  have := key (decide ((Value.int x t :: .str y u :: rp).toArray.size < (Value.int x' t' :: .str y' u' :: rq).toArray.size)) (fun ex ey => by
    have e4 := hi' (by rw [ex, ey])
    rw [e4]
    simp)
  simpa using this
theorem t2_firsts {h : Heap} {k : Value → Int × Str} {rest : Value → List Value} : ∀ {vs : List Value}, (∀ v ∈ vs, IsT2 h v (k v) (rest v)) → ∃ fs, PySem.W.KatTups h vs fs ∧ fs.length = vs.length ∧ ∀ f ∈ fs, ∃ i t, f = Value.int i t
  | [], _ => ⟨[], .nil, rfl, fun _ h => nomatch h⟩
  | v :: vs, hp => by
    obtain ⟨fs, h1, h2, h3⟩ := t2_firsts (vs := vs) fun u hu => hp u (List.mem_cons_of_mem _ hu)
    obtain ⟨a, o, t, u, n, e, ho, hc, hd⟩ := hp v (List.mem_cons_self ..)
    subst e
    refine ⟨.int (k (.ref a)).1 t :: fs, .cons ho hc hd rfl h1, by rw [List.length_cons, List.length_cons, h2], fun f hf => ?_⟩
    rcases List.mem_cons.mp hf with rfl | hf
    · exact ⟨_, _, rfl⟩
    · exact h3 f hf
theorem t2_sortableO {a : Addr} {vs : List Value} {k : Value → Int × Str} {rest : Value → List Value} (h0 : 0 < vs.length) (hp : ∀ v ∈ vs, IsT2 s.heap v (k v) (rest v)) (hr : ∀ v ∈ vs, ∀ u ∈ rest v, (u == u) = true)
    (hi : ∀ v ∈ vs, ∀ u ∈ vs, k v = k u → rest v = rest u) (ha : ∀ o, s.heap.get? a = some o → o.cls ≠ .type "tuple") : SrtO.SortableO prog w A s a vs fun v u => kLt (k v) (k u) := by
  intro h' keep
  have hp' : ∀ v ∈ vs, IsT2 h' v (k v) (rest v) := fun v hm => (hp v hm).keeps fun b o e c => keep b o (fun z => by subst z; exact ha o e c) e
  obtain ⟨fs, h1, h2, h3⟩ := t2_firsts hp'
  refine ⟨tuples' true, fun Q E hq => ?_, t2_cmp hp' hr hi⟩
  refine PySem.W.kat_kind (T := .type "int") h1 (by omega) (fun f hm => ?_) (by rfl) ?_
  · obtain ⟨x, t, rfl⟩ := h3 f hm
    exact PySem.W.Looks.now
  · have e : (Value.type "int" != Value.type "tuple") = true := by first | decide +kernel | rfl | decide
    rw [e]
    exact hq
end

/-- sorted(xs), xs a list of tuples that begin with an int and a text (k says which); where two keys agree, the tuples are one or have no more items -/
def rSortedT (K : PySem.W.Frag) : List V → Hp → VK → Prop := fun vs H Q => ∃ (a : Addr) (xs : List V) (k : V → Int × Str) (rest : V → List V), vs = [V.ref a] ∧ SqL K H a xs ∧
  (∀ x ∈ xs, ∃ t, x = V.ref t ∧ H t = some (.tup (.int (k x).1 :: .str (k x).2 :: rest x))) ∧ (∀ x ∈ xs, ∀ r ∈ rest x, ∃ b, r = V.ref b) ∧ (∀ x ∈ xs, ∀ y ∈ xs, k x = k y → x = y ∨ (rest x = [] ∧ rest y = [])) ∧
  ∀ ys p, SrtO.Srtd (fun x y => kLt (k x) (k y)) ys → SrtO.Stb (fun x y => kLt (k x) (k y)) ys xs → H p = none → Q (.ref p) (upd H p (.lst ys))
def valOf : V → Value
  | .ref a => .ref a
  | _ => .none
section
variable {X : Cx}
theorem vals_refs : ∀ {rs : List V} {us : List Value}, Vals rs us → (∀ r ∈ rs, ∃ b, r = V.ref b) → us = rs.map valOf
  | _, _, .nil, _ => rfl
  | r :: rs, u :: us, .cons h t, hb => by
    obtain ⟨b, rfl⟩ := hb r (List.mem_cons_self ..)
    rw [vals_refs t fun x hx => hb x (List.mem_cons_of_mem _ hx)]
    obtain rfl : u = Value.ref b := h
    rfl
theorem cr_sortedT : CallR X (.builtin "sorted") (rSortedT X.K) := by
  intro pins s σ H vs us Q I r h
  obtain ⟨a, xs, k, rest, rfl, hs, hx, hrf, hi, q⟩ := h
  obtain ⟨its, rv, hl, hz⟩ := I.list hs
  obtain ⟨u, rfl, ru⟩ := vals1 r
  obtain rfl : u = Value.ref a := ru
  obtain ⟨e1, e2⟩ := refs_back rv fun x m => by
    obtain ⟨t, e, _⟩ := hx x m
    exact ⟨t, e⟩
  have hm : ∀ t, Value.ref t ∈ its → V.ref t ∈ xs := fun t hv => by rw [e1]; exact List.mem_map.mpr ⟨_, hv, rfl⟩
  have hp : ∀ v ∈ its, IsT2 s.heap v (k (backV v)) ((rest (backV v)).map valOf) := fun v hv => by
    obtain ⟨t, rfl⟩ := e2 v hv
    obtain ⟨t', e, ht⟩ := hx _ (hm t hv)
    cases e
    obtain ⟨_, its2, r2, o, ho, hc, n, hd⟩ := I.hok _ _ ht
    cases r2 with
    | cons ri r2 =>
      cases r2 with
      | cons rj r2 =>
        obtain ⟨t1, rfl⟩ := ri
        obtain ⟨t2, rfl⟩ := rj
        rw [vals_refs r2 (hrf _ (hm t hv))] at hd
        exact ⟨t, o, t1, t2, n, rfl, ho, hc, hd⟩
  have hr : ∀ v ∈ its, ∀ u ∈ (rest (backV v)).map valOf, (u == u) = true := fun v hv u hu => by
    obtain ⟨x, hx', rfl⟩ := List.mem_map.mp hu
    obtain ⟨t, rfl⟩ := e2 v hv
    obtain ⟨b, rfl⟩ := hrf _ (hm t hv) _ hx'
    show (Value.ref b == Value.ref b) = true
    simp [valOf]
  have hi' : ∀ v ∈ its, ∀ u ∈ its, k (backV v) = k (backV u) → (rest (backV v)).map valOf = (rest (backV u)).map valOf := fun v hv u hu e => by
    obtain ⟨t, rfl⟩ := e2 v hv
    obtain ⟨t', rfl⟩ := e2 u hu
    rcases hi _ (hm t hv) _ (hm t' hu) e with z | ⟨z1, z2⟩
    · show (rest (V.ref t)).map valOf = (rest (V.ref t')).map valOf
      rw [z]
    · show (rest (V.ref t)).map valOf = (rest (V.ref t')).map valOf
      rw [z1, z2]
  refine SrtO.sorted_ord (ltv := fun v u => kLt (k (backV v)) (k (backV u))) (kLt_swo fun v => k (backV v)) hl.isList (by rw [← rv.length]; exact hz) (fun h2 h₁ a' ha kk => ?_) fun out h1 h2 => ?_
  · refine t2_sortableO (s := { s with heap := h₁ }) (rest := fun v => (rest (backV v)).map valOf) (by omega) (fun v hm => (hp v hm).keeps fun b o e _ => (kk b o e).2) hr hi' fun o e => ?_
    have e' : some o = some (seqObj "list" its.toArray 0) := e.symm.trans ha
    cases e'
    intro c
    exact absurd (Value.type.inj c) (by decide)
  · have h3 : ∀ u ∈ out, ∃ a, u = Value.ref a := fun u hu => e2 u (h2.perm.mem_iff.mp hu)
    obtain ⟨n, hn⟩ := sortedAll_at s.heap its out.toArray
    have hd : s.heap.objs.size ≤ s.heap.objs.size + 1 := Nat.le_succ _
    have hb : SrtO.Stb (fun x y => kLt (k x) (k y)) (out.map backV) xs := by
      rw [e1]
      exact SrtO.Stb.map (kLt_swo k) backV h2
    refine ⟨.ref (s.heap.objs.size + 1), upd H (s.heap.objs.size + 1) (.lst (out.map backV)), I.laid (t' := s.toks) (fun b o e => sortedAll_old e) hd ⟨?_, out, n, vals_back h3, hn⟩, rfl, q _ _ (SrtO.srtd_map h1) hb (I.hok.fresh hd)⟩
    rw [hb.len]
    exact hz
end
end Sk
/-! sorted(xs, key=lambda x: ..) -/
namespace Sk
open PySem PySem.Spec PyProof.Rows L2
section
variable {P : Program} {w : World} {K : PySem.W.Frag} {mg : Str → Option Value} {base : Heap}
/-- a lambda of parameters and no captured names, called -/
theorem lam_run {N ps : List Str} {k : Nat} {q : Str} {params : Arguments} {body : Expr} {scope : Scope} {pm ctv : Value} {f c' : Addr} {A : Around} {outer : List Env} {s : Shared} {H : Hp} {us : List Value} {vs : List V} {Q : VK} {E : XK} {te : TE}
    (of1 : s.heap.get? f = some (PySem.W.kla_obj "<lambda>" q params body scope [] pm c' ctv)) (S : FnScope N ps scope)
    (hb : bindArgs (PySem.W.kla_fn "<lambda>" q params body scope [] pm (.ref c') ctv) ⟨us, []⟩ = pure (ps.zip us)) (hr : Room (k + 1) A) (e0 : Env0 P w K mg base A outer s H) (hc : H c' = some (LamX.CodeO c' q))
    (r : Vals vs us) (hl : vs.length = ps.length)
    (hbody : PE (cxOf CX0 P w K mg base N q scope f (.ref c') A outer s H E) body te) (ht : te (start N vs) H Q) :
    codeAny (model P w) A (.call (.ref f) ⟨us, []⟩) (CR CX0 outer P w H s Q E) s := by
  have lim : s.heap.NoLimit := e0.mod.nolimit.keeps fun b o e => (e0.bs b o e).1
  obtain ⟨⟨oc, vs', t, hoc, hdc, hvc⟩, _, _⟩ := e0.hok c' _ hc
  have hkind : ∀ y ∈ ps.zip us, scope.names.lookup y.1 = some .local ∨ (scope.names.lookup y.1 = some .cell ∧ ((cellsFrom (s.heap.objs.size + 1) scope.names []).lookup y.1).isSome = true) := fun ⟨n, v⟩ hy => by
    rcases S.par n (List.of_mem_zip hy).1 with q | q
    · exact .inl q
    · exact .inr ⟨q, PySem.W.cellsFrom_some _ _ _ (.inl q)⟩
  refine PySem.W.kla_callFunE hr.depth of1 rfl S.co S.gen rfl ⟨c', oc, vs', t, rfl, hoc, hdc, hvc⟩ ?_
  rw [hb]
  refine wpAny_pure (wpAny_newFunctionEnv_cells S.kind hkind fun env he s1 x => ?_)
  subst he
  refine ⟨lim.keeps x.toInCall.keep, PySem.W.kla_codeExpr ?_⟩
  have I : Inv (cxOf CX0 P w K mg base N q scope f (.ref c') A outer s H E) [] (start N vs) H s1 := inv_start S hr.hd e0 hl r x
  refine wpAny_mono (hbody.run [] s1 (start N vs) H Q I ht) (fun v s' hq => ?_) fun e s' hs => hs
  obtain ⟨w', H', J', rv, q⟩ := hq
  exact ⟨w', H', J'.os, J'.bare, J'.base, J'.hok, rv, q⟩
end
/-- objects that no one tracks are changed: the abstract heap is held -/
theorem hok_but {P : Program} {w : World} {H : Hp} {h h' : Heap} (ok : HOk P w H h) (k : ∀ b u, H b ≠ none → h.get? b = some u → h'.get? b = some u) : HOk P w H h' := fun b u e => by
  refine (ok b u e).stay (fun c v hc q => k c v ?_ q) (fun _ q => q) fun _ _ q => q
  rcases hc with z | z
  · rw [z, e]
    simp
  · rw [z]
    simp
/-- a new list, filled meanwhile, is tracked in the end -/
theorem hok_late {P : Program} {w : World} {H : Hp} {h : Heap} {a : Addr} {o : HO} (ok : HOk P w H h) (hn : H a = none) (new : ObjOk P w (upd H a o) h a o) : HOk P w (upd H a o) h := fun b u e => by
  by_cases hb : b = a
  · subst hb; rw [upd_same] at e; cases e; exact new
  · rw [upd_ne hb] at e
    exact (ok b u e).stay (fun c v _ q => q) (fun c q => by rw [upd_ne (ne_of_none q hn)]; exact q) fun c xs q => by rw [upd_ne (ne_of_none q hn)]; exact q
theorem un_but {fs : List Addr} {H H' : Hp} {h h' h2 : Heap} (u : Un fs [] H H' h h') (k : ∀ b o, b < h.objs.size → h'.get? b = some o → h2.get? b = some o) : Un fs [] H H' h h2 where
  keep := fun b o e n hb hx => k b o (Heap.lt_size e) (u.keep b o e n hb hx)
  slot := fun b o e n hb hx => by
    obtain ⟨sl, q⟩ := u.slot b o e n hb hx
    exact ⟨sl, k b _ (Heap.lt_size e) q⟩
  free := u.free
  there := fun b o e hx => by
    obtain ⟨o', q⟩ := u.there b o e hx
    exact ⟨o', k b o' (Heap.lt_size e) q⟩
  tups := u.tups
  frzs := u.frzs
  tbls := u.tbls
theorem un_late {fs : List Addr} {H H' : Hp} {h h' : Heap} {a : Addr} {o : HO} (u : Un fs [] H H' h h') (ha : h.objs.size ≤ a) (hn : H' a = none) : Un fs [] H (upd H' a o) h h' where
  keep := u.keep
  slot := u.slot
  free := fun b o e n hx => by
    rw [upd_ne (fun z => by rw [z] at e; exact Nat.lt_irrefl _ (Nat.lt_of_lt_of_le (Heap.lt_size e) ha))]
    exact u.free b o e n hx
  there := u.there
  tups := fun b xs e => by
    have q := u.tups b xs e
    rw [upd_ne (ne_of_none q hn)]
    exact q
  frzs := fun b o' x e => by
    have q := u.frzs b o' x e
    rw [upd_ne (ne_of_none q hn)]
    exact q
  tbls := fun b ps e => by
    obtain ⟨m, q⟩ := u.tbls b ps e
    exact ⟨m, by rw [upd_ne (ne_of_none q hn)]; exact q⟩
/-! ### the sort by keys, raw -/
section
variable {prog : Program} {w : World} {A : Around} {E : Value → Shared → Prop} {s : Shared}
theorem key_tail {a kS : Addr} {vs ks : List Value} {e e1 : Nat} {R : PySem.Fin → Shared → Prop} {st : SortSt} (hk : s.heap.get? kS = some (seqObj "list" ks.toArray e)) (ha : s.heap.get? a = some (seqObj "list" #[] e1)) (hka : kS ≠ a)
    (hz : ks.length ≤ sizeLine) (hsz : (arrOf st).size ≤ sizeLine) (hfl : failedOf st = none)
    (h : ∀ h' c, (∀ b o, b ≠ a → b ≠ kS → s.heap.get? b = some o → h'.get? b = some o) → h'.get? a = some (seqObj "list" ((arrOf st).map (·.2)) c) → R (.done (.ret .none)) { s with heap := h' }) :
    wpAny (model prog w) A (ksk_tail a false e1 (.ref kS) st) R E s := by
  have s1 := Heap.SameBut.update s.heap kS (Obj.mapSeq fun _ => (#[] : Array Value))
  have na1 : (s.heap.update kS (Obj.mapSeq fun _ => (#[] : Array Value))).get? a = some (seqObj "list" #[] e1) := (s1.2 a hka.symm).trans ha
  have s2 := Heap.SameBut.update (s.heap.update kS (Obj.mapSeq fun _ => (#[] : Array Value))) a (Obj.mapSeq fun _ => (arrOf st).map (·.2))
  obtain ⟨c2, hc2⟩ : ∃ c2, ((s.heap.update kS (Obj.mapSeq fun _ => (#[] : Array Value))).update a (Obj.mapSeq fun _ => (arrOf st).map (·.2))).get? a = some (seqObj "list" ((arrOf st).map (·.2)) c2) :=
    ⟨_, get?_update_seq na1 fun _ => (arrOf st).map (·.2)⟩
  unfold ksk_tail
  try dsimp only
  refine wpAny_bind (listUpdate_at hk rfl ?_ (by rw [List.size_toArray]; exact hz) (Nat.zero_le _))
  refine wpAny_bind (wpAny_letGo ?_)
  refine wpAny_bind (seqEpoch_at na1 rfl ?_)
  refine wpAny_bind (listUpdate_at na1 rfl ?_ (Nat.zero_le _) (by simp only [Bool.false_eq_true, if_false, Array.size_map]; omega))
  rw [hfl]
  simp only [bne_self_eq_false, Bool.false_eq_true, if_false]
  exact wpAny_pure (h _ c2 (fun b o h1 h2 q => (s2.2 b h1).trans ((s1.2 b h2).trans q)) hc2)
theorem key_end {a kS : Addr} {vs ks : List Value} {e e1 : Nat} {R : PySem.Fin → Shared → Prop} {lt : Keyed → Keyed → Bool} (O : SrtO.Swo lt) (hk : s.heap.get? kS = some (seqObj "list" ks.toArray e)) (ha : s.heap.get? a = some (seqObj "list" #[] e1)) (hka : kS ≠ a)
    (hlen : ks.length = vs.length) (hz : vs.length ≤ sizeLine)
    (hS : 2 ≤ vs.length → ∃ κ, (∀ (Q : SortKind → Shared → Prop) (E : Value → Shared → Prop), Q κ s → wpAny (model prog w) A (keyKind' ks.toArray) Q E s) ∧ SrtO.Cmp prog w A s κ (fun p => p.1 ∈ ks) lt)
    (h : ∀ (ps : List Keyed) h' c, SrtO.Srtd lt ps → SrtO.Stb lt ps (ks.zip vs) → (∀ b o, b ≠ a → b ≠ kS → s.heap.get? b = some o → h'.get? b = some o) → h'.get? a = some (seqObj "list" (ps.map (·.2)).toArray c) → R (.done (.ret .none)) { s with heap := h' }) :
    wpAny (model prog w) A (ksk_end a false vs.toArray e1 (.ref kS) ks.toArray) R E s := by
  have hzs : (ks.toArray.zip vs.toArray).size = vs.length := by rw [Array.size_zip, List.size_toArray, List.size_toArray, hlen, Nat.min_self]
  have ez : (ks.toArray.zip vs.toArray).toList = ks.zip vs := ksk_zip _ _
  have fin : ∀ st : SortSt, SrtO.Srtd lt (arrOf st).toList → SrtO.Stb lt (arrOf st).toList (ks.zip vs) → failedOf st = none → wpAny (model prog w) A (ksk_tail a false e1 (.ref kS) st) R E s := by
    intro st h1 h2 hf
    have hl := h2.len
    rw [List.length_zip, hlen, Nat.min_self, Array.length_toList] at hl
    refine key_tail (vs := vs) hk ha hka (by omega) (by omega) hf fun h' c k ho => ?_
    refine h _ h' c h1 h2 k ?_
    rw [ho]
    congr 2
    apply Array.toList_inj.mp
    simp
  unfold ksk_end
  try dsimp only
  simp only [Bool.false_eq_true, if_false]
  by_cases h2 : vs.toArray.size < 2
  · rw [if_pos h2, if_pos h2]
    refine wpAny_bind (wpAny_pure ?_)
    rw [StateT.run_pure]
    refine wpAny_bind (wpAny_pure ?_)
    try dsimp only
    refine fin (SortSt.mk' general' (ks.toArray.zip vs.toArray) #[] 7 none) ?_ (SrtO.Stb.of_eq ez) rfl
    show SrtO.Srtd lt (ks.toArray.zip vs.toArray).toList
    rw [ez]
    have hl : (ks.zip vs).length < 2 := by
      rw [List.length_zip, hlen, Nat.min_self]
      simpa using h2
    match ks.zip vs, hl with
    | [], _ => exact List.Pairwise.nil
    | [v], _ => exact List.pairwise_singleton _ _
    | _ :: _ :: l, h => exact absurd h (by rw [List.length_cons, List.length_cons]; omega)
  · rw [if_neg h2, if_neg h2]
    obtain ⟨κ, hkind, hT⟩ := hS (by simpa using h2)
    refine wpAny_bind (hkind _ _ ?_)
    have hall : SrtO.AllL (fun p : Keyed => p.1 ∈ ks) (ks.toArray.zip vs.toArray).toList := fun p hm => by
      rw [ez] at hm
      exact (List.of_mem_zip (show (p.1, p.2) ∈ ks.zip vs from hm)).1
    refine wpAny_bind (wpAny_mono (SrtO.wpS_sortO (st0 := SortSt.mk' κ (ks.toArray.zip vs.toArray) #[] 7 none)
      (Q := fun _ st' => SrtO.Srtd lt (arrOf st').toList ∧ SrtO.Stb lt (arrOf st').toList (ks.toArray.zip vs.toArray).toList ∧ failedOf st' = none) O hT rfl hall rfl rfl fun st' a1 a2 a3 => ⟨a1, a2, a3⟩) ?_ fun _ _ e => e)
    rintro ⟨⟨⟩, st'⟩ s' ⟨rfl, hp1, hp2, hf⟩
    try dsimp only
    rw [ez] at hp2
    exact fin st' hp1 hp2 hf
/-- sorted(l, key=f): J tells of the two lists that grow meanwhile -/
theorem sorted_key {l q : Addr} {vs : List Value} {Q : Value → Shared → Prop} (J : Addr → Addr → List Value → Shared → Prop) (hl : s.heap.IsList l vs.toArray) (hz : vs.length ≤ sizeLine)
    (start : ∀ (a kS : Addr) (h : Heap) (e1 : Nat), (∀ b o, s.heap.get? b = some o → h.get? b = some o) → s.heap.objs.size ≤ a → s.heap.objs.size ≤ kS → kS ≠ a → h.get? kS = some (seqObj "list" #[] 0) → h.get? a = some (seqObj "list" #[] e1) → J a kS [] { s with heap := h })
    (turn : ∀ (a kS : Addr) (e e1 : Nat) (ks : List Value) (x : Value) (s' : Shared), vs[ks.length]? = some x → J a kS ks s' → kS ≠ a → s'.heap.get? kS = some (seqObj "list" ks.toArray e) → s'.heap.get? a = some (seqObj "list" #[] e1) →
      wpAny (model prog w) A.in1.in1 (call (.ref q) [x]) (fun v s2 => s2.heap.get? kS = some (seqObj "list" ks.toArray e) ∧ s2.heap.get? a = some (seqObj "list" #[] e1) ∧
        ∀ h3, (∀ b o, b ≠ kS → s2.heap.get? b = some o → h3.get? b = some o) → J a kS (ks ++ [v]) { s2 with heap := h3 }) (fun _ _ => False) s')
    (done : ∀ (a kS : Addr) (e e1 : Nat) (ks : List Value) (s' : Shared), J a kS ks s' → ks.length = vs.length → kS ≠ a → s'.heap.get? kS = some (seqObj "list" ks.toArray e) → s'.heap.get? a = some (seqObj "list" #[] e1) →
      ∃ lt : Keyed → Keyed → Bool, SrtO.Swo lt ∧ (2 ≤ vs.length → ∃ κ, (∀ (Q : SortKind → Shared → Prop) (E : Value → Shared → Prop), Q κ s' → wpAny (model prog w) A.in1.in1 (keyKind' ks.toArray) Q E s') ∧ SrtO.Cmp prog w A.in1.in1 s' κ (fun p => p.1 ∈ ks) lt) ∧
        ∀ (ps : List Keyed) h' c, SrtO.Srtd lt ps → SrtO.Stb lt ps (ks.zip vs) → (∀ b o, b ≠ a → b ≠ kS → s'.heap.get? b = some o → h'.get? b = some o) → h'.get? a = some (seqObj "list" (ps.map (·.2)).toArray c) → Q (.ref a) { s' with heap := h' }) :
    wpAny (model prog w) A (call (.builtin "sorted") [.ref l] [(Str.ofString "key", .ref q)]) Q E s := by
  refine call_function_entry_kw kind_sorted plain_sorted entry_sorted (ksk_s1 _ _) ?_
  unfold Builtin.«sorted»
  refine wpAny_bind (m := checkCount "sorted" 1 1 _) (wpAny_pure ?_)
  refine wpAny_bind (collect_list hl ?_ hz)
  refine wpAny_bind (wpAny_newList ?_ hz)
  have hsz : ((s.heap.push (seqObj "list" #[] 0)).update s.heap.objs.size (Obj.mapSeq (· ++ vs.toArray))).objs.size = s.heap.objs.size + 1 := by
    rw [Heap.size_update, size_push']
  have hoL : (((s.heap.push (seqObj "list" #[] 0)).update s.heap.objs.size (Obj.mapSeq (· ++ vs.toArray))).push (seqObj "list" vs.toArray 0)).get? (s.heap.objs.size + 1) = some (seqObj "list" vs.toArray 0) := by
    rw [← hsz]; exact Heap.get?_push_size _ rfl
  have keep : ∀ b o, s.heap.get? b = some o → b < s.heap.objs.size ∧ (((s.heap.push (seqObj "list" #[] 0)).update s.heap.objs.size (Obj.mapSeq (· ++ vs.toArray))).push (seqObj "list" vs.toArray 0)).get? b = some o := fun b o q => by
    have hlt : b < s.heap.objs.size := Heap.lt_size q
    refine ⟨hlt, Heap.get?_push_of_some _ ?_⟩
    rw [Heap.get?_update_ne _ _ _ _ (Nat.ne_of_lt hlt)]
    exact Heap.get?_push_of_some _ q
  show wpAny _ _ _ _ _ { s with heap := ((s.heap.push (seqObj "list" #[] 0)).update s.heap.objs.size (Obj.mapSeq (· ++ vs.toArray))).push (seqObj "list" vs.toArray 0) }
  rw [hsz]
  generalize hg : ((s.heap.push (seqObj "list" #[] 0)).update s.heap.objs.size (Obj.mapSeq (· ++ vs.toArray))).push (seqObj "list" vs.toArray 0) = g at hoL keep ⊢
  have gsz : g.objs.size = s.heap.objs.size + 2 := by
    rw [← hg, size_push', hsz]
  refine wpAny_bind (wpAny_holding (wpAny_call_entry_kw slot_list_sort ⟨_, hoL, rfl⟩ entry_list_sort ?body (ksk_l1 _ _)))
  case body =>
    rw [ksk_t1]
    have ha : s.heap.objs.size + 1 < g.objs.size := Heap.lt_size hoL
    have s1 := Heap.SameBut.update g (s.heap.objs.size + 1) (Obj.mapSeq fun _ => (#[] : Array Value))
    obtain ⟨e1, ho1⟩ : ∃ e1, (g.update (s.heap.objs.size + 1) (Obj.mapSeq fun _ => (#[] : Array Value))).get? (s.heap.objs.size + 1) = some (seqObj "list" #[] e1) := ⟨_, get?_update_seq hoL fun _ => #[]⟩
    have hkS : ((g.update (s.heap.objs.size + 1) (Obj.mapSeq fun _ => (#[] : Array Value))).push (seqObj "tuple" vs.toArray 0)).objs.size = s.heap.objs.size + 3 := by rw [size_push', Heap.size_update, gsz]
    unfold ksk_tree
    refine wpAny_bind (listItems_at hoL rfl ?_)
    refine wpAny_bind (listUpdate_at hoL rfl ?_ (by rw [List.size_toArray]; exact hz) (Nat.zero_le _))
    refine wpAny_bind (seqEpoch_at ho1 rfl ?_)
    refine wpAny_bind (wpAny_newTuple ?_ (by show vs.length ≤ _; exact hz))
    refine wpAny_bind (wpAny_newList ?_ (Nat.zero_le _))
    refine wpAny_holding ?_
    have hk0 : (((g.update (s.heap.objs.size + 1) (Obj.mapSeq fun _ => (#[] : Array Value))).push (seqObj "tuple" vs.toArray 0)).push (seqObj "list" #[] 0)).get? (s.heap.objs.size + 3) = some (seqObj "list" #[] 0) := by
      rw [← hkS]; exact Heap.get?_push_size _ rfl
    have ha0 : (((g.update (s.heap.objs.size + 1) (Obj.mapSeq fun _ => (#[] : Array Value))).push (seqObj "tuple" vs.toArray 0)).push (seqObj "list" #[] 0)).get? (s.heap.objs.size + 1) = some (seqObj "list" #[] e1) :=
      Heap.get?_push_of_some _ (Heap.get?_push_of_some _ ho1)
    have keep2 : ∀ b o, s.heap.get? b = some o → (((g.update (s.heap.objs.size + 1) (Obj.mapSeq fun _ => (#[] : Array Value))).push (seqObj "tuple" vs.toArray 0)).push (seqObj "list" #[] 0)).get? b = some o := fun b o e => by
      obtain ⟨hlt, e'⟩ := keep b o e
      refine Heap.get?_push_of_some _ (Heap.get?_push_of_some _ ((s1.2 b ?_).trans e'))
      exact Nat.ne_of_lt (Nat.lt_succ_of_lt hlt)
    show wpAny (model prog w) A.in1.in1 (ksk_rest (s.heap.objs.size + 1) (.ref q) false vs.toArray _ (.ref ((g.update (s.heap.objs.size + 1) (Obj.mapSeq fun _ => (#[] : Array Value))).push (seqObj "tuple" vs.toArray 0)).objs.size)) _ _ { s with heap := ((g.update (s.heap.objs.size + 1) (Obj.mapSeq fun _ => (#[] : Array Value))).push (seqObj "tuple" vs.toArray 0)).push (seqObj "list" #[] 0) }
    rw [hkS]
    have hne : s.heap.objs.size + 3 ≠ s.heap.objs.size + 1 := by omega
    have J0 := start (s.heap.objs.size + 1) (s.heap.objs.size + 3) _ e1 keep2 (by show s.heap.objs.size ≤ s.heap.objs.size + 1; omega) (by show s.heap.objs.size ≤ s.heap.objs.size + 3; omega) hne hk0 ha0
    generalize s.heap.objs.size + 1 = a at *
    generalize s.heap.objs.size + 3 = kS at *
    generalize ((g.update a (Obj.mapSeq fun _ => (#[] : Array Value))).push (seqObj "tuple" vs.toArray 0)).push (seqObj "list" #[] 0) = h6 at *
    unfold ksk_rest
    refine wpAny_bind (wpAny_rule ?_)
    first
      | rw [List.forIn_toArray]
      | (rw [← Array.forIn_toList]; simp only [List.toList_toArray])
      | rw [← Array.forIn_toList]
    refine wpAny_bind (ksk_fold (fun i s' => ∃ ks e, ks.length = i ∧ J a kS ks s' ∧ s'.heap.get? kS = some (seqObj "list" ks.toArray e) ∧ s'.heap.get? a = some (seqObj "list" #[] e1)) vs 0 _
      ⟨[], 0, rfl, J0, hk0, ha0⟩ ?step ?done)
    case step =>
      rintro j x s' hx ⟨ks, e, hlen, hJ, hk, ha'⟩
      simp only [Nat.zero_add] at hlen ⊢
      have hj : j < vs.length := (List.getElem?_eq_some_iff.mp hx).1
      refine wpAny_bind (wpAny_attempt (wpAny_mono (turn a kS e e1 ks x s' (by rw [hlen]; exact hx) hJ hne hk ha') (fun v s'' he => ?_) fun _ _ hF => hF.elim))
      obtain ⟨hk2, ha2, hJ2⟩ := he
      try dsimp only
      have s1 := Heap.SameBut.update s''.heap kS (Obj.mapSeq (·.push v))
      obtain ⟨c2, hc2⟩ : ∃ c2, (s''.heap.update kS (Obj.mapSeq (·.push v))).get? kS = some (seqObj "list" (ks.toArray.push v) c2) := ⟨_, get?_update_seq hk2 (·.push v)⟩
      have ea : ks.toArray.push v = (ks ++ [v]).toArray := by simp
      refine wpAny_bind (listUpdate_at hk2 rfl ?_ (by rw [List.size_toArray]; omega) (by rw [Array.size_push, List.size_toArray]; omega))
      refine wpAny_pure ⟨rfl, ks ++ [v], c2, by rw [List.length_append, List.length_singleton, hlen], hJ2 _ fun b o hb q => (s1.2 b hb).trans q, ?_, (s1.2 a hne.symm).trans ha2⟩
      rw [← ea]
      exact hc2
    case done =>
      rintro s' ⟨ks, e, hlen, hJ, hk, ha'⟩
      rw [Nat.zero_add] at hlen
      try dsimp only
      refine wpAny_bind (listItems_at hk rfl ?_)
      obtain ⟨lt, O, hS, hq⟩ := done a kS e e1 ks s' hJ hlen hne hk ha'
      exact key_end O hk ha' hne hlen hz hS fun ps h' c h1 h2 k ho => ⟨_, rfl, wpAny_pure ⟨_, rfl, hq ps h' c h1 h2 k ho⟩⟩
end
end Sk
namespace Sk
open PySem PySem.Spec PyProof.Rows L2
/-- the key that a tracked tuple is -/
def kvOf (H : Hp) : Value → Int × Str
  | .ref p => match H p with
    | some (.tup [.int i, .str n]) => (i, n)
    | _ => (0, Str.empty)
  | _ => (0, Str.empty)
theorem kvOf_at {H : Hp} {p : Addr} {i : Int} {n : Str} (h : H p = some (.tup [.int i, .str n])) : kvOf H (.ref p) = (i, n) := by
  show (match H p with
    | some (.tup [.int i, .str n]) => (i, n)
    | _ => (0, Str.empty)) = (i, n)
  rw [h]
/-- sorted(e, key=lambda y: ..): the key of each item y is the pair k y -/
def SortLamQ (K : PySem.W.Frag) (T : List (Addr × Str)) (N : List Str) (tk : TE) (Q : VK) : VK := fun x H1 => ∃ (a : Addr) (xs : List V) (k : V → Int × Str), x = .ref a ∧ SqL K H1 a xs ∧ (∀ y ∈ xs, ∃ t, y = V.ref t) ∧ LamX.Tabs T H1 ∧
  (∀ y ∈ xs, ∀ H2, LamX.ExtN H1 H2 → ∀ Q' : VK, (∀ p, H2 p = none → Q' (.ref p) (upd H2 p (.tup [.int (k y).1, .str (k y).2]))) → tk (start N [y]) H2 Q') ∧
  ∀ ys a' H', SrtO.Srtd (fun x y => kLt (k x) (k y)) ys → ys.Perm xs → LamX.ExtN H1 H' → LamX.Tabs T H' → H' a' = none → Q (.ref a') (upd H' a' (.lst ys))
def tSortLam (K : PySem.W.Frag) (T : List (Addr × Str)) (N : List Str) (tk te : TE) : TE := fun σ H Q => te σ H (SortLamQ K T N tk Q)
/-- what is known between two keys -/
def KeyJ (X : Cx) (H1 : Hp) (s1 : Shared) (k : V → Int × Str) (xs : List V) (a kS : Addr) (ks : List Value) (s' : Shared) : Prop :=
  ∃ H' : Hp, s'.os = s1.os ∧ AllBare s'.gens ∧ Un (frs X.stack) [] H1 H' s1.heap s'.heap ∧ HOk X.prog X.w H' s'.heap ∧ (∀ b o, H1 b = some o → H' b = some o) ∧ H' a = none ∧ H' kS = none ∧ s1.heap.objs.size ≤ a ∧ s1.heap.objs.size ≤ kS ∧
    ks.length ≤ xs.length ∧ ∀ (i : Nat) (u : Value), ks[i]? = some u → ∃ p y, u = Value.ref p ∧ xs[i]? = some y ∧ H' p = some (.tup [.int (k y).1, .str (k y).2])
section
variable {X : Cx}
theorem zip_get {ks its : List Value} {p : Keyed} (h : p ∈ ks.zip its) : ∃ i : Nat, ks[i]? = some p.1 ∧ its[i]? = some p.2 := by
  obtain ⟨i, hi, e⟩ := List.mem_iff_getElem.mp h
  rw [List.length_zip] at hi
  refine ⟨i, ?_, ?_⟩
  · rw [List.getElem?_eq_getElem (by omega), ← e, List.getElem_zip]
  · rw [List.getElem?_eq_getElem (by omega), ← e, List.getElem_zip]
theorem pe_sortLam {T : List (Addr × Str)} {N ps : List Str} {c P : Addr} {k : Nat} {e : Expr} {te tk : TE} {params : Arguments} {body : Expr} {scope : Scope} {p lpos kpos pos : Pos}
    (hg : Gl X "sorted") (hm : X.mg "sorted" = none) (hr : Room (k + 3) X.A) (TB : LamX.TabB X.base X.mg c P) (hcode : X.env.code = .ref c) (hmT : (P, X.env.qual ++ "<lambda>") ∈ T) (hu : ∀ p ∈ T, p.1 = P → p.2 = X.env.qual ++ "<lambda>")
    (S : FnScope N ps scope) (hdef : defaultsOf params X.env = ([], [])) (hclo : ∀ cells, cloFrom cells scope.names [] = []) (h1 : ps.length = 1)
    (hbind : ∀ (q : Str) (pm cv ctv : Value) (us : List Value), us.length = 1 → bindArgs (PySem.W.kla_fn "<lambda>" q params body scope [] pm cv ctv) ⟨us, []⟩ = pure (ps.zip us))
    (ha : PA X [e] (tCons te tNil)) (hbody : ∀ (A : Around) (outer : List Env) (s : Shared) (H : Hp) (E : XK) (f c' : Addr), PE (cxOf CX0 X.prog X.w X.K X.mg X.base N (X.env.qual ++ "<lambda>") scope f (.ref c') A outer s H E) body tk)
    (hst : backTo pos (starEach [e] X.env) = (false, eval e X.env) :: backTo pos (starEach [] X.env) := by rfl) (hpl : (backTo pos (starEach [e] X.env)).any (·.1) = false := by rfl) :
    PE X (.Call (.Name "sorted" p) [e] [⟨some "key", .Lambda params body scope lpos, kpos⟩] pos) (tSortLam X.K T N tk te) := by
  refine ⟨fun pins s0 σ H0 Q I0 h => ?_⟩
  refine wpAny_Call_Name_kw (ld_blt I0 hg hm (show bootBuiltins "sorted" = some (.builtin "sorted") by decide +kernel) ?_ (by decide) (by decide))
  refine PyProof.Rows.callWith_kw (thn (ha.run pos pins s0 σ H0 (fun vs H1 => match vs with | [x] => SortLamQ X.K T N tk Q x H1 | _ => False) I0 h) fun us s h2 => ?kw) hst hpl rfl rfl
  case kw =>
    obtain ⟨vs, H, I, rv, q⟩ := h2
    obtain ⟨x, rfl⟩ : ∃ x, vs = [x] := by
      match vs, q with
      | [x], _ => exact ⟨x, rfl⟩
    obtain ⟨a0, xs, kk, rfl, hs, hrf, hT, hk, hq⟩ := (show SortLamQ X.K T N tk Q x H from q)
    obtain ⟨u0, rfl, ru⟩ := vals1 rv
    obtain rfl : u0 = Value.ref a0 := ru
    show wpAny _ _ (evalAll [(do let v ← eval (.Lambda params body scope lpos) X.env; standAt pos; pure v)]) _ _ s
    refine wpAny_evalAll_cons (wpAny_bind (LamX.lam_make2 I TB hcode hmT hu hT hdef (fun y hy e0 => ?_) fun f c' pm ctv H1 s1 I1 eN T1 hf hfn hfr hco => wpAny_bind (wpAny_standAt (wpAny_pure ?_))))
    · exact absurd e0 (S.nofree y hy)
    refine wpAny_evalAll_nil ?_
    show wpAny _ _ (call (.builtin "sorted") [.ref a0] [(Str.ofString "key", .ref f)]) _ _ s1
    rw [hclo] at hf
    have hs1 : SqL X.K H1 a0 xs := by
      rcases hs with (z | ⟨o, z⟩) | z
      · exact .inl (.inl (eN _ _ z (fun ps e => by cases e)))
      · exact .inl (.inr ⟨o, eN _ _ z (fun ps e => by cases e)⟩)
      · exact .inr z
    obtain ⟨its, rvs, hl, hz⟩ := I1.list hs1
    obtain ⟨e1, e2⟩ := refs_back rvs hrf
    have xlen : its.length = xs.length := rvs.length.symm
    have nofr : ∀ b, s1.heap.objs.size ≤ b → b ∉ frs X.stack := fun b hb z => by
      rcases List.mem_cons.mp (I1.stkSub _ z) with e | e
      · have h1 := I1.lt
        rw [← e] at h1
        exact Nat.lt_irrefl _ (Nat.lt_of_lt_of_le h1 hb)
      · exact I1.nofs hb e
    refine sorted_key (KeyJ X H1 s1 kk xs) hl.isList (by rw [xlen]; exact hz) ?start ?turn ?done
    case start =>
      intro a kS h e1' kp ha hkS hne ho1 ho2
      refine ⟨H1, rfl, I1.bare, Un.kept kp, I1.hok.kept kp, fun _ _ z => z, I1.hok.fresh ha, I1.hok.fresh hkS, ha, hkS, Nat.zero_le _, fun i u z => ?_⟩
      simp at z
    case turn =>
      rintro a kS e e1' ks u s' hu' ⟨H', os, bare, un, hok, ext, na, nk, ha, hkS, hle, hkeys⟩ hne ho1 ho2
      obtain ⟨y, hy, ry⟩ : ∃ y, xs[ks.length]? = some y ∧ RelV y u := by
        have hlt : ks.length < xs.length := by
          rw [← xlen]
          exact (List.getElem?_eq_some_iff.mp hu').1
        obtain ⟨u2, q1, q2⟩ := rvs.get (List.getElem?_eq_getElem hlt)
        rw [hu'] at q1
        cases q1
        exact ⟨_, List.getElem?_eq_getElem hlt, q2⟩
      have ym : y ∈ xs := List.mem_of_getElem? hy
      have I2 : Inv X pins σ H' s' := I1.call' (ch := []) os un hok bare fun b z => absurd z (by simp)
      have e0 := (I2.env0.in1).in1
      have of1 : s'.heap.get? f = _ := un.keep f _ hf hfn hfr (by simp)
      have eN2 : LamX.ExtN H H' := eN.trans fun b o z _ => ext b o z
      have rc : codeAny (model X.prog X.w) X.A.in1.in1 (.call (.ref f) ⟨[u], []⟩) (CR CX0 X.stack X.prog X.w H' s' (fun v H3 => ∃ p, v = V.ref p ∧ H' p = none ∧ H3 = upd H' p (.tup [.int (kk y).1, .str (kk y).2])) E0) s' :=
        lam_run (N := N) (ps := ps) (us := [u]) (vs := [y]) of1 S (hbind _ _ _ _ _ rfl) (hr.in1.in1 : Room (k + 1) X.A.in1.in1) e0 (ext _ _ hco) (.cons ry .nil) h1.symm (hbody _ _ _ _ _ _ _) (hk y ym H' eN2 _ fun p hp => ⟨p, rfl, hp, rfl⟩)
      refine wpAny_call (codeAny_mono rc fun r s2 hr2 => ?_)
      cases r with
      | error e => exact (show False from hr2).elim
      | ok fl =>
        cases fl with
        | next => exact False.elim hr2
        | brk => exact False.elim hr2
        | cont => exact False.elim hr2
        | ret v =>
          obtain ⟨v', H3, os2, bare2, un2, hok2, r2, p, rfl, np, rfl⟩ := hr2
          obtain rfl : v = Value.ref p := r2
          have kk1 := un2.keep kS _ ho1 nk (nofr _ hkS) (by simp)
          have kk2 := un2.keep a _ ho2 na (nofr _ ha) (by simp)
          have n1 := un2.free kS _ ho1 nk (by simp)
          have n2 := un2.free a _ ho2 na (by simp)
          have ext3 : ∀ b o, H' b = some o → upd H' p (.tup [.int (kk y).1, .str (kk y).2]) b = some o := fun b o z => by
            rw [upd_ne (ne_of_none z np)]
            exact z
          refine ⟨kk1, kk2, fun h3 k3 => ⟨upd H' p (.tup [.int (kk y).1, .str (kk y).2]), os2.trans os, bare2, un_but (un.trans un2) fun b o hb q => k3 b o (fun z => by rw [z] at hb; exact Nat.lt_irrefl _ (Nat.lt_of_lt_of_le hb hkS)) q, hok_but hok2 fun b o hb q => k3 b o (fun z => hb (by rw [z]; exact n1)) q,
            fun b o z => ext3 b o (ext b o z), n2, n1, ha, hkS, ?_, fun i w hi => ?_⟩⟩
          · rw [List.length_append, List.length_singleton]
            exact (List.getElem?_eq_some_iff.mp hy).1
          · by_cases hlt : i < ks.length
            · rw [List.getElem?_append_left hlt] at hi
              obtain ⟨p', y', q1, q2, q3⟩ := hkeys i w hi
              exact ⟨p', y', q1, q2, ext3 _ _ q3⟩
            · rw [List.getElem?_append_right (by omega)] at hi
              have ei : i - ks.length = 0 := by
                have := (List.getElem?_eq_some_iff.mp hi).1
                simp at this
                omega
              rw [ei] at hi
              have : w = Value.ref p := by simpa using hi.symm
              subst this
              have e3 : i = ks.length := by omega
              rw [e3]
              exact ⟨p, y, rfl, hy, upd_same⟩
    case done =>
      rintro a kS e e1' ks s' ⟨H', os, bare, un, hok, ext, na, nk, ha, hkS, hle, hkeys⟩ hlen hne ho1 ho2
      have at_ : ∀ (i : Nat) (v : Value), ks[i]? = some v → ∃ y, xs[i]? = some y ∧ kvOf H' v = kk y ∧ IsT2 s'.heap v (kvOf H' v) [] := fun i v hi => by
        obtain ⟨p, y, rfl, q1, q2⟩ := hkeys i v hi
        have e3 := kvOf_at q2
        refine ⟨y, q1, e3, ?_⟩
        rw [e3]
        obtain ⟨_, its2, r2, o, ho, hc, n, hd⟩ := hok _ _ q2
        obtain ⟨u1, u2, rfl, ri, rj⟩ := vals2 r2
        obtain ⟨t1, rfl⟩ := ri
        obtain ⟨t2, rfl⟩ := rj
        exact ⟨p, o, t1, t2, n, rfl, ho, hc, hd⟩
      have tup : ∀ v ∈ ks, IsT2 s'.heap v (kvOf H' v) [] := fun v hv => by
        obtain ⟨i, hi⟩ := List.mem_iff_getElem?.mp hv
        obtain ⟨y, _, _, q⟩ := at_ i v hi
        exact q
      refine ⟨SrtO.lt2 fun v u => kLt (kvOf H' v) (kvOf H' u), SrtO.swo2 (kLt_swo fun v => kvOf H' v), fun h2 => ⟨tuples' true, fun Q2 E2 hq2 => ?_, t2_cmp (rest := fun _ => []) tup (fun _ _ _ z => absurd z (by simp)) fun _ _ _ _ _ => rfl⟩, fun ps h' c hs hb kp ho => ?_⟩
      · obtain ⟨fs, f1, f2, f3⟩ := t2_firsts (rest := fun _ => []) tup
        refine PySem.W.kat_kind (T := .type "int") f1 (by omega) (fun f hm => ?_) (by rfl) ?_
        · obtain ⟨x, t, rfl⟩ := f3 f hm
          exact PySem.W.Looks.now
        · have e : (Value.type "int" != Value.type "tuple") = true := by first | decide +kernel | rfl | decide
          rw [e]
          exact hq2
      · have pm : ∀ p ∈ ps, kvOf H' p.1 = kk (backV p.2) ∧ p.2 ∈ its := fun p hp => by
          obtain ⟨i, q1, q2⟩ := zip_get (hb.perm.mem_iff.mp hp)
          obtain ⟨y, q3, q4, _⟩ := at_ i _ q1
          rw [e1, List.getElem?_map, q2] at q3
          have q5 : backV p.2 = y := by simpa using q3
          rw [q5]
          exact ⟨q4, List.mem_of_getElem? q2⟩
        have outm : ∀ u ∈ ps.map (·.2), ∃ a, u = Value.ref a := fun u hu => by
          obtain ⟨p, hp, rfl⟩ := List.mem_map.mp hu
          exact e2 _ (pm p hp).2
        have perm : (ps.map (·.2)).Perm its := by
          have z := hb.perm.map (fun p : Keyed => p.2)
          rwa [List.map_snd_zip (by omega)] at z
        have permV : ((ps.map (·.2)).map backV).Perm xs := by
          rw [e1]
          exact perm.map backV
        have srt : SrtO.Srtd (fun x y => kLt (kk x) (kk y)) ((ps.map (·.2)).map backV) := by
          rw [List.map_map]
          refine List.pairwise_map.mpr ?_
          refine List.Pairwise.imp_of_mem (fun {p q} hp hq z => ?_) hs
          have z' : kLt (kvOf H' q.1) (kvOf H' p.1) = false := z
          rw [(pm p hp).1, (pm q hq).1] at z'
          exact z'
        have olen : ((ps.map (·.2)).map backV).length ≤ sizeLine := by
          rw [permV.length_eq]
          exact hz
        have kp' : ∀ b o, H' b ≠ none → s'.heap.get? b = some o → h'.get? b = some o := fun b o hb q => kp b o (fun z => hb (by rw [z]; exact na)) (fun z => hb (by rw [z]; exact nk)) q
        refine ⟨.ref a, upd H' a (.lst ((ps.map (·.2)).map backV)), ?_, rfl, hq _ a H' srt permV (eN.trans fun b o z _ => ext b o z) (T1.ext ext) na⟩
        refine I1.call' (ch := []) (s' := { s' with heap := h' }) os (un_late (un_but un fun b o hb q => kp b o (fun z => by rw [z] at hb; exact Nat.lt_irrefl _ (Nat.lt_of_lt_of_le hb ha)) (fun z => by rw [z] at hb; exact Nat.lt_irrefl _ (Nat.lt_of_lt_of_le hb hkS)) q) ha na)
          (hok_late (hok_but hok kp') na ⟨olen, _, c, vals_back outm, ho⟩) bare fun b z => absurd z (by simp)
end
end Sk
namespace Sk
open PySem PySem.Spec PyProof.Rows L2
theorem ne_of_none' {H : Hp} {a b : Addr} {o : HO} (h : upd H b o a = none) : a ≠ b := fun z => by
  rw [z, upd_same] at h
  cases h
/-! ### own functions by name -/
structure Fn (P : Program) (w : World) (K : PySem.W.Frag) (mg : Str → Option Value) (base : Heap) (x : Str) (k : Nat) (ps : List Str) (sp : Sp) : Prop where
  ex : ∃ (f : Addr) (fd : FuncData), FnOk P w K mg base CX0 k f fd ps sp ∧ mg x = some (.ref f) ∧ PySem.W.keepIn K (.ref f) = true ∧ Binds K fd ps []
/-- with keywords alone, n values written, the keywords ks -/
structure FnK (P : Program) (w : World) (K : PySem.W.Frag) (mg : Str → Option Value) (base : Heap) (x : Str) (k : Nat) (ps : List Str) (sp : Sp) (n : Nat) (ks : List Str) (gV : List V → List V → List V) : Prop where
  ex : ∃ (f : Addr) (fd : FuncData) (g : List Value → List Value → List Value), FnOk P w K mg base CX0 k f fd ps sp ∧ mg x = some (.ref f) ∧ PySem.W.keepIn K (.ref f) = true ∧ KBn K fd ps n ks g gV
section
variable {X : Cx} {x : Str} {k n : Nat} {ps ks : List Str} {sp : Sp} {gV : List V → List V → List V} {e : Expr} {es : List Expr} {t tk : TA} {kws : List Keyword} {p pos : Pos}
theorem pe_fn (F : Fn X.prog X.w X.K X.mg X.base x k ps sp) (hr : Room k X.A) (ha : PA X (e :: es) t) (hg : Gl X x := by rfl) (hdb : (x == ("__debug__" : Str)) = false := by decide)
    (he : starEach (e :: es) X.env = (false, eval e X.env) :: starEach es X.env := by rfl) (hpl : (backTo pos (starEach es X.env)).any (·.1) = false := by rfl) : PE X (.Call (.Name x p) (e :: es) [] pos) (tCall sp [] E0 t) := by
  obtain ⟨f, fd, F1, hm, hk, hb⟩ := F.ex
  exact pe_call F1 hr hg hm hk hb .nil pass0 ha hdb he hpl
theorem pe_fnK (F : FnK X.prog X.w X.K X.mg X.base x k ps sp n ks gV) (hr : Room k X.A) (ha : PA X (e :: es) t) (hkw : PK X kws tk) (hg : Gl X x := by rfl) (hdb : (x == ("__debug__" : Str)) = false := by decide)
    (hall : (backToKw pos (keywordEach kws X.env)).all (·.1.isSome) = true := by rfl) (hks : (backToKw pos (keywordEach kws X.env)).filterMap (·.1) = ks := by rfl)
    (he : starEach (e :: es) X.env = (false, eval e X.env) :: starEach es X.env := by rfl)
    (hpl : ((backTo pos (starEach (e :: es) X.env)).any (·.1) || (backToKw pos (keywordEach kws X.env)).any (·.1.isNone)) = false := by rfl) : PE X (.Call (.Name x p) (e :: es) kws pos) (tCallN n ks.length sp gV E0 t tk) := by
  obtain ⟨f, fd, g, F1, hm, hk, hb⟩ := F.ex
  exact pe_callN F1 hr hg hm hk hb pass0 ha hkw hall hks hdb he hpl
theorem pe_fnK0 (F : FnK X.prog X.w X.K X.mg X.base x k ps sp 0 ks gV) (hr : Room k X.A) (hkw : PK X kws tk) (hg : Gl X x := by rfl) (hdb : (x == ("__debug__" : Str)) = false := by decide)
    (hall : (backToKw pos (keywordEach kws X.env)).all (·.1.isSome) = true := by rfl) (hks : (backToKw pos (keywordEach kws X.env)).filterMap (·.1) = ks := by rfl)
    (hpl : ((backTo pos (starEach [] X.env)).any (·.1) || (backToKw pos (keywordEach kws X.env)).any (·.1.isNone)) = false := by rfl) : PE X (.Call (.Name x p) [] kws pos) (tCallN 0 ks.length sp gV E0 tNil tk) := by
  obtain ⟨f, fd, g, F1, hm, hk, hb⟩ := F.ex
  refine ⟨fun pins s σ H Q I h => ?_⟩
  refine wpAny_Call_Name_kw (ld_glob I hg hm ?_ hdb)
  refine PySem.W.callWith_KW0 (h₀ := X.base) I.ok.mod.kin hk hall ?_ hpl
  refine thn (hkw.run pos pins s σ H _ I h) fun ws s2 ⟨zs, H2, I2, rz, l1, l2, q2⟩ => ⟨I2.kIn, ?_⟩
  rw [hks]
  exact run_fnN (us := []) (vs := []) F1 hr hb pass0 I2 .nil rz rfl l2 q2
/-- constants of the module -/
theorem pe_gs {z : Str} (h : ∃ t, X.mg x = some (.str z t)) (hg : Gl X x := by rfl) (hd : (x == ("__debug__" : Str)) = false := by decide) : PE X (.Name x pos) (tC (.str z)) := by
  obtain ⟨t, e⟩ := h
  exact pe_glob hg e ⟨t, rfl⟩ hd
theorem pe_gi {z : Int} (h : ∃ t, X.mg x = some (.int z t)) (hg : Gl X x := by rfl) (hd : (x == ("__debug__" : Str)) = false := by decide) : PE X (.Name x pos) (tC (.int z)) := by
  obtain ⟨t, e⟩ := h
  exact pe_glob hg e ⟨t, rfl⟩ hd
end
/-! ### heaps -/
/-- a heap grows: all but tables stand, the tables T stay tables -/
structure Gr (T : List (Addr × Str)) (H H' : Hp) : Prop where
  ext : LamX.ExtN H H'
  tab : LamX.Tabs T H → LamX.Tabs T H'
theorem Gr.refl {T : List (Addr × Str)} (H : Hp) : Gr T H H := ⟨LamX.ExtN.refl H, id⟩
theorem Gr.trans {T : List (Addr × Str)} {H H1 H2 : Hp} (a : Gr T H H1) (b : Gr T H1 H2) : Gr T H H2 := ⟨a.ext.trans b.ext, fun t => b.tab (a.tab t)⟩
theorem Gr.same {T : List (Addr × Str)} {H H' : Hp} (s : Same H H') : Gr T H H' := ⟨LamX.ExtN.of s, fun t => t.ext s⟩
theorem Same.upd {H : Hp} {p : Addr} {o : HO} (h : H p = none) : Same H (upd H p o) := fun b u e => by
  rw [upd_ne (ne_of_none e h)]
  exact e
theorem Gr.new {T : List (Addr × Str)} {H : Hp} {p : Addr} {o : HO} (h : H p = none) : Gr T H (upd H p o) := Gr.same (Same.upd h)
/-- neither a table nor a code object -/
def NoTab (o : HO) : Prop := (∀ ps, o ≠ .tbl ps) ∧ ∀ f, o ≠ .ext f
theorem NoTab.lst {xs : List V} : NoTab (.lst xs) := ⟨(fun _ e => by cases e), (fun _ e => by cases e)⟩
theorem NoTab.tup {xs : List V} : NoTab (.tup xs) := ⟨(fun _ e => by cases e), (fun _ e => by cases e)⟩
theorem NoTab.dK {xs : List (Key × V)} : NoTab (.dK xs) := ⟨(fun _ e => by cases e), (fun _ e => by cases e)⟩
theorem NoTab.ins {C dx : Addr} {fs : List (Str × V)} : NoTab (.ins C dx fs) := ⟨(fun _ e => by cases e), (fun _ e => by cases e)⟩
theorem Gr.at {T : List (Addr × Str)} {H H' : Hp} {a : Addr} {o : HO} (g : Gr T H H') (h : H a = some o) (n : NoTab o) : H' a = some o := g.ext a o h n.1
theorem Gr.free {T : List (Addr × Str)} {H H' : Hp} {a : Addr} (g : Gr T H H') (h : H' a = none) (n : ∀ ps, H a ≠ some (.tbl ps)) : H a = none := by
  cases q : H a with
  | none => rfl
  | some o =>
    have := g.ext a o q (fun ps e => n ps (by rw [q, e]))
    rw [h] at this
    cases this
theorem Gr.ext_seq {T : List (Addr × Str)} {K : PySem.W.Frag} {H H' : Hp} {a : Addr} {xs : List V} (g : Gr T H H') (h : SqL K H a xs) : SqL K H' a xs := by
  rcases h with (z | ⟨o, z⟩) | z
  · exact .inl (.inl (g.ext _ _ z (fun ps e => by cases e)))
  · exact .inl (.inr ⟨o, g.ext _ _ z (fun ps e => by cases e)⟩)
  · exact .inr z
/-- nothing but a table stands there -/
def Nw (H : Hp) (a : Addr) : Prop := ∀ u, H a = some u → ∃ ps, u = .tbl ps
theorem Nw.of {H : Hp} {a : Addr} (h : H a = none) : Nw H a := fun u e => by
  rw [h] at e
  cases e
theorem Gr.nw {T : List (Addr × Str)} {H H' : Hp} {a : Addr} (g : Gr T H H') (h : Nw H' a) : Nw H a := fun u e => by
  cases u with
  | tbl ps => exact ⟨ps, rfl⟩
  | _ =>
    obtain ⟨ps, z⟩ := h _ (g.ext _ _ e (fun ps z => by cases z))
    cases z
/-- a cell that H does not know is written -/
theorem Gr.mut {T : List (Addr × Str)} {H H' : Hp} {a : Addr} {o0 o : HO} (g : Gr T H H') (h : Nw H a) (h0 : H' a = some o0) (nt : NoTab o0) : Gr T H (upd H' a o) := by
  refine ⟨fun b u e n => ?_, fun t p hp => ?_⟩
  · rw [upd_ne (fun z => by
      rw [z] at e
      obtain ⟨ps, q⟩ := h _ e
      exact n ps q)]
    exact g.ext b u e n
  · obtain ⟨ps, b1, b2, b3⟩ := g.tab t p hp
    have na : p.1 ≠ a := fun z => by
      rw [z, h0] at b1
      cases b1
      exact nt.1 ps rfl
    refine ⟨ps, by rw [upd_ne na]; exact b1, b2, fun po cv hc => ?_⟩
    obtain ⟨c', e1, e2⟩ := b3 po cv hc
    refine ⟨c', e1, ?_⟩
    rw [upd_ne (fun z => by
      rw [z, h0] at e2
      cases e2
      exact nt.2 _ rfl)]
    exact e2
/-- a frozen part of the heap -/
structure Fz (G H : Hp) : Prop where
  sub : Same G H
  nt : ∀ a o, G a = some o → NoTab o
theorem Fz.emp {H : Hp} : Fz (fun _ => none) H := ⟨(fun _ _ e => by cases e), (fun _ _ e => by cases e)⟩
theorem Fz.gr {T : List (Addr × Str)} {G H H' : Hp} (f : Fz G H) (g : Gr T H H') : Fz G H' := ⟨fun b o e => g.ext b o (f.sub b o e) (f.nt b o e).1, f.nt⟩
theorem Fz.free {G H : Hp} {a : Addr} (f : Fz G H) (h : H a = none) : G a = none := f.sub.free h
theorem Fz.put {G H : Hp} {a : Addr} {o : HO} (f : Fz G H) (h : G a = none) : Fz G (upd H a o) := ⟨fun b u e => by
  rw [upd_ne (ne_of_none e h)]
  exact f.sub b u e, f.nt⟩
/-- what stands at a is frozen -/
theorem Fz.add {G H : Hp} {a : Addr} {o : HO} (f : Fz G H) (h : H a = some o) (n : NoTab o) : Fz (upd G a o) H := ⟨fun b u e => by
  by_cases hb : b = a
  · rw [hb] at e ⊢
    rw [upd_same] at e
    cases e
    exact h
  · rw [upd_ne hb] at e
    exact f.sub b u e, fun b u e => by
  by_cases hb : b = a
  · rw [hb, upd_same] at e
    cases e
    exact n
  · rw [upd_ne hb] at e
    exact f.nt b u e⟩
theorem Tabs.upd {T : List (Addr × Str)} {H : Hp} {d : Addr} {u o : HO} (t : LamX.Tabs T H) (h : H d = some u) (nt : NoTab u) : LamX.Tabs T (upd H d o) := fun p hp => by
  obtain ⟨ps, b1, b2, b3⟩ := t p hp
  have na : p.1 ≠ d := fun z => by
    rw [z, h] at b1
    cases b1
    exact nt.1 ps rfl
  refine ⟨ps, by rw [upd_ne na]; exact b1, b2, fun po cv hc => ?_⟩
  obtain ⟨c', e1, e2⟩ := b3 po cv hc
  refine ⟨c', e1, ?_⟩
  rw [upd_ne (fun z => by
    rw [z, h] at e2
    cases e2
    exact nt.2 _ rfl)]
  exact e2
theorem NoTab.frz {o : Obj} {u : HO} : NoTab (.frz o u) := ⟨(fun _ e => by cases e), (fun _ e => by cases e)⟩
/-- a cell was locked meanwhile -/
theorem Gr.unlock {T : List (Addr × Str)} {H H' : Hp} {d : Addr} {od : Obj} {u : HO} (hd : H d = some u) (nt : NoTab u) (g : Gr T (L2.upd H d (.frz od u)) H') (hd' : H' d = some (.frz od u)) : Gr T H (L2.upd H' d u) := by
  refine ⟨fun b o e n => ?_, fun t => Tabs.upd (g.tab (Tabs.upd t hd nt)) hd' .frz⟩
  by_cases hb : b = d
  · rw [hb, hd] at e
    cases e
    rw [hb, upd_same]
  · rw [upd_ne hb]
    exact g.ext b o (by rw [upd_ne hb]; exact e) n
/-! ### the source of draws -/
/-- the source at p, its digits at q; drawn at most n times from the mixed sequence -/
def SrcAt (p q : Addr) (n : Nat) (H : Hp) : Prop := ∃ (ds : List Int) (x m c : Int), H p = some (.lst [.ref q, .int x, .int m, .int c]) ∧ H q = some (.lst (ds.map V.int)) ∧ (∀ d ∈ ds, 0 ≤ d) ∧ 0 ≤ x ∧ 0 ≤ m ∧ m < 2305843009213693951 ∧ 0 ≤ c ∧ c ≤ n
/-- the source, the cells L that may change, the frozen part G -/
structure Hs (T : List (Addr × Str)) (p : Addr) (n : Nat) (L : List (Addr × HO)) (G H : Hp) : Prop where
  src : ∃ q, SrcAt p q n H ∧ G q = none ∧ q ≠ p ∧ ∀ x ∈ L, x.1 ≠ q
  fz : Fz G H
  gp : G p = none
  cel : ∀ x ∈ L, H x.1 = some x.2 ∧ G x.1 = none ∧ x.1 ≠ p ∧ NoTab x.2
  nod : (L.map (·.1)).Nodup
  tab : LamX.Tabs T H
section
variable {T : List (Addr × Str)} {p : Addr} {n : Nat} {L : List (Addr × HO)} {G H H' : Hp}
theorem SrcAt.mono {q : Addr} {m : Nat} (s : SrcAt p q n H) (h : n ≤ m) : SrcAt p q m H := by
  obtain ⟨ds, x, mm, c, h1, h2, h3, h4, h5, h6, h7, h8⟩ := s
  exact ⟨ds, x, mm, c, h1, h2, h3, h4, h5, h6, h7, by omega⟩
theorem Hs.mono {m : Nat} (s : Hs T p n L G H) (h : n ≤ m) : Hs T p m L G H := by
  obtain ⟨⟨q, a, b⟩, c, d, e, f, g⟩ := s
  exact ⟨⟨q, a.mono h, b⟩, c, d, e, f, g⟩
/-- all that stood stands -/
theorem Hs.gr (s : Hs T p n L G H) (g : Gr T H H') : Hs T p n L G H' := by
  obtain ⟨⟨q, ⟨ds, x, m, c, h1, h2, h3⟩, b⟩, fz, gp, cel, nod, tab⟩ := s
  exact ⟨⟨q, ⟨ds, x, m, c, g.at h1 .lst, g.at h2 .lst, h3⟩, b⟩, fz.gr g, gp, fun x hx => ⟨g.at (cel x hx).1 (cel x hx).2.2.2, (cel x hx).2⟩, nod, g.tab tab⟩
/-- a new cell -/
theorem Hs.new {a : Addr} {o : HO} (s : Hs T p n L G H) (h : H a = none) (nt : NoTab o) : Hs T p n ((a, o) :: L) G (upd H a o) := by
  have s2 := s.gr (Gr.new (o := o) h)
  obtain ⟨⟨q, a1, a2, a3, a4⟩, fz, gp, cel, nod, tab⟩ := s
  obtain ⟨ds, x, m, c, h1, h2, h3⟩ := a1
  refine ⟨⟨q, ⟨ds, x, m, c, ?_, ?_, h3⟩, a2, a3, fun y hy => ?_⟩, s2.fz, gp, fun y hy => ?_, ?_, s2.tab⟩
  · rw [upd_ne (ne_of_none h1 h)]
    exact h1
  · rw [upd_ne (ne_of_none h2 h)]
    exact h2
  · rcases List.mem_cons.mp hy with rfl | hy
    · exact (ne_of_none h2 h).symm
    · exact a4 y hy
  · rcases List.mem_cons.mp hy with rfl | hy
    · exact ⟨upd_same, fz.free h, (ne_of_none h1 h).symm, nt⟩
    · exact s2.cel y hy
  · rw [List.map_cons, List.nodup_cons]
    refine ⟨fun hm => ?_, nod⟩
    obtain ⟨y, hy, e⟩ := List.mem_map.mp hm
    have := (cel y hy).1
    rw [e, h] at this
    cases this
/-- what stands at the i-th cell -/
theorem Hs.get {i : Nat} {a : Addr} {o : HO} (s : Hs T p n L G H) (h : L[i]? = some (a, o)) : H a = some o := (s.cel (a, o) (List.mem_of_getElem? h)).1
/-- the i-th cell is written -/
theorem Hs.put {i : Nat} {a : Addr} {o o' : HO} (s : Hs T p n L G H) (h : L[i]? = some (a, o)) (nt : NoTab o') : Hs T p n (L.set i (a, o')) G (upd H a o') := by
  have hm := List.mem_of_getElem? h
  obtain ⟨⟨q, ⟨ds, x, m, c, h1, h2, h3⟩, a2, a3, a4⟩, fz, gp, cel, nod, tab⟩ := s
  obtain ⟨c1, c2, c3, c4⟩ := cel _ hm
  have hi : i < L.length := (List.getElem?_eq_some_iff.mp h).1
  have ei : L[i] = (a, o) := (List.getElem?_eq_some_iff.mp h).2
  have sub : ∀ y ∈ L.set i (a, o'), y = (a, o') ∨ (y ∈ L ∧ y.1 ≠ a) := fun y hy => by
    obtain ⟨j, hj, ej⟩ := List.mem_iff_getElem.mp hy
    by_cases hij : i = j
    · subst hij
      rw [List.getElem_set_self] at ej
      exact .inl ej.symm
    · rw [List.getElem_set_ne hij] at ej
      refine .inr ⟨by rw [← ej]; exact List.getElem_mem _, fun z => hij ?_⟩
      rw [List.length_set] at hj
      have q1 : (L.map (·.1))[i]'(by rw [List.length_map]; exact hi) = (L.map (·.1))[j]'(by rw [List.length_map]; exact hj) := by
        rw [List.getElem_map, List.getElem_map, ei, ej, z]
      exact (List.getElem_inj nod).mp q1
  refine ⟨⟨q, ⟨ds, x, m, c, ?_, ?_, h3⟩, a2, a3, fun y hy => ?_⟩, fz.put c2, gp, fun y hy => ?_, ?_, fun t ht => ?_⟩
  · rw [upd_ne (Ne.symm c3)]
    exact h1
  · rw [upd_ne (Ne.symm (show a ≠ q from a4 _ hm))]
    exact h2
  · rcases sub y hy with rfl | ⟨hy, _⟩
    · exact (a4 _ hm : a ≠ q)
    · exact a4 y hy
  · rcases sub y hy with rfl | ⟨hy, z⟩
    · exact ⟨upd_same, c2, c3, nt⟩
    · rw [upd_ne z]
      exact cel y hy
  · rw [List.map_set]
    have : (L.map (·.1)).set i a = L.map (·.1) := by
      have e2 : (L.map (·.1))[i]'(by rw [List.length_map]; exact hi) = a := by rw [List.getElem_map, ei]
      conv => rhs; rw [← List.set_getElem_self (as := L.map (·.1)) (i := i) (by rw [List.length_map]; exact hi)]
      rw [e2]
    show ((L.map (·.1)).set i a).Nodup
    rw [this]
    exact nod
  · obtain ⟨ps, b1, b2, b3⟩ := tab t ht
    have na : t.1 ≠ a := fun z => by
      rw [z, c1] at b1
      cases b1
      exact c4.1 ps rfl
    refine ⟨ps, by rw [upd_ne na]; exact b1, b2, fun po cv hc => ?_⟩
    obtain ⟨c', e1, e2⟩ := b3 po cv hc
    refine ⟨c', e1, ?_⟩
    by_cases hca : c' = a
    · exfalso
      rw [hca, c1] at e2
      cases e2
      exact c4.2 _ rfl
    · rw [upd_ne hca]
      exact e2
/-- fewer cells -/
theorem Hs.sub {L' : List (Addr × HO)} (s : Hs T p n L G H) (h : L'.Sublist L) : Hs T p n L' G H := by
  obtain ⟨⟨q, a, b, c, d⟩, fz, gp, cel, nod, tab⟩ := s
  exact ⟨⟨q, a, b, c, fun x hx => d x (h.subset hx)⟩, fz, gp, fun x hx => cel x (h.subset hx), nod.sublist (h.map _), tab⟩
/-- the first cell is frozen -/
theorem Hs.freeze {a : Addr} {o : HO} (s : Hs T p n ((a, o) :: L) G H) : Hs T p n L (upd G a o) H := by
  obtain ⟨⟨q, h1, h2, h3, h4⟩, fz, gp, cel, nod, tab⟩ := s
  obtain ⟨c1, c2, c3, c4⟩ := cel _ (List.mem_cons_self ..)
  rw [List.map_cons, List.nodup_cons] at nod
  refine ⟨⟨q, h1, ?_, h3, fun x hx => h4 x (List.mem_cons_of_mem _ hx)⟩, fz.add c1 c4, ?_, fun x hx => ?_, nod.2, tab⟩
  · rw [upd_ne (Ne.symm (show a ≠ q from h4 _ (List.mem_cons_self ..)))]
    exact h2
  · rw [upd_ne (Ne.symm c3)]
    exact gp
  · obtain ⟨d1, d2, d3, d4⟩ := cel x (List.mem_cons_of_mem _ hx)
    refine ⟨d1, ?_, d3, d4⟩
    rw [upd_ne (fun z => nod.1 (List.mem_map.mpr ⟨x, hx, z⟩))]
    exact d2
/-- the heap grew, and at a new place stands o -/
theorem Hs.grow {a : Addr} {o : HO} (s : Hs T p n L G H) (g : Gr T H H') (h : Nw H a) (e : H' a = some o) (nt : NoTab o) : Hs T p n ((a, o) :: L) G H' := by
  have s2 := s.gr g
  have no : ∀ u, H a = some u → ¬ NoTab u := fun u hu n2 => by
    obtain ⟨ps, z⟩ := h u hu
    exact n2.1 ps z
  obtain ⟨⟨q, ⟨ds, x, m, c, h1, h2, _⟩, a2, a3, a4⟩, fz, gp, cel, nod, tab⟩ := s
  obtain ⟨⟨q', b1, b2, b3, b4⟩, fz', _, cel', _, tab'⟩ := s2
  refine ⟨⟨q', b1, b2, b3, fun y hy => ?_⟩, fz', gp, fun y hy => ?_, ?_, tab'⟩
  · rcases List.mem_cons.mp hy with rfl | hy
    · intro z
      obtain ⟨ds', x', m', c', k1, k2, _⟩ := b1
      have e1 := g.at h1 .lst
      rw [k1] at e1
      cases e1
      exact no _ (by rw [show a = q from z]; exact h2) .lst
    · exact b4 y hy
  · rcases List.mem_cons.mp hy with rfl | hy
    · refine ⟨e, ?_, fun z => ?_, nt⟩
      · cases q0 : G a with
        | none => rfl
        | some u => exact absurd (fz.nt a u q0) (no u (fz.sub a u q0))
      · exact no _ (by rw [show a = p from z]; exact h1) .lst
    · exact cel' y hy
  · rw [List.map_cons, List.nodup_cons]
    refine ⟨fun hm => ?_, nod⟩
    obtain ⟨y, hy, e2⟩ := List.mem_map.mp hm
    obtain ⟨c1, _, _, c4⟩ := cel y hy
    rw [e2] at c1
    exact no _ c1 c4
/-- the first cell is left alone -/
theorem Hs.drop1 {c : Addr × HO} (s : Hs T p n (c :: L) G H) : Hs T p n L G H := s.sub (.cons _ (.refl _))
/-- the second cell is left alone -/
theorem Hs.drop2 {c d : Addr × HO} (s : Hs T p n (c :: d :: L) G H) : Hs T p n (c :: L) G H := s.sub (.cons₂ _ (.cons _ (.refl _)))
/-- the second cell first -/
theorem Hs.swap {c d : Addr × HO} (s : Hs T p n (c :: d :: L) G H) : Hs T p n (d :: c :: L) G H := by
  obtain ⟨⟨q, b1, b2, b3, b4⟩, fz, gp, cel, nod, tab⟩ := s
  have pm : (d :: c :: L).Perm (c :: d :: L) := .swap ..
  exact ⟨⟨q, b1, b2, b3, fun x hx => b4 x (pm.mem_iff.mp hx)⟩, fz, gp, fun x hx => cel x (pm.mem_iff.mp hx), (pm.map _).nodup_iff.mpr nod, tab⟩
/-- what is frozen stands -/
theorem Hs.fzat {a : Addr} {o : HO} (s : Hs T p n L G H) (h : G a = some o) : H a = some o := s.fz.sub _ _ h
theorem Hs.gfree {a : Addr} (s : Hs T p n L G H) (h : H a = none) : G a = none := s.fz.free h
theorem Hs.cfree {c : Addr × HO} (s : Hs T p n (c :: L) G H) : G c.1 = none := (s.cel c (List.mem_cons_self ..)).2.1
/-- all tuples are frozen -/
def fzT (G H : Hp) : Hp := fun b => match G b with
  | some o => some o
  | none => match H b with
    | some (.tup zs) => some (.tup zs)
    | _ => none
theorem fzT_old {b : Addr} {o : HO} (h : G b = some o) : fzT G H b = some o := by
  unfold fzT
  rw [h]
theorem fzT_tup {b : Addr} {zs : List V} (f : Fz G H) (h : H b = some (.tup zs)) : fzT G H b = some (.tup zs) := by
  unfold fzT
  cases q : G b with
  | some o =>
    have := f.sub b o q
    rw [h] at this
    cases this
    rfl
  | none => simp only [h]
theorem fzT_cases {b : Addr} {o : HO} (h : fzT G H b = some o) : G b = some o ∨ (H b = some o ∧ ∃ zs, o = .tup zs) := by
  unfold fzT at h
  cases q : G b with
  | some u =>
    rw [q] at h
    exact .inl h
  | none =>
    rw [q] at h
    cases q2 : H b with
    | none => rw [q2] at h; cases h
    | some u =>
      rw [q2] at h
      cases u with
      | tup zs =>
        cases h
        exact .inr ⟨rfl, zs, rfl⟩
      | _ => cases h
theorem fzT_none {b : Addr} (h : G b = none) (n : ∀ zs, H b ≠ some (.tup zs)) : fzT G H b = none := by
  cases q : fzT G H b with
  | none => rfl
  | some o =>
    rcases fzT_cases q with z | ⟨z, zs, e⟩
    · rw [h] at z
      cases z
    · exact absurd (e ▸ z) (n zs)
theorem Hs.fzTup (s : Hs T p n L G H) (hL : ∀ x ∈ L, ∀ zs, x.2 ≠ .tup zs) : Hs T p n L (fzT G H) H := by
  obtain ⟨⟨q, a, b1, b2, b3⟩, fz, gp, cel, nod, tab⟩ := s
  obtain ⟨ds, x, m, c, h1, h2, h3⟩ := id a
  refine ⟨⟨q, a, fzT_none b1 (fun zs z => by rw [h2] at z; cases z), b2, b3⟩, ⟨fun b o e => ?_, fun b o e => ?_⟩, fzT_none gp (fun zs z => by rw [h1] at z; cases z), fun y hy => ?_, nod, tab⟩
  · rcases fzT_cases e with z | ⟨z, _⟩
    · exact fz.sub b o z
    · exact z
  · rcases fzT_cases e with z | ⟨_, zs, z⟩
    · exact fz.nt b o z
    · rw [z]
      exact .tup
  · obtain ⟨c1, c2, c3⟩ := cel y hy
    exact ⟨c1, fzT_none c2 (fun zs z => hL y hy zs (Option.some.inj (c1.symm.trans z))), c3⟩
/-- less is frozen -/
theorem Hs.less {G0 : Hp} (s : Hs T p n L G H) (h : Same G0 G) : Hs T p n L G0 H := by
  obtain ⟨⟨q, a, b1, b2, b3⟩, fz, gp, cel, nod, tab⟩ := s
  exact ⟨⟨q, a, h.free b1, b2, b3⟩, ⟨fun b o e => fz.sub b o (h b o e), fun b o e => fz.nt b o (h b o e)⟩, h.free gp, fun y hy => ⟨(cel y hy).1, h.free (cel y hy).2.1, (cel y hy).2.2⟩, nod, tab⟩
/-- a frozen cell is written -/
theorem Hs.fput {l : Addr} {o o' : HO} (s : Hs T p n L G H) (h : G l = some o) (nt : NoTab o') : Hs T p n L (upd G l o') (upd H l o') := by
  obtain ⟨⟨q, ⟨ds, x, m, c, h1, h2, h3⟩, b1, b2, b3⟩, fz, gp, cel, nod, tab⟩ := s
  have lp : p ≠ l := fun z => by rw [z, h] at gp; cases gp
  have lq : q ≠ l := fun z => by rw [z, h] at b1; cases b1
  refine ⟨⟨q, ⟨ds, x, m, c, by rw [upd_ne lp]; exact h1, by rw [upd_ne lq]; exact h2, h3⟩, by rw [upd_ne lq]; exact b1, b2, b3⟩, ⟨fun b u e => ?_, fun b u e => ?_⟩, by rw [upd_ne lp]; exact gp, fun y hy => ?_, nod, Tabs.upd tab (fz.sub _ _ h) (fz.nt _ _ h)⟩
  · by_cases hb : b = l
    · rw [hb, upd_same] at e ⊢
      exact e
    · rw [upd_ne hb] at e ⊢
      exact fz.sub b u e
  · by_cases hb : b = l
    · rw [hb, upd_same] at e
      cases e
      exact nt
    · rw [upd_ne hb] at e
      exact fz.nt b u e
  · obtain ⟨c1, c2, c3⟩ := cel y hy
    have ly : y.1 ≠ l := fun z => by rw [z, h] at c2; cases c2
    rw [upd_ne ly, upd_ne ly]
    exact ⟨c1, c2, c3⟩
end
end Sk
namespace Sk
open PySem PySem.Spec PyProof.Rows L2
/-! ### catalogues -/
structure Ent where
  name : Str
  w : Int
  parts : List Str
/-- an entry: a tuple of a name, a weight and a list of names -/
def EntAt (G : Hp) (v : V) (e : Ent) : Prop := ∃ t l, v = .ref t ∧ G t = some (.tup [.str e.name, .int e.w, .ref l]) ∧ G l = some (.lst (e.parts.map V.str))
abbrev CatAt (G : Hp) (vs : List V) (es : List Ent) : Prop := Paired (EntAt G) vs es
theorem EntAt.mono {G G' : Hp} {v : V} {e : Ent} (h : EntAt G v e) (s : Same G G') : EntAt G' v e := by
  obtain ⟨t, l, a, b, c⟩ := h
  exact ⟨t, l, a, s _ _ b, s _ _ c⟩
theorem CatAt.mono {G G' : Hp} (s : Same G G') : ∀ {vs : List V} {es : List Ent}, CatAt G vs es → CatAt G' vs es
  | _, _, .nil => .nil
  | _, _, .cons h t => .cons (h.mono s) (CatAt.mono s t)
theorem EntAt.gr {Tb : List (Addr × Str)} {G G' : Hp} {v : V} {e : Ent} (h : EntAt G v e) (s : Gr Tb G G') : EntAt G' v e := by
  obtain ⟨t, l, a, b, c⟩ := h
  exact ⟨t, l, a, s.at b .tup, s.at c .lst⟩
theorem CatAt.gr {Tb : List (Addr × Str)} {G G' : Hp} (s : Gr Tb G G') : ∀ {vs : List V} {es : List Ent}, CatAt G vs es → CatAt G' vs es
  | _, _, .nil => .nil
  | _, _, .cons h t => .cons (h.gr s) (CatAt.gr s t)
section
variable {α β : Type} {R : α → β → Prop}
theorem Paired.len : ∀ {xs : List α} {ys : List β}, Paired R xs ys → xs.length = ys.length
  | _, _, .nil => rfl
  | _, _, .cons _ t => by rw [List.length_cons, List.length_cons, Paired.len t]
theorem Paired.at : ∀ {xs : List α} {ys : List β} {i : Nat} {x : α}, Paired R xs ys → xs[i]? = some x → ∃ y, ys[i]? = some y ∧ R x y
  | _, _, _, _, .nil, e => by simp at e
  | _, _, 0, _, .cons h _, e => by simp at e; subst e; exact ⟨_, rfl, h⟩
  | _, _, i + 1, x, .cons _ t, e => by
    obtain ⟨y, h1, h2⟩ := Paired.at (i := i) (x := x) t (by simpa using e)
    exact ⟨y, by simpa using h1, h2⟩
theorem Paired.at2 : ∀ {xs : List α} {ys : List β} {i : Nat} {y : β}, Paired R xs ys → ys[i]? = some y → ∃ x, xs[i]? = some x ∧ R x y
  | _, _, _, _, .nil, e => by simp at e
  | _, _, 0, _, .cons h _, e => by simp at e; subst e; exact ⟨_, rfl, h⟩
  | _, _, i + 1, y, .cons _ t, e => by
    obtain ⟨x, h1, h2⟩ := Paired.at2 (i := i) (y := y) t (by simpa using e)
    exact ⟨x, by simpa using h1, h2⟩
theorem Paired.snoc {x : α} {y : β} (h : R x y) : ∀ {xs : List α} {ys : List β}, Paired R xs ys → Paired R (xs ++ [x]) (ys ++ [y])
  | _, _, .nil => .cons h .nil
  | _, _, .cons a t => .cons a (Paired.snoc h t)
theorem Paired.app : ∀ {xs xs' : List α} {ys ys' : List β}, Paired R xs ys → Paired R xs' ys' → Paired R (xs ++ xs') (ys ++ ys')
  | _, _, _, _, .nil, s => s
  | _, _, _, _, .cons a t, s => .cons a (Paired.app t s)
theorem Paired.perm {xs xs' : List α} (p : xs'.Perm xs) : ∀ {ys : List β}, Paired R xs ys → ∃ ys', ys'.Perm ys ∧ Paired R xs' ys' := by
  induction p with
  | nil => intro ys h; exact ⟨ys, .refl _, h⟩
  | cons x _ ih =>
    intro ys h
    cases h with
    | cons a t =>
      obtain ⟨ys', p', h'⟩ := ih t
      exact ⟨_ :: ys', p'.cons _, .cons a h'⟩
  | swap x y l =>
    intro ys h
    cases h with
    | cons a t =>
      cases t with
      | cons b t => exact ⟨_, List.Perm.swap .., .cons b (.cons a t)⟩
  | trans _ _ ih1 ih2 =>
    intro ys h
    obtain ⟨y1, p1, h1⟩ := ih2 h
    obtain ⟨y2, p2, h2⟩ := ih1 h1
    exact ⟨y2, p2.trans p1, h2⟩
theorem Paired.map_left {γ : Type} {f : γ → α} : ∀ {xs : List γ} {ys : List β}, Paired R (xs.map f) ys → Paired (fun c => R (f c)) xs ys
  | [], _, h => by cases h; exact .nil
  | x :: xs, _, h => by
    cases h with
    | cons a t => exact .cons a (Paired.map_left t)
theorem Paired.imp {R' : α → β → Prop} (f : ∀ a b, R a b → R' a b) : ∀ {xs : List α} {ys : List β}, Paired R xs ys → Paired R' xs ys
  | _, _, .nil => .nil
  | _, _, .cons a t => .cons (f _ _ a) (Paired.imp f t)
theorem Paired.left {xs : List α} {ys : List β} (h : Paired R xs ys) {x : α} (hx : x ∈ xs) : ∃ y ∈ ys, R x y := by
  obtain ⟨i, hi⟩ := List.mem_iff_getElem?.mp hx
  obtain ⟨y, h1, h2⟩ := Paired.at h hi
  exact ⟨y, List.mem_of_getElem? h1, h2⟩
theorem Paired.right {xs : List α} {ys : List β} (h : Paired R xs ys) {y : β} (hy : y ∈ ys) : ∃ x ∈ xs, R x y := by
  obtain ⟨i, hi⟩ := List.mem_iff_getElem?.mp hy
  obtain ⟨x, h1, h2⟩ := Paired.at2 h hi
  exact ⟨x, List.mem_of_getElem? h1, h2⟩
end
/-! ### dicts of numbers -/
abbrev Num := List (Str × Int)
def dS (d : Num) : List (Key × V) := d.map fun q => (Sum.inr q.1, V.int q.2)
def get? (d : Num) (x : Str) : Option Int := (d.find? fun q => decide (q.1 = x)).map (·.2)
def getD (d : Num) (x : Str) : Int := (get? d x).getD 0
def put (d : Num) (x : Str) (i : Int) : Num := if (d.any fun q => decide (q.1 = x)) = true then d.map (fun q => if q.1 = x then (q.1, i) else q) else d ++ [(x, i)]
theorem inr_dec (a b : Str) : decide ((Sum.inr a : Key) = Sum.inr b) = decide (a = b) := key_rr a b
theorem valV_dS (d : Num) (x : Str) : valV (dS d) (Sum.inr x) = (get? d x).map V.int := by
  unfold dS valV get?
  rw [List.find?_map]
  have : ((fun kv : Key × V => decide (kv.1 = Sum.inr x)) ∘ fun q : Str × Int => ((Sum.inr q.1 : Key), V.int q.2)) = fun q => decide (q.1 = x) := by
    funext q
    exact inr_dec _ _
  rw [this]
  cases d.find? fun q => decide (q.1 = x) <;> rfl
theorem putK_dS (d : Num) (x : Str) (i : Int) : putK (dS d) (Sum.inr x) (.int i) = dS (put d x i) := by
  unfold dS putK put
  rw [List.any_map]
  have : ((fun kv : Key × V => decide (kv.1 = Sum.inr x)) ∘ fun q : Str × Int => ((Sum.inr q.1 : Key), V.int q.2)) = fun q => decide (q.1 = x) := by
    funext q
    exact inr_dec _ _
  rw [this]
  split
  · rw [List.map_map, List.map_map]
    refine List.map_congr_left fun q _ => ?_
    show (if (Sum.inr q.1 : Key) = Sum.inr x then _ else _) = _
    by_cases e : q.1 = x
    · have e2 : (Sum.inr q.1 : Key) = Sum.inr x := congrArg _ e
      rw [if_pos e2]
      show _ = ((Sum.inr (if q.1 = x then (q.1, i) else q).1 : Key), V.int (if q.1 = x then (q.1, i) else q).2)
      rw [if_pos e]
    · have e2 : ¬ (Sum.inr q.1 : Key) = Sum.inr x := fun z => e (Sum.inr.inj z)
      rw [if_neg e2]
      show _ = ((Sum.inr (if q.1 = x then (q.1, i) else q).1 : Key), V.int (if q.1 = x then (q.1, i) else q).2)
      rw [if_neg e]
  · rw [List.map_append]
    rfl
theorem dS_len (d : Num) : (dS d).length = d.length := List.length_map ..
/-! ### targets, comprehensions -/
theorem gtup3 {K : PySem.W.Frag} {i j k : Nat} {t : Addr} {x y z : V} {σ : L2.St} {H : Hp} {Q : L2.St → Hp → Prop} (h : H t = some (.tup [x, y, z])) (q : Q (((σ.set i (some x)).set j (some y)).set k (some z)) H) :
    gTup K 3 (gCons (gName i) (gCons (gName j) (gCons (gName k) gNil))) (.ref t) σ H Q := ⟨t, _, rfl, SqT.of h, rfl, x, _, rfl, y, _, rfl, z, _, rfl, rfl, q⟩
theorem gtup2 {K : PySem.W.Frag} {i j : Nat} {t : Addr} {x y : V} {σ : L2.St} {H : Hp} {Q : L2.St → Hp → Prop} (h : H t = some (.tup [x, y])) (q : Q ((σ.set i (some x)).set j (some y)) H) :
    gTup K 2 (gCons (gName i) (gCons (gName j) gNil)) (.ref t) σ H Q := ⟨t, _, rfl, SqT.of h, rfl, x, _, rfl, y, _, rfl, rfl, q⟩
theorem filterMap_take {α β : Type} (f : α → Option β) (xs : List α) {i : Nat} {x : α} (h : xs[i]? = some x) : (xs.take (i + 1)).filterMap f = (xs.take i).filterMap f ++ (f x).toList := by
  rw [List.take_add_one, h, List.filterMap_append]
  show _ ++ List.filterMap f [x] = _
  rw [List.filterMap_cons]
  cases f x <;> rfl
/-- a comprehension that makes, item by item, what f says; the heap grows meanwhile -/
theorem lc_fm {Tb : List (Addr × Str)} {J : It} {n : Nat} {GG : Hp → Prop} {xs : List V} (wk : Walk J n GG (YAt xs)) (hn : n = xs.length) {g : TG} {tt : TT} {te : TE} {vs : List Nat} {σ : L2.St} {H1 : Hp} {D : Addr} {Qd : Hp → Prop} (f : V → Option V) (hD : H1 D = none) (hz : n ≤ 16777215)
    (hG : ∀ H, Gr Tb H1 H → GG H)
    (turn : ∀ (i : Nat) (x : V) (H : Hp), xs[i]? = some x → Gr Tb H1 H → ∀ (Rk : V → Hp → Prop) (Rs : Hp → Prop), (∀ y H4, f x = some y → Gr Tb H H4 → Rk y H4) → (∀ H4, f x = none → Gr Tb H H4 → Rs H4) →
      g x (wipe σ vs) H fun σ2 H2 => wipe σ2 vs = wipe σ vs ∧ tt σ2 H2 fun b H3 => if b = true then te σ2 H3 Rk else Rs H3)
    (done : ∀ H, Gr Tb H1 H → H D = some (.lst (xs.filterMap f)) → Qd H) :
    ∃ W : Nat → Nat → Hp → Prop, (∃ m, W 0 m (upd H1 D (.lst []))) ∧ ∀ i m H, W i m H →
      (J.stop i H ∧ Qd H) ∨ (J.go i H ∧ ∃ Nx : Hp → Prop, (∀ H', Nx H' → ∃ m', m' < m ∧ W (i + 1) m' H') ∧ ∀ x H', J.yld i H x H' → g x (wipe σ vs) H' fun σ2 H2 => wipe σ2 vs = wipe σ vs ∧ tt σ2 H2 fun b H3 =>
        if b = true then te σ2 H3 fun y H4 => ∃ acc, H4 D = some (.lst acc) ∧ acc.length < sizeLine ∧ Nx (upd H4 D (.lst (acc ++ [y]))) else Nx H3) := by
  have put : ∀ {H : Hp} {acc acc' : List V}, Gr Tb H1 H → H D = some (.lst acc) → Gr Tb H1 (upd H D (.lst acc')) := fun {H acc acc'} g hd => by
    refine ⟨fun b o e nt => ?_, fun t p hp => ?_⟩
    · rw [upd_ne (ne_of_none e hD)]
      exact g.ext b o e nt
    · obtain ⟨ps, b1, b2, b3⟩ := g.tab t p hp
      have na : p.1 ≠ D := ne_of b1 hd (fun z => by cases z)
      refine ⟨ps, by rw [upd_ne na]; exact b1, b2, fun po cv hc => ?_⟩
      obtain ⟨c', e1, e2⟩ := b3 po cv hc
      refine ⟨c', e1, ?_⟩
      rw [upd_ne (ne_of e2 hd (fun z => by unfold LamX.CodeO at z; cases z))]
      exact e2
  have h0 : Gr Tb H1 (upd H1 D (.lst [])) := Gr.new hD
  refine lc_it wk (fun i H => Gr Tb H1 H ∧ H D = some (.lst ((xs.take i).filterMap f))) ⟨h0, upd_same⟩ (fun i H _ p => hG H p.1) (fun i x H H' hi p y => ?_) (fun H p => ?_)
  · obtain ⟨rfl, hx⟩ := y
    refine turn i x H' hx p.1 _ _ (fun y H4 e gr => ?_) (fun H4 e gr => ?_)
    · have hd := gr.at p.2 .lst
      refine ⟨_, hd, ?_, put (p.1.trans gr) hd, ?_⟩
      · have l1 : ((xs.take i).filterMap f).length ≤ i := Nat.le_trans (List.length_filterMap_le _ _) (by rw [List.length_take]; omega)
        rw [sizeLine_eq]
        omega
      · rw [upd_same, filterMap_take f xs hx, e]
        rfl
    · refine ⟨p.1.trans gr, ?_⟩
      rw [filterMap_take f xs hx, e, gr.at p.2 .lst]
      simp
  · refine done H p.1 ?_
    have := p.2
    rw [hn, List.take_length] at this
    exact this
/-- the signs of a text, each as a text -/
def signs (z : Str) : List V := z.cps.toList.map fun c => V.str ⟨#[c]⟩
theorem walk_text {z : Str} : Walk (Its z) (signs z).length (fun _ => True) (YAt (signs z)) := by
  have e : (signs z).length = z.cps.size := by
    unfold signs
    rw [List.length_map, Array.length_toList]
  rw [e]
  refine walk_str.mono (fun _ h => h) fun i H v H' hi _ y => ?_
  obtain ⟨h1, c, h2, h3⟩ := y
  refine ⟨h1, ?_⟩
  unfold signs
  rw [List.getElem?_map, Array.getElem?_toList, h2, h3]
  rfl
/-- all([c in z for c in x]) -/
theorem rd_allIn {Tb : List (Addr × Str)} {K : PySem.W.Frag} {i : Nat} {x z : Str} {σ : L2.St} {H : Hp} {Q : VK} (h0 : σ[0]? = some (some (.str x))) (hw : (wipe σ [i]).length = σ.length) (hi : i < σ.length) (hz : x.length ≤ 1000000)
    (k : ∀ H', Gr Tb H H' → Q (.bl (x.cps.toList.all fun c => decide (c ∈ z.cps.toList))) H') :
    tCB (rAll K) (tCons (tLc (iStr (tVar 0)) (gName i) tYes (tOp (fun x y H Q => ∃ (c : Nat) (z : Str), x = V.str ⟨#[c]⟩ ∧ y = V.str z ∧ Q (V.bl (decide (c ∈ z.cps.toList))) H) (tVar i) (tC (V.str z))) [i]) tNil) σ H Q := by
  refine ⟨_, h0, x, rfl, fun D hD => lc_fm (Tb := Tb) (xs := signs x) walk_text rfl (fun v => match v with | .str y => some (.bl (decide (y.cps.getD 0 0 ∈ z.cps.toList))) | _ => none) hD ?_ (fun _ _ => trivial) (fun j v H' hv _ Rk Rs hk hs => ?_) fun H' g hd => ?_⟩
  · unfold signs
    rw [List.length_map, Array.length_toList]
    have : x.cps.size = x.length := rfl
    omega
  · unfold signs at hv
    rw [List.getElem?_map] at hv
    cases hc : x.cps.toList[j]? with
    | none =>
      rw [hc] at hv
      cases hv
    | some c =>
      rw [hc] at hv
      cases hv
      refine ⟨?_, V.str ⟨#[c]⟩, ?_, c, z, rfl, rfl, hk _ _ ?_ (Gr.refl _)⟩
      · show List.set (List.set (List.set σ i none) i (some (V.str ⟨#[c]⟩))) i none = List.set σ i none
        rw [List.set_set, List.set_set]
      · rw [List.getElem?_set_self (by rw [hw]; exact hi)]
      · simp
  · refine ⟨D, x.cps.toList.map fun c => decide (c ∈ z.cps.toList), rfl, ?_, ?_⟩
    · have e : (signs x).filterMap (fun v => match v with | .str y => some (V.bl (decide (y.cps.getD 0 0 ∈ z.cps.toList))) | _ => none) = (x.cps.toList.map fun c => decide (c ∈ z.cps.toList)).map V.bl := by
        unfold signs
        rw [List.filterMap_map, List.map_map, ← List.filterMap_eq_map]
        rfl
      rw [e] at hd
      exact SqL.of hd
    · have e : (x.cps.toList.map fun c => decide (c ∈ z.cps.toList)).all id = x.cps.toList.all fun c => decide (c ∈ z.cps.toList) := by
        rw [List.all_map]
        rfl
      rw [e]
      exact k H' g
/-! ### a list beside an empty one -/
def rNil (K : PySem.W.Frag) (neg : Bool) : R2 := fun x y H Q => ∃ (a b : Addr) (xs : List V), x = .ref a ∧ y = .ref b ∧ SqL K H a xs ∧ SqL K H b [] ∧ Q (.bl (if neg then !xs.isEmpty else xs.isEmpty)) H
section
variable {X : Cx}
theorem op_eqNil (hu : X.A.units + 64 < cLine) : OpR X (compareOp .Eq) (rNil X.K false) := by
  intro pins s σ H x y v u Q I rx ry h
  obtain ⟨a, b, xs, rfl, rfl, hx, hy, q⟩ := h
  obtain rfl : v = Value.ref a := rx
  obtain rfl : u = Value.ref b := ry
  obtain ⟨its, r1, p1, _⟩ := I.list hx
  obtain ⟨its2, r2, p2, _⟩ := I.list hy
  cases r2
  cases xs with
  | nil =>
    cases r1
    exact SeqAt.eq_listAt (e := fun _ => true) p1.isList p2.isList rfl (by omega) (fun j h1 => absurd h1 (by simp)) ⟨.bl true, H, I, rfl, q⟩
  | cons z zs =>
    cases r1
    exact SeqAt.eq_list_lengthsAt p1.isList p2.isList (by simp) (by omega) ⟨.bl false, H, I, rfl, q⟩
theorem op_neNil (hu : X.A.units + 64 < cLine) : OpR X (compareOp .NotEq) (rNil X.K true) := by
  intro pins s σ H x y v u Q I rx ry h
  obtain ⟨a, b, xs, rfl, rfl, hx, hy, q⟩ := h
  obtain rfl : v = Value.ref a := rx
  obtain rfl : u = Value.ref b := ry
  obtain ⟨its, r1, p1, _⟩ := I.list hx
  obtain ⟨its2, r2, p2, _⟩ := I.list hy
  cases r2
  cases xs with
  | nil =>
    cases r1
    exact SeqAt.RcNeAt.lists (e := fun _ => true) p1.isList p2.isList rfl (by omega) (fun j h1 => absurd h1 (by simp)) _ _ _ _ ⟨.bl false, H, I, rfl, q⟩
  | cons z zs =>
    cases r1
    exact SeqAt.RcNeAt.lists_lengths p1.isList p2.isList (by simp) (by omega) _ _ _ _ ⟨.bl true, H, I, rfl, q⟩
end
/-- the reading: x beside a new empty list -/
theorem rd_nil {K : PySem.W.Frag} {neg : Bool} {a : Addr} {xs : List V} {σ : L2.St} {H : Hp} {Q : VK} (h : SqL K H a xs) (k : ∀ p, H p = none → Q (.bl (if neg then !xs.isEmpty else xs.isEmpty)) (upd H p (.lst []))) :
    tLst tNil σ H fun y H2 => rNil K neg (.ref a) y H2 Q := ⟨Nat.zero_le _, fun p hp => ⟨a, p, xs, rfl, rfl, (Same.upd hp).seq h, SqL.of upd_same, k p hp⟩⟩
/-- while, the test apart from the body: Pv ahead of the test, PT behind a true one, PF behind a false one -/
theorem while_cps {c : TT} {tb : TS} {D : Ends} {σ : L2.St} {H : Hp} (Pv PT PF : Nat → L2.St → Hp → Prop) (m0 : Nat) (h0 : Pv m0 σ H)
    (test : ∀ m σ H, Pv m σ H → ∀ R : Bool → Hp → Prop, (∀ H1, PT m σ H1 → R true H1) → (∀ H1, PF m σ H1 → R false H1) → c σ H R)
    (body : ∀ m σ H, PT m σ H → tb { D with nx := fun σ' H' => ∃ m', m' < m ∧ Pv m' σ' H', ct := fun σ' H' => ∃ m', m' < m ∧ Pv m' σ' H', bk := D.nx } σ H) (done : ∀ m σ H, PF m σ H → D.nx σ H) : tWhile c tb D σ H := by
  refine ⟨Pv, ⟨m0, h0⟩, fun m σ H p => ?_⟩
  refine test m σ H p _ (fun H1 q => ?_) (fun H1 q => ?_)
  · show (if true = true then _ else _)
    rw [if_pos rfl]
    exact ⟨_, fun _ _ n => n, body m σ H1 q⟩
  · show (if false = true then _ else _)
    rw [if_neg Bool.false_ne_true]
    exact done m σ H1 q
/-- the first item of the tuple that stands at v -/
def itemAt (H : Hp) (i : Nat) : V → Option V
  | .ref t => match H t with
    | some (.tup xs) => xs[i]?
    | _ => none
  | _ => none
theorem itemAt_tup {H : Hp} {t : Addr} {xs : List V} {i : Nat} (h : H t = some (.tup xs)) : itemAt H i (.ref t) = xs[i]? := by
  show (match H t with
    | some (.tup xs) => xs[i]?
    | _ => none) = xs[i]?
  rw [h]
theorem fm_paired {α β γ : Type} {R : α → β → Prop} {f : α → Option γ} {g : β → γ} (hf : ∀ a b, R a b → f a = some (g b)) : ∀ {xs : List α} {ys : List β}, Paired R xs ys → xs.filterMap f = ys.map g
  | _, _, .nil => rfl
  | x :: xs, y :: ys, .cons a t => by
    rw [List.filterMap_cons, hf _ _ a, fm_paired hf t]
    rfl
theorem fm_pairedO {α β γ : Type} {R : α → β → Prop} {f : α → Option γ} {g : β → Option γ} (hf : ∀ a b, R a b → f a = g b) : ∀ {xs : List α} {ys : List β}, Paired R xs ys → xs.filterMap f = ys.filterMap g
  | _, _, .nil => rfl
  | x :: xs, y :: ys, .cons a t => by
    rw [List.filterMap_cons, List.filterMap_cons, hf _ _ a, fm_pairedO hf t]
/-- the index of an item from the start -/
theorem seq_ix {r : Int} {n : Nat} (h0 : 0 ≤ r) (h1 : r < n) : seqIndex? r n = some r.toNat := by
  unfold seqIndex?
  rw [if_neg (show ¬ r < 0 by omega)]
  simp
  exact ⟨h0, h1⟩
theorem perm_map {α β : Type} (f : α → β) {ys : List β} {xs : List α} (p : ys.Perm (xs.map f)) : ∃ zs : List α, ys = zs.map f ∧ zs.Perm xs := by
  have h : Paired (fun y x => y = f x) (xs.map f) xs := by
    clear p
    induction xs with
    | nil => exact .nil
    | cons x xs ih => exact .cons rfl ih
  obtain ⟨zs, p1, h1⟩ := Paired.perm p h
  refine ⟨zs, ?_, p1⟩
  clear p p1 h
  induction h1 with
  | nil => rfl
  | cons a _ ih => rw [List.map_cons, ← a, ← ih]
theorem pick_at {α : Type} {xs : List α} {r : Int} (h0 : 0 ≤ r) (h1 : r < xs.length) : ∃ y ∈ xs, atI xs r = some y := by
  obtain ⟨j, rfl⟩ := Int.eq_ofNat_of_zero_le h0
  have hj : j < xs.length := by omega
  exact ⟨xs[j], List.getElem_mem _, atI_nat (List.getElem?_eq_getElem hj)⟩
theorem pick_int {xs : List V} (is : List Int) {r : Int} {P : Int → Prop} (e : xs = is.map V.int) (h0 : 0 ≤ r) (h1 : r < is.length) (hp : ∀ i ∈ is, P i) : ∃ i, atI xs r = some (.int i) ∧ P i := by
  subst e
  obtain ⟨y, hy, e⟩ := pick_at (xs := is.map V.int) h0 (by rw [List.length_map]; exact h1)
  obtain ⟨i, hi, rfl⟩ := List.mem_map.mp hy
  exact ⟨i, e, hp i hi⟩
theorem cut_take {xs : List V} {k : Int} (h : 0 ≤ k) : cutV xs none (some k) = xs.take k.toNat := by
  obtain ⟨j, rfl⟩ := Int.eq_ofNat_of_zero_le h
  unfold cutV
  rw [HT.sIx_nat, HT.sIx_none]
  show List.take (min j xs.length - 0) xs = List.take j xs
  rw [Nat.sub_zero]
  rcases Nat.le_total j xs.length with z | z
  · rw [Nat.min_eq_left z]
  · rw [Nat.min_eq_right z, List.take_length, List.take_of_length_le z]
/-- what is known behind an expression -/
theorem rd_post {t : TE} {σ : L2.St} {H : Hp} {Q : VK} (P : V → Hp → Prop) (h : ∀ Q' : VK, (∀ x H', P x H' → Q' x H') → t σ H Q') (k : ∀ x H', P x H' → Q x H') : t σ H Q := h Q k
theorem goN {i : Nat} {x : V} {σ : L2.St} {H : Hp} {Q : L2.St → Hp → Prop} (h : Q (σ.set i (some x)) H) : gName i x σ H Q := h
/-- x = e; then the rest: what is known behind e -/
theorem sq_asg {t : TE} {i : Nat} {u : TS} {D : Ends} {σ : L2.St} {H : Hp} (P : V → Hp → Prop) (h : ∀ Q' : VK, (∀ x H', P x H' → Q' x H') → t σ H Q') (k : ∀ x H', P x H' → u D (σ.set i (some x)) H') : tSeq (tAsg t (gName i)) u D σ H := h _ k
/-- t; then the rest: what is known behind t -/
theorem sq_st {t u : TS} {D : Ends} {σ : L2.St} {H : Hp} (P : L2.St → Hp → Prop) (h : ∀ N : L2.St → Hp → Prop, (∀ σ' H', P σ' H' → N σ' H') → t { D with nx := N } σ H) (k : ∀ σ' H', P σ' H' → u D σ' H') : tSeq t u D σ H := h _ k
theorem Paired.flip {α β : Type} {R : α → β → Prop} : ∀ {xs : List α} {ys : List β}, Paired R xs ys → Paired (fun y x => R x y) ys xs
  | _, _, .nil => .nil
  | _, _, .cons a t => .cons a (Paired.flip t)
theorem Paired.trans {α β γ : Type} {R : α → β → Prop} {S : β → γ → Prop} : ∀ {xs : List α} {ys : List β} {zs : List γ}, Paired R xs ys → Paired S ys zs → Paired (fun x z => ∃ y, R x y ∧ S y z) xs zs
  | _, _, _, .nil, .nil => .nil
  | _, _, _, .cons a t, .cons b u => .cons ⟨_, a, b⟩ (Paired.trans t u)
/-- a list that is not yet known is written -/
theorem Gr.put {Tb : List (Addr × Str)} {H1 H : Hp} {D : Addr} {acc acc' : List V} (hD : H1 D = none) (g : Gr Tb H1 H) (hd : H D = some (.lst acc)) : Gr Tb H1 (upd H D (.lst acc')) := g.mut (.of hD) hd .lst
/-- a comprehension that makes, item by item, something that R tells of; the heap grows meanwhile -/
theorem lc_rel {Tb : List (Addr × Str)} {J : It} {n : Nat} {GG : Hp → Prop} {xs : List V} (wk : Walk J n GG (YAt xs)) (hn : n = xs.length) {g : TG} {tt : TT} {te : TE} {vs : List Nat} {σ : L2.St} {H1 : Hp} {D : Addr} {Qd : Hp → Prop} (keep : V → Bool) (R : Hp → V → V → Prop)
    (mono : ∀ H H' x y, (∀ a o, NoTab o → (∀ l, o ≠ .lst l) ∨ a ≠ D → H a = some o → H' a = some o) → R H x y → R H' x y) (hD : H1 D = none) (hz : n ≤ 16777215)
    (hG : ∀ H, Gr Tb H1 H → GG H)
    (turn : ∀ (i : Nat) (x : V) (H : Hp), xs[i]? = some x → Gr Tb H1 H → H D ≠ none → ∀ (Rk : V → Hp → Prop) (Rs : Hp → Prop), (∀ y H4, keep x = true → Gr Tb H H4 → R H4 x y → Rk y H4) → (∀ H4, keep x = false → Gr Tb H H4 → Rs H4) →
      g x (wipe σ vs) H fun σ2 H2 => wipe σ2 vs = wipe σ vs ∧ tt σ2 H2 fun b H3 => if b = true then te σ2 H3 Rk else Rs H3)
    (done : ∀ H ys, Gr Tb H1 H → H D = some (.lst ys) → Paired (R H) (xs.filter keep) ys → Qd H) :
    ∃ W : Nat → Nat → Hp → Prop, (∃ m, W 0 m (upd H1 D (.lst []))) ∧ ∀ i m H, W i m H →
      (J.stop i H ∧ Qd H) ∨ (J.go i H ∧ ∃ Nx : Hp → Prop, (∀ H', Nx H' → ∃ m', m' < m ∧ W (i + 1) m' H') ∧ ∀ x H', J.yld i H x H' → g x (wipe σ vs) H' fun σ2 H2 => wipe σ2 vs = wipe σ vs ∧ tt σ2 H2 fun b H3 =>
        if b = true then te σ2 H3 fun y H4 => ∃ acc, H4 D = some (.lst acc) ∧ acc.length < sizeLine ∧ Nx (upd H4 D (.lst (acc ++ [y]))) else Nx H3) := by
  have h0 : Gr Tb H1 (upd H1 D (.lst [])) := Gr.new hD
  refine lc_it wk (fun i H => Gr Tb H1 H ∧ ∃ ys, H D = some (.lst ys) ∧ Paired (R H) ((xs.take i).filter keep) ys) ⟨h0, [], upd_same, by rw [List.take_zero]; exact .nil⟩ (fun i H _ p => hG H p.1) (fun i x H H' hi p y => ?_) (fun H p => ?_)
  · obtain ⟨rfl, hx⟩ := y
    obtain ⟨g1, ys, hd, pr⟩ := p
    have tk : (xs.take (i + 1)).filter keep = (xs.take i).filter keep ++ [x].filter keep := by
      rw [List.take_add_one, hx, List.filter_append]
      rfl
    refine turn i x H' hx g1 (by rw [hd]; exact fun z => by cases z) _ _ (fun y H4 e gr r => ?_) (fun H4 e gr => ?_)
    · have hd4 := gr.at hd .lst
      have hle : ys.length ≤ i := by
        rw [← Paired.len pr]
        exact Nat.le_trans (List.length_filter_le _ _) (by rw [List.length_take]; omega)
      refine ⟨_, hd4, by rw [sizeLine_eq]; omega, Gr.put hD (g1.trans gr) hd4, ys ++ [y], upd_same, ?_⟩
      rw [tk, List.filter_cons, if_pos e, List.filter_nil]
      have m2 : ∀ x z, R H4 x z → R (upd H4 D (.lst (ys ++ [y]))) x z := fun x z r => mono H4 _ x z (fun a o _ ha q => by
        rw [upd_ne]
        · exact q
        · rcases ha with ha | ha
          · exact fun e => by
              rw [e, hd4] at q
              cases q
              exact ha _ rfl
          · exact ha) r
      exact Paired.snoc (m2 x y r) (Paired.imp (fun a b r' => m2 a b (mono H' H4 a b (fun a o nt _ q => gr.at q nt) r')) pr)
    · refine ⟨g1.trans gr, ys, gr.at hd .lst, ?_⟩
      rw [tk, List.filter_cons, if_neg (by rw [e]; exact Bool.false_ne_true), List.filter_nil, List.append_nil]
      exact Paired.imp (fun a b r' => mono H' H4 a b (fun a o nt _ q => gr.at q nt) r') pr
  · obtain ⟨g1, ys, hd, pr⟩ := p
    rw [hn, List.take_length] at pr
    exact done H ys g1 hd pr
/-- [entry[0] for entry in ..] -/
theorem lc_names {Tb : List (Addr × Str)} {K : PySem.W.Frag} {a : Addr} {ys : List V} {es : List Ent} {i : Nat} {σ : L2.St} {H1 : Hp} {D : Addr} {Qd : Hp → Prop} (ha : SqL K H1 a ys) (hc : CatAt H1 ys es) (hz : es.length ≤ 100000) (hD : H1 D = none) (hi : (σ.set i none)[i]? = some none)
    (k : ∀ H', Gr Tb H1 H' → H' D = some (.lst ((es.map (·.name)).map V.str)) → Qd H') :
    ∃ W : Nat → Nat → Hp → Prop, (∃ m, W 0 m (upd H1 D (.lst []))) ∧ ∀ j m H, W j m H →
      ((Itl K a).stop j H ∧ Qd H) ∨ ((Itl K a).go j H ∧ ∃ Nx : Hp → Prop, (∀ H', Nx H' → ∃ m', m' < m ∧ W (j + 1) m' H') ∧ ∀ x H', (Itl K a).yld j H x H' → gName i x (wipe σ [i]) H' fun σ2 H2 => wipe σ2 [i] = wipe σ [i] ∧ tYes σ2 H2 fun b H3 =>
        if b = true then (tOp (rIxT K) (tVar i) (tC (.int 0))) σ2 H3 fun y H4 => ∃ acc, H4 D = some (.lst acc) ∧ acc.length < sizeLine ∧ Nx (upd H4 D (.lst (acc ++ [y]))) else Nx H3) := by
  have hl := Paired.len hc
  have hil : i < σ.length := by
    have := (List.getElem?_eq_some_iff.mp hi).1
    rwa [List.length_set] at this
  refine lc_fm (Tb := Tb) (xs := ys) walk_list rfl (itemAt H1 0) hD (by omega) (fun H' g => g.ext_seq ha) (fun j v H' hv g Rk Rs hk hs => ?_) fun H' g hD' => ?_
  · obtain ⟨e, he, t, lp, rfl, h1, h2⟩ := Paired.at hc hv
    have e1 : wipe ((wipe σ [i]).set i (some (V.ref t))) [i] = wipe σ [i] := by
      show List.set (List.set (List.set σ i none) i (some (V.ref t))) i none = List.set σ i none
      rw [List.set_set, List.set_set]
    have e2 : ((wipe σ [i]).set i (some (V.ref t)))[i]? = some (some (V.ref t)) := by
      show (List.set (List.set σ i none) i (some (V.ref t)))[i]? = _
      rw [List.getElem?_set_self (by rw [List.length_set]; exact hil)]
    exact ⟨e1, _, e2, t, _, _, _, rfl, rfl, SqT.of (g.at h1 .tup), atI_nat (j := 0) rfl, hk _ _ (by rw [itemAt_tup h1]; rfl) (Gr.refl _)⟩
  · have e : ys.filterMap (itemAt H1 0) = (es.map (·.name)).map V.str := by
      rw [List.map_map]
      exact fm_paired (fun v e ⟨t, lp, h0, h1, h2⟩ => by rw [h0, itemAt_tup h1]; rfl) hc
    rw [e] at hD'
    exact k H' g hD'
end Sk
/-! dicts of numbers -/
namespace Sk
open PySem PySem.Spec PyProof.Rows L2
/-- f at the names of es -/
def numOf (es : List Ent) (f : Str → Int) : Num := es.map fun e => (e.name, f e.name)
def upF (f : Str → Int) (x : Str) (i : Int) : Str → Int := fun y => if y = x then i else f y
theorem numOf_names (es : List Ent) (f : Str → Int) : (numOf es f).map (·.1) = es.map (·.name) := by
  unfold numOf
  rw [List.map_map]
  rfl
theorem numOf_len (es : List Ent) (f : Str → Int) : (numOf es f).length = es.length := List.length_map ..
theorem get?_numOf {f : Str → Int} {x : Str} : ∀ {es : List Ent}, x ∈ es.map (·.name) → get? (numOf es f) x = some (f x)
  | [], h => by cases h
  | e :: es, h => by
    unfold numOf get?
    rw [List.map_cons, List.find?_cons]
    by_cases q : e.name = x
    · rw [show decide ((e.name, f e.name).1 = x) = true from decide_eq_true q, ← q]
      rfl
    · rw [show decide ((e.name, f e.name).1 = x) = false from decide_eq_false q]
      rw [List.map_cons] at h
      exact get?_numOf ((List.mem_cons.mp h).resolve_left fun z => q z.symm)
theorem get?_none {d : Num} {x : Str} (h : x ∉ d.map (·.1)) : get? d x = none := by
  unfold get?
  rw [List.find?_eq_none.mpr fun q hq => by
    rw [decide_eq_true_eq]
    exact fun e => h (List.mem_map.mpr ⟨q, hq, e⟩)]
  rfl
theorem getD_numOf {es : List Ent} {f : Str → Int} {x : Str} (h : x ∈ es.map (·.name)) : getD (numOf es f) x = f x := by
  unfold getD
  rw [get?_numOf h]
  rfl
theorem getD_none {d : Num} {x : Str} (h : x ∉ d.map (·.1)) : getD d x = 0 := by
  unfold getD
  rw [get?_none h]
  rfl
theorem put_numOf {es : List Ent} {f : Str → Int} {x : Str} {i : Int} (h : x ∈ es.map (·.name)) : put (numOf es f) x i = numOf es (upF f x i) := by
  unfold put
  rw [if_pos]
  · unfold numOf upF
    rw [List.map_map]
    refine List.map_congr_left fun e _ => ?_
    show (if e.name = x then (e.name, i) else (e.name, f e.name)) = (e.name, if e.name = x then i else f e.name)
    split <;> rfl
  · rw [List.any_eq_true]
    obtain ⟨e, he, q⟩ := List.mem_map.mp h
    exact ⟨(e.name, f e.name), List.mem_map.mpr ⟨e, he, rfl⟩, decide_eq_true q⟩
theorem numOf_congr {es : List Ent} {f g : Str → Int} (h : ∀ e ∈ es, f e.name = g e.name) : numOf es f = numOf es g := List.map_congr_left fun e he => by rw [h e he]
/-! ### d[x], d.get(x, 0), d[x] = i -/
theorem dgetO {H : Hp} {a : Addr} {d : Num} (h : H a = some (.dK (dS d))) (x : Str) : DGet H a (.str x) ((get? d x).map V.int) := by
  have := DGet.k (k := Sum.inr x) h
  rw [valV_dS] at this
  exact this
theorem dgetS {H : Hp} {a : Addr} {d : Num} {x : Str} {i : Int} (h : H a = some (.dK (dS d))) (e : get? d x = some i) : DGet H a (.str x) (some (.int i)) := by
  have := dgetO h x
  rw [e] at this
  exact this
theorem getO (d : Num) (x : Str) : ((get? d x).map V.int).getD (.int 0) = .int (getD d x) := by
  unfold getD
  cases get? d x <;> rfl
/-- d.get(x, 0), what is known -/
theorem dget2 {H : Hp} {a : Addr} {d : Num} {x : Str} {Q : VK} (h : H a = some (.dK (dS d))) (q : Q (.int (getD d x)) H) : ∃ o, DGet H a (.str x) o ∧ Q (o.getD (.int 0)) H := ⟨_, dgetO h x, by rw [getO]; exact q⟩
theorem dputS {H : Hp} {a : Addr} {d : Num} {x : Str} {i : Int} (h : H a = some (.dK (dS d))) (hz : d.length < sizeLine) : DPut H a (.str x) (.int i) (upd H a (.dK (dS (put d x i)))) := .inl ⟨_, Sum.inr x, h, rfl, by rw [dS_len]; exact hz, by rw [putK_dS]⟩
theorem IsD.num {H : Hp} {a : Addr} {d : Num} (h : H a = some (.dK (dS d))) : IsD H a := .inl ⟨_, .inl h⟩
/-! ### a dict comprehension of numbers -/
def putAll (d : Num) (l : Num) : Num := l.foldl (fun d q => put d q.1 q.2) d
theorem put_new' {d : Num} {x : Str} {i : Int} (h : x ∉ d.map (·.1)) : put d x i = d ++ [(x, i)] := by
  unfold put
  rw [if_neg]
  rw [List.any_eq_true]
  rintro ⟨q, hq, e⟩
  exact h (List.mem_map.mpr ⟨q, hq, by simpa using e⟩)
theorem putAll_new : ∀ (l d : Num), ((d ++ l).map (·.1)).Nodup → putAll d l = d ++ l
  | [], d, _ => (List.append_nil d).symm
  | q :: l, d, h => by
    have e : d ++ q :: l = (d ++ [q]) ++ l := by rw [List.append_assoc]; rfl
    rw [e] at h
    have hn : q.1 ∉ d.map (·.1) := by
      rw [List.map_append, List.map_append, List.append_assoc] at h
      have h2 := (List.nodup_append.mp h).2.2
      exact fun hm => h2 _ hm _ (List.mem_append_left _ (List.mem_map.mpr ⟨q, List.mem_singleton.mpr rfl, rfl⟩)) rfl
    show putAll (put d q.1 q.2) l = _
    rw [put_new' hn, putAll_new l _ h, e]
theorem put_len (d : Num) (x : Str) (i : Int) : (put d x i).length ≤ d.length + 1 := by
  unfold put
  split
  · rw [List.length_map]
    omega
  · rw [List.length_append]
    exact Nat.le_refl _
theorem putAll_len : ∀ (l d : Num), (putAll d l).length ≤ d.length + l.length
  | [], d => Nat.le_refl _
  | q :: l, d => by
    have h1 := putAll_len l (put d q.1 q.2)
    have h2 := put_len d q.1 q.2
    rw [List.length_cons]
    show (putAll (put d q.1 q.2) l).length ≤ _
    omega
theorem Gr.putD {Tb : List (Addr × Str)} {H1 H : Hp} {D : Addr} {acc acc' : List (Key × V)} (hD : H1 D = none) (g : Gr Tb H1 H) (hd : H D = some (.dK acc)) : Gr Tb H1 (upd H D (.dK acc')) := g.mut (.of hD) hd .dK
/-- a dict comprehension that makes, item by item, what f says; the heap grows meanwhile -/
theorem dc_fm {Tb : List (Addr × Str)} {J : It} {n : Nat} {GG : Hp → Prop} {xs : List V} (wk : Walk J n GG (YAt xs)) (hn : n = xs.length) {g : TG} {tt : TT} {tk tv : TE} {vs : List Nat} {σ : L2.St} {H1 : Hp} {D : Addr} {Qd : Hp → Prop} (f : V → Option (Str × Int)) (hD : H1 D = none) (hz : n ≤ 100000)
    (hG : ∀ H, Gr Tb H1 H → GG H)
    (turn : ∀ (i : Nat) (x : V) (H : Hp), xs[i]? = some x → Gr Tb H1 H → ∀ (Rk : V → V → Hp → Prop) (Rs : Hp → Prop), (∀ q H4, f x = some q → Gr Tb H H4 → Rk (.str q.1) (.int q.2) H4) → (∀ H4, f x = none → Gr Tb H H4 → Rs H4) →
      g x (wipe σ vs) H fun σ2 H2 => wipe σ2 vs = wipe σ vs ∧ tt σ2 H2 fun b H3 => if b = true then tk σ2 H3 fun y H4 => tv σ2 H4 fun z H5 => Rk y z H5 else Rs H3)
    (done : ∀ H, Gr Tb H1 H → H D = some (.dK (dS (putAll [] (xs.filterMap f)))) → Qd H) :
    ∃ W : Nat → Nat → Hp → Prop, (∃ m, W 0 m (upd H1 D (.dK []))) ∧ ∀ i m H, W i m H →
      (J.stop i H ∧ Qd H) ∨ (J.go i H ∧ ∃ Nx : Hp → Prop, (∀ H', Nx H' → ∃ m', m' < m ∧ W (i + 1) m' H') ∧ ∀ x H', J.yld i H x H' → g x (wipe σ vs) H' fun σ2 H2 => wipe σ2 vs = wipe σ vs ∧ tt σ2 H2 fun b H3 =>
        if b = true then tk σ2 H3 fun y H4 => tv σ2 H4 fun z H5 => ∃ kvs k, y = kV k ∧ H5 D = some (.dK kvs) ∧ kvs.length < sizeLine ∧ Nx (upd H5 D (.dK (putK kvs k z))) else Nx H3) := by
  have h0 : Gr Tb H1 (upd H1 D (.dK [])) := Gr.new hD
  let P : Nat → Hp → Prop := fun i H => Gr Tb H1 H ∧ H D = some (.dK (dS (putAll [] ((xs.take i).filterMap f))))
  refine ⟨fun i m H => m = n - i ∧ i ≤ n ∧ P i H, ⟨n, rfl, Nat.zero_le _, h0, by rw [List.take_zero]; exact upd_same⟩, ?_⟩
  rintro i m H ⟨rfl, hi, p⟩
  have q := hG H p.1
  by_cases hlt : i < n
  · refine .inr ⟨wk.goes i H hlt q, P (i + 1), fun H' p' => ⟨n - (i + 1), by omega, rfl, hlt, p'⟩, fun x H' y => ?_⟩
    obtain ⟨rfl, hx⟩ := wk.yields i H x H' hlt q y
    obtain ⟨g1, hd⟩ := p
    have lle : (putAll [] ((xs.take i).filterMap f)).length ≤ 100000 := by
      have h1 := putAll_len ((xs.take i).filterMap f) []
      have h2 : ((xs.take i).filterMap f).length ≤ i := Nat.le_trans (List.length_filterMap_le _ _) (by rw [List.length_take]; omega)
      have h3 : ([] : Num).length = 0 := rfl
      omega
    refine turn i x H' hx g1 (fun y z H5 => ∃ kvs k, y = kV k ∧ H5 D = some (.dK kvs) ∧ kvs.length < sizeLine ∧ P (i + 1) (upd H5 D (.dK (putK kvs k z)))) (P (i + 1)) (fun q H4 e gr => ?_) (fun H4 e gr => ?_)
    · have hd4 := gr.at hd .dK
      refine ⟨_, Sum.inr q.1, rfl, hd4, ?_, Gr.putD hD (g1.trans gr) hd4, ?_⟩
      · rw [dS_len, sizeLine_eq]
        omega
      · rw [upd_same, filterMap_take f xs hx, e, putK_dS]
        unfold putAll
        rw [Option.toList_some, List.foldl_append]
        rfl
    · refine ⟨g1.trans gr, ?_⟩
      rw [filterMap_take f xs hx, e, gr.at hd .dK]
      simp
  · have e : i = n := by omega
    subst e
    refine .inl ⟨wk.stops H q, done H p.1 ?_⟩
    have := p.2
    rw [hn, List.take_length] at this
    exact this
/-! ### numbers grow -/
def addAll (f : Str → Int) (l : Num) : Str → Int := l.foldl (fun f q => upF f q.1 (f q.1 + q.2)) f
theorem addAll_append (f : Str → Int) (l m : Num) : addAll f (l ++ m) = addAll (addAll f l) m := List.foldl_append ..
theorem addAll_snoc (f : Str → Int) (l : Num) (q : Str × Int) : addAll f (l ++ [q]) = upF (addAll f l) q.1 (addAll f l q.1 + q.2) := by
  rw [addAll_append]
  rfl
def amt (l : Num) (x : Str) : Int := (l.map fun q => if q.1 = x then q.2 else 0).sum
def ones (l : List Str) : Num := l.map fun p => (p, 1)
theorem amt_cons (q : Str × Int) (l : Num) (x : Str) : amt (q :: l) x = (if q.1 = x then q.2 else 0) + amt l x := by
  unfold amt
  rw [List.map_cons, List.sum_cons]
theorem amt_append (l m : Num) (x : Str) : amt (l ++ m) x = amt l x + amt m x := by
  induction l with
  | nil =>
    show amt m x = 0 + amt m x
    omega
  | cons q l ih =>
    rw [List.cons_append, amt_cons, amt_cons, ih]
    omega
theorem addAll_at : ∀ (l : Num) (f : Str → Int) (x : Str), addAll f l x = f x + amt l x
  | [], f, x => by
    show f x = f x + 0
    omega
  | q :: l, f, x => by
    show addAll (upF f q.1 (f q.1 + q.2)) l x = _
    rw [addAll_at l, amt_cons]
    unfold upF
    by_cases h : x = q.1
    · rw [if_pos h, if_pos h.symm, h]
      omega
    · rw [if_neg h, if_neg fun z => h z.symm]
      omega
/-- what the splits add: to each part, for each entry -/
def incs (es : List Ent) (f : Str → Int) : Num := es.flatMap fun e => e.parts.map fun p => (p, f e.name)
theorem incs_snoc {es : List Ent} {f : Str → Int} {i : Nat} {e : Ent} (h : es[i]? = some e) : incs (es.take (i + 1)) f = incs (es.take i) f ++ e.parts.map fun p => (p, f e.name) := by
  unfold incs
  rw [List.take_add_one, h, List.flatMap_append]
  simp
/-- the pieces of each kind: of the stock, of the splits -/
def pn (es : List Ent) (st sp : Num) : Str → Int := addAll (getD st) (incs es (getD sp))
theorem amt_perm {es es' : List Ent} (p : es'.Perm es) (f : Str → Int) (x : Str) : amt (incs es' f) x = amt (incs es f) x := by
  induction p with
  | nil => rfl
  | cons e _ ih =>
    unfold incs at ih ⊢
    rw [List.flatMap_cons, List.flatMap_cons, amt_append, amt_append, ih]
  | swap a b l =>
    unfold incs
    rw [List.flatMap_cons, List.flatMap_cons, List.flatMap_cons, List.flatMap_cons, amt_append, amt_append, amt_append, amt_append]
    omega
  | trans _ _ h1 h2 => rw [h1, h2]
theorem pn_at (es : List Ent) (st sp : Num) (x : Str) : pn es st sp x = getD st x + amt (incs es (getD sp)) x := addAll_at _ _ _
theorem pn_perm {es es' : List Ent} (p : es'.Perm es) (st sp : Num) : pn es' st sp = pn es st sp := by
  funext x
  rw [pn_at, pn_at, amt_perm p]
/-- a dict comprehension over anything, by the turn's number -/
theorem dc_gen {Tb : List (Addr × Str)} {J : It} {n : Nat} {GG : Hp → Prop} {Y : Nat → Hp → V → Hp → Prop} (wk : Walk J n GG Y) {g : TG} {tt : TT} {tk tv : TE} {vs : List Nat} {σ : L2.St} {H1 : Hp} {D : Addr} {Qd : Hp → Prop} (F : Nat → Option (Str × Int)) (hD : H1 D = none) (hz : n ≤ 100000)
    (hG : ∀ H, Gr Tb H1 H → GG H) (hY : ∀ i H x H', Y i H x H' → Gr Tb H H')
    (turn : ∀ (i : Nat) (x : V) (H H' : Hp), i < n → Gr Tb H1 H' → Y i H x H' → ∀ (Rk : V → V → Hp → Prop) (Rs : Hp → Prop), (∀ q H4, F i = some q → Gr Tb H' H4 → Rk (.str q.1) (.int q.2) H4) → (∀ H4, F i = none → Gr Tb H' H4 → Rs H4) →
      g x (wipe σ vs) H' fun σ2 H2 => wipe σ2 vs = wipe σ vs ∧ tt σ2 H2 fun b H3 => if b = true then tk σ2 H3 fun y H4 => tv σ2 H4 fun z H5 => Rk y z H5 else Rs H3)
    (done : ∀ H, Gr Tb H1 H → H D = some (.dK (dS (putAll [] ((List.range n).filterMap F)))) → Qd H) :
    ∃ W : Nat → Nat → Hp → Prop, (∃ m, W 0 m (upd H1 D (.dK []))) ∧ ∀ i m H, W i m H →
      (J.stop i H ∧ Qd H) ∨ (J.go i H ∧ ∃ Nx : Hp → Prop, (∀ H', Nx H' → ∃ m', m' < m ∧ W (i + 1) m' H') ∧ ∀ x H', J.yld i H x H' → g x (wipe σ vs) H' fun σ2 H2 => wipe σ2 vs = wipe σ vs ∧ tt σ2 H2 fun b H3 =>
        if b = true then tk σ2 H3 fun y H4 => tv σ2 H4 fun z H5 => ∃ kvs k, y = kV k ∧ H5 D = some (.dK kvs) ∧ kvs.length < sizeLine ∧ Nx (upd H5 D (.dK (putK kvs k z))) else Nx H3) := by
  have h0 : Gr Tb H1 (upd H1 D (.dK [])) := Gr.new hD
  let P : Nat → Hp → Prop := fun i H => Gr Tb H1 H ∧ H D = some (.dK (dS (putAll [] ((List.range i).filterMap F))))
  refine ⟨fun i m H => m = n - i ∧ i ≤ n ∧ P i H, ⟨n, rfl, Nat.zero_le _, h0, upd_same⟩, ?_⟩
  rintro i m H ⟨rfl, hi, p⟩
  have q := hG H p.1
  by_cases hlt : i < n
  · refine .inr ⟨wk.goes i H hlt q, P (i + 1), fun H' p' => ⟨n - (i + 1), by omega, rfl, hlt, p'⟩, fun x H' y => ?_⟩
    have yy := wk.yields i H x H' hlt q y
    have g1 := p.1.trans (hY _ _ _ _ yy)
    have hd := (hY _ _ _ _ yy).at p.2 .dK
    have lle : (putAll [] ((List.range i).filterMap F)).length ≤ 100000 := by
      have h1 := putAll_len ((List.range i).filterMap F) []
      have h2 : ((List.range i).filterMap F).length ≤ i := Nat.le_trans (List.length_filterMap_le _ _) (by rw [List.length_range]; exact Nat.le_refl _)
      have h3 : ([] : Num).length = 0 := rfl
      omega
    refine turn i x H H' hlt g1 yy (fun y z H5 => ∃ kvs k, y = kV k ∧ H5 D = some (.dK kvs) ∧ kvs.length < sizeLine ∧ P (i + 1) (upd H5 D (.dK (putK kvs k z)))) (P (i + 1)) (fun q H4 e gr => ?_) (fun H4 e gr => ?_)
    · have hd4 := gr.at hd .dK
      refine ⟨_, Sum.inr q.1, rfl, hd4, ?_, Gr.putD hD (g1.trans gr) hd4, ?_⟩
      · rw [dS_len, sizeLine_eq]
        omega
      · rw [upd_same, List.range_succ, List.filterMap_append, putK_dS]
        unfold putAll
        rw [List.foldl_append, List.filterMap_cons, e]
        rfl
    · refine ⟨g1.trans gr, ?_⟩
      rw [List.range_succ, List.filterMap_append, List.filterMap_cons, e, gr.at hd .dK]
      simp
  · have e : i = n := by omega
    subst e
    exact .inl ⟨wk.stops H q, done H p.1 p.2⟩
theorem fm_range {α β : Type} (f : α → Option β) : ∀ l : List α, (List.range l.length).filterMap (fun i => l[i]?.bind f) = l.filterMap f := by
  intro l
  have key : ∀ n, n ≤ l.length → (List.range n).filterMap (fun i => l[i]?.bind f) = (l.take n).filterMap f := by
    intro n
    induction n with
    | zero => intro _; rfl
    | succ n ih =>
      intro h
      obtain ⟨x, hx⟩ : ∃ x, l[n]? = some x := ⟨_, List.getElem?_eq_getElem (by omega)⟩
      rw [List.range_succ, List.filterMap_append, ih (by omega), filterMap_take f l hx, List.filterMap_cons, hx]
      show _ ++ (match f x with | none => _ | some b => _) = _
      cases f x <;> rfl
  have := key l.length (Nat.le_refl _)
  rwa [List.take_length] at this
/-- the numbers that are not zero -/
def posN (es : List Ent) (f : Str → Int) : Num := numOf (es.filter fun e => decide (f e.name ≠ 0)) f
theorem posN_nodup {es : List Ent} {f : Str → Int} (h : (es.map (·.name)).Nodup) : ((posN es f).map (·.1)).Nodup := by
  unfold posN
  rw [numOf_names]
  exact h.sublist ((List.filter_sublist (l := es)).map _)
theorem getD_posN {es : List Ent} {f : Str → Int} {x : Str} (h : x ∈ es.map (·.name)) : getD (posN es f) x = f x := by
  by_cases q : f x = 0
  · rw [q]
    refine getD_none fun hm => ?_
    unfold posN at hm
    rw [numOf_names] at hm
    obtain ⟨e, he, rfl⟩ := List.mem_map.mp hm
    exact of_decide_eq_true (List.mem_filter.mp he).2 q
  · refine getD_numOf ?_
    obtain ⟨e, he, rfl⟩ := List.mem_map.mp h
    exact List.mem_map.mpr ⟨e, List.mem_filter.mpr ⟨he, decide_eq_true q⟩, rfl⟩
/-! ### what put does -/
theorem get?_cons (q : Str × Int) (d : Num) (x : Str) : get? (q :: d) x = if q.1 = x then some q.2 else get? d x := by
  unfold get?
  rw [List.find?_cons]
  by_cases h : q.1 = x
  · rw [if_pos h, show decide (q.1 = x) = true from decide_eq_true h]
    rfl
  · rw [if_neg h, show decide (q.1 = x) = false from decide_eq_false h]
theorem get?_app_new {d : Num} {x y : Str} {i : Int} : get? (d ++ [(x, i)]) y = match get? d y with | some j => some j | none => if x = y then some i else none := by
  induction d with
  | nil =>
    rw [List.nil_append, get?_cons]
    rfl
  | cons q d ih =>
    rw [List.cons_append, get?_cons, get?_cons, ih]
    by_cases h : q.1 = y
    · rw [if_pos h, if_pos h]
    · rw [if_neg h, if_neg h]
theorem get?_map {d : Num} {x y : Str} {i : Int} : get? (d.map fun q => if q.1 = x then (q.1, i) else q) y = if y = x ∧ y ∈ d.map (·.1) then some i else get? d y := by
  induction d with
  | nil =>
    rw [if_neg (fun z => by cases z.2)]
    rfl
  | cons q d ih =>
    rw [List.map_cons, get?_cons, get?_cons, ih, List.map_cons]
    by_cases h1 : q.1 = x
    · rw [if_pos h1]
      show (if q.1 = y then some i else _) = _
      by_cases h2 : q.1 = y
      · rw [if_pos h2, if_pos ⟨h2.symm.trans h1, by rw [h2]; exact List.mem_cons_self ..⟩]
      · rw [if_neg h2, if_neg h2]
        by_cases h3 : y = x
        · exact absurd (h1.trans h3.symm) h2
        · rw [if_neg fun z => h3 z.1, if_neg fun z => h3 z.1]
    · rw [if_neg h1]
      by_cases h2 : q.1 = y
      · rw [if_pos h2, if_pos h2, if_neg fun z => h1 (h2.trans z.1)]
      · rw [if_neg h2, if_neg h2]
        by_cases h3 : y = x ∧ y ∈ d.map (·.1)
        · rw [if_pos h3, if_pos ⟨h3.1, List.mem_cons_of_mem _ h3.2⟩]
        · rw [if_neg h3, if_neg fun z => h3 ⟨z.1, (List.mem_cons.mp z.2).resolve_left fun w => h2 w.symm⟩]
theorem mem_of_get? {d : Num} {x : Str} {i : Int} (h : get? d x = some i) : x ∈ d.map (·.1) := by
  cases q : decide (x ∈ d.map (·.1)) with
  | true => exact of_decide_eq_true q
  | false =>
    rw [get?_none (of_decide_eq_false q)] at h
    cases h
theorem get?_of_mem {d : Num} {x : Str} (h : x ∈ d.map (·.1)) : ∃ i, get? d x = some i := by
  induction d with
  | nil => cases h
  | cons q d ih =>
    rw [get?_cons]
    by_cases e : q.1 = x
    · exact ⟨_, if_pos e⟩
    · rw [if_neg e]
      rw [List.map_cons] at h
      exact ih ((List.mem_cons.mp h).resolve_left fun z => e z.symm)
theorem any_mem {d : Num} {x : Str} : (d.any fun q => decide (q.1 = x)) = true ↔ x ∈ d.map (·.1) := by
  rw [List.any_eq_true]
  constructor
  · rintro ⟨q, hq, e⟩
    exact List.mem_map.mpr ⟨q, hq, of_decide_eq_true e⟩
  · intro h
    obtain ⟨q, hq, e⟩ := List.mem_map.mp h
    exact ⟨q, hq, decide_eq_true e⟩
theorem get?_put (d : Num) (x y : Str) (i : Int) : get? (put d x i) y = if y = x then some i else get? d y := by
  by_cases h : x ∈ d.map (·.1)
  · unfold put
    rw [if_pos (any_mem.mpr h), get?_map]
    by_cases e : y = x
    · rw [if_pos e, if_pos ⟨e, e ▸ h⟩]
    · rw [if_neg e, if_neg fun z => e z.1]
  · rw [put_new' h, get?_app_new]
    by_cases e : y = x
    · rw [if_pos e, e, get?_none h]
      show (if x = x then some i else none) = _
      rw [if_pos rfl]
    · rw [if_neg e]
      cases get? d y with
      | some j => rfl
      | none => exact if_neg fun z => e z.symm
theorem getD_put (d : Num) (x y : Str) (i : Int) : getD (put d x i) y = if y = x then i else getD d y := by
  unfold getD
  rw [get?_put]
  split <;> rfl
theorem put_keys (d : Num) (x y : Str) (i : Int) : y ∈ (put d x i).map (·.1) ↔ y = x ∨ y ∈ d.map (·.1) := by
  constructor
  · intro h
    obtain ⟨j, hj⟩ := get?_of_mem h
    rw [get?_put] at hj
    by_cases e : y = x
    · exact .inl e
    · rw [if_neg e] at hj
      exact .inr (mem_of_get? hj)
  · intro h
    by_cases e : y = x
    · exact mem_of_get? (i := i) (by rw [get?_put, if_pos e])
    · obtain ⟨j, hj⟩ := get?_of_mem (h.resolve_left e)
      exact mem_of_get? (i := j) (by rw [get?_put, if_neg e, hj])
theorem put_nodup {d : Num} {x : Str} {i : Int} (h : (d.map (·.1)).Nodup) : ((put d x i).map (·.1)).Nodup := by
  by_cases q : x ∈ d.map (·.1)
  · unfold put
    rw [if_pos (any_mem.mpr q), List.map_map]
    have : ((fun q : Str × Int => q.1) ∘ fun q => if q.1 = x then (q.1, i) else q) = fun q => q.1 := by
      funext q
      show (if q.1 = x then (q.1, i) else q).1 = q.1
      split <;> rfl
    rw [this]
    exact h
  · rw [put_new' q, List.map_append]
    refine List.nodup_append.mpr ⟨h, by simp, fun a ha b hb e => ?_⟩
    have hb2 : b = x := List.mem_singleton.mp hb
    rw [e, hb2] at ha
    exact q ha
theorem getD_mem {d : Num} (h : (d.map (·.1)).Nodup) {q : Str × Int} (hq : q ∈ d) : getD d q.1 = q.2 := by
  unfold getD
  induction d with
  | nil => cases hq
  | cons z d ih =>
    rw [List.map_cons, List.nodup_cons] at h
    rw [get?_cons]
    rcases List.mem_cons.mp hq with e | hq
    · rw [if_pos (by rw [e]), e]
      rfl
    · rw [if_neg fun e => h.1 (List.mem_map.mpr ⟨q, hq, e.symm⟩)]
      exact ih h.2 hq
theorem get?_mem {d : Num} (h : (d.map (·.1)).Nodup) {q : Str × Int} (hq : q ∈ d) : get? d q.1 = some q.2 := by
  obtain ⟨i, hi⟩ := get?_of_mem (List.mem_map.mpr ⟨q, hq, rfl⟩ : q.1 ∈ d.map (·.1))
  have := getD_mem h hq
  unfold getD at this
  rw [hi] at this ⊢
  exact congrArg some this
/-- two dicts of numbers that are not zero, alike at each name -/
theorem num_eq {c d : Num} (hc : (c.map (·.1)).Nodup) (hd : (d.map (·.1)).Nodup) (zc : ∀ q ∈ c, q.2 ≠ 0) (zd : ∀ q ∈ d, q.2 ≠ 0) (e : ∀ x, getD c x = getD d x) : c.length = d.length ∧ ∀ q ∈ c, get? d q.1 = some q.2 := by
  have key : ∀ {c d : Num}, (c.map (·.1)).Nodup → (∀ q ∈ c, q.2 ≠ 0) → (∀ x, getD c x = getD d x) → ∀ x ∈ c.map (·.1), x ∈ d.map (·.1) := fun {c d} hc zc e x hx => by
    obtain ⟨q, hq, rfl⟩ := List.mem_map.mp hx
    cases z : decide (q.1 ∈ d.map (·.1)) with
    | true => exact of_decide_eq_true z
    | false =>
      have h1 := e q.1
      rw [getD_mem hc hq, getD_none (of_decide_eq_false z)] at h1
      exact absurd h1 (zc q hq)
  have k1 := key hc zc e
  have k2 := key hd zd fun x => (e x).symm
  refine ⟨?_, fun q hq => ?_⟩
  · have p : (c.map (·.1)).Perm (d.map (·.1)) := (List.perm_ext_iff_of_nodup hc hd).mpr fun x => ⟨k1 x, k2 x⟩
    have := p.length_eq
    rwa [List.length_map, List.length_map] at this
  · obtain ⟨i, hi⟩ := get?_of_mem (k1 q.1 (List.mem_map.mpr ⟨q, hq, rfl⟩))
    have h1 := e q.1
    rw [getD_mem hc hq] at h1
    unfold getD at h1
    rw [hi] at h1 ⊢
    exact congrArg some h1.symm
/-- d1 != d2, alike -/
theorem rd_neD {H : Hp} {a b : Addr} {c d : Num} {Q : VK} (ha : H a = some (.dK (dS c))) (hb : H b = some (.dK (dS d))) (hl : c.length = d.length) (h : ∀ q ∈ c, get? d q.1 = some q.2) (q : Q (.bl false) H) : rNeDA (.ref a) (.ref b) H Q :=
  ⟨a, b, _, _, rfl, rfl, ha, hb, by rw [dS_len, dS_len]; exact hl, fun p hp => by
    unfold dS at hp
    obtain ⟨z, hz, rfl⟩ := List.mem_map.mp hp
    refine ⟨?_, rfl⟩
    show valV (dS d) (Sum.inr z.1) = some (V.int z.2)
    rw [valV_dS, h z hz]
    rfl, q⟩
/-! ### dict([(name, number) ..]), for name in d -/
theorem mergeK_dS (l : Num) : ∀ d : Num, mergeK (dS d) (dS l) = dS (putAll d l) := by
  induction l with
  | nil => intro d; rfl
  | cons q l ih =>
    intro d
    show mergeK (putK (dS d) (Sum.inr q.1) (.int q.2)) (dS l) = dS (putAll (put d q.1 q.2) l)
    rw [putK_dS, ih]
theorem merge_new {l : Num} (h : (l.map (·.1)).Nodup) : mergeK [] (dS l) = dS l := by
  have := mergeK_dS l []
  rw [putAll_new l [] h] at this
  exact this
/-- a row of a name and its number -/
def PRow (H : Hp) (val : Str → Int) (x y : V) : Prop := ∃ t n, x = .str n ∧ y = .ref t ∧ H t = some (.tup [.str n, .int (val n)])
theorem pairs_dict {K : PySem.W.Frag} {H : Hp} {val : Str → Int} : ∀ {ns : List Str} {ys : List V}, Paired (PRow H val) (ns.map V.str) ys → ∃ ps : List Addr, ys = ps.map V.ref ∧ Paired (fun p kv => SqT K H p [kV kv.1, kv.2]) ps (dS (ns.map fun n => (n, val n)))
  | [], _, .nil => ⟨[], rfl, .nil⟩
  | n :: ns, _, .cons ⟨t, n', e, e2, h⟩ p => by
    cases e
    subst e2
    obtain ⟨ps, h1, h2⟩ := pairs_dict p
    exact ⟨t :: ps, by rw [h1]; rfl, .cons (SqT.of h) h2⟩
theorem walk_keysS {d : Addr} {o : Obj} {n : Num} : Walk (Itk d o (dS n)) n.length (fun H => H d = some (.frz o (.dK (dS n)))) (YAt ((n.map (·.1)).map V.str)) := by
  have w := walk_keys (d := d) (o := o) (kvs := dS n)
  rw [dS_len] at w
  refine w.mono (fun _ h => h) fun i H x H' hi _ y => ?_
  obtain ⟨h1, k, v, h2, h3⟩ := y
  refine ⟨h1, ?_⟩
  unfold dS at h2
  rw [List.getElem?_map] at h2
  cases hq : n[i]? with
  | none => rw [hq] at h2; cases h2
  | some q =>
    rw [hq] at h2
    cases h2
    rw [List.getElem?_map, List.getElem?_map, hq, h3]
    rfl
def stockO (H : Hp) (d : Num) (v : V) : Option (Str × Int) := match itemAt H 0 v with
  | some (.str n) => some (n, getD d n)
  | _ => none
theorem stockO_at {H : Hp} {d : Num} {v : V} {e : Ent} (h : EntAt H v e) : stockO H d v = some (e.name, getD d e.name) := by
  obtain ⟨t, l, rfl, ht, _⟩ := h
  unfold stockO
  rw [itemAt_tup ht]
  rfl
/-- {name: stock.get(name, 0) for name, weight, parts in entries} -/
theorem dc_stock {Tb : List (Addr × Str)} {K : PySem.W.Frag} {a b : Addr} {xs : List V} {es : List Ent} {st : Num} {i j k l : Nat} {σ : L2.St} {H1 : Hp} {D : Addr} {Qd : Hp → Prop} (ha : SqL K H1 a xs) (hc : CatAt H1 xs es) (hb : H1 b = some (.dK (dS st))) (hnd : (es.map (·.name)).Nodup) (hz : es.length ≤ 100000) (hD : H1 D = none)
    (hw : ∀ n w p, wipe ((((wipe σ [i, j, k]).set i n).set j w).set k p) [i, j, k] = wipe σ [i, j, k]) (h1 : ∀ n w p, ((((wipe σ [i, j, k]).set i n).set j w).set k p)[i]? = some n) (h2 : ∀ n w p, ((((wipe σ [i, j, k]).set i n).set j w).set k p)[l]? = some (some (.ref b)))
    (done : ∀ H, Gr Tb H1 H → H D = some (.dK (dS (numOf es (getD st)))) → Qd H) :
    ∃ W : Nat → Nat → Hp → Prop, (∃ m, W 0 m (upd H1 D (.dK []))) ∧ ∀ r m H, W r m H →
      ((Itl K a).stop r H ∧ Qd H) ∨ ((Itl K a).go r H ∧ ∃ Nx : Hp → Prop, (∀ H', Nx H' → ∃ m', m' < m ∧ W (r + 1) m' H') ∧ ∀ x H', (Itl K a).yld r H x H' → (gTup K 3 (gCons (gName i) (gCons (gName j) (gCons (gName k) gNil)))) x (wipe σ [i, j, k]) H' fun σ2 H2 => wipe σ2 [i, j, k] = wipe σ [i, j, k] ∧ tYes σ2 H2 fun b H3 =>
        if b = true then tVar i σ2 H3 fun y H4 => (tDGet2 (tVar l) (tVar i) (tC (.int 0))) σ2 H4 fun z H5 => ∃ kvs k, y = kV k ∧ H5 D = some (.dK kvs) ∧ kvs.length < sizeLine ∧ Nx (upd H5 D (.dK (putK kvs k z))) else Nx H3) := by
  have hl := Paired.len hc
  refine dc_fm (Tb := Tb) (xs := xs) walk_list rfl (stockO H1 st) hD (by omega) (fun H' g => g.ext_seq ha) (fun j' v H' hv g Rk Rs hk hs => ?_) fun H' g hD' => ?_
  · obtain ⟨e, he, hev⟩ := Paired.at hc hv
    have hco := stockO_at (d := st) hev
    obtain ⟨t, lp, rfl, ht, hlp⟩ := hev
    have hb' := g.at hb .dK
    refine gtup3 (g.at ht .tup) ⟨hw _ _ _, _, h1 _ _ _, _, h2 _ _ _, b, rfl, IsD.num hb', _, h1 _ _ _, _, dgetO hb' e.name, ?_⟩
    rw [getO]
    exact hk (e.name, getD st e.name) _ hco (Gr.refl _)
  · have e : xs.filterMap (stockO H1 st) = numOf es (getD st) := fm_paired (fun v e h => stockO_at h) hc
    rw [e, putAll_new _ _ (by rw [List.nil_append, numOf_names]; exact hnd), List.nil_append] at hD'
    exact done H' g hD'
end Sk
/-! x = {..: .. for ..}, x a local name: the comprehension stores its dict itself -/
namespace Sk
open PySem PySem.Spec PyProof.Rows L2
section
variable {X : Cx}
theorem swD_true {kx vx : Expr} {gs : List Comprehension} {scope : Scope} {pos py : Pos} {y : Str} {l : Nat} {env : Env} (hk : env.scope.kind = .function) (hy : env.scope.names.lookup y = some .local) (hl : (py.line == pos.line) = true)
    (ha : (scope.names.any fun (n, k) => n == y && (k == .local || k == .cell)) = false) : swapsWith (.DictComp kx vx gs scope pos) (some (.Name y py)) l env = pure true := by
  have e1 : env.kindOf y = some .local := hy
  have e2 : env.blockKind = .function := by
    unfold Env.blockKind
    rw [hk]
    rfl
  unfold swapsWith
  simp only [e1, e2, ha, Expr.pos, hl] <;> rfl
theorem ps_setDc {i : Nat} {y : Str} {py : Pos} {kx vx tg iter : Expr} {ifs : List Expr} {scope : Scope} {own : List (Str × Nat)} {pos spos : Pos} {wi : TI} {g : TG} {tt : TT} {tk tv : TE} (hc : X.calm = true) (hN : X.N.Nodup) (hy : X.N[i]? = some y)
    (hyl : X.env.scope.names.lookup y = some .local) (hsw : swapsWith (.DictComp kx vx [⟨tg, iter, ifs, 0⟩] scope pos) (some (.Name y py)) spos.line X.env = pure true) (hi : PI X tg iter wi) (ok : BlkOk X.N X.env.scope scope own)
    (hg : ∀ s H C cl fp, PG (X.blk s H scope (compEnvC scope cl C X.env) fp) tg g) (ht : ∀ s H C cl fp, PTs (X.blk s H scope (compEnvC scope cl C X.env) fp) ifs tt)
    (hk : ∀ s H C cl fp, PE (X.blk s H scope (compEnvC scope cl C X.env) fp) kx tk) (he : ∀ s H C cl fp, PE (X.blk s H scope (compEnvC scope cl C X.env) fp) vx tv) (hs : ∀ x, foldedSetIterable iter X.env x = pure x := by intro _; rfl) :
    PS X (.Assign [.Name y py] (.DictComp kx vx [⟨tg, iter, ifs, 0⟩] scope pos) spos) (tAsg (tDc wi g tt tk tv (own.map (·.2))) (gName i)) := by
  refine ⟨fun pins s σ H D I h0 => ?_⟩
  rw [exec_Assign_Name_used _ _ _ _ hsw]
  have h : tDc wi g tt tk tv (own.map (·.2)) σ H (fun x H1 => gName i x σ H1 D.nx) := h0
  refine wpAny_bind (wpAny_standAt (wpAny_bind ?_))
  show wpAny _ X.A (do
    let _ ← comprehension (.DictComp kx vx [⟨tg, iter, ifs, 0⟩] scope pos) scope X.env (firstIterPos [⟨tg, iter, ifs, 0⟩] pos) newDict false (eval iter X.env) (some (assign (.Name y py) X.env))) _ _ s
  refine wpAny_bind (thn (dc_core (Qf := fun _ s' => SP X pins D .next s') hc hN I hi ok hg ht hk he hs h fun L C s' m H' J q hn f => ?_) fun _ s' hq => wpAny_pure (wpAny_pure hq))
  obtain ⟨f0, f1, f2, f3, f4, f5⟩ := f
  show wpAny _ _ (assign (.Name y py) X.env (.ref L)) _ _ _
  refine wpAny_assign_Name (store_ok2 (v := V.ref L) J hN hy (.inl hyl) rfl (fun s2 J2 ⟨a, sb, ha⟩ => ?_) (.inr hyl))
  have ne : C ≠ a := fun e => by
    rcases ha with z | z
    · exact f1 (e.trans z)
    · exact f4 y a z e.symm
  exact ⟨m, hn.sameBut sb ne, fun h3 sb3 => ⟨_, H', J2.turned (t' := s2.toks) (fun b o hb e => (sb3.2 b hb).trans e) f0 f1 f3 f4 f5, q⟩⟩
end
end Sk
/-! sum(d.values()) -/
namespace Sk
open PySem PySem.Spec PyProof.Rows L2
section
variable {X : Cx} {o : Expr} {p pos apos mpos : Pos} {td : TE}
/-- sum(o.values()), a dict whose values are ints -/
def tSumVals (td : TE) : TE := fun σ H Q => td σ H fun x H1 => ∃ (a : Addr) (kvs : List (Key × V)) (is : List Int), x = V.ref a ∧ H1 a = some (.dK kvs) ∧ kvs.map (·.2) = is.map V.int ∧ Q (.int is.sum) H1
theorem pe_sumVals (hc : X.calm = true) (hg : Gl X "sum") (hm : X.mg "sum" = none) (hd : PE X o td) (hbase : attributeBase o "values" X.env (eval o X.env) = eval o X.env := by rfl) (hline : (apos.endLine == mpos.line) = true := by rfl)
    (hse : starEach [Expr.Call (.Attribute o "values" apos) [] [] mpos] X.env = [(false, eval (Expr.Call (.Attribute o "values" apos) [] [] mpos) X.env)] := by rfl) :
    PE X (.Call (.Name "sum" p) [.Call (.Attribute o "values" apos) [] [] mpos] [] pos) (tSumVals td) := by
  refine ⟨fun pins s σ H Q I h => ?_⟩
  refine wpAny_Call_Name_kw (ld_blt I hg hm (u := .builtin "sum") (by first | rfl | decide +kernel) ?_ (by decide +kernel) (by decide +kernel))
  rw [hse]
  refine PySem.callWith_builtin1 (wpAny_Call_method0_late hbase hline (thn (hd.run pins s σ H _ I h) fun v s1 ⟨x, H1, I1, r1, a, kvs, is, ex, ha, hv, q⟩ => ?_))
  subst ex
  obtain rfl : v = Value.ref a := r1
  obtain ⟨_, hsys, vs, rel, dof⟩ := dk_of I1.hok ha
  obtain ⟨ep, dat⟩ := dof.dictAt
  obtain ⟨ob, es, ho, ex, hdat, hko, hpr, hnd⟩ := id dat
  refine ⟨"dict", "dict.values", F.plainAttrs_dict, F.slot_dict_values, F.type_dict_values, ⟨ob, ho, ex.1⟩, fun b e => ?_, Calls.callWith_builtin rfl (PySem.evalArgs_none ?_)⟩
  · cases e
    exact ⟨ob, ho, ex.2.1⟩
  refine call_meetsIn F.slot_dict_values ⟨ob, ho, ex.1⟩ F.entry_dict_values (F.args_dict_values_1 _) (meets_dict_values (mixKind X.prog X.w) a hsys) ⟨⟨vs, dof⟩, ?_⟩
  have up : ∀ b u, s1.heap.get? b = some u → (s1.heap.push { cls := .type "dict_values", data := .fields #[.ref a] }).get? b = some u := fun b u e => Heap.get?_push_of_some _ e
  have datV := dat.keep up
  have lv : vs.length = is.length := by
    have e1 := congrArg List.length hv
    rw [List.length_map, List.length_map] at e1
    rw [← e1, ← KV.length rel]
  have vals : ∀ (i : Nat) (u : Value), (∃ k, vs[i]? = some (k, u)) → ∃ t, u = Value.int (is.getD i 0) t := by
    rintro i u ⟨k, hk⟩
    obtain ⟨x, h1, h2⟩ := KV.at' rel hk
    have e1 : (is.map V.int)[i]? = some x := by
      rw [← hv, List.getElem?_map, h1]
      rfl
    rw [List.getElem?_map] at e1
    obtain ⟨j, hj, rfl⟩ := Option.map_eq_some_iff.mp e1
    obtain ⟨t, e3⟩ := h2
    exact ⟨t, by rw [e3, List.getD_eq_getElem?_getD, hj]; rfl⟩
  have hlt : a < s1.heap.objs.size := Heap.lt_size ho
  have sz : (s1.heap.push { cls := .type "dict_values", data := .fields #[.ref a] }).objs.size = s1.heap.objs.size + 1 := Heap.size_push _ _
  refine call_sum_walkAnyS (wpAny_pyIter_values (v := s1.heap.objs.size) (d := a) ⟨_, Heap.get?_push_size _ rfl, rfl, rfl⟩ datV ?_)
  refine ⟨_, _, _, _, _, _, _, fun i => is.getD i 0, rfl, (Walks.dictValues (knd := mixKind X.prog X.w) (A := X.A.in1) (I.ok.hd hc) _ a (by rw [sz]; exact Nat.ne_of_lt (Nat.lt_succ_of_lt hlt)) vs ep).toS,
    ⟨⟨_, Heap.get?_push_size _ rfl, rfl, rfl⟩, datV.keep fun b u e => Heap.get?_push_of_some _ e⟩, fun b hb => ?_, vals, fun s' t' hm => ?_⟩
  · show b < ((s1.heap.push _).push _).objs.size
    rw [Heap.size_push, Heap.size_push]
    rw [sz] at hb
    rcases List.mem_cons.mp hb with e | hb
    · rw [e]
      exact Nat.lt_succ_self _
    · rw [List.mem_singleton.mp hb]
      exact Nat.lt_succ_of_lt (Nat.lt_succ_of_lt hlt)
  · have e : preSum (fun i => is.getD i 0) vs.length = is.sum := by
      rw [lv]
      clear lv vals q hv
      have key : ∀ n, n ≤ is.length → preSum (fun i => is.getD i 0) n = (is.take n).sum := by
        intro n
        induction n with
        | zero => intro _; rfl
        | succ n ih =>
          intro hn
          show preSum _ n + is.getD n 0 = _
          rw [ih (by omega), List.take_add_one, List.sum_append, List.getD_eq_getElem?_getD, List.getElem?_eq_getElem (by omega)]
          simp
      rw [key _ (Nat.le_refl _), List.take_length]
    rw [e, Moved.eq_with hm]
    refine ⟨.int is.sum, H1, I1.kept (t' := s'.toks) fun b u e => hm.heap b u (fun hmem => ?_) (Heap.get?_push_of_some _ (up b u e)), ⟨t', rfl⟩, q⟩
    have e1 := List.mem_singleton.mp hmem
    have e2 := Heap.lt_size e
    rw [e1, sz] at e2
    exact absurd e2 (Nat.not_lt.mpr (Nat.le_succ _))
end
end Sk
/-! rules whose reading names the written part K, K told apart (within a comprehension) -/
namespace Sk
open PySem PySem.Spec PyProof.Rows L2
section
variable {X : Cx} {K : PySem.W.Frag}
theorem ixL (e : X.K = K) : IxR X (rIxL K) := by subst e; exact ix_list
theorem ixT (e : X.K = K) : IxR X (rIxT K) := by subst e; exact ix_tup
/-- an item of a list or of a tuple -/
def rIxA (K : PySem.W.Frag) : R2 := fun x y H Q => ∃ p xs i v, x = .ref p ∧ y = .int i ∧ (SqL K H p xs ∨ SqT K H p xs) ∧ atI xs i = some v ∧ Q v H
theorem ixA (e : X.K = K) : IxR X (rIxA K) := by
  intro va sl pins s σ H x y v u Q I rx ry h
  obtain ⟨p, xs, i, z, h1, h2, h3 | h3, h4, h5⟩ := h
  · exact ixL e va sl pins s σ H x y v u Q I rx ry ⟨p, xs, i, z, h1, h2, h3, h4, h5⟩
  · exact ixT e va sl pins s σ H x y v u Q I rx ry ⟨p, xs, i, z, h1, h2, h3, h4, h5⟩
theorem slL (e : X.K = K) : SlR X (rSlL K) := by subst e; exact sl_list
theorem slT (e : X.K = K) : SlR X (rSlT K) := by subst e; exact sl_tup
theorem opIn (e : X.K = K) : OpR X (compareOp .In) (rIn K false) := by subst e; exact op_in_seq
theorem opNotIn (e : X.K = K) : OpR X (compareOp .NotIn) (rIn K true) := by subst e; exact op_notIn_seq
theorem opEqD (e : X.K = K) (hu : X.A.units + 64 < cLine) : OpR X (compareOp .Eq) (rEqD K) := by subst e; exact op_eqD hu
theorem opNeD (e : X.K = K) (hu : X.A.units + 64 < cLine) : OpR X (compareOp .NotEq) (rNeD K) := by subst e; exact op_neD hu
theorem opEqNil (e : X.K = K) (hu : X.A.units + 64 < cLine) : OpR X (compareOp .Eq) (rNil K false) := by subst e; exact op_eqNil hu
theorem opNeNil (e : X.K = K) (hu : X.A.units + 64 < cLine) : OpR X (compareOp .NotEq) (rNil K true) := by subst e; exact op_neNil hu
/-- len of a list -/
def rLenL (K : PySem.W.Frag) : List V → Hp → VK → Prop := fun xs H Q => ∃ p ys, xs = [.ref p] ∧ (SqL K H p ys ∨ SqT K H p ys) ∧ Q (.int (List.length ys : Nat)) H
theorem lenS (e : X.K = K) : CallR X (.builtin "len") (rLenL K) := by subst e; exact call_len_seq
def rListOf (K : PySem.W.Frag) : List V → Hp → VK → Prop := fun xs H Q => ∃ p ys, xs = [.ref p] ∧ (SqL K H p ys ∨ SqT K H p ys) ∧ ∀ l, H l = none → Q (.ref l) (upd H l (.lst ys))
theorem listOf (e : X.K = K) : CallR X (.type "list") (rListOf K) := by subst e; exact call_list_of
theorem crSum (e : X.K = K) (hc : X.calm = true) : CallR X (.builtin "sum") (rSum K) := by subst e; exact cr_sum hc
theorem crMax (e : X.K = K) (hc : X.calm = true) : CallR X (.builtin "max") (rMax K) := by subst e; exact cr_max hc
theorem crMin (e : X.K = K) (hc : X.calm = true) : CallR X (.builtin "min") (rMin K) := by subst e; exact cr_min hc
theorem crAll (e : X.K = K) (hc : X.calm = true) : CallR X (.builtin "all") (rAll K) := by subst e; exact cr_all hc
theorem crAny (e : X.K = K) (hc : X.calm = true) : CallR X (.builtin "any") (rAny K) := by subst e; exact cr_any hc
theorem crSortedS (e : X.K = K) : CallR X (.builtin "sorted") (rSortedS K) := by subst e; exact cr_sortedS
theorem crSortedI (e : X.K = K) : CallR X (.builtin "sorted") (rSortedI K) := by subst e; exact cr_sortedI
theorem crSortedT (e : X.K = K) : CallR X (.builtin "sorted") (rSortedT K) := by subst e; exact cr_sortedT
def rDictP (K : PySem.W.Frag) : List V → Hp → VK → Prop := fun xs H Q => ∃ (a : Addr) (ps : List Addr) (kvs : List (Key × V)), xs = [.ref a] ∧ SqL K H a (ps.map V.ref) ∧ Paired (fun p kv => SqT K H p [kV kv.1, kv.2]) ps kvs ∧
    ∀ p, H p = none → Q (.ref p) (upd H p (.dK (mergeK [] kvs)))
theorem dictP (e : X.K = K) (hc : X.calm = true) : CallR X (.type "dict") (rDictP K) := by subst e; exact call_dictP hc
theorem isiR (e : X.K = K) : CallR X (.builtin "isinstance") (rIsi K) := by subst e; exact call_isi
variable {tg l o e1 : Expr} {es : List Expr} {tl to te : TE} {ta : TA} {p pos apos cpos tpos : Pos} {elts : List Expr} {kk : Nat} {name : Str} {T id : String} {r : V → List V → Hp → VK → Prop}
theorem piL (e : X.K = K) (hl : PE X l tl) : PI X tg l (iList K tl) := by subst e; exact pi_list hl
theorem piT (e : X.K = K) (hl : PE X l tl) : PI X tg l (iTup K tl) := by subst e; exact pi_tup hl
theorem piEnum (e : X.K = K) (hg : Gl X "enumerate") (hm : X.mg "enumerate" = none) (ha : PA X [l] ta) (hs : starEach [l] X.env = [(false, eval l X.env)] := by rfl) : PI X (.Tuple elts kk tpos) (.Call (.Name "enumerate" p) [l] [] pos) (iEnum K ta) := by
  subst e
  exact pi_enum hg hm ha hs
theorem piZip (e : X.K = K) (hg : Gl X "zip") (hm : X.mg "zip" = none) (ha : PA X [l, e1] ta) (hs : starEach [l, e1] X.env = (false, eval l X.env) :: starEach [e1] X.env := by rfl) (hpl : (backTo pos (starEach [e1] X.env)).any (·.1) = false := by rfl) :
    PI X (.Tuple elts kk tpos) (.Call (.Name "zip" p) [l, e1] [] pos) (iZip K ta) := by
  subst e
  exact pi_zip hg hm ha hs hpl
theorem piRev (e : X.K = K) (hg : Gl X "reversed") (hm : X.mg "reversed" = none) (ha : PA X [l] ta) (hs : starEach [l] X.env = [(false, eval l X.env)] := by rfl) : PI X tg (.Call (.Name "reversed" p) [l] [] pos) (iRev K ta) := by
  subst e
  exact pi_reversed hg hm ha hs
theorem peBm0 (e : X.K = K) (pa : PlainAttrs T) (slot : Slot T name id) (hty : typeOf (.builtin id) = pure (.type "method_descriptor")) (hm : MtR X id r) (ho : PE X o to)
    (hbase : attributeBase o name X.env (eval o X.env) = eval o X.env := by rfl) (hline : (apos.endLine == cpos.line) = true := by rfl) : PE X (.Call (.Attribute o name apos) [] [] cpos) (tBM0 K T r to) := by
  subst e
  exact pe_bm0 pa slot hty hm ho hbase hline
theorem peBm (e : X.K = K) (pa : PlainAttrs T) (slot : Slot T name id) (hty : typeOf (.builtin id) = pure (.type "method_descriptor")) (hm : MtR X id r) (ho : PE X o to) (ha : PA X (e1 :: es) ta)
    (hbase : attributeBase o name X.env (eval o X.env) = eval o X.env := by rfl)
    (hfew : ((backTo cpos (starEach (e1 :: es) X.env)).all (fun x => !x.1) && (backToKw cpos (keywordEach [] X.env)).all (fun x => x.1.isSome)
      && decide ((e1 :: es).length + ([] : List Keyword).length + (if ([] : List Keyword).isEmpty then 0 else 1) < 30)) = true := by rfl)
    (hline : (apos.endLine == cpos.line) = true := by rfl) (hs : starEach (e1 :: es) X.env = (false, eval e1 X.env) :: starEach es X.env := by rfl) (hplain : (backTo cpos (starEach es X.env)).any (·.1) = false := by rfl) :
    PE X (.Call (.Attribute o name apos) (e1 :: es) [] cpos) (tBM K T r to ta) := by
  subst e
  exact pe_bm pa slot hty hm ho ha hbase hfew hline hs hplain
end
end Sk
/-! repr of lists and tuples, no repr under way; nested data -/
namespace Sk
open PySem PySem.Spec PyProof.Rows L2
mutual
theorem Dp.noDict {K : PySem.W.Frag} {H : Hp} : ∀ {d : PyData} {v : V}, Dp K H v d → d.hasDict = false
  | .none, _, _ => rfl
  | .bool _, _, _ => rfl
  | .int _, _, _ => rfl
  | .str _, _, _ => rfl
  | .list ds, _, .lst _ h => by
    have := DpAll.noDict h
    simpa [PyData.hasDict] using this
  | .tuple ds, _, .tup _ h => by
    have := DpAll.noDict h
    simpa [PyData.hasDict] using this
  | .dict _, _, h => by cases h
theorem DpAll.noDict {K : PySem.W.Frag} {H : Hp} : ∀ {ds : List PyData} {vs : List V}, DpAll K H vs ds → PyData.hasDictAll ds = false
  | [], _, _ => by simp [PyData.hasDictAll]
  | d :: ds, _, .cons a t => by
    have h1 := Dp.noDict a
    have h2 := DpAll.noDict t
    simp [PyData.hasDictAll, h1, h2]
end
def rRepr (K : PySem.W.Frag) : List V → Hp → VK → Prop := fun xs H Q => ∃ (a : Addr) (d : PyData), xs = [.ref a] ∧ Dp K H (.ref a) d ∧ d.showable = true ∧ d.shown.length ≤ sizeLine ∧ d.depth ≤ 60 ∧ Q (.str d.shown) H
theorem crRepr {X : Cx} {K : PySem.W.Frag} (e : X.K = K) (hg : X.A.guards = some []) (hu : X.A.units + 64 < cLine) : CallR X (.builtin "repr") (rRepr K) := by
  subst e
  intro pins s σ H xs us Q I r h
  obtain ⟨a, d, rfl, hd, hs, hz, hdp, q⟩ := h
  obtain ⟨u, rfl, ru⟩ := vals1 r
  obtain ⟨as, rr⟩ := Dp.reads I d _ u hd ru
  obtain rfl : u = Value.ref a := ru
  exact PySem.repr_of_reads' rr hs (fun z => by rw [Dp.noDict hd] at z; cases z) hg (by omega) (fun b o e => e) (fun h' u tk k => ⟨.str d.shown, H, I.kept k, ⟨u, rfl⟩, q⟩) hz
/-! ### data -/
def tyName : PyData → String
  | .none => "NoneType" | .bool _ => "bool" | .int _ => "int" | .str _ => "str" | .list _ => "list" | .tuple _ => "tuple" | .dict _ => "dict"
theorem Dp.tyx {K : PySem.W.Frag} {H : Hp} {x : V} {d : PyData} (h : Dp K H x d) : TyX K H x (.type (tyName d)) := by
  cases h with
  | non => exact .base .non
  | bl b => exact .base (.bl b)
  | int i => exact .base (.int i)
  | str x => exact .base (.str x)
  | lst h _ =>
    rcases h with (h | ⟨o, h⟩) | ⟨o, its, n, h1, h2, _⟩
    · exact .base (.lst h)
    · exact .base (.frz h)
    · exact .kList h1 h2
  | tup h _ =>
    rcases h with (h | ⟨o, h⟩) | ⟨o, its, n, h1, h2, _⟩
    · exact .base (.tup h)
    · exact .fTuple h
    · exact .kTuple h1 h2
theorem rd_isi {K : PySem.W.Frag} {H : Hp} {x : V} {d : PyData} (T : String) (h : Dp K H x d) {b : Bool} (hb : kitB (tyName d) T = some b) {Q : VK} (q : Q (.bl b) H) : rIsi K [x, .ty T] H Q := ⟨x, .ty T, _, .type T, b, rfl, .ty T, Dp.tyx h, kit_ty hb, q⟩
theorem Gr.ext_tup {T : List (Addr × Str)} {K : PySem.W.Frag} {H H' : Hp} {a : Addr} {xs : List V} (g : Gr T H H') (h : SqT K H a xs) : SqT K H' a xs := by
  rcases h with (z | ⟨o, z⟩) | z
  · exact .inl (.inl (g.ext _ _ z (fun ps e => by cases e)))
  · exact .inl (.inr ⟨o, g.ext _ _ z (fun ps e => by cases e)⟩)
  · exact .inr z
mutual
theorem Dp.gr {T : List (Addr × Str)} {K : PySem.W.Frag} {H H' : Hp} (g : Gr T H H') : ∀ {d : PyData} {v : V}, Dp K H v d → Dp K H' v d
  | .none, _, .non => .non
  | .bool _, _, .bl b => .bl b
  | .int _, _, .int i => .int i
  | .str _, _, .str x => .str x
  | .list ds, _, .lst h a => .lst (g.ext_seq h) (DpAll.gr g a)
  | .tuple ds, _, .tup h a => .tup (g.ext_tup h) (DpAll.gr g a)
  | .dict _, _, h => by cases h
theorem DpAll.gr {T : List (Addr × Str)} {K : PySem.W.Frag} {H H' : Hp} (g : Gr T H H') : ∀ {ds : List PyData} {vs : List V}, DpAll K H vs ds → DpAll K H' vs ds
  | [], _, .nil => .nil
  | d :: ds, _, .cons a t => .cons (Dp.gr g a) (DpAll.gr g t)
end
theorem DpAll.len {K : PySem.W.Frag} {H : Hp} : ∀ {ds : List PyData} {vs : List V}, DpAll K H vs ds → vs.length = ds.length
  | [], _, .nil => rfl
  | d :: ds, _, .cons a t => by rw [List.length_cons, List.length_cons, DpAll.len t]
theorem DpAll.at {K : PySem.W.Frag} {H : Hp} : ∀ {ds : List PyData} {vs : List V} {i : Nat} {d : PyData}, DpAll K H vs ds → ds[i]? = some d → ∃ v, vs[i]? = some v ∧ Dp K H v d
  | [], _, _, _, .nil, e => by simp at e
  | _ :: _, _, 0, _, .cons a _, e => by
    cases e
    exact ⟨_, rfl, a⟩
  | _ :: _, _, i + 1, _, .cons _ t, e => DpAll.at (i := i) t (by simpa using e)
theorem depth_mem {ds : List PyData} {d : PyData} (h : d ∈ ds) : d.depth ≤ PyData.depthAll ds := by
  induction ds with
  | nil => cases h
  | cons x xs ih =>
    rw [PyData.depthAll]
    rcases List.mem_cons.mp h with e | h
    · subst e
      omega
    · have := ih h
      omega
mutual
/-- how many values there are in it -/
def cnt : PyData → Nat
  | .list ds => cntAll ds + 1
  | .tuple ds => cntAll ds + 1
  | .none => 1 | .bool _ => 1 | .int _ => 1 | .str _ => 1 | .dict _ => 1
def cntAll : List PyData → Nat
  | [] => 0
  | d :: ds => cnt d + cntAll ds
end
theorem cnt_pos : ∀ d : PyData, 1 ≤ cnt d
  | .list ds => by rw [cnt]; omega
  | .tuple ds => by rw [cnt]; omega
  | .none => by rw [cnt]; omega
  | .bool _ => by rw [cnt]; omega
  | .int _ => by rw [cnt]; omega
  | .str _ => by rw [cnt]; omega
  | .dict _ => by rw [cnt]; omega
theorem cnt_len : ∀ ds : List PyData, ds.length ≤ cntAll ds
  | [] => by rw [cntAll]; exact Nat.le_refl _
  | d :: ds => by
    rw [cntAll, List.length_cons]
    have := cnt_len ds
    have := cnt_pos d
    omega
theorem cnt_mem {ds : List PyData} {d : PyData} (h : d ∈ ds) : cnt d ≤ cntAll ds := by
  induction ds with
  | nil => cases h
  | cons x xs ih =>
    rw [cntAll]
    rcases List.mem_cons.mp h with e | h
    · subst e
      omega
    · have := ih h
      omega
theorem cnt_le {ds : List PyData} {m : Nat} (h : ∀ d ∈ ds, cnt d ≤ m) : cntAll ds ≤ ds.length * m := by
  induction ds with
  | nil => rw [cntAll]; omega
  | cons x xs ih =>
    rw [cntAll, List.length_cons, Nat.add_mul]
    have h1 := h x (List.mem_cons_self ..)
    have h2 := ih fun d hd => h d (List.mem_cons_of_mem _ hd)
    omega
theorem depth_le {ds : List PyData} {m : Nat} (h : ∀ d ∈ ds, d.depth ≤ m) : PyData.depthAll ds ≤ m := by
  induction ds with
  | nil => rw [PyData.depthAll]; omega
  | cons x xs ih =>
    rw [PyData.depthAll]
    have h1 := h x (List.mem_cons_self ..)
    have h2 := ih fun d hd => h d (List.mem_cons_of_mem _ hd)
    omega
/-! ### how long a repr is -/
theorem textFrom_le : ∀ (ts : List Str) (k : Nat) (acc : Str), (textFrom k acc ts).length ≤ acc.length + piled ts
  | [], _, _ => by
    show _ ≤ _ + 0
    exact Nat.le_refl _
  | t :: ts, k, acc => by
    have h := textFrom_le ts (k + 1) (acc ++ (if k > 0 then ", " else "" : String) ++ t)
    have e : (acc ++ (if k > 0 then ", " else "" : String) ++ t).length = acc.length + (if k > 0 then 2 else 0) + t.length := by
      rw [strLen_append, strLen_append]
      split <;> rfl
    rw [e] at h
    rw [piled_cons]
    show (textFrom (k + 1) (acc ++ (if k > 0 then ", " else "" : String) ++ t) ts).length ≤ _
    have : (if k > 0 then 2 else 0 : Nat) ≤ 2 := by split <;> omega
    omega
theorem piled_shown {ds : List PyData} {m : Nat} (h : ∀ d ∈ ds, d.shown.length ≤ m) : piled (PyData.shownAll ds) ≤ ds.length * (m + 2) := by
  induction ds with
  | nil =>
    rw [PyData.shownAll]
    exact Nat.zero_le _
  | cons d ds ih =>
    rw [PyData.shownAll, piled_cons, List.length_cons, Nat.add_mul]
    have h1 := h d (List.mem_cons_self ..)
    have h2 := ih fun x hx => h x (List.mem_cons_of_mem _ hx)
    omega
theorem shown_list {ds : List PyData} {m : Nat} (h : ∀ d ∈ ds, d.shown.length ≤ m) : (PyData.list ds).shown.length ≤ ds.length * (m + 2) + 2 := by
  have h1 := piled_shown h
  have h2 := textFrom_le (PyData.shownAll ds) 0 "["
  rw [PyData.shown]
  unfold listText
  rw [strLen_append]
  have e1 : ("[" : Str).length = 1 := rfl
  have e2 : ("]" : Str).length = 1 := rfl
  omega
theorem shown_tuple {ds : List PyData} {m : Nat} (h : ∀ d ∈ ds, d.shown.length ≤ m) : (PyData.tuple ds).shown.length ≤ ds.length * (m + 2) + 3 := by
  have h1 := piled_shown h
  rw [PyData.shown]
  unfold tupleText
  rw [strLen_append, strLen_append]
  have e1 : ("(" : Str).length = 1 := rfl
  have e3 : (Str.join ", " (PyData.shownAll ds)).length ≤ piled (PyData.shownAll ds) := by
    by_cases e : PyData.shownAll ds = []
    · rw [e]
      decide
    · have := join_length_add _ e
      omega
  have e2 : ((if (PyData.shownAll ds).length == 1 then ",)" else ")" : String) : Str).length ≤ 2 := by
    split <;> decide
  omega
/-! ### entries as data -/
theorem dpAll_strs {K : PySem.W.Frag} {H : Hp} : ∀ ns : List Str, DpAll K H (ns.map V.str) (ns.map PyData.str)
  | [] => .nil
  | n :: ns => .cons (.str n) (dpAll_strs ns)
theorem dp_strs {K : PySem.W.Frag} {H : Hp} {r : Addr} {ns : List Str} (h : H r = some (.lst (ns.map V.str))) : Dp K H (.ref r) (.list (ns.map PyData.str)) := .lst (SqL.of h) (dpAll_strs ns)
def entD (e : Ent) : PyData := .tuple [.str e.name, .int e.w, .list (e.parts.map PyData.str)]
def catD (es : List Ent) : PyData := .list (es.map entD)
theorem dp_ent {K : PySem.W.Frag} {H : Hp} {v : V} {e : Ent} (h : EntAt H v e) : Dp K H v (entD e) := by
  obtain ⟨t, l, rfl, h1, h2⟩ := h
  exact .tup (SqT.of h1) (.cons (.str _) (.cons (.int _) (.cons (dp_strs h2) .nil)))
theorem dpAll_cat {K : PySem.W.Frag} {H : Hp} : ∀ {vs : List V} {es : List Ent}, CatAt H vs es → DpAll K H vs (es.map entD)
  | _, _, .nil => .nil
  | _, _, .cons h t => .cons (dp_ent h) (dpAll_cat t)
theorem dp_cat {K : PySem.W.Frag} {H : Hp} {r : Addr} {vs : List V} {es : List Ent} (h : SqL K H r vs) (c : CatAt H vs es) : Dp K H (.ref r) (catD es) := .lst h (dpAll_cat c)
/-- texts and numbers that are short -/
def ShwS (x : Str) : Prop := x.length ≤ 9 ∧ ∀ c ∈ x.cps.toList, c < 16 ^ 8
structure ShwE (e : Ent) : Prop where
  name : ShwS e.name
  w : e.w.natAbs < 10 ^ 100
  few : e.parts.length ≤ 20
  parts : ∀ p ∈ e.parts, ShwS p
theorem shown_str {x : Str} (h : ShwS x) : (PyData.str x).shown.length ≤ 92 := by
  have := StrLaws.reprText_len x h.2
  rw [PyData.shown]
  have := h.1
  omega
theorem shown_int {i : Int} (h : i.natAbs < 10 ^ 100) : (PyData.int i).shown.length ≤ 101 := by
  have e := int_text_length_le10 (k := 100) (by decide) h
  rw [PyData.shown]
  show (Str.ofString (toString i)).length ≤ _
  rw [PySem.ofString_length]
  exact e
theorem show_int {i : Int} (h : i.natAbs < 10 ^ 100) : (PyData.int i).showable = true := by
  rw [PyData.showable, decide_eq_true_eq]
  by_cases h0 : i.natAbs = 0
  · rw [h0]
    decide
  · refine (Nat.log2_lt h0).mpr (Nat.lt_of_lt_of_le h ?_)
    decide +kernel
theorem showAll {ds : List PyData} (h : ∀ d ∈ ds, d.showable = true) : PyData.showableAll ds = true := by
  induction ds with
  | nil => rfl
  | cons d ds ih => rw [PyData.showableAll, h d (List.mem_cons_self ..), ih fun x hx => h x (List.mem_cons_of_mem _ hx)]; rfl
theorem show_strs {ns : List Str} (h : ∀ p ∈ ns, ShwS p) : (PyData.list (ns.map PyData.str)).showable = true ∧ (PyData.list (ns.map PyData.str)).shown.length ≤ ns.length * 94 + 2 := by
  refine ⟨?_, ?_⟩
  · rw [PyData.showable]
    exact showAll fun d hd => by
      obtain ⟨p, hp, rfl⟩ := List.mem_map.mp hd
      rfl
  · have := shown_list (ds := ns.map PyData.str) (m := 92) fun d hd => by
      obtain ⟨p, hp, rfl⟩ := List.mem_map.mp hd
      exact shown_str (h p hp)
    rwa [List.length_map] at this
theorem show_ent {e : Ent} (h : ShwE e) : (entD e).showable = true ∧ (entD e).shown.length ≤ 6000 := by
  obtain ⟨h1, h2⟩ := show_strs h.parts
  have h3 := h.few
  refine ⟨?_, ?_⟩
  · unfold entD
    rw [PyData.showable]
    refine showAll fun d hd => ?_
    rcases List.mem_cons.mp hd with rfl | hd
    · rfl
    rcases List.mem_cons.mp hd with rfl | hd
    · exact show_int h.w
    rw [List.mem_singleton.mp hd]
    exact h1
  · unfold entD
    refine Nat.le_trans (shown_tuple (m := 1890) fun d hd => ?_) (by show 3 * (1890 + 2) + 3 ≤ 6000; decide)
    rcases List.mem_cons.mp hd with rfl | hd
    · exact Nat.le_trans (shown_str h.name) (by decide)
    rcases List.mem_cons.mp hd with rfl | hd
    · exact Nat.le_trans (shown_int h.w) (by decide)
    rw [List.mem_singleton.mp hd]
    omega
theorem show_cat {es : List Ent} (h : ∀ e ∈ es, ShwE e) (hz : es.length ≤ 1000) : (catD es).showable = true ∧ (catD es).shown.length ≤ sizeLine := by
  refine ⟨?_, ?_⟩
  · unfold catD
    rw [PyData.showable]
    exact showAll fun d hd => by
      obtain ⟨e, he, rfl⟩ := List.mem_map.mp hd
      exact (show_ent (h e he)).1
  · unfold catD
    have := shown_list (ds := es.map entD) (m := 6000) fun d hd => by
      obtain ⟨e, he, rfl⟩ := List.mem_map.mp hd
      exact (show_ent (h e he)).2
    rw [List.length_map] at this
    rw [sizeLine_eq]
    have h2 : es.length * 6002 ≤ 1000 * 6002 := Nat.mul_le_mul_right _ hz
    omega
theorem depth_cat (es : List Ent) : (catD es).depth ≤ 3 := by
  unfold catD
  rw [PyData.depth]
  have : PyData.depthAll (es.map entD) ≤ 2 := depth_le fun d hd => by
    obtain ⟨e, he, rfl⟩ := List.mem_map.mp hd
    unfold entD
    rw [PyData.depth]
    have : PyData.depthAll [.str e.name, .int e.w, .list (e.parts.map PyData.str)] ≤ 1 := depth_le fun d hd => by
      rcases List.mem_cons.mp hd with rfl | hd
      · rw [PyData.depth]; omega
      rcases List.mem_cons.mp hd with rfl | hd
      · rw [PyData.depth]; omega
      rw [List.mem_singleton.mp hd, PyData.depth]
      have : PyData.depthAll (e.parts.map PyData.str) ≤ 0 := depth_le fun d hd => by
        obtain ⟨p, hp, rfl⟩ := List.mem_map.mp hd
        rw [PyData.depth]
        exact Nat.le_refl _
      omega
    omega
  omega
theorem depth_strs (ns : List Str) : (PyData.list (ns.map PyData.str)).depth ≤ 1 := by
  rw [PyData.depth]
  have : PyData.depthAll (ns.map PyData.str) ≤ 0 := depth_le fun d hd => by
    obtain ⟨p, hp, rfl⟩ := List.mem_map.mp hd
    rw [PyData.depth]
    exact Nat.le_refl _
  omega
theorem cnt_strs (ns : List Str) : cnt (PyData.list (ns.map PyData.str)) ≤ ns.length + 1 := by
  rw [cnt]
  have := cnt_le (ds := ns.map PyData.str) (m := 1) fun d hd => by
    obtain ⟨p, hp, rfl⟩ := List.mem_map.mp hd
    rw [cnt]
    exact Nat.le_refl _
  rw [List.length_map] at this
  omega
end Sk
/-! repr of a list of lists and of dicts of numbers -/
namespace Sk
open PySem PySem.Spec PyProof.Rows L2
def numD (n : Num) : PyData := .dict (n.map fun q => (.str q.1, .int q.2))
/-- nested data, or a dict of numbers -/
def DpM (K : PySem.W.Frag) (H : Hp) (v : V) (d : PyData) : Prop := Dp K H v d ∨ ∃ b n, v = .ref b ∧ H b = some (.dK (dS n)) ∧ d = numD n
section
variable {prog : Program} {w : World}
theorem reads_pairs {h : Heap} : ∀ (n : Num) (es : List DictEntry) (kvs : List (Key × Value)), Pairs (mixKind prog w) es kvs → KV (dS n) kvs → ReadsAll h (es.map (·.key)) (n.map fun q => PyData.str q.1) [] ∧ ReadsAll h (es.map (·.val)) (n.map fun q => PyData.int q.2) []
  | [], es, kvs, p, r => by
    cases r
    cases p
    exact ⟨.nil, .nil⟩
  | q :: n, es, kvs, p, r => by
    cases r with
    | cons r1 r2 =>
      cases p with
      | cons hk hv p =>
        obtain ⟨h1, h2⟩ := reads_pairs n _ _ p r2
        obtain ⟨e1, e2⟩ := r1
        rcases keyIs_shape hk with ⟨i, t, a1, a2⟩ | ⟨x, t, a1, a2⟩
        · rw [← e1] at a1
          cases a1
        · rw [← e1] at a1
          cases a1
          obtain ⟨t2, a3⟩ := e2
          refine ⟨?_, ?_⟩
          · rw [List.map_cons, List.map_cons, a2]
            exact ReadsAll.cons (as := []) (.str _ _) h1
          · rw [List.map_cons, List.map_cons, hv, a3]
            exact ReadsAll.cons (as := []) (.int _ _) h2
end
section
variable {X : Cx} {pins : List (Addr × Obj)} {σ : L2.St} {H : Hp} {s : Shared}
theorem DpM.reads (I : Inv X pins σ H s) {v : V} {u : Value} {d : PyData} (h : DpM X.K H v d) (r : RelV v u) : ∃ as, Reads s.heap u d as ∧ (d.hasDict = true → sysModules ∉ as) := by
  rcases h with h | ⟨b, n, rfl, hb, rfl⟩
  · obtain ⟨as, h1⟩ := Dp.reads I d v u h r
    exact ⟨as, h1, fun z => by rw [Dp.noDict h] at z; cases z⟩
  · obtain rfl : u = Value.ref b := r
    obtain ⟨_, hsys, vs, rel, dof⟩ := dk_of I.hok hb
    obtain ⟨o, es, ep, ho, ex, hd, _, hp, _⟩ := dof
    obtain ⟨h1, h2⟩ := reads_pairs (h := s.heap) n _ _ hp rel
    have k1 : ReadsAll s.heap (es.toList.map (·.key)) ((n.map fun q : Str × Int => (PyData.str q.1, PyData.int q.2)).map (·.1)) [] := by
      rw [List.map_map]
      exact h1
    have k2 : ReadsAll s.heap (es.toList.map (·.val)) ((n.map fun q : Str × Int => (PyData.str q.1, PyData.int q.2)).map (·.2)) [] := by
      rw [List.map_map]
      exact h2
    refine ⟨_, Reads.dict ho ex.1 hd k1 k2, fun _ => ?_⟩
    · intro hm
      have e : sysModules = b := List.mem_singleton.mp (by simpa using hm)
      rw [e] at hsys
      simp at hsys
end
/-- data of a list, item by item -/
def rReprM (K : PySem.W.Frag) : List V → Hp → VK → Prop := fun xs H Q => ∃ (a : Addr) (us : List V) (ds : List PyData), xs = [.ref a] ∧ SqL K H a us ∧ Paired (DpM K H) us ds ∧ us ≠ [] ∧ (∀ d ∈ ds, d.showable = true ∧ d.shown.length ≤ sizeLine ∧ d.depth ≤ 50) ∧ (PyData.list ds).shown.length ≤ sizeLine ∧ Q (.str (PyData.list ds).shown) H
theorem crReprM {X : Cx} {K : PySem.W.Frag} (e : X.K = K) (hg : X.A.guards = some []) (hu : X.A.units + 64 < cLine) : CallR X (.builtin "repr") (rReprM K) := by
  subst e
  intro pins s σ H xs us Q I r h
  obtain ⟨a, vs, ds, rfl, hs, hp, hne, hsh, hz, q⟩ := h
  obtain ⟨u, rfl, ru⟩ := vals1 r
  obtain rfl : u = Value.ref a := ru
  obtain ⟨its, rv, ⟨o, n, ho, hc, hdn, hd⟩, hlen⟩ := I.list hs
  -- the items
  have items : ∀ {vs : List V} {ds : List PyData} {its : List Value}, Paired (DpM X.K H) vs ds → Vals vs its → (∀ d ∈ ds, d.showable = true ∧ d.shown.length ≤ sizeLine ∧ d.depth ≤ 50) →
      (∃ as, ReadsAll s.heap its ds as) ∧ ∃ bs, ReadAtMost s.heap (PyData.depthAll ds) bs ∧ ReprAllK X.prog X.w bs s.heap (PyData.depthAll ds) its (PyData.shownAll ds) := by
    intro vs ds its hp
    induction hp generalizing its with
    | nil =>
      intro rv _
      cases rv
      exact ⟨⟨_, .nil⟩, [], (fun _ h => nomatch h), by rw [PyData.shownAll]; exact .nil⟩
    | cons hd _ ih =>
      intro rv hsh
      cases rv with
      | cons r1 r2 =>
        obtain ⟨⟨as2, k2⟩, b2, hb2, k3⟩ := ih r2 fun d hd => hsh d (List.mem_cons_of_mem _ hd)
        obtain ⟨as, k1, hsm⟩ := DpM.reads I hd r1
        obtain ⟨s1, s2, s3⟩ := hsh _ (List.mem_cons_self ..)
        obtain ⟨b1, hb1, k4⟩ := ReprK.of_reads (prog := X.prog) (w := X.w) k1 s1 hsm s2
        refine ⟨⟨_, .cons k1 k2⟩, b1 ++ b2, ?_, ?_⟩
        · rw [PyData.depthAll]
          exact (hb1.mono (Nat.le_max_left _ _)).append (hb2.mono (Nat.le_max_right _ _))
        · rw [PyData.depthAll, PyData.shownAll]
          exact .cons ((k4.more fun b hb => List.mem_append_left _ hb).level_le (Nat.le_max_left _ _)) (k3.more_le (fun b hb => List.mem_append_right _ hb) (Nat.le_max_right _ _))
  obtain ⟨⟨as, ra⟩, bs, hbs, hk⟩ := items hp rv hsh
  have whole : Reads s.heap (.ref a) (.list ds) (a :: as) := .list ho hc hd ra
  have hna : a ∉ bs := not_mem_of_deeper whole (by rw [PyData.depth]; omega) hbs
  have hdp : PyData.depthAll ds ≤ 50 := depth_le fun d hd => (hsh d hd).2.2
  cases its with
  | nil =>
    cases rv
    exact absurd rfl hne
  | cons x l =>
    have hz' : (listText (PyData.shownAll ds)).length ≤ sizeLine := by
      rw [PyData.shown] at hz
      exact hz
    refine call_repr_slot (by omega) ⟨o, ho, hc⟩ F.slot_list_repr.toG (call_list_reprK (A := X.A.in1) ho hc hd hna (by simpa using hk.length_eq) (fun i y e => hk.item i y (by simpa using e)) hg (fun b _ => Clear.nil b) (by show X.A.units + 1 + _ < cLine; omega) (fun _ _ e => e) (fun h' u tk k => ⟨_, _, rfl, ?_⟩) hz')
    have e1 : listText (PyData.shownAll ds) = (PyData.list ds).shown := by rw [PyData.shown]
    rw [e1]
    exact ⟨.str _, H, I.kept k, ⟨u, rfl⟩, q⟩
/-! ### how long -/
theorem piled_kv {m : Nat} : ∀ {n : Num}, (∀ q ∈ n, ShwS q.1 ∧ q.2.natAbs < 10 ^ 100) → piled (PyData.shownKv (n.map fun q => (PyData.str q.1, PyData.int q.2))) ≤ n.length * 230
  | [], _ => by
    rw [List.map_nil, PyData.shownKv]
    exact Nat.zero_le _
  | q :: n, h => by
    rw [List.map_cons, PyData.shownKv, piled_cons, List.length_cons, Nat.add_mul]
    have h1 := shown_str (h q (List.mem_cons_self ..)).1
    have h2 := shown_int (h q (List.mem_cons_self ..)).2
    have h3 := piled_kv (m := m) fun z hz => h z (List.mem_cons_of_mem _ hz)
    have e : ((PyData.str q.1).shown ++ ": " ++ (PyData.int q.2).shown).length = (PyData.str q.1).shown.length + 2 + (PyData.int q.2).shown.length := by
      rw [strLen_append, strLen_append]
      rfl
    rw [e]
    omega
theorem show_num {n : Num} (h : ∀ q ∈ n, ShwS q.1 ∧ q.2.natAbs < 10 ^ 100) : (numD n).showable = true ∧ (numD n).shown.length ≤ n.length * 230 + 4 ∧ (numD n).depth ≤ 1 := by
  refine ⟨?_, ?_, ?_⟩
  · unfold numD
    rw [PyData.showable]
    induction n with
    | nil => rfl
    | cons q n ih =>
      rw [List.map_cons, PyData.showableKv, ih fun z hz => h z (List.mem_cons_of_mem _ hz), show_int (h q (List.mem_cons_self ..)).2]
      rfl
  · unfold numD
    have h1 := piled_kv (m := 0) h
    rw [PyData.shown]
    unfold dictText
    rw [strLen_append, strLen_append]
    have e1 : ("{" : Str).length = 1 := rfl
    have e2 : ("}" : Str).length = 1 := rfl
    have e3 : (Str.join ", " (PyData.shownKv (n.map fun q => (PyData.str q.1, PyData.int q.2)))).length ≤ piled (PyData.shownKv (n.map fun q => (PyData.str q.1, PyData.int q.2))) := by
      by_cases e : PyData.shownKv (n.map fun q => (PyData.str q.1, PyData.int q.2)) = []
      · rw [e]
        decide
      · have := join_length_add _ e
        omega
    omega
  · unfold numD
    rw [PyData.depth]
    have : PyData.depthKv (n.map fun q => (PyData.str q.1, PyData.int q.2)) = 0 := by
      clear h
      induction n with
      | nil => rfl
      | cons q n ih =>
        rw [List.map_cons, PyData.depthKv, ih, PyData.depth, PyData.depth]
        rfl
    omega
theorem show_cat_len {es : List Ent} (h : ∀ e ∈ es, ShwE e) : (catD es).shown.length ≤ es.length * 6002 + 2 := by
  unfold catD
  have := shown_list (ds := es.map entD) (m := 6000) fun d hd => by
    obtain ⟨e, he, rfl⟩ := List.mem_map.mp hd
    exact (show_ent (h e he)).2
  rwa [List.length_map] at this
end Sk
/-! l.count(x), a list of texts -/
namespace Sk
open PySem PySem.Spec PyProof.Rows L2
def eqTx (k : Str) (v : Value) : Bool := match v with
  | .str n _ => decide (n = k)
  | _ => false
def rCntS (K : PySem.W.Frag) : V → List V → Hp → VK → Prop := fun x xs H Q => ∃ (p : Addr) (ns : List Str) (k : Str), x = .ref p ∧ xs = [.str k] ∧ SqL K H p (ns.map V.str) ∧ Q (.int (amt (ones ns) k)) H
theorem cnt_texts {k : Str} : ∀ {ns : List Str} {us : List Value}, Vals (ns.map V.str) us → ((us.countP (eqTx k) : Nat) : Int) = amt (ones ns) k
  | [], _, .nil => rfl
  | n :: ns, _, .cons ⟨t, e⟩ r => by
    have ih := cnt_texts (k := k) r
    unfold ones at ih ⊢
    rw [List.countP_cons, List.map_cons, amt_cons, ← ih, e]
    show _ = (if n = k then (1 : Int) else 0) + _
    by_cases c : n = k
    · rw [if_pos c, if_pos (show eqTx k (.str n t) = true from decide_eq_true c)]
      omega
    · rw [if_neg c, if_neg (show ¬ eqTx k (.str n t) = true from fun z => c (of_decide_eq_true z))]
      omega
theorem txt_gives {k : Str} {t : Tok} : ∀ {ns : List Str} {us : List Value}, Vals (ns.map V.str) us → ∀ y ∈ us, MeetsSeq.EqGives y (.str k t) (eqTx k y)
  | [], _, .nil, y, hy => by cases hy
  | n :: ns, _, .cons ⟨t', e⟩ r, y, hy => by
    rcases List.mem_cons.mp hy with z | z
    · rw [z, e]
      have h := SeqRoads2.EqGives.str n k t' t
      have e2 : eqTx k (.str n t') = (n.cps.toList == k.cps.toList) := by
        show decide (n = k) = _
        rw [Bool.eq_iff_iff, decide_eq_true_eq, beq_iff_eq]
        exact ⟨fun z => by rw [z], fun z => str_ext z⟩
      rw [e2]
      exact h
    · exact txt_gives r y z
theorem mt_cntS {X : Cx} {K : PySem.W.Frag} (eK : X.K = K) : MtR X "list.count" (rCntS K) := by
  subst eK
  intro pins s σ H x xs v us Q I rx rxs h
  obtain ⟨p, ns, k, rfl, rfl, hs, q⟩ := h
  cases rx
  obtain ⟨u, rfl, ru⟩ := rxs.one
  obtain ⟨t, rfl⟩ := ru
  obtain ⟨its, rv, ⟨⟨cls, dd, data, sl⟩, n, ho, hc, hdn, hd⟩, _⟩ := I.list hs
  simp only at hc hd
  subst hc hd
  have ec := cnt_texts (k := k) rv
  refine call_meets PySem.F.slot_list_count ⟨_, ho, rfl⟩ PySem.F.entry_list_count (PySem.F.args_list_count_2 _ _) (SeqAt.list_countAt p its.toArray n dd sl (.str k t) (eqTx k))
    ⟨ho, fun y hy => (txt_gives rv y (by simpa using hy)).at _ _, .int (amt (ones ns) k), H, I.tok _, ⟨s.toks, ?_⟩, q⟩
  rw [← ec]
/-- l.remove(x), a list of texts -/
def rRemS : V → List V → Hp → VK → Prop := fun x xs H Q => ∃ (l : Addr) (ns : List Str) (k : Str), x = .ref l ∧ xs = [.str k] ∧ H l = some (.lst (ns.map V.str)) ∧ k ∈ ns ∧ Q .non (upd H l (.lst ((ns.erase k).map V.str)))
theorem erase_mapS : ∀ (l : List Str) (j : Nat), (l.map V.str).eraseIdx j = (l.eraseIdx j).map V.str
  | [], j => by simp
  | a :: r, 0 => by simp
  | a :: r, j + 1 => by
    have ih := erase_mapS r j
    simp [ih]
theorem erase_ix {k : Str} : ∀ {ns : List Str}, k ∈ ns → ∃ j, ns[j]? = some k ∧ (∀ m : Nat, m < j → ns[m]? ≠ some k) ∧ ns.eraseIdx j = ns.erase k
  | n :: ns, h => by
    by_cases c : n = k
    · subst c
      exact ⟨0, rfl, fun m hm => by omega, by simp⟩
    · obtain ⟨j, h1, h2, h3⟩ := erase_ix ((List.mem_cons.mp h).resolve_left fun z => c z.symm)
      refine ⟨j + 1, by simpa using h1, fun m hm => ?_, ?_⟩
      · cases m with
        | zero => simpa using c
        | succ m => simpa using h2 m (by omega)
      · rw [List.eraseIdx_cons_succ, h3, List.erase_cons, if_neg]
        simpa using c
theorem vals_at {ns : List Str} {us : List Value} (r : Vals (ns.map V.str) us) {j : Nat} {n : Str} (h : ns[j]? = some n) : ∃ t, us[j]? = some (.str n t) := by
  induction ns generalizing us j with
  | nil => simp at h
  | cons a ns ih =>
    cases r with
    | cons r1 r2 =>
      obtain ⟨t, rfl⟩ := r1
      cases j with
      | zero =>
        simp at h
        subst h
        exact ⟨t, rfl⟩
      | succ j => simpa using ih r2 (by simpa using h)
theorem mt_removeS {X : Cx} : MtM X "list.remove" rRemS := by
  intro pins s σ H x xs v us Q I rx rxs h
  obtain ⟨l, ns, k, rfl, rfl, hH, hm, q⟩ := h
  obtain ⟨j, hj, hno, he⟩ := erase_ix hm
  cases rx
  obtain ⟨u, rfl, ru⟩ := rxs.one
  obtain ⟨t, rfl⟩ := ru
  obtain ⟨z, its, n, r, hl, e⟩ := I.lstM hH
  rw [List.length_map] at hl z
  have hjn : j < ns.length := (List.getElem?_eq_some_iff.mp hj).1
  have hjl : j < its.toArray.size := by rw [List.size_toArray]; omega
  refine call_meets PySem.F.slot_list_remove ⟨_, e, rfl⟩ PySem.F.entry_list_remove (PySem.F.args_list_remove_2 _ _)
    (MeetsSeq.list_remove l its.toArray n (.str k t) (eqTx k) (fun y hy => txt_gives r y (by simpa using hy)) j hjl ?_ ?_ (by rw [List.size_toArray]; omega)) ⟨e, ?_⟩
  · obtain ⟨tj, hjt⟩ := vals_at r hj
    obtain ⟨h1, h2⟩ := List.getElem?_eq_some_iff.mp hjt
    have e1 : its.toArray[j] = .str k tj := by simpa using h2
    rw [e1]
    exact decide_eq_true rfl
  · intro m hm hmj
    have hmn : m < ns.length := by omega
    obtain ⟨tm, hmt⟩ := vals_at r (List.getElem?_eq_getElem hmn)
    obtain ⟨h1, h2⟩ := List.getElem?_eq_some_iff.mp hmt
    have e1 : its.toArray[m] = .str ns[m] tm := by simpa using h2
    rw [e1]
    refine decide_eq_false fun e2 => hno m hmj ?_
    rw [List.getElem?_eq_getElem hmn, e2]
  · have rr := r.eraseIdx j
    rw [erase_mapS, he] at rr
    refine ⟨.non, _, I.lset (its' := its.eraseIdx j) (t' := s.toks) hH e ?_ rr ?_, rfl, q⟩
    · show its.toArray.eraseIdxIfInBounds j = (its.eraseIdx j).toArray
      rw [List.eraseIdxIfInBounds_toArray]
    · have z2 : (ns.erase k).length ≤ ns.length := List.length_erase_le
      rw [List.length_map]
      omega
end Sk
/-! sorted(set(xs)), xs a list of texts -/
namespace Sk
open PySem PySem.Spec PyProof.Rows L2
def keyT (e : Int × Value) : Str := match e.2 with | .str x _ => x | _ => Str.empty
def GoodT (w : World) (e : Int × Value) : Prop := ∃ x tk, e.2 = Value.str x tk ∧ e.1 = hashStr w x
/-- the set of texts at a: S its members, n their number -/
def SetT (w : World) (h : Heap) (a : Addr) (S : Str → Bool) (n : Nat) : Prop :=
  ∃ o es ep t, h.get? a = some o ∧ o.ExactSet ∧ o.data = .set es ep t ∧ (∀ e ∈ es.toList, GoodT w e) ∧ (es.toList.map keyT).Nodup ∧ (∀ k, S k = true ↔ k ∈ es.toList.map keyT) ∧
    es.size < scanBound ∧ t.fits es.size = true ∧ es.size = n ∧ Ris t.place.toList ∧ (w.params.followText "set-order" = true ∨ t.led = true)
section
variable {P : Program} {w : World} {h h' : Heap} {a : Addr} {S : Str → Bool} {n : Nat}
theorem SetT.at (R : SetT w h a S n) (k : ∀ o, h.get? a = some o → h'.get? a = some o) : SetT w h' a S n := let ⟨o, es, ep, t, ho, r⟩ := R; ⟨o, es, ep, t, k o ho, r⟩
theorem SetT.congr {S' : Str → Bool} (R : SetT w h a S n) (e : ∀ k, S' k = S k) : SetT w h a S' n := (funext e : S' = S) ▸ R
theorem goodT_elems {l : List (Int × Value)} (g : ∀ e ∈ l, GoodT w e) : ElemsOf (PySem.strKind P w) l := fun e he => by
  obtain ⟨x, tk, h1, h2⟩ := g e he
  exact ⟨⟨x, by rw [h1]; exact strKind_is P w x tk, h2⟩, by rw [h1] <;> rfl⟩
theorem goodT_is {e : Int × Value} (g : GoodT w e) (k : Str) : (PySem.strKind P w).is k e.2 = true ↔ keyT e = k := by
  obtain ⟨x, tk, h1, _⟩ := g
  unfold keyT
  rw [h1]
  constructor
  · intro z
    exact (PySem.strKind P w).inj _ _ _ (strKind_is P w x tk) z
  · rintro rfl
    exact strKind_is P w x tk
theorem goodT_mem {l : List (Int × Value)} (g : ∀ e ∈ l, GoodT w e) (k : Str) : k ∈ l.map keyT ↔ ∃ e ∈ l, (PySem.strKind P w).is k e.2 = true := by
  rw [List.mem_map]
  exact ⟨fun ⟨e, he, q⟩ => ⟨e, he, (goodT_is (g e he) k).2 q⟩, fun ⟨e, he, q⟩ => ⟨e, he, (goodT_is (g e he) k).1 q⟩⟩
end
section
variable {P : Program} {w : World} {A : Around} {E : Value → Shared → Prop} {s : Shared} {a : Addr} {S : Str → Bool} {n : Nat}
theorem setT_tail {g : Bool → Sem Unit} (hg : ∀ (b : Bool) (s₁ : Shared) (Q' : Unit → Shared → Prop), Q' () s₁ → wpAny (model P w) A (g b) Q' E s₁) {o : Obj} {es : Array (Int × Value)} {ep : Nat} {t : SetTable} (ho : s.heap.get? a = some o) (hex : o.ExactSet) (hd : o.data = .set es ep t)
    {zs : Array (Int × Value)} {t2 : SetTable} {S' : Str → Bool} (g1 : ∀ e ∈ zs.toList, GoodT w e) (nd1 : (zs.toList.map keyT).Nodup) (m1 : ∀ k, S' k = true ↔ k ∈ zs.toList.map keyT)
    (hb1 : zs.size < scanBound) (hf2 : t2.fits zs.size = true) (hr : Ris t2.place.toList) (hl : w.params.followText "set-order" = true ∨ t2.led = true) {dum : Bool} {R : Option Bool → Shared → Prop}
    (hR : ∀ h', Heap.SameBut a s.heap h' → SetT w h' a S' zs.size → R (some true) { s with heap := h' }) :
    wpAny (model P w) A (do
        storeSet a zs t2
        if (!dum && t2.tooFull) = true then do
            g (relayAll t2 zs (SetTable.grown zs.size)).2.2
            storeSet a (relayAll t2 zs (SetTable.grown zs.size)).1 (relayAll t2 zs (SetTable.grown zs.size)).2.1
            pure (some true)
          else pure (some true)) R E s := by
  have ho1 := store_at (es' := zs) (t' := t2) ho hd
  have sb1 := Heap.SameBut.update s.heap a (Obj.putSet zs t2)
  refine wpAny_bind (wpAny_storeSet_of ho hd ?_ (fits_of_scanBound hb1))
  by_cases c : (!dum && t2.tooFull) = true
  · rw [if_pos c]
    have pm := relayAll_perm t2 zs (SetTable.grown zs.size)
    have hf3 := relayAll_fits t2 zs (SetTable.grown zs.size)
    have hr3 := relayAll_ris t2 zs (SetTable.grown zs.size)
    have hl3 := relayAll_led t2 zs (SetTable.grown zs.size)
    generalize relayAll t2 zs (SetTable.grown zs.size) = Z at pm hf3 hr3 hl3 ⊢
    obtain ⟨ys, t3, gave⟩ := Z
    dsimp only at pm hf3 hr3 hl3 ⊢
    have hsz : ys.size = zs.size := by rw [← Array.length_toList, pm.length_eq, Array.length_toList]
    have ho2 := store_at (es' := ys) (t' := t3) ho1 rfl
    refine wpAny_bind (hg _ _ _ (wpAny_bind (wpAny_storeSet_of ho1 rfl (wpAny_pure (hR _ (sb1.trans (Heap.SameBut.update _ a _)) ?_)) (fits_of_scanBound (by rw [hsz]; exact hb1)))))
    exact ⟨_, ys, _, t3, ho2, hex, rfl, fun e he => g1 e (pm.mem_iff.mp he), (pm.map keyT).nodup_iff.mpr nd1, fun k => (m1 k).trans (pm.map keyT).mem_iff.symm, by rw [hsz]; exact hb1, hf3, hsz, hr3, hl.imp id fun z => by rw [hl3]; exact z⟩
  · rw [if_neg c]
    exact wpAny_pure (hR _ sb1 ⟨_, zs, _, t2, ho1, hex, rfl, g1, nd1, m1, hb1, hf2, rfl, hr, hl⟩)
theorem setT_add {k : Str} {tk : Tok} {Q : Bool → Shared → Prop} (R : SetT w s.heap a S n) (room : n + 1 < scanBound)
    (hQ : ∀ h', Heap.SameBut a s.heap h' → SetT w h' a (fun j => S j || decide (j = k)) (if S k = true then n else n + 1) → Q (!S k) { s with heap := h' }) :
    wpAny (model P w) A (setAddHashed a (.str k tk) ((PySem.strKind P w).hash k)) Q E s := by
  obtain ⟨o, es, ep, t, ho, hex, hd, g, nd, hm, hb, hf, hn, hr, hl⟩ := R
  have hkey : (PySem.strKind P w).is k (.str k tk) = true := strKind_is P w k tk
  have hsc : (Value.str k tk).scannable = true := rfl
  have hel : ElemsOf (PySem.strKind P w) es.toList := goodT_elems g
  have hgw : ∀ (b : Bool) {s₁ : Shared} {Q' : Unit → Shared → Prop}, Q' () s₁ → wpAny (model P w) A (match b with | true => rule "set.scan.the-table-gave-way" | false => pure ()) Q' E s₁ := fun b s₁ Q' q => by
    cases b
    · first | exact wpAny_pure q | exact wpAny_rule q
    · first | exact wpAny_pure q | exact wpAny_rule q
  unfold setAddHashed setAddHashedIn
  refine wpAny_holding (wpAny_bind (wpAny_setState_of ho hd hf ?_))
  dsimp only
  rw [byScan_of hsc hb hel]
  simp only [↓reduceIte]
  unfold setAddByScan
  refine wpAny_bind (wpAny_bind (wpAny_rule (wpAny_bind (wpAny_setScan_of hkey ho hd hf hel ?_))))
  cases hfi : List.findIdx? (fun e => (PySem.strKind P w).is k e.2) es.toList with
  | some j =>
    dsimp only
    obtain ⟨hj, pj, _⟩ := List.findIdx?_eq_some_iff_getElem.mp hfi
    have hSk : S k = true := (hm k).2 ((goodT_mem (P := P) (w := w) g k).2 ⟨es.toList[j], List.getElem_mem hj, pj⟩)
    have q := hQ s.heap (Heap.SameBut.refl a s.heap) ⟨o, es, ep, t, ho, hex, hd, g, nd, fun i => by
      rw [Bool.or_eq_true, decide_eq_true_eq, ← hm i]
      exact ⟨fun z => z.elim id (fun e => e ▸ hSk), .inl⟩, hb, hf, by rw [if_pos hSk]; exact hn, hr, hl⟩
    rw [hSk] at q
    exact wpAny_pure (wpAny_pure q)
  | none =>
    dsimp only
    have hnk : k ∉ es.toList.map keyT := fun z => by
      obtain ⟨e, he, q⟩ := (goodT_mem (P := P) (w := w) g k).1 z
      have c := List.findIdx?_eq_none_iff.mp hfi e he
      rw [q] at c
      cases c
    have hSk : S k = false := by
      cases q : S k with
      | false => rfl
      | true => exact absurd ((hm k).1 q) hnk
    have pm := layNew_perm t es ((PySem.strKind P w).hash k) (.str k tk)
    have hf1 := layNew_fits t es ((PySem.strKind P w).hash k) (.str k tk)
    have hr1 := layNew_ris t es ((PySem.strKind P w).hash k) (.str k tk) hr
    have hl1 := layNew_led t es ((PySem.strKind P w).hash k) (.str k tk)
    generalize layNew t es ((PySem.strKind P w).hash k) (.str k tk) = Z at pm hf1 hr1 hl1 ⊢
    obtain ⟨zs, t1, dum, gave⟩ := Z
    dsimp only at pm hf1 hr1 hl1 ⊢
    rw [Array.toList_push] at pm
    have pc : zs.toList.Perm (((PySem.strKind P w).hash k, Value.str k tk) :: es.toList) := pm.trans (List.perm_append_singleton _ _)
    have pk : (zs.toList.map keyT).Perm (k :: es.toList.map keyT) := pc.map keyT
    have g1 : ∀ e ∈ zs.toList, GoodT w e := fun e he => by
      rcases List.mem_cons.mp (pc.mem_iff.mp he) with rfl | z
      · exact ⟨k, tk, rfl, rfl⟩
      · exact g e z
    have nd1 : (zs.toList.map keyT).Nodup := pk.nodup_iff.mpr (List.nodup_cons.mpr ⟨hnk, nd⟩)
    have m1 : ∀ i, (S i || decide (i = k)) = true ↔ i ∈ zs.toList.map keyT := fun i => by
      rw [Bool.or_eq_true, decide_eq_true_eq, hm i, pk.mem_iff, List.mem_cons]
      exact Or.comm
    have hsz : zs.size = n + 1 := by rw [← Array.length_toList, pc.length_eq, List.length_cons, Array.length_toList, hn]
    have hb1 : zs.size < scanBound := by rw [hsz]; exact room
    have hled : w.params.followText "set-order" = true ∨ t1.led = true := hl.imp id fun z => by rw [hl1]; exact z
    have fin : ∀ h', Heap.SameBut a s.heap h' → SetT w h' a (fun j => S j || decide (j = k)) zs.size → Q true { s with heap := h' } := fun h' sb r => by
      have q := hQ h' sb
      rw [hSk] at q
      rw [hsz] at r
      exact q r
    refine wpAny_bind (hgw _ ?_)
    split
    · refine wpAny_bind ?_
      rw [hashByValue_scannable 8 hsc]
      refine wpAny_pure (setT_tail (fun b s₁ Q' q => ?_) ho hex hd g1 nd1 m1 hb1 ?_ ?_ ?_ fun h' sb r => ?_)
      · cases b
        · first | exact wpAny_pure q | exact wpAny_rule q
        · first | exact wpAny_pure q | exact wpAny_rule q
      · first | (split <;> first | exact hf1 | exact SetTable.fits_plain_off hf1) | exact hf1
      · first | (split <;> exact hr1) | exact hr1
      · first | (split <;> exact hled) | exact hled
      · dsimp only
        exact wpAny_pure (fin h' sb r)
    · refine wpAny_bind (wpAny_pure ?_)
      simp only [↓reduceIte]
      refine setT_tail (fun b s₁ Q' q => ?_) ho hex hd g1 nd1 m1 hb1 hf1 hr1 hled fun h' sb r => ?_
      · cases b
        · first | exact wpAny_pure q | exact wpAny_rule q
        · first | exact wpAny_pure q | exact wpAny_rule q
      · dsimp only
        exact wpAny_pure (fin h' sb r)
/-! ### set(xs) -/
/-- a fresh set, as the model lays it -/
abbrev frS (w : World) : Obj := { cls := .type "set", dict := none, data := .set #[] 0 (.fresh 0 0 (!w.params.followText "set-order")) }
theorem setT_new {h : Heap} {a : Addr} {ns : List Str} (ho : h.get? a = some (frS w)) : SetT w h a (fun j => decide (j ∈ ns.take 0)) 0 := by
  refine ⟨_, #[], 0, _, ho, ⟨rfl, rfl, rfl⟩, rfl, (fun e he => by simp at he), (by simp), (fun k => by simp), (by decide), (by rfl), rfl, List.Pairwise.nil, ?_⟩
  show _ ∨ (!w.params.followText "set-order") = true
  cases w.params.followText "set-order" with
  | false => exact .inr rfl
  | true => exact .inl rfl
theorem set_loopT {I : Addr} {fp wr : List Addr} {G : Array GenState → Array GenState → Prop} {n : Nat} {Pv : Nat → Value → Prop} {St : Nat → Shared → Prop} {R : Result → Shared → Prop}
    (W : WalksS P w A.in1 I fp wr G n Pv St) (C : Addr) (hSf : C ∉ fp) (ns : List Str) (hn : n = ns.length) (hb : ns.length + 1 < scanBound) (hval : ∀ i v, Pv i v → ∃ k t, ns[i]? = some k ∧ v = .str k t) :
    ∀ (k i : Nat) (s : Shared), n - i = k → i ≤ n → St i s → (∃ c, c ≤ i ∧ SetT w s.heap C (fun j => decide (j ∈ ns.take i)) c) →
      (∀ s' c, Moved (C :: wr) G s s' → c ≤ n → SetT w s'.heap C (fun j => decide (j ∈ ns)) c → R (.ok (.ret .none)) s') → codeAny (model P w) A (.builtin "set.update.loop" ⟨[.ref C, .ref I], []⟩) R s := by
  have hSw : C ∉ wr := fun h => hSf (W.sub _ h)
  have hsub : ∀ b ∈ wr, b ∈ C :: wr := fun b hb => List.mem_cons_of_mem _ hb
  intro k
  induction k with
  | zero =>
    rintro i s hk' hi hst ⟨c, hc, hS⟩ hR
    obtain rfl : i = n := by omega
    refine codeAny_builtin F.entry_set_update_loop ?_
    rw [Around.under_plainId F.plain_set_update_loop _]
    refine wpAny_bind (W.done s _ _ hst fun s' hm => ?_)
    show wpAny _ A.in1 (ret Value.none) _ _ s'
    rw [List.take_of_length_le (by omega)] at hS
    exact wpAny_pure (hR s' c (hm.mono hsub) hc (hS.at fun o e => hm.heap C o hSw e))
  | succ k ih =>
    rintro i s hk' hi hst ⟨c, hc, hS⟩ hR
    have hlt : i < n := by omega
    refine codeAny_builtin F.entry_set_update_loop ?_
    rw [Around.under_plainId F.plain_set_update_loop _]
    refine wpAny_bind (W.item i s _ _ hlt hst fun v s' hP hst' hm => ?_)
    obtain ⟨z, t, hz, rfl⟩ := hval i v hP
    have hS' : SetT w s'.heap C (fun j => decide (j ∈ ns.take i)) c := hS.at fun o e => hm.heap C o hSw e
    show wpAny _ A.in1 (holding [Value.str z t] (setAdd C (.str z t)) >>= _) _ _ s'
    refine wpAny_bind (wpAny_holding ?_)
    unfold setAdd
    refine wpAny_holding (wpAny_bind ((PySem.strKind P w).pyHash (k := z) (strKind_is _ _ _ _) ?_))
    refine setT_add (s := { s' with toks := s'.toks + 1 }) hS' (by omega) fun h' hsb hS2 => ?_
    have hS3 : SetT w h' C (fun j => decide (j ∈ ns.take (i + 1))) (if decide (z ∈ ns.take i) = true then c else c + 1) := hS2.congr fun j => by
      rw [List.take_add_one, hz]
      simp [List.mem_append]
    have hc3 : (if decide (z ∈ ns.take i) = true then c else c + 1) ≤ i + 1 := by split <;> omega
    refine wpAny_pure ⟨plainId_quiet F.plain_set_update_loop _, ih (i + 1) _ (by omega) hlt (W.frame _ s' _ _ hst' (Nat.le_succ _) fun b hb o e => ?_) ⟨_, hc3, hS3⟩ fun s'' c2 hm2 hcc hS4 => ?_⟩
    · rw [hsb.2 b (fun h : b = C => hSf (by rw [← h]; exact hb))]
      exact e
    · refine hR s'' c2 (Moved.trans W.gtrans ((hm.mono hsub).then_heap (Nat.le_succ _) fun b o hb e => ?_) hm2) hcc hS4
      rw [hsb.2 b (fun h : b = C => hb (by rw [h]; exact List.mem_cons_self))]
      exact e
theorem call_setT {l : Addr} {items : Array Value} (ns : List Str) {Q : Value → Shared → Prop} (hh : A.handled = none) (hl : s.heap.IsList l items) (hit : StrsAre items.toList ns) (hb : ns.length + 1 < scanBound)
    (h : ∀ (h' : Heap) (tk c : Nat), SetT w h' s.heap.objs.size (fun j => decide (j ∈ ns)) c → c ≤ ns.length → (∀ b o, s.heap.get? b = some o → h'.get? b = some o) → Q (.ref s.heap.objs.size) { s with heap := h', toks := tk }) :
    wpAny (model P w) A (call (.type "set") [.ref l]) Q E s := by
  have hisz : items.size = ns.length := by
    have q := hit.len_eq
    rw [Array.length_toList] at q
    exact q
  obtain ⟨c, tl, hmro⟩ := PySem.F.called_set.mro
  have hmade := PySem.F.called_set.made
  have hsub := PySem.F.called_set.sub
  refine wpAny_call (codeAny_of_tree ?_)
  show wpAny _ _ (callAny (.type "set") _) _ _ _
  refine wpAny_pure ⟨Code.quiet_builtin _ (by decide +kernel), codeAny_builtin PySem.F.entry_type_call ?_⟩
  rw [Around.under_plain (weight_type_call_type "set" [.ref l] []) rfl]
  have h1 := PySem.F.called_set.notType
  have h2 := PySem.F.called_set.canCreate
  have hct := PySem.F.typeCall_set_1 (.ref l)
  repeat (any_goals (first | assumption | wp_step))
  refine codeAny_mono (code_set_led1 (.ref l) (E := E) (Q₁ := fun obj s₁ => obj = .ref s.heap.objs.size ∧ s₁ = { s with heap := s.heap.push (frS w) }) ⟨rfl, rfl⟩) fun r s₁ hr => ?_
  match r, hr with
  | .error e, hr => exact hr
  | .ok .next, hr => exact hr.elim
  | .ok .brk, hr => exact hr.elim
  | .ok .cont, hr => exact hr.elim
  | .ok (.ret obj), hr =>
    obtain ⟨rfl, rfl⟩ := hr
    have hS : (s.heap.push (frS w)).get? s.heap.objs.size = some (frS w) := Heap.get?_push_size _ rfl
    have hT : Shared.TypeIs { s with heap := s.heap.push (frS w) } (.ref s.heap.objs.size) "set" := ⟨_, hS, rfl⟩
    have hli := PySem.F.called_set.init.lookup
    have hbi := PySem.F.called_set.init.bind (.ref s.heap.objs.size)
    repeat (any_goals (first | assumption | wp_step))
    refine codeAny_mono (codeAny_call_builtin (R := wants (fun r s₂ => r = .none ∧ ∃ h' tk c, s₂ = { s with heap := h', toks := tk } ∧ SetT w h' s.heap.objs.size (fun j => decide (j ∈ ns)) c ∧ c ≤ ns.length ∧ (∀ b o, s.heap.get? b = some o → h'.get? b = some o)) E) PySem.F.called_set.init.plain PySem.F.entry_set_init (check_set_init_1 hT ?_)) fun r₂ s₂ hr₂ => ?_
    · obtain ⟨ol, hol, hcl, nl, hdl⟩ := hl
      obtain ⟨ocls, odict, odata, oslots⟩ := ol
      simp only at hcl hdl
      subst hcl; subst hdl
      have hol' : (s.heap.push (frS w)).get? l = some { cls := .type "list", dict := odict, data := .seq items nl, slots := oslots } := Heap.get?_push_of_some _ hol
      have hsls := PySem.F.sub_list_set
      have hslf := PySem.F.sub_list_frozenset
      have hne : (Value.type "list" == Value.type "dict") = false := by decide
      have hl1 : (s.heap.push (frS w)).IsList l items := ⟨_, hol', rfl, nl, rfl⟩
      unfold Builtin.«set.__init__» noKeywords Builtin.Frozenset.updateFrom
      generalize hPI : pyIter = PI
      wp_walk
      subst hPI
      refine wpAny_pyIter_list hl1 (wpAny_bind (wpAny_runValue ?_))
      have hlS : l < s.heap.objs.size := Heap.lt_size hol
      have hh3 : A.in1.in1.in1.handled = none := by simp [hh]
      have hneI : l ≠ (s.heap.push (frS w)).objs.size := by
        rw [Heap.size_push]
        exact Nat.ne_of_lt (Nat.lt_succ_of_lt hlS)
      have hSf : s.heap.objs.size ∉ [(s.heap.push (frS w)).objs.size, l] := by
        rw [Heap.size_push]
        intro z
        rcases List.mem_cons.mp z with z | z
        · exact Nat.ne_of_lt (Nat.lt_succ_self _) z
        · exact Nat.ne_of_gt hlS (List.mem_singleton.mp z)
      have hval : ∀ (i : Nat) (v : Value), items[i]? = some v → ∃ k t, ns[i]? = some k ∧ v = .str k t := fun i v hv => by
        obtain ⟨y, t, e1, e2⟩ := StrsAre.item hit i v (by rw [Array.getElem?_toList]; exact hv)
        exact ⟨y, t, e2, e1⟩
      have hget : ((s.heap.push (frS w)).push { cls := .type "list_iterator", data := .fields #[.ref l, .int 0 0] }).get? s.heap.objs.size = some (frS w) := Heap.get?_push_of_some _ hS
      refine set_loopT ((Walks.list hh3 _ l hneI items).toS) s.heap.objs.size hSf ns hisz hb hval (items.size - 0) 0 _ (by omega) (Nat.zero_le _) ⟨⟨_, Heap.get?_push_size _ rfl, rfl, rfl⟩, (hl1.push _)⟩ ⟨0, Nat.le_refl 0, setT_new hget⟩ fun s' c' hm hc' hS' => ?_
      obtain ⟨h', g2, d', tk', os'⟩ := s'
      have eg : g2 = s.gens := hm.gens
      have ed : d' = s.drawn := hm.drawn
      have eo : os' = s.os := hm.os
      subst eg; subst ed; subst eo
      show wpAny _ _ _ _ _ _
      refine wpAny_pure ?_
      show wpAny _ _ (ret Value.none) _ _ _
      rw [hisz] at hc'
      refine wpAny_pure ⟨rfl, h', tk', c', rfl, hS', hc', fun b o e => ?_⟩
      have hb0 : b < s.heap.objs.size := Heap.lt_size e
      refine hm.heap b o (fun z => ?_) (Heap.get?_push_of_some _ (Heap.get?_push_of_some _ e))
      rcases List.mem_cons.mp z with z | z
      · exact Nat.ne_of_lt hb0 z
      · have z2 := List.mem_singleton.mp z
        rw [Heap.size_push] at z2
        exact Nat.ne_of_lt (Nat.lt_succ_of_lt hb0) z2
    · match r₂, hr₂ with
      | .error e, hr₂ => exact hr₂
      | .ok .next, hr₂ => exact hr₂.elim
      | .ok .brk, hr₂ => exact hr₂.elim
      | .ok .cont, hr₂ => exact hr₂.elim
      | .ok (.ret r), hr₂ =>
        obtain ⟨rfl, h', tk, c', rfl, hS', hc', hk'⟩ := hr₂
        repeat (any_goals (first | assumption | wp_step))
        exact h _ _ _ hS' hc' hk'
/-! ### sorted -/
theorem strs_of : ∀ (l : List Value), (∀ v ∈ l, ∃ k tk, v = Value.str k tk) → StrsAre l (l.map fun v => keyT (0, v))
  | [], _ => .nil
  | v :: l, h => by
    obtain ⟨k, tk, rfl⟩ := h v List.mem_cons_self
    exact .cons k tk (strs_of l fun u hu => h u (List.mem_cons_of_mem _ hu))
theorem sorted_setT {Q : Value → Shared → Prop} (R : SetT w s.heap a S n) (hh : A.handled = none) (h64 : n < 64)
    (hQ : ∀ s' p (out : Array Value) (c : Nat) (ns : List Str), (∀ b o, s.heap.get? b = some o → s'.heap.get? b = some o) → s'.gens = s.gens → s'.os = s.os → s.heap.objs.size ≤ p → s'.heap.get? p = some (seqObj "list" out c) →
      StrsAre out.toList ns → sortedS ns = true → ns.Nodup → (∀ k, k ∈ ns ↔ S k = true) → ns.length = n → Q (.ref p) s') :
    wpAny (model P w) A (call (.builtin "sorted") [.ref a]) Q E s := by
  obtain ⟨o, es, ep, t, ho, hex, hd, g, nd, hm, hb, hf, hn, hr, hl⟩ := R
  refine Calls.call_function_entry kind_sorted plain_sorted entry_sorted (args_sorted1 _) ?_
  unfold Builtin.«sorted»
  refine wpAny_bind (m := checkCount "sorted" 1 1 _) (wpAny_pure (wpAny_bind (collect_set (A := A.in1) hh ⟨o, ho, hex.1, hd⟩ hf hb hr hl fun s1 vs k1 hz g1 o1 pm => ?_)))
  have hvl : vs.length = n := by rw [pm.length_eq, List.length_map, Array.length_toList]; exact hn
  have hI : StrsAre vs (vs.map fun v => keyT (0, v)) := strs_of vs fun v hv => by
    obtain ⟨e, he, rfl⟩ := List.mem_map.mp (pm.mem_iff.mp hv)
    obtain ⟨k, tk, h1, _⟩ := g e he
    exact ⟨k, tk, h1⟩
  have pk : (vs.map fun v => keyT (0, v)).Perm (es.toList.map keyT) := by
    have q := pm.map fun v => keyT (0, v)
    rw [List.map_map] at q
    exact q
  have hoL : (s1.heap.push (seqObj "list" vs.toArray 0)).get? s1.heap.objs.size = some (seqObj "list" vs.toArray 0) := Heap.get?_push_size _ rfl
  refine wpAny_bind (wpAny_newList ?_ (by rw [hvl, sizeLine_eq]; omega))
  refine wpAny_bind (wpAny_holding (wpAny_call_entry slot_list_sort ⟨_, hoL, rfl⟩ entry_list_sort (list_sort_treeK strKind_oneLt (s := { s1 with heap := s1.heap.push (seqObj "list" vs.toArray 0) }) hoL hI.keysOf (fun v₁ v₂ rest e => keyKind_strs (by rw [← e]; exact hI)) (by rw [hvl]; exact h64) fun st' hp hs => ⟨_, rfl, ?_⟩) (args_list_sort _)))
  obtain ⟨ys, q1, q2, q3⟩ := sorted_out_str hI hp hs
  obtain ⟨e', he'⟩ := sortedHeap_at (vs := vs) (out := (arrOf st').map (·.2)) hoL
  have pn : ys.Perm (es.toList.map keyT) := q2.trans pk
  refine wpAny_pure ⟨_, rfl, hQ _ s1.heap.objs.size ((arrOf st').map (·.2)) e' ys (fun b u e => ?_) g1 o1 hz he' q1 q3 (pn.nodup_iff.mpr nd) (fun k => by rw [pn.mem_iff, ← hm k]) ?_⟩
  · have q := k1 b u e
    have hlt := Heap.lt_size q
    show (sortedHeap (s1.heap.push (seqObj "list" vs.toArray 0)) s1.heap.objs.size vs ((arrOf st').map (·.2))).get? b = some u
    rw [sortedHeap_old (Nat.ne_of_lt hlt) (by rw [size_push']; exact Nat.lt_succ_of_lt hlt)]
    exact Heap.get?_push_of_some _ q
  · rw [pn.length_eq, List.length_map, Array.length_toList]
    exact hn
end
/-! ### the rules -/
/-- the set of the texts ns -/
def SetTx (w : World) (a : Addr) (ns : List Str) : HO := .ext fun h => ∃ c, c ≤ ns.length ∧ SetT w h a (fun j => decide (j ∈ ns)) c
def rSetTx (K : PySem.W.Frag) (w : World) : List V → Hp → VK → Prop := fun xs H Q => ∃ (l : Addr) (ns : List Str), xs = [V.ref l] ∧ SqL K H l (ns.map V.str) ∧ ns.length < 64 ∧ ∀ a, H a = none → Q (.ref a) (upd H a (SetTx w a ns))
def rSortTx (w : World) : List V → Hp → VK → Prop := fun xs H Q => ∃ (a : Addr) (ns : List Str), xs = [V.ref a] ∧ H a = some (SetTx w a ns) ∧ ns.length < 64 ∧ ∀ ys p, sortedS ys = true → ys.Nodup → (∀ k, k ∈ ys ↔ k ∈ ns) → ys.length < 64 → H p = none → Q (.ref p) (upd H p (.lst (ys.map V.str)))
section
variable {X : Cx}
theorem cr_setTx {K : PySem.W.Frag} {w : World} (eK : X.K = K) (ew : X.w = w) (hc : X.calm = true) : CallR X (.type "set") (rSetTx K w) := by
  subst eK ew
  intro pins s σ H xs us Q I r h
  obtain ⟨l, ns, rfl, hl, hf, q⟩ := h
  rw [Vals.ref1 r]
  obtain ⟨its, rv, pl, hz⟩ := I.list hl
  refine call_setT (P := X.prog) (w := X.w) ns (I.ok.hd hc) pl.isList (by simpa using rv.strs) (by unfold scanBound; omega) fun h' tk c R hcl k => ?_
  refine ⟨.ref s.heap.objs.size, upd H s.heap.objs.size (SetTx X.w s.heap.objs.size ns), I.laid (t' := tk) k (Nat.le_refl _) ?_, rfl, q _ (I.hok.fresh (Nat.le_refl _))⟩
  refine ⟨⟨c, hcl, R⟩, ?_, fun h1 h2 p k => ?_⟩
  · obtain ⟨o, _, _, _, ho, _⟩ := R
    exact ⟨o, ho⟩
  · obtain ⟨c2, b1, b2⟩ := p
    exact ⟨c2, b1, b2.at k⟩
theorem cr_sortTx {w : World} (ew : X.w = w) (hc : X.calm = true) : CallR X (.builtin "sorted") (rSortTx w) := by
  subst ew
  intro pins s σ H xs us Q I r h
  obtain ⟨a, ns, rfl, ha, h64, q⟩ := h
  obtain ⟨c, hcl, R⟩ := (I.hok a _ ha).1
  rw [Vals.ref1 r]
  refine sorted_setT R (I.ok.hd hc) (by omega) fun s' p out e ys k g o hp hg hi hs hn hm hl => ?_
  have hlen : (ys.map V.str).length ≤ sizeLine := by rw [List.length_map, sizeLine_eq]; omega
  have hn0 : H p = none := I.hok.fresh hp
  have J : Inv X pins σ (upd H p (.lst (ys.map V.str))) { s with heap := s'.heap, gens := s'.gens, drawn := s'.drawn, toks := s'.toks } :=
    I.call (ch := []) (Un.laid k hp hn0) (I.hok.laid k hp ⟨hlen, out.toList, e, vals_of_strs hi, hg⟩) (by rw [g]; exact I.bare) (fun _ z => nomatch z)
  have es : s' = { s with heap := s'.heap, gens := s'.gens, drawn := s'.drawn, toks := s'.toks } := by
    cases s'
    cases s
    cases o
    rfl
  rw [es]
  exact ⟨.ref p, _, J, rfl, q ys p hs hn (fun k => (hm k).trans decide_eq_true_iff) (by omega) hn0⟩
end
/-- one of two readings -/
theorem pe_or {X : Cx} {e : Expr} {t1 t2 : TE} (h1 : PE X e t1) (h2 : PE X e t2) : PE X e (fun σ H Q => t1 σ H Q ∨ t2 σ H Q) :=
  ⟨fun pins s σ H Q I h => h.elim (fun q => h1.run pins s σ H Q I q) fun q => h2.run pins s σ H Q I q⟩
end Sk
/-! x, *y = a list; try whose body raises nothing -/
namespace Sk
open PySem PySem.Spec PyProof.Rows L2
/-- the first item, a new list of the others -/
def gStarL (K : PySem.W.Frag) (t : TGs) : TG := fun v σ H Q => ∃ (l : Addr) (z : V) (zs : List V), v = .ref l ∧ SqL K H l (z :: zs) ∧ zs.length ≤ 16000 ∧ ∀ D, H D = none → t [z, .ref D] σ (upd H D (.lst zs)) Q
section
variable {X : Cx} {pos ps : Pos} {t1 t2 : Expr} {k : Nat} {t : TGs}
theorem unpack_first {prog : Program} {w : World} {A : Around} {E : Value → Shared → Prop} {s : Shared} {l : Addr} {items : Array Value} {Q : List Value → Shared → Prop} (hh : A.handled = none) (hl : s.heap.IsList l items) (h1 : 1 ≤ items.size) (hz : items.size ≤ 16384)
    (hQ : ∀ (h₂ : Heap) (tk : Nat), (∀ b o, b ≠ s.heap.objs.size → s.heap.get? b = some o → h₂.get? b = some o) → wpAny (model prog w) A (newList (items.toList.drop 1)) (fun d s₂ => Q (items.toList.take 1 ++ [d]) s₂) E { s with heap := h₂, toks := tk }) :
    wpAny (model prog w) A (unpackItems (.ref l) 2 (some 1)) Q E s := by
  have hll : l < s.heap.objs.size := by obtain ⟨o, ho, _⟩ := hl; exact Heap.lt_size ho
  have hlt : l ≠ s.heap.objs.size := Nat.ne_of_lt hll
  unfold unpackItems
  refine wpAny_bind ?_
  unfold notIterableAtAll
  refine wpAny_bind (wpAny_specialOf hl.typeIs slot_list_iter.lookup (wpAny_pure ?_))
  simp only [Bool.false_eq_true, if_false]
  refine wpAny_bind (wpAny_holding (wpAny_pyIter_list hl (wpAny_bind (wpAny_holding (PySem.W.kun_draw hlt 1 0 _ _ ⟨_, Heap.get?_push_size _ rfl, rfl, rfl⟩ (hl.push _) (by omega) fun h₁ hit₁ hs₁ => ?_)))))
  have hl₁ : h₁.IsList l items := (hl.push _).extBut hs₁.extBut hlt
  rw [Nat.zero_add] at hit₁
  obtain ⟨oi, hoi, _⟩ := id hit₁
  obtain ⟨ol, hol, _⟩ := id hl₁
  rw [List.drop_zero]
  have hfl : (items.toList.take 1).length = 1 := by rw [List.length_take, Array.length_toList]; omega
  rw [if_neg (show ¬ ((items.toList.take 1).length < 1) by rw [hfl]; omega)]
  refine wpAny_bind (wpAny_holding (PySem.W.kun_collect (s := { s with heap := h₁ }) (T := "list_iterator") (.inr (.inr (.inl rfl))) (Walks.list (A := A.in1) hh s.heap.objs.size l hlt items) (fun j u st => st.1.typeIs) (k := 1) (by omega) ⟨hit₁, hl₁⟩ (Heap.lt_size hoi) (Heap.lt_size hol) (fun h₂ tk hk => ?_) (by rw [sizeLine_eq]; omega)))
  have hrl : (items.toList.drop 1).length = items.size - 1 := by rw [List.length_drop, Array.length_toList]
  have hmid : (items.toList.drop 1).length - (2 - 1 - 1) = (items.toList.drop 1).length := by omega
  show wpAny _ _ (if (items.toList.drop 1).length < 2 - 1 - 1 then _ else _) _ _ _
  rw [if_neg (by omega)]
  show wpAny _ _ (newList ((items.toList.drop 1).take ((items.toList.drop 1).length - (2 - 1 - 1))) >>= fun d => pure (items.toList.take 1 ++ [d] ++ (items.toList.drop 1).drop ((items.toList.drop 1).length - (2 - 1 - 1)))) _ _ _
  rw [hmid, List.take_length, List.drop_length]
  refine wpAny_bind (wpAny_mono (hQ h₂ tk fun b o hb e => hk b o hb (hs₁.extBut b o hb (Heap.get?_push_of_some _ e))) (fun d s₂ q => ?_) fun _ _ z => z)
  rw [List.append_nil]
  exact wpAny_pure q
theorem pg_starL (hc : X.calm = true) (h : PGs X [t1, t2] t) (hn : (assignEach [t1, .Starred t2 ps] X.env).length = 2 := by rfl) (hst : (assignEach [t1, .Starred t2 ps] X.env).findIdx? (·.1) = some 1 := by rfl)
    (he : (assignEach [t1, .Starred t2 ps] X.env).map (·.2) = (assignEach [t1, t2] X.env).map (·.2) := by rfl) : PG X (.Tuple [t1, .Starred t2 ps] k pos) (gStarL X.K t) := by
  refine ⟨fun pins s σ H v u Q I r hw => ?_⟩
  obtain ⟨l, z, zs, rfl, hq, hl, hw⟩ := hw
  cases r
  obtain ⟨its, rv, pl, hz⟩ := I.list hq
  cases rv with
  | cons r1 r2 =>
    rename_i u1 us
    have hul := r2.length
    rw [PyProof.Rows.assign_Tuple]
    refine wpAny_bind (wpAny_standAt ?_)
    unfold unpack
    rw [hn, hst]
    refine wpAny_bind (wpAny_holding (unpack_first (I.ok.hd hc) pl.isList (by simp) (by simp; omega) fun h₂ tk hk => ?_))
    have k2 : ∀ b o, s.heap.get? b = some o → h₂.get? b = some o := fun b o e => hk b o (Nat.ne_of_lt (Heap.lt_size e)) e
    have I1 : Inv X pins σ H { s with heap := h₂, toks := tk } := I.kept k2
    refine wpAny_newList ?_ (by simp; rw [sizeLine_eq]; omega)
    have e1 : ((u1 :: us).toArray.toList.drop 1).toArray = us.toArray := by simp
    have e2 : (u1 :: us).toArray.toList.take 1 ++ [Value.ref h₂.objs.size] = [u1, .ref h₂.objs.size] := by simp
    show wpAny _ _ (assignInOrder _ ((u1 :: us).toArray.toList.take 1 ++ [Value.ref h₂.objs.size])) _ _ _
    rw [he, e2]
    have ho : (h₂.push { cls := .type "list", data := .seq ((u1 :: us).toArray.toList.drop 1).toArray }).get? h₂.objs.size = some (seqObj "list" us.toArray 0) := by
      rw [e1]
      exact Heap.get?_push_size _ rfl
    have J : Inv X pins σ (upd H h₂.objs.size (.lst zs)) { s with heap := h₂.push { cls := .type "list", data := .seq ((u1 :: us).toArray.toList.drop 1).toArray }, toks := tk } :=
      I1.laid (t' := tk) (fun b u e => Heap.get?_push_of_some _ e) (Nat.le_refl _) (show ObjOk X.prog X.w _ _ _ (.lst zs) from ⟨by rw [sizeLine_eq]; omega, us, 0, r2, ho⟩)
    exact h.run pins _ σ _ [z, .ref h₂.objs.size] _ Q J (.cons r1 (.cons rfl .nil)) (hw _ (I1.hok.fresh (Nat.le_refl _)))
/-- try: nothing is raised -/
theorem ps_try_nox {body : List Stmt} {h0 : ExceptHandler} {tb : TS} (hb : PSs X body tb) (hx : ∀ e s, X.xe e s → False := by intro _ _ z; exact z) : PS X (.Try body [h0] [] [] pos) tb := by
  refine ⟨fun pins s σ H D I h => wpAny_Try_except (wpAny_mono (hb.run pins s σ H D I h) (fun f s1 hsp => ?_) fun e s1 he => (hx e s1 he).elim)⟩
  cases f with
  | next => exact wpAny_execs_nil hsp
  | brk => exact hsp
  | cont => exact hsp
  | ret u => exact hsp
/-- sep.join(texts), K told -/
def rJoin (K : PySem.W.Frag) : V → List V → Hp → VK → Prop := fun x xs H Q => ∃ a p, ∃ ys : List Str, x = .str a ∧ xs = [.ref p] ∧ (SqL K H p (ys.map V.str) ∨ SqT K H p (ys.map V.str)) ∧ (ys.map (·.length)).sum + ys.length * a.length ≤ 16777216 ∧ Q (.str (Txt.join a ys)) H
theorem peJoin {K : PySem.W.Frag} {o e : Expr} {to te : TE} {apos : Pos} (eK : X.K = K) (ho : PE X o to) (he : PE X e te) (hs : starEach [e] X.env = [(false, eval e X.env)] := by rfl) (hbase : attributeBase o "join" X.env (eval o X.env) = eval o X.env := by rfl) (hline : (apos.endLine == pos.line) = true := by rfl) :
    PE X (.Call (.Attribute o "join" apos) [e] [] pos) (tM1 (rJoin K) to te) := by
  subst eK
  exact pe_join ho he hs hbase hline
end
end Sk
/-! a pool of draws: a list of three numbers -/
namespace Sk
open PySem PySem.Spec PyProof.Rows L2
/-- the pool at p: digits left, what is mixed, how many were mixed (at most n) -/
def PlAt (p : Addr) (n : Nat) (H : Hp) : Prop := ∃ d m c : Int, H p = some (.lst [.int d, .int m, .int c]) ∧ 0 ≤ d ∧ 0 ≤ m ∧ m < 2 ^ 62 ∧ 0 ≤ c ∧ c ≤ n
/-- the pool, the cells L that may change, the frozen part G -/
structure Hq (T : List (Addr × Str)) (p : Addr) (n : Nat) (L : List (Addr × HO)) (G H : Hp) : Prop where
  src : PlAt p n H
  fz : Fz G H
  gp : G p = none
  cel : ∀ x ∈ L, H x.1 = some x.2 ∧ G x.1 = none ∧ x.1 ≠ p ∧ NoTab x.2
  nod : (L.map (·.1)).Nodup
  tab : LamX.Tabs T H
section
variable {T : List (Addr × Str)} {p : Addr} {n : Nat} {L : List (Addr × HO)} {G H H' : Hp}
theorem Hq.mono {m : Nat} (s : Hq T p n L G H) (h : n ≤ m) : Hq T p m L G H := by
  obtain ⟨⟨d, mm, c, h1, h2, h3, h4, h5, h6⟩, c1, c2, c3, c4, c5⟩ := s
  exact ⟨⟨d, mm, c, h1, h2, h3, h4, h5, by omega⟩, c1, c2, c3, c4, c5⟩
/-- all that stood stands -/
theorem Hq.gr (s : Hq T p n L G H) (g : Gr T H H') : Hq T p n L G H' := by
  obtain ⟨⟨d, mm, c, h1, h2⟩, fz, gp, cel, nod, tab⟩ := s
  exact ⟨⟨d, mm, c, g.at h1 .lst, h2⟩, fz.gr g, gp, fun x hx => ⟨g.at (cel x hx).1 (cel x hx).2.2.2, (cel x hx).2⟩, nod, g.tab tab⟩
/-- the heap grew, and at a new place stands o -/
theorem Hq.grow {a : Addr} {o : HO} (s : Hq T p n L G H) (g : Gr T H H') (h : Nw H a) (e : H' a = some o) (nt : NoTab o) : Hq T p n ((a, o) :: L) G H' := by
  have s2 := s.gr g
  have no : ∀ u, H a = some u → ¬ NoTab u := fun u hu n2 => by
    obtain ⟨ps, z⟩ := h u hu
    exact n2.1 ps z
  obtain ⟨⟨d, mm, c, h1, _⟩, fz, gp, cel, nod, tab⟩ := s
  obtain ⟨b1, fz', _, cel', _, tab'⟩ := s2
  refine ⟨b1, fz', gp, fun y hy => ?_, ?_, tab'⟩
  · rcases List.mem_cons.mp hy with rfl | hy
    · refine ⟨e, ?_, fun z => ?_, nt⟩
      · cases q0 : G a with
        | none => rfl
        | some u => exact absurd (fz.nt a u q0) (no u (fz.sub a u q0))
      · exact no _ (by rw [show a = p from z]; exact h1) .lst
    · exact cel' y hy
  · rw [List.map_cons, List.nodup_cons]
    refine ⟨fun hm => ?_, nod⟩
    obtain ⟨y, hy, e2⟩ := List.mem_map.mp hm
    obtain ⟨c1, _, _, c4⟩ := cel y hy
    rw [e2] at c1
    exact no _ c1 c4
/-- a new cell -/
theorem Hq.new {a : Addr} {o : HO} (s : Hq T p n L G H) (h : H a = none) (nt : NoTab o) : Hq T p n ((a, o) :: L) G (upd H a o) := s.grow (Gr.new h) (.of h) upd_same nt
/-- what stands at the i-th cell -/
theorem Hq.get {i : Nat} {a : Addr} {o : HO} (s : Hq T p n L G H) (h : L[i]? = some (a, o)) : H a = some o := (s.cel (a, o) (List.mem_of_getElem? h)).1
/-- the i-th cell is written -/
theorem Hq.put {i : Nat} {a : Addr} {o o' : HO} (s : Hq T p n L G H) (h : L[i]? = some (a, o)) (nt : NoTab o') : Hq T p n (L.set i (a, o')) G (upd H a o') := by
  have hm := List.mem_of_getElem? h
  obtain ⟨⟨d, mm, c, h1, h2⟩, fz, gp, cel, nod, tab⟩ := s
  obtain ⟨c1, c2, c3, c4⟩ := cel _ hm
  have hi : i < L.length := (List.getElem?_eq_some_iff.mp h).1
  have ei : L[i] = (a, o) := (List.getElem?_eq_some_iff.mp h).2
  have sub : ∀ y ∈ L.set i (a, o'), y = (a, o') ∨ (y ∈ L ∧ y.1 ≠ a) := fun y hy => by
    obtain ⟨j, hj, ej⟩ := List.mem_iff_getElem.mp hy
    by_cases hij : i = j
    · subst hij
      rw [List.getElem_set_self] at ej
      exact .inl ej.symm
    · rw [List.getElem_set_ne hij] at ej
      refine .inr ⟨by rw [← ej]; exact List.getElem_mem _, fun z => hij ?_⟩
      rw [List.length_set] at hj
      have q1 : (L.map (·.1))[i]'(by rw [List.length_map]; exact hi) = (L.map (·.1))[j]'(by rw [List.length_map]; exact hj) := by
        rw [List.getElem_map, List.getElem_map, ei, ej, z]
      exact (List.getElem_inj nod).mp q1
  refine ⟨⟨d, mm, c, by rw [upd_ne (Ne.symm c3)]; exact h1, h2⟩, fz.put c2, gp, fun y hy => ?_, ?_, Tabs.upd tab c1 c4⟩
  · rcases sub y hy with rfl | ⟨hy, z⟩
    · exact ⟨upd_same, c2, c3, nt⟩
    · rw [upd_ne z]
      exact cel y hy
  · rw [List.map_set]
    have : (L.map (·.1)).set i a = L.map (·.1) := by
      have e2 : (L.map (·.1))[i]'(by rw [List.length_map]; exact hi) = a := by rw [List.getElem_map, ei]
      conv => rhs; rw [← List.set_getElem_self (as := L.map (·.1)) (i := i) (by rw [List.length_map]; exact hi)]
      rw [e2]
    show ((L.map (·.1)).set i a).Nodup
    rw [this]
    exact nod
/-- fewer cells -/
theorem Hq.sub {L' : List (Addr × HO)} (s : Hq T p n L G H) (h : L'.Sublist L) : Hq T p n L' G H := by
  obtain ⟨a, fz, gp, cel, nod, tab⟩ := s
  exact ⟨a, fz, gp, fun x hx => cel x (h.subset hx), nod.sublist (h.map _), tab⟩
/-- the first cell is frozen -/
theorem Hq.freeze {a : Addr} {o : HO} (s : Hq T p n ((a, o) :: L) G H) : Hq T p n L (upd G a o) H := by
  obtain ⟨sr, fz, gp, cel, nod, tab⟩ := s
  obtain ⟨c1, c2, c3, c4⟩ := cel _ (List.mem_cons_self ..)
  rw [List.map_cons, List.nodup_cons] at nod
  refine ⟨sr, fz.add c1 c4, ?_, fun x hx => ?_, nod.2, tab⟩
  · rw [upd_ne (Ne.symm c3)]
    exact gp
  · obtain ⟨d1, d2, d3, d4⟩ := cel x (List.mem_cons_of_mem _ hx)
    refine ⟨d1, ?_, d3, d4⟩
    rw [upd_ne (fun z => nod.1 (List.mem_map.mpr ⟨x, hx, z⟩))]
    exact d2
theorem Hq.drop1 {c : Addr × HO} (s : Hq T p n (c :: L) G H) : Hq T p n L G H := s.sub (.cons _ (.refl _))
theorem Hq.drop2 {c d : Addr × HO} (s : Hq T p n (c :: d :: L) G H) : Hq T p n (c :: L) G H := s.sub (.cons₂ _ (.cons _ (.refl _)))
theorem Hq.fzat {a : Addr} {o : HO} (s : Hq T p n L G H) (h : G a = some o) : H a = some o := s.fz.sub _ _ h
theorem Hq.gfree {a : Addr} (s : Hq T p n L G H) (h : H a = none) : G a = none := s.fz.free h
theorem Hq.cfree {c : Addr × HO} (s : Hq T p n (c :: L) G H) : G c.1 = none := (s.cel c (List.mem_cons_self ..)).2.1
theorem Hq.fzTup (s : Hq T p n L G H) (hL : ∀ x ∈ L, ∀ zs, x.2 ≠ .tup zs) : Hq T p n L (fzT G H) H := by
  obtain ⟨⟨d, mm, c, h1, h2⟩, fz, gp, cel, nod, tab⟩ := s
  refine ⟨⟨d, mm, c, h1, h2⟩, ⟨fun b o e => ?_, fun b o e => ?_⟩, fzT_none gp (fun zs z => by rw [h1] at z; cases z), fun y hy => ?_, nod, tab⟩
  · rcases fzT_cases e with z | ⟨z, _⟩
    · exact fz.sub b o z
    · exact z
  · rcases fzT_cases e with z | ⟨_, zs, z⟩
    · exact fz.nt b o z
    · rw [z]
      exact .tup
  · obtain ⟨c1, c2, c3⟩ := cel y hy
    exact ⟨c1, fzT_none c2 (fun zs z => hL y hy zs (Option.some.inj (c1.symm.trans z))), c3⟩
theorem Hq.less {G0 : Hp} (s : Hq T p n L G H) (h : Same G0 G) : Hq T p n L G0 H := by
  obtain ⟨sr, fz, gp, cel, nod, tab⟩ := s
  exact ⟨sr, ⟨fun b o e => fz.sub b o (h b o e), fun b o e => fz.nt b o (h b o e)⟩, h.free gp, fun y hy => ⟨(cel y hy).1, h.free (cel y hy).2.1, (cel y hy).2.2⟩, nod, tab⟩
/-- the pool is written -/
theorem Hq.pool {m : Nat} {d x c : Int} (s : Hq T p n L G H) (h0 : 0 ≤ d) (h1 : 0 ≤ x) (h2 : x < 2 ^ 62) (h3 : 0 ≤ c) (h4 : c ≤ m) : Hq T p m L G (upd H p (.lst [.int d, .int x, .int c])) := by
  obtain ⟨⟨d0, x0, c0, e, _⟩, fz, gp, cel, nod, tab⟩ := s
  exact ⟨⟨d, x, c, upd_same, h0, h1, h2, h3, h4⟩, fz.put gp, gp, fun y hy => by
    obtain ⟨c1, c2⟩ := cel y hy
    exact ⟨by rw [upd_ne c2.2.1]; exact c1, c2⟩, nod, Tabs.upd tab e .lst⟩
end
/-! ### ** of a wide base -/
def CPowW (i j : Int) : Prop := 0 ≤ j ∧ (Builtin.Int.intBits i : Int) * j ≤ 2 ^ 27
theorem op_powW {X : Cx} : OpR X (binaryOp .Pow) (rI CPowW fun i j => .int (i ^ j.toNat)) := opI fun _ _ _ _ _ _ _ hc q => PyProof.Rows.pow_int hc.1 hc.2 q
theorem bits_le {i : Int} {b : Nat} (h : i.natAbs < 2 ^ b) (h0 : 0 < b) : Builtin.Int.intBits i ≤ b := by
  unfold Builtin.Int.intBits
  split
  · omega
  · have := PySem.Flt.log2_lt_of h0 h
    omega
theorem wide_pow {i j : Int} {b : Nat} (h : i.natAbs < 2 ^ b) (h0 : 0 < b) (hj : 0 ≤ j) (hb : (b : Int) * j ≤ 2 ^ 27) : CPowW i j := by
  refine ⟨hj, Int.le_trans (Int.mul_le_mul_of_nonneg_right ?_ hj) hb⟩
  have := bits_le h h0
  omega
end Sk
/-! a bag of draws: a dict with a list and three numbers -/
namespace Sk
open PySem PySem.Spec PyProof.Rows L2
/-- the bag's dict -/
def bagK (g : Addr) (l t f : Int) : List (Key × V) := [(.inr "great", .ref g), (.inr "left", .int l), (.inr "turn", .int t), (.inr "fold", .int f)]
theorem upd_upd {H : Hp} {a : Addr} {o o' : HO} : upd (upd H a o) a o' = upd H a o' := by
  funext b
  by_cases h : b = a
  · rw [h, upd_same, upd_same]
  · rw [upd_ne h, upd_ne h, upd_ne h]
theorem bag_great {g : Addr} {l t f : Int} : valV (bagK g l t f) (.inr "great") = some (.ref g) := rfl
theorem bag_left {g : Addr} {l t f : Int} : valV (bagK g l t f) (.inr "left") = some (.int l) := rfl
theorem bag_turn {g : Addr} {l t f : Int} : valV (bagK g l t f) (.inr "turn") = some (.int t) := rfl
theorem bag_fold {g : Addr} {l t f : Int} : valV (bagK g l t f) (.inr "fold") = some (.int f) := rfl
theorem bag_putL {g : Addr} {l t f l' : Int} : putK (bagK g l t f) (.inr "left") (.int l') = bagK g l' t f := rfl
theorem bag_putT {g : Addr} {l t f t' : Int} : putK (bagK g l t f) (.inr "turn") (.int t') = bagK g l t' f := rfl
/-- the bag at p, its list of great numbers at g: what is left, how many were mixed (at most n), what is mixed -/
structure BgAt (p g : Addr) (n : Nat) (gs : List Int) (l t f : Int) (H : Hp) : Prop where
  at_ : H p = some (.dK (bagK g l t f))
  gr : H g = some (.lst (gs.map V.int))
  pos : ∀ x ∈ gs, 0 ≤ x
  few : gs.length ≤ 63
  l0 : 0 ≤ l
  t0 : 0 ≤ t
  tn : t ≤ n
  f0 : 0 ≤ f
  f1 : f < 2305843009213693951
/-- the bag, the cells L that may change, the frozen part G -/
structure Hb (T : List (Addr × Str)) (p : Addr) (n : Nat) (L : List (Addr × HO)) (G H : Hp) : Prop where
  src : ∃ (g : Addr) (gs : List Int) (l t f : Int), BgAt p g n gs l t f H ∧ g ≠ p ∧ G g = none ∧ ∀ x ∈ L, x.1 ≠ g
  fz : Fz G H
  gp : G p = none
  cel : ∀ x ∈ L, H x.1 = some x.2 ∧ G x.1 = none ∧ x.1 ≠ p ∧ NoTab x.2
  nod : (L.map (·.1)).Nodup
  tab : LamX.Tabs T H
section
variable {T : List (Addr × Str)} {p g : Addr} {n : Nat} {L : List (Addr × HO)} {G H H' : Hp} {gs : List Int} {l t f : Int}
theorem BgAt.great (s : BgAt p g n gs l t f H) : DGet H p (.str "great") (some (.ref g)) := .inl ⟨_, .inr "great", .inl s.at_, rfl, bag_great.symm⟩
theorem BgAt.left (s : BgAt p g n gs l t f H) : DGet H p (.str "left") (some (.int l)) := .inl ⟨_, .inr "left", .inl s.at_, rfl, bag_left.symm⟩
theorem BgAt.turn (s : BgAt p g n gs l t f H) : DGet H p (.str "turn") (some (.int t)) := .inl ⟨_, .inr "turn", .inl s.at_, rfl, bag_turn.symm⟩
theorem BgAt.fold (s : BgAt p g n gs l t f H) : DGet H p (.str "fold") (some (.int f)) := .inl ⟨_, .inr "fold", .inl s.at_, rfl, bag_fold.symm⟩
theorem bag_dputL {l' : Int} (h : H p = some (.dK (bagK g l t f))) : DPut H p (.str "left") (.int l') (upd H p (.dK (bagK g l' t f))) := .inl ⟨_, .inr "left", h, rfl, by rw [sizeLine_eq]; show 4 < 16777216; decide, by rw [bag_putL]⟩
theorem bag_dputT {t' : Int} (h : H p = some (.dK (bagK g l t f))) : DPut H p (.str "turn") (.int t') (upd H p (.dK (bagK g l t' f))) := .inl ⟨_, .inr "turn", h, rfl, by rw [sizeLine_eq]; show 4 < 16777216; decide, by rw [bag_putT]⟩
theorem BgAt.mono {m : Nat} (s : BgAt p g n gs l t f H) (h : n ≤ m) : BgAt p g m gs l t f H := ⟨s.at_, s.gr, s.pos, s.few, s.l0, s.t0, by have := s.tn; omega, s.f0, s.f1⟩
theorem BgAt.to (s : BgAt p g n gs l t f H) (h1 : H' p = some (.dK (bagK g l t f))) (h2 : H' g = some (.lst (gs.map V.int))) : BgAt p g n gs l t f H' := ⟨h1, h2, s.pos, s.few, s.l0, s.t0, s.tn, s.f0, s.f1⟩
theorem Hb.mono {m : Nat} (s : Hb T p n L G H) (h : n ≤ m) : Hb T p m L G H := by
  obtain ⟨⟨g, gs, l, t, f, b, r⟩, c1, c2, c3, c4, c5⟩ := s
  exact ⟨⟨g, gs, l, t, f, b.mono h, r⟩, c1, c2, c3, c4, c5⟩
/-- all that stood stands -/
theorem Hb.gr (s : Hb T p n L G H) (w : Gr T H H') : Hb T p n L G H' := by
  obtain ⟨⟨g, gs, l, t, f, b, r⟩, fz, gp, cel, nod, tab⟩ := s
  exact ⟨⟨g, gs, l, t, f, b.to (w.at b.at_ .dK) (w.at b.gr .lst), r⟩, fz.gr w, gp, fun x hx => ⟨w.at (cel x hx).1 (cel x hx).2.2.2, (cel x hx).2⟩, nod, w.tab tab⟩
/-- the heap grew, and at a new place stands o -/
theorem Hb.grow {a : Addr} {o : HO} (s : Hb T p n L G H) (w : Gr T H H') (h : Nw H a) (e : H' a = some o) (nt : NoTab o) : Hb T p n ((a, o) :: L) G H' := by
  have s2 := s.gr w
  have no : ∀ u, H a = some u → ¬ NoTab u := fun u hu n2 => by
    obtain ⟨ps, z⟩ := h u hu
    exact n2.1 ps z
  obtain ⟨⟨g0, _, _, _, _, b0, _, _, _⟩, fz, gp, cel, nod, tab⟩ := s
  obtain ⟨⟨g, gs, l, t, f, b, g1, g2, g3⟩, fz', _, cel', _, tab'⟩ := s2
  have eg : g0 = g := by
    have h1 := w.at b0.at_ .dK
    rw [b.at_] at h1
    have h2 := HO.dK.inj (Option.some.inj h1)
    unfold bagK at h2
    have h3 := (List.cons.inj h2).1
    have h4 := (Prod.mk.inj h3).2
    exact (V.ref.inj h4).symm
  refine ⟨⟨g, gs, l, t, f, b, g1, g2, fun y hy => ?_⟩, fz', gp, fun y hy => ?_, ?_, tab'⟩
  · rcases List.mem_cons.mp hy with rfl | hy2
    · intro z
      exact no _ (by rw [show a = g0 from z.trans eg.symm]; exact b0.gr) .lst
    · exact g3 y hy2
  · rcases List.mem_cons.mp hy with rfl | hy2
    · refine ⟨e, ?_, fun z => ?_, nt⟩
      · cases q0 : G a with
        | none => rfl
        | some u => exact absurd (fz.nt a u q0) (no u (fz.sub a u q0))
      · exact no _ (by rw [show a = p from z]; exact b0.at_) .dK
    · exact cel' y hy2
  · rw [List.map_cons, List.nodup_cons]
    refine ⟨fun hm => ?_, nod⟩
    obtain ⟨y, hy, e2⟩ := List.mem_map.mp hm
    obtain ⟨c1, _, _, c4⟩ := cel y hy
    rw [e2] at c1
    exact no _ c1 c4
/-- a new cell -/
theorem Hb.new {a : Addr} {o : HO} (s : Hb T p n L G H) (h : H a = none) (nt : NoTab o) : Hb T p n ((a, o) :: L) G (upd H a o) := s.grow (Gr.new h) (.of h) upd_same nt
/-- what stands at the i-th cell -/
theorem Hb.get {i : Nat} {a : Addr} {o : HO} (s : Hb T p n L G H) (h : L[i]? = some (a, o)) : H a = some o := (s.cel (a, o) (List.mem_of_getElem? h)).1
/-- the i-th cell is written -/
theorem Hb.put {i : Nat} {a : Addr} {o o' : HO} (s : Hb T p n L G H) (h : L[i]? = some (a, o)) (nt : NoTab o') : Hb T p n (L.set i (a, o')) G (upd H a o') := by
  have hm := List.mem_of_getElem? h
  obtain ⟨⟨g, gs, l, t, f, b, g1, g2, g3⟩, fz, gp, cel, nod, tab⟩ := s
  obtain ⟨c1, c2, c3, c4⟩ := cel _ hm
  have hi : i < L.length := (List.getElem?_eq_some_iff.mp h).1
  have ei : L[i] = (a, o) := (List.getElem?_eq_some_iff.mp h).2
  have sub : ∀ y ∈ L.set i (a, o'), y = (a, o') ∨ (y ∈ L ∧ y.1 ≠ a) := fun y hy => by
    obtain ⟨j, hj, ej⟩ := List.mem_iff_getElem.mp hy
    by_cases hij : i = j
    · subst hij
      rw [List.getElem_set_self] at ej
      exact .inl ej.symm
    · rw [List.getElem_set_ne hij] at ej
      refine .inr ⟨by rw [← ej]; exact List.getElem_mem _, fun z => hij ?_⟩
      rw [List.length_set] at hj
      have q1 : (L.map (·.1))[i]'(by rw [List.length_map]; exact hi) = (L.map (·.1))[j]'(by rw [List.length_map]; exact hj) := by
        rw [List.getElem_map, List.getElem_map, ei, ej, z]
      exact (List.getElem_inj nod).mp q1
  have ag : a ≠ g := g3 _ hm
  refine ⟨⟨g, gs, l, t, f, b.to (by rw [upd_ne (Ne.symm c3)]; exact b.at_) (by rw [upd_ne (Ne.symm ag)]; exact b.gr), g1, g2, fun y hy => ?_⟩, fz.put c2, gp, fun y hy => ?_, ?_, Tabs.upd tab c1 c4⟩
  · rcases sub y hy with rfl | ⟨hy2, z⟩
    · exact ag
    · exact g3 y hy2
  · rcases sub y hy with rfl | ⟨hy2, z⟩
    · exact ⟨upd_same, c2, c3, nt⟩
    · rw [upd_ne z]
      exact cel y hy2
  · rw [List.map_set]
    have : (L.map (·.1)).set i a = L.map (·.1) := by
      have e2 : (L.map (·.1))[i]'(by rw [List.length_map]; exact hi) = a := by rw [List.getElem_map, ei]
      conv => rhs; rw [← List.set_getElem_self (as := L.map (·.1)) (i := i) (by rw [List.length_map]; exact hi)]
      rw [e2]
    show ((L.map (·.1)).set i a).Nodup
    rw [this]
    exact nod
/-- fewer cells -/
theorem Hb.sub {L' : List (Addr × HO)} (s : Hb T p n L G H) (h : L'.Sublist L) : Hb T p n L' G H := by
  obtain ⟨⟨g, gs, l, t, f, b, g1, g2, g3⟩, fz, gp, cel, nod, tab⟩ := s
  exact ⟨⟨g, gs, l, t, f, b, g1, g2, fun x hx => g3 x (h.subset hx)⟩, fz, gp, fun x hx => cel x (h.subset hx), nod.sublist (h.map _), tab⟩
/-- the cells in another order -/
theorem Hb.perm {L' : List (Addr × HO)} (s : Hb T p n L G H) (pm : L'.Perm L) : Hb T p n L' G H := by
  obtain ⟨⟨g, gs, l, t, f, b, g1, g2, g3⟩, fz, gp, cel, nod, tab⟩ := s
  exact ⟨⟨g, gs, l, t, f, b, g1, g2, fun x hx => g3 x (pm.mem_iff.mp hx)⟩, fz, gp, fun x hx => cel x (pm.mem_iff.mp hx), (pm.map _).nodup_iff.mpr nod, tab⟩
/-- the first cell is frozen -/
theorem Hb.freeze {a : Addr} {o : HO} (s : Hb T p n ((a, o) :: L) G H) : Hb T p n L (upd G a o) H := by
  obtain ⟨⟨g, gs, l, t, f, b, g1, g2, g3⟩, fz, gp, cel, nod, tab⟩ := s
  obtain ⟨c1, c2, c3, c4⟩ := cel _ (List.mem_cons_self ..)
  have ag : a ≠ g := g3 _ (List.mem_cons_self ..)
  rw [List.map_cons, List.nodup_cons] at nod
  refine ⟨⟨g, gs, l, t, f, b, g1, by rw [upd_ne (Ne.symm ag)]; exact g2, fun x hx => g3 x (List.mem_cons_of_mem _ hx)⟩, fz.add c1 c4, ?_, fun x hx => ?_, nod.2, tab⟩
  · rw [upd_ne (Ne.symm c3)]
    exact gp
  · obtain ⟨d1, d2, d3, d4⟩ := cel x (List.mem_cons_of_mem _ hx)
    refine ⟨d1, ?_, d3, d4⟩
    rw [upd_ne (fun z => nod.1 (List.mem_map.mpr ⟨x, hx, z⟩))]
    exact d2
theorem Hb.drop1 {c : Addr × HO} (s : Hb T p n (c :: L) G H) : Hb T p n L G H := s.sub (.cons _ (.refl _))
theorem Hb.drop2 {c d : Addr × HO} (s : Hb T p n (c :: d :: L) G H) : Hb T p n (c :: L) G H := s.sub (.cons₂ _ (.cons _ (.refl _)))
theorem Hb.fzat {a : Addr} {o : HO} (s : Hb T p n L G H) (h : G a = some o) : H a = some o := s.fz.sub _ _ h
theorem Hb.gfree {a : Addr} (s : Hb T p n L G H) (h : H a = none) : G a = none := s.fz.free h
theorem Hb.cfree {c : Addr × HO} (s : Hb T p n (c :: L) G H) : G c.1 = none := (s.cel c (List.mem_cons_self ..)).2.1
theorem Hb.less {G0 : Hp} (s : Hb T p n L G H) (h : Same G0 G) : Hb T p n L G0 H := by
  obtain ⟨⟨g, gs, l, t, f, b, g1, g2, g3⟩, fz, gp, cel, nod, tab⟩ := s
  exact ⟨⟨g, gs, l, t, f, b, g1, h.free g2, g3⟩, ⟨fun b o e => fz.sub b o (h b o e), fun b o e => fz.nt b o (h b o e)⟩, h.free gp, fun y hy => ⟨(cel y hy).1, h.free (cel y hy).2.1, (cel y hy).2.2⟩, nod, tab⟩
/-- the bag is written: its dict, its list -/
theorem Hb.bag {m : Nat} {gs' : List Int} {l' t' f' : Int} (s : Hb T p n L G H) (b : BgAt p g n gs l t f H) (g1 : g ≠ p) (hG : G g = none) (hL : ∀ x ∈ L, x.1 ≠ g) (w : H' p = some (.dK (bagK g l' t' f'))) (w2 : H' g = some (.lst (gs'.map V.int))) (oth : ∀ a, a ≠ p → a ≠ g → H' a = H a) (tb : LamX.Tabs T H')
    (b' : (∀ x ∈ gs', 0 ≤ x) ∧ gs'.length ≤ 63 ∧ 0 ≤ l' ∧ 0 ≤ t' ∧ t' ≤ m ∧ 0 ≤ f' ∧ f' < 2305843009213693951) : Hb T p m L G H' := by
  obtain ⟨_, fz, gp, cel, nod, tab⟩ := s
  obtain ⟨b1, b2, b3, b4, b5, b6, b7⟩ := b'
  refine ⟨⟨g, gs', l', t', f', ⟨w, w2, b1, b2, b3, b4, b5, b6, b7⟩, g1, hG, hL⟩, ⟨fun a o e => ?_, fz.nt⟩, gp, fun x hx => ?_, nod, tb⟩
  · rw [oth a (fun z => by rw [z, gp] at e; cases e) (fun z => by rw [z, hG] at e; cases e)]
    exact fz.sub a o e
  · obtain ⟨c1, c2, c3, c4⟩ := cel x hx
    rw [oth x.1 c3 (hL x hx)]
    exact ⟨c1, c2, c3, c4⟩
end
end Sk
/-! a dict that a call makes, walked; repr of a dict -/
namespace Sk
open PySem PySem.Spec PyProof.Rows L2
/-- what the expression makes is locked, and stays so -/
def tLockV (t : TE) : TE := fun σ H Q => t σ H fun x H1 => ∃ d u, x = .ref d ∧ H1 d = some u ∧ Mut (some u) ∧ ∀ od, Q x (upd H1 d (.frz od u))
theorem pe_lockV {X : Cx} {e : Expr} {t : TE} (h : PE X e t) : PE X e (tLockV t) := by
  refine ⟨fun pins s σ H Q I hw => thn (h.run pins s σ H _ I hw) fun v s1 ⟨x, H1, I1, r, d, u, ex, hd, mu, q⟩ => ?_⟩
  obtain ⟨od, I2⟩ := I1.lock hd mu
  exact ⟨x, _, I2, r, q od⟩
/-- a comprehension over anything that is walked, item by item what F says -/
theorem lc_gen {Tb : List (Addr × Str)} {J : It} {n : Nat} {GG : Hp → Prop} {Y : Nat → Hp → V → Hp → Prop} (wk : Walk J n GG Y) {g : TG} {tt : TT} {te : TE} {vs : List Nat} {σ : L2.St} {H1 : Hp} {D : Addr} {Qd : Hp → Prop} (F : Nat → Option V) (hD : H1 D = none) (hz : n ≤ 100000)
    (hG : ∀ H, Gr Tb H1 H → GG H) (hY : ∀ i H x H', Y i H x H' → Gr Tb H H')
    (turn : ∀ (i : Nat) (x : V) (H H' : Hp), i < n → Gr Tb H1 H' → Y i H x H' → ∀ (Rk : V → Hp → Prop) (Rs : Hp → Prop), (∀ y H4, F i = some y → Gr Tb H' H4 → Rk y H4) → (∀ H4, F i = none → Gr Tb H' H4 → Rs H4) →
      g x (wipe σ vs) H' fun σ2 H2 => wipe σ2 vs = wipe σ vs ∧ tt σ2 H2 fun b H3 => if b = true then te σ2 H3 Rk else Rs H3)
    (done : ∀ H, Gr Tb H1 H → H D = some (.lst ((List.range n).filterMap F)) → Qd H) :
    ∃ W : Nat → Nat → Hp → Prop, (∃ m, W 0 m (upd H1 D (.lst []))) ∧ ∀ i m H, W i m H →
      (J.stop i H ∧ Qd H) ∨ (J.go i H ∧ ∃ Nx : Hp → Prop, (∀ H', Nx H' → ∃ m', m' < m ∧ W (i + 1) m' H') ∧ ∀ x H', J.yld i H x H' → g x (wipe σ vs) H' fun σ2 H2 => wipe σ2 vs = wipe σ vs ∧ tt σ2 H2 fun b H3 =>
        if b = true then te σ2 H3 fun y H4 => ∃ acc, H4 D = some (.lst acc) ∧ acc.length < sizeLine ∧ Nx (upd H4 D (.lst (acc ++ [y]))) else Nx H3) := by
  have h0 : Gr Tb H1 (upd H1 D (.lst [])) := Gr.new hD
  let P : Nat → Hp → Prop := fun i H => Gr Tb H1 H ∧ H D = some (.lst ((List.range i).filterMap F))
  refine ⟨fun i m H => m = n - i ∧ i ≤ n ∧ P i H, ⟨n, rfl, Nat.zero_le _, h0, upd_same⟩, ?_⟩
  rintro i m H ⟨rfl, hi, p⟩
  have q := hG H p.1
  by_cases hlt : i < n
  · refine .inr ⟨wk.goes i H hlt q, P (i + 1), fun H' p' => ⟨n - (i + 1), by omega, rfl, hlt, p'⟩, fun x H' y => ?_⟩
    have yy := wk.yields i H x H' hlt q y
    have g1 := p.1.trans (hY _ _ _ _ yy)
    have hd := (hY _ _ _ _ yy).at p.2 .lst
    have lle : ((List.range i).filterMap F).length ≤ 100000 := by
      have h2 : ((List.range i).filterMap F).length ≤ i := Nat.le_trans (List.length_filterMap_le _ _) (by rw [List.length_range]; exact Nat.le_refl _)
      omega
    refine turn i x H H' hlt g1 yy (fun y H5 => ∃ acc, H5 D = some (.lst acc) ∧ acc.length < sizeLine ∧ P (i + 1) (upd H5 D (.lst (acc ++ [y])))) (P (i + 1)) (fun q H4 e gr => ?_) (fun H4 e gr => ?_)
    · have hd4 := gr.at hd .lst
      refine ⟨_, hd4, ?_, Gr.put hD (g1.trans gr) hd4, ?_⟩
      · rw [sizeLine_eq]
        omega
      · rw [upd_same, List.range_succ, List.filterMap_append, List.filterMap_cons, e]
        rfl
    · refine ⟨g1.trans gr, ?_⟩
      rw [List.range_succ, List.filterMap_append, List.filterMap_cons, e, gr.at hd .lst]
      simp
  · have e : i = n := by omega
    subst e
    exact .inl ⟨wk.stops H q, done H p.1 p.2⟩
/-- repr of a dict of numbers -/
def rReprD (K : PySem.W.Frag) : List V → Hp → VK → Prop := fun xs H Q => ∃ (a : Addr) (n : Num), xs = [.ref a] ∧ H a = some (.dK (dS n)) ∧ (numD n).showable = true ∧ (numD n).shown.length ≤ sizeLine ∧ (numD n).depth ≤ 50 ∧ Q (.str (numD n).shown) H
theorem crReprD {X : Cx} {K : PySem.W.Frag} (e : X.K = K) (hg : X.A.guards = some []) (hu : X.A.units + 64 < cLine) : CallR X (.builtin "repr") (rReprD K) := by
  subst e
  intro pins s σ H xs us Q I r h
  obtain ⟨a, n, rfl, ha, hs, hz, hdp, q⟩ := h
  obtain ⟨u, rfl, ru⟩ := vals1 r
  obtain ⟨as, rr, hsm⟩ := DpM.reads I (.inr ⟨a, n, rfl, ha, rfl⟩) ru
  obtain rfl : u = Value.ref a := ru
  exact PySem.repr_of_reads' rr hs hsm hg (by omega) (fun b o e => e) (fun h' u tk k => ⟨.str _, H, I.kept k, ⟨u, rfl⟩, q⟩) hz
/-- a number or None -/
def optV : Option Int → V
  | none => .non
  | some i => .int i
def optT : Option Int → Str
  | none => "None"
  | some i => toString i
def rReprO : List V → Hp → VK → Prop := fun xs H Q => ∃ o : Option Int, xs = [optV o] ∧ (∀ i, o = some i → i.natAbs.log2 < 1920) ∧ Q (.str (optT o)) H
theorem crReprO {X : Cx} : CallR X (.builtin "repr") rReprO := by
  intro pins s σ H xs us Q I r h
  obtain ⟨o, rfl, hz, q⟩ := h
  cases o with
  | none =>
    obtain ⟨u, rfl, rfl⟩ := vals1 r
    exact PySem.P.repr_of_none ⟨.str _, H, I.tok _, ⟨_, rfl⟩, q⟩
  | some i =>
    obtain ⟨u, rfl, t, rfl⟩ := vals1 r
    exact PySem.P.repr_of_int (hz i rfl) ⟨.str _, H, I.tok _, ⟨_, rfl⟩, q⟩
end Sk
/-! dicts of numbers compared, alike or not -/
namespace Sk
open PySem PySem.Spec PyProof.Rows L2
/-- each number of the one stands in the other -/
def subNum (ks ls : Num) : Bool := ks.all fun q => decide (get? ls q.1 = some q.2)
def eqNum (ks ls : Num) : Bool := ks.length == ls.length && subNum ks ls
section
variable {X : Cx}
theorem hits_num {A : Around} {s : Shared} {ls : Num} {vb : List (Key × Value)} (rb : KV (dS ls) vb) : ∀ {ks : Num} {va : List (Key × Value)}, KV (dS ks) va → PySem.W.KeqHits A s vb va (subNum ks ls)
  | [], va, ra => by
    cases ra
    exact .nil
  | q :: ks, va, ra => by
    cases ra with
    | cons h t =>
      rename_i kv va
      obtain ⟨h1, h2⟩ := h
      obtain ⟨k, v⟩ := kv
      have h1' : (Sum.inr q.1 : Key) = k := h1
      subst h1'
      obtain ⟨t1, e1⟩ : ∃ t, v = Value.int q.2 t := h2
      subst e1
      have rr : RelO ((get? ls q.1).map V.int) (PySem.valueAt vb (Sum.inr q.1)) := by
        rw [← valV_dS]
        exact rb.val (Sum.inr q.1)
      show PySem.W.KeqHits A s vb ((Sum.inr q.1, Value.int q.2 t1) :: va) (decide (get? ls q.1 = some q.2) && subNum ks ls)
      cases e : get? ls q.1 with
      | none =>
        rw [e] at rr
        have e2 : PySem.valueAt vb (Sum.inr q.1) = none := rr.none_of
        rw [decide_eq_false (by intro z; cases z), Bool.false_and]
        exact .miss e2
      | some j =>
        rw [e] at rr
        obtain ⟨y, hy, ry⟩ := rr.some_of
        obtain ⟨t2, e2⟩ : ∃ t, y = Value.int j t := ry
        subst e2
        refine .hit hy ?_ (hits_num rb t)
        have e3 : decide ((some j : Option Int) = some q.2) = (q.2 == j) := by
          rw [Bool.eq_iff_iff, decide_eq_true_eq, beq_iff_eq]
          exact ⟨fun z => (Option.some.inj z).symm, fun z => by rw [z]⟩
        rw [e3]
        exact SeqAt.EqAt.int_int q.2 t1 j t2
/-- dicts of numbers, == and != -/
def rNumD (neg : Bool) : R2 := fun x y H Q => ∃ (a b : Addr) (ks ls : Num), x = .ref a ∧ y = .ref b ∧ H a = some (.dK (dS ks)) ∧ H b = some (.dK (dS ls)) ∧ Q (.bl (if neg then !eqNum ks ls else eqNum ks ls)) H
theorem op_eqNum (hu : X.A.units < cLine) : OpR X (compareOp .Eq) (rNumD false) := by
  intro pins s σ H x y v u Q I rx ry h
  obtain ⟨a, b, ks, ls, rfl, rfl, ea, eb, q⟩ := h
  obtain rfl : v = Value.ref a := rx
  obtain rfl : u = Value.ref b := ry
  obtain ⟨_, ya, va, ra, da⟩ := (show ObjOk X.prog X.w H s.heap a (.dK (dS ks)) from I.hok a _ ea)
  obtain ⟨_, yb, vb, rb, db⟩ := (show ObjOk X.prog X.w H s.heap b (.dK (dS ls)) from I.hok b _ eb)
  have la := KV.length ra
  have lb := KV.length rb
  rw [dS_len] at la lb
  refine PySem.W.keq_eq (knd := mixKind X.prog X.w) ya yb da db hu (fun _ => hits_num rb ra) (fin_bl I q ?_)
  rw [← la, ← lb]
  rfl
theorem op_neNum (hu : X.A.units < cLine) : OpR X (compareOp .NotEq) (rNumD true) := by
  intro pins s σ H x y v u Q I rx ry h
  obtain ⟨a, b, ks, ls, rfl, rfl, ea, eb, q⟩ := h
  obtain rfl : v = Value.ref a := rx
  obtain rfl : u = Value.ref b := ry
  obtain ⟨_, ya, va, ra, da⟩ := (show ObjOk X.prog X.w H s.heap a (.dK (dS ks)) from I.hok a _ ea)
  obtain ⟨_, yb, vb, rb, db⟩ := (show ObjOk X.prog X.w H s.heap b (.dK (dS ls)) from I.hok b _ eb)
  have la := KV.length ra
  have lb := KV.length rb
  rw [dS_len] at la lb
  refine PySem.W.keq_ne (knd := mixKind X.prog X.w) ya yb da db hu (fun _ => hits_num rb ra) (fin_bl I q ?_)
  rw [← la, ← lb]
  rfl
end
theorem iteFb {k : Bool} {a b : Prop} (hk : k = false) (h : b) : if k = true then a else b := by
  rw [if_neg (by rw [hk]; exact Bool.false_ne_true)]
  exact h
theorem iteTb {k : Bool} {a b : Prop} (hk : k = true) (h : a) : if k = true then a else b := by
  rw [if_pos hk]
  exact h
theorem neV_bl {x y : Bool} (h : x = y) : (!decide (V.bl x = V.bl y)) = false := by
  rw [h]
  simp
theorem eqV_int (i j : Int) : decide (V.int i = V.int j) = decide (i = j) := by
  rw [Bool.eq_iff_iff, decide_eq_true_eq, decide_eq_true_eq]
  exact ⟨fun z => V.int.inj z, fun z => by rw [z]⟩
theorem get?_ndm {d : Num} (nd : (d.map (·.1)).Nodup) {q : Str × Int} (h : q ∈ d) : get? d q.1 = some q.2 := by
  induction d with
  | nil => cases h
  | cons a d ih =>
    rw [List.map_cons, List.nodup_cons] at nd
    unfold get?
    rw [List.find?_cons]
    rcases List.mem_cons.mp h with rfl | h
    · rw [decide_eq_true rfl]
      rfl
    · have ne : ¬ a.1 = q.1 := fun z => nd.1 (List.mem_map.mpr ⟨q, h, z.symm⟩)
      rw [decide_eq_false ne]
      exact ih nd.2 h
theorem eqNum_refl {d : Num} (nd : (d.map (·.1)).Nodup) : eqNum d d = true := by
  unfold eqNum subNum
  rw [Bool.and_eq_true, List.all_eq_true]
  exact ⟨beq_self_eq_true _, fun q hq => decide_eq_true (get?_ndm nd hq)⟩
end Sk
/-! stores: objects of three fields -/
namespace Sk
open PySem PySem.Spec PyProof.Rows L2
/-- a field, K told -/
theorem peFld {X : Cx} {K : PySem.W.Frag} {o : Expr} {ta : TE} {f : Str} {pos : Pos} (e : X.K = K) (he : PE X o ta) (hb : attributeBase o f X.env (eval o X.env) = eval o X.env := by rfl) : PE X (.Attribute o f pos) (tFld K ta f) := by
  subst e
  exact pe_fld he hb
theorem NoTab.own {x : Addr} : NoTab (.own x) := ⟨(fun _ e => by cases e), (fun _ e => by cases e)⟩
/-- where the class stands -/
def stC (K : PySem.W.Frag) : Addr := He.ga K "Store"
/-- a store's fields -/
def stF (a b c : Addr) : List (Str × V) := [("entries", .ref a), ("stock_numbers", .ref b), ("split_numbers", .ref c)]
theorem stF_e (a b c : Addr) : (stF a b c).lookup ("entries" : Str) = some (V.ref a) := by rfl
theorem stF_s (a b c : Addr) : (stF a b c).lookup ("stock_numbers" : Str) = some (V.ref b) := by rfl
theorem stF_p (a b c : Addr) : (stF a b c).lookup ("split_numbers" : Str) = some (V.ref c) := by rfl
theorem stF_1 (a : Addr) : putF "entries" (.ref a) [] = ([("entries", .ref a)] : List (Str × V)) := by rfl
theorem stF_2 (a b : Addr) : putF "stock_numbers" (.ref b) ([("entries", .ref a)] : List (Str × V)) = ([("entries", .ref a), ("stock_numbers", .ref b)] : List (Str × V)) := by rfl
theorem stF_3 (a b c : Addr) : putF "split_numbers" (.ref c) ([("entries", .ref a), ("stock_numbers", .ref b)] : List (Str × V)) = stF a b c := by rfl
theorem stF_putP (a b c c' : Addr) : putF "split_numbers" (.ref c') (stF a b c) = stF a b c' := by rfl
theorem stF_putS (a b c b' : Addr) : putF "stock_numbers" (.ref b') (stF a b c) = stF a b' c := by rfl
theorem stF_len (a b c : Addr) : (stF a b c).length < 1000 := by show 3 < 1000; decide
theorem stF_no {a b c : Addr} {m : Str} (h : m ≠ "entries" ∧ m ≠ "stock_numbers" ∧ m ≠ "split_numbers") : (stF a b c).lookup m = none := by
  unfold stF
  simp only [List.lookup]
  have e1 : (m == ("entries" : Str)) = false := by simpa using h.1
  have e2 : (m == ("stock_numbers" : Str)) = false := by simpa using h.2.1
  have e3 : (m == ("split_numbers" : Str)) = false := by simpa using h.2.2
  rw [e1, e2, e3]
/-- a cell was otherwise at the start and at the end -/
theorem Gr.put2 {T : List (Addr × Str)} {H H' : Hp} {s : Addr} {o1 o2 : HO} (g : Gr T H H') (h : H s = some o1) (n1 : NoTab o1) (n2 : NoTab o2) : Gr T (upd H s o2) (upd H' s o2) := by
  have h' := g.at h n1
  refine ⟨fun b u e n => ?_, fun t => ?_⟩
  · by_cases hb : b = s
    · rw [hb, upd_same] at e
      rw [hb, upd_same]
      exact e
    · rw [upd_ne hb] at e ⊢
      exact g.ext b u e n
  · have t1 : LamX.Tabs T (upd (upd H s o2) s o1) := Tabs.upd t (upd_same (H := H) (a := s)) n2
    have e : upd (upd H s o2) s o1 = H := by
      funext b
      by_cases hb : b = s
      · rw [hb, upd_same, h]
      · rw [upd_ne hb, upd_ne hb]
    rw [e] at t1
    exact Tabs.upd (g.tab t1) h' n1
/-- a class made by keywords alone -/
structure MakK (P : Program) (w : World) (K : PySem.W.Frag) (mg : Str → Option Value) (base : Heap) (k : Nat) (x : Str) (C : Addr) (sp : Sp) (ks : List Str) (gV : List V → List V → List V) : Prop where
  ex : ∃ (f : Addr) (fd : FuncData) (ps : List Str) (g : List Value → List Value → List Value), Mk K C f ∧ FnOk P w K mg base CX0 k f fd ps sp ∧ mg x = some (.ref C) ∧ KBn K fd ps 1 ks g gV
section
variable {X : Cx} {k j : Nat} {C : Addr} {x : Str} {sp : Sp} {ks : List Str} {gV : List V → List V → List V} {tk : TA} {kws : List Keyword} {p pos : Pos}
theorem pe_mkK (c : MakK X.prog X.w X.K X.mg X.base k x C sp ks gV) (hr : Room j X.A) (hj : k + 1 ≤ j) (hg : Gl X x) (hkw : PK X kws tk) (hdb : (x == ("__debug__" : Str)) = false := by decide)
    (hall : (backToKw pos (keywordEach kws X.env)).all (·.1.isSome) = true := by rfl) (hks : (backToKw pos (keywordEach kws X.env)).filterMap (·.1) = ks := by rfl)
    (hpl : ((backTo pos (starEach [] X.env)).any (·.1) || (backToKw pos (keywordEach kws X.env)).any (·.1.isNone)) = false := by rfl) : PE X (.Call (.Name x p) [] kws pos) (tMakeN C 0 ks.length sp gV E0 tNil tk) := by
  obtain ⟨f, fd, ps, g, M, F, hm, hb⟩ := c.ex
  refine ⟨fun pins s σ H Q I h => ?_⟩
  refine wpAny_Call_Name_kw (ld_glob I hg hm ?_ hdb)
  refine PySem.W.callWith_KW0 (h₀ := X.base) I.ok.mod.kin M.kp hall ?_ hpl
  refine thn (hkw.run pos pins s σ H _ I h) fun ws s2 ⟨zs, H2, I2, rz, l1, l2, q2⟩ => ⟨I2.kIn, ?_⟩
  rw [hks]
  exact run_makeN M F (hr.mono hj) hb pass0 I2 .nil rz rfl l2 q2
end
end Sk
/-! == and != of own instances with an own __eq__: both answers -/
namespace PySem
open PySem.W Builtin
section
variable {prog : Program} {w : World} {A : Around} {E : Value → Shared → Prop} {s : Shared} {K : Frag} {x C L f : Addr} {h₀ : Heap} {m : Str → Option Value} {ox : Obj} {od : Option Obj} {name : Str} {b tb : Value}
theorem ifBound_KB {M : Model} {args : List Value} {id : String} {Q : Option Value → Shared → Prop} (X : K.In s.heap) (I : InstAt s.heap x ox C od) (hs : findIn K (.ref C) name = some (some (.builtin id))) (hb : ∀ self, bindSpecial (.builtin id) self = pure (.builtin id, [self]))
    (h : wpAny M A (call (.builtin id) (.ref x :: args)) (fun v => Q (some v)) E s) : wpAny M A (callSpecialIfBound? (.ref x) name args) Q E s := by
  simp only [callSpecialIfBound?, bindSpecialIfBound?]
  refine wpAny_holding (wpAny_bind (wpAny_bind (wpAny_bind (I.type.here ((looks_findIn X hs).here ?_)))))
  simp only [hb]
  refine wpAny_bind (wpAny_askSetting (wpAny_ite ?_))
  have fin : wpAny M A (call (.builtin id) ([.ref x] ++ args) >>= fun v => pure (some v)) Q E s := wpAny_bind (wpAny_mono h (fun v s' h' => wpAny_pure h') fun _ _ h' => h')
  split
  · exact wpAny_bind (wpAny_pure (wpAny_pure fin))
  · exact wpAny_tryCatch (wpAny_bind (wpAny_pure (wpAny_pure fin)))
theorem checkSlot_K {M : Model} {id owner n : String} {rest : List Value} {Q : Unit → Shared → Prop} (X : K.In s.heap) (I : InstAt s.heap x ox C od) (hk : builtinKind id = some .slot) (hs : splitId id = some (owner, n)) (ha : argsOk id ⟨.ref x :: rest, []⟩)
    (hO : subIn K (.ref C) (.type owner) = some true) (hq : Q () s) : wpAny M A (checkBuiltinCall id ⟨.ref x :: rest, []⟩) Q E s := by
  simp only [checkBuiltinCall, hk, hs]
  refine wpAny_bind ?_
  · have isI : Looks M s.heap (isInstance (.ref x) (.type owner)) true := by
      unfold isInstance
      exact I.type.andThen (looks_subIn X hO)
    refine wpAny_bind (I.type.here ((looks_subIn X hO).here ?_))
    repeat wp_step
    cases hsig : Manifest.signature? id with
    | none => exact wpAny_pure hq
    | some sig =>
      simp only [argsOk, hsig] at ha
      have h2 : Bind.checkArgs id sig ⟨.ref x :: rest, []⟩ = pure () := ha
      show wpAny M A (Bind.checkArgs id sig ⟨.ref x :: rest, []⟩) Q E _
      rw [h2]; exact wpAny_pure hq
theorem objNe_K {Q : Fin → Shared → Prop} (hu : A.units < cLine) (X : K.In s.heap) (I : InstAt s.heap x ox C od) (hs : findIn K (.ref C) "__eq__" = some (some (.ref f))) (hf : isFn K (.ref f) = true)
    (h : wpAny (model prog w) A (call (.ref f) [.ref x, b]) (fun v s' => ∃ r, v = .bool r ∧ Q (.done (.ret (.bool (!r)))) s') E s) :
    wpAny (model prog w) A (Builtin.«object.__ne__» ⟨[.ref x, b], []⟩) Q E s := by
  unfold Builtin.«object.__ne__»
  repeat (first
    | with_reducible refine wpAny_cRoomFor hu ?_
    | (refine wpAny_bind (m := callSpecialIfBound? (.ref x) (Str.ofString "__eq__") [b])
        (ifBound_K X I hs hf (wpAny_mono h (fun r s' hr => by
          obtain ⟨b, rfl, hq⟩ := hr
          repeat (first | exact hq | exact wpAny_pure hq | exact wpAny_truthy_bool hq | (refine wpAny_bind (m := truthy (.bool _)) (wpAny_truthy_bool ?_)) | wp_step)) fun _ _ e => e)))
    | wp_step)
theorem cmpNe_K {Q : Value → Shared → Prop} (hu : A.units + 1 < cLine) (X : K.In s.heap) (I : InstAt s.heap x ox C od) (hb : Looks (model prog w) s.heap (typeOf b) tb) (hn : notFirst K C tb = true)
    (hN : findIn K (.ref C) "__ne__" = some (some (.builtin "object.__ne__"))) (hO : subIn K (.ref C) (.type "object") = some true) (hs : findIn K (.ref C) "__eq__" = some (some (.ref f))) (hf : isFn K (.ref f) = true)
    (h : wpAny (model prog w) A.in1 (call (.ref f) [.ref x, b]) (fun v s' => ∃ r, v = .bool r ∧ Q (.bool (!r)) s') E s) : wpAny (model prog w) A (richCompare .NotEq (.ref x) b) Q E s := by
  have hu0 : A.units < cLine := Nat.lt_of_succ_lt hu
  have one : wpAny (model prog w) A (tryCompare (.ref x) "__ne__" b) (fun r s' => ∃ v, r = some v ∧ Q v s') E s := by
    unfold tryCompare
    refine wpAny_bind (ifBound_KB X I hN (F.slot_object_ne).bind (wpAny_call (codeAny_call_builtin (F.slot_object_ne).plain F.cmpEntry_ne
      (checkSlot_K X I F.cmpKind_ne F.cmpSplit_ne (F.cmpArgs_ne _ _) hO (objNe_K (A := A.in1) hu X I hs hf (wpAny_mono h (fun v s' hv => ?_) fun _ _ e => e))))))
    obtain ⟨b, rfl, hq⟩ := hv
    first | exact ⟨b, rfl, wpAny_pure ⟨_, rfl, hq⟩⟩ | exact ⟨b, rfl, wpAny_pure (wpAny_pure ⟨_, rfl, hq⟩)⟩ | exact ⟨b, rfl, ⟨_, rfl, hq⟩⟩
  unfold richCompare
  simp only [oneThing_ref]
  refine wpAny_holding (wpAny_bind (wpAny_cRoomFor hu0 ?_))
  rw [cmpInfo_NotEq]
  dsimp only
  refine wpAny_bind (I.type.here (wpAny_bind (hb.here ?_)))
  split
  · rename_i q
    have e : subIn K tb (.ref C) = some false := by
      rcases Bool.or_eq_true_iff.mp hn with e | e
      · rw [beq_iff_eq.mp e] at q; simp at q
      · exact beq_iff_eq.mp e
    refine wpAny_bind ((looks_subIn X e).here ?_)
    simp only [Bool.false_eq_true, if_false]
    refine wpAny_bind (wpAny_mono one (fun r s' z => ?_) fun _ _ e => e)
    obtain ⟨v, rfl, hq⟩ := z
    exact wpAny_pure hq
  · refine wpAny_bind (wpAny_pure ?_)
    simp only [Bool.false_eq_true, if_false]
    refine wpAny_bind (wpAny_mono one (fun r s' z => ?_) fun _ _ e => e)
    obtain ⟨v, rfl, hq⟩ := z
    exact wpAny_pure hq
end
end PySem
namespace Sk
open PySem PySem.Spec PyProof.Rows L2
/-- what != of an own class needs -/
structure NeK (K : PySem.W.Frag) (C : Addr) : Prop where
  ne : PySem.W.findIn K (.ref C) "__ne__" = some (some (.builtin "object.__ne__"))
  ob : PySem.W.subIn K (.ref C) (.type "object") = some true
def rEqI (C : Addr) (sp : Sp) : R2 := fun x y H Q => ∃ a b dx dy fs gs, x = .ref a ∧ y = .ref b ∧ H a = some (.ins C dx fs) ∧ H b = some (.ins C dy gs) ∧ sp [.ref a, .ref b] H (fun v H' => ∃ r, v = .bl r ∧ Q (.bl r) H') E0
def rNeI (C : Addr) (sp : Sp) : R2 := fun x y H Q => ∃ a b dx dy fs gs, x = .ref a ∧ y = .ref b ∧ H a = some (.ins C dx fs) ∧ H b = some (.ins C dy gs) ∧ sp [.ref a, .ref b] H (fun v H' => ∃ r, v = .bl r ∧ Q (.bl (!r)) H') E0
section
variable {X : Cx} {k : Nat} {C : Addr} {sp : Sp}
theorem call_eqI {A : Around} {f : Addr} {fd : FuncData} {ps : List Str} {pins : List (Addr × Obj)} {s : Shared} {σ : L2.St} {H : Hp} {a b : Addr} {R : Bool → Hp → Prop} (F : FnOk X.prog X.w X.K X.mg X.base CX0 k f fd ps sp) (hb : Binds X.K fd ps []) (sb : Sub X k A) (I : Inv X pins σ H s)
    (hsp : sp [.ref a, .ref b] H (fun v H' => ∃ r, v = .bl r ∧ R r H') E0) :
    wpAny (model X.prog X.w) A (call (.ref f) [.ref a, .ref b]) (fun v s' => ∃ r H', v = .bool r ∧ Inv X pins σ H' s' ∧ R r H') X.xe s := by
  have e0 : Env0 X.prog X.w X.K X.mg X.base A X.stack s H := by
    have e := I.env0
    exact ⟨by rw [sb.fr]; exact e.frames, e.mod, e.bs, e.bsz, e.funs, e.frf, e.hok, e.bare⟩
  have hl := F.len _ _ _ _ hsp
  have r2 : Vals [V.ref a, V.ref b] [Value.ref a, Value.ref b] := .cons rfl (.cons rfl .nil)
  refine wpAny_call (codeAny_mono (F.run A X.stack s H ⟨[.ref a, .ref b], []⟩ [.ref a, .ref b] [.ref a, .ref b] _ E0 sb.room e0 (by
    have := hb s [.ref a, .ref b] I.kIn (by simpa using hl)
    simpa using this) r2 hsp) fun r s' hq => ?_)
  cases r with
  | error e => exact pass0 pins σ H s e s' I hq
  | ok fl =>
    cases fl with
    | ret w =>
      obtain ⟨z, H', I', rz, r, ez, q⟩ := I.after hq
      subst ez
      cases rz
      exact ⟨r, H', rfl, I', q⟩
    | next => exact False.elim hq
    | brk => exact False.elim hq
    | cont => exact False.elim hq
theorem op_eqI {j : Nat} (c : C8.Met X.prog X.w X.K X.mg X.base k C "__eq__" sp []) (hr : Room j X.A) (hj : k ≤ j) : OpR X (compareOp .Eq) (rEqI C sp) := by
  intro pins s σ H x y v u Q I rx ry hq
  obtain ⟨f, fd, ps, ds, hc, hm, F, hb, d⟩ := c.ex
  cases d
  obtain ⟨a, b, dx, dy, fs, gs, rfl, rfl, ha, hb', hsp⟩ := hq
  cases rx
  cases ry
  obtain ⟨mA, J, _⟩ := ins_get I.hok ha
  obtain ⟨mB, J', _⟩ := ins_get I.hok hb'
  obtain ⟨od, J, _⟩ := J.look
  obtain ⟨od', J', _⟩ := J'.look
  obtain ⟨m, hF⟩ := I.fr
  have sb : Sub X k X.A := ⟨hr.mono hj, rfl⟩
  show wpAny (model X.prog X.w) X.A (richCompare .Eq (.ref a) (.ref b)) (EP X pins σ Q) X.xe s
  refine PySem.W.cmp_K (op := .Eq) (tb := .ref C) sb.room.units0 hF I.ok.mod.kin J J'.type (by simp [PySem.W.notFirst]) hm.at_ hm.fn ?_
  refine wpAny_mono (call_eqI F hb sb I hsp) (fun v s' z => ?_) fun _ _ x => x
  obtain ⟨r, H', rfl, I', q⟩ := z
  exact ⟨.bl r, H', I', rfl, q⟩
theorem op_neI {j : Nat} (c : C8.Met X.prog X.w X.K X.mg X.base k C "__eq__" sp []) (n : NeK X.K C) (hr : Room j X.A) (hj : k + 1 ≤ j) : OpR X (compareOp .NotEq) (rNeI C sp) := by
  intro pins s σ H x y v u Q I rx ry hq
  obtain ⟨f, fd, ps, ds, hc, hm, F, hb, d⟩ := c.ex
  cases d
  obtain ⟨a, b, dx, dy, fs, gs, rfl, rfl, ha, hb', hsp⟩ := hq
  cases rx
  cases ry
  obtain ⟨mA, J, _⟩ := ins_get I.hok ha
  obtain ⟨mB, J', _⟩ := ins_get I.hok hb'
  obtain ⟨od, J, _⟩ := J.look
  obtain ⟨od', J', _⟩ := J'.look
  have sb : Sub X (k + 1) X.A := ⟨hr.mono hj, rfl⟩
  show wpAny (model X.prog X.w) X.A (richCompare .NotEq (.ref a) (.ref b)) (EP X pins σ Q) X.xe s
  refine cmpNe_K (tb := .ref C) ?_ I.kIn J J'.type (by simp [PySem.W.notFirst]) n.ne n.ob hm.at_ hm.fn ?_
  · have := hr.units
    omega
  refine wpAny_mono (call_eqI F hb sb.in1 I hsp) (fun v s' z => ?_) fun _ _ x => x
  obtain ⟨r, H', rfl, I', q⟩ := z
  exact ⟨r, rfl, .bl (!r), H', I', rfl, q⟩
end
/-- a method that is called by keywords alone -/
structure MetK (P : Program) (w : World) (K : PySem.W.Frag) (mg : Str → Option Value) (base : Heap) (k : Nat) (C : Addr) (m : Str) (sp : Sp) (ks : List Str) (gV : List V → List V → List V) : Prop where
  ex : ∃ (f : Addr) (fd : FuncData) (ps : List Str) (g : List Value → List Value → List Value), Cls K C ∧ Meth K C m f ∧ FnOk P w K mg base CX0 k f fd ps sp ∧ KBn K fd ps 1 ks g gV
def tMethK (C : Addr) (m : Str) (n : Nat) (sp : Sp) (gV : List V → List V → List V) (ta : TE) (tk : TA) : TE := fun σ H Q => ta σ H fun x H1 => ∃ a dx fs, x = .ref a ∧ H1 a = some (.ins C dx fs) ∧ fs.lookup m = none ∧
  tk σ H1 fun zs H2 => zs.length = n ∧ sp (gV [x] zs) H2 Q E0
section
variable {X : Cx} {k j : Nat} {C : Addr} {m : Str} {sp : Sp} {ks : List Str} {gV : List V → List V → List V} {o : Expr} {ta : TE} {tk : TA} {kws : List Keyword} {pos apos : Pos}
theorem pe_mtK {pl : Sem Bool} (c : MetK X.prog X.w X.K X.mg X.base k C m sp ks gV) (hr : Room j X.A) (hj : k ≤ j) (he : PE X o ta) (hkw : PK X kws tk)
    (hall : (backToKw pos (keywordEach kws X.env)).all (·.1.isSome) = true := by rfl) (hks : (backToKw pos (keywordEach kws X.env)).filterMap (·.1) = ks := by rfl)
    (hpl : ((backTo pos (starEach [] X.env)).any (·.1) || (backToKw pos (keywordEach kws X.env)).any (·.1.isNone)) = false := by rfl)
    (ht : eval (.Call (.Attribute o m apos) [] kws pos) X.env = (do
      let ov ← eval o X.env
      standAt apos.atName
      let (f, first) ← holding [ov] (getMethod ov m pl)
      callWith pos f first (backTo pos (starEach [] X.env)) (backToKw pos (keywordEach kws X.env))) := by rfl) :
    PE X (.Call (.Attribute o m apos) [] kws pos) (tMethK C m ks.length sp gV ta tk) := by
  obtain ⟨f, fd, ps, g, hc, hm, F, hb⟩ := c.ex
  refine ⟨fun pins s σ H Q I h => ?_⟩
  refine PySem.W.methodCall_KW (pl := pl) (thn (he.run pins s σ H _ I h) fun u s1 ⟨x, H1, I1, rx, a, dx, fs, ex, ea, l, q⟩ => ?_) ht
  subst ex
  obtain rfl : u = Value.ref a := rx
  refine getmeth_ok I1 ea hc hm l ?_
  refine PySem.W.callWith_KW0 (first := [.ref a]) (h₀ := X.base) I.ok.mod.kin hm.kp hall ?_ hpl
  refine thn (hkw.run pos pins s1 σ H1 _ I1 q) fun ws s2 ⟨zs, H2, I2, rz, l2, q2⟩ => ⟨I2.kIn, ?_⟩
  rw [hks]
  exact run_fnN (us := [.ref a]) (vs := [.ref a]) F (hr.mono hj) hb pass0 I2 (.cons rfl .nil) rz rfl l2 q2
end
/-- l.count(i), ints -/
def rCountI : V → List V → Hp → VK → Prop := fun x xs H Q => ∃ (a : Addr) (ns : List Int) (i : Int), x = .ref a ∧ xs = [.int i] ∧ H a = some (.lst (ns.map V.int)) ∧ Q (.int (ns.count i : Nat)) H
theorem mt_countI {X : Cx} : MtR X "list.count" rCountI := by
  intro pins s σ H x xs v us Q I rx rxs h
  obtain ⟨a, ns, i, rfl, rfl, ha, q⟩ := h
  cases rx
  cases rxs with
  | cons ry rt =>
    cases rt
    obtain ⟨t, rfl⟩ := (show ∃ t, _ = Value.int i t from ry)
    obtain ⟨hz, its, n, rv, hob⟩ := I.hok a _ ha
    exact PyProof.Rows.count_list_ints ⟨_, hob, rfl, _, rfl⟩ rv.ints ⟨.int (ns.count i : Nat), H, I.tok _, ⟨_, rfl⟩, q⟩
end Sk
/-! d | e: a new dict -/
namespace Sk
open PySem PySem.Spec PyProof.Rows L2
section
variable {P : Program} {w : World}
/-- a copy, its heap -/
theorem wp_copyOf (knd : KeyKind P w Key) {A : Around} {E : Value → Shared → Prop} {s : Shared} {nm : String} {a : Addr} {kvs : List (Key × Value)} {Q : Value → Shared → Prop} (ha : (a == sysModules) = false) (hm : s.heap.DictOf knd a kvs) (hz : kvs.length ≤ sizeLine)
    (q : ∀ es : Array DictEntry, Heap.DictOf knd (s.heap.push { cls := .type "dict", data := .dict es }) s.heap.objs.size kvs → Q (.ref s.heap.objs.size) { s with heap := s.heap.push { cls := .type "dict", data := .dict es } }) :
    wpAny (model P w) A (Builtin.Dict.copyOf nm (.ref a)) Q E s := by
  obtain ⟨o, es, ep, ho, hc, hdat, hk, hp, hn⟩ := id hm
  have n0 : ¬ ((a == sysModules) = true) := by rw [ha]; exact Bool.false_ne_true
  have len : es.size = kvs.length := by
    rw [← hp.length]
    exact Array.length_toList.symm
  have laid : ∀ es' : Array DictEntry, es' = es → Q (.ref s.heap.objs.size) { s with heap := s.heap.push { cls := .type "dict", data := .dict es' } } := fun es' e => q es' (by
    rw [e]
    exact ⟨_, es, 0, Heap.get?_push_size _ rfl, ⟨rfl, rfl, rfl⟩, rfl, hk, hp, hn⟩)
  unfold Builtin.Dict.copyOf
  refine wpAny_bind (wpAny_pure ?_)
  unfold Builtin.Dict.showsAll
  rw [if_neg n0]
  refine wpAny_bind (wpAny_pure (wpAny_bind (wpAny_dictEntries ho hdat ?_)))
  cases c : es.isEmpty with
  | true =>
    rw [if_pos rfl]
    exact wpAny_bind (wpAny_rule (wpAny_newObj_type (laid #[] (Array.isEmpty_iff.mp c).symm)))
  | false =>
    rw [if_neg Bool.false_ne_true]
    refine wpAny_bind ?_
    unfold Builtin.Dict.readDirectly
    refine wpAny_bind (wpAny_isInstance hm.typeIs isSubtype_dict_dict ?_)
    simp only [Bool.not_true, Bool.false_eq_true, if_false]
    refine wpAny_bind (wpAny_specialOf hm.typeIs F.slot_dict_iter.lookup (wpAny_pure ?_))
    simp only [beq_self_eq_true, if_true]
    exact wpAny_bind (wpAny_entriesForEmpty (knd := knd) ho hdat hk (wpAny_newObj_type (laid es rfl) (show es.size ≤ sizeLine + 1 by omega)))
theorem meets_or (knd : KeyKind P w Key) (a b : Addr) (ha : (a == sysModules) = false) (hb : (b == sysModules) = false) :
    MeetsIn P w (Builtin.«dict.__or__» ⟨[.ref a, .ref b], []⟩) (fun A R s => ∃ ka kb, s.heap.DictOf knd a ka ∧ s.heap.DictOf knd b kb ∧ ka.length + kb.length ≤ sizeLine ∧
      ∀ h' : Heap, h'.DictOf knd s.heap.objs.size (merged ka kb) → (∀ c o, s.heap.get? c = some o → h'.get? c = some o) → R (.ok (.ret (.ref s.heap.objs.size))) { s with heap := h' }) :=
  .of_wp fun A R s ⟨ka, kb, da, db, hz, q⟩ => by
    unfold Builtin.«dict.__or__»
    refine wpAny_bind ?_
    unfold Builtin.Dict.dictSlotArgs
    refine wpAny_bind (wpAny_notOrdered_dict da.typeIs ?_)
    show wpAny _ _ (pure (Value.ref a, Value.ref b)) _ _ s
    refine wpAny_pure ?_
    refine wpAny_bind ?_
    unfold andM
    refine wpAny_bind (wpAny_isInstance da.typeIs isSubtype_dict_dict ?_)
    show wpAny _ _ (isInstance (Value.ref b) (Value.type "dict")) _ _ s
    refine wpAny_isInstance db.typeIs isSubtype_dict_dict ?_
    rw [if_neg (by decide)]
    refine wpAny_bind (wp_copyOf knd ha da (by omega) fun es dn => ?_)
    have gt : ∀ c o, s.heap.get? c = some o → (s.heap.push { cls := .type "dict", data := .dict es }).get? c = some o := fun c o e => Heap.get?_push_of_some _ e
    have ne : s.heap.objs.size ≠ b := by
      obtain ⟨o, _, _, ho, _⟩ := db
      exact Nat.ne_of_gt (Heap.lt_size ho)
    have db' : Heap.DictOf knd (s.heap.push { cls := .type "dict", data := .dict es }) b kb := db.push _
    refine wpAny_bind (wpAny_pure (wpAny_holding ?_))
    unfold Builtin.Dict.updateFrom
    refine wpAny_bind (wpAny_typeOf db'.typeIs ?_)
    rw [if_neg (by decide)]
    refine wpAny_bind ?_
    unfold Builtin.Dict.merge
    refine wpAny_bind ?_
    unfold Builtin.Dict.readDirectly
    refine wpAny_bind (wpAny_isInstance db'.typeIs isSubtype_dict_dict ?_)
    simp only [Bool.not_true, Bool.false_eq_true, if_false]
    refine wpAny_bind (wpAny_specialOf db'.typeIs F.slot_dict_iter.lookup (wpAny_pure ?_))
    simp only [beq_self_eq_true, if_true]
    refine wpAny_bind (wpAny_pure (wpAny_mergeDict (hsz := hz) ne hb dn db' fun h' dm _ same => ?_))
    refine wpAny_bind (wpAny_pure (wpAny_pure ⟨_, rfl, q h' dm fun c o e => ?_⟩))
    have c1 : c ≠ s.heap.objs.size := Nat.ne_of_lt (Heap.lt_size e)
    rw [same.2 c c1]
    exact gt c o e
end
section
variable {X : Cx}
/-- d | e -/
def rOrD : R2 := fun x y H Q => ∃ (a b : Addr) (ks ls : List (Key × V)), x = .ref a ∧ y = .ref b ∧ Rd H a (.dK ks) ∧ Rd H b (.dK ls) ∧ ks.length + ls.length ≤ sizeLine ∧ ∀ p, H p = none → Q (.ref p) (upd H p (.dK (mergeK ks ls)))
theorem op_orD : OpR X (binaryOp .BitOr) rOrD := by
  intro pins s σ H x y v u Q I rx ry h
  obtain ⟨a, b, ks, ls, rfl, rfl, ea, eb, hz, q⟩ := h
  obtain rfl : v = Value.ref a := rx
  obtain rfl : u = Value.ref b := ry
  obtain ⟨z1, ya, va, ra, da⟩ := dk_rd I.hok ea
  obtain ⟨z2, yb, vb, rb, db⟩ := dk_rd I.hok eb
  have la := KV.length ra
  have lb := KV.length rb
  refine wpAny_binaryOp_same (op := .BitOr) da.typeIs db.typeIs F.fills_dict_or F.slot_dict_or (call_meetsIn F.slot_dict_or da.typeIs F.entry_dict_or (F.args_dict_or_2 _ _) (meets_or (mixKind X.prog X.w) a b ya yb) ⟨va, vb, da, db, by omega, fun h' dm old => ?_⟩)
  have hm : (s.heap.objs.size == sysModules) = false := beq_eq_false_iff_ne.mpr (Nat.ne_of_gt I.big)
  refine ⟨fun z => (by cases z), .ref s.heap.objs.size, upd H s.heap.objs.size (.dK (mergeK ks ls)), I.laid (t' := s.toks) (fun c u e => old c u e) (Nat.le_refl _) (show ObjOk X.prog X.w _ _ _ (.dK (mergeK ks ls)) from ⟨?_, hm, _, KV.merge rb ra, dm⟩), rfl, q _ (I.hok.fresh (Nat.le_refl _))⟩
  have l1 := KV.length (KV.merge rb ra)
  have l2 := merged_length_le va vb
  omega
end
/-- the merge with one name -/
theorem mergeK_one (d : Num) (x : Str) (i : Int) : mergeK (dS d) [(Sum.inr x, V.int i)] = dS (put d x i) := by
  show putK (dS d) (Sum.inr x) (V.int i) = _
  rw [putK_dS]
end Sk
/-! x or y by truth, K told -/
namespace Sk
open PySem PySem.Spec PyProof.Rows L2
theorem peOrT {X : Cx} {K : PySem.W.Frag} {a b : Expr} {ta tb : TE} {rest : List Expr} {pos : Pos} (e : X.K = K) (ha : PE X a ta) (hb : PE X (.BoolOp .Or (b :: rest) pos) tb) : PE X (.BoolOp .Or (a :: b :: rest) pos) (tOrT K ta tb) := by
  subst e
  exact pe_orT ha hb
end Sk
/-! the end of a law that asks for repr of lists: the promise of `law` is given where no repr is under way -/
namespace Sk
open PySem PySem.Spec PyProof.Rows L2
/-- what a function keeps when it is called with no repr under way -/
def FnG (P : Program) (w : World) (K : PySem.W.Frag) (mg : Str → Option Value) (base : Heap) (k : Nat) (f : Addr) (fd : FuncData) (ps : List Str) (sp : Sp) : Prop :=
  ∀ (A : Around) (outer : List Env) (s : Shared) (H : Hp) (args : Args) (us : List Value) (vs : List V) (Q : VK) (E : XK), A.guards = some [] → Room k A → Env0 P w K mg base A outer s H → BindsTo s fd args (ps.zip us) → Vals vs us → sp vs H Q E →
    codeAny (model P w) A (.call (.ref f) args) (CR CX0 outer P w H s Q E) s
section
variable {P : Program} {w : World} {K : PySem.W.Frag} {mg : Str → Option Value} {base : Heap}
theorem fnG_of {x qual : Str} {params : Arguments} {body : List Stmt} {scope : Scope} {f : Addr} {fd : FuncData} {N ps : List Str} {k : Nat} {sp : Sp} (F : FunD K x qual params body scope [] [] f fd) (S : FnScope N ps scope) (len : ∀ vs H Q E, sp vs H Q E → vs.length = ps.length)
    (hbody : ∀ (cdv : Value) (A : Around) (outer : List Env) (s : Shared) (H : Hp) (vs : List V) (Q : VK) (E : XK), A.guards = some [] → Room k (A.deeper (envOfC qual scope s.heap.objs.size f cdv)) → sp vs H Q E →
      ∃ t, PSs (cxOf CX0 P w K mg base N qual scope f cdv A outer s H E) body t ∧ t { nx := fun _ H' => Q .non H', rt := Q } (L2.start N vs) H) : FnG P w K mg base (k + 1) f fd ps sp := by
  obtain ⟨oc, od, dV, kV, doc, pm, an, cdv, ct, osl, rfl, lk, hcd, _, _⟩ := F.ex
  intro A outer s H args us vs Q E hg hr e0 hb hv hsp
  have up : ∀ b o, base.get? b = some o → s.heap.get? b = some o := fun b o e => (e0.bs b o e).1
  have kin : K.In s.heap := e0.mod.kin.keeps up
  have cells : ∀ q ∈ ps.zip us, scope.names.lookup q.1 = some .local ∨ (scope.names.lookup q.1 = some .cell ∧ ((cellsFrom (s.heap.objs.size + 1) scope.names []).lookup q.1).isSome = true) := by
    rintro ⟨y, v⟩ hq
    exact (S.par y (List.of_mem_zip hq).1).imp id fun z => ⟨z, PySem.W.cellsFrom_some _ _ _ (.inl z)⟩
  refine codeAny_call_function hr.depth (kin _ _ lk) rfl S.co S.gen rfl (PySem.W.codeRec_of kin hcd) (hb _ _ _ _ ?_)
  refine wpAny_newFunctionEnv_cells S.kind cells fun env he s1 x => ?_
  subst he
  obtain ⟨t, ht, hq⟩ := hbody cdv A outer s H vs Q E hg (hr.deeper _) hsp
  have J := inv_start S hr.hd e0 (len _ _ _ _ hsp) hv x (CX := CX0) (E := E)
  refine ⟨(e0.mod.nolimit.keeps up).keeps x.toInCall.keep, codeAny_func (wpAny_mono (ht.run [] s1 (L2.start N vs) H _ J hq) (fun fl s' hs => ?_) fun _ _ hs => hs)⟩
  cases fl with
  | ret u =>
    obtain ⟨v, σ', H', J', rv, q⟩ := hs
    exact ⟨v, H', J'.os, J'.bare, J'.base, J'.hok, rv, q⟩
  | next =>
    obtain ⟨σ', H', J', q⟩ := hs
    exact ⟨V.non, H', J'.os, J'.bare, J'.base, J'.hok, rfl, q⟩
  | brk =>
    obtain ⟨_, _, _, q⟩ := hs
    exact False.elim q
  | cont =>
    obtain ⟨_, _, _, q⟩ := hs
    exact False.elim q
end
/-! ### the start -/
/-- what is tracked when the law is called: the script (if it is not in K), the empty tables -/
def startH (K : PySem.W.Frag) (a : Addr) (o : Obj) (xs : List V) (ts : List Addr) : Hp := fun b => if b = a ∧ K.lookup a = none then some (.frz o (.lst xs)) else if b ∈ ts then some (.tbl #[]) else none
section
variable {P : Program} {w : World} {K : PySem.W.Frag} {mg mb : Str → Option Value} {k : Nat} {fa a : Addr} {cs : List (Addr × Addr)} {fd : FuncData} {x : Str} {sp : Sp} {s₁ : Shared} {vs : List Value} {ns : List Int}
theorem law_callG (KX : K.In s₁.heap) (hns : s₁.heap.Ns mainGlobals mg) (hb : s₁.heap.Ns builtinsNs mb) (hbb : ∀ x : Str, x ≠ "__name__" → mb x = bootBuiltins x) (hlim : s₁.heap.NoLimit) (hg : s₁.gens = #[])
    (hT : ∀ p ∈ cs, s₁.heap.get? p.2 = some { cls := .none, data := .fields #[] }) (nT : ∀ p ∈ cs, K.lookup p.2 = none) (C : ∀ p ∈ cs, PySem.W.CodeHd s₁.heap p.1 p.2)
    (hbm : ∃ (bm : Addr) (ob : Obj), mg "__builtins__" = some (.ref bm) ∧ bm ≠ builtinsNs ∧ s₁.heap.get? bm = some ob ∧ ob.cls = .type "module" ∧ ob.dict = some builtinsNs ∧ ob.data = .plain)
    (ha : s₁.heap.get? a = some { cls := .type "list", data := .seq vs.toArray }) (hi : IntsAre vs ns) (hl : ns.length ≤ sizeLine) (hr : Room k callerA)
    (F : ∀ base : Heap, K.In base → base.Ns mainGlobals mg → (∀ p ∈ cs, LamX.TabB base mg p.1 p.2) → FnG P w K mg base k fa fd [x] sp) (hbind : ∀ (s : Shared) (u : Value), BindsTo s fd ⟨[u], []⟩ [(x, u)])
    (hsp : ∀ H : Hp, (∀ p ∈ cs, H p.2 = some (.tbl #[])) → (∀ b, H b = none ∨ (∃ o xs, H b = some (.frz o (.lst xs))) ∨ H b = some (.tbl #[])) → SqL K H a (ns.map V.int) → sp [.ref a] H (fun v _ => v = .bl true) fun _ _ _ => False) :
    codeAny (model P w) callerA (.call (.ref fa) ⟨[.ref a], []⟩) (fun r s' => r = .ok (.ret (.bool true)) ∧ OldK s₁.heap s'.heap ∧ s'.os = s₁.os ∧ AllBare s'.gens) s₁ := by
  let O : Obj := { cls := .type "list", data := .seq vs.toArray }
  let ts := cs.map (·.2)
  let H := startH K a O (ns.map V.int) ts
  have tab : ∀ b ∈ ts, s₁.heap.get? b = some { cls := .none, data := .fields #[] } := fun b hb => by
    obtain ⟨p, hp, rfl⟩ := List.mem_map.mp hb
    exact hT p hp
  have an : a ∉ ts := fun z => by
    have e := tab a z
    rw [ha] at e
    cases e
  -- what stands at a place
  have look : ∀ b, (b = a ∧ K.lookup a = none ∧ H b = some (.frz O (.lst (ns.map V.int)))) ∨ (b ∈ ts ∧ H b = some (.tbl #[])) ∨ (H b = none ∧ b ∉ ts ∧ (b = a → K.lookup a ≠ none)) := fun b => by
    by_cases h1 : b = a ∧ K.lookup a = none
    · exact .inl ⟨h1.1, h1.2, if_pos h1⟩
    · by_cases h2 : b ∈ ts
      · exact .inr (.inl ⟨h2, (if_neg h1).trans (if_pos h2)⟩)
      · exact .inr (.inr ⟨(if_neg h1).trans (if_neg h2), h2, fun z n => h1 ⟨z, n⟩⟩)
  have ofTab : ∀ p ∈ cs, H p.2 = some (.tbl #[]) := fun p hp => by
    have hm : p.2 ∈ ts := List.mem_map.mpr ⟨p, hp, rfl⟩
    rcases look p.2 with ⟨e, _⟩ | ⟨_, q⟩ | ⟨_, q, _⟩
    · exact absurd (e ▸ hm) an
    · exact q
    · exact absurd hm q
  -- other objects are not tracked
  have free : ∀ {b : Addr} {o : Obj}, s₁.heap.get? b = some o → (∀ us n, o.data ≠ .seq us n) → o.data ≠ .fields #[] → H b = none := fun {b o} e h1 h2 => by
    rcases look b with ⟨z, _⟩ | ⟨z, _⟩ | ⟨q, _⟩
    · rw [z, ha] at e
      cases e
      exact absurd rfl (h1 _ _)
    · rw [tab b z] at e
      cases e
      exact absurd rfl h2
    · exact q
  have nsUp : ∀ {b : Addr} {m : Str → Option Value}, s₁.heap.Ns b m → (hidT s₁.heap H).Ns b m := fun {b m} ⟨o, es, ep, e, d, r⟩ =>
    ⟨o, es, ep, hidT_get e (free e (fun us n z => by rw [d] at z; cases z) fun z => by rw [d] at z; cases z), d, r⟩
  have kUp : K.In (hidT s₁.heap H) := fun b o e => hidT_get (KX b o e) (by
    rcases look b with ⟨z1, z2, _⟩ | ⟨z, _⟩ | ⟨q, _⟩
    · rw [z1, z2] at e
      cases e
    · obtain ⟨p, hp, rfl⟩ := List.mem_map.mp z
      rw [nT p hp] at e
      cases e
    · exact q)
  have md : L2.Mod K mg (hidT s₁.heap H) := ⟨kUp, nsUp hns, ⟨mb, nsUp hb, hbb⟩, let ⟨mc, h1, h2⟩ := hlim; ⟨mc, nsUp h1, h2⟩⟩
  have tb : ∀ p ∈ cs, LamX.TabB (hidT s₁.heap H) mg p.1 p.2 := fun p hp => by
    obtain ⟨og, _, _, eg, dg, _⟩ := hns
    refine ⟨?_, ?_, fun z => ?_⟩
    · obtain ⟨o, us, file, tf, flags, tg, inF, text, tt, e1, r1, r2, r3, rest⟩ := C p hp
      refine ⟨o, us, file, tf, flags, tg, inF, text, tt, hidT_get e1 (free e1 (fun vs n z => by rw [r2] at z; cases z) fun z => ?_), r1, r2, r3, rest⟩
      rw [r2] at z
      cases z
      simp at r3
    · obtain ⟨bm, ob, b1, b2, b3, b4, b5, b6⟩ := hbm
      refine ⟨bm, ob, b1, b2, fun q => ?_, fun q => ?_, hidT_get b3 (free b3 (fun us n z => by rw [b6] at z; cases z) fun z => by rw [b6] at z; cases z), b4, b5, b6⟩
      · rw [q, eg] at b3
        cases b3
        rw [dg] at b6
        cases b6
      · rw [q, hT p hp] at b3
        cases b3
        cases b6
    · rw [z, hT p hp] at eg
      cases eg
      cases dg
  have hok : HOk P w H s₁.heap := fun b u e => by
    rcases look b with ⟨z1, _, q⟩ | ⟨z, q⟩ | ⟨q, _⟩
    · rw [q] at e
      cases e
      rw [z1]
      exact ⟨ha, by rw [List.length_map]; exact hl, vs, _, vals_ints hi, ha⟩
    · rw [q] at e
      cases e
      exact tab b z
    · rw [q] at e
      cases e
  have hS : SqL K H a (ns.map V.int) := by
    cases hk : K.lookup a with
    | none => exact .inl (.inr ⟨O, if_pos ⟨rfl, hk⟩⟩)
    | some o =>
      have e := KX a o hk
      rw [ha] at e
      cases e
      exact .inr ⟨_, vs.toArray, _, hk, rfl, rfl, rfl, by rw [List.size_toArray, hi.length]; exact hl, by simpa using vals_ints hi⟩
  have e0 : Env0 P w K mg (hidT s₁.heap H) callerA [] s₁ H := ⟨rfl, md, fun b o e => of_hidT e, Nat.le_of_eq (hidT_size _ _), trivial, fun b hb => absurd (show b ∈ ([] : List Addr) from hb) (by simp), hok, .of_eq hg⟩
  have st : ∀ b, H b = none ∨ (∃ o xs, H b = some (.frz o (.lst xs))) ∨ H b = some (.tbl #[]) := fun b => by
    rcases look b with ⟨_, _, q⟩ | ⟨_, q⟩ | ⟨q, _⟩
    · exact .inr (.inl ⟨_, _, q⟩)
    · exact .inr (.inr q)
    · exact .inl q
  refine codeAny_mono (F _ kUp (nsUp hns) tb callerA [] s₁ H ⟨[.ref a], []⟩ [.ref a] [.ref a] _ _ rfl hr e0 (hbind s₁ (.ref a)) (.cons rfl .nil) (hsp H ofTab st hS)) fun r s' h => ?_
  match r, h with
  | .error e, h => exact False.elim h
  | .ok .next, h => exact False.elim h
  | .ok .brk, h => exact False.elim h
  | .ok .cont, h => exact False.elim h
  | .ok (.ret u), h =>
    obtain ⟨v, H', os, bare, un, hok', r', q⟩ := h
    obtain rfl : v = .bl true := q
    obtain rfl : u = Value.bool true := r'
    -- what became of each object
    have now : ∀ b o, s₁.heap.get? b = some o → (b ∉ ts ∧ s'.heap.get? b = some o) ∨ ∃ more : Array Value, b ∈ ts ∧ s'.heap.get? b = some { cls := .none, data := .fields more } := fun b o e => by
      rcases look b with ⟨z, _, q⟩ | ⟨z, q⟩ | ⟨q, z, _⟩
      · obtain ⟨e2, _⟩ := hok' b _ (un.frzs b O _ q)
        rw [z, ha] at e
        cases e
        exact .inl ⟨z ▸ an, e2⟩
      · obtain ⟨more, z2⟩ := un.tbls b #[] q
        exact .inr ⟨_, z, hok' b _ z2⟩
      · exact .inl ⟨z, un.keep b o e q (by intro y; exact absurd (show b ∈ ([] : List Addr) from y) (by simp)) (by simp)⟩
    refine ⟨rfl, ⟨fun b o e => ?_, fun b o e => ?_⟩, os, bare⟩
    · rcases now b o e with ⟨_, y⟩ | ⟨more, z, y⟩
      · exact .inl y
      · obtain ⟨p, hp, rfl⟩ := List.mem_map.mp z
        rw [hT p hp] at e
        cases e
        exact .inr (.inl ⟨((C p hp).tab (hT p hp)).isCodeTable, rfl, #[], more, rfl, by rw [Array.empty_append]; exact y⟩)
    · rcases now b o e with ⟨_, y⟩ | ⟨more, _, y⟩
      · exact ⟨o, y⟩
      · exact ⟨_, y⟩
end
/-! ### the law -/
/-- what is known of the law's promise at the head's heap h -/
def LawG (l : PySem.W.OpenLaw) (w : World) (K : PySem.W.Frag) (k n : Nat) (x : Str) (mg : Str → Option Value) (fa : Addr) (h : Heap) : Prop :=
  ∃ (fd : FuncData) (cs : List (Addr × Addr)) (sp : Sp), (∀ p ∈ cs, h.get? p.2 = some { cls := .none, data := .fields #[] }) ∧ (∀ p ∈ cs, K.lookup p.2 = none) ∧ (∀ p ∈ cs, PySem.W.CodeHd h p.1 p.2) ∧ (∀ (s : Shared) (u : Value), BindsTo s fd ⟨[u], []⟩ [(x, u)]) ∧
    (∀ (H : Hp) (a : Addr) (ns : List Int), ns.length ≤ n → (∀ z ∈ ns, Builtin.Int.intBits z ≤ 1048576) → (∀ p ∈ cs, H p.2 = some (.tbl #[])) → (∀ b, H b = none ∨ (∃ o xs, H b = some (.frz o (.lst xs))) ∨ H b = some (.tbl #[])) → SqL K H a (ns.map V.int) → sp [.ref a] H (fun v _ => v = .bl true) fun _ _ _ => False) ∧
    ∀ base : Heap, K.In base → base.Ns mainGlobals mg → (∀ p ∈ cs, LamX.TabB base mg p.1 p.2) → FnG l.prog w K mg base k fa fd [x] sp
theorem walk_ofG {l : PySem.W.OpenLaw} {n k : Nat} {q : Program} {loose : List Str} {XP : (Str → Option Value) → Heap → Prop} {YP : World → Heap → Prop} {d : DefRec} {x : Str}
    (hn : l.most = some n) (hn2 : n ≤ sizeLine) (hdf : d.params.defaults = []) (hr : Room k callerA)
    (F : ∀ (w : World) (mg : Str → Option Value) (fa : Addr) (h : Heap), YP w h → h.Ns mainGlobals mg → mg d.name = some (.ref fa) → ∃ K : PySem.W.Frag, K.In h ∧ LawG l w K k n x mg fa h) :
    PySem.W.WalkO q loose XP YP l.row.toRowW d [] (fun f vs => PySem.call f vs) := by
  refine Att.attach_callB hn hdf fun w s₀ s₁ mg mb fa o pm cd doc a vs ns G Y ho hd hcd hmg hobj hints hlen hbits hg => ?_
  obtain ⟨K, KX, fd, cs, sp, hT, nT, C, hb, hsp, hF⟩ := F w mg fa _ Y G.T.g hmg
  exact law_callG KX G.T.g G.T.b G.T.builtins G.T.nolimit hg hT nT C G.T.bmain hobj hints (Nat.le_trans hlen hn2) hr hF hb (fun H hH hst hS => hsp H a ns hlen hbits hH hst hS)
/-! ### from the head's facts -/
theorem lam_code {K : PySem.W.Frag} {x qual : Str} {params : Arguments} {body : List Stmt} {scope : Scope} {dvs : List V} {kws : List (Str × V)} {p : Str × Option Str} {fd : FuncData} (F : FunD K x qual params body scope dvs kws (He.fAd K p) fd) :
    ∀ (fd2 : FuncData) (oc : Value) (od : Option Addr) (osl : Array (Option Value)), K.lookup (He.fAd K p) = some ⟨oc, od, .func fd2, osl⟩ → fd2.code = .ref (He.codeOf K p) := by
  obtain ⟨oc, od, dV, kV, doc, pm, an, cdv, ct, osl, rfl, lk, hcd, _, _⟩ := F.ex
  obtain ⟨c, rfl⟩ := He.codeIn_ref hcd
  intro fd2 oc2 od2 osl2 lk2
  rw [lk] at lk2
  cases lk2
  rw [He.codeOf_eq lk rfl]
theorem tabs_start {H : Hp} {T : List (Addr × Str)} (h : ∀ p ∈ T, H p.1 = some (.tbl #[])) : LamX.Tabs T H := fun p hp => ⟨#[], h p hp, trivial, fun _ _ e => by cases e⟩
theorem Vals.getD {vs : List V} {us : List Value} (r : Vals vs us) (i : Nat) : RelV (vs.getD i .non) (us.getD i .none) := by
  cases h : vs[i]? with
  | none =>
    have h2 : us[i]? = none := by
      rw [List.getElem?_eq_none_iff] at h ⊢
      rw [← r.length]
      exact h
    rw [List.getD_eq_getElem?_getD, List.getD_eq_getElem?_getD, h, h2]
    rfl
  | some v =>
    obtain ⟨u, hu, ru⟩ := r.get h
    rw [List.getD_eq_getElem?_getD, List.getD_eq_getElem?_getD, h, hu]
    exact ru
/-- keywords, no defaults -/
theorem kbn_of {K : PySem.W.Frag} {x qual : Str} {params : Arguments} {body : List Stmt} {scope : Scope} {f : Addr} {fd : FuncData} {ps ks : List Str} {n : Nat} {g : List Value → List Value → List Value} {gV : List V → List V → List V} (F : FunD K x qual params body scope [] [] f fd)
    (h : ∀ (kV doc pm : Value) (an : Option Addr) (cdv ct : Value) (us ws : List Value), us.length = n → ws.length = ks.length → bindArgs (PySem.W.fnOf x qual params body scope .none kV doc pm an cdv ct) ⟨us, ks.zip ws⟩ = pure (ps.zip (g us ws)))
    (rel : ∀ {vs : List V} {us : List Value} {zs : List V} {ws : List Value}, Vals vs us → Vals zs ws → Vals (gV vs zs) (g us ws)) : KBn K fd ps n ks g gV := by
  obtain ⟨oc, od, dV, kV, doc, pm, an, cdv, ct, osl, rfl, lk, hcd, hD, hK⟩ := F.ex
  rcases hD with ⟨_, rfl⟩ | ⟨e, _⟩
  · exact ⟨fun s us ws _ l1 l2 => .of_eq (h kV doc pm an cdv ct us ws l1 l2), rel⟩
  · exact absurd rfl e
/-- the same for a def with defaults: each parameter is given -/
theorem kbn_ofD {K : PySem.W.Frag} {x qual : Str} {params : Arguments} {body : List Stmt} {scope : Scope} {dvs : List V} {f : Addr} {fd : FuncData} {ps ks : List Str} {n : Nat} {g : List Value → List Value → List Value} {gV : List V → List V → List V} (F : FunD K x qual params body scope dvs [] f fd) (hd : dvs ≠ [])
    (h : ∀ (T : Addr) (kV doc pm : Value) (an : Option Addr) (cdv ct : Value) (us its ws : List Value), us.length = n → its.length = dvs.length → ws.length = ks.length →
      ∃ k, bindArgs (PySem.W.fnOf x qual params body scope (.ref T) kV doc pm an cdv ct) ⟨us, ks.zip ws⟩ = seqItems? (.ref T) >>= k ∧ k (some its.toArray) = pure (ps.zip (g us ws)))
    (rel : ∀ {vs : List V} {us : List Value} {zs : List V} {ws : List Value}, Vals vs us → Vals zs ws → Vals (gV vs zs) (g us ws)) : KBn K fd ps n ks g gV := by
  obtain ⟨oc, od, dV, kV, doc, pm, an, cdv, ct, osl, rfl, lk, hcd, hD, hK⟩ := F.ex
  rcases hD with ⟨e, _⟩ | ⟨_, T, o, its, m, rfl, lT, oT, rT⟩
  · exact absurd e hd
  · refine ⟨fun s us ws X l1 l2 => ?_, rel⟩
    obtain ⟨k, e1, e2⟩ := h T kV doc pm an cdv ct us its ws l1 rT.length.symm l2
    refine BindsTo.of_looks fun M => ?_
    rw [e1]
    exact looks_items X lT oT (.of_pure e2)
end Sk
/-! a call of an own function whose promise holds where no repr is under way -/
namespace Sk
open PySem PySem.Spec PyProof.Rows L2
structure FnGx (P : Program) (w : World) (K : PySem.W.Frag) (mg : Str → Option Value) (base : Heap) (x : Str) (k : Nat) (ps : List Str) (sp : Sp) : Prop where
  ex : ∃ (f : Addr) (fd : FuncData), FnG P w K mg base k f fd ps sp ∧ (∀ vs H Q E, sp vs H Q E → vs.length = ps.length) ∧ mg x = some (.ref f) ∧ PySem.W.keepIn K (.ref f) = true ∧ Binds K fd ps []
section
variable {X : Cx} {x : Str} {k : Nat} {ps : List Str} {sp : Sp} {e : Expr} {es : List Expr} {t : TA} {p pos : Pos}
theorem pe_fnG (F : FnGx X.prog X.w X.K X.mg X.base x k ps sp) (hgd : X.A.guards = some []) (hr : Room k X.A) (ha : PA X (e :: es) t) (hg : Gl X x := by rfl) (hdb : (x == ("__debug__" : Str)) = false := by decide)
    (he : starEach (e :: es) X.env = (false, eval e X.env) :: starEach es X.env := by rfl) (hpl : (backTo pos (starEach es X.env)).any (·.1) = false := by rfl) : PE X (.Call (.Name x p) (e :: es) [] pos) (tCall sp [] E0 t) := by
  obtain ⟨f, fd, F1, hlen, hm, hk, hb⟩ := F.ex
  refine ⟨fun pins s σ H Q I h => ?_⟩
  refine wpAny_Call_Name_kw (ld_glob I hg hm ?_ hdb)
  refine PySem.W.callWith_K (h₀ := X.base) I.ok.mod.kin hk (thn (ha.run pos pins s σ H _ I h) fun us s1 ⟨vs, H1, I1, r, q⟩ => ⟨I1.kIn, ?_⟩) he hpl
  have r2 : Vals (vs ++ []) (us ++ []) := r.append .nil
  have hl : (us ++ []).length = ps.length := by rw [← r2.length]; exact hlen _ _ _ _ q
  refine wpAny_call (codeAny_mono (F1 X.A X.stack s1 H1 ⟨us, []⟩ (us ++ []) (vs ++ []) Q E0 hgd hr I1.env0 (hb s1 us I1.kIn hl) r2 q) fun r s' hq => ?_)
  cases r with
  | error e => exact (pass0 : Passes CX0 X E0) pins σ H1 s1 e s' I1 hq
  | ok fl =>
    cases fl with
    | ret u => exact I1.after hq
    | next => exact False.elim hq
    | brk => exact False.elim hq
    | cont => exact False.elim hq
end
end Sk
/-! d[k] as a part of a target -/
namespace Sk
open PySem PySem.Spec PyProof.Rows L2
def sSetD : TSet := fun o i v H Q => ∃ a H4, o = .ref a ∧ DPut H a i v H4 ∧ Q H4
theorem set_dict {X : Cx} (hu : X.A.units + 1 < cLine) : PSet X sSetD := by
  intro pins s σ H o i v ov iv u Q I ro ri rv h
  obtain ⟨a, H4, rfl, g, q⟩ := h
  obtain rfl : ov = Value.ref a := ro
  exact d_setItem hu I g ri rv fun s4 I4 => ⟨H4, I4, q⟩
/-! ### how often a truth value stands in a list -/
def isB (k : Bool) : Value → Bool
  | .bool b => b == k
  | _ => false
theorem bools_of : ∀ {bs : List Bool} {its : List Value}, Vals (bs.map V.bl) its → its = bs.map Value.bool
  | [], _, .nil => rfl
  | b :: bs, _, .cons h t => by
    rw [List.map_cons, ← bools_of t]
    congr 1
theorem isB_count (k : Bool) : ∀ bs : List Bool, (bs.map Value.bool).countP (isB k) = bs.count k
  | [] => rfl
  | b :: bs => by
    rw [List.map_cons, List.countP_cons, List.count_cons, isB_count k bs]
    rfl
def rCntB (K : PySem.W.Frag) : V → List V → Hp → VK → Prop := fun x xs H Q => ∃ (p : Addr) (bs : List Bool) (k : Bool), x = .ref p ∧ xs = [.bl k] ∧ SqL K H p (bs.map V.bl) ∧ Q (.int (bs.count k : Nat)) H
theorem mt_cntB {X : Cx} : MtR X "list.count" (rCntB X.K) := by
  intro pins s σ H x xs v us Q I rx rxs h
  obtain ⟨p, bs, k, rfl, rfl, hs, q⟩ := h
  cases rx
  obtain ⟨u, rfl, ru⟩ := rxs.one
  cases (show u = Value.bool k from ru)
  obtain ⟨its, rv, ⟨⟨cls, dd, data, sl⟩, n, ho, hc, hdn, hd⟩, hlen⟩ := I.list hs
  simp only at hc hd
  subst hc hd
  have hi := bools_of rv
  subst hi
  refine call_meets PySem.F.slot_list_count ⟨_, ho, rfl⟩ PySem.F.entry_list_count (PySem.F.args_list_count_2 _ _)
    (SeqAt.list_countAt p (bs.map Value.bool).toArray n dd sl (.bool k) (isB k)) ⟨ho, fun y hy => ?_, ?_⟩
  · have hy : y ∈ bs.map Value.bool := by simpa using hy
    obtain ⟨b, _, rfl⟩ := List.mem_map.mp hy
    exact SeqAt.EqAt.bool_bool b k
  have ec : (bs.map Value.bool).toArray.toList.countP (isB k) = bs.count k := isB_count k bs
  refine ⟨.int (bs.count k : Nat), H, I.tok _, ⟨s.toks, ?_⟩, q⟩
  show Value.int ((((bs.map Value.bool).toArray.toList.countP (isB k) : Nat)) : Int) s.toks = Value.int ((bs.count k : Nat) : Int) s.toks
  rw [ec]
end Sk
namespace Sk
open PySem PySem.Spec PyProof.Rows L2
def topS (i : Nat) : Stmt := PySem.Challenge.pw_splitstock_k60_whole_all_small_states.main.body.getD i (.Pass ⟨0, 0, 0, 0⟩)
abbrev FnP (K : PySem.W.Frag) (x : Str) (st : Stmt) (f : Addr) (fd : FuncData) : Prop := FunD K x x (defArgs st) (defBody st) (defScope st) [] [] f fd
structure Tx (K : PySem.W.Frag) (mg : Str → Option Value) : Prop where
  c_LETTERS : ∃ t, mg "LETTERS" = some (.str "abcdefghijklmnopqrstuvwxyz" t)
  c_MOST_LETTERS : ∃ t, mg "MOST_LETTERS" = some (.int 8 t)
  c_SPLIT : ∃ t, mg "SPLIT" = some (.str "split" t)
  c_UNDO : ∃ t, mg "UNDO" = some (.str "undo" t)
  n_ValueError : mg "ValueError" = none
  n_abs : mg "abs" = none
  n_all : mg "all" = none
  n_any : mg "any" = none
  n_bool : mg "bool" = none
  n_dict : mg "dict" = none
  n_enumerate : mg "enumerate" = none
  n_int : mg "int" = none
  n_isinstance : mg "isinstance" = none
  n_len : mg "len" = none
  n_list : mg "list" = none
  n_max : mg "max" = none
  n_min : mg "min" = none
  n_range : mg "range" = none
  n_repr : mg "repr" = none
  n_reversed : mg "reversed" = none
  n_set : mg "set" = none
  n_sorted : mg "sorted" = none
  n_str : mg "str" = none
  n_sum : mg "sum" = none
  n_tuple : mg "tuple" = none
  n_type : mg "type" = none
  n_zip : mg "zip" = none
  cl : Cls K (stC K)
  nE : NoAttr K (stC K) "entries"
  nS : NoAttr K (stC K) "stock_numbers"
  nP : NoAttr K (stC K) "split_numbers"
end Sk
namespace Sk
open PySem PySem.Spec PyProof.Rows L2
abbrev s_is_name : Stmt := topS 11
abbrev N_is_name : List Str := ["text", "sign"]
theorem sc_is_name : FnScope N_is_name ["text"] (defScope s_is_name) := ⟨rfl, rfl, rfl, by decide +kernel, rfl, by decide +kernel, by decide +kernel⟩
def letters : Str := "abcdefghijklmnopqrstuvwxyz"
/-- a name of one to eight small letters -/
def nameB (x : Str) : Bool := decide (1 ≤ x.length) && (decide (x.length ≤ 8) && x.cps.toList.all fun c => decide (c ∈ letters.cps.toList))
def sp_is_name (Tb : List (Addr × Str)) (K : PySem.W.Frag) : Sp := fun vs H Q _ => ∃ x : Str, vs = [.str x] ∧ x.length ≤ 1000000 ∧ ∀ H', Gr Tb H H' → Q (.bl (nameB x)) H'
section
variable {P : Program} {w : World} {K : PySem.W.Frag} {mg : Str → Option Value} {base : Heap} {Tb : List (Addr × Str)}
theorem ok_is_name {f : Addr} {fd : FuncData} (F : FnP K "is_name" s_is_name f fd) (T : Tx K mg) : FnOk P w K mg base CX0 1 f fd ["text"] (sp_is_name Tb K) := by
  refine F.ok sc_is_name (fun vs H Q E h => ?_) (fun cdv A outer s H vs Q E hr h => ?_)
  · obtain ⟨_, rfl, _⟩ := h
    rfl
  · obtain ⟨x, rfl, hz, k⟩ := h
    refine ⟨_, PSs.nox (pss_one (ps_ret (pe_and (pe_chain op_le op_le pe_int (pe_callB call_len_str (by rfl) T.n_len (by decide +kernel) (pa_cons (pv 0) pa_nil)) (pe_gi T.c_MOST_LETTERS)) (pe_one (pe_callB (crAll (K := K) rfl rfl) (by rfl) T.n_all (by decide +kernel) (pa_cons (pe_lc (own := [("sign", 1)]) (g := (gName 1)) (tt := tYes) rfl sc_is_name.nd (pi_str (pv 0)) (blkOk_by (N := N_is_name) (sc := (defScope s_is_name)) (by decide +kernel)) (fun _ _ _ _ _ => (pg_name (i := 1) sc_is_name.nd rfl (Or.inl rfl))) (fun _ _ _ _ _ => pts_nil) (fun _ _ _ _ _ => (pe_cmpR op_in_sign (pv 1) (pe_gs T.c_LETTERS) rfl))) pa_nil)))))), ?_⟩
    refine ⟨_, rfl, x, rfl, Nat.le_trans hz (by decide), _, _, rfl, rfl, _, rfl, ?_⟩
    have k0 : ∀ b : Bool, nameB x = b → Q (.bl b) H := fun b e => by
      rw [← e]
      exact k H (Gr.refl H)
    refine ite2 (fun h1 => ?_) (fun h1 => ⟨_, rfl, iteF (k0 false ?_)⟩)
    · refine ⟨_, _, rfl, rfl, _, rfl, ite2 (fun h2 => ?_) (fun h2 => k0 false ?_)⟩
      · refine rd_allIn (Tb := Tb) rfl rfl (by show 1 < 2; decide) hz fun H' g => ?_
        have e : (x.cps.toList.all fun c => decide (c ∈ letters.cps.toList)) = nameB x := by
          unfold nameB
          rw [decide_eq_true (show 1 ≤ x.length by have := of_decide_eq_true h1; omega), decide_eq_true (show x.length ≤ 8 by have := of_decide_eq_true h2; omega)]
          rfl
        show Q (.bl (x.cps.toList.all fun c => decide (c ∈ letters.cps.toList))) H'
        rw [e]
        exact k H' g
      · have : ¬ x.length ≤ 8 := fun z => h2 (decide_eq_true (show (x.length : Int) ≤ 8 by omega))
        unfold nameB
        rw [decide_eq_false this]
        simp
    · have : ¬ 1 ≤ x.length := fun z => h1 (decide_eq_true (show (1 : Int) ≤ x.length by omega))
      unfold nameB
      rw [decide_eq_false this]
      rfl
end
end Sk
namespace Sk
open PySem PySem.Spec PyProof.Rows L2
abbrev s_is_entry : Stmt := topS 12
abbrev N_is_entry : List Str := ["entry", "earlier_names", "weights", "name", "weight", "parts", "part"]
theorem sc_is_entry : FnScope N_is_entry ["entry", "earlier_names", "weights"] (defScope s_is_entry) := ⟨rfl, rfl, rfl, by decide +kernel, rfl, by decide +kernel, by decide +kernel⟩
/-- an entry is valid, given the names ahead and all weights -/
def entB (e : Ent) (ahead : List Str) (ws : Num) : Bool := nameB e.name && (!decide (e.name ∈ ahead) && (!decide (e.w < 1) && e.parts.all fun p => match get? ws p with | some w => decide (w < e.w) | none => false))
def sp_is_entry (Tb : List (Addr × Str)) (K : PySem.W.Frag) : Sp := fun vs H Q _ => ∃ (v : V) (e : Ent) (l d : Addr) (ahead : List Str) (ws : Num), vs = [v, .ref l, .ref d] ∧ EntAt H v e ∧ H l = some (.lst (ahead.map V.str)) ∧ H d = some (.dK (dS ws)) ∧ e.name.length ≤ 1000000 ∧ e.parts.length ≤ 1000000 ∧ ∀ H', Gr Tb H H' → Q (.bl (entB e ahead ws)) H'
theorem flat_strs (l : List Str) : (l.map V.str).all flatV = true := by
  rw [List.all_map]
  exact List.all_eq_true.mpr fun _ _ => rfl
theorem inV_strs (x : Str) (l : List Str) : inV (.str x) (l.map V.str) = decide (x ∈ l) := by
  unfold inV
  rw [List.any_map]
  induction l with
  | nil => rfl
  | cons y l ih =>
    rw [List.any_cons, ih]
    show (eqV (V.str y) (V.str x) || _) = _
    have : eqV (V.str y) (V.str x) = decide (y = x) := by
      unfold eqV
      rfl
    rw [this]
    by_cases e : x = y
    · subst e
      simp
    · have e2 : ¬ y = x := fun z => e z.symm
      simp [e, e2]
section
variable {P : Program} {w : World} {K : PySem.W.Frag} {mg : Str → Option Value} {base : Heap} {Tb : List (Addr × Str)}
theorem ok_is_entry {f : Addr} {fd : FuncData} (F : FnP K "is_entry" s_is_entry f fd) (T : Tx K mg) (G_is_name : Fn P w K mg base "is_name" 1 ["text"] (sp_is_name Tb K)) : FnOk P w K mg base CX0 2 f fd ["entry", "earlier_names", "weights"] (sp_is_entry Tb K) := by
  refine F.ok sc_is_entry (fun vs H Q E h => ?_) (fun cdv A outer s H vs Q E hr h => ?_)
  · obtain ⟨_, _, _, _, _, _, rfl, _⟩ := h
    rfl
  · obtain ⟨v, e, l, d, ahead, ws, rfl, ⟨t, lp, rfl, ht, hlp⟩, hl, hd, hz, hz2, k⟩ := h
    refine ⟨_, PSs.nox (pss_cons (ps_asg (pv 0) (pg_tup rfl (pgs_cons (pg_name (i := 3) sc_is_entry.nd rfl (Or.inl rfl)) (pgs_cons (pg_name (i := 4) sc_is_entry.nd rfl (Or.inr rfl)) (pgs_cons (pg_name (i := 5) sc_is_entry.nd rfl (Or.inl rfl)) pgs_nil)))))
      (pss_cons (ps_if (PW.pt (pw_or (pt_not (pt_val (pe_fn G_is_name (hr.mono (by decide)) (pa_cons (pv 3) pa_nil)))) (pw_or (pt_cmpR (opIn (K := K) rfl) (pv 3) (pv 1) (by with_unfolding_all rfl)) (pw_or1 (pt_cmpR op_lt (pv 4) pe_int (nomark _)))))) (pss_one (ps_ret pe_bl)) pss_nil)
      (pss_one (ps_ret (pe_callB (crAll (K := K) rfl rfl) (by rfl) T.n_all (by decide +kernel) (pa_cons (pe_lc (own := [("part", 6)]) (g := (gName 6)) (tt := tYes) rfl sc_is_entry.nd (piL (K := K) rfl (pv 5)) (blkOk_by (N := N_is_entry) (sc := (defScope s_is_entry)) (by decide +kernel)) (fun _ _ _ _ _ => (pg_name (i := 6) sc_is_entry.nd rfl (Or.inl rfl))) (fun _ _ _ _ _ => pts_nil) (fun _ _ _ _ _ => (pe_and (pe_cmp (pc_din (hu_of hr) (pv 6) (pv 2))) (pe_one (pe_cmpR op_lt (pe_dget (hu_of hr) (pv 2) (pv 6) (fun _ _ => rfl)) (pv 4) (nomark _)))))) pa_nil)))))), ?_⟩
    refine ⟨_, rfl, gtup3 ht ?_⟩
    refine ⟨_, rfl, e.name, rfl, hz, fun H1 g1 => ⟨_, rfl, ?_⟩⟩
    have k0 : ∀ H' b, Gr Tb H H' → entB e ahead ws = b → Q (.bl b) H' := fun H' b g q => by
      rw [← q]
      exact k H' g
    show (if (!nameB e.name) = true then _ else _)
    refine ite2 (fun c1 => ?_) (fun c1 => ?_)
    · refine k0 _ _ g1 ?_
      unfold entB
      rw [Bool.not_eq_true'] at c1
      rw [c1]
      rfl
    have n1 : nameB e.name = true := by simpa using c1
    refine ⟨_, rfl, _, rfl, l, _, rfl, .inl (SqL.of (g1.at hl .lst)), rfl, flat_strs _, _, rfl, ?_⟩
    rw [inV_strs]
    refine ite2 (fun c2 => ?_) (fun c2 => ?_)
    · refine k0 _ _ g1 ?_
      unfold entB
      have : decide (e.name ∈ ahead) = true := c2
      rw [n1, this]
      rfl
    have n2 : decide (e.name ∈ ahead) = false := by simpa using c2
    refine ⟨_, rfl, _, _, rfl, rfl, _, rfl, ?_⟩
    refine ite2 (fun c3 => ?_) (fun c3 => ?_)
    · refine k0 _ _ g1 ?_
      unfold entB
      have : decide (e.w < 1) = true := c3
      rw [n1, n2, this]
      rfl
    have n3 : decide (e.w < 1) = false := by simpa using c3
    refine ⟨_, rfl, lp, rfl, ⟨_, SqL.of (g1.at hlp .lst)⟩, fun D hD => lc_fm (Tb := Tb) (xs := e.parts.map V.str) walk_list rfl (fun v => match v with | .str p => some (.bl (match get? ws p with | some w => decide (w < e.w) | none => false)) | _ => none) hD ?_ (fun H' g => SqL.of ((g1.trans g).at hlp .lst)) (fun j v H' hv g Rk Rs hk hs => ?_) fun H' g hD' => ?_⟩
    · rw [List.length_map]
      omega
    · rw [List.getElem?_map] at hv
      cases hc : e.parts[j]? with
      | none =>
        rw [hc] at hv
        cases hv
      | some p =>
        rw [hc] at hv
        cases hv
        have hd' := (g1.trans g).at hd .dK
        refine ⟨rfl, _, rfl, _, rfl, d, _, rfl, DGet.k (k := Sum.inr p) hd', _, rfl, ?_⟩
        rw [valV_dS]
        cases hg : get? ws p with
        | none => exact hk _ _ (by simp only [hg]) (Gr.refl _)
        | some w =>
          have dg : DGet H' d (V.str p) (some (V.int w)) := by
            have z := DGet.k (k := Sum.inr p) hd'
            rw [valV_dS, hg] at z
            exact z
          refine ⟨_, rfl, _, rfl, d, _, rfl, dg, _, rfl, _, _, rfl, rfl, hk _ _ ?_ (Gr.refl _)⟩
          simp only [hg]
    · refine ⟨D, e.parts.map fun p => match get? ws p with | some w => decide (w < e.w) | none => false, rfl, ?_, ?_⟩
      · have e1 : (e.parts.map V.str).filterMap (fun v => match v with | .str p => some (V.bl (match get? ws p with | some w => decide (w < e.w) | none => false)) | _ => none) = (e.parts.map fun p => match get? ws p with | some w => decide (w < e.w) | none => false).map V.bl := by
          rw [List.filterMap_map, List.map_map, ← List.filterMap_eq_map]
          rfl
        rw [e1] at hD'
        exact SqL.of hD'
      · refine k0 _ _ (g1.trans g) ?_
        unfold entB
        rw [n1, n2, n3, List.all_map]
        rfl
end
end Sk
namespace Sk
open PySem PySem.Spec PyProof.Rows L2
abbrev s_check_catalogue : Stmt := topS 13
abbrev N_check_catalogue : List Str := ["catalogue", "weights", "earlier_names", "name", "weight", "parts", "index", "entry"]
theorem sc_check_catalogue : FnScope N_check_catalogue ["catalogue"] (defScope s_check_catalogue) := ⟨rfl, rfl, rfl, by decide +kernel, rfl, by decide +kernel, by decide +kernel⟩
/-- a valid catalogue -/
structure Valid (es : List Ent) : Prop where
  ne : es ≠ []
  names : ∀ e ∈ es, nameB e.name = true
  nodup : (es.map (·.name)).Nodup
  pos : ∀ e ∈ es, 1 ≤ e.w
  lighter : ∀ e ∈ es, ∀ p ∈ e.parts, ∃ e' ∈ es, e'.name = p ∧ e'.w < e.w
  few : es.length ≤ 100000
  fewp : ∀ e ∈ es, e.parts.length ≤ 100000
theorem Valid.known {es : List Ent} (v : Valid es) : ∀ e ∈ es, ∀ p ∈ e.parts, p ∈ es.map (·.name) := fun e he p hp => by
  obtain ⟨e', h1, h2, _⟩ := v.lighter e he p hp
  exact List.mem_map.mpr ⟨e', h1, h2⟩
theorem Valid.perm {es es' : List Ent} (p : es'.Perm es) (v : Valid es) : Valid es' :=
  ⟨fun z => v.ne (by subst z; exact (List.nil_perm.mp p)), fun e he => v.names e (p.mem_iff.mp he), ((p.map _).nodup_iff).mpr v.nodup, fun e he => v.pos e (p.mem_iff.mp he),
    fun e he q hq => by
      obtain ⟨e', h1, h2⟩ := v.lighter e (p.mem_iff.mp he) q hq
      exact ⟨e', p.mem_iff.mpr h1, h2⟩, by rw [p.length_eq]; exact v.few, fun e he => v.fewp e (p.mem_iff.mp he)⟩
def sp_check_catalogue (Tb : List (Addr × Str)) (K : PySem.W.Frag) : Sp := fun vs H Q _ => ∃ (a : Addr) (xs : List V) (es : List Ent), vs = [.ref a] ∧ SqL K H a xs ∧ CatAt H xs es ∧ Valid es ∧ ∀ H', Gr Tb H H' → Q .non H'
/-- the weights by name -/
def wts (es : List Ent) : Num := es.map fun e => (e.name, e.w)
theorem get_none {d : Num} {x : Str} (h : x ∉ d.map (·.1)) : get? d x = none := by
  unfold get?
  rw [List.find?_eq_none.mpr fun q hq => by
    rw [decide_eq_true_eq]
    exact fun e => h (List.mem_map.mpr ⟨q, hq, e⟩)]
  rfl
theorem get_some {d : Num} {x : Str} {i : Int} (nd : (d.map (·.1)).Nodup) (h : (x, i) ∈ d) : get? d x = some i := by
  unfold get?
  induction d with
  | nil => cases h
  | cons q d ih =>
    rw [List.map_cons, List.nodup_cons] at nd
    rcases List.mem_cons.mp h with e | h
    · subst e
      simp
    · have : q.1 ≠ x := fun e => nd.1 (List.mem_map.mpr ⟨_, h, e.symm⟩)
      rw [List.find?_cons_of_neg (by simpa using this)]
      exact ih nd.2 h
theorem put_new {d : Num} {x : Str} {i : Int} (h : x ∉ d.map (·.1)) : put d x i = d ++ [(x, i)] := by
  unfold put
  rw [if_neg]
  rw [List.any_eq_true]
  rintro ⟨q, hq, e⟩
  exact h (List.mem_map.mpr ⟨q, hq, by simpa using e⟩)
theorem wts_names (es : List Ent) : (wts es).map (·.1) = es.map (·.name) := by
  unfold wts
  rw [List.map_map]
  rfl
theorem take_notin {es : List Ent} (nd : (es.map (·.name)).Nodup) {i : Nat} {e : Ent} (h : es[i]? = some e) : e.name ∉ (es.take i).map (·.name) := by
  intro hm
  rw [List.map_take] at hm
  obtain ⟨j, hj⟩ := List.mem_iff_getElem?.mp hm
  have h1 : (es.map (·.name))[i]? = some e.name := by rw [List.getElem?_map, h]; rfl
  have hji : j < i := by
    rcases Nat.lt_or_ge j i with q | q
    · exact q
    · rw [List.getElem?_take, if_neg (by omega)] at hj
      cases hj
  rw [List.getElem?_take_of_lt hji] at hj
  have := nodup_ix nd hj h1
  omega
theorem take_snoc {α : Type} {es : List α} {i : Nat} {e : α} (h : es[i]? = some e) : es.take (i + 1) = es.take i ++ [e] := by
  rw [List.take_add_one, h]
  rfl
theorem len_ok {x : Str} (h : nameB x = true) : x.length ≤ 8 := by
  unfold nameB at h
  simp only [Bool.and_eq_true, decide_eq_true_eq] at h
  exact h.2.1
theorem entB_valid {es : List Ent} (v : Valid es) {i : Nat} {e : Ent} (h : es[i]? = some e) : entB e ((es.take i).map (·.name)) (wts es) = true := by
  have hm := List.mem_of_getElem? h
  unfold entB
  rw [v.names e hm, decide_eq_false (take_notin v.nodup h), decide_eq_false (show ¬ e.w < 1 by have := v.pos e hm; omega)]
  simp only [Bool.not_false, Bool.true_and, List.all_eq_true]
  intro p hp
  obtain ⟨e', he', hn, hw⟩ := v.lighter e hm p hp
  have : get? (wts es) p = some e'.w := get_some (by rw [wts_names]; exact v.nodup) (by rw [← hn]; exact List.mem_map.mpr ⟨e', he', rfl⟩)
  rw [this]
  simpa using hw
section
variable {P : Program} {w : World} {K : PySem.W.Frag} {mg : Str → Option Value} {base : Heap} {Tb : List (Addr × Str)}
theorem ok_check_catalogue {f : Addr} {fd : FuncData} (F : FnP K "check_catalogue" s_check_catalogue f fd) (T : Tx K mg) (G_is_entry : Fn P w K mg base "is_entry" 2 ["entry", "earlier_names", "weights"] (sp_is_entry Tb K)) : FnOk P w K mg base CX0 3 f fd ["catalogue"] (sp_check_catalogue Tb K) := by
  refine F.ok sc_check_catalogue (fun vs H Q E h => ?_) (fun cdv A outer s H vs Q E hr h => ?_)
  · obtain ⟨_, _, _, rfl, _⟩ := h
    rfl
  · obtain ⟨a, xs, es, rfl, ha, hc, hv, k⟩ := h
    refine ⟨_, PSs.nox (pss_cons (ps_if (pt_cmpR (opEqNil (K := K) rfl hr.units) (pv 0) (pe_lst pa_nil) (nomark _)) (pss_one ps_never) pss_nil)
      (pss_cons (ps_set (i := 1) sc_check_catalogue.nd rfl (Or.inl rfl) pe_dnewK)
      (pss_cons (ps_for PassesOwn.never rfl (piL (K := K) rfl (pv 0)) (pg_tup rfl (pgs_cons (pg_name (i := 3) sc_check_catalogue.nd rfl (Or.inl rfl)) (pgs_cons (pg_name (i := 4) sc_check_catalogue.nd rfl (Or.inl rfl)) (pgs_cons (pg_name (i := 5) sc_check_catalogue.nd rfl (Or.inl rfl)) pgs_nil)))) (pss_one (ps_expr (pe_dsetd (pv 1) (pv 3) (pv 4) ⟨rfl, rfl, rfl, rfl⟩))))
      (pss_cons (ps_set (i := 2) sc_check_catalogue.nd rfl (Or.inl rfl) (pe_lst pa_nil))
      (pss_one (ps_for PassesOwn.never rfl (piEnum (K := K) rfl (by rfl) T.n_enumerate (pa_cons (pv 0) pa_nil)) (pg_tup rfl (pgs_cons (pg_name (i := 6) sc_check_catalogue.nd rfl (Or.inl rfl)) (pgs_cons (pg_name (i := 7) sc_check_catalogue.nd rfl (Or.inl rfl)) pgs_nil))) (pss_cons (ps_if (pt_not (pt_val (pe_fn G_is_entry (hr.mono (by decide)) (pa_cons (pv 7) (pa_cons (pv 2) (pa_cons (pv 1) pa_nil)))))) (pss_one ps_never) pss_nil)
        (pss_one (ps_expr (peBm (K := K) rfl PySem.F.plainAttrs_list PySem.F.slot_list_append PySem.F.type_list_append mt_append (pv 2) (pa_cons (pe_ix (ixT (K := K) rfl) (pv 7) pe_int (fun _ _ => rfl)) pa_nil))))))))))), ?_⟩
    have hlen := Paired.len hc
    have hxs : xs.isEmpty = false := by
      cases xs with
      | nil =>
        cases hc
        exact absurd rfl hv.ne
      | cons _ _ => rfl
    refine ⟨_, rfl, rd_nil ha fun p hp => ⟨_, rfl, ?_⟩⟩
    show (if xs.isEmpty = true then _ else _)
    rw [hxs]
    refine iteF ?_
    intro d hd
    have hd0 : Nw H d := (Gr.new (T := Tb) hp).nw (.of hd)
    have g0 : Gr Tb H (upd (upd H p (.lst [])) d (.dK [])) := (Gr.new hp).trans (Gr.new hd)
    refine ⟨_, rfl, a, rfl, ⟨_, (g0.ext_seq ha)⟩, for_list (K := K) (a := a) (xs := xs) (fun i σ H' => ∃ s3 s4 s5 : Option V, σ = [some (.ref a), some (.ref d), none, s3, s4, s5, none, none] ∧ Gr Tb H H' ∧ H' d = some (.dK (dS (wts (es.take i)))))
      ⟨none, none, none, rfl, g0, upd_same⟩ (fun i σ H' _ ⟨_, _, _, _, g, _⟩ => g.ext_seq ha) ?_ ?_⟩
    · rintro i x σ H' hx ⟨s3, s4, s5, rfl, g, hdd⟩
      obtain ⟨e, he, t, lp, rfl, ht, hlp⟩ := Paired.at hc hx
      have nn : get? (wts (es.take i)) e.name = none := get_none (by rw [wts_names]; exact take_notin hv.nodup he)
      refine gtup3 (g.at ht .tup) ⟨_, rfl, d, rfl, .inl ⟨_, .inl hdd⟩, _, rfl, _, rfl, _, Sum.inr e.name, hdd, rfl, ?_, ?_, ?_⟩
      · rw [dS_len]
        unfold wts
        rw [List.length_map, List.length_take, sizeLine_eq]
        have := hv.few
        omega
      · intro v hv'
        rw [valV_dS, nn] at hv'
        cases hv'
      · intro _
        refine ⟨_, _, _, rfl, g.mut hd0 hdd .dK, ?_⟩
        rw [upd_same, putK_dS, put_new (by rw [wts_names]; exact take_notin hv.nodup he), take_snoc he]
        unfold wts
        rw [List.map_append]
        rfl
    · rintro σ H' ⟨s3, s4, s5, rfl, g, hdd⟩
      rw [hlen, List.take_length] at hdd
      refine ⟨Nat.zero_le _, fun l hl => ?_⟩
      have dl : d ≠ l := ne_of_none hdd hl
      have hl0 : Nw H l := g.nw (.of hl)
      have g1 : Gr Tb H (upd H' l (.lst [])) := g.trans (Gr.new hl)
      refine ⟨_, rfl, a, xs, rfl, g1.ext_seq ha, for_it (walk_enum (xs := xs)) (fun i σ H' => ∃ s3 s4 s5 s6 s7 : Option V, σ = [some (.ref a), some (.ref d), some (.ref l), s3, s4, s5, s6, s7] ∧ Gr Tb H H' ∧ H' d = some (.dK (dS (wts es))) ∧ H' l = some (.lst (((es.take i).map (·.name)).map V.str)))
        ⟨_, _, _, _, _, rfl, g1, by rw [upd_ne dl]; exact hdd, by rw [upd_same]; rfl⟩ (fun i σ H' _ ⟨_, _, _, _, _, _, g, _⟩ => g.ext_seq ha) ?_ ?_⟩
      · rintro i x σ H1 H2 hi ⟨s3, s4, s5, s6, s7, rfl, g2, hdd, hll⟩ ⟨T, x1, x2, rfl, hT, rfl, e1, e2⟩
        cases e1
        obtain ⟨e, he, t, lp, rfl, ht, hlp⟩ := Paired.at hc e2
        have hm := List.mem_of_getElem? he
        have g3' : Gr Tb H (upd H1 T (.tup [.int (i : Nat), .ref t])) := g2.trans (Gr.new hT)
        have hd3 : upd H1 T (.tup [.int (i : Nat), .ref t]) d = _ := (upd_ne (ne_of_none hdd hT)).trans hdd
        have hl3 : upd H1 T (.tup [.int (i : Nat), .ref t]) l = _ := (upd_ne (ne_of_none hll hT)).trans hll
        refine gtup2 upd_same ?_
        refine ⟨_, rfl, _, rfl, _, rfl, .ref t, e, l, d, _, _, rfl, ⟨t, lp, rfl, g3'.at ht .tup, g3'.at hlp .lst⟩, hl3, hd3, Nat.le_trans (len_ok (hv.names e hm)) (by decide), Nat.le_trans (hv.fewp e hm) (by decide), fun H4 g4 => ⟨_, rfl, ?_⟩⟩
        rw [entB_valid hv he]
        have g5 := g3'.trans g4
        have hl5 := g4.at hl3 .lst
        refine ⟨_, rfl, .inl ⟨rfl, _, SqL.of hl5⟩, _, rfl, t, _, _, _, rfl, rfl, SqT.of (g5.at ht .tup), atI_nat (j := 0) rfl, l, _, _, rfl, rfl, hl5, ?_, ?_⟩
        · rw [List.length_map, List.length_map, List.length_take, sizeLine_eq]
          have := hv.few
          omega
        · refine ⟨_, _, _, _, _, rfl, g5.mut hl0 hl5 .lst, ?_, ?_⟩
          · rw [upd_ne dl]
            exact g4.at hd3 .dK
          · rw [upd_same, take_snoc he, List.map_append, List.map_append]
            rfl
      · rintro σ H1 ⟨s3, s4, s5, s6, s7, rfl, g2, hdd, hll⟩
        exact k H1 g2
end
end Sk
namespace Sk
open PySem PySem.Spec PyProof.Rows L2
abbrev s_ordered : Stmt := topS 14
abbrev N_ordered : List Str := ["catalogue"]
theorem sc_ordered : FnScope N_ordered ["catalogue"] (defScope s_ordered) := ⟨rfl, rfl, rfl, by decide +kernel, rfl, by decide +kernel, by decide +kernel⟩
/-- what a kind's place is found by: greater weights first, then names -/
def Ent.key (e : Ent) : Int × Str := (0 - e.w, e.name)
/-- from the largest kind to the smallest -/
def Ordered (es : List Ent) : Prop := SrtO.Srtd (fun x y : Ent => kLt x.key y.key) es
def sp_ordered (Tb : List (Addr × Str)) (K : PySem.W.Frag) : Sp := fun vs H Q _ => ∃ (a : Addr) (xs : List V) (es : List Ent), vs = [.ref a] ∧ SqL K H a xs ∧ CatAt H xs es ∧ LamX.Tabs Tb H ∧ es.length ≤ 100000 ∧
  ∀ r H' ys es', es'.Perm es → Ordered es' → CatAt H ys es' → Gr Tb H H' → H' r = none → Q (.ref r) (upd H' r (.lst ys))
/-- the key of the entry that stands at v -/
def vKey (H : Hp) : V → Int × Str
  | .ref t => match H t with
    | some (.tup [.str n, .int w, _]) => (0 - w, n)
    | _ => (0, Str.empty)
  | _ => (0, Str.empty)
theorem vKey_at {H : Hp} {v : V} {e : Ent} (h : EntAt H v e) : vKey H v = e.key := by
  obtain ⟨t, l, rfl, ht, _⟩ := h
  show (match H t with
    | some (.tup [.str n, .int w, _]) => (0 - w, n)
    | _ => (0, Str.empty)) = _
  rw [ht]
  rfl
theorem ordered_of {H : Hp} : ∀ {ys : List V} {es : List Ent}, CatAt H ys es → SrtO.Srtd (fun x y => kLt (vKey H x) (vKey H y)) ys → Ordered es
  | _, _, .nil, _ => List.Pairwise.nil
  | y :: ys, e :: es, .cons h t, s => by
    obtain ⟨s1, s2⟩ := List.pairwise_cons.mp s
    refine List.pairwise_cons.mpr ⟨fun e' he' => ?_, ordered_of t s2⟩
    obtain ⟨y', hy', h'⟩ := Paired.right t he'
    have z : kLt (vKey H y') (vKey H y) = false := s1 y' hy'
    rw [vKey_at h, vKey_at h'] at z
    exact z
theorem ordered_unique : ∀ {xs ys : List Ent}, xs.Perm ys → Ordered xs → Ordered ys → (xs.map (·.name)).Nodup → xs = ys
  | [], ys, p, _, _, _ => (List.nil_perm.mp p).symm
  | x :: xs, [], p, _, _, _ => absurd p.length_eq (by simp)
  | x :: xs, y :: ys, p, ox, oy, nd => by
    obtain ⟨x1, x2⟩ := List.pairwise_cons.mp ox
    obtain ⟨y1, y2⟩ := List.pairwise_cons.mp oy
    rw [List.map_cons, List.nodup_cons] at nd
    have e : x = y := by
      rcases List.mem_cons.mp (p.mem_iff.mp (List.mem_cons_self ..)) with e | hx
      · exact e
      · rcases List.mem_cons.mp (p.mem_iff.mpr (List.mem_cons_self ..)) with e | hy
        · exact e.symm
        · have h1 : kLt y.key x.key = false := x1 y hy
          have h2 : kLt x.key y.key = false := y1 x hx
          have h3 : y.name = x.name := (Prod.mk.inj (kLt_total h1 h2)).2
          exact absurd (List.mem_map.mpr ⟨y, hy, h3⟩) nd.1
    subst e
    rw [ordered_unique ((List.perm_cons x).mp p) x2 y2 nd.2]
section
variable {P : Program} {w : World} {K : PySem.W.Frag} {mg : Str → Option Value} {base : Heap} {Tb : List (Addr × Str)}
theorem ok_ordered {f : Addr} {fd : FuncData} (F : FnP K "ordered" s_ordered f fd) (T : Tx K mg)  {c Pt : Addr} (LC : ∀ fd2 oc od osl, K.lookup f = some ⟨oc, od, .func fd2, osl⟩ → fd2.code = .ref c) (TB : LamX.TabB base mg c Pt) (hmT : (Pt, ("ordered.<locals>.<lambda>" : Str)) ∈ Tb) (huT : ∀ p ∈ Tb, p.1 = Pt → p.2 = ("ordered.<locals>.<lambda>" : Str)) : FnOk P w K mg base CX0 4 f fd ["catalogue"] (sp_ordered Tb K) := by
  obtain ⟨oc, od, dV, kV, doc, pm, an, cdv, ct, osl, rfl, lk, hcd, _, _⟩ := F.ex
  obtain rfl : cdv = .ref c := LC _ _ _ _ lk
  refine fn_of lk hcd sc_ordered (fun vs H Q E h => ?_) fun A outer s H vs Q E hr h => ?_
  · obtain ⟨_, _, _, rfl, _⟩ := h
    rfl
  · obtain ⟨a, xs, es, rfl, ha, hc, ht, hz, k⟩ := h
    have hcode : ∀ (A : Around) (outer : List Env) (s : Shared) (H : Hp) (E : XK), (cxOf CX0 P w K mg base N_ordered "ordered" (defScope s_ordered) f (.ref c) A outer s H E).env.code = .ref c := fun _ _ _ _ _ => rfl
    refine ⟨_, PSs.nox (pss_one (ps_ret (pe_sortLam (k := 0) (tk := tTup (tCons (tOp (rI0 fun i j => .int (i - j)) (tC (.int 0)) (tOp (rIxT K) (tVar 0) (tC (.int 1)))) (tCons (tOp (rIxT K) (tVar 0) (tC (.int 0))) tNil))) (N := ["entry"]) (ps := ["entry"]) (by rfl) T.n_sorted (hr.mono (by decide)) TB rfl hmT huT ⟨rfl, rfl, rfl, by decide +kernel, rfl, by decide +kernel, by decide +kernel⟩ rfl (fun _ => rfl) rfl (fun _ _ _ _ us hl => match us, hl with | [_], _ => rfl) (pa_cons (pv 0) pa_nil) (fun _ _ _ _ _ _ _ => (pe_tup (pa_cons (pe_op op_sub pe_int (pe_ix (ixT (K := K) rfl) (pv 0) pe_int (fun _ _ => rfl))) (pa_cons (pe_ix (ixT (K := K) rfl) (pv 0) pe_int (fun _ _ => rfl)) pa_nil))))))), ?_⟩
    refine ⟨_, rfl, a, xs, vKey H, rfl, ha, fun y hy => ?_, ht, fun y hy H2 g Q' k' => ?_, fun ys a' H' hs hp eN hT hn => ?_⟩
    · obtain ⟨e, _, t, l, h1, _⟩ := Paired.left hc hy
      exact ⟨t, h1⟩
    · obtain ⟨e, _, he⟩ := Paired.left hc hy
      rw [vKey_at he] at k'
      obtain ⟨t, l, rfl, h1, h2⟩ := he
      have h1' := g _ _ h1 (fun ps z => by cases z)
      refine ⟨_, rfl, t, _, _, _, rfl, rfl, SqT.of h1', atI_nat (j := 1) rfl, _, _, rfl, rfl, _, rfl, t, _, _, _, rfl, rfl, SqT.of h1', atI_nat (j := 0) rfl, by show 2 ≤ sizeLine; decide, k'⟩
    · obtain ⟨es', p', hc'⟩ := Paired.perm hp hc
      exact k a' H' ys es' p' (ordered_of hc' hs) hc' ⟨eN, fun _ => hT⟩ hn
end
end Sk
namespace Sk
open PySem PySem.Spec PyProof.Rows L2
abbrev s_clean : Stmt := topS 15
abbrev N_clean : List Str := ["entries", "numbers", "name", "weight", "parts"]
theorem sc_clean : FnScope N_clean ["entries", "numbers"] (defScope s_clean) := ⟨rfl, rfl, rfl, by decide +kernel, rfl, by decide +kernel, by decide +kernel⟩
/-- the numbers that are not zero, in the entries' order -/
def cleanN (es : List Ent) (d : Num) : Num := (es.filter fun e => decide (getD d e.name ≠ 0)).map fun e => (e.name, getD d e.name)
def sp_clean (Tb : List (Addr × Str)) (K : PySem.W.Frag) : Sp := fun vs H Q _ => ∃ (a b : Addr) (xs : List V) (es : List Ent) (d : Num), vs = [.ref a, .ref b] ∧ SqL K H a xs ∧ CatAt H xs es ∧ H b = some (.dK (dS d)) ∧ (es.map (·.name)).Nodup ∧ es.length ≤ 100000 ∧
  ∀ r H', Gr Tb H H' → Nw H r → H' r = some (.dK (dS (cleanN es d))) → Q (.ref r) H'
def cleanO (H : Hp) (d : Num) (v : V) : Option (Str × Int) := match itemAt H 0 v with
  | some (.str n) => if getD d n ≠ 0 then some (n, getD d n) else none
  | _ => none
theorem cleanO_at {H : Hp} {d : Num} {v : V} {e : Ent} (h : EntAt H v e) : cleanO H d v = if getD d e.name ≠ 0 then some (e.name, getD d e.name) else none := by
  obtain ⟨t, l, rfl, ht, _⟩ := h
  unfold cleanO
  rw [itemAt_tup ht]
  rfl
theorem clean_fm {H : Hp} {d : Num} {vs : List V} {es : List Ent} (hc : CatAt H vs es) : vs.filterMap (cleanO H d) = cleanN es d := by
  rw [fm_pairedO (g := fun e => if getD d e.name ≠ 0 then some (e.name, getD d e.name) else none) (fun v e h => cleanO_at h) hc]
  clear hc
  unfold cleanN
  induction es with
  | nil => rfl
  | cons e es ih =>
    rw [List.filterMap_cons, List.filter_cons]
    by_cases c : getD d e.name ≠ 0
    · rw [if_pos c, if_pos (decide_eq_true c), ih]
      rfl
    · rw [if_neg c, if_neg (by rw [decide_eq_true_eq]; exact c), ih]
theorem clean_nodup {es : List Ent} {d : Num} (h : (es.map (·.name)).Nodup) : ((cleanN es d).map (·.1)).Nodup := by
  unfold cleanN
  rw [List.map_map]
  exact h.sublist ((List.filter_sublist (l := es)).map _)
section
variable {P : Program} {w : World} {K : PySem.W.Frag} {mg : Str → Option Value} {base : Heap} {Tb : List (Addr × Str)}
theorem ok_clean {f : Addr} {fd : FuncData} (F : FnP K "clean" s_clean f fd) (T : Tx K mg) : FnOk P w K mg base CX0 1 f fd ["entries", "numbers"] (sp_clean Tb K) := by
  refine F.ok sc_clean (fun vs H Q E h => ?_) (fun cdv A outer s H vs Q E hr h => ?_)
  · obtain ⟨_, _, _, _, _, rfl, _⟩ := h
    rfl
  · obtain ⟨a, b, xs, es, d, rfl, ha, hc, hb, hnd, hz, k⟩ := h
    refine ⟨_, PSs.nox (pss_one (ps_ret (pe_dc (own := [("name", 2), ("weight", 3), ("parts", 4)]) (g := (gTup K 3 (gCons (gName 2) (gCons (gName 3) (gCons (gName 4) gNil))))) (tt := _) rfl sc_clean.nd (piL (K := K) rfl (pv 0)) (blkOk_by (N := N_clean) (sc := (defScope s_clean)) (by decide +kernel)) (fun _ _ _ _ _ => (pg_tup rfl (pgs_cons (pg_name (i := 2) sc_clean.nd rfl (Or.inl rfl)) (pgs_cons (pg_name (i := 3) sc_clean.nd rfl (Or.inl rfl)) (pgs_cons (pg_name (i := 4) sc_clean.nd rfl (Or.inl rfl)) pgs_nil))))) (fun _ _ _ _ _ => (pts_one (pt_cmpR op_ne (pe_dget2 (hu_of hr) (pv 1) (pv 2) pe_int ⟨rfl, rfl, rfl, rfl⟩) pe_int (nomark _)))) (fun _ _ _ _ _ => (pv 2)) (fun _ _ _ _ _ => (pe_dget (hu_of hr) (pv 1) (pv 2) (fun _ _ => rfl)))))), ?_⟩
    have hl := Paired.len hc
    refine ⟨_, rfl, a, rfl, ⟨_, ha⟩, fun D hD => dc_fm (Tb := Tb) (xs := xs) walk_list rfl (cleanO H d) hD (by omega) (fun H' g => g.ext_seq ha) (fun j v H' hv g Rk Rs hk hs => ?_) fun H' g hD' => ?_⟩
    · obtain ⟨e, he, hev⟩ := Paired.at hc hv
      have hco := cleanO_at (d := d) hev
      obtain ⟨t, lp, rfl, ht, hlp⟩ := hev
      have hb' := g.at hb .dK
      refine gtup3 (g.at ht .tup) ⟨rfl, _, rfl, b, rfl, IsD.num hb', _, rfl, _, dgetO hb' e.name, ?_⟩
      rw [getO]
      refine ⟨rfl, _, rfl, ?_⟩
      refine ite2 (fun c1 => ?_) (fun c1 => ?_)
      · have c2 : getD d e.name ≠ 0 := fun z => by
          rw [z] at c1
          exact absurd c1 (by decide)
        obtain ⟨i, hi⟩ : ∃ i, get? d e.name = some i := by
          cases q : get? d e.name with
          | some i => exact ⟨i, rfl⟩
          | none =>
            unfold getD at c2
            rw [q] at c2
            exact absurd rfl c2
        have hgi : getD d e.name = i := by
          unfold getD
          rw [hi]
          rfl
        refine ⟨_, rfl, _, rfl, _, rfl, b, _, rfl, dgetS hb' hi, hk (e.name, i) _ ?_ (Gr.refl _)⟩
        rw [hco, if_pos c2, hgi]
      · refine hs _ ?_ (Gr.refl _)
        rw [hco, if_neg]
        intro c2
        refine c1 ?_
        rw [Bool.not_eq_true', decide_eq_false_iff_not]
        exact fun z => c2 (V.int.inj z)
    · rw [clean_fm hc, putAll_new _ _ (by rw [List.nil_append]; exact clean_nodup hnd), List.nil_append] at hD'
      exact k D H' g (.of hD) hD'
end
end Sk
namespace Sk
open PySem PySem.Spec PyProof.Rows L2
abbrev s_piece_numbers : Stmt := topS 16
abbrev N_piece_numbers : List Str := ["entries", "stock", "splits", "numbers", "name", "weight", "parts", "part"]
theorem sc_piece_numbers : FnScope N_piece_numbers ["entries", "stock", "splits"] (defScope s_piece_numbers) := ⟨rfl, rfl, rfl, by decide +kernel, rfl, by decide +kernel, by decide +kernel⟩
def sp_piece_numbers (Tb : List (Addr × Str)) (K : PySem.W.Frag) : Sp := fun vs H Q _ => ∃ (a b c : Addr) (xs : List V) (es : List Ent) (st sp : Num), vs = [.ref a, .ref b, .ref c] ∧ SqL K H a xs ∧ CatAt H xs es ∧ H b = some (.dK (dS st)) ∧ H c = some (.dK (dS sp)) ∧ (es.map (·.name)).Nodup ∧ (∀ e ∈ es, ∀ p ∈ e.parts, p ∈ es.map (·.name)) ∧ es.length ≤ 100000 ∧
  ∀ r H', Gr Tb H H' → Nw H r → H' r = some (.dK (dS (numOf es (pn es st sp)))) → Q (.ref r) H'
section
variable {P : Program} {w : World} {K : PySem.W.Frag} {mg : Str → Option Value} {base : Heap} {Tb : List (Addr × Str)}
theorem ok_piece_numbers {f : Addr} {fd : FuncData} (F : FnP K "piece_numbers" s_piece_numbers f fd) (T : Tx K mg) : FnOk P w K mg base CX0 1 f fd ["entries", "stock", "splits"] (sp_piece_numbers Tb K) := by
  refine F.ok sc_piece_numbers (fun vs H Q E h => ?_) (fun cdv A outer s H vs Q E hr h => ?_)
  · obtain ⟨_, _, _, _, _, _, _, rfl, _⟩ := h
    rfl
  · obtain ⟨a, b, c, xs, es, st, sp, rfl, ha, hc, hb, hsp, hnd, hp, hz, k⟩ := h
    refine ⟨_, PSs.nox (pss_cons (ps_setDc (i := 3) (own := [("name", 4), ("weight", 5), ("parts", 6)]) (g := (gTup K 3 (gCons (gName 4) (gCons (gName 5) (gCons (gName 6) gNil))))) (tt := tYes) rfl sc_piece_numbers.nd rfl rfl (swD_true rfl rfl rfl (by decide +kernel)) (piL (K := K) rfl (pv 0)) (blkOk_by (N := N_piece_numbers) (sc := (defScope s_piece_numbers)) (by decide +kernel)) (fun _ _ _ _ _ => (pg_tup rfl (pgs_cons (pg_name (i := 4) sc_piece_numbers.nd rfl (Or.inl rfl)) (pgs_cons (pg_name (i := 5) sc_piece_numbers.nd rfl (Or.inl rfl)) (pgs_cons (pg_name (i := 6) sc_piece_numbers.nd rfl (Or.inl rfl)) pgs_nil))))) (fun _ _ _ _ _ => pts_nil) (fun _ _ _ _ _ => (pv 4)) (fun _ _ _ _ _ => (pe_dget2 (hu_of hr) (pv 1) (pv 4) pe_int ⟨rfl, rfl, rfl, rfl⟩)))
      (pss_cons (ps_for PassesOwn.never rfl (piL (K := K) rfl (pv 0)) (pg_tup rfl (pgs_cons (pg_name (i := 4) sc_piece_numbers.nd rfl (Or.inl rfl)) (pgs_cons (pg_name (i := 5) sc_piece_numbers.nd rfl (Or.inl rfl)) (pgs_cons (pg_name (i := 6) sc_piece_numbers.nd rfl (Or.inl rfl)) pgs_nil)))) (pss_one (ps_for PassesOwn.never rfl (piL (K := K) rfl (pv 6)) (pg_name (i := 7) sc_piece_numbers.nd rfl (Or.inl rfl)) (pss_one (ps_daug (hu_of hr) (pv 3) (pv 7) (pe_dget2 (hu_of hr) (pv 2) (pv 4) pe_int ⟨rfl, rfl, rfl, rfl⟩) in_add (fun _ _ _ => rfl))))))
      (pss_one (ps_ret (pv 3))))), ?_⟩
    refine ⟨_, rfl, a, rfl, ⟨_, ha⟩, fun D hD => dc_stock (Tb := Tb) ha hc hb hnd hz hD (fun _ _ _ => rfl) (fun _ _ _ => rfl) (fun _ _ _ => rfl) fun H1 g1 hD1 => ?_⟩
    have nD : Nw H D := .of hD
    have hlen := Paired.len hc
    refine ⟨_, rfl, a, rfl, ⟨_, g1.ext_seq ha⟩, for_list (K := K) (a := a) (xs := xs) (fun i σ H' => ∃ s4 s5 s6 s7 : Option V, σ = [some (.ref a), some (.ref b), some (.ref c), some (.ref D), s4, s5, s6, s7] ∧ Gr Tb H H' ∧ H' D = some (.dK (dS (numOf es (addAll (getD st) (incs (es.take i) (getD sp)))))))
      ⟨_, _, _, _, rfl, g1, by rw [List.take_zero]; exact hD1⟩ (fun i σ H' _ ⟨_, _, _, _, _, g, _⟩ => g.ext_seq ha) ?_ ?_⟩
    · rintro i x σ H2 hx ⟨s4, s5, s6, s7, rfl, g2, hD2⟩
      obtain ⟨e, he, t, lp, rfl, ht, hlp⟩ := Paired.at hc hx
      have hm := List.mem_of_getElem? he
      have hlp2 := g2.at hlp .lst
      refine gtup3 (g2.at ht .tup) ⟨_, rfl, lp, rfl, ⟨_, SqL.of hlp2⟩, for_list (K := K) (a := lp) (xs := e.parts.map V.str) (fun j σ H' => ∃ s7 : Option V, σ = [some (.ref a), some (.ref b), some (.ref c), some (.ref D), some (.str e.name), some (.int e.w), some (.ref lp), s7] ∧ Gr Tb H H' ∧
          H' D = some (.dK (dS (numOf es (addAll (addAll (getD st) (incs (es.take i) (getD sp))) ((e.parts.take j).map fun p => (p, getD sp e.name)))))))
        ⟨_, rfl, g2, by rw [List.take_zero]; exact hD2⟩ (fun j σ H' _ ⟨_, _, g, _⟩ => SqL.of (g.at hlp .lst)) ?_ ?_⟩
      · rintro j y σ H3 hy ⟨s7, rfl, g3, hD3⟩
        rw [List.getElem?_map] at hy
        cases hq : e.parts[j]? with
        | none => rw [hq] at hy; cases hy
        | some q =>
          rw [hq] at hy
          cases hy
          have hqm : q ∈ es.map (·.name) := hp e hm q (List.mem_of_getElem? hq)
          have hsp3 := g3.at hsp .dK
          refine ⟨_, rfl, _, rfl, D, _, rfl, dgetS hD3 (get?_numOf hqm), _, rfl, c, rfl, IsD.num hsp3, _, rfl, _, dgetO hsp3 e.name, ?_⟩
          rw [getO]
          refine ⟨_, _, rfl, rfl, _, dputS hD3 (by rw [numOf_len, sizeLine_eq]; omega), _, rfl, g3.mut nD hD3 .dK, ?_⟩
          rw [upd_same, put_numOf hqm, take_snoc hq, List.map_append]
          show some (HO.dK (dS (numOf es (upF _ q _)))) = some (HO.dK (dS (numOf es (addAll _ (_ ++ [(q, getD sp e.name)])))))
          rw [addAll_snoc]
      · rintro σ H3 ⟨s7, rfl, g3, hD3⟩
        refine ⟨_, _, _, _, rfl, g3, ?_⟩
        rw [List.length_map, List.take_length] at hD3
        rw [incs_snoc he, addAll_append]
        exact hD3
    · rintro σ H2 ⟨s4, s5, s6, s7, rfl, g2, hD2⟩
      rw [hlen, List.take_length] at hD2
      exact ⟨_, rfl, k D H2 g2 nD hD2⟩
end
end Sk
namespace Sk
open PySem PySem.Spec PyProof.Rows L2
abbrev s_full_splits : Stmt := topS 17
abbrev N_full_splits : List Str := ["entries", "stock", "numbers", "found", "name", "weight", "parts", "part"]
theorem sc_full_splits : FnScope N_full_splits ["entries", "stock"] (defScope s_full_splits) := ⟨rfl, rfl, rfl, by decide +kernel, rfl, by decide +kernel, by decide +kernel⟩
/-- all splits, from the largest kind on -/
def fs : List Ent → (Str → Int) → Num
  | [], _ => []
  | e :: es, f => (if e.parts = [] then [] else [(e.name, f e.name)]) ++ fs es (addAll f (e.parts.map fun p => (p, f e.name)))
/-- the parts stand behind -/
def Behind : List Ent → Prop
  | [] => True
  | e :: es => (∀ p ∈ e.parts, p ∈ es.map (·.name) ∧ p ≠ e.name) ∧ Behind es
def sp_full_splits (Tb : List (Addr × Str)) (K : PySem.W.Frag) : Sp := fun vs H Q _ => ∃ (a b : Addr) (xs : List V) (es : List Ent) (st : Num), vs = [.ref a, .ref b] ∧ SqL K H a xs ∧ CatAt H xs es ∧ H b = some (.dK (dS st)) ∧ (es.map (·.name)).Nodup ∧ Behind es ∧ es.length ≤ 100000 ∧
  ∀ r H', Gr Tb H H' → Nw H r → H' r = some (.dK (dS (fs es (getD st)))) → Q (.ref r) H'
/-- the numbers behind the entries -/
def fsS : List Ent → (Str → Int) → Str → Int
  | [], f => f
  | e :: es, f => fsS es (addAll f (e.parts.map fun p => (p, f e.name)))
theorem fs_snoc (e : Ent) : ∀ (l : List Ent) (f : Str → Int), fs (l ++ [e]) f = fs l f ++ (if e.parts = [] then [] else [(e.name, fsS l f e.name)])
  | [], f => by
    show (if e.parts = [] then [] else [(e.name, f e.name)]) ++ [] = [] ++ _
    rw [List.append_nil, List.nil_append]
    rfl
  | x :: l, f => by
    show (if x.parts = [] then [] else [(x.name, f x.name)]) ++ fs (l ++ [e]) (addAll f (x.parts.map fun p => (p, f x.name))) = ((if x.parts = [] then [] else [(x.name, f x.name)]) ++ fs l (addAll f (x.parts.map fun p => (p, f x.name)))) ++ _
    rw [fs_snoc e l, List.append_assoc]
    rfl
theorem fsS_snoc (e : Ent) : ∀ (l : List Ent) (f : Str → Int), fsS (l ++ [e]) f = addAll (fsS l f) (e.parts.map fun p => (p, fsS l f e.name))
  | [], f => rfl
  | x :: l, f => fsS_snoc e l _
theorem fs_names : ∀ (l : List Ent) (f : Str → Int), ∀ x ∈ (fs l f).map (·.1), x ∈ l.map (·.name)
  | [], _, x, h => by cases h
  | e :: l, f, x, h => by
    rw [fs, List.map_append] at h
    rw [List.map_cons]
    rcases List.mem_append.mp h with z | z
    · by_cases c : e.parts = []
      · rw [if_pos c] at z
        cases z
      · rw [if_neg c] at z
        rw [List.mem_singleton.mp z]
        exact List.mem_cons_self ..
    · exact List.mem_cons_of_mem _ (fs_names l _ x z)
theorem fs_len : ∀ (l : List Ent) (f : Str → Int), (fs l f).length ≤ l.length
  | [], _ => Nat.le_refl _
  | e :: l, f => by
    have := fs_len l (addAll f (e.parts.map fun p => (p, f e.name)))
    rw [fs, List.length_append, List.length_cons]
    split
    · rw [List.length_nil]
      omega
    · rw [List.length_singleton]
      omega
theorem Behind.at : ∀ {es : List Ent} {e : Ent}, Behind es → e ∈ es → ∀ p ∈ e.parts, p ∈ es.map (·.name) ∧ p ≠ e.name
  | [], _, _, h => by cases h
  | x :: es, e, b, h => fun p hp => by
    rw [List.map_cons]
    rcases List.mem_cons.mp h with rfl | h
    · exact ⟨List.mem_cons_of_mem _ (b.1 p hp).1, (b.1 p hp).2⟩
    · obtain ⟨h1, h2⟩ := Behind.at b.2 h p hp
      exact ⟨List.mem_cons_of_mem _ h1, h2⟩
theorem amt_zero {l : Num} {x : Str} (h : ∀ q ∈ l, q.1 ≠ x) : amt l x = 0 := by
  induction l with
  | nil => rfl
  | cons q l ih =>
    rw [amt_cons, if_neg (h q (List.mem_cons_self ..)), ih fun z hz => h z (List.mem_cons_of_mem _ hz)]
    rfl
theorem put_snoc {d : Num} {x : Str} {i : Int} (h : x ∉ d.map (·.1)) : put d x i = d ++ [(x, i)] := put_new' h
section
variable {P : Program} {w : World} {K : PySem.W.Frag} {mg : Str → Option Value} {base : Heap} {Tb : List (Addr × Str)}
theorem ok_full_splits {f : Addr} {fd : FuncData} (F : FnP K "full_splits" s_full_splits f fd) (T : Tx K mg) : FnOk P w K mg base CX0 1 f fd ["entries", "stock"] (sp_full_splits Tb K) := by
  refine F.ok sc_full_splits (fun vs H Q E h => ?_) (fun cdv A outer s H vs Q E hr h => ?_)
  · obtain ⟨_, _, _, _, _, rfl, _⟩ := h
    rfl
  · obtain ⟨a, b, xs, es, st, rfl, ha, hc, hb, hnd, hp, hz, k⟩ := h
    refine ⟨_, PSs.nox (pss_cons (ps_setDc (i := 2) (own := [("name", 4), ("weight", 5), ("parts", 6)]) (g := (gTup K 3 (gCons (gName 4) (gCons (gName 5) (gCons (gName 6) gNil))))) (tt := tYes) rfl sc_full_splits.nd rfl rfl (swD_true rfl rfl rfl (by decide +kernel)) (piL (K := K) rfl (pv 0)) (blkOk_by (N := N_full_splits) (sc := (defScope s_full_splits)) (by decide +kernel)) (fun _ _ _ _ _ => (pg_tup rfl (pgs_cons (pg_name (i := 4) sc_full_splits.nd rfl (Or.inl rfl)) (pgs_cons (pg_name (i := 5) sc_full_splits.nd rfl (Or.inl rfl)) (pgs_cons (pg_name (i := 6) sc_full_splits.nd rfl (Or.inl rfl)) pgs_nil))))) (fun _ _ _ _ _ => pts_nil) (fun _ _ _ _ _ => (pv 4)) (fun _ _ _ _ _ => (pe_dget2 (hu_of hr) (pv 1) (pv 4) pe_int ⟨rfl, rfl, rfl, rfl⟩)))
      (pss_cons (ps_set (i := 3) sc_full_splits.nd rfl (Or.inl rfl) pe_dnewK)
      (pss_cons (ps_for PassesOwn.never rfl (piL (K := K) rfl (pv 0)) (pg_tup rfl (pgs_cons (pg_name (i := 4) sc_full_splits.nd rfl (Or.inl rfl)) (pgs_cons (pg_name (i := 5) sc_full_splits.nd rfl (Or.inl rfl)) (pgs_cons (pg_name (i := 6) sc_full_splits.nd rfl (Or.inl rfl)) pgs_nil)))) (pss_cons (ps_if (pt_cmpR (opNeNil (K := K) rfl hr.units) (pv 6) (pe_lst pa_nil) (nomark _)) (pss_one (ps_dput (hu_of hr) (pv 3) (pv 4) (pe_dget (hu_of hr) (pv 2) (pv 4) (fun _ _ => rfl)) rfl)) pss_nil)
        (pss_one (ps_for PassesOwn.never rfl (piL (K := K) rfl (pv 6)) (pg_name (i := 7) sc_full_splits.nd rfl (Or.inl rfl)) (pss_one (ps_daug (hu_of hr) (pv 2) (pv 7) (pe_dget (hu_of hr) (pv 2) (pv 4) (fun _ _ => rfl)) in_add (fun _ _ _ => rfl)))))))
      (pss_one (ps_ret (pv 3)))))), ?_⟩
    refine ⟨_, rfl, a, rfl, ⟨_, ha⟩, fun D hD => dc_stock (Tb := Tb) ha hc hb hnd hz hD (fun _ _ _ => rfl) (fun _ _ _ => rfl) (fun _ _ _ => rfl) fun H1 g1 hD1 => ?_⟩
    have nD : Nw H D := .of hD
    have hlen := Paired.len hc
    intro F hF
    have nF : Nw H F := g1.nw (.of hF)
    have DF : D ≠ F := ne_of_none hD1 hF
    have g2 : Gr Tb H (upd H1 F (.dK [])) := g1.trans (Gr.new hF)
    refine ⟨_, rfl, a, rfl, ⟨_, g2.ext_seq ha⟩, for_list (K := K) (a := a) (xs := xs) (fun i σ H' => ∃ s4 s5 s6 s7 : Option V, σ = [some (.ref a), some (.ref b), some (.ref D), some (.ref F), s4, s5, s6, s7] ∧ Gr Tb H H' ∧ H' D = some (.dK (dS (numOf es (fsS (es.take i) (getD st))))) ∧ H' F = some (.dK (dS (fs (es.take i) (getD st)))))
      ⟨_, _, _, _, rfl, g2, by rw [List.take_zero, upd_ne DF]; exact hD1, by rw [List.take_zero, upd_same]; rfl⟩ (fun i σ H' _ ⟨_, _, _, _, _, g, _⟩ => g.ext_seq ha) ?_ ?_⟩
    · rintro i x σ H2 hx ⟨s4, s5, s6, s7, rfl, g2, hD2, hF2⟩
      obtain ⟨e, he, t, lp, rfl, ht, hlp⟩ := Paired.at hc hx
      have hm := List.mem_of_getElem? he
      have hnm : e.name ∈ es.map (·.name) := List.mem_map.mpr ⟨e, hm, rfl⟩
      have hbe := Behind.at hp hm
      have hlp2 := g2.at hlp .lst
      generalize hfi : fsS (es.take i) (getD st) = g at hD2
      -- found
      have step : ∀ H3, Gr Tb H H3 → H3 D = some (.dK (dS (numOf es g))) → H3 F = some (.dK (dS (fs (es.take (i + 1)) (getD st)))) →
          tFor (iList K (tVar 6)) (gName 7) (sDAug (tVar 2) (tVar 7) (tDGet (tVar 2) (tVar 4)) rAdd)
            ⟨fun σ H' => ∃ s4 s5 s6 s7 : Option V, σ = [some (.ref a), some (.ref b), some (.ref D), some (.ref F), s4, s5, s6, s7] ∧ Gr Tb H H' ∧ H' D = some (.dK (dS (numOf es (fsS (es.take (i + 1)) (getD st))))) ∧ H' F = some (.dK (dS (fs (es.take (i + 1)) (getD st)))), Q,
              fun σ H' => tRet (tVar 3) { nx := fun _ H' => Q .non H', rt := Q } σ H', fun σ H' => ∃ s4 s5 s6 s7 : Option V, σ = [some (.ref a), some (.ref b), some (.ref D), some (.ref F), s4, s5, s6, s7] ∧ Gr Tb H H' ∧ H' D = some (.dK (dS (numOf es (fsS (es.take (i + 1)) (getD st))))) ∧ H' F = some (.dK (dS (fs (es.take (i + 1)) (getD st))))⟩
            [some (.ref a), some (.ref b), some (.ref D), some (.ref F), some (.str e.name), some (.int e.w), some (.ref lp), s7] H3 := by
        intro H3 g3 hD3 hF3
        refine ⟨_, rfl, lp, rfl, ⟨_, SqL.of (g3.at hlp .lst)⟩, for_list (K := K) (a := lp) (xs := e.parts.map V.str) (fun j σ H' => ∃ s7 : Option V, σ = [some (.ref a), some (.ref b), some (.ref D), some (.ref F), some (.str e.name), some (.int e.w), some (.ref lp), s7] ∧ Gr Tb H H' ∧
            H' D = some (.dK (dS (numOf es (addAll g ((e.parts.take j).map fun p => (p, g e.name)))))) ∧ H' F = some (.dK (dS (fs (es.take (i + 1)) (getD st)))))
          ⟨_, rfl, g3, by rw [List.take_zero]; exact hD3, hF3⟩ (fun j σ H' _ ⟨_, _, g, _⟩ => SqL.of (g.at hlp .lst)) ?_ ?_⟩
        · rintro j y σ H4 hy ⟨s7, rfl, g4, hD4, hF4⟩
          rw [List.getElem?_map] at hy
          cases hq : e.parts[j]? with
          | none => rw [hq] at hy; cases hy
          | some q =>
            rw [hq] at hy
            cases hy
            obtain ⟨hqm, hqn⟩ := hbe q (List.mem_of_getElem? hq)
            have same : addAll g ((e.parts.take j).map fun p => (p, g e.name)) e.name = g e.name := by
              rw [addAll_at, amt_zero]
              · omega
              · intro z hz
                obtain ⟨p, hp2, rfl⟩ := List.mem_map.mp hz
                exact (hbe p (List.mem_of_mem_take hp2)).2
            refine ⟨_, rfl, _, rfl, D, _, rfl, dgetS hD4 (get?_numOf hqm), _, rfl, _, rfl, D, _, rfl, dgetS hD4 (get?_numOf hnm), _, _, rfl, rfl, _, dputS hD4 (by rw [numOf_len, sizeLine_eq]; omega), _, rfl, g4.mut nD hD4 .dK, ?_, ?_⟩
            · rw [upd_same, put_numOf hqm, take_snoc hq, List.map_append, same]
              show some (HO.dK (dS (numOf es (upF _ q _)))) = some (HO.dK (dS (numOf es (addAll _ (_ ++ [(q, g e.name)])))))
              rw [addAll_snoc]
            · rw [upd_ne DF.symm]
              exact hF4
        · rintro σ H4 ⟨s7, rfl, g4, hD4, hF4⟩
          refine ⟨_, _, _, _, rfl, g4, ?_, hF4⟩
          rw [List.length_map, List.take_length] at hD4
          rw [take_snoc he, fsS_snoc, hfi]
          exact hD4
      have fsn : fs (es.take (i + 1)) (getD st) = fs (es.take i) (getD st) ++ (if e.parts = [] then [] else [(e.name, g e.name)]) := by rw [take_snoc he, fs_snoc, hfi]
      have notin : e.name ∉ (fs (es.take i) (getD st)).map (·.1) := fun hm2 => take_notin hnd he (fs_names _ _ _ hm2)
      refine gtup3 (g2.at ht .tup) ⟨_, rfl, rd_nil (SqL.of hlp2) fun p hpn => ⟨_, rfl, ?_⟩⟩
      have g3 : Gr Tb H (upd H2 p (.lst [])) := g2.trans (Gr.new hpn)
      have hD3 : upd H2 p (.lst []) D = some (.dK (dS (numOf es g))) := (Gr.new (T := Tb) hpn).at hD2 .dK
      have hF3 : upd H2 p (.lst []) F = some (.dK (dS (fs (es.take i) (getD st)))) := (Gr.new (T := Tb) hpn).at hF2 .dK
      cases hps : e.parts with
      | nil =>
        refine step _ g3 hD3 ?_
        rw [fsn, if_pos hps, List.append_nil]
        exact hF3
      | cons p0 ps =>
        have ne : e.parts ≠ [] := by rw [hps]; simp
        refine ⟨_, rfl, _, rfl, D, _, rfl, dgetS hD3 (get?_numOf hnm), _, rfl, _, rfl, F, _, rfl, dputS hF3 ?_, step _ (g3.mut nF hF3 .dK) ?_ ?_⟩
        · have h1 := fs_len (es.take i) (getD st)
          rw [List.length_take] at h1
          rw [sizeLine_eq]
          omega
        · rw [upd_ne DF]
          exact hD3
        · rw [upd_same, put_snoc notin, fsn, if_neg ne]
    · rintro σ H2 ⟨s4, s5, s6, s7, rfl, g2, hD2, hF2⟩
      rw [hlen, List.take_length] at hF2
      exact ⟨_, rfl, k F H2 g2 nF hF2⟩
end
end Sk
namespace Sk
open PySem PySem.Spec PyProof.Rows L2
abbrev s_check_stock : Stmt := topS 18
abbrev N_check_stock : List Str := ["catalogue", "stock", "names", "name", "entry"]
theorem sc_check_stock : FnScope N_check_stock ["catalogue", "stock"] (defScope s_check_stock) := ⟨rfl, rfl, rfl, by decide +kernel, rfl, by decide +kernel, by decide +kernel⟩
/-- a stock of known names, none below zero -/
structure StockOk (es : List Ent) (st : Num) : Prop where
  nd : (st.map (·.1)).Nodup
  few : st.length < 64
  known : ∀ q ∈ st, q.1 ∈ es.map (·.name)
  pos : ∀ q ∈ st, 0 ≤ q.2
def sp_check_stock (Tb : List (Addr × Str)) (K : PySem.W.Frag) : Sp := fun vs H Q _ => ∃ (a b : Addr) (xs : List V) (es : List Ent) (st : Num), vs = [.ref a, .ref b] ∧ SqL K H a xs ∧ CatAt H xs es ∧ H b = some (.dK (dS st)) ∧ StockOk es st ∧ es.length ≤ 100000 ∧ ∀ H', Gr Tb H H' → Q .non H'
section
variable {P : Program} {w : World} {K : PySem.W.Frag} {mg : Str → Option Value} {base : Heap} {Tb : List (Addr × Str)}
theorem ok_check_stock {f : Addr} {fd : FuncData} (F : FnP K "check_stock" s_check_stock f fd) (T : Tx K mg) : FnOk P w K mg base CX0 1 f fd ["catalogue", "stock"] (sp_check_stock Tb K) := by
  refine F.ok sc_check_stock (fun vs H Q E h => ?_) (fun cdv A outer s H vs Q E hr h => ?_)
  · obtain ⟨_, _, _, _, _, rfl, _⟩ := h
    rfl
  · obtain ⟨a, b, xs, es, st, rfl, ha, hc, hb, ok, hz, k⟩ := h
    refine ⟨_, PSs.nox (pss_cons (ps_setLc (i := 2) (own := [("entry", 4)]) (g := (gName 4)) (tt := tYes) rfl sc_check_stock.nd rfl rfl (sw_true rfl rfl rfl (by decide +kernel)) (piL (K := K) rfl (pv 0)) (blkOk_by (N := N_check_stock) (sc := (defScope s_check_stock)) (by decide +kernel)) (fun _ _ _ _ _ => (pg_name (i := 4) sc_check_stock.nd rfl (Or.inl rfl))) (fun _ _ _ _ _ => pts_nil) (fun _ _ _ _ _ => (pe_ix (ixT (K := K) rfl) (pv 4) pe_int (fun _ _ => rfl))))
      (pss_one (ps_for PassesOwn.never rfl (piL (K := K) rfl (pe_callB (call_sortedD rfl) (by rfl) T.n_sorted (by decide +kernel) (pa_cons (pv 1) pa_nil))) (pg_name (i := 3) sc_check_stock.nd rfl (Or.inl rfl)) (pss_one (ps_if (PW.pt (pw_or (pt_cmpR (opNotIn (K := K) rfl) (pv 3) (pv 2) (by with_unfolding_all rfl)) (pw_or1 (pt_cmpR op_lt (pe_dget (hu_of hr) (pv 1) (pv 3) (fun _ _ => rfl)) pe_int (nomark _))))) (pss_one ps_never) pss_nil))))), ?_⟩
    refine ⟨_, rfl, a, rfl, ⟨_, ha⟩, fun D hD => lc_names (Tb := Tb) ha hc hz hD rfl fun H1 g1 hD1 => ?_⟩
    have hkeys : (dS st).map (·.1) = (st.map (·.1)).map Sum.inr := by
      unfold dS
      rw [List.map_map, List.map_map]
      rfl
    refine ⟨_, rfl, b, _, st.map (·.1), rfl, .inl (g1.at hb .dK), hkeys, by rw [List.length_map]; exact ok.few, fun ys p hp _ hpn => ?_⟩
    have g2 : Gr Tb H (upd H1 p (.lst (ys.map V.str))) := g1.trans (Gr.new hpn)
    refine ⟨p, rfl, ⟨_, SqL.of upd_same⟩, for_list (K := K) (a := p) (xs := ys.map V.str) (fun i σ H' => ∃ s3 s4 : Option V, σ = [some (.ref a), some (.ref b), some (.ref D), s3, s4] ∧ Gr Tb H H' ∧ H' p = some (.lst (ys.map V.str)) ∧ H' D = some (.lst ((es.map (·.name)).map V.str)))
      ⟨_, _, rfl, g2, upd_same, by rw [upd_ne (ne_of_none hD1 hpn)]; exact hD1⟩ (fun i σ H' _ ⟨_, _, _, _, h, _⟩ => SqL.of h) ?_ (fun σ H' ⟨_, _, _, g, _⟩ => k H' g)⟩
    rintro i x σ H2 hx ⟨s3, s4, rfl, g3, hp2, hD2⟩
    rw [List.getElem?_map] at hx
    cases hy : ys[i]? with
    | none => rw [hy] at hx; cases hx
    | some y =>
      rw [hy] at hx
      cases hx
      have hym : y ∈ st.map (·.1) := hp.mem_iff.mp (List.mem_of_getElem? hy)
      obtain ⟨q, hq, rfl⟩ := List.mem_map.mp hym
      have hk := ok.known q hq
      refine ⟨_, rfl, _, rfl, D, _, rfl, .inl (SqL.of hD2), rfl, flat_strs _, _, rfl, ?_⟩
      rw [inV_strs, show (if true = true then !decide (q.1 ∈ es.map (·.name)) else decide (q.1 ∈ es.map (·.name))) = false by rw [if_pos rfl, decide_eq_true hk]; rfl]
      refine ⟨_, rfl, _, rfl, b, _, rfl, dgetS (g3.at hb .dK) (get_some ok.nd hq), _, _, rfl, rfl, _, rfl, ?_⟩
      rw [decide_eq_false (show ¬ q.2 < 0 by have := ok.pos q hq; omega)]
      exact ⟨_, _, rfl, g3, hp2, hD2⟩
end
end Sk
namespace Sk
open PySem PySem.Spec PyProof.Rows L2
abbrev s_check_splits : Stmt := topS 19
abbrev N_check_splits : List Str := ["catalogue", "stock", "splits", "entries", "numbers", "name", "weight", "parts"]
theorem sc_check_splits : FnScope N_check_splits ["catalogue", "stock", "splits"] (defScope s_check_splits) := ⟨rfl, rfl, rfl, by decide +kernel, rfl, by decide +kernel, by decide +kernel⟩
/-- valid splits: of known names, at most as many as there are pieces -/
structure SplitsOk (es : List Ent) (st sp : Num) : Prop where
  nd : (sp.map (·.1)).Nodup
  few : sp.length < 64
  known : ∀ q ∈ sp, q.1 ∈ es.map (·.name)
  fits : ∀ e ∈ es, 0 ≤ getD sp e.name ∧ getD sp e.name ≤ if e.parts = [] then 0 else pn es st sp e.name
def sp_check_splits (Tb : List (Addr × Str)) (K : PySem.W.Frag) : Sp := fun vs H Q _ => ∃ (a b c : Addr) (xs : List V) (es : List Ent) (st sp : Num), vs = [.ref a, .ref b, .ref c] ∧ SqL K H a xs ∧ CatAt H xs es ∧ H b = some (.dK (dS st)) ∧ H c = some (.dK (dS sp)) ∧ LamX.Tabs Tb H ∧ Valid es ∧ SplitsOk es st sp ∧ ∀ H', Gr Tb H H' → Q .non H'
section
variable {P : Program} {w : World} {K : PySem.W.Frag} {mg : Str → Option Value} {base : Heap} {Tb : List (Addr × Str)}
theorem ok_check_splits {f : Addr} {fd : FuncData} (F : FnP K "check_splits" s_check_splits f fd) (T : Tx K mg) (G_ordered : Fn P w K mg base "ordered" 4 ["catalogue"] (sp_ordered Tb K)) (G_piece_numbers : Fn P w K mg base "piece_numbers" 1 ["entries", "stock", "splits"] (sp_piece_numbers Tb K)) : FnOk P w K mg base CX0 5 f fd ["catalogue", "stock", "splits"] (sp_check_splits Tb K) := by
  refine F.ok sc_check_splits (fun vs H Q E h => ?_) (fun cdv A outer s H vs Q E hr h => ?_)
  · obtain ⟨_, _, _, _, _, _, _, rfl, _⟩ := h
    rfl
  · obtain ⟨a, b, c, xs, es, st, sp, rfl, ha, hc, hb, hsp, ht, hv, ok, k⟩ := h
    refine ⟨_, PSs.nox (pss_cons (ps_set (i := 3) sc_check_splits.nd rfl (Or.inl rfl) (pe_fn G_ordered (hr.mono (by decide)) (pa_cons (pv 0) pa_nil)))
      (pss_cons (ps_set (i := 4) sc_check_splits.nd rfl (Or.inl rfl) (pe_fn G_piece_numbers (hr.mono (by decide)) (pa_cons (pv 3) (pa_cons (pv 1) (pa_cons (pv 2) pa_nil)))))
      (pss_cons (ps_for PassesOwn.never rfl (piL (K := K) rfl (pe_callB (call_sortedD rfl) (by rfl) T.n_sorted (by decide +kernel) (pa_cons (pv 2) pa_nil))) (pg_name (i := 5) sc_check_splits.nd rfl (Or.inl rfl)) (pss_one (ps_if (pt_cmp (pc_dnotin (hu_of hr) (pv 5) (pv 4))) (pss_one ps_never) pss_nil)))
      (pss_one (ps_for PassesOwn.never rfl (piL (K := K) rfl (pv 3)) (pg_tup rfl (pgs_cons (pg_name (i := 5) sc_check_splits.nd rfl (Or.inl rfl)) (pgs_cons (pg_name (i := 6) sc_check_splits.nd rfl (Or.inl rfl)) (pgs_cons (pg_name (i := 7) sc_check_splits.nd rfl (Or.inl rfl)) pgs_nil)))) (pss_one (ps_if (pt_not (pt_chain op_le op_le pe_int (pe_dget2 (hu_of hr) (pv 2) (pv 5) pe_int ⟨rfl, rfl, rfl, rfl⟩) (pe_ifExp (pt_cmpR (opNeNil (K := K) rfl hr.units) (pv 7) (pe_lst pa_nil) (nomark _)) (pe_dget (hu_of hr) (pv 4) (pv 5) (fun _ _ => rfl)) pe_int))) (pss_one ps_never) pss_nil))))))), ?_⟩
    refine ⟨_, rfl, a, xs, es, rfl, ha, hc, ht, hv.few, fun r H1 ys es' hp ho hc1 g1 hr => ?_⟩
    have g2 : Gr Tb H (upd H1 r (.lst ys)) := g1.trans (Gr.new hr)
    have hc2 : CatAt (upd H1 r (.lst ys)) ys es' := CatAt.gr g2 hc1
    have hv' := hv.perm hp
    refine ⟨_, rfl, _, rfl, _, rfl, r, b, c, ys, es', st, sp, rfl, SqL.of upd_same, hc2, g2.at hb .dK, g2.at hsp .dK, hv'.nodup, hv'.known, hv'.few, fun N H2 g3 hN hN2 => ?_⟩
    rw [pn_perm hp] at hN2
    have hr2 := g3.at (upd_same (H := H1) (a := r) (o := .lst ys)) .lst
    have g4 := g2.trans g3
    have hc3 : CatAt H2 ys es' := CatAt.gr g3 hc2
    have hkeys : (dS sp).map (·.1) = (sp.map (·.1)).map Sum.inr := by
      unfold dS
      rw [List.map_map, List.map_map]
      rfl
    refine ⟨_, rfl, c, _, sp.map (·.1), rfl, .inl (g4.at hsp .dK), hkeys, by rw [List.length_map]; exact ok.few, fun zs p hpz _ hpn => ?_⟩
    have g5 : Gr Tb H2 (upd H2 p (.lst (zs.map V.str))) := Gr.new hpn
    have nm : ∀ x, x ∈ es.map (·.name) → x ∈ es'.map (·.name) := fun x hx => (hp.map _).mem_iff.mpr hx
    refine ⟨p, rfl, ⟨_, SqL.of upd_same⟩, for_list (K := K) (a := p) (xs := zs.map V.str) (fun i σ H' => ∃ s5 : Option V, σ = [some (.ref a), some (.ref b), some (.ref c), some (.ref r), some (.ref N), s5, none, none] ∧ Gr Tb H2 H' ∧ H' p = some (.lst (zs.map V.str)))
      ⟨_, rfl, g5, upd_same⟩ (fun i σ H' _ ⟨_, _, _, h⟩ => SqL.of h) ?_ (fun σ H3 ⟨s5, e, g6, _⟩ => ?_)⟩
    · rintro i x σ H3 hx ⟨s5, rfl, g6, hp3⟩
      rw [List.getElem?_map] at hx
      cases hy : zs[i]? with
      | none => rw [hy] at hx; cases hx
      | some y =>
        rw [hy] at hx
        cases hx
        have hym : y ∈ sp.map (·.1) := hpz.mem_iff.mp (List.mem_of_getElem? hy)
        obtain ⟨q, hq, rfl⟩ := List.mem_map.mp hym
        refine ⟨_, rfl, _, rfl, N, _, rfl, dgetO (g6.at hN2 .dK) q.1, _, rfl, ?_⟩
        rw [get?_numOf (nm _ (ok.known q hq))]
        exact ⟨_, rfl, g6, hp3⟩
    · subst e
      refine ⟨_, rfl, r, rfl, ⟨_, SqL.of (g6.at hr2 .lst)⟩, for_list (K := K) (a := r) (xs := ys) (fun i σ H' => ∃ s5 s6 s7 : Option V, σ = [some (.ref a), some (.ref b), some (.ref c), some (.ref r), some (.ref N), s5, s6, s7] ∧ Gr Tb H2 H')
        ⟨_, _, _, rfl, g6⟩ (fun i σ H' _ ⟨_, _, _, _, g⟩ => SqL.of (g.at hr2 .lst)) ?_ (fun σ H' ⟨_, _, _, _, g⟩ => k H' (g4.trans g))⟩
      rintro i x σ H4 hx ⟨s5, s6, s7, rfl, g7⟩
      obtain ⟨e, he, t, lp, rfl, ht1, hlp⟩ := Paired.at hc3 hx
      have hm : e ∈ es := hp.mem_iff.mp (List.mem_of_getElem? he)
      obtain ⟨f1, f2⟩ := ok.fits e hm
      have hsp4 := (g4.trans g7).at hsp .dK
      refine gtup3 (g7.at ht1 .tup) ⟨_, rfl, c, rfl, IsD.num hsp4, _, rfl, _, dgetO hsp4 e.name, ?_⟩
      rw [getO]
      refine ⟨_, _, rfl, rfl, _, rfl, ?_⟩
      rw [decide_eq_true f1]
      refine ⟨_, rfl, rd_nil (SqL.of (g7.at hlp .lst)) fun q hqn => ⟨_, rfl, ?_⟩⟩
      have g8 : Gr Tb H2 (upd H4 q (.lst [])) := g7.trans (Gr.new hqn)
      cases hps : e.parts with
      | nil =>
        rw [if_pos hps] at f2
        refine ⟨_, _, rfl, rfl, _, rfl, ?_⟩
        rw [decide_eq_true f2]
        exact ⟨_, _, _, rfl, g8⟩
      | cons p0 ps =>
        rw [if_neg (by rw [hps]; simp)] at f2
        refine ⟨_, rfl, _, rfl, N, _, rfl, dgetS (g8.at hN2 .dK) (get?_numOf (nm _ (List.mem_map.mpr ⟨e, hm, rfl⟩))), _, _, rfl, rfl, _, rfl, ?_⟩
        rw [decide_eq_true f2]
        exact ⟨_, _, _, rfl, g8⟩
end
end Sk
namespace Sk
open PySem PySem.Spec PyProof.Rows L2
theorem behind_of : ∀ {es : List Ent}, Ordered es → (es.map (·.name)).Nodup → (∀ e ∈ es, ∀ p ∈ e.parts, ∃ e' ∈ es, e'.name = p ∧ e'.w < e.w) → (∀ e ∈ es, ∀ e' ∈ es, e'.name = e.name → e' = e) → Behind es := by
  intro es
  suffices h : ∀ (l : List Ent) (m : List Ent), Ordered (m ++ l) → ((m ++ l).map (·.name)).Nodup → (∀ e ∈ l, ∀ p ∈ e.parts, ∃ e' ∈ m ++ l, e'.name = p ∧ e'.w < e.w) → Behind l from fun ho hn hp _ => h es [] ho hn hp
  intro l
  induction l with
  | nil => intro _ _ _ _; exact trivial
  | cons e l ih =>
    intro m ho hn hp
    refine ⟨fun p hpp => ?_, ih (m ++ [e]) (by rw [List.append_assoc]; exact ho) (by rw [List.append_assoc]; exact hn) fun e2 he2 p hpp => ?_⟩
    · obtain ⟨e', he', rfl, hw⟩ := hp e (List.mem_cons_self ..) p hpp
      have ne : e' ≠ e := fun z => by rw [z] at hw; omega
      have hl : e' ∈ l := by
        rcases List.mem_append.mp he' with z | z
        · have h1 : kLt e.key e'.key = false := (List.pairwise_append.mp ho).2.2 e' z e (List.mem_cons_self ..)
          rcases kLt_no.mp h1 with h2 | ⟨h2, _⟩
          · have h3 : (0 : Int) - e'.w < 0 - e.w := h2
            omega
          · have h3 : (0 : Int) - e.w = 0 - e'.w := h2
            omega
        · exact (List.mem_cons.mp z).resolve_left ne
      refine ⟨List.mem_map.mpr ⟨e', hl, rfl⟩, fun z => ?_⟩
      rw [List.map_append, List.map_cons] at hn
      have h1 := (List.nodup_append.mp hn).2.1
      rw [List.nodup_cons] at h1
      exact h1.1 (List.mem_map.mpr ⟨e', hl, z⟩)
    · obtain ⟨e', he', h1, h2⟩ := hp e2 (List.mem_cons_of_mem _ he2) p hpp
      exact ⟨e', by rw [List.append_assoc]; exact he', h1, h2⟩
theorem Valid.behind {es : List Ent} (v : Valid es) (o : Ordered es) : Behind es := behind_of o v.nodup v.lighter fun e he e' he' z => by
  obtain ⟨i, hi⟩ := List.mem_iff_getElem?.mp he
  obtain ⟨j, hj⟩ := List.mem_iff_getElem?.mp he'
  have ij : j = i := nodup_ix v.nodup (x := e.name) (by rw [List.getElem?_map, hj, ← z]; rfl) (by rw [List.getElem?_map, hi]; rfl)
  rw [ij, hi] at hj
  exact (Option.some.inj hj).symm
theorem getD_pos {d : Num} (h : ∀ q ∈ d, 0 ≤ q.2) (x : Str) : 0 ≤ getD d x := by
  unfold getD get?
  cases q : d.find? fun q => decide (q.1 = x) with
  | none => exact Int.le_refl _
  | some z => exact h z (List.mem_of_find?_eq_some q)
end Sk
namespace Sk
open PySem PySem.Spec PyProof.Rows L2
/-! how many splits one piece needs -/
def sumE (es : List Ent) (g : Str → Int) : Int := (es.map fun e => g e.name).sum
def IsNeed (es : List Ent) (g : Str → Int) : Prop := ∀ e ∈ es, g e.name = (if e.parts = [] then 0 else 1) + (e.parts.map g).sum
theorem sumE_cons (e : Ent) (es : List Ent) (g : Str → Int) : sumE (e :: es) g = g e.name + sumE es g := by
  unfold sumE
  rw [List.map_cons, List.sum_cons]
theorem sumE_add (es : List Ent) (g h : Str → Int) : sumE es (fun x => g x + h x) = sumE es g + sumE es h := by
  induction es with
  | nil => rfl
  | cons e es ih =>
    rw [sumE_cons, sumE_cons, sumE_cons, ih]
    omega
theorem sumE_congr {es : List Ent} {g h : Str → Int} (e : ∀ x ∈ es, g x.name = h x.name) : sumE es g = sumE es h := by
  unfold sumE
  rw [List.map_congr_left e]
theorem sumE_zero {es : List Ent} {g : Str → Int} (h : ∀ e ∈ es, g e.name = 0) : sumE es g = 0 := by
  induction es with
  | nil => rfl
  | cons e es ih =>
    rw [sumE_cons, h e (List.mem_cons_self ..), ih fun x hx => h x (List.mem_cons_of_mem _ hx)]
    rfl
theorem sumE_nonneg {es : List Ent} {g : Str → Int} (h : ∀ e ∈ es, 0 ≤ g e.name) : 0 ≤ sumE es g := by
  induction es with
  | nil => exact Int.le_refl _
  | cons e es ih =>
    rw [sumE_cons]
    have h1 := h e (List.mem_cons_self ..)
    have h2 := ih fun x hx => h x (List.mem_cons_of_mem _ hx)
    omega
theorem sumE_zero_at {es : List Ent} {g : Str → Int} (h : ∀ e ∈ es, 0 ≤ g e.name) (z : sumE es g = 0) : ∀ e ∈ es, g e.name = 0 := by
  induction es with
  | nil => intro e he; cases he
  | cons a es ih =>
    rw [sumE_cons] at z
    have h1 := h a (List.mem_cons_self ..)
    have h2 := sumE_nonneg fun x hx => h x (List.mem_cons_of_mem _ hx)
    intro e he
    rcases List.mem_cons.mp he with rfl | he
    · omega
    · exact ih (fun x hx => h x (List.mem_cons_of_mem _ hx)) (by omega) e he
theorem sumE_pick {es : List Ent} {x : Str} {c : Int} (nd : (es.map (·.name)).Nodup) (h : x ∈ es.map (·.name)) : sumE es (fun y => if x = y then c else 0) = c := by
  induction es with
  | nil => cases h
  | cons e es ih =>
    rw [sumE_cons]
    rw [List.map_cons, List.nodup_cons] at nd
    rw [List.map_cons] at h
    by_cases q : x = e.name
    · rw [if_pos q, sumE_zero fun a ha => if_neg fun z => nd.1 (List.mem_map.mpr ⟨a, ha, z.symm.trans q⟩)]
      omega
    · rw [if_neg q, ih nd.2 ((List.mem_cons.mp h).resolve_left q)]
      omega
theorem sumE_amt {es : List Ent} (nd : (es.map (·.name)).Nodup) (g : Str → Int) : ∀ {l : Num}, (∀ q ∈ l, q.1 ∈ es.map (·.name)) → sumE es (fun x => amt l x * g x) = (l.map fun q => q.2 * g q.1).sum
  | [], _ => by
    rw [sumE_zero fun e _ => by show (0 : Int) * _ = 0; rw [Int.zero_mul]]
    rfl
  | q :: l, h => by
    rw [List.map_cons, List.sum_cons, ← sumE_amt nd g fun z hz => h z (List.mem_cons_of_mem _ hz), ← sumE_pick (c := q.2 * g q.1) nd (h q (List.mem_cons_self ..)), ← sumE_add]
    refine sumE_congr fun e _ => ?_
    show amt (q :: l) e.name * g e.name = (if q.1 = e.name then q.2 * g q.1 else 0) + amt l e.name * g e.name
    rw [amt_cons, Int.add_mul]
    by_cases c : q.1 = e.name
    · rw [if_pos c, if_pos c, c]
    · rw [if_neg c, if_neg c, Int.zero_mul]
theorem sum_mul (c : Int) (g : Str → Int) (l : List Str) : (l.map fun p => c * g p).sum = c * (l.map g).sum := by
  induction l with
  | nil => rw [List.map_nil, List.map_nil, List.sum_nil, Int.mul_zero]
  | cons p l ih => rw [List.map_cons, List.map_cons, List.sum_cons, List.sum_cons, ih, Int.mul_add]
theorem IsNeed.tail {e : Ent} {es : List Ent} {g : Str → Int} (h : IsNeed (e :: es) g) : IsNeed es g := fun x hx => h x (List.mem_cons_of_mem _ hx)
/-- all splits: for each piece as many as it needs -/
theorem total_need : ∀ {es : List Ent} (f g : Str → Int), Behind es → (es.map (·.name)).Nodup → IsNeed es g → ((fs es f).map (·.2)).sum = sumE es (fun x => f x * g x)
  | [], _, _, _, _, _ => rfl
  | e :: es, f, g, b, nd, n => by
    rw [List.map_cons, List.nodup_cons] at nd
    rw [fs, List.map_append, List.sum_append, total_need _ g b.2 nd.2 n.tail, sumE_cons]
    have h1 : sumE es (fun x => addAll f (e.parts.map fun p => (p, f e.name)) x * g x) = sumE es (fun x => f x * g x) + f e.name * (e.parts.map g).sum := by
      have h2 := sumE_amt nd.2 g (l := e.parts.map fun p => (p, f e.name)) fun q hq => by
        obtain ⟨p, hp, rfl⟩ := List.mem_map.mp hq
        exact (b.1 p hp).1
      rw [List.map_map] at h2
      have h3 : ((fun q : Str × Int => q.2 * g q.1) ∘ fun p => (p, f e.name)) = fun p => f e.name * g p := rfl
      rw [h3, sum_mul] at h2
      rw [← h2, ← sumE_add]
      refine sumE_congr fun x _ => ?_
      show addAll f _ x.name * g x.name = f x.name * g x.name + amt _ x.name * g x.name
      rw [addAll_at, Int.add_mul]
    rw [h1, n e (List.mem_cons_self ..)]
    by_cases c : e.parts = []
    · rw [if_pos c, if_pos c, c]
      simp
    · rw [if_neg c, if_neg c]
      show ([f e.name] : List Int).sum + _ = _
      rw [Int.mul_add, List.sum_cons, List.sum_nil]
      omega
theorem Behind.known : ∀ {es : List Ent}, Behind es → ∀ e ∈ es, ∀ p ∈ e.parts, p ∈ es.map (·.name) := fun b e he p hp => (Behind.at b he p hp).1
theorem need_ex : ∀ {es : List Ent}, Behind es → (es.map (·.name)).Nodup → ∃ g, IsNeed es g ∧ ∀ e ∈ es, 0 ≤ g e.name
  | [], _, _ => ⟨fun _ => 0, (fun _ h => by cases h), (fun _ h => by cases h)⟩
  | e :: es, b, nd => by
    rw [List.map_cons, List.nodup_cons] at nd
    obtain ⟨g, n, p⟩ := need_ex b.2 nd.2
    have other : ∀ x ∈ es.map (·.name), upF g e.name ((if e.parts = [] then 0 else 1) + (e.parts.map g).sum) x = g x := fun x hx => by
      unfold upF
      rw [if_neg]
      intro z
      rw [z] at hx
      exact nd.1 hx
    have self : upF g e.name ((if e.parts = [] then 0 else 1) + (e.parts.map g).sum) e.name = (if e.parts = [] then 0 else 1) + (e.parts.map g).sum := if_pos rfl
    have pos : ∀ l : List Str, (∀ x ∈ l, x ∈ es.map (·.name)) → 0 ≤ (l.map g).sum := by
      intro l
      induction l with
      | nil => intro _; exact Int.le_refl _
      | cons x l ih =>
        intro h
        rw [List.map_cons, List.sum_cons]
        obtain ⟨a, ha, rfl⟩ := List.mem_map.mp (h x (List.mem_cons_self ..))
        have h1 := p a ha
        have h2 := ih fun y hy => h y (List.mem_cons_of_mem _ hy)
        omega
    refine ⟨upF g e.name ((if e.parts = [] then 0 else 1) + (e.parts.map g).sum), fun a ha => ?_, fun a ha => ?_⟩
    · rcases List.mem_cons.mp ha with rfl | ha
      · rw [self, List.map_congr_left fun q hq => other q (b.1 q hq).1]
      · rw [other _ (List.mem_map.mpr ⟨a, ha, rfl⟩), n a ha, List.map_congr_left fun q hq => other q (b.2.known a ha q hq)]
    · rcases List.mem_cons.mp ha with rfl | ha
      · rw [self]
        have := pos a.parts fun x hx => (b.1 x hx).1
        split <;> omega
      · rw [other _ (List.mem_map.mpr ⟨a, ha, rfl⟩)]
        exact p a ha
/-- the amounts, entry by entry -/
theorem amt_incs (es : List Ent) (f : Str → Int) (x : Str) : amt (incs es f) x = (es.map fun e => f e.name * amt (ones e.parts) x).sum := by
  have one : ∀ (l : List Str) (c : Int), amt (l.map fun p => (p, c)) x = c * amt (ones l) x := by
    intro l c
    induction l with
    | nil =>
      show (0 : Int) = c * 0
      omega
    | cons p l ih =>
      unfold ones at ih ⊢
      rw [List.map_cons, List.map_cons, amt_cons, amt_cons, ih, Int.mul_add]
      show (if p = x then c else 0) + _ = c * (if p = x then 1 else 0) + _
      split <;> omega
  induction es with
  | nil => rfl
  | cons e es ih =>
    unfold incs at ih ⊢
    rw [List.flatMap_cons, amt_append, ih, List.map_cons, List.sum_cons, one]
/-- one split more of the kind e0 -/
theorem pn_put {es : List Ent} (nd : (es.map (·.name)).Nodup) {e0 : Ent} (h0 : e0 ∈ es) (st c : Num) (x : Str) : pn es st (put c e0.name (getD c e0.name + 1)) x = pn es st c x + amt (ones e0.parts) x := by
  rw [pn_at, pn_at, amt_incs, amt_incs, Int.add_assoc]
  congr 1
  induction es with
  | nil => cases h0
  | cons e es ih =>
    rw [List.map_cons, List.sum_cons, List.map_cons, List.sum_cons]
    rw [List.map_cons, List.nodup_cons] at nd
    rcases List.mem_cons.mp h0 with rfl | h0
    · have h1 : (es.map fun e => getD (put c e0.name (getD c e0.name + 1)) e.name * amt (ones e.parts) x) = es.map fun e => getD c e.name * amt (ones e.parts) x := List.map_congr_left fun a ha => by
        rw [getD_put, if_neg fun z => nd.1 (List.mem_map.mpr ⟨a, ha, z⟩)]
      rw [h1, getD_put, if_pos rfl, Int.add_mul, Int.one_mul]
      omega
    · rw [ih nd.2 h0, getD_put, if_neg (show ¬ e.name = e0.name from fun z => nd.1 (List.mem_map.mpr ⟨e0, h0, z.symm⟩))]
      omega
/-- what the whole pieces need -/
theorem whole_need {es : List Ent} {g : Str → Int} (nd : (es.map (·.name)).Nodup) (kn : ∀ e ∈ es, ∀ p ∈ e.parts, p ∈ es.map (·.name)) (n : IsNeed es g) (st c : Num) (hat : ∀ e ∈ es, e.parts = [] → getD c e.name = 0) :
    sumE es (fun x => (pn es st c x - getD c x) * g x) = sumE es (fun x => getD st x * g x) - sumE es (getD c) := by
  have h1 : sumE es (fun x => amt (incs es (getD c)) x * g x) = sumE es (fun x => getD c x * g x) - sumE es (getD c) := by
    rw [sumE_amt nd g fun q hq => by
      unfold incs at hq
      obtain ⟨e, he, h2⟩ := List.mem_flatMap.mp hq
      obtain ⟨p, hp, rfl⟩ := List.mem_map.mp h2
      exact kn e he p hp]
    have key : ∀ l : List Ent, (∀ e ∈ l, e ∈ es) → ((incs l (getD c)).map fun q => q.2 * g q.1).sum = sumE l (fun x => getD c x * g x) - sumE l (getD c) := by
      intro l
      induction l with
      | nil => intro _; rfl
      | cons e l ih =>
        intro hl
        have he := hl e (List.mem_cons_self ..)
        have e1 : incs (e :: l) (getD c) = (e.parts.map fun p => (p, getD c e.name)) ++ incs l (getD c) := by
          unfold incs
          rw [List.flatMap_cons]
        rw [e1, List.map_append, List.sum_append, ih fun x hx => hl x (List.mem_cons_of_mem _ hx), sumE_cons, sumE_cons, List.map_map]
        have e2 : ((fun q : Str × Int => q.2 * g q.1) ∘ fun p => (p, getD c e.name)) = fun p => getD c e.name * g p := rfl
        rw [e2, sum_mul, n e he]
        by_cases q : e.parts = []
        · rw [hat e he q]
          omega
        · rw [if_neg q, Int.mul_add, Int.mul_one]
          omega
    exact key es fun _ h => h
  have h2 : sumE es (fun x => (pn es st c x - getD c x) * g x) = sumE es (fun x => getD st x * g x) + sumE es (fun x => amt (incs es (getD c)) x * g x) + sumE es (fun x => (0 - getD c x) * g x) := by
    rw [← sumE_add, ← sumE_add]
    refine sumE_congr fun e _ => ?_
    show (pn es st c e.name - getD c e.name) * g e.name = getD st e.name * g e.name + amt _ e.name * g e.name + (0 - getD c e.name) * g e.name
    rw [pn_at, ← Int.add_mul, ← Int.add_mul]
    congr 1
    omega
  have h3 : sumE es (fun x => (0 - getD c x) * g x) + sumE es (fun x => getD c x * g x) = 0 := by
    rw [← sumE_add]
    exact sumE_zero fun e _ => by
      show (0 - getD c e.name) * g e.name + getD c e.name * g e.name = 0
      rw [← Int.add_mul]
      have : (0 - getD c e.name + getD c e.name) = 0 := by omega
      rw [this, Int.zero_mul]
  omega
end Sk
namespace Sk
open PySem PySem.Spec PyProof.Rows L2
abbrev s_total_splits : Stmt := topS 20
abbrev N_total_splits : List Str := ["catalogue", "stock"]
theorem sc_total_splits : FnScope N_total_splits ["catalogue", "stock"] (defScope s_total_splits) := ⟨rfl, rfl, rfl, by decide +kernel, rfl, by decide +kernel, by decide +kernel⟩
def sp_total_splits (Tb : List (Addr × Str)) (K : PySem.W.Frag) : Sp := fun vs H Q _ => ∃ (a b : Addr) (xs : List V) (es : List Ent) (st : Num), vs = [.ref a, .ref b] ∧ SqL K H a xs ∧ CatAt H xs es ∧ H b = some (.dK (dS st)) ∧ LamX.Tabs Tb H ∧ Valid es ∧ StockOk es st ∧
  ∀ H' es', es'.Perm es → Ordered es' → Gr Tb H H' → Q (.int ((fs es' (getD st)).map (·.2)).sum) H'

section
variable {P : Program} {w : World} {K : PySem.W.Frag} {mg : Str → Option Value} {base : Heap} {Tb : List (Addr × Str)}
theorem ok_total_splits {f : Addr} {fd : FuncData} (F : FnP K "total_splits" s_total_splits f fd) (T : Tx K mg) (G_check_catalogue : Fn P w K mg base "check_catalogue" 3 ["catalogue"] (sp_check_catalogue Tb K)) (G_check_stock : Fn P w K mg base "check_stock" 1 ["catalogue", "stock"] (sp_check_stock Tb K)) (G_full_splits : Fn P w K mg base "full_splits" 1 ["entries", "stock"] (sp_full_splits Tb K)) (G_ordered : Fn P w K mg base "ordered" 4 ["catalogue"] (sp_ordered Tb K)) : FnOk P w K mg base CX0 5 f fd ["catalogue", "stock"] (sp_total_splits Tb K) := by
  refine F.ok sc_total_splits (fun vs H Q E h => ?_) (fun cdv A outer s H vs Q E hr h => ?_)
  · obtain ⟨_, _, _, _, _, rfl, _⟩ := h
    rfl
  · obtain ⟨a, b, xs, es, st, rfl, ha, hc, hb, ht, hv, so, k⟩ := h
    refine ⟨_, PSs.nox (pss_cons (ps_expr (pe_fn G_check_catalogue (hr.mono (by decide)) (pa_cons (pv 0) pa_nil)))
      (pss_cons (ps_expr (pe_fn G_check_stock (hr.mono (by decide)) (pa_cons (pv 0) (pa_cons (pv 1) pa_nil))))
      (pss_one (ps_ret (pe_sumVals rfl (by rfl) T.n_sum (pe_fn G_full_splits (hr.mono (by decide)) (pa_cons (pe_fn G_ordered (hr.mono (by decide)) (pa_cons (pv 0) pa_nil)) (pa_cons (pv 1) pa_nil)))))))), ?_⟩
    refine ⟨_, rfl, a, xs, es, rfl, ha, hc, hv, fun H1 g1 => ?_⟩
    refine ⟨_, rfl, _, rfl, a, b, xs, es, st, rfl, g1.ext_seq ha, CatAt.gr g1 hc, g1.at hb .dK, so, hv.few, fun H2 g2 => ?_⟩
    have g12 := g1.trans g2
    refine ⟨_, rfl, a, xs, es, rfl, g12.ext_seq ha, CatAt.gr g12 hc, g12.tab ht, hv.few, fun r H4 ys es' hp ho hc4 g4 hr => ?_⟩
    have g5 : Gr Tb H2 (upd H4 r (.lst ys)) := g4.trans (Gr.new hr)
    have hc5 : CatAt (upd H4 r (.lst ys)) ys es' := CatAt.gr g5 hc4
    have hv' := hv.perm hp
    have g15 := g12.trans g5
    refine ⟨_, rfl, r, b, ys, es', st, rfl, SqL.of upd_same, hc5, g15.at hb .dK, hv'.nodup, hv'.behind ho, hv'.few, fun N H6 g6 hN hN6 => ?_⟩
    refine ⟨N, _, (fs es' (getD st)).map (·.2), rfl, hN6, ?_, k H6 es' hp ho (g15.trans g6)⟩
    unfold dS
    rw [List.map_map, List.map_map]
    rfl
end
end Sk
namespace Sk
open PySem PySem.Spec PyProof.Rows L2
abbrev s_first_splits : Stmt := topS 22
abbrev N_first_splits : List Str := ["entries", "stock", "number", "found", "name", "most"]
theorem sc_first_splits : FnScope N_first_splits ["entries", "stock", "number"] (defScope s_first_splits) := ⟨rfl, rfl, rfl, by decide +kernel, rfl, by decide +kernel, by decide +kernel⟩
/-- from the first on, as many as are left -/
def greedy : Num → Int → Num
  | [], _ => []
  | q :: l, n => (q.1, if q.2 < n then q.2 else n) :: greedy l (n - if q.2 < n then q.2 else n)
def sp_first_splits (Tb : List (Addr × Str)) (K : PySem.W.Frag) : Sp := fun vs H Q _ => ∃ (a b : Addr) (xs : List V) (es : List Ent) (st : Num) (n : Int), vs = [.ref a, .ref b, .int n] ∧ SqL K H a xs ∧ CatAt H xs es ∧ H b = some (.dK (dS st)) ∧ (es.map (·.name)).Nodup ∧ Behind es ∧ es.length ≤ 100000 ∧
  ∀ r H', Gr Tb H H' → Nw H r → H' r = some (.dK (dS (greedy (fs es (getD st)) n))) → Q (.ref r) H'
/-- how many are left behind -/
def leftN : Num → Int → Int
  | [], n => n
  | q :: l, n => leftN l (n - if q.2 < n then q.2 else n)
theorem leftN_snoc (q : Str × Int) : ∀ (l : Num) (n : Int), leftN (l ++ [q]) n = leftN l n - if q.2 < leftN l n then q.2 else leftN l n
  | [], _ => rfl
  | _ :: l, n => leftN_snoc q l _
theorem greedy_snoc (q : Str × Int) : ∀ (l : Num) (n : Int), greedy (l ++ [q]) n = greedy l n ++ [(q.1, if q.2 < leftN l n then q.2 else leftN l n)]
  | [], _ => rfl
  | x :: l, n => by
    show _ :: greedy (l ++ [q]) _ = _ :: (greedy l _ ++ _)
    rw [greedy_snoc q l]
    rfl
theorem greedy_names : ∀ (l : Num) (n : Int), (greedy l n).map (·.1) = l.map (·.1)
  | [], _ => rfl
  | q :: l, n => by
    show q.1 :: (greedy l _).map (·.1) = q.1 :: l.map (·.1)
    rw [greedy_names l]
theorem greedy_len (l : Num) (n : Int) : (greedy l n).length = l.length := by
  have := congrArg List.length (greedy_names l n)
  rwa [List.length_map, List.length_map] at this
theorem fs_nodup : ∀ {l : List Ent} (f : Str → Int), (l.map (·.name)).Nodup → ((fs l f).map (·.1)).Nodup
  | [], _, _ => List.nodup_nil
  | e :: l, f, h => by
    rw [List.map_cons, List.nodup_cons] at h
    rw [fs, List.map_append]
    refine List.nodup_append.mpr ⟨by split <;> simp, fs_nodup _ h.2, fun x hx y hy => ?_⟩
    intro z
    have h2 := fs_names l _ y hy
    split at hx
    · cases hx
    · rw [List.map_cons, List.map_nil] at hx
      have h3 : x = e.name := List.mem_singleton.mp hx
      exact h.1 (by rw [← h3, z]; exact h2)
theorem take_notin1 {d : Num} (nd : (d.map (·.1)).Nodup) {i : Nat} {q : Str × Int} (h : d[i]? = some q) : q.1 ∉ (d.take i).map (·.1) := fun hm => by
  obtain ⟨j, hj⟩ := List.mem_iff_getElem?.mp hm
  have hlt : j < ((d.take i).map (·.1)).length := (List.getElem?_eq_some_iff.mp hj).1
  rw [List.length_map, List.length_take] at hlt
  rw [List.getElem?_map, List.getElem?_take_of_lt (by omega)] at hj
  have := nodup_ix nd (x := q.1) (by rw [List.getElem?_map]; exact hj) (by rw [List.getElem?_map, h]; rfl)
  omega
section
variable {P : Program} {w : World} {K : PySem.W.Frag} {mg : Str → Option Value} {base : Heap} {Tb : List (Addr × Str)}
theorem ok_first_splits {f : Addr} {fd : FuncData} (F : FnP K "first_splits" s_first_splits f fd) (T : Tx K mg) (G_full_splits : Fn P w K mg base "full_splits" 1 ["entries", "stock"] (sp_full_splits Tb K)) : FnOk P w K mg base CX0 2 f fd ["entries", "stock", "number"] (sp_first_splits Tb K) := by
  refine F.ok sc_first_splits (fun vs H Q E h => ?_) (fun cdv A outer s H vs Q E hr h => ?_)
  · obtain ⟨_, _, _, _, _, _, rfl, _⟩ := h
    rfl
  · obtain ⟨a, b, xs, es, st, n, rfl, ha, hc, hb, hnd, hbe, hz, k⟩ := h
    refine ⟨_, PSs.nox (pss_cons (ps_set (i := 3) sc_first_splits.nd rfl (Or.inl rfl) pe_dnewK)
      (pss_cons (ps_for PassesOwn.never rfl (pi_items (pe_lockV (pe_fn G_full_splits (hr.mono (by decide)) (pa_cons (pv 0) (pa_cons (pv 1) pa_nil))))) (pg_tup rfl (pgs_cons (pg_name (i := 4) sc_first_splits.nd rfl (Or.inl rfl)) (pgs_cons (pg_name (i := 5) sc_first_splits.nd rfl (Or.inl rfl)) pgs_nil))) (pss_cons (ps_dput (hu_of hr) (pv 3) (pv 4) (pe_callB (call_min2 rfl) (by rfl) T.n_min (by decide +kernel) (pa_cons (pv 2) (pa_cons (pv 5) pa_nil))) rfl)
        (pss_one (ps_aug (i := 2) sc_first_splits.nd rfl (Or.inl rfl) (pe_dget (hu_of hr) (pv 3) (pv 4) (fun _ _ => rfl)) ip_sub))))
      (pss_one (ps_ret (pv 3))))), ?_⟩
    intro F hF
    have nF : Nw H F := .of hF
    have g0 : Gr Tb H (upd H F (.dK [])) := Gr.new hF
    refine ⟨_, rfl, _, rfl, a, b, xs, es, st, rfl, g0.ext_seq ha, CatAt.gr g0 hc, g0.at hb .dK, hnd, hbe, hz, fun r H1 g1 hr hr1 => ?_⟩
    refine ⟨r, _, rfl, hr1, trivial, fun od => ?_⟩
    have g01 := g0.trans g1
    have hF1 := g1.at (upd_same (H := H) (a := F) (o := .dK [])) .dK
    have rF : r ≠ F := fun z => by
      obtain ⟨ps, e⟩ := hr _ (by rw [z]; exact upd_same)
      cases e
    have g2 : Gr Tb H (upd H1 r (.frz od (.dK (dS (fs es (getD st)))))) := g01.mut (g0.nw hr) hr1 .dK
    have hfl := fs_len es (getD st)
    have nd := fs_nodup (getD st) hnd
    generalize fs es (getD st) = d at hr1 g2 hfl nd k
    refine ⟨r, od, _, rfl, upd_same, for_it walk_items (fun i σ H' => ∃ s4 s5 : Option V, σ = [some (.ref a), some (.ref b), some (.int (leftN (d.take i) n)), some (.ref F), s4, s5] ∧ Gr Tb H H' ∧ H' r = some (.frz od (.dK (dS d))) ∧ H' F = some (.dK (dS (greedy (d.take i) n))))
      ⟨_, _, rfl, g2, upd_same, by rw [upd_ne (Ne.symm rF)]; exact hF1⟩ (fun _ _ _ _ ⟨_, _, _, _, h, _⟩ => h) ?_ ?_⟩
    · rintro i x σ H2 H3 hi ⟨s4, s5, rfl, g3, hr2, hF2⟩ ⟨T, u, v, e0, e1, e2, e3, e4⟩
      subst e2
      subst e0
      rw [dS_len] at hi
      obtain ⟨q, hq⟩ : ∃ q, d[i]? = some q := ⟨_, List.getElem?_eq_getElem hi⟩
      have hq2 : (dS d)[i]? = some (Sum.inr q.1, V.int q.2) := by
        unfold dS
        rw [List.getElem?_map, hq]
        rfl
      have e3' : (dS d)[i]?.map (fun kv => kV kv.1) = some u := e3
      have e4' : (dS d)[i]?.map Prod.snd = some v := e4
      rw [hq2] at e3' e4'
      cases e3'
      cases e4'
      have gT : Gr Tb H2 (upd H2 T (.tup [V.str q.1, V.int q.2])) := Gr.new e1
      have hF3 := gT.at hF2 .dK
      have hr3 := gT.at hr2 .frz
      refine gtup2 upd_same ?_
      have hl : (greedy (d.take i) n).length = i := by rw [greedy_len, List.length_take]; omega
      refine ⟨_, rfl, _, rfl, _, _, rfl, _, rfl, _, rfl, F, _, rfl, dputS hF3 (by rw [hl, sizeLine_eq]; omega), _, rfl, _, rfl, _, rfl, F, _, rfl, dgetS (i := if q.2 < leftN (d.take i) n then q.2 else leftN (d.take i) n) upd_same ?_, _, _, rfl, rfl, ?_⟩
      · rw [get?_put, if_pos rfl]
      · refine ⟨some (.str q.1), some (.int q.2), ?_, (g3.trans gT).mut nF hF3 .dK, ?_, ?_⟩
        · rw [take_snoc hq, leftN_snoc]
          rfl
        · rw [upd_ne rF]
          exact hr3
        · rw [upd_same, take_snoc hq, greedy_snoc, put_new' (by rw [greedy_names]; exact take_notin1 nd hq)]
    · rintro σ H2 ⟨s4, s5, rfl, g3, hr2, hF2⟩
      rw [dS_len, List.take_length] at hF2
      exact ⟨_, rfl, k F H2 g3 nF hF2⟩
end
end Sk
namespace Sk
open PySem PySem.Spec PyProof.Rows L2
theorem EntAt.uniq {G : Hp} {v : V} {e e' : Ent} (h : EntAt G v e) (h' : EntAt G v e') : e' = e := by
  obtain ⟨t, l, rfl, h1, h2⟩ := h
  obtain ⟨t', l', q, h3, h4⟩ := h'
  cases q
  rw [h1] at h3
  obtain ⟨a1, a2⟩ := List.cons.inj (HO.tup.inj (Option.some.inj h3))
  obtain ⟨b1, b2⟩ := List.cons.inj a2
  obtain ⟨c1, _⟩ := List.cons.inj b2
  obtain rfl := V.ref.inj c1
  rw [h2] at h4
  have e3 : e.parts = e'.parts := (List.map_inj_right (fun x y z => V.str.inj z)).mp (HO.lst.inj (Option.some.inj h4))
  have e1 : e.name = e'.name := V.str.inj a1
  have e2 : e.w = e'.w := V.int.inj b1
  cases e
  cases e'
  dsimp only at e1 e2 e3
  rw [e1, e2, e3]
theorem CatAt.uniq {G : Hp} : ∀ {vs : List V} {es es' : List Ent}, CatAt G vs es → CatAt G vs es' → es' = es
  | _, _, _, .nil, .nil => rfl
  | _, _, _, .cons h t, .cons h' t' => by rw [h.uniq h', CatAt.uniq t t']
/-- the same values, as they stood -/
theorem CatAt.back {Tb : List (Addr × Str)} {H H1 : Hp} {xs ys : List V} {es es' : List Ent} (hc : CatAt H xs es) (g : Gr Tb H H1) (hp : ys.Perm xs) (hc2 : CatAt H1 ys es') : CatAt H ys es' := by
  obtain ⟨es2, _, c2⟩ := Paired.perm hp hc
  rw [CatAt.uniq (CatAt.gr g c2) hc2]
  exact c2
/-- the same values, as they stood -/
theorem CatAt.backM {G H1 : Hp} {xs : List V} {es : List Ent} (hc : CatAt G xs es) (s : Same G H1) : ∀ {ys : List V} {es' : List Ent}, (∀ y ∈ ys, y ∈ xs) → CatAt H1 ys es' → CatAt G ys es'
  | _, _, _, .nil => .nil
  | _, _, h, .cons a t => by
    obtain ⟨e, _, h1⟩ := Paired.left hc (h _ (List.mem_cons_self ..))
    have h2 := (h1.mono s).uniq a
    rw [h2]
    exact .cons h1 (CatAt.backM hc s (fun y hy => h y (List.mem_cons_of_mem _ hy)) t)
/-- y is a row of the entry's name and what val says -/
def ERow (H0 : Hp) (val : Ent → Int) (H : Hp) (v y : V) : Prop := ∀ e, EntAt H0 v e → ∃ t, y = .ref t ∧ H t = some (.tup [.str e.name, .int (val e)])
theorem ERow.of {H0 H : Hp} {val : Ent → Int} {v : V} {e : Ent} {t : Addr} (h : EntAt H0 v e) (ht : H t = some (.tup [.str e.name, .int (val e)])) : ERow H0 val H v (.ref t) := fun e2 h2 => by
  rw [h.uniq h2]
  exact ⟨t, rfl, ht⟩
theorem erow_mono {H0 : Hp} {val : Ent → Int} {D : Addr} : ∀ H H' x y, (∀ a o, NoTab o → (∀ l, o ≠ .lst l) ∨ a ≠ D → H a = some o → H' a = some o) → ERow H0 val H x y → ERow H0 val H' x y := fun H H' x y m r e he => by
  obtain ⟨t, h1, h2⟩ := r e he
  exact ⟨t, h1, m _ _ .tup (.inl fun l z => by cases z) h2⟩
theorem erow_dict {K : PySem.W.Frag} {H0 H : Hp} {val : Ent → Int} {keep : V → Bool} {kp : Ent → Bool} (hk : ∀ v e, EntAt H0 v e → keep v = kp e) : ∀ {xs : List V} {es : List Ent} {ys : List V}, CatAt H0 xs es → Paired (ERow H0 val H) (xs.filter keep) ys →
    ∃ ps : List Addr, ys = ps.map V.ref ∧ Paired (fun p kv => SqT K H p [kV kv.1, kv.2]) ps (dS ((es.filter kp).map fun e => (e.name, val e)))
  | [], _, _, .nil, .nil => ⟨[], rfl, .nil⟩
  | x :: xs, e :: es, ys, .cons h t, p => by
    rw [List.filter_cons] at p ⊢
    rw [hk x e h] at p
    by_cases c : kp e = true
    · rw [if_pos c] at p ⊢
      cases p with
      | cons a p =>
        obtain ⟨ta, rfl, h1⟩ := a e h
        obtain ⟨ps, e2, h2⟩ := erow_dict hk t p
        exact ⟨ta :: ps, by rw [e2]; rfl, .cons (SqT.of h1) h2⟩
    · rw [if_neg c] at p ⊢
      exact erow_dict hk t p
/-- a number that the entry tells -/
def EVal (H0 : Hp) (val : Ent → Int) (v y : V) : Prop := ∀ e, EntAt H0 v e → y = .int (val e)
theorem eval_list {H0 : Hp} {val : Ent → Int} {keep : V → Bool} {kp : Ent → Bool} (hk : ∀ v e, EntAt H0 v e → keep v = kp e) : ∀ {xs : List V} {es : List Ent} {ys : List V}, CatAt H0 xs es → Paired (EVal H0 val) (xs.filter keep) ys → ys = ((es.filter kp).map val).map V.int
  | [], _, _, .nil, .nil => rfl
  | x :: xs, e :: es, ys, .cons h t, p => by
    rw [List.filter_cons] at p ⊢
    rw [hk x e h] at p
    by_cases c : kp e = true
    · rw [if_pos c] at p ⊢
      cases p with
      | cons a p =>
        rw [a e h, eval_list hk t p]
        rfl
    · rw [if_neg c] at p ⊢
      exact eval_list hk t p
/-- has parts, has number -/
def hasParts (H : Hp) (v : V) : Bool := match itemAt H 2 v with
  | some (.ref l) => match H l with
    | some (.lst []) => false
    | _ => true
  | _ => true
theorem hasParts_at {H : Hp} {v : V} {e : Ent} (h : EntAt H v e) : hasParts H v = decide (e.parts ≠ []) := by
  obtain ⟨t, l, rfl, ht, hl⟩ := h
  unfold hasParts
  rw [itemAt_tup ht]
  show (match H l with
    | some (.lst []) => false
    | _ => true) = _
  rw [hl]
  cases e.parts with
  | nil => rfl
  | cons _ _ => rfl
def hasNum (H : Hp) (d : Num) (v : V) : Bool := match itemAt H 0 v with
  | some (.str n) => decide (0 < getD d n)
  | _ => false
theorem hasNum_at {H : Hp} {d : Num} {v : V} {e : Ent} (h : EntAt H v e) : hasNum H d v = decide (0 < getD d e.name) := by
  obtain ⟨t, l, rfl, ht, hl⟩ := h
  unfold hasNum
  rw [itemAt_tup ht]
  rfl
theorem get?_of_pos {d : Num} {x : Str} (h : getD d x ≠ 0) : get? d x = some (getD d x) := by
  unfold getD at h ⊢
  cases q : get? d x with
  | none => rw [q] at h; exact absurd rfl h
  | some i => rfl
end Sk
namespace Sk
open PySem PySem.Spec PyProof.Rows L2
theorem fs_nonneg : ∀ {es : List Ent} {f : Str → Int}, Behind es → (es.map (·.name)).Nodup → (∀ x, 0 ≤ f x) → ∀ q ∈ fs es f, 0 ≤ q.2
  | [], _, _, _, _, _, hq => by cases hq
  | e :: es, f, b, nd, h, q, hq => by
    rw [List.map_cons, List.nodup_cons] at nd
    rw [fs] at hq
    rcases List.mem_append.mp hq with z | z
    · split at z
      · cases z
      · rw [List.mem_singleton.mp z]
        exact h _
    · refine fs_nonneg b.2 nd.2 (fun x => ?_) q z
      rw [addAll_at]
      have h1 : 0 ≤ amt (e.parts.map fun p => (p, f e.name)) x := by
        generalize e.parts = l
        induction l with
        | nil => exact Int.le_refl _
        | cons p l ih =>
          rw [List.map_cons, amt_cons]
          have := h e.name
          split <;> omega
      have := h x
      omega
theorem greedy_sum : ∀ {l : Num} {n : Int}, (∀ q ∈ l, 0 ≤ q.2) → 0 ≤ n → n ≤ (l.map (·.2)).sum → ((greedy l n).map (·.2)).sum = n
  | [], n, _, h0, h1 => by
    rw [List.map_nil, List.sum_nil] at h1
    show (0 : Int) = n
    omega
  | q :: l, n, h, h0, h1 => by
    have hq := h q (List.mem_cons_self ..)
    have hl := fun x hx => h x (List.mem_cons_of_mem _ hx)
    rw [List.map_cons, List.sum_cons] at h1
    show ((q.1, _) :: greedy l _ |>.map (·.2)).sum = n
    rw [List.map_cons, List.sum_cons]
    have hs : 0 ≤ (l.map (·.2)).sum := by
      clear h1 h
      induction l with
      | nil => exact Int.le_refl _
      | cons x l ih =>
        rw [List.map_cons, List.sum_cons]
        have := hl x (List.mem_cons_self ..)
        have := ih fun y hy => hl y (List.mem_cons_of_mem _ hy)
        omega
    by_cases c : q.2 < n
    · rw [if_pos c, greedy_sum hl (by omega) (by omega)]
      show q.2 + _ = n
      omega
    · rw [if_neg c, greedy_sum hl (by omega) (by omega)]
      show n + _ = n
      omega
theorem greedy_mem : ∀ {l : Num} {n : Int}, (∀ q ∈ l, 0 ≤ q.2) → 0 ≤ n → ∀ q ∈ greedy l n, 0 ≤ q.2 ∧ q.2 ≤ n
  | [], _, _, _, _, h => by cases h
  | a :: l, n, h, h0, q, hq => by
    have ha := h a (List.mem_cons_self ..)
    rcases List.mem_cons.mp hq with rfl | hq
    · show 0 ≤ (if a.2 < n then a.2 else n) ∧ (if a.2 < n then a.2 else n) ≤ n
      split <;> omega
    · have h1 := greedy_mem (fun x hx => h x (List.mem_cons_of_mem _ hx)) (n := n - if a.2 < n then a.2 else n) (by split <;> omega) q hq
      refine ⟨h1.1, ?_⟩
      have := h1.2
      split at this <;> omega
theorem nameB_shwS {x : Str} (h : nameB x = true) : ShwS x := by
  unfold nameB at h
  simp only [Bool.and_eq_true, decide_eq_true_eq, List.all_eq_true] at h
  refine ⟨Nat.le_trans h.2.1 (by decide), fun c hc => ?_⟩
  have h1 := h.2.2 c hc
  have h2 : ∀ c ∈ letters.cps.toList, c < 16 ^ 8 := by decide +kernel
  exact h2 c h1
/-- the kinds with parts and what is split of them -/
def fsl (f : Str → Int) (l : List Ent) : Num := (l.filter fun e => decide (e.parts ≠ [])).map fun e => (e.name, f e.name)
theorem fsl_snoc {f : Str → Int} {es : List Ent} {i : Nat} {e : Ent} (h : es[i]? = some e) : fsl f (es.take (i + 1)) = fsl f (es.take i) ++ if e.parts = [] then [] else [(e.name, f e.name)] := by
  unfold fsl
  rw [take_snoc h, List.filter_append, List.map_append, List.filter_cons, List.filter_nil]
  by_cases c : e.parts = []
  · rw [if_pos c, if_neg (by rw [decide_eq_true_eq]; exact fun z => z c)]
    rfl
  · rw [if_neg c, if_pos (decide_eq_true c)]
    rfl
theorem fsl_names {f : Str → Int} {l : List Ent} {x : Str} (h : x ∈ (fsl f l).map (·.1)) : x ∈ l.map (·.name) := by
  unfold fsl at h
  rw [List.map_map] at h
  obtain ⟨e, he, rfl⟩ := List.mem_map.mp h
  exact List.mem_map.mpr ⟨e, (List.mem_filter.mp he).1, rfl⟩
theorem fsl_len (f : Str → Int) (l : List Ent) : (fsl f l).length ≤ l.length := by
  unfold fsl
  rw [List.length_map]
  exact List.length_filter_le _ _
/-- the same order, as it stood -/
theorem CatAt.backF {G H1 : Hp} {xs ys : List V} {es es' : List Ent} (hc : CatAt G xs es) (s : Same G H1) (hp : ys.Perm xs) (hc2 : CatAt H1 ys es') : CatAt G ys es' := by
  obtain ⟨es2, _, c2⟩ := Paired.perm hp hc
  rw [CatAt.uniq (CatAt.mono s c2) hc2]
  exact c2
end Sk
namespace Sk
open PySem PySem.Spec PyProof.Rows L2
abbrev s_checked_splits : Stmt := topS 23
abbrev N_checked_splits : List Str := ["catalogue", "stock", "number", "entries", "found"]
theorem sc_checked_splits : FnScope N_checked_splits ["catalogue", "stock", "number"] (defScope s_checked_splits) := ⟨rfl, rfl, rfl, by decide +kernel, rfl, by decide +kernel, by decide +kernel⟩
def sp_checked_splits (Tb : List (Addr × Str)) (K : PySem.W.Frag) : Sp := fun vs H Q _ => ∃ (a b : Addr) (xs : List V) (es : List Ent) (st : Num) (n : Int), vs = [.ref a, .ref b, .int n] ∧ SqL K H a xs ∧ CatAt H xs es ∧ H b = some (.dK (dS st)) ∧ LamX.Tabs Tb H ∧ Valid es ∧ StockOk es st ∧ 0 ≤ n ∧ (∀ es', es'.Perm es → Ordered es' → n ≤ ((fs es' (getD st)).map (·.2)).sum) ∧
  ∀ t r d H' ys es', es'.Perm es → Ordered es' → Gr Tb H H' → H' t = some (.tup [.ref r, .ref d]) → H' r = some (.lst ys) → CatAt H' ys es' → H' d = some (.dK (dS (greedy (fs es' (getD st)) n))) → Q (.ref t) H'
section
variable {P : Program} {w : World} {K : PySem.W.Frag} {mg : Str → Option Value} {base : Heap} {Tb : List (Addr × Str)}
theorem ok_checked_splits {f : Addr} {fd : FuncData} (F : FnP K "checked_splits" s_checked_splits f fd) (T : Tx K mg) (G_check_catalogue : Fn P w K mg base "check_catalogue" 3 ["catalogue"] (sp_check_catalogue Tb K)) (G_check_stock : Fn P w K mg base "check_stock" 1 ["catalogue", "stock"] (sp_check_stock Tb K)) (G_first_splits : Fn P w K mg base "first_splits" 2 ["entries", "stock", "number"] (sp_first_splits Tb K)) (G_ordered : Fn P w K mg base "ordered" 4 ["catalogue"] (sp_ordered Tb K)) : FnOk P w K mg base CX0 5 f fd ["catalogue", "stock", "number"] (sp_checked_splits Tb K) := by
  refine F.ok sc_checked_splits (fun vs H Q E h => ?_) (fun cdv A outer s H vs Q E hr h => ?_)
  · obtain ⟨_, _, _, _, _, _, rfl, _⟩ := h
    rfl
  · obtain ⟨a, b, xs, es, st, n, rfl, ha, hc, hb, ht, hv, so, n0, n1, k⟩ := h
    refine ⟨_, PSs.nox (pss_cons (ps_expr (pe_fn G_check_catalogue (hr.mono (by decide)) (pa_cons (pv 0) pa_nil)))
      (pss_cons (ps_expr (pe_fn G_check_stock (hr.mono (by decide)) (pa_cons (pv 0) (pa_cons (pv 1) pa_nil))))
      (pss_cons (ps_if (pt_cmpR op_lt (pv 2) pe_int (nomark _)) (pss_one ps_never) pss_nil)
      (pss_cons (ps_set (i := 3) sc_checked_splits.nd rfl (Or.inl rfl) (pe_fn G_ordered (hr.mono (by decide)) (pa_cons (pv 0) pa_nil)))
      (pss_cons (ps_set (i := 4) sc_checked_splits.nd rfl (Or.inl rfl) (pe_fn G_first_splits (hr.mono (by decide)) (pa_cons (pv 3) (pa_cons (pv 1) (pa_cons (pv 2) pa_nil)))))
      (pss_cons (ps_if (pt_cmpR op_lt (pe_sumVals rfl (by rfl) T.n_sum (pv 4)) (pv 2) (nomark _)) (pss_one ps_never) pss_nil)
      (pss_one (ps_ret (pe_tup (pa_cons (pv 3) (pa_cons (pv 4) pa_nil))))))))))), ?_⟩
    refine ⟨_, rfl, a, xs, es, rfl, ha, hc, hv, fun H1 g1 => ?_⟩
    refine ⟨_, rfl, _, rfl, a, b, xs, es, st, rfl, g1.ext_seq ha, CatAt.gr g1 hc, g1.at hb .dK, so, hv.few, fun H2 g2 => ?_⟩
    refine ⟨_, rfl, _, _, rfl, rfl, _, rfl, ?_⟩
    refine ite2 (fun c1 => absurd (of_decide_eq_true c1) (by omega)) (fun c1 => ?_)
    have g12 := g1.trans g2
    refine ⟨_, rfl, a, xs, es, rfl, g12.ext_seq ha, CatAt.gr g12 hc, g12.tab ht, hv.few, fun r H4 ys es' hp ho hc4 g4 hr => ?_⟩
    have g5 : Gr Tb H2 (upd H4 r (.lst ys)) := g4.trans (Gr.new hr)
    have hc5 : CatAt (upd H4 r (.lst ys)) ys es' := CatAt.gr g5 hc4
    have hv' := hv.perm hp
    have g15 := g12.trans g5
    refine ⟨_, rfl, _, rfl, _, rfl, r, b, ys, es', st, n, rfl, SqL.of upd_same, hc5, g15.at hb .dK, hv'.nodup, hv'.behind ho, hv'.few, fun N H6 g6 hN hN6 => ?_⟩
    have sum : ((greedy (fs es' (getD st)) n).map (·.2)).sum = n := greedy_sum (fs_nonneg (hv'.behind ho) hv'.nodup fun x => getD_pos so.pos x) n0 (n1 es' hp ho)
    refine ⟨_, rfl, N, _, (greedy (fs es' (getD st)) n).map (·.2), rfl, hN6, ?_, _, rfl, _, _, rfl, rfl, _, rfl, ?_⟩
    · unfold dS
      rw [List.map_map, List.map_map]
      rfl
    · refine ite2 (fun c2 => absurd (of_decide_eq_true c2) (by rw [sum]; omega)) (fun c2 => ?_)
      refine ⟨_, rfl, _, rfl, by show 2 ≤ sizeLine; decide, fun t htn => ?_⟩
      have g7 : Gr Tb H6 (upd H6 t (.tup [.ref r, .ref N])) := Gr.new htn
      exact k t r N _ ys es' hp ho ((g15.trans g6).trans g7) upd_same (g7.at (g6.at upd_same .lst) .lst) (CatAt.gr (g6.trans g7) hc5) (g7.at hN6 .dK)
end
end Sk
namespace Sk
open PySem PySem.Spec PyProof.Rows L2
abbrev s_balanced : Stmt := topS 24
abbrev N_balanced : List Str := ["catalogue", "stock", "number", "entries", "found"]
theorem sc_balanced : FnScope N_balanced ["catalogue", "stock", "number"] (defScope s_balanced) := ⟨rfl, rfl, rfl, by decide +kernel, rfl, by decide +kernel, by decide +kernel⟩
def sp_balanced (Tb : List (Addr × Str)) (K : PySem.W.Frag) : Sp := fun vs H Q _ => ∃ (a b : Addr) (xs : List V) (es : List Ent) (st : Num) (n : Int), vs = [.ref a, .ref b, .int n] ∧ SqL K H a xs ∧ CatAt H xs es ∧ H b = some (.dK (dS st)) ∧ LamX.Tabs Tb H ∧ Valid es ∧ StockOk es st ∧ 0 ≤ n ∧ (∀ es', es'.Perm es → Ordered es' → n ≤ ((fs es' (getD st)).map (·.2)).sum) ∧
  ∀ r H' es', es'.Perm es → Ordered es' → Gr Tb H H' → Nw H r → H' r = some (.dK (dS (cleanN es' (greedy (fs es' (getD st)) n)))) → Q (.ref r) H'

section
variable {P : Program} {w : World} {K : PySem.W.Frag} {mg : Str → Option Value} {base : Heap} {Tb : List (Addr × Str)}
theorem ok_balanced {f : Addr} {fd : FuncData} (F : FnP K "balanced" s_balanced f fd) (T : Tx K mg) (G_checked_splits : Fn P w K mg base "checked_splits" 5 ["catalogue", "stock", "number"] (sp_checked_splits Tb K)) (G_clean : Fn P w K mg base "clean" 1 ["entries", "numbers"] (sp_clean Tb K)) : FnOk P w K mg base CX0 6 f fd ["catalogue", "stock", "number"] (sp_balanced Tb K) := by
  refine F.ok sc_balanced (fun vs H Q E h => ?_) (fun cdv A outer s H vs Q E hr h => ?_)
  · obtain ⟨_, _, _, _, _, _, rfl, _⟩ := h
    rfl
  · obtain ⟨a, b, xs, es, st, n, rfl, ha, hc, hb, ht, hv, so, n0, n1, k⟩ := h
    refine ⟨_, PSs.nox (pss_cons (ps_asg (pe_fn G_checked_splits (hr.mono (by decide)) (pa_cons (pv 0) (pa_cons (pv 1) (pa_cons (pv 2) pa_nil)))) (pg_tup rfl (pgs_cons (pg_name (i := 3) sc_balanced.nd rfl (Or.inl rfl)) (pgs_cons (pg_name (i := 4) sc_balanced.nd rfl (Or.inl rfl)) pgs_nil))))
      (pss_one (ps_ret (pe_fn G_clean (hr.mono (by decide)) (pa_cons (pv 3) (pa_cons (pv 4) pa_nil)))))), ?_⟩
    refine ⟨_, rfl, _, rfl, _, rfl, a, b, xs, es, st, n, rfl, ha, hc, hb, ht, hv, so, n0, n1, fun t r d H1 ys es' hp ho g1 ht1 hr1 hc1 hd1 => ?_⟩
    refine gtup2 ht1 ?_
    have hv' := hv.perm hp
    refine ⟨_, rfl, _, rfl, r, d, ys, es', _, rfl, SqL.of hr1, hc1, hd1, hv'.nodup, hv'.few, fun W H2 g2 hW hW2 => ?_⟩
    exact k W H2 es' hp ho (g1.trans g2) (g1.nw hW) hW2
end
end Sk
namespace Sk
open PySem PySem.Spec PyProof.Rows L2
abbrev s_displacement : Stmt := topS 25
abbrev N_displacement : List Str := ["catalogue", "stock", "splits", "best", "name", "number"]
theorem sc_displacement : FnScope N_displacement ["catalogue", "stock", "splits"] (defScope s_displacement) := ⟨rfl, rfl, rfl, by decide +kernel, rfl, by decide +kernel, by decide +kernel⟩
/-- how many splits the others lack -/
def overN (sp best : Num) : Int := (sp.map fun q => if q.2 - getD best q.1 > 0 then q.2 - getD best q.1 else 0).sum
def sp_displacement (Tb : List (Addr × Str)) (K : PySem.W.Frag) : Sp := fun vs H Q _ => ∃ (a b c : Addr) (xs : List V) (es : List Ent) (st sp : Num), vs = [.ref a, .ref b, .ref c] ∧ SqL K H a xs ∧ CatAt H xs es ∧ H b = some (.dK (dS st)) ∧ H c = some (.dK (dS sp)) ∧ LamX.Tabs Tb H ∧ Valid es ∧ StockOk es st ∧ SplitsOk es st sp ∧
  ∀ H' es', es'.Perm es → Ordered es' → Gr Tb H H' → Q (.int (overN sp (greedy (fs es' (getD st)) (sp.map (·.2)).sum))) H'
section
variable {P : Program} {w : World} {K : PySem.W.Frag} {mg : Str → Option Value} {base : Heap} {Tb : List (Addr × Str)}
theorem ok_displacement {f : Addr} {fd : FuncData} (F : FnP K "displacement" s_displacement f fd) (T : Tx K mg) (G_check_catalogue : Fn P w K mg base "check_catalogue" 3 ["catalogue"] (sp_check_catalogue Tb K)) (G_check_splits : Fn P w K mg base "check_splits" 5 ["catalogue", "stock", "splits"] (sp_check_splits Tb K)) (G_check_stock : Fn P w K mg base "check_stock" 1 ["catalogue", "stock"] (sp_check_stock Tb K)) (G_first_splits : Fn P w K mg base "first_splits" 2 ["entries", "stock", "number"] (sp_first_splits Tb K)) (G_ordered : Fn P w K mg base "ordered" 4 ["catalogue"] (sp_ordered Tb K)) : FnOk P w K mg base CX0 6 f fd ["catalogue", "stock", "splits"] (sp_displacement Tb K) := by
  refine F.ok sc_displacement (fun vs H Q E h => ?_) (fun cdv A outer s H vs Q E hr h => ?_)
  · obtain ⟨_, _, _, _, _, _, _, rfl, _⟩ := h
    rfl
  · obtain ⟨a, b, c, xs, es, st, sp, rfl, ha, hc, hb, hsp, ht, hv, so, ok, k⟩ := h
    refine ⟨_, PSs.nox (pss_cons (ps_expr (pe_fn G_check_catalogue (hr.mono (by decide)) (pa_cons (pv 0) pa_nil)))
      (pss_cons (ps_expr (pe_fn G_check_stock (hr.mono (by decide)) (pa_cons (pv 0) (pa_cons (pv 1) pa_nil))))
      (pss_cons (ps_expr (pe_fn G_check_splits (hr.mono (by decide)) (pa_cons (pv 0) (pa_cons (pv 1) (pa_cons (pv 2) pa_nil)))))
      (pss_cons (ps_set (i := 3) sc_displacement.nd rfl (Or.inr rfl) (pe_fn G_first_splits (hr.mono (by decide)) (pa_cons (pe_fn G_ordered (hr.mono (by decide)) (pa_cons (pv 0) pa_nil)) (pa_cons (pv 1) (pa_cons (pe_sumVals rfl (by rfl) T.n_sum (pv 2)) pa_nil)))))
      (pss_one (ps_ret (pe_callB (crSum (K := K) rfl rfl) (by rfl) T.n_sum (by decide +kernel) (pa_cons (pe_lock (pe_lc (own := [("name", 4), ("number", 5)]) (g := (gTup K 2 (gCons (gName 4) (gCons (gName 5) gNil)))) (tt := tYes) rfl sc_displacement.nd (pi_items (pv 2)) (blkOk_by (N := N_displacement) (sc := (defScope s_displacement)) (by decide +kernel)) (fun _ _ _ _ _ => (pg_tup rfl (pgs_cons (pg_name (i := 4) sc_displacement.nd rfl (Or.inl rfl)) (pgs_cons (pg_name (i := 5) sc_displacement.nd rfl (Or.inl rfl)) pgs_nil)))) (fun _ _ _ _ _ => pts_nil) (fun _ _ _ _ _ => (pe_callB (call_max2 rfl) (by rfl) T.n_max (by decide +kernel) (pa_cons pe_int (pa_cons (pe_op op_sub (pv 5) (pe_dget2 (hu_of hr) (pv 3) (pv 4) pe_int ⟨rfl, rfl, rfl, rfl⟩)) pa_nil)))))) pa_nil)))))))), ?_⟩
    refine ⟨_, rfl, a, xs, es, rfl, ha, hc, hv, fun H1 g1 => ?_⟩
    refine ⟨_, rfl, _, rfl, a, b, xs, es, st, rfl, g1.ext_seq ha, CatAt.gr g1 hc, g1.at hb .dK, so, hv.few, fun H2 g2 => ?_⟩
    have g12 := g1.trans g2
    refine ⟨_, rfl, _, rfl, _, rfl, a, b, c, xs, es, st, sp, rfl, g12.ext_seq ha, CatAt.gr g12 hc, g12.at hb .dK, g12.at hsp .dK, g12.tab ht, hv, ok, fun H3 g3 => ?_⟩
    have g13 := g12.trans g3
    refine ⟨_, rfl, a, xs, es, rfl, g13.ext_seq ha, CatAt.gr g13 hc, g13.tab ht, hv.few, fun r H4 ys es' hp ho hc4 g4 hr => ?_⟩
    have g5 : Gr Tb H3 (upd H4 r (.lst ys)) := g4.trans (Gr.new hr)
    have hc5 : CatAt (upd H4 r (.lst ys)) ys es' := CatAt.gr g5 hc4
    have hv' := hv.perm hp
    have g15 := g13.trans g5
    have esum : (dS sp).map (·.2) = (sp.map (·.2)).map V.int := by
      unfold dS
      rw [List.map_map, List.map_map]
      rfl
    refine ⟨_, rfl, _, rfl, c, _, sp.map (·.2), rfl, g15.at hsp .dK, esum, r, b, ys, es', st, _, rfl, SqL.of upd_same, hc5, g15.at hb .dK, hv'.nodup, hv'.behind ho, hv'.few, fun N H6 g6 hN hN6 => ?_⟩
    have k2 := fun H' g => k H' es' hp ho g
    generalize greedy (fs es' (getD st)) (sp.map (·.2)).sum = best at hN6 k2
    have g16 := g15.trans g6
    have hsp6 := g16.at hsp .dK
    have Nc : N ≠ c := fun z => by
      obtain ⟨ps, e⟩ := hN _ (z ▸ g15.at hsp .dK)
      cases e
    have hfew := ok.few
    refine ⟨c, _, hsp6, trivial, fun od => ⟨_, rfl, c, od, _, rfl, upd_same, fun D hD => lc_gen (Tb := Tb) walk_items (fun i => sp[i]?.bind fun q => some (.int (if q.2 - getD best q.1 > 0 then q.2 - getD best q.1 else 0))) hD (by rw [dS_len]; omega) (fun H' g => g.at upd_same .frz) (fun i H x H' hy => ?_) (fun i x H7 H8 hi g8 hy Rk Rs hk hs => ?_) fun H8 g8 hD8 => ?_⟩⟩
    · obtain ⟨T, u, v, e0, e1, e2, e3, e4⟩ := hy
      subst e2
      exact Gr.new e1
    · obtain ⟨T, u, v, e0, e1, e2, e3, e4⟩ := hy
      subst e2
      subst e0
      obtain ⟨q, hq⟩ : ∃ q, sp[i]? = some q := ⟨_, List.getElem?_eq_getElem (by rw [dS_len] at hi; exact hi)⟩
      have hq2 : (dS sp)[i]? = some (Sum.inr q.1, V.int q.2) := by
        unfold dS
        rw [List.getElem?_map, hq]
        rfl
      have e3' : (dS sp)[i]?.map (fun kv => kV kv.1) = some u := e3
      have e4' : (dS sp)[i]?.map Prod.snd = some v := e4
      rw [hq2] at e3' e4'
      cases e3'
      cases e4'
      have hN8 := g8.at (show (upd H6 c (.frz od (.dK (dS sp)))) N = _ by rw [upd_ne Nc]; exact hN6) .dK
      refine gtup2 upd_same ⟨rfl, _, rfl, _, rfl, N, rfl, IsD.num hN8, _, rfl, _, dgetO hN8 q.1, ?_⟩
      rw [getO]
      refine ⟨_, _, rfl, rfl, _, _, rfl, hk _ _ ?_ (Gr.refl _)⟩
      rw [hq]
      rfl
    · have hc8 := g8.at (upd_same (H := H6) (a := c) (o := .frz od (.dK (dS sp)))) .frz
      have g9 : Gr Tb H6 (upd H8 c (.dK (dS sp))) := Gr.unlock hsp6 .dK g8 hc8
      rw [dS_len, fm_range] at hD8
      have Dc : D ≠ c := fun z => by
        rw [z, upd_same] at hD
        cases hD
      have eD : sp.filterMap (fun q => some (V.int (if q.2 - getD best q.1 > 0 then q.2 - getD best q.1 else 0))) = (sp.map fun q => if q.2 - getD best q.1 > 0 then q.2 - getD best q.1 else 0).map V.int := by
        rw [List.map_map]
        exact congrFun List.filterMap_eq_map _
      rw [eD] at hD8
      exact ⟨hc8, D, _, rfl, SqL.of (by rw [upd_ne Dc]; exact hD8), k2 _ (g16.trans g9)⟩
end
end Sk
namespace Sk
open PySem PySem.Spec PyProof.Rows L2
theorem getD_amt {d : Num} (nd : (d.map (·.1)).Nodup) (x : Str) : getD d x = amt d x := by
  induction d with
  | nil => rfl
  | cons q l ih =>
    rw [List.map_cons, List.nodup_cons] at nd
    rw [amt_cons]
    unfold getD
    rw [get?_cons]
    by_cases c : q.1 = x
    · rw [if_pos c, if_pos c, amt_zero fun z hz => fun e => nd.1 (List.mem_map.mpr ⟨z, hz, by rw [e, c]⟩)]
      show q.2 = q.2 + 0
      omega
    · rw [if_neg c, if_neg c]
      have := ih nd.2
      unfold getD at this
      omega
theorem sumE_getD {es : List Ent} {d : Num} (nd : (es.map (·.name)).Nodup) (dn : (d.map (·.1)).Nodup) (hk : ∀ q ∈ d, q.1 ∈ es.map (·.name)) : sumE es (getD d) = (d.map (·.2)).sum := by
  have h1 := sumE_amt nd (fun _ => 1) (l := d) hk
  have h2 : (d.map fun q => q.2 * 1) = d.map (·.2) := List.map_congr_left fun q _ => Int.mul_one _
  rw [h2] at h1
  rw [← h1]
  refine sumE_congr fun e _ => ?_
  rw [getD_amt dn, Int.mul_one]
theorem sumE_addAll {es : List Ent} (nd : (es.map (·.name)).Nodup) {l : List Str} (hl : ∀ p ∈ l, p ∈ es.map (·.name)) (f : Str → Int) (c : Int) : sumE es (addAll f (l.map fun p => (p, c))) = sumE es f + l.length * c := by
  have h1 := sumE_amt nd (fun _ => 1) (l := l.map fun p => (p, c)) fun q hq => by
    obtain ⟨p, hp, rfl⟩ := List.mem_map.mp hq
    exact hl p hp
  have h2 : ((l.map fun p => (p, c)).map fun q => q.2 * 1).sum = l.length * c := by
    clear h1 hl
    induction l with
    | nil => show (0 : Int) = (0 : Nat) * c; omega
    | cons p l ih =>
      rw [List.map_cons, List.map_cons, List.sum_cons, ih, List.length_cons]
      show c * 1 + _ = _
      rw [show ((l.length + 1 : Nat) : Int) = (l.length : Int) + 1 from rfl, Int.add_mul]
      omega
  rw [h2] at h1
  rw [← h1, ← sumE_add]
  refine sumE_congr fun e _ => ?_
  rw [addAll_at, Int.mul_one]
theorem sumE_le {es : List Ent} {f : Str → Int} {c : Int} (h : ∀ e ∈ es, f e.name ≤ c) : sumE es f ≤ es.length * c := by
  induction es with
  | nil => show (0 : Int) ≤ (0 : Nat) * c; omega
  | cons e es ih =>
    rw [sumE_cons, List.length_cons, show ((es.length + 1 : Nat) : Int) = (es.length : Int) + 1 from rfl, Int.add_mul]
    have h1 := h e (List.mem_cons_self ..)
    have h2 := ih fun x hx => h x (List.mem_cons_of_mem _ hx)
    omega
theorem addAll_nonneg {f : Str → Int} (h : ∀ x, 0 ≤ f x) {c : Int} (hc : 0 ≤ c) (l : List Str) (x : Str) : 0 ≤ addAll f (l.map fun p => (p, c)) x := by
  rw [addAll_at]
  have h1 : 0 ≤ amt (l.map fun p => (p, c)) x := by
    induction l with
    | nil => exact Int.le_refl _
    | cons p l ih =>
      rw [List.map_cons, amt_cons]
      split <;> omega
  have := h x
  omega
theorem tot_le : ∀ {es : List Ent} {f : Str → Int}, Behind es → (es.map (·.name)).Nodup → (∀ e ∈ es, e.parts.length ≤ 6) → (∀ x, 0 ≤ f x) → 0 ≤ ((fs es f).map (·.2)).sum ∧ ((fs es f).map (·.2)).sum ≤ 7 ^ es.length * sumE es f
  | [], _, _, _, _, _ => ⟨Int.le_refl _, by show (0 : Int) ≤ 1 * 0; omega⟩
  | e :: es, f, b, nd, hp, h => by
    rw [List.map_cons, List.nodup_cons] at nd
    have fe := h e.name
    obtain ⟨i1, i2⟩ := tot_le b.2 nd.2 (fun x hx => hp x (List.mem_cons_of_mem _ hx)) (addAll_nonneg h fe e.parts)
    rw [sumE_addAll nd.2 (fun p q => (b.1 p q).1)] at i2
    have h0 : ((if e.parts = [] then [] else [(e.name, f e.name)] : Num).map (·.2)).sum ≤ f e.name ∧ 0 ≤ ((if e.parts = [] then [] else [(e.name, f e.name)] : Num).map (·.2)).sum := by
      split
      · exact ⟨fe, Int.le_refl _⟩
      · show f e.name + 0 ≤ _ ∧ 0 ≤ f e.name + 0
        omega
    have hs := sumE_nonneg (es := es) fun x _ => h x.name
    have hl := hp e (List.mem_cons_self ..)
    have hA : (1 : Int) ≤ 7 ^ es.length := by
      have := Nat.one_le_pow es.length 7 (by decide)
      have h7 : ((7 ^ es.length : Nat) : Int) = (7 : Int) ^ es.length := by rw [Int.natCast_pow]; rfl
      omega
    rw [fs, List.map_append, List.sum_append, sumE_cons, List.length_cons, Int.pow_succ]
    generalize (7 : Int) ^ es.length = A at i2 hA
    rw [Int.mul_add] at i2
    have k1 : (e.parts.length : Int) * f e.name ≤ 6 * f e.name := Int.mul_le_mul_of_nonneg_right (by omega) fe
    have k2 : A * ((e.parts.length : Int) * f e.name) ≤ A * (6 * f e.name) := Int.mul_le_mul_of_nonneg_left k1 (by omega)
    have k3 : A * (6 * f e.name) = 6 * (A * f e.name) := by rw [← Int.mul_assoc, Int.mul_comm A 6, Int.mul_assoc]
    have k4 : 1 * f e.name ≤ A * f e.name := Int.mul_le_mul_of_nonneg_right hA fe
    have k5 : 0 ≤ A * sumE es f := Int.mul_nonneg (by omega) hs
    have k6 : A * 7 * (f e.name + sumE es f) = 7 * (A * f e.name) + 7 * (A * sumE es f) := by
      rw [Int.mul_comm A 7, Int.mul_assoc, Int.mul_add, Int.mul_add]
    omega
theorem getD_le {d : Num} {c : Int} (h0 : 0 ≤ c) (h : ∀ q ∈ d, q.2 ≤ c) (x : Str) : getD d x ≤ c := by
  unfold getD get?
  cases q : d.find? fun q => decide (q.1 = x) with
  | none => exact h0
  | some z => exact h z (List.mem_of_find?_eq_some q)
/-- the value that f tells of a name -/
def strInt (f : Str → Int) (v : V) : Option V := match v with
  | .str y => some (.int (f y))
  | _ => none
theorem fm_vals {f : Str → Int} : ∀ {l : Num}, (∀ q ∈ l, f q.1 = q.2) → ((l.map (·.1)).map V.str).filterMap (strInt f) = (l.map (·.2)).map V.int
  | [], _ => rfl
  | q :: l, h => by
    rw [List.map_cons, List.map_cons, List.filterMap_cons]
    show V.int (f q.1) :: _ = V.int q.2 :: _
    rw [h q (List.mem_cons_self ..), fm_vals fun z hz => h z (List.mem_cons_of_mem _ hz)]
end Sk
namespace Sk
open PySem PySem.Spec PyProof.Rows L2
/-! the splits of everything, kind by kind -/
theorem fsS_other : ∀ {es : List Ent} {f : Str → Int} {x : Str}, Behind es → x ∉ es.map (·.name) → fsS es f x = f x
  | [], _, _, _, _ => rfl
  | e :: es, f, x, b, h => by
    rw [List.map_cons] at h
    show fsS es _ x = f x
    rw [fsS_other b.2 fun z => h (List.mem_cons_of_mem _ z), addAll_at, amt_zero]
    · omega
    · intro q hq
      obtain ⟨p, hp, rfl⟩ := List.mem_map.mp hq
      intro z
      exact h (List.mem_cons_of_mem _ (by rw [← z]; exact (b.1 p hp).1))
theorem fs_final : ∀ {es : List Ent} {f : Str → Int}, Behind es → (es.map (·.name)).Nodup → fs es f = (es.filter fun e => decide (e.parts ≠ [])).map fun e => (e.name, fsS es f e.name)
  | [], _, _, _ => rfl
  | e :: es, f, b, nd => by
    rw [List.map_cons, List.nodup_cons] at nd
    have h1 : fsS (e :: es) f e.name = f e.name := by
      show fsS es _ e.name = _
      rw [fsS_other b.2 nd.1, addAll_at, amt_zero]
      · omega
      · intro q hq
        obtain ⟨p, hp, rfl⟩ := List.mem_map.mp hq
        exact (b.1 p hp).2
    rw [fs, fs_final b.2 nd.2, List.filter_cons]
    by_cases c : e.parts = []
    · rw [if_pos c, if_neg (by rw [decide_eq_true_eq]; exact fun z => z c)]
      rfl
    · rw [if_neg c, if_pos (decide_eq_true c), List.map_cons, h1]
      rfl
end Sk
namespace Sk
open PySem PySem.Spec PyProof.Rows L2
theorem amt_times (l : List Str) (c : Int) (x : Str) : amt (l.map fun p => (p, c)) x = c * amt (ones l) x := by
  induction l with
  | nil =>
    show (0 : Int) = c * 0
    omega
  | cons p l ih =>
    unfold ones at ih ⊢
    rw [List.map_cons, List.map_cons, amt_cons, amt_cons, ih, Int.mul_add]
    show (if p = x then c else 0) + _ = c * (if p = x then 1 else 0) + _
    split <;> omega
theorem incs_cons (e : Ent) (es : List Ent) (f : Str → Int) : incs (e :: es) f = (e.parts.map fun p => (p, f e.name)) ++ incs es f := by
  unfold incs
  rw [List.flatMap_cons]
theorem incs_congr {es : List Ent} {f g : Str → Int} (h : ∀ e ∈ es, f e.name = g e.name) : incs es f = incs es g := by
  induction es with
  | nil => rfl
  | cons e es ih => rw [incs_cons, incs_cons, h e (List.mem_cons_self ..), ih fun x hx => h x (List.mem_cons_of_mem _ hx)]
theorem amt_pos {l : Num} (h : ∀ q ∈ l, 0 ≤ q.2) (x : Str) : 0 ≤ amt l x := by
  induction l with
  | nil => exact Int.le_refl _
  | cons q l ih =>
    rw [amt_cons]
    have h1 := h q (List.mem_cons_self ..)
    have h2 := ih fun z hz => h z (List.mem_cons_of_mem _ hz)
    split <;> omega
theorem incs_pos {es : List Ent} {f : Str → Int} (h : ∀ x, 0 ≤ f x) (x : Str) : 0 ≤ amt (incs es f) x := amt_pos (fun q hq => by
  unfold incs at hq
  obtain ⟨e, _, h2⟩ := List.mem_flatMap.mp hq
  obtain ⟨p, _, rfl⟩ := List.mem_map.mp h2
  exact h _) x
theorem getD_cons (q : Str × Int) (d : Num) (x : Str) : getD (q :: d) x = if q.1 = x then q.2 else getD d x := by
  unfold getD
  rw [get?_cons]
  split <;> rfl
theorem greedy_zero : ∀ {l : Num} {n : Int}, (∀ q ∈ l, 0 ≤ q.2) → n ≤ 0 → 0 ≤ n → ∀ x, getD (greedy l n) x = 0
  | [], _, _, _, _, _ => rfl
  | q :: l, n, h, h1, h0, x => by
    have hq := h q (List.mem_cons_self ..)
    show getD ((q.1, _) :: greedy l _) x = 0
    rw [getD_cons]
    have e : (if q.2 < n then q.2 else n) = 0 := by split <;> omega
    rw [e, greedy_zero (fun z hz => h z (List.mem_cons_of_mem _ hz)) (by omega) (by omega)]
    split <;> rfl
/-- the balanced splits are valid: of each kind there are as many pieces -/
theorem greedy_fits : ∀ {es : List Ent} {f : Str → Int} {n : Int}, Behind es → (es.map (·.name)).Nodup → (∀ x, 0 ≤ f x) → 0 ≤ n → ∀ e ∈ es, getD (greedy (fs es f) n) e.name ≤ f e.name + amt (incs es (getD (greedy (fs es f) n))) e.name
  | [], _, _, _, _, _, _, _, h => by cases h
  | a :: es, f, n, b, nd, hf, hn, e, he => by
    rw [List.map_cons, List.nodup_cons] at nd
    have fa := hf a.name
    have hf2 : ∀ x, 0 ≤ addAll f (a.parts.map fun p => (p, f a.name)) x := addAll_nonneg hf fa a.parts
    have fsn := fs_nonneg b.2 nd.2 hf2
    by_cases c : a.parts = []
    · have e1 : fs (a :: es) f = fs es f := by
        rw [fs, if_pos c, c]
        rfl
      rw [e1, incs_cons, c]
      show _ ≤ _ + amt (incs es _) _
      rcases List.mem_cons.mp he with rfl | he
      · rw [getD_none fun hm => nd.1 (fs_names es f _ (by rw [← greedy_names (fs es f) n]; exact hm))]
        have := incs_pos (es := es) (f := getD (greedy (fs es f) n)) (fun x => getD_pos (fun q hq => (greedy_mem (fs_nonneg b.2 nd.2 hf) hn q hq).1) x) e.name
        have := hf e.name
        omega
      · exact greedy_fits b.2 nd.2 hf hn e he
    · have e1 : fs (a :: es) f = (a.name, f a.name) :: fs es (addAll f (a.parts.map fun p => (p, f a.name))) := by
        rw [fs, if_neg c]
        rfl
      have pos : ∀ x, 0 ≤ getD (greedy (fs (a :: es) f) n) x := fun x => getD_pos (fun q hq => (greedy_mem (by
        rw [e1]
        intro q hq
        rcases List.mem_cons.mp hq with rfl | hq
        · exact fa
        · exact fsn q hq) hn q hq).1) x
      have ipos := incs_pos (es := a :: es) pos e.name
      rw [e1] at ipos ⊢
      have e2 : greedy ((a.name, f a.name) :: fs es (addAll f (a.parts.map fun p => (p, f a.name)))) n = (a.name, if f a.name < n then f a.name else n) :: greedy (fs es (addAll f (a.parts.map fun p => (p, f a.name)))) (n - if f a.name < n then f a.name else n) := rfl
      rw [e2] at ipos ⊢
      rcases List.mem_cons.mp he with rfl | he
      · rw [getD_cons, if_pos rfl]
        have hfe : (if f e.name < n then f e.name else n) ≤ f e.name := by split <;> omega
        omega
      · have ne : a.name ≠ e.name := fun z => nd.1 (List.mem_map.mpr ⟨e, he, z.symm⟩)
        by_cases c2 : f a.name < n
        · rw [if_pos c2] at ipos ⊢
          have ih := greedy_fits b.2 nd.2 hf2 (n := n - f a.name) (by omega) e he
          generalize greedy (fs es (addAll f (a.parts.map fun p => (p, f a.name)))) (n - f a.name) = g at ih ipos ⊢
          have e3 : incs es (getD ((a.name, f a.name) :: g)) = incs es (getD g) := incs_congr fun x hx => by
            rw [getD_cons, if_neg fun z => nd.1 (List.mem_map.mpr ⟨x, hx, z.symm⟩)]
          rw [getD_cons, if_neg ne, incs_cons, amt_append, e3, getD_cons, if_pos rfl]
          rw [addAll_at] at ih
          show getD g e.name ≤ f e.name + (amt (a.parts.map fun p => (p, f a.name)) e.name + amt (incs es (getD g)) e.name)
          omega
        · rw [if_neg c2] at ipos ⊢
          rw [getD_cons, if_neg ne, greedy_zero fsn (by omega) (by omega)]
          have := hf e.name
          omega
end Sk
namespace Sk
open PySem PySem.Spec PyProof.Rows L2
/-- the whole pieces when b are split -/
def wholeF (es : List Ent) (f b : Str → Int) (x : Str) : Int := f x + amt (incs es b) x - b x
theorem find_congr {α : Type} {p q : α → Bool} : ∀ {l : List α}, (∀ x ∈ l, p x = q x) → l.find? p = l.find? q
  | [], _ => rfl
  | a :: l, h => by
    rw [List.find?_cons, List.find?_cons, h a (List.mem_cons_self ..), find_congr fun x hx => h x (List.mem_cons_of_mem _ hx)]
theorem incs_self {a : Ent} {es : List Ent} (b : Behind (a :: es)) (nd : a.name ∉ es.map (·.name)) (f : Str → Int) : amt (incs (a :: es) f) a.name = 0 := amt_zero fun q hq => by
  unfold incs at hq
  obtain ⟨e, he, h2⟩ := List.mem_flatMap.mp hq
  obtain ⟨p, hp, rfl⟩ := List.mem_map.mp h2
  rcases List.mem_cons.mp he with rfl | he
  · exact (b.1 p hp).2
  · exact fun z => nd (z ▸ (Behind.at b.2 he p hp).1)
def splitB (es : List Ent) (f b : Str → Int) (e : Ent) : Bool := decide (e.parts ≠ []) && decide (0 < wholeF es f b e.name)
/-- seen from the first kind on: the rest, with what its splits make -/
theorem whole_tail {a : Ent} {es : List Ent} {f b b' : Str → Int} (h : ∀ e ∈ es, b e.name = b' e.name) (x : Str) (hx : b x = b' x) : wholeF (a :: es) f b x = wholeF es (addAll f (a.parts.map fun p => (p, b a.name))) b' x := by
  unfold wholeF
  rw [incs_cons, amt_append, incs_congr h, addAll_at, hx]
  omega
/-- one split more: of the first kind with parts that has whole pieces -/
theorem greedy_step : ∀ {es : List Ent} {f : Str → Int} {n : Int}, Behind es → (es.map (·.name)).Nodup → (∀ x, 0 ≤ f x) → 0 ≤ n → n < ((fs es f).map (·.2)).sum →
    ∃ e, es.find? (splitB es f (getD (greedy (fs es f) n))) = some e ∧ ∀ x, getD (greedy (fs es f) (n + 1)) x = getD (greedy (fs es f) n) x + if x = e.name then 1 else 0
  | [], _, n, _, _, _, h0, h1 => by
    have : n < 0 := h1
    omega
  | a :: es, f, n, b, nd, hf, hn, hs => by
    rw [List.map_cons, List.nodup_cons] at nd
    have fa := hf a.name
    have hf2 : ∀ x, 0 ≤ addAll f (a.parts.map fun p => (p, f a.name)) x := addAll_nonneg hf fa a.parts
    have fsn := fs_nonneg b.2 nd.2 hf2
    have self := incs_self b nd.1
    by_cases c : a.parts = []
    · have e1 : fs (a :: es) f = fs es f := by
        rw [fs, if_pos c, c]
        rfl
      rw [e1] at hs ⊢
      obtain ⟨e, h1, h2⟩ := greedy_step b.2 nd.2 hf hn hs
      refine ⟨e, ?_, h2⟩
      rw [List.find?_cons]
      have h3 : splitB (a :: es) f (getD (greedy (fs es f) n)) a = false := by
        unfold splitB
        rw [decide_eq_false (fun z => z c)]
        rfl
      rw [h3, ← h1]
      refine find_congr fun x hx => ?_
      unfold splitB
      rw [whole_tail (fun _ _ => rfl) x.name rfl, c]
      rfl
    · have e1 : fs (a :: es) f = (a.name, f a.name) :: fs es (addAll f (a.parts.map fun p => (p, f a.name))) := by
        rw [fs, if_neg c]
        rfl
      rw [e1] at hs ⊢
      rw [List.map_cons, List.sum_cons] at hs
      have e2 : ∀ m, greedy ((a.name, f a.name) :: fs es (addAll f (a.parts.map fun p => (p, f a.name)))) m = (a.name, if f a.name < m then f a.name else m) :: greedy (fs es (addAll f (a.parts.map fun p => (p, f a.name)))) (m - if f a.name < m then f a.name else m) := fun _ => rfl
      rw [e2, e2]
      by_cases d : n < f a.name
      · have q1 : (if f a.name < n then f a.name else n) = n := by split <;> omega
        have q2 : (if f a.name < n + 1 then f a.name else n + 1) = n + 1 := by split <;> omega
        rw [q1, q2]
        refine ⟨a, ?_, fun x => ?_⟩
        · rw [List.find?_cons]
          have h3 : splitB (a :: es) f (getD ((a.name, n) :: greedy (fs es (addAll f (a.parts.map fun p => (p, f a.name)))) (n - n))) a = true := by
            unfold splitB wholeF
            rw [decide_eq_true c, self, getD_cons, if_pos rfl]
            show decide _ = true
            rw [decide_eq_true_eq]
            omega
          rw [h3]
        · rw [getD_cons, getD_cons, greedy_zero fsn (by omega) (by omega), greedy_zero fsn (by omega) (by omega)]
          by_cases z : a.name = x
          · rw [if_pos z, if_pos z, if_pos z.symm]
          · rw [if_neg z, if_neg z, if_neg fun w => z w.symm]
            rfl
      · have q1 : (if f a.name < n then f a.name else n) = f a.name := by split <;> omega
        have q2 : (if f a.name < n + 1 then f a.name else n + 1) = f a.name := by split <;> omega
        rw [q1, q2]
        obtain ⟨e, h1, h2⟩ := greedy_step (n := n - f a.name) b.2 nd.2 hf2 (by omega) (by omega)
        have ee : n + 1 - f a.name = n - f a.name + 1 := by omega
        rw [ee]
        have hem : e ∈ es := List.mem_of_find?_eq_some h1
        refine ⟨e, ?_, fun x => ?_⟩
        · rw [List.find?_cons]
          have h3 : splitB (a :: es) f (getD ((a.name, f a.name) :: greedy (fs es (addAll f (a.parts.map fun p => (p, f a.name)))) (n - f a.name))) a = false := by
            unfold splitB wholeF
            rw [self, getD_cons, if_pos rfl, Bool.and_eq_false_iff]
            exact .inr (decide_eq_false (by omega))
          rw [h3, ← h1]
          refine find_congr fun x hx => ?_
          have ne : ∀ y ∈ es, a.name ≠ y.name := fun y hy z => nd.1 (List.mem_map.mpr ⟨y, hy, z.symm⟩)
          unfold splitB
          rw [whole_tail (b' := getD (greedy (fs es (addAll f (a.parts.map fun p => (p, f a.name)))) (n - f a.name))) (fun y hy => by rw [getD_cons, if_neg (ne y hy)]) x.name (by rw [getD_cons, if_neg (ne x hx)]), getD_cons, if_pos rfl]
        · rw [getD_cons, getD_cons, h2]
          by_cases z : a.name = x
          · rw [if_pos z, if_pos z, if_neg]
            · omega
            · intro w
              exact nd.1 (List.mem_map.mpr ⟨e, hem, by rw [← w, z]⟩)
          · rw [if_neg z, if_neg z]
/-- when all is split, no kind with parts has whole pieces -/
theorem greedy_done : ∀ {es : List Ent} {f : Str → Int} {n : Int}, Behind es → (es.map (·.name)).Nodup → (∀ x, 0 ≤ f x) → n = ((fs es f).map (·.2)).sum → es.find? (splitB es f (getD (greedy (fs es f) n))) = none
  | [], _, _, _, _, _, _ => rfl
  | a :: es, f, n, b, nd, hf, hs => by
    rw [List.map_cons, List.nodup_cons] at nd
    have fa := hf a.name
    have hf2 : ∀ x, 0 ≤ addAll f (a.parts.map fun p => (p, f a.name)) x := addAll_nonneg hf fa a.parts
    have fsn := fs_nonneg b.2 nd.2 hf2
    have self := incs_self b nd.1
    by_cases c : a.parts = []
    · have e1 : fs (a :: es) f = fs es f := by
        rw [fs, if_pos c, c]
        rfl
      rw [e1] at hs ⊢
      have h1 := greedy_done b.2 nd.2 hf hs
      rw [List.find?_cons]
      have h3 : splitB (a :: es) f (getD (greedy (fs es f) n)) a = false := by
        unfold splitB
        rw [decide_eq_false (fun z => z c)]
        rfl
      rw [h3, ← h1]
      refine find_congr fun x hx => ?_
      unfold splitB
      rw [whole_tail (fun _ _ => rfl) x.name rfl, c]
      rfl
    · have e1 : fs (a :: es) f = (a.name, f a.name) :: fs es (addAll f (a.parts.map fun p => (p, f a.name))) := by
        rw [fs, if_neg c]
        rfl
      rw [e1] at hs ⊢
      rw [List.map_cons, List.sum_cons] at hs
      have hs0 : 0 ≤ ((fs es (addAll f (a.parts.map fun p => (p, f a.name)))).map (·.2)).sum := by
        clear hs e1
        generalize fs es (addAll f (a.parts.map fun p => (p, f a.name))) = l at fsn
        induction l with
        | nil => exact Int.le_refl _
        | cons q l ih =>
          rw [List.map_cons, List.sum_cons]
          have := fsn q (List.mem_cons_self ..)
          have := ih fun y hy => fsn y (List.mem_cons_of_mem _ hy)
          omega
      have e2 : greedy ((a.name, f a.name) :: fs es (addAll f (a.parts.map fun p => (p, f a.name)))) n = (a.name, if f a.name < n then f a.name else n) :: greedy (fs es (addAll f (a.parts.map fun p => (p, f a.name)))) (n - if f a.name < n then f a.name else n) := rfl
      rw [e2]
      have q1 : (if f a.name < n then f a.name else n) = f a.name := by
        have : f a.name ≤ n := by omega
        split <;> omega
      rw [q1]
      have h1 := greedy_done (n := n - f a.name) b.2 nd.2 hf2 (by omega)
      rw [List.find?_cons]
      have h3 : splitB (a :: es) f (getD ((a.name, f a.name) :: greedy (fs es (addAll f (a.parts.map fun p => (p, f a.name)))) (n - f a.name))) a = false := by
        unfold splitB wholeF
        rw [self, getD_cons, if_pos rfl, Bool.and_eq_false_iff]
        exact .inr (decide_eq_false (by omega))
      rw [h3, ← h1]
      refine find_congr fun x hx => ?_
      have ne : ∀ y ∈ es, a.name ≠ y.name := fun y hy z => nd.1 (List.mem_map.mpr ⟨y, hy, z.symm⟩)
      unfold splitB
      rw [whole_tail (b' := getD (greedy (fs es (addAll f (a.parts.map fun p => (p, f a.name)))) (n - f a.name))) (fun y hy => by rw [getD_cons, if_neg (ne y hy)]) x.name (by rw [getD_cons, if_neg (ne x hx)]), getD_cons, if_pos rfl]
end Sk
namespace Sk
open PySem PySem.Spec PyProof.Rows L2
abbrev s_heaviest : Stmt := topS 26
abbrev N_heaviest : List Str := ["catalogue", "stock", "number", "numbers", "entries", "found", "name", "weight", "parts"]
theorem sc_heaviest : FnScope N_heaviest ["catalogue", "stock", "number"] (defScope s_heaviest) := ⟨rfl, rfl, rfl, by decide +kernel, rfl, by decide +kernel, by decide +kernel⟩
/-- the weight of the first kind of which there are some -/
def topE (es : List Ent) (b : Str → Int) : Option Int := (es.find? fun e => decide (0 < b e.name)).map (·.w)
def sp_heaviest (Tb : List (Addr × Str)) (K : PySem.W.Frag) : Sp := fun vs H Q _ => ∃ (a b : Addr) (xs : List V) (es : List Ent) (st : Num) (n : Int), vs = [.ref a, .ref b, .int n] ∧ SqL K H a xs ∧ CatAt H xs es ∧ H b = some (.dK (dS st)) ∧ LamX.Tabs Tb H ∧ Valid es ∧ StockOk es st ∧ 0 ≤ n ∧ (∀ es', es'.Perm es → Ordered es' → n ≤ ((fs es' (getD st)).map (·.2)).sum) ∧
  ∀ H' es', es'.Perm es → Ordered es' → Gr Tb H H' → Q (optV (topE es' (wholeF es' (getD st) (getD (greedy (fs es' (getD st)) n))))) H'

section
variable {P : Program} {w : World} {K : PySem.W.Frag} {mg : Str → Option Value} {base : Heap} {Tb : List (Addr × Str)}
theorem ok_heaviest {f : Addr} {fd : FuncData} (F : FnP K "heaviest" s_heaviest f fd) (T : Tx K mg) (G_checked_splits : Fn P w K mg base "checked_splits" 5 ["catalogue", "stock", "number"] (sp_checked_splits Tb K)) (G_piece_numbers : Fn P w K mg base "piece_numbers" 1 ["entries", "stock", "splits"] (sp_piece_numbers Tb K)) : FnOk P w K mg base CX0 6 f fd ["catalogue", "stock", "number"] (sp_heaviest Tb K) := by
  refine F.ok sc_heaviest (fun vs H Q E h => ?_) (fun cdv A outer s H vs Q E hr h => ?_)
  · obtain ⟨_, _, _, _, _, _, rfl, _⟩ := h
    rfl
  · obtain ⟨a, b, xs, es, st, n, rfl, ha, hc, hb, ht, hv, so, n0, n1, k⟩ := h
    refine ⟨_, PSs.nox (pss_cons (ps_asg (pe_fn G_checked_splits (hr.mono (by decide)) (pa_cons (pv 0) (pa_cons (pv 1) (pa_cons (pv 2) pa_nil)))) (pg_tup rfl (pgs_cons (pg_name (i := 4) sc_heaviest.nd rfl (Or.inl rfl)) (pgs_cons (pg_name (i := 5) sc_heaviest.nd rfl (Or.inl rfl)) pgs_nil))))
      (pss_cons (ps_set (i := 3) sc_heaviest.nd rfl (Or.inl rfl) (pe_fn G_piece_numbers (hr.mono (by decide)) (pa_cons (pv 4) (pa_cons (pv 1) (pa_cons (pv 5) pa_nil)))))
      (pss_cons (ps_for PassesOwn.never rfl (piL (K := K) rfl (pv 4)) (pg_tup rfl (pgs_cons (pg_name (i := 6) sc_heaviest.nd rfl (Or.inl rfl)) (pgs_cons (pg_name (i := 7) sc_heaviest.nd rfl (Or.inl rfl)) (pgs_cons (pg_name (i := 8) sc_heaviest.nd rfl (Or.inl rfl)) pgs_nil)))) (pss_one (ps_if (pt_cmpR op_gt (pe_dget (hu_of hr) (pv 3) (pv 6) (fun _ _ => rfl)) (pe_dget2 (hu_of hr) (pv 5) (pv 6) pe_int ⟨rfl, rfl, rfl, rfl⟩) (nomark _)) (pss_one (ps_ret (pv 7))) pss_nil)))
      (pss_one (ps_ret pe_non))))), ?_⟩
    refine ⟨_, rfl, _, rfl, _, rfl, a, b, xs, es, st, n, rfl, ha, hc, hb, ht, hv, so, n0, n1, fun t r d H1 ys es' hp ho g1 ht1 hr1 hc1 hd1 => ?_⟩
    refine gtup2 ht1 ?_
    have hv' := hv.perm hp
    have hyl := Paired.len hc1
    refine ⟨_, rfl, _, rfl, _, rfl, r, b, d, ys, es', st, _, rfl, SqL.of hr1, hc1, g1.at hb .dK, hd1, hv'.nodup, hv'.known, hv'.few, fun N H2 g2 hN hN2 => ?_⟩
    have k2 := fun H' g => k H' es' hp ho g
    have hd2 := g2.at hd1 .dK
    have hc2 := CatAt.gr g2 hc1
    have g12 := g1.trans g2
    generalize greedy (fs es' (getD st)) n = bb at hN2 hd2 k2
    have ew : ∀ x, wholeF es' (getD st) (getD bb) x = pn es' st bb x - getD bb x := fun x => by rw [pn_at]; rfl
    refine ⟨_, rfl, r, rfl, ⟨_, SqL.of (g2.at hr1 .lst)⟩, for_list (K := K) (a := r) (xs := ys) (fun i σ H' => ∃ s6 s7 s8 : Option V, σ = [some (.ref a), some (.ref b), some (.int n), some (.ref N), some (.ref r), some (.ref d), s6, s7, s8] ∧ H' = H2 ∧ ((es'.take i).find? fun e => decide (0 < wholeF es' (getD st) (getD bb) e.name)) = none)
      ⟨_, _, _, rfl, rfl, rfl⟩ (fun i σ H' _ ⟨_, _, _, _, h, _⟩ => by rw [h]; exact SqL.of (g2.at hr1 .lst)) ?_ ?_⟩
    · rintro i x σ H3 hx ⟨s6, s7, s8, rfl, rfl, hno⟩
      obtain ⟨e, he, t2, lp, rfl, ht0, hlp⟩ := Paired.at hc2 hx
      have hnm : e.name ∈ es'.map (·.name) := List.mem_map.mpr ⟨e, List.mem_of_getElem? he, rfl⟩
      refine gtup3 ht0 ?_
      refine ⟨_, rfl, _, rfl, N, _, rfl, dgetS hN2 (get?_numOf hnm), _, rfl, d, rfl, IsD.num hd2, _, rfl, _, dgetO hd2 e.name, ?_⟩
      rw [getO]
      refine ⟨_, _, rfl, rfl, _, rfl, ?_⟩
      refine ite2 (fun c1 => ?_) (fun c1 => ?_)
      · have c2 := of_decide_eq_true c1
        refine ⟨_, rfl, ?_⟩
        have ef : topE es' (wholeF es' (getD st) (getD bb)) = some e.w := by
          unfold topE
          have hsplit : es' = es'.take i ++ es'.drop i := (List.take_append_drop i es').symm
          have : (es'.find? fun e => decide (0 < wholeF es' (getD st) (getD bb) e.name)) = some e := by
            conv => lhs; arg 2; rw [hsplit]
            rw [List.find?_append, hno, Option.none_or, List.drop_eq_getElem_cons (List.getElem?_eq_some_iff.mp he).1, List.find?_cons, (List.getElem?_eq_some_iff.mp he).2, decide_eq_true (by rw [ew]; omega)]
          rw [this]
          rfl
        have := k2 _ g12
        rw [ef] at this
        exact this
      · refine ⟨_, _, _, rfl, rfl, ?_⟩
        rw [take_snoc he, List.find?_append, hno, Option.none_or, List.find?_cons, decide_eq_false]
        · rfl
        · rw [ew]
          intro z
          exact c1 (decide_eq_true (by omega))
    · rintro σ H3 ⟨s6, s7, s8, rfl, rfl, hno⟩
      rw [hyl, List.take_length] at hno
      have := k2 _ g12
      unfold topE at this
      rw [hno] at this
      exact this
end
end Sk
namespace Sk
open PySem PySem.Spec PyProof.Rows L2
theorem ones_le (l : List Str) (x : Str) : 0 ≤ amt (ones l) x ∧ amt (ones l) x ≤ l.length := by
  induction l with
  | nil => exact ⟨Int.le_refl _, Int.le_refl _⟩
  | cons p l ih =>
    unfold ones at ih ⊢
    rw [List.map_cons, amt_cons, List.length_cons]
    show 0 ≤ (if p = x then (1 : Int) else 0) + _ ∧ (if p = x then (1 : Int) else 0) + _ ≤ _
    split <;> omega
theorem amt_incs' (es : List Ent) (f : Str → Int) (x : Str) : amt (incs es f) x = (es.map fun e => f e.name * amt (ones e.parts) x).sum := by
  have one : ∀ (l : List Str) (c : Int), amt (l.map fun p => (p, c)) x = c * amt (ones l) x := by
    intro l c
    induction l with
    | nil =>
      show (0 : Int) = c * 0
      omega
    | cons p l ih =>
      unfold ones at ih ⊢
      rw [List.map_cons, List.map_cons, amt_cons, amt_cons, ih, Int.mul_add]
      show (if p = x then c else 0) + _ = c * (if p = x then 1 else 0) + _
      split <;> omega
  induction es with
  | nil => rfl
  | cons e es ih =>
    unfold incs at ih ⊢
    rw [List.flatMap_cons, amt_append, ih, List.map_cons, List.sum_cons, one]
theorem getD_nonneg {d : Num} (h : ∀ q ∈ d, 0 ≤ q.2) (x : Str) : 0 ≤ getD d x := by
  unfold getD
  cases q : get? d x with
  | none => exact Int.le_refl _
  | some i =>
    have : (x, i) ∈ d := by
      unfold get? at q
      cases f : d.find? fun q => decide (q.1 = x) with
      | none => rw [f] at q; cases q
      | some z =>
        rw [f] at q
        have h1 : z.1 = x := by
          have := List.find?_some f
          simpa using this
        have h2 := List.mem_of_find?_eq_some f
        have h3 : z.2 = i := Option.some.inj q
        rw [← h1, ← h3]
        exact h2
    exact h _ this
theorem sumE_add' (f g : Ent → Int) (es : List Ent) : (es.map fun e => f e + g e).sum = (es.map f).sum + (es.map g).sum := by
  induction es with
  | nil => rfl
  | cons e es ih =>
    rw [List.map_cons, List.map_cons, List.map_cons, List.sum_cons, List.sum_cons, List.sum_cons, ih]
    omega
theorem sumE_le' {f g : Ent → Int} : ∀ {es : List Ent}, (∀ e ∈ es, f e ≤ g e) → (es.map f).sum ≤ (es.map g).sum
  | [], _ => Int.le_refl _
  | e :: es, h => by
    rw [List.map_cons, List.map_cons, List.sum_cons, List.sum_cons]
    have h1 := h e (List.mem_cons_self ..)
    have h2 := sumE_le' fun z hz => h z (List.mem_cons_of_mem _ hz)
    omega
theorem sum_ind {x : Str} {v : Int} (hv : 0 ≤ v) : ∀ {es : List Ent}, (es.map (·.name)).Nodup → (es.map fun e => if x = e.name then v else 0).sum ≤ v ∧ (x ∉ es.map (·.name) → (es.map fun e => if x = e.name then v else 0).sum = 0)
  | [], _ => ⟨hv, fun _ => rfl⟩
  | e :: es, nd => by
    rw [List.map_cons, List.nodup_cons] at nd
    obtain ⟨h1, h2⟩ := sum_ind hv nd.2
    rw [List.map_cons, List.sum_cons, List.map_cons]
    constructor
    · by_cases c : x = e.name
      · rw [if_pos c, h2 (by rw [c]; exact nd.1)]
        omega
      · rw [if_neg c]
        omega
    · intro hx
      rw [if_neg fun c => hx (by rw [c]; exact List.mem_cons_self ..), h2 fun z => hx (List.mem_cons_of_mem _ z)]
      rfl
theorem getD_cons' {q : Str × Int} {c : Num} (h : q.1 ∉ c.map (·.1)) (x : Str) : getD (q :: c) x = (if q.1 = x then q.2 else 0) + getD c x := by
  unfold getD
  rw [get?_cons]
  by_cases e : q.1 = x
  · rw [if_pos e, if_pos e, get?_none (by rw [← e]; exact h)]
    show q.2 = q.2 + 0
    omega
  · rw [if_neg e, if_neg e]
    omega
theorem sum_getD : ∀ {c : Num}, (c.map (·.1)).Nodup → (∀ q ∈ c, 0 ≤ q.2) → ∀ {es : List Ent}, (es.map (·.name)).Nodup → (es.map fun e => getD c e.name).sum ≤ (c.map (·.2)).sum
  | [], _, _, es, _ => by
    show (es.map fun _ => (0 : Int)).sum ≤ 0
    induction es with
    | nil => exact Int.le_refl _
    | cons e es ih =>
      rw [List.map_cons, List.sum_cons]
      have := ih (by
        rename_i h
        exact (List.nodup_cons.mp h).2)
      omega
  | q :: c, nc, pc, es, nd => by
    rw [List.map_cons, List.nodup_cons] at nc
    have h1 := sum_getD nc.2 (fun z hz => pc z (List.mem_cons_of_mem _ hz)) nd
    have h2 := (sum_ind (x := q.1) (pc q (List.mem_cons_self ..)) nd).1
    have e : (es.map fun e => getD (q :: c) e.name).sum = (es.map fun e => (if q.1 = e.name then q.2 else 0) + getD c e.name).sum := by
      congr 1
      exact List.map_congr_left fun z _ => getD_cons' nc.1 z.name
    rw [e, sumE_add', List.map_cons, List.sum_cons]
    omega
theorem getD_app {c : Num} {x : Str} {v : Int} (h : x ∉ c.map (·.1)) (y : Str) : getD (c ++ [(x, v)]) y = if y = x then v else getD c y := by
  rw [← put_new' h, getD_put]
theorem pn_mono {es : List Ent} {st c c' : Num} (h : ∀ y, getD c y ≤ getD c' y) (x : Str) : pn es st c x ≤ pn es st c' x := by
  rw [pn_at, pn_at, amt_incs', amt_incs']
  have := sumE_le' (es := es) (f := fun e => getD c e.name * amt (ones e.parts) x) (g := fun e => getD c' e.name * amt (ones e.parts) x) fun e _ => Int.mul_le_mul_of_nonneg_right (h e.name) (ones_le e.parts x).1
  omega
theorem pn_nonneg' {es : List Ent} {st c : Num} (hs : ∀ q ∈ st, 0 ≤ q.2) (hc : ∀ q ∈ c, 0 ≤ q.2) (x : Str) : 0 ≤ pn es st c x := by
  rw [pn_at, amt_incs']
  have h1 := getD_nonneg hs x
  have h2 := sumE_le' (es := es) (f := fun _ => 0) (g := fun e => getD c e.name * amt (ones e.parts) x) fun e _ => Int.mul_nonneg (getD_nonneg hc _) (ones_le e.parts x).1
  have h3 : (es.map fun _ => (0 : Int)).sum = 0 := by
    clear h2
    induction es with
    | nil => rfl
    | cons e es ih =>
      rw [List.map_cons, List.sum_cons, ih]
      rfl
  omega
theorem getD_perm {c c' : Num} (p : c'.Perm c) (nd : (c.map (·.1)).Nodup) : getD c' = getD c := by
  funext x
  have nd' : (c'.map (·.1)).Nodup := (p.map _).nodup_iff.mpr nd
  by_cases h : x ∈ c.map (·.1)
  · obtain ⟨q, hq, rfl⟩ := List.mem_map.mp h
    rw [getD_mem nd hq, getD_mem nd' (p.mem_iff.mpr hq)]
  · rw [getD_none h, getD_none fun z => h ((p.map _).mem_iff.mp z)]
theorem pn_congr {es : List Ent} {st st' c c' : Num} (h : getD st' = getD st) (h2 : getD c' = getD c) : pn es st' c' = pn es st c := by
  unfold pn
  rw [h, h2]
theorem SplitsOk.perm {es : List Ent} {st c c' : Num} (p : c'.Perm c) (h : SplitsOk es st c) : SplitsOk es st c' := by
  refine ⟨(p.map _).nodup_iff.mpr h.nd, by rw [p.length_eq]; exact h.few, fun q hq => h.known q (p.mem_iff.mp hq), fun e he => ?_⟩
  rw [pn_congr rfl (getD_perm p h.nd), getD_perm p h.nd]
  exact h.fits e he
/-- the splits made so far -/
structure CutsAt (es es' : List Ent) (st : Num) (i : Nat) (c : Num) : Prop where
  nd : (c.map (·.1)).Nodup
  len : c.length ≤ i
  known : ∀ q ∈ c, q.1 ∈ (es'.take i).map (·.name)
  fits : ∀ e ∈ es, 0 ≤ getD c e.name ∧ getD c e.name ≤ if e.parts = [] then 0 else pn es st c e.name
  pos : ∀ q ∈ c, 0 ≤ q.2
  big : 6 * (c.map (·.2)).sum + 10 ^ 30 ≤ 10 ^ 30 * 7 ^ i
theorem pow7 (i : Nat) : (0 : Int) < 7 ^ i := Int.pow_pos (by decide)
theorem CutsAt.num {es es' : List Ent} {st c : Num} {i : Nat} (h : CutsAt es es' st i c) (nd : (es.map (·.name)).Nodup) (hp : ∀ e ∈ es, e.parts.length ≤ 6) (sm : ∀ q ∈ st, q.2 ≤ 10 ^ 30) (ss : (st.map (·.1)).Nodup) (x : Str) : pn es st c x ≤ 6 * (c.map (·.2)).sum + 10 ^ 30 := by
  rw [pn_at, amt_incs']
  have h1 : getD st x ≤ 10 ^ 30 := by
    by_cases hx : x ∈ st.map (·.1)
    · obtain ⟨q, hq, rfl⟩ := List.mem_map.mp hx
      rw [getD_mem ss hq]
      exact sm q hq
    · rw [getD_none hx]
      decide
  have h2 := sum_getD h.nd h.pos nd
  have h3 := sumE_le' (es := es) (f := fun e => getD c e.name * amt (ones e.parts) x) (g := fun e => getD c e.name * 6) fun e he => by
    have a1 := ones_le e.parts x
    have a2 := hp e he
    exact Int.mul_le_mul_of_nonneg_left (by omega) (getD_nonneg h.pos _)
  have h4 : (es.map fun e => getD c e.name * 6).sum = 6 * (es.map fun e => getD c e.name).sum := by
    clear h3 h2 nd hp h
    induction es with
    | nil => rfl
    | cons e es ih =>
      rw [List.map_cons, List.sum_cons, ih, List.map_cons, List.sum_cons]
      omega
  omega
theorem CutsAt.keep {es es' : List Ent} {st c : Num} {i : Nat} (h : CutsAt es es' st i c) {e : Ent} (he : es'[i]? = some e) : CutsAt es es' st (i + 1) c := by
  refine ⟨h.nd, Nat.le_succ_of_le h.len, fun q hq => ?_, h.fits, h.pos, ?_⟩
  · rw [take_snoc he, List.map_append]
    exact List.mem_append_left _ (h.known q hq)
  · have h1 := h.big
    have h2 := pow7 i
    rw [Int.pow_succ]
    omega
theorem CutsAt.step {es es' : List Ent} {st c : Num} {i : Nat} (h : CutsAt es es' st i c) {e : Ent} (he : es'[i]? = some e) (hp : es'.Perm es) (v : Valid es) (hq : ∀ e ∈ es, e.parts.length ≤ 6) (sm : ∀ q ∈ st, q.2 ≤ 10 ^ 30) (ss : (st.map (·.1)).Nodup) {z : Int} (z0 : 0 ≤ z) (z1 : z ≤ if e.parts = [] then 0 else pn es st c e.name) :
    e.name ∉ c.map (·.1) ∧ CutsAt es es' st (i + 1) (c ++ [(e.name, z)]) := by
  have hnd' : (es'.map (·.name)).Nodup := (hp.map _).nodup_iff.mpr v.nodup
  have nn : e.name ∉ c.map (·.1) := fun hm => by
    obtain ⟨q, hq, z⟩ := List.mem_map.mp hm
    exact take_notin hnd' he (z ▸ h.known q hq)
  have up : ∀ y, getD c y ≤ getD (c ++ [(e.name, z)]) y := fun y => by
    rw [getD_app nn]
    split
    · rename_i q
      rw [q, getD_none nn]
      exact z0
    · exact Int.le_refl _
  have hem : e ∈ es := hp.mem_iff.mp (List.mem_of_getElem? he)
  refine ⟨nn, ⟨?_, ?_, fun q hq => ?_, fun x hx => ?_, fun q hq => ?_, ?_⟩⟩
  · rw [List.map_append]
    refine List.nodup_append.mpr ⟨h.nd, by simp, fun x hx y hy => ?_⟩
    rw [List.mem_singleton.mp hy]
    intro q
    have q2 : x = e.name := q
    rw [q2] at hx
    exact nn hx
  · rw [List.length_append, List.length_singleton]
    have := h.len
    omega
  · rw [take_snoc he, List.map_append]
    rcases List.mem_append.mp hq with hq | hq
    · exact List.mem_append_left _ (h.known q hq)
    · rw [List.mem_singleton.mp hq]
      exact List.mem_append_right _ (List.mem_singleton.mpr rfl)
  · obtain ⟨f1, f2⟩ := h.fits x hx
    have hm := pn_mono (es := es) (st := st) up x.name
    rw [getD_app nn]
    by_cases q : x.name = e.name
    · have xe : x = e := by
        obtain ⟨j, hj⟩ := List.mem_iff_getElem?.mp hx
        obtain ⟨l, hl⟩ := List.mem_iff_getElem?.mp hem
        have ij : j = l := nodup_ix v.nodup (x := e.name) (by rw [List.getElem?_map, hj, ← q]; rfl) (by rw [List.getElem?_map, hl]; rfl)
        rw [ij, hl] at hj
        cases hj
        rfl
      subst xe
      rw [if_pos rfl]
      refine ⟨z0, ?_⟩
      split at z1
      · rename_i w
        rw [if_pos w]
        exact z1
      · rename_i w
        rw [if_neg w]
        omega
    · rw [if_neg q]
      refine ⟨f1, ?_⟩
      split at f2
      · rename_i w
        rw [if_pos w]
        exact f2
      · rename_i w
        rw [if_neg w]
        omega
  · rcases List.mem_append.mp hq with hq | hq
    · exact h.pos q hq
    · rw [List.mem_singleton.mp hq]
      exact z0
  · have h1 := h.big
    have h2 := h.num v.nodup hq sm ss e.name
    have h3 : z ≤ 6 * (c.map (·.2)).sum + 10 ^ 30 := by
      split at z1
      · have : 0 ≤ (c.map (·.2)).sum := by
          have key : ∀ l : Num, (∀ q ∈ l, q ∈ c) → 0 ≤ (l.map (·.2)).sum := by
            intro l
            induction l with
            | nil => intro _; exact Int.le_refl _
            | cons q l ih =>
              intro hl
              rw [List.map_cons, List.sum_cons]
              have a1 := h.pos q (hl q (List.mem_cons_self ..))
              have a2 := ih fun y hy => hl y (List.mem_cons_of_mem _ hy)
              omega
          exact key c fun _ h => h
        omega
      · omega
    rw [List.map_append, List.map_cons, List.map_nil, List.sum_append, List.sum_cons, List.sum_nil, Int.pow_succ]
    have h4 := pow7 i
    omega
theorem CutsAt.small {es es' : List Ent} {st c : Num} {i : Nat} (h : CutsAt es es' st i c) (hi : i ≤ 20) : ∀ q ∈ c, 0 ≤ q.2 ∧ q.2 < 2 ^ 190 := by
  have key : ∀ l : Num, (∀ q ∈ l, q ∈ c) → 0 ≤ (l.map (·.2)).sum ∧ ∀ q ∈ l, q.2 ≤ (l.map (·.2)).sum := by
    intro l
    induction l with
    | nil => intro _; exact ⟨Int.le_refl _, by simp⟩
    | cons q l ih =>
      intro hl
      obtain ⟨a1, a2⟩ := ih fun y hy => hl y (List.mem_cons_of_mem _ hy)
      have a3 := h.pos q (hl q (List.mem_cons_self ..))
      rw [List.map_cons, List.sum_cons]
      refine ⟨by omega, fun y hy => ?_⟩
      rcases List.mem_cons.mp hy with rfl | hy
      · omega
      · have := a2 y hy
        omega
  intro q hq
  obtain ⟨h1, h2⟩ := key c fun _ h => h
  have h3 := h2 q hq
  have h4 := h.big
  have b3 : (10 : Int) ^ 30 * 7 ^ i ≤ 10 ^ 30 * 7 ^ 20 := by
    have h5 : 7 ^ i ≤ 7 ^ 20 := Nat.pow_le_pow_right (by decide) hi
    exact Int.mul_le_mul_of_nonneg_left (by exact_mod_cast h5) (by decide)
  have b4 : (10 : Int) ^ 30 * 7 ^ 20 < 2 ^ 190 := by decide
  exact ⟨h.pos q hq, by omega⟩
end Sk
namespace Sk
open PySem PySem.Spec PyProof.Rows L2
abbrev s_all_states : Stmt := topS 28
abbrev N_all_states : List Str := ["entries", "stock", "found", "name", "weight", "parts", "longer", "splits", "most", "number"]
theorem sc_all_states : FnScope N_all_states ["entries", "stock"] (defScope s_all_states) := ⟨rfl, rfl, rfl, by decide +kernel, rfl, by decide +kernel, by decide +kernel⟩
def NumAt (H : Hp) (v : V) (t : Num) : Prop := ∃ x, v = .ref x ∧ H x = some (.dK (dS t))
/-- how many pieces of a kind may be split -/
def mostS (es : List Ent) (st t : Num) (e : Ent) : Int := if e.parts = [] then 0 else pn es st t e.name
def growS (es : List Ent) (st : Num) (l : List Num) (e : Ent) : List Num := l.flatMap fun t => (List.range (mostS es st t e + 1).toNat).map fun (k : Nat) => put t e.name (k : Int)
/-- all splits of the first n kinds -/
def statesS (es : List Ent) (st : Num) (n : Nat) : List Num := (es.take n).foldl (growS es st) [numOf es fun _ => 0]
def sp_all_states (Tb : List (Addr × Str)) (K : PySem.W.Frag) : Sp := fun vs H Q _ => ∃ (a b : Addr) (xs : List V) (es : List Ent) (st : Num), vs = [.ref a, .ref b] ∧ SqL K H a xs ∧ CatAt H xs es ∧ H b = some (.dK (dS st)) ∧ (es.map (·.name)).Nodup ∧ (∀ e ∈ es, ∀ p ∈ e.parts, p ∈ es.map (·.name)) ∧ es.length ≤ 100000 ∧ (∀ q ∈ st, 0 ≤ q.2) ∧ (∀ n, (statesS es st n).length ≤ 100000) ∧
  ∀ r H' ys, Gr Tb H H' → Nw H r → H' r = some (.lst ys) → Paired (NumAt H') ys (statesS es st es.length) → Q (.ref r) H'
theorem NumAt.gr {Tb : List (Addr × Str)} {H H' : Hp} (g : Gr Tb H H') {ys : List V} {l : List Num} (h : Paired (NumAt H) ys l) : Paired (NumAt H') ys l := Paired.imp (fun _ _ ⟨x, e, z⟩ => ⟨x, e, g.at z .dK⟩) h
theorem statesS_succ {es : List Ent} {st : Num} {n : Nat} {e : Ent} (h : es[n]? = some e) : statesS es st (n + 1) = growS es st (statesS es st n) e := by
  unfold statesS
  rw [take_snoc h, List.foldl_append]
  rfl
/-- a state is a number for each kind -/
def StN (es : List Ent) (t : Num) : Prop := ∃ f : Str → Int, t = numOf es f ∧ ∀ x, 0 ≤ f x
theorem StN.put {es : List Ent} {t : Num} (h : StN es t) {x : Str} (hx : x ∈ es.map (·.name)) (k : Nat) : StN es (put t x (k : Int)) := by
  obtain ⟨f, rfl, h0⟩ := h
  refine ⟨upF f x k, put_numOf hx, fun y => ?_⟩
  unfold upF
  split
  · omega
  · exact h0 y
theorem StN.pos {es : List Ent} {t : Num} (h : StN es t) : ∀ q ∈ t, 0 ≤ q.2 := fun q hq => by
  obtain ⟨f, rfl, h0⟩ := h
  obtain ⟨e, _, rfl⟩ := List.mem_map.mp hq
  exact h0 _
theorem StN.len {es : List Ent} {t : Num} (h : StN es t) : t.length = es.length := by
  obtain ⟨f, rfl, _⟩ := h
  exact numOf_len es f
theorem StN.nodup {es : List Ent} {t : Num} (h : StN es t) (nd : (es.map (·.name)).Nodup) : (t.map (·.1)).Nodup := by
  obtain ⟨f, rfl, _⟩ := h
  rw [numOf_names]
  exact nd
theorem growS_st {es : List Ent} {st : Num} {l : List Num} {e : Ent} (h : ∀ t ∈ l, StN es t) (he : e ∈ es) : ∀ t ∈ growS es st l e, StN es t := fun t ht => by
  obtain ⟨u, hu, hk⟩ := List.mem_flatMap.mp ht
  obtain ⟨k, _, rfl⟩ := List.mem_map.mp hk
  exact (h u hu).put (List.mem_map.mpr ⟨e, he, rfl⟩) k
theorem statesS_st (es : List Ent) (st : Num) : ∀ n, ∀ t ∈ statesS es st n, StN es t
  | 0, t, h => by
    unfold statesS at h
    rw [List.take_zero] at h
    rw [List.mem_singleton.mp h]
    exact ⟨_, rfl, fun _ => Int.le_refl _⟩
  | n + 1, t, h => by
    cases q : es[n]? with
    | some e =>
      rw [statesS_succ q] at h
      exact growS_st (statesS_st es st n) (List.mem_of_getElem? q) t h
    | none =>
      have l1 := List.getElem?_eq_none_iff.mp q
      have e1 : statesS es st (n + 1) = statesS es st n := by
        unfold statesS
        rw [List.take_of_length_le (by omega), List.take_of_length_le l1]
      rw [e1] at h
      exact statesS_st es st n t h
theorem growS_take {es : List Ent} {st : Num} {l : List Num} {e : Ent} {j : Nat} {t : Num} (h : l[j]? = some t) : growS es st (l.take (j + 1)) e = growS es st (l.take j) e ++ (List.range (mostS es st t e + 1).toNat).map fun (k : Nat) => put t e.name (k : Int) := by
  unfold growS
  rw [take_snoc h, List.flatMap_append]
  simp
theorem growS_le {es : List Ent} {st : Num} {l : List Num} {e : Ent} (j : Nat) : (growS es st (l.take j) e).length ≤ (growS es st l e).length := by
  have h : growS es st l e = growS es st (l.take j) e ++ growS es st (l.drop j) e := by
    unfold growS
    rw [← List.flatMap_append, List.take_append_drop]
  rw [h, List.length_append]
  omega
def zeroO (H : Hp) (v : V) : Option (Str × Int) := match itemAt H 0 v with
  | some (.str n) => some (n, 0)
  | _ => none
theorem zeroO_at {H : Hp} {v : V} {e : Ent} (h : EntAt H v e) : zeroO H v = some (e.name, 0) := by
  obtain ⟨t, l, rfl, ht, _⟩ := h
  unfold zeroO
  rw [itemAt_tup ht]
  rfl
section
variable {P : Program} {w : World} {K : PySem.W.Frag} {mg : Str → Option Value} {base : Heap} {Tb : List (Addr × Str)}
theorem ok_all_states {f : Addr} {fd : FuncData} (F : FnP K "all_states" s_all_states f fd) (T : Tx K mg) (G_piece_numbers : Fn P w K mg base "piece_numbers" 1 ["entries", "stock", "splits"] (sp_piece_numbers Tb K)) : FnOk P w K mg base CX0 2 f fd ["entries", "stock"] (sp_all_states Tb K) := by
  refine F.ok sc_all_states (fun vs H Q E h => ?_) (fun cdv A outer s H vs Q E hr h => ?_)
  · obtain ⟨_, _, _, _, _, rfl, _⟩ := h
    rfl
  · obtain ⟨a, b, xs, es, st, rfl, ha, hc, hb, hnd, hp, hz, h0, hs, k⟩ := h
    refine ⟨_, PSs.nox (pss_cons (ps_set (i := 2) sc_all_states.nd rfl (Or.inl rfl) (pe_lst (pa_cons (pe_dc (own := [("name", 3), ("weight", 4), ("parts", 5)]) (g := (gTup K 3 (gCons (gName 3) (gCons (gName 4) (gCons (gName 5) gNil))))) (tt := tYes) rfl sc_all_states.nd (piL (K := K) rfl (pv 0)) (blkOk_by (N := N_all_states) (sc := (defScope s_all_states)) (by decide +kernel)) (fun _ _ _ _ _ => (pg_tup rfl (pgs_cons (pg_name (i := 3) sc_all_states.nd rfl (Or.inl rfl)) (pgs_cons (pg_name (i := 4) sc_all_states.nd rfl (Or.inl rfl)) (pgs_cons (pg_name (i := 5) sc_all_states.nd rfl (Or.inl rfl)) pgs_nil))))) (fun _ _ _ _ _ => pts_nil) (fun _ _ _ _ _ => (pv 3)) (fun _ _ _ _ _ => pe_int)) pa_nil)))
      (pss_cons (ps_for PassesOwn.never rfl (piL (K := K) rfl (pv 0)) (pg_tup rfl (pgs_cons (pg_name (i := 3) sc_all_states.nd rfl (Or.inl rfl)) (pgs_cons (pg_name (i := 4) sc_all_states.nd rfl (Or.inl rfl)) (pgs_cons (pg_name (i := 5) sc_all_states.nd rfl (Or.inl rfl)) pgs_nil)))) (pss_cons (ps_set (i := 6) sc_all_states.nd rfl (Or.inl rfl) (pe_lst pa_nil))
        (pss_cons (ps_for PassesOwn.never rfl (piL (K := K) rfl (pv 2)) (pg_name (i := 7) sc_all_states.nd rfl (Or.inl rfl)) (pss_cons (ps_set (i := 8) sc_all_states.nd rfl (Or.inl rfl) (pe_ifExp (pt_cmpR (opNeNil (K := K) rfl hr.units) (pv 5) (pe_lst pa_nil) (nomark _)) (pe_dget (hu_of hr) (pe_fn G_piece_numbers (hr.mono (by decide)) (pa_cons (pv 0) (pa_cons (pv 1) (pa_cons (pv 7) pa_nil)))) (pv 3) (fun _ _ => rfl)) pe_int))
          (pss_one (ps_for PassesOwn.never rfl (pi_range1 (by rfl) T.n_range (pa_cons (pe_op op_add (pv 8) pe_int) pa_nil)) (pg_name (i := 9) sc_all_states.nd rfl (Or.inl rfl)) (pss_one (ps_expr (peBm (K := K) rfl PySem.F.plainAttrs_list PySem.F.slot_list_append PySem.F.type_list_append mt_append (pv 6) (pa_cons (pe_op op_orD (pv 7) (pe_disp (pps_cons (pv 3) (pv 9) pps_nil) (by rfl) (by rfl) (fun z => by cases z) (by decide))) pa_nil))))))))
        (pss_one (ps_set (i := 2) sc_all_states.nd rfl (Or.inl rfl) (pv 6))))))
      (pss_one (ps_ret (pv 2))))), ?_⟩
    have hl := Paired.len hc
    refine ⟨_, rfl, a, rfl, ⟨_, ha⟩, fun D hD => dc_fm (Tb := Tb) (xs := xs) walk_list rfl (zeroO H) hD (by omega) (fun H' g => g.ext_seq ha) (fun j v H' hv' g Rk Rs hk hks => ?_) fun H1 g1 hD1 => ?_⟩
    · obtain ⟨e, he, hev⟩ := Paired.at hc hv'
      have hd := zeroO_at hev
      obtain ⟨t, lp, rfl, ht', hlp⟩ := hev
      exact gtup3 (g.at ht' .tup) ⟨rfl, _, rfl, hk _ _ hd (Gr.refl _)⟩
    have ez : xs.filterMap (zeroO H) = numOf es fun _ => 0 := fm_paired (fun v e h => zeroO_at h) hc
    rw [ez, putAll_new _ _ (by show ((numOf es fun _ => 0).map (·.1)).Nodup; rw [numOf_names]; exact hnd)] at hD1
    have hD1' : H1 D = some (.dK (dS (numOf es fun _ => 0))) := hD1
    refine ⟨by show 1 ≤ sizeLine; decide, fun f0 hf0 => ?_⟩
    have g2 := g1.trans (Gr.new (T := Tb) (o := .lst [.ref D]) hf0)
    have hD2 := (Gr.new (T := Tb) (o := .lst [.ref D]) hf0).at hD1' .dK
    have hf2 : (upd H1 f0 (.lst [.ref D])) f0 = some (.lst [.ref D]) := upd_same
    have nf0 : Nw H f0 := g1.nw (.of hf0)
    generalize upd H1 f0 (.lst [.ref D]) = H2 at g2 hD2 hf2
    refine goN ?_
    dsimp only
    refine ⟨_, rfl, a, rfl, ⟨_, g2.ext_seq ha⟩, for_list (K := K) (a := a) (xs := xs) (fun i σ H' => ∃ (f : Addr) (ys : List V) (s3 s4 s5 s6 s7 s8 s9 : Option V), σ = [some (.ref a), some (.ref b), some (.ref f), s3, s4, s5, s6, s7, s8, s9] ∧ Gr Tb H H' ∧ Nw H f ∧ H' f = some (.lst ys) ∧ Paired (NumAt H') ys (statesS es st i))
      ⟨f0, [.ref D], _, _, _, _, _, _, _, rfl, g2, nf0, hf2, .cons ⟨D, rfl, hD2⟩ .nil⟩ (fun i σ H' _ ⟨_, _, _, _, _, _, _, _, _, _, g, _⟩ => g.ext_seq ha) ?_ ?_⟩
    · rintro i x σ H3 hx ⟨f, ys, s3, s4, s5, s6, s7, s8, s9, rfl, g3, nf, hf, hys⟩
      obtain ⟨e, he, t, lp, rfl, ht, hlp⟩ := Paired.at hc hx
      have hem := List.mem_of_getElem? he
      have hnm : e.name ∈ es.map (·.name) := List.mem_map.mpr ⟨e, hem, rfl⟩
      have hsm := statesS_st es st i
      have hsz := hs (i + 1)
      rw [statesS_succ he] at hsz
      have hyl := Paired.len hys
      have hfl := hs i
      refine gtup3 (g3.at ht .tup) ?_
      refine ⟨Nat.zero_le _, fun l hl => ?_⟩
      refine goN ?_
      dsimp only
      have g4 : Gr Tb H3 (upd H3 l (.lst [])) := Gr.new hl
      have nl : Nw H3 l := .of hl
      have hl4 : (upd H3 l (.lst [])) l = some (.lst []) := upd_same
      generalize upd H3 l (.lst []) = H4 at g4 hl4
      refine sq_st (fun σ H' => ∃ (zs : List V) (s7 s8 s9 : Option V), σ = [some (.ref a), some (.ref b), some (.ref f), some (.str e.name), some (.int e.w), some (.ref lp), some (.ref l), s7, s8, s9] ∧ Gr Tb H3 H' ∧ H' l = some (.lst zs) ∧ Paired (NumAt H') zs (growS es st (statesS es st i) e)) ?_ ?_
      · intro N hN
        refine ⟨_, rfl, f, rfl, ⟨_, SqL.of (g4.at hf .lst)⟩, for_list (K := K) (a := f) (xs := ys) (fun j σ H' => ∃ (zs : List V) (s7 s8 s9 : Option V), σ = [some (.ref a), some (.ref b), some (.ref f), some (.str e.name), some (.int e.w), some (.ref lp), some (.ref l), s7, s8, s9] ∧ Gr Tb H3 H' ∧ H' l = some (.lst zs) ∧ Paired (NumAt H') zs (growS es st ((statesS es st i).take j) e))
          ⟨[], _, _, _, rfl, g4, hl4, .nil⟩ (fun j σ H' _ ⟨_, _, _, _, _, g, _⟩ => SqL.of (g.at hf .lst)) ?_ ?_⟩
        · rintro j x σ H5 hxj ⟨zs, s7, s8, s9, rfl, g5, hl5, hzs⟩
          obtain ⟨u, hu, y, rfl, hy3⟩ := Paired.at hys hxj
          have hsu := hsm u (List.mem_of_getElem? hu)
          have hsz' := growS_le (es := es) (st := st) (l := statesS es st i) (e := e) (j + 1)
          rw [growS_take hu, List.length_append, List.length_map, List.length_range] at hsz'
          have zl := Paired.len hzs
          refine goN ?_
          dsimp only
          -- how many
          refine sq_asg (fun v H' => v = .int (mostS es st u e) ∧ Gr Tb H3 H' ∧ H' l = some (.lst zs) ∧ Paired (NumAt H') zs (growS es st ((statesS es st i).take j) e)) (fun Q' kq => ?_) ?_
          · have hlp5 := (g3.trans g5).at hlp .lst
            refine ⟨_, rfl, rd_nil (SqL.of hlp5) fun p0 hp0 => ⟨_, rfl, ?_⟩⟩
            have g6 := g5.trans (Gr.new (T := Tb) (o := .lst []) hp0)
            have hl6 := (Gr.new (T := Tb) (o := .lst []) hp0).at hl5 .lst
            have hzs6 := NumAt.gr (Gr.new (T := Tb) (o := .lst []) hp0) hzs
            generalize upd H5 p0 (.lst []) = H6 at g6 hl6 hzs6
            by_cases pe : e.parts = []
            · refine iteFb (by rw [pe]; rfl) ?_
              exact kq _ _ ⟨by unfold mostS; rw [if_pos pe], g6, hl6, hzs6⟩
            · refine iteTb (by cases q : e.parts with | nil => exact absurd q pe | cons _ _ => rfl) ?_
              have g36 := g3.trans g6
              refine ⟨_, rfl, _, rfl, _, rfl, a, b, y, xs, es, st, u, rfl, g36.ext_seq ha, CatAt.gr g36 hc, g36.at hb .dK, g6.at hy3 .dK, hnd, hp, hz, fun r H7 g7 nr hr => ?_⟩
              refine ⟨_, rfl, r, _, rfl, dgetS hr (get?_numOf hnm), kq _ _ ⟨by unfold mostS; rw [if_neg pe], g6.trans g7, g7.at hl6 .lst, NumAt.gr g7 hzs6⟩⟩
          · rintro v H6 ⟨rfl, g6, hl6, hzs6⟩
            have m0 : 0 ≤ mostS es st u e := by
              unfold mostS
              split
              · exact Int.le_refl _
              · exact pn_nonneg' h0 hsu.pos _
            have m1 : mostS es st u e + 1 ≤ 100000 := by omega
            have em : ((mostS es st u e + 1).toNat : Int) = mostS es st u e + 1 := Int.toNat_of_nonneg (by omega)
            refine ⟨_, rfl, _, _, rfl, rfl, _, rfl, by omega, by omega, for_range (lo := 0) (n := (mostS es st u e + 1).toNat) (fun k' σ H' => ∃ (zs : List V) (s9 : Option V), σ = [some (.ref a), some (.ref b), some (.ref f), some (.str e.name), some (.int e.w), some (.ref lp), some (.ref l), some (.ref y), some (.int (mostS es st u e)), s9] ∧ Gr Tb H3 H' ∧ H' l = some (.lst zs) ∧ Paired (NumAt H') zs (growS es st ((statesS es st i).take j) e ++ (List.range k').map fun (k : Nat) => put u e.name (k : Int)))
              ⟨zs, _, rfl, g6, hl6, by rw [List.range_zero, List.map_nil, List.append_nil]; exact hzs6⟩ ?_ ?_⟩
            · rintro k' σ H7 hk' ⟨zs7, s9, rfl, g7, hl7, hzs7⟩
              have zl7 := Paired.len hzs7
              rw [List.length_append, List.length_map, List.length_range] at zl7
              have hy7 := g7.at hy3 .dK
              refine goN ?_
              dsimp only
              refine ⟨_, rfl, .inl ⟨rfl, _, SqL.of hl7⟩, _, rfl, fun p1 hp1 => ⟨_, rfl, _, rfl, upd_same, [(Sum.inr e.name, V.int (0 + (k' : Int)))], rfl, (by show 1 ≤ 15; decide), ?_⟩⟩
              rw [upd_upd, show mergeK [] [((Sum.inr e.name : Key), V.int (0 + (k' : Int)))] = dS [(e.name, 0 + (k' : Int))] from rfl]
              have hd8 : (upd H7 p1 (.dK (dS [(e.name, 0 + (k' : Int))]))) p1 = some (.dK (dS [(e.name, 0 + (k' : Int))])) := upd_same
              have gn := Gr.new (T := Tb) (o := .dK (dS [(e.name, 0 + (k' : Int))])) hp1
              have g8 := g7.trans gn
              have hy8 := gn.at hy7 .dK
              have hl8 := gn.at hl7 .lst
              have hzs8 := NumAt.gr gn hzs7
              generalize upd H7 p1 (.dK (dS [(e.name, 0 + (k' : Int))])) = H8 at g8 hy8 hl8 hzs8 hd8
              have hul := hsu.len
              refine ⟨y, p1, _, _, rfl, rfl, Rd.of hy8, Rd.of hd8, by rw [dS_len, dS_len, sizeLine_eq]; show u.length + 1 ≤ _; omega, fun p2 hp2 => ⟨l, zs7, _, rfl, rfl, (Gr.new (T := Tb) hp2).at hl8 .lst, by rw [sizeLine_eq]; omega, ?_⟩⟩
              have em2 : mergeK (dS u) (dS [(e.name, 0 + (k' : Int))]) = dS (put u e.name (k' : Int)) := by
                rw [Int.zero_add]
                exact mergeK_one u e.name k'
              rw [em2]
              have gn2 := Gr.new (T := Tb) (o := .dK (dS (put u e.name (k' : Int)))) hp2
              have hp9 : (upd H8 p2 (.dK (dS (put u e.name (k' : Int))))) p2 = some (.dK (dS (put u e.name (k' : Int)))) := upd_same
              have g9 := g8.trans gn2
              have hl9 := gn2.at hl8 .lst
              have hzs9 := NumAt.gr gn2 hzs8
              generalize upd H8 p2 (.dK (dS (put u e.name (k' : Int)))) = H9 at g9 hl9 hzs9 hp9
              have keep : ∀ v t, NumAt H9 v t → NumAt (upd H9 l (.lst (zs7 ++ [.ref p2]))) v t := fun v t ⟨x, e1, z⟩ => ⟨x, e1, by
                rw [upd_ne (fun q => by rw [q, hl9] at z; cases z)]
                exact z⟩
              refine ⟨zs7 ++ [.ref p2], _, rfl, g9.mut nl hl9 .lst, upd_same, ?_⟩
              rw [List.range_succ, List.map_append, ← List.append_assoc]
              exact Paired.app (Paired.imp keep hzs9) (.cons (keep _ _ ⟨p2, rfl, hp9⟩) .nil)
            · rintro σ H7 ⟨zs7, s9, rfl, g7, hl7, hzs7⟩
              refine ⟨zs7, _, _, _, rfl, g7, hl7, ?_⟩
              rw [growS_take hu]
              exact hzs7
        · rintro σ H5 ⟨zs, s7, s8, s9, rfl, g5, hl5, hzs⟩
          rw [hyl, List.take_length] at hzs
          exact hN _ _ ⟨zs, _, _, _, rfl, g5, hl5, hzs⟩
      · rintro σ H5 ⟨zs, s7, s8, s9, rfl, g5, hl5, hzs⟩
        refine ⟨_, rfl, ?_⟩
        exact ⟨l, zs, _, _, _, _, _, _, _, rfl, g3.trans g5, g3.nw nl, hl5, by rw [statesS_succ he]; exact hzs⟩
    · rintro σ H3 ⟨f, ys, s3, s4, s5, s6, s7, s8, s9, rfl, g3, nf, hf, hys⟩
      rw [hl] at hys
      exact ⟨_, rfl, k f H3 ys g3 nf hf hys⟩
end
end Sk
namespace Sk
open PySem PySem.Spec PyProof.Rows L2
/-- not too many states -/
def FewS (es : List Ent) (st : Num) : Prop := ∀ es', es'.Perm es → Ordered es' → ∀ n, (statesS es' st n).length ≤ 100000
def sp_count_states (Tb : List (Addr × Str)) (K : PySem.W.Frag) : Sp := fun vs H Q _ => ∃ (a b : Addr) (xs : List V) (es : List Ent) (st : Num), vs = [.ref a, .ref b] ∧ SqL K H a xs ∧ CatAt H xs es ∧ H b = some (.dK (dS st)) ∧ LamX.Tabs Tb H ∧ Valid es ∧ StockOk es st ∧ FewS es st ∧
  ∀ H' es', es'.Perm es → Ordered es' → Gr Tb H H' → Q (.int (statesS es' st es'.length).length) H'
end Sk
namespace Sk
open PySem PySem.Spec PyProof.Rows L2
abbrev s_states : Stmt := topS 29
abbrev N_states : List Str := ["catalogue", "stock", "number", "entries", "splits"]
theorem sc_states : FnScope N_states ["catalogue", "stock", "number"] (defScope s_states) := ⟨rfl, rfl, rfl, by decide +kernel, rfl, by decide +kernel, by decide +kernel⟩
def sumN' (t : Num) : Int := (t.map (·.2)).sum
/-- the states with a number, cleaned -/
def withN (es : List Ent) (st : Num) (n : Int) : List Num := ((statesS es st es.length).filter fun t => decide (sumN' t = n)).map (cleanN es)
/-- new dicts -/
def NumNw (Hn H : Hp) (v : V) (t : Num) : Prop := ∃ x, v = .ref x ∧ Nw Hn x ∧ H x = some (.dK (dS t))
def sp_states (Tb : List (Addr × Str)) (K : PySem.W.Frag) : Sp := fun vs H Q _ => ∃ (a b : Addr) (n : Int) (xs : List V) (es : List Ent) (st : Num), vs = [.ref a, .ref b, .int n] ∧ SqL K H a xs ∧ CatAt H xs es ∧ H b = some (.dK (dS st)) ∧ LamX.Tabs Tb H ∧ Valid es ∧ StockOk es st ∧ FewS es st ∧ 0 ≤ n ∧
  ∀ r H' es' ys, es'.Perm es → Ordered es' → Gr Tb H H' → Nw H r → H' r = some (.lst ys) → Paired (NumNw H H') ys (withN es' st n) → Q (.ref r) H'
def sumV (H : Hp) (v : V) : Int := match v with
  | .ref x => match H x with
    | some (.dK kvs) => (kvs.map fun q => match q.2 with
      | .int i => i
      | _ => 0).sum
    | _ => 0
  | _ => 0
theorem sumV_at {H : Hp} {v : V} {t : Num} (h : NumAt H v t) : sumV H v = sumN' t := by
  obtain ⟨x, rfl, hx⟩ := h
  unfold sumV
  dsimp only
  rw [hx]
  show ((dS t).map _).sum = (t.map _).sum
  unfold dS
  rw [List.map_map]
  rfl
def CleanR (H0 Hn : Hp) (es : List Ent) (H : Hp) (x y : V) : Prop := ∃ t, NumAt H0 x t ∧ NumNw Hn H y (cleanN es t)
theorem cleanR_mono {H0 Hn : Hp} {es : List Ent} {D : Addr} : ∀ H H' x y, (∀ a o, NoTab o → (∀ l, o ≠ .lst l) ∨ a ≠ D → H a = some o → H' a = some o) → CleanR H0 Hn es H x y → CleanR H0 Hn es H' x y := fun H H' x y m ⟨t, h1, z, e, n, h2⟩ => ⟨t, h1, z, e, n, m _ _ .dK (.inl fun l q => by cases q) h2⟩
theorem NumAt.uniq {H : Hp} {v : V} {t u : Num} (h : NumAt H v t) (k : NumAt H v u) : t = u := by
  obtain ⟨x, e1, h1⟩ := h
  obtain ⟨y, e2, h2⟩ := k
  rw [e1] at e2
  cases e2
  rw [h1] at h2
  have e := HO.dK.inj (Option.some.inj h2)
  have inj : ∀ {t u : Num}, dS t = dS u → t = u := fun {t u} e => by
    induction t generalizing u with
    | nil => cases u with
      | nil => rfl
      | cons q u => cases e
    | cons p t ih => cases u with
      | nil => cases e
      | cons q u =>
        have h3 := (List.cons.inj e).1
        have h4 := (List.cons.inj e).2
        have h5 := Prod.mk.inj h3
        rw [ih h4, Prod.ext (Sum.inr.inj h5.1) (V.int.inj h5.2)]
  exact inj e
theorem cleanR_at {H0 Hn H : Hp} {es : List Ent} {keep : Num → Bool} {kv : V → Bool} : ∀ {ys : List V} {l : List Num} {zs : List V}, (∀ v t, NumAt H0 v t → kv v = keep t) → Paired (NumAt H0) ys l → Paired (CleanR H0 Hn es H) (ys.filter kv) zs → Paired (NumNw Hn H) zs ((l.filter keep).map (cleanN es))
  | _, _, zs, _, .nil, h => by
    cases h
    exact .nil
  | y :: ys, t :: l, zs, f, .cons a p, h => by
    rw [List.filter_cons] at h
    rw [List.filter_cons]
    rw [f _ _ a] at h
    cases c : keep t with
    | true =>
      rw [c, if_pos rfl] at h
      cases h with
      | cons q h =>
        obtain ⟨u, h1, h2⟩ := q
        rw [h1.uniq a] at h2
        rw [if_pos rfl, List.map_cons]
        exact .cons h2 (cleanR_at f p h)
    | false =>
      rw [c, if_neg Bool.false_ne_true] at h
      rw [if_neg Bool.false_ne_true]
      exact cleanR_at f p h
section
variable {P : Program} {w : World} {K : PySem.W.Frag} {mg : Str → Option Value} {base : Heap} {Tb : List (Addr × Str)}
theorem ok_states {f : Addr} {fd : FuncData} (F : FnP K "states" s_states f fd) (T : Tx K mg) (G_all_states : Fn P w K mg base "all_states" 2 ["entries", "stock"] (sp_all_states Tb K)) (G_check_catalogue : Fn P w K mg base "check_catalogue" 3 ["catalogue"] (sp_check_catalogue Tb K)) (G_check_stock : Fn P w K mg base "check_stock" 1 ["catalogue", "stock"] (sp_check_stock Tb K)) (G_clean : Fn P w K mg base "clean" 1 ["entries", "numbers"] (sp_clean Tb K)) (G_ordered : Fn P w K mg base "ordered" 4 ["catalogue"] (sp_ordered Tb K)) : FnOk P w K mg base CX0 5 f fd ["catalogue", "stock", "number"] (sp_states Tb K) := by
  refine F.ok sc_states (fun vs H Q E h => ?_) (fun cdv A outer s H vs Q E hr h => ?_)
  · obtain ⟨_, _, _, _, _, _, rfl, _⟩ := h
    rfl
  · obtain ⟨a, b, n, xs, es, st, rfl, ha, hc, hb, ht, hv, so, hfw, hn, k⟩ := h
    refine ⟨_, PSs.nox (pss_cons (ps_expr (pe_fn G_check_catalogue (hr.mono (by decide)) (pa_cons (pv 0) pa_nil)))
      (pss_cons (ps_expr (pe_fn G_check_stock (hr.mono (by decide)) (pa_cons (pv 0) (pa_cons (pv 1) pa_nil))))
      (pss_cons (ps_if (pt_cmpR op_lt (pv 2) pe_int (nomark _)) (pss_one ps_never) pss_nil)
      (pss_cons (ps_set (i := 3) sc_states.nd rfl (Or.inr rfl) (pe_fn G_ordered (hr.mono (by decide)) (pa_cons (pv 0) pa_nil)))
      (pss_one (ps_ret (pe_lc (own := [("splits", 4)]) (g := (gName 4)) (tt := _) rfl sc_states.nd (piL (K := K) rfl (pe_fn G_all_states (hr.mono (by decide)) (pa_cons (pv 3) (pa_cons (pv 1) pa_nil)))) (blkOk_by (N := N_states) (sc := (defScope s_states)) (by decide +kernel)) (fun _ _ _ _ _ => (pg_name (i := 4) sc_states.nd rfl (Or.inl rfl))) (fun _ _ _ _ _ => (pts_one (pt_cmpR op_eq (pe_sumVals rfl (by rfl) T.n_sum (pv 4)) (pv 2) (nomark _)))) (fun _ _ _ _ _ => (pe_fn G_clean (hr.mono (by decide)) (pa_cons (pv 3) (pa_cons (pv 4) pa_nil))))))))))), ?_⟩
    refine ⟨_, rfl, a, xs, es, rfl, ha, hc, hv, fun H1 g1 => ?_⟩
    refine ⟨_, rfl, _, rfl, a, b, xs, es, st, rfl, g1.ext_seq ha, CatAt.gr g1 hc, g1.at hb .dK, so, hv.few, fun H2 g2 => ?_⟩
    have g12 := g1.trans g2
    refine ⟨_, rfl, _, _, rfl, rfl, _, rfl, ?_⟩
    refine iteFb (decide_eq_false (by omega)) ?_
    refine ⟨_, rfl, a, xs, es, rfl, g12.ext_seq ha, CatAt.gr g12 hc, g12.tab ht, hv.few, fun r H4 ys es' hp ho hc4 g4 hr => ?_⟩
    have g5 : Gr Tb H2 (upd H4 r (.lst ys)) := g4.trans (Gr.new hr)
    have hc5 : CatAt (upd H4 r (.lst ys)) ys es' := CatAt.gr g5 hc4
    have hr5 : (upd H4 r (.lst ys)) r = some (.lst ys) := upd_same
    generalize upd H4 r (.lst ys) = H5 at g5 hc5 hr5
    have hv' := hv.perm hp
    have g15 := g12.trans g5
    refine goN ?_
    dsimp only
    refine ⟨_, rfl, _, rfl, r, b, ys, es', st, rfl, SqL.of hr5, hc5, g15.at hb .dK, hv'.nodup, hv'.known, hv'.few, so.pos, hfw es' hp ho, fun N H6 zs g6 nN hN6 hzs => ?_⟩
    have hzl := Paired.len hzs
    have hfl := hfw es' hp ho es'.length
    have nd := hv'.nodup
    have g16 := g15.trans g6
    refine ⟨N, rfl, ⟨_, SqL.of hN6⟩, fun D hD => lc_rel (Tb := Tb) (xs := zs) walk_list rfl (fun v => decide (sumV H6 v = n)) (CleanR H6 H es') cleanR_mono hD (by omega) (fun H' g => SqL.of (g.at hN6 .lst)) (fun j v H' hvj g hDn Rk Rs hk hks => ?_) fun H7 us g7 hD7 hus => ?_⟩
    · obtain ⟨t, ht, hvt⟩ := Paired.at hzs hvj
      have es6 := sumV_at hvt
      have hvt0 := hvt
      obtain ⟨x, rfl, hx⟩ := hvt
      have hx' := g.at hx .dK
      have g1' := g16.trans g
      refine ⟨rfl, _, rfl, x, _, t.map (·.2), rfl, hx', ?_, _, rfl, rfl, _, rfl, ?_⟩
      · unfold dS
        rw [List.map_map, List.map_map]
        rfl
      refine ite2 (fun c1 => ?_) (fun c1 => ?_)
      · have c2 : sumN' t = n := V.int.inj (of_decide_eq_true c1)
        refine ⟨_, rfl, _, rfl, r, x, ys, es', t, rfl, SqL.of ((g6.trans g).at hr5 .lst), CatAt.gr (g6.trans g) hc5, hx', nd, hv'.few, fun r2 H8 g8 nr hr2 => hk _ _ ?_ g8 ⟨t, hvt0, r2, rfl, g1'.nw nr, hr2⟩⟩
        rw [es6]
        exact decide_eq_true c2
      · refine hks _ ?_ (Gr.refl _)
        rw [es6]
        exact decide_eq_false fun z => c1 (decide_eq_true (by show V.int (sumN' t) = V.int n; rw [z]))
    · have := cleanR_at (keep := fun t => decide (sumN' t = n)) (fun v t h => by rw [sumV_at h]) hzs hus
      exact k D H7 es' us hp ho (g16.trans g7) (g16.nw (.of hD)) hD7 this
end
end Sk
namespace Sk
open PySem PySem.Spec PyProof.Rows L2
/-! numbers in a row -/
def sumN (c : Nat → Int) : Nat → Int
  | 0 => 0
  | n + 1 => sumN c n + c n
theorem sumN_le {c d : Nat → Int} : ∀ {n : Nat}, (∀ i, i < n → c i ≤ d i) → sumN c n ≤ sumN d n
  | 0, _ => Int.le_refl _
  | n + 1, h => by
    have h1 := sumN_le fun i hi => h i (Nat.lt_succ_of_lt hi)
    have h2 := h n (Nat.lt_succ_self n)
    show sumN c n + c n ≤ sumN d n + d n
    omega
theorem sumN_congr {c d : Nat → Int} {n : Nat} (h : ∀ i, i < n → c i = d i) : sumN c n = sumN d n :=
  Int.le_antisymm (sumN_le fun i hi => by rw [h i hi]; exact Int.le_refl _) (sumN_le fun i hi => by rw [h i hi]; exact Int.le_refl _)
theorem sumN_lt {c d : Nat → Int} : ∀ {n k : Nat}, (∀ i, i < n → c i ≤ d i) → k < n → c k < d k → sumN c n < sumN d n
  | 0, _, _, hk, _ => absurd hk (Nat.not_lt_zero _)
  | n + 1, k, h, hk, hl => by
    have h2 := h n (Nat.lt_succ_self n)
    show sumN c n + c n < sumN d n + d n
    by_cases e : k = n
    · subst e
      have h1 := sumN_le fun i hi => h i (Nat.lt_succ_of_lt hi)
      omega
    · have h1 := sumN_lt (k := k) (fun i hi => h i (Nat.lt_succ_of_lt hi)) (by omega) hl
      omega
theorem sumN_add (c d : Nat → Int) : ∀ n, sumN (fun i => c i + d i) n = sumN c n + sumN d n
  | 0 => rfl
  | n + 1 => by
    show sumN (fun i => c i + d i) n + (c n + d n) = sumN c n + c n + (sumN d n + d n)
    rw [sumN_add c d n]
    omega
theorem sumN_one (k : Nat) : ∀ n, sumN (fun i => if i = k then 1 else 0) n = if k < n then 1 else 0
  | 0 => by rw [if_neg (Nat.not_lt_zero _)]; rfl
  | n + 1 => by
    show sumN (fun i => if i = k then 1 else 0) n + (if n = k then 1 else 0) = _
    rw [sumN_one k n]
    by_cases h : n = k
    · subst h
      rw [if_neg (Nat.lt_irrefl _), if_pos rfl, if_pos (Nat.lt_succ_self _)]
      rfl
    · rw [if_neg h]
      by_cases h2 : k < n
      · rw [if_pos h2, if_pos (by omega)]
        rfl
      · rw [if_neg h2, if_neg (by omega)]
        rfl
theorem sumN_nonneg {c : Nat → Int} {n : Nat} (h : ∀ i, i < n → 0 ≤ c i) : 0 ≤ sumN c n := by
  have h1 := sumN_le (c := fun _ => 0) h
  have h2 : sumN (fun _ => 0) n = 0 := by
    clear h h1
    induction n with
    | zero => rfl
    | succ n ih =>
      show sumN (fun _ => 0) n + 0 = 0
      rw [ih]
      rfl
  omega
/-- one more at i, one less at j -/
def addN (c : Nat → Int) (i : Nat) : Nat → Int := fun k => c k + if k = i then 1 else 0
def subN (c : Nat → Int) (j : Nat) : Nat → Int := fun k => c k - if k = j then 1 else 0
theorem addN_at (c : Nat → Int) (i k : Nat) : addN c i k = c k + if k = i then 1 else 0 := rfl
theorem subN_at (c : Nat → Int) (i k : Nat) : subN c i k = c k - if k = i then 1 else 0 := rfl
theorem addN_self (c : Nat → Int) (i : Nat) : addN c i i = c i + 1 := by rw [addN_at, if_pos rfl]
theorem addN_ne {c : Nat → Int} {i k : Nat} (h : k ≠ i) : addN c i k = c k := by rw [addN_at, if_neg h]; omega
theorem subN_self (c : Nat → Int) (i : Nat) : subN c i i = c i - 1 := by rw [subN_at, if_pos rfl]
theorem subN_ne {c : Nat → Int} {i k : Nat} (h : k ≠ i) : subN c i k = c k := by rw [subN_at, if_neg h]; omega
theorem sum_addN {c : Nat → Int} {i n : Nat} (h : i < n) : sumN (addN c i) n = sumN c n + 1 := by
  have h1 := sumN_add c (fun k => if k = i then 1 else 0) n
  rw [sumN_one, if_pos h] at h1
  exact h1
theorem sum_subN {c : Nat → Int} {i n : Nat} (h : i < n) : sumN (subN c i) n = sumN c n - 1 := by
  have h1 := sum_addN (c := subN c i) h
  have h2 : addN (subN c i) i = c := funext fun k => by
    rw [addN_at, subN_at]
    omega
  rw [h2] at h1
  omega
/-- from 0 to what is there -/
def Vec (n : Nat) (F c : Nat → Int) : Prop := ∀ i, i < n → 0 ≤ c i ∧ c i ≤ F i
/-- the first that is not full -/
structure Gap (n : Nat) (F c : Nat → Int) (i : Nat) : Prop where
  lt : i < n
  le : c i < F i
  full : ∀ k, k < i → c k = F k
/-- the last that is not empty -/
structure Last (n : Nat) (c : Nat → Int) (j : Nat) : Prop where
  lt : j < n
  pos : 0 < c j
  zero : ∀ k, j < k → k < n → c k = 0
theorem Gap.uniq {n : Nat} {F c : Nat → Int} {i k : Nat} (h : Gap n F c i) (g : Gap n F c k) : k = i := by
  rcases Nat.lt_trichotomy i k with z | z | z
  · have := g.full i z
    have := h.le
    omega
  · exact z.symm
  · have := h.full k z
    have := g.le
    omega
theorem Last.uniq {n : Nat} {c : Nat → Int} {i k : Nat} (h : Last n c i) (g : Last n c k) : k = i := by
  rcases Nat.lt_trichotomy i k with z | z | z
  · have := h.zero k z g.lt
    have := g.pos
    omega
  · exact z.symm
  · have := g.zero i z h.lt
    have := h.pos
    omega
theorem first_ex {P : Nat → Prop} [DecidablePred P] : ∀ n, (∃ k, k < n ∧ P k) → ∃ i, i < n ∧ P i ∧ ∀ k, k < i → ¬ P k
  | 0, h => by
    obtain ⟨k, hk, _⟩ := h
    exact absurd hk (Nat.not_lt_zero _)
  | n + 1, h => by
    by_cases c : ∃ k, k < n ∧ P k
    · obtain ⟨i, h1, h2, h3⟩ := first_ex n c
      exact ⟨i, by omega, h2, h3⟩
    · obtain ⟨k, hk, hP⟩ := h
      have hn : ∀ k, k < n → ¬ P k := fun k hk hP => c ⟨k, hk, hP⟩
      by_cases e : k = n
      · subst e
        exact ⟨k, hk, hP, hn⟩
      · exact absurd hP (hn k (by omega))
theorem last_ex {P : Nat → Prop} [DecidablePred P] : ∀ n, (∃ k, k < n ∧ P k) → ∃ i, i < n ∧ P i ∧ ∀ k, i < k → k < n → ¬ P k
  | 0, h => by
    obtain ⟨k, hk, _⟩ := h
    exact absurd hk (Nat.not_lt_zero _)
  | n + 1, h => by
    by_cases c : P n
    · exact ⟨n, by omega, c, fun k h1 h2 => by omega⟩
    · obtain ⟨k, hk, hP⟩ := h
      have : k ≠ n := fun e => c (e ▸ hP)
      obtain ⟨i, h1, h2, h3⟩ := last_ex n ⟨k, by omega, hP⟩
      exact ⟨i, by omega, h2, fun k h4 h5 => by
        by_cases e : k = n
        · rw [e]
          exact c
        · exact h3 k h4 (by omega)⟩
theorem gap_ex {n : Nat} {F c : Nat → Int} (v : Vec n F c) (h : sumN c n < sumN F n) : ∃ i, Gap n F c i := by
  have h1 : ∃ k, k < n ∧ c k < F k := Decidable.byContradiction fun z => by
    have : sumN F n ≤ sumN c n := sumN_le fun i hi => Int.not_lt.mp fun q => z ⟨i, hi, q⟩
    omega
  obtain ⟨i, a, b, d⟩ := first_ex n h1
  exact ⟨i, a, b, fun k hk => by
    have := d k hk
    have := (v k (by omega)).2
    omega⟩
theorem lastN_ex {n : Nat} {F c : Nat → Int} (v : Vec n F c) (h : 0 < sumN c n) : ∃ j, Last n c j := by
  have h1 : ∃ k, k < n ∧ 0 < c k := Decidable.byContradiction fun z => by
    have h2 : sumN c n ≤ sumN (fun _ => 0) n := sumN_le fun i hi => Int.not_lt.mp fun q => z ⟨i, hi, q⟩
    have h3 := sumN_nonneg (c := fun _ => - 0) (n := n) fun _ _ => Int.le_refl _
    have h4 : sumN (fun _ => 0) n = 0 := by
      clear h h2 h3 v z
      induction n with
      | zero => rfl
      | succ n ih =>
        show sumN (fun _ => 0) n + 0 = 0
        rw [ih]
        rfl
    omega
  obtain ⟨i, a, b, d⟩ := last_ex n h1
  exact ⟨i, a, b, fun k hk hn => by
    have := d k hk hn
    have := (v k hn).1
    omega⟩
/-- all full, then one, then all empty -/
def Bal (n : Nat) (F B : Nat → Int) : Prop := ∀ i k, i < k → k < n → B i < F i → B k = 0
theorem Vec.add {n : Nat} {F c : Nat → Int} {i : Nat} (v : Vec n F c) (g : Gap n F c i) : Vec n F (addN c i) := fun k hk => by
  have h1 := v k hk
  rw [addN_at]
  split
  · rename_i e
    subst e
    have := g.le
    omega
  · omega
theorem Vec.sub {n : Nat} {F c : Nat → Int} {j : Nat} (v : Vec n F c) (l : Last n c j) : Vec n F (subN c j) := fun k hk => by
  have h1 := v k hk
  rw [subN_at]
  split
  · rename_i e
    subst e
    have := l.pos
    omega
  · omega
section
variable {n : Nat} {F c B : Nat → Int} {i j : Nat}
/-- a step and a step back: in which order is all one -/
theorem steps_comm {i' j' : Nat} (v : Vec n F c) (g : Gap n F c i) (l : Last n c j) (l' : Last n (addN c i) j') (g' : Gap n F (subN c j) i') : subN (addN c i) j' = addN (subN c j) i' := by
  rcases Nat.lt_trichotomy i j with z | z | z
  · have e1 : j' = j := Last.uniq ⟨l.lt, by rw [addN_ne (by omega)]; exact l.pos, fun k h1 h2 => by rw [addN_ne (by omega)]; exact l.zero k h1 h2⟩ l'
    have e2 : i' = i := Gap.uniq ⟨g.lt, by rw [subN_ne (by omega)]; exact g.le, fun k h => by rw [subN_ne (by omega)]; exact g.full k h⟩ g'
    rw [e1, e2]
    funext k
    rw [subN_at, addN_at, addN_at, subN_at]
    omega
  · subst z
    have e1 : j' = i := Last.uniq ⟨l.lt, by rw [addN_self]; have := l.pos; omega, fun k h1 h2 => by rw [addN_ne (by omega)]; exact l.zero k h1 h2⟩ l'
    have e2 : i' = i := Gap.uniq ⟨g.lt, by rw [subN_self]; have := g.le; omega, fun k h => by rw [subN_ne (by omega)]; exact g.full k h⟩ g'
    rw [e1, e2]
    funext k
    rw [subN_at, addN_at, addN_at, subN_at]
    omega
  · have e1 : j' = i := Last.uniq ⟨g.lt, by rw [addN_self]; have := (v i g.lt).1; omega, fun k h1 h2 => by rw [addN_ne (by omega)]; exact l.zero k (by omega) h2⟩ l'
    have e2 : i' = j := Gap.uniq ⟨l.lt, by rw [subN_self]; have := (v j l.lt).2; omega, fun k h => by rw [subN_ne (by omega)]; exact g.full k (by omega)⟩ g'
    rw [e1, e2]
    funext k
    rw [subN_at, addN_at, addN_at, subN_at]
    omega
theorem bal_of_le (v : Vec n F c) (g : Gap n F c i) (l : Last n c j) (h : j ≤ i) : Bal n F c := fun a k h1 h2 h3 => by
  by_cases z : a < i
  · have := g.full a z
    omega
  · exact l.zero k (by omega) h2
theorem bal_uniq (v : Vec n F c) (w : Vec n F B) (b : Bal n F c) (b' : Bal n F B) (s : sumN c n = sumN B n) : ∀ k, k < n → c k = B k := by
  refine fun k hk => Decidable.byContradiction fun z => ?_
  obtain ⟨a, ha, hne, hf⟩ := first_ex (P := fun k => c k ≠ B k) n ⟨k, hk, z⟩
  have eq : ∀ k, k < a → c k = B k := fun k hk => Decidable.not_not.mp (hf k hk)
  rcases Int.lt_or_gt_of_ne hne with q | q
  · have : sumN c n < sumN B n := sumN_lt (k := a) (fun t ht => by
      rcases Nat.lt_trichotomy t a with y | y | y
      · rw [eq t y]
        exact Int.le_refl _
      · rw [y]
        omega
      · rw [b a t y ht (by have := (w a ha).2; omega)]
        exact (w t ht).1) ha q
    omega
  · have : sumN B n < sumN c n := sumN_lt (k := a) (fun t ht => by
      rcases Nat.lt_trichotomy t a with y | y | y
      · rw [eq t y]
        exact Int.le_refl _
      · rw [y]
        omega
      · rw [b' a t y ht (by have := (v a ha).2; omega)]
        exact (v t ht).1) ha q
    omega
def posZ (z : Int) : Int := if z > 0 then z else 0
/-- what c exceeds -/
def offN (n : Nat) (c B : Nat → Int) : Int := sumN (fun k => posZ (c k - B k)) n
theorem offN_nonneg (n : Nat) (c B : Nat → Int) : 0 ≤ offN n c B := sumN_nonneg fun i _ => by
  show 0 ≤ posZ _
  unfold posZ
  split <;> omega
theorem off_zero (s : sumN c n = sumN B n) : offN n c B = 0 ↔ ∀ k, k < n → c k = B k := by
  constructor
  · intro h
    have le : ∀ k, k < n → c k ≤ B k := fun k hk => Decidable.byContradiction fun z => by
      have : sumN (fun _ => 0) n < offN n c B := sumN_lt (k := k) (fun t _ => by
        show 0 ≤ posZ _
        unfold posZ
        split <;> omega) hk (by
        show 0 < posZ _
        unfold posZ
        rw [if_pos (by omega)]
        omega)
      have := sumN_nonneg (c := fun _ => 0) (n := n) fun _ _ => Int.le_refl _
      omega
    intro k hk
    refine Decidable.byContradiction fun z => ?_
    have := sumN_lt (k := k) le hk (by have := le k hk; omega)
    omega
  · intro h
    have : offN n c B = sumN (fun _ => 0) n := sumN_congr fun k hk => by
      show posZ _ = 0
      rw [h k hk]
      unfold posZ
      rw [if_neg (by omega)]
    rw [this]
    clear h s this
    induction n with
    | zero => rfl
    | succ n ih =>
      show sumN (fun _ => 0) n + 0 = 0
      rw [ih]
      rfl
/-- not balanced: the first that is not full lacks some, the last exceeds -/
theorem gap_low (v : Vec n F c) (w : Vec n F B) (b : Bal n F B) (s : sumN c n = sumN B n) (g : Gap n F c i) (l : Last n c j) (h : i < j) : c i < B i ∧ B j < c j := by
  constructor
  · refine Decidable.byContradiction fun z => ?_
    have z' : B i ≤ c i := Int.not_lt.mp z
    have gl := g.le
    have zero : ∀ k, i < k → k < n → B k = 0 := fun k h1 h2 => b i k h1 h2 (by omega)
    have : sumN B n < sumN c n := sumN_lt (k := j) (fun t ht => by
      rcases Nat.lt_trichotomy t i with y | y | y
      · rw [g.full t y]
        exact (w t ht).2
      · rw [y]
        exact z'
      · rw [zero t y ht]
        exact (v t ht).1) l.lt (by rw [zero j h l.lt]; exact l.pos)
    omega
  · refine Decidable.byContradiction fun z => ?_
    have z' : c j ≤ B j := Int.not_lt.mp z
    have lp := l.pos
    have full : ∀ k, k < j → B k = F k := fun k h1 => by
      have h2 := (w k (by have := l.lt; omega)).2
      by_cases q : B k < F k
      · have := b k j h1 l.lt q
        omega
      · omega
    have : sumN c n < sumN B n := sumN_lt (k := i) (fun t ht => by
      rcases Nat.lt_trichotomy t j with y | y | y
      · rw [full t y]
        exact (v t ht).2
      · rw [y]
        exact z'
      · rw [l.zero t y ht]
        exact (w t ht).1) g.lt (by rw [full i h]; exact g.le)
    omega
/-- a step and a step back: one less -/
theorem off_pair (v : Vec n F c) (w : Vec n F B) (b : Bal n F B) (s : sumN c n = sumN B n) (g : Gap n F c i) (l : Last n c j) (h : i < j) : offN n (subN (addN c i) j) B = offN n c B - 1 := by
  obtain ⟨h1, h2⟩ := gap_low v w b s g l h
  have e : offN n c B = sumN (fun k => posZ (subN (addN c i) j k - B k) + if k = j then 1 else 0) n := sumN_congr fun k hk => by
    show posZ (c k - B k) = posZ (subN (addN c i) j k - B k) + if k = j then 1 else 0
    rw [subN_at, addN_at]
    by_cases q : k = j
    · rw [if_pos q, if_neg (by omega), q]
      unfold posZ
      split <;> split <;> omega
    · rw [if_neg q]
      by_cases q2 : k = i
      · rw [if_pos q2, q2]
        unfold posZ
        split <;> split <;> omega
      · rw [if_neg q2]
        have : c k + 0 - 0 - B k = c k - B k := by omega
        rw [this]
        omega
  rw [sumN_add, sumN_one, if_pos l.lt] at e
  unfold offN at e ⊢
  omega
/-- any pair of steps -/
theorem off_pair' (v : Vec n F c) (w : Vec n F B) (b : Bal n F B) (s : sumN c n = sumN B n) (g : Gap n F c i) (l : Last n c j) {j' : Nat} (l' : Last n (addN c i) j') : (offN n c B = 0 ∧ subN (addN c i) j' = c ∧ offN n (subN (addN c i) j') B = 0) ∨ (0 < offN n c B ∧ offN n (subN (addN c i) j') B = offN n c B - 1) := by
  rcases Nat.lt_or_ge i j with z | z
  · have e1 : j' = j := Last.uniq ⟨l.lt, by rw [addN_ne (by omega)]; exact l.pos, fun k h1 h2 => by rw [addN_ne (by omega)]; exact l.zero k h1 h2⟩ l'
    rw [e1]
    have h1 := off_pair v w b s g l z
    have h2 := offN_nonneg n (subN (addN c i) j) B
    exact .inr ⟨by omega, h1⟩
  · have e1 : j' = i := Last.uniq ⟨g.lt, by rw [addN_self]; have := (v i g.lt).1; omega, fun k h1 h2 => by rw [addN_ne (by omega)]; exact l.zero k (by omega) h2⟩ l'
    have e2 : subN (addN c i) j' = c := by
      rw [e1]
      funext k
      rw [subN_at, addN_at]
      omega
    have h3 := (off_zero s).mpr (bal_uniq v w (bal_of_le v g l z) b s)
    rw [e2]
    exact .inl ⟨h3, rfl, h3⟩
/-- one step: as much, or one less -/
theorem off_step {k : Nat} (v : Vec n F c) (w : Vec n F B) (b : Bal n F B) (s : sumN c n = sumN B n) (g : Gap n F c i) (gb : Gap n F B k) : offN n c B - 1 ≤ offN n (addN c i) (addN B k) ∧ offN n (addN c i) (addN B k) ≤ offN n c B := by
  have key : i = k ∨ (i < k ∧ c i < B i) := by
    rcases Nat.lt_trichotomy i k with z | z | z
    · exact .inr ⟨z, by rw [gb.full i z]; exact g.le⟩
    · exact .inl z
    · exfalso
      have gl := gb.le
      have : sumN B n < sumN c n := sumN_lt (k := k) (fun t ht => by
        rcases Nat.lt_trichotomy t k with y | y | y
        · rw [gb.full t y, g.full t (by omega)]
          exact Int.le_refl _
        · rw [y, g.full k z]
          exact Int.le_of_lt gl
        · rw [b k t y ht gl]
          exact (v t ht).1) gb.lt (by rw [g.full k z]; exact gl)
      omega
  have pt : ∀ t, t < n → posZ (addN c i t - addN B k t) ≤ posZ (c t - B t) ∧ posZ (c t - B t) ≤ posZ (addN c i t - addN B k t) + if t = k then 1 else 0 := by
    intro t ht
    rw [addN_at, addN_at]
    rcases key with z | ⟨z, h⟩
    · subst z
      have : (c t + if t = i then 1 else 0) - (B t + if t = i then 1 else 0) = c t - B t := by omega
      rw [this]
      constructor
      · exact Int.le_refl _
      · split <;> omega
    · by_cases q : t = i
      · subst q
        rw [if_pos rfl, if_neg (by omega)]
        unfold posZ
        constructor
        · split <;> split <;> omega
        · split <;> split <;> omega
      · rw [if_neg q]
        by_cases q2 : t = k
        · rw [if_pos q2]
          unfold posZ
          constructor
          · split <;> split <;> omega
          · split <;> split <;> omega
        · rw [if_neg q2]
          have : c t + 0 - (B t + 0) = c t - B t := by omega
          rw [this]
          omega
  have h1 := sumN_le (c := fun t => posZ (addN c i t - addN B k t)) (d := fun t => posZ (c t - B t)) (n := n) fun t ht => (pt t ht).1
  have h2 := sumN_le (c := fun t => posZ (c t - B t)) (d := fun t => posZ (addN c i t - addN B k t) + if t = k then 1 else 0) (n := n) fun t ht => (pt t ht).2
  rw [sumN_add, sumN_one, if_pos gb.lt] at h2
  unfold offN
  omega
/-- one step more of balanced ones -/
theorem Bal.add (w : Vec n F B) (b : Bal n F B) (g : Gap n F B i) : Bal n F (addN B i) := fun a k h1 h2 h3 => by
  rw [addN_at] at h3
  have gl := g.le
  rcases Nat.lt_trichotomy a i with z | z | z
  · have := g.full a z
    split at h3 <;> omega
  · subst z
    rw [addN_ne (by omega)]
    exact b a k h1 h2 gl
  · rw [addN_ne (by omega)]
    exact b i k (by omega) h2 gl
end
end Sk
namespace Sk
open PySem PySem.Spec PyProof.Rows L2
/-- c' is c with some more, the first ones first -/
structure Fill (n : Nat) (F c c' : Nat → Int) : Prop where
  vec : Vec n F c'
  le : ∀ i, i < n → c i ≤ c' i
  full : ∀ i k, i < k → k < n → c k < c' k → c' i = F i
/-- c' is c with some less, the last ones first -/
structure Drain (n : Nat) (c c' : Nat → Int) : Prop where
  pos : ∀ i, i < n → 0 ≤ c' i
  le : ∀ i, i < n → c' i ≤ c i
  zero : ∀ i k, i < k → k < n → c' i < c i → c' k = 0
section
variable {n : Nat} {F c c' c'' : Nat → Int} {i j : Nat}
theorem Fill.uniq (a : Fill n F c c') (b : Fill n F c c'') (s : sumN c' n = sumN c'' n) : ∀ k, k < n → c' k = c'' k := by
  refine fun k hk => Decidable.byContradiction fun z => ?_
  obtain ⟨m, hm, hne, hf⟩ := first_ex (P := fun k => c' k ≠ c'' k) n ⟨k, hk, z⟩
  have eq : ∀ k, k < m → c' k = c'' k := fun k hk => Decidable.not_not.mp (hf k hk)
  rcases Int.lt_or_gt_of_ne hne with q | q
  · have : sumN c' n < sumN c'' n := sumN_lt (k := m) (fun t ht => by
      rcases Nat.lt_trichotomy t m with y | y | y
      · rw [eq t y]
        exact Int.le_refl _
      · rw [y]
        omega
      · by_cases w : c t < c' t
        · have h1 := a.full m t y ht w
          have h2 := (b.vec m hm).2
          omega
        · have h1 := a.le t ht
          have h2 := b.le t ht
          omega) hm q
    omega
  · have : sumN c'' n < sumN c' n := sumN_lt (k := m) (fun t ht => by
      rcases Nat.lt_trichotomy t m with y | y | y
      · rw [eq t y]
        exact Int.le_refl _
      · rw [y]
        omega
      · by_cases w : c t < c'' t
        · have h1 := b.full m t y ht w
          have h2 := (a.vec m hm).2
          omega
        · have h1 := a.le t ht
          have h2 := b.le t ht
          omega) hm q
    omega
theorem Drain.uniq (a : Drain n c c') (b : Drain n c c'') (s : sumN c' n = sumN c'' n) : ∀ k, k < n → c' k = c'' k := by
  refine fun k hk => Decidable.byContradiction fun z => ?_
  obtain ⟨m, hm, hne, hf⟩ := last_ex (P := fun k => c' k ≠ c'' k) n ⟨k, hk, z⟩
  have eq : ∀ k, m < k → k < n → c' k = c'' k := fun k hk hn => Decidable.not_not.mp (hf k hk hn)
  rcases Int.lt_or_gt_of_ne hne with q | q
  · have : sumN c' n < sumN c'' n := sumN_lt (k := m) (fun t ht => by
      rcases Nat.lt_trichotomy t m with y | y | y
      · by_cases w : c'' t < c t
        · have h1 := b.zero t m y hm w
          have h2 := a.pos m hm
          omega
        · have h1 := a.le t ht
          have h2 := b.le t ht
          omega
      · rw [y]
        omega
      · rw [eq t y ht]
        exact Int.le_refl _) hm q
    omega
  · have : sumN c'' n < sumN c' n := sumN_lt (k := m) (fun t ht => by
      rcases Nat.lt_trichotomy t m with y | y | y
      · by_cases w : c' t < c t
        · have h1 := a.zero t m y hm w
          have h2 := b.pos m hm
          omega
        · have h1 := a.le t ht
          have h2 := b.le t ht
          omega
      · rw [y]
        omega
      · rw [eq t y ht]
        exact Int.le_refl _) hm q
    omega
theorem Fill.refl (v : Vec n F c) : Fill n F c c := ⟨v, fun _ _ => Int.le_refl _, fun _ _ _ _ h => absurd h (Int.lt_irrefl _)⟩
theorem Drain.refl (v : Vec n F c) : Drain n c c := ⟨fun i hi => (v i hi).1, fun _ _ => Int.le_refl _, fun _ _ _ _ h => absurd h (Int.lt_irrefl _)⟩
/-- one step more -/
theorem Fill.step (a : Fill n F c c') (g : Gap n F c' i) : Fill n F c (addN c' i) := by
  refine ⟨a.vec.add g, fun k hk => ?_, fun m k h1 h2 h3 => ?_⟩
  · have := a.le k hk
    rw [addN_at]
    split <;> omega
  · have gl := g.le
    rw [addN_at] at h3 ⊢
    by_cases q : k = i
    · subst q
      rw [if_neg (by omega)]
      have := g.full m h1
      omega
    · rw [if_neg q] at h3
      have h4 := a.full m k h1 h2 (by omega)
      rw [if_neg]
      · omega
      · intro z
        rw [z] at h4
        omega
theorem Drain.step (a : Drain n c c') (l : Last n c' j) : Drain n c (subN c' j) := by
  have lp := l.pos
  refine ⟨fun k hk => ?_, fun k hk => ?_, fun m k h1 h2 h3 => ?_⟩
  · have := a.pos k hk
    rw [subN_at]
    split
    · rename_i e
      subst e
      omega
    · omega
  · have := a.le k hk
    rw [subN_at]
    split <;> omega
  · rw [subN_at] at h3 ⊢
    by_cases q : m = j
    · subst q
      rw [if_neg (by omega)]
      have := l.zero k h1 h2
      omega
    · rw [if_neg q] at h3
      have h4 := a.zero m k h1 h2 (by omega)
      rw [if_neg]
      · omega
      · intro z
        rw [z] at h4
        omega
theorem Fill.one (v : Vec n F c) (g : Gap n F c i) : Fill n F c (addN c i) := (Fill.refl v).step g
theorem Drain.one (v : Vec n F c) (l : Last n c j) : Drain n c (subN c j) := (Drain.refl v).step l
/-- one after the other -/
theorem Fill.trans (a : Fill n F c c') (b : Fill n F c' c'') : Fill n F c c'' := by
  refine ⟨b.vec, fun k hk => Int.le_trans (a.le k hk) (b.le k hk), fun m k h1 h2 h3 => ?_⟩
  by_cases q : c' k < c'' k
  · exact b.full m k h1 h2 q
  · have := b.le k h2
    have h4 := a.full m k h1 h2 (by omega)
    have h5 := b.le m (by omega)
    have h6 := (b.vec m (by omega)).2
    omega
theorem Drain.trans (a : Drain n c c') (b : Drain n c' c'') : Drain n c c'' := by
  refine ⟨b.pos, fun k hk => Int.le_trans (b.le k hk) (a.le k hk), fun m k h1 h2 h3 => ?_⟩
  by_cases q : c'' m < c' m
  · exact b.zero m k h1 h2 q
  · have := b.le m (by omega)
    have h4 := a.zero m k h1 h2 (by omega)
    have h5 := b.le k h2
    have h6 := b.pos k h2
    omega
end
end Sk
namespace Sk
open PySem PySem.Spec PyProof.Rows L2
/-- as many pieces as are split, and what the splits make -/
theorem balanced_ok {es es' : List Ent} {d : Num} {n : Int} (hv : Valid es) (hp : es'.Perm es) (ho : Ordered es') (so : StockOk es d) (hz : es.length < 64) (h0 : 0 ≤ n) : SplitsOk es d (greedy (fs es' (getD d)) n) := by
  have hv' := hv.perm hp
  have hbe := hv'.behind ho
  have d0 : ∀ x, 0 ≤ getD d x := fun x => getD_pos so.pos x
  have fsn := fs_nonneg hbe hv'.nodup d0
  refine ⟨by rw [greedy_names]; exact fs_nodup _ hv'.nodup, ?_, fun q hq => ?_, fun e he => ⟨getD_pos (fun q hq => (greedy_mem fsn h0 q hq).1) _, ?_⟩⟩
  · rw [greedy_len]
    have h1 := fs_len es' (getD d)
    have h2 := hp.length_eq
    omega
  · have h1 := fs_names es' (getD d) q.1 (by rw [← greedy_names (fs es' (getD d)) n]; exact List.mem_map.mpr ⟨q, hq, rfl⟩)
    exact (hp.map _).mem_iff.mp h1
  · have he' := hp.mem_iff.mpr he
    by_cases c : e.parts = []
    · rw [if_pos c, getD_none]
      · exact Int.le_refl _
      · intro hm
        rw [greedy_names, fs_final hbe hv'.nodup, List.map_map] at hm
        obtain ⟨x, hx, z⟩ := List.mem_map.mp hm
        obtain ⟨x1, x2⟩ := List.mem_filter.mp hx
        have xe : x = e := by
          obtain ⟨j, hj⟩ := List.mem_iff_getElem?.mp x1
          obtain ⟨l, hl⟩ := List.mem_iff_getElem?.mp he'
          have ij : j = l := nodup_ix hv'.nodup (x := e.name) (by rw [List.getElem?_map, hj]; exact congrArg some z) (by rw [List.getElem?_map, hl]; rfl)
          rw [ij, hl] at hj
          cases hj
          rfl
        rw [xe] at x2
        exact of_decide_eq_true x2 c
    · rw [if_neg c, ← pn_perm hp, pn_at]
      exact greedy_fits hbe hv'.nodup d0 h0 e he'
/-- valid splits are at most as many as all -/
theorem splits_le {es es' : List Ent} {d c : Num} (hv : Valid es) (hp : es'.Perm es) (ho : Ordered es') (so : StockOk es d) (ok : SplitsOk es d c) : (c.map (·.2)).sum ≤ ((fs es' (getD d)).map (·.2)).sum := by
  have hv' := hv.perm hp
  have hbe := hv'.behind ho
  obtain ⟨g, hg, g0⟩ := need_ex hbe hv'.nodup
  rw [total_need (getD d) g hbe hv'.nodup hg]
  have h1 := whole_need hv'.nodup (Behind.known hbe) hg d c fun e he hpe => by
    obtain ⟨f1, f2⟩ := ok.fits e (hp.mem_iff.mp he)
    rw [if_pos hpe] at f2
    omega
  have h2 : 0 ≤ sumE es' (fun x => (pn es' d c x - getD c x) * g x) := sumE_nonneg fun e he => by
    obtain ⟨f1, f2⟩ := ok.fits e (hp.mem_iff.mp he)
    refine Int.mul_nonneg ?_ (g0 e he)
    rw [pn_perm hp]
    have h3 : 0 ≤ pn es d c e.name := by
      rw [pn_at]
      have h4 := getD_pos so.pos e.name
      have h5 : 0 ≤ amt (incs es (getD c)) e.name := amt_pos (fun q hq => by
        unfold incs at hq
        obtain ⟨x, hx, h6⟩ := List.mem_flatMap.mp hq
        obtain ⟨p, _, rfl⟩ := List.mem_map.mp h6
        exact (ok.fits x hx).1) _
      omega
    split at f2 <;> omega
  rw [sumE_getD hv'.nodup ok.nd fun q hq => (hp.map _).mem_iff.mpr (ok.known q hq)] at h1
  omega
end Sk
namespace Sk
open PySem PySem.Spec PyProof.Rows L2
/-- the numbers in the entries' order -/
def cN (es : List Ent) (c : Str → Int) : Nat → Int := fun i => match es[i]? with
  | some e => c e.name
  | none => 0
theorem cN_at {es : List Ent} {i : Nat} {e : Ent} (h : es[i]? = some e) (c : Str → Int) : cN es c i = c e.name := by
  unfold cN
  rw [h]
theorem cN_out {es : List Ent} {i : Nat} (h : es.length ≤ i) (c : Str → Int) : cN es c i = 0 := by
  unfold cN
  rw [List.getElem?_eq_none h]
theorem sumE_app (es l : List Ent) (c : Str → Int) : sumE (es ++ l) c = sumE es c + sumE l c := by
  induction es with
  | nil =>
    show sumE l c = 0 + sumE l c
    omega
  | cons e es ih =>
    rw [List.cons_append, sumE_cons, sumE_cons, ih]
    omega
theorem sumN_take (es : List Ent) (c : Str → Int) : ∀ n, n ≤ es.length → sumN (cN es c) n = sumE (es.take n) c
  | 0, _ => rfl
  | n + 1, h => by
    have hn : es[n]? = some es[n] := List.getElem?_eq_getElem (by omega)
    rw [take_snoc hn, sumE_app, ← sumN_take es c n (by omega)]
    show sumN (cN es c) n + cN es c n = _
    rw [cN_at hn]
    show _ = _ + (c es[n].name + 0)
    omega
theorem sumN_cN (es : List Ent) (c : Str → Int) : sumN (cN es c) es.length = sumE es c := by
  rw [sumN_take es c _ (Nat.le_refl _), List.take_length]
theorem sumE_perm {es es' : List Ent} (p : es'.Perm es) (c : Str → Int) : sumE es' c = sumE es c := by
  unfold sumE
  induction p with
  | nil => rfl
  | cons x _ ih => rw [List.map_cons, List.map_cons, List.sum_cons, List.sum_cons, ih]
  | swap x y l =>
    rw [List.map_cons, List.map_cons, List.map_cons, List.map_cons, List.sum_cons, List.sum_cons, List.sum_cons, List.sum_cons]
    omega
  | trans _ _ a b => rw [a, b]
theorem name_ix {es : List Ent} (nd : (es.map (·.name)).Nodup) {i j : Nat} {a b : Ent} (h : es[i]? = some a) (g : es[j]? = some b) (e : a.name = b.name) : i = j := nodup_ix nd (x := a.name) (by rw [List.getElem?_map, h]; rfl) (by rw [List.getElem?_map, g, e]; rfl)
/-- of the first that is not full -/
theorem gap_name {es : List Ent} {F c : Str → Int} (le : ∀ e ∈ es, c e.name ≤ F e.name) {e : Ent} (h : (es.find? fun e => decide (c e.name < F e.name)) = some e) : ∃ i, es[i]? = some e ∧ Gap es.length (cN es F) (cN es c) i := by
  obtain ⟨h1, i, hi, h2, h3⟩ := List.find?_eq_some_iff_getElem.mp h
  have hie : es[i]? = some e := by rw [List.getElem?_eq_getElem hi, h2]
  refine ⟨i, hie, hi, ?_, fun k hk => ?_⟩
  · rw [cN_at hie, cN_at hie]
    exact of_decide_eq_true h1
  · have hke : es[k]? = some es[k] := List.getElem?_eq_getElem (by omega)
    rw [cN_at hke, cN_at hke]
    have h4 := h3 k hk
    have h5 := le es[k] (List.getElem_mem _)
    have h6 : ¬ c es[k].name < F es[k].name := by simpa using h4
    omega
theorem gap_find {es : List Ent} {F c : Str → Int} {i : Nat} {e : Ent} (h : es[i]? = some e) (g : Gap es.length (cN es F) (cN es c) i) : (es.find? fun e => decide (c e.name < F e.name)) = some e := by
  obtain ⟨hi, he⟩ := List.getElem?_eq_some_iff.mp h
  have h1 := g.le
  rw [cN_at h, cN_at h] at h1
  refine List.find?_eq_some_iff_getElem.mpr ⟨decide_eq_true h1, i, hi, he, fun k hk => ?_⟩
  have hke : es[k]? = some es[k] := List.getElem?_eq_getElem (by omega)
  have h2 := g.full k hk
  rw [cN_at hke, cN_at hke] at h2
  simp
  omega
/-- the last kind that is split -/
def lastF (es : List Ent) (c : Str → Int) : Option Ent := (es.filter fun e => decide (0 < c e.name)).getLast?
theorem last_filter {p : Ent → Bool} : ∀ {es : List Ent} {e : Ent}, (es.filter p).getLast? = some e → ∃ j : Nat, es[j]? = some e ∧ p e = true ∧ ∀ (k : Nat) (x : Ent), j < k → es[k]? = some x → p x = false
  | [], _, h => by cases h
  | a :: es, e, h => by
    rw [List.filter_cons] at h
    have up : (es.filter p).getLast? = some e → ∃ j : Nat, (a :: es)[j]? = some e ∧ p e = true ∧ ∀ (k : Nat) (x : Ent), j < k → (a :: es)[k]? = some x → p x = false := fun h => by
      obtain ⟨j, h1, h2, h3⟩ := last_filter h
      refine ⟨j + 1, by simpa using h1, h2, fun k x hk hx => ?_⟩
      cases k with
      | zero => omega
      | succ k => exact h3 k x (by omega) (by simpa using hx)
    by_cases q : p a = true
    · rw [if_pos q] at h
      cases hl : (es.filter p).getLast? with
      | some z =>
        rw [List.getLast?_cons, hl] at h
        cases h
        exact up hl
      | none =>
        rw [List.getLast?_cons, hl] at h
        cases h
        have hn := List.getLast?_eq_none_iff.mp hl
        refine ⟨0, rfl, q, fun k x hk hx => ?_⟩
        cases k with
        | zero => omega
        | succ k =>
          have hm : x ∈ es := List.mem_of_getElem? (i := k) (by simpa using hx)
          have := List.filter_eq_nil_iff.mp hn x hm
          simpa using this
    · rw [if_neg q] at h
      exact up h
theorem last_name {es : List Ent} {c : Str → Int} (pos : ∀ e ∈ es, 0 ≤ c e.name) {e : Ent} (h : lastF es c = some e) : ∃ j, es[j]? = some e ∧ Last es.length (cN es c) j := by
  obtain ⟨j, h1, h2, h3⟩ := last_filter h
  refine ⟨j, h1, (List.getElem?_eq_some_iff.mp h1).1, ?_, fun k h4 h5 => ?_⟩
  · rw [cN_at h1]
    exact of_decide_eq_true h2
  · have hke : es[k]? = some es[k] := List.getElem?_eq_getElem (by omega)
    rw [cN_at hke]
    have h6 := of_decide_eq_false (h3 k _ h4 hke)
    have h7 := pos es[k] (List.getElem_mem _)
    omega
theorem lastF_ex {es : List Ent} {c : Str → Int} (h : ∃ e ∈ es, 0 < c e.name) : ∃ e, lastF es c = some e := by
  obtain ⟨e, he, h0⟩ := h
  unfold lastF
  cases q : (es.filter fun e => decide (0 < c e.name)).getLast? with
  | some z => exact ⟨z, rfl⟩
  | none =>
    have := List.filter_eq_nil_iff.mp (List.getLast?_eq_none_iff.mp q) e he
    exact absurd (decide_eq_true h0) this
/-- one more, one less -/
def up1 (c : Str → Int) (x : Str) : Str → Int := fun y => c y + if y = x then 1 else 0
def dn1 (c : Str → Int) (x : Str) : Str → Int := fun y => c y - if y = x then 1 else 0
theorem cN_up {es : List Ent} (nd : (es.map (·.name)).Nodup) {i : Nat} {e : Ent} (h : es[i]? = some e) (c : Str → Int) : cN es (up1 c e.name) = addN (cN es c) i := by
  funext k
  by_cases hk : k < es.length
  · have hke : es[k]? = some es[k] := List.getElem?_eq_getElem hk
    rw [cN_at hke, addN_at, cN_at hke]
    unfold up1
    by_cases q : k = i
    · subst q
      rw [hke] at h
      cases h
      rw [if_pos rfl, if_pos rfl]
    · rw [if_neg q, if_neg fun z => q (name_ix nd hke h z)]
  · rw [cN_out (by omega), addN_at, cN_out (by omega), if_neg]
    · rfl
    · have := (List.getElem?_eq_some_iff.mp h).1
      omega
theorem cN_dn {es : List Ent} (nd : (es.map (·.name)).Nodup) {i : Nat} {e : Ent} (h : es[i]? = some e) (c : Str → Int) : cN es (dn1 c e.name) = subN (cN es c) i := by
  funext k
  by_cases hk : k < es.length
  · have hke : es[k]? = some es[k] := List.getElem?_eq_getElem hk
    rw [cN_at hke, subN_at, cN_at hke]
    unfold dn1
    by_cases q : k = i
    · subst q
      rw [hke] at h
      cases h
      rw [if_pos rfl, if_pos rfl]
    · rw [if_neg q, if_neg fun z => q (name_ix nd hke h z)]
  · rw [cN_out (by omega), subN_at, cN_out (by omega), if_neg]
    · rfl
    · have := (List.getElem?_eq_some_iff.mp h).1
      omega
theorem getD_up (c : Num) (x : Str) : getD (put c x (getD c x + 1)) = up1 (getD c) x := by
  funext y
  unfold up1
  rw [getD_put]
  by_cases q : y = x
  · rw [if_pos q, if_pos q, q]
  · rw [if_neg q, if_neg q]
    omega
theorem getD_dn (c : Num) (x : Str) : getD (put c x (getD c x - 1)) = dn1 (getD c) x := by
  funext y
  unfold dn1
  rw [getD_put]
  by_cases q : y = x
  · rw [if_pos q, if_pos q, q]
  · rw [if_neg q, if_neg q]
    omega
/-- valid splits, kind by kind -/
def Fits (es : List Ent) (f c : Str → Int) : Prop := ∀ e ∈ es, 0 ≤ c e.name ∧ c e.name ≤ if e.parts = [] then 0 else f e.name + amt (incs es c) e.name
theorem Fits.tail {a : Ent} {es : List Ent} {f c : Str → Int} (h : Fits (a :: es) f c) : Fits es (addAll f (a.parts.map fun p => (p, c a.name))) c := fun e he => by
  have h1 := h e (List.mem_cons_of_mem _ he)
  rw [incs_cons, amt_append] at h1
  rw [addAll_at]
  refine ⟨h1.1, ?_⟩
  have h2 := h1.2
  by_cases q : e.parts = []
  · rw [if_pos q] at h2 ⊢
    exact h2
  · rw [if_neg q] at h2 ⊢
    omega
theorem fs_out {es : List Ent} {f : Str → Int} {x : Str} (h : x ∉ es.map (·.name)) : getD (fs es f) x = 0 := getD_none fun z => h (fs_names es f x z)
theorem fs_cons (a : Ent) (es : List Ent) (f : Str → Int) : fs (a :: es) f = (if a.parts = [] then [] else [(a.name, f a.name)]) ++ fs es (addAll f (a.parts.map fun p => (p, f a.name))) := rfl
theorem fs_head {a : Ent} {es : List Ent} {f : Str → Int} (nd : a.name ∉ es.map (·.name)) : getD (fs (a :: es) f) a.name = if a.parts = [] then 0 else f a.name := by
  rw [fs_cons]
  by_cases q : a.parts = []
  · rw [if_pos q, if_pos q, List.nil_append, fs_out nd]
  · rw [if_neg q, if_neg q, List.singleton_append, getD_cons, if_pos rfl]
theorem fs_tail {a : Ent} {es : List Ent} {f : Str → Int} {x : Str} (h : a.name ≠ x) : getD (fs (a :: es) f) x = getD (fs es (addAll f (a.parts.map fun p => (p, f a.name)))) x := by
  rw [fs_cons]
  by_cases q : a.parts = []
  · rw [if_pos q, List.nil_append]
  · rw [if_neg q, List.singleton_append, getD_cons, if_neg h]
/-- never more than all -/
theorem fits_le : ∀ {es : List Ent} {f g c : Str → Int}, Behind es → (es.map (·.name)).Nodup → (∀ x, f x ≤ g x) → Fits es f c → ∀ e ∈ es, c e.name ≤ getD (fs es g) e.name
  | [], _, _, _, _, _, _, _, _, h => by cases h
  | a :: es, f, g, c, b, nd, hfg, ft, e, he => by
    rw [List.map_cons, List.nodup_cons] at nd
    have self := incs_self b nd.1 c
    have ha := ft a (List.mem_cons_self ..)
    rw [self] at ha
    have hca : c a.name ≤ g a.name ∨ a.parts = [] := by
      by_cases q : a.parts = []
      · exact .inr q
      · rw [if_neg q] at ha
        have := hfg a.name
        exact .inl (by omega)
    rcases List.mem_cons.mp he with rfl | he
    · rw [fs_head nd.1]
      split
      · rename_i q
        rw [if_pos q] at ha
        exact ha.2
      · rename_i q
        rcases hca with h | h
        · exact h
        · exact absurd h q
    · rw [fs_tail fun z => nd.1 (List.mem_map.mpr ⟨e, he, z.symm⟩)]
      refine fits_le b.2 nd.2 (fun x => ?_) ft.tail e he
      rw [addAll_at, addAll_at, amt_times, amt_times]
      have h1 := hfg x
      rcases hca with h | h
      · have := Int.mul_le_mul_of_nonneg_right h (ones_le a.parts x).1
        omega
      · rw [h]
        show f x + c a.name * 0 ≤ g x + g a.name * 0
        omega
/-- the first with parts that has whole pieces: the first that is not split up -/
theorem find_gap : ∀ {es : List Ent} {f c : Str → Int}, Behind es → (es.map (·.name)).Nodup → Fits es f c → es.find? (splitB es f c) = es.find? fun e => decide (c e.name < getD (fs es f) e.name)
  | [], _, _, _, _, _ => rfl
  | a :: es, f, c, b, nd, ft => by
    rw [List.map_cons, List.nodup_cons] at nd
    have self := incs_self b nd.1
    have ha := ft a (List.mem_cons_self ..)
    rw [self c] at ha
    rw [List.find?_cons, List.find?_cons]
    have h1 : splitB (a :: es) f c a = decide (c a.name < getD (fs (a :: es) f) a.name) := by
      rw [fs_head nd.1]
      unfold splitB wholeF
      rw [self c]
      by_cases q : a.parts = []
      · rw [if_pos q, decide_eq_false (fun z => z q), Bool.false_and]
        exact (decide_eq_false (by omega)).symm
      · rw [if_neg q, decide_eq_true q, Bool.true_and]
        exact decide_eq_decide.mpr (by omega)
    rw [h1]
    by_cases q : c a.name < getD (fs (a :: es) f) a.name
    · rw [decide_eq_true q]
    · rw [decide_eq_false q]
      dsimp only
      rw [fs_head nd.1] at q
      have ne : ∀ y ∈ es, a.name ≠ y.name := fun y hy z => nd.1 (List.mem_map.mpr ⟨y, hy, z.symm⟩)
      have e1 : (es.find? fun e => decide (c e.name < getD (fs (a :: es) f) e.name)) = es.find? fun e => decide (c e.name < getD (fs es (addAll f (a.parts.map fun p => (p, c a.name)))) e.name) := find_congr fun x hx => by
        rw [fs_tail (ne x hx)]
        by_cases r : a.parts = []
        · rw [r]
          rfl
        · rw [if_neg r] at q ha
          have : c a.name = f a.name := by omega
          rw [this]
      rw [e1, ← find_gap b.2 nd.2 ft.tail]
      refine find_congr fun x hx => ?_
      unfold splitB
      rw [whole_tail (fun _ _ => rfl) x.name rfl]
theorem greedy_cons (q : Str × Int) (l : Num) (n : Int) : greedy (q :: l) n = (q.1, if q.2 < n then q.2 else n) :: greedy l (n - if q.2 < n then q.2 else n) := rfl
/-- the balanced splits: all, then some, then none -/
theorem greedy_bal : ∀ {es : List Ent} {f : Str → Int} {n : Int}, Behind es → (es.map (·.name)).Nodup → (∀ x, 0 ≤ f x) → 0 ≤ n → Bal es.length (cN es (getD (fs es f))) (cN es (getD (greedy (fs es f) n)))
  | [], _, _, _, _, _, _ => fun i k _ h2 => absurd h2 (Nat.not_lt_zero _)
  | a :: es, f, n, b, nd, hf, hn => fun i k h1 h2 h3 => by
    rw [List.map_cons, List.nodup_cons] at nd
    have fa := hf a.name
    have hf2 : ∀ x, 0 ≤ addAll f (a.parts.map fun p => (p, f a.name)) x := addAll_nonneg hf fa a.parts
    have fsn := fs_nonneg b.2 nd.2 hf2
    rw [List.length_cons] at h2
    have ne : ∀ y ∈ es, a.name ≠ y.name := fun y hy z => nd.1 (List.mem_map.mpr ⟨y, hy, z.symm⟩)
    cases k with
    | zero => omega
    | succ k =>
      have hk2 : es[k]? = some es[k] := List.getElem?_eq_getElem (by omega)
      have hk : (a :: es)[k + 1]? = some es[k] := by rw [List.getElem?_cons_succ]; exact hk2
      rw [cN_at hk]
      by_cases q : a.parts = []
      · have e1 : fs (a :: es) f = fs es f := by
          rw [fs, if_pos q, q]
          rfl
        rw [e1] at h3 ⊢
        cases i with
        | zero =>
          rw [cN_at (e := a) rfl, cN_at (e := a) rfl, fs_out nd.1, getD_none fun hm => nd.1 (fs_names es f _ (by rw [← greedy_names (fs es f) n]; exact hm))] at h3
          omega
        | succ i =>
          have hi2 : es[i]? = some es[i] := List.getElem?_eq_getElem (by omega)
          have hi : (a :: es)[i + 1]? = some es[i] := by rw [List.getElem?_cons_succ]; exact hi2
          rw [cN_at hi, cN_at hi] at h3
          have := greedy_bal b.2 nd.2 hf hn i k (by omega) (by omega) (by rw [cN_at hi2, cN_at hi2]; exact h3)
          rw [cN_at hk2] at this
          exact this
      · have e1 : fs (a :: es) f = (a.name, f a.name) :: fs es (addAll f (a.parts.map fun p => (p, f a.name))) := by
          rw [fs, if_neg q]
          rfl
        rw [e1, greedy_cons] at h3 ⊢
        dsimp only at h3 ⊢
        rw [getD_cons, if_neg (ne _ (List.getElem_mem _))]
        cases i with
        | zero =>
          rw [cN_at (e := a) rfl, cN_at (e := a) rfl, getD_cons, if_pos rfl, getD_cons, if_pos rfl] at h3
          refine greedy_zero fsn ?_ ?_ _
          · dsimp only at h3
            split at h3 <;> omega
          · split <;> omega
        | succ i =>
          have hi2 : es[i]? = some es[i] := List.getElem?_eq_getElem (by omega)
          have hi : (a :: es)[i + 1]? = some es[i] := by rw [List.getElem?_cons_succ]; exact hi2
          rw [cN_at hi, cN_at hi, getD_cons, if_neg (ne _ (List.getElem_mem _)), getD_cons, if_neg (ne _ (List.getElem_mem _))] at h3
          have := greedy_bal (n := n - if f a.name < n then f a.name else n) b.2 nd.2 hf2 (by split <;> omega) i k (by omega) (by omega) (by rw [cN_at hi2, cN_at hi2]; exact h3)
          rw [cN_at hk2] at this
          exact this
theorem SplitsOk.fit {es es' : List Ent} {d c : Num} (hp : es'.Perm es) (ok : SplitsOk es d c) : Fits es' (getD d) (getD c) := fun e he => by
  have h := ok.fits e (hp.mem_iff.mp he)
  rw [← pn_perm hp, pn_at] at h
  exact h
theorem SplitsOk.vec {es es' : List Ent} {d c : Num} (hv : Valid es) (hp : es'.Perm es) (ho : Ordered es') (ok : SplitsOk es d c) : Vec es'.length (cN es' (getD (fs es' (getD d)))) (cN es' (getD c)) := fun i hi => by
  have hie : es'[i]? = some es'[i] := List.getElem?_eq_getElem hi
  have hv' := hv.perm hp
  rw [cN_at hie, cN_at hie]
  have ft := ok.fit hp
  exact ⟨(ft _ (List.getElem_mem _)).1, fits_le (hv'.behind ho) hv'.nodup (fun _ => Int.le_refl _) ft _ (List.getElem_mem _)⟩
theorem full_sum {es : List Ent} (b : Behind es) (nd : (es.map (·.name)).Nodup) (f : Str → Int) : sumE es (getD (fs es f)) = ((fs es f).map (·.2)).sum := sumE_getD nd (fs_nodup f nd) fun q hq => fs_names es f _ (List.mem_map.mpr ⟨q, hq, rfl⟩)
theorem nodup_len : ∀ {l m : List Str}, l.Nodup → (∀ x ∈ l, x ∈ m) → l.length ≤ m.length
  | [], _, _, _ => Nat.zero_le _
  | x :: l, m, nd, h => by
    rw [List.nodup_cons] at nd
    have hx := h x (List.mem_cons_self ..)
    have h1 := nodup_len (m := m.erase x) nd.2 fun y hy => (List.mem_erase_of_ne fun z => nd.1 (by rw [← z]; exact hy)).mpr (h y (List.mem_cons_of_mem _ hy))
    rw [List.length_erase_of_mem hx] at h1
    have := List.length_pos_of_mem hx
    rw [List.length_cons]
    omega
theorem same_name {es : List Ent} (nd : (es.map (·.name)).Nodup) {x e : Ent} (hx : x ∈ es) (he : e ∈ es) (q : x.name = e.name) : x = e := by
  obtain ⟨i, hi⟩ := List.mem_iff_getElem?.mp hx
  obtain ⟨j, hj⟩ := List.mem_iff_getElem?.mp he
  have := name_ix nd hi hj q
  rw [this, hj] at hi
  cases hi
  rfl
/-- put keeps known names -/
theorem put_ok {es : List Ent} {c : Num} (nd : (c.map (·.1)).Nodup) (hk : ∀ q ∈ c, q.1 ∈ es.map (·.name)) {x : Str} (hx : x ∈ es.map (·.name)) (i : Int) : ((put c x i).map (·.1)).Nodup ∧ (∀ q ∈ put c x i, q.1 ∈ es.map (·.name)) ∧ (put c x i).length ≤ es.length := by
  have h1 : ((put c x i).map (·.1)).Nodup := put_nodup nd
  have h2 : ∀ q ∈ put c x i, q.1 ∈ es.map (·.name) := fun q hq => by
    rcases (put_keys c x q.1 i).mp (List.mem_map.mpr ⟨q, hq, rfl⟩) with h | h
    · rw [h]
      exact hx
    · obtain ⟨z, hz, e⟩ := List.mem_map.mp h
      rw [← e]
      exact hk z hz
  refine ⟨h1, h2, ?_⟩
  have h3 := nodup_len (m := es.map (·.name)) h1 fun y hy => by
    obtain ⟨q, hq, rfl⟩ := List.mem_map.mp hy
    exact h2 q hq
  rw [List.length_map, List.length_map] at h3
  exact h3
/-- a split step and an undo step keep splits valid -/
theorem SplitsOk.up {es : List Ent} {d c : Num} (hv : Valid es) (hz : es.length < 64) (ok : SplitsOk es d c) {e : Ent} (he : e ∈ es) (hpe : e.parts ≠ []) (hw : getD c e.name < pn es d c e.name) : SplitsOk es d (put c e.name (getD c e.name + 1)) := by
  obtain ⟨h1, h2, h3⟩ := put_ok ok.nd ok.known (List.mem_map.mpr ⟨e, he, rfl⟩) (getD c e.name + 1)
  refine ⟨h1, by omega, h2, fun x hx => ?_⟩
  have hf := ok.fits x hx
  rw [pn_put hv.nodup he, getD_put]
  have h4 := (ones_le e.parts x.name).1
  by_cases q : x.name = e.name
  · obtain rfl := same_name hv.nodup hx he q
    rw [if_neg hpe] at hf
    rw [if_pos rfl, if_neg hpe]
    omega
  · rw [if_neg q]
    by_cases z : x.parts = []
    · rw [if_pos z] at hf ⊢
      exact hf
    · rw [if_neg z] at hf ⊢
      omega
/-- the parts of a kind come behind it -/
theorem parts_behind : ∀ {es : List Ent} {j : Nat} {e : Ent}, Behind es → es[j]? = some e → ∀ q ∈ e.parts, ∃ k x, j < k ∧ es[k]? = some x ∧ x.name = q
  | [], _, _, _, h => by simp at h
  | a :: es, 0, e, b, h => fun q hq => by
    simp at h
    subst h
    obtain ⟨x, hx, e1⟩ := List.mem_map.mp (b.1 q hq).1
    obtain ⟨k, hk⟩ := List.mem_iff_getElem?.mp hx
    exact ⟨k + 1, x, by omega, by simpa using hk, e1⟩
  | a :: es, j + 1, e, b, h => fun q hq => by
    obtain ⟨k, x, h1, h2, h3⟩ := parts_behind b.2 (j := j) (by simpa using h) q hq
    exact ⟨k + 1, x, by omega, by simpa using h2, h3⟩
theorem pn_dn {es : List Ent} (nd : (es.map (·.name)).Nodup) {e0 : Ent} (h0 : e0 ∈ es) (st c : Num) (x : Str) : pn es st (put c e0.name (getD c e0.name - 1)) x = pn es st c x - amt (ones e0.parts) x := by
  have h := pn_put nd h0 st (put c e0.name (getD c e0.name - 1)) x
  have e1 : getD (put (put c e0.name (getD c e0.name - 1)) e0.name (getD (put c e0.name (getD c e0.name - 1)) e0.name + 1)) = getD c := by
    rw [getD_up, getD_dn]
    funext y
    unfold up1 dn1
    omega
  rw [pn_congr rfl e1] at h
  omega
theorem SplitsOk.down {es es' : List Ent} {d c : Num} (hv : Valid es) (hz : es.length < 64) (hp : es'.Perm es) (ho : Ordered es') (so : StockOk es d) (ok : SplitsOk es d c) {j : Nat} {e : Ent} (he : es'[j]? = some e) (l : Last es'.length (cN es' (getD c)) j) : SplitsOk es d (put c e.name (getD c e.name - 1)) := by
  have hv' := hv.perm hp
  have hm := hp.mem_iff.mp (List.mem_of_getElem? he)
  obtain ⟨h1, h2, h3⟩ := put_ok ok.nd ok.known (List.mem_map.mpr ⟨e, hm, rfl⟩) (getD c e.name - 1)
  have lp := l.pos
  rw [cN_at he] at lp
  have cp : ∀ q ∈ c, 0 ≤ q.2 := fun q hq => by
    obtain ⟨e, he, z⟩ := List.mem_map.mp (ok.known q hq)
    have := (ok.fits e he).1
    rw [z, getD_mem ok.nd hq] at this
    exact this
  have dp : ∀ q ∈ put c e.name (getD c e.name - 1), 0 ≤ q.2 := fun q hq => by
    rw [← getD_mem h1 hq, getD_put]
    split
    · omega
    · exact getD_pos cp _
  refine ⟨h1, by omega, h2, fun x hx => ?_⟩
  have hf := ok.fits x hx
  by_cases q : x.name = e.name
  · obtain rfl := same_name hv.nodup hx hm q
    rw [pn_dn hv.nodup hm, getD_put, if_pos rfl]
    by_cases z : x.parts = []
    · rw [if_pos z] at hf ⊢
      omega
    · rw [if_neg z] at hf ⊢
      have : amt (ones x.parts) x.name = 0 := amt_zero fun y hy => by
        unfold ones at hy
        obtain ⟨p, hp2, rfl⟩ := List.mem_map.mp hy
        exact (Behind.at (hv'.behind ho) (hp.mem_iff.mpr hx) p hp2).2
      omega
  · by_cases z : x.parts = []
    · rw [if_pos z] at hf ⊢
      rw [getD_put, if_neg q]
      exact hf
    · rw [if_neg z] at hf ⊢
      by_cases y : x.name ∈ e.parts
      · obtain ⟨k, w, k1, k2, k3⟩ := parts_behind (hv'.behind ho) he x.name y
        have h0 := l.zero k k1 (List.getElem?_eq_some_iff.mp k2).1
        rw [cN_at k2, k3] at h0
        rw [getD_put, if_neg q, h0]
        exact ⟨Int.le_refl _, pn_nonneg' so.pos dp _⟩
      · have : amt (ones e.parts) x.name = 0 := amt_zero fun w hw => by
          unfold ones at hw
          obtain ⟨p, hp2, rfl⟩ := List.mem_map.mp hw
          exact fun z => y (by rw [← z]; exact hp2)
        rw [pn_dn hv.nodup hm, getD_put, if_neg q]
        omega
end Sk
namespace Sk
open PySem PySem.Spec PyProof.Rows L2
theorem amt_keys {l : List Str} (nd : l.Nodup) (x : Str) : amt (ones l) x = if x ∈ l then 1 else 0 := by
  induction l with
  | nil => rfl
  | cons p l ih =>
    rw [List.nodup_cons] at nd
    unfold ones at ih ⊢
    rw [List.map_cons, amt_cons, ih nd.2]
    show (if p = x then (1 : Int) else 0) + _ = _
    by_cases c : p = x
    · rw [if_pos c, if_neg (by rw [← c]; exact nd.1), if_pos (by rw [c]; exact List.mem_cons_self ..)]
      rfl
    · rw [if_neg c]
      by_cases c2 : x ∈ l
      · rw [if_pos c2, if_pos (List.mem_cons_of_mem _ c2)]
        rfl
      · rw [if_neg c2, if_neg]
        · rfl
        · intro h
          rcases List.mem_cons.mp h with z | z
          · exact c z.symm
          · exact c2 z
/-- a sum over a dict's names, as a sum over the kinds -/
theorem sum_keys {es : List Ent} {d : Num} (nd : (es.map (·.name)).Nodup) (dn : (d.map (·.1)).Nodup) (hk : ∀ q ∈ d, q.1 ∈ es.map (·.name)) {h : Str → Int} (hz : ∀ e ∈ es, e.name ∉ d.map (·.1) → h e.name = 0) : (d.map fun q => h q.1).sum = sumE es h := by
  have h1 := sumE_amt nd h (l := ones (d.map (·.1))) fun q hq => by
    unfold ones at hq
    obtain ⟨x, hx, rfl⟩ := List.mem_map.mp hq
    obtain ⟨z, hz, rfl⟩ := List.mem_map.mp hx
    exact hk z hz
  have h2 : ((ones (d.map (·.1))).map fun q => q.2 * h q.1) = d.map fun q => h q.1 := by
    unfold ones
    rw [List.map_map, List.map_map]
    exact List.map_congr_left fun q _ => Int.one_mul _
  rw [h2] at h1
  rw [← h1]
  refine sumE_congr fun e he => ?_
  rw [amt_keys dn]
  by_cases c : e.name ∈ d.map (·.1)
  · rw [if_pos c, Int.one_mul]
  · rw [if_neg c, hz e he c, Int.zero_mul]
theorem fs_key {es : List Ent} {f : Str → Int} (b : Behind es) (nd : (es.map (·.name)).Nodup) {e : Ent} (he : e ∈ es) (hp : e.parts ≠ []) : e.name ∈ (fs es f).map (·.1) := by
  rw [fs_final b nd, List.map_map]
  exact List.mem_map.mpr ⟨e, List.mem_filter.mpr ⟨he, decide_eq_true hp⟩, rfl⟩
def posI (z : Int) : Int := if z > 0 then z else 0
theorem posI_nonneg (z : Int) : 0 ≤ posI z := by
  unfold posI
  split <;> omega
theorem posI_le {z : Int} : z ≤ posI z := by
  unfold posI
  split <;> omega
/-- what c exceeds and what it lacks, kind by kind -/
theorem over_all {es es' : List Ent} {d c : Num} (hv : Valid es) (hp : es'.Perm es) (ho : Ordered es') (so : StockOk es d) (ok : SplitsOk es d c) (hz : es.length < 64) :
    (greedy (fs es' (getD d)) (c.map (·.2)).sum |>.map (·.2)).sum = (c.map (·.2)).sum ∧ SplitsOk es d (greedy (fs es' (getD d)) (c.map (·.2)).sum) ∧
    overN c (greedy (fs es' (getD d)) (c.map (·.2)).sum) = sumE es (fun x => posI (getD c x - getD (greedy (fs es' (getD d)) (c.map (·.2)).sum) x)) ∧
    ((greedy (fs es' (getD d)) (c.map (·.2)).sum).map fun q => posI (getD c q.1 - getD (greedy (fs es' (getD d)) (c.map (·.2)).sum) q.1)).sum = sumE es (fun x => posI (getD c x - getD (greedy (fs es' (getD d)) (c.map (·.2)).sum) x)) ∧
    ((greedy (fs es' (getD d)) (c.map (·.2)).sum).map fun q => posI (getD (greedy (fs es' (getD d)) (c.map (·.2)).sum) q.1 - getD c q.1)).sum = sumE es (fun x => posI (getD c x - getD (greedy (fs es' (getD d)) (c.map (·.2)).sum) x)) := by
  have hv' := hv.perm hp
  have hbe := hv'.behind ho
  have d0 : ∀ x, 0 ≤ getD d x := fun x => getD_pos so.pos x
  have fsn := fs_nonneg hbe hv'.nodup d0
  have cp : ∀ q ∈ c, 0 ≤ q.2 := fun q hq => by
    obtain ⟨e, he, z⟩ := List.mem_map.mp (ok.known q hq)
    have := (ok.fits e he).1
    rw [z, getD_mem ok.nd hq] at this
    exact this
  have n0 : 0 ≤ (c.map (·.2)).sum := by
    rw [← sumE_getD hv.nodup ok.nd ok.known]
    exact sumE_nonneg fun e _ => getD_pos cp e.name
  have n1 := splits_le hv hp ho so ok
  have hs := greedy_sum fsn n0 n1
  have bok := balanced_ok hv hp ho so hz n0
  have hkey : ∀ e ∈ es, e.parts ≠ [] → e.name ∈ (greedy (fs es' (getD d)) (c.map (·.2)).sum).map (·.1) := fun e he hpe => by
    rw [greedy_names]
    exact fs_key hbe hv'.nodup (hp.mem_iff.mpr he) hpe
  have hnn := sumE_getD hv.nodup ok.nd ok.known
  generalize (c.map (·.2)).sum = n at *
  generalize greedy (fs es' (getD d)) n = b at *
  have none : ∀ e ∈ es, e.name ∉ b.map (·.1) → getD b e.name = 0 ∧ getD c e.name = 0 := fun e he hn => by
    have hpe : e.parts = [] := Decidable.byContradiction fun z => hn (hkey e he z)
    obtain ⟨f1, f2⟩ := ok.fits e he
    rw [if_pos hpe] at f2
    exact ⟨getD_none hn, by omega⟩
  have pos0 : posI 0 = 0 := rfl
  refine ⟨hs, bok, ?_, ?_, ?_⟩
  · rw [← sum_keys (d := c) hv.nodup ok.nd ok.known]
    · unfold overN
      congr 1
      refine List.map_congr_left fun q hq => ?_
      rw [getD_mem ok.nd hq]
      rfl
    · intro e he hn
      have h1 := (bok.fits e he).1
      rw [getD_none hn]
      unfold posI
      rw [if_neg (by omega)]
  · refine sum_keys hv.nodup bok.nd bok.known (h := fun x => posI (getD c x - getD b x)) fun e he hn => ?_
    obtain ⟨h1, h2⟩ := none e he hn
    show posI _ = 0
    rw [h1, h2]
    rfl
  · rw [sum_keys hv.nodup bok.nd bok.known (h := fun x => posI (getD b x - getD c x)) fun e he hn => by
      obtain ⟨h1, h2⟩ := none e he hn
      show posI _ = 0
      rw [h1, h2]
      rfl]
    have e2 := sumE_getD hv.nodup bok.nd bok.known
    have e3 : sumE es (fun x => posI (getD b x - getD c x)) + sumE es (getD c) = sumE es (fun x => posI (getD c x - getD b x)) + sumE es (getD b) := by
      rw [← sumE_add, ← sumE_add]
      refine sumE_congr fun e _ => ?_
      show posI (getD b e.name - getD c e.name) + getD c e.name = posI (getD c e.name - getD b e.name) + getD b e.name
      unfold posI
      split <;> split <;> omega
    omega
theorem overN_self {b : Num} (h : (b.map (·.1)).Nodup) : overN b b = 0 := by
  have key : ∀ l : Num, (∀ q ∈ l, q ∈ b) → overN l b = 0 := by
    intro l
    induction l with
    | nil => intro _; rfl
    | cons q l ih =>
      intro hl
      have h1 := ih fun z hz => hl z (List.mem_cons_of_mem _ hz)
      unfold overN at h1 ⊢
      rw [List.map_cons, List.sum_cons, h1, getD_mem h (hl q (List.mem_cons_self ..)), if_neg (by omega)]
      rfl
  exact key b fun _ h => h
theorem overN_le {c b : Num} (hc : ∀ q ∈ c, 0 ≤ q.2) (hb : ∀ q ∈ b, 0 ≤ q.2) : 0 ≤ overN c b ∧ overN c b ≤ (c.map (·.2)).sum := by
  unfold overN
  induction c with
  | nil => exact ⟨Int.le_refl _, Int.le_refl _⟩
  | cons q l ih =>
    have h1 := ih fun z hz => hc z (List.mem_cons_of_mem _ hz)
    have h2 := hc q (List.mem_cons_self ..)
    have h3 := getD_pos hb q.1
    rw [List.map_cons, List.sum_cons, List.map_cons, List.sum_cons]
    split <;> omega
end Sk
namespace Sk
open PySem PySem.Spec PyProof.Rows L2
theorem clean_sum (es : List Ent) (d : Num) : ((cleanN es d).map (·.2)).sum = sumE es (getD d) := by
  unfold cleanN
  induction es with
  | nil => rfl
  | cons e es ih =>
    rw [sumE_cons, List.filter_cons]
    by_cases c : getD d e.name ≠ 0
    · rw [if_pos (decide_eq_true c), List.map_cons, List.map_cons, List.sum_cons, ih]
    · rw [if_neg (by rw [decide_eq_true_eq]; exact c), ih]
      have := Decidable.not_not.mp c
      omega
end Sk
namespace Sk
open PySem PySem.Spec PyProof.Rows L2
/-- a catalogue, in order, and a stock -/
structure Sit (es es' : List Ent) (d : Num) : Prop where
  hv : Valid es
  hp : es'.Perm es
  ho : Ordered es'
  so : StockOk es d
  hz : es.length < 64
def totI (es' : List Ent) (d : Num) : Int := ((fs es' (getD d)).map (·.2)).sum
abbrev fullN (es' : List Ent) (d : Num) : Nat → Int := cN es' (getD (fs es' (getD d)))
abbrev balN (es' : List Ent) (d : Num) (n : Int) : Nat → Int := cN es' (getD (greedy (fs es' (getD d)) n))
section
variable {es es' : List Ent} {d c : Num}
theorem Sit.v' (s : Sit es es' d) : Valid es' := s.hv.perm s.hp
theorem Sit.beh (s : Sit es es' d) : Behind es' := s.v'.behind s.ho
theorem Sit.d0 (s : Sit es es' d) : ∀ x, 0 ≤ getD d x := fun x => getD_pos s.so.pos x
theorem Sit.fsn (s : Sit es es' d) : ∀ q ∈ fs es' (getD d), 0 ≤ q.2 := fs_nonneg s.beh s.v'.nodup s.d0
theorem Sit.tot (s : Sit es es' d) : sumN (fullN es' d) es'.length = totI es' d := by
  rw [sumN_cN, full_sum s.beh s.v'.nodup]
  rfl
theorem SplitsOk.pos {c : Num} (ok : SplitsOk es d c) : ∀ q ∈ c, 0 ≤ q.2 := fun q hq => by
  obtain ⟨e, he, z⟩ := List.mem_map.mp (ok.known q hq)
  have := (ok.fits e he).1
  rw [z, getD_mem ok.nd hq] at this
  exact this
theorem Sit.sum (s : Sit es es' d) (ok : SplitsOk es d c) : sumN (cN es' (getD c)) es'.length = (c.map (·.2)).sum := by
  rw [sumN_cN, sumE_perm s.hp, sumE_getD s.hv.nodup ok.nd ok.known]
theorem Sit.vec (s : Sit es es' d) (ok : SplitsOk es d c) : Vec es'.length (fullN es' d) (cN es' (getD c)) := ok.vec s.hv s.hp s.ho
theorem Sit.range (s : Sit es es' d) (ok : SplitsOk es d c) : 0 ≤ (c.map (·.2)).sum ∧ (c.map (·.2)).sum ≤ totI es' d := by
  rw [← s.sum ok, ← s.tot]
  exact ⟨sumN_nonneg fun i hi => (s.vec ok i hi).1, sumN_le fun i hi => (s.vec ok i hi).2⟩
theorem Sit.bal (s : Sit es es' d) {n : Int} (h0 : 0 ≤ n) (h1 : n ≤ totI es' d) : Vec es'.length (fullN es' d) (balN es' d n) ∧ Bal es'.length (fullN es' d) (balN es' d n) ∧ sumN (balN es' d n) es'.length = n := by
  have ok := balanced_ok s.hv s.hp s.ho s.so s.hz h0
  refine ⟨s.vec ok, greedy_bal s.beh s.v'.nodup s.d0 h0, ?_⟩
  rw [s.sum ok]
  exact greedy_sum s.fsn h0 h1
theorem Sit.over (s : Sit es es' d) (ok : SplitsOk es d c) : overN c (greedy (fs es' (getD d)) (c.map (·.2)).sum) = offN es'.length (cN es' (getD c)) (balN es' d (c.map (·.2)).sum) := by
  obtain ⟨_, _, o3, _, _⟩ := over_all s.hv s.hp s.ho s.so ok s.hz
  rw [o3, ← sumE_perm s.hp, ← sumN_cN]
  refine sumN_congr fun i hi => ?_
  have hie : es'[i]? = some es'[i] := List.getElem?_eq_getElem hi
  show _ = posZ (cN es' (getD c) i - cN es' (getD (greedy (fs es' (getD d)) (c.map (·.2)).sum)) i)
  rw [cN_at hie, cN_at hie, cN_at hie]
  rfl
theorem filter_same {p q : Ent → Bool} : ∀ {l : List Ent}, (∀ e ∈ l, p e = true → q e = true) → (l.filter p).length = (l.filter q).length → ∀ e ∈ l, p e = q e
  | [], _, _, _, h => by cases h
  | a :: l, hpq, hl, e, he => by
    have h1 : (l.filter p).length ≤ (l.filter q).length := by
      have hh : ∀ e ∈ l, p e = true → q e = true := fun e he => hpq e (List.mem_cons_of_mem _ he)
      clear hl he hpq
      induction l with
      | nil => exact Nat.le_refl _
      | cons b l ih =>
        have i1 := ih fun e he => hh e (List.mem_cons_of_mem _ he)
        have i2 := hh b (List.mem_cons_self ..)
        rw [List.filter_cons, List.filter_cons]
        cases hp : p b <;> cases hq : q b
        · exact i1
        · show _ ≤ (b :: l.filter q).length
          rw [List.length_cons]
          exact Nat.le_succ_of_le i1
        · rw [hq] at i2
          cases i2 hp
        · show (b :: l.filter p).length ≤ (b :: l.filter q).length
          rw [List.length_cons, List.length_cons]
          omega
    have i2 := hpq a (List.mem_cons_self ..)
    rw [List.filter_cons, List.filter_cons] at hl
    have key : p a = q a ∧ (l.filter p).length = (l.filter q).length := by
      cases hp : p a <;> cases hq : q a
      · rw [hp, hq] at hl
        exact ⟨rfl, hl⟩
      · rw [hp, hq] at hl
        rw [if_neg Bool.false_ne_true, if_pos rfl, List.length_cons] at hl
        omega
      · rw [hq] at i2
        cases i2 hp
      · rw [hp, hq] at hl
        rw [if_pos rfl, if_pos rfl, List.length_cons, List.length_cons] at hl
        exact ⟨rfl, by omega⟩
    rcases List.mem_cons.mp he with rfl | he
    · exact key.1
    · exact filter_same (fun e he => hpq e (List.mem_cons_of_mem _ he)) key.2 e he
theorem clean_get {es : List Ent} (nd : (es.map (·.name)).Nodup) (c : Num) {e : Ent} (he : e ∈ es) : get? (cleanN es c) e.name = if getD c e.name ≠ 0 then some (getD c e.name) else none := by
  by_cases h : getD c e.name ≠ 0
  · rw [if_pos h]
    exact get?_ndm (q := (e.name, getD c e.name)) (clean_nodup nd) (by
      unfold cleanN
      exact List.mem_map.mpr ⟨e, List.mem_filter.mpr ⟨he, decide_eq_true h⟩, rfl⟩)
  · rw [if_neg h]
    refine get?_none fun hm => ?_
    unfold cleanN at hm
    rw [List.map_map] at hm
    obtain ⟨x, hx, q⟩ := List.mem_map.mp hm
    obtain ⟨x1, x2⟩ := List.mem_filter.mp hx
    obtain rfl := same_name nd x1 he q
    exact h (of_decide_eq_true x2)
/-- cleaned numbers compared -/
theorem clean_eq {es : List Ent} (nd : (es.map (·.name)).Nodup) (c b : Num) : eqNum (cleanN es c) (cleanN es b) = true ↔ ∀ i, i < es.length → cN es (getD c) i = cN es (getD b) i := by
  constructor
  · intro h
    unfold eqNum subNum at h
    rw [Bool.and_eq_true, List.all_eq_true] at h
    obtain ⟨h1, h2⟩ := h
    have h1 := eq_of_beq h1
    have hit : ∀ e ∈ es, getD c e.name ≠ 0 → getD b e.name = getD c e.name := fun e he h0 => by
      have h3 := of_decide_eq_true (h2 (e.name, getD c e.name) (by
        unfold cleanN
        exact List.mem_map.mpr ⟨e, List.mem_filter.mpr ⟨he, decide_eq_true h0⟩, rfl⟩))
      dsimp only at h3
      rw [clean_get nd b he] at h3
      split at h3
      · exact Option.some.inj h3
      · cases h3
    have same := filter_same (p := fun e => decide (getD c e.name ≠ 0)) (q := fun e => decide (getD b e.name ≠ 0)) (l := es) (fun e he h => by
      have h0 := of_decide_eq_true h
      have := hit e he h0
      exact decide_eq_true (by rw [this]; exact h0)) (by
      unfold cleanN at h1
      rw [List.length_map, List.length_map] at h1
      exact h1)
    intro i hi
    have hie : es[i]? = some es[i] := List.getElem?_eq_getElem hi
    rw [cN_at hie, cN_at hie]
    have hm : es[i] ∈ es := List.getElem_mem _
    by_cases h0 : getD c es[i].name = 0
    · have := same es[i] hm
      have h4 : ¬ getD b es[i].name ≠ 0 := fun z => by
        have h5 : decide (getD c es[i].name ≠ 0) = true := by rw [this]; exact decide_eq_true z
        exact of_decide_eq_true h5 h0
      rw [h0, Decidable.not_not.mp h4]
    · exact (hit es[i] hm h0).symm
  · intro h
    have hh : ∀ e ∈ es, getD c e.name = getD b e.name := fun e he => by
      obtain ⟨i, hi⟩ := List.mem_iff_getElem?.mp he
      have := h i (List.getElem?_eq_some_iff.mp hi).1
      rw [cN_at hi, cN_at hi] at this
      exact this
    have e : cleanN es c = cleanN es b := by
      unfold cleanN
      rw [List.filter_congr fun e he => by rw [hh e he]]
      refine List.map_congr_left fun e he => ?_
      rw [hh e (List.mem_filter.mp he).1]
    rw [e]
    exact eqNum_refl (clean_nodup nd)
/-- there is a kind to split -/
theorem Sit.split_ex (s : Sit es es' d) (ok : SplitsOk es d c) (h : (c.map (·.2)).sum < totI es' d) : ∃ e, es'.find? (splitB es' (getD d) (getD c)) = some e := by
  obtain ⟨i, g⟩ := gap_ex (s.vec ok) (by rw [s.sum ok, s.tot]; exact h)
  have hlt := g.lt
  have hie : es'[i]? = some es'[i] := List.getElem?_eq_getElem hlt
  rw [find_gap s.beh s.v'.nodup (ok.fit s.hp)]
  exact ⟨_, gap_find hie g⟩
theorem Sit.split (s : Sit es es' d) (ok : SplitsOk es d c) {e : Ent} (h : es'.find? (splitB es' (getD d) (getD c)) = some e) : ∃ i, Gap es'.length (fullN es' d) (cN es' (getD c)) i ∧ cN es' (getD (put c e.name (getD c e.name + 1))) = addN (cN es' (getD c)) i ∧ SplitsOk es d (put c e.name (getD c e.name + 1)) := by
  have hm := List.mem_of_find?_eq_some h
  have hw := List.find?_some h
  rw [find_gap s.beh s.v'.nodup (ok.fit s.hp)] at h
  obtain ⟨i, hi, g⟩ := gap_name (fun e he => fits_le s.beh s.v'.nodup (fun _ => Int.le_refl _) (ok.fit s.hp) e he) h
  refine ⟨i, g, ?_, ?_⟩
  · rw [getD_up, cN_up s.v'.nodup hi]
  · unfold splitB at hw
    rw [Bool.and_eq_true] at hw
    refine ok.up s.hv s.hz (s.hp.mem_iff.mp hm) (of_decide_eq_true hw.1) ?_
    have h1 := of_decide_eq_true hw.2
    unfold wholeF at h1
    rw [← pn_perm s.hp, pn_at]
    omega
theorem Sit.undo_ex (s : Sit es es' d) (ok : SplitsOk es d c) (h : 0 < (c.map (·.2)).sum) : ∃ e ∈ es, 0 < getD c e.name := by
  obtain ⟨j, l⟩ := lastN_ex (s.vec ok) (by rw [s.sum ok]; exact h)
  have hlt := l.lt
  have hje : es'[j]? = some es'[j] := List.getElem?_eq_getElem hlt
  have := l.pos
  rw [cN_at hje] at this
  exact ⟨_, s.hp.mem_iff.mp (List.mem_of_getElem? hje), this⟩
theorem Sit.undo (s : Sit es es' d) (ok : SplitsOk es d c) {e : Ent} (h : lastF es' (getD c) = some e) : ∃ j, Last es'.length (cN es' (getD c)) j ∧ cN es' (getD (put c e.name (getD c e.name - 1))) = subN (cN es' (getD c)) j ∧ SplitsOk es d (put c e.name (getD c e.name - 1)) := by
  obtain ⟨j, hj, l⟩ := last_name (fun e he => (ok.fits e (s.hp.mem_iff.mp he)).1) h
  exact ⟨j, l, by rw [getD_dn, cN_dn s.v'.nodup hj], ok.down s.hv s.hz s.hp s.ho s.so hj l⟩
/-- no step: balanced -/
theorem Sit.off_end (s : Sit es es' d) (ok : SplitsOk es d c) (h : (c.map (·.2)).sum = 0 ∨ (c.map (·.2)).sum = totI es' d) : offN es'.length (cN es' (getD c)) (balN es' d (c.map (·.2)).sum) = 0 := by
  obtain ⟨r0, r1⟩ := s.range ok
  obtain ⟨b1, b2, b3⟩ := s.bal r0 r1
  have v := s.vec ok
  have e := s.sum ok
  refine (off_zero (by rw [e, b3])).mpr (bal_uniq v b1 ?_ b2 (by rw [e, b3]))
  rcases h with h | h
  · intro i k h1 h2 _
    refine Decidable.byContradiction fun z => ?_
    have h3 : sumN (fun _ => 0) es'.length < sumN (cN es' (getD c)) es'.length := sumN_lt (k := k) (fun t ht => (v t ht).1) h2 (by have := (v k h2).1; show (0 : Int) < _; omega)
    have h4 := sumN_nonneg (c := fun _ => 0) (n := es'.length) fun _ _ => Int.le_refl _
    omega
  · intro i k h1 h2 h3
    exfalso
    have := sumN_lt (k := i) (fun t ht => (v t ht).2) (by omega) h3
    rw [s.tot] at this
    omega
/-- one more of the balanced ones -/
theorem Sit.bal_succ (s : Sit es es' d) {n : Int} (h0 : 0 ≤ n) (h1 : n < totI es' d) : ∃ k, Gap es'.length (fullN es' d) (balN es' d n) k ∧ ∀ i, i < es'.length → balN es' d (n + 1) i = addN (balN es' d n) k i := by
  obtain ⟨b1, b2, b3⟩ := s.bal h0 (by omega)
  obtain ⟨a1, a2, a3⟩ := s.bal (n := n + 1) (by omega) (by omega)
  obtain ⟨k, g⟩ := gap_ex b1 (by rw [b3, s.tot]; exact h1)
  exact ⟨k, g, bal_uniq a1 (b1.add g) a2 (b2.add b1 g) (by rw [a3, sum_addN g.lt, b3])⟩
theorem off_congr {n : Nat} {c c' B B' : Nat → Int} (h : ∀ i, i < n → c i = c' i) (h' : ∀ i, i < n → B i = B' i) : offN n c B = offN n c' B' := sumN_congr fun i hi => by
  show posZ _ = posZ _
  rw [h i hi, h' i hi]
end
end Sk
namespace Sk
open PySem PySem.Spec PyProof.Rows L2
/-- entries stand when a dict is written -/
theorem EntAt.updD {H : Hp} {W : Addr} {ks : List (Key × V)} {o : HO} {v : V} {e : Ent} (h : H W = some (.dK ks)) (he : EntAt H v e) : EntAt (upd H W o) v e := by
  obtain ⟨t, l, rfl, h1, h2⟩ := he
  refine ⟨t, l, rfl, ?_, ?_⟩
  · rw [upd_ne fun z => by rw [z, h] at h1; cases h1]
    exact h1
  · rw [upd_ne fun z => by rw [z, h] at h2; cases h2]
    exact h2
theorem CatAt.updD {H : Hp} {W : Addr} {ks : List (Key × V)} {o : HO} (h : H W = some (.dK ks)) : ∀ {vs : List V} {es : List Ent}, CatAt H vs es → CatAt (upd H W o) vs es
  | _, _, .nil => .nil
  | _, _, .cons a t => .cons (a.updD h) (CatAt.updD h t)
/-- w with c more for each of l -/
structure PAt (es : List Ent) (w : Num) (l : List Str) (c : Int) (w2 : Num) : Prop where
  nd : (w2.map (·.1)).Nodup
  known : ∀ q ∈ w2, q.1 ∈ es.map (·.name)
  val : ∀ x, getD w2 x = getD w x + amt (l.map fun p => (p, c)) x
  has : ∀ x ∈ w.map (·.1), x ∈ w2.map (·.1)
theorem PAt.start {es : List Ent} {w : Num} (nd : (w.map (·.1)).Nodup) (known : ∀ q ∈ w, q.1 ∈ es.map (·.name)) (c : Int) : PAt es w [] c w := ⟨nd, known, fun x => by show _ = _ + 0; omega, fun _ h => h⟩
theorem PAt.step {es : List Ent} {w w2 : Num} {l : List Str} {c : Int} (h : PAt es w l c w2) {p : Str} (hp : p ∈ es.map (·.name)) : PAt es w (l ++ [p]) c (put w2 p (getD w2 p + c)) := by
  obtain ⟨h1, h2, _⟩ := put_ok h.nd h.known hp (getD w2 p + c)
  refine ⟨h1, h2, fun x => ?_, fun x hx => (put_keys w2 p x _).mpr (.inr (h.has x hx))⟩
  rw [getD_put, List.map_append, amt_append]
  have e : amt (([p] : List Str).map fun p => (p, c)) x = if p = x then c else 0 := by
    show amt [(p, c)] x = _
    rw [amt_cons]
    exact Int.add_zero _
  rw [e, h.val, h.val]
  by_cases q : x = p
  · rw [if_pos q, if_pos q.symm, q]
    omega
  · rw [if_neg q, if_neg fun z => q z.symm]
    omega
theorem PAt.len {es : List Ent} {w w2 : Num} {l : List Str} {c : Int} (h : PAt es w l c w2) : w2.length ≤ es.length := by
  have h1 := nodup_len (m := es.map (·.name)) h.nd fun y hy => by
    obtain ⟨q, hq, rfl⟩ := List.mem_map.mp hy
    exact h.known q hq
  rw [List.length_map, List.length_map] at h1
  exact h1
theorem get?_has {w : Num} {x : Str} (h : x ∈ w.map (·.1)) : get? w x = some (getD w x) := by
  obtain ⟨i, hi⟩ := get?_of_mem h
  unfold getD
  rw [hi]
  rfl
end Sk
namespace Sk
open PySem PySem.Spec PyProof.Rows L2
theorem ord_w {es : List Ent} (o : Ordered es) {i j : Nat} (h : i < j) {a b : Ent} (ha : es[i]? = some a) (hb : es[j]? = some b) : b.w ≤ a.w := by
  obtain ⟨i1, rfl⟩ := List.getElem?_eq_some_iff.mp ha
  obtain ⟨j1, rfl⟩ := List.getElem?_eq_some_iff.mp hb
  have h1 : kLt es[j].key es[i].key = false := List.pairwise_iff_getElem.mp o i j i1 j1 h
  rcases kLt_no.mp h1 with h2 | ⟨h2, _⟩
  · have h3 : (0 : Int) - es[i].w < 0 - es[j].w := h2
    omega
  · have h3 : (0 : Int) - es[j].w = 0 - es[i].w := h2
    omega
/-- what G tells of the entries -/
def eN (es : List Ent) (G : Ent → Int) : Nat → Int := fun i => match es[i]? with
  | some e => G e
  | none => 0
theorem eN_at {es : List Ent} {i : Nat} {e : Ent} (h : es[i]? = some e) (G : Ent → Int) : eN es G i = G e := by
  unfold eN
  rw [h]
theorem sumN_eN (es : List Ent) (G : Ent → Int) : sumN (eN es G) es.length = (es.map G).sum := by
  have key : ∀ n, n ≤ es.length → sumN (eN es G) n = ((es.take n).map G).sum := by
    intro n
    induction n with
    | zero => intro _; rfl
    | succ n ih =>
      intro h
      have hn : es[n]? = some es[n] := List.getElem?_eq_getElem (by omega)
      rw [take_snoc hn, List.map_append, List.sum_append, ← ih (by omega)]
      show sumN (eN es G) n + eN es G n = _
      rw [eN_at hn]
      show _ = _ + (G es[n] + 0)
      omega
  rw [key _ (Nat.le_refl _), List.take_length]
theorem fsS_head {a : Ent} {es : List Ent} {f : Str → Int} (b : Behind (a :: es)) (nd : a.name ∉ es.map (·.name)) : fsS (a :: es) f a.name = f a.name := by
  show fsS es _ a.name = _
  rw [fsS_other b.2 nd, addAll_at, amt_zero]
  · omega
  · intro q hq
    obtain ⟨p, hp, rfl⟩ := List.mem_map.mp hq
    exact (b.1 p hp).2
/-- the pieces, where all larger kinds are split up -/
theorem full_at : ∀ {es : List Ent} {f c : Str → Int} {i : Nat} {e : Ent}, Behind es → (es.map (·.name)).Nodup → es[i]? = some e → (∀ (k : Nat) (x : Ent), k < i → es[k]? = some x → c x.name = getD (fs es f) x.name) → f e.name + amt (incs es c) e.name = fsS es f e.name
  | [], _, _, _, _, _, _, h, _ => by simp at h
  | a :: es, f, c, 0, e, b, nd, h, _ => by
    rw [List.map_cons, List.nodup_cons] at nd
    simp at h
    subst h
    rw [incs_self b nd.1, fsS_head b nd.1]
    omega
  | a :: es, f, c, i + 1, e, b, nd, h, hk => by
    rw [List.map_cons, List.nodup_cons] at nd
    have h' : es[i]? = some e := by simpa using h
    have ih := full_at (c := c) (f := addAll f (a.parts.map fun p => (p, f a.name))) b.2 nd.2 h' fun k x hlt hx => by
      have h1 := hk (k + 1) x (by omega) (by simpa using hx)
      rw [fs_tail fun z => nd.1 (List.mem_map.mpr ⟨x, List.mem_of_getElem? hx, z.symm⟩)] at h1
      exact h1
    have h0 := hk 0 a (by omega) rfl
    rw [fs_head nd.1] at h0
    rw [addAll_at] at ih
    show _ = fsS es (addAll f (a.parts.map fun p => (p, f a.name))) e.name
    rw [← ih, incs_cons, amt_append]
    by_cases q : a.parts = []
    · rw [q]
      show f e.name + (0 + amt (incs es c) e.name) = f e.name + 0 + amt (incs es c) e.name
      omega
    · rw [if_neg q] at h0
      rw [h0]
      omega
theorem fs_val {es : List Ent} {f : Str → Int} (b : Behind es) (nd : (es.map (·.name)).Nodup) {e : Ent} (he : e ∈ es) : getD (fs es f) e.name = if e.parts = [] then 0 else fsS es f e.name := by
  by_cases q : e.parts = []
  · rw [if_pos q, getD_none]
    intro hm
    rw [fs_final b nd, List.map_map] at hm
    obtain ⟨x, hx, z⟩ := List.mem_map.mp hm
    obtain ⟨x1, x2⟩ := List.mem_filter.mp hx
    obtain rfl := same_name nd x1 he z
    exact of_decide_eq_true x2 q
  · rw [if_neg q, getD_mem (q := (e.name, fsS es f e.name)) (fs_nodup f nd)]
    rw [fs_final b nd]
    exact List.mem_map.mpr ⟨e, List.mem_filter.mpr ⟨he, decide_eq_true q⟩, rfl⟩
theorem fs_get {es : List Ent} {f : Str → Int} (b : Behind es) (nd : (es.map (·.name)).Nodup) {e : Ent} (he : e ∈ es) : get? (fs es f) e.name = if e.parts = [] then none else some (fsS es f e.name) := by
  by_cases q : e.parts = []
  · rw [if_pos q]
    refine get?_none fun hm => ?_
    rw [fs_final b nd, List.map_map] at hm
    obtain ⟨x, hx, z⟩ := List.mem_map.mp hm
    obtain ⟨x1, x2⟩ := List.mem_filter.mp hx
    obtain rfl := same_name nd x1 he z
    exact of_decide_eq_true x2 q
  · rw [if_neg q]
    refine get?_ndm (q := (e.name, fsS es f e.name)) (fs_nodup f nd) ?_
    rw [fs_final b nd]
    exact List.mem_map.mpr ⟨e, List.mem_filter.mpr ⟨he, decide_eq_true q⟩, rfl⟩
/-- the pieces when all is split -/
theorem pn_full {es : List Ent} {d : Num} (b : Behind es) (nd : (es.map (·.name)).Nodup) {e : Ent} (he : e ∈ es) : pn es d (fs es (getD d)) e.name = fsS es (getD d) e.name := by
  obtain ⟨i, hi⟩ := List.mem_iff_getElem?.mp he
  rw [pn_at]
  exact full_at b nd hi fun _ _ _ _ => rfl
end Sk
namespace Sk
open PySem PySem.Spec PyProof.Rows L2
theorem incs_take {f : Str → Int} : ∀ {es : List Ent} {i : Nat} {e : Ent}, Behind es → (es.map (·.name)).Nodup → es[i]? = some e → amt (incs es f) e.name = amt (incs (es.take i) f) e.name
  | [], _, _, _, _, h => by simp at h
  | a :: es, 0, e, b, nd, h => by
    rw [List.map_cons, List.nodup_cons] at nd
    simp at h
    subst h
    rw [incs_self b nd.1]
    rfl
  | a :: es, i + 1, e, b, nd, h => by
    rw [List.map_cons, List.nodup_cons] at nd
    have h' : es[i]? = some e := by simpa using h
    rw [List.take_succ_cons, incs_cons, incs_cons, amt_append, amt_append, incs_take b.2 nd.2 h']
theorem incs_le {f g : Str → Int} {x : Str} : ∀ {es : List Ent}, (∀ e ∈ es, f e.name ≤ g e.name) → amt (incs es f) x ≤ amt (incs es g) x
  | [], _ => Int.le_refl _
  | a :: es, h => by
    rw [incs_cons, incs_cons, amt_append, amt_append]
    have h1 := incs_le (x := x) fun e he => h e (List.mem_cons_of_mem _ he)
    have h2 := h a (List.mem_cons_self ..)
    have h3 : amt (a.parts.map fun p => (p, f a.name)) x ≤ amt (a.parts.map fun p => (p, g a.name)) x := by
      generalize a.parts = l
      induction l with
      | nil => exact Int.le_refl _
      | cons p l ih =>
        rw [List.map_cons, List.map_cons, amt_cons, amt_cons]
        show (if p = x then f a.name else 0) + _ ≤ (if p = x then g a.name else 0) + _
        split <;> omega
    omega
theorem name_take {es : List Ent} {i : Nat} {x : Ent} (h : x ∈ es.take i) : ∃ k, k < i ∧ es[k]? = some x := by
  obtain ⟨k, hk⟩ := List.mem_iff_getElem?.mp h
  have h1 := (List.getElem?_eq_some_iff.mp hk).1
  rw [List.length_take] at h1
  exact ⟨k, by omega, by rw [← hk, List.getElem?_take_of_lt (by omega)]⟩
/-- splits so far, and how many are left -/
structure AAt (es : List Ent) (d sp : Num) (t0 : Int) (i : Nat) (w : Num) (t : Int) : Prop where
  nd : (w.map (·.1)).Nodup
  known : ∀ q ∈ w, q.1 ∈ es.map (·.name)
  pos : 0 ≤ t
  sum : sumN (cN es (getD w)) i + t = sumN (cN es (getD sp)) i + t0
  lo : ∀ k, k < i → cN es (getD sp) k ≤ cN es (getD w) k
  hi : ∀ k, k < i → cN es (getD w) k ≤ fullN es d k
  left : 0 < t → ∀ k, k < i → cN es (getD w) k = fullN es d k
  full : ∀ k m, k < m → m < i → cN es (getD sp) m < cN es (getD w) m → cN es (getD w) k = fullN es d k
theorem AAt.len {es : List Ent} {d sp w : Num} {t0 t : Int} {i : Nat} (h : AAt es d sp t0 i w t) : w.length ≤ es.length := by
  have h1 := nodup_len (m := es.map (·.name)) h.nd fun y hy => by
    obtain ⟨q, hq, rfl⟩ := List.mem_map.mp hy
    exact h.known q hq
  rw [List.length_map, List.length_map] at h1
  exact h1
theorem AAt.start (es : List Ent) (d sp : Num) {t0 : Int} (h : 0 ≤ t0) : AAt es d sp t0 0 [] t0 := ⟨List.nodup_nil, (fun _ h => by cases h), h, rfl, fun _ h => absurd h (Nat.not_lt_zero _), fun _ h => absurd h (Nat.not_lt_zero _), fun _ _ h => absurd h (Nat.not_lt_zero _), fun _ _ _ h => absurd h (Nat.not_lt_zero _)⟩
theorem AAt.step {es : List Ent} {d sp w w' : Num} {t0 t tk : Int} {i : Nat} {e : Ent} (S : Sit es es d) (ok : SplitsOk es d sp) (h : AAt es d sp t0 i w t) (he : es[i]? = some e) (nd : (w'.map (·.1)).Nodup) (kn : ∀ q ∈ w', q.1 ∈ es.map (·.name))
    (htk : tk = if e.parts = [] then 0 else if getD d e.name + amt (incs (es.take i) (getD w)) e.name - getD sp e.name < t then getD d e.name + amt (incs (es.take i) (getD w)) e.name - getD sp e.name else t)
    (hv : ∀ x, getD w' x = if x = e.name then getD sp e.name + tk else getD w x) : AAt es d sp t0 (i + 1) w' (t - tk) := by
  have hnd := S.v'.nodup
  have hm := List.mem_of_getElem? he
  have hil := (List.getElem?_eq_some_iff.mp he).1
  have e1 : ∀ k, k < i → cN es (getD w') k = cN es (getD w) k := fun k hk => by
    have hke : es[k]? = some es[k] := List.getElem?_eq_getElem (by omega)
    rw [cN_at hke, cN_at hke, hv, if_neg]
    intro z
    have := name_ix hnd hke he z
    omega
  have e2 : cN es (getD w') i = getD sp e.name + tk := by rw [cN_at he, hv, if_pos rfl]
  have e3 : cN es (getD sp) i = getD sp e.name := cN_at he _
  have e4 : fullN es d i = if e.parts = [] then 0 else fsS es (getD d) e.name := by
    show cN es _ i = _
    rw [cN_at he, fs_val S.beh hnd hm]
  have hp := h.pos
  have ft := ok.fits e hm
  have v := (S.vec ok i hil)
  rw [e3, e4] at v
  have key : 0 ≤ tk ∧ tk ≤ t ∧ getD sp e.name + tk ≤ fullN es d i ∧ (tk < t → getD sp e.name + tk = fullN es d i) ∧ (0 < tk → 0 < t) := by
    rw [e4]
    by_cases q : e.parts = []
    · rw [if_pos q] at htk ft
      rw [if_pos q]
      omega
    · rw [if_neg q] at htk ft v
      rw [if_neg q]
      have low : getD sp e.name ≤ getD d e.name + amt (incs (es.take i) (getD w)) e.name := by
        have h1 := ft.2
        rw [pn_at, incs_take S.beh hnd he] at h1
        have h2 := incs_le (f := getD sp) (g := getD w) (x := e.name) (es := es.take i) fun x hx => by
          obtain ⟨k, hk, hkx⟩ := name_take hx
          have := h.lo k hk
          rw [cN_at hkx, cN_at hkx] at this
          exact this
        omega
      by_cases t0' : 0 < t
      · have fu : getD d e.name + amt (incs (es.take i) (getD w)) e.name = fsS es (getD d) e.name := by
          rw [← incs_take S.beh hnd he]
          refine full_at S.beh hnd he fun k x hk hx => ?_
          have := h.left t0' k hk
          rw [cN_at hx] at this
          rw [this]
          exact cN_at hx _
        rw [fu] at htk low
        split at htk <;> omega
      · split at htk <;> omega
  obtain ⟨k1, k2, k3, k4, k5⟩ := key
  refine ⟨nd, kn, by omega, ?_, fun k hk => ?_, fun k hk => ?_, fun z k hk => ?_, fun k m h1 h2 h3 => ?_⟩
  · show sumN (cN es (getD w')) i + cN es (getD w') i + (t - tk) = sumN (cN es (getD sp)) i + cN es (getD sp) i + t0
    have := h.sum
    rw [sumN_congr e1, e2, e3]
    omega
  · by_cases q : k = i
    · rw [q, e2, e3]
      omega
    · rw [e1 k (by omega)]
      exact h.lo k (by omega)
  · by_cases q : k = i
    · rw [q, e2]
      exact k3
    · rw [e1 k (by omega)]
      exact h.hi k (by omega)
  · by_cases q : k = i
    · rw [q, e2]
      exact k4 (by omega)
    · rw [e1 k (by omega)]
      exact h.left (by omega) k (by omega)
  · by_cases q : m = i
    · rw [q, e2, e3] at h3
      rw [e1 k (by omega)]
      exact h.left (k5 (by omega)) k (by omega)
    · rw [e1 m (by omega)] at h3
      rw [e1 k (by omega)]
      exact h.full k m h1 (by omega) h3
theorem AAt.done {es : List Ent} {d sp w : Num} {t0 t : Int} (S : Sit es es d) (ok : SplitsOk es d sp) (h : AAt es d sp t0 es.length w t) (h1 : (sp.map (·.2)).sum + t0 ≤ totI es d) : Fill es.length (fullN es d) (cN es (getD sp)) (cN es (getD w)) ∧ sumN (cN es (getD w)) es.length = (sp.map (·.2)).sum + t0 := by
  refine ⟨⟨fun i hi => ⟨?_, h.hi i hi⟩, h.lo, h.full⟩, ?_⟩
  · have := h.lo i hi
    have := (S.vec ok i hi).1
    omega
  · have hs := h.sum
    rw [S.sum ok] at hs
    have hp := h.pos
    by_cases q : 0 < t
    · have h2 := sumN_congr (h.left q)
      rw [S.tot] at h2
      omega
    · omega
end Sk
namespace Sk
open PySem PySem.Spec PyProof.Rows L2
abbrev s_splits_after : Stmt := topS 33
abbrev N_splits_after : List Str := ["entries", "stock", "splits", "times", "pieces", "found", "name", "weight", "parts", "part", "taken"]
theorem sc_splits_after : FnScope N_splits_after ["entries", "stock", "splits", "times"] (defScope s_splits_after) := ⟨rfl, rfl, rfl, by decide +kernel, rfl, by decide +kernel, by decide +kernel⟩
def sp_splits_after (Tb : List (Addr × Str)) (K : PySem.W.Frag) : Sp := fun vs H Q _ => ∃ (a b c : Addr) (xs : List V) (es : List Ent) (d sp : Num) (t : Int), vs = [.ref a, .ref b, .ref c, .int t] ∧ SqL K H a xs ∧ CatAt H xs es ∧ H b = some (.dK (dS d)) ∧ H c = some (.dK (dS sp)) ∧ Sit es es d ∧ SplitsOk es d sp ∧ 0 ≤ t ∧ (sp.map (·.2)).sum + t ≤ totI es d ∧
  ∀ r H' c', Fill es.length (fullN es d) (cN es (getD sp)) (cN es (getD c')) → sumN (cN es (getD c')) es.length = (sp.map (·.2)).sum + t → Gr Tb H H' → Nw H r → H' r = some (.dK (dS (cleanN es c'))) → Q (.ref r) H'

section
variable {P : Program} {w : World} {K : PySem.W.Frag} {mg : Str → Option Value} {base : Heap} {Tb : List (Addr × Str)}
theorem ok_splits_after {f : Addr} {fd : FuncData} (F : FnP K "splits_after" s_splits_after f fd) (T : Tx K mg) (G_clean : Fn P w K mg base "clean" 1 ["entries", "numbers"] (sp_clean Tb K)) : FnOk P w K mg base CX0 2 f fd ["entries", "stock", "splits", "times"] (sp_splits_after Tb K) := by
  refine F.ok sc_splits_after (fun vs H Q E h => ?_) (fun cdv A outer s H vs Q E hr h => ?_)
  · obtain ⟨_, _, _, _, _, _, _, _, rfl, _⟩ := h
    rfl
  · obtain ⟨a, b, c, xs, es, d, sp, t, rfl, ha, hc, hb, hsp, S, ok, t0, t1, k⟩ := h
    refine ⟨_, PSs.nox (pss_cons (ps_set (i := 4) sc_splits_after.nd rfl (Or.inl rfl) (pe_callTy call_dictD (by rfl) T.n_dict (by decide +kernel) (pa_cons (pv 1) pa_nil)))
      (pss_cons (ps_set (i := 5) sc_splits_after.nd rfl (Or.inl rfl) pe_dnewK)
      (pss_cons (ps_for PassesOwn.never rfl (piL (K := K) rfl (pv 0)) (pg_tup rfl (pgs_cons (pg_name (i := 6) sc_splits_after.nd rfl (Or.inl rfl)) (pgs_cons (pg_name (i := 7) sc_splits_after.nd rfl (Or.inl rfl)) (pgs_cons (pg_name (i := 8) sc_splits_after.nd rfl (Or.inl rfl)) pgs_nil)))) (pss_cons (ps_dput (hu_of hr) (pv 5) (pv 6) (pe_dget2 (hu_of hr) (pv 2) (pv 6) pe_int ⟨rfl, rfl, rfl, rfl⟩) rfl)
        (pss_cons (ps_if (pt_cmpR (opNeNil (K := K) rfl hr.units) (pv 8) (pe_lst pa_nil) (nomark _)) (pss_cons (ps_set (i := 10) sc_splits_after.nd rfl (Or.inl rfl) (pe_callB (call_min2 rfl) (by rfl) T.n_min (by decide +kernel) (pa_cons (pv 3) (pa_cons (pe_op op_sub (pe_dget2 (hu_of hr) (pv 4) (pv 6) pe_int ⟨rfl, rfl, rfl, rfl⟩) (pe_dget (hu_of hr) (pv 5) (pv 6) (fun _ _ => rfl))) pa_nil))))
          (pss_cons (ps_daug (hu_of hr) (pv 5) (pv 6) (pv 10) in_add (fun _ _ _ => rfl))
          (pss_one (ps_aug (i := 3) sc_splits_after.nd rfl (Or.inl rfl) (pv 10) ip_sub)))) pss_nil)
        (pss_one (ps_for PassesOwn.never rfl (piL (K := K) rfl (pv 8)) (pg_name (i := 9) sc_splits_after.nd rfl (Or.inl rfl)) (pss_one (ps_dput (hu_of hr) (pv 4) (pv 9) (pe_op op_add (pe_dget2 (hu_of hr) (pv 4) (pv 9) pe_int ⟨rfl, rfl, rfl, rfl⟩) (pe_dget (hu_of hr) (pv 5) (pv 6) (fun _ _ => rfl))) rfl)))))))
      (pss_one (ps_ret (pe_fn G_clean (hr.mono (by decide)) (pa_cons (pv 0) (pa_cons (pv 5) pa_nil)))))))), ?_⟩
    have hz := S.hz
    have hlen := Paired.len hc
    have hnd := S.v'.nodup
    refine ⟨_, rfl, b, _, rfl, .inl hb, fun W hW => ?_⟩
    have nW : Nw H W := .of hW
    have g1 : Gr Tb H (upd H W (.dK (dS d))) := Gr.new hW
    have hW1 : (upd H W (.dK (dS d))) W = some (.dK (dS d)) := upd_same
    generalize upd H W (.dK (dS d)) = H1 at g1 hW1
    intro F hF
    have nF : Nw H F := g1.nw (.of hF)
    have WF : W ≠ F := ne_of_none hW1 hF
    have g2 : Gr Tb H (upd H1 F (.dK [])) := g1.trans (Gr.new hF)
    have hW2 : (upd H1 F (.dK [])) W = some (.dK (dS d)) := by rw [upd_ne WF]; exact hW1
    have hF2 : (upd H1 F (.dK [])) F = some (.dK (dS [])) := upd_same
    generalize upd H1 F (.dK []) = H2 at g2 hW2 hF2
    refine ⟨_, rfl, a, rfl, ⟨_, g2.ext_seq ha⟩, for_list (K := K) (a := a) (xs := xs) (fun i σ H' => ∃ (p w : Num) (ti : Int) (s6 s7 s8 s9 s10 : Option V), σ = [some (.ref a), some (.ref b), some (.ref c), some (.int ti), some (.ref W), some (.ref F), s6, s7, s8, s9, s10] ∧ AAt es d sp t i w ti ∧ (p.map (·.1)).Nodup ∧ (∀ q ∈ p, q.1 ∈ es.map (·.name)) ∧ (∀ x, getD p x = getD d x + amt (incs (es.take i) (getD w)) x) ∧ Gr Tb H H' ∧ H' W = some (.dK (dS p)) ∧ H' F = some (.dK (dS w)))
      ⟨d, [], t, _, _, _, _, _, rfl, AAt.start es d sp t0, S.so.nd, S.so.known, fun x => ?_, g2, hW2, hF2⟩ (fun i σ H' _ ⟨_, _, _, _, _, _, _, _, _, _, _, _, _, g, _⟩ => g.ext_seq ha) ?_ ?_⟩
    · rw [List.take_zero]
      show getD d x = getD d x + 0
      omega
    · rintro i x σ H3 hx ⟨p, w, ti, s6, s7, s8, s9, s10, rfl, hA, pn, pk, pv, g3, hW3, hF3⟩
      obtain ⟨e, he, tt, lp, rfl, ht, hlp⟩ := Paired.at hc hx
      have hem := List.mem_of_getElem? he
      have hnm : e.name ∈ es.map (·.name) := List.mem_map.mpr ⟨e, hem, rfl⟩
      have hwl := hA.len
      have hsp3 := g3.at hsp .dK
      have hlp3 := g3.at hlp .lst
      -- the inner loop
      have step : ∀ (H4 : Hp) (w2 : Num) (tr : Int) (s10' : Option V), Gr Tb H H4 → H4 W = some (.dK (dS p)) → H4 F = some (.dK (dS w2)) → AAt es d sp t (i + 1) w2 tr → e.name ∈ w2.map (·.1) → (∀ x, x ≠ e.name → getD w2 x = getD w x) →
          tFor (iList K (tVar 8)) (gName 9) (sDPut (tVar 4) (tVar 9) (tOp (rI0 fun i j => V.int (i + j)) (tDGet2 (tVar 4) (tVar 9) (tC (V.int 0))) (tDGet (tVar 5) (tVar 6))))
            ⟨fun σ H' => ∃ (p w : Num) (ti : Int) (s6 s7 s8 s9 s10 : Option V), σ = [some (.ref a), some (.ref b), some (.ref c), some (.int ti), some (.ref W), some (.ref F), s6, s7, s8, s9, s10] ∧ AAt es d sp t (i + 1) w ti ∧ (p.map (·.1)).Nodup ∧ (∀ q ∈ p, q.1 ∈ es.map (·.name)) ∧ (∀ x, getD p x = getD d x + amt (incs (es.take (i + 1)) (getD w)) x) ∧ Gr Tb H H' ∧ H' W = some (.dK (dS p)) ∧ H' F = some (.dK (dS w)), Q,
              fun σ H' => tRet (tCall (sp_clean Tb K) [] E0 (tCons (tVar 0) (tCons (tVar 5) tNil))) { nx := fun _ H' => Q .non H', rt := Q } σ H', fun σ H' => ∃ (p w : Num) (ti : Int) (s6 s7 s8 s9 s10 : Option V), σ = [some (.ref a), some (.ref b), some (.ref c), some (.int ti), some (.ref W), some (.ref F), s6, s7, s8, s9, s10] ∧ AAt es d sp t (i + 1) w ti ∧ (p.map (·.1)).Nodup ∧ (∀ q ∈ p, q.1 ∈ es.map (·.name)) ∧ (∀ x, getD p x = getD d x + amt (incs (es.take (i + 1)) (getD w)) x) ∧ Gr Tb H H' ∧ H' W = some (.dK (dS p)) ∧ H' F = some (.dK (dS w))⟩
            [some (.ref a), some (.ref b), some (.ref c), some (.int tr), some (.ref W), some (.ref F), some (.str e.name), some (.int e.w), some (.ref lp), s9, s10'] H4 := by
        intro H4 w2 tr s10' g4 hW4 hF4 hA2 hkey hoth
        refine ⟨_, rfl, lp, rfl, ⟨_, SqL.of (g4.at hlp .lst)⟩, for_list (K := K) (a := lp) (xs := e.parts.map V.str) (fun j σ H' => ∃ (p2 : Num) (s9 : Option V), σ = [some (.ref a), some (.ref b), some (.ref c), some (.int tr), some (.ref W), some (.ref F), some (.str e.name), some (.int e.w), some (.ref lp), s9, s10'] ∧ PAt es p (e.parts.take j) (getD w2 e.name) p2 ∧ Gr Tb H H' ∧ H' W = some (.dK (dS p2)) ∧ H' F = some (.dK (dS w2)))
          ⟨p, _, rfl, PAt.start pn pk _, g4, hW4, hF4⟩ (fun j σ H' _ ⟨_, _, _, _, g, _⟩ => SqL.of (g.at hlp .lst)) ?_ ?_⟩
        · rintro j y σ H5 hy ⟨p2, s9, rfl, hpa, g5, hW5, hF5⟩
          rw [List.getElem?_map] at hy
          cases hq : e.parts[j]? with
          | none => rw [hq] at hy; cases hy
          | some q =>
            rw [hq] at hy
            cases hy
            have hqm : q ∈ es.map (·.name) := S.v'.known e hem q (List.mem_of_getElem? hq)
            have hl2 := hpa.len
            refine ⟨_, rfl, W, rfl, IsD.num hW5, _, rfl, _, dgetO hW5 q, ?_⟩
            rw [getO]
            refine ⟨_, rfl, _, rfl, F, _, rfl, dgetS hF5 (get?_has hkey), _, _, rfl, rfl, _, rfl, _, rfl, W, _, rfl, dputS hW5 (by rw [sizeLine_eq]; omega), put p2 q (getD p2 q + getD w2 e.name), _, rfl, ?_, g5.mut nW hW5 .dK, upd_same, by rw [upd_ne WF.symm]; exact hF5⟩
            rw [take_snoc hq]
            exact hpa.step hqm
        · rintro σ H5 ⟨p2, s9, rfl, hpa, g5, hW5, hF5⟩
          rw [List.length_map, List.take_length] at hpa
          refine ⟨p2, w2, _, _, _, _, _, _, rfl, hA2, hpa.nd, hpa.known, fun x => ?_, g5, hW5, hF5⟩
          have hn : ¬ e.name ∈ (es.take i).map (·.name) := take_notin hnd he
          have ec : incs (es.take i) (getD w2) = incs (es.take i) (getD w) := incs_congr fun y hy => hoth _ fun z => hn (z ▸ List.mem_map.mpr ⟨y, hy, rfl⟩)
          rw [hpa.val, pv, incs_snoc he, amt_append, ec]
          omega
      refine gtup3 (g3.at ht .tup) ?_
      refine ⟨_, rfl, c, rfl, IsD.num hsp3, _, rfl, _, dgetO hsp3 e.name, ?_⟩
      rw [getO]
      refine ⟨_, rfl, _, rfl, F, _, rfl, dputS hF3 (by rw [sizeLine_eq]; omega), ?_⟩
      obtain ⟨q1, q2, q3⟩ := put_ok hA.nd hA.known hnm (getD sp e.name)
      have hoth : ∀ x, x ≠ e.name → getD (put w e.name (getD sp e.name)) x = getD w x := fun x z => by rw [getD_put, if_neg z]
      have hself : get? (put w e.name (getD sp e.name)) e.name = some (getD sp e.name) := by rw [get?_put, if_pos rfl]
      have hkey1 : e.name ∈ (put w e.name (getD sp e.name)).map (·.1) := (put_keys w e.name e.name _).mpr (.inl rfl)
      generalize put w e.name (getD sp e.name) = w1 at q1 q2 q3 hoth hself hkey1
      have hself' : getD w1 e.name = getD sp e.name := by unfold getD; rw [hself]; rfl
      have g4 : Gr Tb H (upd H3 F (.dK (dS w1))) := g3.mut nF hF3 .dK
      have hW4 : (upd H3 F (.dK (dS w1))) W = some (.dK (dS p)) := by rw [upd_ne WF]; exact hW3
      have hF4 : (upd H3 F (.dK (dS w1))) F = some (.dK (dS w1)) := upd_same
      generalize upd H3 F (.dK (dS w1)) = H4 at g4 hW4 hF4
      refine ⟨_, rfl, rd_nil (SqL.of (g4.at hlp .lst)) fun pn hpn => ⟨_, rfl, ?_⟩⟩
      have gp : Gr Tb H4 (upd H4 pn (.lst [])) := Gr.new hpn
      have g5 := g4.trans gp
      have hW5 := gp.at hW4 .dK
      have hF5 := gp.at hF4 .dK
      generalize upd H4 pn (.lst []) = H5 at g5 hW5 hF5
      cases hps : e.parts with
      | nil =>
        refine step H5 w1 ti _ g5 hW5 hF5 ?_ hkey1 hoth
        have := hA.step (tk := 0) S ok he q1 q2 (by rw [if_pos hps]) fun x => by
          by_cases z : x = e.name
          · rw [if_pos z, z, hself']
            omega
          · rw [if_neg z, hoth x z]
        rw [show ti - 0 = ti by omega] at this
        exact this
      | cons p0 ps =>
        have ne : e.parts ≠ [] := by rw [hps]; simp
        refine ⟨_, rfl, _, rfl, W, rfl, IsD.num hW5, _, rfl, _, dgetO hW5 e.name, ?_⟩
        rw [getO]
        refine ⟨_, rfl, _, rfl, F, _, rfl, dgetS hF5 hself, ?_⟩
        refine ⟨_, _, rfl, rfl, _, _, rfl, ?_⟩
        obtain ⟨tk, htk⟩ : ∃ tk : Int, tk = if getD p e.name - getD sp e.name < ti then getD p e.name - getD sp e.name else ti := ⟨_, rfl⟩
        rw [← htk]
        rw [pv] at htk
        obtain ⟨r1, r2, _⟩ := put_ok q1 q2 hnm (getD sp e.name + tk)
        refine ⟨_, rfl, _, rfl, F, _, rfl, dgetS hF5 hself, _, rfl, _, _, rfl, rfl, _, dputS hF5 (by rw [sizeLine_eq]; omega), ?_⟩
        refine ⟨_, rfl, _, rfl, _, _, rfl, rfl, ?_⟩
        refine step _ (put w1 e.name (getD sp e.name + tk)) (ti - tk) _ (g5.mut nF hF5 .dK) ?_ upd_same ?_ ((put_keys w1 e.name e.name _).mpr (.inl rfl)) fun x z => by rw [getD_put, if_neg z, hoth x z]
        · rw [upd_ne WF]
          exact hW5
        · exact hA.step S ok he r1 r2 (by rw [if_neg ne]; exact htk) fun x => by
            rw [getD_put]
            by_cases z : x = e.name
            · rw [if_pos z, if_pos z]
            · rw [if_neg z, if_neg z, hoth x z]
    · rintro σ H3 ⟨p, w, ti, s6, s7, s8, s9, s10, rfl, hA, pn, pk, pv, g3, hW3, hF3⟩
      rw [hlen] at hA
      obtain ⟨f1, f2⟩ := hA.done S ok t1
      exact ⟨_, rfl, _, rfl, a, F, xs, es, w, rfl, g3.ext_seq ha, CatAt.gr g3 hc, hF3, hnd, by omega, fun r H4 g4 nr hr => k r H4 w f1 f2 (g3.trans g4) (g3.nw nr) hr⟩
end
end Sk
namespace Sk
open PySem PySem.Spec PyProof.Rows L2
theorem sumN_upd {c c' : Nat → Int} {j : Nat} : ∀ {n : Nat}, j < n → (∀ k, k < n → k ≠ j → c' k = c k) → sumN c' n = sumN c n + (c' j - c j)
  | 0, h, _ => absurd h (Nat.not_lt_zero _)
  | n + 1, h, e => by
    show sumN c' n + c' n = sumN c n + c n + (c' j - c j)
    by_cases q : j = n
    · subst q
      rw [sumN_congr fun k hk => e k (by omega) (by omega)]
      omega
    · rw [sumN_upd (n := n) (by omega) fun k hk z => e k (by omega) z, e n (by omega) fun z => q z.symm]
      omega
/-- splits so far from behind, and how many are left -/
structure BAt (es : List Ent) (sp : Num) (t0 : Int) (i : Nat) (w : Num) (t : Int) : Prop where
  nd : (w.map (·.1)).Nodup
  known : ∀ q ∈ w, q.1 ∈ es.map (·.name)
  pos : 0 ≤ t
  sum : sumN (cN es (getD w)) es.length + t0 = sumN (cN es (getD sp)) es.length + t
  out : ∀ k, k + i < es.length → cN es (getD w) k = cN es (getD sp) k
  nn : ∀ k, k < es.length → 0 ≤ cN es (getD w) k
  le : ∀ k, k < es.length → cN es (getD w) k ≤ cN es (getD sp) k
  left : 0 < t → ∀ k, es.length ≤ k + i → k < es.length → cN es (getD w) k = 0
  zero : ∀ m k, m < k → k < es.length → cN es (getD w) m < cN es (getD sp) m → cN es (getD w) k = 0
theorem BAt.len {es : List Ent} {sp w : Num} {t0 t : Int} {i : Nat} (h : BAt es sp t0 i w t) : w.length ≤ es.length := by
  have h1 := nodup_len (m := es.map (·.name)) h.nd fun y hy => by
    obtain ⟨q, hq, rfl⟩ := List.mem_map.mp hy
    exact h.known q hq
  rw [List.length_map, List.length_map] at h1
  exact h1
theorem BAt.start {es : List Ent} {sp : Num} {t0 : Int} (h : 0 ≤ t0) (nd : (sp.map (·.1)).Nodup) (kn : ∀ q ∈ sp, q.1 ∈ es.map (·.name)) (h0 : ∀ e ∈ es, 0 ≤ getD sp e.name) : BAt es sp t0 0 sp t0 := ⟨nd, kn, h, rfl, fun _ _ => rfl, fun k hk => by
  have hke : es[k]? = some es[k] := List.getElem?_eq_getElem (by omega)
  rw [cN_at hke]
  exact h0 _ (List.mem_of_getElem? hke), fun _ _ => Int.le_refl _, fun _ k h1 h2 => by omega, fun _ _ _ _ h => absurd h (Int.lt_irrefl _)⟩
theorem BAt.step {es : List Ent} {sp w : Num} {t0 t u : Int} {i : Nat} {e : Ent} (hnd : (es.map (·.name)).Nodup) (h : BAt es sp t0 i w t) (hi : i < es.length) (he : es[es.length - 1 - i]? = some e) (hu : u = if getD w e.name < t then getD w e.name else t) : BAt es sp t0 (i + 1) (put w e.name (getD w e.name - u)) (t - u) := by
  have hm := List.mem_of_getElem? he
  obtain ⟨p1, p2, _⟩ := put_ok h.nd h.known (List.mem_map.mpr ⟨e, hm, rfl⟩) (getD w e.name - u)
  obtain ⟨j, hj⟩ : ∃ j, j = es.length - 1 - i := ⟨_, rfl⟩
  rw [← hj] at he
  have hjl := (List.getElem?_eq_some_iff.mp he).1
  have e1 : ∀ k, k < es.length → k ≠ j → cN es (getD (put w e.name (getD w e.name - u))) k = cN es (getD w) k := fun k hk z => by
    have hke : es[k]? = some es[k] := List.getElem?_eq_getElem (by omega)
    rw [cN_at hke, cN_at hke, getD_put, if_neg]
    exact fun y => z (name_ix hnd hke he y)
  have e2 : cN es (getD (put w e.name (getD w e.name - u))) j = cN es (getD w) j - u := by rw [cN_at he, cN_at he, getD_put, if_pos rfl]
  have e3 : getD w e.name = cN es (getD w) j := (cN_at he _).symm
  rw [e3] at hu
  generalize put w e.name (getD w e.name - u) = w' at p1 p2 e1 e2
  have a1 := h.nn j hjl
  have a2 := h.le j hjl
  have a3 := h.pos
  have key : 0 ≤ u ∧ u ≤ t ∧ u ≤ cN es (getD w) j ∧ (u < t → u = cN es (getD w) j) ∧ (0 < u → 0 < t) := by split at hu <;> omega
  obtain ⟨k1, k2, k3, k4, k5⟩ := key
  have a4 := h.out j (by omega)
  refine ⟨p1, p2, by omega, ?_, fun k hk => ?_, fun k hk => ?_, fun k hk => ?_, fun z k h1 h2 => ?_, fun m k h1 h2 h3 => ?_⟩
  · rw [sumN_upd hjl e1, e2]
    have := h.sum
    omega
  · rw [e1 k (by omega) (by omega)]
    exact h.out k (by omega)
  · by_cases q : k = j
    · rw [q, e2]
      omega
    · rw [e1 k hk q]
      exact h.nn k hk
  · by_cases q : k = j
    · rw [q, e2]
      omega
    · rw [e1 k hk q]
      exact h.le k hk
  · by_cases q : k = j
    · rw [q, e2]
      have := k4 (by omega)
      omega
    · rw [e1 k h2 q]
      exact h.left (by omega) k (by omega) h2
  · by_cases q : m = j
    · rw [q, e2] at h3
      rw [e1 k h2 (by omega)]
      exact h.left (k5 (by omega)) k (by omega) h2
    · rw [e1 m (by omega) q] at h3
      have h4 := h.zero m k h1 h2 h3
      by_cases q2 : k = j
      · rw [q2] at h4
        rw [q2, e2]
        omega
      · rw [e1 k h2 q2]
        exact h4
theorem BAt.done {es : List Ent} {sp w : Num} {t0 t : Int} (h : BAt es sp t0 es.length w t) (h1 : t0 ≤ sumN (cN es (getD sp)) es.length) : Drain es.length (cN es (getD sp)) (cN es (getD w)) ∧ sumN (cN es (getD w)) es.length = sumN (cN es (getD sp)) es.length - t0 := by
  refine ⟨⟨h.nn, h.le, h.zero⟩, ?_⟩
  have hs := h.sum
  have hp := h.pos
  by_cases q : 0 < t
  · have h2 : sumN (cN es (getD w)) es.length = sumN (fun _ => 0) es.length := sumN_congr fun k hk => h.left q k (by omega) hk
    have h3 : ∀ n, sumN (fun _ => 0) n = 0 := fun n => by
      induction n with
      | zero => rfl
      | succ n ih =>
        show sumN (fun _ => 0) n + 0 = 0
        rw [ih]
        rfl
    rw [h3] at h2
    omega
  · omega
end Sk
namespace Sk
open PySem PySem.Spec PyProof.Rows L2
abbrev s_splits_before : Stmt := topS 34
abbrev N_splits_before : List Str := ["entries", "splits", "times", "found", "name", "weight", "parts", "undone"]
theorem sc_splits_before : FnScope N_splits_before ["entries", "splits", "times"] (defScope s_splits_before) := ⟨rfl, rfl, rfl, by decide +kernel, rfl, by decide +kernel, by decide +kernel⟩
def sp_splits_before (Tb : List (Addr × Str)) (K : PySem.W.Frag) : Sp := fun vs H Q _ => ∃ (a c : Addr) (xs : List V) (es : List Ent) (sp : Num) (t : Int), vs = [.ref a, .ref c, .int t] ∧ SqL K H a xs ∧ CatAt H xs es ∧ H c = some (.dK (dS sp)) ∧ Valid es ∧ es.length < 64 ∧ (sp.map (·.1)).Nodup ∧ (∀ q ∈ sp, q.1 ∈ es.map (·.name)) ∧ (∀ e ∈ es, 0 ≤ getD sp e.name) ∧ 0 ≤ t ∧ t ≤ (sp.map (·.2)).sum ∧
  ∀ r H' c', Drain es.length (cN es (getD sp)) (cN es (getD c')) → sumN (cN es (getD c')) es.length = (sp.map (·.2)).sum - t → Gr Tb H H' → Nw H r → H' r = some (.dK (dS (cleanN es c'))) → Q (.ref r) H'

section
variable {P : Program} {w : World} {K : PySem.W.Frag} {mg : Str → Option Value} {base : Heap} {Tb : List (Addr × Str)}
theorem ok_splits_before {f : Addr} {fd : FuncData} (F : FnP K "splits_before" s_splits_before f fd) (T : Tx K mg) (G_clean : Fn P w K mg base "clean" 1 ["entries", "numbers"] (sp_clean Tb K)) : FnOk P w K mg base CX0 2 f fd ["entries", "splits", "times"] (sp_splits_before Tb K) := by
  refine F.ok sc_splits_before (fun vs H Q E h => ?_) (fun cdv A outer s H vs Q E hr h => ?_)
  · obtain ⟨_, _, _, _, _, _, rfl, _⟩ := h
    rfl
  · obtain ⟨a, c, xs, es, sp, t, rfl, ha, hc, hsp, hv, hz, hdn, hdk, h0, t0, t1, k⟩ := h
    refine ⟨_, PSs.nox (pss_cons (ps_set (i := 3) sc_splits_before.nd rfl (Or.inl rfl) (pe_callTy call_dictD (by rfl) T.n_dict (by decide +kernel) (pa_cons (pv 1) pa_nil)))
      (pss_cons (ps_for PassesOwn.never rfl (piRev (K := K) rfl (by rfl) T.n_reversed (pa_cons (pv 0) pa_nil)) (pg_tup rfl (pgs_cons (pg_name (i := 4) sc_splits_before.nd rfl (Or.inl rfl)) (pgs_cons (pg_name (i := 5) sc_splits_before.nd rfl (Or.inl rfl)) (pgs_cons (pg_name (i := 6) sc_splits_before.nd rfl (Or.inl rfl)) pgs_nil)))) (pss_cons (ps_set (i := 7) sc_splits_before.nd rfl (Or.inl rfl) (pe_callB (call_min2 rfl) (by rfl) T.n_min (by decide +kernel) (pa_cons (pv 2) (pa_cons (pe_dget2 (hu_of hr) (pv 3) (pv 4) pe_int ⟨rfl, rfl, rfl, rfl⟩) pa_nil))))
        (pss_cons (ps_dput (hu_of hr) (pv 3) (pv 4) (pe_op op_sub (pe_dget2 (hu_of hr) (pv 3) (pv 4) pe_int ⟨rfl, rfl, rfl, rfl⟩) (pv 7)) rfl)
        (pss_one (ps_aug (i := 2) sc_splits_before.nd rfl (Or.inl rfl) (pv 7) ip_sub)))))
      (pss_one (ps_ret (pe_fn G_clean (hr.mono (by decide)) (pa_cons (pv 0) (pa_cons (pv 3) pa_nil))))))), ?_⟩
    have hlen := Paired.len hc
    have hnd := hv.nodup
    have hsum : sumN (cN es (getD sp)) es.length = (sp.map (·.2)).sum := by rw [sumN_cN, sumE_getD hnd hdn hdk]
    refine ⟨_, rfl, c, _, rfl, .inl hsp, fun F hF => ?_⟩
    have nF : Nw H F := .of hF
    have g1 : Gr Tb H (upd H F (.dK (dS sp))) := Gr.new hF
    have hF1 : (upd H F (.dK (dS sp))) F = some (.dK (dS sp)) := upd_same
    generalize upd H F (.dK (dS sp)) = H1 at g1 hF1
    refine ⟨_, rfl, a, xs, rfl, g1.ext_seq ha, for_it (walk_rev (xs := xs)) (fun i σ H' => ∃ (w : Num) (ti : Int) (s4 s5 s6 s7 : Option V), σ = [some (.ref a), some (.ref c), some (.int ti), some (.ref F), s4, s5, s6, s7] ∧ BAt es sp t i w ti ∧ Gr Tb H H' ∧ H' F = some (.dK (dS w)))
      ⟨sp, t, _, _, _, _, rfl, BAt.start t0 hdn hdk h0, g1, hF1⟩ (fun i σ H' _ ⟨_, _, _, _, _, _, _, _, g, _⟩ => g.ext_seq ha) ?_ ?_⟩
    · rintro i x σ H3 H3' hi ⟨w, ti, s4, s5, s6, s7, rfl, hB, g3, hF3⟩ ⟨rfl, hx⟩
      rw [hlen] at hx hi
      obtain ⟨e, he, tt, lp, rfl, ht, hlp⟩ := Paired.at hc hx
      have hwl := hB.len
      refine gtup3 (g3.at ht .tup) ?_
      refine ⟨_, rfl, _, rfl, F, rfl, IsD.num hF3, _, rfl, _, dgetO hF3 e.name, ?_⟩
      rw [getO]
      refine ⟨_, _, rfl, ?_⟩
      obtain ⟨u, hu⟩ : ∃ u : Int, u = if getD w e.name < ti then getD w e.name else ti := ⟨_, rfl⟩
      rw [← hu]
      refine ⟨_, rfl, F, rfl, IsD.num hF3, _, rfl, _, dgetO hF3 e.name, ?_⟩
      rw [getO]
      refine ⟨_, rfl, _, _, rfl, rfl, _, rfl, _, rfl, F, _, rfl, dputS hF3 (by rw [sizeLine_eq]; omega), ?_⟩
      exact ⟨_, rfl, _, rfl, _, _, rfl, rfl, _, _, _, _, _, _, rfl, hB.step hnd hi he hu, g3.mut nF hF3 .dK, upd_same⟩
    · rintro σ H3 ⟨w, ti, s4, s5, s6, s7, rfl, hB, g3, hF3⟩
      rw [hlen] at hB
      obtain ⟨f1, f2⟩ := hB.done (by rw [hsum]; exact t1)
      rw [hsum] at f2
      exact ⟨_, rfl, _, rfl, a, F, xs, es, w, rfl, g3.ext_seq ha, CatAt.gr g3 hc, hF3, hnd, by omega, fun r H4 g4 nr hr => k r H4 w f1 f2 (g3.trans g4) (g3.nw nr) hr⟩
end
end Sk
namespace Sk
open PySem PySem.Spec PyProof.Rows L2
/-- a store: entries in order, stock, splits -/
structure StAt (K : PySem.W.Frag) (H : Hp) (s dx a b e : Addr) (ys : List V) (es : List Ent) (d c : Num) : Prop where
  obj : H s = some (.ins (stC K) dx (stF a b e))
  en : H a = some (.lst ys)
  cat : CatAt H ys es
  st : H b = some (.dK (dS d))
  sp : H e = some (.dK (dS c))
theorem StAt.gr {Tb : List (Addr × Str)} {K : PySem.W.Frag} {H H' : Hp} {s dx a b e : Addr} {ys : List V} {es : List Ent} {d c : Num} (h : StAt K H s dx a b e ys es d c) (g : Gr Tb H H') : StAt K H' s dx a b e ys es d c := ⟨g.at h.obj .ins, g.at h.en .lst, CatAt.gr g h.cat, g.at h.st .dK, g.at h.sp .dK⟩
/-- what a store holds -/
structure StOk (es : List Ent) (d c : Num) : Prop where
  sit : Sit es es d
  ok : SplitsOk es d c
  nz : ∀ q ∈ c, q.2 ≠ 0
def optN : Option Str → V
  | none => .non
  | some x => .str x
/-- the entries with their parts in order -/
def SameC (es es2 : List Ent) : Prop := Paired (fun e e2 : Ent => e2.name = e.name ∧ e2.w = e.w ∧ e2.parts.Perm e.parts ∧ PyProof.Rows.sortedS e2.parts = true) es es2
end Sk
namespace Sk
open PySem PySem.Spec PyProof.Rows L2
theorem amt_permS {l l' : Num} (p : l'.Perm l) (x : Str) : amt l' x = amt l x := by
  unfold amt
  induction p with
  | nil => rfl
  | cons y _ ih => rw [List.map_cons, List.map_cons, List.sum_cons, List.sum_cons, ih]
  | swap y z _ =>
    rw [List.map_cons, List.map_cons, List.map_cons, List.map_cons, List.sum_cons, List.sum_cons, List.sum_cons, List.sum_cons]
    omega
  | trans _ _ i1 i2 => rw [i1, i2]
section
variable {es es2 : List Ent}
theorem SameC.names (s : SameC es es2) : es2.map (·.name) = es.map (·.name) := by
  induction s with
  | nil => rfl
  | cons h _ ih => rw [List.map_cons, List.map_cons, ih, h.1]
theorem SameC.keys (s : SameC es es2) : es2.map Ent.key = es.map Ent.key := by
  induction s with
  | nil => rfl
  | cons h _ ih =>
    rw [List.map_cons, List.map_cons, ih]
    unfold Ent.key
    rw [h.1, h.2.1]
theorem SameC.len (s : SameC es es2) : es2.length = es.length := (Paired.len s).symm
theorem same_addAll {l l' : List Str} (p : l'.Perm l) (f : Str → Int) (c : Int) : addAll f (l'.map fun p => (p, c)) = addAll f (l.map fun p => (p, c)) := by
  funext x
  rw [addAll_at, addAll_at, amt_permS (p.map _)]
theorem SameC.fs (s : SameC es es2) : ∀ f, fs es2 f = Sk.fs es f := by
  induction s with
  | nil => exact fun _ => rfl
  | @cons a b as bs h _ ih =>
    intro f
    obtain ⟨h1, h2, h3, h4⟩ := h
    rw [fs_cons, fs_cons, ih, h1, same_addAll h3]
    by_cases q : a.parts = []
    · rw [if_pos q, if_pos (by rw [q] at h3; exact List.perm_nil.mp h3)]
    · rw [if_neg q, if_neg fun z => q (by rw [z] at h3; exact List.nil_perm.mp h3)]
theorem SameC.incs (s : SameC es es2) (f : Str → Int) (x : Str) : amt (incs es2 f) x = amt (Sk.incs es f) x := by
  induction s with
  | nil => rfl
  | cons h _ ih =>
    rw [incs_cons, incs_cons, amt_append, amt_append, ih, h.1, amt_permS (h.2.2.1.map _)]
theorem SameC.cN (s : SameC es es2) (f : Str → Int) : cN es2 f = Sk.cN es f := by
  funext i
  unfold Sk.cN
  have h : (es2.map (·.name))[i]? = (es.map (·.name))[i]? := by rw [s.names]
  rw [List.getElem?_map, List.getElem?_map] at h
  cases h1 : es2[i]? with
  | none =>
    cases h2 : es[i]? with
    | none => rfl
    | some e => rw [h1, h2] at h; cases h
  | some e2 =>
    cases h2 : es[i]? with
    | none => rw [h1, h2] at h; cases h
    | some e =>
      rw [h1, h2] at h
      have : e2.name = e.name := Option.some.inj h
      show f e2.name = f e.name
      rw [this]
theorem SameC.whole (s : SameC es es2) (f b : Str → Int) : wholeF es2 f b = wholeF es f b := by
  funext x
  unfold wholeF
  rw [s.incs]
theorem SameC.clean (s : SameC es es2) {a b : Num} (h : ∀ e ∈ es, getD a e.name = getD b e.name) : cleanN es2 a = cleanN es b := by
  unfold cleanN
  induction s with
  | nil => rfl
  | @cons x y xs ys hx _ ih =>
    have h1 := h x (List.mem_cons_self ..)
    rw [List.filter_cons, List.filter_cons, hx.1, h1]
    have ih' := ih fun e he => h e (List.mem_cons_of_mem _ he)
    split
    · rw [List.map_cons, List.map_cons, ih', hx.1, h1]
    · exact ih'
theorem SameC.find (s : SameC es es2) {p p2 : Ent → Bool} (h : ∀ e e2 : Ent, e2.name = e.name ∧ e2.w = e.w ∧ e2.parts.Perm e.parts ∧ PyProof.Rows.sortedS e2.parts = true → p2 e2 = p e) : (es2.find? p2).map (·.name) = (es.find? p).map (·.name) := by
  induction s with
  | nil => rfl
  | @cons x y xs ys hx _ ih =>
    rw [List.find?_cons, List.find?_cons, h x y hx]
    cases p x with
    | true =>
      show some y.name = some x.name
      rw [hx.1]
    | false => exact ih
theorem SameC.filter (s : SameC es es2) {p p2 : Ent → Bool} (h : ∀ e e2 : Ent, e2.name = e.name ∧ e2.w = e.w ∧ e2.parts.Perm e.parts ∧ PyProof.Rows.sortedS e2.parts = true → p2 e2 = p e) : (es2.filter p2).map (·.name) = (es.filter p).map (·.name) := by
  induction s with
  | nil => rfl
  | @cons x y xs ys hx _ ih =>
    rw [List.filter_cons, List.filter_cons, h x y hx]
    cases p x with
    | true =>
      rw [if_pos rfl, if_pos rfl, List.map_cons, List.map_cons, ih, hx.1]
    | false =>
      rw [if_neg Bool.false_ne_true, if_neg Bool.false_ne_true]
      exact ih
theorem SameC.nil_iff {e e2 : Ent} (h : e2.parts.Perm e.parts) : decide (e2.parts ≠ []) = decide (e.parts ≠ []) := by
  by_cases q : e.parts = []
  · rw [q] at h
    rw [List.perm_nil.mp h, q]
  · rw [decide_eq_true (show e.parts ≠ [] from q), decide_eq_true]
    intro z
    rw [z] at h
    exact q (List.nil_perm.mp h)
theorem SameC.next (s : SameC es es2) (f b : Str → Int) : (es2.find? (splitB es2 f b)).map (·.name) = (es.find? (splitB es f b)).map (·.name) := s.find fun e e2 h => by
  unfold splitB
  rw [SameC.nil_iff h.2.2.1, s.whole, h.1]
theorem SameC.last (s : SameC es es2) (c : Str → Int) : (lastF es2 c).map (·.name) = (lastF es c).map (·.name) := by
  have h := s.filter (p := fun e => decide (0 < c e.name)) (p2 := fun e => decide (0 < c e.name)) fun e e2 h => by rw [h.1]
  unfold lastF
  rw [← List.getLast?_map, ← List.getLast?_map, h]
theorem SameC.valid (s : SameC es es2) (v : Valid es) : Valid es2 := by
  refine ⟨fun z => ?_, fun e he => ?_, ?_, fun e he => ?_, fun e he p hp => ?_, ?_, fun e he => ?_⟩
  · rw [z] at s
    cases s
    exact v.ne rfl
  · obtain ⟨x, hx, h⟩ := Paired.right s he
    rw [h.1]
    exact v.names x hx
  · rw [s.names]
    exact v.nodup
  · obtain ⟨x, hx, h⟩ := Paired.right s he
    rw [h.2.1]
    exact v.pos x hx
  · obtain ⟨x, hx, h⟩ := Paired.right s he
    obtain ⟨x', hx', h1, h2⟩ := v.lighter x hx p (h.2.2.1.mem_iff.mp hp)
    obtain ⟨y, hy, k⟩ := Paired.left s hx'
    exact ⟨y, hy, by rw [k.1, h1], by rw [k.2.1, h.2.1]; exact h2⟩
  · rw [s.len]
    exact v.few
  · obtain ⟨x, hx, h⟩ := Paired.right s he
    rw [h.2.2.1.length_eq]
    exact v.fewp x hx
theorem ordered_keys {a b : List Ent} (h : a.map Ent.key = b.map Ent.key) (o : Ordered b) : Ordered a := by
  have h1 : ∀ l : List Ent, Ordered l ↔ (l.map Ent.key).Pairwise fun x y => kLt y x = false := fun l => by
    unfold Ordered
    rw [List.pairwise_map]
  rw [h1, h, ← h1]
  exact o
theorem SameC.ordered (s : SameC es es2) (o : Ordered es) : Ordered es2 := ordered_keys s.keys o
end
/-- what clean leaves -/
theorem getD_clean {es : List Ent} (nd : (es.map (·.name)).Nodup) (c : Num) {e : Ent} (he : e ∈ es) : getD (cleanN es c) e.name = getD c e.name := by
  have h := clean_get nd c he
  by_cases z : getD c e.name ≠ 0
  · rw [if_pos z] at h
    show (get? (cleanN es c) e.name).getD 0 = _
    rw [h]
    rfl
  · rw [if_neg z] at h
    show (get? (cleanN es c) e.name).getD 0 = _
    rw [h]
    exact (Decidable.not_not.mp z).symm
theorem getD_cleanF {es : List Ent} (nd : (es.map (·.name)).Nodup) {c : Num} (hk : ∀ q ∈ c, q.1 ∈ es.map (·.name)) : getD (cleanN es c) = getD c := by
  funext x
  by_cases hx : x ∈ es.map (·.name)
  · obtain ⟨e, he, rfl⟩ := List.mem_map.mp hx
    exact getD_clean nd c he
  · rw [getD_none fun z => ?_, getD_none fun z => ?_]
    · obtain ⟨q, hq, rfl⟩ := List.mem_map.mp z
      exact hx (hk q hq)
    · obtain ⟨q, hq, rfl⟩ := List.mem_map.mp z
      unfold cleanN at hq
      obtain ⟨e, he, rfl⟩ := List.mem_map.mp hq
      exact hx (List.mem_map.mpr ⟨e, (List.mem_filter.mp he).1, rfl⟩)
theorem clean_known (es : List Ent) (c : Num) : ∀ q ∈ cleanN es c, q.1 ∈ es.map (·.name) := fun q hq => by
  unfold cleanN at hq
  obtain ⟨e, he, rfl⟩ := List.mem_map.mp hq
  exact List.mem_map.mpr ⟨e, (List.mem_filter.mp he).1, rfl⟩
theorem clean_nz (es : List Ent) (c : Num) : ∀ q ∈ cleanN es c, q.2 ≠ 0 := fun q hq => by
  unfold cleanN at hq
  obtain ⟨e, he, rfl⟩ := List.mem_map.mp hq
  exact of_decide_eq_true (List.mem_filter.mp he).2
theorem clean_len (es : List Ent) (c : Num) : (cleanN es c).length ≤ es.length := by
  unfold cleanN
  rw [List.length_map]
  exact List.length_filter_le _ _
/-- a stock and splits, cleaned -/
theorem StockOk.clean {es es2 : List Ent} {d : Num} (v : Valid es2) (hz : es2.length < 64) (h : ∀ q ∈ d, 0 ≤ q.2) : StockOk es2 (cleanN es2 d) := by
  have := clean_len es2 d
  refine ⟨clean_nodup v.nodup, by omega, clean_known es2 d, fun q hq => ?_⟩
  obtain ⟨e, he, hn⟩ := List.mem_map.mp (clean_known es2 d q hq)
  have h1 := getD_mem (clean_nodup v.nodup) hq
  rw [← hn, getD_clean v.nodup d he] at h1
  rw [← h1]
  exact getD_pos h _
theorem StOk.make {es es' es2 : List Ent} {d sp : Num} (hv : Valid es) (hz : es.length < 64) (so : StockOk es d) (ok : SplitsOk es d sp) (hp : es'.Perm es) (ho : Ordered es') (s : SameC es' es2) : StOk es2 (cleanN es2 d) (cleanN es2 sp) := by
  have v2 := s.valid (hv.perm hp)
  have nm : ∀ x, x ∈ es.map (·.name) → x ∈ es2.map (·.name) := fun x hx => by
    rw [s.names]
    exact (hp.map _).mem_iff.mpr hx
  have hz2 : es2.length < 64 := by rw [s.len, hp.length_eq]; exact hz
  have hl := clean_len es2 sp
  have ed : getD (cleanN es2 d) = getD d := getD_cleanF v2.nodup fun q hq => nm _ (so.known q hq)
  have es_ : getD (cleanN es2 sp) = getD sp := getD_cleanF v2.nodup fun q hq => nm _ (ok.known q hq)
  refine ⟨⟨v2, List.Perm.refl _, s.ordered ho, StockOk.clean (es := es2) v2 hz2 so.pos, hz2⟩, ⟨clean_nodup v2.nodup, by omega, clean_known es2 sp, fun e2 he2 => ?_⟩, clean_nz es2 sp⟩
  obtain ⟨e, he, h1, h2, h3, h4⟩ := Paired.right s he2
  have f := ok.fits e (hp.mem_iff.mp he)
  rw [pn_at, es_, ed, h1, s.incs]
  rw [← pn_perm hp, pn_at] at f
  by_cases q : e.parts = []
  · rw [if_pos q] at f
    rw [if_pos (by rw [q] at h3; exact List.perm_nil.mp h3)]
    exact f
  · rw [if_neg q] at f
    rw [if_neg fun z => q (by rw [z] at h3; exact List.nil_perm.mp h3)]
    exact f
end Sk
namespace Sk
open PySem PySem.Spec PyProof.Rows L2
abbrev s_Store___init__ : Stmt := inClass (topS 35) 0
abbrev N_Store___init__ : List Str := ["self", "catalogue", "stock", "splits", "given", "name", "weight", "parts"]
theorem sc_Store___init__ : FnScope N_Store___init__ ["self", "catalogue", "stock", "splits"] (defScope s_Store___init__) := ⟨rfl, rfl, rfl, by decide +kernel, rfl, by decide +kernel, by decide +kernel⟩
def sp_Store___init__ (Tb : List (Addr × Str)) (K : PySem.W.Frag) : Sp := fun vs H Q _ => ∃ (s dx a b : Addr) (v : V) (xs : List V) (es : List Ent) (d sp : Num), vs = [.ref s, .ref a, .ref b, v] ∧ H s = some (.ins (stC K) dx []) ∧ SqL K H a xs ∧ CatAt H xs es ∧ H b = some (.dK (dS d)) ∧ ((v = .non ∧ sp = []) ∨ ∃ c, v = .ref c ∧ H c = some (.dK (dS sp))) ∧ LamX.Tabs Tb H ∧ Valid es ∧ es.length < 64 ∧ StockOk es d ∧ SplitsOk es d sp ∧ (∀ e ∈ es, e.parts.length < 64) ∧
  ∀ H' a2 b2 c2 ys es' es2, es'.Perm es → Ordered es' → SameC es' es2 → Gr Tb (upd H s (.ins (stC K) dx (stF a2 b2 c2))) H' → Nw H a2 → Nw H b2 → Nw H c2 → StAt K H' s dx a2 b2 c2 ys es2 (cleanN es2 d) (cleanN es2 sp) → Q .non H'
/-- y is the row of x with its parts in order; D is not the list -/
def SortR (H0 : Hp) (D : Addr) (H : Hp) (x y : V) : Prop := ∀ e, EntAt H0 x e → ∃ (t l : Addr) (ps : List Str), y = .ref t ∧ l ≠ D ∧ H t = some (.tup [.str e.name, .int e.w, .ref l]) ∧ H l = some (.lst (ps.map V.str)) ∧ ps.Perm e.parts ∧ PyProof.Rows.sortedS ps = true
theorem sort_cat {H0 H : Hp} {D : Addr} : ∀ {xs ys : List V} {es : List Ent}, CatAt H0 xs es → Paired (SortR H0 D H) xs ys → ∃ es2, CatAt H ys es2 ∧ SameC es es2
  | _, _, _, .nil, .nil => ⟨[], .nil, .nil⟩
  | _, _, _, .cons a c, .cons h p => by
    obtain ⟨es2, h1, h2⟩ := sort_cat c p
    obtain ⟨t, l, ps, e1, e2, e3, e4, e5, e6⟩ := h _ a
    exact ⟨⟨_, _, ps⟩ :: es2, .cons ⟨t, l, e1, e3, e4⟩ h1, .cons ⟨rfl, rfl, e5, e6⟩ h2⟩
theorem EntAt.updI {H : Hp} {W C dx : Addr} {fs : List (Str × V)} {o : HO} {v : V} {e : Ent} (h : H W = some (.ins C dx fs)) (he : EntAt H v e) : EntAt (upd H W o) v e := by
  obtain ⟨t, l, rfl, h1, h2⟩ := he
  refine ⟨t, l, rfl, ?_, ?_⟩
  · rw [upd_ne fun z => by rw [z, h] at h1; cases h1]
    exact h1
  · rw [upd_ne fun z => by rw [z, h] at h2; cases h2]
    exact h2
theorem CatAt.updI {H : Hp} {W C dx : Addr} {fs : List (Str × V)} {o : HO} (h : H W = some (.ins C dx fs)) : ∀ {vs : List V} {es : List Ent}, CatAt H vs es → CatAt (upd H W o) vs es
  | _, _, .nil => .nil
  | _, _, .cons a t => .cons (a.updI h) (CatAt.updI h t)
theorem upd_twice {H : Hp} {a : Addr} {o o' : HO} : upd (upd H a o) a o' = upd H a o' := by
  funext b
  by_cases h : b = a
  · rw [h, upd_same, upd_same]
  · rw [upd_ne h, upd_ne h, upd_ne h]
theorem Nw.under {H : Hp} {s r : Addr} {o : HO} (n : Nw (upd H s o) r) (nt : ∀ ps, o ≠ .tbl ps) : Nw H r := fun u hu => by
  by_cases z : r = s
  · obtain ⟨ps, e⟩ := n o (by rw [z, upd_same])
    exact absurd e (nt ps)
  · exact n u (by rw [upd_ne z]; exact hu)
section
variable {P : Program} {w : World} {K : PySem.W.Frag} {mg : Str → Option Value} {base : Heap} {Tb : List (Addr × Str)}
theorem ok_Store___init__ {f : Addr} {fd : FuncData} (F : FunD K "__init__" "Store.__init__" (defArgs s_Store___init__) (defBody s_Store___init__) (defScope s_Store___init__) [.non] [] f fd) (T : Tx K mg) (G_check_catalogue : Fn P w K mg base "check_catalogue" 3 ["catalogue"] (sp_check_catalogue Tb K)) (G_check_splits : Fn P w K mg base "check_splits" 5 ["catalogue", "stock", "splits"] (sp_check_splits Tb K)) (G_check_stock : Fn P w K mg base "check_stock" 1 ["catalogue", "stock"] (sp_check_stock Tb K)) (G_clean : Fn P w K mg base "clean" 1 ["entries", "numbers"] (sp_clean Tb K)) (G_ordered : Fn P w K mg base "ordered" 4 ["catalogue"] (sp_ordered Tb K)) : FnOk P w K mg base CX0 6 f fd ["self", "catalogue", "stock", "splits"] (sp_Store___init__ Tb K) := by
  refine F.ok sc_Store___init__ (fun vs H Q E h => ?_) (fun cdv A outer s H vs Q E hr h => ?_)
  · obtain ⟨_, _, _, _, _, _, _, _, _, rfl, _⟩ := h
    rfl
  · obtain ⟨s, dx, a, b, v, xs, es, d, sp, rfl, hs, ha, hc, hb, hvs, ht, hv, hz, so, ok, h64, k⟩ := h
    refine ⟨_, PSs.nox (pss_cons (ps_expr (pe_fn G_check_catalogue (hr.mono (by decide)) (pa_cons (pv 1) pa_nil)))
      (pss_cons (ps_expr (pe_fn G_check_stock (hr.mono (by decide)) (pa_cons (pv 1) (pa_cons (pv 2) pa_nil))))
      (pss_cons (ps_set (i := 4) sc_Store___init__.nd rfl (Or.inl rfl) (pe_ifExp (pt_cmpR op_isN (pv 3) pe_non (nomark _)) pe_dnewK (pv 3)))
      (pss_cons (ps_expr (pe_fn G_check_splits (hr.mono (by decide)) (pa_cons (pv 1) (pa_cons (pv 2) (pa_cons (pv 4) pa_nil)))))
      (pss_cons (ps_fld (pv 0) (pe_lc (own := [("name", 5), ("weight", 6), ("parts", 7)]) (g := (gTup K 3 (gCons (gName 5) (gCons (gName 6) (gCons (gName 7) gNil))))) (tt := tYes) rfl sc_Store___init__.nd (piL (K := K) rfl (pe_fn G_ordered (hr.mono (by decide)) (pa_cons (pv 1) pa_nil))) (blkOk_by (N := N_Store___init__) (sc := (defScope s_Store___init__)) (by decide +kernel)) (fun _ _ _ _ _ => (pg_tup rfl (pgs_cons (pg_name (i := 5) sc_Store___init__.nd rfl (Or.inl rfl)) (pgs_cons (pg_name (i := 6) sc_Store___init__.nd rfl (Or.inl rfl)) (pgs_cons (pg_name (i := 7) sc_Store___init__.nd rfl (Or.inl rfl)) pgs_nil))))) (fun _ _ _ _ _ => pts_nil) (fun _ _ _ _ _ => (pe_tup (pa_cons (pv 5) (pa_cons (pv 6) (pa_cons (pe_callB (crSortedS (K := K) rfl) (by rfl) T.n_sorted (by decide +kernel) (pa_cons (pv 7) pa_nil)) pa_nil)))))) rfl)
      (pss_cons (ps_fld (pv 0) (pe_fn G_clean (hr.mono (by decide)) (pa_cons (peFld (K := K) rfl (pv 0)) (pa_cons (pv 2) pa_nil))) rfl)
      (pss_one (ps_fld (pv 0) (pe_fn G_clean (hr.mono (by decide)) (pa_cons (peFld (K := K) rfl (pv 0)) (pa_cons (pv 4) pa_nil))) rfl)))))))), ?_⟩
    have hlen := Paired.len hc
    refine ⟨_, rfl, a, xs, es, rfl, ha, hc, hv, fun H1 g1 => ?_⟩
    refine ⟨_, rfl, _, rfl, a, b, xs, es, d, rfl, g1.ext_seq ha, CatAt.gr g1 hc, g1.at hb .dK, so, hv.few, fun H2 g2 => ?_⟩
    have g12 := g1.trans g2
    have rest : ∀ (c : Addr) (H3 : Hp), Gr Tb H H3 → H3 c = some (.dK (dS sp)) → c ≠ s → tSeq (tDrop (tCall (sp_check_splits Tb K) [] E0 (tCons (tVar 1) (tCons (tVar 2) (tCons (tVar 4) tNil))))) (tSeq (sFld K (tVar 0) (tLc (iList K (tCall (sp_ordered Tb K) [] E0 (tCons (tVar 1) tNil))) (gTup K 3 (gCons (gName 5) (gCons (gName 6) (gCons (gName 7) gNil)))) tYes (tTup (tCons (tVar 5) (tCons (tVar 6) (tCons (tCB (rSortedS K) (tCons (tVar 7) tNil)) tNil)))) [5, 6, 7]) "entries") (tSeq (sFld K (tVar 0) (tCall (sp_clean Tb K) [] E0 (tCons (tFld K (tVar 0) "entries") (tCons (tVar 2) tNil))) "stock_numbers") (sFld K (tVar 0) (tCall (sp_clean Tb K) [] E0 (tCons (tFld K (tVar 0) "entries") (tCons (tVar 4) tNil))) "split_numbers"))) { nx := fun _ H' => Q V.non H', rt := Q } [some (.ref s), some (.ref a), some (.ref b), some v, some (.ref c), none, none, none] H3 := by
      intro c H3 g3 hc3 cs
      refine ⟨_, rfl, _, rfl, _, rfl, a, b, c, xs, es, d, sp, rfl, g3.ext_seq ha, CatAt.gr g3 hc, g3.at hb .dK, hc3, g3.tab ht, hv, ok, fun H4 g4 => ?_⟩
      have g34 := g3.trans g4
      have hc4 := g4.at hc3 .dK
      refine ⟨_, rfl, a, xs, es, rfl, g34.ext_seq ha, CatAt.gr g34 hc, g34.tab ht, hv.few, fun r H5 ys0 es' hp ho hcy g5 hr => ?_⟩
      have g35 : Gr Tb H (upd H5 r (.lst ys0)) := (g34.trans g5).trans (Gr.new hr)
      have hcy0 : CatAt (upd H5 r (.lst ys0)) ys0 es' := CatAt.gr (g5.trans (Gr.new hr)) hcy
      have hc5 : (upd H5 r (.lst ys0)) c = some (.dK (dS sp)) := ((g5.trans (Gr.new hr)).at hc4 .dK)
      have hr5 : (upd H5 r (.lst ys0)) r = some (.lst ys0) := upd_same
      generalize upd H5 r (.lst ys0) = H6 at g35 hcy0 hc5 hr5
      have hyl := Paired.len hcy0
      have hel := hp.length_eq
      refine ⟨r, rfl, ⟨_, SqL.of hr5⟩, fun D hD => lc_rel (Tb := Tb) (xs := ys0) walk_list rfl (fun _ => true) (SortR H6 D) (fun H' H'' x y m h e he => ?_) hD (by omega) (fun H' g => SqL.of (g.at hr5 .lst)) (fun j x H' hx g hd0 Rk Rs hk hks => ?_) fun H7 ys2 g7 hD7 pr => ?_⟩
      · obtain ⟨t, l, ps, h1, h2, h3, h4, h5, h6⟩ := h e he
        exact ⟨t, l, ps, h1, h2, m _ _ .tup (.inl fun _ z => by cases z) h3, m _ _ .lst (.inr h2) h4, h5, h6⟩
      · obtain ⟨e, he, hev⟩ := Paired.at hcy0 hx
        have hm := hp.mem_iff.mp (List.mem_of_getElem? he)
        have hev0 := hev
        obtain ⟨t, lp, rfl, ht0, hlp⟩ := hev
        refine gtup3 (g.at ht0 .tup) ⟨rfl, ?_⟩
        refine ⟨_, rfl, _, rfl, _, rfl, lp, e.parts, rfl, SqL.of (g.at hlp .lst), h64 e hm, fun ps p pp pso hpn => ?_⟩
        have gp : Gr Tb H' (upd H' p (.lst (ps.map V.str))) := Gr.new hpn
        refine ⟨by show 3 ≤ sizeLine; decide, fun t2 ht2 => hk _ _ rfl (gp.trans (Gr.new ht2)) fun e' he' => ?_⟩
        rw [hev0.uniq he']
        exact ⟨t2, p, ps, rfl, fun z => by rw [z] at hpn; exact hd0 hpn, upd_same, (Gr.new (T := Tb) ht2).at upd_same .lst, pp, pso⟩
      · rw [List.filter_eq_self.mpr fun _ _ => rfl] at pr
        obtain ⟨es2, hc2, sm⟩ := sort_cat hcy0 pr
        have gA := g35.trans g7
        have nD : Nw H D := g35.nw (.of hD)
        have v2 := sm.valid (hv.perm hp)
        have hz2 : es2.length < 64 := by rw [sm.len, hel]; exact hz
        have hs7 := gA.at hs .ins
        have Ds : D ≠ s := fun z => by rw [z, hs7] at hD7; cases hD7
        have hc7 := g7.at hc5 .dK
        have hb7 := gA.at hb .dK
        have bs : b ≠ s := fun z => by rw [z, hs] at hb; cases hb
        refine ⟨_, rfl, s, _, dx, _, rfl, hs7, T.cl, T.nE, by decide, ?_⟩
        rw [stF_1]
        have gB := gA.put2 (o2 := .ins (stC K) dx [("entries", .ref D)]) hs .ins .ins
        have hcB : CatAt (upd H7 s (.ins (stC K) dx [("entries", .ref D)])) ys2 es2 := CatAt.updI hs7 hc2
        have hDB : (upd H7 s (.ins (stC K) dx [("entries", .ref D)])) D = some (.lst ys2) := by rw [upd_ne Ds]; exact hD7
        have hbB : (upd H7 s (.ins (stC K) dx [("entries", .ref D)])) b = some (.dK (dS d)) := by rw [upd_ne bs]; exact hb7
        have hcc : (upd H7 s (.ins (stC K) dx [("entries", .ref D)])) c = some (.dK (dS sp)) := by rw [upd_ne cs]; exact hc7
        have hsB : (upd H7 s (.ins (stC K) dx [("entries", .ref D)])) s = some (.ins (stC K) dx [("entries", .ref D)]) := upd_same
        generalize upd H7 s (.ins (stC K) dx [("entries", .ref D)]) = H8 at gB hcB hDB hbB hcc hsB
        refine ⟨_, rfl, s, _, dx, _, _, rfl, hsB, T.cl, T.nE, rfl, _, rfl, D, b, ys2, es2, d, rfl, SqL.of hDB, hcB, hbB, v2.nodup, by omega, fun r1 H9 g9 nr1 hr1 => ?_⟩
        have gC := gB.trans g9
        have nr1' : Nw H r1 := (gB.nw nr1).under fun ps z => by cases z
        have hsC := g9.at hsB .ins
        have s1 : r1 ≠ s := fun z => by rw [z, hsC] at hr1; cases hr1
        refine ⟨_, rfl, s, _, dx, _, rfl, hsC, T.cl, T.nS, by show 1 < 1000; decide, ?_⟩
        rw [stF_2]
        have gD := gC.put2 (o2 := .ins (stC K) dx [("entries", .ref D), ("stock_numbers", .ref r1)]) upd_same .ins .ins
        rw [upd_twice] at gD
        have hcD := CatAt.updI (o := .ins (stC K) dx [("entries", .ref D), ("stock_numbers", .ref r1)]) hsC (CatAt.gr g9 hcB)
        have hDD : (upd H9 s (.ins (stC K) dx [("entries", .ref D), ("stock_numbers", .ref r1)])) D = some (.lst ys2) := by rw [upd_ne Ds]; exact g9.at hDB .lst
        have hrD : (upd H9 s (.ins (stC K) dx [("entries", .ref D), ("stock_numbers", .ref r1)])) r1 = some (.dK (dS (cleanN es2 d))) := by rw [upd_ne s1]; exact hr1
        have hcE : (upd H9 s (.ins (stC K) dx [("entries", .ref D), ("stock_numbers", .ref r1)])) c = some (.dK (dS sp)) := by rw [upd_ne cs]; exact g9.at hcc .dK
        have hsD : (upd H9 s (.ins (stC K) dx [("entries", .ref D), ("stock_numbers", .ref r1)])) s = some (.ins (stC K) dx [("entries", .ref D), ("stock_numbers", .ref r1)]) := upd_same
        generalize upd H9 s (.ins (stC K) dx [("entries", .ref D), ("stock_numbers", .ref r1)]) = H10 at gD hcD hDD hrD hcE hsD
        refine ⟨_, rfl, s, _, dx, _, _, rfl, hsD, T.cl, T.nE, rfl, _, rfl, D, c, ys2, es2, sp, rfl, SqL.of hDD, hcD, hcE, v2.nodup, by omega, fun r2 H11 g11 nr2 hr2 => ?_⟩
        have gE := gD.trans g11
        have nr2' : Nw H r2 := (gD.nw nr2).under fun ps z => by cases z
        have hsE := g11.at hsD .ins
        have s2 : r2 ≠ s := fun z => by rw [z, hsE] at hr2; cases hr2
        refine ⟨_, rfl, s, _, dx, _, rfl, hsE, T.cl, T.nP, by show 2 < 1000; decide, ?_⟩
        rw [stF_3]
        have gF := gE.put2 (o2 := .ins (stC K) dx (stF D r1 r2)) upd_same .ins .ins
        rw [upd_twice] at gF
        exact k _ D r1 r2 ys2 es' es2 hp ho sm gF nD nr1' nr2' ⟨upd_same, by rw [upd_ne Ds]; exact g11.at hDD .lst, CatAt.updI hsE (CatAt.gr g11 hcD), by rw [upd_ne s1]; exact g11.at hrD .dK, by rw [upd_ne s2]; exact hr2⟩
    rcases hvs with ⟨rfl, rfl⟩ | ⟨c, rfl, hcc⟩
    · refine ⟨_, rfl, rfl, _, rfl, fun F hF => rest F _ (g12.trans (Gr.new hF)) upd_same fun z => ?_⟩
      rw [z, g12.at hs .ins] at hF
      cases hF
    · refine ⟨_, rfl, rfl, _, rfl, _, rfl, rest c H2 g12 (g12.at hcc .dK) fun z => ?_⟩
      rw [z, hs] at hcc
      cases hcc
end
end Sk
namespace Sk
open PySem PySem.Spec PyProof.Rows L2
abbrev s_Store_splits : Stmt := inClass (topS 35) 2
abbrev N_Store_splits : List Str := ["self"]
theorem sc_Store_splits : FnScope N_Store_splits ["self"] (defScope s_Store_splits) := ⟨rfl, rfl, rfl, by decide +kernel, rfl, by decide +kernel, by decide +kernel⟩
def sp_Store_splits (Tb : List (Addr × Str)) (K : PySem.W.Frag) : Sp := fun vs H Q _ => ∃ (s dx a b e : Addr) (ys : List V) (es : List Ent) (d c : Num), vs = [.ref s] ∧ StAt K H s dx a b e ys es d c ∧ StOk es d c ∧
  ∀ r H', Gr Tb H H' → Nw H r → H' r = some (.dK (dS (cleanN es c))) → Q (.ref r) H'
section
variable {P : Program} {w : World} {K : PySem.W.Frag} {mg : Str → Option Value} {base : Heap} {Tb : List (Addr × Str)}
theorem ok_Store_splits {f : Addr} {fd : FuncData} (F : FunD K "splits" "Store.splits" (defArgs s_Store_splits) (defBody s_Store_splits) (defScope s_Store_splits) [] [] f fd) (T : Tx K mg) (G_clean : Fn P w K mg base "clean" 1 ["entries", "numbers"] (sp_clean Tb K)) : FnOk P w K mg base CX0 2 f fd ["self"] (sp_Store_splits Tb K) := by
  refine F.ok sc_Store_splits (fun vs H Q E h => ?_) (fun cdv A outer s H vs Q E hr h => ?_)
  · obtain ⟨_, _, _, _, _, _, _, _, _, rfl, _⟩ := h
    rfl
  · obtain ⟨s, dx, a, b, e, ys, es, d, c, rfl, hS, hO, k⟩ := h
    refine ⟨_, PSs.nox (pss_one (ps_ret (pe_fn G_clean (hr.mono (by decide)) (pa_cons (peFld (K := K) rfl (pv 0)) (pa_cons (peFld (K := K) rfl (pv 0)) pa_nil))))), ?_⟩
    exact ⟨_, rfl, s, _, dx, _, _, rfl, hS.obj, T.cl, T.nE, stF_e _ _ _, _, rfl, s, _, dx, _, _, rfl, hS.obj, T.cl, T.nP, stF_p _ _ _, a, e, ys, es, c, rfl, SqL.of hS.en, hS.cat, hS.sp, hO.sit.v'.nodup, by have := hO.sit.hz; omega, fun r H' g nr hr => k r H' g nr hr⟩
end
end Sk
namespace Sk
open PySem PySem.Spec PyProof.Rows L2
abbrev s_Store_number : Stmt := inClass (topS 35) 5
abbrev N_Store_number : List Str := ["self"]
theorem sc_Store_number : FnScope N_Store_number ["self"] (defScope s_Store_number) := ⟨rfl, rfl, rfl, by decide +kernel, rfl, by decide +kernel, by decide +kernel⟩
def sp_Store_number (Tb : List (Addr × Str)) (K : PySem.W.Frag) : Sp := fun vs H Q _ => ∃ (s dx a b e : Addr) (ys : List V) (es : List Ent) (d c : Num), vs = [.ref s] ∧ StAt K H s dx a b e ys es d c ∧ StOk es d c ∧
  ∀ H', Gr Tb H H' → Q (.int (c.map (·.2)).sum) H'
section
variable {P : Program} {w : World} {K : PySem.W.Frag} {mg : Str → Option Value} {base : Heap} {Tb : List (Addr × Str)}
theorem ok_Store_number {f : Addr} {fd : FuncData} (F : FunD K "number" "Store.number" (defArgs s_Store_number) (defBody s_Store_number) (defScope s_Store_number) [] [] f fd) (T : Tx K mg) : FnOk P w K mg base CX0 1 f fd ["self"] (sp_Store_number Tb K) := by
  refine F.ok sc_Store_number (fun vs H Q E h => ?_) (fun cdv A outer s H vs Q E hr h => ?_)
  · obtain ⟨_, _, _, _, _, _, _, _, _, rfl, _⟩ := h
    rfl
  · obtain ⟨s, dx, a, b, e, ys, es, d, c, rfl, hS, hO, k⟩ := h
    refine ⟨_, PSs.nox (pss_one (ps_ret (pe_sumVals rfl (by rfl) T.n_sum (peFld (K := K) rfl (pv 0))))), ?_⟩
    exact ⟨_, rfl, s, _, dx, _, _, rfl, hS.obj, T.cl, T.nP, stF_p _ _ _, e, dS c, c.map (·.2), rfl, hS.sp, by unfold dS; rw [List.map_map, List.map_map]; rfl, k H (Gr.refl _)⟩
end
end Sk
namespace Sk
open PySem PySem.Spec PyProof.Rows L2
abbrev s_Store_possible_steps : Stmt := inClass (topS 35) 8
abbrev N_Store_possible_steps : List Str := ["self", "kind"]
theorem sc_Store_possible_steps : FnScope N_Store_possible_steps ["self", "kind"] (defScope s_Store_possible_steps) := ⟨rfl, rfl, rfl, by decide +kernel, rfl, by decide +kernel, by decide +kernel⟩
def sp_Store_possible_steps (Tb : List (Addr × Str)) (K : PySem.W.Frag) : Sp := fun vs H Q _ => ∃ (s dx a b e : Addr) (ys : List V) (es : List Ent) (d c : Num) (kind : Str), vs = [.ref s, .str kind] ∧ StAt K H s dx a b e ys es d c ∧ StOk es d c ∧ LamX.Tabs Tb H ∧
  ∀ H', Gr Tb H H' → Q (.int (if kind = "undo" then (c.map (·.2)).sum else totI es d - (c.map (·.2)).sum)) H'
section
variable {P : Program} {w : World} {K : PySem.W.Frag} {mg : Str → Option Value} {base : Heap} {Tb : List (Addr × Str)}
theorem ok_Store_possible_steps {f : Addr} {fd : FuncData} (F : FunD K "possible_steps" "Store.possible_steps" (defArgs s_Store_possible_steps) (defBody s_Store_possible_steps) (defScope s_Store_possible_steps) [] [] f fd) (T : Tx K mg) (GM_Store_number_0 : C8.Met P w K mg base 1 (stC K) "number" (sp_Store_number Tb K) []) (G_total_splits : Fn P w K mg base "total_splits" 5 ["catalogue", "stock"] (sp_total_splits Tb K)) : FnOk P w K mg base CX0 6 f fd ["self", "kind"] (sp_Store_possible_steps Tb K) := by
  refine F.ok sc_Store_possible_steps (fun vs H Q E h => ?_) (fun cdv A outer s H vs Q E hr h => ?_)
  · obtain ⟨_, _, _, _, _, _, _, _, _, _, rfl, _⟩ := h
    rfl
  · obtain ⟨s, dx, a, b, e, ys, es, d, c, kind, rfl, hS, hO, ht, k⟩ := h
    refine ⟨_, PSs.nox (pss_cons (ps_if (pt_cmpR op_eq (pv 1) (pe_gs T.c_UNDO) (nomark _)) (pss_one (ps_ret (C8.pe_mt0 GM_Store_number_0 hr (by decide) (pv 0)))) pss_nil)
      (pss_one (ps_ret (pe_op op_sub (pe_fn G_total_splits (hr.mono (by decide)) (pa_cons (peFld (K := K) rfl (pv 0)) (pa_cons (peFld (K := K) rfl (pv 0)) pa_nil))) (C8.pe_mt0 GM_Store_number_0 hr (by decide) (pv 0)))))), ?_⟩
    refine ⟨_, rfl, rfl, _, rfl, ?_⟩
    refine ite2 (fun q => ?_) (fun q => ?_)
    · have q' : kind = "undo" := V.str.inj (of_decide_eq_true q)
      rw [if_pos q'] at k
      exact ⟨_, rfl, s, dx, _, rfl, hS.obj, stF_no ⟨by decide, by decide, by decide⟩, s, dx, a, b, e, ys, es, d, c, rfl, hS, hO, k⟩
    · have q' : kind ≠ "undo" := fun z => q (decide_eq_true (congrArg V.str z))
      rw [if_neg q'] at k
      refine ⟨_, rfl, s, _, dx, _, _, rfl, hS.obj, T.cl, T.nE, stF_e _ _ _, _, rfl, s, _, dx, _, _, rfl, hS.obj, T.cl, T.nS, stF_s _ _ _, a, b, ys, es, d, rfl, SqL.of hS.en, hS.cat, hS.st, ht, hO.sit.hv, hO.sit.so, fun H1 es' hp ho g => ?_⟩
      obtain rfl := ordered_unique hp ho hO.sit.ho (hO.sit.hv.perm hp).nodup
      have hS1 := hS.gr g
      exact ⟨_, rfl, s, dx, _, rfl, hS1.obj, stF_no ⟨by decide, by decide, by decide⟩, s, dx, a, b, e, ys, _, d, c, rfl, hS1, hO, fun H2 g2 => ⟨_, _, rfl, rfl, k H2 (g.trans g2)⟩⟩
end
end Sk
namespace Sk
open PySem PySem.Spec PyProof.Rows L2
abbrev s_Store_take_steps : Stmt := inClass (topS 35) 9
abbrev N_Store_take_steps : List Str := ["self", "kind", "times"]
theorem sc_Store_take_steps : FnScope N_Store_take_steps ["self", "kind", "times"] (defScope s_Store_take_steps) := ⟨rfl, rfl, rfl, by decide +kernel, rfl, by decide +kernel, by decide +kernel⟩
def sp_Store_take_steps (Tb : List (Addr × Str)) (K : PySem.W.Frag) : Sp := fun vs H Q _ => ∃ (s dx a b e : Addr) (ys : List V) (es : List Ent) (d c : Num) (kind : Str) (t : Int), vs = [.ref s, .str kind, .int t] ∧ StAt K H s dx a b e ys es d c ∧ StOk es d c ∧ LamX.Tabs Tb H ∧ 0 ≤ t ∧ (t ≤ if kind = "undo" then (c.map (·.2)).sum else totI es d - (c.map (·.2)).sum) ∧
  ∀ e2 H' c', (if kind = "undo" then Drain es.length (cN es (getD c)) (cN es (getD c')) ∧ sumN (cN es (getD c')) es.length = (c.map (·.2)).sum - t else Fill es.length (fullN es d) (cN es (getD c)) (cN es (getD c')) ∧ sumN (cN es (getD c')) es.length = (c.map (·.2)).sum + t) → Gr Tb (upd H s (.ins (stC K) dx (stF a b e2))) H' → Nw H e2 → H' e2 = some (.dK (dS (cleanN es c'))) → Q .non H'
section
variable {P : Program} {w : World} {K : PySem.W.Frag} {mg : Str → Option Value} {base : Heap} {Tb : List (Addr × Str)}
theorem ok_Store_take_steps {f : Addr} {fd : FuncData} (F : FunD K "take_steps" "Store.take_steps" (defArgs s_Store_take_steps) (defBody s_Store_take_steps) (defScope s_Store_take_steps) [] [] f fd) (T : Tx K mg) (G_splits_after : Fn P w K mg base "splits_after" 2 ["entries", "stock", "splits", "times"] (sp_splits_after Tb K)) (G_splits_before : Fn P w K mg base "splits_before" 2 ["entries", "splits", "times"] (sp_splits_before Tb K)) : FnOk P w K mg base CX0 3 f fd ["self", "kind", "times"] (sp_Store_take_steps Tb K) := by
  refine F.ok sc_Store_take_steps (fun vs H Q E h => ?_) (fun cdv A outer s H vs Q E hr h => ?_)
  · obtain ⟨_, _, _, _, _, _, _, _, _, _, _, rfl, _⟩ := h
    rfl
  · obtain ⟨s, dx, a, b, e, ys, es, d, c, kind, t, rfl, hS, hO, ht, t0, t1, k⟩ := h
    refine ⟨_, PSs.nox (pss_one (ps_if (pt_cmpR op_eq (pv 1) (pe_gs T.c_UNDO) (nomark _)) (pss_one (ps_fld (pv 0) (pe_fn G_splits_before (hr.mono (by decide)) (pa_cons (peFld (K := K) rfl (pv 0)) (pa_cons (peFld (K := K) rfl (pv 0)) (pa_cons (pv 2) pa_nil)))) rfl)) (pss_one (ps_fld (pv 0) (pe_fn G_splits_after (hr.mono (by decide)) (pa_cons (peFld (K := K) rfl (pv 0)) (pa_cons (peFld (K := K) rfl (pv 0)) (pa_cons (peFld (K := K) rfl (pv 0)) (pa_cons (pv 2) pa_nil))))) rfl)))), ?_⟩
    refine ⟨_, rfl, rfl, _, rfl, ?_⟩
    refine ite2 (fun q => ?_) (fun q => ?_)
    · have q' : kind = "undo" := V.str.inj (of_decide_eq_true q)
      rw [if_pos q'] at t1
      refine ⟨_, rfl, s, _, dx, _, _, rfl, hS.obj, T.cl, T.nE, stF_e _ _ _, _, rfl, s, _, dx, _, _, rfl, hS.obj, T.cl, T.nP, stF_p _ _ _, _, rfl, a, e, ys, es, c, t, rfl, SqL.of hS.en, hS.cat, hS.sp, hO.sit.hv, hO.sit.hz, hO.ok.nd, hO.ok.known, fun x hx => (hO.ok.fits x hx).1, t0, t1, fun r H' c' h1 h2 g nr hr => ?_⟩
      refine ⟨_, rfl, s, _, dx, _, rfl, g.at hS.obj .ins, T.cl, T.nP, stF_len _ _ _, k r _ c' ?_ ?_ ?_ ?_⟩
      · rw [if_pos q']
        exact ⟨h1, h2⟩
      · rw [stF_putP]
        exact g.put2 hS.obj .ins .ins
      · exact nr
      · have rs : r ≠ s := fun z => by
          obtain ⟨ps, y⟩ := nr _ (by rw [z]; exact hS.obj)
          cases y
        rw [upd_ne rs]
        exact hr
    · have q' : kind ≠ "undo" := fun z => q (decide_eq_true (congrArg V.str z))
      rw [if_neg q'] at t1
      refine ⟨_, rfl, s, _, dx, _, _, rfl, hS.obj, T.cl, T.nE, stF_e _ _ _, _, rfl, s, _, dx, _, _, rfl, hS.obj, T.cl, T.nS, stF_s _ _ _, _, rfl, s, _, dx, _, _, rfl, hS.obj, T.cl, T.nP, stF_p _ _ _, _, rfl, a, b, e, ys, es, d, c, t, rfl, SqL.of hS.en, hS.cat, hS.st, hS.sp, hO.sit, hO.ok, t0, by omega, fun r H' c' h1 h2 g nr hr => ?_⟩
      refine ⟨_, rfl, s, _, dx, _, rfl, g.at hS.obj .ins, T.cl, T.nP, stF_len _ _ _, k r _ c' ?_ ?_ ?_ ?_⟩
      · rw [if_neg q']
        exact ⟨h1, h2⟩
      · rw [stF_putP]
        exact g.put2 hS.obj .ins .ins
      · exact nr
      · have rs : r ≠ s := fun z => by
          obtain ⟨ps, y⟩ := nr _ (by rw [z]; exact hS.obj)
          cases y
        rw [upd_ne rs]
        exact hr
end
end Sk
namespace Sk
open PySem PySem.Spec PyProof.Rows L2
abbrev s_Store_try_steps : Stmt := inClass (topS 35) 10
abbrev N_Store_try_steps : List Str := ["self", "kind", "times", "possible"]
theorem sc_Store_try_steps : FnScope N_Store_try_steps ["self", "kind", "times"] (defScope s_Store_try_steps) := ⟨rfl, rfl, rfl, by decide +kernel, rfl, by decide +kernel, by decide +kernel⟩
def sp_Store_try_steps (Tb : List (Addr × Str)) (K : PySem.W.Frag) : Sp := fun vs H Q _ => ∃ (s dx a b e : Addr) (ys : List V) (es : List Ent) (d c : Num) (kind : Str) (t : Int), vs = [.ref s, .str kind, .int t] ∧ StAt K H s dx a b e ys es d c ∧ StOk es d c ∧ LamX.Tabs Tb H ∧ 0 ≤ t ∧ (t ≤ if kind = "undo" then (c.map (·.2)).sum else totI es d - (c.map (·.2)).sum) ∧
  ∀ e2 H' c', (if kind = "undo" then Drain es.length (cN es (getD c)) (cN es (getD c')) ∧ sumN (cN es (getD c')) es.length = (c.map (·.2)).sum - t else Fill es.length (fullN es d) (cN es (getD c)) (cN es (getD c')) ∧ sumN (cN es (getD c')) es.length = (c.map (·.2)).sum + t) → Gr Tb (upd H s (.ins (stC K) dx (stF a b e2))) H' → Nw H e2 → H' e2 = some (.dK (dS (cleanN es c'))) → Q .non H'
section
variable {P : Program} {w : World} {K : PySem.W.Frag} {mg : Str → Option Value} {base : Heap} {Tb : List (Addr × Str)}
theorem ok_Store_try_steps {f : Addr} {fd : FuncData} (F : FunD K "try_steps" "Store.try_steps" (defArgs s_Store_try_steps) (defBody s_Store_try_steps) (defScope s_Store_try_steps) [] [] f fd) (T : Tx K mg) (GM_Store_possible_steps_1 : C8.Met P w K mg base 6 (stC K) "possible_steps" (sp_Store_possible_steps Tb K) []) (GM_Store_take_steps_2 : C8.Met P w K mg base 3 (stC K) "take_steps" (sp_Store_take_steps Tb K) []) : FnOk P w K mg base CX0 7 f fd ["self", "kind", "times"] (sp_Store_try_steps Tb K) := by
  refine F.ok sc_Store_try_steps (fun vs H Q E h => ?_) (fun cdv A outer s H vs Q E hr h => ?_)
  · obtain ⟨_, _, _, _, _, _, _, _, _, _, _, rfl, _⟩ := h
    rfl
  · obtain ⟨s, dx, a, b, e, ys, es, d, c, kind, t, rfl, hS, hO, ht, t0, t1, k⟩ := h
    refine ⟨_, PSs.nox (pss_cons (ps_if (pt_cmpR op_lt (pv 2) pe_int (nomark _)) (pss_one ps_never) pss_nil)
      (pss_cons (ps_set (i := 3) sc_Store_try_steps.nd rfl (Or.inl rfl) (C8.pe_mt GM_Store_possible_steps_1 hr (by decide) (pv 0) (pa_cons (pv 1) pa_nil)))
      (pss_cons (ps_if (pt_cmpR op_gt (pv 2) (pv 3) (nomark _)) (pss_one ps_never) pss_nil)
      (pss_one (ps_expr (C8.pe_mt GM_Store_take_steps_2 hr (by decide) (pv 0) (pa_cons (pv 1) (pa_cons (pv 2) pa_nil)))))))), ?_⟩
    refine ⟨_, rfl, _, _, rfl, rfl, _, rfl, ?_⟩
    rw [decide_eq_false (show ¬ t < 0 by omega)]
    refine ⟨_, rfl, s, dx, _, rfl, hS.obj, stF_no ⟨by decide, by decide, by decide⟩, _, rfl, s, dx, a, b, e, ys, es, d, c, kind, rfl, hS, hO, ht, fun H1 g => ?_⟩
    have hS1 := hS.gr g
    refine ⟨_, rfl, _, rfl, _, _, rfl, rfl, _, rfl, ?_⟩
    rw [decide_eq_false (show ¬ (if kind = "undo" then (c.map (·.2)).sum else totI es d - (c.map (·.2)).sum) < t by omega)]
    refine ⟨_, rfl, s, dx, _, rfl, hS1.obj, stF_no ⟨by decide, by decide, by decide⟩, _, rfl, _, rfl, s, dx, a, b, e, ys, es, d, c, kind, t, rfl, hS1, hO, g.tab ht, t0, t1, fun e2 H2 c' h1 g2 n2 he2 => k e2 H2 c' h1 ?_ ?_ he2⟩
    · exact (g.put2 hS.obj .ins .ins).trans g2
    · exact g.nw n2
end
end Sk
namespace Sk
open PySem PySem.Spec PyProof.Rows L2
abbrev s_Store_split : Stmt := inClass (topS 35) 11
abbrev N_Store_split : List Str := ["self", "times"]
theorem sc_Store_split : FnScope N_Store_split ["self", "times"] (defScope s_Store_split) := ⟨rfl, rfl, rfl, by decide +kernel, rfl, by decide +kernel, by decide +kernel⟩
def sp_Store_split (Tb : List (Addr × Str)) (K : PySem.W.Frag) : Sp := fun vs H Q _ => ∃ (s dx a b e : Addr) (ys : List V) (es : List Ent) (d c : Num) (t : Int), vs = [.ref s, .int t] ∧ StAt K H s dx a b e ys es d c ∧ StOk es d c ∧ LamX.Tabs Tb H ∧ 0 ≤ t ∧ t ≤ totI es d - (c.map (·.2)).sum ∧
  ∀ e2 H' c', Fill es.length (fullN es d) (cN es (getD c)) (cN es (getD c')) → sumN (cN es (getD c')) es.length = (c.map (·.2)).sum + t → Gr Tb (upd H s (.ins (stC K) dx (stF a b e2))) H' → Nw H e2 → H' e2 = some (.dK (dS (cleanN es c'))) → Q .non H'
section
variable {P : Program} {w : World} {K : PySem.W.Frag} {mg : Str → Option Value} {base : Heap} {Tb : List (Addr × Str)}
theorem ok_Store_split {f : Addr} {fd : FuncData} (F : FunD K "split" "Store.split" (defArgs s_Store_split) (defBody s_Store_split) (defScope s_Store_split) [.int 1] [] f fd) (T : Tx K mg) (GM_Store_try_steps_2 : C8.Met P w K mg base 7 (stC K) "try_steps" (sp_Store_try_steps Tb K) []) : FnOk P w K mg base CX0 8 f fd ["self", "times"] (sp_Store_split Tb K) := by
  refine F.ok sc_Store_split (fun vs H Q E h => ?_) (fun cdv A outer s H vs Q E hr h => ?_)
  · obtain ⟨_, _, _, _, _, _, _, _, _, _, rfl, _⟩ := h
    rfl
  · obtain ⟨s, dx, a, b, e, ys, es, d, c, t, rfl, hS, hO, ht, t0, t1, k⟩ := h
    refine ⟨_, PSs.nox (pss_one (ps_expr (C8.pe_mt GM_Store_try_steps_2 hr (by decide) (pv 0) (pa_cons (pe_gs T.c_SPLIT) (pa_cons (pv 1) pa_nil))))), ?_⟩
    refine ⟨_, rfl, s, dx, _, rfl, hS.obj, stF_no ⟨by decide, by decide, by decide⟩, _, rfl, s, dx, a, b, e, ys, es, d, c, "split", t, rfl, hS, hO, ht, t0, by rw [if_neg (by decide)]; exact t1, fun e2 H' c' h1 => ?_⟩
    rw [if_neg (by decide)] at h1
    exact k e2 H' c' h1.1 h1.2
end
end Sk
namespace Sk
open PySem PySem.Spec PyProof.Rows L2
abbrev s_Store_undo : Stmt := inClass (topS 35) 12
abbrev N_Store_undo : List Str := ["self", "times"]
theorem sc_Store_undo : FnScope N_Store_undo ["self", "times"] (defScope s_Store_undo) := ⟨rfl, rfl, rfl, by decide +kernel, rfl, by decide +kernel, by decide +kernel⟩
def sp_Store_undo (Tb : List (Addr × Str)) (K : PySem.W.Frag) : Sp := fun vs H Q _ => ∃ (s dx a b e : Addr) (ys : List V) (es : List Ent) (d c : Num) (t : Int), vs = [.ref s, .int t] ∧ StAt K H s dx a b e ys es d c ∧ StOk es d c ∧ LamX.Tabs Tb H ∧ 0 ≤ t ∧ t ≤ (c.map (·.2)).sum ∧
  ∀ e2 H' c', Drain es.length (cN es (getD c)) (cN es (getD c')) → sumN (cN es (getD c')) es.length = (c.map (·.2)).sum - t → Gr Tb (upd H s (.ins (stC K) dx (stF a b e2))) H' → Nw H e2 → H' e2 = some (.dK (dS (cleanN es c'))) → Q .non H'
section
variable {P : Program} {w : World} {K : PySem.W.Frag} {mg : Str → Option Value} {base : Heap} {Tb : List (Addr × Str)}
theorem ok_Store_undo {f : Addr} {fd : FuncData} (F : FunD K "undo" "Store.undo" (defArgs s_Store_undo) (defBody s_Store_undo) (defScope s_Store_undo) [.int 1] [] f fd) (T : Tx K mg) (GM_Store_try_steps_2 : C8.Met P w K mg base 7 (stC K) "try_steps" (sp_Store_try_steps Tb K) []) : FnOk P w K mg base CX0 8 f fd ["self", "times"] (sp_Store_undo Tb K) := by
  refine F.ok sc_Store_undo (fun vs H Q E h => ?_) (fun cdv A outer s H vs Q E hr h => ?_)
  · obtain ⟨_, _, _, _, _, _, _, _, _, _, rfl, _⟩ := h
    rfl
  · obtain ⟨s, dx, a, b, e, ys, es, d, c, t, rfl, hS, hO, ht, t0, t1, k⟩ := h
    refine ⟨_, PSs.nox (pss_one (ps_expr (C8.pe_mt GM_Store_try_steps_2 hr (by decide) (pv 0) (pa_cons (pe_gs T.c_UNDO) (pa_cons (pv 1) pa_nil))))), ?_⟩
    refine ⟨_, rfl, s, dx, _, rfl, hS.obj, stF_no ⟨by decide, by decide, by decide⟩, _, rfl, s, dx, a, b, e, ys, es, d, c, "undo", t, rfl, hS, hO, ht, t0, by rw [if_pos rfl]; exact t1, fun e2 H' c' h1 => ?_⟩
    rw [if_pos rfl] at h1
    exact k e2 H' c' h1.1 h1.2
end
end Sk
namespace Sk
open PySem PySem.Spec PyProof.Rows L2
abbrev s_law_bag : Stmt := topS 37
abbrev N_law_bag : List Str := ["script", "cell", "fold", "great"]
theorem sc_law_bag : FnScope N_law_bag ["script"] (defScope s_law_bag) := ⟨rfl, rfl, rfl, by decide +kernel, rfl, by decide +kernel, by decide +kernel⟩
def sp_law_bag (Tb : List (Addr × Str)) (K : PySem.W.Frag) : Sp := fun vs H Q _ => ∃ (a : Addr) (ns : List Int) (G : Hp), vs = [.ref a] ∧ SqL K H a (ns.map V.int) ∧ ns.length ≤ 63 ∧ Fz G H ∧ LamX.Tabs Tb H ∧ ∀ p H', Hb Tb p 0 [] G H' → Gr Tb H H' → Q (.ref p) H'
section
variable {P : Program} {w : World} {K : PySem.W.Frag} {mg : Str → Option Value} {base : Heap} {Tb : List (Addr × Str)}
theorem ok_law_bag {f : Addr} {fd : FuncData} (F : FnP K "_law_bag" s_law_bag f fd) (T : Tx K mg) : FnOk P w K mg base CX0 1 f fd ["script"] (sp_law_bag Tb K) := by
  refine F.ok sc_law_bag (fun vs H Q E h => ?_) (fun cdv A outer s H vs Q E hr h => ?_)
  · obtain ⟨_, _, _, rfl, _⟩ := h
    rfl
  · obtain ⟨a, ns, G, rfl, ha, hz, hf, ht, k⟩ := h
    refine ⟨_, PSs.nox (pss_cons (ps_par (i := 2) (j := 3) (by rfl) sc_law_bag.nd rfl rfl (by decide) rfl rfl (pa_cons pe_int (pa_cons (pe_lst pa_nil) pa_nil)) (by rfl))
      (pss_cons (ps_for PassesOwn.never rfl (piL (K := K) rfl (pv 0)) (pg_name (i := 1) sc_law_bag.nd rfl (Or.inl rfl)) (pss_cons (ps_set (i := 2) sc_law_bag.nd rfl (Or.inl rfl) (pe_op op_mod (pe_op op_add (pe_op op_mulW (pv 2) pe_int) (pv 1)) pe_int))
        (pss_one (ps_if (pt_cmpR op_ge (pe_callB call_abs (by rfl) T.n_abs (by decide +kernel) (pa_cons (pv 1) pa_nil)) (pe_op op_pow pe_int pe_int) (nomark _)) (pss_one (ps_expr (peBm (K := K) rfl PySem.F.plainAttrs_list PySem.F.slot_list_append PySem.F.type_list_append mt_append (pv 3) (pa_cons (pe_callB call_abs (by rfl) T.n_abs (by decide +kernel) (pa_cons (pv 1) pa_nil)) pa_nil)))) pss_nil))))
      (pss_one (ps_ret (pe_disp (pps_cons pe_str (pv 3) (pps_cons pe_str pe_int (pps_cons pe_str pe_int (pps_cons pe_str (pv 2) pps_nil)))) (by rfl) (by rfl) (fun z => by cases z) (by decide)))))), ?_⟩
    refine ⟨Nat.zero_le _, fun gr hgr => ⟨_, _, rfl, ?_⟩⟩
    have g0 : Gr Tb H (upd H gr (.lst [])) := Gr.new hgr
    refine ⟨_, rfl, a, rfl, ⟨_, g0.ext_seq ha⟩, for_list (K := K) (a := a) (xs := ns.map V.int) (fun i σ H' => ∃ (fd : Int) (gs : List Int) (s1 : Option V), σ = [some (.ref a), s1, some (.int fd), some (.ref gr)] ∧ 0 ≤ fd ∧ fd < 2305843009213693951 ∧ (∀ x ∈ gs, 0 ≤ x) ∧ gs.length ≤ i ∧ Gr Tb H H' ∧ H' gr = some (.lst (gs.map V.int)))
      ⟨11, [], _, rfl, by decide, by decide, (fun x hx => by cases hx), Nat.le_refl _, g0, upd_same⟩ (fun i σ H' _ ⟨_, _, _, _, _, _, _, _, g, _⟩ => g.ext_seq ha) ?_ ?_⟩
    · rintro i x σ H2 hx ⟨fd, gs, s1, rfl, f0, f1, gp, gl, g2, hg⟩
      have hi : i < ns.length := by
        have := (List.getElem?_eq_some_iff.mp hx).1
        rwa [List.length_map] at this
      rw [List.getElem?_map, List.getElem?_eq_getElem hi] at hx
      cases hx
      generalize ns[i] = cell
      refine ⟨_, rfl, _, _, rfl, rfl, wide_mul (a := 61) (b := 20) (by omega) (by decide) (by decide) (by decide) (by decide), _, rfl, _, _, rfl, rfl, _, _, rfl, rfl, (by show (0 : Int) < _; decide), ?_⟩
      have z0 := Int.emod_nonneg (fd * 1000003 + cell) (show (2305843009213693951 : Int) ≠ 0 by decide)
      have z1 := Int.emod_lt_of_pos (fd * 1000003 + cell) (show (0 : Int) < 2305843009213693951 by decide)
      refine ⟨_, rfl, _, rfl, _, _, rfl, rfl, ⟨by decide, by decide, by decide⟩, _, _, rfl, rfl, _, rfl, ?_⟩
      refine ite2 (fun c1 => ?_) (fun c1 => ?_)
      · refine ⟨_, rfl, .inl ⟨rfl, _, SqL.of hg⟩, _, rfl, _, rfl, gr, _, _, rfl, rfl, hg, by rw [sizeLine_eq, List.length_map]; omega, ?_⟩
        refine ⟨_, gs ++ [if cell < 0 then -cell else cell], _, rfl, z0, z1, fun x hx => ?_, by rw [List.length_append]; show _ + 1 ≤ _; omega, Gr.put hgr g2 hg, by rw [upd_same, List.map_append]; rfl⟩
        rcases List.mem_append.mp hx with h | h
        · exact gp x h
        · rw [List.mem_singleton.mp h]
          split <;> omega
      · exact ⟨_, gs, _, rfl, z0, z1, gp, by omega, g2, hg⟩
    · rintro σ H2 ⟨fd, gs, s1, rfl, f0, f1, gp, gl, g2, hg⟩
      rw [List.length_map] at gl
      refine fun p hp => ?_
      refine ⟨_, rfl, _, rfl, upd_same, bagK gr 0 0 fd, rfl, by show 4 ≤ 15; decide, ?_⟩
      rw [upd_upd, show mergeK [] (bagK gr 0 0 fd) = bagK gr 0 0 fd from rfl]
      have hf2 := hf.gr g2
      have ne : gr ≠ p := fun z => by
        rw [z, hp] at hg
        cases hg
      refine k p _ ⟨⟨gr, gs, 0, 0, fd, ⟨upd_same, by rw [upd_ne ne]; exact hg, gp, by omega, by decide, by decide, by decide, f0, f1⟩, ne, hf.free hgr, fun x hx => by cases hx⟩, hf2.put (hf2.free hp), hf2.free hp, (fun x hx => by cases hx), List.nodup_nil, (g2.tab ht).ext (Same.upd hp)⟩ (g2.trans (Gr.new hp))
end
end Sk
namespace Sk
open PySem PySem.Spec PyProof.Rows L2
abbrev s_law_draw : Stmt := topS 38
abbrev N_law_draw : List Str := ["bag", "many", "turn", "mixed", "drawn"]
theorem sc_law_draw : FnScope N_law_draw ["bag", "many"] (defScope s_law_draw) := ⟨rfl, rfl, rfl, by decide +kernel, rfl, by decide +kernel, by decide +kernel⟩
def sp_law_draw (Tb : List (Addr × Str)) (K : PySem.W.Frag) : Sp := fun vs H Q _ => ∃ (p : Addr) (n : Nat) (L : List (Addr × HO)) (G : Hp) (many : Int), vs = [.ref p, .int many] ∧ Hb Tb p n L G H ∧ n < 1000000000 ∧ 1 ≤ many ∧ many < 2 ^ 400 ∧ ∀ r H', 0 ≤ r → r < many → Hb Tb p (n + 1) L G H' → Q (.int r) H'
section
variable {P : Program} {w : World} {K : PySem.W.Frag} {mg : Str → Option Value} {base : Heap} {Tb : List (Addr × Str)}
theorem ok_law_draw {f : Addr} {fd : FuncData} (F : FnP K "_law_draw" s_law_draw f fd) (T : Tx K mg) : FnOk P w K mg base CX0 1 f fd ["bag", "many"] (sp_law_draw Tb K) := by
  refine F.ok sc_law_draw (fun vs H Q E h => ?_) (fun cdv A outer s H vs Q E hr h => ?_)
  · obtain ⟨_, _, _, _, _, rfl, _⟩ := h
    rfl
  · obtain ⟨p, n, L, G, many, rfl, hs, hn, hm1, hm2, k⟩ := h
    refine ⟨_, PSs.nox (pss_cons (ps_if (PW.pt (pw_and (pt_cmpR op_lt (pe_dget (hu_of hr) (pv 0) pe_str (fun _ _ => rfl)) (pv 1) (nomark _)) (pw_and1 (pt_cmpR op_gt (pe_callB (lenS (K := K) rfl) (by rfl) T.n_len (by decide +kernel) (pa_cons (pe_dget (hu_of hr) (pv 0) pe_str (fun _ _ => rfl)) pa_nil)) pe_int (nomark _))))) (pss_one (ps_dput (hu_of hr) (pv 0) pe_str (peBm (K := K) rfl PySem.F.plainAttrs_list PySem.F.slot_list_pop PySem.F.type_list_pop mt_popAt (pe_dget (hu_of hr) (pv 0) pe_str (fun _ _ => rfl)) (pa_cons pe_int pa_nil)) rfl)) pss_nil)
      (pss_cons (ps_if (pt_cmpR op_ge (pe_dget (hu_of hr) (pv 0) pe_str (fun _ _ => rfl)) (pv 1) (nomark _)) (pss_cons (ps_set (i := 4) sc_law_draw.nd rfl (Or.inl rfl) (pe_op op_mod (pe_dget (hu_of hr) (pv 0) pe_str (fun _ _ => rfl)) (pv 1)))
        (pss_cons (ps_dput (hu_of hr) (pv 0) pe_str (pe_op op_fdivW (pe_dget (hu_of hr) (pv 0) pe_str (fun _ _ => rfl)) (pv 1)) rfl)
        (pss_one (ps_ret (pv 4))))) pss_nil)
      (pss_cons (ps_daug (hu_of hr) (pv 0) pe_str pe_int in_add (fun _ _ _ => rfl))
      (pss_cons (ps_set (i := 2) sc_law_draw.nd rfl (Or.inl rfl) (pe_dget (hu_of hr) (pv 0) pe_str (fun _ _ => rfl)))
      (pss_cons (ps_set (i := 3) sc_law_draw.nd rfl (Or.inl rfl) (pe_op op_add (pe_op op_mulW (pe_op op_add (pe_dget (hu_of hr) (pv 0) pe_str (fun _ _ => rfl)) (pe_op op_mulW pe_int (pv 2))) (pe_op op_powW (pe_op op_add (pv 2) pe_int) pe_int)) (pe_op op_mulW pe_int (pv 2))))
      (pss_one (ps_ret (pe_op op_mod (pe_op op_fdivW (pe_op op_mod (pe_op op_powW (pe_op op_mod (pv 3) pe_int) pe_int) (pe_op op_add (pe_op op_powW pe_int pe_int) pe_int)) pe_int) (pv 1))))))))), ?_⟩
    refine sq_st (fun σ H' => σ = [some (.ref p), some (.int many), none, none, none] ∧ Hb Tb p n L G H') ?_ ?_
    · intro N hN
      obtain ⟨⟨g, gs, l, t, f, b, g1, g2, g3⟩, _, _, _, _, tab⟩ := id hs
      refine ⟨_, rfl, p, _, rfl, b.left, _, rfl, _, _, rfl, rfl, _, rfl, ?_⟩
      refine ite2 (fun c1 => ?_) (fun c1 => hN _ _ ⟨rfl, hs⟩)
      refine ⟨_, rfl, p, _, rfl, b.great, g, _, rfl, .inl (SqL.of b.gr), _, _, rfl, rfl, _, rfl, ?_⟩
      refine ite2 (fun c2 => ?_) (fun c2 => hN _ _ ⟨rfl, hs⟩)
      cases gs with
      | nil => exact absurd (of_decide_eq_true c2) (by simp)
      | cons x gs =>
        have e1 : ((x :: gs).map V.int).eraseIdx (Int.toNat 0) = gs.map V.int := rfl
        refine ⟨_, rfl, p, _, rfl, b.great, .inl ⟨rfl, _, SqL.of b.gr⟩, g, _, 0, (0 : Int).toNat, _, rfl, rfl, b.gr, by decide, by decide, seq_ix (by decide) (by simp), rfl, ?_⟩
        rw [e1]
        have w0 : (upd H g (.lst (gs.map V.int))) p = some (.dK (bagK g l t f)) := by rw [upd_ne (Ne.symm g1)]; exact b.at_
        refine ⟨_, rfl, p, _, rfl, bag_dputL w0, hN _ _ ⟨rfl, hs.bag (l' := x) (t' := t) (f' := f) b g1 ‹_› g3 upd_same (by rw [upd_ne g1, upd_same]) (fun a h1 h2 => by rw [upd_ne h1, upd_ne h2]) (Tabs.upd (Tabs.upd tab b.gr .lst) w0 .dK) ⟨fun y hy => b.pos y (List.mem_cons_of_mem _ hy), ?_, b.pos x (List.mem_cons_self ..), b.t0, b.tn, b.f0, b.f1⟩⟩⟩
        have := b.few
        rw [List.length_cons] at this
        omega
    rintro σ H1 ⟨rfl, h1⟩
    obtain ⟨⟨g, gs, l, t, f, b, g1, g2, g3⟩, _, _, _, _, tab⟩ := id h1
    have l0 := b.l0
    have t0 := b.t0
    have tn := b.tn
    have f0 := b.f0
    have f1 := b.f1
    refine ⟨_, rfl, p, _, rfl, b.left, _, rfl, _, _, rfl, rfl, _, rfl, ?_⟩
    refine ite2 (fun c1 => ?_) (fun c1 => ?_)
    · refine ⟨_, rfl, p, _, rfl, b.left, _, rfl, _, _, rfl, rfl, by omega, ?_⟩
      refine ⟨_, rfl, p, _, rfl, b.left, _, rfl, _, _, rfl, rfl, wide_div (b := 400) (by omega) (by omega) (by decide) (by decide), _, rfl, p, _, rfl, bag_dputL b.at_, _, rfl, ?_⟩
      exact k _ _ (Int.emod_nonneg _ (by omega)) (Int.emod_lt_of_pos _ (by omega)) (h1.bag b g1 g2 g3 upd_same (by rw [upd_ne g1]; exact b.gr) (fun a h1 _ => by rw [upd_ne h1]) (Tabs.upd tab b.at_ .dK) ⟨b.pos, b.few, Int.ediv_nonneg l0 (by omega), t0, by omega, f0, f1⟩)
    · refine ⟨_, rfl, p, _, rfl, b.turn, _, _, rfl, rfl, _, bag_dputT b.at_, ?_⟩
      have h2 : Hb Tb p (n + 1) L G (upd H1 p (.dK (bagK g l (t + 1) f))) := h1.bag b g1 g2 g3 upd_same (by rw [upd_ne g1]; exact b.gr) (fun a h1 _ => by rw [upd_ne h1]) (Tabs.upd tab b.at_ .dK) ⟨b.pos, b.few, l0, by omega, by omega, f0, f1⟩
      have b2 : BgAt p g (n + 1) gs l (t + 1) f (upd H1 p (.dK (bagK g l (t + 1) f))) := ⟨upd_same, by rw [upd_ne g1]; exact b.gr, b.pos, b.few, l0, by omega, by omega, f0, f1⟩
      generalize upd H1 p (.dK (bagK g l (t + 1) f)) = H2 at h2 b2
      have hx : (t + 1 + 29).natAbs < 2 ^ 41 := by omega
      have hp2 : ((t + 1 + 29) ^ Int.toNat 2).natAbs < 2 ^ 82 := by
        rw [Int.natAbs_pow]
        exact Nat.lt_of_lt_of_le (Nat.pow_lt_pow_left hx (by decide)) (by decide)
      refine ⟨_, rfl, p, _, rfl, b2.turn, ?_⟩
      refine ⟨_, rfl, p, _, rfl, b2.fold, _, rfl, _, _, rfl, rfl, wide_mul (a := 10) (b := 41) (by decide) (by omega) (by decide) (by decide) (by decide), _, _, rfl, rfl, _, rfl, _, _, rfl, rfl, _, _, rfl, rfl, wide_pow hx (by decide) (by decide) (by decide), _, _, rfl, rfl, wide_mul (a := 62) (b := 82) (by omega) hp2 (by decide) (by decide) (by decide), _, rfl, _, _, rfl, rfl, wide_mul (a := 14) (b := 41) (by decide) (by omega) (by decide) (by decide) (by decide), _, _, rfl, rfl, ?_⟩
      generalize (f + 17 * (t + 1)) * (t + 1 + 29) ^ Int.toNat 2 + 7919 * (t + 1) = mx
      refine goN ?_
      dsimp only
      have y0 := Int.emod_nonneg mx (show (2305843009213693951 : Int) ≠ 0 by decide)
      have y1 := Int.emod_lt_of_pos mx (show (0 : Int) < 2305843009213693951 by decide)
      refine ⟨_, rfl, _, _, rfl, rfl, (by show (0 : Int) < _; decide), _, _, rfl, rfl, wide_pow (b := 61) (by omega) (by decide) (by decide) (by decide), _, _, rfl, rfl, wide_pow (b := 4) (by decide) (by decide) (by decide) (by decide), _, _, rfl, rfl, _, _, rfl, rfl, (by show (0 : Int) < (10 : Int) ^ Int.toNat 18 + 9; decide), _, _, rfl, rfl, wide_div (b := 400) (by decide) (by decide) (by decide) (by decide), _, rfl, _, _, rfl, rfl, by omega, ?_⟩
      exact k _ _ (Int.emod_nonneg _ (by omega)) (Int.emod_lt_of_pos _ (by omega)) h2
end
end Sk
namespace Sk
open PySem PySem.Spec PyProof.Rows L2
theorem nameB_strOk {x : Str} (h : nameB x = true) : PyData.strOk x = true := by
  unfold nameB at h
  simp only [Bool.and_eq_true, decide_eq_true_eq, List.all_eq_true] at h
  unfold PyData.strOk
  rw [← Array.all_toList, List.all_eq_true]
  intro c hc
  have h2 : ∀ c ∈ letters.cps.toList, decide (c < 0x110000) = true := by decide +kernel
  exact h2 c (h.2.2 c hc)
theorem shaped_names {ns : List Str} (h : ∀ x ∈ ns, nameB x = true) : SeqAt.shaped (.list (ns.map PyData.str)) = true := by
  have key : ∀ l : List Str, (∀ x ∈ l, nameB x = true) → PyData.canLayAll0 (l.map PyData.str) = true := by
    intro l
    induction l with
    | nil => intro _; simp only [List.map_nil, PyData.canLayAll0]
    | cons q l ih =>
      intro hl
      rw [List.map_cons, PyData.canLayAll0, ih fun z hz => hl z (List.mem_cons_of_mem _ hz)]
      simp only [PyData.canLay0, nameB_strOk (hl q (List.mem_cons_self ..)), Bool.and_self]
  unfold SeqAt.shaped
  rw [Bool.and_eq_true]
  refine ⟨?_, decide_eq_true (Nat.le_trans (depth_strs ns) (by decide))⟩
  rw [PyData.canLay0]
  exact key ns h
theorem keys_list (d : Num) : ((dS d).map fun kv => kV kv.1) = (d.map (·.1)).map V.str := by
  unfold dS
  rw [List.map_map, List.map_map]
  rfl
end Sk
namespace Sk
open PySem PySem.Spec PyProof.Rows L2
/-- a text that is written short -/
def ShwN (x : Str) : Prop := x.length ≤ 9 ∧ ∀ c ∈ x.cps.toList, c < 0x110000
/-- an entry that is written short, valid or not -/
structure BentE (e : Ent) : Prop where
  name : ShwN e.name
  w : e.w.natAbs < 10 ^ 100
  fewp : e.parts.length ≤ 6
  parts : ∀ q ∈ e.parts, ShwN q
theorem paired_take {α β : Type} {R : α → β → Prop} : ∀ {xs : List α} {ys : List β} (n : Nat), Paired R xs ys → Paired R (xs.take n) (ys.take n)
  | _, _, 0, _ => by rw [List.take_zero, List.take_zero]; exact .nil
  | _, _, n + 1, .nil => by rw [List.take_nil, List.take_nil]; exact .nil
  | _, _, n + 1, .cons a t => by rw [List.take_succ_cons, List.take_succ_cons]; exact .cons a (paired_take n t)
theorem paired_drop {α β : Type} {R : α → β → Prop} : ∀ {xs : List α} {ys : List β} (n : Nat), Paired R xs ys → Paired R (xs.drop n) (ys.drop n)
  | _, _, 0, h => h
  | _, _, n + 1, .nil => by rw [List.drop_nil, List.drop_nil]; exact .nil
  | _, _, n + 1, .cons a t => paired_drop n t
theorem bentN {x : Str} (h1 : x.length ≤ 9) (h2 : (x.cps.toList.all fun c => decide (c < 0x110000)) = true) : ShwN x := ⟨h1, fun c hc => of_decide_eq_true (List.all_eq_true.mp h2 c hc)⟩
theorem ShwN.ok {x : Str} (h : ShwN x) : PyData.strOk x = true := by
  unfold PyData.strOk
  rw [← Array.all_toList, List.all_eq_true]
  exact fun c hc => decide_eq_true (h.2 c hc)
theorem nameB_len {x : Str} (h : nameB x = true) : x.length ≤ 8 := by
  unfold nameB at h
  simp only [Bool.and_eq_true, decide_eq_true_eq] at h
  exact h.2.1
theorem nameB_N {x : Str} (h : nameB x = true) : ShwN x := by
  refine ⟨Nat.le_trans (nameB_len h) (by decide), fun c hc => ?_⟩
  have h2 := nameB_strOk h
  unfold PyData.strOk at h2
  rw [← Array.all_toList, List.all_eq_true] at h2
  exact of_decide_eq_true (h2 c hc)
/-- a text of at most eight signs -/
def ShwK (x : Str) : Prop := ShwN x ∧ x.length ≤ 8
theorem ShwK.s {x : Str} (h : ShwK x) : ShwS x := ⟨Nat.le_trans h.2 (by decide), fun c hc => Nat.lt_trans (h.1.2 c hc) (by decide)⟩
theorem nameB_K {x : Str} (h : nameB x = true) : ShwK x := ⟨nameB_N h, nameB_len h⟩
end Sk
namespace Sk
open PySem PySem.Spec PyProof.Rows L2
abbrev s_law_catalogue : Stmt := topS 39
abbrev N_law_catalogue : List Str := ["bag", "most", "left", "number", "pool", "weight", "lighter", "parts", "name", "entry", "index"]
theorem sc_law_catalogue : FnScope N_law_catalogue ["bag", "most"] (defScope s_law_catalogue) := ⟨rfl, rfl, rfl, by decide +kernel, rfl, by decide +kernel, by decide +kernel⟩
/-- entries as the law makes them -/
structure MadeC (es : List Ent) : Prop where
  v : Valid es
  few : es.length ≤ 20
  fewp : ∀ e ∈ es, e.parts.length ≤ 3
  wt : ∀ e ∈ es, e.w < 1000
  nob : ∀ e ∈ es, e.name ≠ "nobody" ∧ e.name ≠ "zoo"
def sp_law_catalogue (Tb : List (Addr × Str)) (K : PySem.W.Frag) : Sp := fun vs H Q _ => ∃ (p : Addr) (n : Nat) (L : List (Addr × HO)) (G : Hp) (most : Int), vs = [.ref p, .int most] ∧ Hb Tb p n L G H ∧ n + 1000 < 1000000000 ∧ 1 ≤ most ∧ most ≤ 20 ∧
  ∀ r H' G' ys es, Same G G' → CatAt G' ys es → MadeC es → es.length ≤ most → Hb Tb p (n + 1000) ((r, .lst ys) :: L) G' H' → Q (.ref r) H'
/-- the names that the law draws from -/
def poolA : List Str := ["a", "b", "cube", "d", "edge", "fit", "g", "hook", "i", "jar", "k", "lid", "m", "net", "o", "peg"]
def poolB : List Str := ["q", "rod", "s", "tile"]
theorem pool_nodup : (poolA ++ poolB).Nodup := by decide +kernel
theorem pool_nob : ∀ x ∈ poolA ++ poolB, x ≠ "nobody" ∧ x ≠ "zoo" := by decide +kernel
theorem pool_good : ∀ x ∈ poolA ++ poolB, nameB x = true := by decide +kernel
/-- what is made so far -/
structure MadeAtD (rest : List Str) (i : Nat) (w : Int) (es : List Ent) : Prop where
  names : (es.map (·.name) ++ rest).Perm (poolA ++ poolB)
  len : es.length = i
  pos : ∀ e ∈ es, 1 ≤ e.w ∧ e.w ≤ w
  lighter : ∀ e ∈ es, ∀ q ∈ e.parts, ∃ e' ∈ es, e'.name = q ∧ e'.w < e.w
  fewp : ∀ e ∈ es, e.parts.length ≤ 3
  w1 : 1 ≤ w
  w2 : w ≤ 4 + 2 * (i : Int)
theorem MadeAtD.step {rest : List Str} {i j : Nat} {w w' : Int} {es : List Ent} {x : Str} {ps : List Str} (m : MadeAtD rest i w es) (hx : rest[j]? = some x) (h1 : w ≤ w') (h2 : w' ≤ w + 2)
    (hp : ∀ q ∈ ps, ∃ e' ∈ es, e'.name = q ∧ e'.w < w) (hl : ps.length ≤ 3) : MadeAtD (rest.eraseIdx j) (i + 1) w' (es ++ [⟨x, w, ps⟩]) := by
  refine ⟨?_, by rw [List.length_append, m.len]; rfl, fun e he => ?_, fun e he q hq => ?_, fun e he => ?_, Int.le_trans m.w1 h1, ?_⟩
  · refine List.Perm.trans ?_ m.names
    rw [List.map_append, List.append_assoc]
    exact List.Perm.append_left _ (erase_perm rest j x hx)
  · rcases List.mem_append.mp he with z | z
    · have := m.pos e z
      omega
    · rw [List.mem_singleton.mp z]
      have := m.w1
      exact ⟨m.w1, h1⟩
  · rcases List.mem_append.mp he with z | z
    · obtain ⟨e', a, b⟩ := m.lighter e z q hq
      exact ⟨e', List.mem_append_left _ a, b⟩
    · rw [List.mem_singleton.mp z] at hq ⊢
      obtain ⟨e', a, b⟩ := hp q hq
      exact ⟨e', List.mem_append_left _ a, b⟩
  · rcases List.mem_append.mp he with z | z
    · exact m.fewp e z
    · rw [List.mem_singleton.mp z]
      exact hl
  · have := m.w2
    omega
theorem MadeAtD.perm {rest : List Str} {i : Nat} {w : Int} {es es' : List Ent} (m : MadeAtD rest i w es) (p : es'.Perm es) : MadeAtD rest i w es' :=
  ⟨((p.map _).append_right _).trans m.names, by rw [p.length_eq]; exact m.len, fun e he => m.pos e (p.mem_iff.mp he), fun e he q hq => by
    obtain ⟨e', a, b⟩ := m.lighter e (p.mem_iff.mp he) q hq
    exact ⟨e', p.mem_iff.mpr a, b⟩, fun e he => m.fewp e (p.mem_iff.mp he), m.w1, m.w2⟩
theorem MadeAtD.made {rest : List Str} {i : Nat} {w : Int} {es : List Ent} (m : MadeAtD rest i w es) (h0 : 1 ≤ i) (h1 : i ≤ 20) : MadeC es := by
  have hle := m.len
  have hin : ∀ e ∈ es, e.name ∈ poolA ++ poolB := fun e he => m.names.mem_iff.mp (List.mem_append_left _ (List.mem_map.mpr ⟨e, he, rfl⟩))
  have hnd : (es.map (·.name)).Nodup := (List.nodup_append.mp (m.names.nodup_iff.mpr pool_nodup)).1
  refine ⟨⟨fun z => ?_, fun e he => pool_good _ (hin e he), hnd, fun e he => (m.pos e he).1, m.lighter, by omega, fun e he => Nat.le_trans (m.fewp e he) (by decide)⟩, by omega, m.fewp, fun e he => ?_, fun e he => pool_nob _ (hin e he)⟩
  · rw [z] at hle
    simp at hle
    omega
  · have := (m.pos e he).2
    have := m.w2
    omega
theorem MadeC.perm {es es' : List Ent} (p : es'.Perm es) (v : MadeC es) : MadeC es' :=
  ⟨v.v.perm p, by rw [p.length_eq]; exact v.few, fun e he => v.fewp e (p.mem_iff.mp he), fun e he => v.wt e (p.mem_iff.mp he), fun e he => v.nob e (p.mem_iff.mp he)⟩
/-- the comprehension of the lighter ones -/
def lightO (H : Hp) (w : Int) (v : V) : Option V := match itemAt H 1 v with
  | some (.int u) => if u < w then itemAt H 0 v else none
  | _ => none
theorem lightO_at {H : Hp} {w : Int} {v : V} {e : Ent} (h : EntAt H v e) : lightO H w v = if e.w < w then some (V.str e.name) else none := by
  obtain ⟨t, l, rfl, ht, _⟩ := h
  unfold lightO
  rw [itemAt_tup ht, itemAt_tup ht]
  rfl
theorem light_fm (w : Int) : ∀ es : List Ent, es.filterMap (fun x => if x.w < w then some (V.str x.name) else none) = ((es.filter fun x => decide (x.w < w)).map (·.name)).map V.str
  | [] => rfl
  | x :: xs => by
    rw [List.filterMap_cons, List.filter_cons, light_fm w xs]
    by_cases z : x.w < w
    · rw [if_pos z, if_pos (decide_eq_true z)]
      rfl
    · rw [if_neg z, if_neg (fun y => z (of_decide_eq_true y))]
theorem ins_perm {α : Type} (xs : List α) (i : Nat) (x : α) : (xs.take i ++ [x] ++ xs.drop i).Perm (xs ++ [x]) := by
  have h : (xs.take i ++ xs.drop i ++ [x]).Perm (xs ++ [x]) := by rw [List.take_append_drop]
  refine List.Perm.trans ?_ h
  rw [List.append_assoc, List.append_assoc]
  exact List.Perm.append_left _ List.perm_append_comm
section
variable {P : Program} {w : World} {K : PySem.W.Frag} {mg : Str → Option Value} {base : Heap} {Tb : List (Addr × Str)}
theorem ok_law_catalogue {f : Addr} {fd : FuncData} (F : FnP K "_law_catalogue" s_law_catalogue f fd) (T : Tx K mg) (G_law_draw : Fn P w K mg base "_law_draw" 1 ["bag", "many"] (sp_law_draw Tb K)) : FnOk P w K mg base CX0 2 f fd ["bag", "most"] (sp_law_catalogue Tb K) := by
  refine F.ok sc_law_catalogue (fun vs H Q E h => ?_) (fun cdv A outer s H vs Q E hr h => ?_)
  · obtain ⟨_, _, _, _, _, rfl, _⟩ := h
    rfl
  · obtain ⟨p, n, L, G, most, rfl, hs, hn, hm1, hm2, k⟩ := h
    refine ⟨_, PSs.nox (pss_cons (ps_set (i := 2) sc_law_catalogue.nd rfl (Or.inl rfl) (pe_lst (pa_cons pe_str (pa_cons pe_str (pa_cons pe_str (pa_cons pe_str (pa_cons pe_str (pa_cons pe_str (pa_cons pe_str (pa_cons pe_str (pa_cons pe_str (pa_cons pe_str (pa_cons pe_str (pa_cons pe_str (pa_cons pe_str (pa_cons pe_str (pa_cons pe_str (pa_cons pe_str pa_nil))))))))))))))))))
      (pss_cons (ps_asg (pe_tup (pa_cons (pe_lst pa_nil) (pa_cons (pe_op op_cat (pv 2) (pe_lst (pa_cons pe_str (pa_cons pe_str (pa_cons pe_str (pa_cons pe_str pa_nil)))))) (pa_cons (pe_op op_add pe_int (pe_fn G_law_draw (hr.mono (by decide)) (pa_cons (pv 0) (pa_cons pe_int pa_nil)))) pa_nil)))) (pg_tup rfl (pgs_cons (pg_name (i := 4) sc_law_catalogue.nd rfl (Or.inl rfl)) (pgs_cons (pg_name (i := 2) sc_law_catalogue.nd rfl (Or.inl rfl)) (pgs_cons (pg_name (i := 5) sc_law_catalogue.nd rfl (Or.inr rfl)) pgs_nil)))))
      (pss_cons (ps_for PassesOwn.never rfl (pi_range1 (by rfl) T.n_range (pa_cons (pe_op op_add pe_int (pe_fn G_law_draw (hr.mono (by decide)) (pa_cons (pv 0) (pa_cons (pv 1) pa_nil)))) pa_nil)) (pg_name (i := 3) sc_law_catalogue.nd rfl (Or.inl rfl)) (pss_cons (ps_set (i := 6) sc_law_catalogue.nd rfl (Or.inr rfl) (pe_lc (own := [("entry", 9)]) (g := (gName 9)) (tt := _) rfl sc_law_catalogue.nd (piL (K := K) rfl (pv 4)) (blkOk_by (N := N_law_catalogue) (sc := (defScope s_law_catalogue)) (by decide +kernel)) (fun _ _ _ _ _ => (pg_name (i := 9) sc_law_catalogue.nd rfl (Or.inl rfl))) (fun _ _ _ _ _ => (pts_one (pt_cmpR op_lt (pe_ix (ixT (K := K) rfl) (pv 9) pe_int (fun _ _ => rfl)) (pv 5) (nomark _)))) (fun _ _ _ _ _ => (pe_ix (ixT (K := K) rfl) (pv 9) pe_int (fun _ _ => rfl)))))
        (pss_cons (ps_set (i := 7) sc_law_catalogue.nd rfl (Or.inl rfl) (pe_lst pa_nil))
        (pss_cons (ps_if (PW.pt (pw_and (pt_cmpR op_gt (pe_callB (lenS (K := K) rfl) (by rfl) T.n_len (by decide +kernel) (pa_cons (pv 6) pa_nil)) pe_int (nomark _)) (pw_and1 (pt_cmpR op_gt (pe_fn G_law_draw (hr.mono (by decide)) (pa_cons (pv 0) (pa_cons pe_int pa_nil))) pe_int (nomark _))))) (pss_one (ps_setLc (i := 7) (own := [("index", 10)]) (g := (gName 10)) (tt := tYes) rfl sc_law_catalogue.nd rfl rfl (sw_true rfl rfl rfl (by decide +kernel)) (pi_range1 (by rfl) T.n_range (pa_cons (pe_op op_add pe_int (pe_fn G_law_draw (hr.mono (by decide)) (pa_cons (pv 0) (pa_cons pe_int pa_nil)))) pa_nil)) (blkOk_by (N := N_law_catalogue) (sc := (defScope s_law_catalogue)) (by decide +kernel)) (fun _ _ _ _ _ => (pg_name (i := 10) sc_law_catalogue.nd rfl (Or.inl rfl))) (fun _ _ _ _ _ => pts_nil) (fun _ _ _ _ _ => (pe_ix (ixL (K := K) rfl) (pv 6) (pe_fn G_law_draw (hr.mono (by decide)) (pa_cons (pv 0) (pa_cons (pe_callB (lenS (K := K) rfl) (by rfl) T.n_len (by decide +kernel) (pa_cons (pv 6) pa_nil)) pa_nil))) (fun _ _ => rfl))))) pss_nil)
        (pss_cons (ps_set (i := 8) sc_law_catalogue.nd rfl (Or.inl rfl) (peBm (K := K) rfl PySem.F.plainAttrs_list PySem.F.slot_list_pop PySem.F.type_list_pop mt_popAt (pv 2) (pa_cons (pe_fn G_law_draw (hr.mono (by decide)) (pa_cons (pv 0) (pa_cons (pe_callB (lenS (K := K) rfl) (by rfl) T.n_len (by decide +kernel) (pa_cons (pv 2) pa_nil)) pa_nil))) pa_nil)))
        (pss_cons (ps_expr (peBm (K := K) rfl PySem.F.plainAttrs_list PySem.F.slot_list_insert PySem.F.type_list_insert mt_insert (pv 4) (pa_cons (pe_fn G_law_draw (hr.mono (by decide)) (pa_cons (pv 0) (pa_cons (pe_op op_add (pe_callB (lenS (K := K) rfl) (by rfl) T.n_len (by decide +kernel) (pa_cons (pv 4) pa_nil)) pe_int) pa_nil))) (pa_cons (pe_tup (pa_cons (pv 8) (pa_cons (pv 5) (pa_cons (pv 7) pa_nil)))) pa_nil))))
        (pss_one (ps_aug (i := 5) sc_law_catalogue.nd rfl (Or.inr rfl) (pe_fn G_law_draw (hr.mono (by decide)) (pa_cons (pv 0) (pa_cons pe_int pa_nil))) ip_add))))))))
      (pss_one (ps_ret (pv 4)))))), ?_⟩
    refine ⟨by show 16 ≤ sizeLine; decide, fun la hla => ?_⟩
    have h1 := hs.new hla (.lst (xs := poolA.map V.str))
    refine ⟨Nat.zero_le _, fun f hf => ?_⟩
    have h2 := h1.new hf (.lst (xs := []))
    refine ⟨_, rfl, by show 4 ≤ sizeLine; decide, fun lb hlb => ?_⟩
    have h3 := h2.new hlb (.lst (xs := poolB.map V.str))
    refine ⟨la, lb, poolA.map V.str, poolB.map V.str, rfl, rfl, h3.get (i := 2) rfl, h3.get (i := 0) rfl, by show 16 + 4 ≤ sizeLine; decide, fun l hl => ?_⟩
    have h4 := (h3.drop1.new hl (.lst (xs := (poolA ++ poolB).map V.str)))
    have h5 := h4.sub (L' := (l, .lst ((poolA ++ poolB).map V.str)) :: (f, .lst []) :: L) (.cons₂ _ (.cons₂ _ (.cons _ (.refl _))))
    refine ⟨_, rfl, p, _, _, G, 3, rfl, h5, by omega, by decide, by decide +kernel, fun w0 H1 w00 w01 h6 => ⟨_, _, rfl, rfl, ?_⟩⟩
    refine ⟨by show 3 ≤ sizeLine; decide, fun t0 ht0 => gtup3 upd_same ?_⟩
    have h7 := (h6.new ht0 (.tup (xs := [.ref f, .ref l, .int (1 + w0)]))).drop1
    refine ⟨_, rfl, _, rfl, p, _, _, G, most, rfl, h7, by omega, hm1, Int.lt_of_le_of_lt hm2 (by decide +kernel), fun d0 H2 d00 d01 h8 => ?_⟩
    clear h1 h2 h3 h4 h5 h6 h7
    refine ⟨_, _, rfl, rfl, _, rfl, ?_, ?_, for_range (lo := 0) (n := (1 + d0).toNat) (fun i σ H' => ∃ (w : Int) (G1 : Hp) (rest : List Str) (ys : List V) (es : List Ent) (s3 s6 s7 s8 s9 s10 : Option V), σ = [some (.ref p), some (.int most), some (.ref l), s3, some (.ref f), some (.int w), s6, s7, s8, s9, s10] ∧ Same G G1 ∧ CatAt G1 ys es ∧ MadeAtD rest i w es ∧ Hb Tb p (n + 2 + 10 * i) ((l, .lst (rest.map V.str)) :: (f, .lst ys) :: L) G1 H')
      ⟨1 + w0, G, poolA ++ poolB, [], [], _, _, _, _, _, _, rfl, fun _ _ e => e, .nil, ⟨.refl _, rfl, by simp, by simp, by simp, by omega, by omega⟩, h8⟩ ?_ ?_⟩
    · show -(2 ^ 62) ≤ 1 + d0
      omega
    · show 1 + d0 < 2 ^ 62
      omega
    · rintro i σ H3 hi ⟨w, G1, rest, ys, es, s3, s6, s7, s8, s9, s10, rfl, gs, hc, hma, h1⟩
      have hi20 : i < 20 := by omega
      have hrl : rest.length = 20 - i := by
        have := hma.names.length_eq
        rw [List.length_append, List.length_map, hma.len] at this
        have e : (poolA ++ poolB).length = 20 := rfl
        omega
      have hel := hma.len
      have hyl := Paired.len hc
      -- lighter
      have hcl := hc.mono h1.fz.sub
      have hf5 := h1.get (i := 1) rfl
      refine ⟨_, rfl, f, rfl, ⟨_, SqL.of hf5⟩, fun D hD => lc_fm (Tb := Tb) (xs := ys) walk_list rfl (lightO H3 w) hD (by omega) (fun H' g => SqL.of (g.at hf5 .lst)) (fun j v H' hv g Rk Rs hk hks => ?_) fun H6 g6 hD6 => ?_⟩
      · obtain ⟨e, he, hev⟩ := Paired.at hcl hv
        have hlo := lightO_at (w := w) hev
        obtain ⟨t, lp, rfl, ht, hlp⟩ := hev
        have ht' := g.at ht .tup
        refine ⟨rfl, _, rfl, t, _, ((1 : Nat) : Int), _, rfl, rfl, SqT.of ht', atI_nat (j := 1) rfl, _, rfl, _, _, rfl, rfl, _, rfl, ?_⟩
        refine ite2 (fun c1 => ?_) (fun c1 => ?_)
        · have c2 := of_decide_eq_true c1
          exact ⟨_, rfl, t, _, ((0 : Nat) : Int), _, rfl, rfl, SqT.of ht', atI_nat (j := 0) rfl, hk _ _ (by rw [hlo, if_pos c2]) (Gr.refl _)⟩
        · exact hks _ (by rw [hlo, if_neg (fun z => c1 (decide_eq_true z))]) (Gr.refl _)
      have elt : ys.filterMap (lightO H3 w) = ((es.filter fun e => decide (e.w < w)).map (·.name)).map V.str := by
        rw [fm_pairedO (g := fun e => if e.w < w then some (V.str e.name) else none) (fun v e h => lightO_at h) hcl, light_fm]
      rw [elt] at hD6
      have h7 := h1.grow g6 (.of hD) hD6 .lst
      have hlight : ∀ q ∈ (es.filter fun e => decide (e.w < w)).map (·.name), ∃ e' ∈ es, e'.name = q ∧ e'.w < w := fun q hq => by
        obtain ⟨e, he, rfl⟩ := List.mem_map.mp hq
        obtain ⟨a, b⟩ := List.mem_filter.mp he
        exact ⟨e, a, rfl, of_decide_eq_true b⟩
      have hll : ((es.filter fun e => decide (e.w < w)).map (·.name)).length ≤ 40 := by
        rw [List.length_map]
        exact Nat.le_trans (List.length_filter_le _ _) (by omega)
      generalize (es.filter fun e => decide (e.w < w)).map (·.name) = lt at h7 hlight hll
      clear elt hD6 hcl h1 hf5
      refine goN ?_
      dsimp only
      refine ⟨Nat.zero_le _, fun pe hpe => ?_⟩
      have h8 := h7.new hpe (.lst (xs := []))
      refine goN ?_
      dsimp only
      refine sq_st (fun σ H' => ∃ (pa : Addr) (ps : List Str) (s10 : Option V), σ = [some (.ref p), some (.int most), some (.ref l), some (.int (0 + (i : Int))), some (.ref f), some (.int w), some (.ref D), some (.ref pa), s8, s9, s10] ∧ (∀ q ∈ ps, q ∈ lt) ∧ ps.length ≤ 3 ∧ Hb Tb p (n + 2 + 10 * i + 5) ((pa, .lst (ps.map V.str)) :: (l, .lst (rest.map V.str)) :: (f, .lst ys) :: L) G1 H') ?_ ?_
      · intro N hN
        have out : ∀ {m : Nat} {H : Hp} {s10 : Option V}, m ≤ n + 2 + 10 * i + 5 → Hb Tb p m ((pe, .lst []) :: (D, .lst (lt.map V.str)) :: (l, .lst (rest.map V.str)) :: (f, .lst ys) :: L) G1 H → N [some (.ref p), some (.int most), some (.ref l), some (.int (0 + (i : Int))), some (.ref f), some (.int w), some (.ref D), some (.ref pe), s8, s9, s10] H := fun hm q => hN _ _ ⟨pe, [], _, rfl, (fun q hq => by cases hq), by decide, q.drop2.mono hm⟩
        refine ⟨_, rfl, D, _, rfl, .inl (SqL.of (h8.get (i := 1) rfl)), _, _, rfl, rfl, _, rfl, ?_⟩
        refine ite2 (fun c1 => ?_) (fun c1 => out (by omega) h8)
        have ltp : 0 < lt.length := by
          have := of_decide_eq_true c1
          rw [List.length_map] at this
          omega
        refine ⟨_, rfl, p, _, _, G1, 4, rfl, h8, by omega, by decide, by decide +kernel, fun x9 H9 x90 x91 h9 => ⟨_, _, rfl, rfl, _, rfl, ?_⟩⟩
        refine ite2 (fun c2 => ?_) (fun c2 => out (by omega) h9)
        refine ⟨_, rfl, p, _, _, G1, 3, rfl, h9, by omega, by decide, by decide +kernel, fun sz H10 sz0 sz1 h10 => ⟨_, _, rfl, rfl, _, rfl, ?_, ?_, fun D2 hD2 => lc_range (lo := 0) (n := (1 + sz).toNat) (fun j H' => ∃ acc : List Str, acc.length = j ∧ (∀ q ∈ acc, q ∈ lt) ∧ Hb Tb p (n + 2 + 10 * i + 2 + j) ((D2, .lst (acc.map V.str)) :: (pe, .lst []) :: (D, .lst (lt.map V.str)) :: (l, .lst (rest.map V.str)) :: (f, .lst ys) :: L) G1 H') ⟨[], rfl, by simp, h10.new hD2 .lst⟩ ?_ ?_⟩⟩
        · show -(2 ^ 62) ≤ 1 + sz
          omega
        · show 1 + sz < 2 ^ 62
          omega
        · rintro j H' hj ⟨acc, hal, hin, h11⟩
          refine ⟨rfl, _, rfl, _, rfl, _, rfl, D, _, rfl, .inl (SqL.of (h11.get (i := 2) rfl)), p, _, _, G1, (lt.length : Int), by rw [List.length_map]; rfl, h11, by omega, by omega, Int.lt_of_le_of_lt (show (lt.length : Int) ≤ 40 by omega) (by decide +kernel), fun r H7 r0 r1 h12 => ?_⟩
          obtain ⟨y, hy, ey⟩ := pick_at (xs := lt.map V.str) r0 (by rw [List.length_map]; exact r1)
          obtain ⟨q, hq, rfl⟩ := List.mem_map.mp hy
          refine ⟨D, _, r, .str q, rfl, rfl, SqL.of (h12.get (i := 2) rfl), ey, _, h12.get (i := 0) rfl, ?_, acc ++ [q], ?_, fun q2 hq2 => ?_, ?_⟩
          · rw [List.length_map, sizeLine_eq]
            omega
          · rw [List.length_append, List.length_singleton, hal]
          · rcases List.mem_append.mp hq2 with z | z
            · exact hin q2 z
            · rw [List.mem_singleton.mp z]
              exact hq
          · have h13 := h12.put (i := 0) (o' := .lst ((acc ++ [q]).map V.str)) rfl .lst
            rw [List.map_append] at h13 ⊢
            exact h13
        · rintro H11 ⟨acc, hal, hin, h11⟩
          exact hN _ _ ⟨D2, acc, _, rfl, hin, by omega, h11.drop2.drop2.mono (by omega)⟩
      rintro σ H8 ⟨pa, ps, s10, rfl, hpi, hpl, h9⟩
      clear h8 h7
      -- its name
      refine ⟨_, rfl, .inl ⟨rfl, _, SqL.of (h9.get (i := 1) rfl)⟩, _, rfl, _, rfl, l, rest.map V.str, rfl, .inl (SqL.of (h9.get (i := 1) rfl)), p, _, _, G1, (rest.length : Int), by rw [List.length_map]; rfl, h9, by omega, by omega, Int.lt_of_le_of_lt (show (rest.length : Int) ≤ 20 by omega) (by decide +kernel), fun r H4 r0 r1 h10 => ?_⟩
      obtain ⟨nm, hnm⟩ : ∃ y, rest[r.toNat]? = some y := ⟨_, List.getElem?_eq_getElem (by omega)⟩
      refine ⟨l, rest.map V.str, r, r.toNat, .str nm, rfl, rfl, h10.get (i := 1) rfl, ?_, ?_, seq_ix r0 (by rw [List.length_map]; exact r1), by rw [List.getElem?_map, hnm]; rfl, ?_⟩
      · omega
      · omega
      have h11 := h10.put (i := 1) (o' := .lst ((rest.map V.str).eraseIdx r.toNat)) rfl .lst
      rw [erase_mapS] at h11 ⊢
      have gP : Same G1 (upd G1 pa (.lst (ps.map V.str))) := Same.upd h9.cfree
      have pa' : upd G1 pa (.lst (ps.map V.str)) pa = some (.lst (ps.map V.str)) := upd_same
      have h12 : Hb Tb p (n + 2 + 10 * i + 6) ((l, .lst ((rest.eraseIdx r.toNat).map V.str)) :: (f, .lst ys) :: L) (upd G1 pa (.lst (ps.map V.str))) _ := Hb.freeze h11
      generalize upd G1 pa (.lst (ps.map V.str)) = G2 at h12 gP pa'
      clear h9 h10 h11
      refine goN ?_
      dsimp only
      -- it is put in
      refine ⟨_, rfl, .inl ⟨rfl, _, SqL.of (h12.get (i := 1) rfl)⟩, _, rfl, _, rfl, f, ys, rfl, .inl (SqL.of (h12.get (i := 1) rfl)), _, _, rfl, rfl, p, _, _, G2, (ys.length : Int) + 1, rfl, h12, by omega, by omega, Int.lt_of_le_of_lt (show (ys.length : Int) + 1 ≤ 30 by omega) (by decide +kernel), fun u H5 u0 u1 h13 => ?_⟩
      refine ⟨_, rfl, _, rfl, _, rfl, by show 3 ≤ sizeLine; decide, fun t ht => ?_⟩
      have h14 := h13.new ht (.tup (xs := [.str nm, .int w, .ref pa]))
      have gT : Same G2 (upd G2 t (.tup [.str nm, .int w, .ref pa])) := Same.upd h14.cfree
      have ex : EntAt (upd G2 t (.tup [.str nm, .int w, .ref pa])) (.ref t) ⟨nm, w, ps⟩ := ⟨t, pa, rfl, upd_same, gT _ _ pa'⟩
      have h15 := h14.freeze
      generalize upd G2 t (.tup [.str nm, .int w, .ref pa]) = G3 at h15 gT ex
      refine ⟨f, ys, u, .ref t, rfl, rfl, h15.get (i := 1) rfl, by rw [sizeLine_eq]; omega, u0, by omega, ?_⟩
      have h16 := h15.put (i := 1) (o' := .lst (ys.take u.toNat ++ [.ref t] ++ ys.drop u.toNat)) rfl .lst
      generalize upd _ f (.lst (ys.take u.toNat ++ [.ref t] ++ ys.drop u.toNat)) = H6 at h16 ⊢
      clear h12 h13 h14 h15 ht
      have g13 : Same G1 G3 := fun _ _ z => gT _ _ (gP _ _ z)
      have hc3 := hc.mono g13
      refine ⟨_, rfl, _, rfl, p, _, _, G3, 3, rfl, h16, by omega, by decide, by decide +kernel, fun dw H7 dw0 dw1 h17 => ?_⟩
      refine ⟨_, _, rfl, rfl, ?_⟩
      refine ⟨w + dw, G3, rest.eraseIdx r.toNat, ys.take u.toNat ++ [.ref t] ++ ys.drop u.toNat, es.take u.toNat ++ [⟨nm, w, ps⟩] ++ es.drop u.toNat, _, _, _, _, _, _, rfl, fun _ _ z => g13 _ _ (gs _ _ z), Paired.app (Paired.app (paired_take _ hc3) (.cons ex .nil)) (paired_drop _ hc3), ?_, h17.mono (by omega)⟩
      exact (hma.step hnm (by omega) (by omega) (fun q hq => hlight q (hpi q hq)) hpl).perm (ins_perm _ _ _)
    · rintro σ H3 ⟨w, G1, rest, ys, es, s3, s6, s7, s8, s9, s10, rfl, gs, hc, hma, h1⟩
      refine ⟨_, rfl, k f H3 G1 ys es gs hc (hma.made (by omega) (by omega)) (by have := hma.len; omega) (h1.drop1.mono (by omega))⟩
end
end Sk
namespace Sk
open PySem PySem.Spec PyProof.Rows L2
abbrev s_law_order : Stmt := topS 40
abbrev N_law_order : List Str := ["pool", "keys", "known", "entry", "weight", "name"]
theorem sc_law_order : FnScope N_law_order ["pool"] (defScope s_law_order) := ⟨rfl, rfl, rfl, by decide +kernel, rfl, by decide +kernel, by decide +kernel⟩
def sp_law_order (Tb : List (Addr × Str)) (K : PySem.W.Frag) : Sp := fun vs H Q _ => ∃ (a : Addr) (xs : List V) (es : List Ent), vs = [.ref a] ∧ SqL K H a xs ∧ CatAt H xs es ∧ Valid es ∧
  ∀ r H' ys es', es'.Perm es → Ordered es' → (∀ y ∈ ys, y ∈ xs) → CatAt H ys es' → Gr Tb H H' → Nw H r → H' r = some (.lst ys) → Q (.ref r) H'
/-- y is the key of the entry at v -/
def KRow (H0 H : Hp) (v y : V) : Prop := ∀ e, EntAt H0 v e → ∃ t, y = .ref t ∧ H t = some (.tup [.int (0 - e.w), .str e.name])
def KAt (H : Hp) (y : V) (e : Ent) : Prop := ∃ t, y = .ref t ∧ H t = some (.tup [.int (0 - e.w), .str e.name])
theorem krow_at {H0 H : Hp} : ∀ {xs : List V} {es : List Ent} {zs : List V}, CatAt H0 xs es → Paired (KRow H0 H) xs zs → Paired (KAt H) zs es
  | _, _, _, .nil, .nil => .nil
  | _, _, _, .cons h t, .cons a b => .cons (a _ h) (krow_at t b)
def kOf (H : Hp) : V → Int × Str
  | .ref t => match H t with
    | some (.tup [.int i, .str n]) => (i, n)
    | _ => (0, Str.empty)
  | _ => (0, Str.empty)
theorem kOf_at {H : Hp} {y : V} {e : Ent} (h : KAt H y e) : kOf H y = e.key := by
  obtain ⟨t, rfl, ht⟩ := h
  show (match H t with
    | some (.tup [.int i, .str n]) => (i, n)
    | _ => (0, Str.empty)) = _
  rw [ht]
  rfl
theorem kat_name {H : Hp} {y : V} {e e' : Ent} (h : KAt H y e) (h' : KAt H y e') : e.name = e'.name := by
  have := (kOf_at h).symm.trans (kOf_at h')
  exact congrArg Prod.snd this
theorem k_ordered {H : Hp} : ∀ {ys : List V} {es : List Ent}, Paired (KAt H) ys es → SrtO.Srtd (fun x y => kLt (kOf H x) (kOf H y)) ys → Ordered es
  | _, _, .nil, _ => List.Pairwise.nil
  | y :: ys, e :: es, .cons h t, s => by
    obtain ⟨s1, s2⟩ := List.pairwise_cons.mp s
    refine List.pairwise_cons.mpr ⟨fun e' he' => ?_, k_ordered t s2⟩
    obtain ⟨y', hy', h'⟩ := Paired.right t he'
    have z : kLt (kOf H y') (kOf H y) = false := s1 y' hy'
    rw [kOf_at h, kOf_at h'] at z
    exact z
theorem kat_cat {H H1 : Hp} {es : List Ent} {xs : List V} : ∀ {ws ys : List V} {es' : List Ent}, (∀ e ∈ es', e ∈ es) → Paired (KAt H1) ws es' → Paired (fun z y => (∀ e ∈ es, KAt H1 z e → EntAt H y e) ∧ y ∈ xs) ws ys → CatAt H ys es'
  | _, _, _, _, .nil, .nil => .nil
  | _, _, _, h, .cons a t, .cons b u => .cons (b.1 _ (h _ (List.mem_cons_self ..)) a) (kat_cat (fun e he => h e (List.mem_cons_of_mem _ he)) t u)
theorem merge_out {kvs : List (Key × V)} : ∀ {acc : List (Key × V)} {k : Key}, k ∉ kvs.map (·.1) → valV (mergeK acc kvs) k = valV acc k := by
  induction kvs with
  | nil => intro acc k _; rfl
  | cons q l ih =>
    intro acc k h
    rw [List.map_cons, List.mem_cons, not_or] at h
    show valV (mergeK (putK acc q.1 q.2) l) k = _
    rw [ih h.2, valV_put, if_neg h.1]
theorem merge_in {kvs : List (Key × V)} : ∀ {acc : List (Key × V)} {q : Key × V}, (kvs.map (·.1)).Nodup → q ∈ kvs → valV (mergeK acc kvs) q.1 = some q.2 := by
  induction kvs with
  | nil => intro acc q _ h; cases h
  | cons x l ih =>
    intro acc q nd h
    rw [List.map_cons, List.nodup_cons] at nd
    show valV (mergeK (putK acc x.1 x.2) l) q.1 = _
    rcases List.mem_cons.mp h with rfl | h2
    · rw [merge_out nd.1, valV_put, if_pos rfl]
    · exact ih nd.2 h2
/-- y is a pair of the name and v -/
def DRow (H0 H : Hp) (v y : V) : Prop := ∀ e, EntAt H0 v e → ∃ t, y = .ref t ∧ H t = some (.tup [.str e.name, v])
theorem drow_dict {K : PySem.W.Frag} {H0 H : Hp} : ∀ {xs : List V} {es : List Ent} {zs : List V}, CatAt H0 xs es → Paired (DRow H0 H) xs zs → ∃ (ps : List Addr) (kvs : List (Key × V)), zs = ps.map V.ref ∧ Paired (fun p kv => SqT K H p [kV kv.1, kv.2]) ps kvs ∧ Paired (fun (kv : Key × V) (e : Ent) => kv.1 = .inr e.name ∧ EntAt H0 kv.2 e ∧ kv.2 ∈ xs) kvs es
  | _, _, _, .nil, .nil => ⟨[], [], rfl, .nil, .nil⟩
  | v :: xs, e :: es, _ :: _, .cons a t, .cons b u => by
    obtain ⟨ps, kvs, e1, e2, e3⟩ := drow_dict (K := K) t u
    obtain ⟨t', h1, h2⟩ := b e a
    refine ⟨t' :: ps, (.inr e.name, v) :: kvs, by rw [h1, e1]; rfl, .cons (SqT.of h2) e2, .cons ⟨rfl, a, List.mem_cons_self ..⟩ (Paired.imp (fun kv e h => ⟨h.1, h.2.1, List.mem_cons_of_mem _ h.2.2⟩) e3)⟩
theorem drow_keys {H0 : Hp} {xs : List V} : ∀ {kvs : List (Key × V)} {es : List Ent}, Paired (fun (kv : Key × V) (e : Ent) => kv.1 = .inr e.name ∧ EntAt H0 kv.2 e ∧ kv.2 ∈ xs) kvs es → kvs.map (·.1) = (es.map (·.name)).map Sum.inr
  | _, _, .nil => rfl
  | _, _, .cons a t => by rw [List.map_cons, List.map_cons, List.map_cons, a.1, drow_keys t]
section
variable {P : Program} {w : World} {K : PySem.W.Frag} {mg : Str → Option Value} {base : Heap} {Tb : List (Addr × Str)}
theorem ok_law_order {f : Addr} {fd : FuncData} (F : FnP K "_law_order" s_law_order f fd) (T : Tx K mg) : FnOk P w K mg base CX0 1 f fd ["pool"] (sp_law_order Tb K) := by
  refine F.ok sc_law_order (fun vs H Q E h => ?_) (fun cdv A outer s H vs Q E hr h => ?_)
  · obtain ⟨_, _, _, rfl, _⟩ := h
    rfl
  · obtain ⟨a, xs, es, rfl, ha, hc, hv, k⟩ := h
    refine ⟨_, PSs.nox (pss_cons (ps_set (i := 1) sc_law_order.nd rfl (Or.inl rfl) (pe_callB (crSortedT (K := K) rfl) (by rfl) T.n_sorted (by decide +kernel) (pa_cons (pe_lc (own := [("entry", 3)]) (g := (gName 3)) (tt := tYes) rfl sc_law_order.nd (piL (K := K) rfl (pv 0)) (blkOk_by (N := N_law_order) (sc := (defScope s_law_order)) (by decide +kernel)) (fun _ _ _ _ _ => (pg_name (i := 3) sc_law_order.nd rfl (Or.inl rfl))) (fun _ _ _ _ _ => pts_nil) (fun _ _ _ _ _ => (pe_tup (pa_cons (pe_op op_sub pe_int (pe_ix (ixT (K := K) rfl) (pv 3) pe_int (fun _ _ => rfl))) (pa_cons (pe_ix (ixT (K := K) rfl) (pv 3) pe_int (fun _ _ => rfl)) pa_nil))))) pa_nil)))
      (pss_cons (ps_set (i := 2) sc_law_order.nd rfl (Or.inr rfl) (pe_callTy (dictP (K := K) rfl rfl) (by rfl) T.n_dict (by decide +kernel) (pa_cons (pe_lc (own := [("entry", 3)]) (g := (gName 3)) (tt := tYes) rfl sc_law_order.nd (piL (K := K) rfl (pv 0)) (blkOk_by (N := N_law_order) (sc := (defScope s_law_order)) (by decide +kernel)) (fun _ _ _ _ _ => (pg_name (i := 3) sc_law_order.nd rfl (Or.inl rfl))) (fun _ _ _ _ _ => pts_nil) (fun _ _ _ _ _ => (pe_tup (pa_cons (pe_ix (ixT (K := K) rfl) (pv 3) pe_int (fun _ _ => rfl)) (pa_cons (pv 3) pa_nil))))) pa_nil)))
      (pss_one (ps_ret (pe_lc (own := [("weight", 4), ("name", 5)]) (g := (gTup K 2 (gCons (gName 4) (gCons (gName 5) gNil)))) (tt := tYes) rfl sc_law_order.nd (piL (K := K) rfl (pv 1)) (blkOk_by (N := N_law_order) (sc := (defScope s_law_order)) (by decide +kernel)) (fun _ _ _ _ _ => (pg_tup rfl (pgs_cons (pg_name (i := 4) sc_law_order.nd rfl (Or.inl rfl)) (pgs_cons (pg_name (i := 5) sc_law_order.nd rfl (Or.inl rfl)) pgs_nil)))) (fun _ _ _ _ _ => pts_nil) (fun _ _ _ _ _ => (pe_dget (hu_of hr) (pv 2) (pv 5) (fun _ _ => rfl)))))))), ?_⟩
    have hz := hv.few
    have hl := Paired.len hc
    refine ⟨_, rfl, a, rfl, ⟨_, ha⟩, fun D hD => lc_rel (Tb := Tb) (xs := xs) walk_list rfl (fun _ => true) (KRow H) (fun H1 H2 x y m r e he => by
      obtain ⟨t, b1, b2⟩ := r e he
      exact ⟨t, b1, m _ _ .tup (.inl fun _ z => by cases z) b2⟩) hD (by omega) (fun H' g => g.ext_seq ha) (fun j v H' hvj g hDn Rk Rs hk hs => ?_) fun H1 zs g1 hD1 hzs => ?_⟩
    · obtain ⟨e, he, hev⟩ := Paired.at hc hvj
      obtain ⟨t, lp, rfl, ht0, hlp⟩ := id hev
      refine ⟨rfl, _, rfl, t, _, ((1 : Nat) : Int), _, rfl, rfl, SqT.of (g.at ht0 .tup), atI_nat (j := 1) rfl, _, _, rfl, rfl, _, rfl, t, _, ((0 : Nat) : Int), _, rfl, rfl, SqT.of (g.at ht0 .tup), atI_nat (j := 0) rfl, by show 2 ≤ sizeLine; decide, fun t2 ht2 => hk _ _ rfl (Gr.new ht2) fun e2 he2 => ?_⟩
      rw [hev.uniq he2]
      exact ⟨t2, rfl, upd_same⟩
    have ef : xs.filter (fun _ => true) = xs := List.filter_eq_self.mpr fun _ _ => rfl
    rw [ef] at hzs
    have hrow : Paired (KAt H1) zs es := krow_at hc hzs
    refine ⟨D, zs, kOf H1, fun _ => [], rfl, SqL.of hD1, fun z hz => ?_, (fun z _ r hr => by cases hr), (fun z hz w hw h => .inr ⟨rfl, rfl⟩), fun ws r hs hst hr => ?_⟩
    · obtain ⟨e, _, t, rfl, ht⟩ := Paired.left hrow hz
      refine ⟨t, rfl, ?_⟩
      rw [kOf_at ⟨t, rfl, ht⟩, ht]
      rfl
    obtain ⟨es', hp, hrow'⟩ := Paired.perm hst.perm hrow
    have ho : Ordered es' := k_ordered hrow' hs
    have hv' := hv.perm hp
    have g2 : Gr Tb H1 (upd H1 r (.lst ws)) := Gr.new hr
    have hr2 : (upd H1 r (.lst ws)) r = some (.lst ws) := upd_same
    have hwl := Paired.len hrow'
    have hfew := hv'.few
    generalize upd H1 r (.lst ws) = H2 at g2 hr2
    -- by their names
    have g02 := g1.trans g2
    refine goN ?_
    dsimp only
    refine ⟨_, rfl, a, rfl, ⟨_, g02.ext_seq ha⟩, fun D2 hD2 => lc_rel (Tb := Tb) (xs := xs) walk_list rfl (fun _ => true) (DRow H) (fun H1 H2 x y m r e he => by
      obtain ⟨t, b1, b2⟩ := r e he
      exact ⟨t, b1, m _ _ .tup (.inl fun _ z => by cases z) b2⟩) hD2 (by omega) (fun H' g => (g02.trans g).ext_seq ha) (fun j v H' hvj g hDn Rk Rs hk hs => ?_) fun H3 zd g3 hD3 hzd => ?_⟩
    · obtain ⟨e, he, hev⟩ := Paired.at hc hvj
      obtain ⟨t, lp, rfl, ht0, hlp⟩ := id hev
      refine ⟨rfl, _, rfl, t, _, ((0 : Nat) : Int), _, rfl, rfl, SqT.of ((g02.trans g).at ht0 .tup), atI_nat (j := 0) rfl, _, rfl, by show 2 ≤ sizeLine; decide, fun t2 ht2 => hk _ _ rfl (Gr.new ht2) fun e2 he2 => ?_⟩
      rw [hev.uniq he2]
      exact ⟨t2, rfl, upd_same⟩
    rw [ef] at hzd
    obtain ⟨ps, kvs, ez, pd, pk⟩ := drow_dict (K := K) hc hzd
    refine ⟨D2, ps, kvs, rfl, SqL.of (by rw [← ez]; exact hD3), pd, fun kn hkn => ?_⟩
    have g4 := g3.trans (Gr.new (T := Tb) (o := .dK (mergeK [] kvs)) hkn)
    have hkn4 : (upd H3 kn (.dK (mergeK [] kvs))) kn = some (.dK (mergeK [] kvs)) := upd_same
    have ndk : (kvs.map (·.1)).Nodup := by
      rw [drow_keys pk]
      exact List.Pairwise.map _ (fun _ _ h z => h (Sum.inr.inj z)) hv.nodup
    generalize upd H3 kn (.dK (mergeK [] kvs)) = H4 at g4 hkn4
    have g04 := g02.trans g4
    have hr4 := g4.at hr2 .lst
    refine goN ?_
    dsimp only
    refine ⟨_, rfl, r, rfl, ⟨_, SqL.of hr4⟩, fun D4 hD4 => lc_rel (Tb := Tb) (xs := ws) walk_list rfl (fun _ => true) (fun _ z y => (∀ e ∈ es, KAt H1 z e → EntAt H y e) ∧ y ∈ xs) (fun _ _ _ _ _ h => h) hD4 (by omega) (fun H' g => SqL.of (g.at hr4 .lst)) (fun j z H' hz g hDn Rk Rs hk hks => ?_) fun H5 ys g5 hD5 hys => ?_⟩
    · obtain ⟨e, he, t, rfl, ht⟩ := Paired.at hrow' hz
      have hem : e ∈ es := hp.mem_iff.mp (List.mem_of_getElem? he)
      refine gtup2 (((g2.trans g4).trans g).at ht .tup) ⟨rfl, ?_⟩
      obtain ⟨kv, hkv, k1, k2, k3⟩ := Paired.right pk hem
      refine ⟨_, rfl, _, rfl, kn, kv.2, rfl, ?_, hk _ _ rfl (Gr.refl _) ⟨fun e3 h3 hk3 => ?_, k3⟩⟩
      · have := DGet.k (k := kv.1) (g.at hkn4 .dK)
        rw [merge_in ndk hkv, k1] at this
        exact this
      · have : e3 = e := same_name hv.nodup h3 hem (kat_name hk3 ⟨t, rfl, ht⟩)
        rw [this]
        exact k2
    have ef2 : ws.filter (fun _ => true) = ws := List.filter_eq_self.mpr fun _ _ => rfl
    rw [ef2] at hys
    have hcy : CatAt H ys es' := kat_cat (fun e he => hp.mem_iff.mp he) hrow' hys
    exact k D4 H5 ys es' hp ho (fun y hy => by
      obtain ⟨z, _, h⟩ := Paired.right hys hy
      exact h.2) hcy (g04.trans g5) (g04.nw (.of hD4)) hD5
end
end Sk
namespace Sk
open PySem PySem.Spec PyProof.Rows L2
abbrev s_law_pieces : Stmt := topS 41
abbrev N_law_pieces : List Str := ["pool", "supply", "taken", "found", "name", "weight", "parts", "part", "entry"]
theorem sc_law_pieces : FnScope N_law_pieces ["pool", "supply", "taken"] (defScope s_law_pieces) := ⟨rfl, rfl, rfl, by decide +kernel, rfl, by decide +kernel, by decide +kernel⟩
def sp_law_pieces (Tb : List (Addr × Str)) (K : PySem.W.Frag) : Sp := fun vs H Q _ => ∃ (a b c : Addr) (xs : List V) (es : List Ent) (d sp : Num), vs = [.ref a, .ref b, .ref c] ∧ SqL K H a xs ∧ CatAt H xs es ∧ H b = some (.dK (dS d)) ∧ H c = some (.dK (dS sp)) ∧ Valid es ∧
  ∀ r H', Gr Tb H H' → Nw H r → H' r = some (.dK (dS (numOf es (pn es d sp)))) → Q (.ref r) H'
section
variable {P : Program} {w : World} {K : PySem.W.Frag} {mg : Str → Option Value} {base : Heap} {Tb : List (Addr × Str)}
theorem ok_law_pieces {f : Addr} {fd : FuncData} (F : FnP K "_law_pieces" s_law_pieces f fd) (T : Tx K mg) : FnOk P w K mg base CX0 1 f fd ["pool", "supply", "taken"] (sp_law_pieces Tb K) := by
  refine F.ok sc_law_pieces (fun vs H Q E h => ?_) (fun cdv A outer s H vs Q E hr h => ?_)
  · obtain ⟨_, _, _, _, _, _, _, rfl, _⟩ := h
    rfl
  · obtain ⟨a, b, c, xs, es, d, sp, rfl, ha, hc, hb, hsp, hv, k⟩ := h
    refine ⟨_, PSs.nox (pss_cons (ps_set (i := 3) sc_law_pieces.nd rfl (Or.inl rfl) (pe_callTy (dictP (K := K) rfl rfl) (by rfl) T.n_dict (by decide +kernel) (pa_cons (pe_lc (own := [("entry", 8)]) (g := (gName 8)) (tt := tYes) rfl sc_law_pieces.nd (piL (K := K) rfl (pv 0)) (blkOk_by (N := N_law_pieces) (sc := (defScope s_law_pieces)) (by decide +kernel)) (fun _ _ _ _ _ => (pg_name (i := 8) sc_law_pieces.nd rfl (Or.inl rfl))) (fun _ _ _ _ _ => pts_nil) (fun _ _ _ _ _ => (pe_tup (pa_cons (pe_ix (ixT (K := K) rfl) (pv 8) pe_int (fun _ _ => rfl)) (pa_cons (pe_dget2 (hu_of hr) (pv 1) (pe_ix (ixT (K := K) rfl) (pv 8) pe_int (fun _ _ => rfl)) pe_int ⟨rfl, rfl, rfl, rfl⟩) pa_nil))))) pa_nil)))
      (pss_cons (ps_for PassesOwn.never rfl (piL (K := K) rfl (pv 0)) (pg_tup rfl (pgs_cons (pg_name (i := 4) sc_law_pieces.nd rfl (Or.inl rfl)) (pgs_cons (pg_name (i := 5) sc_law_pieces.nd rfl (Or.inl rfl)) (pgs_cons (pg_name (i := 6) sc_law_pieces.nd rfl (Or.inl rfl)) pgs_nil)))) (pss_one (ps_for PassesOwn.never rfl (piL (K := K) rfl (pv 6)) (pg_name (i := 7) sc_law_pieces.nd rfl (Or.inl rfl)) (pss_one (ps_daug (hu_of hr) (pv 3) (pv 7) (pe_dget2 (hu_of hr) (pv 2) (pv 4) pe_int ⟨rfl, rfl, rfl, rfl⟩) in_add (fun _ _ _ => rfl))))))
      (pss_one (ps_ret (pv 3))))), ?_⟩
    have hz := hv.few
    refine ⟨_, rfl, a, rfl, ⟨_, ha⟩, fun D0 hD0 => lc_rel (Tb := Tb) (xs := xs) walk_list rfl (fun _ => true) (ERow H (fun e => getD d e.name)) erow_mono hD0 (by have := Paired.len hc; omega) (fun H' g => g.ext_seq ha) (fun j v H' hvj g hDn Rk Rs hk hs => ?_) fun H0 zs g0 hD00 hzs => ?_⟩
    · obtain ⟨e, he, hev⟩ := Paired.at hc hvj
      obtain ⟨t, lp, rfl, ht0, hlp⟩ := id hev
      have hb' := g.at hb .dK
      refine ⟨rfl, _, rfl, t, _, ((0 : Nat) : Int), _, rfl, rfl, SqT.of (g.at ht0 .tup), atI_nat (j := 0) rfl, _, rfl, b, rfl, IsD.num hb', _, rfl, t, _, ((0 : Nat) : Int), _, rfl, rfl, SqT.of (g.at ht0 .tup), atI_nat (j := 0) rfl, _, dgetO hb' e.name, ?_⟩
      rw [getO]
      exact ⟨by show 2 ≤ sizeLine; decide, fun t2 ht2 => hk _ _ rfl (Gr.new ht2) (ERow.of hev upd_same)⟩
    obtain ⟨pa, rfl, pp⟩ := erow_dict (K := K) (kp := fun _ => true) (fun v e h => rfl) hc hzs
    have ec : ((es.filter fun _ => true).map fun e => (e.name, getD d e.name)) = numOf es (getD d) := by
      rw [List.filter_eq_self.mpr fun _ _ => rfl]
      unfold numOf
      first | rfl | (rw [List.map_map]; rfl)
    rw [ec] at pp
    have ndn : ((numOf es (getD d)).map (·.1)).Nodup := by
      rw [← ec, List.filter_eq_self.mpr fun _ _ => rfl, List.map_map]
      exact hv.nodup
    refine ⟨D0, pa, _, rfl, SqL.of hD00, pp, fun D hD => ?_⟩
    rw [merge_new ndn]
    have g1 := g0.trans (Gr.new (T := Tb) (o := .dK (dS (numOf es (getD d)))) hD)
    have hD1 : (upd H0 D (.dK (dS (numOf es (getD d))))) D = some (.dK (dS (numOf es (getD d)))) := upd_same
    have hDn : Nw H D := g0.nw (.of hD)
    generalize upd H0 D (.dK (dS (numOf es (getD d)))) = H1 at g1 hD1
    refine goN ?_
    dsimp only
    have nD := hDn
    have hlen := Paired.len hc
    refine ⟨_, rfl, a, rfl, ⟨_, g1.ext_seq ha⟩, for_list (K := K) (a := a) (xs := xs) (fun i σ H' => ∃ s4 s5 s6 s7 s8 : Option V, σ = [some (.ref a), some (.ref b), some (.ref c), some (.ref D), s4, s5, s6, s7, s8] ∧ Gr Tb H H' ∧ H' D = some (.dK (dS (numOf es (addAll (getD d) (incs (es.take i) (getD sp)))))))
      ⟨_, _, _, _, _, rfl, g1, by rw [List.take_zero]; exact hD1⟩ (fun i σ H' _ ⟨_, _, _, _, _, _, g, _⟩ => g.ext_seq ha) ?_ ?_⟩
    · rintro i x σ H2 hx ⟨s4, s5, s6, s7, s8, rfl, g2, hD2⟩
      obtain ⟨e, he, t, lp, rfl, ht, hlp⟩ := Paired.at hc hx
      have hm := List.mem_of_getElem? he
      have hlp2 := g2.at hlp .lst
      refine gtup3 (g2.at ht .tup) ⟨_, rfl, lp, rfl, ⟨_, SqL.of hlp2⟩, for_list (K := K) (a := lp) (xs := e.parts.map V.str) (fun j σ H' => ∃ s7 : Option V, σ = [some (.ref a), some (.ref b), some (.ref c), some (.ref D), some (.str e.name), some (.int e.w), some (.ref lp), s7, s8] ∧ Gr Tb H H' ∧
          H' D = some (.dK (dS (numOf es (addAll (addAll (getD d) (incs (es.take i) (getD sp))) ((e.parts.take j).map fun p => (p, getD sp e.name)))))))
        ⟨_, rfl, g2, by rw [List.take_zero]; exact hD2⟩ (fun j σ H' _ ⟨_, _, g, _⟩ => SqL.of (g.at hlp .lst)) ?_ ?_⟩
      · rintro j y σ H3 hy ⟨s7, rfl, g3, hD3⟩
        rw [List.getElem?_map] at hy
        cases hq : e.parts[j]? with
        | none => rw [hq] at hy; cases hy
        | some q =>
          rw [hq] at hy
          cases hy
          have hqm : q ∈ es.map (·.name) := hv.known e hm q (List.mem_of_getElem? hq)
          have hsp3 := g3.at hsp .dK
          refine ⟨_, rfl, _, rfl, D, _, rfl, dgetS hD3 (get?_numOf hqm), _, rfl, c, rfl, IsD.num hsp3, _, rfl, _, dgetO hsp3 e.name, ?_⟩
          rw [getO]
          refine ⟨_, _, rfl, rfl, _, dputS hD3 (by rw [numOf_len, sizeLine_eq]; omega), _, rfl, g3.mut nD hD3 .dK, ?_⟩
          rw [upd_same, put_numOf hqm, take_snoc hq, List.map_append]
          show some (HO.dK (dS (numOf es (upF _ q _)))) = some (HO.dK (dS (numOf es (addAll _ (_ ++ [(q, getD sp e.name)])))))
          rw [addAll_snoc]
      · rintro σ H3 ⟨s7, rfl, g3, hD3⟩
        refine ⟨_, _, _, _, _, rfl, g3, ?_⟩
        rw [List.length_map, List.take_length] at hD3
        rw [incs_snoc he, addAll_append]
        exact hD3
    · rintro σ H2 ⟨s4, s5, s6, s7, s8, rfl, g2, hD2⟩
      rw [hlen, List.take_length] at hD2
      exact ⟨_, rfl, k D H2 g2 nD hD2⟩
end
end Sk
namespace Sk
open PySem PySem.Spec PyProof.Rows L2
abbrev s_law_total : Stmt := topS 43
abbrev N_law_total : List Str := ["pool", "supply", "taken", "name", "weight", "parts"]
theorem sc_law_total : FnScope N_law_total ["pool", "supply"] (defScope s_law_total) := ⟨rfl, rfl, rfl, by decide +kernel, rfl, by decide +kernel, by decide +kernel⟩
def totS (es' : List Ent) (d : Num) : Int := ((fs es' (getD d)).map (·.2)).sum
def sp_law_total (Tb : List (Addr × Str)) (K : PySem.W.Frag) : Sp := fun vs H Q _ => ∃ (a b : Addr) (xs : List V) (es : List Ent) (d : Num), vs = [.ref a, .ref b] ∧ SqL K H a xs ∧ CatAt H xs es ∧ H b = some (.dK (dS d)) ∧ Valid es ∧
  ∀ H' es', es'.Perm es → Ordered es' → Gr Tb H H' → Q (.int (totS es' d)) H'
theorem CatAt.updDt {H : Hp} {F : Addr} {k : List (Key × V)} {o : HO} {ys : List V} {es : List Ent} (h : CatAt H ys es) (hF : H F = some (.dK k)) : CatAt (upd H F o) ys es := Paired.imp (fun v e ⟨t, l, h0, h1, h2⟩ => ⟨t, l, h0, by
  rw [upd_ne (fun q => by rw [q, hF] at h1; cases h1)]
  exact h1, by
  rw [upd_ne (fun q => by rw [q, hF] at h2; cases h2)]
  exact h2⟩) h
theorem numOf_snoc {l : List Ent} {e : Ent} {f : Str → Int} (h : e.name ∉ l.map (·.name)) : put (numOf l f) e.name (f e.name) = numOf (l ++ [e]) f := by
  rw [put_new' (by rw [numOf_names]; exact h)]
  unfold numOf
  rw [List.map_append]
  rfl
section
variable {P : Program} {w : World} {K : PySem.W.Frag} {mg : Str → Option Value} {base : Heap} {Tb : List (Addr × Str)}
theorem ok_law_total {f : Addr} {fd : FuncData} (F : FnP K "_law_total" s_law_total f fd) (T : Tx K mg) (G_law_order : Fn P w K mg base "_law_order" 1 ["pool"] (sp_law_order Tb K)) (G_law_pieces : Fn P w K mg base "_law_pieces" 1 ["pool", "supply", "taken"] (sp_law_pieces Tb K)) : FnOk P w K mg base CX0 2 f fd ["pool", "supply"] (sp_law_total Tb K) := by
  refine F.ok sc_law_total (fun vs H Q E h => ?_) (fun cdv A outer s H vs Q E hr h => ?_)
  · obtain ⟨_, _, _, _, _, rfl, _⟩ := h
    rfl
  · obtain ⟨a, b, xs, es, d, rfl, ha, hc, hb, hv, k⟩ := h
    refine ⟨_, PSs.nox (pss_cons (ps_set (i := 2) sc_law_total.nd rfl (Or.inl rfl) pe_dnewK)
      (pss_cons (ps_for PassesOwn.never rfl (piL (K := K) rfl (pe_fn G_law_order (hr.mono (by decide)) (pa_cons (pv 0) pa_nil))) (pg_tup rfl (pgs_cons (pg_name (i := 3) sc_law_total.nd rfl (Or.inl rfl)) (pgs_cons (pg_name (i := 4) sc_law_total.nd rfl (Or.inl rfl)) (pgs_cons (pg_name (i := 5) sc_law_total.nd rfl (Or.inl rfl)) pgs_nil)))) (pss_one (ps_dput (hu_of hr) (pv 2) (pv 3) (pe_op op_mul (pe_dget (hu_of hr) (pe_fn G_law_pieces (hr.mono (by decide)) (pa_cons (pv 0) (pa_cons (pv 1) (pa_cons (pv 2) pa_nil)))) (pv 3) (fun _ _ => rfl)) (pe_callTy call_int1 (by rfl) T.n_int (by decide +kernel) (pa_cons (pe_cmpR op_gt (pe_callB (lenS (K := K) rfl) (by rfl) T.n_len (by decide +kernel) (pa_cons (pv 5) pa_nil)) pe_int (nomark _)) pa_nil))) rfl)))
      (pss_one (ps_ret (pe_sumVals rfl (by rfl) T.n_sum (pv 2)))))), ?_⟩
    intro F hF
    have g0 : Gr Tb H (upd H F (.dK [])) := Gr.new hF
    have nF : Nw H F := .of hF
    have hF0 : (upd H F (.dK [])) F = some (.dK (dS [])) := upd_same
    generalize upd H F (.dK []) = H0 at g0 hF0
    refine ⟨_, rfl, a, xs, es, rfl, g0.ext_seq ha, CatAt.gr g0 hc, hv, fun s H2 ys es' hp ho hyx hcy g3 ns hs => ?_⟩
    have g1 := g0.trans g3
    have hF2 := g3.at hF0 .dK
    have hyl := Paired.len hcy
    have hv' := hv.perm hp
    have nd := hv'.nodup
    have bh := hv'.behind ho
    have hfew := hv'.few
    refine ⟨s, rfl, ⟨_, SqL.of hs⟩, for_list (K := K) (a := s) (xs := ys) (fun i σ H' => ∃ s3 s4 s5 : Option V, σ = [some (.ref a), some (.ref b), some (.ref F), s3, s4, s5] ∧ Gr Tb H H' ∧ H' F = some (.dK (dS (numOf (es'.take i) (getD (fs es' (getD d)))))) ∧ H' s = some (.lst ys) ∧ CatAt H' ys es')
      ⟨_, _, _, rfl, g1, by rw [List.take_zero]; exact hF2, hs, CatAt.gr g3 hcy⟩ (fun i σ H' _ ⟨_, _, _, _, _, _, z, _⟩ => SqL.of z) ?_ ?_⟩
    · rintro i x σ H3 hx ⟨s3, s4, s5, rfl, g4, hF3, hs3, hc3⟩
      obtain ⟨e, he, t, lp, rfl, ht, hlp⟩ := Paired.at hc3 hx
      have hem := List.mem_of_getElem? he
      have hi : i < es'.length := (List.getElem?_eq_some_iff.mp he).1
      have hnm : e.name ∈ es.map (·.name) := (hp.map _).mem_iff.mp (List.mem_map.mpr ⟨e, hem, rfl⟩)
      have nn : e.name ∉ (es'.take i).map (·.name) := by
        have h1 : ((es'.take (i + 1)).map (·.name)).Nodup := nd.sublist ((List.take_sublist ..).map _)
        rw [take_snoc he, List.map_append] at h1
        exact fun hm => (List.nodup_append.mp h1).2.2 _ hm _ (List.mem_singleton.mpr rfl) rfl
      have full : pn es' d (numOf (es'.take i) (getD (fs es' (getD d)))) e.name = fsS es' (getD d) e.name := by
        rw [pn_at]
        refine full_at bh nd he fun j y hj hy => ?_
        exact getD_numOf (List.mem_map.mpr ⟨y, List.mem_take_iff_getElem.mpr ⟨j, by have := (List.getElem?_eq_some_iff.mp hy).1; omega, (List.getElem?_eq_some_iff.mp hy).2⟩, rfl⟩)
      rw [pn_perm hp] at full
      refine gtup3 ht ?_
      refine ⟨_, rfl, _, rfl, _, rfl, a, b, F, xs, es, d, _, rfl, g4.ext_seq ha, CatAt.gr g4 hc, g4.at hb .dK, hF3, hv, fun r H4 g5 nr hr => ?_⟩
      refine ⟨_, rfl, r, _, rfl, dgetS hr (get?_numOf hnm), ?_⟩
      rw [full]
      have hlp4 := g5.at hlp .lst
      refine ⟨_, rfl, lp, _, rfl, .inl (SqL.of hlp4), _, _, rfl, rfl, .inr ⟨_, rfl, ?_⟩⟩
      have ev : fsS es' (getD d) e.name * (if decide ((0 : Int) < ((e.parts.map V.str).length : Nat)) = true then 1 else 0) = getD (fs es' (getD d)) e.name := by
        rw [fs_val bh nd hem, List.length_map]
        by_cases q : e.parts = []
        · rw [if_pos q, q]
          show _ * (0 : Int) = 0
          omega
        · rw [if_neg q, if_pos (decide_eq_true (by have := List.length_pos_iff.mpr q; omega))]
          omega
      refine ⟨_, _, rfl, rfl, .inr (by split <;> decide), ?_⟩
      dsimp only
      rw [ev]
      have g6 := g4.trans g5
      have hF4 := g5.at hF3 .dK
      refine ⟨_, rfl, _, rfl, F, _, rfl, dputS hF4 (by rw [numOf_len, List.length_take, sizeLine_eq]; omega), ?_⟩
      rw [numOf_snoc nn, ← take_snoc he]
      refine ⟨_, _, _, rfl, g6.mut nF hF4 .dK, upd_same, ?_, (CatAt.gr g5 hc3).updDt hF4⟩
      rw [upd_ne (fun q => by have := g5.at hs3 .lst; rw [q, hF4] at this; cases this)]
      exact g5.at hs3 .lst
    · rintro σ H3 ⟨s3, s4, s5, rfl, g4, hF3, hs3, hc3⟩
      rw [hyl, List.take_length] at hF3
      refine ⟨_, rfl, ?_⟩
      refine ⟨F, _, es'.map fun e => getD (fs es' (getD d)) e.name, rfl, hF3, ?_, ?_⟩
      · unfold dS numOf
        rw [List.map_map, List.map_map, List.map_map]
        rfl
      have e1 : (es'.map fun e => getD (fs es' (getD d)) e.name).sum = totS es' d := sumE_getD nd (fs_nodup _ nd) fun q hq => fs_names es' _ _ (List.mem_map.mpr ⟨q, hq, rfl⟩)
      rw [e1]
      exact k H3 es' hp ho g4
end
end Sk
namespace Sk
open PySem PySem.Spec PyProof.Rows L2
abbrev s_law_small_supply : Stmt := topS 44
abbrev N_law_small_supply : List Str := ["bag", "pool", "most", "supply", "turn", "name", "more"]
theorem sc_law_small_supply : FnScope N_law_small_supply ["bag", "pool", "most"] (defScope s_law_small_supply) := ⟨rfl, rfl, rfl, by decide +kernel, rfl, by decide +kernel, by decide +kernel⟩
def sp_law_small_supply (Tb : List (Addr × Str)) (K : PySem.W.Frag) : Sp := fun vs H Q _ => ∃ (p a : Addr) (most : Int) (n : Nat) (L : List (Addr × HO)) (G : Hp) (xs : List V) (es : List Ent), vs = [.ref p, .ref a, .int most] ∧ Hb Tb p n L G H ∧ n + 1000 < 1000000000 ∧ G a = some (.lst xs) ∧ CatAt G xs es ∧ MadeC es ∧ 0 ≤ most ∧
  ∀ r H' (d : Num), StockOk es d → (∀ q ∈ d, q.2 ≤ 7) → (∀ es', es'.Perm es → Ordered es' → totS es' d ≤ most) → Hb Tb p (n + 1000) ((r, .dK (dS d)) :: L) G H' → Q (.ref r) H'
theorem tot_nil (es : List Ent) : totS es [] = 0 := by
  unfold totS
  have key : ∀ (l : List Ent) (f : Str → Int), (∀ x, f x = 0) → ((fs l f).map (·.2)).sum = 0 := by
    intro l
    induction l with
    | nil => intro f _; rfl
    | cons e l ih =>
      intro f h
      have h2 : ∀ x, addAll f (e.parts.map fun p => (p, f e.name)) x = 0 := fun x => by
        rw [addAll_at, h x, h e.name]
        have : amt (e.parts.map fun p => (p, (0 : Int))) x = 0 := by
          induction e.parts with
          | nil => rfl
          | cons p ps ih2 =>
            rw [List.map_cons, amt_cons, ih2]
            show (if p = x then (0 : Int) else 0) + 0 = 0
            split <;> rfl
        rw [this]
        rfl
      rw [fs, List.map_append, List.sum_append, ih _ h2]
      split
      · rfl
      · show f e.name + 0 + 0 = 0
        rw [h]
        rfl
  exact key es _ fun x => rfl
section
variable {P : Program} {w : World} {K : PySem.W.Frag} {mg : Str → Option Value} {base : Heap} {Tb : List (Addr × Str)}
theorem ok_law_small_supply {f : Addr} {fd : FuncData} (F : FnP K "_law_small_supply" s_law_small_supply f fd) (T : Tx K mg) (G_law_draw : Fn P w K mg base "_law_draw" 1 ["bag", "many"] (sp_law_draw Tb K)) (G_law_total : Fn P w K mg base "_law_total" 2 ["pool", "supply"] (sp_law_total Tb K)) : FnOk P w K mg base CX0 3 f fd ["bag", "pool", "most"] (sp_law_small_supply Tb K) := by
  refine F.ok sc_law_small_supply (fun vs H Q E h => ?_) (fun cdv A outer s H vs Q E hr h => ?_)
  · obtain ⟨_, _, _, _, _, _, _, _, rfl, _⟩ := h
    rfl
  · obtain ⟨p, a, most, n, L, G, xs, es, rfl, hs, hn, ha, hc, hmd, hm, k⟩ := h
    refine ⟨_, PSs.nox (pss_cons (ps_set (i := 3) sc_law_small_supply.nd rfl (Or.inl rfl) pe_dnewK)
      (pss_cons (ps_for PassesOwn.never rfl (pi_range1 (by rfl) T.n_range (pa_cons (pe_fn G_law_draw (hr.mono (by decide)) (pa_cons (pv 0) (pa_cons pe_int pa_nil))) pa_nil)) (pg_name (i := 4) sc_law_small_supply.nd rfl (Or.inl rfl)) (pss_cons (ps_set (i := 5) sc_law_small_supply.nd rfl (Or.inl rfl) (pe_ix (ixT (K := K) rfl) (pe_ix (ixL (K := K) rfl) (pv 1) (pe_fn G_law_draw (hr.mono (by decide)) (pa_cons (pv 0) (pa_cons (pe_callB (lenS (K := K) rfl) (by rfl) T.n_len (by decide +kernel) (pa_cons (pv 1) pa_nil)) pa_nil))) (fun _ _ => rfl)) pe_int (fun _ _ => rfl)))
        (pss_cons (ps_set (i := 6) sc_law_small_supply.nd rfl (Or.inl rfl) (pe_callTy (dictP (K := K) rfl rfl) (by rfl) T.n_dict (by decide +kernel) (pa_cons (pe_op op_cat (LiI.pe_listItems rfl (pv 3) (by rfl) T.n_list (by decide +kernel)) (pe_lst (pa_cons (pe_tup (pa_cons (pv 5) (pa_cons (pe_op op_add (pe_dget2 (hu_of hr) (pv 3) (pv 5) pe_int ⟨rfl, rfl, rfl, rfl⟩) pe_int) pa_nil))) pa_nil))) pa_nil)))
        (pss_one (ps_if (pt_cmpR op_le (pe_fn G_law_total (hr.mono (by decide)) (pa_cons (pv 1) (pa_cons (pv 6) pa_nil))) (pv 2) (nomark _)) (pss_one (ps_set (i := 3) sc_law_small_supply.nd rfl (Or.inl rfl) (pv 6))) pss_nil)))))
      (pss_one (ps_ret (pv 3))))), ?_⟩
    have hv := hmd.v
    have hxl := Paired.len hc
    have hfew := hmd.few
    have hne : es.length ≠ 0 := fun z => hv.ne (List.length_eq_zero_iff.mp z)
    intro F hF
    have h1 := hs.new hF (.dK (xs := []))
    refine ⟨_, rfl, p, _, _, G, 7, rfl, h1, by omega, by decide, by decide +kernel, fun u H1 u0 u1 h2 => ?_⟩
    refine ⟨_, rfl, by omega, by omega, for_range (lo := 0) (n := u.toNat) (fun i σ H' => ∃ (D : Addr) (c : Num) (s4 s5 s6 : Option V), σ = [some (.ref p), some (.ref a), some (.int most), some (.ref D), s4, s5, s6] ∧ StockOk es c ∧ (∀ q ∈ c, q.2 ≤ i) ∧ (∀ es', es'.Perm es → Ordered es' → totS es' c ≤ most) ∧ Hb Tb p (n + 1 + 10 * i) ((D, .dK (dS c)) :: L) G H')
      ⟨F, [], _, _, _, rfl, ⟨List.nodup_nil, by decide, by simp, by simp⟩, by simp, fun es' _ _ => by rw [tot_nil]; exact hm, h2⟩ ?_ ?_⟩
    · rintro i σ H2 hi ⟨D, c, s4, s5, s6, rfl, sok, small, tok, h3⟩
      have hi6 : i < 7 := by omega
      refine goN ?_
      dsimp only
      refine ⟨_, rfl, _, rfl, _, rfl, a, _, rfl, .inl (SqL.of (h3.fzat ha)), p, _, _, G, _, rfl, h3, by omega, ?_, ?_, fun j H3 j0 j1 h4 => ?_⟩
      · rw [hxl]; omega
      · rw [hxl]
        exact Int.lt_of_le_of_lt (show (es.length : Int) ≤ 20 by omega) (by decide +kernel)
      have hj : j.toNat < es.length := by rw [hxl] at j1; omega
      obtain ⟨e, he⟩ : ∃ e, es[j.toNat]? = some e := ⟨_, List.getElem?_eq_getElem hj⟩
      have hem := List.mem_of_getElem? he
      have hnm : e.name ∈ es.map (·.name) := List.mem_map.mpr ⟨e, hem, rfl⟩
      obtain ⟨x, hx, hev⟩ : ∃ x, xs[j.toNat]? = some x ∧ EntAt G x e := by
        obtain ⟨x, hx⟩ : ∃ x, xs[j.toNat]? = some x := ⟨_, List.getElem?_eq_getElem (by omega)⟩
        obtain ⟨e', he', hev⟩ := Paired.at hc hx
        rw [he] at he'
        cases he'
        exact ⟨x, hx, hev⟩
      obtain ⟨t, lp, rfl, ht, hlp⟩ := hev
      have ej : j = (j.toNat : Int) := (Int.toNat_of_nonneg j0).symm
      refine ⟨a, xs, j, _, rfl, rfl, SqL.of (h4.fzat ha), by rw [ej]; exact atI_nat hx, ?_⟩
      refine ⟨t, _, _, _, rfl, rfl, SqT.of (h4.fzat ht), atI_nat (j := 0) rfl, ?_⟩
      refine goN ?_
      dsimp only
      have hD4 := h4.get (i := 0) rfl
      refine ⟨_, rfl, D, _, rfl, hD4, fun H5 p5 ts old fr tsf pn hp5 hts => ?_⟩
      have g5 : Gr Tb H3 H5 := Gr.same old
      have h5 := h4.gr g5
      have hD5 := h5.get (i := 0) rfl
      refine ⟨_, rfl, _, rfl, D, rfl, IsD.num hD5, _, rfl, _, dgetO hD5 e.name, ?_⟩
      rw [getO]
      refine ⟨_, _, rfl, rfl, by show 2 ≤ sizeLine; decide, fun t6 ht6 => ⟨by show 1 ≤ sizeLine; decide, fun l7 hl7 => ?_⟩⟩
      have g6 := Gr.new (T := Tb) (o := .tup [.str e.name, .int (getD c e.name + 1)]) ht6
      have g7 := Gr.new (T := Tb) (o := .lst [.ref t6]) hl7
      have h7 := (h5.gr g6).gr g7
      have ht7 := g7.at (show (upd H5 t6 (.tup [.str e.name, .int (getD c e.name + 1)])) t6 = some (.tup [.str e.name, .int (getD c e.name + 1)]) from upd_same) .tup
      have hl7' : (upd (upd H5 t6 (.tup [.str e.name, .int (getD c e.name + 1)])) l7 (.lst [.ref t6])) l7 = some (.lst [.ref t6]) := upd_same
      have g57 := g6.trans g7
      have hp7 := g57.at hp5 .lst
      have hts7 : Paired (fun (t : Addr) (q : Key × V) => (upd (upd H5 t6 (.tup [.str e.name, .int (getD c e.name + 1)])) l7 (.lst [.ref t6])) t = some (.tup [kV q.1, q.2])) ts (dS c) := Paired.imp (fun t q z => g57.at z .tup) hts
      generalize upd (upd H5 t6 (.tup [.str e.name, .int (getD c e.name + 1)])) l7 (.lst [.ref t6]) = H7 at h7 ht7 hl7' hp7 hts7
      have tl := Paired.len hts7
      rw [dS_len] at tl
      have cf := sok.few
      refine ⟨p5, l7, ts.map V.ref, [.ref t6], rfl, rfl, hp7, hl7', by rw [List.length_map, tl, sizeLine_eq]; show c.length + 1 ≤ _; omega, fun l8 hl8 => ?_⟩
      have g8 := Gr.new (T := Tb) (o := .lst (ts.map V.ref ++ [.ref t6])) hl8
      have h8 := h7.gr g8
      have ht8 := g8.at ht7 .tup
      have hts8 : Paired (fun (t : Addr) (q : Key × V) => (upd H7 l8 (.lst (ts.map V.ref ++ [.ref t6]))) t = some (.tup [kV q.1, q.2])) ts (dS c) := Paired.imp (fun t q z => g8.at z .tup) hts7
      have hl8' : (upd H7 l8 (.lst (ts.map V.ref ++ [.ref t6]))) l8 = some (.lst ((ts ++ [t6]).map V.ref)) := by rw [upd_same, List.map_append]; rfl
      generalize upd H7 l8 (.lst (ts.map V.ref ++ [.ref t6])) = H8 at h8 ht8 hts8 hl8'
      refine ⟨l8, ts ++ [t6], dS c ++ [(Sum.inr e.name, .int (getD c e.name + 1))], rfl, SqL.of hl8', Paired.app (Paired.imp (fun t q z => SqT.of z) hts8) (.cons (show SqT K H8 t6 [kV (Sum.inr e.name), .int (getD c e.name + 1)] from SqT.of ht8) .nil), fun m hm9 => ?_⟩
      have em : mergeK [] (dS c ++ [((Sum.inr e.name : Key), V.int (getD c e.name + 1))]) = dS (put c e.name (getD c e.name + 1)) := by
        have : mergeK [] (dS c ++ [((Sum.inr e.name : Key), V.int (getD c e.name + 1))]) = putK (mergeK [] (dS c)) (Sum.inr e.name) (V.int (getD c e.name + 1)) := by
          unfold mergeK
          rw [List.foldl_append]
          rfl
        rw [this, merge_new sok.nd, putK_dS]
      rw [em]
      have h9 := h8.new hm9 (.dK (xs := dS (put c e.name (getD c e.name + 1))))
      obtain ⟨o1, o2, o3⟩ := put_ok sok.nd sok.known hnm (getD c e.name + 1)
      have ckn := sok.pos
      have sok' : StockOk es (put c e.name (getD c e.name + 1)) := ⟨o1, by omega, o2, fun q hq => by
        rw [← getD_mem o1 hq, getD_put]
        split
        · have := getD_nonneg ckn e.name
          omega
        · exact getD_nonneg ckn _⟩
      have small' : ∀ q ∈ put c e.name (getD c e.name + 1), q.2 ≤ ((i + 1 : Nat) : Int) := fun q hq => by
        have cl : ∀ x, getD c x ≤ i := fun x => by
          by_cases hx : x ∈ c.map (·.1)
          · obtain ⟨q, hq, rfl⟩ := List.mem_map.mp hx
            rw [getD_mem sok.nd hq]
            exact small q hq
          · rw [getD_none hx]
            omega
        rw [← getD_mem o1 hq, getD_put]
        have a1 := cl e.name
        have a2 := cl q.1
        split <;> omega
      refine goN ?_
      dsimp only
      refine ⟨_, rfl, _, rfl, a, m, xs, es, _, rfl, SqL.of (h9.fzat ha), hc.mono h9.fz.sub, h9.get (i := 0) rfl, hv, fun H10 es' hp' ho' g10 => ?_⟩
      have h10 := h9.gr g10
      refine ⟨_, rfl, _, _, rfl, rfl, _, rfl, ?_⟩
      refine ite2 (fun c1 => ?_) (fun c1 => ?_)
      · refine ⟨_, rfl, ?_⟩
        refine ⟨m, _, _, _, _, rfl, sok', small', fun es2 p2 o2 => ?_, h10.drop2.mono (by omega)⟩
        rw [ordered_unique (p2.trans hp'.symm) o2 ho' ((p2.map _).nodup_iff.mpr hv.nodup)]
        exact of_decide_eq_true c1
      · refine ⟨D, c, _, _, _, rfl, sok, fun q hq => ?_, tok, h10.drop1.mono (by omega)⟩
        have := small q hq
        omega
    · rintro σ H2 ⟨D, c, s4, s5, s6, rfl, sok, small, tok, h3⟩
      refine ⟨_, rfl, k D H2 c sok (fun q hq => ?_) tok (h3.mono (by omega))⟩
      have := small q hq
      omega
end
end Sk
namespace Sk
open PySem PySem.Spec PyProof.Rows L2
/-- a ups and b downs, each possible, in some order -/
inductive Wd (n : Nat) (F : Nat → Int) : (Nat → Int) → Nat → Nat → (Nat → Int) → Prop where
  | nil (c : Nat → Int) : Wd n F c 0 0 c
  | up {c c' : Nat → Int} {i a b : Nat} (g : Gap n F c i) (w : Wd n F (addN c i) a b c') : Wd n F c (a + 1) b c'
  | down {c c' : Nat → Int} {j a b : Nat} (l : Last n c j) (w : Wd n F (subN c j) a b c') : Wd n F c a (b + 1) c'
section
variable {n : Nat} {F c c' c1 c2 : Nat → Int} {a b a2 b2 : Nat}
theorem Wd.vec (w : Wd n F c a b c') : Vec n F c → Vec n F c' := by
  induction w with
  | nil c => exact id
  | up g _ ih => exact fun v => ih (v.add g)
  | down l _ ih => exact fun v => ih (v.sub l)
theorem Wd.sum (w : Wd n F c a b c') : sumN c' n = sumN c n + a - b := by
  induction w with
  | nil c => omega
  | up g _ ih =>
    rw [ih, sum_addN g.lt]
    omega
  | down l _ ih =>
    rw [ih, sum_subN l.lt]
    omega
theorem Wd.app (w : Wd n F c a b c1) : Wd n F c1 a2 b2 c2 → Wd n F c (a + a2) (b + b2) c2 := by
  induction w with
  | nil c => intro w2; rw [Nat.zero_add, Nat.zero_add]; exact w2
  | @up c c' i a b g _ ih =>
    intro w2
    rw [show a + 1 + a2 = a + a2 + 1 by omega]
    exact .up g (ih w2)
  | @down c c' j a b l _ ih =>
    intro w2
    rw [show b + 1 + b2 = b + b2 + 1 by omega]
    exact .down l (ih w2)
theorem Vec.sums (v : Vec n F c) : 0 ≤ sumN c n ∧ sumN c n ≤ sumN F n := ⟨sumN_nonneg fun i hi => (v i hi).1, sumN_le fun i hi => (v i hi).2⟩
theorem Wd.ups : ∀ {a : Nat} {c : Nat → Int}, Vec n F c → sumN c n + a ≤ sumN F n → ∃ f, Wd n F c a 0 f
  | 0, c, _, _ => ⟨c, .nil c⟩
  | a + 1, c, v, h => by
    obtain ⟨i, g⟩ := gap_ex v (by omega)
    obtain ⟨f, w⟩ := Wd.ups (a := a) (v.add g) (by rw [sum_addN g.lt]; omega)
    exact ⟨f, .up g w⟩
theorem Wd.downs : ∀ {b : Nat} {c : Nat → Int}, Vec n F c → b ≤ sumN c n → ∃ f, Wd n F c 0 b f
  | 0, c, _, _ => ⟨c, .nil c⟩
  | b + 1, c, v, h => by
    obtain ⟨j, l⟩ := lastN_ex v (by omega)
    obtain ⟨f, w⟩ := Wd.downs (b := b) (v.sub l) (by rw [sum_subN l.lt]; omega)
    exact ⟨f, .down l w⟩
/-- a word with these numbers -/
theorem Wd.ex : ∀ (m : Nat) {a b : Nat} {c : Nat → Int}, a + b ≤ m → Vec n F c → sumN c n < sumN F n → 0 ≤ sumN c n + a - b → sumN c n + a - b ≤ sumN F n → ∃ f, Wd n F c a b f
  | m, 0, b, c, _, v, _, h0, _ => Wd.downs v (by omega)
  | m, a + 1, 0, c, _, v, _, _, h1 => Wd.ups v (by omega)
  | m + 1, a + 1, b + 1, c, hm, v, h, h0, h1 => by
    obtain ⟨i, g⟩ := gap_ex v h
    have s1 := sum_addN (c := c) g.lt
    have v1 := v.add g
    have hv := v.sums
    obtain ⟨j, l⟩ := lastN_ex v1 (by omega)
    have s2 := sum_subN (c := addN c i) l.lt
    obtain ⟨f, w⟩ := Wd.ex m (a := a) (b := b) (by omega) (v1.sub l) (by omega) (by omega) (by omega)
    exact ⟨f, .up g (.down l w)⟩
  | 0, a + 1, b + 1, c, hm, _, _, _, _ => absurd hm (by omega)
/-- the order of the steps is all one -/
theorem Wd.uniq : ∀ (m : Nat) {a b : Nat} {c c1 c2 : Nat → Int}, a + b ≤ m → Vec n F c → Wd n F c a b c1 → Wd n F c a b c2 → c1 = c2 := by
  intro m
  induction m with
  | zero =>
    intro a b c c1 c2 hm v w1 w2
    cases w1 with
    | nil c =>
      cases w2 with
      | nil => rfl
    | up g w => exact absurd hm (by omega)
    | down l w => exact absurd hm (by omega)
  | succ m ih =>
    intro a b c c1 c2 hm v w1 w2
    have key : ∀ {a b : Nat} {c1 c2 : Nat → Int} {i j : Nat}, a + b + 2 ≤ m + 1 → Gap n F c i → Wd n F (addN c i) a (b + 1) c1 → Last n c j → Wd n F (subN c j) (a + 1) b c2 → c1 = c2 := by
      intro a b c1 c2 i j hm g w1 l w2
      have v1 := v.add g
      have v2 := v.sub l
      have s1 := sum_addN (c := c) g.lt
      have s2 := sum_subN (c := c) l.lt
      have q := v.sums
      have q1 := v1.sums
      have q2 := v2.sums
      have r1 := (w1.vec v1).sums
      have e1 := w1.sum
      obtain ⟨j', l'⟩ := lastN_ex v1 (by omega)
      obtain ⟨i', g'⟩ := gap_ex v2 (by omega)
      have cm := steps_comm v g l l' g'
      have s3 := sum_subN (c := addN c i) l'.lt
      obtain ⟨f, w⟩ := Wd.ex (a + b) (a := a) (b := b) (c := subN (addN c i) j') (Nat.le_refl _) (v1.sub l') (by omega) (by omega) (by omega)
      have h1 := ih (by omega) v1 w1 (.down l' w)
      rw [cm] at w
      have h2 := ih (by omega) v2 w2 (.up g' w)
      rw [h1, h2]
    cases w1 with
    | nil c =>
      cases w2 with
      | nil => rfl
    | up g w =>
      cases w2 with
      | up g2 w2 =>
        rw [g.uniq g2] at w2
        exact ih (by omega) (v.add g) w w2
      | down l w2 => exact key (by omega) g w l w2
    | down l w =>
      cases w2 with
      | up g w2 => exact (key (by omega) g w2 l w).symm
      | down l2 w2 =>
        rw [l.uniq l2] at w2
        exact ih (by omega) (v.sub l) w w2
/-- as many ups as downs: so much nearer -/
theorem Wd.off {B : Nat → Int} (wB : Vec n F B) (bB : Bal n F B) : ∀ {k : Nat} {c c' : Nat → Int}, Vec n F c → sumN c n = sumN B n → (k : Int) ≤ offN n c B → Wd n F c k k c' → offN n c' B = offN n c B - k
  | 0, c, c', _, _, _, w => by
    cases w
    omega
  | k + 1, c, c', v, s, h, w => by
    have q := v.sums
    have hpos : 0 < offN n c B := by omega
    have nb : ¬ ∀ i, i < n → c i = B i := fun z => by
      have := (off_zero s).mpr z
      omega
    have sl : sumN c n < sumN F n := by
      refine Decidable.byContradiction fun z => nb ?_
      have e1 : sumN c n = sumN F n := by omega
      intro i hi
      have c1 : c i = F i := Decidable.byContradiction fun y => by
        have := sumN_lt (c := c) (d := F) (k := i) (fun t ht => (v t ht).2) hi (by have := (v i hi).2; omega)
        omega
      have c2 : B i = F i := Decidable.byContradiction fun y => by
        have := sumN_lt (c := B) (d := F) (k := i) (fun t ht => (wB t ht).2) hi (by have := (wB i hi).2; omega)
        omega
      rw [c1, c2]
    obtain ⟨i, g⟩ := gap_ex v sl
    have v1 := v.add g
    have s1 := sum_addN (c := c) g.lt
    obtain ⟨j', l'⟩ := lastN_ex v1 (by omega)
    have s2 := sum_subN (c := addN c i) l'.lt
    obtain ⟨f, wf⟩ := Wd.ex (k + k) (a := k) (b := k) (c := subN (addN c i) j') (Nat.le_refl _) (v1.sub l') (by omega) (by omega) (by omega)
    obtain rfl := Wd.uniq _ (Nat.le_refl _) v w (.up g (.down l' wf))
    have e0 : 0 < sumN c n := by
      refine Decidable.byContradiction fun z => nb fun i hi => ?_
      have z1 : sumN c n = 0 := by omega
      have c1 : c i = 0 := Decidable.byContradiction fun y => by
        have := sumN_lt (c := fun _ => 0) (d := c) (k := i) (fun t ht => (v t ht).1) hi (by have := (v i hi).1; show (0 : Int) < _; omega)
        have := sumN_nonneg (c := fun _ => (0 : Int)) (n := n) fun _ _ => Int.le_refl _
        omega
      have c2 : B i = 0 := Decidable.byContradiction fun y => by
        have := sumN_lt (c := fun _ => 0) (d := B) (k := i) (fun t ht => (wB t ht).1) hi (by have := (wB i hi).1; show (0 : Int) < _; omega)
        have := sumN_nonneg (c := fun _ => (0 : Int)) (n := n) fun _ _ => Int.le_refl _
        omega
      rw [c1, c2]
    obtain ⟨j, l⟩ := lastN_ex v e0
    rcases off_pair' v wB bB s g l l' with ⟨z, _, _⟩ | ⟨_, h2⟩
    · omega
    · have := Wd.off wB bB (v1.sub l') (by omega) (by omega) wf
      omega
end
end Sk
namespace Sk
open PySem PySem.Spec PyProof.Rows L2
/-- how large the numbers may be -/
theorem Sit.small {es es' : List Ent} {d c : Num} (S : Sit es es' d) (ok : SplitsOk es d c) (h6 : ∀ e ∈ es, e.parts.length ≤ 6) (h20 : es.length ≤ 20) (hd : ∀ q ∈ d, q.2 ≤ 10 ^ 30) : 0 ≤ (c.map (·.2)).sum ∧ (c.map (·.2)).sum ≤ 10 ^ 50 ∧ (∀ q ∈ c, 0 ≤ q.2 ∧ q.2 ≤ 10 ^ 50) ∧ ∀ x, 0 ≤ pn es d c x ∧ pn es d c x ≤ 10 ^ 52 := by
  obtain ⟨r0, r1⟩ := S.range ok
  have hl := S.hp.length_eq
  have t := (tot_le (f := getD d) S.beh S.v'.nodup (fun e he => h6 e (S.hp.mem_iff.mp he)) S.d0).2
  have q3 : sumE es' (getD d) ≤ 20 * 10 ^ 30 := by
    have h1 := sumE_le (es := es') (f := getD d) (c := 10 ^ 30) fun e _ => getD_le (by decide) hd e.name
    have h2 : (es'.length : Int) * 10 ^ 30 ≤ 20 * 10 ^ 30 := Int.mul_le_mul_of_nonneg_right (by omega) (by decide)
    omega
  have q0 : 0 ≤ sumE es' (getD d) := sumE_nonneg fun e _ => S.d0 _
  have q4 : (7 : Int) ^ es'.length ≤ 7 ^ 20 := by
    have h5 : 7 ^ es'.length ≤ 7 ^ 20 := Nat.pow_le_pow_right (by decide) (by omega)
    have h7 : ((7 ^ es'.length : Nat) : Int) = (7 : Int) ^ es'.length := by rw [Int.natCast_pow]; rfl
    have h8 : ((7 ^ 20 : Nat) : Int) = (7 : Int) ^ 20 := by decide
    rw [← h7, ← h8]
    exact Int.ofNat_le.mpr h5
  have q5 : (7 : Int) ^ es'.length * sumE es' (getD d) ≤ 7 ^ 20 * (20 * 10 ^ 30) := Int.mul_le_mul q4 q3 q0 (by decide)
  have q6 : (7 : Int) ^ 20 * (20 * 10 ^ 30) ≤ 10 ^ 50 := by decide
  have hs : (c.map (·.2)).sum ≤ 10 ^ 50 := by
    have : totI es' d ≤ 7 ^ es'.length * sumE es' (getD d) := t
    omega
  have pos := ok.pos
  have each : ∀ q ∈ c, q.2 ≤ (c.map (·.2)).sum := by
    have key : ∀ l : Num, (∀ q ∈ l, 0 ≤ q.2) → 0 ≤ (l.map (·.2)).sum ∧ ∀ q ∈ l, q.2 ≤ (l.map (·.2)).sum := by
      intro l
      induction l with
      | nil => intro _; exact ⟨Int.le_refl _, by simp⟩
      | cons q l ih =>
        intro hl
        obtain ⟨a1, a2⟩ := ih fun y hy => hl y (List.mem_cons_of_mem _ hy)
        have a3 := hl q (List.mem_cons_self ..)
        rw [List.map_cons, List.sum_cons]
        refine ⟨by omega, fun y hy => ?_⟩
        rcases List.mem_cons.mp hy with rfl | hy
        · omega
        · have := a2 y hy
          omega
    exact (key c pos).2
  refine ⟨r0, hs, fun q hq => ⟨pos q hq, by have := each q hq; omega⟩, fun x => ⟨pn_nonneg' S.so.pos pos x, ?_⟩⟩
  rw [pn_at, amt_incs']
  have h1 : getD d x ≤ 10 ^ 30 := getD_le (by decide) hd x
  have h3 := sumE_le' (es := es) (f := fun e => getD c e.name * amt (ones e.parts) x) (g := fun e => getD c e.name * 6) fun e he => by
    have a1 := ones_le e.parts x
    have a2 := h6 e he
    exact Int.mul_le_mul_of_nonneg_left (by omega) (getD_nonneg pos _)
  have h4 : (es.map fun e => getD c e.name * 6).sum = 6 * sumE es (getD c) := by
    unfold sumE
    generalize es = l
    induction l with
    | nil => rfl
    | cons e l ih =>
      rw [List.map_cons, List.sum_cons, ih, List.map_cons, List.sum_cons]
      omega
  rw [h4, sumE_getD S.hv.nodup ok.nd ok.known] at h3
  have : (10 : Int) ^ 30 + 6 * 10 ^ 50 ≤ 10 ^ 52 := by decide
  omega
end Sk
namespace Sk
open PySem PySem.Spec PyProof.Rows L2
/-- a store and what the law holds -/
structure Tied (es : List Ent) (d cuts : Num) (es2 : List Ent) (d2 c : Num) : Prop where
  st : StOk es2 d2 c
  ex : ∃ es' : List Ent, es'.Perm es ∧ Ordered es'
  same : ∀ es' : List Ent, es'.Perm es → Ordered es' → SameC es' es2
  dE : getD d2 = getD d
  cE : getD c = getD cuts
  dF : d2 = cleanN es2 d
  cF : c = cleanN es2 cuts
  hv : Valid es
  so : StockOk es d
  ok : SplitsOk es d cuts
  hz : es.length < 64
theorem Tied.make {es es' es2 : List Ent} {d sp : Num} (hv : Valid es) (hz : es.length < 64) (so : StockOk es d) (ok : SplitsOk es d sp) (hp : es'.Perm es) (ho : Ordered es') (s : SameC es' es2) : Tied es d sp es2 (cleanN es2 d) (cleanN es2 sp) := by
  have v2 := s.valid (hv.perm hp)
  have nm : ∀ x, x ∈ es.map (·.name) → x ∈ es2.map (·.name) := fun x hx => by
    rw [s.names]
    exact (hp.map _).mem_iff.mpr hx
  refine ⟨.make hv hz so ok hp ho s, ⟨es', hp, ho⟩, fun e1 p1 o1 => ?_, getD_cleanF v2.nodup fun q hq => nm _ (so.known q hq), getD_cleanF v2.nodup fun q hq => nm _ (ok.known q hq), rfl, rfl, hv, so, ok, hz⟩
  rw [ordered_unique (p1.trans hp.symm) o1 ho (hv.perm p1).nodup]
  exact s
section
variable {es es' es2 : List Ent} {d cuts d2 c : Num}
theorem Tied.sit (t : Tied es d cuts es2 d2 c) (hp : es'.Perm es) (ho : Ordered es') : Sit es es' d := ⟨t.hv, hp, ho, t.so, t.hz⟩
theorem Tied.full (t : Tied es d cuts es2 d2 c) (hp : es'.Perm es) (ho : Ordered es') : fullN es2 d2 = fullN es' d := by
  have s := t.same es' hp ho
  show cN es2 _ = cN es' _
  rw [s.cN, s.fs, t.dE]
theorem Tied.vec (t : Tied es d cuts es2 d2 c) (hp : es'.Perm es) (ho : Ordered es') : cN es2 (getD c) = cN es' (getD cuts) := by
  rw [(t.same es' hp ho).cN, t.cE]
theorem Tied.sum (t : Tied es d cuts es2 d2 c) : (c.map (·.2)).sum = (cuts.map (·.2)).sum := by
  have h1 := t.st.sit.sum t.st.ok
  obtain ⟨es', hp, ho⟩ := t.ex
  have h2 := (t.sit hp ho).sum t.ok
  have s := t.same es' hp ho
  rw [t.vec hp ho, s.len] at h1
  omega
theorem Tied.tot (t : Tied es d cuts es2 d2 c) (hp : es'.Perm es) (ho : Ordered es') : totI es2 d2 = totI es' d := by
  unfold totI
  rw [(t.same es' hp ho).fs, t.dE]
theorem Tied.next (t : Tied es d cuts es2 d2 c) (hp : es'.Perm es) (ho : Ordered es') : (es2.find? (splitB es2 (getD d2) (getD c))).map (·.name) = (es'.find? (splitB es' (getD d) (getD cuts))).map (·.name) := by
  rw [t.dE, t.cE]
  exact (t.same es' hp ho).next _ _
theorem Tied.last (t : Tied es d cuts es2 d2 c) (hp : es'.Perm es) (ho : Ordered es') : (lastF es2 (getD c)).map (·.name) = (lastF es' (getD cuts)).map (·.name) := by
  rw [t.cE]
  exact (t.same es' hp ho).last _
theorem Tied.cleanD (t : Tied es d cuts es2 d2 c) (hp : es'.Perm es) (ho : Ordered es') : cleanN es2 d2 = cleanN es' d := (t.same es' hp ho).clean fun e _ => by rw [t.dE]
theorem Tied.cleanC (t : Tied es d cuts es2 d2 c) (hp : es'.Perm es) (ho : Ordered es') : cleanN es2 c = cleanN es' cuts := (t.same es' hp ho).clean fun e _ => by rw [t.cE]
theorem Tied.cleanW (t : Tied es d cuts es2 d2 c) (hp : es'.Perm es) (ho : Ordered es') {w v : Num} (hw : ∀ e ∈ es2, getD w e.name = wholeF es2 (getD d2) (getD c) e.name) (hv : ∀ e ∈ es, getD v e.name = wholeF es (getD d) (getD cuts) e.name) : cleanN es2 w = cleanN es' v := by
  have s := t.same es' hp ho
  refine s.clean fun e he => ?_
  obtain ⟨e2, he2, h1, _⟩ := Paired.left s he
  rw [← h1, hw e2 he2, h1, hv e (hp.mem_iff.mp he), s.whole, t.dE, t.cE]
  unfold wholeF
  rw [amt_perm hp]
/-- other splits, cleaned -/
theorem Tied.other (t : Tied es d cuts es2 d2 c) {cuts' c' : Num} (ok : SplitsOk es d cuts') (hp : es'.Perm es) (ho : Ordered es') (h : ∀ i, i < es'.length → cN es2 (getD c') i = cN es' (getD cuts') i) : Tied es d cuts' es2 d2 (cleanN es2 c') := by
  have s := t.same es' hp ho
  have h' : ∀ e ∈ es', getD c' e.name = getD cuts' e.name := fun e he => by
    obtain ⟨i, hi⟩ := List.mem_iff_getElem?.mp he
    have h1 := h i (List.getElem?_eq_some_iff.mp hi).1
    rw [s.cN, cN_at hi, cN_at hi] at h1
    exact h1
  have v2 := t.st.sit.hv
  have hz2 := t.st.sit.hz
  have eC : cleanN es2 c' = cleanN es2 cuts' := by
    rw [s.clean (a := c') (b := cuts') h', s.clean (a := cuts') (b := cuts') fun _ _ => rfl]
  have nm : ∀ x, x ∈ es.map (·.name) → x ∈ es2.map (·.name) := fun x hx => by
    rw [s.names]
    exact (hp.map _).mem_iff.mpr hx
  have mk := StOk.make t.hv t.hz t.so ok hp ho s
  have ec : getD (cleanN es2 c') = getD cuts' := by
    rw [eC]
    exact getD_cleanF v2.nodup fun q hq => nm _ (ok.known q hq)
  have ed : getD (cleanN es2 d) = getD d2 := by
    rw [t.dE]
    exact getD_cleanF v2.nodup fun q hq => nm _ (t.so.known q hq)
  refine ⟨⟨t.st.sit, ⟨?_, ?_, ?_, fun e he => ?_⟩, ?_⟩, t.ex, t.same, t.dE, ec, t.dF, eC, t.hv, t.so, ok, t.hz⟩
  · rw [eC]
    exact mk.ok.nd
  · rw [eC]
    exact mk.ok.few
  · rw [eC]
    exact mk.ok.known
  · have f := mk.ok.fits e he
    rw [pn_at, ed] at f
    rw [pn_at, eC]
    exact f
  · rw [eC]
    exact mk.nz
end
end Sk
namespace Sk
open PySem PySem.Spec PyProof.Rows L2
theorem nil_ok {es : List Ent} {d : Num} (so : StockOk es d) : SplitsOk es d [] := by
  refine ⟨List.nodup_nil, by decide, fun q hq => (by cases hq), fun e he => ⟨Int.le_refl _, ?_⟩⟩
  have h : 0 ≤ pn es d [] e.name := pn_nonneg' so.pos (fun q hq => (by cases hq)) _
  show (0 : Int) ≤ _
  split
  · exact Int.le_refl _
  · exact h
section
variable {es es' es2 : List Ent} {d cuts d2 c c' : Num} {e : Ent}
theorem Tied.fill (t : Tied es d cuts es2 d2 c) (hp : es'.Perm es) (ho : Ordered es') (f : Fill es2.length (fullN es2 d2) (cN es2 (getD c)) (cN es2 (getD c'))) : Fill es'.length (fullN es' d) (cN es' (getD cuts)) (cN es2 (getD c')) := by
  rw [(t.same es' hp ho).len, t.full hp ho, t.vec hp ho] at f
  exact f
theorem Tied.drain (t : Tied es d cuts es2 d2 c) (hp : es'.Perm es) (ho : Ordered es') (f : Drain es2.length (cN es2 (getD c)) (cN es2 (getD c'))) : Drain es'.length (cN es' (getD cuts)) (cN es2 (getD c')) := by
  rw [(t.same es' hp ho).len, t.vec hp ho] at f
  exact f
/-- a split step -/
theorem Tied.up (t : Tied es d cuts es2 d2 c) (hp : es'.Perm es) (ho : Ordered es') (h : es'.find? (splitB es' (getD d) (getD cuts)) = some e) : (c.map (·.2)).sum + 1 ≤ totI es2 d2 ∧ SplitsOk es d (put cuts e.name (getD cuts e.name + 1)) ∧
    ∀ {c' : Num}, Fill es2.length (fullN es2 d2) (cN es2 (getD c)) (cN es2 (getD c')) → sumN (cN es2 (getD c')) es2.length = (c.map (·.2)).sum + 1 → Tied es d (put cuts e.name (getD cuts e.name + 1)) es2 d2 (cleanN es2 c') := by
  have S := t.sit hp ho
  obtain ⟨i, g, eq, ok⟩ := S.split t.ok h
  have s1 := S.sum t.ok
  have s2 := S.sum ok
  have s3 := sum_addN (c := cN es' (getD cuts)) g.lt
  have s4 := t.sum
  rw [eq] at s2
  refine ⟨?_, ok, fun f hs => t.other ok hp ho ?_⟩
  · rw [t.tot hp ho]
    have := (S.range ok).2
    omega
  · rw [eq]
    refine Fill.uniq (t.fill hp ho f) (Fill.one (S.vec t.ok) g) ?_
    rw [(t.same es' hp ho).len] at hs
    omega
/-- an undo step -/
theorem Tied.down (t : Tied es d cuts es2 d2 c) (hp : es'.Perm es) (ho : Ordered es') (h : lastF es' (getD cuts) = some e) : 1 ≤ (c.map (·.2)).sum ∧ SplitsOk es d (put cuts e.name (getD cuts e.name - 1)) ∧
    ∀ {c' : Num}, Drain es2.length (cN es2 (getD c)) (cN es2 (getD c')) → sumN (cN es2 (getD c')) es2.length = (c.map (·.2)).sum - 1 → Tied es d (put cuts e.name (getD cuts e.name - 1)) es2 d2 (cleanN es2 c') := by
  have S := t.sit hp ho
  obtain ⟨j, l, eq, ok⟩ := S.undo t.ok h
  have s1 := S.sum t.ok
  have s2 := S.sum ok
  have s3 := sum_subN (c := cN es' (getD cuts)) l.lt
  have s4 := t.sum
  rw [eq] at s2
  refine ⟨?_, ok, fun f hs => t.other ok hp ho ?_⟩
  · have := (S.range ok).1
    omega
  · rw [eq]
    refine Drain.uniq (t.drain hp ho f) (Drain.one (S.vec t.ok) l) ?_
    rw [(t.same es' hp ho).len] at hs
    omega
end
end Sk
namespace Sk
open PySem PySem.Spec PyProof.Rows L2
section
variable {es es' es2 : List Ent} {d cuts cuts' d2 c c' : Num}
theorem cN_clean (nd : (es2.map (·.name)).Nodup) (c : Num) : cN es2 (getD (cleanN es2 c)) = cN es2 (getD c) := by
  funext i
  cases h : es2[i]? with
  | none => rw [cN_out (List.getElem?_eq_none_iff.mp h), cN_out (List.getElem?_eq_none_iff.mp h)]
  | some e => rw [cN_at h, cN_at h, getD_clean nd c (List.mem_of_getElem? h)]
/-- so many split steps -/
theorem Sit.fillBy (S : Sit es es' d) (ok : SplitsOk es d c) : ∀ k : Nat, (c.map (·.2)).sum + k ≤ totI es' d → ∃ ck, SplitsOk es d ck ∧ Fill es'.length (fullN es' d) (cN es' (getD c)) (cN es' (getD ck)) ∧ (ck.map (·.2)).sum = (c.map (·.2)).sum + k
  | 0, _ => ⟨c, ok, Fill.refl (S.vec ok), by omega⟩
  | k + 1, h => by
    obtain ⟨ck, ok1, f1, s1⟩ := S.fillBy ok k (by omega)
    obtain ⟨e, he⟩ := S.split_ex ok1 (by omega)
    obtain ⟨i, g, eq, ok2⟩ := S.split ok1 he
    refine ⟨_, ok2, by rw [eq]; exact f1.step g, ?_⟩
    have s2 := S.sum ok2
    have s3 := S.sum ok1
    rw [eq, sum_addN g.lt] at s2
    omega
theorem Sit.drainBy (S : Sit es es' d) (ok : SplitsOk es d c) : ∀ k : Nat, k ≤ (c.map (·.2)).sum → ∃ ck, SplitsOk es d ck ∧ Drain es'.length (cN es' (getD c)) (cN es' (getD ck)) ∧ (ck.map (·.2)).sum = (c.map (·.2)).sum - k
  | 0, _ => ⟨c, ok, Drain.refl (S.vec ok), by omega⟩
  | k + 1, h => by
    obtain ⟨ck, ok1, f1, s1⟩ := S.drainBy ok k (by omega)
    obtain ⟨e0, h0, h1⟩ := S.undo_ex ok1 (by omega)
    obtain ⟨e, he⟩ := lastF_ex (es := es') (c := getD ck) ⟨e0, S.hp.mem_iff.mpr h0, h1⟩
    obtain ⟨i, l, eq, ok2⟩ := S.undo ok1 he
    refine ⟨_, ok2, by rw [eq]; exact f1.step l, ?_⟩
    have s2 := S.sum ok2
    have s3 := S.sum ok1
    rw [eq, sum_subN l.lt] at s2
    omega
/-- many split steps at once -/
theorem Tied.fillTo (t : Tied es d cuts es2 d2 c) (hp : es'.Perm es) (ho : Ordered es') (ok : SplitsOk es d cuts') {k : Int} (f : Fill es'.length (fullN es' d) (cN es' (getD cuts)) (cN es' (getD cuts'))) (hs : (cuts'.map (·.2)).sum = (cuts.map (·.2)).sum + k) : k ≤ totI es2 d2 - (c.map (·.2)).sum ∧
    ∀ {c' : Num}, Fill es2.length (fullN es2 d2) (cN es2 (getD c)) (cN es2 (getD c')) → sumN (cN es2 (getD c')) es2.length = (c.map (·.2)).sum + k → Tied es d cuts' es2 d2 (cleanN es2 c') := by
  have S := t.sit hp ho
  have s2 := S.sum ok
  have s4 := t.sum
  refine ⟨?_, fun f' h => t.other ok hp ho ?_⟩
  · rw [t.tot hp ho]
    have := (S.range ok).2
    omega
  · refine Fill.uniq (t.fill hp ho f') f ?_
    rw [(t.same es' hp ho).len] at h
    omega
theorem Tied.drainTo (t : Tied es d cuts es2 d2 c) (hp : es'.Perm es) (ho : Ordered es') (ok : SplitsOk es d cuts') {k : Int} (f : Drain es'.length (cN es' (getD cuts)) (cN es' (getD cuts'))) (hs : (cuts'.map (·.2)).sum = (cuts.map (·.2)).sum - k) : k ≤ (c.map (·.2)).sum ∧
    ∀ {c' : Num}, Drain es2.length (cN es2 (getD c)) (cN es2 (getD c')) → sumN (cN es2 (getD c')) es2.length = (c.map (·.2)).sum - k → Tied es d cuts' es2 d2 (cleanN es2 c') := by
  have S := t.sit hp ho
  have s2 := S.sum ok
  have s4 := t.sum
  refine ⟨?_, fun f' h => t.other ok hp ho ?_⟩
  · have := (S.range ok).1
    omega
  · refine Drain.uniq (t.drain hp ho f') f ?_
    rw [(t.same es' hp ho).len] at h
    omega
theorem Fill.clean (nd : (es2.map (·.name)).Nodup) {n : Nat} {F : Nat → Int} (f : Fill n F (cN es2 (getD c)) (cN es2 (getD c'))) {c'' : Num} (g : Fill n F (cN es2 (getD (cleanN es2 c'))) (cN es2 (getD c''))) : Fill n F (cN es2 (getD c)) (cN es2 (getD c'')) := by
  rw [cN_clean nd] at g
  exact f.trans g
theorem Drain.clean (nd : (es2.map (·.name)).Nodup) {n : Nat} (f : Drain n (cN es2 (getD c)) (cN es2 (getD c'))) {c'' : Num} (g : Drain n (cN es2 (getD (cleanN es2 c'))) (cN es2 (getD c''))) : Drain n (cN es2 (getD c)) (cN es2 (getD c'')) := by
  rw [cN_clean nd] at g
  exact f.trans g
theorem Fill.congr {n : Nat} {F a b b' : Nat → Int} (h : Fill n F a b) (e : ∀ i, i < n → b i = b' i) : Fill n F a b' := by
  refine ⟨fun i hi => by rw [← e i hi]; exact h.vec i hi, fun i hi => by rw [← e i hi]; exact h.le i hi, fun i k h1 h2 h3 => ?_⟩
  rw [← e k h2] at h3
  rw [← e i (by omega)]
  exact h.full i k h1 h2 h3
theorem Drain.congr {n : Nat} {a b b' : Nat → Int} (h : Drain n a b) (e : ∀ i, i < n → b i = b' i) : Drain n a b' := by
  refine ⟨fun i hi => by rw [← e i hi]; exact h.pos i hi, fun i hi => by rw [← e i hi]; exact h.le i hi, fun i k h1 h2 h3 => ?_⟩
  rw [← e i (by omega)] at h3
  rw [← e k h2]
  exact h.zero i k h1 h2 h3
/-- in two portions -/
theorem Sit.fillMid (S : Sit es es' d) (ok : SplitsOk es d cuts) (ok' : SplitsOk es d cuts') (f : Fill es'.length (fullN es' d) (cN es' (getD cuts)) (cN es' (getD cuts'))) {k j : Nat} (hs : (cuts'.map (·.2)).sum = (cuts.map (·.2)).sum + k) (hj : j ≤ k) :
    ∃ cm, SplitsOk es d cm ∧ Fill es'.length (fullN es' d) (cN es' (getD cuts)) (cN es' (getD cm)) ∧ (cm.map (·.2)).sum = (cuts.map (·.2)).sum + j ∧ Fill es'.length (fullN es' d) (cN es' (getD cm)) (cN es' (getD cuts')) ∧ (cuts'.map (·.2)).sum = (cm.map (·.2)).sum + (k - j : Int) := by
  have r := (S.range ok').2
  obtain ⟨cm, okm, f1, s1⟩ := S.fillBy ok j (by omega)
  obtain ⟨ck, okk, f2, s2⟩ := S.fillBy okm (k - j) (by omega)
  have q1 := S.sum okk
  have q2 := S.sum ok'
  have e := Fill.uniq (f1.trans f2) f (by omega)
  exact ⟨cm, okm, f1, s1, f2.congr e, by omega⟩
theorem Sit.drainMid (S : Sit es es' d) (ok : SplitsOk es d cuts) (ok' : SplitsOk es d cuts') (f : Drain es'.length (cN es' (getD cuts)) (cN es' (getD cuts'))) {k j : Nat} (hs : (cuts'.map (·.2)).sum = (cuts.map (·.2)).sum - k) (hj : j ≤ k) :
    ∃ cm, SplitsOk es d cm ∧ Drain es'.length (cN es' (getD cuts)) (cN es' (getD cm)) ∧ (cm.map (·.2)).sum = (cuts.map (·.2)).sum - j ∧ Drain es'.length (cN es' (getD cm)) (cN es' (getD cuts')) ∧ (cuts'.map (·.2)).sum = (cm.map (·.2)).sum - (k - j : Int) := by
  have r := (S.range ok').1
  obtain ⟨cm, okm, f1, s1⟩ := S.drainBy ok j (by omega)
  obtain ⟨ck, okk, f2, s2⟩ := S.drainBy okm (k - j) (by omega)
  have q1 := S.sum okk
  have q2 := S.sum ok'
  have e := Drain.uniq (f1.trans f2) f (by omega)
  exact ⟨cm, okm, f1, s1, f2.congr e, by omega⟩
end
end Sk
namespace Sk
open PySem PySem.Spec PyProof.Rows L2
/-- steps that stay from 0 to t -/
def Path : Int → Int → List Int → Prop
  | _, _, [] => True
  | n, t, b :: r => ((b = 1 ∧ n < t) ∨ (b = -1 ∧ 0 < n)) ∧ Path (n + b) t r
theorem Path.snoc {t b : Int} : ∀ {w : List Int} {n : Int}, Path n t w → ((b = 1 ∧ n + w.sum < t) ∨ (b = -1 ∧ 0 < n + w.sum)) → Path n t (w ++ [b])
  | [], n, _, h => by
    rw [List.sum_nil, Int.add_zero] at h
    exact ⟨h, trivial⟩
  | x :: w, n, p, h => by
    refine ⟨p.1, Path.snoc p.2 ?_⟩
    rw [List.sum_cons] at h
    rw [show n + x + w.sum = n + (x + w.sum) by omega]
    exact h
theorem Path.at {t : Int} : ∀ {w : List Int} {n : Int} {i : Nat} {b : Int}, Path n t w → w[i]? = some b → (b = 1 ∧ n + (w.take i).sum < t) ∨ (b = -1 ∧ 0 < n + (w.take i).sum)
  | [], _, _, _, _, h => by simp at h
  | x :: w, n, 0, b, p, h => by
    simp at h
    subst h
    rw [List.take_zero, List.sum_nil, Int.add_zero]
    exact p.1
  | x :: w, n, i + 1, b, p, h => by
    have h' : w[i]? = some b := by simpa using h
    have := Path.at p.2 h'
    rw [List.take_succ_cons, List.sum_cons, show n + (x + (w.take i).sum) = n + x + (w.take i).sum by omega]
    exact this
theorem Path.ones {t : Int} : ∀ {w : List Int} {n : Int}, Path n t w → w.sum = (w.count 1 : Nat) - (w.count (-1) : Nat) ∧ w.length = w.count 1 + w.count (-1)
  | [], _, _ => by simp
  | x :: w, n, p => by
    obtain ⟨h1, h2⟩ := Path.ones p.2
    rcases p.1 with ⟨rfl, _⟩ | ⟨rfl, _⟩
    · rw [List.sum_cons, List.count_cons, List.count_cons, List.length_cons]
      simp
      omega
    · rw [List.sum_cons, List.count_cons, List.count_cons, List.length_cons]
      simp
      omega
section
variable {n : Nat} {F c c' : Nat → Int} {a b : Nat}
theorem Wd.out (w : Wd n F c a b c') : ∀ k, n ≤ k → c' k = c k := by
  induction w with
  | nil c => exact fun _ _ => rfl
  | up g _ ih =>
    intro k hk
    have := g.lt
    rw [ih k hk, addN_ne (by omega)]
  | down l _ ih =>
    intro k hk
    have := l.lt
    rw [ih k hk, subN_ne (by omega)]
theorem Wd.fill (v : Vec n F c) (w : Wd n F c a b c') (hb : b = 0) : Fill n F c c' := by
  induction w with
  | nil c => exact Fill.refl v
  | up g _ ih => exact (Fill.one v g).trans (ih (v.add g) hb)
  | down l _ ih => cases hb
theorem Wd.drain (v : Vec n F c) (w : Wd n F c a b c') (ha : a = 0) : Drain n c c' := by
  induction w with
  | nil c => exact Drain.refl v
  | up g _ ih => cases ha
  | down l _ ih => exact (Drain.one v l).trans (ih (v.sub l) ha)
end
section
variable {es es' : List Ent} {d c : Num}
/-- splits so many steps on -/
theorem Sit.wdUp (S : Sit es es' d) (ok : SplitsOk es d c) : ∀ k : Nat, (c.map (·.2)).sum + k ≤ totI es' d → ∃ ck, SplitsOk es d ck ∧ Wd es'.length (fullN es' d) (cN es' (getD c)) k 0 (cN es' (getD ck)) ∧ (ck.map (·.2)).sum = (c.map (·.2)).sum + k
  | 0, _ => ⟨c, ok, .nil _, by omega⟩
  | k + 1, h => by
    obtain ⟨ck, ok1, w1, s1⟩ := S.wdUp ok k (by omega)
    obtain ⟨e, he⟩ := S.split_ex ok1 (by omega)
    obtain ⟨i, g, eq, ok2⟩ := S.split ok1 he
    refine ⟨_, ok2, ?_, ?_⟩
    · rw [eq]
      exact w1.app (.up g (.nil _))
    · have s2 := S.sum ok2
      have s3 := S.sum ok1
      rw [eq, sum_addN g.lt] at s2
      omega
theorem Sit.wdDown (S : Sit es es' d) (ok : SplitsOk es d c) : ∀ k : Nat, k ≤ (c.map (·.2)).sum → ∃ ck, SplitsOk es d ck ∧ Wd es'.length (fullN es' d) (cN es' (getD c)) 0 k (cN es' (getD ck)) ∧ (ck.map (·.2)).sum = (c.map (·.2)).sum - k
  | 0, _ => ⟨c, ok, .nil _, by omega⟩
  | k + 1, h => by
    obtain ⟨ck, ok1, w1, s1⟩ := S.wdDown ok k (by omega)
    obtain ⟨e0, h0, h1⟩ := S.undo_ex ok1 (by omega)
    obtain ⟨e, he⟩ := lastF_ex (es := es') (c := getD ck) ⟨e0, S.hp.mem_iff.mpr h0, h1⟩
    obtain ⟨i, l, eq, ok2⟩ := S.undo ok1 he
    refine ⟨_, ok2, ?_, ?_⟩
    · rw [eq]
      exact w1.app (.down l (.nil _))
    · have s2 := S.sum ok2
      have s3 := S.sum ok1
      rw [eq, sum_subN l.lt] at s2
      omega
end
end Sk
namespace Sk
open PySem PySem.Spec PyProof.Rows L2
theorem NoTab.xd {fs : List (Str × V)} : NoTab (.xd fs) := ⟨(fun _ e => by cases e), (fun _ e => by cases e)⟩
/-- how many steps of a kind are possible -/
def possN (es : List Ent) (d c : Num) (kind : Str) : Int := if kind = "undo" then (c.map (·.2)).sum else totI es d - (c.map (·.2)).sum
/-- so many steps of a kind -/
def Moved (es : List Ent) (d c : Num) (kind : Str) (t : Int) (c' : Num) : Prop :=
  if kind = "undo" then Drain es.length (cN es (getD c)) (cN es (getD c')) ∧ sumN (cN es (getD c')) es.length = (c.map (·.2)).sum - t
  else Fill es.length (fullN es d) (cN es (getD c)) (cN es (getD c')) ∧ sumN (cN es (getD c')) es.length = (c.map (·.2)).sum + t
def Step1 (es : List Ent) (d c : Num) (q : Str × Int) (c1 : Num) : Prop := 0 ≤ q.2 ∧ q.2 ≤ possN es d c q.1 ∧ ∃ c', c1 = cleanN es c' ∧ Moved es d c q.1 q.2 c'
inductive Hist (es : List Ent) (d : Num) : Num → List (Str × Int) → Num → Prop where
  | nil (c : Num) : Hist es d c [] c
  | cons {c c1 c2 : Num} {q : Str × Int} {r : List (Str × Int)} (s : Step1 es d c q c1) (h : Hist es d c1 r c2) : Hist es d c (q :: r) c2
section
variable {es : List Ent} {d c c1 c2 : Num} {q : Str × Int} {r r2 : List (Str × Int)}
theorem cN_same {a b : Num} (h : ∀ i, i < es.length → cN es (getD a) i = cN es (getD b) i) : cleanN es a = cleanN es b := by
  have k : ∀ e ∈ es, getD a e.name = getD b e.name := fun e he => by
    obtain ⟨i, hi⟩ := List.mem_iff_getElem?.mp he
    have h1 := h i (List.getElem?_eq_some_iff.mp hi).1
    rwa [cN_at hi, cN_at hi] at h1
  unfold cleanN
  have e : es.filter (fun e => decide (getD a e.name ≠ 0)) = es.filter (fun e => decide (getD b e.name ≠ 0)) := List.filter_congr fun e he => by rw [k e he]
  rw [e]
  exact List.map_congr_left fun e he => by rw [k e (List.mem_filter.mp he).1]
theorem StOk.clean {a : Num} (st : StOk es d c) (ok : SplitsOk es d a) : StOk es d (cleanN es a) := by
  have v := st.sit.hv
  have hl := clean_len es a
  have hz := st.sit.hz
  have ea : getD (cleanN es a) = getD a := getD_cleanF v.nodup ok.known
  refine ⟨st.sit, ⟨clean_nodup v.nodup, by omega, clean_known es a, fun e he => ?_⟩, clean_nz es a⟩
  have f := ok.fits e he
  rw [pn_at] at f ⊢
  rw [ea]
  exact f
theorem Moved.uniq {kind : Str} {t : Int} {a b : Num} (x : Moved es d c kind t a) (y : Moved es d c kind t b) : cleanN es a = cleanN es b := by
  unfold Moved at x y
  by_cases z : kind = "undo"
  · rw [if_pos z] at x y
    exact cN_same (Drain.uniq x.1 y.1 (by rw [x.2, y.2]))
  · rw [if_neg z] at x y
    exact cN_same (Fill.uniq x.1 y.1 (by rw [x.2, y.2]))
theorem Step1.uniq (x : Step1 es d c q c1) (y : Step1 es d c q c2) : c1 = c2 := by
  obtain ⟨_, _, a, rfl, x⟩ := x
  obtain ⟨_, _, b, rfl, y⟩ := y
  exact x.uniq y
/-- the splits with the steps taken, as single steps make them -/
theorem StOk.moves (st : StOk es d c) {kind : Str} {t : Int} (h0 : 0 ≤ t) (h1 : t ≤ possN es d c kind) : ∃ ck, SplitsOk es d ck ∧ Moved es d c kind t ck := by
  obtain ⟨k, rfl⟩ := Int.eq_ofNat_of_zero_le h0
  unfold possN at h1
  unfold Moved
  by_cases z : kind = "undo"
  · rw [if_pos z] at h1
    obtain ⟨ck, ok, f, s⟩ := st.sit.drainBy st.ok k h1
    exact ⟨ck, ok, by rw [if_pos z]; exact ⟨f, by have := st.sit.sum ok; omega⟩⟩
  · rw [if_neg z] at h1
    obtain ⟨ck, ok, f, s⟩ := st.sit.fillBy st.ok k (by omega)
    exact ⟨ck, ok, by rw [if_neg z]; exact ⟨f, by have := st.sit.sum ok; omega⟩⟩
theorem StOk.step (st : StOk es d c) (x : Step1 es d c q c1) : StOk es d c1 := by
  obtain ⟨h0, h1, a, rfl, x⟩ := x
  obtain ⟨ck, ok, y⟩ := st.moves h0 h1
  rw [x.uniq y]
  exact st.clean ok
theorem StOk.step_ex (st : StOk es d c) (h0 : 0 ≤ q.2) (h1 : q.2 ≤ possN es d c q.1) : ∃ c1, Step1 es d c q c1 := by
  obtain ⟨ck, ok, y⟩ := st.moves h0 h1
  exact ⟨_, h0, h1, ck, rfl, y⟩
theorem Hist.uniq (x : Hist es d c r c1) : Hist es d c r c2 → c1 = c2 := by
  induction x with
  | nil c =>
    intro y
    cases y
    rfl
  | cons s _ ih =>
    intro y
    cases y with
    | cons s2 h2 =>
      rw [s2.uniq s] at h2
      exact ih h2
theorem Hist.ok (st : StOk es d c) (x : Hist es d c r c1) : StOk es d c1 := by
  induction x with
  | nil c => exact st
  | cons s _ ih => exact ih (st.step s)
theorem Hist.app (x : Hist es d c r c1) : Hist es d c1 r2 c2 → Hist es d c (r ++ r2) c2 := by
  induction x with
  | nil c => exact id
  | cons s _ ih => exact fun y => .cons s (ih y)
theorem Hist.snoc (x : Hist es d c r c1) (s : Step1 es d c1 q c2) : Hist es d c (r ++ [q]) c2 := x.app (.cons s (.nil _))
end
/-- the heap is as before, but for what was put back -/
theorem Gr.back {T : List (Addr × Str)} {H H' : Hp} {s : Addr} {o1 o2 : HO} (h : H s = some o1) (n1 : NoTab o1) (n2 : NoTab o2) (g : Gr T (upd H s o2) H') : Gr T H (upd H' s o1) := by
  have g2 := Gr.put2 g (upd_same (H := H) (a := s) (o := o2)) n2 n1
  rwa [show upd (upd H s o2) s o1 = H from by
    funext b
    by_cases hb : b = s
    · rw [hb, upd_same, h]
    · rw [upd_ne hb, upd_ne hb]] at g2
/-- a history's entries -/
def HsAt (H : Hp) (xs : List V) (hs : List (Str × Int)) : Prop := Paired (fun v (q : Str × Int) => ∃ t, v = .ref t ∧ H t = some (.tup [.str q.1, .int q.2])) xs hs
theorem HsAt.gr {T : List (Addr × Str)} {H H' : Hp} (g : Gr T H H') {xs : List V} {hs : List (Str × Int)} (h : HsAt H xs hs) : HsAt H' xs hs := Paired.imp (fun _ _ ⟨t, e, z⟩ => ⟨t, e, g.at z .tup⟩) h
theorem HsAt.updI {H : Hp} {s C dx : Addr} {fs : List (Str × V)} {o : HO} (hs : H s = some (.ins C dx fs)) {xs : List V} {l : List (Str × Int)} (h : HsAt H xs l) : HsAt (upd H s o) xs l := Paired.imp (fun _ _ ⟨t, e, z⟩ => ⟨t, e, by
  rw [upd_ne (fun y => by rw [y, hs] at z; cases z)]
  exact z⟩) h
theorem StAt.moved2 {Tb : List (Addr × Str)} {K : PySem.W.Frag} {H H' : Hp} {s dx A B C e2 : Addr} {ys : List V} {es : List Ent} {d c c' : Num} (h : StAt K H s dx A B C ys es d c) (g : Gr Tb (upd H s (.ins (stC K) dx (stF A B e2))) H') (he : H' e2 = some (.dK (dS c'))) : StAt K H' s dx A B e2 ys es d c' := by
  have n1 : A ≠ s := fun z => by have := h.obj; rw [← z, h.en] at this; cases this
  have n2 : B ≠ s := fun z => by have := h.obj; rw [← z, h.st] at this; cases this
  exact ⟨g.at upd_same .ins, g.at (by rw [upd_ne n1]; exact h.en) .lst, CatAt.gr g (CatAt.updI h.obj h.cat), g.at (by rw [upd_ne n2]; exact h.st) .dK, he⟩
theorem updS {H : Hp} {a : Addr} {o : HO} (h : H a = some o) : upd H a o = H := by
  funext b
  by_cases hb : b = a
  · rw [hb, upd_same, h]
  · rw [upd_ne hb]
theorem sq_updI {K : PySem.W.Frag} {H : Hp} {s o C dx : Addr} {fs : List (Str × V)} {u : HO} {xs : List V} (hs : H s = some (.ins C dx fs)) (h : SqL K H o xs) : SqL K (upd H s u) o xs := by
  rcases h with (z | ⟨ob, z⟩) | z
  · exact .inl (.inl (by rw [upd_ne (fun y => by rw [y, hs] at z; cases z)]; exact z))
  · exact .inl (.inr ⟨ob, by rw [upd_ne (fun y => by rw [y, hs] at z; cases z)]; exact z⟩)
  · exact .inr z
theorem Nw.updI {H : Hp} {s e C dx : Addr} {fs : List (Str × V)} {u : HO} (hs : H s = some (.ins C dx fs)) (h : Nw H e) : Nw (upd H s u) e := fun v hv => by
  by_cases z : e = s
  · obtain ⟨ps, y⟩ := h _ (by rw [z]; exact hs)
    cases y
  · exact h v (by rwa [upd_ne z] at hv)
end Sk
namespace Sk
open PySem PySem.Spec PyProof.Rows L2
theorem rising_pw : ∀ (r : List Str) (x : Str), risingS x r = true → (x :: r).Pairwise fun a b => a.cps.toList ≤ b.cps.toList
  | [], _, _ => List.pairwise_singleton ..
  | y :: r, x, h => by
    have h' : (!ltCps y.cps.toList x.cps.toList && risingS y r) = true := h
    rw [Bool.and_eq_true, ltCps_eq, Bool.not_eq_true', decide_eq_false_iff_not] at h'
    have h1 : x.cps.toList ≤ y.cps.toList := h'.1
    have ih := rising_pw r y h'.2
    refine List.pairwise_cons.mpr ⟨fun z hz => ?_, ih⟩
    rcases List.mem_cons.mp hz with rfl | hz
    · exact h1
    · exact List.le_trans h1 ((List.pairwise_cons.mp ih).1 z hz)
theorem sorted_pw {l : List Str} (h : sortedS l = true) : l.Pairwise fun a b => a.cps.toList ≤ b.cps.toList := by
  cases l with
  | nil => exact List.Pairwise.nil
  | cons x r => exact rising_pw r x h
/-- the first of some keys, by the order of texts, that is so -/
def FirstName (p : Str → Prop) (keys : List Str) (x : Str) : Prop := x ∈ keys ∧ p x ∧ ∀ y ∈ keys, p y → x.cps.toList ≤ y.cps.toList
theorem first_name {p : Str → Prop} {ys keys : List Str} (hp : ys.Perm keys) (so : sortedS ys = true) {i : Nat} {x : Str} (hx : ys[i]? = some x) (px : p x) (nb : ∀ (j : Nat) y, j < i → ys[j]? = some y → ¬ p y) : FirstName p keys x := by
  refine ⟨hp.mem_iff.mp (List.mem_of_getElem? hx), px, fun y hy py => ?_⟩
  obtain ⟨j, hj⟩ := List.mem_iff_getElem?.mp (hp.mem_iff.mpr hy)
  obtain ⟨hi, hxe⟩ := List.getElem?_eq_some_iff.mp hx
  obtain ⟨hjl, hye⟩ := List.getElem?_eq_some_iff.mp hj
  rcases Nat.lt_trichotomy j i with z | z | z
  · exact absurd py (nb j y z hj)
  · subst z
    rw [hx] at hj
    cases hj
    exact List.le_refl _
  · have := List.pairwise_iff_getElem.mp (sorted_pw so) i j hi hjl z
    rw [hxe, hye] at this
    exact this
theorem FirstName.uniq {p : Str → Prop} {keys : List Str} {x y : Str} (a : FirstName p keys x) (b : FirstName p keys y) : x = y := str_ext (List.le_antisymm (a.2.2 y b.1 b.2.1) (b.2.2 x a.1 a.2.1))
end Sk
namespace Sk
open PySem PySem.Spec PyProof.Rows L2
theorem sorted_unique : ∀ {xs ys : List Str}, xs.Perm ys → (xs.Pairwise fun a b => a.cps.toList ≤ b.cps.toList) → (ys.Pairwise fun a b => a.cps.toList ≤ b.cps.toList) → xs = ys
  | [], ys, p, _, _ => (List.nil_perm.mp p).symm
  | x :: xs, [], p, _, _ => absurd p.length_eq (by simp)
  | x :: xs, y :: ys, p, ox, oy => by
    obtain ⟨x1, x2⟩ := List.pairwise_cons.mp ox
    obtain ⟨y1, y2⟩ := List.pairwise_cons.mp oy
    have e : x = y := by
      rcases List.mem_cons.mp (p.mem_iff.mp (List.mem_cons_self ..)) with e | hx
      · exact e
      · rcases List.mem_cons.mp (p.mem_iff.mpr (List.mem_cons_self ..)) with e | hy
        · exact e.symm
        · exact str_ext (List.le_antisymm (x1 y hy) (y1 x hx))
    subst e
    rw [sorted_unique ((List.perm_cons x).mp p) x2 y2]
theorem SameC.uniq {es a : List Ent} (s : SameC es a) : ∀ {b : List Ent}, SameC es b → a = b := by
  induction s with
  | nil =>
    intro b t
    cases t
    rfl
  | @cons e x es xs h p ih =>
    intro b t
    cases t with
    | @cons _ y _ ys k q =>
      rw [ih q]
      congr 1
      obtain ⟨n, w, ps⟩ := x
      obtain ⟨n', w', ps'⟩ := y
      obtain ⟨h1, h2, h3, h4⟩ := h
      obtain ⟨k1, k2, k3, k4⟩ := k
      dsimp only at h1 h2 h3 h4 k1 k2 k3 k4
      rw [h1, h2, k1, k2, sorted_unique (h3.trans k3.symm) (sorted_pw h4) (sorted_pw k4)]
end Sk
namespace Sk
open PySem PySem.Spec PyProof.Rows L2
instance entDec : DecidableEq Ent := fun a b => decidable_of_iff (a.name = b.name ∧ a.w = b.w ∧ a.parts = b.parts) ⟨fun h => by
  cases a
  cases b
  obtain ⟨h1, h2, h3⟩ := h
  dsimp only at h1 h2 h3
  rw [h1, h2, h3], fun h => by rw [h]; exact ⟨rfl, rfl, rfl⟩⟩
theorem catD_shaped {es : List Ent} (v : Valid es) : SeqAt.shaped (catD es) = true := by
  have ks : ∀ l : List Str, (∀ x ∈ l, nameB x = true) → PyData.canLayAll0 (l.map PyData.str) = true := by
    intro l
    induction l with
    | nil => intro _; simp only [List.map_nil, PyData.canLayAll0]
    | cons q l ih =>
      intro hl
      rw [List.map_cons, PyData.canLayAll0, ih fun z hz => hl z (List.mem_cons_of_mem _ hz)]
      simp only [PyData.canLay0, nameB_strOk (hl q (List.mem_cons_self ..)), Bool.and_self]
  have key : ∀ l : List Ent, (∀ e ∈ l, e ∈ es) → PyData.canLayAll0 (l.map entD) = true := by
    intro l
    induction l with
    | nil => intro _; simp only [List.map_nil, PyData.canLayAll0]
    | cons e l ih =>
      intro hl
      have he := hl e (List.mem_cons_self ..)
      have hp : ∀ x ∈ e.parts, nameB x = true := fun x hx => by
        obtain ⟨e', h1, rfl, _⟩ := v.lighter e he x hx
        exact v.names e' h1
      rw [List.map_cons, PyData.canLayAll0, ih fun z hz => hl z (List.mem_cons_of_mem _ hz)]
      unfold entD
      simp only [PyData.canLay0, PyData.canLayAll0, nameB_strOk (v.names e he), ks e.parts hp, Bool.and_self]
  unfold SeqAt.shaped
  rw [Bool.and_eq_true]
  refine ⟨?_, decide_eq_true (Nat.le_trans (depth_cat es) (by decide))⟩
  unfold catD
  rw [PyData.canLay0]
  exact key es fun _ h => h
theorem eqvAll_map {α : Type} {f : α → PyData} {r : α → α → Bool} (h : ∀ x y, PyData.eqv (f x) (f y) = r x y) (hr : ∀ x y, r x y = true ↔ x = y) : ∀ xs ys : List α, PyData.eqvAll (xs.map f) (ys.map f) = true ↔ xs = ys
  | [], [] => by simp [PyData.eqvAll]
  | [], y :: ys => by simp [PyData.eqvAll]
  | x :: xs, [] => by simp [PyData.eqvAll]
  | x :: xs, y :: ys => by
    rw [List.map_cons, List.map_cons, PyData.eqvAll, h, Bool.and_eq_true, hr, eqvAll_map h hr xs ys]
    simp
theorem eqv_strs (xs ys : List Str) : PyData.eqvAll (xs.map PyData.str) (ys.map PyData.str) = true ↔ xs = ys := eqvAll_map (r := fun x y => x == y) (fun x y => by simp [PyData.eqv]) (fun x y => by simp) xs ys
theorem eqv_ent (a b : Ent) : PyData.eqv (entD a) (entD b) = true ↔ a = b := by
  obtain ⟨n, w, p⟩ := a
  obtain ⟨n', w', p'⟩ := b
  unfold entD
  simp only [PyData.eqv, PyData.eqvAll, Bool.and_eq_true, beq_iff_eq, eqv_strs, Ent.mk.injEq]
  simp
theorem eqv_cat (xs ys : List Ent) : PyData.eqv (catD xs) (catD ys) = decide (xs = ys) := by
  have h := eqvAll_map (f := entD) (r := fun a b => PyData.eqv (entD a) (entD b)) (fun _ _ => rfl) eqv_ent xs ys
  unfold catD
  rw [Bool.eq_iff_iff, decide_eq_true_eq, ← h]
  simp only [PyData.eqv]
end Sk
namespace Sk
open PySem PySem.Spec PyProof.Rows L2
/-- two stores of the same numbers -/
theorem Tied.twin {es es2 es3 : List Ent} {d cuts1 cuts2 d2 d3 c1 c2 : Num} (t1 : Tied es d cuts1 es2 d2 c1) (t2 : Tied es d cuts2 es3 d3 c2) (h : ∀ es' : List Ent, es'.Perm es → Ordered es' → cN es' (getD cuts1) = cN es' (getD cuts2)) : es3 = es2 ∧ d3 = d2 ∧ c2 = c1 := by
  obtain ⟨es', hp, ho⟩ := t1.ex
  have s1 := t1.same es' hp ho
  have s2 := t2.same es' hp ho
  have e := s2.uniq s1
  subst e
  have hh := h es' hp ho
  have k : ∀ e ∈ es', getD cuts2 e.name = getD cuts1 e.name := fun e he => by
    obtain ⟨i, hi⟩ := List.mem_iff_getElem?.mp he
    have := congrFun hh i
    rw [cN_at hi, cN_at hi] at this
    exact this.symm
  refine ⟨rfl, by rw [t1.dF, t2.dF], ?_⟩
  rw [t1.cF, t2.cF, s1.clean (a := cuts2) (b := cuts1) k, s1.clean (a := cuts1) (b := cuts1) fun _ _ => rfl]
/-- see eqv_cat -/
theorem eq_twin {es : List Ent} {d c : Num} (h1 : (d.map (·.1)).Nodup) (h2 : (c.map (·.1)).Nodup) : (decide (es = es) && (eqNum d d && eqNum c c)) = true := by
  rw [decide_eq_true rfl, eqNum_refl h1, eqNum_refl h2]
  rfl
/-- one store stands while another is written -/
theorem StAt.other {K : PySem.W.Frag} {H : Hp} {s x dx A B C : Addr} {ys : List V} {es : List Ent} {d c : Num} {C' dx' : Addr} {fs : List (Str × V)} {o : HO} (h : StAt K H x dx A B C ys es d c) (hs : H s = some (.ins C' dx' fs)) (ne : x ≠ s) : StAt K (upd H s o) x dx A B C ys es d c := by
  have n1 : A ≠ s := fun z => by rw [← z, h.en] at hs; cases hs
  have n2 : B ≠ s := fun z => by rw [← z, h.st] at hs; cases hs
  have n3 : C ≠ s := fun z => by rw [← z, h.sp] at hs; cases hs
  exact ⟨by rw [upd_ne ne]; exact h.obj, by rw [upd_ne n1]; exact h.en, CatAt.updI hs h.cat, by rw [upd_ne n2]; exact h.st, by rw [upd_ne n3]; exact h.sp⟩
end Sk
namespace Sk
open PySem PySem.Spec PyProof.Rows L2
section
variable {es : List Ent} {d c c1 c2 ci cj : Num} {q q2 : Str × Int} {hs : List (Str × Int)} {i j : Nat}
theorem Hist.cut (h : Hist es d c hs c1) : ∀ i, ∃ cm, Hist es d c (hs.take i) cm ∧ Hist es d cm (hs.drop i) c1 := by
  induction h with
  | nil c => exact fun i => ⟨c, by rw [List.take_nil]; exact .nil c, by rw [List.drop_nil]; exact .nil c⟩
  | @cons c c1 c2 q r s h ih =>
    intro i
    cases i with
    | zero => exact ⟨c, .nil c, .cons s h⟩
    | succ i =>
      obtain ⟨cm, h1, h2⟩ := ih i
      exact ⟨cm, .cons s h1, h2⟩
theorem Hist.nofail (h : Hist es d c hs c1) (hq : hs[i]? = some q) (hi : Hist es d c (hs.take i) ci) (lt : possN es d ci q.1 < q.2) : False := by
  obtain ⟨cm, h1, h2⟩ := h.cut i
  rw [h1.uniq hi] at h2
  have e : hs.drop i = q :: hs.drop (i + 1) := by
    obtain ⟨hl, rfl⟩ := List.getElem?_eq_some_iff.mp hq
    exact List.drop_eq_getElem_cons hl
  rw [e] at h2
  cases h2 with
  | cons s _ =>
    have := s.2.1
    omega
theorem Hist.onefail (hi : Hist es d c (hs.take i) ci) (hq : hs[i]? = some q) (lt : possN es d ci q.1 < q.2) (hj : Hist es d c (hs.take j) cj) (hq2 : hs[j]? = some q2) (lt2 : possN es d cj q2.1 < q2.2) : i = j := by
  have key : ∀ {i j : Nat} {ci cj : Num} {q q2 : Str × Int}, i < j → Hist es d c (hs.take i) ci → hs[i]? = some q → possN es d ci q.1 < q.2 → Hist es d c (hs.take j) cj → False := fun {i j ci cj q q2} z hi hq lt hj =>
    hj.nofail (i := i) (q := q) (by rw [List.getElem?_take_of_lt z]; exact hq) (by rw [List.take_take, Nat.min_eq_left (Nat.le_of_lt z)]; exact hi) lt
  rcases Nat.lt_trichotomy i j with z | z | z
  · exact (key (q2 := q) z hi hq lt hj).elim
  · exact z
  · exact (key (q2 := q) z hj hq2 lt2 hi).elim
end
section
variable {es es' es2 : List Ent} {d cuts d2 c c1 : Num} {q : Str × Int} {hs : List (Str × Int)}
theorem Tied.knows (t : Tied es d cuts es2 d2 c) {x : Str} : x ∈ es2.map (·.name) ↔ x ∈ es.map (·.name) := by
  obtain ⟨es', hp, ho⟩ := t.ex
  rw [(t.same es' hp ho).names]
  exact (hp.map _).mem_iff
/-- the store's own dict is the law's splits, too -/
theorem Tied.okC (t : Tied es d cuts es2 d2 c) : SplitsOk es d (cleanN es2 c) ∧ getD (cleanN es2 c) = getD cuts := by
  have v2 := t.st.sit.hv
  have e : getD (cleanN es2 c) = getD cuts := by rw [getD_cleanF v2.nodup t.st.ok.known, t.cE]
  have hl := clean_len es2 c
  have hz := t.st.sit.hz
  refine ⟨⟨clean_nodup v2.nodup, by omega, fun q hq => t.knows.mp (clean_known es2 c q hq), fun x hx => ?_⟩, e⟩
  have f := t.ok.fits x hx
  rw [pn_at] at f ⊢
  rw [e]
  exact f
theorem Tied.again (t : Tied es d cuts es2 d2 c) : Tied es d (cleanN es2 c) es2 d2 c := by
  obtain ⟨ok, e⟩ := t.okC
  refine ⟨t.st, t.ex, t.same, t.dE, by rw [e]; exact t.cE, t.dF, ?_, t.hv, t.so, ok, t.hz⟩
  obtain ⟨es', hp, ho⟩ := t.ex
  have s := t.same es' hp ho
  rw [t.cF, s.clean (a := cleanN es2 (cleanN es2 cuts)) (b := cuts) fun x _ => by rw [← t.cF, e], s.clean (a := cuts) (b := cuts) fun _ _ => rfl]
theorem Tied.step (t : Tied es d cuts es2 d2 c) (x : Step1 es2 d2 c q c1) : ∃ cuts', Tied es d cuts' es2 d2 c1 := by
  obtain ⟨h0, h1, a, rfl, m⟩ := x
  obtain ⟨es', hp, ho⟩ := t.ex
  have S := t.sit hp ho
  obtain ⟨n, t⟩ : ∃ n : Nat, q.2 = n ∧ Tied es d cuts es2 d2 c := ⟨q.2.toNat, by omega, t⟩
  obtain ⟨en, t⟩ := t
  unfold possN at h1
  unfold Moved at m
  by_cases z : q.1 = "undo"
  · rw [if_pos z] at h1 m
    obtain ⟨ck, ok, f, s⟩ := S.drainBy t.ok n (by rw [← t.sum]; omega)
    exact ⟨ck, (t.drainTo hp ho ok f (k := q.2) (by rw [s, en])).2 m.1 m.2⟩
  · rw [if_neg z] at h1 m
    obtain ⟨ck, ok, f, s⟩ := S.fillBy t.ok n (by rw [← t.sum, ← t.tot hp ho]; omega)
    exact ⟨ck, (t.fillTo hp ho ok f (k := q.2) (by rw [s, en])).2 m.1 m.2⟩
theorem Tied.hist (t : Tied es d cuts es2 d2 c) (x : Hist es2 d2 c hs c1) : ∃ cuts', Tied es d cuts' es2 d2 c1 := by
  induction x generalizing cuts with
  | nil c => exact ⟨cuts, t⟩
  | cons s _ ih =>
    obtain ⟨_, t2⟩ := t.step s
    exact ih t2
end
end Sk
namespace Sk
open PySem PySem.Spec PyProof.Rows L2
/-- an entry of a plan, by the law's splits -/
def LStep (es es' : List Ent) (d c : Num) (q : Str × Int) (c1 : Num) : Prop := 0 ≤ q.2 ∧ SplitsOk es d c1 ∧ ((q.1 = "undo" ∧ Drain es'.length (cN es' (getD c)) (cN es' (getD c1)) ∧ (c1.map (·.2)).sum = (c.map (·.2)).sum - q.2) ∨ (q.1 = "split" ∧ Fill es'.length (fullN es' d) (cN es' (getD c)) (cN es' (getD c1)) ∧ (c1.map (·.2)).sum = (c.map (·.2)).sum + q.2))
inductive LHist (es es' : List Ent) (d c : Num) : List (Str × Int) → Num → Prop where
  | nil : LHist es es' d c [] c
  | snoc {hs : List (Str × Int)} {c1 c2 : Num} {q : Str × Int} (h : LHist es es' d c hs c1) (s : LStep es es' d c1 q c2) : LHist es es' d c (hs ++ [q]) c2
section
variable {es es' es2 : List Ent} {d cuts cuts' d2 c : Num} {q : Str × Int} {hs : List (Str × Int)}
theorem LStep.word (x : LStep es es' d c q cuts') : (q.1 = "split" ∨ q.1 = "undo") ∧ 0 ≤ q.2 := by
  obtain ⟨h0, _, ⟨z, _⟩ | ⟨z, _⟩⟩ := x
  · exact ⟨.inr z, h0⟩
  · exact ⟨.inl z, h0⟩
theorem LHist.word (x : LHist es es' d c hs cuts') : ∀ q ∈ hs, (q.1 = "split" ∨ q.1 = "undo") ∧ 0 ≤ q.2 := by
  induction x with
  | nil => exact fun _ h => by cases h
  | snoc _ s ih =>
    intro q hq
    rcases List.mem_append.mp hq with hq | hq
    · exact ih q hq
    · rw [List.mem_singleton.mp hq]
      exact s.word
theorem LHist.ok (ok : SplitsOk es d c) (x : LHist es es' d c hs cuts') : SplitsOk es d cuts' := by
  cases x with
  | nil => exact ok
  | snoc _ s => exact s.2.1
theorem Tied.lstep (t : Tied es d cuts es2 d2 c) (hp : es'.Perm es) (ho : Ordered es') (x : LStep es es' d cuts q cuts') : ∃ c', Step1 es2 d2 c q c' ∧ Tied es d cuts' es2 d2 c' := by
  obtain ⟨h0, ok, ⟨z, f, s⟩ | ⟨z, f, s⟩⟩ := x
  · obtain ⟨h1, h2⟩ := t.drainTo hp ho ok f s
    have h1' : q.2 ≤ possN es2 d2 c q.1 := by unfold possN; rw [if_pos z]; exact h1
    obtain ⟨ck, _, m⟩ := t.st.moves h0 h1'
    refine ⟨_, ⟨h0, h1', ck, rfl, m⟩, ?_⟩
    unfold Moved at m
    rw [if_pos z] at m
    exact h2 m.1 m.2
  · have nz : ¬ q.1 = "undo" := by rw [z]; decide
    obtain ⟨h1, h2⟩ := t.fillTo hp ho ok f s
    have h1' : q.2 ≤ possN es2 d2 c q.1 := by unfold possN; rw [if_neg nz]; omega
    obtain ⟨ck, _, m⟩ := t.st.moves h0 h1'
    refine ⟨_, ⟨h0, h1', ck, rfl, m⟩, ?_⟩
    unfold Moved at m
    rw [if_neg nz] at m
    exact h2 m.1 m.2
theorem Tied.lhist (t : Tied es d cuts es2 d2 c) (hp : es'.Perm es) (ho : Ordered es') (x : LHist es es' d cuts hs cuts') : ∃ c', Hist es2 d2 c hs c' ∧ Tied es d cuts' es2 d2 c' := by
  induction x with
  | nil => exact ⟨c, .nil c, t⟩
  | snoc _ s ih =>
    obtain ⟨c1, h1, t1⟩ := ih
    obtain ⟨c2, h2, t2⟩ := t1.lstep hp ho s
    exact ⟨c2, h1.snoc h2, t2⟩
end
end Sk
namespace Sk
open PySem PySem.Spec PyProof.Rows L2
section
variable {n : Nat} {F c B : Nat → Int} {i j : Nat}
theorem off_room (v : Vec n F c) (w : Vec n F B) (s : sumN c n = sumN B n) : offN n c B ≤ sumN F n - sumN c n ∧ offN n c B ≤ sumN c n := by
  constructor
  · have h1 := sumN_add (fun k => posZ (c k - B k)) B n
    have h2 : sumN (fun k => posZ (c k - B k) + B k) n ≤ sumN F n := sumN_le fun k hk => by
      have := v k hk
      have := w k hk
      show posZ (c k - B k) + B k ≤ F k
      unfold posZ
      split <;> omega
    have h3 : offN n c B = sumN (fun k => posZ (c k - B k)) n := rfl
    omega
  · refine sumN_le fun k hk => ?_
    have := v k hk
    have := w k hk
    show posZ (c k - B k) ≤ c k
    unfold posZ
    split <;> omega
theorem Bal.sub (b : Bal n F B) (l : Last n B j) : Bal n F (subN B j) := fun a k h1 h2 h3 => by
  have lp := l.pos
  have e1 : ∀ a, a < j → ¬ B a < F a := fun a ha z => by
    have := b a j ha l.lt z
    omega
  rcases Nat.lt_trichotomy k j with z | z | z
  · rw [subN_ne (by omega)] at h3
    exact (e1 a (by omega) h3).elim
  · rw [subN_ne (by omega)] at h3
    exact (e1 a (by omega) h3).elim
  · rw [subN_ne (by omega)]
    exact l.zero k z h2
end
section
variable {es es' es2 : List Ent} {d cuts d2 c c1 : Num} {k : Nat}
theorem SplitsOk.clean (ok : SplitsOk es d c) (hv : Valid es) (hp : es'.Perm es) (hz : es.length < 64) : SplitsOk es d (cleanN es' c) ∧ getD (cleanN es' c) = getD c := by
  have v := hv.perm hp
  have hl := clean_len es' c
  have hle := hp.length_eq
  have kn : ∀ q ∈ c, q.1 ∈ es'.map (·.name) := fun q hq => (hp.map _).mem_iff.mpr (ok.known q hq)
  have ea : getD (cleanN es' c) = getD c := getD_cleanF v.nodup kn
  refine ⟨⟨clean_nodup v.nodup, by omega, fun q hq => (hp.map _).mem_iff.mp (clean_known es' c q hq), fun e he => ?_⟩, ea⟩
  have f := ok.fits e he
  rw [pn_at] at f ⊢
  rw [ea]
  exact f
/-- as many splits by as many undo steps -/
theorem Sit.closer (S : Sit es es' d) (ok : SplitsOk es d c) (w : Wd es'.length (fullN es' d) (cN es' (getD c)) k k (cN es' (getD c1))) (hk : (k : Int) ≤ offN es'.length (cN es' (getD c)) (balN es' d (c.map (·.2)).sum)) : offN es'.length (cN es' (getD c1)) (balN es' d (c.map (·.2)).sum) = offN es'.length (cN es' (getD c)) (balN es' d (c.map (·.2)).sum) - k := by
  obtain ⟨n0, n1⟩ := S.range ok
  obtain ⟨vB, bB, eB⟩ := S.bal n0 n1
  exact Wd.off vB bB (S.vec ok) (by rw [S.sum ok, eB]) hk w
theorem Sit.room (S : Sit es es' d) (ok : SplitsOk es d c) : 0 ≤ offN es'.length (cN es' (getD c)) (balN es' d (c.map (·.2)).sum) ∧ offN es'.length (cN es' (getD c)) (balN es' d (c.map (·.2)).sum) ≤ totI es' d - (c.map (·.2)).sum ∧ offN es'.length (cN es' (getD c)) (balN es' d (c.map (·.2)).sum) ≤ (c.map (·.2)).sum := by
  obtain ⟨n0, n1⟩ := S.range ok
  obtain ⟨vB, bB, eB⟩ := S.bal n0 n1
  have := off_room (S.vec ok) vB (by rw [S.sum ok, eB])
  rw [S.sum ok, S.tot] at this
  exact ⟨offN_nonneg _ _ _, this.1, this.2⟩
theorem Tied.gap (t : Tied es d cuts es2 d2 c) (hp : es'.Perm es) (ho : Ordered es') : overN (cleanN es2 c) (greedy (fs es' (getD d)) ((cleanN es2 c).map (·.2)).sum) = offN es'.length (cN es' (getD cuts)) (balN es' d (cuts.map (·.2)).sum) := by
  have S := t.sit hp ho
  obtain ⟨ok, e⟩ := t.okC
  have h1 := S.sum ok
  have h2 := S.sum t.ok
  rw [e, h2] at h1
  rw [S.over ok, e, ← h1]
theorem Tied.isBal (t : Tied es d cuts es2 d2 c) (hp : es'.Perm es) (ho : Ordered es') : eqNum (cleanN es2 c) (cleanN es' (greedy (fs es' (getD d)) (cuts.map (·.2)).sum)) = decide (offN es'.length (cN es' (getD cuts)) (balN es' d (cuts.map (·.2)).sum) = 0) := by
  have S := t.sit hp ho
  obtain ⟨n0, n1⟩ := S.range t.ok
  obtain ⟨vB, bB, eB⟩ := S.bal n0 n1
  rw [t.cleanC hp ho, Bool.eq_iff_iff, decide_eq_true_eq, clean_eq S.v'.nodup]
  exact (off_zero (by rw [S.sum t.ok, eB])).symm
theorem Tied.bal0 (t : Tied es d cuts es2 d2 c) (hp : es'.Perm es) (ho : Ordered es') (b : Bal es'.length (fullN es' d) (cN es' (getD cuts))) : offN es'.length (cN es' (getD cuts)) (balN es' d (cuts.map (·.2)).sum) = 0 := by
  have S := t.sit hp ho
  obtain ⟨n0, n1⟩ := S.range t.ok
  obtain ⟨vB, bB, eB⟩ := S.bal n0 n1
  have s : sumN (cN es' (getD cuts)) es'.length = sumN (balN es' d (cuts.map (·.2)).sum) es'.length := by rw [S.sum t.ok, eB]
  exact (off_zero s).mpr (bal_uniq (S.vec t.ok) vB b bB s)
theorem Sit.is0 (S : Sit es es' d) (ok : SplitsOk es d c) (h : offN es'.length (cN es' (getD c)) (balN es' d (c.map (·.2)).sum) = 0) : Bal es'.length (fullN es' d) (cN es' (getD c)) := by
  obtain ⟨n0, n1⟩ := S.range ok
  obtain ⟨vB, bB, eB⟩ := S.bal n0 n1
  have s : sumN (cN es' (getD c)) es'.length = sumN (balN es' d (c.map (·.2)).sum) es'.length := by rw [S.sum ok, eB]
  have e := (off_zero s).mp h
  intro i k h1 h2 h3
  rw [e i (by omega)] at h3
  rw [e k h2]
  exact bB i k h1 h2 h3
theorem Sit.up1 (S : Sit es es' d) (ok : SplitsOk es d c) (h : (c.map (·.2)).sum < totI es' d) : ∃ c1, SplitsOk es d c1 ∧ Fill es'.length (fullN es' d) (cN es' (getD c)) (cN es' (getD c1)) ∧ (c1.map (·.2)).sum = (c.map (·.2)).sum + 1 ∧ (Bal es'.length (fullN es' d) (cN es' (getD c)) → Bal es'.length (fullN es' d) (cN es' (getD c1))) := by
  obtain ⟨e, he⟩ := S.split_ex ok h
  obtain ⟨i, g, eq, ok2⟩ := S.split ok he
  have s2 := S.sum ok2
  rw [eq, sum_addN g.lt, S.sum ok] at s2
  refine ⟨_, ok2, ?_, s2.symm, fun b => ?_⟩
  · rw [eq]
    exact Fill.one (S.vec ok) g
  · rw [eq]
    exact b.add (S.vec ok) g
theorem Sit.down1 (S : Sit es es' d) (ok : SplitsOk es d c) (h : 0 < (c.map (·.2)).sum) : ∃ c1, SplitsOk es d c1 ∧ Drain es'.length (cN es' (getD c)) (cN es' (getD c1)) ∧ (c1.map (·.2)).sum = (c.map (·.2)).sum - 1 ∧ (Bal es'.length (fullN es' d) (cN es' (getD c)) → Bal es'.length (fullN es' d) (cN es' (getD c1))) := by
  obtain ⟨e0, h0, h1⟩ := S.undo_ex ok h
  obtain ⟨e, he⟩ := lastF_ex (es := es') (c := getD c) ⟨e0, S.hp.mem_iff.mpr h0, h1⟩
  obtain ⟨i, l, eq, ok2⟩ := S.undo ok he
  have s2 := S.sum ok2
  rw [eq, sum_subN l.lt, S.sum ok] at s2
  refine ⟨_, ok2, ?_, s2.symm, fun b => ?_⟩
  · rw [eq]
    exact Drain.one (S.vec ok) l
  · rw [eq]
    exact b.sub l
/-- the balanced splits themselves -/
theorem Sit.dueOk (S : Sit es es' d) {n : Int} (h0 : 0 ≤ n) (h1 : n ≤ totI es' d) : SplitsOk es d (cleanN es' (greedy (fs es' (getD d)) n)) ∧ overN (cleanN es' (greedy (fs es' (getD d)) n)) (greedy (fs es' (getD d)) ((cleanN es' (greedy (fs es' (getD d)) n)).map (·.2)).sum) = 0 := by
  obtain ⟨vB, bB, eB⟩ := S.bal h0 h1
  obtain ⟨ok, e⟩ := (balanced_ok S.hv S.hp S.ho S.so S.hz h0).clean S.hv S.hp S.hz
  refine ⟨ok, ?_⟩
  have h2 := S.sum ok
  rw [e] at h2
  have h3 : sumN (balN es' d n) es'.length = ((cleanN es' (greedy (fs es' (getD d)) n)).map (·.2)).sum := h2
  rw [S.over ok, e, ← h3, eB]
  exact (off_zero (c := balN es' d n) (B := balN es' d n) rfl).mpr fun _ _ => rfl
end
section
variable {es es' : List Ent} {d c : Num}
theorem Sit.there (S : Sit es es' d) (ok : SplitsOk es d c) (k : Nat) (h : (c.map (·.2)).sum + k ≤ totI es' d) : ∃ c2, LHist es es' d c [(("split" : Str), (k : Int)), (("undo" : Str), (k : Int))] c2 ∧ Wd es'.length (fullN es' d) (cN es' (getD c)) k k (cN es' (getD c2)) := by
  obtain ⟨c1, ok1, w1, s1⟩ := S.wdUp ok k h
  have r := S.range ok
  obtain ⟨c2, ok2, w2, s2⟩ := S.wdDown ok1 k (by omega)
  refine ⟨c2, .snoc (hs := [(("split" : Str), (k : Int))]) (.snoc (hs := []) .nil ⟨by show (0 : Int) ≤ k; omega, ok1, .inr ⟨rfl, w1.fill (S.vec ok) rfl, s1⟩⟩) ⟨by show (0 : Int) ≤ k; omega, ok2, .inl ⟨rfl, w2.drain (S.vec ok1) rfl, s2⟩⟩, ?_⟩
  have := w1.app w2
  rwa [Nat.add_zero, Nat.zero_add] at this
theorem Sit.andback (S : Sit es es' d) (ok : SplitsOk es d c) (k : Nat) (h : k ≤ (c.map (·.2)).sum) : ∃ c2, LHist es es' d c [(("undo" : Str), (k : Int)), (("split" : Str), (k : Int))] c2 ∧ Wd es'.length (fullN es' d) (cN es' (getD c)) k k (cN es' (getD c2)) := by
  obtain ⟨c1, ok1, w1, s1⟩ := S.wdDown ok k h
  have r := S.range ok
  obtain ⟨c2, ok2, w2, s2⟩ := S.wdUp ok1 k (by omega)
  refine ⟨c2, .snoc (hs := [(("undo" : Str), (k : Int))]) (.snoc (hs := []) .nil ⟨by show (0 : Int) ≤ k; omega, ok1, .inl ⟨rfl, w1.drain (S.vec ok) rfl, s1⟩⟩) ⟨by show (0 : Int) ≤ k; omega, ok2, .inr ⟨rfl, w2.fill (S.vec ok1) rfl, s2⟩⟩, ?_⟩
  have := w1.app w2
  rwa [Nat.add_zero, Nat.zero_add] at this
end
end Sk
namespace Sk
open PySem PySem.Spec PyProof.Rows L2
/-- the weight of the heaviest kind of which a piece is whole, or 0 -/
def hvyF (w : Int) (m : Int) : Int := if w > m then w else m
def hvyE (b : Str → Int) (m : Int) (e : Ent) : Int := if 0 < b e.name then hvyF e.w m else m
def hvy (es : List Ent) (b : Str → Int) : Int := es.foldl (hvyE b) 0
theorem hvy_ge {b : Str → Int} : ∀ {es : List Ent} {m : Int}, m ≤ es.foldl (hvyE b) m ∧ ∀ e ∈ es, 0 < b e.name → e.w ≤ es.foldl (hvyE b) m
  | [], m => ⟨Int.le_refl _, fun e h => by cases h⟩
  | a :: es, m => by
    obtain ⟨i1, i2⟩ := hvy_ge (b := b) (es := es) (m := hvyE b m a)
    have h1 : m ≤ hvyE b m a := by
      unfold hvyE hvyF
      split
      · split <;> omega
      · exact Int.le_refl _
    rw [List.foldl_cons]
    refine ⟨by omega, fun e he h0 => ?_⟩
    rcases List.mem_cons.mp he with rfl | he
    · have : e.w ≤ hvyE b m e := by
        unfold hvyE hvyF
        rw [if_pos h0]
        split <;> omega
      omega
    · exact i2 e he h0
theorem hvy_le {b : Str → Int} {k : Int} : ∀ {es : List Ent} {m : Int}, m ≤ k → (∀ e ∈ es, 0 < b e.name → e.w ≤ k) → es.foldl (hvyE b) m ≤ k
  | [], m, h, _ => h
  | a :: es, m, h, hh => by
    rw [List.foldl_cons]
    refine hvy_le ?_ fun e he => hh e (List.mem_cons_of_mem _ he)
    unfold hvyE hvyF
    split
    · rename_i h0
      have := hh a (List.mem_cons_self ..) h0
      split <;> omega
    · exact h
def optI : Option Int → Int
  | none => 0
  | some w => w
theorem find_first {p : Ent → Bool} : ∀ {l : List Ent} {e : Ent}, l.find? p = some e → ∃ i : Nat, l[i]? = some e ∧ p e = true ∧ ∀ (k : Nat) (x : Ent), k < i → l[k]? = some x → p x = false
  | [], _, h => by cases h
  | a :: l, e, h => by
    rw [List.find?_cons] at h
    cases c : p a with
    | true =>
      rw [c] at h
      cases h
      exact ⟨0, rfl, c, fun k x hk => absurd hk (Nat.not_lt_zero _)⟩
    | false =>
      rw [c] at h
      obtain ⟨i, h1, h2, h3⟩ := find_first h
      refine ⟨i + 1, by rw [List.getElem?_cons_succ]; exact h1, h2, fun k x hk hx => ?_⟩
      cases k with
      | zero =>
        rw [List.getElem?_cons_zero] at hx
        cases hx
        exact c
      | succ k =>
        rw [List.getElem?_cons_succ] at hx
        exact h3 k x (by omega) hx
section
variable {es es' : List Ent} {d c : Num}
/-- the first of the order is the heaviest -/
theorem hvy_top (hv : Valid es) (hp : es'.Perm es) (ho : Ordered es') (b : Str → Int) : hvy es b = optI (topE es' b) := by
  unfold topE
  cases h : es'.find? (fun e => decide (0 < b e.name)) with
  | none =>
    have h1 := List.find?_eq_none.mp h
    show hvy es b = 0
    unfold hvy
    have h2 : es.foldl (hvyE b) 0 ≤ 0 := hvy_le (Int.le_refl _) fun e he h0 => absurd (decide_eq_true h0) (h1 e (hp.mem_iff.mpr he))
    have h3 := (hvy_ge (b := b) (es := es) (m := 0)).1
    omega
  | some e =>
    obtain ⟨i, h1, h2, h3⟩ := find_first h
    show hvy es b = e.w
    unfold hvy
    have hem : e ∈ es := hp.mem_iff.mp (List.mem_of_getElem? h1)
    have g := (hvy_ge (b := b) (es := es) (m := 0)).2 e hem (of_decide_eq_true h2)
    have l : es.foldl (hvyE b) 0 ≤ e.w := by
      refine hvy_le (by have := hv.pos e hem; omega) fun x hx h0 => ?_
      obtain ⟨j, hj⟩ := List.mem_iff_getElem?.mp (hp.mem_iff.mpr hx)
      rcases Nat.lt_trichotomy j i with z | z | z
      · have := h3 j x z hj
        rw [decide_eq_true h0] at this
        cases this
      · subst z
        rw [h1] at hj
        cases hj
        exact Int.le_refl _
      · exact ord_w ho z h1 hj
    omega
/-- the number of pieces of a kind ahead of which all is split -/
theorem pn_fullAt (S : Sit es es' d) {j : Nat} {e : Ent} (he : es'[j]? = some e) (h : ∀ i, i < j → cN es' (getD c) i = fullN es' d i) : pn es d c e.name = fsS es' (getD d) e.name := by
  rw [← pn_perm S.hp, pn_at]
  refine full_at S.beh S.v'.nodup he fun k x hk hx => ?_
  have h1 : cN es' (getD c) k = cN es' (getD (fs es' (getD d))) k := h k hk
  rw [cN_at hx, cN_at hx] at h1
  exact h1
theorem wholeF_pn (x : Str) : wholeF es (getD d) (getD c) x = pn es d c x - getD c x := by
  unfold wholeF
  rw [pn_at]
/-- no valid splits of this number leave a lighter heaviest piece -/
theorem Sit.best (S : Sit es es' d) (ok : SplitsOk es d c) {n : Int} (hn : (c.map (·.2)).sum = n) (h0 : 0 ≤ n) (h1 : n ≤ totI es' d) :
    optI (topE es' (wholeF es' (getD d) (getD (greedy (fs es' (getD d)) n)))) ≤ hvy es (wholeF es (getD d) (getD c)) := by
  have bok := balanced_ok S.hv S.hp S.ho S.so S.hz h0
  obtain ⟨vB, bB, eB⟩ := S.bal h0 h1
  have vc := S.vec ok
  have sc := S.sum ok
  cases h : es'.find? (fun e => decide (0 < wholeF es' (getD d) (getD (greedy (fs es' (getD d)) n)) e.name)) with
  | none =>
    unfold topE
    rw [h]
    exact (hvy_ge (b := wholeF es (getD d) (getD c)) (es := es) (m := 0)).1
  | some e =>
    unfold topE
    rw [h]
    show e.w ≤ _
    obtain ⟨j, hj, hw, _⟩ := find_first h
    have hw := of_decide_eq_true hw
    refine Decidable.byContradiction fun lt => ?_
    have hge := (hvy_ge (b := wholeF es (getD d) (getD c)) (es := es) (m := 0)).2
    -- all kinds up to this one are split
    have none : ∀ i x, i ≤ j → es'[i]? = some x → pn es d c x.name = getD c x.name := fun i x hi hx => by
      have hxm : x ∈ es := S.hp.mem_iff.mp (List.mem_of_getElem? hx)
      have w1 : e.w ≤ x.w := by
        rcases Nat.lt_or_ge i j with z | z
        · exact ord_w S.ho z hx hj
        · have : i = j := by omega
          subst this
          rw [hj] at hx
          cases hx
          exact Int.le_refl _
      have n0 : ¬ 0 < wholeF es (getD d) (getD c) x.name := fun z => lt (Int.le_trans w1 (hge x hxm z))
      rw [wholeF_pn] at n0
      obtain ⟨f1, f2⟩ := ok.fits x hxm
      have pp := pn_nonneg' (es := es) S.so.pos ok.pos x.name
      by_cases q : x.parts = []
      · rw [if_pos q] at f2
        omega
      · rw [if_neg q] at f2
        omega
    have full : ∀ m, m ≤ j + 1 → ∀ i, i < m → cN es' (getD c) i = fullN es' d i := by
      intro m
      induction m with
      | zero => exact fun _ i hi => absurd hi (Nat.not_lt_zero _)
      | succ m ih =>
        intro hm i hi
        rcases Nat.lt_succ_iff_lt_or_eq.mp hi with z | rfl
        · exact ih (by omega) i z
        · have hlt : i < es'.length := by
            have := (List.getElem?_eq_some_iff.mp hj).1
            omega
          have hx : es'[i]? = some es'[i] := List.getElem?_eq_getElem hlt
          have e1 := pn_fullAt S hx (ih (by omega))
          have e2 := none i _ (by omega) hx
          have hxm := List.mem_of_getElem? hx
          show cN es' (getD c) i = cN es' (getD (fs es' (getD d))) i
          rw [cN_at hx, cN_at hx, fs_val S.beh S.v'.nodup hxm]
          by_cases q : es'[i].parts = []
          · rw [if_pos q]
            obtain ⟨f1, f2⟩ := ok.fits _ (S.hp.mem_iff.mp hxm)
            rw [if_pos q] at f2
            omega
          · rw [if_neg q]
            omega
    have hlt : j < es'.length := (List.getElem?_eq_some_iff.mp hj).1
    have hem := List.mem_of_getElem? hj
    -- the balanced ones have fewer of this kind
    have e1 := pn_fullAt S hj fun i hi => full (j + 1) (Nat.le_refl _) i (by omega)
    have e2 := none j e (Nat.le_refl _) hj
    have eB1 : getD (greedy (fs es' (getD d)) n) e.name < fsS es' (getD d) e.name := by
      have h2 : wholeF es' (getD d) (getD (greedy (fs es' (getD d)) n)) e.name = pn es' d (greedy (fs es' (getD d)) n) e.name - getD (greedy (fs es' (getD d)) n) e.name := wholeF_pn _
      rw [h2] at hw
      have h3 : pn es' d (greedy (fs es' (getD d)) n) e.name ≤ pn es' d (fs es' (getD d)) e.name := pn_mono (fun y => by
        by_cases hy : y ∈ es'.map (·.name)
        · obtain ⟨x, hx, rfl⟩ := List.mem_map.mp hy
          obtain ⟨i, hi⟩ := List.mem_iff_getElem?.mp hx
          have := (vB i (List.getElem?_eq_some_iff.mp hi).1).2
          show getD _ x.name ≤ getD _ x.name
          have a1 := cN_at hi (getD (greedy (fs es' (getD d)) n))
          have a2 := cN_at hi (getD (fs es' (getD d)))
          rw [← a1, ← a2]
          exact this
        · rw [getD_none (fun z => hy ((S.hp.map _).mem_iff.mpr (by
            obtain ⟨q, hq, e3⟩ := List.mem_map.mp z
            rw [← e3]
            exact bok.known q hq))), getD_none fun z => hy (fs_names es' _ _ z)]
          exact Int.le_refl _) _
      rw [pn_full S.beh S.v'.nodup hem] at h3
      omega
    have lt2 : balN es' d n j < cN es' (getD c) j := by
      show cN es' (getD (greedy (fs es' (getD d)) n)) j < _
      rw [cN_at hj, cN_at hj]
      omega
    have le : ∀ i, i < es'.length → balN es' d n i ≤ cN es' (getD c) i := fun i hi => by
      rcases Nat.lt_or_ge j i with z | z
      · have h4 : balN es' d n j < fullN es' d j := by
          have := (vc j hlt).2
          omega
        rw [bB j i z hi h4]
        exact (vc i hi).1
      · rw [full (j + 1) (Nat.le_refl _) i (by omega)]
        exact (vB i hi).2
    have := sumN_lt le hlt lt2
    omega
end
section
variable {n : Nat} {F c c' : Nat → Int} {a b : Nat}
/-- steps leave balanced splits balanced -/
theorem Wd.balk (w : Wd n F c a b c') : Vec n F c → Bal n F c → Bal n F c' := by
  induction w with
  | nil c => exact fun _ h => h
  | up g _ ih => exact fun v h => ih (v.add g) (h.add v g)
  | down l _ ih => exact fun v h => ih (v.sub l) (h.sub l)
end
end Sk
namespace Sk
open PySem PySem.Spec PyProof.Rows L2
abbrev s_law_heaviest : Stmt := topS 48
abbrev N_law_heaviest : List Str := ["pool", "supply", "taken", "have", "found", "name", "weight", "parts"]
theorem sc_law_heaviest : FnScope N_law_heaviest ["pool", "supply", "taken"] (defScope s_law_heaviest) := ⟨rfl, rfl, rfl, by decide +kernel, rfl, by decide +kernel, by decide +kernel⟩
def sp_law_heaviest (Tb : List (Addr × Str)) (K : PySem.W.Frag) : Sp := fun vs H Q _ => ∃ (a b c : Addr) (xs : List V) (es : List Ent) (d t : Num), vs = [.ref a, .ref b, .ref c] ∧ SqL K H a xs ∧ CatAt H xs es ∧ H b = some (.dK (dS d)) ∧ H c = some (.dK (dS t)) ∧ Valid es ∧
  ∀ H', Gr Tb H H' → Q (.int (hvy es (wholeF es (getD d) (getD t)))) H'
section
variable {P : Program} {w : World} {K : PySem.W.Frag} {mg : Str → Option Value} {base : Heap} {Tb : List (Addr × Str)}
theorem ok_law_heaviest {f : Addr} {fd : FuncData} (F : FnP K "_law_heaviest" s_law_heaviest f fd) (T : Tx K mg) (G_law_pieces : Fn P w K mg base "_law_pieces" 1 ["pool", "supply", "taken"] (sp_law_pieces Tb K)) : FnOk P w K mg base CX0 2 f fd ["pool", "supply", "taken"] (sp_law_heaviest Tb K) := by
  refine F.ok sc_law_heaviest (fun vs H Q E h => ?_) (fun cdv A outer s H vs Q E hr h => ?_)
  · obtain ⟨_, _, _, _, _, _, _, rfl, _⟩ := h
    rfl
  · obtain ⟨a, b, c, xs, es, d, t, rfl, ha, hc, hb, ht, hv, k⟩ := h
    refine ⟨_, PSs.nox (pss_cons (ps_par (i := 3) (j := 4) (by rfl) sc_law_heaviest.nd rfl rfl (by decide) rfl rfl (pa_cons (pe_fn G_law_pieces (hr.mono (by decide)) (pa_cons (pv 0) (pa_cons (pv 1) (pa_cons (pv 2) pa_nil)))) (pa_cons pe_int pa_nil)) (by rfl))
      (pss_cons (ps_for PassesOwn.never rfl (piL (K := K) rfl (pv 0)) (pg_tup rfl (pgs_cons (pg_name (i := 5) sc_law_heaviest.nd rfl (Or.inl rfl)) (pgs_cons (pg_name (i := 6) sc_law_heaviest.nd rfl (Or.inl rfl)) (pgs_cons (pg_name (i := 7) sc_law_heaviest.nd rfl (Or.inl rfl)) pgs_nil)))) (pss_one (ps_if (pt_cmpR op_gt (pe_dget (hu_of hr) (pv 3) (pv 5) (fun _ _ => rfl)) (pe_dget2 (hu_of hr) (pv 2) (pv 5) pe_int ⟨rfl, rfl, rfl, rfl⟩) (nomark _)) (pss_one (ps_set (i := 4) sc_law_heaviest.nd rfl (Or.inl rfl) (pe_callB (call_max2 rfl) (by rfl) T.n_max (by decide +kernel) (pa_cons (pv 4) (pa_cons (pv 6) pa_nil))))) pss_nil)))
      (pss_one (ps_ret (pv 4))))), ?_⟩
    have hlen := Paired.len hc
    refine ⟨_, rfl, _, rfl, _, rfl, a, b, c, xs, es, d, t, rfl, ha, hc, hb, ht, hv, fun r H1 g1 n1 hr => ⟨_, _, rfl, ?_⟩⟩
    refine ⟨_, rfl, a, rfl, ⟨_, g1.ext_seq ha⟩, for_list (K := K) (a := a) (xs := xs) (fun i σ H' => ∃ s5 s6 s7 : Option V, σ = [some (.ref a), some (.ref b), some (.ref c), some (.ref r), some (.int ((es.take i).foldl (hvyE (wholeF es (getD d) (getD t))) 0)), s5, s6, s7] ∧ Gr Tb H1 H')
      ⟨_, _, _, rfl, Gr.refl _⟩ (fun i σ H' _ ⟨_, _, _, _, g⟩ => (g1.trans g).ext_seq ha) ?_ ?_⟩
    · rintro i x σ H2 hx ⟨s5, s6, s7, rfl, g2⟩
      obtain ⟨e, he, tt, lp, rfl, htt, hlp⟩ := Paired.at hc hx
      have hem := List.mem_of_getElem? he
      have g12 := g1.trans g2
      have ht2 := g12.at ht .dK
      have st : (es.take (i + 1)).foldl (hvyE (wholeF es (getD d) (getD t))) 0 = hvyE (wholeF es (getD d) (getD t)) ((es.take i).foldl (hvyE (wholeF es (getD d) (getD t))) 0) e := by
        rw [List.take_add_one, he, List.foldl_append]
        rfl
      refine gtup3 (g12.at htt .tup) ?_
      refine ⟨_, rfl, _, rfl, r, _, rfl, dgetS (g2.at hr .dK) (get?_numOf (List.mem_map.mpr ⟨e, hem, rfl⟩)), _, rfl, c, rfl, IsD.num ht2, _, rfl, _, dgetO ht2 e.name, ?_⟩
      rw [getO]
      refine ⟨_, _, rfl, rfl, _, rfl, ?_⟩
      have hw : 0 < wholeF es (getD d) (getD t) e.name ↔ getD t e.name < pn es d t e.name := by
        rw [wholeF_pn]
        omega
      refine ite2 (fun c1 => ?_) (fun c1 => ?_)
      · refine ⟨_, rfl, _, rfl, _, _, rfl, ?_⟩
        refine ⟨some (.str e.name), some (.int e.w), some (.ref lp), ?_, g2⟩
        rw [st]
        unfold hvyE hvyF
        rw [if_pos (hw.mpr (of_decide_eq_true c1))]
        rfl
      · refine ⟨some (.str e.name), some (.int e.w), some (.ref lp), ?_, g2⟩
        rw [st]
        unfold hvyE
        rw [if_neg (fun z => c1 (decide_eq_true (hw.mp z)))]
        rfl
    · rintro σ H2 ⟨s5, s6, s7, rfl, g2⟩
      rw [hlen, List.take_length]
      exact ⟨_, rfl, k H2 (g1.trans g2)⟩
end
end Sk
namespace Sk
open PySem PySem.Spec PyProof.Rows L2
def plainB : HO → Bool
  | .tup _ => true
  | .lst _ => true
  | .dK _ => true
  | _ => false
/-- all is frozen but p and the cells -/
def fzA (G : Hp) (L : List (Addr × HO)) (p : Addr) (H : Hp) : Hp := fun a => match G a with
  | some u => some u
  | none => if a = p ∨ a ∈ L.map (·.1) then none else match H a with
    | some u => if plainB u = true then some u else none
    | none => none
section
variable {T : List (Addr × Str)} {p : Addr} {n : Nat} {L : List (Addr × HO)} {G H H' : Hp}
theorem fzA_old : Same G (fzA G L p H) := fun a u h => by
  unfold fzA
  rw [h]
theorem fzA_sub {a : Addr} {u : HO} (h : fzA G L p H a = some u) : G a = some u ∨ (¬ (a = p ∨ a ∈ L.map (·.1)) ∧ H a = some u ∧ plainB u = true) := by
  unfold fzA at h
  cases q : G a with
  | some o =>
    rw [q] at h
    exact .inl h
  | none =>
    rw [q] at h
    by_cases z : a = p ∨ a ∈ L.map (·.1)
    · rw [if_pos z] at h
      cases h
    · rw [if_neg z] at h
      refine .inr ⟨z, ?_⟩
      cases q2 : H a with
      | none =>
        rw [q2] at h
        cases h
      | some o =>
        rw [q2] at h
        by_cases y : plainB o = true
        · have h2 : (if plainB o = true then some o else none) = some u := h
          rw [if_pos y] at h2
          cases h2
          exact ⟨rfl, y⟩
        · have h2 : (if plainB o = true then some o else none) = some u := h
          rw [if_neg y] at h2
          cases h2
theorem fzA_none {a : Addr} (h : G a = none) (z : a = p ∨ a ∈ L.map (·.1)) : fzA G L p H a = none := by
  unfold fzA
  rw [h]
  exact if_pos z
theorem fzA_at {a : Addr} {u : HO} (f : Fz G H) (h : H a = some u) (hp : plainB u = true) (ne : a ≠ p) (nl : a ∉ L.map (·.1)) : fzA G L p H a = some u := by
  unfold fzA
  cases q : G a with
  | some o =>
    have := f.sub a o q
    rw [h] at this
    exact this.symm
  | none =>
    show (if a = p ∨ a ∈ L.map (·.1) then none else _) = _
    rw [if_neg (fun z => z.elim ne nl), h]
    show (if plainB u = true then some u else none) = some u
    rw [if_pos hp]
theorem plain_nt {u : HO} (h : plainB u = true) : NoTab u := by
  cases u <;> first | exact .tup | exact .lst | exact .dK | cases h
theorem Hq.all (s : Hq T p n L G H) : Hq T p n L (fzA G L p H) H := by
  obtain ⟨sr, fz, gp, cel, nod, tab⟩ := s
  refine ⟨sr, ⟨fun a u h => ?_, fun a u h => ?_⟩, fzA_none gp (.inl rfl), fun x hx => ?_, nod, tab⟩
  · rcases fzA_sub h with z | ⟨_, z, _⟩
    · exact fz.sub a u z
    · exact z
  · rcases fzA_sub h with z | ⟨_, _, z⟩
    · exact fz.nt a u z
    · exact plain_nt z
  · obtain ⟨c1, c2, c3, c4⟩ := cel x hx
    exact ⟨c1, fzA_none c2 (.inr (List.mem_map.mpr ⟨x, hx, rfl⟩)), c3, c4⟩
/-- a cell is not p's, and none of the cells -/
theorem Hq.atA {a : Addr} {u : HO} (s : Hq T p n L G H) (hL : ∀ x ∈ L, plainB x.2 = false) (h : H a = some u) (hp : plainB u = true) (ne : ∀ d m c : Int, u ≠ .lst [.int d, .int m, .int c]) : fzA G L p H a = some u := by
  refine fzA_at s.fz h hp (fun z => ?_) (fun z => ?_)
  · obtain ⟨d, m, c, h1, _⟩ := s.src
    rw [z, h1] at h
    exact ne d m c (Option.some.inj h).symm
  · obtain ⟨x, hx, rfl⟩ := List.mem_map.mp z
    have h1 := (s.cel x hx).1
    rw [h] at h1
    have h2 := hL x hx
    rw [← Option.some.inj h1, hp] at h2
    cases h2
theorem Hq.entA {v : V} {e : Ent} (s : Hq T p n L G H) (hL : ∀ x ∈ L, plainB x.2 = false) (h : EntAt H v e) : EntAt (fzA G L p H) v e := by
  obtain ⟨t, l, rfl, h1, h2⟩ := h
  refine ⟨t, l, rfl, s.atA hL h1 rfl (fun _ _ _ z => by cases z), s.atA hL h2 rfl fun d m c z => ?_⟩
  have z2 : e.parts.map V.str = [.int d, .int m, .int c] := HO.lst.inj z
  cases q : e.parts with
  | nil =>
    rw [q] at z2
    cases z2
  | cons y l =>
    rw [q] at z2
    cases z2
theorem Hq.catA (s : Hq T p n L G H) (hL : ∀ x ∈ L, plainB x.2 = false) : ∀ {vs : List V} {es : List Ent}, CatAt H vs es → CatAt (fzA G L p H) vs es
  | _, _, .nil => .nil
  | _, _, .cons a t => .cons (s.entA hL a) (Hq.catA s hL t)
end
theorem asgC {v : V} {i : Nat} {u : TS} {D : Ends} {σ : L2.St} {H : Hp} (h : u D (σ.set i (some v)) H) : tSeq (tAsg (tC v) (gName i)) u D σ H := h
theorem one_ins {s C dx : Addr} {fs : List (Str × V)} : ∀ y ∈ [(s, HO.ins C dx fs)], plainB y.2 = false := fun y hy => by
  rw [List.mem_singleton.mp hy]
  rfl
/-- what a store holds, frozen -/
structure Held (G : Hp) (A B C : Addr) (ys : List V) (es : List Ent) (d c : Num) : Prop where
  en : G A = some (.lst ys)
  cat : CatAt G ys es
  st : G B = some (.dK (dS d))
  sp : G C = some (.dK (dS c))
section
variable {T : List (Addr × Str)} {K : PySem.W.Frag} {p s dx A B C : Addr} {n : Nat} {L : List (Addr × HO)} {G G' H H' : Hp} {ys : List V} {es : List Ent} {d c : Num}
theorem Held.mono (h : Held G A B C ys es d c) (s : Same G G') : Held G' A B C ys es d c := ⟨s _ _ h.en, h.cat.mono s, s _ _ h.st, s _ _ h.sp⟩
theorem Held.stAt (h : Held G A B C ys es d c) (q : Hq T p n L G H) (o : H s = some (.ins (stC K) dx (stF A B C))) : StAt K H s dx A B C ys es d c := ⟨o, q.fzat h.en, h.cat.mono q.fz.sub, q.fzat h.st, q.fzat h.sp⟩
theorem Hq.hold (q : Hq T p n L G H) (hL : ∀ x ∈ L, plainB x.2 = false) (h : StAt K H s dx A B C ys es d c) : Held (fzA G L p H) A B C ys es d c := by
  refine ⟨q.atA hL h.en rfl fun x y z w => ?_, q.catA hL h.cat, q.atA hL h.st rfl (fun _ _ _ w => by cases w), q.atA hL h.sp rfl (fun _ _ _ w => by cases w)⟩
  have h1 := h.cat
  rw [HO.lst.inj w] at h1
  cases h1 with
  | cons a _ =>
    obtain ⟨t, l, e, _⟩ := a
    cases e
/-- a new instance and its dict -/
theorem Hq.born {x : Addr} (q : Hq T p n L G H) (hx : H x = none) (hdx : H dx = none) (ne : dx ≠ x) : Hq T p n ((x, .ins (stC K) dx []) :: L) G (upd (upd H dx (.own x)) x (.ins (stC K) dx [])) := by
  have q1 := (q.new (o := .own x) hdx .own).drop1
  have hx1 : (upd H dx (.own x)) x = none := by rw [upd_ne ne.symm]; exact hx
  exact q1.new (o := .ins (stC K) dx []) hx1 .ins
/-- a store is made -/
theorem Hq.made {x : Addr} (q : Hq T p n L G H) (hL : ∀ x ∈ L, plainB x.2 = false) (hx : H x = none) (hdx : H dx = none) (ne : dx ≠ x) (g : Gr T (upd (upd (upd H dx (.own x)) x (.ins (stC K) dx [])) x (.ins (stC K) dx (stF A B C))) H') (h : StAt K H' x dx A B C ys es d c) :
    ∃ G', Same G G' ∧ Held G' A B C ys es d c ∧ Hq T p n ((x, .ins (stC K) dx (stF A B C)) :: L) G' H' := by
  have q2 := (q.born (K := K) hx hdx ne).put (i := 0) (o' := .ins (stC K) dx (stF A B C)) rfl .ins
  have q3 := q2.gr g
  have hL' : ∀ y ∈ (x, HO.ins (stC K) dx (stF A B C)) :: L, plainB y.2 = false := fun y hy => by
    rcases List.mem_cons.mp hy with rfl | hy
    · rfl
    · exact hL y hy
  exact ⟨_, fzA_old, q3.hold hL' h, q3.all⟩
/-- a store's splits are others -/
theorem Hq.moved {i : Nat} {e2 : Addr} {c' : Num} (q : Hq T p n L G H) (hi : L[i]? = some (s, .ins (stC K) dx (stF A B C))) (hd : Held G A B C ys es d c) (g : Gr T (upd H s (.ins (stC K) dx (stF A B e2))) H') (ne : Nw H e2) (he : H' e2 = some (.dK (dS c'))) :
    ∃ G', Same G G' ∧ Held G' A B e2 ys es d c' ∧ Hq T p n (L.set i (s, .ins (stC K) dx (stF A B e2))) G' H' := by
  have q1 := q.put (i := i) (o' := .ins (stC K) dx (stF A B e2)) hi .ins
  have hs := q.get hi
  have ne' : Nw (upd H s (.ins (stC K) dx (stF A B e2))) e2 := fun u hu => by
    by_cases z : e2 = s
    · obtain ⟨ps, y⟩ := ne _ (by rw [z]; exact hs)
      cases y
    · exact ne u (by rw [upd_ne z] at hu; exact hu)
  have q2 := (q1.grow g ne' he .dK).freeze
  have sm : Same G (upd G e2 (.dK (dS c'))) := Same.upd (q1.grow g ne' he .dK).cfree
  exact ⟨_, sm, ⟨sm _ _ hd.en, hd.cat.mono sm, sm _ _ hd.st, upd_same⟩, q2⟩
/-- what a call gives back: old or new, it is frozen -/
theorem Hq.keep {r q : Addr} {c0 c1 : Num} (h : Hq T p n L G H) (g : Gr T H H') (hq : G q = some (.dK (dS c0))) (hr : r = q ∨ Nw H r) (he : H' r = some (.dK (dS c1))) : ∃ G', Same G G' ∧ G' r = some (.dK (dS c1)) ∧ Hq T p n L G' H' := by
  rcases hr with rfl | nw
  · have h1 := h.gr g
    refine ⟨G, fun _ _ z => z, ?_, h1⟩
    rw [hq]
    have := h1.fzat hq
    rw [he] at this
    exact this.symm
  · have h1 := h.grow g nw he .dK
    exact ⟨_, Same.upd h1.cfree, upd_same, h1.freeze⟩
end
end Sk
namespace Sk
open PySem PySem.Spec PyProof.Rows L2
/-- cells that are new since H0, and a frozen part -/
structure Hc (T : List (Addr × Str)) (H0 : Hp) (L : List (Addr × HO)) (G H : Hp) : Prop where
  g0 : Gr T H0 H
  fz : Fz G H
  cel : ∀ x ∈ L, H x.1 = some x.2 ∧ G x.1 = none ∧ Nw H0 x.1 ∧ NoTab x.2
  nod : (L.map (·.1)).Nodup
  tab : LamX.Tabs T H
section
variable {T : List (Addr × Str)} {H0 : Hp} {L : List (Addr × HO)} {G H H' : Hp}
theorem Hc.gr (s : Hc T H0 L G H) (g : Gr T H H') : Hc T H0 L G H' := by
  obtain ⟨g0, fz, cel, nod, tab⟩ := s
  exact ⟨g0.trans g, fz.gr g, fun x hx => ⟨g.at (cel x hx).1 (cel x hx).2.2.2, (cel x hx).2⟩, nod, g.tab tab⟩
theorem Hc.grow {a : Addr} {o : HO} (s : Hc T H0 L G H) (g : Gr T H H') (h : Nw H a) (e : H' a = some o) (nt : NoTab o) : Hc T H0 ((a, o) :: L) G H' := by
  have s2 := s.gr g
  have no : ∀ u, H a = some u → ¬ NoTab u := fun u hu n2 => by
    obtain ⟨ps, z⟩ := h u hu
    exact n2.1 ps z
  obtain ⟨g0, fz, cel, nod, tab⟩ := s
  obtain ⟨g0', fz', cel', _, tab'⟩ := s2
  refine ⟨g0', fz', fun y hy => ?_, ?_, tab'⟩
  · rcases List.mem_cons.mp hy with rfl | hy
    · refine ⟨e, ?_, g0.nw h, nt⟩
      cases q0 : G a with
      | none => rfl
      | some u => exact absurd (fz.nt a u q0) (no u (fz.sub a u q0))
    · exact cel' y hy
  · rw [List.map_cons, List.nodup_cons]
    refine ⟨fun hm => ?_, nod⟩
    obtain ⟨y, hy, e2⟩ := List.mem_map.mp hm
    obtain ⟨c1, _, _, c4⟩ := cel y hy
    rw [e2] at c1
    exact no _ c1 c4
theorem Hc.new {a : Addr} {o : HO} (s : Hc T H0 L G H) (h : H a = none) (nt : NoTab o) : Hc T H0 ((a, o) :: L) G (upd H a o) := s.grow (Gr.new h) (.of h) upd_same nt
theorem Hc.get {i : Nat} {a : Addr} {o : HO} (s : Hc T H0 L G H) (h : L[i]? = some (a, o)) : H a = some o := (s.cel (a, o) (List.mem_of_getElem? h)).1
theorem Hc.put {i : Nat} {a : Addr} {o o' : HO} (s : Hc T H0 L G H) (h : L[i]? = some (a, o)) (nt : NoTab o') : Hc T H0 (L.set i (a, o')) G (upd H a o') := by
  have hm := List.mem_of_getElem? h
  obtain ⟨g0, fz, cel, nod, tab⟩ := s
  obtain ⟨c1, c2, c3, c4⟩ := cel _ hm
  have hi : i < L.length := (List.getElem?_eq_some_iff.mp h).1
  have ei : L[i] = (a, o) := (List.getElem?_eq_some_iff.mp h).2
  have sub : ∀ y ∈ L.set i (a, o'), y = (a, o') ∨ (y ∈ L ∧ y.1 ≠ a) := fun y hy => by
    obtain ⟨j, hj, ej⟩ := List.mem_iff_getElem.mp hy
    by_cases hij : i = j
    · subst hij
      rw [List.getElem_set_self] at ej
      exact .inl ej.symm
    · rw [List.getElem_set_ne hij] at ej
      refine .inr ⟨by rw [← ej]; exact List.getElem_mem _, fun z => hij ?_⟩
      rw [List.length_set] at hj
      have q1 : (L.map (·.1))[i]'(by rw [List.length_map]; exact hi) = (L.map (·.1))[j]'(by rw [List.length_map]; exact hj) := by
        rw [List.getElem_map, List.getElem_map, ei, ej, z]
      exact (List.getElem_inj nod).mp q1
  refine ⟨g0.mut c3 c1 c4, fz.put c2, fun y hy => ?_, ?_, Tabs.upd tab c1 c4⟩
  · rcases sub y hy with rfl | ⟨hy, z⟩
    · exact ⟨upd_same, c2, c3, nt⟩
    · rw [upd_ne z]
      exact cel y hy
  · rw [List.map_set]
    have : (L.map (·.1)).set i a = L.map (·.1) := by
      have e2 : (L.map (·.1))[i]'(by rw [List.length_map]; exact hi) = a := by rw [List.getElem_map, ei]
      conv => rhs; rw [← List.set_getElem_self (as := L.map (·.1)) (i := i) (by rw [List.length_map]; exact hi)]
      rw [e2]
    show ((L.map (·.1)).set i a).Nodup
    rw [this]
    exact nod
theorem Hc.sub {L' : List (Addr × HO)} (s : Hc T H0 L G H) (h : L'.Sublist L) : Hc T H0 L' G H := by
  obtain ⟨g0, fz, cel, nod, tab⟩ := s
  exact ⟨g0, fz, fun x hx => cel x (h.subset hx), nod.sublist (h.map _), tab⟩
theorem Hc.freeze {a : Addr} {o : HO} (s : Hc T H0 ((a, o) :: L) G H) : Hc T H0 L (upd G a o) H := by
  obtain ⟨g0, fz, cel, nod, tab⟩ := s
  obtain ⟨c1, c2, c3, c4⟩ := cel _ (List.mem_cons_self ..)
  rw [List.map_cons, List.nodup_cons] at nod
  refine ⟨g0, fz.add c1 c4, fun x hx => ?_, nod.2, tab⟩
  obtain ⟨d1, d2, d3, d4⟩ := cel x (List.mem_cons_of_mem _ hx)
  refine ⟨d1, ?_, d3, d4⟩
  rw [upd_ne (fun z => nod.1 (List.mem_map.mpr ⟨x, hx, z⟩))]
  exact d2
theorem Hc.drop1 {c : Addr × HO} (s : Hc T H0 (c :: L) G H) : Hc T H0 L G H := s.sub (.cons _ (.refl _))
theorem Hc.drop2 {c d : Addr × HO} (s : Hc T H0 (c :: d :: L) G H) : Hc T H0 (c :: L) G H := s.sub (.cons₂ _ (.cons _ (.refl _)))
theorem Hc.fzat {a : Addr} {o : HO} (s : Hc T H0 L G H) (h : G a = some o) : H a = some o := s.fz.sub _ _ h
theorem Hc.cfree {c : Addr × HO} (s : Hc T H0 (c :: L) G H) : G c.1 = none := (s.cel c (List.mem_cons_self ..)).2.1
/-- all is frozen but the cells -/
def fzC (G : Hp) (L : List (Addr × HO)) (H : Hp) : Hp := fun a => match G a with
  | some u => some u
  | none => if a ∈ L.map (·.1) then none else match H a with
    | some u => if plainB u = true then some u else none
    | none => none
theorem fzC_old : Same G (fzC G L H) := fun a u h => by
  unfold fzC
  rw [h]
theorem fzC_sub {a : Addr} {u : HO} (h : fzC G L H a = some u) : G a = some u ∨ (a ∉ L.map (·.1) ∧ H a = some u ∧ plainB u = true) := by
  unfold fzC at h
  cases q : G a with
  | some o =>
    rw [q] at h
    exact .inl h
  | none =>
    rw [q] at h
    by_cases z : a ∈ L.map (·.1)
    · rw [if_pos z] at h
      cases h
    · rw [if_neg z] at h
      refine .inr ⟨z, ?_⟩
      cases q2 : H a with
      | none =>
        rw [q2] at h
        cases h
      | some o =>
        rw [q2] at h
        by_cases y : plainB o = true
        · have h2 : (if plainB o = true then some o else none) = some u := h
          rw [if_pos y] at h2
          cases h2
          exact ⟨rfl, y⟩
        · have h2 : (if plainB o = true then some o else none) = some u := h
          rw [if_neg y] at h2
          cases h2
theorem fzC_none {a : Addr} (h : G a = none) (z : a ∈ L.map (·.1)) : fzC G L H a = none := by
  unfold fzC
  rw [h]
  exact if_pos z
theorem fzC_at {a : Addr} {u : HO} (f : Fz G H) (h : H a = some u) (hp : plainB u = true) (nl : a ∉ L.map (·.1)) : fzC G L H a = some u := by
  unfold fzC
  cases q : G a with
  | some o =>
    have := f.sub a o q
    rw [h] at this
    exact this.symm
  | none =>
    show (if a ∈ L.map (·.1) then none else _) = _
    rw [if_neg nl, h]
    show (if plainB u = true then some u else none) = some u
    rw [if_pos hp]
theorem Hc.all (s : Hc T H0 L G H) : Hc T H0 L (fzC G L H) H := by
  obtain ⟨g0, fz, cel, nod, tab⟩ := s
  refine ⟨g0, ⟨fun a u h => ?_, fun a u h => ?_⟩, fun x hx => ?_, nod, tab⟩
  · rcases fzC_sub h with z | ⟨_, z, _⟩
    · exact fz.sub a u z
    · exact z
  · rcases fzC_sub h with z | ⟨_, _, z⟩
    · exact fz.nt a u z
    · exact plain_nt z
  · obtain ⟨c1, c2, c3, c4⟩ := cel x hx
    exact ⟨c1, fzC_none c2 (List.mem_map.mpr ⟨x, hx, rfl⟩), c3, c4⟩
theorem Hc.atA {a : Addr} {u : HO} (s : Hc T H0 L G H) (hL : ∀ x ∈ L, plainB x.2 = false) (h : H a = some u) (hp : plainB u = true) : fzC G L H a = some u := by
  refine fzC_at s.fz h hp (fun z => ?_)
  obtain ⟨x, hx, rfl⟩ := List.mem_map.mp z
  have h1 := (s.cel x hx).1
  rw [h] at h1
  have h2 := hL x hx
  rw [← Option.some.inj h1, hp] at h2
  cases h2
theorem Hc.entA {v : V} {e : Ent} (s : Hc T H0 L G H) (hL : ∀ x ∈ L, plainB x.2 = false) (h : EntAt H v e) : EntAt (fzC G L H) v e := by
  obtain ⟨t, l, rfl, h1, h2⟩ := h
  exact ⟨t, l, rfl, s.atA hL h1 rfl, s.atA hL h2 rfl⟩
theorem Hc.catA (s : Hc T H0 L G H) (hL : ∀ x ∈ L, plainB x.2 = false) : ∀ {vs : List V} {es : List Ent}, CatAt H vs es → CatAt (fzC G L H) vs es
  | _, _, .nil => .nil
  | _, _, .cons a t => .cons (s.entA hL a) (Hc.catA s hL t)
end
section
variable {T : List (Addr × Str)} {K : PySem.W.Frag} {s dx A B C e2 : Addr} {H0 : Hp} {i : Nat} {L : List (Addr × HO)} {G H H' : Hp} {ys : List V} {es es' es2 : List Ent} {d cuts cuts' d2 c c' : Num} {k : Int} {Q : VK} {E : XK}
theorem Held.stAtC (h : Held G A B C ys es d c) (q : Hc T H0 L G H) (o : H s = some (.ins (stC K) dx (stF A B C))) : StAt K H s dx A B C ys es d c := ⟨o, q.fzat h.en, h.cat.mono q.fz.sub, q.fzat h.st, q.fzat h.sp⟩
theorem Hc.hold (q : Hc T H0 L G H) (hL : ∀ x ∈ L, plainB x.2 = false) (h : StAt K H s dx A B C ys es d c) : Held (fzC G L H) A B C ys es d c :=
  ⟨q.atA hL h.en rfl, q.catA hL h.cat, q.atA hL h.st rfl, q.atA hL h.sp rfl⟩
theorem Hc.born {x : Addr} (q : Hc T H0 L G H) (hx : H x = none) (hdx : H dx = none) (ne : dx ≠ x) : Hc T H0 ((x, .ins (stC K) dx []) :: L) G (upd (upd H dx (.own x)) x (.ins (stC K) dx [])) := by
  have q1 := (q.new (o := .own x) hdx .own).drop1
  have hx1 : (upd H dx (.own x)) x = none := by rw [upd_ne ne.symm]; exact hx
  exact q1.new (o := .ins (stC K) dx []) hx1 .ins
theorem Hc.made {x : Addr} (q : Hc T H0 L G H) (hL : ∀ x ∈ L, plainB x.2 = false) (hx : H x = none) (hdx : H dx = none) (ne : dx ≠ x) (g : Gr T (upd (upd (upd H dx (.own x)) x (.ins (stC K) dx [])) x (.ins (stC K) dx (stF A B C))) H') (h : StAt K H' x dx A B C ys es d c) :
    ∃ G', Same G G' ∧ Held G' A B C ys es d c ∧ Hc T H0 ((x, .ins (stC K) dx (stF A B C)) :: L) G' H' := by
  have q2 := (q.born (K := K) hx hdx ne).put (i := 0) (o' := .ins (stC K) dx (stF A B C)) rfl .ins
  have q3 := q2.gr g
  have hL' : ∀ y ∈ (x, HO.ins (stC K) dx (stF A B C)) :: L, plainB y.2 = false := fun y hy => by
    rcases List.mem_cons.mp hy with rfl | hy
    · rfl
    · exact hL y hy
  exact ⟨_, fzC_old, q3.hold hL' h, q3.all⟩
theorem Hc.moved (q : Hc T H0 L G H) (hi : L[i]? = some (s, .ins (stC K) dx (stF A B C))) (hd : Held G A B C ys es d c) (g : Gr T (upd H s (.ins (stC K) dx (stF A B e2))) H') (ne : Nw H e2) (he : H' e2 = some (.dK (dS c'))) :
    ∃ G', Same G G' ∧ Held G' A B e2 ys es d c' ∧ Hc T H0 (L.set i (s, .ins (stC K) dx (stF A B e2))) G' H' := by
  have q1 := q.put (i := i) (o' := .ins (stC K) dx (stF A B e2)) hi .ins
  have hs := q.get hi
  have ne' : Nw (upd H s (.ins (stC K) dx (stF A B e2))) e2 := fun u hu => by
    by_cases z : e2 = s
    · obtain ⟨ps, y⟩ := ne _ (by rw [z]; exact hs)
      cases y
    · exact ne u (by rw [upd_ne z] at hu; exact hu)
  have q2 := (q1.grow g ne' he .dK).freeze
  have sm : Same G (upd G e2 (.dK (dS c'))) := Same.upd (q1.grow g ne' he .dK).cfree
  exact ⟨_, sm, ⟨sm _ _ hd.en, hd.cat.mono sm, sm _ _ hd.st, upd_same⟩, q2⟩
theorem Hc.splitEnd (h : Hc T H0 L G H) (hi : L[i]? = some (s, .ins (stC K) dx (stF A B C))) (hd : Held G A B C ys es2 d2 c) (t : Tied es d cuts es2 d2 c) (hp : es'.Perm es) (ho : Ordered es') (ok : SplitsOk es d cuts')
    (f : Fill es'.length (fullN es' d) (cN es' (getD cuts)) (cN es' (getD cuts'))) (hs : (cuts'.map (·.2)).sum = (cuts.map (·.2)).sum + k)
    (hF : Fill es2.length (fullN es2 d2) (cN es2 (getD c)) (cN es2 (getD c'))) (hsum : sumN (cN es2 (getD c')) es2.length = (c.map (·.2)).sum + k) (g : Gr T (upd H s (.ins (stC K) dx (stF A B e2))) H') (n2 : Nw H e2) (he : H' e2 = some (.dK (dS (cleanN es2 c')))) :
    ∃ G', Same G G' ∧ Held G' A B e2 ys es2 d2 (cleanN es2 cuts') ∧ Tied es d cuts' es2 d2 (cleanN es2 cuts') ∧ Hc T H0 (L.set i (s, .ins (stC K) dx (stF A B e2))) G' H' := by
  obtain ⟨G', s', hd', h'⟩ := h.moved hi hd g n2 he
  have t' := (t.fillTo hp ho ok f hs).2 hF hsum
  rw [t'.cF] at hd' t'
  exact ⟨G', s', hd', t', h'⟩
theorem Hc.undoEnd (h : Hc T H0 L G H) (hi : L[i]? = some (s, .ins (stC K) dx (stF A B C))) (hd : Held G A B C ys es2 d2 c) (t : Tied es d cuts es2 d2 c) (hp : es'.Perm es) (ho : Ordered es') (ok : SplitsOk es d cuts')
    (f : Drain es'.length (cN es' (getD cuts)) (cN es' (getD cuts'))) (hs : (cuts'.map (·.2)).sum = (cuts.map (·.2)).sum - k)
    (hF : Drain es2.length (cN es2 (getD c)) (cN es2 (getD c'))) (hsum : sumN (cN es2 (getD c')) es2.length = (c.map (·.2)).sum - k) (g : Gr T (upd H s (.ins (stC K) dx (stF A B e2))) H') (n2 : Nw H e2) (he : H' e2 = some (.dK (dS (cleanN es2 c')))) :
    ∃ G', Same G G' ∧ Held G' A B e2 ys es2 d2 (cleanN es2 cuts') ∧ Tied es d cuts' es2 d2 (cleanN es2 cuts') ∧ Hc T H0 (L.set i (s, .ins (stC K) dx (stF A B e2))) G' H' := by
  obtain ⟨G', s', hd', h'⟩ := h.moved hi hd g n2 he
  have t' := (t.drainTo hp ho ok f hs).2 hF hsum
  rw [t'.cF] at hd' t'
  exact ⟨G', s', hd', t', h'⟩
end
end Sk
namespace Sk
open PySem PySem.Spec PyProof.Rows L2
theorem logR {i : Int} (h : i = 0 ∨ (0 ≤ i ∧ i ≤ 10 ^ 50)) : i.natAbs.log2 < 1920 := by
  have h1 : i.natAbs < 2 ^ 200 := by
    have : (10 : Int) ^ 50 < 2 ^ 200 := by decide
    omega
  by_cases z : i.natAbs = 0
  · rw [z]
    decide
  · have := (Nat.log2_lt z).mpr h1
    omega
theorem clean_fit {es : List Ent} (v : Valid es) (hl : es.length ≤ 1000) {N : Num} (hb : ∀ e ∈ es, (getD N e.name).natAbs < 2 ^ 1000) : ((cleanN es N).map (·.1)).Nodup ∧ (cleanN es N).length ≤ 1000 ∧ (∀ q ∈ cleanN es N, nameB q.1 = true) ∧ ∀ q ∈ cleanN es N, q.2.natAbs < 2 ^ 1000 := by
  have := clean_len es N
  refine ⟨clean_nodup v.nodup, by omega, fun q hq => ?_, fun q hq => ?_⟩
  · obtain ⟨e, he, hn⟩ := List.mem_map.mp (clean_known es N q hq)
    rw [← hn]
    exact v.names e he
  · unfold cleanN at hq
    obtain ⟨e, he, rfl⟩ := List.mem_map.mp hq
    exact hb e (List.mem_filter.mp he).1
end Sk
namespace Sk
open PySem PySem.Spec PyProof.Rows L2
theorem dpAll_ints {K : PySem.W.Frag} {H : Hp} : ∀ ns : List Int, DpAll K H (ns.map V.int) (ns.map PyData.int)
  | [] => .nil
  | n :: ns => .cons (.int n) (dpAll_ints ns)
theorem dp_ints {K : PySem.W.Frag} {H : Hp} {r : Addr} {ns : List Int} (h : SqL K H r (ns.map V.int)) : Dp K H (.ref r) (.list (ns.map PyData.int)) := .lst h (dpAll_ints ns)
theorem eqv_ints (xs ys : List Int) : PyData.eqv (.list (xs.map PyData.int)) (.list (ys.map PyData.int)) = decide (xs = ys) := by
  have h := eqvAll_map (f := PyData.int) (r := fun x y => x == y) (fun x y => by simp [PyData.eqv]) (fun x y => by simp) xs ys
  rw [Bool.eq_iff_iff, decide_eq_true_eq, ← h]
  simp only [PyData.eqv]
theorem ints_shaped (xs : List Int) : SeqAt.shaped (.list (xs.map PyData.int)) = true := by
  have h1 : PyData.canLayAll0 (xs.map PyData.int) = true := by
    induction xs with
    | nil => simp only [List.map_nil, PyData.canLayAll0]
    | cons x xs ih => rw [List.map_cons, PyData.canLayAll0, ih]; simp only [PyData.canLay0, Bool.and_self]
  have h2 : PyData.depthAll (xs.map PyData.int) ≤ 0 := by
    clear h1
    induction xs with
    | nil => simp [PyData.depthAll]
    | cons x xs ih => rw [List.map_cons, PyData.depthAll]; simp [PyData.depth]; omega
  unfold SeqAt.shaped
  rw [Bool.and_eq_true, PyData.canLay0]
  refine ⟨h1, decide_eq_true ?_⟩
  rw [PyData.depth]
  omega
end Sk
namespace Sk
open PySem PySem.Spec PyProof.Rows L2
/-- how many splits there can be -/
theorem Sit.tots {es es' : List Ent} {d c : Num} (S : Sit es es' d) (ok : SplitsOk es d c) (h6 : ∀ e ∈ es, e.parts.length ≤ 6) (h20 : es.length ≤ 20) (hd : ∀ q ∈ d, q.2 ≤ 10 ^ 30) : totI es' d ≤ 10 ^ 50 := by
  have r := S.range ok
  obtain ⟨ck, okk, _, sk⟩ := S.fillBy ok (totI es' d - (c.map (·.2)).sum).toNat (by omega)
  have := (S.small okk h6 h20 hd).2.1
  omega
end Sk
namespace Sk
open PySem PySem.Spec PyProof.Rows L2
abbrev s_law_pair_right : Stmt := topS 49
abbrev N_law_pair_right : List Str := ["pool", "supply", "taken", "number", "total", "apart", "store", "turn", "one", "two"]
theorem sc_law_pair_right : FnScope N_law_pair_right ["pool", "supply", "taken", "number", "total"] (defScope s_law_pair_right) := ⟨rfl, rfl, rfl, by decide +kernel, rfl, by decide +kernel, by decide +kernel⟩
def sp_law_pair_right (Tb : List (Addr × Str)) (K : PySem.W.Frag) : Sp := fun vs H Q _ => ∃ (a b c : Addr) (tot : Int) (xs : List V) (es es' : List Ent) (d t : Num), vs = [.ref a, .ref b, .ref c, .int (t.map (·.2)).sum, .int tot] ∧ SqL K H a xs ∧ CatAt H xs es ∧ H b = some (.dK (dS d)) ∧ H c = some (.dK (dS t)) ∧ LamX.Tabs Tb H ∧ MadeC es ∧ es'.Perm es ∧ Ordered es' ∧ StockOk es d ∧ SplitsOk es d t ∧ tot = totI es' d ∧ tot ≤ 16 ∧
  ∀ H', Gr Tb H H' → Q (.bl true) H'
section
variable {P : Program} {w : World} {K : PySem.W.Frag} {mg : Str → Option Value} {base : Heap} {Tb : List (Addr × Str)}
theorem ok_law_pair_right {f : Addr} {fd : FuncData} (F : FnP K "_law_pair_right" s_law_pair_right f fd) (T : Tx K mg) (GC_Store_3 : C8.Mak P w K mg base 6 "Store" (stC K) (sp_Store___init__ Tb K) []) (GM_Store_split_0 : C8.Met P w K mg base 8 (stC K) "split" (sp_Store_split Tb K) [.int 1]) (GM_Store_splits_0 : C8.Met P w K mg base 2 (stC K) "splits" (sp_Store_splits Tb K) []) (GM_Store_undo_0 : C8.Met P w K mg base 8 (stC K) "undo" (sp_Store_undo Tb K) [.int 1]) (G_balanced : Fn P w K mg base "balanced" 6 ["catalogue", "stock", "number"] (sp_balanced Tb K)) (G_displacement : Fn P w K mg base "displacement" 6 ["catalogue", "stock", "splits"] (sp_displacement Tb K)) : FnOk P w K mg base CX0 9 f fd ["pool", "supply", "taken", "number", "total"] (sp_law_pair_right Tb K) := by
  refine F.ok sc_law_pair_right (fun vs H Q E h => ?_) (fun cdv A outer s H vs Q E hr h => ?_)
  · obtain ⟨_, _, _, _, _, _, _, _, _, rfl, _⟩ := h
    rfl
  · obtain ⟨a, b, c, tot, xs, es, es', d, t, rfl, ha, hc, hb, ht, htb, hmd, hp, ho, so, ok, rfl, h16, k⟩ := h
    refine ⟨_, PSs.nox (pss_cons (ps_par (i := 8) (j := 9) (by rfl) sc_law_pair_right.nd rfl rfl (by decide) rfl rfl (pa_cons (C8.pe_mk GC_Store_3 hr (by decide) (by rfl) (pa_cons (pv 0) (pa_cons (pv 1) (pa_cons (pv 2) pa_nil)))) (pa_cons (C8.pe_mk GC_Store_3 hr (by decide) (by rfl) (pa_cons (pv 0) (pa_cons (pv 1) (pa_cons (pv 2) pa_nil)))) pa_nil)) (by rfl))
      (pss_cons (ps_if (PW.pt (pw_or (pt_cmpR op_eq (pv 3) pe_int (nomark _)) (pw_or1 (pt_cmpR op_eq (pv 3) (pv 4) (nomark _))))) (pss_one (ps_ret (pe_cmpR op_eq (pe_fn G_displacement (hr.mono (by decide)) (pa_cons (pv 0) (pa_cons (pv 1) (pa_cons (pv 2) pa_nil)))) pe_int (nomark _)))) pss_nil)
      (pss_cons (ps_expr (C8.pe_mt0 GM_Store_split_0 hr (by decide) (pv 8)))
      (pss_cons (ps_expr (C8.pe_mt0 GM_Store_undo_0 hr (by decide) (pv 8)))
      (pss_cons (ps_expr (C8.pe_mt0 GM_Store_undo_0 hr (by decide) (pv 9)))
      (pss_cons (ps_expr (C8.pe_mt0 GM_Store_split_0 hr (by decide) (pv 9)))
      (pss_cons (ps_set (i := 5) sc_law_pair_right.nd rfl (Or.inl rfl) (pe_fn G_displacement (hr.mono (by decide)) (pa_cons (pv 0) (pa_cons (pv 1) (pa_cons (pv 2) pa_nil)))))
      (pss_cons (ps_if (PW.pt (pw_or (pt_cmpR (op_neNum (Nat.lt_of_succ_lt (hu_of hr))) (C8.pe_mt0 GM_Store_splits_0 hr (by decide) (pv 8)) (C8.pe_mt0 GM_Store_splits_0 hr (by decide) (pv 9)) (nomark _)) (pw_or1 (pt_cmpR op_ne (pe_fn G_displacement (hr.mono (by decide)) (pa_cons (pv 0) (pa_cons (pv 1) (pa_cons (C8.pe_mt0 GM_Store_splits_0 hr (by decide) (pv 8)) pa_nil)))) (pe_callB (call_max2 rfl) (by rfl) T.n_max (by decide +kernel) (pa_cons pe_int (pa_cons (pe_op op_sub (pv 5) pe_int) pa_nil))) (nomark _))))) (pss_one (ps_ret pe_bl)) pss_nil)
      (pss_cons (ps_set (i := 6) sc_law_pair_right.nd rfl (Or.inl rfl) (C8.pe_mk GC_Store_3 hr (by decide) (by rfl) (pa_cons (pv 0) (pa_cons (pv 1) (pa_cons (pv 2) pa_nil)))))
      (pss_cons (ps_for PassesOwn.never rfl (pi_range1 (by rfl) T.n_range (pa_cons (pv 5) pa_nil)) (pg_name (i := 7) sc_law_pair_right.nd rfl (Or.inl rfl)) (pss_cons (ps_expr (C8.pe_mt0 GM_Store_split_0 hr (by decide) (pv 6)))
        (pss_one (ps_expr (C8.pe_mt0 GM_Store_undo_0 hr (by decide) (pv 6))))))
      (pss_one (ps_ret (pe_cmpR (op_eqNum (Nat.lt_of_succ_lt (hu_of hr))) (C8.pe_mt0 GM_Store_splits_0 hr (by decide) (pv 6)) (pe_fn G_balanced (hr.mono (by decide)) (pa_cons (pv 0) (pa_cons (pv 1) (pa_cons (pv 3) pa_nil)))) (nomark _)))))))))))))), ?_⟩
    have hv := hmd.v
    have hz64 : es.length < 64 := by have := hmd.few; omega
    have hp64 : ∀ e ∈ es, e.parts.length < 64 := fun e he => by have := hmd.fewp e he; omega
    have S : Sit es es' d := ⟨hv, hp, ho, so, hz64⟩
    have uq : ∀ es3 : List Ent, es3.Perm es → Ordered es3 → es3 = es' := fun es3 p3 o3 => ordered_unique (p3.trans hp.symm) o3 ho (hv.perm p3).nodup
    have h0 : Hc Tb H [] (fun _ => none) H := ⟨Gr.refl _, Fz.emp, (fun x h => by cases h), List.nodup_nil, htb⟩
    obtain ⟨r0, r1⟩ := S.range ok
    obtain ⟨m0, m1, m2⟩ := S.room ok
    refine ⟨_, rfl, _, rfl, _, rfl, fun x dx hx hdx ne => ?_⟩
    have hm := h0.born (K := K) hx hdx ne
    refine ⟨x, dx, a, b, .ref c, xs, es, d, t, rfl, upd_same, hm.g0.ext_seq ha, CatAt.gr hm.g0 hc, hm.g0.at hb .dK, .inr ⟨c, rfl, hm.g0.at ht .dK⟩, hm.tab, hv, hz64, so, ok, hp64, fun H8 A1 B1 C1 ys1 es1 es2 hp1 ho1 sm g8 nA nB nC hS => ⟨rfl, ?_⟩⟩
    obtain ⟨G1, s1, hd1, h1⟩ := h0.made (fun _ h => by cases h) hx hdx ne g8 hS
    have t1 := Tied.make hv hz64 so ok hp1 ho1 sm
    generalize cleanN es2 d = d2 at hd1 t1
    generalize cleanN es2 t = e2 at hd1 t1
    clear hm hS g8 nA nB nC hx hdx ne h0 sm hp1 ho1
    refine ⟨_, rfl, _, rfl, _, rfl, fun x2 dx2 hx hdx ne => ?_⟩
    have hm := h1.born (K := K) hx hdx ne
    refine ⟨x2, dx2, a, b, .ref c, xs, es, d, t, rfl, upd_same, hm.g0.ext_seq ha, CatAt.gr hm.g0 hc, hm.g0.at hb .dK, .inr ⟨c, rfl, hm.g0.at ht .dK⟩, hm.tab, hv, hz64, so, ok, hp64, fun H8 A2 B2 C2 ys2 es1 es4 hp1 ho1 sm g8 nA nB nC hS => ⟨rfl, ?_⟩⟩
    obtain ⟨G2, s2, hd2, h2⟩ := h1.made one_ins hx hdx ne g8 hS
    have t2 := Tied.make hv hz64 so ok hp1 ho1 sm
    generalize cleanN es4 d = d4 at hd2 t2
    generalize cleanN es4 t = e4 at hd2 t2
    clear hm hS g8 nA nB nC hx hdx ne h1 sm hp1 ho1
    have hd1 := hd1.mono s2
    clear s1 s2
    refine ⟨_, _, rfl, ?_⟩
    have eI : ∀ i j : Int, decide (V.int i = V.int j) = decide (i = j) := fun i j => decide_eq_decide.mpr ⟨V.int.inj, fun z => by rw [z]⟩
    have ended : (t.map (·.2)).sum = 0 ∨ (t.map (·.2)).sum = totI es' d → overN t (greedy (fs es' (getD d)) (t.map (·.2)).sum) = 0 := fun z => by
      rw [S.over ok]
      exact S.off_end ok z
    have fin0 : ∀ H9 : Hp, Hc Tb H [(x2, .ins (stC K) dx2 (stF A2 B2 C2)), (x, .ins (stC K) dx (stF A1 B1 C1))] G2 H9 → (t.map (·.2)).sum = 0 ∨ (t.map (·.2)).sum = totI es' d →
        tRet (tOp rEq (tCall (sp_displacement Tb K) [] E0 (tCons (tVar 0) (tCons (tVar 1) (tCons (tVar 2) tNil)))) (tC (V.int 0))) { nx := fun x H' => Q V.non H', rt := Q } [some (.ref a), some (.ref b), some (.ref c), some (.int (t.map (·.2)).sum), some (.int (totI es' d)), none, none, none, some (.ref x), some (.ref x2)] H9 := fun H9 h9 z => by
      refine ⟨_, rfl, _, rfl, _, rfl, a, b, c, xs, es, d, t, rfl, h9.g0.ext_seq ha, CatAt.gr h9.g0 hc, h9.g0.at hb .dK, h9.g0.at ht .dK, h9.tab, hv, so, ok, fun H10 es3 p3 o3 g3 => ⟨rfl, ?_⟩⟩
      obtain rfl := uq es3 p3 o3
      rw [ended z, decide_eq_true rfl]
      exact k _ (h9.g0.trans g3)
    refine ⟨_, rfl, rfl, _, rfl, ?_⟩
    rw [eI]
    refine ite2 (fun q1 => iteTb rfl (fin0 _ h2 (.inl (of_decide_eq_true q1)))) (fun q1 => ?_)
    refine ⟨_, rfl, _, rfl, rfl, _, rfl, ?_⟩
    rw [eI]
    refine ite2 (fun q2 => fin0 _ h2 (.inr (of_decide_eq_true q2))) (fun q2 => ?_)
    have p1 : 0 < (t.map (·.2)).sum := by
      have : ¬ (t.map (·.2)).sum = 0 := fun z => q1 (decide_eq_true z)
      omega
    have p2 : (t.map (·.2)).sum < totI es' d := by
      have : ¬ (t.map (·.2)).sum = totI es' d := fun z => q2 (decide_eq_true z)
      omega
    clear fin0 ended q1 q2
    -- the steps
    obtain ⟨c1, ok1, w1, z1⟩ := S.wdUp ok 1 (by omega)
    obtain ⟨c2, ok2, w2, z2⟩ := S.wdDown ok1 1 (by omega)
    obtain ⟨c3, ok3, w3, z3⟩ := S.wdDown ok 1 (by omega)
    obtain ⟨c4, ok4, w4, z4⟩ := S.wdUp ok3 1 (by omega)
    have f1 := w1.fill (S.vec ok) rfl
    have f2 := w2.drain (S.vec ok1) rfl
    have f3 := w3.drain (S.vec ok) rfl
    have f4 := w4.fill (S.vec ok3) rfl
    have z1 : (c1.map (·.2)).sum = (t.map (·.2)).sum + 1 := by omega
    have z2 : (c2.map (·.2)).sum = (c1.map (·.2)).sum - 1 := by omega
    have z3 : (c3.map (·.2)).sum = (t.map (·.2)).sum - 1 := by omega
    have z4 : (c4.map (·.2)).sum = (c3.map (·.2)).sum + 1 := by omega
    have wA : Wd es'.length (fullN es' d) (cN es' (getD t)) 1 1 (cN es' (getD c2)) := w1.app w2
    have wB : Wd es'.length (fullN es' d) (cN es' (getD t)) 1 1 (cN es' (getD c4)) := w3.app w4
    have e24 : cN es' (getD c2) = cN es' (getD c4) := Wd.uniq 2 (Nat.le_refl _) (S.vec ok) wA wB
    have hS := hd1.stAtC h2 (h2.get (i := 1) rfl)
    refine ⟨_, rfl, x, dx, _, rfl, hS.obj, stF_no ⟨by decide, by decide, by decide⟩, x, dx, A1, B1, C1, ys1, es2, d2, e2, 1, rfl, hS, t1.st, h2.tab, by decide, (t1.fillTo hp ho ok1 f1 z1).1, fun e5 H3 c5 hF hsum g n5 he => ?_⟩
    obtain ⟨G3, s3, hd1, t1, h3⟩ := h2.splitEnd (i := 1) rfl hd1 t1 hp ho ok1 f1 z1 hF hsum g n5 he
    have hd2 := hd2.mono s3
    clear hS hF hsum g n5 he h2 s3
    generalize cleanN es2 c1 = b1 at hd1 t1
    have hS := hd1.stAtC h3 (h3.get (i := 1) rfl)
    refine ⟨_, rfl, x, dx, _, rfl, hS.obj, stF_no ⟨by decide, by decide, by decide⟩, x, dx, A1, B1, e5, ys1, es2, d2, b1, 1, rfl, hS, t1.st, h3.tab, by decide, (t1.drainTo hp ho ok2 f2 z2).1, fun e6 H4 c6 hF hsum g n6 he => ?_⟩
    obtain ⟨G4, s4, hd1, t1, h4⟩ := h3.undoEnd (i := 1) rfl hd1 t1 hp ho ok2 f2 z2 hF hsum g n6 he
    have hd2 := hd2.mono s4
    clear hS hF hsum g n6 he h3 s4
    generalize cleanN es2 c2 = b2 at hd1 t1
    have hS := hd2.stAtC h4 (h4.get (i := 0) rfl)
    refine ⟨_, rfl, x2, dx2, _, rfl, hS.obj, stF_no ⟨by decide, by decide, by decide⟩, x2, dx2, A2, B2, C2, ys2, es4, d4, e4, 1, rfl, hS, t2.st, h4.tab, by decide, (t2.drainTo hp ho ok3 f3 z3).1, fun e7 H5 c7 hF hsum g n7 he => ?_⟩
    obtain ⟨G5, s5, hd2, t2, h5⟩ := h4.undoEnd (i := 0) rfl hd2 t2 hp ho ok3 f3 z3 hF hsum g n7 he
    have hd1 := hd1.mono s5
    clear hS hF hsum g n7 he h4 s5
    generalize cleanN es4 c3 = b3 at hd2 t2
    have hS := hd2.stAtC h5 (h5.get (i := 0) rfl)
    refine ⟨_, rfl, x2, dx2, _, rfl, hS.obj, stF_no ⟨by decide, by decide, by decide⟩, x2, dx2, A2, B2, e7, ys2, es4, d4, b3, 1, rfl, hS, t2.st, h5.tab, by decide, (t2.fillTo hp ho ok4 f4 z4).1, fun e8 H6 c8 hF hsum g n8 he => ?_⟩
    obtain ⟨G6, s6, hd2, t2, h6⟩ := h5.splitEnd (i := 0) rfl hd2 t2 hp ho ok4 f4 z4 hF hsum g n8 he
    have hd1 := hd1.mono s6
    clear hS hF hsum g n8 he h5 s6
    generalize cleanN es4 c4 = b4 at hd2 t2
    have h6 : Hc Tb H [(x2, .ins (stC K) dx2 (stF A2 B2 e8)), (x, .ins (stC K) dx (stF A1 B1 e6))] G6 H6 := h6
    -- the displacement
    refine ⟨_, rfl, _, rfl, _, rfl, a, b, c, xs, es, d, t, rfl, h6.g0.ext_seq ha, CatAt.gr h6.g0 hc, h6.g0.at hb .dK, h6.g0.at ht .dK, h6.tab, hv, so, ok, fun H7 es3 p3 o3 g7 => ?_⟩
    obtain rfl := uq es3 p3 o3
    have h7 := h6.gr g7
    clear h6 g7
    rw [S.over ok]
    obtain ⟨gap, hgap⟩ := Int.eq_ofNat_of_zero_le m0
    rw [hgap] at m1 m2 ⊢
    have cl : ∀ {c1 : Num} {k : Nat}, Wd es3.length (fullN es3 d) (cN es3 (getD t)) k k (cN es3 (getD c1)) → k ≤ gap → offN es3.length (cN es3 (getD c1)) (balN es3 d (t.map (·.2)).sum) = gap - k := fun w h => by
      have := S.closer ok w (by omega)
      omega
    have s2t : (c2.map (·.2)).sum = (t.map (·.2)).sum := by omega
    have cl2 : offN es3.length (cN es3 (getD c2)) (balN es3 d (c2.map (·.2)).sum) = if ((gap : Int) - 1) > 0 then (gap : Int) - 1 else 0 := by
      by_cases z : gap = 0
      · rw [if_neg (by omega)]
        refine t1.bal0 p3 o3 (wA.balk (S.vec ok) (S.is0 ok ?_))
        omega
      · rw [s2t, cl wA (by omega)]
        split <;> omega
    refine goN ?_
    dsimp only
    refine sq_st (fun σ H' => σ = [some (.ref a), some (.ref b), some (.ref c), some (.int (t.map (·.2)).sum), some (.int (totI es3 d)), some (.int (gap : Int)), none, none, some (.ref x), some (.ref x2)] ∧ Hc Tb H [] (fun _ => none) H') (fun N hN => ?_) ?_
    · have hSa := hd1.stAtC h7 (h7.get (i := 1) rfl)
      refine ⟨_, rfl, x, dx, _, rfl, hSa.obj, stF_no ⟨by decide, by decide, by decide⟩, x, dx, A1, B1, e6, ys1, es2, d2, b2, rfl, hSa, t1.st, fun r1 H8 g8 n8 hr1 => ?_⟩
      have h8 := h7.grow g8 n8 hr1 .dK
      have hSb := hd2.stAtC h8 (h8.get (i := 1) rfl)
      refine ⟨_, rfl, x2, dx2, _, rfl, hSb.obj, stF_no ⟨by decide, by decide, by decide⟩, x2, dx2, A2, B2, e8, ys2, es4, d4, b4, rfl, hSb, t2.st, fun r2 H9 g9 n9 hr2 => ?_⟩
      have h9 := h8.gr g9
      have eqc : eqNum (cleanN es2 b2) (cleanN es4 b4) = true := by
        rw [t1.cleanC p3 o3, t2.cleanC p3 o3]
        exact (clean_eq S.v'.nodup _ _).mpr fun i _ => congrFun e24 i
      refine ⟨r1, r2, _, _, rfl, rfl, h9.get (i := 0) rfl, hr2, _, rfl, iteFb (by rw [eqc]; rfl) ?_⟩
      have hSc := hd1.stAtC h9 (h9.get (i := 2) rfl)
      refine ⟨_, rfl, _, rfl, _, rfl, x, dx, _, rfl, hSc.obj, stF_no ⟨by decide, by decide, by decide⟩, x, dx, A1, B1, e6, ys1, es2, d2, b2, rfl, hSc, t1.st, fun r3 H10 g10 n10 hr3 => ?_⟩
      have h10 := h9.gr g10
      refine ⟨a, b, r3, xs, es, d, cleanN es2 b2, rfl, h10.g0.ext_seq ha, CatAt.gr h10.g0 hc, h10.g0.at hb .dK, hr3, h10.tab, hv, so, t1.okC.1, fun H11 es9 p9 o9 g11 => ?_⟩
      obtain rfl := uq es9 p9 o9
      rw [t1.gap p9 o9, cl2]
      have h11 := h10.gr g11
      refine ⟨_, rfl, _, _, rfl, rfl, _, _, rfl, rfl, _, rfl, iteFb ?_ (hN _ _ ⟨rfl, ?_⟩)⟩
      · rw [decide_eq_true rfl]
        rfl
      · have h12 := h11.sub (L' := []) (List.nil_sublist _)
        exact ⟨h12.g0, Fz.emp, (fun x h => by cases h), List.nodup_nil, h12.tab⟩
    clear h7 hd1 hd2 t1 t2 cl2
    rintro σ H8 ⟨rfl, h8⟩
    refine ⟨_, rfl, _, rfl, _, rfl, fun y dy hx hdx ne => ?_⟩
    have hm := h8.born (K := K) hx hdx ne
    refine ⟨y, dy, a, b, .ref c, xs, es, d, t, rfl, upd_same, hm.g0.ext_seq ha, CatAt.gr hm.g0 hc, hm.g0.at hb .dK, .inr ⟨c, rfl, hm.g0.at ht .dK⟩, hm.tab, hv, hz64, so, ok, hp64, fun H9 A3 B3 C3 ys3 es1 es5 hp1 ho1 sm g8 nA nB nC hS => ⟨rfl, ?_⟩⟩
    obtain ⟨G9, s9, hd3, h9⟩ := h8.made (fun _ h => by cases h) hx hdx ne g8 hS
    have t3 := Tied.make hv hz64 so ok hp1 ho1 sm
    generalize cleanN es5 d = d5 at hd3 t3
    generalize cleanN es5 t = e9 at hd3 t3
    clear hm hS g8 nA nB nC hx hdx ne h8 sm hp1 ho1
    refine goN ?_
    dsimp only
    refine ⟨_, rfl, _, rfl, by omega, by omega, for_range (lo := 0) (n := gap) (fun j σ H' => ∃ (cuts c' : Num) (C' : Addr) (G' : Hp) (s7 : Option V), σ = [some (.ref a), some (.ref b), some (.ref c), some (.int (t.map (·.2)).sum), some (.int (totI es3 d)), some (.int (gap : Int)), some (.ref y), s7, some (.ref x), some (.ref x2)] ∧ Held G' A3 B3 C' ys3 es5 d5 c' ∧ Tied es d cuts es5 d5 c' ∧ Wd es3.length (fullN es3 d) (cN es3 (getD t)) j j (cN es3 (getD cuts)) ∧ (cuts.map (·.2)).sum = (t.map (·.2)).sum ∧ Hc Tb H [(y, .ins (stC K) dy (stF A3 B3 C'))] G' H')
      ⟨t, e9, C3, G9, none, rfl, hd3, t3, .nil _, rfl, h9⟩ ?_ ?_⟩
    · clear h9 hd3 t3 C3
      rintro j σ H10 hj ⟨cuts, c', C', G', s7, rfl, hd, tt, wd, sm, h10⟩
      obtain ⟨k1, okk1, v1, y1⟩ := S.wdUp tt.ok 1 (by omega)
      obtain ⟨k2, okk2, v2, y2⟩ := S.wdDown okk1 1 (by omega)
      have y1 : (k1.map (·.2)).sum = (cuts.map (·.2)).sum + 1 := by omega
      have y2 : (k2.map (·.2)).sum = (k1.map (·.2)).sum - 1 := by omega
      have fa := v1.fill (S.vec tt.ok) rfl
      have fb := v2.drain (S.vec okk1) rfl
      have hS := hd.stAtC h10 (h10.get (i := 0) rfl)
      refine goN ?_
      dsimp only
      refine ⟨_, rfl, y, dy, _, rfl, hS.obj, stF_no ⟨by decide, by decide, by decide⟩, y, dy, A3, B3, C', ys3, es5, d5, c', 1, rfl, hS, tt.st, h10.tab, by decide, (tt.fillTo p3 o3 okk1 fa y1).1, fun e5 H11 c5 hF hsum g n5 he => ?_⟩
      obtain ⟨G3, s3, hd, tt, h11⟩ := h10.splitEnd (i := 0) rfl hd tt p3 o3 okk1 fa y1 hF hsum g n5 he
      clear hS hF hsum g n5 he h10 s3
      generalize cleanN es5 k1 = b1 at hd tt
      have hS := hd.stAtC h11 (h11.get (i := 0) rfl)
      refine ⟨_, rfl, y, dy, _, rfl, hS.obj, stF_no ⟨by decide, by decide, by decide⟩, y, dy, A3, B3, e5, ys3, es5, d5, b1, 1, rfl, hS, tt.st, h11.tab, by decide, (tt.drainTo p3 o3 okk2 fb y2).1, fun e6 H12 c6 hF hsum g n6 he => ?_⟩
      obtain ⟨G4, s4, hd, tt, h12⟩ := h11.undoEnd (i := 0) rfl hd tt p3 o3 okk2 fb y2 hF hsum g n6 he
      exact ⟨k2, _, e6, G4, _, rfl, hd, tt, wd.app (v1.app v2), by omega, h12⟩
    · clear h9 hd3 t3 C3
      rintro σ H10 ⟨cuts, c', C', G', s7, rfl, hd, tt, wd, sm, h10⟩
      have hS := hd.stAtC h10 (h10.get (i := 0) rfl)
      refine ⟨_, rfl, y, dy, _, rfl, hS.obj, stF_no ⟨by decide, by decide, by decide⟩, y, dy, A3, B3, C', ys3, es5, d5, c', rfl, hS, tt.st, fun q1 H11 g11 n11 hq1 => ?_⟩
      have h11 := h10.gr g11
      refine ⟨_, rfl, _, rfl, _, rfl, a, b, xs, es, d, _, rfl, h11.g0.ext_seq ha, CatAt.gr h11.g0 hc, h11.g0.at hb .dK, h11.tab, hv, so, r0, (fun es9 p9 o9 => by rw [uq es9 p9 o9]; exact r1), fun q2 H12 es9 p9 o9 g12 n12 hq2 => ?_⟩
      obtain rfl := uq es9 p9 o9
      refine ⟨q1, q2, _, _, rfl, rfl, g12.at hq1 .dK, hq2, ?_⟩
      have eb : eqNum (cleanN es5 c') (cleanN es9 (greedy (fs es9 (getD d)) (t.map (·.2)).sum)) = true := by
        rw [← sm, tt.isBal p9 o9, sm, cl wd (Nat.le_refl _)]
        exact decide_eq_true (by omega)
      rw [if_neg (by decide), eb]
      exact k _ (h11.gr g12).g0
end
end Sk
namespace Sk
open PySem PySem.Spec PyProof.Rows L2
theorem amt_noname {ps : List Str} {x : Str} (h : x ∉ ps) : amt (ones ps) x = 0 := amt_zero fun q hq => by
  unfold ones at hq
  obtain ⟨y, hy, rfl⟩ := List.mem_map.mp hq
  exact fun z => h (z ▸ hy)
theorem pn_same {es : List Ent} {st t t' : Num} {x : Str} (h : ∀ y ∈ es, getD t' y.name = getD t y.name ∨ x ∉ y.parts) : pn es st t' x = pn es st t x := by
  rw [pn_at, pn_at, amt_incs', amt_incs']
  congr 2
  refine List.map_congr_left fun y hy => ?_
  rcases h y hy with z | z
  · rw [z]
  · rw [amt_noname z, Int.mul_zero, Int.mul_zero]
theorem most_same {es : List Ent} {st t t' : Num} {e : Ent} (h : ∀ y ∈ es, getD t' y.name = getD t y.name ∨ e.name ∉ y.parts) : mostS es st t' e = mostS es st t e := by
  unfold mostS
  rw [pn_same h]
/-- what is known of the states of the first n kinds -/
structure StFit (es : List Ent) (st : Num) (n : Nat) (t : Num) : Prop where
  fit : ∀ (i : Nat) (e : Ent), i < n → es[i]? = some e → 0 ≤ getD t e.name ∧ getD t e.name ≤ mostS es st t e
  out : ∀ (i : Nat) (e : Ent), n ≤ i → es[i]? = some e → getD t e.name = 0
theorem states_fit {es : List Ent} {st : Num} (hv : Valid es) (ho : Ordered es) : ∀ n, n ≤ es.length → ∀ t ∈ statesS es st n, StFit es st n t
  | 0, _, t, h => by
    unfold statesS at h
    rw [List.take_zero] at h
    rw [List.mem_singleton.mp h]
    exact ⟨fun i e hi => absurd hi (Nat.not_lt_zero _), fun i e _ he => getD_numOf (List.mem_map.mpr ⟨e, List.mem_of_getElem? he, rfl⟩)⟩
  | n + 1, hn, t, h => by
    have hlt : n < es.length := by omega
    have he : es[n]? = some es[n] := List.getElem?_eq_getElem hlt
    rw [statesS_succ he] at h
    obtain ⟨u, hu, hk⟩ := List.mem_flatMap.mp h
    obtain ⟨k, hr0, rfl⟩ := List.mem_map.mp hk
    have ih := states_fit hv ho n (by omega) u hu
    have hr := List.mem_range.mp hr0
    have nd := hv.nodup
    have keep : ∀ (i : Nat) (e : Ent), i ≤ n → es[i]? = some e → mostS es st (put u es[n].name (k : Int)) e = mostS es st u e := fun i e hi hie => most_same fun y hy => by
      by_cases z : y.name = es[n].name
      · refine .inr fun hm => ?_
        have ey : y = es[n] := same_name nd hy (List.getElem_mem _) z
        rw [ey] at hm
        obtain ⟨m, x, h1, h2, h3⟩ := parts_behind (hv.behind ho) he e.name hm
        have := name_ix nd h2 hie h3
        omega
      · exact .inl (by rw [getD_put, if_neg z])
    refine ⟨fun i e hi hie => ?_, fun i e hi hie => ?_⟩
    · rw [keep i e (by omega) hie, getD_put]
      by_cases z : e.name = es[n].name
      · rw [if_pos z]
        have ee : e = es[n] := same_name nd (List.mem_of_getElem? hie) (List.getElem_mem _) z
        rw [ee]
        omega
      · rw [if_neg z]
        refine ih.fit i e ?_ hie
        refine Decidable.byContradiction fun y => z ?_
        have : i = n := by omega
        subst this
        rw [he] at hie
        cases hie
        rfl
    · rw [getD_put, if_neg fun z => ?_]
      · exact ih.out i e (by omega) hie
      · have := name_ix nd hie he z
        omega
/-- the listed states are valid splits of the number -/
theorem states_ok {es : List Ent} {st : Num} (hv : Valid es) (ho : Ordered es) (hz : es.length < 64) {n : Int} {t : Num} (h : t ∈ withN es st n) : SplitsOk es st t ∧ (t.map (·.2)).sum = n := by
  unfold withN at h
  obtain ⟨u, hu, rfl⟩ := List.mem_map.mp h
  obtain ⟨hu, hs⟩ := List.mem_filter.mp hu
  have hs := of_decide_eq_true hs
  have f := states_fit hv ho es.length (Nat.le_refl _) u hu
  have su := statesS_st es st es.length u hu
  have nd := hv.nodup
  have ge : ∀ e ∈ es, getD (cleanN es u) e.name = getD u e.name := fun e he => getD_clean nd u he
  have hl := clean_len es u
  refine ⟨⟨clean_nodup nd, by omega, clean_known es u, fun e he => ?_⟩, ?_⟩
  · obtain ⟨i, hi⟩ := List.mem_iff_getElem?.mp he
    have := f.fit i e (List.getElem?_eq_some_iff.mp hi).1 hi
    rw [ge e he, pn_same (t := u) fun y hy => .inl (ge y hy)]
    exact this
  · rw [clean_sum, ← hs]
    exact sumE_getD nd (su.nodup nd) fun q hq => by
      obtain ⟨f0, rfl, _⟩ := su
      obtain ⟨e, he, rfl⟩ := List.mem_map.mp hq
      exact List.mem_map.mpr ⟨e, he, rfl⟩
end Sk
namespace Sk
open PySem PySem.Spec PyProof.Rows L2
theorem growS_len {es : List Ent} {st : Num} {e : Ent} {k : Nat} : ∀ {l : List Num}, (∀ t ∈ l, mostS es st t e ≤ k) → (growS es st l e).length ≤ l.length * (k + 1)
  | [], _ => by show 0 ≤ _; omega
  | t :: l, h => by
    have h1 := h t (List.mem_cons_self ..)
    have h2 := growS_len (l := l) fun u hu => h u (List.mem_cons_of_mem _ hu)
    have e1 : growS es st (t :: l) e = ((List.range (mostS es st t e + 1).toNat).map fun (k : Nat) => put t e.name (k : Int)) ++ growS es st l e := by
      unfold growS
      rw [List.flatMap_cons]
    rw [e1, List.length_append, List.length_map, List.length_range, List.length_cons, Nat.add_mul]
    have h3 : (mostS es st t e + 1).toNat ≤ k + 1 := by omega
    omega
theorem two_pow (k : Nat) : k + 1 ≤ 2 ^ k := by
  induction k with
  | zero => decide
  | succ k ih =>
    rw [Nat.pow_succ]
    omega
theorem fs_least {es : List Ent} {st : Num} (hv : Valid es) (ho : Ordered es) (so : StockOk es st) (x : Str) : 0 ≤ getD (fs es (getD st)) x := getD_nonneg (fs_nonneg (hv.behind ho) hv.nodup fun y => getD_nonneg so.pos y) x
theorem most_le {es : List Ent} {st t : Num} {e : Ent} (hv : Valid es) (ho : Ordered es) (h : ∀ x, getD t x ≤ getD (fs es (getD st)) x) (he : e ∈ es) : mostS es st t e ≤ getD (fs es (getD st)) e.name := by
  unfold mostS
  rw [fs_val (hv.behind ho) hv.nodup he]
  by_cases q : e.parts = []
  · rw [if_pos q, if_pos q]
    exact Int.le_refl _
  · rw [if_neg q, if_neg q, ← pn_full (hv.behind ho) hv.nodup he]
    exact pn_mono h _
/-- each state is below the full splits -/
theorem states_below {es : List Ent} {st : Num} (hv : Valid es) (ho : Ordered es) (so : StockOk es st) : ∀ n, ∀ t ∈ statesS es st n, ∀ x, getD t x ≤ getD (fs es (getD st)) x
  | 0, t, h => fun x => by
    unfold statesS at h
    rw [List.take_zero] at h
    rw [List.mem_singleton.mp h]
    have h0 : getD (numOf es fun _ => 0) x = 0 := by
      by_cases hx : x ∈ es.map (·.name)
      · exact getD_numOf hx
      · exact getD_none (by rw [numOf_names]; exact hx)
    rw [h0]
    exact fs_least hv ho so x
  | n + 1, t, h => fun x => by
    cases q : es[n]? with
    | none =>
      have l1 := List.getElem?_eq_none_iff.mp q
      have e1 : statesS es st (n + 1) = statesS es st n := by
        unfold statesS
        rw [List.take_of_length_le (by omega), List.take_of_length_le l1]
      rw [e1] at h
      exact states_below hv ho so n t h x
    | some e =>
      rw [statesS_succ q] at h
      obtain ⟨u, hu, hk⟩ := List.mem_flatMap.mp h
      obtain ⟨k, hr0, rfl⟩ := List.mem_map.mp hk
      have ih := states_below hv ho so n u hu
      rw [getD_put]
      by_cases c : x = e.name
      · rw [if_pos c, c]
        have hr := List.mem_range.mp hr0
        have hm := most_le hv ho ih (List.mem_of_getElem? q)
        omega
      · rw [if_neg c]
        exact ih x
theorem states_len {es : List Ent} {st : Num} (hv : Valid es) (ho : Ordered es) (so : StockOk es st) : ∀ n, (statesS es st n).length ≤ 2 ^ (((es.take n).map fun e => (getD (fs es (getD st)) e.name).toNat).sum)
  | 0 => by
    unfold statesS
    rw [List.take_zero]
    exact Nat.le_refl 1
  | n + 1 => by
    have ih := states_len hv ho so n
    cases q : es[n]? with
    | none =>
      have l1 := List.getElem?_eq_none_iff.mp q
      have e1 : statesS es st (n + 1) = statesS es st n := by
        unfold statesS
        rw [List.take_of_length_le (by omega), List.take_of_length_le l1]
      rw [e1]
      rw [List.take_of_length_le (show es.length ≤ n + 1 by omega)]
      rw [List.take_of_length_le l1] at ih
      exact ih
    | some e =>
      rw [statesS_succ q]
      have bel := states_below hv ho so n
      have h1 := growS_len (es := es) (st := st) (e := e) (k := (getD (fs es (getD st)) e.name).toNat) (l := statesS es st n) fun t ht => by
        have := most_le hv ho (bel t ht) (List.mem_of_getElem? q)
        omega
      rw [take_snoc q, List.map_append, List.sum_append]
      show _ ≤ 2 ^ (_ + ((getD (fs es (getD st)) e.name).toNat + 0))
      rw [Nat.pow_add, Nat.add_zero]
      have h2 := two_pow (getD (fs es (getD st)) e.name).toNat
      exact Nat.le_trans h1 (Nat.mul_le_mul ih h2)
theorem toNat_sum : ∀ {l : List Ent} {f : Str → Int}, (∀ e ∈ l, 0 ≤ f e.name) → ((l.map fun e => (f e.name).toNat).sum : Int) = sumE l f
  | [], _, _ => rfl
  | e :: l, f, h => by
    have h1 := toNat_sum (l := l) (f := f) fun x hx => h x (List.mem_cons_of_mem _ hx)
    have h0 := h e (List.mem_cons_self ..)
    rw [List.map_cons, List.sum_cons, sumE_cons, ← h1]
    omega
/-- a small total: few states -/
theorem few_of {es : List Ent} {st : Num} (hv : Valid es) (so : StockOk es st) (ht : ∀ es', es'.Perm es → Ordered es' → totS es' st ≤ 16) : FewS es st := fun es' hp ho n => by
  have hv' := hv.perm hp
  have so' : StockOk es' st := ⟨so.nd, so.few, fun q hq => (hp.map _).mem_iff.mpr (so.known q hq), so.pos⟩
  have h0 : ∀ x, 0 ≤ getD (fs es' (getD st)) x := fs_least hv' ho so'
  have h1 := states_len hv' ho so' n
  have h2 := toNat_sum (l := es'.take n) (f := getD (fs es' (getD st))) fun e _ => h0 _
  have h3 : sumE (es'.take n) (getD (fs es' (getD st))) ≤ sumE es' (getD (fs es' (getD st))) := by
    have e1 : sumE es' (getD (fs es' (getD st))) = sumE (es'.take n) (getD (fs es' (getD st))) + sumE (es'.drop n) (getD (fs es' (getD st))) := by
      rw [← sumE_app, List.take_append_drop]
    have := sumE_nonneg (es := es'.drop n) (g := getD (fs es' (getD st))) fun x _ => h0 x.name
    omega
  have h4 : sumE es' (getD (fs es' (getD st))) = totS es' st := sumE_getD hv'.nodup (fs_nodup _ hv'.nodup) fun q hq => fs_names es' _ _ (List.mem_map.mpr ⟨q, hq, rfl⟩)
  have h5 := ht es' hp ho
  have h6 : ((es'.take n).map fun e => (getD (fs es' (getD st)) e.name).toNat).sum ≤ 16 := by omega
  have h7 := Nat.pow_le_pow_right (show 0 < 2 by decide) h6
  have h8 : (2 : Nat) ^ 16 ≤ 100000 := by decide
  omega
end Sk
namespace Sk
open PySem PySem.Spec PyProof.Rows L2
abbrev s_law : Stmt := topS 50
abbrev N_law : List Str := ["script", "bag", "turn", "pool", "supply", "total", "number", "best", "weight", "taken"]
theorem sc_law : FnScope N_law ["script"] (defScope s_law) := ⟨rfl, rfl, rfl, by decide +kernel, rfl, by decide +kernel, by decide +kernel⟩
def sp_law (Tb : List (Addr × Str)) (K : PySem.W.Frag) : Sp := fun vs H Q _ => ∃ (a : Addr) (ns : List Int), vs = [.ref a] ∧ SqL K H a (ns.map V.int) ∧ ns.length ≤ 63 ∧ LamX.Tabs Tb H ∧ ∀ H', Q (.bl true) H'
theorem sq_fz {K : PySem.W.Frag} {H : Hp} {a : Addr} {xs : List V} (h : SqL K H a xs) : ∃ G, Fz G H ∧ SqL K G a xs := by
  rcases h with (z | ⟨o, z⟩) | z
  · exact ⟨upd (fun _ => none) a (.lst xs), Fz.emp.add z .lst, .inl (.inl upd_same)⟩
  · exact ⟨upd (fun _ => none) a (.frz o (.lst xs)), Fz.emp.add z .frz, .inl (.inr ⟨o, upd_same⟩)⟩
  · exact ⟨_, Fz.emp, .inr z⟩
theorem or_top {K : PySem.W.Frag} {σ : L2.St} {H : Hp} {Q : VK} {i : Nat} {o : Option Int} (h : σ[i]? = some (some (optV o))) (hp : ∀ w, o = some w → 1 ≤ w) (k : Q (.int (optI o)) H) : tOrT K (tVar i) (tC (.int 0)) σ H Q := by
  cases o with
  | none => exact ⟨_, h, false, rfl, k⟩
  | some w =>
    refine ⟨_, h, true, ?_, k⟩
    have := hp w rfl
    show true = (w != 0)
    exact (bne_iff_ne.mpr (by omega)).symm
theorem top_pos {es es' : List Ent} (hv : Valid es) (hp : es'.Perm es) {b : Str → Int} : ∀ w, topE es' b = some w → 1 ≤ w := fun w h => by
  unfold topE at h
  cases q : es'.find? (fun e => decide (0 < b e.name)) with
  | none => rw [q] at h; cases h
  | some e =>
    rw [q] at h
    cases h
    exact hv.pos e (hp.mem_iff.mp (List.mem_of_find?_eq_some q))
theorem whole_perm {es es' : List Ent} (hp : es'.Perm es) (d c : Num) : wholeF es (getD d) (getD c) = wholeF es' (getD d) (getD c) := by
  funext x
  rw [wholeF_pn, wholeF_pn, pn_perm hp]
theorem SplitsOk.permE {es es' : List Ent} {d c : Num} (hp : es'.Perm es) (ok : SplitsOk es' d c) : SplitsOk es d c :=
  ⟨ok.nd, ok.few, fun q hq => (hp.map _).mem_iff.mp (ok.known q hq), fun e he => by
    have := ok.fits e (hp.mem_iff.mpr he)
    rw [pn_perm hp] at this
    exact this⟩
section
variable {P : Program} {w : World} {K : PySem.W.Frag} {mg : Str → Option Value} {base : Heap} {Tb : List (Addr × Str)}
theorem ok_law {f : Addr} {fd : FuncData} (F : FnP K "law" s_law f fd) (T : Tx K mg) (G_law_bag : Fn P w K mg base "_law_bag" 1 ["script"] (sp_law_bag Tb K)) (G_law_catalogue : Fn P w K mg base "_law_catalogue" 2 ["bag", "most"] (sp_law_catalogue Tb K)) (G_law_heaviest : Fn P w K mg base "_law_heaviest" 2 ["pool", "supply", "taken"] (sp_law_heaviest Tb K)) (G_law_pair_right : Fn P w K mg base "_law_pair_right" 9 ["pool", "supply", "taken", "number", "total"] (sp_law_pair_right Tb K)) (G_law_small_supply : Fn P w K mg base "_law_small_supply" 3 ["bag", "pool", "most"] (sp_law_small_supply Tb K)) (G_law_total : Fn P w K mg base "_law_total" 2 ["pool", "supply"] (sp_law_total Tb K)) (G_balanced : Fn P w K mg base "balanced" 6 ["catalogue", "stock", "number"] (sp_balanced Tb K)) (G_displacement : Fn P w K mg base "displacement" 6 ["catalogue", "stock", "splits"] (sp_displacement Tb K)) (G_heaviest : Fn P w K mg base "heaviest" 6 ["catalogue", "stock", "number"] (sp_heaviest Tb K)) (G_states : Fn P w K mg base "states" 5 ["catalogue", "stock", "number"] (sp_states Tb K)) : FnG P w K mg base 10 f fd ["script"] (sp_law Tb K) := by
  refine fnG_of F sc_law (fun vs H Q E h => ?_) (fun cdv A outer s H vs Q E hgd hr h => ?_)
  · obtain ⟨_, _, rfl, _⟩ := h
    rfl
  · obtain ⟨a, ns, rfl, ha, hz, ht, k⟩ := h
    refine ⟨_, PSs.nox (pss_cons (ps_set (i := 1) sc_law.nd rfl (Or.inl rfl) (pe_fn G_law_bag (hr.mono (by decide)) (pa_cons (pv 0) pa_nil)))
      (pss_cons (ps_for PassesOwn.never rfl (pi_range1 (by rfl) T.n_range (pa_cons (pe_op op_add pe_int (pe_callB (call_min2 rfl) (by rfl) T.n_min (by decide +kernel) (pa_cons pe_int (pa_cons (pe_callB (lenS (K := K) rfl) (by rfl) T.n_len (by decide +kernel) (pa_cons (pv 0) pa_nil)) pa_nil)))) pa_nil)) (pg_name (i := 2) sc_law.nd rfl (Or.inl rfl)) (pss_cons (ps_set (i := 3) sc_law.nd rfl (Or.inl rfl) (pe_fn G_law_catalogue (hr.mono (by decide)) (pa_cons (pv 1) (pa_cons pe_int pa_nil))))
        (pss_cons (ps_set (i := 4) sc_law.nd rfl (Or.inl rfl) (pe_fn G_law_small_supply (hr.mono (by decide)) (pa_cons (pv 1) (pa_cons (pv 3) (pa_cons pe_int pa_nil)))))
        (pss_cons (ps_set (i := 5) sc_law.nd rfl (Or.inl rfl) (pe_fn G_law_total (hr.mono (by decide)) (pa_cons (pv 3) (pa_cons (pv 4) pa_nil))))
        (pss_one (ps_for PassesOwn.never rfl (pi_range1 (by rfl) T.n_range (pa_cons (pe_op op_add (pv 5) pe_int) pa_nil)) (pg_name (i := 6) sc_law.nd rfl (Or.inl rfl)) (pss_cons (ps_set (i := 7) sc_law.nd rfl (Or.inl rfl) (pe_fn G_balanced (hr.mono (by decide)) (pa_cons (pv 3) (pa_cons (pv 4) (pa_cons (pv 6) pa_nil)))))
          (pss_cons (ps_set (i := 8) sc_law.nd rfl (Or.inl rfl) (pe_fn G_heaviest (hr.mono (by decide)) (pa_cons (pv 3) (pa_cons (pv 4) (pa_cons (pv 6) pa_nil)))))
          (pss_cons (ps_if (PW.pt (pw_or (pt_cmpR op_ne (peOrT (K := K) rfl (pv 8) (pe_one pe_int)) (pe_fn G_law_heaviest (hr.mono (by decide)) (pa_cons (pv 3) (pa_cons (pv 4) (pa_cons (pv 7) pa_nil)))) (nomark _)) (pw_or1 (pt_cmpR op_ne (pe_fn G_displacement (hr.mono (by decide)) (pa_cons (pv 3) (pa_cons (pv 4) (pa_cons (pv 7) pa_nil)))) pe_int (nomark _))))) (pss_one (ps_ret pe_bl)) pss_nil)
          (pss_one (ps_for PassesOwn.never rfl (piL (K := K) rfl (pe_fn G_states (hr.mono (by decide)) (pa_cons (pv 3) (pa_cons (pv 4) (pa_cons (pv 6) pa_nil))))) (pg_name (i := 9) sc_law.nd rfl (Or.inl rfl)) (pss_cons (ps_if (pt_cmpR op_lt (pe_fn G_law_heaviest (hr.mono (by decide)) (pa_cons (pv 3) (pa_cons (pv 4) (pa_cons (pv 9) pa_nil)))) (peOrT (K := K) rfl (pv 8) (pe_one pe_int)) (nomark _)) (pss_one (ps_ret pe_bl)) pss_nil)
            (pss_one (ps_if (pt_not (pt_val (pe_fn G_law_pair_right (hr.mono (by decide)) (pa_cons (pv 3) (pa_cons (pv 4) (pa_cons (pv 9) (pa_cons (pv 6) (pa_cons (pv 5) pa_nil)))))))) (pss_one (ps_ret pe_bl)) pss_nil))))))))))))))
      (pss_one (ps_ret pe_bl)))), ?_⟩
    obtain ⟨G, hf, hg⟩ := sq_fz ha
    refine ⟨_, rfl, a, ns, G, rfl, ha, hz, hf, ht, fun p H1 h1 g1 => ?_⟩
    refine ⟨_, rfl, a, _, rfl, .inl (h1.fz.sub.seq hg), _, _, rfl, _, _, rfl, rfl, _, rfl, ?_, ?_, for_range (lo := 0) (n := (1 + if ((ns.map V.int).length : Int) < 2 then ((ns.map V.int).length : Int) else 2).toNat)
      (fun i σ H' => ∃ s2 s3 s4 s5 s6 s7 s8 s9 : Option V, σ = [some (.ref a), some (.ref p), s2, s3, s4, s5, s6, s7, s8, s9] ∧ Hb Tb p (10000 * i) [] G H') ⟨none, none, none, none, none, none, none, none, rfl, h1⟩ ?_ (fun σ H' _ => k H')⟩
    · split <;> omega
    · split <;> omega
    rintro i σ H2 hi ⟨s2, s3, s4, s5, s6, s7, s8, s9, rfl, h2⟩
    have hi9 : i ≤ 9 := by split at hi <;> omega
    clear hi
    refine goN ?_
    dsimp only
    refine ⟨_, rfl, p, _, [], G, 6, rfl, h2, by omega, by decide, by decide, fun r0 H4 G1 ys0 es s1 hc1 hmd hel h6 => ?_⟩
    have hv := hmd.v
    have hfew := hmd.few
    have hz64 : es.length < 64 := by omega
    have hc2 : CatAt (upd G1 r0 (.lst ys0)) ys0 es := hc1.mono (Same.upd h6.cfree)
    have a2 : (upd G1 r0 (.lst ys0)) r0 = some (.lst ys0) := upd_same
    have sA : Same G (upd G1 r0 (.lst ys0)) := fun b u e => Same.upd h6.cfree b u (s1 b u e)
    have h7 := h6.freeze
    generalize upd G1 r0 (.lst ys0) = G2 at h7 a2 hc2 sA
    clear h6 h2 s1 hc1
    refine ⟨_, rfl, _, rfl, p, r0, 7, _, [], G2, ys0, es, rfl, h7, by omega, a2, hc2, hmd, by decide, fun b H5 d so dv dt h8 => ?_⟩
    have b3 : (upd G2 b (.dK (dS d))) b = some (.dK (dS d)) := upd_same
    have s3' : Same G2 (upd G2 b (.dK (dS d))) := Same.upd h8.cfree
    have a3 := s3' _ _ a2
    have hc3 := hc2.mono s3'
    have sB : Same G (upd G2 b (.dK (dS d))) := fun b u e => s3' b u (sA b u e)
    have h9 := h8.freeze
    generalize upd G2 b (.dK (dS d)) = G3 at h9 a3 hc3 b3 sB
    clear h8 h7 s3' hc2 a2 sA
    have fw : FewS es d := few_of hv so fun es' p' o' => Int.le_trans (dt es' p' o') (by decide)
    refine ⟨_, rfl, _, rfl, r0, b, ys0, es, d, rfl, SqL.of (h9.fzat a3), hc3.mono h9.fz.sub, h9.fzat b3, hv, fun H6 es' hp ho g6 => ?_⟩
    have h10 := (h9.gr g6).mono (show _ ≤ 10000 * i + 9000 by omega)
    clear h9 g6
    have S : Sit es es' d := ⟨hv, hp, ho, so, hz64⟩
    have uq : ∀ es3 : List Ent, es3.Perm es → Ordered es3 → es3 = es' := fun es3 p3 o3 => ordered_unique (p3.trans hp.symm) o3 ho (hv.perm p3).nodup
    have t16 : totI es' d ≤ 16 := Int.le_trans (dt es' hp ho) (by decide)
    obtain ⟨T0, hT0⟩ : ∃ T0, T0 = totI es' d := ⟨_, rfl⟩
    have t0 : 0 ≤ T0 := by
      rw [hT0, ← S.tot]
      have n1 := S.range (nil_ok so)
      have := n1.1
      have := n1.2
      rw [S.tot]
      omega
    rw [show totS es' d = T0 from hT0.symm]
    rw [← hT0] at t16
    refine goN ?_
    dsimp only
    refine ⟨_, rfl, _, _, rfl, rfl, _, rfl, by omega, by omega, for_range (lo := 0) (n := (T0 + 1).toNat) (fun j σ H' => ∃ s6 s7 s8 s9 : Option V, σ = [some (.ref a), some (.ref p), some (.int (0 + (i : Int))), some (.ref r0), some (.ref b), some (.int T0), s6, s7, s8, s9] ∧ Hb Tb p (10000 * i + 9000) [] G3 H')
      ⟨_, _, _, _, rfl, h10⟩ ?_ ?_⟩
    rotate_left
    · rintro σ H7 ⟨s6, s7, s8, s9, rfl, h11⟩
      exact ⟨_, _, _, _, _, _, _, _, rfl, (h11.less sB).mono (by omega)⟩
    clear h10
    rintro j σ H7 hj ⟨s6, s7, s8, s9, rfl, h11⟩
    obtain ⟨nn, hnn⟩ : ∃ nn : Int, nn = 0 + (j : Int) := ⟨_, rfl⟩
    have n0 : 0 ≤ nn := by omega
    have n1 : nn ≤ T0 := by omega
    rw [← hnn]
    refine goN ?_
    dsimp only
    refine ⟨_, rfl, _, rfl, _, rfl, r0, b, ys0, es, d, nn, rfl, SqL.of (h11.fzat a3), hc3.mono h11.fz.sub, h11.fzat b3, h11.tab, hv, so, n0, (fun es9 p9 o9 => by rw [uq es9 p9 o9]; rw [hT0] at n1; exact n1), fun r H8 es9 p9 o9 g8 nr hr => ?_⟩
    obtain rfl := uq es9 p9 o9
    have h12 := h11.gr g8
    clear h11 g8 nr
    rw [hT0] at n1
    obtain ⟨okB, ov0⟩ := S.dueOk n0 n1
    have gB : getD (cleanN es9 (greedy (fs es9 (getD d)) nn)) = getD (greedy (fs es9 (getD d)) nn) := ((balanced_ok hv hp ho so hz64 n0).clean hv hp hz64).2
    generalize cleanN es9 (greedy (fs es9 (getD d)) nn) = B at hr okB ov0 gB
    refine goN ?_
    dsimp only
    refine ⟨_, rfl, _, rfl, _, rfl, r0, b, ys0, es, d, nn, rfl, SqL.of (h12.fzat a3), hc3.mono h12.fz.sub, h12.fzat b3, h12.tab, hv, so, n0, (fun es8 p8 o8 => by rw [uq es8 p8 o8]; exact n1), fun H9 es8 p8 o8 g9 => ?_⟩
    obtain rfl := uq es8 p8 o8
    have h13 := h12.gr g9
    have hr9 := g9.at hr .dK
    clear h12 g9 hr
    have tp : ∀ w, topE es8 (wholeF es8 (getD d) (getD (greedy (fs es8 (getD d)) nn))) = some w → 1 ≤ w := top_pos hv hp
    have best := fun {c : Num} (ok : SplitsOk es d c) (hn : (c.map (·.2)).sum = nn) => S.best ok hn n0 n1
    have eT : hvy es (wholeF es (getD d) (getD B)) = optI (topE es8 (wholeF es8 (getD d) (getD (greedy (fs es8 (getD d)) nn)))) := by
      rw [hvy_top hv hp ho, whole_perm hp, gB]
    generalize topE es8 (wholeF es8 (getD d) (getD (greedy (fs es8 (getD d)) nn))) = W at tp best eT
    have eI : ∀ i j : Int, decide (V.int i = V.int j) = decide (i = j) := fun i j => decide_eq_decide.mpr ⟨V.int.inj, fun z => by rw [z]⟩
    refine goN ?_
    dsimp only
    refine sq_st (fun σ H' => σ = [some (.ref a), some (.ref p), some (.int (0 + (i : Int))), some (.ref r0), some (.ref b), some (.int T0), some (.int nn), some (.ref r), some (optV W), s9] ∧ Hb Tb p (10000 * i + 9000) [] G3 H') (fun N hN => ?_) ?_
    · refine or_top rfl tp ?_
      refine ⟨_, rfl, _, rfl, _, rfl, r0, b, r, ys0, es, d, B, rfl, SqL.of (h13.fzat a3), hc3.mono h13.fz.sub, h13.fzat b3, hr9, hv, fun H10 g10 => ?_⟩
      rw [eT]
      have h14 := h13.gr g10
      refine ⟨rfl, _, rfl, iteFb (by rw [eI, decide_eq_true rfl]; rfl) ?_⟩
      refine ⟨_, rfl, _, rfl, _, rfl, r0, b, r, ys0, es, d, B, rfl, SqL.of (h14.fzat a3), hc3.mono h14.fz.sub, h14.fzat b3, g10.at hr9 .dK, h14.tab, hv, so, okB, fun H11 es7 p7 o7 g11 => ?_⟩
      obtain rfl := uq es7 p7 o7
      rw [ov0]
      exact ⟨rfl, _, rfl, iteFb (by decide) (hN _ _ ⟨rfl, h14.gr g11⟩)⟩
    clear h13 hr9 eT
    rintro σ H10 ⟨rfl, h14⟩
    refine ⟨_, rfl, _, rfl, _, rfl, r0, b, nn, ys0, es, d, rfl, SqL.of (h14.fzat a3), hc3.mono h14.fz.sub, h14.fzat b3, h14.tab, hv, so, fw, n0, fun L H11 es7 ys p7 o7 g11 nL hL hys => ?_⟩
    obtain rfl := uq es7 p7 o7
    have h15 := h14.gr g11
    clear h14 g11 nL
    refine ⟨L, rfl, ⟨_, SqL.of hL⟩, for_list (K := K) (a := L) (xs := ys) (fun m σ H' => ∃ s9 : Option V, σ = [some (.ref a), some (.ref p), some (.int (0 + (i : Int))), some (.ref r0), some (.ref b), some (.int T0), some (.int nn), some (.ref r), some (optV W), s9] ∧ Gr Tb H11 H')
      ⟨_, rfl, Gr.refl _⟩ (fun m σ H' _ ⟨_, _, g⟩ => SqL.of (g.at hL .lst)) ?_ (fun σ H' ⟨s9, e, g⟩ => ⟨_, _, _, _, e, h15.gr g⟩)⟩
    rintro m v σ H12 hm ⟨s9, rfl, g12⟩
    obtain ⟨t, htm, x, rfl, nx, hx⟩ := Paired.at hys hm
    obtain ⟨okt', st⟩ := states_ok (hv.perm hp) ho (by rw [hp.length_eq]; exact hz64) (List.mem_of_getElem? htm)
    have okt := okt'.permE hp
    have h16 := h15.gr g12
    have hx12 := g12.at hx .dK
    refine goN ?_
    dsimp only
    refine ⟨_, rfl, _, rfl, _, rfl, r0, b, x, ys0, es, d, t, rfl, SqL.of (h16.fzat a3), hc3.mono h16.fz.sub, h16.fzat b3, hx12, hv, fun H13 g13 => ?_⟩
    have h17 := h16.gr g13
    refine or_top rfl tp ⟨_, _, rfl, rfl, _, rfl, iteFb (decide_eq_false (by have := best okt st; omega)) ?_⟩
    refine ⟨_, rfl, _, rfl, _, rfl, _, rfl, _, rfl, r0, b, x, T0, ys0, es, es7, d, t, by rw [st]; rfl, SqL.of (h17.fzat a3), hc3.mono h17.fz.sub, h17.fzat b3, g13.at hx12 .dK, h17.tab, hmd, hp, ho, so, okt, hT0, t16, fun H14 g14 => ⟨_, rfl, iteFb (by decide) ?_⟩⟩
    exact ⟨_, rfl, (g12.trans g13).trans g14⟩
end
end Sk
set_option maxHeartbeats 0
namespace Sk
open PySem PySem.Spec PyProof.Rows L2
def dfD (i : Nat) (x : Str) : He.DefD := ⟨(x, none), x, x, defArgs (topS i), defBody (topS i), defScope (topS i), [], []⟩
def dfM (i j : Nat) (m q : Str) (ds : List He.Dv) : He.DefD := ⟨("Store", some m), m, q, defArgs (inClass (topS i) j), defBody (inClass (topS i) j), defScope (inClass (topS i) j), ds, []⟩
def hfn : List He.DefD := [dfD 11 "is_name", dfD 12 "is_entry", dfD 13 "check_catalogue", dfD 14 "ordered", dfD 15 "clean", dfD 16 "piece_numbers", dfD 17 "full_splits", dfD 18 "check_stock", dfD 19 "check_splits", dfD 20 "total_splits", dfD 22 "first_splits", dfD 23 "checked_splits", dfD 24 "balanced", dfD 25 "displacement", dfD 26 "heaviest", dfD 28 "all_states", dfD 29 "states", dfD 33 "splits_after", dfD 34 "splits_before", dfM 35 0 "__init__" "Store.__init__" [.non], dfM 35 2 "splits" "Store.splits" [], dfM 35 5 "number" "Store.number" [], dfM 35 8 "possible_steps" "Store.possible_steps" [], dfM 35 9 "take_steps" "Store.take_steps" [], dfM 35 10 "try_steps" "Store.try_steps" [], dfM 35 11 "split" "Store.split" [.int 1], dfM 35 12 "undo" "Store.undo" [.int 1], dfD 37 "_law_bag", dfD 38 "_law_draw", dfD 39 "_law_catalogue", dfD 40 "_law_order", dfD 41 "_law_pieces", dfD 43 "_law_total", dfD 44 "_law_small_supply", dfD 48 "_law_heaviest", dfD 49 "_law_pair_right", dfD 50 "law"]
def hfa : List He.Fa := [.glo "is_name", .glo "is_entry", .glo "check_catalogue", .glo "ordered", .glo "clean", .glo "piece_numbers", .glo "full_splits", .glo "check_stock", .glo "check_splits", .glo "total_splits", .glo "first_splits", .glo "checked_splits", .glo "balanced", .glo "displacement", .glo "heaviest", .glo "all_states", .glo "states", .glo "splits_after", .glo "splits_before", .glo "_law_bag", .glo "_law_draw", .glo "_law_catalogue", .glo "_law_order", .glo "_law_pieces", .glo "_law_total", .glo "_law_small_supply", .glo "_law_heaviest", .glo "_law_pair_right", .glo "law", .free "ValueError", .free "abs", .free "all", .free "any", .free "bool", .free "dict", .free "enumerate", .free "int", .free "isinstance", .free "len", .free "list", .free "max", .free "min", .free "range", .free "repr", .free "reversed", .free "set", .free "sorted", .free "str", .free "sum", .free "tuple", .free "type", .free "zip", .str "LETTERS" "abcdefghijklmnopqrstuvwxyz", .int "MOST_LETTERS" 8, .str "SPLIT" "split", .str "UNDO" "undo", .glo "Store", .cls "Store", .noat "Store" "entries", .noat "Store" "stock_numbers", .noat "Store" "split_numbers", .mkr "Store", .meth "Store" "splits", .meth "Store" "number", .meth "Store" "possible_steps", .meth "Store" "take_steps", .meth "Store" "try_steps", .meth "Store" "split", .meth "Store" "undo"]
def htf : List He.Defn := [("ordered", none)]
abbrev hR : PySem.W.OpenRow := PySem.W.OpenLaw.row PySem.Challenge.rw_splitstock_k60_whole_all_small_states
def hEx (K : PySem.W.Frag) : Bool := true
abbrev hHk : PySem.W.Hook := He.hookX 4 hfa hfn [] htf hEx
def hOb (s : PySem.W.SharedT) : He.AlX := He.obsX 4 hfa hfn [] htf hEx (HandSHeadRun.getT s)
theorem hOb_eq (s : PySem.W.SharedT) : hOb s = hHk.obs s.abs := He.obsX_eq (HandSHeadRun.getT_eq s)
def hLoose : List Str := ("_wall" : Str) :: ("StoreError" : Str) :: ("InvalidCatalogue" : Str) :: ("InvalidStock" : Str) :: ("InvalidSplits" : Str) :: ("InvalidNumber" : Str) :: ("TooManySteps" : Str) :: ("LETTERS" : Str) :: ("MOST_LETTERS" : Str) :: ("is_name" : Str) :: ("is_entry" : Str) :: ("check_catalogue" : Str) :: ("ordered" : Str) :: ("clean" : Str) :: ("piece_numbers" : Str) :: ("full_splits" : Str) :: ("check_stock" : Str) :: ("check_splits" : Str) :: ("total_splits" : Str) :: ("first_splits" : Str) :: ("checked_splits" : Str) :: ("balanced" : Str) :: ("displacement" : Str) :: ("heaviest" : Str) :: ("all_states" : Str) :: ("states" : Str) :: ("SPLIT" : Str) :: ("UNDO" : Str) :: ("splits_after" : Str) :: ("splits_before" : Str) :: ("Store" : Str) :: ("_law_bag" : Str) :: ("_law_draw" : Str) :: ("_law_catalogue" : Str) :: ("_law_order" : Str) :: ("_law_pieces" : Str) :: ("_law_is_valid" : Str) :: ("_law_total" : Str) :: ("_law_small_supply" : Str) :: ("_law_great_supply" : Str) :: ("_law_splits" : Str) :: ("_law_clean" : Str) :: ("_law_heaviest" : Str) :: ("_law_pair_right" : Str) :: []
theorem hRun (w : World) : HandSHeadRun.RunEq hR (PySem.W.view hR.prog [50]) hHk hOb 4000 hLoose w := by
  intro os
  kernel_rfl
theorem hFacts {w : World} {K : PySem.W.Frag} {h : Heap} {mg : Str → Option Value} {fa : Addr} (X : K.In h) (G : h.Ns mainGlobals mg) (hfa0 : mg ("law" : Str) = some (.ref fa)) (c : He.SaysX hfa hfn [] htf hEx w h K) : LawG PySem.Challenge.rw_splitstock_k60_whole_all_small_states w K 10 63 "script" mg fa h := by
  have d := c.t.d
  obtain ⟨fd_is_name, F_is_name⟩ := d.def_ 0 (d := dfD 11 "is_name") rfl
  have g_is_name := He.glo_ok X G (d.fact 0 (f := .glo "is_name") rfl)
  obtain ⟨fd_is_entry, F_is_entry⟩ := d.def_ 1 (d := dfD 12 "is_entry") rfl
  have g_is_entry := He.glo_ok X G (d.fact 1 (f := .glo "is_entry") rfl)
  obtain ⟨fd_check_catalogue, F_check_catalogue⟩ := d.def_ 2 (d := dfD 13 "check_catalogue") rfl
  have g_check_catalogue := He.glo_ok X G (d.fact 2 (f := .glo "check_catalogue") rfl)
  obtain ⟨fd_ordered, F_ordered⟩ := d.def_ 3 (d := dfD 14 "ordered") rfl
  have g_ordered := He.glo_ok X G (d.fact 3 (f := .glo "ordered") rfl)
  obtain ⟨fd_clean, F_clean⟩ := d.def_ 4 (d := dfD 15 "clean") rfl
  have g_clean := He.glo_ok X G (d.fact 4 (f := .glo "clean") rfl)
  obtain ⟨fd_piece_numbers, F_piece_numbers⟩ := d.def_ 5 (d := dfD 16 "piece_numbers") rfl
  have g_piece_numbers := He.glo_ok X G (d.fact 5 (f := .glo "piece_numbers") rfl)
  obtain ⟨fd_full_splits, F_full_splits⟩ := d.def_ 6 (d := dfD 17 "full_splits") rfl
  have g_full_splits := He.glo_ok X G (d.fact 6 (f := .glo "full_splits") rfl)
  obtain ⟨fd_check_stock, F_check_stock⟩ := d.def_ 7 (d := dfD 18 "check_stock") rfl
  have g_check_stock := He.glo_ok X G (d.fact 7 (f := .glo "check_stock") rfl)
  obtain ⟨fd_check_splits, F_check_splits⟩ := d.def_ 8 (d := dfD 19 "check_splits") rfl
  have g_check_splits := He.glo_ok X G (d.fact 8 (f := .glo "check_splits") rfl)
  obtain ⟨fd_total_splits, F_total_splits⟩ := d.def_ 9 (d := dfD 20 "total_splits") rfl
  have g_total_splits := He.glo_ok X G (d.fact 9 (f := .glo "total_splits") rfl)
  obtain ⟨fd_first_splits, F_first_splits⟩ := d.def_ 10 (d := dfD 22 "first_splits") rfl
  have g_first_splits := He.glo_ok X G (d.fact 10 (f := .glo "first_splits") rfl)
  obtain ⟨fd_checked_splits, F_checked_splits⟩ := d.def_ 11 (d := dfD 23 "checked_splits") rfl
  have g_checked_splits := He.glo_ok X G (d.fact 11 (f := .glo "checked_splits") rfl)
  obtain ⟨fd_balanced, F_balanced⟩ := d.def_ 12 (d := dfD 24 "balanced") rfl
  have g_balanced := He.glo_ok X G (d.fact 12 (f := .glo "balanced") rfl)
  obtain ⟨fd_displacement, F_displacement⟩ := d.def_ 13 (d := dfD 25 "displacement") rfl
  have g_displacement := He.glo_ok X G (d.fact 13 (f := .glo "displacement") rfl)
  obtain ⟨fd_heaviest, F_heaviest⟩ := d.def_ 14 (d := dfD 26 "heaviest") rfl
  have g_heaviest := He.glo_ok X G (d.fact 14 (f := .glo "heaviest") rfl)
  obtain ⟨fd_all_states, F_all_states⟩ := d.def_ 15 (d := dfD 28 "all_states") rfl
  have g_all_states := He.glo_ok X G (d.fact 15 (f := .glo "all_states") rfl)
  obtain ⟨fd_states, F_states⟩ := d.def_ 16 (d := dfD 29 "states") rfl
  have g_states := He.glo_ok X G (d.fact 16 (f := .glo "states") rfl)
  obtain ⟨fd_splits_after, F_splits_after⟩ := d.def_ 17 (d := dfD 33 "splits_after") rfl
  have g_splits_after := He.glo_ok X G (d.fact 17 (f := .glo "splits_after") rfl)
  obtain ⟨fd_splits_before, F_splits_before⟩ := d.def_ 18 (d := dfD 34 "splits_before") rfl
  have g_splits_before := He.glo_ok X G (d.fact 18 (f := .glo "splits_before") rfl)
  obtain ⟨fd_Store___init__, F_Store___init__⟩ := d.def_ 19 (d := dfM 35 0 "__init__" "Store.__init__" [.non]) rfl
  have FM_Store___init__ : FunD K "__init__" "Store.__init__" (defArgs s_Store___init__) (defBody s_Store___init__) (defScope s_Store___init__) [.non] [] (He.ma K (stC K) "__init__") fd_Store___init__ := F_Store___init__
  obtain ⟨fd_Store_splits, F_Store_splits⟩ := d.def_ 20 (d := dfM 35 2 "splits" "Store.splits" []) rfl
  have FM_Store_splits : FunD K "splits" "Store.splits" (defArgs s_Store_splits) (defBody s_Store_splits) (defScope s_Store_splits) [] [] (He.ma K (stC K) "splits") fd_Store_splits := F_Store_splits
  obtain ⟨fd_Store_number, F_Store_number⟩ := d.def_ 21 (d := dfM 35 5 "number" "Store.number" []) rfl
  have FM_Store_number : FunD K "number" "Store.number" (defArgs s_Store_number) (defBody s_Store_number) (defScope s_Store_number) [] [] (He.ma K (stC K) "number") fd_Store_number := F_Store_number
  obtain ⟨fd_Store_possible_steps, F_Store_possible_steps⟩ := d.def_ 22 (d := dfM 35 8 "possible_steps" "Store.possible_steps" []) rfl
  have FM_Store_possible_steps : FunD K "possible_steps" "Store.possible_steps" (defArgs s_Store_possible_steps) (defBody s_Store_possible_steps) (defScope s_Store_possible_steps) [] [] (He.ma K (stC K) "possible_steps") fd_Store_possible_steps := F_Store_possible_steps
  obtain ⟨fd_Store_take_steps, F_Store_take_steps⟩ := d.def_ 23 (d := dfM 35 9 "take_steps" "Store.take_steps" []) rfl
  have FM_Store_take_steps : FunD K "take_steps" "Store.take_steps" (defArgs s_Store_take_steps) (defBody s_Store_take_steps) (defScope s_Store_take_steps) [] [] (He.ma K (stC K) "take_steps") fd_Store_take_steps := F_Store_take_steps
  obtain ⟨fd_Store_try_steps, F_Store_try_steps⟩ := d.def_ 24 (d := dfM 35 10 "try_steps" "Store.try_steps" []) rfl
  have FM_Store_try_steps : FunD K "try_steps" "Store.try_steps" (defArgs s_Store_try_steps) (defBody s_Store_try_steps) (defScope s_Store_try_steps) [] [] (He.ma K (stC K) "try_steps") fd_Store_try_steps := F_Store_try_steps
  obtain ⟨fd_Store_split, F_Store_split⟩ := d.def_ 25 (d := dfM 35 11 "split" "Store.split" [.int 1]) rfl
  have FM_Store_split : FunD K "split" "Store.split" (defArgs s_Store_split) (defBody s_Store_split) (defScope s_Store_split) [.int 1] [] (He.ma K (stC K) "split") fd_Store_split := F_Store_split
  obtain ⟨fd_Store_undo, F_Store_undo⟩ := d.def_ 26 (d := dfM 35 12 "undo" "Store.undo" [.int 1]) rfl
  have FM_Store_undo : FunD K "undo" "Store.undo" (defArgs s_Store_undo) (defBody s_Store_undo) (defScope s_Store_undo) [.int 1] [] (He.ma K (stC K) "undo") fd_Store_undo := F_Store_undo
  obtain ⟨fd_law_bag, F_law_bag⟩ := d.def_ 27 (d := dfD 37 "_law_bag") rfl
  have g_law_bag := He.glo_ok X G (d.fact 19 (f := .glo "_law_bag") rfl)
  obtain ⟨fd_law_draw, F_law_draw⟩ := d.def_ 28 (d := dfD 38 "_law_draw") rfl
  have g_law_draw := He.glo_ok X G (d.fact 20 (f := .glo "_law_draw") rfl)
  obtain ⟨fd_law_catalogue, F_law_catalogue⟩ := d.def_ 29 (d := dfD 39 "_law_catalogue") rfl
  have g_law_catalogue := He.glo_ok X G (d.fact 21 (f := .glo "_law_catalogue") rfl)
  obtain ⟨fd_law_order, F_law_order⟩ := d.def_ 30 (d := dfD 40 "_law_order") rfl
  have g_law_order := He.glo_ok X G (d.fact 22 (f := .glo "_law_order") rfl)
  obtain ⟨fd_law_pieces, F_law_pieces⟩ := d.def_ 31 (d := dfD 41 "_law_pieces") rfl
  have g_law_pieces := He.glo_ok X G (d.fact 23 (f := .glo "_law_pieces") rfl)
  obtain ⟨fd_law_total, F_law_total⟩ := d.def_ 32 (d := dfD 43 "_law_total") rfl
  have g_law_total := He.glo_ok X G (d.fact 24 (f := .glo "_law_total") rfl)
  obtain ⟨fd_law_small_supply, F_law_small_supply⟩ := d.def_ 33 (d := dfD 44 "_law_small_supply") rfl
  have g_law_small_supply := He.glo_ok X G (d.fact 25 (f := .glo "_law_small_supply") rfl)
  obtain ⟨fd_law_heaviest, F_law_heaviest⟩ := d.def_ 34 (d := dfD 48 "_law_heaviest") rfl
  have g_law_heaviest := He.glo_ok X G (d.fact 26 (f := .glo "_law_heaviest") rfl)
  obtain ⟨fd_law_pair_right, F_law_pair_right⟩ := d.def_ 35 (d := dfD 49 "_law_pair_right") rfl
  have g_law_pair_right := He.glo_ok X G (d.fact 27 (f := .glo "_law_pair_right") rfl)
  obtain ⟨fd_law, F_law⟩ := d.def_ 36 (d := dfD 50 "law") rfl
  have g_law := He.glo_ok X G (d.fact 28 (f := .glo "law") rfl)
  have gStore := He.glo_ok X G (d.fact 56 (f := .glo "Store") rfl)
  have cStore : Cls K (stC K) := He.cls_ok (d.fact 57 (f := .cls "Store") rfl)
  have nE : NoAttr K (stC K) "entries" := He.noat_ok (d.fact 58 (f := .noat "Store" "entries") rfl)
  have nS : NoAttr K (stC K) "stock_numbers" := He.noat_ok (d.fact 59 (f := .noat "Store" "stock_numbers") rfl)
  have nP : NoAttr K (stC K) "split_numbers" := He.noat_ok (d.fact 60 (f := .noat "Store" "split_numbers") rfl)
  have mkStore : Mk K (stC K) (He.ma K (stC K) "__init__") := He.mkr_ok (d.fact 61 (f := .mkr "Store") rfl)
  have me_Store_splits : Meth K (stC K) "splits" (He.ma K (stC K) "splits") := He.meth_ok (d.fact 62 (f := .meth "Store" "splits") rfl)
  have me_Store_number : Meth K (stC K) "number" (He.ma K (stC K) "number") := He.meth_ok (d.fact 63 (f := .meth "Store" "number") rfl)
  have me_Store_possible_steps : Meth K (stC K) "possible_steps" (He.ma K (stC K) "possible_steps") := He.meth_ok (d.fact 64 (f := .meth "Store" "possible_steps") rfl)
  have me_Store_take_steps : Meth K (stC K) "take_steps" (He.ma K (stC K) "take_steps") := He.meth_ok (d.fact 65 (f := .meth "Store" "take_steps") rfl)
  have me_Store_try_steps : Meth K (stC K) "try_steps" (He.ma K (stC K) "try_steps") := He.meth_ok (d.fact 66 (f := .meth "Store" "try_steps") rfl)
  have me_Store_split : Meth K (stC K) "split" (He.ma K (stC K) "split") := He.meth_ok (d.fact 67 (f := .meth "Store" "split") rfl)
  have me_Store_undo : Meth K (stC K) "undo" (He.ma K (stC K) "undo") := He.meth_ok (d.fact 68 (f := .meth "Store" "undo") rfl)
  have e := hfa0.symm.trans g_law
  cases e
  have T : Tx K mg := { n_ValueError := He.free_ok X G (d.fact 29 (f := .free "ValueError") rfl), n_abs := He.free_ok X G (d.fact 30 (f := .free "abs") rfl), n_all := He.free_ok X G (d.fact 31 (f := .free "all") rfl), n_any := He.free_ok X G (d.fact 32 (f := .free "any") rfl), n_bool := He.free_ok X G (d.fact 33 (f := .free "bool") rfl), n_dict := He.free_ok X G (d.fact 34 (f := .free "dict") rfl), n_enumerate := He.free_ok X G (d.fact 35 (f := .free "enumerate") rfl), n_int := He.free_ok X G (d.fact 36 (f := .free "int") rfl), n_isinstance := He.free_ok X G (d.fact 37 (f := .free "isinstance") rfl), n_len := He.free_ok X G (d.fact 38 (f := .free "len") rfl), n_list := He.free_ok X G (d.fact 39 (f := .free "list") rfl), n_max := He.free_ok X G (d.fact 40 (f := .free "max") rfl), n_min := He.free_ok X G (d.fact 41 (f := .free "min") rfl), n_range := He.free_ok X G (d.fact 42 (f := .free "range") rfl), n_repr := He.free_ok X G (d.fact 43 (f := .free "repr") rfl), n_reversed := He.free_ok X G (d.fact 44 (f := .free "reversed") rfl), n_set := He.free_ok X G (d.fact 45 (f := .free "set") rfl), n_sorted := He.free_ok X G (d.fact 46 (f := .free "sorted") rfl), n_str := He.free_ok X G (d.fact 47 (f := .free "str") rfl), n_sum := He.free_ok X G (d.fact 48 (f := .free "sum") rfl), n_tuple := He.free_ok X G (d.fact 49 (f := .free "tuple") rfl), n_type := He.free_ok X G (d.fact 50 (f := .free "type") rfl), n_zip := He.free_ok X G (d.fact 51 (f := .free "zip") rfl), c_LETTERS := He.str_ok X G (d.fact 52 (f := .str "LETTERS" "abcdefghijklmnopqrstuvwxyz") rfl), c_MOST_LETTERS := He.int_ok X G (d.fact 53 (f := .int "MOST_LETTERS" 8) rfl), c_SPLIT := He.str_ok X G (d.fact 54 (f := .str "SPLIT" "split") rfl), c_UNDO := He.str_ok X G (d.fact 55 (f := .str "UNDO" "undo") rfl), cl := cStore, nE := nE, nS := nS, nP := nP }
  let Tb : List (Addr × Str) := [((He.cT K ("ordered", none)).2, "ordered.<locals>.<lambda>")]
  refine ⟨fd_law, htf.map (He.cT K), sp_law Tb K, fun p hp => ?_, fun p hp => ?_, fun p hp => ?_, fun s v => FunD.bindsA (ps := ["script"]) F_law (fun _ _ _ _ _ _ us hl => match us, hl with | [_], _ => rfl) s [v] rfl, fun H a ns hn _ hH _ hS => ⟨a, ns, rfl, hS, hn, tabs_start fun p hp => ?_, fun _ => rfl⟩, fun base KB GB hTB => ?_⟩
  · obtain ⟨q, hq, rfl⟩ := List.mem_map.mp hp
    exact c.empty q hq
  · obtain ⟨q, hq, rfl⟩ := List.mem_map.mp hp
    exact c.out q hq
  · obtain ⟨q, hq, rfl⟩ := List.mem_map.mp hp
    exact PySem.W.codeHd_of_K X (c.hd q hq)
  · rcases List.mem_cons.mp hp with rfl | hp
    · exact hH _ (List.mem_map.mpr ⟨("ordered", none), by simp [htf], rfl⟩)
    cases hp
  · have O_is_name : FnOk (PySem.Challenge.rw_splitstock_k60_whole_all_small_states).prog w K mg base CX0 1 (He.fAd K ("is_name", none)) fd_is_name ["text"] (sp_is_name Tb K) := ok_is_name F_is_name T
    have G_is_name : Fn (PySem.Challenge.rw_splitstock_k60_whole_all_small_states).prog w K mg base "is_name" 1 ["text"] (sp_is_name Tb K) := ⟨_, _, O_is_name, g_is_name, F_is_name.kp, F_is_name.bindsN (fun _ _ _ _ _ _ us hl => match us, hl with | [_], _ => rfl)⟩
    have O_is_entry : FnOk (PySem.Challenge.rw_splitstock_k60_whole_all_small_states).prog w K mg base CX0 2 (He.fAd K ("is_entry", none)) fd_is_entry ["entry", "earlier_names", "weights"] (sp_is_entry Tb K) := ok_is_entry F_is_entry T G_is_name
    have G_is_entry : Fn (PySem.Challenge.rw_splitstock_k60_whole_all_small_states).prog w K mg base "is_entry" 2 ["entry", "earlier_names", "weights"] (sp_is_entry Tb K) := ⟨_, _, O_is_entry, g_is_entry, F_is_entry.kp, F_is_entry.bindsN (fun _ _ _ _ _ _ us hl => match us, hl with | [_, _, _], _ => rfl)⟩
    have O_check_catalogue : FnOk (PySem.Challenge.rw_splitstock_k60_whole_all_small_states).prog w K mg base CX0 3 (He.fAd K ("check_catalogue", none)) fd_check_catalogue ["catalogue"] (sp_check_catalogue Tb K) := ok_check_catalogue F_check_catalogue T G_is_entry
    have G_check_catalogue : Fn (PySem.Challenge.rw_splitstock_k60_whole_all_small_states).prog w K mg base "check_catalogue" 3 ["catalogue"] (sp_check_catalogue Tb K) := ⟨_, _, O_check_catalogue, g_check_catalogue, F_check_catalogue.kp, F_check_catalogue.bindsN (fun _ _ _ _ _ _ us hl => match us, hl with | [_], _ => rfl)⟩
    have O_ordered : FnOk (PySem.Challenge.rw_splitstock_k60_whole_all_small_states).prog w K mg base CX0 4 (He.fAd K ("ordered", none)) fd_ordered ["catalogue"] (sp_ordered Tb K) := ok_ordered F_ordered T (lam_code F_ordered) (hTB _ (List.mem_map.mpr ⟨("ordered", none), by simp [htf], rfl⟩)) (by simp [Tb]) (fun p hp e => by simp [Tb] at hp; rw [hp])
    have G_ordered : Fn (PySem.Challenge.rw_splitstock_k60_whole_all_small_states).prog w K mg base "ordered" 4 ["catalogue"] (sp_ordered Tb K) := ⟨_, _, O_ordered, g_ordered, F_ordered.kp, F_ordered.bindsN (fun _ _ _ _ _ _ us hl => match us, hl with | [_], _ => rfl)⟩
    have O_clean : FnOk (PySem.Challenge.rw_splitstock_k60_whole_all_small_states).prog w K mg base CX0 1 (He.fAd K ("clean", none)) fd_clean ["entries", "numbers"] (sp_clean Tb K) := ok_clean F_clean T
    have G_clean : Fn (PySem.Challenge.rw_splitstock_k60_whole_all_small_states).prog w K mg base "clean" 1 ["entries", "numbers"] (sp_clean Tb K) := ⟨_, _, O_clean, g_clean, F_clean.kp, F_clean.bindsN (fun _ _ _ _ _ _ us hl => match us, hl with | [_, _], _ => rfl)⟩
    have O_piece_numbers : FnOk (PySem.Challenge.rw_splitstock_k60_whole_all_small_states).prog w K mg base CX0 1 (He.fAd K ("piece_numbers", none)) fd_piece_numbers ["entries", "stock", "splits"] (sp_piece_numbers Tb K) := ok_piece_numbers F_piece_numbers T
    have G_piece_numbers : Fn (PySem.Challenge.rw_splitstock_k60_whole_all_small_states).prog w K mg base "piece_numbers" 1 ["entries", "stock", "splits"] (sp_piece_numbers Tb K) := ⟨_, _, O_piece_numbers, g_piece_numbers, F_piece_numbers.kp, F_piece_numbers.bindsN (fun _ _ _ _ _ _ us hl => match us, hl with | [_, _, _], _ => rfl)⟩
    have O_full_splits : FnOk (PySem.Challenge.rw_splitstock_k60_whole_all_small_states).prog w K mg base CX0 1 (He.fAd K ("full_splits", none)) fd_full_splits ["entries", "stock"] (sp_full_splits Tb K) := ok_full_splits F_full_splits T
    have G_full_splits : Fn (PySem.Challenge.rw_splitstock_k60_whole_all_small_states).prog w K mg base "full_splits" 1 ["entries", "stock"] (sp_full_splits Tb K) := ⟨_, _, O_full_splits, g_full_splits, F_full_splits.kp, F_full_splits.bindsN (fun _ _ _ _ _ _ us hl => match us, hl with | [_, _], _ => rfl)⟩
    have O_check_stock : FnOk (PySem.Challenge.rw_splitstock_k60_whole_all_small_states).prog w K mg base CX0 1 (He.fAd K ("check_stock", none)) fd_check_stock ["catalogue", "stock"] (sp_check_stock Tb K) := ok_check_stock F_check_stock T
    have G_check_stock : Fn (PySem.Challenge.rw_splitstock_k60_whole_all_small_states).prog w K mg base "check_stock" 1 ["catalogue", "stock"] (sp_check_stock Tb K) := ⟨_, _, O_check_stock, g_check_stock, F_check_stock.kp, F_check_stock.bindsN (fun _ _ _ _ _ _ us hl => match us, hl with | [_, _], _ => rfl)⟩
    have O_check_splits : FnOk (PySem.Challenge.rw_splitstock_k60_whole_all_small_states).prog w K mg base CX0 5 (He.fAd K ("check_splits", none)) fd_check_splits ["catalogue", "stock", "splits"] (sp_check_splits Tb K) := ok_check_splits F_check_splits T G_ordered G_piece_numbers
    have G_check_splits : Fn (PySem.Challenge.rw_splitstock_k60_whole_all_small_states).prog w K mg base "check_splits" 5 ["catalogue", "stock", "splits"] (sp_check_splits Tb K) := ⟨_, _, O_check_splits, g_check_splits, F_check_splits.kp, F_check_splits.bindsN (fun _ _ _ _ _ _ us hl => match us, hl with | [_, _, _], _ => rfl)⟩
    have O_total_splits : FnOk (PySem.Challenge.rw_splitstock_k60_whole_all_small_states).prog w K mg base CX0 5 (He.fAd K ("total_splits", none)) fd_total_splits ["catalogue", "stock"] (sp_total_splits Tb K) := ok_total_splits F_total_splits T G_check_catalogue G_check_stock G_full_splits G_ordered
    have G_total_splits : Fn (PySem.Challenge.rw_splitstock_k60_whole_all_small_states).prog w K mg base "total_splits" 5 ["catalogue", "stock"] (sp_total_splits Tb K) := ⟨_, _, O_total_splits, g_total_splits, F_total_splits.kp, F_total_splits.bindsN (fun _ _ _ _ _ _ us hl => match us, hl with | [_, _], _ => rfl)⟩
    have O_first_splits : FnOk (PySem.Challenge.rw_splitstock_k60_whole_all_small_states).prog w K mg base CX0 2 (He.fAd K ("first_splits", none)) fd_first_splits ["entries", "stock", "number"] (sp_first_splits Tb K) := ok_first_splits F_first_splits T G_full_splits
    have G_first_splits : Fn (PySem.Challenge.rw_splitstock_k60_whole_all_small_states).prog w K mg base "first_splits" 2 ["entries", "stock", "number"] (sp_first_splits Tb K) := ⟨_, _, O_first_splits, g_first_splits, F_first_splits.kp, F_first_splits.bindsN (fun _ _ _ _ _ _ us hl => match us, hl with | [_, _, _], _ => rfl)⟩
    have O_checked_splits : FnOk (PySem.Challenge.rw_splitstock_k60_whole_all_small_states).prog w K mg base CX0 5 (He.fAd K ("checked_splits", none)) fd_checked_splits ["catalogue", "stock", "number"] (sp_checked_splits Tb K) := ok_checked_splits F_checked_splits T G_check_catalogue G_check_stock G_first_splits G_ordered
    have G_checked_splits : Fn (PySem.Challenge.rw_splitstock_k60_whole_all_small_states).prog w K mg base "checked_splits" 5 ["catalogue", "stock", "number"] (sp_checked_splits Tb K) := ⟨_, _, O_checked_splits, g_checked_splits, F_checked_splits.kp, F_checked_splits.bindsN (fun _ _ _ _ _ _ us hl => match us, hl with | [_, _, _], _ => rfl)⟩
    have O_balanced : FnOk (PySem.Challenge.rw_splitstock_k60_whole_all_small_states).prog w K mg base CX0 6 (He.fAd K ("balanced", none)) fd_balanced ["catalogue", "stock", "number"] (sp_balanced Tb K) := ok_balanced F_balanced T G_checked_splits G_clean
    have G_balanced : Fn (PySem.Challenge.rw_splitstock_k60_whole_all_small_states).prog w K mg base "balanced" 6 ["catalogue", "stock", "number"] (sp_balanced Tb K) := ⟨_, _, O_balanced, g_balanced, F_balanced.kp, F_balanced.bindsN (fun _ _ _ _ _ _ us hl => match us, hl with | [_, _, _], _ => rfl)⟩
    have O_displacement : FnOk (PySem.Challenge.rw_splitstock_k60_whole_all_small_states).prog w K mg base CX0 6 (He.fAd K ("displacement", none)) fd_displacement ["catalogue", "stock", "splits"] (sp_displacement Tb K) := ok_displacement F_displacement T G_check_catalogue G_check_splits G_check_stock G_first_splits G_ordered
    have G_displacement : Fn (PySem.Challenge.rw_splitstock_k60_whole_all_small_states).prog w K mg base "displacement" 6 ["catalogue", "stock", "splits"] (sp_displacement Tb K) := ⟨_, _, O_displacement, g_displacement, F_displacement.kp, F_displacement.bindsN (fun _ _ _ _ _ _ us hl => match us, hl with | [_, _, _], _ => rfl)⟩
    have O_heaviest : FnOk (PySem.Challenge.rw_splitstock_k60_whole_all_small_states).prog w K mg base CX0 6 (He.fAd K ("heaviest", none)) fd_heaviest ["catalogue", "stock", "number"] (sp_heaviest Tb K) := ok_heaviest F_heaviest T G_checked_splits G_piece_numbers
    have G_heaviest : Fn (PySem.Challenge.rw_splitstock_k60_whole_all_small_states).prog w K mg base "heaviest" 6 ["catalogue", "stock", "number"] (sp_heaviest Tb K) := ⟨_, _, O_heaviest, g_heaviest, F_heaviest.kp, F_heaviest.bindsN (fun _ _ _ _ _ _ us hl => match us, hl with | [_, _, _], _ => rfl)⟩
    have O_all_states : FnOk (PySem.Challenge.rw_splitstock_k60_whole_all_small_states).prog w K mg base CX0 2 (He.fAd K ("all_states", none)) fd_all_states ["entries", "stock"] (sp_all_states Tb K) := ok_all_states F_all_states T G_piece_numbers
    have G_all_states : Fn (PySem.Challenge.rw_splitstock_k60_whole_all_small_states).prog w K mg base "all_states" 2 ["entries", "stock"] (sp_all_states Tb K) := ⟨_, _, O_all_states, g_all_states, F_all_states.kp, F_all_states.bindsN (fun _ _ _ _ _ _ us hl => match us, hl with | [_, _], _ => rfl)⟩
    have O_states : FnOk (PySem.Challenge.rw_splitstock_k60_whole_all_small_states).prog w K mg base CX0 5 (He.fAd K ("states", none)) fd_states ["catalogue", "stock", "number"] (sp_states Tb K) := ok_states F_states T G_all_states G_check_catalogue G_check_stock G_clean G_ordered
    have G_states : Fn (PySem.Challenge.rw_splitstock_k60_whole_all_small_states).prog w K mg base "states" 5 ["catalogue", "stock", "number"] (sp_states Tb K) := ⟨_, _, O_states, g_states, F_states.kp, F_states.bindsN (fun _ _ _ _ _ _ us hl => match us, hl with | [_, _, _], _ => rfl)⟩
    have O_splits_after : FnOk (PySem.Challenge.rw_splitstock_k60_whole_all_small_states).prog w K mg base CX0 2 (He.fAd K ("splits_after", none)) fd_splits_after ["entries", "stock", "splits", "times"] (sp_splits_after Tb K) := ok_splits_after F_splits_after T G_clean
    have G_splits_after : Fn (PySem.Challenge.rw_splitstock_k60_whole_all_small_states).prog w K mg base "splits_after" 2 ["entries", "stock", "splits", "times"] (sp_splits_after Tb K) := ⟨_, _, O_splits_after, g_splits_after, F_splits_after.kp, F_splits_after.bindsN (fun _ _ _ _ _ _ us hl => match us, hl with | [_, _, _, _], _ => rfl)⟩
    have O_splits_before : FnOk (PySem.Challenge.rw_splitstock_k60_whole_all_small_states).prog w K mg base CX0 2 (He.fAd K ("splits_before", none)) fd_splits_before ["entries", "splits", "times"] (sp_splits_before Tb K) := ok_splits_before F_splits_before T G_clean
    have G_splits_before : Fn (PySem.Challenge.rw_splitstock_k60_whole_all_small_states).prog w K mg base "splits_before" 2 ["entries", "splits", "times"] (sp_splits_before Tb K) := ⟨_, _, O_splits_before, g_splits_before, F_splits_before.kp, F_splits_before.bindsN (fun _ _ _ _ _ _ us hl => match us, hl with | [_, _, _], _ => rfl)⟩
    have O_Store___init__ : FnOk (PySem.Challenge.rw_splitstock_k60_whole_all_small_states).prog w K mg base CX0 6 (He.ma K (stC K) "__init__") fd_Store___init__ ["self", "catalogue", "stock", "splits"] (sp_Store___init__ Tb K) := ok_Store___init__ FM_Store___init__ T G_check_catalogue G_check_splits G_check_stock G_clean G_ordered
    obtain ⟨ds_GC_Store_3, v_GC_Store_3, b_GC_Store_3⟩ := FM_Store___init__.binds1 (ps := ["self", "catalogue", "stock", "splits"]) 4 1 (by simp) rfl (fun _ _ _ _ _ _ _ us its h1 h2 => match us, h1, its, h2 with | [_, _, _, _], _, [_], _ => ⟨_, rfl, rfl⟩)
    have GC_Store_3 : C8.Mak (PySem.Challenge.rw_splitstock_k60_whole_all_small_states).prog w K mg base 6 "Store" (stC K) (sp_Store___init__ Tb K) [] := ⟨_, _, _, ds_GC_Store_3, mkStore, O_Store___init__, gStore, b_GC_Store_3, v_GC_Store_3⟩
    have O_Store_splits : FnOk (PySem.Challenge.rw_splitstock_k60_whole_all_small_states).prog w K mg base CX0 2 (He.ma K (stC K) "splits") fd_Store_splits ["self"] (sp_Store_splits Tb K) := ok_Store_splits FM_Store_splits T G_clean
    have GM_Store_splits_0 : C8.Met (PySem.Challenge.rw_splitstock_k60_whole_all_small_states).prog w K mg base 2 (stC K) "splits" (sp_Store_splits Tb K) [] := ⟨_, _, _, [], cStore, me_Store_splits, O_Store_splits, FM_Store_splits.bindsN (fun _ _ _ _ _ _ us hl => match us, hl with | [_], _ => rfl), .nil⟩
    have O_Store_number : FnOk (PySem.Challenge.rw_splitstock_k60_whole_all_small_states).prog w K mg base CX0 1 (He.ma K (stC K) "number") fd_Store_number ["self"] (sp_Store_number Tb K) := ok_Store_number FM_Store_number T
    have GM_Store_number_0 : C8.Met (PySem.Challenge.rw_splitstock_k60_whole_all_small_states).prog w K mg base 1 (stC K) "number" (sp_Store_number Tb K) [] := ⟨_, _, _, [], cStore, me_Store_number, O_Store_number, FM_Store_number.bindsN (fun _ _ _ _ _ _ us hl => match us, hl with | [_], _ => rfl), .nil⟩
    have O_Store_possible_steps : FnOk (PySem.Challenge.rw_splitstock_k60_whole_all_small_states).prog w K mg base CX0 6 (He.ma K (stC K) "possible_steps") fd_Store_possible_steps ["self", "kind"] (sp_Store_possible_steps Tb K) := ok_Store_possible_steps FM_Store_possible_steps T GM_Store_number_0 G_total_splits
    have GM_Store_possible_steps_1 : C8.Met (PySem.Challenge.rw_splitstock_k60_whole_all_small_states).prog w K mg base 6 (stC K) "possible_steps" (sp_Store_possible_steps Tb K) [] := ⟨_, _, _, [], cStore, me_Store_possible_steps, O_Store_possible_steps, FM_Store_possible_steps.bindsN (fun _ _ _ _ _ _ us hl => match us, hl with | [_, _], _ => rfl), .nil⟩
    have O_Store_take_steps : FnOk (PySem.Challenge.rw_splitstock_k60_whole_all_small_states).prog w K mg base CX0 3 (He.ma K (stC K) "take_steps") fd_Store_take_steps ["self", "kind", "times"] (sp_Store_take_steps Tb K) := ok_Store_take_steps FM_Store_take_steps T G_splits_after G_splits_before
    have GM_Store_take_steps_2 : C8.Met (PySem.Challenge.rw_splitstock_k60_whole_all_small_states).prog w K mg base 3 (stC K) "take_steps" (sp_Store_take_steps Tb K) [] := ⟨_, _, _, [], cStore, me_Store_take_steps, O_Store_take_steps, FM_Store_take_steps.bindsN (fun _ _ _ _ _ _ us hl => match us, hl with | [_, _, _], _ => rfl), .nil⟩
    have O_Store_try_steps : FnOk (PySem.Challenge.rw_splitstock_k60_whole_all_small_states).prog w K mg base CX0 7 (He.ma K (stC K) "try_steps") fd_Store_try_steps ["self", "kind", "times"] (sp_Store_try_steps Tb K) := ok_Store_try_steps FM_Store_try_steps T GM_Store_possible_steps_1 GM_Store_take_steps_2
    have GM_Store_try_steps_2 : C8.Met (PySem.Challenge.rw_splitstock_k60_whole_all_small_states).prog w K mg base 7 (stC K) "try_steps" (sp_Store_try_steps Tb K) [] := ⟨_, _, _, [], cStore, me_Store_try_steps, O_Store_try_steps, FM_Store_try_steps.bindsN (fun _ _ _ _ _ _ us hl => match us, hl with | [_, _, _], _ => rfl), .nil⟩
    have O_Store_split : FnOk (PySem.Challenge.rw_splitstock_k60_whole_all_small_states).prog w K mg base CX0 8 (He.ma K (stC K) "split") fd_Store_split ["self", "times"] (sp_Store_split Tb K) := ok_Store_split FM_Store_split T GM_Store_try_steps_2
    obtain ⟨ds_GM_Store_split_0, v_GM_Store_split_0, b_GM_Store_split_0⟩ := FM_Store_split.binds1 (ps := ["self", "times"]) 1 0 (by simp) rfl (fun _ _ _ _ _ _ _ us its h1 h2 => match us, h1, its, h2 with | [_], _, [_], _ => ⟨_, rfl, rfl⟩)
    have GM_Store_split_0 : C8.Met (PySem.Challenge.rw_splitstock_k60_whole_all_small_states).prog w K mg base 8 (stC K) "split" (sp_Store_split Tb K) [.int 1] := ⟨_, _, _, ds_GM_Store_split_0, cStore, me_Store_split, O_Store_split, b_GM_Store_split_0, v_GM_Store_split_0⟩
    have O_Store_undo : FnOk (PySem.Challenge.rw_splitstock_k60_whole_all_small_states).prog w K mg base CX0 8 (He.ma K (stC K) "undo") fd_Store_undo ["self", "times"] (sp_Store_undo Tb K) := ok_Store_undo FM_Store_undo T GM_Store_try_steps_2
    obtain ⟨ds_GM_Store_undo_0, v_GM_Store_undo_0, b_GM_Store_undo_0⟩ := FM_Store_undo.binds1 (ps := ["self", "times"]) 1 0 (by simp) rfl (fun _ _ _ _ _ _ _ us its h1 h2 => match us, h1, its, h2 with | [_], _, [_], _ => ⟨_, rfl, rfl⟩)
    have GM_Store_undo_0 : C8.Met (PySem.Challenge.rw_splitstock_k60_whole_all_small_states).prog w K mg base 8 (stC K) "undo" (sp_Store_undo Tb K) [.int 1] := ⟨_, _, _, ds_GM_Store_undo_0, cStore, me_Store_undo, O_Store_undo, b_GM_Store_undo_0, v_GM_Store_undo_0⟩
    have O_law_bag : FnOk (PySem.Challenge.rw_splitstock_k60_whole_all_small_states).prog w K mg base CX0 1 (He.fAd K ("_law_bag", none)) fd_law_bag ["script"] (sp_law_bag Tb K) := ok_law_bag F_law_bag T
    have G_law_bag : Fn (PySem.Challenge.rw_splitstock_k60_whole_all_small_states).prog w K mg base "_law_bag" 1 ["script"] (sp_law_bag Tb K) := ⟨_, _, O_law_bag, g_law_bag, F_law_bag.kp, F_law_bag.bindsN (fun _ _ _ _ _ _ us hl => match us, hl with | [_], _ => rfl)⟩
    have O_law_draw : FnOk (PySem.Challenge.rw_splitstock_k60_whole_all_small_states).prog w K mg base CX0 1 (He.fAd K ("_law_draw", none)) fd_law_draw ["bag", "many"] (sp_law_draw Tb K) := ok_law_draw F_law_draw T
    have G_law_draw : Fn (PySem.Challenge.rw_splitstock_k60_whole_all_small_states).prog w K mg base "_law_draw" 1 ["bag", "many"] (sp_law_draw Tb K) := ⟨_, _, O_law_draw, g_law_draw, F_law_draw.kp, F_law_draw.bindsN (fun _ _ _ _ _ _ us hl => match us, hl with | [_, _], _ => rfl)⟩
    have O_law_catalogue : FnOk (PySem.Challenge.rw_splitstock_k60_whole_all_small_states).prog w K mg base CX0 2 (He.fAd K ("_law_catalogue", none)) fd_law_catalogue ["bag", "most"] (sp_law_catalogue Tb K) := ok_law_catalogue F_law_catalogue T G_law_draw
    have G_law_catalogue : Fn (PySem.Challenge.rw_splitstock_k60_whole_all_small_states).prog w K mg base "_law_catalogue" 2 ["bag", "most"] (sp_law_catalogue Tb K) := ⟨_, _, O_law_catalogue, g_law_catalogue, F_law_catalogue.kp, F_law_catalogue.bindsN (fun _ _ _ _ _ _ us hl => match us, hl with | [_, _], _ => rfl)⟩
    have O_law_order : FnOk (PySem.Challenge.rw_splitstock_k60_whole_all_small_states).prog w K mg base CX0 1 (He.fAd K ("_law_order", none)) fd_law_order ["pool"] (sp_law_order Tb K) := ok_law_order F_law_order T
    have G_law_order : Fn (PySem.Challenge.rw_splitstock_k60_whole_all_small_states).prog w K mg base "_law_order" 1 ["pool"] (sp_law_order Tb K) := ⟨_, _, O_law_order, g_law_order, F_law_order.kp, F_law_order.bindsN (fun _ _ _ _ _ _ us hl => match us, hl with | [_], _ => rfl)⟩
    have O_law_pieces : FnOk (PySem.Challenge.rw_splitstock_k60_whole_all_small_states).prog w K mg base CX0 1 (He.fAd K ("_law_pieces", none)) fd_law_pieces ["pool", "supply", "taken"] (sp_law_pieces Tb K) := ok_law_pieces F_law_pieces T
    have G_law_pieces : Fn (PySem.Challenge.rw_splitstock_k60_whole_all_small_states).prog w K mg base "_law_pieces" 1 ["pool", "supply", "taken"] (sp_law_pieces Tb K) := ⟨_, _, O_law_pieces, g_law_pieces, F_law_pieces.kp, F_law_pieces.bindsN (fun _ _ _ _ _ _ us hl => match us, hl with | [_, _, _], _ => rfl)⟩
    have O_law_total : FnOk (PySem.Challenge.rw_splitstock_k60_whole_all_small_states).prog w K mg base CX0 2 (He.fAd K ("_law_total", none)) fd_law_total ["pool", "supply"] (sp_law_total Tb K) := ok_law_total F_law_total T G_law_order G_law_pieces
    have G_law_total : Fn (PySem.Challenge.rw_splitstock_k60_whole_all_small_states).prog w K mg base "_law_total" 2 ["pool", "supply"] (sp_law_total Tb K) := ⟨_, _, O_law_total, g_law_total, F_law_total.kp, F_law_total.bindsN (fun _ _ _ _ _ _ us hl => match us, hl with | [_, _], _ => rfl)⟩
    have O_law_small_supply : FnOk (PySem.Challenge.rw_splitstock_k60_whole_all_small_states).prog w K mg base CX0 3 (He.fAd K ("_law_small_supply", none)) fd_law_small_supply ["bag", "pool", "most"] (sp_law_small_supply Tb K) := ok_law_small_supply F_law_small_supply T G_law_draw G_law_total
    have G_law_small_supply : Fn (PySem.Challenge.rw_splitstock_k60_whole_all_small_states).prog w K mg base "_law_small_supply" 3 ["bag", "pool", "most"] (sp_law_small_supply Tb K) := ⟨_, _, O_law_small_supply, g_law_small_supply, F_law_small_supply.kp, F_law_small_supply.bindsN (fun _ _ _ _ _ _ us hl => match us, hl with | [_, _, _], _ => rfl)⟩
    have O_law_heaviest : FnOk (PySem.Challenge.rw_splitstock_k60_whole_all_small_states).prog w K mg base CX0 2 (He.fAd K ("_law_heaviest", none)) fd_law_heaviest ["pool", "supply", "taken"] (sp_law_heaviest Tb K) := ok_law_heaviest F_law_heaviest T G_law_pieces
    have G_law_heaviest : Fn (PySem.Challenge.rw_splitstock_k60_whole_all_small_states).prog w K mg base "_law_heaviest" 2 ["pool", "supply", "taken"] (sp_law_heaviest Tb K) := ⟨_, _, O_law_heaviest, g_law_heaviest, F_law_heaviest.kp, F_law_heaviest.bindsN (fun _ _ _ _ _ _ us hl => match us, hl with | [_, _, _], _ => rfl)⟩
    have O_law_pair_right : FnOk (PySem.Challenge.rw_splitstock_k60_whole_all_small_states).prog w K mg base CX0 9 (He.fAd K ("_law_pair_right", none)) fd_law_pair_right ["pool", "supply", "taken", "number", "total"] (sp_law_pair_right Tb K) := ok_law_pair_right F_law_pair_right T GC_Store_3 GM_Store_split_0 GM_Store_splits_0 GM_Store_undo_0 G_balanced G_displacement
    have G_law_pair_right : Fn (PySem.Challenge.rw_splitstock_k60_whole_all_small_states).prog w K mg base "_law_pair_right" 9 ["pool", "supply", "taken", "number", "total"] (sp_law_pair_right Tb K) := ⟨_, _, O_law_pair_right, g_law_pair_right, F_law_pair_right.kp, F_law_pair_right.bindsN (fun _ _ _ _ _ _ us hl => match us, hl with | [_, _, _, _, _], _ => rfl)⟩
    exact ok_law F_law T G_law_bag G_law_catalogue G_law_heaviest G_law_pair_right G_law_small_supply G_law_total G_balanced G_displacement G_heaviest G_states
end Sk
open PySem PySem.W PySem.Calls PyProof.Rows
theorem PySem.Challenge.cw_splitstock_k60_whole_all_small_states_holds : PySem.Challenge.rw_splitstock_k60_whole_all_small_states.Holds := by
  w_on; o_law
  refine HandSHeadRun.head_any (r := OpenLaw.row PySem.Challenge.rw_splitstock_k60_whole_all_small_states) (q := view (OpenLaw.row PySem.Challenge.rw_splitstock_k60_whole_all_small_states).prog [50]) (H := Sk.hHk) (ob := Sk.hOb) (M := 4000) (loose := Sk.hLoose) (d := HandSHeadRun.topDef (OpenLaw.row PySem.Challenge.rw_splitstock_k60_whole_all_small_states).prog 50) (kwd := []) Sk.hOb_eq
    (by kernel_rfl) (fun s => by kernel_rfl) Sk.hRun (by kernel_rfl) (by kernel_rfl) (by kernel_rfl) (by rfl) (by first | assumption | decide +kernel) (by decide +kernel) ⟨rfl, rfl, rfl, rfl, rfl, by decide +kernel⟩ ?hw ?hc
  case hw => w_witness2
  case hc =>
    refine Sk.walk_ofG (l := PySem.Challenge.rw_splitstock_k60_whole_all_small_states) (n := 63) (k := 10) (x := "script") rfl (by decide) (by kernel_rfl) ⟨rfl, by decide, by decide⟩ ?_
    intro w mg fa h Y G hmg0
    obtain ⟨K, KX, c⟩ := Y
    have hmg : mg ("law" : PySem.Str) = some (.ref fa) := by
      have e : (HandSHeadRun.topDef (OpenLaw.row PySem.Challenge.rw_splitstock_k60_whole_all_small_states).prog 50).name = ("law" : PySem.Str) := by kernel_rfl
      rw [← e]
      exact hmg0
    exact ⟨K, KX, Sk.hFacts KX G hmg c⟩
