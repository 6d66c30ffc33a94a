import PyProof.Rows.All
import Wide.All
import OpenK.AllK
import Wide.FinOn
import KE.KStateDown
import HandS.ForMost
import HandS.Defaults
import HandS.Exc
import HandS.Codes
import HandS.TryOnly
import HandS.Lambda
import HandS.EndTab
import HandS.Head0
import HandS.Head1
import HandS.Head2
import HandS.HeadEnd
import HandS.HeadHook1
import HandS.HeadHook2
import HandS.HeadHook3
import HandS.HeadHook4
import HandS.HeadWalk
import HandS.Sort
import HandS.SortOrd
import HandS.SortRule
import HandS.SortInts
import HandS.SortKw
import HandS.Wide
import HandS.SetKeys
import HandS.DictComp
import HandS.IsInst
import HandS.Deep
import HandS.Style
import HandS.Finally
import HandS.ListItems
import HandS.CallLocal
import HandS.SetFor
import HandS.RaiseMore
import HandS.Zip
import HandS.Conv
import HandS.Strs
import KE.KSortTupAny
import KE.KSortKey
import KE.KEqDict
import HandS.MakeKw
import HandS.ExcOwn
import HandS.ExcInit
import HandS.ExcField
import HandS.ExcIs
import HandS.ExcValue
import HandS.CallSlots
import HandS.ClsMeth
import HandS.ExcCtx
import HandS.Hot
import HandS.HotCalls
import HandS.RaiseFrom
import HandS.ExcInitHot
import PySem.Challenge.RW_splitstock_k24_whole_best_of_all_splits
import HandS.Walk
import PyProof.NeKinds
import HandS.Iter
import PyProof.SumAny
import KE.KDictSum
import HandS.MapSum
import PyProof.ReprRoads
import PyProof.StrLawsRepr
import PyProof.FitsInt
import PyProof.EqAt
import PyProof.SeqRoads2
import PyProof.Rows.SetFrom
import PyProof.Rows.SortShellSt
import HandS.Set
import KE.KUnpackStar
import HandS.Text
import PyProof.InstNe
import PyProof.FactsAll.object_2
import HandS.OwnEq
import HandS.Flow
import KE.GoesMore
import HandS.Words
import HandS.Dict
set_option Elab.async false
set_option linter.all false
set_option maxRecDepth 100000
set_option maxHeartbeats 4000000
/-! sorting tuples that begin (int, text) -/
namespace Sk
open PySem PySem.Spec PyProof.Rows L2
/-- an int, then a text -/
def kLt (p q : Int × Str) : Bool := if p.1 = q.1 then decide (p.2.cps.toList < q.2.cps.toList) else decide (p.1 < q.1)
theorem kLt_iff {p q : Int × Str} : kLt p q = true ↔ p.1 < q.1 ∨ (p.1 = q.1 ∧ p.2.cps.toList < q.2.cps.toList) := by
  unfold kLt
  by_cases e : p.1 = q.1
  · rw [if_pos e, decide_eq_true_eq]
    constructor
    · exact fun h => .inr ⟨e, h⟩
    · rintro (h | h)
      · omega
      · exact h.2
  · rw [if_neg e, decide_eq_true_eq]
    constructor
    · exact fun h => .inl h
    · rintro (h | h)
      · exact h
      · exact absurd h.1 e
theorem kLt_no {p q : Int × Str} : kLt p q = false ↔ q.1 < p.1 ∨ (p.1 = q.1 ∧ ¬ p.2.cps.toList < q.2.cps.toList) := by
  unfold kLt
  by_cases e : p.1 = q.1
  · rw [if_pos e, decide_eq_false_iff_not]
    constructor
    · exact fun h => .inr ⟨e, h⟩
    · rintro (h | h)
      · omega
      · exact h.2
  · rw [if_neg e, decide_eq_false_iff_not]
    constructor
    · exact fun h => .inl (by omega)
    · rintro (h | h)
      · omega
      · exact absurd h.1 e
theorem str_ext {x y : Str} (h : x.cps.toList = y.cps.toList) : x = y := by
  have hc : x.cps = y.cps := Array.toList_inj.mp h
  cases x; cases y
  simp only [Str.mk.injEq]
  exact hc
theorem kLt_total {p q : Int × Str} (h1 : kLt p q = false) (h2 : kLt q p = false) : p = q := by
  rcases kLt_no.mp h1 with a | ⟨a, b⟩
  · rcases kLt_no.mp h2 with c | ⟨c, d⟩ <;> omega
  · rcases kLt_no.mp h2 with c | ⟨c, d⟩
    · omega
    · have e : p.2.cps.toList = q.2.cps.toList := strKind.total _ _ (decide_eq_false b) (decide_eq_false d)
      obtain ⟨i, x⟩ := p
      obtain ⟨j, y⟩ := q
      have e2 := str_ext e
      simp only at a e2
      rw [a, e2]
theorem kLt_swo {α : Type} (k : α → Int × Str) : SrtO.Swo fun x y => kLt (k x) (k y) := by
  refine ⟨fun x y h => ?_, fun x y z h1 h2 => ?_⟩
  · refine kLt_no.mpr ?_
    rcases kLt_iff.mp h with a | ⟨a, b⟩
    · exact .inl a
    · exact .inr ⟨a.symm, fun c => List.lt_irrefl _ (List.lt_trans b c)⟩
  · refine kLt_no.mpr ?_
    rcases kLt_no.mp h1 with a | ⟨a, b⟩
    · rcases kLt_no.mp h2 with c | ⟨c, d⟩
      · exact .inl (by omega)
      · exact .inl (by omega)
    · rcases kLt_no.mp h2 with c | ⟨c, d⟩
      · exact .inl (by omega)
      · refine .inr ⟨by omega, fun e => ?_⟩
        rcases strKind.negTrans _ (k y).2.cps.toList _ (decide_eq_true e) with q | q
        · exact d (of_decide_eq_true q)
        · exact b (of_decide_eq_true q)
/-- a tuple of the heap that begins with an int and a text -/
def IsT2 (h : Heap) (v : Value) (k : Int × Str) (rest : List Value) : Prop := ∃ a o t u n, v = .ref a ∧ h.get? a = some o ∧ o.cls = .type "tuple" ∧ o.data = .seq (Value.int k.1 t :: .str k.2 u :: rest).toArray n
theorem IsT2.keeps {h h' : Heap} {v : Value} {k : Int × Str} {rest : List Value} (p : IsT2 h v k rest) (kp : ∀ b o, h.get? b = some o → o.cls = .type "tuple" → h'.get? b = some o) : IsT2 h' v k rest := by
  obtain ⟨a, o, t, u, n, e, ho, hc, hd⟩ := p
  exact ⟨a, o, t, u, n, e, kp a o ho hc, hc, hd⟩
section
variable {prog : Program} {w : World} {A : Around} {E : Value → Shared → Prop} {s : Shared}
theorem eqBool_same {v : Value} {Q : Bool → Shared → Prop} (hv : (v == v) = true) (h : Q true s) : wpAny (model prog w) A (eqBool v v) Q E s := by
  unfold eqBool
  refine wpAny_holding ?_
  rw [hv]
  simp only [if_true]
  exact wpAny_bind (wpAny_rule (wpAny_pure h))
theorem kat_same {b : Bool} {Q : Bool → Shared → Prop} : ∀ (l : List Value) (i : Nat), (∀ v ∈ l, (v == v) = true) → Q false s → PySem.W.KatLex prog w A b false Q (l.zip l) i s
  | [], _, _, h => PySem.W.kat_nil h
  | v :: l, i, hv, h => by
    show PySem.W.KatLex prog w A b false Q ((v, v) :: l.zip l) i s
    refine PySem.W.kat_cons (eqBool_same (hv v (List.mem_cons_self ..)) (PySem.W.kat_yes ?_))
    exact kat_same l (i + 1) (fun u hu => hv u (List.mem_cons_of_mem _ hu)) h
/-- what any two of them answer -/
theorem t2_cmp {vs : List Value} {k : Value → Int × Str} {rest : Value → List Value} (hp : ∀ v ∈ vs, IsT2 s.heap v (k v) (rest v)) (hr : ∀ v ∈ vs, ∀ u ∈ rest v, (u == u) = true)
    (hi : ∀ v ∈ vs, ∀ u ∈ vs, k v = k u → rest v = rest u) : SrtO.Cmp prog w A s (tuples' true) (fun p => p.1 ∈ vs) (SrtO.lt2 fun v u => kLt (k v) (k u)) := by
  intro p q hm hm'
  obtain ⟨a, o, t, u, n, e, ho, hc, hd⟩ := hp _ hm
  obtain ⟨a', o', t', u', n', e', ho', hc', hd'⟩ := hp _ hm'
  have hi' := hi _ hm _ hm'
  have hr' := hr _ hm
  show wpAny (model prog w) A (keyLt' (tuples' true) p.1 q.1) (fun r s' => s' = s ∧ r = kLt (k p.1) (k q.1)) (fun _ _ => False) s
  generalize k p.1 = kp at hi' ⊢ hd
  generalize k q.1 = kq at hi' ⊢ hd'
  generalize rest p.1 = rp at hi' hr' hd
  generalize rest q.1 = rq at hi' hd'
  rw [e, e']
  refine PySem.W.kat_lt ho hd ho' hd' ?_
  obtain ⟨x, y⟩ := kp
  obtain ⟨x', y'⟩ := kq
  have key : ∀ fin : Bool, (x = x' → y = y' → fin = false) → PySem.W.KatLex prog w A true fin (fun r s' => s' = s ∧ r = kLt (x, y) (x', y')) ((.int x t, .int x' t') :: (.str y u, .str y' u') :: rp.zip rq) 0 s := by
    intro fin hf
    unfold kLt
    refine PySem.W.kat_cons (SeqAt.EqAt.int_int x t x' t' prog w _ _ ?_)
    refine PySem.W.kat_go (fun e1 => ?_) (fun e1 => ?_)
    · have ex : x = x' := by simpa using e1
      refine PySem.W.kat_yes (PySem.W.kat_cons (wpAny_eqBool_str ?_))
      refine PySem.W.kat_go (fun e2 => ?_) (fun e2 => ?_)
      · have ey : y = y' := of_decide_eq_true e2
        have e3 : (if x = x' then decide (y.cps.toList < y'.cps.toList) else decide (x < x')) = false := by
          rw [if_pos ex, ey]
          exact decide_eq_false (List.lt_irrefl _)
        have e4 := hi' (by rw [ex, ey])
        rw [← e4, hf ex ey]
        exact PySem.W.kat_yes (kat_same rp _ hr' ⟨rfl, e3.symm⟩)
      · have e3 : (if x = x' then decide (y.cps.toList < y'.cps.toList) else decide (x < x')) = decide (y.cps.toList < y'.cps.toList) := if_pos ex
        exact PySem.W.kat_no (oneLt_any_str ⟨rfl, e3.symm⟩)
    · have ex : ¬ x = x' := by simpa using e1
      have e3 : (if x = x' then decide (y.cps.toList < y'.cps.toList) else decide (x < x')) = decide (x < x') := if_neg ex
      exact PySem.W.kat_no (oneLt_int ⟨rfl, e3.symm⟩)
  have := key (decide ((Value.int x t :: .str y u :: rp).toArray.size < (Value.int x' t' :: .str y' u' :: rq).toArray.size)) (fun ex ey => by
    have e4 := hi' (by rw [ex, ey])
    rw [e4]
    simp)
  simpa using this
theorem t2_firsts {h : Heap} {k : Value → Int × Str} {rest : Value → List Value} : ∀ {vs : List Value}, (∀ v ∈ vs, IsT2 h v (k v) (rest v)) → ∃ fs, PySem.W.KatTups h vs fs ∧ fs.length = vs.length ∧ ∀ f ∈ fs, ∃ i t, f = Value.int i t
  | [], _ => ⟨[], .nil, rfl, fun _ h => nomatch h⟩
  | v :: vs, hp => by
    obtain ⟨fs, h1, h2, h3⟩ := t2_firsts (vs := vs) fun u hu => hp u (List.mem_cons_of_mem _ hu)
    obtain ⟨a, o, t, u, n, e, ho, hc, hd⟩ := hp v (List.mem_cons_self ..)
    subst e
    refine ⟨.int (k (.ref a)).1 t :: fs, .cons ho hc hd rfl h1, by rw [List.length_cons, List.length_cons, h2], fun f hf => ?_⟩
    rcases List.mem_cons.mp hf with rfl | hf
    · exact ⟨_, _, rfl⟩
    · exact h3 f hf
theorem t2_sortableO {a : Addr} {vs : List Value} {k : Value → Int × Str} {rest : Value → List Value} (h0 : 0 < vs.length) (hp : ∀ v ∈ vs, IsT2 s.heap v (k v) (rest v)) (hr : ∀ v ∈ vs, ∀ u ∈ rest v, (u == u) = true)
    (hi : ∀ v ∈ vs, ∀ u ∈ vs, k v = k u → rest v = rest u) (ha : ∀ o, s.heap.get? a = some o → o.cls ≠ .type "tuple") : SrtO.SortableO prog w A s a vs fun v u => kLt (k v) (k u) := by
  intro h' keep
  have hp' : ∀ v ∈ vs, IsT2 h' v (k v) (rest v) := fun v hm => (hp v hm).keeps fun b o e c => keep b o (fun z => by subst z; exact ha o e c) e
  obtain ⟨fs, h1, h2, h3⟩ := t2_firsts hp'
  refine ⟨tuples' true, fun Q E hq => ?_, t2_cmp hp' hr hi⟩
  refine PySem.W.kat_kind (T := .type "int") h1 (by omega) (fun f hm => ?_) (by rfl) ?_
  · obtain ⟨x, t, rfl⟩ := h3 f hm
    exact PySem.W.Looks.now
  · have e : (Value.type "int" != Value.type "tuple") = true := by first | decide +kernel | rfl | decide
    rw [e]
    exact hq
end

/-- sorted(xs), xs a list of tuples that begin with an int and a text (k says which); where two keys agree, the tuples are one or have no more items -/
def rSortedT (K : PySem.W.Frag) : List V → Hp → VK → Prop := fun vs H Q => ∃ (a : Addr) (xs : List V) (k : V → Int × Str) (rest : V → List V), vs = [V.ref a] ∧ SqL K H a xs ∧
  (∀ x ∈ xs, ∃ t, x = V.ref t ∧ H t = some (.tup (.int (k x).1 :: .str (k x).2 :: rest x))) ∧ (∀ x ∈ xs, ∀ r ∈ rest x, ∃ b, r = V.ref b) ∧ (∀ x ∈ xs, ∀ y ∈ xs, k x = k y → x = y ∨ (rest x = [] ∧ rest y = [])) ∧
  ∀ ys p, SrtO.Srtd (fun x y => kLt (k x) (k y)) ys → SrtO.Stb (fun x y => kLt (k x) (k y)) ys xs → H p = none → Q (.ref p) (upd H p (.lst ys))
def valOf : V → Value
  | .ref a => .ref a
  | _ => .none
section
variable {X : Cx}
theorem vals_refs : ∀ {rs : List V} {us : List Value}, Vals rs us → (∀ r ∈ rs, ∃ b, r = V.ref b) → us = rs.map valOf
  | _, _, .nil, _ => rfl
  | r :: rs, u :: us, .cons h t, hb => by
    obtain ⟨b, rfl⟩ := hb r (List.mem_cons_self ..)
    rw [vals_refs t fun x hx => hb x (List.mem_cons_of_mem _ hx)]
    obtain rfl : u = Value.ref b := h
    rfl
theorem cr_sortedT : CallR X (.builtin "sorted") (rSortedT X.K) := by
  intro pins s σ H vs us Q I r h
  obtain ⟨a, xs, k, rest, rfl, hs, hx, hrf, hi, q⟩ := h
  obtain ⟨its, rv, hl, hz⟩ := I.list hs
  obtain ⟨u, rfl, ru⟩ := vals1 r
  obtain rfl : u = Value.ref a := ru
  obtain ⟨e1, e2⟩ := refs_back rv fun x m => by
    obtain ⟨t, e, _⟩ := hx x m
    exact ⟨t, e⟩
  have hm : ∀ t, Value.ref t ∈ its → V.ref t ∈ xs := fun t hv => by rw [e1]; exact List.mem_map.mpr ⟨_, hv, rfl⟩
  have hp : ∀ v ∈ its, IsT2 s.heap v (k (backV v)) ((rest (backV v)).map valOf) := fun v hv => by
    obtain ⟨t, rfl⟩ := e2 v hv
    obtain ⟨t', e, ht⟩ := hx _ (hm t hv)
    cases e
    obtain ⟨_, its2, r2, o, ho, hc, n, hd⟩ := I.hok _ _ ht
    cases r2 with
    | cons ri r2 =>
      cases r2 with
      | cons rj r2 =>
        obtain ⟨t1, rfl⟩ := ri
        obtain ⟨t2, rfl⟩ := rj
        rw [vals_refs r2 (hrf _ (hm t hv))] at hd
        exact ⟨t, o, t1, t2, n, rfl, ho, hc, hd⟩
  have hr : ∀ v ∈ its, ∀ u ∈ (rest (backV v)).map valOf, (u == u) = true := fun v hv u hu => by
    obtain ⟨x, hx', rfl⟩ := List.mem_map.mp hu
    obtain ⟨t, rfl⟩ := e2 v hv
    obtain ⟨b, rfl⟩ := hrf _ (hm t hv) _ hx'
    show (Value.ref b == Value.ref b) = true
    simp [valOf]
  have hi' : ∀ v ∈ its, ∀ u ∈ its, k (backV v) = k (backV u) → (rest (backV v)).map valOf = (rest (backV u)).map valOf := fun v hv u hu e => by
    obtain ⟨t, rfl⟩ := e2 v hv
    obtain ⟨t', rfl⟩ := e2 u hu
    rcases hi _ (hm t hv) _ (hm t' hu) e with z | ⟨z1, z2⟩
    · show (rest (V.ref t)).map valOf = (rest (V.ref t')).map valOf
      rw [z]
    · show (rest (V.ref t)).map valOf = (rest (V.ref t')).map valOf
      rw [z1, z2]
  refine SrtO.sorted_ord (ltv := fun v u => kLt (k (backV v)) (k (backV u))) (kLt_swo fun v => k (backV v)) hl.isList (by rw [← rv.length]; exact hz) (fun h2 h₁ a' ha kk => ?_) fun out h1 h2 => ?_
  · refine t2_sortableO (s := { s with heap := h₁ }) (rest := fun v => (rest (backV v)).map valOf) (by omega) (fun v hm => (hp v hm).keeps fun b o e _ => (kk b o e).2) hr hi' fun o e => ?_
    have e' : some o = some (seqObj "list" its.toArray 0) := e.symm.trans ha
    cases e'
    intro c
    exact absurd (Value.type.inj c) (by decide)
  · have h3 : ∀ u ∈ out, ∃ a, u = Value.ref a := fun u hu => e2 u (h2.perm.mem_iff.mp hu)
    obtain ⟨n, hn⟩ := sortedAll_at s.heap its out.toArray
    have hd : s.heap.objs.size ≤ s.heap.objs.size + 1 := Nat.le_succ _
    have hb : SrtO.Stb (fun x y => kLt (k x) (k y)) (out.map backV) xs := by
      rw [e1]
      exact SrtO.Stb.map (kLt_swo k) backV h2
    refine ⟨.ref (s.heap.objs.size + 1), upd H (s.heap.objs.size + 1) (.lst (out.map backV)), I.laid (t' := s.toks) (fun b o e => sortedAll_old e) hd ⟨?_, out, n, vals_back h3, hn⟩, rfl, q _ _ (SrtO.srtd_map h1) hb (I.hok.fresh hd)⟩
    rw [hb.len]
    exact hz
end
end Sk
/-! sorted(xs, key=lambda x: ..) -/
namespace Sk
open PySem PySem.Spec PyProof.Rows L2
section
variable {P : Program} {w : World} {K : PySem.W.Frag} {mg : Str → Option Value} {base : Heap}
/-- a lambda of parameters and no captured names, called -/
theorem lam_run {N ps : List Str} {k : Nat} {q : Str} {params : Arguments} {body : Expr} {scope : Scope} {pm ctv : Value} {f c' : Addr} {A : Around} {outer : List Env} {s : Shared} {H : Hp} {us : List Value} {vs : List V} {Q : VK} {E : XK} {te : TE}
    (of1 : s.heap.get? f = some (PySem.W.kla_obj "<lambda>" q params body scope [] pm c' ctv)) (S : FnScope N ps scope)
    (hb : bindArgs (PySem.W.kla_fn "<lambda>" q params body scope [] pm (.ref c') ctv) ⟨us, []⟩ = pure (ps.zip us)) (hr : Room (k + 1) A) (e0 : Env0 P w K mg base A outer s H) (hc : H c' = some (LamX.CodeO c' q))
    (r : Vals vs us) (hl : vs.length = ps.length)
    (hbody : PE (cxOf CX0 P w K mg base N q scope f (.ref c') A outer s H E) body te) (ht : te (start N vs) H Q) :
    codeAny (model P w) A (.call (.ref f) ⟨us, []⟩) (CR CX0 outer P w H s Q E) s := by
  have lim : s.heap.NoLimit := e0.mod.nolimit.keeps fun b o e => (e0.bs b o e).1
  obtain ⟨⟨oc, vs', t, hoc, hdc, hvc⟩, _, _⟩ := e0.hok c' _ hc
  have hkind : ∀ y ∈ ps.zip us, scope.names.lookup y.1 = some .local ∨ (scope.names.lookup y.1 = some .cell ∧ ((cellsFrom (s.heap.objs.size + 1) scope.names []).lookup y.1).isSome = true) := fun ⟨n, v⟩ hy => by
    rcases S.par n (List.of_mem_zip hy).1 with q | q
    · exact .inl q
    · exact .inr ⟨q, PySem.W.cellsFrom_some _ _ _ (.inl q)⟩
  refine PySem.W.kla_callFunE hr.depth of1 rfl S.co S.gen rfl ⟨c', oc, vs', t, rfl, hoc, hdc, hvc⟩ ?_
  rw [hb]
  refine wpAny_pure (wpAny_newFunctionEnv_cells S.kind hkind fun env he s1 x => ?_)
  subst he
  refine ⟨lim.keeps x.toInCall.keep, PySem.W.kla_codeExpr ?_⟩
  have I : Inv (cxOf CX0 P w K mg base N q scope f (.ref c') A outer s H E) [] (start N vs) H s1 := inv_start S hr.hd e0 hl r x
  refine wpAny_mono (hbody.run [] s1 (start N vs) H Q I ht) (fun v s' hq => ?_) fun e s' hs => hs
  obtain ⟨w', H', J', rv, q⟩ := hq
  exact ⟨w', H', J'.os, J'.bare, J'.base, J'.hok, rv, q⟩
end
/-- objects that no one tracks are changed: the abstract heap is held -/
theorem hok_but {P : Program} {w : World} {H : Hp} {h h' : Heap} (ok : HOk P w H h) (k : ∀ b u, H b ≠ none → h.get? b = some u → h'.get? b = some u) : HOk P w H h' := fun b u e => by
  refine (ok b u e).stay (fun c v hc q => k c v ?_ q) (fun _ q => q) fun _ _ q => q
  rcases hc with z | z
  · rw [z, e]
    simp
  · rw [z]
    simp
/-- a new list, filled meanwhile, is tracked in the end -/
theorem hok_late {P : Program} {w : World} {H : Hp} {h : Heap} {a : Addr} {o : HO} (ok : HOk P w H h) (hn : H a = none) (new : ObjOk P w (upd H a o) h a o) : HOk P w (upd H a o) h := fun b u e => by
  by_cases hb : b = a
  · subst hb; rw [upd_same] at e; cases e; exact new
  · rw [upd_ne hb] at e
    exact (ok b u e).stay (fun c v _ q => q) (fun c q => by rw [upd_ne (ne_of_none q hn)]; exact q) fun c xs q => by rw [upd_ne (ne_of_none q hn)]; exact q
theorem un_but {fs : List Addr} {H H' : Hp} {h h' h2 : Heap} (u : Un fs [] H H' h h') (k : ∀ b o, b < h.objs.size → h'.get? b = some o → h2.get? b = some o) : Un fs [] H H' h h2 where
  keep := fun b o e n hb hx => k b o (Heap.lt_size e) (u.keep b o e n hb hx)
  slot := fun b o e n hb hx => by
    obtain ⟨sl, q⟩ := u.slot b o e n hb hx
    exact ⟨sl, k b _ (Heap.lt_size e) q⟩
  free := u.free
  there := fun b o e hx => by
    obtain ⟨o', q⟩ := u.there b o e hx
    exact ⟨o', k b o' (Heap.lt_size e) q⟩
  tups := u.tups
  frzs := u.frzs
  tbls := u.tbls
theorem un_late {fs : List Addr} {H H' : Hp} {h h' : Heap} {a : Addr} {o : HO} (u : Un fs [] H H' h h') (ha : h.objs.size ≤ a) (hn : H' a = none) : Un fs [] H (upd H' a o) h h' where
  keep := u.keep
  slot := u.slot
  free := fun b o e n hx => by
    rw [upd_ne (fun z => by rw [z] at e; exact Nat.lt_irrefl _ (Nat.lt_of_lt_of_le (Heap.lt_size e) ha))]
    exact u.free b o e n hx
  there := u.there
  tups := fun b xs e => by
    have q := u.tups b xs e
    rw [upd_ne (ne_of_none q hn)]
    exact q
  frzs := fun b o' x e => by
    have q := u.frzs b o' x e
    rw [upd_ne (ne_of_none q hn)]
    exact q
  tbls := fun b ps e => by
    obtain ⟨m, q⟩ := u.tbls b ps e
    exact ⟨m, by rw [upd_ne (ne_of_none q hn)]; exact q⟩
/-! ### the sort by keys, raw -/
section
variable {prog : Program} {w : World} {A : Around} {E : Value → Shared → Prop} {s : Shared}
theorem key_tail {a kS : Addr} {vs ks : List Value} {e e1 : Nat} {R : PySem.Fin → Shared → Prop} {st : SortSt} (hk : s.heap.get? kS = some (seqObj "list" ks.toArray e)) (ha : s.heap.get? a = some (seqObj "list" #[] e1)) (hka : kS ≠ a)
    (hz : ks.length ≤ sizeLine) (hsz : (arrOf st).size ≤ sizeLine) (hfl : failedOf st = none)
    (h : ∀ h' c, (∀ b o, b ≠ a → b ≠ kS → s.heap.get? b = some o → h'.get? b = some o) → h'.get? a = some (seqObj "list" ((arrOf st).map (·.2)) c) → R (.done (.ret .none)) { s with heap := h' }) :
    wpAny (model prog w) A (ksk_tail a false e1 (.ref kS) st) R E s := by
  have s1 := Heap.SameBut.update s.heap kS (Obj.mapSeq fun _ => (#[] : Array Value))
  have na1 : (s.heap.update kS (Obj.mapSeq fun _ => (#[] : Array Value))).get? a = some (seqObj "list" #[] e1) := (s1.2 a hka.symm).trans ha
  have s2 := Heap.SameBut.update (s.heap.update kS (Obj.mapSeq fun _ => (#[] : Array Value))) a (Obj.mapSeq fun _ => (arrOf st).map (·.2))
  obtain ⟨c2, hc2⟩ : ∃ c2, ((s.heap.update kS (Obj.mapSeq fun _ => (#[] : Array Value))).update a (Obj.mapSeq fun _ => (arrOf st).map (·.2))).get? a = some (seqObj "list" ((arrOf st).map (·.2)) c2) :=
    ⟨_, get?_update_seq na1 fun _ => (arrOf st).map (·.2)⟩
  unfold ksk_tail
  try dsimp only
  refine wpAny_bind (listUpdate_at hk rfl ?_ (by rw [List.size_toArray]; exact hz) (Nat.zero_le _))
  refine wpAny_bind (wpAny_letGo ?_)
  refine wpAny_bind (seqEpoch_at na1 rfl ?_)
  refine wpAny_bind (listUpdate_at na1 rfl ?_ (Nat.zero_le _) (by simp only [Bool.false_eq_true, if_false, Array.size_map]; omega))
  rw [hfl]
  simp only [bne_self_eq_false, Bool.false_eq_true, if_false]
  exact wpAny_pure (h _ c2 (fun b o h1 h2 q => (s2.2 b h1).trans ((s1.2 b h2).trans q)) hc2)
theorem key_end {a kS : Addr} {vs ks : List Value} {e e1 : Nat} {R : PySem.Fin → Shared → Prop} {lt : Keyed → Keyed → Bool} (O : SrtO.Swo lt) (hk : s.heap.get? kS = some (seqObj "list" ks.toArray e)) (ha : s.heap.get? a = some (seqObj "list" #[] e1)) (hka : kS ≠ a)
    (hlen : ks.length = vs.length) (hz : vs.length ≤ sizeLine)
    (hS : 2 ≤ vs.length → ∃ κ, (∀ (Q : SortKind → Shared → Prop) (E : Value → Shared → Prop), Q κ s → wpAny (model prog w) A (keyKind' ks.toArray) Q E s) ∧ SrtO.Cmp prog w A s κ (fun p => p.1 ∈ ks) lt)
    (h : ∀ (ps : List Keyed) h' c, SrtO.Srtd lt ps → SrtO.Stb lt ps (ks.zip vs) → (∀ b o, b ≠ a → b ≠ kS → s.heap.get? b = some o → h'.get? b = some o) → h'.get? a = some (seqObj "list" (ps.map (·.2)).toArray c) → R (.done (.ret .none)) { s with heap := h' }) :
    wpAny (model prog w) A (ksk_end a false vs.toArray e1 (.ref kS) ks.toArray) R E s := by
  have hzs : (ks.toArray.zip vs.toArray).size = vs.length := by rw [Array.size_zip, List.size_toArray, List.size_toArray, hlen, Nat.min_self]
  have ez : (ks.toArray.zip vs.toArray).toList = ks.zip vs := ksk_zip _ _
  have fin : ∀ st : SortSt, SrtO.Srtd lt (arrOf st).toList → SrtO.Stb lt (arrOf st).toList (ks.zip vs) → failedOf st = none → wpAny (model prog w) A (ksk_tail a false e1 (.ref kS) st) R E s := by
    intro st h1 h2 hf
    have hl := h2.len
    rw [List.length_zip, hlen, Nat.min_self, Array.length_toList] at hl
    refine key_tail (vs := vs) hk ha hka (by omega) (by omega) hf fun h' c k ho => ?_
    refine h _ h' c h1 h2 k ?_
    rw [ho]
    congr 2
    apply Array.toList_inj.mp
    simp
  unfold ksk_end
  try dsimp only
  simp only [Bool.false_eq_true, if_false]
  by_cases h2 : vs.toArray.size < 2
  · rw [if_pos h2, if_pos h2]
    refine wpAny_bind (wpAny_pure ?_)
    rw [StateT.run_pure]
    refine wpAny_bind (wpAny_pure ?_)
    try dsimp only
    refine fin (SortSt.mk' general' (ks.toArray.zip vs.toArray) #[] 7 none) ?_ (SrtO.Stb.of_eq ez) rfl
    show SrtO.Srtd lt (ks.toArray.zip vs.toArray).toList
    rw [ez]
    have hl : (ks.zip vs).length < 2 := by
      rw [List.length_zip, hlen, Nat.min_self]
      simpa using h2
    match ks.zip vs, hl with
    | [], _ => exact List.Pairwise.nil
    | [v], _ => exact List.pairwise_singleton _ _
    | _ :: _ :: l, h => exact absurd h (by rw [List.length_cons, List.length_cons]; omega)
  · rw [if_neg h2, if_neg h2]
    obtain ⟨κ, hkind, hT⟩ := hS (by simpa using h2)
    refine wpAny_bind (hkind _ _ ?_)
    have hall : SrtO.AllL (fun p : Keyed => p.1 ∈ ks) (ks.toArray.zip vs.toArray).toList := fun p hm => by
      rw [ez] at hm
      exact (List.of_mem_zip (show (p.1, p.2) ∈ ks.zip vs from hm)).1
    refine wpAny_bind (wpAny_mono (SrtO.wpS_sortO (st0 := SortSt.mk' κ (ks.toArray.zip vs.toArray) #[] 7 none)
      (Q := fun _ st' => SrtO.Srtd lt (arrOf st').toList ∧ SrtO.Stb lt (arrOf st').toList (ks.toArray.zip vs.toArray).toList ∧ failedOf st' = none) O hT rfl hall rfl rfl fun st' a1 a2 a3 => ⟨a1, a2, a3⟩) ?_ fun _ _ e => e)
    rintro ⟨⟨⟩, st'⟩ s' ⟨rfl, hp1, hp2, hf⟩
    try dsimp only
    rw [ez] at hp2
    exact fin st' hp1 hp2 hf
/-- sorted(l, key=f): J tells of the two lists that grow meanwhile -/
theorem sorted_key {l q : Addr} {vs : List Value} {Q : Value → Shared → Prop} (J : Addr → Addr → List Value → Shared → Prop) (hl : s.heap.IsList l vs.toArray) (hz : vs.length ≤ sizeLine)
    (start : ∀ (a kS : Addr) (h : Heap) (e1 : Nat), (∀ b o, s.heap.get? b = some o → h.get? b = some o) → s.heap.objs.size ≤ a → s.heap.objs.size ≤ kS → kS ≠ a → h.get? kS = some (seqObj "list" #[] 0) → h.get? a = some (seqObj "list" #[] e1) → J a kS [] { s with heap := h })
    (turn : ∀ (a kS : Addr) (e e1 : Nat) (ks : List Value) (x : Value) (s' : Shared), vs[ks.length]? = some x → J a kS ks s' → kS ≠ a → s'.heap.get? kS = some (seqObj "list" ks.toArray e) → s'.heap.get? a = some (seqObj "list" #[] e1) →
      wpAny (model prog w) A.in1.in1 (call (.ref q) [x]) (fun v s2 => s2.heap.get? kS = some (seqObj "list" ks.toArray e) ∧ s2.heap.get? a = some (seqObj "list" #[] e1) ∧
        ∀ h3, (∀ b o, b ≠ kS → s2.heap.get? b = some o → h3.get? b = some o) → J a kS (ks ++ [v]) { s2 with heap := h3 }) (fun _ _ => False) s')
    (done : ∀ (a kS : Addr) (e e1 : Nat) (ks : List Value) (s' : Shared), J a kS ks s' → ks.length = vs.length → kS ≠ a → s'.heap.get? kS = some (seqObj "list" ks.toArray e) → s'.heap.get? a = some (seqObj "list" #[] e1) →
      ∃ lt : Keyed → Keyed → Bool, SrtO.Swo lt ∧ (2 ≤ vs.length → ∃ κ, (∀ (Q : SortKind → Shared → Prop) (E : Value → Shared → Prop), Q κ s' → wpAny (model prog w) A.in1.in1 (keyKind' ks.toArray) Q E s') ∧ SrtO.Cmp prog w A.in1.in1 s' κ (fun p => p.1 ∈ ks) lt) ∧
        ∀ (ps : List Keyed) h' c, SrtO.Srtd lt ps → SrtO.Stb lt ps (ks.zip vs) → (∀ b o, b ≠ a → b ≠ kS → s'.heap.get? b = some o → h'.get? b = some o) → h'.get? a = some (seqObj "list" (ps.map (·.2)).toArray c) → Q (.ref a) { s' with heap := h' }) :
    wpAny (model prog w) A (call (.builtin "sorted") [.ref l] [(Str.ofString "key", .ref q)]) Q E s := by
  refine call_function_entry_kw kind_sorted plain_sorted entry_sorted (ksk_s1 _ _) ?_
  unfold Builtin.«sorted»
  refine wpAny_bind (m := checkCount "sorted" 1 1 _) (wpAny_pure ?_)
  refine wpAny_bind (collect_list hl ?_ hz)
  refine wpAny_bind (wpAny_newList ?_ hz)
  have hsz : ((s.heap.push (seqObj "list" #[] 0)).update s.heap.objs.size (Obj.mapSeq (· ++ vs.toArray))).objs.size = s.heap.objs.size + 1 := by
    rw [Heap.size_update, size_push']
  have hoL : (((s.heap.push (seqObj "list" #[] 0)).update s.heap.objs.size (Obj.mapSeq (· ++ vs.toArray))).push (seqObj "list" vs.toArray 0)).get? (s.heap.objs.size + 1) = some (seqObj "list" vs.toArray 0) := by
    rw [← hsz]; exact Heap.get?_push_size _ rfl
  have keep : ∀ b o, s.heap.get? b = some o → b < s.heap.objs.size ∧ (((s.heap.push (seqObj "list" #[] 0)).update s.heap.objs.size (Obj.mapSeq (· ++ vs.toArray))).push (seqObj "list" vs.toArray 0)).get? b = some o := fun b o q => by
    have hlt : b < s.heap.objs.size := Heap.lt_size q
    refine ⟨hlt, Heap.get?_push_of_some _ ?_⟩
    rw [Heap.get?_update_ne _ _ _ _ (Nat.ne_of_lt hlt)]
    exact Heap.get?_push_of_some _ q
  show wpAny _ _ _ _ _ { s with heap := ((s.heap.push (seqObj "list" #[] 0)).update s.heap.objs.size (Obj.mapSeq (· ++ vs.toArray))).push (seqObj "list" vs.toArray 0) }
  rw [hsz]
  generalize hg : ((s.heap.push (seqObj "list" #[] 0)).update s.heap.objs.size (Obj.mapSeq (· ++ vs.toArray))).push (seqObj "list" vs.toArray 0) = g at hoL keep ⊢
  have gsz : g.objs.size = s.heap.objs.size + 2 := by
    rw [← hg, size_push', hsz]
  refine wpAny_bind (wpAny_holding (wpAny_call_entry_kw slot_list_sort ⟨_, hoL, rfl⟩ entry_list_sort ?body (ksk_l1 _ _)))
  case body =>
    rw [ksk_t1]
    have ha : s.heap.objs.size + 1 < g.objs.size := Heap.lt_size hoL
    have s1 := Heap.SameBut.update g (s.heap.objs.size + 1) (Obj.mapSeq fun _ => (#[] : Array Value))
    obtain ⟨e1, ho1⟩ : ∃ e1, (g.update (s.heap.objs.size + 1) (Obj.mapSeq fun _ => (#[] : Array Value))).get? (s.heap.objs.size + 1) = some (seqObj "list" #[] e1) := ⟨_, get?_update_seq hoL fun _ => #[]⟩
    have hkS : ((g.update (s.heap.objs.size + 1) (Obj.mapSeq fun _ => (#[] : Array Value))).push (seqObj "tuple" vs.toArray 0)).objs.size = s.heap.objs.size + 3 := by rw [size_push', Heap.size_update, gsz]
    unfold ksk_tree
    refine wpAny_bind (listItems_at hoL rfl ?_)
    refine wpAny_bind (listUpdate_at hoL rfl ?_ (by rw [List.size_toArray]; exact hz) (Nat.zero_le _))
    refine wpAny_bind (seqEpoch_at ho1 rfl ?_)
    refine wpAny_bind (wpAny_newTuple ?_ (by show vs.length ≤ _; exact hz))
    refine wpAny_bind (wpAny_newList ?_ (Nat.zero_le _))
    refine wpAny_holding ?_
    have hk0 : (((g.update (s.heap.objs.size + 1) (Obj.mapSeq fun _ => (#[] : Array Value))).push (seqObj "tuple" vs.toArray 0)).push (seqObj "list" #[] 0)).get? (s.heap.objs.size + 3) = some (seqObj "list" #[] 0) := by
      rw [← hkS]; exact Heap.get?_push_size _ rfl
    have ha0 : (((g.update (s.heap.objs.size + 1) (Obj.mapSeq fun _ => (#[] : Array Value))).push (seqObj "tuple" vs.toArray 0)).push (seqObj "list" #[] 0)).get? (s.heap.objs.size + 1) = some (seqObj "list" #[] e1) :=
      Heap.get?_push_of_some _ (Heap.get?_push_of_some _ ho1)
    have keep2 : ∀ b o, s.heap.get? b = some o → (((g.update (s.heap.objs.size + 1) (Obj.mapSeq fun _ => (#[] : Array Value))).push (seqObj "tuple" vs.toArray 0)).push (seqObj "list" #[] 0)).get? b = some o := fun b o e => by
      obtain ⟨hlt, e'⟩ := keep b o e
      refine Heap.get?_push_of_some _ (Heap.get?_push_of_some _ ((s1.2 b ?_).trans e'))
      exact Nat.ne_of_lt (Nat.lt_succ_of_lt hlt)
    show wpAny (model prog w) A.in1.in1 (ksk_rest (s.heap.objs.size + 1) (.ref q) false vs.toArray _ (.ref ((g.update (s.heap.objs.size + 1) (Obj.mapSeq fun _ => (#[] : Array Value))).push (seqObj "tuple" vs.toArray 0)).objs.size)) _ _ { s with heap := ((g.update (s.heap.objs.size + 1) (Obj.mapSeq fun _ => (#[] : Array Value))).push (seqObj "tuple" vs.toArray 0)).push (seqObj "list" #[] 0) }
    rw [hkS]
    have hne : s.heap.objs.size + 3 ≠ s.heap.objs.size + 1 := by omega
    have J0 := start (s.heap.objs.size + 1) (s.heap.objs.size + 3) _ e1 keep2 (by show s.heap.objs.size ≤ s.heap.objs.size + 1; omega) (by show s.heap.objs.size ≤ s.heap.objs.size + 3; omega) hne hk0 ha0
    generalize s.heap.objs.size + 1 = a at *
    generalize s.heap.objs.size + 3 = kS at *
    generalize ((g.update a (Obj.mapSeq fun _ => (#[] : Array Value))).push (seqObj "tuple" vs.toArray 0)).push (seqObj "list" #[] 0) = h6 at *
    unfold ksk_rest
    refine wpAny_bind (wpAny_rule ?_)
    first
      | rw [List.forIn_toArray]
      | (rw [← Array.forIn_toList]; simp only [List.toList_toArray])
      | rw [← Array.forIn_toList]
    refine wpAny_bind (ksk_fold (fun i s' => ∃ ks e, ks.length = i ∧ J a kS ks s' ∧ s'.heap.get? kS = some (seqObj "list" ks.toArray e) ∧ s'.heap.get? a = some (seqObj "list" #[] e1)) vs 0 _
      ⟨[], 0, rfl, J0, hk0, ha0⟩ ?step ?done)
    case step =>
      rintro j x s' hx ⟨ks, e, hlen, hJ, hk, ha'⟩
      simp only [Nat.zero_add] at hlen ⊢
      have hj : j < vs.length := (List.getElem?_eq_some_iff.mp hx).1
      refine wpAny_bind (wpAny_attempt (wpAny_mono (turn a kS e e1 ks x s' (by rw [hlen]; exact hx) hJ hne hk ha') (fun v s'' he => ?_) fun _ _ hF => hF.elim))
      obtain ⟨hk2, ha2, hJ2⟩ := he
      try dsimp only
      have s1 := Heap.SameBut.update s''.heap kS (Obj.mapSeq (·.push v))
      obtain ⟨c2, hc2⟩ : ∃ c2, (s''.heap.update kS (Obj.mapSeq (·.push v))).get? kS = some (seqObj "list" (ks.toArray.push v) c2) := ⟨_, get?_update_seq hk2 (·.push v)⟩
      have ea : ks.toArray.push v = (ks ++ [v]).toArray := by simp
      refine wpAny_bind (listUpdate_at hk2 rfl ?_ (by rw [List.size_toArray]; omega) (by rw [Array.size_push, List.size_toArray]; omega))
      refine wpAny_pure ⟨rfl, ks ++ [v], c2, by rw [List.length_append, List.length_singleton, hlen], hJ2 _ fun b o hb q => (s1.2 b hb).trans q, ?_, (s1.2 a hne.symm).trans ha2⟩
      rw [← ea]
      exact hc2
    case done =>
      rintro s' ⟨ks, e, hlen, hJ, hk, ha'⟩
      rw [Nat.zero_add] at hlen
      try dsimp only
      refine wpAny_bind (listItems_at hk rfl ?_)
      obtain ⟨lt, O, hS, hq⟩ := done a kS e e1 ks s' hJ hlen hne hk ha'
      exact key_end O hk ha' hne hlen hz hS fun ps h' c h1 h2 k ho => ⟨_, rfl, wpAny_pure ⟨_, rfl, hq ps h' c h1 h2 k ho⟩⟩
end
end Sk
namespace Sk
open PySem PySem.Spec PyProof.Rows L2
/-- the key that a tracked tuple is -/
def kvOf (H : Hp) : Value → Int × Str
  | .ref p => match H p with
    | some (.tup [.int i, .str n]) => (i, n)
    | _ => (0, Str.empty)
  | _ => (0, Str.empty)
theorem kvOf_at {H : Hp} {p : Addr} {i : Int} {n : Str} (h : H p = some (.tup [.int i, .str n])) : kvOf H (.ref p) = (i, n) := by
  show (match H p with
    | some (.tup [.int i, .str n]) => (i, n)
    | _ => (0, Str.empty)) = (i, n)
  rw [h]
/-- sorted(e, key=lambda y: ..): the key of each item y is the pair k y -/
def SortLamQ (K : PySem.W.Frag) (T : List (Addr × Str)) (N : List Str) (tk : TE) (Q : VK) : VK := fun x H1 => ∃ (a : Addr) (xs : List V) (k : V → Int × Str), x = .ref a ∧ SqL K H1 a xs ∧ (∀ y ∈ xs, ∃ t, y = V.ref t) ∧ LamX.Tabs T H1 ∧
  (∀ y ∈ xs, ∀ H2, LamX.ExtN H1 H2 → ∀ Q' : VK, (∀ p, H2 p = none → Q' (.ref p) (upd H2 p (.tup [.int (k y).1, .str (k y).2]))) → tk (start N [y]) H2 Q') ∧
  ∀ ys a' H', SrtO.Srtd (fun x y => kLt (k x) (k y)) ys → ys.Perm xs → LamX.ExtN H1 H' → LamX.Tabs T H' → H' a' = none → Q (.ref a') (upd H' a' (.lst ys))
def tSortLam (K : PySem.W.Frag) (T : List (Addr × Str)) (N : List Str) (tk te : TE) : TE := fun σ H Q => te σ H (SortLamQ K T N tk Q)
/-- what is known between two keys -/
def KeyJ (X : Cx) (H1 : Hp) (s1 : Shared) (k : V → Int × Str) (xs : List V) (a kS : Addr) (ks : List Value) (s' : Shared) : Prop :=
  ∃ H' : Hp, s'.os = s1.os ∧ AllBare s'.gens ∧ Un (frs X.stack) [] H1 H' s1.heap s'.heap ∧ HOk X.prog X.w H' s'.heap ∧ (∀ b o, H1 b = some o → H' b = some o) ∧ H' a = none ∧ H' kS = none ∧ s1.heap.objs.size ≤ a ∧ s1.heap.objs.size ≤ kS ∧
    ks.length ≤ xs.length ∧ ∀ (i : Nat) (u : Value), ks[i]? = some u → ∃ p y, u = Value.ref p ∧ xs[i]? = some y ∧ H' p = some (.tup [.int (k y).1, .str (k y).2])
section
variable {X : Cx}
theorem zip_get {ks its : List Value} {p : Keyed} (h : p ∈ ks.zip its) : ∃ i : Nat, ks[i]? = some p.1 ∧ its[i]? = some p.2 := by
  obtain ⟨i, hi, e⟩ := List.mem_iff_getElem.mp h
  rw [List.length_zip] at hi
  refine ⟨i, ?_, ?_⟩
  · rw [List.getElem?_eq_getElem (by omega), ← e, List.getElem_zip]
  · rw [List.getElem?_eq_getElem (by omega), ← e, List.getElem_zip]
theorem pe_sortLam {T : List (Addr × Str)} {N ps : List Str} {c P : Addr} {k : Nat} {e : Expr} {te tk : TE} {params : Arguments} {body : Expr} {scope : Scope} {p lpos kpos pos : Pos}
    (hg : Gl X "sorted") (hm : X.mg "sorted" = none) (hr : Room (k + 3) X.A) (TB : LamX.TabB X.base X.mg c P) (hcode : X.env.code = .ref c) (hmT : (P, X.env.qual ++ "<lambda>") ∈ T) (hu : ∀ p ∈ T, p.1 = P → p.2 = X.env.qual ++ "<lambda>")
    (S : FnScope N ps scope) (hdef : defaultsOf params X.env = ([], [])) (hclo : ∀ cells, cloFrom cells scope.names [] = []) (h1 : ps.length = 1)
    (hbind : ∀ (q : Str) (pm cv ctv : Value) (us : List Value), us.length = 1 → bindArgs (PySem.W.kla_fn "<lambda>" q params body scope [] pm cv ctv) ⟨us, []⟩ = pure (ps.zip us))
    (ha : PA X [e] (tCons te tNil)) (hbody : ∀ (A : Around) (outer : List Env) (s : Shared) (H : Hp) (E : XK) (f c' : Addr), PE (cxOf CX0 X.prog X.w X.K X.mg X.base N (X.env.qual ++ "<lambda>") scope f (.ref c') A outer s H E) body tk)
    (hst : backTo pos (starEach [e] X.env) = (false, eval e X.env) :: backTo pos (starEach [] X.env) := by rfl) (hpl : (backTo pos (starEach [e] X.env)).any (·.1) = false := by rfl) :
    PE X (.Call (.Name "sorted" p) [e] [⟨some "key", .Lambda params body scope lpos, kpos⟩] pos) (tSortLam X.K T N tk te) := by
  refine ⟨fun pins s0 σ H0 Q I0 h => ?_⟩
  refine wpAny_Call_Name_kw (ld_blt I0 hg hm (show bootBuiltins "sorted" = some (.builtin "sorted") by decide +kernel) ?_ (by decide) (by decide))
  refine PyProof.Rows.callWith_kw (thn (ha.run pos pins s0 σ H0 (fun vs H1 => match vs with | [x] => SortLamQ X.K T N tk Q x H1 | _ => False) I0 h) fun us s h2 => ?kw) hst hpl rfl rfl
  case kw =>
    obtain ⟨vs, H, I, rv, q⟩ := h2
    obtain ⟨x, rfl⟩ : ∃ x, vs = [x] := by
      match vs, q with
      | [x], _ => exact ⟨x, rfl⟩
    obtain ⟨a0, xs, kk, rfl, hs, hrf, hT, hk, hq⟩ := (show SortLamQ X.K T N tk Q x H from q)
    obtain ⟨u0, rfl, ru⟩ := vals1 rv
    obtain rfl : u0 = Value.ref a0 := ru
    show wpAny _ _ (evalAll [(do let v ← eval (.Lambda params body scope lpos) X.env; standAt pos; pure v)]) _ _ s
    refine wpAny_evalAll_cons (wpAny_bind (LamX.lam_make2 I TB hcode hmT hu hT hdef (fun y hy e0 => ?_) fun f c' pm ctv H1 s1 I1 eN T1 hf hfn hfr hco => wpAny_bind (wpAny_standAt (wpAny_pure ?_))))
    · exact absurd e0 (S.nofree y hy)
    refine wpAny_evalAll_nil ?_
    show wpAny _ _ (call (.builtin "sorted") [.ref a0] [(Str.ofString "key", .ref f)]) _ _ s1
    rw [hclo] at hf
    have hs1 : SqL X.K H1 a0 xs := by
      rcases hs with (z | ⟨o, z⟩) | z
      · exact .inl (.inl (eN _ _ z (fun ps e => by cases e)))
      · exact .inl (.inr ⟨o, eN _ _ z (fun ps e => by cases e)⟩)
      · exact .inr z
    obtain ⟨its, rvs, hl, hz⟩ := I1.list hs1
    obtain ⟨e1, e2⟩ := refs_back rvs hrf
    have xlen : its.length = xs.length := rvs.length.symm
    have nofr : ∀ b, s1.heap.objs.size ≤ b → b ∉ frs X.stack := fun b hb z => by
      rcases List.mem_cons.mp (I1.stkSub _ z) with e | e
      · have h1 := I1.lt
        rw [← e] at h1
        exact Nat.lt_irrefl _ (Nat.lt_of_lt_of_le h1 hb)
      · exact I1.nofs hb e
    refine sorted_key (KeyJ X H1 s1 kk xs) hl.isList (by rw [xlen]; exact hz) ?start ?turn ?done
    case start =>
      intro a kS h e1' kp ha hkS hne ho1 ho2
      refine ⟨H1, rfl, I1.bare, Un.kept kp, I1.hok.kept kp, fun _ _ z => z, I1.hok.fresh ha, I1.hok.fresh hkS, ha, hkS, Nat.zero_le _, fun i u z => ?_⟩
      simp at z
    case turn =>
      rintro a kS e e1' ks u s' hu' ⟨H', os, bare, un, hok, ext, na, nk, ha, hkS, hle, hkeys⟩ hne ho1 ho2
      obtain ⟨y, hy, ry⟩ : ∃ y, xs[ks.length]? = some y ∧ RelV y u := by
        have hlt : ks.length < xs.length := by
          rw [← xlen]
          exact (List.getElem?_eq_some_iff.mp hu').1
        obtain ⟨u2, q1, q2⟩ := rvs.get (List.getElem?_eq_getElem hlt)
        rw [hu'] at q1
        cases q1
        exact ⟨_, List.getElem?_eq_getElem hlt, q2⟩
      have ym : y ∈ xs := List.mem_of_getElem? hy
      have I2 : Inv X pins σ H' s' := I1.call' (ch := []) os un hok bare fun b z => absurd z (by simp)
      have e0 := (I2.env0.in1).in1
      have of1 : s'.heap.get? f = _ := un.keep f _ hf hfn hfr (by simp)
      have eN2 : LamX.ExtN H H' := eN.trans fun b o z _ => ext b o z
      have rc : codeAny (model X.prog X.w) X.A.in1.in1 (.call (.ref f) ⟨[u], []⟩) (CR CX0 X.stack X.prog X.w H' s' (fun v H3 => ∃ p, v = V.ref p ∧ H' p = none ∧ H3 = upd H' p (.tup [.int (kk y).1, .str (kk y).2])) E0) s' :=
        lam_run (N := N) (ps := ps) (us := [u]) (vs := [y]) of1 S (hbind _ _ _ _ _ rfl) (hr.in1.in1 : Room (k + 1) X.A.in1.in1) e0 (ext _ _ hco) (.cons ry .nil) h1.symm (hbody _ _ _ _ _ _ _) (hk y ym H' eN2 _ fun p hp => ⟨p, rfl, hp, rfl⟩)
      refine wpAny_call (codeAny_mono rc fun r s2 hr2 => ?_)
      cases r with
      | error e => exact (show False from hr2).elim
      | ok fl =>
        cases fl with
        | next => exact False.elim hr2
        | brk => exact False.elim hr2
        | cont => exact False.elim hr2
        | ret v =>
          obtain ⟨v', H3, os2, bare2, un2, hok2, r2, p, rfl, np, rfl⟩ := hr2
          obtain rfl : v = Value.ref p := r2
          have kk1 := un2.keep kS _ ho1 nk (nofr _ hkS) (by simp)
          have kk2 := un2.keep a _ ho2 na (nofr _ ha) (by simp)
          have n1 := un2.free kS _ ho1 nk (by simp)
          have n2 := un2.free a _ ho2 na (by simp)
          have ext3 : ∀ b o, H' b = some o → upd H' p (.tup [.int (kk y).1, .str (kk y).2]) b = some o := fun b o z => by
            rw [upd_ne (ne_of_none z np)]
            exact z
          refine ⟨kk1, kk2, fun h3 k3 => ⟨upd H' p (.tup [.int (kk y).1, .str (kk y).2]), os2.trans os, bare2, un_but (un.trans un2) fun b o hb q => k3 b o (fun z => by rw [z] at hb; exact Nat.lt_irrefl _ (Nat.lt_of_lt_of_le hb hkS)) q, hok_but hok2 fun b o hb q => k3 b o (fun z => hb (by rw [z]; exact n1)) q,
            fun b o z => ext3 b o (ext b o z), n2, n1, ha, hkS, ?_, fun i w hi => ?_⟩⟩
          · rw [List.length_append, List.length_singleton]
            exact (List.getElem?_eq_some_iff.mp hy).1
          · by_cases hlt : i < ks.length
            · rw [List.getElem?_append_left hlt] at hi
              obtain ⟨p', y', q1, q2, q3⟩ := hkeys i w hi
              exact ⟨p', y', q1, q2, ext3 _ _ q3⟩
            · rw [List.getElem?_append_right (by omega)] at hi
              have ei : i - ks.length = 0 := by
                have := (List.getElem?_eq_some_iff.mp hi).1
                simp at this
                omega
              rw [ei] at hi
              have : w = Value.ref p := by simpa using hi.symm
              subst this
              have e3 : i = ks.length := by omega
              rw [e3]
              exact ⟨p, y, rfl, hy, upd_same⟩
    case done =>
      rintro a kS e e1' ks s' ⟨H', os, bare, un, hok, ext, na, nk, ha, hkS, hle, hkeys⟩ hlen hne ho1 ho2
      have at_ : ∀ (i : Nat) (v : Value), ks[i]? = some v → ∃ y, xs[i]? = some y ∧ kvOf H' v = kk y ∧ IsT2 s'.heap v (kvOf H' v) [] := fun i v hi => by
        obtain ⟨p, y, rfl, q1, q2⟩ := hkeys i v hi
        have e3 := kvOf_at q2
        refine ⟨y, q1, e3, ?_⟩
        rw [e3]
        obtain ⟨_, its2, r2, o, ho, hc, n, hd⟩ := hok _ _ q2
        obtain ⟨u1, u2, rfl, ri, rj⟩ := vals2 r2
        obtain ⟨t1, rfl⟩ := ri
        obtain ⟨t2, rfl⟩ := rj
        exact ⟨p, o, t1, t2, n, rfl, ho, hc, hd⟩
      have tup : ∀ v ∈ ks, IsT2 s'.heap v (kvOf H' v) [] := fun v hv => by
        obtain ⟨i, hi⟩ := List.mem_iff_getElem?.mp hv
        obtain ⟨y, _, _, q⟩ := at_ i v hi
        exact q
      refine ⟨SrtO.lt2 fun v u => kLt (kvOf H' v) (kvOf H' u), SrtO.swo2 (kLt_swo fun v => kvOf H' v), fun h2 => ⟨tuples' true, fun Q2 E2 hq2 => ?_, t2_cmp (rest := fun _ => []) tup (fun _ _ _ z => absurd z (by simp)) fun _ _ _ _ _ => rfl⟩, fun ps h' c hs hb kp ho => ?_⟩
      · obtain ⟨fs, f1, f2, f3⟩ := t2_firsts (rest := fun _ => []) tup
        refine PySem.W.kat_kind (T := .type "int") f1 (by omega) (fun f hm => ?_) (by rfl) ?_
        · obtain ⟨x, t, rfl⟩ := f3 f hm
          exact PySem.W.Looks.now
        · have e : (Value.type "int" != Value.type "tuple") = true := by first | decide +kernel | rfl | decide
          rw [e]
          exact hq2
      · have pm : ∀ p ∈ ps, kvOf H' p.1 = kk (backV p.2) ∧ p.2 ∈ its := fun p hp => by
          obtain ⟨i, q1, q2⟩ := zip_get (hb.perm.mem_iff.mp hp)
          obtain ⟨y, q3, q4, _⟩ := at_ i _ q1
          rw [e1, List.getElem?_map, q2] at q3
          have q5 : backV p.2 = y := by simpa using q3
          rw [q5]
          exact ⟨q4, List.mem_of_getElem? q2⟩
        have outm : ∀ u ∈ ps.map (·.2), ∃ a, u = Value.ref a := fun u hu => by
          obtain ⟨p, hp, rfl⟩ := List.mem_map.mp hu
          exact e2 _ (pm p hp).2
        have perm : (ps.map (·.2)).Perm its := by
          have z := hb.perm.map (fun p : Keyed => p.2)
          rwa [List.map_snd_zip (by omega)] at z
        have permV : ((ps.map (·.2)).map backV).Perm xs := by
          rw [e1]
          exact perm.map backV
        have srt : SrtO.Srtd (fun x y => kLt (kk x) (kk y)) ((ps.map (·.2)).map backV) := by
          rw [List.map_map]
          refine List.pairwise_map.mpr ?_
          refine List.Pairwise.imp_of_mem (fun {p q} hp hq z => ?_) hs
          have z' : kLt (kvOf H' q.1) (kvOf H' p.1) = false := z
          rw [(pm p hp).1, (pm q hq).1] at z'
          exact z'
        have olen : ((ps.map (·.2)).map backV).length ≤ sizeLine := by
          rw [permV.length_eq]
          exact hz
        have kp' : ∀ b o, H' b ≠ none → s'.heap.get? b = some o → h'.get? b = some o := fun b o hb q => kp b o (fun z => hb (by rw [z]; exact na)) (fun z => hb (by rw [z]; exact nk)) q
        refine ⟨.ref a, upd H' a (.lst ((ps.map (·.2)).map backV)), ?_, rfl, hq _ a H' srt permV (eN.trans fun b o z _ => ext b o z) (T1.ext ext) na⟩
        refine I1.call' (ch := []) (s' := { s' with heap := h' }) os (un_late (un_but un fun b o hb q => kp b o (fun z => by rw [z] at hb; exact Nat.lt_irrefl _ (Nat.lt_of_lt_of_le hb ha)) (fun z => by rw [z] at hb; exact Nat.lt_irrefl _ (Nat.lt_of_lt_of_le hb hkS)) q) ha na)
          (hok_late (hok_but hok kp') na ⟨olen, _, c, vals_back outm, ho⟩) bare fun b z => absurd z (by simp)
end
end Sk
namespace Sk
open PySem PySem.Spec PyProof.Rows L2
theorem ne_of_none' {H : Hp} {a b : Addr} {o : HO} (h : upd H b o a = none) : a ≠ b := fun z => by
  rw [z, upd_same] at h
  cases h
/-! ### own functions by name -/
structure Fn (P : Program) (w : World) (K : PySem.W.Frag) (mg : Str → Option Value) (base : Heap) (x : Str) (k : Nat) (ps : List Str) (sp : Sp) : Prop where
  ex : ∃ (f : Addr) (fd : FuncData), FnOk P w K mg base CX0 k f fd ps sp ∧ mg x = some (.ref f) ∧ PySem.W.keepIn K (.ref f) = true ∧ Binds K fd ps []
/-- with keywords alone, n values written, the keywords ks -/
structure FnK (P : Program) (w : World) (K : PySem.W.Frag) (mg : Str → Option Value) (base : Heap) (x : Str) (k : Nat) (ps : List Str) (sp : Sp) (n : Nat) (ks : List Str) (gV : List V → List V → List V) : Prop where
  ex : ∃ (f : Addr) (fd : FuncData) (g : List Value → List Value → List Value), FnOk P w K mg base CX0 k f fd ps sp ∧ mg x = some (.ref f) ∧ PySem.W.keepIn K (.ref f) = true ∧ KBn K fd ps n ks g gV
section
variable {X : Cx} {x : Str} {k n : Nat} {ps ks : List Str} {sp : Sp} {gV : List V → List V → List V} {e : Expr} {es : List Expr} {t tk : TA} {kws : List Keyword} {p pos : Pos}
theorem pe_fn (F : Fn X.prog X.w X.K X.mg X.base x k ps sp) (hr : Room k X.A) (ha : PA X (e :: es) t) (hg : Gl X x := by rfl) (hdb : (x == ("__debug__" : Str)) = false := by decide)
    (he : starEach (e :: es) X.env = (false, eval e X.env) :: starEach es X.env := by rfl) (hpl : (backTo pos (starEach es X.env)).any (·.1) = false := by rfl) : PE X (.Call (.Name x p) (e :: es) [] pos) (tCall sp [] E0 t) := by
  obtain ⟨f, fd, F1, hm, hk, hb⟩ := F.ex
  exact pe_call F1 hr hg hm hk hb .nil pass0 ha hdb he hpl
theorem pe_fnK (F : FnK X.prog X.w X.K X.mg X.base x k ps sp n ks gV) (hr : Room k X.A) (ha : PA X (e :: es) t) (hkw : PK X kws tk) (hg : Gl X x := by rfl) (hdb : (x == ("__debug__" : Str)) = false := by decide)
    (hall : (backToKw pos (keywordEach kws X.env)).all (·.1.isSome) = true := by rfl) (hks : (backToKw pos (keywordEach kws X.env)).filterMap (·.1) = ks := by rfl)
    (he : starEach (e :: es) X.env = (false, eval e X.env) :: starEach es X.env := by rfl)
    (hpl : ((backTo pos (starEach (e :: es) X.env)).any (·.1) || (backToKw pos (keywordEach kws X.env)).any (·.1.isNone)) = false := by rfl) : PE X (.Call (.Name x p) (e :: es) kws pos) (tCallN n ks.length sp gV E0 t tk) := by
  obtain ⟨f, fd, g, F1, hm, hk, hb⟩ := F.ex
  exact pe_callN F1 hr hg hm hk hb pass0 ha hkw hall hks hdb he hpl
theorem pe_fnK0 (F : FnK X.prog X.w X.K X.mg X.base x k ps sp 0 ks gV) (hr : Room k X.A) (hkw : PK X kws tk) (hg : Gl X x := by rfl) (hdb : (x == ("__debug__" : Str)) = false := by decide)
    (hall : (backToKw pos (keywordEach kws X.env)).all (·.1.isSome) = true := by rfl) (hks : (backToKw pos (keywordEach kws X.env)).filterMap (·.1) = ks := by rfl)
    (hpl : ((backTo pos (starEach [] X.env)).any (·.1) || (backToKw pos (keywordEach kws X.env)).any (·.1.isNone)) = false := by rfl) : PE X (.Call (.Name x p) [] kws pos) (tCallN 0 ks.length sp gV E0 tNil tk) := by
  obtain ⟨f, fd, g, F1, hm, hk, hb⟩ := F.ex
  refine ⟨fun pins s σ H Q I h => ?_⟩
  refine wpAny_Call_Name_kw (ld_glob I hg hm ?_ hdb)
  refine PySem.W.callWith_KW0 (h₀ := X.base) I.ok.mod.kin hk hall ?_ hpl
  refine thn (hkw.run pos pins s σ H _ I h) fun ws s2 ⟨zs, H2, I2, rz, l1, l2, q2⟩ => ⟨I2.kIn, ?_⟩
  rw [hks]
  exact run_fnN (us := []) (vs := []) F1 hr hb pass0 I2 .nil rz rfl l2 q2
/-- constants of the module -/
theorem pe_gs {z : Str} (h : ∃ t, X.mg x = some (.str z t)) (hg : Gl X x := by rfl) (hd : (x == ("__debug__" : Str)) = false := by decide) : PE X (.Name x pos) (tC (.str z)) := by
  obtain ⟨t, e⟩ := h
  exact pe_glob hg e ⟨t, rfl⟩ hd
theorem pe_gi {z : Int} (h : ∃ t, X.mg x = some (.int z t)) (hg : Gl X x := by rfl) (hd : (x == ("__debug__" : Str)) = false := by decide) : PE X (.Name x pos) (tC (.int z)) := by
  obtain ⟨t, e⟩ := h
  exact pe_glob hg e ⟨t, rfl⟩ hd
end
/-! ### heaps -/
/-- a heap grows: all but tables stand, the tables T stay tables -/
structure Gr (T : List (Addr × Str)) (H H' : Hp) : Prop where
  ext : LamX.ExtN H H'
  tab : LamX.Tabs T H → LamX.Tabs T H'
theorem Gr.refl {T : List (Addr × Str)} (H : Hp) : Gr T H H := ⟨LamX.ExtN.refl H, id⟩
theorem Gr.trans {T : List (Addr × Str)} {H H1 H2 : Hp} (a : Gr T H H1) (b : Gr T H1 H2) : Gr T H H2 := ⟨a.ext.trans b.ext, fun t => b.tab (a.tab t)⟩
theorem Gr.same {T : List (Addr × Str)} {H H' : Hp} (s : Same H H') : Gr T H H' := ⟨LamX.ExtN.of s, fun t => t.ext s⟩
theorem Same.upd {H : Hp} {p : Addr} {o : HO} (h : H p = none) : Same H (upd H p o) := fun b u e => by
  rw [upd_ne (ne_of_none e h)]
  exact e
theorem Gr.new {T : List (Addr × Str)} {H : Hp} {p : Addr} {o : HO} (h : H p = none) : Gr T H (upd H p o) := Gr.same (Same.upd h)
/-- neither a table nor a code object -/
def NoTab (o : HO) : Prop := (∀ ps, o ≠ .tbl ps) ∧ ∀ f, o ≠ .ext f
theorem NoTab.lst {xs : List V} : NoTab (.lst xs) := ⟨(fun _ e => by cases e), (fun _ e => by cases e)⟩
theorem NoTab.tup {xs : List V} : NoTab (.tup xs) := ⟨(fun _ e => by cases e), (fun _ e => by cases e)⟩
theorem NoTab.dK {xs : List (Key × V)} : NoTab (.dK xs) := ⟨(fun _ e => by cases e), (fun _ e => by cases e)⟩
theorem NoTab.ins {C dx : Addr} {fs : List (Str × V)} : NoTab (.ins C dx fs) := ⟨(fun _ e => by cases e), (fun _ e => by cases e)⟩
theorem Gr.at {T : List (Addr × Str)} {H H' : Hp} {a : Addr} {o : HO} (g : Gr T H H') (h : H a = some o) (n : NoTab o) : H' a = some o := g.ext a o h n.1
theorem Gr.free {T : List (Addr × Str)} {H H' : Hp} {a : Addr} (g : Gr T H H') (h : H' a = none) (n : ∀ ps, H a ≠ some (.tbl ps)) : H a = none := by
  cases q : H a with
  | none => rfl
  | some o =>
    have := g.ext a o q (fun ps e => n ps (by rw [q, e]))
    rw [h] at this
    cases this
theorem Gr.ext_seq {T : List (Addr × Str)} {K : PySem.W.Frag} {H H' : Hp} {a : Addr} {xs : List V} (g : Gr T H H') (h : SqL K H a xs) : SqL K H' a xs := by
  rcases h with (z | ⟨o, z⟩) | z
  · exact .inl (.inl (g.ext _ _ z (fun ps e => by cases e)))
  · exact .inl (.inr ⟨o, g.ext _ _ z (fun ps e => by cases e)⟩)
  · exact .inr z
/-- nothing but a table stands there -/
def Nw (H : Hp) (a : Addr) : Prop := ∀ u, H a = some u → ∃ ps, u = .tbl ps
theorem Nw.of {H : Hp} {a : Addr} (h : H a = none) : Nw H a := fun u e => by
  rw [h] at e
  cases e
theorem Gr.nw {T : List (Addr × Str)} {H H' : Hp} {a : Addr} (g : Gr T H H') (h : Nw H' a) : Nw H a := fun u e => by
  cases u with
  | tbl ps => exact ⟨ps, rfl⟩
  | _ =>
    obtain ⟨ps, z⟩ := h _ (g.ext _ _ e (fun ps z => by cases z))
    cases z
/-- a cell that H does not know is written -/
theorem Gr.mut {T : List (Addr × Str)} {H H' : Hp} {a : Addr} {o0 o : HO} (g : Gr T H H') (h : Nw H a) (h0 : H' a = some o0) (nt : NoTab o0) : Gr T H (upd H' a o) := by
  refine ⟨fun b u e n => ?_, fun t p hp => ?_⟩
  · rw [upd_ne (fun z => by
      rw [z] at e
      obtain ⟨ps, q⟩ := h _ e
      exact n ps q)]
    exact g.ext b u e n
  · obtain ⟨ps, b1, b2, b3⟩ := g.tab t p hp
    have na : p.1 ≠ a := fun z => by
      rw [z, h0] at b1
      cases b1
      exact nt.1 ps rfl
    refine ⟨ps, by rw [upd_ne na]; exact b1, b2, fun po cv hc => ?_⟩
    obtain ⟨c', e1, e2⟩ := b3 po cv hc
    refine ⟨c', e1, ?_⟩
    rw [upd_ne (fun z => by
      rw [z, h0] at e2
      cases e2
      exact nt.2 _ rfl)]
    exact e2
/-- a frozen part of the heap -/
structure Fz (G H : Hp) : Prop where
  sub : Same G H
  nt : ∀ a o, G a = some o → NoTab o
theorem Fz.emp {H : Hp} : Fz (fun _ => none) H := ⟨(fun _ _ e => by cases e), (fun _ _ e => by cases e)⟩
theorem Fz.gr {T : List (Addr × Str)} {G H H' : Hp} (f : Fz G H) (g : Gr T H H') : Fz G H' := ⟨fun b o e => g.ext b o (f.sub b o e) (f.nt b o e).1, f.nt⟩
theorem Fz.free {G H : Hp} {a : Addr} (f : Fz G H) (h : H a = none) : G a = none := f.sub.free h
theorem Fz.put {G H : Hp} {a : Addr} {o : HO} (f : Fz G H) (h : G a = none) : Fz G (upd H a o) := ⟨fun b u e => by
  rw [upd_ne (ne_of_none e h)]
  exact f.sub b u e, f.nt⟩
/-- what stands at a is frozen -/
theorem Fz.add {G H : Hp} {a : Addr} {o : HO} (f : Fz G H) (h : H a = some o) (n : NoTab o) : Fz (upd G a o) H := ⟨fun b u e => by
  by_cases hb : b = a
  · rw [hb] at e ⊢
    rw [upd_same] at e
    cases e
    exact h
  · rw [upd_ne hb] at e
    exact f.sub b u e, fun b u e => by
  by_cases hb : b = a
  · rw [hb, upd_same] at e
    cases e
    exact n
  · rw [upd_ne hb] at e
    exact f.nt b u e⟩
theorem Tabs.upd {T : List (Addr × Str)} {H : Hp} {d : Addr} {u o : HO} (t : LamX.Tabs T H) (h : H d = some u) (nt : NoTab u) : LamX.Tabs T (upd H d o) := fun p hp => by
  obtain ⟨ps, b1, b2, b3⟩ := t p hp
  have na : p.1 ≠ d := fun z => by
    rw [z, h] at b1
    cases b1
    exact nt.1 ps rfl
  refine ⟨ps, by rw [upd_ne na]; exact b1, b2, fun po cv hc => ?_⟩
  obtain ⟨c', e1, e2⟩ := b3 po cv hc
  refine ⟨c', e1, ?_⟩
  rw [upd_ne (fun z => by
    rw [z, h] at e2
    cases e2
    exact nt.2 _ rfl)]
  exact e2
theorem NoTab.frz {o : Obj} {u : HO} : NoTab (.frz o u) := ⟨(fun _ e => by cases e), (fun _ e => by cases e)⟩
/-- a cell was locked meanwhile -/
theorem Gr.unlock {T : List (Addr × Str)} {H H' : Hp} {d : Addr} {od : Obj} {u : HO} (hd : H d = some u) (nt : NoTab u) (g : Gr T (L2.upd H d (.frz od u)) H') (hd' : H' d = some (.frz od u)) : Gr T H (L2.upd H' d u) := by
  refine ⟨fun b o e n => ?_, fun t => Tabs.upd (g.tab (Tabs.upd t hd nt)) hd' .frz⟩
  by_cases hb : b = d
  · rw [hb, hd] at e
    cases e
    rw [hb, upd_same]
  · rw [upd_ne hb]
    exact g.ext b o (by rw [upd_ne hb]; exact e) n
/-! ### the source of draws -/
/-- the source at p, its digits at q; drawn at most n times from the mixed sequence -/
def SrcAt (p q : Addr) (n : Nat) (H : Hp) : Prop := ∃ (ds : List Int) (x m c : Int), H p = some (.lst [.ref q, .int x, .int m, .int c]) ∧ H q = some (.lst (ds.map V.int)) ∧ (∀ d ∈ ds, 0 ≤ d) ∧ 0 ≤ x ∧ 0 ≤ m ∧ m < 2305843009213693951 ∧ 0 ≤ c ∧ c ≤ n
/-- the source, the cells L that may change, the frozen part G -/
structure Hs (T : List (Addr × Str)) (p : Addr) (n : Nat) (L : List (Addr × HO)) (G H : Hp) : Prop where
  src : ∃ q, SrcAt p q n H ∧ G q = none ∧ q ≠ p ∧ ∀ x ∈ L, x.1 ≠ q
  fz : Fz G H
  gp : G p = none
  cel : ∀ x ∈ L, H x.1 = some x.2 ∧ G x.1 = none ∧ x.1 ≠ p ∧ NoTab x.2
  nod : (L.map (·.1)).Nodup
  tab : LamX.Tabs T H
section
variable {T : List (Addr × Str)} {p : Addr} {n : Nat} {L : List (Addr × HO)} {G H H' : Hp}
theorem SrcAt.mono {q : Addr} {m : Nat} (s : SrcAt p q n H) (h : n ≤ m) : SrcAt p q m H := by
  obtain ⟨ds, x, mm, c, h1, h2, h3, h4, h5, h6, h7, h8⟩ := s
  exact ⟨ds, x, mm, c, h1, h2, h3, h4, h5, h6, h7, by omega⟩
theorem Hs.mono {m : Nat} (s : Hs T p n L G H) (h : n ≤ m) : Hs T p m L G H := by
  obtain ⟨⟨q, a, b⟩, c, d, e, f, g⟩ := s
  exact ⟨⟨q, a.mono h, b⟩, c, d, e, f, g⟩
/-- all that stood stands -/
theorem Hs.gr (s : Hs T p n L G H) (g : Gr T H H') : Hs T p n L G H' := by
  obtain ⟨⟨q, ⟨ds, x, m, c, h1, h2, h3⟩, b⟩, fz, gp, cel, nod, tab⟩ := s
  exact ⟨⟨q, ⟨ds, x, m, c, g.at h1 .lst, g.at h2 .lst, h3⟩, b⟩, fz.gr g, gp, fun x hx => ⟨g.at (cel x hx).1 (cel x hx).2.2.2, (cel x hx).2⟩, nod, g.tab tab⟩
/-- a new cell -/
theorem Hs.new {a : Addr} {o : HO} (s : Hs T p n L G H) (h : H a = none) (nt : NoTab o) : Hs T p n ((a, o) :: L) G (upd H a o) := by
  have s2 := s.gr (Gr.new (o := o) h)
  obtain ⟨⟨q, a1, a2, a3, a4⟩, fz, gp, cel, nod, tab⟩ := s
  obtain ⟨ds, x, m, c, h1, h2, h3⟩ := a1
  refine ⟨⟨q, ⟨ds, x, m, c, ?_, ?_, h3⟩, a2, a3, fun y hy => ?_⟩, s2.fz, gp, fun y hy => ?_, ?_, s2.tab⟩
  · rw [upd_ne (ne_of_none h1 h)]
    exact h1
  · rw [upd_ne (ne_of_none h2 h)]
    exact h2
  · rcases List.mem_cons.mp hy with rfl | hy
    · exact (ne_of_none h2 h).symm
    · exact a4 y hy
  · rcases List.mem_cons.mp hy with rfl | hy
    · exact ⟨upd_same, fz.free h, (ne_of_none h1 h).symm, nt⟩
    · exact s2.cel y hy
  · rw [List.map_cons, List.nodup_cons]
    refine ⟨fun hm => ?_, nod⟩
    obtain ⟨y, hy, e⟩ := List.mem_map.mp hm
    have := (cel y hy).1
    rw [e, h] at this
    cases this
/-- what stands at the i-th cell -/
theorem Hs.get {i : Nat} {a : Addr} {o : HO} (s : Hs T p n L G H) (h : L[i]? = some (a, o)) : H a = some o := (s.cel (a, o) (List.mem_of_getElem? h)).1
/-- the i-th cell is written -/
theorem Hs.put {i : Nat} {a : Addr} {o o' : HO} (s : Hs T p n L G H) (h : L[i]? = some (a, o)) (nt : NoTab o') : Hs T p n (L.set i (a, o')) G (upd H a o') := by
  have hm := List.mem_of_getElem? h
  obtain ⟨⟨q, ⟨ds, x, m, c, h1, h2, h3⟩, a2, a3, a4⟩, fz, gp, cel, nod, tab⟩ := s
  obtain ⟨c1, c2, c3, c4⟩ := cel _ hm
  have hi : i < L.length := (List.getElem?_eq_some_iff.mp h).1
  have ei : L[i] = (a, o) := (List.getElem?_eq_some_iff.mp h).2
  have sub : ∀ y ∈ L.set i (a, o'), y = (a, o') ∨ (y ∈ L ∧ y.1 ≠ a) := fun y hy => by
    obtain ⟨j, hj, ej⟩ := List.mem_iff_getElem.mp hy
    by_cases hij : i = j
    · subst hij
      rw [List.getElem_set_self] at ej
      exact .inl ej.symm
    · rw [List.getElem_set_ne hij] at ej
      refine .inr ⟨by rw [← ej]; exact List.getElem_mem _, fun z => hij ?_⟩
      rw [List.length_set] at hj
      have q1 : (L.map (·.1))[i]'(by rw [List.length_map]; exact hi) = (L.map (·.1))[j]'(by rw [List.length_map]; exact hj) := by
        rw [List.getElem_map, List.getElem_map, ei, ej, z]
      exact (List.getElem_inj nod).mp q1
  refine ⟨⟨q, ⟨ds, x, m, c, ?_, ?_, h3⟩, a2, a3, fun y hy => ?_⟩, fz.put c2, gp, fun y hy => ?_, ?_, fun t ht => ?_⟩
  · rw [upd_ne (Ne.symm c3)]
    exact h1
  · rw [upd_ne (Ne.symm (show a ≠ q from a4 _ hm))]
    exact h2
  · rcases sub y hy with rfl | ⟨hy, _⟩
    · exact (a4 _ hm : a ≠ q)
    · exact a4 y hy
  · rcases sub y hy with rfl | ⟨hy, z⟩
    · exact ⟨upd_same, c2, c3, nt⟩
    · rw [upd_ne z]
      exact cel y hy
  · rw [List.map_set]
    have : (L.map (·.1)).set i a = L.map (·.1) := by
      have e2 : (L.map (·.1))[i]'(by rw [List.length_map]; exact hi) = a := by rw [List.getElem_map, ei]
      conv => rhs; rw [← List.set_getElem_self (as := L.map (·.1)) (i := i) (by rw [List.length_map]; exact hi)]
      rw [e2]
    show ((L.map (·.1)).set i a).Nodup
    rw [this]
    exact nod
  · obtain ⟨ps, b1, b2, b3⟩ := tab t ht
    have na : t.1 ≠ a := fun z => by
      rw [z, c1] at b1
      cases b1
      exact c4.1 ps rfl
    refine ⟨ps, by rw [upd_ne na]; exact b1, b2, fun po cv hc => ?_⟩
    obtain ⟨c', e1, e2⟩ := b3 po cv hc
    refine ⟨c', e1, ?_⟩
    by_cases hca : c' = a
    · exfalso
      rw [hca, c1] at e2
      cases e2
      exact c4.2 _ rfl
    · rw [upd_ne hca]
      exact e2
/-- fewer cells -/
theorem Hs.sub {L' : List (Addr × HO)} (s : Hs T p n L G H) (h : L'.Sublist L) : Hs T p n L' G H := by
  obtain ⟨⟨q, a, b, c, d⟩, fz, gp, cel, nod, tab⟩ := s
  exact ⟨⟨q, a, b, c, fun x hx => d x (h.subset hx)⟩, fz, gp, fun x hx => cel x (h.subset hx), nod.sublist (h.map _), tab⟩
/-- the first cell is frozen -/
theorem Hs.freeze {a : Addr} {o : HO} (s : Hs T p n ((a, o) :: L) G H) : Hs T p n L (upd G a o) H := by
  obtain ⟨⟨q, h1, h2, h3, h4⟩, fz, gp, cel, nod, tab⟩ := s
  obtain ⟨c1, c2, c3, c4⟩ := cel _ (List.mem_cons_self ..)
  rw [List.map_cons, List.nodup_cons] at nod
  refine ⟨⟨q, h1, ?_, h3, fun x hx => h4 x (List.mem_cons_of_mem _ hx)⟩, fz.add c1 c4, ?_, fun x hx => ?_, nod.2, tab⟩
  · rw [upd_ne (Ne.symm (show a ≠ q from h4 _ (List.mem_cons_self ..)))]
    exact h2
  · rw [upd_ne (Ne.symm c3)]
    exact gp
  · obtain ⟨d1, d2, d3, d4⟩ := cel x (List.mem_cons_of_mem _ hx)
    refine ⟨d1, ?_, d3, d4⟩
    rw [upd_ne (fun z => nod.1 (List.mem_map.mpr ⟨x, hx, z⟩))]
    exact d2
/-- the heap grew, and at a new place stands o -/
theorem Hs.grow {a : Addr} {o : HO} (s : Hs T p n L G H) (g : Gr T H H') (h : Nw H a) (e : H' a = some o) (nt : NoTab o) : Hs T p n ((a, o) :: L) G H' := by
  have s2 := s.gr g
  have no : ∀ u, H a = some u → ¬ NoTab u := fun u hu n2 => by
    obtain ⟨ps, z⟩ := h u hu
    exact n2.1 ps z
  obtain ⟨⟨q, ⟨ds, x, m, c, h1, h2, _⟩, a2, a3, a4⟩, fz, gp, cel, nod, tab⟩ := s
  obtain ⟨⟨q', b1, b2, b3, b4⟩, fz', _, cel', _, tab'⟩ := s2
  refine ⟨⟨q', b1, b2, b3, fun y hy => ?_⟩, fz', gp, fun y hy => ?_, ?_, tab'⟩
  · rcases List.mem_cons.mp hy with rfl | hy
    · intro z
      obtain ⟨ds', x', m', c', k1, k2, _⟩ := b1
      have e1 := g.at h1 .lst
      rw [k1] at e1
      cases e1
      exact no _ (by rw [show a = q from z]; exact h2) .lst
    · exact b4 y hy
  · rcases List.mem_cons.mp hy with rfl | hy
    · refine ⟨e, ?_, fun z => ?_, nt⟩
      · cases q0 : G a with
        | none => rfl
        | some u => exact absurd (fz.nt a u q0) (no u (fz.sub a u q0))
      · exact no _ (by rw [show a = p from z]; exact h1) .lst
    · exact cel' y hy
  · rw [List.map_cons, List.nodup_cons]
    refine ⟨fun hm => ?_, nod⟩
    obtain ⟨y, hy, e2⟩ := List.mem_map.mp hm
    obtain ⟨c1, _, _, c4⟩ := cel y hy
    rw [e2] at c1
    exact no _ c1 c4
/-- the first cell is left alone -/
theorem Hs.drop1 {c : Addr × HO} (s : Hs T p n (c :: L) G H) : Hs T p n L G H := s.sub (.cons _ (.refl _))
/-- the second cell is left alone -/
theorem Hs.drop2 {c d : Addr × HO} (s : Hs T p n (c :: d :: L) G H) : Hs T p n (c :: L) G H := s.sub (.cons₂ _ (.cons _ (.refl _)))
/-- the second cell first -/
theorem Hs.swap {c d : Addr × HO} (s : Hs T p n (c :: d :: L) G H) : Hs T p n (d :: c :: L) G H := by
  obtain ⟨⟨q, b1, b2, b3, b4⟩, fz, gp, cel, nod, tab⟩ := s
  have pm : (d :: c :: L).Perm (c :: d :: L) := .swap ..
  exact ⟨⟨q, b1, b2, b3, fun x hx => b4 x (pm.mem_iff.mp hx)⟩, fz, gp, fun x hx => cel x (pm.mem_iff.mp hx), (pm.map _).nodup_iff.mpr nod, tab⟩
/-- what is frozen stands -/
theorem Hs.fzat {a : Addr} {o : HO} (s : Hs T p n L G H) (h : G a = some o) : H a = some o := s.fz.sub _ _ h
theorem Hs.gfree {a : Addr} (s : Hs T p n L G H) (h : H a = none) : G a = none := s.fz.free h
theorem Hs.cfree {c : Addr × HO} (s : Hs T p n (c :: L) G H) : G c.1 = none := (s.cel c (List.mem_cons_self ..)).2.1
/-- all tuples are frozen -/
def fzT (G H : Hp) : Hp := fun b => match G b with
  | some o => some o
  | none => match H b with
    | some (.tup zs) => some (.tup zs)
    | _ => none
theorem fzT_old {b : Addr} {o : HO} (h : G b = some o) : fzT G H b = some o := by
  unfold fzT
  rw [h]
theorem fzT_tup {b : Addr} {zs : List V} (f : Fz G H) (h : H b = some (.tup zs)) : fzT G H b = some (.tup zs) := by
  unfold fzT
  cases q : G b with
  | some o =>
    have := f.sub b o q
    rw [h] at this
    cases this
    rfl
  | none => simp only [h]
theorem fzT_cases {b : Addr} {o : HO} (h : fzT G H b = some o) : G b = some o ∨ (H b = some o ∧ ∃ zs, o = .tup zs) := by
  unfold fzT at h
  cases q : G b with
  | some u =>
    rw [q] at h
    exact .inl h
  | none =>
    rw [q] at h
    cases q2 : H b with
    | none => rw [q2] at h; cases h
    | some u =>
      rw [q2] at h
      cases u with
      | tup zs =>
        cases h
        exact .inr ⟨rfl, zs, rfl⟩
      | _ => cases h
theorem fzT_none {b : Addr} (h : G b = none) (n : ∀ zs, H b ≠ some (.tup zs)) : fzT G H b = none := by
  cases q : fzT G H b with
  | none => rfl
  | some o =>
    rcases fzT_cases q with z | ⟨z, zs, e⟩
    · rw [h] at z
      cases z
    · exact absurd (e ▸ z) (n zs)
theorem Hs.fzTup (s : Hs T p n L G H) (hL : ∀ x ∈ L, ∀ zs, x.2 ≠ .tup zs) : Hs T p n L (fzT G H) H := by
  obtain ⟨⟨q, a, b1, b2, b3⟩, fz, gp, cel, nod, tab⟩ := s
  obtain ⟨ds, x, m, c, h1, h2, h3⟩ := id a
  refine ⟨⟨q, a, fzT_none b1 (fun zs z => by rw [h2] at z; cases z), b2, b3⟩, ⟨fun b o e => ?_, fun b o e => ?_⟩, fzT_none gp (fun zs z => by rw [h1] at z; cases z), fun y hy => ?_, nod, tab⟩
  · rcases fzT_cases e with z | ⟨z, _⟩
    · exact fz.sub b o z
    · exact z
  · rcases fzT_cases e with z | ⟨_, zs, z⟩
    · exact fz.nt b o z
    · rw [z]
      exact .tup
  · obtain ⟨c1, c2, c3⟩ := cel y hy
    exact ⟨c1, fzT_none c2 (fun zs z => hL y hy zs (Option.some.inj (c1.symm.trans z))), c3⟩
/-- less is frozen -/
theorem Hs.less {G0 : Hp} (s : Hs T p n L G H) (h : Same G0 G) : Hs T p n L G0 H := by
  obtain ⟨⟨q, a, b1, b2, b3⟩, fz, gp, cel, nod, tab⟩ := s
  exact ⟨⟨q, a, h.free b1, b2, b3⟩, ⟨fun b o e => fz.sub b o (h b o e), fun b o e => fz.nt b o (h b o e)⟩, h.free gp, fun y hy => ⟨(cel y hy).1, h.free (cel y hy).2.1, (cel y hy).2.2⟩, nod, tab⟩
/-- a frozen cell is written -/
theorem Hs.fput {l : Addr} {o o' : HO} (s : Hs T p n L G H) (h : G l = some o) (nt : NoTab o') : Hs T p n L (upd G l o') (upd H l o') := by
  obtain ⟨⟨q, ⟨ds, x, m, c, h1, h2, h3⟩, b1, b2, b3⟩, fz, gp, cel, nod, tab⟩ := s
  have lp : p ≠ l := fun z => by rw [z, h] at gp; cases gp
  have lq : q ≠ l := fun z => by rw [z, h] at b1; cases b1
  refine ⟨⟨q, ⟨ds, x, m, c, by rw [upd_ne lp]; exact h1, by rw [upd_ne lq]; exact h2, h3⟩, by rw [upd_ne lq]; exact b1, b2, b3⟩, ⟨fun b u e => ?_, fun b u e => ?_⟩, by rw [upd_ne lp]; exact gp, fun y hy => ?_, nod, Tabs.upd tab (fz.sub _ _ h) (fz.nt _ _ h)⟩
  · by_cases hb : b = l
    · rw [hb, upd_same] at e ⊢
      exact e
    · rw [upd_ne hb] at e ⊢
      exact fz.sub b u e
  · by_cases hb : b = l
    · rw [hb, upd_same] at e
      cases e
      exact nt
    · rw [upd_ne hb] at e
      exact fz.nt b u e
  · obtain ⟨c1, c2, c3⟩ := cel y hy
    have ly : y.1 ≠ l := fun z => by rw [z, h] at c2; cases c2
    rw [upd_ne ly, upd_ne ly]
    exact ⟨c1, c2, c3⟩
end
end Sk
namespace Sk
open PySem PySem.Spec PyProof.Rows L2
/-! ### catalogues -/
structure Ent where
  name : Str
  w : Int
  parts : List Str
/-- an entry: a tuple of a name, a weight and a list of names -/
def EntAt (G : Hp) (v : V) (e : Ent) : Prop := ∃ t l, v = .ref t ∧ G t = some (.tup [.str e.name, .int e.w, .ref l]) ∧ G l = some (.lst (e.parts.map V.str))
abbrev CatAt (G : Hp) (vs : List V) (es : List Ent) : Prop := Paired (EntAt G) vs es
theorem EntAt.mono {G G' : Hp} {v : V} {e : Ent} (h : EntAt G v e) (s : Same G G') : EntAt G' v e := by
  obtain ⟨t, l, a, b, c⟩ := h
  exact ⟨t, l, a, s _ _ b, s _ _ c⟩
theorem CatAt.mono {G G' : Hp} (s : Same G G') : ∀ {vs : List V} {es : List Ent}, CatAt G vs es → CatAt G' vs es
  | _, _, .nil => .nil
  | _, _, .cons h t => .cons (h.mono s) (CatAt.mono s t)
theorem EntAt.gr {Tb : List (Addr × Str)} {G G' : Hp} {v : V} {e : Ent} (h : EntAt G v e) (s : Gr Tb G G') : EntAt G' v e := by
  obtain ⟨t, l, a, b, c⟩ := h
  exact ⟨t, l, a, s.at b .tup, s.at c .lst⟩
theorem CatAt.gr {Tb : List (Addr × Str)} {G G' : Hp} (s : Gr Tb G G') : ∀ {vs : List V} {es : List Ent}, CatAt G vs es → CatAt G' vs es
  | _, _, .nil => .nil
  | _, _, .cons h t => .cons (h.gr s) (CatAt.gr s t)
section
variable {α β : Type} {R : α → β → Prop}
theorem Paired.len : ∀ {xs : List α} {ys : List β}, Paired R xs ys → xs.length = ys.length
  | _, _, .nil => rfl
  | _, _, .cons _ t => by rw [List.length_cons, List.length_cons, Paired.len t]
theorem Paired.at : ∀ {xs : List α} {ys : List β} {i : Nat} {x : α}, Paired R xs ys → xs[i]? = some x → ∃ y, ys[i]? = some y ∧ R x y
  | _, _, _, _, .nil, e => by simp at e
  | _, _, 0, _, .cons h _, e => by simp at e; subst e; exact ⟨_, rfl, h⟩
  | _, _, i + 1, x, .cons _ t, e => by
    obtain ⟨y, h1, h2⟩ := Paired.at (i := i) (x := x) t (by simpa using e)
    exact ⟨y, by simpa using h1, h2⟩
theorem Paired.at2 : ∀ {xs : List α} {ys : List β} {i : Nat} {y : β}, Paired R xs ys → ys[i]? = some y → ∃ x, xs[i]? = some x ∧ R x y
  | _, _, _, _, .nil, e => by simp at e
  | _, _, 0, _, .cons h _, e => by simp at e; subst e; exact ⟨_, rfl, h⟩
  | _, _, i + 1, y, .cons _ t, e => by
    obtain ⟨x, h1, h2⟩ := Paired.at2 (i := i) (y := y) t (by simpa using e)
    exact ⟨x, by simpa using h1, h2⟩
theorem Paired.snoc {x : α} {y : β} (h : R x y) : ∀ {xs : List α} {ys : List β}, Paired R xs ys → Paired R (xs ++ [x]) (ys ++ [y])
  | _, _, .nil => .cons h .nil
  | _, _, .cons a t => .cons a (Paired.snoc h t)
theorem Paired.app : ∀ {xs xs' : List α} {ys ys' : List β}, Paired R xs ys → Paired R xs' ys' → Paired R (xs ++ xs') (ys ++ ys')
  | _, _, _, _, .nil, s => s
  | _, _, _, _, .cons a t, s => .cons a (Paired.app t s)
theorem Paired.perm {xs xs' : List α} (p : xs'.Perm xs) : ∀ {ys : List β}, Paired R xs ys → ∃ ys', ys'.Perm ys ∧ Paired R xs' ys' := by
  induction p with
  | nil => intro ys h; exact ⟨ys, .refl _, h⟩
  | cons x _ ih =>
    intro ys h
    cases h with
    | cons a t =>
      obtain ⟨ys', p', h'⟩ := ih t
      exact ⟨_ :: ys', p'.cons _, .cons a h'⟩
  | swap x y l =>
    intro ys h
    cases h with
    | cons a t =>
      cases t with
      | cons b t => exact ⟨_, List.Perm.swap .., .cons b (.cons a t)⟩
  | trans _ _ ih1 ih2 =>
    intro ys h
    obtain ⟨y1, p1, h1⟩ := ih2 h
    obtain ⟨y2, p2, h2⟩ := ih1 h1
    exact ⟨y2, p2.trans p1, h2⟩
theorem Paired.map_left {γ : Type} {f : γ → α} : ∀ {xs : List γ} {ys : List β}, Paired R (xs.map f) ys → Paired (fun c => R (f c)) xs ys
  | [], _, h => by cases h; exact .nil
  | x :: xs, _, h => by
    cases h with
    | cons a t => exact .cons a (Paired.map_left t)
theorem Paired.imp {R' : α → β → Prop} (f : ∀ a b, R a b → R' a b) : ∀ {xs : List α} {ys : List β}, Paired R xs ys → Paired R' xs ys
  | _, _, .nil => .nil
  | _, _, .cons a t => .cons (f _ _ a) (Paired.imp f t)
theorem Paired.left {xs : List α} {ys : List β} (h : Paired R xs ys) {x : α} (hx : x ∈ xs) : ∃ y ∈ ys, R x y := by
  obtain ⟨i, hi⟩ := List.mem_iff_getElem?.mp hx
  obtain ⟨y, h1, h2⟩ := Paired.at h hi
  exact ⟨y, List.mem_of_getElem? h1, h2⟩
theorem Paired.right {xs : List α} {ys : List β} (h : Paired R xs ys) {y : β} (hy : y ∈ ys) : ∃ x ∈ xs, R x y := by
  obtain ⟨i, hi⟩ := List.mem_iff_getElem?.mp hy
  obtain ⟨x, h1, h2⟩ := Paired.at2 h hi
  exact ⟨x, List.mem_of_getElem? h1, h2⟩
end
/-! ### dicts of numbers -/
abbrev Num := List (Str × Int)
def dS (d : Num) : List (Key × V) := d.map fun q => (Sum.inr q.1, V.int q.2)
def get? (d : Num) (x : Str) : Option Int := (d.find? fun q => decide (q.1 = x)).map (·.2)
def getD (d : Num) (x : Str) : Int := (get? d x).getD 0
def put (d : Num) (x : Str) (i : Int) : Num := if (d.any fun q => decide (q.1 = x)) = true then d.map (fun q => if q.1 = x then (q.1, i) else q) else d ++ [(x, i)]
theorem inr_dec (a b : Str) : decide ((Sum.inr a : Key) = Sum.inr b) = decide (a = b) := key_rr a b
theorem valV_dS (d : Num) (x : Str) : valV (dS d) (Sum.inr x) = (get? d x).map V.int := by
  unfold dS valV get?
  rw [List.find?_map]
  have : ((fun kv : Key × V => decide (kv.1 = Sum.inr x)) ∘ fun q : Str × Int => ((Sum.inr q.1 : Key), V.int q.2)) = fun q => decide (q.1 = x) := by
    funext q
    exact inr_dec _ _
  rw [this]
  cases d.find? fun q => decide (q.1 = x) <;> rfl
theorem putK_dS (d : Num) (x : Str) (i : Int) : putK (dS d) (Sum.inr x) (.int i) = dS (put d x i) := by
  unfold dS putK put
  rw [List.any_map]
  have : ((fun kv : Key × V => decide (kv.1 = Sum.inr x)) ∘ fun q : Str × Int => ((Sum.inr q.1 : Key), V.int q.2)) = fun q => decide (q.1 = x) := by
    funext q
    exact inr_dec _ _
  rw [this]
  split
  · rw [List.map_map, List.map_map]
    refine List.map_congr_left fun q _ => ?_
    show (if (Sum.inr q.1 : Key) = Sum.inr x then _ else _) = _
    by_cases e : q.1 = x
    · have e2 : (Sum.inr q.1 : Key) = Sum.inr x := congrArg _ e
      rw [if_pos e2]
      show _ = ((Sum.inr (if q.1 = x then (q.1, i) else q).1 : Key), V.int (if q.1 = x then (q.1, i) else q).2)
      rw [if_pos e]
    · have e2 : ¬ (Sum.inr q.1 : Key) = Sum.inr x := fun z => e (Sum.inr.inj z)
      rw [if_neg e2]
      show _ = ((Sum.inr (if q.1 = x then (q.1, i) else q).1 : Key), V.int (if q.1 = x then (q.1, i) else q).2)
      rw [if_neg e]
  · rw [List.map_append]
    rfl
theorem dS_len (d : Num) : (dS d).length = d.length := List.length_map ..
/-! ### targets, comprehensions -/
theorem gtup3 {K : PySem.W.Frag} {i j k : Nat} {t : Addr} {x y z : V} {σ : L2.St} {H : Hp} {Q : L2.St → Hp → Prop} (h : H t = some (.tup [x, y, z])) (q : Q (((σ.set i (some x)).set j (some y)).set k (some z)) H) :
    gTup K 3 (gCons (gName i) (gCons (gName j) (gCons (gName k) gNil))) (.ref t) σ H Q := ⟨t, _, rfl, SqT.of h, rfl, x, _, rfl, y, _, rfl, z, _, rfl, rfl, q⟩
theorem gtup2 {K : PySem.W.Frag} {i j : Nat} {t : Addr} {x y : V} {σ : L2.St} {H : Hp} {Q : L2.St → Hp → Prop} (h : H t = some (.tup [x, y])) (q : Q ((σ.set i (some x)).set j (some y)) H) :
    gTup K 2 (gCons (gName i) (gCons (gName j) gNil)) (.ref t) σ H Q := ⟨t, _, rfl, SqT.of h, rfl, x, _, rfl, y, _, rfl, rfl, q⟩
theorem filterMap_take {α β : Type} (f : α → Option β) (xs : List α) {i : Nat} {x : α} (h : xs[i]? = some x) : (xs.take (i + 1)).filterMap f = (xs.take i).filterMap f ++ (f x).toList := by
  rw [List.take_add_one, h, List.filterMap_append]
  show _ ++ List.filterMap f [x] = _
  rw [List.filterMap_cons]
  cases f x <;> rfl
/-- a comprehension that makes, item by item, what f says; the heap grows meanwhile -/
theorem lc_fm {Tb : List (Addr × Str)} {J : It} {n : Nat} {GG : Hp → Prop} {xs : List V} (wk : Walk J n GG (YAt xs)) (hn : n = xs.length) {g : TG} {tt : TT} {te : TE} {vs : List Nat} {σ : L2.St} {H1 : Hp} {D : Addr} {Qd : Hp → Prop} (f : V → Option V) (hD : H1 D = none) (hz : n ≤ 16777215)
    (hG : ∀ H, Gr Tb H1 H → GG H)
    (turn : ∀ (i : Nat) (x : V) (H : Hp), xs[i]? = some x → Gr Tb H1 H → ∀ (Rk : V → Hp → Prop) (Rs : Hp → Prop), (∀ y H4, f x = some y → Gr Tb H H4 → Rk y H4) → (∀ H4, f x = none → Gr Tb H H4 → Rs H4) →
      g x (wipe σ vs) H fun σ2 H2 => wipe σ2 vs = wipe σ vs ∧ tt σ2 H2 fun b H3 => if b = true then te σ2 H3 Rk else Rs H3)
    (done : ∀ H, Gr Tb H1 H → H D = some (.lst (xs.filterMap f)) → Qd H) :
    ∃ W : Nat → Nat → Hp → Prop, (∃ m, W 0 m (upd H1 D (.lst []))) ∧ ∀ i m H, W i m H →
      (J.stop i H ∧ Qd H) ∨ (J.go i H ∧ ∃ Nx : Hp → Prop, (∀ H', Nx H' → ∃ m', m' < m ∧ W (i + 1) m' H') ∧ ∀ x H', J.yld i H x H' → g x (wipe σ vs) H' fun σ2 H2 => wipe σ2 vs = wipe σ vs ∧ tt σ2 H2 fun b H3 =>
        if b = true then te σ2 H3 fun y H4 => ∃ acc, H4 D = some (.lst acc) ∧ acc.length < sizeLine ∧ Nx (upd H4 D (.lst (acc ++ [y]))) else Nx H3) := by
  have put : ∀ {H : Hp} {acc acc' : List V}, Gr Tb H1 H → H D = some (.lst acc) → Gr Tb H1 (upd H D (.lst acc')) := fun {H acc acc'} g hd => by
    refine ⟨fun b o e nt => ?_, fun t p hp => ?_⟩
    · rw [upd_ne (ne_of_none e hD)]
      exact g.ext b o e nt
    · obtain ⟨ps, b1, b2, b3⟩ := g.tab t p hp
      have na : p.1 ≠ D := ne_of b1 hd (fun z => by cases z)
      refine ⟨ps, by rw [upd_ne na]; exact b1, b2, fun po cv hc => ?_⟩
      obtain ⟨c', e1, e2⟩ := b3 po cv hc
      refine ⟨c', e1, ?_⟩
      rw [upd_ne (ne_of e2 hd (fun z => by unfold LamX.CodeO at z; cases z))]
      exact e2
  have h0 : Gr Tb H1 (upd H1 D (.lst [])) := Gr.new hD
  refine lc_it wk (fun i H => Gr Tb H1 H ∧ H D = some (.lst ((xs.take i).filterMap f))) ⟨h0, upd_same⟩ (fun i H _ p => hG H p.1) (fun i x H H' hi p y => ?_) (fun H p => ?_)
  · obtain ⟨rfl, hx⟩ := y
    refine turn i x H' hx p.1 _ _ (fun y H4 e gr => ?_) (fun H4 e gr => ?_)
    · have hd := gr.at p.2 .lst
      refine ⟨_, hd, ?_, put (p.1.trans gr) hd, ?_⟩
      · have l1 : ((xs.take i).filterMap f).length ≤ i := Nat.le_trans (List.length_filterMap_le _ _) (by rw [List.length_take]; omega)
        rw [sizeLine_eq]
        omega
      · rw [upd_same, filterMap_take f xs hx, e]
        rfl
    · refine ⟨p.1.trans gr, ?_⟩
      rw [filterMap_take f xs hx, e, gr.at p.2 .lst]
      simp
  · refine done H p.1 ?_
    have := p.2
    rw [hn, List.take_length] at this
    exact this
/-- the signs of a text, each as a text -/
def signs (z : Str) : List V := z.cps.toList.map fun c => V.str ⟨#[c]⟩
theorem walk_text {z : Str} : Walk (Its z) (signs z).length (fun _ => True) (YAt (signs z)) := by
  have e : (signs z).length = z.cps.size := by
    unfold signs
    rw [List.length_map, Array.length_toList]
  rw [e]
  refine walk_str.mono (fun _ h => h) fun i H v H' hi _ y => ?_
  obtain ⟨h1, c, h2, h3⟩ := y
  refine ⟨h1, ?_⟩
  unfold signs
  rw [List.getElem?_map, Array.getElem?_toList, h2, h3]
  rfl
/-- all([c in z for c in x]) -/
theorem rd_allIn {Tb : List (Addr × Str)} {K : PySem.W.Frag} {i : Nat} {x z : Str} {σ : L2.St} {H : Hp} {Q : VK} (h0 : σ[0]? = some (some (.str x))) (hw : (wipe σ [i]).length = σ.length) (hi : i < σ.length) (hz : x.length ≤ 1000000)
    (k : ∀ H', Gr Tb H H' → Q (.bl (x.cps.toList.all fun c => decide (c ∈ z.cps.toList))) H') :
    tCB (rAll K) (tCons (tLc (iStr (tVar 0)) (gName i) tYes (tOp (fun x y H Q => ∃ (c : Nat) (z : Str), x = V.str ⟨#[c]⟩ ∧ y = V.str z ∧ Q (V.bl (decide (c ∈ z.cps.toList))) H) (tVar i) (tC (V.str z))) [i]) tNil) σ H Q := by
  refine ⟨_, h0, x, rfl, fun D hD => lc_fm (Tb := Tb) (xs := signs x) walk_text rfl (fun v => match v with | .str y => some (.bl (decide (y.cps.getD 0 0 ∈ z.cps.toList))) | _ => none) hD ?_ (fun _ _ => trivial) (fun j v H' hv _ Rk Rs hk hs => ?_) fun H' g hd => ?_⟩
  · unfold signs
    rw [List.length_map, Array.length_toList]
    have : x.cps.size = x.length := rfl
    omega
  · unfold signs at hv
    rw [List.getElem?_map] at hv
    cases hc : x.cps.toList[j]? with
    | none =>
      rw [hc] at hv
      cases hv
    | some c =>
      rw [hc] at hv
      cases hv
      refine ⟨?_, V.str ⟨#[c]⟩, ?_, c, z, rfl, rfl, hk _ _ ?_ (Gr.refl _)⟩
      · show List.set (List.set (List.set σ i none) i (some (V.str ⟨#[c]⟩))) i none = List.set σ i none
        rw [List.set_set, List.set_set]
      · rw [List.getElem?_set_self (by rw [hw]; exact hi)]
      · simp
  · refine ⟨D, x.cps.toList.map fun c => decide (c ∈ z.cps.toList), rfl, ?_, ?_⟩
    · have e : (signs x).filterMap (fun v => match v with | .str y => some (V.bl (decide (y.cps.getD 0 0 ∈ z.cps.toList))) | _ => none) = (x.cps.toList.map fun c => decide (c ∈ z.cps.toList)).map V.bl := by
        unfold signs
        rw [List.filterMap_map, List.map_map, ← List.filterMap_eq_map]
        rfl
      rw [e] at hd
      exact SqL.of hd
    · have e : (x.cps.toList.map fun c => decide (c ∈ z.cps.toList)).all id = x.cps.toList.all fun c => decide (c ∈ z.cps.toList) := by
        rw [List.all_map]
        rfl
      rw [e]
      exact k H' g
/-! ### a list beside an empty one -/
def rNil (K : PySem.W.Frag) (neg : Bool) : R2 := fun x y H Q => ∃ (a b : Addr) (xs : List V), x = .ref a ∧ y = .ref b ∧ SqL K H a xs ∧ SqL K H b [] ∧ Q (.bl (if neg then !xs.isEmpty else xs.isEmpty)) H
section
variable {X : Cx}
theorem op_eqNil (hu : X.A.units + 64 < cLine) : OpR X (compareOp .Eq) (rNil X.K false) := by
  intro pins s σ H x y v u Q I rx ry h
  obtain ⟨a, b, xs, rfl, rfl, hx, hy, q⟩ := h
  obtain rfl : v = Value.ref a := rx
  obtain rfl : u = Value.ref b := ry
  obtain ⟨its, r1, p1, _⟩ := I.list hx
  obtain ⟨its2, r2, p2, _⟩ := I.list hy
  cases r2
  cases xs with
  | nil =>
    cases r1
    exact SeqAt.eq_listAt (e := fun _ => true) p1.isList p2.isList rfl (by omega) (fun j h1 => absurd h1 (by simp)) ⟨.bl true, H, I, rfl, q⟩
  | cons z zs =>
    cases r1
    exact SeqAt.eq_list_lengthsAt p1.isList p2.isList (by simp) (by omega) ⟨.bl false, H, I, rfl, q⟩
theorem op_neNil (hu : X.A.units + 64 < cLine) : OpR X (compareOp .NotEq) (rNil X.K true) := by
  intro pins s σ H x y v u Q I rx ry h
  obtain ⟨a, b, xs, rfl, rfl, hx, hy, q⟩ := h
  obtain rfl : v = Value.ref a := rx
  obtain rfl : u = Value.ref b := ry
  obtain ⟨its, r1, p1, _⟩ := I.list hx
  obtain ⟨its2, r2, p2, _⟩ := I.list hy
  cases r2
  cases xs with
  | nil =>
    cases r1
    exact SeqAt.RcNeAt.lists (e := fun _ => true) p1.isList p2.isList rfl (by omega) (fun j h1 => absurd h1 (by simp)) _ _ _ _ ⟨.bl false, H, I, rfl, q⟩
  | cons z zs =>
    cases r1
    exact SeqAt.RcNeAt.lists_lengths p1.isList p2.isList (by simp) (by omega) _ _ _ _ ⟨.bl true, H, I, rfl, q⟩
end
/-- the reading: x beside a new empty list -/
theorem rd_nil {K : PySem.W.Frag} {neg : Bool} {a : Addr} {xs : List V} {σ : L2.St} {H : Hp} {Q : VK} (h : SqL K H a xs) (k : ∀ p, H p = none → Q (.bl (if neg then !xs.isEmpty else xs.isEmpty)) (upd H p (.lst []))) :
    tLst tNil σ H fun y H2 => rNil K neg (.ref a) y H2 Q := ⟨Nat.zero_le _, fun p hp => ⟨a, p, xs, rfl, rfl, (Same.upd hp).seq h, SqL.of upd_same, k p hp⟩⟩
/-- while, the test apart from the body: Pv ahead of the test, PT behind a true one, PF behind a false one -/
theorem while_cps {c : TT} {tb : TS} {D : Ends} {σ : L2.St} {H : Hp} (Pv PT PF : Nat → L2.St → Hp → Prop) (m0 : Nat) (h0 : Pv m0 σ H)
    (test : ∀ m σ H, Pv m σ H → ∀ R : Bool → Hp → Prop, (∀ H1, PT m σ H1 → R true H1) → (∀ H1, PF m σ H1 → R false H1) → c σ H R)
    (body : ∀ m σ H, PT m σ H → tb { D with nx := fun σ' H' => ∃ m', m' < m ∧ Pv m' σ' H', ct := fun σ' H' => ∃ m', m' < m ∧ Pv m' σ' H', bk := D.nx } σ H) (done : ∀ m σ H, PF m σ H → D.nx σ H) : tWhile c tb D σ H := by
  refine ⟨Pv, ⟨m0, h0⟩, fun m σ H p => ?_⟩
  refine test m σ H p _ (fun H1 q => ?_) (fun H1 q => ?_)
  · show (if true = true then _ else _)
    rw [if_pos rfl]
    exact ⟨_, fun _ _ n => n, body m σ H1 q⟩
  · show (if false = true then _ else _)
    rw [if_neg Bool.false_ne_true]
    exact done m σ H1 q
/-- the first item of the tuple that stands at v -/
def itemAt (H : Hp) (i : Nat) : V → Option V
  | .ref t => match H t with
    | some (.tup xs) => xs[i]?
    | _ => none
  | _ => none
theorem itemAt_tup {H : Hp} {t : Addr} {xs : List V} {i : Nat} (h : H t = some (.tup xs)) : itemAt H i (.ref t) = xs[i]? := by
  show (match H t with
    | some (.tup xs) => xs[i]?
    | _ => none) = xs[i]?
  rw [h]
theorem fm_paired {α β γ : Type} {R : α → β → Prop} {f : α → Option γ} {g : β → γ} (hf : ∀ a b, R a b → f a = some (g b)) : ∀ {xs : List α} {ys : List β}, Paired R xs ys → xs.filterMap f = ys.map g
  | _, _, .nil => rfl
  | x :: xs, y :: ys, .cons a t => by
    rw [List.filterMap_cons, hf _ _ a, fm_paired hf t]
    rfl
theorem fm_pairedO {α β γ : Type} {R : α → β → Prop} {f : α → Option γ} {g : β → Option γ} (hf : ∀ a b, R a b → f a = g b) : ∀ {xs : List α} {ys : List β}, Paired R xs ys → xs.filterMap f = ys.filterMap g
  | _, _, .nil => rfl
  | x :: xs, y :: ys, .cons a t => by
    rw [List.filterMap_cons, List.filterMap_cons, hf _ _ a, fm_pairedO hf t]
/-- the index of an item from the start -/
theorem seq_ix {r : Int} {n : Nat} (h0 : 0 ≤ r) (h1 : r < n) : seqIndex? r n = some r.toNat := by
  unfold seqIndex?
  rw [if_neg (show ¬ r < 0 by omega)]
  simp
  exact ⟨h0, h1⟩
theorem perm_map {α β : Type} (f : α → β) {ys : List β} {xs : List α} (p : ys.Perm (xs.map f)) : ∃ zs : List α, ys = zs.map f ∧ zs.Perm xs := by
  have h : Paired (fun y x => y = f x) (xs.map f) xs := by
    clear p
    induction xs with
    | nil => exact .nil
    | cons x xs ih => exact .cons rfl ih
  obtain ⟨zs, p1, h1⟩ := Paired.perm p h
  refine ⟨zs, ?_, p1⟩
  clear p p1 h
  induction h1 with
  | nil => rfl
  | cons a _ ih => rw [List.map_cons, ← a, ← ih]
theorem pick_at {α : Type} {xs : List α} {r : Int} (h0 : 0 ≤ r) (h1 : r < xs.length) : ∃ y ∈ xs, atI xs r = some y := by
  obtain ⟨j, rfl⟩ := Int.eq_ofNat_of_zero_le h0
  have hj : j < xs.length := by omega
  exact ⟨xs[j], List.getElem_mem _, atI_nat (List.getElem?_eq_getElem hj)⟩
theorem pick_int {xs : List V} (is : List Int) {r : Int} {P : Int → Prop} (e : xs = is.map V.int) (h0 : 0 ≤ r) (h1 : r < is.length) (hp : ∀ i ∈ is, P i) : ∃ i, atI xs r = some (.int i) ∧ P i := by
  subst e
  obtain ⟨y, hy, e⟩ := pick_at (xs := is.map V.int) h0 (by rw [List.length_map]; exact h1)
  obtain ⟨i, hi, rfl⟩ := List.mem_map.mp hy
  exact ⟨i, e, hp i hi⟩
theorem cut_take {xs : List V} {k : Int} (h : 0 ≤ k) : cutV xs none (some k) = xs.take k.toNat := by
  obtain ⟨j, rfl⟩ := Int.eq_ofNat_of_zero_le h
  unfold cutV
  rw [HT.sIx_nat, HT.sIx_none]
  show List.take (min j xs.length - 0) xs = List.take j xs
  rw [Nat.sub_zero]
  rcases Nat.le_total j xs.length with z | z
  · rw [Nat.min_eq_left z]
  · rw [Nat.min_eq_right z, List.take_length, List.take_of_length_le z]
/-- what is known behind an expression -/
theorem rd_post {t : TE} {σ : L2.St} {H : Hp} {Q : VK} (P : V → Hp → Prop) (h : ∀ Q' : VK, (∀ x H', P x H' → Q' x H') → t σ H Q') (k : ∀ x H', P x H' → Q x H') : t σ H Q := h Q k
theorem goN {i : Nat} {x : V} {σ : L2.St} {H : Hp} {Q : L2.St → Hp → Prop} (h : Q (σ.set i (some x)) H) : gName i x σ H Q := h
/-- x = e; then the rest: what is known behind e -/
theorem sq_asg {t : TE} {i : Nat} {u : TS} {D : Ends} {σ : L2.St} {H : Hp} (P : V → Hp → Prop) (h : ∀ Q' : VK, (∀ x H', P x H' → Q' x H') → t σ H Q') (k : ∀ x H', P x H' → u D (σ.set i (some x)) H') : tSeq (tAsg t (gName i)) u D σ H := h _ k
/-- t; then the rest: what is known behind t -/
theorem sq_st {t u : TS} {D : Ends} {σ : L2.St} {H : Hp} (P : L2.St → Hp → Prop) (h : ∀ N : L2.St → Hp → Prop, (∀ σ' H', P σ' H' → N σ' H') → t { D with nx := N } σ H) (k : ∀ σ' H', P σ' H' → u D σ' H') : tSeq t u D σ H := h _ k
theorem Paired.flip {α β : Type} {R : α → β → Prop} : ∀ {xs : List α} {ys : List β}, Paired R xs ys → Paired (fun y x => R x y) ys xs
  | _, _, .nil => .nil
  | _, _, .cons a t => .cons a (Paired.flip t)
theorem Paired.trans {α β γ : Type} {R : α → β → Prop} {S : β → γ → Prop} : ∀ {xs : List α} {ys : List β} {zs : List γ}, Paired R xs ys → Paired S ys zs → Paired (fun x z => ∃ y, R x y ∧ S y z) xs zs
  | _, _, _, .nil, .nil => .nil
  | _, _, _, .cons a t, .cons b u => .cons ⟨_, a, b⟩ (Paired.trans t u)
/-- a list that is not yet known is written -/
theorem Gr.put {Tb : List (Addr × Str)} {H1 H : Hp} {D : Addr} {acc acc' : List V} (hD : H1 D = none) (g : Gr Tb H1 H) (hd : H D = some (.lst acc)) : Gr Tb H1 (upd H D (.lst acc')) := g.mut (.of hD) hd .lst
/-- a comprehension that makes, item by item, something that R tells of; the heap grows meanwhile -/
theorem lc_rel {Tb : List (Addr × Str)} {J : It} {n : Nat} {GG : Hp → Prop} {xs : List V} (wk : Walk J n GG (YAt xs)) (hn : n = xs.length) {g : TG} {tt : TT} {te : TE} {vs : List Nat} {σ : L2.St} {H1 : Hp} {D : Addr} {Qd : Hp → Prop} (keep : V → Bool) (R : Hp → V → V → Prop)
    (mono : ∀ H H' x y, (∀ a o, NoTab o → (∀ l, o ≠ .lst l) ∨ a ≠ D → H a = some o → H' a = some o) → R H x y → R H' x y) (hD : H1 D = none) (hz : n ≤ 16777215)
    (hG : ∀ H, Gr Tb H1 H → GG H)
    (turn : ∀ (i : Nat) (x : V) (H : Hp), xs[i]? = some x → Gr Tb H1 H → H D ≠ none → ∀ (Rk : V → Hp → Prop) (Rs : Hp → Prop), (∀ y H4, keep x = true → Gr Tb H H4 → R H4 x y → Rk y H4) → (∀ H4, keep x = false → Gr Tb H H4 → Rs H4) →
      g x (wipe σ vs) H fun σ2 H2 => wipe σ2 vs = wipe σ vs ∧ tt σ2 H2 fun b H3 => if b = true then te σ2 H3 Rk else Rs H3)
    (done : ∀ H ys, Gr Tb H1 H → H D = some (.lst ys) → Paired (R H) (xs.filter keep) ys → Qd H) :
    ∃ W : Nat → Nat → Hp → Prop, (∃ m, W 0 m (upd H1 D (.lst []))) ∧ ∀ i m H, W i m H →
      (J.stop i H ∧ Qd H) ∨ (J.go i H ∧ ∃ Nx : Hp → Prop, (∀ H', Nx H' → ∃ m', m' < m ∧ W (i + 1) m' H') ∧ ∀ x H', J.yld i H x H' → g x (wipe σ vs) H' fun σ2 H2 => wipe σ2 vs = wipe σ vs ∧ tt σ2 H2 fun b H3 =>
        if b = true then te σ2 H3 fun y H4 => ∃ acc, H4 D = some (.lst acc) ∧ acc.length < sizeLine ∧ Nx (upd H4 D (.lst (acc ++ [y]))) else Nx H3) := by
  have h0 : Gr Tb H1 (upd H1 D (.lst [])) := Gr.new hD
  refine lc_it wk (fun i H => Gr Tb H1 H ∧ ∃ ys, H D = some (.lst ys) ∧ Paired (R H) ((xs.take i).filter keep) ys) ⟨h0, [], upd_same, by rw [List.take_zero]; exact .nil⟩ (fun i H _ p => hG H p.1) (fun i x H H' hi p y => ?_) (fun H p => ?_)
  · obtain ⟨rfl, hx⟩ := y
    obtain ⟨g1, ys, hd, pr⟩ := p
    have tk : (xs.take (i + 1)).filter keep = (xs.take i).filter keep ++ [x].filter keep := by
      rw [List.take_add_one, hx, List.filter_append]
      rfl
    refine turn i x H' hx g1 (by rw [hd]; exact fun z => by cases z) _ _ (fun y H4 e gr r => ?_) (fun H4 e gr => ?_)
    · have hd4 := gr.at hd .lst
      have hle : ys.length ≤ i := by
        rw [← Paired.len pr]
        exact Nat.le_trans (List.length_filter_le _ _) (by rw [List.length_take]; omega)
      refine ⟨_, hd4, by rw [sizeLine_eq]; omega, Gr.put hD (g1.trans gr) hd4, ys ++ [y], upd_same, ?_⟩
      rw [tk, List.filter_cons, if_pos e, List.filter_nil]
      have m2 : ∀ x z, R H4 x z → R (upd H4 D (.lst (ys ++ [y]))) x z := fun x z r => mono H4 _ x z (fun a o _ ha q => by
        rw [upd_ne]
        · exact q
        · rcases ha with ha | ha
          · exact fun e => by
              rw [e, hd4] at q
              cases q
              exact ha _ rfl
          · exact ha) r
      exact Paired.snoc (m2 x y r) (Paired.imp (fun a b r' => m2 a b (mono H' H4 a b (fun a o nt _ q => gr.at q nt) r')) pr)
    · refine ⟨g1.trans gr, ys, gr.at hd .lst, ?_⟩
      rw [tk, List.filter_cons, if_neg (by rw [e]; exact Bool.false_ne_true), List.filter_nil, List.append_nil]
      exact Paired.imp (fun a b r' => mono H' H4 a b (fun a o nt _ q => gr.at q nt) r') pr
  · obtain ⟨g1, ys, hd, pr⟩ := p
    rw [hn, List.take_length] at pr
    exact done H ys g1 hd pr
/-- [entry[0] for entry in ..] -/
theorem lc_names {Tb : List (Addr × Str)} {K : PySem.W.Frag} {a : Addr} {ys : List V} {es : List Ent} {i : Nat} {σ : L2.St} {H1 : Hp} {D : Addr} {Qd : Hp → Prop} (ha : SqL K H1 a ys) (hc : CatAt H1 ys es) (hz : es.length ≤ 100000) (hD : H1 D = none) (hi : (σ.set i none)[i]? = some none)
    (k : ∀ H', Gr Tb H1 H' → H' D = some (.lst ((es.map (·.name)).map V.str)) → Qd H') :
    ∃ W : Nat → Nat → Hp → Prop, (∃ m, W 0 m (upd H1 D (.lst []))) ∧ ∀ j m H, W j m H →
      ((Itl K a).stop j H ∧ Qd H) ∨ ((Itl K a).go j H ∧ ∃ Nx : Hp → Prop, (∀ H', Nx H' → ∃ m', m' < m ∧ W (j + 1) m' H') ∧ ∀ x H', (Itl K a).yld j H x H' → gName i x (wipe σ [i]) H' fun σ2 H2 => wipe σ2 [i] = wipe σ [i] ∧ tYes σ2 H2 fun b H3 =>
        if b = true then (tOp (rIxT K) (tVar i) (tC (.int 0))) σ2 H3 fun y H4 => ∃ acc, H4 D = some (.lst acc) ∧ acc.length < sizeLine ∧ Nx (upd H4 D (.lst (acc ++ [y]))) else Nx H3) := by
  have hl := Paired.len hc
  have hil : i < σ.length := by
    have := (List.getElem?_eq_some_iff.mp hi).1
    rwa [List.length_set] at this
  refine lc_fm (Tb := Tb) (xs := ys) walk_list rfl (itemAt H1 0) hD (by omega) (fun H' g => g.ext_seq ha) (fun j v H' hv g Rk Rs hk hs => ?_) fun H' g hD' => ?_
  · obtain ⟨e, he, t, lp, rfl, h1, h2⟩ := Paired.at hc hv
    have e1 : wipe ((wipe σ [i]).set i (some (V.ref t))) [i] = wipe σ [i] := by
      show List.set (List.set (List.set σ i none) i (some (V.ref t))) i none = List.set σ i none
      rw [List.set_set, List.set_set]
    have e2 : ((wipe σ [i]).set i (some (V.ref t)))[i]? = some (some (V.ref t)) := by
      show (List.set (List.set σ i none) i (some (V.ref t)))[i]? = _
      rw [List.getElem?_set_self (by rw [List.length_set]; exact hil)]
    exact ⟨e1, _, e2, t, _, _, _, rfl, rfl, SqT.of (g.at h1 .tup), atI_nat (j := 0) rfl, hk _ _ (by rw [itemAt_tup h1]; rfl) (Gr.refl _)⟩
  · have e : ys.filterMap (itemAt H1 0) = (es.map (·.name)).map V.str := by
      rw [List.map_map]
      exact fm_paired (fun v e ⟨t, lp, h0, h1, h2⟩ => by rw [h0, itemAt_tup h1]; rfl) hc
    rw [e] at hD'
    exact k H' g hD'
end Sk
/-! dicts of numbers -/
namespace Sk
open PySem PySem.Spec PyProof.Rows L2
/-- f at the names of es -/
def numOf (es : List Ent) (f : Str → Int) : Num := es.map fun e => (e.name, f e.name)
def upF (f : Str → Int) (x : Str) (i : Int) : Str → Int := fun y => if y = x then i else f y
theorem numOf_names (es : List Ent) (f : Str → Int) : (numOf es f).map (·.1) = es.map (·.name) := by
  unfold numOf
  rw [List.map_map]
  rfl
theorem numOf_len (es : List Ent) (f : Str → Int) : (numOf es f).length = es.length := List.length_map ..
theorem get?_numOf {f : Str → Int} {x : Str} : ∀ {es : List Ent}, x ∈ es.map (·.name) → get? (numOf es f) x = some (f x)
  | [], h => by cases h
  | e :: es, h => by
    unfold numOf get?
    rw [List.map_cons, List.find?_cons]
    by_cases q : e.name = x
    · rw [show decide ((e.name, f e.name).1 = x) = true from decide_eq_true q, ← q]
      rfl
    · rw [show decide ((e.name, f e.name).1 = x) = false from decide_eq_false q]
      rw [List.map_cons] at h
      exact get?_numOf ((List.mem_cons.mp h).resolve_left fun z => q z.symm)
theorem get?_none {d : Num} {x : Str} (h : x ∉ d.map (·.1)) : get? d x = none := by
  unfold get?
  rw [List.find?_eq_none.mpr fun q hq => by
    rw [decide_eq_true_eq]
    exact fun e => h (List.mem_map.mpr ⟨q, hq, e⟩)]
  rfl
theorem getD_numOf {es : List Ent} {f : Str → Int} {x : Str} (h : x ∈ es.map (·.name)) : getD (numOf es f) x = f x := by
  unfold getD
  rw [get?_numOf h]
  rfl
theorem getD_none {d : Num} {x : Str} (h : x ∉ d.map (·.1)) : getD d x = 0 := by
  unfold getD
  rw [get?_none h]
  rfl
theorem put_numOf {es : List Ent} {f : Str → Int} {x : Str} {i : Int} (h : x ∈ es.map (·.name)) : put (numOf es f) x i = numOf es (upF f x i) := by
  unfold put
  rw [if_pos]
  · unfold numOf upF
    rw [List.map_map]
    refine List.map_congr_left fun e _ => ?_
    show (if e.name = x then (e.name, i) else (e.name, f e.name)) = (e.name, if e.name = x then i else f e.name)
    split <;> rfl
  · rw [List.any_eq_true]
    obtain ⟨e, he, q⟩ := List.mem_map.mp h
    exact ⟨(e.name, f e.name), List.mem_map.mpr ⟨e, he, rfl⟩, decide_eq_true q⟩
theorem numOf_congr {es : List Ent} {f g : Str → Int} (h : ∀ e ∈ es, f e.name = g e.name) : numOf es f = numOf es g := List.map_congr_left fun e he => by rw [h e he]
/-! ### d[x], d.get(x, 0), d[x] = i -/
theorem dgetO {H : Hp} {a : Addr} {d : Num} (h : H a = some (.dK (dS d))) (x : Str) : DGet H a (.str x) ((get? d x).map V.int) := by
  have := DGet.k (k := Sum.inr x) h
  rw [valV_dS] at this
  exact this
theorem dgetS {H : Hp} {a : Addr} {d : Num} {x : Str} {i : Int} (h : H a = some (.dK (dS d))) (e : get? d x = some i) : DGet H a (.str x) (some (.int i)) := by
  have := dgetO h x
  rw [e] at this
  exact this
theorem getO (d : Num) (x : Str) : ((get? d x).map V.int).getD (.int 0) = .int (getD d x) := by
  unfold getD
  cases get? d x <;> rfl
/-- d.get(x, 0), what is known -/
theorem dget2 {H : Hp} {a : Addr} {d : Num} {x : Str} {Q : VK} (h : H a = some (.dK (dS d))) (q : Q (.int (getD d x)) H) : ∃ o, DGet H a (.str x) o ∧ Q (o.getD (.int 0)) H := ⟨_, dgetO h x, by rw [getO]; exact q⟩
theorem dputS {H : Hp} {a : Addr} {d : Num} {x : Str} {i : Int} (h : H a = some (.dK (dS d))) (hz : d.length < sizeLine) : DPut H a (.str x) (.int i) (upd H a (.dK (dS (put d x i)))) := .inl ⟨_, Sum.inr x, h, rfl, by rw [dS_len]; exact hz, by rw [putK_dS]⟩
theorem IsD.num {H : Hp} {a : Addr} {d : Num} (h : H a = some (.dK (dS d))) : IsD H a := .inl ⟨_, .inl h⟩
/-! ### a dict comprehension of numbers -/
def putAll (d : Num) (l : Num) : Num := l.foldl (fun d q => put d q.1 q.2) d
theorem put_new' {d : Num} {x : Str} {i : Int} (h : x ∉ d.map (·.1)) : put d x i = d ++ [(x, i)] := by
  unfold put
  rw [if_neg]
  rw [List.any_eq_true]
  rintro ⟨q, hq, e⟩
  exact h (List.mem_map.mpr ⟨q, hq, by simpa using e⟩)
theorem putAll_new : ∀ (l d : Num), ((d ++ l).map (·.1)).Nodup → putAll d l = d ++ l
  | [], d, _ => (List.append_nil d).symm
  | q :: l, d, h => by
    have e : d ++ q :: l = (d ++ [q]) ++ l := by rw [List.append_assoc]; rfl
    rw [e] at h
    have hn : q.1 ∉ d.map (·.1) := by
      rw [List.map_append, List.map_append, List.append_assoc] at h
      have h2 := (List.nodup_append.mp h).2.2
      exact fun hm => h2 _ hm _ (List.mem_append_left _ (List.mem_map.mpr ⟨q, List.mem_singleton.mpr rfl, rfl⟩)) rfl
    show putAll (put d q.1 q.2) l = _
    rw [put_new' hn, putAll_new l _ h, e]
theorem put_len (d : Num) (x : Str) (i : Int) : (put d x i).length ≤ d.length + 1 := by
  unfold put
  split
  · rw [List.length_map]
    omega
  · rw [List.length_append]
    exact Nat.le_refl _
theorem putAll_len : ∀ (l d : Num), (putAll d l).length ≤ d.length + l.length
  | [], d => Nat.le_refl _
  | q :: l, d => by
    have h1 := putAll_len l (put d q.1 q.2)
    have h2 := put_len d q.1 q.2
    rw [List.length_cons]
    show (putAll (put d q.1 q.2) l).length ≤ _
    omega
theorem Gr.putD {Tb : List (Addr × Str)} {H1 H : Hp} {D : Addr} {acc acc' : List (Key × V)} (hD : H1 D = none) (g : Gr Tb H1 H) (hd : H D = some (.dK acc)) : Gr Tb H1 (upd H D (.dK acc')) := g.mut (.of hD) hd .dK
/-- a dict comprehension that makes, item by item, what f says; the heap grows meanwhile -/
theorem dc_fm {Tb : List (Addr × Str)} {J : It} {n : Nat} {GG : Hp → Prop} {xs : List V} (wk : Walk J n GG (YAt xs)) (hn : n = xs.length) {g : TG} {tt : TT} {tk tv : TE} {vs : List Nat} {σ : L2.St} {H1 : Hp} {D : Addr} {Qd : Hp → Prop} (f : V → Option (Str × Int)) (hD : H1 D = none) (hz : n ≤ 100000)
    (hG : ∀ H, Gr Tb H1 H → GG H)
    (turn : ∀ (i : Nat) (x : V) (H : Hp), xs[i]? = some x → Gr Tb H1 H → ∀ (Rk : V → V → Hp → Prop) (Rs : Hp → Prop), (∀ q H4, f x = some q → Gr Tb H H4 → Rk (.str q.1) (.int q.2) H4) → (∀ H4, f x = none → Gr Tb H H4 → Rs H4) →
      g x (wipe σ vs) H fun σ2 H2 => wipe σ2 vs = wipe σ vs ∧ tt σ2 H2 fun b H3 => if b = true then tk σ2 H3 fun y H4 => tv σ2 H4 fun z H5 => Rk y z H5 else Rs H3)
    (done : ∀ H, Gr Tb H1 H → H D = some (.dK (dS (putAll [] (xs.filterMap f)))) → Qd H) :
    ∃ W : Nat → Nat → Hp → Prop, (∃ m, W 0 m (upd H1 D (.dK []))) ∧ ∀ i m H, W i m H →
      (J.stop i H ∧ Qd H) ∨ (J.go i H ∧ ∃ Nx : Hp → Prop, (∀ H', Nx H' → ∃ m', m' < m ∧ W (i + 1) m' H') ∧ ∀ x H', J.yld i H x H' → g x (wipe σ vs) H' fun σ2 H2 => wipe σ2 vs = wipe σ vs ∧ tt σ2 H2 fun b H3 =>
        if b = true then tk σ2 H3 fun y H4 => tv σ2 H4 fun z H5 => ∃ kvs k, y = kV k ∧ H5 D = some (.dK kvs) ∧ kvs.length < sizeLine ∧ Nx (upd H5 D (.dK (putK kvs k z))) else Nx H3) := by
  have h0 : Gr Tb H1 (upd H1 D (.dK [])) := Gr.new hD
  let P : Nat → Hp → Prop := fun i H => Gr Tb H1 H ∧ H D = some (.dK (dS (putAll [] ((xs.take i).filterMap f))))
  refine ⟨fun i m H => m = n - i ∧ i ≤ n ∧ P i H, ⟨n, rfl, Nat.zero_le _, h0, by rw [List.take_zero]; exact upd_same⟩, ?_⟩
  rintro i m H ⟨rfl, hi, p⟩
  have q := hG H p.1
  by_cases hlt : i < n
  · refine .inr ⟨wk.goes i H hlt q, P (i + 1), fun H' p' => ⟨n - (i + 1), by omega, rfl, hlt, p'⟩, fun x H' y => ?_⟩
    obtain ⟨rfl, hx⟩ := wk.yields i H x H' hlt q y
    obtain ⟨g1, hd⟩ := p
    have lle : (putAll [] ((xs.take i).filterMap f)).length ≤ 100000 := by
      have h1 := putAll_len ((xs.take i).filterMap f) []
      have h2 : ((xs.take i).filterMap f).length ≤ i := Nat.le_trans (List.length_filterMap_le _ _) (by rw [List.length_take]; omega)
      have h3 : ([] : Num).length = 0 := rfl
      omega
    refine turn i x H' hx g1 (fun y z H5 => ∃ kvs k, y = kV k ∧ H5 D = some (.dK kvs) ∧ kvs.length < sizeLine ∧ P (i + 1) (upd H5 D (.dK (putK kvs k z)))) (P (i + 1)) (fun q H4 e gr => ?_) (fun H4 e gr => ?_)
    · have hd4 := gr.at hd .dK
      refine ⟨_, Sum.inr q.1, rfl, hd4, ?_, Gr.putD hD (g1.trans gr) hd4, ?_⟩
      · rw [dS_len, sizeLine_eq]
        omega
      · rw [upd_same, filterMap_take f xs hx, e, putK_dS]
        unfold putAll
        rw [Option.toList_some, List.foldl_append]
        rfl
    · refine ⟨g1.trans gr, ?_⟩
      rw [filterMap_take f xs hx, e, gr.at hd .dK]
      simp
  · have e : i = n := by omega
    subst e
    refine .inl ⟨wk.stops H q, done H p.1 ?_⟩
    have := p.2
    rw [hn, List.take_length] at this
    exact this
/-! ### numbers grow -/
def addAll (f : Str → Int) (l : Num) : Str → Int := l.foldl (fun f q => upF f q.1 (f q.1 + q.2)) f
theorem addAll_append (f : Str → Int) (l m : Num) : addAll f (l ++ m) = addAll (addAll f l) m := List.foldl_append ..
theorem addAll_snoc (f : Str → Int) (l : Num) (q : Str × Int) : addAll f (l ++ [q]) = upF (addAll f l) q.1 (addAll f l q.1 + q.2) := by
  rw [addAll_append]
  rfl
def amt (l : Num) (x : Str) : Int := (l.map fun q => if q.1 = x then q.2 else 0).sum
def ones (l : List Str) : Num := l.map fun p => (p, 1)
theorem amt_cons (q : Str × Int) (l : Num) (x : Str) : amt (q :: l) x = (if q.1 = x then q.2 else 0) + amt l x := by
  unfold amt
  rw [List.map_cons, List.sum_cons]
theorem amt_append (l m : Num) (x : Str) : amt (l ++ m) x = amt l x + amt m x := by
  induction l with
  | nil =>
    show amt m x = 0 + amt m x
    omega
  | cons q l ih =>
    rw [List.cons_append, amt_cons, amt_cons, ih]
    omega
theorem addAll_at : ∀ (l : Num) (f : Str → Int) (x : Str), addAll f l x = f x + amt l x
  | [], f, x => by
    show f x = f x + 0
    omega
  | q :: l, f, x => by
    show addAll (upF f q.1 (f q.1 + q.2)) l x = _
    rw [addAll_at l, amt_cons]
    unfold upF
    by_cases h : x = q.1
    · rw [if_pos h, if_pos h.symm, h]
      omega
    · rw [if_neg h, if_neg fun z => h z.symm]
      omega
/-- what the splits add: to each part, for each entry -/
def incs (es : List Ent) (f : Str → Int) : Num := es.flatMap fun e => e.parts.map fun p => (p, f e.name)
theorem incs_snoc {es : List Ent} {f : Str → Int} {i : Nat} {e : Ent} (h : es[i]? = some e) : incs (es.take (i + 1)) f = incs (es.take i) f ++ e.parts.map fun p => (p, f e.name) := by
  unfold incs
  rw [List.take_add_one, h, List.flatMap_append]
  simp
/-- the pieces of each kind: of the stock, of the splits -/
def pn (es : List Ent) (st sp : Num) : Str → Int := addAll (getD st) (incs es (getD sp))
theorem amt_perm {es es' : List Ent} (p : es'.Perm es) (f : Str → Int) (x : Str) : amt (incs es' f) x = amt (incs es f) x := by
  induction p with
  | nil => rfl
  | cons e _ ih =>
    unfold incs at ih ⊢
    rw [List.flatMap_cons, List.flatMap_cons, amt_append, amt_append, ih]
  | swap a b l =>
    unfold incs
    rw [List.flatMap_cons, List.flatMap_cons, List.flatMap_cons, List.flatMap_cons, amt_append, amt_append, amt_append, amt_append]
    omega
  | trans _ _ h1 h2 => rw [h1, h2]
theorem pn_at (es : List Ent) (st sp : Num) (x : Str) : pn es st sp x = getD st x + amt (incs es (getD sp)) x := addAll_at _ _ _
theorem pn_perm {es es' : List Ent} (p : es'.Perm es) (st sp : Num) : pn es' st sp = pn es st sp := by
  funext x
  rw [pn_at, pn_at, amt_perm p]
/-- a dict comprehension over anything, by the turn's number -/
theorem dc_gen {Tb : List (Addr × Str)} {J : It} {n : Nat} {GG : Hp → Prop} {Y : Nat → Hp → V → Hp → Prop} (wk : Walk J n GG Y) {g : TG} {tt : TT} {tk tv : TE} {vs : List Nat} {σ : L2.St} {H1 : Hp} {D : Addr} {Qd : Hp → Prop} (F : Nat → Option (Str × Int)) (hD : H1 D = none) (hz : n ≤ 100000)
    (hG : ∀ H, Gr Tb H1 H → GG H) (hY : ∀ i H x H', Y i H x H' → Gr Tb H H')
    (turn : ∀ (i : Nat) (x : V) (H H' : Hp), i < n → Gr Tb H1 H' → Y i H x H' → ∀ (Rk : V → V → Hp → Prop) (Rs : Hp → Prop), (∀ q H4, F i = some q → Gr Tb H' H4 → Rk (.str q.1) (.int q.2) H4) → (∀ H4, F i = none → Gr Tb H' H4 → Rs H4) →
      g x (wipe σ vs) H' fun σ2 H2 => wipe σ2 vs = wipe σ vs ∧ tt σ2 H2 fun b H3 => if b = true then tk σ2 H3 fun y H4 => tv σ2 H4 fun z H5 => Rk y z H5 else Rs H3)
    (done : ∀ H, Gr Tb H1 H → H D = some (.dK (dS (putAll [] ((List.range n).filterMap F)))) → Qd H) :
    ∃ W : Nat → Nat → Hp → Prop, (∃ m, W 0 m (upd H1 D (.dK []))) ∧ ∀ i m H, W i m H →
      (J.stop i H ∧ Qd H) ∨ (J.go i H ∧ ∃ Nx : Hp → Prop, (∀ H', Nx H' → ∃ m', m' < m ∧ W (i + 1) m' H') ∧ ∀ x H', J.yld i H x H' → g x (wipe σ vs) H' fun σ2 H2 => wipe σ2 vs = wipe σ vs ∧ tt σ2 H2 fun b H3 =>
        if b = true then tk σ2 H3 fun y H4 => tv σ2 H4 fun z H5 => ∃ kvs k, y = kV k ∧ H5 D = some (.dK kvs) ∧ kvs.length < sizeLine ∧ Nx (upd H5 D (.dK (putK kvs k z))) else Nx H3) := by
  have h0 : Gr Tb H1 (upd H1 D (.dK [])) := Gr.new hD
  let P : Nat → Hp → Prop := fun i H => Gr Tb H1 H ∧ H D = some (.dK (dS (putAll [] ((List.range i).filterMap F))))
  refine ⟨fun i m H => m = n - i ∧ i ≤ n ∧ P i H, ⟨n, rfl, Nat.zero_le _, h0, upd_same⟩, ?_⟩
  rintro i m H ⟨rfl, hi, p⟩
  have q := hG H p.1
  by_cases hlt : i < n
  · refine .inr ⟨wk.goes i H hlt q, P (i + 1), fun H' p' => ⟨n - (i + 1), by omega, rfl, hlt, p'⟩, fun x H' y => ?_⟩
    have yy := wk.yields i H x H' hlt q y
    have g1 := p.1.trans (hY _ _ _ _ yy)
    have hd := (hY _ _ _ _ yy).at p.2 .dK
    have lle : (putAll [] ((List.range i).filterMap F)).length ≤ 100000 := by
      have h1 := putAll_len ((List.range i).filterMap F) []
      have h2 : ((List.range i).filterMap F).length ≤ i := Nat.le_trans (List.length_filterMap_le _ _) (by rw [List.length_range]; exact Nat.le_refl _)
      have h3 : ([] : Num).length = 0 := rfl
      omega
    refine turn i x H H' hlt g1 yy (fun y z H5 => ∃ kvs k, y = kV k ∧ H5 D = some (.dK kvs) ∧ kvs.length < sizeLine ∧ P (i + 1) (upd H5 D (.dK (putK kvs k z)))) (P (i + 1)) (fun q H4 e gr => ?_) (fun H4 e gr => ?_)
    · have hd4 := gr.at hd .dK
      refine ⟨_, Sum.inr q.1, rfl, hd4, ?_, Gr.putD hD (g1.trans gr) hd4, ?_⟩
      · rw [dS_len, sizeLine_eq]
        omega
      · rw [upd_same, List.range_succ, List.filterMap_append, putK_dS]
        unfold putAll
        rw [List.foldl_append, List.filterMap_cons, e]
        rfl
    · refine ⟨g1.trans gr, ?_⟩
      rw [List.range_succ, List.filterMap_append, List.filterMap_cons, e, gr.at hd .dK]
      simp
  · have e : i = n := by omega
    subst e
    exact .inl ⟨wk.stops H q, done H p.1 p.2⟩
theorem fm_range {α β : Type} (f : α → Option β) : ∀ l : List α, (List.range l.length).filterMap (fun i => l[i]?.bind f) = l.filterMap f := by
  intro l
  have key : ∀ n, n ≤ l.length → (List.range n).filterMap (fun i => l[i]?.bind f) = (l.take n).filterMap f := by
    intro n
    induction n with
    | zero => intro _; rfl
    | succ n ih =>
      intro h
      obtain ⟨x, hx⟩ : ∃ x, l[n]? = some x := ⟨_, List.getElem?_eq_getElem (by omega)⟩
      rw [List.range_succ, List.filterMap_append, ih (by omega), filterMap_take f l hx, List.filterMap_cons, hx]
      show _ ++ (match f x with | none => _ | some b => _) = _
      cases f x <;> rfl
  have := key l.length (Nat.le_refl _)
  rwa [List.take_length] at this
/-- the numbers that are not zero -/
def posN (es : List Ent) (f : Str → Int) : Num := numOf (es.filter fun e => decide (f e.name ≠ 0)) f
theorem posN_nodup {es : List Ent} {f : Str → Int} (h : (es.map (·.name)).Nodup) : ((posN es f).map (·.1)).Nodup := by
  unfold posN
  rw [numOf_names]
  exact h.sublist ((List.filter_sublist (l := es)).map _)
theorem getD_posN {es : List Ent} {f : Str → Int} {x : Str} (h : x ∈ es.map (·.name)) : getD (posN es f) x = f x := by
  by_cases q : f x = 0
  · rw [q]
    refine getD_none fun hm => ?_
    unfold posN at hm
    rw [numOf_names] at hm
    obtain ⟨e, he, rfl⟩ := List.mem_map.mp hm
    exact of_decide_eq_true (List.mem_filter.mp he).2 q
  · refine getD_numOf ?_
    obtain ⟨e, he, rfl⟩ := List.mem_map.mp h
    exact List.mem_map.mpr ⟨e, List.mem_filter.mpr ⟨he, decide_eq_true q⟩, rfl⟩
/-! ### what put does -/
theorem get?_cons (q : Str × Int) (d : Num) (x : Str) : get? (q :: d) x = if q.1 = x then some q.2 else get? d x := by
  unfold get?
  rw [List.find?_cons]
  by_cases h : q.1 = x
  · rw [if_pos h, show decide (q.1 = x) = true from decide_eq_true h]
    rfl
  · rw [if_neg h, show decide (q.1 = x) = false from decide_eq_false h]
theorem get?_app_new {d : Num} {x y : Str} {i : Int} : get? (d ++ [(x, i)]) y = match get? d y with | some j => some j | none => if x = y then some i else none := by
  induction d with
  | nil =>
    rw [List.nil_append, get?_cons]
    rfl
  | cons q d ih =>
    rw [List.cons_append, get?_cons, get?_cons, ih]
    by_cases h : q.1 = y
    · rw [if_pos h, if_pos h]
    · rw [if_neg h, if_neg h]
theorem get?_map {d : Num} {x y : Str} {i : Int} : get? (d.map fun q => if q.1 = x then (q.1, i) else q) y = if y = x ∧ y ∈ d.map (·.1) then some i else get? d y := by
  induction d with
  | nil =>
    rw [if_neg (fun z => by cases z.2)]
    rfl
  | cons q d ih =>
    rw [List.map_cons, get?_cons, get?_cons, ih, List.map_cons]
    by_cases h1 : q.1 = x
    · rw [if_pos h1]
      show (if q.1 = y then some i else _) = _
      by_cases h2 : q.1 = y
      · rw [if_pos h2, if_pos ⟨h2.symm.trans h1, by rw [h2]; exact List.mem_cons_self ..⟩]
      · rw [if_neg h2, if_neg h2]
        by_cases h3 : y = x
        · exact absurd (h1.trans h3.symm) h2
        · rw [if_neg fun z => h3 z.1, if_neg fun z => h3 z.1]
    · rw [if_neg h1]
      by_cases h2 : q.1 = y
      · rw [if_pos h2, if_pos h2, if_neg fun z => h1 (h2.trans z.1)]
      · rw [if_neg h2, if_neg h2]
        by_cases h3 : y = x ∧ y ∈ d.map (·.1)
        · rw [if_pos h3, if_pos ⟨h3.1, List.mem_cons_of_mem _ h3.2⟩]
        · rw [if_neg h3, if_neg fun z => h3 ⟨z.1, (List.mem_cons.mp z.2).resolve_left fun w => h2 w.symm⟩]
theorem mem_of_get? {d : Num} {x : Str} {i : Int} (h : get? d x = some i) : x ∈ d.map (·.1) := by
  cases q : decide (x ∈ d.map (·.1)) with
  | true => exact of_decide_eq_true q
  | false =>
    rw [get?_none (of_decide_eq_false q)] at h
    cases h
theorem get?_of_mem {d : Num} {x : Str} (h : x ∈ d.map (·.1)) : ∃ i, get? d x = some i := by
  induction d with
  | nil => cases h
  | cons q d ih =>
    rw [get?_cons]
    by_cases e : q.1 = x
    · exact ⟨_, if_pos e⟩
    · rw [if_neg e]
      rw [List.map_cons] at h
      exact ih ((List.mem_cons.mp h).resolve_left fun z => e z.symm)
theorem any_mem {d : Num} {x : Str} : (d.any fun q => decide (q.1 = x)) = true ↔ x ∈ d.map (·.1) := by
  rw [List.any_eq_true]
  constructor
  · rintro ⟨q, hq, e⟩
    exact List.mem_map.mpr ⟨q, hq, of_decide_eq_true e⟩
  · intro h
    obtain ⟨q, hq, e⟩ := List.mem_map.mp h
    exact ⟨q, hq, decide_eq_true e⟩
theorem get?_put (d : Num) (x y : Str) (i : Int) : get? (put d x i) y = if y = x then some i else get? d y := by
  by_cases h : x ∈ d.map (·.1)
  · unfold put
    rw [if_pos (any_mem.mpr h), get?_map]
    by_cases e : y = x
    · rw [if_pos e, if_pos ⟨e, e ▸ h⟩]
    · rw [if_neg e, if_neg fun z => e z.1]
  · rw [put_new' h, get?_app_new]
    by_cases e : y = x
    · rw [if_pos e, e, get?_none h]
      show (if x = x then some i else none) = _
      rw [if_pos rfl]
    · rw [if_neg e]
      cases get? d y with
      | some j => rfl
      | none => exact if_neg fun z => e z.symm
theorem getD_put (d : Num) (x y : Str) (i : Int) : getD (put d x i) y = if y = x then i else getD d y := by
  unfold getD
  rw [get?_put]
  split <;> rfl
theorem put_keys (d : Num) (x y : Str) (i : Int) : y ∈ (put d x i).map (·.1) ↔ y = x ∨ y ∈ d.map (·.1) := by
  constructor
  · intro h
    obtain ⟨j, hj⟩ := get?_of_mem h
    rw [get?_put] at hj
    by_cases e : y = x
    · exact .inl e
    · rw [if_neg e] at hj
      exact .inr (mem_of_get? hj)
  · intro h
    by_cases e : y = x
    · exact mem_of_get? (i := i) (by rw [get?_put, if_pos e])
    · obtain ⟨j, hj⟩ := get?_of_mem (h.resolve_left e)
      exact mem_of_get? (i := j) (by rw [get?_put, if_neg e, hj])
theorem put_nodup {d : Num} {x : Str} {i : Int} (h : (d.map (·.1)).Nodup) : ((put d x i).map (·.1)).Nodup := by
  by_cases q : x ∈ d.map (·.1)
  · unfold put
    rw [if_pos (any_mem.mpr q), List.map_map]
    have : ((fun q : Str × Int => q.1) ∘ fun q => if q.1 = x then (q.1, i) else q) = fun q => q.1 := by
      funext q
      show (if q.1 = x then (q.1, i) else q).1 = q.1
      split <;> rfl
    rw [this]
    exact h
  · rw [put_new' q, List.map_append]
    refine List.nodup_append.mpr ⟨h, by simp, fun a ha b hb e => ?_⟩
    have hb2 : b = x := List.mem_singleton.mp hb
    rw [e, hb2] at ha
    exact q ha
theorem getD_mem {d : Num} (h : (d.map (·.1)).Nodup) {q : Str × Int} (hq : q ∈ d) : getD d q.1 = q.2 := by
  unfold getD
  induction d with
  | nil => cases hq
  | cons z d ih =>
    rw [List.map_cons, List.nodup_cons] at h
    rw [get?_cons]
    rcases List.mem_cons.mp hq with e | hq
    · rw [if_pos (by rw [e]), e]
      rfl
    · rw [if_neg fun e => h.1 (List.mem_map.mpr ⟨q, hq, e.symm⟩)]
      exact ih h.2 hq
theorem get?_mem {d : Num} (h : (d.map (·.1)).Nodup) {q : Str × Int} (hq : q ∈ d) : get? d q.1 = some q.2 := by
  obtain ⟨i, hi⟩ := get?_of_mem (List.mem_map.mpr ⟨q, hq, rfl⟩ : q.1 ∈ d.map (·.1))
  have := getD_mem h hq
  unfold getD at this
  rw [hi] at this ⊢
  exact congrArg some this
/-- two dicts of numbers that are not zero, alike at each name -/
theorem num_eq {c d : Num} (hc : (c.map (·.1)).Nodup) (hd : (d.map (·.1)).Nodup) (zc : ∀ q ∈ c, q.2 ≠ 0) (zd : ∀ q ∈ d, q.2 ≠ 0) (e : ∀ x, getD c x = getD d x) : c.length = d.length ∧ ∀ q ∈ c, get? d q.1 = some q.2 := by
  have key : ∀ {c d : Num}, (c.map (·.1)).Nodup → (∀ q ∈ c, q.2 ≠ 0) → (∀ x, getD c x = getD d x) → ∀ x ∈ c.map (·.1), x ∈ d.map (·.1) := fun {c d} hc zc e x hx => by
    obtain ⟨q, hq, rfl⟩ := List.mem_map.mp hx
    cases z : decide (q.1 ∈ d.map (·.1)) with
    | true => exact of_decide_eq_true z
    | false =>
      have h1 := e q.1
      rw [getD_mem hc hq, getD_none (of_decide_eq_false z)] at h1
      exact absurd h1 (zc q hq)
  have k1 := key hc zc e
  have k2 := key hd zd fun x => (e x).symm
  refine ⟨?_, fun q hq => ?_⟩
  · have p : (c.map (·.1)).Perm (d.map (·.1)) := (List.perm_ext_iff_of_nodup hc hd).mpr fun x => ⟨k1 x, k2 x⟩
    have := p.length_eq
    rwa [List.length_map, List.length_map] at this
  · obtain ⟨i, hi⟩ := get?_of_mem (k1 q.1 (List.mem_map.mpr ⟨q, hq, rfl⟩))
    have h1 := e q.1
    rw [getD_mem hc hq] at h1
    unfold getD at h1
    rw [hi] at h1 ⊢
    exact congrArg some h1.symm
/-- d1 != d2, alike -/
theorem rd_neD {H : Hp} {a b : Addr} {c d : Num} {Q : VK} (ha : H a = some (.dK (dS c))) (hb : H b = some (.dK (dS d))) (hl : c.length = d.length) (h : ∀ q ∈ c, get? d q.1 = some q.2) (q : Q (.bl false) H) : rNeDA (.ref a) (.ref b) H Q :=
  ⟨a, b, _, _, rfl, rfl, ha, hb, by rw [dS_len, dS_len]; exact hl, fun p hp => by
    unfold dS at hp
    obtain ⟨z, hz, rfl⟩ := List.mem_map.mp hp
    refine ⟨?_, rfl⟩
    show valV (dS d) (Sum.inr z.1) = some (V.int z.2)
    rw [valV_dS, h z hz]
    rfl, q⟩
/-! ### dict([(name, number) ..]), for name in d -/
theorem mergeK_dS (l : Num) : ∀ d : Num, mergeK (dS d) (dS l) = dS (putAll d l) := by
  induction l with
  | nil => intro d; rfl
  | cons q l ih =>
    intro d
    show mergeK (putK (dS d) (Sum.inr q.1) (.int q.2)) (dS l) = dS (putAll (put d q.1 q.2) l)
    rw [putK_dS, ih]
theorem merge_new {l : Num} (h : (l.map (·.1)).Nodup) : mergeK [] (dS l) = dS l := by
  have := mergeK_dS l []
  rw [putAll_new l [] h] at this
  exact this
/-- a row of a name and its number -/
def PRow (H : Hp) (val : Str → Int) (x y : V) : Prop := ∃ t n, x = .str n ∧ y = .ref t ∧ H t = some (.tup [.str n, .int (val n)])
theorem pairs_dict {K : PySem.W.Frag} {H : Hp} {val : Str → Int} : ∀ {ns : List Str} {ys : List V}, Paired (PRow H val) (ns.map V.str) ys → ∃ ps : List Addr, ys = ps.map V.ref ∧ Paired (fun p kv => SqT K H p [kV kv.1, kv.2]) ps (dS (ns.map fun n => (n, val n)))
  | [], _, .nil => ⟨[], rfl, .nil⟩
  | n :: ns, _, .cons ⟨t, n', e, e2, h⟩ p => by
    cases e
    subst e2
    obtain ⟨ps, h1, h2⟩ := pairs_dict p
    exact ⟨t :: ps, by rw [h1]; rfl, .cons (SqT.of h) h2⟩
theorem walk_keysS {d : Addr} {o : Obj} {n : Num} : Walk (Itk d o (dS n)) n.length (fun H => H d = some (.frz o (.dK (dS n)))) (YAt ((n.map (·.1)).map V.str)) := by
  have w := walk_keys (d := d) (o := o) (kvs := dS n)
  rw [dS_len] at w
  refine w.mono (fun _ h => h) fun i H x H' hi _ y => ?_
  obtain ⟨h1, k, v, h2, h3⟩ := y
  refine ⟨h1, ?_⟩
  unfold dS at h2
  rw [List.getElem?_map] at h2
  cases hq : n[i]? with
  | none => rw [hq] at h2; cases h2
  | some q =>
    rw [hq] at h2
    cases h2
    rw [List.getElem?_map, List.getElem?_map, hq, h3]
    rfl
def stockO (H : Hp) (d : Num) (v : V) : Option (Str × Int) := match itemAt H 0 v with
  | some (.str n) => some (n, getD d n)
  | _ => none
theorem stockO_at {H : Hp} {d : Num} {v : V} {e : Ent} (h : EntAt H v e) : stockO H d v = some (e.name, getD d e.name) := by
  obtain ⟨t, l, rfl, ht, _⟩ := h
  unfold stockO
  rw [itemAt_tup ht]
  rfl
/-- {name: stock.get(name, 0) for name, weight, parts in entries} -/
theorem dc_stock {Tb : List (Addr × Str)} {K : PySem.W.Frag} {a b : Addr} {xs : List V} {es : List Ent} {st : Num} {i j k l : Nat} {σ : L2.St} {H1 : Hp} {D : Addr} {Qd : Hp → Prop} (ha : SqL K H1 a xs) (hc : CatAt H1 xs es) (hb : H1 b = some (.dK (dS st))) (hnd : (es.map (·.name)).Nodup) (hz : es.length ≤ 100000) (hD : H1 D = none)
    (hw : ∀ n w p, wipe ((((wipe σ [i, j, k]).set i n).set j w).set k p) [i, j, k] = wipe σ [i, j, k]) (h1 : ∀ n w p, ((((wipe σ [i, j, k]).set i n).set j w).set k p)[i]? = some n) (h2 : ∀ n w p, ((((wipe σ [i, j, k]).set i n).set j w).set k p)[l]? = some (some (.ref b)))
    (done : ∀ H, Gr Tb H1 H → H D = some (.dK (dS (numOf es (getD st)))) → Qd H) :
    ∃ W : Nat → Nat → Hp → Prop, (∃ m, W 0 m (upd H1 D (.dK []))) ∧ ∀ r m H, W r m H →
      ((Itl K a).stop r H ∧ Qd H) ∨ ((Itl K a).go r H ∧ ∃ Nx : Hp → Prop, (∀ H', Nx H' → ∃ m', m' < m ∧ W (r + 1) m' H') ∧ ∀ x H', (Itl K a).yld r H x H' → (gTup K 3 (gCons (gName i) (gCons (gName j) (gCons (gName k) gNil)))) x (wipe σ [i, j, k]) H' fun σ2 H2 => wipe σ2 [i, j, k] = wipe σ [i, j, k] ∧ tYes σ2 H2 fun b H3 =>
        if b = true then tVar i σ2 H3 fun y H4 => (tDGet2 (tVar l) (tVar i) (tC (.int 0))) σ2 H4 fun z H5 => ∃ kvs k, y = kV k ∧ H5 D = some (.dK kvs) ∧ kvs.length < sizeLine ∧ Nx (upd H5 D (.dK (putK kvs k z))) else Nx H3) := by
  have hl := Paired.len hc
  refine dc_fm (Tb := Tb) (xs := xs) walk_list rfl (stockO H1 st) hD (by omega) (fun H' g => g.ext_seq ha) (fun j' v H' hv g Rk Rs hk hs => ?_) fun H' g hD' => ?_
  · obtain ⟨e, he, hev⟩ := Paired.at hc hv
    have hco := stockO_at (d := st) hev
    obtain ⟨t, lp, rfl, ht, hlp⟩ := hev
    have hb' := g.at hb .dK
    refine gtup3 (g.at ht .tup) ⟨hw _ _ _, _, h1 _ _ _, _, h2 _ _ _, b, rfl, IsD.num hb', _, h1 _ _ _, _, dgetO hb' e.name, ?_⟩
    rw [getO]
    exact hk (e.name, getD st e.name) _ hco (Gr.refl _)
  · have e : xs.filterMap (stockO H1 st) = numOf es (getD st) := fm_paired (fun v e h => stockO_at h) hc
    rw [e, putAll_new _ _ (by rw [List.nil_append, numOf_names]; exact hnd), List.nil_append] at hD'
    exact done H' g hD'
end Sk
/-! x = {..: .. for ..}, x a local name: the comprehension stores its dict itself -/
namespace Sk
open PySem PySem.Spec PyProof.Rows L2
section
variable {X : Cx}
theorem swD_true {kx vx : Expr} {gs : List Comprehension} {scope : Scope} {pos py : Pos} {y : Str} {l : Nat} {env : Env} (hk : env.scope.kind = .function) (hy : env.scope.names.lookup y = some .local) (hl : (py.line == pos.line) = true)
    (ha : (scope.names.any fun (n, k) => n == y && (k == .local || k == .cell)) = false) : swapsWith (.DictComp kx vx gs scope pos) (some (.Name y py)) l env = pure true := by
  have e1 : env.kindOf y = some .local := hy
  have e2 : env.blockKind = .function := by
    unfold Env.blockKind
    rw [hk]
    rfl
  unfold swapsWith
  simp only [e1, e2, ha, Expr.pos, hl] <;> rfl
theorem ps_setDc {i : Nat} {y : Str} {py : Pos} {kx vx tg iter : Expr} {ifs : List Expr} {scope : Scope} {own : List (Str × Nat)} {pos spos : Pos} {wi : TI} {g : TG} {tt : TT} {tk tv : TE} (hc : X.calm = true) (hN : X.N.Nodup) (hy : X.N[i]? = some y)
    (hyl : X.env.scope.names.lookup y = some .local) (hsw : swapsWith (.DictComp kx vx [⟨tg, iter, ifs, 0⟩] scope pos) (some (.Name y py)) spos.line X.env = pure true) (hi : PI X tg iter wi) (ok : BlkOk X.N X.env.scope scope own)
    (hg : ∀ s H C cl fp, PG (X.blk s H scope (compEnvC scope cl C X.env) fp) tg g) (ht : ∀ s H C cl fp, PTs (X.blk s H scope (compEnvC scope cl C X.env) fp) ifs tt)
    (hk : ∀ s H C cl fp, PE (X.blk s H scope (compEnvC scope cl C X.env) fp) kx tk) (he : ∀ s H C cl fp, PE (X.blk s H scope (compEnvC scope cl C X.env) fp) vx tv) (hs : ∀ x, foldedSetIterable iter X.env x = pure x := by intro _; rfl) :
    PS X (.Assign [.Name y py] (.DictComp kx vx [⟨tg, iter, ifs, 0⟩] scope pos) spos) (tAsg (tDc wi g tt tk tv (own.map (·.2))) (gName i)) := by
  refine ⟨fun pins s σ H D I h0 => ?_⟩
  rw [exec_Assign_Name_used _ _ _ _ hsw]
  have h : tDc wi g tt tk tv (own.map (·.2)) σ H (fun x H1 => gName i x σ H1 D.nx) := h0
  refine wpAny_bind (wpAny_standAt (wpAny_bind ?_))
  show wpAny _ X.A (do
    let _ ← comprehension (.DictComp kx vx [⟨tg, iter, ifs, 0⟩] scope pos) scope X.env (firstIterPos [⟨tg, iter, ifs, 0⟩] pos) newDict false (eval iter X.env) (some (assign (.Name y py) X.env))) _ _ s
  refine wpAny_bind (thn (dc_core (Qf := fun _ s' => SP X pins D .next s') hc hN I hi ok hg ht hk he hs h fun L C s' m H' J q hn f => ?_) fun _ s' hq => wpAny_pure (wpAny_pure hq))
  obtain ⟨f0, f1, f2, f3, f4, f5⟩ := f
  show wpAny _ _ (assign (.Name y py) X.env (.ref L)) _ _ _
  refine wpAny_assign_Name (store_ok2 (v := V.ref L) J hN hy (.inl hyl) rfl (fun s2 J2 ⟨a, sb, ha⟩ => ?_) (.inr hyl))
  have ne : C ≠ a := fun e => by
    rcases ha with z | z
    · exact f1 (e.trans z)
    · exact f4 y a z e.symm
  exact ⟨m, hn.sameBut sb ne, fun h3 sb3 => ⟨_, H', J2.turned (t' := s2.toks) (fun b o hb e => (sb3.2 b hb).trans e) f0 f1 f3 f4 f5, q⟩⟩
end
end Sk
/-! sum(d.values()) -/
namespace Sk
open PySem PySem.Spec PyProof.Rows L2
section
variable {X : Cx} {o : Expr} {p pos apos mpos : Pos} {td : TE}
/-- sum(o.values()), a dict whose values are ints -/
def tSumVals (td : TE) : TE := fun σ H Q => td σ H fun x H1 => ∃ (a : Addr) (kvs : List (Key × V)) (is : List Int), x = V.ref a ∧ H1 a = some (.dK kvs) ∧ kvs.map (·.2) = is.map V.int ∧ Q (.int is.sum) H1
theorem pe_sumVals (hc : X.calm = true) (hg : Gl X "sum") (hm : X.mg "sum" = none) (hd : PE X o td) (hbase : attributeBase o "values" X.env (eval o X.env) = eval o X.env := by rfl) (hline : (apos.endLine == mpos.line) = true := by rfl)
    (hse : starEach [Expr.Call (.Attribute o "values" apos) [] [] mpos] X.env = [(false, eval (Expr.Call (.Attribute o "values" apos) [] [] mpos) X.env)] := by rfl) :
    PE X (.Call (.Name "sum" p) [.Call (.Attribute o "values" apos) [] [] mpos] [] pos) (tSumVals td) := by
  refine ⟨fun pins s σ H Q I h => ?_⟩
  refine wpAny_Call_Name_kw (ld_blt I hg hm (u := .builtin "sum") (by first | rfl | decide +kernel) ?_ (by decide +kernel) (by decide +kernel))
  rw [hse]
  refine PySem.callWith_builtin1 (wpAny_Call_method0_late hbase hline (thn (hd.run pins s σ H _ I h) fun v s1 ⟨x, H1, I1, r1, a, kvs, is, ex, ha, hv, q⟩ => ?_))
  subst ex
  obtain rfl : v = Value.ref a := r1
  obtain ⟨_, hsys, vs, rel, dof⟩ := dk_of I1.hok ha
  obtain ⟨ep, dat⟩ := dof.dictAt
  obtain ⟨ob, es, ho, ex, hdat, hko, hpr, hnd⟩ := id dat
  refine ⟨"dict", "dict.values", F.plainAttrs_dict, F.slot_dict_values, F.type_dict_values, ⟨ob, ho, ex.1⟩, fun b e => ?_, Calls.callWith_builtin rfl (PySem.evalArgs_none ?_)⟩
  · cases e
    exact ⟨ob, ho, ex.2.1⟩
  refine call_meetsIn F.slot_dict_values ⟨ob, ho, ex.1⟩ F.entry_dict_values (F.args_dict_values_1 _) (meets_dict_values (mixKind X.prog X.w) a hsys) ⟨⟨vs, dof⟩, ?_⟩
  have up : ∀ b u, s1.heap.get? b = some u → (s1.heap.push { cls := .type "dict_values", data := .fields #[.ref a] }).get? b = some u := fun b u e => Heap.get?_push_of_some _ e
  have datV := dat.keep up
  have lv : vs.length = is.length := by
    have e1 := congrArg List.length hv
    rw [List.length_map, List.length_map] at e1
    rw [← e1, ← KV.length rel]
  have vals : ∀ (i : Nat) (u : Value), (∃ k, vs[i]? = some (k, u)) → ∃ t, u = Value.int (is.getD i 0) t := by
    rintro i u ⟨k, hk⟩
    obtain ⟨x, h1, h2⟩ := KV.at' rel hk
    have e1 : (is.map V.int)[i]? = some x := by
      rw [← hv, List.getElem?_map, h1]
      rfl
    rw [List.getElem?_map] at e1
    obtain ⟨j, hj, rfl⟩ := Option.map_eq_some_iff.mp e1
    obtain ⟨t, e3⟩ := h2
    exact ⟨t, by rw [e3, List.getD_eq_getElem?_getD, hj]; rfl⟩
  have hlt : a < s1.heap.objs.size := Heap.lt_size ho
  have sz : (s1.heap.push { cls := .type "dict_values", data := .fields #[.ref a] }).objs.size = s1.heap.objs.size + 1 := Heap.size_push _ _
  refine call_sum_walkAnyS (wpAny_pyIter_values (v := s1.heap.objs.size) (d := a) ⟨_, Heap.get?_push_size _ rfl, rfl, rfl⟩ datV ?_)
  refine ⟨_, _, _, _, _, _, _, fun i => is.getD i 0, rfl, (Walks.dictValues (knd := mixKind X.prog X.w) (A := X.A.in1) (I.ok.hd hc) _ a (by rw [sz]; exact Nat.ne_of_lt (Nat.lt_succ_of_lt hlt)) vs ep).toS,
    ⟨⟨_, Heap.get?_push_size _ rfl, rfl, rfl⟩, datV.keep fun b u e => Heap.get?_push_of_some _ e⟩, fun b hb => ?_, vals, fun s' t' hm => ?_⟩
  · show b < ((s1.heap.push _).push _).objs.size
    rw [Heap.size_push, Heap.size_push]
    rw [sz] at hb
    rcases List.mem_cons.mp hb with e | hb
    · rw [e]
      exact Nat.lt_succ_self _
    · rw [List.mem_singleton.mp hb]
      exact Nat.lt_succ_of_lt (Nat.lt_succ_of_lt hlt)
  · have e : preSum (fun i => is.getD i 0) vs.length = is.sum := by
      rw [lv]
      clear lv vals q hv
      have key : ∀ n, n ≤ is.length → preSum (fun i => is.getD i 0) n = (is.take n).sum := by
        intro n
        induction n with
        | zero => intro _; rfl
        | succ n ih =>
          intro hn
          show preSum _ n + is.getD n 0 = _
          rw [ih (by omega), List.take_add_one, List.sum_append, List.getD_eq_getElem?_getD, List.getElem?_eq_getElem (by omega)]
          simp
      rw [key _ (Nat.le_refl _), List.take_length]
    rw [e, Moved.eq_with hm]
    refine ⟨.int is.sum, H1, I1.kept (t' := s'.toks) fun b u e => hm.heap b u (fun hmem => ?_) (Heap.get?_push_of_some _ (up b u e)), ⟨t', rfl⟩, q⟩
    have e1 := List.mem_singleton.mp hmem
    have e2 := Heap.lt_size e
    rw [e1, sz] at e2
    exact absurd e2 (Nat.not_lt.mpr (Nat.le_succ _))
end
end Sk
/-! rules whose reading names the written part K, K told apart (within a comprehension) -/
namespace Sk
open PySem PySem.Spec PyProof.Rows L2
section
variable {X : Cx} {K : PySem.W.Frag}
theorem ixL (e : X.K = K) : IxR X (rIxL K) := by subst e; exact ix_list
theorem ixT (e : X.K = K) : IxR X (rIxT K) := by subst e; exact ix_tup
/-- an item of a list or of a tuple -/
def rIxA (K : PySem.W.Frag) : R2 := fun x y H Q => ∃ p xs i v, x = .ref p ∧ y = .int i ∧ (SqL K H p xs ∨ SqT K H p xs) ∧ atI xs i = some v ∧ Q v H
theorem ixA (e : X.K = K) : IxR X (rIxA K) := by
  intro va sl pins s σ H x y v u Q I rx ry h
  obtain ⟨p, xs, i, z, h1, h2, h3 | h3, h4, h5⟩ := h
  · exact ixL e va sl pins s σ H x y v u Q I rx ry ⟨p, xs, i, z, h1, h2, h3, h4, h5⟩
  · exact ixT e va sl pins s σ H x y v u Q I rx ry ⟨p, xs, i, z, h1, h2, h3, h4, h5⟩
theorem slL (e : X.K = K) : SlR X (rSlL K) := by subst e; exact sl_list
theorem slT (e : X.K = K) : SlR X (rSlT K) := by subst e; exact sl_tup
theorem opIn (e : X.K = K) : OpR X (compareOp .In) (rIn K false) := by subst e; exact op_in_seq
theorem opNotIn (e : X.K = K) : OpR X (compareOp .NotIn) (rIn K true) := by subst e; exact op_notIn_seq
theorem opEqD (e : X.K = K) (hu : X.A.units + 64 < cLine) : OpR X (compareOp .Eq) (rEqD K) := by subst e; exact op_eqD hu
theorem opNeD (e : X.K = K) (hu : X.A.units + 64 < cLine) : OpR X (compareOp .NotEq) (rNeD K) := by subst e; exact op_neD hu
theorem opEqNil (e : X.K = K) (hu : X.A.units + 64 < cLine) : OpR X (compareOp .Eq) (rNil K false) := by subst e; exact op_eqNil hu
theorem opNeNil (e : X.K = K) (hu : X.A.units + 64 < cLine) : OpR X (compareOp .NotEq) (rNil K true) := by subst e; exact op_neNil hu
/-- len of a list -/
def rLenL (K : PySem.W.Frag) : List V → Hp → VK → Prop := fun xs H Q => ∃ p ys, xs = [.ref p] ∧ (SqL K H p ys ∨ SqT K H p ys) ∧ Q (.int (List.length ys : Nat)) H
theorem lenS (e : X.K = K) : CallR X (.builtin "len") (rLenL K) := by subst e; exact call_len_seq
def rListOf (K : PySem.W.Frag) : List V → Hp → VK → Prop := fun xs H Q => ∃ p ys, xs = [.ref p] ∧ (SqL K H p ys ∨ SqT K H p ys) ∧ ∀ l, H l = none → Q (.ref l) (upd H l (.lst ys))
theorem listOf (e : X.K = K) : CallR X (.type "list") (rListOf K) := by subst e; exact call_list_of
theorem crSum (e : X.K = K) (hc : X.calm = true) : CallR X (.builtin "sum") (rSum K) := by subst e; exact cr_sum hc
theorem crMax (e : X.K = K) (hc : X.calm = true) : CallR X (.builtin "max") (rMax K) := by subst e; exact cr_max hc
theorem crMin (e : X.K = K) (hc : X.calm = true) : CallR X (.builtin "min") (rMin K) := by subst e; exact cr_min hc
theorem crAll (e : X.K = K) (hc : X.calm = true) : CallR X (.builtin "all") (rAll K) := by subst e; exact cr_all hc
theorem crAny (e : X.K = K) (hc : X.calm = true) : CallR X (.builtin "any") (rAny K) := by subst e; exact cr_any hc
theorem crSortedS (e : X.K = K) : CallR X (.builtin "sorted") (rSortedS K) := by subst e; exact cr_sortedS
theorem crSortedI (e : X.K = K) : CallR X (.builtin "sorted") (rSortedI K) := by subst e; exact cr_sortedI
theorem crSortedT (e : X.K = K) : CallR X (.builtin "sorted") (rSortedT K) := by subst e; exact cr_sortedT
def rDictP (K : PySem.W.Frag) : List V → Hp → VK → Prop := fun xs H Q => ∃ (a : Addr) (ps : List Addr) (kvs : List (Key × V)), xs = [.ref a] ∧ SqL K H a (ps.map V.ref) ∧ Paired (fun p kv => SqT K H p [kV kv.1, kv.2]) ps kvs ∧
    ∀ p, H p = none → Q (.ref p) (upd H p (.dK (mergeK [] kvs)))
theorem dictP (e : X.K = K) (hc : X.calm = true) : CallR X (.type "dict") (rDictP K) := by subst e; exact call_dictP hc
theorem isiR (e : X.K = K) : CallR X (.builtin "isinstance") (rIsi K) := by subst e; exact call_isi
variable {tg l o e1 : Expr} {es : List Expr} {tl to te : TE} {ta : TA} {p pos apos cpos tpos : Pos} {elts : List Expr} {kk : Nat} {name : Str} {T id : String} {r : V → List V → Hp → VK → Prop}
theorem piL (e : X.K = K) (hl : PE X l tl) : PI X tg l (iList K tl) := by subst e; exact pi_list hl
theorem piT (e : X.K = K) (hl : PE X l tl) : PI X tg l (iTup K tl) := by subst e; exact pi_tup hl
theorem piEnum (e : X.K = K) (hg : Gl X "enumerate") (hm : X.mg "enumerate" = none) (ha : PA X [l] ta) (hs : starEach [l] X.env = [(false, eval l X.env)] := by rfl) : PI X (.Tuple elts kk tpos) (.Call (.Name "enumerate" p) [l] [] pos) (iEnum K ta) := by
  subst e
  exact pi_enum hg hm ha hs
theorem piZip (e : X.K = K) (hg : Gl X "zip") (hm : X.mg "zip" = none) (ha : PA X [l, e1] ta) (hs : starEach [l, e1] X.env = (false, eval l X.env) :: starEach [e1] X.env := by rfl) (hpl : (backTo pos (starEach [e1] X.env)).any (·.1) = false := by rfl) :
    PI X (.Tuple elts kk tpos) (.Call (.Name "zip" p) [l, e1] [] pos) (iZip K ta) := by
  subst e
  exact pi_zip hg hm ha hs hpl
theorem piRev (e : X.K = K) (hg : Gl X "reversed") (hm : X.mg "reversed" = none) (ha : PA X [l] ta) (hs : starEach [l] X.env = [(false, eval l X.env)] := by rfl) : PI X tg (.Call (.Name "reversed" p) [l] [] pos) (iRev K ta) := by
  subst e
  exact pi_reversed hg hm ha hs
theorem peBm0 (e : X.K = K) (pa : PlainAttrs T) (slot : Slot T name id) (hty : typeOf (.builtin id) = pure (.type "method_descriptor")) (hm : MtR X id r) (ho : PE X o to)
    (hbase : attributeBase o name X.env (eval o X.env) = eval o X.env := by rfl) (hline : (apos.endLine == cpos.line) = true := by rfl) : PE X (.Call (.Attribute o name apos) [] [] cpos) (tBM0 K T r to) := by
  subst e
  exact pe_bm0 pa slot hty hm ho hbase hline
theorem peBm (e : X.K = K) (pa : PlainAttrs T) (slot : Slot T name id) (hty : typeOf (.builtin id) = pure (.type "method_descriptor")) (hm : MtR X id r) (ho : PE X o to) (ha : PA X (e1 :: es) ta)
    (hbase : attributeBase o name X.env (eval o X.env) = eval o X.env := by rfl)
    (hfew : ((backTo cpos (starEach (e1 :: es) X.env)).all (fun x => !x.1) && (backToKw cpos (keywordEach [] X.env)).all (fun x => x.1.isSome)
      && decide ((e1 :: es).length + ([] : List Keyword).length + (if ([] : List Keyword).isEmpty then 0 else 1) < 30)) = true := by rfl)
    (hline : (apos.endLine == cpos.line) = true := by rfl) (hs : starEach (e1 :: es) X.env = (false, eval e1 X.env) :: starEach es X.env := by rfl) (hplain : (backTo cpos (starEach es X.env)).any (·.1) = false := by rfl) :
    PE X (.Call (.Attribute o name apos) (e1 :: es) [] cpos) (tBM K T r to ta) := by
  subst e
  exact pe_bm pa slot hty hm ho ha hbase hfew hline hs hplain
end
end Sk
/-! repr of lists and tuples, no repr under way; nested data -/
namespace Sk
open PySem PySem.Spec PyProof.Rows L2
mutual
theorem Dp.noDict {K : PySem.W.Frag} {H : Hp} : ∀ {d : PyData} {v : V}, Dp K H v d → d.hasDict = false
  | .none, _, _ => rfl
  | .bool _, _, _ => rfl
  | .int _, _, _ => rfl
  | .str _, _, _ => rfl
  | .list ds, _, .lst _ h => by
    have := DpAll.noDict h
    simpa [PyData.hasDict] using this
  | .tuple ds, _, .tup _ h => by
    have := DpAll.noDict h
    simpa [PyData.hasDict] using this
  | .dict _, _, h => by cases h
theorem DpAll.noDict {K : PySem.W.Frag} {H : Hp} : ∀ {ds : List PyData} {vs : List V}, DpAll K H vs ds → PyData.hasDictAll ds = false
  | [], _, _ => by simp [PyData.hasDictAll]
  | d :: ds, _, .cons a t => by
    have h1 := Dp.noDict a
    have h2 := DpAll.noDict t
    simp [PyData.hasDictAll, h1, h2]
end
def rRepr (K : PySem.W.Frag) : List V → Hp → VK → Prop := fun xs H Q => ∃ (a : Addr) (d : PyData), xs = [.ref a] ∧ Dp K H (.ref a) d ∧ d.showable = true ∧ d.shown.length ≤ sizeLine ∧ d.depth ≤ 60 ∧ Q (.str d.shown) H
theorem crRepr {X : Cx} {K : PySem.W.Frag} (e : X.K = K) (hg : X.A.guards = some []) (hu : X.A.units + 64 < cLine) : CallR X (.builtin "repr") (rRepr K) := by
  subst e
  intro pins s σ H xs us Q I r h
  obtain ⟨a, d, rfl, hd, hs, hz, hdp, q⟩ := h
  obtain ⟨u, rfl, ru⟩ := vals1 r
  obtain ⟨as, rr⟩ := Dp.reads I d _ u hd ru
  obtain rfl : u = Value.ref a := ru
  exact PySem.repr_of_reads' rr hs (fun z => by rw [Dp.noDict hd] at z; cases z) hg (by omega) (fun b o e => e) (fun h' u tk k => ⟨.str d.shown, H, I.kept k, ⟨u, rfl⟩, q⟩) hz
/-! ### data -/
def tyName : PyData → String
  | .none => "NoneType" | .bool _ => "bool" | .int _ => "int" | .str _ => "str" | .list _ => "list" | .tuple _ => "tuple" | .dict _ => "dict"
theorem Dp.tyx {K : PySem.W.Frag} {H : Hp} {x : V} {d : PyData} (h : Dp K H x d) : TyX K H x (.type (tyName d)) := by
  cases h with
  | non => exact .base .non
  | bl b => exact .base (.bl b)
  | int i => exact .base (.int i)
  | str x => exact .base (.str x)
  | lst h _ =>
    rcases h with (h | ⟨o, h⟩) | ⟨o, its, n, h1, h2, _⟩
    · exact .base (.lst h)
    · exact .base (.frz h)
    · exact .kList h1 h2
  | tup h _ =>
    rcases h with (h | ⟨o, h⟩) | ⟨o, its, n, h1, h2, _⟩
    · exact .base (.tup h)
    · exact .fTuple h
    · exact .kTuple h1 h2
theorem rd_isi {K : PySem.W.Frag} {H : Hp} {x : V} {d : PyData} (T : String) (h : Dp K H x d) {b : Bool} (hb : kitB (tyName d) T = some b) {Q : VK} (q : Q (.bl b) H) : rIsi K [x, .ty T] H Q := ⟨x, .ty T, _, .type T, b, rfl, .ty T, Dp.tyx h, kit_ty hb, q⟩
theorem Gr.ext_tup {T : List (Addr × Str)} {K : PySem.W.Frag} {H H' : Hp} {a : Addr} {xs : List V} (g : Gr T H H') (h : SqT K H a xs) : SqT K H' a xs := by
  rcases h with (z | ⟨o, z⟩) | z
  · exact .inl (.inl (g.ext _ _ z (fun ps e => by cases e)))
  · exact .inl (.inr ⟨o, g.ext _ _ z (fun ps e => by cases e)⟩)
  · exact .inr z
mutual
theorem Dp.gr {T : List (Addr × Str)} {K : PySem.W.Frag} {H H' : Hp} (g : Gr T H H') : ∀ {d : PyData} {v : V}, Dp K H v d → Dp K H' v d
  | .none, _, .non => .non
  | .bool _, _, .bl b => .bl b
  | .int _, _, .int i => .int i
  | .str _, _, .str x => .str x
  | .list ds, _, .lst h a => .lst (g.ext_seq h) (DpAll.gr g a)
  | .tuple ds, _, .tup h a => .tup (g.ext_tup h) (DpAll.gr g a)
  | .dict _, _, h => by cases h
theorem DpAll.gr {T : List (Addr × Str)} {K : PySem.W.Frag} {H H' : Hp} (g : Gr T H H') : ∀ {ds : List PyData} {vs : List V}, DpAll K H vs ds → DpAll K H' vs ds
  | [], _, .nil => .nil
  | d :: ds, _, .cons a t => .cons (Dp.gr g a) (DpAll.gr g t)
end
theorem DpAll.len {K : PySem.W.Frag} {H : Hp} : ∀ {ds : List PyData} {vs : List V}, DpAll K H vs ds → vs.length = ds.length
  | [], _, .nil => rfl
  | d :: ds, _, .cons a t => by rw [List.length_cons, List.length_cons, DpAll.len t]
theorem DpAll.at {K : PySem.W.Frag} {H : Hp} : ∀ {ds : List PyData} {vs : List V} {i : Nat} {d : PyData}, DpAll K H vs ds → ds[i]? = some d → ∃ v, vs[i]? = some v ∧ Dp K H v d
  | [], _, _, _, .nil, e => by simp at e
  | _ :: _, _, 0, _, .cons a _, e => by
    cases e
    exact ⟨_, rfl, a⟩
  | _ :: _, _, i + 1, _, .cons _ t, e => DpAll.at (i := i) t (by simpa using e)
theorem depth_mem {ds : List PyData} {d : PyData} (h : d ∈ ds) : d.depth ≤ PyData.depthAll ds := by
  induction ds with
  | nil => cases h
  | cons x xs ih =>
    rw [PyData.depthAll]
    rcases List.mem_cons.mp h with e | h
    · subst e
      omega
    · have := ih h
      omega
mutual
/-- how many values there are in it -/
def cnt : PyData → Nat
  | .list ds => cntAll ds + 1
  | .tuple ds => cntAll ds + 1
  | .none => 1 | .bool _ => 1 | .int _ => 1 | .str _ => 1 | .dict _ => 1
def cntAll : List PyData → Nat
  | [] => 0
  | d :: ds => cnt d + cntAll ds
end
theorem cnt_pos : ∀ d : PyData, 1 ≤ cnt d
  | .list ds => by rw [cnt]; omega
  | .tuple ds => by rw [cnt]; omega
  | .none => by rw [cnt]; omega
  | .bool _ => by rw [cnt]; omega
  | .int _ => by rw [cnt]; omega
  | .str _ => by rw [cnt]; omega
  | .dict _ => by rw [cnt]; omega
theorem cnt_len : ∀ ds : List PyData, ds.length ≤ cntAll ds
  | [] => by rw [cntAll]; exact Nat.le_refl _
  | d :: ds => by
    rw [cntAll, List.length_cons]
    have := cnt_len ds
    have := cnt_pos d
    omega
theorem cnt_mem {ds : List PyData} {d : PyData} (h : d ∈ ds) : cnt d ≤ cntAll ds := by
  induction ds with
  | nil => cases h
  | cons x xs ih =>
    rw [cntAll]
    rcases List.mem_cons.mp h with e | h
    · subst e
      omega
    · have := ih h
      omega
theorem cnt_le {ds : List PyData} {m : Nat} (h : ∀ d ∈ ds, cnt d ≤ m) : cntAll ds ≤ ds.length * m := by
  induction ds with
  | nil => rw [cntAll]; omega
  | cons x xs ih =>
    rw [cntAll, List.length_cons, Nat.add_mul]
    have h1 := h x (List.mem_cons_self ..)
    have h2 := ih fun d hd => h d (List.mem_cons_of_mem _ hd)
    omega
theorem depth_le {ds : List PyData} {m : Nat} (h : ∀ d ∈ ds, d.depth ≤ m) : PyData.depthAll ds ≤ m := by
  induction ds with
  | nil => rw [PyData.depthAll]; omega
  | cons x xs ih =>
    rw [PyData.depthAll]
    have h1 := h x (List.mem_cons_self ..)
    have h2 := ih fun d hd => h d (List.mem_cons_of_mem _ hd)
    omega
/-! ### how long a repr is -/
theorem textFrom_le : ∀ (ts : List Str) (k : Nat) (acc : Str), (textFrom k acc ts).length ≤ acc.length + piled ts
  | [], _, _ => by
    show _ ≤ _ + 0
    exact Nat.le_refl _
  | t :: ts, k, acc => by
    have h := textFrom_le ts (k + 1) (acc ++ (if k > 0 then ", " else "" : String) ++ t)
    have e : (acc ++ (if k > 0 then ", " else "" : String) ++ t).length = acc.length + (if k > 0 then 2 else 0) + t.length := by
      rw [strLen_append, strLen_append]
      split <;> rfl
    rw [e] at h
    rw [piled_cons]
    show (textFrom (k + 1) (acc ++ (if k > 0 then ", " else "" : String) ++ t) ts).length ≤ _
    have : (if k > 0 then 2 else 0 : Nat) ≤ 2 := by split <;> omega
    omega
theorem piled_shown {ds : List PyData} {m : Nat} (h : ∀ d ∈ ds, d.shown.length ≤ m) : piled (PyData.shownAll ds) ≤ ds.length * (m + 2) := by
  induction ds with
  | nil =>
    rw [PyData.shownAll]
    exact Nat.zero_le _
  | cons d ds ih =>
    rw [PyData.shownAll, piled_cons, List.length_cons, Nat.add_mul]
    have h1 := h d (List.mem_cons_self ..)
    have h2 := ih fun x hx => h x (List.mem_cons_of_mem _ hx)
    omega
theorem shown_list {ds : List PyData} {m : Nat} (h : ∀ d ∈ ds, d.shown.length ≤ m) : (PyData.list ds).shown.length ≤ ds.length * (m + 2) + 2 := by
  have h1 := piled_shown h
  have h2 := textFrom_le (PyData.shownAll ds) 0 "["
  rw [PyData.shown]
  unfold listText
  rw [strLen_append]
  have e1 : ("[" : Str).length = 1 := rfl
  have e2 : ("]" : Str).length = 1 := rfl
  omega
theorem shown_tuple {ds : List PyData} {m : Nat} (h : ∀ d ∈ ds, d.shown.length ≤ m) : (PyData.tuple ds).shown.length ≤ ds.length * (m + 2) + 3 := by
  have h1 := piled_shown h
  rw [PyData.shown]
  unfold tupleText
  rw [strLen_append, strLen_append]
  have e1 : ("(" : Str).length = 1 := rfl
  have e3 : (Str.join ", " (PyData.shownAll ds)).length ≤ piled (PyData.shownAll ds) := by
    by_cases e : PyData.shownAll ds = []
    · rw [e]
      decide
    · have := join_length_add _ e
      omega
  have e2 : ((if (PyData.shownAll ds).length == 1 then ",)" else ")" : String) : Str).length ≤ 2 := by
    split <;> decide
  omega
/-! ### entries as data -/
theorem dpAll_strs {K : PySem.W.Frag} {H : Hp} : ∀ ns : List Str, DpAll K H (ns.map V.str) (ns.map PyData.str)
  | [] => .nil
  | n :: ns => .cons (.str n) (dpAll_strs ns)
theorem dp_strs {K : PySem.W.Frag} {H : Hp} {r : Addr} {ns : List Str} (h : H r = some (.lst (ns.map V.str))) : Dp K H (.ref r) (.list (ns.map PyData.str)) := .lst (SqL.of h) (dpAll_strs ns)
def entD (e : Ent) : PyData := .tuple [.str e.name, .int e.w, .list (e.parts.map PyData.str)]
def catD (es : List Ent) : PyData := .list (es.map entD)
theorem dp_ent {K : PySem.W.Frag} {H : Hp} {v : V} {e : Ent} (h : EntAt H v e) : Dp K H v (entD e) := by
  obtain ⟨t, l, rfl, h1, h2⟩ := h
  exact .tup (SqT.of h1) (.cons (.str _) (.cons (.int _) (.cons (dp_strs h2) .nil)))
theorem dpAll_cat {K : PySem.W.Frag} {H : Hp} : ∀ {vs : List V} {es : List Ent}, CatAt H vs es → DpAll K H vs (es.map entD)
  | _, _, .nil => .nil
  | _, _, .cons h t => .cons (dp_ent h) (dpAll_cat t)
theorem dp_cat {K : PySem.W.Frag} {H : Hp} {r : Addr} {vs : List V} {es : List Ent} (h : SqL K H r vs) (c : CatAt H vs es) : Dp K H (.ref r) (catD es) := .lst h (dpAll_cat c)
/-- texts and numbers that are short -/
def ShwS (x : Str) : Prop := x.length ≤ 9 ∧ ∀ c ∈ x.cps.toList, c < 16 ^ 8
structure ShwE (e : Ent) : Prop where
  name : ShwS e.name
  w : e.w.natAbs < 10 ^ 100
  few : e.parts.length ≤ 20
  parts : ∀ p ∈ e.parts, ShwS p
theorem shown_str {x : Str} (h : ShwS x) : (PyData.str x).shown.length ≤ 92 := by
  have := StrLaws.reprText_len x h.2
  rw [PyData.shown]
  have := h.1
  omega
theorem shown_int {i : Int} (h : i.natAbs < 10 ^ 100) : (PyData.int i).shown.length ≤ 101 := by
  have e := int_text_length_le10 (k := 100) (by decide) h
  rw [PyData.shown]
  show (Str.ofString (toString i)).length ≤ _
  rw [PySem.ofString_length]
  exact e
theorem show_int {i : Int} (h : i.natAbs < 10 ^ 100) : (PyData.int i).showable = true := by
  rw [PyData.showable, decide_eq_true_eq]
  by_cases h0 : i.natAbs = 0
  · rw [h0]
    decide
  · refine (Nat.log2_lt h0).mpr (Nat.lt_of_lt_of_le h ?_)
    decide +kernel
theorem showAll {ds : List PyData} (h : ∀ d ∈ ds, d.showable = true) : PyData.showableAll ds = true := by
  induction ds with
  | nil => rfl
  | cons d ds ih => rw [PyData.showableAll, h d (List.mem_cons_self ..), ih fun x hx => h x (List.mem_cons_of_mem _ hx)]; rfl
theorem show_strs {ns : List Str} (h : ∀ p ∈ ns, ShwS p) : (PyData.list (ns.map PyData.str)).showable = true ∧ (PyData.list (ns.map PyData.str)).shown.length ≤ ns.length * 94 + 2 := by
  refine ⟨?_, ?_⟩
  · rw [PyData.showable]
    exact showAll fun d hd => by
      obtain ⟨p, hp, rfl⟩ := List.mem_map.mp hd
      rfl
  · have := shown_list (ds := ns.map PyData.str) (m := 92) fun d hd => by
      obtain ⟨p, hp, rfl⟩ := List.mem_map.mp hd
      exact shown_str (h p hp)
    rwa [List.length_map] at this
theorem show_ent {e : Ent} (h : ShwE e) : (entD e).showable = true ∧ (entD e).shown.length ≤ 6000 := by
  obtain ⟨h1, h2⟩ := show_strs h.parts
  have h3 := h.few
  refine ⟨?_, ?_⟩
  · unfold entD
    rw [PyData.showable]
    refine showAll fun d hd => ?_
    rcases List.mem_cons.mp hd with rfl | hd
    · rfl
    rcases List.mem_cons.mp hd with rfl | hd
    · exact show_int h.w
    rw [List.mem_singleton.mp hd]
    exact h1
  · unfold entD
    refine Nat.le_trans (shown_tuple (m := 1890) fun d hd => ?_) (by show 3 * (1890 + 2) + 3 ≤ 6000; decide)
    rcases List.mem_cons.mp hd with rfl | hd
    · exact Nat.le_trans (shown_str h.name) (by decide)
    rcases List.mem_cons.mp hd with rfl | hd
    · exact Nat.le_trans (shown_int h.w) (by decide)
    rw [List.mem_singleton.mp hd]
    omega
theorem show_cat {es : List Ent} (h : ∀ e ∈ es, ShwE e) (hz : es.length ≤ 1000) : (catD es).showable = true ∧ (catD es).shown.length ≤ sizeLine := by
  refine ⟨?_, ?_⟩
  · unfold catD
    rw [PyData.showable]
    exact showAll fun d hd => by
      obtain ⟨e, he, rfl⟩ := List.mem_map.mp hd
      exact (show_ent (h e he)).1
  · unfold catD
    have := shown_list (ds := es.map entD) (m := 6000) fun d hd => by
      obtain ⟨e, he, rfl⟩ := List.mem_map.mp hd
      exact (show_ent (h e he)).2
    rw [List.length_map] at this
    rw [sizeLine_eq]
    have h2 : es.length * 6002 ≤ 1000 * 6002 := Nat.mul_le_mul_right _ hz
    omega
theorem depth_cat (es : List Ent) : (catD es).depth ≤ 3 := by
  unfold catD
  rw [PyData.depth]
  have : PyData.depthAll (es.map entD) ≤ 2 := depth_le fun d hd => by
    obtain ⟨e, he, rfl⟩ := List.mem_map.mp hd
    unfold entD
    rw [PyData.depth]
    have : PyData.depthAll [.str e.name, .int e.w, .list (e.parts.map PyData.str)] ≤ 1 := depth_le fun d hd => by
      rcases List.mem_cons.mp hd with rfl | hd
      · rw [PyData.depth]; omega
      rcases List.mem_cons.mp hd with rfl | hd
      · rw [PyData.depth]; omega
      rw [List.mem_singleton.mp hd, PyData.depth]
      have : PyData.depthAll (e.parts.map PyData.str) ≤ 0 := depth_le fun d hd => by
        obtain ⟨p, hp, rfl⟩ := List.mem_map.mp hd
        rw [PyData.depth]
        exact Nat.le_refl _
      omega
    omega
  omega
theorem depth_strs (ns : List Str) : (PyData.list (ns.map PyData.str)).depth ≤ 1 := by
  rw [PyData.depth]
  have : PyData.depthAll (ns.map PyData.str) ≤ 0 := depth_le fun d hd => by
    obtain ⟨p, hp, rfl⟩ := List.mem_map.mp hd
    rw [PyData.depth]
    exact Nat.le_refl _
  omega
theorem cnt_strs (ns : List Str) : cnt (PyData.list (ns.map PyData.str)) ≤ ns.length + 1 := by
  rw [cnt]
  have := cnt_le (ds := ns.map PyData.str) (m := 1) fun d hd => by
    obtain ⟨p, hp, rfl⟩ := List.mem_map.mp hd
    rw [cnt]
    exact Nat.le_refl _
  rw [List.length_map] at this
  omega
end Sk
/-! repr of a list of lists and of dicts of numbers -/
namespace Sk
open PySem PySem.Spec PyProof.Rows L2
def numD (n : Num) : PyData := .dict (n.map fun q => (.str q.1, .int q.2))
/-- nested data, or a dict of numbers -/
def DpM (K : PySem.W.Frag) (H : Hp) (v : V) (d : PyData) : Prop := Dp K H v d ∨ ∃ b n, v = .ref b ∧ H b = some (.dK (dS n)) ∧ d = numD n
section
variable {prog : Program} {w : World}
theorem reads_pairs {h : Heap} : ∀ (n : Num) (es : List DictEntry) (kvs : List (Key × Value)), Pairs (mixKind prog w) es kvs → KV (dS n) kvs → ReadsAll h (es.map (·.key)) (n.map fun q => PyData.str q.1) [] ∧ ReadsAll h (es.map (·.val)) (n.map fun q => PyData.int q.2) []
  | [], es, kvs, p, r => by
    cases r
    cases p
    exact ⟨.nil, .nil⟩
  | q :: n, es, kvs, p, r => by
    cases r with
    | cons r1 r2 =>
      cases p with
      | cons hk hv p =>
        obtain ⟨h1, h2⟩ := reads_pairs n _ _ p r2
        obtain ⟨e1, e2⟩ := r1
        rcases keyIs_shape hk with ⟨i, t, a1, a2⟩ | ⟨x, t, a1, a2⟩
        · rw [← e1] at a1
          cases a1
        · rw [← e1] at a1
          cases a1
          obtain ⟨t2, a3⟩ := e2
          refine ⟨?_, ?_⟩
          · rw [List.map_cons, List.map_cons, a2]
            exact ReadsAll.cons (as := []) (.str _ _) h1
          · rw [List.map_cons, List.map_cons, hv, a3]
            exact ReadsAll.cons (as := []) (.int _ _) h2
end
section
variable {X : Cx} {pins : List (Addr × Obj)} {σ : L2.St} {H : Hp} {s : Shared}
theorem DpM.reads (I : Inv X pins σ H s) {v : V} {u : Value} {d : PyData} (h : DpM X.K H v d) (r : RelV v u) : ∃ as, Reads s.heap u d as ∧ (d.hasDict = true → sysModules ∉ as) := by
  rcases h with h | ⟨b, n, rfl, hb, rfl⟩
  · obtain ⟨as, h1⟩ := Dp.reads I d v u h r
    exact ⟨as, h1, fun z => by rw [Dp.noDict h] at z; cases z⟩
  · obtain rfl : u = Value.ref b := r
    obtain ⟨_, hsys, vs, rel, dof⟩ := dk_of I.hok hb
    obtain ⟨o, es, ep, ho, ex, hd, _, hp, _⟩ := dof
    obtain ⟨h1, h2⟩ := reads_pairs (h := s.heap) n _ _ hp rel
    have k1 : ReadsAll s.heap (es.toList.map (·.key)) ((n.map fun q : Str × Int => (PyData.str q.1, PyData.int q.2)).map (·.1)) [] := by
      rw [List.map_map]
      exact h1
    have k2 : ReadsAll s.heap (es.toList.map (·.val)) ((n.map fun q : Str × Int => (PyData.str q.1, PyData.int q.2)).map (·.2)) [] := by
      rw [List.map_map]
      exact h2
    refine ⟨_, Reads.dict ho ex.1 hd k1 k2, fun _ => ?_⟩
    · intro hm
      have e : sysModules = b := List.mem_singleton.mp (by simpa using hm)
      rw [e] at hsys
      simp at hsys
end
/-- data of a list, item by item -/
def rReprM (K : PySem.W.Frag) : List V → Hp → VK → Prop := fun xs H Q => ∃ (a : Addr) (us : List V) (ds : List PyData), xs = [.ref a] ∧ SqL K H a us ∧ Paired (DpM K H) us ds ∧ us ≠ [] ∧ (∀ d ∈ ds, d.showable = true ∧ d.shown.length ≤ sizeLine ∧ d.depth ≤ 50) ∧ (PyData.list ds).shown.length ≤ sizeLine ∧ Q (.str (PyData.list ds).shown) H
theorem crReprM {X : Cx} {K : PySem.W.Frag} (e : X.K = K) (hg : X.A.guards = some []) (hu : X.A.units + 64 < cLine) : CallR X (.builtin "repr") (rReprM K) := by
  subst e
  intro pins s σ H xs us Q I r h
  obtain ⟨a, vs, ds, rfl, hs, hp, hne, hsh, hz, q⟩ := h
  obtain ⟨u, rfl, ru⟩ := vals1 r
  obtain rfl : u = Value.ref a := ru
  obtain ⟨its, rv, ⟨o, n, ho, hc, hdn, hd⟩, hlen⟩ := I.list hs
  -- the items
  have items : ∀ {vs : List V} {ds : List PyData} {its : List Value}, Paired (DpM X.K H) vs ds → Vals vs its → (∀ d ∈ ds, d.showable = true ∧ d.shown.length ≤ sizeLine ∧ d.depth ≤ 50) →
      (∃ as, ReadsAll s.heap its ds as) ∧ ∃ bs, ReadAtMost s.heap (PyData.depthAll ds) bs ∧ ReprAllK X.prog X.w bs s.heap (PyData.depthAll ds) its (PyData.shownAll ds) := by
    intro vs ds its hp
    induction hp generalizing its with
    | nil =>
      intro rv _
      cases rv
      exact ⟨⟨_, .nil⟩, [], (fun _ h => nomatch h), by rw [PyData.shownAll]; exact .nil⟩
    | cons hd _ ih =>
      intro rv hsh
      cases rv with
      | cons r1 r2 =>
        obtain ⟨⟨as2, k2⟩, b2, hb2, k3⟩ := ih r2 fun d hd => hsh d (List.mem_cons_of_mem _ hd)
        obtain ⟨as, k1, hsm⟩ := DpM.reads I hd r1
        obtain ⟨s1, s2, s3⟩ := hsh _ (List.mem_cons_self ..)
        obtain ⟨b1, hb1, k4⟩ := ReprK.of_reads (prog := X.prog) (w := X.w) k1 s1 hsm s2
        refine ⟨⟨_, .cons k1 k2⟩, b1 ++ b2, ?_, ?_⟩
        · rw [PyData.depthAll]
          exact (hb1.mono (Nat.le_max_left _ _)).append (hb2.mono (Nat.le_max_right _ _))
        · rw [PyData.depthAll, PyData.shownAll]
          exact .cons ((k4.more fun b hb => List.mem_append_left _ hb).level_le (Nat.le_max_left _ _)) (k3.more_le (fun b hb => List.mem_append_right _ hb) (Nat.le_max_right _ _))
  obtain ⟨⟨as, ra⟩, bs, hbs, hk⟩ := items hp rv hsh
  have whole : Reads s.heap (.ref a) (.list ds) (a :: as) := .list ho hc hd ra
  have hna : a ∉ bs := not_mem_of_deeper whole (by rw [PyData.depth]; omega) hbs
  have hdp : PyData.depthAll ds ≤ 50 := depth_le fun d hd => (hsh d hd).2.2
  cases its with
  | nil =>
    cases rv
    exact absurd rfl hne
  | cons x l =>
    have hz' : (listText (PyData.shownAll ds)).length ≤ sizeLine := by
      rw [PyData.shown] at hz
      exact hz
    refine call_repr_slot (by omega) ⟨o, ho, hc⟩ F.slot_list_repr.toG (call_list_reprK (A := X.A.in1) ho hc hd hna (by simpa using hk.length_eq) (fun i y e => hk.item i y (by simpa using e)) hg (fun b _ => Clear.nil b) (by show X.A.units + 1 + _ < cLine; omega) (fun _ _ e => e) (fun h' u tk k => ⟨_, _, rfl, ?_⟩) hz')
    have e1 : listText (PyData.shownAll ds) = (PyData.list ds).shown := by rw [PyData.shown]
    rw [e1]
    exact ⟨.str _, H, I.kept k, ⟨u, rfl⟩, q⟩
/-! ### how long -/
theorem piled_kv {m : Nat} : ∀ {n : Num}, (∀ q ∈ n, ShwS q.1 ∧ q.2.natAbs < 10 ^ 100) → piled (PyData.shownKv (n.map fun q => (PyData.str q.1, PyData.int q.2))) ≤ n.length * 230
  | [], _ => by
    rw [List.map_nil, PyData.shownKv]
    exact Nat.zero_le _
  | q :: n, h => by
    rw [List.map_cons, PyData.shownKv, piled_cons, List.length_cons, Nat.add_mul]
    have h1 := shown_str (h q (List.mem_cons_self ..)).1
    have h2 := shown_int (h q (List.mem_cons_self ..)).2
    have h3 := piled_kv (m := m) fun z hz => h z (List.mem_cons_of_mem _ hz)
    have e : ((PyData.str q.1).shown ++ ": " ++ (PyData.int q.2).shown).length = (PyData.str q.1).shown.length + 2 + (PyData.int q.2).shown.length := by
      rw [strLen_append, strLen_append]
      rfl
    rw [e]
    omega
theorem show_num {n : Num} (h : ∀ q ∈ n, ShwS q.1 ∧ q.2.natAbs < 10 ^ 100) : (numD n).showable = true ∧ (numD n).shown.length ≤ n.length * 230 + 4 ∧ (numD n).depth ≤ 1 := by
  refine ⟨?_, ?_, ?_⟩
  · unfold numD
    rw [PyData.showable]
    induction n with
    | nil => rfl
    | cons q n ih =>
      rw [List.map_cons, PyData.showableKv, ih fun z hz => h z (List.mem_cons_of_mem _ hz), show_int (h q (List.mem_cons_self ..)).2]
      rfl
  · unfold numD
    have h1 := piled_kv (m := 0) h
    rw [PyData.shown]
    unfold dictText
    rw [strLen_append, strLen_append]
    have e1 : ("{" : Str).length = 1 := rfl
    have e2 : ("}" : Str).length = 1 := rfl
    have e3 : (Str.join ", " (PyData.shownKv (n.map fun q => (PyData.str q.1, PyData.int q.2)))).length ≤ piled (PyData.shownKv (n.map fun q => (PyData.str q.1, PyData.int q.2))) := by
      by_cases e : PyData.shownKv (n.map fun q => (PyData.str q.1, PyData.int q.2)) = []
      · rw [e]
        decide
      · have := join_length_add _ e
        omega
    omega
  · unfold numD
    rw [PyData.depth]
    have : PyData.depthKv (n.map fun q => (PyData.str q.1, PyData.int q.2)) = 0 := by
      clear h
      induction n with
      | nil => rfl
      | cons q n ih =>
        rw [List.map_cons, PyData.depthKv, ih, PyData.depth, PyData.depth]
        rfl
    omega
theorem show_cat_len {es : List Ent} (h : ∀ e ∈ es, ShwE e) : (catD es).shown.length ≤ es.length * 6002 + 2 := by
  unfold catD
  have := shown_list (ds := es.map entD) (m := 6000) fun d hd => by
    obtain ⟨e, he, rfl⟩ := List.mem_map.mp hd
    exact (show_ent (h e he)).2
  rwa [List.length_map] at this
end Sk
/-! l.count(x), a list of texts -/
namespace Sk
open PySem PySem.Spec PyProof.Rows L2
def eqTx (k : Str) (v : Value) : Bool := match v with
  | .str n _ => decide (n = k)
  | _ => false
def rCntS (K : PySem.W.Frag) : V → List V → Hp → VK → Prop := fun x xs H Q => ∃ (p : Addr) (ns : List Str) (k : Str), x = .ref p ∧ xs = [.str k] ∧ SqL K H p (ns.map V.str) ∧ Q (.int (amt (ones ns) k)) H
theorem cnt_texts {k : Str} : ∀ {ns : List Str} {us : List Value}, Vals (ns.map V.str) us → ((us.countP (eqTx k) : Nat) : Int) = amt (ones ns) k
  | [], _, .nil => rfl
  | n :: ns, _, .cons ⟨t, e⟩ r => by
    have ih := cnt_texts (k := k) r
    unfold ones at ih ⊢
    rw [List.countP_cons, List.map_cons, amt_cons, ← ih, e]
    show _ = (if n = k then (1 : Int) else 0) + _
    by_cases c : n = k
    · rw [if_pos c, if_pos (show eqTx k (.str n t) = true from decide_eq_true c)]
      omega
    · rw [if_neg c, if_neg (show ¬ eqTx k (.str n t) = true from fun z => c (of_decide_eq_true z))]
      omega
theorem txt_gives {k : Str} {t : Tok} : ∀ {ns : List Str} {us : List Value}, Vals (ns.map V.str) us → ∀ y ∈ us, MeetsSeq.EqGives y (.str k t) (eqTx k y)
  | [], _, .nil, y, hy => by cases hy
  | n :: ns, _, .cons ⟨t', e⟩ r, y, hy => by
    rcases List.mem_cons.mp hy with z | z
    · rw [z, e]
      have h := SeqRoads2.EqGives.str n k t' t
      have e2 : eqTx k (.str n t') = (n.cps.toList == k.cps.toList) := by
        show decide (n = k) = _
        rw [Bool.eq_iff_iff, decide_eq_true_eq, beq_iff_eq]
        exact ⟨fun z => by rw [z], fun z => str_ext z⟩
      rw [e2]
      exact h
    · exact txt_gives r y z
theorem mt_cntS {X : Cx} {K : PySem.W.Frag} (eK : X.K = K) : MtR X "list.count" (rCntS K) := by
  subst eK
  intro pins s σ H x xs v us Q I rx rxs h
  obtain ⟨p, ns, k, rfl, rfl, hs, q⟩ := h
  cases rx
  obtain ⟨u, rfl, ru⟩ := rxs.one
  obtain ⟨t, rfl⟩ := ru
  obtain ⟨its, rv, ⟨⟨cls, dd, data, sl⟩, n, ho, hc, hdn, hd⟩, _⟩ := I.list hs
  simp only at hc hd
  subst hc hd
  have ec := cnt_texts (k := k) rv
  refine call_meets PySem.F.slot_list_count ⟨_, ho, rfl⟩ PySem.F.entry_list_count (PySem.F.args_list_count_2 _ _) (SeqAt.list_countAt p its.toArray n dd sl (.str k t) (eqTx k))
    ⟨ho, fun y hy => (txt_gives rv y (by simpa using hy)).at _ _, .int (amt (ones ns) k), H, I.tok _, ⟨s.toks, ?_⟩, q⟩
  rw [← ec]
/-- l.remove(x), a list of texts -/
def rRemS : V → List V → Hp → VK → Prop := fun x xs H Q => ∃ (l : Addr) (ns : List Str) (k : Str), x = .ref l ∧ xs = [.str k] ∧ H l = some (.lst (ns.map V.str)) ∧ k ∈ ns ∧ Q .non (upd H l (.lst ((ns.erase k).map V.str)))
theorem erase_mapS : ∀ (l : List Str) (j : Nat), (l.map V.str).eraseIdx j = (l.eraseIdx j).map V.str
  | [], j => by simp
  | a :: r, 0 => by simp
  | a :: r, j + 1 => by
    have ih := erase_mapS r j
    simp [ih]
theorem erase_ix {k : Str} : ∀ {ns : List Str}, k ∈ ns → ∃ j, ns[j]? = some k ∧ (∀ m : Nat, m < j → ns[m]? ≠ some k) ∧ ns.eraseIdx j = ns.erase k
  | n :: ns, h => by
    by_cases c : n = k
    · subst c
      exact ⟨0, rfl, fun m hm => by omega, by simp⟩
    · obtain ⟨j, h1, h2, h3⟩ := erase_ix ((List.mem_cons.mp h).resolve_left fun z => c z.symm)
      refine ⟨j + 1, by simpa using h1, fun m hm => ?_, ?_⟩
      · cases m with
        | zero => simpa using c
        | succ m => simpa using h2 m (by omega)
      · rw [List.eraseIdx_cons_succ, h3, List.erase_cons, if_neg]
        simpa using c
theorem vals_at {ns : List Str} {us : List Value} (r : Vals (ns.map V.str) us) {j : Nat} {n : Str} (h : ns[j]? = some n) : ∃ t, us[j]? = some (.str n t) := by
  induction ns generalizing us j with
  | nil => simp at h
  | cons a ns ih =>
    cases r with
    | cons r1 r2 =>
      obtain ⟨t, rfl⟩ := r1
      cases j with
      | zero =>
        simp at h
        subst h
        exact ⟨t, rfl⟩
      | succ j => simpa using ih r2 (by simpa using h)
theorem mt_removeS {X : Cx} : MtM X "list.remove" rRemS := by
  intro pins s σ H x xs v us Q I rx rxs h
  obtain ⟨l, ns, k, rfl, rfl, hH, hm, q⟩ := h
  obtain ⟨j, hj, hno, he⟩ := erase_ix hm
  cases rx
  obtain ⟨u, rfl, ru⟩ := rxs.one
  obtain ⟨t, rfl⟩ := ru
  obtain ⟨z, its, n, r, hl, e⟩ := I.lstM hH
  rw [List.length_map] at hl z
  have hjn : j < ns.length := (List.getElem?_eq_some_iff.mp hj).1
  have hjl : j < its.toArray.size := by rw [List.size_toArray]; omega
  refine call_meets PySem.F.slot_list_remove ⟨_, e, rfl⟩ PySem.F.entry_list_remove (PySem.F.args_list_remove_2 _ _)
    (MeetsSeq.list_remove l its.toArray n (.str k t) (eqTx k) (fun y hy => txt_gives r y (by simpa using hy)) j hjl ?_ ?_ (by rw [List.size_toArray]; omega)) ⟨e, ?_⟩
  · obtain ⟨tj, hjt⟩ := vals_at r hj
    obtain ⟨h1, h2⟩ := List.getElem?_eq_some_iff.mp hjt
    have e1 : its.toArray[j] = .str k tj := by simpa using h2
    rw [e1]
    exact decide_eq_true rfl
  · intro m hm hmj
    have hmn : m < ns.length := by omega
    obtain ⟨tm, hmt⟩ := vals_at r (List.getElem?_eq_getElem hmn)
    obtain ⟨h1, h2⟩ := List.getElem?_eq_some_iff.mp hmt
    have e1 : its.toArray[m] = .str ns[m] tm := by simpa using h2
    rw [e1]
    refine decide_eq_false fun e2 => hno m hmj ?_
    rw [List.getElem?_eq_getElem hmn, e2]
  · have rr := r.eraseIdx j
    rw [erase_mapS, he] at rr
    refine ⟨.non, _, I.lset (its' := its.eraseIdx j) (t' := s.toks) hH e ?_ rr ?_, rfl, q⟩
    · show its.toArray.eraseIdxIfInBounds j = (its.eraseIdx j).toArray
      rw [List.eraseIdxIfInBounds_toArray]
    · have z2 : (ns.erase k).length ≤ ns.length := List.length_erase_le
      rw [List.length_map]
      omega
end Sk
/-! sorted(set(xs)), xs a list of texts -/
namespace Sk
open PySem PySem.Spec PyProof.Rows L2
def keyT (e : Int × Value) : Str := match e.2 with | .str x _ => x | _ => Str.empty
def GoodT (w : World) (e : Int × Value) : Prop := ∃ x tk, e.2 = Value.str x tk ∧ e.1 = hashStr w x
/-- the set of texts at a: S its members, n their number -/
def SetT (w : World) (h : Heap) (a : Addr) (S : Str → Bool) (n : Nat) : Prop :=
  ∃ o es ep t, h.get? a = some o ∧ o.ExactSet ∧ o.data = .set es ep t ∧ (∀ e ∈ es.toList, GoodT w e) ∧ (es.toList.map keyT).Nodup ∧ (∀ k, S k = true ↔ k ∈ es.toList.map keyT) ∧
    es.size < scanBound ∧ t.fits es.size = true ∧ es.size = n ∧ Ris t.place.toList ∧ (w.params.followText "set-order" = true ∨ t.led = true)
section
variable {P : Program} {w : World} {h h' : Heap} {a : Addr} {S : Str → Bool} {n : Nat}
theorem SetT.at (R : SetT w h a S n) (k : ∀ o, h.get? a = some o → h'.get? a = some o) : SetT w h' a S n := let ⟨o, es, ep, t, ho, r⟩ := R; ⟨o, es, ep, t, k o ho, r⟩
theorem SetT.congr {S' : Str → Bool} (R : SetT w h a S n) (e : ∀ k, S' k = S k) : SetT w h a S' n := (funext e : S' = S) ▸ R
theorem goodT_elems {l : List (Int × Value)} (g : ∀ e ∈ l, GoodT w e) : ElemsOf (PySem.strKind P w) l := fun e he => by
  obtain ⟨x, tk, h1, h2⟩ := g e he
  exact ⟨⟨x, by rw [h1]; exact strKind_is P w x tk, h2⟩, by rw [h1] <;> rfl⟩
theorem goodT_is {e : Int × Value} (g : GoodT w e) (k : Str) : (PySem.strKind P w).is k e.2 = true ↔ keyT e = k := by
  obtain ⟨x, tk, h1, _⟩ := g
  unfold keyT
  rw [h1]
  constructor
  · intro z
    exact (PySem.strKind P w).inj _ _ _ (strKind_is P w x tk) z
  · rintro rfl
    exact strKind_is P w x tk
theorem goodT_mem {l : List (Int × Value)} (g : ∀ e ∈ l, GoodT w e) (k : Str) : k ∈ l.map keyT ↔ ∃ e ∈ l, (PySem.strKind P w).is k e.2 = true := by
  rw [List.mem_map]
  exact ⟨fun ⟨e, he, q⟩ => ⟨e, he, (goodT_is (g e he) k).2 q⟩, fun ⟨e, he, q⟩ => ⟨e, he, (goodT_is (g e he) k).1 q⟩⟩
end
section
variable {P : Program} {w : World} {A : Around} {E : Value → Shared → Prop} {s : Shared} {a : Addr} {S : Str → Bool} {n : Nat}
theorem setT_tail {g : Bool → Sem Unit} (hg : ∀ (b : Bool) (s₁ : Shared) (Q' : Unit → Shared → Prop), Q' () s₁ → wpAny (model P w) A (g b) Q' E s₁) {o : Obj} {es : Array (Int × Value)} {ep : Nat} {t : SetTable} (ho : s.heap.get? a = some o) (hex : o.ExactSet) (hd : o.data = .set es ep t)
    {zs : Array (Int × Value)} {t2 : SetTable} {S' : Str → Bool} (g1 : ∀ e ∈ zs.toList, GoodT w e) (nd1 : (zs.toList.map keyT).Nodup) (m1 : ∀ k, S' k = true ↔ k ∈ zs.toList.map keyT)
    (hb1 : zs.size < scanBound) (hf2 : t2.fits zs.size = true) (hr : Ris t2.place.toList) (hl : w.params.followText "set-order" = true ∨ t2.led = true) {dum : Bool} {R : Option Bool → Shared → Prop}
    (hR : ∀ h', Heap.SameBut a s.heap h' → SetT w h' a S' zs.size → R (some true) { s with heap := h' }) :
    wpAny (model P w) A (do
        storeSet a zs t2
        if (!dum && t2.tooFull) = true then do
            g (relayAll t2 zs (SetTable.grown zs.size)).2.2
            storeSet a (relayAll t2 zs (SetTable.grown zs.size)).1 (relayAll t2 zs (SetTable.grown zs.size)).2.1
            pure (some true)
          else pure (some true)) R E s := by
  have ho1 := store_at (es' := zs) (t' := t2) ho hd
  have sb1 := Heap.SameBut.update s.heap a (Obj.putSet zs t2)
  refine wpAny_bind (wpAny_storeSet_of ho hd ?_ (fits_of_scanBound hb1))
  by_cases c : (!dum && t2.tooFull) = true
  · rw [if_pos c]
    have pm := relayAll_perm t2 zs (SetTable.grown zs.size)
    have hf3 := relayAll_fits t2 zs (SetTable.grown zs.size)
    have hr3 := relayAll_ris t2 zs (SetTable.grown zs.size)
    have hl3 := relayAll_led t2 zs (SetTable.grown zs.size)
    generalize relayAll t2 zs (SetTable.grown zs.size) = Z at pm hf3 hr3 hl3 ⊢
    obtain ⟨ys, t3, gave⟩ := Z
    dsimp only at pm hf3 hr3 hl3 ⊢
    have hsz : ys.size = zs.size := by rw [← Array.length_toList, pm.length_eq, Array.length_toList]
    have ho2 := store_at (es' := ys) (t' := t3) ho1 rfl
    refine wpAny_bind (hg _ _ _ (wpAny_bind (wpAny_storeSet_of ho1 rfl (wpAny_pure (hR _ (sb1.trans (Heap.SameBut.update _ a _)) ?_)) (fits_of_scanBound (by rw [hsz]; exact hb1)))))
    exact ⟨_, ys, _, t3, ho2, hex, rfl, fun e he => g1 e (pm.mem_iff.mp he), (pm.map keyT).nodup_iff.mpr nd1, fun k => (m1 k).trans (pm.map keyT).mem_iff.symm, by rw [hsz]; exact hb1, hf3, hsz, hr3, hl.imp id fun z => by rw [hl3]; exact z⟩
  · rw [if_neg c]
    exact wpAny_pure (hR _ sb1 ⟨_, zs, _, t2, ho1, hex, rfl, g1, nd1, m1, hb1, hf2, rfl, hr, hl⟩)
theorem setT_add {k : Str} {tk : Tok} {Q : Bool → Shared → Prop} (R : SetT w s.heap a S n) (room : n + 1 < scanBound)
    (hQ : ∀ h', Heap.SameBut a s.heap h' → SetT w h' a (fun j => S j || decide (j = k)) (if S k = true then n else n + 1) → Q (!S k) { s with heap := h' }) :
    wpAny (model P w) A (setAddHashed a (.str k tk) ((PySem.strKind P w).hash k)) Q E s := by
  obtain ⟨o, es, ep, t, ho, hex, hd, g, nd, hm, hb, hf, hn, hr, hl⟩ := R
  have hkey : (PySem.strKind P w).is k (.str k tk) = true := strKind_is P w k tk
  have hsc : (Value.str k tk).scannable = true := rfl
  have hel : ElemsOf (PySem.strKind P w) es.toList := goodT_elems g
  have hgw : ∀ (b : Bool) {s₁ : Shared} {Q' : Unit → Shared → Prop}, Q' () s₁ → wpAny (model P w) A (match b with | true => rule "set.scan.the-table-gave-way" | false => pure ()) Q' E s₁ := fun b s₁ Q' q => by
    cases b
    · first | exact wpAny_pure q | exact wpAny_rule q
    · first | exact wpAny_pure q | exact wpAny_rule q
  unfold setAddHashed setAddHashedIn
  refine wpAny_holding (wpAny_bind (wpAny_setState_of ho hd hf ?_))
  dsimp only
  rw [byScan_of hsc hb hel]
  simp only [↓reduceIte]
  unfold setAddByScan
  refine wpAny_bind (wpAny_bind (wpAny_rule (wpAny_bind (wpAny_setScan_of hkey ho hd hf hel ?_))))
  cases hfi : List.findIdx? (fun e => (PySem.strKind P w).is k e.2) es.toList with
  | some j =>
    dsimp only
    obtain ⟨hj, pj, _⟩ := List.findIdx?_eq_some_iff_getElem.mp hfi
    have hSk : S k = true := (hm k).2 ((goodT_mem (P := P) (w := w) g k).2 ⟨es.toList[j], List.getElem_mem hj, pj⟩)
    have q := hQ s.heap (Heap.SameBut.refl a s.heap) ⟨o, es, ep, t, ho, hex, hd, g, nd, fun i => by
      rw [Bool.or_eq_true, decide_eq_true_eq, ← hm i]
      exact ⟨fun z => z.elim id (fun e => e ▸ hSk), .inl⟩, hb, hf, by rw [if_pos hSk]; exact hn, hr, hl⟩
    rw [hSk] at q
    exact wpAny_pure (wpAny_pure q)
  | none =>
    dsimp only
    have hnk : k ∉ es.toList.map keyT := fun z => by
      obtain ⟨e, he, q⟩ := (goodT_mem (P := P) (w := w) g k).1 z
      have c := List.findIdx?_eq_none_iff.mp hfi e he
      rw [q] at c
      cases c
    have hSk : S k = false := by
      cases q : S k with
      | false => rfl
      | true => exact absurd ((hm k).1 q) hnk
    have pm := layNew_perm t es ((PySem.strKind P w).hash k) (.str k tk)
    have hf1 := layNew_fits t es ((PySem.strKind P w).hash k) (.str k tk)
    have hr1 := layNew_ris t es ((PySem.strKind P w).hash k) (.str k tk) hr
    have hl1 := layNew_led t es ((PySem.strKind P w).hash k) (.str k tk)
    generalize layNew t es ((PySem.strKind P w).hash k) (.str k tk) = Z at pm hf1 hr1 hl1 ⊢
    obtain ⟨zs, t1, dum, gave⟩ := Z
    dsimp only at pm hf1 hr1 hl1 ⊢
    rw [Array.toList_push] at pm
    have pc : zs.toList.Perm (((PySem.strKind P w).hash k, Value.str k tk) :: es.toList) := pm.trans (List.perm_append_singleton _ _)
    have pk : (zs.toList.map keyT).Perm (k :: es.toList.map keyT) := pc.map keyT
    have g1 : ∀ e ∈ zs.toList, GoodT w e := fun e he => by
      rcases List.mem_cons.mp (pc.mem_iff.mp he) with rfl | z
      · exact ⟨k, tk, rfl, rfl⟩
      · exact g e z
    have nd1 : (zs.toList.map keyT).Nodup := pk.nodup_iff.mpr (List.nodup_cons.mpr ⟨hnk, nd⟩)
    have m1 : ∀ i, (S i || decide (i = k)) = true ↔ i ∈ zs.toList.map keyT := fun i => by
      rw [Bool.or_eq_true, decide_eq_true_eq, hm i, pk.mem_iff, List.mem_cons]
      exact Or.comm
    have hsz : zs.size = n + 1 := by rw [← Array.length_toList, pc.length_eq, List.length_cons, Array.length_toList, hn]
    have hb1 : zs.size < scanBound := by rw [hsz]; exact room
    have hled : w.params.followText "set-order" = true ∨ t1.led = true := hl.imp id fun z => by rw [hl1]; exact z
    have fin : ∀ h', Heap.SameBut a s.heap h' → SetT w h' a (fun j => S j || decide (j = k)) zs.size → Q true { s with heap := h' } := fun h' sb r => by
      have q := hQ h' sb
      rw [hSk] at q
      rw [hsz] at r
      exact q r
    refine wpAny_bind (hgw _ ?_)
    split
    · refine wpAny_bind ?_
      rw [hashByValue_scannable 8 hsc]
      refine wpAny_pure (setT_tail (fun b s₁ Q' q => ?_) ho hex hd g1 nd1 m1 hb1 ?_ ?_ ?_ fun h' sb r => ?_)
      · cases b
        · first | exact wpAny_pure q | exact wpAny_rule q
        · first | exact wpAny_pure q | exact wpAny_rule q
      · first | (split <;> first | exact hf1 | exact SetTable.fits_plain_off hf1) | exact hf1
      · first | (split <;> exact hr1) | exact hr1
      · first | (split <;> exact hled) | exact hled
      · dsimp only
        exact wpAny_pure (fin h' sb r)
    · refine wpAny_bind (wpAny_pure ?_)
      simp only [↓reduceIte]
      refine setT_tail (fun b s₁ Q' q => ?_) ho hex hd g1 nd1 m1 hb1 hf1 hr1 hled fun h' sb r => ?_
      · cases b
        · first | exact wpAny_pure q | exact wpAny_rule q
        · first | exact wpAny_pure q | exact wpAny_rule q
      · dsimp only
        exact wpAny_pure (fin h' sb r)
/-! ### set(xs) -/
/-- a fresh set, as the model lays it -/
abbrev frS (w : World) : Obj := { cls := .type "set", dict := none, data := .set #[] 0 (.fresh 0 0 (!w.params.followText "set-order")) }
theorem setT_new {h : Heap} {a : Addr} {ns : List Str} (ho : h.get? a = some (frS w)) : SetT w h a (fun j => decide (j ∈ ns.take 0)) 0 := by
  refine ⟨_, #[], 0, _, ho, ⟨rfl, rfl, rfl⟩, rfl, (fun e he => by simp at he), (by simp), (fun k => by simp), (by decide), (by rfl), rfl, List.Pairwise.nil, ?_⟩
  show _ ∨ (!w.params.followText "set-order") = true
  cases w.params.followText "set-order" with
  | false => exact .inr rfl
  | true => exact .inl rfl
theorem set_loopT {I : Addr} {fp wr : List Addr} {G : Array GenState → Array GenState → Prop} {n : Nat} {Pv : Nat → Value → Prop} {St : Nat → Shared → Prop} {R : Result → Shared → Prop}
    (W : WalksS P w A.in1 I fp wr G n Pv St) (C : Addr) (hSf : C ∉ fp) (ns : List Str) (hn : n = ns.length) (hb : ns.length + 1 < scanBound) (hval : ∀ i v, Pv i v → ∃ k t, ns[i]? = some k ∧ v = .str k t) :
    ∀ (k i : Nat) (s : Shared), n - i = k → i ≤ n → St i s → (∃ c, c ≤ i ∧ SetT w s.heap C (fun j => decide (j ∈ ns.take i)) c) →
      (∀ s' c, Moved (C :: wr) G s s' → c ≤ n → SetT w s'.heap C (fun j => decide (j ∈ ns)) c → R (.ok (.ret .none)) s') → codeAny (model P w) A (.builtin "set.update.loop" ⟨[.ref C, .ref I], []⟩) R s := by
  have hSw : C ∉ wr := fun h => hSf (W.sub _ h)
  have hsub : ∀ b ∈ wr, b ∈ C :: wr := fun b hb => List.mem_cons_of_mem _ hb
  intro k
  induction k with
  | zero =>
    rintro i s hk' hi hst ⟨c, hc, hS⟩ hR
    obtain rfl : i = n := by omega
    refine codeAny_builtin F.entry_set_update_loop ?_
    rw [Around.under_plainId F.plain_set_update_loop _]
    refine wpAny_bind (W.done s _ _ hst fun s' hm => ?_)
    show wpAny _ A.in1 (ret Value.none) _ _ s'
    rw [List.take_of_length_le (by omega)] at hS
    exact wpAny_pure (hR s' c (hm.mono hsub) hc (hS.at fun o e => hm.heap C o hSw e))
  | succ k ih =>
    rintro i s hk' hi hst ⟨c, hc, hS⟩ hR
    have hlt : i < n := by omega
    refine codeAny_builtin F.entry_set_update_loop ?_
    rw [Around.under_plainId F.plain_set_update_loop _]
    refine wpAny_bind (W.item i s _ _ hlt hst fun v s' hP hst' hm => ?_)
    obtain ⟨z, t, hz, rfl⟩ := hval i v hP
    have hS' : SetT w s'.heap C (fun j => decide (j ∈ ns.take i)) c := hS.at fun o e => hm.heap C o hSw e
    show wpAny _ A.in1 (holding [Value.str z t] (setAdd C (.str z t)) >>= _) _ _ s'
    refine wpAny_bind (wpAny_holding ?_)
    unfold setAdd
    refine wpAny_holding (wpAny_bind ((PySem.strKind P w).pyHash (k := z) (strKind_is _ _ _ _) ?_))
    refine setT_add (s := { s' with toks := s'.toks + 1 }) hS' (by omega) fun h' hsb hS2 => ?_
    have hS3 : SetT w h' C (fun j => decide (j ∈ ns.take (i + 1))) (if decide (z ∈ ns.take i) = true then c else c + 1) := hS2.congr fun j => by
      rw [List.take_add_one, hz]
      simp [List.mem_append]
    have hc3 : (if decide (z ∈ ns.take i) = true then c else c + 1) ≤ i + 1 := by split <;> omega
    refine wpAny_pure ⟨plainId_quiet F.plain_set_update_loop _, ih (i + 1) _ (by omega) hlt (W.frame _ s' _ _ hst' (Nat.le_succ _) fun b hb o e => ?_) ⟨_, hc3, hS3⟩ fun s'' c2 hm2 hcc hS4 => ?_⟩
    · rw [hsb.2 b (fun h : b = C => hSf (by rw [← h]; exact hb))]
      exact e
    · refine hR s'' c2 (Moved.trans W.gtrans ((hm.mono hsub).then_heap (Nat.le_succ _) fun b o hb e => ?_) hm2) hcc hS4
      rw [hsb.2 b (fun h : b = C => hb (by rw [h]; exact List.mem_cons_self))]
      exact e
theorem call_setT {l : Addr} {items : Array Value} (ns : List Str) {Q : Value → Shared → Prop} (hh : A.handled = none) (hl : s.heap.IsList l items) (hit : StrsAre items.toList ns) (hb : ns.length + 1 < scanBound)
    (h : ∀ (h' : Heap) (tk c : Nat), SetT w h' s.heap.objs.size (fun j => decide (j ∈ ns)) c → c ≤ ns.length → (∀ b o, s.heap.get? b = some o → h'.get? b = some o) → Q (.ref s.heap.objs.size) { s with heap := h', toks := tk }) :
    wpAny (model P w) A (call (.type "set") [.ref l]) Q E s := by
  have hisz : items.size = ns.length := by
    have q := hit.len_eq
    rw [Array.length_toList] at q
    exact q
  obtain ⟨c, tl, hmro⟩ := PySem.F.called_set.mro
  have hmade := PySem.F.called_set.made
  have hsub := PySem.F.called_set.sub
  refine wpAny_call (codeAny_of_tree ?_)
  show wpAny _ _ (callAny (.type "set") _) _ _ _
  refine wpAny_pure ⟨Code.quiet_builtin _ (by decide +kernel), codeAny_builtin PySem.F.entry_type_call ?_⟩
  rw [Around.under_plain (weight_type_call_type "set" [.ref l] []) rfl]
  have h1 := PySem.F.called_set.notType
  have h2 := PySem.F.called_set.canCreate
  have hct := PySem.F.typeCall_set_1 (.ref l)
  repeat (any_goals (first | assumption | wp_step))
  refine codeAny_mono (code_set_led1 (.ref l) (E := E) (Q₁ := fun obj s₁ => obj = .ref s.heap.objs.size ∧ s₁ = { s with heap := s.heap.push (frS w) }) ⟨rfl, rfl⟩) fun r s₁ hr => ?_
  match r, hr with
  | .error e, hr => exact hr
  | .ok .next, hr => exact hr.elim
  | .ok .brk, hr => exact hr.elim
  | .ok .cont, hr => exact hr.elim
  | .ok (.ret obj), hr =>
    obtain ⟨rfl, rfl⟩ := hr
    have hS : (s.heap.push (frS w)).get? s.heap.objs.size = some (frS w) := Heap.get?_push_size _ rfl
    have hT : Shared.TypeIs { s with heap := s.heap.push (frS w) } (.ref s.heap.objs.size) "set" := ⟨_, hS, rfl⟩
    have hli := PySem.F.called_set.init.lookup
    have hbi := PySem.F.called_set.init.bind (.ref s.heap.objs.size)
    repeat (any_goals (first | assumption | wp_step))
    refine codeAny_mono (codeAny_call_builtin (R := wants (fun r s₂ => r = .none ∧ ∃ h' tk c, s₂ = { s with heap := h', toks := tk } ∧ SetT w h' s.heap.objs.size (fun j => decide (j ∈ ns)) c ∧ c ≤ ns.length ∧ (∀ b o, s.heap.get? b = some o → h'.get? b = some o)) E) PySem.F.called_set.init.plain PySem.F.entry_set_init (check_set_init_1 hT ?_)) fun r₂ s₂ hr₂ => ?_
    · obtain ⟨ol, hol, hcl, nl, hdl⟩ := hl
      obtain ⟨ocls, odict, odata, oslots⟩ := ol
      simp only at hcl hdl
      subst hcl; subst hdl
      have hol' : (s.heap.push (frS w)).get? l = some { cls := .type "list", dict := odict, data := .seq items nl, slots := oslots } := Heap.get?_push_of_some _ hol
      have hsls := PySem.F.sub_list_set
      have hslf := PySem.F.sub_list_frozenset
      have hne : (Value.type "list" == Value.type "dict") = false := by decide
      have hl1 : (s.heap.push (frS w)).IsList l items := ⟨_, hol', rfl, nl, rfl⟩
      unfold Builtin.«set.__init__» noKeywords Builtin.Frozenset.updateFrom
      generalize hPI : pyIter = PI
      wp_walk
      subst hPI
      refine wpAny_pyIter_list hl1 (wpAny_bind (wpAny_runValue ?_))
      have hlS : l < s.heap.objs.size := Heap.lt_size hol
      have hh3 : A.in1.in1.in1.handled = none := by simp [hh]
      have hneI : l ≠ (s.heap.push (frS w)).objs.size := by
        rw [Heap.size_push]
        exact Nat.ne_of_lt (Nat.lt_succ_of_lt hlS)
      have hSf : s.heap.objs.size ∉ [(s.heap.push (frS w)).objs.size, l] := by
        rw [Heap.size_push]
        intro z
        rcases List.mem_cons.mp z with z | z
        · exact Nat.ne_of_lt (Nat.lt_succ_self _) z
        · exact Nat.ne_of_gt hlS (List.mem_singleton.mp z)
      have hval : ∀ (i : Nat) (v : Value), items[i]? = some v → ∃ k t, ns[i]? = some k ∧ v = .str k t := fun i v hv => by
        obtain ⟨y, t, e1, e2⟩ := StrsAre.item hit i v (by rw [Array.getElem?_toList]; exact hv)
        exact ⟨y, t, e2, e1⟩
      have hget : ((s.heap.push (frS w)).push { cls := .type "list_iterator", data := .fields #[.ref l, .int 0 0] }).get? s.heap.objs.size = some (frS w) := Heap.get?_push_of_some _ hS
      refine set_loopT ((Walks.list hh3 _ l hneI items).toS) s.heap.objs.size hSf ns hisz hb hval (items.size - 0) 0 _ (by omega) (Nat.zero_le _) ⟨⟨_, Heap.get?_push_size _ rfl, rfl, rfl⟩, (hl1.push _)⟩ ⟨0, Nat.le_refl 0, setT_new hget⟩ fun s' c' hm hc' hS' => ?_
      obtain ⟨h', g2, d', tk', os'⟩ := s'
      have eg : g2 = s.gens := hm.gens
      have ed : d' = s.drawn := hm.drawn
      have eo : os' = s.os := hm.os
      subst eg; subst ed; subst eo
      show wpAny _ _ _ _ _ _
      refine wpAny_pure ?_
      show wpAny _ _ (ret Value.none) _ _ _
      rw [hisz] at hc'
      refine wpAny_pure ⟨rfl, h', tk', c', rfl, hS', hc', fun b o e => ?_⟩
      have hb0 : b < s.heap.objs.size := Heap.lt_size e
      refine hm.heap b o (fun z => ?_) (Heap.get?_push_of_some _ (Heap.get?_push_of_some _ e))
      rcases List.mem_cons.mp z with z | z
      · exact Nat.ne_of_lt hb0 z
      · have z2 := List.mem_singleton.mp z
        rw [Heap.size_push] at z2
        exact Nat.ne_of_lt (Nat.lt_succ_of_lt hb0) z2
    · match r₂, hr₂ with
      | .error e, hr₂ => exact hr₂
      | .ok .next, hr₂ => exact hr₂.elim
      | .ok .brk, hr₂ => exact hr₂.elim
      | .ok .cont, hr₂ => exact hr₂.elim
      | .ok (.ret r), hr₂ =>
        obtain ⟨rfl, h', tk, c', rfl, hS', hc', hk'⟩ := hr₂
        repeat (any_goals (first | assumption | wp_step))
        exact h _ _ _ hS' hc' hk'
/-! ### sorted -/
theorem strs_of : ∀ (l : List Value), (∀ v ∈ l, ∃ k tk, v = Value.str k tk) → StrsAre l (l.map fun v => keyT (0, v))
  | [], _ => .nil
  | v :: l, h => by
    obtain ⟨k, tk, rfl⟩ := h v List.mem_cons_self
    exact .cons k tk (strs_of l fun u hu => h u (List.mem_cons_of_mem _ hu))
theorem sorted_setT {Q : Value → Shared → Prop} (R : SetT w s.heap a S n) (hh : A.handled = none) (h64 : n < 64)
    (hQ : ∀ s' p (out : Array Value) (c : Nat) (ns : List Str), (∀ b o, s.heap.get? b = some o → s'.heap.get? b = some o) → s'.gens = s.gens → s'.os = s.os → s.heap.objs.size ≤ p → s'.heap.get? p = some (seqObj "list" out c) →
      StrsAre out.toList ns → sortedS ns = true → ns.Nodup → (∀ k, k ∈ ns ↔ S k = true) → ns.length = n → Q (.ref p) s') :
    wpAny (model P w) A (call (.builtin "sorted") [.ref a]) Q E s := by
  obtain ⟨o, es, ep, t, ho, hex, hd, g, nd, hm, hb, hf, hn, hr, hl⟩ := R
  refine Calls.call_function_entry kind_sorted plain_sorted entry_sorted (args_sorted1 _) ?_
  unfold Builtin.«sorted»
  refine wpAny_bind (m := checkCount "sorted" 1 1 _) (wpAny_pure (wpAny_bind (collect_set (A := A.in1) hh ⟨o, ho, hex.1, hd⟩ hf hb hr hl fun s1 vs k1 hz g1 o1 pm => ?_)))
  have hvl : vs.length = n := by rw [pm.length_eq, List.length_map, Array.length_toList]; exact hn
  have hI : StrsAre vs (vs.map fun v => keyT (0, v)) := strs_of vs fun v hv => by
    obtain ⟨e, he, rfl⟩ := List.mem_map.mp (pm.mem_iff.mp hv)
    obtain ⟨k, tk, h1, _⟩ := g e he
    exact ⟨k, tk, h1⟩
  have pk : (vs.map fun v => keyT (0, v)).Perm (es.toList.map keyT) := by
    have q := pm.map fun v => keyT (0, v)
    rw [List.map_map] at q
    exact q
  have hoL : (s1.heap.push (seqObj "list" vs.toArray 0)).get? s1.heap.objs.size = some (seqObj "list" vs.toArray 0) := Heap.get?_push_size _ rfl
  refine wpAny_bind (wpAny_newList ?_ (by rw [hvl, sizeLine_eq]; omega))
  refine wpAny_bind (wpAny_holding (wpAny_call_entry slot_list_sort ⟨_, hoL, rfl⟩ entry_list_sort (list_sort_treeK strKind_oneLt (s := { s1 with heap := s1.heap.push (seqObj "list" vs.toArray 0) }) hoL hI.keysOf (fun v₁ v₂ rest e => keyKind_strs (by rw [← e]; exact hI)) (by rw [hvl]; exact h64) fun st' hp hs => ⟨_, rfl, ?_⟩) (args_list_sort _)))
  obtain ⟨ys, q1, q2, q3⟩ := sorted_out_str hI hp hs
  obtain ⟨e', he'⟩ := sortedHeap_at (vs := vs) (out := (arrOf st').map (·.2)) hoL
  have pn : ys.Perm (es.toList.map keyT) := q2.trans pk
  refine wpAny_pure ⟨_, rfl, hQ _ s1.heap.objs.size ((arrOf st').map (·.2)) e' ys (fun b u e => ?_) g1 o1 hz he' q1 q3 (pn.nodup_iff.mpr nd) (fun k => by rw [pn.mem_iff, ← hm k]) ?_⟩
  · have q := k1 b u e
    have hlt := Heap.lt_size q
    show (sortedHeap (s1.heap.push (seqObj "list" vs.toArray 0)) s1.heap.objs.size vs ((arrOf st').map (·.2))).get? b = some u
    rw [sortedHeap_old (Nat.ne_of_lt hlt) (by rw [size_push']; exact Nat.lt_succ_of_lt hlt)]
    exact Heap.get?_push_of_some _ q
  · rw [pn.length_eq, List.length_map, Array.length_toList]
    exact hn
end
/-! ### the rules -/
/-- the set of the texts ns -/
def SetTx (w : World) (a : Addr) (ns : List Str) : HO := .ext fun h => ∃ c, c ≤ ns.length ∧ SetT w h a (fun j => decide (j ∈ ns)) c
def rSetTx (K : PySem.W.Frag) (w : World) : List V → Hp → VK → Prop := fun xs H Q => ∃ (l : Addr) (ns : List Str), xs = [V.ref l] ∧ SqL K H l (ns.map V.str) ∧ ns.length < 64 ∧ ∀ a, H a = none → Q (.ref a) (upd H a (SetTx w a ns))
def rSortTx (w : World) : List V → Hp → VK → Prop := fun xs H Q => ∃ (a : Addr) (ns : List Str), xs = [V.ref a] ∧ H a = some (SetTx w a ns) ∧ ns.length < 64 ∧ ∀ ys p, sortedS ys = true → ys.Nodup → (∀ k, k ∈ ys ↔ k ∈ ns) → ys.length < 64 → H p = none → Q (.ref p) (upd H p (.lst (ys.map V.str)))
section
variable {X : Cx}
theorem cr_setTx {K : PySem.W.Frag} {w : World} (eK : X.K = K) (ew : X.w = w) (hc : X.calm = true) : CallR X (.type "set") (rSetTx K w) := by
  subst eK ew
  intro pins s σ H xs us Q I r h
  obtain ⟨l, ns, rfl, hl, hf, q⟩ := h
  rw [Vals.ref1 r]
  obtain ⟨its, rv, pl, hz⟩ := I.list hl
  refine call_setT (P := X.prog) (w := X.w) ns (I.ok.hd hc) pl.isList (by simpa using rv.strs) (by unfold scanBound; omega) fun h' tk c R hcl k => ?_
  refine ⟨.ref s.heap.objs.size, upd H s.heap.objs.size (SetTx X.w s.heap.objs.size ns), I.laid (t' := tk) k (Nat.le_refl _) ?_, rfl, q _ (I.hok.fresh (Nat.le_refl _))⟩
  refine ⟨⟨c, hcl, R⟩, ?_, fun h1 h2 p k => ?_⟩
  · obtain ⟨o, _, _, _, ho, _⟩ := R
    exact ⟨o, ho⟩
  · obtain ⟨c2, b1, b2⟩ := p
    exact ⟨c2, b1, b2.at k⟩
theorem cr_sortTx {w : World} (ew : X.w = w) (hc : X.calm = true) : CallR X (.builtin "sorted") (rSortTx w) := by
  subst ew
  intro pins s σ H xs us Q I r h
  obtain ⟨a, ns, rfl, ha, h64, q⟩ := h
  obtain ⟨c, hcl, R⟩ := (I.hok a _ ha).1
  rw [Vals.ref1 r]
  refine sorted_setT R (I.ok.hd hc) (by omega) fun s' p out e ys k g o hp hg hi hs hn hm hl => ?_
  have hlen : (ys.map V.str).length ≤ sizeLine := by rw [List.length_map, sizeLine_eq]; omega
  have hn0 : H p = none := I.hok.fresh hp
  have J : Inv X pins σ (upd H p (.lst (ys.map V.str))) { s with heap := s'.heap, gens := s'.gens, drawn := s'.drawn, toks := s'.toks } :=
    I.call (ch := []) (Un.laid k hp hn0) (I.hok.laid k hp ⟨hlen, out.toList, e, vals_of_strs hi, hg⟩) (by rw [g]; exact I.bare) (fun _ z => nomatch z)
  have es : s' = { s with heap := s'.heap, gens := s'.gens, drawn := s'.drawn, toks := s'.toks } := by
    cases s'
    cases s
    cases o
    rfl
  rw [es]
  exact ⟨.ref p, _, J, rfl, q ys p hs hn (fun k => (hm k).trans decide_eq_true_iff) (by omega) hn0⟩
end
/-- one of two readings -/
theorem pe_or {X : Cx} {e : Expr} {t1 t2 : TE} (h1 : PE X e t1) (h2 : PE X e t2) : PE X e (fun σ H Q => t1 σ H Q ∨ t2 σ H Q) :=
  ⟨fun pins s σ H Q I h => h.elim (fun q => h1.run pins s σ H Q I q) fun q => h2.run pins s σ H Q I q⟩
end Sk
/-! x, *y = a list; try whose body raises nothing -/
namespace Sk
open PySem PySem.Spec PyProof.Rows L2
/-- the first item, a new list of the others -/
def gStarL (K : PySem.W.Frag) (t : TGs) : TG := fun v σ H Q => ∃ (l : Addr) (z : V) (zs : List V), v = .ref l ∧ SqL K H l (z :: zs) ∧ zs.length ≤ 16000 ∧ ∀ D, H D = none → t [z, .ref D] σ (upd H D (.lst zs)) Q
section
variable {X : Cx} {pos ps : Pos} {t1 t2 : Expr} {k : Nat} {t : TGs}
theorem unpack_first {prog : Program} {w : World} {A : Around} {E : Value → Shared → Prop} {s : Shared} {l : Addr} {items : Array Value} {Q : List Value → Shared → Prop} (hh : A.handled = none) (hl : s.heap.IsList l items) (h1 : 1 ≤ items.size) (hz : items.size ≤ 16384)
    (hQ : ∀ (h₂ : Heap) (tk : Nat), (∀ b o, b ≠ s.heap.objs.size → s.heap.get? b = some o → h₂.get? b = some o) → wpAny (model prog w) A (newList (items.toList.drop 1)) (fun d s₂ => Q (items.toList.take 1 ++ [d]) s₂) E { s with heap := h₂, toks := tk }) :
    wpAny (model prog w) A (unpackItems (.ref l) 2 (some 1)) Q E s := by
  have hll : l < s.heap.objs.size := by obtain ⟨o, ho, _⟩ := hl; exact Heap.lt_size ho
  have hlt : l ≠ s.heap.objs.size := Nat.ne_of_lt hll
  unfold unpackItems
  refine wpAny_bind ?_
  unfold notIterableAtAll
  refine wpAny_bind (wpAny_specialOf hl.typeIs slot_list_iter.lookup (wpAny_pure ?_))
  simp only [Bool.false_eq_true, if_false]
  refine wpAny_bind (wpAny_holding (wpAny_pyIter_list hl (wpAny_bind (wpAny_holding (PySem.W.kun_draw hlt 1 0 _ _ ⟨_, Heap.get?_push_size _ rfl, rfl, rfl⟩ (hl.push _) (by omega) fun h₁ hit₁ hs₁ => ?_)))))
  have hl₁ : h₁.IsList l items := (hl.push _).extBut hs₁.extBut hlt
  rw [Nat.zero_add] at hit₁
  obtain ⟨oi, hoi, _⟩ := id hit₁
  obtain ⟨ol, hol, _⟩ := id hl₁
  rw [List.drop_zero]
  have hfl : (items.toList.take 1).length = 1 := by rw [List.length_take, Array.length_toList]; omega
  rw [if_neg (show ¬ ((items.toList.take 1).length < 1) by rw [hfl]; omega)]
  refine wpAny_bind (wpAny_holding (PySem.W.kun_collect (s := { s with heap := h₁ }) (T := "list_iterator") (.inr (.inr (.inl rfl))) (Walks.list (A := A.in1) hh s.heap.objs.size l hlt items) (fun j u st => st.1.typeIs) (k := 1) (by omega) ⟨hit₁, hl₁⟩ (Heap.lt_size hoi) (Heap.lt_size hol) (fun h₂ tk hk => ?_) (by rw [sizeLine_eq]; omega)))
  have hrl : (items.toList.drop 1).length = items.size - 1 := by rw [List.length_drop, Array.length_toList]
  have hmid : (items.toList.drop 1).length - (2 - 1 - 1) = (items.toList.drop 1).length := by omega
  show wpAny _ _ (if (items.toList.drop 1).length < 2 - 1 - 1 then _ else _) _ _ _
  rw [if_neg (by omega)]
  show wpAny _ _ (newList ((items.toList.drop 1).take ((items.toList.drop 1).length - (2 - 1 - 1))) >>= fun d => pure (items.toList.take 1 ++ [d] ++ (items.toList.drop 1).drop ((items.toList.drop 1).length - (2 - 1 - 1)))) _ _ _
  rw [hmid, List.take_length, List.drop_length]
  refine wpAny_bind (wpAny_mono (hQ h₂ tk fun b o hb e => hk b o hb (hs₁.extBut b o hb (Heap.get?_push_of_some _ e))) (fun d s₂ q => ?_) fun _ _ z => z)
  rw [List.append_nil]
  exact wpAny_pure q
theorem pg_starL (hc : X.calm = true) (h : PGs X [t1, t2] t) (hn : (assignEach [t1, .Starred t2 ps] X.env).length = 2 := by rfl) (hst : (assignEach [t1, .Starred t2 ps] X.env).findIdx? (·.1) = some 1 := by rfl)
    (he : (assignEach [t1, .Starred t2 ps] X.env).map (·.2) = (assignEach [t1, t2] X.env).map (·.2) := by rfl) : PG X (.Tuple [t1, .Starred t2 ps] k pos) (gStarL X.K t) := by
  refine ⟨fun pins s σ H v u Q I r hw => ?_⟩
  obtain ⟨l, z, zs, rfl, hq, hl, hw⟩ := hw
  cases r
  obtain ⟨its, rv, pl, hz⟩ := I.list hq
  cases rv with
  | cons r1 r2 =>
    rename_i u1 us
    have hul := r2.length
    rw [PyProof.Rows.assign_Tuple]
    refine wpAny_bind (wpAny_standAt ?_)
    unfold unpack
    rw [hn, hst]
    refine wpAny_bind (wpAny_holding (unpack_first (I.ok.hd hc) pl.isList (by simp) (by simp; omega) fun h₂ tk hk => ?_))
    have k2 : ∀ b o, s.heap.get? b = some o → h₂.get? b = some o := fun b o e => hk b o (Nat.ne_of_lt (Heap.lt_size e)) e
    have I1 : Inv X pins σ H { s with heap := h₂, toks := tk } := I.kept k2
    refine wpAny_newList ?_ (by simp; rw [sizeLine_eq]; omega)
    have e1 : ((u1 :: us).toArray.toList.drop 1).toArray = us.toArray := by simp
    have e2 : (u1 :: us).toArray.toList.take 1 ++ [Value.ref h₂.objs.size] = [u1, .ref h₂.objs.size] := by simp
    show wpAny _ _ (assignInOrder _ ((u1 :: us).toArray.toList.take 1 ++ [Value.ref h₂.objs.size])) _ _ _
    rw [he, e2]
    have ho : (h₂.push { cls := .type "list", data := .seq ((u1 :: us).toArray.toList.drop 1).toArray }).get? h₂.objs.size = some (seqObj "list" us.toArray 0) := by
      rw [e1]
      exact Heap.get?_push_size _ rfl
    have J : Inv X pins σ (upd H h₂.objs.size (.lst zs)) { s with heap := h₂.push { cls := .type "list", data := .seq ((u1 :: us).toArray.toList.drop 1).toArray }, toks := tk } :=
      I1.laid (t' := tk) (fun b u e => Heap.get?_push_of_some _ e) (Nat.le_refl _) (show ObjOk X.prog X.w _ _ _ (.lst zs) from ⟨by rw [sizeLine_eq]; omega, us, 0, r2, ho⟩)
    exact h.run pins _ σ _ [z, .ref h₂.objs.size] _ Q J (.cons r1 (.cons rfl .nil)) (hw _ (I1.hok.fresh (Nat.le_refl _)))
/-- try: nothing is raised -/
theorem ps_try_nox {body : List Stmt} {h0 : ExceptHandler} {tb : TS} (hb : PSs X body tb) (hx : ∀ e s, X.xe e s → False := by intro _ _ z; exact z) : PS X (.Try body [h0] [] [] pos) tb := by
  refine ⟨fun pins s σ H D I h => wpAny_Try_except (wpAny_mono (hb.run pins s σ H D I h) (fun f s1 hsp => ?_) fun e s1 he => (hx e s1 he).elim)⟩
  cases f with
  | next => exact wpAny_execs_nil hsp
  | brk => exact hsp
  | cont => exact hsp
  | ret u => exact hsp
/-- sep.join(texts), K told -/
def rJoin (K : PySem.W.Frag) : V → List V → Hp → VK → Prop := fun x xs H Q => ∃ a p, ∃ ys : List Str, x = .str a ∧ xs = [.ref p] ∧ (SqL K H p (ys.map V.str) ∨ SqT K H p (ys.map V.str)) ∧ (ys.map (·.length)).sum + ys.length * a.length ≤ 16777216 ∧ Q (.str (Txt.join a ys)) H
theorem peJoin {K : PySem.W.Frag} {o e : Expr} {to te : TE} {apos : Pos} (eK : X.K = K) (ho : PE X o to) (he : PE X e te) (hs : starEach [e] X.env = [(false, eval e X.env)] := by rfl) (hbase : attributeBase o "join" X.env (eval o X.env) = eval o X.env := by rfl) (hline : (apos.endLine == pos.line) = true := by rfl) :
    PE X (.Call (.Attribute o "join" apos) [e] [] pos) (tM1 (rJoin K) to te) := by
  subst eK
  exact pe_join ho he hs hbase hline
end
end Sk
/-! a pool of draws: a list of three numbers -/
namespace Sk
open PySem PySem.Spec PyProof.Rows L2
/-- the pool at p: digits left, what is mixed, how many were mixed (at most n) -/
def PlAt (p : Addr) (n : Nat) (H : Hp) : Prop := ∃ d m c : Int, H p = some (.lst [.int d, .int m, .int c]) ∧ 0 ≤ d ∧ 0 ≤ m ∧ m < 2 ^ 62 ∧ 0 ≤ c ∧ c ≤ n
/-- the pool, the cells L that may change, the frozen part G -/
structure Hq (T : List (Addr × Str)) (p : Addr) (n : Nat) (L : List (Addr × HO)) (G H : Hp) : Prop where
  src : PlAt p n H
  fz : Fz G H
  gp : G p = none
  cel : ∀ x ∈ L, H x.1 = some x.2 ∧ G x.1 = none ∧ x.1 ≠ p ∧ NoTab x.2
  nod : (L.map (·.1)).Nodup
  tab : LamX.Tabs T H
section
variable {T : List (Addr × Str)} {p : Addr} {n : Nat} {L : List (Addr × HO)} {G H H' : Hp}
theorem Hq.mono {m : Nat} (s : Hq T p n L G H) (h : n ≤ m) : Hq T p m L G H := by
  obtain ⟨⟨d, mm, c, h1, h2, h3, h4, h5, h6⟩, c1, c2, c3, c4, c5⟩ := s
  exact ⟨⟨d, mm, c, h1, h2, h3, h4, h5, by omega⟩, c1, c2, c3, c4, c5⟩
/-- all that stood stands -/
theorem Hq.gr (s : Hq T p n L G H) (g : Gr T H H') : Hq T p n L G H' := by
  obtain ⟨⟨d, mm, c, h1, h2⟩, fz, gp, cel, nod, tab⟩ := s
  exact ⟨⟨d, mm, c, g.at h1 .lst, h2⟩, fz.gr g, gp, fun x hx => ⟨g.at (cel x hx).1 (cel x hx).2.2.2, (cel x hx).2⟩, nod, g.tab tab⟩
/-- the heap grew, and at a new place stands o -/
theorem Hq.grow {a : Addr} {o : HO} (s : Hq T p n L G H) (g : Gr T H H') (h : Nw H a) (e : H' a = some o) (nt : NoTab o) : Hq T p n ((a, o) :: L) G H' := by
  have s2 := s.gr g
  have no : ∀ u, H a = some u → ¬ NoTab u := fun u hu n2 => by
    obtain ⟨ps, z⟩ := h u hu
    exact n2.1 ps z
  obtain ⟨⟨d, mm, c, h1, _⟩, fz, gp, cel, nod, tab⟩ := s
  obtain ⟨b1, fz', _, cel', _, tab'⟩ := s2
  refine ⟨b1, fz', gp, fun y hy => ?_, ?_, tab'⟩
  · rcases List.mem_cons.mp hy with rfl | hy
    · refine ⟨e, ?_, fun z => ?_, nt⟩
      · cases q0 : G a with
        | none => rfl
        | some u => exact absurd (fz.nt a u q0) (no u (fz.sub a u q0))
      · exact no _ (by rw [show a = p from z]; exact h1) .lst
    · exact cel' y hy
  · rw [List.map_cons, List.nodup_cons]
    refine ⟨fun hm => ?_, nod⟩
    obtain ⟨y, hy, e2⟩ := List.mem_map.mp hm
    obtain ⟨c1, _, _, c4⟩ := cel y hy
    rw [e2] at c1
    exact no _ c1 c4
/-- a new cell -/
theorem Hq.new {a : Addr} {o : HO} (s : Hq T p n L G H) (h : H a = none) (nt : NoTab o) : Hq T p n ((a, o) :: L) G (upd H a o) := s.grow (Gr.new h) (.of h) upd_same nt
/-- what stands at the i-th cell -/
theorem Hq.get {i : Nat} {a : Addr} {o : HO} (s : Hq T p n L G H) (h : L[i]? = some (a, o)) : H a = some o := (s.cel (a, o) (List.mem_of_getElem? h)).1
/-- the i-th cell is written -/
theorem Hq.put {i : Nat} {a : Addr} {o o' : HO} (s : Hq T p n L G H) (h : L[i]? = some (a, o)) (nt : NoTab o') : Hq T p n (L.set i (a, o')) G (upd H a o') := by
  have hm := List.mem_of_getElem? h
  obtain ⟨⟨d, mm, c, h1, h2⟩, fz, gp, cel, nod, tab⟩ := s
  obtain ⟨c1, c2, c3, c4⟩ := cel _ hm
  have hi : i < L.length := (List.getElem?_eq_some_iff.mp h).1
  have ei : L[i] = (a, o) := (List.getElem?_eq_some_iff.mp h).2
  have sub : ∀ y ∈ L.set i (a, o'), y = (a, o') ∨ (y ∈ L ∧ y.1 ≠ a) := fun y hy => by
    obtain ⟨j, hj, ej⟩ := List.mem_iff_getElem.mp hy
    by_cases hij : i = j
    · subst hij
      rw [List.getElem_set_self] at ej
      exact .inl ej.symm
    · rw [List.getElem_set_ne hij] at ej
      refine .inr ⟨by rw [← ej]; exact List.getElem_mem _, fun z => hij ?_⟩
      rw [List.length_set] at hj
      have q1 : (L.map (·.1))[i]'(by rw [List.length_map]; exact hi) = (L.map (·.1))[j]'(by rw [List.length_map]; exact hj) := by
        rw [List.getElem_map, List.getElem_map, ei, ej, z]
      exact (List.getElem_inj nod).mp q1
  refine ⟨⟨d, mm, c, by rw [upd_ne (Ne.symm c3)]; exact h1, h2⟩, fz.put c2, gp, fun y hy => ?_, ?_, Tabs.upd tab c1 c4⟩
  · rcases sub y hy with rfl | ⟨hy, z⟩
    · exact ⟨upd_same, c2, c3, nt⟩
    · rw [upd_ne z]
      exact cel y hy
  · rw [List.map_set]
    have : (L.map (·.1)).set i a = L.map (·.1) := by
      have e2 : (L.map (·.1))[i]'(by rw [List.length_map]; exact hi) = a := by rw [List.getElem_map, ei]
      conv => rhs; rw [← List.set_getElem_self (as := L.map (·.1)) (i := i) (by rw [List.length_map]; exact hi)]
      rw [e2]
    show ((L.map (·.1)).set i a).Nodup
    rw [this]
    exact nod
/-- fewer cells -/
theorem Hq.sub {L' : List (Addr × HO)} (s : Hq T p n L G H) (h : L'.Sublist L) : Hq T p n L' G H := by
  obtain ⟨a, fz, gp, cel, nod, tab⟩ := s
  exact ⟨a, fz, gp, fun x hx => cel x (h.subset hx), nod.sublist (h.map _), tab⟩
/-- the first cell is frozen -/
theorem Hq.freeze {a : Addr} {o : HO} (s : Hq T p n ((a, o) :: L) G H) : Hq T p n L (upd G a o) H := by
  obtain ⟨sr, fz, gp, cel, nod, tab⟩ := s
  obtain ⟨c1, c2, c3, c4⟩ := cel _ (List.mem_cons_self ..)
  rw [List.map_cons, List.nodup_cons] at nod
  refine ⟨sr, fz.add c1 c4, ?_, fun x hx => ?_, nod.2, tab⟩
  · rw [upd_ne (Ne.symm c3)]
    exact gp
  · obtain ⟨d1, d2, d3, d4⟩ := cel x (List.mem_cons_of_mem _ hx)
    refine ⟨d1, ?_, d3, d4⟩
    rw [upd_ne (fun z => nod.1 (List.mem_map.mpr ⟨x, hx, z⟩))]
    exact d2
theorem Hq.drop1 {c : Addr × HO} (s : Hq T p n (c :: L) G H) : Hq T p n L G H := s.sub (.cons _ (.refl _))
theorem Hq.drop2 {c d : Addr × HO} (s : Hq T p n (c :: d :: L) G H) : Hq T p n (c :: L) G H := s.sub (.cons₂ _ (.cons _ (.refl _)))
theorem Hq.fzat {a : Addr} {o : HO} (s : Hq T p n L G H) (h : G a = some o) : H a = some o := s.fz.sub _ _ h
theorem Hq.gfree {a : Addr} (s : Hq T p n L G H) (h : H a = none) : G a = none := s.fz.free h
theorem Hq.cfree {c : Addr × HO} (s : Hq T p n (c :: L) G H) : G c.1 = none := (s.cel c (List.mem_cons_self ..)).2.1
theorem Hq.fzTup (s : Hq T p n L G H) (hL : ∀ x ∈ L, ∀ zs, x.2 ≠ .tup zs) : Hq T p n L (fzT G H) H := by
  obtain ⟨⟨d, mm, c, h1, h2⟩, fz, gp, cel, nod, tab⟩ := s
  refine ⟨⟨d, mm, c, h1, h2⟩, ⟨fun b o e => ?_, fun b o e => ?_⟩, fzT_none gp (fun zs z => by rw [h1] at z; cases z), fun y hy => ?_, nod, tab⟩
  · rcases fzT_cases e with z | ⟨z, _⟩
    · exact fz.sub b o z
    · exact z
  · rcases fzT_cases e with z | ⟨_, zs, z⟩
    · exact fz.nt b o z
    · rw [z]
      exact .tup
  · obtain ⟨c1, c2, c3⟩ := cel y hy
    exact ⟨c1, fzT_none c2 (fun zs z => hL y hy zs (Option.some.inj (c1.symm.trans z))), c3⟩
theorem Hq.less {G0 : Hp} (s : Hq T p n L G H) (h : Same G0 G) : Hq T p n L G0 H := by
  obtain ⟨sr, fz, gp, cel, nod, tab⟩ := s
  exact ⟨sr, ⟨fun b o e => fz.sub b o (h b o e), fun b o e => fz.nt b o (h b o e)⟩, h.free gp, fun y hy => ⟨(cel y hy).1, h.free (cel y hy).2.1, (cel y hy).2.2⟩, nod, tab⟩
/-- the pool is written -/
theorem Hq.pool {m : Nat} {d x c : Int} (s : Hq T p n L G H) (h0 : 0 ≤ d) (h1 : 0 ≤ x) (h2 : x < 2 ^ 62) (h3 : 0 ≤ c) (h4 : c ≤ m) : Hq T p m L G (upd H p (.lst [.int d, .int x, .int c])) := by
  obtain ⟨⟨d0, x0, c0, e, _⟩, fz, gp, cel, nod, tab⟩ := s
  exact ⟨⟨d, x, c, upd_same, h0, h1, h2, h3, h4⟩, fz.put gp, gp, fun y hy => by
    obtain ⟨c1, c2⟩ := cel y hy
    exact ⟨by rw [upd_ne c2.2.1]; exact c1, c2⟩, nod, Tabs.upd tab e .lst⟩
end
/-! ### ** of a wide base -/
def CPowW (i j : Int) : Prop := 0 ≤ j ∧ (Builtin.Int.intBits i : Int) * j ≤ 2 ^ 27
theorem op_powW {X : Cx} : OpR X (binaryOp .Pow) (rI CPowW fun i j => .int (i ^ j.toNat)) := opI fun _ _ _ _ _ _ _ hc q => PyProof.Rows.pow_int hc.1 hc.2 q
theorem bits_le {i : Int} {b : Nat} (h : i.natAbs < 2 ^ b) (h0 : 0 < b) : Builtin.Int.intBits i ≤ b := by
  unfold Builtin.Int.intBits
  split
  · omega
  · have := PySem.Flt.log2_lt_of h0 h
    omega
theorem wide_pow {i j : Int} {b : Nat} (h : i.natAbs < 2 ^ b) (h0 : 0 < b) (hj : 0 ≤ j) (hb : (b : Int) * j ≤ 2 ^ 27) : CPowW i j := by
  refine ⟨hj, Int.le_trans (Int.mul_le_mul_of_nonneg_right ?_ hj) hb⟩
  have := bits_le h h0
  omega
end Sk
/-! a dict that a call makes, walked; repr of a dict -/
namespace Sk
open PySem PySem.Spec PyProof.Rows L2
/-- what the expression makes is locked, and stays so -/
def tLockV (t : TE) : TE := fun σ H Q => t σ H fun x H1 => ∃ d u, x = .ref d ∧ H1 d = some u ∧ Mut (some u) ∧ ∀ od, Q x (upd H1 d (.frz od u))
theorem pe_lockV {X : Cx} {e : Expr} {t : TE} (h : PE X e t) : PE X e (tLockV t) := by
  refine ⟨fun pins s σ H Q I hw => thn (h.run pins s σ H _ I hw) fun v s1 ⟨x, H1, I1, r, d, u, ex, hd, mu, q⟩ => ?_⟩
  obtain ⟨od, I2⟩ := I1.lock hd mu
  exact ⟨x, _, I2, r, q od⟩
/-- a comprehension over anything that is walked, item by item what F says -/
theorem lc_gen {Tb : List (Addr × Str)} {J : It} {n : Nat} {GG : Hp → Prop} {Y : Nat → Hp → V → Hp → Prop} (wk : Walk J n GG Y) {g : TG} {tt : TT} {te : TE} {vs : List Nat} {σ : L2.St} {H1 : Hp} {D : Addr} {Qd : Hp → Prop} (F : Nat → Option V) (hD : H1 D = none) (hz : n ≤ 100000)
    (hG : ∀ H, Gr Tb H1 H → GG H) (hY : ∀ i H x H', Y i H x H' → Gr Tb H H')
    (turn : ∀ (i : Nat) (x : V) (H H' : Hp), i < n → Gr Tb H1 H' → Y i H x H' → ∀ (Rk : V → Hp → Prop) (Rs : Hp → Prop), (∀ y H4, F i = some y → Gr Tb H' H4 → Rk y H4) → (∀ H4, F i = none → Gr Tb H' H4 → Rs H4) →
      g x (wipe σ vs) H' fun σ2 H2 => wipe σ2 vs = wipe σ vs ∧ tt σ2 H2 fun b H3 => if b = true then te σ2 H3 Rk else Rs H3)
    (done : ∀ H, Gr Tb H1 H → H D = some (.lst ((List.range n).filterMap F)) → Qd H) :
    ∃ W : Nat → Nat → Hp → Prop, (∃ m, W 0 m (upd H1 D (.lst []))) ∧ ∀ i m H, W i m H →
      (J.stop i H ∧ Qd H) ∨ (J.go i H ∧ ∃ Nx : Hp → Prop, (∀ H', Nx H' → ∃ m', m' < m ∧ W (i + 1) m' H') ∧ ∀ x H', J.yld i H x H' → g x (wipe σ vs) H' fun σ2 H2 => wipe σ2 vs = wipe σ vs ∧ tt σ2 H2 fun b H3 =>
        if b = true then te σ2 H3 fun y H4 => ∃ acc, H4 D = some (.lst acc) ∧ acc.length < sizeLine ∧ Nx (upd H4 D (.lst (acc ++ [y]))) else Nx H3) := by
  have h0 : Gr Tb H1 (upd H1 D (.lst [])) := Gr.new hD
  let P : Nat → Hp → Prop := fun i H => Gr Tb H1 H ∧ H D = some (.lst ((List.range i).filterMap F))
  refine ⟨fun i m H => m = n - i ∧ i ≤ n ∧ P i H, ⟨n, rfl, Nat.zero_le _, h0, upd_same⟩, ?_⟩
  rintro i m H ⟨rfl, hi, p⟩
  have q := hG H p.1
  by_cases hlt : i < n
  · refine .inr ⟨wk.goes i H hlt q, P (i + 1), fun H' p' => ⟨n - (i + 1), by omega, rfl, hlt, p'⟩, fun x H' y => ?_⟩
    have yy := wk.yields i H x H' hlt q y
    have g1 := p.1.trans (hY _ _ _ _ yy)
    have hd := (hY _ _ _ _ yy).at p.2 .lst
    have lle : ((List.range i).filterMap F).length ≤ 100000 := by
      have h2 : ((List.range i).filterMap F).length ≤ i := Nat.le_trans (List.length_filterMap_le _ _) (by rw [List.length_range]; exact Nat.le_refl _)
      omega
    refine turn i x H H' hlt g1 yy (fun y H5 => ∃ acc, H5 D = some (.lst acc) ∧ acc.length < sizeLine ∧ P (i + 1) (upd H5 D (.lst (acc ++ [y])))) (P (i + 1)) (fun q H4 e gr => ?_) (fun H4 e gr => ?_)
    · have hd4 := gr.at hd .lst
      refine ⟨_, hd4, ?_, Gr.put hD (g1.trans gr) hd4, ?_⟩
      · rw [sizeLine_eq]
        omega
      · rw [upd_same, List.range_succ, List.filterMap_append, List.filterMap_cons, e]
        rfl
    · refine ⟨g1.trans gr, ?_⟩
      rw [List.range_succ, List.filterMap_append, List.filterMap_cons, e, gr.at hd .lst]
      simp
  · have e : i = n := by omega
    subst e
    exact .inl ⟨wk.stops H q, done H p.1 p.2⟩
/-- repr of a dict of numbers -/
def rReprD (K : PySem.W.Frag) : List V → Hp → VK → Prop := fun xs H Q => ∃ (a : Addr) (n : Num), xs = [.ref a] ∧ H a = some (.dK (dS n)) ∧ (numD n).showable = true ∧ (numD n).shown.length ≤ sizeLine ∧ (numD n).depth ≤ 50 ∧ Q (.str (numD n).shown) H
theorem crReprD {X : Cx} {K : PySem.W.Frag} (e : X.K = K) (hg : X.A.guards = some []) (hu : X.A.units + 64 < cLine) : CallR X (.builtin "repr") (rReprD K) := by
  subst e
  intro pins s σ H xs us Q I r h
  obtain ⟨a, n, rfl, ha, hs, hz, hdp, q⟩ := h
  obtain ⟨u, rfl, ru⟩ := vals1 r
  obtain ⟨as, rr, hsm⟩ := DpM.reads I (.inr ⟨a, n, rfl, ha, rfl⟩) ru
  obtain rfl : u = Value.ref a := ru
  exact PySem.repr_of_reads' rr hs hsm hg (by omega) (fun b o e => e) (fun h' u tk k => ⟨.str _, H, I.kept k, ⟨u, rfl⟩, q⟩) hz
/-- a number or None -/
def optV : Option Int → V
  | none => .non
  | some i => .int i
def optT : Option Int → Str
  | none => "None"
  | some i => toString i
def rReprO : List V → Hp → VK → Prop := fun xs H Q => ∃ o : Option Int, xs = [optV o] ∧ (∀ i, o = some i → i.natAbs.log2 < 1920) ∧ Q (.str (optT o)) H
theorem crReprO {X : Cx} : CallR X (.builtin "repr") rReprO := by
  intro pins s σ H xs us Q I r h
  obtain ⟨o, rfl, hz, q⟩ := h
  cases o with
  | none =>
    obtain ⟨u, rfl, rfl⟩ := vals1 r
    exact PySem.P.repr_of_none ⟨.str _, H, I.tok _, ⟨_, rfl⟩, q⟩
  | some i =>
    obtain ⟨u, rfl, t, rfl⟩ := vals1 r
    exact PySem.P.repr_of_int (hz i rfl) ⟨.str _, H, I.tok _, ⟨_, rfl⟩, q⟩
end Sk
/-! dicts of numbers compared, alike or not -/
namespace Sk
open PySem PySem.Spec PyProof.Rows L2
/-- each number of the one stands in the other -/
def subNum (ks ls : Num) : Bool := ks.all fun q => decide (get? ls q.1 = some q.2)
def eqNum (ks ls : Num) : Bool := ks.length == ls.length && subNum ks ls
section
variable {X : Cx}
theorem hits_num {A : Around} {s : Shared} {ls : Num} {vb : List (Key × Value)} (rb : KV (dS ls) vb) : ∀ {ks : Num} {va : List (Key × Value)}, KV (dS ks) va → PySem.W.KeqHits A s vb va (subNum ks ls)
  | [], va, ra => by
    cases ra
    exact .nil
  | q :: ks, va, ra => by
    cases ra with
    | cons h t =>
      rename_i kv va
      obtain ⟨h1, h2⟩ := h
      obtain ⟨k, v⟩ := kv
      have h1' : (Sum.inr q.1 : Key) = k := h1
      subst h1'
      obtain ⟨t1, e1⟩ : ∃ t, v = Value.int q.2 t := h2
      subst e1
      have rr : RelO ((get? ls q.1).map V.int) (PySem.valueAt vb (Sum.inr q.1)) := by
        rw [← valV_dS]
        exact rb.val (Sum.inr q.1)
      show PySem.W.KeqHits A s vb ((Sum.inr q.1, Value.int q.2 t1) :: va) (decide (get? ls q.1 = some q.2) && subNum ks ls)
      cases e : get? ls q.1 with
      | none =>
        rw [e] at rr
        have e2 : PySem.valueAt vb (Sum.inr q.1) = none := rr.none_of
        rw [decide_eq_false (by intro z; cases z), Bool.false_and]
        exact .miss e2
      | some j =>
        rw [e] at rr
        obtain ⟨y, hy, ry⟩ := rr.some_of
        obtain ⟨t2, e2⟩ : ∃ t, y = Value.int j t := ry
        subst e2
        refine .hit hy ?_ (hits_num rb t)
        have e3 : decide ((some j : Option Int) = some q.2) = (q.2 == j) := by
          rw [Bool.eq_iff_iff, decide_eq_true_eq, beq_iff_eq]
          exact ⟨fun z => (Option.some.inj z).symm, fun z => by rw [z]⟩
        rw [e3]
        exact SeqAt.EqAt.int_int q.2 t1 j t2
/-- dicts of numbers, == and != -/
def rNumD (neg : Bool) : R2 := fun x y H Q => ∃ (a b : Addr) (ks ls : Num), x = .ref a ∧ y = .ref b ∧ H a = some (.dK (dS ks)) ∧ H b = some (.dK (dS ls)) ∧ Q (.bl (if neg then !eqNum ks ls else eqNum ks ls)) H
theorem op_eqNum (hu : X.A.units < cLine) : OpR X (compareOp .Eq) (rNumD false) := by
  intro pins s σ H x y v u Q I rx ry h
  obtain ⟨a, b, ks, ls, rfl, rfl, ea, eb, q⟩ := h
  obtain rfl : v = Value.ref a := rx
  obtain rfl : u = Value.ref b := ry
  obtain ⟨_, ya, va, ra, da⟩ := (show ObjOk X.prog X.w H s.heap a (.dK (dS ks)) from I.hok a _ ea)
  obtain ⟨_, yb, vb, rb, db⟩ := (show ObjOk X.prog X.w H s.heap b (.dK (dS ls)) from I.hok b _ eb)
  have la := KV.length ra
  have lb := KV.length rb
  rw [dS_len] at la lb
  refine PySem.W.keq_eq (knd := mixKind X.prog X.w) ya yb da db hu (fun _ => hits_num rb ra) (fin_bl I q ?_)
  rw [← la, ← lb]
  rfl
theorem op_neNum (hu : X.A.units < cLine) : OpR X (compareOp .NotEq) (rNumD true) := by
  intro pins s σ H x y v u Q I rx ry h
  obtain ⟨a, b, ks, ls, rfl, rfl, ea, eb, q⟩ := h
  obtain rfl : v = Value.ref a := rx
  obtain rfl : u = Value.ref b := ry
  obtain ⟨_, ya, va, ra, da⟩ := (show ObjOk X.prog X.w H s.heap a (.dK (dS ks)) from I.hok a _ ea)
  obtain ⟨_, yb, vb, rb, db⟩ := (show ObjOk X.prog X.w H s.heap b (.dK (dS ls)) from I.hok b _ eb)
  have la := KV.length ra
  have lb := KV.length rb
  rw [dS_len] at la lb
  refine PySem.W.keq_ne (knd := mixKind X.prog X.w) ya yb da db hu (fun _ => hits_num rb ra) (fin_bl I q ?_)
  rw [← la, ← lb]
  rfl
end
theorem iteFb {k : Bool} {a b : Prop} (hk : k = false) (h : b) : if k = true then a else b := by
  rw [if_neg (by rw [hk]; exact Bool.false_ne_true)]
  exact h
theorem iteTb {k : Bool} {a b : Prop} (hk : k = true) (h : a) : if k = true then a else b := by
  rw [if_pos hk]
  exact h
theorem neV_bl {x y : Bool} (h : x = y) : (!decide (V.bl x = V.bl y)) = false := by
  rw [h]
  simp
theorem eqV_int (i j : Int) : decide (V.int i = V.int j) = decide (i = j) := by
  rw [Bool.eq_iff_iff, decide_eq_true_eq, decide_eq_true_eq]
  exact ⟨fun z => V.int.inj z, fun z => by rw [z]⟩
theorem get?_ndm {d : Num} (nd : (d.map (·.1)).Nodup) {q : Str × Int} (h : q ∈ d) : get? d q.1 = some q.2 := by
  induction d with
  | nil => cases h
  | cons a d ih =>
    rw [List.map_cons, List.nodup_cons] at nd
    unfold get?
    rw [List.find?_cons]
    rcases List.mem_cons.mp h with rfl | h
    · rw [decide_eq_true rfl]
      rfl
    · have ne : ¬ a.1 = q.1 := fun z => nd.1 (List.mem_map.mpr ⟨q, h, z.symm⟩)
      rw [decide_eq_false ne]
      exact ih nd.2 h
theorem eqNum_refl {d : Num} (nd : (d.map (·.1)).Nodup) : eqNum d d = true := by
  unfold eqNum subNum
  rw [Bool.and_eq_true, List.all_eq_true]
  exact ⟨beq_self_eq_true _, fun q hq => decide_eq_true (get?_ndm nd hq)⟩
end Sk
/-! stores: objects of three fields -/
namespace Sk
open PySem PySem.Spec PyProof.Rows L2
/-- a field, K told -/
theorem peFld {X : Cx} {K : PySem.W.Frag} {o : Expr} {ta : TE} {f : Str} {pos : Pos} (e : X.K = K) (he : PE X o ta) (hb : attributeBase o f X.env (eval o X.env) = eval o X.env := by rfl) : PE X (.Attribute o f pos) (tFld K ta f) := by
  subst e
  exact pe_fld he hb
theorem NoTab.own {x : Addr} : NoTab (.own x) := ⟨(fun _ e => by cases e), (fun _ e => by cases e)⟩
/-- where the class stands -/
def stC (K : PySem.W.Frag) : Addr := He.ga K "Store"
/-- a store's fields -/
def stF (a b c : Addr) : List (Str × V) := [("entries", .ref a), ("stock_numbers", .ref b), ("split_numbers", .ref c)]
theorem stF_e (a b c : Addr) : (stF a b c).lookup ("entries" : Str) = some (V.ref a) := by rfl
theorem stF_s (a b c : Addr) : (stF a b c).lookup ("stock_numbers" : Str) = some (V.ref b) := by rfl
theorem stF_p (a b c : Addr) : (stF a b c).lookup ("split_numbers" : Str) = some (V.ref c) := by rfl
theorem stF_1 (a : Addr) : putF "entries" (.ref a) [] = ([("entries", .ref a)] : List (Str × V)) := by rfl
theorem stF_2 (a b : Addr) : putF "stock_numbers" (.ref b) ([("entries", .ref a)] : List (Str × V)) = ([("entries", .ref a), ("stock_numbers", .ref b)] : List (Str × V)) := by rfl
theorem stF_3 (a b c : Addr) : putF "split_numbers" (.ref c) ([("entries", .ref a), ("stock_numbers", .ref b)] : List (Str × V)) = stF a b c := by rfl
theorem stF_putP (a b c c' : Addr) : putF "split_numbers" (.ref c') (stF a b c) = stF a b c' := by rfl
theorem stF_putS (a b c b' : Addr) : putF "stock_numbers" (.ref b') (stF a b c) = stF a b' c := by rfl
theorem stF_len (a b c : Addr) : (stF a b c).length < 1000 := by show 3 < 1000; decide
theorem stF_no {a b c : Addr} {m : Str} (h : m ≠ "entries" ∧ m ≠ "stock_numbers" ∧ m ≠ "split_numbers") : (stF a b c).lookup m = none := by
  unfold stF
  simp only [List.lookup]
  have e1 : (m == ("entries" : Str)) = false := by simpa using h.1
  have e2 : (m == ("stock_numbers" : Str)) = false := by simpa using h.2.1
  have e3 : (m == ("split_numbers" : Str)) = false := by simpa using h.2.2
  rw [e1, e2, e3]
/-- a cell was otherwise at the start and at the end -/
theorem Gr.put2 {T : List (Addr × Str)} {H H' : Hp} {s : Addr} {o1 o2 : HO} (g : Gr T H H') (h : H s = some o1) (n1 : NoTab o1) (n2 : NoTab o2) : Gr T (upd H s o2) (upd H' s o2) := by
  have h' := g.at h n1
  refine ⟨fun b u e n => ?_, fun t => ?_⟩
  · by_cases hb : b = s
    · rw [hb, upd_same] at e
      rw [hb, upd_same]
      exact e
    · rw [upd_ne hb] at e ⊢
      exact g.ext b u e n
  · have t1 : LamX.Tabs T (upd (upd H s o2) s o1) := Tabs.upd t (upd_same (H := H) (a := s)) n2
    have e : upd (upd H s o2) s o1 = H := by
      funext b
      by_cases hb : b = s
      · rw [hb, upd_same, h]
      · rw [upd_ne hb, upd_ne hb]
    rw [e] at t1
    exact Tabs.upd (g.tab t1) h' n1
/-- a class made by keywords alone -/
structure MakK (P : Program) (w : World) (K : PySem.W.Frag) (mg : Str → Option Value) (base : Heap) (k : Nat) (x : Str) (C : Addr) (sp : Sp) (ks : List Str) (gV : List V → List V → List V) : Prop where
  ex : ∃ (f : Addr) (fd : FuncData) (ps : List Str) (g : List Value → List Value → List Value), Mk K C f ∧ FnOk P w K mg base CX0 k f fd ps sp ∧ mg x = some (.ref C) ∧ KBn K fd ps 1 ks g gV
section
variable {X : Cx} {k j : Nat} {C : Addr} {x : Str} {sp : Sp} {ks : List Str} {gV : List V → List V → List V} {tk : TA} {kws : List Keyword} {p pos : Pos}
theorem pe_mkK (c : MakK X.prog X.w X.K X.mg X.base k x C sp ks gV) (hr : Room j X.A) (hj : k + 1 ≤ j) (hg : Gl X x) (hkw : PK X kws tk) (hdb : (x == ("__debug__" : Str)) = false := by decide)
    (hall : (backToKw pos (keywordEach kws X.env)).all (·.1.isSome) = true := by rfl) (hks : (backToKw pos (keywordEach kws X.env)).filterMap (·.1) = ks := by rfl)
    (hpl : ((backTo pos (starEach [] X.env)).any (·.1) || (backToKw pos (keywordEach kws X.env)).any (·.1.isNone)) = false := by rfl) : PE X (.Call (.Name x p) [] kws pos) (tMakeN C 0 ks.length sp gV E0 tNil tk) := by
  obtain ⟨f, fd, ps, g, M, F, hm, hb⟩ := c.ex
  refine ⟨fun pins s σ H Q I h => ?_⟩
  refine wpAny_Call_Name_kw (ld_glob I hg hm ?_ hdb)
  refine PySem.W.callWith_KW0 (h₀ := X.base) I.ok.mod.kin M.kp hall ?_ hpl
  refine thn (hkw.run pos pins s σ H _ I h) fun ws s2 ⟨zs, H2, I2, rz, l1, l2, q2⟩ => ⟨I2.kIn, ?_⟩
  rw [hks]
  exact run_makeN M F (hr.mono hj) hb pass0 I2 .nil rz rfl l2 q2
end
end Sk
/-! == and != of own instances with an own __eq__: both answers -/
namespace PySem
open PySem.W Builtin
section
variable {prog : Program} {w : World} {A : Around} {E : Value → Shared → Prop} {s : Shared} {K : Frag} {x C L f : Addr} {h₀ : Heap} {m : Str → Option Value} {ox : Obj} {od : Option Obj} {name : Str} {b tb : Value}
theorem ifBound_KB {M : Model} {args : List Value} {id : String} {Q : Option Value → Shared → Prop} (X : K.In s.heap) (I : InstAt s.heap x ox C od) (hs : findIn K (.ref C) name = some (some (.builtin id))) (hb : ∀ self, bindSpecial (.builtin id) self = pure (.builtin id, [self]))
    (h : wpAny M A (call (.builtin id) (.ref x :: args)) (fun v => Q (some v)) E s) : wpAny M A (callSpecialIfBound? (.ref x) name args) Q E s := by
  simp only [callSpecialIfBound?, bindSpecialIfBound?]
  refine wpAny_holding (wpAny_bind (wpAny_bind (wpAny_bind (I.type.here ((looks_findIn X hs).here ?_)))))
  simp only [hb]
  refine wpAny_bind (wpAny_askSetting (wpAny_ite ?_))
  have fin : wpAny M A (call (.builtin id) ([.ref x] ++ args) >>= fun v => pure (some v)) Q E s := wpAny_bind (wpAny_mono h (fun v s' h' => wpAny_pure h') fun _ _ h' => h')
  split
  · exact wpAny_bind (wpAny_pure (wpAny_pure fin))
  · exact wpAny_tryCatch (wpAny_bind (wpAny_pure (wpAny_pure fin)))
theorem checkSlot_K {M : Model} {id owner n : String} {rest : List Value} {Q : Unit → Shared → Prop} (X : K.In s.heap) (I : InstAt s.heap x ox C od) (hk : builtinKind id = some .slot) (hs : splitId id = some (owner, n)) (ha : argsOk id ⟨.ref x :: rest, []⟩)
    (hO : subIn K (.ref C) (.type owner) = some true) (hq : Q () s) : wpAny M A (checkBuiltinCall id ⟨.ref x :: rest, []⟩) Q E s := by
  simp only [checkBuiltinCall, hk, hs]
  refine wpAny_bind ?_
  · have isI : Looks M s.heap (isInstance (.ref x) (.type owner)) true := by
      unfold isInstance
      exact I.type.andThen (looks_subIn X hO)
    refine wpAny_bind (I.type.here ((looks_subIn X hO).here ?_))
    repeat wp_step
    cases hsig : Manifest.signature? id with
    | none => exact wpAny_pure hq
    | some sig =>
      simp only [argsOk, hsig] at ha
      have h2 : Bind.checkArgs id sig ⟨.ref x :: rest, []⟩ = pure () := ha
      show wpAny M A (Bind.checkArgs id sig ⟨.ref x :: rest, []⟩) Q E _
      rw [h2]; exact wpAny_pure hq
theorem objNe_K {Q : Fin → Shared → Prop} (hu : A.units < cLine) (X : K.In s.heap) (I : InstAt s.heap x ox C od) (hs : findIn K (.ref C) "__eq__" = some (some (.ref f))) (hf : isFn K (.ref f) = true)
    (h : wpAny (model prog w) A (call (.ref f) [.ref x, b]) (fun v s' => ∃ r, v = .bool r ∧ Q (.done (.ret (.bool (!r)))) s') E s) :
    wpAny (model prog w) A (Builtin.«object.__ne__» ⟨[.ref x, b], []⟩) Q E s := by
  unfold Builtin.«object.__ne__»
  repeat (first
    | with_reducible refine wpAny_cRoomFor hu ?_
    | (refine wpAny_bind (m := callSpecialIfBound? (.ref x) (Str.ofString "__eq__") [b])
        (ifBound_K X I hs hf (wpAny_mono h (fun r s' hr => by
          obtain ⟨b, rfl, hq⟩ := hr
          repeat (first | exact hq | exact wpAny_pure hq | exact wpAny_truthy_bool hq | (refine wpAny_bind (m := truthy (.bool _)) (wpAny_truthy_bool ?_)) | wp_step)) fun _ _ e => e)))
    | wp_step)
theorem cmpNe_K {Q : Value → Shared → Prop} (hu : A.units + 1 < cLine) (X : K.In s.heap) (I : InstAt s.heap x ox C od) (hb : Looks (model prog w) s.heap (typeOf b) tb) (hn : notFirst K C tb = true)
    (hN : findIn K (.ref C) "__ne__" = some (some (.builtin "object.__ne__"))) (hO : subIn K (.ref C) (.type "object") = some true) (hs : findIn K (.ref C) "__eq__" = some (some (.ref f))) (hf : isFn K (.ref f) = true)
    (h : wpAny (model prog w) A.in1 (call (.ref f) [.ref x, b]) (fun v s' => ∃ r, v = .bool r ∧ Q (.bool (!r)) s') E s) : wpAny (model prog w) A (richCompare .NotEq (.ref x) b) Q E s := by
  have hu0 : A.units < cLine := Nat.lt_of_succ_lt hu
  have one : wpAny (model prog w) A (tryCompare (.ref x) "__ne__" b) (fun r s' => ∃ v, r = some v ∧ Q v s') E s := by
    unfold tryCompare
    refine wpAny_bind (ifBound_KB X I hN (F.slot_object_ne).bind (wpAny_call (codeAny_call_builtin (F.slot_object_ne).plain F.cmpEntry_ne
      (checkSlot_K X I F.cmpKind_ne F.cmpSplit_ne (F.cmpArgs_ne _ _) hO (objNe_K (A := A.in1) hu X I hs hf (wpAny_mono h (fun v s' hv => ?_) fun _ _ e => e))))))
    obtain ⟨b, rfl, hq⟩ := hv
    first | exact ⟨b, rfl, wpAny_pure ⟨_, rfl, hq⟩⟩ | exact ⟨b, rfl, wpAny_pure (wpAny_pure ⟨_, rfl, hq⟩)⟩ | exact ⟨b, rfl, ⟨_, rfl, hq⟩⟩
  unfold richCompare
  simp only [oneThing_ref]
  refine wpAny_holding (wpAny_bind (wpAny_cRoomFor hu0 ?_))
  rw [cmpInfo_NotEq]
  dsimp only
  refine wpAny_bind (I.type.here (wpAny_bind (hb.here ?_)))
  split
  · rename_i q
    have e : subIn K tb (.ref C) = some false := by
      rcases Bool.or_eq_true_iff.mp hn with e | e
      · rw [beq_iff_eq.mp e] at q; simp at q
      · exact beq_iff_eq.mp e
    refine wpAny_bind ((looks_subIn X e).here ?_)
    simp only [Bool.false_eq_true, if_false]
    refine wpAny_bind (wpAny_mono one (fun r s' z => ?_) fun _ _ e => e)
    obtain ⟨v, rfl, hq⟩ := z
    exact wpAny_pure hq
  · refine wpAny_bind (wpAny_pure ?_)
    simp only [Bool.false_eq_true, if_false]
    refine wpAny_bind (wpAny_mono one (fun r s' z => ?_) fun _ _ e => e)
    obtain ⟨v, rfl, hq⟩ := z
    exact wpAny_pure hq
end
end PySem
namespace Sk
open PySem PySem.Spec PyProof.Rows L2
/-- what != of an own class needs -/
structure NeK (K : PySem.W.Frag) (C : Addr) : Prop where
  ne : PySem.W.findIn K (.ref C) "__ne__" = some (some (.builtin "object.__ne__"))
  ob : PySem.W.subIn K (.ref C) (.type "object") = some true
def rEqI (C : Addr) (sp : Sp) : R2 := fun x y H Q => ∃ a b dx dy fs gs, x = .ref a ∧ y = .ref b ∧ H a = some (.ins C dx fs) ∧ H b = some (.ins C dy gs) ∧ sp [.ref a, .ref b] H (fun v H' => ∃ r, v = .bl r ∧ Q (.bl r) H') E0
def rNeI (C : Addr) (sp : Sp) : R2 := fun x y H Q => ∃ a b dx dy fs gs, x = .ref a ∧ y = .ref b ∧ H a = some (.ins C dx fs) ∧ H b = some (.ins C dy gs) ∧ sp [.ref a, .ref b] H (fun v H' => ∃ r, v = .bl r ∧ Q (.bl (!r)) H') E0
section
variable {X : Cx} {k : Nat} {C : Addr} {sp : Sp}
theorem call_eqI {A : Around} {f : Addr} {fd : FuncData} {ps : List Str} {pins : List (Addr × Obj)} {s : Shared} {σ : L2.St} {H : Hp} {a b : Addr} {R : Bool → Hp → Prop} (F : FnOk X.prog X.w X.K X.mg X.base CX0 k f fd ps sp) (hb : Binds X.K fd ps []) (sb : Sub X k A) (I : Inv X pins σ H s)
    (hsp : sp [.ref a, .ref b] H (fun v H' => ∃ r, v = .bl r ∧ R r H') E0) :
    wpAny (model X.prog X.w) A (call (.ref f) [.ref a, .ref b]) (fun v s' => ∃ r H', v = .bool r ∧ Inv X pins σ H' s' ∧ R r H') X.xe s := by
  have e0 : Env0 X.prog X.w X.K X.mg X.base A X.stack s H := by
    have e := I.env0
    exact ⟨by rw [sb.fr]; exact e.frames, e.mod, e.bs, e.bsz, e.funs, e.frf, e.hok, e.bare⟩
  have hl := F.len _ _ _ _ hsp
  have r2 : Vals [V.ref a, V.ref b] [Value.ref a, Value.ref b] := .cons rfl (.cons rfl .nil)
  refine wpAny_call (codeAny_mono (F.run A X.stack s H ⟨[.ref a, .ref b], []⟩ [.ref a, .ref b] [.ref a, .ref b] _ E0 sb.room e0 (by
    have := hb s [.ref a, .ref b] I.kIn (by simpa using hl)
    simpa using this) r2 hsp) fun r s' hq => ?_)
  cases r with
  | error e => exact pass0 pins σ H s e s' I hq
  | ok fl =>
    cases fl with
    | ret w =>
      obtain ⟨z, H', I', rz, r, ez, q⟩ := I.after hq
      subst ez
      cases rz
      exact ⟨r, H', rfl, I', q⟩
    | next => exact False.elim hq
    | brk => exact False.elim hq
    | cont => exact False.elim hq
theorem op_eqI {j : Nat} (c : C8.Met X.prog X.w X.K X.mg X.base k C "__eq__" sp []) (hr : Room j X.A) (hj : k ≤ j) : OpR X (compareOp .Eq) (rEqI C sp) := by
  intro pins s σ H x y v u Q I rx ry hq
  obtain ⟨f, fd, ps, ds, hc, hm, F, hb, d⟩ := c.ex
  cases d
  obtain ⟨a, b, dx, dy, fs, gs, rfl, rfl, ha, hb', hsp⟩ := hq
  cases rx
  cases ry
  obtain ⟨mA, J, _⟩ := ins_get I.hok ha
  obtain ⟨mB, J', _⟩ := ins_get I.hok hb'
  obtain ⟨od, J, _⟩ := J.look
  obtain ⟨od', J', _⟩ := J'.look
  obtain ⟨m, hF⟩ := I.fr
  have sb : Sub X k X.A := ⟨hr.mono hj, rfl⟩
  show wpAny (model X.prog X.w) X.A (richCompare .Eq (.ref a) (.ref b)) (EP X pins σ Q) X.xe s
  refine PySem.W.cmp_K (op := .Eq) (tb := .ref C) sb.room.units0 hF I.ok.mod.kin J J'.type (by simp [PySem.W.notFirst]) hm.at_ hm.fn ?_
  refine wpAny_mono (call_eqI F hb sb I hsp) (fun v s' z => ?_) fun _ _ x => x
  obtain ⟨r, H', rfl, I', q⟩ := z
  exact ⟨.bl r, H', I', rfl, q⟩
theorem op_neI {j : Nat} (c : C8.Met X.prog X.w X.K X.mg X.base k C "__eq__" sp []) (n : NeK X.K C) (hr : Room j X.A) (hj : k + 1 ≤ j) : OpR X (compareOp .NotEq) (rNeI C sp) := by
  intro pins s σ H x y v u Q I rx ry hq
  obtain ⟨f, fd, ps, ds, hc, hm, F, hb, d⟩ := c.ex
  cases d
  obtain ⟨a, b, dx, dy, fs, gs, rfl, rfl, ha, hb', hsp⟩ := hq
  cases rx
  cases ry
  obtain ⟨mA, J, _⟩ := ins_get I.hok ha
  obtain ⟨mB, J', _⟩ := ins_get I.hok hb'
  obtain ⟨od, J, _⟩ := J.look
  obtain ⟨od', J', _⟩ := J'.look
  have sb : Sub X (k + 1) X.A := ⟨hr.mono hj, rfl⟩
  show wpAny (model X.prog X.w) X.A (richCompare .NotEq (.ref a) (.ref b)) (EP X pins σ Q) X.xe s
  refine cmpNe_K (tb := .ref C) ?_ I.kIn J J'.type (by simp [PySem.W.notFirst]) n.ne n.ob hm.at_ hm.fn ?_
  · have := hr.units
    omega
  refine wpAny_mono (call_eqI F hb sb.in1 I hsp) (fun v s' z => ?_) fun _ _ x => x
  obtain ⟨r, H', rfl, I', q⟩ := z
  exact ⟨r, rfl, .bl (!r), H', I', rfl, q⟩
end
/-- a method that is called by keywords alone -/
structure MetK (P : Program) (w : World) (K : PySem.W.Frag) (mg : Str → Option Value) (base : Heap) (k : Nat) (C : Addr) (m : Str) (sp : Sp) (ks : List Str) (gV : List V → List V → List V) : Prop where
  ex : ∃ (f : Addr) (fd : FuncData) (ps : List Str) (g : List Value → List Value → List Value), Cls K C ∧ Meth K C m f ∧ FnOk P w K mg base CX0 k f fd ps sp ∧ KBn K fd ps 1 ks g gV
def tMethK (C : Addr) (m : Str) (n : Nat) (sp : Sp) (gV : List V → List V → List V) (ta : TE) (tk : TA) : TE := fun σ H Q => ta σ H fun x H1 => ∃ a dx fs, x = .ref a ∧ H1 a = some (.ins C dx fs) ∧ fs.lookup m = none ∧
  tk σ H1 fun zs H2 => zs.length = n ∧ sp (gV [x] zs) H2 Q E0
section
variable {X : Cx} {k j : Nat} {C : Addr} {m : Str} {sp : Sp} {ks : List Str} {gV : List V → List V → List V} {o : Expr} {ta : TE} {tk : TA} {kws : List Keyword} {pos apos : Pos}
theorem pe_mtK {pl : Sem Bool} (c : MetK X.prog X.w X.K X.mg X.base k C m sp ks gV) (hr : Room j X.A) (hj : k ≤ j) (he : PE X o ta) (hkw : PK X kws tk)
    (hall : (backToKw pos (keywordEach kws X.env)).all (·.1.isSome) = true := by rfl) (hks : (backToKw pos (keywordEach kws X.env)).filterMap (·.1) = ks := by rfl)
    (hpl : ((backTo pos (starEach [] X.env)).any (·.1) || (backToKw pos (keywordEach kws X.env)).any (·.1.isNone)) = false := by rfl)
    (ht : eval (.Call (.Attribute o m apos) [] kws pos) X.env = (do
      let ov ← eval o X.env
      standAt apos.atName
      let (f, first) ← holding [ov] (getMethod ov m pl)
      callWith pos f first (backTo pos (starEach [] X.env)) (backToKw pos (keywordEach kws X.env))) := by rfl) :
    PE X (.Call (.Attribute o m apos) [] kws pos) (tMethK C m ks.length sp gV ta tk) := by
  obtain ⟨f, fd, ps, g, hc, hm, F, hb⟩ := c.ex
  refine ⟨fun pins s σ H Q I h => ?_⟩
  refine PySem.W.methodCall_KW (pl := pl) (thn (he.run pins s σ H _ I h) fun u s1 ⟨x, H1, I1, rx, a, dx, fs, ex, ea, l, q⟩ => ?_) ht
  subst ex
  obtain rfl : u = Value.ref a := rx
  refine getmeth_ok I1 ea hc hm l ?_
  refine PySem.W.callWith_KW0 (first := [.ref a]) (h₀ := X.base) I.ok.mod.kin hm.kp hall ?_ hpl
  refine thn (hkw.run pos pins s1 σ H1 _ I1 q) fun ws s2 ⟨zs, H2, I2, rz, l2, q2⟩ => ⟨I2.kIn, ?_⟩
  rw [hks]
  exact run_fnN (us := [.ref a]) (vs := [.ref a]) F (hr.mono hj) hb pass0 I2 (.cons rfl .nil) rz rfl l2 q2
end
/-- l.count(i), ints -/
def rCountI : V → List V → Hp → VK → Prop := fun x xs H Q => ∃ (a : Addr) (ns : List Int) (i : Int), x = .ref a ∧ xs = [.int i] ∧ H a = some (.lst (ns.map V.int)) ∧ Q (.int (ns.count i : Nat)) H
theorem mt_countI {X : Cx} : MtR X "list.count" rCountI := by
  intro pins s σ H x xs v us Q I rx rxs h
  obtain ⟨a, ns, i, rfl, rfl, ha, q⟩ := h
  cases rx
  cases rxs with
  | cons ry rt =>
    cases rt
    obtain ⟨t, rfl⟩ := (show ∃ t, _ = Value.int i t from ry)
    obtain ⟨hz, its, n, rv, hob⟩ := I.hok a _ ha
    exact PyProof.Rows.count_list_ints ⟨_, hob, rfl, _, rfl⟩ rv.ints ⟨.int (ns.count i : Nat), H, I.tok _, ⟨_, rfl⟩, q⟩
end Sk
/-! x or y by truth, K told -/
namespace Sk
open PySem PySem.Spec PyProof.Rows L2
theorem peOrT {X : Cx} {K : PySem.W.Frag} {a b : Expr} {ta tb : TE} {rest : List Expr} {pos : Pos} (e : X.K = K) (ha : PE X a ta) (hb : PE X (.BoolOp .Or (b :: rest) pos) tb) : PE X (.BoolOp .Or (a :: b :: rest) pos) (tOrT K ta tb) := by
  subst e
  exact pe_orT ha hb
end Sk
/-! zip of three lists -/
namespace Sk
open PySem PySem.Spec PyProof.Rows L2
theorem ne_iter {h : Heap} {a it : Addr} {xs : Array Value} {i : Nat} (p : h.IsList a xs) (q : h.IsListIter it a i) : a ≠ it := fun e => by
  subst e
  obtain ⟨o, e1, c1, _⟩ := p
  obtain ⟨o2, e2, c2, _⟩ := q
  rw [e1] at e2
  cases e2
  rw [c1] at c2
  exact absurd c2 (by decide)
/-- the lists at a, b and c as they stand at each turn, the items in new tuples -/
def Itz3 (K : PySem.W.Frag) (a b c : Addr) : It :=
  ⟨fun i H => ∃ (xs ys zs : List V) (x y z : V), SqL K H a xs ∧ SqL K H b ys ∧ SqL K H c zs ∧ xs[i]? = some x ∧ ys[i]? = some y ∧ zs[i]? = some z,
    fun i H v H' => ∃ T x y z, v = .ref T ∧ H T = none ∧ H' = upd H T (.tup [x, y, z]) ∧ (∀ xs, SqL K H a xs → xs[i]? = some x) ∧ (∀ ys, SqL K H b ys → ys[i]? = some y) ∧ ∀ zs, SqL K H c zs → zs[i]? = some z,
    fun i H => ∃ xs ys zs : List V, SqL K H a xs ∧ SqL K H b ys ∧ SqL K H c zs ∧ i ≤ xs.length ∧ i ≤ ys.length ∧ i ≤ zs.length ∧ (i = xs.length ∨ i = ys.length ∨ i = zs.length)⟩
def TnZ3 (a b c z TI TO i1 i2 i3 : Addr) (i : Nat) (h : Heap) : Prop := IsZip h z TI TO .none ∧ IsTupOf3 h TI (.ref i1) (.ref i2) (.ref i3) ∧ (∃ x y w, IsTupOf3 h TO x y w) ∧ h.IsListIter i1 a i ∧ h.IsListIter i2 b i ∧ h.IsListIter i3 c i
theorem turn_zip3 {P : Program} {w : World} {K : PySem.W.Frag} {elts : List Expr} {kk : Nat} {tpos : Pos} {a b c z TI TO i1 i2 i3 : Addr} (D : ZipSep3 z TI TO i1 i2 i3 [i1, a] [i2, b] [i3, c]) :
    Turn P w K (.Tuple elts kk tpos) (Itz3 K a b c) [z, TI, TO, i1, i2, i3] z (TnZ3 a b c z TI TO i1 i2 i3) where
  mem := by simp
  obj := fun i h st q hq => by
    obtain ⟨hz, hTI, ⟨x, y, w, hTO⟩, ⟨o1, e1, _, d1⟩, ⟨o2, e2, _, d2⟩, ⟨o3, e3, _, d3⟩⟩ := st
    have e' : q = z ∨ q = TI ∨ q = TO ∨ q = i1 ∨ q = i2 ∨ q = i3 := by simpa using hq
    rcases e' with q | q | q | q | q | q
    · rw [q]; exact ⟨_, hz, fun v q => nomatch q⟩
    · rw [q]; exact ⟨_, hTI, fun v q => nomatch q⟩
    · rw [q]; exact ⟨_, hTO, fun v q => nomatch q⟩
    · rw [q]; exact ⟨o1, e1, fun v q => by rw [d1] at q; cases q⟩
    · rw [q]; exact ⟨o2, e2, fun v q => by rw [d2] at q; cases q⟩
    · rw [q]; exact ⟨o3, e3, fun v q => by rw [d3] at q; cases q⟩
  keep := fun i h h' st k => by
    obtain ⟨hz, hTI, ⟨x, y, w, hTO⟩, h1, h2, h3⟩ := st
    exact ⟨k z (by simp) _ hz, k TI (by simp) _ hTI, ⟨x, y, w, k TO (by simp) _ hTO⟩, h1.at fun o q => k i1 (by simp) o q, h2.at fun o q => k i2 (by simp) o q, h3.at fun o q => k i3 (by simp) o q⟩
  item := by
    intro X hP hw hK hc i pins s σ H E I hf st hg
    subst hP hw hK
    obtain ⟨hz, hTI, ⟨x0, y0, w0, hTO⟩, h1, h2, h3⟩ := st
    obtain ⟨xs, ys, zs, x, y, v, hqx, hqy, hqz, hx, hy, hv⟩ := hg
    obtain ⟨its, rv, p, _⟩ := I.list hqx
    obtain ⟨its2, rv2, p2, _⟩ := I.list hqy
    obtain ⟨its3, rv3, p3, _⟩ := I.list hqz
    obtain ⟨u, hu, ru⟩ := rv.get hx
    obtain ⟨u2, hu2, ru2⟩ := rv2.get hy
    obtain ⟨u3, hu3, ru3⟩ := rv3.get hv
    have hh : X.A.handled = none := I.ok.hd hc
    have hzl : z < s.heap.objs.size := Heap.lt_size hz
    refine wpAny_pyNext_zipD3_item (i := i) D (Draws.list (A := X.A.in1) hh i1 a (ne_iter p.isList h1) its.toArray) (Draws.list (A := X.A.in1) hh i2 b (ne_iter p2.isList h2) its2.toArray) (Draws.list (A := X.A.in1) hh i3 c (ne_iter p3.isList h3) its3.toArray) hz hTI hTO ⟨h1, p.isList⟩ ⟨h2, p2.isList⟩ ⟨h3, p3.isList⟩ ?_ ?_ ?_ fun x1 x2 x3 h' tk q1 q2 q3 z' TO' n1 n2 n3 hT hsz hk => ?_
    · simpa using (List.getElem?_eq_some_iff.mp hu).1
    · simpa using (List.getElem?_eq_some_iff.mp hu2).1
    · simpa using (List.getElem?_eq_some_iff.mp hu3).1
    have e1 : x1 = u := by
      have q1' : its.toArray[i]? = some x1 := q1
      rw [List.getElem?_toArray, hu] at q1'
      exact (Option.some.inj q1').symm
    have e2 : x2 = u2 := by
      have q1' : its2.toArray[i]? = some x2 := q2
      rw [List.getElem?_toArray, hu2] at q1'
      exact (Option.some.inj q1').symm
    have e3 : x3 = u3 := by
      have q1' : its3.toArray[i]? = some x3 := q3
      rw [List.getElem?_toArray, hu3] at q1'
      exact (Option.some.inj q1').symm
    subst e1 e2 e3
    refine ⟨_, rfl, wpAny_letOwnedTupleGo_zip (s := { s with heap := h', toks := tk }) z' fun h'' z'' sb => ?_⟩
    have hT2 : h''.get? s.heap.objs.size = some { cls := .type "tuple", data := .seq #[x1, x2, x3] } := (sb.2 _ (Nat.ne_of_gt hzl)).trans hT
    have new : ObjOk X.prog X.w (upd H s.heap.objs.size (.tup [x, y, v])) h'' s.heap.objs.size (.tup [x, y, v]) :=
      ⟨by show 3 ≤ sizeLine; decide, [x1, x2, x3], .cons ru (.cons ru2 (.cons ru3 .nil)), ⟨_, hT2, rfl, _, rfl⟩⟩
    have I1 : Inv X pins σ (upd H s.heap.objs.size (.tup [x, y, v])) { s with heap := h'', toks := tk } :=
      I.turnedNew (t' := tk) (ch := [z, TI, TO, i1, i2, i3]) (fun c o hb q => (sb.2 c (fun q' => hb (by simp [q']))).trans (hk c o (fun q' => hb (by simp [q'])) (fun q' => hb (by simp [q'])) (fun q' => hb (by simp [q'])) (fun q' => hb (by simp [q'])) (fun q' => hb (by simp [q'])) q)) hf (Nat.le_refl _) new
    refine ⟨.ref s.heap.objs.size, _, I1, rfl, ⟨_, x, y, v, rfl, I.hok.fresh (Nat.le_refl _), rfl, fun l hl => by rw [I.list_inj hl hqx]; exact hx, fun l hl => by rw [I.list_inj hl hqy]; exact hy, fun l hl => by rw [I.list_inj hl hqz]; exact hv⟩, ⟨z'', ?_, ⟨x1, x2, x3, ?_⟩, ?_, ?_, ?_⟩, fun q hqm => ?_⟩
    · exact (sb.2 _ D.TIz).trans (hk _ _ D.TIz D.TITO D.TIi1 D.TIi2 D.TIi3 hTI)
    · exact (sb.2 _ D.TOz).trans TO'
    · exact n1.1.at fun o q => (sb.2 _ D.zi1.symm).trans q
    · exact n2.1.at fun o q => (sb.2 _ D.zi2.symm).trans q
    · exact n3.1.at fun o q => (sb.2 _ D.zi3.symm).trans q
    · have hlt : q < s.heap.objs.size := by
        have e' : q = z ∨ q = TI ∨ q = TO ∨ q = i1 ∨ q = i2 ∨ q = i3 := by simpa using hqm
        rcases e' with q | q | q | q | q | q
        · rw [q]; exact hzl
        · rw [q]; exact Heap.lt_size hTI
        · rw [q]; exact Heap.lt_size hTO
        · rw [q]; obtain ⟨_, e1, _⟩ := h1; exact Heap.lt_size e1
        · rw [q]; obtain ⟨_, e2, _⟩ := h2; exact Heap.lt_size e2
        · rw [q]; obtain ⟨_, e3, _⟩ := h3; exact Heap.lt_size e3
      rw [upd_ne (Nat.ne_of_lt hlt)]
      exact (hf q hqm).1
  done := by
    intro X hP hw hK hc i pins s σ H E I hf st hg
    subst hP hw hK
    obtain ⟨hz, hTI, ⟨x0, y0, w0, hTO⟩, h1, h2, h3⟩ := st
    obtain ⟨xs, ys, zs, hqx, hqy, hqz, l1, l2, l3, hend⟩ := hg
    obtain ⟨its, rv, p, _⟩ := I.list hqx
    obtain ⟨its2, rv2, p2, _⟩ := I.list hqy
    obtain ⟨its3, rv3, p3, _⟩ := I.list hqz
    have hh : X.A.handled = none := I.ok.hd hc
    have m1 := rv.length
    have m2 := rv2.length
    have m3 := rv3.length
    refine wpAny_pyNext_zipD3_end (i := i) D (Draws.list (A := X.A.in1) hh i1 a (ne_iter p.isList h1) its.toArray) (Draws.list (A := X.A.in1) hh i2 b (ne_iter p2.isList h2) its2.toArray) (Draws.list (A := X.A.in1) hh i3 c (ne_iter p3.isList h3) its3.toArray) hz hTI hTO ⟨h1, p.isList⟩ ⟨h2, p2.isList⟩ ⟨h3, p3.isList⟩ (by simp; omega) (by simp; omega) (by simp; omega) (by simp; omega) fun h' tk hk => ⟨rfl, I.turnedL (t' := tk) (ch := [z, TI, TO, i1, i2, i3]) (fun c o hb q =>
      hk c o (fun q' => hb (by simp [q'])) (fun q' => hb (by simp [q'])) (fun q' => hb (by simp [q'])) (fun q' => hb (by simp [q'])) (fun q' => hb (by simp [q'])) q) hf⟩
  self := fun A i s Q E st h => wpAny_pyIter_zip st.1 h
theorem zipSep (n a b c : Nat) (la : a < n) (lb : b < n) (lc : c < n) : ZipSep3 (n + 5) (n + 3) (n + 4) n (n + 1) (n + 2) [n, a] [n + 1, b] [n + 2, c] := by
  have nm : ∀ {x i w : Nat}, x ≠ i → x ≠ w → ¬ x ∈ ([i, w] : List Nat) := fun h1 h2 h => by
    rcases List.mem_cons.mp h with z | z
    · exact h1 z
    · exact h2 (List.mem_singleton.mp z)
  exact ⟨Nat.ne_of_lt (by omega), Nat.ne_of_lt (by omega), Nat.ne_of_lt (by omega), Nat.ne_of_gt (by omega), List.mem_cons_self .., nm (by omega) (by omega), nm (by omega) (by omega),
    Nat.ne_of_gt (by omega), List.mem_cons_self .., nm (by omega) (by omega), nm (by omega) (by omega),
    Nat.ne_of_gt (by omega), List.mem_cons_self .., nm (by omega) (by omega), nm (by omega) (by omega),
    nm (by omega) (by omega), nm (by omega) (by omega), nm (by omega) (by omega), nm (by omega) (by omega), nm (by omega) (by omega), nm (by omega) (by omega)⟩
def iZip3 (K : PySem.W.Frag) (ta : TA) : TI := fun σ H R => ta σ H fun vs H1 => ∃ a b c xs ys zs, vs = [.ref a, .ref b, .ref c] ∧ SqL K H1 a xs ∧ SqL K H1 b ys ∧ SqL K H1 c zs ∧ R (Itz3 K a b c) H1
theorem pi_zip3 {X : Cx} {e1 e2 e3 : Expr} {ta : TA} {p pos tpos : Pos} {elts : List Expr} {kk : Nat} (hg : Gl X "zip") (hm : X.mg "zip" = none) (ha : PA X [e1, e2, e3] ta)
    (hs : starEach [e1, e2, e3] X.env = (false, eval e1 X.env) :: starEach [e2, e3] X.env := by rfl) (hpl : (backTo pos (starEach [e2, e3] X.env)).any (·.1) = false := by rfl) :
    PI X (.Tuple elts kk tpos) (.Call (.Name "zip" p) [e1, e2, e3] [] pos) (iZip3 X.K ta) := by
  refine ⟨fun pins s σ H R I h => ?_⟩
  refine Call_ (ld_blt I hg hm PyProof.Rows.boot_zip (PyProof.Rows.callWith_type1 (thn (ha.run pos pins s σ H _ I h) fun us s1 ⟨vs, H1, I1, r1, q1⟩ => ?_) hs hpl))
  obtain ⟨a, b, c, xs, ys, zs, ex, hqx, hqy, hqz, q⟩ := q1
  subst ex
  obtain ⟨u1, us1, rfl, ra, r1⟩ : ∃ u1 us1, us = u1 :: us1 ∧ RelV (.ref a) u1 ∧ Vals [.ref b, .ref c] us1 := by cases r1 with | cons r rr => exact ⟨_, _, rfl, r, rr⟩
  obtain ⟨u2, us2, rfl, rb, r1⟩ : ∃ u2 us2, us1 = u2 :: us2 ∧ RelV (.ref b) u2 ∧ Vals [.ref c] us2 := by cases r1 with | cons r rr => exact ⟨_, _, rfl, r, rr⟩
  obtain ⟨u3, us3, rfl, rc, r1⟩ : ∃ u3 us3, us2 = u3 :: us3 ∧ RelV (.ref c) u3 ∧ Vals [] us3 := by cases r1 with | cons r rr => exact ⟨_, _, rfl, r, rr⟩
  cases r1
  cases ra
  cases rb
  cases rc
  obtain ⟨its, rv, p1, _⟩ := I1.list hqx
  obtain ⟨its2, rv2, p2, _⟩ := I1.list hqy
  obtain ⟨its3, rv3, p3, _⟩ := I1.list hqz
  have la := p1.lt
  have lb := p2.lt
  have lc := p3.lt
  refine zip_begins3 (begins_list a its.toArray) (begins_list b its2.toArray) (begins_list c its3.toArray) p1.isList p2.isList p3.isList fun h' hz hTI hTO h1 h2 h3 hsz hk => wpAny_pyIter_zip hz ?_
  have I2 : Inv X pins σ H1 { s1 with heap := h' } := I1.kept (t' := s1.toks) hk
  generalize hn : s1.heap.objs.size = n at hz hTI hTO h1 h2 h3 la lb lc
  have la : a < n := la
  have lb : b < n := lb
  have lc : c < n := lc
  have ne : ∀ {x y : Nat}, x ≠ y → x ≠ y := fun h => h
  refine ⟨n + 5, [n + 5, n + 3, n + 4, n, n + 1, n + 2], _, _, H1, rfl, I2, turn_zip3 (a := a) (b := b) (c := c) (z := n + 5) (TI := n + 3) (TO := n + 4) (i1 := n) (i2 := n + 1) (i3 := n + 2) ?_, ⟨hz, hTI, ⟨_, _, _, hTO⟩, ⟨_, h1, rfl, rfl⟩, ⟨_, h2, rfl, rfl⟩, ⟨_, h3, rfl, rfl⟩⟩, fun q hq => ?_, q⟩
  · exact zipSep n a b c la lb lc
  · have hle : n ≤ q := by
      have e' : q = n + 5 ∨ q = n + 3 ∨ q = n + 4 ∨ q = n ∨ q = n + 1 ∨ q = n + 2 := by simpa using hq
      rcases e' with z | z | z | z | z | z <;> (rw [z]; first | exact Nat.le_refl _ | exact Nat.le_add_right _ _)
    rw [← hn] at hle
    exact I1.fpOk hle (I1.hok.fresh hle)
theorem piZip3 {X : Cx} {K : PySem.W.Frag} {e1 e2 e3 : Expr} {ta : TA} {p pos tpos : Pos} {elts : List Expr} {kk : Nat} (e : X.K = K) (hg : Gl X "zip") (hm : X.mg "zip" = none) (ha : PA X [e1, e2, e3] ta)
    (hs : starEach [e1, e2, e3] X.env = (false, eval e1 X.env) :: starEach [e2, e3] X.env := by rfl) (hpl : (backTo pos (starEach [e2, e3] X.env)).any (·.1) = false := by rfl) :
    PI X (.Tuple elts kk tpos) (.Call (.Name "zip" p) [e1, e2, e3] [] pos) (iZip3 K ta) := by
  subst e
  exact pi_zip3 hg hm ha hs hpl
/-- a comprehension over anything, what is made told by the turn's number -/
theorem lc_relN {Tb : List (Addr × Str)} {J : It} {n : Nat} {GG : Hp → Prop} {Y : Nat → Hp → V → Hp → Prop} (wk : Walk J n GG Y) {g : TG} {tt : TT} {te : TE} {vs : List Nat} {σ : L2.St} {H1 : Hp} {D : Addr} {Qd : Hp → Prop} (keep : Nat → Bool) (R : Hp → Nat → V → Prop)
    (mono : ∀ H H' i y, (∀ a o, NoTab o → (∀ l, o ≠ .lst l) ∨ a ≠ D → H a = some o → H' a = some o) → R H i y → R H' i y) (hD : H1 D = none) (hz : n ≤ 16777215)
    (hG : ∀ H, Gr Tb H1 H → GG H) (hY : ∀ i H x H', Y i H x H' → Gr Tb H H')
    (turn : ∀ (i : Nat) (x : V) (H H' : Hp), i < n → Gr Tb H1 H' → Y i H x H' → ∀ (Rk : V → Hp → Prop) (Rs : Hp → Prop), (∀ y H4, keep i = true → Gr Tb H' H4 → R H4 i y → Rk y H4) → (∀ H4, keep i = false → Gr Tb H' H4 → Rs H4) →
      g x (wipe σ vs) H' fun σ2 H2 => wipe σ2 vs = wipe σ vs ∧ tt σ2 H2 fun b H3 => if b = true then te σ2 H3 Rk else Rs H3)
    (done : ∀ H ys, Gr Tb H1 H → H D = some (.lst ys) → Paired (R H) ((List.range n).filter keep) ys → Qd H) :
    ∃ W : Nat → Nat → Hp → Prop, (∃ m, W 0 m (upd H1 D (.lst []))) ∧ ∀ i m H, W i m H →
      (J.stop i H ∧ Qd H) ∨ (J.go i H ∧ ∃ Nx : Hp → Prop, (∀ H', Nx H' → ∃ m', m' < m ∧ W (i + 1) m' H') ∧ ∀ x H', J.yld i H x H' → g x (wipe σ vs) H' fun σ2 H2 => wipe σ2 vs = wipe σ vs ∧ tt σ2 H2 fun b H3 =>
        if b = true then te σ2 H3 fun y H4 => ∃ acc, H4 D = some (.lst acc) ∧ acc.length < sizeLine ∧ Nx (upd H4 D (.lst (acc ++ [y]))) else Nx H3) := by
  have h0 : Gr Tb H1 (upd H1 D (.lst [])) := Gr.new hD
  let P : Nat → Hp → Prop := fun i H => Gr Tb H1 H ∧ ∃ ys, H D = some (.lst ys) ∧ Paired (R H) ((List.range i).filter keep) ys
  refine ⟨fun i m H => m = n - i ∧ i ≤ n ∧ P i H, ⟨n, rfl, Nat.zero_le _, h0, [], upd_same, .nil⟩, ?_⟩
  rintro i m H ⟨rfl, hi, p⟩
  have q := hG H p.1
  by_cases hlt : i < n
  · refine .inr ⟨wk.goes i H hlt q, P (i + 1), fun H' p' => ⟨n - (i + 1), by omega, rfl, hlt, p'⟩, fun x H' y => ?_⟩
    have yy := wk.yields i H x H' hlt q y
    obtain ⟨g0, ys, hd0, pr0⟩ := p
    have gy := hY _ _ _ _ yy
    have g1 := g0.trans gy
    have hd := gy.at hd0 .lst
    have pr : Paired (R H') ((List.range i).filter keep) ys := Paired.imp (fun a b r' => mono H H' a b (fun a o nt _ q => gy.at q nt) r') pr0
    have tk : (List.range (i + 1)).filter keep = (List.range i).filter keep ++ [i].filter keep := by
      rw [List.range_succ, List.filter_append]
    refine turn i x H H' hlt g1 yy (fun y H5 => ∃ acc, H5 D = some (.lst acc) ∧ acc.length < sizeLine ∧ P (i + 1) (upd H5 D (.lst (acc ++ [y])))) (P (i + 1)) (fun y H4 e gr r => ?_) (fun H4 e gr => ?_)
    · have hd4 := gr.at hd .lst
      have hle : ys.length ≤ i := by
        rw [← Paired.len pr]
        exact Nat.le_trans (List.length_filter_le _ _) (by rw [List.length_range]; exact Nat.le_refl _)
      refine ⟨_, hd4, by rw [sizeLine_eq]; omega, Gr.put hD (g1.trans gr) hd4, ys ++ [y], upd_same, ?_⟩
      rw [tk, List.filter_cons, if_pos e, List.filter_nil]
      have m2 : ∀ x z, R H4 x z → R (upd H4 D (.lst (ys ++ [y]))) x z := fun x z r => mono H4 _ x z (fun a o _ ha q => by
        rw [upd_ne]
        · exact q
        · rcases ha with ha | ha
          · exact fun e => by
              rw [e, hd4] at q
              cases q
              exact ha _ rfl
          · exact ha) r
      exact Paired.snoc (m2 i y r) (Paired.imp (fun a b r' => m2 a b (mono H' H4 a b (fun a o nt _ q => gr.at q nt) r')) pr)
    · refine ⟨g1.trans gr, ys, gr.at hd .lst, ?_⟩
      rw [tk, List.filter_cons, if_neg (by rw [e]; exact Bool.false_ne_true), List.filter_nil, List.append_nil]
      exact Paired.imp (fun a b r' => mono H' H4 a b (fun a o nt _ q => gr.at q nt) r') pr
  · have e : i = n := by omega
    subst e
    obtain ⟨g1, ys, hd, pr⟩ := p
    exact .inl ⟨wk.stops H q, done H ys g1 hd pr⟩
theorem Paired.ofAt {α β : Type} {R : α → β → Prop} : ∀ {xs : List α} {ys : List β}, xs.length = ys.length → (∀ (i : Nat) (x : α) (y : β), xs[i]? = some x → ys[i]? = some y → R x y) → Paired R xs ys
  | [], [], _, _ => .nil
  | [], _ :: _, h, _ => by cases h
  | _ :: _, [], h, _ => by cases h
  | x :: xs, y :: ys, h, f => .cons (f 0 x y rfl rfl) (Paired.ofAt (by rw [List.length_cons, List.length_cons] at h; omega) fun i a b ha hb => f (i + 1) a b (by rw [List.getElem?_cons_succ]; exact ha) (by rw [List.getElem?_cons_succ]; exact hb))
theorem hu65 {A : Around} {k : Nat} (hr : Room k A) : A.units + 65 < cLine := by have := hr.un; omega
theorem pair_ix {α β : Type} {R : α → β → Prop} {keep : α → Bool} {ts : List α} {ys : List β} (h : Paired (fun (j : Nat) y => ∃ t, ts[j]? = some t ∧ R t y) ((List.range ts.length).filter fun j => (ts[j]?.map keep).getD false) ys) : Paired R (ts.filter keep) ys := by
  have e : ((List.range ts.length).filter fun j => (ts[j]?.map keep).getD false).map (fun j => ts[j]?) = (ts.filter keep).map some := by
    have e1 : (List.range ts.length).map (fun j => ts[j]?) = ts.map some := by
      refine List.ext_getElem? fun i => ?_
      rw [List.getElem?_map, List.getElem?_map]
      by_cases hi : i < ts.length
      · rw [List.getElem?_range hi, List.getElem?_eq_getElem hi]
        show some ts[i]? = _
        rw [List.getElem?_eq_getElem hi]
        rfl
      · rw [List.getElem?_eq_none (by rw [List.length_range]; omega), List.getElem?_eq_none (by omega)]
        rfl
    have e2 := List.filter_map (p := fun o : Option α => (o.map keep).getD false) (f := fun j => ts[j]?) (l := List.range ts.length)
    have e3 := List.filter_map (p := fun o : Option α => (o.map keep).getD false) (f := some) (l := ts)
    have e4 : ((List.range ts.length).filter fun j => (ts[j]?.map keep).getD false) = List.filter ((fun o : Option α => (o.map keep).getD false) ∘ fun j => ts[j]?) (List.range ts.length) := rfl
    rw [e4, ← e2, e1, e3]
    rfl
  have key : ∀ {l : List Nat} {ys : List β} {us : List α}, Paired (fun (j : Nat) y => ∃ t, ts[j]? = some t ∧ R t y) l ys → l.map (fun j => ts[j]?) = us.map some → Paired R us ys := by
    intro l ys us h
    induction h generalizing us with
    | nil =>
      intro e
      cases us with
      | nil => exact .nil
      | cons _ _ => cases e
    | cons a _ ih =>
      intro e
      cases us with
      | nil => cases e
      | cons u us =>
        obtain ⟨t, ht, r⟩ := a
        rw [List.map_cons, List.map_cons, ht] at e
        have e1 := (List.cons.inj e).1
        cases e1
        exact .cons r (ih (List.cons.inj e).2)
  exact key h e
/-- a comprehension over a list that is told by ts -/
theorem lc_on {α : Type} {Tb : List (Addr × Str)} {J : It} {n : Nat} {GG : Hp → Prop} {xs : List V} {ts : List α} (wk : Walk J n GG (YAt xs)) (hn : n = xs.length) {In : V → α → Prop} (hin : Paired In xs ts) {g : TG} {tt : TT} {te : TE} {vs : List Nat} {σ : L2.St} {H1 : Hp} {D : Addr} {Qd : Hp → Prop} (keep : α → Bool) (R : Hp → α → V → Prop)
    (mono : ∀ H H' t y, (∀ a o, NoTab o → (∀ l, o ≠ .lst l) ∨ a ≠ D → H a = some o → H' a = some o) → R H t y → R H' t y) (hD : H1 D = none) (hz : n ≤ 16777215)
    (hG : ∀ H, Gr Tb H1 H → GG H)
    (turn : ∀ (x : V) (t : α) (H : Hp), In x t → t ∈ ts → Gr Tb H1 H → ∀ (Rk : V → Hp → Prop) (Rs : Hp → Prop), (∀ y H4, keep t = true → Gr Tb H H4 → R H4 t y → Rk y H4) → (∀ H4, keep t = false → Gr Tb H H4 → Rs H4) →
      g x (wipe σ vs) H fun σ2 H2 => wipe σ2 vs = wipe σ vs ∧ tt σ2 H2 fun b H3 => if b = true then te σ2 H3 Rk else Rs H3)
    (done : ∀ H ys, Gr Tb H1 H → H D = some (.lst ys) → Paired (R H) (ts.filter keep) ys → Qd H) :
    ∃ W : Nat → Nat → Hp → Prop, (∃ m, W 0 m (upd H1 D (.lst []))) ∧ ∀ i m H, W i m H →
      (J.stop i H ∧ Qd H) ∨ (J.go i H ∧ ∃ Nx : Hp → Prop, (∀ H', Nx H' → ∃ m', m' < m ∧ W (i + 1) m' H') ∧ ∀ x H', J.yld i H x H' → g x (wipe σ vs) H' fun σ2 H2 => wipe σ2 vs = wipe σ vs ∧ tt σ2 H2 fun b H3 =>
        if b = true then te σ2 H3 fun y H4 => ∃ acc, H4 D = some (.lst acc) ∧ acc.length < sizeLine ∧ Nx (upd H4 D (.lst (acc ++ [y]))) else Nx H3) := by
  have hl : n = ts.length := by rw [hn, Paired.len hin]
  refine lc_relN (Tb := Tb) wk (fun j => (ts[j]?.map keep).getD false) (fun H j y => ∃ t, ts[j]? = some t ∧ R H t y) (fun H H' i y m ⟨t, h1, h2⟩ => ⟨t, h1, mono H H' t y m h2⟩) hD hz hG (fun i H x H' y => by rw [y.1]; exact Gr.refl _) (fun i x H H' hi g1 y Rk Rs hk hs => ?_) (fun H ys g1 hd pr => done H ys g1 hd (by rw [hl] at pr; exact pair_ix pr))
  obtain ⟨rfl, hx⟩ := y
  obtain ⟨t, ht, hi'⟩ := Paired.at hin hx
  have ek : (ts[i]?.map keep).getD false = keep t := by rw [ht]; rfl
  exact turn x t H' hi' (List.mem_of_getElem? ht) g1 Rk Rs (fun y H4 e g r => hk y H4 (ek.trans e) g ⟨t, ht, r⟩) (fun H4 e g => hs H4 (ek.trans e) g)
theorem paired_fn {α β : Type} {F : α → β} : ∀ {ts : List α} {ys : List β}, Paired (fun t y => y = F t) ts ys → ys = ts.map F
  | _, _, .nil => rfl
  | t :: ts, y :: ys, .cons a s => by rw [List.map_cons, ← a, ← paired_fn s]
theorem lc_fn {α : Type} {Tb : List (Addr × Str)} {J : It} {n : Nat} {GG : Hp → Prop} {xs : List V} {ts : List α} (wk : Walk J n GG (YAt xs)) (hn : n = xs.length) {In : V → α → Prop} (hin : Paired In xs ts) {g : TG} {tt : TT} {te : TE} {vs : List Nat} {σ : L2.St} {H1 : Hp} {D : Addr} {Qd : Hp → Prop} (keep : α → Bool) (F : α → V) (hD : H1 D = none) (hz : n ≤ 16777215)
    (hG : ∀ H, Gr Tb H1 H → GG H)
    (turn : ∀ (x : V) (t : α) (H : Hp), In x t → t ∈ ts → Gr Tb H1 H → ∀ (Rk : V → Hp → Prop) (Rs : Hp → Prop), (∀ H4, keep t = true → Gr Tb H H4 → Rk (F t) H4) → (∀ H4, keep t = false → Gr Tb H H4 → Rs H4) →
      g x (wipe σ vs) H fun σ2 H2 => wipe σ2 vs = wipe σ vs ∧ tt σ2 H2 fun b H3 => if b = true then te σ2 H3 Rk else Rs H3)
    (done : ∀ H, Gr Tb H1 H → H D = some (.lst ((ts.filter keep).map F)) → Qd H) :
    ∃ W : Nat → Nat → Hp → Prop, (∃ m, W 0 m (upd H1 D (.lst []))) ∧ ∀ i m H, W i m H →
      (J.stop i H ∧ Qd H) ∨ (J.go i H ∧ ∃ Nx : Hp → Prop, (∀ H', Nx H' → ∃ m', m' < m ∧ W (i + 1) m' H') ∧ ∀ x H', J.yld i H x H' → g x (wipe σ vs) H' fun σ2 H2 => wipe σ2 vs = wipe σ vs ∧ tt σ2 H2 fun b H3 =>
        if b = true then te σ2 H3 fun y H4 => ∃ acc, H4 D = some (.lst acc) ∧ acc.length < sizeLine ∧ Nx (upd H4 D (.lst (acc ++ [y]))) else Nx H3) :=
  lc_on (Tb := Tb) wk hn hin keep (fun _ t y => y = F t) (fun _ _ _ _ _ h => h) hD hz hG
    (fun x t H hi hm g1 Rk Rs hk hs => turn x t H hi hm g1 Rk Rs (fun H4 e g => hk _ H4 e g rfl) hs) (fun H ys g1 hd pr => done H g1 (by rw [hd, paired_fn pr]))
theorem walk_zip3 {K : PySem.W.Frag} {a b c : Addr} {xs ys zs : List V} {n : Nat} (h1 : xs.length = n) (h2 : ys.length = n) (h3 : zs.length = n) : Walk (Itz3 K a b c) n (fun H => SqL K H a xs ∧ SqL K H b ys ∧ SqL K H c zs)
    (fun i H v H' => ∃ T x y z, v = .ref T ∧ H T = none ∧ H' = upd H T (.tup [x, y, z]) ∧ xs[i]? = some x ∧ ys[i]? = some y ∧ zs[i]? = some z) := by
  refine ⟨fun i _ hi q => ?_, fun _ q => ⟨xs, ys, zs, q.1, q.2.1, q.2.2, by omega, by omega, by omega, by omega⟩, fun i H v H' _ q y => ?_⟩
  · have h1 : i < xs.length := by omega
    have h2 : i < ys.length := by omega
    have h3 : i < zs.length := by omega
    exact ⟨xs, ys, zs, xs[i], ys[i], zs[i], q.1, q.2.1, q.2.2, by simp [h1], by simp [h2], by simp [h3]⟩
  · obtain ⟨T, x, z, w, h1, h2, h3, h4, h5, h6⟩ := y
    exact ⟨T, x, z, w, h1, h2, h3, h4 xs q.1, h5 ys q.2.1, h6 zs q.2.2⟩
theorem mtIdxDK {X : Cx} {K : PySem.W.Frag} (e : X.K = K) (hu : X.A.units + 65 < cLine) : MtR X "list.index" (rIndexD K) := by subst e; exact mt_indexD hu
end Sk
/-! the end of a law that asks for repr of lists: the promise of `law` is given where no repr is under way -/
namespace Sk
open PySem PySem.Spec PyProof.Rows L2
/-- what a function keeps when it is called with no repr under way -/
def FnG (P : Program) (w : World) (K : PySem.W.Frag) (mg : Str → Option Value) (base : Heap) (k : Nat) (f : Addr) (fd : FuncData) (ps : List Str) (sp : Sp) : Prop :=
  ∀ (A : Around) (outer : List Env) (s : Shared) (H : Hp) (args : Args) (us : List Value) (vs : List V) (Q : VK) (E : XK), A.guards = some [] → Room k A → Env0 P w K mg base A outer s H → BindsTo s fd args (ps.zip us) → Vals vs us → sp vs H Q E →
    codeAny (model P w) A (.call (.ref f) args) (CR CX0 outer P w H s Q E) s
section
variable {P : Program} {w : World} {K : PySem.W.Frag} {mg : Str → Option Value} {base : Heap}
theorem fnG_of {x qual : Str} {params : Arguments} {body : List Stmt} {scope : Scope} {f : Addr} {fd : FuncData} {N ps : List Str} {k : Nat} {sp : Sp} (F : FunD K x qual params body scope [] [] f fd) (S : FnScope N ps scope) (len : ∀ vs H Q E, sp vs H Q E → vs.length = ps.length)
    (hbody : ∀ (cdv : Value) (A : Around) (outer : List Env) (s : Shared) (H : Hp) (vs : List V) (Q : VK) (E : XK), A.guards = some [] → Room k (A.deeper (envOfC qual scope s.heap.objs.size f cdv)) → sp vs H Q E →
      ∃ t, PSs (cxOf CX0 P w K mg base N qual scope f cdv A outer s H E) body t ∧ t { nx := fun _ H' => Q .non H', rt := Q } (L2.start N vs) H) : FnG P w K mg base (k + 1) f fd ps sp := by
  obtain ⟨oc, od, dV, kV, doc, pm, an, cdv, ct, osl, rfl, lk, hcd, _, _⟩ := F.ex
  intro A outer s H args us vs Q E hg hr e0 hb hv hsp
  have up : ∀ b o, base.get? b = some o → s.heap.get? b = some o := fun b o e => (e0.bs b o e).1
  have kin : K.In s.heap := e0.mod.kin.keeps up
  have cells : ∀ q ∈ ps.zip us, scope.names.lookup q.1 = some .local ∨ (scope.names.lookup q.1 = some .cell ∧ ((cellsFrom (s.heap.objs.size + 1) scope.names []).lookup q.1).isSome = true) := by
    rintro ⟨y, v⟩ hq
    exact (S.par y (List.of_mem_zip hq).1).imp id fun z => ⟨z, PySem.W.cellsFrom_some _ _ _ (.inl z)⟩
  refine codeAny_call_function hr.depth (kin _ _ lk) rfl S.co S.gen rfl (PySem.W.codeRec_of kin hcd) (hb _ _ _ _ ?_)
  refine wpAny_newFunctionEnv_cells S.kind cells fun env he s1 x => ?_
  subst he
  obtain ⟨t, ht, hq⟩ := hbody cdv A outer s H vs Q E hg (hr.deeper _) hsp
  have J := inv_start S hr.hd e0 (len _ _ _ _ hsp) hv x (CX := CX0) (E := E)
  refine ⟨(e0.mod.nolimit.keeps up).keeps x.toInCall.keep, codeAny_func (wpAny_mono (ht.run [] s1 (L2.start N vs) H _ J hq) (fun fl s' hs => ?_) fun _ _ hs => hs)⟩
  cases fl with
  | ret u =>
    obtain ⟨v, σ', H', J', rv, q⟩ := hs
    exact ⟨v, H', J'.os, J'.bare, J'.base, J'.hok, rv, q⟩
  | next =>
    obtain ⟨σ', H', J', q⟩ := hs
    exact ⟨V.non, H', J'.os, J'.bare, J'.base, J'.hok, rfl, q⟩
  | brk =>
    obtain ⟨_, _, _, q⟩ := hs
    exact False.elim q
  | cont =>
    obtain ⟨_, _, _, q⟩ := hs
    exact False.elim q
end
/-! ### the start -/
/-- what is tracked when the law is called: the script (if it is not in K), the empty tables -/
def startH (K : PySem.W.Frag) (a : Addr) (o : Obj) (xs : List V) (ts : List Addr) : Hp := fun b => if b = a ∧ K.lookup a = none then some (.frz o (.lst xs)) else if b ∈ ts then some (.tbl #[]) else none
section
variable {P : Program} {w : World} {K : PySem.W.Frag} {mg mb : Str → Option Value} {k : Nat} {fa a : Addr} {cs : List (Addr × Addr)} {fd : FuncData} {x : Str} {sp : Sp} {s₁ : Shared} {vs : List Value} {ns : List Int}
theorem law_callG (KX : K.In s₁.heap) (hns : s₁.heap.Ns mainGlobals mg) (hb : s₁.heap.Ns builtinsNs mb) (hbb : ∀ x : Str, x ≠ "__name__" → mb x = bootBuiltins x) (hlim : s₁.heap.NoLimit) (hg : s₁.gens = #[])
    (hT : ∀ p ∈ cs, s₁.heap.get? p.2 = some { cls := .none, data := .fields #[] }) (nT : ∀ p ∈ cs, K.lookup p.2 = none) (C : ∀ p ∈ cs, PySem.W.CodeHd s₁.heap p.1 p.2)
    (hbm : ∃ (bm : Addr) (ob : Obj), mg "__builtins__" = some (.ref bm) ∧ bm ≠ builtinsNs ∧ s₁.heap.get? bm = some ob ∧ ob.cls = .type "module" ∧ ob.dict = some builtinsNs ∧ ob.data = .plain)
    (ha : s₁.heap.get? a = some { cls := .type "list", data := .seq vs.toArray }) (hi : IntsAre vs ns) (hl : ns.length ≤ sizeLine) (hr : Room k callerA)
    (F : ∀ base : Heap, K.In base → base.Ns mainGlobals mg → (∀ p ∈ cs, LamX.TabB base mg p.1 p.2) → FnG P w K mg base k fa fd [x] sp) (hbind : ∀ (s : Shared) (u : Value), BindsTo s fd ⟨[u], []⟩ [(x, u)])
    (hsp : ∀ H : Hp, (∀ p ∈ cs, H p.2 = some (.tbl #[])) → (∀ b, H b = none ∨ (∃ o xs, H b = some (.frz o (.lst xs))) ∨ H b = some (.tbl #[])) → SqL K H a (ns.map V.int) → sp [.ref a] H (fun v _ => v = .bl true) fun _ _ _ => False) :
    codeAny (model P w) callerA (.call (.ref fa) ⟨[.ref a], []⟩) (fun r s' => r = .ok (.ret (.bool true)) ∧ OldK s₁.heap s'.heap ∧ s'.os = s₁.os ∧ AllBare s'.gens) s₁ := by
  let O : Obj := { cls := .type "list", data := .seq vs.toArray }
  let ts := cs.map (·.2)
  let H := startH K a O (ns.map V.int) ts
  have tab : ∀ b ∈ ts, s₁.heap.get? b = some { cls := .none, data := .fields #[] } := fun b hb => by
    obtain ⟨p, hp, rfl⟩ := List.mem_map.mp hb
    exact hT p hp
  have an : a ∉ ts := fun z => by
    have e := tab a z
    rw [ha] at e
    cases e
  -- what stands at a place
  have look : ∀ b, (b = a ∧ K.lookup a = none ∧ H b = some (.frz O (.lst (ns.map V.int)))) ∨ (b ∈ ts ∧ H b = some (.tbl #[])) ∨ (H b = none ∧ b ∉ ts ∧ (b = a → K.lookup a ≠ none)) := fun b => by
    by_cases h1 : b = a ∧ K.lookup a = none
    · exact .inl ⟨h1.1, h1.2, if_pos h1⟩
    · by_cases h2 : b ∈ ts
      · exact .inr (.inl ⟨h2, (if_neg h1).trans (if_pos h2)⟩)
      · exact .inr (.inr ⟨(if_neg h1).trans (if_neg h2), h2, fun z n => h1 ⟨z, n⟩⟩)
  have ofTab : ∀ p ∈ cs, H p.2 = some (.tbl #[]) := fun p hp => by
    have hm : p.2 ∈ ts := List.mem_map.mpr ⟨p, hp, rfl⟩
    rcases look p.2 with ⟨e, _⟩ | ⟨_, q⟩ | ⟨_, q, _⟩
    · exact absurd (e ▸ hm) an
    · exact q
    · exact absurd hm q
  -- other objects are not tracked
  have free : ∀ {b : Addr} {o : Obj}, s₁.heap.get? b = some o → (∀ us n, o.data ≠ .seq us n) → o.data ≠ .fields #[] → H b = none := fun {b o} e h1 h2 => by
    rcases look b with ⟨z, _⟩ | ⟨z, _⟩ | ⟨q, _⟩
    · rw [z, ha] at e
      cases e
      exact absurd rfl (h1 _ _)
    · rw [tab b z] at e
      cases e
      exact absurd rfl h2
    · exact q
  have nsUp : ∀ {b : Addr} {m : Str → Option Value}, s₁.heap.Ns b m → (hidT s₁.heap H).Ns b m := fun {b m} ⟨o, es, ep, e, d, r⟩ =>
    ⟨o, es, ep, hidT_get e (free e (fun us n z => by rw [d] at z; cases z) fun z => by rw [d] at z; cases z), d, r⟩
  have kUp : K.In (hidT s₁.heap H) := fun b o e => hidT_get (KX b o e) (by
    rcases look b with ⟨z1, z2, _⟩ | ⟨z, _⟩ | ⟨q, _⟩
    · rw [z1, z2] at e
      cases e
    · obtain ⟨p, hp, rfl⟩ := List.mem_map.mp z
      rw [nT p hp] at e
      cases e
    · exact q)
  have md : L2.Mod K mg (hidT s₁.heap H) := ⟨kUp, nsUp hns, ⟨mb, nsUp hb, hbb⟩, let ⟨mc, h1, h2⟩ := hlim; ⟨mc, nsUp h1, h2⟩⟩
  have tb : ∀ p ∈ cs, LamX.TabB (hidT s₁.heap H) mg p.1 p.2 := fun p hp => by
    obtain ⟨og, _, _, eg, dg, _⟩ := hns
    refine ⟨?_, ?_, fun z => ?_⟩
    · obtain ⟨o, us, file, tf, flags, tg, inF, text, tt, e1, r1, r2, r3, rest⟩ := C p hp
      refine ⟨o, us, file, tf, flags, tg, inF, text, tt, hidT_get e1 (free e1 (fun vs n z => by rw [r2] at z; cases z) fun z => ?_), r1, r2, r3, rest⟩
      rw [r2] at z
      cases z
      simp at r3
    · obtain ⟨bm, ob, b1, b2, b3, b4, b5, b6⟩ := hbm
      refine ⟨bm, ob, b1, b2, fun q => ?_, fun q => ?_, hidT_get b3 (free b3 (fun us n z => by rw [b6] at z; cases z) fun z => by rw [b6] at z; cases z), b4, b5, b6⟩
      · rw [q, eg] at b3
        cases b3
        rw [dg] at b6
        cases b6
      · rw [q, hT p hp] at b3
        cases b3
        cases b6
    · rw [z, hT p hp] at eg
      cases eg
      cases dg
  have hok : HOk P w H s₁.heap := fun b u e => by
    rcases look b with ⟨z1, _, q⟩ | ⟨z, q⟩ | ⟨q, _⟩
    · rw [q] at e
      cases e
      rw [z1]
      exact ⟨ha, by rw [List.length_map]; exact hl, vs, _, vals_ints hi, ha⟩
    · rw [q] at e
      cases e
      exact tab b z
    · rw [q] at e
      cases e
  have hS : SqL K H a (ns.map V.int) := by
    cases hk : K.lookup a with
    | none => exact .inl (.inr ⟨O, if_pos ⟨rfl, hk⟩⟩)
    | some o =>
      have e := KX a o hk
      rw [ha] at e
      cases e
      exact .inr ⟨_, vs.toArray, _, hk, rfl, rfl, rfl, by rw [List.size_toArray, hi.length]; exact hl, by simpa using vals_ints hi⟩
  have e0 : Env0 P w K mg (hidT s₁.heap H) callerA [] s₁ H := ⟨rfl, md, fun b o e => of_hidT e, Nat.le_of_eq (hidT_size _ _), trivial, fun b hb => absurd (show b ∈ ([] : List Addr) from hb) (by simp), hok, .of_eq hg⟩
  have st : ∀ b, H b = none ∨ (∃ o xs, H b = some (.frz o (.lst xs))) ∨ H b = some (.tbl #[]) := fun b => by
    rcases look b with ⟨_, _, q⟩ | ⟨_, q⟩ | ⟨q, _⟩
    · exact .inr (.inl ⟨_, _, q⟩)
    · exact .inr (.inr q)
    · exact .inl q
  refine codeAny_mono (F _ kUp (nsUp hns) tb callerA [] s₁ H ⟨[.ref a], []⟩ [.ref a] [.ref a] _ _ rfl hr e0 (hbind s₁ (.ref a)) (.cons rfl .nil) (hsp H ofTab st hS)) fun r s' h => ?_
  match r, h with
  | .error e, h => exact False.elim h
  | .ok .next, h => exact False.elim h
  | .ok .brk, h => exact False.elim h
  | .ok .cont, h => exact False.elim h
  | .ok (.ret u), h =>
    obtain ⟨v, H', os, bare, un, hok', r', q⟩ := h
    obtain rfl : v = .bl true := q
    obtain rfl : u = Value.bool true := r'
    -- what became of each object
    have now : ∀ b o, s₁.heap.get? b = some o → (b ∉ ts ∧ s'.heap.get? b = some o) ∨ ∃ more : Array Value, b ∈ ts ∧ s'.heap.get? b = some { cls := .none, data := .fields more } := fun b o e => by
      rcases look b with ⟨z, _, q⟩ | ⟨z, q⟩ | ⟨q, z, _⟩
      · obtain ⟨e2, _⟩ := hok' b _ (un.frzs b O _ q)
        rw [z, ha] at e
        cases e
        exact .inl ⟨z ▸ an, e2⟩
      · obtain ⟨more, z2⟩ := un.tbls b #[] q
        exact .inr ⟨_, z, hok' b _ z2⟩
      · exact .inl ⟨z, un.keep b o e q (by intro y; exact absurd (show b ∈ ([] : List Addr) from y) (by simp)) (by simp)⟩
    refine ⟨rfl, ⟨fun b o e => ?_, fun b o e => ?_⟩, os, bare⟩
    · rcases now b o e with ⟨_, y⟩ | ⟨more, z, y⟩
      · exact .inl y
      · obtain ⟨p, hp, rfl⟩ := List.mem_map.mp z
        rw [hT p hp] at e
        cases e
        exact .inr (.inl ⟨((C p hp).tab (hT p hp)).isCodeTable, rfl, #[], more, rfl, by rw [Array.empty_append]; exact y⟩)
    · rcases now b o e with ⟨_, y⟩ | ⟨more, _, y⟩
      · exact ⟨o, y⟩
      · exact ⟨_, y⟩
end
/-! ### the law -/
/-- what is known of the law's promise at the head's heap h -/
def LawG (l : PySem.W.OpenLaw) (w : World) (K : PySem.W.Frag) (k n : Nat) (x : Str) (mg : Str → Option Value) (fa : Addr) (h : Heap) : Prop :=
  ∃ (fd : FuncData) (cs : List (Addr × Addr)) (sp : Sp), (∀ p ∈ cs, h.get? p.2 = some { cls := .none, data := .fields #[] }) ∧ (∀ p ∈ cs, K.lookup p.2 = none) ∧ (∀ p ∈ cs, PySem.W.CodeHd h p.1 p.2) ∧ (∀ (s : Shared) (u : Value), BindsTo s fd ⟨[u], []⟩ [(x, u)]) ∧
    (∀ (H : Hp) (a : Addr) (ns : List Int), ns.length ≤ n → (∀ z ∈ ns, Builtin.Int.intBits z ≤ 1048576) → (∀ p ∈ cs, H p.2 = some (.tbl #[])) → (∀ b, H b = none ∨ (∃ o xs, H b = some (.frz o (.lst xs))) ∨ H b = some (.tbl #[])) → SqL K H a (ns.map V.int) → sp [.ref a] H (fun v _ => v = .bl true) fun _ _ _ => False) ∧
    ∀ base : Heap, K.In base → base.Ns mainGlobals mg → (∀ p ∈ cs, LamX.TabB base mg p.1 p.2) → FnG l.prog w K mg base k fa fd [x] sp
theorem walk_ofG {l : PySem.W.OpenLaw} {n k : Nat} {q : Program} {loose : List Str} {XP : (Str → Option Value) → Heap → Prop} {YP : World → Heap → Prop} {d : DefRec} {x : Str}
    (hn : l.most = some n) (hn2 : n ≤ sizeLine) (hdf : d.params.defaults = []) (hr : Room k callerA)
    (F : ∀ (w : World) (mg : Str → Option Value) (fa : Addr) (h : Heap), YP w h → h.Ns mainGlobals mg → mg d.name = some (.ref fa) → ∃ K : PySem.W.Frag, K.In h ∧ LawG l w K k n x mg fa h) :
    PySem.W.WalkO q loose XP YP l.row.toRowW d [] (fun f vs => PySem.call f vs) := by
  refine Att.attach_callB hn hdf fun w s₀ s₁ mg mb fa o pm cd doc a vs ns G Y ho hd hcd hmg hobj hints hlen hbits hg => ?_
  obtain ⟨K, KX, fd, cs, sp, hT, nT, C, hb, hsp, hF⟩ := F w mg fa _ Y G.T.g hmg
  exact law_callG KX G.T.g G.T.b G.T.builtins G.T.nolimit hg hT nT C G.T.bmain hobj hints (Nat.le_trans hlen hn2) hr hF hb (fun H hH hst hS => hsp H a ns hlen hbits hH hst hS)
/-! ### from the head's facts -/
theorem lam_code {K : PySem.W.Frag} {x qual : Str} {params : Arguments} {body : List Stmt} {scope : Scope} {dvs : List V} {kws : List (Str × V)} {p : Str × Option Str} {fd : FuncData} (F : FunD K x qual params body scope dvs kws (He.fAd K p) fd) :
    ∀ (fd2 : FuncData) (oc : Value) (od : Option Addr) (osl : Array (Option Value)), K.lookup (He.fAd K p) = some ⟨oc, od, .func fd2, osl⟩ → fd2.code = .ref (He.codeOf K p) := by
  obtain ⟨oc, od, dV, kV, doc, pm, an, cdv, ct, osl, rfl, lk, hcd, _, _⟩ := F.ex
  obtain ⟨c, rfl⟩ := He.codeIn_ref hcd
  intro fd2 oc2 od2 osl2 lk2
  rw [lk] at lk2
  cases lk2
  rw [He.codeOf_eq lk rfl]
theorem tabs_start {H : Hp} {T : List (Addr × Str)} (h : ∀ p ∈ T, H p.1 = some (.tbl #[])) : LamX.Tabs T H := fun p hp => ⟨#[], h p hp, trivial, fun _ _ e => by cases e⟩
theorem Vals.getD {vs : List V} {us : List Value} (r : Vals vs us) (i : Nat) : RelV (vs.getD i .non) (us.getD i .none) := by
  cases h : vs[i]? with
  | none =>
    have h2 : us[i]? = none := by
      rw [List.getElem?_eq_none_iff] at h ⊢
      rw [← r.length]
      exact h
    rw [List.getD_eq_getElem?_getD, List.getD_eq_getElem?_getD, h, h2]
    rfl
  | some v =>
    obtain ⟨u, hu, ru⟩ := r.get h
    rw [List.getD_eq_getElem?_getD, List.getD_eq_getElem?_getD, h, hu]
    exact ru
/-- keywords, no defaults -/
theorem kbn_of {K : PySem.W.Frag} {x qual : Str} {params : Arguments} {body : List Stmt} {scope : Scope} {f : Addr} {fd : FuncData} {ps ks : List Str} {n : Nat} {g : List Value → List Value → List Value} {gV : List V → List V → List V} (F : FunD K x qual params body scope [] [] f fd)
    (h : ∀ (kV doc pm : Value) (an : Option Addr) (cdv ct : Value) (us ws : List Value), us.length = n → ws.length = ks.length → bindArgs (PySem.W.fnOf x qual params body scope .none kV doc pm an cdv ct) ⟨us, ks.zip ws⟩ = pure (ps.zip (g us ws)))
    (rel : ∀ {vs : List V} {us : List Value} {zs : List V} {ws : List Value}, Vals vs us → Vals zs ws → Vals (gV vs zs) (g us ws)) : KBn K fd ps n ks g gV := by
  obtain ⟨oc, od, dV, kV, doc, pm, an, cdv, ct, osl, rfl, lk, hcd, hD, hK⟩ := F.ex
  rcases hD with ⟨_, rfl⟩ | ⟨e, _⟩
  · exact ⟨fun s us ws _ l1 l2 => .of_eq (h kV doc pm an cdv ct us ws l1 l2), rel⟩
  · exact absurd rfl e
/-- the same for a def with defaults: each parameter is given -/
theorem kbn_ofD {K : PySem.W.Frag} {x qual : Str} {params : Arguments} {body : List Stmt} {scope : Scope} {dvs : List V} {f : Addr} {fd : FuncData} {ps ks : List Str} {n : Nat} {g : List Value → List Value → List Value} {gV : List V → List V → List V} (F : FunD K x qual params body scope dvs [] f fd) (hd : dvs ≠ [])
    (h : ∀ (T : Addr) (kV doc pm : Value) (an : Option Addr) (cdv ct : Value) (us its ws : List Value), us.length = n → its.length = dvs.length → ws.length = ks.length →
      ∃ k, bindArgs (PySem.W.fnOf x qual params body scope (.ref T) kV doc pm an cdv ct) ⟨us, ks.zip ws⟩ = seqItems? (.ref T) >>= k ∧ k (some its.toArray) = pure (ps.zip (g us ws)))
    (rel : ∀ {vs : List V} {us : List Value} {zs : List V} {ws : List Value}, Vals vs us → Vals zs ws → Vals (gV vs zs) (g us ws)) : KBn K fd ps n ks g gV := by
  obtain ⟨oc, od, dV, kV, doc, pm, an, cdv, ct, osl, rfl, lk, hcd, hD, hK⟩ := F.ex
  rcases hD with ⟨e, _⟩ | ⟨_, T, o, its, m, rfl, lT, oT, rT⟩
  · exact absurd e hd
  · refine ⟨fun s us ws X l1 l2 => ?_, rel⟩
    obtain ⟨k, e1, e2⟩ := h T kV doc pm an cdv ct us its ws l1 rT.length.symm l2
    refine BindsTo.of_looks fun M => ?_
    rw [e1]
    exact looks_items X lT oT (.of_pure e2)
end Sk
/-! a call of an own function whose promise holds where no repr is under way -/
namespace Sk
open PySem PySem.Spec PyProof.Rows L2
structure FnGx (P : Program) (w : World) (K : PySem.W.Frag) (mg : Str → Option Value) (base : Heap) (x : Str) (k : Nat) (ps : List Str) (sp : Sp) : Prop where
  ex : ∃ (f : Addr) (fd : FuncData), FnG P w K mg base k f fd ps sp ∧ (∀ vs H Q E, sp vs H Q E → vs.length = ps.length) ∧ mg x = some (.ref f) ∧ PySem.W.keepIn K (.ref f) = true ∧ Binds K fd ps []
section
variable {X : Cx} {x : Str} {k : Nat} {ps : List Str} {sp : Sp} {e : Expr} {es : List Expr} {t : TA} {p pos : Pos}
theorem pe_fnG (F : FnGx X.prog X.w X.K X.mg X.base x k ps sp) (hgd : X.A.guards = some []) (hr : Room k X.A) (ha : PA X (e :: es) t) (hg : Gl X x := by rfl) (hdb : (x == ("__debug__" : Str)) = false := by decide)
    (he : starEach (e :: es) X.env = (false, eval e X.env) :: starEach es X.env := by rfl) (hpl : (backTo pos (starEach es X.env)).any (·.1) = false := by rfl) : PE X (.Call (.Name x p) (e :: es) [] pos) (tCall sp [] E0 t) := by
  obtain ⟨f, fd, F1, hlen, hm, hk, hb⟩ := F.ex
  refine ⟨fun pins s σ H Q I h => ?_⟩
  refine wpAny_Call_Name_kw (ld_glob I hg hm ?_ hdb)
  refine PySem.W.callWith_K (h₀ := X.base) I.ok.mod.kin hk (thn (ha.run pos pins s σ H _ I h) fun us s1 ⟨vs, H1, I1, r, q⟩ => ⟨I1.kIn, ?_⟩) he hpl
  have r2 : Vals (vs ++ []) (us ++ []) := r.append .nil
  have hl : (us ++ []).length = ps.length := by rw [← r2.length]; exact hlen _ _ _ _ q
  refine wpAny_call (codeAny_mono (F1 X.A X.stack s1 H1 ⟨us, []⟩ (us ++ []) (vs ++ []) Q E0 hgd hr I1.env0 (hb s1 us I1.kIn hl) r2 q) fun r s' hq => ?_)
  cases r with
  | error e => exact (pass0 : Passes CX0 X E0) pins σ H1 s1 e s' I1 hq
  | ok fl =>
    cases fl with
    | ret u => exact I1.after hq
    | next => exact False.elim hq
    | brk => exact False.elim hq
    | cont => exact False.elim hq
end
end Sk
/-! d[k] as a part of a target -/
namespace Sk
open PySem PySem.Spec PyProof.Rows L2
def sSetD : TSet := fun o i v H Q => ∃ a H4, o = .ref a ∧ DPut H a i v H4 ∧ Q H4
theorem set_dict {X : Cx} (hu : X.A.units + 1 < cLine) : PSet X sSetD := by
  intro pins s σ H o i v ov iv u Q I ro ri rv h
  obtain ⟨a, H4, rfl, g, q⟩ := h
  obtain rfl : ov = Value.ref a := ro
  exact d_setItem hu I g ri rv fun s4 I4 => ⟨H4, I4, q⟩
/-! ### how often a truth value stands in a list -/
def isB (k : Bool) : Value → Bool
  | .bool b => b == k
  | _ => false
theorem bools_of : ∀ {bs : List Bool} {its : List Value}, Vals (bs.map V.bl) its → its = bs.map Value.bool
  | [], _, .nil => rfl
  | b :: bs, _, .cons h t => by
    rw [List.map_cons, ← bools_of t]
    congr 1
theorem isB_count (k : Bool) : ∀ bs : List Bool, (bs.map Value.bool).countP (isB k) = bs.count k
  | [] => rfl
  | b :: bs => by
    rw [List.map_cons, List.countP_cons, List.count_cons, isB_count k bs]
    rfl
def rCntB (K : PySem.W.Frag) : V → List V → Hp → VK → Prop := fun x xs H Q => ∃ (p : Addr) (bs : List Bool) (k : Bool), x = .ref p ∧ xs = [.bl k] ∧ SqL K H p (bs.map V.bl) ∧ Q (.int (bs.count k : Nat)) H
theorem mt_cntB {X : Cx} : MtR X "list.count" (rCntB X.K) := by
  intro pins s σ H x xs v us Q I rx rxs h
  obtain ⟨p, bs, k, rfl, rfl, hs, q⟩ := h
  cases rx
  obtain ⟨u, rfl, ru⟩ := rxs.one
  cases (show u = Value.bool k from ru)
  obtain ⟨its, rv, ⟨⟨cls, dd, data, sl⟩, n, ho, hc, hdn, hd⟩, hlen⟩ := I.list hs
  simp only at hc hd
  subst hc hd
  have hi := bools_of rv
  subst hi
  refine call_meets PySem.F.slot_list_count ⟨_, ho, rfl⟩ PySem.F.entry_list_count (PySem.F.args_list_count_2 _ _)
    (SeqAt.list_countAt p (bs.map Value.bool).toArray n dd sl (.bool k) (isB k)) ⟨ho, fun y hy => ?_, ?_⟩
  · have hy : y ∈ bs.map Value.bool := by simpa using hy
    obtain ⟨b, _, rfl⟩ := List.mem_map.mp hy
    exact SeqAt.EqAt.bool_bool b k
  have ec : (bs.map Value.bool).toArray.toList.countP (isB k) = bs.count k := isB_count k bs
  refine ⟨.int (bs.count k : Nat), H, I.tok _, ⟨s.toks, ?_⟩, q⟩
  show Value.int ((((bs.map Value.bool).toArray.toList.countP (isB k) : Nat)) : Int) s.toks = Value.int ((bs.count k : Nat) : Int) s.toks
  rw [ec]
end Sk
namespace Sk
open PySem PySem.Spec PyProof.Rows L2
def topS (i : Nat) : Stmt := PySem.Challenge.pw_splitstock_k24_whole_best_of_all_splits.main.body.getD i (.Pass ⟨0, 0, 0, 0⟩)
abbrev FnP (K : PySem.W.Frag) (x : Str) (st : Stmt) (f : Addr) (fd : FuncData) : Prop := FunD K x x (defArgs st) (defBody st) (defScope st) [] [] f fd
structure Tx (K : PySem.W.Frag) (mg : Str → Option Value) : Prop where
  c_LETTERS : ∃ t, mg "LETTERS" = some (.str "abcdefghijklmnopqrstuvwxyz" t)
  c_MOST_LETTERS : ∃ t, mg "MOST_LETTERS" = some (.int 8 t)
  n_ValueError : mg "ValueError" = none
  n_abs : mg "abs" = none
  n_all : mg "all" = none
  n_any : mg "any" = none
  n_bool : mg "bool" = none
  n_dict : mg "dict" = none
  n_enumerate : mg "enumerate" = none
  n_int : mg "int" = none
  n_isinstance : mg "isinstance" = none
  n_len : mg "len" = none
  n_list : mg "list" = none
  n_max : mg "max" = none
  n_min : mg "min" = none
  n_range : mg "range" = none
  n_repr : mg "repr" = none
  n_reversed : mg "reversed" = none
  n_set : mg "set" = none
  n_sorted : mg "sorted" = none
  n_str : mg "str" = none
  n_sum : mg "sum" = none
  n_tuple : mg "tuple" = none
  n_type : mg "type" = none
  n_zip : mg "zip" = none
end Sk
namespace Sk
open PySem PySem.Spec PyProof.Rows L2
abbrev s_is_name : Stmt := topS 9
abbrev N_is_name : List Str := ["text", "sign"]
theorem sc_is_name : FnScope N_is_name ["text"] (defScope s_is_name) := ⟨rfl, rfl, rfl, by decide +kernel, rfl, by decide +kernel, by decide +kernel⟩
def letters : Str := "abcdefghijklmnopqrstuvwxyz"
/-- a name of one to eight small letters -/
def nameB (x : Str) : Bool := decide (1 ≤ x.length) && (decide (x.length ≤ 8) && x.cps.toList.all fun c => decide (c ∈ letters.cps.toList))
def sp_is_name (Tb : List (Addr × Str)) (K : PySem.W.Frag) : Sp := fun vs H Q _ => ∃ x : Str, vs = [.str x] ∧ x.length ≤ 1000000 ∧ ∀ H', Gr Tb H H' → Q (.bl (nameB x)) H'
section
variable {P : Program} {w : World} {K : PySem.W.Frag} {mg : Str → Option Value} {base : Heap} {Tb : List (Addr × Str)}
theorem ok_is_name {f : Addr} {fd : FuncData} (F : FnP K "is_name" s_is_name f fd) (T : Tx K mg) : FnOk P w K mg base CX0 1 f fd ["text"] (sp_is_name Tb K) := by
  refine F.ok sc_is_name (fun vs H Q E h => ?_) (fun cdv A outer s H vs Q E hr h => ?_)
  · obtain ⟨_, rfl, _⟩ := h
    rfl
  · obtain ⟨x, rfl, hz, k⟩ := h
    refine ⟨_, PSs.nox (pss_one (ps_ret (pe_and (pe_chain op_le op_le pe_int (pe_callB call_len_str (by rfl) T.n_len (by decide +kernel) (pa_cons (pv 0) pa_nil)) (pe_gi T.c_MOST_LETTERS)) (pe_one (pe_callB (crAll (K := K) rfl rfl) (by rfl) T.n_all (by decide +kernel) (pa_cons (pe_lc (own := [("sign", 1)]) (g := (gName 1)) (tt := tYes) rfl sc_is_name.nd (pi_str (pv 0)) (blkOk_by (N := N_is_name) (sc := (defScope s_is_name)) (by decide +kernel)) (fun _ _ _ _ _ => (pg_name (i := 1) sc_is_name.nd rfl (Or.inl rfl))) (fun _ _ _ _ _ => pts_nil) (fun _ _ _ _ _ => (pe_cmpR op_in_sign (pv 1) (pe_gs T.c_LETTERS) rfl))) pa_nil)))))), ?_⟩
    refine ⟨_, rfl, x, rfl, Nat.le_trans hz (by decide), _, _, rfl, rfl, _, rfl, ?_⟩
    have k0 : ∀ b : Bool, nameB x = b → Q (.bl b) H := fun b e => by
      rw [← e]
      exact k H (Gr.refl H)
    refine ite2 (fun h1 => ?_) (fun h1 => ⟨_, rfl, iteF (k0 false ?_)⟩)
    · refine ⟨_, _, rfl, rfl, _, rfl, ite2 (fun h2 => ?_) (fun h2 => k0 false ?_)⟩
      · refine rd_allIn (Tb := Tb) rfl rfl (by show 1 < 2; decide) hz fun H' g => ?_
        have e : (x.cps.toList.all fun c => decide (c ∈ letters.cps.toList)) = nameB x := by
          unfold nameB
          rw [decide_eq_true (show 1 ≤ x.length by have := of_decide_eq_true h1; omega), decide_eq_true (show x.length ≤ 8 by have := of_decide_eq_true h2; omega)]
          rfl
        show Q (.bl (x.cps.toList.all fun c => decide (c ∈ letters.cps.toList))) H'
        rw [e]
        exact k H' g
      · have : ¬ x.length ≤ 8 := fun z => h2 (decide_eq_true (show (x.length : Int) ≤ 8 by omega))
        unfold nameB
        rw [decide_eq_false this]
        simp
    · have : ¬ 1 ≤ x.length := fun z => h1 (decide_eq_true (show (1 : Int) ≤ x.length by omega))
      unfold nameB
      rw [decide_eq_false this]
      rfl
end
end Sk
namespace Sk
open PySem PySem.Spec PyProof.Rows L2
abbrev s_is_entry : Stmt := topS 10
abbrev N_is_entry : List Str := ["entry", "earlier_names", "weights", "name", "weight", "parts", "part"]
theorem sc_is_entry : FnScope N_is_entry ["entry", "earlier_names", "weights"] (defScope s_is_entry) := ⟨rfl, rfl, rfl, by decide +kernel, rfl, by decide +kernel, by decide +kernel⟩
/-- an entry is valid, given the names ahead and all weights -/
def entB (e : Ent) (ahead : List Str) (ws : Num) : Bool := nameB e.name && (!decide (e.name ∈ ahead) && (!decide (e.w < 1) && e.parts.all fun p => match get? ws p with | some w => decide (w < e.w) | none => false))
def sp_is_entry (Tb : List (Addr × Str)) (K : PySem.W.Frag) : Sp := fun vs H Q _ => ∃ (v : V) (e : Ent) (l d : Addr) (ahead : List Str) (ws : Num), vs = [v, .ref l, .ref d] ∧ EntAt H v e ∧ H l = some (.lst (ahead.map V.str)) ∧ H d = some (.dK (dS ws)) ∧ e.name.length ≤ 1000000 ∧ e.parts.length ≤ 1000000 ∧ ∀ H', Gr Tb H H' → Q (.bl (entB e ahead ws)) H'
theorem flat_strs (l : List Str) : (l.map V.str).all flatV = true := by
  rw [List.all_map]
  exact List.all_eq_true.mpr fun _ _ => rfl
theorem inV_strs (x : Str) (l : List Str) : inV (.str x) (l.map V.str) = decide (x ∈ l) := by
  unfold inV
  rw [List.any_map]
  induction l with
  | nil => rfl
  | cons y l ih =>
    rw [List.any_cons, ih]
    show (eqV (V.str y) (V.str x) || _) = _
    have : eqV (V.str y) (V.str x) = decide (y = x) := by
      unfold eqV
      rfl
    rw [this]
    by_cases e : x = y
    · subst e
      simp
    · have e2 : ¬ y = x := fun z => e z.symm
      simp [e, e2]
section
variable {P : Program} {w : World} {K : PySem.W.Frag} {mg : Str → Option Value} {base : Heap} {Tb : List (Addr × Str)}
theorem ok_is_entry {f : Addr} {fd : FuncData} (F : FnP K "is_entry" s_is_entry f fd) (T : Tx K mg) (G_is_name : Fn P w K mg base "is_name" 1 ["text"] (sp_is_name Tb K)) : FnOk P w K mg base CX0 2 f fd ["entry", "earlier_names", "weights"] (sp_is_entry Tb K) := by
  refine F.ok sc_is_entry (fun vs H Q E h => ?_) (fun cdv A outer s H vs Q E hr h => ?_)
  · obtain ⟨_, _, _, _, _, _, rfl, _⟩ := h
    rfl
  · obtain ⟨v, e, l, d, ahead, ws, rfl, ⟨t, lp, rfl, ht, hlp⟩, hl, hd, hz, hz2, k⟩ := h
    refine ⟨_, PSs.nox (pss_cons (ps_asg (pv 0) (pg_tup rfl (pgs_cons (pg_name (i := 3) sc_is_entry.nd rfl (Or.inl rfl)) (pgs_cons (pg_name (i := 4) sc_is_entry.nd rfl (Or.inr rfl)) (pgs_cons (pg_name (i := 5) sc_is_entry.nd rfl (Or.inl rfl)) pgs_nil)))))
      (pss_cons (ps_if (PW.pt (pw_or (pt_not (pt_val (pe_fn G_is_name (hr.mono (by decide)) (pa_cons (pv 3) pa_nil)))) (pw_or (pt_cmpR (opIn (K := K) rfl) (pv 3) (pv 1) (by with_unfolding_all rfl)) (pw_or1 (pt_cmpR op_lt (pv 4) pe_int (nomark _)))))) (pss_one (ps_ret pe_bl)) pss_nil)
      (pss_one (ps_ret (pe_callB (crAll (K := K) rfl rfl) (by rfl) T.n_all (by decide +kernel) (pa_cons (pe_lc (own := [("part", 6)]) (g := (gName 6)) (tt := tYes) rfl sc_is_entry.nd (piL (K := K) rfl (pv 5)) (blkOk_by (N := N_is_entry) (sc := (defScope s_is_entry)) (by decide +kernel)) (fun _ _ _ _ _ => (pg_name (i := 6) sc_is_entry.nd rfl (Or.inl rfl))) (fun _ _ _ _ _ => pts_nil) (fun _ _ _ _ _ => (pe_and (pe_cmp (pc_din (hu_of hr) (pv 6) (pv 2))) (pe_one (pe_cmpR op_lt (pe_dget (hu_of hr) (pv 2) (pv 6) (fun _ _ => rfl)) (pv 4) (nomark _)))))) pa_nil)))))), ?_⟩
    refine ⟨_, rfl, gtup3 ht ?_⟩
    refine ⟨_, rfl, e.name, rfl, hz, fun H1 g1 => ⟨_, rfl, ?_⟩⟩
    have k0 : ∀ H' b, Gr Tb H H' → entB e ahead ws = b → Q (.bl b) H' := fun H' b g q => by
      rw [← q]
      exact k H' g
    show (if (!nameB e.name) = true then _ else _)
    refine ite2 (fun c1 => ?_) (fun c1 => ?_)
    · refine k0 _ _ g1 ?_
      unfold entB
      rw [Bool.not_eq_true'] at c1
      rw [c1]
      rfl
    have n1 : nameB e.name = true := by simpa using c1
    refine ⟨_, rfl, _, rfl, l, _, rfl, .inl (SqL.of (g1.at hl .lst)), rfl, flat_strs _, _, rfl, ?_⟩
    rw [inV_strs]
    refine ite2 (fun c2 => ?_) (fun c2 => ?_)
    · refine k0 _ _ g1 ?_
      unfold entB
      have : decide (e.name ∈ ahead) = true := c2
      rw [n1, this]
      rfl
    have n2 : decide (e.name ∈ ahead) = false := by simpa using c2
    refine ⟨_, rfl, _, _, rfl, rfl, _, rfl, ?_⟩
    refine ite2 (fun c3 => ?_) (fun c3 => ?_)
    · refine k0 _ _ g1 ?_
      unfold entB
      have : decide (e.w < 1) = true := c3
      rw [n1, n2, this]
      rfl
    have n3 : decide (e.w < 1) = false := by simpa using c3
    refine ⟨_, rfl, lp, rfl, ⟨_, SqL.of (g1.at hlp .lst)⟩, fun D hD => lc_fm (Tb := Tb) (xs := e.parts.map V.str) walk_list rfl (fun v => match v with | .str p => some (.bl (match get? ws p with | some w => decide (w < e.w) | none => false)) | _ => none) hD ?_ (fun H' g => SqL.of ((g1.trans g).at hlp .lst)) (fun j v H' hv g Rk Rs hk hs => ?_) fun H' g hD' => ?_⟩
    · rw [List.length_map]
      omega
    · rw [List.getElem?_map] at hv
      cases hc : e.parts[j]? with
      | none =>
        rw [hc] at hv
        cases hv
      | some p =>
        rw [hc] at hv
        cases hv
        have hd' := (g1.trans g).at hd .dK
        refine ⟨rfl, _, rfl, _, rfl, d, _, rfl, DGet.k (k := Sum.inr p) hd', _, rfl, ?_⟩
        rw [valV_dS]
        cases hg : get? ws p with
        | none => exact hk _ _ (by simp only [hg]) (Gr.refl _)
        | some w =>
          have dg : DGet H' d (V.str p) (some (V.int w)) := by
            have z := DGet.k (k := Sum.inr p) hd'
            rw [valV_dS, hg] at z
            exact z
          refine ⟨_, rfl, _, rfl, d, _, rfl, dg, _, rfl, _, _, rfl, rfl, hk _ _ ?_ (Gr.refl _)⟩
          simp only [hg]
    · refine ⟨D, e.parts.map fun p => match get? ws p with | some w => decide (w < e.w) | none => false, rfl, ?_, ?_⟩
      · have e1 : (e.parts.map V.str).filterMap (fun v => match v with | .str p => some (V.bl (match get? ws p with | some w => decide (w < e.w) | none => false)) | _ => none) = (e.parts.map fun p => match get? ws p with | some w => decide (w < e.w) | none => false).map V.bl := by
          rw [List.filterMap_map, List.map_map, ← List.filterMap_eq_map]
          rfl
        rw [e1] at hD'
        exact SqL.of hD'
      · refine k0 _ _ (g1.trans g) ?_
        unfold entB
        rw [n1, n2, n3, List.all_map]
        rfl
end
end Sk
namespace Sk
open PySem PySem.Spec PyProof.Rows L2
abbrev s_check_catalogue : Stmt := topS 11
abbrev N_check_catalogue : List Str := ["catalogue", "weights", "earlier_names", "name", "weight", "parts", "index", "entry"]
theorem sc_check_catalogue : FnScope N_check_catalogue ["catalogue"] (defScope s_check_catalogue) := ⟨rfl, rfl, rfl, by decide +kernel, rfl, by decide +kernel, by decide +kernel⟩
/-- a valid catalogue -/
structure Valid (es : List Ent) : Prop where
  ne : es ≠ []
  names : ∀ e ∈ es, nameB e.name = true
  nodup : (es.map (·.name)).Nodup
  pos : ∀ e ∈ es, 1 ≤ e.w
  lighter : ∀ e ∈ es, ∀ p ∈ e.parts, ∃ e' ∈ es, e'.name = p ∧ e'.w < e.w
  few : es.length ≤ 100000
  fewp : ∀ e ∈ es, e.parts.length ≤ 100000
theorem Valid.known {es : List Ent} (v : Valid es) : ∀ e ∈ es, ∀ p ∈ e.parts, p ∈ es.map (·.name) := fun e he p hp => by
  obtain ⟨e', h1, h2, _⟩ := v.lighter e he p hp
  exact List.mem_map.mpr ⟨e', h1, h2⟩
theorem Valid.perm {es es' : List Ent} (p : es'.Perm es) (v : Valid es) : Valid es' :=
  ⟨fun z => v.ne (by subst z; exact (List.nil_perm.mp p)), fun e he => v.names e (p.mem_iff.mp he), ((p.map _).nodup_iff).mpr v.nodup, fun e he => v.pos e (p.mem_iff.mp he),
    fun e he q hq => by
      obtain ⟨e', h1, h2⟩ := v.lighter e (p.mem_iff.mp he) q hq
      exact ⟨e', p.mem_iff.mpr h1, h2⟩, by rw [p.length_eq]; exact v.few, fun e he => v.fewp e (p.mem_iff.mp he)⟩
def sp_check_catalogue (Tb : List (Addr × Str)) (K : PySem.W.Frag) : Sp := fun vs H Q _ => ∃ (a : Addr) (xs : List V) (es : List Ent), vs = [.ref a] ∧ SqL K H a xs ∧ CatAt H xs es ∧ Valid es ∧ ∀ H', Gr Tb H H' → Q .non H'
/-- the weights by name -/
def wts (es : List Ent) : Num := es.map fun e => (e.name, e.w)
theorem get_none {d : Num} {x : Str} (h : x ∉ d.map (·.1)) : get? d x = none := by
  unfold get?
  rw [List.find?_eq_none.mpr fun q hq => by
    rw [decide_eq_true_eq]
    exact fun e => h (List.mem_map.mpr ⟨q, hq, e⟩)]
  rfl
theorem get_some {d : Num} {x : Str} {i : Int} (nd : (d.map (·.1)).Nodup) (h : (x, i) ∈ d) : get? d x = some i := by
  unfold get?
  induction d with
  | nil => cases h
  | cons q d ih =>
    rw [List.map_cons, List.nodup_cons] at nd
    rcases List.mem_cons.mp h with e | h
    · subst e
      simp
    · have : q.1 ≠ x := fun e => nd.1 (List.mem_map.mpr ⟨_, h, e.symm⟩)
      rw [List.find?_cons_of_neg (by simpa using this)]
      exact ih nd.2 h
theorem put_new {d : Num} {x : Str} {i : Int} (h : x ∉ d.map (·.1)) : put d x i = d ++ [(x, i)] := by
  unfold put
  rw [if_neg]
  rw [List.any_eq_true]
  rintro ⟨q, hq, e⟩
  exact h (List.mem_map.mpr ⟨q, hq, by simpa using e⟩)
theorem wts_names (es : List Ent) : (wts es).map (·.1) = es.map (·.name) := by
  unfold wts
  rw [List.map_map]
  rfl
theorem take_notin {es : List Ent} (nd : (es.map (·.name)).Nodup) {i : Nat} {e : Ent} (h : es[i]? = some e) : e.name ∉ (es.take i).map (·.name) := by
  intro hm
  rw [List.map_take] at hm
  obtain ⟨j, hj⟩ := List.mem_iff_getElem?.mp hm
  have h1 : (es.map (·.name))[i]? = some e.name := by rw [List.getElem?_map, h]; rfl
  have hji : j < i := by
    rcases Nat.lt_or_ge j i with q | q
    · exact q
    · rw [List.getElem?_take, if_neg (by omega)] at hj
      cases hj
  rw [List.getElem?_take_of_lt hji] at hj
  have := nodup_ix nd hj h1
  omega
theorem take_snoc {α : Type} {es : List α} {i : Nat} {e : α} (h : es[i]? = some e) : es.take (i + 1) = es.take i ++ [e] := by
  rw [List.take_add_one, h]
  rfl
theorem len_ok {x : Str} (h : nameB x = true) : x.length ≤ 8 := by
  unfold nameB at h
  simp only [Bool.and_eq_true, decide_eq_true_eq] at h
  exact h.2.1
theorem entB_valid {es : List Ent} (v : Valid es) {i : Nat} {e : Ent} (h : es[i]? = some e) : entB e ((es.take i).map (·.name)) (wts es) = true := by
  have hm := List.mem_of_getElem? h
  unfold entB
  rw [v.names e hm, decide_eq_false (take_notin v.nodup h), decide_eq_false (show ¬ e.w < 1 by have := v.pos e hm; omega)]
  simp only [Bool.not_false, Bool.true_and, List.all_eq_true]
  intro p hp
  obtain ⟨e', he', hn, hw⟩ := v.lighter e hm p hp
  have : get? (wts es) p = some e'.w := get_some (by rw [wts_names]; exact v.nodup) (by rw [← hn]; exact List.mem_map.mpr ⟨e', he', rfl⟩)
  rw [this]
  simpa using hw
section
variable {P : Program} {w : World} {K : PySem.W.Frag} {mg : Str → Option Value} {base : Heap} {Tb : List (Addr × Str)}
theorem ok_check_catalogue {f : Addr} {fd : FuncData} (F : FnP K "check_catalogue" s_check_catalogue f fd) (T : Tx K mg) (G_is_entry : Fn P w K mg base "is_entry" 2 ["entry", "earlier_names", "weights"] (sp_is_entry Tb K)) : FnOk P w K mg base CX0 3 f fd ["catalogue"] (sp_check_catalogue Tb K) := by
  refine F.ok sc_check_catalogue (fun vs H Q E h => ?_) (fun cdv A outer s H vs Q E hr h => ?_)
  · obtain ⟨_, _, _, rfl, _⟩ := h
    rfl
  · obtain ⟨a, xs, es, rfl, ha, hc, hv, k⟩ := h
    refine ⟨_, PSs.nox (pss_cons (ps_if (pt_cmpR (opEqNil (K := K) rfl hr.units) (pv 0) (pe_lst pa_nil) (nomark _)) (pss_one ps_never) pss_nil)
      (pss_cons (ps_set (i := 1) sc_check_catalogue.nd rfl (Or.inl rfl) pe_dnewK)
      (pss_cons (ps_for PassesOwn.never rfl (piL (K := K) rfl (pv 0)) (pg_tup rfl (pgs_cons (pg_name (i := 3) sc_check_catalogue.nd rfl (Or.inl rfl)) (pgs_cons (pg_name (i := 4) sc_check_catalogue.nd rfl (Or.inl rfl)) (pgs_cons (pg_name (i := 5) sc_check_catalogue.nd rfl (Or.inl rfl)) pgs_nil)))) (pss_one (ps_expr (pe_dsetd (pv 1) (pv 3) (pv 4) ⟨rfl, rfl, rfl, rfl⟩))))
      (pss_cons (ps_set (i := 2) sc_check_catalogue.nd rfl (Or.inl rfl) (pe_lst pa_nil))
      (pss_one (ps_for PassesOwn.never rfl (piEnum (K := K) rfl (by rfl) T.n_enumerate (pa_cons (pv 0) pa_nil)) (pg_tup rfl (pgs_cons (pg_name (i := 6) sc_check_catalogue.nd rfl (Or.inl rfl)) (pgs_cons (pg_name (i := 7) sc_check_catalogue.nd rfl (Or.inl rfl)) pgs_nil))) (pss_cons (ps_if (pt_not (pt_val (pe_fn G_is_entry (hr.mono (by decide)) (pa_cons (pv 7) (pa_cons (pv 2) (pa_cons (pv 1) pa_nil)))))) (pss_one ps_never) pss_nil)
        (pss_one (ps_expr (peBm (K := K) rfl PySem.F.plainAttrs_list PySem.F.slot_list_append PySem.F.type_list_append mt_append (pv 2) (pa_cons (pe_ix (ixT (K := K) rfl) (pv 7) pe_int (fun _ _ => rfl)) pa_nil))))))))))), ?_⟩
    have hlen := Paired.len hc
    have hxs : xs.isEmpty = false := by
      cases xs with
      | nil =>
        cases hc
        exact absurd rfl hv.ne
      | cons _ _ => rfl
    refine ⟨_, rfl, rd_nil ha fun p hp => ⟨_, rfl, ?_⟩⟩
    show (if xs.isEmpty = true then _ else _)
    rw [hxs]
    refine iteF ?_
    intro d hd
    have hd0 : Nw H d := (Gr.new (T := Tb) hp).nw (.of hd)
    have g0 : Gr Tb H (upd (upd H p (.lst [])) d (.dK [])) := (Gr.new hp).trans (Gr.new hd)
    refine ⟨_, rfl, a, rfl, ⟨_, (g0.ext_seq ha)⟩, for_list (K := K) (a := a) (xs := xs) (fun i σ H' => ∃ s3 s4 s5 : Option V, σ = [some (.ref a), some (.ref d), none, s3, s4, s5, none, none] ∧ Gr Tb H H' ∧ H' d = some (.dK (dS (wts (es.take i)))))
      ⟨none, none, none, rfl, g0, upd_same⟩ (fun i σ H' _ ⟨_, _, _, _, g, _⟩ => g.ext_seq ha) ?_ ?_⟩
    · rintro i x σ H' hx ⟨s3, s4, s5, rfl, g, hdd⟩
      obtain ⟨e, he, t, lp, rfl, ht, hlp⟩ := Paired.at hc hx
      have nn : get? (wts (es.take i)) e.name = none := get_none (by rw [wts_names]; exact take_notin hv.nodup he)
      refine gtup3 (g.at ht .tup) ⟨_, rfl, d, rfl, .inl ⟨_, .inl hdd⟩, _, rfl, _, rfl, _, Sum.inr e.name, hdd, rfl, ?_, ?_, ?_⟩
      · rw [dS_len]
        unfold wts
        rw [List.length_map, List.length_take, sizeLine_eq]
        have := hv.few
        omega
      · intro v hv'
        rw [valV_dS, nn] at hv'
        cases hv'
      · intro _
        refine ⟨_, _, _, rfl, g.mut hd0 hdd .dK, ?_⟩
        rw [upd_same, putK_dS, put_new (by rw [wts_names]; exact take_notin hv.nodup he), take_snoc he]
        unfold wts
        rw [List.map_append]
        rfl
    · rintro σ H' ⟨s3, s4, s5, rfl, g, hdd⟩
      rw [hlen, List.take_length] at hdd
      refine ⟨Nat.zero_le _, fun l hl => ?_⟩
      have dl : d ≠ l := ne_of_none hdd hl
      have hl0 : Nw H l := g.nw (.of hl)
      have g1 : Gr Tb H (upd H' l (.lst [])) := g.trans (Gr.new hl)
      refine ⟨_, rfl, a, xs, rfl, g1.ext_seq ha, for_it (walk_enum (xs := xs)) (fun i σ H' => ∃ s3 s4 s5 s6 s7 : Option V, σ = [some (.ref a), some (.ref d), some (.ref l), s3, s4, s5, s6, s7] ∧ Gr Tb H H' ∧ H' d = some (.dK (dS (wts es))) ∧ H' l = some (.lst (((es.take i).map (·.name)).map V.str)))
        ⟨_, _, _, _, _, rfl, g1, by rw [upd_ne dl]; exact hdd, by rw [upd_same]; rfl⟩ (fun i σ H' _ ⟨_, _, _, _, _, _, g, _⟩ => g.ext_seq ha) ?_ ?_⟩
      · rintro i x σ H1 H2 hi ⟨s3, s4, s5, s6, s7, rfl, g2, hdd, hll⟩ ⟨T, x1, x2, rfl, hT, rfl, e1, e2⟩
        cases e1
        obtain ⟨e, he, t, lp, rfl, ht, hlp⟩ := Paired.at hc e2
        have hm := List.mem_of_getElem? he
        have g3' : Gr Tb H (upd H1 T (.tup [.int (i : Nat), .ref t])) := g2.trans (Gr.new hT)
        have hd3 : upd H1 T (.tup [.int (i : Nat), .ref t]) d = _ := (upd_ne (ne_of_none hdd hT)).trans hdd
        have hl3 : upd H1 T (.tup [.int (i : Nat), .ref t]) l = _ := (upd_ne (ne_of_none hll hT)).trans hll
        refine gtup2 upd_same ?_
        refine ⟨_, rfl, _, rfl, _, rfl, .ref t, e, l, d, _, _, rfl, ⟨t, lp, rfl, g3'.at ht .tup, g3'.at hlp .lst⟩, hl3, hd3, Nat.le_trans (len_ok (hv.names e hm)) (by decide), Nat.le_trans (hv.fewp e hm) (by decide), fun H4 g4 => ⟨_, rfl, ?_⟩⟩
        rw [entB_valid hv he]
        have g5 := g3'.trans g4
        have hl5 := g4.at hl3 .lst
        refine ⟨_, rfl, .inl ⟨rfl, _, SqL.of hl5⟩, _, rfl, t, _, _, _, rfl, rfl, SqT.of (g5.at ht .tup), atI_nat (j := 0) rfl, l, _, _, rfl, rfl, hl5, ?_, ?_⟩
        · rw [List.length_map, List.length_map, List.length_take, sizeLine_eq]
          have := hv.few
          omega
        · refine ⟨_, _, _, _, _, rfl, g5.mut hl0 hl5 .lst, ?_, ?_⟩
          · rw [upd_ne dl]
            exact g4.at hd3 .dK
          · rw [upd_same, take_snoc he, List.map_append, List.map_append]
            rfl
      · rintro σ H1 ⟨s3, s4, s5, s6, s7, rfl, g2, hdd, hll⟩
        exact k H1 g2
end
end Sk
namespace Sk
open PySem PySem.Spec PyProof.Rows L2
abbrev s_ordered : Stmt := topS 12
abbrev N_ordered : List Str := ["catalogue"]
theorem sc_ordered : FnScope N_ordered ["catalogue"] (defScope s_ordered) := ⟨rfl, rfl, rfl, by decide +kernel, rfl, by decide +kernel, by decide +kernel⟩
/-- what a kind's place is found by: greater weights first, then names -/
def Ent.key (e : Ent) : Int × Str := (0 - e.w, e.name)
/-- from the largest kind to the smallest -/
def Ordered (es : List Ent) : Prop := SrtO.Srtd (fun x y : Ent => kLt x.key y.key) es
def sp_ordered (Tb : List (Addr × Str)) (K : PySem.W.Frag) : Sp := fun vs H Q _ => ∃ (a : Addr) (xs : List V) (es : List Ent), vs = [.ref a] ∧ SqL K H a xs ∧ CatAt H xs es ∧ LamX.Tabs Tb H ∧ es.length ≤ 100000 ∧
  ∀ r H' ys es', es'.Perm es → Ordered es' → CatAt H ys es' → Gr Tb H H' → H' r = none → Q (.ref r) (upd H' r (.lst ys))
/-- the key of the entry that stands at v -/
def vKey (H : Hp) : V → Int × Str
  | .ref t => match H t with
    | some (.tup [.str n, .int w, _]) => (0 - w, n)
    | _ => (0, Str.empty)
  | _ => (0, Str.empty)
theorem vKey_at {H : Hp} {v : V} {e : Ent} (h : EntAt H v e) : vKey H v = e.key := by
  obtain ⟨t, l, rfl, ht, _⟩ := h
  show (match H t with
    | some (.tup [.str n, .int w, _]) => (0 - w, n)
    | _ => (0, Str.empty)) = _
  rw [ht]
  rfl
theorem ordered_of {H : Hp} : ∀ {ys : List V} {es : List Ent}, CatAt H ys es → SrtO.Srtd (fun x y => kLt (vKey H x) (vKey H y)) ys → Ordered es
  | _, _, .nil, _ => List.Pairwise.nil
  | y :: ys, e :: es, .cons h t, s => by
    obtain ⟨s1, s2⟩ := List.pairwise_cons.mp s
    refine List.pairwise_cons.mpr ⟨fun e' he' => ?_, ordered_of t s2⟩
    obtain ⟨y', hy', h'⟩ := Paired.right t he'
    have z : kLt (vKey H y') (vKey H y) = false := s1 y' hy'
    rw [vKey_at h, vKey_at h'] at z
    exact z
theorem ordered_unique : ∀ {xs ys : List Ent}, xs.Perm ys → Ordered xs → Ordered ys → (xs.map (·.name)).Nodup → xs = ys
  | [], ys, p, _, _, _ => (List.nil_perm.mp p).symm
  | x :: xs, [], p, _, _, _ => absurd p.length_eq (by simp)
  | x :: xs, y :: ys, p, ox, oy, nd => by
    obtain ⟨x1, x2⟩ := List.pairwise_cons.mp ox
    obtain ⟨y1, y2⟩ := List.pairwise_cons.mp oy
    rw [List.map_cons, List.nodup_cons] at nd
    have e : x = y := by
      rcases List.mem_cons.mp (p.mem_iff.mp (List.mem_cons_self ..)) with e | hx
      · exact e
      · rcases List.mem_cons.mp (p.mem_iff.mpr (List.mem_cons_self ..)) with e | hy
        · exact e.symm
        · have h1 : kLt y.key x.key = false := x1 y hy
          have h2 : kLt x.key y.key = false := y1 x hx
          have h3 : y.name = x.name := (Prod.mk.inj (kLt_total h1 h2)).2
          exact absurd (List.mem_map.mpr ⟨y, hy, h3⟩) nd.1
    subst e
    rw [ordered_unique ((List.perm_cons x).mp p) x2 y2 nd.2]
section
variable {P : Program} {w : World} {K : PySem.W.Frag} {mg : Str → Option Value} {base : Heap} {Tb : List (Addr × Str)}
theorem ok_ordered {f : Addr} {fd : FuncData} (F : FnP K "ordered" s_ordered f fd) (T : Tx K mg)  {c Pt : Addr} (LC : ∀ fd2 oc od osl, K.lookup f = some ⟨oc, od, .func fd2, osl⟩ → fd2.code = .ref c) (TB : LamX.TabB base mg c Pt) (hmT : (Pt, ("ordered.<locals>.<lambda>" : Str)) ∈ Tb) (huT : ∀ p ∈ Tb, p.1 = Pt → p.2 = ("ordered.<locals>.<lambda>" : Str)) : FnOk P w K mg base CX0 4 f fd ["catalogue"] (sp_ordered Tb K) := by
  obtain ⟨oc, od, dV, kV, doc, pm, an, cdv, ct, osl, rfl, lk, hcd, _, _⟩ := F.ex
  obtain rfl : cdv = .ref c := LC _ _ _ _ lk
  refine fn_of lk hcd sc_ordered (fun vs H Q E h => ?_) fun A outer s H vs Q E hr h => ?_
  · obtain ⟨_, _, _, rfl, _⟩ := h
    rfl
  · obtain ⟨a, xs, es, rfl, ha, hc, ht, hz, k⟩ := h
    have hcode : ∀ (A : Around) (outer : List Env) (s : Shared) (H : Hp) (E : XK), (cxOf CX0 P w K mg base N_ordered "ordered" (defScope s_ordered) f (.ref c) A outer s H E).env.code = .ref c := fun _ _ _ _ _ => rfl
    refine ⟨_, PSs.nox (pss_one (ps_ret (pe_sortLam (k := 0) (tk := tTup (tCons (tOp (rI0 fun i j => .int (i - j)) (tC (.int 0)) (tOp (rIxT K) (tVar 0) (tC (.int 1)))) (tCons (tOp (rIxT K) (tVar 0) (tC (.int 0))) tNil))) (N := ["entry"]) (ps := ["entry"]) (by rfl) T.n_sorted (hr.mono (by decide)) TB rfl hmT huT ⟨rfl, rfl, rfl, by decide +kernel, rfl, by decide +kernel, by decide +kernel⟩ rfl (fun _ => rfl) rfl (fun _ _ _ _ us hl => match us, hl with | [_], _ => rfl) (pa_cons (pv 0) pa_nil) (fun _ _ _ _ _ _ _ => (pe_tup (pa_cons (pe_op op_sub pe_int (pe_ix (ixT (K := K) rfl) (pv 0) pe_int (fun _ _ => rfl))) (pa_cons (pe_ix (ixT (K := K) rfl) (pv 0) pe_int (fun _ _ => rfl)) pa_nil))))))), ?_⟩
    refine ⟨_, rfl, a, xs, vKey H, rfl, ha, fun y hy => ?_, ht, fun y hy H2 g Q' k' => ?_, fun ys a' H' hs hp eN hT hn => ?_⟩
    · obtain ⟨e, _, t, l, h1, _⟩ := Paired.left hc hy
      exact ⟨t, h1⟩
    · obtain ⟨e, _, he⟩ := Paired.left hc hy
      rw [vKey_at he] at k'
      obtain ⟨t, l, rfl, h1, h2⟩ := he
      have h1' := g _ _ h1 (fun ps z => by cases z)
      refine ⟨_, rfl, t, _, _, _, rfl, rfl, SqT.of h1', atI_nat (j := 1) rfl, _, _, rfl, rfl, _, rfl, t, _, _, _, rfl, rfl, SqT.of h1', atI_nat (j := 0) rfl, by show 2 ≤ sizeLine; decide, k'⟩
    · obtain ⟨es', p', hc'⟩ := Paired.perm hp hc
      exact k a' H' ys es' p' (ordered_of hc' hs) hc' ⟨eN, fun _ => hT⟩ hn
end
end Sk
namespace Sk
open PySem PySem.Spec PyProof.Rows L2
abbrev s_clean : Stmt := topS 13
abbrev N_clean : List Str := ["entries", "numbers", "name", "weight", "parts"]
theorem sc_clean : FnScope N_clean ["entries", "numbers"] (defScope s_clean) := ⟨rfl, rfl, rfl, by decide +kernel, rfl, by decide +kernel, by decide +kernel⟩
/-- the numbers that are not zero, in the entries' order -/
def cleanN (es : List Ent) (d : Num) : Num := (es.filter fun e => decide (getD d e.name ≠ 0)).map fun e => (e.name, getD d e.name)
def sp_clean (Tb : List (Addr × Str)) (K : PySem.W.Frag) : Sp := fun vs H Q _ => ∃ (a b : Addr) (xs : List V) (es : List Ent) (d : Num), vs = [.ref a, .ref b] ∧ SqL K H a xs ∧ CatAt H xs es ∧ H b = some (.dK (dS d)) ∧ (es.map (·.name)).Nodup ∧ es.length ≤ 100000 ∧
  ∀ r H', Gr Tb H H' → Nw H r → H' r = some (.dK (dS (cleanN es d))) → Q (.ref r) H'
def cleanO (H : Hp) (d : Num) (v : V) : Option (Str × Int) := match itemAt H 0 v with
  | some (.str n) => if getD d n ≠ 0 then some (n, getD d n) else none
  | _ => none
theorem cleanO_at {H : Hp} {d : Num} {v : V} {e : Ent} (h : EntAt H v e) : cleanO H d v = if getD d e.name ≠ 0 then some (e.name, getD d e.name) else none := by
  obtain ⟨t, l, rfl, ht, _⟩ := h
  unfold cleanO
  rw [itemAt_tup ht]
  rfl
theorem clean_fm {H : Hp} {d : Num} {vs : List V} {es : List Ent} (hc : CatAt H vs es) : vs.filterMap (cleanO H d) = cleanN es d := by
  rw [fm_pairedO (g := fun e => if getD d e.name ≠ 0 then some (e.name, getD d e.name) else none) (fun v e h => cleanO_at h) hc]
  clear hc
  unfold cleanN
  induction es with
  | nil => rfl
  | cons e es ih =>
    rw [List.filterMap_cons, List.filter_cons]
    by_cases c : getD d e.name ≠ 0
    · rw [if_pos c, if_pos (decide_eq_true c), ih]
      rfl
    · rw [if_neg c, if_neg (by rw [decide_eq_true_eq]; exact c), ih]
theorem clean_nodup {es : List Ent} {d : Num} (h : (es.map (·.name)).Nodup) : ((cleanN es d).map (·.1)).Nodup := by
  unfold cleanN
  rw [List.map_map]
  exact h.sublist ((List.filter_sublist (l := es)).map _)
section
variable {P : Program} {w : World} {K : PySem.W.Frag} {mg : Str → Option Value} {base : Heap} {Tb : List (Addr × Str)}
theorem ok_clean {f : Addr} {fd : FuncData} (F : FnP K "clean" s_clean f fd) (T : Tx K mg) : FnOk P w K mg base CX0 1 f fd ["entries", "numbers"] (sp_clean Tb K) := by
  refine F.ok sc_clean (fun vs H Q E h => ?_) (fun cdv A outer s H vs Q E hr h => ?_)
  · obtain ⟨_, _, _, _, _, rfl, _⟩ := h
    rfl
  · obtain ⟨a, b, xs, es, d, rfl, ha, hc, hb, hnd, hz, k⟩ := h
    refine ⟨_, PSs.nox (pss_one (ps_ret (pe_dc (own := [("name", 2), ("weight", 3), ("parts", 4)]) (g := (gTup K 3 (gCons (gName 2) (gCons (gName 3) (gCons (gName 4) gNil))))) (tt := _) rfl sc_clean.nd (piL (K := K) rfl (pv 0)) (blkOk_by (N := N_clean) (sc := (defScope s_clean)) (by decide +kernel)) (fun _ _ _ _ _ => (pg_tup rfl (pgs_cons (pg_name (i := 2) sc_clean.nd rfl (Or.inl rfl)) (pgs_cons (pg_name (i := 3) sc_clean.nd rfl (Or.inl rfl)) (pgs_cons (pg_name (i := 4) sc_clean.nd rfl (Or.inl rfl)) pgs_nil))))) (fun _ _ _ _ _ => (pts_one (pt_cmpR op_ne (pe_dget2 (hu_of hr) (pv 1) (pv 2) pe_int ⟨rfl, rfl, rfl, rfl⟩) pe_int (nomark _)))) (fun _ _ _ _ _ => (pv 2)) (fun _ _ _ _ _ => (pe_dget (hu_of hr) (pv 1) (pv 2) (fun _ _ => rfl)))))), ?_⟩
    have hl := Paired.len hc
    refine ⟨_, rfl, a, rfl, ⟨_, ha⟩, fun D hD => dc_fm (Tb := Tb) (xs := xs) walk_list rfl (cleanO H d) hD (by omega) (fun H' g => g.ext_seq ha) (fun j v H' hv g Rk Rs hk hs => ?_) fun H' g hD' => ?_⟩
    · obtain ⟨e, he, hev⟩ := Paired.at hc hv
      have hco := cleanO_at (d := d) hev
      obtain ⟨t, lp, rfl, ht, hlp⟩ := hev
      have hb' := g.at hb .dK
      refine gtup3 (g.at ht .tup) ⟨rfl, _, rfl, b, rfl, IsD.num hb', _, rfl, _, dgetO hb' e.name, ?_⟩
      rw [getO]
      refine ⟨rfl, _, rfl, ?_⟩
      refine ite2 (fun c1 => ?_) (fun c1 => ?_)
      · have c2 : getD d e.name ≠ 0 := fun z => by
          rw [z] at c1
          exact absurd c1 (by decide)
        obtain ⟨i, hi⟩ : ∃ i, get? d e.name = some i := by
          cases q : get? d e.name with
          | some i => exact ⟨i, rfl⟩
          | none =>
            unfold getD at c2
            rw [q] at c2
            exact absurd rfl c2
        have hgi : getD d e.name = i := by
          unfold getD
          rw [hi]
          rfl
        refine ⟨_, rfl, _, rfl, _, rfl, b, _, rfl, dgetS hb' hi, hk (e.name, i) _ ?_ (Gr.refl _)⟩
        rw [hco, if_pos c2, hgi]
      · refine hs _ ?_ (Gr.refl _)
        rw [hco, if_neg]
        intro c2
        refine c1 ?_
        rw [Bool.not_eq_true', decide_eq_false_iff_not]
        exact fun z => c2 (V.int.inj z)
    · rw [clean_fm hc, putAll_new _ _ (by rw [List.nil_append]; exact clean_nodup hnd), List.nil_append] at hD'
      exact k D H' g (.of hD) hD'
end
end Sk
namespace Sk
open PySem PySem.Spec PyProof.Rows L2
abbrev s_piece_numbers : Stmt := topS 14
abbrev N_piece_numbers : List Str := ["entries", "stock", "splits", "numbers", "name", "weight", "parts", "part"]
theorem sc_piece_numbers : FnScope N_piece_numbers ["entries", "stock", "splits"] (defScope s_piece_numbers) := ⟨rfl, rfl, rfl, by decide +kernel, rfl, by decide +kernel, by decide +kernel⟩
def sp_piece_numbers (Tb : List (Addr × Str)) (K : PySem.W.Frag) : Sp := fun vs H Q _ => ∃ (a b c : Addr) (xs : List V) (es : List Ent) (st sp : Num), vs = [.ref a, .ref b, .ref c] ∧ SqL K H a xs ∧ CatAt H xs es ∧ H b = some (.dK (dS st)) ∧ H c = some (.dK (dS sp)) ∧ (es.map (·.name)).Nodup ∧ (∀ e ∈ es, ∀ p ∈ e.parts, p ∈ es.map (·.name)) ∧ es.length ≤ 100000 ∧
  ∀ r H', Gr Tb H H' → Nw H r → H' r = some (.dK (dS (numOf es (pn es st sp)))) → Q (.ref r) H'
section
variable {P : Program} {w : World} {K : PySem.W.Frag} {mg : Str → Option Value} {base : Heap} {Tb : List (Addr × Str)}
theorem ok_piece_numbers {f : Addr} {fd : FuncData} (F : FnP K "piece_numbers" s_piece_numbers f fd) (T : Tx K mg) : FnOk P w K mg base CX0 1 f fd ["entries", "stock", "splits"] (sp_piece_numbers Tb K) := by
  refine F.ok sc_piece_numbers (fun vs H Q E h => ?_) (fun cdv A outer s H vs Q E hr h => ?_)
  · obtain ⟨_, _, _, _, _, _, _, rfl, _⟩ := h
    rfl
  · obtain ⟨a, b, c, xs, es, st, sp, rfl, ha, hc, hb, hsp, hnd, hp, hz, k⟩ := h
    refine ⟨_, PSs.nox (pss_cons (ps_setDc (i := 3) (own := [("name", 4), ("weight", 5), ("parts", 6)]) (g := (gTup K 3 (gCons (gName 4) (gCons (gName 5) (gCons (gName 6) gNil))))) (tt := tYes) rfl sc_piece_numbers.nd rfl rfl (swD_true rfl rfl rfl (by decide +kernel)) (piL (K := K) rfl (pv 0)) (blkOk_by (N := N_piece_numbers) (sc := (defScope s_piece_numbers)) (by decide +kernel)) (fun _ _ _ _ _ => (pg_tup rfl (pgs_cons (pg_name (i := 4) sc_piece_numbers.nd rfl (Or.inl rfl)) (pgs_cons (pg_name (i := 5) sc_piece_numbers.nd rfl (Or.inl rfl)) (pgs_cons (pg_name (i := 6) sc_piece_numbers.nd rfl (Or.inl rfl)) pgs_nil))))) (fun _ _ _ _ _ => pts_nil) (fun _ _ _ _ _ => (pv 4)) (fun _ _ _ _ _ => (pe_dget2 (hu_of hr) (pv 1) (pv 4) pe_int ⟨rfl, rfl, rfl, rfl⟩)))
      (pss_cons (ps_for PassesOwn.never rfl (piL (K := K) rfl (pv 0)) (pg_tup rfl (pgs_cons (pg_name (i := 4) sc_piece_numbers.nd rfl (Or.inl rfl)) (pgs_cons (pg_name (i := 5) sc_piece_numbers.nd rfl (Or.inl rfl)) (pgs_cons (pg_name (i := 6) sc_piece_numbers.nd rfl (Or.inl rfl)) pgs_nil)))) (pss_one (ps_for PassesOwn.never rfl (piL (K := K) rfl (pv 6)) (pg_name (i := 7) sc_piece_numbers.nd rfl (Or.inl rfl)) (pss_one (ps_daug (hu_of hr) (pv 3) (pv 7) (pe_dget2 (hu_of hr) (pv 2) (pv 4) pe_int ⟨rfl, rfl, rfl, rfl⟩) in_add (fun _ _ _ => rfl))))))
      (pss_one (ps_ret (pv 3))))), ?_⟩
    refine ⟨_, rfl, a, rfl, ⟨_, ha⟩, fun D hD => dc_stock (Tb := Tb) ha hc hb hnd hz hD (fun _ _ _ => rfl) (fun _ _ _ => rfl) (fun _ _ _ => rfl) fun H1 g1 hD1 => ?_⟩
    have nD : Nw H D := .of hD
    have hlen := Paired.len hc
    refine ⟨_, rfl, a, rfl, ⟨_, g1.ext_seq ha⟩, for_list (K := K) (a := a) (xs := xs) (fun i σ H' => ∃ s4 s5 s6 s7 : Option V, σ = [some (.ref a), some (.ref b), some (.ref c), some (.ref D), s4, s5, s6, s7] ∧ Gr Tb H H' ∧ H' D = some (.dK (dS (numOf es (addAll (getD st) (incs (es.take i) (getD sp)))))))
      ⟨_, _, _, _, rfl, g1, by rw [List.take_zero]; exact hD1⟩ (fun i σ H' _ ⟨_, _, _, _, _, g, _⟩ => g.ext_seq ha) ?_ ?_⟩
    · rintro i x σ H2 hx ⟨s4, s5, s6, s7, rfl, g2, hD2⟩
      obtain ⟨e, he, t, lp, rfl, ht, hlp⟩ := Paired.at hc hx
      have hm := List.mem_of_getElem? he
      have hlp2 := g2.at hlp .lst
      refine gtup3 (g2.at ht .tup) ⟨_, rfl, lp, rfl, ⟨_, SqL.of hlp2⟩, for_list (K := K) (a := lp) (xs := e.parts.map V.str) (fun j σ H' => ∃ s7 : Option V, σ = [some (.ref a), some (.ref b), some (.ref c), some (.ref D), some (.str e.name), some (.int e.w), some (.ref lp), s7] ∧ Gr Tb H H' ∧
          H' D = some (.dK (dS (numOf es (addAll (addAll (getD st) (incs (es.take i) (getD sp))) ((e.parts.take j).map fun p => (p, getD sp e.name)))))))
        ⟨_, rfl, g2, by rw [List.take_zero]; exact hD2⟩ (fun j σ H' _ ⟨_, _, g, _⟩ => SqL.of (g.at hlp .lst)) ?_ ?_⟩
      · rintro j y σ H3 hy ⟨s7, rfl, g3, hD3⟩
        rw [List.getElem?_map] at hy
        cases hq : e.parts[j]? with
        | none => rw [hq] at hy; cases hy
        | some q =>
          rw [hq] at hy
          cases hy
          have hqm : q ∈ es.map (·.name) := hp e hm q (List.mem_of_getElem? hq)
          have hsp3 := g3.at hsp .dK
          refine ⟨_, rfl, _, rfl, D, _, rfl, dgetS hD3 (get?_numOf hqm), _, rfl, c, rfl, IsD.num hsp3, _, rfl, _, dgetO hsp3 e.name, ?_⟩
          rw [getO]
          refine ⟨_, _, rfl, rfl, _, dputS hD3 (by rw [numOf_len, sizeLine_eq]; omega), _, rfl, g3.mut nD hD3 .dK, ?_⟩
          rw [upd_same, put_numOf hqm, take_snoc hq, List.map_append]
          show some (HO.dK (dS (numOf es (upF _ q _)))) = some (HO.dK (dS (numOf es (addAll _ (_ ++ [(q, getD sp e.name)])))))
          rw [addAll_snoc]
      · rintro σ H3 ⟨s7, rfl, g3, hD3⟩
        refine ⟨_, _, _, _, rfl, g3, ?_⟩
        rw [List.length_map, List.take_length] at hD3
        rw [incs_snoc he, addAll_append]
        exact hD3
    · rintro σ H2 ⟨s4, s5, s6, s7, rfl, g2, hD2⟩
      rw [hlen, List.take_length] at hD2
      exact ⟨_, rfl, k D H2 g2 nD hD2⟩
end
end Sk
namespace Sk
open PySem PySem.Spec PyProof.Rows L2
abbrev s_full_splits : Stmt := topS 15
abbrev N_full_splits : List Str := ["entries", "stock", "numbers", "found", "name", "weight", "parts", "part"]
theorem sc_full_splits : FnScope N_full_splits ["entries", "stock"] (defScope s_full_splits) := ⟨rfl, rfl, rfl, by decide +kernel, rfl, by decide +kernel, by decide +kernel⟩
/-- all splits, from the largest kind on -/
def fs : List Ent → (Str → Int) → Num
  | [], _ => []
  | e :: es, f => (if e.parts = [] then [] else [(e.name, f e.name)]) ++ fs es (addAll f (e.parts.map fun p => (p, f e.name)))
/-- the parts stand behind -/
def Behind : List Ent → Prop
  | [] => True
  | e :: es => (∀ p ∈ e.parts, p ∈ es.map (·.name) ∧ p ≠ e.name) ∧ Behind es
def sp_full_splits (Tb : List (Addr × Str)) (K : PySem.W.Frag) : Sp := fun vs H Q _ => ∃ (a b : Addr) (xs : List V) (es : List Ent) (st : Num), vs = [.ref a, .ref b] ∧ SqL K H a xs ∧ CatAt H xs es ∧ H b = some (.dK (dS st)) ∧ (es.map (·.name)).Nodup ∧ Behind es ∧ es.length ≤ 100000 ∧
  ∀ r H', Gr Tb H H' → Nw H r → H' r = some (.dK (dS (fs es (getD st)))) → Q (.ref r) H'
/-- the numbers behind the entries -/
def fsS : List Ent → (Str → Int) → Str → Int
  | [], f => f
  | e :: es, f => fsS es (addAll f (e.parts.map fun p => (p, f e.name)))
theorem fs_snoc (e : Ent) : ∀ (l : List Ent) (f : Str → Int), fs (l ++ [e]) f = fs l f ++ (if e.parts = [] then [] else [(e.name, fsS l f e.name)])
  | [], f => by
    show (if e.parts = [] then [] else [(e.name, f e.name)]) ++ [] = [] ++ _
    rw [List.append_nil, List.nil_append]
    rfl
  | x :: l, f => by
    show (if x.parts = [] then [] else [(x.name, f x.name)]) ++ fs (l ++ [e]) (addAll f (x.parts.map fun p => (p, f x.name))) = ((if x.parts = [] then [] else [(x.name, f x.name)]) ++ fs l (addAll f (x.parts.map fun p => (p, f x.name)))) ++ _
    rw [fs_snoc e l, List.append_assoc]
    rfl
theorem fsS_snoc (e : Ent) : ∀ (l : List Ent) (f : Str → Int), fsS (l ++ [e]) f = addAll (fsS l f) (e.parts.map fun p => (p, fsS l f e.name))
  | [], f => rfl
  | x :: l, f => fsS_snoc e l _
theorem fs_names : ∀ (l : List Ent) (f : Str → Int), ∀ x ∈ (fs l f).map (·.1), x ∈ l.map (·.name)
  | [], _, x, h => by cases h
  | e :: l, f, x, h => by
    rw [fs, List.map_append] at h
    rw [List.map_cons]
    rcases List.mem_append.mp h with z | z
    · by_cases c : e.parts = []
      · rw [if_pos c] at z
        cases z
      · rw [if_neg c] at z
        rw [List.mem_singleton.mp z]
        exact List.mem_cons_self ..
    · exact List.mem_cons_of_mem _ (fs_names l _ x z)
theorem fs_len : ∀ (l : List Ent) (f : Str → Int), (fs l f).length ≤ l.length
  | [], _ => Nat.le_refl _
  | e :: l, f => by
    have := fs_len l (addAll f (e.parts.map fun p => (p, f e.name)))
    rw [fs, List.length_append, List.length_cons]
    split
    · rw [List.length_nil]
      omega
    · rw [List.length_singleton]
      omega
theorem Behind.at : ∀ {es : List Ent} {e : Ent}, Behind es → e ∈ es → ∀ p ∈ e.parts, p ∈ es.map (·.name) ∧ p ≠ e.name
  | [], _, _, h => by cases h
  | x :: es, e, b, h => fun p hp => by
    rw [List.map_cons]
    rcases List.mem_cons.mp h with rfl | h
    · exact ⟨List.mem_cons_of_mem _ (b.1 p hp).1, (b.1 p hp).2⟩
    · obtain ⟨h1, h2⟩ := Behind.at b.2 h p hp
      exact ⟨List.mem_cons_of_mem _ h1, h2⟩
theorem amt_zero {l : Num} {x : Str} (h : ∀ q ∈ l, q.1 ≠ x) : amt l x = 0 := by
  induction l with
  | nil => rfl
  | cons q l ih =>
    rw [amt_cons, if_neg (h q (List.mem_cons_self ..)), ih fun z hz => h z (List.mem_cons_of_mem _ hz)]
    rfl
theorem put_snoc {d : Num} {x : Str} {i : Int} (h : x ∉ d.map (·.1)) : put d x i = d ++ [(x, i)] := put_new' h
section
variable {P : Program} {w : World} {K : PySem.W.Frag} {mg : Str → Option Value} {base : Heap} {Tb : List (Addr × Str)}
theorem ok_full_splits {f : Addr} {fd : FuncData} (F : FnP K "full_splits" s_full_splits f fd) (T : Tx K mg) : FnOk P w K mg base CX0 1 f fd ["entries", "stock"] (sp_full_splits Tb K) := by
  refine F.ok sc_full_splits (fun vs H Q E h => ?_) (fun cdv A outer s H vs Q E hr h => ?_)
  · obtain ⟨_, _, _, _, _, rfl, _⟩ := h
    rfl
  · obtain ⟨a, b, xs, es, st, rfl, ha, hc, hb, hnd, hp, hz, k⟩ := h
    refine ⟨_, PSs.nox (pss_cons (ps_setDc (i := 2) (own := [("name", 4), ("weight", 5), ("parts", 6)]) (g := (gTup K 3 (gCons (gName 4) (gCons (gName 5) (gCons (gName 6) gNil))))) (tt := tYes) rfl sc_full_splits.nd rfl rfl (swD_true rfl rfl rfl (by decide +kernel)) (piL (K := K) rfl (pv 0)) (blkOk_by (N := N_full_splits) (sc := (defScope s_full_splits)) (by decide +kernel)) (fun _ _ _ _ _ => (pg_tup rfl (pgs_cons (pg_name (i := 4) sc_full_splits.nd rfl (Or.inl rfl)) (pgs_cons (pg_name (i := 5) sc_full_splits.nd rfl (Or.inl rfl)) (pgs_cons (pg_name (i := 6) sc_full_splits.nd rfl (Or.inl rfl)) pgs_nil))))) (fun _ _ _ _ _ => pts_nil) (fun _ _ _ _ _ => (pv 4)) (fun _ _ _ _ _ => (pe_dget2 (hu_of hr) (pv 1) (pv 4) pe_int ⟨rfl, rfl, rfl, rfl⟩)))
      (pss_cons (ps_set (i := 3) sc_full_splits.nd rfl (Or.inl rfl) pe_dnewK)
      (pss_cons (ps_for PassesOwn.never rfl (piL (K := K) rfl (pv 0)) (pg_tup rfl (pgs_cons (pg_name (i := 4) sc_full_splits.nd rfl (Or.inl rfl)) (pgs_cons (pg_name (i := 5) sc_full_splits.nd rfl (Or.inl rfl)) (pgs_cons (pg_name (i := 6) sc_full_splits.nd rfl (Or.inl rfl)) pgs_nil)))) (pss_cons (ps_if (pt_cmpR (opNeNil (K := K) rfl hr.units) (pv 6) (pe_lst pa_nil) (nomark _)) (pss_one (ps_dput (hu_of hr) (pv 3) (pv 4) (pe_dget (hu_of hr) (pv 2) (pv 4) (fun _ _ => rfl)) rfl)) pss_nil)
        (pss_one (ps_for PassesOwn.never rfl (piL (K := K) rfl (pv 6)) (pg_name (i := 7) sc_full_splits.nd rfl (Or.inl rfl)) (pss_one (ps_daug (hu_of hr) (pv 2) (pv 7) (pe_dget (hu_of hr) (pv 2) (pv 4) (fun _ _ => rfl)) in_add (fun _ _ _ => rfl)))))))
      (pss_one (ps_ret (pv 3)))))), ?_⟩
    refine ⟨_, rfl, a, rfl, ⟨_, ha⟩, fun D hD => dc_stock (Tb := Tb) ha hc hb hnd hz hD (fun _ _ _ => rfl) (fun _ _ _ => rfl) (fun _ _ _ => rfl) fun H1 g1 hD1 => ?_⟩
    have nD : Nw H D := .of hD
    have hlen := Paired.len hc
    intro F hF
    have nF : Nw H F := g1.nw (.of hF)
    have DF : D ≠ F := ne_of_none hD1 hF
    have g2 : Gr Tb H (upd H1 F (.dK [])) := g1.trans (Gr.new hF)
    refine ⟨_, rfl, a, rfl, ⟨_, g2.ext_seq ha⟩, for_list (K := K) (a := a) (xs := xs) (fun i σ H' => ∃ s4 s5 s6 s7 : Option V, σ = [some (.ref a), some (.ref b), some (.ref D), some (.ref F), s4, s5, s6, s7] ∧ Gr Tb H H' ∧ H' D = some (.dK (dS (numOf es (fsS (es.take i) (getD st))))) ∧ H' F = some (.dK (dS (fs (es.take i) (getD st)))))
      ⟨_, _, _, _, rfl, g2, by rw [List.take_zero, upd_ne DF]; exact hD1, by rw [List.take_zero, upd_same]; rfl⟩ (fun i σ H' _ ⟨_, _, _, _, _, g, _⟩ => g.ext_seq ha) ?_ ?_⟩
    · rintro i x σ H2 hx ⟨s4, s5, s6, s7, rfl, g2, hD2, hF2⟩
      obtain ⟨e, he, t, lp, rfl, ht, hlp⟩ := Paired.at hc hx
      have hm := List.mem_of_getElem? he
      have hnm : e.name ∈ es.map (·.name) := List.mem_map.mpr ⟨e, hm, rfl⟩
      have hbe := Behind.at hp hm
      have hlp2 := g2.at hlp .lst
      generalize hfi : fsS (es.take i) (getD st) = g at hD2
      -- found
      have step : ∀ H3, Gr Tb H H3 → H3 D = some (.dK (dS (numOf es g))) → H3 F = some (.dK (dS (fs (es.take (i + 1)) (getD st)))) →
          tFor (iList K (tVar 6)) (gName 7) (sDAug (tVar 2) (tVar 7) (tDGet (tVar 2) (tVar 4)) rAdd)
            ⟨fun σ H' => ∃ s4 s5 s6 s7 : Option V, σ = [some (.ref a), some (.ref b), some (.ref D), some (.ref F), s4, s5, s6, s7] ∧ Gr Tb H H' ∧ H' D = some (.dK (dS (numOf es (fsS (es.take (i + 1)) (getD st))))) ∧ H' F = some (.dK (dS (fs (es.take (i + 1)) (getD st)))), Q,
              fun σ H' => tRet (tVar 3) { nx := fun _ H' => Q .non H', rt := Q } σ H', fun σ H' => ∃ s4 s5 s6 s7 : Option V, σ = [some (.ref a), some (.ref b), some (.ref D), some (.ref F), s4, s5, s6, s7] ∧ Gr Tb H H' ∧ H' D = some (.dK (dS (numOf es (fsS (es.take (i + 1)) (getD st))))) ∧ H' F = some (.dK (dS (fs (es.take (i + 1)) (getD st))))⟩
            [some (.ref a), some (.ref b), some (.ref D), some (.ref F), some (.str e.name), some (.int e.w), some (.ref lp), s7] H3 := by
        intro H3 g3 hD3 hF3
        refine ⟨_, rfl, lp, rfl, ⟨_, SqL.of (g3.at hlp .lst)⟩, for_list (K := K) (a := lp) (xs := e.parts.map V.str) (fun j σ H' => ∃ s7 : Option V, σ = [some (.ref a), some (.ref b), some (.ref D), some (.ref F), some (.str e.name), some (.int e.w), some (.ref lp), s7] ∧ Gr Tb H H' ∧
            H' D = some (.dK (dS (numOf es (addAll g ((e.parts.take j).map fun p => (p, g e.name)))))) ∧ H' F = some (.dK (dS (fs (es.take (i + 1)) (getD st)))))
          ⟨_, rfl, g3, by rw [List.take_zero]; exact hD3, hF3⟩ (fun j σ H' _ ⟨_, _, g, _⟩ => SqL.of (g.at hlp .lst)) ?_ ?_⟩
        · rintro j y σ H4 hy ⟨s7, rfl, g4, hD4, hF4⟩
          rw [List.getElem?_map] at hy
          cases hq : e.parts[j]? with
          | none => rw [hq] at hy; cases hy
          | some q =>
            rw [hq] at hy
            cases hy
            obtain ⟨hqm, hqn⟩ := hbe q (List.mem_of_getElem? hq)
            have same : addAll g ((e.parts.take j).map fun p => (p, g e.name)) e.name = g e.name := by
              rw [addAll_at, amt_zero]
              · omega
              · intro z hz
                obtain ⟨p, hp2, rfl⟩ := List.mem_map.mp hz
                exact (hbe p (List.mem_of_mem_take hp2)).2
            refine ⟨_, rfl, _, rfl, D, _, rfl, dgetS hD4 (get?_numOf hqm), _, rfl, _, rfl, D, _, rfl, dgetS hD4 (get?_numOf hnm), _, _, rfl, rfl, _, dputS hD4 (by rw [numOf_len, sizeLine_eq]; omega), _, rfl, g4.mut nD hD4 .dK, ?_, ?_⟩
            · rw [upd_same, put_numOf hqm, take_snoc hq, List.map_append, same]
              show some (HO.dK (dS (numOf es (upF _ q _)))) = some (HO.dK (dS (numOf es (addAll _ (_ ++ [(q, g e.name)])))))
              rw [addAll_snoc]
            · rw [upd_ne DF.symm]
              exact hF4
        · rintro σ H4 ⟨s7, rfl, g4, hD4, hF4⟩
          refine ⟨_, _, _, _, rfl, g4, ?_, hF4⟩
          rw [List.length_map, List.take_length] at hD4
          rw [take_snoc he, fsS_snoc, hfi]
          exact hD4
      have fsn : fs (es.take (i + 1)) (getD st) = fs (es.take i) (getD st) ++ (if e.parts = [] then [] else [(e.name, g e.name)]) := by rw [take_snoc he, fs_snoc, hfi]
      have notin : e.name ∉ (fs (es.take i) (getD st)).map (·.1) := fun hm2 => take_notin hnd he (fs_names _ _ _ hm2)
      refine gtup3 (g2.at ht .tup) ⟨_, rfl, rd_nil (SqL.of hlp2) fun p hpn => ⟨_, rfl, ?_⟩⟩
      have g3 : Gr Tb H (upd H2 p (.lst [])) := g2.trans (Gr.new hpn)
      have hD3 : upd H2 p (.lst []) D = some (.dK (dS (numOf es g))) := (Gr.new (T := Tb) hpn).at hD2 .dK
      have hF3 : upd H2 p (.lst []) F = some (.dK (dS (fs (es.take i) (getD st)))) := (Gr.new (T := Tb) hpn).at hF2 .dK
      cases hps : e.parts with
      | nil =>
        refine step _ g3 hD3 ?_
        rw [fsn, if_pos hps, List.append_nil]
        exact hF3
      | cons p0 ps =>
        have ne : e.parts ≠ [] := by rw [hps]; simp
        refine ⟨_, rfl, _, rfl, D, _, rfl, dgetS hD3 (get?_numOf hnm), _, rfl, _, rfl, F, _, rfl, dputS hF3 ?_, step _ (g3.mut nF hF3 .dK) ?_ ?_⟩
        · have h1 := fs_len (es.take i) (getD st)
          rw [List.length_take] at h1
          rw [sizeLine_eq]
          omega
        · rw [upd_ne DF]
          exact hD3
        · rw [upd_same, put_snoc notin, fsn, if_neg ne]
    · rintro σ H2 ⟨s4, s5, s6, s7, rfl, g2, hD2, hF2⟩
      rw [hlen, List.take_length] at hF2
      exact ⟨_, rfl, k F H2 g2 nF hF2⟩
end
end Sk
namespace Sk
open PySem PySem.Spec PyProof.Rows L2
abbrev s_check_stock : Stmt := topS 16
abbrev N_check_stock : List Str := ["catalogue", "stock", "names", "name", "entry"]
theorem sc_check_stock : FnScope N_check_stock ["catalogue", "stock"] (defScope s_check_stock) := ⟨rfl, rfl, rfl, by decide +kernel, rfl, by decide +kernel, by decide +kernel⟩
/-- a stock of known names, none below zero -/
structure StockOk (es : List Ent) (st : Num) : Prop where
  nd : (st.map (·.1)).Nodup
  few : st.length < 64
  known : ∀ q ∈ st, q.1 ∈ es.map (·.name)
  pos : ∀ q ∈ st, 0 ≤ q.2
def sp_check_stock (Tb : List (Addr × Str)) (K : PySem.W.Frag) : Sp := fun vs H Q _ => ∃ (a b : Addr) (xs : List V) (es : List Ent) (st : Num), vs = [.ref a, .ref b] ∧ SqL K H a xs ∧ CatAt H xs es ∧ H b = some (.dK (dS st)) ∧ StockOk es st ∧ es.length ≤ 100000 ∧ ∀ H', Gr Tb H H' → Q .non H'
section
variable {P : Program} {w : World} {K : PySem.W.Frag} {mg : Str → Option Value} {base : Heap} {Tb : List (Addr × Str)}
theorem ok_check_stock {f : Addr} {fd : FuncData} (F : FnP K "check_stock" s_check_stock f fd) (T : Tx K mg) : FnOk P w K mg base CX0 1 f fd ["catalogue", "stock"] (sp_check_stock Tb K) := by
  refine F.ok sc_check_stock (fun vs H Q E h => ?_) (fun cdv A outer s H vs Q E hr h => ?_)
  · obtain ⟨_, _, _, _, _, rfl, _⟩ := h
    rfl
  · obtain ⟨a, b, xs, es, st, rfl, ha, hc, hb, ok, hz, k⟩ := h
    refine ⟨_, PSs.nox (pss_cons (ps_setLc (i := 2) (own := [("entry", 4)]) (g := (gName 4)) (tt := tYes) rfl sc_check_stock.nd rfl rfl (sw_true rfl rfl rfl (by decide +kernel)) (piL (K := K) rfl (pv 0)) (blkOk_by (N := N_check_stock) (sc := (defScope s_check_stock)) (by decide +kernel)) (fun _ _ _ _ _ => (pg_name (i := 4) sc_check_stock.nd rfl (Or.inl rfl))) (fun _ _ _ _ _ => pts_nil) (fun _ _ _ _ _ => (pe_ix (ixT (K := K) rfl) (pv 4) pe_int (fun _ _ => rfl))))
      (pss_one (ps_for PassesOwn.never rfl (piL (K := K) rfl (pe_callB (call_sortedD rfl) (by rfl) T.n_sorted (by decide +kernel) (pa_cons (pv 1) pa_nil))) (pg_name (i := 3) sc_check_stock.nd rfl (Or.inl rfl)) (pss_one (ps_if (PW.pt (pw_or (pt_cmpR (opNotIn (K := K) rfl) (pv 3) (pv 2) (by with_unfolding_all rfl)) (pw_or1 (pt_cmpR op_lt (pe_dget (hu_of hr) (pv 1) (pv 3) (fun _ _ => rfl)) pe_int (nomark _))))) (pss_one ps_never) pss_nil))))), ?_⟩
    refine ⟨_, rfl, a, rfl, ⟨_, ha⟩, fun D hD => lc_names (Tb := Tb) ha hc hz hD rfl fun H1 g1 hD1 => ?_⟩
    have hkeys : (dS st).map (·.1) = (st.map (·.1)).map Sum.inr := by
      unfold dS
      rw [List.map_map, List.map_map]
      rfl
    refine ⟨_, rfl, b, _, st.map (·.1), rfl, .inl (g1.at hb .dK), hkeys, by rw [List.length_map]; exact ok.few, fun ys p hp _ hpn => ?_⟩
    have g2 : Gr Tb H (upd H1 p (.lst (ys.map V.str))) := g1.trans (Gr.new hpn)
    refine ⟨p, rfl, ⟨_, SqL.of upd_same⟩, for_list (K := K) (a := p) (xs := ys.map V.str) (fun i σ H' => ∃ s3 s4 : Option V, σ = [some (.ref a), some (.ref b), some (.ref D), s3, s4] ∧ Gr Tb H H' ∧ H' p = some (.lst (ys.map V.str)) ∧ H' D = some (.lst ((es.map (·.name)).map V.str)))
      ⟨_, _, rfl, g2, upd_same, by rw [upd_ne (ne_of_none hD1 hpn)]; exact hD1⟩ (fun i σ H' _ ⟨_, _, _, _, h, _⟩ => SqL.of h) ?_ (fun σ H' ⟨_, _, _, g, _⟩ => k H' g)⟩
    rintro i x σ H2 hx ⟨s3, s4, rfl, g3, hp2, hD2⟩
    rw [List.getElem?_map] at hx
    cases hy : ys[i]? with
    | none => rw [hy] at hx; cases hx
    | some y =>
      rw [hy] at hx
      cases hx
      have hym : y ∈ st.map (·.1) := hp.mem_iff.mp (List.mem_of_getElem? hy)
      obtain ⟨q, hq, rfl⟩ := List.mem_map.mp hym
      have hk := ok.known q hq
      refine ⟨_, rfl, _, rfl, D, _, rfl, .inl (SqL.of hD2), rfl, flat_strs _, _, rfl, ?_⟩
      rw [inV_strs, show (if true = true then !decide (q.1 ∈ es.map (·.name)) else decide (q.1 ∈ es.map (·.name))) = false by rw [if_pos rfl, decide_eq_true hk]; rfl]
      refine ⟨_, rfl, _, rfl, b, _, rfl, dgetS (g3.at hb .dK) (get_some ok.nd hq), _, _, rfl, rfl, _, rfl, ?_⟩
      rw [decide_eq_false (show ¬ q.2 < 0 by have := ok.pos q hq; omega)]
      exact ⟨_, _, rfl, g3, hp2, hD2⟩
end
end Sk
namespace Sk
open PySem PySem.Spec PyProof.Rows L2
abbrev s_first_splits : Stmt := topS 18
abbrev N_first_splits : List Str := ["entries", "stock", "number", "found", "name", "most"]
theorem sc_first_splits : FnScope N_first_splits ["entries", "stock", "number"] (defScope s_first_splits) := ⟨rfl, rfl, rfl, by decide +kernel, rfl, by decide +kernel, by decide +kernel⟩
/-- from the first on, as many as are left -/
def greedy : Num → Int → Num
  | [], _ => []
  | q :: l, n => (q.1, if q.2 < n then q.2 else n) :: greedy l (n - if q.2 < n then q.2 else n)
def sp_first_splits (Tb : List (Addr × Str)) (K : PySem.W.Frag) : Sp := fun vs H Q _ => ∃ (a b : Addr) (xs : List V) (es : List Ent) (st : Num) (n : Int), vs = [.ref a, .ref b, .int n] ∧ SqL K H a xs ∧ CatAt H xs es ∧ H b = some (.dK (dS st)) ∧ (es.map (·.name)).Nodup ∧ Behind es ∧ es.length ≤ 100000 ∧
  ∀ r H', Gr Tb H H' → Nw H r → H' r = some (.dK (dS (greedy (fs es (getD st)) n))) → Q (.ref r) H'
/-- how many are left behind -/
def leftN : Num → Int → Int
  | [], n => n
  | q :: l, n => leftN l (n - if q.2 < n then q.2 else n)
theorem leftN_snoc (q : Str × Int) : ∀ (l : Num) (n : Int), leftN (l ++ [q]) n = leftN l n - if q.2 < leftN l n then q.2 else leftN l n
  | [], _ => rfl
  | _ :: l, n => leftN_snoc q l _
theorem greedy_snoc (q : Str × Int) : ∀ (l : Num) (n : Int), greedy (l ++ [q]) n = greedy l n ++ [(q.1, if q.2 < leftN l n then q.2 else leftN l n)]
  | [], _ => rfl
  | x :: l, n => by
    show _ :: greedy (l ++ [q]) _ = _ :: (greedy l _ ++ _)
    rw [greedy_snoc q l]
    rfl
theorem greedy_names : ∀ (l : Num) (n : Int), (greedy l n).map (·.1) = l.map (·.1)
  | [], _ => rfl
  | q :: l, n => by
    show q.1 :: (greedy l _).map (·.1) = q.1 :: l.map (·.1)
    rw [greedy_names l]
theorem greedy_len (l : Num) (n : Int) : (greedy l n).length = l.length := by
  have := congrArg List.length (greedy_names l n)
  rwa [List.length_map, List.length_map] at this
theorem fs_nodup : ∀ {l : List Ent} (f : Str → Int), (l.map (·.name)).Nodup → ((fs l f).map (·.1)).Nodup
  | [], _, _ => List.nodup_nil
  | e :: l, f, h => by
    rw [List.map_cons, List.nodup_cons] at h
    rw [fs, List.map_append]
    refine List.nodup_append.mpr ⟨by split <;> simp, fs_nodup _ h.2, fun x hx y hy => ?_⟩
    intro z
    have h2 := fs_names l _ y hy
    split at hx
    · cases hx
    · rw [List.map_cons, List.map_nil] at hx
      have h3 : x = e.name := List.mem_singleton.mp hx
      exact h.1 (by rw [← h3, z]; exact h2)
theorem take_notin1 {d : Num} (nd : (d.map (·.1)).Nodup) {i : Nat} {q : Str × Int} (h : d[i]? = some q) : q.1 ∉ (d.take i).map (·.1) := fun hm => by
  obtain ⟨j, hj⟩ := List.mem_iff_getElem?.mp hm
  have hlt : j < ((d.take i).map (·.1)).length := (List.getElem?_eq_some_iff.mp hj).1
  rw [List.length_map, List.length_take] at hlt
  rw [List.getElem?_map, List.getElem?_take_of_lt (by omega)] at hj
  have := nodup_ix nd (x := q.1) (by rw [List.getElem?_map]; exact hj) (by rw [List.getElem?_map, h]; rfl)
  omega
section
variable {P : Program} {w : World} {K : PySem.W.Frag} {mg : Str → Option Value} {base : Heap} {Tb : List (Addr × Str)}
theorem ok_first_splits {f : Addr} {fd : FuncData} (F : FnP K "first_splits" s_first_splits f fd) (T : Tx K mg) (G_full_splits : Fn P w K mg base "full_splits" 1 ["entries", "stock"] (sp_full_splits Tb K)) : FnOk P w K mg base CX0 2 f fd ["entries", "stock", "number"] (sp_first_splits Tb K) := by
  refine F.ok sc_first_splits (fun vs H Q E h => ?_) (fun cdv A outer s H vs Q E hr h => ?_)
  · obtain ⟨_, _, _, _, _, _, rfl, _⟩ := h
    rfl
  · obtain ⟨a, b, xs, es, st, n, rfl, ha, hc, hb, hnd, hbe, hz, k⟩ := h
    refine ⟨_, PSs.nox (pss_cons (ps_set (i := 3) sc_first_splits.nd rfl (Or.inl rfl) pe_dnewK)
      (pss_cons (ps_for PassesOwn.never rfl (pi_items (pe_lockV (pe_fn G_full_splits (hr.mono (by decide)) (pa_cons (pv 0) (pa_cons (pv 1) pa_nil))))) (pg_tup rfl (pgs_cons (pg_name (i := 4) sc_first_splits.nd rfl (Or.inl rfl)) (pgs_cons (pg_name (i := 5) sc_first_splits.nd rfl (Or.inl rfl)) pgs_nil))) (pss_cons (ps_dput (hu_of hr) (pv 3) (pv 4) (pe_callB (call_min2 rfl) (by rfl) T.n_min (by decide +kernel) (pa_cons (pv 2) (pa_cons (pv 5) pa_nil))) rfl)
        (pss_one (ps_aug (i := 2) sc_first_splits.nd rfl (Or.inl rfl) (pe_dget (hu_of hr) (pv 3) (pv 4) (fun _ _ => rfl)) ip_sub))))
      (pss_one (ps_ret (pv 3))))), ?_⟩
    intro F hF
    have nF : Nw H F := .of hF
    have g0 : Gr Tb H (upd H F (.dK [])) := Gr.new hF
    refine ⟨_, rfl, _, rfl, a, b, xs, es, st, rfl, g0.ext_seq ha, CatAt.gr g0 hc, g0.at hb .dK, hnd, hbe, hz, fun r H1 g1 hr hr1 => ?_⟩
    refine ⟨r, _, rfl, hr1, trivial, fun od => ?_⟩
    have g01 := g0.trans g1
    have hF1 := g1.at (upd_same (H := H) (a := F) (o := .dK [])) .dK
    have rF : r ≠ F := fun z => by
      obtain ⟨ps, e⟩ := hr _ (by rw [z]; exact upd_same)
      cases e
    have g2 : Gr Tb H (upd H1 r (.frz od (.dK (dS (fs es (getD st)))))) := g01.mut (g0.nw hr) hr1 .dK
    have hfl := fs_len es (getD st)
    have nd := fs_nodup (getD st) hnd
    generalize fs es (getD st) = d at hr1 g2 hfl nd k
    refine ⟨r, od, _, rfl, upd_same, for_it walk_items (fun i σ H' => ∃ s4 s5 : Option V, σ = [some (.ref a), some (.ref b), some (.int (leftN (d.take i) n)), some (.ref F), s4, s5] ∧ Gr Tb H H' ∧ H' r = some (.frz od (.dK (dS d))) ∧ H' F = some (.dK (dS (greedy (d.take i) n))))
      ⟨_, _, rfl, g2, upd_same, by rw [upd_ne (Ne.symm rF)]; exact hF1⟩ (fun _ _ _ _ ⟨_, _, _, _, h, _⟩ => h) ?_ ?_⟩
    · rintro i x σ H2 H3 hi ⟨s4, s5, rfl, g3, hr2, hF2⟩ ⟨T, u, v, e0, e1, e2, e3, e4⟩
      subst e2
      subst e0
      rw [dS_len] at hi
      obtain ⟨q, hq⟩ : ∃ q, d[i]? = some q := ⟨_, List.getElem?_eq_getElem hi⟩
      have hq2 : (dS d)[i]? = some (Sum.inr q.1, V.int q.2) := by
        unfold dS
        rw [List.getElem?_map, hq]
        rfl
      have e3' : (dS d)[i]?.map (fun kv => kV kv.1) = some u := e3
      have e4' : (dS d)[i]?.map Prod.snd = some v := e4
      rw [hq2] at e3' e4'
      cases e3'
      cases e4'
      have gT : Gr Tb H2 (upd H2 T (.tup [V.str q.1, V.int q.2])) := Gr.new e1
      have hF3 := gT.at hF2 .dK
      have hr3 := gT.at hr2 .frz
      refine gtup2 upd_same ?_
      have hl : (greedy (d.take i) n).length = i := by rw [greedy_len, List.length_take]; omega
      refine ⟨_, rfl, _, rfl, _, _, rfl, _, rfl, _, rfl, F, _, rfl, dputS hF3 (by rw [hl, sizeLine_eq]; omega), _, rfl, _, rfl, _, rfl, F, _, rfl, dgetS (i := if q.2 < leftN (d.take i) n then q.2 else leftN (d.take i) n) upd_same ?_, _, _, rfl, rfl, ?_⟩
      · rw [get?_put, if_pos rfl]
      · refine ⟨some (.str q.1), some (.int q.2), ?_, (g3.trans gT).mut nF hF3 .dK, ?_, ?_⟩
        · rw [take_snoc hq, leftN_snoc]
          rfl
        · rw [upd_ne rF]
          exact hr3
        · rw [upd_same, take_snoc hq, greedy_snoc, put_new' (by rw [greedy_names]; exact take_notin1 nd hq)]
    · rintro σ H2 ⟨s4, s5, rfl, g3, hr2, hF2⟩
      rw [dS_len, List.take_length] at hF2
      exact ⟨_, rfl, k F H2 g3 nF hF2⟩
end
end Sk
namespace Sk
open PySem PySem.Spec PyProof.Rows L2
theorem behind_of : ∀ {es : List Ent}, Ordered es → (es.map (·.name)).Nodup → (∀ e ∈ es, ∀ p ∈ e.parts, ∃ e' ∈ es, e'.name = p ∧ e'.w < e.w) → (∀ e ∈ es, ∀ e' ∈ es, e'.name = e.name → e' = e) → Behind es := by
  intro es
  suffices h : ∀ (l : List Ent) (m : List Ent), Ordered (m ++ l) → ((m ++ l).map (·.name)).Nodup → (∀ e ∈ l, ∀ p ∈ e.parts, ∃ e' ∈ m ++ l, e'.name = p ∧ e'.w < e.w) → Behind l from fun ho hn hp _ => h es [] ho hn hp
  intro l
  induction l with
  | nil => intro _ _ _ _; exact trivial
  | cons e l ih =>
    intro m ho hn hp
    refine ⟨fun p hpp => ?_, ih (m ++ [e]) (by rw [List.append_assoc]; exact ho) (by rw [List.append_assoc]; exact hn) fun e2 he2 p hpp => ?_⟩
    · obtain ⟨e', he', rfl, hw⟩ := hp e (List.mem_cons_self ..) p hpp
      have ne : e' ≠ e := fun z => by rw [z] at hw; omega
      have hl : e' ∈ l := by
        rcases List.mem_append.mp he' with z | z
        · have h1 : kLt e.key e'.key = false := (List.pairwise_append.mp ho).2.2 e' z e (List.mem_cons_self ..)
          rcases kLt_no.mp h1 with h2 | ⟨h2, _⟩
          · have h3 : (0 : Int) - e'.w < 0 - e.w := h2
            omega
          · have h3 : (0 : Int) - e.w = 0 - e'.w := h2
            omega
        · exact (List.mem_cons.mp z).resolve_left ne
      refine ⟨List.mem_map.mpr ⟨e', hl, rfl⟩, fun z => ?_⟩
      rw [List.map_append, List.map_cons] at hn
      have h1 := (List.nodup_append.mp hn).2.1
      rw [List.nodup_cons] at h1
      exact h1.1 (List.mem_map.mpr ⟨e', hl, z⟩)
    · obtain ⟨e', he', h1, h2⟩ := hp e2 (List.mem_cons_of_mem _ he2) p hpp
      exact ⟨e', by rw [List.append_assoc]; exact he', h1, h2⟩
theorem Valid.behind {es : List Ent} (v : Valid es) (o : Ordered es) : Behind es := behind_of o v.nodup v.lighter fun e he e' he' z => by
  obtain ⟨i, hi⟩ := List.mem_iff_getElem?.mp he
  obtain ⟨j, hj⟩ := List.mem_iff_getElem?.mp he'
  have ij : j = i := nodup_ix v.nodup (x := e.name) (by rw [List.getElem?_map, hj, ← z]; rfl) (by rw [List.getElem?_map, hi]; rfl)
  rw [ij, hi] at hj
  exact (Option.some.inj hj).symm
theorem getD_pos {d : Num} (h : ∀ q ∈ d, 0 ≤ q.2) (x : Str) : 0 ≤ getD d x := by
  unfold getD get?
  cases q : d.find? fun q => decide (q.1 = x) with
  | none => exact Int.le_refl _
  | some z => exact h z (List.mem_of_find?_eq_some q)
end Sk
namespace Sk
open PySem PySem.Spec PyProof.Rows L2
theorem EntAt.uniq {G : Hp} {v : V} {e e' : Ent} (h : EntAt G v e) (h' : EntAt G v e') : e' = e := by
  obtain ⟨t, l, rfl, h1, h2⟩ := h
  obtain ⟨t', l', q, h3, h4⟩ := h'
  cases q
  rw [h1] at h3
  obtain ⟨a1, a2⟩ := List.cons.inj (HO.tup.inj (Option.some.inj h3))
  obtain ⟨b1, b2⟩ := List.cons.inj a2
  obtain ⟨c1, _⟩ := List.cons.inj b2
  obtain rfl := V.ref.inj c1
  rw [h2] at h4
  have e3 : e.parts = e'.parts := (List.map_inj_right (fun x y z => V.str.inj z)).mp (HO.lst.inj (Option.some.inj h4))
  have e1 : e.name = e'.name := V.str.inj a1
  have e2 : e.w = e'.w := V.int.inj b1
  cases e
  cases e'
  dsimp only at e1 e2 e3
  rw [e1, e2, e3]
theorem CatAt.uniq {G : Hp} : ∀ {vs : List V} {es es' : List Ent}, CatAt G vs es → CatAt G vs es' → es' = es
  | _, _, _, .nil, .nil => rfl
  | _, _, _, .cons h t, .cons h' t' => by rw [h.uniq h', CatAt.uniq t t']
/-- the same values, as they stood -/
theorem CatAt.back {Tb : List (Addr × Str)} {H H1 : Hp} {xs ys : List V} {es es' : List Ent} (hc : CatAt H xs es) (g : Gr Tb H H1) (hp : ys.Perm xs) (hc2 : CatAt H1 ys es') : CatAt H ys es' := by
  obtain ⟨es2, _, c2⟩ := Paired.perm hp hc
  rw [CatAt.uniq (CatAt.gr g c2) hc2]
  exact c2
/-- the same values, as they stood -/
theorem CatAt.backM {G H1 : Hp} {xs : List V} {es : List Ent} (hc : CatAt G xs es) (s : Same G H1) : ∀ {ys : List V} {es' : List Ent}, (∀ y ∈ ys, y ∈ xs) → CatAt H1 ys es' → CatAt G ys es'
  | _, _, _, .nil => .nil
  | _, _, h, .cons a t => by
    obtain ⟨e, _, h1⟩ := Paired.left hc (h _ (List.mem_cons_self ..))
    have h2 := (h1.mono s).uniq a
    rw [h2]
    exact .cons h1 (CatAt.backM hc s (fun y hy => h y (List.mem_cons_of_mem _ hy)) t)
/-- y is a row of the entry's name and what val says -/
def ERow (H0 : Hp) (val : Ent → Int) (H : Hp) (v y : V) : Prop := ∀ e, EntAt H0 v e → ∃ t, y = .ref t ∧ H t = some (.tup [.str e.name, .int (val e)])
theorem ERow.of {H0 H : Hp} {val : Ent → Int} {v : V} {e : Ent} {t : Addr} (h : EntAt H0 v e) (ht : H t = some (.tup [.str e.name, .int (val e)])) : ERow H0 val H v (.ref t) := fun e2 h2 => by
  rw [h.uniq h2]
  exact ⟨t, rfl, ht⟩
theorem erow_mono {H0 : Hp} {val : Ent → Int} {D : Addr} : ∀ H H' x y, (∀ a o, NoTab o → (∀ l, o ≠ .lst l) ∨ a ≠ D → H a = some o → H' a = some o) → ERow H0 val H x y → ERow H0 val H' x y := fun H H' x y m r e he => by
  obtain ⟨t, h1, h2⟩ := r e he
  exact ⟨t, h1, m _ _ .tup (.inl fun l z => by cases z) h2⟩
theorem erow_dict {K : PySem.W.Frag} {H0 H : Hp} {val : Ent → Int} {keep : V → Bool} {kp : Ent → Bool} (hk : ∀ v e, EntAt H0 v e → keep v = kp e) : ∀ {xs : List V} {es : List Ent} {ys : List V}, CatAt H0 xs es → Paired (ERow H0 val H) (xs.filter keep) ys →
    ∃ ps : List Addr, ys = ps.map V.ref ∧ Paired (fun p kv => SqT K H p [kV kv.1, kv.2]) ps (dS ((es.filter kp).map fun e => (e.name, val e)))
  | [], _, _, .nil, .nil => ⟨[], rfl, .nil⟩
  | x :: xs, e :: es, ys, .cons h t, p => by
    rw [List.filter_cons] at p ⊢
    rw [hk x e h] at p
    by_cases c : kp e = true
    · rw [if_pos c] at p ⊢
      cases p with
      | cons a p =>
        obtain ⟨ta, rfl, h1⟩ := a e h
        obtain ⟨ps, e2, h2⟩ := erow_dict hk t p
        exact ⟨ta :: ps, by rw [e2]; rfl, .cons (SqT.of h1) h2⟩
    · rw [if_neg c] at p ⊢
      exact erow_dict hk t p
/-- a number that the entry tells -/
def EVal (H0 : Hp) (val : Ent → Int) (v y : V) : Prop := ∀ e, EntAt H0 v e → y = .int (val e)
theorem eval_list {H0 : Hp} {val : Ent → Int} {keep : V → Bool} {kp : Ent → Bool} (hk : ∀ v e, EntAt H0 v e → keep v = kp e) : ∀ {xs : List V} {es : List Ent} {ys : List V}, CatAt H0 xs es → Paired (EVal H0 val) (xs.filter keep) ys → ys = ((es.filter kp).map val).map V.int
  | [], _, _, .nil, .nil => rfl
  | x :: xs, e :: es, ys, .cons h t, p => by
    rw [List.filter_cons] at p ⊢
    rw [hk x e h] at p
    by_cases c : kp e = true
    · rw [if_pos c] at p ⊢
      cases p with
      | cons a p =>
        rw [a e h, eval_list hk t p]
        rfl
    · rw [if_neg c] at p ⊢
      exact eval_list hk t p
/-- has parts, has number -/
def hasParts (H : Hp) (v : V) : Bool := match itemAt H 2 v with
  | some (.ref l) => match H l with
    | some (.lst []) => false
    | _ => true
  | _ => true
theorem hasParts_at {H : Hp} {v : V} {e : Ent} (h : EntAt H v e) : hasParts H v = decide (e.parts ≠ []) := by
  obtain ⟨t, l, rfl, ht, hl⟩ := h
  unfold hasParts
  rw [itemAt_tup ht]
  show (match H l with
    | some (.lst []) => false
    | _ => true) = _
  rw [hl]
  cases e.parts with
  | nil => rfl
  | cons _ _ => rfl
def hasNum (H : Hp) (d : Num) (v : V) : Bool := match itemAt H 0 v with
  | some (.str n) => decide (0 < getD d n)
  | _ => false
theorem hasNum_at {H : Hp} {d : Num} {v : V} {e : Ent} (h : EntAt H v e) : hasNum H d v = decide (0 < getD d e.name) := by
  obtain ⟨t, l, rfl, ht, hl⟩ := h
  unfold hasNum
  rw [itemAt_tup ht]
  rfl
theorem get?_of_pos {d : Num} {x : Str} (h : getD d x ≠ 0) : get? d x = some (getD d x) := by
  unfold getD at h ⊢
  cases q : get? d x with
  | none => rw [q] at h; exact absurd rfl h
  | some i => rfl
end Sk
namespace Sk
open PySem PySem.Spec PyProof.Rows L2
theorem fs_nonneg : ∀ {es : List Ent} {f : Str → Int}, Behind es → (es.map (·.name)).Nodup → (∀ x, 0 ≤ f x) → ∀ q ∈ fs es f, 0 ≤ q.2
  | [], _, _, _, _, _, hq => by cases hq
  | e :: es, f, b, nd, h, q, hq => by
    rw [List.map_cons, List.nodup_cons] at nd
    rw [fs] at hq
    rcases List.mem_append.mp hq with z | z
    · split at z
      · cases z
      · rw [List.mem_singleton.mp z]
        exact h _
    · refine fs_nonneg b.2 nd.2 (fun x => ?_) q z
      rw [addAll_at]
      have h1 : 0 ≤ amt (e.parts.map fun p => (p, f e.name)) x := by
        generalize e.parts = l
        induction l with
        | nil => exact Int.le_refl _
        | cons p l ih =>
          rw [List.map_cons, amt_cons]
          have := h e.name
          split <;> omega
      have := h x
      omega
theorem greedy_sum : ∀ {l : Num} {n : Int}, (∀ q ∈ l, 0 ≤ q.2) → 0 ≤ n → n ≤ (l.map (·.2)).sum → ((greedy l n).map (·.2)).sum = n
  | [], n, _, h0, h1 => by
    rw [List.map_nil, List.sum_nil] at h1
    show (0 : Int) = n
    omega
  | q :: l, n, h, h0, h1 => by
    have hq := h q (List.mem_cons_self ..)
    have hl := fun x hx => h x (List.mem_cons_of_mem _ hx)
    rw [List.map_cons, List.sum_cons] at h1
    show ((q.1, _) :: greedy l _ |>.map (·.2)).sum = n
    rw [List.map_cons, List.sum_cons]
    have hs : 0 ≤ (l.map (·.2)).sum := by
      clear h1 h
      induction l with
      | nil => exact Int.le_refl _
      | cons x l ih =>
        rw [List.map_cons, List.sum_cons]
        have := hl x (List.mem_cons_self ..)
        have := ih fun y hy => hl y (List.mem_cons_of_mem _ hy)
        omega
    by_cases c : q.2 < n
    · rw [if_pos c, greedy_sum hl (by omega) (by omega)]
      show q.2 + _ = n
      omega
    · rw [if_neg c, greedy_sum hl (by omega) (by omega)]
      show n + _ = n
      omega
theorem greedy_mem : ∀ {l : Num} {n : Int}, (∀ q ∈ l, 0 ≤ q.2) → 0 ≤ n → ∀ q ∈ greedy l n, 0 ≤ q.2 ∧ q.2 ≤ n
  | [], _, _, _, _, h => by cases h
  | a :: l, n, h, h0, q, hq => by
    have ha := h a (List.mem_cons_self ..)
    rcases List.mem_cons.mp hq with rfl | hq
    · show 0 ≤ (if a.2 < n then a.2 else n) ∧ (if a.2 < n then a.2 else n) ≤ n
      split <;> omega
    · have h1 := greedy_mem (fun x hx => h x (List.mem_cons_of_mem _ hx)) (n := n - if a.2 < n then a.2 else n) (by split <;> omega) q hq
      refine ⟨h1.1, ?_⟩
      have := h1.2
      split at this <;> omega
theorem nameB_shwS {x : Str} (h : nameB x = true) : ShwS x := by
  unfold nameB at h
  simp only [Bool.and_eq_true, decide_eq_true_eq, List.all_eq_true] at h
  refine ⟨Nat.le_trans h.2.1 (by decide), fun c hc => ?_⟩
  have h1 := h.2.2 c hc
  have h2 : ∀ c ∈ letters.cps.toList, c < 16 ^ 8 := by decide +kernel
  exact h2 c h1
/-- the kinds with parts and what is split of them -/
def fsl (f : Str → Int) (l : List Ent) : Num := (l.filter fun e => decide (e.parts ≠ [])).map fun e => (e.name, f e.name)
theorem fsl_snoc {f : Str → Int} {es : List Ent} {i : Nat} {e : Ent} (h : es[i]? = some e) : fsl f (es.take (i + 1)) = fsl f (es.take i) ++ if e.parts = [] then [] else [(e.name, f e.name)] := by
  unfold fsl
  rw [take_snoc h, List.filter_append, List.map_append, List.filter_cons, List.filter_nil]
  by_cases c : e.parts = []
  · rw [if_pos c, if_neg (by rw [decide_eq_true_eq]; exact fun z => z c)]
    rfl
  · rw [if_neg c, if_pos (decide_eq_true c)]
    rfl
theorem fsl_names {f : Str → Int} {l : List Ent} {x : Str} (h : x ∈ (fsl f l).map (·.1)) : x ∈ l.map (·.name) := by
  unfold fsl at h
  rw [List.map_map] at h
  obtain ⟨e, he, rfl⟩ := List.mem_map.mp h
  exact List.mem_map.mpr ⟨e, (List.mem_filter.mp he).1, rfl⟩
theorem fsl_len (f : Str → Int) (l : List Ent) : (fsl f l).length ≤ l.length := by
  unfold fsl
  rw [List.length_map]
  exact List.length_filter_le _ _
/-- the same order, as it stood -/
theorem CatAt.backF {G H1 : Hp} {xs ys : List V} {es es' : List Ent} (hc : CatAt G xs es) (s : Same G H1) (hp : ys.Perm xs) (hc2 : CatAt H1 ys es') : CatAt G ys es' := by
  obtain ⟨es2, _, c2⟩ := Paired.perm hp hc
  rw [CatAt.uniq (CatAt.mono s c2) hc2]
  exact c2
end Sk
namespace Sk
open PySem PySem.Spec PyProof.Rows L2
abbrev s_checked_splits : Stmt := topS 19
abbrev N_checked_splits : List Str := ["catalogue", "stock", "number", "entries", "found"]
theorem sc_checked_splits : FnScope N_checked_splits ["catalogue", "stock", "number"] (defScope s_checked_splits) := ⟨rfl, rfl, rfl, by decide +kernel, rfl, by decide +kernel, by decide +kernel⟩
def sp_checked_splits (Tb : List (Addr × Str)) (K : PySem.W.Frag) : Sp := fun vs H Q _ => ∃ (a b : Addr) (xs : List V) (es : List Ent) (st : Num) (n : Int), vs = [.ref a, .ref b, .int n] ∧ SqL K H a xs ∧ CatAt H xs es ∧ H b = some (.dK (dS st)) ∧ LamX.Tabs Tb H ∧ Valid es ∧ StockOk es st ∧ 0 ≤ n ∧ (∀ es', es'.Perm es → Ordered es' → n ≤ ((fs es' (getD st)).map (·.2)).sum) ∧
  ∀ t r d H' ys es', es'.Perm es → Ordered es' → Gr Tb H H' → H' t = some (.tup [.ref r, .ref d]) → H' r = some (.lst ys) → CatAt H' ys es' → H' d = some (.dK (dS (greedy (fs es' (getD st)) n))) → Q (.ref t) H'
section
variable {P : Program} {w : World} {K : PySem.W.Frag} {mg : Str → Option Value} {base : Heap} {Tb : List (Addr × Str)}
theorem ok_checked_splits {f : Addr} {fd : FuncData} (F : FnP K "checked_splits" s_checked_splits f fd) (T : Tx K mg) (G_check_catalogue : Fn P w K mg base "check_catalogue" 3 ["catalogue"] (sp_check_catalogue Tb K)) (G_check_stock : Fn P w K mg base "check_stock" 1 ["catalogue", "stock"] (sp_check_stock Tb K)) (G_first_splits : Fn P w K mg base "first_splits" 2 ["entries", "stock", "number"] (sp_first_splits Tb K)) (G_ordered : Fn P w K mg base "ordered" 4 ["catalogue"] (sp_ordered Tb K)) : FnOk P w K mg base CX0 5 f fd ["catalogue", "stock", "number"] (sp_checked_splits Tb K) := by
  refine F.ok sc_checked_splits (fun vs H Q E h => ?_) (fun cdv A outer s H vs Q E hr h => ?_)
  · obtain ⟨_, _, _, _, _, _, rfl, _⟩ := h
    rfl
  · obtain ⟨a, b, xs, es, st, n, rfl, ha, hc, hb, ht, hv, so, n0, n1, k⟩ := h
    refine ⟨_, PSs.nox (pss_cons (ps_expr (pe_fn G_check_catalogue (hr.mono (by decide)) (pa_cons (pv 0) pa_nil)))
      (pss_cons (ps_expr (pe_fn G_check_stock (hr.mono (by decide)) (pa_cons (pv 0) (pa_cons (pv 1) pa_nil))))
      (pss_cons (ps_if (pt_cmpR op_lt (pv 2) pe_int (nomark _)) (pss_one ps_never) pss_nil)
      (pss_cons (ps_set (i := 3) sc_checked_splits.nd rfl (Or.inl rfl) (pe_fn G_ordered (hr.mono (by decide)) (pa_cons (pv 0) pa_nil)))
      (pss_cons (ps_set (i := 4) sc_checked_splits.nd rfl (Or.inl rfl) (pe_fn G_first_splits (hr.mono (by decide)) (pa_cons (pv 3) (pa_cons (pv 1) (pa_cons (pv 2) pa_nil)))))
      (pss_cons (ps_if (pt_cmpR op_lt (pe_sumVals rfl (by rfl) T.n_sum (pv 4)) (pv 2) (nomark _)) (pss_one ps_never) pss_nil)
      (pss_one (ps_ret (pe_tup (pa_cons (pv 3) (pa_cons (pv 4) pa_nil))))))))))), ?_⟩
    refine ⟨_, rfl, a, xs, es, rfl, ha, hc, hv, fun H1 g1 => ?_⟩
    refine ⟨_, rfl, _, rfl, a, b, xs, es, st, rfl, g1.ext_seq ha, CatAt.gr g1 hc, g1.at hb .dK, so, hv.few, fun H2 g2 => ?_⟩
    refine ⟨_, rfl, _, _, rfl, rfl, _, rfl, ?_⟩
    refine ite2 (fun c1 => absurd (of_decide_eq_true c1) (by omega)) (fun c1 => ?_)
    have g12 := g1.trans g2
    refine ⟨_, rfl, a, xs, es, rfl, g12.ext_seq ha, CatAt.gr g12 hc, g12.tab ht, hv.few, fun r H4 ys es' hp ho hc4 g4 hr => ?_⟩
    have g5 : Gr Tb H2 (upd H4 r (.lst ys)) := g4.trans (Gr.new hr)
    have hc5 : CatAt (upd H4 r (.lst ys)) ys es' := CatAt.gr g5 hc4
    have hv' := hv.perm hp
    have g15 := g12.trans g5
    refine ⟨_, rfl, _, rfl, _, rfl, r, b, ys, es', st, n, rfl, SqL.of upd_same, hc5, g15.at hb .dK, hv'.nodup, hv'.behind ho, hv'.few, fun N H6 g6 hN hN6 => ?_⟩
    have sum : ((greedy (fs es' (getD st)) n).map (·.2)).sum = n := greedy_sum (fs_nonneg (hv'.behind ho) hv'.nodup fun x => getD_pos so.pos x) n0 (n1 es' hp ho)
    refine ⟨_, rfl, N, _, (greedy (fs es' (getD st)) n).map (·.2), rfl, hN6, ?_, _, rfl, _, _, rfl, rfl, _, rfl, ?_⟩
    · unfold dS
      rw [List.map_map, List.map_map]
      rfl
    · refine ite2 (fun c2 => absurd (of_decide_eq_true c2) (by rw [sum]; omega)) (fun c2 => ?_)
      refine ⟨_, rfl, _, rfl, by show 2 ≤ sizeLine; decide, fun t htn => ?_⟩
      have g7 : Gr Tb H6 (upd H6 t (.tup [.ref r, .ref N])) := Gr.new htn
      exact k t r N _ ys es' hp ho ((g15.trans g6).trans g7) upd_same (g7.at (g6.at upd_same .lst) .lst) (CatAt.gr (g6.trans g7) hc5) (g7.at hN6 .dK)
end
end Sk
namespace Sk
open PySem PySem.Spec PyProof.Rows L2
abbrev s_balanced : Stmt := topS 20
abbrev N_balanced : List Str := ["catalogue", "stock", "number", "entries", "found"]
theorem sc_balanced : FnScope N_balanced ["catalogue", "stock", "number"] (defScope s_balanced) := ⟨rfl, rfl, rfl, by decide +kernel, rfl, by decide +kernel, by decide +kernel⟩
def sp_balanced (Tb : List (Addr × Str)) (K : PySem.W.Frag) : Sp := fun vs H Q _ => ∃ (a b : Addr) (xs : List V) (es : List Ent) (st : Num) (n : Int), vs = [.ref a, .ref b, .int n] ∧ SqL K H a xs ∧ CatAt H xs es ∧ H b = some (.dK (dS st)) ∧ LamX.Tabs Tb H ∧ Valid es ∧ StockOk es st ∧ 0 ≤ n ∧ (∀ es', es'.Perm es → Ordered es' → n ≤ ((fs es' (getD st)).map (·.2)).sum) ∧
  ∀ r H' es', es'.Perm es → Ordered es' → Gr Tb H H' → Nw H r → H' r = some (.dK (dS (cleanN es' (greedy (fs es' (getD st)) n)))) → Q (.ref r) H'

section
variable {P : Program} {w : World} {K : PySem.W.Frag} {mg : Str → Option Value} {base : Heap} {Tb : List (Addr × Str)}
theorem ok_balanced {f : Addr} {fd : FuncData} (F : FnP K "balanced" s_balanced f fd) (T : Tx K mg) (G_checked_splits : Fn P w K mg base "checked_splits" 5 ["catalogue", "stock", "number"] (sp_checked_splits Tb K)) (G_clean : Fn P w K mg base "clean" 1 ["entries", "numbers"] (sp_clean Tb K)) : FnOk P w K mg base CX0 6 f fd ["catalogue", "stock", "number"] (sp_balanced Tb K) := by
  refine F.ok sc_balanced (fun vs H Q E h => ?_) (fun cdv A outer s H vs Q E hr h => ?_)
  · obtain ⟨_, _, _, _, _, _, rfl, _⟩ := h
    rfl
  · obtain ⟨a, b, xs, es, st, n, rfl, ha, hc, hb, ht, hv, so, n0, n1, k⟩ := h
    refine ⟨_, PSs.nox (pss_cons (ps_asg (pe_fn G_checked_splits (hr.mono (by decide)) (pa_cons (pv 0) (pa_cons (pv 1) (pa_cons (pv 2) pa_nil)))) (pg_tup rfl (pgs_cons (pg_name (i := 3) sc_balanced.nd rfl (Or.inl rfl)) (pgs_cons (pg_name (i := 4) sc_balanced.nd rfl (Or.inl rfl)) pgs_nil))))
      (pss_one (ps_ret (pe_fn G_clean (hr.mono (by decide)) (pa_cons (pv 3) (pa_cons (pv 4) pa_nil)))))), ?_⟩
    refine ⟨_, rfl, _, rfl, _, rfl, a, b, xs, es, st, n, rfl, ha, hc, hb, ht, hv, so, n0, n1, fun t r d H1 ys es' hp ho g1 ht1 hr1 hc1 hd1 => ?_⟩
    refine gtup2 ht1 ?_
    have hv' := hv.perm hp
    refine ⟨_, rfl, _, rfl, r, d, ys, es', _, rfl, SqL.of hr1, hc1, hd1, hv'.nodup, hv'.few, fun W H2 g2 hW hW2 => ?_⟩
    exact k W H2 es' hp ho (g1.trans g2) (g1.nw hW) hW2
end
end Sk
namespace Sk
open PySem PySem.Spec PyProof.Rows L2
/-! how many splits one piece needs -/
def sumE (es : List Ent) (g : Str → Int) : Int := (es.map fun e => g e.name).sum
def IsNeed (es : List Ent) (g : Str → Int) : Prop := ∀ e ∈ es, g e.name = (if e.parts = [] then 0 else 1) + (e.parts.map g).sum
theorem sumE_cons (e : Ent) (es : List Ent) (g : Str → Int) : sumE (e :: es) g = g e.name + sumE es g := by
  unfold sumE
  rw [List.map_cons, List.sum_cons]
theorem sumE_add (es : List Ent) (g h : Str → Int) : sumE es (fun x => g x + h x) = sumE es g + sumE es h := by
  induction es with
  | nil => rfl
  | cons e es ih =>
    rw [sumE_cons, sumE_cons, sumE_cons, ih]
    omega
theorem sumE_congr {es : List Ent} {g h : Str → Int} (e : ∀ x ∈ es, g x.name = h x.name) : sumE es g = sumE es h := by
  unfold sumE
  rw [List.map_congr_left e]
theorem sumE_zero {es : List Ent} {g : Str → Int} (h : ∀ e ∈ es, g e.name = 0) : sumE es g = 0 := by
  induction es with
  | nil => rfl
  | cons e es ih =>
    rw [sumE_cons, h e (List.mem_cons_self ..), ih fun x hx => h x (List.mem_cons_of_mem _ hx)]
    rfl
theorem sumE_nonneg {es : List Ent} {g : Str → Int} (h : ∀ e ∈ es, 0 ≤ g e.name) : 0 ≤ sumE es g := by
  induction es with
  | nil => exact Int.le_refl _
  | cons e es ih =>
    rw [sumE_cons]
    have h1 := h e (List.mem_cons_self ..)
    have h2 := ih fun x hx => h x (List.mem_cons_of_mem _ hx)
    omega
theorem sumE_zero_at {es : List Ent} {g : Str → Int} (h : ∀ e ∈ es, 0 ≤ g e.name) (z : sumE es g = 0) : ∀ e ∈ es, g e.name = 0 := by
  induction es with
  | nil => intro e he; cases he
  | cons a es ih =>
    rw [sumE_cons] at z
    have h1 := h a (List.mem_cons_self ..)
    have h2 := sumE_nonneg fun x hx => h x (List.mem_cons_of_mem _ hx)
    intro e he
    rcases List.mem_cons.mp he with rfl | he
    · omega
    · exact ih (fun x hx => h x (List.mem_cons_of_mem _ hx)) (by omega) e he
theorem sumE_pick {es : List Ent} {x : Str} {c : Int} (nd : (es.map (·.name)).Nodup) (h : x ∈ es.map (·.name)) : sumE es (fun y => if x = y then c else 0) = c := by
  induction es with
  | nil => cases h
  | cons e es ih =>
    rw [sumE_cons]
    rw [List.map_cons, List.nodup_cons] at nd
    rw [List.map_cons] at h
    by_cases q : x = e.name
    · rw [if_pos q, sumE_zero fun a ha => if_neg fun z => nd.1 (List.mem_map.mpr ⟨a, ha, z.symm.trans q⟩)]
      omega
    · rw [if_neg q, ih nd.2 ((List.mem_cons.mp h).resolve_left q)]
      omega
theorem sumE_amt {es : List Ent} (nd : (es.map (·.name)).Nodup) (g : Str → Int) : ∀ {l : Num}, (∀ q ∈ l, q.1 ∈ es.map (·.name)) → sumE es (fun x => amt l x * g x) = (l.map fun q => q.2 * g q.1).sum
  | [], _ => by
    rw [sumE_zero fun e _ => by show (0 : Int) * _ = 0; rw [Int.zero_mul]]
    rfl
  | q :: l, h => by
    rw [List.map_cons, List.sum_cons, ← sumE_amt nd g fun z hz => h z (List.mem_cons_of_mem _ hz), ← sumE_pick (c := q.2 * g q.1) nd (h q (List.mem_cons_self ..)), ← sumE_add]
    refine sumE_congr fun e _ => ?_
    show amt (q :: l) e.name * g e.name = (if q.1 = e.name then q.2 * g q.1 else 0) + amt l e.name * g e.name
    rw [amt_cons, Int.add_mul]
    by_cases c : q.1 = e.name
    · rw [if_pos c, if_pos c, c]
    · rw [if_neg c, if_neg c, Int.zero_mul]
theorem sum_mul (c : Int) (g : Str → Int) (l : List Str) : (l.map fun p => c * g p).sum = c * (l.map g).sum := by
  induction l with
  | nil => rw [List.map_nil, List.map_nil, List.sum_nil, Int.mul_zero]
  | cons p l ih => rw [List.map_cons, List.map_cons, List.sum_cons, List.sum_cons, ih, Int.mul_add]
theorem IsNeed.tail {e : Ent} {es : List Ent} {g : Str → Int} (h : IsNeed (e :: es) g) : IsNeed es g := fun x hx => h x (List.mem_cons_of_mem _ hx)
/-- all splits: for each piece as many as it needs -/
theorem total_need : ∀ {es : List Ent} (f g : Str → Int), Behind es → (es.map (·.name)).Nodup → IsNeed es g → ((fs es f).map (·.2)).sum = sumE es (fun x => f x * g x)
  | [], _, _, _, _, _ => rfl
  | e :: es, f, g, b, nd, n => by
    rw [List.map_cons, List.nodup_cons] at nd
    rw [fs, List.map_append, List.sum_append, total_need _ g b.2 nd.2 n.tail, sumE_cons]
    have h1 : sumE es (fun x => addAll f (e.parts.map fun p => (p, f e.name)) x * g x) = sumE es (fun x => f x * g x) + f e.name * (e.parts.map g).sum := by
      have h2 := sumE_amt nd.2 g (l := e.parts.map fun p => (p, f e.name)) fun q hq => by
        obtain ⟨p, hp, rfl⟩ := List.mem_map.mp hq
        exact (b.1 p hp).1
      rw [List.map_map] at h2
      have h3 : ((fun q : Str × Int => q.2 * g q.1) ∘ fun p => (p, f e.name)) = fun p => f e.name * g p := rfl
      rw [h3, sum_mul] at h2
      rw [← h2, ← sumE_add]
      refine sumE_congr fun x _ => ?_
      show addAll f _ x.name * g x.name = f x.name * g x.name + amt _ x.name * g x.name
      rw [addAll_at, Int.add_mul]
    rw [h1, n e (List.mem_cons_self ..)]
    by_cases c : e.parts = []
    · rw [if_pos c, if_pos c, c]
      simp
    · rw [if_neg c, if_neg c]
      show ([f e.name] : List Int).sum + _ = _
      rw [Int.mul_add, List.sum_cons, List.sum_nil]
      omega
theorem Behind.known : ∀ {es : List Ent}, Behind es → ∀ e ∈ es, ∀ p ∈ e.parts, p ∈ es.map (·.name) := fun b e he p hp => (Behind.at b he p hp).1
theorem need_ex : ∀ {es : List Ent}, Behind es → (es.map (·.name)).Nodup → ∃ g, IsNeed es g ∧ ∀ e ∈ es, 0 ≤ g e.name
  | [], _, _ => ⟨fun _ => 0, (fun _ h => by cases h), (fun _ h => by cases h)⟩
  | e :: es, b, nd => by
    rw [List.map_cons, List.nodup_cons] at nd
    obtain ⟨g, n, p⟩ := need_ex b.2 nd.2
    have other : ∀ x ∈ es.map (·.name), upF g e.name ((if e.parts = [] then 0 else 1) + (e.parts.map g).sum) x = g x := fun x hx => by
      unfold upF
      rw [if_neg]
      intro z
      rw [z] at hx
      exact nd.1 hx
    have self : upF g e.name ((if e.parts = [] then 0 else 1) + (e.parts.map g).sum) e.name = (if e.parts = [] then 0 else 1) + (e.parts.map g).sum := if_pos rfl
    have pos : ∀ l : List Str, (∀ x ∈ l, x ∈ es.map (·.name)) → 0 ≤ (l.map g).sum := by
      intro l
      induction l with
      | nil => intro _; exact Int.le_refl _
      | cons x l ih =>
        intro h
        rw [List.map_cons, List.sum_cons]
        obtain ⟨a, ha, rfl⟩ := List.mem_map.mp (h x (List.mem_cons_self ..))
        have h1 := p a ha
        have h2 := ih fun y hy => h y (List.mem_cons_of_mem _ hy)
        omega
    refine ⟨upF g e.name ((if e.parts = [] then 0 else 1) + (e.parts.map g).sum), fun a ha => ?_, fun a ha => ?_⟩
    · rcases List.mem_cons.mp ha with rfl | ha
      · rw [self, List.map_congr_left fun q hq => other q (b.1 q hq).1]
      · rw [other _ (List.mem_map.mpr ⟨a, ha, rfl⟩), n a ha, List.map_congr_left fun q hq => other q (b.2.known a ha q hq)]
    · rcases List.mem_cons.mp ha with rfl | ha
      · rw [self]
        have := pos a.parts fun x hx => (b.1 x hx).1
        split <;> omega
      · rw [other _ (List.mem_map.mpr ⟨a, ha, rfl⟩)]
        exact p a ha
/-- the amounts, entry by entry -/
theorem amt_incs (es : List Ent) (f : Str → Int) (x : Str) : amt (incs es f) x = (es.map fun e => f e.name * amt (ones e.parts) x).sum := by
  have one : ∀ (l : List Str) (c : Int), amt (l.map fun p => (p, c)) x = c * amt (ones l) x := by
    intro l c
    induction l with
    | nil =>
      show (0 : Int) = c * 0
      omega
    | cons p l ih =>
      unfold ones at ih ⊢
      rw [List.map_cons, List.map_cons, amt_cons, amt_cons, ih, Int.mul_add]
      show (if p = x then c else 0) + _ = c * (if p = x then 1 else 0) + _
      split <;> omega
  induction es with
  | nil => rfl
  | cons e es ih =>
    unfold incs at ih ⊢
    rw [List.flatMap_cons, amt_append, ih, List.map_cons, List.sum_cons, one]
/-- one split more of the kind e0 -/
theorem pn_put {es : List Ent} (nd : (es.map (·.name)).Nodup) {e0 : Ent} (h0 : e0 ∈ es) (st c : Num) (x : Str) : pn es st (put c e0.name (getD c e0.name + 1)) x = pn es st c x + amt (ones e0.parts) x := by
  rw [pn_at, pn_at, amt_incs, amt_incs, Int.add_assoc]
  congr 1
  induction es with
  | nil => cases h0
  | cons e es ih =>
    rw [List.map_cons, List.sum_cons, List.map_cons, List.sum_cons]
    rw [List.map_cons, List.nodup_cons] at nd
    rcases List.mem_cons.mp h0 with rfl | h0
    · have h1 : (es.map fun e => getD (put c e0.name (getD c e0.name + 1)) e.name * amt (ones e.parts) x) = es.map fun e => getD c e.name * amt (ones e.parts) x := List.map_congr_left fun a ha => by
        rw [getD_put, if_neg fun z => nd.1 (List.mem_map.mpr ⟨a, ha, z⟩)]
      rw [h1, getD_put, if_pos rfl, Int.add_mul, Int.one_mul]
      omega
    · rw [ih nd.2 h0, getD_put, if_neg (show ¬ e.name = e0.name from fun z => nd.1 (List.mem_map.mpr ⟨e0, h0, z.symm⟩))]
      omega
/-- what the whole pieces need -/
theorem whole_need {es : List Ent} {g : Str → Int} (nd : (es.map (·.name)).Nodup) (kn : ∀ e ∈ es, ∀ p ∈ e.parts, p ∈ es.map (·.name)) (n : IsNeed es g) (st c : Num) (hat : ∀ e ∈ es, e.parts = [] → getD c e.name = 0) :
    sumE es (fun x => (pn es st c x - getD c x) * g x) = sumE es (fun x => getD st x * g x) - sumE es (getD c) := by
  have h1 : sumE es (fun x => amt (incs es (getD c)) x * g x) = sumE es (fun x => getD c x * g x) - sumE es (getD c) := by
    rw [sumE_amt nd g fun q hq => by
      unfold incs at hq
      obtain ⟨e, he, h2⟩ := List.mem_flatMap.mp hq
      obtain ⟨p, hp, rfl⟩ := List.mem_map.mp h2
      exact kn e he p hp]
    have key : ∀ l : List Ent, (∀ e ∈ l, e ∈ es) → ((incs l (getD c)).map fun q => q.2 * g q.1).sum = sumE l (fun x => getD c x * g x) - sumE l (getD c) := by
      intro l
      induction l with
      | nil => intro _; rfl
      | cons e l ih =>
        intro hl
        have he := hl e (List.mem_cons_self ..)
        have e1 : incs (e :: l) (getD c) = (e.parts.map fun p => (p, getD c e.name)) ++ incs l (getD c) := by
          unfold incs
          rw [List.flatMap_cons]
        rw [e1, List.map_append, List.sum_append, ih fun x hx => hl x (List.mem_cons_of_mem _ hx), sumE_cons, sumE_cons, List.map_map]
        have e2 : ((fun q : Str × Int => q.2 * g q.1) ∘ fun p => (p, getD c e.name)) = fun p => getD c e.name * g p := rfl
        rw [e2, sum_mul, n e he]
        by_cases q : e.parts = []
        · rw [hat e he q]
          omega
        · rw [if_neg q, Int.mul_add, Int.mul_one]
          omega
    exact key es fun _ h => h
  have h2 : sumE es (fun x => (pn es st c x - getD c x) * g x) = sumE es (fun x => getD st x * g x) + sumE es (fun x => amt (incs es (getD c)) x * g x) + sumE es (fun x => (0 - getD c x) * g x) := by
    rw [← sumE_add, ← sumE_add]
    refine sumE_congr fun e _ => ?_
    show (pn es st c e.name - getD c e.name) * g e.name = getD st e.name * g e.name + amt _ e.name * g e.name + (0 - getD c e.name) * g e.name
    rw [pn_at, ← Int.add_mul, ← Int.add_mul]
    congr 1
    omega
  have h3 : sumE es (fun x => (0 - getD c x) * g x) + sumE es (fun x => getD c x * g x) = 0 := by
    rw [← sumE_add]
    exact sumE_zero fun e _ => by
      show (0 - getD c e.name) * g e.name + getD c e.name * g e.name = 0
      rw [← Int.add_mul]
      have : (0 - getD c e.name + getD c e.name) = 0 := by omega
      rw [this, Int.zero_mul]
  omega
end Sk
namespace Sk
open PySem PySem.Spec PyProof.Rows L2
theorem getD_amt {d : Num} (nd : (d.map (·.1)).Nodup) (x : Str) : getD d x = amt d x := by
  induction d with
  | nil => rfl
  | cons q l ih =>
    rw [List.map_cons, List.nodup_cons] at nd
    rw [amt_cons]
    unfold getD
    rw [get?_cons]
    by_cases c : q.1 = x
    · rw [if_pos c, if_pos c, amt_zero fun z hz => fun e => nd.1 (List.mem_map.mpr ⟨z, hz, by rw [e, c]⟩)]
      show q.2 = q.2 + 0
      omega
    · rw [if_neg c, if_neg c]
      have := ih nd.2
      unfold getD at this
      omega
theorem sumE_getD {es : List Ent} {d : Num} (nd : (es.map (·.name)).Nodup) (dn : (d.map (·.1)).Nodup) (hk : ∀ q ∈ d, q.1 ∈ es.map (·.name)) : sumE es (getD d) = (d.map (·.2)).sum := by
  have h1 := sumE_amt nd (fun _ => 1) (l := d) hk
  have h2 : (d.map fun q => q.2 * 1) = d.map (·.2) := List.map_congr_left fun q _ => Int.mul_one _
  rw [h2] at h1
  rw [← h1]
  refine sumE_congr fun e _ => ?_
  rw [getD_amt dn, Int.mul_one]
theorem sumE_addAll {es : List Ent} (nd : (es.map (·.name)).Nodup) {l : List Str} (hl : ∀ p ∈ l, p ∈ es.map (·.name)) (f : Str → Int) (c : Int) : sumE es (addAll f (l.map fun p => (p, c))) = sumE es f + l.length * c := by
  have h1 := sumE_amt nd (fun _ => 1) (l := l.map fun p => (p, c)) fun q hq => by
    obtain ⟨p, hp, rfl⟩ := List.mem_map.mp hq
    exact hl p hp
  have h2 : ((l.map fun p => (p, c)).map fun q => q.2 * 1).sum = l.length * c := by
    clear h1 hl
    induction l with
    | nil => show (0 : Int) = (0 : Nat) * c; omega
    | cons p l ih =>
      rw [List.map_cons, List.map_cons, List.sum_cons, ih, List.length_cons]
      show c * 1 + _ = _
      rw [show ((l.length + 1 : Nat) : Int) = (l.length : Int) + 1 from rfl, Int.add_mul]
      omega
  rw [h2] at h1
  rw [← h1, ← sumE_add]
  refine sumE_congr fun e _ => ?_
  rw [addAll_at, Int.mul_one]
theorem sumE_le {es : List Ent} {f : Str → Int} {c : Int} (h : ∀ e ∈ es, f e.name ≤ c) : sumE es f ≤ es.length * c := by
  induction es with
  | nil => show (0 : Int) ≤ (0 : Nat) * c; omega
  | cons e es ih =>
    rw [sumE_cons, List.length_cons, show ((es.length + 1 : Nat) : Int) = (es.length : Int) + 1 from rfl, Int.add_mul]
    have h1 := h e (List.mem_cons_self ..)
    have h2 := ih fun x hx => h x (List.mem_cons_of_mem _ hx)
    omega
theorem addAll_nonneg {f : Str → Int} (h : ∀ x, 0 ≤ f x) {c : Int} (hc : 0 ≤ c) (l : List Str) (x : Str) : 0 ≤ addAll f (l.map fun p => (p, c)) x := by
  rw [addAll_at]
  have h1 : 0 ≤ amt (l.map fun p => (p, c)) x := by
    induction l with
    | nil => exact Int.le_refl _
    | cons p l ih =>
      rw [List.map_cons, amt_cons]
      split <;> omega
  have := h x
  omega
theorem tot_le : ∀ {es : List Ent} {f : Str → Int}, Behind es → (es.map (·.name)).Nodup → (∀ e ∈ es, e.parts.length ≤ 6) → (∀ x, 0 ≤ f x) → 0 ≤ ((fs es f).map (·.2)).sum ∧ ((fs es f).map (·.2)).sum ≤ 7 ^ es.length * sumE es f
  | [], _, _, _, _, _ => ⟨Int.le_refl _, by show (0 : Int) ≤ 1 * 0; omega⟩
  | e :: es, f, b, nd, hp, h => by
    rw [List.map_cons, List.nodup_cons] at nd
    have fe := h e.name
    obtain ⟨i1, i2⟩ := tot_le b.2 nd.2 (fun x hx => hp x (List.mem_cons_of_mem _ hx)) (addAll_nonneg h fe e.parts)
    rw [sumE_addAll nd.2 (fun p q => (b.1 p q).1)] at i2
    have h0 : ((if e.parts = [] then [] else [(e.name, f e.name)] : Num).map (·.2)).sum ≤ f e.name ∧ 0 ≤ ((if e.parts = [] then [] else [(e.name, f e.name)] : Num).map (·.2)).sum := by
      split
      · exact ⟨fe, Int.le_refl _⟩
      · show f e.name + 0 ≤ _ ∧ 0 ≤ f e.name + 0
        omega
    have hs := sumE_nonneg (es := es) fun x _ => h x.name
    have hl := hp e (List.mem_cons_self ..)
    have hA : (1 : Int) ≤ 7 ^ es.length := by
      have := Nat.one_le_pow es.length 7 (by decide)
      have h7 : ((7 ^ es.length : Nat) : Int) = (7 : Int) ^ es.length := by rw [Int.natCast_pow]; rfl
      omega
    rw [fs, List.map_append, List.sum_append, sumE_cons, List.length_cons, Int.pow_succ]
    generalize (7 : Int) ^ es.length = A at i2 hA
    rw [Int.mul_add] at i2
    have k1 : (e.parts.length : Int) * f e.name ≤ 6 * f e.name := Int.mul_le_mul_of_nonneg_right (by omega) fe
    have k2 : A * ((e.parts.length : Int) * f e.name) ≤ A * (6 * f e.name) := Int.mul_le_mul_of_nonneg_left k1 (by omega)
    have k3 : A * (6 * f e.name) = 6 * (A * f e.name) := by rw [← Int.mul_assoc, Int.mul_comm A 6, Int.mul_assoc]
    have k4 : 1 * f e.name ≤ A * f e.name := Int.mul_le_mul_of_nonneg_right hA fe
    have k5 : 0 ≤ A * sumE es f := Int.mul_nonneg (by omega) hs
    have k6 : A * 7 * (f e.name + sumE es f) = 7 * (A * f e.name) + 7 * (A * sumE es f) := by
      rw [Int.mul_comm A 7, Int.mul_assoc, Int.mul_add, Int.mul_add]
    omega
theorem getD_le {d : Num} {c : Int} (h0 : 0 ≤ c) (h : ∀ q ∈ d, q.2 ≤ c) (x : Str) : getD d x ≤ c := by
  unfold getD get?
  cases q : d.find? fun q => decide (q.1 = x) with
  | none => exact h0
  | some z => exact h z (List.mem_of_find?_eq_some q)
/-- the value that f tells of a name -/
def strInt (f : Str → Int) (v : V) : Option V := match v with
  | .str y => some (.int (f y))
  | _ => none
theorem fm_vals {f : Str → Int} : ∀ {l : Num}, (∀ q ∈ l, f q.1 = q.2) → ((l.map (·.1)).map V.str).filterMap (strInt f) = (l.map (·.2)).map V.int
  | [], _ => rfl
  | q :: l, h => by
    rw [List.map_cons, List.map_cons, List.filterMap_cons]
    show V.int (f q.1) :: _ = V.int q.2 :: _
    rw [h q (List.mem_cons_self ..), fm_vals fun z hz => h z (List.mem_cons_of_mem _ hz)]
end Sk
namespace Sk
open PySem PySem.Spec PyProof.Rows L2
/-! the splits of everything, kind by kind -/
theorem fsS_other : ∀ {es : List Ent} {f : Str → Int} {x : Str}, Behind es → x ∉ es.map (·.name) → fsS es f x = f x
  | [], _, _, _, _ => rfl
  | e :: es, f, x, b, h => by
    rw [List.map_cons] at h
    show fsS es _ x = f x
    rw [fsS_other b.2 fun z => h (List.mem_cons_of_mem _ z), addAll_at, amt_zero]
    · omega
    · intro q hq
      obtain ⟨p, hp, rfl⟩ := List.mem_map.mp hq
      intro z
      exact h (List.mem_cons_of_mem _ (by rw [← z]; exact (b.1 p hp).1))
theorem fs_final : ∀ {es : List Ent} {f : Str → Int}, Behind es → (es.map (·.name)).Nodup → fs es f = (es.filter fun e => decide (e.parts ≠ [])).map fun e => (e.name, fsS es f e.name)
  | [], _, _, _ => rfl
  | e :: es, f, b, nd => by
    rw [List.map_cons, List.nodup_cons] at nd
    have h1 : fsS (e :: es) f e.name = f e.name := by
      show fsS es _ e.name = _
      rw [fsS_other b.2 nd.1, addAll_at, amt_zero]
      · omega
      · intro q hq
        obtain ⟨p, hp, rfl⟩ := List.mem_map.mp hq
        exact (b.1 p hp).2
    rw [fs, fs_final b.2 nd.2, List.filter_cons]
    by_cases c : e.parts = []
    · rw [if_pos c, if_neg (by rw [decide_eq_true_eq]; exact fun z => z c)]
      rfl
    · rw [if_neg c, if_pos (decide_eq_true c), List.map_cons, h1]
      rfl
end Sk
namespace Sk
open PySem PySem.Spec PyProof.Rows L2
theorem amt_times (l : List Str) (c : Int) (x : Str) : amt (l.map fun p => (p, c)) x = c * amt (ones l) x := by
  induction l with
  | nil =>
    show (0 : Int) = c * 0
    omega
  | cons p l ih =>
    unfold ones at ih ⊢
    rw [List.map_cons, List.map_cons, amt_cons, amt_cons, ih, Int.mul_add]
    show (if p = x then c else 0) + _ = c * (if p = x then 1 else 0) + _
    split <;> omega
theorem incs_cons (e : Ent) (es : List Ent) (f : Str → Int) : incs (e :: es) f = (e.parts.map fun p => (p, f e.name)) ++ incs es f := by
  unfold incs
  rw [List.flatMap_cons]
theorem incs_congr {es : List Ent} {f g : Str → Int} (h : ∀ e ∈ es, f e.name = g e.name) : incs es f = incs es g := by
  induction es with
  | nil => rfl
  | cons e es ih => rw [incs_cons, incs_cons, h e (List.mem_cons_self ..), ih fun x hx => h x (List.mem_cons_of_mem _ hx)]
theorem amt_pos {l : Num} (h : ∀ q ∈ l, 0 ≤ q.2) (x : Str) : 0 ≤ amt l x := by
  induction l with
  | nil => exact Int.le_refl _
  | cons q l ih =>
    rw [amt_cons]
    have h1 := h q (List.mem_cons_self ..)
    have h2 := ih fun z hz => h z (List.mem_cons_of_mem _ hz)
    split <;> omega
theorem incs_pos {es : List Ent} {f : Str → Int} (h : ∀ x, 0 ≤ f x) (x : Str) : 0 ≤ amt (incs es f) x := amt_pos (fun q hq => by
  unfold incs at hq
  obtain ⟨e, _, h2⟩ := List.mem_flatMap.mp hq
  obtain ⟨p, _, rfl⟩ := List.mem_map.mp h2
  exact h _) x
theorem getD_cons (q : Str × Int) (d : Num) (x : Str) : getD (q :: d) x = if q.1 = x then q.2 else getD d x := by
  unfold getD
  rw [get?_cons]
  split <;> rfl
theorem greedy_zero : ∀ {l : Num} {n : Int}, (∀ q ∈ l, 0 ≤ q.2) → n ≤ 0 → 0 ≤ n → ∀ x, getD (greedy l n) x = 0
  | [], _, _, _, _, _ => rfl
  | q :: l, n, h, h1, h0, x => by
    have hq := h q (List.mem_cons_self ..)
    show getD ((q.1, _) :: greedy l _) x = 0
    rw [getD_cons]
    have e : (if q.2 < n then q.2 else n) = 0 := by split <;> omega
    rw [e, greedy_zero (fun z hz => h z (List.mem_cons_of_mem _ hz)) (by omega) (by omega)]
    split <;> rfl
/-- the balanced splits are valid: of each kind there are as many pieces -/
theorem greedy_fits : ∀ {es : List Ent} {f : Str → Int} {n : Int}, Behind es → (es.map (·.name)).Nodup → (∀ x, 0 ≤ f x) → 0 ≤ n → ∀ e ∈ es, getD (greedy (fs es f) n) e.name ≤ f e.name + amt (incs es (getD (greedy (fs es f) n))) e.name
  | [], _, _, _, _, _, _, _, h => by cases h
  | a :: es, f, n, b, nd, hf, hn, e, he => by
    rw [List.map_cons, List.nodup_cons] at nd
    have fa := hf a.name
    have hf2 : ∀ x, 0 ≤ addAll f (a.parts.map fun p => (p, f a.name)) x := addAll_nonneg hf fa a.parts
    have fsn := fs_nonneg b.2 nd.2 hf2
    by_cases c : a.parts = []
    · have e1 : fs (a :: es) f = fs es f := by
        rw [fs, if_pos c, c]
        rfl
      rw [e1, incs_cons, c]
      show _ ≤ _ + amt (incs es _) _
      rcases List.mem_cons.mp he with rfl | he
      · rw [getD_none fun hm => nd.1 (fs_names es f _ (by rw [← greedy_names (fs es f) n]; exact hm))]
        have := incs_pos (es := es) (f := getD (greedy (fs es f) n)) (fun x => getD_pos (fun q hq => (greedy_mem (fs_nonneg b.2 nd.2 hf) hn q hq).1) x) e.name
        have := hf e.name
        omega
      · exact greedy_fits b.2 nd.2 hf hn e he
    · have e1 : fs (a :: es) f = (a.name, f a.name) :: fs es (addAll f (a.parts.map fun p => (p, f a.name))) := by
        rw [fs, if_neg c]
        rfl
      have pos : ∀ x, 0 ≤ getD (greedy (fs (a :: es) f) n) x := fun x => getD_pos (fun q hq => (greedy_mem (by
        rw [e1]
        intro q hq
        rcases List.mem_cons.mp hq with rfl | hq
        · exact fa
        · exact fsn q hq) hn q hq).1) x
      have ipos := incs_pos (es := a :: es) pos e.name
      rw [e1] at ipos ⊢
      have e2 : greedy ((a.name, f a.name) :: fs es (addAll f (a.parts.map fun p => (p, f a.name)))) n = (a.name, if f a.name < n then f a.name else n) :: greedy (fs es (addAll f (a.parts.map fun p => (p, f a.name)))) (n - if f a.name < n then f a.name else n) := rfl
      rw [e2] at ipos ⊢
      rcases List.mem_cons.mp he with rfl | he
      · rw [getD_cons, if_pos rfl]
        have hfe : (if f e.name < n then f e.name else n) ≤ f e.name := by split <;> omega
        omega
      · have ne : a.name ≠ e.name := fun z => nd.1 (List.mem_map.mpr ⟨e, he, z.symm⟩)
        by_cases c2 : f a.name < n
        · rw [if_pos c2] at ipos ⊢
          have ih := greedy_fits b.2 nd.2 hf2 (n := n - f a.name) (by omega) e he
          generalize greedy (fs es (addAll f (a.parts.map fun p => (p, f a.name)))) (n - f a.name) = g at ih ipos ⊢
          have e3 : incs es (getD ((a.name, f a.name) :: g)) = incs es (getD g) := incs_congr fun x hx => by
            rw [getD_cons, if_neg fun z => nd.1 (List.mem_map.mpr ⟨x, hx, z.symm⟩)]
          rw [getD_cons, if_neg ne, incs_cons, amt_append, e3, getD_cons, if_pos rfl]
          rw [addAll_at] at ih
          show getD g e.name ≤ f e.name + (amt (a.parts.map fun p => (p, f a.name)) e.name + amt (incs es (getD g)) e.name)
          omega
        · rw [if_neg c2] at ipos ⊢
          rw [getD_cons, if_neg ne, greedy_zero fsn (by omega) (by omega)]
          have := hf e.name
          omega
end Sk
namespace Sk
open PySem PySem.Spec PyProof.Rows L2
/-- the whole pieces when b are split -/
def wholeF (es : List Ent) (f b : Str → Int) (x : Str) : Int := f x + amt (incs es b) x - b x
theorem find_congr {α : Type} {p q : α → Bool} : ∀ {l : List α}, (∀ x ∈ l, p x = q x) → l.find? p = l.find? q
  | [], _ => rfl
  | a :: l, h => by
    rw [List.find?_cons, List.find?_cons, h a (List.mem_cons_self ..), find_congr fun x hx => h x (List.mem_cons_of_mem _ hx)]
theorem incs_self {a : Ent} {es : List Ent} (b : Behind (a :: es)) (nd : a.name ∉ es.map (·.name)) (f : Str → Int) : amt (incs (a :: es) f) a.name = 0 := amt_zero fun q hq => by
  unfold incs at hq
  obtain ⟨e, he, h2⟩ := List.mem_flatMap.mp hq
  obtain ⟨p, hp, rfl⟩ := List.mem_map.mp h2
  rcases List.mem_cons.mp he with rfl | he
  · exact (b.1 p hp).2
  · exact fun z => nd (z ▸ (Behind.at b.2 he p hp).1)
def splitB (es : List Ent) (f b : Str → Int) (e : Ent) : Bool := decide (e.parts ≠ []) && decide (0 < wholeF es f b e.name)
/-- seen from the first kind on: the rest, with what its splits make -/
theorem whole_tail {a : Ent} {es : List Ent} {f b b' : Str → Int} (h : ∀ e ∈ es, b e.name = b' e.name) (x : Str) (hx : b x = b' x) : wholeF (a :: es) f b x = wholeF es (addAll f (a.parts.map fun p => (p, b a.name))) b' x := by
  unfold wholeF
  rw [incs_cons, amt_append, incs_congr h, addAll_at, hx]
  omega
/-- one split more: of the first kind with parts that has whole pieces -/
theorem greedy_step : ∀ {es : List Ent} {f : Str → Int} {n : Int}, Behind es → (es.map (·.name)).Nodup → (∀ x, 0 ≤ f x) → 0 ≤ n → n < ((fs es f).map (·.2)).sum →
    ∃ e, es.find? (splitB es f (getD (greedy (fs es f) n))) = some e ∧ ∀ x, getD (greedy (fs es f) (n + 1)) x = getD (greedy (fs es f) n) x + if x = e.name then 1 else 0
  | [], _, n, _, _, _, h0, h1 => by
    have : n < 0 := h1
    omega
  | a :: es, f, n, b, nd, hf, hn, hs => by
    rw [List.map_cons, List.nodup_cons] at nd
    have fa := hf a.name
    have hf2 : ∀ x, 0 ≤ addAll f (a.parts.map fun p => (p, f a.name)) x := addAll_nonneg hf fa a.parts
    have fsn := fs_nonneg b.2 nd.2 hf2
    have self := incs_self b nd.1
    by_cases c : a.parts = []
    · have e1 : fs (a :: es) f = fs es f := by
        rw [fs, if_pos c, c]
        rfl
      rw [e1] at hs ⊢
      obtain ⟨e, h1, h2⟩ := greedy_step b.2 nd.2 hf hn hs
      refine ⟨e, ?_, h2⟩
      rw [List.find?_cons]
      have h3 : splitB (a :: es) f (getD (greedy (fs es f) n)) a = false := by
        unfold splitB
        rw [decide_eq_false (fun z => z c)]
        rfl
      rw [h3, ← h1]
      refine find_congr fun x hx => ?_
      unfold splitB
      rw [whole_tail (fun _ _ => rfl) x.name rfl, c]
      rfl
    · have e1 : fs (a :: es) f = (a.name, f a.name) :: fs es (addAll f (a.parts.map fun p => (p, f a.name))) := by
        rw [fs, if_neg c]
        rfl
      rw [e1] at hs ⊢
      rw [List.map_cons, List.sum_cons] at hs
      have e2 : ∀ m, greedy ((a.name, f a.name) :: fs es (addAll f (a.parts.map fun p => (p, f a.name)))) m = (a.name, if f a.name < m then f a.name else m) :: greedy (fs es (addAll f (a.parts.map fun p => (p, f a.name)))) (m - if f a.name < m then f a.name else m) := fun _ => rfl
      rw [e2, e2]
      by_cases d : n < f a.name
      · have q1 : (if f a.name < n then f a.name else n) = n := by split <;> omega
        have q2 : (if f a.name < n + 1 then f a.name else n + 1) = n + 1 := by split <;> omega
        rw [q1, q2]
        refine ⟨a, ?_, fun x => ?_⟩
        · rw [List.find?_cons]
          have h3 : splitB (a :: es) f (getD ((a.name, n) :: greedy (fs es (addAll f (a.parts.map fun p => (p, f a.name)))) (n - n))) a = true := by
            unfold splitB wholeF
            rw [decide_eq_true c, self, getD_cons, if_pos rfl]
            show decide _ = true
            rw [decide_eq_true_eq]
            omega
          rw [h3]
        · rw [getD_cons, getD_cons, greedy_zero fsn (by omega) (by omega), greedy_zero fsn (by omega) (by omega)]
          by_cases z : a.name = x
          · rw [if_pos z, if_pos z, if_pos z.symm]
          · rw [if_neg z, if_neg z, if_neg fun w => z w.symm]
            rfl
      · have q1 : (if f a.name < n then f a.name else n) = f a.name := by split <;> omega
        have q2 : (if f a.name < n + 1 then f a.name else n + 1) = f a.name := by split <;> omega
        rw [q1, q2]
        obtain ⟨e, h1, h2⟩ := greedy_step (n := n - f a.name) b.2 nd.2 hf2 (by omega) (by omega)
        have ee : n + 1 - f a.name = n - f a.name + 1 := by omega
        rw [ee]
        have hem : e ∈ es := List.mem_of_find?_eq_some h1
        refine ⟨e, ?_, fun x => ?_⟩
        · rw [List.find?_cons]
          have h3 : splitB (a :: es) f (getD ((a.name, f a.name) :: greedy (fs es (addAll f (a.parts.map fun p => (p, f a.name)))) (n - f a.name))) a = false := by
            unfold splitB wholeF
            rw [self, getD_cons, if_pos rfl, Bool.and_eq_false_iff]
            exact .inr (decide_eq_false (by omega))
          rw [h3, ← h1]
          refine find_congr fun x hx => ?_
          have ne : ∀ y ∈ es, a.name ≠ y.name := fun y hy z => nd.1 (List.mem_map.mpr ⟨y, hy, z.symm⟩)
          unfold splitB
          rw [whole_tail (b' := getD (greedy (fs es (addAll f (a.parts.map fun p => (p, f a.name)))) (n - f a.name))) (fun y hy => by rw [getD_cons, if_neg (ne y hy)]) x.name (by rw [getD_cons, if_neg (ne x hx)]), getD_cons, if_pos rfl]
        · rw [getD_cons, getD_cons, h2]
          by_cases z : a.name = x
          · rw [if_pos z, if_pos z, if_neg]
            · omega
            · intro w
              exact nd.1 (List.mem_map.mpr ⟨e, hem, by rw [← w, z]⟩)
          · rw [if_neg z, if_neg z]
/-- when all is split, no kind with parts has whole pieces -/
theorem greedy_done : ∀ {es : List Ent} {f : Str → Int} {n : Int}, Behind es → (es.map (·.name)).Nodup → (∀ x, 0 ≤ f x) → n = ((fs es f).map (·.2)).sum → es.find? (splitB es f (getD (greedy (fs es f) n))) = none
  | [], _, _, _, _, _, _ => rfl
  | a :: es, f, n, b, nd, hf, hs => by
    rw [List.map_cons, List.nodup_cons] at nd
    have fa := hf a.name
    have hf2 : ∀ x, 0 ≤ addAll f (a.parts.map fun p => (p, f a.name)) x := addAll_nonneg hf fa a.parts
    have fsn := fs_nonneg b.2 nd.2 hf2
    have self := incs_self b nd.1
    by_cases c : a.parts = []
    · have e1 : fs (a :: es) f = fs es f := by
        rw [fs, if_pos c, c]
        rfl
      rw [e1] at hs ⊢
      have h1 := greedy_done b.2 nd.2 hf hs
      rw [List.find?_cons]
      have h3 : splitB (a :: es) f (getD (greedy (fs es f) n)) a = false := by
        unfold splitB
        rw [decide_eq_false (fun z => z c)]
        rfl
      rw [h3, ← h1]
      refine find_congr fun x hx => ?_
      unfold splitB
      rw [whole_tail (fun _ _ => rfl) x.name rfl, c]
      rfl
    · have e1 : fs (a :: es) f = (a.name, f a.name) :: fs es (addAll f (a.parts.map fun p => (p, f a.name))) := by
        rw [fs, if_neg c]
        rfl
      rw [e1] at hs ⊢
      rw [List.map_cons, List.sum_cons] at hs
      have hs0 : 0 ≤ ((fs es (addAll f (a.parts.map fun p => (p, f a.name)))).map (·.2)).sum := by
        clear hs e1
        generalize fs es (addAll f (a.parts.map fun p => (p, f a.name))) = l at fsn
        induction l with
        | nil => exact Int.le_refl _
        | cons q l ih =>
          rw [List.map_cons, List.sum_cons]
          have := fsn q (List.mem_cons_self ..)
          have := ih fun y hy => fsn y (List.mem_cons_of_mem _ hy)
          omega
      have e2 : greedy ((a.name, f a.name) :: fs es (addAll f (a.parts.map fun p => (p, f a.name)))) n = (a.name, if f a.name < n then f a.name else n) :: greedy (fs es (addAll f (a.parts.map fun p => (p, f a.name)))) (n - if f a.name < n then f a.name else n) := rfl
      rw [e2]
      have q1 : (if f a.name < n then f a.name else n) = f a.name := by
        have : f a.name ≤ n := by omega
        split <;> omega
      rw [q1]
      have h1 := greedy_done (n := n - f a.name) b.2 nd.2 hf2 (by omega)
      rw [List.find?_cons]
      have h3 : splitB (a :: es) f (getD ((a.name, f a.name) :: greedy (fs es (addAll f (a.parts.map fun p => (p, f a.name)))) (n - f a.name))) a = false := by
        unfold splitB wholeF
        rw [self, getD_cons, if_pos rfl, Bool.and_eq_false_iff]
        exact .inr (decide_eq_false (by omega))
      rw [h3, ← h1]
      refine find_congr fun x hx => ?_
      have ne : ∀ y ∈ es, a.name ≠ y.name := fun y hy z => nd.1 (List.mem_map.mpr ⟨y, hy, z.symm⟩)
      unfold splitB
      rw [whole_tail (b' := getD (greedy (fs es (addAll f (a.parts.map fun p => (p, f a.name)))) (n - f a.name))) (fun y hy => by rw [getD_cons, if_neg (ne y hy)]) x.name (by rw [getD_cons, if_neg (ne x hx)]), getD_cons, if_pos rfl]
end Sk
namespace Sk
open PySem PySem.Spec PyProof.Rows L2
abbrev s_heaviest : Stmt := topS 21
abbrev N_heaviest : List Str := ["catalogue", "stock", "number", "numbers", "entries", "found", "name", "weight", "parts"]
theorem sc_heaviest : FnScope N_heaviest ["catalogue", "stock", "number"] (defScope s_heaviest) := ⟨rfl, rfl, rfl, by decide +kernel, rfl, by decide +kernel, by decide +kernel⟩
/-- the weight of the first kind of which there are some -/
def topE (es : List Ent) (b : Str → Int) : Option Int := (es.find? fun e => decide (0 < b e.name)).map (·.w)
def sp_heaviest (Tb : List (Addr × Str)) (K : PySem.W.Frag) : Sp := fun vs H Q _ => ∃ (a b : Addr) (xs : List V) (es : List Ent) (st : Num) (n : Int), vs = [.ref a, .ref b, .int n] ∧ SqL K H a xs ∧ CatAt H xs es ∧ H b = some (.dK (dS st)) ∧ LamX.Tabs Tb H ∧ Valid es ∧ StockOk es st ∧ 0 ≤ n ∧ (∀ es', es'.Perm es → Ordered es' → n ≤ ((fs es' (getD st)).map (·.2)).sum) ∧
  ∀ H' es', es'.Perm es → Ordered es' → Gr Tb H H' → Q (optV (topE es' (wholeF es' (getD st) (getD (greedy (fs es' (getD st)) n))))) H'

section
variable {P : Program} {w : World} {K : PySem.W.Frag} {mg : Str → Option Value} {base : Heap} {Tb : List (Addr × Str)}
theorem ok_heaviest {f : Addr} {fd : FuncData} (F : FnP K "heaviest" s_heaviest f fd) (T : Tx K mg) (G_checked_splits : Fn P w K mg base "checked_splits" 5 ["catalogue", "stock", "number"] (sp_checked_splits Tb K)) (G_piece_numbers : Fn P w K mg base "piece_numbers" 1 ["entries", "stock", "splits"] (sp_piece_numbers Tb K)) : FnOk P w K mg base CX0 6 f fd ["catalogue", "stock", "number"] (sp_heaviest Tb K) := by
  refine F.ok sc_heaviest (fun vs H Q E h => ?_) (fun cdv A outer s H vs Q E hr h => ?_)
  · obtain ⟨_, _, _, _, _, _, rfl, _⟩ := h
    rfl
  · obtain ⟨a, b, xs, es, st, n, rfl, ha, hc, hb, ht, hv, so, n0, n1, k⟩ := h
    refine ⟨_, PSs.nox (pss_cons (ps_asg (pe_fn G_checked_splits (hr.mono (by decide)) (pa_cons (pv 0) (pa_cons (pv 1) (pa_cons (pv 2) pa_nil)))) (pg_tup rfl (pgs_cons (pg_name (i := 4) sc_heaviest.nd rfl (Or.inl rfl)) (pgs_cons (pg_name (i := 5) sc_heaviest.nd rfl (Or.inl rfl)) pgs_nil))))
      (pss_cons (ps_set (i := 3) sc_heaviest.nd rfl (Or.inl rfl) (pe_fn G_piece_numbers (hr.mono (by decide)) (pa_cons (pv 4) (pa_cons (pv 1) (pa_cons (pv 5) pa_nil)))))
      (pss_cons (ps_for PassesOwn.never rfl (piL (K := K) rfl (pv 4)) (pg_tup rfl (pgs_cons (pg_name (i := 6) sc_heaviest.nd rfl (Or.inl rfl)) (pgs_cons (pg_name (i := 7) sc_heaviest.nd rfl (Or.inl rfl)) (pgs_cons (pg_name (i := 8) sc_heaviest.nd rfl (Or.inl rfl)) pgs_nil)))) (pss_one (ps_if (pt_cmpR op_gt (pe_dget (hu_of hr) (pv 3) (pv 6) (fun _ _ => rfl)) (pe_dget2 (hu_of hr) (pv 5) (pv 6) pe_int ⟨rfl, rfl, rfl, rfl⟩) (nomark _)) (pss_one (ps_ret (pv 7))) pss_nil)))
      (pss_one (ps_ret pe_non))))), ?_⟩
    refine ⟨_, rfl, _, rfl, _, rfl, a, b, xs, es, st, n, rfl, ha, hc, hb, ht, hv, so, n0, n1, fun t r d H1 ys es' hp ho g1 ht1 hr1 hc1 hd1 => ?_⟩
    refine gtup2 ht1 ?_
    have hv' := hv.perm hp
    have hyl := Paired.len hc1
    refine ⟨_, rfl, _, rfl, _, rfl, r, b, d, ys, es', st, _, rfl, SqL.of hr1, hc1, g1.at hb .dK, hd1, hv'.nodup, hv'.known, hv'.few, fun N H2 g2 hN hN2 => ?_⟩
    have k2 := fun H' g => k H' es' hp ho g
    have hd2 := g2.at hd1 .dK
    have hc2 := CatAt.gr g2 hc1
    have g12 := g1.trans g2
    generalize greedy (fs es' (getD st)) n = bb at hN2 hd2 k2
    have ew : ∀ x, wholeF es' (getD st) (getD bb) x = pn es' st bb x - getD bb x := fun x => by rw [pn_at]; rfl
    refine ⟨_, rfl, r, rfl, ⟨_, SqL.of (g2.at hr1 .lst)⟩, for_list (K := K) (a := r) (xs := ys) (fun i σ H' => ∃ s6 s7 s8 : Option V, σ = [some (.ref a), some (.ref b), some (.int n), some (.ref N), some (.ref r), some (.ref d), s6, s7, s8] ∧ H' = H2 ∧ ((es'.take i).find? fun e => decide (0 < wholeF es' (getD st) (getD bb) e.name)) = none)
      ⟨_, _, _, rfl, rfl, rfl⟩ (fun i σ H' _ ⟨_, _, _, _, h, _⟩ => by rw [h]; exact SqL.of (g2.at hr1 .lst)) ?_ ?_⟩
    · rintro i x σ H3 hx ⟨s6, s7, s8, rfl, rfl, hno⟩
      obtain ⟨e, he, t2, lp, rfl, ht0, hlp⟩ := Paired.at hc2 hx
      have hnm : e.name ∈ es'.map (·.name) := List.mem_map.mpr ⟨e, List.mem_of_getElem? he, rfl⟩
      refine gtup3 ht0 ?_
      refine ⟨_, rfl, _, rfl, N, _, rfl, dgetS hN2 (get?_numOf hnm), _, rfl, d, rfl, IsD.num hd2, _, rfl, _, dgetO hd2 e.name, ?_⟩
      rw [getO]
      refine ⟨_, _, rfl, rfl, _, rfl, ?_⟩
      refine ite2 (fun c1 => ?_) (fun c1 => ?_)
      · have c2 := of_decide_eq_true c1
        refine ⟨_, rfl, ?_⟩
        have ef : topE es' (wholeF es' (getD st) (getD bb)) = some e.w := by
          unfold topE
          have hsplit : es' = es'.take i ++ es'.drop i := (List.take_append_drop i es').symm
          have : (es'.find? fun e => decide (0 < wholeF es' (getD st) (getD bb) e.name)) = some e := by
            conv => lhs; arg 2; rw [hsplit]
            rw [List.find?_append, hno, Option.none_or, List.drop_eq_getElem_cons (List.getElem?_eq_some_iff.mp he).1, List.find?_cons, (List.getElem?_eq_some_iff.mp he).2, decide_eq_true (by rw [ew]; omega)]
          rw [this]
          rfl
        have := k2 _ g12
        rw [ef] at this
        exact this
      · refine ⟨_, _, _, rfl, rfl, ?_⟩
        rw [take_snoc he, List.find?_append, hno, Option.none_or, List.find?_cons, decide_eq_false]
        · rfl
        · rw [ew]
          intro z
          exact c1 (decide_eq_true (by omega))
    · rintro σ H3 ⟨s6, s7, s8, rfl, rfl, hno⟩
      rw [hyl, List.take_length] at hno
      have := k2 _ g12
      unfold topE at this
      rw [hno] at this
      exact this
end
end Sk
namespace Sk
open PySem PySem.Spec PyProof.Rows L2
/-! numbers in a row -/
def sumN (c : Nat → Int) : Nat → Int
  | 0 => 0
  | n + 1 => sumN c n + c n
theorem sumN_le {c d : Nat → Int} : ∀ {n : Nat}, (∀ i, i < n → c i ≤ d i) → sumN c n ≤ sumN d n
  | 0, _ => Int.le_refl _
  | n + 1, h => by
    have h1 := sumN_le fun i hi => h i (Nat.lt_succ_of_lt hi)
    have h2 := h n (Nat.lt_succ_self n)
    show sumN c n + c n ≤ sumN d n + d n
    omega
theorem sumN_congr {c d : Nat → Int} {n : Nat} (h : ∀ i, i < n → c i = d i) : sumN c n = sumN d n :=
  Int.le_antisymm (sumN_le fun i hi => by rw [h i hi]; exact Int.le_refl _) (sumN_le fun i hi => by rw [h i hi]; exact Int.le_refl _)
theorem sumN_lt {c d : Nat → Int} : ∀ {n k : Nat}, (∀ i, i < n → c i ≤ d i) → k < n → c k < d k → sumN c n < sumN d n
  | 0, _, _, hk, _ => absurd hk (Nat.not_lt_zero _)
  | n + 1, k, h, hk, hl => by
    have h2 := h n (Nat.lt_succ_self n)
    show sumN c n + c n < sumN d n + d n
    by_cases e : k = n
    · subst e
      have h1 := sumN_le fun i hi => h i (Nat.lt_succ_of_lt hi)
      omega
    · have h1 := sumN_lt (k := k) (fun i hi => h i (Nat.lt_succ_of_lt hi)) (by omega) hl
      omega
theorem sumN_add (c d : Nat → Int) : ∀ n, sumN (fun i => c i + d i) n = sumN c n + sumN d n
  | 0 => rfl
  | n + 1 => by
    show sumN (fun i => c i + d i) n + (c n + d n) = sumN c n + c n + (sumN d n + d n)
    rw [sumN_add c d n]
    omega
theorem sumN_one (k : Nat) : ∀ n, sumN (fun i => if i = k then 1 else 0) n = if k < n then 1 else 0
  | 0 => by rw [if_neg (Nat.not_lt_zero _)]; rfl
  | n + 1 => by
    show sumN (fun i => if i = k then 1 else 0) n + (if n = k then 1 else 0) = _
    rw [sumN_one k n]
    by_cases h : n = k
    · subst h
      rw [if_neg (Nat.lt_irrefl _), if_pos rfl, if_pos (Nat.lt_succ_self _)]
      rfl
    · rw [if_neg h]
      by_cases h2 : k < n
      · rw [if_pos h2, if_pos (by omega)]
        rfl
      · rw [if_neg h2, if_neg (by omega)]
        rfl
theorem sumN_nonneg {c : Nat → Int} {n : Nat} (h : ∀ i, i < n → 0 ≤ c i) : 0 ≤ sumN c n := by
  have h1 := sumN_le (c := fun _ => 0) h
  have h2 : sumN (fun _ => 0) n = 0 := by
    clear h h1
    induction n with
    | zero => rfl
    | succ n ih =>
      show sumN (fun _ => 0) n + 0 = 0
      rw [ih]
      rfl
  omega
/-- one more at i, one less at j -/
def addN (c : Nat → Int) (i : Nat) : Nat → Int := fun k => c k + if k = i then 1 else 0
def subN (c : Nat → Int) (j : Nat) : Nat → Int := fun k => c k - if k = j then 1 else 0
theorem addN_at (c : Nat → Int) (i k : Nat) : addN c i k = c k + if k = i then 1 else 0 := rfl
theorem subN_at (c : Nat → Int) (i k : Nat) : subN c i k = c k - if k = i then 1 else 0 := rfl
theorem addN_self (c : Nat → Int) (i : Nat) : addN c i i = c i + 1 := by rw [addN_at, if_pos rfl]
theorem addN_ne {c : Nat → Int} {i k : Nat} (h : k ≠ i) : addN c i k = c k := by rw [addN_at, if_neg h]; omega
theorem subN_self (c : Nat → Int) (i : Nat) : subN c i i = c i - 1 := by rw [subN_at, if_pos rfl]
theorem subN_ne {c : Nat → Int} {i k : Nat} (h : k ≠ i) : subN c i k = c k := by rw [subN_at, if_neg h]; omega
theorem sum_addN {c : Nat → Int} {i n : Nat} (h : i < n) : sumN (addN c i) n = sumN c n + 1 := by
  have h1 := sumN_add c (fun k => if k = i then 1 else 0) n
  rw [sumN_one, if_pos h] at h1
  exact h1
theorem sum_subN {c : Nat → Int} {i n : Nat} (h : i < n) : sumN (subN c i) n = sumN c n - 1 := by
  have h1 := sum_addN (c := subN c i) h
  have h2 : addN (subN c i) i = c := funext fun k => by
    rw [addN_at, subN_at]
    omega
  rw [h2] at h1
  omega
/-- from 0 to what is there -/
def Vec (n : Nat) (F c : Nat → Int) : Prop := ∀ i, i < n → 0 ≤ c i ∧ c i ≤ F i
/-- the first that is not full -/
structure Gap (n : Nat) (F c : Nat → Int) (i : Nat) : Prop where
  lt : i < n
  le : c i < F i
  full : ∀ k, k < i → c k = F k
/-- the last that is not empty -/
structure Last (n : Nat) (c : Nat → Int) (j : Nat) : Prop where
  lt : j < n
  pos : 0 < c j
  zero : ∀ k, j < k → k < n → c k = 0
theorem Gap.uniq {n : Nat} {F c : Nat → Int} {i k : Nat} (h : Gap n F c i) (g : Gap n F c k) : k = i := by
  rcases Nat.lt_trichotomy i k with z | z | z
  · have := g.full i z
    have := h.le
    omega
  · exact z.symm
  · have := h.full k z
    have := g.le
    omega
theorem Last.uniq {n : Nat} {c : Nat → Int} {i k : Nat} (h : Last n c i) (g : Last n c k) : k = i := by
  rcases Nat.lt_trichotomy i k with z | z | z
  · have := h.zero k z g.lt
    have := g.pos
    omega
  · exact z.symm
  · have := g.zero i z h.lt
    have := h.pos
    omega
theorem first_ex {P : Nat → Prop} [DecidablePred P] : ∀ n, (∃ k, k < n ∧ P k) → ∃ i, i < n ∧ P i ∧ ∀ k, k < i → ¬ P k
  | 0, h => by
    obtain ⟨k, hk, _⟩ := h
    exact absurd hk (Nat.not_lt_zero _)
  | n + 1, h => by
    by_cases c : ∃ k, k < n ∧ P k
    · obtain ⟨i, h1, h2, h3⟩ := first_ex n c
      exact ⟨i, by omega, h2, h3⟩
    · obtain ⟨k, hk, hP⟩ := h
      have hn : ∀ k, k < n → ¬ P k := fun k hk hP => c ⟨k, hk, hP⟩
      by_cases e : k = n
      · subst e
        exact ⟨k, hk, hP, hn⟩
      · exact absurd hP (hn k (by omega))
theorem last_ex {P : Nat → Prop} [DecidablePred P] : ∀ n, (∃ k, k < n ∧ P k) → ∃ i, i < n ∧ P i ∧ ∀ k, i < k → k < n → ¬ P k
  | 0, h => by
    obtain ⟨k, hk, _⟩ := h
    exact absurd hk (Nat.not_lt_zero _)
  | n + 1, h => by
    by_cases c : P n
    · exact ⟨n, by omega, c, fun k h1 h2 => by omega⟩
    · obtain ⟨k, hk, hP⟩ := h
      have : k ≠ n := fun e => c (e ▸ hP)
      obtain ⟨i, h1, h2, h3⟩ := last_ex n ⟨k, by omega, hP⟩
      exact ⟨i, by omega, h2, fun k h4 h5 => by
        by_cases e : k = n
        · rw [e]
          exact c
        · exact h3 k h4 (by omega)⟩
theorem gap_ex {n : Nat} {F c : Nat → Int} (v : Vec n F c) (h : sumN c n < sumN F n) : ∃ i, Gap n F c i := by
  have h1 : ∃ k, k < n ∧ c k < F k := Decidable.byContradiction fun z => by
    have : sumN F n ≤ sumN c n := sumN_le fun i hi => Int.not_lt.mp fun q => z ⟨i, hi, q⟩
    omega
  obtain ⟨i, a, b, d⟩ := first_ex n h1
  exact ⟨i, a, b, fun k hk => by
    have := d k hk
    have := (v k (by omega)).2
    omega⟩
theorem lastN_ex {n : Nat} {F c : Nat → Int} (v : Vec n F c) (h : 0 < sumN c n) : ∃ j, Last n c j := by
  have h1 : ∃ k, k < n ∧ 0 < c k := Decidable.byContradiction fun z => by
    have h2 : sumN c n ≤ sumN (fun _ => 0) n := sumN_le fun i hi => Int.not_lt.mp fun q => z ⟨i, hi, q⟩
    have h3 := sumN_nonneg (c := fun _ => - 0) (n := n) fun _ _ => Int.le_refl _
    have h4 : sumN (fun _ => 0) n = 0 := by
      clear h h2 h3 v z
      induction n with
      | zero => rfl
      | succ n ih =>
        show sumN (fun _ => 0) n + 0 = 0
        rw [ih]
        rfl
    omega
  obtain ⟨i, a, b, d⟩ := last_ex n h1
  exact ⟨i, a, b, fun k hk hn => by
    have := d k hk hn
    have := (v k hn).1
    omega⟩
/-- all full, then one, then all empty -/
def Bal (n : Nat) (F B : Nat → Int) : Prop := ∀ i k, i < k → k < n → B i < F i → B k = 0
theorem Vec.add {n : Nat} {F c : Nat → Int} {i : Nat} (v : Vec n F c) (g : Gap n F c i) : Vec n F (addN c i) := fun k hk => by
  have h1 := v k hk
  rw [addN_at]
  split
  · rename_i e
    subst e
    have := g.le
    omega
  · omega
theorem Vec.sub {n : Nat} {F c : Nat → Int} {j : Nat} (v : Vec n F c) (l : Last n c j) : Vec n F (subN c j) := fun k hk => by
  have h1 := v k hk
  rw [subN_at]
  split
  · rename_i e
    subst e
    have := l.pos
    omega
  · omega
section
variable {n : Nat} {F c B : Nat → Int} {i j : Nat}
/-- a step and a step back: in which order is all one -/
theorem steps_comm {i' j' : Nat} (v : Vec n F c) (g : Gap n F c i) (l : Last n c j) (l' : Last n (addN c i) j') (g' : Gap n F (subN c j) i') : subN (addN c i) j' = addN (subN c j) i' := by
  rcases Nat.lt_trichotomy i j with z | z | z
  · have e1 : j' = j := Last.uniq ⟨l.lt, by rw [addN_ne (by omega)]; exact l.pos, fun k h1 h2 => by rw [addN_ne (by omega)]; exact l.zero k h1 h2⟩ l'
    have e2 : i' = i := Gap.uniq ⟨g.lt, by rw [subN_ne (by omega)]; exact g.le, fun k h => by rw [subN_ne (by omega)]; exact g.full k h⟩ g'
    rw [e1, e2]
    funext k
    rw [subN_at, addN_at, addN_at, subN_at]
    omega
  · subst z
    have e1 : j' = i := Last.uniq ⟨l.lt, by rw [addN_self]; have := l.pos; omega, fun k h1 h2 => by rw [addN_ne (by omega)]; exact l.zero k h1 h2⟩ l'
    have e2 : i' = i := Gap.uniq ⟨g.lt, by rw [subN_self]; have := g.le; omega, fun k h => by rw [subN_ne (by omega)]; exact g.full k h⟩ g'
    rw [e1, e2]
    funext k
    rw [subN_at, addN_at, addN_at, subN_at]
    omega
  · have e1 : j' = i := Last.uniq ⟨g.lt, by rw [addN_self]; have := (v i g.lt).1; omega, fun k h1 h2 => by rw [addN_ne (by omega)]; exact l.zero k (by omega) h2⟩ l'
    have e2 : i' = j := Gap.uniq ⟨l.lt, by rw [subN_self]; have := (v j l.lt).2; omega, fun k h => by rw [subN_ne (by omega)]; exact g.full k (by omega)⟩ g'
    rw [e1, e2]
    funext k
    rw [subN_at, addN_at, addN_at, subN_at]
    omega
theorem bal_of_le (v : Vec n F c) (g : Gap n F c i) (l : Last n c j) (h : j ≤ i) : Bal n F c := fun a k h1 h2 h3 => by
  by_cases z : a < i
  · have := g.full a z
    omega
  · exact l.zero k (by omega) h2
theorem bal_uniq (v : Vec n F c) (w : Vec n F B) (b : Bal n F c) (b' : Bal n F B) (s : sumN c n = sumN B n) : ∀ k, k < n → c k = B k := by
  refine fun k hk => Decidable.byContradiction fun z => ?_
  obtain ⟨a, ha, hne, hf⟩ := first_ex (P := fun k => c k ≠ B k) n ⟨k, hk, z⟩
  have eq : ∀ k, k < a → c k = B k := fun k hk => Decidable.not_not.mp (hf k hk)
  rcases Int.lt_or_gt_of_ne hne with q | q
  · have : sumN c n < sumN B n := sumN_lt (k := a) (fun t ht => by
      rcases Nat.lt_trichotomy t a with y | y | y
      · rw [eq t y]
        exact Int.le_refl _
      · rw [y]
        omega
      · rw [b a t y ht (by have := (w a ha).2; omega)]
        exact (w t ht).1) ha q
    omega
  · have : sumN B n < sumN c n := sumN_lt (k := a) (fun t ht => by
      rcases Nat.lt_trichotomy t a with y | y | y
      · rw [eq t y]
        exact Int.le_refl _
      · rw [y]
        omega
      · rw [b' a t y ht (by have := (v a ha).2; omega)]
        exact (v t ht).1) ha q
    omega
def posZ (z : Int) : Int := if z > 0 then z else 0
/-- what c exceeds -/
def offN (n : Nat) (c B : Nat → Int) : Int := sumN (fun k => posZ (c k - B k)) n
theorem offN_nonneg (n : Nat) (c B : Nat → Int) : 0 ≤ offN n c B := sumN_nonneg fun i _ => by
  show 0 ≤ posZ _
  unfold posZ
  split <;> omega
theorem off_zero (s : sumN c n = sumN B n) : offN n c B = 0 ↔ ∀ k, k < n → c k = B k := by
  constructor
  · intro h
    have le : ∀ k, k < n → c k ≤ B k := fun k hk => Decidable.byContradiction fun z => by
      have : sumN (fun _ => 0) n < offN n c B := sumN_lt (k := k) (fun t _ => by
        show 0 ≤ posZ _
        unfold posZ
        split <;> omega) hk (by
        show 0 < posZ _
        unfold posZ
        rw [if_pos (by omega)]
        omega)
      have := sumN_nonneg (c := fun _ => 0) (n := n) fun _ _ => Int.le_refl _
      omega
    intro k hk
    refine Decidable.byContradiction fun z => ?_
    have := sumN_lt (k := k) le hk (by have := le k hk; omega)
    omega
  · intro h
    have : offN n c B = sumN (fun _ => 0) n := sumN_congr fun k hk => by
      show posZ _ = 0
      rw [h k hk]
      unfold posZ
      rw [if_neg (by omega)]
    rw [this]
    clear h s this
    induction n with
    | zero => rfl
    | succ n ih =>
      show sumN (fun _ => 0) n + 0 = 0
      rw [ih]
      rfl
/-- not balanced: the first that is not full lacks some, the last exceeds -/
theorem gap_low (v : Vec n F c) (w : Vec n F B) (b : Bal n F B) (s : sumN c n = sumN B n) (g : Gap n F c i) (l : Last n c j) (h : i < j) : c i < B i ∧ B j < c j := by
  constructor
  · refine Decidable.byContradiction fun z => ?_
    have z' : B i ≤ c i := Int.not_lt.mp z
    have gl := g.le
    have zero : ∀ k, i < k → k < n → B k = 0 := fun k h1 h2 => b i k h1 h2 (by omega)
    have : sumN B n < sumN c n := sumN_lt (k := j) (fun t ht => by
      rcases Nat.lt_trichotomy t i with y | y | y
      · rw [g.full t y]
        exact (w t ht).2
      · rw [y]
        exact z'
      · rw [zero t y ht]
        exact (v t ht).1) l.lt (by rw [zero j h l.lt]; exact l.pos)
    omega
  · refine Decidable.byContradiction fun z => ?_
    have z' : c j ≤ B j := Int.not_lt.mp z
    have lp := l.pos
    have full : ∀ k, k < j → B k = F k := fun k h1 => by
      have h2 := (w k (by have := l.lt; omega)).2
      by_cases q : B k < F k
      · have := b k j h1 l.lt q
        omega
      · omega
    have : sumN c n < sumN B n := sumN_lt (k := i) (fun t ht => by
      rcases Nat.lt_trichotomy t j with y | y | y
      · rw [full t y]
        exact (v t ht).2
      · rw [y]
        exact z'
      · rw [l.zero t y ht]
        exact (w t ht).1) g.lt (by rw [full i h]; exact g.le)
    omega
/-- a step and a step back: one less -/
theorem off_pair (v : Vec n F c) (w : Vec n F B) (b : Bal n F B) (s : sumN c n = sumN B n) (g : Gap n F c i) (l : Last n c j) (h : i < j) : offN n (subN (addN c i) j) B = offN n c B - 1 := by
  obtain ⟨h1, h2⟩ := gap_low v w b s g l h
  have e : offN n c B = sumN (fun k => posZ (subN (addN c i) j k - B k) + if k = j then 1 else 0) n := sumN_congr fun k hk => by
    show posZ (c k - B k) = posZ (subN (addN c i) j k - B k) + if k = j then 1 else 0
    rw [subN_at, addN_at]
    by_cases q : k = j
    · rw [if_pos q, if_neg (by omega), q]
      unfold posZ
      split <;> split <;> omega
    · rw [if_neg q]
      by_cases q2 : k = i
      · rw [if_pos q2, q2]
        unfold posZ
        split <;> split <;> omega
      · rw [if_neg q2]
        have : c k + 0 - 0 - B k = c k - B k := by omega
        rw [this]
        omega
  rw [sumN_add, sumN_one, if_pos l.lt] at e
  unfold offN at e ⊢
  omega
/-- any pair of steps -/
theorem off_pair' (v : Vec n F c) (w : Vec n F B) (b : Bal n F B) (s : sumN c n = sumN B n) (g : Gap n F c i) (l : Last n c j) {j' : Nat} (l' : Last n (addN c i) j') : (offN n c B = 0 ∧ subN (addN c i) j' = c ∧ offN n (subN (addN c i) j') B = 0) ∨ (0 < offN n c B ∧ offN n (subN (addN c i) j') B = offN n c B - 1) := by
  rcases Nat.lt_or_ge i j with z | z
  · have e1 : j' = j := Last.uniq ⟨l.lt, by rw [addN_ne (by omega)]; exact l.pos, fun k h1 h2 => by rw [addN_ne (by omega)]; exact l.zero k h1 h2⟩ l'
    rw [e1]
    have h1 := off_pair v w b s g l z
    have h2 := offN_nonneg n (subN (addN c i) j) B
    exact .inr ⟨by omega, h1⟩
  · have e1 : j' = i := Last.uniq ⟨g.lt, by rw [addN_self]; have := (v i g.lt).1; omega, fun k h1 h2 => by rw [addN_ne (by omega)]; exact l.zero k (by omega) h2⟩ l'
    have e2 : subN (addN c i) j' = c := by
      rw [e1]
      funext k
      rw [subN_at, addN_at]
      omega
    have h3 := (off_zero s).mpr (bal_uniq v w (bal_of_le v g l z) b s)
    rw [e2]
    exact .inl ⟨h3, rfl, h3⟩
/-- one step: as much, or one less -/
theorem off_step {k : Nat} (v : Vec n F c) (w : Vec n F B) (b : Bal n F B) (s : sumN c n = sumN B n) (g : Gap n F c i) (gb : Gap n F B k) : offN n c B - 1 ≤ offN n (addN c i) (addN B k) ∧ offN n (addN c i) (addN B k) ≤ offN n c B := by
  have key : i = k ∨ (i < k ∧ c i < B i) := by
    rcases Nat.lt_trichotomy i k with z | z | z
    · exact .inr ⟨z, by rw [gb.full i z]; exact g.le⟩
    · exact .inl z
    · exfalso
      have gl := gb.le
      have : sumN B n < sumN c n := sumN_lt (k := k) (fun t ht => by
        rcases Nat.lt_trichotomy t k with y | y | y
        · rw [gb.full t y, g.full t (by omega)]
          exact Int.le_refl _
        · rw [y, g.full k z]
          exact Int.le_of_lt gl
        · rw [b k t y ht gl]
          exact (v t ht).1) gb.lt (by rw [g.full k z]; exact gl)
      omega
  have pt : ∀ t, t < n → posZ (addN c i t - addN B k t) ≤ posZ (c t - B t) ∧ posZ (c t - B t) ≤ posZ (addN c i t - addN B k t) + if t = k then 1 else 0 := by
    intro t ht
    rw [addN_at, addN_at]
    rcases key with z | ⟨z, h⟩
    · subst z
      have : (c t + if t = i then 1 else 0) - (B t + if t = i then 1 else 0) = c t - B t := by omega
      rw [this]
      constructor
      · exact Int.le_refl _
      · split <;> omega
    · by_cases q : t = i
      · subst q
        rw [if_pos rfl, if_neg (by omega)]
        unfold posZ
        constructor
        · split <;> split <;> omega
        · split <;> split <;> omega
      · rw [if_neg q]
        by_cases q2 : t = k
        · rw [if_pos q2]
          unfold posZ
          constructor
          · split <;> split <;> omega
          · split <;> split <;> omega
        · rw [if_neg q2]
          have : c t + 0 - (B t + 0) = c t - B t := by omega
          rw [this]
          omega
  have h1 := sumN_le (c := fun t => posZ (addN c i t - addN B k t)) (d := fun t => posZ (c t - B t)) (n := n) fun t ht => (pt t ht).1
  have h2 := sumN_le (c := fun t => posZ (c t - B t)) (d := fun t => posZ (addN c i t - addN B k t) + if t = k then 1 else 0) (n := n) fun t ht => (pt t ht).2
  rw [sumN_add, sumN_one, if_pos gb.lt] at h2
  unfold offN
  omega
/-- one step more of balanced ones -/
theorem Bal.add (w : Vec n F B) (b : Bal n F B) (g : Gap n F B i) : Bal n F (addN B i) := fun a k h1 h2 h3 => by
  rw [addN_at] at h3
  have gl := g.le
  rcases Nat.lt_trichotomy a i with z | z | z
  · have := g.full a z
    split at h3 <;> omega
  · subst z
    rw [addN_ne (by omega)]
    exact b a k h1 h2 gl
  · rw [addN_ne (by omega)]
    exact b i k (by omega) h2 gl
end
end Sk
namespace Sk
open PySem PySem.Spec PyProof.Rows L2
/-- valid splits: of known names, at most as many as there are pieces -/
structure SplitsOk (es : List Ent) (st sp : Num) : Prop where
  nd : (sp.map (·.1)).Nodup
  few : sp.length < 64
  known : ∀ q ∈ sp, q.1 ∈ es.map (·.name)
  fits : ∀ e ∈ es, 0 ≤ getD sp e.name ∧ getD sp e.name ≤ if e.parts = [] then 0 else pn es st sp e.name
def sp_check_splits (Tb : List (Addr × Str)) (K : PySem.W.Frag) : Sp := fun vs H Q _ => ∃ (a b c : Addr) (xs : List V) (es : List Ent) (st sp : Num), vs = [.ref a, .ref b, .ref c] ∧ SqL K H a xs ∧ CatAt H xs es ∧ H b = some (.dK (dS st)) ∧ H c = some (.dK (dS sp)) ∧ LamX.Tabs Tb H ∧ Valid es ∧ SplitsOk es st sp ∧ ∀ H', Gr Tb H H' → Q .non H'
end Sk
namespace Sk
open PySem PySem.Spec PyProof.Rows L2
theorem ones_le (l : List Str) (x : Str) : 0 ≤ amt (ones l) x ∧ amt (ones l) x ≤ l.length := by
  induction l with
  | nil => exact ⟨Int.le_refl _, Int.le_refl _⟩
  | cons p l ih =>
    unfold ones at ih ⊢
    rw [List.map_cons, amt_cons, List.length_cons]
    show 0 ≤ (if p = x then (1 : Int) else 0) + _ ∧ (if p = x then (1 : Int) else 0) + _ ≤ _
    split <;> omega
theorem amt_incs' (es : List Ent) (f : Str → Int) (x : Str) : amt (incs es f) x = (es.map fun e => f e.name * amt (ones e.parts) x).sum := by
  have one : ∀ (l : List Str) (c : Int), amt (l.map fun p => (p, c)) x = c * amt (ones l) x := by
    intro l c
    induction l with
    | nil =>
      show (0 : Int) = c * 0
      omega
    | cons p l ih =>
      unfold ones at ih ⊢
      rw [List.map_cons, List.map_cons, amt_cons, amt_cons, ih, Int.mul_add]
      show (if p = x then c else 0) + _ = c * (if p = x then 1 else 0) + _
      split <;> omega
  induction es with
  | nil => rfl
  | cons e es ih =>
    unfold incs at ih ⊢
    rw [List.flatMap_cons, amt_append, ih, List.map_cons, List.sum_cons, one]
theorem getD_nonneg {d : Num} (h : ∀ q ∈ d, 0 ≤ q.2) (x : Str) : 0 ≤ getD d x := by
  unfold getD
  cases q : get? d x with
  | none => exact Int.le_refl _
  | some i =>
    have : (x, i) ∈ d := by
      unfold get? at q
      cases f : d.find? fun q => decide (q.1 = x) with
      | none => rw [f] at q; cases q
      | some z =>
        rw [f] at q
        have h1 : z.1 = x := by
          have := List.find?_some f
          simpa using this
        have h2 := List.mem_of_find?_eq_some f
        have h3 : z.2 = i := Option.some.inj q
        rw [← h1, ← h3]
        exact h2
    exact h _ this
theorem sumE_add' (f g : Ent → Int) (es : List Ent) : (es.map fun e => f e + g e).sum = (es.map f).sum + (es.map g).sum := by
  induction es with
  | nil => rfl
  | cons e es ih =>
    rw [List.map_cons, List.map_cons, List.map_cons, List.sum_cons, List.sum_cons, List.sum_cons, ih]
    omega
theorem sumE_le' {f g : Ent → Int} : ∀ {es : List Ent}, (∀ e ∈ es, f e ≤ g e) → (es.map f).sum ≤ (es.map g).sum
  | [], _ => Int.le_refl _
  | e :: es, h => by
    rw [List.map_cons, List.map_cons, List.sum_cons, List.sum_cons]
    have h1 := h e (List.mem_cons_self ..)
    have h2 := sumE_le' fun z hz => h z (List.mem_cons_of_mem _ hz)
    omega
theorem sum_ind {x : Str} {v : Int} (hv : 0 ≤ v) : ∀ {es : List Ent}, (es.map (·.name)).Nodup → (es.map fun e => if x = e.name then v else 0).sum ≤ v ∧ (x ∉ es.map (·.name) → (es.map fun e => if x = e.name then v else 0).sum = 0)
  | [], _ => ⟨hv, fun _ => rfl⟩
  | e :: es, nd => by
    rw [List.map_cons, List.nodup_cons] at nd
    obtain ⟨h1, h2⟩ := sum_ind hv nd.2
    rw [List.map_cons, List.sum_cons, List.map_cons]
    constructor
    · by_cases c : x = e.name
      · rw [if_pos c, h2 (by rw [c]; exact nd.1)]
        omega
      · rw [if_neg c]
        omega
    · intro hx
      rw [if_neg fun c => hx (by rw [c]; exact List.mem_cons_self ..), h2 fun z => hx (List.mem_cons_of_mem _ z)]
      rfl
theorem getD_cons' {q : Str × Int} {c : Num} (h : q.1 ∉ c.map (·.1)) (x : Str) : getD (q :: c) x = (if q.1 = x then q.2 else 0) + getD c x := by
  unfold getD
  rw [get?_cons]
  by_cases e : q.1 = x
  · rw [if_pos e, if_pos e, get?_none (by rw [← e]; exact h)]
    show q.2 = q.2 + 0
    omega
  · rw [if_neg e, if_neg e]
    omega
theorem sum_getD : ∀ {c : Num}, (c.map (·.1)).Nodup → (∀ q ∈ c, 0 ≤ q.2) → ∀ {es : List Ent}, (es.map (·.name)).Nodup → (es.map fun e => getD c e.name).sum ≤ (c.map (·.2)).sum
  | [], _, _, es, _ => by
    show (es.map fun _ => (0 : Int)).sum ≤ 0
    induction es with
    | nil => exact Int.le_refl _
    | cons e es ih =>
      rw [List.map_cons, List.sum_cons]
      have := ih (by
        rename_i h
        exact (List.nodup_cons.mp h).2)
      omega
  | q :: c, nc, pc, es, nd => by
    rw [List.map_cons, List.nodup_cons] at nc
    have h1 := sum_getD nc.2 (fun z hz => pc z (List.mem_cons_of_mem _ hz)) nd
    have h2 := (sum_ind (x := q.1) (pc q (List.mem_cons_self ..)) nd).1
    have e : (es.map fun e => getD (q :: c) e.name).sum = (es.map fun e => (if q.1 = e.name then q.2 else 0) + getD c e.name).sum := by
      congr 1
      exact List.map_congr_left fun z _ => getD_cons' nc.1 z.name
    rw [e, sumE_add', List.map_cons, List.sum_cons]
    omega
theorem getD_app {c : Num} {x : Str} {v : Int} (h : x ∉ c.map (·.1)) (y : Str) : getD (c ++ [(x, v)]) y = if y = x then v else getD c y := by
  rw [← put_new' h, getD_put]
theorem pn_mono {es : List Ent} {st c c' : Num} (h : ∀ y, getD c y ≤ getD c' y) (x : Str) : pn es st c x ≤ pn es st c' x := by
  rw [pn_at, pn_at, amt_incs', amt_incs']
  have := sumE_le' (es := es) (f := fun e => getD c e.name * amt (ones e.parts) x) (g := fun e => getD c' e.name * amt (ones e.parts) x) fun e _ => Int.mul_le_mul_of_nonneg_right (h e.name) (ones_le e.parts x).1
  omega
theorem pn_nonneg' {es : List Ent} {st c : Num} (hs : ∀ q ∈ st, 0 ≤ q.2) (hc : ∀ q ∈ c, 0 ≤ q.2) (x : Str) : 0 ≤ pn es st c x := by
  rw [pn_at, amt_incs']
  have h1 := getD_nonneg hs x
  have h2 := sumE_le' (es := es) (f := fun _ => 0) (g := fun e => getD c e.name * amt (ones e.parts) x) fun e _ => Int.mul_nonneg (getD_nonneg hc _) (ones_le e.parts x).1
  have h3 : (es.map fun _ => (0 : Int)).sum = 0 := by
    clear h2
    induction es with
    | nil => rfl
    | cons e es ih =>
      rw [List.map_cons, List.sum_cons, ih]
      rfl
  omega
theorem getD_perm {c c' : Num} (p : c'.Perm c) (nd : (c.map (·.1)).Nodup) : getD c' = getD c := by
  funext x
  have nd' : (c'.map (·.1)).Nodup := (p.map _).nodup_iff.mpr nd
  by_cases h : x ∈ c.map (·.1)
  · obtain ⟨q, hq, rfl⟩ := List.mem_map.mp h
    rw [getD_mem nd hq, getD_mem nd' (p.mem_iff.mpr hq)]
  · rw [getD_none h, getD_none fun z => h ((p.map _).mem_iff.mp z)]
theorem pn_congr {es : List Ent} {st st' c c' : Num} (h : getD st' = getD st) (h2 : getD c' = getD c) : pn es st' c' = pn es st c := by
  unfold pn
  rw [h, h2]
theorem SplitsOk.perm {es : List Ent} {st c c' : Num} (p : c'.Perm c) (h : SplitsOk es st c) : SplitsOk es st c' := by
  refine ⟨(p.map _).nodup_iff.mpr h.nd, by rw [p.length_eq]; exact h.few, fun q hq => h.known q (p.mem_iff.mp hq), fun e he => ?_⟩
  rw [pn_congr rfl (getD_perm p h.nd), getD_perm p h.nd]
  exact h.fits e he
/-- the splits made so far -/
structure CutsAt (es es' : List Ent) (st : Num) (i : Nat) (c : Num) : Prop where
  nd : (c.map (·.1)).Nodup
  len : c.length ≤ i
  known : ∀ q ∈ c, q.1 ∈ (es'.take i).map (·.name)
  fits : ∀ e ∈ es, 0 ≤ getD c e.name ∧ getD c e.name ≤ if e.parts = [] then 0 else pn es st c e.name
  pos : ∀ q ∈ c, 0 ≤ q.2
  big : 6 * (c.map (·.2)).sum + 10 ^ 30 ≤ 10 ^ 30 * 7 ^ i
theorem pow7 (i : Nat) : (0 : Int) < 7 ^ i := Int.pow_pos (by decide)
theorem CutsAt.num {es es' : List Ent} {st c : Num} {i : Nat} (h : CutsAt es es' st i c) (nd : (es.map (·.name)).Nodup) (hp : ∀ e ∈ es, e.parts.length ≤ 6) (sm : ∀ q ∈ st, q.2 ≤ 10 ^ 30) (ss : (st.map (·.1)).Nodup) (x : Str) : pn es st c x ≤ 6 * (c.map (·.2)).sum + 10 ^ 30 := by
  rw [pn_at, amt_incs']
  have h1 : getD st x ≤ 10 ^ 30 := by
    by_cases hx : x ∈ st.map (·.1)
    · obtain ⟨q, hq, rfl⟩ := List.mem_map.mp hx
      rw [getD_mem ss hq]
      exact sm q hq
    · rw [getD_none hx]
      decide
  have h2 := sum_getD h.nd h.pos nd
  have h3 := sumE_le' (es := es) (f := fun e => getD c e.name * amt (ones e.parts) x) (g := fun e => getD c e.name * 6) fun e he => by
    have a1 := ones_le e.parts x
    have a2 := hp e he
    exact Int.mul_le_mul_of_nonneg_left (by omega) (getD_nonneg h.pos _)
  have h4 : (es.map fun e => getD c e.name * 6).sum = 6 * (es.map fun e => getD c e.name).sum := by
    clear h3 h2 nd hp h
    induction es with
    | nil => rfl
    | cons e es ih =>
      rw [List.map_cons, List.sum_cons, ih, List.map_cons, List.sum_cons]
      omega
  omega
theorem CutsAt.keep {es es' : List Ent} {st c : Num} {i : Nat} (h : CutsAt es es' st i c) {e : Ent} (he : es'[i]? = some e) : CutsAt es es' st (i + 1) c := by
  refine ⟨h.nd, Nat.le_succ_of_le h.len, fun q hq => ?_, h.fits, h.pos, ?_⟩
  · rw [take_snoc he, List.map_append]
    exact List.mem_append_left _ (h.known q hq)
  · have h1 := h.big
    have h2 := pow7 i
    rw [Int.pow_succ]
    omega
theorem CutsAt.step {es es' : List Ent} {st c : Num} {i : Nat} (h : CutsAt es es' st i c) {e : Ent} (he : es'[i]? = some e) (hp : es'.Perm es) (v : Valid es) (hq : ∀ e ∈ es, e.parts.length ≤ 6) (sm : ∀ q ∈ st, q.2 ≤ 10 ^ 30) (ss : (st.map (·.1)).Nodup) {z : Int} (z0 : 0 ≤ z) (z1 : z ≤ if e.parts = [] then 0 else pn es st c e.name) :
    e.name ∉ c.map (·.1) ∧ CutsAt es es' st (i + 1) (c ++ [(e.name, z)]) := by
  have hnd' : (es'.map (·.name)).Nodup := (hp.map _).nodup_iff.mpr v.nodup
  have nn : e.name ∉ c.map (·.1) := fun hm => by
    obtain ⟨q, hq, z⟩ := List.mem_map.mp hm
    exact take_notin hnd' he (z ▸ h.known q hq)
  have up : ∀ y, getD c y ≤ getD (c ++ [(e.name, z)]) y := fun y => by
    rw [getD_app nn]
    split
    · rename_i q
      rw [q, getD_none nn]
      exact z0
    · exact Int.le_refl _
  have hem : e ∈ es := hp.mem_iff.mp (List.mem_of_getElem? he)
  refine ⟨nn, ⟨?_, ?_, fun q hq => ?_, fun x hx => ?_, fun q hq => ?_, ?_⟩⟩
  · rw [List.map_append]
    refine List.nodup_append.mpr ⟨h.nd, by simp, fun x hx y hy => ?_⟩
    rw [List.mem_singleton.mp hy]
    intro q
    have q2 : x = e.name := q
    rw [q2] at hx
    exact nn hx
  · rw [List.length_append, List.length_singleton]
    have := h.len
    omega
  · rw [take_snoc he, List.map_append]
    rcases List.mem_append.mp hq with hq | hq
    · exact List.mem_append_left _ (h.known q hq)
    · rw [List.mem_singleton.mp hq]
      exact List.mem_append_right _ (List.mem_singleton.mpr rfl)
  · obtain ⟨f1, f2⟩ := h.fits x hx
    have hm := pn_mono (es := es) (st := st) up x.name
    rw [getD_app nn]
    by_cases q : x.name = e.name
    · have xe : x = e := by
        obtain ⟨j, hj⟩ := List.mem_iff_getElem?.mp hx
        obtain ⟨l, hl⟩ := List.mem_iff_getElem?.mp hem
        have ij : j = l := nodup_ix v.nodup (x := e.name) (by rw [List.getElem?_map, hj, ← q]; rfl) (by rw [List.getElem?_map, hl]; rfl)
        rw [ij, hl] at hj
        cases hj
        rfl
      subst xe
      rw [if_pos rfl]
      refine ⟨z0, ?_⟩
      split at z1
      · rename_i w
        rw [if_pos w]
        exact z1
      · rename_i w
        rw [if_neg w]
        omega
    · rw [if_neg q]
      refine ⟨f1, ?_⟩
      split at f2
      · rename_i w
        rw [if_pos w]
        exact f2
      · rename_i w
        rw [if_neg w]
        omega
  · rcases List.mem_append.mp hq with hq | hq
    · exact h.pos q hq
    · rw [List.mem_singleton.mp hq]
      exact z0
  · have h1 := h.big
    have h2 := h.num v.nodup hq sm ss e.name
    have h3 : z ≤ 6 * (c.map (·.2)).sum + 10 ^ 30 := by
      split at z1
      · have : 0 ≤ (c.map (·.2)).sum := by
          have key : ∀ l : Num, (∀ q ∈ l, q ∈ c) → 0 ≤ (l.map (·.2)).sum := by
            intro l
            induction l with
            | nil => intro _; exact Int.le_refl _
            | cons q l ih =>
              intro hl
              rw [List.map_cons, List.sum_cons]
              have a1 := h.pos q (hl q (List.mem_cons_self ..))
              have a2 := ih fun y hy => hl y (List.mem_cons_of_mem _ hy)
              omega
          exact key c fun _ h => h
        omega
      · omega
    rw [List.map_append, List.map_cons, List.map_nil, List.sum_append, List.sum_cons, List.sum_nil, Int.pow_succ]
    have h4 := pow7 i
    omega
theorem CutsAt.small {es es' : List Ent} {st c : Num} {i : Nat} (h : CutsAt es es' st i c) (hi : i ≤ 20) : ∀ q ∈ c, 0 ≤ q.2 ∧ q.2 < 2 ^ 190 := by
  have key : ∀ l : Num, (∀ q ∈ l, q ∈ c) → 0 ≤ (l.map (·.2)).sum ∧ ∀ q ∈ l, q.2 ≤ (l.map (·.2)).sum := by
    intro l
    induction l with
    | nil => intro _; exact ⟨Int.le_refl _, by simp⟩
    | cons q l ih =>
      intro hl
      obtain ⟨a1, a2⟩ := ih fun y hy => hl y (List.mem_cons_of_mem _ hy)
      have a3 := h.pos q (hl q (List.mem_cons_self ..))
      rw [List.map_cons, List.sum_cons]
      refine ⟨by omega, fun y hy => ?_⟩
      rcases List.mem_cons.mp hy with rfl | hy
      · omega
      · have := a2 y hy
        omega
  intro q hq
  obtain ⟨h1, h2⟩ := key c fun _ h => h
  have h3 := h2 q hq
  have h4 := h.big
  have b3 : (10 : Int) ^ 30 * 7 ^ i ≤ 10 ^ 30 * 7 ^ 20 := by
    have h5 : 7 ^ i ≤ 7 ^ 20 := Nat.pow_le_pow_right (by decide) hi
    exact Int.mul_le_mul_of_nonneg_left (by exact_mod_cast h5) (by decide)
  have b4 : (10 : Int) ^ 30 * 7 ^ 20 < 2 ^ 190 := by decide
  exact ⟨h.pos q hq, by omega⟩
end Sk
namespace Sk
open PySem PySem.Spec PyProof.Rows L2
/-- as many pieces as are split, and what the splits make -/
theorem balanced_ok {es es' : List Ent} {d : Num} {n : Int} (hv : Valid es) (hp : es'.Perm es) (ho : Ordered es') (so : StockOk es d) (hz : es.length < 64) (h0 : 0 ≤ n) : SplitsOk es d (greedy (fs es' (getD d)) n) := by
  have hv' := hv.perm hp
  have hbe := hv'.behind ho
  have d0 : ∀ x, 0 ≤ getD d x := fun x => getD_pos so.pos x
  have fsn := fs_nonneg hbe hv'.nodup d0
  refine ⟨by rw [greedy_names]; exact fs_nodup _ hv'.nodup, ?_, fun q hq => ?_, fun e he => ⟨getD_pos (fun q hq => (greedy_mem fsn h0 q hq).1) _, ?_⟩⟩
  · rw [greedy_len]
    have h1 := fs_len es' (getD d)
    have h2 := hp.length_eq
    omega
  · have h1 := fs_names es' (getD d) q.1 (by rw [← greedy_names (fs es' (getD d)) n]; exact List.mem_map.mpr ⟨q, hq, rfl⟩)
    exact (hp.map _).mem_iff.mp h1
  · have he' := hp.mem_iff.mpr he
    by_cases c : e.parts = []
    · rw [if_pos c, getD_none]
      · exact Int.le_refl _
      · intro hm
        rw [greedy_names, fs_final hbe hv'.nodup, List.map_map] at hm
        obtain ⟨x, hx, z⟩ := List.mem_map.mp hm
        obtain ⟨x1, x2⟩ := List.mem_filter.mp hx
        have xe : x = e := by
          obtain ⟨j, hj⟩ := List.mem_iff_getElem?.mp x1
          obtain ⟨l, hl⟩ := List.mem_iff_getElem?.mp he'
          have ij : j = l := nodup_ix hv'.nodup (x := e.name) (by rw [List.getElem?_map, hj]; exact congrArg some z) (by rw [List.getElem?_map, hl]; rfl)
          rw [ij, hl] at hj
          cases hj
          rfl
        rw [xe] at x2
        exact of_decide_eq_true x2 c
    · rw [if_neg c, ← pn_perm hp, pn_at]
      exact greedy_fits hbe hv'.nodup d0 h0 e he'
/-- valid splits are at most as many as all -/
theorem splits_le {es es' : List Ent} {d c : Num} (hv : Valid es) (hp : es'.Perm es) (ho : Ordered es') (so : StockOk es d) (ok : SplitsOk es d c) : (c.map (·.2)).sum ≤ ((fs es' (getD d)).map (·.2)).sum := by
  have hv' := hv.perm hp
  have hbe := hv'.behind ho
  obtain ⟨g, hg, g0⟩ := need_ex hbe hv'.nodup
  rw [total_need (getD d) g hbe hv'.nodup hg]
  have h1 := whole_need hv'.nodup (Behind.known hbe) hg d c fun e he hpe => by
    obtain ⟨f1, f2⟩ := ok.fits e (hp.mem_iff.mp he)
    rw [if_pos hpe] at f2
    omega
  have h2 : 0 ≤ sumE es' (fun x => (pn es' d c x - getD c x) * g x) := sumE_nonneg fun e he => by
    obtain ⟨f1, f2⟩ := ok.fits e (hp.mem_iff.mp he)
    refine Int.mul_nonneg ?_ (g0 e he)
    rw [pn_perm hp]
    have h3 : 0 ≤ pn es d c e.name := by
      rw [pn_at]
      have h4 := getD_pos so.pos e.name
      have h5 : 0 ≤ amt (incs es (getD c)) e.name := amt_pos (fun q hq => by
        unfold incs at hq
        obtain ⟨x, hx, h6⟩ := List.mem_flatMap.mp hq
        obtain ⟨p, _, rfl⟩ := List.mem_map.mp h6
        exact (ok.fits x hx).1) _
      omega
    split at f2 <;> omega
  rw [sumE_getD hv'.nodup ok.nd fun q hq => (hp.map _).mem_iff.mpr (ok.known q hq)] at h1
  omega
end Sk
namespace Sk
open PySem PySem.Spec PyProof.Rows L2
/-- the numbers in the entries' order -/
def cN (es : List Ent) (c : Str → Int) : Nat → Int := fun i => match es[i]? with
  | some e => c e.name
  | none => 0
theorem cN_at {es : List Ent} {i : Nat} {e : Ent} (h : es[i]? = some e) (c : Str → Int) : cN es c i = c e.name := by
  unfold cN
  rw [h]
theorem cN_out {es : List Ent} {i : Nat} (h : es.length ≤ i) (c : Str → Int) : cN es c i = 0 := by
  unfold cN
  rw [List.getElem?_eq_none h]
theorem sumE_app (es l : List Ent) (c : Str → Int) : sumE (es ++ l) c = sumE es c + sumE l c := by
  induction es with
  | nil =>
    show sumE l c = 0 + sumE l c
    omega
  | cons e es ih =>
    rw [List.cons_append, sumE_cons, sumE_cons, ih]
    omega
theorem sumN_take (es : List Ent) (c : Str → Int) : ∀ n, n ≤ es.length → sumN (cN es c) n = sumE (es.take n) c
  | 0, _ => rfl
  | n + 1, h => by
    have hn : es[n]? = some es[n] := List.getElem?_eq_getElem (by omega)
    rw [take_snoc hn, sumE_app, ← sumN_take es c n (by omega)]
    show sumN (cN es c) n + cN es c n = _
    rw [cN_at hn]
    show _ = _ + (c es[n].name + 0)
    omega
theorem sumN_cN (es : List Ent) (c : Str → Int) : sumN (cN es c) es.length = sumE es c := by
  rw [sumN_take es c _ (Nat.le_refl _), List.take_length]
theorem sumE_perm {es es' : List Ent} (p : es'.Perm es) (c : Str → Int) : sumE es' c = sumE es c := by
  unfold sumE
  induction p with
  | nil => rfl
  | cons x _ ih => rw [List.map_cons, List.map_cons, List.sum_cons, List.sum_cons, ih]
  | swap x y l =>
    rw [List.map_cons, List.map_cons, List.map_cons, List.map_cons, List.sum_cons, List.sum_cons, List.sum_cons, List.sum_cons]
    omega
  | trans _ _ a b => rw [a, b]
theorem name_ix {es : List Ent} (nd : (es.map (·.name)).Nodup) {i j : Nat} {a b : Ent} (h : es[i]? = some a) (g : es[j]? = some b) (e : a.name = b.name) : i = j := nodup_ix nd (x := a.name) (by rw [List.getElem?_map, h]; rfl) (by rw [List.getElem?_map, g, e]; rfl)
/-- of the first that is not full -/
theorem gap_name {es : List Ent} {F c : Str → Int} (le : ∀ e ∈ es, c e.name ≤ F e.name) {e : Ent} (h : (es.find? fun e => decide (c e.name < F e.name)) = some e) : ∃ i, es[i]? = some e ∧ Gap es.length (cN es F) (cN es c) i := by
  obtain ⟨h1, i, hi, h2, h3⟩ := List.find?_eq_some_iff_getElem.mp h
  have hie : es[i]? = some e := by rw [List.getElem?_eq_getElem hi, h2]
  refine ⟨i, hie, hi, ?_, fun k hk => ?_⟩
  · rw [cN_at hie, cN_at hie]
    exact of_decide_eq_true h1
  · have hke : es[k]? = some es[k] := List.getElem?_eq_getElem (by omega)
    rw [cN_at hke, cN_at hke]
    have h4 := h3 k hk
    have h5 := le es[k] (List.getElem_mem _)
    have h6 : ¬ c es[k].name < F es[k].name := by simpa using h4
    omega
theorem gap_find {es : List Ent} {F c : Str → Int} {i : Nat} {e : Ent} (h : es[i]? = some e) (g : Gap es.length (cN es F) (cN es c) i) : (es.find? fun e => decide (c e.name < F e.name)) = some e := by
  obtain ⟨hi, he⟩ := List.getElem?_eq_some_iff.mp h
  have h1 := g.le
  rw [cN_at h, cN_at h] at h1
  refine List.find?_eq_some_iff_getElem.mpr ⟨decide_eq_true h1, i, hi, he, fun k hk => ?_⟩
  have hke : es[k]? = some es[k] := List.getElem?_eq_getElem (by omega)
  have h2 := g.full k hk
  rw [cN_at hke, cN_at hke] at h2
  simp
  omega
/-- the last kind that is split -/
def lastF (es : List Ent) (c : Str → Int) : Option Ent := (es.filter fun e => decide (0 < c e.name)).getLast?
theorem last_filter {p : Ent → Bool} : ∀ {es : List Ent} {e : Ent}, (es.filter p).getLast? = some e → ∃ j : Nat, es[j]? = some e ∧ p e = true ∧ ∀ (k : Nat) (x : Ent), j < k → es[k]? = some x → p x = false
  | [], _, h => by cases h
  | a :: es, e, h => by
    rw [List.filter_cons] at h
    have up : (es.filter p).getLast? = some e → ∃ j : Nat, (a :: es)[j]? = some e ∧ p e = true ∧ ∀ (k : Nat) (x : Ent), j < k → (a :: es)[k]? = some x → p x = false := fun h => by
      obtain ⟨j, h1, h2, h3⟩ := last_filter h
      refine ⟨j + 1, by simpa using h1, h2, fun k x hk hx => ?_⟩
      cases k with
      | zero => omega
      | succ k => exact h3 k x (by omega) (by simpa using hx)
    by_cases q : p a = true
    · rw [if_pos q] at h
      cases hl : (es.filter p).getLast? with
      | some z =>
        rw [List.getLast?_cons, hl] at h
        cases h
        exact up hl
      | none =>
        rw [List.getLast?_cons, hl] at h
        cases h
        have hn := List.getLast?_eq_none_iff.mp hl
        refine ⟨0, rfl, q, fun k x hk hx => ?_⟩
        cases k with
        | zero => omega
        | succ k =>
          have hm : x ∈ es := List.mem_of_getElem? (i := k) (by simpa using hx)
          have := List.filter_eq_nil_iff.mp hn x hm
          simpa using this
    · rw [if_neg q] at h
      exact up h
theorem last_name {es : List Ent} {c : Str → Int} (pos : ∀ e ∈ es, 0 ≤ c e.name) {e : Ent} (h : lastF es c = some e) : ∃ j, es[j]? = some e ∧ Last es.length (cN es c) j := by
  obtain ⟨j, h1, h2, h3⟩ := last_filter h
  refine ⟨j, h1, (List.getElem?_eq_some_iff.mp h1).1, ?_, fun k h4 h5 => ?_⟩
  · rw [cN_at h1]
    exact of_decide_eq_true h2
  · have hke : es[k]? = some es[k] := List.getElem?_eq_getElem (by omega)
    rw [cN_at hke]
    have h6 := of_decide_eq_false (h3 k _ h4 hke)
    have h7 := pos es[k] (List.getElem_mem _)
    omega
theorem lastF_ex {es : List Ent} {c : Str → Int} (h : ∃ e ∈ es, 0 < c e.name) : ∃ e, lastF es c = some e := by
  obtain ⟨e, he, h0⟩ := h
  unfold lastF
  cases q : (es.filter fun e => decide (0 < c e.name)).getLast? with
  | some z => exact ⟨z, rfl⟩
  | none =>
    have := List.filter_eq_nil_iff.mp (List.getLast?_eq_none_iff.mp q) e he
    exact absurd (decide_eq_true h0) this
/-- one more, one less -/
def up1 (c : Str → Int) (x : Str) : Str → Int := fun y => c y + if y = x then 1 else 0
def dn1 (c : Str → Int) (x : Str) : Str → Int := fun y => c y - if y = x then 1 else 0
theorem cN_up {es : List Ent} (nd : (es.map (·.name)).Nodup) {i : Nat} {e : Ent} (h : es[i]? = some e) (c : Str → Int) : cN es (up1 c e.name) = addN (cN es c) i := by
  funext k
  by_cases hk : k < es.length
  · have hke : es[k]? = some es[k] := List.getElem?_eq_getElem hk
    rw [cN_at hke, addN_at, cN_at hke]
    unfold up1
    by_cases q : k = i
    · subst q
      rw [hke] at h
      cases h
      rw [if_pos rfl, if_pos rfl]
    · rw [if_neg q, if_neg fun z => q (name_ix nd hke h z)]
  · rw [cN_out (by omega), addN_at, cN_out (by omega), if_neg]
    · rfl
    · have := (List.getElem?_eq_some_iff.mp h).1
      omega
theorem cN_dn {es : List Ent} (nd : (es.map (·.name)).Nodup) {i : Nat} {e : Ent} (h : es[i]? = some e) (c : Str → Int) : cN es (dn1 c e.name) = subN (cN es c) i := by
  funext k
  by_cases hk : k < es.length
  · have hke : es[k]? = some es[k] := List.getElem?_eq_getElem hk
    rw [cN_at hke, subN_at, cN_at hke]
    unfold dn1
    by_cases q : k = i
    · subst q
      rw [hke] at h
      cases h
      rw [if_pos rfl, if_pos rfl]
    · rw [if_neg q, if_neg fun z => q (name_ix nd hke h z)]
  · rw [cN_out (by omega), subN_at, cN_out (by omega), if_neg]
    · rfl
    · have := (List.getElem?_eq_some_iff.mp h).1
      omega
theorem getD_up (c : Num) (x : Str) : getD (put c x (getD c x + 1)) = up1 (getD c) x := by
  funext y
  unfold up1
  rw [getD_put]
  by_cases q : y = x
  · rw [if_pos q, if_pos q, q]
  · rw [if_neg q, if_neg q]
    omega
theorem getD_dn (c : Num) (x : Str) : getD (put c x (getD c x - 1)) = dn1 (getD c) x := by
  funext y
  unfold dn1
  rw [getD_put]
  by_cases q : y = x
  · rw [if_pos q, if_pos q, q]
  · rw [if_neg q, if_neg q]
    omega
/-- valid splits, kind by kind -/
def Fits (es : List Ent) (f c : Str → Int) : Prop := ∀ e ∈ es, 0 ≤ c e.name ∧ c e.name ≤ if e.parts = [] then 0 else f e.name + amt (incs es c) e.name
theorem Fits.tail {a : Ent} {es : List Ent} {f c : Str → Int} (h : Fits (a :: es) f c) : Fits es (addAll f (a.parts.map fun p => (p, c a.name))) c := fun e he => by
  have h1 := h e (List.mem_cons_of_mem _ he)
  rw [incs_cons, amt_append] at h1
  rw [addAll_at]
  refine ⟨h1.1, ?_⟩
  have h2 := h1.2
  by_cases q : e.parts = []
  · rw [if_pos q] at h2 ⊢
    exact h2
  · rw [if_neg q] at h2 ⊢
    omega
theorem fs_out {es : List Ent} {f : Str → Int} {x : Str} (h : x ∉ es.map (·.name)) : getD (fs es f) x = 0 := getD_none fun z => h (fs_names es f x z)
theorem fs_cons (a : Ent) (es : List Ent) (f : Str → Int) : fs (a :: es) f = (if a.parts = [] then [] else [(a.name, f a.name)]) ++ fs es (addAll f (a.parts.map fun p => (p, f a.name))) := rfl
theorem fs_head {a : Ent} {es : List Ent} {f : Str → Int} (nd : a.name ∉ es.map (·.name)) : getD (fs (a :: es) f) a.name = if a.parts = [] then 0 else f a.name := by
  rw [fs_cons]
  by_cases q : a.parts = []
  · rw [if_pos q, if_pos q, List.nil_append, fs_out nd]
  · rw [if_neg q, if_neg q, List.singleton_append, getD_cons, if_pos rfl]
theorem fs_tail {a : Ent} {es : List Ent} {f : Str → Int} {x : Str} (h : a.name ≠ x) : getD (fs (a :: es) f) x = getD (fs es (addAll f (a.parts.map fun p => (p, f a.name)))) x := by
  rw [fs_cons]
  by_cases q : a.parts = []
  · rw [if_pos q, List.nil_append]
  · rw [if_neg q, List.singleton_append, getD_cons, if_neg h]
/-- never more than all -/
theorem fits_le : ∀ {es : List Ent} {f g c : Str → Int}, Behind es → (es.map (·.name)).Nodup → (∀ x, f x ≤ g x) → Fits es f c → ∀ e ∈ es, c e.name ≤ getD (fs es g) e.name
  | [], _, _, _, _, _, _, _, _, h => by cases h
  | a :: es, f, g, c, b, nd, hfg, ft, e, he => by
    rw [List.map_cons, List.nodup_cons] at nd
    have self := incs_self b nd.1 c
    have ha := ft a (List.mem_cons_self ..)
    rw [self] at ha
    have hca : c a.name ≤ g a.name ∨ a.parts = [] := by
      by_cases q : a.parts = []
      · exact .inr q
      · rw [if_neg q] at ha
        have := hfg a.name
        exact .inl (by omega)
    rcases List.mem_cons.mp he with rfl | he
    · rw [fs_head nd.1]
      split
      · rename_i q
        rw [if_pos q] at ha
        exact ha.2
      · rename_i q
        rcases hca with h | h
        · exact h
        · exact absurd h q
    · rw [fs_tail fun z => nd.1 (List.mem_map.mpr ⟨e, he, z.symm⟩)]
      refine fits_le b.2 nd.2 (fun x => ?_) ft.tail e he
      rw [addAll_at, addAll_at, amt_times, amt_times]
      have h1 := hfg x
      rcases hca with h | h
      · have := Int.mul_le_mul_of_nonneg_right h (ones_le a.parts x).1
        omega
      · rw [h]
        show f x + c a.name * 0 ≤ g x + g a.name * 0
        omega
/-- the first with parts that has whole pieces: the first that is not split up -/
theorem find_gap : ∀ {es : List Ent} {f c : Str → Int}, Behind es → (es.map (·.name)).Nodup → Fits es f c → es.find? (splitB es f c) = es.find? fun e => decide (c e.name < getD (fs es f) e.name)
  | [], _, _, _, _, _ => rfl
  | a :: es, f, c, b, nd, ft => by
    rw [List.map_cons, List.nodup_cons] at nd
    have self := incs_self b nd.1
    have ha := ft a (List.mem_cons_self ..)
    rw [self c] at ha
    rw [List.find?_cons, List.find?_cons]
    have h1 : splitB (a :: es) f c a = decide (c a.name < getD (fs (a :: es) f) a.name) := by
      rw [fs_head nd.1]
      unfold splitB wholeF
      rw [self c]
      by_cases q : a.parts = []
      · rw [if_pos q, decide_eq_false (fun z => z q), Bool.false_and]
        exact (decide_eq_false (by omega)).symm
      · rw [if_neg q, decide_eq_true q, Bool.true_and]
        exact decide_eq_decide.mpr (by omega)
    rw [h1]
    by_cases q : c a.name < getD (fs (a :: es) f) a.name
    · rw [decide_eq_true q]
    · rw [decide_eq_false q]
      dsimp only
      rw [fs_head nd.1] at q
      have ne : ∀ y ∈ es, a.name ≠ y.name := fun y hy z => nd.1 (List.mem_map.mpr ⟨y, hy, z.symm⟩)
      have e1 : (es.find? fun e => decide (c e.name < getD (fs (a :: es) f) e.name)) = es.find? fun e => decide (c e.name < getD (fs es (addAll f (a.parts.map fun p => (p, c a.name)))) e.name) := find_congr fun x hx => by
        rw [fs_tail (ne x hx)]
        by_cases r : a.parts = []
        · rw [r]
          rfl
        · rw [if_neg r] at q ha
          have : c a.name = f a.name := by omega
          rw [this]
      rw [e1, ← find_gap b.2 nd.2 ft.tail]
      refine find_congr fun x hx => ?_
      unfold splitB
      rw [whole_tail (fun _ _ => rfl) x.name rfl]
theorem greedy_cons (q : Str × Int) (l : Num) (n : Int) : greedy (q :: l) n = (q.1, if q.2 < n then q.2 else n) :: greedy l (n - if q.2 < n then q.2 else n) := rfl
/-- the balanced splits: all, then some, then none -/
theorem greedy_bal : ∀ {es : List Ent} {f : Str → Int} {n : Int}, Behind es → (es.map (·.name)).Nodup → (∀ x, 0 ≤ f x) → 0 ≤ n → Bal es.length (cN es (getD (fs es f))) (cN es (getD (greedy (fs es f) n)))
  | [], _, _, _, _, _, _ => fun i k _ h2 => absurd h2 (Nat.not_lt_zero _)
  | a :: es, f, n, b, nd, hf, hn => fun i k h1 h2 h3 => by
    rw [List.map_cons, List.nodup_cons] at nd
    have fa := hf a.name
    have hf2 : ∀ x, 0 ≤ addAll f (a.parts.map fun p => (p, f a.name)) x := addAll_nonneg hf fa a.parts
    have fsn := fs_nonneg b.2 nd.2 hf2
    rw [List.length_cons] at h2
    have ne : ∀ y ∈ es, a.name ≠ y.name := fun y hy z => nd.1 (List.mem_map.mpr ⟨y, hy, z.symm⟩)
    cases k with
    | zero => omega
    | succ k =>
      have hk2 : es[k]? = some es[k] := List.getElem?_eq_getElem (by omega)
      have hk : (a :: es)[k + 1]? = some es[k] := by rw [List.getElem?_cons_succ]; exact hk2
      rw [cN_at hk]
      by_cases q : a.parts = []
      · have e1 : fs (a :: es) f = fs es f := by
          rw [fs, if_pos q, q]
          rfl
        rw [e1] at h3 ⊢
        cases i with
        | zero =>
          rw [cN_at (e := a) rfl, cN_at (e := a) rfl, fs_out nd.1, getD_none fun hm => nd.1 (fs_names es f _ (by rw [← greedy_names (fs es f) n]; exact hm))] at h3
          omega
        | succ i =>
          have hi2 : es[i]? = some es[i] := List.getElem?_eq_getElem (by omega)
          have hi : (a :: es)[i + 1]? = some es[i] := by rw [List.getElem?_cons_succ]; exact hi2
          rw [cN_at hi, cN_at hi] at h3
          have := greedy_bal b.2 nd.2 hf hn i k (by omega) (by omega) (by rw [cN_at hi2, cN_at hi2]; exact h3)
          rw [cN_at hk2] at this
          exact this
      · have e1 : fs (a :: es) f = (a.name, f a.name) :: fs es (addAll f (a.parts.map fun p => (p, f a.name))) := by
          rw [fs, if_neg q]
          rfl
        rw [e1, greedy_cons] at h3 ⊢
        dsimp only at h3 ⊢
        rw [getD_cons, if_neg (ne _ (List.getElem_mem _))]
        cases i with
        | zero =>
          rw [cN_at (e := a) rfl, cN_at (e := a) rfl, getD_cons, if_pos rfl, getD_cons, if_pos rfl] at h3
          refine greedy_zero fsn ?_ ?_ _
          · dsimp only at h3
            split at h3 <;> omega
          · split <;> omega
        | succ i =>
          have hi2 : es[i]? = some es[i] := List.getElem?_eq_getElem (by omega)
          have hi : (a :: es)[i + 1]? = some es[i] := by rw [List.getElem?_cons_succ]; exact hi2
          rw [cN_at hi, cN_at hi, getD_cons, if_neg (ne _ (List.getElem_mem _)), getD_cons, if_neg (ne _ (List.getElem_mem _))] at h3
          have := greedy_bal (n := n - if f a.name < n then f a.name else n) b.2 nd.2 hf2 (by split <;> omega) i k (by omega) (by omega) (by rw [cN_at hi2, cN_at hi2]; exact h3)
          rw [cN_at hk2] at this
          exact this
theorem SplitsOk.fit {es es' : List Ent} {d c : Num} (hp : es'.Perm es) (ok : SplitsOk es d c) : Fits es' (getD d) (getD c) := fun e he => by
  have h := ok.fits e (hp.mem_iff.mp he)
  rw [← pn_perm hp, pn_at] at h
  exact h
theorem SplitsOk.vec {es es' : List Ent} {d c : Num} (hv : Valid es) (hp : es'.Perm es) (ho : Ordered es') (ok : SplitsOk es d c) : Vec es'.length (cN es' (getD (fs es' (getD d)))) (cN es' (getD c)) := fun i hi => by
  have hie : es'[i]? = some es'[i] := List.getElem?_eq_getElem hi
  have hv' := hv.perm hp
  rw [cN_at hie, cN_at hie]
  have ft := ok.fit hp
  exact ⟨(ft _ (List.getElem_mem _)).1, fits_le (hv'.behind ho) hv'.nodup (fun _ => Int.le_refl _) ft _ (List.getElem_mem _)⟩
theorem full_sum {es : List Ent} (b : Behind es) (nd : (es.map (·.name)).Nodup) (f : Str → Int) : sumE es (getD (fs es f)) = ((fs es f).map (·.2)).sum := sumE_getD nd (fs_nodup f nd) fun q hq => fs_names es f _ (List.mem_map.mpr ⟨q, hq, rfl⟩)
theorem nodup_len : ∀ {l m : List Str}, l.Nodup → (∀ x ∈ l, x ∈ m) → l.length ≤ m.length
  | [], _, _, _ => Nat.zero_le _
  | x :: l, m, nd, h => by
    rw [List.nodup_cons] at nd
    have hx := h x (List.mem_cons_self ..)
    have h1 := nodup_len (m := m.erase x) nd.2 fun y hy => (List.mem_erase_of_ne fun z => nd.1 (by rw [← z]; exact hy)).mpr (h y (List.mem_cons_of_mem _ hy))
    rw [List.length_erase_of_mem hx] at h1
    have := List.length_pos_of_mem hx
    rw [List.length_cons]
    omega
theorem same_name {es : List Ent} (nd : (es.map (·.name)).Nodup) {x e : Ent} (hx : x ∈ es) (he : e ∈ es) (q : x.name = e.name) : x = e := by
  obtain ⟨i, hi⟩ := List.mem_iff_getElem?.mp hx
  obtain ⟨j, hj⟩ := List.mem_iff_getElem?.mp he
  have := name_ix nd hi hj q
  rw [this, hj] at hi
  cases hi
  rfl
/-- put keeps known names -/
theorem put_ok {es : List Ent} {c : Num} (nd : (c.map (·.1)).Nodup) (hk : ∀ q ∈ c, q.1 ∈ es.map (·.name)) {x : Str} (hx : x ∈ es.map (·.name)) (i : Int) : ((put c x i).map (·.1)).Nodup ∧ (∀ q ∈ put c x i, q.1 ∈ es.map (·.name)) ∧ (put c x i).length ≤ es.length := by
  have h1 : ((put c x i).map (·.1)).Nodup := put_nodup nd
  have h2 : ∀ q ∈ put c x i, q.1 ∈ es.map (·.name) := fun q hq => by
    rcases (put_keys c x q.1 i).mp (List.mem_map.mpr ⟨q, hq, rfl⟩) with h | h
    · rw [h]
      exact hx
    · obtain ⟨z, hz, e⟩ := List.mem_map.mp h
      rw [← e]
      exact hk z hz
  refine ⟨h1, h2, ?_⟩
  have h3 := nodup_len (m := es.map (·.name)) h1 fun y hy => by
    obtain ⟨q, hq, rfl⟩ := List.mem_map.mp hy
    exact h2 q hq
  rw [List.length_map, List.length_map] at h3
  exact h3
/-- a split step and an undo step keep splits valid -/
theorem SplitsOk.up {es : List Ent} {d c : Num} (hv : Valid es) (hz : es.length < 64) (ok : SplitsOk es d c) {e : Ent} (he : e ∈ es) (hpe : e.parts ≠ []) (hw : getD c e.name < pn es d c e.name) : SplitsOk es d (put c e.name (getD c e.name + 1)) := by
  obtain ⟨h1, h2, h3⟩ := put_ok ok.nd ok.known (List.mem_map.mpr ⟨e, he, rfl⟩) (getD c e.name + 1)
  refine ⟨h1, by omega, h2, fun x hx => ?_⟩
  have hf := ok.fits x hx
  rw [pn_put hv.nodup he, getD_put]
  have h4 := (ones_le e.parts x.name).1
  by_cases q : x.name = e.name
  · obtain rfl := same_name hv.nodup hx he q
    rw [if_neg hpe] at hf
    rw [if_pos rfl, if_neg hpe]
    omega
  · rw [if_neg q]
    by_cases z : x.parts = []
    · rw [if_pos z] at hf ⊢
      exact hf
    · rw [if_neg z] at hf ⊢
      omega
/-- the parts of a kind come behind it -/
theorem parts_behind : ∀ {es : List Ent} {j : Nat} {e : Ent}, Behind es → es[j]? = some e → ∀ q ∈ e.parts, ∃ k x, j < k ∧ es[k]? = some x ∧ x.name = q
  | [], _, _, _, h => by simp at h
  | a :: es, 0, e, b, h => fun q hq => by
    simp at h
    subst h
    obtain ⟨x, hx, e1⟩ := List.mem_map.mp (b.1 q hq).1
    obtain ⟨k, hk⟩ := List.mem_iff_getElem?.mp hx
    exact ⟨k + 1, x, by omega, by simpa using hk, e1⟩
  | a :: es, j + 1, e, b, h => fun q hq => by
    obtain ⟨k, x, h1, h2, h3⟩ := parts_behind b.2 (j := j) (by simpa using h) q hq
    exact ⟨k + 1, x, by omega, by simpa using h2, h3⟩
theorem pn_dn {es : List Ent} (nd : (es.map (·.name)).Nodup) {e0 : Ent} (h0 : e0 ∈ es) (st c : Num) (x : Str) : pn es st (put c e0.name (getD c e0.name - 1)) x = pn es st c x - amt (ones e0.parts) x := by
  have h := pn_put nd h0 st (put c e0.name (getD c e0.name - 1)) x
  have e1 : getD (put (put c e0.name (getD c e0.name - 1)) e0.name (getD (put c e0.name (getD c e0.name - 1)) e0.name + 1)) = getD c := by
    rw [getD_up, getD_dn]
    funext y
    unfold up1 dn1
    omega
  rw [pn_congr rfl e1] at h
  omega
theorem SplitsOk.down {es es' : List Ent} {d c : Num} (hv : Valid es) (hz : es.length < 64) (hp : es'.Perm es) (ho : Ordered es') (so : StockOk es d) (ok : SplitsOk es d c) {j : Nat} {e : Ent} (he : es'[j]? = some e) (l : Last es'.length (cN es' (getD c)) j) : SplitsOk es d (put c e.name (getD c e.name - 1)) := by
  have hv' := hv.perm hp
  have hm := hp.mem_iff.mp (List.mem_of_getElem? he)
  obtain ⟨h1, h2, h3⟩ := put_ok ok.nd ok.known (List.mem_map.mpr ⟨e, hm, rfl⟩) (getD c e.name - 1)
  have lp := l.pos
  rw [cN_at he] at lp
  have cp : ∀ q ∈ c, 0 ≤ q.2 := fun q hq => by
    obtain ⟨e, he, z⟩ := List.mem_map.mp (ok.known q hq)
    have := (ok.fits e he).1
    rw [z, getD_mem ok.nd hq] at this
    exact this
  have dp : ∀ q ∈ put c e.name (getD c e.name - 1), 0 ≤ q.2 := fun q hq => by
    rw [← getD_mem h1 hq, getD_put]
    split
    · omega
    · exact getD_pos cp _
  refine ⟨h1, by omega, h2, fun x hx => ?_⟩
  have hf := ok.fits x hx
  by_cases q : x.name = e.name
  · obtain rfl := same_name hv.nodup hx hm q
    rw [pn_dn hv.nodup hm, getD_put, if_pos rfl]
    by_cases z : x.parts = []
    · rw [if_pos z] at hf ⊢
      omega
    · rw [if_neg z] at hf ⊢
      have : amt (ones x.parts) x.name = 0 := amt_zero fun y hy => by
        unfold ones at hy
        obtain ⟨p, hp2, rfl⟩ := List.mem_map.mp hy
        exact (Behind.at (hv'.behind ho) (hp.mem_iff.mpr hx) p hp2).2
      omega
  · by_cases z : x.parts = []
    · rw [if_pos z] at hf ⊢
      rw [getD_put, if_neg q]
      exact hf
    · rw [if_neg z] at hf ⊢
      by_cases y : x.name ∈ e.parts
      · obtain ⟨k, w, k1, k2, k3⟩ := parts_behind (hv'.behind ho) he x.name y
        have h0 := l.zero k k1 (List.getElem?_eq_some_iff.mp k2).1
        rw [cN_at k2, k3] at h0
        rw [getD_put, if_neg q, h0]
        exact ⟨Int.le_refl _, pn_nonneg' so.pos dp _⟩
      · have : amt (ones e.parts) x.name = 0 := amt_zero fun w hw => by
          unfold ones at hw
          obtain ⟨p, hp2, rfl⟩ := List.mem_map.mp hw
          exact fun z => y (by rw [← z]; exact hp2)
        rw [pn_dn hv.nodup hm, getD_put, if_neg q]
        omega
end Sk
namespace Sk
open PySem PySem.Spec PyProof.Rows L2
theorem ord_w {es : List Ent} (o : Ordered es) {i j : Nat} (h : i < j) {a b : Ent} (ha : es[i]? = some a) (hb : es[j]? = some b) : b.w ≤ a.w := by
  obtain ⟨i1, rfl⟩ := List.getElem?_eq_some_iff.mp ha
  obtain ⟨j1, rfl⟩ := List.getElem?_eq_some_iff.mp hb
  have h1 : kLt es[j].key es[i].key = false := List.pairwise_iff_getElem.mp o i j i1 j1 h
  rcases kLt_no.mp h1 with h2 | ⟨h2, _⟩
  · have h3 : (0 : Int) - es[i].w < 0 - es[j].w := h2
    omega
  · have h3 : (0 : Int) - es[j].w = 0 - es[i].w := h2
    omega
/-- what G tells of the entries -/
def eN (es : List Ent) (G : Ent → Int) : Nat → Int := fun i => match es[i]? with
  | some e => G e
  | none => 0
theorem eN_at {es : List Ent} {i : Nat} {e : Ent} (h : es[i]? = some e) (G : Ent → Int) : eN es G i = G e := by
  unfold eN
  rw [h]
theorem sumN_eN (es : List Ent) (G : Ent → Int) : sumN (eN es G) es.length = (es.map G).sum := by
  have key : ∀ n, n ≤ es.length → sumN (eN es G) n = ((es.take n).map G).sum := by
    intro n
    induction n with
    | zero => intro _; rfl
    | succ n ih =>
      intro h
      have hn : es[n]? = some es[n] := List.getElem?_eq_getElem (by omega)
      rw [take_snoc hn, List.map_append, List.sum_append, ← ih (by omega)]
      show sumN (eN es G) n + eN es G n = _
      rw [eN_at hn]
      show _ = _ + (G es[n] + 0)
      omega
  rw [key _ (Nat.le_refl _), List.take_length]
theorem fsS_head {a : Ent} {es : List Ent} {f : Str → Int} (b : Behind (a :: es)) (nd : a.name ∉ es.map (·.name)) : fsS (a :: es) f a.name = f a.name := by
  show fsS es _ a.name = _
  rw [fsS_other b.2 nd, addAll_at, amt_zero]
  · omega
  · intro q hq
    obtain ⟨p, hp, rfl⟩ := List.mem_map.mp hq
    exact (b.1 p hp).2
/-- the pieces, where all larger kinds are split up -/
theorem full_at : ∀ {es : List Ent} {f c : Str → Int} {i : Nat} {e : Ent}, Behind es → (es.map (·.name)).Nodup → es[i]? = some e → (∀ (k : Nat) (x : Ent), k < i → es[k]? = some x → c x.name = getD (fs es f) x.name) → f e.name + amt (incs es c) e.name = fsS es f e.name
  | [], _, _, _, _, _, _, h, _ => by simp at h
  | a :: es, f, c, 0, e, b, nd, h, _ => by
    rw [List.map_cons, List.nodup_cons] at nd
    simp at h
    subst h
    rw [incs_self b nd.1, fsS_head b nd.1]
    omega
  | a :: es, f, c, i + 1, e, b, nd, h, hk => by
    rw [List.map_cons, List.nodup_cons] at nd
    have h' : es[i]? = some e := by simpa using h
    have ih := full_at (c := c) (f := addAll f (a.parts.map fun p => (p, f a.name))) b.2 nd.2 h' fun k x hlt hx => by
      have h1 := hk (k + 1) x (by omega) (by simpa using hx)
      rw [fs_tail fun z => nd.1 (List.mem_map.mpr ⟨x, List.mem_of_getElem? hx, z.symm⟩)] at h1
      exact h1
    have h0 := hk 0 a (by omega) rfl
    rw [fs_head nd.1] at h0
    rw [addAll_at] at ih
    show _ = fsS es (addAll f (a.parts.map fun p => (p, f a.name))) e.name
    rw [← ih, incs_cons, amt_append]
    by_cases q : a.parts = []
    · rw [q]
      show f e.name + (0 + amt (incs es c) e.name) = f e.name + 0 + amt (incs es c) e.name
      omega
    · rw [if_neg q] at h0
      rw [h0]
      omega
theorem fs_val {es : List Ent} {f : Str → Int} (b : Behind es) (nd : (es.map (·.name)).Nodup) {e : Ent} (he : e ∈ es) : getD (fs es f) e.name = if e.parts = [] then 0 else fsS es f e.name := by
  by_cases q : e.parts = []
  · rw [if_pos q, getD_none]
    intro hm
    rw [fs_final b nd, List.map_map] at hm
    obtain ⟨x, hx, z⟩ := List.mem_map.mp hm
    obtain ⟨x1, x2⟩ := List.mem_filter.mp hx
    obtain rfl := same_name nd x1 he z
    exact of_decide_eq_true x2 q
  · rw [if_neg q, getD_mem (q := (e.name, fsS es f e.name)) (fs_nodup f nd)]
    rw [fs_final b nd]
    exact List.mem_map.mpr ⟨e, List.mem_filter.mpr ⟨he, decide_eq_true q⟩, rfl⟩
theorem fs_get {es : List Ent} {f : Str → Int} (b : Behind es) (nd : (es.map (·.name)).Nodup) {e : Ent} (he : e ∈ es) : get? (fs es f) e.name = if e.parts = [] then none else some (fsS es f e.name) := by
  by_cases q : e.parts = []
  · rw [if_pos q]
    refine get?_none fun hm => ?_
    rw [fs_final b nd, List.map_map] at hm
    obtain ⟨x, hx, z⟩ := List.mem_map.mp hm
    obtain ⟨x1, x2⟩ := List.mem_filter.mp hx
    obtain rfl := same_name nd x1 he z
    exact of_decide_eq_true x2 q
  · rw [if_neg q]
    refine get?_ndm (q := (e.name, fsS es f e.name)) (fs_nodup f nd) ?_
    rw [fs_final b nd]
    exact List.mem_map.mpr ⟨e, List.mem_filter.mpr ⟨he, decide_eq_true q⟩, rfl⟩
/-- the pieces when all is split -/
theorem pn_full {es : List Ent} {d : Num} (b : Behind es) (nd : (es.map (·.name)).Nodup) {e : Ent} (he : e ∈ es) : pn es d (fs es (getD d)) e.name = fsS es (getD d) e.name := by
  obtain ⟨i, hi⟩ := List.mem_iff_getElem?.mp he
  rw [pn_at]
  exact full_at b nd hi fun _ _ _ _ => rfl
end Sk
namespace Sk
open PySem PySem.Spec PyProof.Rows L2
abbrev s_splits_for : Stmt := topS 22
abbrev N_splits_for : List Str := ["catalogue", "stock", "limit", "entries", "splits", "numbers", "heavy", "name", "weight", "parts"]
theorem sc_splits_for : FnScope N_splits_for ["catalogue", "stock", "limit"] (defScope s_splits_for) := ⟨rfl, rfl, rfl, by decide +kernel, rfl, by decide +kernel, by decide +kernel⟩
/-- the heavy kinds of which there are pieces when all is split -/
def heavyE (es : List Ent) (f : Str → Int) (lim : Int) : List Ent := es.filter fun e => decide (lim < e.w) && decide (0 < fsS es f e.name)
def limO (es : List Ent) (f : Str → Int) (lim : Int) : Option Int := if (heavyE es f lim).all (fun e => decide (e.parts ≠ [])) = true then some ((heavyE es f lim).map fun e => fsS es f e.name).sum else none
def sp_splits_for (Tb : List (Addr × Str)) (K : PySem.W.Frag) : Sp := fun vs H Q _ => ∃ (a b : Addr) (xs : List V) (es : List Ent) (st : Num) (lim : Int), vs = [.ref a, .ref b, .int lim] ∧ SqL K H a xs ∧ CatAt H xs es ∧ H b = some (.dK (dS st)) ∧ LamX.Tabs Tb H ∧ Valid es ∧ StockOk es st ∧ 0 ≤ lim ∧
  ∀ H' es', es'.Perm es → Ordered es' → Gr Tb H H' → Q (optV (limO es' (getD st) lim)) H'
def heavyV (H : Hp) (W : Str → Int) (lim : Int) (v : V) : Option V := match itemAt H 0 v, itemAt H 1 v with
  | some (.str n), some (.int w) => if decide (lim < w) && decide (0 < W n) then some (.str n) else none
  | _, _ => none
theorem heavyV_at {H : Hp} {W : Str → Int} {lim : Int} {v : V} {e : Ent} (h : EntAt H v e) : heavyV H W lim v = if decide (lim < e.w) && decide (0 < W e.name) then some (.str e.name) else none := by
  obtain ⟨t, l, rfl, ht, hl⟩ := h
  unfold heavyV
  rw [itemAt_tup ht, itemAt_tup ht]
  rfl
theorem fm_filterG {α β : Type} (p : α → Bool) (f : α → β) (l : List α) : l.filterMap (fun e => if p e then some (f e) else none) = (l.filter p).map f := by
  induction l with
  | nil => rfl
  | cons a l ih =>
    rw [List.filterMap_cons, List.filter_cons]
    cases q : p a with
    | true =>
      rw [if_pos rfl, if_pos rfl, List.map_cons]
      show f a :: _ = _
      rw [ih]
    | false =>
      rw [if_neg Bool.false_ne_true, if_neg Bool.false_ne_true]
      exact ih
theorem getD_of {d : Num} {x : Str} {i : Int} (h : get? d x = some i) : getD d x = i := by
  unfold getD
  rw [h]
  rfl
/-- what g tells of a text -/
def strV (g : Str → V) (v : V) : Option V := match v with
  | .str y => some (g y)
  | _ => none
theorem fm_strV (g : Str → V) : ∀ l : List Str, (l.map V.str).filterMap (strV g) = l.map g
  | [] => rfl
  | x :: l => by
    rw [List.map_cons, List.filterMap_cons, List.map_cons]
    show g x :: _ = _
    rw [fm_strV g l]
section
variable {P : Program} {w : World} {K : PySem.W.Frag} {mg : Str → Option Value} {base : Heap} {Tb : List (Addr × Str)}
theorem ok_splits_for {f : Addr} {fd : FuncData} (F : FnP K "splits_for" s_splits_for f fd) (T : Tx K mg) (G_check_catalogue : Fn P w K mg base "check_catalogue" 3 ["catalogue"] (sp_check_catalogue Tb K)) (G_check_stock : Fn P w K mg base "check_stock" 1 ["catalogue", "stock"] (sp_check_stock Tb K)) (G_full_splits : Fn P w K mg base "full_splits" 1 ["entries", "stock"] (sp_full_splits Tb K)) (G_ordered : Fn P w K mg base "ordered" 4 ["catalogue"] (sp_ordered Tb K)) (G_piece_numbers : Fn P w K mg base "piece_numbers" 1 ["entries", "stock", "splits"] (sp_piece_numbers Tb K)) : FnOk P w K mg base CX0 5 f fd ["catalogue", "stock", "limit"] (sp_splits_for Tb K) := by
  refine F.ok sc_splits_for (fun vs H Q E h => ?_) (fun cdv A outer s H vs Q E hr h => ?_)
  · obtain ⟨_, _, _, _, _, _, rfl, _⟩ := h
    rfl
  · obtain ⟨a, b, xs, es, st, lim, rfl, ha, hc, hb, ht, hv, so, l0, k⟩ := h
    refine ⟨_, PSs.nox (pss_cons (ps_expr (pe_fn G_check_catalogue (hr.mono (by decide)) (pa_cons (pv 0) pa_nil)))
      (pss_cons (ps_expr (pe_fn G_check_stock (hr.mono (by decide)) (pa_cons (pv 0) (pa_cons (pv 1) pa_nil))))
      (pss_cons (ps_if (pt_cmpR op_lt (pv 2) pe_int (nomark _)) (pss_one ps_never) pss_nil)
      (pss_cons (ps_set (i := 3) sc_splits_for.nd rfl (Or.inl rfl) (pe_fn G_ordered (hr.mono (by decide)) (pa_cons (pv 0) pa_nil)))
      (pss_cons (ps_set (i := 4) sc_splits_for.nd rfl (Or.inr rfl) (pe_fn G_full_splits (hr.mono (by decide)) (pa_cons (pv 3) (pa_cons (pv 1) pa_nil))))
      (pss_cons (ps_set (i := 5) sc_splits_for.nd rfl (Or.inr rfl) (pe_fn G_piece_numbers (hr.mono (by decide)) (pa_cons (pv 3) (pa_cons (pv 1) (pa_cons (pv 4) pa_nil)))))
      (pss_cons (ps_setLc (i := 6) (own := [("name", 7), ("weight", 8), ("parts", 9)]) (g := (gTup K 3 (gCons (gName 7) (gCons (gName 8) (gCons (gName 9) gNil))))) (tt := _) rfl sc_splits_for.nd rfl rfl (sw_true rfl rfl rfl (by decide +kernel)) (piL (K := K) rfl (pv 3)) (blkOk_by (N := N_splits_for) (sc := (defScope s_splits_for)) (by decide +kernel)) (fun _ _ _ _ _ => (pg_tup rfl (pgs_cons (pg_name (i := 7) sc_splits_for.nd rfl (Or.inl rfl)) (pgs_cons (pg_name (i := 8) sc_splits_for.nd rfl (Or.inl rfl)) (pgs_cons (pg_name (i := 9) sc_splits_for.nd rfl (Or.inl rfl)) pgs_nil))))) (fun _ _ _ _ _ => (pts_one (PW.pt (pw_and (pt_cmpR op_gt (pv 8) (pv 2) (nomark _)) (pw_and1 (pt_cmpR op_gt (pe_dget (hu_of hr) (pv 5) (pv 7) (fun _ _ => rfl)) pe_int (nomark _))))))) (fun _ _ _ _ _ => (pv 7)))
      (pss_cons (ps_if (pt_not (pt_val (pe_callB (crAll (K := K) rfl rfl) (by rfl) T.n_all (by decide +kernel) (pa_cons (pe_lc (own := [("name", 7)]) (g := (gName 7)) (tt := tYes) rfl sc_splits_for.nd (piL (K := K) rfl (pv 6)) (blkOk_by (N := N_splits_for) (sc := (defScope s_splits_for)) (by decide +kernel)) (fun _ _ _ _ _ => (pg_name (i := 7) sc_splits_for.nd rfl (Or.inl rfl))) (fun _ _ _ _ _ => pts_nil) (fun _ _ _ _ _ => (pe_cmp (pc_din (hu_of hr) (pv 7) (pv 4))))) pa_nil)))) (pss_one (ps_ret pe_non)) pss_nil)
      (pss_one (ps_ret (pe_callB (crSum (K := K) rfl rfl) (by rfl) T.n_sum (by decide +kernel) (pa_cons (pe_lc (own := [("name", 7)]) (g := (gName 7)) (tt := tYes) rfl sc_splits_for.nd (piL (K := K) rfl (pv 6)) (blkOk_by (N := N_splits_for) (sc := (defScope s_splits_for)) (by decide +kernel)) (fun _ _ _ _ _ => (pg_name (i := 7) sc_splits_for.nd rfl (Or.inl rfl))) (fun _ _ _ _ _ => pts_nil) (fun _ _ _ _ _ => (pe_dget (hu_of hr) (pv 4) (pv 7) (fun _ _ => rfl)))) pa_nil)))))))))))), ?_⟩
    refine ⟨_, rfl, a, xs, es, rfl, ha, hc, hv, fun H1 g1 => ?_⟩
    refine ⟨_, rfl, _, rfl, a, b, xs, es, st, rfl, g1.ext_seq ha, CatAt.gr g1 hc, g1.at hb .dK, so, hv.few, fun H2 g2 => ?_⟩
    refine ⟨_, rfl, _, _, rfl, rfl, _, rfl, ?_⟩
    refine ite2 (fun c1 => absurd (of_decide_eq_true c1) (by omega)) (fun c1 => ?_)
    have g12 := g1.trans g2
    refine ⟨_, rfl, a, xs, es, rfl, g12.ext_seq ha, CatAt.gr g12 hc, g12.tab ht, hv.few, fun r H4 ys es' hp ho hc4 g4 hr => ?_⟩
    have g5 : Gr Tb H2 (upd H4 r (.lst ys)) := g4.trans (Gr.new hr)
    have hc5 : CatAt (upd H4 r (.lst ys)) ys es' := CatAt.gr g5 hc4
    have hr5 : (upd H4 r (.lst ys)) r = some (.lst ys) := upd_same
    have hv' := hv.perm hp
    have hbe := hv'.behind ho
    have g15 := g12.trans g5
    have hyl := Paired.len hc5
    have hfew := hv'.few
    generalize upd H4 r (.lst ys) = H5 at g5 hc5 hr5 g15
    refine ⟨_, rfl, _, rfl, r, b, ys, es', st, rfl, SqL.of hr5, hc5, g15.at hb .dK, hv'.nodup, hbe, hv'.few, fun S H6 g6 nS hS => ?_⟩
    refine ⟨_, rfl, _, rfl, _, rfl, r, b, S, ys, es', st, _, rfl, SqL.of (g6.at hr5 .lst), CatAt.gr g6 hc5, (g15.trans g6).at hb .dK, hS, hv'.nodup, hv'.known, hv'.few, fun N H7 g7 nN hN => ?_⟩
    have g67 := g6.trans g7
    have hr7 := g67.at hr5 .lst
    have hc7 := CatAt.gr g67 hc5
    have g17 := g15.trans g67
    have hS7 := g7.at hS .dK
    refine ⟨_, rfl, r, rfl, ⟨_, SqL.of hr7⟩, fun D hD => lc_fm (Tb := Tb) (xs := ys) walk_list rfl (heavyV H7 (pn es' st (fs es' (getD st))) lim) hD (by omega) (fun H' g => SqL.of (g.at hr7 .lst)) (fun j v H' hvj g Rk Rs hk hks => ?_) fun H8 g8 hD8 => ?_⟩
    · obtain ⟨e, he, hev⟩ := Paired.at hc7 hvj
      have hkp := heavyV_at (W := pn es' st (fs es' (getD st))) (lim := lim) hev
      obtain ⟨t, lp, rfl, ht0, hlp⟩ := id hev
      have hnm : e.name ∈ es'.map (·.name) := List.mem_map.mpr ⟨e, List.mem_of_getElem? he, rfl⟩
      refine gtup3 (g.at ht0 .tup) ⟨rfl, _, rfl, _, rfl, _, _, rfl, rfl, _, rfl, ?_⟩
      refine ite2 (fun c2 => ?_) (fun c2 => ?_)
      · refine ⟨_, rfl, _, rfl, N, _, rfl, dgetS (g.at hN .dK) (get?_numOf hnm), _, _, rfl, rfl, _, rfl, ?_⟩
        refine ite2 (fun c3 => ?_) (fun c3 => ?_)
        · refine ⟨_, rfl, hk _ _ ?_ (Gr.refl _)⟩
          rw [hkp, c2, c3]
          rfl
        · refine hks _ ?_ (Gr.refl _)
          rw [hkp, c2, Bool.eq_false_iff.mpr c3]
          rfl
      · refine hks _ ?_ (Gr.refl _)
        rw [hkp, Bool.eq_false_iff.mpr c2]
        rfl
    have el : ys.filterMap (heavyV H7 (pn es' st (fs es' (getD st))) lim) = ((heavyE es' (getD st) lim).map (·.name)).map V.str := by
      rw [fm_pairedO (g := fun e => if decide (lim < e.w) && decide (0 < pn es' st (fs es' (getD st)) e.name) then some (V.str e.name) else none) (fun v e h => heavyV_at h) hc7, fm_filterG, List.map_map]
      unfold heavyE
      congr 1
      exact List.filter_congr fun e he => by rw [pn_full hbe hv'.nodup he]
    rw [el] at hD8
    have k2 := fun H' => k H' es' hp ho
    have hmem : ∀ e ∈ heavyE es' (getD st) lim, e ∈ es' := fun e he => (List.mem_filter.mp he).1
    have hlen : (heavyE es' (getD st) lim).length ≤ 100000 := Nat.le_trans (List.length_filter_le _ _) hfew
    unfold limO at k2
    generalize heavyE es' (getD st) lim = hs at hD8 k2 hmem hlen
    have hS8 := g8.at hS7 .dK
    have sg : ∀ e ∈ hs, get? (fs es' (getD st)) e.name = if e.parts = [] then none else some (fsS es' (getD st) e.name) := fun e he => fs_get hbe hv'.nodup (hmem e he)
    have sg2 : ∀ n ∈ hs.map (·.name), ∃ e ∈ hs, e.name = n := fun n hn => by
      obtain ⟨e, he, z⟩ := List.mem_map.mp hn
      exact ⟨e, he, z⟩
    refine ⟨_, rfl, D, rfl, ⟨_, SqL.of hD8⟩, fun B hB => lc_fm (Tb := Tb) (xs := (hs.map (·.name)).map V.str) walk_list rfl (strV fun n => .bl (get? (fs es' (getD st)) n).isSome) hB (by rw [List.length_map, List.length_map]; omega) (fun H' g => SqL.of (g.at hD8 .lst)) (fun j v H' hvj g Rk Rs hk hks => ?_) fun H9 g9 hB9 => ?_⟩
    · rw [List.getElem?_map] at hvj
      cases hn : (hs.map (·.name))[j]? with
      | none => rw [hn] at hvj; cases hvj
      | some n =>
        rw [hn] at hvj
        cases hvj
        refine ⟨rfl, _, rfl, _, rfl, S, _, rfl, dgetO (g.at hS8 .dK) n, hk _ _ ?_ (Gr.refl _)⟩
        show some (V.bl _) = some (V.bl _)
        rw [Option.isSome_map]
    rw [fm_strV] at hB9
    refine ⟨B, hs.map fun e => (get? (fs es' (getD st)) e.name).isSome, rfl, SqL.of ?_, _, rfl, ?_⟩
    · rw [hB9, List.map_map, List.map_map]
      rfl
    have eall : (hs.map fun e => (get? (fs es' (getD st)) e.name).isSome).all id = hs.all fun e => decide (e.parts ≠ []) := by
      have key : ∀ e ∈ hs, (get? (fs es' (getD st)) e.name).isSome = decide (e.parts ≠ []) := fun e he => by
        rw [sg e he]
        by_cases z : e.parts = []
        · rw [if_pos z, decide_eq_false (fun y => y z)]
          rfl
        · rw [if_neg z, decide_eq_true z]
          rfl
      rw [List.all_map, Bool.eq_iff_iff, List.all_eq_true, List.all_eq_true]
      exact ⟨fun h e he => by rw [← key e he]; exact h e he, fun h e he => by
        show (get? (fs es' (getD st)) e.name).isSome = true
        rw [key e he]
        exact h e he⟩
    rw [eall]
    have g19 := (g17.trans g8).trans g9
    by_cases c2 : hs.all (fun e => decide (e.parts ≠ [])) = true
    · rw [c2]
      rw [if_pos c2] at k2
      have k3 : ∀ H', Gr Tb H H' → Q (V.int (hs.map fun e : Ent => fsS es' (getD st) e.name).sum) H' := k2
      have hD9 := g9.at hD8 .lst
      have hS9 := g9.at hS8 .dK
      refine iteF ⟨_, rfl, D, rfl, ⟨_, SqL.of hD9⟩, fun C hC => lc_fm (Tb := Tb) (xs := (hs.map (·.name)).map V.str) walk_list rfl (strV fun n => .int (getD (fs es' (getD st)) n)) hC (by rw [List.length_map, List.length_map]; omega) (fun H' g => SqL.of (g.at hD9 .lst)) (fun j v H' hvj g Rk Rs hk hks => ?_) fun H10 g10 hC10 => ?_⟩
      · rw [List.getElem?_map] at hvj
        cases hn : (hs.map (·.name))[j]? with
        | none => rw [hn] at hvj; cases hvj
        | some n =>
          rw [hn] at hvj
          cases hvj
          obtain ⟨e, he, rfl⟩ := sg2 n (List.mem_of_getElem? hn)
          have h1 := sg e he
          rw [if_neg (of_decide_eq_true (List.all_eq_true.mp c2 e he))] at h1
          refine ⟨rfl, _, rfl, _, rfl, S, _, rfl, dgetS (g.at hS9 .dK) h1, hk _ _ ?_ (Gr.refl _)⟩
          show some (V.int (getD (fs es' (getD st)) e.name)) = _
          rw [getD_of h1]
      rw [fm_strV] at hC10
      refine ⟨C, hs.map fun e : Ent => fsS es' (getD st) e.name, rfl, SqL.of ?_, k3 _ (g19.trans g10)⟩
      rw [hC10, List.map_map, List.map_map]
      congr 2
      refine List.map_congr_left fun e he => ?_
      have h1 := sg e he
      rw [if_neg (of_decide_eq_true (List.all_eq_true.mp c2 e he))] at h1
      show V.int (getD (fs es' (getD st)) e.name) = V.int (fsS es' (getD st) e.name)
      rw [getD_of h1]
    · rw [Bool.eq_false_iff.mpr c2]
      rw [if_neg c2] at k2
      exact iteT (k2 _ g19)
end
end Sk
namespace Sk
open PySem PySem.Spec PyProof.Rows L2
abbrev s_law_pool : Stmt := topS 24
abbrev N_law_pool : List Str := ["script", "at", "cell"]
theorem sc_law_pool : FnScope N_law_pool ["script", "at"] (defScope s_law_pool) := ⟨rfl, rfl, rfl, by decide +kernel, rfl, by decide +kernel, by decide +kernel⟩
def sp_law_pool (Tb : List (Addr × Str)) (K : PySem.W.Frag) : Sp := fun vs H Q _ => ∃ (a : Addr) (i : Nat) (ns : List Int) (G : Hp), vs = [.ref a, .int (i : Nat)] ∧ SqL K H a (ns.map V.int) ∧ i ≤ 10 ∧ Fz G H ∧ LamX.Tabs Tb H ∧ ∀ p H', Hq Tb p 0 [] G H' → Gr Tb H H' → Q (.ref p) H'
section
variable {P : Program} {w : World} {K : PySem.W.Frag} {mg : Str → Option Value} {base : Heap} {Tb : List (Addr × Str)}
theorem ok_law_pool {f : Addr} {fd : FuncData} (F : FnP K "_law_pool" s_law_pool f fd) (T : Tx K mg) : FnOk P w K mg base CX0 1 f fd ["script", "at"] (sp_law_pool Tb K) := by
  refine F.ok sc_law_pool (fun vs H Q E h => ?_) (fun cdv A outer s H vs Q E hr h => ?_)
  · obtain ⟨_, _, _, _, rfl, _⟩ := h
    rfl
  · obtain ⟨a, i, ns, G, rfl, ha, hi, hf, ht, k⟩ := h
    refine ⟨_, PSs.nox (pss_cons (ps_set (i := 2) sc_law_pool.nd rfl (Or.inl rfl) pe_int)
      (pss_cons (ps_if (pt_cmpR op_lt (pv 1) (pe_callB (lenS (K := K) rfl) (by rfl) T.n_len (by decide +kernel) (pa_cons (pv 0) pa_nil)) (nomark _)) (pss_one (ps_set (i := 2) sc_law_pool.nd rfl (Or.inl rfl) (pe_ix (ixL (K := K) rfl) (pv 0) (pv 1) (fun _ _ => rfl)))) pss_nil)
      (pss_one (ps_ret (pe_lst (pa_cons (pe_callB (call_max2 rfl) (by rfl) T.n_max (by decide +kernel) (pa_cons pe_int (pa_cons (pe_op op_sub (pe_callB call_abs (by rfl) T.n_abs (by decide +kernel) (pa_cons (pv 2) pa_nil)) (pe_op op_pow pe_int pe_int)) pa_nil))) (pa_cons (pe_op op_add (pe_op op_mod (pv 2) pe_int) (pe_op op_mul pe_int (pe_op op_add (pv 1) pe_int))) (pa_cons pe_int pa_nil)))))))), ?_⟩
    have e18 : (10 : Int) ^ (Int.toNat 18) = 1000000000000000000 := by decide
    have fin : ∀ cell : Int, (tRet (tLst (tCons (tCB (fun xs H Q => ∃ i j, xs = [V.int i, V.int j] ∧ Q (V.int (if j > i then j else i)) H)
              (tCons (tC (V.int 0))
                (tCons
                  (tOp (rI0 fun i j => V.int (i - j))
                    (tCB (fun xs H Q => ∃ i, xs = [V.int i] ∧ Q (V.int (if i < 0 then -i else i)) H)
                      (tCons (tVar 2) tNil))
                    (tOp (rI CPow fun i j => V.int (i ^ j.toNat)) (tC (V.int 10)) (tC (V.int 18))))
                  tNil)))
            (tCons
              (tOp (rI0 fun i j => V.int (i + j))
                (tOp (rI (fun x j => 0 < j) fun i j => V.int (i % j)) (tVar 2) (tC (V.int 2305843009213693951)))
                (tOp (rI CMul fun i j => V.int (i * j)) (tC (V.int 2750159))
                  (tOp (rI0 fun i j => V.int (i + j)) (tVar 1) (tC (V.int 1)))))
              (tCons (tC (V.int 0)) tNil))))) { nx := fun x H' => Q V.non H', rt := Q } [some (V.ref a), some (V.int i), some (V.int cell)] H := by
      intro cell
      have m0 := Int.emod_nonneg cell (show (2305843009213693951 : Int) ≠ 0 by decide)
      have m1 := Int.emod_lt_of_pos cell (show (0 : Int) < 2305843009213693951 by decide)
      refine ⟨_, rfl, _, rfl, _, _, rfl, rfl, ⟨by decide, by decide, by decide⟩, _, _, rfl, rfl, _, _, rfl, _, rfl, _, _, rfl, rfl, (by show (0 : Int) < _; decide), _, rfl, _, _, rfl, rfl, _, _, rfl, rfl, .inl ⟨by decide, by decide⟩, _, _, rfl, rfl, by show 3 ≤ sizeLine; decide, fun p hp => ?_⟩
      rw [e18]
      refine k p _ ⟨⟨_, _, _, upd_same, ?_, by omega, by omega, by decide, by decide⟩, hf.put (hf.free hp), hf.free hp, (fun x hx => by simp at hx), List.nodup_nil, ht.ext (Same.upd hp)⟩ (Gr.new hp)
      split <;> omega
    refine ⟨_, rfl, _, rfl, a, _, rfl, .inl ha, _, _, rfl, rfl, _, rfl, ?_⟩
    refine ite2 (fun c1 => ?_) (fun c1 => ?_)
    · have c2 : i < ns.length := by
        have := of_decide_eq_true c1
        rw [List.length_map] at this
        omega
      exact ⟨_, rfl, _, rfl, a, _, _, _, rfl, rfl, ha, atI_nat (j := i) (by rw [List.getElem?_map, List.getElem?_eq_getElem c2]; rfl), fin _⟩
    · exact fin _
end
end Sk
namespace Sk
open PySem PySem.Spec PyProof.Rows L2
abbrev s_law_draw : Stmt := topS 25
abbrev N_law_draw : List Str := ["pool", "many", "mixed", "drawn"]
theorem sc_law_draw : FnScope N_law_draw ["pool", "many"] (defScope s_law_draw) := ⟨rfl, rfl, rfl, by decide +kernel, rfl, by decide +kernel, by decide +kernel⟩
def sp_law_draw (Tb : List (Addr × Str)) (K : PySem.W.Frag) : Sp := fun vs H Q _ => ∃ (p : Addr) (n : Nat) (L : List (Addr × HO)) (G : Hp) (many : Int), vs = [.ref p, .int many] ∧ Hq Tb p n L G H ∧ n < 1000000000 ∧ 1 ≤ many ∧ many < 2 ^ 400 ∧ ∀ r H', 0 ≤ r → r < many → Hq Tb p (n + 1) L G H' → Q (.int r) H'
section
variable {P : Program} {w : World} {K : PySem.W.Frag} {mg : Str → Option Value} {base : Heap} {Tb : List (Addr × Str)}
theorem ok_law_draw {f : Addr} {fd : FuncData} (F : FnP K "_law_draw" s_law_draw f fd) (T : Tx K mg) : FnOk P w K mg base CX0 1 f fd ["pool", "many"] (sp_law_draw Tb K) := by
  refine F.ok sc_law_draw (fun vs H Q E h => ?_) (fun cdv A outer s H vs Q E hr h => ?_)
  · obtain ⟨_, _, _, _, _, rfl, _⟩ := h
    rfl
  · obtain ⟨p, n, L, G, many, rfl, hs, hn, hm1, hm2, k⟩ := h
    refine ⟨_, PSs.nox (pss_cons (ps_if (pt_cmpR op_gt (pe_ix (ixL (K := K) rfl) (pv 0) pe_int (fun _ _ => rfl)) pe_int (nomark _)) (pss_cons (ps_set (i := 3) sc_law_draw.nd rfl (Or.inl rfl) (pe_op op_mod (pe_ix (ixL (K := K) rfl) (pv 0) pe_int (fun _ _ => rfl)) (pv 1)))
        (pss_cons (ps_asg (pe_op op_fdivW (pe_ix (ixL (K := K) rfl) (pv 0) pe_int (fun _ _ => rfl)) (pv 1)) (pg_sub (pv 0) pe_int set_list))
        (pss_one (ps_ret (pv 3))))) pss_nil)
      (pss_cons (ps_asg (pe_op op_add (pe_ix (ixL (K := K) rfl) (pv 0) pe_int (fun _ _ => rfl)) pe_int) (pg_sub (pv 0) pe_int set_list))
      (pss_cons (ps_set (i := 2) sc_law_draw.nd rfl (Or.inl rfl) (pe_op op_mod (pe_op op_powW (pe_op op_add (pe_ix (ixL (K := K) rfl) (pv 0) pe_int (fun _ _ => rfl)) (pe_op op_mul pe_int (pe_ix (ixL (K := K) rfl) (pv 0) pe_int (fun _ _ => rfl)))) pe_int) pe_int))
      (pss_cons (ps_set (i := 2) sc_law_draw.nd rfl (Or.inl rfl) (pe_op op_mod (pe_op op_powW (pe_op op_add (pv 2) (pe_op op_mul pe_int (pe_ix (ixL (K := K) rfl) (pv 0) pe_int (fun _ _ => rfl)))) pe_int) pe_int))
      (pss_one (ps_ret (pe_op op_mod (pe_op op_fdivW (pv 2) pe_int) (pv 1)))))))), ?_⟩
    obtain ⟨⟨d, m, c, h1, h2, h3, h4, h5, h6⟩, _⟩ := id hs
    refine ⟨_, rfl, p, _, _, _, rfl, rfl, SqL.of h1, atI_nat (j := 0) rfl, _, _, rfl, rfl, _, rfl, ?_⟩
    refine ite2 (fun c1 => ?_) (fun c1 => ?_)
    · refine ⟨_, rfl, p, _, _, _, rfl, rfl, SqL.of h1, atI_nat (j := 0) rfl, _, rfl, _, _, rfl, rfl, by omega, ?_⟩
      refine ⟨_, rfl, p, _, _, _, rfl, rfl, SqL.of h1, atI_nat (j := 0) rfl, _, rfl, _, _, rfl, rfl, wide_div (b := 400) (by omega) (by omega) (by decide) (by decide), _, rfl, p, [.int d, .int m, .int c], 0, 0, rfl, rfl, h1, rfl, _, rfl, ?_⟩
      exact k _ _ (Int.emod_nonneg _ (by omega)) (Int.emod_lt_of_pos _ (by omega)) (hs.pool (Int.ediv_nonneg h2 (by omega)) h3 h4 h5 (by omega))
    · refine ⟨_, rfl, p, _, _, _, rfl, rfl, SqL.of h1, atI_nat (j := 2) rfl, _, _, rfl, rfl, _, rfl, p, [.int d, .int m, .int c], 2, 2, rfl, rfl, h1, rfl, ?_⟩
      have hc2 : c + 1 < 2 ^ 40 := by omega
      have hx1 : (m + 49979687 * (c + 1)).natAbs < 2 ^ 70 := by omega
      refine ⟨_, rfl, p, _, _, _, rfl, rfl, SqL.of upd_same, atI_nat (j := 1) rfl, _, rfl, p, _, _, _, rfl, rfl, SqL.of upd_same, atI_nat (j := 2) rfl, _, _, rfl, rfl, .inl ⟨by decide, by decide⟩, _, _, rfl, rfl, _, _, rfl, rfl, wide_pow hx1 (by decide) (by decide) (by decide), _, _, rfl, rfl, (by show (0 : Int) < _; decide), ?_⟩
      have y0 := Int.emod_nonneg ((m + 49979687 * (c + 1)) ^ Int.toNat 3) (show (162259276829213363391578010288127 : Int) ≠ 0 by decide)
      have y1 := Int.emod_lt_of_pos ((m + 49979687 * (c + 1)) ^ Int.toNat 3) (show (0 : Int) < 162259276829213363391578010288127 by decide)
      generalize hy : (m + 49979687 * (c + 1)) ^ Int.toNat 3 % 162259276829213363391578010288127 = y at y0 y1
      have hx2 : (y + 67867967 * (c + 1)).natAbs < 2 ^ 110 := by omega
      refine goN ?_
      dsimp only
      rw [hy]
      refine ⟨_, rfl, _, rfl, p, _, _, _, rfl, rfl, SqL.of upd_same, atI_nat (j := 2) rfl, _, _, rfl, rfl, .inl ⟨by decide, by decide⟩, _, _, rfl, rfl, _, _, rfl, rfl, wide_pow hx2 (by decide) (by decide) (by decide), _, _, rfl, rfl, (by show (0 : Int) < _; decide), ?_⟩
      refine ⟨_, rfl, _, _, rfl, rfl, wide_div (b := 400) (by decide) (by decide) (by decide) (by decide), _, rfl, _, _, rfl, rfl, by omega, ?_⟩
      exact k _ _ (Int.emod_nonneg _ (by omega)) (Int.emod_lt_of_pos _ (by omega)) (hs.pool h2 h3 h4 (by omega) (by omega))
end
end Sk
namespace Sk
open PySem PySem.Spec PyProof.Rows L2
abbrev s_law_mixed : Stmt := topS 26
abbrev N_law_mixed : List Str := ["pool", "things", "left", "index"]
theorem sc_law_mixed : FnScope N_law_mixed ["pool", "things"] (defScope s_law_mixed) := ⟨rfl, rfl, rfl, by decide +kernel, rfl, by decide +kernel, by decide +kernel⟩
def sp_law_mixed (Tb : List (Addr × Str)) (K : PySem.W.Frag) : Sp := fun vs H Q _ => ∃ (p a : Addr) (n : Nat) (L : List (Addr × HO)) (G : Hp) (xs : List V), vs = [.ref p, .ref a] ∧ Hq Tb p n L G H ∧ SqL K H a xs ∧ xs.length ≤ 100000 ∧ n + xs.length < 1000000000 ∧
  ∀ r H' ys, ys.Perm xs → Hq Tb p (n + xs.length) ((r, .lst ys) :: L) G H' → Q (.ref r) H'
section
variable {P : Program} {w : World} {K : PySem.W.Frag} {mg : Str → Option Value} {base : Heap} {Tb : List (Addr × Str)}
theorem ok_law_mixed {f : Addr} {fd : FuncData} (F : FnP K "_law_mixed" s_law_mixed f fd) (T : Tx K mg) (G_law_draw : Fn P w K mg base "_law_draw" 1 ["pool", "many"] (sp_law_draw Tb K)) : FnOk P w K mg base CX0 2 f fd ["pool", "things"] (sp_law_mixed Tb K) := by
  refine F.ok sc_law_mixed (fun vs H Q E h => ?_) (fun cdv A outer s H vs Q E hr h => ?_)
  · obtain ⟨_, _, _, _, _, _, rfl, _⟩ := h
    rfl
  · obtain ⟨p, a, n, L, G, xs, rfl, hs, ha, hz, hn, k⟩ := h
    refine ⟨_, PSs.nox (pss_cons (ps_set (i := 2) sc_law_mixed.nd rfl (Or.inr rfl) (pe_callTy (listOf (K := K) rfl) (by rfl) T.n_list (by decide +kernel) (pa_cons (pv 1) pa_nil)))
      (pss_one (ps_ret (pe_lc (own := [("index", 3)]) (g := (gName 3)) (tt := tYes) rfl sc_law_mixed.nd (pi_range1 (by rfl) T.n_range (pa_cons (pe_callB (lenS (K := K) rfl) (by rfl) T.n_len (by decide +kernel) (pa_cons (pv 1) pa_nil)) pa_nil)) (blkOk_by (N := N_law_mixed) (sc := (defScope s_law_mixed)) (by decide +kernel)) (fun _ _ _ _ _ => (pg_name (i := 3) sc_law_mixed.nd rfl (Or.inl rfl))) (fun _ _ _ _ _ => pts_nil) (fun _ _ _ _ _ => (peBm (K := K) rfl PySem.F.plainAttrs_list PySem.F.slot_list_pop PySem.F.type_list_pop mt_popAt (pv 2) (pa_cons (pe_fn G_law_draw (hr.mono (by decide)) (pa_cons (pv 0) (pa_cons (pe_callB (lenS (K := K) rfl) (by rfl) T.n_len (by decide +kernel) (pa_cons (pv 2) pa_nil)) pa_nil))) pa_nil))))))), ?_⟩
    refine ⟨_, rfl, a, xs, rfl, .inl ha, fun l hl => ?_⟩
    have hs1 := hs.new hl (.lst (xs := xs))
    refine ⟨_, rfl, a, xs, rfl, .inl ((Same.upd hl).seq ha), (xs.length : Int), rfl, by omega, by omega, fun D hD => lc_range (lo := 0) (n := xs.length) (fun i H' => ∃ acc rest : List V, (acc ++ rest).Perm xs ∧ acc.length = i ∧ Hq Tb p (n + i) ((D, .lst acc) :: (l, .lst rest) :: L) G H') ⟨[], xs, .refl _, rfl, hs1.new hD .lst⟩ ?_ ?_⟩
    · rintro i H' hi ⟨acc, rest, hp, hl', h2⟩
      have hlen := hp.length_eq
      rw [List.length_append] at hlen
      refine ⟨rfl, _, rfl, .inl ⟨rfl, _, SqL.of (h2.get (i := 1) rfl)⟩, _, rfl, _, rfl, l, rest, rfl, .inl (SqL.of (h2.get (i := 1) rfl)), p, n + i, _, G, (rest.length : Int), rfl, h2, by omega, by omega, by show (rest.length : Int) < 2 ^ 400; omega, fun r H4 r0 r1 h4 => ?_⟩
      obtain ⟨y, hy⟩ : ∃ y, rest[r.toNat]? = some y := ⟨_, List.getElem?_eq_getElem (by omega)⟩
      have h5 := h4.put (i := 1) (o' := .lst (rest.eraseIdx r.toNat)) rfl .lst
      have h6 := h5.put (i := 0) (o' := .lst (acc ++ [y])) rfl .lst
      refine ⟨l, rest, r, r.toNat, y, rfl, rfl, h4.get (i := 1) rfl, by omega, by omega, ?_, hy, acc, h5.get (i := 0) rfl, ?_, acc ++ [y], rest.eraseIdx r.toNat, ?_, ?_, h6⟩
      · exact seq_ix r0 r1
      · rw [sizeLine_eq]
        omega
      · refine List.Perm.trans ?_ hp
        rw [List.append_assoc]
        refine List.Perm.append_left acc ?_
        exact erase_perm rest r.toNat y hy
      · rw [List.length_append, List.length_singleton, hl']
    · rintro H' ⟨acc, rest, hp, hl', h2⟩
      have hlen := hp.length_eq
      rw [List.length_append] at hlen
      have hr : rest = [] := List.length_eq_zero_iff.mp (by omega)
      rw [hr, List.append_nil] at hp
      exact k D H' acc hp (h2.sub (.cons₂ _ (.cons _ (.refl _))))
end
end Sk
namespace Sk
open PySem PySem.Spec PyProof.Rows L2
abbrev s_law_words : Stmt := topS 27
abbrev N_law_words : List Str := ["pool", "many", "some", "letter"]
theorem sc_law_words : FnScope N_law_words ["pool", "many"] (defScope s_law_words) := ⟨rfl, rfl, rfl, by decide +kernel, rfl, by decide +kernel, by decide +kernel⟩
def sp_law_words (Tb : List (Addr × Str)) (K : PySem.W.Frag) : Sp := fun vs H Q _ => ∃ (p : Addr) (n : Nat) (L : List (Addr × HO)) (G : Hp) (many : Int), vs = [.ref p, .int many] ∧ Hq Tb p n L G H ∧ n + 40 < 1000000000 ∧ 1 ≤ many ∧ many ≤ 20 ∧
  ∀ r H' (ns : List Str), ns.Nodup → ns.length = many.toNat → (∀ x ∈ ns, nameB x = true) → Hq Tb p (n + 40) ((r, .lst (ns.map V.str)) :: L) G H' → Q (.ref r) H'
def wordsA : List Str := ["a", "aa", "ab", "b", "ba", "z", "zz", "zzzzzzzz", "split", "undo", "m", "mm"]
def wordsB : List Str := ("abcdefgh" : Str).cps.toList.map fun c => ("abcdefg" : Str) ++ (⟨#[c]⟩ : Str)
theorem words_nodup : (wordsA ++ wordsB).Nodup := by decide +kernel
theorem words_good : ∀ x ∈ wordsA ++ wordsB, nameB x = true := by decide +kernel
section
variable {P : Program} {w : World} {K : PySem.W.Frag} {mg : Str → Option Value} {base : Heap} {Tb : List (Addr × Str)}
theorem ok_law_words {f : Addr} {fd : FuncData} (F : FnP K "_law_words" s_law_words f fd) (T : Tx K mg) (G_law_mixed : Fn P w K mg base "_law_mixed" 2 ["pool", "things"] (sp_law_mixed Tb K)) : FnOk P w K mg base CX0 3 f fd ["pool", "many"] (sp_law_words Tb K) := by
  refine F.ok sc_law_words (fun vs H Q E h => ?_) (fun cdv A outer s H vs Q E hr h => ?_)
  · obtain ⟨_, _, _, _, _, rfl, _⟩ := h
    rfl
  · obtain ⟨p, n, L, G, many, rfl, hs, hn, hm1, hm2, k⟩ := h
    refine ⟨_, PSs.nox (pss_cons (ps_set (i := 2) sc_law_words.nd rfl (Or.inl rfl) (pe_lst (pa_cons pe_str (pa_cons pe_str (pa_cons pe_str (pa_cons pe_str (pa_cons pe_str (pa_cons pe_str (pa_cons pe_str (pa_cons pe_str (pa_cons pe_str (pa_cons pe_str (pa_cons pe_str (pa_cons pe_str pa_nil))))))))))))))
      (pss_cons (ps_set (i := 2) sc_law_words.nd rfl (Or.inl rfl) (pe_op op_cat (pv 2) (pe_lc (own := [("letter", 3)]) (g := (gName 3)) (tt := tYes) rfl sc_law_words.nd (pi_str pe_str) (blkOk_by (N := N_law_words) (sc := (defScope s_law_words)) (by decide +kernel)) (fun _ _ _ _ _ => (pg_name (i := 3) sc_law_words.nd rfl (Or.inl rfl))) (fun _ _ _ _ _ => pts_nil) (fun _ _ _ _ _ => (pe_op op_add_str pe_str (pv 3))))))
      (pss_one (ps_ret (pe_slice (slL (K := K) rfl) (pe_fn G_law_mixed (hr.mono (by decide)) (pa_cons (pv 0) (pa_cons (pv 2) pa_nil))) po_none (po_some (pv 1))))))), ?_⟩
    refine ⟨by show 12 ≤ sizeLine; decide, fun a ha => ?_⟩
    have h1 := hs.new ha (.lst (xs := wordsA.map V.str))
    refine ⟨_, rfl, _, rfl, fun D hD => lc_fm (Tb := Tb) (xs := signs "abcdefgh") walk_text rfl (fun v => match v with | .str y => some (.str ("abcdefg" ++ y)) | _ => none) hD (by decide) (fun _ _ => trivial) (fun j v H' hv g Rk Rs hk hks => ?_) fun H1 g1 hD1 => ?_⟩
    · unfold signs at hv
      rw [List.getElem?_map] at hv
      cases hc : ("abcdefgh" : Str).cps.toList[j]? with
      | none => rw [hc] at hv; cases hv
      | some c =>
        rw [hc] at hv
        cases hv
        exact ⟨rfl, _, rfl, _, _, rfl, rfl, by show 7 + 1 ≤ sizeLine; decide, hk _ _ rfl (Gr.refl _)⟩
    · have e1 : (signs "abcdefgh").filterMap (fun v => match v with | .str y => some (V.str ("abcdefg" ++ y)) | _ => none) = wordsB.map V.str := by rfl
      rw [e1] at hD1
      have h2 := h1.gr g1
      refine ⟨a, D, wordsA.map V.str, wordsB.map V.str, rfl, rfl, h2.get (i := 0) rfl, hD1, by show 12 + 8 ≤ sizeLine; decide, fun b hb => ?_⟩
      have h3 := h2.drop1.new hb (.lst (xs := (wordsA ++ wordsB).map V.str))
      have hl : ((wordsA ++ wordsB).map V.str).length = 20 := by rw [List.length_map]; rfl
      refine ⟨_, rfl, _, rfl, p, b, n, _, G, (wordsA ++ wordsB).map V.str, rfl, h3, SqL.of (h3.get (i := 0) rfl), by rw [hl]; decide, by rw [hl]; omega, fun r H2 ys hp h4 => ?_⟩
      obtain ⟨ns, rfl, hpn⟩ := perm_map V.str hp
      refine ⟨_, rfl, _, rfl, r, _, rfl, SqL.of (h4.get (i := 0) rfl), fun a2 ha2 => ?_⟩
      have ecut : cutV (ns.map V.str) none (some many) = (ns.take many.toNat).map V.str := by
        rw [cut_take (by omega), List.map_take]
      rw [ecut]
      have hnl : ns.length = 20 := by rw [hpn.length_eq]; rfl
      refine k a2 _ (ns.take many.toNat) ((hpn.nodup_iff.mpr words_nodup).sublist (List.take_sublist _ _)) (by rw [List.length_take, hnl]; omega) (fun x hx => words_good x (hpn.mem_iff.mp (List.mem_of_mem_take hx))) ?_
      exact (h4.drop1.drop1.mono (by rw [hl]; omega)).new ha2 .lst
end
end Sk
namespace Sk
open PySem PySem.Spec PyProof.Rows L2
abbrev s_law_rows : Stmt := topS 28
abbrev N_law_rows : List Str := ["pool", "most", "words", "grams", "rows", "word", "lighter", "many", "name", "weight", "parts", "turn"]
theorem sc_law_rows : FnScope N_law_rows ["pool", "most"] (defScope s_law_rows) := ⟨rfl, rfl, rfl, by decide +kernel, rfl, by decide +kernel, by decide +kernel⟩
/-- entries as the law makes them -/
structure MadeC (es : List Ent) : Prop where
  v : Valid es
  few : es.length ≤ 20
  fewp : ∀ e ∈ es, e.parts.length ≤ 6
  wt : ∀ e ∈ es, e.w < 10 ^ 13
def sp_law_rows (Tb : List (Addr × Str)) (K : PySem.W.Frag) : Sp := fun vs H Q _ => ∃ (p : Addr) (n : Nat) (L : List (Addr × HO)) (G : Hp) (most : Int), vs = [.ref p, .int most] ∧ Hq Tb p n L G H ∧ n + 1000 < 1000000000 ∧ 1 ≤ most ∧ most ≤ 20 ∧
  ∀ r H' G' ys es, Same G G' → CatAt G' ys es → MadeC es → es.length ≤ most → Hq Tb p (n + 1000) ((r, .lst ys) :: L) G' H' → Q (.ref r) H'
/-- what is made so far -/
structure MadeAtC (ns : List Str) (i : Nat) (w : Int) (es : List Ent) : Prop where
  names : es.map (·.name) = ns.take i
  pos : ∀ e ∈ es, 1 ≤ e.w ∧ e.w ≤ w
  lighter : ∀ e ∈ es, ∀ q ∈ e.parts, ∃ e' ∈ es, e'.name = q ∧ e'.w < e.w
  fewp : ∀ e ∈ es, e.parts.length ≤ 6
  w1 : 1 ≤ w
  w2 : w ≤ 1 + 10000000000 * (i : Int)
theorem MadeAtC.step {ns : List Str} {i : Nat} {w w' : Int} {es : List Ent} {x : Str} {ps : List Str} (m : MadeAtC ns i w es) (hx : ns[i]? = some x) (h1 : w ≤ w') (h2 : w' ≤ w + 10000000000)
    (hp : ∀ q ∈ ps, ∃ e' ∈ es, e'.name = q ∧ e'.w < w') (hl : ps.length ≤ 6) : MadeAtC ns (i + 1) w' (es ++ [⟨x, w', ps⟩]) := by
  refine ⟨?_, fun e he => ?_, fun e he q hq => ?_, fun e he => ?_, Int.le_trans m.w1 h1, ?_⟩
  · rw [List.map_append, m.names, take_snoc hx]
    rfl
  · rcases List.mem_append.mp he with z | z
    · have := m.pos e z
      omega
    · rw [List.mem_singleton.mp z]
      have := m.w1
      exact ⟨by show 1 ≤ w'; omega, Int.le_refl _⟩
  · rcases List.mem_append.mp he with z | z
    · obtain ⟨e', a, b⟩ := m.lighter e z q hq
      exact ⟨e', List.mem_append_left _ a, b⟩
    · rw [List.mem_singleton.mp z] at hq ⊢
      obtain ⟨e', a, b⟩ := hp q hq
      exact ⟨e', List.mem_append_left _ a, b⟩
  · rcases List.mem_append.mp he with z | z
    · exact m.fewp e z
    · rw [List.mem_singleton.mp z]
      exact hl
  · have := m.w2
    omega
theorem MadeAtC.made {ns : List Str} {w : Int} {es : List Ent} (m : MadeAtC ns ns.length w es) (hn : ns.Nodup) (h0 : ns ≠ []) (h1 : ns.length ≤ 20) (hg : ∀ x ∈ ns, nameB x = true) : MadeC es ∧ es.length = ns.length := by
  have hnm := m.names
  rw [List.take_length] at hnm
  have hle : es.length = ns.length := by rw [← hnm, List.length_map]
  have hin : ∀ e ∈ es, e.name ∈ ns := fun e he => by
    rw [← hnm]
    exact List.mem_map.mpr ⟨e, he, rfl⟩
  refine ⟨⟨⟨fun z => h0 ?_, fun e he => hg _ (hin e he), by rw [hnm]; exact hn, fun e he => (m.pos e he).1, m.lighter, by omega, fun e he => Nat.le_trans (m.fewp e he) (by decide)⟩, by omega, m.fewp, fun e he => ?_⟩, hle⟩
  · rw [z] at hnm
    exact hnm.symm
  · have := (m.pos e he).2
    have := m.w2
    omega
theorem MadeC.perm {es es' : List Ent} (p : es'.Perm es) (v : MadeC es) : MadeC es' :=
  ⟨v.v.perm p, by rw [p.length_eq]; exact v.few, fun e he => v.fewp e (p.mem_iff.mp he), fun e he => v.wt e (p.mem_iff.mp he)⟩
/-- the comprehension of the lighter ones -/
def lightO (H : Hp) (w : Int) (v : V) : Option V := match itemAt H 1 v with
  | some (.int u) => if u < w then itemAt H 0 v else none
  | _ => none
theorem lightO_at {H : Hp} {w : Int} {v : V} {e : Ent} (h : EntAt H v e) : lightO H w v = if e.w < w then some (V.str e.name) else none := by
  obtain ⟨t, l, rfl, ht, _⟩ := h
  unfold lightO
  rw [itemAt_tup ht, itemAt_tup ht]
  rfl
section
variable {P : Program} {w : World} {K : PySem.W.Frag} {mg : Str → Option Value} {base : Heap} {Tb : List (Addr × Str)}
theorem ok_law_rows {f : Addr} {fd : FuncData} (F : FnP K "_law_rows" s_law_rows f fd) (T : Tx K mg) (G_law_draw : Fn P w K mg base "_law_draw" 1 ["pool", "many"] (sp_law_draw Tb K)) (G_law_mixed : Fn P w K mg base "_law_mixed" 2 ["pool", "things"] (sp_law_mixed Tb K)) (G_law_words : Fn P w K mg base "_law_words" 3 ["pool", "many"] (sp_law_words Tb K)) : FnOk P w K mg base CX0 4 f fd ["pool", "most"] (sp_law_rows Tb K) := by
  refine F.ok sc_law_rows (fun vs H Q E h => ?_) (fun cdv A outer s H vs Q E hr h => ?_)
  · obtain ⟨_, _, _, _, _, rfl, _⟩ := h
    rfl
  · obtain ⟨p, n, L, G, most, rfl, hs, hn, hm1, hm2, k⟩ := h
    refine ⟨_, PSs.nox (pss_cons (ps_set (i := 2) sc_law_rows.nd rfl (Or.inl rfl) (pe_fn G_law_words (hr.mono (by decide)) (pa_cons (pv 0) (pa_cons (pe_op op_add pe_int (pe_fn G_law_draw (hr.mono (by decide)) (pa_cons (pv 0) (pa_cons (pv 1) pa_nil)))) pa_nil))))
      (pss_cons (ps_set (i := 3) sc_law_rows.nd rfl (Or.inr rfl) pe_int)
      (pss_cons (ps_set (i := 4) sc_law_rows.nd rfl (Or.inl rfl) (pe_lst pa_nil))
      (pss_cons (ps_for PassesOwn.never rfl (piL (K := K) rfl (pv 2)) (pg_name (i := 5) sc_law_rows.nd rfl (Or.inl rfl)) (pss_cons (ps_set (i := 3) sc_law_rows.nd rfl (Or.inr rfl) (pe_op op_add (pv 3) (pe_ix (ixL (K := K) rfl) (pe_lst (pa_cons pe_int (pa_cons pe_int (pa_cons (pe_fn G_law_draw (hr.mono (by decide)) (pa_cons (pv 0) (pa_cons pe_int pa_nil))) (pa_cons (pe_fn G_law_draw (hr.mono (by decide)) (pa_cons (pv 0) (pa_cons (pe_op op_pow pe_int pe_int) pa_nil))) pa_nil))))) (pe_fn G_law_draw (hr.mono (by decide)) (pa_cons (pv 0) (pa_cons pe_int pa_nil))) (fun _ _ => rfl))))
        (pss_cons (ps_set (i := 6) sc_law_rows.nd rfl (Or.inr rfl) (pe_lc (own := [("name", 8), ("weight", 9), ("parts", 10)]) (g := (gTup K 3 (gCons (gName 8) (gCons (gName 9) (gCons (gName 10) gNil))))) (tt := _) rfl sc_law_rows.nd (piL (K := K) rfl (pv 4)) (blkOk_by (N := N_law_rows) (sc := (defScope s_law_rows)) (by decide +kernel)) (fun _ _ _ _ _ => (pg_tup rfl (pgs_cons (pg_name (i := 8) sc_law_rows.nd rfl (Or.inl rfl)) (pgs_cons (pg_name (i := 9) sc_law_rows.nd rfl (Or.inl rfl)) (pgs_cons (pg_name (i := 10) sc_law_rows.nd rfl (Or.inl rfl)) pgs_nil))))) (fun _ _ _ _ _ => (pts_one (pt_cmpR op_lt (pv 9) (pv 3) (nomark _)))) (fun _ _ _ _ _ => (pv 8))))
        (pss_cons (ps_set (i := 7) sc_law_rows.nd rfl (Or.inl rfl) (pe_op op_mul (pe_fn G_law_draw (hr.mono (by decide)) (pa_cons (pv 0) (pa_cons (pe_ix (ixL (K := K) rfl) (pe_lst (pa_cons pe_int (pa_cons pe_int pa_nil))) (pe_fn G_law_draw (hr.mono (by decide)) (pa_cons (pv 0) (pa_cons pe_int pa_nil))) (fun _ _ => rfl)) pa_nil))) (pe_callTy call_int1 (by rfl) T.n_int (by decide +kernel) (pa_cons (pe_cmpR (opNeNil (K := K) rfl hr.units) (pv 6) (pe_lst pa_nil) (nomark _)) pa_nil))))
        (pss_one (ps_expr (peBm (K := K) rfl PySem.F.plainAttrs_list PySem.F.slot_list_append PySem.F.type_list_append mt_append (pv 4) (pa_cons (pe_tup (pa_cons (pv 5) (pa_cons (pv 3) (pa_cons (pe_lc (own := [("turn", 11)]) (g := (gName 11)) (tt := tYes) rfl sc_law_rows.nd (pi_range1 (by rfl) T.n_range (pa_cons (pv 7) pa_nil)) (blkOk_by (N := N_law_rows) (sc := (defScope s_law_rows)) (by decide +kernel)) (fun _ _ _ _ _ => (pg_name (i := 11) sc_law_rows.nd rfl (Or.inl rfl))) (fun _ _ _ _ _ => pts_nil) (fun _ _ _ _ _ => (pe_ix (ixL (K := K) rfl) (pv 6) (pe_fn G_law_draw (hr.mono (by decide)) (pa_cons (pv 0) (pa_cons (pe_callB (lenS (K := K) rfl) (by rfl) T.n_len (by decide +kernel) (pa_cons (pv 6) pa_nil)) pa_nil))) (fun _ _ => rfl)))) pa_nil)))) pa_nil))))))))
      (pss_one (ps_ret (pe_fn G_law_mixed (hr.mono (by decide)) (pa_cons (pv 0) (pa_cons (pv 4) pa_nil))))))))), ?_⟩
    have e10 : (10 : Int) ^ Int.toNat 10 = 10000000000 := by decide
    refine ⟨_, rfl, _, rfl, _, rfl, p, n, L, G, most, rfl, hs, by omega, hm1, Int.lt_of_le_of_lt hm2 (by decide +kernel), fun d H1 d0 d1 h1 => ⟨_, _, rfl, rfl, p, n + 1, L, G, 1 + d, rfl, h1, by omega, by omega, by omega, fun a2 H2 sn snd snl sng h2 => ?_⟩⟩
    have sn0 : sn ≠ [] := fun z => by rw [z] at snl; simp at snl; omega
    have snl2 : (sn.map V.str).length = sn.length := List.length_map ..
    have snl3 : (sn.length : Int) ≤ most := by omega
    have gg : Same G (upd G a2 (.lst (sn.map V.str))) := Same.upd h2.cfree
    have hs4 := h2.freeze
    have g0a : (upd G a2 (.lst (sn.map V.str))) a2 = some (.lst (sn.map V.str)) := upd_same
    generalize upd G a2 (.lst (sn.map V.str)) = G0 at hs4 gg g0a
    refine ⟨Nat.zero_le _, fun f hf => ?_⟩
    have hs5 := hs4.new hf (.lst (xs := []))
    refine ⟨_, rfl, a2, rfl, ⟨_, SqL.of (hs5.fzat g0a)⟩, for_list (K := K) (a := a2) (xs := sn.map V.str) (fun i σ H' => ∃ (w : Int) (G1 : Hp) (ys : List V) (es : List Ent) (s5 s6 s7 : Option V), σ = [some (.ref p), some (.int most), some (.ref a2), some (.int w), some (.ref f), s5, s6, s7, none, none, none, none] ∧ Same G0 G1 ∧ CatAt G1 ys es ∧ MadeAtC sn i w es ∧ Hq Tb p (n + 41 + 11 * i) ((f, .lst ys) :: L) G1 H')
      ⟨1, G0, [], [], none, none, none, rfl, fun _ _ e => e, .nil, ⟨rfl, by simp, by simp, by simp, by decide, by decide⟩, hs5⟩
      (fun i σ H' _ ⟨w, G1, ys, es, _, _, _, _, gs, _, _, h'⟩ => SqL.of (h'.fzat (gs _ _ g0a))) ?_ ?_⟩
    · rintro i x σ H1 hx ⟨w, G1, ys, es, s5, s6, s7, rfl, gs, hc, hma, h1⟩
      have hi : i < sn.length := by
        have := (List.getElem?_eq_some_iff.mp hx).1
        rwa [List.length_map] at this
      have hi20 : sn.length ≤ 20 := by omega
      rw [List.getElem?_map, List.getElem?_eq_getElem hi] at hx
      cases hx
      have hxn : sn[i]? = some sn[i] := List.getElem?_eq_getElem hi
      generalize sn[i] = nm at hxn
      -- weight
      refine ⟨_, rfl, _, rfl, p, _, _, G1, 6, rfl, h1, by omega, by decide, by decide +kernel, fun da H2 da0 da1 h2 => ?_⟩
      refine ⟨_, rfl, _, _, rfl, rfl, ⟨by decide, by decide, by decide⟩, p, _, _, G1, (10 : Int) ^ Int.toNat 10, rfl, h2, by omega, by decide, by decide +kernel, fun db H3 db0 db1 h3 => ⟨by show 4 ≤ sizeLine; decide, fun l hl => ?_⟩⟩
      rw [e10] at db1
      refine ⟨_, rfl, p, _, _, G1, 4, rfl, h3.new hl .lst, by omega, by decide, by decide +kernel, fun dc H4 dc0 dc1 h4 => ?_⟩
      obtain ⟨wd, ewd, wd0, wd1⟩ := pick_int (P := fun i => 0 ≤ i ∧ i ≤ 10000000000) [0, 1, da, db] rfl dc0 dc1 (by simp; omega)
      refine ⟨l, _, dc, .int wd, rfl, rfl, SqL.of (h4.get (i := 0) rfl), ewd, _, _, rfl, rfl, ?_⟩
      have h6 := h4.drop1
      clear h4 ewd h3 h2 h1
      -- lighter
      have hcl : CatAt H4 ys es := hc.mono h6.fz.sub
      have hyl := Paired.len hc
      have hnl2 : es.length ≤ 40 := by
        have := congrArg List.length hma.names
        rw [List.length_map, List.length_take] at this
        omega
      refine ⟨_, rfl, f, rfl, ⟨_, SqL.of (h6.get (i := 0) rfl)⟩, fun D hD => lc_fm (Tb := Tb) (xs := ys) walk_list rfl (lightO H4 (w + wd)) hD (by omega) (fun H' g => SqL.of (g.at (h6.get (i := 0) rfl) .lst)) (fun j v H' hv g Rk Rs hk hks => ?_) fun H5 g5 hD5 => ?_⟩
      · obtain ⟨e, he, hev⟩ := Paired.at hcl hv
        have hlo := lightO_at (w := w + wd) hev
        obtain ⟨t, lp, rfl, ht, hlp⟩ := hev
        refine gtup3 (g.at ht .tup) ⟨rfl, _, rfl, _, rfl, _, _, rfl, rfl, _, rfl, ?_⟩
        refine ite2 (fun c1 => ?_) (fun c1 => ?_)
        · have c2 := of_decide_eq_true c1
          exact ⟨_, rfl, hk _ _ (by rw [hlo, if_pos c2]) (Gr.refl _)⟩
        · exact hks _ (by rw [hlo, if_neg (fun z => c1 (decide_eq_true z))]) (Gr.refl _)
      have elt : ys.filterMap (lightO H4 (w + wd)) = ((es.filter fun e => decide (e.w < w + wd)).map (·.name)).map V.str := by
        rw [fm_pairedO (g := fun e => if e.w < w + wd then some (V.str e.name) else none) (fun v e h => lightO_at h) hcl]
        clear hcl hc hma hyl hnl2
        induction es with
        | nil => rfl
        | cons e es ih =>
          rw [List.filterMap_cons, List.filter_cons]
          by_cases c : e.w < w + wd
          · rw [if_pos c, if_pos (decide_eq_true c), ih]
            rfl
          · rw [if_neg c, if_neg (by rw [decide_eq_true_eq]; exact c), ih]
      rw [elt] at hD5
      have h7 := h6.grow g5 (.of hD) hD5 .lst
      have hlight : ∀ q ∈ (es.filter fun e => decide (e.w < w + wd)).map (·.name), ∃ e' ∈ es, e'.name = q ∧ e'.w < w + wd := fun q hq => by
        obtain ⟨e, he, rfl⟩ := List.mem_map.mp hq
        obtain ⟨a, b⟩ := List.mem_filter.mp he
        exact ⟨e, a, rfl, of_decide_eq_true b⟩
      have hll : ((es.filter fun e => decide (e.w < w + wd)).map (·.name)).length ≤ 40 := by
        rw [List.length_map]
        exact Nat.le_trans (List.length_filter_le _ _) hnl2
      generalize (es.filter fun e => decide (e.w < w + wd)).map (·.name) = lt at h7 hlight hll
      clear elt hD5 hcl h6
      -- many
      refine goN ?_
      dsimp only
      refine sq_asg (fun x H6 => ∃ sz : Nat, x = .int sz ∧ sz ≤ 6 ∧ (lt = [] → sz = 0) ∧ Hq Tb p (n + 41 + 11 * i + 5) ((D, .lst (lt.map V.str)) :: (f, .lst ys) :: L) G1 H6) (fun Q' kq => ?_) ?_
      · refine ⟨_, rfl, by show 2 ≤ sizeLine; decide, fun l2 hl2 => ?_⟩
        refine ⟨_, rfl, p, _, _, G1, 2, rfl, h7.new hl2 .lst, by omega, by decide, by decide +kernel, fun de H6 de0 de1 h9 => ?_⟩
        obtain ⟨mx, emx, mx0, mx1⟩ := pick_int (P := fun i => 3 ≤ i ∧ i ≤ 7) [3, 7] rfl de0 de1 (by decide)
        refine ⟨l2, _, de, .int mx, rfl, rfl, SqL.of (h9.get (i := 0) rfl), emx, p, _, _, G1, mx, rfl, h9.drop1, by omega, by omega, Int.lt_of_le_of_lt mx1 (by decide +kernel), fun ms H7 ms0 ms1 h10 => ?_⟩
        refine ⟨_, rfl, rd_nil (SqL.of (h10.get (i := 0) rfl)) fun b hb => .inr ⟨_, rfl, _, _, rfl, rfl, .inl ⟨by omega, by omega⟩, ?_⟩⟩
        have h11 := (h10.new hb (.lst (xs := []))).drop1
        obtain ⟨ms, rfl⟩ := Int.eq_ofNat_of_zero_le ms0
        cases lt with
        | nil => exact kq _ _ ⟨0, by show V.int ((ms : Int) * 0) = _; rw [Int.mul_zero]; rfl, by decide, fun _ => rfl, h11.mono (by omega)⟩
        | cons l0 lt' => exact kq _ _ ⟨ms, by show V.int ((ms : Int) * 1) = _; rw [Int.mul_one], by omega, (fun z => by cases z), h11.mono (by omega)⟩
      · rintro x H6 ⟨sz, rfl, sz6, szn, h8⟩
        refine ⟨_, rfl, .inl ⟨rfl, _, SqL.of (h8.get (i := 1) rfl)⟩, _, rfl, _, rfl, _, rfl, (sz : Int), rfl, by omega, by omega, fun D2 hD2 => lc_range (lo := 0) (n := sz) (fun j H' => ∃ acc : List Str, acc.length = j ∧ (∀ q ∈ acc, q ∈ lt) ∧ Hq Tb p (n + 41 + 11 * i + 5 + j) ((D2, .lst (acc.map V.str)) :: (D, .lst (lt.map V.str)) :: (f, .lst ys) :: L) G1 H') ⟨[], rfl, by simp, h8.new hD2 .lst⟩ ?_ ?_⟩
        · rintro j H' hj ⟨acc, hal, hin, h9⟩
          have hlt0 : 0 < lt.length := by
            cases lt with
            | nil => rw [szn rfl] at hj; omega
            | cons _ _ => rw [List.length_cons]; omega
          refine ⟨rfl, _, rfl, _, rfl, _, rfl, D, _, rfl, .inl (SqL.of (h9.get (i := 1) rfl)), p, _, _, G1, (lt.length : Int), ?_, h9, by omega, by omega, ?_, fun r H7 r0 r1 h10 => ?_⟩
          · rw [List.length_map]
            rfl
          · exact Int.lt_of_le_of_lt (show (lt.length : Int) ≤ 40 by omega) (by decide +kernel)
          · obtain ⟨y, hy, ey⟩ := pick_at (xs := lt.map V.str) r0 (by rw [List.length_map]; exact r1)
            obtain ⟨q, hq, rfl⟩ := List.mem_map.mp hy
            refine ⟨D, _, r, .str q, rfl, rfl, SqL.of (h10.get (i := 1) rfl), ey, _, h10.get (i := 0) rfl, ?_, acc ++ [q], ?_, fun q2 hq2 => ?_, ?_⟩
            · rw [List.length_map, sizeLine_eq]
              omega
            · rw [List.length_append, List.length_singleton, hal]
            · rcases List.mem_append.mp hq2 with z | z
              · exact hin q2 z
              · rw [List.mem_singleton.mp z]
                exact hq
            · have h11 := h10.put (i := 0) (o' := .lst ((acc ++ [q]).map V.str)) rfl .lst
              rw [List.map_append] at h11 ⊢
              exact h11
        · rintro H7 ⟨ps, hpl, hpi, h9⟩
          refine ⟨by show 3 ≤ sizeLine; decide, fun t ht => ?_⟩
          have gD : G1 D2 = none := h9.cfree
          have h10 := h9.drop2.freeze
          have gt : upd G1 D2 (.lst (ps.map V.str)) t = none := h10.gfree ht
          have h11 := (h10.new ht (.tup (xs := [.str nm, .int (w + wd), .ref D2]))).freeze
          have Dt : D2 ≠ t := ne_of_none (upd_same (H := G1)) gt
          have s1 : Same G1 (upd (upd G1 D2 (.lst (ps.map V.str))) t (.tup [.str nm, .int (w + wd), .ref D2])) := fun b u e => Same.upd gt b u (Same.upd gD b u e)
          refine ⟨f, ys, _, rfl, rfl, h11.get (i := 0) rfl, by rw [sizeLine_eq]; omega, ?_⟩
          refine ⟨w + wd, _, ys ++ [.ref t], es ++ [⟨nm, w + wd, ps⟩], _, _, _, rfl, fun b u e => s1 b u (gs b u e), Paired.snoc ⟨t, D2, rfl, upd_same, ?_⟩ (hc.mono s1), hma.step hxn (by omega) (by omega) (fun q hq => hlight q (hpi q hq)) (by omega), ?_⟩
          · exact (h11.put (i := 0) rfl .lst).mono (by omega)
          · rw [upd_ne Dt]
            exact upd_same
    · rintro σ H1 ⟨w, G1, ys, es, s5, s6, s7, rfl, gs, hc, hma, h1⟩
      rw [snl2] at hma h1
      have hi20 : sn.length ≤ 20 := by omega
      obtain ⟨hmd, hel⟩ := hma.made snd sn0 hi20 sng
      have hyl := Paired.len hc
      refine ⟨_, rfl, _, rfl, p, f, _, _, G1, ys, rfl, h1, SqL.of (h1.get (i := 0) rfl), by omega, by omega, fun r H' ys' hp h' => ?_⟩
      obtain ⟨es', pe, hc'⟩ := Paired.perm hp hc
      exact k r H' G1 ys' es' (fun b u e => gs b u (gg b u e)) hc' (hmd.perm pe) (by rw [pe.length_eq, hel]; exact snl3) (h'.drop2.mono (by omega))
end
end Sk
namespace Sk
open PySem PySem.Spec PyProof.Rows L2
abbrev s_law_sorted : Stmt := topS 29
abbrev N_law_sorted : List Str := ["rows"]
theorem sc_law_sorted : FnScope N_law_sorted ["rows"] (defScope s_law_sorted) := ⟨rfl, rfl, rfl, by decide +kernel, rfl, by decide +kernel, by decide +kernel⟩
def sp_law_sorted (Tb : List (Addr × Str)) (K : PySem.W.Frag) : Sp := fun vs H Q _ => ∃ (a : Addr) (xs : List V) (es : List Ent), vs = [.ref a] ∧ SqL K H a xs ∧ CatAt H xs es ∧ LamX.Tabs Tb H ∧ es.length ≤ 100000 ∧
  ∀ r H' ys es', es'.Perm es → Ordered es' → ys.Perm xs → CatAt H ys es' → Gr Tb H H' → H' r = none → Q (.ref r) (upd H' r (.lst ys))
section
variable {P : Program} {w : World} {K : PySem.W.Frag} {mg : Str → Option Value} {base : Heap} {Tb : List (Addr × Str)}
theorem ok_law_sorted {f : Addr} {fd : FuncData} (F : FnP K "_law_sorted" s_law_sorted f fd) (T : Tx K mg)  {c Pt : Addr} (LC : ∀ fd2 oc od osl, K.lookup f = some ⟨oc, od, .func fd2, osl⟩ → fd2.code = .ref c) (TB : LamX.TabB base mg c Pt) (hmT : (Pt, ("_law_sorted.<locals>.<lambda>" : Str)) ∈ Tb) (huT : ∀ p ∈ Tb, p.1 = Pt → p.2 = ("_law_sorted.<locals>.<lambda>" : Str)) : FnOk P w K mg base CX0 4 f fd ["rows"] (sp_law_sorted Tb K) := by
  obtain ⟨oc, od, dV, kV, doc, pm, an, cdv, ct, osl, rfl, lk, hcd, _, _⟩ := F.ex
  obtain rfl : cdv = .ref c := LC _ _ _ _ lk
  refine fn_of lk hcd sc_law_sorted (fun vs H Q E h => ?_) fun A outer s H vs Q E hr h => ?_
  · obtain ⟨_, _, _, rfl, _⟩ := h
    rfl
  · obtain ⟨a, xs, es, rfl, ha, hc, ht, hz, k⟩ := h
    have hcode : ∀ (A : Around) (outer : List Env) (s : Shared) (H : Hp) (E : XK), (cxOf CX0 P w K mg base N_law_sorted "_law_sorted" (defScope s_law_sorted) f (.ref c) A outer s H E).env.code = .ref c := fun _ _ _ _ _ => rfl
    refine ⟨_, PSs.nox (pss_one (ps_ret (pe_sortLam (k := 0) (tk := tTup (tCons (tOp (rI0 fun i j => .int (i - j)) (tC (.int 0)) (tOp (rIxT K) (tVar 0) (tC (.int 1)))) (tCons (tOp (rIxT K) (tVar 0) (tC (.int 0))) tNil))) (N := ["row"]) (ps := ["row"]) (by rfl) T.n_sorted (hr.mono (by decide)) TB rfl hmT huT ⟨rfl, rfl, rfl, by decide +kernel, rfl, by decide +kernel, by decide +kernel⟩ rfl (fun _ => rfl) rfl (fun _ _ _ _ us hl => match us, hl with | [_], _ => rfl) (pa_cons (pv 0) pa_nil) (fun _ _ _ _ _ _ _ => (pe_tup (pa_cons (pe_op op_sub pe_int (pe_ix (ixT (K := K) rfl) (pv 0) pe_int (fun _ _ => rfl))) (pa_cons (pe_ix (ixT (K := K) rfl) (pv 0) pe_int (fun _ _ => rfl)) pa_nil))))))), ?_⟩
    refine ⟨_, rfl, a, xs, vKey H, rfl, ha, fun y hy => ?_, ht, fun y hy H2 g Q' k' => ?_, fun ys a' H' hs hp eN hT hn => ?_⟩
    · obtain ⟨e, _, t, l, h1, _⟩ := Paired.left hc hy
      exact ⟨t, h1⟩
    · obtain ⟨e, _, he⟩ := Paired.left hc hy
      rw [vKey_at he] at k'
      obtain ⟨t, l, rfl, h1, h2⟩ := he
      have h1' := g _ _ h1 (fun ps z => by cases z)
      refine ⟨_, rfl, t, _, _, _, rfl, rfl, SqT.of h1', atI_nat (j := 1) rfl, _, _, rfl, rfl, _, rfl, t, _, _, _, rfl, rfl, SqT.of h1', atI_nat (j := 0) rfl, by show 2 ≤ sizeLine; decide, k'⟩
    · obtain ⟨es', p', hc'⟩ := Paired.perm hp hc
      exact k a' H' ys es' p' (ordered_of hc' hs) hp hc' ⟨eN, fun _ => hT⟩ hn
end
end Sk
namespace Sk
open PySem PySem.Spec PyProof.Rows L2
abbrev s_law_full : Stmt := topS 30
abbrev N_law_full : List Str := ["rows", "shelf", "found", "name", "weight", "parts", "part"]
theorem sc_law_full : FnScope N_law_full ["rows", "shelf"] (defScope s_law_full) := ⟨rfl, rfl, rfl, by decide +kernel, rfl, by decide +kernel, by decide +kernel⟩
/-- how many pieces of each kind there are when everything is split: es from the largest on -/
def sp_law_full (Tb : List (Addr × Str)) (K : PySem.W.Frag) : Sp := fun vs H Q _ => ∃ (a b : Addr) (xs : List V) (es : List Ent) (st : Num), vs = [.ref a, .ref b] ∧ SqL K H a xs ∧ CatAt H xs es ∧ H b = some (.dK (dS st)) ∧ LamX.Tabs Tb H ∧ Valid es ∧
  ∀ r H' es', es'.Perm es → Ordered es' → Gr Tb H H' → Nw H r → H' r = some (.dK (dS (numOf es (fsS es' (getD st))))) → Q (.ref r) H'

section
variable {P : Program} {w : World} {K : PySem.W.Frag} {mg : Str → Option Value} {base : Heap} {Tb : List (Addr × Str)}
theorem ok_law_full {f : Addr} {fd : FuncData} (F : FnP K "_law_full" s_law_full f fd) (T : Tx K mg) (G_law_sorted : Fn P w K mg base "_law_sorted" 4 ["rows"] (sp_law_sorted Tb K)) : FnOk P w K mg base CX0 5 f fd ["rows", "shelf"] (sp_law_full Tb K) := by
  refine F.ok sc_law_full (fun vs H Q E h => ?_) (fun cdv A outer s H vs Q E hr h => ?_)
  · obtain ⟨_, _, _, _, _, rfl, _⟩ := h
    rfl
  · obtain ⟨a, b, xs, es, st, rfl, ha, hc, hb, ht, hv, k⟩ := h
    refine ⟨_, PSs.nox (pss_cons (ps_set (i := 2) sc_law_full.nd rfl (Or.inl rfl) (pe_callTy (dictP (K := K) rfl rfl) (by rfl) T.n_dict (by decide +kernel) (pa_cons (pe_lc (own := [("name", 3), ("weight", 4), ("parts", 5)]) (g := (gTup K 3 (gCons (gName 3) (gCons (gName 4) (gCons (gName 5) gNil))))) (tt := tYes) rfl sc_law_full.nd (piL (K := K) rfl (pv 0)) (blkOk_by (N := N_law_full) (sc := (defScope s_law_full)) (by decide +kernel)) (fun _ _ _ _ _ => (pg_tup rfl (pgs_cons (pg_name (i := 3) sc_law_full.nd rfl (Or.inl rfl)) (pgs_cons (pg_name (i := 4) sc_law_full.nd rfl (Or.inl rfl)) (pgs_cons (pg_name (i := 5) sc_law_full.nd rfl (Or.inl rfl)) pgs_nil))))) (fun _ _ _ _ _ => pts_nil) (fun _ _ _ _ _ => (pe_tup (pa_cons (pv 3) (pa_cons (pe_dget2 (hu_of hr) (pv 1) (pv 3) pe_int ⟨rfl, rfl, rfl, rfl⟩) pa_nil))))) pa_nil)))
      (pss_cons (ps_for PassesOwn.never rfl (piL (K := K) rfl (pe_fn G_law_sorted (hr.mono (by decide)) (pa_cons (pv 0) pa_nil))) (pg_tup rfl (pgs_cons (pg_name (i := 3) sc_law_full.nd rfl (Or.inl rfl)) (pgs_cons (pg_name (i := 4) sc_law_full.nd rfl (Or.inl rfl)) (pgs_cons (pg_name (i := 5) sc_law_full.nd rfl (Or.inl rfl)) pgs_nil)))) (pss_one (ps_for PassesOwn.never rfl (piL (K := K) rfl (pv 5)) (pg_name (i := 6) sc_law_full.nd rfl (Or.inl rfl)) (pss_one (ps_dput (hu_of hr) (pv 2) (pv 6) (pe_op op_add (pe_dget (hu_of hr) (pv 2) (pv 6) (fun _ _ => rfl)) (pe_dget (hu_of hr) (pv 2) (pv 3) (fun _ _ => rfl))) rfl)))))
      (pss_one (ps_ret (pv 2))))), ?_⟩
    have hl := Paired.len hc
    have hz := hv.few
    refine ⟨_, rfl, a, rfl, ⟨_, ha⟩, fun D hD => lc_rel (Tb := Tb) (xs := xs) walk_list rfl (fun _ => true) (ERow H (fun e => getD st e.name)) erow_mono hD (by omega) (fun H' g => g.ext_seq ha) (fun j v H' hvj g hDn Rk Rs hk hs => ?_) fun H1 ps g1 hD1 hps => ?_⟩
    · obtain ⟨e, he, hev⟩ := Paired.at hc hvj
      obtain ⟨t, lp, rfl, ht0, hlp⟩ := id hev
      have hb' := g.at hb .dK
      refine gtup3 (g.at ht0 .tup) ⟨rfl, _, rfl, _, rfl, b, rfl, IsD.num hb', _, rfl, _, dgetO hb' e.name, ?_⟩
      rw [getO]
      exact ⟨by show 2 ≤ sizeLine; decide, fun t2 ht2 => hk _ _ rfl (Gr.new ht2) (ERow.of hev upd_same)⟩
    · obtain ⟨pa, rfl, pp⟩ := erow_dict (K := K) (kp := fun _ => true) (fun _ _ _ => rfl) hc hps
      have ef : es.filter (fun _ => true) = es := List.filter_eq_self.mpr fun _ _ => rfl
      rw [ef] at pp
      refine ⟨D, pa, dS (numOf es (getD st)), rfl, SqL.of hD1, pp, fun r hr => ?_⟩
      rw [merge_new (by rw [numOf_names]; exact hv.nodup)]
      have g2 : Gr Tb H (upd H1 r (.dK (dS (numOf es (getD st))))) := g1.trans (Gr.new hr)
      have nr : Nw H r := g1.nw (.of hr)
      refine ⟨_, rfl, a, xs, es, rfl, g2.ext_seq ha, CatAt.gr g2 hc, g2.tab ht, hz, fun s H2 ys es' hp ho hyp hc2 g3 hs => ?_⟩
      have hcy := CatAt.back hc g2 hyp hc2
      have hyl := Paired.len hcy
      have g4 : Gr Tb H (upd H2 s (.lst ys)) := (g2.trans g3).trans (Gr.new hs)
      have hr2 := g3.at (upd_same (H := H1) (a := r) (o := .dK (dS (numOf es (getD st))))) .dK
      have rs : r ≠ s := ne_of_none hr2 hs
      have hv' := hv.perm hp
      have hbe := hv'.behind ho
      have inm : ∀ x, x ∈ es'.map (·.name) → x ∈ es.map (·.name) := fun x hx => (hp.map _).mem_iff.mp hx
      refine ⟨s, rfl, ⟨_, SqL.of upd_same⟩, for_list (K := K) (a := s) (xs := ys) (fun i σ H' => ∃ s3 s4 s5 s6 : Option V, σ = [some (.ref a), some (.ref b), some (.ref r), s3, s4, s5, s6] ∧ Gr Tb H H' ∧ H' s = some (.lst ys) ∧ H' r = some (.dK (dS (numOf es (fsS (es'.take i) (getD st))))))
        ⟨_, _, _, _, rfl, g4, upd_same, by rw [List.take_zero, upd_ne rs]; exact hr2⟩ (fun i σ H' _ ⟨_, _, _, _, _, _, h, _⟩ => SqL.of h) ?_ ?_⟩
      · rintro i x σ H3 hx ⟨s3, s4, s5, s6, rfl, g5, hs3, hr3⟩
        obtain ⟨e, he, t, lp, rfl, ht0, hlp⟩ := Paired.at hcy hx
        have hm := List.mem_of_getElem? he
        have hnm : e.name ∈ es.map (·.name) := inm _ (List.mem_map.mpr ⟨e, hm, rfl⟩)
        have hbe1 := Behind.at hbe hm
        generalize hfi : fsS (es'.take i) (getD st) = g at hr3
        refine gtup3 (g5.at ht0 .tup) ?_
        refine ⟨_, rfl, lp, rfl, ⟨_, SqL.of (g5.at hlp .lst)⟩, for_list (K := K) (a := lp) (xs := e.parts.map V.str) (fun j σ H' => ∃ s6 : Option V, σ = [some (.ref a), some (.ref b), some (.ref r), some (.str e.name), some (.int e.w), some (.ref lp), s6] ∧ Gr Tb H H' ∧ H' s = some (.lst ys) ∧
            H' r = some (.dK (dS (numOf es (addAll g ((e.parts.take j).map fun p => (p, g e.name)))))))
          ⟨_, rfl, g5, hs3, by rw [List.take_zero]; exact hr3⟩ (fun j σ H' _ ⟨_, _, g, _⟩ => SqL.of (g.at hlp .lst)) ?_ ?_⟩
        · rintro j y σ H4 hy ⟨s6, rfl, g6, hs4, hr4⟩
          rw [List.getElem?_map] at hy
          cases hq : e.parts[j]? with
          | none => rw [hq] at hy; cases hy
          | some q =>
            rw [hq] at hy
            cases hy
            obtain ⟨hqm, hqn⟩ := hbe1 q (List.mem_of_getElem? hq)
            have same : addAll g ((e.parts.take j).map fun p => (p, g e.name)) e.name = g e.name := by
              rw [addAll_at, amt_zero]
              · omega
              · intro z hz
                obtain ⟨p, hp2, rfl⟩ := List.mem_map.mp hz
                exact (hbe1 p (List.mem_of_mem_take hp2)).2
            refine ⟨_, rfl, _, rfl, r, _, rfl, dgetS hr4 (get?_numOf (inm _ hqm)), _, rfl, _, rfl, r, _, rfl, dgetS hr4 (get?_numOf hnm), _, _, rfl, rfl, _, rfl, _, rfl, r, _, rfl, dputS hr4 (by rw [numOf_len, sizeLine_eq]; omega), _, rfl, g6.mut nr hr4 .dK, ?_, ?_⟩
            · rw [upd_ne rs.symm]
              exact hs4
            · rw [upd_same, put_numOf (inm _ hqm), take_snoc hq, List.map_append, same]
              show some (HO.dK (dS (numOf es (upF _ q _)))) = some (HO.dK (dS (numOf es (addAll _ (_ ++ [(q, g e.name)])))))
              rw [addAll_snoc]
        · rintro σ H4 ⟨s6, rfl, g6, hs4, hr4⟩
          refine ⟨_, _, _, _, rfl, g6, hs4, ?_⟩
          rw [List.length_map, List.take_length] at hr4
          rw [take_snoc he, fsS_snoc, hfi]
          exact hr4
      · rintro σ H3 ⟨s3, s4, s5, s6, rfl, g5, hs3, hr3⟩
        rw [hyl, List.take_length] at hr3
        exact ⟨_, rfl, k r H3 es' hp ho g5 nr hr3⟩
end
end Sk
namespace Sk
open PySem PySem.Spec PyProof.Rows L2
abbrev s_law_total : Stmt := topS 31
abbrev N_law_total : List Str := ["rows", "shelf", "full", "name", "weight", "parts"]
theorem sc_law_total : FnScope N_law_total ["rows", "shelf"] (defScope s_law_total) := ⟨rfl, rfl, rfl, by decide +kernel, rfl, by decide +kernel, by decide +kernel⟩
/-- the splits of everything -/
def totS (es : List Ent) (f : Str → Int) : Int := ((fs es f).map (·.2)).sum
def sp_law_total (Tb : List (Addr × Str)) (K : PySem.W.Frag) : Sp := fun vs H Q _ => ∃ (a b : Addr) (xs : List V) (es : List Ent) (st : Num), vs = [.ref a, .ref b] ∧ SqL K H a xs ∧ CatAt H xs es ∧ H b = some (.dK (dS st)) ∧ LamX.Tabs Tb H ∧ Valid es ∧
  ∀ H' es', es'.Perm es → Ordered es' → Gr Tb H H' → Q (.int (totS es' (getD st))) H'
theorem _root_.List.Perm.sum_int {l m : List Int} (p : l.Perm m) : l.sum = m.sum := by
  induction p with
  | nil => rfl
  | cons x _ ih => rw [List.sum_cons, List.sum_cons, ih]
  | swap x y l =>
    rw [List.sum_cons, List.sum_cons, List.sum_cons, List.sum_cons]
    omega
  | trans _ _ a b => rw [a, b]
section
variable {P : Program} {w : World} {K : PySem.W.Frag} {mg : Str → Option Value} {base : Heap} {Tb : List (Addr × Str)}
theorem ok_law_total {f : Addr} {fd : FuncData} (F : FnP K "_law_total" s_law_total f fd) (T : Tx K mg) (G_law_full : Fn P w K mg base "_law_full" 5 ["rows", "shelf"] (sp_law_full Tb K)) : FnOk P w K mg base CX0 6 f fd ["rows", "shelf"] (sp_law_total Tb K) := by
  refine F.ok sc_law_total (fun vs H Q E h => ?_) (fun cdv A outer s H vs Q E hr h => ?_)
  · obtain ⟨_, _, _, _, _, rfl, _⟩ := h
    rfl
  · obtain ⟨a, b, xs, es, st, rfl, ha, hc, hb, ht, hv, k⟩ := h
    refine ⟨_, PSs.nox (pss_cons (ps_set (i := 2) sc_law_total.nd rfl (Or.inr rfl) (pe_fn G_law_full (hr.mono (by decide)) (pa_cons (pv 0) (pa_cons (pv 1) pa_nil))))
      (pss_one (ps_ret (pe_callB (crSum (K := K) rfl rfl) (by rfl) T.n_sum (by decide +kernel) (pa_cons (pe_lc (own := [("name", 3), ("weight", 4), ("parts", 5)]) (g := (gTup K 3 (gCons (gName 3) (gCons (gName 4) (gCons (gName 5) gNil))))) (tt := _) rfl sc_law_total.nd (piL (K := K) rfl (pv 0)) (blkOk_by (N := N_law_total) (sc := (defScope s_law_total)) (by decide +kernel)) (fun _ _ _ _ _ => (pg_tup rfl (pgs_cons (pg_name (i := 3) sc_law_total.nd rfl (Or.inl rfl)) (pgs_cons (pg_name (i := 4) sc_law_total.nd rfl (Or.inl rfl)) (pgs_cons (pg_name (i := 5) sc_law_total.nd rfl (Or.inl rfl)) pgs_nil))))) (fun _ _ _ _ _ => (pts_one (pt_cmpR (opNeNil (K := K) rfl hr.units) (pv 5) (pe_lst pa_nil) (nomark _)))) (fun _ _ _ _ _ => (pe_dget (hu_of hr) (pv 2) (pv 3) (fun _ _ => rfl)))) pa_nil))))), ?_⟩
    have hl := Paired.len hc
    have hz := hv.few
    refine ⟨_, rfl, _, rfl, a, b, xs, es, st, rfl, ha, hc, hb, ht, hv, fun r H1 es' hp ho g1 nr hr => ?_⟩
    have hc1 := CatAt.gr g1 hc
    refine ⟨_, rfl, a, rfl, ⟨_, g1.ext_seq ha⟩, fun D hD => lc_rel (Tb := Tb) (xs := xs) walk_list rfl (hasParts H1) (fun _ => EVal H1 fun e => fsS es' (getD st) e.name) (fun _ _ _ _ _ h => h) hD (by omega) (fun H' g => (g1.trans g).ext_seq ha) (fun j v H' hvj g hDn Rk Rs hk hs => ?_) fun H2 ys g2 hD2 hys => ?_⟩
    · obtain ⟨e, he, hev⟩ := Paired.at hc1 hvj
      have hkp := hasParts_at hev
      obtain ⟨t, lp, rfl, ht0, hlp⟩ := id hev
      refine gtup3 (g.at ht0 .tup) ⟨rfl, _, rfl, rd_nil (SqL.of (g.at hlp .lst)) fun p hpn => ⟨_, rfl, ?_⟩⟩
      have g3 : Gr Tb H' (upd H' p (.lst [])) := Gr.new hpn
      have hnm : e.name ∈ es.map (·.name) := List.mem_map.mpr ⟨e, List.mem_of_getElem? he, rfl⟩
      cases hps : e.parts with
      | nil =>
        exact hs _ (by rw [hkp, hps]; rfl) g3
      | cons p0 ps =>
        refine ⟨_, rfl, _, rfl, r, _, rfl, dgetS ((g.trans g3).at hr .dK) (get?_numOf hnm), hk _ _ (by rw [hkp, hps]; rfl) g3 fun e2 he2 => ?_⟩
        rw [hev.uniq he2]
    · rw [eval_list (fun v e h => hasParts_at h) hc1 hys] at hD2
      refine ⟨D, _, rfl, SqL.of hD2, ?_⟩
      have hv' := hv.perm hp
      have e1 : ((es.filter fun e => decide (e.parts ≠ [])).map fun e => fsS es' (getD st) e.name).sum = totS es' (getD st) := by
        unfold totS
        rw [fs_final (hv'.behind ho) hv'.nodup, List.map_map]
        exact (((hp.filter _).map _).sum_int).symm
      rw [e1]
      exact k H2 es' hp ho (g1.trans g2)
end
end Sk
namespace Sk
open PySem PySem.Spec PyProof.Rows L2
abbrev s_law_shelf : Stmt := topS 32
abbrev N_law_shelf : List Str := ["pool", "rows", "wide", "found", "name", "weight", "parts"]
theorem sc_law_shelf : FnScope N_law_shelf ["pool", "rows", "wide"] (defScope s_law_shelf) := ⟨rfl, rfl, rfl, by decide +kernel, rfl, by decide +kernel, by decide +kernel⟩
def sp_law_shelf (Tb : List (Addr × Str)) (K : PySem.W.Frag) : Sp := fun vs H Q _ => ∃ (p a : Addr) (n : Nat) (L : List (Addr × HO)) (G : Hp) (xs : List V) (es : List Ent) (wide : Int), vs = [.ref p, .ref a, .int wide] ∧ Hq Tb p n L G H ∧ n + 1000 < 1000000000 ∧ SqL K H a xs ∧ CatAt G xs es ∧ (es.map (·.name)).Nodup ∧ es.length ≤ 41 ∧ 3 ≤ wide ∧ wide ≤ 10 ^ 30 ∧
  ∀ r H' (d : Num), StockOk es d → (∀ q ∈ d, q.2 ≤ wide) → Hq Tb p (n + 1000) ((r, .dK (dS d)) :: L) G H' → Q (.ref r) H'

section
variable {P : Program} {w : World} {K : PySem.W.Frag} {mg : Str → Option Value} {base : Heap} {Tb : List (Addr × Str)}
theorem ok_law_shelf {f : Addr} {fd : FuncData} (F : FnP K "_law_shelf" s_law_shelf f fd) (T : Tx K mg) (G_law_draw : Fn P w K mg base "_law_draw" 1 ["pool", "many"] (sp_law_draw Tb K)) (G_law_mixed : Fn P w K mg base "_law_mixed" 2 ["pool", "things"] (sp_law_mixed Tb K)) : FnOk P w K mg base CX0 3 f fd ["pool", "rows", "wide"] (sp_law_shelf Tb K) := by
  refine F.ok sc_law_shelf (fun vs H Q E h => ?_) (fun cdv A outer s H vs Q E hr h => ?_)
  · obtain ⟨_, _, _, _, _, _, _, _, rfl, _⟩ := h
    rfl
  · obtain ⟨p, a, n, L, G, xs, es, wide, rfl, hs, hn, ha, hc, hnd, hz, m0, m1, k⟩ := h
    refine ⟨_, PSs.nox (pss_cons (ps_set (i := 3) sc_law_shelf.nd rfl (Or.inl rfl) pe_dnewK)
      (pss_cons (ps_for PassesOwn.never rfl (piL (K := K) rfl (pe_fn G_law_mixed (hr.mono (by decide)) (pa_cons (pv 0) (pa_cons (pv 1) pa_nil)))) (pg_tup rfl (pgs_cons (pg_name (i := 4) sc_law_shelf.nd rfl (Or.inl rfl)) (pgs_cons (pg_name (i := 5) sc_law_shelf.nd rfl (Or.inl rfl)) (pgs_cons (pg_name (i := 6) sc_law_shelf.nd rfl (Or.inl rfl)) pgs_nil)))) (pss_one (ps_if (pt_cmpR op_gt (pe_fn G_law_draw (hr.mono (by decide)) (pa_cons (pv 0) (pa_cons pe_int pa_nil))) pe_int (nomark _)) (pss_one (ps_dput (hu_of hr) (pv 3) (pv 4) (pe_ix (ixL (K := K) rfl) (pe_lst (pa_cons pe_int (pa_cons (pe_fn G_law_draw (hr.mono (by decide)) (pa_cons (pv 0) (pa_cons pe_int pa_nil))) (pa_cons (pe_fn G_law_draw (hr.mono (by decide)) (pa_cons (pv 0) (pa_cons (pv 2) pa_nil))) pa_nil)))) (pe_fn G_law_draw (hr.mono (by decide)) (pa_cons (pv 0) (pa_cons pe_int pa_nil))) (fun _ _ => rfl)) rfl)) pss_nil)))
      (pss_one (ps_ret (pv 3))))), ?_⟩
    have hxl := Paired.len hc
    have hw2 : wide < 2 ^ 400 := Int.lt_of_le_of_lt m1 (by decide +kernel)
    intro F hF
    have h1 := hs.new hF (.dK (xs := []))
    refine ⟨_, rfl, _, rfl, p, a, n, _, G, xs, rfl, h1, (Same.upd hF).seq ha, by omega, by omega, fun r0 H2 ys hp h2 => ?_⟩
    obtain ⟨es', pe, hc'⟩ := Paired.perm hp hc
    have hyl := Paired.len hc'
    have hnd' : (es'.map (·.name)).Nodup := (pe.map _).nodup_iff.mpr hnd
    have hel := pe.length_eq
    refine ⟨r0, rfl, ⟨_, SqL.of (h2.get (i := 0) rfl)⟩, for_list (K := K) (a := r0) (xs := ys) (fun i σ H' => ∃ (d : Num) (s4 s5 s6 : Option V), σ = [some (.ref p), some (.ref a), some (.int wide), some (.ref F), s4, s5, s6] ∧ (d.map (·.1)).Nodup ∧ d.length ≤ i ∧ (∀ q ∈ d, q.1 ∈ (es'.take i).map (·.name) ∧ 0 ≤ q.2 ∧ q.2 ≤ wide) ∧ Hq Tb p (n + 41 + 8 * i) ((r0, .lst ys) :: (F, .dK (dS d)) :: L) G H')
      ⟨[], _, _, _, rfl, List.nodup_nil, Nat.le_refl _, by simp, h2.mono (by omega)⟩ (fun i σ H' _ ⟨_, _, _, _, _, _, _, _, h⟩ => SqL.of (h.get (i := 0) rfl)) ?_ ?_⟩
    · rintro i x σ H3 hx ⟨d, s4, s5, s6, rfl, dn, dl, dv, h3⟩
      obtain ⟨e, he, hev⟩ := Paired.at hc' hx
      have hi : i < es'.length := (List.getElem?_eq_some_iff.mp he).1
      obtain ⟨t, lp, rfl, ht, hlp⟩ := hev.mono h3.fz.sub
      refine gtup3 ht ?_
      have nn : e.name ∉ d.map (·.1) := fun hm => by
        obtain ⟨q, hq, z⟩ := List.mem_map.mp hm
        exact take_notin hnd' he (z ▸ (dv q hq).1)
      have tk : ∀ x, x ∈ (es'.take i).map (·.name) → x ∈ (es'.take (i + 1)).map (·.name) := fun x hx => by
        rw [take_snoc he, List.map_append]
        exact List.mem_append_left _ hx
      have tk2 : e.name ∈ (es'.take (i + 1)).map (·.name) := by
        rw [take_snoc he, List.map_append]
        exact List.mem_append_right _ (List.mem_singleton.mpr rfl)
      refine ⟨_, rfl, p, _, _, G, 4, rfl, h3, by omega, by decide, by decide +kernel, fun d1 H4 d10 d11 h4 => ⟨_, _, rfl, rfl, _, rfl, ?_⟩⟩
      refine ite2 (fun c1 => ?_) (fun c1 => ?_)
      · refine ⟨_, rfl, p, _, _, G, 3, rfl, h4, by omega, by decide, by decide +kernel, fun d2 H5 d20 d21 h5 => ?_⟩
        refine ⟨_, rfl, _, rfl, p, _, _, G, wide, rfl, h5, by omega, by omega, hw2, fun u H6 u0 u1 h6 => ⟨by show 3 ≤ sizeLine; decide, fun l hl => ?_⟩⟩
        refine ⟨_, rfl, p, _, _, G, 3, rfl, h6.new hl .lst, by omega, by decide, by decide +kernel, fun d3 H7 d30 d31 h7 => ?_⟩
        obtain ⟨z, ez, z0, z1⟩ := pick_int (P := fun i => 0 ≤ i ∧ i ≤ wide) [0, d2, u] rfl d30 d31 (by simp; omega)
        refine ⟨l, _, d3, .int z, rfl, rfl, SqL.of (h7.get (i := 0) rfl), ez, ?_⟩
        have h8 := h7.drop1
        refine ⟨_, rfl, _, rfl, F, _, rfl, dputS (h8.get (i := 1) rfl) (by rw [sizeLine_eq]; omega), d ++ [(e.name, z)], _, _, _, rfl, ?_, ?_, fun q hq => ?_, ?_⟩
        · rw [List.map_append]
          refine List.nodup_append.mpr ⟨dn, by simp, fun x hx y hy => ?_⟩
          rw [List.mem_singleton.mp hy]
          intro q
          have q2 : x = e.name := q
          rw [q2] at hx
          exact nn hx
        · rw [List.length_append, List.length_singleton]
          omega
        · rcases List.mem_append.mp hq with hq | hq
          · exact ⟨tk _ (dv q hq).1, (dv q hq).2⟩
          · rw [List.mem_singleton.mp hq]
            exact ⟨tk2, z0, z1⟩
        · rw [put_new' nn]
          exact (h8.put (i := 1) rfl .dK).mono (by omega)
      · exact ⟨d, _, _, _, rfl, dn, by omega, fun q hq => ⟨tk _ (dv q hq).1, (dv q hq).2⟩, h4.mono (by omega)⟩
    · rintro σ H3 ⟨d, s4, s5, s6, rfl, dn, dl, dv, h3⟩
      rw [hyl, List.take_length] at dv
      refine ⟨_, rfl, k F H3 d ⟨dn, by omega, fun q hq => ?_, fun q hq => (dv q hq).2.1⟩ (fun q hq => (dv q hq).2.2) (h3.drop1.mono (by omega))⟩
      exact (pe.map _).mem_iff.mp (dv q hq).1
end
end Sk
namespace Sk
open PySem PySem.Spec PyProof.Rows L2
abbrev s_law_small_shelf : Stmt := topS 33
abbrev N_law_small_shelf : List Str := ["pool", "rows", "most", "found", "name"]
theorem sc_law_small_shelf : FnScope N_law_small_shelf ["pool", "rows", "most"] (defScope s_law_small_shelf) := ⟨rfl, rfl, rfl, by decide +kernel, rfl, by decide +kernel, by decide +kernel⟩
def sp_law_small_shelf (Tb : List (Addr × Str)) (K : PySem.W.Frag) : Sp := fun vs H Q _ => ∃ (p a : Addr) (n : Nat) (L : List (Addr × HO)) (G : Hp) (xs : List V) (es : List Ent) (most : Int), vs = [.ref p, .ref a, .int most] ∧ Hq Tb p n L G H ∧ n + 1000 < 1000000000 ∧ G a = some (.lst xs) ∧ CatAt G xs es ∧ MadeC es ∧ 0 ≤ most ∧
  ∀ r H' (d : Num), StockOk es d → (∀ q ∈ d, q.2 ≤ 3) → (∀ es', es'.Perm es → Ordered es' → totS es' (getD d) ≤ most) → Hq Tb p (n + 1000) ((r, .dK (dS d)) :: L) G H' → Q (.ref r) H'
theorem put_old {d : Num} {x : Str} {i : Int} (h : x ∈ d.map (·.1)) : put d x i = d.map (fun q => if q.1 = x then (q.1, i) else q) := by
  unfold put
  rw [if_pos (any_mem.mpr h)]
theorem put_keys_old {d : Num} {x : Str} {i : Int} (h : x ∈ d.map (·.1)) : (put d x i).map (·.1) = d.map (·.1) := by
  rw [put_old h, List.map_map]
  refine List.map_congr_left fun q _ => ?_
  show (if q.1 = x then (q.1, i) else q).1 = q.1
  split <;> rfl
theorem StockOk.put0 {es : List Ent} {d : Num} {x : Str} (so : StockOk es d) (h : x ∈ d.map (·.1)) : StockOk es (put d x 0) := by
  refine ⟨by rw [put_keys_old h]; exact so.nd, ?_, fun q hq => ?_, fun q hq => ?_⟩
  · rw [put_old h, List.length_map]
    exact so.few
  · have h2 : q.1 ∈ (put d x 0).map (·.1) := List.mem_map.mpr ⟨q, hq, rfl⟩
    rw [put_keys_old h] at h2
    obtain ⟨z, hz, e⟩ := List.mem_map.mp h2
    rw [← e]
    exact so.known z hz
  · rw [put_old h] at hq
    obtain ⟨z, hz, rfl⟩ := List.mem_map.mp hq
    split
    · exact Int.le_refl _
    · exact so.pos z hz
section
variable {P : Program} {w : World} {K : PySem.W.Frag} {mg : Str → Option Value} {base : Heap} {Tb : List (Addr × Str)}
theorem ok_law_small_shelf {f : Addr} {fd : FuncData} (F : FnP K "_law_small_shelf" s_law_small_shelf f fd) (T : Tx K mg) (G_law_shelf : Fn P w K mg base "_law_shelf" 3 ["pool", "rows", "wide"] (sp_law_shelf Tb K)) (G_law_total : Fn P w K mg base "_law_total" 6 ["rows", "shelf"] (sp_law_total Tb K)) : FnOk P w K mg base CX0 7 f fd ["pool", "rows", "most"] (sp_law_small_shelf Tb K) := by
  refine F.ok sc_law_small_shelf (fun vs H Q E h => ?_) (fun cdv A outer s H vs Q E hr h => ?_)
  · obtain ⟨_, _, _, _, _, _, _, _, rfl, _⟩ := h
    rfl
  · obtain ⟨p, a, n, L, G, xs, es, most, rfl, hs, hn, ha, hc, hmd, m0, k⟩ := h
    refine ⟨_, PSs.nox (pss_cons (ps_set (i := 3) sc_law_small_shelf.nd rfl (Or.inl rfl) (pe_fn G_law_shelf (hr.mono (by decide)) (pa_cons (pv 0) (pa_cons (pv 1) (pa_cons pe_int pa_nil)))))
      (pss_cons (ps_for PassesOwn.never rfl (piL (K := K) rfl (pe_callTy (call_list_dK rfl) (by rfl) T.n_list (by decide +kernel) (pa_cons (pv 3) pa_nil))) (pg_name (i := 4) sc_law_small_shelf.nd rfl (Or.inl rfl)) (pss_one (ps_if (pt_cmpR op_gt (pe_fn G_law_total (hr.mono (by decide)) (pa_cons (pv 1) (pa_cons (pv 3) pa_nil))) (pv 2) (nomark _)) (pss_one (ps_dput (hu_of hr) (pv 3) (pv 4) pe_int rfl)) pss_nil)))
      (pss_one (ps_ret (pv 3))))), ?_⟩
    have hv := hmd.v
    have hfew := hmd.few
    refine ⟨_, rfl, _, rfl, p, a, n, L, G, xs, es, 3, rfl, hs, hn, SqL.of (hs.fzat ha), hc, hv.nodup, by omega, by decide, by decide, fun F H1 d so dv h1 => ?_⟩
    refine ⟨_, rfl, F, dS d, rfl, h1.get (i := 0) rfl, fun q hq => ?_⟩
    have ek : ((dS d).map fun kv => kV kv.1) = (d.map (·.1)).map V.str := by
      unfold dS
      rw [List.map_map, List.map_map]
      rfl
    rw [ek]
    have h2 := h1.new hq (.lst (xs := (d.map (·.1)).map V.str))
    generalize hks : d.map (·.1) = ks at h2
    refine ⟨q, rfl, ⟨_, SqL.of upd_same⟩, for_list (K := K) (a := q) (xs := ks.map V.str) (fun i σ H' => ∃ (d2 : Num) (s4 : Option V), σ = [some (.ref p), some (.ref a), some (.int most), some (.ref F), s4] ∧ StockOk es d2 ∧ (∀ q ∈ d2, q.2 ≤ 3) ∧ d2.map (·.1) = ks ∧ ((∀ es', es'.Perm es → Ordered es' → totS es' (getD d2) ≤ most) ∨ ∀ x ∈ ks.take i, getD d2 x = 0) ∧ Hq Tb p (n + 1000) ((q, .lst (ks.map V.str)) :: (F, .dK (dS d2)) :: L) G H')
      ⟨d, none, rfl, so, dv, hks, .inr (by simp), h2⟩ (fun i σ H' _ ⟨_, _, _, _, _, _, _, h⟩ => SqL.of (h.get (i := 0) rfl)) ?_ ?_⟩
    · rintro i x σ H3 hx ⟨d2, s4, rfl, so2, dv2, dk2, hor, h3⟩
      rw [List.getElem?_map] at hx
      cases hy : ks[i]? with
      | none => rw [hy] at hx; cases hx
      | some y =>
        rw [hy] at hx
        cases hx
        refine ⟨_, rfl, _, rfl, a, F, xs, es, d2, rfl, SqL.of (h3.fzat ha), hc.mono h3.fz.sub, h3.get (i := 1) rfl, h3.tab, hv, fun H4 es' hp ho g4 => ?_⟩
        have h4 := h3.gr g4
        refine ⟨_, rfl, _, _, rfl, rfl, _, rfl, ?_⟩
        have uq : ∀ es2 : List Ent, es2.Perm es → Ordered es2 → es2 = es' := fun es2 p2 o2 => ordered_unique (p2.trans hp.symm) o2 ho ((p2.map _).nodup_iff.mpr hv.nodup)
        refine ite2 (fun c1 => ?_) (fun c1 => ?_)
        · have c2 := of_decide_eq_true c1
          have hz : ∀ x ∈ ks.take i, getD d2 x = 0 := by
            rcases hor with h | h
            · have := h es' hp ho
              omega
            · exact h
          have hym : y ∈ d2.map (·.1) := by rw [dk2]; exact List.mem_of_getElem? hy
          have hpo := put_old (i := 0) hym
          refine ⟨_, rfl, _, rfl, F, _, rfl, dputS (h4.get (i := 1) rfl) (by have := so2.few; rw [sizeLine_eq]; omega), put d2 y 0, some (.str y), rfl, so2.put0 hym, fun q hq => ?_, by rw [put_keys_old hym]; exact dk2, .inr fun x hx => ?_, h4.put (i := 1) rfl .dK⟩
          · rw [hpo] at hq
            obtain ⟨z, hz, rfl⟩ := List.mem_map.mp hq
            split
            · show (0 : Int) ≤ 3
              decide
            · exact dv2 z hz
          · rw [getD_put]
            by_cases e : x = y
            · rw [if_pos e]
            · rw [if_neg e]
              rw [take_snoc hy] at hx
              rcases List.mem_append.mp hx with h | h
              · exact hz x h
              · exact absurd (List.mem_singleton.mp h) e
        · refine ⟨d2, some (.str y), rfl, so2, dv2, dk2, .inl fun es2 p2 o2 => ?_, h4⟩
          rw [uq es2 p2 o2]
          exact Int.not_lt.mp fun z => c1 (decide_eq_true z)
    · rintro σ H3 ⟨d2, s4, rfl, so2, dv2, dk2, hor, h3⟩
      refine ⟨_, rfl, k F H3 d2 so2 dv2 (fun es' hp ho => ?_) h3.drop1⟩
      rcases hor with h | h
      · exact h es' hp ho
      · rw [List.length_map, List.take_length] at h
        have z : ∀ x, getD d2 x = 0 := fun x => by
          by_cases c : x ∈ d2.map (·.1)
          · exact h x (by rw [← dk2]; exact c)
          · exact getD_none c
        have hv' := hv.perm hp
        have t1 := (tot_le (hv'.behind ho) hv'.nodup (fun e he => hmd.fewp e (hp.mem_iff.mp he)) (f := getD d2) fun x => by rw [z]; exact Int.le_refl _).2
        rw [sumE_zero fun e _ => z e.name, Int.mul_zero] at t1
        exact Int.le_trans t1 m0
end
end Sk
namespace Sk
open PySem PySem.Spec PyProof.Rows L2
/-- how many splits the others lack -/
def overN (sp best : Num) : Int := (sp.map fun q => if q.2 - getD best q.1 > 0 then q.2 - getD best q.1 else 0).sum
def sp_displacement (Tb : List (Addr × Str)) (K : PySem.W.Frag) : Sp := fun vs H Q _ => ∃ (a b c : Addr) (xs : List V) (es : List Ent) (st sp : Num), vs = [.ref a, .ref b, .ref c] ∧ SqL K H a xs ∧ CatAt H xs es ∧ H b = some (.dK (dS st)) ∧ H c = some (.dK (dS sp)) ∧ LamX.Tabs Tb H ∧ Valid es ∧ StockOk es st ∧ SplitsOk es st sp ∧
  ∀ H' es', es'.Perm es → Ordered es' → Gr Tb H H' → Q (.int (overN sp (greedy (fs es' (getD st)) (sp.map (·.2)).sum))) H'
end Sk
namespace Sk
open PySem PySem.Spec PyProof.Rows L2
theorem amt_keys {l : List Str} (nd : l.Nodup) (x : Str) : amt (ones l) x = if x ∈ l then 1 else 0 := by
  induction l with
  | nil => rfl
  | cons p l ih =>
    rw [List.nodup_cons] at nd
    unfold ones at ih ⊢
    rw [List.map_cons, amt_cons, ih nd.2]
    show (if p = x then (1 : Int) else 0) + _ = _
    by_cases c : p = x
    · rw [if_pos c, if_neg (by rw [← c]; exact nd.1), if_pos (by rw [c]; exact List.mem_cons_self ..)]
      rfl
    · rw [if_neg c]
      by_cases c2 : x ∈ l
      · rw [if_pos c2, if_pos (List.mem_cons_of_mem _ c2)]
        rfl
      · rw [if_neg c2, if_neg]
        · rfl
        · intro h
          rcases List.mem_cons.mp h with z | z
          · exact c z.symm
          · exact c2 z
/-- a sum over a dict's names, as a sum over the kinds -/
theorem sum_keys {es : List Ent} {d : Num} (nd : (es.map (·.name)).Nodup) (dn : (d.map (·.1)).Nodup) (hk : ∀ q ∈ d, q.1 ∈ es.map (·.name)) {h : Str → Int} (hz : ∀ e ∈ es, e.name ∉ d.map (·.1) → h e.name = 0) : (d.map fun q => h q.1).sum = sumE es h := by
  have h1 := sumE_amt nd h (l := ones (d.map (·.1))) fun q hq => by
    unfold ones at hq
    obtain ⟨x, hx, rfl⟩ := List.mem_map.mp hq
    obtain ⟨z, hz, rfl⟩ := List.mem_map.mp hx
    exact hk z hz
  have h2 : ((ones (d.map (·.1))).map fun q => q.2 * h q.1) = d.map fun q => h q.1 := by
    unfold ones
    rw [List.map_map, List.map_map]
    exact List.map_congr_left fun q _ => Int.one_mul _
  rw [h2] at h1
  rw [← h1]
  refine sumE_congr fun e he => ?_
  rw [amt_keys dn]
  by_cases c : e.name ∈ d.map (·.1)
  · rw [if_pos c, Int.one_mul]
  · rw [if_neg c, hz e he c, Int.zero_mul]
theorem fs_key {es : List Ent} {f : Str → Int} (b : Behind es) (nd : (es.map (·.name)).Nodup) {e : Ent} (he : e ∈ es) (hp : e.parts ≠ []) : e.name ∈ (fs es f).map (·.1) := by
  rw [fs_final b nd, List.map_map]
  exact List.mem_map.mpr ⟨e, List.mem_filter.mpr ⟨he, decide_eq_true hp⟩, rfl⟩
def posI (z : Int) : Int := if z > 0 then z else 0
theorem posI_nonneg (z : Int) : 0 ≤ posI z := by
  unfold posI
  split <;> omega
theorem posI_le {z : Int} : z ≤ posI z := by
  unfold posI
  split <;> omega
/-- what c exceeds and what it lacks, kind by kind -/
theorem over_all {es es' : List Ent} {d c : Num} (hv : Valid es) (hp : es'.Perm es) (ho : Ordered es') (so : StockOk es d) (ok : SplitsOk es d c) (hz : es.length < 64) :
    (greedy (fs es' (getD d)) (c.map (·.2)).sum |>.map (·.2)).sum = (c.map (·.2)).sum ∧ SplitsOk es d (greedy (fs es' (getD d)) (c.map (·.2)).sum) ∧
    overN c (greedy (fs es' (getD d)) (c.map (·.2)).sum) = sumE es (fun x => posI (getD c x - getD (greedy (fs es' (getD d)) (c.map (·.2)).sum) x)) ∧
    ((greedy (fs es' (getD d)) (c.map (·.2)).sum).map fun q => posI (getD c q.1 - getD (greedy (fs es' (getD d)) (c.map (·.2)).sum) q.1)).sum = sumE es (fun x => posI (getD c x - getD (greedy (fs es' (getD d)) (c.map (·.2)).sum) x)) ∧
    ((greedy (fs es' (getD d)) (c.map (·.2)).sum).map fun q => posI (getD (greedy (fs es' (getD d)) (c.map (·.2)).sum) q.1 - getD c q.1)).sum = sumE es (fun x => posI (getD c x - getD (greedy (fs es' (getD d)) (c.map (·.2)).sum) x)) := by
  have hv' := hv.perm hp
  have hbe := hv'.behind ho
  have d0 : ∀ x, 0 ≤ getD d x := fun x => getD_pos so.pos x
  have fsn := fs_nonneg hbe hv'.nodup d0
  have cp : ∀ q ∈ c, 0 ≤ q.2 := fun q hq => by
    obtain ⟨e, he, z⟩ := List.mem_map.mp (ok.known q hq)
    have := (ok.fits e he).1
    rw [z, getD_mem ok.nd hq] at this
    exact this
  have n0 : 0 ≤ (c.map (·.2)).sum := by
    rw [← sumE_getD hv.nodup ok.nd ok.known]
    exact sumE_nonneg fun e _ => getD_pos cp e.name
  have n1 := splits_le hv hp ho so ok
  have hs := greedy_sum fsn n0 n1
  have bok := balanced_ok hv hp ho so hz n0
  have hkey : ∀ e ∈ es, e.parts ≠ [] → e.name ∈ (greedy (fs es' (getD d)) (c.map (·.2)).sum).map (·.1) := fun e he hpe => by
    rw [greedy_names]
    exact fs_key hbe hv'.nodup (hp.mem_iff.mpr he) hpe
  have hnn := sumE_getD hv.nodup ok.nd ok.known
  generalize (c.map (·.2)).sum = n at *
  generalize greedy (fs es' (getD d)) n = b at *
  have none : ∀ e ∈ es, e.name ∉ b.map (·.1) → getD b e.name = 0 ∧ getD c e.name = 0 := fun e he hn => by
    have hpe : e.parts = [] := Decidable.byContradiction fun z => hn (hkey e he z)
    obtain ⟨f1, f2⟩ := ok.fits e he
    rw [if_pos hpe] at f2
    exact ⟨getD_none hn, by omega⟩
  have pos0 : posI 0 = 0 := rfl
  refine ⟨hs, bok, ?_, ?_, ?_⟩
  · rw [← sum_keys (d := c) hv.nodup ok.nd ok.known]
    · unfold overN
      congr 1
      refine List.map_congr_left fun q hq => ?_
      rw [getD_mem ok.nd hq]
      rfl
    · intro e he hn
      have h1 := (bok.fits e he).1
      rw [getD_none hn]
      unfold posI
      rw [if_neg (by omega)]
  · refine sum_keys hv.nodup bok.nd bok.known (h := fun x => posI (getD c x - getD b x)) fun e he hn => ?_
    obtain ⟨h1, h2⟩ := none e he hn
    show posI _ = 0
    rw [h1, h2]
    rfl
  · rw [sum_keys hv.nodup bok.nd bok.known (h := fun x => posI (getD b x - getD c x)) fun e he hn => by
      obtain ⟨h1, h2⟩ := none e he hn
      show posI _ = 0
      rw [h1, h2]
      rfl]
    have e2 := sumE_getD hv.nodup bok.nd bok.known
    have e3 : sumE es (fun x => posI (getD b x - getD c x)) + sumE es (getD c) = sumE es (fun x => posI (getD c x - getD b x)) + sumE es (getD b) := by
      rw [← sumE_add, ← sumE_add]
      refine sumE_congr fun e _ => ?_
      show posI (getD b e.name - getD c e.name) + getD c e.name = posI (getD c e.name - getD b e.name) + getD b e.name
      unfold posI
      split <;> split <;> omega
    omega
theorem overN_self {b : Num} (h : (b.map (·.1)).Nodup) : overN b b = 0 := by
  have key : ∀ l : Num, (∀ q ∈ l, q ∈ b) → overN l b = 0 := by
    intro l
    induction l with
    | nil => intro _; rfl
    | cons q l ih =>
      intro hl
      have h1 := ih fun z hz => hl z (List.mem_cons_of_mem _ hz)
      unfold overN at h1 ⊢
      rw [List.map_cons, List.sum_cons, h1, getD_mem h (hl q (List.mem_cons_self ..)), if_neg (by omega)]
      rfl
  exact key b fun _ h => h
theorem overN_le {c b : Num} (hc : ∀ q ∈ c, 0 ≤ q.2) (hb : ∀ q ∈ b, 0 ≤ q.2) : 0 ≤ overN c b ∧ overN c b ≤ (c.map (·.2)).sum := by
  unfold overN
  induction c with
  | nil => exact ⟨Int.le_refl _, Int.le_refl _⟩
  | cons q l ih =>
    have h1 := ih fun z hz => hc z (List.mem_cons_of_mem _ hz)
    have h2 := hc q (List.mem_cons_self ..)
    have h3 := getD_pos hb q.1
    rw [List.map_cons, List.sum_cons, List.map_cons, List.sum_cons]
    split <;> omega
end Sk
namespace Sk
open PySem PySem.Spec PyProof.Rows L2
theorem clean_sum (es : List Ent) (d : Num) : ((cleanN es d).map (·.2)).sum = sumE es (getD d) := by
  unfold cleanN
  induction es with
  | nil => rfl
  | cons e es ih =>
    rw [sumE_cons, List.filter_cons]
    by_cases c : getD d e.name ≠ 0
    · rw [if_pos (decide_eq_true c), List.map_cons, List.map_cons, List.sum_cons, ih]
    · rw [if_neg (by rw [decide_eq_true_eq]; exact c), ih]
      have := Decidable.not_not.mp c
      omega
end Sk
namespace Sk
open PySem PySem.Spec PyProof.Rows L2
/-- a catalogue, in order, and a stock -/
structure Sit (es es' : List Ent) (d : Num) : Prop where
  hv : Valid es
  hp : es'.Perm es
  ho : Ordered es'
  so : StockOk es d
  hz : es.length < 64
def totI (es' : List Ent) (d : Num) : Int := ((fs es' (getD d)).map (·.2)).sum
abbrev fullN (es' : List Ent) (d : Num) : Nat → Int := cN es' (getD (fs es' (getD d)))
abbrev balN (es' : List Ent) (d : Num) (n : Int) : Nat → Int := cN es' (getD (greedy (fs es' (getD d)) n))
section
variable {es es' : List Ent} {d c : Num}
theorem Sit.v' (s : Sit es es' d) : Valid es' := s.hv.perm s.hp
theorem Sit.beh (s : Sit es es' d) : Behind es' := s.v'.behind s.ho
theorem Sit.d0 (s : Sit es es' d) : ∀ x, 0 ≤ getD d x := fun x => getD_pos s.so.pos x
theorem Sit.fsn (s : Sit es es' d) : ∀ q ∈ fs es' (getD d), 0 ≤ q.2 := fs_nonneg s.beh s.v'.nodup s.d0
theorem Sit.tot (s : Sit es es' d) : sumN (fullN es' d) es'.length = totI es' d := by
  rw [sumN_cN, full_sum s.beh s.v'.nodup]
  rfl
theorem SplitsOk.pos {c : Num} (ok : SplitsOk es d c) : ∀ q ∈ c, 0 ≤ q.2 := fun q hq => by
  obtain ⟨e, he, z⟩ := List.mem_map.mp (ok.known q hq)
  have := (ok.fits e he).1
  rw [z, getD_mem ok.nd hq] at this
  exact this
theorem Sit.sum (s : Sit es es' d) (ok : SplitsOk es d c) : sumN (cN es' (getD c)) es'.length = (c.map (·.2)).sum := by
  rw [sumN_cN, sumE_perm s.hp, sumE_getD s.hv.nodup ok.nd ok.known]
theorem Sit.vec (s : Sit es es' d) (ok : SplitsOk es d c) : Vec es'.length (fullN es' d) (cN es' (getD c)) := ok.vec s.hv s.hp s.ho
theorem Sit.range (s : Sit es es' d) (ok : SplitsOk es d c) : 0 ≤ (c.map (·.2)).sum ∧ (c.map (·.2)).sum ≤ totI es' d := by
  rw [← s.sum ok, ← s.tot]
  exact ⟨sumN_nonneg fun i hi => (s.vec ok i hi).1, sumN_le fun i hi => (s.vec ok i hi).2⟩
theorem Sit.bal (s : Sit es es' d) {n : Int} (h0 : 0 ≤ n) (h1 : n ≤ totI es' d) : Vec es'.length (fullN es' d) (balN es' d n) ∧ Bal es'.length (fullN es' d) (balN es' d n) ∧ sumN (balN es' d n) es'.length = n := by
  have ok := balanced_ok s.hv s.hp s.ho s.so s.hz h0
  refine ⟨s.vec ok, greedy_bal s.beh s.v'.nodup s.d0 h0, ?_⟩
  rw [s.sum ok]
  exact greedy_sum s.fsn h0 h1
theorem Sit.over (s : Sit es es' d) (ok : SplitsOk es d c) : overN c (greedy (fs es' (getD d)) (c.map (·.2)).sum) = offN es'.length (cN es' (getD c)) (balN es' d (c.map (·.2)).sum) := by
  obtain ⟨_, _, o3, _, _⟩ := over_all s.hv s.hp s.ho s.so ok s.hz
  rw [o3, ← sumE_perm s.hp, ← sumN_cN]
  refine sumN_congr fun i hi => ?_
  have hie : es'[i]? = some es'[i] := List.getElem?_eq_getElem hi
  show _ = posZ (cN es' (getD c) i - cN es' (getD (greedy (fs es' (getD d)) (c.map (·.2)).sum)) i)
  rw [cN_at hie, cN_at hie, cN_at hie]
  rfl
theorem filter_same {p q : Ent → Bool} : ∀ {l : List Ent}, (∀ e ∈ l, p e = true → q e = true) → (l.filter p).length = (l.filter q).length → ∀ e ∈ l, p e = q e
  | [], _, _, _, h => by cases h
  | a :: l, hpq, hl, e, he => by
    have h1 : (l.filter p).length ≤ (l.filter q).length := by
      have hh : ∀ e ∈ l, p e = true → q e = true := fun e he => hpq e (List.mem_cons_of_mem _ he)
      clear hl he hpq
      induction l with
      | nil => exact Nat.le_refl _
      | cons b l ih =>
        have i1 := ih fun e he => hh e (List.mem_cons_of_mem _ he)
        have i2 := hh b (List.mem_cons_self ..)
        rw [List.filter_cons, List.filter_cons]
        cases hp : p b <;> cases hq : q b
        · exact i1
        · show _ ≤ (b :: l.filter q).length
          rw [List.length_cons]
          exact Nat.le_succ_of_le i1
        · rw [hq] at i2
          cases i2 hp
        · show (b :: l.filter p).length ≤ (b :: l.filter q).length
          rw [List.length_cons, List.length_cons]
          omega
    have i2 := hpq a (List.mem_cons_self ..)
    rw [List.filter_cons, List.filter_cons] at hl
    have key : p a = q a ∧ (l.filter p).length = (l.filter q).length := by
      cases hp : p a <;> cases hq : q a
      · rw [hp, hq] at hl
        exact ⟨rfl, hl⟩
      · rw [hp, hq] at hl
        rw [if_neg Bool.false_ne_true, if_pos rfl, List.length_cons] at hl
        omega
      · rw [hq] at i2
        cases i2 hp
      · rw [hp, hq] at hl
        rw [if_pos rfl, if_pos rfl, List.length_cons, List.length_cons] at hl
        exact ⟨rfl, by omega⟩
    rcases List.mem_cons.mp he with rfl | he
    · exact key.1
    · exact filter_same (fun e he => hpq e (List.mem_cons_of_mem _ he)) key.2 e he
theorem clean_get {es : List Ent} (nd : (es.map (·.name)).Nodup) (c : Num) {e : Ent} (he : e ∈ es) : get? (cleanN es c) e.name = if getD c e.name ≠ 0 then some (getD c e.name) else none := by
  by_cases h : getD c e.name ≠ 0
  · rw [if_pos h]
    exact get?_ndm (q := (e.name, getD c e.name)) (clean_nodup nd) (by
      unfold cleanN
      exact List.mem_map.mpr ⟨e, List.mem_filter.mpr ⟨he, decide_eq_true h⟩, rfl⟩)
  · rw [if_neg h]
    refine get?_none fun hm => ?_
    unfold cleanN at hm
    rw [List.map_map] at hm
    obtain ⟨x, hx, q⟩ := List.mem_map.mp hm
    obtain ⟨x1, x2⟩ := List.mem_filter.mp hx
    obtain rfl := same_name nd x1 he q
    exact h (of_decide_eq_true x2)
/-- cleaned numbers compared -/
theorem clean_eq {es : List Ent} (nd : (es.map (·.name)).Nodup) (c b : Num) : eqNum (cleanN es c) (cleanN es b) = true ↔ ∀ i, i < es.length → cN es (getD c) i = cN es (getD b) i := by
  constructor
  · intro h
    unfold eqNum subNum at h
    rw [Bool.and_eq_true, List.all_eq_true] at h
    obtain ⟨h1, h2⟩ := h
    have h1 := eq_of_beq h1
    have hit : ∀ e ∈ es, getD c e.name ≠ 0 → getD b e.name = getD c e.name := fun e he h0 => by
      have h3 := of_decide_eq_true (h2 (e.name, getD c e.name) (by
        unfold cleanN
        exact List.mem_map.mpr ⟨e, List.mem_filter.mpr ⟨he, decide_eq_true h0⟩, rfl⟩))
      dsimp only at h3
      rw [clean_get nd b he] at h3
      split at h3
      · exact Option.some.inj h3
      · cases h3
    have same := filter_same (p := fun e => decide (getD c e.name ≠ 0)) (q := fun e => decide (getD b e.name ≠ 0)) (l := es) (fun e he h => by
      have h0 := of_decide_eq_true h
      have := hit e he h0
      exact decide_eq_true (by rw [this]; exact h0)) (by
      unfold cleanN at h1
      rw [List.length_map, List.length_map] at h1
      exact h1)
    intro i hi
    have hie : es[i]? = some es[i] := List.getElem?_eq_getElem hi
    rw [cN_at hie, cN_at hie]
    have hm : es[i] ∈ es := List.getElem_mem _
    by_cases h0 : getD c es[i].name = 0
    · have := same es[i] hm
      have h4 : ¬ getD b es[i].name ≠ 0 := fun z => by
        have h5 : decide (getD c es[i].name ≠ 0) = true := by rw [this]; exact decide_eq_true z
        exact of_decide_eq_true h5 h0
      rw [h0, Decidable.not_not.mp h4]
    · exact (hit es[i] hm h0).symm
  · intro h
    have hh : ∀ e ∈ es, getD c e.name = getD b e.name := fun e he => by
      obtain ⟨i, hi⟩ := List.mem_iff_getElem?.mp he
      have := h i (List.getElem?_eq_some_iff.mp hi).1
      rw [cN_at hi, cN_at hi] at this
      exact this
    have e : cleanN es c = cleanN es b := by
      unfold cleanN
      rw [List.filter_congr fun e he => by rw [hh e he]]
      refine List.map_congr_left fun e he => ?_
      rw [hh e (List.mem_filter.mp he).1]
    rw [e]
    exact eqNum_refl (clean_nodup nd)
/-- there is a kind to split -/
theorem Sit.split_ex (s : Sit es es' d) (ok : SplitsOk es d c) (h : (c.map (·.2)).sum < totI es' d) : ∃ e, es'.find? (splitB es' (getD d) (getD c)) = some e := by
  obtain ⟨i, g⟩ := gap_ex (s.vec ok) (by rw [s.sum ok, s.tot]; exact h)
  have hlt := g.lt
  have hie : es'[i]? = some es'[i] := List.getElem?_eq_getElem hlt
  rw [find_gap s.beh s.v'.nodup (ok.fit s.hp)]
  exact ⟨_, gap_find hie g⟩
theorem Sit.split (s : Sit es es' d) (ok : SplitsOk es d c) {e : Ent} (h : es'.find? (splitB es' (getD d) (getD c)) = some e) : ∃ i, Gap es'.length (fullN es' d) (cN es' (getD c)) i ∧ cN es' (getD (put c e.name (getD c e.name + 1))) = addN (cN es' (getD c)) i ∧ SplitsOk es d (put c e.name (getD c e.name + 1)) := by
  have hm := List.mem_of_find?_eq_some h
  have hw := List.find?_some h
  rw [find_gap s.beh s.v'.nodup (ok.fit s.hp)] at h
  obtain ⟨i, hi, g⟩ := gap_name (fun e he => fits_le s.beh s.v'.nodup (fun _ => Int.le_refl _) (ok.fit s.hp) e he) h
  refine ⟨i, g, ?_, ?_⟩
  · rw [getD_up, cN_up s.v'.nodup hi]
  · unfold splitB at hw
    rw [Bool.and_eq_true] at hw
    refine ok.up s.hv s.hz (s.hp.mem_iff.mp hm) (of_decide_eq_true hw.1) ?_
    have h1 := of_decide_eq_true hw.2
    unfold wholeF at h1
    rw [← pn_perm s.hp, pn_at]
    omega
theorem Sit.undo_ex (s : Sit es es' d) (ok : SplitsOk es d c) (h : 0 < (c.map (·.2)).sum) : ∃ e ∈ es, 0 < getD c e.name := by
  obtain ⟨j, l⟩ := lastN_ex (s.vec ok) (by rw [s.sum ok]; exact h)
  have hlt := l.lt
  have hje : es'[j]? = some es'[j] := List.getElem?_eq_getElem hlt
  have := l.pos
  rw [cN_at hje] at this
  exact ⟨_, s.hp.mem_iff.mp (List.mem_of_getElem? hje), this⟩
theorem Sit.undo (s : Sit es es' d) (ok : SplitsOk es d c) {e : Ent} (h : lastF es' (getD c) = some e) : ∃ j, Last es'.length (cN es' (getD c)) j ∧ cN es' (getD (put c e.name (getD c e.name - 1))) = subN (cN es' (getD c)) j ∧ SplitsOk es d (put c e.name (getD c e.name - 1)) := by
  obtain ⟨j, hj, l⟩ := last_name (fun e he => (ok.fits e (s.hp.mem_iff.mp he)).1) h
  exact ⟨j, l, by rw [getD_dn, cN_dn s.v'.nodup hj], ok.down s.hv s.hz s.hp s.ho s.so hj l⟩
/-- no step: balanced -/
theorem Sit.off_end (s : Sit es es' d) (ok : SplitsOk es d c) (h : (c.map (·.2)).sum = 0 ∨ (c.map (·.2)).sum = totI es' d) : offN es'.length (cN es' (getD c)) (balN es' d (c.map (·.2)).sum) = 0 := by
  obtain ⟨r0, r1⟩ := s.range ok
  obtain ⟨b1, b2, b3⟩ := s.bal r0 r1
  have v := s.vec ok
  have e := s.sum ok
  refine (off_zero (by rw [e, b3])).mpr (bal_uniq v b1 ?_ b2 (by rw [e, b3]))
  rcases h with h | h
  · intro i k h1 h2 _
    refine Decidable.byContradiction fun z => ?_
    have h3 : sumN (fun _ => 0) es'.length < sumN (cN es' (getD c)) es'.length := sumN_lt (k := k) (fun t ht => (v t ht).1) h2 (by have := (v k h2).1; show (0 : Int) < _; omega)
    have h4 := sumN_nonneg (c := fun _ => 0) (n := es'.length) fun _ _ => Int.le_refl _
    omega
  · intro i k h1 h2 h3
    exfalso
    have := sumN_lt (k := i) (fun t ht => (v t ht).2) (by omega) h3
    rw [s.tot] at this
    omega
/-- one more of the balanced ones -/
theorem Sit.bal_succ (s : Sit es es' d) {n : Int} (h0 : 0 ≤ n) (h1 : n < totI es' d) : ∃ k, Gap es'.length (fullN es' d) (balN es' d n) k ∧ ∀ i, i < es'.length → balN es' d (n + 1) i = addN (balN es' d n) k i := by
  obtain ⟨b1, b2, b3⟩ := s.bal h0 (by omega)
  obtain ⟨a1, a2, a3⟩ := s.bal (n := n + 1) (by omega) (by omega)
  obtain ⟨k, g⟩ := gap_ex b1 (by rw [b3, s.tot]; exact h1)
  exact ⟨k, g, bal_uniq a1 (b1.add g) a2 (b2.add b1 g) (by rw [a3, sum_addN g.lt, b3])⟩
theorem off_congr {n : Nat} {c c' B B' : Nat → Int} (h : ∀ i, i < n → c i = c' i) (h' : ∀ i, i < n → B i = B' i) : offN n c B = offN n c' B' := sumN_congr fun i hi => by
  show posZ _ = posZ _
  rw [h i hi, h' i hi]
end
end Sk
namespace Sk
open PySem PySem.Spec PyProof.Rows L2
/-- c' is c with some more, the first ones first -/
structure Fill (n : Nat) (F c c' : Nat → Int) : Prop where
  vec : Vec n F c'
  le : ∀ i, i < n → c i ≤ c' i
  full : ∀ i k, i < k → k < n → c k < c' k → c' i = F i
/-- c' is c with some less, the last ones first -/
structure Drain (n : Nat) (c c' : Nat → Int) : Prop where
  pos : ∀ i, i < n → 0 ≤ c' i
  le : ∀ i, i < n → c' i ≤ c i
  zero : ∀ i k, i < k → k < n → c' i < c i → c' k = 0
section
variable {n : Nat} {F c c' c'' : Nat → Int} {i j : Nat}
theorem Fill.uniq (a : Fill n F c c') (b : Fill n F c c'') (s : sumN c' n = sumN c'' n) : ∀ k, k < n → c' k = c'' k := by
  refine fun k hk => Decidable.byContradiction fun z => ?_
  obtain ⟨m, hm, hne, hf⟩ := first_ex (P := fun k => c' k ≠ c'' k) n ⟨k, hk, z⟩
  have eq : ∀ k, k < m → c' k = c'' k := fun k hk => Decidable.not_not.mp (hf k hk)
  rcases Int.lt_or_gt_of_ne hne with q | q
  · have : sumN c' n < sumN c'' n := sumN_lt (k := m) (fun t ht => by
      rcases Nat.lt_trichotomy t m with y | y | y
      · rw [eq t y]
        exact Int.le_refl _
      · rw [y]
        omega
      · by_cases w : c t < c' t
        · have h1 := a.full m t y ht w
          have h2 := (b.vec m hm).2
          omega
        · have h1 := a.le t ht
          have h2 := b.le t ht
          omega) hm q
    omega
  · have : sumN c'' n < sumN c' n := sumN_lt (k := m) (fun t ht => by
      rcases Nat.lt_trichotomy t m with y | y | y
      · rw [eq t y]
        exact Int.le_refl _
      · rw [y]
        omega
      · by_cases w : c t < c'' t
        · have h1 := b.full m t y ht w
          have h2 := (a.vec m hm).2
          omega
        · have h1 := a.le t ht
          have h2 := b.le t ht
          omega) hm q
    omega
theorem Drain.uniq (a : Drain n c c') (b : Drain n c c'') (s : sumN c' n = sumN c'' n) : ∀ k, k < n → c' k = c'' k := by
  refine fun k hk => Decidable.byContradiction fun z => ?_
  obtain ⟨m, hm, hne, hf⟩ := last_ex (P := fun k => c' k ≠ c'' k) n ⟨k, hk, z⟩
  have eq : ∀ k, m < k → k < n → c' k = c'' k := fun k hk hn => Decidable.not_not.mp (hf k hk hn)
  rcases Int.lt_or_gt_of_ne hne with q | q
  · have : sumN c' n < sumN c'' n := sumN_lt (k := m) (fun t ht => by
      rcases Nat.lt_trichotomy t m with y | y | y
      · by_cases w : c'' t < c t
        · have h1 := b.zero t m y hm w
          have h2 := a.pos m hm
          omega
        · have h1 := a.le t ht
          have h2 := b.le t ht
          omega
      · rw [y]
        omega
      · rw [eq t y ht]
        exact Int.le_refl _) hm q
    omega
  · have : sumN c'' n < sumN c' n := sumN_lt (k := m) (fun t ht => by
      rcases Nat.lt_trichotomy t m with y | y | y
      · by_cases w : c' t < c t
        · have h1 := a.zero t m y hm w
          have h2 := b.pos m hm
          omega
        · have h1 := a.le t ht
          have h2 := b.le t ht
          omega
      · rw [y]
        omega
      · rw [eq t y ht]
        exact Int.le_refl _) hm q
    omega
theorem Fill.refl (v : Vec n F c) : Fill n F c c := ⟨v, fun _ _ => Int.le_refl _, fun _ _ _ _ h => absurd h (Int.lt_irrefl _)⟩
theorem Drain.refl (v : Vec n F c) : Drain n c c := ⟨fun i hi => (v i hi).1, fun _ _ => Int.le_refl _, fun _ _ _ _ h => absurd h (Int.lt_irrefl _)⟩
/-- one step more -/
theorem Fill.step (a : Fill n F c c') (g : Gap n F c' i) : Fill n F c (addN c' i) := by
  refine ⟨a.vec.add g, fun k hk => ?_, fun m k h1 h2 h3 => ?_⟩
  · have := a.le k hk
    rw [addN_at]
    split <;> omega
  · have gl := g.le
    rw [addN_at] at h3 ⊢
    by_cases q : k = i
    · subst q
      rw [if_neg (by omega)]
      have := g.full m h1
      omega
    · rw [if_neg q] at h3
      have h4 := a.full m k h1 h2 (by omega)
      rw [if_neg]
      · omega
      · intro z
        rw [z] at h4
        omega
theorem Drain.step (a : Drain n c c') (l : Last n c' j) : Drain n c (subN c' j) := by
  have lp := l.pos
  refine ⟨fun k hk => ?_, fun k hk => ?_, fun m k h1 h2 h3 => ?_⟩
  · have := a.pos k hk
    rw [subN_at]
    split
    · rename_i e
      subst e
      omega
    · omega
  · have := a.le k hk
    rw [subN_at]
    split <;> omega
  · rw [subN_at] at h3 ⊢
    by_cases q : m = j
    · subst q
      rw [if_neg (by omega)]
      have := l.zero k h1 h2
      omega
    · rw [if_neg q] at h3
      have h4 := a.zero m k h1 h2 (by omega)
      rw [if_neg]
      · omega
      · intro z
        rw [z] at h4
        omega
theorem Fill.one (v : Vec n F c) (g : Gap n F c i) : Fill n F c (addN c i) := (Fill.refl v).step g
theorem Drain.one (v : Vec n F c) (l : Last n c j) : Drain n c (subN c j) := (Drain.refl v).step l
/-- one after the other -/
theorem Fill.trans (a : Fill n F c c') (b : Fill n F c' c'') : Fill n F c c'' := by
  refine ⟨b.vec, fun k hk => Int.le_trans (a.le k hk) (b.le k hk), fun m k h1 h2 h3 => ?_⟩
  by_cases q : c' k < c'' k
  · exact b.full m k h1 h2 q
  · have := b.le k h2
    have h4 := a.full m k h1 h2 (by omega)
    have h5 := b.le m (by omega)
    have h6 := (b.vec m (by omega)).2
    omega
theorem Drain.trans (a : Drain n c c') (b : Drain n c' c'') : Drain n c c'' := by
  refine ⟨b.pos, fun k hk => Int.le_trans (b.le k hk) (a.le k hk), fun m k h1 h2 h3 => ?_⟩
  by_cases q : c'' m < c' m
  · exact b.zero m k h1 h2 q
  · have := b.le m (by omega)
    have h4 := a.zero m k h1 h2 (by omega)
    have h5 := b.le k h2
    have h6 := b.pos k h2
    omega
end
end Sk
namespace Sk
open PySem PySem.Spec PyProof.Rows L2
/-- a store: entries in order, stock, splits -/
structure StAt (K : PySem.W.Frag) (H : Hp) (s dx a b e : Addr) (ys : List V) (es : List Ent) (d c : Num) : Prop where
  obj : H s = some (.ins (stC K) dx (stF a b e))
  en : H a = some (.lst ys)
  cat : CatAt H ys es
  st : H b = some (.dK (dS d))
  sp : H e = some (.dK (dS c))
theorem StAt.gr {Tb : List (Addr × Str)} {K : PySem.W.Frag} {H H' : Hp} {s dx a b e : Addr} {ys : List V} {es : List Ent} {d c : Num} (h : StAt K H s dx a b e ys es d c) (g : Gr Tb H H') : StAt K H' s dx a b e ys es d c := ⟨g.at h.obj .ins, g.at h.en .lst, CatAt.gr g h.cat, g.at h.st .dK, g.at h.sp .dK⟩
/-- what a store holds -/
structure StOk (es : List Ent) (d c : Num) : Prop where
  sit : Sit es es d
  ok : SplitsOk es d c
  nz : ∀ q ∈ c, q.2 ≠ 0
def optN : Option Str → V
  | none => .non
  | some x => .str x
/-- the entries with their parts in order -/
def SameC (es es2 : List Ent) : Prop := Paired (fun e e2 : Ent => e2.name = e.name ∧ e2.w = e.w ∧ e2.parts.Perm e.parts ∧ PyProof.Rows.sortedS e2.parts = true) es es2
end Sk
namespace Sk
open PySem PySem.Spec PyProof.Rows L2
theorem amt_permS {l l' : Num} (p : l'.Perm l) (x : Str) : amt l' x = amt l x := by
  unfold amt
  induction p with
  | nil => rfl
  | cons y _ ih => rw [List.map_cons, List.map_cons, List.sum_cons, List.sum_cons, ih]
  | swap y z _ =>
    rw [List.map_cons, List.map_cons, List.map_cons, List.map_cons, List.sum_cons, List.sum_cons, List.sum_cons, List.sum_cons]
    omega
  | trans _ _ i1 i2 => rw [i1, i2]
section
variable {es es2 : List Ent}
theorem SameC.names (s : SameC es es2) : es2.map (·.name) = es.map (·.name) := by
  induction s with
  | nil => rfl
  | cons h _ ih => rw [List.map_cons, List.map_cons, ih, h.1]
theorem SameC.keys (s : SameC es es2) : es2.map Ent.key = es.map Ent.key := by
  induction s with
  | nil => rfl
  | cons h _ ih =>
    rw [List.map_cons, List.map_cons, ih]
    unfold Ent.key
    rw [h.1, h.2.1]
theorem SameC.len (s : SameC es es2) : es2.length = es.length := (Paired.len s).symm
theorem same_addAll {l l' : List Str} (p : l'.Perm l) (f : Str → Int) (c : Int) : addAll f (l'.map fun p => (p, c)) = addAll f (l.map fun p => (p, c)) := by
  funext x
  rw [addAll_at, addAll_at, amt_permS (p.map _)]
theorem SameC.fs (s : SameC es es2) : ∀ f, fs es2 f = Sk.fs es f := by
  induction s with
  | nil => exact fun _ => rfl
  | @cons a b as bs h _ ih =>
    intro f
    obtain ⟨h1, h2, h3, h4⟩ := h
    rw [fs_cons, fs_cons, ih, h1, same_addAll h3]
    by_cases q : a.parts = []
    · rw [if_pos q, if_pos (by rw [q] at h3; exact List.perm_nil.mp h3)]
    · rw [if_neg q, if_neg fun z => q (by rw [z] at h3; exact List.nil_perm.mp h3)]
theorem SameC.incs (s : SameC es es2) (f : Str → Int) (x : Str) : amt (incs es2 f) x = amt (Sk.incs es f) x := by
  induction s with
  | nil => rfl
  | cons h _ ih =>
    rw [incs_cons, incs_cons, amt_append, amt_append, ih, h.1, amt_permS (h.2.2.1.map _)]
theorem SameC.cN (s : SameC es es2) (f : Str → Int) : cN es2 f = Sk.cN es f := by
  funext i
  unfold Sk.cN
  have h : (es2.map (·.name))[i]? = (es.map (·.name))[i]? := by rw [s.names]
  rw [List.getElem?_map, List.getElem?_map] at h
  cases h1 : es2[i]? with
  | none =>
    cases h2 : es[i]? with
    | none => rfl
    | some e => rw [h1, h2] at h; cases h
  | some e2 =>
    cases h2 : es[i]? with
    | none => rw [h1, h2] at h; cases h
    | some e =>
      rw [h1, h2] at h
      have : e2.name = e.name := Option.some.inj h
      show f e2.name = f e.name
      rw [this]
theorem SameC.whole (s : SameC es es2) (f b : Str → Int) : wholeF es2 f b = wholeF es f b := by
  funext x
  unfold wholeF
  rw [s.incs]
theorem SameC.clean (s : SameC es es2) {a b : Num} (h : ∀ e ∈ es, getD a e.name = getD b e.name) : cleanN es2 a = cleanN es b := by
  unfold cleanN
  induction s with
  | nil => rfl
  | @cons x y xs ys hx _ ih =>
    have h1 := h x (List.mem_cons_self ..)
    rw [List.filter_cons, List.filter_cons, hx.1, h1]
    have ih' := ih fun e he => h e (List.mem_cons_of_mem _ he)
    split
    · rw [List.map_cons, List.map_cons, ih', hx.1, h1]
    · exact ih'
theorem SameC.find (s : SameC es es2) {p p2 : Ent → Bool} (h : ∀ e e2 : Ent, e2.name = e.name ∧ e2.w = e.w ∧ e2.parts.Perm e.parts ∧ PyProof.Rows.sortedS e2.parts = true → p2 e2 = p e) : (es2.find? p2).map (·.name) = (es.find? p).map (·.name) := by
  induction s with
  | nil => rfl
  | @cons x y xs ys hx _ ih =>
    rw [List.find?_cons, List.find?_cons, h x y hx]
    cases p x with
    | true =>
      show some y.name = some x.name
      rw [hx.1]
    | false => exact ih
theorem SameC.filter (s : SameC es es2) {p p2 : Ent → Bool} (h : ∀ e e2 : Ent, e2.name = e.name ∧ e2.w = e.w ∧ e2.parts.Perm e.parts ∧ PyProof.Rows.sortedS e2.parts = true → p2 e2 = p e) : (es2.filter p2).map (·.name) = (es.filter p).map (·.name) := by
  induction s with
  | nil => rfl
  | @cons x y xs ys hx _ ih =>
    rw [List.filter_cons, List.filter_cons, h x y hx]
    cases p x with
    | true =>
      rw [if_pos rfl, if_pos rfl, List.map_cons, List.map_cons, ih, hx.1]
    | false =>
      rw [if_neg Bool.false_ne_true, if_neg Bool.false_ne_true]
      exact ih
theorem SameC.nil_iff {e e2 : Ent} (h : e2.parts.Perm e.parts) : decide (e2.parts ≠ []) = decide (e.parts ≠ []) := by
  by_cases q : e.parts = []
  · rw [q] at h
    rw [List.perm_nil.mp h, q]
  · rw [decide_eq_true (show e.parts ≠ [] from q), decide_eq_true]
    intro z
    rw [z] at h
    exact q (List.nil_perm.mp h)
theorem SameC.next (s : SameC es es2) (f b : Str → Int) : (es2.find? (splitB es2 f b)).map (·.name) = (es.find? (splitB es f b)).map (·.name) := s.find fun e e2 h => by
  unfold splitB
  rw [SameC.nil_iff h.2.2.1, s.whole, h.1]
theorem SameC.last (s : SameC es es2) (c : Str → Int) : (lastF es2 c).map (·.name) = (lastF es c).map (·.name) := by
  have h := s.filter (p := fun e => decide (0 < c e.name)) (p2 := fun e => decide (0 < c e.name)) fun e e2 h => by rw [h.1]
  unfold lastF
  rw [← List.getLast?_map, ← List.getLast?_map, h]
theorem SameC.valid (s : SameC es es2) (v : Valid es) : Valid es2 := by
  refine ⟨fun z => ?_, fun e he => ?_, ?_, fun e he => ?_, fun e he p hp => ?_, ?_, fun e he => ?_⟩
  · rw [z] at s
    cases s
    exact v.ne rfl
  · obtain ⟨x, hx, h⟩ := Paired.right s he
    rw [h.1]
    exact v.names x hx
  · rw [s.names]
    exact v.nodup
  · obtain ⟨x, hx, h⟩ := Paired.right s he
    rw [h.2.1]
    exact v.pos x hx
  · obtain ⟨x, hx, h⟩ := Paired.right s he
    obtain ⟨x', hx', h1, h2⟩ := v.lighter x hx p (h.2.2.1.mem_iff.mp hp)
    obtain ⟨y, hy, k⟩ := Paired.left s hx'
    exact ⟨y, hy, by rw [k.1, h1], by rw [k.2.1, h.2.1]; exact h2⟩
  · rw [s.len]
    exact v.few
  · obtain ⟨x, hx, h⟩ := Paired.right s he
    rw [h.2.2.1.length_eq]
    exact v.fewp x hx
theorem ordered_keys {a b : List Ent} (h : a.map Ent.key = b.map Ent.key) (o : Ordered b) : Ordered a := by
  have h1 : ∀ l : List Ent, Ordered l ↔ (l.map Ent.key).Pairwise fun x y => kLt y x = false := fun l => by
    unfold Ordered
    rw [List.pairwise_map]
  rw [h1, h, ← h1]
  exact o
theorem SameC.ordered (s : SameC es es2) (o : Ordered es) : Ordered es2 := ordered_keys s.keys o
end
/-- what clean leaves -/
theorem getD_clean {es : List Ent} (nd : (es.map (·.name)).Nodup) (c : Num) {e : Ent} (he : e ∈ es) : getD (cleanN es c) e.name = getD c e.name := by
  have h := clean_get nd c he
  by_cases z : getD c e.name ≠ 0
  · rw [if_pos z] at h
    show (get? (cleanN es c) e.name).getD 0 = _
    rw [h]
    rfl
  · rw [if_neg z] at h
    show (get? (cleanN es c) e.name).getD 0 = _
    rw [h]
    exact (Decidable.not_not.mp z).symm
theorem getD_cleanF {es : List Ent} (nd : (es.map (·.name)).Nodup) {c : Num} (hk : ∀ q ∈ c, q.1 ∈ es.map (·.name)) : getD (cleanN es c) = getD c := by
  funext x
  by_cases hx : x ∈ es.map (·.name)
  · obtain ⟨e, he, rfl⟩ := List.mem_map.mp hx
    exact getD_clean nd c he
  · rw [getD_none fun z => ?_, getD_none fun z => ?_]
    · obtain ⟨q, hq, rfl⟩ := List.mem_map.mp z
      exact hx (hk q hq)
    · obtain ⟨q, hq, rfl⟩ := List.mem_map.mp z
      unfold cleanN at hq
      obtain ⟨e, he, rfl⟩ := List.mem_map.mp hq
      exact hx (List.mem_map.mpr ⟨e, (List.mem_filter.mp he).1, rfl⟩)
theorem clean_known (es : List Ent) (c : Num) : ∀ q ∈ cleanN es c, q.1 ∈ es.map (·.name) := fun q hq => by
  unfold cleanN at hq
  obtain ⟨e, he, rfl⟩ := List.mem_map.mp hq
  exact List.mem_map.mpr ⟨e, (List.mem_filter.mp he).1, rfl⟩
theorem clean_nz (es : List Ent) (c : Num) : ∀ q ∈ cleanN es c, q.2 ≠ 0 := fun q hq => by
  unfold cleanN at hq
  obtain ⟨e, he, rfl⟩ := List.mem_map.mp hq
  exact of_decide_eq_true (List.mem_filter.mp he).2
theorem clean_len (es : List Ent) (c : Num) : (cleanN es c).length ≤ es.length := by
  unfold cleanN
  rw [List.length_map]
  exact List.length_filter_le _ _
/-- a stock and splits, cleaned -/
theorem StockOk.clean {es es2 : List Ent} {d : Num} (v : Valid es2) (hz : es2.length < 64) (h : ∀ q ∈ d, 0 ≤ q.2) : StockOk es2 (cleanN es2 d) := by
  have := clean_len es2 d
  refine ⟨clean_nodup v.nodup, by omega, clean_known es2 d, fun q hq => ?_⟩
  obtain ⟨e, he, hn⟩ := List.mem_map.mp (clean_known es2 d q hq)
  have h1 := getD_mem (clean_nodup v.nodup) hq
  rw [← hn, getD_clean v.nodup d he] at h1
  rw [← h1]
  exact getD_pos h _
theorem StOk.make {es es' es2 : List Ent} {d sp : Num} (hv : Valid es) (hz : es.length < 64) (so : StockOk es d) (ok : SplitsOk es d sp) (hp : es'.Perm es) (ho : Ordered es') (s : SameC es' es2) : StOk es2 (cleanN es2 d) (cleanN es2 sp) := by
  have v2 := s.valid (hv.perm hp)
  have nm : ∀ x, x ∈ es.map (·.name) → x ∈ es2.map (·.name) := fun x hx => by
    rw [s.names]
    exact (hp.map _).mem_iff.mpr hx
  have hz2 : es2.length < 64 := by rw [s.len, hp.length_eq]; exact hz
  have hl := clean_len es2 sp
  have ed : getD (cleanN es2 d) = getD d := getD_cleanF v2.nodup fun q hq => nm _ (so.known q hq)
  have es_ : getD (cleanN es2 sp) = getD sp := getD_cleanF v2.nodup fun q hq => nm _ (ok.known q hq)
  refine ⟨⟨v2, List.Perm.refl _, s.ordered ho, StockOk.clean (es := es2) v2 hz2 so.pos, hz2⟩, ⟨clean_nodup v2.nodup, by omega, clean_known es2 sp, fun e2 he2 => ?_⟩, clean_nz es2 sp⟩
  obtain ⟨e, he, h1, h2, h3, h4⟩ := Paired.right s he2
  have f := ok.fits e (hp.mem_iff.mp he)
  rw [pn_at, es_, ed, h1, s.incs]
  rw [← pn_perm hp, pn_at] at f
  by_cases q : e.parts = []
  · rw [if_pos q] at f
    rw [if_pos (by rw [q] at h3; exact List.perm_nil.mp h3)]
    exact f
  · rw [if_neg q] at f
    rw [if_neg fun z => q (by rw [z] at h3; exact List.nil_perm.mp h3)]
    exact f
end Sk
namespace Sk
open PySem PySem.Spec PyProof.Rows L2
theorem Valid.partB {es : List Ent} (v : Valid es) {e : Ent} (he : e ∈ es) {q : Str} (hq : q ∈ e.parts) : nameB q = true := by
  obtain ⟨e', h1, rfl, _⟩ := v.lighter e he q hq
  exact v.names e' h1
theorem MadeC.shw {es : List Ent} (m : MadeC es) : ∀ e ∈ es, ShwE e := fun e he =>
  ⟨nameB_shwS (m.v.names e he), by have h1 := m.wt e he; have h2 := m.v.pos e he; have : e.w.natAbs < 10 ^ 13 := by omega
                                   exact Nat.lt_trans this (by decide), Nat.le_trans (m.fewp e he) (by decide), fun q hq => nameB_shwS (m.v.partB he hq)⟩
def ShwD (d : PyData) : Prop := d.showable = true ∧ d.shown.length ≤ 4000000 ∧ d.depth ≤ 50
theorem shw_catC {es : List Ent} (m : MadeC es) : ShwD (catD es) := by
  have b4 := show_cat_len m.shw
  have := m.few
  exact ⟨(show_cat m.shw (by omega)).1, by omega, Nat.le_trans (depth_cat es) (by decide)⟩
theorem shw_numC {es : List Ent} (v : Valid es) {d : Num} (few : d.length < 64) (hk : ∀ q ∈ d, q.1 ∈ es.map (·.name)) (h0 : ∀ q ∈ d, 0 ≤ q.2 ∧ q.2 < 2 ^ 190) : ShwD (numD d) := by
  obtain ⟨b1, b2, b3⟩ := show_num (n := d) fun q hq => by
    obtain ⟨e, he, z⟩ := List.mem_map.mp (hk q hq)
    have h1 := h0 q hq
    have h3 : q.2.natAbs < 2 ^ 190 := by omega
    exact ⟨z ▸ nameB_shwS (v.names e he), Nat.lt_trans h3 (by decide)⟩
  exact ⟨b1, by omega, by omega⟩
theorem shw_intC {i : Int} (h : 0 ≤ i) (h2 : i < 2 ^ 200) : ShwD (.int i) := by
  have h3 : i.natAbs < 2 ^ 200 := by omega
  have h4 : i.natAbs < 10 ^ 100 := Nat.lt_trans h3 (by decide)
  exact ⟨show_int h4, Nat.le_trans (shown_int h4) (by decide), by rw [PyData.depth]; decide⟩
theorem shw_listC {ds : List PyData} (h : ∀ d ∈ ds, ShwD d) (hl : ds.length ≤ 3) : (∀ d ∈ ds, d.showable = true ∧ d.shown.length ≤ sizeLine ∧ d.depth ≤ 50) ∧ (PyData.list ds).shown.length ≤ sizeLine := by
  refine ⟨fun d hd => ?_, ?_⟩
  · obtain ⟨h1, h2, h3⟩ := h d hd
    exact ⟨h1, by rw [sizeLine_eq]; omega, h3⟩
  · have h1 := shown_list (ds := ds) (m := 4000000) fun d hd => (h d hd).2.1
    rw [sizeLine_eq]
    have h2 : ds.length * (4000000 + 2) ≤ 3 * (4000000 + 2) := Nat.mul_le_mul_right _ hl
    omega
end Sk
namespace Sk
open PySem PySem.Spec PyProof.Rows L2
theorem ordered_first {p : Ent → Bool} : ∀ {es : List Ent} {e0 : Ent}, Ordered es → es.find? p = some e0 → ∀ e ∈ es, p e = true → e.w ≤ e0.w
  | [], _, _, h, _, _, _ => by cases h
  | a :: l, e0, o, h, e, he, hp => by
    obtain ⟨o1, o2⟩ := List.pairwise_cons.mp o
    rw [List.find?_cons] at h
    cases q : p a with
    | true =>
      rw [q] at h
      cases h
      rcases List.mem_cons.mp he with rfl | he
      · exact Int.le_refl _
      · have h1 : kLt e.key a.key = false := o1 e he
        rcases kLt_no.mp h1 with h2 | ⟨h2, _⟩
        · have h3 : (0 : Int) - a.w < 0 - e.w := h2
          omega
        · have h3 : (0 : Int) - e.w = 0 - a.w := h2
          omega
    | false =>
      rw [q] at h
      rcases List.mem_cons.mp he with rfl | he
      · rw [q] at hp
        cases hp
      · exact ordered_first o2 h e he hp
theorem top_of_max {es es' : List Ent} {b : Str → Int} (hp : es'.Perm es) (ho : Ordered es') {m : Int} (hm : m ∈ (es.filter fun e => decide (0 < b e.name)).map (·.w)) (hle : ∀ y ∈ (es.filter fun e => decide (0 < b e.name)).map (·.w), y ≤ m) : some m = topE es' b := by
  obtain ⟨e1, h1, rfl⟩ := List.mem_map.mp hm
  obtain ⟨h2, h3⟩ := List.mem_filter.mp h1
  have h2' := hp.mem_iff.mpr h2
  unfold topE
  cases q : es'.find? fun e => decide (0 < b e.name) with
  | none =>
    have := List.find?_eq_none.mp q e1 h2'
    exact absurd h3 this
  | some e0 =>
    have a1 := ordered_first ho q e1 h2' h3
    have a2 := hle e0.w (List.mem_map.mpr ⟨e0, List.mem_filter.mpr ⟨hp.mem_iff.mp (List.mem_of_find?_eq_some q), List.find?_some (p := fun e : Ent => decide (0 < b e.name)) q⟩, rfl⟩)
    show some e1.w = some e0.w
    have : e1.w = e0.w := by omega
    rw [this]
theorem top_of_nil {es es' : List Ent} {b : Str → Int} (hp : es'.Perm es) (h : (es.filter fun e => decide (0 < b e.name)).map (·.w) = []) : none = topE es' b := by
  unfold topE
  have : (es'.find? fun e => decide (0 < b e.name)) = none := List.find?_eq_none.mpr fun e he z => by
    have h2 : e.w ∈ (es.filter fun e => decide (0 < b e.name)).map (·.w) := List.mem_map.mpr ⟨e, List.mem_filter.mpr ⟨hp.mem_iff.mp he, z⟩, rfl⟩
    rw [h] at h2
    cases h2
  rw [this]
  rfl
theorem top_congr {es : List Ent} {b c : Str → Int} (h : ∀ e ∈ es, (0 < b e.name ↔ 0 < c e.name)) : topE es b = topE es c := by
  unfold topE
  rw [find_congr fun e he => decide_eq_decide.mpr (h e he)]
theorem top_mem {es : List Ent} {b : Str → Int} {i : Int} (h : topE es b = some i) : ∃ e ∈ es, e.w = i := by
  unfold topE at h
  cases q : es.find? fun e => decide (0 < b e.name) with
  | none => rw [q] at h; cases h
  | some e =>
    rw [q] at h
    exact ⟨e, List.mem_of_find?_eq_some q, Option.some.inj h⟩
def optD : Option Int → PyData
  | none => .none
  | some i => .int i
theorem dp_opt {K : PySem.W.Frag} {H : Hp} (o : Option Int) : Dp K H (optV o) (optD o) := by
  cases o with
  | none => exact .non
  | some i => exact .int i
theorem shw_opt {o : Option Int} (h : ∀ i, o = some i → 0 ≤ i ∧ i < 2 ^ 200) : ShwD (optD o) := by
  cases o with
  | none => exact ⟨rfl, by decide, by decide⟩
  | some i => exact shw_intC (h i rfl).1 (h i rfl).2
theorem log_small {i : Int} (h : 0 ≤ i ∧ i < 2 ^ 200) : i.natAbs.log2 < 1920 := by
  have h3 : i.natAbs < 2 ^ 200 := by omega
  exact Nat.lt_trans (PySem.Flt.log2_lt_of (by decide) h3) (by decide)
/-- one split more, what is whole -/
theorem whole_step {es : List Ent} {f : Str → Int} {b b' : Str → Int} (nd : (es.map (·.name)).Nodup) {e : Ent} (he : e ∈ es) (h : ∀ x, b' x = b x + if x = e.name then 1 else 0) (x : Str) : wholeF es f b' x = wholeF es f b x - (if x = e.name then 1 else 0) + amt (ones e.parts) x := by
  unfold wholeF
  have h1 : amt (incs es b') x = amt (incs es b) x + amt (ones e.parts) x := by
    clear f
    induction es with
    | nil => cases he
    | cons a es ih =>
      rw [List.map_cons, List.nodup_cons] at nd
      rw [incs_cons, incs_cons, amt_append, amt_append, amt_times, amt_times, h a.name]
      rcases List.mem_cons.mp he with rfl | he
      · rw [if_pos rfl, incs_congr (f := b') (g := b) fun y hy => by rw [h, if_neg fun z => nd.1 (List.mem_map.mpr ⟨y, hy, z⟩)]; omega, Int.add_mul]
        omega
      · rw [ih nd.2 he, if_neg (show ¬ a.name = e.name from fun z => nd.1 (List.mem_map.mpr ⟨e, he, z.symm⟩)), Int.add_zero]
        omega
  rw [h1, h]
  omega
end Sk
namespace Sk
open PySem PySem.Spec PyProof.Rows L2
theorem top_le {es : List Ent} (o : Ordered es) (b : Str → Int) (lim : Int) : (∀ i, topE es b = some i → i ≤ lim) ↔ ∀ e ∈ es, lim < e.w → b e.name ≤ 0 := by
  constructor
  · intro h e he hl
    refine Decidable.byContradiction fun z => ?_
    unfold topE at h
    cases q : es.find? fun e => decide (0 < b e.name) with
    | none =>
      have := List.find?_eq_none.mp q e he
      exact this (decide_eq_true (by omega))
    | some e0 =>
      have h1 := ordered_first o q e he (decide_eq_true (by omega))
      rw [q] at h
      have h2 := h e0.w rfl
      omega
  · intro h i hi
    unfold topE at hi
    cases q : es.find? fun e => decide (0 < b e.name) with
    | none => rw [q] at hi; cases hi
    | some e0 =>
      rw [q] at hi
      obtain rfl : e0.w = i := Option.some.inj hi
      have h1 := of_decide_eq_true (List.find?_some (p := fun e : Ent => decide (0 < b e.name)) q)
      refine Decidable.byContradiction fun z => ?_
      have := h e0 (List.mem_of_find?_eq_some q) (by omega)
      omega
def heavyN (es : List Ent) (f : Str → Int) (lim : Int) : Nat → Int := eN es fun e => if lim < e.w then getD (fs es f) e.name else 0
theorem filter_sum (p : Ent → Bool) (G : Ent → Int) : ∀ l : List Ent, ((l.filter p).map G).sum = (l.map fun e => if p e = true then G e else 0).sum
  | [] => rfl
  | a :: l => by
    rw [List.filter_cons, List.map_cons, List.sum_cons]
    by_cases q : p a = true
    · rw [if_pos q, if_pos q, List.map_cons, List.sum_cons, filter_sum p G l]
    · rw [if_neg q, if_neg q, filter_sum p G l]
      omega
section
variable {es es' : List Ent} {d : Num}
/-- when a limit can be kept -/
theorem Sit.lim_some (s : Sit es es' d) (lim : Int) : (∃ N, limO es' (getD d) lim = some N) ↔ ∀ e ∈ es', lim < e.w → e.parts = [] → fsS es' (getD d) e.name ≤ 0 := by
  unfold limO
  constructor
  · rintro ⟨N, h⟩ e he hl hp
    by_cases q : (heavyE es' (getD d) lim).all (fun e => decide (e.parts ≠ [])) = true
    · refine Decidable.byContradiction fun z => ?_
      have h1 := List.all_eq_true.mp q e (by
        unfold heavyE
        refine List.mem_filter.mpr ⟨he, ?_⟩
        rw [decide_eq_true hl, decide_eq_true (by omega)]
        rfl)
      exact of_decide_eq_true h1 hp
    · rw [if_neg q] at h
      cases h
  · intro h
    rw [if_pos]
    · exact ⟨_, rfl⟩
    · refine List.all_eq_true.mpr fun e he => decide_eq_true fun z => ?_
      unfold heavyE at he
      obtain ⟨h1, h2⟩ := List.mem_filter.mp he
      rw [Bool.and_eq_true] at h2
      have := h e h1 (of_decide_eq_true h2.1) z
      have := of_decide_eq_true h2.2
      omega
theorem Sit.lim_val (s : Sit es es' d) {lim N : Int} (h : limO es' (getD d) lim = some N) : N = sumN (heavyN es' (getD d) lim) es'.length := by
  have hat := (s.lim_some lim).mp ⟨N, h⟩
  unfold limO at h
  by_cases q : (heavyE es' (getD d) lim).all (fun e => decide (e.parts ≠ [])) = true
  · rw [if_pos q] at h
    have h := (Option.some.inj h).symm
    unfold heavyE at h
    rw [h]
    unfold heavyN
    rw [sumN_eN, filter_sum]
    congr 1
    refine List.map_congr_left fun e he => ?_
    rw [fs_val s.beh s.v'.nodup he]
    by_cases h1 : lim < e.w
    · rw [if_pos h1, decide_eq_true h1, Bool.true_and]
      by_cases h2 : e.parts = []
      · rw [if_pos h2, if_neg]
        rw [decide_eq_true_eq]
        have := hat e he h1 h2
        omega
      · rw [if_neg h2]
        have h3 : 0 ≤ fsS es' (getD d) e.name := by
          have := s.fsn (e.name, fsS es' (getD d) e.name) (by
            rw [fs_final s.beh s.v'.nodup]
            exact List.mem_map.mpr ⟨e, List.mem_filter.mpr ⟨he, decide_eq_true h2⟩, rfl⟩)
          exact this
        by_cases h4 : 0 < fsS es' (getD d) e.name
        · rw [if_pos (decide_eq_true h4)]
        · rw [if_neg (by rw [decide_eq_true_eq]; exact h4)]
          omega
    · rw [if_neg h1, decide_eq_false h1, Bool.false_and, if_neg Bool.false_ne_true]
  · rw [if_neg q] at h
    cases h
theorem Sit.F0 (s : Sit es es' d) (i : Nat) (hi : i < es'.length) : 0 ≤ fullN es' d i := by
  have hie : es'[i]? = some es'[i] := List.getElem?_eq_getElem hi
  show 0 ≤ cN es' _ i
  rw [cN_at hie]
  exact getD_pos s.fsn _
theorem Sit.lim_range (s : Sit es es' d) {lim N : Int} (h : limO es' (getD d) lim = some N) : 0 ≤ N ∧ N ≤ totI es' d := by
  rw [s.lim_val h, ← s.tot]
  have at_ : ∀ i, i < es'.length → heavyN es' (getD d) lim i = 0 ∨ heavyN es' (getD d) lim i = fullN es' d i := fun i hi => by
    have hie : es'[i]? = some es'[i] := List.getElem?_eq_getElem hi
    unfold heavyN
    rw [eN_at hie]
    show _ ∨ _ = cN es' _ i
    rw [cN_at hie]
    split
    · exact .inr rfl
    · exact .inl rfl
  exact ⟨sumN_nonneg fun i hi => by have := at_ i hi; have := s.F0 i hi; omega, sumN_le fun i hi => by have := at_ i hi; have := s.F0 i hi; omega⟩
/-- how many splits a limit needs -/
theorem Sit.lim_iff (s : Sit es es' d) {n : Int} (h0 : 0 ≤ n) (h1 : n ≤ totI es' d) (lim : Int) : (∃ N, limO es' (getD d) lim = some N ∧ N ≤ n) ↔ ∀ e ∈ es', lim < e.w → wholeF es' (getD d) (getD (greedy (fs es' (getD d)) n)) e.name ≤ 0 := by
  have ok := balanced_ok s.hv s.hp s.ho s.so s.hz h0
  obtain ⟨v, b, hs⟩ := s.bal h0 h1
  change Vec es'.length (fullN es' d) (cN es' (getD (greedy (fs es' (getD d)) n))) at v
  change Bal es'.length (fullN es' d) (cN es' (getD (greedy (fs es' (getD d)) n))) at b
  change sumN (cN es' (getD (greedy (fs es' (getD d)) n))) es'.length = n at hs
  have ft := ok.fit s.hp
  have hg := find_gap s.beh s.v'.nodup ft
  generalize greedy (fs es' (getD d)) n = g at *
  -- the first that is not full has whole pieces
  have gapw : ∀ i, Gap es'.length (fullN es' d) (cN es' (getD g)) i → ∀ e, es'[i]? = some e → 0 < wholeF es' (getD d) (getD g) e.name := fun i gi e he => by
    have h2 := gap_find he gi
    rw [← hg] at h2
    have h3 := List.find?_some h2
    unfold splitB at h3
    rw [Bool.and_eq_true] at h3
    exact of_decide_eq_true h3.2
  -- where all heavy ones are full
  have fullw : (∀ i, i < es'.length → ∀ e, es'[i]? = some e → lim < e.w → cN es' (getD g) i = fullN es' d i) → ∀ e ∈ es', lim < e.w → wholeF es' (getD d) (getD g) e.name = fsS es' (getD d) e.name - if e.parts = [] then 0 else fsS es' (getD d) e.name := fun hf e he hl => by
    obtain ⟨i, hi⟩ := List.mem_iff_getElem?.mp he
    have hlt := (List.getElem?_eq_some_iff.mp hi).1
    have h2 := full_at (f := getD d) (c := getD g) s.beh s.v'.nodup hi fun k x hk hx => by
      have h3 := hf k (by omega) x hx (Int.lt_of_lt_of_le hl (ord_w s.ho hk hx hi))
      rw [cN_at hx] at h3
      rw [h3]
      exact cN_at hx _
    have h4 := hf i hlt e hi hl
    rw [cN_at hi] at h4
    have h5 : fullN es' d i = getD (fs es' (getD d)) e.name := cN_at hi _
    rw [h5, fs_val s.beh s.v'.nodup he] at h4
    unfold wholeF
    rw [h2, h4]
  constructor
  · rintro ⟨N, hN, hle⟩ e he hl
    have hat := (s.lim_some lim).mp ⟨N, hN⟩
    have hv := s.lim_val hN
    have hf : ∀ i, i < es'.length → ∀ e, es'[i]? = some e → lim < e.w → cN es' (getD g) i = fullN es' d i := by
      intro i hi e he hl
      refine Decidable.byContradiction fun z => ?_
      obtain ⟨k, hk, hlt, hfull⟩ := first_ex (P := fun k => cN es' (getD g) k < fullN es' d k) es'.length ⟨i, hi, by have := (v i hi).2; omega⟩
      have hki : k ≤ i := Decidable.byContradiction fun y => by
        have := hfull i (by omega)
        have := (v i hi).2
        omega
      have hke : es'[k]? = some es'[k] := List.getElem?_eq_getElem hk
      have hkw : lim < es'[k].w := by
        rcases Nat.lt_or_eq_of_le hki with y | y
        · exact Int.lt_of_lt_of_le hl (ord_w s.ho y hke he)
        · subst y
          rw [hke] at he
          cases he
          exact hl
      have hhk : heavyN es' (getD d) lim k = fullN es' d k := by
        unfold heavyN
        rw [eN_at hke, if_pos hkw]
        exact (cN_at hke _).symm
      have : sumN (cN es' (getD g)) es'.length < sumN (heavyN es' (getD d) lim) es'.length := sumN_lt (k := k) (fun t ht => by
        have hte : es'[t]? = some es'[t] := List.getElem?_eq_getElem ht
        have hh : ∀ w, lim < es'[t].w → w ≤ fullN es' d t → w ≤ heavyN es' (getD d) lim t := fun w hw hle => by
          unfold heavyN
          rw [eN_at hte, if_pos hw]
          have : fullN es' d t = getD (fs es' (getD d)) es'[t].name := cN_at hte _
          omega
        rcases Nat.lt_trichotomy t k with y | y | y
        · exact hh _ (Int.lt_of_lt_of_le hkw (ord_w s.ho y hte hke)) (v t ht).2
        · subst y
          rw [hhk]
          omega
        · rw [b k t y ht hlt]
          unfold heavyN
          rw [eN_at hte]
          split
          · exact getD_pos s.fsn _
          · exact Int.le_refl _) hk (by rw [hhk]; exact hlt)
      omega
    rw [fullw hf e he hl]
    by_cases hp : e.parts = []
    · rw [if_pos hp]
      have := hat e he hl hp
      omega
    · rw [if_neg hp]
      omega
  · intro h
    have hf : ∀ i, i < es'.length → ∀ e, es'[i]? = some e → lim < e.w → cN es' (getD g) i = fullN es' d i := by
      intro i hi e he hl
      refine Decidable.byContradiction fun z => ?_
      obtain ⟨k, hk, hlt, hfull⟩ := first_ex (P := fun k => cN es' (getD g) k < fullN es' d k) es'.length ⟨i, hi, by have := (v i hi).2; omega⟩
      have hki : k ≤ i := Decidable.byContradiction fun y => by
        have := hfull i (by omega)
        have := (v i hi).2
        omega
      have hke : es'[k]? = some es'[k] := List.getElem?_eq_getElem hk
      have hkw : lim < es'[k].w := by
        rcases Nat.lt_or_eq_of_le hki with y | y
        · exact Int.lt_of_lt_of_le hl (ord_w s.ho y hke he)
        · subst y
          rw [hke] at he
          cases he
          exact hl
      have h2 := gapw k ⟨hk, hlt, fun t ht => by
        have := hfull t ht
        have := (v t (by omega)).2
        omega⟩ _ hke
      have h3 := h _ (List.getElem_mem _) hkw
      omega
    have hat : ∀ e ∈ es', lim < e.w → e.parts = [] → fsS es' (getD d) e.name ≤ 0 := fun e he hl hp => by
      have h2 := fullw hf e he hl
      have h3 := h e he hl
      rw [if_pos hp] at h2
      omega
    obtain ⟨N, hN⟩ := (s.lim_some lim).mpr hat
    refine ⟨N, hN, ?_⟩
    rw [s.lim_val hN, ← hs]
    refine sumN_le fun i hi => ?_
    have hie : es'[i]? = some es'[i] := List.getElem?_eq_getElem hi
    unfold heavyN
    rw [eN_at hie]
    by_cases hl : lim < es'[i].w
    · rw [if_pos hl, hf i hi _ hie hl]
      show _ ≤ cN es' _ i
      rw [cN_at hie]
      exact Int.le_refl _
    · rw [if_neg hl]
      exact (v i hi).1
end

section
variable {es es' : List Ent} {d : Num}
/-- as the heaviest is told -/
theorem Sit.lim_top (s : Sit es es' d) {n : Int} (h0 : 0 ≤ n) (h1 : n ≤ totI es' d) (lim : Int) : (∃ N, limO es' (getD d) lim = some N ∧ N ≤ n) ↔ ∀ i, topE es' (wholeF es' (getD d) (getD (greedy (fs es' (getD d)) n))) = some i → i ≤ lim := (s.lim_iff h0 h1 lim).trans (top_le s.ho _ lim).symm
end
end Sk
namespace Sk
open PySem PySem.Spec PyProof.Rows L2
/-- the weight of the heaviest kind of which a piece is whole, or 0 -/
def hvyF (w : Int) (m : Int) : Int := if w > m then w else m
def hvyE (b : Str → Int) (m : Int) (e : Ent) : Int := if 0 < b e.name then hvyF e.w m else m
def hvy (es : List Ent) (b : Str → Int) : Int := es.foldl (hvyE b) 0
theorem hvy_ge {b : Str → Int} : ∀ {es : List Ent} {m : Int}, m ≤ es.foldl (hvyE b) m ∧ ∀ e ∈ es, 0 < b e.name → e.w ≤ es.foldl (hvyE b) m
  | [], m => ⟨Int.le_refl _, fun e h => by cases h⟩
  | a :: es, m => by
    obtain ⟨i1, i2⟩ := hvy_ge (b := b) (es := es) (m := hvyE b m a)
    have h1 : m ≤ hvyE b m a := by
      unfold hvyE hvyF
      split
      · split <;> omega
      · exact Int.le_refl _
    rw [List.foldl_cons]
    refine ⟨by omega, fun e he h0 => ?_⟩
    rcases List.mem_cons.mp he with rfl | he
    · have : e.w ≤ hvyE b m e := by
        unfold hvyE hvyF
        rw [if_pos h0]
        split <;> omega
      omega
    · exact i2 e he h0
theorem hvy_le {b : Str → Int} {k : Int} : ∀ {es : List Ent} {m : Int}, m ≤ k → (∀ e ∈ es, 0 < b e.name → e.w ≤ k) → es.foldl (hvyE b) m ≤ k
  | [], m, h, _ => h
  | a :: es, m, h, hh => by
    rw [List.foldl_cons]
    refine hvy_le ?_ fun e he => hh e (List.mem_cons_of_mem _ he)
    unfold hvyE hvyF
    split
    · rename_i h0
      have := hh a (List.mem_cons_self ..) h0
      split <;> omega
    · exact h
def optI : Option Int → Int
  | none => 0
  | some w => w
theorem find_first {p : Ent → Bool} : ∀ {l : List Ent} {e : Ent}, l.find? p = some e → ∃ i : Nat, l[i]? = some e ∧ p e = true ∧ ∀ (k : Nat) (x : Ent), k < i → l[k]? = some x → p x = false
  | [], _, h => by cases h
  | a :: l, e, h => by
    rw [List.find?_cons] at h
    cases c : p a with
    | true =>
      rw [c] at h
      cases h
      exact ⟨0, rfl, c, fun k x hk => absurd hk (Nat.not_lt_zero _)⟩
    | false =>
      rw [c] at h
      obtain ⟨i, h1, h2, h3⟩ := find_first h
      refine ⟨i + 1, by rw [List.getElem?_cons_succ]; exact h1, h2, fun k x hk hx => ?_⟩
      cases k with
      | zero =>
        rw [List.getElem?_cons_zero] at hx
        cases hx
        exact c
      | succ k =>
        rw [List.getElem?_cons_succ] at hx
        exact h3 k x (by omega) hx
section
variable {es es' : List Ent} {d c : Num}
/-- the first of the order is the heaviest -/
theorem hvy_top (hv : Valid es) (hp : es'.Perm es) (ho : Ordered es') (b : Str → Int) : hvy es b = optI (topE es' b) := by
  unfold topE
  cases h : es'.find? (fun e => decide (0 < b e.name)) with
  | none =>
    have h1 := List.find?_eq_none.mp h
    show hvy es b = 0
    unfold hvy
    have h2 : es.foldl (hvyE b) 0 ≤ 0 := hvy_le (Int.le_refl _) fun e he h0 => absurd (decide_eq_true h0) (h1 e (hp.mem_iff.mpr he))
    have h3 := (hvy_ge (b := b) (es := es) (m := 0)).1
    omega
  | some e =>
    obtain ⟨i, h1, h2, h3⟩ := find_first h
    show hvy es b = e.w
    unfold hvy
    have hem : e ∈ es := hp.mem_iff.mp (List.mem_of_getElem? h1)
    have g := (hvy_ge (b := b) (es := es) (m := 0)).2 e hem (of_decide_eq_true h2)
    have l : es.foldl (hvyE b) 0 ≤ e.w := by
      refine hvy_le (by have := hv.pos e hem; omega) fun x hx h0 => ?_
      obtain ⟨j, hj⟩ := List.mem_iff_getElem?.mp (hp.mem_iff.mpr hx)
      rcases Nat.lt_trichotomy j i with z | z | z
      · have := h3 j x z hj
        rw [decide_eq_true h0] at this
        cases this
      · subst z
        rw [h1] at hj
        cases hj
        exact Int.le_refl _
      · exact ord_w ho z h1 hj
    omega
/-- the number of pieces of a kind ahead of which all is split -/
theorem pn_fullAt (S : Sit es es' d) {j : Nat} {e : Ent} (he : es'[j]? = some e) (h : ∀ i, i < j → cN es' (getD c) i = fullN es' d i) : pn es d c e.name = fsS es' (getD d) e.name := by
  rw [← pn_perm S.hp, pn_at]
  refine full_at S.beh S.v'.nodup he fun k x hk hx => ?_
  have h1 : cN es' (getD c) k = cN es' (getD (fs es' (getD d))) k := h k hk
  rw [cN_at hx, cN_at hx] at h1
  exact h1
theorem wholeF_pn (x : Str) : wholeF es (getD d) (getD c) x = pn es d c x - getD c x := by
  unfold wholeF
  rw [pn_at]
/-- no valid splits of this number leave a lighter heaviest piece -/
theorem Sit.best (S : Sit es es' d) (ok : SplitsOk es d c) {n : Int} (hn : (c.map (·.2)).sum = n) (h0 : 0 ≤ n) (h1 : n ≤ totI es' d) :
    optI (topE es' (wholeF es' (getD d) (getD (greedy (fs es' (getD d)) n)))) ≤ hvy es (wholeF es (getD d) (getD c)) := by
  have bok := balanced_ok S.hv S.hp S.ho S.so S.hz h0
  obtain ⟨vB, bB, eB⟩ := S.bal h0 h1
  have vc := S.vec ok
  have sc := S.sum ok
  cases h : es'.find? (fun e => decide (0 < wholeF es' (getD d) (getD (greedy (fs es' (getD d)) n)) e.name)) with
  | none =>
    unfold topE
    rw [h]
    exact (hvy_ge (b := wholeF es (getD d) (getD c)) (es := es) (m := 0)).1
  | some e =>
    unfold topE
    rw [h]
    show e.w ≤ _
    obtain ⟨j, hj, hw, _⟩ := find_first h
    have hw := of_decide_eq_true hw
    refine Decidable.byContradiction fun lt => ?_
    have hge := (hvy_ge (b := wholeF es (getD d) (getD c)) (es := es) (m := 0)).2
    -- all kinds up to this one are split
    have none : ∀ i x, i ≤ j → es'[i]? = some x → pn es d c x.name = getD c x.name := fun i x hi hx => by
      have hxm : x ∈ es := S.hp.mem_iff.mp (List.mem_of_getElem? hx)
      have w1 : e.w ≤ x.w := by
        rcases Nat.lt_or_ge i j with z | z
        · exact ord_w S.ho z hx hj
        · have : i = j := by omega
          subst this
          rw [hj] at hx
          cases hx
          exact Int.le_refl _
      have n0 : ¬ 0 < wholeF es (getD d) (getD c) x.name := fun z => lt (Int.le_trans w1 (hge x hxm z))
      rw [wholeF_pn] at n0
      obtain ⟨f1, f2⟩ := ok.fits x hxm
      have pp := pn_nonneg' (es := es) S.so.pos ok.pos x.name
      by_cases q : x.parts = []
      · rw [if_pos q] at f2
        omega
      · rw [if_neg q] at f2
        omega
    have full : ∀ m, m ≤ j + 1 → ∀ i, i < m → cN es' (getD c) i = fullN es' d i := by
      intro m
      induction m with
      | zero => exact fun _ i hi => absurd hi (Nat.not_lt_zero _)
      | succ m ih =>
        intro hm i hi
        rcases Nat.lt_succ_iff_lt_or_eq.mp hi with z | rfl
        · exact ih (by omega) i z
        · have hlt : i < es'.length := by
            have := (List.getElem?_eq_some_iff.mp hj).1
            omega
          have hx : es'[i]? = some es'[i] := List.getElem?_eq_getElem hlt
          have e1 := pn_fullAt S hx (ih (by omega))
          have e2 := none i _ (by omega) hx
          have hxm := List.mem_of_getElem? hx
          show cN es' (getD c) i = cN es' (getD (fs es' (getD d))) i
          rw [cN_at hx, cN_at hx, fs_val S.beh S.v'.nodup hxm]
          by_cases q : es'[i].parts = []
          · rw [if_pos q]
            obtain ⟨f1, f2⟩ := ok.fits _ (S.hp.mem_iff.mp hxm)
            rw [if_pos q] at f2
            omega
          · rw [if_neg q]
            omega
    have hlt : j < es'.length := (List.getElem?_eq_some_iff.mp hj).1
    have hem := List.mem_of_getElem? hj
    -- the balanced ones have fewer of this kind
    have e1 := pn_fullAt S hj fun i hi => full (j + 1) (Nat.le_refl _) i (by omega)
    have e2 := none j e (Nat.le_refl _) hj
    have eB1 : getD (greedy (fs es' (getD d)) n) e.name < fsS es' (getD d) e.name := by
      have h2 : wholeF es' (getD d) (getD (greedy (fs es' (getD d)) n)) e.name = pn es' d (greedy (fs es' (getD d)) n) e.name - getD (greedy (fs es' (getD d)) n) e.name := wholeF_pn _
      rw [h2] at hw
      have h3 : pn es' d (greedy (fs es' (getD d)) n) e.name ≤ pn es' d (fs es' (getD d)) e.name := pn_mono (fun y => by
        by_cases hy : y ∈ es'.map (·.name)
        · obtain ⟨x, hx, rfl⟩ := List.mem_map.mp hy
          obtain ⟨i, hi⟩ := List.mem_iff_getElem?.mp hx
          have := (vB i (List.getElem?_eq_some_iff.mp hi).1).2
          show getD _ x.name ≤ getD _ x.name
          have a1 := cN_at hi (getD (greedy (fs es' (getD d)) n))
          have a2 := cN_at hi (getD (fs es' (getD d)))
          rw [← a1, ← a2]
          exact this
        · rw [getD_none (fun z => hy ((S.hp.map _).mem_iff.mpr (by
            obtain ⟨q, hq, e3⟩ := List.mem_map.mp z
            rw [← e3]
            exact bok.known q hq))), getD_none fun z => hy (fs_names es' _ _ z)]
          exact Int.le_refl _) _
      rw [pn_full S.beh S.v'.nodup hem] at h3
      omega
    have lt2 : balN es' d n j < cN es' (getD c) j := by
      show cN es' (getD (greedy (fs es' (getD d)) n)) j < _
      rw [cN_at hj, cN_at hj]
      omega
    have le : ∀ i, i < es'.length → balN es' d n i ≤ cN es' (getD c) i := fun i hi => by
      rcases Nat.lt_or_ge j i with z | z
      · have h4 : balN es' d n j < fullN es' d j := by
          have := (vc j hlt).2
          omega
        rw [bB j i z hi h4]
        exact (vc i hi).1
      · rw [full (j + 1) (Nat.le_refl _) i (by omega)]
        exact (vB i hi).2
    have := sumN_lt le hlt lt2
    omega
end
end Sk
namespace Sk
open PySem PySem.Spec PyProof.Rows L2
/-- how many pieces of a kind may be split -/
def mostS (es : List Ent) (st t : Num) (e : Ent) : Int := if e.parts = [] then 0 else pn es st t e.name
def growS (es : List Ent) (st : Num) (l : List Num) (e : Ent) : List Num := l.flatMap fun t => (List.range (mostS es st t e + 1).toNat).map fun (k : Nat) => put t e.name (k : Int)
/-- all splits of the first n kinds -/
def statesS (es : List Ent) (st : Num) (n : Nat) : List Num := (es.take n).foldl (growS es st) [numOf es fun _ => 0]
theorem statesS_succ {es : List Ent} {st : Num} {n : Nat} {e : Ent} (h : es[n]? = some e) : statesS es st (n + 1) = growS es st (statesS es st n) e := by
  unfold statesS
  rw [take_snoc h, List.foldl_append]
  rfl
/-- a state is a number for each kind -/
def StN (es : List Ent) (t : Num) : Prop := ∃ f : Str → Int, t = numOf es f ∧ ∀ x, 0 ≤ f x
theorem StN.put {es : List Ent} {t : Num} (h : StN es t) {x : Str} (hx : x ∈ es.map (·.name)) (k : Nat) : StN es (put t x (k : Int)) := by
  obtain ⟨f, rfl, h0⟩ := h
  refine ⟨upF f x k, put_numOf hx, fun y => ?_⟩
  unfold upF
  split
  · omega
  · exact h0 y
theorem StN.pos {es : List Ent} {t : Num} (h : StN es t) : ∀ q ∈ t, 0 ≤ q.2 := fun q hq => by
  obtain ⟨f, rfl, h0⟩ := h
  obtain ⟨e, _, rfl⟩ := List.mem_map.mp hq
  exact h0 _
theorem StN.len {es : List Ent} {t : Num} (h : StN es t) : t.length = es.length := by
  obtain ⟨f, rfl, _⟩ := h
  exact numOf_len es f
theorem StN.nodup {es : List Ent} {t : Num} (h : StN es t) (nd : (es.map (·.name)).Nodup) : (t.map (·.1)).Nodup := by
  obtain ⟨f, rfl, _⟩ := h
  rw [numOf_names]
  exact nd
theorem growS_st {es : List Ent} {st : Num} {l : List Num} {e : Ent} (h : ∀ t ∈ l, StN es t) (he : e ∈ es) : ∀ t ∈ growS es st l e, StN es t := fun t ht => by
  obtain ⟨u, hu, hk⟩ := List.mem_flatMap.mp ht
  obtain ⟨k, _, rfl⟩ := List.mem_map.mp hk
  exact (h u hu).put (List.mem_map.mpr ⟨e, he, rfl⟩) k
theorem statesS_st (es : List Ent) (st : Num) : ∀ n, ∀ t ∈ statesS es st n, StN es t
  | 0, t, h => by
    unfold statesS at h
    rw [List.take_zero] at h
    rw [List.mem_singleton.mp h]
    exact ⟨_, rfl, fun _ => Int.le_refl _⟩
  | n + 1, t, h => by
    cases q : es[n]? with
    | some e =>
      rw [statesS_succ q] at h
      exact growS_st (statesS_st es st n) (List.mem_of_getElem? q) t h
    | none =>
      have l1 := List.getElem?_eq_none_iff.mp q
      have e1 : statesS es st (n + 1) = statesS es st n := by
        unfold statesS
        rw [List.take_of_length_le (by omega), List.take_of_length_le l1]
      rw [e1] at h
      exact statesS_st es st n t h
theorem growS_take {es : List Ent} {st : Num} {l : List Num} {e : Ent} {j : Nat} {t : Num} (h : l[j]? = some t) : growS es st (l.take (j + 1)) e = growS es st (l.take j) e ++ (List.range (mostS es st t e + 1).toNat).map fun (k : Nat) => put t e.name (k : Int) := by
  unfold growS
  rw [take_snoc h, List.flatMap_append]
  simp
theorem growS_le {es : List Ent} {st : Num} {l : List Num} {e : Ent} (j : Nat) : (growS es st (l.take j) e).length ≤ (growS es st l e).length := by
  have h : growS es st l e = growS es st (l.take j) e ++ growS es st (l.drop j) e := by
    unfold growS
    rw [← List.flatMap_append, List.take_append_drop]
  rw [h, List.length_append]
  omega
theorem amt_noname {ps : List Str} {x : Str} (h : x ∉ ps) : amt (ones ps) x = 0 := amt_zero fun q hq => by
  unfold ones at hq
  obtain ⟨y, hy, rfl⟩ := List.mem_map.mp hq
  exact fun z => h (z ▸ hy)
theorem pn_same {es : List Ent} {st t t' : Num} {x : Str} (h : ∀ y ∈ es, getD t' y.name = getD t y.name ∨ x ∉ y.parts) : pn es st t' x = pn es st t x := by
  rw [pn_at, pn_at, amt_incs', amt_incs']
  congr 2
  refine List.map_congr_left fun y hy => ?_
  rcases h y hy with z | z
  · rw [z]
  · rw [amt_noname z, Int.mul_zero, Int.mul_zero]
theorem most_same {es : List Ent} {st t t' : Num} {e : Ent} (h : ∀ y ∈ es, getD t' y.name = getD t y.name ∨ e.name ∉ y.parts) : mostS es st t' e = mostS es st t e := by
  unfold mostS
  rw [pn_same h]
/-- what is known of the states of the first n kinds -/
structure StFit (es : List Ent) (st : Num) (n : Nat) (t : Num) : Prop where
  fit : ∀ (i : Nat) (e : Ent), i < n → es[i]? = some e → 0 ≤ getD t e.name ∧ getD t e.name ≤ mostS es st t e
  out : ∀ (i : Nat) (e : Ent), n ≤ i → es[i]? = some e → getD t e.name = 0
theorem states_fit {es : List Ent} {st : Num} (hv : Valid es) (ho : Ordered es) : ∀ n, n ≤ es.length → ∀ t ∈ statesS es st n, StFit es st n t
  | 0, _, t, h => by
    unfold statesS at h
    rw [List.take_zero] at h
    rw [List.mem_singleton.mp h]
    exact ⟨fun i e hi => absurd hi (Nat.not_lt_zero _), fun i e _ he => getD_numOf (List.mem_map.mpr ⟨e, List.mem_of_getElem? he, rfl⟩)⟩
  | n + 1, hn, t, h => by
    have hlt : n < es.length := by omega
    have he : es[n]? = some es[n] := List.getElem?_eq_getElem hlt
    rw [statesS_succ he] at h
    obtain ⟨u, hu, hk⟩ := List.mem_flatMap.mp h
    obtain ⟨k, hr0, rfl⟩ := List.mem_map.mp hk
    have ih := states_fit hv ho n (by omega) u hu
    have hr := List.mem_range.mp hr0
    have nd := hv.nodup
    have keep : ∀ (i : Nat) (e : Ent), i ≤ n → es[i]? = some e → mostS es st (put u es[n].name (k : Int)) e = mostS es st u e := fun i e hi hie => most_same fun y hy => by
      by_cases z : y.name = es[n].name
      · refine .inr fun hm => ?_
        have ey : y = es[n] := same_name nd hy (List.getElem_mem _) z
        rw [ey] at hm
        obtain ⟨m, x, h1, h2, h3⟩ := parts_behind (hv.behind ho) he e.name hm
        have := name_ix nd h2 hie h3
        omega
      · exact .inl (by rw [getD_put, if_neg z])
    refine ⟨fun i e hi hie => ?_, fun i e hi hie => ?_⟩
    · rw [keep i e (by omega) hie, getD_put]
      by_cases z : e.name = es[n].name
      · rw [if_pos z]
        have ee : e = es[n] := same_name nd (List.mem_of_getElem? hie) (List.getElem_mem _) z
        rw [ee]
        omega
      · rw [if_neg z]
        refine ih.fit i e ?_ hie
        refine Decidable.byContradiction fun y => z ?_
        have : i = n := by omega
        subst this
        rw [he] at hie
        cases hie
        rfl
    · rw [getD_put, if_neg fun z => ?_]
      · exact ih.out i e (by omega) hie
      · have := name_ix nd hie he z
        omega
/-- every listed state is valid -/
theorem states_okc {es : List Ent} {st : Num} (hv : Valid es) (ho : Ordered es) (so : StockOk es st) (hz : es.length < 64) {n : Nat} (hn : n ≤ es.length) {t : Num} (h : t ∈ statesS es st n) : SplitsOk es st t := by
  have f := states_fit hv ho n hn t h
  have su := statesS_st es st n t h
  have nd := hv.nodup
  refine ⟨su.nodup nd, by have := su.len; omega, fun q hq => ?_, fun e he => ?_⟩
  · obtain ⟨f0, rfl, _⟩ := su
    obtain ⟨e, he, rfl⟩ := List.mem_map.mp hq
    exact List.mem_map.mpr ⟨e, he, rfl⟩
  · obtain ⟨i, hi⟩ := List.mem_iff_getElem?.mp he
    rcases Nat.lt_or_ge i n with z | z
    · exact f.fit i e z hi
    · rw [f.out i e z hi]
      refine ⟨Int.le_refl _, ?_⟩
      split
      · exact Int.le_refl _
      · exact pn_nonneg' so.pos su.pos _
/-- all valid splits are listed -/
theorem states_all {es : List Ent} {st t : Num} (hv : Valid es) (ho : Ordered es) (ok : SplitsOk es st t) : ∀ n, n ≤ es.length → ∃ u ∈ statesS es st n, ∀ (i : Nat) (e : Ent), i < n → es[i]? = some e → getD u e.name = getD t e.name
  | 0, _ => ⟨numOf es fun _ => 0, by unfold statesS; rw [List.take_zero]; exact List.mem_singleton.mpr rfl, fun i e hi => absurd hi (Nat.not_lt_zero _)⟩
  | n + 1, hn => by
    obtain ⟨u, hu, hg⟩ := states_all hv ho ok n (by omega)
    have hlt : n < es.length := by omega
    have he : es[n]? = some es[n] := List.getElem?_eq_getElem hlt
    have nd := hv.nodup
    have f := states_fit hv ho n (by omega) u hu
    obtain ⟨f1, f2⟩ := ok.fits es[n] (List.getElem_mem _)
    have em : mostS es st u es[n] = mostS es st t es[n] := most_same fun y hy => by
      obtain ⟨i, hi⟩ := List.mem_iff_getElem?.mp hy
      by_cases z : i < n
      · exact .inl (hg i y z hi)
      · refine .inr fun hm => ?_
        obtain ⟨m, x, h1, h2, h3⟩ := parts_behind (hv.behind ho) hi es[n].name hm
        have := name_ix nd h2 he h3
        omega
    have f2' : getD t es[n].name ≤ mostS es st t es[n] := f2
    refine ⟨put u es[n].name ((getD t es[n].name).toNat : Int), ?_, fun i e hi hie => ?_⟩
    · rw [statesS_succ he]
      refine List.mem_flatMap.mpr ⟨u, hu, List.mem_map.mpr ⟨(getD t es[n].name).toNat, List.mem_range.mpr ?_, rfl⟩⟩
      rw [em]
      omega
    · rw [getD_put]
      by_cases z : e.name = es[n].name
      · rw [if_pos z, z]
        exact Int.toNat_of_nonneg f1
      · rw [if_neg z]
        refine hg i e ?_ hie
        refine Decidable.byContradiction fun y => z ?_
        have : i = n := by omega
        subst this
        rw [he] at hie
        cases hie
        rfl
/-- so many pieces of one kind more are split -/
theorem pn_put0 {es : List Ent} (nd : (es.map (·.name)).Nodup) {e0 : Ent} (h0 : e0 ∈ es) (st c : Num) (hz : getD c e0.name = 0) (z : Int) (x : Str) : pn es st (put c e0.name z) x = pn es st c x + z * amt (ones e0.parts) x := by
  rw [pn_at, pn_at, amt_incs', amt_incs', Int.add_assoc]
  congr 1
  induction es with
  | nil => cases h0
  | cons e es ih =>
    rw [List.map_cons, List.sum_cons, List.map_cons, List.sum_cons]
    rw [List.map_cons, List.nodup_cons] at nd
    rcases List.mem_cons.mp h0 with rfl | h0
    · have h1 : (es.map fun e => getD (put c e0.name z) e.name * amt (ones e.parts) x) = es.map fun e => getD c e.name * amt (ones e.parts) x := List.map_congr_left fun a ha => by
        rw [getD_put, if_neg fun z => nd.1 (List.mem_map.mpr ⟨a, ha, z⟩)]
      rw [h1, getD_put, if_pos rfl, hz, Int.zero_mul]
      omega
    · rw [ih nd.2 h0, getD_put, if_neg (show ¬ e.name = e0.name from fun z => nd.1 (List.mem_map.mpr ⟨e0, h0, z.symm⟩))]
      omega
/-- how many splits there may be -/
def bndS (es : List Ent) (F : Str → Int) (n : Nat) : Int := (es.take n).foldl (fun b e => b * if e.parts ≠ [] then F e.name + 1 else 1) 1
theorem bndS_succ {es : List Ent} {F : Str → Int} {n : Nat} {e : Ent} (h : es[n]? = some e) : bndS es F (n + 1) = bndS es F n * if e.parts ≠ [] then F e.name + 1 else 1 := by
  unfold bndS
  rw [take_snoc h, List.foldl_append]
  rfl
theorem flat_len {α β : Type} {f : α → List β} {m : Nat} : ∀ {l : List α}, (∀ t ∈ l, (f t).length ≤ m) → (l.flatMap f).length ≤ l.length * m
  | [], _ => by simp
  | t :: l, h => by
    rw [List.flatMap_cons, List.length_append, List.length_cons, Nat.add_mul]
    have h1 := h t (List.mem_cons_self ..)
    have h2 := flat_len (l := l) fun u hu => h u (List.mem_cons_of_mem _ hu)
    omega
section
variable {es es' : List Ent} {d : Num}
theorem Sit.most_le (S : Sit es es' d) {n : Nat} (hn : n ≤ es'.length) {u : Num} (hu : u ∈ statesS es' d n) {e : Ent} (he : e ∈ es') : mostS es' d u e ≤ fsS es' (getD d) e.name := by
  have so' : StockOk es' d := ⟨S.so.nd, S.so.few, fun q hq => (S.hp.map _).mem_iff.mpr (S.so.known q hq), S.so.pos⟩
  have ok' := states_okc S.v' S.ho so' (by rw [S.hp.length_eq]; exact S.hz) hn hu
  have ok : SplitsOk es d u := ⟨ok'.nd, ok'.few, fun q hq => (S.hp.map _).mem_iff.mp (ok'.known q hq), fun e he => by rw [← pn_perm S.hp]; exact ok'.fits e (S.hp.mem_iff.mpr he)⟩
  have vc := S.vec ok
  have h3 : pn es' d u e.name ≤ pn es' d (fs es' (getD d)) e.name := pn_mono (fun y => by
    by_cases hy : y ∈ es'.map (·.name)
    · obtain ⟨x, hx, rfl⟩ := List.mem_map.mp hy
      obtain ⟨i, hi⟩ := List.mem_iff_getElem?.mp hx
      have := (vc i (List.getElem?_eq_some_iff.mp hi).1).2
      have a1 := cN_at hi (getD u)
      have a2 := cN_at hi (getD (fs es' (getD d)))
      rw [← a1, ← a2]
      exact this
    · rw [getD_none (fun z => hy (by
        obtain ⟨q, hq, e3⟩ := List.mem_map.mp z
        rw [← e3]
        exact ok'.known q hq)), getD_none fun z => hy (fs_names es' _ _ z)]
      exact Int.le_refl _) _
  rw [pn_full S.beh S.v'.nodup he] at h3
  unfold mostS
  split
  · have := pn_nonneg' (es := es') S.so.pos ok'.pos e.name
    omega
  · exact h3
theorem Sit.states_len (S : Sit es es' d) : ∀ n, n ≤ es'.length → ((statesS es' d n).length : Int) ≤ bndS es' (fsS es' (getD d)) n ∧ 1 ≤ bndS es' (fsS es' (getD d)) n
  | 0, _ => by
    unfold statesS bndS
    rw [List.take_zero]
    exact ⟨Int.le_refl _, Int.le_refl _⟩
  | n + 1, hn => by
    obtain ⟨i1, i2⟩ := S.states_len n (by omega)
    have hlt : n < es'.length := by omega
    have he : es'[n]? = some es'[n] := List.getElem?_eq_getElem hlt
    have hem := List.mem_of_getElem? he
    rw [statesS_succ he, bndS_succ he]
    have f0 : 0 ≤ fsS es' (getD d) es'[n].name := by
      rw [← pn_full S.beh S.v'.nodup hem]
      exact pn_nonneg' S.so.pos S.fsn _
    generalize hF : (if es'[n].parts ≠ [] then fsS es' (getD d) es'[n].name + 1 else 1) = F
    have F1 : 1 ≤ F := by
      rw [← hF]
      split <;> omega
    have h1 : (growS es' d (statesS es' d n) es'[n]).length ≤ (statesS es' d n).length * F.toNat := flat_len fun u hu => by
      rw [List.length_map, List.length_range]
      have h2 := S.most_le (by omega) hu hem
      by_cases z : es'[n].parts = []
      · have : mostS es' d u es'[n] = 0 := by unfold mostS; rw [if_pos z]
        omega
      · rw [if_pos z] at hF
        omega
    have h2 : ((growS es' d (statesS es' d n) es'[n]).length : Int) ≤ ((statesS es' d n).length : Int) * F := by
      have h3 : ((statesS es' d n).length : Int) * F = (((statesS es' d n).length * F.toNat : Nat) : Int) := by
        rw [Int.natCast_mul, Int.toNat_of_nonneg (by omega)]
      rw [h3]
      exact_mod_cast h1
    have h4 : ((statesS es' d n).length : Int) * F ≤ bndS es' (fsS es' (getD d)) n * F := Int.mul_le_mul_of_nonneg_right i1 (by omega)
    have h5 : bndS es' (fsS es' (getD d)) n * 1 ≤ bndS es' (fsS es' (getD d)) n * F := Int.mul_le_mul_of_nonneg_left F1 (by omega)
    omega
end
/-- the place of the last that is not nought, or -1 -/
def lastN (c : Nat → Int) : Nat → Int
  | 0 => -1
  | n + 1 => if 0 < c n then (n : Int) else lastN c n
theorem lastN_ge (c : Nat → Int) : ∀ n, -1 ≤ lastN c n ∧ lastN c n < n
  | 0 => by unfold lastN; omega
  | n + 1 => by
    have := lastN_ge c n
    unfold lastN
    split <;> omega
theorem lastN_spec (c : Nat → Int) : ∀ n, (lastN c n = -1 ∨ ∃ i : Nat, i < n ∧ lastN c n = i ∧ 0 < c i) ∧ ∀ i : Nat, i < n → 0 < c i → (i : Int) ≤ lastN c n
  | 0 => ⟨.inl rfl, fun i hi => absurd hi (Nat.not_lt_zero _)⟩
  | n + 1 => by
    obtain ⟨h1, h2⟩ := lastN_spec c n
    unfold lastN
    by_cases z : 0 < c n
    · rw [if_pos z]
      exact ⟨.inr ⟨n, by omega, rfl, z⟩, fun i hi _ => by omega⟩
    · rw [if_neg z]
      refine ⟨?_, fun i hi hc => ?_⟩
      · rcases h1 with h1 | ⟨i, a, b, c⟩
        · exact .inl h1
        · exact .inr ⟨i, by omega, b, c⟩
      · rcases Nat.lt_succ_iff_lt_or_eq.mp hi with y | rfl
        · exact h2 i y hc
        · exact absurd hc z
theorem lastN_uniq {c : Nat → Int} {n : Nat} {m : Int} (h1 : m = -1 ∨ ∃ i : Nat, i < n ∧ m = i ∧ 0 < c i) (h2 : ∀ i : Nat, i < n → 0 < c i → (i : Int) ≤ m) (h3 : -1 ≤ m) : m = lastN c n := by
  obtain ⟨a, b⟩ := lastN_spec c n
  have l := (lastN_ge c n).1
  rcases h1 with h1 | ⟨i, i1, i2, i3⟩
  · rcases a with a | ⟨j, j1, j2, j3⟩
    · omega
    · have := h2 j j1 j3
      omega
  · have := b i i1 i3
    rcases a with a | ⟨j, j1, j2, j3⟩
    · omega
    · have := h2 j j1 j3
      omega
theorem lastN_congr {c c' : Nat → Int} : ∀ {n : Nat}, (∀ i, i < n → c i = c' i) → lastN c n = lastN c' n
  | 0, _ => rfl
  | n + 1, h => by
    unfold lastN
    rw [h n (Nat.lt_succ_self n), lastN_congr fun i hi => h i (Nat.lt_succ_of_lt hi)]
/-- balanced splits have the largest smallest kind -/
theorem lastN_bal {n : Nat} {F b c : Nat → Int} (vb : Vec n F b) (bb : Bal n F b) (vc : Vec n F c) (h : sumN c n = sumN b n) : lastN b n ≤ lastN c n := by
  obtain ⟨h1, _⟩ := lastN_spec b n
  rcases h1 with h1 | ⟨L, l1, l2, l3⟩
  · rw [h1]
    exact (lastN_ge c n).1
  · refine Decidable.byContradiction fun lt => ?_
    have none : ∀ i, L ≤ i → i < n → c i = 0 := fun i hi hn => by
      have h0 := (vc i hn).1
      by_cases z : 0 < c i
      · have := (lastN_spec c n).2 i hn z
        omega
      · omega
    have full : ∀ i, i < L → b i = F i := fun i hi => by
      have h0 := (vb i (by omega)).2
      refine Decidable.byContradiction fun z => ?_
      have := bb i L hi l1 (by omega)
      omega
    have := sumN_lt (c := c) (d := b) (n := n) (k := L) (fun i hi => by
      rcases Nat.lt_or_ge i L with z | z
      · rw [full i z]
        exact (vc i hi).2
      · rw [none i z hi]
        exact (vb i hi).1) l1 (by rw [none L (Nat.le_refl _) l1]; exact l3)
    omega
end Sk
namespace Sk
open PySem PySem.Spec PyProof.Rows L2
theorem amt_zero0 {l : Num} {x : Str} (h : ∀ q ∈ l, q.2 = 0) : amt l x = 0 := by
  induction l with
  | nil => rfl
  | cons q l ih =>
    rw [amt_cons, h q (List.mem_cons_self ..), ih fun z hz => h z (List.mem_cons_of_mem _ hz)]
    split <;> rfl
theorem pn_nil (es : List Ent) (st : Num) (x : Str) : pn es st [] x = getD st x := by
  rw [pn_at, amt_zero0]
  · omega
  · intro q hq
    unfold incs at hq
    obtain ⟨e, _, h2⟩ := List.mem_flatMap.mp hq
    obtain ⟨p, _, rfl⟩ := List.mem_map.mp h2
    rfl
/-- splits of one kind more -/
theorem pn_app {es : List Ent} (nd : (es.map (·.name)).Nodup) {e0 : Ent} (h0 : e0 ∈ es) (st : Num) {c : Num} (hn : e0.name ∉ c.map (·.1)) (z : Int) (x : Str) : pn es st (c ++ [(e0.name, z)]) x = pn es st c x + z * amt (ones e0.parts) x := by
  rw [pn_at, pn_at, amt_incs', amt_incs', Int.add_assoc]
  congr 1
  induction es with
  | nil => cases h0
  | cons e es ih =>
    rw [List.map_cons, List.sum_cons, List.map_cons, List.sum_cons]
    rw [List.map_cons, List.nodup_cons] at nd
    rcases List.mem_cons.mp h0 with rfl | h0
    · have h1 : (es.map fun e => getD (c ++ [(e0.name, z)]) e.name * amt (ones e.parts) x) = es.map fun e => getD c e.name * amt (ones e.parts) x := List.map_congr_left fun a ha => by
        rw [getD_app hn, if_neg fun z => nd.1 (List.mem_map.mpr ⟨a, ha, z⟩)]
      rw [h1, getD_app hn, if_pos rfl, getD_none hn, Int.zero_mul]
      omega
    · rw [ih nd.2 h0, getD_app hn, if_neg (show ¬ e.name = e0.name from fun z => nd.1 (List.mem_map.mpr ⟨e0, h0, z.symm⟩))]
      omega
end Sk
namespace Sk
open PySem PySem.Spec PyProof.Rows L2
abbrev s_law_all_cuts : Stmt := topS 35
abbrev N_law_all_cuts : List Str := ["rows", "shelf", "full", "some", "places", "bound", "found", "name", "weight", "parts", "place", "longer", "cuts", "have", "many", "later", "part", "row"]
theorem sc_law_all_cuts : FnScope N_law_all_cuts ["rows", "shelf"] (defScope s_law_all_cuts) := ⟨rfl, rfl, rfl, by decide +kernel, rfl, by decide +kernel, by decide +kernel⟩
def cutsOf (es : List Ent) (n : Nat) (t : Num) : List Int := (es.take n).map fun e => getD t e.name
def haveOf (es : List Ent) (st t : Num) : List Int := es.map fun e => pn es st t e.name
def ChAt (es : List Ent) (st : Num) (n : Nat) (H : Hp) (v : V) (t : Num) : Prop := ∃ p a b, v = .ref p ∧ H p = some (.tup [.ref a, .ref b]) ∧ H a = some (.lst ((cutsOf es n t).map V.int)) ∧ H b = some (.lst ((haveOf es st t).map V.int))
def sp_law_all_cuts (Tb : List (Addr × Str)) (K : PySem.W.Frag) : Sp := fun vs H Q _ => ∃ (a b : Addr) (xs : List V) (es : List Ent) (st : Num), vs = [.ref a, .ref b] ∧ SqL K H a xs ∧ CatAt H xs es ∧ H b = some (.dK (dS st)) ∧ LamX.Tabs Tb H ∧ Valid es ∧ StockOk es st ∧ es.length ≤ 6 ∧ (∀ es', es'.Perm es → Ordered es' → totS es' (getD st) ≤ 10) ∧
  (∀ H', Gr Tb H H' → Q .non H') ∧
  ∀ r H' es' ys, es'.Perm es → Ordered es' → Gr Tb H H' → Nw H r → H' r = some (.lst ys) → (statesS es' st es'.length).length ≤ 2000 → Paired (ChAt es' st es'.length H') ys (statesS es' st es'.length) → Q (.ref r) H'
/-- the places by name -/
def plN (es : List Ent) : Num := (List.range es.length).map fun i => ((es.getD i ⟨"", 0, []⟩).name, (i : Int))
theorem plN_names (es : List Ent) : (plN es).map (·.1) = es.map (·.name) := by
  unfold plN
  rw [List.map_map]
  refine List.ext_getElem? fun i => ?_
  rw [List.getElem?_map, List.getElem?_map]
  by_cases h : i < es.length
  · rw [List.getElem?_range h, List.getElem?_eq_getElem h]
    show some (es.getD i _).name = some _
    rw [List.getD_eq_getElem?_getD, List.getElem?_eq_getElem h]
    rfl
  · rw [List.getElem?_eq_none (by rw [List.length_range]; omega), List.getElem?_eq_none (by omega)]
    rfl
theorem plN_get {es : List Ent} (nd : (es.map (·.name)).Nodup) {i : Nat} {e : Ent} (h : es[i]? = some e) : get? (plN es) e.name = some (i : Int) := by
  have hi := (List.getElem?_eq_some_iff.mp h).1
  refine get?_ndm (q := (e.name, (i : Int))) (by rw [plN_names]; exact nd) (List.mem_map.mpr ⟨i, List.mem_range.mpr hi, ?_⟩)
  rw [List.getD_eq_getElem?_getD, h]
  rfl
/-- the i-th place, written -/
def PlAt' (es : List Ent) (H : Hp) (i : Nat) (y : V) : Prop := ∃ e t, es[i]? = some e ∧ y = .ref t ∧ H t = some (.tup [.str e.name, .int (i : Int)])
theorem pl_dict {K : PySem.W.Frag} {es : List Ent} {H : Hp} {zs : List V} (h : Paired (PlAt' es H) ((List.range es.length).filter fun _ => true) zs) :
    ∃ ps : List Addr, zs = ps.map V.ref ∧ Paired (fun p kv => SqT K H p [kV kv.1, kv.2]) ps (dS (plN es)) := by
  rw [List.filter_eq_self.mpr fun _ _ => rfl] at h
  have key : ∀ {l : List Nat} {zs : List V}, Paired (PlAt' es H) l zs → ∃ ps : List Addr, zs = ps.map V.ref ∧ Paired (fun p kv => SqT K H p [kV kv.1, kv.2]) ps (dS (l.map fun i => ((es.getD i ⟨"", 0, []⟩).name, (i : Int)))) := by
    intro l zs h
    induction h with
    | nil => exact ⟨[], rfl, .nil⟩
    | cons a _ ih =>
      obtain ⟨ps, rfl, pp⟩ := ih
      obtain ⟨e, t, he, rfl, ht⟩ := a
      refine ⟨t :: ps, rfl, .cons ?_ pp⟩
      have hg : ∀ i : Nat, es[i]? = some e → es.getD i ⟨"", 0, []⟩ = e := fun i he => by rw [List.getD_eq_getElem?_getD, he]; rfl
      show SqT K H t [.str (es.getD _ ⟨"", 0, []⟩).name, .int _]
      rw [hg _ he]
      exact SqT.of ht
  exact key h
theorem sumN_item {c : Nat → Int} : ∀ {n k : Nat}, (∀ i, i < n → 0 ≤ c i) → k < n → c k ≤ sumN c n
  | 0, _, _, hk => absurd hk (Nat.not_lt_zero _)
  | n + 1, k, h, hk => by
    show c k ≤ sumN c n + c n
    have h0 := sumN_nonneg fun i hi => h i (Nat.lt_succ_of_lt hi)
    rcases Nat.lt_succ_iff_lt_or_eq.mp hk with z | rfl
    · have := sumN_item (k := k) (fun i hi => h i (Nat.lt_succ_of_lt hi)) z
      have := h n (Nat.lt_succ_self n)
      omega
    · omega
theorem Sit.fs_le {es es' : List Ent} {d : Num} (S : Sit es es' d) {e : Ent} (he : e ∈ es') (hp : e.parts ≠ []) : fsS es' (getD d) e.name ≤ totI es' d := by
  obtain ⟨i, hi⟩ := List.mem_iff_getElem?.mp he
  have h := sumN_item (fun i hi => S.F0 i hi) (List.getElem?_eq_some_iff.mp hi).1
  rw [S.tot] at h
  have h2 : fullN es' d i = fsS es' (getD d) e.name := by
    show cN es' _ i = _
    rw [cN_at hi, fs_val S.beh S.v'.nodup he, if_neg hp]
  rw [h2] at h
  exact h
theorem Sit.bnd_le {es es' : List Ent} {d : Num} (S : Sit es es' d) (h10 : totI es' d ≤ 10) : ∀ n, n ≤ es'.length → bndS es' (fsS es' (getD d)) n ≤ 11 ^ n
  | 0, _ => by
    unfold bndS
    rw [List.take_zero]
    exact Int.le_refl 1
  | n + 1, hn => by
    have hlt : n < es'.length := by omega
    have he : es'[n]? = some es'[n] := List.getElem?_eq_getElem hlt
    have ih := S.bnd_le h10 n (by omega)
    have h1 := (S.states_len n (by omega)).2
    rw [bndS_succ he]
    have hF : (if es'[n].parts ≠ [] then fsS es' (getD d) es'[n].name + 1 else 1) ≤ 11 := by
      split
      · rename_i z
        have := S.fs_le (List.getElem_mem hlt) z
        omega
      · decide
    have h2 : bndS es' (fsS es' (getD d)) n * (if es'[n].parts ≠ [] then fsS es' (getD d) es'[n].name + 1 else 1) ≤ bndS es' (fsS es' (getD d)) n * 11 := Int.mul_le_mul_of_nonneg_left hF (by omega)
    rw [Int.pow_succ]
    omega
theorem Sit.bnd_mono {es es' : List Ent} {d : Num} (S : Sit es es' d) (n : Nat) : ∀ k, n + k ≤ es'.length → bndS es' (fsS es' (getD d)) n ≤ bndS es' (fsS es' (getD d)) (n + k)
  | 0, _ => Int.le_refl _
  | k + 1, hk => by
    have ih := S.bnd_mono n k (by omega)
    have hlt : n + k < es'.length := by omega
    have he : es'[n + k]? = some es'[n + k] := List.getElem?_eq_getElem hlt
    have h1 := (S.states_len (n + k) (by omega)).2
    have hem := List.getElem_mem hlt
    rw [show n + (k + 1) = (n + k) + 1 from rfl, bndS_succ he]
    have f0 : 0 ≤ fsS es' (getD d) es'[n + k].name := by
      rw [← pn_full S.beh S.v'.nodup hem]
      exact pn_nonneg' S.so.pos S.fsn _
    have h2 : bndS es' (fsS es' (getD d)) (n + k) * 1 ≤ bndS es' (fsS es' (getD d)) (n + k) * (if es'[n + k].parts ≠ [] then fsS es' (getD d) es'[n + k].name + 1 else 1) := Int.mul_le_mul_of_nonneg_left (by split <;> omega) (by omega)
    omega
theorem ixN_natY {n i : Nat} (h : i < n) : ixN n (i : Int) = some i := by
  unfold ixN
  rw [if_pos (by omega), if_pos (by omega)]
  rfl
theorem amt_ones_take {ps : List Str} {q : Nat} {p : Str} (h : ps[q]? = some p) (x : Str) : amt (ones (ps.take (q + 1))) x = amt (ones (ps.take q)) x + if p = x then 1 else 0 := by
  unfold ones
  rw [take_snoc h, List.map_append, amt_append, List.map_singleton, amt_cons]
  show _ + ((if p = x then (1 : Int) else 0) + 0) = _
  omega
theorem cutsOf_put {es : List Ent} (nd : (es.map (·.name)).Nodup) {n : Nat} {e : Ent} (he : es[n]? = some e) (u : Num) (k : Int) : cutsOf es (n + 1) (put u e.name k) = cutsOf es n u ++ [k] := by
  unfold cutsOf
  rw [take_snoc he, List.map_append, List.map_singleton, getD_put, if_pos rfl]
  congr 1
  refine List.map_congr_left fun x hx => ?_
  rw [getD_put, if_neg]
  intro z
  obtain ⟨i, hi⟩ := List.mem_iff_getElem?.mp hx
  rw [List.getElem?_take] at hi
  by_cases l : i < n
  · rw [if_pos l] at hi
    have := name_ix nd hi he z
    omega
  · rw [if_neg l] at hi
    cases hi
theorem haveOf_put {es : List Ent} (nd : (es.map (·.name)).Nodup) {e : Ent} (he : e ∈ es) (st u : Num) (hz : getD u e.name = 0) (k : Int) : haveOf es st (put u e.name k) = es.map fun x => pn es st u x.name + k * amt (ones e.parts) x.name := by
  unfold haveOf
  exact List.map_congr_left fun x _ => pn_put0 nd he st u hz k x.name
theorem set_mapE {es : List Ent} (nd : (es.map (·.name)).Nodup) {j : Nat} {e : Ent} (he : es[j]? = some e) (w : Str → Int) (z : Int) : (es.map fun x => w x.name).set j (w e.name + z) = es.map fun x => w x.name + if e.name = x.name then z else 0 := by
  refine List.ext_getElem? fun i => ?_
  rw [List.getElem?_set, List.getElem?_map]
  by_cases h : j = i
  · subst h
    rw [if_pos rfl, if_pos (by rw [List.length_map]; exact (List.getElem?_eq_some_iff.mp he).1), List.getElem?_map, he]
    show some _ = some (w e.name + if e.name = e.name then z else 0)
    rw [if_pos rfl]
  · rw [if_neg h, List.getElem?_map]
    cases q : es[i]? with
    | none => rfl
    | some x =>
      show some _ = some (w x.name + if e.name = x.name then z else 0)
      rw [if_neg fun y => h (name_ix nd he q y), Int.add_zero]
theorem ChAt.gr {Tb : List (Addr × Str)} {es : List Ent} {st : Num} {n : Nat} {H H' : Hp} (g : Gr Tb H H') {v : V} {t : Num} (h : ChAt es st n H v t) : ChAt es st n H' v t := by
  obtain ⟨p, a, b, e, h1, h2, h3⟩ := h
  exact ⟨p, a, b, e, g.at h1 .tup, g.at h2 .lst, g.at h3 .lst⟩
/-- away from the list that grows -/
def ChX (l : Addr) (es : List Ent) (st : Num) (n : Nat) (H : Hp) (v : V) (t : Num) : Prop := ∃ p a b, v = .ref p ∧ a ≠ l ∧ b ≠ l ∧ H p = some (.tup [.ref a, .ref b]) ∧ H a = some (.lst ((cutsOf es n t).map V.int)) ∧ H b = some (.lst ((haveOf es st t).map V.int))
theorem ChX.gr {Tb : List (Addr × Str)} {l : Addr} {es : List Ent} {st : Num} {n : Nat} {H H' : Hp} (g : Gr Tb H H') {v : V} {t : Num} (h : ChX l es st n H v t) : ChX l es st n H' v t := by
  obtain ⟨p, a, b, e, n1, n2, h1, h2, h3⟩ := h
  exact ⟨p, a, b, e, n1, n2, g.at h1 .tup, g.at h2 .lst, g.at h3 .lst⟩
theorem ChX.put {l : Addr} {es : List Ent} {st : Num} {n : Nat} {H : Hp} {xs ys : List V} (hl : H l = some (.lst xs)) {v : V} {t : Num} (h : ChX l es st n H v t) : ChX l es st n (upd H l (.lst ys)) v t := by
  obtain ⟨p, a, b, e, n1, n2, h1, h2, h3⟩ := h
  refine ⟨p, a, b, e, n1, n2, ?_, ?_, ?_⟩
  · rw [upd_ne fun z => by rw [z, hl] at h1; cases h1]
    exact h1
  · rw [upd_ne n1]
    exact h2
  · rw [upd_ne n2]
    exact h3
theorem ChX.at {l : Addr} {es : List Ent} {st : Num} {n : Nat} {H : Hp} {v : V} {t : Num} (h : ChX l es st n H v t) : ChAt es st n H v t := by
  obtain ⟨p, a, b, e, n1, n2, h1, h2, h3⟩ := h
  exact ⟨p, a, b, e, h1, h2, h3⟩
section
variable {P : Program} {w : World} {K : PySem.W.Frag} {mg : Str → Option Value} {base : Heap} {Tb : List (Addr × Str)}
theorem ok_law_all_cuts {f : Addr} {fd : FuncData} (F : FnP K "_law_all_cuts" s_law_all_cuts f fd) (T : Tx K mg) (G_law_full : Fn P w K mg base "_law_full" 5 ["rows", "shelf"] (sp_law_full Tb K)) (G_law_sorted : Fn P w K mg base "_law_sorted" 4 ["rows"] (sp_law_sorted Tb K)) : FnOk P w K mg base CX0 6 f fd ["rows", "shelf"] (sp_law_all_cuts Tb K) := by
  refine F.ok sc_law_all_cuts (fun vs H Q E h => ?_) (fun cdv A outer s H vs Q E hr h => ?_)
  · obtain ⟨_, _, _, _, _, rfl, _⟩ := h
    rfl
  · obtain ⟨a, b, xs, es, st, rfl, ha, hc, hb, ht, hv, so, hz, hT, kN, k⟩ := h
    refine ⟨_, PSs.nox (pss_cons (ps_set (i := 2) sc_law_all_cuts.nd rfl (Or.inl rfl) (pe_fn G_law_full (hr.mono (by decide)) (pa_cons (pv 0) (pa_cons (pv 1) pa_nil))))
      (pss_cons (ps_set (i := 3) sc_law_all_cuts.nd rfl (Or.inl rfl) (pe_fn G_law_sorted (hr.mono (by decide)) (pa_cons (pv 0) pa_nil)))
      (pss_cons (ps_set (i := 4) sc_law_all_cuts.nd rfl (Or.inl rfl) (pe_callTy (dictP (K := K) rfl rfl) (by rfl) T.n_dict (by decide +kernel) (pa_cons (pe_lc (own := [("place", 10), ("row", 17)]) (g := (gTup K 2 (gCons (gName 10) (gCons (gName 17) gNil)))) (tt := tYes) rfl sc_law_all_cuts.nd (piEnum (K := K) rfl (by rfl) T.n_enumerate (pa_cons (pv 3) pa_nil)) (blkOk_by (N := N_law_all_cuts) (sc := (defScope s_law_all_cuts)) (by decide +kernel)) (fun _ _ _ _ _ => (pg_tup rfl (pgs_cons (pg_name (i := 10) sc_law_all_cuts.nd rfl (Or.inl rfl)) (pgs_cons (pg_name (i := 17) sc_law_all_cuts.nd rfl (Or.inl rfl)) pgs_nil)))) (fun _ _ _ _ _ => pts_nil) (fun _ _ _ _ _ => (pe_tup (pa_cons (pe_ix (ixT (K := K) rfl) (pv 17) pe_int (fun _ _ => rfl)) (pa_cons (pv 10) pa_nil))))) pa_nil)))
      (pss_cons (ps_set (i := 5) sc_law_all_cuts.nd rfl (Or.inl rfl) pe_int)
      (pss_cons (ps_for PassesOwn.never rfl (piL (K := K) rfl (pv 3)) (pg_tup rfl (pgs_cons (pg_name (i := 7) sc_law_all_cuts.nd rfl (Or.inl rfl)) (pgs_cons (pg_name (i := 8) sc_law_all_cuts.nd rfl (Or.inl rfl)) (pgs_cons (pg_name (i := 9) sc_law_all_cuts.nd rfl (Or.inl rfl)) pgs_nil)))) (pss_one (ps_set (i := 5) sc_law_all_cuts.nd rfl (Or.inl rfl) (pe_op op_mul (pv 5) (pe_ifExp (pt_cmpR (opNeNil (K := K) rfl hr.units) (pv 9) (pe_lst pa_nil) (nomark _)) (pe_op op_add (pe_dget (hu_of hr) (pv 2) (pv 7) (fun _ _ => rfl)) pe_int) pe_int)))))
      (pss_cons (ps_if (pt_cmpR op_gt (pv 5) pe_int (nomark _)) (pss_one (ps_ret pe_non)) pss_nil)
      (pss_cons (ps_set (i := 6) sc_law_all_cuts.nd rfl (Or.inl rfl) (pe_lst (pa_cons (pe_tup (pa_cons (pe_lst pa_nil) (pa_cons (pe_lc (own := [("name", 7), ("weight", 8), ("parts", 9)]) (g := (gTup K 3 (gCons (gName 7) (gCons (gName 8) (gCons (gName 9) gNil))))) (tt := tYes) rfl sc_law_all_cuts.nd (piL (K := K) rfl (pv 3)) (blkOk_by (N := N_law_all_cuts) (sc := (defScope s_law_all_cuts)) (by decide +kernel)) (fun _ _ _ _ _ => (pg_tup rfl (pgs_cons (pg_name (i := 7) sc_law_all_cuts.nd rfl (Or.inl rfl)) (pgs_cons (pg_name (i := 8) sc_law_all_cuts.nd rfl (Or.inl rfl)) (pgs_cons (pg_name (i := 9) sc_law_all_cuts.nd rfl (Or.inl rfl)) pgs_nil))))) (fun _ _ _ _ _ => pts_nil) (fun _ _ _ _ _ => (pe_dget2 (hu_of hr) (pv 1) (pv 7) pe_int ⟨rfl, rfl, rfl, rfl⟩))) pa_nil))) pa_nil)))
      (pss_cons (ps_for PassesOwn.never rfl (piEnum (K := K) rfl (by rfl) T.n_enumerate (pa_cons (pv 3) pa_nil)) (pg_tup rfl (pgs_cons (pg_name (i := 10) sc_law_all_cuts.nd rfl (Or.inl rfl)) (pgs_cons (pg_tup rfl (pgs_cons (pg_name (i := 7) sc_law_all_cuts.nd rfl (Or.inl rfl)) (pgs_cons (pg_name (i := 8) sc_law_all_cuts.nd rfl (Or.inl rfl)) (pgs_cons (pg_name (i := 9) sc_law_all_cuts.nd rfl (Or.inl rfl)) pgs_nil)))) pgs_nil))) (pss_cons (ps_set (i := 11) sc_law_all_cuts.nd rfl (Or.inl rfl) (pe_lst pa_nil))
        (pss_cons (ps_for PassesOwn.never rfl (piL (K := K) rfl (pv 6)) (pg_tup rfl (pgs_cons (pg_name (i := 12) sc_law_all_cuts.nd rfl (Or.inl rfl)) (pgs_cons (pg_name (i := 13) sc_law_all_cuts.nd rfl (Or.inl rfl)) pgs_nil))) (pss_one (ps_for PassesOwn.never rfl (pi_range1 (by rfl) T.n_range (pa_cons (pe_ifExp (pt_cmpR (opNeNil (K := K) rfl hr.units) (pv 9) (pe_lst pa_nil) (nomark _)) (pe_op op_add (pe_ix (ixL (K := K) rfl) (pv 13) (pv 10) (fun _ _ => rfl)) pe_int) pe_int) pa_nil)) (pg_name (i := 14) sc_law_all_cuts.nd rfl (Or.inl rfl)) (pss_cons (ps_set (i := 15) sc_law_all_cuts.nd rfl (Or.inl rfl) (pe_callTy (listOf (K := K) rfl) (by rfl) T.n_list (by decide +kernel) (pa_cons (pv 13) pa_nil)))
            (pss_cons (ps_for PassesOwn.never rfl (piL (K := K) rfl (pv 9)) (pg_name (i := 16) sc_law_all_cuts.nd rfl (Or.inl rfl)) (pss_one (ps_asg (pe_op op_add (pe_ix (ixL (K := K) rfl) (pv 15) (pe_dget (hu_of hr) (pv 4) (pv 16) (fun _ _ => rfl)) (fun _ _ => rfl)) (pv 14)) (pg_sub (pv 15) (pe_dget (hu_of hr) (pv 4) (pv 16) (fun _ _ => rfl)) set_list))))
            (pss_one (ps_expr (peBm (K := K) rfl PySem.F.plainAttrs_list PySem.F.slot_list_append PySem.F.type_list_append mt_append (pv 11) (pa_cons (pe_tup (pa_cons (pe_op op_cat (pv 12) (pe_lst (pa_cons (pv 14) pa_nil))) (pa_cons (pv 15) pa_nil))) pa_nil)))))))))
        (pss_one (ps_set (i := 6) sc_law_all_cuts.nd rfl (Or.inl rfl) (pv 11))))))
      (pss_one (ps_ret (pv 6))))))))))), ?_⟩
    have hlen := Paired.len hc
    have hz64 : es.length < 64 := by omega
    refine ⟨_, rfl, _, rfl, a, b, xs, es, st, rfl, ha, hc, hb, ht, hv, fun F H1 es' hp ho g1 nF hF => ?_⟩
    have S : Sit es es' st := ⟨hv, hp, ho, so, hz64⟩
    have hel := hp.length_eq
    have hv' := hv.perm hp
    refine ⟨_, rfl, a, xs, es, rfl, g1.ext_seq ha, CatAt.gr g1 hc, g1.tab ht, by omega, fun s H2 ys es2 p2 o2 hyx hc2 g2 hs => ?_⟩
    have e2 : es2 = es' := ordered_unique (p2.trans hp.symm) o2 ho ((p2.map _).nodup_iff.mpr hv.nodup)
    subst e2
    have gs : Gr Tb H2 (upd H2 s (.lst ys)) := Gr.new hs
    have hs3 : (upd H2 s (.lst ys)) s = some (.lst ys) := upd_same
    have g13 := (g1.trans g2).trans gs
    have hF3 := (g2.trans gs).at hF .dK
    have hc3 := CatAt.gr ((g2.trans gs)) hc2
    generalize upd H2 s (.lst ys) = H3 at hs3 hc3 g13 hF3
    have hyl := Paired.len hc3
    refine goN ?_
    dsimp only
    -- places
    have nd' := hv'.nodup
    refine ⟨_, rfl, s, _, rfl, SqL.of hs3, fun D hD => lc_relN (Tb := Tb) (walk_enum (xs := ys)) (fun _ => true) (PlAt' es2) (fun H H' i y m r => ?_) hD (by omega) (fun H' g => SqL.of (g.at hs3 .lst)) (fun i H x H' hy => ?_) (fun i x H9 H10 hi g10 hy Rk Rs hk hs' => ?_) fun H4 zs g4 hD4 hzs => ?_⟩
    · obtain ⟨e, t, he, rfl, h2⟩ := r
      exact ⟨e, t, he, rfl, m _ _ .tup (.inl fun l z => by cases z) h2⟩
    · obtain ⟨T, u, v, e0, e1, e2, e3, e4⟩ := hy
      subst e2
      exact Gr.new e1
    · obtain ⟨T, u, v, e0, e1, e2, e3, e4⟩ := hy
      subst e2
      subst e0
      obtain ⟨e', he', t, lp, rfl, htp, hlp⟩ := Paired.at hc3 (show ys[i]? = some v from e4)
      cases (show some (V.int (i : Nat)) = some u from e3)
      refine gtup2 upd_same ⟨rfl, _, rfl, t, _, _, _, rfl, rfl, SqT.of (g10.at htp .tup), atI_nat (j := 0) rfl, ?_⟩
      refine ⟨_, rfl, by show 2 ≤ sizeLine; decide, fun t2 ht2 => hk _ _ rfl (Gr.new ht2) ⟨e', t2, he', rfl, upd_same⟩⟩
    rw [hyl] at hzs
    obtain ⟨ps, rfl, pp⟩ := pl_dict (K := K) hzs
    refine ⟨D, ps, dS (plN es2), rfl, SqL.of hD4, pp, fun pl hpl => ?_⟩
    rw [merge_new (by rw [plN_names]; exact nd')]
    have gp : Gr Tb H4 (upd H4 pl (.dK (dS (plN es2)))) := Gr.new hpl
    have hpl5 : (upd H4 pl (.dK (dS (plN es2)))) pl = some (.dK (dS (plN es2))) := upd_same
    have g35 := g4.trans gp
    generalize upd H4 pl (.dK (dS (plN es2))) = H5 at hpl5 g35
    clear hD4 hzs pp gp hpl hD
    refine goN ?_
    dsimp only
    refine goN ?_
    dsimp only
    refine goN ?_
    dsimp only
    -- bound
    have T10 : totI es2 st ≤ 10 := hT es2 hp ho
    have bnd : ∀ n, n ≤ es2.length → bndS es2 (fsS es2 (getD st)) n ≤ 1771561 := fun n hn => by
      have h1 := S.bnd_le T10 n hn
      have h2 : (11 : Int) ^ n ≤ 11 ^ 6 := by
        have : 11 ^ n ≤ 11 ^ 6 := Nat.pow_le_pow_right (by decide) (by omega)
        exact_mod_cast this
      have h3 : (11 : Int) ^ 6 = 1771561 := by decide
      omega
    have hF5 := g35.at hF3 .dK
    have hs5 := g35.at hs3 .lst
    have hc5 := CatAt.gr g35 hc3
    have g15 := g13.trans g35
    clear g1 g2 gs g13 g35 hF3 hs3 hc3 hF hc2 hs hyx
    refine sq_st (fun σ H' => ∃ s7 s8 s9 : Option V, σ = [some (.ref a), some (.ref b), some (.ref F), some (.ref s), some (.ref pl), some (.int (bndS es2 (fsS es2 (getD st)) es2.length)), none, s7, s8, s9, none, none, none, none, none, none, none, none] ∧ Gr Tb H5 H') (fun N hN => ?_) ?_
    · refine ⟨_, rfl, s, rfl, ⟨_, SqL.of hs5⟩, for_list (K := K) (a := s) (xs := ys) (fun i σ H' => ∃ s7 s8 s9 : Option V, σ = [some (.ref a), some (.ref b), some (.ref F), some (.ref s), some (.ref pl), some (.int (bndS es2 (fsS es2 (getD st)) i)), none, s7, s8, s9, none, none, none, none, none, none, none, none] ∧ Gr Tb H5 H')
        ⟨_, _, _, rfl, Gr.refl _⟩ (fun i σ H' _ ⟨_, _, _, _, g⟩ => SqL.of (g.at hs5 .lst)) ?_ (fun σ H' ⟨s7, s8, s9, e, g⟩ => hN _ _ ⟨s7, s8, s9, by rw [e, hyl], g⟩)⟩
      rintro i x σ H6 hx ⟨s7, s8, s9, rfl, g6⟩
      obtain ⟨e, he, t, lp, rfl, htp, hlp⟩ := Paired.at hc5 hx
      have hem := List.mem_of_getElem? he
      refine gtup3 (g6.at htp .tup) ?_
      have hnm : e.name ∈ es.map (·.name) := List.mem_map.mpr ⟨e, hp.mem_iff.mp hem, rfl⟩
      have hi : i < es2.length := (List.getElem?_eq_some_iff.mp he).1
      have b1 := bnd i (by omega)
      have b2 := (S.states_len i (by omega)).2
      refine ⟨_, rfl, _, rfl, rd_nil (SqL.of (g6.at hlp .lst)) fun p0 hp0 => ⟨_, rfl, ?_⟩⟩
      have g7 := g6.trans (Gr.new (T := Tb) (o := .lst []) hp0)
      generalize upd H6 p0 (.lst []) = H7 at g7
      by_cases pe : e.parts = []
      · refine iteFb (by rw [pe]; rfl) ?_
        refine ⟨_, _, rfl, rfl, .inr ⟨by decide, by decide⟩, some (.str e.name), some (.int e.w), some (.ref lp), ?_, g7⟩
        rw [bndS_succ he, if_neg (fun z => z pe)]
        rfl
      · refine iteTb (by cases q : e.parts with | nil => exact absurd q pe | cons _ _ => rfl) ?_
        refine ⟨_, rfl, _, rfl, F, _, rfl, dgetS (g7.at hF5 .dK) (get?_numOf hnm), _, _, rfl, rfl, _, _, rfl, rfl, .inl ⟨by omega, by omega⟩, some (.str e.name), some (.int e.w), some (.ref lp), ?_, g7⟩
        rw [bndS_succ he, if_pos pe]
        rfl
    rintro σ H6 ⟨s7, s8, s9, rfl, g6⟩
    have SL := S.states_len es2.length (Nat.le_refl _)
    have SB : ∀ n, n ≤ es2.length → bndS es2 (fsS es2 (getD st)) n ≤ bndS es2 (fsS es2 (getD st)) es2.length := fun n hn => Int.le_trans (S.bnd_mono n (es2.length - n) (by omega)) (by rw [show n + (es2.length - n) = es2.length by omega]; exact Int.le_refl _)
    generalize bndS es2 (fsS es2 (getD st)) es2.length = B at SL SB
    refine sq_st (fun σ' H' => B ≤ 2000 ∧ σ' = [some (.ref a), some (.ref b), some (.ref F), some (.ref s), some (.ref pl), some (.int B), none, s7, s8, s9, none, none, none, none, none, none, none, none] ∧ H' = H6) (fun N hN => ?_) ?_
    · refine ⟨_, rfl, _, _, rfl, rfl, _, rfl, ?_⟩
      refine ite2 (fun c1 => ?_) (fun c1 => ?_)
      · exact kN _ (g15.trans g6)
      · have : ¬ 2000 < B := fun z => c1 (decide_eq_true z)
        exact hN _ _ ⟨by omega, rfl, rfl⟩
    rintro σ' H6' ⟨B2, rfl, rfl⟩
    have SLn : ∀ n, n ≤ es2.length → (statesS es2 st n).length ≤ 2000 := fun n hn => by
      have h1 := (S.states_len n hn).1
      have h2 := SB n hn
      omega
    have hs6 := g6.at hs5 .lst
    have hc6 := CatAt.gr g6 hc5
    have hpl6 := g6.at hpl5 .dK
    have g16 := g15.trans g6
    clear g6 g15 hs5 hc5 hpl5 hF5
    -- found
    refine ⟨Nat.zero_le _, fun c0 hc0 => ?_⟩
    have g7 : Gr Tb H6' (upd H6' c0 (.lst [])) := Gr.new hc0
    have hc7 : (upd H6' c0 (.lst [])) c0 = some (.lst []) := upd_same
    generalize upd H6' c0 (.lst []) = H7 at g7 hc7
    refine ⟨_, rfl, s, rfl, ⟨_, SqL.of (g7.at hs6 .lst)⟩, fun D hD => lc_fm (Tb := Tb) (xs := ys) walk_list rfl (fun v => (itemAt H6' 0 v).bind (strV fun x => .int (getD st x))) hD (by omega) (fun H' g => SqL.of ((g7.trans g).at hs6 .lst)) (fun j v H' hvj g Rk Rs hk hs => ?_) fun H8 g8 hD8 => ?_⟩
    · obtain ⟨e, he, t, lp, rfl, htp, hlp⟩ := Paired.at hc6 hvj
      have hb' := (g16.trans (g7.trans g)).at hb .dK
      refine gtup3 ((g7.trans g).at htp .tup) ⟨rfl, _, rfl, b, rfl, IsD.num hb', _, rfl, _, dgetO hb' e.name, ?_⟩
      rw [getO]
      exact hk _ _ (by rw [itemAt_tup htp]; rfl) (Gr.refl _)
    have eD : ys.filterMap (fun v => (itemAt H6' 0 v).bind (strV fun x => .int (getD st x))) = (haveOf es2 st (numOf es2 fun _ => 0)).map V.int := by
      have h0 : haveOf es2 st (numOf es2 fun _ => 0) = es2.map fun e => getD st e.name := by
        unfold haveOf
        exact List.map_congr_left fun e _ => by
          rw [← pn_nil es2 st e.name]
          exact pn_same fun y hy => .inl (getD_numOf (List.mem_map.mpr ⟨y, hy, rfl⟩))
      rw [h0, List.map_map, ← List.filterMap_eq_map]
      refine fm_pairedO (fun v e hv => ?_) hc6
      obtain ⟨t, lp, rfl, htp, hlp⟩ := hv
      rw [itemAt_tup htp]
      rfl
    rw [eD] at hD8
    refine ⟨by show 2 ≤ sizeLine; decide, fun t0 ht0 => ?_⟩
    have g9 : Gr Tb H8 (upd H8 t0 (.tup [.ref c0, .ref D])) := Gr.new ht0
    have ht9 : (upd H8 t0 (.tup [.ref c0, .ref D])) t0 = some (.tup [.ref c0, .ref D]) := upd_same
    have hD9 := g9.at hD8 .lst
    have hc9 := (g8.trans g9).at hc7 .lst
    have g79 := (g7.trans g8).trans g9
    generalize upd H8 t0 (.tup [.ref c0, .ref D]) = H9 at ht9 hD9 hc9 g79
    clear g7 g8 g9 hD8 hc7
    refine ⟨by show 1 ≤ sizeLine; decide, fun f0 hf0 => ?_⟩
    have gf := Gr.new (T := Tb) (o := .lst [.ref t0]) hf0
    have hf10 : (upd H9 f0 (.lst [.ref t0])) f0 = some (.lst [.ref t0]) := upd_same
    have g10 := g79.trans gf
    have nf0 : Nw H f0 := (g16.trans g79).nw (.of hf0)
    have hch0 : ChAt es2 st 0 (upd H9 f0 (.lst [.ref t0])) (.ref t0) (numOf es2 fun _ => 0) := ⟨t0, c0, D, rfl, gf.at ht9 .tup, gf.at hc9 .lst, gf.at hD9 .lst⟩
    generalize upd H9 f0 (.lst [.ref t0]) = H10 at hf10 g10 hch0
    clear gf ht9 hD9 hc9 g79
    refine goN ?_
    dsimp only
    refine ⟨_, rfl, s, ys, rfl, SqL.of (g10.at hs6 .lst), for_it (walk_enum (xs := ys)) (fun i σ H' => ∃ (f : Addr) (zs : List V) (s7 s8 s9 s10 s11 s12 s13 s14 s15 s16 : Option V), σ = [some (.ref a), some (.ref b), some (.ref F), some (.ref s), some (.ref pl), some (.int B), some (.ref f), s7, s8, s9, s10, s11, s12, s13, s14, s15, s16, none] ∧ Gr Tb H6' H' ∧ Nw H f ∧ H' f = some (.lst zs) ∧ Paired (ChAt es2 st i H') zs (statesS es2 st i))
      ⟨f0, [.ref t0], _, _, _, _, _, _, _, _, _, _, rfl, g10, nf0, hf10, .cons hch0 .nil⟩ (fun i σ H' _ ⟨_, _, _, _, _, _, _, _, _, _, _, _, _, g, _⟩ => SqL.of (g.at hs6 .lst)) ?_ ?_⟩
    · rintro i x σ H11 H11' hi ⟨f, zs, s7, s8, s9, s10, s11, s12, s13, s14, s15, s16, rfl, g11, nf, hf, hzs⟩ hy
      obtain ⟨T, u0, v0, e0, e1, e2, e3, e4⟩ := hy
      subst e2
      subst e0
      obtain ⟨e, he, t, lp, rfl, htp, hlp⟩ := Paired.at hc6 (show ys[i]? = some v0 from e4)
      cases (show some (V.int (i : Nat)) = some u0 from e3)
      have hem := List.mem_of_getElem? he
      have hi2 : i < es2.length := (List.getElem?_eq_some_iff.mp he).1
      have gT : Gr Tb H11 (upd H11 T (.tup [.int (i : Nat), .ref t])) := Gr.new e1
      have hT2 : (upd H11 T (.tup [.int (i : Nat), .ref t])) T = some (.tup [.int (i : Nat), .ref t]) := upd_same
      have g12 := g11.trans gT
      have hf12 := gT.at hf .lst
      have hzs12 := Paired.imp (fun _ _ h => ChAt.gr gT h) hzs
      generalize upd H11 T (.tup [.int (i : Nat), .ref t]) = H12 at hT2 g12 hf12 hzs12
      refine ⟨T, _, rfl, SqT.of hT2, rfl, _, _, rfl, _, _, rfl, gtup3 (g12.at htp .tup) ⟨rfl, ?_⟩⟩
      refine ⟨Nat.zero_le _, fun l hl => ?_⟩
      refine goN ?_
      dsimp only
      have gl : Gr Tb H12 (upd H12 l (.lst [])) := Gr.new hl
      have nl : Nw H12 l := .of hl
      have hl0 : (upd H12 l (.lst [])) l = some (.lst []) := upd_same
      have alive : ∀ {x : Addr} {o : HO}, H12 x = some o → x ≠ l := fun h z => by rw [z, hl] at h; cases h
      generalize upd H12 l (.lst []) = H13 at gl hl0
      have fitS := states_fit (st := st) hv' ho i (by omega)
      have stN := statesS_st es2 st i
      have lenS := SLn (i + 1) (by omega)
      rw [statesS_succ he] at lenS
      have len0 := SLn i (by omega)
      have hzl := Paired.len hzs12
      refine sq_st (fun σ H' => ∃ (ls : List V) (s12 s13 s14 s15 s16 : Option V), σ = [some (.ref a), some (.ref b), some (.ref F), some (.ref s), some (.ref pl), some (.int B), some (.ref f), some (.str e.name), some (.int e.w), some (.ref lp), some (.int (i : Nat)), some (.ref l), s12, s13, s14, s15, s16, none] ∧ Gr Tb H12 H' ∧ H' l = some (.lst ls) ∧ Paired (ChX l es2 st (i + 1) H') ls (growS es2 st (statesS es2 st i) e)) (fun N hN => ?_) ?_
      · refine ⟨_, rfl, f, rfl, ⟨_, SqL.of (gl.at hf12 .lst)⟩, for_list (K := K) (a := f) (xs := zs) (fun j σ H' => ∃ (ls : List V) (s12 s13 s14 s15 s16 : Option V), σ = [some (.ref a), some (.ref b), some (.ref F), some (.ref s), some (.ref pl), some (.int B), some (.ref f), some (.str e.name), some (.int e.w), some (.ref lp), some (.int (i : Nat)), some (.ref l), s12, s13, s14, s15, s16, none] ∧ Gr Tb H12 H' ∧ H' l = some (.lst ls) ∧ Paired (ChX l es2 st (i + 1) H') ls (growS es2 st ((statesS es2 st i).take j) e))
          ⟨[], _, _, _, _, _, rfl, gl, hl0, .nil⟩ (fun j σ H' _ ⟨_, _, _, _, _, _, _, g, _⟩ => SqL.of (g.at hf12 .lst)) ?_ ?_⟩
        · rintro j x σ H14 hxj ⟨ls, s12, s13, s14, s15, s16, rfl, g14, hl14, hls⟩
          obtain ⟨u, hu, p2, ca, hb2, rfl, hp2, hca, hhb⟩ := Paired.at hzs12 hxj
          have hum := List.mem_of_getElem? hu
          have hsz' := growS_le (es := es2) (st := st) (l := statesS es2 st i) (e := e) (j + 1)
          rw [growS_take hu, List.length_append, List.length_map, List.length_range] at hsz'
          have zl := Paired.len hls
          have z0 := (fitS u hum).out i e (Nat.le_refl _) he
          have supos := (stN u hum).pos
          have m0 : 0 ≤ mostS es2 st u e := by
            unfold mostS
            split
            · exact Int.le_refl _
            · exact pn_nonneg' so.pos supos _
          have ca1 := alive hca
          have hb1 := alive hhb
          refine gtup2 (g14.at hp2 .tup) ?_
          refine (show tIf _ _ _ _ _ _ from rd_post (fun v H' => v = .int (mostS es2 st u e + 1) ∧ Gr Tb H12 H' ∧ H' l = some (.lst ls) ∧ Paired (ChX l es2 st (i + 1) H') ls (growS es2 st ((statesS es2 st i).take j) e)) (fun Q' kq => ?_) ?_)
          · have hlp14 := (g12.trans g14).at hlp .lst
            refine ⟨_, rfl, rd_nil (SqL.of hlp14) fun p0 hp0 => ⟨_, rfl, ?_⟩⟩
            have gq := Gr.new (T := Tb) (o := .lst []) hp0
            have g15 := g14.trans gq
            have hl15 := gq.at hl14 .lst
            have hls15 := Paired.imp (fun _ _ h => ChX.gr gq h) hls
            generalize upd H14 p0 (.lst []) = H15 at g15 hl15 hls15
            by_cases pe : e.parts = []
            · refine iteFb (by rw [pe]; rfl) ?_
              exact kq _ _ ⟨by unfold mostS; rw [if_pos pe]; rfl, g15, hl15, hls15⟩
            · refine iteTb (by cases q : e.parts with | nil => exact absurd q pe | cons _ _ => rfl) ?_
              refine ⟨_, rfl, _, rfl, hb2, _, _, _, rfl, rfl, SqL.of (g15.at hhb .lst), atI_nat (j := i) (by unfold haveOf; rw [List.getElem?_map, List.getElem?_map, he]; rfl), _, _, rfl, rfl, kq _ _ ⟨by unfold mostS; rw [if_neg pe], g15, hl15, hls15⟩⟩
          · rintro v H15 ⟨rfl, g15, hl15, hls15⟩
            refine ⟨_, rfl, by omega, by omega, for_range (lo := 0) (n := (mostS es2 st u e + 1).toNat) (fun k' σ H' => ∃ (ls : List V) (s14 s15 s16 : Option V), σ = [some (.ref a), some (.ref b), some (.ref F), some (.ref s), some (.ref pl), some (.int B), some (.ref f), some (.str e.name), some (.int e.w), some (.ref lp), some (.int (i : Nat)), some (.ref l), some (.ref ca), some (.ref hb2), s14, s15, s16, none] ∧ Gr Tb H12 H' ∧ H' l = some (.lst ls) ∧ Paired (ChX l es2 st (i + 1) H') ls (growS es2 st ((statesS es2 st i).take j) e ++ (List.range k').map fun (k : Nat) => put u e.name (k : Int)))
              ⟨ls, _, _, _, rfl, g15, hl15, by rw [List.range_zero, List.map_nil, List.append_nil]; exact hls15⟩ ?_ ?_⟩
            · rintro k' σ H16 hk' ⟨ls6, s14, s15, s16, rfl, g16', hl16, hls16⟩
              have zl6 := Paired.len hls16
              rw [List.length_append, List.length_map, List.length_range] at zl6
              refine goN ?_
              dsimp only
              have hhb16 := g16'.at hhb .lst
              have hca16 := g16'.at hca .lst
              refine ⟨_, rfl, hb2, _, rfl, .inl (SqL.of hhb16), fun la hla => ?_⟩
              refine goN ?_
              dsimp only
              have ga : Gr Tb H16 (upd H16 la (.lst ((haveOf es2 st u).map V.int))) := Gr.new hla
              have nla : Nw H16 la := .of hla
              have lal : la ≠ l := fun z => by rw [z, hl16] at hla; cases hla
              have hla0 : (upd H16 la (.lst ((haveOf es2 st u).map V.int))) la = some (.lst ((haveOf es2 st u).map V.int)) := upd_same
              generalize upd H16 la (.lst ((haveOf es2 st u).map V.int)) = H17 at ga hla0
              have hlp16 := (g12.trans g16').at hlp .lst
              have hpl16 := (g12.trans g16').at hpl6 .dK
              refine sq_st (fun σ H' => ∃ s16 : Option V, σ = [some (.ref a), some (.ref b), some (.ref F), some (.ref s), some (.ref pl), some (.int B), some (.ref f), some (.str e.name), some (.int e.w), some (.ref lp), some (.int (i : Nat)), some (.ref l), some (.ref ca), some (.ref hb2), some (.int (0 + (k' : Int))), some (.ref la), s16, none] ∧ Gr Tb H16 H' ∧ H' la = some (.lst ((haveOf es2 st (put u e.name (k' : Int))).map V.int))) (fun N2 hN2 => ?_) ?_
              · refine ⟨_, rfl, lp, rfl, ⟨_, SqL.of (ga.at hlp16 .lst)⟩, for_list (K := K) (a := lp) (xs := e.parts.map V.str) (fun q σ H' => ∃ s16 : Option V, σ = [some (.ref a), some (.ref b), some (.ref F), some (.ref s), some (.ref pl), some (.int B), some (.ref f), some (.str e.name), some (.int e.w), some (.ref lp), some (.int (i : Nat)), some (.ref l), some (.ref ca), some (.ref hb2), some (.int (0 + (k' : Int))), some (.ref la), s16, none] ∧ Gr Tb H16 H' ∧ H' la = some (.lst ((es2.map fun x => pn es2 st u x.name + (k' : Int) * amt (ones (e.parts.take q)) x.name).map V.int)))
                  ⟨_, rfl, ga, ?_⟩ (fun q σ H' _ ⟨_, _, g, _⟩ => SqL.of (g.at hlp16 .lst)) ?_ ?_⟩
                · rw [hla0]
                  unfold haveOf
                  congr 3
                  refine List.map_congr_left fun x _ => ?_
                  rw [List.take_zero]
                  show _ = _ + (k' : Int) * 0
                  omega
                · rintro q y σ H18 hy ⟨s16, rfl, g18, hla18⟩
                  rw [List.getElem?_map] at hy
                  cases hq2 : e.parts[q]? with
                  | none => rw [hq2] at hy; cases hy
                  | some q2 =>
                    rw [hq2] at hy
                    cases hy
                    obtain ⟨jx, xe, hjx, hxe, hxn⟩ := parts_behind (hv'.behind ho) he q2 (List.mem_of_getElem? hq2)
                    have gp : get? (plN es2) q2 = some (jx : Int) := by rw [← hxn]; exact plN_get nd' hxe
                    have hjl : jx < es2.length := (List.getElem?_eq_some_iff.mp hxe).1
                    have hpl18 := g18.at hpl16 .dK
                    refine ⟨_, rfl, _, rfl, _, rfl, pl, _, rfl, dgetS hpl18 gp, la, _, _, _, rfl, rfl, SqL.of hla18, atI_nat (j := jx) (by rw [List.getElem?_map, List.getElem?_map, hxe]; rfl), _, rfl, _, _, rfl, rfl, ?_⟩
                    refine ⟨_, rfl, _, rfl, _, rfl, pl, _, rfl, dgetS hpl18 gp, la, _, _, jx, rfl, rfl, hla18, ?_, ?_⟩
                    · rw [List.length_map, List.length_map]
                      exact ixN_natY hjl
                    · refine ⟨_, rfl, g18.mut nla hla18 .lst, ?_⟩
                      rw [upd_same]
                      have h1 := set_mapE nd' hxe (fun x => pn es2 st u x + (k' : Int) * amt (ones (e.parts.take q)) x) (k' : Int)
                      have h2 : (es2.map fun x => pn es2 st u x.name + (k' : Int) * amt (ones (e.parts.take (q + 1))) x.name) = es2.map fun x => (pn es2 st u x.name + (k' : Int) * amt (ones (e.parts.take q)) x.name) + if xe.name = x.name then (k' : Int) else 0 := List.map_congr_left fun x _ => by
                        rw [amt_ones_take hq2, hxn]
                        split
                        · rw [Int.mul_add]
                          omega
                        · rw [Int.mul_add]
                          omega
                      rw [h2, ← h1, List.map_set, Int.zero_add] <;> rfl
                · rintro σ H18 ⟨s16, rfl, g18, hla18⟩
                  refine hN2 _ _ ⟨_, rfl, g18, ?_⟩
                  rw [hla18, List.length_map, List.take_length, haveOf_put nd' hem st u z0]
              rintro σ H18 ⟨s16, rfl, g18, hla18⟩
              have hl18 := g18.at hl16 .lst
              refine ⟨_, rfl, .inl ⟨rfl, _, SqL.of hl18⟩, ?_⟩
              refine ⟨_, rfl, _, rfl, by show 1 ≤ sizeLine; decide, fun m1 hm1 => ?_⟩
              have gm := Gr.new (T := Tb) (o := .lst [.int (0 + (k' : Int))]) hm1
              have hm2 : (upd H18 m1 (.lst [.int (0 + (k' : Int))])) m1 = some (.lst [.int (0 + (k' : Int))]) := upd_same
              have hl19 := gm.at hl18 .lst
              have hca19 := (g18.trans gm).at hca16 .lst
              have hla19 := gm.at hla18 .lst
              have g19 := g18.trans gm
              generalize upd H18 m1 (.lst [.int (0 + (k' : Int))]) = H19 at hm2 hl19 hca19 hla19 g19
              have cl : (cutsOf es2 i u).length ≤ 64 := by
                unfold cutsOf
                rw [List.length_map, List.length_take]
                omega
              refine ⟨ca, m1, _, _, rfl, rfl, hca19, hm2, by rw [List.length_map, sizeLine_eq]; show _ + 1 ≤ _; omega, fun c2 hc2 => ?_⟩
              have c2l : c2 ≠ l := fun z => by rw [z, hl19] at hc2; cases hc2
              have ec : (cutsOf es2 i u).map V.int ++ [V.int (0 + (k' : Int))] = (cutsOf es2 (i + 1) (put u e.name (k' : Int))).map V.int := by
                rw [cutsOf_put nd' he, List.map_append, Int.zero_add]
                rfl
              rw [ec]
              have gc := Gr.new (T := Tb) (o := .lst ((cutsOf es2 (i + 1) (put u e.name (k' : Int))).map V.int)) hc2
              have hc20 : (upd H19 c2 (.lst ((cutsOf es2 (i + 1) (put u e.name (k' : Int))).map V.int))) c2 = some (.lst ((cutsOf es2 (i + 1) (put u e.name (k' : Int))).map V.int)) := upd_same
              have hl20 := gc.at hl19 .lst
              have hla20 := gc.at hla19 .lst
              have g20 := g19.trans gc
              generalize upd H19 c2 (.lst ((cutsOf es2 (i + 1) (put u e.name (k' : Int))).map V.int)) = H20 at hc20 hl20 hla20 g20
              refine ⟨_, rfl, by show 2 ≤ sizeLine; decide, fun T2 hT2 => ?_⟩
              have gt := Gr.new (T := Tb) (o := .tup [.ref c2, .ref la]) hT2
              have hT21 : (upd H20 T2 (.tup [.ref c2, .ref la])) T2 = some (.tup [.ref c2, .ref la]) := upd_same
              have hl21 := gt.at hl20 .lst
              have hla21 := gt.at hla20 .lst
              have hc21 := gt.at hc20 .lst
              have g21 := g20.trans gt
              generalize upd H20 T2 (.tup [.ref c2, .ref la]) = H21 at hT21 hl21 hla21 hc21 g21
              refine ⟨l, ls6, _, rfl, rfl, hl21, by rw [sizeLine_eq]; omega, ?_⟩
              refine ⟨ls6 ++ [.ref T2], _, _, _, rfl, (g16'.trans g21).mut nl hl21 .lst, upd_same, ?_⟩
              rw [List.range_succ, List.map_append, ← List.append_assoc]
              have hnew : ChX l es2 st (i + 1) H21 (.ref T2) (put u e.name (k' : Int)) := ⟨T2, c2, la, rfl, c2l, lal, hT21, hc21, hla21⟩
              exact Paired.app (Paired.imp (fun _ _ h => (h.gr g21).put hl21) hls16) (.cons (hnew.put hl21) .nil)
            · rintro σ H16 ⟨ls6, s14, s15, s16, rfl, g16', hl16, hls16⟩
              refine ⟨ls6, _, _, _, _, _, rfl, g16', hl16, ?_⟩
              rw [growS_take hu]
              exact hls16
        · rintro σ H14 ⟨ls, s12, s13, s14, s15, s16, rfl, g14, hl14, hls⟩
          rw [hzl, List.take_length] at hls
          exact hN _ _ ⟨ls, s12, s13, s14, s15, s16, rfl, g14, hl14, hls⟩
      · rintro σ H14 ⟨ls, s12, s13, s14, s15, s16, rfl, g14, hl14, hls⟩
        refine ⟨_, rfl, ?_⟩
        exact ⟨l, ls, _, _, _, _, _, _, _, _, _, _, rfl, g12.trans g14, (g16.trans g12).nw nl, hl14, by rw [statesS_succ he]; exact Paired.imp (fun _ _ h => h.at) hls⟩
    · rintro σ H11 ⟨f, zs, s7, s8, s9, s10, s11, s12, s13, s14, s15, s16, rfl, g11, nf, hf, hzs⟩
      rw [hyl] at hzs
      exact ⟨_, rfl, k f H11 es2 zs hp ho (g16.trans g11) nf hf (SLn _ (Nat.le_refl _)) hzs⟩
end
end Sk
namespace Sk
open PySem PySem.Spec PyProof.Rows L2
abbrev s_law_top : Stmt := topS 36
abbrev N_law_top : List Str := ["rows", "cuts", "have", "some", "row", "many", "there"]
theorem sc_law_top : FnScope N_law_top ["rows", "cuts", "have"] (defScope s_law_top) := ⟨rfl, rfl, rfl, by decide +kernel, rfl, by decide +kernel, by decide +kernel⟩
def sp_law_top (Tb : List (Addr × Str)) (K : PySem.W.Frag) : Sp := fun vs H Q _ => ∃ (a b c : Addr) (xs : List V) (es es' : List Ent) (f0 g0 : Str → Int), vs = [.ref a, .ref b, .ref c] ∧ SqL K H a xs ∧ CatAt H xs es ∧ LamX.Tabs Tb H ∧ Valid es ∧ es'.Perm es ∧ Ordered es' ∧ es.length ≤ 64 ∧ SqL K H b ((es'.map fun e => f0 e.name).map V.int) ∧ SqL K H c ((es'.map fun e => g0 e.name).map V.int) ∧
  ∀ H', Gr Tb H H' → Q (.int (hvy es fun x => g0 x - f0 x)) H'
theorem topv : ∀ (es : List Ent) (b : Str → Int), ((List.range es.length).filterMap fun i => es[i]?.bind fun e => if 0 < b e.name then some (V.int e.w) else none) = ((es.filter fun e => decide (0 < b e.name)).map (·.w)).map V.int
  | [], _ => rfl
  | e :: es, b => by
    rw [List.length_cons, List.range_succ_eq_map, List.filterMap_cons, List.filterMap_map, List.filter_cons]
    have ih := topv es b
    have e1 : ((fun i => (e :: es)[i]?.bind fun e => if 0 < b e.name then some (V.int e.w) else none) ∘ Nat.succ) = fun i => es[i]?.bind fun e => if 0 < b e.name then some (V.int e.w) else none := by
      funext i
      show ((e :: es)[i + 1]?.bind _) = _
      rw [List.getElem?_cons_succ]
    rw [e1, ih]
    rw [show ((e :: es)[0]?.bind fun e => if 0 < b e.name then some (V.int e.w) else none) = if 0 < b e.name then some (V.int e.w) else none from rfl]
    by_cases z : 0 < b e.name
    · rw [if_pos z, if_pos (decide_eq_true z)]
      rfl
    · rw [if_neg z, if_neg fun y => z (of_decide_eq_true y)]
section
variable {P : Program} {w : World} {K : PySem.W.Frag} {mg : Str → Option Value} {base : Heap} {Tb : List (Addr × Str)}
theorem ok_law_top {f : Addr} {fd : FuncData} (F : FnP K "_law_top" s_law_top f fd) (T : Tx K mg) (G_law_sorted : Fn P w K mg base "_law_sorted" 4 ["rows"] (sp_law_sorted Tb K)) : FnOk P w K mg base CX0 5 f fd ["rows", "cuts", "have"] (sp_law_top Tb K) := by
  refine F.ok sc_law_top (fun vs H Q E h => ?_) (fun cdv A outer s H vs Q E hr h => ?_)
  · obtain ⟨_, _, _, _, _, _, _, _, rfl, _⟩ := h
    rfl
  · obtain ⟨a, b, c, xs, es, es', f0, g0, rfl, ha, hc, ht, hv, hp, ho, hz, hb, hcc, k⟩ := h
    refine ⟨_, PSs.nox (pss_cons (ps_setLc (i := 3) (own := [("row", 4), ("many", 5), ("there", 6)]) (g := (gTup K 3 (gCons (gName 4) (gCons (gName 5) (gCons (gName 6) gNil))))) (tt := _) rfl sc_law_top.nd rfl rfl (sw_true rfl rfl rfl (by decide +kernel)) (piZip3 (K := K) rfl (by rfl) T.n_zip (pa_cons (pe_fn G_law_sorted (hr.mono (by decide)) (pa_cons (pv 0) pa_nil)) (pa_cons (pv 1) (pa_cons (pv 2) pa_nil)))) (blkOk_by (N := N_law_top) (sc := (defScope s_law_top)) (by decide +kernel)) (fun _ _ _ _ _ => (pg_tup rfl (pgs_cons (pg_name (i := 4) sc_law_top.nd rfl (Or.inl rfl)) (pgs_cons (pg_name (i := 5) sc_law_top.nd rfl (Or.inl rfl)) (pgs_cons (pg_name (i := 6) sc_law_top.nd rfl (Or.inl rfl)) pgs_nil))))) (fun _ _ _ _ _ => (pts_one (pt_cmpR op_gt (pv 6) (pv 5) (nomark _)))) (fun _ _ _ _ _ => (pe_ix (ixT (K := K) rfl) (pv 4) pe_int (fun _ _ => rfl))))
      (pss_one (ps_ret (pe_callB (crMax (K := K) rfl rfl) (by rfl) T.n_max (by decide +kernel) (pa_cons (pe_op op_cat (pv 3) (pe_lst (pa_cons pe_int pa_nil))) pa_nil))))), ?_⟩
    have hlen := Paired.len hc
    have nd' : (es'.map (·.name)).Nodup := (hp.map _).nodup_iff.mpr hv.nodup
    refine ⟨_, rfl, a, xs, es, rfl, ha, hc, ht, by omega, fun s H1 ys es2 p2 o2 hyx hc1 g1 hs => ?_⟩
    have e2 : es2 = es' := ordered_unique (p2.trans hp.symm) o2 ho ((p2.map _).nodup_iff.mpr hv.nodup)
    subst e2
    have gs : Gr Tb H1 (upd H1 s (.lst ys)) := Gr.new hs
    have hs2 : (upd H1 s (.lst ys)) s = some (.lst ys) := upd_same
    have g2 := g1.trans gs
    have hc2 := CatAt.gr g2 hc1
    generalize upd H1 s (.lst ys) = H2 at hs2 hc2 g2
    have hyl := Paired.len hc2
    refine ⟨_, rfl, _, rfl, s, b, c, ys, _, _, rfl, SqL.of hs2, g2.ext_seq hb, g2.ext_seq hcc, fun D hD => lc_gen (Tb := Tb) (walk_zip3 (K := K) (xs := ys) (n := es2.length) hyl (by rw [List.length_map, List.length_map]) (by rw [List.length_map, List.length_map])) (fun i => es2[i]?.bind fun e => if 0 < g0 e.name - f0 e.name then some (.int e.w) else none) hD (by have := p2.length_eq; omega) (fun H' g => ⟨SqL.of (g.at hs2 .lst), (g2.trans g).ext_seq hb, (g2.trans g).ext_seq hcc⟩) (fun i H x H' hy => ?_) (fun i x H9 H10 hi g10' hy Rk Rs hk hs' => ?_) fun H10 g10 hD10 => ?_⟩
    · obtain ⟨T, u, v, w, e0, e1, e2, e3, e4, e5⟩ := hy
      subst e2
      exact Gr.new e1
    · obtain ⟨T, u, v, w, e0, e1, e2, e3, e4, e5⟩ := hy
      subst e2
      subst e0
      have ht : es2[i]? = some es2[i] := List.getElem?_eq_getElem hi
      obtain ⟨e', he', t, lp, rfl, htp, hlp⟩ := Paired.at hc2 e3
      rw [ht] at he'
      cases he'
      rw [List.getElem?_map, List.getElem?_map, ht] at e4 e5
      cases e4
      cases e5
      have hd : (es2[i]?.bind fun e => if 0 < g0 e.name - f0 e.name then some (V.int e.w) else none) = if 0 < g0 es2[i].name - f0 es2[i].name then some (V.int es2[i].w) else none := by
        rw [ht]
        rfl
      have htp9 := g10'.at htp .tup
      refine gtup3 upd_same ⟨rfl, _, rfl, _, rfl, _, _, rfl, rfl, _, rfl, ?_⟩
      refine ite2 (fun c1 => ?_) (fun c1 => ?_)
      · have c2 : f0 es2[i].name < g0 es2[i].name := of_decide_eq_true c1
        exact ⟨_, rfl, t, _, _, _, rfl, rfl, SqT.of htp9, atI_nat (j := 1) rfl, hk _ _ (by rw [hd, if_pos (by omega)]) (Gr.refl _)⟩
      · exact hs' _ (by rw [hd, if_neg fun z => c1 (decide_eq_true (show f0 es2[i].name < g0 es2[i].name by omega))]) (Gr.refl _)
    have g11 := g2.trans g10
    have pl : ((List.range es2.length).filterMap fun i => es2[i]?.bind fun e => if 0 < g0 e.name - f0 e.name then some (V.int e.w) else none) = ((es2.filter fun e => decide (0 < g0 e.name - f0 e.name)).map (·.w)).map V.int := topv es2 fun x => g0 x - f0 x
    rw [pl] at hD10
    have ln : ((es2.filter fun e => decide (0 < g0 e.name - f0 e.name)).map (·.w)).length ≤ 64 := by
      rw [List.length_map]
      have := List.length_filter_le (fun e => decide (0 < g0 e.name - f0 e.name)) es2
      have := p2.length_eq
      omega
    refine ⟨_, rfl, by show 1 ≤ sizeLine; decide, fun l hl => ?_⟩
    have g8 : Gr Tb H10 (upd H10 l (.lst [.int 0])) := Gr.new hl
    refine ⟨D, l, _, _, rfl, rfl, g8.at hD10 .lst, upd_same, by rw [List.length_map, sizeLine_eq]; show _ + 1 ≤ _; omega, fun l2 hl2 => ?_⟩
    refine ⟨l2, (es2.filter fun e => decide (0 < g0 e.name - f0 e.name)).map (·.w) ++ [0], rfl, SqL.of ?_, by simp, fun m hm hle => ?_⟩
    · rw [upd_same, List.map_append]
      rfl
    · have e : m = hvy es fun x => g0 x - f0 x := by
        unfold hvy
        have h1 := hvy_ge (b := fun x => g0 x - f0 x) (es := es) (m := 0)
        have h2 : es.foldl (hvyE fun x => g0 x - f0 x) 0 ≤ m := hvy_le (hle _ (List.mem_append_right _ (List.mem_singleton.mpr rfl))) fun e he h0 => hle _ (List.mem_append_left _ (List.mem_map.mpr ⟨e, List.mem_filter.mpr ⟨p2.mem_iff.mpr he, decide_eq_true h0⟩, rfl⟩))
        have h3 : m ≤ es.foldl (hvyE fun x => g0 x - f0 x) 0 := by
          rcases List.mem_append.mp hm with h | h
          · obtain ⟨e, he, rfl⟩ := List.mem_map.mp h
            obtain ⟨a1, a2⟩ := List.mem_filter.mp he
            exact h1.2 e (p2.mem_iff.mp a1) (of_decide_eq_true a2)
          · rw [List.mem_singleton.mp h]
            exact h1.1
        omega
      rw [e]
      exact k _ ((g11.trans g8).trans (Gr.new hl2))
end
end Sk
namespace Sk
open PySem PySem.Spec PyProof.Rows L2
abbrev s_law_last : Stmt := topS 37
abbrev N_law_last : List Str := ["cuts", "place", "many"]
theorem sc_law_last : FnScope N_law_last ["cuts"] (defScope s_law_last) := ⟨rfl, rfl, rfl, by decide +kernel, rfl, by decide +kernel, by decide +kernel⟩
def ixI (c : List Int) (i : Nat) : Int := c.getD i 0
def sp_law_last (Tb : List (Addr × Str)) (K : PySem.W.Frag) : Sp := fun vs H Q _ => ∃ (a : Addr) (c : List Int), vs = [.ref a] ∧ SqL K H a (c.map V.int) ∧ c.length ≤ 64 ∧ ∀ H', Gr Tb H H' → Q (.int (lastN (ixI c) c.length)) H'
theorem ixI_at {c : List Int} {i : Nat} {v : Int} (h : c[i]? = some v) : ixI c i = v := by
  unfold ixI
  rw [List.getD_eq_getElem?_getD, h]
  rfl
/-- the places of what is not nought -/
def placesI (c : List Int) : List Int := (List.range c.length).filterMap fun i => if 0 < ixI c i then some (i : Int) else none
theorem placesI_mem {c : List Int} {m : Int} : m ∈ placesI c ↔ ∃ i : Nat, i < c.length ∧ m = i ∧ 0 < ixI c i := by
  unfold placesI
  rw [List.mem_filterMap]
  constructor
  · rintro ⟨i, hi, h⟩
    split at h
    · rename_i z
      exact ⟨i, List.mem_range.mp hi, (Option.some.inj h).symm, z⟩
    · cases h
  · rintro ⟨i, hi, rfl, z⟩
    exact ⟨i, List.mem_range.mpr hi, by rw [if_pos z]⟩
section
variable {P : Program} {w : World} {K : PySem.W.Frag} {mg : Str → Option Value} {base : Heap} {Tb : List (Addr × Str)}
theorem ok_law_last {f : Addr} {fd : FuncData} (F : FnP K "_law_last" s_law_last f fd) (T : Tx K mg) : FnOk P w K mg base CX0 1 f fd ["cuts"] (sp_law_last Tb K) := by
  refine F.ok sc_law_last (fun vs H Q E h => ?_) (fun cdv A outer s H vs Q E hr h => ?_)
  · obtain ⟨_, _, rfl, _⟩ := h
    rfl
  · obtain ⟨a, c, rfl, ha, hz, k⟩ := h
    refine ⟨_, PSs.nox (pss_one (ps_ret (pe_callB (crMax (K := K) rfl rfl) (by rfl) T.n_max (by decide +kernel) (pa_cons (pe_op op_cat (pe_lc (own := [("place", 1), ("many", 2)]) (g := (gTup K 2 (gCons (gName 1) (gCons (gName 2) gNil)))) (tt := _) rfl sc_law_last.nd (piEnum (K := K) rfl (by rfl) T.n_enumerate (pa_cons (pv 0) pa_nil)) (blkOk_by (N := N_law_last) (sc := (defScope s_law_last)) (by decide +kernel)) (fun _ _ _ _ _ => (pg_tup rfl (pgs_cons (pg_name (i := 1) sc_law_last.nd rfl (Or.inl rfl)) (pgs_cons (pg_name (i := 2) sc_law_last.nd rfl (Or.inl rfl)) pgs_nil)))) (fun _ _ _ _ _ => (pts_one (pt_cmpR op_gt (pv 2) pe_int (nomark _)))) (fun _ _ _ _ _ => (pv 1))) (pe_lst (pa_cons (pe_un un_neg pe_int) pa_nil))) pa_nil)))), ?_⟩
    refine ⟨_, rfl, a, _, rfl, ha, fun D hD => lc_gen (Tb := Tb) (walk_enum (xs := c.map V.int)) (fun i => if 0 < ixI c i then some (.int (i : Int)) else none) hD (by rw [List.length_map]; omega) (fun H' g => g.ext_seq ha) (fun i H x H' hy => ?_) (fun i x H9 H10 hi g10 hy Rk Rs hk hs => ?_) fun H10 g10 hD10 => ?_⟩
    · obtain ⟨T, u, v, e0, e1, e2, e3, e4⟩ := hy
      subst e2
      exact Gr.new e1
    · obtain ⟨T, u, v, e0, e1, e2, e3, e4⟩ := hy
      subst e2
      subst e0
      rw [List.length_map] at hi
      have ht : c[i]? = some c[i] := List.getElem?_eq_getElem hi
      have e3' : some (V.int (i : Nat)) = some u := e3
      have e4' : (c.map V.int)[i]? = some v := e4
      rw [List.getElem?_map, ht] at e4'
      cases e3'
      cases e4'
      have hd := ixI_at ht
      refine gtup2 upd_same ⟨rfl, _, rfl, _, _, rfl, rfl, _, rfl, ?_⟩
      refine ite2 (fun c1 => ?_) (fun c1 => ?_)
      · exact ⟨_, rfl, hk _ _ (by rw [hd, if_pos (of_decide_eq_true c1)]) (Gr.refl _)⟩
      · exact hs _ (by rw [hd, if_neg fun z => c1 (decide_eq_true z)]) (Gr.refl _)
    rw [List.length_map] at hD10
    have eP : (List.range c.length).filterMap (fun i => if 0 < ixI c i then some (V.int (i : Int)) else none) = (placesI c).map V.int := by
      unfold placesI
      rw [List.map_filterMap]
      refine congrArg (fun f => List.filterMap f _) (funext fun i => ?_)
      split <;> rfl
    rw [eP] at hD10
    have pl : (placesI c).length ≤ c.length := by
      have := List.length_filterMap_le (fun i => if 0 < ixI c i then some (i : Int) else none) (List.range c.length)
      rw [List.length_range] at this
      exact this
    refine ⟨_, rfl, by show 1 ≤ sizeLine; decide, fun l hl => ?_⟩
    have g8 : Gr Tb H10 (upd H10 l (.lst [.int (-1)])) := Gr.new hl
    refine ⟨D, l, _, _, rfl, rfl, g8.at hD10 .lst, upd_same, by rw [List.length_map, sizeLine_eq]; show _ + 1 ≤ _; omega, fun l2 hl2 => ?_⟩
    refine ⟨l2, placesI c ++ [-1], rfl, SqL.of ?_, by simp, fun m hm hle => ?_⟩
    · rw [upd_same, List.map_append]
      rfl
    · have e : m = lastN (ixI c) c.length := by
        refine lastN_uniq ?_ (fun i hi h0 => hle _ (List.mem_append_left _ (placesI_mem.mpr ⟨i, hi, rfl, h0⟩))) (hle _ (List.mem_append_right _ (List.mem_singleton.mpr rfl)))
        rcases List.mem_append.mp hm with h | h
        · exact .inr (placesI_mem.mp h)
        · exact .inl (List.mem_singleton.mp h)
      rw [e]
      exact k _ ((g10.trans g8).trans (Gr.new hl2))
end
end Sk
namespace Sk
open PySem PySem.Spec PyProof.Rows L2
theorem nameB_strOk {x : Str} (h : nameB x = true) : PyData.strOk x = true := by
  unfold nameB at h
  simp only [Bool.and_eq_true, decide_eq_true_eq, List.all_eq_true] at h
  unfold PyData.strOk
  rw [← Array.all_toList, List.all_eq_true]
  intro c hc
  have h2 : ∀ c ∈ letters.cps.toList, decide (c < 0x110000) = true := by decide +kernel
  exact h2 c (h.2.2 c hc)
theorem shaped_names {ns : List Str} (h : ∀ x ∈ ns, nameB x = true) : SeqAt.shaped (.list (ns.map PyData.str)) = true := by
  have key : ∀ l : List Str, (∀ x ∈ l, nameB x = true) → PyData.canLayAll0 (l.map PyData.str) = true := by
    intro l
    induction l with
    | nil => intro _; simp only [List.map_nil, PyData.canLayAll0]
    | cons q l ih =>
      intro hl
      rw [List.map_cons, PyData.canLayAll0, ih fun z hz => hl z (List.mem_cons_of_mem _ hz)]
      simp only [PyData.canLay0, nameB_strOk (hl q (List.mem_cons_self ..)), Bool.and_self]
  unfold SeqAt.shaped
  rw [Bool.and_eq_true]
  refine ⟨?_, decide_eq_true (Nat.le_trans (depth_strs ns) (by decide))⟩
  rw [PyData.canLay0]
  exact key ns h
theorem keys_list (d : Num) : ((dS d).map fun kv => kV kv.1) = (d.map (·.1)).map V.str := by
  unfold dS
  rw [List.map_map, List.map_map]
  rfl
end Sk
namespace Sk
open PySem PySem.Spec PyProof.Rows L2
/-- how large the numbers may be -/
theorem Sit.small {es es' : List Ent} {d c : Num} (S : Sit es es' d) (ok : SplitsOk es d c) (h6 : ∀ e ∈ es, e.parts.length ≤ 6) (h20 : es.length ≤ 20) (hd : ∀ q ∈ d, q.2 ≤ 10 ^ 30) : 0 ≤ (c.map (·.2)).sum ∧ (c.map (·.2)).sum ≤ 10 ^ 50 ∧ (∀ q ∈ c, 0 ≤ q.2 ∧ q.2 ≤ 10 ^ 50) ∧ ∀ x, 0 ≤ pn es d c x ∧ pn es d c x ≤ 10 ^ 52 := by
  obtain ⟨r0, r1⟩ := S.range ok
  have hl := S.hp.length_eq
  have t := (tot_le (f := getD d) S.beh S.v'.nodup (fun e he => h6 e (S.hp.mem_iff.mp he)) S.d0).2
  have q3 : sumE es' (getD d) ≤ 20 * 10 ^ 30 := by
    have h1 := sumE_le (es := es') (f := getD d) (c := 10 ^ 30) fun e _ => getD_le (by decide) hd e.name
    have h2 : (es'.length : Int) * 10 ^ 30 ≤ 20 * 10 ^ 30 := Int.mul_le_mul_of_nonneg_right (by omega) (by decide)
    omega
  have q0 : 0 ≤ sumE es' (getD d) := sumE_nonneg fun e _ => S.d0 _
  have q4 : (7 : Int) ^ es'.length ≤ 7 ^ 20 := by
    have h5 : 7 ^ es'.length ≤ 7 ^ 20 := Nat.pow_le_pow_right (by decide) (by omega)
    have h7 : ((7 ^ es'.length : Nat) : Int) = (7 : Int) ^ es'.length := by rw [Int.natCast_pow]; rfl
    have h8 : ((7 ^ 20 : Nat) : Int) = (7 : Int) ^ 20 := by decide
    rw [← h7, ← h8]
    exact Int.ofNat_le.mpr h5
  have q5 : (7 : Int) ^ es'.length * sumE es' (getD d) ≤ 7 ^ 20 * (20 * 10 ^ 30) := Int.mul_le_mul q4 q3 q0 (by decide)
  have q6 : (7 : Int) ^ 20 * (20 * 10 ^ 30) ≤ 10 ^ 50 := by decide
  have hs : (c.map (·.2)).sum ≤ 10 ^ 50 := by
    have : totI es' d ≤ 7 ^ es'.length * sumE es' (getD d) := t
    omega
  have pos := ok.pos
  have each : ∀ q ∈ c, q.2 ≤ (c.map (·.2)).sum := by
    have key : ∀ l : Num, (∀ q ∈ l, 0 ≤ q.2) → 0 ≤ (l.map (·.2)).sum ∧ ∀ q ∈ l, q.2 ≤ (l.map (·.2)).sum := by
      intro l
      induction l with
      | nil => intro _; exact ⟨Int.le_refl _, by simp⟩
      | cons q l ih =>
        intro hl
        obtain ⟨a1, a2⟩ := ih fun y hy => hl y (List.mem_cons_of_mem _ hy)
        have a3 := hl q (List.mem_cons_self ..)
        rw [List.map_cons, List.sum_cons]
        refine ⟨by omega, fun y hy => ?_⟩
        rcases List.mem_cons.mp hy with rfl | hy
        · omega
        · have := a2 y hy
          omega
    exact (key c pos).2
  refine ⟨r0, hs, fun q hq => ⟨pos q hq, by have := each q hq; omega⟩, fun x => ⟨pn_nonneg' S.so.pos pos x, ?_⟩⟩
  rw [pn_at, amt_incs']
  have h1 : getD d x ≤ 10 ^ 30 := getD_le (by decide) hd x
  have h3 := sumE_le' (es := es) (f := fun e => getD c e.name * amt (ones e.parts) x) (g := fun e => getD c e.name * 6) fun e he => by
    have a1 := ones_le e.parts x
    have a2 := h6 e he
    exact Int.mul_le_mul_of_nonneg_left (by omega) (getD_nonneg pos _)
  have h4 : (es.map fun e => getD c e.name * 6).sum = 6 * sumE es (getD c) := by
    unfold sumE
    generalize es = l
    induction l with
    | nil => rfl
    | cons e l ih =>
      rw [List.map_cons, List.sum_cons, ih, List.map_cons, List.sum_cons]
      omega
  rw [h4, sumE_getD S.hv.nodup ok.nd ok.known] at h3
  have : (10 : Int) ^ 30 + 6 * 10 ^ 50 ≤ 10 ^ 52 := by decide
  omega
end Sk
namespace Sk
open PySem PySem.Spec PyProof.Rows L2
/-- a store and what the law holds -/
structure Tied (es : List Ent) (d cuts : Num) (es2 : List Ent) (d2 c : Num) : Prop where
  st : StOk es2 d2 c
  ex : ∃ es' : List Ent, es'.Perm es ∧ Ordered es'
  same : ∀ es' : List Ent, es'.Perm es → Ordered es' → SameC es' es2
  dE : getD d2 = getD d
  cE : getD c = getD cuts
  dF : d2 = cleanN es2 d
  cF : c = cleanN es2 cuts
  hv : Valid es
  so : StockOk es d
  ok : SplitsOk es d cuts
  hz : es.length < 64
theorem Tied.make {es es' es2 : List Ent} {d sp : Num} (hv : Valid es) (hz : es.length < 64) (so : StockOk es d) (ok : SplitsOk es d sp) (hp : es'.Perm es) (ho : Ordered es') (s : SameC es' es2) : Tied es d sp es2 (cleanN es2 d) (cleanN es2 sp) := by
  have v2 := s.valid (hv.perm hp)
  have nm : ∀ x, x ∈ es.map (·.name) → x ∈ es2.map (·.name) := fun x hx => by
    rw [s.names]
    exact (hp.map _).mem_iff.mpr hx
  refine ⟨.make hv hz so ok hp ho s, ⟨es', hp, ho⟩, fun e1 p1 o1 => ?_, getD_cleanF v2.nodup fun q hq => nm _ (so.known q hq), getD_cleanF v2.nodup fun q hq => nm _ (ok.known q hq), rfl, rfl, hv, so, ok, hz⟩
  rw [ordered_unique (p1.trans hp.symm) o1 ho (hv.perm p1).nodup]
  exact s
section
variable {es es' es2 : List Ent} {d cuts d2 c : Num}
theorem Tied.sit (t : Tied es d cuts es2 d2 c) (hp : es'.Perm es) (ho : Ordered es') : Sit es es' d := ⟨t.hv, hp, ho, t.so, t.hz⟩
theorem Tied.full (t : Tied es d cuts es2 d2 c) (hp : es'.Perm es) (ho : Ordered es') : fullN es2 d2 = fullN es' d := by
  have s := t.same es' hp ho
  show cN es2 _ = cN es' _
  rw [s.cN, s.fs, t.dE]
theorem Tied.vec (t : Tied es d cuts es2 d2 c) (hp : es'.Perm es) (ho : Ordered es') : cN es2 (getD c) = cN es' (getD cuts) := by
  rw [(t.same es' hp ho).cN, t.cE]
theorem Tied.sum (t : Tied es d cuts es2 d2 c) : (c.map (·.2)).sum = (cuts.map (·.2)).sum := by
  have h1 := t.st.sit.sum t.st.ok
  obtain ⟨es', hp, ho⟩ := t.ex
  have h2 := (t.sit hp ho).sum t.ok
  have s := t.same es' hp ho
  rw [t.vec hp ho, s.len] at h1
  omega
theorem Tied.tot (t : Tied es d cuts es2 d2 c) (hp : es'.Perm es) (ho : Ordered es') : totI es2 d2 = totI es' d := by
  unfold totI
  rw [(t.same es' hp ho).fs, t.dE]
theorem Tied.next (t : Tied es d cuts es2 d2 c) (hp : es'.Perm es) (ho : Ordered es') : (es2.find? (splitB es2 (getD d2) (getD c))).map (·.name) = (es'.find? (splitB es' (getD d) (getD cuts))).map (·.name) := by
  rw [t.dE, t.cE]
  exact (t.same es' hp ho).next _ _
theorem Tied.last (t : Tied es d cuts es2 d2 c) (hp : es'.Perm es) (ho : Ordered es') : (lastF es2 (getD c)).map (·.name) = (lastF es' (getD cuts)).map (·.name) := by
  rw [t.cE]
  exact (t.same es' hp ho).last _
theorem Tied.cleanD (t : Tied es d cuts es2 d2 c) (hp : es'.Perm es) (ho : Ordered es') : cleanN es2 d2 = cleanN es' d := (t.same es' hp ho).clean fun e _ => by rw [t.dE]
theorem Tied.cleanC (t : Tied es d cuts es2 d2 c) (hp : es'.Perm es) (ho : Ordered es') : cleanN es2 c = cleanN es' cuts := (t.same es' hp ho).clean fun e _ => by rw [t.cE]
theorem Tied.cleanW (t : Tied es d cuts es2 d2 c) (hp : es'.Perm es) (ho : Ordered es') {w v : Num} (hw : ∀ e ∈ es2, getD w e.name = wholeF es2 (getD d2) (getD c) e.name) (hv : ∀ e ∈ es, getD v e.name = wholeF es (getD d) (getD cuts) e.name) : cleanN es2 w = cleanN es' v := by
  have s := t.same es' hp ho
  refine s.clean fun e he => ?_
  obtain ⟨e2, he2, h1, _⟩ := Paired.left s he
  rw [← h1, hw e2 he2, h1, hv e (hp.mem_iff.mp he), s.whole, t.dE, t.cE]
  unfold wholeF
  rw [amt_perm hp]
/-- other splits, cleaned -/
theorem Tied.other (t : Tied es d cuts es2 d2 c) {cuts' c' : Num} (ok : SplitsOk es d cuts') (hp : es'.Perm es) (ho : Ordered es') (h : ∀ i, i < es'.length → cN es2 (getD c') i = cN es' (getD cuts') i) : Tied es d cuts' es2 d2 (cleanN es2 c') := by
  have s := t.same es' hp ho
  have h' : ∀ e ∈ es', getD c' e.name = getD cuts' e.name := fun e he => by
    obtain ⟨i, hi⟩ := List.mem_iff_getElem?.mp he
    have h1 := h i (List.getElem?_eq_some_iff.mp hi).1
    rw [s.cN, cN_at hi, cN_at hi] at h1
    exact h1
  have v2 := t.st.sit.hv
  have hz2 := t.st.sit.hz
  have eC : cleanN es2 c' = cleanN es2 cuts' := by
    rw [s.clean (a := c') (b := cuts') h', s.clean (a := cuts') (b := cuts') fun _ _ => rfl]
  have nm : ∀ x, x ∈ es.map (·.name) → x ∈ es2.map (·.name) := fun x hx => by
    rw [s.names]
    exact (hp.map _).mem_iff.mpr hx
  have mk := StOk.make t.hv t.hz t.so ok hp ho s
  have ec : getD (cleanN es2 c') = getD cuts' := by
    rw [eC]
    exact getD_cleanF v2.nodup fun q hq => nm _ (ok.known q hq)
  have ed : getD (cleanN es2 d) = getD d2 := by
    rw [t.dE]
    exact getD_cleanF v2.nodup fun q hq => nm _ (t.so.known q hq)
  refine ⟨⟨t.st.sit, ⟨?_, ?_, ?_, fun e he => ?_⟩, ?_⟩, t.ex, t.same, t.dE, ec, t.dF, eC, t.hv, t.so, ok, t.hz⟩
  · rw [eC]
    exact mk.ok.nd
  · rw [eC]
    exact mk.ok.few
  · rw [eC]
    exact mk.ok.known
  · have f := mk.ok.fits e he
    rw [pn_at, ed] at f
    rw [pn_at, eC]
    exact f
  · rw [eC]
    exact mk.nz
end
end Sk
namespace Sk
open PySem PySem.Spec PyProof.Rows L2
instance entDec : DecidableEq Ent := fun a b => decidable_of_iff (a.name = b.name ∧ a.w = b.w ∧ a.parts = b.parts) ⟨fun h => by
  cases a
  cases b
  obtain ⟨h1, h2, h3⟩ := h
  dsimp only at h1 h2 h3
  rw [h1, h2, h3], fun h => by rw [h]; exact ⟨rfl, rfl, rfl⟩⟩
theorem catD_shaped {es : List Ent} (v : Valid es) : SeqAt.shaped (catD es) = true := by
  have ks : ∀ l : List Str, (∀ x ∈ l, nameB x = true) → PyData.canLayAll0 (l.map PyData.str) = true := by
    intro l
    induction l with
    | nil => intro _; simp only [List.map_nil, PyData.canLayAll0]
    | cons q l ih =>
      intro hl
      rw [List.map_cons, PyData.canLayAll0, ih fun z hz => hl z (List.mem_cons_of_mem _ hz)]
      simp only [PyData.canLay0, nameB_strOk (hl q (List.mem_cons_self ..)), Bool.and_self]
  have key : ∀ l : List Ent, (∀ e ∈ l, e ∈ es) → PyData.canLayAll0 (l.map entD) = true := by
    intro l
    induction l with
    | nil => intro _; simp only [List.map_nil, PyData.canLayAll0]
    | cons e l ih =>
      intro hl
      have he := hl e (List.mem_cons_self ..)
      have hp : ∀ x ∈ e.parts, nameB x = true := fun x hx => by
        obtain ⟨e', h1, rfl, _⟩ := v.lighter e he x hx
        exact v.names e' h1
      rw [List.map_cons, PyData.canLayAll0, ih fun z hz => hl z (List.mem_cons_of_mem _ hz)]
      unfold entD
      simp only [PyData.canLay0, PyData.canLayAll0, nameB_strOk (v.names e he), ks e.parts hp, Bool.and_self]
  unfold SeqAt.shaped
  rw [Bool.and_eq_true]
  refine ⟨?_, decide_eq_true (Nat.le_trans (depth_cat es) (by decide))⟩
  unfold catD
  rw [PyData.canLay0]
  exact key es fun _ h => h
theorem eqvAll_map {α : Type} {f : α → PyData} {r : α → α → Bool} (h : ∀ x y, PyData.eqv (f x) (f y) = r x y) (hr : ∀ x y, r x y = true ↔ x = y) : ∀ xs ys : List α, PyData.eqvAll (xs.map f) (ys.map f) = true ↔ xs = ys
  | [], [] => by simp [PyData.eqvAll]
  | [], y :: ys => by simp [PyData.eqvAll]
  | x :: xs, [] => by simp [PyData.eqvAll]
  | x :: xs, y :: ys => by
    rw [List.map_cons, List.map_cons, PyData.eqvAll, h, Bool.and_eq_true, hr, eqvAll_map h hr xs ys]
    simp
theorem eqv_strs (xs ys : List Str) : PyData.eqvAll (xs.map PyData.str) (ys.map PyData.str) = true ↔ xs = ys := eqvAll_map (r := fun x y => x == y) (fun x y => by simp [PyData.eqv]) (fun x y => by simp) xs ys
theorem eqv_ent (a b : Ent) : PyData.eqv (entD a) (entD b) = true ↔ a = b := by
  obtain ⟨n, w, p⟩ := a
  obtain ⟨n', w', p'⟩ := b
  unfold entD
  simp only [PyData.eqv, PyData.eqvAll, Bool.and_eq_true, beq_iff_eq, eqv_strs, Ent.mk.injEq]
  simp
theorem eqv_cat (xs ys : List Ent) : PyData.eqv (catD xs) (catD ys) = decide (xs = ys) := by
  have h := eqvAll_map (f := entD) (r := fun a b => PyData.eqv (entD a) (entD b)) (fun _ _ => rfl) eqv_ent xs ys
  unfold catD
  rw [Bool.eq_iff_iff, decide_eq_true_eq, ← h]
  simp only [PyData.eqv]
end Sk
namespace Sk
open PySem PySem.Spec PyProof.Rows L2
theorem dpAll_ints {K : PySem.W.Frag} {H : Hp} : ∀ ns : List Int, DpAll K H (ns.map V.int) (ns.map PyData.int)
  | [] => .nil
  | n :: ns => .cons (.int n) (dpAll_ints ns)
theorem dp_ints {K : PySem.W.Frag} {H : Hp} {r : Addr} {ns : List Int} (h : SqL K H r (ns.map V.int)) : Dp K H (.ref r) (.list (ns.map PyData.int)) := .lst h (dpAll_ints ns)
theorem eqv_ints (xs ys : List Int) : PyData.eqv (.list (xs.map PyData.int)) (.list (ys.map PyData.int)) = decide (xs = ys) := by
  have h := eqvAll_map (f := PyData.int) (r := fun x y => x == y) (fun x y => by simp [PyData.eqv]) (fun x y => by simp) xs ys
  rw [Bool.eq_iff_iff, decide_eq_true_eq, ← h]
  simp only [PyData.eqv]
theorem ints_shaped (xs : List Int) : SeqAt.shaped (.list (xs.map PyData.int)) = true := by
  have h1 : PyData.canLayAll0 (xs.map PyData.int) = true := by
    induction xs with
    | nil => simp only [List.map_nil, PyData.canLayAll0]
    | cons x xs ih => rw [List.map_cons, PyData.canLayAll0, ih]; simp only [PyData.canLay0, Bool.and_self]
  have h2 : PyData.depthAll (xs.map PyData.int) ≤ 0 := by
    clear h1
    induction xs with
    | nil => simp [PyData.depthAll]
    | cons x xs ih => rw [List.map_cons, PyData.depthAll]; simp [PyData.depth]; omega
  unfold SeqAt.shaped
  rw [Bool.and_eq_true, PyData.canLay0]
  refine ⟨h1, decide_eq_true ?_⟩
  rw [PyData.depth]
  omega
end Sk
namespace Sk
open PySem PySem.Spec PyProof.Rows L2
section
variable {es es' : List Ent} {d c : Num}
/-- the weight of the heaviest whole piece -/
def topU (es es' : List Ent) (d u : Num) : Int := hvy es fun x => pn es' d u x - getD u x
theorem hvy_congr {b b' : Str → Int} : ∀ {l : List Ent} {m : Int}, (∀ e ∈ l, b e.name = b' e.name) → l.foldl (hvyE b) m = l.foldl (hvyE b') m
  | [], _, _ => rfl
  | e :: l, m, h => by
    rw [List.foldl_cons, List.foldl_cons]
    have e1 : hvyE b m e = hvyE b' m e := by
      unfold hvyE
      rw [h e (List.mem_cons_self ..)]
    rw [e1]
    exact hvy_congr fun x hx => h x (List.mem_cons_of_mem _ hx)
theorem Sit.topU_eq (S : Sit es es' d) (u : Num) : topU es es' d u = hvy es (wholeF es (getD d) (getD u)) := by
  unfold topU
  have e : (fun x => pn es' d u x - getD u x) = wholeF es (getD d) (getD u) := funext fun x => by rw [wholeF_pn, pn_perm S.hp]
  rw [e]
theorem Sit.topU_congr (S : Sit es es' d) {u v : Num} (h : ∀ e ∈ es', getD u e.name = getD v e.name) : topU es es' d u = topU es es' d v := by
  unfold topU hvy
  exact hvy_congr fun e he => by
    rw [pn_same (t' := u) (t := v) fun y hy => .inl (h y hy), h e (S.hp.mem_iff.mpr he)]
theorem whole_perm (S : Sit es es' d) (u : Num) : wholeF es (getD d) (getD u) = wholeF es' (getD d) (getD u) := funext fun x => by rw [wholeF_pn, wholeF_pn, pn_perm S.hp]
/-- the balanced splits of a number -/
theorem Sit.bal_top (S : Sit es es' d) (n : Int) : topU es es' d (greedy (fs es' (getD d)) n) = optI (topE es' (wholeF es' (getD d) (getD (greedy (fs es' (getD d)) n)))) := by
  rw [S.topU_eq, hvy_top S.hv S.hp S.ho, whole_perm S]
theorem Sit.listed_ok (S : Sit es es' d) {u : Num} (h : u ∈ statesS es' d es'.length) : SplitsOk es d u := by
  have so' : StockOk es' d := ⟨S.so.nd, S.so.few, fun q hq => (S.hp.map _).mem_iff.mpr (S.so.known q hq), S.so.pos⟩
  have ok' := states_okc S.v' S.ho so' (by rw [S.hp.length_eq]; exact S.hz) (Nat.le_refl _) h
  exact ⟨ok'.nd, ok'.few, fun q hq => (S.hp.map _).mem_iff.mp (ok'.known q hq), fun e he => by rw [← pn_perm S.hp]; exact ok'.fits e (S.hp.mem_iff.mpr he)⟩
theorem Sit.listed (S : Sit es es' d) {t : Num} (ok : SplitsOk es d t) : ∃ u ∈ statesS es' d es'.length, ∀ e ∈ es', getD u e.name = getD t e.name := by
  have ok' : SplitsOk es' d t := ⟨ok.nd, ok.few, fun q hq => (S.hp.map _).mem_iff.mpr (ok.known q hq), fun e he => by rw [pn_perm S.hp]; exact ok.fits e (S.hp.mem_iff.mp he)⟩
  obtain ⟨u, hu, h⟩ := states_all S.v' S.ho ok' es'.length (Nat.le_refl _)
  exact ⟨u, hu, fun e he => by
    obtain ⟨i, hi⟩ := List.mem_iff_getElem?.mp he
    exact h i e (List.getElem?_eq_some_iff.mp hi).1 hi⟩
/-- the sum of the written splits -/
theorem cuts_sum (es : List Ent) (u : Num) : (cutsOf es es.length u).sum = sumN (cN es (getD u)) es.length := by
  unfold cutsOf
  rw [List.take_length, sumN_cN]
  rfl
theorem cuts_congr {u v : Num} (h : ∀ e ∈ es', getD u e.name = getD v e.name) : cutsOf es' es'.length u = cutsOf es' es'.length v := by
  unfold cutsOf
  rw [List.take_length]
  exact List.map_congr_left fun e he => h e he
theorem cuts_inj {u v : Num} (h : cutsOf es' es'.length u = cutsOf es' es'.length v) : ∀ e ∈ es', getD u e.name = getD v e.name := by
  unfold cutsOf at h
  rw [List.take_length] at h
  exact List.map_inj_left.mp h
theorem cuts_last (u : Num) : lastN (ixI (cutsOf es' es'.length u)) (cutsOf es' es'.length u).length = lastN (cN es' (getD u)) es'.length := by
  have hl : (cutsOf es' es'.length u).length = es'.length := by
    unfold cutsOf
    rw [List.take_length, List.length_map]
  rw [hl]
  refine lastN_congr fun i hi => ?_
  have he : es'[i]? = some es'[i] := List.getElem?_eq_getElem hi
  rw [cN_at he]
  refine ixI_at ?_
  unfold cutsOf
  rw [List.take_length, List.getElem?_map, he]
  rfl
/-- valid splits that reach a limit -/
theorem Sit.reach (S : Sit es es' d) {u : Num} (ok : SplitsOk es d u) {lim : Int} (h0 : 0 ≤ lim) (h : topU es es' d u ≤ lim) : ∃ N, limO es' (getD d) lim = some N ∧ N ≤ sumN (cN es' (getD u)) es'.length := by
  have r := S.range ok
  have b := S.best ok rfl r.1 r.2
  rw [← S.topU_eq] at b
  rw [S.sum ok]
  refine (S.lim_top r.1 r.2 lim).mpr fun i hi => ?_
  rw [hi] at b
  have b' : i ≤ topU es es' d u := b
  omega
theorem Sit.at_lim (S : Sit es es' d) {lim N : Int} (h0 : 0 ≤ lim) (h : limO es' (getD d) lim = some N) : topU es es' d (greedy (fs es' (getD d)) N) ≤ lim := by
  have r := S.lim_range h
  have t := (S.lim_top r.1 r.2 lim).mp ⟨N, h, Int.le_refl _⟩
  rw [S.bal_top]
  cases q : topE es' (wholeF es' (getD d) (getD (greedy (fs es' (getD d)) N))) with
  | none => exact h0
  | some i => exact t i q
end
def intsD (c : List Int) : PyData := .list (c.map PyData.int)
theorem intss_shaped (l : List (List Int)) : SeqAt.shaped (.list (l.map intsD)) = true := by
  have k1 : ∀ c : List Int, PyData.canLayAll0 (c.map PyData.int) = true := fun c => by
    induction c with
    | nil => simp only [List.map_nil, PyData.canLayAll0]
    | cons x xs ih => rw [List.map_cons, PyData.canLayAll0, ih]; simp only [PyData.canLay0, Bool.and_self]
  have k2 : ∀ l : List (List Int), PyData.canLayAll0 (l.map intsD) = true := fun l => by
    induction l with
    | nil => simp only [List.map_nil, PyData.canLayAll0]
    | cons c l ih =>
      rw [List.map_cons, PyData.canLayAll0, ih]
      unfold intsD
      rw [PyData.canLay0, k1 c]
      rfl
  unfold SeqAt.shaped
  rw [Bool.and_eq_true]
  refine ⟨by rw [PyData.canLay0]; exact k2 l, decide_eq_true ?_⟩
  have d1 : PyData.depthAll (l.map intsD) ≤ 1 := depth_le fun d hd => by
    obtain ⟨c, _, rfl⟩ := List.mem_map.mp hd
    unfold intsD
    rw [PyData.depth]
    have : PyData.depthAll (c.map PyData.int) ≤ 0 := depth_le fun d hd => by
      obtain ⟨q, _, rfl⟩ := List.mem_map.mp hd
      rw [PyData.depth]
      omega
    omega
  rw [PyData.depth]
  omega
theorem intss_dp {K : PySem.W.Frag} {H : Hp} (w : Num → List Int) : ∀ {ys : List V} {l : List Num}, Paired (fun (t : Num) (y : V) => ∃ a, y = .ref a ∧ H a = some (.lst ((w t).map V.int))) l ys → DpAll K H ys (l.map fun t => intsD (w t))
  | _, _, .nil => .nil
  | _, _, .cons ⟨a, e, h⟩ s => by
    rw [e]
    exact .cons (dp_ints (SqL.of h)) (intss_dp w s)
theorem first_ix {α : Type} {p : α → Bool} : ∀ {l : List α}, l.any p = true → ∃ (j : Nat) (z : α), l[j]? = some z ∧ p z = true ∧ ∀ (m : Nat) (z' : α), m < j → l[m]? = some z' → p z' = false
  | [], h => by cases h
  | a :: l, h => by
    cases c : p a with
    | true => exact ⟨0, a, rfl, c, fun m z' hm => absurd hm (Nat.not_lt_zero _)⟩
    | false =>
      rw [List.any_cons, c, Bool.false_or] at h
      obtain ⟨j, z, h1, h2, h3⟩ := first_ix h
      refine ⟨j + 1, z, by rw [List.getElem?_cons_succ]; exact h1, h2, fun m z' hm hz => ?_⟩
      cases m with
      | zero =>
        rw [List.getElem?_cons_zero] at hz
        cases hz
        exact c
      | succ m =>
        rw [List.getElem?_cons_succ] at hz
        exact h3 m z' (by omega) hz
theorem orT_opt {K : PySem.W.Frag} {H : Hp} {o : Option Int} {Q' : VK} (h : Q' (.int (optI o)) H) : ∃ k, TruV K (optV o) H k ∧ if k = true then Q' (optV o) H else Q' (.int 0) H := by
  cases o with
  | none => exact ⟨false, rfl, by rw [if_neg Bool.false_ne_true]; exact h⟩
  | some w =>
    by_cases z : w = 0
    · subst z
      exact ⟨false, rfl, by rw [if_neg Bool.false_ne_true]; exact h⟩
    · exact ⟨true, by show true = (w != 0); rw [eq_comm, bne_iff_ne]; exact z, by rw [if_pos rfl]; exact h⟩
theorem cuts_len (es : List Ent) (u : Num) : (cutsOf es es.length u).length = es.length := by
  unfold cutsOf
  rw [List.take_length, List.length_map]
end Sk
namespace Sk
open PySem PySem.Spec PyProof.Rows L2
abbrev s_law_right : Stmt := topS 38
abbrev N_law_right : List Str := ["pool", "rows", "shelf", "every", "steps", "some", "told", "own", "tops", "name", "weight", "parts", "enough", "row", "cuts", "have"]
theorem sc_law_right : FnScope N_law_right ["pool"] (defScope s_law_right) := ⟨rfl, rfl, rfl, by decide +kernel, rfl, by decide +kernel, by decide +kernel⟩
def sp_law_right (Tb : List (Addr × Str)) (K : PySem.W.Frag) : Sp := fun vs H Q _ => ∃ (p : Addr) (n : Nat) (G : Hp), vs = [.ref p] ∧ Hq Tb p n [] G H ∧ n + 5000 < 1000000000 ∧ ∀ H', Hq Tb p (n + 5000) [] G H' → Q (.bl true) H'
section
variable {P : Program} {w : World} {K : PySem.W.Frag} {mg : Str → Option Value} {base : Heap} {Tb : List (Addr × Str)}
theorem ok_law_right {f : Addr} {fd : FuncData} (F : FnP K "_law_right" s_law_right f fd) (T : Tx K mg) (G_law_all_cuts : Fn P w K mg base "_law_all_cuts" 6 ["rows", "shelf"] (sp_law_all_cuts Tb K)) (G_law_last : Fn P w K mg base "_law_last" 1 ["cuts"] (sp_law_last Tb K)) (G_law_rows : Fn P w K mg base "_law_rows" 4 ["pool", "most"] (sp_law_rows Tb K)) (G_law_small_shelf : Fn P w K mg base "_law_small_shelf" 7 ["pool", "rows", "most"] (sp_law_small_shelf Tb K)) (G_law_sorted : Fn P w K mg base "_law_sorted" 4 ["rows"] (sp_law_sorted Tb K)) (G_law_top : Fn P w K mg base "_law_top" 5 ["rows", "cuts", "have"] (sp_law_top Tb K)) (G_law_total : Fn P w K mg base "_law_total" 6 ["rows", "shelf"] (sp_law_total Tb K)) (G_balanced : Fn P w K mg base "balanced" 6 ["catalogue", "stock", "number"] (sp_balanced Tb K)) (G_heaviest : Fn P w K mg base "heaviest" 6 ["catalogue", "stock", "number"] (sp_heaviest Tb K)) (G_splits_for : Fn P w K mg base "splits_for" 5 ["catalogue", "stock", "limit"] (sp_splits_for Tb K)) : FnG P w K mg base 8 f fd ["pool"] (sp_law_right Tb K) := by
  refine fnG_of F sc_law_right (fun vs H Q E h => ?_) (fun cdv A outer s H vs Q E hgd hr h => ?_)
  · obtain ⟨_, _, _, rfl, _⟩ := h
    rfl
  · obtain ⟨p, n, G, rfl, hs, hn, k⟩ := h
    refine ⟨_, PSs.nox (pss_cons (ps_set (i := 1) sc_law_right.nd rfl (Or.inr rfl) (pe_fn G_law_rows (hr.mono (by decide)) (pa_cons (pv 0) (pa_cons pe_int pa_nil))))
      (pss_cons (ps_set (i := 2) sc_law_right.nd rfl (Or.inl rfl) (pe_fn G_law_small_shelf (hr.mono (by decide)) (pa_cons (pv 0) (pa_cons (pv 1) (pa_cons pe_int pa_nil)))))
      (pss_cons (ps_set (i := 3) sc_law_right.nd rfl (Or.inl rfl) (pe_fn G_law_all_cuts (hr.mono (by decide)) (pa_cons (pv 1) (pa_cons (pv 2) pa_nil))))
      (pss_cons (ps_if (pt_cmpR op_isN (pv 3) pe_non (nomark _)) (pss_one (ps_ret pe_bl)) pss_nil)
      (pss_cons (ps_for PassesOwn.never rfl (pi_range1 (by rfl) T.n_range (pa_cons (pe_op op_add (pe_fn G_law_total (hr.mono (by decide)) (pa_cons (pv 1) (pa_cons (pv 2) pa_nil))) pe_int) pa_nil)) (pg_name (i := 4) sc_law_right.nd rfl (Or.inr rfl)) (pss_cons (ps_setLc (i := 5) (own := [("cuts", 14), ("have", 15)]) (g := (gTup K 2 (gCons (gName 14) (gCons (gName 15) gNil)))) (tt := _) rfl sc_law_right.nd rfl rfl (sw_true rfl rfl rfl (by decide +kernel)) (piL (K := K) rfl (pv 3)) (blkOk_by (N := N_law_right) (sc := (defScope s_law_right)) (by decide +kernel)) (fun _ _ _ _ _ => (pg_tup rfl (pgs_cons (pg_name (i := 14) sc_law_right.nd rfl (Or.inl rfl)) (pgs_cons (pg_name (i := 15) sc_law_right.nd rfl (Or.inl rfl)) pgs_nil)))) (fun _ _ _ _ _ => (pts_one (pt_cmpR op_eq (pe_callB (crSum (K := K) rfl rfl) (by rfl) T.n_sum (by decide +kernel) (pa_cons (pv 14) pa_nil)) (pv 4) (nomark _)))) (fun _ _ _ _ _ => (pe_tup (pa_cons (pv 14) (pa_cons (pv 15) pa_nil)))))
        (pss_cons (ps_set (i := 6) sc_law_right.nd rfl (Or.inr rfl) (pe_fn G_balanced (hr.mono (by decide)) (pa_cons (pv 1) (pa_cons (pv 2) (pa_cons (pv 4) pa_nil)))))
        (pss_cons (ps_setLc (i := 7) (own := [("row", 13)]) (g := (gName 13)) (tt := tYes) rfl sc_law_right.nd rfl rfl (sw_true rfl rfl rfl (by decide +kernel)) (piL (K := K) rfl (pe_fn G_law_sorted (hr.mono (by decide)) (pa_cons (pv 1) pa_nil))) (blkOk_by (N := N_law_right) (sc := (defScope s_law_right)) (by decide +kernel)) (fun _ _ _ _ _ => (pg_name (i := 13) sc_law_right.nd rfl (Or.inl rfl))) (fun _ _ _ _ _ => pts_nil) (fun _ _ _ _ _ => (pe_dget2 (hu_of hr) (pv 6) (pe_ix (ixT (K := K) rfl) (pv 13) pe_int (fun _ _ => rfl)) pe_int ⟨rfl, rfl, rfl, rfl⟩)))
        (pss_cons (ps_setLc (i := 8) (own := [("cuts", 14), ("have", 15)]) (g := (gTup K 2 (gCons (gName 14) (gCons (gName 15) gNil)))) (tt := tYes) rfl sc_law_right.nd rfl rfl (sw_true rfl rfl rfl (by decide +kernel)) (piL (K := K) rfl (pv 5)) (blkOk_by (N := N_law_right) (sc := (defScope s_law_right)) (by decide +kernel)) (fun _ _ _ _ _ => (pg_tup rfl (pgs_cons (pg_name (i := 14) sc_law_right.nd rfl (Or.inl rfl)) (pgs_cons (pg_name (i := 15) sc_law_right.nd rfl (Or.inl rfl)) pgs_nil)))) (fun _ _ _ _ _ => pts_nil) (fun _ _ _ _ _ => (pe_fn G_law_top (hr.mono (by decide)) (pa_cons (pv 1) (pa_cons (pv 14) (pa_cons (pv 15) pa_nil))))))
        (pss_cons (ps_if (PW.pt (pw_or (pt_cmpR (op_notInD (hu65 hr)) (pv 7) (pe_lc (own := [("cuts", 14), ("have", 15)]) (g := (gTup K 2 (gCons (gName 14) (gCons (gName 15) gNil)))) (tt := tYes) rfl sc_law_right.nd (piL (K := K) rfl (pv 5)) (blkOk_by (N := N_law_right) (sc := (defScope s_law_right)) (by decide +kernel)) (fun _ _ _ _ _ => (pg_tup rfl (pgs_cons (pg_name (i := 14) sc_law_right.nd rfl (Or.inl rfl)) (pgs_cons (pg_name (i := 15) sc_law_right.nd rfl (Or.inl rfl)) pgs_nil)))) (fun _ _ _ _ _ => pts_nil) (fun _ _ _ _ _ => (pv 14))) (by with_unfolding_all rfl)) (pw_or1 (pt_cmpR op_ne (peOrT (K := K) rfl (pe_fn G_heaviest (hr.mono (by decide)) (pa_cons (pv 1) (pa_cons (pv 2) (pa_cons (pv 4) pa_nil)))) (pe_one pe_int)) (pe_callB (crMin (K := K) rfl rfl) (by rfl) T.n_min (by decide +kernel) (pa_cons (pv 8) pa_nil)) (nomark _))))) (pss_one (ps_ret pe_bl)) pss_nil)
        (pss_cons (ps_if (pt_cmpR op_ne (pe_fn G_law_last (hr.mono (by decide)) (pa_cons (pv 7) pa_nil)) (pe_callB (crMin (K := K) rfl rfl) (by rfl) T.n_min (by decide +kernel) (pa_cons (pe_lc (own := [("cuts", 14), ("have", 15)]) (g := (gTup K 2 (gCons (gName 14) (gCons (gName 15) gNil)))) (tt := tYes) rfl sc_law_right.nd (piL (K := K) rfl (pv 5)) (blkOk_by (N := N_law_right) (sc := (defScope s_law_right)) (by decide +kernel)) (fun _ _ _ _ _ => (pg_tup rfl (pgs_cons (pg_name (i := 14) sc_law_right.nd rfl (Or.inl rfl)) (pgs_cons (pg_name (i := 15) sc_law_right.nd rfl (Or.inl rfl)) pgs_nil)))) (fun _ _ _ _ _ => pts_nil) (fun _ _ _ _ _ => (pe_fn G_law_last (hr.mono (by decide)) (pa_cons (pv 14) pa_nil)))) pa_nil)) (nomark _)) (pss_one (ps_ret pe_bl)) pss_nil)
        (pss_one (ps_if (pt_cmpR op_ne (pe_ix (ixL (K := K) rfl) (pv 8) (peBm (K := K) rfl PySem.F.plainAttrs_list PySem.F.slot_list_index PySem.F.type_list_index (mtIdxDK (K := K) rfl (hu65 hr)) (pe_lc (own := [("cuts", 14), ("have", 15)]) (g := (gTup K 2 (gCons (gName 14) (gCons (gName 15) gNil)))) (tt := tYes) rfl sc_law_right.nd (piL (K := K) rfl (pv 5)) (blkOk_by (N := N_law_right) (sc := (defScope s_law_right)) (by decide +kernel)) (fun _ _ _ _ _ => (pg_tup rfl (pgs_cons (pg_name (i := 14) sc_law_right.nd rfl (Or.inl rfl)) (pgs_cons (pg_name (i := 15) sc_law_right.nd rfl (Or.inl rfl)) pgs_nil)))) (fun _ _ _ _ _ => pts_nil) (fun _ _ _ _ _ => (pv 14))) (pa_cons (pv 7) pa_nil)) (fun _ _ => rfl)) (pe_callB (crMin (K := K) rfl rfl) (by rfl) T.n_min (by decide +kernel) (pa_cons (pv 8) pa_nil)) (nomark _)) (pss_one (ps_ret pe_bl)) pss_nil)))))))))
      (pss_cons (ps_for PassesOwn.never rfl (piL (K := K) rfl (pv 1)) (pg_tup rfl (pgs_cons (pg_name (i := 9) sc_law_right.nd rfl (Or.inl rfl)) (pgs_cons (pg_name (i := 10) sc_law_right.nd rfl (Or.inr rfl)) (pgs_cons (pg_name (i := 11) sc_law_right.nd rfl (Or.inl rfl)) pgs_nil)))) (pss_cons (ps_setLc (i := 12) (own := [("cuts", 14), ("have", 15)]) (g := (gTup K 2 (gCons (gName 14) (gCons (gName 15) gNil)))) (tt := _) rfl sc_law_right.nd rfl rfl (sw_true rfl rfl rfl (by decide +kernel)) (piL (K := K) rfl (pv 3)) (blkOk_by (N := N_law_right) (sc := (defScope s_law_right)) (by decide +kernel)) (fun _ _ _ _ _ => (pg_tup rfl (pgs_cons (pg_name (i := 14) sc_law_right.nd rfl (Or.inl rfl)) (pgs_cons (pg_name (i := 15) sc_law_right.nd rfl (Or.inl rfl)) pgs_nil)))) (fun _ _ _ _ _ => (pts_one (pt_cmpR op_le (pe_fn G_law_top (hr.mono (by decide)) (pa_cons (pv 1) (pa_cons (pv 14) (pa_cons (pv 15) pa_nil)))) (pv 10) (nomark _)))) (fun _ _ _ _ _ => (pe_callB (crSum (K := K) rfl rfl) (by rfl) T.n_sum (by decide +kernel) (pa_cons (pv 14) pa_nil))))
        (pss_one (ps_if (pt_cmpR op_ne (pe_fn G_splits_for (hr.mono (by decide)) (pa_cons (pv 1) (pa_cons (pv 2) (pa_cons (pv 10) pa_nil)))) (pe_ifExp (pt_cmpR (opNeNil (K := K) rfl hr.units) (pv 12) (pe_lst pa_nil) (nomark _)) (pe_callB (crMin (K := K) rfl rfl) (by rfl) T.n_min (by decide +kernel) (pa_cons (pv 12) pa_nil)) pe_non) (nomark _)) (pss_one (ps_ret pe_bl)) pss_nil))))
      (pss_one (ps_ret pe_bl)))))))), ?_⟩
    refine ⟨_, rfl, p, n, [], G, 6, rfl, hs, by omega, by decide, by decide, fun r0 H1 G1 ys es s1 hc1 hmd hel h1 => ?_⟩
    have hv := hmd.v
    have sA : Same G (upd G1 r0 (.lst ys)) := fun b u e => Same.upd h1.cfree b u (s1 b u e)
    have h2 := h1.freeze
    have a2 : (upd G1 r0 (.lst ys)) r0 = some (.lst ys) := upd_same
    have hc2 : CatAt (upd G1 r0 (.lst ys)) ys es := hc1.mono (Same.upd h1.cfree)
    generalize upd G1 r0 (.lst ys) = G2 at h2 a2 hc2 sA
    refine ⟨_, rfl, _, rfl, p, r0, _, [], G2, ys, es, 10, rfl, h2, by omega, a2, hc2, hmd, by decide, fun sh H3 d so d3 dt h3 => ?_⟩
    have h4 := h3.freeze
    have s4 : Same G2 (upd G2 sh (.dK (dS d))) := Same.upd h3.cfree
    have b4 : (upd G2 sh (.dK (dS d))) sh = some (.dK (dS d)) := upd_same
    have a4 := s4 _ _ a2
    have sB : Same G (upd G2 sh (.dK (dS d))) := fun b u e => s4 b u (sA b u e)
    have hc4 := hc2.mono s4
    generalize upd G2 sh (.dK (dS d)) = G4 at h4 a4 hc4 b4 sB
    clear h1 h2 h3 s1 hc1 s4 hc2 a2 sA hs
    have hsp : ∀ {H : Hp}, Hq Tb p (n + 4000) [] G4 H → SqL K H r0 ys ∧ CatAt H ys es ∧ H sh = some (.dK (dS d)) := fun h => ⟨SqL.of (h.fzat a4), hc4.mono h.fz.sub, h.fzat b4⟩
    have h5 := h4.mono (m := n + 4000) (by omega)
    clear h4
    obtain ⟨z1, z2, z3⟩ := hsp h5
    refine ⟨_, rfl, _, rfl, r0, sh, ys, es, d, rfl, z1, z2, z3, h5.tab, hv, so, by omega, dt, fun H6 g6 => ?_, fun ev H6 es' evs hp ho g6 nev hev len hevs => ?_⟩
    · refine ⟨_, rfl, rfl, true, rfl, ?_⟩
      refine iteT ?_
      exact k _ (((h5.gr g6).less sB).mono (by omega))
    have S : Sit es es' d := ⟨hv, hp, ho, so, by omega⟩
    have uq : ∀ es2 : List Ent, es2.Perm es → Ordered es2 → es2 = es' := fun es2 p2 o2 => ordered_unique (p2.trans hp.symm) o2 ho ((p2.map _).nodup_iff.mpr hv.nodup)
    have h6 := h5.gr g6
    clear h5 z1 z2 z3
    have hel' := hp.length_eq
    have T0 : 0 ≤ totI es' d := by
      rw [← S.tot]
      exact sumN_nonneg fun i hi => S.F0 i hi
    have T10 : totI es' d ≤ 10 := dt es' hp ho
    refine ⟨_, rfl, rfl, false, rfl, ?_⟩
    refine iteF ?_
    dsimp only [tNext]
    have evl := Paired.len hevs
    generalize hL : statesS es' d es'.length = L at len hevs evl
    refine sq_st (fun σ H' => ∃ s4 s5 s6 s7 s8 s9 s10 s11 s12 s13 s14 s15 : Option V, σ = [some (.ref p), some (.ref r0), some (.ref sh), some (.ref ev), s4, s5, s6, s7, s8, s9, s10, s11, s12, s13, s14, s15] ∧ Gr Tb H6 H') (fun N hN => ?_) ?_
    · obtain ⟨z1, z2, z3⟩ := hsp h6
      refine ⟨_, rfl, _, rfl, r0, sh, ys, es, d, rfl, z1, z2, z3, h6.tab, hv, fun H7 es2 p2 o2 g7 => ?_⟩
      rw [uq es2 p2 o2]
      refine ⟨_, _, rfl, rfl, _, rfl, by show -(2 ^ 62) ≤ totI es' d + 1; omega, by show totI es' d + 1 < 2 ^ 62; omega, for_range (lo := 0) (n := (totI es' d + 1).toNat) (fun i σ H' => ∃ s4 s5 s6 s7 s8 s9 s10 s11 s12 s13 s14 s15 : Option V, σ = [some (.ref p), some (.ref r0), some (.ref sh), some (.ref ev), s4, s5, s6, s7, s8, s9, s10, s11, s12, s13, s14, s15] ∧ Gr Tb H6 H')
        ⟨_, _, _, _, _, _, _, _, _, _, _, _, rfl, g7⟩ ?_ (fun σ H' h => hN _ _ h)⟩
      rintro i σ H8 hi ⟨s4, s5, s6, s7, s8, s9, s10, s11, s12, s13, s14, s15, rfl, g8⟩
      have i0 : (0 : Int) ≤ i := by omega
      have iT : (i : Int) ≤ totI es' d := by omega
      refine goN ?_
      dsimp only
      rw [Int.zero_add]
      -- some
      refine ⟨_, rfl, ev, rfl, ⟨_, SqL.of (g8.at hev .lst)⟩, fun D hD => lc_on (Tb := Tb) (xs := evs) (ts := L) walk_list rfl hevs (fun u => decide (sumN (cN es' (getD u)) es'.length = i)) (fun H' u y => ∃ T, y = .ref T ∧ ∃ a b, H' T = some (.tup [.ref a, .ref b]) ∧ H6 a = some (.lst ((cutsOf es' es'.length u).map V.int)) ∧ H6 b = some (.lst ((haveOf es' d u).map V.int))) (fun H H' u y m ⟨T, e1, a, b, e2, e3⟩ => ⟨T, e1, a, b, m _ _ .tup (.inl fun l z => by cases z) e2, e3⟩) hD (by omega) (fun H' g => SqL.of ((g8.trans g).at hev .lst)) (fun x u H' hin hu g Rk Rs hk hs => ?_) fun H9 ss g9 hD9 hss => ?_⟩
      · obtain ⟨p0, a0, b0, rfl, hp0, ha0, hb0⟩ := hin
        have g' := g8.trans g
        refine gtup2 (g'.at hp0 .tup) ⟨rfl, ?_⟩
        refine ⟨_, rfl, a0, _, rfl, SqL.of (g'.at ha0 .lst), _, rfl, rfl, _, rfl, ?_⟩
        rw [cuts_sum]
        refine ite2 (fun c1 => ?_) (fun c1 => ?_)
        · have c2 := V.int.inj (of_decide_eq_true c1)
          exact ⟨_, rfl, _, rfl, by show 2 ≤ sizeLine; decide, fun T hT => hk _ _ (decide_eq_true c2) (Gr.new hT) ⟨T, rfl, a0, b0, upd_same, ha0, hb0⟩⟩
        · refine hs _ ?_ (Gr.refl _)
          exact decide_eq_false fun z => c1 (decide_eq_true (by rw [z]))
      have hss' := Paired.flip hss
      have ssl := Paired.len hss'
      clear hss
      refine goN ?_
      dsimp only
      have g89 := g8.trans g9
      have h9 := h6.gr g89
      -- told
      obtain ⟨z1, z2, z3⟩ := hsp h9
      refine ⟨_, rfl, _, rfl, _, rfl, r0, sh, ys, es, d, (i : Int), rfl, z1, z2, z3, h9.tab, hv, so, i0, (fun es3 p3 o3 => by rw [uq es3 p3 o3]; exact iT), fun B H10 es2 p2 o2 g10 nB hB => ?_⟩
      rw [uq es2 p2 o2] at hB
      clear p2 o2 es2
      refine goN ?_
      dsimp only
      have h10 := h9.gr g10
      obtain ⟨z1, z2, z3⟩ := hsp h10
      -- own
      refine ⟨_, rfl, r0, ys, es, rfl, z1, z2, h10.tab, by omega, fun s H11 ys2 es2 p2 o2 hyx hc11 g11 hs => ?_⟩
      have e2 := uq es2 p2 o2
      subst e2
      have gs := Gr.new (T := Tb) (o := .lst ys2) hs
      have hs12 : (upd H11 s (.lst ys2)) s = some (.lst ys2) := upd_same
      have g12 := g11.trans gs
      generalize upd H11 s (.lst ys2) = H12 at hs12 g12
      have yl2 := Paired.len hc11
      refine ⟨s, rfl, ⟨_, SqL.of hs12⟩, fun D2 hD2 => lc_fn (Tb := Tb) (xs := ys2) (ts := es2) walk_list rfl hc11 (fun _ => true) (fun e => .int (getD (greedy (fs es2 (getD d)) (i : Int)) e.name)) hD2 (by omega) (fun H' g => SqL.of (g.at hs12 .lst)) (fun x e H' hin he g Rk Rs hk hs => ?_) fun H13 g13 hD13 => ?_⟩
      · obtain ⟨t, lp, rfl, htp, hlp⟩ := hin
        have g' := g12.trans g
        refine ⟨rfl, _, rfl, B, rfl, IsD.num (g'.at hB .dK), ?_⟩
        refine ⟨_, rfl, t, _, _, _, rfl, rfl, SqT.of (g'.at htp .tup), atI_nat (j := 0) rfl, _, dgetO (g'.at hB .dK) e.name, ?_⟩
        rw [getO, getD_clean S.v'.nodup _ he]
        exact hk _ rfl (Gr.refl _)
      have eo : ((es2.filter fun _ => true).map fun e => V.int (getD (greedy (fs es2 (getD d)) (i : Int)) e.name)) = (cutsOf es2 es2.length (greedy (fs es2 (getD d)) (i : Int))).map V.int := by
        rw [List.filter_eq_self.mpr fun _ _ => rfl]
        unfold cutsOf
        rw [List.take_length, List.map_map]
        rfl
      rw [eo] at hD13
      clear eo
      generalize hBal : greedy (fs es2 (getD d)) (i : Int) = bal at hD13
      refine goN ?_
      dsimp only
      have g913 := (g10.trans g12).trans g13
      -- tops
      refine ⟨_, rfl, D, rfl, ⟨_, SqL.of (g913.at hD9 .lst)⟩, fun D3 hD3 => lc_fn (Tb := Tb) (xs := ss) walk_list rfl hss' (fun _ => true) (fun u => .int (topU es es2 d u)) hD3 (by have := List.length_filter_le (fun u => decide (sumN (cN es2 (getD u)) es2.length = (i : Int))) L; omega) (fun H' g => SqL.of ((g913.trans g).at hD9 .lst)) (fun x u H' hin he g Rk Rs hk hs => ?_) fun H14 g14 hD14 => ?_⟩
      · obtain ⟨T, rfl, a0, b0, hT, ha0, hb0⟩ := hin
        have g' := g913.trans g
        have h' := h9.gr g'
        obtain ⟨z1, z2, z3⟩ := hsp h'
        have gg := g89.trans g'
        refine gtup2 (g'.at hT .tup) ⟨rfl, ?_⟩
        refine ⟨_, rfl, _, rfl, _, rfl, r0, a0, b0, ys, es, es2, getD u, pn es2 d u, rfl, z1, z2, h'.tab, hv, hp, ho, by omega, ?_, ?_, fun H15 g15 => hk _ rfl g15⟩
        · have e1 : cutsOf es2 es2.length u = es2.map fun e => getD u e.name := by
            unfold cutsOf
            rw [List.take_length]
          rw [← e1]
          exact SqL.of (gg.at ha0 .lst)
        · exact SqL.of (gg.at hb0 .lst)
      rw [List.filter_eq_self.mpr fun _ _ => rfl] at hD14
      refine goN ?_
      dsimp only
      generalize hLs : L.filter (fun u => decide (sumN (cN es2 (getD u)) es2.length = (i : Int))) = Ls at hss' hD14 ssl
      have g914 := g913.trans g14
      have eT : (Ls.map fun u => V.int (topU es es2 d u)) = (Ls.map (topU es es2 d)).map V.int := by
        rw [List.map_map]
        rfl
      rw [eT] at hD14
      clear eT
      -- the plain part
      have bok : SplitsOk es d bal := by rw [← hBal]; exact balanced_ok S.hv S.hp S.ho S.so S.hz i0
      obtain ⟨vB, bB, bsum⟩ := S.bal i0 iT
      have btop := S.bal_top (i : Int)
      have vB : Vec es2.length (fullN es2 d) (cN es2 (getD bal)) := by rw [← hBal]; exact vB
      have bB : Bal es2.length (fullN es2 d) (cN es2 (getD bal)) := by rw [← hBal]; exact bB
      have bsum : sumN (cN es2 (getD bal)) es2.length = i := by rw [← hBal]; exact bsum
      obtain ⟨u0, hu0, gu0⟩ := S.listed bok
      rw [hL] at hu0
      have c0 : cutsOf es2 es2.length u0 = cutsOf es2 es2.length bal := cuts_congr gu0
      have m0 : u0 ∈ Ls := by
        rw [← hLs]
        exact List.mem_filter.mpr ⟨hu0, decide_eq_true (by rw [← cuts_sum, c0, cuts_sum, bsum])⟩
      have okL : ∀ u ∈ Ls, SplitsOk es d u ∧ sumN (cN es2 (getD u)) es2.length = i := fun u hu => by
        rw [← hLs] at hu
        obtain ⟨h1, h2⟩ := List.mem_filter.mp hu
        exact ⟨S.listed_ok (by rw [hL]; exact h1), of_decide_eq_true h2⟩
      have best : ∀ u ∈ Ls, topU es es2 d bal ≤ topU es es2 d u := fun u hu => by
        obtain ⟨h1, h2⟩ := okL u hu
        have h3 := S.best h1 (by rw [← S.sum h1]; exact h2) i0 iT
        rw [← btop, ← S.topU_eq, hBal] at h3
        exact h3
      have top0 : topU es es2 d u0 = topU es es2 d bal := S.topU_congr gu0
      have minT : ∀ m, m ∈ Ls.map (topU es es2 d) → (∀ y ∈ Ls.map (topU es es2 d), m ≤ y) → m = topU es es2 d bal := fun m hm hle => by
        obtain ⟨u, hu, rfl⟩ := List.mem_map.mp hm
        have h1 := best u hu
        have h2 := hle _ (List.mem_map.mpr ⟨u0, m0, rfl⟩)
        omega
      have Lpos : 0 < (Ls.map (topU es es2 d)).length := by
        rw [List.length_map]
        exact List.length_pos_of_mem m0
      have Lle : Ls.length ≤ 2000 := by
        rw [← hLs]
        have := List.length_filter_le (fun u => decide (sumN (cN es2 (getD u)) es2.length = (i : Int))) L
        omega
      have own13 := g14.at hD13 .lst
      have D14 := g914.at hD9 .lst
      have h14 := h9.gr g914
      have i14 : Paired (fun v u => ∃ T, v = .ref T ∧ ∃ a b, H14 T = some (.tup [.ref a, .ref b]) ∧ H6 a = some (.lst ((cutsOf es2 es2.length u).map V.int)) ∧ H6 b = some (.lst ((haveOf es2 d u).map V.int))) ss Ls := Paired.imp (fun v u ⟨T, e1, a, b, e2, e3⟩ => ⟨T, e1, a, b, g914.at e2 .tup, e3⟩) hss'
      have g614 := g89.trans g914
      clear hss' g914 g14 g913 g13 g12 g11 gs g10 g89 g9 g8 g7 hD13 hD9 h9 h10 hB z1 z2 z3 hc11 hs12
      -- the first test
      refine sq_st (fun σ' H' => σ' = [some (.ref p), some (.ref r0), some (.ref sh), some (.ref ev), some (.int (i : Int)), some (.ref D), some (.ref B), some (.ref D2), some (.ref D3), s9, s10, s11, s12, s13, s14, s15] ∧ Gr Tb H14 H') (fun N2 hN2 => ?_) ?_
      · refine ⟨_, rfl, _, rfl, D, rfl, ⟨_, SqL.of D14⟩, fun D4 hD4 => lc_on (Tb := Tb) (xs := ss) walk_list rfl i14 (fun _ => true) (fun _ u y => ∃ a, y = .ref a ∧ H6 a = some (.lst ((cutsOf es2 es2.length u).map V.int))) (fun H H' u y m h => h) hD4 (by omega) (fun H' g => SqL.of (g.at D14 .lst)) (fun x u H' hin hu g Rk Rs hk hs => ?_) fun H15 cs g15 hD15 hcs => ?_⟩
        · obtain ⟨T, rfl, a0, b0, hT, ha0, hb0⟩ := hin
          refine gtup2 (g.at hT .tup) ⟨rfl, _, rfl, hk _ _ rfl (Gr.refl _) ⟨a0, rfl, ha0⟩⟩
        rw [List.filter_eq_self.mpr fun _ _ => rfl] at hcs
        have g615 := g614.trans g15
        have shp := intss_shaped (Ls.map (cutsOf es2 es2.length))
        rw [List.map_map] at shp
        refine ⟨intsD (cutsOf es2 es2.length bal), Ls.map (fun u => intsD (cutsOf es2 es2.length u)), dp_ints (SqL.of (g15.at own13 .lst)), .lst (SqL.of hD15) (intss_dp _ (Paired.imp (fun u y ⟨a, e1, e2⟩ => ⟨a, e1, g615.at e2 .lst⟩) hcs)), ints_shaped _, shp, _, rfl, ?_⟩
        have hany : ((Ls.map fun u => intsD (cutsOf es2 es2.length u)).any fun z => PyData.eqv z (intsD (cutsOf es2 es2.length bal))) = true := List.any_eq_true.mpr ⟨_, List.mem_map.mpr ⟨u0, m0, rfl⟩, by
          unfold intsD
          rw [eqv_ints]
          exact decide_eq_true c0⟩
        refine iteFb (by rw [hany]; rfl) ?_
        have h15 := h14.gr g15
        obtain ⟨z1, z2, z3⟩ := hsp h15
        refine (show tOrT _ _ _ _ _ _ from rd_post (fun v H' => v = .int (topU es es2 d bal) ∧ Gr Tb H15 H') (fun Q' kq => ?_) ?_)
        · refine ⟨_, rfl, _, rfl, _, rfl, r0, sh, ys, es, d, (i : Int), rfl, z1, z2, z3, h15.tab, hv, so, i0, (fun es3 p3 o3 => by rw [uq es3 p3 o3]; exact iT), fun H16 es3 p3 o3 g16 => ?_⟩
          rw [uq es3 p3 o3]
          rw [hBal] at btop ⊢
          exact orT_opt (Q' := Q') (kq _ _ ⟨by rw [btop], g16⟩)
        rintro v H16 ⟨rfl, g16⟩
        have g1416 := g15.trans g16
        refine ⟨_, rfl, D3, _, rfl, SqL.of (g1416.at hD14 .lst), Lpos, fun m hm hle => ?_⟩
        rw [minT m hm hle]
        refine ⟨rfl, _, rfl, iteFb (by rw [decide_eq_true rfl]; rfl) ?_⟩
        exact hN2 _ _ ⟨rfl, g1416⟩
      rintro σ' H15 ⟨rfl, g15⟩
      -- the second test
      refine sq_st (fun σ' H' => σ' = [some (.ref p), some (.ref r0), some (.ref sh), some (.ref ev), some (.int (i : Int)), some (.ref D), some (.ref B), some (.ref D2), some (.ref D3), s9, s10, s11, s12, s13, s14, s15] ∧ Gr Tb H14 H') (fun N2 hN2 => ?_) ?_
      · refine ⟨_, rfl, D2, _, rfl, SqL.of (g15.at own13 .lst), by rw [cuts_len]; omega, fun H16 g16 => ?_⟩
        rw [cuts_last]
        have g1416 := g15.trans g16
        refine ⟨_, rfl, D, rfl, ⟨_, SqL.of (g1416.at D14 .lst)⟩, fun D4 hD4 => lc_fn (Tb := Tb) (xs := ss) walk_list rfl i14 (fun _ => true) (fun u => .int (lastN (cN es2 (getD u)) es2.length)) hD4 (by omega) (fun H' g => SqL.of ((g1416.trans g).at D14 .lst)) (fun x u H' hin hu g Rk Rs hk hs => ?_) fun H17 g17 hD17 => ?_⟩
        · obtain ⟨T, rfl, a0, b0, hT, ha0, hb0⟩ := hin
          refine gtup2 ((g1416.trans g).at hT .tup) ⟨rfl, _, rfl, a0, _, rfl, SqL.of ((g614.trans (g1416.trans g)).at ha0 .lst), by rw [cuts_len]; omega, fun H' g2 => ?_⟩
          rw [cuts_last]
          exact hk _ rfl g2
        rw [List.filter_eq_self.mpr fun _ _ => rfl] at hD17
        have eM : (Ls.map fun u => V.int (lastN (cN es2 (getD u)) es2.length)) = (Ls.map fun u => lastN (cN es2 (getD u)) es2.length).map V.int := by
          rw [List.map_map]
          rfl
        rw [eM] at hD17
        refine ⟨D4, _, rfl, SqL.of hD17, by rw [List.length_map]; exact List.length_pos_of_mem m0, fun m hm hle => ?_⟩
        have em : m = lastN (cN es2 (getD bal)) es2.length := by
          have h1 := hle _ (List.mem_map.mpr ⟨u0, m0, rfl⟩)
          have h2 : lastN (cN es2 (getD u0)) es2.length = lastN (cN es2 (getD bal)) es2.length := by
            rw [← cuts_last, c0, cuts_last]
          obtain ⟨u, hu, rfl⟩ := List.mem_map.mp hm
          obtain ⟨o1, o2⟩ := okL u hu
          have h3 := lastN_bal vB bB (S.vec o1) (by rw [o2, bsum])
          omega
        rw [em]
        refine ⟨rfl, _, rfl, iteFb (by rw [decide_eq_true rfl]; rfl) ?_⟩
        exact hN2 _ _ ⟨rfl, g1416.trans g17⟩
      clear g15 H15
      rintro σ' H15 ⟨rfl, g15⟩
      -- the third test
      refine ⟨_, rfl, _, rfl, D, rfl, ⟨_, SqL.of (g15.at D14 .lst)⟩, fun D4 hD4 => lc_on (Tb := Tb) (xs := ss) walk_list rfl i14 (fun _ => true) (fun _ u y => ∃ a, y = .ref a ∧ H6 a = some (.lst ((cutsOf es2 es2.length u).map V.int))) (fun H H' u y m h => h) hD4 (by omega) (fun H' g => SqL.of ((g15.trans g).at D14 .lst)) (fun x u H' hin hu g Rk Rs hk hs => ?_) fun H16 cs g16 hD16 hcs => ?_⟩
      · obtain ⟨T, rfl, a0, b0, hT, ha0, hb0⟩ := hin
        refine gtup2 ((g15.trans g).at hT .tup) ⟨rfl, _, rfl, hk _ _ rfl (Gr.refl _) ⟨a0, rfl, ha0⟩⟩
      rw [List.filter_eq_self.mpr fun _ _ => rfl] at hcs
      have g1416 := g15.trans g16
      have g616 := g614.trans g1416
      have shp := intss_shaped (Ls.map (cutsOf es2 es2.length))
      rw [List.map_map] at shp
      have hany : ((Ls.map fun u => intsD (cutsOf es2 es2.length u)).any fun z => PyData.eqv z (intsD (cutsOf es2 es2.length bal))) = true := List.any_eq_true.mpr ⟨_, List.mem_map.mpr ⟨u0, m0, rfl⟩, by
        unfold intsD
        rw [eqv_ints]
        exact decide_eq_true c0⟩
      obtain ⟨j, z, hz1, hz2, hz3⟩ := first_ix hany
      have hz1' := hz1
      rw [List.getElem?_map] at hz1'
      obtain ⟨u1, hu1, hz4⟩ : ∃ u1, Ls[j]? = some u1 ∧ intsD (cutsOf es2 es2.length u1) = z := by
        cases q : Ls[j]? with
        | none => rw [q] at hz1'; cases hz1'
        | some u1 => rw [q] at hz1'; exact ⟨u1, rfl, Option.some.inj hz1'⟩
      have c1 : cutsOf es2 es2.length u1 = cutsOf es2 es2.length bal := by
        rw [← hz4] at hz2
        unfold intsD at hz2
        rw [eqv_ints] at hz2
        exact of_decide_eq_true hz2
      have t1 : topU es es2 d u1 = topU es es2 d bal := S.topU_congr (cuts_inj c1)
      refine ⟨.inl ⟨rfl, _, SqL.of hD16⟩, _, rfl, D4, _, intsD (cutsOf es2 es2.length bal), Ls.map (fun u => intsD (cutsOf es2 es2.length u)), j, z, rfl, rfl, .lst (SqL.of hD16) (intss_dp _ (Paired.imp (fun u y ⟨a, e1, e2⟩ => ⟨a, e1, g616.at e2 .lst⟩) hcs)), dp_ints (SqL.of (g1416.at own13 .lst)), shp, ints_shaped _, hz1, hz2, hz3, ?_⟩
      refine ⟨D3, _, _, _, rfl, rfl, SqL.of (g1416.at hD14 .lst), atI_nat (j := j) (by rw [List.getElem?_map, List.getElem?_map, hu1]; rfl), ?_⟩
      refine ⟨_, rfl, D3, _, rfl, SqL.of (g1416.at hD14 .lst), Lpos, fun m hm hle => ?_⟩
      rw [minT m hm hle]
      refine ⟨rfl, _, rfl, iteFb (by rw [t1, decide_eq_true rfl]; rfl) ?_⟩
      exact ⟨_, _, _, _, _, _, _, _, _, _, _, _, rfl, g614.trans g1416⟩
    rintro σ H7 ⟨s4, s5, s6, s7, s8, s9, s10, s11, s12, s13, s14, s15, rfl, g7⟩
    -- the limits
    have h7 := h6.gr g7
    obtain ⟨z1, z2, z3⟩ := hsp h7
    refine sq_st (fun σ H' => ∃ s4 s5 s6 s7 s8 s9 s10 s11 s12 s13 s14 s15 : Option V, σ = [some (.ref p), some (.ref r0), some (.ref sh), some (.ref ev), s4, s5, s6, s7, s8, s9, s10, s11, s12, s13, s14, s15] ∧ Gr Tb H6 H') (fun N hN => ?_) ?_
    · refine ⟨_, rfl, r0, rfl, ⟨_, z1⟩, for_list (K := K) (a := r0) (xs := ys) (fun i σ H' => ∃ s4 s5 s6 s7 s8 s9 s10 s11 s12 s13 s14 s15 : Option V, σ = [some (.ref p), some (.ref r0), some (.ref sh), some (.ref ev), s4, s5, s6, s7, s8, s9, s10, s11, s12, s13, s14, s15] ∧ Gr Tb H6 H')
        ⟨_, _, _, _, _, _, _, _, _, _, _, _, rfl, g7⟩ (fun i σ H' _ ⟨_, _, _, _, _, _, _, _, _, _, _, _, _, g⟩ => (hsp (h6.gr g)).1) ?_ (fun σ H' h => hN _ _ h)⟩
      clear g7 h7 z1 z2 z3 s4 s5 s6 s7 s8 s9 s10 s11 s12 s13 s14 s15
      rintro i x σ H8 hx ⟨s4, s5, s6, s7, s8, s9, s10, s11, s12, s13, s14, s15, rfl, g8⟩
      have h8 := h6.gr g8
      obtain ⟨z1, z2, z3⟩ := hsp h8
      obtain ⟨e, he, t, lp, rfl, htp, hlp⟩ := Paired.at z2 hx
      have hem := List.mem_of_getElem? he
      have wp := hv.pos e hem
      refine gtup3 htp ?_
      refine ⟨_, rfl, ev, rfl, ⟨_, SqL.of (g8.at hev .lst)⟩, fun D hD => lc_fn (Tb := Tb) (xs := evs) walk_list rfl hevs (fun u => decide (topU es es' d u ≤ e.w)) (fun u => .int (sumN (cN es' (getD u)) es'.length)) hD (by omega) (fun H' g => SqL.of ((g8.trans g).at hev .lst)) (fun x u H' hin hu g Rk Rs hk hs => ?_) fun H9 g9 hD9 => ?_⟩
      · obtain ⟨p0, a0, b0, rfl, hp0, ha0, hb0⟩ := hin
        have g' := g8.trans g
        have h' := h6.gr g'
        obtain ⟨z1, z2, z3⟩ := hsp h'
        refine gtup2 (g'.at hp0 .tup) ⟨rfl, ?_⟩
        refine ⟨_, rfl, _, rfl, _, rfl, r0, a0, b0, ys, es, es', getD u, pn es' d u, rfl, z1, z2, h'.tab, hv, hp, ho, by omega, ?_, ?_, fun H15 g15 => ?_⟩
        · have e1 : cutsOf es' es'.length u = es'.map fun e => getD u e.name := by
            unfold cutsOf
            rw [List.take_length]
          rw [← e1]
          exact SqL.of (g'.at ha0 .lst)
        · exact SqL.of (g'.at hb0 .lst)
        · refine ⟨_, rfl, _, _, rfl, rfl, _, rfl, ?_⟩
          refine ite2 (fun c1 => ?_) (fun c1 => ?_)
          · refine ⟨_, rfl, a0, _, rfl, SqL.of ((g'.trans g15).at ha0 .lst), ?_⟩
            rw [cuts_sum]
            exact hk _ c1 g15
          · exact hs _ (by cases q : decide (topU es es' d u ≤ e.w) with | false => rfl | true => exact absurd q c1) g15
      have eM : ((L.filter fun u => decide (topU es es' d u ≤ e.w)).map fun u => V.int (sumN (cN es' (getD u)) es'.length)) = ((L.filter fun u => decide (topU es es' d u ≤ e.w)).map fun u => sumN (cN es' (getD u)) es'.length).map V.int := by
        rw [List.map_map]
        rfl
      rw [eM] at hD9
      refine goN ?_
      dsimp only
      have h9 := h8.gr g9
      obtain ⟨z1, z2, z3⟩ := hsp h9
      refine ⟨_, rfl, _, rfl, _, rfl, r0, sh, ys, es, d, e.w, rfl, z1, z2, z3, h9.tab, hv, so, by omega, fun H10 es2 p2 o2 g10 => ?_⟩
      rw [uq es2 p2 o2]
      have g810 := g9.trans g10
      refine (show tIf _ _ _ _ _ _ from rd_post (fun v H' => v = optV (limO es' (getD d) e.w) ∧ Gr Tb H8 H') (fun Q' kq => ?_) ?_)
      · refine ⟨_, rfl, rd_nil (SqL.of (g10.at hD9 .lst)) fun p0 hp0 => ⟨_, rfl, ?_⟩⟩
        have gq := g810.trans (Gr.new (T := Tb) (o := .lst []) hp0)
        have hD11 := (g10.trans (Gr.new (T := Tb) (o := .lst []) hp0)).at hD9 .lst
        generalize upd H10 p0 (.lst []) = H11 at gq hD11
        cases hlim : limO es' (getD d) e.w with
        | none =>
          have hnil : L.filter (fun u => decide (topU es es' d u ≤ e.w)) = [] := List.filter_eq_nil_iff.mpr fun u hu z => by
            obtain ⟨N', h1, _⟩ := S.reach (S.listed_ok (by rw [hL]; exact hu)) (by omega) (of_decide_eq_true z)
            rw [hlim] at h1
            cases h1
          refine iteFb (by rw [hnil]; rfl) ?_
          exact kq _ _ ⟨by rw [hlim]; rfl, gq⟩
        | some n0 =>
          have r := S.lim_range hlim
          have bok := balanced_ok hv hp ho so S.hz r.1
          obtain ⟨_, _, bsum⟩ := S.bal r.1 r.2
          obtain ⟨u0, hu0, gu0⟩ := S.listed bok
          rw [hL] at hu0
          have t0 : topU es es' d u0 ≤ e.w := by
            rw [S.topU_congr gu0]
            exact S.at_lim (by omega) hlim
          have m0 : u0 ∈ L.filter fun u => decide (topU es es' d u ≤ e.w) := List.mem_filter.mpr ⟨hu0, decide_eq_true t0⟩
          have su0 : sumN (cN es' (getD u0)) es'.length = n0 := by rw [← cuts_sum, cuts_congr gu0, cuts_sum]; exact bsum
          refine iteTb (by
            have := List.length_pos_of_mem m0
            cases q : L.filter fun u => decide (topU es es' d u ≤ e.w) with
            | nil => rw [q] at this; exact absurd this (Nat.lt_irrefl _)
            | cons _ _ => rfl) ?_
          refine ⟨_, rfl, D, _, rfl, SqL.of hD11, by rw [List.length_map]; exact List.length_pos_of_mem m0, fun m hm hle => ?_⟩
          have em : m = n0 := by
            have h1 := hle _ (List.mem_map.mpr ⟨u0, m0, rfl⟩)
            obtain ⟨u, hu, rfl⟩ := List.mem_map.mp hm
            obtain ⟨u1, u2⟩ := List.mem_filter.mp hu
            obtain ⟨N', h2, h3⟩ := S.reach (S.listed_ok (by rw [hL]; exact u1)) (by omega) (of_decide_eq_true u2)
            rw [hlim] at h2
            cases h2
            omega
          exact kq _ _ ⟨by rw [em, hlim]; rfl, gq⟩
      rintro v H11 ⟨rfl, g11⟩
      refine ⟨by cases limO es' (getD d) e.w <;> rfl, _, rfl, iteFb (by rw [decide_eq_true rfl]; rfl) ?_⟩
      exact ⟨_, _, _, _, _, _, _, _, _, _, _, _, rfl, g8.trans g11⟩
    rintro σ H8 ⟨t4, t5, t6, t7, t8, t9, t10, t11, t12, t13, t14, t15, rfl, g8⟩
    exact k _ (((h6.gr g8).less sB).mono (by omega))
end
end Sk
namespace Sk
open PySem PySem.Spec PyProof.Rows L2
abbrev s_law : Stmt := topS 39
abbrev N_law : List Str := ["script", "at", "pool", "turn"]
theorem sc_law : FnScope N_law ["script"] (defScope s_law) := ⟨rfl, rfl, rfl, by decide +kernel, rfl, by decide +kernel, by decide +kernel⟩
def sp_law (Tb : List (Addr × Str)) (K : PySem.W.Frag) : Sp := fun vs H Q _ => ∃ (a : Addr) (ns : List Int), vs = [.ref a] ∧ SqL K H a (ns.map V.int) ∧ ns.length ≤ 63 ∧ LamX.Tabs Tb H ∧ ∀ H', Q (.bl true) H'
theorem sq_fz {K : PySem.W.Frag} {H : Hp} {a : Addr} {xs : List V} (h : SqL K H a xs) : ∃ G, Fz G H ∧ SqL K G a xs := by
  rcases h with (z | ⟨o, z⟩) | z
  · exact ⟨upd (fun _ => none) a (.lst xs), Fz.emp.add z .lst, .inl (.inl upd_same)⟩
  · exact ⟨upd (fun _ => none) a (.frz o (.lst xs)), Fz.emp.add z .frz, .inl (.inr ⟨o, upd_same⟩)⟩
  · exact ⟨_, Fz.emp, .inr z⟩
section
variable {P : Program} {w : World} {K : PySem.W.Frag} {mg : Str → Option Value} {base : Heap} {Tb : List (Addr × Str)}
theorem ok_law {f : Addr} {fd : FuncData} (F : FnP K "law" s_law f fd) (T : Tx K mg) (G_law_pool : Fn P w K mg base "_law_pool" 1 ["script", "at"] (sp_law_pool Tb K)) (GG_law_right : FnGx P w K mg base "_law_right" 8 ["pool"] (sp_law_right Tb K)) : FnG P w K mg base 9 f fd ["script"] (sp_law Tb K) := by
  refine fnG_of F sc_law (fun vs H Q E h => ?_) (fun cdv A outer s H vs Q E hgd hr h => ?_)
  · obtain ⟨_, _, rfl, _⟩ := h
    rfl
  · obtain ⟨a, ns, rfl, ha, hz, ht, k⟩ := h
    refine ⟨_, PSs.nox (pss_cons (ps_for PassesOwn.never rfl (pi_range1 (by rfl) T.n_range (pa_cons (pe_callB (call_max2 rfl) (by rfl) T.n_max (by decide +kernel) (pa_cons pe_int (pa_cons (pe_callB (call_min2 rfl) (by rfl) T.n_min (by decide +kernel) (pa_cons pe_int (pa_cons (pe_callB (lenS (K := K) rfl) (by rfl) T.n_len (by decide +kernel) (pa_cons (pv 0) pa_nil)) pa_nil))) pa_nil))) pa_nil)) (pg_name (i := 1) sc_law.nd rfl (Or.inl rfl)) (pss_cons (ps_set (i := 2) sc_law.nd rfl (Or.inl rfl) (pe_fn G_law_pool (hr.mono (by decide)) (pa_cons (pv 0) (pa_cons (pv 1) pa_nil))))
        (pss_one (ps_for PassesOwn.never rfl (pi_range1 (by rfl) T.n_range (pa_cons pe_int pa_nil)) (pg_name (i := 3) sc_law.nd rfl (Or.inl rfl)) (pss_one (ps_if (pt_not (pt_val (pe_fnG GG_law_right hgd (hr.mono (by decide)) (pa_cons (pv 2) pa_nil)))) (pss_one (ps_ret pe_bl)) pss_nil))))))
      (pss_one (ps_ret pe_bl))), ?_⟩
    obtain ⟨G, hf, hg⟩ : ∃ G, Fz G H ∧ SqL K G a (ns.map V.int) := sq_fz ha
    refine ⟨_, rfl, a, _, rfl, .inl ha, _, _, rfl, _, _, rfl, _, rfl, ?_, ?_, for_range (lo := 0) (n := (if (if ((ns.map V.int).length : Int) < 5 then ((ns.map V.int).length : Int) else 5) > 1 then (if ((ns.map V.int).length : Int) < 5 then ((ns.map V.int).length : Int) else 5) else 1).toNat)
      (fun i σ H' => ∃ s1 s2 s3 : Option V, σ = [some (.ref a), s1, s2, s3] ∧ Fz G H' ∧ LamX.Tabs Tb H') ⟨_, _, _, rfl, hf, ht⟩ ?_ (fun σ H' _ => k H')⟩
    · split <;> split <;> omega
    · split <;> split <;> omega
    rintro i σ H2 hi ⟨s1, s2, s3, rfl, hf2, ht2⟩
    have hi5 : i ≤ 5 := by split at hi <;> split at hi <;> omega
    refine ⟨_, rfl, _, rfl, a, i, ns, G, by rw [Int.zero_add]; rfl, hf2.sub.seq hg, by omega, hf2, ht2, fun p H3 hs g3 => ?_⟩
    refine ⟨_, rfl, by decide, by decide, for_range (lo := 0) (n := 2)
      (fun j σ H' => ∃ s3 : Option V, σ = [some (.ref a), some (.int (0 + (i : Int))), some (.ref p), s3] ∧ Hq Tb p (5000 * j) [] G H') ⟨_, rfl, hs⟩ ?_ ?_⟩
    case refine_2 =>
      rintro σ H' ⟨_, e, h⟩
      exact ⟨_, _, _, e, h.fz, h.tab⟩
    rintro j σ H4 hj ⟨s3', rfl, h4⟩
    exact ⟨_, rfl, p, _, G, rfl, h4, by omega, fun H' h5 => ⟨true, rfl, iteF ⟨_, rfl, h5⟩⟩⟩
end
end Sk
set_option maxHeartbeats 0
namespace Sk
open PySem PySem.Spec PyProof.Rows L2
def dfD (i : Nat) (x : Str) : He.DefD := ⟨(x, none), x, x, defArgs (topS i), defBody (topS i), defScope (topS i), [], []⟩
def hfn : List He.DefD := [dfD 9 "is_name", dfD 10 "is_entry", dfD 11 "check_catalogue", dfD 12 "ordered", dfD 13 "clean", dfD 14 "piece_numbers", dfD 15 "full_splits", dfD 16 "check_stock", dfD 18 "first_splits", dfD 19 "checked_splits", dfD 20 "balanced", dfD 21 "heaviest", dfD 22 "splits_for", dfD 24 "_law_pool", dfD 25 "_law_draw", dfD 26 "_law_mixed", dfD 27 "_law_words", dfD 28 "_law_rows", dfD 29 "_law_sorted", dfD 30 "_law_full", dfD 31 "_law_total", dfD 32 "_law_shelf", dfD 33 "_law_small_shelf", dfD 35 "_law_all_cuts", dfD 36 "_law_top", dfD 37 "_law_last", dfD 38 "_law_right", dfD 39 "law"]
def hfa : List He.Fa := [.glo "is_name", .glo "is_entry", .glo "check_catalogue", .glo "ordered", .glo "clean", .glo "piece_numbers", .glo "full_splits", .glo "check_stock", .glo "first_splits", .glo "checked_splits", .glo "balanced", .glo "heaviest", .glo "splits_for", .glo "_law_pool", .glo "_law_draw", .glo "_law_mixed", .glo "_law_words", .glo "_law_rows", .glo "_law_sorted", .glo "_law_full", .glo "_law_total", .glo "_law_shelf", .glo "_law_small_shelf", .glo "_law_all_cuts", .glo "_law_top", .glo "_law_last", .glo "_law_right", .glo "law", .free "ValueError", .free "abs", .free "all", .free "any", .free "bool", .free "dict", .free "enumerate", .free "int", .free "isinstance", .free "len", .free "list", .free "max", .free "min", .free "range", .free "repr", .free "reversed", .free "set", .free "sorted", .free "str", .free "sum", .free "tuple", .free "type", .free "zip", .str "LETTERS" "abcdefghijklmnopqrstuvwxyz", .int "MOST_LETTERS" 8]
def htf : List He.Defn := [("ordered", none), ("_law_sorted", none)]
abbrev hR : PySem.W.OpenRow := PySem.W.OpenLaw.row PySem.Challenge.rw_splitstock_k24_whole_best_of_all_splits
def hEx (K : PySem.W.Frag) : Bool := !(Nat.beq (He.cT K ("ordered", none)).2 (He.cT K ("_law_sorted", none)).2)
abbrev hHk : PySem.W.Hook := He.hookX 4 hfa hfn [] htf hEx
def hOb (s : PySem.W.SharedT) : He.AlX := He.obsX 4 hfa hfn [] htf hEx (HandSHeadRun.getT s)
theorem hOb_eq (s : PySem.W.SharedT) : hOb s = hHk.obs s.abs := He.obsX_eq (HandSHeadRun.getT_eq s)
def hLoose : List Str := ("StoreError" : Str) :: ("InvalidCatalogue" : Str) :: ("InvalidStock" : Str) :: ("InvalidNumber" : Str) :: ("TooManySteps" : Str) :: ("LETTERS" : Str) :: ("MOST_LETTERS" : Str) :: ("is_name" : Str) :: ("is_entry" : Str) :: ("check_catalogue" : Str) :: ("ordered" : Str) :: ("clean" : Str) :: ("piece_numbers" : Str) :: ("full_splits" : Str) :: ("check_stock" : Str) :: ("first_splits" : Str) :: ("checked_splits" : Str) :: ("balanced" : Str) :: ("heaviest" : Str) :: ("splits_for" : Str) :: ("_law_pool" : Str) :: ("_law_draw" : Str) :: ("_law_mixed" : Str) :: ("_law_words" : Str) :: ("_law_rows" : Str) :: ("_law_sorted" : Str) :: ("_law_full" : Str) :: ("_law_total" : Str) :: ("_law_shelf" : Str) :: ("_law_small_shelf" : Str) :: ("_law_cleaned" : Str) :: ("_law_all_cuts" : Str) :: ("_law_top" : Str) :: ("_law_last" : Str) :: ("_law_right" : Str) :: []
theorem hRun (w : World) : HandSHeadRun.RunEq hR (PySem.W.view hR.prog [39]) hHk hOb 4000 hLoose w := by
  intro os
  kernel_rfl
theorem hFacts {w : World} {K : PySem.W.Frag} {h : Heap} {mg : Str → Option Value} {fa : Addr} (X : K.In h) (G : h.Ns mainGlobals mg) (hfa0 : mg ("law" : Str) = some (.ref fa)) (c : He.SaysX hfa hfn [] htf hEx w h K) : LawG PySem.Challenge.rw_splitstock_k24_whole_best_of_all_splits w K 9 63 "script" mg fa h := by
  have d := c.t.d
  have hne : (He.cT K ("ordered", none)).2 ≠ (He.cT K ("_law_sorted", none)).2 := fun z => by
    have q : hEx K = true := c.more
    unfold hEx at q
    rw [z] at q
    rw [Nat.beq_refl] at q
    cases q
  obtain ⟨fd_is_name, F_is_name⟩ := d.def_ 0 (d := dfD 9 "is_name") rfl
  have g_is_name := He.glo_ok X G (d.fact 0 (f := .glo "is_name") rfl)
  obtain ⟨fd_is_entry, F_is_entry⟩ := d.def_ 1 (d := dfD 10 "is_entry") rfl
  have g_is_entry := He.glo_ok X G (d.fact 1 (f := .glo "is_entry") rfl)
  obtain ⟨fd_check_catalogue, F_check_catalogue⟩ := d.def_ 2 (d := dfD 11 "check_catalogue") rfl
  have g_check_catalogue := He.glo_ok X G (d.fact 2 (f := .glo "check_catalogue") rfl)
  obtain ⟨fd_ordered, F_ordered⟩ := d.def_ 3 (d := dfD 12 "ordered") rfl
  have g_ordered := He.glo_ok X G (d.fact 3 (f := .glo "ordered") rfl)
  obtain ⟨fd_clean, F_clean⟩ := d.def_ 4 (d := dfD 13 "clean") rfl
  have g_clean := He.glo_ok X G (d.fact 4 (f := .glo "clean") rfl)
  obtain ⟨fd_piece_numbers, F_piece_numbers⟩ := d.def_ 5 (d := dfD 14 "piece_numbers") rfl
  have g_piece_numbers := He.glo_ok X G (d.fact 5 (f := .glo "piece_numbers") rfl)
  obtain ⟨fd_full_splits, F_full_splits⟩ := d.def_ 6 (d := dfD 15 "full_splits") rfl
  have g_full_splits := He.glo_ok X G (d.fact 6 (f := .glo "full_splits") rfl)
  obtain ⟨fd_check_stock, F_check_stock⟩ := d.def_ 7 (d := dfD 16 "check_stock") rfl
  have g_check_stock := He.glo_ok X G (d.fact 7 (f := .glo "check_stock") rfl)
  obtain ⟨fd_first_splits, F_first_splits⟩ := d.def_ 8 (d := dfD 18 "first_splits") rfl
  have g_first_splits := He.glo_ok X G (d.fact 8 (f := .glo "first_splits") rfl)
  obtain ⟨fd_checked_splits, F_checked_splits⟩ := d.def_ 9 (d := dfD 19 "checked_splits") rfl
  have g_checked_splits := He.glo_ok X G (d.fact 9 (f := .glo "checked_splits") rfl)
  obtain ⟨fd_balanced, F_balanced⟩ := d.def_ 10 (d := dfD 20 "balanced") rfl
  have g_balanced := He.glo_ok X G (d.fact 10 (f := .glo "balanced") rfl)
  obtain ⟨fd_heaviest, F_heaviest⟩ := d.def_ 11 (d := dfD 21 "heaviest") rfl
  have g_heaviest := He.glo_ok X G (d.fact 11 (f := .glo "heaviest") rfl)
  obtain ⟨fd_splits_for, F_splits_for⟩ := d.def_ 12 (d := dfD 22 "splits_for") rfl
  have g_splits_for := He.glo_ok X G (d.fact 12 (f := .glo "splits_for") rfl)
  obtain ⟨fd_law_pool, F_law_pool⟩ := d.def_ 13 (d := dfD 24 "_law_pool") rfl
  have g_law_pool := He.glo_ok X G (d.fact 13 (f := .glo "_law_pool") rfl)
  obtain ⟨fd_law_draw, F_law_draw⟩ := d.def_ 14 (d := dfD 25 "_law_draw") rfl
  have g_law_draw := He.glo_ok X G (d.fact 14 (f := .glo "_law_draw") rfl)
  obtain ⟨fd_law_mixed, F_law_mixed⟩ := d.def_ 15 (d := dfD 26 "_law_mixed") rfl
  have g_law_mixed := He.glo_ok X G (d.fact 15 (f := .glo "_law_mixed") rfl)
  obtain ⟨fd_law_words, F_law_words⟩ := d.def_ 16 (d := dfD 27 "_law_words") rfl
  have g_law_words := He.glo_ok X G (d.fact 16 (f := .glo "_law_words") rfl)
  obtain ⟨fd_law_rows, F_law_rows⟩ := d.def_ 17 (d := dfD 28 "_law_rows") rfl
  have g_law_rows := He.glo_ok X G (d.fact 17 (f := .glo "_law_rows") rfl)
  obtain ⟨fd_law_sorted, F_law_sorted⟩ := d.def_ 18 (d := dfD 29 "_law_sorted") rfl
  have g_law_sorted := He.glo_ok X G (d.fact 18 (f := .glo "_law_sorted") rfl)
  obtain ⟨fd_law_full, F_law_full⟩ := d.def_ 19 (d := dfD 30 "_law_full") rfl
  have g_law_full := He.glo_ok X G (d.fact 19 (f := .glo "_law_full") rfl)
  obtain ⟨fd_law_total, F_law_total⟩ := d.def_ 20 (d := dfD 31 "_law_total") rfl
  have g_law_total := He.glo_ok X G (d.fact 20 (f := .glo "_law_total") rfl)
  obtain ⟨fd_law_shelf, F_law_shelf⟩ := d.def_ 21 (d := dfD 32 "_law_shelf") rfl
  have g_law_shelf := He.glo_ok X G (d.fact 21 (f := .glo "_law_shelf") rfl)
  obtain ⟨fd_law_small_shelf, F_law_small_shelf⟩ := d.def_ 22 (d := dfD 33 "_law_small_shelf") rfl
  have g_law_small_shelf := He.glo_ok X G (d.fact 22 (f := .glo "_law_small_shelf") rfl)
  obtain ⟨fd_law_all_cuts, F_law_all_cuts⟩ := d.def_ 23 (d := dfD 35 "_law_all_cuts") rfl
  have g_law_all_cuts := He.glo_ok X G (d.fact 23 (f := .glo "_law_all_cuts") rfl)
  obtain ⟨fd_law_top, F_law_top⟩ := d.def_ 24 (d := dfD 36 "_law_top") rfl
  have g_law_top := He.glo_ok X G (d.fact 24 (f := .glo "_law_top") rfl)
  obtain ⟨fd_law_last, F_law_last⟩ := d.def_ 25 (d := dfD 37 "_law_last") rfl
  have g_law_last := He.glo_ok X G (d.fact 25 (f := .glo "_law_last") rfl)
  obtain ⟨fd_law_right, F_law_right⟩ := d.def_ 26 (d := dfD 38 "_law_right") rfl
  have g_law_right := He.glo_ok X G (d.fact 26 (f := .glo "_law_right") rfl)
  obtain ⟨fd_law, F_law⟩ := d.def_ 27 (d := dfD 39 "law") rfl
  have g_law := He.glo_ok X G (d.fact 27 (f := .glo "law") rfl)
  have e := hfa0.symm.trans g_law
  cases e
  have T : Tx K mg := { n_ValueError := He.free_ok X G (d.fact 28 (f := .free "ValueError") rfl), n_abs := He.free_ok X G (d.fact 29 (f := .free "abs") rfl), n_all := He.free_ok X G (d.fact 30 (f := .free "all") rfl), n_any := He.free_ok X G (d.fact 31 (f := .free "any") rfl), n_bool := He.free_ok X G (d.fact 32 (f := .free "bool") rfl), n_dict := He.free_ok X G (d.fact 33 (f := .free "dict") rfl), n_enumerate := He.free_ok X G (d.fact 34 (f := .free "enumerate") rfl), n_int := He.free_ok X G (d.fact 35 (f := .free "int") rfl), n_isinstance := He.free_ok X G (d.fact 36 (f := .free "isinstance") rfl), n_len := He.free_ok X G (d.fact 37 (f := .free "len") rfl), n_list := He.free_ok X G (d.fact 38 (f := .free "list") rfl), n_max := He.free_ok X G (d.fact 39 (f := .free "max") rfl), n_min := He.free_ok X G (d.fact 40 (f := .free "min") rfl), n_range := He.free_ok X G (d.fact 41 (f := .free "range") rfl), n_repr := He.free_ok X G (d.fact 42 (f := .free "repr") rfl), n_reversed := He.free_ok X G (d.fact 43 (f := .free "reversed") rfl), n_set := He.free_ok X G (d.fact 44 (f := .free "set") rfl), n_sorted := He.free_ok X G (d.fact 45 (f := .free "sorted") rfl), n_str := He.free_ok X G (d.fact 46 (f := .free "str") rfl), n_sum := He.free_ok X G (d.fact 47 (f := .free "sum") rfl), n_tuple := He.free_ok X G (d.fact 48 (f := .free "tuple") rfl), n_type := He.free_ok X G (d.fact 49 (f := .free "type") rfl), n_zip := He.free_ok X G (d.fact 50 (f := .free "zip") rfl), c_LETTERS := He.str_ok X G (d.fact 51 (f := .str "LETTERS" "abcdefghijklmnopqrstuvwxyz") rfl), c_MOST_LETTERS := He.int_ok X G (d.fact 52 (f := .int "MOST_LETTERS" 8) rfl) }
  let Tb : List (Addr × Str) := [((He.cT K ("ordered", none)).2, "ordered.<locals>.<lambda>"), ((He.cT K ("_law_sorted", none)).2, "_law_sorted.<locals>.<lambda>")]
  refine ⟨fd_law, htf.map (He.cT K), sp_law Tb K, fun p hp => ?_, fun p hp => ?_, fun p hp => ?_, fun s v => FunD.bindsA (ps := ["script"]) F_law (fun _ _ _ _ _ _ us hl => match us, hl with | [_], _ => rfl) s [v] rfl, fun H a ns hn _ hH _ hS => ⟨a, ns, rfl, hS, hn, tabs_start fun p hp => ?_, fun _ => rfl⟩, fun base KB GB hTB => ?_⟩
  · obtain ⟨q, hq, rfl⟩ := List.mem_map.mp hp
    exact c.empty q hq
  · obtain ⟨q, hq, rfl⟩ := List.mem_map.mp hp
    exact c.out q hq
  · obtain ⟨q, hq, rfl⟩ := List.mem_map.mp hp
    exact PySem.W.codeHd_of_K X (c.hd q hq)
  · rcases List.mem_cons.mp hp with rfl | hp
    · exact hH _ (List.mem_map.mpr ⟨("ordered", none), by simp [htf], rfl⟩)
    rcases List.mem_cons.mp hp with rfl | hp
    · exact hH _ (List.mem_map.mpr ⟨("_law_sorted", none), by simp [htf], rfl⟩)
    cases hp
  · have O_is_name : FnOk (PySem.Challenge.rw_splitstock_k24_whole_best_of_all_splits).prog w K mg base CX0 1 (He.fAd K ("is_name", none)) fd_is_name ["text"] (sp_is_name Tb K) := ok_is_name F_is_name T
    have G_is_name : Fn (PySem.Challenge.rw_splitstock_k24_whole_best_of_all_splits).prog w K mg base "is_name" 1 ["text"] (sp_is_name Tb K) := ⟨_, _, O_is_name, g_is_name, F_is_name.kp, F_is_name.bindsN (fun _ _ _ _ _ _ us hl => match us, hl with | [_], _ => rfl)⟩
    have O_is_entry : FnOk (PySem.Challenge.rw_splitstock_k24_whole_best_of_all_splits).prog w K mg base CX0 2 (He.fAd K ("is_entry", none)) fd_is_entry ["entry", "earlier_names", "weights"] (sp_is_entry Tb K) := ok_is_entry F_is_entry T G_is_name
    have G_is_entry : Fn (PySem.Challenge.rw_splitstock_k24_whole_best_of_all_splits).prog w K mg base "is_entry" 2 ["entry", "earlier_names", "weights"] (sp_is_entry Tb K) := ⟨_, _, O_is_entry, g_is_entry, F_is_entry.kp, F_is_entry.bindsN (fun _ _ _ _ _ _ us hl => match us, hl with | [_, _, _], _ => rfl)⟩
    have O_check_catalogue : FnOk (PySem.Challenge.rw_splitstock_k24_whole_best_of_all_splits).prog w K mg base CX0 3 (He.fAd K ("check_catalogue", none)) fd_check_catalogue ["catalogue"] (sp_check_catalogue Tb K) := ok_check_catalogue F_check_catalogue T G_is_entry
    have G_check_catalogue : Fn (PySem.Challenge.rw_splitstock_k24_whole_best_of_all_splits).prog w K mg base "check_catalogue" 3 ["catalogue"] (sp_check_catalogue Tb K) := ⟨_, _, O_check_catalogue, g_check_catalogue, F_check_catalogue.kp, F_check_catalogue.bindsN (fun _ _ _ _ _ _ us hl => match us, hl with | [_], _ => rfl)⟩
    have O_ordered : FnOk (PySem.Challenge.rw_splitstock_k24_whole_best_of_all_splits).prog w K mg base CX0 4 (He.fAd K ("ordered", none)) fd_ordered ["catalogue"] (sp_ordered Tb K) := ok_ordered F_ordered T (lam_code F_ordered) (hTB _ (List.mem_map.mpr ⟨("ordered", none), by simp [htf], rfl⟩)) (by simp [Tb]) (fun p hp e => by simp only [Tb, List.mem_cons, List.mem_nil_iff, or_false] at hp; rcases hp with rfl | rfl <;> first | rfl | exact absurd e hne | exact absurd e.symm hne)
    have G_ordered : Fn (PySem.Challenge.rw_splitstock_k24_whole_best_of_all_splits).prog w K mg base "ordered" 4 ["catalogue"] (sp_ordered Tb K) := ⟨_, _, O_ordered, g_ordered, F_ordered.kp, F_ordered.bindsN (fun _ _ _ _ _ _ us hl => match us, hl with | [_], _ => rfl)⟩
    have O_clean : FnOk (PySem.Challenge.rw_splitstock_k24_whole_best_of_all_splits).prog w K mg base CX0 1 (He.fAd K ("clean", none)) fd_clean ["entries", "numbers"] (sp_clean Tb K) := ok_clean F_clean T
    have G_clean : Fn (PySem.Challenge.rw_splitstock_k24_whole_best_of_all_splits).prog w K mg base "clean" 1 ["entries", "numbers"] (sp_clean Tb K) := ⟨_, _, O_clean, g_clean, F_clean.kp, F_clean.bindsN (fun _ _ _ _ _ _ us hl => match us, hl with | [_, _], _ => rfl)⟩
    have O_piece_numbers : FnOk (PySem.Challenge.rw_splitstock_k24_whole_best_of_all_splits).prog w K mg base CX0 1 (He.fAd K ("piece_numbers", none)) fd_piece_numbers ["entries", "stock", "splits"] (sp_piece_numbers Tb K) := ok_piece_numbers F_piece_numbers T
    have G_piece_numbers : Fn (PySem.Challenge.rw_splitstock_k24_whole_best_of_all_splits).prog w K mg base "piece_numbers" 1 ["entries", "stock", "splits"] (sp_piece_numbers Tb K) := ⟨_, _, O_piece_numbers, g_piece_numbers, F_piece_numbers.kp, F_piece_numbers.bindsN (fun _ _ _ _ _ _ us hl => match us, hl with | [_, _, _], _ => rfl)⟩
    have O_full_splits : FnOk (PySem.Challenge.rw_splitstock_k24_whole_best_of_all_splits).prog w K mg base CX0 1 (He.fAd K ("full_splits", none)) fd_full_splits ["entries", "stock"] (sp_full_splits Tb K) := ok_full_splits F_full_splits T
    have G_full_splits : Fn (PySem.Challenge.rw_splitstock_k24_whole_best_of_all_splits).prog w K mg base "full_splits" 1 ["entries", "stock"] (sp_full_splits Tb K) := ⟨_, _, O_full_splits, g_full_splits, F_full_splits.kp, F_full_splits.bindsN (fun _ _ _ _ _ _ us hl => match us, hl with | [_, _], _ => rfl)⟩
    have O_check_stock : FnOk (PySem.Challenge.rw_splitstock_k24_whole_best_of_all_splits).prog w K mg base CX0 1 (He.fAd K ("check_stock", none)) fd_check_stock ["catalogue", "stock"] (sp_check_stock Tb K) := ok_check_stock F_check_stock T
    have G_check_stock : Fn (PySem.Challenge.rw_splitstock_k24_whole_best_of_all_splits).prog w K mg base "check_stock" 1 ["catalogue", "stock"] (sp_check_stock Tb K) := ⟨_, _, O_check_stock, g_check_stock, F_check_stock.kp, F_check_stock.bindsN (fun _ _ _ _ _ _ us hl => match us, hl with | [_, _], _ => rfl)⟩
    have O_first_splits : FnOk (PySem.Challenge.rw_splitstock_k24_whole_best_of_all_splits).prog w K mg base CX0 2 (He.fAd K ("first_splits", none)) fd_first_splits ["entries", "stock", "number"] (sp_first_splits Tb K) := ok_first_splits F_first_splits T G_full_splits
    have G_first_splits : Fn (PySem.Challenge.rw_splitstock_k24_whole_best_of_all_splits).prog w K mg base "first_splits" 2 ["entries", "stock", "number"] (sp_first_splits Tb K) := ⟨_, _, O_first_splits, g_first_splits, F_first_splits.kp, F_first_splits.bindsN (fun _ _ _ _ _ _ us hl => match us, hl with | [_, _, _], _ => rfl)⟩
    have O_checked_splits : FnOk (PySem.Challenge.rw_splitstock_k24_whole_best_of_all_splits).prog w K mg base CX0 5 (He.fAd K ("checked_splits", none)) fd_checked_splits ["catalogue", "stock", "number"] (sp_checked_splits Tb K) := ok_checked_splits F_checked_splits T G_check_catalogue G_check_stock G_first_splits G_ordered
    have G_checked_splits : Fn (PySem.Challenge.rw_splitstock_k24_whole_best_of_all_splits).prog w K mg base "checked_splits" 5 ["catalogue", "stock", "number"] (sp_checked_splits Tb K) := ⟨_, _, O_checked_splits, g_checked_splits, F_checked_splits.kp, F_checked_splits.bindsN (fun _ _ _ _ _ _ us hl => match us, hl with | [_, _, _], _ => rfl)⟩
    have O_balanced : FnOk (PySem.Challenge.rw_splitstock_k24_whole_best_of_all_splits).prog w K mg base CX0 6 (He.fAd K ("balanced", none)) fd_balanced ["catalogue", "stock", "number"] (sp_balanced Tb K) := ok_balanced F_balanced T G_checked_splits G_clean
    have G_balanced : Fn (PySem.Challenge.rw_splitstock_k24_whole_best_of_all_splits).prog w K mg base "balanced" 6 ["catalogue", "stock", "number"] (sp_balanced Tb K) := ⟨_, _, O_balanced, g_balanced, F_balanced.kp, F_balanced.bindsN (fun _ _ _ _ _ _ us hl => match us, hl with | [_, _, _], _ => rfl)⟩
    have O_heaviest : FnOk (PySem.Challenge.rw_splitstock_k24_whole_best_of_all_splits).prog w K mg base CX0 6 (He.fAd K ("heaviest", none)) fd_heaviest ["catalogue", "stock", "number"] (sp_heaviest Tb K) := ok_heaviest F_heaviest T G_checked_splits G_piece_numbers
    have G_heaviest : Fn (PySem.Challenge.rw_splitstock_k24_whole_best_of_all_splits).prog w K mg base "heaviest" 6 ["catalogue", "stock", "number"] (sp_heaviest Tb K) := ⟨_, _, O_heaviest, g_heaviest, F_heaviest.kp, F_heaviest.bindsN (fun _ _ _ _ _ _ us hl => match us, hl with | [_, _, _], _ => rfl)⟩
    have O_splits_for : FnOk (PySem.Challenge.rw_splitstock_k24_whole_best_of_all_splits).prog w K mg base CX0 5 (He.fAd K ("splits_for", none)) fd_splits_for ["catalogue", "stock", "limit"] (sp_splits_for Tb K) := ok_splits_for F_splits_for T G_check_catalogue G_check_stock G_full_splits G_ordered G_piece_numbers
    have G_splits_for : Fn (PySem.Challenge.rw_splitstock_k24_whole_best_of_all_splits).prog w K mg base "splits_for" 5 ["catalogue", "stock", "limit"] (sp_splits_for Tb K) := ⟨_, _, O_splits_for, g_splits_for, F_splits_for.kp, F_splits_for.bindsN (fun _ _ _ _ _ _ us hl => match us, hl with | [_, _, _], _ => rfl)⟩
    have O_law_pool : FnOk (PySem.Challenge.rw_splitstock_k24_whole_best_of_all_splits).prog w K mg base CX0 1 (He.fAd K ("_law_pool", none)) fd_law_pool ["script", "at"] (sp_law_pool Tb K) := ok_law_pool F_law_pool T
    have G_law_pool : Fn (PySem.Challenge.rw_splitstock_k24_whole_best_of_all_splits).prog w K mg base "_law_pool" 1 ["script", "at"] (sp_law_pool Tb K) := ⟨_, _, O_law_pool, g_law_pool, F_law_pool.kp, F_law_pool.bindsN (fun _ _ _ _ _ _ us hl => match us, hl with | [_, _], _ => rfl)⟩
    have O_law_draw : FnOk (PySem.Challenge.rw_splitstock_k24_whole_best_of_all_splits).prog w K mg base CX0 1 (He.fAd K ("_law_draw", none)) fd_law_draw ["pool", "many"] (sp_law_draw Tb K) := ok_law_draw F_law_draw T
    have G_law_draw : Fn (PySem.Challenge.rw_splitstock_k24_whole_best_of_all_splits).prog w K mg base "_law_draw" 1 ["pool", "many"] (sp_law_draw Tb K) := ⟨_, _, O_law_draw, g_law_draw, F_law_draw.kp, F_law_draw.bindsN (fun _ _ _ _ _ _ us hl => match us, hl with | [_, _], _ => rfl)⟩
    have O_law_mixed : FnOk (PySem.Challenge.rw_splitstock_k24_whole_best_of_all_splits).prog w K mg base CX0 2 (He.fAd K ("_law_mixed", none)) fd_law_mixed ["pool", "things"] (sp_law_mixed Tb K) := ok_law_mixed F_law_mixed T G_law_draw
    have G_law_mixed : Fn (PySem.Challenge.rw_splitstock_k24_whole_best_of_all_splits).prog w K mg base "_law_mixed" 2 ["pool", "things"] (sp_law_mixed Tb K) := ⟨_, _, O_law_mixed, g_law_mixed, F_law_mixed.kp, F_law_mixed.bindsN (fun _ _ _ _ _ _ us hl => match us, hl with | [_, _], _ => rfl)⟩
    have O_law_words : FnOk (PySem.Challenge.rw_splitstock_k24_whole_best_of_all_splits).prog w K mg base CX0 3 (He.fAd K ("_law_words", none)) fd_law_words ["pool", "many"] (sp_law_words Tb K) := ok_law_words F_law_words T G_law_mixed
    have G_law_words : Fn (PySem.Challenge.rw_splitstock_k24_whole_best_of_all_splits).prog w K mg base "_law_words" 3 ["pool", "many"] (sp_law_words Tb K) := ⟨_, _, O_law_words, g_law_words, F_law_words.kp, F_law_words.bindsN (fun _ _ _ _ _ _ us hl => match us, hl with | [_, _], _ => rfl)⟩
    have O_law_rows : FnOk (PySem.Challenge.rw_splitstock_k24_whole_best_of_all_splits).prog w K mg base CX0 4 (He.fAd K ("_law_rows", none)) fd_law_rows ["pool", "most"] (sp_law_rows Tb K) := ok_law_rows F_law_rows T G_law_draw G_law_mixed G_law_words
    have G_law_rows : Fn (PySem.Challenge.rw_splitstock_k24_whole_best_of_all_splits).prog w K mg base "_law_rows" 4 ["pool", "most"] (sp_law_rows Tb K) := ⟨_, _, O_law_rows, g_law_rows, F_law_rows.kp, F_law_rows.bindsN (fun _ _ _ _ _ _ us hl => match us, hl with | [_, _], _ => rfl)⟩
    have O_law_sorted : FnOk (PySem.Challenge.rw_splitstock_k24_whole_best_of_all_splits).prog w K mg base CX0 4 (He.fAd K ("_law_sorted", none)) fd_law_sorted ["rows"] (sp_law_sorted Tb K) := ok_law_sorted F_law_sorted T (lam_code F_law_sorted) (hTB _ (List.mem_map.mpr ⟨("_law_sorted", none), by simp [htf], rfl⟩)) (by simp [Tb]) (fun p hp e => by simp only [Tb, List.mem_cons, List.mem_nil_iff, or_false] at hp; rcases hp with rfl | rfl <;> first | rfl | exact absurd e hne | exact absurd e.symm hne)
    have G_law_sorted : Fn (PySem.Challenge.rw_splitstock_k24_whole_best_of_all_splits).prog w K mg base "_law_sorted" 4 ["rows"] (sp_law_sorted Tb K) := ⟨_, _, O_law_sorted, g_law_sorted, F_law_sorted.kp, F_law_sorted.bindsN (fun _ _ _ _ _ _ us hl => match us, hl with | [_], _ => rfl)⟩
    have O_law_full : FnOk (PySem.Challenge.rw_splitstock_k24_whole_best_of_all_splits).prog w K mg base CX0 5 (He.fAd K ("_law_full", none)) fd_law_full ["rows", "shelf"] (sp_law_full Tb K) := ok_law_full F_law_full T G_law_sorted
    have G_law_full : Fn (PySem.Challenge.rw_splitstock_k24_whole_best_of_all_splits).prog w K mg base "_law_full" 5 ["rows", "shelf"] (sp_law_full Tb K) := ⟨_, _, O_law_full, g_law_full, F_law_full.kp, F_law_full.bindsN (fun _ _ _ _ _ _ us hl => match us, hl with | [_, _], _ => rfl)⟩
    have O_law_total : FnOk (PySem.Challenge.rw_splitstock_k24_whole_best_of_all_splits).prog w K mg base CX0 6 (He.fAd K ("_law_total", none)) fd_law_total ["rows", "shelf"] (sp_law_total Tb K) := ok_law_total F_law_total T G_law_full
    have G_law_total : Fn (PySem.Challenge.rw_splitstock_k24_whole_best_of_all_splits).prog w K mg base "_law_total" 6 ["rows", "shelf"] (sp_law_total Tb K) := ⟨_, _, O_law_total, g_law_total, F_law_total.kp, F_law_total.bindsN (fun _ _ _ _ _ _ us hl => match us, hl with | [_, _], _ => rfl)⟩
    have O_law_shelf : FnOk (PySem.Challenge.rw_splitstock_k24_whole_best_of_all_splits).prog w K mg base CX0 3 (He.fAd K ("_law_shelf", none)) fd_law_shelf ["pool", "rows", "wide"] (sp_law_shelf Tb K) := ok_law_shelf F_law_shelf T G_law_draw G_law_mixed
    have G_law_shelf : Fn (PySem.Challenge.rw_splitstock_k24_whole_best_of_all_splits).prog w K mg base "_law_shelf" 3 ["pool", "rows", "wide"] (sp_law_shelf Tb K) := ⟨_, _, O_law_shelf, g_law_shelf, F_law_shelf.kp, F_law_shelf.bindsN (fun _ _ _ _ _ _ us hl => match us, hl with | [_, _, _], _ => rfl)⟩
    have O_law_small_shelf : FnOk (PySem.Challenge.rw_splitstock_k24_whole_best_of_all_splits).prog w K mg base CX0 7 (He.fAd K ("_law_small_shelf", none)) fd_law_small_shelf ["pool", "rows", "most"] (sp_law_small_shelf Tb K) := ok_law_small_shelf F_law_small_shelf T G_law_shelf G_law_total
    have G_law_small_shelf : Fn (PySem.Challenge.rw_splitstock_k24_whole_best_of_all_splits).prog w K mg base "_law_small_shelf" 7 ["pool", "rows", "most"] (sp_law_small_shelf Tb K) := ⟨_, _, O_law_small_shelf, g_law_small_shelf, F_law_small_shelf.kp, F_law_small_shelf.bindsN (fun _ _ _ _ _ _ us hl => match us, hl with | [_, _, _], _ => rfl)⟩
    have O_law_all_cuts : FnOk (PySem.Challenge.rw_splitstock_k24_whole_best_of_all_splits).prog w K mg base CX0 6 (He.fAd K ("_law_all_cuts", none)) fd_law_all_cuts ["rows", "shelf"] (sp_law_all_cuts Tb K) := ok_law_all_cuts F_law_all_cuts T G_law_full G_law_sorted
    have G_law_all_cuts : Fn (PySem.Challenge.rw_splitstock_k24_whole_best_of_all_splits).prog w K mg base "_law_all_cuts" 6 ["rows", "shelf"] (sp_law_all_cuts Tb K) := ⟨_, _, O_law_all_cuts, g_law_all_cuts, F_law_all_cuts.kp, F_law_all_cuts.bindsN (fun _ _ _ _ _ _ us hl => match us, hl with | [_, _], _ => rfl)⟩
    have O_law_top : FnOk (PySem.Challenge.rw_splitstock_k24_whole_best_of_all_splits).prog w K mg base CX0 5 (He.fAd K ("_law_top", none)) fd_law_top ["rows", "cuts", "have"] (sp_law_top Tb K) := ok_law_top F_law_top T G_law_sorted
    have G_law_top : Fn (PySem.Challenge.rw_splitstock_k24_whole_best_of_all_splits).prog w K mg base "_law_top" 5 ["rows", "cuts", "have"] (sp_law_top Tb K) := ⟨_, _, O_law_top, g_law_top, F_law_top.kp, F_law_top.bindsN (fun _ _ _ _ _ _ us hl => match us, hl with | [_, _, _], _ => rfl)⟩
    have O_law_last : FnOk (PySem.Challenge.rw_splitstock_k24_whole_best_of_all_splits).prog w K mg base CX0 1 (He.fAd K ("_law_last", none)) fd_law_last ["cuts"] (sp_law_last Tb K) := ok_law_last F_law_last T
    have G_law_last : Fn (PySem.Challenge.rw_splitstock_k24_whole_best_of_all_splits).prog w K mg base "_law_last" 1 ["cuts"] (sp_law_last Tb K) := ⟨_, _, O_law_last, g_law_last, F_law_last.kp, F_law_last.bindsN (fun _ _ _ _ _ _ us hl => match us, hl with | [_], _ => rfl)⟩
    have O_law_right : FnG (PySem.Challenge.rw_splitstock_k24_whole_best_of_all_splits).prog w K mg base 8 (He.fAd K ("_law_right", none)) fd_law_right ["pool"] (sp_law_right Tb K) := ok_law_right F_law_right T G_law_all_cuts G_law_last G_law_rows G_law_small_shelf G_law_sorted G_law_top G_law_total G_balanced G_heaviest G_splits_for
    have GG_law_right : FnGx (PySem.Challenge.rw_splitstock_k24_whole_best_of_all_splits).prog w K mg base "_law_right" 8 ["pool"] (sp_law_right Tb K) := ⟨_, _, O_law_right, (fun vs H Q E h => by obtain ⟨_, _, _, rfl, _⟩ := h; rfl), g_law_right, F_law_right.kp, F_law_right.bindsN (fun _ _ _ _ _ _ us hl => match us, hl with | [_], _ => rfl)⟩
    exact ok_law F_law T G_law_pool GG_law_right
end Sk
open PySem PySem.W PySem.Calls PyProof.Rows
theorem PySem.Challenge.cw_splitstock_k24_whole_best_of_all_splits_holds : PySem.Challenge.rw_splitstock_k24_whole_best_of_all_splits.Holds := by
  w_on; o_law
  refine HandSHeadRun.head_any (r := OpenLaw.row PySem.Challenge.rw_splitstock_k24_whole_best_of_all_splits) (q := view (OpenLaw.row PySem.Challenge.rw_splitstock_k24_whole_best_of_all_splits).prog [39]) (H := Sk.hHk) (ob := Sk.hOb) (M := 4000) (loose := Sk.hLoose) (d := HandSHeadRun.topDef (OpenLaw.row PySem.Challenge.rw_splitstock_k24_whole_best_of_all_splits).prog 39) (kwd := []) Sk.hOb_eq
    (by kernel_rfl) (fun s => by kernel_rfl) Sk.hRun (by kernel_rfl) (by kernel_rfl) (by kernel_rfl) (by rfl) (by first | assumption | decide +kernel) (by decide +kernel) ⟨rfl, rfl, rfl, rfl, rfl, by decide +kernel⟩ ?hw ?hc
  case hw => w_witness2
  case hc =>
    refine Sk.walk_ofG (l := PySem.Challenge.rw_splitstock_k24_whole_best_of_all_splits) (n := 63) (k := 9) (x := "script") rfl (by decide) (by kernel_rfl) ⟨rfl, by decide, by decide⟩ ?_
    intro w mg fa h Y G hmg0
    obtain ⟨K, KX, c⟩ := Y
    have hmg : mg ("law" : PySem.Str) = some (.ref fa) := by
      have e : (HandSHeadRun.topDef (OpenLaw.row PySem.Challenge.rw_splitstock_k24_whole_best_of_all_splits).prog 39).name = ("law" : PySem.Str) := by kernel_rfl
      rw [← e]
      exact hmg0
    exact ⟨K, KX, Sk.hFacts KX G hmg c⟩
