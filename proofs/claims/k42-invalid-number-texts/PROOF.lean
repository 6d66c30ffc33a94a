import PyProof.Rows.All
import Wide.All
import OpenK.AllK
import Wide.FinOn
import KE.KStateDown
import HandS.ForMost
import HandS.Defaults
import HandS.Exc
import HandS.Codes
import HandS.TryOnly
import HandS.Lambda
import HandS.EndTab
import HandS.Head0
import HandS.Head1
import HandS.Head2
import HandS.HeadEnd
import HandS.HeadHook1
import HandS.HeadHook2
import HandS.HeadHook3
import HandS.HeadHook4
import HandS.HeadWalk
import HandS.Sort
import HandS.SortOrd
import HandS.SortRule
import HandS.SortInts
import HandS.SortKw
import HandS.Wide
import HandS.SetKeys
import HandS.DictComp
import HandS.IsInst
import HandS.Deep
import HandS.Style
import HandS.Finally
import HandS.ListItems
import HandS.CallLocal
import HandS.SetFor
import HandS.RaiseMore
import HandS.Zip
import HandS.Conv
import HandS.Strs
import KE.KSortTupAny
import KE.KSortKey
import KE.KEqDict
import HandS.MakeKw
import HandS.ExcOwn
import HandS.ExcInit
import HandS.ExcField
import HandS.ExcIs
import HandS.ExcValue
import HandS.CallSlots
import HandS.ClsMeth
import HandS.ExcCtx
import HandS.Hot
import HandS.HotCalls
import HandS.RaiseFrom
import HandS.ExcInitHot
import PySem.Challenge.RW_splitstock_k42_invalid_number_texts
import HandS.Walk
import PyProof.NeKinds
import HandS.Iter
import PyProof.SumAny
import KE.KDictSum
import HandS.MapSum
import PyProof.ReprRoads
import PyProof.StrLawsRepr
import PyProof.FitsInt
import PyProof.EqAt
import PyProof.SeqRoads2
import PyProof.Rows.SetFrom
import PyProof.Rows.SortShellSt
import HandS.Set
import KE.KUnpackStar
import HandS.Text
import PyProof.InstNe
import PyProof.FactsAll.object_2
import HandS.OwnEq
import HandS.Dict
set_option Elab.async false
set_option linter.all false
set_option maxRecDepth 100000
set_option maxHeartbeats 4000000
/-! sorting tuples that begin (int, text) -/
namespace Sk
open PySem PySem.Spec PyProof.Rows L2
/-- an int, then a text -/
def kLt (p q : Int × Str) : Bool := if p.1 = q.1 then decide (p.2.cps.toList < q.2.cps.toList) else decide (p.1 < q.1)
theorem kLt_iff {p q : Int × Str} : kLt p q = true ↔ p.1 < q.1 ∨ (p.1 = q.1 ∧ p.2.cps.toList < q.2.cps.toList) := by
  unfold kLt
  by_cases e : p.1 = q.1
  · rw [if_pos e, decide_eq_true_eq]
    constructor
    · exact fun h => .inr ⟨e, h⟩
    · rintro (h | h)
      · omega
      · exact h.2
  · rw [if_neg e, decide_eq_true_eq]
    constructor
    · exact fun h => .inl h
    · rintro (h | h)
      · exact h
      · exact absurd h.1 e
theorem kLt_no {p q : Int × Str} : kLt p q = false ↔ q.1 < p.1 ∨ (p.1 = q.1 ∧ ¬ p.2.cps.toList < q.2.cps.toList) := by
  unfold kLt
  by_cases e : p.1 = q.1
  · rw [if_pos e, decide_eq_false_iff_not]
    constructor
    · exact fun h => .inr ⟨e, h⟩
    · rintro (h | h)
      · omega
      · exact h.2
  · rw [if_neg e, decide_eq_false_iff_not]
    constructor
    · exact fun h => .inl (by omega)
    · rintro (h | h)
      · omega
      · exact absurd h.1 e
theorem str_ext {x y : Str} (h : x.cps.toList = y.cps.toList) : x = y := by
  have hc : x.cps = y.cps := Array.toList_inj.mp h
  cases x; cases y
  simp only [Str.mk.injEq]
  exact hc
theorem kLt_total {p q : Int × Str} (h1 : kLt p q = false) (h2 : kLt q p = false) : p = q := by
  rcases kLt_no.mp h1 with a | ⟨a, b⟩
  · rcases kLt_no.mp h2 with c | ⟨c, d⟩ <;> omega
  · rcases kLt_no.mp h2 with c | ⟨c, d⟩
    · omega
    · have e : p.2.cps.toList = q.2.cps.toList := strKind.total _ _ (decide_eq_false b) (decide_eq_false d)
      obtain ⟨i, x⟩ := p
      obtain ⟨j, y⟩ := q
      have e2 := str_ext e
      simp only at a e2
      rw [a, e2]
theorem kLt_swo {α : Type} (k : α → Int × Str) : SrtO.Swo fun x y => kLt (k x) (k y) := by
  refine ⟨fun x y h => ?_, fun x y z h1 h2 => ?_⟩
  · refine kLt_no.mpr ?_
    rcases kLt_iff.mp h with a | ⟨a, b⟩
    · exact .inl a
    · exact .inr ⟨a.symm, fun c => List.lt_irrefl _ (List.lt_trans b c)⟩
  · refine kLt_no.mpr ?_
    rcases kLt_no.mp h1 with a | ⟨a, b⟩
    · rcases kLt_no.mp h2 with c | ⟨c, d⟩
      · exact .inl (by omega)
      · exact .inl (by omega)
    · rcases kLt_no.mp h2 with c | ⟨c, d⟩
      · exact .inl (by omega)
      · refine .inr ⟨by omega, fun e => ?_⟩
        rcases strKind.negTrans _ (k y).2.cps.toList _ (decide_eq_true e) with q | q
        · exact d (of_decide_eq_true q)
        · exact b (of_decide_eq_true q)
/-- a tuple of the heap that begins with an int and a text -/
def IsT2 (h : Heap) (v : Value) (k : Int × Str) (rest : List Value) : Prop := ∃ a o t u n, v = .ref a ∧ h.get? a = some o ∧ o.cls = .type "tuple" ∧ o.data = .seq (Value.int k.1 t :: .str k.2 u :: rest).toArray n
theorem IsT2.keeps {h h' : Heap} {v : Value} {k : Int × Str} {rest : List Value} (p : IsT2 h v k rest) (kp : ∀ b o, h.get? b = some o → o.cls = .type "tuple" → h'.get? b = some o) : IsT2 h' v k rest := by
  obtain ⟨a, o, t, u, n, e, ho, hc, hd⟩ := p
  exact ⟨a, o, t, u, n, e, kp a o ho hc, hc, hd⟩
section
variable {prog : Program} {w : World} {A : Around} {E : Value → Shared → Prop} {s : Shared}
theorem eqBool_same {v : Value} {Q : Bool → Shared → Prop} (hv : (v == v) = true) (h : Q true s) : wpAny (model prog w) A (eqBool v v) Q E s := by
  unfold eqBool
  refine wpAny_holding ?_
  rw [hv]
  simp only [if_true]
  exact wpAny_bind (wpAny_rule (wpAny_pure h))
theorem kat_same {b : Bool} {Q : Bool → Shared → Prop} : ∀ (l : List Value) (i : Nat), (∀ v ∈ l, (v == v) = true) → Q false s → PySem.W.KatLex prog w A b false Q (l.zip l) i s
  | [], _, _, h => PySem.W.kat_nil h
  | v :: l, i, hv, h => by
    show PySem.W.KatLex prog w A b false Q ((v, v) :: l.zip l) i s
    refine PySem.W.kat_cons (eqBool_same (hv v (List.mem_cons_self ..)) (PySem.W.kat_yes ?_))
    exact kat_same l (i + 1) (fun u hu => hv u (List.mem_cons_of_mem _ hu)) h
/-- what any two of them answer -/
theorem t2_cmp {vs : List Value} {k : Value → Int × Str} {rest : Value → List Value} (hp : ∀ v ∈ vs, IsT2 s.heap v (k v) (rest v)) (hr : ∀ v ∈ vs, ∀ u ∈ rest v, (u == u) = true)
    (hi : ∀ v ∈ vs, ∀ u ∈ vs, k v = k u → rest v = rest u) : SrtO.Cmp prog w A s (tuples' true) (fun p => p.1 ∈ vs) (SrtO.lt2 fun v u => kLt (k v) (k u)) := by
  intro p q hm hm'
  obtain ⟨a, o, t, u, n, e, ho, hc, hd⟩ := hp _ hm
  obtain ⟨a', o', t', u', n', e', ho', hc', hd'⟩ := hp _ hm'
  have hi' := hi _ hm _ hm'
  have hr' := hr _ hm
  show wpAny (model prog w) A (keyLt' (tuples' true) p.1 q.1) (fun r s' => s' = s ∧ r = kLt (k p.1) (k q.1)) (fun _ _ => False) s
  generalize k p.1 = kp at hi' ⊢ hd
  generalize k q.1 = kq at hi' ⊢ hd'
  generalize rest p.1 = rp at hi' hr' hd
  generalize rest q.1 = rq at hi' hd'
  rw [e, e']
  refine PySem.W.kat_lt ho hd ho' hd' ?_
  obtain ⟨x, y⟩ := kp
  obtain ⟨x', y'⟩ := kq
  have key : ∀ fin : Bool, (x = x' → y = y' → fin = false) → PySem.W.KatLex prog w A true fin (fun r s' => s' = s ∧ r = kLt (x, y) (x', y')) ((.int x t, .int x' t') :: (.str y u, .str y' u') :: rp.zip rq) 0 s := by
    intro fin hf
    unfold kLt
    refine PySem.W.kat_cons (SeqAt.EqAt.int_int x t x' t' prog w _ _ ?_)
    refine PySem.W.kat_go (fun e1 => ?_) (fun e1 => ?_)
    · have ex : x = x' := by simpa using e1
      refine PySem.W.kat_yes (PySem.W.kat_cons (wpAny_eqBool_str ?_))
      refine PySem.W.kat_go (fun e2 => ?_) (fun e2 => ?_)
      · have ey : y = y' := of_decide_eq_true e2
        have e3 : (if x = x' then decide (y.cps.toList < y'.cps.toList) else decide (x < x')) = false := by
          rw [if_pos ex, ey]
          exact decide_eq_false (List.lt_irrefl _)
        have e4 := hi' (by rw [ex, ey])
        rw [← e4, hf ex ey]
        exact PySem.W.kat_yes (kat_same rp _ hr' ⟨rfl, e3.symm⟩)
      · have e3 : (if x = x' then decide (y.cps.toList < y'.cps.toList) else decide (x < x')) = decide (y.cps.toList < y'.cps.toList) := if_pos ex
        exact PySem.W.kat_no (oneLt_any_str ⟨rfl, e3.symm⟩)
    · have ex : ¬ x = x' := by simpa using e1
      have e3 : (if x = x' then decide (y.cps.toList < y'.cps.toList) else decide (x < x')) = decide (x < x') := if_neg ex
      exact PySem.W.kat_no (oneLt_int ⟨rfl, e3.symm⟩)
  have := key (decide ((Value.int x t :: .str y u :: rp).toArray.size < (Value.int x' t' :: .str y' u' :: rq).toArray.size)) (fun ex ey => by
    have e4 := hi' (by rw [ex, ey])
    rw [e4]
    simp)
  simpa using this
theorem t2_firsts {h : Heap} {k : Value → Int × Str} {rest : Value → List Value} : ∀ {vs : List Value}, (∀ v ∈ vs, IsT2 h v (k v) (rest v)) → ∃ fs, PySem.W.KatTups h vs fs ∧ fs.length = vs.length ∧ ∀ f ∈ fs, ∃ i t, f = Value.int i t
  | [], _ => ⟨[], .nil, rfl, fun _ h => nomatch h⟩
  | v :: vs, hp => by
    obtain ⟨fs, h1, h2, h3⟩ := t2_firsts (vs := vs) fun u hu => hp u (List.mem_cons_of_mem _ hu)
    obtain ⟨a, o, t, u, n, e, ho, hc, hd⟩ := hp v (List.mem_cons_self ..)
    subst e
    refine ⟨.int (k (.ref a)).1 t :: fs, .cons ho hc hd rfl h1, by rw [List.length_cons, List.length_cons, h2], fun f hf => ?_⟩
    rcases List.mem_cons.mp hf with rfl | hf
    · exact ⟨_, _, rfl⟩
    · exact h3 f hf
theorem t2_sortableO {a : Addr} {vs : List Value} {k : Value → Int × Str} {rest : Value → List Value} (h0 : 0 < vs.length) (hp : ∀ v ∈ vs, IsT2 s.heap v (k v) (rest v)) (hr : ∀ v ∈ vs, ∀ u ∈ rest v, (u == u) = true)
    (hi : ∀ v ∈ vs, ∀ u ∈ vs, k v = k u → rest v = rest u) (ha : ∀ o, s.heap.get? a = some o → o.cls ≠ .type "tuple") : SrtO.SortableO prog w A s a vs fun v u => kLt (k v) (k u) := by
  intro h' keep
  have hp' : ∀ v ∈ vs, IsT2 h' v (k v) (rest v) := fun v hm => (hp v hm).keeps fun b o e c => keep b o (fun z => by subst z; exact ha o e c) e
  obtain ⟨fs, h1, h2, h3⟩ := t2_firsts hp'
  refine ⟨tuples' true, fun Q E hq => ?_, t2_cmp hp' hr hi⟩
  refine PySem.W.kat_kind (T := .type "int") h1 (by omega) (fun f hm => ?_) (by rfl) ?_
  · obtain ⟨x, t, rfl⟩ := h3 f hm
    exact PySem.W.Looks.now
  · have e : (Value.type "int" != Value.type "tuple") = true := by first | decide +kernel | rfl | decide
    rw [e]
    exact hq
end

/-- sorted(xs), xs a list of tuples that begin with an int and a text (k says which); where two keys agree, the tuples are one or have no more items -/
def rSortedT (K : PySem.W.Frag) : List V → Hp → VK → Prop := fun vs H Q => ∃ (a : Addr) (xs : List V) (k : V → Int × Str) (rest : V → List V), vs = [V.ref a] ∧ SqL K H a xs ∧
  (∀ x ∈ xs, ∃ t, x = V.ref t ∧ H t = some (.tup (.int (k x).1 :: .str (k x).2 :: rest x))) ∧ (∀ x ∈ xs, ∀ r ∈ rest x, ∃ b, r = V.ref b) ∧ (∀ x ∈ xs, ∀ y ∈ xs, k x = k y → x = y ∨ (rest x = [] ∧ rest y = [])) ∧
  ∀ ys p, SrtO.Srtd (fun x y => kLt (k x) (k y)) ys → SrtO.Stb (fun x y => kLt (k x) (k y)) ys xs → H p = none → Q (.ref p) (upd H p (.lst ys))
def valOf : V → Value
  | .ref a => .ref a
  | _ => .none
section
variable {X : Cx}
theorem vals_refs : ∀ {rs : List V} {us : List Value}, Vals rs us → (∀ r ∈ rs, ∃ b, r = V.ref b) → us = rs.map valOf
  | _, _, .nil, _ => rfl
  | r :: rs, u :: us, .cons h t, hb => by
    obtain ⟨b, rfl⟩ := hb r (List.mem_cons_self ..)
    rw [vals_refs t fun x hx => hb x (List.mem_cons_of_mem _ hx)]
    obtain rfl : u = Value.ref b := h
    rfl
theorem cr_sortedT : CallR X (.builtin "sorted") (rSortedT X.K) := by
  intro pins s σ H vs us Q I r h
  obtain ⟨a, xs, k, rest, rfl, hs, hx, hrf, hi, q⟩ := h
  obtain ⟨its, rv, hl, hz⟩ := I.list hs
  obtain ⟨u, rfl, ru⟩ := vals1 r
  obtain rfl : u = Value.ref a := ru
  obtain ⟨e1, e2⟩ := refs_back rv fun x m => by
    obtain ⟨t, e, _⟩ := hx x m
    exact ⟨t, e⟩
  have hm : ∀ t, Value.ref t ∈ its → V.ref t ∈ xs := fun t hv => by rw [e1]; exact List.mem_map.mpr ⟨_, hv, rfl⟩
  have hp : ∀ v ∈ its, IsT2 s.heap v (k (backV v)) ((rest (backV v)).map valOf) := fun v hv => by
    obtain ⟨t, rfl⟩ := e2 v hv
    obtain ⟨t', e, ht⟩ := hx _ (hm t hv)
    cases e
    obtain ⟨_, its2, r2, o, ho, hc, n, hd⟩ := I.hok _ _ ht
    cases r2 with
    | cons ri r2 =>
      cases r2 with
      | cons rj r2 =>
        obtain ⟨t1, rfl⟩ := ri
        obtain ⟨t2, rfl⟩ := rj
        rw [vals_refs r2 (hrf _ (hm t hv))] at hd
        exact ⟨t, o, t1, t2, n, rfl, ho, hc, hd⟩
  have hr : ∀ v ∈ its, ∀ u ∈ (rest (backV v)).map valOf, (u == u) = true := fun v hv u hu => by
    obtain ⟨x, hx', rfl⟩ := List.mem_map.mp hu
    obtain ⟨t, rfl⟩ := e2 v hv
    obtain ⟨b, rfl⟩ := hrf _ (hm t hv) _ hx'
    show (Value.ref b == Value.ref b) = true
    simp [valOf]
  have hi' : ∀ v ∈ its, ∀ u ∈ its, k (backV v) = k (backV u) → (rest (backV v)).map valOf = (rest (backV u)).map valOf := fun v hv u hu e => by
    obtain ⟨t, rfl⟩ := e2 v hv
    obtain ⟨t', rfl⟩ := e2 u hu
    rcases hi _ (hm t hv) _ (hm t' hu) e with z | ⟨z1, z2⟩
    · show (rest (V.ref t)).map valOf = (rest (V.ref t')).map valOf
      rw [z]
    · show (rest (V.ref t)).map valOf = (rest (V.ref t')).map valOf
      rw [z1, z2]
  refine SrtO.sorted_ord (ltv := fun v u => kLt (k (backV v)) (k (backV u))) (kLt_swo fun v => k (backV v)) hl.isList (by rw [← rv.length]; exact hz) (fun h2 h₁ a' ha kk => ?_) fun out h1 h2 => ?_
  · refine t2_sortableO (s := { s with heap := h₁ }) (rest := fun v => (rest (backV v)).map valOf) (by omega) (fun v hm => (hp v hm).keeps fun b o e _ => (kk b o e).2) hr hi' fun o e => ?_
    have e' : some o = some (seqObj "list" its.toArray 0) := e.symm.trans ha
    cases e'
    intro c
    exact absurd (Value.type.inj c) (by decide)
  · have h3 : ∀ u ∈ out, ∃ a, u = Value.ref a := fun u hu => e2 u (h2.perm.mem_iff.mp hu)
    obtain ⟨n, hn⟩ := sortedAll_at s.heap its out.toArray
    have hd : s.heap.objs.size ≤ s.heap.objs.size + 1 := Nat.le_succ _
    have hb : SrtO.Stb (fun x y => kLt (k x) (k y)) (out.map backV) xs := by
      rw [e1]
      exact SrtO.Stb.map (kLt_swo k) backV h2
    refine ⟨.ref (s.heap.objs.size + 1), upd H (s.heap.objs.size + 1) (.lst (out.map backV)), I.laid (t' := s.toks) (fun b o e => sortedAll_old e) hd ⟨?_, out, n, vals_back h3, hn⟩, rfl, q _ _ (SrtO.srtd_map h1) hb (I.hok.fresh hd)⟩
    rw [hb.len]
    exact hz
end
end Sk
/-! sorted(xs, key=lambda x: ..) -/
namespace Sk
open PySem PySem.Spec PyProof.Rows L2
section
variable {P : Program} {w : World} {K : PySem.W.Frag} {mg : Str → Option Value} {base : Heap}
/-- a lambda of parameters and no captured names, called -/
theorem lam_run {N ps : List Str} {k : Nat} {q : Str} {params : Arguments} {body : Expr} {scope : Scope} {pm ctv : Value} {f c' : Addr} {A : Around} {outer : List Env} {s : Shared} {H : Hp} {us : List Value} {vs : List V} {Q : VK} {E : XK} {te : TE}
    (of1 : s.heap.get? f = some (PySem.W.kla_obj "<lambda>" q params body scope [] pm c' ctv)) (S : FnScope N ps scope)
    (hb : bindArgs (PySem.W.kla_fn "<lambda>" q params body scope [] pm (.ref c') ctv) ⟨us, []⟩ = pure (ps.zip us)) (hr : Room (k + 1) A) (e0 : Env0 P w K mg base A outer s H) (hc : H c' = some (LamX.CodeO c' q))
    (r : Vals vs us) (hl : vs.length = ps.length)
    (hbody : PE (cxOf CX0 P w K mg base N q scope f (.ref c') A outer s H E) body te) (ht : te (start N vs) H Q) :
    codeAny (model P w) A (.call (.ref f) ⟨us, []⟩) (CR CX0 outer P w H s Q E) s := by
  have lim : s.heap.NoLimit := e0.mod.nolimit.keeps fun b o e => (e0.bs b o e).1
  obtain ⟨⟨oc, vs', t, hoc, hdc, hvc⟩, _, _⟩ := e0.hok c' _ hc
  have hkind : ∀ y ∈ ps.zip us, scope.names.lookup y.1 = some .local ∨ (scope.names.lookup y.1 = some .cell ∧ ((cellsFrom (s.heap.objs.size + 1) scope.names []).lookup y.1).isSome = true) := fun ⟨n, v⟩ hy => by
    rcases S.par n (List.of_mem_zip hy).1 with q | q
    · exact .inl q
    · exact .inr ⟨q, PySem.W.cellsFrom_some _ _ _ (.inl q)⟩
  refine PySem.W.kla_callFunE hr.depth of1 rfl S.co S.gen rfl ⟨c', oc, vs', t, rfl, hoc, hdc, hvc⟩ ?_
  rw [hb]
  refine wpAny_pure (wpAny_newFunctionEnv_cells S.kind hkind fun env he s1 x => ?_)
  subst he
  refine ⟨lim.keeps x.toInCall.keep, PySem.W.kla_codeExpr ?_⟩
  have I : Inv (cxOf CX0 P w K mg base N q scope f (.ref c') A outer s H E) [] (start N vs) H s1 := inv_start S hr.hd e0 hl r x
  refine wpAny_mono (hbody.run [] s1 (start N vs) H Q I ht) (fun v s' hq => ?_) fun e s' hs => hs
  obtain ⟨w', H', J', rv, q⟩ := hq
  exact ⟨w', H', J'.os, J'.bare, J'.base, J'.hok, rv, q⟩
end
/-- objects that no one tracks are changed: the abstract heap is held -/
theorem hok_but {P : Program} {w : World} {H : Hp} {h h' : Heap} (ok : HOk P w H h) (k : ∀ b u, H b ≠ none → h.get? b = some u → h'.get? b = some u) : HOk P w H h' := fun b u e => by
  refine (ok b u e).stay (fun c v hc q => k c v ?_ q) (fun _ q => q) fun _ _ q => q
  rcases hc with z | z
  · rw [z, e]
    simp
  · rw [z]
    simp
/-- a new list, filled meanwhile, is tracked in the end -/
theorem hok_late {P : Program} {w : World} {H : Hp} {h : Heap} {a : Addr} {o : HO} (ok : HOk P w H h) (hn : H a = none) (new : ObjOk P w (upd H a o) h a o) : HOk P w (upd H a o) h := fun b u e => by
  by_cases hb : b = a
  · subst hb; rw [upd_same] at e; cases e; exact new
  · rw [upd_ne hb] at e
    exact (ok b u e).stay (fun c v _ q => q) (fun c q => by rw [upd_ne (ne_of_none q hn)]; exact q) fun c xs q => by rw [upd_ne (ne_of_none q hn)]; exact q
theorem un_but {fs : List Addr} {H H' : Hp} {h h' h2 : Heap} (u : Un fs [] H H' h h') (k : ∀ b o, b < h.objs.size → h'.get? b = some o → h2.get? b = some o) : Un fs [] H H' h h2 where
  keep := fun b o e n hb hx => k b o (Heap.lt_size e) (u.keep b o e n hb hx)
  slot := fun b o e n hb hx => by
    obtain ⟨sl, q⟩ := u.slot b o e n hb hx
    exact ⟨sl, k b _ (Heap.lt_size e) q⟩
  free := u.free
  there := fun b o e hx => by
    obtain ⟨o', q⟩ := u.there b o e hx
    exact ⟨o', k b o' (Heap.lt_size e) q⟩
  tups := u.tups
  frzs := u.frzs
  tbls := u.tbls
theorem un_late {fs : List Addr} {H H' : Hp} {h h' : Heap} {a : Addr} {o : HO} (u : Un fs [] H H' h h') (ha : h.objs.size ≤ a) (hn : H' a = none) : Un fs [] H (upd H' a o) h h' where
  keep := u.keep
  slot := u.slot
  free := fun b o e n hx => by
    rw [upd_ne (fun z => by rw [z] at e; exact Nat.lt_irrefl _ (Nat.lt_of_lt_of_le (Heap.lt_size e) ha))]
    exact u.free b o e n hx
  there := u.there
  tups := fun b xs e => by
    have q := u.tups b xs e
    rw [upd_ne (ne_of_none q hn)]
    exact q
  frzs := fun b o' x e => by
    have q := u.frzs b o' x e
    rw [upd_ne (ne_of_none q hn)]
    exact q
  tbls := fun b ps e => by
    obtain ⟨m, q⟩ := u.tbls b ps e
    exact ⟨m, by rw [upd_ne (ne_of_none q hn)]; exact q⟩
/-! ### the sort by keys, raw -/
section
variable {prog : Program} {w : World} {A : Around} {E : Value → Shared → Prop} {s : Shared}
theorem key_tail {a kS : Addr} {vs ks : List Value} {e e1 : Nat} {R : PySem.Fin → Shared → Prop} {st : SortSt} (hk : s.heap.get? kS = some (seqObj "list" ks.toArray e)) (ha : s.heap.get? a = some (seqObj "list" #[] e1)) (hka : kS ≠ a)
    (hz : ks.length ≤ sizeLine) (hsz : (arrOf st).size ≤ sizeLine) (hfl : failedOf st = none)
    (h : ∀ h' c, (∀ b o, b ≠ a → b ≠ kS → s.heap.get? b = some o → h'.get? b = some o) → h'.get? a = some (seqObj "list" ((arrOf st).map (·.2)) c) → R (.done (.ret .none)) { s with heap := h' }) :
    wpAny (model prog w) A (ksk_tail a false e1 (.ref kS) st) R E s := by
  have s1 := Heap.SameBut.update s.heap kS (Obj.mapSeq fun _ => (#[] : Array Value))
  have na1 : (s.heap.update kS (Obj.mapSeq fun _ => (#[] : Array Value))).get? a = some (seqObj "list" #[] e1) := (s1.2 a hka.symm).trans ha
  have s2 := Heap.SameBut.update (s.heap.update kS (Obj.mapSeq fun _ => (#[] : Array Value))) a (Obj.mapSeq fun _ => (arrOf st).map (·.2))
  obtain ⟨c2, hc2⟩ : ∃ c2, ((s.heap.update kS (Obj.mapSeq fun _ => (#[] : Array Value))).update a (Obj.mapSeq fun _ => (arrOf st).map (·.2))).get? a = some (seqObj "list" ((arrOf st).map (·.2)) c2) :=
    ⟨_, get?_update_seq na1 fun _ => (arrOf st).map (·.2)⟩
  unfold ksk_tail
  try dsimp only
  refine wpAny_bind (listUpdate_at hk rfl ?_ (by rw [List.size_toArray]; exact hz) (Nat.zero_le _))
  refine wpAny_bind (wpAny_letGo ?_)
  refine wpAny_bind (seqEpoch_at na1 rfl ?_)
  refine wpAny_bind (listUpdate_at na1 rfl ?_ (Nat.zero_le _) (by simp only [Bool.false_eq_true, if_false, Array.size_map]; omega))
  rw [hfl]
  simp only [bne_self_eq_false, Bool.false_eq_true, if_false]
  exact wpAny_pure (h _ c2 (fun b o h1 h2 q => (s2.2 b h1).trans ((s1.2 b h2).trans q)) hc2)
theorem key_end {a kS : Addr} {vs ks : List Value} {e e1 : Nat} {R : PySem.Fin → Shared → Prop} {lt : Keyed → Keyed → Bool} (O : SrtO.Swo lt) (hk : s.heap.get? kS = some (seqObj "list" ks.toArray e)) (ha : s.heap.get? a = some (seqObj "list" #[] e1)) (hka : kS ≠ a)
    (hlen : ks.length = vs.length) (hz : vs.length ≤ sizeLine)
    (hS : 2 ≤ vs.length → ∃ κ, (∀ (Q : SortKind → Shared → Prop) (E : Value → Shared → Prop), Q κ s → wpAny (model prog w) A (keyKind' ks.toArray) Q E s) ∧ SrtO.Cmp prog w A s κ (fun p => p.1 ∈ ks) lt)
    (h : ∀ (ps : List Keyed) h' c, SrtO.Srtd lt ps → SrtO.Stb lt ps (ks.zip vs) → (∀ b o, b ≠ a → b ≠ kS → s.heap.get? b = some o → h'.get? b = some o) → h'.get? a = some (seqObj "list" (ps.map (·.2)).toArray c) → R (.done (.ret .none)) { s with heap := h' }) :
    wpAny (model prog w) A (ksk_end a false vs.toArray e1 (.ref kS) ks.toArray) R E s := by
  have hzs : (ks.toArray.zip vs.toArray).size = vs.length := by rw [Array.size_zip, List.size_toArray, List.size_toArray, hlen, Nat.min_self]
  have ez : (ks.toArray.zip vs.toArray).toList = ks.zip vs := ksk_zip _ _
  have fin : ∀ st : SortSt, SrtO.Srtd lt (arrOf st).toList → SrtO.Stb lt (arrOf st).toList (ks.zip vs) → failedOf st = none → wpAny (model prog w) A (ksk_tail a false e1 (.ref kS) st) R E s := by
    intro st h1 h2 hf
    have hl := h2.len
    rw [List.length_zip, hlen, Nat.min_self, Array.length_toList] at hl
    refine key_tail (vs := vs) hk ha hka (by omega) (by omega) hf fun h' c k ho => ?_
    refine h _ h' c h1 h2 k ?_
    rw [ho]
    congr 2
    apply Array.toList_inj.mp
    simp
  unfold ksk_end
  try dsimp only
  simp only [Bool.false_eq_true, if_false]
  by_cases h2 : vs.toArray.size < 2
  · rw [if_pos h2, if_pos h2]
    refine wpAny_bind (wpAny_pure ?_)
    rw [StateT.run_pure]
    refine wpAny_bind (wpAny_pure ?_)
    try dsimp only
    refine fin (SortSt.mk' general' (ks.toArray.zip vs.toArray) #[] 7 none) ?_ (SrtO.Stb.of_eq ez) rfl
    show SrtO.Srtd lt (ks.toArray.zip vs.toArray).toList
    rw [ez]
    have hl : (ks.zip vs).length < 2 := by
      rw [List.length_zip, hlen, Nat.min_self]
      simpa using h2
    match ks.zip vs, hl with
    | [], _ => exact List.Pairwise.nil
    | [v], _ => exact List.pairwise_singleton _ _
    | _ :: _ :: l, h => exact absurd h (by rw [List.length_cons, List.length_cons]; omega)
  · rw [if_neg h2, if_neg h2]
    obtain ⟨κ, hkind, hT⟩ := hS (by simpa using h2)
    refine wpAny_bind (hkind _ _ ?_)
    have hall : SrtO.AllL (fun p : Keyed => p.1 ∈ ks) (ks.toArray.zip vs.toArray).toList := fun p hm => by
      rw [ez] at hm
      exact (List.of_mem_zip (show (p.1, p.2) ∈ ks.zip vs from hm)).1
    refine wpAny_bind (wpAny_mono (SrtO.wpS_sortO (st0 := SortSt.mk' κ (ks.toArray.zip vs.toArray) #[] 7 none)
      (Q := fun _ st' => SrtO.Srtd lt (arrOf st').toList ∧ SrtO.Stb lt (arrOf st').toList (ks.toArray.zip vs.toArray).toList ∧ failedOf st' = none) O hT rfl hall rfl rfl fun st' a1 a2 a3 => ⟨a1, a2, a3⟩) ?_ fun _ _ e => e)
    rintro ⟨⟨⟩, st'⟩ s' ⟨rfl, hp1, hp2, hf⟩
    try dsimp only
    rw [ez] at hp2
    exact fin st' hp1 hp2 hf
/-- sorted(l, key=f): J tells of the two lists that grow meanwhile -/
theorem sorted_key {l q : Addr} {vs : List Value} {Q : Value → Shared → Prop} (J : Addr → Addr → List Value → Shared → Prop) (hl : s.heap.IsList l vs.toArray) (hz : vs.length ≤ sizeLine)
    (start : ∀ (a kS : Addr) (h : Heap) (e1 : Nat), (∀ b o, s.heap.get? b = some o → h.get? b = some o) → s.heap.objs.size ≤ a → s.heap.objs.size ≤ kS → kS ≠ a → h.get? kS = some (seqObj "list" #[] 0) → h.get? a = some (seqObj "list" #[] e1) → J a kS [] { s with heap := h })
    (turn : ∀ (a kS : Addr) (e e1 : Nat) (ks : List Value) (x : Value) (s' : Shared), vs[ks.length]? = some x → J a kS ks s' → kS ≠ a → s'.heap.get? kS = some (seqObj "list" ks.toArray e) → s'.heap.get? a = some (seqObj "list" #[] e1) →
      wpAny (model prog w) A.in1.in1 (call (.ref q) [x]) (fun v s2 => s2.heap.get? kS = some (seqObj "list" ks.toArray e) ∧ s2.heap.get? a = some (seqObj "list" #[] e1) ∧
        ∀ h3, (∀ b o, b ≠ kS → s2.heap.get? b = some o → h3.get? b = some o) → J a kS (ks ++ [v]) { s2 with heap := h3 }) (fun _ _ => False) s')
    (done : ∀ (a kS : Addr) (e e1 : Nat) (ks : List Value) (s' : Shared), J a kS ks s' → ks.length = vs.length → kS ≠ a → s'.heap.get? kS = some (seqObj "list" ks.toArray e) → s'.heap.get? a = some (seqObj "list" #[] e1) →
      ∃ lt : Keyed → Keyed → Bool, SrtO.Swo lt ∧ (2 ≤ vs.length → ∃ κ, (∀ (Q : SortKind → Shared → Prop) (E : Value → Shared → Prop), Q κ s' → wpAny (model prog w) A.in1.in1 (keyKind' ks.toArray) Q E s') ∧ SrtO.Cmp prog w A.in1.in1 s' κ (fun p => p.1 ∈ ks) lt) ∧
        ∀ (ps : List Keyed) h' c, SrtO.Srtd lt ps → SrtO.Stb lt ps (ks.zip vs) → (∀ b o, b ≠ a → b ≠ kS → s'.heap.get? b = some o → h'.get? b = some o) → h'.get? a = some (seqObj "list" (ps.map (·.2)).toArray c) → Q (.ref a) { s' with heap := h' }) :
    wpAny (model prog w) A (call (.builtin "sorted") [.ref l] [(Str.ofString "key", .ref q)]) Q E s := by
  refine call_function_entry_kw kind_sorted plain_sorted entry_sorted (ksk_s1 _ _) ?_
  unfold Builtin.«sorted»
  refine wpAny_bind (m := checkCount "sorted" 1 1 _) (wpAny_pure ?_)
  refine wpAny_bind (collect_list hl ?_ hz)
  refine wpAny_bind (wpAny_newList ?_ hz)
  have hsz : ((s.heap.push (seqObj "list" #[] 0)).update s.heap.objs.size (Obj.mapSeq (· ++ vs.toArray))).objs.size = s.heap.objs.size + 1 := by
    rw [Heap.size_update, size_push']
  have hoL : (((s.heap.push (seqObj "list" #[] 0)).update s.heap.objs.size (Obj.mapSeq (· ++ vs.toArray))).push (seqObj "list" vs.toArray 0)).get? (s.heap.objs.size + 1) = some (seqObj "list" vs.toArray 0) := by
    rw [← hsz]; exact Heap.get?_push_size _ rfl
  have keep : ∀ b o, s.heap.get? b = some o → b < s.heap.objs.size ∧ (((s.heap.push (seqObj "list" #[] 0)).update s.heap.objs.size (Obj.mapSeq (· ++ vs.toArray))).push (seqObj "list" vs.toArray 0)).get? b = some o := fun b o q => by
    have hlt : b < s.heap.objs.size := Heap.lt_size q
    refine ⟨hlt, Heap.get?_push_of_some _ ?_⟩
    rw [Heap.get?_update_ne _ _ _ _ (Nat.ne_of_lt hlt)]
    exact Heap.get?_push_of_some _ q
  show wpAny _ _ _ _ _ { s with heap := ((s.heap.push (seqObj "list" #[] 0)).update s.heap.objs.size (Obj.mapSeq (· ++ vs.toArray))).push (seqObj "list" vs.toArray 0) }
  rw [hsz]
  generalize hg : ((s.heap.push (seqObj "list" #[] 0)).update s.heap.objs.size (Obj.mapSeq (· ++ vs.toArray))).push (seqObj "list" vs.toArray 0) = g at hoL keep ⊢
  have gsz : g.objs.size = s.heap.objs.size + 2 := by
    rw [← hg, size_push', hsz]
  refine wpAny_bind (wpAny_holding (wpAny_call_entry_kw slot_list_sort ⟨_, hoL, rfl⟩ entry_list_sort ?body (ksk_l1 _ _)))
  case body =>
    rw [ksk_t1]
    have ha : s.heap.objs.size + 1 < g.objs.size := Heap.lt_size hoL
    have s1 := Heap.SameBut.update g (s.heap.objs.size + 1) (Obj.mapSeq fun _ => (#[] : Array Value))
    obtain ⟨e1, ho1⟩ : ∃ e1, (g.update (s.heap.objs.size + 1) (Obj.mapSeq fun _ => (#[] : Array Value))).get? (s.heap.objs.size + 1) = some (seqObj "list" #[] e1) := ⟨_, get?_update_seq hoL fun _ => #[]⟩
    have hkS : ((g.update (s.heap.objs.size + 1) (Obj.mapSeq fun _ => (#[] : Array Value))).push (seqObj "tuple" vs.toArray 0)).objs.size = s.heap.objs.size + 3 := by rw [size_push', Heap.size_update, gsz]
    unfold ksk_tree
    refine wpAny_bind (listItems_at hoL rfl ?_)
    refine wpAny_bind (listUpdate_at hoL rfl ?_ (by rw [List.size_toArray]; exact hz) (Nat.zero_le _))
    refine wpAny_bind (seqEpoch_at ho1 rfl ?_)
    refine wpAny_bind (wpAny_newTuple ?_ (by show vs.length ≤ _; exact hz))
    refine wpAny_bind (wpAny_newList ?_ (Nat.zero_le _))
    refine wpAny_holding ?_
    have hk0 : (((g.update (s.heap.objs.size + 1) (Obj.mapSeq fun _ => (#[] : Array Value))).push (seqObj "tuple" vs.toArray 0)).push (seqObj "list" #[] 0)).get? (s.heap.objs.size + 3) = some (seqObj "list" #[] 0) := by
      rw [← hkS]; exact Heap.get?_push_size _ rfl
    have ha0 : (((g.update (s.heap.objs.size + 1) (Obj.mapSeq fun _ => (#[] : Array Value))).push (seqObj "tuple" vs.toArray 0)).push (seqObj "list" #[] 0)).get? (s.heap.objs.size + 1) = some (seqObj "list" #[] e1) :=
      Heap.get?_push_of_some _ (Heap.get?_push_of_some _ ho1)
    have keep2 : ∀ b o, s.heap.get? b = some o → (((g.update (s.heap.objs.size + 1) (Obj.mapSeq fun _ => (#[] : Array Value))).push (seqObj "tuple" vs.toArray 0)).push (seqObj "list" #[] 0)).get? b = some o := fun b o e => by
      obtain ⟨hlt, e'⟩ := keep b o e
      refine Heap.get?_push_of_some _ (Heap.get?_push_of_some _ ((s1.2 b ?_).trans e'))
      exact Nat.ne_of_lt (Nat.lt_succ_of_lt hlt)
    show wpAny (model prog w) A.in1.in1 (ksk_rest (s.heap.objs.size + 1) (.ref q) false vs.toArray _ (.ref ((g.update (s.heap.objs.size + 1) (Obj.mapSeq fun _ => (#[] : Array Value))).push (seqObj "tuple" vs.toArray 0)).objs.size)) _ _ { s with heap := ((g.update (s.heap.objs.size + 1) (Obj.mapSeq fun _ => (#[] : Array Value))).push (seqObj "tuple" vs.toArray 0)).push (seqObj "list" #[] 0) }
    rw [hkS]
    have hne : s.heap.objs.size + 3 ≠ s.heap.objs.size + 1 := by omega
    have J0 := start (s.heap.objs.size + 1) (s.heap.objs.size + 3) _ e1 keep2 (by show s.heap.objs.size ≤ s.heap.objs.size + 1; omega) (by show s.heap.objs.size ≤ s.heap.objs.size + 3; omega) hne hk0 ha0
    generalize s.heap.objs.size + 1 = a at *
    generalize s.heap.objs.size + 3 = kS at *
    generalize ((g.update a (Obj.mapSeq fun _ => (#[] : Array Value))).push (seqObj "tuple" vs.toArray 0)).push (seqObj "list" #[] 0) = h6 at *
    unfold ksk_rest
    refine wpAny_bind (wpAny_rule ?_)
    first
      | rw [List.forIn_toArray]
      | (rw [← Array.forIn_toList]; simp only [List.toList_toArray])
      | rw [← Array.forIn_toList]
    refine wpAny_bind (ksk_fold (fun i s' => ∃ ks e, ks.length = i ∧ J a kS ks s' ∧ s'.heap.get? kS = some (seqObj "list" ks.toArray e) ∧ s'.heap.get? a = some (seqObj "list" #[] e1)) vs 0 _
      ⟨[], 0, rfl, J0, hk0, ha0⟩ ?step ?done)
    case step =>
      rintro j x s' hx ⟨ks, e, hlen, hJ, hk, ha'⟩
      simp only [Nat.zero_add] at hlen ⊢
      have hj : j < vs.length := (List.getElem?_eq_some_iff.mp hx).1
      refine wpAny_bind (wpAny_attempt (wpAny_mono (turn a kS e e1 ks x s' (by rw [hlen]; exact hx) hJ hne hk ha') (fun v s'' he => ?_) fun _ _ hF => hF.elim))
      obtain ⟨hk2, ha2, hJ2⟩ := he
      try dsimp only
      have s1 := Heap.SameBut.update s''.heap kS (Obj.mapSeq (·.push v))
      obtain ⟨c2, hc2⟩ : ∃ c2, (s''.heap.update kS (Obj.mapSeq (·.push v))).get? kS = some (seqObj "list" (ks.toArray.push v) c2) := ⟨_, get?_update_seq hk2 (·.push v)⟩
      have ea : ks.toArray.push v = (ks ++ [v]).toArray := by simp
      refine wpAny_bind (listUpdate_at hk2 rfl ?_ (by rw [List.size_toArray]; omega) (by rw [Array.size_push, List.size_toArray]; omega))
      refine wpAny_pure ⟨rfl, ks ++ [v], c2, by rw [List.length_append, List.length_singleton, hlen], hJ2 _ fun b o hb q => (s1.2 b hb).trans q, ?_, (s1.2 a hne.symm).trans ha2⟩
      rw [← ea]
      exact hc2
    case done =>
      rintro s' ⟨ks, e, hlen, hJ, hk, ha'⟩
      rw [Nat.zero_add] at hlen
      try dsimp only
      refine wpAny_bind (listItems_at hk rfl ?_)
      obtain ⟨lt, O, hS, hq⟩ := done a kS e e1 ks s' hJ hlen hne hk ha'
      exact key_end O hk ha' hne hlen hz hS fun ps h' c h1 h2 k ho => ⟨_, rfl, wpAny_pure ⟨_, rfl, hq ps h' c h1 h2 k ho⟩⟩
end
end Sk
namespace Sk
open PySem PySem.Spec PyProof.Rows L2
/-- the key that a tracked tuple is -/
def kvOf (H : Hp) : Value → Int × Str
  | .ref p => match H p with
    | some (.tup [.int i, .str n]) => (i, n)
    | _ => (0, Str.empty)
  | _ => (0, Str.empty)
theorem kvOf_at {H : Hp} {p : Addr} {i : Int} {n : Str} (h : H p = some (.tup [.int i, .str n])) : kvOf H (.ref p) = (i, n) := by
  show (match H p with
    | some (.tup [.int i, .str n]) => (i, n)
    | _ => (0, Str.empty)) = (i, n)
  rw [h]
/-- sorted(e, key=lambda y: ..): the key of each item y is the pair k y -/
def SortLamQ (K : PySem.W.Frag) (T : List (Addr × Str)) (N : List Str) (tk : TE) (Q : VK) : VK := fun x H1 => ∃ (a : Addr) (xs : List V) (k : V → Int × Str), x = .ref a ∧ SqL K H1 a xs ∧ (∀ y ∈ xs, ∃ t, y = V.ref t) ∧ LamX.Tabs T H1 ∧
  (∀ y ∈ xs, ∀ H2, LamX.ExtN H1 H2 → ∀ Q' : VK, (∀ p, H2 p = none → Q' (.ref p) (upd H2 p (.tup [.int (k y).1, .str (k y).2]))) → tk (start N [y]) H2 Q') ∧
  ∀ ys a' H', SrtO.Srtd (fun x y => kLt (k x) (k y)) ys → ys.Perm xs → LamX.ExtN H1 H' → LamX.Tabs T H' → H' a' = none → Q (.ref a') (upd H' a' (.lst ys))
def tSortLam (K : PySem.W.Frag) (T : List (Addr × Str)) (N : List Str) (tk te : TE) : TE := fun σ H Q => te σ H (SortLamQ K T N tk Q)
/-- what is known between two keys -/
def KeyJ (X : Cx) (H1 : Hp) (s1 : Shared) (k : V → Int × Str) (xs : List V) (a kS : Addr) (ks : List Value) (s' : Shared) : Prop :=
  ∃ H' : Hp, s'.os = s1.os ∧ AllBare s'.gens ∧ Un (frs X.stack) [] H1 H' s1.heap s'.heap ∧ HOk X.prog X.w H' s'.heap ∧ (∀ b o, H1 b = some o → H' b = some o) ∧ H' a = none ∧ H' kS = none ∧ s1.heap.objs.size ≤ a ∧ s1.heap.objs.size ≤ kS ∧
    ks.length ≤ xs.length ∧ ∀ (i : Nat) (u : Value), ks[i]? = some u → ∃ p y, u = Value.ref p ∧ xs[i]? = some y ∧ H' p = some (.tup [.int (k y).1, .str (k y).2])
section
variable {X : Cx}
theorem zip_get {ks its : List Value} {p : Keyed} (h : p ∈ ks.zip its) : ∃ i : Nat, ks[i]? = some p.1 ∧ its[i]? = some p.2 := by
  obtain ⟨i, hi, e⟩ := List.mem_iff_getElem.mp h
  rw [List.length_zip] at hi
  refine ⟨i, ?_, ?_⟩
  · rw [List.getElem?_eq_getElem (by omega), ← e, List.getElem_zip]
  · rw [List.getElem?_eq_getElem (by omega), ← e, List.getElem_zip]
theorem pe_sortLam {T : List (Addr × Str)} {N ps : List Str} {c P : Addr} {k : Nat} {e : Expr} {te tk : TE} {params : Arguments} {body : Expr} {scope : Scope} {p lpos kpos pos : Pos}
    (hg : Gl X "sorted") (hm : X.mg "sorted" = none) (hr : Room (k + 3) X.A) (TB : LamX.TabB X.base X.mg c P) (hcode : X.env.code = .ref c) (hmT : (P, X.env.qual ++ "<lambda>") ∈ T) (hu : ∀ p ∈ T, p.1 = P → p.2 = X.env.qual ++ "<lambda>")
    (S : FnScope N ps scope) (hdef : defaultsOf params X.env = ([], [])) (hclo : ∀ cells, cloFrom cells scope.names [] = []) (h1 : ps.length = 1)
    (hbind : ∀ (q : Str) (pm cv ctv : Value) (us : List Value), us.length = 1 → bindArgs (PySem.W.kla_fn "<lambda>" q params body scope [] pm cv ctv) ⟨us, []⟩ = pure (ps.zip us))
    (ha : PA X [e] (tCons te tNil)) (hbody : ∀ (A : Around) (outer : List Env) (s : Shared) (H : Hp) (E : XK) (f c' : Addr), PE (cxOf CX0 X.prog X.w X.K X.mg X.base N (X.env.qual ++ "<lambda>") scope f (.ref c') A outer s H E) body tk)
    (hst : backTo pos (starEach [e] X.env) = (false, eval e X.env) :: backTo pos (starEach [] X.env) := by rfl) (hpl : (backTo pos (starEach [e] X.env)).any (·.1) = false := by rfl) :
    PE X (.Call (.Name "sorted" p) [e] [⟨some "key", .Lambda params body scope lpos, kpos⟩] pos) (tSortLam X.K T N tk te) := by
  refine ⟨fun pins s0 σ H0 Q I0 h => ?_⟩
  refine wpAny_Call_Name_kw (ld_blt I0 hg hm (show bootBuiltins "sorted" = some (.builtin "sorted") by decide +kernel) ?_ (by decide) (by decide))
  refine PyProof.Rows.callWith_kw (thn (ha.run pos pins s0 σ H0 (fun vs H1 => match vs with | [x] => SortLamQ X.K T N tk Q x H1 | _ => False) I0 h) fun us s h2 => ?kw) hst hpl rfl rfl
  case kw =>
    obtain ⟨vs, H, I, rv, q⟩ := h2
    obtain ⟨x, rfl⟩ : ∃ x, vs = [x] := by
      match vs, q with
      | [x], _ => exact ⟨x, rfl⟩
    obtain ⟨a0, xs, kk, rfl, hs, hrf, hT, hk, hq⟩ := (show SortLamQ X.K T N tk Q x H from q)
    obtain ⟨u0, rfl, ru⟩ := vals1 rv
    obtain rfl : u0 = Value.ref a0 := ru
    show wpAny _ _ (evalAll [(do let v ← eval (.Lambda params body scope lpos) X.env; standAt pos; pure v)]) _ _ s
    refine wpAny_evalAll_cons (wpAny_bind (LamX.lam_make2 I TB hcode hmT hu hT hdef (fun y hy e0 => ?_) fun f c' pm ctv H1 s1 I1 eN T1 hf hfn hfr hco => wpAny_bind (wpAny_standAt (wpAny_pure ?_))))
    · exact absurd e0 (S.nofree y hy)
    refine wpAny_evalAll_nil ?_
    show wpAny _ _ (call (.builtin "sorted") [.ref a0] [(Str.ofString "key", .ref f)]) _ _ s1
    rw [hclo] at hf
    have hs1 : SqL X.K H1 a0 xs := by
      rcases hs with (z | ⟨o, z⟩) | z
      · exact .inl (.inl (eN _ _ z (fun ps e => by cases e)))
      · exact .inl (.inr ⟨o, eN _ _ z (fun ps e => by cases e)⟩)
      · exact .inr z
    obtain ⟨its, rvs, hl, hz⟩ := I1.list hs1
    obtain ⟨e1, e2⟩ := refs_back rvs hrf
    have xlen : its.length = xs.length := rvs.length.symm
    have nofr : ∀ b, s1.heap.objs.size ≤ b → b ∉ frs X.stack := fun b hb z => by
      rcases List.mem_cons.mp (I1.stkSub _ z) with e | e
      · have h1 := I1.lt
        rw [← e] at h1
        exact Nat.lt_irrefl _ (Nat.lt_of_lt_of_le h1 hb)
      · exact I1.nofs hb e
    refine sorted_key (KeyJ X H1 s1 kk xs) hl.isList (by rw [xlen]; exact hz) ?start ?turn ?done
    case start =>
      intro a kS h e1' kp ha hkS hne ho1 ho2
      refine ⟨H1, rfl, I1.bare, Un.kept kp, I1.hok.kept kp, fun _ _ z => z, I1.hok.fresh ha, I1.hok.fresh hkS, ha, hkS, Nat.zero_le _, fun i u z => ?_⟩
      simp at z
    case turn =>
      rintro a kS e e1' ks u s' hu' ⟨H', os, bare, un, hok, ext, na, nk, ha, hkS, hle, hkeys⟩ hne ho1 ho2
      obtain ⟨y, hy, ry⟩ : ∃ y, xs[ks.length]? = some y ∧ RelV y u := by
        have hlt : ks.length < xs.length := by
          rw [← xlen]
          exact (List.getElem?_eq_some_iff.mp hu').1
        obtain ⟨u2, q1, q2⟩ := rvs.get (List.getElem?_eq_getElem hlt)
        rw [hu'] at q1
        cases q1
        exact ⟨_, List.getElem?_eq_getElem hlt, q2⟩
      have ym : y ∈ xs := List.mem_of_getElem? hy
      have I2 : Inv X pins σ H' s' := I1.call' (ch := []) os un hok bare fun b z => absurd z (by simp)
      have e0 := (I2.env0.in1).in1
      have of1 : s'.heap.get? f = _ := un.keep f _ hf hfn hfr (by simp)
      have eN2 : LamX.ExtN H H' := eN.trans fun b o z _ => ext b o z
      have rc : codeAny (model X.prog X.w) X.A.in1.in1 (.call (.ref f) ⟨[u], []⟩) (CR CX0 X.stack X.prog X.w H' s' (fun v H3 => ∃ p, v = V.ref p ∧ H' p = none ∧ H3 = upd H' p (.tup [.int (kk y).1, .str (kk y).2])) E0) s' :=
        lam_run (N := N) (ps := ps) (us := [u]) (vs := [y]) of1 S (hbind _ _ _ _ _ rfl) (hr.in1.in1 : Room (k + 1) X.A.in1.in1) e0 (ext _ _ hco) (.cons ry .nil) h1.symm (hbody _ _ _ _ _ _ _) (hk y ym H' eN2 _ fun p hp => ⟨p, rfl, hp, rfl⟩)
      refine wpAny_call (codeAny_mono rc fun r s2 hr2 => ?_)
      cases r with
      | error e => exact (show False from hr2).elim
      | ok fl =>
        cases fl with
        | next => exact False.elim hr2
        | brk => exact False.elim hr2
        | cont => exact False.elim hr2
        | ret v =>
          obtain ⟨v', H3, os2, bare2, un2, hok2, r2, p, rfl, np, rfl⟩ := hr2
          obtain rfl : v = Value.ref p := r2
          have kk1 := un2.keep kS _ ho1 nk (nofr _ hkS) (by simp)
          have kk2 := un2.keep a _ ho2 na (nofr _ ha) (by simp)
          have n1 := un2.free kS _ ho1 nk (by simp)
          have n2 := un2.free a _ ho2 na (by simp)
          have ext3 : ∀ b o, H' b = some o → upd H' p (.tup [.int (kk y).1, .str (kk y).2]) b = some o := fun b o z => by
            rw [upd_ne (ne_of_none z np)]
            exact z
          refine ⟨kk1, kk2, fun h3 k3 => ⟨upd H' p (.tup [.int (kk y).1, .str (kk y).2]), os2.trans os, bare2, un_but (un.trans un2) fun b o hb q => k3 b o (fun z => by rw [z] at hb; exact Nat.lt_irrefl _ (Nat.lt_of_lt_of_le hb hkS)) q, hok_but hok2 fun b o hb q => k3 b o (fun z => hb (by rw [z]; exact n1)) q,
            fun b o z => ext3 b o (ext b o z), n2, n1, ha, hkS, ?_, fun i w hi => ?_⟩⟩
          · rw [List.length_append, List.length_singleton]
            exact (List.getElem?_eq_some_iff.mp hy).1
          · by_cases hlt : i < ks.length
            · rw [List.getElem?_append_left hlt] at hi
              obtain ⟨p', y', q1, q2, q3⟩ := hkeys i w hi
              exact ⟨p', y', q1, q2, ext3 _ _ q3⟩
            · rw [List.getElem?_append_right (by omega)] at hi
              have ei : i - ks.length = 0 := by
                have := (List.getElem?_eq_some_iff.mp hi).1
                simp at this
                omega
              rw [ei] at hi
              have : w = Value.ref p := by simpa using hi.symm
              subst this
              have e3 : i = ks.length := by omega
              rw [e3]
              exact ⟨p, y, rfl, hy, upd_same⟩
    case done =>
      rintro a kS e e1' ks s' ⟨H', os, bare, un, hok, ext, na, nk, ha, hkS, hle, hkeys⟩ hlen hne ho1 ho2
      have at_ : ∀ (i : Nat) (v : Value), ks[i]? = some v → ∃ y, xs[i]? = some y ∧ kvOf H' v = kk y ∧ IsT2 s'.heap v (kvOf H' v) [] := fun i v hi => by
        obtain ⟨p, y, rfl, q1, q2⟩ := hkeys i v hi
        have e3 := kvOf_at q2
        refine ⟨y, q1, e3, ?_⟩
        rw [e3]
        obtain ⟨_, its2, r2, o, ho, hc, n, hd⟩ := hok _ _ q2
        obtain ⟨u1, u2, rfl, ri, rj⟩ := vals2 r2
        obtain ⟨t1, rfl⟩ := ri
        obtain ⟨t2, rfl⟩ := rj
        exact ⟨p, o, t1, t2, n, rfl, ho, hc, hd⟩
      have tup : ∀ v ∈ ks, IsT2 s'.heap v (kvOf H' v) [] := fun v hv => by
        obtain ⟨i, hi⟩ := List.mem_iff_getElem?.mp hv
        obtain ⟨y, _, _, q⟩ := at_ i v hi
        exact q
      refine ⟨SrtO.lt2 fun v u => kLt (kvOf H' v) (kvOf H' u), SrtO.swo2 (kLt_swo fun v => kvOf H' v), fun h2 => ⟨tuples' true, fun Q2 E2 hq2 => ?_, t2_cmp (rest := fun _ => []) tup (fun _ _ _ z => absurd z (by simp)) fun _ _ _ _ _ => rfl⟩, fun ps h' c hs hb kp ho => ?_⟩
      · obtain ⟨fs, f1, f2, f3⟩ := t2_firsts (rest := fun _ => []) tup
        refine PySem.W.kat_kind (T := .type "int") f1 (by omega) (fun f hm => ?_) (by rfl) ?_
        · obtain ⟨x, t, rfl⟩ := f3 f hm
          exact PySem.W.Looks.now
        · have e : (Value.type "int" != Value.type "tuple") = true := by first | decide +kernel | rfl | decide
          rw [e]
          exact hq2
      · have pm : ∀ p ∈ ps, kvOf H' p.1 = kk (backV p.2) ∧ p.2 ∈ its := fun p hp => by
          obtain ⟨i, q1, q2⟩ := zip_get (hb.perm.mem_iff.mp hp)
          obtain ⟨y, q3, q4, _⟩ := at_ i _ q1
          rw [e1, List.getElem?_map, q2] at q3
          have q5 : backV p.2 = y := by simpa using q3
          rw [q5]
          exact ⟨q4, List.mem_of_getElem? q2⟩
        have outm : ∀ u ∈ ps.map (·.2), ∃ a, u = Value.ref a := fun u hu => by
          obtain ⟨p, hp, rfl⟩ := List.mem_map.mp hu
          exact e2 _ (pm p hp).2
        have perm : (ps.map (·.2)).Perm its := by
          have z := hb.perm.map (fun p : Keyed => p.2)
          rwa [List.map_snd_zip (by omega)] at z
        have permV : ((ps.map (·.2)).map backV).Perm xs := by
          rw [e1]
          exact perm.map backV
        have srt : SrtO.Srtd (fun x y => kLt (kk x) (kk y)) ((ps.map (·.2)).map backV) := by
          rw [List.map_map]
          refine List.pairwise_map.mpr ?_
          refine List.Pairwise.imp_of_mem (fun {p q} hp hq z => ?_) hs
          have z' : kLt (kvOf H' q.1) (kvOf H' p.1) = false := z
          rw [(pm p hp).1, (pm q hq).1] at z'
          exact z'
        have olen : ((ps.map (·.2)).map backV).length ≤ sizeLine := by
          rw [permV.length_eq]
          exact hz
        have kp' : ∀ b o, H' b ≠ none → s'.heap.get? b = some o → h'.get? b = some o := fun b o hb q => kp b o (fun z => hb (by rw [z]; exact na)) (fun z => hb (by rw [z]; exact nk)) q
        refine ⟨.ref a, upd H' a (.lst ((ps.map (·.2)).map backV)), ?_, rfl, hq _ a H' srt permV (eN.trans fun b o z _ => ext b o z) (T1.ext ext) na⟩
        refine I1.call' (ch := []) (s' := { s' with heap := h' }) os (un_late (un_but un fun b o hb q => kp b o (fun z => by rw [z] at hb; exact Nat.lt_irrefl _ (Nat.lt_of_lt_of_le hb ha)) (fun z => by rw [z] at hb; exact Nat.lt_irrefl _ (Nat.lt_of_lt_of_le hb hkS)) q) ha na)
          (hok_late (hok_but hok kp') na ⟨olen, _, c, vals_back outm, ho⟩) bare fun b z => absurd z (by simp)
end
end Sk
namespace Sk
open PySem PySem.Spec PyProof.Rows L2
theorem ne_of_none' {H : Hp} {a b : Addr} {o : HO} (h : upd H b o a = none) : a ≠ b := fun z => by
  rw [z, upd_same] at h
  cases h
/-! ### own functions by name -/
structure Fn (P : Program) (w : World) (K : PySem.W.Frag) (mg : Str → Option Value) (base : Heap) (x : Str) (k : Nat) (ps : List Str) (sp : Sp) : Prop where
  ex : ∃ (f : Addr) (fd : FuncData), FnOk P w K mg base CX0 k f fd ps sp ∧ mg x = some (.ref f) ∧ PySem.W.keepIn K (.ref f) = true ∧ Binds K fd ps []
/-- with keywords alone, n values written, the keywords ks -/
structure FnK (P : Program) (w : World) (K : PySem.W.Frag) (mg : Str → Option Value) (base : Heap) (x : Str) (k : Nat) (ps : List Str) (sp : Sp) (n : Nat) (ks : List Str) (gV : List V → List V → List V) : Prop where
  ex : ∃ (f : Addr) (fd : FuncData) (g : List Value → List Value → List Value), FnOk P w K mg base CX0 k f fd ps sp ∧ mg x = some (.ref f) ∧ PySem.W.keepIn K (.ref f) = true ∧ KBn K fd ps n ks g gV
section
variable {X : Cx} {x : Str} {k n : Nat} {ps ks : List Str} {sp : Sp} {gV : List V → List V → List V} {e : Expr} {es : List Expr} {t tk : TA} {kws : List Keyword} {p pos : Pos}
theorem pe_fn (F : Fn X.prog X.w X.K X.mg X.base x k ps sp) (hr : Room k X.A) (ha : PA X (e :: es) t) (hg : Gl X x := by rfl) (hdb : (x == ("__debug__" : Str)) = false := by decide)
    (he : starEach (e :: es) X.env = (false, eval e X.env) :: starEach es X.env := by rfl) (hpl : (backTo pos (starEach es X.env)).any (·.1) = false := by rfl) : PE X (.Call (.Name x p) (e :: es) [] pos) (tCall sp [] E0 t) := by
  obtain ⟨f, fd, F1, hm, hk, hb⟩ := F.ex
  exact pe_call F1 hr hg hm hk hb .nil pass0 ha hdb he hpl
theorem pe_fnK (F : FnK X.prog X.w X.K X.mg X.base x k ps sp n ks gV) (hr : Room k X.A) (ha : PA X (e :: es) t) (hkw : PK X kws tk) (hg : Gl X x := by rfl) (hdb : (x == ("__debug__" : Str)) = false := by decide)
    (hall : (backToKw pos (keywordEach kws X.env)).all (·.1.isSome) = true := by rfl) (hks : (backToKw pos (keywordEach kws X.env)).filterMap (·.1) = ks := by rfl)
    (he : starEach (e :: es) X.env = (false, eval e X.env) :: starEach es X.env := by rfl)
    (hpl : ((backTo pos (starEach (e :: es) X.env)).any (·.1) || (backToKw pos (keywordEach kws X.env)).any (·.1.isNone)) = false := by rfl) : PE X (.Call (.Name x p) (e :: es) kws pos) (tCallN n ks.length sp gV E0 t tk) := by
  obtain ⟨f, fd, g, F1, hm, hk, hb⟩ := F.ex
  exact pe_callN F1 hr hg hm hk hb pass0 ha hkw hall hks hdb he hpl
theorem pe_fnK0 (F : FnK X.prog X.w X.K X.mg X.base x k ps sp 0 ks gV) (hr : Room k X.A) (hkw : PK X kws tk) (hg : Gl X x := by rfl) (hdb : (x == ("__debug__" : Str)) = false := by decide)
    (hall : (backToKw pos (keywordEach kws X.env)).all (·.1.isSome) = true := by rfl) (hks : (backToKw pos (keywordEach kws X.env)).filterMap (·.1) = ks := by rfl)
    (hpl : ((backTo pos (starEach [] X.env)).any (·.1) || (backToKw pos (keywordEach kws X.env)).any (·.1.isNone)) = false := by rfl) : PE X (.Call (.Name x p) [] kws pos) (tCallN 0 ks.length sp gV E0 tNil tk) := by
  obtain ⟨f, fd, g, F1, hm, hk, hb⟩ := F.ex
  refine ⟨fun pins s σ H Q I h => ?_⟩
  refine wpAny_Call_Name_kw (ld_glob I hg hm ?_ hdb)
  refine PySem.W.callWith_KW0 (h₀ := X.base) I.ok.mod.kin hk hall ?_ hpl
  refine thn (hkw.run pos pins s σ H _ I h) fun ws s2 ⟨zs, H2, I2, rz, l1, l2, q2⟩ => ⟨I2.kIn, ?_⟩
  rw [hks]
  exact run_fnN (us := []) (vs := []) F1 hr hb pass0 I2 .nil rz rfl l2 q2
/-- constants of the module -/
theorem pe_gs {z : Str} (h : ∃ t, X.mg x = some (.str z t)) (hg : Gl X x := by rfl) (hd : (x == ("__debug__" : Str)) = false := by decide) : PE X (.Name x pos) (tC (.str z)) := by
  obtain ⟨t, e⟩ := h
  exact pe_glob hg e ⟨t, rfl⟩ hd
theorem pe_gi {z : Int} (h : ∃ t, X.mg x = some (.int z t)) (hg : Gl X x := by rfl) (hd : (x == ("__debug__" : Str)) = false := by decide) : PE X (.Name x pos) (tC (.int z)) := by
  obtain ⟨t, e⟩ := h
  exact pe_glob hg e ⟨t, rfl⟩ hd
end
/-! ### heaps -/
/-- a heap grows: all but tables stand, the tables T stay tables -/
structure Gr (T : List (Addr × Str)) (H H' : Hp) : Prop where
  ext : LamX.ExtN H H'
  tab : LamX.Tabs T H → LamX.Tabs T H'
theorem Gr.refl {T : List (Addr × Str)} (H : Hp) : Gr T H H := ⟨LamX.ExtN.refl H, id⟩
theorem Gr.trans {T : List (Addr × Str)} {H H1 H2 : Hp} (a : Gr T H H1) (b : Gr T H1 H2) : Gr T H H2 := ⟨a.ext.trans b.ext, fun t => b.tab (a.tab t)⟩
theorem Gr.same {T : List (Addr × Str)} {H H' : Hp} (s : Same H H') : Gr T H H' := ⟨LamX.ExtN.of s, fun t => t.ext s⟩
theorem Same.upd {H : Hp} {p : Addr} {o : HO} (h : H p = none) : Same H (upd H p o) := fun b u e => by
  rw [upd_ne (ne_of_none e h)]
  exact e
theorem Gr.new {T : List (Addr × Str)} {H : Hp} {p : Addr} {o : HO} (h : H p = none) : Gr T H (upd H p o) := Gr.same (Same.upd h)
/-- neither a table nor a code object -/
def NoTab (o : HO) : Prop := (∀ ps, o ≠ .tbl ps) ∧ ∀ f, o ≠ .ext f
theorem NoTab.lst {xs : List V} : NoTab (.lst xs) := ⟨(fun _ e => by cases e), (fun _ e => by cases e)⟩
theorem NoTab.tup {xs : List V} : NoTab (.tup xs) := ⟨(fun _ e => by cases e), (fun _ e => by cases e)⟩
theorem NoTab.dK {xs : List (Key × V)} : NoTab (.dK xs) := ⟨(fun _ e => by cases e), (fun _ e => by cases e)⟩
theorem NoTab.ins {C dx : Addr} {fs : List (Str × V)} : NoTab (.ins C dx fs) := ⟨(fun _ e => by cases e), (fun _ e => by cases e)⟩
theorem Gr.at {T : List (Addr × Str)} {H H' : Hp} {a : Addr} {o : HO} (g : Gr T H H') (h : H a = some o) (n : NoTab o) : H' a = some o := g.ext a o h n.1
theorem Gr.free {T : List (Addr × Str)} {H H' : Hp} {a : Addr} (g : Gr T H H') (h : H' a = none) (n : ∀ ps, H a ≠ some (.tbl ps)) : H a = none := by
  cases q : H a with
  | none => rfl
  | some o =>
    have := g.ext a o q (fun ps e => n ps (by rw [q, e]))
    rw [h] at this
    cases this
theorem Gr.ext_seq {T : List (Addr × Str)} {K : PySem.W.Frag} {H H' : Hp} {a : Addr} {xs : List V} (g : Gr T H H') (h : SqL K H a xs) : SqL K H' a xs := by
  rcases h with (z | ⟨o, z⟩) | z
  · exact .inl (.inl (g.ext _ _ z (fun ps e => by cases e)))
  · exact .inl (.inr ⟨o, g.ext _ _ z (fun ps e => by cases e)⟩)
  · exact .inr z
/-- nothing but a table stands there -/
def Nw (H : Hp) (a : Addr) : Prop := ∀ u, H a = some u → ∃ ps, u = .tbl ps
theorem Nw.of {H : Hp} {a : Addr} (h : H a = none) : Nw H a := fun u e => by
  rw [h] at e
  cases e
theorem Gr.nw {T : List (Addr × Str)} {H H' : Hp} {a : Addr} (g : Gr T H H') (h : Nw H' a) : Nw H a := fun u e => by
  cases u with
  | tbl ps => exact ⟨ps, rfl⟩
  | _ =>
    obtain ⟨ps, z⟩ := h _ (g.ext _ _ e (fun ps z => by cases z))
    cases z
/-- a cell that H does not know is written -/
theorem Gr.mut {T : List (Addr × Str)} {H H' : Hp} {a : Addr} {o0 o : HO} (g : Gr T H H') (h : Nw H a) (h0 : H' a = some o0) (nt : NoTab o0) : Gr T H (upd H' a o) := by
  refine ⟨fun b u e n => ?_, fun t p hp => ?_⟩
  · rw [upd_ne (fun z => by
      rw [z] at e
      obtain ⟨ps, q⟩ := h _ e
      exact n ps q)]
    exact g.ext b u e n
  · obtain ⟨ps, b1, b2, b3⟩ := g.tab t p hp
    have na : p.1 ≠ a := fun z => by
      rw [z, h0] at b1
      cases b1
      exact nt.1 ps rfl
    refine ⟨ps, by rw [upd_ne na]; exact b1, b2, fun po cv hc => ?_⟩
    obtain ⟨c', e1, e2⟩ := b3 po cv hc
    refine ⟨c', e1, ?_⟩
    rw [upd_ne (fun z => by
      rw [z, h0] at e2
      cases e2
      exact nt.2 _ rfl)]
    exact e2
/-- a frozen part of the heap -/
structure Fz (G H : Hp) : Prop where
  sub : Same G H
  nt : ∀ a o, G a = some o → NoTab o
theorem Fz.emp {H : Hp} : Fz (fun _ => none) H := ⟨(fun _ _ e => by cases e), (fun _ _ e => by cases e)⟩
theorem Fz.gr {T : List (Addr × Str)} {G H H' : Hp} (f : Fz G H) (g : Gr T H H') : Fz G H' := ⟨fun b o e => g.ext b o (f.sub b o e) (f.nt b o e).1, f.nt⟩
theorem Fz.free {G H : Hp} {a : Addr} (f : Fz G H) (h : H a = none) : G a = none := f.sub.free h
theorem Fz.put {G H : Hp} {a : Addr} {o : HO} (f : Fz G H) (h : G a = none) : Fz G (upd H a o) := ⟨fun b u e => by
  rw [upd_ne (ne_of_none e h)]
  exact f.sub b u e, f.nt⟩
/-- what stands at a is frozen -/
theorem Fz.add {G H : Hp} {a : Addr} {o : HO} (f : Fz G H) (h : H a = some o) (n : NoTab o) : Fz (upd G a o) H := ⟨fun b u e => by
  by_cases hb : b = a
  · rw [hb] at e ⊢
    rw [upd_same] at e
    cases e
    exact h
  · rw [upd_ne hb] at e
    exact f.sub b u e, fun b u e => by
  by_cases hb : b = a
  · rw [hb, upd_same] at e
    cases e
    exact n
  · rw [upd_ne hb] at e
    exact f.nt b u e⟩
theorem Tabs.upd {T : List (Addr × Str)} {H : Hp} {d : Addr} {u o : HO} (t : LamX.Tabs T H) (h : H d = some u) (nt : NoTab u) : LamX.Tabs T (upd H d o) := fun p hp => by
  obtain ⟨ps, b1, b2, b3⟩ := t p hp
  have na : p.1 ≠ d := fun z => by
    rw [z, h] at b1
    cases b1
    exact nt.1 ps rfl
  refine ⟨ps, by rw [upd_ne na]; exact b1, b2, fun po cv hc => ?_⟩
  obtain ⟨c', e1, e2⟩ := b3 po cv hc
  refine ⟨c', e1, ?_⟩
  rw [upd_ne (fun z => by
    rw [z, h] at e2
    cases e2
    exact nt.2 _ rfl)]
  exact e2
theorem NoTab.frz {o : Obj} {u : HO} : NoTab (.frz o u) := ⟨(fun _ e => by cases e), (fun _ e => by cases e)⟩
/-- a cell was locked meanwhile -/
theorem Gr.unlock {T : List (Addr × Str)} {H H' : Hp} {d : Addr} {od : Obj} {u : HO} (hd : H d = some u) (nt : NoTab u) (g : Gr T (L2.upd H d (.frz od u)) H') (hd' : H' d = some (.frz od u)) : Gr T H (L2.upd H' d u) := by
  refine ⟨fun b o e n => ?_, fun t => Tabs.upd (g.tab (Tabs.upd t hd nt)) hd' .frz⟩
  by_cases hb : b = d
  · rw [hb, hd] at e
    cases e
    rw [hb, upd_same]
  · rw [upd_ne hb]
    exact g.ext b o (by rw [upd_ne hb]; exact e) n
/-! ### the source of draws -/
/-- the source at p, its digits at q; drawn at most n times from the mixed sequence -/
def SrcAt (p q : Addr) (n : Nat) (H : Hp) : Prop := ∃ (ds : List Int) (x m c : Int), H p = some (.lst [.ref q, .int x, .int m, .int c]) ∧ H q = some (.lst (ds.map V.int)) ∧ (∀ d ∈ ds, 0 ≤ d) ∧ 0 ≤ x ∧ 0 ≤ m ∧ m < 2305843009213693951 ∧ 0 ≤ c ∧ c ≤ n
/-- the source, the cells L that may change, the frozen part G -/
structure Hs (T : List (Addr × Str)) (p : Addr) (n : Nat) (L : List (Addr × HO)) (G H : Hp) : Prop where
  src : ∃ q, SrcAt p q n H ∧ G q = none ∧ q ≠ p ∧ ∀ x ∈ L, x.1 ≠ q
  fz : Fz G H
  gp : G p = none
  cel : ∀ x ∈ L, H x.1 = some x.2 ∧ G x.1 = none ∧ x.1 ≠ p ∧ NoTab x.2
  nod : (L.map (·.1)).Nodup
  tab : LamX.Tabs T H
section
variable {T : List (Addr × Str)} {p : Addr} {n : Nat} {L : List (Addr × HO)} {G H H' : Hp}
theorem SrcAt.mono {q : Addr} {m : Nat} (s : SrcAt p q n H) (h : n ≤ m) : SrcAt p q m H := by
  obtain ⟨ds, x, mm, c, h1, h2, h3, h4, h5, h6, h7, h8⟩ := s
  exact ⟨ds, x, mm, c, h1, h2, h3, h4, h5, h6, h7, by omega⟩
theorem Hs.mono {m : Nat} (s : Hs T p n L G H) (h : n ≤ m) : Hs T p m L G H := by
  obtain ⟨⟨q, a, b⟩, c, d, e, f, g⟩ := s
  exact ⟨⟨q, a.mono h, b⟩, c, d, e, f, g⟩
/-- all that stood stands -/
theorem Hs.gr (s : Hs T p n L G H) (g : Gr T H H') : Hs T p n L G H' := by
  obtain ⟨⟨q, ⟨ds, x, m, c, h1, h2, h3⟩, b⟩, fz, gp, cel, nod, tab⟩ := s
  exact ⟨⟨q, ⟨ds, x, m, c, g.at h1 .lst, g.at h2 .lst, h3⟩, b⟩, fz.gr g, gp, fun x hx => ⟨g.at (cel x hx).1 (cel x hx).2.2.2, (cel x hx).2⟩, nod, g.tab tab⟩
/-- a new cell -/
theorem Hs.new {a : Addr} {o : HO} (s : Hs T p n L G H) (h : H a = none) (nt : NoTab o) : Hs T p n ((a, o) :: L) G (upd H a o) := by
  have s2 := s.gr (Gr.new (o := o) h)
  obtain ⟨⟨q, a1, a2, a3, a4⟩, fz, gp, cel, nod, tab⟩ := s
  obtain ⟨ds, x, m, c, h1, h2, h3⟩ := a1
  refine ⟨⟨q, ⟨ds, x, m, c, ?_, ?_, h3⟩, a2, a3, fun y hy => ?_⟩, s2.fz, gp, fun y hy => ?_, ?_, s2.tab⟩
  · rw [upd_ne (ne_of_none h1 h)]
    exact h1
  · rw [upd_ne (ne_of_none h2 h)]
    exact h2
  · rcases List.mem_cons.mp hy with rfl | hy
    · exact (ne_of_none h2 h).symm
    · exact a4 y hy
  · rcases List.mem_cons.mp hy with rfl | hy
    · exact ⟨upd_same, fz.free h, (ne_of_none h1 h).symm, nt⟩
    · exact s2.cel y hy
  · rw [List.map_cons, List.nodup_cons]
    refine ⟨fun hm => ?_, nod⟩
    obtain ⟨y, hy, e⟩ := List.mem_map.mp hm
    have := (cel y hy).1
    rw [e, h] at this
    cases this
/-- what stands at the i-th cell -/
theorem Hs.get {i : Nat} {a : Addr} {o : HO} (s : Hs T p n L G H) (h : L[i]? = some (a, o)) : H a = some o := (s.cel (a, o) (List.mem_of_getElem? h)).1
/-- the i-th cell is written -/
theorem Hs.put {i : Nat} {a : Addr} {o o' : HO} (s : Hs T p n L G H) (h : L[i]? = some (a, o)) (nt : NoTab o') : Hs T p n (L.set i (a, o')) G (upd H a o') := by
  have hm := List.mem_of_getElem? h
  obtain ⟨⟨q, ⟨ds, x, m, c, h1, h2, h3⟩, a2, a3, a4⟩, fz, gp, cel, nod, tab⟩ := s
  obtain ⟨c1, c2, c3, c4⟩ := cel _ hm
  have hi : i < L.length := (List.getElem?_eq_some_iff.mp h).1
  have ei : L[i] = (a, o) := (List.getElem?_eq_some_iff.mp h).2
  have sub : ∀ y ∈ L.set i (a, o'), y = (a, o') ∨ (y ∈ L ∧ y.1 ≠ a) := fun y hy => by
    obtain ⟨j, hj, ej⟩ := List.mem_iff_getElem.mp hy
    by_cases hij : i = j
    · subst hij
      rw [List.getElem_set_self] at ej
      exact .inl ej.symm
    · rw [List.getElem_set_ne hij] at ej
      refine .inr ⟨by rw [← ej]; exact List.getElem_mem _, fun z => hij ?_⟩
      rw [List.length_set] at hj
      have q1 : (L.map (·.1))[i]'(by rw [List.length_map]; exact hi) = (L.map (·.1))[j]'(by rw [List.length_map]; exact hj) := by
        rw [List.getElem_map, List.getElem_map, ei, ej, z]
      exact (List.getElem_inj nod).mp q1
  refine ⟨⟨q, ⟨ds, x, m, c, ?_, ?_, h3⟩, a2, a3, fun y hy => ?_⟩, fz.put c2, gp, fun y hy => ?_, ?_, fun t ht => ?_⟩
  · rw [upd_ne (Ne.symm c3)]
    exact h1
  · rw [upd_ne (Ne.symm (show a ≠ q from a4 _ hm))]
    exact h2
  · rcases sub y hy with rfl | ⟨hy, _⟩
    · exact (a4 _ hm : a ≠ q)
    · exact a4 y hy
  · rcases sub y hy with rfl | ⟨hy, z⟩
    · exact ⟨upd_same, c2, c3, nt⟩
    · rw [upd_ne z]
      exact cel y hy
  · rw [List.map_set]
    have : (L.map (·.1)).set i a = L.map (·.1) := by
      have e2 : (L.map (·.1))[i]'(by rw [List.length_map]; exact hi) = a := by rw [List.getElem_map, ei]
      conv => rhs; rw [← List.set_getElem_self (as := L.map (·.1)) (i := i) (by rw [List.length_map]; exact hi)]
      rw [e2]
    show ((L.map (·.1)).set i a).Nodup
    rw [this]
    exact nod
  · obtain ⟨ps, b1, b2, b3⟩ := tab t ht
    have na : t.1 ≠ a := fun z => by
      rw [z, c1] at b1
      cases b1
      exact c4.1 ps rfl
    refine ⟨ps, by rw [upd_ne na]; exact b1, b2, fun po cv hc => ?_⟩
    obtain ⟨c', e1, e2⟩ := b3 po cv hc
    refine ⟨c', e1, ?_⟩
    by_cases hca : c' = a
    · exfalso
      rw [hca, c1] at e2
      cases e2
      exact c4.2 _ rfl
    · rw [upd_ne hca]
      exact e2
/-- fewer cells -/
theorem Hs.sub {L' : List (Addr × HO)} (s : Hs T p n L G H) (h : L'.Sublist L) : Hs T p n L' G H := by
  obtain ⟨⟨q, a, b, c, d⟩, fz, gp, cel, nod, tab⟩ := s
  exact ⟨⟨q, a, b, c, fun x hx => d x (h.subset hx)⟩, fz, gp, fun x hx => cel x (h.subset hx), nod.sublist (h.map _), tab⟩
/-- the first cell is frozen -/
theorem Hs.freeze {a : Addr} {o : HO} (s : Hs T p n ((a, o) :: L) G H) : Hs T p n L (upd G a o) H := by
  obtain ⟨⟨q, h1, h2, h3, h4⟩, fz, gp, cel, nod, tab⟩ := s
  obtain ⟨c1, c2, c3, c4⟩ := cel _ (List.mem_cons_self ..)
  rw [List.map_cons, List.nodup_cons] at nod
  refine ⟨⟨q, h1, ?_, h3, fun x hx => h4 x (List.mem_cons_of_mem _ hx)⟩, fz.add c1 c4, ?_, fun x hx => ?_, nod.2, tab⟩
  · rw [upd_ne (Ne.symm (show a ≠ q from h4 _ (List.mem_cons_self ..)))]
    exact h2
  · rw [upd_ne (Ne.symm c3)]
    exact gp
  · obtain ⟨d1, d2, d3, d4⟩ := cel x (List.mem_cons_of_mem _ hx)
    refine ⟨d1, ?_, d3, d4⟩
    rw [upd_ne (fun z => nod.1 (List.mem_map.mpr ⟨x, hx, z⟩))]
    exact d2
/-- the heap grew, and at a new place stands o -/
theorem Hs.grow {a : Addr} {o : HO} (s : Hs T p n L G H) (g : Gr T H H') (h : Nw H a) (e : H' a = some o) (nt : NoTab o) : Hs T p n ((a, o) :: L) G H' := by
  have s2 := s.gr g
  have no : ∀ u, H a = some u → ¬ NoTab u := fun u hu n2 => by
    obtain ⟨ps, z⟩ := h u hu
    exact n2.1 ps z
  obtain ⟨⟨q, ⟨ds, x, m, c, h1, h2, _⟩, a2, a3, a4⟩, fz, gp, cel, nod, tab⟩ := s
  obtain ⟨⟨q', b1, b2, b3, b4⟩, fz', _, cel', _, tab'⟩ := s2
  refine ⟨⟨q', b1, b2, b3, fun y hy => ?_⟩, fz', gp, fun y hy => ?_, ?_, tab'⟩
  · rcases List.mem_cons.mp hy with rfl | hy
    · intro z
      obtain ⟨ds', x', m', c', k1, k2, _⟩ := b1
      have e1 := g.at h1 .lst
      rw [k1] at e1
      cases e1
      exact no _ (by rw [show a = q from z]; exact h2) .lst
    · exact b4 y hy
  · rcases List.mem_cons.mp hy with rfl | hy
    · refine ⟨e, ?_, fun z => ?_, nt⟩
      · cases q0 : G a with
        | none => rfl
        | some u => exact absurd (fz.nt a u q0) (no u (fz.sub a u q0))
      · exact no _ (by rw [show a = p from z]; exact h1) .lst
    · exact cel' y hy
  · rw [List.map_cons, List.nodup_cons]
    refine ⟨fun hm => ?_, nod⟩
    obtain ⟨y, hy, e2⟩ := List.mem_map.mp hm
    obtain ⟨c1, _, _, c4⟩ := cel y hy
    rw [e2] at c1
    exact no _ c1 c4
/-- the first cell is left alone -/
theorem Hs.drop1 {c : Addr × HO} (s : Hs T p n (c :: L) G H) : Hs T p n L G H := s.sub (.cons _ (.refl _))
/-- the second cell is left alone -/
theorem Hs.drop2 {c d : Addr × HO} (s : Hs T p n (c :: d :: L) G H) : Hs T p n (c :: L) G H := s.sub (.cons₂ _ (.cons _ (.refl _)))
/-- the second cell first -/
theorem Hs.swap {c d : Addr × HO} (s : Hs T p n (c :: d :: L) G H) : Hs T p n (d :: c :: L) G H := by
  obtain ⟨⟨q, b1, b2, b3, b4⟩, fz, gp, cel, nod, tab⟩ := s
  have pm : (d :: c :: L).Perm (c :: d :: L) := .swap ..
  exact ⟨⟨q, b1, b2, b3, fun x hx => b4 x (pm.mem_iff.mp hx)⟩, fz, gp, fun x hx => cel x (pm.mem_iff.mp hx), (pm.map _).nodup_iff.mpr nod, tab⟩
/-- what is frozen stands -/
theorem Hs.fzat {a : Addr} {o : HO} (s : Hs T p n L G H) (h : G a = some o) : H a = some o := s.fz.sub _ _ h
theorem Hs.gfree {a : Addr} (s : Hs T p n L G H) (h : H a = none) : G a = none := s.fz.free h
theorem Hs.cfree {c : Addr × HO} (s : Hs T p n (c :: L) G H) : G c.1 = none := (s.cel c (List.mem_cons_self ..)).2.1
/-- all tuples are frozen -/
def fzT (G H : Hp) : Hp := fun b => match G b with
  | some o => some o
  | none => match H b with
    | some (.tup zs) => some (.tup zs)
    | _ => none
theorem fzT_old {b : Addr} {o : HO} (h : G b = some o) : fzT G H b = some o := by
  unfold fzT
  rw [h]
theorem fzT_tup {b : Addr} {zs : List V} (f : Fz G H) (h : H b = some (.tup zs)) : fzT G H b = some (.tup zs) := by
  unfold fzT
  cases q : G b with
  | some o =>
    have := f.sub b o q
    rw [h] at this
    cases this
    rfl
  | none => simp only [h]
theorem fzT_cases {b : Addr} {o : HO} (h : fzT G H b = some o) : G b = some o ∨ (H b = some o ∧ ∃ zs, o = .tup zs) := by
  unfold fzT at h
  cases q : G b with
  | some u =>
    rw [q] at h
    exact .inl h
  | none =>
    rw [q] at h
    cases q2 : H b with
    | none => rw [q2] at h; cases h
    | some u =>
      rw [q2] at h
      cases u with
      | tup zs =>
        cases h
        exact .inr ⟨rfl, zs, rfl⟩
      | _ => cases h
theorem fzT_none {b : Addr} (h : G b = none) (n : ∀ zs, H b ≠ some (.tup zs)) : fzT G H b = none := by
  cases q : fzT G H b with
  | none => rfl
  | some o =>
    rcases fzT_cases q with z | ⟨z, zs, e⟩
    · rw [h] at z
      cases z
    · exact absurd (e ▸ z) (n zs)
theorem Hs.fzTup (s : Hs T p n L G H) (hL : ∀ x ∈ L, ∀ zs, x.2 ≠ .tup zs) : Hs T p n L (fzT G H) H := by
  obtain ⟨⟨q, a, b1, b2, b3⟩, fz, gp, cel, nod, tab⟩ := s
  obtain ⟨ds, x, m, c, h1, h2, h3⟩ := id a
  refine ⟨⟨q, a, fzT_none b1 (fun zs z => by rw [h2] at z; cases z), b2, b3⟩, ⟨fun b o e => ?_, fun b o e => ?_⟩, fzT_none gp (fun zs z => by rw [h1] at z; cases z), fun y hy => ?_, nod, tab⟩
  · rcases fzT_cases e with z | ⟨z, _⟩
    · exact fz.sub b o z
    · exact z
  · rcases fzT_cases e with z | ⟨_, zs, z⟩
    · exact fz.nt b o z
    · rw [z]
      exact .tup
  · obtain ⟨c1, c2, c3⟩ := cel y hy
    exact ⟨c1, fzT_none c2 (fun zs z => hL y hy zs (Option.some.inj (c1.symm.trans z))), c3⟩
/-- less is frozen -/
theorem Hs.less {G0 : Hp} (s : Hs T p n L G H) (h : Same G0 G) : Hs T p n L G0 H := by
  obtain ⟨⟨q, a, b1, b2, b3⟩, fz, gp, cel, nod, tab⟩ := s
  exact ⟨⟨q, a, h.free b1, b2, b3⟩, ⟨fun b o e => fz.sub b o (h b o e), fun b o e => fz.nt b o (h b o e)⟩, h.free gp, fun y hy => ⟨(cel y hy).1, h.free (cel y hy).2.1, (cel y hy).2.2⟩, nod, tab⟩
/-- a frozen cell is written -/
theorem Hs.fput {l : Addr} {o o' : HO} (s : Hs T p n L G H) (h : G l = some o) (nt : NoTab o') : Hs T p n L (upd G l o') (upd H l o') := by
  obtain ⟨⟨q, ⟨ds, x, m, c, h1, h2, h3⟩, b1, b2, b3⟩, fz, gp, cel, nod, tab⟩ := s
  have lp : p ≠ l := fun z => by rw [z, h] at gp; cases gp
  have lq : q ≠ l := fun z => by rw [z, h] at b1; cases b1
  refine ⟨⟨q, ⟨ds, x, m, c, by rw [upd_ne lp]; exact h1, by rw [upd_ne lq]; exact h2, h3⟩, by rw [upd_ne lq]; exact b1, b2, b3⟩, ⟨fun b u e => ?_, fun b u e => ?_⟩, by rw [upd_ne lp]; exact gp, fun y hy => ?_, nod, Tabs.upd tab (fz.sub _ _ h) (fz.nt _ _ h)⟩
  · by_cases hb : b = l
    · rw [hb, upd_same] at e ⊢
      exact e
    · rw [upd_ne hb] at e ⊢
      exact fz.sub b u e
  · by_cases hb : b = l
    · rw [hb, upd_same] at e
      cases e
      exact nt
    · rw [upd_ne hb] at e
      exact fz.nt b u e
  · obtain ⟨c1, c2, c3⟩ := cel y hy
    have ly : y.1 ≠ l := fun z => by rw [z, h] at c2; cases c2
    rw [upd_ne ly, upd_ne ly]
    exact ⟨c1, c2, c3⟩
end
end Sk
namespace Sk
open PySem PySem.Spec PyProof.Rows L2
/-! ### catalogues -/
structure Ent where
  name : Str
  w : Int
  parts : List Str
/-- an entry: a tuple of a name, a weight and a list of names -/
def EntAt (G : Hp) (v : V) (e : Ent) : Prop := ∃ t l, v = .ref t ∧ G t = some (.tup [.str e.name, .int e.w, .ref l]) ∧ G l = some (.lst (e.parts.map V.str))
abbrev CatAt (G : Hp) (vs : List V) (es : List Ent) : Prop := Paired (EntAt G) vs es
theorem EntAt.mono {G G' : Hp} {v : V} {e : Ent} (h : EntAt G v e) (s : Same G G') : EntAt G' v e := by
  obtain ⟨t, l, a, b, c⟩ := h
  exact ⟨t, l, a, s _ _ b, s _ _ c⟩
theorem CatAt.mono {G G' : Hp} (s : Same G G') : ∀ {vs : List V} {es : List Ent}, CatAt G vs es → CatAt G' vs es
  | _, _, .nil => .nil
  | _, _, .cons h t => .cons (h.mono s) (CatAt.mono s t)
theorem EntAt.gr {Tb : List (Addr × Str)} {G G' : Hp} {v : V} {e : Ent} (h : EntAt G v e) (s : Gr Tb G G') : EntAt G' v e := by
  obtain ⟨t, l, a, b, c⟩ := h
  exact ⟨t, l, a, s.at b .tup, s.at c .lst⟩
theorem CatAt.gr {Tb : List (Addr × Str)} {G G' : Hp} (s : Gr Tb G G') : ∀ {vs : List V} {es : List Ent}, CatAt G vs es → CatAt G' vs es
  | _, _, .nil => .nil
  | _, _, .cons h t => .cons (h.gr s) (CatAt.gr s t)
section
variable {α β : Type} {R : α → β → Prop}
theorem Paired.len : ∀ {xs : List α} {ys : List β}, Paired R xs ys → xs.length = ys.length
  | _, _, .nil => rfl
  | _, _, .cons _ t => by rw [List.length_cons, List.length_cons, Paired.len t]
theorem Paired.at : ∀ {xs : List α} {ys : List β} {i : Nat} {x : α}, Paired R xs ys → xs[i]? = some x → ∃ y, ys[i]? = some y ∧ R x y
  | _, _, _, _, .nil, e => by simp at e
  | _, _, 0, _, .cons h _, e => by simp at e; subst e; exact ⟨_, rfl, h⟩
  | _, _, i + 1, x, .cons _ t, e => by
    obtain ⟨y, h1, h2⟩ := Paired.at (i := i) (x := x) t (by simpa using e)
    exact ⟨y, by simpa using h1, h2⟩
theorem Paired.at2 : ∀ {xs : List α} {ys : List β} {i : Nat} {y : β}, Paired R xs ys → ys[i]? = some y → ∃ x, xs[i]? = some x ∧ R x y
  | _, _, _, _, .nil, e => by simp at e
  | _, _, 0, _, .cons h _, e => by simp at e; subst e; exact ⟨_, rfl, h⟩
  | _, _, i + 1, y, .cons _ t, e => by
    obtain ⟨x, h1, h2⟩ := Paired.at2 (i := i) (y := y) t (by simpa using e)
    exact ⟨x, by simpa using h1, h2⟩
theorem Paired.snoc {x : α} {y : β} (h : R x y) : ∀ {xs : List α} {ys : List β}, Paired R xs ys → Paired R (xs ++ [x]) (ys ++ [y])
  | _, _, .nil => .cons h .nil
  | _, _, .cons a t => .cons a (Paired.snoc h t)
theorem Paired.app : ∀ {xs xs' : List α} {ys ys' : List β}, Paired R xs ys → Paired R xs' ys' → Paired R (xs ++ xs') (ys ++ ys')
  | _, _, _, _, .nil, s => s
  | _, _, _, _, .cons a t, s => .cons a (Paired.app t s)
theorem Paired.perm {xs xs' : List α} (p : xs'.Perm xs) : ∀ {ys : List β}, Paired R xs ys → ∃ ys', ys'.Perm ys ∧ Paired R xs' ys' := by
  induction p with
  | nil => intro ys h; exact ⟨ys, .refl _, h⟩
  | cons x _ ih =>
    intro ys h
    cases h with
    | cons a t =>
      obtain ⟨ys', p', h'⟩ := ih t
      exact ⟨_ :: ys', p'.cons _, .cons a h'⟩
  | swap x y l =>
    intro ys h
    cases h with
    | cons a t =>
      cases t with
      | cons b t => exact ⟨_, List.Perm.swap .., .cons b (.cons a t)⟩
  | trans _ _ ih1 ih2 =>
    intro ys h
    obtain ⟨y1, p1, h1⟩ := ih2 h
    obtain ⟨y2, p2, h2⟩ := ih1 h1
    exact ⟨y2, p2.trans p1, h2⟩
theorem Paired.map_left {γ : Type} {f : γ → α} : ∀ {xs : List γ} {ys : List β}, Paired R (xs.map f) ys → Paired (fun c => R (f c)) xs ys
  | [], _, h => by cases h; exact .nil
  | x :: xs, _, h => by
    cases h with
    | cons a t => exact .cons a (Paired.map_left t)
theorem Paired.imp {R' : α → β → Prop} (f : ∀ a b, R a b → R' a b) : ∀ {xs : List α} {ys : List β}, Paired R xs ys → Paired R' xs ys
  | _, _, .nil => .nil
  | _, _, .cons a t => .cons (f _ _ a) (Paired.imp f t)
theorem Paired.left {xs : List α} {ys : List β} (h : Paired R xs ys) {x : α} (hx : x ∈ xs) : ∃ y ∈ ys, R x y := by
  obtain ⟨i, hi⟩ := List.mem_iff_getElem?.mp hx
  obtain ⟨y, h1, h2⟩ := Paired.at h hi
  exact ⟨y, List.mem_of_getElem? h1, h2⟩
theorem Paired.right {xs : List α} {ys : List β} (h : Paired R xs ys) {y : β} (hy : y ∈ ys) : ∃ x ∈ xs, R x y := by
  obtain ⟨i, hi⟩ := List.mem_iff_getElem?.mp hy
  obtain ⟨x, h1, h2⟩ := Paired.at2 h hi
  exact ⟨x, List.mem_of_getElem? h1, h2⟩
end
/-! ### dicts of numbers -/
abbrev Num := List (Str × Int)
def dS (d : Num) : List (Key × V) := d.map fun q => (Sum.inr q.1, V.int q.2)
def get? (d : Num) (x : Str) : Option Int := (d.find? fun q => decide (q.1 = x)).map (·.2)
def getD (d : Num) (x : Str) : Int := (get? d x).getD 0
def put (d : Num) (x : Str) (i : Int) : Num := if (d.any fun q => decide (q.1 = x)) = true then d.map (fun q => if q.1 = x then (q.1, i) else q) else d ++ [(x, i)]
theorem inr_dec (a b : Str) : decide ((Sum.inr a : Key) = Sum.inr b) = decide (a = b) := key_rr a b
theorem valV_dS (d : Num) (x : Str) : valV (dS d) (Sum.inr x) = (get? d x).map V.int := by
  unfold dS valV get?
  rw [List.find?_map]
  have : ((fun kv : Key × V => decide (kv.1 = Sum.inr x)) ∘ fun q : Str × Int => ((Sum.inr q.1 : Key), V.int q.2)) = fun q => decide (q.1 = x) := by
    funext q
    exact inr_dec _ _
  rw [this]
  cases d.find? fun q => decide (q.1 = x) <;> rfl
theorem putK_dS (d : Num) (x : Str) (i : Int) : putK (dS d) (Sum.inr x) (.int i) = dS (put d x i) := by
  unfold dS putK put
  rw [List.any_map]
  have : ((fun kv : Key × V => decide (kv.1 = Sum.inr x)) ∘ fun q : Str × Int => ((Sum.inr q.1 : Key), V.int q.2)) = fun q => decide (q.1 = x) := by
    funext q
    exact inr_dec _ _
  rw [this]
  split
  · rw [List.map_map, List.map_map]
    refine List.map_congr_left fun q _ => ?_
    show (if (Sum.inr q.1 : Key) = Sum.inr x then _ else _) = _
    by_cases e : q.1 = x
    · have e2 : (Sum.inr q.1 : Key) = Sum.inr x := congrArg _ e
      rw [if_pos e2]
      show _ = ((Sum.inr (if q.1 = x then (q.1, i) else q).1 : Key), V.int (if q.1 = x then (q.1, i) else q).2)
      rw [if_pos e]
    · have e2 : ¬ (Sum.inr q.1 : Key) = Sum.inr x := fun z => e (Sum.inr.inj z)
      rw [if_neg e2]
      show _ = ((Sum.inr (if q.1 = x then (q.1, i) else q).1 : Key), V.int (if q.1 = x then (q.1, i) else q).2)
      rw [if_neg e]
  · rw [List.map_append]
    rfl
theorem dS_len (d : Num) : (dS d).length = d.length := List.length_map ..
/-! ### targets, comprehensions -/
theorem gtup3 {K : PySem.W.Frag} {i j k : Nat} {t : Addr} {x y z : V} {σ : L2.St} {H : Hp} {Q : L2.St → Hp → Prop} (h : H t = some (.tup [x, y, z])) (q : Q (((σ.set i (some x)).set j (some y)).set k (some z)) H) :
    gTup K 3 (gCons (gName i) (gCons (gName j) (gCons (gName k) gNil))) (.ref t) σ H Q := ⟨t, _, rfl, SqT.of h, rfl, x, _, rfl, y, _, rfl, z, _, rfl, rfl, q⟩
theorem gtup2 {K : PySem.W.Frag} {i j : Nat} {t : Addr} {x y : V} {σ : L2.St} {H : Hp} {Q : L2.St → Hp → Prop} (h : H t = some (.tup [x, y])) (q : Q ((σ.set i (some x)).set j (some y)) H) :
    gTup K 2 (gCons (gName i) (gCons (gName j) gNil)) (.ref t) σ H Q := ⟨t, _, rfl, SqT.of h, rfl, x, _, rfl, y, _, rfl, rfl, q⟩
theorem filterMap_take {α β : Type} (f : α → Option β) (xs : List α) {i : Nat} {x : α} (h : xs[i]? = some x) : (xs.take (i + 1)).filterMap f = (xs.take i).filterMap f ++ (f x).toList := by
  rw [List.take_add_one, h, List.filterMap_append]
  show _ ++ List.filterMap f [x] = _
  rw [List.filterMap_cons]
  cases f x <;> rfl
/-- a comprehension that makes, item by item, what f says; the heap grows meanwhile -/
theorem lc_fm {Tb : List (Addr × Str)} {J : It} {n : Nat} {GG : Hp → Prop} {xs : List V} (wk : Walk J n GG (YAt xs)) (hn : n = xs.length) {g : TG} {tt : TT} {te : TE} {vs : List Nat} {σ : L2.St} {H1 : Hp} {D : Addr} {Qd : Hp → Prop} (f : V → Option V) (hD : H1 D = none) (hz : n ≤ 16777215)
    (hG : ∀ H, Gr Tb H1 H → GG H)
    (turn : ∀ (i : Nat) (x : V) (H : Hp), xs[i]? = some x → Gr Tb H1 H → ∀ (Rk : V → Hp → Prop) (Rs : Hp → Prop), (∀ y H4, f x = some y → Gr Tb H H4 → Rk y H4) → (∀ H4, f x = none → Gr Tb H H4 → Rs H4) →
      g x (wipe σ vs) H fun σ2 H2 => wipe σ2 vs = wipe σ vs ∧ tt σ2 H2 fun b H3 => if b = true then te σ2 H3 Rk else Rs H3)
    (done : ∀ H, Gr Tb H1 H → H D = some (.lst (xs.filterMap f)) → Qd H) :
    ∃ W : Nat → Nat → Hp → Prop, (∃ m, W 0 m (upd H1 D (.lst []))) ∧ ∀ i m H, W i m H →
      (J.stop i H ∧ Qd H) ∨ (J.go i H ∧ ∃ Nx : Hp → Prop, (∀ H', Nx H' → ∃ m', m' < m ∧ W (i + 1) m' H') ∧ ∀ x H', J.yld i H x H' → g x (wipe σ vs) H' fun σ2 H2 => wipe σ2 vs = wipe σ vs ∧ tt σ2 H2 fun b H3 =>
        if b = true then te σ2 H3 fun y H4 => ∃ acc, H4 D = some (.lst acc) ∧ acc.length < sizeLine ∧ Nx (upd H4 D (.lst (acc ++ [y]))) else Nx H3) := by
  have put : ∀ {H : Hp} {acc acc' : List V}, Gr Tb H1 H → H D = some (.lst acc) → Gr Tb H1 (upd H D (.lst acc')) := fun {H acc acc'} g hd => by
    refine ⟨fun b o e nt => ?_, fun t p hp => ?_⟩
    · rw [upd_ne (ne_of_none e hD)]
      exact g.ext b o e nt
    · obtain ⟨ps, b1, b2, b3⟩ := g.tab t p hp
      have na : p.1 ≠ D := ne_of b1 hd (fun z => by cases z)
      refine ⟨ps, by rw [upd_ne na]; exact b1, b2, fun po cv hc => ?_⟩
      obtain ⟨c', e1, e2⟩ := b3 po cv hc
      refine ⟨c', e1, ?_⟩
      rw [upd_ne (ne_of e2 hd (fun z => by unfold LamX.CodeO at z; cases z))]
      exact e2
  have h0 : Gr Tb H1 (upd H1 D (.lst [])) := Gr.new hD
  refine lc_it wk (fun i H => Gr Tb H1 H ∧ H D = some (.lst ((xs.take i).filterMap f))) ⟨h0, upd_same⟩ (fun i H _ p => hG H p.1) (fun i x H H' hi p y => ?_) (fun H p => ?_)
  · obtain ⟨rfl, hx⟩ := y
    refine turn i x H' hx p.1 _ _ (fun y H4 e gr => ?_) (fun H4 e gr => ?_)
    · have hd := gr.at p.2 .lst
      refine ⟨_, hd, ?_, put (p.1.trans gr) hd, ?_⟩
      · have l1 : ((xs.take i).filterMap f).length ≤ i := Nat.le_trans (List.length_filterMap_le _ _) (by rw [List.length_take]; omega)
        rw [sizeLine_eq]
        omega
      · rw [upd_same, filterMap_take f xs hx, e]
        rfl
    · refine ⟨p.1.trans gr, ?_⟩
      rw [filterMap_take f xs hx, e, gr.at p.2 .lst]
      simp
  · refine done H p.1 ?_
    have := p.2
    rw [hn, List.take_length] at this
    exact this
/-- the signs of a text, each as a text -/
def signs (z : Str) : List V := z.cps.toList.map fun c => V.str ⟨#[c]⟩
theorem walk_text {z : Str} : Walk (Its z) (signs z).length (fun _ => True) (YAt (signs z)) := by
  have e : (signs z).length = z.cps.size := by
    unfold signs
    rw [List.length_map, Array.length_toList]
  rw [e]
  refine walk_str.mono (fun _ h => h) fun i H v H' hi _ y => ?_
  obtain ⟨h1, c, h2, h3⟩ := y
  refine ⟨h1, ?_⟩
  unfold signs
  rw [List.getElem?_map, Array.getElem?_toList, h2, h3]
  rfl
/-- all([c in z for c in x]) -/
theorem rd_allIn {Tb : List (Addr × Str)} {K : PySem.W.Frag} {i : Nat} {x z : Str} {σ : L2.St} {H : Hp} {Q : VK} (h0 : σ[0]? = some (some (.str x))) (hw : (wipe σ [i]).length = σ.length) (hi : i < σ.length) (hz : x.length ≤ 1000000)
    (k : ∀ H', Gr Tb H H' → Q (.bl (x.cps.toList.all fun c => decide (c ∈ z.cps.toList))) H') :
    tCB (rAll K) (tCons (tLc (iStr (tVar 0)) (gName i) tYes (tOp (fun x y H Q => ∃ (c : Nat) (z : Str), x = V.str ⟨#[c]⟩ ∧ y = V.str z ∧ Q (V.bl (decide (c ∈ z.cps.toList))) H) (tVar i) (tC (V.str z))) [i]) tNil) σ H Q := by
  refine ⟨_, h0, x, rfl, fun D hD => lc_fm (Tb := Tb) (xs := signs x) walk_text rfl (fun v => match v with | .str y => some (.bl (decide (y.cps.getD 0 0 ∈ z.cps.toList))) | _ => none) hD ?_ (fun _ _ => trivial) (fun j v H' hv _ Rk Rs hk hs => ?_) fun H' g hd => ?_⟩
  · unfold signs
    rw [List.length_map, Array.length_toList]
    have : x.cps.size = x.length := rfl
    omega
  · unfold signs at hv
    rw [List.getElem?_map] at hv
    cases hc : x.cps.toList[j]? with
    | none =>
      rw [hc] at hv
      cases hv
    | some c =>
      rw [hc] at hv
      cases hv
      refine ⟨?_, V.str ⟨#[c]⟩, ?_, c, z, rfl, rfl, hk _ _ ?_ (Gr.refl _)⟩
      · show List.set (List.set (List.set σ i none) i (some (V.str ⟨#[c]⟩))) i none = List.set σ i none
        rw [List.set_set, List.set_set]
      · rw [List.getElem?_set_self (by rw [hw]; exact hi)]
      · simp
  · refine ⟨D, x.cps.toList.map fun c => decide (c ∈ z.cps.toList), rfl, ?_, ?_⟩
    · have e : (signs x).filterMap (fun v => match v with | .str y => some (V.bl (decide (y.cps.getD 0 0 ∈ z.cps.toList))) | _ => none) = (x.cps.toList.map fun c => decide (c ∈ z.cps.toList)).map V.bl := by
        unfold signs
        rw [List.filterMap_map, List.map_map, ← List.filterMap_eq_map]
        rfl
      rw [e] at hd
      exact SqL.of hd
    · have e : (x.cps.toList.map fun c => decide (c ∈ z.cps.toList)).all id = x.cps.toList.all fun c => decide (c ∈ z.cps.toList) := by
        rw [List.all_map]
        rfl
      rw [e]
      exact k H' g
/-! ### a list beside an empty one -/
def rNil (K : PySem.W.Frag) (neg : Bool) : R2 := fun x y H Q => ∃ (a b : Addr) (xs : List V), x = .ref a ∧ y = .ref b ∧ SqL K H a xs ∧ SqL K H b [] ∧ Q (.bl (if neg then !xs.isEmpty else xs.isEmpty)) H
section
variable {X : Cx}
theorem op_eqNil (hu : X.A.units + 64 < cLine) : OpR X (compareOp .Eq) (rNil X.K false) := by
  intro pins s σ H x y v u Q I rx ry h
  obtain ⟨a, b, xs, rfl, rfl, hx, hy, q⟩ := h
  obtain rfl : v = Value.ref a := rx
  obtain rfl : u = Value.ref b := ry
  obtain ⟨its, r1, p1, _⟩ := I.list hx
  obtain ⟨its2, r2, p2, _⟩ := I.list hy
  cases r2
  cases xs with
  | nil =>
    cases r1
    exact SeqAt.eq_listAt (e := fun _ => true) p1.isList p2.isList rfl (by omega) (fun j h1 => absurd h1 (by simp)) ⟨.bl true, H, I, rfl, q⟩
  | cons z zs =>
    cases r1
    exact SeqAt.eq_list_lengthsAt p1.isList p2.isList (by simp) (by omega) ⟨.bl false, H, I, rfl, q⟩
theorem op_neNil (hu : X.A.units + 64 < cLine) : OpR X (compareOp .NotEq) (rNil X.K true) := by
  intro pins s σ H x y v u Q I rx ry h
  obtain ⟨a, b, xs, rfl, rfl, hx, hy, q⟩ := h
  obtain rfl : v = Value.ref a := rx
  obtain rfl : u = Value.ref b := ry
  obtain ⟨its, r1, p1, _⟩ := I.list hx
  obtain ⟨its2, r2, p2, _⟩ := I.list hy
  cases r2
  cases xs with
  | nil =>
    cases r1
    exact SeqAt.RcNeAt.lists (e := fun _ => true) p1.isList p2.isList rfl (by omega) (fun j h1 => absurd h1 (by simp)) _ _ _ _ ⟨.bl false, H, I, rfl, q⟩
  | cons z zs =>
    cases r1
    exact SeqAt.RcNeAt.lists_lengths p1.isList p2.isList (by simp) (by omega) _ _ _ _ ⟨.bl true, H, I, rfl, q⟩
end
/-- the reading: x beside a new empty list -/
theorem rd_nil {K : PySem.W.Frag} {neg : Bool} {a : Addr} {xs : List V} {σ : L2.St} {H : Hp} {Q : VK} (h : SqL K H a xs) (k : ∀ p, H p = none → Q (.bl (if neg then !xs.isEmpty else xs.isEmpty)) (upd H p (.lst []))) :
    tLst tNil σ H fun y H2 => rNil K neg (.ref a) y H2 Q := ⟨Nat.zero_le _, fun p hp => ⟨a, p, xs, rfl, rfl, (Same.upd hp).seq h, SqL.of upd_same, k p hp⟩⟩
/-- while, the test apart from the body: Pv ahead of the test, PT behind a true one, PF behind a false one -/
theorem while_cps {c : TT} {tb : TS} {D : Ends} {σ : L2.St} {H : Hp} (Pv PT PF : Nat → L2.St → Hp → Prop) (m0 : Nat) (h0 : Pv m0 σ H)
    (test : ∀ m σ H, Pv m σ H → ∀ R : Bool → Hp → Prop, (∀ H1, PT m σ H1 → R true H1) → (∀ H1, PF m σ H1 → R false H1) → c σ H R)
    (body : ∀ m σ H, PT m σ H → tb { D with nx := fun σ' H' => ∃ m', m' < m ∧ Pv m' σ' H', ct := fun σ' H' => ∃ m', m' < m ∧ Pv m' σ' H', bk := D.nx } σ H) (done : ∀ m σ H, PF m σ H → D.nx σ H) : tWhile c tb D σ H := by
  refine ⟨Pv, ⟨m0, h0⟩, fun m σ H p => ?_⟩
  refine test m σ H p _ (fun H1 q => ?_) (fun H1 q => ?_)
  · show (if true = true then _ else _)
    rw [if_pos rfl]
    exact ⟨_, fun _ _ n => n, body m σ H1 q⟩
  · show (if false = true then _ else _)
    rw [if_neg Bool.false_ne_true]
    exact done m σ H1 q
/-- the first item of the tuple that stands at v -/
def itemAt (H : Hp) (i : Nat) : V → Option V
  | .ref t => match H t with
    | some (.tup xs) => xs[i]?
    | _ => none
  | _ => none
theorem itemAt_tup {H : Hp} {t : Addr} {xs : List V} {i : Nat} (h : H t = some (.tup xs)) : itemAt H i (.ref t) = xs[i]? := by
  show (match H t with
    | some (.tup xs) => xs[i]?
    | _ => none) = xs[i]?
  rw [h]
theorem fm_paired {α β γ : Type} {R : α → β → Prop} {f : α → Option γ} {g : β → γ} (hf : ∀ a b, R a b → f a = some (g b)) : ∀ {xs : List α} {ys : List β}, Paired R xs ys → xs.filterMap f = ys.map g
  | _, _, .nil => rfl
  | x :: xs, y :: ys, .cons a t => by
    rw [List.filterMap_cons, hf _ _ a, fm_paired hf t]
    rfl
theorem fm_pairedO {α β γ : Type} {R : α → β → Prop} {f : α → Option γ} {g : β → Option γ} (hf : ∀ a b, R a b → f a = g b) : ∀ {xs : List α} {ys : List β}, Paired R xs ys → xs.filterMap f = ys.filterMap g
  | _, _, .nil => rfl
  | x :: xs, y :: ys, .cons a t => by
    rw [List.filterMap_cons, List.filterMap_cons, hf _ _ a, fm_pairedO hf t]
/-- the index of an item from the start -/
theorem seq_ix {r : Int} {n : Nat} (h0 : 0 ≤ r) (h1 : r < n) : seqIndex? r n = some r.toNat := by
  unfold seqIndex?
  rw [if_neg (show ¬ r < 0 by omega)]
  simp
  exact ⟨h0, h1⟩
theorem perm_map {α β : Type} (f : α → β) {ys : List β} {xs : List α} (p : ys.Perm (xs.map f)) : ∃ zs : List α, ys = zs.map f ∧ zs.Perm xs := by
  have h : Paired (fun y x => y = f x) (xs.map f) xs := by
    clear p
    induction xs with
    | nil => exact .nil
    | cons x xs ih => exact .cons rfl ih
  obtain ⟨zs, p1, h1⟩ := Paired.perm p h
  refine ⟨zs, ?_, p1⟩
  clear p p1 h
  induction h1 with
  | nil => rfl
  | cons a _ ih => rw [List.map_cons, ← a, ← ih]
theorem pick_at {α : Type} {xs : List α} {r : Int} (h0 : 0 ≤ r) (h1 : r < xs.length) : ∃ y ∈ xs, atI xs r = some y := by
  obtain ⟨j, rfl⟩ := Int.eq_ofNat_of_zero_le h0
  have hj : j < xs.length := by omega
  exact ⟨xs[j], List.getElem_mem _, atI_nat (List.getElem?_eq_getElem hj)⟩
theorem pick_int {xs : List V} (is : List Int) {r : Int} {P : Int → Prop} (e : xs = is.map V.int) (h0 : 0 ≤ r) (h1 : r < is.length) (hp : ∀ i ∈ is, P i) : ∃ i, atI xs r = some (.int i) ∧ P i := by
  subst e
  obtain ⟨y, hy, e⟩ := pick_at (xs := is.map V.int) h0 (by rw [List.length_map]; exact h1)
  obtain ⟨i, hi, rfl⟩ := List.mem_map.mp hy
  exact ⟨i, e, hp i hi⟩
theorem cut_take {xs : List V} {k : Int} (h : 0 ≤ k) : cutV xs none (some k) = xs.take k.toNat := by
  obtain ⟨j, rfl⟩ := Int.eq_ofNat_of_zero_le h
  unfold cutV
  rw [HT.sIx_nat, HT.sIx_none]
  show List.take (min j xs.length - 0) xs = List.take j xs
  rw [Nat.sub_zero]
  rcases Nat.le_total j xs.length with z | z
  · rw [Nat.min_eq_left z]
  · rw [Nat.min_eq_right z, List.take_length, List.take_of_length_le z]
/-- what is known behind an expression -/
theorem rd_post {t : TE} {σ : L2.St} {H : Hp} {Q : VK} (P : V → Hp → Prop) (h : ∀ Q' : VK, (∀ x H', P x H' → Q' x H') → t σ H Q') (k : ∀ x H', P x H' → Q x H') : t σ H Q := h Q k
theorem goN {i : Nat} {x : V} {σ : L2.St} {H : Hp} {Q : L2.St → Hp → Prop} (h : Q (σ.set i (some x)) H) : gName i x σ H Q := h
/-- x = e; then the rest: what is known behind e -/
theorem sq_asg {t : TE} {i : Nat} {u : TS} {D : Ends} {σ : L2.St} {H : Hp} (P : V → Hp → Prop) (h : ∀ Q' : VK, (∀ x H', P x H' → Q' x H') → t σ H Q') (k : ∀ x H', P x H' → u D (σ.set i (some x)) H') : tSeq (tAsg t (gName i)) u D σ H := h _ k
/-- t; then the rest: what is known behind t -/
theorem sq_st {t u : TS} {D : Ends} {σ : L2.St} {H : Hp} (P : L2.St → Hp → Prop) (h : ∀ N : L2.St → Hp → Prop, (∀ σ' H', P σ' H' → N σ' H') → t { D with nx := N } σ H) (k : ∀ σ' H', P σ' H' → u D σ' H') : tSeq t u D σ H := h _ k
theorem Paired.flip {α β : Type} {R : α → β → Prop} : ∀ {xs : List α} {ys : List β}, Paired R xs ys → Paired (fun y x => R x y) ys xs
  | _, _, .nil => .nil
  | _, _, .cons a t => .cons a (Paired.flip t)
theorem Paired.trans {α β γ : Type} {R : α → β → Prop} {S : β → γ → Prop} : ∀ {xs : List α} {ys : List β} {zs : List γ}, Paired R xs ys → Paired S ys zs → Paired (fun x z => ∃ y, R x y ∧ S y z) xs zs
  | _, _, _, .nil, .nil => .nil
  | _, _, _, .cons a t, .cons b u => .cons ⟨_, a, b⟩ (Paired.trans t u)
/-- a list that is not yet known is written -/
theorem Gr.put {Tb : List (Addr × Str)} {H1 H : Hp} {D : Addr} {acc acc' : List V} (hD : H1 D = none) (g : Gr Tb H1 H) (hd : H D = some (.lst acc)) : Gr Tb H1 (upd H D (.lst acc')) := g.mut (.of hD) hd .lst
/-- a comprehension that makes, item by item, something that R tells of; the heap grows meanwhile -/
theorem lc_rel {Tb : List (Addr × Str)} {J : It} {n : Nat} {GG : Hp → Prop} {xs : List V} (wk : Walk J n GG (YAt xs)) (hn : n = xs.length) {g : TG} {tt : TT} {te : TE} {vs : List Nat} {σ : L2.St} {H1 : Hp} {D : Addr} {Qd : Hp → Prop} (keep : V → Bool) (R : Hp → V → V → Prop)
    (mono : ∀ H H' x y, (∀ a o, NoTab o → (∀ l, o ≠ .lst l) ∨ a ≠ D → H a = some o → H' a = some o) → R H x y → R H' x y) (hD : H1 D = none) (hz : n ≤ 16777215)
    (hG : ∀ H, Gr Tb H1 H → GG H)
    (turn : ∀ (i : Nat) (x : V) (H : Hp), xs[i]? = some x → Gr Tb H1 H → H D ≠ none → ∀ (Rk : V → Hp → Prop) (Rs : Hp → Prop), (∀ y H4, keep x = true → Gr Tb H H4 → R H4 x y → Rk y H4) → (∀ H4, keep x = false → Gr Tb H H4 → Rs H4) →
      g x (wipe σ vs) H fun σ2 H2 => wipe σ2 vs = wipe σ vs ∧ tt σ2 H2 fun b H3 => if b = true then te σ2 H3 Rk else Rs H3)
    (done : ∀ H ys, Gr Tb H1 H → H D = some (.lst ys) → Paired (R H) (xs.filter keep) ys → Qd H) :
    ∃ W : Nat → Nat → Hp → Prop, (∃ m, W 0 m (upd H1 D (.lst []))) ∧ ∀ i m H, W i m H →
      (J.stop i H ∧ Qd H) ∨ (J.go i H ∧ ∃ Nx : Hp → Prop, (∀ H', Nx H' → ∃ m', m' < m ∧ W (i + 1) m' H') ∧ ∀ x H', J.yld i H x H' → g x (wipe σ vs) H' fun σ2 H2 => wipe σ2 vs = wipe σ vs ∧ tt σ2 H2 fun b H3 =>
        if b = true then te σ2 H3 fun y H4 => ∃ acc, H4 D = some (.lst acc) ∧ acc.length < sizeLine ∧ Nx (upd H4 D (.lst (acc ++ [y]))) else Nx H3) := by
  have h0 : Gr Tb H1 (upd H1 D (.lst [])) := Gr.new hD
  refine lc_it wk (fun i H => Gr Tb H1 H ∧ ∃ ys, H D = some (.lst ys) ∧ Paired (R H) ((xs.take i).filter keep) ys) ⟨h0, [], upd_same, by rw [List.take_zero]; exact .nil⟩ (fun i H _ p => hG H p.1) (fun i x H H' hi p y => ?_) (fun H p => ?_)
  · obtain ⟨rfl, hx⟩ := y
    obtain ⟨g1, ys, hd, pr⟩ := p
    have tk : (xs.take (i + 1)).filter keep = (xs.take i).filter keep ++ [x].filter keep := by
      rw [List.take_add_one, hx, List.filter_append]
      rfl
    refine turn i x H' hx g1 (by rw [hd]; exact fun z => by cases z) _ _ (fun y H4 e gr r => ?_) (fun H4 e gr => ?_)
    · have hd4 := gr.at hd .lst
      have hle : ys.length ≤ i := by
        rw [← Paired.len pr]
        exact Nat.le_trans (List.length_filter_le _ _) (by rw [List.length_take]; omega)
      refine ⟨_, hd4, by rw [sizeLine_eq]; omega, Gr.put hD (g1.trans gr) hd4, ys ++ [y], upd_same, ?_⟩
      rw [tk, List.filter_cons, if_pos e, List.filter_nil]
      have m2 : ∀ x z, R H4 x z → R (upd H4 D (.lst (ys ++ [y]))) x z := fun x z r => mono H4 _ x z (fun a o _ ha q => by
        rw [upd_ne]
        · exact q
        · rcases ha with ha | ha
          · exact fun e => by
              rw [e, hd4] at q
              cases q
              exact ha _ rfl
          · exact ha) r
      exact Paired.snoc (m2 x y r) (Paired.imp (fun a b r' => m2 a b (mono H' H4 a b (fun a o nt _ q => gr.at q nt) r')) pr)
    · refine ⟨g1.trans gr, ys, gr.at hd .lst, ?_⟩
      rw [tk, List.filter_cons, if_neg (by rw [e]; exact Bool.false_ne_true), List.filter_nil, List.append_nil]
      exact Paired.imp (fun a b r' => mono H' H4 a b (fun a o nt _ q => gr.at q nt) r') pr
  · obtain ⟨g1, ys, hd, pr⟩ := p
    rw [hn, List.take_length] at pr
    exact done H ys g1 hd pr
/-- [entry[0] for entry in ..] -/
theorem lc_names {Tb : List (Addr × Str)} {K : PySem.W.Frag} {a : Addr} {ys : List V} {es : List Ent} {i : Nat} {σ : L2.St} {H1 : Hp} {D : Addr} {Qd : Hp → Prop} (ha : SqL K H1 a ys) (hc : CatAt H1 ys es) (hz : es.length ≤ 100000) (hD : H1 D = none) (hi : (σ.set i none)[i]? = some none)
    (k : ∀ H', Gr Tb H1 H' → H' D = some (.lst ((es.map (·.name)).map V.str)) → Qd H') :
    ∃ W : Nat → Nat → Hp → Prop, (∃ m, W 0 m (upd H1 D (.lst []))) ∧ ∀ j m H, W j m H →
      ((Itl K a).stop j H ∧ Qd H) ∨ ((Itl K a).go j H ∧ ∃ Nx : Hp → Prop, (∀ H', Nx H' → ∃ m', m' < m ∧ W (j + 1) m' H') ∧ ∀ x H', (Itl K a).yld j H x H' → gName i x (wipe σ [i]) H' fun σ2 H2 => wipe σ2 [i] = wipe σ [i] ∧ tYes σ2 H2 fun b H3 =>
        if b = true then (tOp (rIxT K) (tVar i) (tC (.int 0))) σ2 H3 fun y H4 => ∃ acc, H4 D = some (.lst acc) ∧ acc.length < sizeLine ∧ Nx (upd H4 D (.lst (acc ++ [y]))) else Nx H3) := by
  have hl := Paired.len hc
  have hil : i < σ.length := by
    have := (List.getElem?_eq_some_iff.mp hi).1
    rwa [List.length_set] at this
  refine lc_fm (Tb := Tb) (xs := ys) walk_list rfl (itemAt H1 0) hD (by omega) (fun H' g => g.ext_seq ha) (fun j v H' hv g Rk Rs hk hs => ?_) fun H' g hD' => ?_
  · obtain ⟨e, he, t, lp, rfl, h1, h2⟩ := Paired.at hc hv
    have e1 : wipe ((wipe σ [i]).set i (some (V.ref t))) [i] = wipe σ [i] := by
      show List.set (List.set (List.set σ i none) i (some (V.ref t))) i none = List.set σ i none
      rw [List.set_set, List.set_set]
    have e2 : ((wipe σ [i]).set i (some (V.ref t)))[i]? = some (some (V.ref t)) := by
      show (List.set (List.set σ i none) i (some (V.ref t)))[i]? = _
      rw [List.getElem?_set_self (by rw [List.length_set]; exact hil)]
    exact ⟨e1, _, e2, t, _, _, _, rfl, rfl, SqT.of (g.at h1 .tup), atI_nat (j := 0) rfl, hk _ _ (by rw [itemAt_tup h1]; rfl) (Gr.refl _)⟩
  · have e : ys.filterMap (itemAt H1 0) = (es.map (·.name)).map V.str := by
      rw [List.map_map]
      exact fm_paired (fun v e ⟨t, lp, h0, h1, h2⟩ => by rw [h0, itemAt_tup h1]; rfl) hc
    rw [e] at hD'
    exact k H' g hD'
end Sk
/-! dicts of numbers -/
namespace Sk
open PySem PySem.Spec PyProof.Rows L2
/-- f at the names of es -/
def numOf (es : List Ent) (f : Str → Int) : Num := es.map fun e => (e.name, f e.name)
def upF (f : Str → Int) (x : Str) (i : Int) : Str → Int := fun y => if y = x then i else f y
theorem numOf_names (es : List Ent) (f : Str → Int) : (numOf es f).map (·.1) = es.map (·.name) := by
  unfold numOf
  rw [List.map_map]
  rfl
theorem numOf_len (es : List Ent) (f : Str → Int) : (numOf es f).length = es.length := List.length_map ..
theorem get?_numOf {f : Str → Int} {x : Str} : ∀ {es : List Ent}, x ∈ es.map (·.name) → get? (numOf es f) x = some (f x)
  | [], h => by cases h
  | e :: es, h => by
    unfold numOf get?
    rw [List.map_cons, List.find?_cons]
    by_cases q : e.name = x
    · rw [show decide ((e.name, f e.name).1 = x) = true from decide_eq_true q, ← q]
      rfl
    · rw [show decide ((e.name, f e.name).1 = x) = false from decide_eq_false q]
      rw [List.map_cons] at h
      exact get?_numOf ((List.mem_cons.mp h).resolve_left fun z => q z.symm)
theorem get?_none {d : Num} {x : Str} (h : x ∉ d.map (·.1)) : get? d x = none := by
  unfold get?
  rw [List.find?_eq_none.mpr fun q hq => by
    rw [decide_eq_true_eq]
    exact fun e => h (List.mem_map.mpr ⟨q, hq, e⟩)]
  rfl
theorem getD_numOf {es : List Ent} {f : Str → Int} {x : Str} (h : x ∈ es.map (·.name)) : getD (numOf es f) x = f x := by
  unfold getD
  rw [get?_numOf h]
  rfl
theorem getD_none {d : Num} {x : Str} (h : x ∉ d.map (·.1)) : getD d x = 0 := by
  unfold getD
  rw [get?_none h]
  rfl
theorem put_numOf {es : List Ent} {f : Str → Int} {x : Str} {i : Int} (h : x ∈ es.map (·.name)) : put (numOf es f) x i = numOf es (upF f x i) := by
  unfold put
  rw [if_pos]
  · unfold numOf upF
    rw [List.map_map]
    refine List.map_congr_left fun e _ => ?_
    show (if e.name = x then (e.name, i) else (e.name, f e.name)) = (e.name, if e.name = x then i else f e.name)
    split <;> rfl
  · rw [List.any_eq_true]
    obtain ⟨e, he, q⟩ := List.mem_map.mp h
    exact ⟨(e.name, f e.name), List.mem_map.mpr ⟨e, he, rfl⟩, decide_eq_true q⟩
theorem numOf_congr {es : List Ent} {f g : Str → Int} (h : ∀ e ∈ es, f e.name = g e.name) : numOf es f = numOf es g := List.map_congr_left fun e he => by rw [h e he]
/-! ### d[x], d.get(x, 0), d[x] = i -/
theorem dgetO {H : Hp} {a : Addr} {d : Num} (h : H a = some (.dK (dS d))) (x : Str) : DGet H a (.str x) ((get? d x).map V.int) := by
  have := DGet.k (k := Sum.inr x) h
  rw [valV_dS] at this
  exact this
theorem dgetS {H : Hp} {a : Addr} {d : Num} {x : Str} {i : Int} (h : H a = some (.dK (dS d))) (e : get? d x = some i) : DGet H a (.str x) (some (.int i)) := by
  have := dgetO h x
  rw [e] at this
  exact this
theorem getO (d : Num) (x : Str) : ((get? d x).map V.int).getD (.int 0) = .int (getD d x) := by
  unfold getD
  cases get? d x <;> rfl
/-- d.get(x, 0), what is known -/
theorem dget2 {H : Hp} {a : Addr} {d : Num} {x : Str} {Q : VK} (h : H a = some (.dK (dS d))) (q : Q (.int (getD d x)) H) : ∃ o, DGet H a (.str x) o ∧ Q (o.getD (.int 0)) H := ⟨_, dgetO h x, by rw [getO]; exact q⟩
theorem dputS {H : Hp} {a : Addr} {d : Num} {x : Str} {i : Int} (h : H a = some (.dK (dS d))) (hz : d.length < sizeLine) : DPut H a (.str x) (.int i) (upd H a (.dK (dS (put d x i)))) := .inl ⟨_, Sum.inr x, h, rfl, by rw [dS_len]; exact hz, by rw [putK_dS]⟩
theorem IsD.num {H : Hp} {a : Addr} {d : Num} (h : H a = some (.dK (dS d))) : IsD H a := .inl ⟨_, .inl h⟩
/-! ### a dict comprehension of numbers -/
def putAll (d : Num) (l : Num) : Num := l.foldl (fun d q => put d q.1 q.2) d
theorem put_new' {d : Num} {x : Str} {i : Int} (h : x ∉ d.map (·.1)) : put d x i = d ++ [(x, i)] := by
  unfold put
  rw [if_neg]
  rw [List.any_eq_true]
  rintro ⟨q, hq, e⟩
  exact h (List.mem_map.mpr ⟨q, hq, by simpa using e⟩)
theorem putAll_new : ∀ (l d : Num), ((d ++ l).map (·.1)).Nodup → putAll d l = d ++ l
  | [], d, _ => (List.append_nil d).symm
  | q :: l, d, h => by
    have e : d ++ q :: l = (d ++ [q]) ++ l := by rw [List.append_assoc]; rfl
    rw [e] at h
    have hn : q.1 ∉ d.map (·.1) := by
      rw [List.map_append, List.map_append, List.append_assoc] at h
      have h2 := (List.nodup_append.mp h).2.2
      exact fun hm => h2 _ hm _ (List.mem_append_left _ (List.mem_map.mpr ⟨q, List.mem_singleton.mpr rfl, rfl⟩)) rfl
    show putAll (put d q.1 q.2) l = _
    rw [put_new' hn, putAll_new l _ h, e]
theorem put_len (d : Num) (x : Str) (i : Int) : (put d x i).length ≤ d.length + 1 := by
  unfold put
  split
  · rw [List.length_map]
    omega
  · rw [List.length_append]
    exact Nat.le_refl _
theorem putAll_len : ∀ (l d : Num), (putAll d l).length ≤ d.length + l.length
  | [], d => Nat.le_refl _
  | q :: l, d => by
    have h1 := putAll_len l (put d q.1 q.2)
    have h2 := put_len d q.1 q.2
    rw [List.length_cons]
    show (putAll (put d q.1 q.2) l).length ≤ _
    omega
theorem Gr.putD {Tb : List (Addr × Str)} {H1 H : Hp} {D : Addr} {acc acc' : List (Key × V)} (hD : H1 D = none) (g : Gr Tb H1 H) (hd : H D = some (.dK acc)) : Gr Tb H1 (upd H D (.dK acc')) := g.mut (.of hD) hd .dK
/-- a dict comprehension that makes, item by item, what f says; the heap grows meanwhile -/
theorem dc_fm {Tb : List (Addr × Str)} {J : It} {n : Nat} {GG : Hp → Prop} {xs : List V} (wk : Walk J n GG (YAt xs)) (hn : n = xs.length) {g : TG} {tt : TT} {tk tv : TE} {vs : List Nat} {σ : L2.St} {H1 : Hp} {D : Addr} {Qd : Hp → Prop} (f : V → Option (Str × Int)) (hD : H1 D = none) (hz : n ≤ 100000)
    (hG : ∀ H, Gr Tb H1 H → GG H)
    (turn : ∀ (i : Nat) (x : V) (H : Hp), xs[i]? = some x → Gr Tb H1 H → ∀ (Rk : V → V → Hp → Prop) (Rs : Hp → Prop), (∀ q H4, f x = some q → Gr Tb H H4 → Rk (.str q.1) (.int q.2) H4) → (∀ H4, f x = none → Gr Tb H H4 → Rs H4) →
      g x (wipe σ vs) H fun σ2 H2 => wipe σ2 vs = wipe σ vs ∧ tt σ2 H2 fun b H3 => if b = true then tk σ2 H3 fun y H4 => tv σ2 H4 fun z H5 => Rk y z H5 else Rs H3)
    (done : ∀ H, Gr Tb H1 H → H D = some (.dK (dS (putAll [] (xs.filterMap f)))) → Qd H) :
    ∃ W : Nat → Nat → Hp → Prop, (∃ m, W 0 m (upd H1 D (.dK []))) ∧ ∀ i m H, W i m H →
      (J.stop i H ∧ Qd H) ∨ (J.go i H ∧ ∃ Nx : Hp → Prop, (∀ H', Nx H' → ∃ m', m' < m ∧ W (i + 1) m' H') ∧ ∀ x H', J.yld i H x H' → g x (wipe σ vs) H' fun σ2 H2 => wipe σ2 vs = wipe σ vs ∧ tt σ2 H2 fun b H3 =>
        if b = true then tk σ2 H3 fun y H4 => tv σ2 H4 fun z H5 => ∃ kvs k, y = kV k ∧ H5 D = some (.dK kvs) ∧ kvs.length < sizeLine ∧ Nx (upd H5 D (.dK (putK kvs k z))) else Nx H3) := by
  have h0 : Gr Tb H1 (upd H1 D (.dK [])) := Gr.new hD
  let P : Nat → Hp → Prop := fun i H => Gr Tb H1 H ∧ H D = some (.dK (dS (putAll [] ((xs.take i).filterMap f))))
  refine ⟨fun i m H => m = n - i ∧ i ≤ n ∧ P i H, ⟨n, rfl, Nat.zero_le _, h0, by rw [List.take_zero]; exact upd_same⟩, ?_⟩
  rintro i m H ⟨rfl, hi, p⟩
  have q := hG H p.1
  by_cases hlt : i < n
  · refine .inr ⟨wk.goes i H hlt q, P (i + 1), fun H' p' => ⟨n - (i + 1), by omega, rfl, hlt, p'⟩, fun x H' y => ?_⟩
    obtain ⟨rfl, hx⟩ := wk.yields i H x H' hlt q y
    obtain ⟨g1, hd⟩ := p
    have lle : (putAll [] ((xs.take i).filterMap f)).length ≤ 100000 := by
      have h1 := putAll_len ((xs.take i).filterMap f) []
      have h2 : ((xs.take i).filterMap f).length ≤ i := Nat.le_trans (List.length_filterMap_le _ _) (by rw [List.length_take]; omega)
      have h3 : ([] : Num).length = 0 := rfl
      omega
    refine turn i x H' hx g1 (fun y z H5 => ∃ kvs k, y = kV k ∧ H5 D = some (.dK kvs) ∧ kvs.length < sizeLine ∧ P (i + 1) (upd H5 D (.dK (putK kvs k z)))) (P (i + 1)) (fun q H4 e gr => ?_) (fun H4 e gr => ?_)
    · have hd4 := gr.at hd .dK
      refine ⟨_, Sum.inr q.1, rfl, hd4, ?_, Gr.putD hD (g1.trans gr) hd4, ?_⟩
      · rw [dS_len, sizeLine_eq]
        omega
      · rw [upd_same, filterMap_take f xs hx, e, putK_dS]
        unfold putAll
        rw [Option.toList_some, List.foldl_append]
        rfl
    · refine ⟨g1.trans gr, ?_⟩
      rw [filterMap_take f xs hx, e, gr.at hd .dK]
      simp
  · have e : i = n := by omega
    subst e
    refine .inl ⟨wk.stops H q, done H p.1 ?_⟩
    have := p.2
    rw [hn, List.take_length] at this
    exact this
/-! ### numbers grow -/
def addAll (f : Str → Int) (l : Num) : Str → Int := l.foldl (fun f q => upF f q.1 (f q.1 + q.2)) f
theorem addAll_append (f : Str → Int) (l m : Num) : addAll f (l ++ m) = addAll (addAll f l) m := List.foldl_append ..
theorem addAll_snoc (f : Str → Int) (l : Num) (q : Str × Int) : addAll f (l ++ [q]) = upF (addAll f l) q.1 (addAll f l q.1 + q.2) := by
  rw [addAll_append]
  rfl
def amt (l : Num) (x : Str) : Int := (l.map fun q => if q.1 = x then q.2 else 0).sum
def ones (l : List Str) : Num := l.map fun p => (p, 1)
theorem amt_cons (q : Str × Int) (l : Num) (x : Str) : amt (q :: l) x = (if q.1 = x then q.2 else 0) + amt l x := by
  unfold amt
  rw [List.map_cons, List.sum_cons]
theorem amt_append (l m : Num) (x : Str) : amt (l ++ m) x = amt l x + amt m x := by
  induction l with
  | nil =>
    show amt m x = 0 + amt m x
    omega
  | cons q l ih =>
    rw [List.cons_append, amt_cons, amt_cons, ih]
    omega
theorem addAll_at : ∀ (l : Num) (f : Str → Int) (x : Str), addAll f l x = f x + amt l x
  | [], f, x => by
    show f x = f x + 0
    omega
  | q :: l, f, x => by
    show addAll (upF f q.1 (f q.1 + q.2)) l x = _
    rw [addAll_at l, amt_cons]
    unfold upF
    by_cases h : x = q.1
    · rw [if_pos h, if_pos h.symm, h]
      omega
    · rw [if_neg h, if_neg fun z => h z.symm]
      omega
/-- what the splits add: to each part, for each entry -/
def incs (es : List Ent) (f : Str → Int) : Num := es.flatMap fun e => e.parts.map fun p => (p, f e.name)
theorem incs_snoc {es : List Ent} {f : Str → Int} {i : Nat} {e : Ent} (h : es[i]? = some e) : incs (es.take (i + 1)) f = incs (es.take i) f ++ e.parts.map fun p => (p, f e.name) := by
  unfold incs
  rw [List.take_add_one, h, List.flatMap_append]
  simp
/-- the pieces of each kind: of the stock, of the splits -/
def pn (es : List Ent) (st sp : Num) : Str → Int := addAll (getD st) (incs es (getD sp))
theorem amt_perm {es es' : List Ent} (p : es'.Perm es) (f : Str → Int) (x : Str) : amt (incs es' f) x = amt (incs es f) x := by
  induction p with
  | nil => rfl
  | cons e _ ih =>
    unfold incs at ih ⊢
    rw [List.flatMap_cons, List.flatMap_cons, amt_append, amt_append, ih]
  | swap a b l =>
    unfold incs
    rw [List.flatMap_cons, List.flatMap_cons, List.flatMap_cons, List.flatMap_cons, amt_append, amt_append, amt_append, amt_append]
    omega
  | trans _ _ h1 h2 => rw [h1, h2]
theorem pn_at (es : List Ent) (st sp : Num) (x : Str) : pn es st sp x = getD st x + amt (incs es (getD sp)) x := addAll_at _ _ _
theorem pn_perm {es es' : List Ent} (p : es'.Perm es) (st sp : Num) : pn es' st sp = pn es st sp := by
  funext x
  rw [pn_at, pn_at, amt_perm p]
/-- a dict comprehension over anything, by the turn's number -/
theorem dc_gen {Tb : List (Addr × Str)} {J : It} {n : Nat} {GG : Hp → Prop} {Y : Nat → Hp → V → Hp → Prop} (wk : Walk J n GG Y) {g : TG} {tt : TT} {tk tv : TE} {vs : List Nat} {σ : L2.St} {H1 : Hp} {D : Addr} {Qd : Hp → Prop} (F : Nat → Option (Str × Int)) (hD : H1 D = none) (hz : n ≤ 100000)
    (hG : ∀ H, Gr Tb H1 H → GG H) (hY : ∀ i H x H', Y i H x H' → Gr Tb H H')
    (turn : ∀ (i : Nat) (x : V) (H H' : Hp), i < n → Gr Tb H1 H' → Y i H x H' → ∀ (Rk : V → V → Hp → Prop) (Rs : Hp → Prop), (∀ q H4, F i = some q → Gr Tb H' H4 → Rk (.str q.1) (.int q.2) H4) → (∀ H4, F i = none → Gr Tb H' H4 → Rs H4) →
      g x (wipe σ vs) H' fun σ2 H2 => wipe σ2 vs = wipe σ vs ∧ tt σ2 H2 fun b H3 => if b = true then tk σ2 H3 fun y H4 => tv σ2 H4 fun z H5 => Rk y z H5 else Rs H3)
    (done : ∀ H, Gr Tb H1 H → H D = some (.dK (dS (putAll [] ((List.range n).filterMap F)))) → Qd H) :
    ∃ W : Nat → Nat → Hp → Prop, (∃ m, W 0 m (upd H1 D (.dK []))) ∧ ∀ i m H, W i m H →
      (J.stop i H ∧ Qd H) ∨ (J.go i H ∧ ∃ Nx : Hp → Prop, (∀ H', Nx H' → ∃ m', m' < m ∧ W (i + 1) m' H') ∧ ∀ x H', J.yld i H x H' → g x (wipe σ vs) H' fun σ2 H2 => wipe σ2 vs = wipe σ vs ∧ tt σ2 H2 fun b H3 =>
        if b = true then tk σ2 H3 fun y H4 => tv σ2 H4 fun z H5 => ∃ kvs k, y = kV k ∧ H5 D = some (.dK kvs) ∧ kvs.length < sizeLine ∧ Nx (upd H5 D (.dK (putK kvs k z))) else Nx H3) := by
  have h0 : Gr Tb H1 (upd H1 D (.dK [])) := Gr.new hD
  let P : Nat → Hp → Prop := fun i H => Gr Tb H1 H ∧ H D = some (.dK (dS (putAll [] ((List.range i).filterMap F))))
  refine ⟨fun i m H => m = n - i ∧ i ≤ n ∧ P i H, ⟨n, rfl, Nat.zero_le _, h0, upd_same⟩, ?_⟩
  rintro i m H ⟨rfl, hi, p⟩
  have q := hG H p.1
  by_cases hlt : i < n
  · refine .inr ⟨wk.goes i H hlt q, P (i + 1), fun H' p' => ⟨n - (i + 1), by omega, rfl, hlt, p'⟩, fun x H' y => ?_⟩
    have yy := wk.yields i H x H' hlt q y
    have g1 := p.1.trans (hY _ _ _ _ yy)
    have hd := (hY _ _ _ _ yy).at p.2 .dK
    have lle : (putAll [] ((List.range i).filterMap F)).length ≤ 100000 := by
      have h1 := putAll_len ((List.range i).filterMap F) []
      have h2 : ((List.range i).filterMap F).length ≤ i := Nat.le_trans (List.length_filterMap_le _ _) (by rw [List.length_range]; exact Nat.le_refl _)
      have h3 : ([] : Num).length = 0 := rfl
      omega
    refine turn i x H H' hlt g1 yy (fun y z H5 => ∃ kvs k, y = kV k ∧ H5 D = some (.dK kvs) ∧ kvs.length < sizeLine ∧ P (i + 1) (upd H5 D (.dK (putK kvs k z)))) (P (i + 1)) (fun q H4 e gr => ?_) (fun H4 e gr => ?_)
    · have hd4 := gr.at hd .dK
      refine ⟨_, Sum.inr q.1, rfl, hd4, ?_, Gr.putD hD (g1.trans gr) hd4, ?_⟩
      · rw [dS_len, sizeLine_eq]
        omega
      · rw [upd_same, List.range_succ, List.filterMap_append, putK_dS]
        unfold putAll
        rw [List.foldl_append, List.filterMap_cons, e]
        rfl
    · refine ⟨g1.trans gr, ?_⟩
      rw [List.range_succ, List.filterMap_append, List.filterMap_cons, e, gr.at hd .dK]
      simp
  · have e : i = n := by omega
    subst e
    exact .inl ⟨wk.stops H q, done H p.1 p.2⟩
theorem fm_range {α β : Type} (f : α → Option β) : ∀ l : List α, (List.range l.length).filterMap (fun i => l[i]?.bind f) = l.filterMap f := by
  intro l
  have key : ∀ n, n ≤ l.length → (List.range n).filterMap (fun i => l[i]?.bind f) = (l.take n).filterMap f := by
    intro n
    induction n with
    | zero => intro _; rfl
    | succ n ih =>
      intro h
      obtain ⟨x, hx⟩ : ∃ x, l[n]? = some x := ⟨_, List.getElem?_eq_getElem (by omega)⟩
      rw [List.range_succ, List.filterMap_append, ih (by omega), filterMap_take f l hx, List.filterMap_cons, hx]
      show _ ++ (match f x with | none => _ | some b => _) = _
      cases f x <;> rfl
  have := key l.length (Nat.le_refl _)
  rwa [List.take_length] at this
/-- the numbers that are not zero -/
def posN (es : List Ent) (f : Str → Int) : Num := numOf (es.filter fun e => decide (f e.name ≠ 0)) f
theorem posN_nodup {es : List Ent} {f : Str → Int} (h : (es.map (·.name)).Nodup) : ((posN es f).map (·.1)).Nodup := by
  unfold posN
  rw [numOf_names]
  exact h.sublist ((List.filter_sublist (l := es)).map _)
theorem getD_posN {es : List Ent} {f : Str → Int} {x : Str} (h : x ∈ es.map (·.name)) : getD (posN es f) x = f x := by
  by_cases q : f x = 0
  · rw [q]
    refine getD_none fun hm => ?_
    unfold posN at hm
    rw [numOf_names] at hm
    obtain ⟨e, he, rfl⟩ := List.mem_map.mp hm
    exact of_decide_eq_true (List.mem_filter.mp he).2 q
  · refine getD_numOf ?_
    obtain ⟨e, he, rfl⟩ := List.mem_map.mp h
    exact List.mem_map.mpr ⟨e, List.mem_filter.mpr ⟨he, decide_eq_true q⟩, rfl⟩
/-! ### what put does -/
theorem get?_cons (q : Str × Int) (d : Num) (x : Str) : get? (q :: d) x = if q.1 = x then some q.2 else get? d x := by
  unfold get?
  rw [List.find?_cons]
  by_cases h : q.1 = x
  · rw [if_pos h, show decide (q.1 = x) = true from decide_eq_true h]
    rfl
  · rw [if_neg h, show decide (q.1 = x) = false from decide_eq_false h]
theorem get?_app_new {d : Num} {x y : Str} {i : Int} : get? (d ++ [(x, i)]) y = match get? d y with | some j => some j | none => if x = y then some i else none := by
  induction d with
  | nil =>
    rw [List.nil_append, get?_cons]
    rfl
  | cons q d ih =>
    rw [List.cons_append, get?_cons, get?_cons, ih]
    by_cases h : q.1 = y
    · rw [if_pos h, if_pos h]
    · rw [if_neg h, if_neg h]
theorem get?_map {d : Num} {x y : Str} {i : Int} : get? (d.map fun q => if q.1 = x then (q.1, i) else q) y = if y = x ∧ y ∈ d.map (·.1) then some i else get? d y := by
  induction d with
  | nil =>
    rw [if_neg (fun z => by cases z.2)]
    rfl
  | cons q d ih =>
    rw [List.map_cons, get?_cons, get?_cons, ih, List.map_cons]
    by_cases h1 : q.1 = x
    · rw [if_pos h1]
      show (if q.1 = y then some i else _) = _
      by_cases h2 : q.1 = y
      · rw [if_pos h2, if_pos ⟨h2.symm.trans h1, by rw [h2]; exact List.mem_cons_self ..⟩]
      · rw [if_neg h2, if_neg h2]
        by_cases h3 : y = x
        · exact absurd (h1.trans h3.symm) h2
        · rw [if_neg fun z => h3 z.1, if_neg fun z => h3 z.1]
    · rw [if_neg h1]
      by_cases h2 : q.1 = y
      · rw [if_pos h2, if_pos h2, if_neg fun z => h1 (h2.trans z.1)]
      · rw [if_neg h2, if_neg h2]
        by_cases h3 : y = x ∧ y ∈ d.map (·.1)
        · rw [if_pos h3, if_pos ⟨h3.1, List.mem_cons_of_mem _ h3.2⟩]
        · rw [if_neg h3, if_neg fun z => h3 ⟨z.1, (List.mem_cons.mp z.2).resolve_left fun w => h2 w.symm⟩]
theorem mem_of_get? {d : Num} {x : Str} {i : Int} (h : get? d x = some i) : x ∈ d.map (·.1) := by
  cases q : decide (x ∈ d.map (·.1)) with
  | true => exact of_decide_eq_true q
  | false =>
    rw [get?_none (of_decide_eq_false q)] at h
    cases h
theorem get?_of_mem {d : Num} {x : Str} (h : x ∈ d.map (·.1)) : ∃ i, get? d x = some i := by
  induction d with
  | nil => cases h
  | cons q d ih =>
    rw [get?_cons]
    by_cases e : q.1 = x
    · exact ⟨_, if_pos e⟩
    · rw [if_neg e]
      rw [List.map_cons] at h
      exact ih ((List.mem_cons.mp h).resolve_left fun z => e z.symm)
theorem any_mem {d : Num} {x : Str} : (d.any fun q => decide (q.1 = x)) = true ↔ x ∈ d.map (·.1) := by
  rw [List.any_eq_true]
  constructor
  · rintro ⟨q, hq, e⟩
    exact List.mem_map.mpr ⟨q, hq, of_decide_eq_true e⟩
  · intro h
    obtain ⟨q, hq, e⟩ := List.mem_map.mp h
    exact ⟨q, hq, decide_eq_true e⟩
theorem get?_put (d : Num) (x y : Str) (i : Int) : get? (put d x i) y = if y = x then some i else get? d y := by
  by_cases h : x ∈ d.map (·.1)
  · unfold put
    rw [if_pos (any_mem.mpr h), get?_map]
    by_cases e : y = x
    · rw [if_pos e, if_pos ⟨e, e ▸ h⟩]
    · rw [if_neg e, if_neg fun z => e z.1]
  · rw [put_new' h, get?_app_new]
    by_cases e : y = x
    · rw [if_pos e, e, get?_none h]
      show (if x = x then some i else none) = _
      rw [if_pos rfl]
    · rw [if_neg e]
      cases get? d y with
      | some j => rfl
      | none => exact if_neg fun z => e z.symm
theorem getD_put (d : Num) (x y : Str) (i : Int) : getD (put d x i) y = if y = x then i else getD d y := by
  unfold getD
  rw [get?_put]
  split <;> rfl
theorem put_keys (d : Num) (x y : Str) (i : Int) : y ∈ (put d x i).map (·.1) ↔ y = x ∨ y ∈ d.map (·.1) := by
  constructor
  · intro h
    obtain ⟨j, hj⟩ := get?_of_mem h
    rw [get?_put] at hj
    by_cases e : y = x
    · exact .inl e
    · rw [if_neg e] at hj
      exact .inr (mem_of_get? hj)
  · intro h
    by_cases e : y = x
    · exact mem_of_get? (i := i) (by rw [get?_put, if_pos e])
    · obtain ⟨j, hj⟩ := get?_of_mem (h.resolve_left e)
      exact mem_of_get? (i := j) (by rw [get?_put, if_neg e, hj])
theorem put_nodup {d : Num} {x : Str} {i : Int} (h : (d.map (·.1)).Nodup) : ((put d x i).map (·.1)).Nodup := by
  by_cases q : x ∈ d.map (·.1)
  · unfold put
    rw [if_pos (any_mem.mpr q), List.map_map]
    have : ((fun q : Str × Int => q.1) ∘ fun q => if q.1 = x then (q.1, i) else q) = fun q => q.1 := by
      funext q
      show (if q.1 = x then (q.1, i) else q).1 = q.1
      split <;> rfl
    rw [this]
    exact h
  · rw [put_new' q, List.map_append]
    refine List.nodup_append.mpr ⟨h, by simp, fun a ha b hb e => ?_⟩
    have hb2 : b = x := List.mem_singleton.mp hb
    rw [e, hb2] at ha
    exact q ha
theorem getD_mem {d : Num} (h : (d.map (·.1)).Nodup) {q : Str × Int} (hq : q ∈ d) : getD d q.1 = q.2 := by
  unfold getD
  induction d with
  | nil => cases hq
  | cons z d ih =>
    rw [List.map_cons, List.nodup_cons] at h
    rw [get?_cons]
    rcases List.mem_cons.mp hq with e | hq
    · rw [if_pos (by rw [e]), e]
      rfl
    · rw [if_neg fun e => h.1 (List.mem_map.mpr ⟨q, hq, e.symm⟩)]
      exact ih h.2 hq
theorem get?_mem {d : Num} (h : (d.map (·.1)).Nodup) {q : Str × Int} (hq : q ∈ d) : get? d q.1 = some q.2 := by
  obtain ⟨i, hi⟩ := get?_of_mem (List.mem_map.mpr ⟨q, hq, rfl⟩ : q.1 ∈ d.map (·.1))
  have := getD_mem h hq
  unfold getD at this
  rw [hi] at this ⊢
  exact congrArg some this
/-- two dicts of numbers that are not zero, alike at each name -/
theorem num_eq {c d : Num} (hc : (c.map (·.1)).Nodup) (hd : (d.map (·.1)).Nodup) (zc : ∀ q ∈ c, q.2 ≠ 0) (zd : ∀ q ∈ d, q.2 ≠ 0) (e : ∀ x, getD c x = getD d x) : c.length = d.length ∧ ∀ q ∈ c, get? d q.1 = some q.2 := by
  have key : ∀ {c d : Num}, (c.map (·.1)).Nodup → (∀ q ∈ c, q.2 ≠ 0) → (∀ x, getD c x = getD d x) → ∀ x ∈ c.map (·.1), x ∈ d.map (·.1) := fun {c d} hc zc e x hx => by
    obtain ⟨q, hq, rfl⟩ := List.mem_map.mp hx
    cases z : decide (q.1 ∈ d.map (·.1)) with
    | true => exact of_decide_eq_true z
    | false =>
      have h1 := e q.1
      rw [getD_mem hc hq, getD_none (of_decide_eq_false z)] at h1
      exact absurd h1 (zc q hq)
  have k1 := key hc zc e
  have k2 := key hd zd fun x => (e x).symm
  refine ⟨?_, fun q hq => ?_⟩
  · have p : (c.map (·.1)).Perm (d.map (·.1)) := (List.perm_ext_iff_of_nodup hc hd).mpr fun x => ⟨k1 x, k2 x⟩
    have := p.length_eq
    rwa [List.length_map, List.length_map] at this
  · obtain ⟨i, hi⟩ := get?_of_mem (k1 q.1 (List.mem_map.mpr ⟨q, hq, rfl⟩))
    have h1 := e q.1
    rw [getD_mem hc hq] at h1
    unfold getD at h1
    rw [hi] at h1 ⊢
    exact congrArg some h1.symm
/-- d1 != d2, alike -/
theorem rd_neD {H : Hp} {a b : Addr} {c d : Num} {Q : VK} (ha : H a = some (.dK (dS c))) (hb : H b = some (.dK (dS d))) (hl : c.length = d.length) (h : ∀ q ∈ c, get? d q.1 = some q.2) (q : Q (.bl false) H) : rNeDA (.ref a) (.ref b) H Q :=
  ⟨a, b, _, _, rfl, rfl, ha, hb, by rw [dS_len, dS_len]; exact hl, fun p hp => by
    unfold dS at hp
    obtain ⟨z, hz, rfl⟩ := List.mem_map.mp hp
    refine ⟨?_, rfl⟩
    show valV (dS d) (Sum.inr z.1) = some (V.int z.2)
    rw [valV_dS, h z hz]
    rfl, q⟩
/-! ### dict([(name, number) ..]), for name in d -/
theorem mergeK_dS (l : Num) : ∀ d : Num, mergeK (dS d) (dS l) = dS (putAll d l) := by
  induction l with
  | nil => intro d; rfl
  | cons q l ih =>
    intro d
    show mergeK (putK (dS d) (Sum.inr q.1) (.int q.2)) (dS l) = dS (putAll (put d q.1 q.2) l)
    rw [putK_dS, ih]
theorem merge_new {l : Num} (h : (l.map (·.1)).Nodup) : mergeK [] (dS l) = dS l := by
  have := mergeK_dS l []
  rw [putAll_new l [] h] at this
  exact this
/-- a row of a name and its number -/
def PRow (H : Hp) (val : Str → Int) (x y : V) : Prop := ∃ t n, x = .str n ∧ y = .ref t ∧ H t = some (.tup [.str n, .int (val n)])
theorem pairs_dict {K : PySem.W.Frag} {H : Hp} {val : Str → Int} : ∀ {ns : List Str} {ys : List V}, Paired (PRow H val) (ns.map V.str) ys → ∃ ps : List Addr, ys = ps.map V.ref ∧ Paired (fun p kv => SqT K H p [kV kv.1, kv.2]) ps (dS (ns.map fun n => (n, val n)))
  | [], _, .nil => ⟨[], rfl, .nil⟩
  | n :: ns, _, .cons ⟨t, n', e, e2, h⟩ p => by
    cases e
    subst e2
    obtain ⟨ps, h1, h2⟩ := pairs_dict p
    exact ⟨t :: ps, by rw [h1]; rfl, .cons (SqT.of h) h2⟩
theorem walk_keysS {d : Addr} {o : Obj} {n : Num} : Walk (Itk d o (dS n)) n.length (fun H => H d = some (.frz o (.dK (dS n)))) (YAt ((n.map (·.1)).map V.str)) := by
  have w := walk_keys (d := d) (o := o) (kvs := dS n)
  rw [dS_len] at w
  refine w.mono (fun _ h => h) fun i H x H' hi _ y => ?_
  obtain ⟨h1, k, v, h2, h3⟩ := y
  refine ⟨h1, ?_⟩
  unfold dS at h2
  rw [List.getElem?_map] at h2
  cases hq : n[i]? with
  | none => rw [hq] at h2; cases h2
  | some q =>
    rw [hq] at h2
    cases h2
    rw [List.getElem?_map, List.getElem?_map, hq, h3]
    rfl
def stockO (H : Hp) (d : Num) (v : V) : Option (Str × Int) := match itemAt H 0 v with
  | some (.str n) => some (n, getD d n)
  | _ => none
theorem stockO_at {H : Hp} {d : Num} {v : V} {e : Ent} (h : EntAt H v e) : stockO H d v = some (e.name, getD d e.name) := by
  obtain ⟨t, l, rfl, ht, _⟩ := h
  unfold stockO
  rw [itemAt_tup ht]
  rfl
/-- {name: stock.get(name, 0) for name, weight, parts in entries} -/
theorem dc_stock {Tb : List (Addr × Str)} {K : PySem.W.Frag} {a b : Addr} {xs : List V} {es : List Ent} {st : Num} {i j k l : Nat} {σ : L2.St} {H1 : Hp} {D : Addr} {Qd : Hp → Prop} (ha : SqL K H1 a xs) (hc : CatAt H1 xs es) (hb : H1 b = some (.dK (dS st))) (hnd : (es.map (·.name)).Nodup) (hz : es.length ≤ 100000) (hD : H1 D = none)
    (hw : ∀ n w p, wipe ((((wipe σ [i, j, k]).set i n).set j w).set k p) [i, j, k] = wipe σ [i, j, k]) (h1 : ∀ n w p, ((((wipe σ [i, j, k]).set i n).set j w).set k p)[i]? = some n) (h2 : ∀ n w p, ((((wipe σ [i, j, k]).set i n).set j w).set k p)[l]? = some (some (.ref b)))
    (done : ∀ H, Gr Tb H1 H → H D = some (.dK (dS (numOf es (getD st)))) → Qd H) :
    ∃ W : Nat → Nat → Hp → Prop, (∃ m, W 0 m (upd H1 D (.dK []))) ∧ ∀ r m H, W r m H →
      ((Itl K a).stop r H ∧ Qd H) ∨ ((Itl K a).go r H ∧ ∃ Nx : Hp → Prop, (∀ H', Nx H' → ∃ m', m' < m ∧ W (r + 1) m' H') ∧ ∀ x H', (Itl K a).yld r H x H' → (gTup K 3 (gCons (gName i) (gCons (gName j) (gCons (gName k) gNil)))) x (wipe σ [i, j, k]) H' fun σ2 H2 => wipe σ2 [i, j, k] = wipe σ [i, j, k] ∧ tYes σ2 H2 fun b H3 =>
        if b = true then tVar i σ2 H3 fun y H4 => (tDGet2 (tVar l) (tVar i) (tC (.int 0))) σ2 H4 fun z H5 => ∃ kvs k, y = kV k ∧ H5 D = some (.dK kvs) ∧ kvs.length < sizeLine ∧ Nx (upd H5 D (.dK (putK kvs k z))) else Nx H3) := by
  have hl := Paired.len hc
  refine dc_fm (Tb := Tb) (xs := xs) walk_list rfl (stockO H1 st) hD (by omega) (fun H' g => g.ext_seq ha) (fun j' v H' hv g Rk Rs hk hs => ?_) fun H' g hD' => ?_
  · obtain ⟨e, he, hev⟩ := Paired.at hc hv
    have hco := stockO_at (d := st) hev
    obtain ⟨t, lp, rfl, ht, hlp⟩ := hev
    have hb' := g.at hb .dK
    refine gtup3 (g.at ht .tup) ⟨hw _ _ _, _, h1 _ _ _, _, h2 _ _ _, b, rfl, IsD.num hb', _, h1 _ _ _, _, dgetO hb' e.name, ?_⟩
    rw [getO]
    exact hk (e.name, getD st e.name) _ hco (Gr.refl _)
  · have e : xs.filterMap (stockO H1 st) = numOf es (getD st) := fm_paired (fun v e h => stockO_at h) hc
    rw [e, putAll_new _ _ (by rw [List.nil_append, numOf_names]; exact hnd), List.nil_append] at hD'
    exact done H' g hD'
end Sk
/-! x = {..: .. for ..}, x a local name: the comprehension stores its dict itself -/
namespace Sk
open PySem PySem.Spec PyProof.Rows L2
section
variable {X : Cx}
theorem swD_true {kx vx : Expr} {gs : List Comprehension} {scope : Scope} {pos py : Pos} {y : Str} {l : Nat} {env : Env} (hk : env.scope.kind = .function) (hy : env.scope.names.lookup y = some .local) (hl : (py.line == pos.line) = true)
    (ha : (scope.names.any fun (n, k) => n == y && (k == .local || k == .cell)) = false) : swapsWith (.DictComp kx vx gs scope pos) (some (.Name y py)) l env = pure true := by
  have e1 : env.kindOf y = some .local := hy
  have e2 : env.blockKind = .function := by
    unfold Env.blockKind
    rw [hk]
    rfl
  unfold swapsWith
  simp only [e1, e2, ha, Expr.pos, hl] <;> rfl
theorem ps_setDc {i : Nat} {y : Str} {py : Pos} {kx vx tg iter : Expr} {ifs : List Expr} {scope : Scope} {own : List (Str × Nat)} {pos spos : Pos} {wi : TI} {g : TG} {tt : TT} {tk tv : TE} (hc : X.calm = true) (hN : X.N.Nodup) (hy : X.N[i]? = some y)
    (hyl : X.env.scope.names.lookup y = some .local) (hsw : swapsWith (.DictComp kx vx [⟨tg, iter, ifs, 0⟩] scope pos) (some (.Name y py)) spos.line X.env = pure true) (hi : PI X tg iter wi) (ok : BlkOk X.N X.env.scope scope own)
    (hg : ∀ s H C cl fp, PG (X.blk s H scope (compEnvC scope cl C X.env) fp) tg g) (ht : ∀ s H C cl fp, PTs (X.blk s H scope (compEnvC scope cl C X.env) fp) ifs tt)
    (hk : ∀ s H C cl fp, PE (X.blk s H scope (compEnvC scope cl C X.env) fp) kx tk) (he : ∀ s H C cl fp, PE (X.blk s H scope (compEnvC scope cl C X.env) fp) vx tv) (hs : ∀ x, foldedSetIterable iter X.env x = pure x := by intro _; rfl) :
    PS X (.Assign [.Name y py] (.DictComp kx vx [⟨tg, iter, ifs, 0⟩] scope pos) spos) (tAsg (tDc wi g tt tk tv (own.map (·.2))) (gName i)) := by
  refine ⟨fun pins s σ H D I h0 => ?_⟩
  rw [exec_Assign_Name_used _ _ _ _ hsw]
  have h : tDc wi g tt tk tv (own.map (·.2)) σ H (fun x H1 => gName i x σ H1 D.nx) := h0
  refine wpAny_bind (wpAny_standAt (wpAny_bind ?_))
  show wpAny _ X.A (do
    let _ ← comprehension (.DictComp kx vx [⟨tg, iter, ifs, 0⟩] scope pos) scope X.env (firstIterPos [⟨tg, iter, ifs, 0⟩] pos) newDict false (eval iter X.env) (some (assign (.Name y py) X.env))) _ _ s
  refine wpAny_bind (thn (dc_core (Qf := fun _ s' => SP X pins D .next s') hc hN I hi ok hg ht hk he hs h fun L C s' m H' J q hn f => ?_) fun _ s' hq => wpAny_pure (wpAny_pure hq))
  obtain ⟨f0, f1, f2, f3, f4, f5⟩ := f
  show wpAny _ _ (assign (.Name y py) X.env (.ref L)) _ _ _
  refine wpAny_assign_Name (store_ok2 (v := V.ref L) J hN hy (.inl hyl) rfl (fun s2 J2 ⟨a, sb, ha⟩ => ?_) (.inr hyl))
  have ne : C ≠ a := fun e => by
    rcases ha with z | z
    · exact f1 (e.trans z)
    · exact f4 y a z e.symm
  exact ⟨m, hn.sameBut sb ne, fun h3 sb3 => ⟨_, H', J2.turned (t' := s2.toks) (fun b o hb e => (sb3.2 b hb).trans e) f0 f1 f3 f4 f5, q⟩⟩
end
end Sk
/-! sum(d.values()) -/
namespace Sk
open PySem PySem.Spec PyProof.Rows L2
section
variable {X : Cx} {o : Expr} {p pos apos mpos : Pos} {td : TE}
/-- sum(o.values()), a dict whose values are ints -/
def tSumVals (td : TE) : TE := fun σ H Q => td σ H fun x H1 => ∃ (a : Addr) (kvs : List (Key × V)) (is : List Int), x = V.ref a ∧ H1 a = some (.dK kvs) ∧ kvs.map (·.2) = is.map V.int ∧ Q (.int is.sum) H1
theorem pe_sumVals (hc : X.calm = true) (hg : Gl X "sum") (hm : X.mg "sum" = none) (hd : PE X o td) (hbase : attributeBase o "values" X.env (eval o X.env) = eval o X.env := by rfl) (hline : (apos.endLine == mpos.line) = true := by rfl)
    (hse : starEach [Expr.Call (.Attribute o "values" apos) [] [] mpos] X.env = [(false, eval (Expr.Call (.Attribute o "values" apos) [] [] mpos) X.env)] := by rfl) :
    PE X (.Call (.Name "sum" p) [.Call (.Attribute o "values" apos) [] [] mpos] [] pos) (tSumVals td) := by
  refine ⟨fun pins s σ H Q I h => ?_⟩
  refine wpAny_Call_Name_kw (ld_blt I hg hm (u := .builtin "sum") (by first | rfl | decide +kernel) ?_ (by decide +kernel) (by decide +kernel))
  rw [hse]
  refine PySem.callWith_builtin1 (wpAny_Call_method0_late hbase hline (thn (hd.run pins s σ H _ I h) fun v s1 ⟨x, H1, I1, r1, a, kvs, is, ex, ha, hv, q⟩ => ?_))
  subst ex
  obtain rfl : v = Value.ref a := r1
  obtain ⟨_, hsys, vs, rel, dof⟩ := dk_of I1.hok ha
  obtain ⟨ep, dat⟩ := dof.dictAt
  obtain ⟨ob, es, ho, ex, hdat, hko, hpr, hnd⟩ := id dat
  refine ⟨"dict", "dict.values", F.plainAttrs_dict, F.slot_dict_values, F.type_dict_values, ⟨ob, ho, ex.1⟩, fun b e => ?_, Calls.callWith_builtin rfl (PySem.evalArgs_none ?_)⟩
  · cases e
    exact ⟨ob, ho, ex.2.1⟩
  refine call_meetsIn F.slot_dict_values ⟨ob, ho, ex.1⟩ F.entry_dict_values (F.args_dict_values_1 _) (meets_dict_values (mixKind X.prog X.w) a hsys) ⟨⟨vs, dof⟩, ?_⟩
  have up : ∀ b u, s1.heap.get? b = some u → (s1.heap.push { cls := .type "dict_values", data := .fields #[.ref a] }).get? b = some u := fun b u e => Heap.get?_push_of_some _ e
  have datV := dat.keep up
  have lv : vs.length = is.length := by
    have e1 := congrArg List.length hv
    rw [List.length_map, List.length_map] at e1
    rw [← e1, ← KV.length rel]
  have vals : ∀ (i : Nat) (u : Value), (∃ k, vs[i]? = some (k, u)) → ∃ t, u = Value.int (is.getD i 0) t := by
    rintro i u ⟨k, hk⟩
    obtain ⟨x, h1, h2⟩ := KV.at' rel hk
    have e1 : (is.map V.int)[i]? = some x := by
      rw [← hv, List.getElem?_map, h1]
      rfl
    rw [List.getElem?_map] at e1
    obtain ⟨j, hj, rfl⟩ := Option.map_eq_some_iff.mp e1
    obtain ⟨t, e3⟩ := h2
    exact ⟨t, by rw [e3, List.getD_eq_getElem?_getD, hj]; rfl⟩
  have hlt : a < s1.heap.objs.size := Heap.lt_size ho
  have sz : (s1.heap.push { cls := .type "dict_values", data := .fields #[.ref a] }).objs.size = s1.heap.objs.size + 1 := Heap.size_push _ _
  refine call_sum_walkAnyS (wpAny_pyIter_values (v := s1.heap.objs.size) (d := a) ⟨_, Heap.get?_push_size _ rfl, rfl, rfl⟩ datV ?_)
  refine ⟨_, _, _, _, _, _, _, fun i => is.getD i 0, rfl, (Walks.dictValues (knd := mixKind X.prog X.w) (A := X.A.in1) (I.ok.hd hc) _ a (by rw [sz]; exact Nat.ne_of_lt (Nat.lt_succ_of_lt hlt)) vs ep).toS,
    ⟨⟨_, Heap.get?_push_size _ rfl, rfl, rfl⟩, datV.keep fun b u e => Heap.get?_push_of_some _ e⟩, fun b hb => ?_, vals, fun s' t' hm => ?_⟩
  · show b < ((s1.heap.push _).push _).objs.size
    rw [Heap.size_push, Heap.size_push]
    rw [sz] at hb
    rcases List.mem_cons.mp hb with e | hb
    · rw [e]
      exact Nat.lt_succ_self _
    · rw [List.mem_singleton.mp hb]
      exact Nat.lt_succ_of_lt (Nat.lt_succ_of_lt hlt)
  · have e : preSum (fun i => is.getD i 0) vs.length = is.sum := by
      rw [lv]
      clear lv vals q hv
      have key : ∀ n, n ≤ is.length → preSum (fun i => is.getD i 0) n = (is.take n).sum := by
        intro n
        induction n with
        | zero => intro _; rfl
        | succ n ih =>
          intro hn
          show preSum _ n + is.getD n 0 = _
          rw [ih (by omega), List.take_add_one, List.sum_append, List.getD_eq_getElem?_getD, List.getElem?_eq_getElem (by omega)]
          simp
      rw [key _ (Nat.le_refl _), List.take_length]
    rw [e, Moved.eq_with hm]
    refine ⟨.int is.sum, H1, I1.kept (t' := s'.toks) fun b u e => hm.heap b u (fun hmem => ?_) (Heap.get?_push_of_some _ (up b u e)), ⟨t', rfl⟩, q⟩
    have e1 := List.mem_singleton.mp hmem
    have e2 := Heap.lt_size e
    rw [e1, sz] at e2
    exact absurd e2 (Nat.not_lt.mpr (Nat.le_succ _))
end
end Sk
/-! rules whose reading names the written part K, K told apart (within a comprehension) -/
namespace Sk
open PySem PySem.Spec PyProof.Rows L2
section
variable {X : Cx} {K : PySem.W.Frag}
theorem ixL (e : X.K = K) : IxR X (rIxL K) := by subst e; exact ix_list
theorem ixT (e : X.K = K) : IxR X (rIxT K) := by subst e; exact ix_tup
/-- an item of a list or of a tuple -/
def rIxA (K : PySem.W.Frag) : R2 := fun x y H Q => ∃ p xs i v, x = .ref p ∧ y = .int i ∧ (SqL K H p xs ∨ SqT K H p xs) ∧ atI xs i = some v ∧ Q v H
theorem ixA (e : X.K = K) : IxR X (rIxA K) := by
  intro va sl pins s σ H x y v u Q I rx ry h
  obtain ⟨p, xs, i, z, h1, h2, h3 | h3, h4, h5⟩ := h
  · exact ixL e va sl pins s σ H x y v u Q I rx ry ⟨p, xs, i, z, h1, h2, h3, h4, h5⟩
  · exact ixT e va sl pins s σ H x y v u Q I rx ry ⟨p, xs, i, z, h1, h2, h3, h4, h5⟩
theorem slL (e : X.K = K) : SlR X (rSlL K) := by subst e; exact sl_list
theorem slT (e : X.K = K) : SlR X (rSlT K) := by subst e; exact sl_tup
theorem opIn (e : X.K = K) : OpR X (compareOp .In) (rIn K false) := by subst e; exact op_in_seq
theorem opNotIn (e : X.K = K) : OpR X (compareOp .NotIn) (rIn K true) := by subst e; exact op_notIn_seq
theorem opEqD (e : X.K = K) (hu : X.A.units + 64 < cLine) : OpR X (compareOp .Eq) (rEqD K) := by subst e; exact op_eqD hu
theorem opNeD (e : X.K = K) (hu : X.A.units + 64 < cLine) : OpR X (compareOp .NotEq) (rNeD K) := by subst e; exact op_neD hu
theorem opEqNil (e : X.K = K) (hu : X.A.units + 64 < cLine) : OpR X (compareOp .Eq) (rNil K false) := by subst e; exact op_eqNil hu
theorem opNeNil (e : X.K = K) (hu : X.A.units + 64 < cLine) : OpR X (compareOp .NotEq) (rNil K true) := by subst e; exact op_neNil hu
/-- len of a list -/
def rLenL (K : PySem.W.Frag) : List V → Hp → VK → Prop := fun xs H Q => ∃ p ys, xs = [.ref p] ∧ (SqL K H p ys ∨ SqT K H p ys) ∧ Q (.int (List.length ys : Nat)) H
theorem lenS (e : X.K = K) : CallR X (.builtin "len") (rLenL K) := by subst e; exact call_len_seq
def rListOf (K : PySem.W.Frag) : List V → Hp → VK → Prop := fun xs H Q => ∃ p ys, xs = [.ref p] ∧ (SqL K H p ys ∨ SqT K H p ys) ∧ ∀ l, H l = none → Q (.ref l) (upd H l (.lst ys))
theorem listOf (e : X.K = K) : CallR X (.type "list") (rListOf K) := by subst e; exact call_list_of
theorem crSum (e : X.K = K) (hc : X.calm = true) : CallR X (.builtin "sum") (rSum K) := by subst e; exact cr_sum hc
theorem crMax (e : X.K = K) (hc : X.calm = true) : CallR X (.builtin "max") (rMax K) := by subst e; exact cr_max hc
theorem crMin (e : X.K = K) (hc : X.calm = true) : CallR X (.builtin "min") (rMin K) := by subst e; exact cr_min hc
theorem crAll (e : X.K = K) (hc : X.calm = true) : CallR X (.builtin "all") (rAll K) := by subst e; exact cr_all hc
theorem crAny (e : X.K = K) (hc : X.calm = true) : CallR X (.builtin "any") (rAny K) := by subst e; exact cr_any hc
theorem crSortedS (e : X.K = K) : CallR X (.builtin "sorted") (rSortedS K) := by subst e; exact cr_sortedS
theorem crSortedI (e : X.K = K) : CallR X (.builtin "sorted") (rSortedI K) := by subst e; exact cr_sortedI
theorem crSortedT (e : X.K = K) : CallR X (.builtin "sorted") (rSortedT K) := by subst e; exact cr_sortedT
def rDictP (K : PySem.W.Frag) : List V → Hp → VK → Prop := fun xs H Q => ∃ (a : Addr) (ps : List Addr) (kvs : List (Key × V)), xs = [.ref a] ∧ SqL K H a (ps.map V.ref) ∧ Paired (fun p kv => SqT K H p [kV kv.1, kv.2]) ps kvs ∧
    ∀ p, H p = none → Q (.ref p) (upd H p (.dK (mergeK [] kvs)))
theorem dictP (e : X.K = K) (hc : X.calm = true) : CallR X (.type "dict") (rDictP K) := by subst e; exact call_dictP hc
theorem isiR (e : X.K = K) : CallR X (.builtin "isinstance") (rIsi K) := by subst e; exact call_isi
variable {tg l o e1 : Expr} {es : List Expr} {tl to te : TE} {ta : TA} {p pos apos cpos tpos : Pos} {elts : List Expr} {kk : Nat} {name : Str} {T id : String} {r : V → List V → Hp → VK → Prop}
theorem piL (e : X.K = K) (hl : PE X l tl) : PI X tg l (iList K tl) := by subst e; exact pi_list hl
theorem piT (e : X.K = K) (hl : PE X l tl) : PI X tg l (iTup K tl) := by subst e; exact pi_tup hl
theorem piEnum (e : X.K = K) (hg : Gl X "enumerate") (hm : X.mg "enumerate" = none) (ha : PA X [l] ta) (hs : starEach [l] X.env = [(false, eval l X.env)] := by rfl) : PI X (.Tuple elts kk tpos) (.Call (.Name "enumerate" p) [l] [] pos) (iEnum K ta) := by
  subst e
  exact pi_enum hg hm ha hs
theorem piZip (e : X.K = K) (hg : Gl X "zip") (hm : X.mg "zip" = none) (ha : PA X [l, e1] ta) (hs : starEach [l, e1] X.env = (false, eval l X.env) :: starEach [e1] X.env := by rfl) (hpl : (backTo pos (starEach [e1] X.env)).any (·.1) = false := by rfl) :
    PI X (.Tuple elts kk tpos) (.Call (.Name "zip" p) [l, e1] [] pos) (iZip K ta) := by
  subst e
  exact pi_zip hg hm ha hs hpl
theorem piRev (e : X.K = K) (hg : Gl X "reversed") (hm : X.mg "reversed" = none) (ha : PA X [l] ta) (hs : starEach [l] X.env = [(false, eval l X.env)] := by rfl) : PI X tg (.Call (.Name "reversed" p) [l] [] pos) (iRev K ta) := by
  subst e
  exact pi_reversed hg hm ha hs
theorem peBm0 (e : X.K = K) (pa : PlainAttrs T) (slot : Slot T name id) (hty : typeOf (.builtin id) = pure (.type "method_descriptor")) (hm : MtR X id r) (ho : PE X o to)
    (hbase : attributeBase o name X.env (eval o X.env) = eval o X.env := by rfl) (hline : (apos.endLine == cpos.line) = true := by rfl) : PE X (.Call (.Attribute o name apos) [] [] cpos) (tBM0 K T r to) := by
  subst e
  exact pe_bm0 pa slot hty hm ho hbase hline
theorem peBm (e : X.K = K) (pa : PlainAttrs T) (slot : Slot T name id) (hty : typeOf (.builtin id) = pure (.type "method_descriptor")) (hm : MtR X id r) (ho : PE X o to) (ha : PA X (e1 :: es) ta)
    (hbase : attributeBase o name X.env (eval o X.env) = eval o X.env := by rfl)
    (hfew : ((backTo cpos (starEach (e1 :: es) X.env)).all (fun x => !x.1) && (backToKw cpos (keywordEach [] X.env)).all (fun x => x.1.isSome)
      && decide ((e1 :: es).length + ([] : List Keyword).length + (if ([] : List Keyword).isEmpty then 0 else 1) < 30)) = true := by rfl)
    (hline : (apos.endLine == cpos.line) = true := by rfl) (hs : starEach (e1 :: es) X.env = (false, eval e1 X.env) :: starEach es X.env := by rfl) (hplain : (backTo cpos (starEach es X.env)).any (·.1) = false := by rfl) :
    PE X (.Call (.Attribute o name apos) (e1 :: es) [] cpos) (tBM K T r to ta) := by
  subst e
  exact pe_bm pa slot hty hm ho ha hbase hfew hline hs hplain
end
end Sk
/-! repr of lists and tuples, no repr under way; nested data -/
namespace Sk
open PySem PySem.Spec PyProof.Rows L2
mutual
theorem Dp.noDict {K : PySem.W.Frag} {H : Hp} : ∀ {d : PyData} {v : V}, Dp K H v d → d.hasDict = false
  | .none, _, _ => rfl
  | .bool _, _, _ => rfl
  | .int _, _, _ => rfl
  | .str _, _, _ => rfl
  | .list ds, _, .lst _ h => by
    have := DpAll.noDict h
    simpa [PyData.hasDict] using this
  | .tuple ds, _, .tup _ h => by
    have := DpAll.noDict h
    simpa [PyData.hasDict] using this
  | .dict _, _, h => by cases h
theorem DpAll.noDict {K : PySem.W.Frag} {H : Hp} : ∀ {ds : List PyData} {vs : List V}, DpAll K H vs ds → PyData.hasDictAll ds = false
  | [], _, _ => by simp [PyData.hasDictAll]
  | d :: ds, _, .cons a t => by
    have h1 := Dp.noDict a
    have h2 := DpAll.noDict t
    simp [PyData.hasDictAll, h1, h2]
end
def rRepr (K : PySem.W.Frag) : List V → Hp → VK → Prop := fun xs H Q => ∃ (a : Addr) (d : PyData), xs = [.ref a] ∧ Dp K H (.ref a) d ∧ d.showable = true ∧ d.shown.length ≤ sizeLine ∧ d.depth ≤ 60 ∧ Q (.str d.shown) H
theorem crRepr {X : Cx} {K : PySem.W.Frag} (e : X.K = K) (hg : X.A.guards = some []) (hu : X.A.units + 64 < cLine) : CallR X (.builtin "repr") (rRepr K) := by
  subst e
  intro pins s σ H xs us Q I r h
  obtain ⟨a, d, rfl, hd, hs, hz, hdp, q⟩ := h
  obtain ⟨u, rfl, ru⟩ := vals1 r
  obtain ⟨as, rr⟩ := Dp.reads I d _ u hd ru
  obtain rfl : u = Value.ref a := ru
  exact PySem.repr_of_reads' rr hs (fun z => by rw [Dp.noDict hd] at z; cases z) hg (by omega) (fun b o e => e) (fun h' u tk k => ⟨.str d.shown, H, I.kept k, ⟨u, rfl⟩, q⟩) hz
/-! ### data -/
def tyName : PyData → String
  | .none => "NoneType" | .bool _ => "bool" | .int _ => "int" | .str _ => "str" | .list _ => "list" | .tuple _ => "tuple" | .dict _ => "dict"
theorem Dp.tyx {K : PySem.W.Frag} {H : Hp} {x : V} {d : PyData} (h : Dp K H x d) : TyX K H x (.type (tyName d)) := by
  cases h with
  | non => exact .base .non
  | bl b => exact .base (.bl b)
  | int i => exact .base (.int i)
  | str x => exact .base (.str x)
  | lst h _ =>
    rcases h with (h | ⟨o, h⟩) | ⟨o, its, n, h1, h2, _⟩
    · exact .base (.lst h)
    · exact .base (.frz h)
    · exact .kList h1 h2
  | tup h _ =>
    rcases h with (h | ⟨o, h⟩) | ⟨o, its, n, h1, h2, _⟩
    · exact .base (.tup h)
    · exact .fTuple h
    · exact .kTuple h1 h2
theorem rd_isi {K : PySem.W.Frag} {H : Hp} {x : V} {d : PyData} (T : String) (h : Dp K H x d) {b : Bool} (hb : kitB (tyName d) T = some b) {Q : VK} (q : Q (.bl b) H) : rIsi K [x, .ty T] H Q := ⟨x, .ty T, _, .type T, b, rfl, .ty T, Dp.tyx h, kit_ty hb, q⟩
theorem Gr.ext_tup {T : List (Addr × Str)} {K : PySem.W.Frag} {H H' : Hp} {a : Addr} {xs : List V} (g : Gr T H H') (h : SqT K H a xs) : SqT K H' a xs := by
  rcases h with (z | ⟨o, z⟩) | z
  · exact .inl (.inl (g.ext _ _ z (fun ps e => by cases e)))
  · exact .inl (.inr ⟨o, g.ext _ _ z (fun ps e => by cases e)⟩)
  · exact .inr z
mutual
theorem Dp.gr {T : List (Addr × Str)} {K : PySem.W.Frag} {H H' : Hp} (g : Gr T H H') : ∀ {d : PyData} {v : V}, Dp K H v d → Dp K H' v d
  | .none, _, .non => .non
  | .bool _, _, .bl b => .bl b
  | .int _, _, .int i => .int i
  | .str _, _, .str x => .str x
  | .list ds, _, .lst h a => .lst (g.ext_seq h) (DpAll.gr g a)
  | .tuple ds, _, .tup h a => .tup (g.ext_tup h) (DpAll.gr g a)
  | .dict _, _, h => by cases h
theorem DpAll.gr {T : List (Addr × Str)} {K : PySem.W.Frag} {H H' : Hp} (g : Gr T H H') : ∀ {ds : List PyData} {vs : List V}, DpAll K H vs ds → DpAll K H' vs ds
  | [], _, .nil => .nil
  | d :: ds, _, .cons a t => .cons (Dp.gr g a) (DpAll.gr g t)
end
theorem DpAll.len {K : PySem.W.Frag} {H : Hp} : ∀ {ds : List PyData} {vs : List V}, DpAll K H vs ds → vs.length = ds.length
  | [], _, .nil => rfl
  | d :: ds, _, .cons a t => by rw [List.length_cons, List.length_cons, DpAll.len t]
theorem DpAll.at {K : PySem.W.Frag} {H : Hp} : ∀ {ds : List PyData} {vs : List V} {i : Nat} {d : PyData}, DpAll K H vs ds → ds[i]? = some d → ∃ v, vs[i]? = some v ∧ Dp K H v d
  | [], _, _, _, .nil, e => by simp at e
  | _ :: _, _, 0, _, .cons a _, e => by
    cases e
    exact ⟨_, rfl, a⟩
  | _ :: _, _, i + 1, _, .cons _ t, e => DpAll.at (i := i) t (by simpa using e)
theorem depth_mem {ds : List PyData} {d : PyData} (h : d ∈ ds) : d.depth ≤ PyData.depthAll ds := by
  induction ds with
  | nil => cases h
  | cons x xs ih =>
    rw [PyData.depthAll]
    rcases List.mem_cons.mp h with e | h
    · subst e
      omega
    · have := ih h
      omega
mutual
/-- how many values there are in it -/
def cnt : PyData → Nat
  | .list ds => cntAll ds + 1
  | .tuple ds => cntAll ds + 1
  | .none => 1 | .bool _ => 1 | .int _ => 1 | .str _ => 1 | .dict _ => 1
def cntAll : List PyData → Nat
  | [] => 0
  | d :: ds => cnt d + cntAll ds
end
theorem cnt_pos : ∀ d : PyData, 1 ≤ cnt d
  | .list ds => by rw [cnt]; omega
  | .tuple ds => by rw [cnt]; omega
  | .none => by rw [cnt]; omega
  | .bool _ => by rw [cnt]; omega
  | .int _ => by rw [cnt]; omega
  | .str _ => by rw [cnt]; omega
  | .dict _ => by rw [cnt]; omega
theorem cnt_len : ∀ ds : List PyData, ds.length ≤ cntAll ds
  | [] => by rw [cntAll]; exact Nat.le_refl _
  | d :: ds => by
    rw [cntAll, List.length_cons]
    have := cnt_len ds
    have := cnt_pos d
    omega
theorem cnt_mem {ds : List PyData} {d : PyData} (h : d ∈ ds) : cnt d ≤ cntAll ds := by
  induction ds with
  | nil => cases h
  | cons x xs ih =>
    rw [cntAll]
    rcases List.mem_cons.mp h with e | h
    · subst e
      omega
    · have := ih h
      omega
theorem cnt_le {ds : List PyData} {m : Nat} (h : ∀ d ∈ ds, cnt d ≤ m) : cntAll ds ≤ ds.length * m := by
  induction ds with
  | nil => rw [cntAll]; omega
  | cons x xs ih =>
    rw [cntAll, List.length_cons, Nat.add_mul]
    have h1 := h x (List.mem_cons_self ..)
    have h2 := ih fun d hd => h d (List.mem_cons_of_mem _ hd)
    omega
theorem depth_le {ds : List PyData} {m : Nat} (h : ∀ d ∈ ds, d.depth ≤ m) : PyData.depthAll ds ≤ m := by
  induction ds with
  | nil => rw [PyData.depthAll]; omega
  | cons x xs ih =>
    rw [PyData.depthAll]
    have h1 := h x (List.mem_cons_self ..)
    have h2 := ih fun d hd => h d (List.mem_cons_of_mem _ hd)
    omega
/-! ### how long a repr is -/
theorem textFrom_le : ∀ (ts : List Str) (k : Nat) (acc : Str), (textFrom k acc ts).length ≤ acc.length + piled ts
  | [], _, _ => by
    show _ ≤ _ + 0
    exact Nat.le_refl _
  | t :: ts, k, acc => by
    have h := textFrom_le ts (k + 1) (acc ++ (if k > 0 then ", " else "" : String) ++ t)
    have e : (acc ++ (if k > 0 then ", " else "" : String) ++ t).length = acc.length + (if k > 0 then 2 else 0) + t.length := by
      rw [strLen_append, strLen_append]
      split <;> rfl
    rw [e] at h
    rw [piled_cons]
    show (textFrom (k + 1) (acc ++ (if k > 0 then ", " else "" : String) ++ t) ts).length ≤ _
    have : (if k > 0 then 2 else 0 : Nat) ≤ 2 := by split <;> omega
    omega
theorem piled_shown {ds : List PyData} {m : Nat} (h : ∀ d ∈ ds, d.shown.length ≤ m) : piled (PyData.shownAll ds) ≤ ds.length * (m + 2) := by
  induction ds with
  | nil =>
    rw [PyData.shownAll]
    exact Nat.zero_le _
  | cons d ds ih =>
    rw [PyData.shownAll, piled_cons, List.length_cons, Nat.add_mul]
    have h1 := h d (List.mem_cons_self ..)
    have h2 := ih fun x hx => h x (List.mem_cons_of_mem _ hx)
    omega
theorem shown_list {ds : List PyData} {m : Nat} (h : ∀ d ∈ ds, d.shown.length ≤ m) : (PyData.list ds).shown.length ≤ ds.length * (m + 2) + 2 := by
  have h1 := piled_shown h
  have h2 := textFrom_le (PyData.shownAll ds) 0 "["
  rw [PyData.shown]
  unfold listText
  rw [strLen_append]
  have e1 : ("[" : Str).length = 1 := rfl
  have e2 : ("]" : Str).length = 1 := rfl
  omega
theorem shown_tuple {ds : List PyData} {m : Nat} (h : ∀ d ∈ ds, d.shown.length ≤ m) : (PyData.tuple ds).shown.length ≤ ds.length * (m + 2) + 3 := by
  have h1 := piled_shown h
  rw [PyData.shown]
  unfold tupleText
  rw [strLen_append, strLen_append]
  have e1 : ("(" : Str).length = 1 := rfl
  have e3 : (Str.join ", " (PyData.shownAll ds)).length ≤ piled (PyData.shownAll ds) := by
    by_cases e : PyData.shownAll ds = []
    · rw [e]
      decide
    · have := join_length_add _ e
      omega
  have e2 : ((if (PyData.shownAll ds).length == 1 then ",)" else ")" : String) : Str).length ≤ 2 := by
    split <;> decide
  omega
/-! ### entries as data -/
theorem dpAll_strs {K : PySem.W.Frag} {H : Hp} : ∀ ns : List Str, DpAll K H (ns.map V.str) (ns.map PyData.str)
  | [] => .nil
  | n :: ns => .cons (.str n) (dpAll_strs ns)
theorem dp_strs {K : PySem.W.Frag} {H : Hp} {r : Addr} {ns : List Str} (h : H r = some (.lst (ns.map V.str))) : Dp K H (.ref r) (.list (ns.map PyData.str)) := .lst (SqL.of h) (dpAll_strs ns)
def entD (e : Ent) : PyData := .tuple [.str e.name, .int e.w, .list (e.parts.map PyData.str)]
def catD (es : List Ent) : PyData := .list (es.map entD)
theorem dp_ent {K : PySem.W.Frag} {H : Hp} {v : V} {e : Ent} (h : EntAt H v e) : Dp K H v (entD e) := by
  obtain ⟨t, l, rfl, h1, h2⟩ := h
  exact .tup (SqT.of h1) (.cons (.str _) (.cons (.int _) (.cons (dp_strs h2) .nil)))
theorem dpAll_cat {K : PySem.W.Frag} {H : Hp} : ∀ {vs : List V} {es : List Ent}, CatAt H vs es → DpAll K H vs (es.map entD)
  | _, _, .nil => .nil
  | _, _, .cons h t => .cons (dp_ent h) (dpAll_cat t)
theorem dp_cat {K : PySem.W.Frag} {H : Hp} {r : Addr} {vs : List V} {es : List Ent} (h : SqL K H r vs) (c : CatAt H vs es) : Dp K H (.ref r) (catD es) := .lst h (dpAll_cat c)
/-- texts and numbers that are short -/
def ShwS (x : Str) : Prop := x.length ≤ 9 ∧ ∀ c ∈ x.cps.toList, c < 16 ^ 8
structure ShwE (e : Ent) : Prop where
  name : ShwS e.name
  w : e.w.natAbs < 10 ^ 100
  few : e.parts.length ≤ 20
  parts : ∀ p ∈ e.parts, ShwS p
theorem shown_str {x : Str} (h : ShwS x) : (PyData.str x).shown.length ≤ 92 := by
  have := StrLaws.reprText_len x h.2
  rw [PyData.shown]
  have := h.1
  omega
theorem shown_int {i : Int} (h : i.natAbs < 10 ^ 100) : (PyData.int i).shown.length ≤ 101 := by
  have e := int_text_length_le10 (k := 100) (by decide) h
  rw [PyData.shown]
  show (Str.ofString (toString i)).length ≤ _
  rw [PySem.ofString_length]
  exact e
theorem show_int {i : Int} (h : i.natAbs < 10 ^ 100) : (PyData.int i).showable = true := by
  rw [PyData.showable, decide_eq_true_eq]
  by_cases h0 : i.natAbs = 0
  · rw [h0]
    decide
  · refine (Nat.log2_lt h0).mpr (Nat.lt_of_lt_of_le h ?_)
    decide +kernel
theorem showAll {ds : List PyData} (h : ∀ d ∈ ds, d.showable = true) : PyData.showableAll ds = true := by
  induction ds with
  | nil => rfl
  | cons d ds ih => rw [PyData.showableAll, h d (List.mem_cons_self ..), ih fun x hx => h x (List.mem_cons_of_mem _ hx)]; rfl
theorem show_strs {ns : List Str} (h : ∀ p ∈ ns, ShwS p) : (PyData.list (ns.map PyData.str)).showable = true ∧ (PyData.list (ns.map PyData.str)).shown.length ≤ ns.length * 94 + 2 := by
  refine ⟨?_, ?_⟩
  · rw [PyData.showable]
    exact showAll fun d hd => by
      obtain ⟨p, hp, rfl⟩ := List.mem_map.mp hd
      rfl
  · have := shown_list (ds := ns.map PyData.str) (m := 92) fun d hd => by
      obtain ⟨p, hp, rfl⟩ := List.mem_map.mp hd
      exact shown_str (h p hp)
    rwa [List.length_map] at this
theorem show_ent {e : Ent} (h : ShwE e) : (entD e).showable = true ∧ (entD e).shown.length ≤ 6000 := by
  obtain ⟨h1, h2⟩ := show_strs h.parts
  have h3 := h.few
  refine ⟨?_, ?_⟩
  · unfold entD
    rw [PyData.showable]
    refine showAll fun d hd => ?_
    rcases List.mem_cons.mp hd with rfl | hd
    · rfl
    rcases List.mem_cons.mp hd with rfl | hd
    · exact show_int h.w
    rw [List.mem_singleton.mp hd]
    exact h1
  · unfold entD
    refine Nat.le_trans (shown_tuple (m := 1890) fun d hd => ?_) (by show 3 * (1890 + 2) + 3 ≤ 6000; decide)
    rcases List.mem_cons.mp hd with rfl | hd
    · exact Nat.le_trans (shown_str h.name) (by decide)
    rcases List.mem_cons.mp hd with rfl | hd
    · exact Nat.le_trans (shown_int h.w) (by decide)
    rw [List.mem_singleton.mp hd]
    omega
theorem show_cat {es : List Ent} (h : ∀ e ∈ es, ShwE e) (hz : es.length ≤ 1000) : (catD es).showable = true ∧ (catD es).shown.length ≤ sizeLine := by
  refine ⟨?_, ?_⟩
  · unfold catD
    rw [PyData.showable]
    exact showAll fun d hd => by
      obtain ⟨e, he, rfl⟩ := List.mem_map.mp hd
      exact (show_ent (h e he)).1
  · unfold catD
    have := shown_list (ds := es.map entD) (m := 6000) fun d hd => by
      obtain ⟨e, he, rfl⟩ := List.mem_map.mp hd
      exact (show_ent (h e he)).2
    rw [List.length_map] at this
    rw [sizeLine_eq]
    have h2 : es.length * 6002 ≤ 1000 * 6002 := Nat.mul_le_mul_right _ hz
    omega
theorem depth_cat (es : List Ent) : (catD es).depth ≤ 3 := by
  unfold catD
  rw [PyData.depth]
  have : PyData.depthAll (es.map entD) ≤ 2 := depth_le fun d hd => by
    obtain ⟨e, he, rfl⟩ := List.mem_map.mp hd
    unfold entD
    rw [PyData.depth]
    have : PyData.depthAll [.str e.name, .int e.w, .list (e.parts.map PyData.str)] ≤ 1 := depth_le fun d hd => by
      rcases List.mem_cons.mp hd with rfl | hd
      · rw [PyData.depth]; omega
      rcases List.mem_cons.mp hd with rfl | hd
      · rw [PyData.depth]; omega
      rw [List.mem_singleton.mp hd, PyData.depth]
      have : PyData.depthAll (e.parts.map PyData.str) ≤ 0 := depth_le fun d hd => by
        obtain ⟨p, hp, rfl⟩ := List.mem_map.mp hd
        rw [PyData.depth]
        exact Nat.le_refl _
      omega
    omega
  omega
theorem depth_strs (ns : List Str) : (PyData.list (ns.map PyData.str)).depth ≤ 1 := by
  rw [PyData.depth]
  have : PyData.depthAll (ns.map PyData.str) ≤ 0 := depth_le fun d hd => by
    obtain ⟨p, hp, rfl⟩ := List.mem_map.mp hd
    rw [PyData.depth]
    exact Nat.le_refl _
  omega
theorem cnt_strs (ns : List Str) : cnt (PyData.list (ns.map PyData.str)) ≤ ns.length + 1 := by
  rw [cnt]
  have := cnt_le (ds := ns.map PyData.str) (m := 1) fun d hd => by
    obtain ⟨p, hp, rfl⟩ := List.mem_map.mp hd
    rw [cnt]
    exact Nat.le_refl _
  rw [List.length_map] at this
  omega
end Sk
/-! repr of a list of lists and of dicts of numbers -/
namespace Sk
open PySem PySem.Spec PyProof.Rows L2
def numD (n : Num) : PyData := .dict (n.map fun q => (.str q.1, .int q.2))
/-- nested data, or a dict of numbers -/
def DpM (K : PySem.W.Frag) (H : Hp) (v : V) (d : PyData) : Prop := Dp K H v d ∨ ∃ b n, v = .ref b ∧ H b = some (.dK (dS n)) ∧ d = numD n
section
variable {prog : Program} {w : World}
theorem reads_pairs {h : Heap} : ∀ (n : Num) (es : List DictEntry) (kvs : List (Key × Value)), Pairs (mixKind prog w) es kvs → KV (dS n) kvs → ReadsAll h (es.map (·.key)) (n.map fun q => PyData.str q.1) [] ∧ ReadsAll h (es.map (·.val)) (n.map fun q => PyData.int q.2) []
  | [], es, kvs, p, r => by
    cases r
    cases p
    exact ⟨.nil, .nil⟩
  | q :: n, es, kvs, p, r => by
    cases r with
    | cons r1 r2 =>
      cases p with
      | cons hk hv p =>
        obtain ⟨h1, h2⟩ := reads_pairs n _ _ p r2
        obtain ⟨e1, e2⟩ := r1
        rcases keyIs_shape hk with ⟨i, t, a1, a2⟩ | ⟨x, t, a1, a2⟩
        · rw [← e1] at a1
          cases a1
        · rw [← e1] at a1
          cases a1
          obtain ⟨t2, a3⟩ := e2
          refine ⟨?_, ?_⟩
          · rw [List.map_cons, List.map_cons, a2]
            exact ReadsAll.cons (as := []) (.str _ _) h1
          · rw [List.map_cons, List.map_cons, hv, a3]
            exact ReadsAll.cons (as := []) (.int _ _) h2
end
section
variable {X : Cx} {pins : List (Addr × Obj)} {σ : L2.St} {H : Hp} {s : Shared}
theorem DpM.reads (I : Inv X pins σ H s) {v : V} {u : Value} {d : PyData} (h : DpM X.K H v d) (r : RelV v u) : ∃ as, Reads s.heap u d as ∧ (d.hasDict = true → sysModules ∉ as) := by
  rcases h with h | ⟨b, n, rfl, hb, rfl⟩
  · obtain ⟨as, h1⟩ := Dp.reads I d v u h r
    exact ⟨as, h1, fun z => by rw [Dp.noDict h] at z; cases z⟩
  · obtain rfl : u = Value.ref b := r
    obtain ⟨_, hsys, vs, rel, dof⟩ := dk_of I.hok hb
    obtain ⟨o, es, ep, ho, ex, hd, _, hp, _⟩ := dof
    obtain ⟨h1, h2⟩ := reads_pairs (h := s.heap) n _ _ hp rel
    have k1 : ReadsAll s.heap (es.toList.map (·.key)) ((n.map fun q : Str × Int => (PyData.str q.1, PyData.int q.2)).map (·.1)) [] := by
      rw [List.map_map]
      exact h1
    have k2 : ReadsAll s.heap (es.toList.map (·.val)) ((n.map fun q : Str × Int => (PyData.str q.1, PyData.int q.2)).map (·.2)) [] := by
      rw [List.map_map]
      exact h2
    refine ⟨_, Reads.dict ho ex.1 hd k1 k2, fun _ => ?_⟩
    · intro hm
      have e : sysModules = b := List.mem_singleton.mp (by simpa using hm)
      rw [e] at hsys
      simp at hsys
end
/-- data of a list, item by item -/
def rReprM (K : PySem.W.Frag) : List V → Hp → VK → Prop := fun xs H Q => ∃ (a : Addr) (us : List V) (ds : List PyData), xs = [.ref a] ∧ SqL K H a us ∧ Paired (DpM K H) us ds ∧ us ≠ [] ∧ (∀ d ∈ ds, d.showable = true ∧ d.shown.length ≤ sizeLine ∧ d.depth ≤ 50) ∧ (PyData.list ds).shown.length ≤ sizeLine ∧ Q (.str (PyData.list ds).shown) H
theorem crReprM {X : Cx} {K : PySem.W.Frag} (e : X.K = K) (hg : X.A.guards = some []) (hu : X.A.units + 64 < cLine) : CallR X (.builtin "repr") (rReprM K) := by
  subst e
  intro pins s σ H xs us Q I r h
  obtain ⟨a, vs, ds, rfl, hs, hp, hne, hsh, hz, q⟩ := h
  obtain ⟨u, rfl, ru⟩ := vals1 r
  obtain rfl : u = Value.ref a := ru
  obtain ⟨its, rv, ⟨o, n, ho, hc, hdn, hd⟩, hlen⟩ := I.list hs
  -- the items
  have items : ∀ {vs : List V} {ds : List PyData} {its : List Value}, Paired (DpM X.K H) vs ds → Vals vs its → (∀ d ∈ ds, d.showable = true ∧ d.shown.length ≤ sizeLine ∧ d.depth ≤ 50) →
      (∃ as, ReadsAll s.heap its ds as) ∧ ∃ bs, ReadAtMost s.heap (PyData.depthAll ds) bs ∧ ReprAllK X.prog X.w bs s.heap (PyData.depthAll ds) its (PyData.shownAll ds) := by
    intro vs ds its hp
    induction hp generalizing its with
    | nil =>
      intro rv _
      cases rv
      exact ⟨⟨_, .nil⟩, [], (fun _ h => nomatch h), by rw [PyData.shownAll]; exact .nil⟩
    | cons hd _ ih =>
      intro rv hsh
      cases rv with
      | cons r1 r2 =>
        obtain ⟨⟨as2, k2⟩, b2, hb2, k3⟩ := ih r2 fun d hd => hsh d (List.mem_cons_of_mem _ hd)
        obtain ⟨as, k1, hsm⟩ := DpM.reads I hd r1
        obtain ⟨s1, s2, s3⟩ := hsh _ (List.mem_cons_self ..)
        obtain ⟨b1, hb1, k4⟩ := ReprK.of_reads (prog := X.prog) (w := X.w) k1 s1 hsm s2
        refine ⟨⟨_, .cons k1 k2⟩, b1 ++ b2, ?_, ?_⟩
        · rw [PyData.depthAll]
          exact (hb1.mono (Nat.le_max_left _ _)).append (hb2.mono (Nat.le_max_right _ _))
        · rw [PyData.depthAll, PyData.shownAll]
          exact .cons ((k4.more fun b hb => List.mem_append_left _ hb).level_le (Nat.le_max_left _ _)) (k3.more_le (fun b hb => List.mem_append_right _ hb) (Nat.le_max_right _ _))
  obtain ⟨⟨as, ra⟩, bs, hbs, hk⟩ := items hp rv hsh
  have whole : Reads s.heap (.ref a) (.list ds) (a :: as) := .list ho hc hd ra
  have hna : a ∉ bs := not_mem_of_deeper whole (by rw [PyData.depth]; omega) hbs
  have hdp : PyData.depthAll ds ≤ 50 := depth_le fun d hd => (hsh d hd).2.2
  cases its with
  | nil =>
    cases rv
    exact absurd rfl hne
  | cons x l =>
    have hz' : (listText (PyData.shownAll ds)).length ≤ sizeLine := by
      rw [PyData.shown] at hz
      exact hz
    refine call_repr_slot (by omega) ⟨o, ho, hc⟩ F.slot_list_repr.toG (call_list_reprK (A := X.A.in1) ho hc hd hna (by simpa using hk.length_eq) (fun i y e => hk.item i y (by simpa using e)) hg (fun b _ => Clear.nil b) (by show X.A.units + 1 + _ < cLine; omega) (fun _ _ e => e) (fun h' u tk k => ⟨_, _, rfl, ?_⟩) hz')
    have e1 : listText (PyData.shownAll ds) = (PyData.list ds).shown := by rw [PyData.shown]
    rw [e1]
    exact ⟨.str _, H, I.kept k, ⟨u, rfl⟩, q⟩
/-! ### how long -/
theorem piled_kv {m : Nat} : ∀ {n : Num}, (∀ q ∈ n, ShwS q.1 ∧ q.2.natAbs < 10 ^ 100) → piled (PyData.shownKv (n.map fun q => (PyData.str q.1, PyData.int q.2))) ≤ n.length * 230
  | [], _ => by
    rw [List.map_nil, PyData.shownKv]
    exact Nat.zero_le _
  | q :: n, h => by
    rw [List.map_cons, PyData.shownKv, piled_cons, List.length_cons, Nat.add_mul]
    have h1 := shown_str (h q (List.mem_cons_self ..)).1
    have h2 := shown_int (h q (List.mem_cons_self ..)).2
    have h3 := piled_kv (m := m) fun z hz => h z (List.mem_cons_of_mem _ hz)
    have e : ((PyData.str q.1).shown ++ ": " ++ (PyData.int q.2).shown).length = (PyData.str q.1).shown.length + 2 + (PyData.int q.2).shown.length := by
      rw [strLen_append, strLen_append]
      rfl
    rw [e]
    omega
theorem show_num {n : Num} (h : ∀ q ∈ n, ShwS q.1 ∧ q.2.natAbs < 10 ^ 100) : (numD n).showable = true ∧ (numD n).shown.length ≤ n.length * 230 + 4 ∧ (numD n).depth ≤ 1 := by
  refine ⟨?_, ?_, ?_⟩
  · unfold numD
    rw [PyData.showable]
    induction n with
    | nil => rfl
    | cons q n ih =>
      rw [List.map_cons, PyData.showableKv, ih fun z hz => h z (List.mem_cons_of_mem _ hz), show_int (h q (List.mem_cons_self ..)).2]
      rfl
  · unfold numD
    have h1 := piled_kv (m := 0) h
    rw [PyData.shown]
    unfold dictText
    rw [strLen_append, strLen_append]
    have e1 : ("{" : Str).length = 1 := rfl
    have e2 : ("}" : Str).length = 1 := rfl
    have e3 : (Str.join ", " (PyData.shownKv (n.map fun q => (PyData.str q.1, PyData.int q.2)))).length ≤ piled (PyData.shownKv (n.map fun q => (PyData.str q.1, PyData.int q.2))) := by
      by_cases e : PyData.shownKv (n.map fun q => (PyData.str q.1, PyData.int q.2)) = []
      · rw [e]
        decide
      · have := join_length_add _ e
        omega
    omega
  · unfold numD
    rw [PyData.depth]
    have : PyData.depthKv (n.map fun q => (PyData.str q.1, PyData.int q.2)) = 0 := by
      clear h
      induction n with
      | nil => rfl
      | cons q n ih =>
        rw [List.map_cons, PyData.depthKv, ih, PyData.depth, PyData.depth]
        rfl
    omega
theorem show_cat_len {es : List Ent} (h : ∀ e ∈ es, ShwE e) : (catD es).shown.length ≤ es.length * 6002 + 2 := by
  unfold catD
  have := shown_list (ds := es.map entD) (m := 6000) fun d hd => by
    obtain ⟨e, he, rfl⟩ := List.mem_map.mp hd
    exact (show_ent (h e he)).2
  rwa [List.length_map] at this
end Sk
/-! l.count(x), a list of texts -/
namespace Sk
open PySem PySem.Spec PyProof.Rows L2
def eqTx (k : Str) (v : Value) : Bool := match v with
  | .str n _ => decide (n = k)
  | _ => false
def rCntS (K : PySem.W.Frag) : V → List V → Hp → VK → Prop := fun x xs H Q => ∃ (p : Addr) (ns : List Str) (k : Str), x = .ref p ∧ xs = [.str k] ∧ SqL K H p (ns.map V.str) ∧ Q (.int (amt (ones ns) k)) H
theorem cnt_texts {k : Str} : ∀ {ns : List Str} {us : List Value}, Vals (ns.map V.str) us → ((us.countP (eqTx k) : Nat) : Int) = amt (ones ns) k
  | [], _, .nil => rfl
  | n :: ns, _, .cons ⟨t, e⟩ r => by
    have ih := cnt_texts (k := k) r
    unfold ones at ih ⊢
    rw [List.countP_cons, List.map_cons, amt_cons, ← ih, e]
    show _ = (if n = k then (1 : Int) else 0) + _
    by_cases c : n = k
    · rw [if_pos c, if_pos (show eqTx k (.str n t) = true from decide_eq_true c)]
      omega
    · rw [if_neg c, if_neg (show ¬ eqTx k (.str n t) = true from fun z => c (of_decide_eq_true z))]
      omega
theorem txt_gives {k : Str} {t : Tok} : ∀ {ns : List Str} {us : List Value}, Vals (ns.map V.str) us → ∀ y ∈ us, MeetsSeq.EqGives y (.str k t) (eqTx k y)
  | [], _, .nil, y, hy => by cases hy
  | n :: ns, _, .cons ⟨t', e⟩ r, y, hy => by
    rcases List.mem_cons.mp hy with z | z
    · rw [z, e]
      have h := SeqRoads2.EqGives.str n k t' t
      have e2 : eqTx k (.str n t') = (n.cps.toList == k.cps.toList) := by
        show decide (n = k) = _
        rw [Bool.eq_iff_iff, decide_eq_true_eq, beq_iff_eq]
        exact ⟨fun z => by rw [z], fun z => str_ext z⟩
      rw [e2]
      exact h
    · exact txt_gives r y z
theorem mt_cntS {X : Cx} {K : PySem.W.Frag} (eK : X.K = K) : MtR X "list.count" (rCntS K) := by
  subst eK
  intro pins s σ H x xs v us Q I rx rxs h
  obtain ⟨p, ns, k, rfl, rfl, hs, q⟩ := h
  cases rx
  obtain ⟨u, rfl, ru⟩ := rxs.one
  obtain ⟨t, rfl⟩ := ru
  obtain ⟨its, rv, ⟨⟨cls, dd, data, sl⟩, n, ho, hc, hdn, hd⟩, _⟩ := I.list hs
  simp only at hc hd
  subst hc hd
  have ec := cnt_texts (k := k) rv
  refine call_meets PySem.F.slot_list_count ⟨_, ho, rfl⟩ PySem.F.entry_list_count (PySem.F.args_list_count_2 _ _) (SeqAt.list_countAt p its.toArray n dd sl (.str k t) (eqTx k))
    ⟨ho, fun y hy => (txt_gives rv y (by simpa using hy)).at _ _, .int (amt (ones ns) k), H, I.tok _, ⟨s.toks, ?_⟩, q⟩
  rw [← ec]
/-- l.remove(x), a list of texts -/
def rRemS : V → List V → Hp → VK → Prop := fun x xs H Q => ∃ (l : Addr) (ns : List Str) (k : Str), x = .ref l ∧ xs = [.str k] ∧ H l = some (.lst (ns.map V.str)) ∧ k ∈ ns ∧ Q .non (upd H l (.lst ((ns.erase k).map V.str)))
theorem erase_mapS : ∀ (l : List Str) (j : Nat), (l.map V.str).eraseIdx j = (l.eraseIdx j).map V.str
  | [], j => by simp
  | a :: r, 0 => by simp
  | a :: r, j + 1 => by
    have ih := erase_mapS r j
    simp [ih]
theorem erase_ix {k : Str} : ∀ {ns : List Str}, k ∈ ns → ∃ j, ns[j]? = some k ∧ (∀ m : Nat, m < j → ns[m]? ≠ some k) ∧ ns.eraseIdx j = ns.erase k
  | n :: ns, h => by
    by_cases c : n = k
    · subst c
      exact ⟨0, rfl, fun m hm => by omega, by simp⟩
    · obtain ⟨j, h1, h2, h3⟩ := erase_ix ((List.mem_cons.mp h).resolve_left fun z => c z.symm)
      refine ⟨j + 1, by simpa using h1, fun m hm => ?_, ?_⟩
      · cases m with
        | zero => simpa using c
        | succ m => simpa using h2 m (by omega)
      · rw [List.eraseIdx_cons_succ, h3, List.erase_cons, if_neg]
        simpa using c
theorem vals_at {ns : List Str} {us : List Value} (r : Vals (ns.map V.str) us) {j : Nat} {n : Str} (h : ns[j]? = some n) : ∃ t, us[j]? = some (.str n t) := by
  induction ns generalizing us j with
  | nil => simp at h
  | cons a ns ih =>
    cases r with
    | cons r1 r2 =>
      obtain ⟨t, rfl⟩ := r1
      cases j with
      | zero =>
        simp at h
        subst h
        exact ⟨t, rfl⟩
      | succ j => simpa using ih r2 (by simpa using h)
theorem mt_removeS {X : Cx} : MtM X "list.remove" rRemS := by
  intro pins s σ H x xs v us Q I rx rxs h
  obtain ⟨l, ns, k, rfl, rfl, hH, hm, q⟩ := h
  obtain ⟨j, hj, hno, he⟩ := erase_ix hm
  cases rx
  obtain ⟨u, rfl, ru⟩ := rxs.one
  obtain ⟨t, rfl⟩ := ru
  obtain ⟨z, its, n, r, hl, e⟩ := I.lstM hH
  rw [List.length_map] at hl z
  have hjn : j < ns.length := (List.getElem?_eq_some_iff.mp hj).1
  have hjl : j < its.toArray.size := by rw [List.size_toArray]; omega
  refine call_meets PySem.F.slot_list_remove ⟨_, e, rfl⟩ PySem.F.entry_list_remove (PySem.F.args_list_remove_2 _ _)
    (MeetsSeq.list_remove l its.toArray n (.str k t) (eqTx k) (fun y hy => txt_gives r y (by simpa using hy)) j hjl ?_ ?_ (by rw [List.size_toArray]; omega)) ⟨e, ?_⟩
  · obtain ⟨tj, hjt⟩ := vals_at r hj
    obtain ⟨h1, h2⟩ := List.getElem?_eq_some_iff.mp hjt
    have e1 : its.toArray[j] = .str k tj := by simpa using h2
    rw [e1]
    exact decide_eq_true rfl
  · intro m hm hmj
    have hmn : m < ns.length := by omega
    obtain ⟨tm, hmt⟩ := vals_at r (List.getElem?_eq_getElem hmn)
    obtain ⟨h1, h2⟩ := List.getElem?_eq_some_iff.mp hmt
    have e1 : its.toArray[m] = .str ns[m] tm := by simpa using h2
    rw [e1]
    refine decide_eq_false fun e2 => hno m hmj ?_
    rw [List.getElem?_eq_getElem hmn, e2]
  · have rr := r.eraseIdx j
    rw [erase_mapS, he] at rr
    refine ⟨.non, _, I.lset (its' := its.eraseIdx j) (t' := s.toks) hH e ?_ rr ?_, rfl, q⟩
    · show its.toArray.eraseIdxIfInBounds j = (its.eraseIdx j).toArray
      rw [List.eraseIdxIfInBounds_toArray]
    · have z2 : (ns.erase k).length ≤ ns.length := List.length_erase_le
      rw [List.length_map]
      omega
end Sk
/-! sorted(set(xs)), xs a list of texts -/
namespace Sk
open PySem PySem.Spec PyProof.Rows L2
def keyT (e : Int × Value) : Str := match e.2 with | .str x _ => x | _ => Str.empty
def GoodT (w : World) (e : Int × Value) : Prop := ∃ x tk, e.2 = Value.str x tk ∧ e.1 = hashStr w x
/-- the set of texts at a: S its members, n their number -/
def SetT (w : World) (h : Heap) (a : Addr) (S : Str → Bool) (n : Nat) : Prop :=
  ∃ o es ep t, h.get? a = some o ∧ o.ExactSet ∧ o.data = .set es ep t ∧ (∀ e ∈ es.toList, GoodT w e) ∧ (es.toList.map keyT).Nodup ∧ (∀ k, S k = true ↔ k ∈ es.toList.map keyT) ∧
    es.size < scanBound ∧ t.fits es.size = true ∧ es.size = n ∧ Ris t.place.toList ∧ (w.params.followText "set-order" = true ∨ t.led = true)
section
variable {P : Program} {w : World} {h h' : Heap} {a : Addr} {S : Str → Bool} {n : Nat}
theorem SetT.at (R : SetT w h a S n) (k : ∀ o, h.get? a = some o → h'.get? a = some o) : SetT w h' a S n := let ⟨o, es, ep, t, ho, r⟩ := R; ⟨o, es, ep, t, k o ho, r⟩
theorem SetT.congr {S' : Str → Bool} (R : SetT w h a S n) (e : ∀ k, S' k = S k) : SetT w h a S' n := (funext e : S' = S) ▸ R
theorem goodT_elems {l : List (Int × Value)} (g : ∀ e ∈ l, GoodT w e) : ElemsOf (PySem.strKind P w) l := fun e he => by
  obtain ⟨x, tk, h1, h2⟩ := g e he
  exact ⟨⟨x, by rw [h1]; exact strKind_is P w x tk, h2⟩, by rw [h1] <;> rfl⟩
theorem goodT_is {e : Int × Value} (g : GoodT w e) (k : Str) : (PySem.strKind P w).is k e.2 = true ↔ keyT e = k := by
  obtain ⟨x, tk, h1, _⟩ := g
  unfold keyT
  rw [h1]
  constructor
  · intro z
    exact (PySem.strKind P w).inj _ _ _ (strKind_is P w x tk) z
  · rintro rfl
    exact strKind_is P w x tk
theorem goodT_mem {l : List (Int × Value)} (g : ∀ e ∈ l, GoodT w e) (k : Str) : k ∈ l.map keyT ↔ ∃ e ∈ l, (PySem.strKind P w).is k e.2 = true := by
  rw [List.mem_map]
  exact ⟨fun ⟨e, he, q⟩ => ⟨e, he, (goodT_is (g e he) k).2 q⟩, fun ⟨e, he, q⟩ => ⟨e, he, (goodT_is (g e he) k).1 q⟩⟩
end
section
variable {P : Program} {w : World} {A : Around} {E : Value → Shared → Prop} {s : Shared} {a : Addr} {S : Str → Bool} {n : Nat}
theorem setT_tail {g : Bool → Sem Unit} (hg : ∀ (b : Bool) (s₁ : Shared) (Q' : Unit → Shared → Prop), Q' () s₁ → wpAny (model P w) A (g b) Q' E s₁) {o : Obj} {es : Array (Int × Value)} {ep : Nat} {t : SetTable} (ho : s.heap.get? a = some o) (hex : o.ExactSet) (hd : o.data = .set es ep t)
    {zs : Array (Int × Value)} {t2 : SetTable} {S' : Str → Bool} (g1 : ∀ e ∈ zs.toList, GoodT w e) (nd1 : (zs.toList.map keyT).Nodup) (m1 : ∀ k, S' k = true ↔ k ∈ zs.toList.map keyT)
    (hb1 : zs.size < scanBound) (hf2 : t2.fits zs.size = true) (hr : Ris t2.place.toList) (hl : w.params.followText "set-order" = true ∨ t2.led = true) {dum : Bool} {R : Option Bool → Shared → Prop}
    (hR : ∀ h', Heap.SameBut a s.heap h' → SetT w h' a S' zs.size → R (some true) { s with heap := h' }) :
    wpAny (model P w) A (do
        storeSet a zs t2
        if (!dum && t2.tooFull) = true then do
            g (relayAll t2 zs (SetTable.grown zs.size)).2.2
            storeSet a (relayAll t2 zs (SetTable.grown zs.size)).1 (relayAll t2 zs (SetTable.grown zs.size)).2.1
            pure (some true)
          else pure (some true)) R E s := by
  have ho1 := store_at (es' := zs) (t' := t2) ho hd
  have sb1 := Heap.SameBut.update s.heap a (Obj.putSet zs t2)
  refine wpAny_bind (wpAny_storeSet_of ho hd ?_ (fits_of_scanBound hb1))
  by_cases c : (!dum && t2.tooFull) = true
  · rw [if_pos c]
    have pm := relayAll_perm t2 zs (SetTable.grown zs.size)
    have hf3 := relayAll_fits t2 zs (SetTable.grown zs.size)
    have hr3 := relayAll_ris t2 zs (SetTable.grown zs.size)
    have hl3 := relayAll_led t2 zs (SetTable.grown zs.size)
    generalize relayAll t2 zs (SetTable.grown zs.size) = Z at pm hf3 hr3 hl3 ⊢
    obtain ⟨ys, t3, gave⟩ := Z
    dsimp only at pm hf3 hr3 hl3 ⊢
    have hsz : ys.size = zs.size := by rw [← Array.length_toList, pm.length_eq, Array.length_toList]
    have ho2 := store_at (es' := ys) (t' := t3) ho1 rfl
    refine wpAny_bind (hg _ _ _ (wpAny_bind (wpAny_storeSet_of ho1 rfl (wpAny_pure (hR _ (sb1.trans (Heap.SameBut.update _ a _)) ?_)) (fits_of_scanBound (by rw [hsz]; exact hb1)))))
    exact ⟨_, ys, _, t3, ho2, hex, rfl, fun e he => g1 e (pm.mem_iff.mp he), (pm.map keyT).nodup_iff.mpr nd1, fun k => (m1 k).trans (pm.map keyT).mem_iff.symm, by rw [hsz]; exact hb1, hf3, hsz, hr3, hl.imp id fun z => by rw [hl3]; exact z⟩
  · rw [if_neg c]
    exact wpAny_pure (hR _ sb1 ⟨_, zs, _, t2, ho1, hex, rfl, g1, nd1, m1, hb1, hf2, rfl, hr, hl⟩)
theorem setT_add {k : Str} {tk : Tok} {Q : Bool → Shared → Prop} (R : SetT w s.heap a S n) (room : n + 1 < scanBound)
    (hQ : ∀ h', Heap.SameBut a s.heap h' → SetT w h' a (fun j => S j || decide (j = k)) (if S k = true then n else n + 1) → Q (!S k) { s with heap := h' }) :
    wpAny (model P w) A (setAddHashed a (.str k tk) ((PySem.strKind P w).hash k)) Q E s := by
  obtain ⟨o, es, ep, t, ho, hex, hd, g, nd, hm, hb, hf, hn, hr, hl⟩ := R
  have hkey : (PySem.strKind P w).is k (.str k tk) = true := strKind_is P w k tk
  have hsc : (Value.str k tk).scannable = true := rfl
  have hel : ElemsOf (PySem.strKind P w) es.toList := goodT_elems g
  have hgw : ∀ (b : Bool) {s₁ : Shared} {Q' : Unit → Shared → Prop}, Q' () s₁ → wpAny (model P w) A (match b with | true => rule "set.scan.the-table-gave-way" | false => pure ()) Q' E s₁ := fun b s₁ Q' q => by
    cases b
    · first | exact wpAny_pure q | exact wpAny_rule q
    · first | exact wpAny_pure q | exact wpAny_rule q
  unfold setAddHashed setAddHashedIn
  refine wpAny_holding (wpAny_bind (wpAny_setState_of ho hd hf ?_))
  dsimp only
  rw [byScan_of hsc hb hel]
  simp only [↓reduceIte]
  unfold setAddByScan
  refine wpAny_bind (wpAny_bind (wpAny_rule (wpAny_bind (wpAny_setScan_of hkey ho hd hf hel ?_))))
  cases hfi : List.findIdx? (fun e => (PySem.strKind P w).is k e.2) es.toList with
  | some j =>
    dsimp only
    obtain ⟨hj, pj, _⟩ := List.findIdx?_eq_some_iff_getElem.mp hfi
    have hSk : S k = true := (hm k).2 ((goodT_mem (P := P) (w := w) g k).2 ⟨es.toList[j], List.getElem_mem hj, pj⟩)
    have q := hQ s.heap (Heap.SameBut.refl a s.heap) ⟨o, es, ep, t, ho, hex, hd, g, nd, fun i => by
      rw [Bool.or_eq_true, decide_eq_true_eq, ← hm i]
      exact ⟨fun z => z.elim id (fun e => e ▸ hSk), .inl⟩, hb, hf, by rw [if_pos hSk]; exact hn, hr, hl⟩
    rw [hSk] at q
    exact wpAny_pure (wpAny_pure q)
  | none =>
    dsimp only
    have hnk : k ∉ es.toList.map keyT := fun z => by
      obtain ⟨e, he, q⟩ := (goodT_mem (P := P) (w := w) g k).1 z
      have c := List.findIdx?_eq_none_iff.mp hfi e he
      rw [q] at c
      cases c
    have hSk : S k = false := by
      cases q : S k with
      | false => rfl
      | true => exact absurd ((hm k).1 q) hnk
    have pm := layNew_perm t es ((PySem.strKind P w).hash k) (.str k tk)
    have hf1 := layNew_fits t es ((PySem.strKind P w).hash k) (.str k tk)
    have hr1 := layNew_ris t es ((PySem.strKind P w).hash k) (.str k tk) hr
    have hl1 := layNew_led t es ((PySem.strKind P w).hash k) (.str k tk)
    generalize layNew t es ((PySem.strKind P w).hash k) (.str k tk) = Z at pm hf1 hr1 hl1 ⊢
    obtain ⟨zs, t1, dum, gave⟩ := Z
    dsimp only at pm hf1 hr1 hl1 ⊢
    rw [Array.toList_push] at pm
    have pc : zs.toList.Perm (((PySem.strKind P w).hash k, Value.str k tk) :: es.toList) := pm.trans (List.perm_append_singleton _ _)
    have pk : (zs.toList.map keyT).Perm (k :: es.toList.map keyT) := pc.map keyT
    have g1 : ∀ e ∈ zs.toList, GoodT w e := fun e he => by
      rcases List.mem_cons.mp (pc.mem_iff.mp he) with rfl | z
      · exact ⟨k, tk, rfl, rfl⟩
      · exact g e z
    have nd1 : (zs.toList.map keyT).Nodup := pk.nodup_iff.mpr (List.nodup_cons.mpr ⟨hnk, nd⟩)
    have m1 : ∀ i, (S i || decide (i = k)) = true ↔ i ∈ zs.toList.map keyT := fun i => by
      rw [Bool.or_eq_true, decide_eq_true_eq, hm i, pk.mem_iff, List.mem_cons]
      exact Or.comm
    have hsz : zs.size = n + 1 := by rw [← Array.length_toList, pc.length_eq, List.length_cons, Array.length_toList, hn]
    have hb1 : zs.size < scanBound := by rw [hsz]; exact room
    have hled : w.params.followText "set-order" = true ∨ t1.led = true := hl.imp id fun z => by rw [hl1]; exact z
    have fin : ∀ h', Heap.SameBut a s.heap h' → SetT w h' a (fun j => S j || decide (j = k)) zs.size → Q true { s with heap := h' } := fun h' sb r => by
      have q := hQ h' sb
      rw [hSk] at q
      rw [hsz] at r
      exact q r
    refine wpAny_bind (hgw _ ?_)
    split
    · refine wpAny_bind ?_
      rw [hashByValue_scannable 8 hsc]
      refine wpAny_pure (setT_tail (fun b s₁ Q' q => ?_) ho hex hd g1 nd1 m1 hb1 ?_ ?_ ?_ fun h' sb r => ?_)
      · cases b
        · first | exact wpAny_pure q | exact wpAny_rule q
        · first | exact wpAny_pure q | exact wpAny_rule q
      · first | (split <;> first | exact hf1 | exact SetTable.fits_plain_off hf1) | exact hf1
      · first | (split <;> exact hr1) | exact hr1
      · first | (split <;> exact hled) | exact hled
      · dsimp only
        exact wpAny_pure (fin h' sb r)
    · refine wpAny_bind (wpAny_pure ?_)
      simp only [↓reduceIte]
      refine setT_tail (fun b s₁ Q' q => ?_) ho hex hd g1 nd1 m1 hb1 hf1 hr1 hled fun h' sb r => ?_
      · cases b
        · first | exact wpAny_pure q | exact wpAny_rule q
        · first | exact wpAny_pure q | exact wpAny_rule q
      · dsimp only
        exact wpAny_pure (fin h' sb r)
/-! ### set(xs) -/
/-- a fresh set, as the model lays it -/
abbrev frS (w : World) : Obj := { cls := .type "set", dict := none, data := .set #[] 0 (.fresh 0 0 (!w.params.followText "set-order")) }
theorem setT_new {h : Heap} {a : Addr} {ns : List Str} (ho : h.get? a = some (frS w)) : SetT w h a (fun j => decide (j ∈ ns.take 0)) 0 := by
  refine ⟨_, #[], 0, _, ho, ⟨rfl, rfl, rfl⟩, rfl, (fun e he => by simp at he), (by simp), (fun k => by simp), (by decide), (by rfl), rfl, List.Pairwise.nil, ?_⟩
  show _ ∨ (!w.params.followText "set-order") = true
  cases w.params.followText "set-order" with
  | false => exact .inr rfl
  | true => exact .inl rfl
theorem set_loopT {I : Addr} {fp wr : List Addr} {G : Array GenState → Array GenState → Prop} {n : Nat} {Pv : Nat → Value → Prop} {St : Nat → Shared → Prop} {R : Result → Shared → Prop}
    (W : WalksS P w A.in1 I fp wr G n Pv St) (C : Addr) (hSf : C ∉ fp) (ns : List Str) (hn : n = ns.length) (hb : ns.length + 1 < scanBound) (hval : ∀ i v, Pv i v → ∃ k t, ns[i]? = some k ∧ v = .str k t) :
    ∀ (k i : Nat) (s : Shared), n - i = k → i ≤ n → St i s → (∃ c, c ≤ i ∧ SetT w s.heap C (fun j => decide (j ∈ ns.take i)) c) →
      (∀ s' c, Moved (C :: wr) G s s' → c ≤ n → SetT w s'.heap C (fun j => decide (j ∈ ns)) c → R (.ok (.ret .none)) s') → codeAny (model P w) A (.builtin "set.update.loop" ⟨[.ref C, .ref I], []⟩) R s := by
  have hSw : C ∉ wr := fun h => hSf (W.sub _ h)
  have hsub : ∀ b ∈ wr, b ∈ C :: wr := fun b hb => List.mem_cons_of_mem _ hb
  intro k
  induction k with
  | zero =>
    rintro i s hk' hi hst ⟨c, hc, hS⟩ hR
    obtain rfl : i = n := by omega
    refine codeAny_builtin F.entry_set_update_loop ?_
    rw [Around.under_plainId F.plain_set_update_loop _]
    refine wpAny_bind (W.done s _ _ hst fun s' hm => ?_)
    show wpAny _ A.in1 (ret Value.none) _ _ s'
    rw [List.take_of_length_le (by omega)] at hS
    exact wpAny_pure (hR s' c (hm.mono hsub) hc (hS.at fun o e => hm.heap C o hSw e))
  | succ k ih =>
    rintro i s hk' hi hst ⟨c, hc, hS⟩ hR
    have hlt : i < n := by omega
    refine codeAny_builtin F.entry_set_update_loop ?_
    rw [Around.under_plainId F.plain_set_update_loop _]
    refine wpAny_bind (W.item i s _ _ hlt hst fun v s' hP hst' hm => ?_)
    obtain ⟨z, t, hz, rfl⟩ := hval i v hP
    have hS' : SetT w s'.heap C (fun j => decide (j ∈ ns.take i)) c := hS.at fun o e => hm.heap C o hSw e
    show wpAny _ A.in1 (holding [Value.str z t] (setAdd C (.str z t)) >>= _) _ _ s'
    refine wpAny_bind (wpAny_holding ?_)
    unfold setAdd
    refine wpAny_holding (wpAny_bind ((PySem.strKind P w).pyHash (k := z) (strKind_is _ _ _ _) ?_))
    refine setT_add (s := { s' with toks := s'.toks + 1 }) hS' (by omega) fun h' hsb hS2 => ?_
    have hS3 : SetT w h' C (fun j => decide (j ∈ ns.take (i + 1))) (if decide (z ∈ ns.take i) = true then c else c + 1) := hS2.congr fun j => by
      rw [List.take_add_one, hz]
      simp [List.mem_append]
    have hc3 : (if decide (z ∈ ns.take i) = true then c else c + 1) ≤ i + 1 := by split <;> omega
    refine wpAny_pure ⟨plainId_quiet F.plain_set_update_loop _, ih (i + 1) _ (by omega) hlt (W.frame _ s' _ _ hst' (Nat.le_succ _) fun b hb o e => ?_) ⟨_, hc3, hS3⟩ fun s'' c2 hm2 hcc hS4 => ?_⟩
    · rw [hsb.2 b (fun h : b = C => hSf (by rw [← h]; exact hb))]
      exact e
    · refine hR s'' c2 (Moved.trans W.gtrans ((hm.mono hsub).then_heap (Nat.le_succ _) fun b o hb e => ?_) hm2) hcc hS4
      rw [hsb.2 b (fun h : b = C => hb (by rw [h]; exact List.mem_cons_self))]
      exact e
theorem call_setT {l : Addr} {items : Array Value} (ns : List Str) {Q : Value → Shared → Prop} (hh : A.handled = none) (hl : s.heap.IsList l items) (hit : StrsAre items.toList ns) (hb : ns.length + 1 < scanBound)
    (h : ∀ (h' : Heap) (tk c : Nat), SetT w h' s.heap.objs.size (fun j => decide (j ∈ ns)) c → c ≤ ns.length → (∀ b o, s.heap.get? b = some o → h'.get? b = some o) → Q (.ref s.heap.objs.size) { s with heap := h', toks := tk }) :
    wpAny (model P w) A (call (.type "set") [.ref l]) Q E s := by
  have hisz : items.size = ns.length := by
    have q := hit.len_eq
    rw [Array.length_toList] at q
    exact q
  obtain ⟨c, tl, hmro⟩ := PySem.F.called_set.mro
  have hmade := PySem.F.called_set.made
  have hsub := PySem.F.called_set.sub
  refine wpAny_call (codeAny_of_tree ?_)
  show wpAny _ _ (callAny (.type "set") _) _ _ _
  refine wpAny_pure ⟨Code.quiet_builtin _ (by decide +kernel), codeAny_builtin PySem.F.entry_type_call ?_⟩
  rw [Around.under_plain (weight_type_call_type "set" [.ref l] []) rfl]
  have h1 := PySem.F.called_set.notType
  have h2 := PySem.F.called_set.canCreate
  have hct := PySem.F.typeCall_set_1 (.ref l)
  repeat (any_goals (first | assumption | wp_step))
  refine codeAny_mono (code_set_led1 (.ref l) (E := E) (Q₁ := fun obj s₁ => obj = .ref s.heap.objs.size ∧ s₁ = { s with heap := s.heap.push (frS w) }) ⟨rfl, rfl⟩) fun r s₁ hr => ?_
  match r, hr with
  | .error e, hr => exact hr
  | .ok .next, hr => exact hr.elim
  | .ok .brk, hr => exact hr.elim
  | .ok .cont, hr => exact hr.elim
  | .ok (.ret obj), hr =>
    obtain ⟨rfl, rfl⟩ := hr
    have hS : (s.heap.push (frS w)).get? s.heap.objs.size = some (frS w) := Heap.get?_push_size _ rfl
    have hT : Shared.TypeIs { s with heap := s.heap.push (frS w) } (.ref s.heap.objs.size) "set" := ⟨_, hS, rfl⟩
    have hli := PySem.F.called_set.init.lookup
    have hbi := PySem.F.called_set.init.bind (.ref s.heap.objs.size)
    repeat (any_goals (first | assumption | wp_step))
    refine codeAny_mono (codeAny_call_builtin (R := wants (fun r s₂ => r = .none ∧ ∃ h' tk c, s₂ = { s with heap := h', toks := tk } ∧ SetT w h' s.heap.objs.size (fun j => decide (j ∈ ns)) c ∧ c ≤ ns.length ∧ (∀ b o, s.heap.get? b = some o → h'.get? b = some o)) E) PySem.F.called_set.init.plain PySem.F.entry_set_init (check_set_init_1 hT ?_)) fun r₂ s₂ hr₂ => ?_
    · obtain ⟨ol, hol, hcl, nl, hdl⟩ := hl
      obtain ⟨ocls, odict, odata, oslots⟩ := ol
      simp only at hcl hdl
      subst hcl; subst hdl
      have hol' : (s.heap.push (frS w)).get? l = some { cls := .type "list", dict := odict, data := .seq items nl, slots := oslots } := Heap.get?_push_of_some _ hol
      have hsls := PySem.F.sub_list_set
      have hslf := PySem.F.sub_list_frozenset
      have hne : (Value.type "list" == Value.type "dict") = false := by decide
      have hl1 : (s.heap.push (frS w)).IsList l items := ⟨_, hol', rfl, nl, rfl⟩
      unfold Builtin.«set.__init__» noKeywords Builtin.Frozenset.updateFrom
      generalize hPI : pyIter = PI
      wp_walk
      subst hPI
      refine wpAny_pyIter_list hl1 (wpAny_bind (wpAny_runValue ?_))
      have hlS : l < s.heap.objs.size := Heap.lt_size hol
      have hh3 : A.in1.in1.in1.handled = none := by simp [hh]
      have hneI : l ≠ (s.heap.push (frS w)).objs.size := by
        rw [Heap.size_push]
        exact Nat.ne_of_lt (Nat.lt_succ_of_lt hlS)
      have hSf : s.heap.objs.size ∉ [(s.heap.push (frS w)).objs.size, l] := by
        rw [Heap.size_push]
        intro z
        rcases List.mem_cons.mp z with z | z
        · exact Nat.ne_of_lt (Nat.lt_succ_self _) z
        · exact Nat.ne_of_gt hlS (List.mem_singleton.mp z)
      have hval : ∀ (i : Nat) (v : Value), items[i]? = some v → ∃ k t, ns[i]? = some k ∧ v = .str k t := fun i v hv => by
        obtain ⟨y, t, e1, e2⟩ := StrsAre.item hit i v (by rw [Array.getElem?_toList]; exact hv)
        exact ⟨y, t, e2, e1⟩
      have hget : ((s.heap.push (frS w)).push { cls := .type "list_iterator", data := .fields #[.ref l, .int 0 0] }).get? s.heap.objs.size = some (frS w) := Heap.get?_push_of_some _ hS
      refine set_loopT ((Walks.list hh3 _ l hneI items).toS) s.heap.objs.size hSf ns hisz hb hval (items.size - 0) 0 _ (by omega) (Nat.zero_le _) ⟨⟨_, Heap.get?_push_size _ rfl, rfl, rfl⟩, (hl1.push _)⟩ ⟨0, Nat.le_refl 0, setT_new hget⟩ fun s' c' hm hc' hS' => ?_
      obtain ⟨h', g2, d', tk', os'⟩ := s'
      have eg : g2 = s.gens := hm.gens
      have ed : d' = s.drawn := hm.drawn
      have eo : os' = s.os := hm.os
      subst eg; subst ed; subst eo
      show wpAny _ _ _ _ _ _
      refine wpAny_pure ?_
      show wpAny _ _ (ret Value.none) _ _ _
      rw [hisz] at hc'
      refine wpAny_pure ⟨rfl, h', tk', c', rfl, hS', hc', fun b o e => ?_⟩
      have hb0 : b < s.heap.objs.size := Heap.lt_size e
      refine hm.heap b o (fun z => ?_) (Heap.get?_push_of_some _ (Heap.get?_push_of_some _ e))
      rcases List.mem_cons.mp z with z | z
      · exact Nat.ne_of_lt hb0 z
      · have z2 := List.mem_singleton.mp z
        rw [Heap.size_push] at z2
        exact Nat.ne_of_lt (Nat.lt_succ_of_lt hb0) z2
    · match r₂, hr₂ with
      | .error e, hr₂ => exact hr₂
      | .ok .next, hr₂ => exact hr₂.elim
      | .ok .brk, hr₂ => exact hr₂.elim
      | .ok .cont, hr₂ => exact hr₂.elim
      | .ok (.ret r), hr₂ =>
        obtain ⟨rfl, h', tk, c', rfl, hS', hc', hk'⟩ := hr₂
        repeat (any_goals (first | assumption | wp_step))
        exact h _ _ _ hS' hc' hk'
/-! ### sorted -/
theorem strs_of : ∀ (l : List Value), (∀ v ∈ l, ∃ k tk, v = Value.str k tk) → StrsAre l (l.map fun v => keyT (0, v))
  | [], _ => .nil
  | v :: l, h => by
    obtain ⟨k, tk, rfl⟩ := h v List.mem_cons_self
    exact .cons k tk (strs_of l fun u hu => h u (List.mem_cons_of_mem _ hu))
theorem sorted_setT {Q : Value → Shared → Prop} (R : SetT w s.heap a S n) (hh : A.handled = none) (h64 : n < 64)
    (hQ : ∀ s' p (out : Array Value) (c : Nat) (ns : List Str), (∀ b o, s.heap.get? b = some o → s'.heap.get? b = some o) → s'.gens = s.gens → s'.os = s.os → s.heap.objs.size ≤ p → s'.heap.get? p = some (seqObj "list" out c) →
      StrsAre out.toList ns → sortedS ns = true → ns.Nodup → (∀ k, k ∈ ns ↔ S k = true) → ns.length = n → Q (.ref p) s') :
    wpAny (model P w) A (call (.builtin "sorted") [.ref a]) Q E s := by
  obtain ⟨o, es, ep, t, ho, hex, hd, g, nd, hm, hb, hf, hn, hr, hl⟩ := R
  refine Calls.call_function_entry kind_sorted plain_sorted entry_sorted (args_sorted1 _) ?_
  unfold Builtin.«sorted»
  refine wpAny_bind (m := checkCount "sorted" 1 1 _) (wpAny_pure (wpAny_bind (collect_set (A := A.in1) hh ⟨o, ho, hex.1, hd⟩ hf hb hr hl fun s1 vs k1 hz g1 o1 pm => ?_)))
  have hvl : vs.length = n := by rw [pm.length_eq, List.length_map, Array.length_toList]; exact hn
  have hI : StrsAre vs (vs.map fun v => keyT (0, v)) := strs_of vs fun v hv => by
    obtain ⟨e, he, rfl⟩ := List.mem_map.mp (pm.mem_iff.mp hv)
    obtain ⟨k, tk, h1, _⟩ := g e he
    exact ⟨k, tk, h1⟩
  have pk : (vs.map fun v => keyT (0, v)).Perm (es.toList.map keyT) := by
    have q := pm.map fun v => keyT (0, v)
    rw [List.map_map] at q
    exact q
  have hoL : (s1.heap.push (seqObj "list" vs.toArray 0)).get? s1.heap.objs.size = some (seqObj "list" vs.toArray 0) := Heap.get?_push_size _ rfl
  refine wpAny_bind (wpAny_newList ?_ (by rw [hvl, sizeLine_eq]; omega))
  refine wpAny_bind (wpAny_holding (wpAny_call_entry slot_list_sort ⟨_, hoL, rfl⟩ entry_list_sort (list_sort_treeK strKind_oneLt (s := { s1 with heap := s1.heap.push (seqObj "list" vs.toArray 0) }) hoL hI.keysOf (fun v₁ v₂ rest e => keyKind_strs (by rw [← e]; exact hI)) (by rw [hvl]; exact h64) fun st' hp hs => ⟨_, rfl, ?_⟩) (args_list_sort _)))
  obtain ⟨ys, q1, q2, q3⟩ := sorted_out_str hI hp hs
  obtain ⟨e', he'⟩ := sortedHeap_at (vs := vs) (out := (arrOf st').map (·.2)) hoL
  have pn : ys.Perm (es.toList.map keyT) := q2.trans pk
  refine wpAny_pure ⟨_, rfl, hQ _ s1.heap.objs.size ((arrOf st').map (·.2)) e' ys (fun b u e => ?_) g1 o1 hz he' q1 q3 (pn.nodup_iff.mpr nd) (fun k => by rw [pn.mem_iff, ← hm k]) ?_⟩
  · have q := k1 b u e
    have hlt := Heap.lt_size q
    show (sortedHeap (s1.heap.push (seqObj "list" vs.toArray 0)) s1.heap.objs.size vs ((arrOf st').map (·.2))).get? b = some u
    rw [sortedHeap_old (Nat.ne_of_lt hlt) (by rw [size_push']; exact Nat.lt_succ_of_lt hlt)]
    exact Heap.get?_push_of_some _ q
  · rw [pn.length_eq, List.length_map, Array.length_toList]
    exact hn
end
/-! ### the rules -/
/-- the set of the texts ns -/
def SetTx (w : World) (a : Addr) (ns : List Str) : HO := .ext fun h => ∃ c, c ≤ ns.length ∧ SetT w h a (fun j => decide (j ∈ ns)) c
def rSetTx (K : PySem.W.Frag) (w : World) : List V → Hp → VK → Prop := fun xs H Q => ∃ (l : Addr) (ns : List Str), xs = [V.ref l] ∧ SqL K H l (ns.map V.str) ∧ ns.length < 64 ∧ ∀ a, H a = none → Q (.ref a) (upd H a (SetTx w a ns))
def rSortTx (w : World) : List V → Hp → VK → Prop := fun xs H Q => ∃ (a : Addr) (ns : List Str), xs = [V.ref a] ∧ H a = some (SetTx w a ns) ∧ ns.length < 64 ∧ ∀ ys p, sortedS ys = true → ys.Nodup → (∀ k, k ∈ ys ↔ k ∈ ns) → ys.length < 64 → H p = none → Q (.ref p) (upd H p (.lst (ys.map V.str)))
section
variable {X : Cx}
theorem cr_setTx {K : PySem.W.Frag} {w : World} (eK : X.K = K) (ew : X.w = w) (hc : X.calm = true) : CallR X (.type "set") (rSetTx K w) := by
  subst eK ew
  intro pins s σ H xs us Q I r h
  obtain ⟨l, ns, rfl, hl, hf, q⟩ := h
  rw [Vals.ref1 r]
  obtain ⟨its, rv, pl, hz⟩ := I.list hl
  refine call_setT (P := X.prog) (w := X.w) ns (I.ok.hd hc) pl.isList (by simpa using rv.strs) (by unfold scanBound; omega) fun h' tk c R hcl k => ?_
  refine ⟨.ref s.heap.objs.size, upd H s.heap.objs.size (SetTx X.w s.heap.objs.size ns), I.laid (t' := tk) k (Nat.le_refl _) ?_, rfl, q _ (I.hok.fresh (Nat.le_refl _))⟩
  refine ⟨⟨c, hcl, R⟩, ?_, fun h1 h2 p k => ?_⟩
  · obtain ⟨o, _, _, _, ho, _⟩ := R
    exact ⟨o, ho⟩
  · obtain ⟨c2, b1, b2⟩ := p
    exact ⟨c2, b1, b2.at k⟩
theorem cr_sortTx {w : World} (ew : X.w = w) (hc : X.calm = true) : CallR X (.builtin "sorted") (rSortTx w) := by
  subst ew
  intro pins s σ H xs us Q I r h
  obtain ⟨a, ns, rfl, ha, h64, q⟩ := h
  obtain ⟨c, hcl, R⟩ := (I.hok a _ ha).1
  rw [Vals.ref1 r]
  refine sorted_setT R (I.ok.hd hc) (by omega) fun s' p out e ys k g o hp hg hi hs hn hm hl => ?_
  have hlen : (ys.map V.str).length ≤ sizeLine := by rw [List.length_map, sizeLine_eq]; omega
  have hn0 : H p = none := I.hok.fresh hp
  have J : Inv X pins σ (upd H p (.lst (ys.map V.str))) { s with heap := s'.heap, gens := s'.gens, drawn := s'.drawn, toks := s'.toks } :=
    I.call (ch := []) (Un.laid k hp hn0) (I.hok.laid k hp ⟨hlen, out.toList, e, vals_of_strs hi, hg⟩) (by rw [g]; exact I.bare) (fun _ z => nomatch z)
  have es : s' = { s with heap := s'.heap, gens := s'.gens, drawn := s'.drawn, toks := s'.toks } := by
    cases s'
    cases s
    cases o
    rfl
  rw [es]
  exact ⟨.ref p, _, J, rfl, q ys p hs hn (fun k => (hm k).trans decide_eq_true_iff) (by omega) hn0⟩
end
/-- one of two readings -/
theorem pe_or {X : Cx} {e : Expr} {t1 t2 : TE} (h1 : PE X e t1) (h2 : PE X e t2) : PE X e (fun σ H Q => t1 σ H Q ∨ t2 σ H Q) :=
  ⟨fun pins s σ H Q I h => h.elim (fun q => h1.run pins s σ H Q I q) fun q => h2.run pins s σ H Q I q⟩
end Sk
/-! x, *y = a list; try whose body raises nothing -/
namespace Sk
open PySem PySem.Spec PyProof.Rows L2
/-- the first item, a new list of the others -/
def gStarL (K : PySem.W.Frag) (t : TGs) : TG := fun v σ H Q => ∃ (l : Addr) (z : V) (zs : List V), v = .ref l ∧ SqL K H l (z :: zs) ∧ zs.length ≤ 16000 ∧ ∀ D, H D = none → t [z, .ref D] σ (upd H D (.lst zs)) Q
section
variable {X : Cx} {pos ps : Pos} {t1 t2 : Expr} {k : Nat} {t : TGs}
theorem unpack_first {prog : Program} {w : World} {A : Around} {E : Value → Shared → Prop} {s : Shared} {l : Addr} {items : Array Value} {Q : List Value → Shared → Prop} (hh : A.handled = none) (hl : s.heap.IsList l items) (h1 : 1 ≤ items.size) (hz : items.size ≤ 16384)
    (hQ : ∀ (h₂ : Heap) (tk : Nat), (∀ b o, b ≠ s.heap.objs.size → s.heap.get? b = some o → h₂.get? b = some o) → wpAny (model prog w) A (newList (items.toList.drop 1)) (fun d s₂ => Q (items.toList.take 1 ++ [d]) s₂) E { s with heap := h₂, toks := tk }) :
    wpAny (model prog w) A (unpackItems (.ref l) 2 (some 1)) Q E s := by
  have hll : l < s.heap.objs.size := by obtain ⟨o, ho, _⟩ := hl; exact Heap.lt_size ho
  have hlt : l ≠ s.heap.objs.size := Nat.ne_of_lt hll
  unfold unpackItems
  refine wpAny_bind ?_
  unfold notIterableAtAll
  refine wpAny_bind (wpAny_specialOf hl.typeIs slot_list_iter.lookup (wpAny_pure ?_))
  simp only [Bool.false_eq_true, if_false]
  refine wpAny_bind (wpAny_holding (wpAny_pyIter_list hl (wpAny_bind (wpAny_holding (PySem.W.kun_draw hlt 1 0 _ _ ⟨_, Heap.get?_push_size _ rfl, rfl, rfl⟩ (hl.push _) (by omega) fun h₁ hit₁ hs₁ => ?_)))))
  have hl₁ : h₁.IsList l items := (hl.push _).extBut hs₁.extBut hlt
  rw [Nat.zero_add] at hit₁
  obtain ⟨oi, hoi, _⟩ := id hit₁
  obtain ⟨ol, hol, _⟩ := id hl₁
  rw [List.drop_zero]
  have hfl : (items.toList.take 1).length = 1 := by rw [List.length_take, Array.length_toList]; omega
  rw [if_neg (show ¬ ((items.toList.take 1).length < 1) by rw [hfl]; omega)]
  refine wpAny_bind (wpAny_holding (PySem.W.kun_collect (s := { s with heap := h₁ }) (T := "list_iterator") (.inr (.inr (.inl rfl))) (Walks.list (A := A.in1) hh s.heap.objs.size l hlt items) (fun j u st => st.1.typeIs) (k := 1) (by omega) ⟨hit₁, hl₁⟩ (Heap.lt_size hoi) (Heap.lt_size hol) (fun h₂ tk hk => ?_) (by rw [sizeLine_eq]; omega)))
  have hrl : (items.toList.drop 1).length = items.size - 1 := by rw [List.length_drop, Array.length_toList]
  have hmid : (items.toList.drop 1).length - (2 - 1 - 1) = (items.toList.drop 1).length := by omega
  show wpAny _ _ (if (items.toList.drop 1).length < 2 - 1 - 1 then _ else _) _ _ _
  rw [if_neg (by omega)]
  show wpAny _ _ (newList ((items.toList.drop 1).take ((items.toList.drop 1).length - (2 - 1 - 1))) >>= fun d => pure (items.toList.take 1 ++ [d] ++ (items.toList.drop 1).drop ((items.toList.drop 1).length - (2 - 1 - 1)))) _ _ _
  rw [hmid, List.take_length, List.drop_length]
  refine wpAny_bind (wpAny_mono (hQ h₂ tk fun b o hb e => hk b o hb (hs₁.extBut b o hb (Heap.get?_push_of_some _ e))) (fun d s₂ q => ?_) fun _ _ z => z)
  rw [List.append_nil]
  exact wpAny_pure q
theorem pg_starL (hc : X.calm = true) (h : PGs X [t1, t2] t) (hn : (assignEach [t1, .Starred t2 ps] X.env).length = 2 := by rfl) (hst : (assignEach [t1, .Starred t2 ps] X.env).findIdx? (·.1) = some 1 := by rfl)
    (he : (assignEach [t1, .Starred t2 ps] X.env).map (·.2) = (assignEach [t1, t2] X.env).map (·.2) := by rfl) : PG X (.Tuple [t1, .Starred t2 ps] k pos) (gStarL X.K t) := by
  refine ⟨fun pins s σ H v u Q I r hw => ?_⟩
  obtain ⟨l, z, zs, rfl, hq, hl, hw⟩ := hw
  cases r
  obtain ⟨its, rv, pl, hz⟩ := I.list hq
  cases rv with
  | cons r1 r2 =>
    rename_i u1 us
    have hul := r2.length
    rw [PyProof.Rows.assign_Tuple]
    refine wpAny_bind (wpAny_standAt ?_)
    unfold unpack
    rw [hn, hst]
    refine wpAny_bind (wpAny_holding (unpack_first (I.ok.hd hc) pl.isList (by simp) (by simp; omega) fun h₂ tk hk => ?_))
    have k2 : ∀ b o, s.heap.get? b = some o → h₂.get? b = some o := fun b o e => hk b o (Nat.ne_of_lt (Heap.lt_size e)) e
    have I1 : Inv X pins σ H { s with heap := h₂, toks := tk } := I.kept k2
    refine wpAny_newList ?_ (by simp; rw [sizeLine_eq]; omega)
    have e1 : ((u1 :: us).toArray.toList.drop 1).toArray = us.toArray := by simp
    have e2 : (u1 :: us).toArray.toList.take 1 ++ [Value.ref h₂.objs.size] = [u1, .ref h₂.objs.size] := by simp
    show wpAny _ _ (assignInOrder _ ((u1 :: us).toArray.toList.take 1 ++ [Value.ref h₂.objs.size])) _ _ _
    rw [he, e2]
    have ho : (h₂.push { cls := .type "list", data := .seq ((u1 :: us).toArray.toList.drop 1).toArray }).get? h₂.objs.size = some (seqObj "list" us.toArray 0) := by
      rw [e1]
      exact Heap.get?_push_size _ rfl
    have J : Inv X pins σ (upd H h₂.objs.size (.lst zs)) { s with heap := h₂.push { cls := .type "list", data := .seq ((u1 :: us).toArray.toList.drop 1).toArray }, toks := tk } :=
      I1.laid (t' := tk) (fun b u e => Heap.get?_push_of_some _ e) (Nat.le_refl _) (show ObjOk X.prog X.w _ _ _ (.lst zs) from ⟨by rw [sizeLine_eq]; omega, us, 0, r2, ho⟩)
    exact h.run pins _ σ _ [z, .ref h₂.objs.size] _ Q J (.cons r1 (.cons rfl .nil)) (hw _ (I1.hok.fresh (Nat.le_refl _)))
/-- try: nothing is raised -/
theorem ps_try_nox {body : List Stmt} {h0 : ExceptHandler} {tb : TS} (hb : PSs X body tb) (hx : ∀ e s, X.xe e s → False := by intro _ _ z; exact z) : PS X (.Try body [h0] [] [] pos) tb := by
  refine ⟨fun pins s σ H D I h => wpAny_Try_except (wpAny_mono (hb.run pins s σ H D I h) (fun f s1 hsp => ?_) fun e s1 he => (hx e s1 he).elim)⟩
  cases f with
  | next => exact wpAny_execs_nil hsp
  | brk => exact hsp
  | cont => exact hsp
  | ret u => exact hsp
/-- sep.join(texts), K told -/
def rJoin (K : PySem.W.Frag) : V → List V → Hp → VK → Prop := fun x xs H Q => ∃ a p, ∃ ys : List Str, x = .str a ∧ xs = [.ref p] ∧ (SqL K H p (ys.map V.str) ∨ SqT K H p (ys.map V.str)) ∧ (ys.map (·.length)).sum + ys.length * a.length ≤ 16777216 ∧ Q (.str (Txt.join a ys)) H
theorem peJoin {K : PySem.W.Frag} {o e : Expr} {to te : TE} {apos : Pos} (eK : X.K = K) (ho : PE X o to) (he : PE X e te) (hs : starEach [e] X.env = [(false, eval e X.env)] := by rfl) (hbase : attributeBase o "join" X.env (eval o X.env) = eval o X.env := by rfl) (hline : (apos.endLine == pos.line) = true := by rfl) :
    PE X (.Call (.Attribute o "join" apos) [e] [] pos) (tM1 (rJoin K) to te) := by
  subst eK
  exact pe_join ho he hs hbase hline
end
end Sk
/-! a pool of draws: a list of three numbers -/
namespace Sk
open PySem PySem.Spec PyProof.Rows L2
/-- the pool at p: digits left, what is mixed, how many were mixed (at most n) -/
def PlAt (p : Addr) (n : Nat) (H : Hp) : Prop := ∃ d m c : Int, H p = some (.lst [.int d, .int m, .int c]) ∧ 0 ≤ d ∧ 0 ≤ m ∧ m < 2 ^ 62 ∧ 0 ≤ c ∧ c ≤ n
/-- the pool, the cells L that may change, the frozen part G -/
structure Hq (T : List (Addr × Str)) (p : Addr) (n : Nat) (L : List (Addr × HO)) (G H : Hp) : Prop where
  src : PlAt p n H
  fz : Fz G H
  gp : G p = none
  cel : ∀ x ∈ L, H x.1 = some x.2 ∧ G x.1 = none ∧ x.1 ≠ p ∧ NoTab x.2
  nod : (L.map (·.1)).Nodup
  tab : LamX.Tabs T H
section
variable {T : List (Addr × Str)} {p : Addr} {n : Nat} {L : List (Addr × HO)} {G H H' : Hp}
theorem Hq.mono {m : Nat} (s : Hq T p n L G H) (h : n ≤ m) : Hq T p m L G H := by
  obtain ⟨⟨d, mm, c, h1, h2, h3, h4, h5, h6⟩, c1, c2, c3, c4, c5⟩ := s
  exact ⟨⟨d, mm, c, h1, h2, h3, h4, h5, by omega⟩, c1, c2, c3, c4, c5⟩
/-- all that stood stands -/
theorem Hq.gr (s : Hq T p n L G H) (g : Gr T H H') : Hq T p n L G H' := by
  obtain ⟨⟨d, mm, c, h1, h2⟩, fz, gp, cel, nod, tab⟩ := s
  exact ⟨⟨d, mm, c, g.at h1 .lst, h2⟩, fz.gr g, gp, fun x hx => ⟨g.at (cel x hx).1 (cel x hx).2.2.2, (cel x hx).2⟩, nod, g.tab tab⟩
/-- the heap grew, and at a new place stands o -/
theorem Hq.grow {a : Addr} {o : HO} (s : Hq T p n L G H) (g : Gr T H H') (h : Nw H a) (e : H' a = some o) (nt : NoTab o) : Hq T p n ((a, o) :: L) G H' := by
  have s2 := s.gr g
  have no : ∀ u, H a = some u → ¬ NoTab u := fun u hu n2 => by
    obtain ⟨ps, z⟩ := h u hu
    exact n2.1 ps z
  obtain ⟨⟨d, mm, c, h1, _⟩, fz, gp, cel, nod, tab⟩ := s
  obtain ⟨b1, fz', _, cel', _, tab'⟩ := s2
  refine ⟨b1, fz', gp, fun y hy => ?_, ?_, tab'⟩
  · rcases List.mem_cons.mp hy with rfl | hy
    · refine ⟨e, ?_, fun z => ?_, nt⟩
      · cases q0 : G a with
        | none => rfl
        | some u => exact absurd (fz.nt a u q0) (no u (fz.sub a u q0))
      · exact no _ (by rw [show a = p from z]; exact h1) .lst
    · exact cel' y hy
  · rw [List.map_cons, List.nodup_cons]
    refine ⟨fun hm => ?_, nod⟩
    obtain ⟨y, hy, e2⟩ := List.mem_map.mp hm
    obtain ⟨c1, _, _, c4⟩ := cel y hy
    rw [e2] at c1
    exact no _ c1 c4
/-- a new cell -/
theorem Hq.new {a : Addr} {o : HO} (s : Hq T p n L G H) (h : H a = none) (nt : NoTab o) : Hq T p n ((a, o) :: L) G (upd H a o) := s.grow (Gr.new h) (.of h) upd_same nt
/-- what stands at the i-th cell -/
theorem Hq.get {i : Nat} {a : Addr} {o : HO} (s : Hq T p n L G H) (h : L[i]? = some (a, o)) : H a = some o := (s.cel (a, o) (List.mem_of_getElem? h)).1
/-- the i-th cell is written -/
theorem Hq.put {i : Nat} {a : Addr} {o o' : HO} (s : Hq T p n L G H) (h : L[i]? = some (a, o)) (nt : NoTab o') : Hq T p n (L.set i (a, o')) G (upd H a o') := by
  have hm := List.mem_of_getElem? h
  obtain ⟨⟨d, mm, c, h1, h2⟩, fz, gp, cel, nod, tab⟩ := s
  obtain ⟨c1, c2, c3, c4⟩ := cel _ hm
  have hi : i < L.length := (List.getElem?_eq_some_iff.mp h).1
  have ei : L[i] = (a, o) := (List.getElem?_eq_some_iff.mp h).2
  have sub : ∀ y ∈ L.set i (a, o'), y = (a, o') ∨ (y ∈ L ∧ y.1 ≠ a) := fun y hy => by
    obtain ⟨j, hj, ej⟩ := List.mem_iff_getElem.mp hy
    by_cases hij : i = j
    · subst hij
      rw [List.getElem_set_self] at ej
      exact .inl ej.symm
    · rw [List.getElem_set_ne hij] at ej
      refine .inr ⟨by rw [← ej]; exact List.getElem_mem _, fun z => hij ?_⟩
      rw [List.length_set] at hj
      have q1 : (L.map (·.1))[i]'(by rw [List.length_map]; exact hi) = (L.map (·.1))[j]'(by rw [List.length_map]; exact hj) := by
        rw [List.getElem_map, List.getElem_map, ei, ej, z]
      exact (List.getElem_inj nod).mp q1
  refine ⟨⟨d, mm, c, by rw [upd_ne (Ne.symm c3)]; exact h1, h2⟩, fz.put c2, gp, fun y hy => ?_, ?_, Tabs.upd tab c1 c4⟩
  · rcases sub y hy with rfl | ⟨hy, z⟩
    · exact ⟨upd_same, c2, c3, nt⟩
    · rw [upd_ne z]
      exact cel y hy
  · rw [List.map_set]
    have : (L.map (·.1)).set i a = L.map (·.1) := by
      have e2 : (L.map (·.1))[i]'(by rw [List.length_map]; exact hi) = a := by rw [List.getElem_map, ei]
      conv => rhs; rw [← List.set_getElem_self (as := L.map (·.1)) (i := i) (by rw [List.length_map]; exact hi)]
      rw [e2]
    show ((L.map (·.1)).set i a).Nodup
    rw [this]
    exact nod
/-- fewer cells -/
theorem Hq.sub {L' : List (Addr × HO)} (s : Hq T p n L G H) (h : L'.Sublist L) : Hq T p n L' G H := by
  obtain ⟨a, fz, gp, cel, nod, tab⟩ := s
  exact ⟨a, fz, gp, fun x hx => cel x (h.subset hx), nod.sublist (h.map _), tab⟩
/-- the first cell is frozen -/
theorem Hq.freeze {a : Addr} {o : HO} (s : Hq T p n ((a, o) :: L) G H) : Hq T p n L (upd G a o) H := by
  obtain ⟨sr, fz, gp, cel, nod, tab⟩ := s
  obtain ⟨c1, c2, c3, c4⟩ := cel _ (List.mem_cons_self ..)
  rw [List.map_cons, List.nodup_cons] at nod
  refine ⟨sr, fz.add c1 c4, ?_, fun x hx => ?_, nod.2, tab⟩
  · rw [upd_ne (Ne.symm c3)]
    exact gp
  · obtain ⟨d1, d2, d3, d4⟩ := cel x (List.mem_cons_of_mem _ hx)
    refine ⟨d1, ?_, d3, d4⟩
    rw [upd_ne (fun z => nod.1 (List.mem_map.mpr ⟨x, hx, z⟩))]
    exact d2
theorem Hq.drop1 {c : Addr × HO} (s : Hq T p n (c :: L) G H) : Hq T p n L G H := s.sub (.cons _ (.refl _))
theorem Hq.drop2 {c d : Addr × HO} (s : Hq T p n (c :: d :: L) G H) : Hq T p n (c :: L) G H := s.sub (.cons₂ _ (.cons _ (.refl _)))
theorem Hq.fzat {a : Addr} {o : HO} (s : Hq T p n L G H) (h : G a = some o) : H a = some o := s.fz.sub _ _ h
theorem Hq.gfree {a : Addr} (s : Hq T p n L G H) (h : H a = none) : G a = none := s.fz.free h
theorem Hq.cfree {c : Addr × HO} (s : Hq T p n (c :: L) G H) : G c.1 = none := (s.cel c (List.mem_cons_self ..)).2.1
theorem Hq.fzTup (s : Hq T p n L G H) (hL : ∀ x ∈ L, ∀ zs, x.2 ≠ .tup zs) : Hq T p n L (fzT G H) H := by
  obtain ⟨⟨d, mm, c, h1, h2⟩, fz, gp, cel, nod, tab⟩ := s
  refine ⟨⟨d, mm, c, h1, h2⟩, ⟨fun b o e => ?_, fun b o e => ?_⟩, fzT_none gp (fun zs z => by rw [h1] at z; cases z), fun y hy => ?_, nod, tab⟩
  · rcases fzT_cases e with z | ⟨z, _⟩
    · exact fz.sub b o z
    · exact z
  · rcases fzT_cases e with z | ⟨_, zs, z⟩
    · exact fz.nt b o z
    · rw [z]
      exact .tup
  · obtain ⟨c1, c2, c3⟩ := cel y hy
    exact ⟨c1, fzT_none c2 (fun zs z => hL y hy zs (Option.some.inj (c1.symm.trans z))), c3⟩
theorem Hq.less {G0 : Hp} (s : Hq T p n L G H) (h : Same G0 G) : Hq T p n L G0 H := by
  obtain ⟨sr, fz, gp, cel, nod, tab⟩ := s
  exact ⟨sr, ⟨fun b o e => fz.sub b o (h b o e), fun b o e => fz.nt b o (h b o e)⟩, h.free gp, fun y hy => ⟨(cel y hy).1, h.free (cel y hy).2.1, (cel y hy).2.2⟩, nod, tab⟩
/-- the pool is written -/
theorem Hq.pool {m : Nat} {d x c : Int} (s : Hq T p n L G H) (h0 : 0 ≤ d) (h1 : 0 ≤ x) (h2 : x < 2 ^ 62) (h3 : 0 ≤ c) (h4 : c ≤ m) : Hq T p m L G (upd H p (.lst [.int d, .int x, .int c])) := by
  obtain ⟨⟨d0, x0, c0, e, _⟩, fz, gp, cel, nod, tab⟩ := s
  exact ⟨⟨d, x, c, upd_same, h0, h1, h2, h3, h4⟩, fz.put gp, gp, fun y hy => by
    obtain ⟨c1, c2⟩ := cel y hy
    exact ⟨by rw [upd_ne c2.2.1]; exact c1, c2⟩, nod, Tabs.upd tab e .lst⟩
end
/-! ### ** of a wide base -/
def CPowW (i j : Int) : Prop := 0 ≤ j ∧ (Builtin.Int.intBits i : Int) * j ≤ 2 ^ 27
theorem op_powW {X : Cx} : OpR X (binaryOp .Pow) (rI CPowW fun i j => .int (i ^ j.toNat)) := opI fun _ _ _ _ _ _ _ hc q => PyProof.Rows.pow_int hc.1 hc.2 q
theorem bits_le {i : Int} {b : Nat} (h : i.natAbs < 2 ^ b) (h0 : 0 < b) : Builtin.Int.intBits i ≤ b := by
  unfold Builtin.Int.intBits
  split
  · omega
  · have := PySem.Flt.log2_lt_of h0 h
    omega
theorem wide_pow {i j : Int} {b : Nat} (h : i.natAbs < 2 ^ b) (h0 : 0 < b) (hj : 0 ≤ j) (hb : (b : Int) * j ≤ 2 ^ 27) : CPowW i j := by
  refine ⟨hj, Int.le_trans (Int.mul_le_mul_of_nonneg_right ?_ hj) hb⟩
  have := bits_le h h0
  omega
end Sk
/-! a dict that a call makes, walked; repr of a dict -/
namespace Sk
open PySem PySem.Spec PyProof.Rows L2
/-- what the expression makes is locked, and stays so -/
def tLockV (t : TE) : TE := fun σ H Q => t σ H fun x H1 => ∃ d u, x = .ref d ∧ H1 d = some u ∧ Mut (some u) ∧ ∀ od, Q x (upd H1 d (.frz od u))
theorem pe_lockV {X : Cx} {e : Expr} {t : TE} (h : PE X e t) : PE X e (tLockV t) := by
  refine ⟨fun pins s σ H Q I hw => thn (h.run pins s σ H _ I hw) fun v s1 ⟨x, H1, I1, r, d, u, ex, hd, mu, q⟩ => ?_⟩
  obtain ⟨od, I2⟩ := I1.lock hd mu
  exact ⟨x, _, I2, r, q od⟩
/-- a comprehension over anything that is walked, item by item what F says -/
theorem lc_gen {Tb : List (Addr × Str)} {J : It} {n : Nat} {GG : Hp → Prop} {Y : Nat → Hp → V → Hp → Prop} (wk : Walk J n GG Y) {g : TG} {tt : TT} {te : TE} {vs : List Nat} {σ : L2.St} {H1 : Hp} {D : Addr} {Qd : Hp → Prop} (F : Nat → Option V) (hD : H1 D = none) (hz : n ≤ 100000)
    (hG : ∀ H, Gr Tb H1 H → GG H) (hY : ∀ i H x H', Y i H x H' → Gr Tb H H')
    (turn : ∀ (i : Nat) (x : V) (H H' : Hp), i < n → Gr Tb H1 H' → Y i H x H' → ∀ (Rk : V → Hp → Prop) (Rs : Hp → Prop), (∀ y H4, F i = some y → Gr Tb H' H4 → Rk y H4) → (∀ H4, F i = none → Gr Tb H' H4 → Rs H4) →
      g x (wipe σ vs) H' fun σ2 H2 => wipe σ2 vs = wipe σ vs ∧ tt σ2 H2 fun b H3 => if b = true then te σ2 H3 Rk else Rs H3)
    (done : ∀ H, Gr Tb H1 H → H D = some (.lst ((List.range n).filterMap F)) → Qd H) :
    ∃ W : Nat → Nat → Hp → Prop, (∃ m, W 0 m (upd H1 D (.lst []))) ∧ ∀ i m H, W i m H →
      (J.stop i H ∧ Qd H) ∨ (J.go i H ∧ ∃ Nx : Hp → Prop, (∀ H', Nx H' → ∃ m', m' < m ∧ W (i + 1) m' H') ∧ ∀ x H', J.yld i H x H' → g x (wipe σ vs) H' fun σ2 H2 => wipe σ2 vs = wipe σ vs ∧ tt σ2 H2 fun b H3 =>
        if b = true then te σ2 H3 fun y H4 => ∃ acc, H4 D = some (.lst acc) ∧ acc.length < sizeLine ∧ Nx (upd H4 D (.lst (acc ++ [y]))) else Nx H3) := by
  have h0 : Gr Tb H1 (upd H1 D (.lst [])) := Gr.new hD
  let P : Nat → Hp → Prop := fun i H => Gr Tb H1 H ∧ H D = some (.lst ((List.range i).filterMap F))
  refine ⟨fun i m H => m = n - i ∧ i ≤ n ∧ P i H, ⟨n, rfl, Nat.zero_le _, h0, upd_same⟩, ?_⟩
  rintro i m H ⟨rfl, hi, p⟩
  have q := hG H p.1
  by_cases hlt : i < n
  · refine .inr ⟨wk.goes i H hlt q, P (i + 1), fun H' p' => ⟨n - (i + 1), by omega, rfl, hlt, p'⟩, fun x H' y => ?_⟩
    have yy := wk.yields i H x H' hlt q y
    have g1 := p.1.trans (hY _ _ _ _ yy)
    have hd := (hY _ _ _ _ yy).at p.2 .lst
    have lle : ((List.range i).filterMap F).length ≤ 100000 := by
      have h2 : ((List.range i).filterMap F).length ≤ i := Nat.le_trans (List.length_filterMap_le _ _) (by rw [List.length_range]; exact Nat.le_refl _)
      omega
    refine turn i x H H' hlt g1 yy (fun y H5 => ∃ acc, H5 D = some (.lst acc) ∧ acc.length < sizeLine ∧ P (i + 1) (upd H5 D (.lst (acc ++ [y])))) (P (i + 1)) (fun q H4 e gr => ?_) (fun H4 e gr => ?_)
    · have hd4 := gr.at hd .lst
      refine ⟨_, hd4, ?_, Gr.put hD (g1.trans gr) hd4, ?_⟩
      · rw [sizeLine_eq]
        omega
      · rw [upd_same, List.range_succ, List.filterMap_append, List.filterMap_cons, e]
        rfl
    · refine ⟨g1.trans gr, ?_⟩
      rw [List.range_succ, List.filterMap_append, List.filterMap_cons, e, gr.at hd .lst]
      simp
  · have e : i = n := by omega
    subst e
    exact .inl ⟨wk.stops H q, done H p.1 p.2⟩
/-- repr of a dict of numbers -/
def rReprD (K : PySem.W.Frag) : List V → Hp → VK → Prop := fun xs H Q => ∃ (a : Addr) (n : Num), xs = [.ref a] ∧ H a = some (.dK (dS n)) ∧ (numD n).showable = true ∧ (numD n).shown.length ≤ sizeLine ∧ (numD n).depth ≤ 50 ∧ Q (.str (numD n).shown) H
theorem crReprD {X : Cx} {K : PySem.W.Frag} (e : X.K = K) (hg : X.A.guards = some []) (hu : X.A.units + 64 < cLine) : CallR X (.builtin "repr") (rReprD K) := by
  subst e
  intro pins s σ H xs us Q I r h
  obtain ⟨a, n, rfl, ha, hs, hz, hdp, q⟩ := h
  obtain ⟨u, rfl, ru⟩ := vals1 r
  obtain ⟨as, rr, hsm⟩ := DpM.reads I (.inr ⟨a, n, rfl, ha, rfl⟩) ru
  obtain rfl : u = Value.ref a := ru
  exact PySem.repr_of_reads' rr hs hsm hg (by omega) (fun b o e => e) (fun h' u tk k => ⟨.str _, H, I.kept k, ⟨u, rfl⟩, q⟩) hz
/-- a number or None -/
def optV : Option Int → V
  | none => .non
  | some i => .int i
def optT : Option Int → Str
  | none => "None"
  | some i => toString i
def rReprO : List V → Hp → VK → Prop := fun xs H Q => ∃ o : Option Int, xs = [optV o] ∧ (∀ i, o = some i → i.natAbs.log2 < 1920) ∧ Q (.str (optT o)) H
theorem crReprO {X : Cx} : CallR X (.builtin "repr") rReprO := by
  intro pins s σ H xs us Q I r h
  obtain ⟨o, rfl, hz, q⟩ := h
  cases o with
  | none =>
    obtain ⟨u, rfl, rfl⟩ := vals1 r
    exact PySem.P.repr_of_none ⟨.str _, H, I.tok _, ⟨_, rfl⟩, q⟩
  | some i =>
    obtain ⟨u, rfl, t, rfl⟩ := vals1 r
    exact PySem.P.repr_of_int (hz i rfl) ⟨.str _, H, I.tok _, ⟨_, rfl⟩, q⟩
end Sk
/-! dicts of numbers compared, alike or not -/
namespace Sk
open PySem PySem.Spec PyProof.Rows L2
/-- each number of the one stands in the other -/
def subNum (ks ls : Num) : Bool := ks.all fun q => decide (get? ls q.1 = some q.2)
def eqNum (ks ls : Num) : Bool := ks.length == ls.length && subNum ks ls
section
variable {X : Cx}
theorem hits_num {A : Around} {s : Shared} {ls : Num} {vb : List (Key × Value)} (rb : KV (dS ls) vb) : ∀ {ks : Num} {va : List (Key × Value)}, KV (dS ks) va → PySem.W.KeqHits A s vb va (subNum ks ls)
  | [], va, ra => by
    cases ra
    exact .nil
  | q :: ks, va, ra => by
    cases ra with
    | cons h t =>
      rename_i kv va
      obtain ⟨h1, h2⟩ := h
      obtain ⟨k, v⟩ := kv
      have h1' : (Sum.inr q.1 : Key) = k := h1
      subst h1'
      obtain ⟨t1, e1⟩ : ∃ t, v = Value.int q.2 t := h2
      subst e1
      have rr : RelO ((get? ls q.1).map V.int) (PySem.valueAt vb (Sum.inr q.1)) := by
        rw [← valV_dS]
        exact rb.val (Sum.inr q.1)
      show PySem.W.KeqHits A s vb ((Sum.inr q.1, Value.int q.2 t1) :: va) (decide (get? ls q.1 = some q.2) && subNum ks ls)
      cases e : get? ls q.1 with
      | none =>
        rw [e] at rr
        have e2 : PySem.valueAt vb (Sum.inr q.1) = none := rr.none_of
        rw [decide_eq_false (by intro z; cases z), Bool.false_and]
        exact .miss e2
      | some j =>
        rw [e] at rr
        obtain ⟨y, hy, ry⟩ := rr.some_of
        obtain ⟨t2, e2⟩ : ∃ t, y = Value.int j t := ry
        subst e2
        refine .hit hy ?_ (hits_num rb t)
        have e3 : decide ((some j : Option Int) = some q.2) = (q.2 == j) := by
          rw [Bool.eq_iff_iff, decide_eq_true_eq, beq_iff_eq]
          exact ⟨fun z => (Option.some.inj z).symm, fun z => by rw [z]⟩
        rw [e3]
        exact SeqAt.EqAt.int_int q.2 t1 j t2
/-- dicts of numbers, == and != -/
def rNumD (neg : Bool) : R2 := fun x y H Q => ∃ (a b : Addr) (ks ls : Num), x = .ref a ∧ y = .ref b ∧ H a = some (.dK (dS ks)) ∧ H b = some (.dK (dS ls)) ∧ Q (.bl (if neg then !eqNum ks ls else eqNum ks ls)) H
theorem op_eqNum (hu : X.A.units < cLine) : OpR X (compareOp .Eq) (rNumD false) := by
  intro pins s σ H x y v u Q I rx ry h
  obtain ⟨a, b, ks, ls, rfl, rfl, ea, eb, q⟩ := h
  obtain rfl : v = Value.ref a := rx
  obtain rfl : u = Value.ref b := ry
  obtain ⟨_, ya, va, ra, da⟩ := (show ObjOk X.prog X.w H s.heap a (.dK (dS ks)) from I.hok a _ ea)
  obtain ⟨_, yb, vb, rb, db⟩ := (show ObjOk X.prog X.w H s.heap b (.dK (dS ls)) from I.hok b _ eb)
  have la := KV.length ra
  have lb := KV.length rb
  rw [dS_len] at la lb
  refine PySem.W.keq_eq (knd := mixKind X.prog X.w) ya yb da db hu (fun _ => hits_num rb ra) (fin_bl I q ?_)
  rw [← la, ← lb]
  rfl
theorem op_neNum (hu : X.A.units < cLine) : OpR X (compareOp .NotEq) (rNumD true) := by
  intro pins s σ H x y v u Q I rx ry h
  obtain ⟨a, b, ks, ls, rfl, rfl, ea, eb, q⟩ := h
  obtain rfl : v = Value.ref a := rx
  obtain rfl : u = Value.ref b := ry
  obtain ⟨_, ya, va, ra, da⟩ := (show ObjOk X.prog X.w H s.heap a (.dK (dS ks)) from I.hok a _ ea)
  obtain ⟨_, yb, vb, rb, db⟩ := (show ObjOk X.prog X.w H s.heap b (.dK (dS ls)) from I.hok b _ eb)
  have la := KV.length ra
  have lb := KV.length rb
  rw [dS_len] at la lb
  refine PySem.W.keq_ne (knd := mixKind X.prog X.w) ya yb da db hu (fun _ => hits_num rb ra) (fin_bl I q ?_)
  rw [← la, ← lb]
  rfl
end
theorem iteFb {k : Bool} {a b : Prop} (hk : k = false) (h : b) : if k = true then a else b := by
  rw [if_neg (by rw [hk]; exact Bool.false_ne_true)]
  exact h
theorem iteTb {k : Bool} {a b : Prop} (hk : k = true) (h : a) : if k = true then a else b := by
  rw [if_pos hk]
  exact h
theorem neV_bl {x y : Bool} (h : x = y) : (!decide (V.bl x = V.bl y)) = false := by
  rw [h]
  simp
theorem eqV_int (i j : Int) : decide (V.int i = V.int j) = decide (i = j) := by
  rw [Bool.eq_iff_iff, decide_eq_true_eq, decide_eq_true_eq]
  exact ⟨fun z => V.int.inj z, fun z => by rw [z]⟩
theorem get?_ndm {d : Num} (nd : (d.map (·.1)).Nodup) {q : Str × Int} (h : q ∈ d) : get? d q.1 = some q.2 := by
  induction d with
  | nil => cases h
  | cons a d ih =>
    rw [List.map_cons, List.nodup_cons] at nd
    unfold get?
    rw [List.find?_cons]
    rcases List.mem_cons.mp h with rfl | h
    · rw [decide_eq_true rfl]
      rfl
    · have ne : ¬ a.1 = q.1 := fun z => nd.1 (List.mem_map.mpr ⟨q, h, z.symm⟩)
      rw [decide_eq_false ne]
      exact ih nd.2 h
theorem eqNum_refl {d : Num} (nd : (d.map (·.1)).Nodup) : eqNum d d = true := by
  unfold eqNum subNum
  rw [Bool.and_eq_true, List.all_eq_true]
  exact ⟨beq_self_eq_true _, fun q hq => decide_eq_true (get?_ndm nd hq)⟩
end Sk
/-! stores: objects of three fields -/
namespace Sk
open PySem PySem.Spec PyProof.Rows L2
/-- a field, K told -/
theorem peFld {X : Cx} {K : PySem.W.Frag} {o : Expr} {ta : TE} {f : Str} {pos : Pos} (e : X.K = K) (he : PE X o ta) (hb : attributeBase o f X.env (eval o X.env) = eval o X.env := by rfl) : PE X (.Attribute o f pos) (tFld K ta f) := by
  subst e
  exact pe_fld he hb
theorem NoTab.own {x : Addr} : NoTab (.own x) := ⟨(fun _ e => by cases e), (fun _ e => by cases e)⟩
/-- where the class stands -/
def stC (K : PySem.W.Frag) : Addr := He.ga K "Store"
/-- a store's fields -/
def stF (a b c : Addr) : List (Str × V) := [("entries", .ref a), ("stock_numbers", .ref b), ("split_numbers", .ref c)]
theorem stF_e (a b c : Addr) : (stF a b c).lookup ("entries" : Str) = some (V.ref a) := by rfl
theorem stF_s (a b c : Addr) : (stF a b c).lookup ("stock_numbers" : Str) = some (V.ref b) := by rfl
theorem stF_p (a b c : Addr) : (stF a b c).lookup ("split_numbers" : Str) = some (V.ref c) := by rfl
theorem stF_1 (a : Addr) : putF "entries" (.ref a) [] = ([("entries", .ref a)] : List (Str × V)) := by rfl
theorem stF_2 (a b : Addr) : putF "stock_numbers" (.ref b) ([("entries", .ref a)] : List (Str × V)) = ([("entries", .ref a), ("stock_numbers", .ref b)] : List (Str × V)) := by rfl
theorem stF_3 (a b c : Addr) : putF "split_numbers" (.ref c) ([("entries", .ref a), ("stock_numbers", .ref b)] : List (Str × V)) = stF a b c := by rfl
theorem stF_putP (a b c c' : Addr) : putF "split_numbers" (.ref c') (stF a b c) = stF a b c' := by rfl
theorem stF_putS (a b c b' : Addr) : putF "stock_numbers" (.ref b') (stF a b c) = stF a b' c := by rfl
theorem stF_len (a b c : Addr) : (stF a b c).length < 1000 := by show 3 < 1000; decide
theorem stF_no {a b c : Addr} {m : Str} (h : m ≠ "entries" ∧ m ≠ "stock_numbers" ∧ m ≠ "split_numbers") : (stF a b c).lookup m = none := by
  unfold stF
  simp only [List.lookup]
  have e1 : (m == ("entries" : Str)) = false := by simpa using h.1
  have e2 : (m == ("stock_numbers" : Str)) = false := by simpa using h.2.1
  have e3 : (m == ("split_numbers" : Str)) = false := by simpa using h.2.2
  rw [e1, e2, e3]
/-- a cell was otherwise at the start and at the end -/
theorem Gr.put2 {T : List (Addr × Str)} {H H' : Hp} {s : Addr} {o1 o2 : HO} (g : Gr T H H') (h : H s = some o1) (n1 : NoTab o1) (n2 : NoTab o2) : Gr T (upd H s o2) (upd H' s o2) := by
  have h' := g.at h n1
  refine ⟨fun b u e n => ?_, fun t => ?_⟩
  · by_cases hb : b = s
    · rw [hb, upd_same] at e
      rw [hb, upd_same]
      exact e
    · rw [upd_ne hb] at e ⊢
      exact g.ext b u e n
  · have t1 : LamX.Tabs T (upd (upd H s o2) s o1) := Tabs.upd t (upd_same (H := H) (a := s)) n2
    have e : upd (upd H s o2) s o1 = H := by
      funext b
      by_cases hb : b = s
      · rw [hb, upd_same, h]
      · rw [upd_ne hb, upd_ne hb]
    rw [e] at t1
    exact Tabs.upd (g.tab t1) h' n1
/-- a class made by keywords alone -/
structure MakK (P : Program) (w : World) (K : PySem.W.Frag) (mg : Str → Option Value) (base : Heap) (k : Nat) (x : Str) (C : Addr) (sp : Sp) (ks : List Str) (gV : List V → List V → List V) : Prop where
  ex : ∃ (f : Addr) (fd : FuncData) (ps : List Str) (g : List Value → List Value → List Value), Mk K C f ∧ FnOk P w K mg base CX0 k f fd ps sp ∧ mg x = some (.ref C) ∧ KBn K fd ps 1 ks g gV
section
variable {X : Cx} {k j : Nat} {C : Addr} {x : Str} {sp : Sp} {ks : List Str} {gV : List V → List V → List V} {tk : TA} {kws : List Keyword} {p pos : Pos}
theorem pe_mkK (c : MakK X.prog X.w X.K X.mg X.base k x C sp ks gV) (hr : Room j X.A) (hj : k + 1 ≤ j) (hg : Gl X x) (hkw : PK X kws tk) (hdb : (x == ("__debug__" : Str)) = false := by decide)
    (hall : (backToKw pos (keywordEach kws X.env)).all (·.1.isSome) = true := by rfl) (hks : (backToKw pos (keywordEach kws X.env)).filterMap (·.1) = ks := by rfl)
    (hpl : ((backTo pos (starEach [] X.env)).any (·.1) || (backToKw pos (keywordEach kws X.env)).any (·.1.isNone)) = false := by rfl) : PE X (.Call (.Name x p) [] kws pos) (tMakeN C 0 ks.length sp gV E0 tNil tk) := by
  obtain ⟨f, fd, ps, g, M, F, hm, hb⟩ := c.ex
  refine ⟨fun pins s σ H Q I h => ?_⟩
  refine wpAny_Call_Name_kw (ld_glob I hg hm ?_ hdb)
  refine PySem.W.callWith_KW0 (h₀ := X.base) I.ok.mod.kin M.kp hall ?_ hpl
  refine thn (hkw.run pos pins s σ H _ I h) fun ws s2 ⟨zs, H2, I2, rz, l1, l2, q2⟩ => ⟨I2.kIn, ?_⟩
  rw [hks]
  exact run_makeN M F (hr.mono hj) hb pass0 I2 .nil rz rfl l2 q2
end
end Sk
/-! == and != of own instances with an own __eq__: both answers -/
namespace PySem
open PySem.W Builtin
section
variable {prog : Program} {w : World} {A : Around} {E : Value → Shared → Prop} {s : Shared} {K : Frag} {x C L f : Addr} {h₀ : Heap} {m : Str → Option Value} {ox : Obj} {od : Option Obj} {name : Str} {b tb : Value}
theorem ifBound_KB {M : Model} {args : List Value} {id : String} {Q : Option Value → Shared → Prop} (X : K.In s.heap) (I : InstAt s.heap x ox C od) (hs : findIn K (.ref C) name = some (some (.builtin id))) (hb : ∀ self, bindSpecial (.builtin id) self = pure (.builtin id, [self]))
    (h : wpAny M A (call (.builtin id) (.ref x :: args)) (fun v => Q (some v)) E s) : wpAny M A (callSpecialIfBound? (.ref x) name args) Q E s := by
  simp only [callSpecialIfBound?, bindSpecialIfBound?]
  refine wpAny_holding (wpAny_bind (wpAny_bind (wpAny_bind (I.type.here ((looks_findIn X hs).here ?_)))))
  simp only [hb]
  refine wpAny_bind (wpAny_askSetting (wpAny_ite ?_))
  have fin : wpAny M A (call (.builtin id) ([.ref x] ++ args) >>= fun v => pure (some v)) Q E s := wpAny_bind (wpAny_mono h (fun v s' h' => wpAny_pure h') fun _ _ h' => h')
  split
  · exact wpAny_bind (wpAny_pure (wpAny_pure fin))
  · exact wpAny_tryCatch (wpAny_bind (wpAny_pure (wpAny_pure fin)))
theorem checkSlot_K {M : Model} {id owner n : String} {rest : List Value} {Q : Unit → Shared → Prop} (X : K.In s.heap) (I : InstAt s.heap x ox C od) (hk : builtinKind id = some .slot) (hs : splitId id = some (owner, n)) (ha : argsOk id ⟨.ref x :: rest, []⟩)
    (hO : subIn K (.ref C) (.type owner) = some true) (hq : Q () s) : wpAny M A (checkBuiltinCall id ⟨.ref x :: rest, []⟩) Q E s := by
  simp only [checkBuiltinCall, hk, hs]
  refine wpAny_bind ?_
  · have isI : Looks M s.heap (isInstance (.ref x) (.type owner)) true := by
      unfold isInstance
      exact I.type.andThen (looks_subIn X hO)
    refine wpAny_bind (I.type.here ((looks_subIn X hO).here ?_))
    repeat wp_step
    cases hsig : Manifest.signature? id with
    | none => exact wpAny_pure hq
    | some sig =>
      simp only [argsOk, hsig] at ha
      have h2 : Bind.checkArgs id sig ⟨.ref x :: rest, []⟩ = pure () := ha
      show wpAny M A (Bind.checkArgs id sig ⟨.ref x :: rest, []⟩) Q E _
      rw [h2]; exact wpAny_pure hq
theorem objNe_K {Q : Fin → Shared → Prop} (hu : A.units < cLine) (X : K.In s.heap) (I : InstAt s.heap x ox C od) (hs : findIn K (.ref C) "__eq__" = some (some (.ref f))) (hf : isFn K (.ref f) = true)
    (h : wpAny (model prog w) A (call (.ref f) [.ref x, b]) (fun v s' => ∃ r, v = .bool r ∧ Q (.done (.ret (.bool (!r)))) s') E s) :
    wpAny (model prog w) A (Builtin.«object.__ne__» ⟨[.ref x, b], []⟩) Q E s := by
  unfold Builtin.«object.__ne__»
  repeat (first
    | with_reducible refine wpAny_cRoomFor hu ?_
    | (refine wpAny_bind (m := callSpecialIfBound? (.ref x) (Str.ofString "__eq__") [b])
        (ifBound_K X I hs hf (wpAny_mono h (fun r s' hr => by
          obtain ⟨b, rfl, hq⟩ := hr
          repeat (first | exact hq | exact wpAny_pure hq | exact wpAny_truthy_bool hq | (refine wpAny_bind (m := truthy (.bool _)) (wpAny_truthy_bool ?_)) | wp_step)) fun _ _ e => e)))
    | wp_step)
theorem cmpNe_K {Q : Value → Shared → Prop} (hu : A.units + 1 < cLine) (X : K.In s.heap) (I : InstAt s.heap x ox C od) (hb : Looks (model prog w) s.heap (typeOf b) tb) (hn : notFirst K C tb = true)
    (hN : findIn K (.ref C) "__ne__" = some (some (.builtin "object.__ne__"))) (hO : subIn K (.ref C) (.type "object") = some true) (hs : findIn K (.ref C) "__eq__" = some (some (.ref f))) (hf : isFn K (.ref f) = true)
    (h : wpAny (model prog w) A.in1 (call (.ref f) [.ref x, b]) (fun v s' => ∃ r, v = .bool r ∧ Q (.bool (!r)) s') E s) : wpAny (model prog w) A (richCompare .NotEq (.ref x) b) Q E s := by
  have hu0 : A.units < cLine := Nat.lt_of_succ_lt hu
  have one : wpAny (model prog w) A (tryCompare (.ref x) "__ne__" b) (fun r s' => ∃ v, r = some v ∧ Q v s') E s := by
    unfold tryCompare
    refine wpAny_bind (ifBound_KB X I hN (F.slot_object_ne).bind (wpAny_call (codeAny_call_builtin (F.slot_object_ne).plain F.cmpEntry_ne
      (checkSlot_K X I F.cmpKind_ne F.cmpSplit_ne (F.cmpArgs_ne _ _) hO (objNe_K (A := A.in1) hu X I hs hf (wpAny_mono h (fun v s' hv => ?_) fun _ _ e => e))))))
    obtain ⟨b, rfl, hq⟩ := hv
    first | exact ⟨b, rfl, wpAny_pure ⟨_, rfl, hq⟩⟩ | exact ⟨b, rfl, wpAny_pure (wpAny_pure ⟨_, rfl, hq⟩)⟩ | exact ⟨b, rfl, ⟨_, rfl, hq⟩⟩
  unfold richCompare
  simp only [oneThing_ref]
  refine wpAny_holding (wpAny_bind (wpAny_cRoomFor hu0 ?_))
  rw [cmpInfo_NotEq]
  dsimp only
  refine wpAny_bind (I.type.here (wpAny_bind (hb.here ?_)))
  split
  · rename_i q
    have e : subIn K tb (.ref C) = some false := by
      rcases Bool.or_eq_true_iff.mp hn with e | e
      · rw [beq_iff_eq.mp e] at q; simp at q
      · exact beq_iff_eq.mp e
    refine wpAny_bind ((looks_subIn X e).here ?_)
    simp only [Bool.false_eq_true, if_false]
    refine wpAny_bind (wpAny_mono one (fun r s' z => ?_) fun _ _ e => e)
    obtain ⟨v, rfl, hq⟩ := z
    exact wpAny_pure hq
  · refine wpAny_bind (wpAny_pure ?_)
    simp only [Bool.false_eq_true, if_false]
    refine wpAny_bind (wpAny_mono one (fun r s' z => ?_) fun _ _ e => e)
    obtain ⟨v, rfl, hq⟩ := z
    exact wpAny_pure hq
end
end PySem
namespace Sk
open PySem PySem.Spec PyProof.Rows L2
/-- what != of an own class needs -/
structure NeK (K : PySem.W.Frag) (C : Addr) : Prop where
  ne : PySem.W.findIn K (.ref C) "__ne__" = some (some (.builtin "object.__ne__"))
  ob : PySem.W.subIn K (.ref C) (.type "object") = some true
def rEqI (C : Addr) (sp : Sp) : R2 := fun x y H Q => ∃ a b dx dy fs gs, x = .ref a ∧ y = .ref b ∧ H a = some (.ins C dx fs) ∧ H b = some (.ins C dy gs) ∧ sp [.ref a, .ref b] H (fun v H' => ∃ r, v = .bl r ∧ Q (.bl r) H') E0
def rNeI (C : Addr) (sp : Sp) : R2 := fun x y H Q => ∃ a b dx dy fs gs, x = .ref a ∧ y = .ref b ∧ H a = some (.ins C dx fs) ∧ H b = some (.ins C dy gs) ∧ sp [.ref a, .ref b] H (fun v H' => ∃ r, v = .bl r ∧ Q (.bl (!r)) H') E0
section
variable {X : Cx} {k : Nat} {C : Addr} {sp : Sp}
theorem call_eqI {A : Around} {f : Addr} {fd : FuncData} {ps : List Str} {pins : List (Addr × Obj)} {s : Shared} {σ : L2.St} {H : Hp} {a b : Addr} {R : Bool → Hp → Prop} (F : FnOk X.prog X.w X.K X.mg X.base CX0 k f fd ps sp) (hb : Binds X.K fd ps []) (sb : Sub X k A) (I : Inv X pins σ H s)
    (hsp : sp [.ref a, .ref b] H (fun v H' => ∃ r, v = .bl r ∧ R r H') E0) :
    wpAny (model X.prog X.w) A (call (.ref f) [.ref a, .ref b]) (fun v s' => ∃ r H', v = .bool r ∧ Inv X pins σ H' s' ∧ R r H') X.xe s := by
  have e0 : Env0 X.prog X.w X.K X.mg X.base A X.stack s H := by
    have e := I.env0
    exact ⟨by rw [sb.fr]; exact e.frames, e.mod, e.bs, e.bsz, e.funs, e.frf, e.hok, e.bare⟩
  have hl := F.len _ _ _ _ hsp
  have r2 : Vals [V.ref a, V.ref b] [Value.ref a, Value.ref b] := .cons rfl (.cons rfl .nil)
  refine wpAny_call (codeAny_mono (F.run A X.stack s H ⟨[.ref a, .ref b], []⟩ [.ref a, .ref b] [.ref a, .ref b] _ E0 sb.room e0 (by
    have := hb s [.ref a, .ref b] I.kIn (by simpa using hl)
    simpa using this) r2 hsp) fun r s' hq => ?_)
  cases r with
  | error e => exact pass0 pins σ H s e s' I hq
  | ok fl =>
    cases fl with
    | ret w =>
      obtain ⟨z, H', I', rz, r, ez, q⟩ := I.after hq
      subst ez
      cases rz
      exact ⟨r, H', rfl, I', q⟩
    | next => exact False.elim hq
    | brk => exact False.elim hq
    | cont => exact False.elim hq
theorem op_eqI {j : Nat} (c : C8.Met X.prog X.w X.K X.mg X.base k C "__eq__" sp []) (hr : Room j X.A) (hj : k ≤ j) : OpR X (compareOp .Eq) (rEqI C sp) := by
  intro pins s σ H x y v u Q I rx ry hq
  obtain ⟨f, fd, ps, ds, hc, hm, F, hb, d⟩ := c.ex
  cases d
  obtain ⟨a, b, dx, dy, fs, gs, rfl, rfl, ha, hb', hsp⟩ := hq
  cases rx
  cases ry
  obtain ⟨mA, J, _⟩ := ins_get I.hok ha
  obtain ⟨mB, J', _⟩ := ins_get I.hok hb'
  obtain ⟨od, J, _⟩ := J.look
  obtain ⟨od', J', _⟩ := J'.look
  obtain ⟨m, hF⟩ := I.fr
  have sb : Sub X k X.A := ⟨hr.mono hj, rfl⟩
  show wpAny (model X.prog X.w) X.A (richCompare .Eq (.ref a) (.ref b)) (EP X pins σ Q) X.xe s
  refine PySem.W.cmp_K (op := .Eq) (tb := .ref C) sb.room.units0 hF I.ok.mod.kin J J'.type (by simp [PySem.W.notFirst]) hm.at_ hm.fn ?_
  refine wpAny_mono (call_eqI F hb sb I hsp) (fun v s' z => ?_) fun _ _ x => x
  obtain ⟨r, H', rfl, I', q⟩ := z
  exact ⟨.bl r, H', I', rfl, q⟩
theorem op_neI {j : Nat} (c : C8.Met X.prog X.w X.K X.mg X.base k C "__eq__" sp []) (n : NeK X.K C) (hr : Room j X.A) (hj : k + 1 ≤ j) : OpR X (compareOp .NotEq) (rNeI C sp) := by
  intro pins s σ H x y v u Q I rx ry hq
  obtain ⟨f, fd, ps, ds, hc, hm, F, hb, d⟩ := c.ex
  cases d
  obtain ⟨a, b, dx, dy, fs, gs, rfl, rfl, ha, hb', hsp⟩ := hq
  cases rx
  cases ry
  obtain ⟨mA, J, _⟩ := ins_get I.hok ha
  obtain ⟨mB, J', _⟩ := ins_get I.hok hb'
  obtain ⟨od, J, _⟩ := J.look
  obtain ⟨od', J', _⟩ := J'.look
  have sb : Sub X (k + 1) X.A := ⟨hr.mono hj, rfl⟩
  show wpAny (model X.prog X.w) X.A (richCompare .NotEq (.ref a) (.ref b)) (EP X pins σ Q) X.xe s
  refine cmpNe_K (tb := .ref C) ?_ I.kIn J J'.type (by simp [PySem.W.notFirst]) n.ne n.ob hm.at_ hm.fn ?_
  · have := hr.units
    omega
  refine wpAny_mono (call_eqI F hb sb.in1 I hsp) (fun v s' z => ?_) fun _ _ x => x
  obtain ⟨r, H', rfl, I', q⟩ := z
  exact ⟨r, rfl, .bl (!r), H', I', rfl, q⟩
end
/-- a method that is called by keywords alone -/
structure MetK (P : Program) (w : World) (K : PySem.W.Frag) (mg : Str → Option Value) (base : Heap) (k : Nat) (C : Addr) (m : Str) (sp : Sp) (ks : List Str) (gV : List V → List V → List V) : Prop where
  ex : ∃ (f : Addr) (fd : FuncData) (ps : List Str) (g : List Value → List Value → List Value), Cls K C ∧ Meth K C m f ∧ FnOk P w K mg base CX0 k f fd ps sp ∧ KBn K fd ps 1 ks g gV
def tMethK (C : Addr) (m : Str) (n : Nat) (sp : Sp) (gV : List V → List V → List V) (ta : TE) (tk : TA) : TE := fun σ H Q => ta σ H fun x H1 => ∃ a dx fs, x = .ref a ∧ H1 a = some (.ins C dx fs) ∧ fs.lookup m = none ∧
  tk σ H1 fun zs H2 => zs.length = n ∧ sp (gV [x] zs) H2 Q E0
section
variable {X : Cx} {k j : Nat} {C : Addr} {m : Str} {sp : Sp} {ks : List Str} {gV : List V → List V → List V} {o : Expr} {ta : TE} {tk : TA} {kws : List Keyword} {pos apos : Pos}
theorem pe_mtK {pl : Sem Bool} (c : MetK X.prog X.w X.K X.mg X.base k C m sp ks gV) (hr : Room j X.A) (hj : k ≤ j) (he : PE X o ta) (hkw : PK X kws tk)
    (hall : (backToKw pos (keywordEach kws X.env)).all (·.1.isSome) = true := by rfl) (hks : (backToKw pos (keywordEach kws X.env)).filterMap (·.1) = ks := by rfl)
    (hpl : ((backTo pos (starEach [] X.env)).any (·.1) || (backToKw pos (keywordEach kws X.env)).any (·.1.isNone)) = false := by rfl)
    (ht : eval (.Call (.Attribute o m apos) [] kws pos) X.env = (do
      let ov ← eval o X.env
      standAt apos.atName
      let (f, first) ← holding [ov] (getMethod ov m pl)
      callWith pos f first (backTo pos (starEach [] X.env)) (backToKw pos (keywordEach kws X.env))) := by rfl) :
    PE X (.Call (.Attribute o m apos) [] kws pos) (tMethK C m ks.length sp gV ta tk) := by
  obtain ⟨f, fd, ps, g, hc, hm, F, hb⟩ := c.ex
  refine ⟨fun pins s σ H Q I h => ?_⟩
  refine PySem.W.methodCall_KW (pl := pl) (thn (he.run pins s σ H _ I h) fun u s1 ⟨x, H1, I1, rx, a, dx, fs, ex, ea, l, q⟩ => ?_) ht
  subst ex
  obtain rfl : u = Value.ref a := rx
  refine getmeth_ok I1 ea hc hm l ?_
  refine PySem.W.callWith_KW0 (first := [.ref a]) (h₀ := X.base) I.ok.mod.kin hm.kp hall ?_ hpl
  refine thn (hkw.run pos pins s1 σ H1 _ I1 q) fun ws s2 ⟨zs, H2, I2, rz, l2, q2⟩ => ⟨I2.kIn, ?_⟩
  rw [hks]
  exact run_fnN (us := [.ref a]) (vs := [.ref a]) F (hr.mono hj) hb pass0 I2 (.cons rfl .nil) rz rfl l2 q2
end
/-- l.count(i), ints -/
def rCountI : V → List V → Hp → VK → Prop := fun x xs H Q => ∃ (a : Addr) (ns : List Int) (i : Int), x = .ref a ∧ xs = [.int i] ∧ H a = some (.lst (ns.map V.int)) ∧ Q (.int (ns.count i : Nat)) H
theorem mt_countI {X : Cx} : MtR X "list.count" rCountI := by
  intro pins s σ H x xs v us Q I rx rxs h
  obtain ⟨a, ns, i, rfl, rfl, ha, q⟩ := h
  cases rx
  cases rxs with
  | cons ry rt =>
    cases rt
    obtain ⟨t, rfl⟩ := (show ∃ t, _ = Value.int i t from ry)
    obtain ⟨hz, its, n, rv, hob⟩ := I.hok a _ ha
    exact PyProof.Rows.count_list_ints ⟨_, hob, rfl, _, rfl⟩ rv.ints ⟨.int (ns.count i : Nat), H, I.tok _, ⟨_, rfl⟩, q⟩
end Sk
/-! the end of a law that asks for repr of lists: the promise of `law` is given where no repr is under way -/
namespace Sk
open PySem PySem.Spec PyProof.Rows L2
/-- what a function keeps when it is called with no repr under way -/
def FnG (P : Program) (w : World) (K : PySem.W.Frag) (mg : Str → Option Value) (base : Heap) (k : Nat) (f : Addr) (fd : FuncData) (ps : List Str) (sp : Sp) : Prop :=
  ∀ (A : Around) (outer : List Env) (s : Shared) (H : Hp) (args : Args) (us : List Value) (vs : List V) (Q : VK) (E : XK), A.guards = some [] → Room k A → Env0 P w K mg base A outer s H → BindsTo s fd args (ps.zip us) → Vals vs us → sp vs H Q E →
    codeAny (model P w) A (.call (.ref f) args) (CR CX0 outer P w H s Q E) s
section
variable {P : Program} {w : World} {K : PySem.W.Frag} {mg : Str → Option Value} {base : Heap}
theorem fnG_of {x qual : Str} {params : Arguments} {body : List Stmt} {scope : Scope} {f : Addr} {fd : FuncData} {N ps : List Str} {k : Nat} {sp : Sp} (F : FunD K x qual params body scope [] [] f fd) (S : FnScope N ps scope) (len : ∀ vs H Q E, sp vs H Q E → vs.length = ps.length)
    (hbody : ∀ (cdv : Value) (A : Around) (outer : List Env) (s : Shared) (H : Hp) (vs : List V) (Q : VK) (E : XK), A.guards = some [] → Room k (A.deeper (envOfC qual scope s.heap.objs.size f cdv)) → sp vs H Q E →
      ∃ t, PSs (cxOf CX0 P w K mg base N qual scope f cdv A outer s H E) body t ∧ t { nx := fun _ H' => Q .non H', rt := Q } (L2.start N vs) H) : FnG P w K mg base (k + 1) f fd ps sp := by
  obtain ⟨oc, od, dV, kV, doc, pm, an, cdv, ct, osl, rfl, lk, hcd, _, _⟩ := F.ex
  intro A outer s H args us vs Q E hg hr e0 hb hv hsp
  have up : ∀ b o, base.get? b = some o → s.heap.get? b = some o := fun b o e => (e0.bs b o e).1
  have kin : K.In s.heap := e0.mod.kin.keeps up
  have cells : ∀ q ∈ ps.zip us, scope.names.lookup q.1 = some .local ∨ (scope.names.lookup q.1 = some .cell ∧ ((cellsFrom (s.heap.objs.size + 1) scope.names []).lookup q.1).isSome = true) := by
    rintro ⟨y, v⟩ hq
    exact (S.par y (List.of_mem_zip hq).1).imp id fun z => ⟨z, PySem.W.cellsFrom_some _ _ _ (.inl z)⟩
  refine codeAny_call_function hr.depth (kin _ _ lk) rfl S.co S.gen rfl (PySem.W.codeRec_of kin hcd) (hb _ _ _ _ ?_)
  refine wpAny_newFunctionEnv_cells S.kind cells fun env he s1 x => ?_
  subst he
  obtain ⟨t, ht, hq⟩ := hbody cdv A outer s H vs Q E hg (hr.deeper _) hsp
  have J := inv_start S hr.hd e0 (len _ _ _ _ hsp) hv x (CX := CX0) (E := E)
  refine ⟨(e0.mod.nolimit.keeps up).keeps x.toInCall.keep, codeAny_func (wpAny_mono (ht.run [] s1 (L2.start N vs) H _ J hq) (fun fl s' hs => ?_) fun _ _ hs => hs)⟩
  cases fl with
  | ret u =>
    obtain ⟨v, σ', H', J', rv, q⟩ := hs
    exact ⟨v, H', J'.os, J'.bare, J'.base, J'.hok, rv, q⟩
  | next =>
    obtain ⟨σ', H', J', q⟩ := hs
    exact ⟨V.non, H', J'.os, J'.bare, J'.base, J'.hok, rfl, q⟩
  | brk =>
    obtain ⟨_, _, _, q⟩ := hs
    exact False.elim q
  | cont =>
    obtain ⟨_, _, _, q⟩ := hs
    exact False.elim q
end
/-! ### the start -/
/-- what is tracked when the law is called: the script (if it is not in K), the empty tables -/
def startH (K : PySem.W.Frag) (a : Addr) (o : Obj) (xs : List V) (ts : List Addr) : Hp := fun b => if b = a ∧ K.lookup a = none then some (.frz o (.lst xs)) else if b ∈ ts then some (.tbl #[]) else none
section
variable {P : Program} {w : World} {K : PySem.W.Frag} {mg mb : Str → Option Value} {k : Nat} {fa a : Addr} {cs : List (Addr × Addr)} {fd : FuncData} {x : Str} {sp : Sp} {s₁ : Shared} {vs : List Value} {ns : List Int}
theorem law_callG (KX : K.In s₁.heap) (hns : s₁.heap.Ns mainGlobals mg) (hb : s₁.heap.Ns builtinsNs mb) (hbb : ∀ x : Str, x ≠ "__name__" → mb x = bootBuiltins x) (hlim : s₁.heap.NoLimit) (hg : s₁.gens = #[])
    (hT : ∀ p ∈ cs, s₁.heap.get? p.2 = some { cls := .none, data := .fields #[] }) (nT : ∀ p ∈ cs, K.lookup p.2 = none) (C : ∀ p ∈ cs, PySem.W.CodeHd s₁.heap p.1 p.2)
    (hbm : ∃ (bm : Addr) (ob : Obj), mg "__builtins__" = some (.ref bm) ∧ bm ≠ builtinsNs ∧ s₁.heap.get? bm = some ob ∧ ob.cls = .type "module" ∧ ob.dict = some builtinsNs ∧ ob.data = .plain)
    (ha : s₁.heap.get? a = some { cls := .type "list", data := .seq vs.toArray }) (hi : IntsAre vs ns) (hl : ns.length ≤ sizeLine) (hr : Room k callerA)
    (F : ∀ base : Heap, K.In base → base.Ns mainGlobals mg → (∀ p ∈ cs, LamX.TabB base mg p.1 p.2) → FnG P w K mg base k fa fd [x] sp) (hbind : ∀ (s : Shared) (u : Value), BindsTo s fd ⟨[u], []⟩ [(x, u)])
    (hsp : ∀ H : Hp, (∀ p ∈ cs, H p.2 = some (.tbl #[])) → (∀ b, H b = none ∨ (∃ o xs, H b = some (.frz o (.lst xs))) ∨ H b = some (.tbl #[])) → SqL K H a (ns.map V.int) → sp [.ref a] H (fun v _ => v = .bl true) fun _ _ _ => False) :
    codeAny (model P w) callerA (.call (.ref fa) ⟨[.ref a], []⟩) (fun r s' => r = .ok (.ret (.bool true)) ∧ OldK s₁.heap s'.heap ∧ s'.os = s₁.os ∧ AllBare s'.gens) s₁ := by
  let O : Obj := { cls := .type "list", data := .seq vs.toArray }
  let ts := cs.map (·.2)
  let H := startH K a O (ns.map V.int) ts
  have tab : ∀ b ∈ ts, s₁.heap.get? b = some { cls := .none, data := .fields #[] } := fun b hb => by
    obtain ⟨p, hp, rfl⟩ := List.mem_map.mp hb
    exact hT p hp
  have an : a ∉ ts := fun z => by
    have e := tab a z
    rw [ha] at e
    cases e
  -- what stands at a place
  have look : ∀ b, (b = a ∧ K.lookup a = none ∧ H b = some (.frz O (.lst (ns.map V.int)))) ∨ (b ∈ ts ∧ H b = some (.tbl #[])) ∨ (H b = none ∧ b ∉ ts ∧ (b = a → K.lookup a ≠ none)) := fun b => by
    by_cases h1 : b = a ∧ K.lookup a = none
    · exact .inl ⟨h1.1, h1.2, if_pos h1⟩
    · by_cases h2 : b ∈ ts
      · exact .inr (.inl ⟨h2, (if_neg h1).trans (if_pos h2)⟩)
      · exact .inr (.inr ⟨(if_neg h1).trans (if_neg h2), h2, fun z n => h1 ⟨z, n⟩⟩)
  have ofTab : ∀ p ∈ cs, H p.2 = some (.tbl #[]) := fun p hp => by
    have hm : p.2 ∈ ts := List.mem_map.mpr ⟨p, hp, rfl⟩
    rcases look p.2 with ⟨e, _⟩ | ⟨_, q⟩ | ⟨_, q, _⟩
    · exact absurd (e ▸ hm) an
    · exact q
    · exact absurd hm q
  -- other objects are not tracked
  have free : ∀ {b : Addr} {o : Obj}, s₁.heap.get? b = some o → (∀ us n, o.data ≠ .seq us n) → o.data ≠ .fields #[] → H b = none := fun {b o} e h1 h2 => by
    rcases look b with ⟨z, _⟩ | ⟨z, _⟩ | ⟨q, _⟩
    · rw [z, ha] at e
      cases e
      exact absurd rfl (h1 _ _)
    · rw [tab b z] at e
      cases e
      exact absurd rfl h2
    · exact q
  have nsUp : ∀ {b : Addr} {m : Str → Option Value}, s₁.heap.Ns b m → (hidT s₁.heap H).Ns b m := fun {b m} ⟨o, es, ep, e, d, r⟩ =>
    ⟨o, es, ep, hidT_get e (free e (fun us n z => by rw [d] at z; cases z) fun z => by rw [d] at z; cases z), d, r⟩
  have kUp : K.In (hidT s₁.heap H) := fun b o e => hidT_get (KX b o e) (by
    rcases look b with ⟨z1, z2, _⟩ | ⟨z, _⟩ | ⟨q, _⟩
    · rw [z1, z2] at e
      cases e
    · obtain ⟨p, hp, rfl⟩ := List.mem_map.mp z
      rw [nT p hp] at e
      cases e
    · exact q)
  have md : L2.Mod K mg (hidT s₁.heap H) := ⟨kUp, nsUp hns, ⟨mb, nsUp hb, hbb⟩, let ⟨mc, h1, h2⟩ := hlim; ⟨mc, nsUp h1, h2⟩⟩
  have tb : ∀ p ∈ cs, LamX.TabB (hidT s₁.heap H) mg p.1 p.2 := fun p hp => by
    obtain ⟨og, _, _, eg, dg, _⟩ := hns
    refine ⟨?_, ?_, fun z => ?_⟩
    · obtain ⟨o, us, file, tf, flags, tg, inF, text, tt, e1, r1, r2, r3, rest⟩ := C p hp
      refine ⟨o, us, file, tf, flags, tg, inF, text, tt, hidT_get e1 (free e1 (fun vs n z => by rw [r2] at z; cases z) fun z => ?_), r1, r2, r3, rest⟩
      rw [r2] at z
      cases z
      simp at r3
    · obtain ⟨bm, ob, b1, b2, b3, b4, b5, b6⟩ := hbm
      refine ⟨bm, ob, b1, b2, fun q => ?_, fun q => ?_, hidT_get b3 (free b3 (fun us n z => by rw [b6] at z; cases z) fun z => by rw [b6] at z; cases z), b4, b5, b6⟩
      · rw [q, eg] at b3
        cases b3
        rw [dg] at b6
        cases b6
      · rw [q, hT p hp] at b3
        cases b3
        cases b6
    · rw [z, hT p hp] at eg
      cases eg
      cases dg
  have hok : HOk P w H s₁.heap := fun b u e => by
    rcases look b with ⟨z1, _, q⟩ | ⟨z, q⟩ | ⟨q, _⟩
    · rw [q] at e
      cases e
      rw [z1]
      exact ⟨ha, by rw [List.length_map]; exact hl, vs, _, vals_ints hi, ha⟩
    · rw [q] at e
      cases e
      exact tab b z
    · rw [q] at e
      cases e
  have hS : SqL K H a (ns.map V.int) := by
    cases hk : K.lookup a with
    | none => exact .inl (.inr ⟨O, if_pos ⟨rfl, hk⟩⟩)
    | some o =>
      have e := KX a o hk
      rw [ha] at e
      cases e
      exact .inr ⟨_, vs.toArray, _, hk, rfl, rfl, rfl, by rw [List.size_toArray, hi.length]; exact hl, by simpa using vals_ints hi⟩
  have e0 : Env0 P w K mg (hidT s₁.heap H) callerA [] s₁ H := ⟨rfl, md, fun b o e => of_hidT e, Nat.le_of_eq (hidT_size _ _), trivial, fun b hb => absurd (show b ∈ ([] : List Addr) from hb) (by simp), hok, .of_eq hg⟩
  have st : ∀ b, H b = none ∨ (∃ o xs, H b = some (.frz o (.lst xs))) ∨ H b = some (.tbl #[]) := fun b => by
    rcases look b with ⟨_, _, q⟩ | ⟨_, q⟩ | ⟨q, _⟩
    · exact .inr (.inl ⟨_, _, q⟩)
    · exact .inr (.inr q)
    · exact .inl q
  refine codeAny_mono (F _ kUp (nsUp hns) tb callerA [] s₁ H ⟨[.ref a], []⟩ [.ref a] [.ref a] _ _ rfl hr e0 (hbind s₁ (.ref a)) (.cons rfl .nil) (hsp H ofTab st hS)) fun r s' h => ?_
  match r, h with
  | .error e, h => exact False.elim h
  | .ok .next, h => exact False.elim h
  | .ok .brk, h => exact False.elim h
  | .ok .cont, h => exact False.elim h
  | .ok (.ret u), h =>
    obtain ⟨v, H', os, bare, un, hok', r', q⟩ := h
    obtain rfl : v = .bl true := q
    obtain rfl : u = Value.bool true := r'
    -- what became of each object
    have now : ∀ b o, s₁.heap.get? b = some o → (b ∉ ts ∧ s'.heap.get? b = some o) ∨ ∃ more : Array Value, b ∈ ts ∧ s'.heap.get? b = some { cls := .none, data := .fields more } := fun b o e => by
      rcases look b with ⟨z, _, q⟩ | ⟨z, q⟩ | ⟨q, z, _⟩
      · obtain ⟨e2, _⟩ := hok' b _ (un.frzs b O _ q)
        rw [z, ha] at e
        cases e
        exact .inl ⟨z ▸ an, e2⟩
      · obtain ⟨more, z2⟩ := un.tbls b #[] q
        exact .inr ⟨_, z, hok' b _ z2⟩
      · exact .inl ⟨z, un.keep b o e q (by intro y; exact absurd (show b ∈ ([] : List Addr) from y) (by simp)) (by simp)⟩
    refine ⟨rfl, ⟨fun b o e => ?_, fun b o e => ?_⟩, os, bare⟩
    · rcases now b o e with ⟨_, y⟩ | ⟨more, z, y⟩
      · exact .inl y
      · obtain ⟨p, hp, rfl⟩ := List.mem_map.mp z
        rw [hT p hp] at e
        cases e
        exact .inr (.inl ⟨((C p hp).tab (hT p hp)).isCodeTable, rfl, #[], more, rfl, by rw [Array.empty_append]; exact y⟩)
    · rcases now b o e with ⟨_, y⟩ | ⟨more, _, y⟩
      · exact ⟨o, y⟩
      · exact ⟨_, y⟩
end
/-! ### the law -/
/-- what is known of the law's promise at the head's heap h -/
def LawG (l : PySem.W.OpenLaw) (w : World) (K : PySem.W.Frag) (k n : Nat) (x : Str) (mg : Str → Option Value) (fa : Addr) (h : Heap) : Prop :=
  ∃ (fd : FuncData) (cs : List (Addr × Addr)) (sp : Sp), (∀ p ∈ cs, h.get? p.2 = some { cls := .none, data := .fields #[] }) ∧ (∀ p ∈ cs, K.lookup p.2 = none) ∧ (∀ p ∈ cs, PySem.W.CodeHd h p.1 p.2) ∧ (∀ (s : Shared) (u : Value), BindsTo s fd ⟨[u], []⟩ [(x, u)]) ∧
    (∀ (H : Hp) (a : Addr) (ns : List Int), ns.length ≤ n → (∀ z ∈ ns, Builtin.Int.intBits z ≤ 1048576) → (∀ p ∈ cs, H p.2 = some (.tbl #[])) → (∀ b, H b = none ∨ (∃ o xs, H b = some (.frz o (.lst xs))) ∨ H b = some (.tbl #[])) → SqL K H a (ns.map V.int) → sp [.ref a] H (fun v _ => v = .bl true) fun _ _ _ => False) ∧
    ∀ base : Heap, K.In base → base.Ns mainGlobals mg → (∀ p ∈ cs, LamX.TabB base mg p.1 p.2) → FnG l.prog w K mg base k fa fd [x] sp
theorem walk_ofG {l : PySem.W.OpenLaw} {n k : Nat} {q : Program} {loose : List Str} {XP : (Str → Option Value) → Heap → Prop} {YP : World → Heap → Prop} {d : DefRec} {x : Str}
    (hn : l.most = some n) (hn2 : n ≤ sizeLine) (hdf : d.params.defaults = []) (hr : Room k callerA)
    (F : ∀ (w : World) (mg : Str → Option Value) (fa : Addr) (h : Heap), YP w h → h.Ns mainGlobals mg → mg d.name = some (.ref fa) → ∃ K : PySem.W.Frag, K.In h ∧ LawG l w K k n x mg fa h) :
    PySem.W.WalkO q loose XP YP l.row.toRowW d [] (fun f vs => PySem.call f vs) := by
  refine Att.attach_callB hn hdf fun w s₀ s₁ mg mb fa o pm cd doc a vs ns G Y ho hd hcd hmg hobj hints hlen hbits hg => ?_
  obtain ⟨K, KX, fd, cs, sp, hT, nT, C, hb, hsp, hF⟩ := F w mg fa _ Y G.T.g hmg
  exact law_callG KX G.T.g G.T.b G.T.builtins G.T.nolimit hg hT nT C G.T.bmain hobj hints (Nat.le_trans hlen hn2) hr hF hb (fun H hH hst hS => hsp H a ns hlen hbits hH hst hS)
/-! ### from the head's facts -/
theorem lam_code {K : PySem.W.Frag} {x qual : Str} {params : Arguments} {body : List Stmt} {scope : Scope} {dvs : List V} {kws : List (Str × V)} {p : Str × Option Str} {fd : FuncData} (F : FunD K x qual params body scope dvs kws (He.fAd K p) fd) :
    ∀ (fd2 : FuncData) (oc : Value) (od : Option Addr) (osl : Array (Option Value)), K.lookup (He.fAd K p) = some ⟨oc, od, .func fd2, osl⟩ → fd2.code = .ref (He.codeOf K p) := by
  obtain ⟨oc, od, dV, kV, doc, pm, an, cdv, ct, osl, rfl, lk, hcd, _, _⟩ := F.ex
  obtain ⟨c, rfl⟩ := He.codeIn_ref hcd
  intro fd2 oc2 od2 osl2 lk2
  rw [lk] at lk2
  cases lk2
  rw [He.codeOf_eq lk rfl]
theorem tabs_start {H : Hp} {T : List (Addr × Str)} (h : ∀ p ∈ T, H p.1 = some (.tbl #[])) : LamX.Tabs T H := fun p hp => ⟨#[], h p hp, trivial, fun _ _ e => by cases e⟩
theorem Vals.getD {vs : List V} {us : List Value} (r : Vals vs us) (i : Nat) : RelV (vs.getD i .non) (us.getD i .none) := by
  cases h : vs[i]? with
  | none =>
    have h2 : us[i]? = none := by
      rw [List.getElem?_eq_none_iff] at h ⊢
      rw [← r.length]
      exact h
    rw [List.getD_eq_getElem?_getD, List.getD_eq_getElem?_getD, h, h2]
    rfl
  | some v =>
    obtain ⟨u, hu, ru⟩ := r.get h
    rw [List.getD_eq_getElem?_getD, List.getD_eq_getElem?_getD, h, hu]
    exact ru
/-- keywords, no defaults -/
theorem kbn_of {K : PySem.W.Frag} {x qual : Str} {params : Arguments} {body : List Stmt} {scope : Scope} {f : Addr} {fd : FuncData} {ps ks : List Str} {n : Nat} {g : List Value → List Value → List Value} {gV : List V → List V → List V} (F : FunD K x qual params body scope [] [] f fd)
    (h : ∀ (kV doc pm : Value) (an : Option Addr) (cdv ct : Value) (us ws : List Value), us.length = n → ws.length = ks.length → bindArgs (PySem.W.fnOf x qual params body scope .none kV doc pm an cdv ct) ⟨us, ks.zip ws⟩ = pure (ps.zip (g us ws)))
    (rel : ∀ {vs : List V} {us : List Value} {zs : List V} {ws : List Value}, Vals vs us → Vals zs ws → Vals (gV vs zs) (g us ws)) : KBn K fd ps n ks g gV := by
  obtain ⟨oc, od, dV, kV, doc, pm, an, cdv, ct, osl, rfl, lk, hcd, hD, hK⟩ := F.ex
  rcases hD with ⟨_, rfl⟩ | ⟨e, _⟩
  · exact ⟨fun s us ws _ l1 l2 => .of_eq (h kV doc pm an cdv ct us ws l1 l2), rel⟩
  · exact absurd rfl e
/-- the same for a def with defaults: each parameter is given -/
theorem kbn_ofD {K : PySem.W.Frag} {x qual : Str} {params : Arguments} {body : List Stmt} {scope : Scope} {dvs : List V} {f : Addr} {fd : FuncData} {ps ks : List Str} {n : Nat} {g : List Value → List Value → List Value} {gV : List V → List V → List V} (F : FunD K x qual params body scope dvs [] f fd) (hd : dvs ≠ [])
    (h : ∀ (T : Addr) (kV doc pm : Value) (an : Option Addr) (cdv ct : Value) (us its ws : List Value), us.length = n → its.length = dvs.length → ws.length = ks.length →
      ∃ k, bindArgs (PySem.W.fnOf x qual params body scope (.ref T) kV doc pm an cdv ct) ⟨us, ks.zip ws⟩ = seqItems? (.ref T) >>= k ∧ k (some its.toArray) = pure (ps.zip (g us ws)))
    (rel : ∀ {vs : List V} {us : List Value} {zs : List V} {ws : List Value}, Vals vs us → Vals zs ws → Vals (gV vs zs) (g us ws)) : KBn K fd ps n ks g gV := by
  obtain ⟨oc, od, dV, kV, doc, pm, an, cdv, ct, osl, rfl, lk, hcd, hD, hK⟩ := F.ex
  rcases hD with ⟨e, _⟩ | ⟨_, T, o, its, m, rfl, lT, oT, rT⟩
  · exact absurd e hd
  · refine ⟨fun s us ws X l1 l2 => ?_, rel⟩
    obtain ⟨k, e1, e2⟩ := h T kV doc pm an cdv ct us its ws l1 rT.length.symm l2
    refine BindsTo.of_looks fun M => ?_
    rw [e1]
    exact looks_items X lT oT (.of_pure e2)
end Sk
/-! a call of an own function whose promise holds where no repr is under way -/
namespace Sk
open PySem PySem.Spec PyProof.Rows L2
structure FnGx (P : Program) (w : World) (K : PySem.W.Frag) (mg : Str → Option Value) (base : Heap) (x : Str) (k : Nat) (ps : List Str) (sp : Sp) : Prop where
  ex : ∃ (f : Addr) (fd : FuncData), FnG P w K mg base k f fd ps sp ∧ (∀ vs H Q E, sp vs H Q E → vs.length = ps.length) ∧ mg x = some (.ref f) ∧ PySem.W.keepIn K (.ref f) = true ∧ Binds K fd ps []
section
variable {X : Cx} {x : Str} {k : Nat} {ps : List Str} {sp : Sp} {e : Expr} {es : List Expr} {t : TA} {p pos : Pos}
theorem pe_fnG (F : FnGx X.prog X.w X.K X.mg X.base x k ps sp) (hgd : X.A.guards = some []) (hr : Room k X.A) (ha : PA X (e :: es) t) (hg : Gl X x := by rfl) (hdb : (x == ("__debug__" : Str)) = false := by decide)
    (he : starEach (e :: es) X.env = (false, eval e X.env) :: starEach es X.env := by rfl) (hpl : (backTo pos (starEach es X.env)).any (·.1) = false := by rfl) : PE X (.Call (.Name x p) (e :: es) [] pos) (tCall sp [] E0 t) := by
  obtain ⟨f, fd, F1, hlen, hm, hk, hb⟩ := F.ex
  refine ⟨fun pins s σ H Q I h => ?_⟩
  refine wpAny_Call_Name_kw (ld_glob I hg hm ?_ hdb)
  refine PySem.W.callWith_K (h₀ := X.base) I.ok.mod.kin hk (thn (ha.run pos pins s σ H _ I h) fun us s1 ⟨vs, H1, I1, r, q⟩ => ⟨I1.kIn, ?_⟩) he hpl
  have r2 : Vals (vs ++ []) (us ++ []) := r.append .nil
  have hl : (us ++ []).length = ps.length := by rw [← r2.length]; exact hlen _ _ _ _ q
  refine wpAny_call (codeAny_mono (F1 X.A X.stack s1 H1 ⟨us, []⟩ (us ++ []) (vs ++ []) Q E0 hgd hr I1.env0 (hb s1 us I1.kIn hl) r2 q) fun r s' hq => ?_)
  cases r with
  | error e => exact (pass0 : Passes CX0 X E0) pins σ H1 s1 e s' I1 hq
  | ok fl =>
    cases fl with
    | ret u => exact I1.after hq
    | next => exact False.elim hq
    | brk => exact False.elim hq
    | cont => exact False.elim hq
end
end Sk
/-! d[k] as a part of a target -/
namespace Sk
open PySem PySem.Spec PyProof.Rows L2
def sSetD : TSet := fun o i v H Q => ∃ a H4, o = .ref a ∧ DPut H a i v H4 ∧ Q H4
theorem set_dict {X : Cx} (hu : X.A.units + 1 < cLine) : PSet X sSetD := by
  intro pins s σ H o i v ov iv u Q I ro ri rv h
  obtain ⟨a, H4, rfl, g, q⟩ := h
  obtain rfl : ov = Value.ref a := ro
  exact d_setItem hu I g ri rv fun s4 I4 => ⟨H4, I4, q⟩
/-! ### how often a truth value stands in a list -/
def isB (k : Bool) : Value → Bool
  | .bool b => b == k
  | _ => false
theorem bools_of : ∀ {bs : List Bool} {its : List Value}, Vals (bs.map V.bl) its → its = bs.map Value.bool
  | [], _, .nil => rfl
  | b :: bs, _, .cons h t => by
    rw [List.map_cons, ← bools_of t]
    congr 1
theorem isB_count (k : Bool) : ∀ bs : List Bool, (bs.map Value.bool).countP (isB k) = bs.count k
  | [] => rfl
  | b :: bs => by
    rw [List.map_cons, List.countP_cons, List.count_cons, isB_count k bs]
    rfl
def rCntB (K : PySem.W.Frag) : V → List V → Hp → VK → Prop := fun x xs H Q => ∃ (p : Addr) (bs : List Bool) (k : Bool), x = .ref p ∧ xs = [.bl k] ∧ SqL K H p (bs.map V.bl) ∧ Q (.int (bs.count k : Nat)) H
theorem mt_cntB {X : Cx} : MtR X "list.count" (rCntB X.K) := by
  intro pins s σ H x xs v us Q I rx rxs h
  obtain ⟨p, bs, k, rfl, rfl, hs, q⟩ := h
  cases rx
  obtain ⟨u, rfl, ru⟩ := rxs.one
  cases (show u = Value.bool k from ru)
  obtain ⟨its, rv, ⟨⟨cls, dd, data, sl⟩, n, ho, hc, hdn, hd⟩, hlen⟩ := I.list hs
  simp only at hc hd
  subst hc hd
  have hi := bools_of rv
  subst hi
  refine call_meets PySem.F.slot_list_count ⟨_, ho, rfl⟩ PySem.F.entry_list_count (PySem.F.args_list_count_2 _ _)
    (SeqAt.list_countAt p (bs.map Value.bool).toArray n dd sl (.bool k) (isB k)) ⟨ho, fun y hy => ?_, ?_⟩
  · have hy : y ∈ bs.map Value.bool := by simpa using hy
    obtain ⟨b, _, rfl⟩ := List.mem_map.mp hy
    exact SeqAt.EqAt.bool_bool b k
  have ec : (bs.map Value.bool).toArray.toList.countP (isB k) = bs.count k := isB_count k bs
  refine ⟨.int (bs.count k : Nat), H, I.tok _, ⟨s.toks, ?_⟩, q⟩
  show Value.int ((((bs.map Value.bool).toArray.toList.countP (isB k) : Nat)) : Int) s.toks = Value.int ((bs.count k : Nat) : Int) s.toks
  rw [ec]
end Sk
/-! own exceptions over an own base class: made, raised, caught, held -/
namespace Sk
open PySem PySem.Spec PyProof.Rows L2
/-! ### what K says of such a class -/
structure XcB (K : PySem.W.Frag) (C : Addr) : Prop where
  ox : OexC K C
  xf : XfC K C
  ha : PySem.W.findIn K (.ref C) "__class__" = some (some (.builtin "object.__class__"))
  hn : PySem.W.specialIn K (.builtin "object.__class__") "__get__" = some (some (.builtin "getset_descriptor.__get__"))
  ht : PySem.W.takesIn K (.builtin "object.__class__") = some true
  hm : PySem.W.mroIn K C (.type "object") = some true
  nv : PySem.W.findIn K (.ref C) "value" = some none
  fi : PySem.W.findIn K (.ref C) "__init__" = some (some (.ref (He.ma K C "__init__")))
  ti : PySem.W.typeIn K (.ref (He.ma K C "__init__")) = some (.type "function")
def xcObj (K : PySem.W.Frag) (C : Addr) : Bool :=
  match K.lookup C with
  | some ⟨.type t, _, .cls cd, sl⟩ =>
    (match cd.mro, sl.toList with
    | .ref C2 :: tl, [_, _, _, _, some (.builtin nw), _] => decide (t = "type") && (decide (C2 = C) && (decide (nw = "ValueError.__new__") && (!cd.hasDel && (cd.hasDict && PySem.HandSPX.refsVE tl))))
    | _, _ => false)
  | _ => false
theorem xcObj_ok {K : PySem.W.Frag} {C : Addr} (z : xcObj K C = true) : ∃ nm q N bs bm sn sub ab col dd k0 k1 k2 k3 k5, K.lookup C = some (excClassObj nm q C N bs bm true sn sub ab col dd k0 k1 k2 k3 k5 "ValueError.__new__") ∧ PySem.HandSPX.refsVE bm = true := by
  unfold xcObj at z
  split at z
  · rename_i t dd cd sl ho
    split at z
    · rename_i C2 tl k0 k1 k2 k3 nw k5 em es
      simp only [Bool.and_eq_true, decide_eq_true_eq, Bool.not_eq_true'] at z
      obtain ⟨e0, e1, e2, e3, e4, e5⟩ := z
      obtain ⟨l⟩ := sl
      have es' : l = [k0, k1, k2, k3, some (.builtin nw), k5] := es
      obtain ⟨nm, bs, mro, ns, qn, hd, sn, sub, ab, col, del⟩ := cd
      have em' : mro = .ref C2 :: tl := em
      have e3' : del = false := e3
      have e4' : hd = true := e4
      subst es' em' e3' e4' e0 e1 e2
      exact ⟨nm, qn, ns, bs, tl, sn, sub, ab, col, dd, k0, k1, k2, k3, k5, ho, e5⟩
    · cases z
  · cases z
def xcB (K : PySem.W.Frag) (C : Addr) : Bool :=
  xcObj K C && (decide (PySem.W.findIn K (.ref C) "__setattr__" = some (some (.builtin "object.__setattr__"))) && (decide (PySem.W.typeIn K (.ref C) = some (.type "type")) && (PySem.W.keepIn K (.ref C) && (xfB K C &&
  (decide (PySem.W.findIn K (.ref C) "__class__" = some (some (.builtin "object.__class__"))) && (decide (PySem.W.specialIn K (.builtin "object.__class__") "__get__" = some (some (.builtin "getset_descriptor.__get__"))) &&
  (decide (PySem.W.takesIn K (.builtin "object.__class__") = some true) && (decide (PySem.W.mroIn K C (.type "object") = some true) && (decide (PySem.W.findIn K (.ref C) "value" = some none) &&
  (decide (PySem.W.findIn K (.ref C) "__init__" = some (some (.ref (He.ma K C "__init__")))) && decide (PySem.W.typeIn K (.ref (He.ma K C "__init__")) = some (.type "function"))))))))))))
theorem xcB_ok {K : PySem.W.Frag} {C : Addr} (z : xcB K C = true) : XcB K C := by
  unfold xcB at z
  simp only [Bool.and_eq_true, decide_eq_true_eq] at z
  obtain ⟨z1, z2, z3, z4, z5, z6, z7, z8, z9, z10, z11, z12⟩ := z
  have xf := xfB_ok z5
  exact ⟨⟨xcObj_ok z1, z2, xf.exC, z3, z4⟩, xf, z6, z7, z8, z9, z10, z11, z12⟩
/-- the base class: its __init__ is ValueError's -/
structure SbB (K : PySem.W.Frag) (B : Addr) : Prop where
  rd : ClX.CRead K B (.type "type")
  at_ : PySem.W.findCls K (.ref B) (.type "type") "__init__" = some (.val (.builtin "ValueError.__init__"))
def sbB (K : PySem.W.Frag) (B : Addr) : Bool :=
  PySem.W.readsIn K B (.type "type") && (decide (PySem.W.specialIn K (.ref B) "__getattribute__" = some (some (.builtin "type.__getattribute__"))) && (match PySem.W.findCls K (.ref B) (.type "type") "__init__" with
  | some (.val (.builtin n)) => decide (n = "ValueError.__init__")
  | _ => false))
theorem sbB_ok {K : PySem.W.Frag} {B : Addr} (z : sbB K B = true) : SbB K B := by
  unfold sbB at z
  simp only [Bool.and_eq_true, decide_eq_true_eq] at z
  obtain ⟨z1, z2, z3⟩ := z
  refine ⟨⟨z1, z2⟩, ?_⟩
  split at z3
  · rename_i n e
    rw [e, of_decide_eq_true z3]
  · cases z3
/-- what isinstance asks of such a class -/
structure XfC' (K : PySem.W.Frag) (D : Addr) : Prop where
  hg : PySem.W.findIn K (.ref D) "__getattribute__" = some (some (.builtin "BaseException.__getattribute__"))
  hk : PySem.W.findIn K (.ref D) "__getattr__" = some none
  hs : PySem.W.subIn K (.ref D) (.type "BaseException") = some true
  hd : PySem.W.hasDictIn K D = true
  ha : PySem.W.findIn K (.ref D) "__class__" = some (some (.builtin "object.__class__"))
  hn : PySem.W.specialIn K (.builtin "object.__class__") "__get__" = some (some (.builtin "getset_descriptor.__get__"))
  ht : PySem.W.takesIn K (.builtin "object.__class__") = some true
  hm : PySem.W.mroIn K D (.type "object") = some true
theorem XcB.is {K : PySem.W.Frag} {C : Addr} (b : XcB K C) : XfC' K C := ⟨b.xf.ga, b.xf.gg, b.xf.exC, b.xf.hdC, b.ha, b.hn, b.ht, b.hm⟩
/-! ### B.__init__(self, ..) -/
section
variable {X : Cx} {b : Str} {B : Addr} {e : Expr} {es : List Expr} {ta : TA} {p1 p2 pos : Pos}
theorem pe_obinit {pl : Sem Bool} (S : SbB X.K B) (hm : X.mg b = some (.ref B)) (ha : PA X (e :: es) ta) (hg : Gl X b := by rfl) (hdb : (b == ("__debug__" : Str)) = false := by decide)
    (hc : eval (.Call (.Attribute (.Name b p1) "__init__" p2) (e :: es) [] pos) X.env = (do
      let ov ← eval (.Name b p1) X.env
      standAt p2.atName
      let (f, first) ← holding [ov] (getMethod ov "__init__" pl)
      callWith pos f first (backTo pos (starEach (e :: es) X.env)) (backToKw pos (keywordEach [] X.env))) := by rfl)
    (he : starEach (e :: es) X.env = (false, eval e X.env) :: starEach es X.env := by rfl) (hpl : (backTo pos (starEach es X.env)).any (·.1) = false := by rfl) :
    PE X (.Call (.Attribute (.Name b p1) "__init__" p2) (e :: es) [] pos) (tVeI X.K ta) := by
  refine ⟨fun pins s σ H Q I h => ?_⟩
  refine PySem.W.methodCall_KW (ld_glob I hg hm ?_ hdb) hc
  refine PySem.W.method_cls I.kIn S.rd.ga (PySem.W.cls_value I.kIn S.rd.rd S.at_ (by decide +kernel) ?_)
  show wpAny _ _ (callWith pos (Value.builtin "ValueError.__init__") [] (backTo pos (starEach (e :: es) X.env)) []) _ _ _
  refine PyProof.Rows.callWith_method1 (thn (ha.run pos pins _ σ H _ (I.tok _) h) fun us s1 hh => ?_) he hpl
  obtain ⟨vs, H1, I1, r1, a, C, ws, ev, hl, T, ea, q⟩ := hh
  subst ev
  cases r1 with
  | @cons _ u0 _ ur ra rw' =>
    obtain rfl : u0 = Value.ref a := ra
    refine oinit_ok T I1 ea ?_ fun s' J => ⟨.non, H1, J, rfl, q⟩
    rw [← Paired.length rw', sizeLine_eq]
    omega
end
/-! ### X(v) -/
/-- what X.__init__ keeps -/
def xinit (C : Addr) : Sp := fun vs H Q _ => ∃ (a : Addr) (v : V), vs = [.ref a, v] ∧ H a = some (exo a C none) ∧ ∀ d, H d = none → d ≠ a → Q .non (upd (upd H d (exd d [("value", v)])) a (exo a C (some d)))
def xkV (vs zs : List V) : List V := [vs.getD 0 .non, zs.getD 0 .non]
/-- an own exception class of the program -/
structure Xc (P : Program) (w : World) (K : PySem.W.Frag) (mg : Str → Option Value) (base : Heap) (x : Str) : Prop where
  b : XcB K (He.ga K x)
  hm : mg x = some (.ref (He.ga K x))
  fn : ∃ (fd : FuncData) (g : List Value → List Value → List Value), FnOk P w K mg base CX0 1 (He.ma K (He.ga K x) "__init__") fd ["self", "value"] (xinit (He.ga K x)) ∧ Binds K fd ["self", "value"] [] ∧ KBn K fd ["self", "value"] 1 ["value"] g xkV
theorem xr_of {H : Hp} {a C : Addr} {v : V} {Q : XK} (n : H a = none) (k : ∀ d, H d = none → Q (.ref C) (some d) (upd H d (.xd [("value", v)]))) :
    xinit C [.ref a, v] (upd H a (exo a C none)) (fun u H2 => u = .non ∧ ∃ (d : Addr) (fs : List (Str × V)), H2 a = some (exo a C (some d)) ∧ H2 d = some (exd d fs) ∧ H d = none ∧ Q (.ref C) (some d) (upd (L2.del H2 a) d (.xd fs))) E0 := by
  refine ⟨a, v, rfl, upd_same, fun d hd nd => ⟨rfl, d, [("value", v)], upd_same, ?_, ?_, ?_⟩⟩
  · rw [upd_ne nd, upd_same]
  · rwa [upd_ne nd] at hd
  · have hd' : H d = none := by rwa [upd_ne nd] at hd
    have e : upd (L2.del (upd (upd (upd H a (exo a C none)) d (exd d [("value", v)])) a (exo a C (some d))) a) d (.xd [("value", v)]) = upd H d (.xd [("value", v)]) := by
      funext y
      by_cases y1 : y = d
      · rw [y1, upd_same, upd_same]
      · rw [upd_ne y1, upd_ne y1]
        by_cases y2 : y = a
        · rw [y2, L2.del_same, n]
        · rw [L2.del_ne y2, upd_ne y2, upd_ne y1, upd_ne y2]
    rw [e]
    exact k d hd'
/-- X(v): the reading -/
def tXc (K : PySem.W.Frag) (x : Str) (t : TA) : L2.St → Hp → XK → Prop := fun σ H Q => t σ H fun vs H1 => ∃ v, vs = [v] ∧ ∀ d, H1 d = none → Q (.ref (He.ga K x)) (some d) (upd H1 d (.xd [("value", v)]))
section
variable {X : Cx} {x : Str} {e : Expr} {es : List Expr} {kws : List Keyword} {t : TA} {p pos : Pos}
/-- the class is called: us the positional values, kw the keywords -/
theorem run_xc {pins : List (Addr × Obj)} {σ : L2.St} {H1 : Hp} {s : Shared} {Q : XK} {us : List Value} {v : V} {u : Value} (G : Xc X.prog X.w X.K X.mg X.base x) (hr : Room 2 X.A) (I1 : Inv X pins σ H1 s) (r : RelV v u)
    (q1 : ∀ d, H1 d = none → Q (.ref (He.ga X.K x)) (some d) (upd H1 d (.xd [("value", v)]))) : wpAny (model X.prog X.w) X.A (call (.ref (He.ga X.K x)) [u]) (fun u s' => L2N.MkP X pins σ Q u s' ∧ L2H.Six u s') X.xe s := by
  obtain ⟨fd, gk, F1, hb, _⟩ := G.fn
  obtain ⟨nm, q, N, bs, bm, sn, sub, ab, col, dd, k0, k1, k2, k3, k5, hC, hbm⟩ := G.b.ox.cls
  obtain ⟨hp, g, dr, tk, os⟩ := s
  let a : Addr := hp.objs.size + 1
  have hsz : hp.objs.size ≤ a := Nat.le_succ _
  have hn : H1 a = none := I1.hok.fresh hsz
  have kk : ∀ b o, hp.get? b = some o → ((hp.push (PySem.W.kdv_tup [u])).push (PySem.HandSPX.excO (He.ga X.K x) hp.objs.size)).get? b = some o := fun b o z => Heap.get?_push_of_some _ (Heap.get?_push_of_some _ z)
  have hget : ((hp.push (PySem.W.kdv_tup [u])).push (PySem.HandSPX.excO (He.ga X.K x) hp.objs.size)).get? a = some (PySem.HandSPX.excO (He.ga X.K x) hp.objs.size) := by
    show ((hp.push (PySem.W.kdv_tup [u])).push (PySem.HandSPX.excO (He.ga X.K x) hp.objs.size)).get? (hp.objs.size + 1) = _
    heap_get
  have I2 := I1.laid (t' := tk) (a := a) (o := exo a (He.ga X.K x) none) (h' := (hp.push (PySem.W.kdv_tup [u])).push (PySem.HandSPX.excO (He.ga X.K x) hp.objs.size)) kk hsz (exo_ok hget)
  have r2 : Vals [V.ref a, v] [Value.ref a, u] := .cons rfl (.cons r .nil)
  have hq := xr_of (C := He.ga X.K x) hn q1
  refine wpAny_call (PySem.HandSPX.call_own F.excBase_ValueError (fun Y => PySem.HandSPX.refsVE_contains Y bm hbm) (I1.kIn _ _ hC) (PySem.W.looks_findIn I1.kIn G.b.fi) (fun self => PySem.W.bind_fn I1.kIn self G.b.ti) (by show 1 ≤ sizeLine; decide)
    (codeAny_mono (F1.run _ X.stack _ _ ⟨[Value.ref a, u], []⟩ [Value.ref a, u] _ _ E0 (hr.make (He.ga X.K x) [u] []) (I2.env0.make (He.ga X.K x) [u] []) (by
      have := hb _ [Value.ref a, u] I2.kIn rfl
      simpa using this) r2 hq) fun r s' hq' => ?_))
  cases r with
  | error er => exact (pass0 : Passes CX0 X E0) pins σ _ _ er s' I2 hq'
  | ok fl =>
    cases fl with
    | ret u =>
      obtain ⟨v, H2, os2, bare2, un2, hok2, rv, ev, d, fs, ea, ed, hd1, q2⟩ := hq'
      subst ev
      obtain ⟨h2, g2, d2, t2, os'⟩ := s'
      obtain ⟨t0, Gh, J, kG, ge, hoe, na⟩ := mk_end0 (d2 := d2) (t2 := t2) I1 hsz kk un2 hok2 os2 bare2 ea ed hd1
      refine ⟨rv, ⟨hp.objs.size + 1, _, _, ⟨Gh, g2, d2, t2, os'⟩, _, .ref (He.ga X.K x), some d, rfl, J, kG, ge, hoe, ⟨rfl, rfl, fun vs hv => ?_⟩, rfl, rfl, na, rfl, bare2, raises_own G.b.ox.exC G.b.ox.tyC, q2⟩, fun a oe vs ea2 hg2 hd2 => ?_⟩
      · cases hv
        rfl
      · cases ea2
        have hg3 : h2.get? (hp.objs.size + 1) = some oe := hg2
        rw [hoe] at hg3
        cases hg3
        cases hd2
        show (4 : Nat) < 6
        decide
    | next => exact False.elim hq'
    | brk => exact False.elim hq'
    | cont => exact False.elim hq'
theorem pmk5_xc (G : Xc X.prog X.w X.K X.mg X.base x) (hr : Room 2 X.A) (ha : PA X [e] t) (hg : Gl X x := by rfl) (hdb : (x == ("__debug__" : Str)) = false := by decide)
    (he : starEach [e] X.env = (false, eval e X.env) :: starEach [] X.env := by rfl) (hpl : (backTo pos (starEach [] X.env)).any (·.1) = false := by rfl) : L2H.PMk5 X (.Call (.Name x p) [e] [] pos) (tXc X.K x t) := by
  intro pins s σ H Q I h
  refine wpAny_Call_Name_kw (ld_glob I hg G.hm ?_ hdb)
  refine PySem.W.callWith_K (h₀ := X.base) I.ok.mod.kin G.b.ox.kC (thn (ha.run pos pins s σ H _ I h) fun us s1 hh => ?_) he hpl
  obtain ⟨vs, H1, I1, r1, v, rfl, q1⟩ := hh
  obtain ⟨u, rfl, ru⟩ : ∃ u, us = [u] ∧ RelV v u := by
    cases r1 with
    | cons r0 rr =>
      cases rr
      exact ⟨_, rfl, r0⟩
  exact ⟨I1.kIn, run_xc (us := [u]) G hr I1 ru q1⟩
theorem pmk_xc (G : Xc X.prog X.w X.K X.mg X.base x) (hr : Room 2 X.A) (ha : PA X [e] t) (hg : Gl X x := by rfl) (hdb : (x == ("__debug__" : Str)) = false := by decide)
    (he : starEach [e] X.env = (false, eval e X.env) :: starEach [] X.env := by rfl) (hpl : (backTo pos (starEach [] X.env)).any (·.1) = false := by rfl) : L2N.PMk X (.Call (.Name x p) [e] [] pos) (tXc X.K x t) := (pmk5_xc G hr ha hg hdb he hpl).pmk
end
/-! ### an exception as a value -/
/-- an exception of the class cls, its dict at d, stands at a -/
def exT (a : Addr) (cls : Value) (d : Option Addr) : HO := .ext fun h => ∃ (oe : Obj) (vs : Array Value), h.get? a = some oe ∧ L2N.Zn cls d oe ∧ oe.data = .fields vs
theorem exT_ok {P : Program} {w : World} {H : Hp} {h : Heap} {a : Addr} {cls : Value} {d : Option Addr} {oe : Obj} {vs : Array Value} (z1 : h.get? a = some oe) (z2 : L2N.Zn cls d oe) (z3 : oe.data = .fields vs) : ObjOk P w H h a (exT a cls d) :=
  ⟨⟨oe, vs, z1, z2, z3⟩, ⟨oe, z1⟩, fun _ _ ⟨o, v, q1, q2⟩ k => ⟨o, v, k o q1, q2⟩⟩
theorem exT_at {P : Program} {w : World} {H : Hp} {h : Heap} {a : Addr} {cls : Value} {d : Option Addr} (hok : HOk P w H h) (z : H a = some (exT a cls d)) : ∃ (oe : Obj) (vs : Array Value), h.get? a = some oe ∧ L2N.Zn cls d oe ∧ oe.data = .fields vs := by
  have y : ObjOk P w H h a (.ext fun h => ∃ (oe : Obj) (vs : Array Value), h.get? a = some oe ∧ L2N.Zn cls d oe ∧ oe.data = .fields vs) := hok a _ z
  exact y.1
theorem exT_ntb {a : Addr} {cls : Value} {d : Option Addr} : ∀ ps, exT a cls d ≠ .tbl ps := fun ps z => by
  have z' : HO.ext _ = HO.tbl ps := z
  cases z'
section
variable {X : Cx} {x : Str} {e : Expr} {t : TA}
theorem pe_ofMk {tm : L2.St → Hp → XK → Prop} (h : L2N.PMk X e tm) : PE X e (fun σ H Q => tm σ H fun cls d H1 => ∀ a, H1 a = none → Q (.ref a) (upd H1 a (exT a cls d))) := by
  refine ⟨fun pins s σ H Q I hq => wpAny_mono (h pins s σ H _ I hq) (fun u s1 hu => ?_) fun _ _ z => z⟩
  obtain ⟨a, oe, vs, sI, H1, cls, d, rfl, J, k, hne, ha, hz, hd, h1, na, os, ag, r, q⟩ := hu
  obtain ⟨h0, g0, d0, t0, os0⟩ := s1
  have J2 := J.call (ch := []) (h' := h0) (g' := g0) (d' := d0) (t' := t0) (H' := upd H1 a (exT a cls d))
    ⟨fun b o z _ _ _ => k b o z, fun b o z _ _ _ => ⟨o.slots, k b o z⟩, fun b o z n _ => by
      rw [upd_ne (fun y => by rw [y, hne] at z; cases z)]
      exact n, fun b o z _ => ⟨o, k b o z⟩, fun b xs z => by
      rw [upd_ne (ne_of_none z na)]
      exact z, fun b o u z => by
      rw [upd_ne (ne_of_none z na)]
      exact z, fun b ps z => ⟨#[], by rw [upd_ne (ne_of_none z na), z]; simp⟩⟩
    (J.hok.laidN k na (exT_ok ha hz hd)) ag (fun b z => nomatch z)
  obtain rfl : os0 = sI.os := os
  exact ⟨.ref a, _, J2, rfl, q a na⟩
end
/-! ### an except suite where the exception is told of by the heap -/
abbrev suiteT (X : Cx) (a : Addr) (pn : List (Addr × Obj)) : Cx := { X with A := X.A.mark (some (.ref a)), calm := false, pn := pn, xe := fun _ _ => False }
theorem okT {X : Cx} (ok : X.Ok) (a : Addr) (pn : List (Addr × Obj)) : (suiteT X a pn).Ok :=
  ⟨ok.mod, ok.kind, ok.glob, ok.blt, ok.above, ok.inj, ok.has, ok.cab, (fun z => absurd (show false = true from z) Bool.false_ne_true), ok.frames, ok.stk, ok.exf, ok.bs, ok.bsz, ok.noex, ok.exfs, ok.funs, ok.frf⟩
section
variable {X : Cx} {pins pn' : List (Addr × Obj)} {σ : L2.St} {H : Hp} {s : Shared} {a : Addr}
theorem inv_suiteT (I : Inv X pins σ H s) (a : Addr) : Inv (suiteT X a (X.pn ++ pins)) [] σ H s :=
  ⟨okT I.ok _ _, I.os, I.bare, I.base, I.loc, I.cell, I.free, I.freeC, fun q hq => I.pin q (by rwa [List.append_nil] at hq), I.hok, I.len⟩
theorem inv_unsuiteT (I : Inv (suiteT X a (X.pn ++ pins)) pn' σ H s) (ok : X.Ok) : Inv X pins σ H s :=
  ⟨ok, I.os, I.bare, I.base, I.loc, I.cell, I.free, I.freeC, fun q hq => I.pin q (List.mem_append_left _ hq), I.hok, I.len⟩
end
/-- what 'except x as n' wishes: the suite's heap tells of the exception -/
def wAsT (K : PySem.W.Frag) (c : Value) (i : Nat) (ts : Addr → TS) (Wout : WX) (D : Ends) : WX := fun cls d σ H =>
  ∃ b, PySem.W.exmOne K cls c = some b ∧ (b = true → ∀ a, H a = none → ts a { nx := fun σ' H' => D.nx (σ'.set i none) H', rt := D.rt, bk := fun σ' H' => D.bk (σ'.set i none) H', ct := fun σ' H' => D.ct (σ'.set i none) H' } (σ.set i (some (.ref a))) (upd H a (exT a cls d))) ∧
    (b = false → Wout cls d σ H)
section
variable {X : Cx} {x n : Str} {c : Value} {i : Nat} {body suite : List Stmt} {b₀ : Stmt} {np pos pos' : Pos} {tb : WX → TS} {ts : Addr → TS} {Wout : WX}
theorem ps_try_asT (hs : X.stack = X.env :: X.outer) (hf : X.env.frame = some X.env.locals) (hN : X.N.Nodup) (hi : X.N[i]? = some n) (hln : X.env.kindOf n = some .local) (hc : Names X x c) (tk : L2N.Takes X Wout)
    (hb : ∀ (W : WX) (pn : List (Addr × Obj)) (xe : Value → Shared → Prop), L2N.Takes (X.tr pn xe) W → PassesOwn (model X.prog X.w) X.A X.env xe → PSs (X.tr pn xe) body (tb W))
    (hsu : ∀ (a : Addr) (pn : List (Addr × Obj)), PSs (suiteT X a pn) (b₀ :: suite) (ts a)) :
    PS X (.Try body [.ExceptHandler (some (.Name x np)) (some n) (b₀ :: suite) pos'] [] [] pos) (fun D σ H => tb (wAsT X.K c i ts Wout D) D σ H) := by
  refine ⟨fun pins s σ H D I h => ?_⟩
  have ok := I.ok
  have hfr : X.A.frames = some (X.env :: X.outer) := by rw [ok.frames, hs]
  have hloc : Loc X.env.scope n := .inl hln
  refine wpAny_Try_except ?_
  let xe2 : Value → Shared → Prop := fun e s₁ => wpAny (model X.prog X.w) X.A (noteFrame e X.env) (fun _ s₂ => wpAny (model X.prog X.w) X.A (setFlight e none) (fun _ s₃ => wpAny (model X.prog X.w) X.A (handleBy e X.env [.ExceptHandler (some (.Name x np)) (some n) (b₀ :: suite) pos']) (SP X pins D) X.xe s₃) X.xe s₂) X.xe s₁
  refine wpAny_mono ((hb (wAsT X.K c i ts Wout D) (X.pn ++ pins) xe2 (fun u s' xx => ?_) PassesOwn.looking).run [] s σ H D (I.toTry _) h) (fun f s1 hsp => ?_) (fun e s1 he => he)
  · obtain ⟨a, B, sI, pins', σ', H', cls, d, rfl, J', nb, up, sky, na, os, ag, b, hb1, hyes, hno⟩ := xx
    have J : Inv X pins σ' H' sI := J'.ofTry ok
    have sky' : Sky B (X.env :: X.outer) a (L2N.Zn cls d) X.env.locals s'.heap := by rw [← hs]; exact sky
    show wpAny (model X.prog X.w) X.A (noteFrame (.ref a) X.env) _ _ _
    refine L2N.Sky.land L2N.Zn.steady hfr hf sky' fun h3 fl3 up3 => ?_
    have J3 : Inv X pins σ' H' { s' with heap := h3 } := J.landed nb fl3.1 (up.trans up3) os ag
    obtain ⟨oe3, vs3, he3, hz3, hd3⟩ := fl3.there
    have nfr : a ∉ frs (X.env :: X.outer) := fun hm => by
      obtain ⟨_, o', e', hnf⟩ := fl3.2.2.1.mem hm
      rw [he3] at e'
      cases e'
      exact hnf _ hd3
    refine wpAny_handleBy_cons (codeAny_handlers_test ?_) (by intro q; cases q)
    have LT : PySem.W.Looks (model X.prog X.w) h3 (typeOf (.ref a)) cls := fun A Q E s k q => wpAny_typeOf_ref (k _ _ he3) (by rw [hz3.1]; exact q)
    have LM := PySem.W.exm_one (M := model X.prog X.w) (J3.kIn) LT hb1
    have S3 := inv_suiteT J3 a
    have test : ∀ {Q : Value → Shared → Prop} {E : Value → Shared → Prop}, Q c { s' with heap := h3 } → wpAny (model X.prog X.w) (X.A.mark (some (.ref a))) (eval (.Name x np) X.env) Q E { s' with heap := h3 } := fun {Q E} q => by
      obtain ⟨hg, hdbg, hm | ⟨hm, hv, hnn⟩⟩ := hc
      · exact ld_glob (X := suiteT X a (X.pn ++ pins)) S3 hg hm q hdbg
      · exact ld_blt (X := suiteT X a (X.pn ++ pins)) S3 hg hm hv q hnn hdbg
    refine test (LM.here ?_)
    cases b with
    | true =>
      refine codeAny_handlers_suite_as ?_
      refine HandSPX.lands_againZ fl3 fun h4 fl4 up4 => ?_
      obtain ⟨oe4, vs4, he4, hz4, hd4⟩ := fl4.there
      have hBa : B.get? a = none := fl4.2.1
      obtain ⟨G, g1, g2⟩ := restrict h4 fun b => decide (b ≠ a)
      have gk : ∀ b o, b ≠ a → h4.get? b = some o → G.get? b = some o := fun b o hb z => by
        rw [g1 b (decide_eq_true hb)]
        exact z
      have ga : G.get? a = none := g2 a (decide_eq_false fun z => z rfl)
      have gs : ∀ b o, G.get? b = some o → h4.get? b = some o := fun b o z => by
        by_cases hb : b = a
        · rw [hb, ga] at z
          cases z
        · rw [← g1 b (decide_eq_true hb)]
          exact z
      have naI : ∀ b o, sI.heap.get? b = some o → b ≠ a := fun b o z y => by
        have nf : b ∉ frs X.stack := by
          rw [y, hs]
          exact nfr
        have w := nb b o z nf
        rw [y, hBa] at w
        cases w
      have stG : B.StaysIn G := fun b o z => gk b o (fun y => by rw [y, hBa] at z; cases z) (fl4.1 b o z)
      have upG : sI.heap.UpToSlots G := fun b o z nf => by
        obtain ⟨sl, w⟩ := ((up.trans up3).trans up4) b o z nf
        exact ⟨sl, gk b _ (naI b o z) w⟩
      have JG : Inv X pins σ' H' { s' with heap := G } := J.landed (s' := { s' with heap := G }) nb stG upG os ag
      have J4 := JG.laidN (t' := s'.toks) (h' := h4) (o := exT a cls d) gs ga na (exT_ok he4 hz4 hd4)
      have S4 := inv_suiteT J4 a
      refine store_ok (X := suiteT X a (X.pn ++ pins)) (v := .ref a) S4 hN hi hloc rfl (fun s5 S5 => ?_) (.inr hln)
      refine wpAny_mono ((hsu a (X.pn ++ pins)).run [] s5 _ _ _ S5 (hyes rfl a na)) (fun f s6 hsp => ?_) (fun _ _ z => False.elim z)
      have end_ : ∀ {σ6 : L2.St} {H6 : Hp} {Q : Shared → Prop}, Inv (suiteT X a (X.pn ++ pins)) [] σ6 H6 s6 → (∀ s7, Inv X pins (σ6.set i none) H6 s7 → Q s7) →
          wpAny (model X.prog X.w) X.A (do bindName X.env n .none; unbindBehindTheSuite X.env n pos') (fun _ s7 => Q s7) X.xe s6 := fun {σ6 H6 Q} S6 hq => gone_ok (inv_unsuiteT S6 ok) hN hi hln hq
      cases f with
      | next =>
        obtain ⟨σ6, H6, S6, q6⟩ := hsp
        exact end_ S6 fun s7 J7 => ⟨_, _, J7, q6⟩
      | brk =>
        obtain ⟨σ6, H6, S6, q6⟩ := hsp
        exact end_ S6 fun s7 J7 => ⟨_, _, J7, q6⟩
      | cont =>
        obtain ⟨σ6, H6, S6, q6⟩ := hsp
        exact end_ S6 fun s7 J7 => ⟨_, _, J7, q6⟩
      | ret u =>
        obtain ⟨v6, σ6, H6, S6, r6, q6⟩ := hsp
        exact end_ S6 fun s7 J7 => ⟨_, _, _, J7, r6, q6⟩
    | false =>
      show wpAny _ X.A (handleBy (.ref a) X.env []) _ _ _
      refine wpAny_handleBy_nil ?_
      obtain ⟨k1, k2, k3, oe, vs, T, oT, ts', he, hz, hd, h1, hr⟩ := id fl3
      unfold PySem.passOn
      refine wpAny_bind (wpAny_field he hd h1 ?_)
      rw [if_neg (show ¬ ((Value.ref T == Value.none) = true) from by simp)]
      have fin : wpAny (model X.prog X.w) X.A (setFlight (.ref a) X.env.frame) (fun _ s4 => wpAny (model X.prog X.w) X.A (throw (.ref a) : Sem Flow) (SP X pins D) X.xe s4) X.xe { s' with heap := h3 } := by
        rw [hf]
        refine HandSPX.setFlight_upZ fl3 fun h4 hh4 up4 => wpAny_throw (tk _ _ ?_)
        exact ⟨a, B, sI, pins, σ', H', cls, d, rfl, J, nb, (up.trans up3).trans up4, .inr (.inr (by rw [hs]; exact hh4)), na, os, ag, hno rfl⟩
      first
        | exact wpAny_bind (wpAny_pure (wpAny_bind fin))
        | exact wpAny_bind fin
  · cases f with
    | next =>
      obtain ⟨σ', H', J', q⟩ := hsp
      exact wpAny_execs_nil ⟨σ', H', J'.ofTry ok, q⟩
    | brk =>
      obtain ⟨σ', H', J', q⟩ := hsp
      exact ⟨σ', H', J'.ofTry ok, q⟩
    | cont =>
      obtain ⟨σ', H', J', q⟩ := hsp
      exact ⟨σ', H', J'.ofTry ok, q⟩
    | ret u =>
      obtain ⟨v, σ', H', J', r, q⟩ := hsp
      exact ⟨v, σ', H', J'.ofTry ok, r, q⟩
end
/-! ### e.value -/
def tXv (K : PySem.W.Frag) (n : Str) (te : TE) : TE := fun σ H Q => te σ H fun x H1 => ∃ (a C d : Addr) (fs : List (Str × V)) (v : V), x = .ref a ∧ XfC K C ∧ PySem.W.findIn K (.ref C) n = some none ∧ H1 a = some (exT a (.ref C) (some d)) ∧ H1 d = some (.xd fs) ∧ fs.lookup n = some v ∧ Q v H1
theorem pe_xv {X : Cx} {e : Expr} {te : TE} {pos : Pos} {n : Str} (he : PE X e te) (hb : attributeBase e n X.env (eval e X.env) = eval e X.env := by rfl) : PE X (.Attribute e n pos) (tXv X.K n te) := by
  refine ⟨fun pins s σ H Q I h => ?_⟩
  refine attr_of hb (thn (he.run pins s σ H _ I h) fun u s1 hh => ?_)
  obtain ⟨x, H1, I1, rx, a, C, d, fs, v, rfl, T, hno, ea, ed, l, q⟩ := hh
  obtain rfl : u = Value.ref a := rx
  obtain ⟨oe, vs, ha, hz, hd⟩ := exT_at I1.hok ea
  have hx : ObjOk X.prog X.w H1 s1.heap d (.xd fs) := I1.hok d _ ed
  obtain ⟨mA, hns, hr⟩ := hx
  obtain ⟨od, ho, hl⟩ := lookIn_ns hns
  obtain ⟨u, hu, ru⟩ := RelO.some_of (v := v) (o := mA n) (by rw [← l]; exact hr n)
  have J : PySem.W.InstAt s1.heap a oe C (some od) := ⟨ha, hz.1, by unfold PySem.W.notCls; rw [hd] <;> rfl, by rw [hz.2.1]; exact ho⟩
  exact HandSPX.exc_get I1.kIn J T.ga T.gg T.exC (PySem.W.findObj_own T.hdC hno rfl (by rw [hl, hu])) (handed_of ru) ⟨v, H1, I1.tok _, ru, q⟩
end Sk
/-! own defs and methods that may raise; isinstance of an exception that the heap tells of -/
namespace PySem
open PySem.W PySem.Spec PySem.Calls PyProof.Rows
section
variable {prog : Program} {w : World} {A : Around} {E : Value → Shared → Prop} {s : Shared} {K : Frag} {x D : Addr} {ox : Obj} {od : Option Obj}
theorem sk_findData {C : Addr} {name : Str} {a g : Value} (hc : (clsIn K C).isSome = true) (ha : findIn K (.ref C) name = some (some a)) (hg : specialIn K a "__get__" = some (some g)) (ht : takesIn K a = some true) : findObj K C od name = some (.bind g a) := by
  obtain ⟨cd, hc⟩ := Option.isSome_iff_exists.mp hc
  unfold findObj
  rw [hc, Option.bind_some, ha, Option.bind_some]
  simp only [hg, ht, Option.bind_some]
/-- e.__class__ of an exception, with its dict or without -/
theorem sk_classE {Q : Option Value → Shared → Prop} (c : Sk.XfC' K D) (X : K.In s.heap) (I : InstAt s.heap x ox D od) (h : Q (some (.ref D)) { s with toks := s.toks + 1 }) : wpAny (model prog w) A (getAttr? (.ref x) "__class__") Q E s := by
  obtain ⟨hga, hgt, hsub, hdct, ha, hn, htk, hm⟩ := c
  have hf : findObj K D od "__class__" = some (.bind (.builtin "getset_descriptor.__get__") (.builtin "object.__class__")) := sk_findData (by obtain ⟨cd, hc, _⟩ := any_some hdct; rw [hc]; rfl) ha hn htk
  obtain ⟨hp, g, d, t, os⟩ := s
  have M0 := I.type (M := model prog w)
  have sub : Looks (model prog w) hp (isInstance (.ref x) (.type "BaseException")) true := M0.andThen (looks_subIn X hsub)
  have q2 : (Value.builtin "BaseException.__getattribute__" == Value.builtin "object.__getattribute__") = false := by decide +kernel
  unfold getAttr? getAttrBy? getAttrBy
  refine wpAny_bind (wpAny_mkText (wpAny_bind (wpAny_attempt (wpAny_holding (wpAny_bind (M0.at (wpAny_bind ((looks_findIn X hga).at ?_))))))))
  show wpAny _ _ (if (onTheHeap (Value.ref D) && Value.builtin "BaseException.__getattribute__" == Value.builtin "object.__getattribute__") = true then _ else _) _ _ _
  rw [if_neg (by rw [q2, Bool.and_false]; exact Bool.false_ne_true)]
  unfold getAttrByItsOwn hookBefore
  refine wpAny_bind ?_
  rw [if_pos (show onTheHeap (Value.ref D) = true from rfl)]
  refine (looks_findIn X hgt).at (wpAny_bind (wpAny_attempt (wpAny_holding ?_)))
  unfold callGetattribute
  rw [if_neg (show ¬ (false && onTheHeap (Value.builtin "BaseException.__getattribute__")) = true from Bool.false_ne_true)]
  unfold boundAndCalled
  rw [PySem.F.excAttr_ValueError.ga.bind (.ref x)]
  refine wpAny_bind (wpAny_pure ?_)
  show wpAny _ _ (call (.builtin "BaseException.__getattribute__") [.ref x, .str "__class__" t]) _ _ _
  refine wpAny_call (codeAny_call_builtin PySem.F.excAttr_ValueError.ga.plain PySem.F.entry_bexc_ga (@check_slot (model prog w) _ _ ⟨hp, g, d, t + 1, os⟩ "BaseException.__getattribute__" "BaseException" "__getattribute__" (.ref x) [.str "__class__" t] [] _ (by decide +kernel) (by decide +kernel) sub (PySem.F.args_bexc_ga (.ref x) (.str "__class__" t)) ?_))
  unfold Builtin.«object.__getattribute__»
  refine wpAny_bind (wpAny_of_eq (a := ((Value.ref x : Value), [Value.str "__class__" t])) (by first | rfl | (simp only [slotArgs]; rfl)) ?_)
  refine wpAny_bind (wpAny_pure (wpAny_bind (M0.at (wpAny_bind ((looks_find X I hf).at ?_)))))
  show wpAny _ _ (holding [Value.builtin "object.__class__"] (call (.builtin "getset_descriptor.__get__") [.builtin "object.__class__", .ref x, .ref D]) >>= ret) _ _ _
  refine wpAny_bind (wpAny_holding (wpAny_call (class_get (s := ⟨hp, g, d, t + 1, os⟩) (ox := ox) (od := od) X I hm ?_)))
  refine wpAny_pure ?_
  show wpAny _ _ (handedOut (.ref D)) _ _ _
  rw [handedOut_of (v := .ref D) rfl]
  first
    | exact wpAny_pure (wpAny_pure h)
    | exact wpAny_pure h
    | exact wpAny_pure (wpAny_bind (wpAny_pure (wpAny_pure h)))
theorem sk_kitE (c : Sk.XfC' K D) : KitX K (.ref x) (.ref D) (fun h => InstAt h x ox D od) where
  ty := fun _ _ _ I => I.type
  it := fun _ _ X _ => by
    obtain ⟨cdD, hcD, _⟩ := any_some c.hd
    unfold clsIn at hcD
    split at hcD
    · rename_i c' d' cd' sl' ho
      intro A' Q' E' s' k q
      unfold isType loadHead
      exact wpAny_bind (wpAny_loadPart (k _ _ (X _ _ ho)) (wpAny_pure q))
    · cases hcD
  ne := fun h tp dd its n sl X htp => by
    obtain ⟨cdD, hcD, _⟩ := any_some c.hd
    refine Bool.eq_false_iff.mpr fun q => ?_
    obtain rfl := Value.ref.inj (beq_iff_eq.mp q)
    unfold clsIn at hcD
    split at hcD
    · rename_i c' d' cd' sl' ho
      have z := (X _ _ ho).symm.trans htp
      cases z
    · cases hcD
  ca := fun X I k => sk_classE c X I k
end
end PySem
namespace Sk
open PySem PySem.Spec PyProof.Rows L2
/-! ### isinstance(e, ..) -/
/-- the exception at a, of the class D, with its dict (or without) -/
def ExAt (H : Hp) (a D : Addr) (d : Option Addr) : Prop := H a = some (exT a (.ref D) d) ∧ (d = none ∨ ∃ (dd : Addr) (fs : List (Str × V)), d = some dd ∧ H dd = some (.xd fs))
theorem ExAt.inst {P : Program} {w : World} {H : Hp} {h : Heap} {a D : Addr} {d : Option Addr} (hok : HOk P w H h) (z : ExAt H a D d) : ∃ ox od, PySem.W.InstAt h a ox D od := by
  obtain ⟨z1, z2⟩ := z
  obtain ⟨oe, vs, ha, hz, hd⟩ := exT_at hok z1
  have nc : PySem.W.notCls oe = true := by unfold PySem.W.notCls; rw [hd] <;> rfl
  rcases z2 with rfl | ⟨dd, fs, rfl, z2⟩
  · exact ⟨oe, none, ha, hz.1, nc, by rw [hz.2.1]; trivial⟩
  · have hx : ObjOk P w H h dd (.xd fs) := hok dd _ z2
    obtain ⟨mA, ⟨o, es, ep, ho, _⟩, _⟩ := hx
    exact ⟨oe, some o, ha, hz.1, nc, by rw [hz.2.1]; exact ho⟩
def rIsX (K : PySem.W.Frag) : List V → Hp → VK → Prop := fun xs H Q => ∃ (a D : Addr) (d : Option Addr) (c : V) (cv : Value) (b : Bool), xs = [.ref a, c] ∧ ExAt H a D d ∧ XfC' K D ∧ ClsV c cv ∧ PySem.W.kitOne K (.ref D) cv = some b ∧ Q (.bl b) H
def rIsXT (K : PySem.W.Frag) : List V → Hp → VK → Prop := fun xs H Q => ∃ (a D : Addr) (d : Option Addr) (tp : Addr) (cs : List V) (us : List Value) (b : Bool), xs = [.ref a, .ref tp] ∧ H tp = some (.tup cs) ∧ ExAt H a D d ∧ XfC' K D ∧ Paired ClsV cs us ∧ PySem.W.kitAny K (.ref D) us = some b ∧ Q (.bl b) H
section
variable {X : Cx}
theorem call_isX : CallR X (.builtin "isinstance") (rIsX X.K) := by
  intro pins s σ H xs us Q I r h
  obtain ⟨a, D, d, c, cv, b, rfl, z, T, k, e, q⟩ := h
  obtain ⟨u1, u2, rfl, r1, r2⟩ := vals2 r
  cases (show u1 = Value.ref a from r1)
  obtain rfl := k.eq r2
  obtain ⟨ox, od, J⟩ := z.inst I.hok
  exact PySem.W.kia_one (PySem.sk_kitE T) I.kIn J e (fun z => nomatch z) fun tk => ⟨.bl b, H, I.tok tk, rfl, q⟩
theorem call_isXT : CallR X (.builtin "isinstance") (rIsXT X.K) := by
  intro pins s σ H xs us Q I r h
  obtain ⟨a, D, d, tp, cs, ws, b, rfl, hT, z, T, k, e, q⟩ := h
  obtain ⟨u1, u2, rfl, r1, r2⟩ := vals2 r
  cases (show u1 = Value.ref a from r1)
  cases (show u2 = Value.ref tp from r2)
  obtain ⟨ox, od, J⟩ := z.inst I.hok
  obtain ⟨_, its, rv, o, h1, h2, n, h3⟩ := (show ObjOk X.prog X.w H s.heap tp (.tup cs) from I.hok tp _ hT)
  obtain rfl := ClsV.all k rv
  obtain ⟨oc, od2, dt, sl⟩ := o
  simp only at h2 h3
  subst h2 h3
  exact PySem.W.kia_tup (PySem.sk_kitE T) I.kIn J h1 e (fun z => nomatch z) fun tk => ⟨.bl b, H, I.tok tk, rfl, q⟩
end
theorem isXk {X : Cx} {K : PySem.W.Frag} (e : X.K = K) : CallR X (.builtin "isinstance") (rIsX K) := by subst e; exact call_isX
theorem isXTk {X : Cx} {K : PySem.W.Frag} (e : X.K = K) : CallR X (.builtin "isinstance") (rIsXT K) := by subst e; exact call_isXT
theorem peXv {X : Cx} {K : PySem.W.Frag} {e : Expr} {te : TE} {pos : Pos} {n : Str} (h : X.K = K) (he : PE X e te) (hb : attributeBase e n X.env (eval e X.env) = eval e X.env := by rfl) : PE X (.Attribute e n pos) (tXv K n te) := by
  subst h
  exact pe_xv he hb
theorem takes0 {X : Cx} : L2N.Takes X (fun _ _ _ _ => False) := fun u s' x => by
  obtain ⟨_, _, _, _, _, _, _, _, _, _, _, _, _, _, _, _, w⟩ := x
  exact w.elim
/-! ### own defs that may raise -/
structure FnX (P : Program) (w : World) (K : PySem.W.Frag) (mg : Str → Option Value) (base : Heap) (x : Str) (k : Nat) (ps : List Str) (sp : Sp) : Prop where
  ex : ∃ (f : Addr) (fd : FuncData), FnOk P w K mg base (L2N.CX P w) k f fd ps sp ∧ mg x = some (.ref f) ∧ PySem.W.keepIn K (.ref f) = true ∧ Binds K fd ps []
structure MetX (P : Program) (w : World) (K : PySem.W.Frag) (mg : Str → Option Value) (base : Heap) (k : Nat) (C : Addr) (m : Str) (sp : Sp) (dvs : List V) : Prop where
  ex : ∃ (f : Addr) (fd : FuncData) (ps : List Str) (ds : List Value), Cls K C ∧ Meth K C m f ∧ FnOk P w K mg base (L2N.CX P w) k f fd ps sp ∧ Binds K fd ps ds ∧ Vals dvs ds
structure MetKX (P : Program) (w : World) (K : PySem.W.Frag) (mg : Str → Option Value) (base : Heap) (k : Nat) (C : Addr) (m : Str) (sp : Sp) (ks : List Str) (gV : List V → List V → List V) : Prop where
  ex : ∃ (f : Addr) (fd : FuncData) (ps : List Str) (g : List Value → List Value → List Value), Cls K C ∧ Meth K C m f ∧ FnOk P w K mg base (L2N.CX P w) k f fd ps sp ∧ KBn K fd ps 1 ks g gV
def tMethX (C : Addr) (m : Str) (sp : Sp) (dvs : List V) (E : L2.St → XK) (ta : TE) (t : TA) : TE := fun σ H Q => ta σ H fun x H1 => ∃ a dx fs, x = .ref a ∧ H1 a = some (.ins C dx fs) ∧ fs.lookup m = none ∧
  t σ H1 fun vs H2 => sp (x :: (vs ++ dvs)) H2 Q (E σ)
def tMethKX (C : Addr) (m : Str) (n : Nat) (sp : Sp) (gV : List V → List V → List V) (E : L2.St → XK) (ta : TE) (tk : TA) : TE := fun σ H Q => ta σ H fun x H1 => ∃ a dx fs, x = .ref a ∧ H1 a = some (.ins C dx fs) ∧ fs.lookup m = none ∧
  tk σ H1 fun zs H2 => zs.length = n ∧ sp (gV [x] zs) H2 Q (E σ)
section
variable {X : Cx} {W : WX} {k j : Nat} {C : Addr} {x m : Str} {ps ks : List Str} {sp : Sp} {dvs : List V} {gV : List V → List V → List V} {e o : Expr} {es : List Expr} {ta : TE} {t tk : TA} {kws : List Keyword} {p pos apos : Pos}
theorem pe_fnX (F : FnX X.prog X.w X.K X.mg X.base x k ps sp) (hr : Room k X.A) (tk : L2N.Takes X W) (ha : PA X (e :: es) t) (hg : Gl X x := by rfl) (hdb : (x == ("__debug__" : Str)) = false := by decide)
    (he : starEach (e :: es) X.env = (false, eval e X.env) :: starEach es X.env := by rfl) (hpl : (backTo pos (starEach es X.env)).any (·.1) = false := by rfl) : PE X (.Call (.Name x p) (e :: es) [] pos) (tCallS sp (WE W) t) := by
  obtain ⟨f, fd, F1, hm, hk, hb⟩ := F.ex
  exact pe_callS F1 hr hg hm hk hb (fun σ => L2N.passAt tk σ) ha hdb he hpl
theorem pe_mtX {pl : Sem Bool} (c : MetX X.prog X.w X.K X.mg X.base k C m sp dvs) (hr : Room j X.A) (hj : k ≤ j) (tk : L2N.Takes X W) (he : PE X o ta) (ha : PA X (e :: es) t)
    (hst : starEach (e :: es) X.env = (false, eval e X.env) :: starEach es X.env := by rfl) (hpl : (backTo pos (starEach es X.env)).any (·.1) = false := by rfl)
    (ht : eval (.Call (.Attribute o m apos) (e :: es) [] pos) X.env = (do
      let ov ← eval o X.env
      standAt apos.atName
      let (f, first) ← holding [ov] (getMethod ov m pl)
      callWith pos f first (backTo pos (starEach (e :: es) X.env)) (backToKw pos (keywordEach [] X.env))) := by rfl) :
    PE X (.Call (.Attribute o m apos) (e :: es) [] pos) (tMethX C m sp dvs (WE W) ta t) := by
  obtain ⟨f, fd, ps, ds, hc, hm, F, hb, hd⟩ := c.ex
  refine ⟨fun pins s σ H Q I h => ?_⟩
  refine PySem.W.methodCall_KW (pl := pl) (thn (he.run pins s σ H _ I h) fun u s1 hh => ?_) ht
  obtain ⟨x, H1, I1, rx, a, dx, fs, rfl, ea, l, q⟩ := hh
  obtain rfl : u = Value.ref a := rx
  refine getmeth_ok I1 ea hc hm l ?_
  refine PySem.W.callWith_K (first := [.ref a]) (h₀ := X.base) I.ok.mod.kin hm.kp (thn (ha.run pos pins s1 σ H1 _ I1 q) fun us s2 ⟨vs, H2, I2, r, q2⟩ => ⟨I2.kIn, ?_⟩) hst hpl
  exact run_fnSD (E := WE W) (us := .ref a :: us) (vs := .ref a :: vs) F (hr.mono hj) hb hd (L2N.passAt tk σ) I2 (.cons rfl r) q2
theorem pe_mtX0 {pl : Sem Bool} (c : MetX X.prog X.w X.K X.mg X.base k C m sp dvs) (hr : Room j X.A) (hj : k ≤ j) (tk : L2N.Takes X W) (he : PE X o ta)
    (ht : eval (.Call (.Attribute o m apos) [] [] pos) X.env = (do
      let ov ← eval o X.env
      standAt apos.atName
      let (f, first) ← holding [ov] (getMethod ov m pl)
      callWith pos f first (backTo pos (starEach [] X.env)) (backToKw pos (keywordEach [] X.env))) := by rfl) :
    PE X (.Call (.Attribute o m apos) [] [] pos) (tMethX C m sp dvs (WE W) ta tNil) := by
  obtain ⟨f, fd, ps, ds, hc, hm, F, hb, hd⟩ := c.ex
  refine ⟨fun pins s σ H Q I h => ?_⟩
  refine PySem.W.methodCall_KW (pl := pl) (thn (he.run pins s σ H _ I h) fun u s1 hh => ?_) ht
  obtain ⟨x, H1, I1, rx, a, dx, fs, rfl, ea, l, q⟩ := hh
  obtain rfl : u = Value.ref a := rx
  refine getmeth_ok I1 ea hc hm l ?_
  exact PySem.W.callWith_K0 (first := [.ref a]) I1.kIn hm.kp (run_fnSD (E := WE W) (us := [.ref a]) (vs := [.ref a]) F (hr.mono hj) hb hd (L2N.passAt tk σ) I1 (.cons rfl .nil) q)
theorem run_fnNX {f : Addr} {fd : FuncData} {n : Nat} {g : List Value → List Value → List Value} {pins : List (Addr × Obj)} {σ : L2.St} {H : Hp} {s : Shared} {Q : VK} {us ws : List Value} {vs zs : List V} (F : FnOk X.prog X.w X.K X.mg X.base (L2N.CX X.prog X.w) k f fd ps sp) (hr : Room k X.A) (hb : KBn X.K fd ps n ks g gV) (tk : L2N.Takes X W)
    (I : Inv X pins σ H s) (r : Vals vs us) (rz : Vals zs ws) (l1 : vs.length = n) (l2 : zs.length = ks.length) (h : sp (gV vs zs) H Q (WE W σ)) : wpAny (model X.prog X.w) X.A (call (.ref f) us (ks.zip ws)) (EP X pins σ Q) X.xe s := by
  have b1 := hb.to s us ws I.kIn (r.length.symm.trans l1) (rz.length.symm.trans l2)
  refine wpAny_call (codeAny_mono (F.run X.A X.stack s H ⟨us, ks.zip ws⟩ (g us ws) (gV vs zs) Q (WE W σ) hr I.env0 b1 (hb.rel r rz) h) fun y s' hq => ?_)
  cases y with
  | error e => exact L2N.passAt tk σ pins H s e s' I hq
  | ok fl =>
    cases fl with
    | ret u => exact I.after hq
    | next => exact hq.elim
    | brk => exact hq.elim
    | cont => exact hq.elim
theorem pe_mtKX {pl : Sem Bool} (c : MetKX X.prog X.w X.K X.mg X.base k C m sp ks gV) (hr : Room j X.A) (hj : k ≤ j) (tk' : L2N.Takes X W) (he : PE X o ta) (hkw : PK X kws tk)
    (hall : (backToKw pos (keywordEach kws X.env)).all (·.1.isSome) = true := by rfl) (hks : (backToKw pos (keywordEach kws X.env)).filterMap (·.1) = ks := by rfl)
    (hpl : ((backTo pos (starEach [] X.env)).any (·.1) || (backToKw pos (keywordEach kws X.env)).any (·.1.isNone)) = false := by rfl)
    (ht : eval (.Call (.Attribute o m apos) [] kws pos) X.env = (do
      let ov ← eval o X.env
      standAt apos.atName
      let (f, first) ← holding [ov] (getMethod ov m pl)
      callWith pos f first (backTo pos (starEach [] X.env)) (backToKw pos (keywordEach kws X.env))) := by rfl) :
    PE X (.Call (.Attribute o m apos) [] kws pos) (tMethKX C m ks.length sp gV (WE W) ta tk) := by
  obtain ⟨f, fd, ps, g, hc, hm, F, hb⟩ := c.ex
  refine ⟨fun pins s σ H Q I h => ?_⟩
  refine PySem.W.methodCall_KW (pl := pl) (thn (he.run pins s σ H _ I h) fun u s1 hh => ?_) ht
  obtain ⟨x, H1, I1, rx, a, dx, fs, rfl, ea, l, q⟩ := hh
  obtain rfl : u = Value.ref a := rx
  refine getmeth_ok I1 ea hc hm l ?_
  refine PySem.W.callWith_KW0 (first := [.ref a]) (h₀ := X.base) I.ok.mod.kin hm.kp hall ?_ hpl
  refine thn (hkw.run pos pins s1 σ H1 _ I1 q) fun ws s2 ⟨zs, H2, I2, rz, l2, q2⟩ => ⟨I2.kIn, ?_⟩
  rw [hks]
  exact run_fnNX (us := [.ref a]) (vs := [.ref a]) F (hr.mono hj) hb tk' I2 (.cons rfl .nil) rz rfl l2 q2
end
end Sk
namespace Sk
open PySem PySem.Spec PyProof.Rows L2
/-! ### try, its readings under names (a loop's body is unified by its head) -/
def tTryO (K : PySem.W.Frag) (c : Value) (ts : Addr → Value → Option Addr → TS) (Wout : WX) (tb : WX → TS) : TS := fun D σ H => tb (wOnly K c ts Wout D) D σ H
def tTryA (K : PySem.W.Frag) (c : Value) (i : Nat) (ts : Addr → Value → Option Addr → TS) (Wout : WX) (tb : WX → TS) : TS := fun D σ H => tb (wAs K c i ts Wout D) D σ H
def tTryT (K : PySem.W.Frag) (c : Value) (i : Nat) (ts : Addr → TS) (Wout : WX) (tb : WX → TS) : TS := fun D σ H => tb (wAsT K c i ts Wout D) D σ H
section
variable {X : Cx} {x n : Str} {c : Value} {i : Nat} {body suite : List Stmt} {b₀ : Stmt} {np pos pos' : Pos} {tb : WX → TS} {Wout : WX}
theorem psTryO {ts : Addr → Value → Option Addr → TS} (hs : X.stack = X.env :: X.outer) (hf : X.env.frame = some X.env.locals) (hc : Names X x c) (tk : L2N.Takes X Wout)
    (hb : ∀ (W : WX) (pn : List (Addr × Obj)) (xe : Value → Shared → Prop), L2N.Takes (X.tr pn xe) W → PassesOwn (model X.prog X.w) X.A X.env xe → PSs (X.tr pn xe) body (tb W))
    (hsu : ∀ (a : Addr) (oe : Obj) (cls : Value) (d : Option Addr) (pn : List (Addr × Obj)), L2N.Zn cls d oe → (∃ vs, oe.data = .fields vs) → PSs (X.suite a ((a, oe) :: pn)) (b₀ :: suite) (ts a cls d)) :
    PS X (.Try body [.ExceptHandler (some (.Name x np)) none (b₀ :: suite) pos'] [] [] pos) (tTryO X.K c ts Wout tb) := by
  have hh : L2N.HdsOk X [.ExceptHandler (some (.Name x np)) none (b₀ :: suite) pos'] [(c, ts)] := .cons hc hsu .nil
  exact L2N.ps_try_many (l := [(c, ts)]) (pos := pos) hs hf tk hb hh
theorem psTryA {ts : Addr → Value → Option Addr → TS} (hs : X.stack = X.env :: X.outer) (hf : X.env.frame = some X.env.locals) (hN : X.N.Nodup) (hi : X.N[i]? = some n) (hln : X.env.kindOf n = some .local) (hc : Names X x c) (tk : L2N.Takes X Wout)
    (hb : ∀ (W : WX) (pn : List (Addr × Obj)) (xe : Value → Shared → Prop), L2N.Takes (X.tr pn xe) W → PassesOwn (model X.prog X.w) X.A X.env xe → PSs (X.tr pn xe) body (tb W))
    (hsu : ∀ (a : Addr) (oe : Obj) (cls : Value) (d : Option Addr) (pn : List (Addr × Obj)), L2N.Zn cls d oe → (∃ vs, oe.data = .fields vs) → PSs (X.suite a ((a, oe) :: pn)) (b₀ :: suite) (ts a cls d)) :
    PS X (.Try body [.ExceptHandler (some (.Name x np)) (some n) (b₀ :: suite) pos'] [] [] pos) (tTryA X.K c i ts Wout tb) := L2N.ps_try_as hs hf hN hi hln hc tk hb hsu
theorem psTryT {ts : Addr → TS} (hs : X.stack = X.env :: X.outer) (hf : X.env.frame = some X.env.locals) (hN : X.N.Nodup) (hi : X.N[i]? = some n) (hln : X.env.kindOf n = some .local) (hc : Names X x c) (tk : L2N.Takes X Wout)
    (hb : ∀ (W : WX) (pn : List (Addr × Obj)) (xe : Value → Shared → Prop), L2N.Takes (X.tr pn xe) W → PassesOwn (model X.prog X.w) X.A X.env xe → PSs (X.tr pn xe) body (tb W))
    (hsu : ∀ (a : Addr) (pn : List (Addr × Obj)), PSs (suiteT X a pn) (b₀ :: suite) (ts a)) :
    PS X (.Try body [.ExceptHandler (some (.Name x np)) (some n) (b₀ :: suite) pos'] [] [] pos) (tTryT X.K c i ts Wout tb) := ps_try_asT hs hf hN hi hln hc tk hb hsu
end
end Sk
/-! own defs called within an except suite, the exception told of by the heap -/
namespace PySem
open PySem.W PySem.Spec PySem.Calls PyProof.Rows HotX
section
variable {prog : Program} {w : World} {A : Around} {E : Value → Shared → Prop} {s : Shared} {x1 : Addr}
theorem sk_updKeep {h : Heap} {it b : Addr} {f : Obj → Obj} {o : Obj} (n : b ≠ it) (e : h.get? b = some o) : (h.update it f).get? b = some o := ((Heap.SameBut.update (a := it) (h := h) (f := f) ..).2 b n).trans e
/-- StopIteration is raised and swallowed -/
theorem sk_list_end {it l : Addr} {i : Nat} {items} {Q : Option Value → Shared → Prop} (hot : HotAt A x1 s.heap) (hx1 : x1 ≠ it)
    (hit : s.heap.IsListIter it l i) (hl : s.heap.IsList l items) (hx : items[i]? = none)
    (hQ : ∀ h', Heap.ExtBut it s.heap h' → Q none { s with heap := h' }) : wpAny (model prog w) A (pyNext (.ref it)) Q E s := by
  obtain ⟨o, ho, hc, hd⟩ := id hit
  obtain ⟨ol, hol, _, nl, hdl⟩ := hl
  obtain ⟨hh, o1, vs1, h1, d1, c1⟩ := hot
  unfold pyNext
  refine wpAny_bind (wpAny_attempt (wpAny_callSpecial?_slot (name := Str.ofString "__next__") hit.typeIs slot_listiter_next
    (wpAny_call_entry slot_listiter_next hit.typeIs entry_listiter_next ?_ (args_listiter_next _))))
  show wpAny _ _ (field (.ref it) 0 >>= _) _ _ s
  refine wpAny_bind (wpAny_field ho hd (x := .ref l) rfl ?_)
  show wpAny _ _ (if (Value.ref l == Value.none) = true then _ else _) _ _ s
  rw [if_neg (show ¬ ((Value.ref l == Value.none) = true) from Bool.false_ne_true)]
  show wpAny _ _ (field (.ref it) 1 >>= _) _ _ s
  refine wpAny_bind (wpAny_field ho hd (x := .int i 0) rfl ?_)
  show wpAny _ _ (seqItems? (.ref l) >>= _) _ _ s
  refine wpAny_bind (wpAny_seqItems hol hdl ?_)
  simp only [Int.toNat_natCast, hx]
  refine wpAny_bind (wpAny_rule (wpAny_bind (wpAny_setField ho hd (by simp) ?_)))
  show wpAny _ _ (newExc (.type "StopIteration") [] >>= _) _ _ _
  refine wpAny_bind ?_
  simp only [newExc, newTuple]
  refine wpAny_bind (wpAny_newObj_type ?_ (by size_fits))
  refine wpAny_bind (m := firstArgMember _ _) (wpAny_of_eq (a := Value.none) (by first | rfl | (simp only [firstArgMember]; rfl)) ?_)
  refine wpAny_newObj_type ?_ (by size_fits)
  refine raiseNew_hot ⟨hh, o1, vs1, Heap.get?_push_of_some _ (Heap.get?_push_of_some _ (sk_updKeep hx1 h1)), d1, c1⟩ (Nat.ne_of_lt (Heap.lt_size (Heap.get?_push_of_some _ (sk_updKeep hx1 h1)))) (Heap.get?_push_size _ rfl) rfl (by first | (simp; done) | (simp; omega) | (simp only [Array.size_append]; simp; omega)) ?_
  refine wpAny_bind (wpAny_isInstance (T := "StopIteration") (b := true) ⟨_, Heap.get?_update_self _ (Heap.get?_push_size _ rfl) rfl, rfl⟩ isSubtype_stop ?_)
  refine wpAny_pure (hQ _ fun b o hb e => ?_)
  rw [Heap.get?_update_other _ _ (Nat.ne_of_gt (Heap.lt_size (Heap.get?_push_of_some _ (sk_updKeep hb e))))]
  exact Heap.get?_push_of_some _ (Heap.get?_push_of_some _ (sk_updKeep hb e))
theorem sk_tuple_end {it t : Addr} {i : Nat} {items} {Q : Option Value → Shared → Prop} (hot : HotAt A x1 s.heap) (hx1 : x1 ≠ it)
    (hit : IsTupIter s.heap it t i) (ht : IsTup s.heap t items) (hx : items[i]? = none)
    (hQ : ∀ h', Heap.ExtBut it s.heap h' → Q none { s with heap := h' }) : wpAny (model prog w) A (pyNext (.ref it)) Q E s := by
  obtain ⟨o, ho, hc, hd⟩ := id hit
  obtain ⟨ol, hol, _, nl, hdl⟩ := ht
  obtain ⟨hh, o1, vs1, h1, d1, c1⟩ := hot
  have hT : s.TypeIs (.ref it) "tuple_iterator" := ⟨o, ho, hc⟩
  unfold pyNext
  refine wpAny_bind (wpAny_attempt (wpAny_callSpecial?_slot (name := Str.ofString "__next__") hT F.slot_tuple_iterator_next
    (wpAny_call_entry F.slot_tuple_iterator_next hT F.entry_tuple_iterator_next ?_ (F.args_tuple_iterator_next_1 _))))
  show wpAny _ _ (field (.ref it) 0 >>= _) _ _ s
  refine wpAny_bind (wpAny_field ho hd (x := .ref t) rfl ?_)
  show wpAny _ _ (if (Value.ref t == Value.none) = true then _ else _) _ _ s
  rw [if_neg (show ¬ ((Value.ref t == Value.none) = true) from Bool.false_ne_true)]
  show wpAny _ _ (field (.ref it) 1 >>= _) _ _ s
  refine wpAny_bind (wpAny_field ho hd (x := .int i 0) rfl ?_)
  show wpAny _ _ (seqItems? (.ref t) >>= _) _ _ s
  refine wpAny_bind (wpAny_seqItems hol hdl ?_)
  simp only [Int.toNat_natCast, hx]
  refine wpAny_bind (wpAny_rule (wpAny_bind (wpAny_setField ho hd (by simp) ?_)))
  show wpAny _ _ (newExc (.type "StopIteration") [] >>= _) _ _ _
  refine wpAny_bind ?_
  simp only [newExc, newTuple]
  refine wpAny_bind (wpAny_newObj_type ?_ (by size_fits))
  refine wpAny_bind (m := firstArgMember _ _) (wpAny_of_eq (a := Value.none) (by first | rfl | (simp only [firstArgMember]; rfl)) ?_)
  refine wpAny_newObj_type ?_ (by size_fits)
  refine raiseNew_hot ⟨hh, o1, vs1, Heap.get?_push_of_some _ (Heap.get?_push_of_some _ (sk_updKeep hx1 h1)), d1, c1⟩ (Nat.ne_of_lt (Heap.lt_size (Heap.get?_push_of_some _ (sk_updKeep hx1 h1)))) (Heap.get?_push_size _ rfl) rfl (by first | (simp; done) | (simp; omega) | (simp only [Array.size_append]; simp; omega)) ?_
  refine wpAny_bind (wpAny_isInstance (T := "StopIteration") (b := true) ⟨_, Heap.get?_update_self _ (Heap.get?_push_size _ rfl) rfl, rfl⟩ isSubtype_stop ?_)
  refine wpAny_pure (hQ _ fun b o hb e => ?_)
  rw [Heap.get?_update_other _ _ (Nat.ne_of_gt (Heap.lt_size (Heap.get?_push_of_some _ (sk_updKeep hb e))))]
  exact Heap.get?_push_of_some _ (Heap.get?_push_of_some _ (sk_updKeep hb e))
theorem sk_unpackItems {t : Addr} {items : Array Value} {Q : List Value → Shared → Prop} (hot : HotAt A x1 s.heap) (ht : IsTup s.heap t items)
    (hQ : ∀ h', Heap.ExtBut s.heap.objs.size s.heap h' → Q items.toList { s with heap := h' }) : wpAny (model prog w) A (unpackItems (.ref t) items.size none) Q E s := by
  have hlt : t ≠ s.heap.objs.size := by obtain ⟨o, ho, _⟩ := ht; exact Nat.ne_of_lt (Heap.lt_size ho)
  obtain ⟨hh, o1, vs1, h1, d1, c1⟩ := hot
  have hx : x1 ≠ s.heap.objs.size := Nat.ne_of_lt (Heap.lt_size h1)
  unfold unpackItems
  refine wpAny_bind ?_
  · unfold notIterableAtAll
    refine wpAny_bind (wpAny_specialOf ht.typeIs slot_tuple_iter.lookup ?_)
    refine wpAny_pure ?_
    simp only [Bool.false_eq_true, if_false]
    refine wpAny_bind (wpAny_holding (iter_tuple ht ?_))
    refine wpAny_bind (wpAny_holding (draw_tuple hlt items.size 0 _ _ ⟨_, Heap.get?_push_size _ rfl, rfl, rfl⟩ (ht.push _) (by omega) fun h₁ hit₁ hs₁ => ?_))
    have hall : List.take items.size (List.drop 0 items.toList) = items.toList := by
      rw [List.drop_zero]; exact List.take_of_length_le (by simp)
    rw [hall]
    rw [if_neg (by simp)]
    have ht₁ : IsTup h₁ t items := (ht.push _).extBut hs₁.extBut hlt
    have h1' : h₁.get? x1 = some o1 := hs₁.extBut x1 o1 hx (Heap.get?_push_of_some _ h1)
    refine wpAny_bind (wpAny_holding (sk_tuple_end ⟨hh, o1, vs1, h1', d1, c1⟩ hx hit₁ ht₁ (by simp) fun h₂ he₂ => ?_))
    simp only [Option.isSome_none, Bool.false_eq_true, if_false]
    refine wpAny_pure (hQ h₂ fun b o hb e => he₂ b o hb (hs₁.extBut b o hb (Heap.get?_push_of_some _ e)))
theorem sk_unpack {t : Addr} {items : Array Value} {targets : List (Bool × (Value → Sem Unit))} {Q : Unit → Shared → Prop} (hot : HotAt A x1 s.heap) (ht : IsTup s.heap t items)
    (hn : targets.length = items.size) (hstar : targets.findIdx? (·.1) = none)
    (h : ∀ h', Heap.ExtBut s.heap.objs.size s.heap h' → wpAny (model prog w) A (assignInOrder (targets.map (·.2)) items.toList) Q E { s with heap := h' }) :
    wpAny (model prog w) A (unpack (.ref t) targets) Q E s := by
  unfold unpack
  rw [hn, hstar]
  exact wpAny_bind (wpAny_holding (sk_unpackItems hot ht h))
theorem sk_assign_Tuple {env : Env} {elts : List Expr} {k} {pos : Pos} {t : Addr} {items : Array Value} {Q : Unit → Shared → Prop} (hot : HotAt A x1 s.heap) (ht : IsTup s.heap t items)
    (hn : (assignEach elts env).length = items.size) (hstar : (assignEach elts env).findIdx? (·.1) = none)
    (h : ∀ h', Heap.ExtBut s.heap.objs.size s.heap h' → wpAny (model prog w) A (assignInOrder ((assignEach elts env).map (·.2)) items.toList) Q E { s with heap := h' }) :
    wpAny (model prog w) A (assign (.Tuple elts k pos) env (.ref t)) Q E s := by
  rw [assign_Tuple]
  exact wpAny_bind (wpAny_standAt (sk_unpack hot ht hn hstar h))
end
end PySem
namespace Sk
open PySem PySem.Spec PyProof.Rows L2 L2H
/-! ### the exception a is handled, the heap tells of it -/
def Held1 (a : Addr) (H : Hp) : Prop := ∃ cls d, H a = some (exT a cls d)
theorem Held1.gr {T : List (Addr × Str)} {H H' : Hp} {a : Addr} (h : Held1 a H) (g : Gr T H H') : Held1 a H' := by
  obtain ⟨cls, d, e⟩ := h
  exact ⟨cls, d, g.ext a _ e exT_ntb⟩
theorem held_at {X : Cx} {pins : List (Addr × Obj)} {σ : L2.St} {H : Hp} {s : Shared} {a : Addr} (hh : X.A.handled = some (.ref a)) (I : Inv X pins σ H s) (z : Held1 a H) : HotX.HotAt X.A a s.heap := by
  obtain ⟨cls, d, z⟩ := z
  obtain ⟨oe, vs, ha, hz, hd⟩ := exT_at I.hok z
  exact ⟨hh, oe, vs, ha, hd, hz.2.2 vs hd⟩
/-! ### what a def promises there -/
structure FnT (P : Program) (w : World) (K : PySem.W.Frag) (mg : Str → Option Value) (base : Heap) (CX : CXT) (k : Nat) (f : Addr) (fd : FuncData) (ps : List Str) (sp : Addr → Sp) : Prop where
  len : ∀ a vs H Q E, sp a vs H Q E → vs.length = ps.length
  run : ∀ (A : Around) (outer : List Env) (s : Shared) (H : Hp) (args : Args) (us : List Value) (vs : List V) (Q : VK) (E : XK) (a : Addr), RoomH k A → A.handled = some (.ref a) → Env0 P w K mg base A outer s H → BindsTo s fd args (ps.zip us) → Vals vs us → sp a vs H Q E →
    codeAny (model P w) A (.call (.ref f) args) (CR CX outer P w H s Q E) s
/-- the context of such a def's body -/
def cxT (CX : CXT) (P : Program) (w : World) (K : PySem.W.Frag) (mg : Str → Option Value) (base : Heap) (N : List Str) (qual : Str) (scope : Scope) (f : Addr) (cd : Value) (A : Around) (outer : List Env) (s : Shared) (H : Hp) (E : XK) : Cx :=
  { cxOf CX P w K mg base N qual scope f cd A outer s H E with calm := false }
theorem inv_startT {CX : CXT} {P : Program} {w : World} {K : PySem.W.Frag} {mg : Str → Option Value} {base : Heap} {N ps : List Str} {qual : Str} {scope : Scope} {f : Addr} {cd : Value} {A : Around} {outer : List Env} {s s1 : Shared} {H : Hp} {E : XK} {us : List Value} {vs : List V}
    (S : FnScope N ps scope) (e0 : Env0 P w K mg base A outer s H) (hl : vs.length = ps.length) (r : Vals vs us)
    (x : InCallC s s.heap.objs.size (bindL (envOfC qual scope s.heap.objs.size f cd).kindOf (ps.zip us) fun _ => none) (cellsFrom (s.heap.objs.size + 1) scope.names []) (bindC (envOfC qual scope s.heap.objs.size f cd).kindOf (ps.zip us) fun _ => none) s1) :
    Inv (cxT CX P w K mg base N qual scope f cd A outer s H E) [] (L2.start N vs) H s1 := by
  have hpl : ps.length ≤ N.length := by have := congrArg List.length S.pre; rw [List.length_take] at this; omega
  obtain ⟨h1, tk, rfl, hk⟩ := x.done
  have noA : ∀ b : Addr, b ∉ (cxT CX P w K mg base N qual scope f cd A outer s H E).ex := fun b z => absurd (show b ∈ ([] : List Addr) from z) (by simp)
  refine ⟨⟨e0.mod, S.kind, rfl, rfl, Nat.le_refl _, fun y z c h1 h2 => ?_, fun y hy => ?_, fun y c _ h => ?_, (fun z => Bool.noConfusion (show false = true from z)), Around.frames_deeper e0.frames, .inr ⟨rfl, rfl⟩, fun b z => absurd z (noA b), e0.bs, e0.bsz, fun b _ _ => noA b, fun b z => absurd z (noA b), e0.funs, e0.frf⟩,
    rfl, e0.bare, Un.kept hk, ⟨_, x.toInCall.ns, fun i y v h1 h2 h3 => ?_⟩, fun y c h => ⟨_, x.cell y c h⟩, e0.hok.fresh (Nat.le_refl _), fun y c h => ?_, fun q hq => absurd (show q ∈ ([] : List (Addr × Obj)) ++ [] from hq) (by simp), e0.hok.kept hk, ?_⟩
  · exact name_of_addr x.apart (PySem.mem_of_lookup h1) (PySem.mem_of_lookup h2)
  · have hy : scope.names.lookup y = some .cell ∨ scope.names.lookup y = some .free := hy
    rcases hy with hy | hy
    · exact cell_has hy
    · exact absurd rfl (S.nofree _ (PySem.mem_of_lookup hy))
  · exact Nat.le_of_lt (x.above y c (PySem.mem_of_lookup h))
  · have hi : i < vs.length := by
      unfold L2.start at h2
      by_cases hi : i < vs.length
      · exact hi
      · rw [List.getElem?_append_right (by simpa using hi)] at h2
        rw [List.getElem?_replicate] at h2
        split at h2 <;> cases h2
    have ha : vs[i]? = some v := by
      unfold L2.start at h2
      rw [List.getElem?_append_left (by simpa using hi), List.getElem?_map] at h2
      cases e : vs[i]? with
      | none => rw [e] at h2; cases h2
      | some a => rw [e] at h2; cases h2; rfl
    obtain ⟨u, hu, rv⟩ := r.get ha
    have hp : ps[i]? = some y := by
      rw [← S.pre, List.getElem?_take_of_lt (by omega)]; exact h1
    have ndP : ps.Nodup := by rw [← S.pre]; exact S.nd.sublist (List.take_sublist _ _)
    refine ⟨u, rv, ?_⟩
    rcases S.par y (List.mem_of_getElem? hp) with k | k
    · exact .inl ⟨k, bindL_get ndP hp hu k⟩
    · obtain ⟨c, e⟩ := cell_has (n := s.heap.objs.size + 1) k
      refine .inr ⟨.inl k, c, e, ?_⟩
      have q := x.cell y c e
      rw [bindC_get ndP hp hu (by show scope.names.lookup y ≠ _; rw [k]; decide)] at q
      exact q
  · exact e0.hok.fresh (Nat.le_of_lt (x.above y c (PySem.mem_of_lookup h)))
  · unfold L2.start
    show _ = N.length
    rw [List.length_append, List.length_map, List.length_replicate]
    omega
theorem fn_ofT {CX : CXT} {P : Program} {w : World} {K : PySem.W.Frag} {mg : Str → Option Value} {base : Heap} {k : Nat} {f : Addr} {name qual : Str} {params : Arguments} {body : List Stmt} {scope : Scope} {dV kV doc pm cdv ct oc : Value} {an od : Option Addr}
    {osl : Array (Option Value)} {N ps : List Str} {sp : Addr → Sp} (lk : K.lookup f = some ⟨oc, od, .func (PySem.W.fnOf name qual params body scope dV kV doc pm an cdv ct), osl⟩) (hcd : PySem.W.codeIn K cdv qual = true) (S : FnScope N ps scope)
    (len : ∀ a vs H Q E, sp a vs H Q E → vs.length = ps.length)
    (hbody : ∀ (A : Around) (outer : List Env) (s : Shared) (H : Hp) (vs : List V) (Q : VK) (E : XK) (a : Addr), A.handled = some (.ref a) → RoomH k (A.deeper (envOfC qual scope s.heap.objs.size f cdv)) → sp a vs H Q E →
      ∃ t, PSs (cxT CX P w K mg base N qual scope f cdv A outer s H E) body t ∧ t { nx := fun _ H' => Q .non H', rt := Q } (L2.start N vs) H) :
    FnT P w K mg base CX (k + 1) f (PySem.W.fnOf name qual params body scope dV kV doc pm an cdv ct) ps sp := by
  refine ⟨len, fun A outer s H args us vs Q E a hr hot e0 hb r hsp => ?_⟩
  have hl := len _ _ _ _ _ hsp
  have KX : K.In s.heap := e0.mod.kin.keeps fun b o e => (e0.bs b o e).1
  have lim : s.heap.NoLimit := e0.mod.nolimit.keeps fun b o e => (e0.bs b o e).1
  have hkind : ∀ y ∈ ps.zip us, scope.names.lookup y.1 = some .local ∨ (scope.names.lookup y.1 = some .cell ∧ ((cellsFrom (s.heap.objs.size + 1) scope.names []).lookup y.1).isSome = true) := fun ⟨n, v⟩ hy => by
    rcases S.par n (List.of_mem_zip hy).1 with q | q
    · exact .inl q
    · exact .inr ⟨q, PySem.W.cellsFrom_some _ _ _ (.inl q)⟩
  refine codeAny_call_function hr.depth (KX _ _ lk) rfl S.co S.gen rfl (PySem.W.codeRec_of KX hcd) (hb _ _ _ _ ?_)
  refine wpAny_newFunctionEnv_cells S.kind hkind fun env he s1 x => ?_
  subst he
  refine ⟨lim.keeps x.toInCall.keep, codeAny_func ?_⟩
  obtain ⟨t, ht, hq⟩ := hbody A outer s H vs Q E a hot (hr.deeper _) hsp
  have I : Inv (cxT CX P w K mg base N qual scope f cdv A outer s H E) [] (L2.start N vs) H s1 := inv_startT S e0 hl r x
  refine wpAny_mono (ht.run [] s1 (L2.start N vs) H _ I hq) (fun fl s' hs => ?_) fun e s' hs => hs
  have fin : ∀ {σ' : L2.St} {H' : Hp} {v : V} {u : Value}, Inv (cxT CX P w K mg base N qual scope f cdv A outer s H E) [] σ' H' s' → RelV v u → Q v H' → CE outer P w H s Q u s' :=
    fun {σ' H' v u} J rv q => ⟨v, H', J.os, J.bare, J.base, J.hok, rv, q⟩
  cases fl with
  | ret u =>
    obtain ⟨v, σ', H', J, rv, q⟩ := hs
    exact fin J rv q
  | next =>
    obtain ⟨σ', H', J, q⟩ := hs
    exact fin (v := V.non) (u := Value.none) J rfl q
  | brk =>
    obtain ⟨_, _, _, q⟩ := hs
    exact False.elim q
  | cont =>
    obtain ⟨_, _, _, q⟩ := hs
    exact False.elim q
/-- by name -/
structure FnTx (P : Program) (w : World) (K : PySem.W.Frag) (mg : Str → Option Value) (base : Heap) (x : Str) (k : Nat) (ps : List Str) (sp : Addr → Sp) : Prop where
  ex : ∃ (f : Addr) (fd : FuncData), FnT P w K mg base CX0 k f fd ps sp ∧ mg x = some (.ref f) ∧ PySem.W.keepIn K (.ref f) = true ∧ Binds K fd ps []
section
variable {X : Cx} {CX : CXT} {k : Nat} {f a : Addr} {fd : FuncData} {ps : List Str} {sp : Addr → Sp} {x : Str} {q pos : Pos} {e : Expr} {es : List Expr} {t : TA}
theorem run_fnT {E : L2.St → XK} {pins : List (Addr × Obj)} {σ : L2.St} {H : Hp} {s : Shared} {Q : VK} {us : List Value} {vs : List V} (F : FnT X.prog X.w X.K X.mg X.base CX k f fd ps sp) (hr : RoomH k X.A) (hh : X.A.handled = some (.ref a)) (hb : Binds X.K fd ps []) (hx : PassesAt CX X σ (E σ))
    (I : Inv X pins σ H s) (r : Vals vs us) (h : sp a vs H Q (E σ)) : wpAny (model X.prog X.w) X.A (call (.ref f) us) (EP X pins σ Q) X.xe s := by
  have hl : us.length = ps.length := by rw [← r.length]; exact F.len _ _ _ _ _ h
  have b := hb s us I.kIn (by rw [List.append_nil]; exact hl)
  rw [List.append_nil] at b
  refine wpAny_call (codeAny_mono (F.run X.A X.stack s H ⟨us, []⟩ us vs Q (E σ) a hr hh I.env0 b r h) fun r s' hq => ?_)
  cases r with
  | error e => exact hx pins H s e s' I hq
  | ok fl =>
    cases fl with
    | ret u => exact I.after hq
    | next => exact False.elim hq
    | brk => exact False.elim hq
    | cont => exact False.elim hq
theorem pe_fnT (F : FnTx X.prog X.w X.K X.mg X.base x k ps sp) (hr : RoomH k X.A) (hh : X.A.handled = some (.ref a)) (ha : PA X (e :: es) t) (hg : Gl X x := by rfl) (hdb : (x == ("__debug__" : Str)) = false := by decide)
    (he : starEach (e :: es) X.env = (false, eval e X.env) :: starEach es X.env := by rfl) (hpl : (backTo pos (starEach es X.env)).any (·.1) = false := by rfl) : PE X (.Call (.Name x q) (e :: es) [] pos) (tCallS (sp a) (fun _ => E0) t) := by
  obtain ⟨f, fd, F1, hm, hk, hb⟩ := F.ex
  refine ⟨fun pins s σ H Q I h => ?_⟩
  refine wpAny_Call_Name_kw (ld_glob I hg hm ?_ hdb)
  refine PySem.W.callWith_K (h₀ := X.base) I.ok.mod.kin hk (thn (ha.run pos pins s σ H _ I h) fun us s1 ⟨vs, H1, I1, r, q⟩ => ⟨I1.kIn, ?_⟩) he hpl
  exact run_fnT (E := fun _ => E0) F1 hr hh hb (fun pins H s e s' I c => pass0 pins σ H s e s' I c) I1 r q
end
/-! ### targets -/
def gTupT (K : PySem.W.Frag) (n : Nat) (a : Addr) (t : TGs) : TG := fun v σ H Q => Held1 a H ∧ gTup K n t v σ H Q
theorem pg_tupT {X : Cx} {a : Addr} {es : List Expr} {k : Nat} {pos : Pos} {t : TGs} {n : Nat} (hh : X.A.handled = some (.ref a)) (h : PGs X es t)
    (hn : (assignEach es X.env).length = n := by rfl) (hst : (assignEach es X.env).findIdx? (·.1) = none := by rfl) : PG X (.Tuple es k pos) (gTupT X.K n a t) := by
  refine ⟨fun pins s σ H v u Q I r hw => ?_⟩
  obtain ⟨hd, p, xs, e1, hq, hl, hw⟩ := hw
  subst e1
  cases r
  obtain ⟨its, rv, ht, hz⟩ := I.tuple hq
  refine PySem.sk_assign_Tuple (held_at hh I hd) ht (by simp [hn, ← hl, rv.length]) hst fun h' hx => ?_
  have I1 : Inv X pins σ H { s with heap := h' } := I.kept (t' := s.toks) fun b o e => hx b o (Nat.ne_of_lt (Heap.lt_size e)) e
  exact h.run pins _ σ H xs _ Q I1 (by simpa using rv) hw
/-! ### iteration over a list -/
structure TurnT (P : Program) (w : World) (K : PySem.W.Frag) (tg : Expr) (J : It) (fp : List Addr) (it : Addr) (tn : Nat → Heap → Prop) (a : Addr) : Prop where
  mem : it ∈ fp
  obj : ∀ i h, tn i h → ∀ b ∈ fp, ∃ o, h.get? b = some o ∧ ∀ v, o.data ≠ .cell v
  keep : ∀ i h h', tn i h → (∀ b ∈ fp, ∀ o, h.get? b = some o → h'.get? b = some o) → tn i h'
  item : ∀ (X : Cx), X.prog = P → X.w = w → X.K = K → ∀ (i : Nat) (pins : List (Addr × Obj)) (s : Shared) (σ : L2.St) (H : Hp) (E : Value → Shared → Prop), Inv X pins σ H s → (∀ b ∈ fp, FpOk X pins H b) → tn i s.heap → J.go i H →
    wpAny (model P w) X.A (pyNext (.ref it)) (fun r s1 => ∃ u, r = some u ∧
      wpAny (model P w) X.A (letOwnedTupleGo tg (.ref it) u) (fun _ s2 => ∃ x H', Inv X pins σ H' s2 ∧ RelV x u ∧ J.yld i H x H' ∧ tn (i + 1) s2.heap ∧ ∀ b ∈ fp, H' b = none) E s1) E s
  done : ∀ (X : Cx), X.prog = P → X.w = w → X.K = K → X.A.handled = some (.ref a) → ∀ (i : Nat) (pins : List (Addr × Obj)) (s : Shared) (σ : L2.St) (H : Hp) (E : Value → Shared → Prop), Inv X pins σ H s → Held1 a H → (∀ b ∈ fp, FpOk X pins H b) → tn i s.heap → J.stop i H →
    wpAny (model P w) X.A (pyNext (.ref it)) (fun r s1 => r = none ∧ Inv X pins σ H s1) E s
  self : ∀ (A : Around) (i : Nat) (s : Shared) (Q : Value → Shared → Prop) (E : Value → Shared → Prop), tn i s.heap → Q (.ref it) s → wpAny (model P w) A (pyIter (.ref it)) Q E s
theorem turn_listT {P : Program} {w : World} {K : PySem.W.Frag} {tg : Expr} (p it a : Addr) : TurnT P w K tg (Itl K p) [it] it (fun i h => h.IsListIter it p i) a where
  mem := by simp
  obj := fun i h st b hb => by
    have e : b = it := by simpa using hb
    subst e
    obtain ⟨o, e, c, d⟩ := st
    exact ⟨o, e, fun v z => by rw [d] at z; cases z⟩
  keep := fun i h h' st k => st.at fun o e => k it (by simp) o e
  item := by
    intro X hP hw hK i pins s σ H E I hf st hg
    subst hP hw hK
    obtain ⟨xs, x, hq, hx⟩ := hg
    obtain ⟨its, rv, p, hz⟩ := I.list hq
    obtain ⟨u, hu, ru⟩ := rv.get hx
    obtain ⟨f0, f1, f2, f3, f4, f5⟩ := hf it (by simp)
    refine wpAny_pyNext_list_item st p.isList (x := u) (by simpa using hu) fun h' st' sb => ?_
    have I1 : Inv X pins σ H { s with heap := h' } := I.turned (t' := s.toks) (fun b o hb e => (sb.2 b hb).trans e) f0 f1 f3 f4 f5
    obtain ⟨o, e, c, d⟩ := id st'
    exact ⟨u, rfl, go_of (s := { s with heap := h' }) e c d (by decide) ⟨x, H, I1, ru, ⟨rfl, fun ys hy => by rw [I.list_inj hy hq]; exact hx⟩, st', fun b hb => (hf b hb).1⟩⟩
  done := by
    intro X hP hw hK hc i pins s σ H E I hd hf st hg
    subst hP hw hK
    obtain ⟨xs, hq, hx⟩ := hg
    obtain ⟨its, rv, p, hz⟩ := I.list hq
    obtain ⟨f0, f1, f2, f3, f4, f5⟩ := hf it (by simp)
    have hl := rv.length
    have na : a ≠ it := fun z => by
      obtain ⟨cls, d, e⟩ := hd
      rw [z, f0] at e
      cases e
    exact PySem.sk_list_end (held_at hc I hd) na st p.isList (by simp; omega) fun h' eb => ⟨rfl, I.turned (t' := s.toks) (fun b o hb e => eb b o hb e) f0 f1 f3 f4 f5⟩
  self := fun _ _ _ _ _ st h => wpAny_pyIter_listiter st h
def PIET (X : Cx) (pins : List (Addr × Obj)) (σ : L2.St) (tg : Expr) (a : Addr) (R : It → Hp → Prop) (itv : Value) (s2 : Shared) : Prop :=
  ∃ (it : Addr) (fp : List Addr) (tn : Nat → Heap → Prop) (J : It) (H' : Hp), itv = .ref it ∧ Inv X pins σ H' s2 ∧ TurnT X.prog X.w X.K tg J fp it tn a ∧ tn 0 s2.heap ∧ (∀ b ∈ fp, FpOk X pins H' b) ∧ R J H'
structure PITt (X : Cx) (tg iter : Expr) (a : Addr) (wi : TI) : Prop where
  run : ∀ (pins : List (Addr × Obj)) (s : Shared) (σ : L2.St) (H : Hp) (R : It → Hp → Prop), Inv X pins σ H s → wi σ H R →
    wpAny (model X.prog X.w) X.A (eval iter X.env) (fun v s1 => wpAny (model X.prog X.w) X.A (pyIter v) (PIET X pins σ tg a R) X.xe s1) X.xe s
theorem pi_listT {X : Cx} {tg l : Expr} {a : Addr} {tl : TE} (hl : PE X l tl) : PITt X tg l a (iList X.K tl) := by
  refine ⟨fun pins s σ H R I h => ?_⟩
  refine thn (hl.run pins s σ H _ I h) fun v s1 ⟨x, H1, I1, r1, q1⟩ => ?_
  obtain ⟨p, e, ⟨xs, hq⟩, q⟩ := q1
  subst e
  cases r1
  obtain ⟨its, rv, pl, hz⟩ := I1.list hq
  refine wpAny_pyIter_list pl.isList ?_
  refine ⟨s1.heap.objs.size, [s1.heap.objs.size], _, _, H1, rfl, I1.kept (t' := s1.toks) fun b o e => Heap.get?_push_of_some _ e, turn_listT p _ a, ⟨_, Heap.get?_push_size _ rfl, rfl, rfl⟩, fun b hb => ?_, q⟩
  have e : b = s1.heap.objs.size := by simpa using hb
  subst e
  exact I1.fpOk (Nat.le_refl _) (I1.hok.fresh (Nat.le_refl _))
/-! ### [elt for target in list if ..] -/
def tLcT (a : Addr) (wi : TI) (g : TG) (tt : TT) (te : TE) (vs : List Nat) : TE := fun σ H Q => wi σ H fun J H1 => ∀ D, H1 D = none → ∃ W : Nat → Nat → Hp → Prop, (∃ m, W 0 m (upd H1 D (.lst []))) ∧ ∀ i m H, W i m H → Held1 a H ∧
  ((J.stop i H ∧ Q (.ref D) H) ∨ (J.go i H ∧ ∃ Nx : Hp → Prop, (∀ H', Nx H' → ∃ m', m' < m ∧ W (i + 1) m' H') ∧ ∀ x H', J.yld i H x H' → g x (wipe σ vs) H' fun σ2 H2 => wipe σ2 vs = wipe σ vs ∧ tt σ2 H2 fun b H3 =>
    if b = true then te σ2 H3 fun y H4 => ∃ acc, H4 D = some (.lst acc) ∧ acc.length < sizeLine ∧ Nx (upd H4 D (.lst (acc ++ [y]))) else Nx H3))
section
variable {X : Cx}
theorem lc_coreT {a : Addr} {pins : List (Addr × Obj)} {s : Shared} {σ : L2.St} {H : Hp} {Q : VK} {elt tg iter : Expr} {ifs : List Expr} {scope : Scope} {own : List (Str × Nat)} {pos pos' : Pos} {wi : TI} {g : TG} {tt : TT} {te : TE} {use : Option (Value → Sem Unit)} {Qf : Value → Shared → Prop}
    (hc : X.A.handled = some (.ref a)) (hN : X.N.Nodup) (I : Inv X pins σ H s) (hi : PITt X tg iter a wi) (ok : BlkOk X.N X.env.scope scope own)
    (hg : ∀ (s : Shared) (H : Hp) (C : Addr) (cl : List (Str × Addr)) (fp : List Addr), PG (X.blk s H scope (compEnvC scope cl C X.env) fp) tg g) (ht : ∀ (s : Shared) (H : Hp) (C : Addr) (cl : List (Str × Addr)) (fp : List Addr), PTs (X.blk s H scope (compEnvC scope cl C X.env) fp) ifs tt)
    (he : ∀ (s : Shared) (H : Hp) (C : Addr) (cl : List (Str × Addr)) (fp : List Addr), PE (X.blk s H scope (compEnvC scope cl C X.env) fp) elt te) (hs : ∀ x, foldedSetIterable iter X.env x = pure x)
    (h : tLcT a wi g tt te (own.map (·.2)) σ H Q)
    (hRR : ∀ D C s' m H', Inv X pins σ H' s' → Q (.ref D) H' → s'.heap.Ns C m → FpOk X pins H' C → compPost (model X.prog X.w) X.A X.xe use Qf (.ref D) C (.ok .next) s') :
    wpAny (model X.prog X.w) X.A (comprehension (.ListComp elt [⟨tg, iter, ifs, 0⟩] scope pos) scope X.env pos' (newList []) false (eval iter X.env) use) Qf X.xe s := by
  have hfree : ∀ y ∈ scope.names, y.2 = .free → ∃ c, X.env.cells.lookup y.1 = some c := fun y hy e => by
    rcases ok.free y hy e with k | k
    · exact I.ok.has _ (.inl k)
    · exact I.ok.has _ (.inr k)
  refine wpAny_comprehension_free (use := use) rfl hs (closure_ok hfree) ok.kind (fun y hy e => by rw [ok.uniq y hy, e])
    (thn (hi.run pins s σ H _ I h) fun xv s1 hx => thn hx fun itv s2 h2 => ?_)
  obtain ⟨it, fp, tn, J, H2, e, I2, T, st2, f2, q⟩ := h2
  subst e
  refine wpAny_newObj_type (newEnv_comp ?_) (by show 0 ≤ sizeLine; decide)
  generalize hD : s2.heap.objs.size = D
  have hDn : H2 D = none := I2.hok.fresh (Nat.le_of_eq hD)
  obtain ⟨W, ⟨m0, w0⟩, turn⟩ := q D hDn
  generalize hs3 : ({ s2 with heap := s2.heap.push { cls := .type "list", data := .seq ([] : List Value).toArray } } : Shared) = s3
  have I3 : Inv X pins σ (upd H2 D (.lst [])) s3 := by
    rw [← hs3]
    refine I2.laid (t' := s2.toks) (fun b o e => Heap.get?_push_of_some _ e) (Nat.le_of_eq hD) ⟨Nat.zero_le _, [], 0, .nil, ?_⟩
    rw [← hD]
    exact Heap.get?_push_size _ rfl
  have h3 : s3.heap = s2.heap.push { cls := .type "list", data := .seq ([] : List Value).toArray } := by rw [← hs3]
  have sz : ∀ b ∈ fp, b < s2.heap.objs.size := fun b hb => by
    obtain ⟨o, e, _⟩ := T.obj _ _ st2 b hb
    exact Heap.lt_size e
  have f3 : ∀ b ∈ fp, FpOk X pins (upd H2 D (.lst [])) b ∧ b < s3.heap.objs.size := fun b hb => by
    have hlt := sz b hb
    refine ⟨⟨?_, (f2 b hb).2⟩, by rw [h3, Heap.size_push]; exact Nat.lt_succ_of_lt hlt⟩
    rw [upd_ne (by rw [← hD]; exact Nat.ne_of_lt hlt)]
    exact (f2 b hb).1
  have st3 : tn 0 s3.heap := T.keep _ _ _ st2 fun b _ o e => by rw [h3]; exact Heap.get?_push_of_some _ e
  have I4 := block_start I3 ok hN f3
  have pg := hg s3 (upd H2 D (.lst [])) s3.heap.objs.size (cellsFrom (s3.heap.objs.size + 1) scope.names (cloFrom X.env.cells scope.names [])) fp
  have pt := ht s3 (upd H2 D (.lst [])) s3.heap.objs.size (cellsFrom (s3.heap.objs.size + 1) scope.names (cloFrom X.env.cells scope.names [])) fp
  have pe := he s3 (upd H2 D (.lst [])) s3.heap.objs.size (cellsFrom (s3.heap.objs.size + 1) scope.names (cloFrom X.env.cells scope.names [])) fp
  show codeAny _ _ (.compStart (.ListComp elt [⟨tg, iter, ifs, 0⟩] scope pos) 0 (.ref it) (.ref D) (compEnvC scope (cellsFrom (s3.heap.objs.size + 1) scope.names (cloFrom X.env.cells scope.names [])) s3.heap.objs.size X.env)) (compPost (model X.prog X.w) X.A X.xe use Qf (.ref D) s3.heap.objs.size) { s3 with heap := pushCells (s3.heap.push { cls := .type "dict", data := .dict #[] }) scope.names }
  have nfp : ∀ b ∈ fp, (upd H2 D (.lst [])) b = none := fun b hb => (f3 b hb).1.1
  generalize hce : compEnvC scope (cellsFrom (s3.heap.objs.size + 1) scope.names (cloFrom X.env.cells scope.names [])) s3.heap.objs.size X.env = ce at I4 pg pt pe ⊢
  have cL : ce.locals = s3.heap.objs.size := by subst hce; rfl
  generalize hH3 : upd H2 D (.lst []) = H3 at I3 I4 pg pt pe w0 nfp f3
  generalize hs4 : ({ s3 with heap := pushCells (s3.heap.push { cls := .type "dict", data := .dict #[] }) scope.names } : Shared) = s4 at I4 ⊢
  have st4 : tn 0 s4.heap := T.keep _ _ _ st3 fun b _ o e => by rw [← hs4]; exact pushCells_keeps _ _ _ _ (Heap.get?_push_of_some _ e)
  have stat : ∀ {σ' : L2.St} {H' : Hp} {s' : Shared}, Inv (X.blk s3 H3 scope ce fp) [] σ' H' s' → (∀ b ∈ fp, H' b = none) → ∀ b ∈ fp, FpOk (X.blk s3 H3 scope ce fp) [] H' b := fun {σ' H' s'} I' hn b hb =>
    ⟨hn b hb, (I'.ok.exf b hb).1, I'.ok.exfs b hb, .inl hb, fun x c e => (I'.ok.exf b hb).2 x c e, fun p hp => absurd (show p ∈ ([] : List (Addr × Obj)) ++ [] from hp) (by simp)⟩
  have loop : codeAny (model X.prog X.w) X.A (.compLoop (.ListComp elt [⟨tg, iter, ifs, 0⟩] scope pos) 0 (.ref it) (.ref D) ce) (compPost (model X.prog X.w) X.A X.xe use Qf (.ref D) s3.heap.objs.size) s4 := by
    refine compLoop_any (fun n s' => ∃ i H', Inv (X.blk s3 H3 scope ce fp) [] (wipe σ (own.map (·.2))) H' s' ∧ tn i s'.heap ∧ (∀ b ∈ fp, H' b = none) ∧ W i n H') ?_ m0 ⟨0, H3, I4, st4, nfp, w0⟩
    rintro n s5 ⟨i, H5, I5, st5, n5, w5⟩
    obtain ⟨hd5, turn5⟩ := turn i n H5 w5
    rcases turn5 with ⟨stop, qq⟩ | ⟨go, Nx, hNx, step⟩
    · have td := T.done (X.blk s3 H3 scope ce fp) rfl rfl rfl hc i [] s5 _ H5 (fun _ _ => False) I5 hd5 (stat I5 n5) st5 stop
      refine thnF td fun r s6 ⟨hr, I6⟩ => ?_
      subst hr
      have I7 : Inv X pins σ H5 s6 := I3.call' (ch := fp) I6.os I6.base I6.hok I6.bare fun b hb => ⟨(f3 b hb).1.2.2.2.1, (f3 b hb).1.2.1, (f3 b hb).1.2.2.2.2.1, (f3 b hb).1.2.2.2.2.2⟩
      have nC : H5 s3.heap.objs.size = none := by
        have z : H5 ce.locals = none := I6.free
        rw [cL] at z
        exact z
      obtain ⟨m, hn, _⟩ := I6.loc
      have hn : s6.heap.Ns ce.locals m := hn
      rw [cL] at hn
      exact hRR D s3.heap.objs.size s6 m H5 I7 qq hn (I3.fpOk (Nat.le_refl _) nC)
    · have ti := T.item (X.blk s3 H3 scope ce fp) rfl rfl rfl i [] s5 _ H5 (fun _ _ => False) I5 (stat I5 n5) st5 go
      refine thnF ti fun r s6 ⟨u, hr, h6⟩ => ?_
      subst hr
      refine thnF h6 fun _ s7 ⟨x, H7, I7, r7, y7, st7, n7⟩ => ?_
      have I7' := I7.pinned (stat I7 n7) (T.obj _ _ st7)
      refine thnF (pg.run _ s7 _ H7 x u _ I7' r7 (step x H7 y7)) fun _ s8 ⟨σ8, H8, I8, hw8, q8⟩ => ?_
      refine thnF (pt.run _ s8 σ8 H8 _ I8 q8) fun b s9 ⟨H9, I9, q9⟩ => ?_
      have fin : ∀ {s' : Shared} {H' : Hp}, Inv (X.blk s3 H3 scope ce fp) ([] ++ pinsAt fp s7.heap) σ8 H' s' → Nx H' → ∃ m, m < n ∧ ∃ i H', Inv (X.blk s3 H3 scope ce fp) [] (wipe σ (own.map (·.2))) H' s' ∧ tn i s'.heap ∧ (∀ b ∈ fp, H' b = none) ∧ W i m H' := fun {s' H'} I' nx => by
        obtain ⟨m', hm, w'⟩ := hNx H' nx
        have pin' : ∀ b ∈ fp, ∀ o, s7.heap.get? b = some o → s'.heap.get? b = some o ∧ H' b = none := fun b hb o e =>
          let z := I'.pin (b, o) (List.mem_append_right _ (List.mem_append_right _ (mem_pinsAt hb e)))
          ⟨z.1, z.2.1⟩
        have hl : (wipe σ (own.map (·.2))).length = σ8.length := by rw [← hw8, wipe_length]
        refine ⟨m', hm, i + 1, H', (I'.unpinned (pins := [])).weak hl (fun j v e => ?_), T.keep _ _ _ st7 fun b hb o e => (pin' b hb o e).1, fun b hb => ?_, w'⟩
        · rw [← hw8] at e
          exact (wipe_some e).1
        · obtain ⟨o, e, _⟩ := T.obj _ _ st7 b hb
          exact (pin' b hb o e).2
      cases b with
      | false =>
        simp only [Bool.false_eq_true, if_false] at q9 ⊢
        exact fin I9 q9
      | true =>
        simp only [if_true] at q9 ⊢
        refine thnF (pe.run _ s9 σ8 H9 _ I9 q9) fun z s10 ⟨yv, H10, I10, r10, acc, hD10, hz10, nx⟩ => ?_
        exact app_ok (X := X.blk s3 H3 scope ce fp) I10 hD10 hz10 r10 fun s11 I11 => fin I11 nx
  exact codeAny_compStart_list loop (T.self X.A 0 _ _ _ st4 loop)
theorem pe_lcT {a : Addr} {elt tg iter : Expr} {ifs : List Expr} {scope : Scope} {own : List (Str × Nat)} {pos : Pos} {wi : TI} {g : TG} {tt : TT} {te : TE} (hc : X.A.handled = some (.ref a)) (hN : X.N.Nodup) (hi : PITt X tg iter a wi) (ok : BlkOk X.N X.env.scope scope own)
    (hg : ∀ (s : Shared) (H : Hp) (C : Addr) (cl : List (Str × Addr)) (fp : List Addr), PG (X.blk s H scope (compEnvC scope cl C X.env) fp) tg g) (ht : ∀ (s : Shared) (H : Hp) (C : Addr) (cl : List (Str × Addr)) (fp : List Addr), PTs (X.blk s H scope (compEnvC scope cl C X.env) fp) ifs tt)
    (he : ∀ (s : Shared) (H : Hp) (C : Addr) (cl : List (Str × Addr)) (fp : List Addr), PE (X.blk s H scope (compEnvC scope cl C X.env) fp) elt te) (hs : ∀ x, foldedSetIterable iter X.env x = pure x := by intro _; rfl) :
    PE X (.ListComp elt [⟨tg, iter, ifs, 0⟩] scope pos) (tLcT a wi g tt te (own.map (·.2))) := by
  refine ⟨fun pins s σ H Q I h => ?_⟩
  rw [eval_ListComp]
  refine lc_coreT hc hN I hi ok hg ht he hs h fun D C s' m H' I' q hn f => ⟨m, hn, fun h'' sb => ?_⟩
  obtain ⟨f0, f1, f2, f3, f4, f5⟩ := f
  exact ⟨.ref D, H', I'.turned (t' := s'.toks) (fun b o hb e => (sb.2 b hb).trans e) f0 f1 f3 f4 f5, rfl, q⟩
theorem ps_setLcT {a : Addr} {i : Nat} {y : Str} {py : Pos} {elt tg iter : Expr} {ifs : List Expr} {scope : Scope} {own : List (Str × Nat)} {pos spos : Pos} {wi : TI} {g : TG} {tt : TT} {te : TE} (hc : X.A.handled = some (.ref a)) (hN : X.N.Nodup) (hy : X.N[i]? = some y) (hyl : X.env.scope.names.lookup y = some .local)
    (hsw : swapsWith (.ListComp elt [⟨tg, iter, ifs, 0⟩] scope pos) (some (.Name y py)) spos.line X.env = pure true) (hi : PITt X tg iter a wi) (ok : BlkOk X.N X.env.scope scope own)
    (hg : ∀ (s : Shared) (H : Hp) (C : Addr) (cl : List (Str × Addr)) (fp : List Addr), PG (X.blk s H scope (compEnvC scope cl C X.env) fp) tg g) (ht : ∀ (s : Shared) (H : Hp) (C : Addr) (cl : List (Str × Addr)) (fp : List Addr), PTs (X.blk s H scope (compEnvC scope cl C X.env) fp) ifs tt)
    (he : ∀ (s : Shared) (H : Hp) (C : Addr) (cl : List (Str × Addr)) (fp : List Addr), PE (X.blk s H scope (compEnvC scope cl C X.env) fp) elt te) (hs : ∀ x, foldedSetIterable iter X.env x = pure x := by intro _; rfl) :
    PS X (.Assign [.Name y py] (.ListComp elt [⟨tg, iter, ifs, 0⟩] scope pos) spos) (tAsg (tLcT a wi g tt te (own.map (·.2))) (gName i)) := by
  refine ⟨fun pins s σ H D I h => ?_⟩
  rw [exec_Assign_Name_used _ _ _ _ hsw]
  refine wpAny_bind (wpAny_standAt (wpAny_bind ?_))
  show wpAny _ X.A (do let _ ← comprehension (.ListComp elt [⟨tg, iter, ifs, 0⟩] scope pos) scope X.env (firstIterPos [⟨tg, iter, ifs, 0⟩] pos) (newList []) false (eval iter X.env) (some (assign (.Name y py) X.env))) _ _ s
  have h : tLcT a wi g tt te (own.map (·.2)) σ H (fun x H1 => gName i x σ H1 D.nx) := h
  refine wpAny_bind (thn (lc_coreT (Qf := fun _ s' => SP X pins D .next s') hc hN I hi ok hg ht he hs h fun L C s' m H' I' q hn f => ?_) fun _ s' hq => wpAny_pure (wpAny_pure hq))
  show wpAny _ _ (assign (.Name y py) X.env (.ref L)) _ _ _
  refine wpAny_assign_Name (store_ok2 (v := V.ref L) I' hN hy (.inl hyl) rfl (fun s2 I2 ⟨a, sb, ha⟩ => ?_) (.inr hyl))
  obtain ⟨f0, f1, f2, f3, f4, f5⟩ := f
  have haC : C ≠ a := by
    rcases ha with z | z
    · rw [z]; exact f1
    · exact fun e => f4 y a z e.symm
  refine ⟨m, hn.sameBut sb haC, fun h3 sb3 => ?_⟩
  exact ⟨_, H', I2.turned (t' := s2.toks) (fun b o hb e => (sb3.2 b hb).trans e) f0 f1 f3 f4 f5, q⟩
/-- over a list that the block leaves as it is -/
theorem lcT_list {K : PySem.W.Frag} {e a : Addr} {xs : List V} {g : TG} {tt : TT} {te : TE} {vs : List Nat} {σ : L2.St} {H1 : Hp} {D : Addr} {Qd : Hp → Prop} (Pv : Nat → Hp → Prop) (h0 : Pv 0 (upd H1 D (.lst []))) (hq : ∀ i H, Pv i H → SqL K H a xs) (hd1 : ∀ i H, Pv i H → Held1 e H)
    (hs : ∀ i x H, xs[i]? = some x → Pv i H → g x (wipe σ vs) H fun σ2 H2 => wipe σ2 vs = wipe σ vs ∧ tt σ2 H2 fun b H3 =>
      if b = true then te σ2 H3 fun y H4 => ∃ acc, H4 D = some (.lst acc) ∧ acc.length < sizeLine ∧ Pv (i + 1) (upd H4 D (.lst (acc ++ [y]))) else Pv (i + 1) H3) (hd : ∀ H, Pv xs.length H → Qd H) :
    ∃ W : Nat → Nat → Hp → Prop, (∃ m, W 0 m (upd H1 D (.lst []))) ∧ ∀ i m H, W i m H → Held1 e H ∧
      (((Itl K a).stop i H ∧ Qd H) ∨ ((Itl K a).go i H ∧ ∃ Nx : Hp → Prop, (∀ H', Nx H' → ∃ m', m' < m ∧ W (i + 1) m' H') ∧ ∀ x H', (Itl K a).yld i H x H' → g x (wipe σ vs) H' fun σ2 H2 => wipe σ2 vs = wipe σ vs ∧ tt σ2 H2 fun b H3 =>
        if b = true then te σ2 H3 fun y H4 => ∃ acc, H4 D = some (.lst acc) ∧ acc.length < sizeLine ∧ Nx (upd H4 D (.lst (acc ++ [y]))) else Nx H3)) := by
  refine ⟨fun i m H => m = xs.length - i ∧ i ≤ xs.length ∧ Pv i H, ⟨xs.length, by simp, Nat.zero_le _, h0⟩, ?_⟩
  rintro i m H ⟨rfl, hi, p⟩
  refine ⟨hd1 i H p, ?_⟩
  by_cases hlt : i < xs.length
  · have hx : xs[i]? = some xs[i] := List.getElem?_eq_getElem hlt
    refine .inr ⟨⟨xs, xs[i], hq i H p, hx⟩, Pv (i + 1), fun H' p' => ⟨xs.length - (i + 1), by omega, rfl, hlt, p'⟩, fun x H' y => ?_⟩
    obtain ⟨e1, y⟩ := y
    subst e1
    have := y xs (hq i _ p)
    rw [hx] at this
    cases this
    exact hs i _ _ hx p
  · have e : i = xs.length := by omega
    subst e
    exact .inl ⟨⟨xs, hq _ H p, Nat.le_refl _⟩, hd H p⟩
end
end Sk
namespace Sk
open PySem PySem.Spec PyProof.Rows L2 L2H
theorem piLT {X : Cx} {K : PySem.W.Frag} {tg l : Expr} {a : Addr} {tl : TE} (e : X.K = K) (hl : PE X l tl) : PITt X tg l a (iList K tl) := by subst e; exact pi_listT hl
/-- called with the exception that is handled -/
def hotSp (sp : Sp) : Addr → Sp := fun a vs H Q E => vs.head? = some (.ref a) ∧ sp vs H Q E
theorem fnT_of {P : Program} {w : World} {K : PySem.W.Frag} {mg : Str → Option Value} {base : Heap} {x qual : Str} {params : Arguments} {body : List Stmt} {scope : Scope} {f : Addr} {fd : FuncData} {N ps : List Str} {k : Nat} {sp : Addr → Sp} (F : FunD K x qual params body scope [] [] f fd) (S : FnScope N ps scope)
    (len : ∀ a vs H Q E, sp a vs H Q E → vs.length = ps.length)
    (hbody : ∀ (cdv : Value) (A : Around) (outer : List Env) (s : Shared) (H : Hp) (vs : List V) (Q : VK) (E : XK) (a : Addr), A.handled = some (.ref a) → RoomH k (A.deeper (envOfC qual scope s.heap.objs.size f cdv)) → sp a vs H Q E →
      ∃ t, PSs (cxT CX0 P w K mg base N qual scope f cdv A outer s H E) body t ∧ t { nx := fun _ H' => Q .non H', rt := Q } (L2.start N vs) H) : FnT P w K mg base CX0 (k + 1) f fd ps sp := by
  obtain ⟨oc, od, dV, kV, doc, pm, an, cdv, ct, osl, rfl, lk, hcd, _, _⟩ := F.ex
  exact fn_ofT lk hcd S len fun A outer s H vs Q E a hh hr hsp => hbody cdv A outer s H vs Q E a hh hr hsp
/-! ### all that is asked of the program's exception classes -/
def kiAll (K : PySem.W.Frag) (cs : List Str) (base : Str) : Bool := cs.all fun C => xcB K (He.ga K C) && ((cs.all fun D => decide (PySem.W.kitOne K (.ref (He.ga K C)) (.ref (He.ga K D)) = some (C == D))) &&
  (decide (PySem.W.kitOne K (.ref (He.ga K C)) (.ref (He.ga K base)) = some true) && (decide (PySem.W.kitOne K (.ref (He.ga K C)) (.type "ValueError") = some true) && decide (PySem.W.exmOne K (.ref (He.ga K C)) (.ref (He.ga K base)) = some true))))
structure KiC (K : PySem.W.Frag) (cs : List Str) (base C : Str) : Prop where
  xb : XcB K (He.ga K C)
  ki : ∀ D ∈ cs, PySem.W.kitOne K (.ref (He.ga K C)) (.ref (He.ga K D)) = some (C == D)
  kb : PySem.W.kitOne K (.ref (He.ga K C)) (.ref (He.ga K base)) = some true
  kv : PySem.W.kitOne K (.ref (He.ga K C)) (.type "ValueError") = some true
  xm : PySem.W.exmOne K (.ref (He.ga K C)) (.ref (He.ga K base)) = some true
theorem kiAll_ok {K : PySem.W.Frag} {cs : List Str} {base C : Str} (h : kiAll K cs base = true) (hC : C ∈ cs) : KiC K cs base C := by
  unfold kiAll at h
  have q := List.all_eq_true.mp h C hC
  simp only [Bool.and_eq_true, decide_eq_true_eq, List.all_eq_true] at q
  obtain ⟨q1, q2, q3, q4, q5⟩ := q
  exact ⟨xcB_ok q1, fun D hD => q2 D hD, q3, q4, q5⟩
/-- at e stands an exception of the class C with this value -/
def ExcV (K : PySem.W.Frag) (H : Hp) (e : Addr) (C : Str) (v : V) : Prop := ∃ dd, H e = some (exT e (.ref (He.ga K C)) (some dd)) ∧ H dd = some (.xd [("value", v)])
theorem ExcV.gr {T : List (Addr × Str)} {K : PySem.W.Frag} {H H' : Hp} {e : Addr} {C : Str} {v : V} (h : ExcV K H e C v) (g : Gr T H H') : ExcV K H' e C v := by
  obtain ⟨dd, h1, h2⟩ := h
  exact ⟨dd, g.ext e _ h1 exT_ntb, g.ext dd _ h2 fun _ z => by cases z⟩
theorem ExcV.held {K : PySem.W.Frag} {H : Hp} {e : Addr} {C : Str} {v : V} (h : ExcV K H e C v) : Held1 e H := by
  obtain ⟨dd, h1, _⟩ := h
  exact ⟨_, _, h1⟩
/-- isinstance(e, D) -/
theorem ExcV.isx {K : PySem.W.Frag} {H : Hp} {e : Addr} {C : Str} {v c : V} {cv : Value} {b : Bool} {Q : VK} (h : ExcV K H e C v) (x : XcB K (He.ga K C)) (hc : ClsV c cv) (k : PySem.W.kitOne K (.ref (He.ga K C)) cv = some b) (q : Q (.bl b) H) : rIsX K [.ref e, c] H Q := by
  obtain ⟨dd, h1, h2⟩ := h
  exact ⟨e, _, some dd, c, cv, b, rfl, ⟨h1, .inr ⟨dd, _, rfl, h2⟩⟩, x.is, hc, k, q⟩
/-- e.value -/
theorem ExcV.value {K : PySem.W.Frag} {H : Hp} {e : Addr} {C : Str} {v : V} {Q : VK} (h : ExcV K H e C v) (x : XcB K (He.ga K C)) (q : Q v H) : ∃ (a C d : Addr) (fs : List (Str × V)) (v : V), V.ref e = .ref a ∧ XfC K C ∧ PySem.W.findIn K (.ref C) "value" = some none ∧ H a = some (exT a (.ref C) (some d)) ∧ H d = some (.xd fs) ∧ fs.lookup ("value" : Str) = some v ∧ Q v H := by
  obtain ⟨dd, h1, h2⟩ := h
  exact ⟨e, _, dd, _, v, rfl, x.xf, x.nv, h1, h2, rfl, q⟩
end Sk
/-! X(value=v) -/
namespace PySem
namespace HandSPX
open PySem.W PySem.Calls PyProof.Rows
section
variable {prog : Program} {w : World} {A : Around} {E : Value → Shared → Prop} {R : Result → Shared → Prop} {h : Heap} {g : Array GenState} {d : Drawn} {t : Nat} {os : OsState}
variable {nm q : Str} {C N : Addr} {bs bm bmB : List Value} {hdct : Bool} {sn : List Str} {sub : List Value} {ab : Bool} {col : Option Bool} {dd : Option Addr} {k0 k1 k2 k3 k5 : Option Value} {B newId initId : String}
theorem sk_checkK {M : Model} (F : ExcBaseFacts B newId initId bmB) (hT : ∀ X : String, bm.contains (.type X) = bmB.contains (.type X)) {u : Value} {Q : Unit → Shared → Prop}
    (hC : h.get? C = some (excClassObj nm q C N bs bm hdct sn sub ab col dd k0 k1 k2 k3 k5 newId)) (hq : Q () ⟨h, g, d, t, os⟩) : wpAny M A (checkBuiltinCall newId ⟨[.ref C], [("value", u)]⟩) Q E ⟨h, g, d, t, os⟩ := by
  have hcont : (Value.ref C :: bm).contains (.type B) = true := by rw [List.contains_cons, hT, F.hasB, Bool.or_true]
  have hstar := F.noStar
  simp only [checkBuiltinCall, F.newKind, F.newSplit, F.newRow]
  repeat (first | refine wpAny_loadPart_at hC ?_ | (refine wpAny_isSubtype_exc hC ?_; rw [hcont]) | refine wpAny_staticBase_exc hC ?_ | refine wpAny_madeBy_exc hC ?_ | simp only [bne_self_eq_false, Bool.false_eq_true, if_false] | wp_step)
  exact hq
theorem sk_newK (F : ExcBaseFacts B newId initId bmB) (hT : ∀ X : String, bm.contains (.type X) = bmB.contains (.type X)) {u : Value}
    (hC : h.get? C = some (excClassObj nm q C N bs bm hdct sn sub ab col dd k0 k1 k2 k3 k5 newId))
    (hq : R (.ok (.ret (.ref (h.objs.size + 1)))) ⟨(h.push (W.kdv_tup [])).push (excO C h.objs.size), g, d, t, os⟩) :
    codeAny (model prog w) A (.builtin newId ⟨[.ref C], [("value", u)]⟩) R ⟨h, g, d, t, os⟩ := by
  have hends := F.ends
  have hrest : ([] : List Value).length ≤ sizeLine := Nat.zero_le _
  have hcB : (Value.ref C :: bm).contains (.type B) = true := by rw [List.contains_cons, hT, F.hasB, Bool.or_true]
  have hcA : (Value.ref C :: bm).contains (.type "AttributeError") = false := by rw [List.contains_cons, hT, F.noAttr]; rfl
  have hcN : (Value.ref C :: bm).contains (.type "NameError") = false := by rw [List.contains_cons, hT, F.noName]; rfl
  refine codeAny_builtinAt F.entry ?_
  unfold Builtin.«BaseException.__new__»
  refine wpAt_bind ?_
  show wpAt _ _ _ (stack >>= _) _ _ _
  refine wpAt_bind (wpAt_stack fun p below => wpAt_of_wpAny ?_)
  wp_walk
  refine wpAt_of_wpAny ?_
  rw [F.owner]
  repeat (first | with_reducible refine wpAny_madeHere_exc F.canon hC ?_ | with_reducible refine wpAny_loadPart_at hC ?_ | (with_reducible refine wpAny_isSubtype_exc hC ?_; first | rw [hcB] | rw [hcA] | rw [hcN]) | wp_step)
  show R _ _
  rw [Heap.size_push]
  exact hq
theorem sk_typeCallK (F : ExcBaseFacts B newId initId bmB) (hT : ∀ X : String, bm.contains (.type X) = bmB.contains (.type X)) {u : Value} {fI : Addr} {Q : Fin → Shared → Prop}
    (hC : h.get? C = some (excClassObj nm q C N bs bm hdct sn sub ab col dd k0 k1 k2 k3 k5 newId))
    (hi : W.Looks (model prog w) h (typeLookup (.ref C) "__init__") (some (.ref fI))) (hb : ∀ self, W.Looks (model prog w) h (bindSpecial (.ref fI) self) (.ref fI, [self]))
    (hq : codeAny (model prog w) A (.call (.ref fI) ⟨[.ref (h.objs.size + 1)], [("value", u)]⟩)
      (fun r s' => match r with | .ok (.ret v) => v = .none ∧ Q (.done (.ret (.ref (h.objs.size + 1)))) s' | .ok _ => False | .error e => E e s')
      ⟨(h.push (W.kdv_tup [])).push (excO C h.objs.size), g, d, t, os⟩) :
    wpAny (model prog w) A (Builtin.«type.__call__» ⟨[.ref C], [("value", u)]⟩) Q E ⟨h, g, d, t, os⟩ := by
  repeat (first | with_reducible refine wpAny_loadPart_at hC ?_ | with_reducible refine wpAny_madeBy_exc hC ?_ | wp_step)
  refine codeAny_call_builtin_code (Code.quiet_builtin _ F.quiet) (sk_checkK F hT hC ?_)
  refine sk_newK F hT hC ?_
  show wpAny _ _ _ _ _ _
  have k : ∀ b o, h.get? b = some o → ((h.push (W.kdv_tup [])).push (excO C h.objs.size)).get? b = some o := fun b o e => Heap.get?_push_of_some _ (Heap.get?_push_of_some _ e)
  have hC₁ := k _ _ hC
  have hget : ((h.push (W.kdv_tup [])).push (excO C h.objs.size)).get? (h.objs.size + 1) = some (excO C h.objs.size) := by heap_get
  have hcC : (Value.ref C :: bm).contains (.ref C) = true := by simp
  have i1 := hi.keeps k
  have b1 := (hb (.ref (h.objs.size + 1))).keeps k
  unfold isInstance
  repeat (first | with_reducible refine wpAny_loadPart_at hget ?_ | (with_reducible refine wpAny_isSubtype_exc hC₁ ?_; rw [hcC]) | wp_step)
  show wpAny _ _ (typeLookup (.ref C) _) _ _ _
  refine i1.at ?_
  refine wpAny_holding (wpAny_bind (b1.at ?_))
  refine wpAny_bind (wpAny_call (codeAny_mono hq fun r s' z => ?_))
  rcases r with e | (v | _ | _ | _) <;> first | exact z | exact z.elim | skip
  obtain ⟨rfl, z⟩ := z
  first
    | exact wpAny_pure (wpAny_pure z)
    | (wp_walk; exact z)
theorem sk_callK (F : ExcBaseFacts B newId initId bmB) (hT : ∀ X : String, bm.contains (.type X) = bmB.contains (.type X)) {u : Value} {fI : Addr}
    (hC : h.get? C = some (excClassObj nm q C N bs bm hdct sn sub ab col dd k0 k1 k2 k3 k5 newId))
    (hi : W.Looks (model prog w) h (typeLookup (.ref C) "__init__") (some (.ref fI))) (hb : ∀ self, W.Looks (model prog w) h (bindSpecial (.ref fI) self) (.ref fI, [self]))
    (hq : codeAny (model prog w) (A.under (.builtin "type.__call__" ⟨[.ref C], [("value", u)]⟩)) (.call (.ref fI) ⟨[.ref (h.objs.size + 1)], [("value", u)]⟩) (W.InitBack (h.objs.size + 1) R)
      ⟨(h.push (W.kdv_tup [])).push (excO C h.objs.size), g, d, t, os⟩) :
    codeAny (model prog w) A (.call (.ref C) ⟨[], [("value", u)]⟩) R ⟨h, g, d, t, os⟩ := by
  have f1 := tc_lookup
  have f2 := tc_bind (.ref C)
  have hTy : (⟨h, g, d, t, os⟩ : Shared).TypeIs (.ref C) "type" := ⟨_, hC, rfl⟩
  refine codeAny_of_tree ?_
  show wpAny _ _ (callAny (.ref C) _) _ _ _
  repeat (any_goals (first | assumption | with_reducible refine wpAny_loadPart_at hC ?_ | wp_step))
  refine ⟨rfl, ?_⟩
  refine codeAny_call_builtin_at (Code.quiet_builtin _ (by decide +kernel)) entry_typeCall (wpAny_check_type_call_sub hC (sk_typeCallK F hT hC hi hb ?_))
  refine codeAny_mono hq fun r s' z => ?_
  rcases r with e | (v | _ | _ | _) <;> exact z
end
end HandSPX
end PySem
namespace Sk
open PySem PySem.Spec PyProof.Rows L2
section
variable {X : Cx} {x : Str} {kws : List Keyword} {t : TA} {p pos : Pos}
/-- the class is called by the keyword -/
theorem run_xcK {pins : List (Addr × Obj)} {σ : L2.St} {H1 : Hp} {s : Shared} {Q : XK} {v : V} {u : Value} (G : Xc X.prog X.w X.K X.mg X.base x) (hr : Room 2 X.A) (I1 : Inv X pins σ H1 s) (r : RelV v u)
    (q1 : ∀ d, H1 d = none → Q (.ref (He.ga X.K x)) (some d) (upd H1 d (.xd [("value", v)]))) : wpAny (model X.prog X.w) X.A (call (.ref (He.ga X.K x)) [] [("value", u)]) (fun u s' => L2N.MkP X pins σ Q u s' ∧ L2H.Six u s') X.xe s := by
  obtain ⟨fd, gk, F1, _, hb⟩ := G.fn
  obtain ⟨nm, q, N, bs, bm, sn, sub, ab, col, dd, k0, k1, k2, k3, k5, hC, hbm⟩ := G.b.ox.cls
  obtain ⟨hp, g, dr, tk, os⟩ := s
  let a : Addr := hp.objs.size + 1
  have hsz : hp.objs.size ≤ a := Nat.le_succ _
  have hn : H1 a = none := I1.hok.fresh hsz
  have kk : ∀ b o, hp.get? b = some o → ((hp.push (PySem.W.kdv_tup [])).push (PySem.HandSPX.excO (He.ga X.K x) hp.objs.size)).get? b = some o := fun b o z => Heap.get?_push_of_some _ (Heap.get?_push_of_some _ z)
  have hget : ((hp.push (PySem.W.kdv_tup [])).push (PySem.HandSPX.excO (He.ga X.K x) hp.objs.size)).get? a = some (PySem.HandSPX.excO (He.ga X.K x) hp.objs.size) := by
    show ((hp.push (PySem.W.kdv_tup [])).push (PySem.HandSPX.excO (He.ga X.K x) hp.objs.size)).get? (hp.objs.size + 1) = _
    heap_get
  have I2 := I1.laid (t' := tk) (a := a) (o := exo a (He.ga X.K x) none) (h' := (hp.push (PySem.W.kdv_tup [])).push (PySem.HandSPX.excO (He.ga X.K x) hp.objs.size)) kk hsz (exo_ok hget)
  have hq := xr_of (C := He.ga X.K x) hn q1
  have b1 := hb.to _ [Value.ref a] [u] I2.kIn rfl rfl
  have rl := hb.rel (us := [Value.ref a]) (ws := [u]) (vs := [V.ref a]) (zs := [v]) (.cons rfl .nil) (.cons r .nil)
  refine wpAny_call (PySem.HandSPX.sk_callK F.excBase_ValueError (fun Y => PySem.HandSPX.refsVE_contains Y bm hbm) (I1.kIn _ _ hC) (PySem.W.looks_findIn I1.kIn G.b.fi) (fun self => PySem.W.bind_fn I1.kIn self G.b.ti)
    (codeAny_mono (F1.run _ X.stack _ _ ⟨[Value.ref a], [("value", u)]⟩ _ _ _ E0 (hr.make (He.ga X.K x) [] [("value", u)]) (I2.env0.make (He.ga X.K x) [] [("value", u)]) b1 rl hq) fun r s' hq' => ?_))
  cases r with
  | error er => exact (pass0 : Passes CX0 X E0) pins σ _ _ er s' I2 hq'
  | ok fl =>
    cases fl with
    | ret u =>
      obtain ⟨v, H2, os2, bare2, un2, hok2, rv, ev, d, fs, ea, ed, hd1, q2⟩ := hq'
      subst ev
      obtain ⟨h2, g2, d2, t2, os'⟩ := s'
      obtain ⟨t0, Gh, J, kG, ge, hoe, na⟩ := mk_end0 (d2 := d2) (t2 := t2) I1 hsz kk un2 hok2 os2 bare2 ea ed hd1
      refine ⟨rv, ⟨hp.objs.size + 1, _, _, ⟨Gh, g2, d2, t2, os'⟩, _, .ref (He.ga X.K x), some d, rfl, J, kG, ge, hoe, ⟨rfl, rfl, fun vs hv => ?_⟩, rfl, rfl, na, rfl, bare2, raises_own G.b.ox.exC G.b.ox.tyC, q2⟩, fun a oe vs ea2 hg2 hd2 => ?_⟩
      · cases hv
        rfl
      · cases ea2
        have hg3 : h2.get? (hp.objs.size + 1) = some oe := hg2
        rw [hoe] at hg3
        cases hg3
        cases hd2
        show (4 : Nat) < 6
        decide
    | next => exact False.elim hq'
    | brk => exact False.elim hq'
    | cont => exact False.elim hq'
theorem pmk_xcK (G : Xc X.prog X.w X.K X.mg X.base x) (hr : Room 2 X.A) (hkw : PK X kws t) (hg : Gl X x := by rfl) (hdb : (x == ("__debug__" : Str)) = false := by decide)
    (hall : (backToKw pos (keywordEach kws X.env)).all (·.1.isSome) = true := by rfl) (hks : (backToKw pos (keywordEach kws X.env)).filterMap (·.1) = [("value" : Str)] := by rfl)
    (hpl : ((backTo pos (starEach [] X.env)).any (·.1) || (backToKw pos (keywordEach kws X.env)).any (·.1.isNone)) = false := by rfl) : L2N.PMk X (.Call (.Name x p) [] kws pos) (tXc X.K x t) := by
  intro pins s σ H Q I h
  refine wpAny_Call_Name_kw (ld_glob I hg G.hm ?_ hdb)
  refine PySem.W.callWith_KW0 (h₀ := X.base) I.ok.mod.kin G.b.ox.kC hall ?_ hpl
  refine thn (hkw.run pos pins s σ H _ I h) fun ws s2 ⟨zs, H2, I2, rz, v, ez, q2⟩ => ⟨I2.kIn, ?_⟩
  rw [hks]
  subst ez
  obtain ⟨u, rfl, ru⟩ : ∃ u, ws = [u] ∧ RelV v u := by
    cases rz with
    | cons r0 rr =>
      cases rr
      exact ⟨_, rfl, r0⟩
  exact wpAny_mono (run_xcK G hr I2 ru q2) (fun _ _ x => x.1) fun _ _ x => x
end
/-! ### the base class itself -/
abbrev bmVE : List Value := [Value.type "ValueError", Value.type "Exception", Value.type "BaseException", Value.type "object"]
def seB (K : PySem.W.Frag) (B : Addr) (cs : List Str) : Bool := PySem.W.excIn K B bmVE "ValueError.__new__" && (PySem.W.keepIn K (.ref B) && (decide (PySem.W.subIn K (.ref B) (.type "BaseException") = some true) && (decide (PySem.W.typeIn K (.ref B) = some (.type "type")) &&
  (decide (PySem.W.findIn K (.ref B) "__getattribute__" = some (some (.builtin "BaseException.__getattribute__"))) && (decide (PySem.W.findIn K (.ref B) "__getattr__" = some none) && (PySem.W.hasDictIn K B && (decide (PySem.W.findIn K (.ref B) "__class__" = some (some (.builtin "object.__class__"))) &&
  (decide (PySem.W.specialIn K (.builtin "object.__class__") "__get__" = some (some (.builtin "getset_descriptor.__get__"))) && (decide (PySem.W.takesIn K (.builtin "object.__class__") = some true) && (decide (PySem.W.mroIn K B (.type "object") = some true) &&
  cs.all fun D => decide (PySem.W.kitOne K (.ref B) (.ref (He.ga K D)) = some false)))))))))))
structure SeC (K : PySem.W.Frag) (B : Addr) (cs : List Str) : Prop where
  ex : PySem.W.excIn K B bmVE "ValueError.__new__" = true
  kp : PySem.W.keepIn K (.ref B) = true
  sb : PySem.W.subIn K (.ref B) (.type "BaseException") = some true
  ty : PySem.W.typeIn K (.ref B) = some (.type "type")
  xf : XfC' K B
  ki : ∀ D ∈ cs, PySem.W.kitOne K (.ref B) (.ref (He.ga K D)) = some false
theorem seB_ok {K : PySem.W.Frag} {B : Addr} {cs : List Str} (h : seB K B cs = true) : SeC K B cs := by
  unfold seB at h
  simp only [Bool.and_eq_true, decide_eq_true_eq, List.all_eq_true] at h
  obtain ⟨h1, h2, h3, h4, h5, h6, h7, h8, h9, h10, h11, h12⟩ := h
  exact ⟨h1, h2, h3, h4, ⟨h5, h6, h3, h7, h8, h9, h10, h11⟩, h12⟩
/-- B('text') -/
theorem pmk_bare {X : Cx} {x m : Str} {j : Nat} {p p2 pos : Pos} {cs : List Str} (S : seB X.K (He.ga X.K x) cs = true) (gC : X.mg x = some (.ref (He.ga X.K x))) (hg : Gl X x := by rfl) (hdb : (x == ("__debug__" : Str)) = false := by decide) :
    L2N.PMk X (.Call (.Name x p) [.Constant (.str m) j p2] [] pos) (fun _ H Q => Q (.ref (He.ga X.K x)) none H) := by
  have s := seB_ok S
  exact L2N.pmk_own F.excBase_ValueError s.ex gC s.kp (raises_own s.sb s.ty) hg hdb
theorem pe_fn0 {X : Cx} {x : Str} {k : Nat} {sp : Sp} {p pos : Pos} (F : Fn X.prog X.w X.K X.mg X.base x k [] sp) (hr : Room k X.A) (hg : Gl X x := by rfl) (hdb : (x == ("__debug__" : Str)) = false := by decide) : PE X (.Call (.Name x p) [] [] pos) (tCall sp [] E0 tNil) := by
  obtain ⟨f, fd, F1, hm, hk, hb⟩ := F.ex
  exact pe_call0 F1 hr hg hm hk hb .nil pass0 hdb
section
variable {X : Cx} {K : PySem.W.Frag} {x : Str} {e : Expr} {kws : List Keyword} {t : TA} {p pos : Pos}
theorem pmkXc (eK : X.K = K) (G : Xc X.prog X.w X.K X.mg X.base x) (hr : Room 2 X.A) (ha : PA X [e] t) (hg : Gl X x := by rfl) (hdb : (x == ("__debug__" : Str)) = false := by decide)
    (he : starEach [e] X.env = (false, eval e X.env) :: starEach [] X.env := by rfl) (hpl : (backTo pos (starEach [] X.env)).any (·.1) = false := by rfl) : L2N.PMk X (.Call (.Name x p) [e] [] pos) (tXc K x t) := by
  subst eK
  exact pmk_xc G hr ha hg hdb he hpl
theorem pmkXcK (eK : X.K = K) (G : Xc X.prog X.w X.K X.mg X.base x) (hr : Room 2 X.A) (hkw : PK X kws t) (hg : Gl X x := by rfl) (hdb : (x == ("__debug__" : Str)) = false := by decide)
    (hall : (backToKw pos (keywordEach kws X.env)).all (·.1.isSome) = true := by rfl) (hks : (backToKw pos (keywordEach kws X.env)).filterMap (·.1) = [("value" : Str)] := by rfl)
    (hpl : ((backTo pos (starEach [] X.env)).any (·.1) || (backToKw pos (keywordEach kws X.env)).any (·.1.isNone)) = false := by rfl) : L2N.PMk X (.Call (.Name x p) [] kws pos) (tXc K x t) := by
  subst eK
  exact pmk_xcK G hr hkw hg hdb hall hks hpl
theorem pmkBare {m : Str} {j : Nat} {p2 : Pos} {cs : List Str} (eK : X.K = K) (S : seB K (He.ga K x) cs = true) (gC : X.mg x = some (.ref (He.ga K x))) (hg : Gl X x := by rfl) (hdb : (x == ("__debug__" : Str)) = false := by decide) :
    L2N.PMk X (.Call (.Name x p) [.Constant (.str m) j p2] [] pos) (fun _ H Q => Q (.ref (He.ga K x)) none H) := by
  subst eK
  exact pmk_bare S gC hg hdb
end
/-- a text times an int -/
theorem op_repStr {X : Cx} : OpR X (binaryOp .Mult) (fun x y H Q => ∃ i k, x = .str i ∧ y = .int k ∧ i.length ≤ 16 ∧ 0 ≤ k ∧ k ≤ 1000 ∧ Q (.str (Txt.mul i k)) H) := by
  intro pins s σ H x y v u Q I rx ry h
  obtain ⟨i, k, rfl, rfl, hz, k0, k1, q⟩ := h
  obtain ⟨t, rfl⟩ := rx
  obtain ⟨t', rfl⟩ := ry
  exact SB.mul (mulOk_of 16 1000 hz (by omega) (by omega) (by decide) (by decide)) fun t' tk => ⟨.str (Txt.mul i k), H, I.tok _, ⟨_, rfl⟩, q⟩
end Sk
/-! the head's facts, the statics' dict among what is read -/
namespace Sk
open PySem PySem.Spec PyProof.Rows L2 He
def frC (g : Addr → Option Obj) (n : Nat) : PySem.W.Frag := frT g (asD g n ++ [cStatics])
def obsC (n : Nat) (fa : List Fa) (fn : List DefD) (tf : List Defn) (ex : PySem.W.Frag → Bool) (g : Addr → Option Obj) : AlX := (obsT fa fn [] (frC g n), ex (frC g n) && tabsB g tf (frC g n))
section
variable {n : Nat} {fa : List Fa} {fn : List DefD} {tf : List Defn} {ex : PySem.W.Frag → Bool} {w : World} {h : Heap}
theorem frC_in : (frC h.get? n).In h := frT_in
theorem saysC_of (e : obsC n fa fn tf ex h.get? = valX fn [] w) : SaysX fa fn [] tf ex w h (frC h.get? n) := by
  obtain ⟨h1, h2⟩ := Bool.and_eq_true_iff.mp (show (ex (frC h.get? n) && tabsB h.get? tf (frC h.get? n)) = true from congrArg Prod.snd e)
  have key : ∀ p ∈ tf, PySem.W.codeHdIn (frC h.get? n) (cT (frC h.get? n) p).1 (cT (frC h.get? n) p).2 = true ∧ ∃ o, h.get? (cT (frC h.get? n) p).2 = some o ∧ emptyTab o = true := by
    intro p hp
    obtain ⟨k1, k2⟩ := Bool.and_eq_true_iff.mp (List.all_eq_true.mp h2 p hp)
    refine ⟨k1, ?_⟩
    split at k2
    · exact ⟨_, ‹_›, k2⟩
    · cases k2
  refine ⟨congrArg Prod.fst e, h1, fun p hp => (key p hp).1, fun p hp => ?_, fun p hp => ?_⟩
  · obtain ⟨_, o, q, z⟩ := key p hp
    exact frT_none q z
  · obtain ⟨_, o, q, z⟩ := key p hp
    rw [q, emptyTab_eq z]
end
def hookC (n : Nat) (fa : List Fa) (fn : List DefD) (tf : List Defn) (ex : PySem.W.Frag → Bool) : PySem.W.Hook where
  α := AlX
  obs := fun s => obsC n fa fn tf ex s.heap.get?
  val := fun w => valX fn [] w
  says := fun w h => ∃ K : PySem.W.Frag, K.In h ∧ SaysX fa fn [] tf ex w h K
  of := fun _ _ e => ⟨_, frC_in, saysC_of e⟩
  keeps := fun _ _ _ ⟨K, hK, c⟩ k => ⟨K, PySem.W.Frag.In.keeps hK k, ⟨c.t, c.more, c.hd, c.out, fun p hp => k _ _ (c.empty p hp)⟩⟩
theorem obsC_eq {n : Nat} {fa : List Fa} {fn : List DefD} {tf : List Defn} {ex : PySem.W.Frag → Bool} {g : Addr → Option Obj} {s : Shared} (h : ∀ a, g a = s.heap.get? a) : obsC n fa fn tf ex g = (hookC n fa fn tf ex).obs s := by
  obtain rfl : g = s.heap.get? := funext h
  rfl
end Sk
namespace Sk
open PySem PySem.Spec PyProof.Rows L2
def topS (i : Nat) : Stmt := PySem.Challenge.pw_splitstock_k42_invalid_number_texts.main.body.getD i (.Pass ⟨0, 0, 0, 0⟩)
abbrev FnP (K : PySem.W.Frag) (x : Str) (st : Stmt) (f : Addr) (fd : FuncData) : Prop := FunD K x x (defArgs st) (defBody st) (defScope st) [] [] f fd
structure Tx (K : PySem.W.Frag) (mg : Str → Option Value) : Prop where
  c_COLON : ∃ t, mg "COLON" = some (.str ":" t)
  c_DIGITS : ∃ t, mg "DIGITS" = some (.str "0123456789" t)
  c_LETTERS : ∃ t, mg "LETTERS" = some (.str "abcdefghijklmnopqrstuvwxyz" t)
  c_MOST_DIGITS : ∃ t, mg "MOST_DIGITS" = some (.int 60 t)
  c_MOST_LETTERS : ∃ t, mg "MOST_LETTERS" = some (.int 8 t)
  c_NOTHING : ∃ t, mg "NOTHING" = some (.str "-" t)
  c_SPACE : ∃ t, mg "SPACE" = some (.str " " t)
  n_ValueError : mg "ValueError" = none
  n_abs : mg "abs" = none
  n_all : mg "all" = none
  n_any : mg "any" = none
  n_bool : mg "bool" = none
  n_dict : mg "dict" = none
  n_enumerate : mg "enumerate" = none
  n_int : mg "int" = none
  n_isinstance : mg "isinstance" = none
  n_len : mg "len" = none
  n_list : mg "list" = none
  n_max : mg "max" = none
  n_min : mg "min" = none
  n_range : mg "range" = none
  n_repr : mg "repr" = none
  n_reversed : mg "reversed" = none
  n_set : mg "set" = none
  n_sorted : mg "sorted" = none
  n_str : mg "str" = none
  n_sum : mg "sum" = none
  n_tuple : mg "tuple" = none
  n_type : mg "type" = none
  n_zip : mg "zip" = none
  g_InvalidCatalogue : mg "InvalidCatalogue" = some (.ref (He.ga K "InvalidCatalogue"))
  g_InvalidNumber : mg "InvalidNumber" = some (.ref (He.ga K "InvalidNumber"))
  g_InvalidSplits : mg "InvalidSplits" = some (.ref (He.ga K "InvalidSplits"))
  g_InvalidStep : mg "InvalidStep" = some (.ref (He.ga K "InvalidStep"))
  g_InvalidStock : mg "InvalidStock" = some (.ref (He.ga K "InvalidStock"))
  g_InvalidText : mg "InvalidText" = some (.ref (He.ga K "InvalidText"))
  g_StoreError : mg "StoreError" = some (.ref (He.ga K "StoreError"))
  g_TooManySteps : mg "TooManySteps" = some (.ref (He.ga K "TooManySteps"))
  xb_InvalidText : XcB K (He.ga K "InvalidText")
  sb : SbB K (He.ga K "StoreError")
  ke : kiAll K ["InvalidCatalogue", "InvalidStock", "InvalidSplits", "InvalidStep", "InvalidNumber", "TooManySteps", "InvalidText"] "StoreError" = true
end Sk
namespace Sk
open PySem PySem.Spec PyProof.Rows L2
abbrev s_InvalidText___init__ : Stmt := inClass (topS 8) 0
abbrev N_InvalidText___init__ : List Str := ["self", "value"]
theorem sc_InvalidText___init__ : FnScope N_InvalidText___init__ ["self", "value"] (defScope s_InvalidText___init__) := ⟨rfl, rfl, rfl, by decide +kernel, rfl, by decide +kernel, by decide +kernel⟩
abbrev sp_InvalidText___init__ (Tb : List (Addr × Str)) (K : PySem.W.Frag) : Sp := xinit (He.ga K "InvalidText")
section
variable {P : Program} {w : World} {K : PySem.W.Frag} {mg : Str → Option Value} {base : Heap} {Tb : List (Addr × Str)}
theorem ok_InvalidText___init__ {f : Addr} {fd : FuncData} (F : FunD K "__init__" "InvalidText.__init__" (defArgs s_InvalidText___init__) (defBody s_InvalidText___init__) (defScope s_InvalidText___init__) [] [] f fd) (T : Tx K mg) : FnOk P w K mg base CX0 1 f fd ["self", "value"] (sp_InvalidText___init__ Tb K) := by
  refine F.ok sc_InvalidText___init__ (fun vs H Q E h => ?_) (fun cdv A outer s H vs Q E hr h => ?_)
  · obtain ⟨_, _, rfl, _⟩ := h
    rfl
  · obtain ⟨a, v, rfl, ea, k⟩ := h
    refine ⟨_, PSs.nox (pss_cons (ps_expr (pe_obinit T.sb T.g_StoreError (pa_cons (pv 0) (pa_cons pe_str pa_nil)))) (pss_one (ps_ost (pv 0) (pv 1)))), ?_⟩
    exact ⟨_, rfl, a, He.ga K "InvalidText", [.str _], rfl, by decide, T.xb_InvalidText.ox, ea, _, rfl, _, rfl, a, He.ga K "InvalidText", rfl, T.xb_InvalidText.ox, T.xb_InvalidText.nv, .inl ⟨ea, k⟩⟩
end
end Sk
namespace Sk
open PySem PySem.Spec PyProof.Rows L2
abbrev s_is_name : Stmt := topS 12
abbrev N_is_name : List Str := ["text", "sign"]
theorem sc_is_name : FnScope N_is_name ["text"] (defScope s_is_name) := ⟨rfl, rfl, rfl, by decide +kernel, rfl, by decide +kernel, by decide +kernel⟩
def letters : Str := "abcdefghijklmnopqrstuvwxyz"
/-- a name of one to eight small letters -/
def nameB (x : Str) : Bool := decide (1 ≤ x.length) && (decide (x.length ≤ 8) && x.cps.toList.all fun c => decide (c ∈ letters.cps.toList))
def sp_is_name (Tb : List (Addr × Str)) (K : PySem.W.Frag) : Sp := fun vs H Q _ => ∃ x : Str, vs = [.str x] ∧ x.length ≤ 1000000 ∧ ∀ H', Gr Tb H H' → Q (.bl (nameB x)) H'
section
variable {P : Program} {w : World} {K : PySem.W.Frag} {mg : Str → Option Value} {base : Heap} {Tb : List (Addr × Str)}
theorem ok_is_name {f : Addr} {fd : FuncData} (F : FnP K "is_name" s_is_name f fd) (T : Tx K mg) : FnOk P w K mg base CX0 1 f fd ["text"] (sp_is_name Tb K) := by
  refine F.ok sc_is_name (fun vs H Q E h => ?_) (fun cdv A outer s H vs Q E hr h => ?_)
  · obtain ⟨_, rfl, _⟩ := h
    rfl
  · obtain ⟨x, rfl, hz, k⟩ := h
    refine ⟨_, PSs.nox (pss_one (ps_ret (pe_and (pe_chain op_le op_le pe_int (pe_callB call_len_str (by rfl) T.n_len (by decide +kernel) (pa_cons (pv 0) pa_nil)) (pe_gi T.c_MOST_LETTERS)) (pe_one (pe_callB (crAll (K := K) rfl rfl) (by rfl) T.n_all (by decide +kernel) (pa_cons (pe_lc (own := [("sign", 1)]) (g := (gName 1)) (tt := tYes) rfl sc_is_name.nd (pi_str (pv 0)) (blkOk_by (N := N_is_name) (sc := (defScope s_is_name)) (by decide +kernel)) (fun _ _ _ _ _ => (pg_name (i := 1) sc_is_name.nd rfl (Or.inl rfl))) (fun _ _ _ _ _ => pts_nil) (fun _ _ _ _ _ => (pe_cmpR op_in_sign (pv 1) (pe_gs T.c_LETTERS) rfl))) pa_nil)))))), ?_⟩
    refine ⟨_, rfl, x, rfl, Nat.le_trans hz (by decide), _, _, rfl, rfl, _, rfl, ?_⟩
    have k0 : ∀ b : Bool, nameB x = b → Q (.bl b) H := fun b e => by
      rw [← e]
      exact k H (Gr.refl H)
    refine ite2 (fun h1 => ?_) (fun h1 => ⟨_, rfl, iteF (k0 false ?_)⟩)
    · refine ⟨_, _, rfl, rfl, _, rfl, ite2 (fun h2 => ?_) (fun h2 => k0 false ?_)⟩
      · refine rd_allIn (Tb := Tb) rfl rfl (by show 1 < 2; decide) hz fun H' g => ?_
        have e : (x.cps.toList.all fun c => decide (c ∈ letters.cps.toList)) = nameB x := by
          unfold nameB
          rw [decide_eq_true (show 1 ≤ x.length by have := of_decide_eq_true h1; omega), decide_eq_true (show x.length ≤ 8 by have := of_decide_eq_true h2; omega)]
          rfl
        show Q (.bl (x.cps.toList.all fun c => decide (c ∈ letters.cps.toList))) H'
        rw [e]
        exact k H' g
      · have : ¬ x.length ≤ 8 := fun z => h2 (decide_eq_true (show (x.length : Int) ≤ 8 by omega))
        unfold nameB
        rw [decide_eq_false this]
        simp
    · have : ¬ 1 ≤ x.length := fun z => h1 (decide_eq_true (show (1 : Int) ≤ x.length by omega))
      unfold nameB
      rw [decide_eq_false this]
      rfl
end
end Sk
namespace Sk
open PySem PySem.Spec PyProof.Rows L2
abbrev s_read_positive : Stmt := topS 19
abbrev N_read_positive : List Str := ["word", "sign"]
theorem sc_read_positive : FnScope N_read_positive ["word"] (defScope s_read_positive) := ⟨rfl, rfl, rfl, by decide +kernel, rfl, by decide +kernel, by decide +kernel⟩
def digitsS : Str := "0123456789"
/-- the positive number that a word writes -/
def posW (w : Str) : Option Int := if 0 < w.length ∧ w.length ≤ 60 ∧ (w.cps.toList.all fun c => decide (c ∈ digitsS.cps.toList)) = true ∧ w.cps.toList.head? ≠ some 48 then some (NumText.digitsVal w.cps.toList : Nat) else none
def sp_read_positive (Tb : List (Addr × Str)) (K : PySem.W.Frag) : Sp := fun vs H Q _ => ∃ (w : Str), vs = [.str w] ∧ w.length ≤ 1000000 ∧ ∀ H', Gr Tb H H' → Q (optV (posW w)) H'
theorem hu65 {k : Nat} {A : Around} (hr : Room k A) : A.units + 65 < cLine := by
  have := hr.un
  omega
open TL in
theorem head_num : ∀ n : Nat, 0 < n → (numL n).head? ≠ some 48 := by
  intro n
  induction n using Nat.strongRecOn with
  | ind n ih =>
    intro h
    rcases Nat.lt_or_ge n 10 with h1 | h1
    · rw [numL_lt h1]
      intro z
      have z2 : 48 + n = 48 := Option.some.inj z
      omega
    · rw [numL_step h1]
      have h2 := ih (n / 10) (Nat.div_lt_self h (by decide)) (Nat.div_pos h1 (by decide))
      cases hq : numL (n / 10) with
      | nil => exact absurd hq (numL_ne _)
      | cons c cs =>
        rw [hq] at h2
        exact h2
open TL in
theorem posW_num {i : Int} (h0 : 0 < i) (h1 : i < 10 ^ 60) : posW (Str.ofString (toString i)) = some i := by
  obtain ⟨n, rfl⟩ := Int.eq_ofNat_of_zero_le (Int.le_of_lt h0)
  have n0 : 0 < n := by omega
  have n1 : n < 10 ^ 60 := by omega
  have e : (Str.ofString (toString (n : Int))).cps.toList = numL n := tl_num n
  have hl := numL_len (k := 60) (by decide) n1
  have hl2 : (Str.ofString (toString (n : Int))).length = (numL n).length := by
    rw [← e, Array.length_toList]
    rfl
  have hne := numL_ne n
  have cnd : 0 < (Str.ofString (toString (n : Int))).length ∧ (Str.ofString (toString (n : Int))).length ≤ 60 ∧ ((Str.ofString (toString (n : Int))).cps.toList.all fun c => decide (c ∈ digitsS.cps.toList)) = true ∧ (Str.ofString (toString (n : Int))).cps.toList.head? ≠ some 48 := by
    refine ⟨by rw [hl2]; exact List.length_pos_iff.mpr hne, by rw [hl2]; exact hl, ?_, by rw [e]; exact head_num n n0⟩
    rw [e, List.all_eq_true]
    intro c hc
    have h2 := numL_digits n c hc
    have h3 : ∀ k, k < 10 → decide (48 + k ∈ digitsS.cps.toList) = true := by decide +kernel
    have h4 := h3 (c - 48) (by omega)
    rw [show 48 + (c - 48) = c by omega] at h4
    exact h4
  unfold posW
  rw [if_pos cnd, e, numL_val]
theorem name_signs {x : Str} (h : nameB x = true) : ∀ c ∈ x.cps.toList, 97 ≤ c ∧ c ≤ 122 := fun c hc => by
  unfold nameB at h
  simp only [Bool.and_eq_true, decide_eq_true_eq, List.all_eq_true] at h
  have h2 : ∀ c ∈ letters.cps.toList, 97 ≤ c ∧ c ≤ 122 := by decide +kernel
  exact h2 c (h.2.2 c hc)
theorem name_len {x : Str} (h : nameB x = true) : x.length ≤ 8 := by
  unfold nameB at h
  simp only [Bool.and_eq_true, decide_eq_true_eq] at h
  exact h.2.1
section
variable {P : Program} {w : World} {K : PySem.W.Frag} {mg : Str → Option Value} {base : Heap} {Tb : List (Addr × Str)}
theorem ok_read_positive {f : Addr} {fd : FuncData} (F : FnP K "read_positive" s_read_positive f fd) (T : Tx K mg) : FnOk P w K mg base CX0 1 f fd ["word"] (sp_read_positive Tb K) := by
  refine F.ok sc_read_positive (fun vs H Q E h => ?_) (fun cdv A outer s H vs Q E hr h => ?_)
  · obtain ⟨_, rfl, _⟩ := h
    rfl
  · obtain ⟨w, rfl, hz, k⟩ := h
    refine ⟨_, PSs.nox (pss_cons (ps_if (PW.pt (pw_or (pt_not (pt_chain op_lt op_le pe_int (pe_callB call_len_str (by rfl) T.n_len (by decide +kernel) (pa_cons (pv 0) pa_nil)) (pe_gi T.c_MOST_DIGITS))) (pw_or1 (pt_not (pt_val (pe_callB (crAll (K := K) rfl rfl) (by rfl) T.n_all (by decide +kernel) (pa_cons (pe_lc (own := [("sign", 1)]) (g := (gName 1)) (tt := tYes) rfl sc_read_positive.nd (pi_str (pv 0)) (blkOk_by (N := N_read_positive) (sc := (defScope s_read_positive)) (by decide +kernel)) (fun _ _ _ _ _ => (pg_name (i := 1) sc_read_positive.nd rfl (Or.inl rfl))) (fun _ _ _ _ _ => pts_nil) (fun _ _ _ _ _ => (pe_cmpR op_in_sign (pv 1) (pe_gs T.c_DIGITS) rfl))) pa_nil))))))) (pss_one (ps_ret pe_non)) pss_nil)
      (pss_one (ps_ret (pe_ifExp (pt_cmpR op_ne (pe_ix ix_str (pv 0) pe_int (fun _ _ => rfl)) pe_str (nomark _)) (pe_callTy call_int_str (by rfl) T.n_int (by decide +kernel) (pa_cons (pv 0) pa_nil)) pe_non)))), ?_⟩
    refine ⟨_, rfl, w, rfl, Nat.le_trans hz (by decide), _, _, rfl, rfl, _, rfl, ?_⟩
    have kN : posW w = none → ∀ H', Gr Tb H H' → Q .non H' := fun e H' g => by
      have := k H' g
      rw [e] at this
      exact this
    refine ite2 (fun h1 => ?_) (fun h1 => ?_)
    · have p1 : 0 < w.length := by have := of_decide_eq_true h1; omega
      refine ⟨_, _, rfl, rfl, _, rfl, ?_⟩
      dsimp only
      refine ite2 (fun h2 => ?_) (fun h2 => ?_)
      · refine kN ?_ H (Gr.refl H)
        unfold posW
        rw [if_neg fun z => ?_]
        have : (decide ((w.length : Int) ≤ 60)) = true := decide_eq_true (by omega)
        rw [this] at h2
        cases h2
      · have p2 : w.length ≤ 60 := by
          cases q : decide ((w.length : Int) ≤ 60) with
          | true => have := of_decide_eq_true q; omega
          | false => rw [q] at h2; exact absurd rfl h2
        refine rd_allIn (Tb := Tb) rfl rfl (by show 1 < 2; decide) hz fun H' g => ?_
        refine ⟨_, rfl, ?_⟩
        dsimp only
        refine ite2 (fun h3 => ?_) (fun h3 => ?_)
        · refine kN ?_ H' g
          unfold posW
          rw [if_neg fun z => ?_]
          have e : (w.cps.toList.all fun c => decide (c ∈ (Str.ofString "0123456789").cps.toList)) = true := z.2.2.1
          rw [e] at h3
          cases h3
        · have p3 : (w.cps.toList.all fun c => decide (c ∈ digitsS.cps.toList)) = true := by
            cases q : (w.cps.toList.all fun c => decide (c ∈ (Str.ofString "0123456789").cps.toList)) with
            | true => exact q
            | false => rw [q] at h3; exact absurd rfl h3
          obtain ⟨c0, cs, hcs⟩ : ∃ c0 cs, w.cps.toList = c0 :: cs := by
            cases q : w.cps.toList with
            | nil =>
              have : w.cps.toList.length = 0 := by rw [q]; rfl
              rw [Array.length_toList] at this
              have e : w.length = w.cps.size := rfl
              omega
            | cons c0 cs => exact ⟨c0, cs, rfl⟩
          refine ⟨_, rfl, w, _, c0, rfl, rfl, Nat.le_trans hz (by decide), by rw [hcs]; exact atI_nat (j := 0) rfl, rfl, _, rfl, ?_⟩
          have e48 : ∀ c : Nat, V.str ⟨#[c]⟩ = V.str (Str.ofString "0") → c = 48 := fun c z => by
            have z2 : (⟨#[c]⟩ : Str) = ⟨#[48]⟩ := V.str.inj z
            have z3 := congrArg (fun s : Str => s.cps.toList) z2
            simpa using z3
          refine ite2 (fun h4 => ?_) (fun h4 => ?_)
          · have n48 : c0 ≠ 48 := fun z => by
              rw [z, decide_eq_true (show V.str ⟨#[48]⟩ = V.str (Str.ofString "0") from rfl)] at h4
              cases h4
            have all : NumText.AllDigits w.cps.toList := fun c hc => by
              have h5 := List.all_eq_true.mp p3 c hc
              have h6 := of_decide_eq_true h5
              have h7 : ∀ c ∈ digitsS.cps.toList, 48 ≤ c ∧ c ≤ 57 := by decide +kernel
              exact h7 c h6
            refine ⟨_, rfl, w, _, rfl, PySem.intText_digits all (by rw [hcs]; simp) (by omega), by omega, ?_⟩
            have e := k H' g
            unfold posW at e
            rw [if_pos ⟨p1, p2, p3, by rw [hcs]; simpa using n48⟩] at e
            exact e
          · refine kN ?_ H' g
            have q : c0 = 48 := by
              cases q : decide (V.str ⟨#[c0]⟩ = V.str (Str.ofString "0")) with
              | true => exact e48 _ (of_decide_eq_true q)
              | false => rw [q] at h4; exact absurd rfl h4
            unfold posW
            rw [if_neg fun z => z.2.2.2 (by rw [hcs, q]; rfl)]
    · refine ⟨_, rfl, ?_⟩
      dsimp only
      refine kN ?_ H (Gr.refl H)
      unfold posW
      rw [if_neg fun z => h1 (decide_eq_true (by omega))]
end
end Sk
namespace Sk
open PySem PySem.Spec PyProof.Rows L2
abbrev s_read_number_of : Stmt := topS 20
abbrev N_read_number_of : List Str := ["word", "number", "name", "colon", "digits"]
theorem sc_read_number_of : FnScope N_read_number_of ["word"] (defScope s_read_number_of) := ⟨rfl, rfl, rfl, by decide +kernel, rfl, by decide +kernel, by decide +kernel⟩
/-- the name and the number that a word writes -/
def nowW (w : Str) : Option (Str × Int) := match posW (Txt.partition w (Str.ofString ":")).2.2 with
  | some i => if nameB (Txt.partition w (Str.ofString ":")).1 = true then some ((Txt.partition w (Str.ofString ":")).1, i) else none
  | none => none
def sp_read_number_of (Tb : List (Addr × Str)) (K : PySem.W.Frag) : Sp := fun vs H Q _ => ∃ (w : Str), vs = [.str w] ∧ w.length ≤ 1000000 ∧ (nowW w = none → ∀ H', Gr Tb H H' → Q .non H') ∧ ∀ q t H', nowW w = some q → Gr Tb H H' → Nw H t → H' t = some (.tup [.str q.1, .int q.2]) → Q (.ref t) H'
open TL in
theorem sub_len (x : Str) (i j : Nat) : (PySem.Builtin.Str.strSub x i j).length ≤ x.length := by
  rw [len_tl, len_tl, tl_strSub, List.length_take, List.length_drop]
  omega
theorem part_len (w y : Str) : (Txt.partition w y).1.length ≤ w.length ∧ (Txt.partition w y).2.2.length ≤ w.length := by
  rcases PyProof.Rows.partition_whole w y with ⟨e, _⟩ | ⟨i, e, _, _⟩
  · rw [e]
    exact ⟨Nat.le_refl _, Nat.zero_le _⟩
  · rw [e]
    exact ⟨sub_len _ _ _, sub_len _ _ _⟩
section
variable {P : Program} {w : World} {K : PySem.W.Frag} {mg : Str → Option Value} {base : Heap} {Tb : List (Addr × Str)}
theorem ok_read_number_of {f : Addr} {fd : FuncData} (F : FnP K "read_number_of" s_read_number_of f fd) (T : Tx K mg) (G_is_name : Fn P w K mg base "is_name" 1 ["text"] (sp_is_name Tb K)) (G_read_positive : Fn P w K mg base "read_positive" 1 ["word"] (sp_read_positive Tb K)) : FnOk P w K mg base CX0 2 f fd ["word"] (sp_read_number_of Tb K) := by
  refine F.ok sc_read_number_of (fun vs H Q E h => ?_) (fun cdv A outer s H vs Q E hr h => ?_)
  · obtain ⟨_, rfl, _⟩ := h
    rfl
  · obtain ⟨w, rfl, hz, k0, k1⟩ := h
    refine ⟨_, PSs.nox (pss_cons (ps_asg (pe_partition (pv 0) (pe_gs T.c_COLON)) (pg_tup rfl (pgs_cons (pg_name (i := 2) sc_read_number_of.nd rfl (Or.inl rfl)) (pgs_cons (pg_name (i := 3) sc_read_number_of.nd rfl (Or.inl rfl)) (pgs_cons (pg_name (i := 4) sc_read_number_of.nd rfl (Or.inl rfl)) pgs_nil)))))
      (pss_cons (ps_set (i := 1) sc_read_number_of.nd rfl (Or.inl rfl) (pe_fn G_read_positive (hr.mono (by decide)) (pa_cons (pv 4) pa_nil)))
      (pss_one (ps_ret (pe_ifExp (PW.pt (pw_and (pt_val (pe_fn G_is_name (hr.mono (by decide)) (pa_cons (pv 2) pa_nil))) (pw_and1 (pt_cmpR op_notN (pv 1) pe_non (nomark _))))) (pe_tup (pa_cons (pv 2) (pa_cons (pv 1) pa_nil))) pe_non))))), ?_⟩
    obtain ⟨z1, z2⟩ := part_len w (Str.ofString ":")
    refine ⟨_, rfl, ⟨_, rfl⟩, w, Str.ofString ":", rfl, rfl, by decide, Nat.le_trans hz (by decide), fun p hp => ?_⟩
    unfold nowW at k0 k1
    generalize Txt.partition w (Str.ofString ":") = pt at z1 z2 k0 k1
    obtain ⟨nm, cl, dg⟩ := pt
    dsimp only at z1 z2 k0 k1
    refine gtup3 upd_same ?_
    refine ⟨_, rfl, dg, rfl, by omega, fun H1 g1 => ?_⟩
    have g2 := (Gr.new (T := Tb) (o := .tup [.str nm, .str cl, .str dg]) hp).trans g1
    refine ⟨_, rfl, nm, rfl, by omega, fun H2 g3 => ⟨_, rfl, ?_⟩⟩
    have g4 := g2.trans g3
    cases hn : nameB nm with
    | false =>
      refine iteF ?_
      refine iteF (k0 ?_ H2 g4)
      rw [hn]
      cases posW dg <;> rfl
    | true =>
      rw [hn] at k0 k1
      refine iteT ⟨_, rfl, rfl, _, rfl, ?_⟩
      cases hp2 : posW dg with
      | none =>
        rw [hp2] at k0
        refine iteF (k0 rfl H2 g4)
      | some i =>
        rw [hp2] at k1
        refine iteT ⟨_, rfl, _, rfl, by show 2 ≤ sizeLine; decide, fun t ht => ?_⟩
        exact k1 (nm, i) t _ rfl (g4.trans (Gr.new ht)) (g4.nw (.of ht)) upd_same
end
end Sk
namespace Sk
open PySem PySem.Spec PyProof.Rows L2
abbrev s_read_numbers : Stmt := topS 21
abbrev N_read_numbers : List Str := ["text", "found", "names", "word", "name", "number"]
theorem sc_read_numbers : FnScope N_read_numbers ["text"] (defScope s_read_numbers) := ⟨rfl, rfl, rfl, by decide +kernel, rfl, by decide +kernel, by decide +kernel⟩
/-- the numbers that a text writes -/
def Reads (t : Str) (n : Num) : Prop := (t = Str.ofString "-" ∧ n = []) ∨ (t ≠ Str.ofString "-" ∧ (Txt.split t (Str.ofString " ")).map nowW = n.map some ∧ ∀ w ∈ Txt.split t (Str.ofString " "), w.length ≤ 1000000)
/-- the numbers that a text writes, their names in order -/
def Wrote (t : Str) (n : Num) : Prop := Reads t n ∧ sortedS (n.map (·.1)) = true ∧ (n.map (·.1)).Nodup
def sp_read_numbers (Tb : List (Addr × Str)) (K : PySem.W.Frag) : Sp := fun vs H Q E => ∃ t : Str, vs = [.str t] ∧ t.length ≤ 1000000 ∧ (Txt.split t (Str.ofString " ")).length < 64 ∧ (∀ n r H', Wrote t n → Gr Tb H H' → Nw H r → H' r = some (.dK (dS n)) → Q (.ref r) H') ∧
  ∀ dd H', (∀ n, ¬ Wrote t n) → Gr Tb H H' → H' dd = some (.xd [("value", .str t)]) → E (.ref (He.ga K "InvalidText")) (some dd) H'
theorem rising_pw : ∀ (r : List Str) (x : Str), risingS x r = true → (x :: r).Pairwise fun a b => a.cps.toList ≤ b.cps.toList
  | [], _, _ => List.pairwise_singleton ..
  | y :: r, x, h => by
    have h' : (!ltCps y.cps.toList x.cps.toList && risingS y r) = true := h
    rw [Bool.and_eq_true, ltCps_eq, Bool.not_eq_true', decide_eq_false_iff_not] at h'
    have h1 : x.cps.toList ≤ y.cps.toList := h'.1
    have ih := rising_pw r y h'.2
    refine List.pairwise_cons.mpr ⟨fun z hz => ?_, ih⟩
    rcases List.mem_cons.mp hz with rfl | hz
    · exact h1
    · exact List.le_trans h1 ((List.pairwise_cons.mp ih).1 z hz)
theorem sorted_pw {l : List Str} (h : sortedS l = true) : l.Pairwise fun a b => a.cps.toList ≤ b.cps.toList := by
  cases l with
  | nil => exact List.Pairwise.nil
  | cons x r => exact rising_pw r x h
theorem sorted_unique : ∀ {xs ys : List Str}, xs.Perm ys → (xs.Pairwise fun a b => a.cps.toList ≤ b.cps.toList) → (ys.Pairwise fun a b => a.cps.toList ≤ b.cps.toList) → xs = ys
  | [], ys, p, _, _ => (List.nil_perm.mp p).symm
  | x :: xs, [], p, _, _ => absurd p.length_eq (by simp)
  | x :: xs, y :: ys, p, ox, oy => by
    obtain ⟨x1, x2⟩ := List.pairwise_cons.mp ox
    obtain ⟨y1, y2⟩ := List.pairwise_cons.mp oy
    have e : x = y := by
      rcases List.mem_cons.mp (p.mem_iff.mp (List.mem_cons_self ..)) with e | hx
      · exact e
      · rcases List.mem_cons.mp (p.mem_iff.mpr (List.mem_cons_self ..)) with e | hy
        · exact e.symm
        · exact str_ext (List.le_antisymm (x1 y hy) (y1 x hx))
    subst e
    rw [sorted_unique ((List.perm_cons x).mp p) x2 y2]
theorem sorted_same {xs ys : List Str} (sx : sortedS xs = true) (sy : sortedS ys = true) (nx : xs.Nodup) (ny : ys.Nodup) (h : ∀ k, k ∈ ys ↔ k ∈ xs) : ys = xs :=
  sorted_unique ((List.perm_ext_iff_of_nodup ny nx).mpr h) (sorted_pw sy) (sorted_pw sx)
theorem now_name {w : Str} {q : Str × Int} (h : nowW w = some q) : nameB q.1 = true := by
  unfold nowW at h
  split at h
  · split at h
    · rename_i c
      cases h
      exact c
    · cases h
  · cases h
theorem reads_names {t : Str} {n : Num} (h : Reads t n) : ∀ q ∈ n, nameB q.1 = true := fun q hq => by
  rcases h with ⟨_, rfl⟩ | ⟨_, h, _⟩
  · cases hq
  · have : some q ∈ n.map some := List.mem_map.mpr ⟨q, hq, rfl⟩
    rw [← h] at this
    obtain ⟨w, _, e⟩ := List.mem_map.mp this
    exact now_name e
/-- rows as data -/
def rowsD (n : Num) : PyData := .list (n.map fun q => .tuple [.str q.1, .int q.2])
theorem dp_rows {K : PySem.W.Frag} {H : Hp} {r : Addr} {ts : List Addr} {d : Num} (h : H r = some (.lst (ts.map V.ref))) (p : Paired (fun (u : Addr) (q : Str × Int) => H u = some (.tup [.str q.1, .int q.2])) ts d) : Dp K H (.ref r) (rowsD d) := by
  refine .lst (SqL.of h) ?_
  clear h
  induction p with
  | nil => exact .nil
  | cons a _ ih => exact .cons (.tup (SqT.of a) (.cons (.str _) (.cons (.int _) .nil))) ih
theorem depth_rows (d : Num) : (rowsD d).depth ≤ 2 := by
  unfold rowsD
  rw [PyData.depth]
  have := depth_le (ds := d.map fun q => PyData.tuple [.str q.1, .int q.2]) (m := 1) (fun x hx => by
    obtain ⟨q, _, rfl⟩ := List.mem_map.mp hx
    simp [PyData.depth, PyData.depthAll])
  omega
theorem nameB_ok {x : Str} (h : nameB x = true) : PyData.strOk x = true := by
  unfold nameB at h
  simp only [Bool.and_eq_true, decide_eq_true_eq, List.all_eq_true] at h
  unfold PyData.strOk
  rw [← Array.all_toList, List.all_eq_true]
  intro c hc
  have h2 : ∀ c ∈ letters.cps.toList, decide (c < 0x110000) = true := by decide +kernel
  exact h2 c (h.2.2 c hc)
theorem shaped_rows {d : Num} (h : ∀ q ∈ d, nameB q.1 = true) : SeqAt.shaped (rowsD d) = true := by
  have key : ∀ l : Num, (∀ q ∈ l, nameB q.1 = true) → PyData.canLayAll0 (l.map fun q => PyData.tuple [.str q.1, .int q.2]) = true := by
    intro l
    induction l with
    | nil => intro _; simp only [List.map_nil, PyData.canLayAll0]
    | cons q l ih =>
      intro hl
      rw [List.map_cons, PyData.canLayAll0, ih fun z hz => hl z (List.mem_cons_of_mem _ hz)]
      simp only [PyData.canLay0, PyData.canLayAll0, nameB_ok (hl q (List.mem_cons_self ..)), Bool.and_self]
  unfold SeqAt.shaped
  rw [Bool.and_eq_true]
  refine ⟨?_, decide_eq_true (Nat.le_trans (depth_rows d) (by decide))⟩
  unfold rowsD
  rw [PyData.canLay0]
  exact key d h
theorem shaped_strs {ns : List Str} (h : ∀ x ∈ ns, nameB x = true) : SeqAt.shaped (.list (ns.map PyData.str)) = true := by
  have key : ∀ l : List Str, (∀ x ∈ l, nameB x = true) → PyData.canLayAll0 (l.map PyData.str) = true := by
    intro l
    induction l with
    | nil => intro _; simp only [List.map_nil, PyData.canLayAll0]
    | cons q l ih =>
      intro hl
      rw [List.map_cons, PyData.canLayAll0, ih fun z hz => hl z (List.mem_cons_of_mem _ hz)]
      simp only [PyData.canLay0, nameB_ok (hl q (List.mem_cons_self ..)), Bool.and_self]
  unfold SeqAt.shaped
  rw [Bool.and_eq_true]
  refine ⟨?_, decide_eq_true (Nat.le_trans (depth_strs ns) (by decide))⟩
  rw [PyData.canLay0]
  exact key ns h
theorem none_rows (d : Num) : ((d.map fun q => PyData.tuple [.str q.1, .int q.2]).any fun z => PyData.eqv z .none) = false := by
  rw [List.any_eq_false]
  intro z hz
  obtain ⟨q, _, rfl⟩ := List.mem_map.mp hz
  simp [PyData.eqv]
theorem rows_sq {Tb : List (Addr × Str)} {K : PySem.W.Frag} {H H' : Hp} (g : Gr Tb H H') : ∀ {ts : List Addr} {n : Num}, Paired (fun (u : Addr) (q : Str × Int) => H u = some (.tup [.str q.1, .int q.2])) ts n → Paired (fun (t : Addr) (kv : Key × V) => SqT K H' t [kV kv.1, kv.2]) ts (dS n)
  | _, _, .nil => .nil
  | _, _, .cons a t => .cons (SqT.of (g.at a .tup)) (rows_sq g t)
theorem map_some : ∀ {n n' : Num}, n.map some = n'.map some → n = n'
  | [], [], _ => rfl
  | [], _ :: _, h => by cases h
  | _ :: _, [], h => by cases h
  | q :: n, q' :: n', h => by
    rw [List.map_cons, List.map_cons] at h
    injection h with h1 h2
    injection h1 with h1
    rw [h1, map_some h2]
theorem Reads.uniq {t : Str} {n n' : Num} (h : Reads t n) (h' : Reads t n') : n = n' := by
  rcases h with ⟨a, rfl⟩ | ⟨a, b, _⟩
  · rcases h' with ⟨_, rfl⟩ | ⟨c, _⟩
    · rfl
    · exact absurd a c
  · rcases h' with ⟨c, _⟩ | ⟨_, d, _⟩
    · exact absurd c a
    · exact map_some (b.symm.trans d)
/-- what a word stands for -/
def optRow : Option (Str × Int) → PyData
  | none => .none
  | some q => .tuple [.str q.1, .int q.2]
/-- the rows that a text writes, none for a word that is no number -/
def ReadsO (t : Str) (os : List (Option (Str × Int))) : Prop := (t = Str.ofString "-" ∧ os = []) ∨ (t ≠ Str.ofString "-" ∧ (Txt.split t (Str.ofString " ")).map nowW = os)
theorem split_part_len (t : Str) : ∀ w ∈ Txt.split t (Str.ofString " "), w.length ≤ t.length := fun _ h => part_short h
theorem ReadsO.good {t : Str} {n : Num} (h : ReadsO t (n.map some)) (hz : t.length ≤ 1000000) : Reads t n := by
  rcases h with ⟨a, b⟩ | ⟨a, b⟩
  · exact .inl ⟨a, List.map_eq_nil_iff.mp b⟩
  · exact .inr ⟨a, b, fun w hw => Nat.le_trans (split_part_len t w hw) hz⟩
theorem ReadsO.bad {t : Str} {os : List (Option (Str × Int))} (h : ReadsO t os) (hn : none ∈ os) : ∀ n, ¬ Wrote t n := by
  rintro n ⟨g, -, -⟩
  rcases h with ⟨_, rfl⟩ | ⟨a, rfl⟩
  · cases hn
  · rcases g with ⟨z, _⟩ | ⟨_, b, _⟩
    · exact a z
    · rw [b] at hn
      obtain ⟨q, _, e⟩ := List.mem_map.mp hn
      cases e
theorem all_some : ∀ {os : List (Option (Str × Int))}, none ∉ os → ∃ n : Num, os = n.map some
  | [], _ => ⟨[], rfl⟩
  | none :: _, h => absurd (List.mem_cons_self ..) h
  | some q :: os, h => by
    obtain ⟨n, rfl⟩ := all_some fun z => h (List.mem_cons_of_mem _ z)
    exact ⟨q :: n, rfl⟩
theorem shaped_opt {os : List (Option (Str × Int))} (h : ∀ q, some q ∈ os → nameB q.1 = true) : SeqAt.shaped (.list (os.map optRow)) = true := by
  have key : ∀ l : List (Option (Str × Int)), (∀ q, some q ∈ l → nameB q.1 = true) → PyData.canLayAll0 (l.map optRow) = true := by
    intro l
    induction l with
    | nil => intro _; simp only [List.map_nil, PyData.canLayAll0]
    | cons q l ih =>
      intro hl
      rw [List.map_cons, PyData.canLayAll0, ih fun z hz => hl z (List.mem_cons_of_mem _ hz)]
      cases q with
      | none => simp only [optRow, PyData.canLay0, Bool.and_self]
      | some q => simp only [optRow, PyData.canLay0, PyData.canLayAll0, nameB_ok (hl q (List.mem_cons_self ..)), Bool.and_self]
  unfold SeqAt.shaped
  rw [Bool.and_eq_true]
  refine ⟨?_, decide_eq_true ?_⟩
  · rw [PyData.canLay0]
    exact key os h
  · rw [PyData.depth]
    have := depth_le (ds := os.map optRow) (m := 1) (fun x hx => by
      obtain ⟨q, _, rfl⟩ := List.mem_map.mp hx
      cases q <;> simp [optRow, PyData.depth, PyData.depthAll])
    exact Nat.le_trans (by omega : _ ≤ 2) (by decide)
theorem none_opt (os : List (Option (Str × Int))) : ((os.map optRow).any fun z => PyData.eqv z .none) = true ↔ none ∈ os := by
  rw [List.any_eq_true]
  constructor
  · rintro ⟨x, hx, e⟩
    obtain ⟨q, hq, rfl⟩ := List.mem_map.mp hx
    cases q with
    | none => exact hq
    | some q => simp [optRow, PyData.eqv] at e
  · intro h
    exact ⟨.none, List.mem_map.mpr ⟨none, h, rfl⟩, by simp [PyData.eqv]⟩
theorem eqvAll_strs : ∀ xs ys : List Str, PyData.eqvAll (xs.map PyData.str) (ys.map PyData.str) = true ↔ xs = ys
  | [], [] => by simp [PyData.eqvAll]
  | [], y :: ys => by simp [PyData.eqvAll]
  | x :: xs, [] => by simp [PyData.eqvAll]
  | x :: xs, y :: ys => by
    rw [List.map_cons, List.map_cons, PyData.eqvAll, Bool.and_eq_true, eqvAll_strs xs ys]
    simp [PyData.eqv]
/-- a row in a heap -/
def RowAt (H : Hp) (v : V) (o : Option (Str × Int)) : Prop := (o = none ∧ v = .non) ∨ ∃ q u, o = some q ∧ v = .ref u ∧ H u = some (.tup [.str q.1, .int q.2])
theorem dp_opt {K : PySem.W.Frag} {H : Hp} {r : Addr} {vs : List V} {os : List (Option (Str × Int))} (h : H r = some (.lst vs)) (p : Paired (RowAt H) vs os) : Dp K H (.ref r) (.list (os.map optRow)) := by
  refine .lst (SqL.of h) ?_
  clear h
  induction p with
  | nil => exact .nil
  | cons a _ ih =>
    refine .cons ?_ ih
    rcases a with ⟨rfl, rfl⟩ | ⟨q, u, rfl, rfl, hu⟩
    · exact .non
    · exact .tup (SqT.of hu) (.cons (.str _) (.cons (.int _) .nil))
theorem rows_some {H : Hp} : ∀ {vs : List V} {n : Num}, Paired (RowAt H) vs (n.map some) → ∃ ts : List Addr, vs = ts.map V.ref ∧ Paired (fun (u : Addr) (q : Str × Int) => H u = some (.tup [.str q.1, .int q.2])) ts n
  | _, [], .nil => ⟨[], rfl, .nil⟩
  | _, q :: n, .cons a t => by
    obtain ⟨ts, rfl, h⟩ := rows_some t
    rcases a with ⟨z, _⟩ | ⟨q', u, e, rfl, hu⟩
    · cases z
    · cases e
      exact ⟨u :: ts, rfl, .cons hu h⟩
section
variable {P : Program} {w : World} {K : PySem.W.Frag} {mg : Str → Option Value} {base : Heap} {Tb : List (Addr × Str)}
theorem ok_read_numbers {f : Addr} {fd : FuncData} (F : FnP K "read_numbers" s_read_numbers f fd) (T : Tx K mg) (XC_InvalidText : Xc P w K mg base "InvalidText") (G_read_number_of : Fn P w K mg base "read_number_of" 2 ["word"] (sp_read_number_of Tb K)) : FnOk P w K mg base (L2N.CX P w) 3 f fd ["text"] (sp_read_numbers Tb K) := by
  refine F.ok (CX := L2N.CX P w) sc_read_numbers (fun vs H Q E h => ?_) (fun cdv A outer s H vs Q E hr h => ?_)
  · obtain ⟨_, rfl, _⟩ := h
    rfl
  · obtain ⟨t, rfl, hz, hw, k, ke⟩ := h
    refine ⟨_, (pss_cons (ps_set (i := 1) sc_read_numbers.nd rfl (Or.inl rfl) (pe_ifExp (pt_cmpR op_ne (pv 0) (pe_gs T.c_NOTHING) (nomark _)) (pe_lc (own := [("word", 3)]) (g := (gName 3)) (tt := tYes) rfl sc_read_numbers.nd (piL (K := K) rfl (pe_split (pv 0) (pe_gs T.c_SPACE))) (blkOk_by (N := N_read_numbers) (sc := (defScope s_read_numbers)) (by decide +kernel)) (fun _ _ _ _ _ => (pg_name (i := 3) sc_read_numbers.nd rfl (Or.inl rfl))) (fun _ _ _ _ _ => pts_nil) (fun _ _ _ _ _ => (pe_fn G_read_number_of (hr.mono (by decide)) (pa_cons (pv 3) pa_nil)))) (pe_lst pa_nil)))
      (pss_cons (ps_if (pt_cmpR (op_inD (hu65 hr)) pe_non (pv 1) (by with_unfolding_all rfl)) (pss_one (L2N.ps_raise rfl (L2N.takes_of rfl rfl rfl rfl) (pmk_xc XC_InvalidText (hr.mono (by decide)) (pa_cons (pv 0) pa_nil)))) pss_nil)
      (pss_cons (ps_setLc (i := 2) (own := [("name", 4), ("number", 5)]) (g := (gTup K 2 (gCons (gName 4) (gCons (gName 5) gNil)))) (tt := tYes) rfl sc_read_numbers.nd rfl rfl (sw_true rfl rfl rfl (by decide +kernel)) (piL (K := K) rfl (pv 1)) (blkOk_by (N := N_read_numbers) (sc := (defScope s_read_numbers)) (by decide +kernel)) (fun _ _ _ _ _ => (pg_tup rfl (pgs_cons (pg_name (i := 4) sc_read_numbers.nd rfl (Or.inl rfl)) (pgs_cons (pg_name (i := 5) sc_read_numbers.nd rfl (Or.inl rfl)) pgs_nil)))) (fun _ _ _ _ _ => pts_nil) (fun _ _ _ _ _ => (pv 4)))
      (pss_cons (ps_if (pt_cmpR (opNeD (K := K) rfl hr.units) (pv 2) (pe_callB (cr_sortTx rfl rfl) (by rfl) T.n_sorted (by decide +kernel) (pa_cons (pe_callTy (cr_setTx (K := K) rfl rfl rfl) (by rfl) T.n_set (by decide +kernel) (pa_cons (pv 2) pa_nil)) pa_nil)) (nomark _)) (pss_one (L2N.ps_raise rfl (L2N.takes_of rfl rfl rfl rfl) (pmk_xc XC_InvalidText (hr.mono (by decide)) (pa_cons (pv 0) pa_nil)))) pss_nil)
      (pss_one (ps_ret (pe_callTy (dictP (K := K) rfl rfl) (by rfl) T.n_dict (by decide +kernel) (pa_cons (pv 1) pa_nil)))))))), ?_⟩
    -- found
    refine sq_asg (fun x H1 => ∃ (r : Addr) (vs : List V) (os : List (Option (Str × Int))), x = .ref r ∧ Gr Tb H H1 ∧ H1 r = some (.lst vs) ∧ Paired (RowAt H1) vs os ∧ ReadsO t os ∧ os.length < 64) (fun Q' kq => ?_) ?_
    · by_cases hne : t = Str.ofString "-"
      · refine ⟨_, rfl, rfl, _, rfl, ?_⟩
        rw [hne, decide_eq_true rfl]
        refine iteF ⟨Nat.zero_le _, fun l hl => kq _ _ ⟨l, [], [], rfl, Gr.new hl, upd_same, .nil, .inl ⟨hne, rfl⟩, by decide⟩⟩
      · refine ⟨_, rfl, rfl, _, rfl, ?_⟩
        rw [decide_eq_false (show ¬ V.str t = V.str (Str.ofString "-") from fun z => hne (V.str.inj z))]
        refine iteT ?_
        refine ⟨_, rfl, ⟨_, rfl⟩, t, Str.ofString " ", rfl, rfl, by decide, by rw [sizeLine_eq]; omega, fun l hl => ⟨l, rfl, ⟨_, SqL.of upd_same⟩, fun D hD => ?_⟩⟩
        refine lc_rel (Tb := Tb) (xs := (Txt.split t (Str.ofString " ")).map V.str) walk_list rfl (fun _ => true) (fun H' x y => ∃ (w : Str), x = .str w ∧ RowAt H' y (nowW w)) (fun H1 H2 x y m ⟨w, b1, b2⟩ => ⟨w, b1, ?_⟩) hD (by rw [List.length_map]; omega) (fun H' g => SqL.of (g.at upd_same .lst)) (fun j v H' hv gg hd0 Rk Rs hk hks => ?_) fun H1 zs g1 hD1 pz => ?_
        · rcases b2 with b | ⟨q, u, b3, b4, b5⟩
          · exact .inl b
          · exact .inr ⟨q, u, b3, b4, m _ _ .tup (.inl fun _ z => by cases z) b5⟩
        · rw [List.getElem?_map] at hv
          cases hq : (Txt.split t (Str.ofString " "))[j]? with
          | none => rw [hq] at hv; cases hv
          | some w =>
            rw [hq] at hv
            cases hv
            have hw2 := List.mem_of_getElem? hq
            refine ⟨rfl, _, rfl, w, rfl, Nat.le_trans (split_part_len t w hw2) hz, (fun z H2 g2 => hk _ _ rfl g2 ⟨w, rfl, .inl ⟨z, rfl⟩⟩), fun q' u H2 e' g2 n2 hu => hk _ _ rfl g2 ⟨w, rfl, .inr ⟨q', u, e', rfl, hu⟩⟩⟩
        · rw [List.filter_eq_self.mpr fun _ _ => rfl] at pz
          have g3 : Gr Tb H H1 := (Gr.new hl).trans g1
          have key : ∀ {ws : List Str} {zs : List V}, Paired (fun x y => ∃ (w : Str), x = .str w ∧ RowAt H1 y (nowW w)) (ws.map V.str) zs → Paired (RowAt H1) zs (ws.map nowW) := by
            intro ws
            induction ws with
            | nil =>
              intro zs p
              cases p
              exact .nil
            | cons w ws ih =>
              intro zs p
              cases p with
              | cons a p =>
                obtain ⟨w', b1, b2⟩ := a
                cases b1
                exact .cons b2 (ih p)
          exact kq _ _ ⟨D, zs, _, rfl, g3, hD1, key pz, .inr ⟨hne, rfl⟩, by rw [List.length_map]; exact hw⟩
    · rintro x H1 ⟨r, vs, os, rfl, g1, hr1, hts0, hrd, hol⟩
      have hnm : ∀ q, some q ∈ os → nameB q.1 = true := fun q hq => by
        rcases hrd with ⟨_, rfl⟩ | ⟨_, rfl⟩
        · cases hq
        · obtain ⟨w, _, e⟩ := List.mem_map.mp hq
          exact now_name e
      refine ⟨_, rfl, .none, os.map optRow, .non, dp_opt hr1 hts0, rfl, shaped_opt hnm, _, rfl, ?_⟩
      by_cases hno : none ∈ os
      · rw [(none_opt os).mpr hno]
        exact iteT ⟨_, rfl, _, rfl, fun dd hdd => ke dd _ (hrd.bad hno) (g1.trans (Gr.new hdd)) upd_same⟩
      obtain ⟨n, rfl⟩ := all_some hno
      rw [Bool.eq_false_iff.mpr fun z => hno ((none_opt _).mp z)]
      refine iteF ?_
      obtain ⟨ts, rfl, hts⟩ := rows_some hts0
      have hrd := hrd.good hz
      have hnm : ∀ q ∈ n, nameB q.1 = true := fun q hq => hnm q (List.mem_map.mpr ⟨q, hq, rfl⟩)
      have htl := Paired.len hts
      have hnl0 : n.length < 64 := by rw [List.length_map] at hol; exact hol
      refine ⟨_, rfl, r, rfl, ⟨_, SqL.of hr1⟩, fun D hD => lc_fm (Tb := Tb) (xs := ts.map V.ref) walk_list rfl (itemAt H1 0) hD (by rw [List.length_map]; omega) (fun H' g => SqL.of (g.at hr1 .lst)) (fun j v H' hv gg Rk Rs hk hks => ?_) fun H2 g2 hD2 => ?_⟩
      · rw [List.getElem?_map] at hv
        cases hq : ts[j]? with
        | none => rw [hq] at hv; cases hv
        | some u =>
          rw [hq] at hv
          cases hv
          obtain ⟨q, _, hu⟩ := Paired.at hts hq
          exact gtup2 (gg.at hu .tup) ⟨rfl, _, rfl, hk _ _ (by rw [itemAt_tup hu]; rfl) (Gr.refl _)⟩
      · have e1 : (ts.map V.ref).filterMap (itemAt H1 0) = (n.map (·.1)).map V.str := by
          rw [List.filterMap_map, List.map_map]
          exact fm_paired (fun u q h => by
            show itemAt H1 0 (V.ref u) = some (V.str q.1)
            rw [itemAt_tup h]
            rfl) hts
        rw [e1] at hD2
        have g12 := g1.trans g2
        have hnl : (n.map (·.1)).length < 64 := by rw [List.length_map]; exact hnl0
        refine ⟨_, rfl, _, rfl, D, n.map (·.1), rfl, SqL.of hD2, hnl, fun s2 hs2 => ⟨s2, n.map (·.1), rfl, upd_same, hnl, fun ys p hys hyn hym hyl hp => ?_⟩⟩
        have g3 : Gr Tb H2 (upd (upd H2 s2 (SetTx w s2 (n.map (·.1)))) p (.lst (ys.map V.str))) := (Gr.new hs2).trans (Gr.new hp)
        have shn := shaped_strs (ns := n.map (·.1)) fun x hx => by
          obtain ⟨q, hq, rfl⟩ := List.mem_map.mp hx
          exact hnm q hq
        have shy := shaped_strs (ns := ys) fun x hx => by
          obtain ⟨q, hq, rfl⟩ := List.mem_map.mp ((hym x).mp hx)
          exact hnm q hq
        refine ⟨.list ((n.map (·.1)).map PyData.str), .list (ys.map PyData.str), dp_strs (g3.at hD2 .lst), dp_strs upd_same, shn, shy, _, rfl, ?_⟩
        by_cases he : n.map (·.1) = ys
        · have e2 : PyData.eqv (.list ((n.map (·.1)).map PyData.str)) (.list (ys.map PyData.str)) = true := by
            rw [PyData.eqv]
            exact (eqvAll_strs _ _).mpr he
          rw [e2]
          refine iteF ?_
          have hd : (n.map (·.1)).Nodup := by rw [he]; exact hyn
          have g23 := g2.trans g3
          refine ⟨_, rfl, r, ts, dS n, rfl, SqL.of (g23.at hr1 .lst), ?_, fun z hz => ?_⟩
          · exact rows_sq g23 hts
          · rw [merge_new hd]
            exact k n z _ ⟨hrd, by rw [he]; exact hys, hd⟩ ((g12.trans g3).trans (Gr.new hz)) ((g12.trans g3).nw (.of hz)) upd_same
        · have e2 : PyData.eqv (.list ((n.map (·.1)).map PyData.str)) (.list (ys.map PyData.str)) = false := by
            rw [PyData.eqv, Bool.eq_false_iff]
            exact fun z => he ((eqvAll_strs _ _).mp z)
          rw [e2]
          refine iteT ⟨_, rfl, _, rfl, fun dd hdd => ke dd _ (fun n' ⟨q1, q2, q3⟩ => ?_) ((g12.trans g3).trans (Gr.new hdd)) upd_same⟩
          obtain rfl := hrd.uniq q1
          exact he (sorted_same q2 hys q3 hyn hym).symm
end
end Sk
namespace Sk
open PySem PySem.Spec PyProof.Rows L2
abbrev s_law_source : Stmt := topS 23
abbrev N_law_source : List Str := ["script", "mix", "digits", "cell", "size"]
theorem sc_law_source : FnScope N_law_source ["script"] (defScope s_law_source) := ⟨rfl, rfl, rfl, by decide +kernel, rfl, by decide +kernel, by decide +kernel⟩
def sp_law_source (Tb : List (Addr × Str)) (K : PySem.W.Frag) : Sp := fun vs H Q _ => ∃ (a : Addr) (ns : List Int) (G : Hp), vs = [.ref a] ∧ SqL K H a (ns.map V.int) ∧ ns.length ≤ 63 ∧ Fz G H ∧ LamX.Tabs Tb H ∧ ∀ p H', Hs Tb p 0 [] G H' → Gr Tb H H' → Q (.ref p) H'
section
variable {P : Program} {w : World} {K : PySem.W.Frag} {mg : Str → Option Value} {base : Heap} {Tb : List (Addr × Str)}
theorem ok_law_source {f : Addr} {fd : FuncData} (F : FnP K "_law_source" s_law_source f fd) (T : Tx K mg) : FnOk P w K mg base CX0 1 f fd ["script"] (sp_law_source Tb K) := by
  refine F.ok sc_law_source (fun vs H Q E h => ?_) (fun cdv A outer s H vs Q E hr h => ?_)
  · obtain ⟨_, _, _, rfl, _⟩ := h
    rfl
  · obtain ⟨a, ns, G, rfl, ha, hz, fz, ht, k⟩ := h
    refine ⟨_, PSs.nox (pss_cons (ps_set (i := 1) sc_law_source.nd rfl (Or.inl rfl) pe_int)
      (pss_cons (ps_set (i := 2) sc_law_source.nd rfl (Or.inl rfl) (pe_lst pa_nil))
      (pss_cons (ps_for PassesOwn.never rfl (piL (K := K) rfl (pv 0)) (pg_name (i := 3) sc_law_source.nd rfl (Or.inl rfl)) (pss_cons (ps_set (i := 1) sc_law_source.nd rfl (Or.inl rfl) (pe_op op_mod (pe_op op_add (pe_op op_mul (pv 1) pe_int) (pv 3)) (pe_op op_sub (pe_op op_pow pe_int pe_int) pe_int)))
        (pss_cons (ps_set (i := 4) sc_law_source.nd rfl (Or.inl rfl) (pe_callB (call_max2 rfl) (by rfl) T.n_max (by decide +kernel) (pa_cons (pv 3) (pa_cons (pe_op op_sub pe_int (pv 3)) pa_nil))))
        (pss_one (ps_if (pt_cmpR op_ge (pv 4) (pe_op op_pow pe_int pe_int) (nomark _)) (pss_one (ps_expr (peBm (K := K) rfl PySem.F.plainAttrs_list PySem.F.slot_list_append PySem.F.type_list_append mt_append (pv 2) (pa_cons (pe_op op_sub (pv 4) (pe_op op_pow pe_int pe_int)) pa_nil)))) pss_nil)))))
      (pss_one (ps_ret (pe_lst (pa_cons (pv 2) (pa_cons pe_int (pa_cons (pv 1) (pa_cons pe_int pa_nil)))))))))), ?_⟩
    have e61 : (2 : Int) ^ (Int.toNat 61) - 1 = 2305843009213693951 := by decide
    have e18 : (10 : Int) ^ (Int.toNat 18) = 1000000000000000000 := by decide
    refine ⟨Nat.zero_le _, fun q hq => ?_⟩
    have g0 : Gr Tb H (upd H q (.lst [])) := Gr.new hq
    refine ⟨_, rfl, a, rfl, ⟨_, g0.ext_seq ha⟩, for_list (K := K) (a := a) (xs := ns.map V.int) (fun i σ H' => ∃ (mix : Int) (ds : List Int) (s3 s4 : Option V), σ = [some (.ref a), some (.int mix), some (.ref q), s3, s4] ∧ Gr Tb H H' ∧ H' q = some (.lst (ds.map V.int)) ∧ 0 ≤ mix ∧ mix < 2305843009213693951 ∧ (∀ d ∈ ds, 0 ≤ d) ∧ ds.length ≤ i)
      ⟨271828182845904, [], none, none, rfl, g0, upd_same, by decide, by decide, (fun d hd => by simp at hd), Nat.le_refl _⟩ (fun i σ H' _ ⟨_, _, _, _, _, g, _⟩ => g.ext_seq ha) ?_ ?_⟩
    · rintro i x σ H' hx ⟨mix, ds, s3, s4, rfl, g, hd, m0, m1, d0, dl⟩
      have hi : i < ns.length := by
        have := (List.getElem?_eq_some_iff.mp hx).1
        rwa [List.length_map] at this
      rw [List.getElem?_map, List.getElem?_eq_getElem hi] at hx
      cases hx
      generalize ns[i] = c
      refine ⟨_, rfl, _, _, rfl, rfl, .inl ⟨by omega, by omega⟩, _, rfl, _, _, rfl, rfl, _, _, rfl, rfl, ⟨by decide, by decide, by decide⟩, _, _, rfl, rfl, _, _, rfl, rfl, by show (0 : Int) < _; rw [e61]; decide, ?_⟩
      have mb0 := Int.emod_nonneg (mix * 1000033 + c) (show (2305843009213693951 : Int) ≠ 0 by decide)
      have mb1 := Int.emod_lt_of_pos (mix * 1000033 + c) (show (0 : Int) < 2305843009213693951 by decide)
      refine ⟨_, rfl, _, rfl, _, _, rfl, rfl, _, _, rfl, ?_⟩
      refine ⟨_, rfl, _, _, rfl, rfl, ⟨by decide, by decide, by decide⟩, _, _, rfl, rfl, _, rfl, ?_⟩
      rw [e18]
      refine ite2 (fun c1 => ?_) (fun c1 => ?_)
      · have c2 := of_decide_eq_true c1
        refine ⟨_, rfl, .inl ⟨rfl, _, SqL.of hd⟩, _, rfl, _, _, rfl, rfl, ⟨by decide, by decide, by decide⟩, _, _, rfl, rfl, q, _, _, rfl, rfl, hd, ?_, ?_⟩
        · rw [List.length_map, sizeLine_eq]
          omega
        · rw [e18]
          refine ⟨(mix * 1000033 + c) % 2305843009213693951, ds ++ [(if 0 - c > c then 0 - c else c) - 1000000000000000000], _, _, rfl, g.mut (.of hq) hd .lst, ?_, mb0, mb1, fun d hd => ?_, ?_⟩
          · rw [upd_same, List.map_append]
            rfl
          · rcases List.mem_append.mp hd with z | z
            · exact d0 d z
            · rw [List.mem_singleton.mp z]
              omega
          · rw [List.length_append, List.length_singleton]
            omega
      · exact ⟨(mix * 1000033 + c) % 2305843009213693951, ds, _, _, rfl, g, hd, mb0, mb1, d0, by omega⟩
    · rintro σ H' ⟨mix, ds, s3, s4, rfl, g, hd, m0, m1, d0, dl⟩
      refine ⟨_, rfl, _, rfl, by show 4 ≤ sizeLine; decide, fun p hp => ?_⟩
      have gp : G p = none := (fz.gr g).free hp
      have gq : G q = none := fz.free hq
      have qp : q ≠ p := ne_of_none hd hp
      refine k p _ ⟨⟨q, ⟨ds, 0, mix, 0, upd_same, by rw [upd_ne qp]; exact hd, d0, by decide, m0, m1, by decide, by decide⟩, gq, qp, fun x hx => by simp at hx⟩, fz.gr (g.trans (Gr.new hp)), gp, fun x hx => by simp at hx, List.nodup_nil, (g.trans (Gr.new hp)).tab ht⟩ (g.trans (Gr.new hp))
end
end Sk
namespace Sk
open PySem PySem.Spec PyProof.Rows L2
abbrev s_law_draw : Stmt := topS 24
abbrev N_law_draw : List Str := ["source", "many", "mixed", "drawn"]
theorem sc_law_draw : FnScope N_law_draw ["source", "many"] (defScope s_law_draw) := ⟨rfl, rfl, rfl, by decide +kernel, rfl, by decide +kernel, by decide +kernel⟩
def sp_law_draw (Tb : List (Addr × Str)) (K : PySem.W.Frag) : Sp := fun vs H Q _ => ∃ (p : Addr) (n : Nat) (L : List (Addr × HO)) (G : Hp) (many : Int), vs = [.ref p, .int many] ∧ Hs Tb p n L G H ∧ n < 1000000000 ∧ 1 ≤ many ∧ many < 2 ^ 200 ∧ ∀ r H', 0 ≤ r → r < many → Hs Tb p (n + 1) L G H' → Q (.int r) H'
/-- the source is written: its own list, its digits -/
theorem Hs.src_put {Tb : List (Addr × Str)} {p q : Addr} {n m : Nat} {L : List (Addr × HO)} {G H H' : Hp} (s : Hs Tb p n L G H) (hq : G q = none) (hqp : q ≠ p) (hL : ∀ x ∈ L, x.1 ≠ q)
    (hp : ∃ xs, H p = some (.lst xs)) (hq2 : ∃ xs, H q = some (.lst xs)) (e : ∀ b, b ≠ p → b ≠ q → H' b = H b) (sr : SrcAt p q m H') : Hs Tb p m L G H' := by
  obtain ⟨xs, hp⟩ := hp
  obtain ⟨ys, hq2⟩ := hq2
  have ot : ∀ b o, H b = some o → (∀ zs, o ≠ .lst zs) → H' b = some o := fun b o h no => by
    rw [e b (fun z => by rw [z, hp] at h; cases h; exact no _ rfl) (fun z => by rw [z, hq2] at h; cases h; exact no _ rfl)]
    exact h
  refine ⟨⟨q, sr, hq, hqp, hL⟩, ⟨fun b o h => ?_, s.fz.nt⟩, s.gp, fun x hx => ?_, s.nod, fun t ht => ?_⟩
  · rw [e b (fun z => by rw [z, s.gp] at h; cases h) (fun z => by rw [z, hq] at h; cases h)]
    exact s.fz.sub b o h
  · obtain ⟨c1, c2⟩ := s.cel x hx
    refine ⟨?_, c2⟩
    rw [e x.1 c2.2.1 (hL x hx)]
    exact c1
  · obtain ⟨ps, b1, b2, b3⟩ := s.tab t ht
    refine ⟨ps, ot _ _ b1 (fun _ z => by cases z), b2, fun po cv hc => ?_⟩
    obtain ⟨c', e1, e2⟩ := b3 po cv hc
    exact ⟨c', e1, ot _ _ e2 (fun _ z => by unfold LamX.CodeO at z; cases z)⟩
section
variable {P : Program} {w : World} {K : PySem.W.Frag} {mg : Str → Option Value} {base : Heap} {Tb : List (Addr × Str)}
theorem ok_law_draw {f : Addr} {fd : FuncData} (F : FnP K "_law_draw" s_law_draw f fd) (T : Tx K mg) : FnOk P w K mg base CX0 1 f fd ["source", "many"] (sp_law_draw Tb K) := by
  refine F.ok sc_law_draw (fun vs H Q E h => ?_) (fun cdv A outer s H vs Q E hr h => ?_)
  · obtain ⟨_, _, _, _, _, rfl, _⟩ := h
    rfl
  · obtain ⟨p, n, L, G, many, rfl, hs, hn, hm1, hm2, k⟩ := h
    refine ⟨_, PSs.nox (pss_cons (ps_while PassesOwn.never (PW.pt (pw_and (pt_cmpR op_lt (pe_ix (ixL (K := K) rfl) (pv 0) pe_int (fun _ _ => rfl)) pe_int (nomark _)) (pw_and1 (pt_cmpR (opNeNil (K := K) rfl hr.units) (pe_ix (ixL (K := K) rfl) (pv 0) pe_int (fun _ _ => rfl)) (pe_lst pa_nil) (nomark _))))) (pss_one (ps_asg (peBm (K := K) rfl PySem.F.plainAttrs_list PySem.F.slot_list_pop PySem.F.type_list_pop mt_popAt (pe_ix (ixL (K := K) rfl) (pv 0) pe_int (fun _ _ => rfl)) (pa_cons pe_int pa_nil)) (pg_sub (pv 0) pe_int set_list))))
      (pss_cons (ps_if (pt_cmpR op_ge (pe_ix (ixL (K := K) rfl) (pv 0) pe_int (fun _ _ => rfl)) pe_int (nomark _)) (pss_cons (ps_set (i := 3) sc_law_draw.nd rfl (Or.inl rfl) (pe_op op_mod (pe_ix (ixL (K := K) rfl) (pv 0) pe_int (fun _ _ => rfl)) (pv 1)))
        (pss_cons (ps_asg (pe_op op_fdivW (pe_ix (ixL (K := K) rfl) (pv 0) pe_int (fun _ _ => rfl)) (pv 1)) (pg_sub (pv 0) pe_int set_list))
        (pss_one (ps_ret (pv 3))))) pss_nil)
      (pss_cons (ps_asg (pe_op op_add (pe_ix (ixL (K := K) rfl) (pv 0) pe_int (fun _ _ => rfl)) pe_int) (pg_sub (pv 0) pe_int set_list))
      (pss_cons (ps_set (i := 2) sc_law_draw.nd rfl (Or.inl rfl) (pe_op op_mul (pe_op op_add (pe_ix (ixL (K := K) rfl) (pv 0) pe_int (fun _ _ => rfl)) pe_int) (pe_op op_pow (pe_op op_add (pe_ix (ixL (K := K) rfl) (pv 0) pe_int (fun _ _ => rfl)) pe_int) pe_int)))
      (pss_cons (ps_set (i := 2) sc_law_draw.nd rfl (Or.inl rfl) (pe_op op_mod (pe_op op_add (pv 2) (pe_op op_mul pe_int (pe_ix (ixL (K := K) rfl) (pv 0) pe_int (fun _ _ => rfl)))) (pe_op op_sub (pe_op op_pow pe_int pe_int) pe_int)))
      (pss_one (ps_ret (pe_op op_mod (pe_op op_fdivW (pe_op op_mod (pe_op op_pow (pv 2) pe_int) (pe_op op_add (pe_op op_pow pe_int pe_int) pe_int)) pe_int) (pv 1))))))))), ?_⟩
    -- the digits left over are m
    let J : Nat → L2.St → Hp → Prop := fun m σ H' => σ = L2.start N_law_draw [V.ref p, V.int many] ∧ Hs Tb p n L G H' ∧ ∃ q ds rest, H' p = some (.lst (.ref q :: rest)) ∧ H' q = some (.lst (List.map V.int ds)) ∧ ds.length = m
    obtain ⟨m0, j0⟩ : ∃ m, J m (L2.start N_law_draw [V.ref p, V.int many]) H := by
      obtain ⟨⟨q, ⟨ds, x, m, c, h1, h2, _⟩, _⟩, _⟩ := id hs
      exact ⟨ds.length, rfl, hs, q, ds, _, h1, h2, rfl⟩
    refine while_cps J (fun m σ H' => J m σ H' ∧ 0 < m) J m0 j0 ?test ?body ?done
    case test =>
      rintro m σ H1 ⟨rfl, hs1, q, ds, rest, hp1, hq1, hl⟩ R hT hF
      obtain ⟨⟨q', ⟨ds', x, mm, c, h1, h2, h3, h4, h5, h6, h7, h8⟩, gq, qp, Lq⟩, _⟩ := id hs1
      rw [hp1] at h1
      cases h1
      refine ⟨_, rfl, p, _, _, _, rfl, rfl, SqL.of hp1, atI_nat (j := 1) rfl, _, _, rfl, rfl, _, rfl, ?_⟩
      refine ite2 (fun c1 => ?_) (fun c1 => hF H1 ⟨rfl, hs1, q, ds, _, hp1, hq1, hl⟩)
      refine ⟨_, rfl, p, _, _, _, rfl, rfl, SqL.of hp1, atI_nat (j := 0) rfl, rd_nil (SqL.of hq1) fun b hb => ⟨_, rfl, ?_⟩⟩
      have j2 : J m (L2.start N_law_draw [V.ref p, V.int many]) (upd H1 b (.lst [])) :=
        ⟨rfl, hs1.gr (Gr.new hb), q, ds, _, by rw [upd_ne (ne_of_none hp1 hb)]; exact hp1, by rw [upd_ne (ne_of_none hq1 hb)]; exact hq1, hl⟩
      cases ds with
      | nil => exact hF _ j2
      | cons d ds => exact hT _ ⟨j2, by rw [← hl, List.length_cons]; omega⟩
    case body =>
      rintro m σ H1 ⟨⟨rfl, hs1, q, ds, rest, hp1, hq1, hl⟩, hm⟩
      obtain ⟨⟨q', ⟨ds', x, mm, c, h1, h2, h3, h4, h5, h6, h7, h8⟩, gq, qp, Lq⟩, _⟩ := id hs1
      rw [hp1] at h1
      cases h1
      have eds : ds = ds' := by
        rw [hq1] at h2
        have e := congrArg (fun o : Option HO => match o with | some (.lst xs) => xs.map (fun v => match v with | V.int i => i | _ => 0) | _ => []) h2
        simpa [Function.comp_def] using e
      subst eds
      cases ds with
      | nil => rw [List.length_nil] at hl; omega
      | cons d ds =>
        refine ⟨_, rfl, p, _, _, _, rfl, rfl, SqL.of hp1, atI_nat (j := 0) rfl, .inl ⟨rfl, _, SqL.of hq1⟩, q, _, 0, 0, _, rfl, rfl, hq1, by decide, by decide, ?_, rfl, _, rfl, p, [.ref q, .int x, .int mm, .int c], 1, 1, rfl, rfl, ?_, rfl, ?_⟩
        · simp [seqIndex?]
        · rw [upd_ne (Ne.symm qp)]
          exact hp1
        · have pq := Ne.symm qp
          refine ⟨ds.length, by rw [← hl, List.length_cons]; omega, rfl, hs1.src_put gq qp Lq ⟨_, hp1⟩ ⟨_, hq1⟩ (fun b h1 h2 => by rw [upd_ne h1, upd_ne h2]) ⟨ds, d, mm, c, upd_same, by rw [upd_ne qp, upd_same]; rfl, fun z hz => h3 z (List.mem_cons_of_mem _ hz), h3 d (List.mem_cons_self ..), h5, h6, h7, h8⟩, q, ds, _, upd_same, by rw [upd_ne qp, upd_same]; rfl, rfl⟩
    case done =>
      rintro m σ H1 ⟨rfl, hs1, q, ds, rest, hp1, hq1, hl⟩
      obtain ⟨⟨q', ⟨ds', x, mm, c, h1, h2, h3, h4, h5, h6, h7, h8⟩, gq, qp, Lq⟩, _⟩ := id hs1
      rw [hp1] at h1
      cases h1
      have pq := Ne.symm qp
      refine ⟨_, rfl, p, _, _, _, rfl, rfl, SqL.of hp1, atI_nat (j := 1) rfl, _, _, rfl, rfl, _, rfl, ?_⟩
      refine ite2 (fun c1 => ?_) (fun c1 => ?_)
      · refine ⟨_, rfl, p, _, _, _, rfl, rfl, SqL.of hp1, atI_nat (j := 1) rfl, _, rfl, _, _, rfl, rfl, by omega, ?_⟩
        refine ⟨_, rfl, p, _, _, _, rfl, rfl, SqL.of hp1, atI_nat (j := 1) rfl, _, rfl, _, _, rfl, rfl, wide_div (b := 200) (by omega) (by omega) (by decide) (by decide), _, rfl, p, [.ref q, .int x, .int mm, .int c], 1, 1, rfl, rfl, hp1, rfl, _, rfl, ?_⟩
        refine k _ _ (Int.emod_nonneg _ (by omega)) (Int.emod_lt_of_pos _ (by omega)) ?_
        exact hs1.src_put gq qp Lq ⟨_, hp1⟩ ⟨_, h2⟩ (fun b h1 h2 => by rw [upd_ne h1]) ⟨ds', x / many, mm, c, upd_same, by rw [upd_ne qp]; exact h2, h3, Int.ediv_nonneg h4 (by omega), h5, h6, h7, by omega⟩
      · refine ⟨_, rfl, p, _, _, _, rfl, rfl, SqL.of hp1, atI_nat (j := 3) rfl, _, _, rfl, rfl, _, rfl, p, [.ref q, .int x, .int mm, .int c], 3, 3, rfl, rfl, hp1, rfl, ?_⟩
        have e61 : (2 : Int) ^ (Int.toNat 61) - 1 = 2305843009213693951 := by decide
        have e18 : (10 : Int) ^ (Int.toNat 18) + 9 = 1000000000000000009 := by decide
        have hb : ∀ z : Int, (z % ((2 : Int) ^ (Int.toNat 61) - 1)).natAbs < 2 ^ 64 := fun z => by
          rw [e61]
          have h1 := Int.emod_nonneg z (show (2305843009213693951 : Int) ≠ 0 by decide)
          have h2 := Int.emod_lt_of_pos z (show (0 : Int) < 2305843009213693951 by decide)
          omega
        refine ⟨_, rfl, p, _, _, _, rfl, rfl, SqL.of upd_same, atI_nat (j := 2) rfl, _, _, rfl, rfl, _, rfl, p, _, _, _, rfl, rfl, SqL.of upd_same, atI_nat (j := 3) rfl, _, _, rfl, rfl, _, _, rfl, rfl, ⟨by decide, by decide, by omega⟩, _, _, rfl, rfl, .inl ⟨by omega, by omega⟩, ?_⟩
        refine ⟨_, rfl, _, rfl, p, _, _, _, rfl, rfl, SqL.of upd_same, atI_nat (j := 3) rfl, _, _, rfl, rfl, .inl ⟨by decide, by decide⟩, _, _, rfl, rfl, _, _, rfl, rfl, ⟨by decide, by decide, by decide⟩, _, _, rfl, rfl, _, _, rfl, rfl, by show (0 : Int) < _; rw [e61]; decide, ?_⟩
        refine ⟨_, rfl, _, _, rfl, rfl, ⟨by decide, by decide, hb _⟩, _, _, rfl, rfl, ⟨by decide, by decide, by decide⟩, _, _, rfl, rfl, _, _, rfl, rfl, by show (0 : Int) < _; rw [e18]; decide, _, _, rfl, rfl, wide_div (b := 200) (by decide) (by decide) (by decide) (by decide), _, rfl, _, _, rfl, rfl, by omega, ?_⟩
        refine k _ _ (Int.emod_nonneg _ (by omega)) (Int.emod_lt_of_pos _ (by omega)) ?_
        exact hs1.src_put gq qp Lq ⟨_, hp1⟩ ⟨_, h2⟩ (fun b h1 h2 => by rw [upd_ne h1]) ⟨ds', x, mm, c + 1, upd_same, by rw [upd_ne qp]; exact h2, h3, h4, h5, h6, by omega, by omega⟩
end
end Sk
namespace Sk
open PySem PySem.Spec PyProof.Rows L2
abbrev s_law_same : Stmt := topS 25
abbrev N_law_same : List Str := ["found", "wanted", "k"]
theorem sc_law_same : FnScope N_law_same ["found", "wanted"] (defScope s_law_same) := ⟨rfl, rfl, rfl, by decide +kernel, rfl, by decide +kernel, by decide +kernel⟩
/-- values of the same data, of depth below n -/
def sp_same (Tb : List (Addr × Str)) (K : PySem.W.Frag) (n : Nat) : Sp := fun vs H Q _ => ∃ (x y : V) (d : PyData), vs = [x, y] ∧ Dp K H x d ∧ Dp K H y d ∧ d.depth < n ∧ cnt d ≤ 16000000 ∧ ∀ H', Gr Tb H H' → Q (.bl true) H'
abbrev sp_law_same (Tb : List (Addr × Str)) (K : PySem.W.Frag) : Sp := sp_same Tb K 5
section
variable {P : Program} {w : World} {K : PySem.W.Frag} {mg : Str → Option Value} {base : Heap} {Tb : List (Addr × Str)}
/-- lists or tuples: the last return -/
theorem same_items {Tb : List (Addr × Str)} {K : PySem.W.Frag} {n : Nat} {x y : Addr} {xs ys : List V} {ds : List PyData} {H : Hp} {Q : VK} (hx : SqL K H x xs ∨ SqT K H x xs) (hy : SqL K H y ys ∨ SqT K H y ys) (ax : DpAll K H xs ds) (ay : DpAll K H ys ds) (hz : cntAll ds < 16000000) (hd : PyData.depthAll ds < n)
    (k : ∀ H', Gr Tb H H' → Q (.bl true) H') :
    tOp (rNil K false) (tLc (iRng1 (tCons (tCB (rLenL K) (tCons (tVar 1) tNil)) tNil)) (gName 2)
      (tNot (tB (tCall (sp_same Tb K n) [] E0 (tCons (tOp (rIxA K) (tVar 0) (tVar 2)) (tCons (tOp (rIxA K) (tVar 1) (tVar 2)) tNil))))) (tVar 2) [2]) (tLst tNil) (L2.start N_law_same [.ref x, .ref y]) H Q := by
  have lx := DpAll.len ax
  have ly := DpAll.len ay
  have hcl := cnt_len ds
  refine ⟨_, rfl, y, ys, rfl, hy, (ys.length : Int), rfl, by omega, by omega, fun D hD => lc_range (lo := 0) (n := ys.length) (fun i H' => Gr Tb H H' ∧ H' D = some (.lst [])) ⟨Gr.new hD, upd_same⟩ ?_ ?_⟩
  · rintro i H' hi ⟨g, hd'⟩
    obtain ⟨d, hdi⟩ : ∃ d, ds[i]? = some d := ⟨_, List.getElem?_eq_getElem (by omega)⟩
    obtain ⟨u, hu, du⟩ := DpAll.at ax hdi
    obtain ⟨v, hv, dv⟩ := DpAll.at ay hdi
    have up : ∀ {a : Addr} {zs : List V}, SqL K H a zs ∨ SqT K H a zs → SqL K H' a zs ∨ SqT K H' a zs := fun h => h.imp g.ext_seq g.ext_tup
    have e0 : (0 : Int) + (i : Int) = (i : Int) := by omega
    refine ⟨rfl, _, rfl, _, rfl, x, xs, _, u, rfl, rfl, up hx, by rw [e0]; exact atI_nat hu, _, rfl, _, rfl, y, ys, _, v, rfl, rfl, up hy, by rw [e0]; exact atI_nat hv, u, v, d, rfl, Dp.gr g du, Dp.gr g dv, ?_, ?_, fun H2 g2 => ⟨true, rfl, ?_⟩⟩
    · have := depth_mem (List.mem_of_getElem? hdi)
      omega
    · have := cnt_mem (List.mem_of_getElem? hdi)
      omega
    · exact ⟨g.trans g2, g2.at hd' .lst⟩
  · rintro H' ⟨g, hd'⟩
    exact rd_nil (SqL.of hd') fun b hb => k _ (g.trans (Gr.new hb))
theorem ok_same {f : Addr} {fd : FuncData} (F : FnP K "_law_same" s_law_same f fd) (T : Tx K mg) (hm : mg "_law_same" = some (.ref f)) (hk : PySem.W.keepIn K (.ref f) = true) (hb : Binds K fd ["found", "wanted"] []) : ∀ n, FnOk P w K mg base CX0 n f fd ["found", "wanted"] (sp_same Tb K n)
  | 0 => ⟨fun _ _ _ _ ⟨_, _, _, _, _, _, z, _⟩ => by omega, fun _ _ _ _ _ _ _ _ _ _ _ _ _ ⟨_, _, _, _, _, _, z, _⟩ => by omega⟩
  | n + 1 => by
    have G_law_same : Fn P w K mg base "_law_same" n ["found", "wanted"] (sp_same Tb K n) := ⟨f, fd, ok_same F T hm hk hb n, hm, hk, hb⟩
    refine F.ok sc_law_same (fun vs H Q E h => ?_) (fun cdv A outer s H vs Q E hr h => ?_)
    · obtain ⟨_, _, _, rfl, _⟩ := h
      rfl
    · obtain ⟨x, y, d, rfl, hx, hy, hd, hz, k⟩ := h
      refine ⟨_, PSs.nox (pss_cons (ps_if (pt_cmpR op_isN (pv 1) pe_non (nomark _)) (pss_one (ps_ret (pe_cmpR op_isN (pv 0) pe_non (nomark _)))) pss_nil)
      (pss_cons (ps_if (pt_val (pe_callB (isiR (K := K) rfl) (by rfl) T.n_isinstance (by decide +kernel) (pa_cons (pv 1) (pa_cons (pe_bltn (v := V.ty "bool") (u := Value.type "bool") (by rfl) T.n_bool (by decide +kernel) (by exact rfl)) pa_nil)))) (pss_one (ps_ret (pe_and (pe_callB (isiR (K := K) rfl) (by rfl) T.n_isinstance (by decide +kernel) (pa_cons (pv 0) (pa_cons (pe_bltn (v := V.ty "bool") (u := Value.type "bool") (by rfl) T.n_bool (by decide +kernel) (by exact rfl)) pa_nil))) (pe_one (pe_cmpR op_eq (pv 0) (pv 1) (nomark _)))))) pss_nil)
      (pss_cons (ps_if (pt_val (pe_callB (isiR (K := K) rfl) (by rfl) T.n_isinstance (by decide +kernel) (pa_cons (pv 1) (pa_cons (pe_bltn (v := V.ty "int") (u := Value.type "int") (by rfl) T.n_int (by decide +kernel) (by exact rfl)) pa_nil)))) (pss_one (ps_ret (pe_and (pe_callB (isiR (K := K) rfl) (by rfl) T.n_isinstance (by decide +kernel) (pa_cons (pv 0) (pa_cons (pe_bltn (v := V.ty "int") (u := Value.type "int") (by rfl) T.n_int (by decide +kernel) (by exact rfl)) pa_nil))) (pe_and (pe_not (pe_callB (isiR (K := K) rfl) (by rfl) T.n_isinstance (by decide +kernel) (pa_cons (pv 0) (pa_cons (pe_bltn (v := V.ty "bool") (u := Value.type "bool") (by rfl) T.n_bool (by decide +kernel) (by exact rfl)) pa_nil)))) (pe_one (pe_cmpR op_eq (pv 0) (pv 1) (nomark _))))))) pss_nil)
      (pss_cons (ps_if (pt_val (pe_callB (isiR (K := K) rfl) (by rfl) T.n_isinstance (by decide +kernel) (pa_cons (pv 1) (pa_cons (pe_bltn (v := V.ty "str") (u := Value.type "str") (by rfl) T.n_str (by decide +kernel) (by exact rfl)) pa_nil)))) (pss_one (ps_ret (pe_and (pe_callB (isiR (K := K) rfl) (by rfl) T.n_isinstance (by decide +kernel) (pa_cons (pv 0) (pa_cons (pe_bltn (v := V.ty "str") (u := Value.type "str") (by rfl) T.n_str (by decide +kernel) (by exact rfl)) pa_nil))) (pe_one (pe_cmpR op_eq (pv 0) (pv 1) (nomark _)))))) pss_nil)
      (pss_cons (ps_if (pt_cmpR op_ne (pe_callB (isiR (K := K) rfl) (by rfl) T.n_isinstance (by decide +kernel) (pa_cons (pv 0) (pa_cons (pe_bltn (v := V.ty "list") (u := Value.type "list") (by rfl) T.n_list (by decide +kernel) (by exact rfl)) pa_nil))) (pe_callB (isiR (K := K) rfl) (by rfl) T.n_isinstance (by decide +kernel) (pa_cons (pv 1) (pa_cons (pe_bltn (v := V.ty "list") (u := Value.type "list") (by rfl) T.n_list (by decide +kernel) (by exact rfl)) pa_nil))) (nomark _)) (pss_one (ps_ret pe_bl)) pss_nil)
      (pss_cons (ps_if (PW.pt (pw_or (pt_cmpR op_ne (pe_callB (isiR (K := K) rfl) (by rfl) T.n_isinstance (by decide +kernel) (pa_cons (pv 0) (pa_cons (pe_bltn (v := V.ty "tuple") (u := Value.type "tuple") (by rfl) T.n_tuple (by decide +kernel) (by exact rfl)) pa_nil))) (pe_callB (isiR (K := K) rfl) (by rfl) T.n_isinstance (by decide +kernel) (pa_cons (pv 1) (pa_cons (pe_bltn (v := V.ty "tuple") (u := Value.type "tuple") (by rfl) T.n_tuple (by decide +kernel) (by exact rfl)) pa_nil))) (nomark _)) (pw_or1 (pt_cmpR op_ne (pe_callB (lenS (K := K) rfl) (by rfl) T.n_len (by decide +kernel) (pa_cons (pv 0) pa_nil)) (pe_callB (lenS (K := K) rfl) (by rfl) T.n_len (by decide +kernel) (pa_cons (pv 1) pa_nil)) (nomark _))))) (pss_one (ps_ret pe_bl)) pss_nil)
      (pss_one (ps_ret (pe_cmpR (opEqNil (K := K) rfl hr.units) (pe_lc (own := [("k", 2)]) (g := (gName 2)) (tt := _) rfl sc_law_same.nd (pi_range1 (by rfl) T.n_range (pa_cons (pe_callB (lenS (K := K) rfl) (by rfl) T.n_len (by decide +kernel) (pa_cons (pv 1) pa_nil)) pa_nil)) (blkOk_by (N := N_law_same) (sc := (defScope s_law_same)) (by decide +kernel)) (fun _ _ _ _ _ => (pg_name (i := 2) sc_law_same.nd rfl (Or.inl rfl))) (fun _ _ _ _ _ => (pts_one (pt_not (pt_val (pe_fn G_law_same hr (pa_cons (pe_ix (ixA (K := K) rfl) (pv 0) (pv 2) (fun _ _ => rfl)) (pa_cons (pe_ix (ixA (K := K) rfl) (pv 1) (pv 2) (fun _ _ => rfl)) pa_nil))))))) (fun _ _ _ _ _ => (pv 2))) (pe_lst pa_nil) (nomark _)))))))))), ?_⟩
      have kH := k H (Gr.refl H)
      cases d with
      | none =>
        cases hx
        cases hy
        exact ⟨_, rfl, rfl, _, rfl, _, rfl, rfl, kH⟩
      | bool b =>
        cases hx
        cases hy
        refine ⟨_, rfl, rfl, _, rfl, ?_⟩
        refine ⟨_, rfl, _, _, _, _, _, rfl, .ty _, Dp.tyx (.bl b), kit_ty (r := true) rfl, _, rfl, ?_⟩
        refine ⟨_, rfl, _, _, _, _, _, rfl, .ty _, Dp.tyx (.bl b), kit_ty (r := true) rfl, _, rfl, ?_⟩
        refine ⟨_, rfl, _, rfl, rfl, ?_⟩
        rw [decide_eq_true rfl]
        exact kH
      | int i =>
        cases hx
        cases hy
        refine ⟨_, rfl, rfl, _, rfl, ?_⟩
        refine ⟨_, rfl, _, _, _, _, _, rfl, .ty _, Dp.tyx (.int i), kit_ty (r := false) rfl, _, rfl, ?_⟩
        refine ⟨_, rfl, _, _, _, _, _, rfl, .ty _, Dp.tyx (.int i), kit_ty (r := true) rfl, _, rfl, ?_⟩
        refine ⟨_, rfl, _, _, _, _, _, rfl, .ty _, Dp.tyx (.int i), kit_ty (r := true) rfl, _, rfl, ?_⟩
        refine ⟨_, rfl, _, _, _, _, _, rfl, .ty _, Dp.tyx (.int i), kit_ty (r := false) rfl, _, rfl, _, rfl, ?_⟩
        refine ⟨_, rfl, _, rfl, rfl, ?_⟩
        rw [decide_eq_true rfl]
        exact kH
      | str z =>
        cases hx
        cases hy
        refine ⟨_, rfl, rfl, _, rfl, ?_⟩
        refine ⟨_, rfl, _, _, _, _, _, rfl, .ty _, Dp.tyx (.str z), kit_ty (r := false) rfl, _, rfl, ?_⟩
        refine ⟨_, rfl, _, _, _, _, _, rfl, .ty _, Dp.tyx (.str z), kit_ty (r := false) rfl, _, rfl, ?_⟩
        refine ⟨_, rfl, _, _, _, _, _, rfl, .ty _, Dp.tyx (.str z), kit_ty (r := true) rfl, _, rfl, ?_⟩
        refine ⟨_, rfl, _, _, _, _, _, rfl, .ty _, Dp.tyx (.str z), kit_ty (r := true) rfl, _, rfl, ?_⟩
        refine ⟨_, rfl, _, rfl, rfl, ?_⟩
        rw [decide_eq_true rfl]
        exact kH
      | list ds =>
        have hx0 := hx
        have hy0 := hy
        cases hx with
        | lst sx ax =>
        cases hy with
        | lst sy ay =>
        refine ⟨_, rfl, rfl, _, rfl, ?_⟩
        refine ⟨_, rfl, _, _, _, _, _, rfl, .ty _, Dp.tyx hy0, kit_ty (r := false) rfl, _, rfl, ?_⟩
        refine ⟨_, rfl, _, _, _, _, _, rfl, .ty _, Dp.tyx hy0, kit_ty (r := false) rfl, _, rfl, ?_⟩
        refine ⟨_, rfl, _, _, _, _, _, rfl, .ty _, Dp.tyx hy0, kit_ty (r := false) rfl, _, rfl, ?_⟩
        refine ⟨_, rfl, _, _, _, _, _, rfl, .ty _, Dp.tyx hx0, kit_ty (r := true) rfl, _, rfl, _, _, _, _, _, rfl, .ty _, Dp.tyx hy0, kit_ty (r := true) rfl, rfl, _, rfl, ?_⟩
        refine ⟨_, rfl, _, _, _, _, _, rfl, .ty _, Dp.tyx hx0, kit_ty (r := false) rfl, _, rfl, _, _, _, _, _, rfl, .ty _, Dp.tyx hy0, kit_ty (r := false) rfl, rfl, _, rfl, ?_⟩
        refine ⟨_, rfl, _, _, rfl, .inl sx, _, rfl, _, _, rfl, .inl sy, rfl, _, rfl, ?_⟩
        rw [DpAll.len ax, DpAll.len ay, decide_eq_true rfl]
        rw [PyData.depth] at hd
        rw [cnt] at hz
        exact iteF (same_items (.inl sx) (.inl sy) ax ay (by omega) (by omega) k)
      | tuple ds =>
        have hx0 := hx
        have hy0 := hy
        cases hx with
        | tup sx ax =>
        cases hy with
        | tup sy ay =>
        refine ⟨_, rfl, rfl, _, rfl, ?_⟩
        refine ⟨_, rfl, _, _, _, _, _, rfl, .ty _, Dp.tyx hy0, kit_ty (r := false) rfl, _, rfl, ?_⟩
        refine ⟨_, rfl, _, _, _, _, _, rfl, .ty _, Dp.tyx hy0, kit_ty (r := false) rfl, _, rfl, ?_⟩
        refine ⟨_, rfl, _, _, _, _, _, rfl, .ty _, Dp.tyx hy0, kit_ty (r := false) rfl, _, rfl, ?_⟩
        refine ⟨_, rfl, _, _, _, _, _, rfl, .ty _, Dp.tyx hx0, kit_ty (r := false) rfl, _, rfl, _, _, _, _, _, rfl, .ty _, Dp.tyx hy0, kit_ty (r := false) rfl, rfl, _, rfl, ?_⟩
        refine ⟨_, rfl, _, _, _, _, _, rfl, .ty _, Dp.tyx hx0, kit_ty (r := true) rfl, _, rfl, _, _, _, _, _, rfl, .ty _, Dp.tyx hy0, kit_ty (r := true) rfl, rfl, _, rfl, ?_⟩
        refine ⟨_, rfl, _, _, rfl, .inr sx, _, rfl, _, _, rfl, .inr sy, rfl, _, rfl, ?_⟩
        rw [DpAll.len ax, DpAll.len ay, decide_eq_true rfl]
        rw [PyData.depth] at hd
        rw [cnt] at hz
        exact iteF (same_items (.inr sx) (.inr sy) ax ay (by omega) (by omega) k)
      | dict _ => cases hx
end
end Sk
namespace Sk
open PySem PySem.Spec PyProof.Rows L2
abbrev s_law_shuffled : Stmt := topS 26
abbrev N_law_shuffled : List Str := ["source", "items", "left", "k"]
theorem sc_law_shuffled : FnScope N_law_shuffled ["source", "items"] (defScope s_law_shuffled) := ⟨rfl, rfl, rfl, by decide +kernel, rfl, by decide +kernel, by decide +kernel⟩
def sp_law_shuffled (Tb : List (Addr × Str)) (K : PySem.W.Frag) : Sp := fun vs H Q _ => ∃ (p a : Addr) (n : Nat) (L : List (Addr × HO)) (G : Hp) (xs : List V), vs = [.ref p, .ref a] ∧ Hs Tb p n L G H ∧ SqL K H a xs ∧ xs.length ≤ 100000 ∧ n + xs.length < 1000000000 ∧
  ∀ r H' ys, ys.Perm xs → Hs Tb p (n + xs.length) ((r, .lst ys) :: L) G H' → Q (.ref r) H'
section
variable {P : Program} {w : World} {K : PySem.W.Frag} {mg : Str → Option Value} {base : Heap} {Tb : List (Addr × Str)}
theorem ok_law_shuffled {f : Addr} {fd : FuncData} (F : FnP K "_law_shuffled" s_law_shuffled f fd) (T : Tx K mg) (G_law_draw : Fn P w K mg base "_law_draw" 1 ["source", "many"] (sp_law_draw Tb K)) : FnOk P w K mg base CX0 2 f fd ["source", "items"] (sp_law_shuffled Tb K) := by
  refine F.ok sc_law_shuffled (fun vs H Q E h => ?_) (fun cdv A outer s H vs Q E hr h => ?_)
  · obtain ⟨_, _, _, _, _, _, rfl, _⟩ := h
    rfl
  · obtain ⟨p, a, n, L, G, xs, rfl, hs, ha, hz, hn, k⟩ := h
    refine ⟨_, PSs.nox (pss_cons (ps_set (i := 2) sc_law_shuffled.nd rfl (Or.inr rfl) (pe_callTy (listOf (K := K) rfl) (by rfl) T.n_list (by decide +kernel) (pa_cons (pv 1) pa_nil)))
      (pss_one (ps_ret (pe_lc (own := [("k", 3)]) (g := (gName 3)) (tt := tYes) rfl sc_law_shuffled.nd (pi_range1 (by rfl) T.n_range (pa_cons (pe_callB (lenS (K := K) rfl) (by rfl) T.n_len (by decide +kernel) (pa_cons (pv 2) pa_nil)) pa_nil)) (blkOk_by (N := N_law_shuffled) (sc := (defScope s_law_shuffled)) (by decide +kernel)) (fun _ _ _ _ _ => (pg_name (i := 3) sc_law_shuffled.nd rfl (Or.inl rfl))) (fun _ _ _ _ _ => pts_nil) (fun _ _ _ _ _ => (peBm (K := K) rfl PySem.F.plainAttrs_list PySem.F.slot_list_pop PySem.F.type_list_pop mt_popAt (pv 2) (pa_cons (pe_fn G_law_draw (hr.mono (by decide)) (pa_cons (pv 0) (pa_cons (pe_callB (lenS (K := K) rfl) (by rfl) T.n_len (by decide +kernel) (pa_cons (pv 2) pa_nil)) pa_nil))) pa_nil))))))), ?_⟩
    refine ⟨_, rfl, a, xs, rfl, .inl ha, fun l hl => ?_⟩
    have hs1 := hs.new hl (.lst (xs := xs))
    refine ⟨_, rfl, l, xs, rfl, .inl (SqL.of upd_same), (xs.length : Int), rfl, by omega, by omega, fun D hD => lc_range (lo := 0) (n := xs.length) (fun i H' => ∃ acc rest : List V, (acc ++ rest).Perm xs ∧ acc.length = i ∧ Hs Tb p (n + i) ((D, .lst acc) :: (l, .lst rest) :: L) G H') ⟨[], xs, .refl _, rfl, hs1.new hD .lst⟩ ?_ ?_⟩
    · rintro i H' hi ⟨acc, rest, hp, hl', h2⟩
      have hlen := hp.length_eq
      rw [List.length_append] at hlen
      refine ⟨rfl, _, rfl, .inl ⟨rfl, _, SqL.of (h2.get (i := 1) rfl)⟩, _, rfl, _, rfl, l, rest, rfl, .inl (SqL.of (h2.get (i := 1) rfl)), p, n + i, _, G, (rest.length : Int), rfl, h2, by omega, by omega, by show (rest.length : Int) < 2 ^ 200; omega, fun r H4 r0 r1 h4 => ?_⟩
      obtain ⟨y, hy⟩ : ∃ y, rest[r.toNat]? = some y := ⟨_, List.getElem?_eq_getElem (by omega)⟩
      have h5 := h4.put (i := 1) (o' := .lst (rest.eraseIdx r.toNat)) rfl .lst
      have h6 := h5.put (i := 0) (o' := .lst (acc ++ [y])) rfl .lst
      refine ⟨l, rest, r, r.toNat, y, rfl, rfl, h4.get (i := 1) rfl, by omega, by omega, ?_, hy, acc, h5.get (i := 0) rfl, ?_, acc ++ [y], rest.eraseIdx r.toNat, ?_, ?_, h6⟩
      · exact seq_ix r0 r1
      · rw [sizeLine_eq]
        omega
      · refine List.Perm.trans ?_ hp
        rw [List.append_assoc]
        refine List.Perm.append_left acc ?_
        exact erase_perm rest r.toNat y hy
      · rw [List.length_append, List.length_singleton, hl']
    · rintro H' ⟨acc, rest, hp, hl', h2⟩
      have hlen := hp.length_eq
      rw [List.length_append] at hlen
      have hr : rest = [] := List.length_eq_zero_iff.mp (by omega)
      rw [hr, List.append_nil] at hp
      exact k D H' acc hp (h2.sub (.cons₂ _ (.cons _ (.refl _))))
end
end Sk
namespace Sk
open PySem PySem.Spec PyProof.Rows L2
abbrev s_law_error : Stmt := topS 27
abbrev N_law_error : List Str := ["e", "held", "names", "name", "is_one"]
theorem sc_law_error : FnScope N_law_error ["e"] (defScope s_law_error) := ⟨rfl, rfl, rfl, by decide +kernel, rfl, by decide +kernel, by decide +kernel⟩
def seven : List Str := ["InvalidCatalogue", "InvalidStock", "InvalidSplits", "InvalidStep", "InvalidNumber", "TooManySteps", "InvalidText"]
def sp_law_error (Tb : List (Addr × Str)) (K : PySem.W.Frag) : Sp := fun vs H Q _ => ∃ (e : Addr) (C : Str) (v : V), vs = [.ref e] ∧ C ∈ seven ∧ ExcV K H e C v ∧ ∀ t H', Gr Tb H H' → Nw H t → H' t = some (.lst [.str C, v, .bl true]) → Q (.ref t) H'
theorem take_snocX {α : Type} {es : List α} {i : Nat} {e : α} (h : es[i]? = some e) : es.take (i + 1) = es.take i ++ [e] := by
  rw [List.take_add_one, h]
  rfl
theorem seven_one {C : Str} (h : C ∈ seven) : seven.filter (fun D => C == D) = [C] := by
  unfold seven at h ⊢
  simp only [List.mem_cons, List.mem_nil_iff, or_false] at h
  rcases h with rfl | rfl | rfl | rfl | rfl | rfl | rfl <;> decide
section
variable {P : Program} {w : World} {K : PySem.W.Frag} {mg : Str → Option Value} {base : Heap} {Tb : List (Addr × Str)}
theorem okT_law_error {f : Addr} {fd : FuncData} (F : FnP K "_law_error" s_law_error f fd) (T : Tx K mg) : FnT P w K mg base CX0 1 f fd ["e"] (hotSp (sp_law_error Tb K)) := by
  refine fnT_of F sc_law_error (fun a vs H Q E h => ?_) (fun cdv A outer s H vs Q E ea hh hr h => ?_)
  · obtain ⟨_, _, _, _, rfl, _⟩ := h
    rfl
  · obtain ⟨hea, h⟩ := h
    obtain ⟨e, C, v, rfl, hC, hx, k⟩ := h
    refine ⟨_, PSs.nox (pss_cons (ps_set (i := 1) sc_law_error.nd rfl (Or.inl rfl) (pe_lst (pa_cons (pe_tup (pa_cons pe_str (pa_cons (pe_callB (isXk (K := K) rfl) (by rfl) T.n_isinstance (by decide +kernel) (pa_cons (pv 0) (pa_cons (C8.pe_gc (v := V.ref (He.ga K "InvalidCatalogue")) (by rfl) ⟨_, T.g_InvalidCatalogue, rfl⟩) pa_nil))) pa_nil))) (pa_cons (pe_tup (pa_cons pe_str (pa_cons (pe_callB (isXk (K := K) rfl) (by rfl) T.n_isinstance (by decide +kernel) (pa_cons (pv 0) (pa_cons (C8.pe_gc (v := V.ref (He.ga K "InvalidStock")) (by rfl) ⟨_, T.g_InvalidStock, rfl⟩) pa_nil))) pa_nil))) pa_nil))))
      (pss_cons (ps_set (i := 1) sc_law_error.nd rfl (Or.inl rfl) (pe_op op_cat (pv 1) (pe_lst (pa_cons (pe_tup (pa_cons pe_str (pa_cons (pe_callB (isXk (K := K) rfl) (by rfl) T.n_isinstance (by decide +kernel) (pa_cons (pv 0) (pa_cons (C8.pe_gc (v := V.ref (He.ga K "InvalidSplits")) (by rfl) ⟨_, T.g_InvalidSplits, rfl⟩) pa_nil))) pa_nil))) (pa_cons (pe_tup (pa_cons pe_str (pa_cons (pe_callB (isXk (K := K) rfl) (by rfl) T.n_isinstance (by decide +kernel) (pa_cons (pv 0) (pa_cons (C8.pe_gc (v := V.ref (He.ga K "InvalidStep")) (by rfl) ⟨_, T.g_InvalidStep, rfl⟩) pa_nil))) pa_nil))) pa_nil)))))
      (pss_cons (ps_set (i := 1) sc_law_error.nd rfl (Or.inl rfl) (pe_op op_cat (pv 1) (pe_lst (pa_cons (pe_tup (pa_cons pe_str (pa_cons (pe_callB (isXk (K := K) rfl) (by rfl) T.n_isinstance (by decide +kernel) (pa_cons (pv 0) (pa_cons (C8.pe_gc (v := V.ref (He.ga K "InvalidNumber")) (by rfl) ⟨_, T.g_InvalidNumber, rfl⟩) pa_nil))) pa_nil))) (pa_cons (pe_tup (pa_cons pe_str (pa_cons (pe_callB (isXk (K := K) rfl) (by rfl) T.n_isinstance (by decide +kernel) (pa_cons (pv 0) (pa_cons (C8.pe_gc (v := V.ref (He.ga K "TooManySteps")) (by rfl) ⟨_, T.g_TooManySteps, rfl⟩) pa_nil))) pa_nil))) pa_nil)))))
      (pss_cons (ps_set (i := 1) sc_law_error.nd rfl (Or.inl rfl) (pe_op op_cat (pv 1) (pe_lst (pa_cons (pe_tup (pa_cons pe_str (pa_cons (pe_callB (isXk (K := K) rfl) (by rfl) T.n_isinstance (by decide +kernel) (pa_cons (pv 0) (pa_cons (C8.pe_gc (v := V.ref (He.ga K "InvalidText")) (by rfl) ⟨_, T.g_InvalidText, rfl⟩) pa_nil))) pa_nil))) pa_nil))))
      (pss_cons (ps_setLcT (i := 2) (own := [("name", 3), ("is_one", 4)]) (g := (gTupT K 2 ea (gCons (gName 3) (gCons (gName 4) gNil)))) (tt := _) hh sc_law_error.nd rfl rfl (sw_true rfl rfl rfl (by decide +kernel)) (piLT (K := K) rfl (pv 1)) (blkOk_by (N := N_law_error) (sc := (defScope s_law_error)) (by decide +kernel)) (fun _ _ _ _ _ => (pg_tupT hh (pgs_cons (pg_name (i := 3) sc_law_error.nd rfl (Or.inl rfl)) (pgs_cons (pg_name (i := 4) sc_law_error.nd rfl (Or.inl rfl)) pgs_nil)))) (fun _ _ _ _ _ => (pts_one (pt_val (pv 4)))) (fun _ _ _ _ _ => (pv 3)))
      (pss_one (ps_ret (pe_op op_cat (pv 2) (pe_lst (pa_cons (peXv (K := K) rfl (pv 0)) (pa_cons (pe_and (pe_callB (isXk (K := K) rfl) (by rfl) T.n_isinstance (by decide +kernel) (pa_cons (pv 0) (pa_cons (C8.pe_gc (v := V.ref (He.ga K "StoreError")) (by rfl) ⟨_, T.g_StoreError, rfl⟩) pa_nil))) (pe_one (pe_callB (isXk (K := K) rfl) (by rfl) T.n_isinstance (by decide +kernel) (pa_cons (pv 0) (pa_cons (pe_bltn (v := V.ty "ValueError") (u := Value.type "ValueError") (by rfl) T.n_ValueError (by decide +kernel) (by exact rfl)) pa_nil))))) pa_nil))))))))))), ?_⟩
    obtain rfl : e = ea := by
      have z : some (V.ref e) = some (V.ref ea) := hea
      cases z
      rfl
    have ke := kiAll_ok T.ke hC
    obtain ⟨dd, he, hdd⟩ := id hx
    have xa : ∀ {H' : Hp}, Gr Tb H H' → ExAt H' e (He.ga K C) (some dd) := fun g => ⟨g.ext e _ he exT_ntb, .inr ⟨dd, _, rfl, g.ext dd _ hdd (fun _ z => by cases z)⟩⟩
    have xf := ke.xb.is
    have g0 := Gr.refl (T := Tb) H
    refine ⟨_, rfl, e, _, some dd, _, _, _, rfl, xa g0, xf, .own _, ke.ki ("InvalidCatalogue" : Str) (by decide), by show 2 ≤ sizeLine; decide, fun t1 ht1 => ?_⟩
    have gt1 := Gr.new (T := Tb) (o := .tup [.str "InvalidCatalogue", .bl (C == ("InvalidCatalogue" : Str))]) ht1
    have at1 := g0.trans gt1
    refine ⟨_, rfl, e, _, some dd, _, _, _, rfl, xa at1, xf, .own _, ke.ki ("InvalidStock" : Str) (by decide), by show 2 ≤ sizeLine; decide, fun t2 ht2 => ?_⟩
    have gt2 := Gr.new (T := Tb) (o := .tup [.str "InvalidStock", .bl (C == ("InvalidStock" : Str))]) ht2
    have at2 := at1.trans gt2
    refine ⟨by show 2 ≤ sizeLine; decide, fun l0 hl0 => ?_⟩
    have gl0 := Gr.new (T := Tb) (o := .lst [.ref t1, .ref t2]) hl0
    have p0x := (gt2.trans gl0).at (upd_same (a := t1) (o := .tup [.str "InvalidCatalogue", .bl (C == ("InvalidCatalogue" : Str))])) .tup
    have p1x := gl0.at (upd_same (a := t2) (o := .tup [.str "InvalidStock", .bl (C == ("InvalidStock" : Str))])) .tup
    have G0 := g0.trans (gt1.trans (gt2.trans gl0))
    have phn : (upd (upd (upd H t1 (HO.tup [.str "InvalidCatalogue", .bl (C == ("InvalidCatalogue" : Str))])) t2 (HO.tup [.str "InvalidStock", .bl (C == ("InvalidStock" : Str))])) l0 (HO.lst [.ref t1, .ref t2])) l0 = some (HO.lst [.ref t1, .ref t2]) := upd_same
    generalize upd (upd (upd H t1 (HO.tup [.str "InvalidCatalogue", .bl (C == ("InvalidCatalogue" : Str))])) t2 (HO.tup [.str "InvalidStock", .bl (C == ("InvalidStock" : Str))])) l0 (HO.lst [.ref t1, .ref t2]) = B0 at p0x p1x G0 phn ⊢
    clear at1 at2 gl0 gt2 gt1
    have ph := phn
    clear phn
    refine ⟨_, rfl, _, rfl, e, _, some dd, _, _, _, rfl, xa G0, xf, .own _, ke.ki ("InvalidSplits" : Str) (by decide), by show 2 ≤ sizeLine; decide, fun t3 ht3 => ?_⟩
    have gt3 := Gr.new (T := Tb) (o := .tup [.str "InvalidSplits", .bl (C == ("InvalidSplits" : Str))]) ht3
    have at3 := G0.trans gt3
    refine ⟨_, rfl, e, _, some dd, _, _, _, rfl, xa at3, xf, .own _, ke.ki ("InvalidStep" : Str) (by decide), by show 2 ≤ sizeLine; decide, fun t4 ht4 => ?_⟩
    have gt4 := Gr.new (T := Tb) (o := .tup [.str "InvalidStep", .bl (C == ("InvalidStep" : Str))]) ht4
    have at4 := at3.trans gt4
    refine ⟨by show 2 ≤ sizeLine; decide, fun l1 hl1 => ?_⟩
    have gl1 := Gr.new (T := Tb) (o := .lst [.ref t3, .ref t4]) hl1
    have qh := (gt3.trans (gt4.trans gl1)).at ph .lst
    refine ⟨l0, l1, _, _, rfl, rfl, qh, upd_same, by show 2 + 2 ≤ sizeLine; decide, fun m1 hm1 => ?_⟩
    have gm1 := Gr.new (T := Tb) (o := .lst ([.ref t1, .ref t2] ++ [.ref t3, .ref t4])) hm1
    have p0xx := (gt3.trans (gt4.trans (gl1.trans gm1))).at p0x .tup
    have p1xx := (gt3.trans (gt4.trans (gl1.trans gm1))).at p1x .tup
    have p2xx := (gt4.trans (gl1.trans gm1)).at (upd_same (a := t3) (o := .tup [.str "InvalidSplits", .bl (C == ("InvalidSplits" : Str))])) .tup
    have p3xx := (gl1.trans gm1).at (upd_same (a := t4) (o := .tup [.str "InvalidStep", .bl (C == ("InvalidStep" : Str))])) .tup
    have G1 := G0.trans (gt3.trans (gt4.trans (gl1.trans gm1)))
    have phn : (upd (upd (upd (upd B0 t3 (HO.tup [.str "InvalidSplits", .bl (C == ("InvalidSplits" : Str))])) t4 (HO.tup [.str "InvalidStep", .bl (C == ("InvalidStep" : Str))])) l1 (HO.lst [.ref t3, .ref t4])) m1 (HO.lst ([.ref t1, .ref t2] ++ [.ref t3, .ref t4]))) m1 = some (HO.lst [.ref t1, .ref t2, .ref t3, .ref t4]) := upd_same
    generalize upd (upd (upd (upd B0 t3 (HO.tup [.str "InvalidSplits", .bl (C == ("InvalidSplits" : Str))])) t4 (HO.tup [.str "InvalidStep", .bl (C == ("InvalidStep" : Str))])) l1 (HO.lst [.ref t3, .ref t4])) m1 (HO.lst ([.ref t1, .ref t2] ++ [.ref t3, .ref t4])) = B1 at p0xx p1xx p2xx p3xx G1 phn ⊢
    clear at3 at4 gm1 gl1 gt4 gt3 qh ph
    have ph := phn
    clear phn
    refine ⟨_, rfl, _, rfl, e, _, some dd, _, _, _, rfl, xa G1, xf, .own _, ke.ki ("InvalidNumber" : Str) (by decide), by show 2 ≤ sizeLine; decide, fun t5 ht5 => ?_⟩
    have gt5 := Gr.new (T := Tb) (o := .tup [.str "InvalidNumber", .bl (C == ("InvalidNumber" : Str))]) ht5
    have at5 := G1.trans gt5
    refine ⟨_, rfl, e, _, some dd, _, _, _, rfl, xa at5, xf, .own _, ke.ki ("TooManySteps" : Str) (by decide), by show 2 ≤ sizeLine; decide, fun t6 ht6 => ?_⟩
    have gt6 := Gr.new (T := Tb) (o := .tup [.str "TooManySteps", .bl (C == ("TooManySteps" : Str))]) ht6
    have at6 := at5.trans gt6
    refine ⟨by show 2 ≤ sizeLine; decide, fun l2 hl2 => ?_⟩
    have gl2 := Gr.new (T := Tb) (o := .lst [.ref t5, .ref t6]) hl2
    have qh := (gt5.trans (gt6.trans gl2)).at ph .lst
    refine ⟨m1, l2, _, _, rfl, rfl, qh, upd_same, by show 4 + 2 ≤ sizeLine; decide, fun m2 hm2 => ?_⟩
    have gm2 := Gr.new (T := Tb) (o := .lst ([.ref t1, .ref t2, .ref t3, .ref t4] ++ [.ref t5, .ref t6])) hm2
    have p0xxx := (gt5.trans (gt6.trans (gl2.trans gm2))).at p0xx .tup
    have p1xxx := (gt5.trans (gt6.trans (gl2.trans gm2))).at p1xx .tup
    have p2xxx := (gt5.trans (gt6.trans (gl2.trans gm2))).at p2xx .tup
    have p3xxx := (gt5.trans (gt6.trans (gl2.trans gm2))).at p3xx .tup
    have p4xxx := (gt6.trans (gl2.trans gm2)).at (upd_same (a := t5) (o := .tup [.str "InvalidNumber", .bl (C == ("InvalidNumber" : Str))])) .tup
    have p5xxx := (gl2.trans gm2).at (upd_same (a := t6) (o := .tup [.str "TooManySteps", .bl (C == ("TooManySteps" : Str))])) .tup
    have G2 := G1.trans (gt5.trans (gt6.trans (gl2.trans gm2)))
    have phn : (upd (upd (upd (upd B1 t5 (HO.tup [.str "InvalidNumber", .bl (C == ("InvalidNumber" : Str))])) t6 (HO.tup [.str "TooManySteps", .bl (C == ("TooManySteps" : Str))])) l2 (HO.lst [.ref t5, .ref t6])) m2 (HO.lst ([.ref t1, .ref t2, .ref t3, .ref t4] ++ [.ref t5, .ref t6]))) m2 = some (HO.lst [.ref t1, .ref t2, .ref t3, .ref t4, .ref t5, .ref t6]) := upd_same
    generalize upd (upd (upd (upd B1 t5 (HO.tup [.str "InvalidNumber", .bl (C == ("InvalidNumber" : Str))])) t6 (HO.tup [.str "TooManySteps", .bl (C == ("TooManySteps" : Str))])) l2 (HO.lst [.ref t5, .ref t6])) m2 (HO.lst ([.ref t1, .ref t2, .ref t3, .ref t4] ++ [.ref t5, .ref t6])) = B2 at p0xxx p1xxx p2xxx p3xxx p4xxx p5xxx G2 phn ⊢
    clear at5 at6 gm2 gl2 gt6 gt5 qh ph
    have ph := phn
    clear phn
    refine ⟨_, rfl, _, rfl, e, _, some dd, _, _, _, rfl, xa G2, xf, .own _, ke.ki ("InvalidText" : Str) (by decide), by show 2 ≤ sizeLine; decide, fun t7 ht7 => ?_⟩
    have gt7 := Gr.new (T := Tb) (o := .tup [.str "InvalidText", .bl (C == ("InvalidText" : Str))]) ht7
    have at7 := G2.trans gt7
    refine ⟨by show 1 ≤ sizeLine; decide, fun l3 hl3 => ?_⟩
    have gl3 := Gr.new (T := Tb) (o := .lst [.ref t7]) hl3
    have qh := (gt7.trans gl3).at ph .lst
    refine ⟨m2, l3, _, _, rfl, rfl, qh, upd_same, by show 6 + 1 ≤ sizeLine; decide, fun m3 hm3 => ?_⟩
    have gm3 := Gr.new (T := Tb) (o := .lst ([.ref t1, .ref t2, .ref t3, .ref t4, .ref t5, .ref t6] ++ [.ref t7])) hm3
    have p0xxxx := (gt7.trans (gl3.trans gm3)).at p0xxx .tup
    have p1xxxx := (gt7.trans (gl3.trans gm3)).at p1xxx .tup
    have p2xxxx := (gt7.trans (gl3.trans gm3)).at p2xxx .tup
    have p3xxxx := (gt7.trans (gl3.trans gm3)).at p3xxx .tup
    have p4xxxx := (gt7.trans (gl3.trans gm3)).at p4xxx .tup
    have p5xxxx := (gt7.trans (gl3.trans gm3)).at p5xxx .tup
    have p6xxxx := (gl3.trans gm3).at (upd_same (a := t7) (o := .tup [.str "InvalidText", .bl (C == ("InvalidText" : Str))])) .tup
    have G3 := G2.trans (gt7.trans (gl3.trans gm3))
    have phn : (upd (upd (upd B2 t7 (HO.tup [.str "InvalidText", .bl (C == ("InvalidText" : Str))])) l3 (HO.lst [.ref t7])) m3 (HO.lst ([.ref t1, .ref t2, .ref t3, .ref t4, .ref t5, .ref t6] ++ [.ref t7]))) m3 = some (HO.lst [.ref t1, .ref t2, .ref t3, .ref t4, .ref t5, .ref t6, .ref t7]) := upd_same
    generalize upd (upd (upd B2 t7 (HO.tup [.str "InvalidText", .bl (C == ("InvalidText" : Str))])) l3 (HO.lst [.ref t7])) m3 (HO.lst ([.ref t1, .ref t2, .ref t3, .ref t4, .ref t5, .ref t6] ++ [.ref t7])) = B3 at p0xxxx p1xxxx p2xxxx p3xxxx p4xxxx p5xxxx p6xxxx G3 phn ⊢
    clear at7 gm3 gl3 gt7 qh ph
    have ph := phn
    clear phn
    have rows : Paired (fun (v : V) (D : Str) => ∃ t, v = .ref t ∧ B3 t = some (.tup [.str D, .bl (C == D)])) [.ref t1, .ref t2, .ref t3, .ref t4, .ref t5, .ref t6, .ref t7] seven :=
      .cons ⟨_, rfl, p0xxxx⟩ (.cons ⟨_, rfl, p1xxxx⟩ (.cons ⟨_, rfl, p2xxxx⟩ (.cons ⟨_, rfl, p3xxxx⟩ (.cons ⟨_, rfl, p4xxxx⟩ (.cons ⟨_, rfl, p5xxxx⟩ (.cons ⟨_, rfl, p6xxxx⟩ .nil))))))
    have lrows : [V.ref t1, .ref t2, .ref t3, .ref t4, .ref t5, .ref t6, .ref t7].length = 7 := rfl
    generalize [V.ref t1, .ref t2, .ref t3, .ref t4, .ref t5, .ref t6, .ref t7] = xs at rows ph lrows
    refine ⟨_, rfl, m3, rfl, ⟨_, SqL.of ph⟩, fun D hD => lcT_list (xs := xs) (fun i H' => Gr Tb B3 H' ∧ H' D = some (.lst (((seven.take i).filter (fun D => C == D)).map V.str))) ⟨Gr.new hD, upd_same⟩ (fun i H' h => SqL.of (h.1.at ph .lst)) (fun i H' h => (hx.gr (G3.trans h.1)).held) ?_ ?_⟩
    · rintro i x H' hxi ⟨g, hDl⟩
      obtain ⟨E1, hE, t, rfl, ht⟩ := Paired.at rows hxi
      have hi := (List.getElem?_eq_some_iff.mp hE).1
      refine ⟨(hx.gr (G3.trans g)).held, t, _, rfl, SqT.of (g.at ht .tup), rfl, _, _, rfl, _, _, rfl, rfl, rfl, _, rfl, _, rfl, ?_⟩
      have htk : (seven.take (i + 1)).filter (fun D => C == D) = (seven.take i).filter (fun D => C == D) ++ if (C == E1) = true then [E1] else [] := by
        rw [take_snocX hE, List.filter_append]
        congr 1
        rw [List.filter_cons]
        rfl
      cases hb : (C == E1) with
      | true =>
        rw [hb, if_pos rfl] at htk
        refine iteTb rfl ⟨_, rfl, _, hDl, ?_, ?_⟩
        · have h7 : seven.length = 7 := rfl
          have := List.length_filter_le (fun D => C == D) (seven.take i)
          rw [List.length_take] at this
          rw [List.length_map, sizeLine_eq]
          omega
        · refine ⟨g.mut (Nw.of hD) hDl .lst, ?_⟩
          rw [upd_same, htk, List.map_append]
          rfl
      | false =>
        rw [hb, if_neg (by decide), List.append_nil] at htk
        refine iteFb rfl ⟨g, ?_⟩
        rw [htk]
        exact hDl
    · rintro H' ⟨g, hDl⟩
      rw [lrows, show seven.take 7 = seven from rfl, seven_one hC] at hDl
      have G4 := G3.trans g
      refine ⟨_, rfl, _, rfl, e, _, dd, _, _, rfl, ke.xb.xf, ke.xb.nv, (xa G4).1, G4.ext dd _ hdd (fun _ z => by cases z), rfl, ?_⟩
      refine ⟨_, rfl, e, _, some dd, _, _, _, rfl, xa G4, xf, .own _, ke.kb, ?_⟩
      refine ⟨true, rfl, iteTb rfl ⟨_, rfl, e, _, some dd, _, _, _, rfl, xa G4, xf, .ty _, ke.kv, by show 2 ≤ sizeLine; decide, fun z hz => ?_⟩⟩
      have gz := Gr.new (T := Tb) (o := .lst [v, .bl true]) hz
      refine ⟨D, z, _, _, rfl, rfl, gz.at hDl .lst, upd_same, by show 1 + 2 ≤ sizeLine; decide, fun r hr2 => ?_⟩
      exact k r _ ((G4.trans gz).trans (Gr.new hr2)) ((G4.trans gz).nw (.of hr2)) upd_same
end
end Sk
namespace Sk
open PySem PySem.Spec PyProof.Rows L2
abbrev s_law_names : Stmt := topS 28
abbrev N_law_names : List Str := ["source", "pool", "letter"]
theorem sc_law_names : FnScope N_law_names ["source"] (defScope s_law_names) := ⟨rfl, rfl, rfl, by decide +kernel, rfl, by decide +kernel, by decide +kernel⟩
def sp_law_names (Tb : List (Addr × Str)) (K : PySem.W.Frag) : Sp := fun vs H Q _ => ∃ (p : Addr) (n : Nat) (L : List (Addr × HO)) (G : Hp), vs = [.ref p] ∧ Hs Tb p n L G H ∧ n + 40 < 1000000000 ∧
  ∀ r H' (ns : List Str), ns.Nodup → ns.length = 40 → (∀ x ∈ ns, nameB x = true) → Str.ofString "nobody" ∉ ns → Hs Tb p (n + 40) ((r, .lst (ns.map V.str)) :: L) G H' → Q (.ref r) H'
def namesAt (i : Nat) : List Str := (["a", "aa", "aaa", "ab", "b", "ba", "z", "zz", "split", "undo", "abcdefgh", "abcdefgi", "zzzzzzzz", "zzzzzzzy"] : List Str) ++ (("cdefghijklmno" : Str).cps.toList.take i).flatMap fun c => [⟨#[c]⟩, (⟨#[c]⟩ : Str) ++ ("x" : Str)]
theorem names_nodup : (namesAt 13).Nodup := by decide +kernel
theorem names_good : ∀ x ∈ namesAt 13, nameB x = true := by decide +kernel
theorem names_nobody : Str.ofString "nobody" ∉ namesAt 13 := by decide +kernel
theorem names_len : (namesAt 13).length = 40 := by decide +kernel
theorem namesAt_len : ∀ i, (namesAt i).length ≤ 14 + 2 * i := by
  intro i
  unfold namesAt
  rw [List.length_append]
  have : ∀ l : List Nat, (l.flatMap fun c => [(⟨#[c]⟩ : Str), (⟨#[c]⟩ : Str) ++ ("x" : Str)]).length = 2 * l.length := by
    intro l
    induction l with
    | nil => rfl
    | cons a l ih =>
      rw [List.flatMap_cons, List.length_append, ih, List.length_cons]
      show 2 + 2 * l.length = 2 * (l.length + 1)
      omega
  rw [this, List.length_take]
  show 14 + _ ≤ _
  omega
theorem namesAt_succ {i : Nat} {c : Nat} (h : ("cdefghijklmno" : Str).cps.toList[i]? = some c) : namesAt (i + 1) = namesAt i ++ [⟨#[c]⟩, (⟨#[c]⟩ : Str) ++ ("x" : Str)] := by
  unfold namesAt
  rw [List.take_add_one, h, List.flatMap_append, ← List.append_assoc]
  rfl
section
variable {P : Program} {w : World} {K : PySem.W.Frag} {mg : Str → Option Value} {base : Heap} {Tb : List (Addr × Str)}
theorem ok_law_names {f : Addr} {fd : FuncData} (F : FnP K "_law_names" s_law_names f fd) (T : Tx K mg) (G_law_shuffled : Fn P w K mg base "_law_shuffled" 2 ["source", "items"] (sp_law_shuffled Tb K)) : FnOk P w K mg base CX0 3 f fd ["source"] (sp_law_names Tb K) := by
  refine F.ok sc_law_names (fun vs H Q E h => ?_) (fun cdv A outer s H vs Q E hr h => ?_)
  · obtain ⟨_, _, _, _, rfl, _⟩ := h
    rfl
  · obtain ⟨p, n, L, G, rfl, hs, hn, k⟩ := h
    refine ⟨_, PSs.nox (pss_cons (ps_set (i := 1) sc_law_names.nd rfl (Or.inl rfl) (pe_lst (pa_cons pe_str (pa_cons pe_str (pa_cons pe_str (pa_cons pe_str (pa_cons pe_str (pa_cons pe_str (pa_cons pe_str (pa_cons pe_str (pa_cons pe_str (pa_cons pe_str (pa_cons pe_str (pa_cons pe_str (pa_cons pe_str pa_nil)))))))))))))))
      (pss_cons (ps_expr (peBm (K := K) rfl PySem.F.plainAttrs_list PySem.F.slot_list_append PySem.F.type_list_append mt_append (pv 1) (pa_cons pe_str pa_nil)))
      (pss_cons (ps_for PassesOwn.never rfl (pi_str pe_str) (pg_name (i := 2) sc_law_names.nd rfl (Or.inl rfl)) (pss_one (ps_set (i := 1) sc_law_names.nd rfl (Or.inl rfl) (pe_op op_cat (pv 1) (pe_lst (pa_cons (pv 2) (pa_cons (pe_op op_add_str (pv 2) pe_str) pa_nil)))))))
      (pss_one (ps_ret (pe_fn G_law_shuffled (hr.mono (by decide)) (pa_cons (pv 0) (pa_cons (pv 1) pa_nil)))))))), ?_⟩
    refine ⟨by show _ ≤ sizeLine; decide, fun a ha => ?_⟩
    have h0 : Nw H a := .of ha
    have g0 : Gr Tb H (upd H a (.lst ((namesAt 0).dropLast.map V.str))) := Gr.new ha
    refine ⟨_, rfl, .inl ⟨rfl, _, SqL.of upd_same⟩, a, _, _, rfl, rfl, upd_same, by decide, ?_⟩
    have g1 : Gr Tb H (upd (upd H a (.lst ((namesAt 0).dropLast.map V.str))) a (.lst ((namesAt 0).map V.str))) := g0.mut h0 upd_same .lst
    refine ⟨_, rfl, for_it (walk_text (z := "cdefghijklmno")) (fun i σ H' => ∃ (b : Addr) (s2 : Option V), σ = [some (.ref p), some (.ref b), s2] ∧ Gr Tb H H' ∧ H' b = some (.lst ((namesAt i).map V.str)))
      ⟨a, none, rfl, g1, upd_same⟩ (fun _ _ _ _ _ => trivial) ?_ ?_⟩
    · rintro i x σ H1 H2 hi ⟨b, s2, rfl, g, hb⟩ ⟨rfl, hx⟩
      unfold signs at hx
      rw [List.getElem?_map] at hx
      cases hc : ("cdefghijklmno" : Str).cps.toList[i]? with
      | none => rw [hc] at hx; cases hx
      | some c =>
        rw [hc] at hx
        cases hx
        refine ⟨_, rfl, _, rfl, _, rfl, _, _, rfl, rfl, by show 1 + 1 ≤ sizeLine; decide, by show 2 ≤ sizeLine; decide, fun q hq => ?_⟩
        refine ⟨_, _, _, _, rfl, rfl, by rw [upd_ne (ne_of_none hb hq)]; exact hb, upd_same, ?_, fun r hr => ?_⟩
        · have := namesAt_len i
          have : i < 13 := hi
          rw [List.length_map, sizeLine_eq]
          show _ + 2 ≤ _
          omega
        · refine ⟨r, _, rfl, (g.trans (Gr.new hq)).trans (Gr.new hr), ?_⟩
          rw [upd_same, namesAt_succ hc, List.map_append]
          rfl
    · rintro σ H1 ⟨b, s2, rfl, g, hb⟩
      have hl : ((namesAt 13).map V.str).length = 40 := by rw [List.length_map, names_len]
      refine ⟨_, rfl, _, rfl, p, b, n, L, G, (namesAt 13).map V.str, rfl, hs.gr g, SqL.of hb, by omega, by omega, fun r H' ys hp h' => ?_⟩
      obtain ⟨ns, rfl, hp2⟩ := perm_map V.str hp
      rw [hl] at h'
      exact k r H' ns (hp2.nodup_iff.mpr names_nodup) (hp2.length_eq.trans names_len) (fun x hx => names_good x (hp2.mem_iff.mp hx)) (fun hx => names_nobody (hp2.mem_iff.mp hx)) h'
end
end Sk
namespace Sk
open PySem PySem.Spec PyProof.Rows L2
abbrev s_law_long : Stmt := topS 31
abbrev N_law_long : List Str := ["source", "drawn", "k"]
theorem sc_law_long : FnScope N_law_long ["source"] (defScope s_law_long) := ⟨rfl, rfl, rfl, by decide +kernel, rfl, by decide +kernel, by decide +kernel⟩
def sp_law_long (Tb : List (Addr × Str)) (K : PySem.W.Frag) : Sp := fun vs H Q _ => ∃ (p : Addr) (n : Nat) (L : List (Addr × HO)) (G : Hp), vs = [.ref p] ∧ Hs Tb p n L G H ∧ n + 10 < 1000000000 ∧ ∀ r H', 1 ≤ r → r < 10 ^ 60 → Hs Tb p (n + 10) L G H' → Q (.int r) H'
section
variable {P : Program} {w : World} {K : PySem.W.Frag} {mg : Str → Option Value} {base : Heap} {Tb : List (Addr × Str)}
theorem ok_law_long {f : Addr} {fd : FuncData} (F : FnP K "_law_long" s_law_long f fd) (T : Tx K mg) (G_law_draw : Fn P w K mg base "_law_draw" 1 ["source", "many"] (sp_law_draw Tb K)) : FnOk P w K mg base CX0 2 f fd ["source"] (sp_law_long Tb K) := by
  refine F.ok sc_law_long (fun vs H Q E h => ?_) (fun cdv A outer s H vs Q E hr h => ?_)
  · obtain ⟨_, _, _, _, rfl, _⟩ := h
    rfl
  · obtain ⟨p, n, L, G, rfl, hs, hn, k⟩ := h
    refine ⟨_, PSs.nox (pss_cons (ps_set (i := 1) sc_law_long.nd rfl (Or.inl rfl) pe_int)
      (pss_cons (ps_for PassesOwn.never rfl (pi_range1 (by rfl) T.n_range (pa_cons pe_int pa_nil)) (pg_name (i := 2) sc_law_long.nd rfl (Or.inl rfl)) (pss_one (ps_set (i := 1) sc_law_long.nd rfl (Or.inl rfl) (pe_op op_add (pe_op op_mul (pv 1) (pe_op op_pow pe_int pe_int)) (pe_fn G_law_draw (hr.mono (by decide)) (pa_cons (pv 0) (pa_cons (pe_op op_pow pe_int pe_int) pa_nil)))))))
      (pss_one (ps_ret (pe_ix (ixL (K := K) rfl) (pe_lst (pa_cons pe_int (pa_cons (pe_op op_add pe_int (pe_fn G_law_draw (hr.mono (by decide)) (pa_cons (pv 0) (pa_cons pe_int pa_nil)))) (pa_cons (pe_callB (call_max2 rfl) (by rfl) T.n_max (by decide +kernel) (pa_cons pe_int (pa_cons (pv 1) pa_nil))) (pa_cons (pe_op op_sub (pe_op op_sub (pe_op op_pow pe_int pe_int) pe_int) (pe_fn G_law_draw (hr.mono (by decide)) (pa_cons (pv 0) (pa_cons pe_int pa_nil)))) pa_nil))))) (pe_fn G_law_draw (hr.mono (by decide)) (pa_cons (pv 0) (pa_cons pe_int pa_nil))) (fun _ _ => rfl)))))), ?_⟩
    have e15 : (10 : Int) ^ (Int.toNat 15) = 10 ^ 15 := rfl
    refine ⟨_, rfl, by decide, by decide, for_range (lo := 0) (n := 4) (fun i σ H' => ∃ (d : Int) (s2 : Option V), σ = [some (.ref p), some (.int d), s2] ∧ 0 ≤ d ∧ d < (10 ^ 15) ^ i ∧ Hs Tb p (n + i) L G H') ⟨0, none, rfl, by decide, by decide, hs⟩ ?_ ?_⟩
    · rintro i σ H1 hi ⟨d, s2, rfl, d0, d1, h1⟩
      refine ⟨_, rfl, _, _, rfl, rfl, ⟨by decide, by decide, by decide⟩, _, _, rfl, rfl, .inr ⟨by decide, by decide⟩, _, rfl, _, _, rfl, rfl, ⟨by decide, by decide, by decide⟩, p, _, L, G, _, rfl, h1, by omega, by decide, by decide, fun r H' r0 r1 h => ?_⟩
      refine ⟨_, _, rfl, rfl, _, _, rfl, ?_, ?_, h⟩
      · rw [e15]
        omega
      · rw [e15] at r1 ⊢
        rw [Int.pow_succ ((10 : Int) ^ 15) i]
        generalize ((10 : Int) ^ 15) ^ i = X at d1 ⊢
        omega
    · rintro σ H1 ⟨d, s2, rfl, d0, d1, h1⟩
      refine ⟨_, rfl, p, _, L, G, 99, rfl, h1, by omega, by decide, by decide, fun r1 H2 r10 r11 h2 => ⟨_, _, rfl, rfl, _, rfl, _, _, rfl, _, _, rfl, rfl, ⟨by decide, by decide, by decide⟩, _, _, rfl, rfl, _, rfl, p, _, L, G, 9, rfl, h2, by omega, by decide, by decide, fun r2 H3 r20 r21 h3 => ⟨_, _, rfl, rfl, by show 4 ≤ sizeLine; decide, fun l hl => ?_⟩⟩⟩
      refine ⟨_, rfl, p, _, _, G, 4, rfl, h3.new hl .lst, by omega, by decide, by decide, fun r3 H4 r30 r31 h4 => ?_⟩
      have e60 : (10 : Int) ^ (Int.toNat 60) = 10 ^ 60 := rfl
      have e154 : ((10 : Int) ^ 15) ^ 4 = 10 ^ 60 := by decide
      rw [e154] at d1
      obtain ⟨z, ez, z0, z1⟩ := pick_int (P := fun i => 1 ≤ i ∧ i < 10 ^ 60) [1, 1 + r1, (if d > 1 then d else 1), (10 ^ (Int.toNat 60) - 1) - r2] rfl r30 r31 (by
        rw [e60]
        intro i hi
        rcases List.mem_cons.mp hi with rfl | hi
        · exact ⟨by decide, by decide⟩
        · rcases List.mem_cons.mp hi with rfl | hi
          · omega
          · rcases List.mem_cons.mp hi with rfl | hi
            · split <;> omega
            · rw [List.mem_singleton.mp hi]
              omega)
      exact ⟨l, _, r3, .int z, rfl, rfl, SqL.of (h4.get (i := 0) rfl), ez, k z H4 z0 z1 (h4.drop1.mono (by omega))⟩
end
end Sk
namespace Sk
open PySem PySem.Spec PyProof.Rows L2
abbrev s_law_goods : Stmt := topS 32
abbrev N_law_goods : List Str := ["source", "most", "found", "name"]
theorem sc_law_goods : FnScope N_law_goods ["source", "most"] (defScope s_law_goods) := ⟨rfl, rfl, rfl, by decide +kernel, rfl, by decide +kernel, by decide +kernel⟩
def sp_law_goods (Tb : List (Addr × Str)) (K : PySem.W.Frag) : Sp := fun vs H Q _ => ∃ (p : Addr) (n : Nat) (L : List (Addr × HO)) (G : Hp) (most : Int), vs = [.ref p, .int most] ∧ Hs Tb p n L G H ∧ n + 2000 < 1000000000 ∧ 0 ≤ most ∧ most ≤ 40 ∧
  ∀ r H' (d : Num), (d.map (·.1)).Nodup → (d.length : Int) ≤ most → (∀ q ∈ d, nameB q.1 = true ∧ 0 ≤ q.2 ∧ q.2 < 10 ^ 60) → Hs Tb p (n + 2000) ((r, .dK (dS d)) :: L) G H' → Q (.ref r) H'
section
variable {P : Program} {w : World} {K : PySem.W.Frag} {mg : Str → Option Value} {base : Heap} {Tb : List (Addr × Str)}
theorem ok_law_goods {f : Addr} {fd : FuncData} (F : FnP K "_law_goods" s_law_goods f fd) (T : Tx K mg) (G_law_draw : Fn P w K mg base "_law_draw" 1 ["source", "many"] (sp_law_draw Tb K)) (G_law_long : Fn P w K mg base "_law_long" 2 ["source"] (sp_law_long Tb K)) (G_law_names : Fn P w K mg base "_law_names" 3 ["source"] (sp_law_names Tb K)) : FnOk P w K mg base CX0 4 f fd ["source", "most"] (sp_law_goods Tb K) := by
  refine F.ok sc_law_goods (fun vs H Q E h => ?_) (fun cdv A outer s H vs Q E hr h => ?_)
  · obtain ⟨_, _, _, _, _, rfl, _⟩ := h
    rfl
  · obtain ⟨p, n, L, G, most, rfl, hs, hn, m0, m1, k⟩ := h
    refine ⟨_, PSs.nox (pss_cons (ps_set (i := 2) sc_law_goods.nd rfl (Or.inl rfl) pe_dnewK)
      (pss_cons (ps_for PassesOwn.never rfl (piL (K := K) rfl (pe_slice (slL (K := K) rfl) (pe_fn G_law_names (hr.mono (by decide)) (pa_cons (pv 0) pa_nil)) po_none (po_some (pe_fn G_law_draw (hr.mono (by decide)) (pa_cons (pv 0) (pa_cons (pe_op op_add (pv 1) pe_int) pa_nil)))))) (pg_name (i := 3) sc_law_goods.nd rfl (Or.inl rfl)) (pss_one (ps_dput (hu_of hr) (pv 2) (pv 3) (pe_ix (ixL (K := K) rfl) (pe_lst (pa_cons pe_int (pa_cons (pe_fn G_law_long (hr.mono (by decide)) (pa_cons (pv 0) pa_nil)) (pa_cons (pe_fn G_law_long (hr.mono (by decide)) (pa_cons (pv 0) pa_nil)) pa_nil)))) (pe_fn G_law_draw (hr.mono (by decide)) (pa_cons (pv 0) (pa_cons pe_int pa_nil))) (fun _ _ => rfl)) rfl)))
      (pss_one (ps_ret (pv 2))))), ?_⟩
    intro F hF
    have h1 := hs.new hF (.dK (xs := []))
    refine ⟨_, rfl, p, n, _, G, rfl, h1, by omega, fun a1 H2 ns hnd hnl hng hnb hs2 => ?_⟩
    refine ⟨_, rfl, _, rfl, _, _, rfl, rfl, p, n + 40, _, G, most + 1, rfl, hs2, by omega, by omega, by show most + 1 < 2 ^ 200; omega, fun d H3 d0 d1 hs3 => ?_⟩
    refine ⟨_, rfl, a1, _, rfl, SqL.of (hs3.get (i := 0) rfl), fun a2 ha2 => ?_⟩
    have ecut : cutV (ns.map V.str) none (some d) = (ns.take d.toNat).map V.str := by
      rw [cut_take (by omega), List.map_take]
    rw [ecut]
    generalize hsn : ns.take d.toNat = sn
    have snl : sn.length ≤ 40 ∧ (sn.length : Int) ≤ most := by rw [← hsn, List.length_take, hnl]; omega
    have snd : sn.Nodup := by rw [← hsn]; exact hnd.sublist (List.take_sublist _ _)
    have sng : ∀ x ∈ sn, nameB x = true := fun x hx => hng x (by rw [← hsn] at hx; exact List.mem_of_mem_take hx)
    clear ecut hsn
    have hs4 := hs3.drop1.new ha2 (.lst (xs := sn.map V.str))
    refine ⟨a2, rfl, ⟨_, SqL.of upd_same⟩, for_list (K := K) (a := a2) (xs := sn.map V.str) (fun i σ H' => ∃ (c : Num) (s3 : Option V), σ = [some (.ref p), some (.int most), some (.ref F), s3] ∧ (c.map (·.1)).Nodup ∧ c.length ≤ i ∧ (∀ q ∈ c, q.1 ∈ sn.take i ∧ 0 ≤ q.2 ∧ q.2 < 10 ^ 60) ∧ Hs Tb p (n + 41 + 22 * i) ((a2, .lst (sn.map V.str)) :: (F, .dK (dS c)) :: L) G H')
      ⟨[], none, rfl, List.nodup_nil, Nat.le_refl _, by simp, hs4.mono (by omega)⟩ (fun i σ H' _ ⟨_, _, _, _, _, _, h⟩ => SqL.of (h.get (i := 0) rfl)) ?_ ?_⟩
    · rintro i x σ H4 hx ⟨c, s3, rfl, cn, cl, cv, h4⟩
      rw [List.getElem?_map] at hx
      cases hq : sn[i]? with
      | none => rw [hq] at hx; cases hx
      | some q =>
        rw [hq] at hx
        cases hx
        have hi : i < sn.length := (List.getElem?_eq_some_iff.mp hq).1
        refine ⟨_, rfl, p, _, _, G, rfl, h4, by omega, fun r1 H5 r10 r11 h5 => ⟨_, rfl, p, _, _, G, rfl, h5, by omega, fun r2 H6 r20 r21 h6 => ⟨by show 3 ≤ sizeLine; decide, fun l hl => ?_⟩⟩⟩
        refine ⟨_, rfl, p, _, _, G, 3, rfl, h6.new hl .lst, by omega, by decide, by decide, fun d3 H7 d30 d31 h7 => ?_⟩
        obtain ⟨z, ez, z0, z1⟩ := pick_int (P := fun i => 0 ≤ i ∧ i < 10 ^ 60) [0, r1, r2] rfl d30 d31 (by simp; omega)
        have h8 := h7.drop1
        have nn : q ∉ c.map (·.1) := fun hm => by
          obtain ⟨z, hz, e⟩ := List.mem_map.mp hm
          have h9 := (cv z hz).1
          rw [e] at h9
          obtain ⟨j, hj⟩ := List.mem_iff_getElem?.mp h9
          have hji : j < i := by
            rcases Nat.lt_or_ge j i with q | q
            · exact q
            · rw [List.getElem?_take, if_neg (by omega)] at hj
              cases hj
          rw [List.getElem?_take_of_lt hji] at hj
          have := nodup_ix snd hj hq
          omega
        refine ⟨l, _, d3, .int z, rfl, rfl, SqL.of (h7.get (i := 0) rfl), ez, _, rfl, _, rfl, F, _, rfl, dputS (h8.get (i := 1) rfl) (by rw [sizeLine_eq]; omega), ?_⟩
        rw [put_new' nn]
        have tk : sn.take (i + 1) = sn.take i ++ [q] := by rw [List.take_add_one, hq]; rfl
        refine ⟨c ++ [(q, z)], _, rfl, ?_, ?_, fun y hy => ?_, (h8.put (i := 1) rfl .dK).mono (by omega)⟩
        · rw [List.map_append]
          refine List.nodup_append.mpr ⟨cn, by simp, fun x hx y hy => ?_⟩
          rw [List.mem_singleton.mp hy]
          intro e
          have e2 : x = q := e
          rw [e2] at hx
          exact nn hx
        · rw [List.length_append, List.length_singleton]
          omega
        · rw [tk]
          rcases List.mem_append.mp hy with hy | hy
          · exact ⟨List.mem_append_left _ (cv y hy).1, (cv y hy).2⟩
          · rw [List.mem_singleton.mp hy]
            exact ⟨List.mem_append_right _ (List.mem_singleton.mpr rfl), z0, z1⟩
    · rintro σ H4 ⟨c, s3, rfl, cn, cl, cv, h4⟩
      rw [List.length_map] at cl cv h4
      rw [List.take_length] at cv
      exact ⟨_, rfl, k F H4 c cn (by omega) (fun q hq => ⟨sng _ (cv q hq).1, (cv q hq).2⟩) (h4.drop1.mono (by omega))⟩
end
end Sk
namespace Sk
open PySem PySem.Spec PyProof.Rows L2
/-- name:number -/
def wordT (d : Num) (x : Str) : Str := x ++ Str.ofString ":" ++ Str.ofString (toString (getD d x))
def posK (ks : List Str) (d : Num) : List Str := ks.filter fun x => decide (0 < getD d x)
/-- the text of the numbers of d, the names in the order ks -/
def numT (ks : List Str) (d : Num) : Str := if posK ks d = [] then Str.ofString "-" else Txt.join (Str.ofString " ") ((posK ks d).map (wordT d))
structure Shows (d : Num) : Prop where
  nd : (d.map (·.1)).Nodup
  few : d.length < 64
  short : ∀ q ∈ d, q.1.length ≤ 8
  small : ∀ q ∈ d, q.2.natAbs < 10 ^ 100
theorem str_len (x y : Str) : (x ++ y).length = x.length + y.length := by
  show (x.cps ++ y.cps).size = x.cps.size + y.cps.size
  rw [Array.size_append]
theorem num_len2 {i : Int} (h : i.natAbs < 10 ^ 100) : (Str.ofString (toString i)).length ≤ 101 := shown_int h
theorem log_small {i : Int} (h : i.natAbs < 10 ^ 100) (p : 0 < i) : i.natAbs.log2 < 1920 := by
  rw [Nat.log2_lt (by omega)]
  exact Nat.lt_trans h (by decide)
theorem word_len {d : Num} {x : Str} (h : x.length ≤ 8) (h2 : (getD d x).natAbs < 10 ^ 100) : (wordT d x).length ≤ 110 := by
  unfold wordT
  rw [str_len, str_len]
  have h1 := num_len2 h2
  have e : (Str.ofString ":").length = 1 := by decide
  omega
def wordO (d : Num) (v : V) : Option V := match v with
  | .str x => if 0 < getD d x then some (.str (wordT d x)) else none
  | _ => none
theorem words_fm (d : Num) (ys : List Str) : (ys.map V.str).filterMap (wordO d) = ((posK ys d).map (wordT d)).map V.str := by
  unfold posK
  induction ys with
  | nil => rfl
  | cons y ys ih =>
    rw [List.map_cons, List.filterMap_cons, List.filter_cons]
    rw [show wordO d (V.str y) = (if 0 < getD d y then some (V.str (wordT d y)) else none) from rfl]
    by_cases c : 0 < getD d y
    · rw [if_pos c, if_pos (decide_eq_true c), ih]
      rfl
    · rw [if_neg c, if_neg (by rw [decide_eq_true_eq]; exact c), ih]
theorem Shows.get {d : Num} (sh : Shows d) {x : Str} (h : x ∈ d.map (·.1)) : ∃ i, get? d x = some i ∧ getD d x = i ∧ x.length ≤ 8 ∧ i.natAbs < 10 ^ 100 := by
  obtain ⟨q, hq, rfl⟩ := List.mem_map.mp h
  exact ⟨q.2, get?_mem sh.nd hq, getD_mem sh.nd hq, sh.short q hq, sh.small q hq⟩
theorem sum_le' {l : List Nat} {m : Nat} (h : ∀ x ∈ l, x ≤ m) : l.sum ≤ l.length * m := by
  induction l with
  | nil => exact Nat.zero_le _
  | cons x l ih =>
    rw [List.sum_cons, List.length_cons, Nat.succ_mul]
    have h1 := h x (List.mem_cons_self ..)
    have h2 := ih fun y hy => h y (List.mem_cons_of_mem _ hy)
    omega
theorem keys_dS (d : Num) : (dS d).map (·.1) = (d.map (·.1)).map Sum.inr := by
  unfold dS
  rw [List.map_map, List.map_map]
  rfl
/-- the words' length -/
theorem words_len {d : Num} {ys : List Str} (sh : Shows d) (hy : ys.Perm (d.map (·.1))) : (((posK ys d).map (wordT d)).map (·.length)).sum + ((posK ys d).map (wordT d)).length * 1 ≤ 16777216 := by
  have hl := hy.length_eq
  rw [List.length_map] at hl
  have hf := sh.few
  have h1 : (posK ys d).length ≤ ys.length := List.length_filter_le _ _
  have h2 := sum_le' (l := ((posK ys d).map (wordT d)).map (·.length)) (m := 110) fun x hx => by
    obtain ⟨z, hz, rfl⟩ := List.mem_map.mp hx
    obtain ⟨q, hq, rfl⟩ := List.mem_map.mp hz
    obtain ⟨i, a1, a2, a3, a4⟩ := sh.get (hy.mem_iff.mp (List.mem_filter.mp hq).1)
    exact word_len a3 (by rw [a2]; exact a4)
  rw [List.length_map, List.length_map] at h2
  rw [List.length_map]
  omega
end Sk
namespace Sk
open PySem PySem.Spec PyProof.Rows L2
abbrev s_law_goods_text : Stmt := topS 33
abbrev N_law_goods_text : List Str := ["goods", "words", "name"]
theorem sc_law_goods_text : FnScope N_law_goods_text ["goods"] (defScope s_law_goods_text) := ⟨rfl, rfl, rfl, by decide +kernel, rfl, by decide +kernel, by decide +kernel⟩
def sp_law_goods_text (Tb : List (Addr × Str)) (K : PySem.W.Frag) : Sp := fun vs H Q _ => ∃ (a : Addr) (d : Num), vs = [.ref a] ∧ H a = some (.dK (dS d)) ∧ Shows d ∧ ∀ ys H', ys.Perm (d.map (·.1)) → sortedS ys = true → Gr Tb H H' → Q (.str (numT ys d)) H'
section
variable {P : Program} {w : World} {K : PySem.W.Frag} {mg : Str → Option Value} {base : Heap} {Tb : List (Addr × Str)}
theorem ok_law_goods_text {f : Addr} {fd : FuncData} (F : FnP K "_law_goods_text" s_law_goods_text f fd) (T : Tx K mg) : FnOk P w K mg base CX0 1 f fd ["goods"] (sp_law_goods_text Tb K) := by
  refine F.ok sc_law_goods_text (fun vs H Q E h => ?_) (fun cdv A outer s H vs Q E hr h => ?_)
  · obtain ⟨_, _, rfl, _⟩ := h
    rfl
  · obtain ⟨a, d, rfl, ha, sh, k⟩ := h
    refine ⟨_, PSs.nox (pss_cons (ps_setLc (i := 1) (own := [("name", 2)]) (g := (gName 2)) (tt := _) rfl sc_law_goods_text.nd rfl rfl (sw_true rfl rfl rfl (by decide +kernel)) (piL (K := K) rfl (pe_callB (call_sortedD rfl) (by rfl) T.n_sorted (by decide +kernel) (pa_cons (pv 0) pa_nil))) (blkOk_by (N := N_law_goods_text) (sc := (defScope s_law_goods_text)) (by decide +kernel)) (fun _ _ _ _ _ => (pg_name (i := 2) sc_law_goods_text.nd rfl (Or.inl rfl))) (fun _ _ _ _ _ => (pts_one (pt_cmpR op_gt (pe_dget (hu_of hr) (pv 0) (pv 2) (fun _ _ => rfl)) pe_int (nomark _)))) (fun _ _ _ _ _ => (pe_op op_add_str (pe_op op_add_str (pv 2) pe_str) (pe_callTy call_str_int (by rfl) T.n_str (by decide +kernel) (pa_cons (pe_dget (hu_of hr) (pv 0) (pv 2) (fun _ _ => rfl)) pa_nil)))))
      (pss_one (ps_ret (pe_ifExp (pt_cmpR (opNeNil (K := K) rfl hr.units) (pv 1) (pe_lst pa_nil) (nomark _)) (peJoin (K := K) rfl pe_str (pv 1)) pe_str)))), ?_⟩
    refine ⟨_, rfl, a, dS d, d.map (·.1), rfl, .inl ha, keys_dS d, by rw [List.length_map]; exact sh.few, fun ys p hys hso hp => ⟨p, rfl, ⟨_, SqL.of upd_same⟩, fun D hD => lc_fm (Tb := Tb) (xs := ys.map V.str) walk_list rfl (wordO d) hD ?_ (fun H' g => SqL.of (g.at upd_same .lst)) (fun j v H' hv gg Rk Rs hk hs => ?_) fun H1 g1 hD1 => ?_⟩⟩
    · have := hys.length_eq
      have := sh.few
      rw [List.length_map] at *
      omega
    · rw [List.getElem?_map] at hv
      cases hq : ys[j]? with
      | none => rw [hq] at hv; cases hv
      | some q =>
        rw [hq] at hv
        cases hv
        obtain ⟨i, e1, e2, e3, e4⟩ := sh.get (hys.mem_iff.mp (List.mem_of_getElem? hq))
        have dg := dgetS (gg.at ((Gr.new (T := Tb) hp).at ha .dK) .dK) e1
        have ho : wordO d (.str q) = if 0 < i then some (.str (q ++ Str.ofString ":" ++ Str.ofString (toString i))) else none := by
          unfold wordO wordT
          simp only [e2]
        refine ⟨rfl, _, rfl, _, rfl, a, _, rfl, dg, _, _, rfl, rfl, _, rfl, ?_⟩
        refine ite2 (fun c1 => ?_) (fun c1 => ?_)
        · have c2 := of_decide_eq_true c1
          have hl := num_len2 e4
          have e : (Str.ofString ":").length = 1 := by decide
          refine ⟨_, rfl, _, _, rfl, rfl, by rw [e, sizeLine_eq]; omega, _, rfl, _, rfl, a, _, rfl, dg, i, rfl, log_small e4 c2, _, _, rfl, rfl, by rw [str_len, e, sizeLine_eq]; omega, hk _ _ ?_ (Gr.refl _)⟩
          rw [ho, if_pos c2]
        · exact hs _ (by rw [ho, if_neg fun z => c1 (decide_eq_true z)]) (Gr.refl _)
    · rw [words_fm] at hD1
      have g2 : Gr Tb H H1 := (Gr.new hp).trans g1
      have kk := fun H' => k ys H' hys hso
      unfold numT at kk
      refine ⟨_, rfl, rd_nil (SqL.of hD1) fun b hb => ⟨_, rfl, ?_⟩⟩
      have g3 : Gr Tb H1 (upd H1 b (.lst [])) := Gr.new hb
      cases hpk : posK ys d with
      | nil =>
        rw [hpk] at kk
        exact kk _ (g2.trans g3)
      | cons z zs =>
        have hw := words_len sh hys
        rw [hpk] at kk hD1 hw
        refine ⟨⟨_, rfl⟩, _, rfl, _, D, _, rfl, rfl, .inl (SqL.of (g3.at hD1 .lst)), hw, ?_⟩
        have := kk _ (g2.trans g3)
        rw [if_neg (by simp)] at this
        exact this
end
end Sk
namespace Sk
open PySem PySem.Spec PyProof.Rows L2
abbrev s_law_sign : Stmt := topS 34
abbrev N_law_sign : List Str := ["source", "some"]
theorem sc_law_sign : FnScope N_law_sign ["source"] (defScope s_law_sign) := ⟨rfl, rfl, rfl, by decide +kernel, rfl, by decide +kernel, by decide +kernel⟩
def sp_law_sign (Tb : List (Addr × Str)) (K : PySem.W.Frag) : Sp := fun vs H Q _ => ∃ (p : Addr) (n : Nat) (L : List (Addr × HO)) (G : Hp), vs = [.ref p] ∧ Hs Tb p n L G H ∧ n + 5 < 1000000000 ∧ ∀ c H', Hs Tb p (n + 2) L G H' → Q (.str ⟨#[c]⟩) H'
theorem at_some (z : Str) {i : Int} (h0 : 0 ≤ i) (h1 : i < (z.length : Int)) : ∃ c, atI z.cps.toList i = some c := by
  obtain ⟨n, rfl⟩ := Int.eq_ofNat_of_zero_le h0
  have hn : n < z.cps.toList.length := by
    rw [Array.length_toList]
    have : z.length = z.cps.size := rfl
    omega
  exact ⟨_, atI_nat (List.getElem?_eq_getElem hn)⟩
section
variable {P : Program} {w : World} {K : PySem.W.Frag} {mg : Str → Option Value} {base : Heap} {Tb : List (Addr × Str)}
theorem ok_law_sign {f : Addr} {fd : FuncData} (F : FnP K "_law_sign" s_law_sign f fd) (T : Tx K mg) (G_law_draw : Fn P w K mg base "_law_draw" 1 ["source", "many"] (sp_law_draw Tb K)) : FnOk P w K mg base CX0 2 f fd ["source"] (sp_law_sign Tb K) := by
  refine F.ok sc_law_sign (fun vs H Q E h => ?_) (fun cdv A outer s H vs Q E hr h => ?_)
  · obtain ⟨_, _, _, _, rfl, _⟩ := h
    rfl
  · obtain ⟨p, n, L, G, rfl, hs, hn, k⟩ := h
    refine ⟨_, PSs.nox (pss_cons (ps_set (i := 1) sc_law_sign.nd rfl (Or.inl rfl) pe_str)
      (pss_cons (ps_if (pt_cmpR op_eq (pe_fn G_law_draw (hr.mono (by decide)) (pa_cons (pv 0) (pa_cons pe_int pa_nil))) pe_int (nomark _)) (pss_one (ps_ret (pe_ix ix_str (pv 1) (pe_fn G_law_draw (hr.mono (by decide)) (pa_cons (pv 0) (pa_cons (pe_callB call_len_str (by rfl) T.n_len (by decide +kernel) (pa_cons (pv 1) pa_nil)) pa_nil))) (fun _ _ => rfl)))) pss_nil)
      (pss_cons (ps_set (i := 1) sc_law_sign.nd rfl (Or.inl rfl) pe_str)
      (pss_cons (ps_set (i := 1) sc_law_sign.nd rfl (Or.inl rfl) (pe_op op_add_str (pv 1) pe_str))
      (pss_one (ps_ret (pe_ix ix_str (pv 1) (pe_fn G_law_draw (hr.mono (by decide)) (pa_cons (pv 0) (pa_cons (pe_callB call_len_str (by rfl) T.n_len (by decide +kernel) (pa_cons (pv 1) pa_nil)) pa_nil))) (fun _ _ => rfl)))))))), ?_⟩
    refine ⟨_, rfl, p, n, L, G, 2, rfl, hs, by omega, by decide, by decide, fun r H1 r0 r1 h1 => ?_⟩
    refine ⟨rfl, _, rfl, ite2 (fun q => ?_) (fun q => ?_)⟩
    · refine ⟨_, rfl, _, rfl, _, rfl, _, rfl, by decide, p, _, L, G, _, rfl, h1, by omega, by decide, by decide, fun r2 H2 r20 r21 h2 => ?_⟩
      obtain ⟨c, hc⟩ := at_some _ r20 r21
      exact ⟨_, _, c, rfl, rfl, by decide, hc, k c H2 h2⟩
    · refine ⟨_, rfl, _, _, rfl, rfl, by decide, ?_⟩
      refine ⟨_, rfl, _, rfl, _, rfl, _, rfl, by decide, p, _, L, G, _, rfl, h1, by omega, by decide, by decide, fun r2 H2 r20 r21 h2 => ?_⟩
      obtain ⟨c, hc⟩ := at_some _ r20 r21
      exact ⟨_, _, c, rfl, rfl, by decide, hc, k c H2 h2⟩
end
end Sk
namespace Sk
open PySem PySem.Spec PyProof.Rows L2
/-! ### texts that are changed -/
def nSp (t : Str) : Nat := t.cps.toList.count 32
def hasCs (t : Str) : Prop := (Txt.split t (Str.ofString ", ")).length ≠ 1
structure Chg (t t' : Str) : Prop where
  len : t'.length ≤ 2 * t.length + 70
  sp : nSp t' ≤ nSp t + 6 ∨ nSp t' ≤ 2 * nSp t ∨ (nSp t' ≤ 2 * nSp t + 1 ∧ hasCs t' ∧ ¬ hasCs t)
theorem cnt_count (c : Nat) : ∀ l : List Nat, PyProof.Rows.cnt c l = (l.count c : Int)
  | [] => rfl
  | k :: r => by
    rw [cnt_cons, cnt_count c r, List.count_cons]
    by_cases h : k = c
    · simp [h]
      try omega
    · simp [h]
theorem words_nSp (t : Str) : (Txt.split t (Str.ofString " ")).length = 1 + nSp t := by
  have h := split_len t 32
  rw [cnt_count] at h
  have e : Str.ofString " " = ⟨#[32]⟩ := rfl
  rw [e]
  unfold nSp
  omega
/-- a measure that adds up -/
structure Meas (f : List Nat → Nat) : Prop where
  add : ∀ a b, f (a ++ b) = f a + f b
theorem Meas.len : Meas List.length := ⟨fun _ _ => List.length_append⟩
theorem Meas.cnt : Meas (List.count 32) := ⟨fun _ _ => List.count_append⟩
theorem Meas.nil {f : List Nat → Nat} (m : Meas f) : f [] = 0 := by
  have := m.add [] []
  rw [List.append_nil] at this
  omega
theorem Meas.joinL {f : List Nat → Nat} (m : Meas f) (M : List Nat) : ∀ ls : List (List Nat), ls ≠ [] → f (TL.joinL M ls) + f M = (ls.map f).sum + ls.length * f M
  | [], h => absurd rfl h
  | [p], _ => by
    show f p + f M = _
    simp
  | p :: q :: r, _ => by
    have ih := m.joinL M (q :: r) (by simp)
    show f (p ++ (M ++ TL.joinL M (q :: r))) + f M = _
    rw [m.add, m.add, List.map_cons, List.sum_cons, List.length_cons (as := q :: r), Nat.succ_mul]
    omega
theorem Meas.join {f : List Nat → Nat} (m : Meas f) (M : Str) {ps : List Str} (h : ps ≠ []) : f (Txt.join M ps).cps.toList + f M.cps.toList = (ps.map fun p => f p.cps.toList).sum + ps.length * f M.cps.toList := by
  have := m.joinL (TL.tl M) (ps.map TL.tl) (by simpa using h)
  rw [TL.join_eq]
  show f (TL.tl (Str.join M ps)) + f (TL.tl M) = _
  rw [TL.tl_join, this, List.map_map, List.length_map]
  rfl
theorem Meas.split {f : List Nat → Nat} (m : Meas f) (t M : Str) : f t.cps.toList + f M.cps.toList = ((Txt.split t M).map fun p => f p.cps.toList).sum + (Txt.split t M).length * f M.cps.toList := by
  have h := m.join M (ps := Txt.split t M) (fun z => by
    have := split_pos t M
    rw [z] at this
    exact absurd this (by decide))
  rw [TL.join_eq, PySem.StrLaws.join_split] at h
  exact h
theorem sum_mem {l : List Nat} {x : Nat} (h : x ∈ l) : x ≤ l.sum := by
  induction l with
  | nil => cases h
  | cons y l ih =>
    rw [List.sum_cons]
    rcases List.mem_cons.mp h with rfl | h
    · omega
    · have := ih h
      omega
theorem sum_app (a b : List Nat) : (a ++ b).sum = a.sum + b.sum := by
  induction a with
  | nil => simp
  | cons x a ih => rw [List.cons_append, List.sum_cons, List.sum_cons, ih]; omega
theorem split_at {α : Type} {l : List α} {i : Nat} {x : α} (h : l[i]? = some x) : l = l.take i ++ x :: l.drop (i + 1) := by
  have hi := (List.getElem?_eq_some_iff.mp h).1
  have e : l[i] = x := (List.getElem?_eq_some_iff.mp h).2
  rw [← e, List.getElem_cons_drop, List.take_append_drop]
/-- a part more or less -/
theorem sum_at {g : Str → Nat} {ps : List Str} {i : Nat} {x : Str} (h : ps[i]? = some x) : (ps.map g).sum = ((ps.take i).map g).sum + g x + ((ps.drop (i + 1)).map g).sum := by
  have e := split_at h
  have e2 : (ps.map g).sum = ((ps.take i ++ x :: ps.drop (i + 1)).map g).sum := by rw [← e]
  rw [e2, List.map_append, sum_app, List.map_cons, List.sum_cons]
  omega
/-! two parts: the separator is found -/
theorem spl_ne (S : List Nat) : ∀ (l : List Nat) (k : Nat) (acc : List Nat), 1 ≤ (TL.spl S k acc l).length
  | [], k, acc => by rw [TL.spl_nil]; exact Nat.le_refl _
  | c :: r, 0, acc => by
    show 1 ≤ (if TL.pre S (c :: r) = true then acc :: TL.spl S (S.length - 1) [] r else TL.spl S 0 (acc ++ [c]) r).length
    split
    · rw [List.length_cons]
      omega
    · exact spl_ne S r 0 _
  | c :: r, k + 1, acc => spl_ne S r k acc
theorem spl_two {S : List Nat} (hS : S ≠ []) (y : List Nat) : ∀ (x acc : List Nat), 2 ≤ (TL.spl S 0 acc (x ++ (S ++ y))).length
  | [], acc => by
    have h := TL.pre_self S y
    cases hq : S ++ y with
    | nil => exact absurd (List.append_eq_nil_iff.mp hq).1 hS
    | cons c r =>
      rw [hq] at h
      rw [List.nil_append, TL.spl_hit h, List.length_cons]
      have := spl_ne S r (S.length - 1) []
      omega
  | c :: x, acc => by
    cases h : TL.pre S (c :: (x ++ (S ++ y))) with
    | true =>
      rw [List.cons_append, TL.spl_hit h, List.length_cons]
      have := spl_ne S (x ++ (S ++ y)) (S.length - 1) []
      omega
    | false =>
      rw [List.cons_append, TL.spl_miss h]
      exact spl_two hS y x _
theorem hasCs_two (x y : Str) : hasCs (x ++ Str.ofString ", " ++ y) := by
  have h := congrArg List.length (TL.split_spl (x ++ Str.ofString ", " ++ y) (Str.ofString ", ") (by decide) (TL.kind_ok (by decide +kernel)))
  rw [List.length_map] at h
  have e : TL.tl (x ++ Str.ofString ", " ++ y) = TL.tl x ++ (TL.tl (Str.ofString ", ") ++ TL.tl y) := by
    rw [TL.tl_append, TL.tl_append, List.append_assoc]
  rw [e] at h
  have := spl_two (S := TL.tl (Str.ofString ", ")) (by decide) (TL.tl y) (TL.tl x) []
  unfold hasCs
  omega
/-! the four ways to change the parts -/
theorem Meas.removed {f : List Nat → Nat} (m : Meas f) {t M : Str} {i : Nat} {x : Str} (h : (Txt.split t M)[i]? = some x) : f (Txt.join M ((Txt.split t M).take i ++ (Txt.split t M).drop (i + 1))).cps.toList ≤ f t.cps.toList := by
  have h1 := m.split t M
  have h2 := sum_at (g := fun p => f p.cps.toList) h
  have hi := (List.getElem?_eq_some_iff.mp h).1
  generalize Txt.split t M = ps at h h1 h2 hi
  by_cases hq : ps.take i ++ ps.drop (i + 1) = []
  · rw [hq]
    have e : (Txt.join M []).cps.toList = [] := by
      rw [TL.join_eq]
      rfl
    rw [e, m.nil]
    exact Nat.zero_le _
  · have h3 := m.join M hq
    rw [List.map_append, sum_app] at h3
    have e : (ps.take i ++ ps.drop (i + 1)).length + 1 = ps.length := by
      rw [List.length_append, List.length_take, List.length_drop]
      omega
    rw [← e, Nat.succ_mul] at h1
    omega
theorem Meas.doubled {f : List Nat → Nat} (m : Meas f) {t M : Str} {i : Nat} {x : Str} (h : (Txt.split t M)[i]? = some x) : f (Txt.join M ((Txt.split t M).take i ++ [x] ++ (Txt.split t M).drop i)).cps.toList = f t.cps.toList + f x.cps.toList + f M.cps.toList := by
  have h1 := m.split t M
  have hi := (List.getElem?_eq_some_iff.mp h).1
  generalize Txt.split t M = ps at h h1 hi
  have h3 := m.join M (ps := ps.take i ++ [x] ++ ps.drop i) (by simp)
  have e1 : ((ps.take i ++ [x] ++ ps.drop i).map fun p => f p.cps.toList).sum = (ps.map fun p => f p.cps.toList).sum + f x.cps.toList := by
    have e2 : (ps.map fun p => f p.cps.toList).sum = ((ps.take i ++ ps.drop i).map fun p => f p.cps.toList).sum := by rw [List.take_append_drop]
    rw [e2, List.map_append, List.map_append, List.map_append, sum_app, sum_app, sum_app]
    simp
    omega
  have e3 : (ps.take i ++ [x] ++ ps.drop i).length = ps.length + 1 := by
    rw [List.length_append, List.length_append, List.length_take, List.length_drop, List.length_singleton]
    omega
  rw [e1, e3, Nat.succ_mul] at h3
  omega
theorem Meas.perm {f : List Nat → Nat} (m : Meas f) {t M : Str} {qs : List Str} (h : qs.Perm (Txt.split t M)) : f (Txt.join M qs).cps.toList = f t.cps.toList := by
  have h1 := m.split t M
  have hp := split_pos t M
  generalize Txt.split t M = ps at h h1 hp
  have h3 := m.join M (ps := qs) (fun z => by
    rw [z] at h
    have := h.length_eq
    rw [List.length_nil] at this
    omega)
  rw [(h.map _).sum_nat, h.length_eq] at h3
  omega
theorem Meas.put {f : List Nat → Nat} (m : Meas f) {t M : Str} {i : Nat} {x o : Str} (h : (Txt.split t M)[i]? = some x) : f (Txt.join M ((Txt.split t M).set i o)).cps.toList ≤ f t.cps.toList + f o.cps.toList := by
  have h1 := m.split t M
  have h2 := sum_at (g := fun p => f p.cps.toList) h
  have hi := (List.getElem?_eq_some_iff.mp h).1
  generalize Txt.split t M = ps at h h1 h2 hi
  have h3 := m.join M (ps := ps.set i o) (fun z => by
    have := congrArg List.length z
    rw [List.length_set, List.length_nil] at this
    omega)
  rw [List.length_set] at h3
  rw [List.set_eq_take_append_cons_drop, if_pos hi] at h3 ⊢
  rw [List.map_append, sum_app, List.map_cons, List.sum_cons] at h3
  omega
theorem nSp_len (t : Str) : t.length = t.cps.toList.length := by
  rw [Array.length_toList]
  rfl
def MarkOk (M : Str) : Prop := M = Str.ofString " " ∨ M = Str.ofString ", " ∨ M = Str.ofString ":"
theorem Chg.removed {t M : Str} {i : Nat} {x : Str} (h : (Txt.split t M)[i]? = some x) : Chg t (Txt.join M ((Txt.split t M).take i ++ (Txt.split t M).drop (i + 1))) := by
  have h1 := Meas.len.removed h
  have h2 := Meas.cnt.removed h
  rw [← nSp_len, ← nSp_len] at h1
  exact ⟨by omega, .inl (Nat.le_trans h2 (Nat.le_add_right _ _))⟩
theorem Chg.perm {t M : Str} {qs : List Str} (h : qs.Perm (Txt.split t M)) : Chg t (Txt.join M qs) := by
  have h1 := Meas.len.perm h
  have h2 := Meas.cnt.perm h
  rw [← nSp_len, ← nSp_len] at h1
  exact ⟨by omega, .inl (by unfold nSp; omega)⟩
theorem Chg.put {t M : Str} {i : Nat} {x o : Str} (h : (Txt.split t M)[i]? = some x) (ho : o.length ≤ 70 ∧ nSp o ≤ 6) : Chg t (Txt.join M ((Txt.split t M).set i o)) := by
  have h1 := Meas.len.put (o := o) h
  have h2 := Meas.cnt.put (o := o) h
  rw [← nSp_len, ← nSp_len, ← nSp_len] at h1
  unfold nSp at ho
  exact ⟨by omega, .inl (by unfold nSp; omega)⟩
theorem Chg.doubled {t M : Str} {i : Nat} {x : Str} (hM : MarkOk M) (h : (Txt.split t M)[i]? = some x) : Chg t (Txt.join M ((Txt.split t M).take i ++ [x] ++ (Txt.split t M).drop i)) := by
  have h1 := Meas.len.doubled h
  have h2 := Meas.cnt.doubled h
  have h3 := Meas.cnt.split t M
  have hx := List.mem_of_getElem? h
  have hm : x.cps.toList.count 32 ≤ ((Txt.split t M).map fun p => p.cps.toList.count 32).sum := sum_mem (List.mem_map.mpr ⟨x, hx, rfl⟩)
  have hl := part_short hx
  have hp := split_pos t M
  rw [← nSp_len, ← nSp_len, ← nSp_len, ← nSp_len] at h1
  refine ⟨?_, ?_⟩
  · rcases hM with rfl | rfl | rfl
    · have e : (Str.ofString " ").length = 1 := by decide
      omega
    · have e : (Str.ofString ", ").length = 2 := by decide
      omega
    · have e : (Str.ofString ":").length = 1 := by decide
      omega
  unfold nSp
  rcases hM with rfl | rfl | rfl
  · have e : (Str.ofString " ").cps.toList.count 32 = 1 := by decide
    have e2 : x.cps.toList.count 32 = 0 := List.count_eq_zero.mpr (PySem.StrLaws.split_free t 32 x hx)
    exact .inl (by omega)
  · have e : (Str.ofString ", ").cps.toList.count 32 = 1 := by decide
    rw [e, Nat.mul_one] at h3
    by_cases one : (Txt.split t (Str.ofString ", ")).length = 1
    · refine .inr (.inr ⟨by omega, ?_, fun z => z one⟩)
      have hi := (List.getElem?_eq_some_iff.mp h).1
      have i0 : i = 0 := by omega
      subst i0
      obtain ⟨y, ey⟩ := List.length_eq_one_iff.mp one
      rw [ey] at h ⊢
      have e3 : y = x := Option.some.inj h
      subst e3
      show hasCs (Txt.join (Str.ofString ", ") [y, y])
      rw [TL.join_eq]
      exact hasCs_two y y
    · exact .inr (.inl (by omega))
  · have e : (Str.ofString ":").cps.toList.count 32 = 0 := by decide
    exact .inr (.inl (by omega))
/-- signs put in or taken out -/
theorem Chg.cut {t a b c : Str} (ha : a.length + b.length ≤ t.length) (hs : nSp a + nSp b ≤ nSp t) (hc : c.length ≤ 1) : Chg t (a ++ c ++ b) := by
  have hc2 : nSp c ≤ 1 := by
    unfold nSp
    have := List.count_le_length (a := 32) (l := c.cps.toList)
    rw [← nSp_len] at this
    omega
  refine ⟨?_, .inl ?_⟩
  · show (a.cps ++ c.cps ++ b.cps).size ≤ _
    rw [Array.size_append, Array.size_append]
    have e1 : a.cps.size = a.length := rfl
    have e2 : b.cps.size = b.length := rfl
    have e3 : c.cps.size = c.length := rfl
    omega
  · show (a.cps ++ c.cps ++ b.cps).toList.count 32 ≤ _
    rw [Array.toList_append, Array.toList_append, List.count_append, List.count_append]
    unfold nSp at hs hc2 ⊢
    omega
/-- three changes at most -/
def Spc (k : Nat) (t : Str) : Prop := (k = 0 ∧ nSp t ≤ 7) ∨ (k = 1 ∧ (nSp t ≤ 14 ∨ (nSp t ≤ 15 ∧ hasCs t))) ∨ (k = 2 ∧ nSp t ≤ 30) ∨ (k = 3 ∧ nSp t ≤ 61)
theorem Spc.next {k : Nat} {t t' : Str} (h : Spc k t) (c : Chg t t') (hk : k < 3) : Spc (k + 1) t' := by
  have c := c.sp
  rcases h with ⟨rfl, h⟩ | ⟨rfl, h⟩ | ⟨rfl, h⟩ | ⟨rfl, h⟩
  · refine .inr (.inl ⟨rfl, ?_⟩)
    rcases c with c | c | ⟨c, d, _⟩
    · exact .inl (by omega)
    · exact .inl (by omega)
    · exact .inr ⟨by omega, d⟩
  · refine .inr (.inr (.inl ⟨rfl, ?_⟩))
    rcases c with c | c | ⟨c, _, d⟩
    · omega
    · omega
    · rcases h with h | ⟨_, h⟩
      · omega
      · exact absurd h d
  · exact .inr (.inr (.inr ⟨rfl, by omega⟩))
  · omega
theorem Spc.few {k : Nat} {t : Str} (h : Spc k t) : nSp t ≤ 61 := by
  rcases h with ⟨_, h⟩ | ⟨_, h⟩ | ⟨_, h⟩ | ⟨_, h⟩ <;> omega
theorem Chg.small {t M : Str} {qs : List Str} (c : Chg t (Txt.join M qs)) (ht : t.length ≤ 1000000) (hM : MarkOk M) : (qs.map (·.length)).sum + qs.length * M.length ≤ 16777216 := by
  by_cases h : qs = []
  · subst h
    simp
  · have h1 := Meas.len.join M h
    have h2 := c.len
    have e : (qs.map fun p => p.cps.toList.length) = qs.map (·.length) := List.map_congr_left fun p _ => (nSp_len p).symm
    rw [e, ← nSp_len, ← nSp_len] at h1
    have h3 : M.length ≤ 2 := by rcases hM with rfl | rfl | rfl <;> decide
    omega
end Sk
namespace Sk
open PySem PySem.Spec PyProof.Rows L2
def oddS1 : List String := ["", "-", "--", "- -", " ", "a", "a:1", "a:0", "a:01", "a:-1", "a:+1", "a:1_0", "a: 1", "a :1", "a:1 a:2"] ++ ["a:1 b:2", "b:2 a:1", "a:1  b:2", "a:1 -", "A:1", "a1:1", "abcdefgh:1", "abcdefghi:1", ":1", "a:"] ++ ["a::1", "a 1", "a 0", "a 01", "a -1", "a +1", "a 1 a", "a 1, b 2 a", "a 2 b, b 1", "a 1,b 2"] ++ ["a 1 , b 2", "a 1,", "a 1, b 1 a", "a 1, a 2", "a 1, b 2 a a a", "a 1, b 2 c", "b 2 a, a 1"] ++ ["a 1 ", " a 1", "a  1", "a 1, "]
def nines (k : Nat) : Str := Txt.mul "9" k
def oddL : List Str := oddS1.map Str.ofString ++ [Str.ofString "a:" ++ nines 60, Str.ofString "a:" ++ nines 61, Str.ofString "a " ++ nines 60, Str.ofString "a " ++ nines 61] ++ ["0", "1", "a,", "new"].map Str.ofString
def sp_law_odd_texts (Tb : List (Addr × Str)) (K : PySem.W.Frag) : Sp := fun vs H Q _ => vs = [] ∧ ∀ r H', Gr Tb H H' → Nw H r → H' r = some (.lst (oddL.map V.str)) → Q (.ref r) H'
end Sk
namespace Sk
open PySem PySem.Spec PyProof.Rows L2
abbrev s_law_parts_changed : Stmt := topS 35
abbrev N_law_parts_changed : List Str := ["source", "text", "odd", "mark", "parts", "one", "other", "choice"]
theorem sc_law_parts_changed : FnScope N_law_parts_changed ["source", "text", "odd"] (defScope s_law_parts_changed) := ⟨rfl, rfl, rfl, by decide +kernel, rfl, by decide +kernel, by decide +kernel⟩
def sp_law_parts_changed (Tb : List (Addr × Str)) (K : PySem.W.Frag) : Sp := fun vs H Q _ => ∃ (p lo : Addr) (n : Nat) (L : List (Addr × HO)) (G : Hp) (t : Str), vs = [.ref p, .str t, .ref lo] ∧ Hs Tb p n L G H ∧ n + 20 < 1000000000 ∧ t.length ≤ 1000000 ∧ G lo = some (.lst (oddL.map V.str)) ∧ ∀ t' H', Chg t t' → Hs Tb p (n + 20) L G H' → Q (.str t') H'
theorem odd_ok : ∀ o ∈ oddL, o.length ≤ 70 ∧ nSp o ≤ 6 := by decide +kernel
theorem pick_s {l : List Str} {x : Int} (x0 : 0 ≤ x) (x1 : x < l.length) : ∃ y, atI (l.map V.str) x = some (.str y) ∧ y ∈ l := by
  obtain ⟨v, hv, e⟩ := pick_at (xs := l.map V.str) x0 (by rw [List.length_map]; exact x1)
  obtain ⟨y, hy, rfl⟩ := List.mem_map.mp hv
  exact ⟨y, e, hy⟩
theorem cut_drop {α : Type} (xs : List V) (k : Nat) : cutV xs (some (k : Int)) none = xs.drop k := by
  unfold cutV
  rw [HT.sIx_nat, HT.sIx_none]
  rcases Nat.lt_or_ge k xs.length with h | h
  · rw [Nat.min_eq_left (Nat.le_of_lt h), List.take_of_length_le (by rw [List.length_drop]; exact Nat.le_refl _)]
  · rw [Nat.min_eq_right h, List.drop_length, List.take_nil, List.drop_eq_nil_of_le h]
theorem cut_at {xs : List V} {k : Nat} {x : V} (h : xs[k]? = some x) : cutV xs (some (k : Int)) (some ((k : Int) + 1)) = [x] := by
  have hk := (List.getElem?_eq_some_iff.mp h).1
  have e : ((k : Int) + 1) = ((k + 1 : Nat) : Int) := by omega
  unfold cutV
  rw [e, HT.sIx_nat, HT.sIx_nat, Nat.min_eq_left (Nat.le_of_lt hk), Nat.min_eq_left hk, show k + 1 - k = 1 by omega, List.take_one, List.head?_drop, h]
  rfl
theorem ixN_nat {n i : Nat} (h : i < n) : ixN n (i : Int) = some i := by
  unfold ixN
  rw [if_pos (by omega), if_pos (by omega)]
  rfl
section
variable {P : Program} {w : World} {K : PySem.W.Frag} {mg : Str → Option Value} {base : Heap} {Tb : List (Addr × Str)}
theorem ok_law_parts_changed {f : Addr} {fd : FuncData} (F : FnP K "_law_parts_changed" s_law_parts_changed f fd) (T : Tx K mg) (G_law_draw : Fn P w K mg base "_law_draw" 1 ["source", "many"] (sp_law_draw Tb K)) : FnOk P w K mg base CX0 2 f fd ["source", "text", "odd"] (sp_law_parts_changed Tb K) := by
  refine F.ok sc_law_parts_changed (fun vs H Q E h => ?_) (fun cdv A outer s H vs Q E hr h => ?_)
  · obtain ⟨_, _, _, _, _, _, rfl, _⟩ := h
    rfl
  · obtain ⟨p, lo, n, L, G, t, rfl, hs, hn, ht, hG, k⟩ := h
    refine ⟨_, PSs.nox (pss_cons (ps_set (i := 3) sc_law_parts_changed.nd rfl (Or.inl rfl) (pe_ix (ixL (K := K) rfl) (pe_lst (pa_cons pe_str (pa_cons pe_str (pa_cons pe_str pa_nil)))) (pe_fn G_law_draw (hr.mono (by decide)) (pa_cons (pv 0) (pa_cons pe_int pa_nil))) (fun _ _ => rfl)))
      (pss_cons (ps_set (i := 4) sc_law_parts_changed.nd rfl (Or.inl rfl) (pe_split (pv 1) (pv 3)))
      (pss_cons (ps_set (i := 5) sc_law_parts_changed.nd rfl (Or.inl rfl) (pe_fn G_law_draw (hr.mono (by decide)) (pa_cons (pv 0) (pa_cons (pe_callB (lenS (K := K) rfl) (by rfl) T.n_len (by decide +kernel) (pa_cons (pv 4) pa_nil)) pa_nil))))
      (pss_cons (ps_set (i := 6) sc_law_parts_changed.nd rfl (Or.inl rfl) (pe_fn G_law_draw (hr.mono (by decide)) (pa_cons (pv 0) (pa_cons (pe_callB (lenS (K := K) rfl) (by rfl) T.n_len (by decide +kernel) (pa_cons (pv 4) pa_nil)) pa_nil))))
      (pss_cons (ps_set (i := 7) sc_law_parts_changed.nd rfl (Or.inl rfl) (pe_fn G_law_draw (hr.mono (by decide)) (pa_cons (pv 0) (pa_cons pe_int pa_nil))))
      (pss_cons (ps_if (pt_cmpR op_eq (pv 7) pe_int (nomark _)) (pss_one (ps_set (i := 4) sc_law_parts_changed.nd rfl (Or.inl rfl) (pe_op op_cat (pe_slice (slL (K := K) rfl) (pv 4) po_none (po_some (pv 5))) (pe_slice (slL (K := K) rfl) (pv 4) (po_some (pe_op op_add (pv 5) pe_int)) po_none)))) (pss_one (ps_if (pt_cmpR op_eq (pv 7) pe_int (nomark _)) (pss_one (ps_set (i := 4) sc_law_parts_changed.nd rfl (Or.inl rfl) (pe_op op_cat (pe_op op_cat (pe_slice (slL (K := K) rfl) (pv 4) po_none (po_some (pv 5))) (pe_slice (slL (K := K) rfl) (pv 4) (po_some (pv 5)) (po_some (pe_op op_add (pv 5) pe_int)))) (pe_slice (slL (K := K) rfl) (pv 4) (po_some (pv 5)) po_none)))) (pss_one (ps_if (pt_cmpR op_eq (pv 7) pe_int (nomark _)) (pss_one (ps_asg (pe_tup (pa_cons (pe_ix (ixL (K := K) rfl) (pv 4) (pv 6) (fun _ _ => rfl)) (pa_cons (pe_ix (ixL (K := K) rfl) (pv 4) (pv 5) (fun _ _ => rfl)) pa_nil))) (pg_tup rfl (pgs_cons (pg_sub (pv 4) (pv 5) set_list) (pgs_cons (pg_sub (pv 4) (pv 6) set_list) pgs_nil))))) (pss_one (ps_asg (pe_ix (ixL (K := K) rfl) (pv 2) (pe_fn G_law_draw (hr.mono (by decide)) (pa_cons (pv 0) (pa_cons (pe_callB (lenS (K := K) rfl) (by rfl) T.n_len (by decide +kernel) (pa_cons (pv 2) pa_nil)) pa_nil))) (fun _ _ => rfl)) (pg_sub (pv 4) (pv 5) set_list))))))))
      (pss_one (ps_ret (peJoin (K := K) rfl (pv 3) (pv 4)))))))))), ?_⟩
    refine ⟨by show 3 ≤ sizeLine; decide, fun l0 hl0 => ⟨_, rfl, p, _, _, G, 3, rfl, hs.new hl0 (.lst (xs := [.str " ", .str ", ", .str ":"])), by omega, by decide, by decide, fun d H1 d0 d1 h1 => ?_⟩⟩
    obtain ⟨M, eM, hM⟩ : ∃ M, atI [V.str " ", V.str ", ", V.str ":"] d = some (.str M) ∧ MarkOk M := by
      have : d = 0 ∨ d = 1 ∨ d = 2 := by omega
      rcases this with rfl | rfl | rfl
      · exact ⟨_, rfl, .inl rfl⟩
      · exact ⟨_, rfl, .inr (.inl rfl)⟩
      · exact ⟨_, rfl, .inr (.inr rfl)⟩
    have M0 : (M.length == 0) = false := by rcases hM with rfl | rfl | rfl <;> decide
    refine ⟨l0, _, d, .str M, rfl, rfl, SqL.of (h1.get (i := 0) rfl), eM, ?_⟩
    refine ⟨_, rfl, ⟨_, rfl⟩, _, rfl, t, M, rfl, rfl, M0, by rw [sizeLine_eq]; omega, fun q hq => ?_⟩
    have h2 := h1.drop1.new hq (.lst (xs := (Txt.split t M).map V.str))
    have hpos := split_pos t M
    have hle := split_le t M
    have h200 : (10000000 : Int) < 2 ^ 200 := by decide
    refine ⟨_, rfl, _, rfl, q, _, rfl, .inl (SqL.of (h2.get (i := 0) rfl)), p, _, _, G, _, rfl, h2, by omega, by rw [List.length_map]; omega, by rw [List.length_map]; omega, fun one H3 o0 o1 h3 => ?_⟩
    refine ⟨_, rfl, _, rfl, q, _, rfl, .inl (SqL.of (h3.get (i := 0) rfl)), p, _, _, G, _, rfl, h3, by omega, by rw [List.length_map]; omega, by rw [List.length_map]; omega, fun other H4 r0 r1 h4 => ?_⟩
    refine ⟨_, rfl, p, _, _, G, 5, rfl, h4, by omega, by decide, by decide, fun c H5 c0 c1 h5 => ?_⟩
    rw [List.length_map] at o1 r1
    obtain ⟨i, rfl⟩ := Int.eq_ofNat_of_zero_le o0
    obtain ⟨j, rfl⟩ := Int.eq_ofNat_of_zero_le r0
    have hi : i < (Txt.split t M).length := by omega
    have hj : j < (Txt.split t M).length := by omega
    have hxi := List.getElem?_eq_getElem hi
    have hxj := List.getElem?_eq_getElem hj
    refine goN ?_
    dsimp only
    refine sq_st (fun σ H' => ∃ (r : Addr) (qs : List Str) (s5 s6 s7 : Option V), σ = [some (.ref p), some (.str t), some (.ref lo), some (.str M), some (.ref r), s5, s6, s7] ∧ H' r = some (.lst (qs.map V.str)) ∧ Chg t (Txt.join M qs) ∧ Hs Tb p (n + 10) L G H') (fun N hN => ?_) ?_
    rotate_left
    · rintro σ H6 ⟨r, qs, s5, s6, s7, rfl, hr, hc, h6⟩
      exact ⟨_, rfl, ⟨_, rfl⟩, _, rfl, _, r, qs, rfl, rfl, .inl (SqL.of hr), hc.small ht hM, k _ _ hc (h6.mono (by omega))⟩
    refine ⟨_, rfl, rfl, _, rfl, ite2 (fun z => ?_) (fun z => ?_)⟩
    · refine ⟨_, rfl, _, rfl, _, rfl, q, _, rfl, SqL.of (h5.get (i := 0) rfl), fun a1 ha1 => ?_⟩
      rw [cut_take (by omega), Int.toNat_natCast, ← List.map_take] at *
      have h6 := h5.new ha1 (.lst (xs := ((Txt.split t M).take i).map V.str))
      refine ⟨_, rfl, _, rfl, _, _, rfl, rfl, _, rfl, q, _, rfl, SqL.of (h6.get (i := 1) rfl), fun a2 ha2 => ?_⟩
      rw [show (i : Int) + 1 = ((i + 1 : Nat) : Int) by omega, cut_drop (α := Unit), ← List.map_drop] at *
      have h7 := h6.new ha2 (.lst (xs := ((Txt.split t M).drop (i + 1)).map V.str))
      refine ⟨a1, a2, _, _, rfl, rfl, h7.get (i := 1) rfl, h7.get (i := 0) rfl, by rw [List.length_map, List.length_map, List.length_take, List.length_drop, sizeLine_eq]; omega, fun a3 ha3 => ?_⟩
      have h8 := h7.new ha3 (.lst (xs := ((Txt.split t M).take i).map V.str ++ ((Txt.split t M).drop (i + 1)).map V.str))
      exact hN _ _ ⟨a3, _, _, _, _, rfl, by rw [← List.map_append]; exact upd_same, Chg.removed hxi, (((h8.drop1).drop1).drop1.drop1).mono (by omega)⟩
    · refine ⟨_, rfl, rfl, _, rfl, ite2 (fun z => ?_) (fun z => ?_)⟩
      · refine ⟨_, rfl, _, rfl, _, rfl, q, _, rfl, SqL.of (h5.get (i := 0) rfl), fun a1 ha1 => ?_⟩
        rw [cut_take (by omega), Int.toNat_natCast, ← List.map_take] at *
        have h6 := h5.new ha1 (.lst (xs := ((Txt.split t M).take i).map V.str))
        refine ⟨_, rfl, _, rfl, _, rfl, _, rfl, _, _, rfl, rfl, _, rfl, q, _, rfl, SqL.of (h6.get (i := 1) rfl), fun a2 ha2 => ?_⟩
        rw [cut_at (x := V.str (Txt.split t M)[i]) (by rw [List.getElem?_map, hxi]; rfl)] at *
        have h7 := h6.new ha2 (.lst (xs := [V.str (Txt.split t M)[i]]))
        refine ⟨a1, a2, _, _, rfl, rfl, h7.get (i := 1) rfl, h7.get (i := 0) rfl, by rw [List.length_map, List.length_take, sizeLine_eq]; show min i _ + 1 ≤ _; omega, fun a3 ha3 => ?_⟩
        have h8 := h7.new ha3 (.lst (xs := ((Txt.split t M).take i).map V.str ++ [V.str (Txt.split t M)[i]]))
        refine ⟨_, rfl, _, rfl, _, rfl, q, _, rfl, SqL.of (h8.get (i := 3) rfl), fun a4 ha4 => ?_⟩
        rw [cut_drop (α := Unit), ← List.map_drop] at *
        have h9 := h8.new ha4 (.lst (xs := ((Txt.split t M).drop i).map V.str))
        refine ⟨a3, a4, _, _, rfl, rfl, h9.get (i := 1) rfl, h9.get (i := 0) rfl, by rw [List.length_append, List.length_map, List.length_map, List.length_take, List.length_drop, sizeLine_eq]; show min i _ + 1 + _ ≤ _; omega, fun a5 ha5 => ?_⟩
        have h10 := h9.new ha5 (.lst (xs := ((Txt.split t M).take i).map V.str ++ [V.str (Txt.split t M)[i]] ++ ((Txt.split t M).drop i).map V.str))
        exact hN _ _ ⟨a5, (Txt.split t M).take i ++ [(Txt.split t M)[i]] ++ (Txt.split t M).drop i, _, _, _, rfl, by rw [List.map_append, List.map_append]; exact upd_same, Chg.doubled hM hxi, (h10.drop1.drop1.drop1.drop1.drop1.drop1).mono (by omega)⟩
      · refine ⟨_, rfl, rfl, _, rfl, ite2 (fun z => ?_) (fun z => ?_)⟩
        · have hvi : ((Txt.split t M).map V.str)[i]? = some (V.str (Txt.split t M)[i]) := by rw [List.getElem?_map, hxi]; rfl
          have hvj : ((Txt.split t M).map V.str)[j]? = some (V.str (Txt.split t M)[j]) := by rw [List.getElem?_map, hxj]; rfl
          refine ⟨_, rfl, _, rfl, q, _, _, _, rfl, rfl, SqL.of (h5.get (i := 0) rfl), atI_nat hvj, _, rfl, _, rfl, q, _, _, _, rfl, rfl, SqL.of (h5.get (i := 0) rfl), atI_nat hvi, by show 2 ≤ sizeLine; decide, fun t9 ht9 => ?_⟩
          have h6 := h5.new ht9 (.tup (xs := [V.str (Txt.split t M)[j], V.str (Txt.split t M)[i]]))
          refine ⟨t9, _, rfl, SqT.of upd_same, rfl, _, _, rfl, ?_⟩
          refine ⟨_, rfl, _, rfl, q, _, (i : Int), i, rfl, rfl, h6.get (i := 1) rfl, ixN_nat (by rw [List.length_map]; exact hi), ?_⟩
          have h7 := h6.put (i := 1) (o' := .lst (((Txt.split t M).map V.str).set i (V.str (Txt.split t M)[j]))) rfl .lst
          refine ⟨_, _, rfl, _, rfl, _, rfl, q, _, (j : Int), j, rfl, rfl, h7.get (i := 1) rfl, ixN_nat (by rw [List.length_set, List.length_map]; exact hj), ?_⟩
          have h8 := (h7.put (i := 1) (o' := .lst ((((Txt.split t M).map V.str).set i (V.str (Txt.split t M)[j])).set j (V.str (Txt.split t M)[i]))) rfl .lst)
          exact ⟨rfl, hN _ _ ⟨q, ((Txt.split t M).set i (Txt.split t M)[j]).set j (Txt.split t M)[i], _, _, _, rfl, by rw [List.map_set, List.map_set]; exact upd_same, Chg.perm (List.set_set_perm hi hj), h8.drop1.drop1.mono (by omega)⟩⟩
        · refine ⟨_, rfl, _, rfl, _, rfl, lo, _, rfl, .inl (SqL.of (h5.fzat hG)), p, _, _, G, _, rfl, h5, by omega, by rw [List.length_map]; decide, by rw [List.length_map]; decide, fun d2 H6 e0 e1 h6 => ?_⟩
          rw [List.length_map] at e1
          obtain ⟨o, eo, ho⟩ := pick_s e0 e1
          refine ⟨lo, _, d2, .str o, rfl, rfl, SqL.of (h6.fzat hG), eo, ?_⟩
          refine ⟨_, rfl, _, rfl, q, _, (i : Int), i, rfl, rfl, h6.get (i := 0) rfl, ixN_nat (by rw [List.length_map]; exact hi), ?_⟩
          have h7 := h6.put (i := 0) (o' := .lst (((Txt.split t M).map V.str).set i (V.str o))) rfl .lst
          exact hN _ _ ⟨q, (Txt.split t M).set i o, _, _, _, rfl, by rw [List.map_set]; exact upd_same, Chg.put hxi (odd_ok o ho), h7.drop1.mono (by omega)⟩
end
end Sk
namespace Sk
open PySem PySem.Spec PyProof.Rows L2
abbrev s_law_changed : Stmt := topS 36
abbrev N_law_changed : List Str := ["source", "text", "odd", "choice", "spot"]
theorem sc_law_changed : FnScope N_law_changed ["source", "text", "odd"] (defScope s_law_changed) := ⟨rfl, rfl, rfl, by decide +kernel, rfl, by decide +kernel, by decide +kernel⟩
def sp_law_changed (Tb : List (Addr × Str)) (K : PySem.W.Frag) : Sp := fun vs H Q _ => ∃ (p lo : Addr) (n : Nat) (L : List (Addr × HO)) (G : Hp) (t : Str), vs = [.ref p, .str t, .ref lo] ∧ Hs Tb p n L G H ∧ n + 40 < 1000000000 ∧ t.length ≤ 1000000 ∧ G lo = some (.lst (oddL.map V.str)) ∧ ∀ t' H', Chg t t' → Hs Tb p (n + 40) L G H' → Q (.str t') H'
theorem cutS_lo (t : Str) (i : Nat) : (cutS t none (some (i : Int))).cps.toList = t.cps.toList.take i := by
  unfold cutS
  rw [HT.sIx_nat, HT.sIx_none, List.drop_zero, Nat.sub_zero]
  rcases Nat.le_total i t.length with h | h
  · rw [Nat.min_eq_left h]
  · rw [Nat.min_eq_right h, nSp_len, List.take_length, List.take_of_length_le (by rw [← nSp_len]; exact h)]
theorem cutS_hi (t : Str) (i : Nat) : (cutS t (some (i : Int)) none).cps.toList = t.cps.toList.drop i := by
  unfold cutS
  rw [HT.sIx_nat, HT.sIx_none]
  show List.take _ _ = _
  rcases Nat.le_total i t.length with h | h
  · rw [Nat.min_eq_left h, List.take_of_length_le]
    rw [List.length_drop, ← nSp_len]
    exact Nat.le_refl _
  · rw [Nat.min_eq_right h, Nat.sub_self, List.take_zero, List.drop_eq_nil_of_le (by rw [← nSp_len]; exact h)]
theorem cut_parts (t : Str) {i j : Nat} (hij : i ≤ j) : (cutS t none (some (i : Int))).length + (cutS t (some (j : Int)) none).length ≤ t.length ∧ nSp (cutS t none (some (i : Int))) + nSp (cutS t (some (j : Int)) none) ≤ nSp t := by
  unfold nSp
  rw [nSp_len, nSp_len (cutS t (some (j : Int)) none), nSp_len t, cutS_lo, cutS_hi]
  constructor
  · rw [List.length_take, List.length_drop]
    omega
  · have h1 : t.cps.toList.count 32 = (t.cps.toList.take i).count 32 + (t.cps.toList.drop i).count 32 := by rw [← List.count_append, List.take_append_drop]
    have h2 : (t.cps.toList.drop j).count 32 ≤ (t.cps.toList.drop i).count 32 := by
      obtain ⟨d, rfl⟩ := Nat.exists_eq_add_of_le hij
      rw [← List.drop_drop]
      exact (List.drop_sublist d _).count_le _
    omega
theorem Chg.cut2 {t a b : Str} (ha : a.length + b.length ≤ t.length) (hs : nSp a + nSp b ≤ nSp t) : Chg t (a ++ b) := by
  have h := Chg.cut (c := Str.empty) ha hs (by decide)
  have e : a ++ Str.empty = a := by
    show (⟨a.cps ++ #[]⟩ : Str) = a
    rw [Array.append_empty]
  rw [e] at h
  exact h
theorem app_len (x y : Str) : (x ++ y).length = x.length + y.length := by
  show (x.cps ++ y.cps).size = x.cps.size + y.cps.size
  rw [Array.size_append]
section
variable {P : Program} {w : World} {K : PySem.W.Frag} {mg : Str → Option Value} {base : Heap} {Tb : List (Addr × Str)}
theorem ok_law_changed {f : Addr} {fd : FuncData} (F : FnP K "_law_changed" s_law_changed f fd) (T : Tx K mg) (G_law_draw : Fn P w K mg base "_law_draw" 1 ["source", "many"] (sp_law_draw Tb K)) (G_law_parts_changed : Fn P w K mg base "_law_parts_changed" 2 ["source", "text", "odd"] (sp_law_parts_changed Tb K)) (G_law_sign : Fn P w K mg base "_law_sign" 2 ["source"] (sp_law_sign Tb K)) : FnOk P w K mg base CX0 3 f fd ["source", "text", "odd"] (sp_law_changed Tb K) := by
  refine F.ok sc_law_changed (fun vs H Q E h => ?_) (fun cdv A outer s H vs Q E hr h => ?_)
  · obtain ⟨_, _, _, _, _, _, rfl, _⟩ := h
    rfl
  · obtain ⟨p, lo, n, L, G, t, rfl, hs, hn, ht, hG, k⟩ := h
    refine ⟨_, PSs.nox (pss_cons (ps_set (i := 3) sc_law_changed.nd rfl (Or.inl rfl) (pe_fn G_law_draw (hr.mono (by decide)) (pa_cons (pv 0) (pa_cons pe_int pa_nil))))
      (pss_cons (ps_set (i := 4) sc_law_changed.nd rfl (Or.inl rfl) (pe_fn G_law_draw (hr.mono (by decide)) (pa_cons (pv 0) (pa_cons (pe_op op_add (pe_callB call_len_str (by rfl) T.n_len (by decide +kernel) (pa_cons (pv 1) pa_nil)) pe_int) pa_nil))))
      (pss_cons (ps_if (pt_cmpR op_eq (pv 3) pe_int (nomark _)) (pss_one (ps_ret (pe_op op_add_str (pe_op op_add_str (pe_slice sl_str (pv 1) po_none (po_some (pv 4))) (pe_fn G_law_sign (hr.mono (by decide)) (pa_cons (pv 0) pa_nil))) (pe_slice sl_str (pv 1) (po_some (pv 4)) po_none)))) pss_nil)
      (pss_cons (ps_if (pt_cmpR op_eq (pv 3) pe_int (nomark _)) (pss_one (ps_ret (pe_op op_add_str (pe_slice sl_str (pv 1) po_none (po_some (pv 4))) (pe_slice sl_str (pv 1) (po_some (pe_op op_add (pv 4) pe_int)) po_none)))) pss_nil)
      (pss_cons (ps_if (pt_cmpR op_eq (pv 3) pe_int (nomark _)) (pss_one (ps_ret (pe_op op_add_str (pe_op op_add_str (pe_slice sl_str (pv 1) po_none (po_some (pv 4))) (pe_fn G_law_sign (hr.mono (by decide)) (pa_cons (pv 0) pa_nil))) (pe_slice sl_str (pv 1) (po_some (pe_op op_add (pv 4) pe_int)) po_none)))) pss_nil)
      (pss_one (ps_ret (pe_fn G_law_parts_changed (hr.mono (by decide)) (pa_cons (pv 0) (pa_cons (pv 1) (pa_cons (pv 2) pa_nil))))))))))), ?_⟩
    refine ⟨_, rfl, p, _, _, G, 6, rfl, hs, by omega, by decide, by decide, fun c H1 c0 c1 h1 => ?_⟩
    have h200 : (10000000 : Int) < 2 ^ 200 := by decide
    refine ⟨_, rfl, _, rfl, t, rfl, by rw [sizeLine_eq]; omega, _, _, rfl, rfl, p, _, _, G, _, rfl, h1, by omega, by omega, by omega, fun s H2 s0 s1 h2 => ?_⟩
    obtain ⟨i, rfl⟩ := Int.eq_ofNat_of_zero_le s0
    have hi : i ≤ t.length := by omega
    refine ⟨_, rfl, rfl, _, rfl, ite2 (fun z => ?_) (fun z => ?_)⟩
    · obtain ⟨q1, q2⟩ := cut_parts t (Nat.le_refl i)
      refine ⟨_, rfl, _, rfl, _, rfl, t, rfl, by rw [sizeLine_eq]; omega, _, rfl, p, _, _, G, rfl, h2, by omega, fun ch H3 h3 => ?_⟩
      have e1 : (⟨#[ch]⟩ : Str).length = 1 := rfl
      refine ⟨_, _, rfl, rfl, by rw [e1, sizeLine_eq]; omega, _, rfl, _, rfl, _, rfl, t, rfl, by rw [sizeLine_eq]; omega, _, _, rfl, rfl, by rw [app_len, e1, sizeLine_eq]; omega, ?_⟩
      exact k _ _ (Chg.cut q1 q2 (Nat.le_refl 1)) (h3.mono (by omega))
    · refine ⟨_, rfl, rfl, _, rfl, ite2 (fun z => ?_) (fun z => ?_)⟩
      · obtain ⟨q1, q2⟩ := cut_parts t (j := i + 1) (Nat.le_succ i)
        refine ⟨_, rfl, _, rfl, _, rfl, t, rfl, by rw [sizeLine_eq]; omega, _, rfl, _, rfl, _, _, rfl, rfl, _, rfl, t, rfl, by rw [sizeLine_eq]; omega, ?_⟩
        rw [show (i : Int) + 1 = ((i + 1 : Nat) : Int) by omega]
        refine ⟨_, _, rfl, rfl, by rw [sizeLine_eq]; omega, ?_⟩
        exact k _ _ (Chg.cut2 q1 q2) (h2.mono (by omega))
      · refine ⟨_, rfl, rfl, _, rfl, ite2 (fun z => ?_) (fun z => ?_)⟩
        · obtain ⟨q1, q2⟩ := cut_parts t (j := i + 1) (Nat.le_succ i)
          refine ⟨_, rfl, _, rfl, _, rfl, t, rfl, by rw [sizeLine_eq]; omega, _, rfl, p, _, _, G, rfl, h2, by omega, fun ch H3 h3 => ?_⟩
          have e1 : (⟨#[ch]⟩ : Str).length = 1 := rfl
          refine ⟨_, _, rfl, rfl, by rw [e1, sizeLine_eq]; omega, _, rfl, _, rfl, _, _, rfl, rfl, _, rfl, t, rfl, by rw [sizeLine_eq]; omega, ?_⟩
          rw [show (i : Int) + 1 = ((i + 1 : Nat) : Int) by omega]
          refine ⟨_, _, rfl, rfl, by rw [app_len, e1, sizeLine_eq]; omega, ?_⟩
          exact k _ _ (Chg.cut q1 q2 (Nat.le_refl 1)) (h3.mono (by omega))
        · refine ⟨_, rfl, _, rfl, _, rfl, p, lo, _, _, G, t, rfl, h2, by omega, ht, hG, fun t' H3 hc h3 => ?_⟩
          exact k _ _ hc (h3.mono (by omega))
end
end Sk
namespace Sk
open PySem PySem.Spec PyProof.Rows L2
abbrev s_law_odd_texts : Stmt := topS 37
abbrev N_law_odd_texts : List Str := ["some"]
theorem sc_law_odd_texts : FnScope N_law_odd_texts [] (defScope s_law_odd_texts) := ⟨rfl, rfl, rfl, by decide +kernel, rfl, by decide +kernel, by decide +kernel⟩
section
variable {P : Program} {w : World} {K : PySem.W.Frag} {mg : Str → Option Value} {base : Heap} {Tb : List (Addr × Str)}
theorem ok_law_odd_texts {f : Addr} {fd : FuncData} (F : FnP K "_law_odd_texts" s_law_odd_texts f fd) (T : Tx K mg) : FnOk P w K mg base CX0 1 f fd [] (sp_law_odd_texts Tb K) := by
  refine F.ok sc_law_odd_texts (fun vs H Q E h => ?_) (fun cdv A outer s H vs Q E hr h => ?_)
  · obtain ⟨rfl, _⟩ := h
    rfl
  · obtain ⟨rfl, k⟩ := h
    refine ⟨_, PSs.nox (pss_cons (ps_set (i := 0) sc_law_odd_texts.nd rfl (Or.inl rfl) (pe_lst (pa_cons pe_str (pa_cons pe_str (pa_cons pe_str (pa_cons pe_str (pa_cons pe_str (pa_cons pe_str (pa_cons pe_str (pa_cons pe_str (pa_cons pe_str (pa_cons pe_str (pa_cons pe_str (pa_cons pe_str (pa_cons pe_str (pa_cons pe_str (pa_cons pe_str pa_nil)))))))))))))))))
      (pss_cons (ps_set (i := 0) sc_law_odd_texts.nd rfl (Or.inl rfl) (pe_op op_cat (pv 0) (pe_lst (pa_cons pe_str (pa_cons pe_str (pa_cons pe_str (pa_cons pe_str (pa_cons pe_str (pa_cons pe_str (pa_cons pe_str (pa_cons pe_str (pa_cons pe_str (pa_cons pe_str pa_nil)))))))))))))
      (pss_cons (ps_set (i := 0) sc_law_odd_texts.nd rfl (Or.inl rfl) (pe_op op_cat (pv 0) (pe_lst (pa_cons pe_str (pa_cons pe_str (pa_cons pe_str (pa_cons pe_str (pa_cons pe_str (pa_cons pe_str (pa_cons pe_str (pa_cons pe_str (pa_cons pe_str (pa_cons pe_str pa_nil)))))))))))))
      (pss_cons (ps_set (i := 0) sc_law_odd_texts.nd rfl (Or.inl rfl) (pe_op op_cat (pv 0) (pe_lst (pa_cons pe_str (pa_cons pe_str (pa_cons pe_str (pa_cons pe_str (pa_cons pe_str (pa_cons pe_str (pa_cons pe_str pa_nil))))))))))
      (pss_cons (ps_set (i := 0) sc_law_odd_texts.nd rfl (Or.inl rfl) (pe_op op_cat (pv 0) (pe_lst (pa_cons pe_str (pa_cons pe_str (pa_cons pe_str (pa_cons pe_str pa_nil)))))))
      (pss_one (ps_ret (pe_op op_cat (pv 0) (pe_lst (pa_cons (pe_op op_add_str pe_str (pe_op op_repStr pe_str pe_int)) (pa_cons (pe_op op_add_str pe_str (pe_op op_repStr pe_str pe_int)) (pa_cons (pe_op op_add_str pe_str (pe_op op_repStr pe_str pe_int)) (pa_cons (pe_op op_add_str pe_str (pe_op op_repStr pe_str pe_int)) (pa_cons pe_str (pa_cons pe_str (pa_cons pe_str (pa_cons pe_str pa_nil))))))))))))))))), ?_⟩
    refine ⟨by show 15 ≤ sizeLine; decide, fun l1 h1 => ?_⟩
    have st : ∀ {H1 : Hp} {l : Addr} {xs : List V} (ys : List V) {k1 k2 : Addr}, Gr Tb H H1 → Nw H l → H1 l = some (.lst xs) → H1 k1 = none → upd H1 k1 (.lst ys) k2 = none → Gr Tb H (upd (upd H1 k1 (.lst ys)) k2 (.lst (xs ++ ys))) ∧ Nw H k2 ∧ upd (upd H1 k1 (.lst ys)) k2 (.lst (xs ++ ys)) k2 = some (.lst (xs ++ ys)) ∧ upd H1 k1 (.lst ys) l = some (.lst xs) ∧ upd H1 k1 (.lst ys) k1 = some (.lst ys) := fun ys k1 k2 g n a f1 f2 => by
      have g2 : Gr Tb H (upd _ k1 (.lst ys)) := g.trans (Gr.new f1)
      exact ⟨g2.trans (Gr.new f2), g2.nw (.of f2), upd_same, (Gr.new (T := Tb) f1).at a .lst, upd_same⟩
    have g1 : Gr Tb H (upd H l1 (.lst (["", "-", "--", "- -", " ", "a", "a:1", "a:0", "a:01", "a:-1", "a:+1", "a:1_0", "a: 1", "a :1", "a:1 a:2"].map fun s => V.str (Str.ofString s)))) := Gr.new h1
    have n1 : Nw H l1 := .of h1
    have e1 : upd H l1 (.lst (["", "-", "--", "- -", " ", "a", "a:1", "a:0", "a:01", "a:-1", "a:+1", "a:1_0", "a: 1", "a :1", "a:1 a:2"].map fun s => V.str (Str.ofString s))) l1 = _ := upd_same
    refine ⟨_, rfl, by show 10 ≤ sizeLine; decide, fun k1 f1 => ⟨l1, k1, _, _, rfl, rfl, (Gr.new (T := Tb) f1).at e1 .lst, upd_same, by decide, fun l2 h2 => ?_⟩⟩
    obtain ⟨g2, n2, e2, -, -⟩ := st (["a:1 b:2", "b:2 a:1", "a:1  b:2", "a:1 -", "A:1", "a1:1", "abcdefgh:1", "abcdefghi:1", ":1", "a:"].map fun s => V.str (Str.ofString s)) g1 n1 e1 f1 h2
    refine ⟨_, rfl, by show 10 ≤ sizeLine; decide, fun k2 f2 => ⟨l2, k2, _, _, rfl, rfl, (Gr.new (T := Tb) f2).at e2 .lst, upd_same, by decide, fun l3 h3 => ?_⟩⟩
    obtain ⟨g3, n3, e3, -, -⟩ := st (["a::1", "a 1", "a 0", "a 01", "a -1", "a +1", "a 1 a", "a 1, b 2 a", "a 2 b, b 1", "a 1,b 2"].map fun s => V.str (Str.ofString s)) g2 n2 e2 f2 h3
    refine ⟨_, rfl, by show 7 ≤ sizeLine; decide, fun k3 f3 => ⟨l3, k3, _, _, rfl, rfl, (Gr.new (T := Tb) f3).at e3 .lst, upd_same, by decide, fun l4 h4 => ?_⟩⟩
    obtain ⟨g4, n4, e4, -, -⟩ := st (["a 1 , b 2", "a 1,", "a 1, b 1 a", "a 1, a 2", "a 1, b 2 a a a", "a 1, b 2 c", "b 2 a, a 1"].map fun s => V.str (Str.ofString s)) g3 n3 e3 f3 h4
    refine ⟨_, rfl, by show 4 ≤ sizeLine; decide, fun k4 f4 => ⟨l4, k4, _, _, rfl, rfl, (Gr.new (T := Tb) f4).at e4 .lst, upd_same, by decide, fun l5 h5 => ?_⟩⟩
    obtain ⟨g5, n5, e5, -, -⟩ := st (["a 1 ", " a 1", "a  1", "a 1, "].map fun s => V.str (Str.ofString s)) g4 n4 e4 f4 h5
    refine ⟨_, rfl, _, _, rfl, rfl, by decide, by decide, by decide, _, _, rfl, rfl, by decide, ?_⟩
    refine ⟨_, _, rfl, rfl, by decide, by decide, by decide, _, _, rfl, rfl, by decide, ?_⟩
    refine ⟨_, _, rfl, rfl, by decide, by decide, by decide, _, _, rfl, rfl, by decide, ?_⟩
    refine ⟨_, _, rfl, rfl, by decide, by decide, by decide, _, _, rfl, rfl, by decide, ?_⟩
    refine ⟨by show 8 ≤ sizeLine; decide, fun k5 f5 => ⟨l5, k5, _, _, rfl, rfl, (Gr.new (T := Tb) f5).at e5 .lst, upd_same, by decide, fun l6 h6 => ?_⟩⟩
    obtain ⟨g6, n6, e6, -, -⟩ := st _ g5 n5 e5 f5 h6
    exact k _ _ g6 n6 e6
end
end Sk
namespace Sk
open PySem PySem.Spec PyProof.Rows L2
abbrev s_law_is_name : Stmt := topS 38
abbrev N_law_is_name : List Str := ["name", "odd", "letter"]
theorem sc_law_is_name : FnScope N_law_is_name ["name"] (defScope s_law_is_name) := ⟨rfl, rfl, rfl, by decide +kernel, rfl, by decide +kernel, by decide +kernel⟩
def sp_law_is_name (Tb : List (Addr × Str)) (K : PySem.W.Frag) : Sp := fun vs H Q _ => ∃ x : Str, vs = [.str x] ∧ x.length ≤ 1000000 ∧ ∀ H', Gr Tb H H' → Q (.bl (nameB x)) H'
/-- the signs that are no letters -/
def oddV (v : V) : Option V := match v with
  | .str y => if y.cps.getD 0 0 ∈ letters.cps.toList then none else some (.str y)
  | _ => none
theorem oddV_nil (x : Str) : (signs x).filterMap oddV = [] ↔ (x.cps.toList.all fun c => decide (c ∈ letters.cps.toList)) = true := by
  unfold signs
  rw [List.filterMap_map, List.all_eq_true, List.filterMap_eq_nil_iff]
  refine forall_congr' fun c => forall_congr' fun _ => ?_
  rw [decide_eq_true_iff]
  show (if c ∈ letters.cps.toList then none else some (V.str ⟨#[c]⟩)) = none ↔ _
  by_cases z : c ∈ letters.cps.toList
  · rw [if_pos z]
    exact ⟨fun _ => z, fun _ => rfl⟩
  · rw [if_neg z]
    exact ⟨(fun h => by cases h), (fun h => absurd h z)⟩
section
variable {P : Program} {w : World} {K : PySem.W.Frag} {mg : Str → Option Value} {base : Heap} {Tb : List (Addr × Str)}
theorem ok_law_is_name {f : Addr} {fd : FuncData} (F : FnP K "_law_is_name" s_law_is_name f fd) (T : Tx K mg) : FnOk P w K mg base CX0 1 f fd ["name"] (sp_law_is_name Tb K) := by
  refine F.ok sc_law_is_name (fun vs H Q E h => ?_) (fun cdv A outer s H vs Q E hr h => ?_)
  · obtain ⟨_, rfl, _⟩ := h
    rfl
  · obtain ⟨x, rfl, hz, k⟩ := h
    refine ⟨_, PSs.nox (pss_cons (ps_setLc (i := 1) (own := [("letter", 2)]) (g := (gName 2)) (tt := _) rfl sc_law_is_name.nd rfl rfl (sw_true rfl rfl rfl (by decide +kernel)) (pi_str (pv 0)) (blkOk_by (N := N_law_is_name) (sc := (defScope s_law_is_name)) (by decide +kernel)) (fun _ _ _ _ _ => (pg_name (i := 2) sc_law_is_name.nd rfl (Or.inl rfl))) (fun _ _ _ _ _ => (pts_one (pt_cmpR op_notIn_sign (pv 2) pe_str rfl))) (fun _ _ _ _ _ => (pv 2)))
      (pss_one (ps_ret (pe_and (pe_chain op_le op_le pe_int (pe_callB call_len_str (by rfl) T.n_len (by decide +kernel) (pa_cons (pv 0) pa_nil)) pe_int) (pe_one (pe_cmpR (opEqNil (K := K) rfl hr.units) (pv 1) (pe_lst pa_nil) (nomark _))))))), ?_⟩
    refine ⟨_, rfl, x, rfl, fun D hD => lc_fm (Tb := Tb) (xs := signs x) walk_text rfl oddV hD ?_ (fun _ _ => trivial) (fun j v H' hv g Rk Rs hk hs => ?_) fun H3 g4 hD4 => ?_⟩
    · unfold signs
      rw [List.length_map, Array.length_toList]
      have : x.cps.size = x.length := rfl
      omega
    · unfold signs at hv
      rw [List.getElem?_map] at hv
      cases hcp : x.cps.toList[j]? with
      | none =>
        rw [hcp] at hv
        cases hv
      | some cp =>
        rw [hcp] at hv
        cases hv
        refine ⟨rfl, _, rfl, cp, _, rfl, rfl, _, rfl, ?_⟩
        have eo : oddV (.str ⟨#[cp]⟩) = if cp ∈ letters.cps.toList then none else some (.str ⟨#[cp]⟩) := rfl
        refine ite2 (fun q => ?_) (fun q => ?_)
        · refine ⟨_, rfl, hk _ _ ?_ (Gr.refl _)⟩
          rw [eo, if_neg (fun z => by rw [Bool.not_eq_true', decide_eq_false_iff_not] at q; exact q z)]
        · refine hs _ ?_ (Gr.refl _)
          rw [eo, if_pos (Decidable.byContradiction fun z => q (by rw [Bool.not_eq_true', decide_eq_false_iff_not]; exact z))]
    have eb : nameB x = (decide (1 ≤ x.length) && (decide (x.length ≤ 8) && x.cps.toList.all fun c => decide (c ∈ letters.cps.toList))) := rfl
    refine ⟨_, rfl, x, rfl, Nat.le_trans hz (by decide), _, _, rfl, rfl, _, rfl, ?_⟩
    refine ite2 (fun h1 => ?_) (fun h1 => ?_)
    rotate_left
    · refine ⟨_, rfl, iteFb rfl ?_⟩
      have e : nameB x = false := by
        rw [eb, decide_eq_false (show ¬ 1 ≤ x.length from fun z => h1 (decide_eq_true (show (1 : Int) ≤ x.length by omega)))]
        rfl
      rw [← e]
      exact k _ g4
    have n1 : 1 ≤ x.length := by have := of_decide_eq_true h1; omega
    refine ⟨_, _, rfl, rfl, _, rfl, ?_⟩
    by_cases n2 : x.length ≤ 8
    rotate_left
    · rw [decide_eq_false (show ¬ (x.length : Int) ≤ 8 by omega)]
      refine iteFb rfl ?_
      have e : nameB x = false := by
        rw [eb, decide_eq_false n2, Bool.false_and, Bool.and_false]
      rw [← e]
      exact k _ g4
    rw [decide_eq_true (show (x.length : Int) ≤ 8 by omega)]
    rw [decide_eq_true n1, decide_eq_true n2, Bool.true_and, Bool.true_and] at eb
    refine iteTb rfl ⟨_, rfl, rd_nil (SqL.of hD4) fun p1 hp1 => ?_⟩
    have e : nameB x = ((signs x).filterMap oddV).isEmpty := by
      rw [eb, Bool.eq_iff_iff, ← oddV_nil]
      cases (signs x).filterMap oddV <;> simp
    have := k _ (g4.trans (Gr.new (o := .lst []) hp1))
    rw [e] at this
    exact this
end
end Sk
namespace Sk
open PySem PySem.Spec PyProof.Rows L2
abbrev s_law_positive : Stmt := topS 40
abbrev N_law_positive : List Str := ["word", "odd", "sign"]
theorem sc_law_positive : FnScope N_law_positive ["word"] (defScope s_law_positive) := ⟨rfl, rfl, rfl, by decide +kernel, rfl, by decide +kernel, by decide +kernel⟩
def sp_law_positive (Tb : List (Addr × Str)) (K : PySem.W.Frag) : Sp := fun vs H Q _ => ∃ w : Str, vs = [.str w] ∧ w.length ≤ 1000000 ∧ ∀ H', Gr Tb H H' → Q (optV (posW w)) H'
/-- the signs that are no digits -/
def oddDV (v : V) : Option V := match v with
  | .str y => if y.cps.getD 0 0 ∈ digitsS.cps.toList then none else some (.str y)
  | _ => none
theorem oddDV_nil (x : Str) : (signs x).filterMap oddDV = [] ↔ (x.cps.toList.all fun c => decide (c ∈ digitsS.cps.toList)) = true := by
  unfold signs
  rw [List.filterMap_map, List.all_eq_true, List.filterMap_eq_nil_iff]
  refine forall_congr' fun c => forall_congr' fun _ => ?_
  rw [decide_eq_true_iff]
  show (if c ∈ digitsS.cps.toList then none else some (V.str ⟨#[c]⟩)) = none ↔ _
  by_cases z : c ∈ digitsS.cps.toList
  · rw [if_pos z]
    exact ⟨fun _ => z, fun _ => rfl⟩
  · rw [if_neg z]
    exact ⟨(fun h => by cases h), (fun h => absurd h z)⟩
section
variable {P : Program} {w : World} {K : PySem.W.Frag} {mg : Str → Option Value} {base : Heap} {Tb : List (Addr × Str)}
theorem ok_law_positive {f : Addr} {fd : FuncData} (F : FnP K "_law_positive" s_law_positive f fd) (T : Tx K mg) : FnOk P w K mg base CX0 1 f fd ["word"] (sp_law_positive Tb K) := by
  refine F.ok sc_law_positive (fun vs H Q E h => ?_) (fun cdv A outer s H vs Q E hr h => ?_)
  · obtain ⟨_, rfl, _⟩ := h
    rfl
  · obtain ⟨x, rfl, hz, k⟩ := h
    refine ⟨_, PSs.nox (pss_cons (ps_setLc (i := 1) (own := [("sign", 2)]) (g := (gName 2)) (tt := _) rfl sc_law_positive.nd rfl rfl (sw_true rfl rfl rfl (by decide +kernel)) (pi_str (pv 0)) (blkOk_by (N := N_law_positive) (sc := (defScope s_law_positive)) (by decide +kernel)) (fun _ _ _ _ _ => (pg_name (i := 2) sc_law_positive.nd rfl (Or.inl rfl))) (fun _ _ _ _ _ => (pts_one (pt_cmpR op_notIn_sign (pv 2) pe_str rfl))) (fun _ _ _ _ _ => (pv 2)))
      (pss_one (ps_ret (pe_ifExp (PW.pt (pw_and (pt_chain op_le op_le pe_int (pe_callB call_len_str (by rfl) T.n_len (by decide +kernel) (pa_cons (pv 0) pa_nil)) pe_int) (pw_and (pt_cmpR op_ne (pe_ix ix_str (pv 0) pe_int (fun _ _ => rfl)) pe_str (nomark _)) (pw_and1 (pt_cmpR (opEqNil (K := K) rfl hr.units) (pv 1) (pe_lst pa_nil) (nomark _)))))) (pe_callTy call_int_str (by rfl) T.n_int (by decide +kernel) (pa_cons (pv 0) pa_nil)) pe_non)))), ?_⟩
    refine ⟨_, rfl, x, rfl, fun D hD => lc_fm (Tb := Tb) (xs := signs x) walk_text rfl oddDV hD ?_ (fun _ _ => trivial) (fun j v H' hv g Rk Rs hk hs => ?_) fun H3 g4 hD4 => ?_⟩
    · unfold signs
      rw [List.length_map, Array.length_toList]
      have : x.cps.size = x.length := rfl
      omega
    · unfold signs at hv
      rw [List.getElem?_map] at hv
      cases hcp : x.cps.toList[j]? with
      | none =>
        rw [hcp] at hv
        cases hv
      | some cp =>
        rw [hcp] at hv
        cases hv
        refine ⟨rfl, _, rfl, cp, _, rfl, rfl, _, rfl, ?_⟩
        have eo : oddDV (.str ⟨#[cp]⟩) = if cp ∈ digitsS.cps.toList then none else some (.str ⟨#[cp]⟩) := rfl
        refine ite2 (fun q => ?_) (fun q => ?_)
        · refine ⟨_, rfl, hk _ _ ?_ (Gr.refl _)⟩
          rw [eo, if_neg (fun z => by rw [Bool.not_eq_true', decide_eq_false_iff_not] at q; exact q z)]
        · refine hs _ ?_ (Gr.refl _)
          rw [eo, if_pos (Decidable.byContradiction fun z => q (by rw [Bool.not_eq_true', decide_eq_false_iff_not]; exact z))]
    have eD : ((signs x).filterMap oddDV).isEmpty = (x.cps.toList.all fun c => decide (c ∈ digitsS.cps.toList)) := by
      rw [Bool.eq_iff_iff, ← oddDV_nil]
      cases (signs x).filterMap oddDV <;> simp
    have kN : posW x = none → ∀ H', Gr Tb H H' → Q .non H' := fun e H' g => by
      have := k H' g
      rw [e] at this
      exact this
    refine ⟨_, rfl, x, rfl, Nat.le_trans hz (by decide), _, _, rfl, rfl, _, rfl, ?_⟩
    refine ite2 (fun h1 => ?_) (fun h1 => ?_)
    rotate_left
    · refine ⟨_, rfl, iteFb rfl (kN ?_ _ g4)⟩
      unfold posW
      rw [if_neg fun z => h1 (decide_eq_true (by omega))]
    have p1 : 0 < x.length := by have := of_decide_eq_true h1; omega
    refine ⟨_, _, rfl, rfl, _, rfl, ?_⟩
    by_cases p2 : x.length ≤ 60
    rotate_left
    · rw [decide_eq_false (show ¬ (x.length : Int) ≤ 60 by omega)]
      refine iteFb rfl (kN ?_ _ g4)
      unfold posW
      rw [if_neg fun z => p2 z.2.1]
    rw [decide_eq_true (show (x.length : Int) ≤ 60 by omega)]
    obtain ⟨c0, cs, hcs⟩ : ∃ c0 cs, x.cps.toList = c0 :: cs := by
      cases q : x.cps.toList with
      | nil =>
        have : x.cps.toList.length = 0 := by rw [q]; rfl
        rw [Array.length_toList] at this
        have e : x.length = x.cps.size := rfl
        omega
      | cons c0 cs => exact ⟨c0, cs, rfl⟩
    refine iteTb rfl ⟨_, rfl, x, _, c0, rfl, rfl, Nat.le_trans hz (by decide), by rw [hcs]; exact atI_nat (j := 0) rfl, rfl, _, rfl, ?_⟩
    have e48 : ∀ c : Nat, V.str ⟨#[c]⟩ = V.str (Str.ofString "0") → c = 48 := fun c z => by
      have z2 : (⟨#[c]⟩ : Str) = ⟨#[48]⟩ := V.str.inj z
      have z3 := congrArg (fun s : Str => s.cps.toList) z2
      simpa using z3
    by_cases q48 : c0 = 48
    · rw [decide_eq_true (show V.str ⟨#[c0]⟩ = V.str (Str.ofString "0") by rw [q48]; rfl)]
      refine iteFb rfl (kN ?_ _ g4)
      unfold posW
      rw [if_neg fun z => z.2.2.2 (by rw [hcs, q48]; rfl)]
    · rw [decide_eq_false (fun z => q48 (e48 _ z))]
      refine iteTb rfl ⟨_, rfl, rd_nil (SqL.of hD4) fun u1 hu1 => ⟨_, rfl, ?_⟩⟩
      have g5 := g4.trans (Gr.new (T := Tb) (o := .lst []) hu1)
      rw [eD]
      cases hall : (x.cps.toList.all fun c => decide (c ∈ digitsS.cps.toList)) with
      | false =>
        refine iteFb rfl (kN ?_ _ g5)
        unfold posW
        rw [if_neg fun z => by rw [hall] at z; cases z.2.2.1]
      | true =>
        have all : NumText.AllDigits x.cps.toList := fun c hc => by
          have h5 := List.all_eq_true.mp hall c hc
          have h6 := of_decide_eq_true h5
          have h7 : ∀ c ∈ digitsS.cps.toList, 48 ≤ c ∧ c ≤ 57 := by decide +kernel
          exact h7 c h6
        have e := k _ g5
        unfold posW at e
        rw [if_pos ⟨p1, p2, hall, by rw [hcs]; simpa using q48⟩] at e
        exact iteTb rfl ⟨_, rfl, x, _, rfl, PySem.intText_digits all (by rw [hcs]; simp) (by omega), by omega, e⟩
end
end Sk
namespace Sk
open PySem PySem.Spec PyProof.Rows L2
/-! ### words and their parts -/
open TL in
theorem str_len2 (x y : Str) : (x ++ y).length = x.length + y.length := by
  show (x.cps ++ y.cps).size = x.cps.size + y.cps.size
  rw [Array.size_append]
theorem part_le (t : Str) : ∀ w ∈ Txt.split t (Str.ofString " "), w.length ≤ t.length := fun _ h => part_short h
theorem posW_none {w : Str} (h : 58 ∈ w.cps.toList) : posW w = none := by
  unfold posW
  rw [if_neg]
  rintro ⟨_, _, a, _⟩
  have := List.all_eq_true.mp a 58 h
  revert this
  decide
theorem posW_empty : posW Str.empty = none := by
  unfold posW
  rw [if_neg fun z => absurd z.1 (by decide)]
theorem nowW_split (w : Str) : nowW w = match Txt.split w (Str.ofString ":") with
    | [x, y] => (match posW y with | some i => if nameB x = true then some (x, i) else none | none => none)
    | _ => none := by
  have hj := PySem.StrLaws.join_split w (Str.ofString ":")
  have hf : ∀ p ∈ Txt.split w (Str.ofString ":"), 58 ∉ p.cps.toList := PySem.StrLaws.split_free w 58
  have hp := split_pos w (Str.ofString ":")
  generalize Txt.split w (Str.ofString ":") = ps at hj hf hp
  cases ps with
  | nil => exact absurd hp (by decide)
  | cons x r =>
    have fx : 58 ∉ TL.tl x := hf x (List.mem_cons_self ..)
    cases r with
    | nil =>
      have e : w = x := hj.symm
      unfold nowW
      rw [e, TL.partition_none (y := Str.ofString ":") (s := 58) (S := []) (by decide) fx]
      dsimp only
      rw [posW_empty]
    | cons y r =>
      have e : w = x ++ Str.ofString ":" ++ Str.join (Str.ofString ":") (y :: r) := hj.symm
      have e2 : nowW w = match posW (Str.join (Str.ofString ":") (y :: r)) with | some i => if nameB x = true then some (x, i) else none | none => none := by
        unfold nowW
        rw [e, TL.partition_app (y := Str.ofString ":") (s := 58) (S := []) (by decide) fx] <;> rfl
      rw [e2]
      cases r with
      | nil => rfl
      | cons z r =>
        have e3 : posW (Str.join (Str.ofString ":") (y :: z :: r)) = none := posW_none (by
          show 58 ∈ TL.tl (Str.join (Str.ofString ":") (y :: z :: r))
          rw [TL.tl_join]
          show 58 ∈ TL.tl y ++ (TL.tl (Str.ofString ":") ++ _)
          exact List.mem_append_right _ (List.mem_append_left _ (by decide)))
        rw [e3]
end Sk
namespace Sk
open PySem PySem.Spec PyProof.Rows L2
abbrev s_law_goods_of : Stmt := topS 41
abbrev N_law_goods_of : List Str := ["text", "word", "found", "names", "parts"]
theorem sc_law_goods_of : FnScope N_law_goods_of ["text"] (defScope s_law_goods_of) := ⟨rfl, rfl, rfl, by decide +kernel, rfl, by decide +kernel, by decide +kernel⟩
def sp_law_goods_of (Tb : List (Addr × Str)) (K : PySem.W.Frag) : Sp := fun vs H Q _ => ∃ t : Str, vs = [.str t] ∧ t.length ≤ 1000000 ∧ (Txt.split t (Str.ofString " ")).length < 64 ∧ ((∀ n, ¬ Wrote t n) → ∀ H', Gr Tb H H' → Q .non H') ∧ ∀ n r H', Wrote t n → Gr Tb H H' → Nw H r → H' r = some (.dK (dS n)) → Q (.ref r) H'
theorem sq_forL {K : PySem.W.Frag} {t : TE} {g : TG} {b u : TS} {D : Ends} {σ : L2.St} {H : Hp} (P : V → Hp → Prop) (h : ∀ Q' : VK, (∀ x H', P x H' → Q' x H') → t σ H Q') (k : ∀ x H', P x H' → tSeq (tFor (iList K (fun _ H Q => Q x H)) g b) u D σ H') : tSeq (tFor (iList K t) g b) u D σ H := h _ k
theorem put_len1 (d : Num) (x : Str) (i : Int) : (put d x i).length ≤ d.length + 1 := by
  unfold put
  split
  · rw [List.length_map]
    omega
  · rw [List.length_append]
    exact Nat.le_refl _
/-- the numbers of these words, one by one -/
def putsN (n : Num) : Num := n.foldl (fun d q => put d q.1 q.2) []
theorem putsN_len : ∀ (n d : Num), (n.foldl (fun d q => put d q.1 q.2) d).length ≤ d.length + n.length
  | [], _ => Nat.le_refl _
  | q :: n, d => by
    rw [List.foldl_cons, List.length_cons]
    have := putsN_len n (put d q.1 q.2)
    have := put_len1 d q.1 q.2
    omega
theorem putsN_nodup : ∀ (n d : Num), ((d ++ n).map (·.1)).Nodup → n.foldl (fun d q => put d q.1 q.2) d = d ++ n
  | [], d, _ => (List.append_nil d).symm
  | q :: n, d, h => by
    have nn : q.1 ∉ d.map (·.1) := fun z => by
      rw [List.map_append] at h
      exact (List.nodup_append.mp h).2.2 _ z _ (List.mem_map.mpr ⟨q, List.mem_cons_self .., rfl⟩) rfl
    rw [List.foldl_cons, put_new' nn, putsN_nodup n _ (by rw [List.append_assoc]; exact h), List.append_assoc]
    rfl
section
variable {P : Program} {w : World} {K : PySem.W.Frag} {mg : Str → Option Value} {base : Heap} {Tb : List (Addr × Str)}
theorem ok_law_goods_of {f : Addr} {fd : FuncData} (F : FnP K "_law_goods_of" s_law_goods_of f fd) (T : Tx K mg) (G_law_is_name : Fn P w K mg base "_law_is_name" 1 ["name"] (sp_law_is_name Tb K)) (G_law_positive : Fn P w K mg base "_law_positive" 1 ["word"] (sp_law_positive Tb K)) : FnOk P w K mg base CX0 2 f fd ["text"] (sp_law_goods_of Tb K) := by
  refine F.ok sc_law_goods_of (fun vs H Q E h => ?_) (fun cdv A outer s H vs Q E hr h => ?_)
  · obtain ⟨_, rfl, _⟩ := h
    rfl
  · obtain ⟨t, rfl, hz, hw, k0, k1⟩ := h
    refine ⟨_, PSs.nox (pss_cons (ps_par (i := 2) (j := 3) (by rfl) sc_law_goods_of.nd rfl rfl (by decide) rfl rfl (pa_cons pe_dnewK (pa_cons (pe_lst pa_nil) pa_nil)) (by rfl))
      (pss_cons (ps_for PassesOwn.never rfl (piL (K := K) rfl (pe_ifExp (pt_cmpR op_ne (pv 0) pe_str (nomark _)) (pe_split (pv 0) pe_str) (pe_lst pa_nil))) (pg_name (i := 1) sc_law_goods_of.nd rfl (Or.inl rfl)) (pss_cons (ps_set (i := 4) sc_law_goods_of.nd rfl (Or.inl rfl) (pe_split (pv 1) pe_str))
        (pss_cons (ps_if (PW.pt (pw_or (pt_cmpR op_ne (pe_callB (lenS (K := K) rfl) (by rfl) T.n_len (by decide +kernel) (pa_cons (pv 4) pa_nil)) pe_int (nomark _)) (pw_or (pt_not (pt_val (pe_fn G_law_is_name (hr.mono (by decide)) (pa_cons (pe_ix (ixL (K := K) rfl) (pv 4) pe_int (fun _ _ => rfl)) pa_nil)))) (pw_or1 (pt_cmpR op_isN (pe_fn G_law_positive (hr.mono (by decide)) (pa_cons (pe_ix (ixL (K := K) rfl) (pv 4) pe_int (fun _ _ => rfl)) pa_nil)) pe_non (nomark _)))))) (pss_one (ps_ret pe_non)) pss_nil)
        (pss_cons (ps_expr (peBm (K := K) rfl PySem.F.plainAttrs_list PySem.F.slot_list_append PySem.F.type_list_append mt_append (pv 3) (pa_cons (pe_ix (ixL (K := K) rfl) (pv 4) pe_int (fun _ _ => rfl)) pa_nil)))
        (pss_one (ps_dput (hu_of hr) (pv 2) (pe_ix (ixL (K := K) rfl) (pv 4) pe_int (fun _ _ => rfl)) (pe_fn G_law_positive (hr.mono (by decide)) (pa_cons (pe_ix (ixL (K := K) rfl) (pv 4) pe_int (fun _ _ => rfl)) pa_nil)) rfl))))))
      (pss_one (ps_ret (pe_ifExp (pt_cmpR (opEqD (K := K) rfl hr.units) (pv 3) (pe_callB (cr_sortTx rfl rfl) (by rfl) T.n_sorted (by decide +kernel) (pa_cons (pe_callTy (cr_setTx (K := K) rfl rfl rfl) (by rfl) T.n_set (by decide +kernel) (pa_cons (pv 3) pa_nil)) pa_nil)) (nomark _)) (pv 2) pe_non))))), ?_⟩
    intro d hd
    have g0 := Gr.new (T := Tb) (o := .dK []) hd
    have hd0 : Nw H d := .of hd
    refine ⟨Nat.zero_le _, fun l hl => ⟨_, _, rfl, ?_⟩⟩
    have hl0 : Nw H l := g0.nw (.of hl)
    have g1 := g0.trans (Gr.new (T := Tb) (o := .lst []) hl)
    have hld : l ≠ d := fun z => by rw [z, upd_same] at hl; cases hl
    have hl1 : (upd (upd H d (.dK [])) l (.lst [])) l = some (.lst []) := upd_same
    have hd1 : (upd (upd H d (.dK [])) l (.lst [])) d = some (.dK (dS [])) := by
      rw [upd_ne hld.symm, upd_same]
      rfl
    generalize upd (upd H d (.dK [])) l (.lst []) = H1 at g1 hl1 hd1
    dsimp only
    refine sq_forL (fun x H2 => ∃ (lw : Addr) (ws : List Str), x = .ref lw ∧ Gr Tb H1 H2 ∧ H2 lw = some (.lst (ws.map V.str)) ∧ Nw H1 lw ∧ ReadsO t (ws.map nowW) ∧ ws.length < 64 ∧ ∀ w ∈ ws, w.length ≤ 1000000) (fun Q' kq => ?_) ?_
    · by_cases hne : t = Str.ofString "-"
      · refine ⟨_, rfl, rfl, _, rfl, ?_⟩
        rw [hne, decide_eq_true rfl]
        refine iteFb rfl ⟨Nat.zero_le _, fun p hp => kq _ _ ⟨p, [], rfl, Gr.new hp, upd_same, .of hp, .inl ⟨hne, rfl⟩, by decide, fun w h => by cases h⟩⟩
      · refine ⟨_, rfl, rfl, _, rfl, ?_⟩
        rw [decide_eq_false (show ¬ V.str t = V.str (Str.ofString "-") from fun z => hne (V.str.inj z))]
        refine iteTb rfl ⟨_, rfl, ⟨_, rfl⟩, t, Str.ofString " ", rfl, rfl, by decide, by rw [sizeLine_eq]; omega, fun p hp => kq _ _ ⟨p, _, rfl, Gr.new hp, upd_same, .of hp, .inr ⟨hne, rfl⟩, hw, fun w h => Nat.le_trans (part_le t w h) hz⟩⟩
    rintro x H2 ⟨lw, ws, rfl, g2, hlw, nlw, hrd, hwl, hws⟩
    have hl2 := g2.at hl1 .lst
    have hd2 := g2.at hd1 .dK
    have wl : lw ≠ l := fun z => by
      obtain ⟨ps, e⟩ := nlw _ (by rw [z]; exact hl1)
      cases e
    have wd : lw ≠ d := fun z => by
      obtain ⟨ps, e⟩ := nlw _ (by rw [z]; exact hd1)
      cases e
    have g12 := g1.trans g2
    clear g0 g1 g2 hl1 hd1 nlw
    refine ⟨lw, rfl, ⟨_, SqL.of hlw⟩, for_list (K := K) (a := lw) (xs := ws.map V.str) (fun i σ H' => ∃ (n : Num) (s1 s4 : Option V), σ = [some (.str t), s1, some (.ref d), some (.ref l), s4] ∧ Gr Tb H H' ∧ H' lw = some (.lst (ws.map V.str)) ∧ H' l = some (.lst ((n.map (·.1)).map V.str)) ∧ H' d = some (.dK (dS (putsN n))) ∧ (ws.take i).map nowW = n.map some)
      ⟨[], none, none, rfl, g12, hlw, hl2, hd2, rfl⟩ (fun i σ H' _ ⟨_, _, _, _, _, h, _⟩ => SqL.of h) ?_ ?_⟩
    · rintro i x σ H3 hx ⟨n, s1, s4, rfl, g3, hlw3, hl3, hd3, hn⟩
      rw [List.getElem?_map] at hx
      cases hq : ws[i]? with
      | none => rw [hq] at hx; cases hx
      | some q =>
        rw [hq] at hx
        cases hx
        have hqm := List.mem_of_getElem? hq
        have hql := hws q hqm
        have bad : nowW q = none → ∀ H', Gr Tb H H' → Q .non H' := fun e H' g => k0 (hrd.bad (by rw [← e]; exact List.mem_map.mpr ⟨q, hqm, rfl⟩)) H' g
        have hnw := nowW_split q
        refine ⟨_, rfl, ⟨_, rfl⟩, q, Str.ofString ":", rfl, rfl, by decide, by rw [sizeLine_eq]; omega, fun p hp => ?_⟩
        have plh : p ≠ l := fun z => by
          rw [z, hl3] at hp
          cases hp
        have g4 := g3.trans (Gr.new (T := Tb) (o := .lst ((Txt.split q (Str.ofString ":")).map V.str)) hp)
        have hp4 : upd H3 p (.lst ((Txt.split q (Str.ofString ":")).map V.str)) p = some (.lst ((Txt.split q (Str.ofString ":")).map V.str)) := upd_same
        have hlw4 := (Gr.new (T := Tb) (o := .lst ((Txt.split q (Str.ofString ":")).map V.str)) hp).at hlw3 .lst
        have hl4 := (Gr.new (T := Tb) (o := .lst ((Txt.split q (Str.ofString ":")).map V.str)) hp).at hl3 .lst
        have hd4 := (Gr.new (T := Tb) (o := .lst ((Txt.split q (Str.ofString ":")).map V.str)) hp).at hd3 .dK
        generalize upd H3 p (.lst ((Txt.split q (Str.ofString ":")).map V.str)) = H4 at g4 hp4 hlw4 hl4 hd4
        have hpl : ∀ y ∈ Txt.split q (Str.ofString ":"), y.length ≤ 1000000 := fun y h => Nat.le_trans (part_short h) hql
        refine ⟨_, rfl, p, _, rfl, .inl (SqL.of hp4), rfl, _, rfl, ?_⟩
        rw [List.length_map]
        by_cases h2 : (Txt.split q (Str.ofString ":")).length = 2
        rotate_left
        · rw [decide_eq_false (show ¬ V.int ((Txt.split q (Str.ofString ":")).length : Int) = V.int 2 from fun z => h2 (by injection z with z; omega))]
          refine iteTb rfl (bad ?_ _ g4)
          rw [hnw]
          split
          · rename_i e
            rw [e] at h2
            exact absurd rfl h2
          · rfl
        rw [decide_eq_true (show V.int ((Txt.split q (Str.ofString ":")).length : Int) = V.int 2 by rw [h2]; rfl)]
        obtain ⟨x, y, e⟩ : ∃ x y, Txt.split q (Str.ofString ":") = [x, y] := by
          cases hps : Txt.split q (Str.ofString ":") with
          | nil => rw [hps] at h2; cases h2
          | cons x r =>
            cases r with
            | nil => rw [hps] at h2; cases h2
            | cons y r =>
              cases r with
              | nil => exact ⟨x, y, rfl⟩
              | cons z r => rw [hps] at h2; simp at h2
        rw [e] at hp4 hnw hpl
        dsimp only at hnw
        have hxl := hpl x (List.mem_cons_self ..)
        have hyl := hpl y (List.mem_cons_of_mem _ (List.mem_cons_self ..))
        refine iteFb rfl ⟨_, rfl, p, _, 0, .str x, rfl, rfl, SqL.of hp4, rfl, x, rfl, hxl, fun H5 g5 => ⟨_, rfl, ?_⟩⟩
        have g35 := g4.trans g5
        cases hnb : nameB x with
        | false =>
          refine iteTb rfl (bad ?_ _ g35)
          rw [hnw, hnb]
          cases posW y <;> rfl
        | true =>
          rw [hnb] at hnw
          refine iteFb rfl ⟨_, rfl, p, _, 1, .str y, rfl, rfl, SqL.of (g5.at hp4 .lst), rfl, y, rfl, hyl, fun H6 g6 => ⟨rfl, _, rfl, ?_⟩⟩
          have g46 := g5.trans g6
          have g36 := g4.trans g46
          cases hps : posW y with
          | none =>
            refine iteTb rfl (bad ?_ _ g36)
            rw [hnw, hps]
          | some z =>
            rw [hps] at hnw
            have hnq : nowW q = some (x, z) := hnw
            refine iteFb rfl ?_
            have hl6 := g46.at hl4 .lst
            have hd6 := g46.at hd4 .dK
            have hp6 := g46.at hp4 .lst
            have hlw6 := g46.at hlw4 .lst
            have tk : (ws.take (i + 1)).map nowW = (n ++ [(x, z)]).map some := by
              rw [List.take_add_one, hq]
              show List.map nowW (ws.take i ++ [q]) = _
              rw [List.map_append, hn, List.map_append, List.map_singleton, hnq]
              rfl
            have nlen : n.length < 64 := by
              have := congrArg List.length hn
              rw [List.length_map, List.length_map, List.length_take] at this
              omega
            refine ⟨_, rfl, .inl ⟨rfl, _, SqL.of hl6⟩, _, rfl, p, _, 0, .str x, rfl, rfl, SqL.of hp6, rfl, l, _, _, rfl, rfl, hl6, by rw [List.length_map, List.length_map, sizeLine_eq]; omega, ?_⟩
            have hp7 : upd H6 l (.lst ((n.map (·.1)).map V.str ++ [.str x])) p = some (.lst ([x, y].map V.str)) := by rw [upd_ne plh]; exact hp6
            have hd7 : upd H6 l (.lst ((n.map (·.1)).map V.str ++ [.str x])) d = some (.dK (dS (putsN n))) := by rw [upd_ne hld.symm]; exact hd6
            have hlw7 : upd H6 l (.lst ((n.map (·.1)).map V.str ++ [.str x])) lw = some (.lst (ws.map V.str)) := by rw [upd_ne wl]; exact hlw6
            have hl7 : upd H6 l (.lst ((n.map (·.1)).map V.str ++ [.str x])) l = some (.lst (((n ++ [(x, z)]).map (·.1)).map V.str)) := by rw [upd_same, List.map_append, List.map_append]; rfl
            have g37 := g36.mut (o := .lst ((n.map (·.1)).map V.str ++ [.str x])) hl0 hl6 .lst
            generalize upd H6 l (.lst ((n.map (·.1)).map V.str ++ [.str x])) = H7 at hp7 hd7 hlw7 hl7 g37
            refine ⟨_, rfl, p, _, 1, .str y, rfl, rfl, SqL.of hp7, rfl, y, rfl, hyl, fun H8 g8 => ?_⟩
            rw [hps]
            have pn := putsN_len n []
            refine ⟨_, rfl, _, rfl, p, _, 0, .str x, rfl, rfl, SqL.of (g8.at hp7 .lst), rfl, d, _, rfl, dputS (g8.at hd7 .dK) (by rw [sizeLine_eq]; show (putsN n).length < _; unfold putsN; rw [List.length_nil] at pn; omega), ?_⟩
            refine ⟨n ++ [(x, z)], _, _, rfl, (g37.trans g8).mut hd0 (g8.at hd7 .dK) .dK, by rw [upd_ne wd]; exact g8.at hlw7 .lst, by rw [upd_ne hld]; exact g8.at hl7 .lst, ?_, tk⟩
            have ep : putsN (n ++ [(x, z)]) = put (putsN n) x z := by
              unfold putsN
              rw [List.foldl_append]
              rfl
            rw [ep]
            exact upd_same
    · rintro σ H3 ⟨n, s1, s4, rfl, g3, hlw3, hl3, hd3, hn⟩
      rw [List.length_map, List.take_length] at hn
      rw [hn] at hrd
      have hrd := hrd.good hz
      have hnm := reads_names hrd
      have hwl2 : n.length < 64 := by
        have := congrArg List.length hn
        rw [List.length_map, List.length_map] at this
        omega
      have hnl : (n.map (·.1)).length < 64 := by rw [List.length_map]; exact hwl2
      refine ⟨_, rfl, _, rfl, l, n.map (·.1), rfl, SqL.of hl3, hnl, fun s2 hs2 => ⟨s2, n.map (·.1), rfl, upd_same, hnl, fun ys p hys hyn hym hyl hp => ?_⟩⟩
      have g4 : Gr Tb H3 (upd (upd H3 s2 (SetTx w s2 (n.map (·.1)))) p (.lst (ys.map V.str))) := (Gr.new hs2).trans (Gr.new hp)
      have shn := shaped_strs (ns := n.map (·.1)) fun x hx => by
        obtain ⟨q, hq, rfl⟩ := List.mem_map.mp hx
        exact hnm q hq
      have shy := shaped_strs (ns := ys) fun x hx => by
        obtain ⟨q, hq, rfl⟩ := List.mem_map.mp ((hym x).mp hx)
        exact hnm q hq
      refine ⟨.list ((n.map (·.1)).map PyData.str), .list (ys.map PyData.str), dp_strs (g4.at hl3 .lst), dp_strs upd_same, shn, shy, _, rfl, ?_⟩
      by_cases he : n.map (·.1) = ys
      · have e2 : PyData.eqv (.list ((n.map (·.1)).map PyData.str)) (.list (ys.map PyData.str)) = true := by
          rw [PyData.eqv]
          exact (eqvAll_strs _ _).mpr he
        rw [e2]
        have hd : (n.map (·.1)).Nodup := by rw [he]; exact hyn
        have e3 : putsN n = n := by
          unfold putsN
          rw [putsN_nodup n [] (by rw [List.nil_append]; exact hd), List.nil_append]
        rw [e3] at hd3
        exact iteTb rfl ⟨_, rfl, k1 n d _ ⟨hrd, by rw [he]; exact hys, hd⟩ (g3.trans g4) hd0 (g4.at hd3 .dK)⟩
      · have e2 : PyData.eqv (.list ((n.map (·.1)).map PyData.str)) (.list (ys.map PyData.str)) = false := by
          rw [PyData.eqv, Bool.eq_false_iff]
          exact fun z => he ((eqvAll_strs _ _).mp z)
        rw [e2]
        refine iteFb rfl (k0 (fun n' ⟨q1, q2, q3⟩ => ?_) _ (g3.trans g4))
        obtain rfl := hrd.uniq q1
        exact he (sorted_same q2 hys q3 hyn hym).symm
end
end Sk
namespace Sk
open PySem PySem.Spec PyProof.Rows L2
/-- how a call ends: no error, or one of this class with this value -/
def outD : Option (Str × PyData) → PyData
  | none => .none
  | some (C, d) => .list [.str C, d, .bool true]
theorem outD_shal {o : Option (Str × PyData)} (h : ∀ C d, o = some (C, d) → (∃ x, d = .str x) ∨ ∃ i, d = .int i) : (outD o).depth < 5 ∧ cnt (outD o) ≤ 16000000 := by
  cases o with
  | none => exact ⟨by rw [outD, PyData.depth]; decide, by rw [outD, cnt]; decide⟩
  | some q =>
    obtain ⟨C, d⟩ := q
    have hd : d.depth = 0 ∧ cnt d = 1 := by
      rcases h C d rfl with ⟨x, rfl⟩ | ⟨i, rfl⟩
      · exact ⟨by rw [PyData.depth], by rw [cnt]⟩
      · exact ⟨by rw [PyData.depth], by rw [cnt]⟩
    refine ⟨?_, ?_⟩
    · show (PyData.list [.str C, d, .bool true]).depth < 5
      rw [PyData.depth]
      have := depth_le (ds := [PyData.str C, d, .bool true]) (m := 0) (fun y hy => by
        simp at hy
        rcases hy with rfl | rfl | rfl
        · rw [PyData.depth]; exact Nat.le_refl _
        · exact Nat.le_of_eq hd.1
        · rw [PyData.depth]; exact Nat.le_refl _)
      omega
    · show cnt (PyData.list [.str C, d, .bool true]) ≤ 16000000
      rw [cnt]
      have := cnt_le (ds := [PyData.str C, d, .bool true]) (m := 1) (fun y hy => by
        simp at hy
        rcases hy with rfl | rfl | rfl
        · rw [cnt]; exact Nat.le_refl _
        · exact Nat.le_of_eq hd.2
        · rw [cnt]; exact Nat.le_refl _)
      have e : ([PyData.str C, d, .bool true] : List PyData).length = 3 := rfl
      rw [e] at this
      omega
end Sk
namespace Sk
open PySem PySem.Spec PyProof.Rows L2
abbrev s_law : Stmt := topS 42
abbrev N_law : List Str := ["script", "source", "odd", "k", "text", "turn", "caught", "found", "e", "wanted"]
theorem sc_law : FnScope N_law ["script"] (defScope s_law) := ⟨rfl, rfl, rfl, by decide +kernel, rfl, by decide +kernel, by decide +kernel⟩
def sp_law (Tb : List (Addr × Str)) (K : PySem.W.Frag) : Sp := fun vs H Q _ => ∃ (a : Addr) (ns : List Int), vs = [.ref a] ∧ SqL K H a (ns.map V.int) ∧ ns.length ≤ 63 ∧ LamX.Tabs Tb H ∧ ∀ H', Q (.bl true) H'
theorem digits_lt : ∀ (n : Nat) (cs : List Nat), cs.length = n → NumText.AllDigits cs → NumText.digitsVal cs < 10 ^ n
  | 0, cs, h, _ => by
    rw [List.length_eq_zero_iff.mp h]
    decide
  | n + 1, cs, h, ha => by
    obtain ⟨r, c, rfl⟩ : ∃ r c, cs = r ++ [c] := ⟨cs.dropLast, cs.getLast (fun z => by rw [z] at h; cases h), (List.dropLast_concat_getLast _).symm⟩
    rw [List.length_append, List.length_singleton] at h
    have ih := digits_lt n r (by omega) (fun x hx => ha x (List.mem_append_left _ hx))
    obtain ⟨h1, h2⟩ := ha c (List.mem_append_right _ (List.mem_singleton.mpr rfl))
    rw [NumText.digitsVal_snoc, Nat.pow_succ]
    omega
theorem posW_small {w : Str} {i : Int} (h : posW w = some i) : 0 ≤ i ∧ i < 10 ^ 60 := by
  unfold posW at h
  split at h
  · rename_i c
    obtain ⟨_, c2, c3, _⟩ := c
    cases h
    have all : NumText.AllDigits w.cps.toList := fun c hc => by
      have h6 := of_decide_eq_true (List.all_eq_true.mp c3 c hc)
      have h7 : ∀ c ∈ digitsS.cps.toList, 48 ≤ c ∧ c ≤ 57 := by decide +kernel
      exact h7 c h6
    have h8 := digits_lt _ w.cps.toList rfl all
    rw [← nSp_len] at h8
    have h9 : (10 : Nat) ^ w.length ≤ 10 ^ 60 := Nat.pow_le_pow_right (by decide) c2
    constructor
    · omega
    · have h10 : NumText.digitsVal w.cps.toList < 10 ^ 60 := Nat.lt_of_lt_of_le h8 h9
      exact_mod_cast h10
  · cases h
theorem wrote_small {t : Str} {n : Num} (h : Wrote t n) (hw : (Txt.split t (Str.ofString " ")).length < 64) : n.length < 64 ∧ ∀ q ∈ n, nameB q.1 = true ∧ q.2.natAbs < 10 ^ 100 := by
  rcases h.1 with ⟨_, rfl⟩ | ⟨_, e, _⟩
  · exact ⟨by decide, fun q hq => by cases hq⟩
  · refine ⟨?_, fun q hq => ?_⟩
    · have := congrArg List.length e
      rw [List.length_map, List.length_map] at this
      omega
    · have : some q ∈ n.map some := List.mem_map.mpr ⟨q, hq, rfl⟩
      rw [← e] at this
      obtain ⟨w, _, ew⟩ := List.mem_map.mp this
      refine ⟨now_name ew, ?_⟩
      unfold nowW at ew
      split at ew
      · rename_i i hi
        split at ew
        · cases ew
          obtain ⟨p1, p2⟩ := posW_small hi
          have : i.natAbs < 10 ^ 60 := by omega
          exact Nat.lt_trans this (by decide)
        · cases ew
      · cases ew
theorem word_free {d : Num} {x : Str} (h : nameB x = true) (h0 : 0 < getD d x) : 32 ∉ (wordT d x).cps.toList := fun z => by
  obtain ⟨n, hn⟩ := Int.eq_ofNat_of_zero_le (Int.le_of_lt h0)
  unfold wordT at z
  have e : (x ++ Str.ofString ":" ++ Str.ofString (toString (getD d x))).cps.toList = x.cps.toList ++ [58] ++ (Str.ofString (toString (getD d x))).cps.toList := by
    show ((x.cps ++ (Str.ofString ":").cps) ++ (Str.ofString (toString (getD d x))).cps).toList = _
    rw [Array.toList_append, Array.toList_append]
    rfl
  rw [e] at z
  rcases List.mem_append.mp z with z | z
  · rcases List.mem_append.mp z with z | z
    · have := name_signs h 32 z
      omega
    · simp at z
  · rw [hn, show (Str.ofString (toString ((n : Nat) : Int))).cps.toList = TL.numL n from TL.tl_num n] at z
    exact TL.numL_free (by decide) z
/-- the first text -/
theorem num_first {d : Num} {ys : List Str} (nd : (d.map (·.1)).Nodup) (dl : d.length ≤ 8) (dv : ∀ q ∈ d, nameB q.1 = true ∧ 0 ≤ q.2 ∧ q.2 < 10 ^ 60) (hy : ys.Perm (d.map (·.1))) : (numT ys d).length ≤ 1000 ∧ nSp (numT ys d) ≤ 7 := by
  unfold numT
  by_cases hp : posK ys d = []
  · rw [if_pos hp]
    decide
  · rw [if_neg hp]
    have hl : (posK ys d).length ≤ 8 := by
      have h1 : (posK ys d).length ≤ ys.length := List.length_filter_le _ _
      have h2 := hy.length_eq
      rw [List.length_map] at h2
      omega
    have pk : ∀ x ∈ posK ys d, nameB x = true ∧ 0 < getD d x ∧ (getD d x).natAbs < 10 ^ 100 := fun x hx => by
      obtain ⟨h1, h2⟩ := List.mem_filter.mp hx
      obtain ⟨q, hq, rfl⟩ := List.mem_map.mp (hy.mem_iff.mp h1)
      obtain ⟨b1, b2, b3⟩ := dv q hq
      have h3 := of_decide_eq_true h2
      refine ⟨b1, h3, ?_⟩
      rw [getD_mem nd hq]
      have : q.2.natAbs < 10 ^ 60 := by omega
      exact Nat.lt_trans this (by decide)
    have hne : (posK ys d).map (wordT d) ≠ [] := fun z => hp (List.map_eq_nil_iff.mp z)
    have h1 := Meas.len.join (Str.ofString " ") hne
    have h2 := Meas.cnt.join (Str.ofString " ") hne
    have e1 : (Str.ofString " ").cps.toList.length = 1 := by decide
    have e2 : (Str.ofString " ").cps.toList.count 32 = 1 := by decide
    rw [e1, List.length_map, ← nSp_len] at h1
    rw [e2, List.length_map] at h2
    have s1 := sum_le' (l := ((posK ys d).map (wordT d)).map fun p => p.cps.toList.length) (m := 110) fun x hx => by
      obtain ⟨z, hz, rfl⟩ := List.mem_map.mp hx
      obtain ⟨q, hq, rfl⟩ := List.mem_map.mp hz
      obtain ⟨b1, b2, b3⟩ := pk q hq
      show (wordT d q).cps.toList.length ≤ 110
      rw [← nSp_len]
      exact word_len (name_len b1) b3
    have s2 := sum_le' (l := ((posK ys d).map (wordT d)).map fun p => p.cps.toList.count 32) (m := 0) fun x hx => by
      obtain ⟨z, hz, rfl⟩ := List.mem_map.mp hx
      obtain ⟨q, hq, rfl⟩ := List.mem_map.mp hz
      obtain ⟨b1, b2, b3⟩ := pk q hq
      show (wordT d q).cps.toList.count 32 ≤ 0
      rw [List.count_eq_zero.mpr (word_free b1 b2)]
      exact Nat.le_refl _
    simp only [List.length_map] at s1 s2
    unfold nSp
    omega
theorem nameB_shw' {x : Str} (h : nameB x = true) : ShwS x := ⟨Nat.le_trans (name_len h) (by decide), fun c hc => by
  have := (name_signs h c hc).2
  exact Nat.lt_of_le_of_lt this (by decide)⟩
section
variable {P : Program} {w : World} {K : PySem.W.Frag} {mg : Str → Option Value} {base : Heap} {Tb : List (Addr × Str)}
theorem ok_law {f : Addr} {fd : FuncData} (F : FnP K "law" s_law f fd) (T : Tx K mg) (G_law_changed : Fn P w K mg base "_law_changed" 3 ["source", "text", "odd"] (sp_law_changed Tb K)) (G_law_draw : Fn P w K mg base "_law_draw" 1 ["source", "many"] (sp_law_draw Tb K)) (GT_law_error : FnTx P w K mg base "_law_error" 1 ["e"] (hotSp (sp_law_error Tb K))) (G_law_goods : Fn P w K mg base "_law_goods" 4 ["source", "most"] (sp_law_goods Tb K)) (G_law_goods_of : Fn P w K mg base "_law_goods_of" 2 ["text"] (sp_law_goods_of Tb K)) (G_law_goods_text : Fn P w K mg base "_law_goods_text" 1 ["goods"] (sp_law_goods_text Tb K)) (G_law_odd_texts : Fn P w K mg base "_law_odd_texts" 1 [] (sp_law_odd_texts Tb K)) (G_law_same : Fn P w K mg base "_law_same" 5 ["found", "wanted"] (sp_law_same Tb K)) (G_law_source : Fn P w K mg base "_law_source" 1 ["script"] (sp_law_source Tb K)) (GX_read_numbers : FnX P w K mg base "read_numbers" 3 ["text"] (sp_read_numbers Tb K)) : FnG P w K mg base 6 f fd ["script"] (sp_law Tb K) := by
  refine fnG_of F sc_law (fun vs H Q E h => ?_) (fun cdv A outer s H vs Q E hgd hr h => ?_)
  · obtain ⟨_, _, rfl, _⟩ := h
    rfl
  · obtain ⟨a, ns, rfl, ha, hz, ht, k⟩ := h
    refine ⟨_, PSs.nox (pss_cons (ps_set (i := 1) sc_law.nd rfl (Or.inl rfl) (pe_fn G_law_source (hr.mono (by decide)) (pa_cons (pv 0) pa_nil)))
      (pss_cons (ps_set (i := 2) sc_law.nd rfl (Or.inl rfl) (pe_fn0 G_law_odd_texts (hr.mono (by decide))))
      (pss_cons (ps_for PassesOwn.never rfl (pi_range1 (by rfl) T.n_range (pa_cons (pe_op op_add pe_int (pe_op op_mul pe_int (pe_callB (lenS (K := K) rfl) (by rfl) T.n_len (by decide +kernel) (pa_cons (pe_slice (slL (K := K) rfl) (pv 0) po_none (po_some pe_int)) pa_nil)))) pa_nil)) (pg_name (i := 3) sc_law.nd rfl (Or.inl rfl)) (pss_cons (ps_set (i := 4) sc_law.nd rfl (Or.inl rfl) (pe_fn G_law_goods_text (hr.mono (by decide)) (pa_cons (pe_fn G_law_goods (hr.mono (by decide)) (pa_cons (pv 1) (pa_cons pe_int pa_nil))) pa_nil)))
        (pss_cons (ps_if (pt_cmpR op_eq (pe_fn G_law_draw (hr.mono (by decide)) (pa_cons (pv 1) (pa_cons pe_int pa_nil))) pe_int (nomark _)) (pss_one (ps_set (i := 4) sc_law.nd rfl (Or.inl rfl) (pe_ix (ixL (K := K) rfl) (pv 2) (pe_fn G_law_draw (hr.mono (by decide)) (pa_cons (pv 1) (pa_cons (pe_callB (lenS (K := K) rfl) (by rfl) T.n_len (by decide +kernel) (pa_cons (pv 2) pa_nil)) pa_nil))) (fun _ _ => rfl)))) pss_nil)
        (pss_cons (ps_for PassesOwn.never rfl (pi_range1 (by rfl) T.n_range (pa_cons (pe_ix (ixL (K := K) rfl) (pe_lst (pa_cons pe_int (pa_cons pe_int (pa_cons pe_int (pa_cons pe_int (pa_cons pe_int pa_nil)))))) (pe_fn G_law_draw (hr.mono (by decide)) (pa_cons (pv 1) (pa_cons pe_int pa_nil))) (fun _ _ => rfl)) pa_nil)) (pg_name (i := 5) sc_law.nd rfl (Or.inl rfl)) (pss_one (ps_set (i := 4) sc_law.nd rfl (Or.inl rfl) (pe_fn G_law_changed (hr.mono (by decide)) (pa_cons (pv 1) (pa_cons (pv 4) (pa_cons (pv 2) pa_nil)))))))
        (pss_cons (ps_set (i := 4) sc_law.nd rfl (Or.inl rfl) (pe_slice sl_str (pv 4) po_none (po_some pe_int)))
        (pss_cons (ps_set (i := 6) sc_law.nd rfl (Or.inl rfl) pe_non)
        (pss_cons (ps_set (i := 7) sc_law.nd rfl (Or.inl rfl) pe_non)
        (pss_cons (psTryT (i := 8) rfl rfl sc_law.nd rfl rfl ⟨rfl, by decide, .inl T.g_StoreError⟩ takes0 (fun W pn xe tk po => (pss_one (ps_set (i := 7) sc_law.nd rfl (Or.inl rfl) (pe_fnX GX_read_numbers (hr.mono (by decide)) tk (pa_cons (pv 4) pa_nil))))) (fun a pn => (pss_one (ps_set (i := 6) sc_law.nd rfl (Or.inl rfl) (pe_fnT GT_law_error (L2H.roomH_mark (hr.mono (by decide)) _) rfl (pa_cons (pv 8) pa_nil))))))
        (pss_cons (ps_set (i := 9) sc_law.nd rfl (Or.inl rfl) (pe_fn G_law_goods_of (hr.mono (by decide)) (pa_cons (pv 4) pa_nil)))
        (pss_cons (ps_if (PW.pt (pw_and (pt_cmpR op_isN (pv 9) pe_non (nomark _)) (pw_and1 (pt_not (pt_val (pe_fn G_law_same (hr.mono (by decide)) (pa_cons (pv 6) (pa_cons (pe_lst (pa_cons pe_str (pa_cons (pv 4) (pa_cons pe_bl pa_nil)))) pa_nil)))))))) (pss_one (ps_ret pe_bl)) pss_nil)
        (pss_one (ps_if (PW.pt (pw_and (pt_cmpR op_notN (pv 9) pe_non (nomark _)) (pw_and1 (PW.pt (pw_or (pt_cmpR op_notN (pv 6) pe_non (nomark _)) (pw_or1 (pt_cmpR op_ne (pe_callB (crReprD (K := K) rfl hgd hr.units) (by rfl) T.n_repr (by decide +kernel) (pa_cons (pv 7) pa_nil)) (pe_callB (crReprD (K := K) rfl hgd hr.units) (by rfl) T.n_repr (by decide +kernel) (pa_cons (pv 9) pa_nil)) (nomark _)))))))) (pss_one (ps_ret pe_bl)) pss_nil))))))))))))
      (pss_one (ps_ret pe_bl))))), ?_⟩
    refine ⟨_, rfl, a, ns, fun _ => none, rfl, ha, hz, .emp, ht, fun p H1 hs g1 => ?_⟩
    refine ⟨rfl, fun lo H2 g2 n2 hlo => ?_⟩
    have g12 := g1.trans g2
    have hs2 := (hs.grow g2 n2 hlo .lst).freeze
    have hG : upd (fun _ => none) lo (.lst (oddL.map V.str)) lo = some (.lst (oddL.map V.str)) := upd_same
    generalize upd (fun _ => none) lo (.lst (oddL.map V.str)) = G0 at hs2 hG
    refine ⟨_, rfl, _, rfl, a, _, rfl, g12.ext_seq ha, fun a2 ha2 => ?_⟩
    have hlen : ((cutV (ns.map V.int) none (some 12)).length : Int) ≤ 12 := by
      rw [cut_take (by decide), List.length_take]
      omega
    generalize cutV (ns.map V.int) none (some 12) = cv at hlen
    have h0 := (hs2.new ha2 (.lst (xs := cv))).drop1
    refine ⟨a2, _, rfl, .inl (SqL.of upd_same), _, _, rfl, rfl, .inr ⟨by omega, by omega⟩, _, _, rfl, rfl, _, rfl, by omega, by omega, for_range (lo := 0) (n := (8 + 3 * (cv.length : Int)).toNat)
      (fun i σ H' => ∃ (G : Hp) (s3 s4 s5 s6 s7 s8 s9 : Option V), σ = [some (.ref a), some (.ref p), some (.ref lo), s3, s4, s5, s6, s7, s8, s9] ∧ G lo = some (.lst (oddL.map V.str)) ∧ Hs Tb p (3000 * i) [] G H')
      ⟨G0, none, none, none, none, none, none, none, rfl, hG, h0⟩ ?_ (fun σ H' _ => k H')⟩
    rintro i σ H3 hi ⟨G, s3, s4, s5, s6, s7, s8, s9, rfl, hG, hs3⟩
    have hi44 : i < 44 := by omega
    clear hs g1 g2 ha hlen hi ht h0 ha2 hlo n2 g12 hs2
    -- text
    refine ⟨_, rfl, p, _, _, G, 8, rfl, hs3, by omega, by decide, by decide, fun gd H4 d nd dl dv h4 => ?_⟩
    have dl8 : d.length ≤ 8 := by omega
    have sh : Shows d := ⟨nd, by omega, fun q hq => name_len (dv q hq).1, fun q hq => by
      obtain ⟨_, b1, b2⟩ := dv q hq
      have : q.2.natAbs < 10 ^ 60 := by omega
      exact Nat.lt_trans this (by decide)⟩
    refine ⟨gd, d, rfl, h4.get (i := 0) rfl, sh, fun ys H5 hys hso g5 => ?_⟩
    obtain ⟨t1, t2⟩ := num_first nd dl8 dv hys
    have h5 := (h4.gr g5).drop1
    generalize numT ys d = t at t1 t2
    clear h4 g5 sh nd dl dl8 dv hys hso
    refine goN ?_
    dsimp only
    refine sq_st (fun σ H' => ∃ t : Str, σ = [some (.ref a), some (.ref p), some (.ref lo), some (.int (0 + (i : Int))), some (.str t), s5, s6, s7, s8, s9] ∧ t.length ≤ 1000 ∧ nSp t ≤ 7 ∧ Hs Tb p (3000 * i + 2100) [] G H') (fun N hN => ?_) ?_
    · refine ⟨_, rfl, p, _, _, G, 8, rfl, h5, by omega, by decide, by decide, fun x H6 x0 x1 h6 => ?_⟩
      refine ⟨rfl, _, rfl, ite2 (fun z => ?_) (fun z => ?_)⟩
      · refine ⟨_, rfl, _, rfl, _, rfl, lo, _, rfl, .inl (SqL.of (h6.fzat hG)), p, _, _, G, _, rfl, h6, by omega, by rw [List.length_map]; decide, by rw [List.length_map]; decide, fun d2 H7 e0 e1 h7 => ?_⟩
        rw [List.length_map] at e1
        obtain ⟨o, eo, ho⟩ := pick_s e0 e1
        obtain ⟨o1, o2⟩ := odd_ok o ho
        exact ⟨lo, _, d2, .str o, rfl, rfl, SqL.of (h7.fzat hG), eo, hN _ _ ⟨o, rfl, by omega, by omega, h7.mono (by omega)⟩⟩
      · exact hN _ _ ⟨t, rfl, t1, t2, h6.mono (by omega)⟩
    clear t1 t2 t h5
    rintro σ H5 ⟨t, rfl, t1, t2, h5⟩
    -- turns
    refine sq_st (fun σ H' => ∃ (t : Str) (s5 : Option V), σ = [some (.ref a), some (.ref p), some (.ref lo), some (.int (0 + (i : Int))), some (.str t), s5, s6, s7, s8, s9] ∧ t.length ≤ 10000 ∧ nSp t ≤ 61 ∧ Hs Tb p (3000 * i + 2300) [] G H') (fun N hN => ?_) ?_
    · refine ⟨by show 5 ≤ sizeLine; decide, fun l hl => ⟨_, rfl, p, _, _, G, 5, rfl, h5.new hl .lst, by omega, by decide, by decide, fun d0 H6 d00 d01 h6 => ?_⟩⟩
      obtain ⟨m, em, m0, m1⟩ := pick_int (P := fun i => 0 ≤ i ∧ i ≤ 3) [0, 1, 1, 2, 3] rfl d00 d01 (by decide)
      refine ⟨l, _, d0, .int m, rfl, rfl, SqL.of (h6.get (i := 0) rfl), em, ?_⟩
      refine ⟨m, rfl, by omega, by omega, for_range (lo := 0) (n := m.toNat) (fun j σ H' => ∃ (t : Str) (s5 : Option V), σ = [some (.ref a), some (.ref p), some (.ref lo), some (.int (0 + (i : Int))), some (.str t), s5, s6, s7, s8, s9] ∧ t.length + 70 ≤ 1100 * 2 ^ j ∧ Spc j t ∧ Hs Tb p (3000 * i + 2110 + 50 * j) [] G H') ⟨t, _, rfl, by omega, .inl ⟨rfl, t2⟩, h6.drop1.mono (by omega)⟩ ?_ ?_⟩
      · rintro j σ H7 hj ⟨t, s5, rfl, t3, t4, h7⟩
        have hj3 : j < 3 := by omega
        have pj : (2 : Nat) ^ j ≤ 2 ^ 3 := Nat.pow_le_pow_right (by decide) (by omega)
        have p3 : (2 : Nat) ^ 3 = 8 := rfl
        refine ⟨_, rfl, _, rfl, _, rfl, p, lo, _, _, G, t, rfl, h7, by omega, by omega, hG, fun t' H8 hc h8 => ?_⟩
        have hcl := hc.len
        have pj1 : (2 : Nat) ^ (j + 1) = 2 ^ j * 2 := Nat.pow_succ ..
        exact ⟨t', _, rfl, by rw [pj1]; omega, t4.next hc hj3, h8.mono (by omega)⟩
      · rintro σ H7 ⟨t, s5, rfl, t3, t4, h7⟩
        have pj : (2 : Nat) ^ m.toNat ≤ 2 ^ 3 := Nat.pow_le_pow_right (by decide) (by omega)
        have p3 : (2 : Nat) ^ 3 = 8 := rfl
        exact hN _ _ ⟨t, _, rfl, by omega, t4.few, h7.mono (by omega)⟩
    clear t1 t2 t h5
    rintro σ H5 ⟨t, s5, rfl, t1, t2, h5⟩
    refine ⟨_, rfl, _, rfl, t, rfl, by rw [sizeLine_eq]; omega, ?_⟩
    have c1 := cutS_length t none (some 4000)
    have c2 : nSp (cutS t none (some 4000)) ≤ nSp t := by
      unfold nSp
      rw [show (4000 : Int) = ((4000 : Nat) : Int) from rfl, cutS_lo]
      exact (List.take_sublist _ _).count_le _
    generalize cutS t none (some 4000) = tx at c1 c2
    have tl : tx.length ≤ 1000000 := by omega
    have tw : (Txt.split tx (Str.ofString " ")).length < 64 := by rw [words_nSp]; omega
    refine goN ?_
    dsimp only
    clear c1 c2 t1 t2
    have xm := (kiAll_ok T.ke (C := "InvalidText") (by decide)).xm
    refine sq_st (fun σ H' => σ = [some (.ref a), some (.ref p), some (.ref lo), some (.int (0 + (i : Int))), some (.str tx), s5, some .non, s7, s8, s9] ∧ H5 = H') (fun N hN => hN _ _ ⟨rfl, rfl⟩) ?_
    rintro _ _ ⟨rfl, rfl⟩
    refine sq_st (fun σ H' => σ = [some (.ref a), some (.ref p), some (.ref lo), some (.int (0 + (i : Int))), some (.str tx), s5, some .non, some .non, s8, s9] ∧ H5 = H') (fun N hN => hN _ _ ⟨rfl, rfl⟩) ?_
    rintro _ _ ⟨rfl, rfl⟩
    -- read
    refine sq_st (fun σ H' => ∃ (cv fv : V) (s8 : Option V) (G' : Hp), σ = [some (.ref a), some (.ref p), some (.ref lo), some (.int (0 + (i : Int))), some (.str tx), s5, some cv, some fv, s8, s9] ∧ Same G G' ∧ ((∃ (n : Num) (r : Addr), cv = .non ∧ fv = .ref r ∧ Wrote tx n ∧ G' r = some (.dK (dS n))) ∨ (cv ≠ .non ∧ fv = .non ∧ (∀ n, ¬ Wrote tx n) ∧ ∀ H', Same G' H' → Dp K H' cv (outD (some ("InvalidText", .str tx))))) ∧ Hs Tb p (3000 * i + 2300) [] G' H') (fun N hN => ?_) ?_
    · refine ⟨_, rfl, tx, rfl, tl, tw, fun n r H6 hw g6 n6 hr => ?_, fun dd H6 hb g6 hdd => ⟨true, xm, fun _ ex hex => ⟨_, rfl, rfl, ex, "InvalidText", .str tx, rfl, by decide, ⟨dd, upd_same, by rw [upd_ne (fun z => by rw [z, hex] at hdd; cases hdd)]; exact hdd⟩, fun t H7 g7 n7 ht7 => ?_⟩, fun z => by cases z⟩⟩
      · have h6 := h5.grow g6 n6 hr .dK
        exact hN _ _ ⟨.non, .ref r, _, _, rfl, Same.upd h6.cfree, .inl ⟨n, r, rfl, rfl, hw, upd_same⟩, h6.freeze⟩
      · have g67 := (g6.trans (Gr.new hex)).trans g7
        have h7 := h5.grow g67 ((g6.trans (Gr.new hex)).nw n7) ht7 .lst
        exact hN _ _ ⟨.ref t, .non, _, _, rfl, Same.upd h7.cfree, .inr ⟨(fun z => by cases z), rfl, hb, fun H' s => .lst (SqL.of (s _ _ upd_same)) (.cons (.str "InvalidText") (.cons (.str tx) (.cons (.bl true) .nil)))⟩, h7.freeze⟩
    rintro σ H6 ⟨cv, fv, s8, G', rfl, sG, hcf, h6⟩
    have hG := sG _ _ hG
    clear h5 sG
    rcases hcf with ⟨n, r, rfl, rfl, hw, hr⟩ | ⟨cne, rfl, hb, hdp⟩
    · -- the numbers
      obtain ⟨nl, nv⟩ := wrote_small hw tw
      refine ⟨_, rfl, tx, rfl, tl, tw, (fun hb => (hb n hw).elim), fun n' r2 H7 hw2 g7 n7 hr2 => ?_⟩
      obtain rfl := hw.1.uniq hw2.1
      have h7 := h6.gr g7
      obtain ⟨w1, w2, w3⟩ := show_num (n := n) fun q hq => ⟨nameB_shw' (nv q hq).1, (nv q hq).2⟩
      refine ⟨_, rfl, rfl, _, rfl, iteFb rfl ?_⟩
      refine ⟨_, rfl, rfl, _, rfl, iteTb rfl ?_⟩
      refine ⟨_, rfl, rfl, _, rfl, iteFb rfl ?_⟩
      refine ⟨_, rfl, r, n, rfl, h7.fzat hr, w1, by rw [sizeLine_eq]; omega, by omega, _, rfl, r2, n, rfl, hr2, w1, by rw [sizeLine_eq]; omega, by omega, rfl, _, rfl, ?_⟩
      rw [decide_eq_true rfl]
      refine iteF ?_
      exact ⟨G', _, _, _, _, _, _, _, rfl, hG, h7.mono (by omega)⟩
    · -- no numbers
      refine ⟨_, rfl, tx, rfl, tl, tw, (fun _ H7 g7 => ?_), fun n' r2 H7 hw2 g7 n7 hr2 => (hb n' hw2).elim⟩
      have h7 := h6.gr g7
      refine ⟨_, rfl, rfl, _, rfl, iteTb rfl ⟨_, rfl, _, rfl, by show 3 ≤ sizeLine; decide, fun l9 hl9 => ?_⟩⟩
      have h8 := h7.gr (Gr.new (T := Tb) (o := .lst [.str "InvalidText", .str tx, .bl true]) hl9)
      have shal := outD_shal (o := some ("InvalidText", PyData.str tx)) (fun C d e => by cases e; exact .inl ⟨tx, rfl⟩)
      refine ⟨cv, .ref l9, outD (some ("InvalidText", .str tx)), rfl, hdp _ h8.fz.sub, .lst (SqL.of upd_same) (.cons (.str "InvalidText") (.cons (.str tx) (.cons (.bl true) .nil))), shal.1, shal.2, fun H9 g9 => ⟨true, rfl, iteF ?_⟩⟩
      refine ⟨_, rfl, rfl, _, rfl, iteFb rfl ?_⟩
      exact ⟨G', _, _, _, _, _, _, _, rfl, hG, (h8.gr g9).mono (by omega)⟩
end
end Sk
set_option maxHeartbeats 0
namespace Sk
open PySem PySem.Spec PyProof.Rows L2
def dfD (i : Nat) (x : Str) : He.DefD := ⟨(x, none), x, x, defArgs (topS i), defBody (topS i), defScope (topS i), [], []⟩
def dfM (i j : Nat) (m q : Str) (ds : List He.Dv) : He.DefD := ⟨("Store", some m), m, q, defArgs (inClass (topS i) j), defBody (inClass (topS i) j), defScope (inClass (topS i) j), ds, []⟩
def hfn : List He.DefD := [⟨("InvalidText", some "__init__"), "__init__", "InvalidText.__init__", defArgs (inClass (topS 8) 0), defBody (inClass (topS 8) 0), defScope (inClass (topS 8) 0), [], []⟩, dfD 12 "is_name", dfD 19 "read_positive", dfD 20 "read_number_of", dfD 21 "read_numbers", dfD 23 "_law_source", dfD 24 "_law_draw", dfD 25 "_law_same", dfD 26 "_law_shuffled", dfD 27 "_law_error", dfD 28 "_law_names", dfD 31 "_law_long", dfD 32 "_law_goods", dfD 33 "_law_goods_text", dfD 34 "_law_sign", dfD 35 "_law_parts_changed", dfD 36 "_law_changed", dfD 37 "_law_odd_texts", dfD 38 "_law_is_name", dfD 40 "_law_positive", dfD 41 "_law_goods_of", dfD 42 "law"]
def hfa : List He.Fa := [.glo "is_name", .glo "read_positive", .glo "read_number_of", .glo "read_numbers", .glo "_law_source", .glo "_law_draw", .glo "_law_same", .glo "_law_shuffled", .glo "_law_error", .glo "_law_names", .glo "_law_long", .glo "_law_goods", .glo "_law_goods_text", .glo "_law_sign", .glo "_law_parts_changed", .glo "_law_changed", .glo "_law_odd_texts", .glo "_law_is_name", .glo "_law_positive", .glo "_law_goods_of", .glo "law", .free "ValueError", .free "abs", .free "all", .free "any", .free "bool", .free "dict", .free "enumerate", .free "int", .free "isinstance", .free "len", .free "list", .free "max", .free "min", .free "range", .free "repr", .free "reversed", .free "set", .free "sorted", .free "str", .free "sum", .free "tuple", .free "type", .free "zip", .str "COLON" ":", .str "DIGITS" "0123456789", .str "LETTERS" "abcdefghijklmnopqrstuvwxyz", .int "MOST_DIGITS" 60, .int "MOST_LETTERS" 8, .str "NOTHING" "-", .str "SPACE" " ", .glo "InvalidCatalogue", .glo "InvalidNumber", .glo "InvalidSplits", .glo "InvalidStep", .glo "InvalidStock", .glo "InvalidText", .glo "StoreError", .glo "TooManySteps"]
def htf : List He.Defn := []
abbrev hR : PySem.W.OpenRow := PySem.W.OpenLaw.row PySem.Challenge.rw_splitstock_k42_invalid_number_texts
def hEx (K : PySem.W.Frag) : Bool := sbB K (He.ga K "StoreError") && (xcB K (He.ga K "InvalidText") && (kiAll K ["InvalidCatalogue", "InvalidStock", "InvalidSplits", "InvalidStep", "InvalidNumber", "TooManySteps", "InvalidText"] "StoreError"))
abbrev hHk : PySem.W.Hook := hookC 4 hfa hfn htf hEx
def hOb (s : PySem.W.SharedT) : He.AlX := obsC 4 hfa hfn htf hEx (HandSHeadRun.getT s)
theorem hOb_eq (s : PySem.W.SharedT) : hOb s = hHk.obs s.abs := obsC_eq (HandSHeadRun.getT_eq s)
def hLoose : List Str := ("StoreError" : Str) :: ("InvalidCatalogue" : Str) :: ("InvalidStock" : Str) :: ("InvalidSplits" : Str) :: ("InvalidStep" : Str) :: ("InvalidNumber" : Str) :: ("TooManySteps" : Str) :: ("InvalidText" : Str) :: ("LETTERS" : Str) :: ("MOST_LETTERS" : Str) :: ("is_name" : Str) :: ("SPACE" : Str) :: ("COLON" : Str) :: ("NOTHING" : Str) :: ("DIGITS" : Str) :: ("MOST_DIGITS" : Str) :: ("read_positive" : Str) :: ("read_number_of" : Str) :: ("read_numbers" : Str) :: ("_law_source" : Str) :: ("_law_draw" : Str) :: ("_law_same" : Str) :: ("_law_shuffled" : Str) :: ("_law_error" : Str) :: ("_law_names" : Str) :: ("_law_entries" : Str) :: ("_law_largest_first" : Str) :: ("_law_long" : Str) :: ("_law_goods" : Str) :: ("_law_goods_text" : Str) :: ("_law_sign" : Str) :: ("_law_parts_changed" : Str) :: ("_law_changed" : Str) :: ("_law_odd_texts" : Str) :: ("_law_is_name" : Str) :: ("_law_bad_entry" : Str) :: ("_law_positive" : Str) :: ("_law_goods_of" : Str) :: []
theorem hRun (w : World) : HandSHeadRun.RunEq hR (PySem.W.view hR.prog [42]) hHk hOb 4000 hLoose w := by
  intro os
  kernel_rfl
theorem hFacts {w : World} {K : PySem.W.Frag} {h : Heap} {mg : Str → Option Value} {fa : Addr} (X : K.In h) (G : h.Ns mainGlobals mg) (hfa0 : mg ("law" : Str) = some (.ref fa)) (c : He.SaysX hfa hfn [] htf hEx w h K) : LawG PySem.Challenge.rw_splitstock_k42_invalid_number_texts w K 6 63 "script" mg fa h := by
  have d := c.t.d
  obtain ⟨fd_InvalidText___init__, F_InvalidText___init__⟩ := d.def_ 0 (d := ⟨("InvalidText", some "__init__"), "__init__", "InvalidText.__init__", defArgs (inClass (topS 8) 0), defBody (inClass (topS 8) 0), defScope (inClass (topS 8) 0), [], []⟩) rfl
  obtain ⟨fd_is_name, F_is_name⟩ := d.def_ 1 (d := dfD 12 "is_name") rfl
  have g_is_name := He.glo_ok X G (d.fact 0 (f := .glo "is_name") rfl)
  obtain ⟨fd_read_positive, F_read_positive⟩ := d.def_ 2 (d := dfD 19 "read_positive") rfl
  have g_read_positive := He.glo_ok X G (d.fact 1 (f := .glo "read_positive") rfl)
  obtain ⟨fd_read_number_of, F_read_number_of⟩ := d.def_ 3 (d := dfD 20 "read_number_of") rfl
  have g_read_number_of := He.glo_ok X G (d.fact 2 (f := .glo "read_number_of") rfl)
  obtain ⟨fd_read_numbers, F_read_numbers⟩ := d.def_ 4 (d := dfD 21 "read_numbers") rfl
  have g_read_numbers := He.glo_ok X G (d.fact 3 (f := .glo "read_numbers") rfl)
  obtain ⟨fd_law_source, F_law_source⟩ := d.def_ 5 (d := dfD 23 "_law_source") rfl
  have g_law_source := He.glo_ok X G (d.fact 4 (f := .glo "_law_source") rfl)
  obtain ⟨fd_law_draw, F_law_draw⟩ := d.def_ 6 (d := dfD 24 "_law_draw") rfl
  have g_law_draw := He.glo_ok X G (d.fact 5 (f := .glo "_law_draw") rfl)
  obtain ⟨fd_law_same, F_law_same⟩ := d.def_ 7 (d := dfD 25 "_law_same") rfl
  have g_law_same := He.glo_ok X G (d.fact 6 (f := .glo "_law_same") rfl)
  obtain ⟨fd_law_shuffled, F_law_shuffled⟩ := d.def_ 8 (d := dfD 26 "_law_shuffled") rfl
  have g_law_shuffled := He.glo_ok X G (d.fact 7 (f := .glo "_law_shuffled") rfl)
  obtain ⟨fd_law_error, F_law_error⟩ := d.def_ 9 (d := dfD 27 "_law_error") rfl
  have g_law_error := He.glo_ok X G (d.fact 8 (f := .glo "_law_error") rfl)
  obtain ⟨fd_law_names, F_law_names⟩ := d.def_ 10 (d := dfD 28 "_law_names") rfl
  have g_law_names := He.glo_ok X G (d.fact 9 (f := .glo "_law_names") rfl)
  obtain ⟨fd_law_long, F_law_long⟩ := d.def_ 11 (d := dfD 31 "_law_long") rfl
  have g_law_long := He.glo_ok X G (d.fact 10 (f := .glo "_law_long") rfl)
  obtain ⟨fd_law_goods, F_law_goods⟩ := d.def_ 12 (d := dfD 32 "_law_goods") rfl
  have g_law_goods := He.glo_ok X G (d.fact 11 (f := .glo "_law_goods") rfl)
  obtain ⟨fd_law_goods_text, F_law_goods_text⟩ := d.def_ 13 (d := dfD 33 "_law_goods_text") rfl
  have g_law_goods_text := He.glo_ok X G (d.fact 12 (f := .glo "_law_goods_text") rfl)
  obtain ⟨fd_law_sign, F_law_sign⟩ := d.def_ 14 (d := dfD 34 "_law_sign") rfl
  have g_law_sign := He.glo_ok X G (d.fact 13 (f := .glo "_law_sign") rfl)
  obtain ⟨fd_law_parts_changed, F_law_parts_changed⟩ := d.def_ 15 (d := dfD 35 "_law_parts_changed") rfl
  have g_law_parts_changed := He.glo_ok X G (d.fact 14 (f := .glo "_law_parts_changed") rfl)
  obtain ⟨fd_law_changed, F_law_changed⟩ := d.def_ 16 (d := dfD 36 "_law_changed") rfl
  have g_law_changed := He.glo_ok X G (d.fact 15 (f := .glo "_law_changed") rfl)
  obtain ⟨fd_law_odd_texts, F_law_odd_texts⟩ := d.def_ 17 (d := dfD 37 "_law_odd_texts") rfl
  have g_law_odd_texts := He.glo_ok X G (d.fact 16 (f := .glo "_law_odd_texts") rfl)
  obtain ⟨fd_law_is_name, F_law_is_name⟩ := d.def_ 18 (d := dfD 38 "_law_is_name") rfl
  have g_law_is_name := He.glo_ok X G (d.fact 17 (f := .glo "_law_is_name") rfl)
  obtain ⟨fd_law_positive, F_law_positive⟩ := d.def_ 19 (d := dfD 40 "_law_positive") rfl
  have g_law_positive := He.glo_ok X G (d.fact 18 (f := .glo "_law_positive") rfl)
  obtain ⟨fd_law_goods_of, F_law_goods_of⟩ := d.def_ 20 (d := dfD 41 "_law_goods_of") rfl
  have g_law_goods_of := He.glo_ok X G (d.fact 19 (f := .glo "_law_goods_of") rfl)
  obtain ⟨fd_law, F_law⟩ := d.def_ 21 (d := dfD 42 "law") rfl
  have g_law := He.glo_ok X G (d.fact 20 (f := .glo "law") rfl)
  have g_InvalidCatalogue := He.glo_ok X G (d.fact 51 (f := .glo "InvalidCatalogue") rfl)
  have g_InvalidNumber := He.glo_ok X G (d.fact 52 (f := .glo "InvalidNumber") rfl)
  have g_InvalidSplits := He.glo_ok X G (d.fact 53 (f := .glo "InvalidSplits") rfl)
  have g_InvalidStep := He.glo_ok X G (d.fact 54 (f := .glo "InvalidStep") rfl)
  have g_InvalidStock := He.glo_ok X G (d.fact 55 (f := .glo "InvalidStock") rfl)
  have g_InvalidText := He.glo_ok X G (d.fact 56 (f := .glo "InvalidText") rfl)
  have g_StoreError := He.glo_ok X G (d.fact 57 (f := .glo "StoreError") rfl)
  have g_TooManySteps := He.glo_ok X G (d.fact 58 (f := .glo "TooManySteps") rfl)
  have xx : hEx K = true := c.more
  unfold hEx at xx
  simp only [Bool.and_eq_true, decide_eq_true_eq] at xx
  obtain ⟨x0, x1, x2⟩ := xx
  have e := hfa0.symm.trans g_law
  cases e
  have T : Tx K mg := { n_ValueError := He.free_ok X G (d.fact 21 (f := .free "ValueError") rfl), n_abs := He.free_ok X G (d.fact 22 (f := .free "abs") rfl), n_all := He.free_ok X G (d.fact 23 (f := .free "all") rfl), n_any := He.free_ok X G (d.fact 24 (f := .free "any") rfl), n_bool := He.free_ok X G (d.fact 25 (f := .free "bool") rfl), n_dict := He.free_ok X G (d.fact 26 (f := .free "dict") rfl), n_enumerate := He.free_ok X G (d.fact 27 (f := .free "enumerate") rfl), n_int := He.free_ok X G (d.fact 28 (f := .free "int") rfl), n_isinstance := He.free_ok X G (d.fact 29 (f := .free "isinstance") rfl), n_len := He.free_ok X G (d.fact 30 (f := .free "len") rfl), n_list := He.free_ok X G (d.fact 31 (f := .free "list") rfl), n_max := He.free_ok X G (d.fact 32 (f := .free "max") rfl), n_min := He.free_ok X G (d.fact 33 (f := .free "min") rfl), n_range := He.free_ok X G (d.fact 34 (f := .free "range") rfl), n_repr := He.free_ok X G (d.fact 35 (f := .free "repr") rfl), n_reversed := He.free_ok X G (d.fact 36 (f := .free "reversed") rfl), n_set := He.free_ok X G (d.fact 37 (f := .free "set") rfl), n_sorted := He.free_ok X G (d.fact 38 (f := .free "sorted") rfl), n_str := He.free_ok X G (d.fact 39 (f := .free "str") rfl), n_sum := He.free_ok X G (d.fact 40 (f := .free "sum") rfl), n_tuple := He.free_ok X G (d.fact 41 (f := .free "tuple") rfl), n_type := He.free_ok X G (d.fact 42 (f := .free "type") rfl), n_zip := He.free_ok X G (d.fact 43 (f := .free "zip") rfl), c_COLON := He.str_ok X G (d.fact 44 (f := .str "COLON" ":") rfl), c_DIGITS := He.str_ok X G (d.fact 45 (f := .str "DIGITS" "0123456789") rfl), c_LETTERS := He.str_ok X G (d.fact 46 (f := .str "LETTERS" "abcdefghijklmnopqrstuvwxyz") rfl), c_MOST_DIGITS := He.int_ok X G (d.fact 47 (f := .int "MOST_DIGITS" 60) rfl), c_MOST_LETTERS := He.int_ok X G (d.fact 48 (f := .int "MOST_LETTERS" 8) rfl), c_NOTHING := He.str_ok X G (d.fact 49 (f := .str "NOTHING" "-") rfl), c_SPACE := He.str_ok X G (d.fact 50 (f := .str "SPACE" " ") rfl), sb := sbB_ok x0, xb_InvalidText := xcB_ok x1, ke := x2, g_InvalidCatalogue := g_InvalidCatalogue, g_InvalidNumber := g_InvalidNumber, g_InvalidSplits := g_InvalidSplits, g_InvalidStep := g_InvalidStep, g_InvalidStock := g_InvalidStock, g_InvalidText := g_InvalidText, g_StoreError := g_StoreError, g_TooManySteps := g_TooManySteps }
  let Tb : List (Addr × Str) := []
  refine ⟨fd_law, htf.map (He.cT K), sp_law Tb K, fun p hp => ?_, fun p hp => ?_, fun p hp => ?_, fun s v => FunD.bindsA (ps := ["script"]) F_law (fun _ _ _ _ _ _ us hl => match us, hl with | [_], _ => rfl) s [v] rfl, fun H a ns hn _ hH _ hS => ⟨a, ns, rfl, hS, hn, tabs_start fun p hp => ?_, fun _ => rfl⟩, fun base KB GB hTB => ?_⟩
  · obtain ⟨q, hq, rfl⟩ := List.mem_map.mp hp
    exact c.empty q hq
  · obtain ⟨q, hq, rfl⟩ := List.mem_map.mp hp
    exact c.out q hq
  · obtain ⟨q, hq, rfl⟩ := List.mem_map.mp hp
    exact PySem.W.codeHd_of_K X (c.hd q hq)
  · exact nomatch (show p ∈ ([] : List (Addr × Str)) from hp)
  · have O_InvalidText___init__ : FnOk (PySem.Challenge.rw_splitstock_k42_invalid_number_texts).prog w K mg base CX0 1 (He.ma K (He.ga K "InvalidText") "__init__") fd_InvalidText___init__ ["self", "value"] (xinit (He.ga K "InvalidText")) := ok_InvalidText___init__ (Tb := Tb) F_InvalidText___init__ T
    have XC_InvalidText : Xc (PySem.Challenge.rw_splitstock_k42_invalid_number_texts).prog w K mg base "InvalidText" := ⟨T.xb_InvalidText, g_InvalidText, _, _, O_InvalidText___init__, FunD.bindsN F_InvalidText___init__ (fun _ _ _ _ _ _ us hl => match us, hl with | [_, _], _ => rfl), kbn_of (g := fun us ws => [us.getD 0 .none, ws.getD 0 .none]) F_InvalidText___init__ (fun _ _ _ _ _ _ us ws h1 h2 => match us, h1, ws, h2 with | [_], _, [_], _ => rfl) (fun r1 r2 => .cons (Vals.getD r1 0) (.cons (Vals.getD r2 0) .nil))⟩
    have O_is_name : FnOk (PySem.Challenge.rw_splitstock_k42_invalid_number_texts).prog w K mg base CX0 1 (He.fAd K ("is_name", none)) fd_is_name ["text"] (sp_is_name Tb K) := ok_is_name F_is_name T
    have G_is_name : Fn (PySem.Challenge.rw_splitstock_k42_invalid_number_texts).prog w K mg base "is_name" 1 ["text"] (sp_is_name Tb K) := ⟨_, _, O_is_name, g_is_name, F_is_name.kp, F_is_name.bindsN (fun _ _ _ _ _ _ us hl => match us, hl with | [_], _ => rfl)⟩
    have O_read_positive : FnOk (PySem.Challenge.rw_splitstock_k42_invalid_number_texts).prog w K mg base CX0 1 (He.fAd K ("read_positive", none)) fd_read_positive ["word"] (sp_read_positive Tb K) := ok_read_positive F_read_positive T
    have G_read_positive : Fn (PySem.Challenge.rw_splitstock_k42_invalid_number_texts).prog w K mg base "read_positive" 1 ["word"] (sp_read_positive Tb K) := ⟨_, _, O_read_positive, g_read_positive, F_read_positive.kp, F_read_positive.bindsN (fun _ _ _ _ _ _ us hl => match us, hl with | [_], _ => rfl)⟩
    have O_read_number_of : FnOk (PySem.Challenge.rw_splitstock_k42_invalid_number_texts).prog w K mg base CX0 2 (He.fAd K ("read_number_of", none)) fd_read_number_of ["word"] (sp_read_number_of Tb K) := ok_read_number_of F_read_number_of T G_is_name G_read_positive
    have G_read_number_of : Fn (PySem.Challenge.rw_splitstock_k42_invalid_number_texts).prog w K mg base "read_number_of" 2 ["word"] (sp_read_number_of Tb K) := ⟨_, _, O_read_number_of, g_read_number_of, F_read_number_of.kp, F_read_number_of.bindsN (fun _ _ _ _ _ _ us hl => match us, hl with | [_], _ => rfl)⟩
    have O_read_numbers : FnOk (PySem.Challenge.rw_splitstock_k42_invalid_number_texts).prog w K mg base (L2N.CX (PySem.Challenge.rw_splitstock_k42_invalid_number_texts).prog w) 3 (He.fAd K ("read_numbers", none)) fd_read_numbers ["text"] (sp_read_numbers Tb K) := ok_read_numbers F_read_numbers T XC_InvalidText G_read_number_of
    have GX_read_numbers : FnX (PySem.Challenge.rw_splitstock_k42_invalid_number_texts).prog w K mg base "read_numbers" 3 ["text"] (sp_read_numbers Tb K) := ⟨_, _, O_read_numbers, g_read_numbers, F_read_numbers.kp, F_read_numbers.bindsN (fun _ _ _ _ _ _ us hl => match us, hl with | [_], _ => rfl)⟩
    have O_law_source : FnOk (PySem.Challenge.rw_splitstock_k42_invalid_number_texts).prog w K mg base CX0 1 (He.fAd K ("_law_source", none)) fd_law_source ["script"] (sp_law_source Tb K) := ok_law_source F_law_source T
    have G_law_source : Fn (PySem.Challenge.rw_splitstock_k42_invalid_number_texts).prog w K mg base "_law_source" 1 ["script"] (sp_law_source Tb K) := ⟨_, _, O_law_source, g_law_source, F_law_source.kp, F_law_source.bindsN (fun _ _ _ _ _ _ us hl => match us, hl with | [_], _ => rfl)⟩
    have O_law_draw : FnOk (PySem.Challenge.rw_splitstock_k42_invalid_number_texts).prog w K mg base CX0 1 (He.fAd K ("_law_draw", none)) fd_law_draw ["source", "many"] (sp_law_draw Tb K) := ok_law_draw F_law_draw T
    have G_law_draw : Fn (PySem.Challenge.rw_splitstock_k42_invalid_number_texts).prog w K mg base "_law_draw" 1 ["source", "many"] (sp_law_draw Tb K) := ⟨_, _, O_law_draw, g_law_draw, F_law_draw.kp, F_law_draw.bindsN (fun _ _ _ _ _ _ us hl => match us, hl with | [_, _], _ => rfl)⟩
    have O_law_same : FnOk (PySem.Challenge.rw_splitstock_k42_invalid_number_texts).prog w K mg base CX0 5 (He.fAd K ("_law_same", none)) fd_law_same ["found", "wanted"] (sp_law_same Tb K) := ok_same F_law_same T g_law_same F_law_same.kp (F_law_same.bindsN (fun _ _ _ _ _ _ us hl => match us, hl with | [_, _], _ => rfl)) 5
    have G_law_same : Fn (PySem.Challenge.rw_splitstock_k42_invalid_number_texts).prog w K mg base "_law_same" 5 ["found", "wanted"] (sp_law_same Tb K) := ⟨_, _, O_law_same, g_law_same, F_law_same.kp, F_law_same.bindsN (fun _ _ _ _ _ _ us hl => match us, hl with | [_, _], _ => rfl)⟩
    have O_law_shuffled : FnOk (PySem.Challenge.rw_splitstock_k42_invalid_number_texts).prog w K mg base CX0 2 (He.fAd K ("_law_shuffled", none)) fd_law_shuffled ["source", "items"] (sp_law_shuffled Tb K) := ok_law_shuffled F_law_shuffled T G_law_draw
    have G_law_shuffled : Fn (PySem.Challenge.rw_splitstock_k42_invalid_number_texts).prog w K mg base "_law_shuffled" 2 ["source", "items"] (sp_law_shuffled Tb K) := ⟨_, _, O_law_shuffled, g_law_shuffled, F_law_shuffled.kp, F_law_shuffled.bindsN (fun _ _ _ _ _ _ us hl => match us, hl with | [_, _], _ => rfl)⟩
    have OT_law_error : FnT (PySem.Challenge.rw_splitstock_k42_invalid_number_texts).prog w K mg base CX0 1 (He.fAd K ("_law_error", none)) fd_law_error ["e"] (hotSp (sp_law_error Tb K)) := okT_law_error F_law_error T
    have GT_law_error : FnTx (PySem.Challenge.rw_splitstock_k42_invalid_number_texts).prog w K mg base "_law_error" 1 ["e"] (hotSp (sp_law_error Tb K)) := ⟨_, _, OT_law_error, g_law_error, F_law_error.kp, F_law_error.bindsN (fun _ _ _ _ _ _ us hl => match us, hl with | [_], _ => rfl)⟩
    have O_law_names : FnOk (PySem.Challenge.rw_splitstock_k42_invalid_number_texts).prog w K mg base CX0 3 (He.fAd K ("_law_names", none)) fd_law_names ["source"] (sp_law_names Tb K) := ok_law_names F_law_names T G_law_shuffled
    have G_law_names : Fn (PySem.Challenge.rw_splitstock_k42_invalid_number_texts).prog w K mg base "_law_names" 3 ["source"] (sp_law_names Tb K) := ⟨_, _, O_law_names, g_law_names, F_law_names.kp, F_law_names.bindsN (fun _ _ _ _ _ _ us hl => match us, hl with | [_], _ => rfl)⟩
    have O_law_long : FnOk (PySem.Challenge.rw_splitstock_k42_invalid_number_texts).prog w K mg base CX0 2 (He.fAd K ("_law_long", none)) fd_law_long ["source"] (sp_law_long Tb K) := ok_law_long F_law_long T G_law_draw
    have G_law_long : Fn (PySem.Challenge.rw_splitstock_k42_invalid_number_texts).prog w K mg base "_law_long" 2 ["source"] (sp_law_long Tb K) := ⟨_, _, O_law_long, g_law_long, F_law_long.kp, F_law_long.bindsN (fun _ _ _ _ _ _ us hl => match us, hl with | [_], _ => rfl)⟩
    have O_law_goods : FnOk (PySem.Challenge.rw_splitstock_k42_invalid_number_texts).prog w K mg base CX0 4 (He.fAd K ("_law_goods", none)) fd_law_goods ["source", "most"] (sp_law_goods Tb K) := ok_law_goods F_law_goods T G_law_draw G_law_long G_law_names
    have G_law_goods : Fn (PySem.Challenge.rw_splitstock_k42_invalid_number_texts).prog w K mg base "_law_goods" 4 ["source", "most"] (sp_law_goods Tb K) := ⟨_, _, O_law_goods, g_law_goods, F_law_goods.kp, F_law_goods.bindsN (fun _ _ _ _ _ _ us hl => match us, hl with | [_, _], _ => rfl)⟩
    have O_law_goods_text : FnOk (PySem.Challenge.rw_splitstock_k42_invalid_number_texts).prog w K mg base CX0 1 (He.fAd K ("_law_goods_text", none)) fd_law_goods_text ["goods"] (sp_law_goods_text Tb K) := ok_law_goods_text F_law_goods_text T
    have G_law_goods_text : Fn (PySem.Challenge.rw_splitstock_k42_invalid_number_texts).prog w K mg base "_law_goods_text" 1 ["goods"] (sp_law_goods_text Tb K) := ⟨_, _, O_law_goods_text, g_law_goods_text, F_law_goods_text.kp, F_law_goods_text.bindsN (fun _ _ _ _ _ _ us hl => match us, hl with | [_], _ => rfl)⟩
    have O_law_sign : FnOk (PySem.Challenge.rw_splitstock_k42_invalid_number_texts).prog w K mg base CX0 2 (He.fAd K ("_law_sign", none)) fd_law_sign ["source"] (sp_law_sign Tb K) := ok_law_sign F_law_sign T G_law_draw
    have G_law_sign : Fn (PySem.Challenge.rw_splitstock_k42_invalid_number_texts).prog w K mg base "_law_sign" 2 ["source"] (sp_law_sign Tb K) := ⟨_, _, O_law_sign, g_law_sign, F_law_sign.kp, F_law_sign.bindsN (fun _ _ _ _ _ _ us hl => match us, hl with | [_], _ => rfl)⟩
    have O_law_parts_changed : FnOk (PySem.Challenge.rw_splitstock_k42_invalid_number_texts).prog w K mg base CX0 2 (He.fAd K ("_law_parts_changed", none)) fd_law_parts_changed ["source", "text", "odd"] (sp_law_parts_changed Tb K) := ok_law_parts_changed F_law_parts_changed T G_law_draw
    have G_law_parts_changed : Fn (PySem.Challenge.rw_splitstock_k42_invalid_number_texts).prog w K mg base "_law_parts_changed" 2 ["source", "text", "odd"] (sp_law_parts_changed Tb K) := ⟨_, _, O_law_parts_changed, g_law_parts_changed, F_law_parts_changed.kp, F_law_parts_changed.bindsN (fun _ _ _ _ _ _ us hl => match us, hl with | [_, _, _], _ => rfl)⟩
    have O_law_changed : FnOk (PySem.Challenge.rw_splitstock_k42_invalid_number_texts).prog w K mg base CX0 3 (He.fAd K ("_law_changed", none)) fd_law_changed ["source", "text", "odd"] (sp_law_changed Tb K) := ok_law_changed F_law_changed T G_law_draw G_law_parts_changed G_law_sign
    have G_law_changed : Fn (PySem.Challenge.rw_splitstock_k42_invalid_number_texts).prog w K mg base "_law_changed" 3 ["source", "text", "odd"] (sp_law_changed Tb K) := ⟨_, _, O_law_changed, g_law_changed, F_law_changed.kp, F_law_changed.bindsN (fun _ _ _ _ _ _ us hl => match us, hl with | [_, _, _], _ => rfl)⟩
    have O_law_odd_texts : FnOk (PySem.Challenge.rw_splitstock_k42_invalid_number_texts).prog w K mg base CX0 1 (He.fAd K ("_law_odd_texts", none)) fd_law_odd_texts [] (sp_law_odd_texts Tb K) := ok_law_odd_texts F_law_odd_texts T
    have G_law_odd_texts : Fn (PySem.Challenge.rw_splitstock_k42_invalid_number_texts).prog w K mg base "_law_odd_texts" 1 [] (sp_law_odd_texts Tb K) := ⟨_, _, O_law_odd_texts, g_law_odd_texts, F_law_odd_texts.kp, F_law_odd_texts.bindsN (fun _ _ _ _ _ _ us hl => match us, hl with | [], _ => rfl)⟩
    have O_law_is_name : FnOk (PySem.Challenge.rw_splitstock_k42_invalid_number_texts).prog w K mg base CX0 1 (He.fAd K ("_law_is_name", none)) fd_law_is_name ["name"] (sp_law_is_name Tb K) := ok_law_is_name F_law_is_name T
    have G_law_is_name : Fn (PySem.Challenge.rw_splitstock_k42_invalid_number_texts).prog w K mg base "_law_is_name" 1 ["name"] (sp_law_is_name Tb K) := ⟨_, _, O_law_is_name, g_law_is_name, F_law_is_name.kp, F_law_is_name.bindsN (fun _ _ _ _ _ _ us hl => match us, hl with | [_], _ => rfl)⟩
    have O_law_positive : FnOk (PySem.Challenge.rw_splitstock_k42_invalid_number_texts).prog w K mg base CX0 1 (He.fAd K ("_law_positive", none)) fd_law_positive ["word"] (sp_law_positive Tb K) := ok_law_positive F_law_positive T
    have G_law_positive : Fn (PySem.Challenge.rw_splitstock_k42_invalid_number_texts).prog w K mg base "_law_positive" 1 ["word"] (sp_law_positive Tb K) := ⟨_, _, O_law_positive, g_law_positive, F_law_positive.kp, F_law_positive.bindsN (fun _ _ _ _ _ _ us hl => match us, hl with | [_], _ => rfl)⟩
    have O_law_goods_of : FnOk (PySem.Challenge.rw_splitstock_k42_invalid_number_texts).prog w K mg base CX0 2 (He.fAd K ("_law_goods_of", none)) fd_law_goods_of ["text"] (sp_law_goods_of Tb K) := ok_law_goods_of F_law_goods_of T G_law_is_name G_law_positive
    have G_law_goods_of : Fn (PySem.Challenge.rw_splitstock_k42_invalid_number_texts).prog w K mg base "_law_goods_of" 2 ["text"] (sp_law_goods_of Tb K) := ⟨_, _, O_law_goods_of, g_law_goods_of, F_law_goods_of.kp, F_law_goods_of.bindsN (fun _ _ _ _ _ _ us hl => match us, hl with | [_], _ => rfl)⟩
    exact ok_law F_law T G_law_changed G_law_draw GT_law_error G_law_goods G_law_goods_of G_law_goods_text G_law_odd_texts G_law_same G_law_source GX_read_numbers
end Sk
open PySem PySem.W PySem.Calls PyProof.Rows
theorem PySem.Challenge.cw_splitstock_k42_invalid_number_texts_holds : PySem.Challenge.rw_splitstock_k42_invalid_number_texts.Holds := by
  w_on; o_law
  refine HandSHeadRun.head_any (r := OpenLaw.row PySem.Challenge.rw_splitstock_k42_invalid_number_texts) (q := view (OpenLaw.row PySem.Challenge.rw_splitstock_k42_invalid_number_texts).prog [42]) (H := Sk.hHk) (ob := Sk.hOb) (M := 4000) (loose := Sk.hLoose) (d := HandSHeadRun.topDef (OpenLaw.row PySem.Challenge.rw_splitstock_k42_invalid_number_texts).prog 42) (kwd := []) Sk.hOb_eq
    (by kernel_rfl) (fun s => by kernel_rfl) Sk.hRun (by kernel_rfl) (by kernel_rfl) (by kernel_rfl) (by rfl) (by first | assumption | decide +kernel) (by decide +kernel) ⟨rfl, rfl, rfl, rfl, rfl, by decide +kernel⟩ ?hw ?hc
  case hw => w_witness2
  case hc =>
    refine Sk.walk_ofG (l := PySem.Challenge.rw_splitstock_k42_invalid_number_texts) (n := 63) (k := 6) (x := "script") rfl (by decide) (by kernel_rfl) ⟨rfl, by decide, by decide⟩ ?_
    intro w mg fa h Y G hmg0
    obtain ⟨K, KX, c⟩ := Y
    have hmg : mg ("law" : PySem.Str) = some (.ref fa) := by
      have e : (HandSHeadRun.topDef (OpenLaw.row PySem.Challenge.rw_splitstock_k42_invalid_number_texts).prog 42).name = ("law" : PySem.Str) := by kernel_rfl
      rw [← e]
      exact hmg0
    exact ⟨K, KX, Sk.hFacts KX G hmg c⟩
